import PyProof.Rows.All
import Wide.All
import OpenK.AllK
import Wide.FinOn
import HandS.ForMost
import HandS.ForExc
import HandS.EndBits
import HandS.Flow
import HandS.Wide
import HandS.IsInst
import HandS.ExcIs
import HandS.Defaults
import HandS.WideBits
import HandS.TupAny
import KE.DataEq
import HandS.Style
import HandS.TupMul
import HandS.WordsDict
import HandS.TupSets
import HandS.Walk
import HandS.Iter
import HandS.Comp
import HandS.Small
import HandS.Dict
import HandS.HeadHook2
import HandS.Head0
import HandS.Head1
import HandS.Head2
import HandS.HeadEnd
import KE.IntTextLaws
import PyProof.StrLawsTight
import PyProof.Rows.StrFromFirst
import PySem.Challenge.RW_chancery_k04_whole_texts
set_option Elab.async false
set_option linter.all false
set_option maxRecDepth 100000
set_option maxHeartbeats 4000000
/-! PyD0: data D, mutable cells M, how the abstract heap bears them. -/
namespace PD
open PySem PySem.Spec PyProof.Rows L2

/-- immutable data -/
inductive D where
  | non | bl (b : Bool) | int (i : Int) | str (x : Str)
  | tup (xs : List D) | lst (xs : List D)
  | dct (ks : List Key) (vs : List D)
  | obj (C : Nat) (ks : List Str) (vs : List D)
  | exc (C : Nat) (ks : List Str) (vs : List D)
/-- a value: data, or a mutable object by its number -/
inductive W where
  | d (x : D) | c (i : Nat)
/-- what a mutable object holds -/
inductive M where
  | lst (xs : List D) | dct (ks : List Key) (vs : List D) | obj (C : Nat) (ks : List Str) (vs : List D) | dead

/-- what an exception of ours is like, held as a value -/
def exO (cls : Value) (d : Option Addr) (a : Addr) : HO := .ext fun h => ∃ (oe : Obj) (vs : Array Value), h.get? a = some oe ∧ Zc cls d oe ∧ oe.data = .fields vs

section
variable (K : PySem.W.Frag) (cad : Nat → Addr) (H : Hp) (F : List Addr)
/-- a tuple, a list that no one writes -/
def TupF (a : Addr) (xs : List V) : Prop := (a ∉ F ∧ Rd H a (.tup xs)) ∨ (∃ (o : Obj) (its : Array Value) (n : Nat), K.lookup a = some o ∧ o.cls = .type "tuple" ∧ o.data = .seq its n ∧ its.size ≤ sizeLine ∧ Vals xs its.toList)
def LstF (a : Addr) (xs : List V) : Prop := (a ∉ F ∧ Rd H a (.lst xs)) ∨ (∃ (o : Obj) (its : Array Value) (n : Nat), K.lookup a = some o ∧ o.cls = .type "list" ∧ o.dict = none ∧ o.data = .seq its n ∧ its.size ≤ sizeLine ∧ Vals xs its.toList)
mutual
def IsD : D → V → Prop
  | .non, v => v = .non
  | .bl b, v => v = .bl b
  | .int i, v => v = .int i
  | .str x, v => v = .str x
  | .tup ds, v => ∃ a xs, v = .ref a ∧ TupF K H F a xs ∧ IsDs ds xs
  | .lst ds, v => ∃ a xs, v = .ref a ∧ LstF K H F a xs ∧ IsDs ds xs
  | .dct ks ds, v => ∃ a us, v = .ref a ∧ a ∉ F ∧ H a = some (.dK us) ∧ us.map (·.1) = ks ∧ IsDs ds (us.map (·.2))
  | .obj C ks ds, v => ∃ a dx us, v = .ref a ∧ a ∉ F ∧ H a = some (.ins (cad C) dx us) ∧ us.map (·.1) = ks ∧ IsDs ds (us.map (·.2))
  | .exc C ks ds, v => ∃ a d, v = .ref a ∧ a ∉ F ∧ H a = some (exO (.ref (cad C)) d a) ∧
      ((ks = [] ∧ ds = [] ∧ d = none) ∨ (ks ≠ [] ∧ ∃ dx us, d = some dx ∧ dx ∉ F ∧ H dx = some (.xd us) ∧ us.map (·.1) = ks ∧ IsDs ds (us.map (·.2))))
def IsDs : List D → List V → Prop
  | [], xs => xs = []
  | d :: ds, xs => ∃ x r, xs = x :: r ∧ IsD d x ∧ IsDs ds r
end
/-- data where the outermost object may be a mutable one -/
def PkD : D → V → Prop
  | .lst ds, v => ∃ a xs, v = .ref a ∧ SqL K H a xs ∧ IsDs K cad H F ds xs
  | .dct ks ds, v => ∃ a us, v = .ref a ∧ H a = some (.dK us) ∧ us.map (·.1) = ks ∧ IsDs K cad H F ds (us.map (·.2))
  | .obj C ks ds, v => ∃ a dx us, v = .ref a ∧ H a = some (.ins (cad C) dx us) ∧ us.map (·.1) = ks ∧ IsDs K cad H F ds (us.map (·.2))
  | d, v => IsD K cad H F d v
/-- a mutable object at a -/
def CellM (a : Addr) : M → Prop
  | .lst ds => ∃ xs, H a = some (.lst xs) ∧ IsDs K cad H F ds xs
  | .dct ks ds => ∃ us, H a = some (.dK us) ∧ us.map (·.1) = ks ∧ IsDs K cad H F ds (us.map (·.2))
  | .obj C ks ds => ∃ dx us, H a = some (.ins (cad C) dx us) ∧ us.map (·.1) = ks ∧ IsDs K cad H F ds (us.map (·.2))
  | .dead => False
end

section
variable {K : PySem.W.Frag} {cad : Nat → Addr} {H H' : Hp} {F F' : List Addr}
theorem TupF.sq {a : Addr} {xs : List V} (h : TupF K H F a xs) : SqT K H a xs := h.elim (fun h => .inl h.2) .inr
theorem LstF.sq {a : Addr} {xs : List V} (h : LstF K H F a xs) : SqL K H a xs := h.elim (fun h => .inl h.2) .inr
/-- what changes of the heap leave the data as it is -/
structure Kp (H : Hp) (F : List Addr) (H' : Hp) (F' : List Addr) : Prop where
  keep : ∀ a o, H a = some o → a ∉ F → H' a = some o
  new : ∀ a ∈ F', a ∈ F ∨ H a = none
theorem Kp.av (k : Kp H F H' F') {a : Addr} {o : HO} (e : H a = some o) (h : a ∉ F) : a ∉ F' := fun hm => by
  rcases k.new a hm with z | z
  · exact h z
  · rw [e] at z; cases z
theorem Kp.refl : Kp H F H F := ⟨fun _ _ e _ => e, fun _ h => .inl h⟩
theorem Kp.same (s : Same H H') : Kp H F H' F := ⟨fun a o e _ => s a o e, fun _ h => .inl h⟩
theorem Kp.rd (k : Kp H F H' F') {a : Addr} {u : HO} (h : a ∉ F) (r : Rd H a u) : a ∉ F' ∧ Rd H' a u := by
  rcases r with r | ⟨o, r⟩
  · exact ⟨k.av r h, .inl (k.keep _ _ r h)⟩
  · exact ⟨k.av r h, .inr ⟨o, k.keep _ _ r h⟩⟩
mutual
theorem IsD.mono (k : Kp H F H' F') : ∀ {d : D} {v : V}, IsD K cad H F d v → IsD K cad H' F' d v
  | .non, v, h => h
  | .bl b, v, h => h
  | .int i, v, h => h
  | .str x, v, h => h
  | .tup ds, v, h => by
    obtain ⟨a, xs, rfl, ht, hs⟩ := h
    exact ⟨a, xs, rfl, ht.elim (fun ⟨h1, h2⟩ => .inl (k.rd h1 h2)) .inr, IsDs.mono k hs⟩
  | .lst ds, v, h => by
    obtain ⟨a, xs, rfl, ht, hs⟩ := h
    exact ⟨a, xs, rfl, ht.elim (fun ⟨h1, h2⟩ => .inl (k.rd h1 h2)) .inr, IsDs.mono k hs⟩
  | .dct ks ds, v, h => by
    obtain ⟨a, us, rfl, h1, h2, h3, hs⟩ := h
    exact ⟨a, us, rfl, k.av h2 h1, k.keep _ _ h2 h1, h3, IsDs.mono k hs⟩
  | .obj C ks ds, v, h => by
    obtain ⟨a, dx, us, rfl, h1, h2, h3, hs⟩ := h
    exact ⟨a, dx, us, rfl, k.av h2 h1, k.keep _ _ h2 h1, h3, IsDs.mono k hs⟩
  | .exc C ks ds, v, h => by
    obtain ⟨a, d, rfl, h1, h2, h3⟩ := h
    refine ⟨a, d, rfl, k.av h2 h1, k.keep _ _ h2 h1, ?_⟩
    rcases h3 with h3 | ⟨h0, dx, us, e1, e2, e3, e4, hs⟩
    · exact .inl h3
    · exact .inr ⟨h0, dx, us, e1, k.av e3 e2, k.keep _ _ e3 e2, e4, IsDs.mono k hs⟩
theorem IsDs.mono (k : Kp H F H' F') : ∀ {ds : List D} {vs : List V}, IsDs K cad H F ds vs → IsDs K cad H' F' ds vs
  | [], _, h => h
  | d :: ds, _, h => by
    obtain ⟨x, r, rfl, h1, h2⟩ := h
    exact ⟨x, r, rfl, IsD.mono k h1, IsDs.mono k h2⟩
end
theorem IsD.pk : ∀ {d : D} {v : V}, IsD K cad H F d v → PkD K cad H F d v
  | .non, v, h => h
  | .bl b, v, h => h
  | .int i, v, h => h
  | .str x, v, h => h
  | .exc C ks ds, v, h => h
  | .tup ds, v, h => h
  | .lst ds, v, h => by
    obtain ⟨a, xs, rfl, ht, hs⟩ := h
    exact ⟨a, xs, rfl, ht.sq, hs⟩
  | .dct ks ds, v, h => by
    obtain ⟨a, us, rfl, h1, h2, h3, hs⟩ := h
    exact ⟨a, us, rfl, h2, h3, hs⟩
  | .obj C ks ds, v, h => by
    obtain ⟨a, dx, us, rfl, h1, h2, h3, hs⟩ := h
    exact ⟨a, dx, us, rfl, h2, h3, hs⟩
theorem IsDs.length : ∀ {ds : List D} {vs : List V}, IsDs K cad H F ds vs → ds.length = vs.length
  | [], _, h => by cases (show _ = [] from h); rfl
  | d :: ds, _, h => by
    obtain ⟨x, r, rfl, h1, h2⟩ := h
    show ds.length + 1 = r.length + 1
    rw [IsDs.length h2]
theorem IsDs.get : ∀ {ds : List D} {vs : List V} {i : Nat} {d : D}, IsDs K cad H F ds vs → ds[i]? = some d → ∃ v, vs[i]? = some v ∧ IsD K cad H F d v
  | [], _, _, _, _, e => by simp at e
  | d :: ds, _, 0, _, h, e => by
    obtain ⟨x, r, rfl, h1, h2⟩ := h
    simp at e; subst e
    exact ⟨x, rfl, h1⟩
  | d :: ds, _, i + 1, d', h, e => by
    obtain ⟨x, r, rfl, h1, h2⟩ := h
    obtain ⟨v, q1, q2⟩ := IsDs.get (i := i) h2 (by simpa using e)
    exact ⟨v, by simpa using q1, q2⟩
theorem IsDs.getV : ∀ {ds : List D} {vs : List V} {i : Nat} {v : V}, IsDs K cad H F ds vs → vs[i]? = some v → ∃ d, ds[i]? = some d ∧ IsD K cad H F d v
  | [], _, _, _, h, e => by cases (show _ = [] from h); simp at e
  | d :: ds, _, 0, _, h, e => by
    obtain ⟨x, r, rfl, h1, h2⟩ := h
    simp at e; subst e
    exact ⟨d, rfl, h1⟩
  | d :: ds, _, i + 1, _, h, e => by
    obtain ⟨x, r, rfl, h1, h2⟩ := h
    obtain ⟨v, q1, q2⟩ := IsDs.getV (i := i) h2 (by simpa using e)
    exact ⟨v, by simpa using q1, q2⟩
theorem IsDs.app : ∀ {ds es : List D} {vs us : List V}, IsDs K cad H F ds vs → IsDs K cad H F es us → IsDs K cad H F (ds ++ es) (vs ++ us)
  | [], _, _, _, h, h' => by cases (show _ = [] from h); exact h'
  | d :: ds, _, _, _, h, h' => by
    obtain ⟨x, r, rfl, h1, h2⟩ := h
    exact ⟨x, _, rfl, h1, IsDs.app h2 h'⟩
theorem IsDs.one {d : D} {v : V} (h : IsD K cad H F d v) : IsDs K cad H F [d] [v] := ⟨v, [], rfl, h, rfl⟩
theorem IsDs.set : ∀ {ds : List D} {vs : List V} {d : D} {v : V} (i : Nat), IsDs K cad H F ds vs → IsD K cad H F d v → IsDs K cad H F (ds.set i d) (vs.set i v)
  | [], _, _, _, _, h, _ => by cases (show _ = [] from h); exact rfl
  | d :: ds, _, _, _, 0, h, h' => by
    obtain ⟨x, r, rfl, h1, h2⟩ := h
    exact ⟨_, _, rfl, h', h2⟩
  | d :: ds, _, _, _, i + 1, h, h' => by
    obtain ⟨x, r, rfl, h1, h2⟩ := h
    exact ⟨_, _, rfl, h1, IsDs.set i h2 h'⟩
theorem IsDs.drop : ∀ {ds : List D} {vs : List V} (n : Nat), IsDs K cad H F ds vs → IsDs K cad H F (ds.drop n) (vs.drop n)
  | _, _, 0, h => h
  | [], _, n + 1, h => by cases (show _ = [] from h); exact rfl
  | d :: ds, _, n + 1, h => by
    obtain ⟨x, r, rfl, h1, h2⟩ := h
    exact IsDs.drop n h2
theorem IsDs.take : ∀ {ds : List D} {vs : List V} (n : Nat), IsDs K cad H F ds vs → IsDs K cad H F (ds.take n) (vs.take n)
  | _, _, 0, _ => rfl
  | [], _, n + 1, h => by cases (show _ = [] from h); exact rfl
  | d :: ds, _, n + 1, h => by
    obtain ⟨x, r, rfl, h1, h2⟩ := h
    exact ⟨x, _, rfl, h1, IsDs.take n h2⟩
theorem IsDs.dropLast : ∀ {ds : List D} {vs : List V}, IsDs K cad H F ds vs → IsDs K cad H F ds.dropLast vs.dropLast := fun {ds vs} h => by
  rw [List.dropLast_eq_take, List.dropLast_eq_take, h.length]
  exact h.take _
theorem IsDs.eraseIdx : ∀ {ds : List D} {vs : List V} (i : Nat), IsDs K cad H F ds vs → IsDs K cad H F (ds.eraseIdx i) (vs.eraseIdx i)
  | [], _, _, h => by cases (show _ = [] from h); exact rfl
  | d :: ds, _, 0, h => by
    obtain ⟨x, r, rfl, h1, h2⟩ := h
    exact h2
  | d :: ds, _, i + 1, h => by
    obtain ⟨x, r, rfl, h1, h2⟩ := h
    exact ⟨x, _, rfl, h1, IsDs.eraseIdx i h2⟩
theorem IsDs.rev : ∀ {ds : List D} {vs : List V}, IsDs K cad H F ds vs → IsDs K cad H F ds.reverse vs.reverse
  | [], _, h => by cases (show _ = [] from h); exact rfl
  | d :: ds, _, h => by
    obtain ⟨x, r, rfl, h1, h2⟩ := h
    rw [List.reverse_cons, List.reverse_cons]
    exact IsDs.app (IsDs.rev h2) (IsDs.one h1)
theorem IsDs.rep {ds : List D} {vs : List V} (h : IsDs K cad H F ds vs) : ∀ n, IsDs K cad H F (List.replicate n ds).flatten (List.replicate n vs).flatten
  | 0 => rfl
  | n + 1 => by
    rw [List.replicate_succ, List.replicate_succ, List.flatten_cons, List.flatten_cons]
    exact IsDs.app h (IsDs.rep h n)
theorem PkD.mono (k : Kp H F H' F') (s : Same H H') : ∀ {d : D} {v : V}, PkD K cad H F d v → PkD K cad H' F' d v
  | .non, v, h => h
  | .bl b, v, h => h
  | .int i, v, h => h
  | .str x, v, h => h
  | .exc C ks ds, v, h => IsD.mono k (d := .exc C ks ds) h
  | .tup ds, v, h => IsD.mono k (d := .tup ds) h
  | .lst ds, v, h => by
    obtain ⟨a, xs, rfl, ht, hs⟩ := h
    exact ⟨a, xs, rfl, s.seq ht, IsDs.mono k hs⟩
  | .dct ks ds, v, h => by
    obtain ⟨a, us, rfl, h2, h3, hs⟩ := h
    exact ⟨a, us, rfl, s _ _ h2, h3, IsDs.mono k hs⟩
  | .obj C ks ds, v, h => by
    obtain ⟨a, dx, us, rfl, h2, h3, hs⟩ := h
    exact ⟨a, dx, us, rfl, s _ _ h2, h3, IsDs.mono k hs⟩
end

/-! ### the mutable objects' table -/
abbrev AS := List (Option Addr)
def live (as : AS) : List Addr := as.filterMap id
theorem mem_live {as : AS} {a : Addr} : a ∈ live as ↔ ∃ i : Nat, as[i]? = some (some a) := by
  unfold live
  rw [List.mem_filterMap]
  constructor
  · rintro ⟨o, ho, e⟩
    simp only [id] at e
    subst e
    obtain ⟨i, hi⟩ := List.getElem?_of_mem ho
    exact ⟨i, hi⟩
  · rintro ⟨i, e⟩
    exact ⟨some a, List.mem_of_getElem? e, rfl⟩
section
variable (K : PySem.W.Frag) (cad : Nat → Addr) (as : AS) (R : List Addr) (H : Hp)
/-- what data may not touch -/
abbrev Av : List Addr := live as ++ R
structure Cells (cs : List M) : Prop where
  len : as.length = cs.length
  inj : ∀ (i j : Nat) a, as[i]? = some (some a) → as[j]? = some (some a) → i = j
  dead : ∀ i : Nat, as[i]? = some none → cs[i]? = some .dead
  at_ : ∀ (i : Nat) a m, as[i]? = some (some a) → cs[i]? = some m → CellM K cad H (Av as R) a m
  apart : ∀ a ∈ live as, a ∉ R
  rl : ∀ a ∈ R, ∃ o, H a = some o
def IsW : W → V → Prop
  | .d x, v => IsD K cad H (Av as R) x v
  | .c i, v => i < as.length ∧ ∀ a, as[i]? = some (some a) → v = .ref a
def IsWs : List W → List V → Prop
  | [], xs => xs = []
  | w :: ws, xs => ∃ x r, xs = x :: r ∧ IsW K cad as R H w x ∧ IsWs ws r
end
/-- from H with the table as to H' with as': what isn't in the table stands -/
structure Ext (H : Hp) (as : AS) (H' : Hp) (as' : AS) : Prop where
  len : as.length ≤ as'.length
  old : ∀ (i : Nat) a, i < as.length → as'[i]? = some (some a) → as[i]? = some (some a)
  new : ∀ (i : Nat) a, as.length ≤ i → as'[i]? = some (some a) → H a = none
  keep : ∀ a o, H a = some o → a ∉ live as → H' a = some o
  there : ∀ a o, H a = some o → ∃ o', H' a = some o'
section
variable {K : PySem.W.Frag} {cad : Nat → Addr} {as as' as2 : AS} {R : List Addr} {H H' H2 : Hp} {cs cs' : List M}
theorem Ext.refl : Ext H as H as := ⟨Nat.le_refl _, fun _ _ _ e => e, fun i a h e => by
  have := (List.getElem?_eq_some_iff.mp e).1
  omega, fun _ _ e _ => e, fun _ o e => ⟨o, e⟩⟩
theorem Ext.same (s : Same H H') : Ext H as H' as := ⟨Nat.le_refl _, fun _ _ _ e => e, fun i a h e => by
  have := (List.getElem?_eq_some_iff.mp e).1
  omega, fun a o e _ => s a o e, fun a o e => ⟨o, s a o e⟩⟩
theorem Ext.live (x : Ext H as H' as') {a : Addr} (h : a ∈ live as') : a ∈ live as ∨ H a = none := by
  obtain ⟨i, e⟩ := mem_live.mp h
  by_cases hi : i < as.length
  · exact .inl (mem_live.mpr ⟨i, x.old i a hi e⟩)
  · exact .inr (x.new i a (by omega) e)
theorem Ext.trans (x : Ext H as H' as') (y : Ext H' as' H2 as2) : Ext H as H2 as2 where
  len := Nat.le_trans x.len y.len
  old := fun i a hi e => x.old i a hi (y.old i a (Nat.lt_of_lt_of_le hi x.len) e)
  new := fun i a hi e => by
    by_cases h2 : i < as'.length
    · exact x.new i a hi (y.old i a h2 e)
    · have z := y.new i a (by omega) e
      cases q : H a with
      | none => rfl
      | some o =>
        obtain ⟨o', z'⟩ := x.there a o q
        rw [z] at z'; cases z'
  keep := fun a o e h => by
    refine y.keep a o (x.keep a o e h) fun hm => ?_
    rcases x.live hm with z | z
    · exact h z
    · rw [e] at z; cases z
  there := fun a o e => by
    obtain ⟨o1, e1⟩ := x.there a o e
    exact y.there a o1 e1
theorem Ext.kp (x : Ext H as H' as') (ap : ∀ a ∈ PD.live as, a ∉ R) : Kp H (Av as R) H' (Av as' R) where
  keep := fun a o e h => x.keep a o e fun z => h (List.mem_append_left _ z)
  new := fun a h => by
    rcases List.mem_append.mp h with h | h
    · rcases x.live h with z | z
      · exact .inl (List.mem_append_left _ z)
      · exact .inr z
    · exact .inl (List.mem_append_right _ h)
theorem Ext.kp' (x : Ext H as H' as') : Kp H (Av as R) H' (Av as' R) where
  keep := fun a o e h => x.keep a o e fun z => h (List.mem_append_left _ z)
  new := fun a h => by
    rcases List.mem_append.mp h with h | h
    · rcases x.live h with z | z
      · exact .inl (List.mem_append_left _ z)
      · exact .inr z
    · exact .inl (List.mem_append_right _ h)
theorem IsW.mono (x : Ext H as H' as') : ∀ {w : W} {v : V}, IsW K cad as R H w v → IsW K cad as' R H' w v
  | .d d, v, h => IsD.mono x.kp' (d := d) h
  | .c i, v, h => ⟨Nat.lt_of_lt_of_le h.1 x.len, fun a e => h.2 a (x.old i a h.1 e)⟩
theorem IsWs.mono (x : Ext H as H' as') : ∀ {ws : List W} {vs : List V}, IsWs K cad as R H ws vs → IsWs K cad as' R H' ws vs
  | [], _, h => h
  | w :: ws, _, h => by
    obtain ⟨y, r, rfl, h1, h2⟩ := h
    exact ⟨y, r, rfl, IsW.mono x h1, IsWs.mono x h2⟩
theorem IsWs.length : ∀ {ws : List W} {vs : List V}, IsWs K cad as R H ws vs → ws.length = vs.length
  | [], _, h => by cases (show _ = [] from h); rfl
  | w :: ws, _, h => by
    obtain ⟨y, r, rfl, h1, h2⟩ := h
    show ws.length + 1 = r.length + 1
    rw [IsWs.length h2]
/-- the table under a heap in which all that was tracked stands -/
theorem CellM.same (s : Same H H') {F : List Addr} {a : Addr} : ∀ {m : M}, CellM K cad H F a m → CellM K cad H' F a m
  | .lst ds, ⟨xs, e, h⟩ => ⟨xs, s _ _ e, h.mono (Kp.same s)⟩
  | .dct ks ds, ⟨us, e, h1, h⟩ => ⟨us, s _ _ e, h1, h.mono (Kp.same s)⟩
  | .obj C ks ds, ⟨dx, us, e, h1, h⟩ => ⟨dx, us, s _ _ e, h1, h.mono (Kp.same s)⟩
  | .dead, h => h
theorem Cells.same (c : Cells K cad as R H cs) (s : Same H H') : Cells K cad as R H' cs := ⟨c.len, c.inj, c.dead, fun i a m e1 e2 => (c.at_ i a m e1 e2).same s, c.apart, fun a h => let ⟨o, e⟩ := c.rl a h; ⟨o, s a o e⟩⟩
theorem same_upd {a : Addr} {o : HO} (h : H a = none) : Same H (upd H a o) := fun b u e => by
  rw [upd_ne (ne_of_none e h)]
  exact e
end
end PD
set_option Elab.async false
set_option linter.all false
set_option maxRecDepth 100000
set_option maxHeartbeats 4000000
/-! PyD1: a small language and what it reckons. -/
namespace PD
open PySem PySem.Spec PyProof.Rows L2

/-- an outcome -/
inductive Rs (α : Type) where
  | ok (a : α) (cs : List M)
  | ex (C : Nat) (ks : List Str) (vs : List D) (cs : List M)
  | stuck
def Rs.bind {α β : Type} (r : Rs α) (f : α → List M → Rs β) : Rs β := match r with
  | .ok a cs => f a cs
  | .ex C ks vs cs => .ex C ks vs cs
  | .stuck => .stuck
@[simp] theorem Rs.bind_ok {α β : Type} (a : α) (cs : List M) (f : α → List M → Rs β) : (Rs.ok a cs).bind f = f a cs := rfl
@[simp] theorem Rs.bind_ex {α β : Type} (C : Nat) (ks : List Str) (vs : List D) (cs : List M) (f : α → List M → Rs β) : (Rs.ex C ks vs cs : Rs α).bind f = .ex C ks vs cs := rfl
@[simp] theorem Rs.bind_stuck {α β : Type} (f : α → List M → Rs β) : (Rs.stuck : Rs α).bind f = .stuck := rfl
def Rs.ofO {α : Type} (o : Option α) (cs : List M) : Rs α := match o with
  | some a => .ok a cs
  | none => .stuck
@[simp] theorem Rs.ofO_some {α : Type} (a : α) (cs : List M) : Rs.ofO (some a) cs = .ok a cs := rfl
@[simp] theorem Rs.ofO_none {α : Type} (cs : List M) : (Rs.ofO none cs : Rs α) = .stuck := rfl

/-! ### operations on data -/
inductive O where
  | add | sub | mul | fdiv | mod | pow | neg
  | eq | ne | lt | le | gt | ge | in_ | notin | isN | notN
  | ix
  | len | abs | int | str | tupOf | lstOf | all | any | sum | divmod | min2 | max2 | sorted | setlen
  | startswith | endswith | partition | join | split | count
  | get1 | get2 | disp (n : Nat) | dictOf | dctcopy
  | rev | isB (b : Bool) | ntB (b : Bool) | dnew
  | isi (ts : List Nat)
  deriving DecidableEq

mutual
/-- as the library's data (others: an empty dict, which is not plain) -/
def py : D → PyData
  | .non => .none
  | .bl b => .bool b
  | .int i => .int i
  | .str x => .str x
  | .tup xs => .tuple (pys xs)
  | .lst xs => .list (pys xs)
  | _ => .dict []
def pys : List D → List PyData
  | [] => []
  | x :: xs => py x :: pys xs
end
def eqD (a b : D) : Bool := PyData.eqv (py a) (py b)
def plainD (a : D) : Bool := (py a).plain && decide ((py a).depth ≤ 60)
/-- truth -/
def truth : D → Option Bool
  | .non => some false
  | .bl b => some b
  | .int i => some (i != 0)
  | .str x => if x.length ≤ 16777216 then some (x.length != 0) else none
  | .tup xs => some (!xs.isEmpty)
  | .lst xs => some (!xs.isEmpty)
  | .dct ks _ => some (!ks.isEmpty)
  | _ => none
def isNon : D → Bool
  | .non => true
  | _ => false
def keyOf : D → Option Key
  | .int i => some (.inl i)
  | .str x => some (.inr x)
  | _ => none
/-- the value at a key -/
def dget : List Key → List D → Key → Option D
  | k :: ks, v :: vs, q => if q = k then some v else dget ks vs q
  | _, _, _ => none
def dset : List Key → List D → Key → D → List D
  | k :: ks, v :: vs, q, x => (if k = q then x else v) :: dset ks vs q x
  | _, _, _, _ => []
def dput (ks : List Key) (vs : List D) (q : Key) (x : D) : List Key × List D := if ks.any (fun k => decide (k = q)) = true then (ks, dset ks vs q x) else (ks ++ [q], vs ++ [x])
def LIM : Nat := 16777216
def isStrs : List D → Option (List Str)
  | [] => some []
  | .str x :: r => (isStrs r).map (x :: ·)
  | _ => none
def isInts : List D → Option (List Int)
  | [] => some []
  | .int x :: r => (isInts r).map (x :: ·)
  | _ => none
def isBls : List D → Option (List Bool)
  | [] => some []
  | .bl x :: r => (isBls r).map (x :: ·)
  | _ => none
/-- tuples of ints -/
def isPairs : List D → Option (List (List Int))
  | [] => some []
  | .tup ys :: r => (match isInts ys, isPairs r with
    | some k, some r => some (k :: r)
    | _, _ => none)
  | _ => none
/-- each once -/
def ddL : List (List Int) → List (List Int)
  | [] => []
  | k :: r => if k ∈ r then ddL r else k :: ddL r
def atD (xs : List D) (i : Int) : Option D := atI xs i
def sIx (n d : Nat) (o : Option Int) : Nat := HT.sIx n d o
def cutD (xs : List D) (lo hi : Option Int) : List D := (xs.drop (HT.sIx xs.length 0 lo)).take (HT.sIx xs.length xs.length hi - HT.sIx xs.length 0 lo)
/-- built-in types by number -/
def bty : Nat → String
  | 0 => "int" | 1 => "bool" | 2 => "str" | 3 => "tuple" | 4 => "list" | 5 => "dict" | 6 => "ValueError" | 7 => "NoneType" | 8 => "Exception" | _ => "KeyError"
/-- the number of a value's type: below 10 built-in ones, 2 C + 10 an object's class, 2 C + 11 an exception's -/
def tag : D → Nat
  | .non => 7
  | .bl _ => 1
  | .int _ => 0
  | .str _ => 2
  | .tup _ => 3
  | .lst _ => 4
  | .dct _ _ => 5
  | .obj C _ _ => 2 * C + 10
  | .exc C ks _ => if ks.isEmpty then 2 * C + 11 else 9
/-- isinstance for one of several classes: built-in types below 10, own class C as C + 10 -/
def tyAny (isT : Nat → Nat → Option Bool) (g : Nat) : List Nat → Option Bool
  | [] => some false
  | t :: ts => match isT g t with
    | some true => some true
    | some false => tyAny isT g ts
    | none => none

def arith (o : O) (i j : Int) : Option D := match o with
  | .add => some (.int (i + j))
  | .sub => some (.int (i - j))
  | .mul => if i.natAbs.log2 + j.natAbs.log2 < 100000000 then some (.int (i * j)) else none
  | .fdiv => if j ≠ 0 ∧ j.natAbs.log2 < 9000 then some (.int (i.fdiv j)) else none
  | .mod => if j ≠ 0 then some (.int (i.fmod j)) else none
  | .pow => if 0 ≤ j ∧ j ≤ 1000000 ∧ i.natAbs < 2 ^ 64 then some (.int (i ^ j.toNat)) else none
  | .lt => some (.bl (decide (i < j)))
  | .le => some (.bl (decide (i ≤ j)))
  | .gt => some (.bl (decide (j < i)))
  | .ge => some (.bl (decide (j ≤ i)))
  | _ => none
def arD (o : O) (a b : D) : Option D := match a, b with
  | .int i, .int j => arith o i j
  | _, _ => none
def addD (a b : D) : Option D := match a, b with
  | .int i, .int j => some (.int (i + j))
  | .str x, .str y => if x.length + y.length ≤ LIM then some (.str (x ++ y)) else none
  | .lst x, .lst y => if x.length + y.length ≤ LIM then some (.lst (x ++ y)) else none
  | .tup x, .tup y => if x.length + y.length ≤ LIM then some (.tup (x ++ y)) else none
  | _, _ => none
def repS (x : Str) (k : Int) : Str := if k < 1 then Str.empty else if (k == 1 || x.length == 0) = true then x else ⟨(List.replicate k.toNat x.cps).foldl (· ++ ·) #[]⟩
def mulD (a b : D) : Option D := match a, b with
  | .int i, .int j => arith .mul i j
  | .lst x, .int k => if -(2 ^ 62) ≤ k ∧ k ≤ 1000000 ∧ x.length * k.toNat ≤ LIM then some (.lst (List.replicate k.toNat x).flatten) else none
  | .tup x, .int k => if x ≠ [] ∧ 2 ≤ k ∧ k ≤ 1000 ∧ x.length ≤ 1000 then some (.tup (List.replicate k.toNat x).flatten) else none
  | .str x, .int k => if -(2 ^ 62) ≤ k ∧ k ≤ 1000000 ∧ x.length ≤ LIM ∧ x.length * k.toNat ≤ LIM then some (.str (repS x k)) else none
  | _, _ => none
/-- x op= y -/
def augD (o : O) (a b : D) : Option D := match a, b with
  | .int i, .int j => (match o with
    | .add => arith .add i j
    | .sub => arith .sub i j
    | .mul => arith .mul i j
    | .mod => arith .mod i j
    | _ => none)
  | .str x, .str y => (match o with
    | .add => addD (.str x) (.str y)
    | _ => none)
  | _, _ => none
def ltD (a b : D) : Option D := match a, b with
  | .int i, .int j => some (.bl (decide (i < j)))
  | .str x, .str y => some (.bl (decide (x.cps.toList < y.cps.toList)))
  | _, _ => none
def inD (a b : D) : Option Bool := match b with
  | .str y => (match a with
    | .str x => some (!(Builtin.Str.occurrences y x 0 y.length 1).isEmpty)
    | _ => none)
  | .lst ys => if plainD a && ys.all plainD then some (ys.any (eqD · a)) else none
  | .tup ys => if plainD a && ys.all plainD then some (ys.any (eqD · a)) else none
  | .dct ks vs => (match keyOf a with
    | some q => some (dget ks vs q).isSome
    | none => none)
  | _ => none
def ixD (a b : D) : Option D := match a with
  | .lst xs => (match b with
    | .int i => atI xs i
    | _ => none)
  | .tup xs => (match b with
    | .int i => atI xs i
    | _ => none)
  | .str x => (match b with
    | .int i => if x.length ≤ LIM then (atI x.cps.toList i).map fun c => .str ⟨#[c]⟩ else none
    | _ => none)
  | .dct ks vs => (match keyOf b with
    | some q => dget ks vs q
    | none => none)
  | _ => none
def slD (a : D) (lo hi : Option Int) : Option D := match a with
  | .lst xs => some (.lst (cutD xs lo hi))
  | .tup xs => some (.tup (cutD xs lo hi))
  | .str x => if x.length ≤ LIM then some (.str (L2.cutS x lo hi)) else none
  | _ => none
def negD (a : D) : Option D := match a with
  | .int i => some (.int (-i))
  | _ => none
def lenD (a : D) : Option D := match a with
  | .lst xs => some (.int xs.length)
  | .tup xs => some (.int xs.length)
  | .str x => if x.length ≤ LIM then some (.int x.length) else none
  | .dct ks _ => some (.int ks.length)
  | _ => none
def absD (a : D) : Option D := match a with
  | .int i => some (.int (if i < 0 then -i else i))
  | _ => none
def intD (a : D) : Option D := match a with
  | .int i => some (.int i)
  | .bl b => some (.int (if b then 1 else 0))
  | .str x => if x.length ≤ 640 then (PySem.intText? x).map .int else none
  | _ => none
def strD (a : D) : Option D := match a with
  | .int i => if i.natAbs.log2 < 1920 then some (.str (toString i)) else none
  | _ => none
def tupD (a : D) : Option D := match a with
  | .lst xs => some (.tup xs)
  | .tup xs => some (.tup xs)
  | _ => none
def lstD (a : D) : Option D := match a with
  | .lst xs => some (.lst xs)
  | .tup xs => some (.lst xs)
  | _ => none
def allD (a : D) : Option D := match a with
  | .lst xs => (isBls xs).map fun bs => .bl (bs.all id)
  | _ => none
def anyD (a : D) : Option D := match a with
  | .lst xs => (isBls xs).map fun bs => .bl (bs.any id)
  | _ => none
def sumD (a : D) : Option D := match a with
  | .lst xs => (isInts xs).map fun ns => .int ns.sum
  | _ => none
def divmodD (a b : D) : Option D := match a, b with
  | .int i, .int j => if 0 < j ∧ j.natAbs.log2 < 9000 then some (.tup [.int (i / j), .int (i % j)]) else none
  | _, _ => none
def minD (a b : D) : Option D := match a, b with
  | .int i, .int j => some (.int (if j < i then j else i))
  | _, _ => none
def maxD (a b : D) : Option D := match a, b with
  | .int i, .int j => some (.int (if j > i then j else i))
  | _, _ => none
def strs2 (f : Str → Str → Option D) (a b : D) : Option D := match a, b with
  | .str x, .str y => f x y
  | _, _ => none
def partD (x y : Str) : Option D := if y.length ≠ 0 ∧ x.length ≤ LIM then some (.tup [.str (Txt.partition x y).1, .str (Txt.partition x y).2.1, .str (Txt.partition x y).2.2]) else none
def revD (a : D) : Option D := match a with
  | .lst xs => some (.lst xs.reverse)
  | .tup xs => some (.tup xs.reverse)
  | _ => none
def isBD (b : Bool) (a : D) : Option D := match a with
  | .bl c => some (.bl (decide (c = b)))
  | _ => none
def ntBD (b : Bool) (a : D) : Option D := match a with
  | .bl c => some (.bl (!decide (c = b)))
  | _ => none
def splitD (x y : Str) : Option D := if y.length ≠ 0 ∧ x.length + 2 ≤ LIM then some (.lst ((Txt.split x y).map .str)) else none
def joinOk (x : Str) (ys : List Str) : Bool := decide ((ys.map (·.length)).sum + ys.length * x.length ≤ LIM)
def joinD (a b : D) : Option D := match a, b with
  | .str x, .lst ys => (match isStrs ys with
    | some zs => if joinOk x zs = true then some (.str (Txt.join x zs)) else none
    | none => none)
  | .str x, .tup ys => (match isStrs ys with
    | some zs => if joinOk x zs = true then some (.str (Txt.join x zs)) else none
    | none => none)
  | _, _ => none
/-- what is never a mutable object -/
def flatD : D → Bool
  | .lst _ => false
  | .dct _ _ => false
  | .obj _ _ _ => false
  | _ => true
def setlenD (a : D) : Option D := match a with
  | .lst xs => (match isPairs xs with
    | some ks => if ks.length < 64 then some (.int (ddL ks).length) else none
    | none => none)
  | _ => none
def dget1D (a b : D) : Option D := match a with
  | .dct ks vs => (match keyOf b with
    | some q => some ((dget ks vs q).getD .non)
    | none => none)
  | _ => none
def dget2D (a b c : D) : Option D := match a with
  | .dct ks vs => (match keyOf b with
    | some q => some ((dget ks vs q).getD c)
    | none => none)
  | _ => none
def sem1 (sub : Nat → Nat → Option Bool) (o : O) (a : D) : Option D := match o with
  | .isN => some (.bl (isNon a))
  | .notN => some (.bl (!isNon a))
  | .neg => negD a
  | .len => lenD a
  | .abs => absD a
  | .int => intD a
  | .str => strD a
  | .tupOf => tupD a
  | .lstOf => lstD a
  | .all => allD a
  | .any => anyD a
  | .sum => sumD a
  | .isi ts => (tyAny sub (tag a) ts).map .bl
  | .rev => revD a
  | .setlen => setlenD a
  | .dnew => some a
  | .isB b => isBD b a
  | .ntB b => ntBD b a
  | _ => none
def sem2 (o : O) (a b : D) : Option D := match o with
  | .eq => if plainD a && plainD b then some (.bl (eqD a b)) else none
  | .ne => if plainD a && plainD b then some (.bl (!eqD a b)) else none
  | .add => addD a b
  | .sub => arD .sub a b
  | .mul => mulD a b
  | .fdiv => arD .fdiv a b
  | .mod => arD .mod a b
  | .pow => arD .pow a b
  | .lt => ltD a b
  | .le => arD .le a b
  | .gt => arD .gt a b
  | .ge => arD .ge a b
  | .in_ => (inD a b).map .bl
  | .notin => (inD a b).map fun c => .bl (!c)
  | .ix => ixD a b
  | .divmod => divmodD a b
  | .min2 => minD a b
  | .max2 => maxD a b
  | .startswith => strs2 (fun x y => some (.bl (Txt.startswith x y))) a b
  | .endswith => strs2 (fun x y => some (.bl (Txt.endswith x y))) a b
  | .partition => strs2 partD a b
  | .split => strs2 splitD a b
  | .join => joinD a b
  | .get1 => dget1D a b
  | .count => strs2 (fun x y => some (.int (Txt.count x y))) a b
  | _ => none
def sem3 (o : O) (a b c : D) : Option D := match o with
  | .get2 => if flatD c = true then dget2D a b c else none
  | _ => none
def sem (sub : Nat → Nat → Option Bool) (o : O) (ds : List D) : Option D := match ds with
  | [a] => sem1 sub o a
  | [a, b] => sem2 o a b
  | [a, b, c] => sem3 o a b c
  | _ => none

/-! ### the language -/
inductive Tg where
  | n (i : Nat) | t (ts : List Tg)
/-- what is walked -/
inductive IK where
  | seq | range1 | range2 | str | zip | enum
inductive E where
  | c (d : D)
  | v (i : Nat)
  | g (i : Nat)
  | op (o : O) (es : List E)
  | bm (o : O) (a : E) (es : List E)
  | opC (o : O) (es : List E)
  | and_ (a b : E) | or_ (a b : E) | not_ (a : E)
  | ife (t a b : E)
  | chain (o o' : O) (a b c : E)
  | tup (es : List E) | lst (es : List E) | mlst (es : List E)
  | sl2 (a lo hi : E) | slL (a lo : E) | slH (a hi : E)
  | fld (a : E) (f : Str)
  | call (f : Nat) (es : List E)
  | make (C : Nat) (es : List E)
  | meth (o : E) (m : Str) (es : List E)
  | comp (mc : Bool) (own : List Nat) (t : Tg) (k : IK) (its : List E) (conds : List E) (elt : E)
  | frz (e : E)
inductive S where
  | ex (e : E)
  | asg (t : Tg) (e : E)
  | par (i j : Nat) (a b : E)
  | aug (i : Nat) (o : O) (e : E)
  | setix (a i e : E)
  | setfld (a : E) (f : Str) (e : E)
  | app (a e : E)
  | ite (t : E) (a b : List S)
  | for_ (t : Tg) (k : IK) (its : List E) (b : List S)
  | while_ (t : E) (b : List S)
  | ret (e : E)
  | rais (C : Nat) (es : List E)
  | try_ (b : List S) (C : Nat) (i : Option Nat) (h : List S)
  | brk | cnt | pass
  | frz (i : Nat)
/-- a program: its classes' methods, their ancestors, its defs -/
structure Pg where
  csts : List D
  sub : Nat → Nat → Option Bool
  isT : Nat → Nat → Option Bool
  isX : Nat → Bool
  fld : Nat → Str → Bool
  meth : Nat → Str → Option Nat
  fns : List (Nat × Nat × List S)      -- parameters, slots, body
  fuel : Nat

abbrev Sl := List (Option W)
def mD : M → Option D
  | .lst xs => some (.lst xs)
  | .dct ks vs => some (.dct ks vs)
  | .obj C ks vs => some (.obj C ks vs)
  | .dead => none
def pk (w : W) (cs : List M) : Option D := match w with
  | .d x => some x
  | .c i => match cs[i]? with
    | some m => mD m
    | none => none
def pks : List W → List M → Option (List D)
  | [], _ => some []
  | w :: ws, cs => match pk w cs, pks ws cs with
    | some d, some ds => some (d :: ds)
    | _, _ => none
def dats : List W → Option (List D)
  | [] => some []
  | .d x :: ws => (dats ws).map (x :: ·)
  | .c _ :: _ => none
def toM : D → Option M
  | .lst xs => some (.lst xs)
  | .dct ks vs => some (.dct ks vs)
  | .obj C ks vs => some (.obj C ks vs)
  | _ => none
mutual
def bindT : Tg → W → Sl → Option Sl
  | .n i, w, sl => if i < sl.length then some (sl.set i (some w)) else none
  | .t ts, .d (.tup ds), sl => bindTs ts ds sl
  | .t _, _, _ => none
def bindTs : List Tg → List D → Sl → Option Sl
  | [], [], sl => some sl
  | t :: ts, d :: ds, sl => match bindT t (.d d) sl with
    | some sl => bindTs ts ds sl
    | none => none
  | _, _, _ => none
end
def wipeS (sl : Sl) : List Nat → Sl
  | [] => sl
  | v :: vs => (wipeS sl vs).set v none
def zipD : List D → List D → List D
  | a :: as, b :: bs => .tup [a, b] :: zipD as bs
  | _, _ => []
def enumD : Nat → List D → List D
  | _, [] => []
  | n, a :: as => .tup [.int n, a] :: enumD (n + 1) as
def rangeD (lo : Int) (n : Nat) : List D := (List.range n).map fun (i : Nat) => .int (lo + i)
def items : IK → List D → Option (List D)
  | .seq, [.lst xs] => some xs
  | .seq, [.tup xs] => some xs
  | .range1, [.int n] => if -(2 ^ 62) ≤ n ∧ n.toNat ≤ LIM then some (rangeD 0 n.toNat) else none
  | .range2, [.int a, .int b] => if -(2 ^ 62) ≤ a ∧ a < 2 ^ 62 ∧ -(2 ^ 62) ≤ b ∧ b < 2 ^ 62 ∧ (b - a).toNat ≤ LIM then some (rangeD a (b - a).toNat) else none
  | .str, [.str x] => if x.length ≤ LIM then some (x.cps.toList.map fun c => .str ⟨#[c]⟩) else none
  | .zip, [.lst xs, .lst ys] => some (zipD xs ys)
  | .enum, [.lst xs] => some (enumD 0 xs)
  | _, _ => none
/-- a mutable object's parts in the callee's numbering -/
def rn (ids : List Nat) : List W → List W × List Nat
  | [] => ([], ids)
  | .d x :: r => let q := rn ids r; (.d x :: q.1, q.2)
  | .c i :: r => match ids.idxOf? i with
    | some k => let q := rn ids r; (.c k :: q.1, q.2)
    | none => let q := rn (ids ++ [i]) r; (.c ids.length :: q.1, q.2)
def takeAll (cs : List M) : List Nat → Option (List M)
  | [] => some []
  | i :: r => match cs[i]?, takeAll cs r with
    | some .dead, _ => none
    | some m, some ms => some (m :: ms)
    | _, _ => none
def putAll {α : Type} : List α → List Nat → List α → List α
  | cs, i :: r, m :: ms => putAll (cs.set i m) r ms
  | cs, _, _ => cs
def callW (f : List W → List M → Rs W) (ws : List W) (cs : List M) : Rs W :=
  match rn [] ws with
  | (us, ids) => match takeAll cs ids with
    | none => .stuck
    | some ms => match f us ms with
      | .stuck => .stuck
      | .ex C ks vs ms' => .ex C ks vs (putAll cs ids ms')
      | .ok (.d x) ms' => .ok (.d x) (putAll cs ids ms')
      | .ok (.c j) ms' => match ids[j]? with
        | some i => .ok (.c i) (putAll cs ids ms')
        | none => match ms'[j]? with
          | some m => .ok (.c cs.length) (putAll cs ids ms' ++ [m])
          | none => .stuck
def compL (f : D → List M → Rs (Option D)) : List D → List D → List M → Rs (List D)
  | [], acc, cs => .ok acc cs
  | d :: ds, acc, cs => match f d cs with
    | .ok o cs => compL f ds (acc ++ o.toList) cs
    | _ => .stuck
def fget : List Str → List D → Str → Option D
  | k :: ks, v :: vs, q => if q = k then some v else fget ks vs q
  | _, _, _ => none
def fput : List Str → List D → Str → D → List Str × List D
  | k :: ks, v :: vs, q, x => if k = q then (k :: ks, x :: vs) else let r := fput ks vs q x; (k :: r.1, v :: r.2)
  | _, _, q, x => ([q], [x])
section
variable (G : Pg) (Φ : Nat → List W → List M → Rs W)
/-- whether a built-in method's object is of its type -/
def recvOk (o : O) (d : Option D) : Bool := match o, d with
  | .startswith, some (.str _) => true
  | .endswith, some (.str _) => true
  | .partition, some (.str _) => true
  | .join, some (.str _) => true
  | .split, some (.str _) => true
  | .count, some (.str _) => true
  | .get1, some (.dct _ _) => true
  | .get2, some (.dct _ _) => true
  | _, _ => false
/-- a method's def -/
def methF (m : Str) : Option D → Option Nat
  | some (.obj C ks _) => if ks.contains m then none else G.meth C m
  | _ => none
mutual
def evE : E → Sl → List M → Rs W
  | .c d, _, cs => .ok (.d d) cs
  | .v i, sl, cs => match sl[i]? with
    | some (some w) => .ok w cs
    | _ => .stuck
  | .g i, _, cs => Rs.ofO (G.csts[i]?.map .d) cs
  | .bm o a es, sl, cs => (evE a sl cs).bind fun w cs => if recvOk o (pk w cs) = true then (evEs es sl cs).bind fun ws cs => match pks (w :: ws) cs with
      | some ds => match sem G.isT o ds with
        | some d => .ok (.d d) cs
        | none => .stuck
      | none => .stuck
    else .stuck
  | .op o es, sl, cs => (evEs es sl cs).bind fun ws cs => match pks ws cs with
    | some ds => match sem G.isT o ds with
      | some d => .ok (.d d) cs
      | none => .stuck
    | none => .stuck
  | .opC o es, sl, cs => (evEs es sl cs).bind fun ws cs => match pks ws cs with
    | some ds => match sem G.isT o ds with
      | some d => match toM d with
        | some m => .ok (.c cs.length) (cs ++ [m])
        | none => .stuck
      | none => .stuck
    | none => .stuck
  | .and_ a b, sl, cs => (evE a sl cs).bind fun w cs => match (pk w cs).bind truth with
    | some true => evE b sl cs
    | some false => .ok w cs
    | none => .stuck
  | .or_ a b, sl, cs => (evE a sl cs).bind fun w cs => match (pk w cs).bind truth with
    | some true => .ok w cs
    | some false => evE b sl cs
    | none => .stuck
  | .not_ a, sl, cs => (evE a sl cs).bind fun w cs => match (pk w cs).bind truth with
    | some b => .ok (.d (.bl (!b))) cs
    | none => .stuck
  | .ife t a b, sl, cs => (evE t sl cs).bind fun w cs => match (pk w cs).bind truth with
    | some true => evE a sl cs
    | some false => evE b sl cs
    | none => .stuck
  | .chain o o' a b c, sl, cs => (evE a sl cs).bind fun x cs => (evE b sl cs).bind fun y cs => match pks [x, y] cs with
    | some ds => match sem G.isT o ds with
      | some (.bl true) => (evE c sl cs).bind fun z cs => match pks [y, z] cs with
        | some ds => match sem G.isT o' ds with
          | some d => .ok (.d d) cs
          | none => .stuck
        | none => .stuck
      | some (.bl false) => .ok (.d (.bl false)) cs
      | _ => .stuck
    | none => .stuck
  | .tup es, sl, cs => (evEs es sl cs).bind fun ws cs => match dats ws with
    | some ds => if ds.length ≤ LIM then .ok (.d (.tup ds)) cs else .stuck
    | none => .stuck
  | .lst es, sl, cs => (evEs es sl cs).bind fun ws cs => match dats ws with
    | some ds => if ds.length ≤ LIM then .ok (.d (.lst ds)) cs else .stuck
    | none => .stuck
  | .mlst es, sl, cs => (evEs es sl cs).bind fun ws cs => match dats ws with
    | some ds => if ds.length ≤ LIM then .ok (.c cs.length) (cs ++ [.lst ds]) else .stuck
    | none => .stuck
  | .sl2 a lo hi, sl, cs => (evE a sl cs).bind fun w cs => (evE lo sl cs).bind fun l cs => match l with
    | .d (.int i) => (evE hi sl cs).bind fun h cs => (match h with
      | .d (.int j) => Rs.ofO (((pk w cs).bind fun d => slD d (some i) (some j)).map .d) cs
      | _ => .stuck)
    | _ => .stuck
  | .slL a lo, sl, cs => (evE a sl cs).bind fun w cs => (evE lo sl cs).bind fun l cs => match l with
    | .d (.int i) => Rs.ofO (((pk w cs).bind fun d => slD d (some i) none).map .d) cs
    | _ => .stuck
  | .slH a hi, sl, cs => (evE a sl cs).bind fun w cs => (evE hi sl cs).bind fun h cs => match h with
    | .d (.int j) => Rs.ofO (((pk w cs).bind fun d => slD d none (some j)).map .d) cs
    | _ => .stuck
  | .fld a f, sl, cs => (evE a sl cs).bind fun w cs => match pk w cs with
    | some (.obj C ks vs) => if G.fld C f = true then Rs.ofO ((fget ks vs f).map .d) cs else .stuck
    | _ => .stuck
  | .call f es, sl, cs => (evEs es sl cs).bind fun ws cs => callW (Φ f) ws cs
  | .make C es, sl, cs => (evEs es sl cs).bind fun ws cs => match G.meth C (Str.ofString "__init__") with
    | some f => (callW (Φ f) (.c cs.length :: ws) (cs ++ [.obj C [] []])).bind fun r cs' => match r with
      | .d .non => .ok (.c cs.length) cs'
      | _ => .stuck
    | none => .stuck
  | .meth o m es, sl, cs => (evE o sl cs).bind fun w cs => match methF G m (pk w cs) with
    | some f => (evEs es sl cs).bind fun ws cs => callW (Φ f) (w :: ws) cs
    | none => .stuck
  | .comp mc own t k its conds elt, sl, cs => (evEs its sl cs).bind fun ws cs => match (dats ws).bind (items k) with
    | some ds => (compL (fun d cs => match bindT t (.d d) (wipeS sl own) with
        | some sl' => (evC conds sl' cs).bind fun b cs => if b = true then (evE elt sl' cs).bind fun w cs => match w with
            | .d x => .ok (some x) cs
            | .c _ => .stuck
          else .ok none cs
        | none => .stuck) ds [] cs).bind fun ds cs => if mc = true then .ok (.c cs.length) (cs ++ [.lst ds]) else .ok (.d (.lst ds)) cs
    | none => .stuck
  | .frz e, sl, cs => (evE e sl cs).bind fun w cs => match w with
    | .d x => .ok (.d x) cs
    | .c i => match pk (.c i) cs with
      | some d => .ok (.d d) (cs.set i .dead)
      | none => .stuck
def evEs : List E → Sl → List M → Rs (List W)
  | [], _, cs => .ok [] cs
  | e :: es, sl, cs => (evE e sl cs).bind fun w cs => (evEs es sl cs).bind fun ws cs => .ok (w :: ws) cs
/-- all conditions -/
def evC : List E → Sl → List M → Rs Bool
  | [], _, cs => .ok true cs
  | e :: es, sl, cs => (evE e sl cs).bind fun w cs => match (pk w cs).bind truth with
    | some true => evC es sl cs
    | some false => .ok false cs
    | none => .stuck
end
/-- a test -/
def evT (e : E) (sl : Sl) (cs : List M) : Rs Bool := (evE G Φ e sl cs).bind fun w cs => Rs.ofO ((pk w cs).bind truth) cs
end
/-! ### statements -/
/-- a mutable list -/
def isLstC (o : W) (cs : List M) : Bool := match o with
  | .c n => (match cs[n]? with
    | some (.lst _) => true
    | _ => false)
  | _ => false
inductive Fl where
  | nx | brk | cnt | ret (w : W)
inductive SR where
  | ok (f : Fl) (sl : Sl) (cs : List M)
  | ex (C : Nat) (ks : List Str) (vs : List D) (sl : Sl) (cs : List M)
  | stuck
def SR.of {α : Type} (r : Rs α) (sl : Sl) (f : α → List M → SR) : SR := match r with
  | .ok a cs => f a cs
  | .ex C ks vs cs => .ex C ks vs sl cs
  | .stuck => .stuck
@[simp] theorem SR.of_ok {α : Type} (a : α) (cs : List M) (sl : Sl) (f : α → List M → SR) : SR.of (.ok a cs) sl f = f a cs := rfl
@[simp] theorem SR.of_ex {α : Type} (C : Nat) (ks : List Str) (vs : List D) (cs : List M) (sl : Sl) (f : α → List M → SR) : SR.of (.ex C ks vs cs : Rs α) sl f = .ex C ks vs sl cs := rfl
@[simp] theorem SR.of_stuck {α : Type} (sl : Sl) (f : α → List M → SR) : SR.of (.stuck : Rs α) sl f = .stuck := rfl
def forL (f : D → Sl → List M → SR) : List D → Sl → List M → SR
  | [], sl, cs => .ok .nx sl cs
  | d :: ds, sl, cs => match f d sl cs with
    | .ok .nx sl cs => forL f ds sl cs
    | .ok .cnt sl cs => forL f ds sl cs
    | .ok .brk sl cs => .ok .nx sl cs
    | r => r
def whileL (t : Sl → List M → Rs Bool) (f : Sl → List M → SR) : Nat → Sl → List M → SR
  | 0, _, _ => .stuck
  | n + 1, sl, cs => SR.of (t sl cs) sl fun b cs => if b = true then match f sl cs with
      | .ok .nx sl cs => whileL t f n sl cs
      | .ok .cnt sl cs => whileL t f n sl cs
      | .ok .brk sl cs => .ok .nx sl cs
      | r => r
    else .ok .nx sl cs
section
variable (G : Pg) (Φ : Nat → List W → List M → Rs W)
mutual
def evS : S → Sl → List M → SR
  | .ex e, sl, cs => SR.of (evE G Φ e sl cs) sl fun _ cs => .ok .nx sl cs
  | .asg t e, sl, cs => SR.of (evE G Φ e sl cs) sl fun w cs => match bindT t w sl with
    | some sl => .ok .nx sl cs
    | none => .stuck
  | .par i j a b, sl, cs => SR.of (evE G Φ a sl cs) sl fun x cs => SR.of (evE G Φ b sl cs) sl fun y cs =>
      if i < sl.length ∧ j < sl.length then .ok .nx ((sl.set i (some x)).set j (some y)) cs else .stuck
  | .aug i o e, sl, cs => match sl[i]? with
    | some (some x) => SR.of (evE G Φ e sl cs) sl fun y cs => match x, y with
      | .d a, .d b => match augD o a b with
        | some d => .ok .nx (sl.set i (some (.d d))) cs
        | none => .stuck
      | _, _ => .stuck
    | _ => .stuck
  | .setix a i e, sl, cs => SR.of (evE G Φ e sl cs) sl fun w cs => SR.of (evE G Φ a sl cs) sl fun o cs => SR.of (evE G Φ i sl cs) sl fun k cs =>
    match o, k, w with
    | .c n, .d kd, .d x => match cs[n]? with
      | some (.lst xs) => (match kd with
        | .int z => (match ixN xs.length z with
          | some j => .ok .nx sl (cs.set n (.lst (xs.set j x)))
          | none => .stuck)
        | _ => .stuck)
      | some (.dct ks vs) => (match keyOf kd with
        | some q => if ks.length < LIM then .ok .nx sl (cs.set n (.dct (dput ks vs q x).1 (dput ks vs q x).2)) else .stuck
        | none => .stuck)
      | _ => .stuck
    | _, _, _ => .stuck
  | .setfld a f e, sl, cs => SR.of (evE G Φ e sl cs) sl fun w cs => SR.of (evE G Φ a sl cs) sl fun o cs =>
    match o, w with
    | .c n, .d x => match cs[n]? with
      | some (.obj C ks vs) => if G.fld C f = true ∧ ks.length < 1000 then .ok .nx sl (cs.set n (.obj C (fput ks vs f x).1 (fput ks vs f x).2)) else .stuck
      | _ => .stuck
    | _, _ => .stuck
  | .app a e, sl, cs => SR.of (evE G Φ a sl cs) sl fun o cs => if isLstC o cs = true then SR.of (evE G Φ e sl cs) sl fun w cs =>
      match o, w with
      | .c n, .d x => match cs[n]? with
        | some (.lst xs) => if xs.length < LIM then .ok .nx sl (cs.set n (.lst (xs ++ [x]))) else .stuck
        | _ => .stuck
      | _, _ => .stuck
    else .stuck
  | .ite t a b, sl, cs => SR.of (evT G Φ t sl cs) sl fun k cs => if k = true then evSs a sl cs else evSs b sl cs
  | .for_ t k its b, sl, cs => SR.of (evEs G Φ its sl cs) sl fun ws cs => match (dats ws).bind (items k) with
    | some ds => forL (fun d sl cs => match bindT t (.d d) sl with
        | some sl => evSs b sl cs
        | none => .stuck) ds sl cs
    | none => .stuck
  | .while_ t b, sl, cs => whileL (evT G Φ t) (evSs b) G.fuel sl cs
  | .ret e, sl, cs => SR.of (evE G Φ e sl cs) sl fun w cs => .ok (.ret w) sl cs
  | .rais C es, sl, cs => SR.of (evEs G Φ es sl cs) sl fun ws cs => if ws.length ≤ LIM then .ex C [] [] sl cs else .stuck
  | .try_ b C i h, sl, cs => match evSs b sl cs with
    | .ex C' ks vs sl' cs' => match G.sub C' C with
      | some true => (match i with
        | some i => if i < sl'.length then (match evSs h (sl'.set i (some (.d (.exc C' ks vs)))) cs' with
          | .ok f sl2 cs2 => .ok f (sl2.set i none) cs2
          | .ex _ _ _ _ _ => .stuck
          | .stuck => .stuck) else .stuck
        | none => (match evSs h sl' cs' with
          | .ok f sl2 cs2 => .ok f sl2 cs2
          | .ex _ _ _ _ _ => .stuck
          | .stuck => .stuck))
      | some false => .ex C' ks vs sl' cs'
      | none => .stuck
    | r => r
  | .brk, sl, cs => .ok .brk sl cs
  | .cnt, sl, cs => .ok .cnt sl cs
  | .pass, sl, cs => .ok .nx sl cs
  | .frz i, sl, cs => match sl[i]? with
    | some (some (.c n)) => (match pk (.c n) cs with
      | some d => .ok .nx (sl.set i (some (.d d))) (cs.set n .dead)
      | none => .stuck)
    | some (some (.d _)) => .ok .nx sl cs
    | _ => .stuck
def evSs : List S → Sl → List M → SR
  | [], sl, cs => .ok .nx sl cs
  | s :: ss, sl, cs => match evS s sl cs with
    | .ok .nx sl cs => evSs ss sl cs
    | r => r
end
/-- a body run -/
def runB (np ns : Nat) (b : List S) (ws : List W) (cs : List M) : Rs W :=
  if ws.length = np then match evSs G Φ b (ws.map some ++ List.replicate (ns - np) none) cs with
    | .ok (.ret w) _ cs => .ok w cs
    | .ok .nx _ cs => .ok (.d .non) cs
    | .ex C ks vs _ cs => .ex C ks vs cs
    | _ => .stuck
  else .stuck
end
/-- the defs, so deep -/
def call (G : Pg) : Nat → Nat → List W → List M → Rs W
  | 0, _, _, _ => .stuck
  | n + 1, f, ws, cs => match G.fns[f]? with
    | some (np, ns, b) => runB G (call G n) np ns b ws cs
    | none => .stuck
end PD
set_option Elab.async false
set_option linter.all false
set_option maxRecDepth 100000
set_option maxHeartbeats 4000000
/-! PyD2: what an outcome promises of the heap; how promises are joined. -/
namespace PD
open PySem PySem.Spec PyProof.Rows L2

section
variable (K : PySem.W.Frag) (cad : Nat → Addr)
/-- slots and mutable objects as the frame and the heap have them -/
structure Rel (as : AS) (R : List Addr) (H : Hp) (sl : Sl) (cs : List M) (σ : L2.St) : Prop where
  len : σ.length = sl.length
  sl : ∀ (i : Nat) w, sl[i]? = some (some w) → ∃ v, σ[i]? = some (some v) ∧ IsW K cad as R H w v
  cells : Cells K cad as R H cs
def IsX (as : AS) (R : List Addr) (H : Hp) (C : Nat) (ks : List Str) (vs : List D) (cls : Value) (d : Option Addr) : Prop :=
  cls = .ref (cad C) ∧ ((ks = [] ∧ vs = [] ∧ d = none) ∨ (ks ≠ [] ∧ ∃ dx us, d = some dx ∧ dx ∉ Av as R ∧ H dx = some (.xd us) ∧ us.map (·.1) = ks ∧ IsDs K cad H (Av as R) vs (us.map (·.2))))
/-- what is wanted behind an outcome -/
def Post {α β : Type} (IsA : AS → List Addr → Hp → α → β → Prop) (W : WX) (σ : L2.St) (as : AS) (R : List Addr) (H : Hp) (Q : β → Hp → Prop) : Rs α → Prop
  | .ok a cs => ∀ v H' as', Ext H as H' as' → Cells K cad as' R H' cs → IsA as' R H' a v → Q v H'
  | .ex C ks vs cs => ∀ cls d H' as', Ext H as H' as' → Cells K cad as' R H' cs → IsX K cad as' R H' C ks vs cls d → W cls d σ H'
  | .stuck => False
def liftR {α β : Type} (IsA : AS → List Addr → Hp → α → β → Prop) (W : WX) (g : Sl → List M → Rs α) : L2.St → Hp → (β → Hp → Prop) → Prop :=
  fun σ H Q => ∃ sl cs as R, Rel K cad as R H sl cs σ ∧ Post K cad IsA W σ as R H Q (g sl cs)
abbrev rW : AS → List Addr → Hp → W → V → Prop := fun as R H w v => IsW K cad as R H w v
abbrev rWs : AS → List Addr → Hp → List W → List V → Prop := fun as R H w v => IsWs K cad as R H w v
abbrev rB : AS → List Addr → Hp → Bool → Bool → Prop := fun _ _ _ b c => b = c
abbrev liftE (W : WX) (g : Sl → List M → Rs PD.W) : TE := liftR K cad (rW K cad) W g
abbrev liftA (W : WX) (g : Sl → List M → Rs (List PD.W)) : TA := liftR K cad (rWs K cad) W g
abbrev liftT (W : WX) (g : Sl → List M → Rs Bool) : TT := liftR K cad rB W g
end

section
variable {K : PySem.W.Frag} {cad : Nat → Addr} {as as' : AS} {R : List Addr} {H H' : Hp} {sl : Sl} {cs cs' : List M} {σ : L2.St} {W : WX}
theorem Rel.mono (r : Rel K cad as R H sl cs σ) (x : Ext H as H' as') (c : Cells K cad as' R H' cs') : Rel K cad as' R H' sl cs' σ :=
  ⟨r.len, fun i w e => let ⟨v, e1, h⟩ := r.sl i w e; ⟨v, e1, h.mono x⟩, c⟩
theorem Post.mono {α β : Type} {IsA : AS → List Addr → Hp → α → β → Prop} {Q : β → Hp → Prop} (x : Ext H as H' as') : ∀ {r : Rs α}, Post K cad IsA W σ as R H Q r → Post K cad IsA W σ as' R H' Q r
  | .ok a cs, h => fun v H2 as2 x2 c i => h v H2 as2 (x.trans x2) c i
  | .ex C ks vs cs, h => fun cls d H2 as2 x2 c i => h cls d H2 as2 (x.trans x2) c i
  | .stuck, h => h
/-- one behind the other; hs: values that are held meanwhile -/
theorem lift_bind {α β γ δ : Type} {IsA : AS → List Addr → Hp → α → β → Prop} {IsB : AS → List Addr → Hp → γ → δ → Prop} {g : Sl → List M → Rs α} {f : Sl → α → List M → Rs γ} {Q : δ → Hp → Prop} {hs : List PD.W} {vs : List V}
    (h : ∃ sl cs as R, Rel K cad as R H sl cs σ ∧ IsWs K cad as R H hs vs ∧ Post K cad IsB W σ as R H Q ((g sl cs).bind (f sl))) :
    liftR K cad IsA W g σ H fun v H1 => ∃ sl cs as R a, Rel K cad as R H1 sl cs σ ∧ IsWs K cad as R H1 hs vs ∧ IsA as R H1 a v ∧ Post K cad IsB W σ as R H1 Q (f sl a cs) := by
  obtain ⟨sl, cs, as, R, rel, ih, p⟩ := h
  refine ⟨sl, cs, as, R, rel, ?_⟩
  cases e : g sl cs with
  | ok a cs1 =>
    rw [e] at p
    exact fun v H1 as1 x c i => ⟨sl, cs1, as1, R, a, rel.mono x c, ih.mono x, i, Post.mono x p⟩
  | ex C ks vs cs1 =>
    rw [e] at p
    exact p
  | stuck =>
    rw [e] at p
    exact p
theorem lift_bind0 {α β γ δ : Type} {IsA : AS → List Addr → Hp → α → β → Prop} {IsB : AS → List Addr → Hp → γ → δ → Prop} {g : Sl → List M → Rs α} {f : Sl → α → List M → Rs γ} {Q : δ → Hp → Prop}
    (h : liftR K cad IsB W (fun sl cs => (g sl cs).bind (f sl)) σ H Q) :
    liftR K cad IsA W g σ H fun v H1 => ∃ sl cs as R a, Rel K cad as R H1 sl cs σ ∧ IsA as R H1 a v ∧ Post K cad IsB W σ as R H1 Q (f sl a cs) := by
  obtain ⟨sl, cs, as, R, rel, p⟩ := h
  have q := lift_bind (IsA := IsA) (IsB := IsB) (g := g) (f := f) (hs := []) (vs := []) ⟨sl, cs, as, R, rel, rfl, p⟩
  obtain ⟨sl, cs, as, R, rel, p⟩ := q
  refine ⟨sl, cs, as, R, rel, ?_⟩
  cases e : g sl cs with
  | ok a cs1 =>
    rw [e] at p
    exact fun v H1 as1 x c i => let ⟨sl, cs, as, R, a, h1, _, h2, h3⟩ := p v H1 as1 x c i; ⟨sl, cs, as, R, a, h1, h2, h3⟩
  | ex C ks vs cs1 => rw [e] at p; exact p
  | stuck => rw [e] at p; exact p
theorem lift_mono {α β : Type} {IsA : AS → List Addr → Hp → α → β → Prop} {g : Sl → List M → Rs α} {Q Q' : β → Hp → Prop} (h : liftR K cad IsA W g σ H Q) (q : ∀ v H, Q v H → Q' v H) : liftR K cad IsA W g σ H Q' := by
  obtain ⟨sl, cs, as, R, rel, p⟩ := h
  refine ⟨sl, cs, as, R, rel, ?_⟩
  cases e : g sl cs with
  | ok a cs1 => rw [e] at p; exact fun v H1 as1 x c i => q _ _ (p v H1 as1 x c i)
  | ex C ks vs cs1 => rw [e] at p; exact p
  | stuck => rw [e] at p; exact p
theorem _root_.L2.PE.imp {X : Cx} {e : Expr} {t t' : TE} (h : PE X e t) (i : ∀ σ H Q, t' σ H Q → t σ H Q) : PE X e t' := ⟨fun pins s σ H Q I q => h.run pins s σ H Q I (i _ _ _ q)⟩
theorem _root_.L2.PA.imp {X : Cx} {e : List Expr} {t t' : TA} (h : PA X e t) (i : ∀ σ H Q, t' σ H Q → t σ H Q) : PA X e t' := ⟨fun pos pins s σ H Q I q => h.run pos pins s σ H Q I (i _ _ _ q)⟩
theorem _root_.L2.PT.imp {X : Cx} {e : Expr} {t t' : TT} (h : PT X e t) (i : ∀ σ H Q, t' σ H Q → t σ H Q) : PT X e t' := ⟨fun pins s σ H Q I q => h.run pins s σ H Q I (i _ _ _ q)⟩
theorem _root_.L2.PW.imp {X : Cx} {e : Expr} {t t' : TT} (h : PW X e t) (i : ∀ σ H Q, t' σ H Q → t σ H Q) : PW X e t' := ⟨fun wh pins s σ H Q I q => h.run wh pins s σ H Q I (i _ _ _ q)⟩
theorem _root_.L2.PS.imp {X : Cx} {e : Stmt} {t t' : TS} (h : PS X e t) (i : ∀ D σ H, t' D σ H → t D σ H) : PS X e t' := ⟨fun pins s σ H D I q => h.run pins s σ H D I (i _ _ _ q)⟩
theorem _root_.L2.PSs.imp {X : Cx} {e : List Stmt} {t t' : TS} (h : PSs X e t) (i : ∀ D σ H, t' D σ H → t D σ H) : PSs X e t' := ⟨fun pins s σ H D I q => h.run pins s σ H D I (i _ _ _ q)⟩
/-- data out, nothing else changed -/
theorem Post.data {Q : VK} {d : D} (c : Cells K cad as R H cs) (p : Post K cad (rW K cad) W σ as R H Q (.ok (.d d) cs)) {v : V} {H' : Hp} (s : Same H H') (i : IsD K cad H' (Av as R) d v) : Q v H' :=
  p v H' as (Ext.same s) (c.same s) i
theorem IsW.pkD {w : PD.W} {v : V} {d : D} (c : Cells K cad as R H cs) (h : IsW K cad as R H w v) (e : pk w cs = some d) : PkD K cad H (Av as R) d v := by
  cases w with
  | d x => cases (show some x = some d from e); exact IsD.pk h
  | c i =>
    obtain ⟨hi, ha⟩ := h
    obtain ⟨o, ho⟩ : ∃ o, as[i]? = some o := ⟨as[i], by simp [hi]⟩
    have e' : (match cs[i]? with | some m => mD m | none => none) = some d := e
    cases o with
    | none =>
      rw [c.dead i ho] at e'
      cases e'
    | some a =>
      cases q : cs[i]? with
      | none => rw [q] at e'; cases e'
      | some m =>
        rw [q] at e'
        have z := c.at_ i a m ho q
        have ev := ha a ho
        subst ev
        cases m with
        | lst ds =>
          cases (show some (D.lst ds) = some d from e')
          obtain ⟨xs, h1, h2⟩ := z
          exact ⟨a, xs, rfl, .inl (.inl h1), h2⟩
        | dct ks ds =>
          cases (show some (D.dct ks ds) = some d from e')
          obtain ⟨us, h1, h2⟩ := z
          exact ⟨a, us, rfl, h1, h2⟩
        | obj C ks ds =>
          cases (show some (D.obj C ks ds) = some d from e')
          obtain ⟨dx, us, h1, h2⟩ := z
          exact ⟨a, dx, us, rfl, h1, h2⟩
        | dead => cases e'
def PkDs (K : PySem.W.Frag) (cad : Nat → Addr) (H : Hp) (F : List Addr) : List D → List V → Prop
  | [], vs => vs = []
  | d :: ds, vs => ∃ v r, vs = v :: r ∧ PkD K cad H F d v ∧ PkDs K cad H F ds r
theorem IsWs.pkDs (c : Cells K cad as R H cs) : ∀ {ws : List PD.W} {vs : List V} {ds : List D}, IsWs K cad as R H ws vs → pks ws cs = some ds → PkDs K cad H (Av as R) ds vs
  | [], _, _, h, e => by
    cases (show some [] = some _ from e)
    exact h
  | w :: ws, _, _, h, e => by
    obtain ⟨x, r, rfl, h1, h2⟩ := h
    have e' : (match pk w cs, pks ws cs with | some d, some ds => some (d :: ds) | _, _ => none) = some _ := e
    cases e1 : pk w cs with
    | none => rw [e1] at e'; cases e'
    | some d =>
      cases e2 : pks ws cs with
      | none => rw [e1, e2] at e'; cases e'
      | some ds =>
        rw [e1, e2] at e'
        cases e'
        exact ⟨x, r, rfl, h1.pkD c e1, IsWs.pkDs c h2 e2⟩
theorem IsWs.dats : ∀ {ws : List PD.W} {vs : List V} {ds : List D}, IsWs K cad as R H ws vs → PD.dats ws = some ds → IsDs K cad H (Av as R) ds vs
  | [], _, _, h, e => by
    cases (show some [] = some _ from e)
    exact h
  | .d w :: ws, _, _, h, e => by
    obtain ⟨x, r, rfl, h1, h2⟩ := h
    have e' : (PD.dats ws).map (w :: ·) = some _ := e
    cases e2 : PD.dats ws with
    | none => rw [e2] at e'; cases e'
    | some ds =>
      rw [e2] at e'
      cases e'
      exact ⟨x, r, rfl, h1, IsWs.dats h2 e2⟩
  | .c w :: ws, _, _, h, e => by cases (show none = some _ from e)
theorem IsDs.pks {F : List Addr} : ∀ {ds : List D} {vs : List V}, IsDs K cad H F ds vs → PkDs K cad H F ds vs
  | [], _, h => h
  | d :: ds, _, h => by
    obtain ⟨x, r, rfl, h1, h2⟩ := h
    exact ⟨x, r, rfl, h1.pk, IsDs.pks h2⟩
/-- a new mutable object at p -/
theorem Cells.push {p : Addr} {o : HO} {m : M} (c : Cells K cad as R H cs) (hp : H p = none) (h : CellM K cad (upd H p o) (Av (as ++ [some p]) R) p m) :
    Cells K cad (as ++ [some p]) R (upd H p o) (cs ++ [m]) ∧ Ext H as (upd H p o) (as ++ [some p]) ∧ IsW K cad (as ++ [some p]) R (upd H p o) (.c cs.length) (.ref p) := by
  have ltl : ∀ a ∈ live as, a ≠ p := fun a ha z => by
    obtain ⟨i, e⟩ := mem_live.mp ha
    have hi := (List.getElem?_eq_some_iff.mp e).1
    have hc : i < cs.length := by rw [← c.len]; exact hi
    have q := c.at_ i a cs[i] e (by simp [hc])
    rw [z] at q
    cases hh : cs[i] with
    | lst _ => rw [hh] at q; obtain ⟨_, q, _⟩ := q; rw [hp] at q; cases q
    | dct _ _ => rw [hh] at q; obtain ⟨_, q, _⟩ := q; rw [hp] at q; cases q
    | obj _ _ _ => rw [hh] at q; obtain ⟨_, _, q, _⟩ := q; rw [hp] at q; cases q
    | dead => rw [hh] at q; exact q
  have ext : Ext H as (upd H p o) (as ++ [some p]) := by
    refine ⟨by simp, fun i a hi e => ?_, fun i a hi e => ?_, fun a u e _ => same_upd hp a u e, fun a u e => ⟨u, same_upd hp a u e⟩⟩
    · rw [List.getElem?_append_left hi] at e
      exact e
    · rw [List.getElem?_append_right hi] at e
      have : i - as.length = 0 := by
        have := (List.getElem?_eq_some_iff.mp e).1
        simp at this
        omega
      rw [this] at e
      cases e
      exact hp
  have kp : Kp H (Av as R) (upd H p o) (Av (as ++ [some p]) R) := ext.kp'
  refine ⟨⟨by simp [c.len], fun i j a e1 e2 => ?_, fun i e => ?_, fun i a m' e1 e2 => ?_, fun a ha => ?_, fun a ha => ?_⟩, ext, ?_, fun a e => ?_⟩
  · by_cases hi : i < as.length
    · rw [List.getElem?_append_left hi] at e1
      by_cases hj : j < as.length
      · rw [List.getElem?_append_left hj] at e2
        exact c.inj i j a e1 e2
      · rw [List.getElem?_append_right (by omega)] at e2
        have : a = p := by
          have h0 : j - as.length = 0 := by
            have := (List.getElem?_eq_some_iff.mp e2).1
            simp at this
            omega
          rw [h0] at e2
          cases e2
          rfl
        exact absurd this (ltl a (mem_live.mpr ⟨i, e1⟩))
    · rw [List.getElem?_append_right (by omega)] at e1
      have h0 : i - as.length = 0 := by
        have := (List.getElem?_eq_some_iff.mp e1).1
        simp at this
        omega
      rw [h0] at e1
      by_cases hj : j < as.length
      · rw [List.getElem?_append_left hj] at e2
        cases e1
        exact absurd rfl (ltl p (mem_live.mpr ⟨j, e2⟩))
      · rw [List.getElem?_append_right (by omega)] at e2
        have h1 : j - as.length = 0 := by
          have := (List.getElem?_eq_some_iff.mp e2).1
          simp at this
          omega
        omega
  · by_cases hi : i < as.length
    · rw [List.getElem?_append_left hi] at e
      rw [List.getElem?_append_left (by rw [← c.len]; exact hi)]
      exact c.dead i e
    · rw [List.getElem?_append_right (by omega)] at e
      have h0 : i - as.length = 0 := by
        have := (List.getElem?_eq_some_iff.mp e).1
        simp at this
        omega
      rw [h0] at e
      cases e
  · by_cases hi : i < as.length
    · rw [List.getElem?_append_left hi] at e1
      rw [List.getElem?_append_left (by rw [← c.len]; exact hi)] at e2
      have q := c.at_ i a m' e1 e2
      have na := ltl a (mem_live.mpr ⟨i, e1⟩)
      cases m' with
      | lst ds => obtain ⟨xs, h1, h2⟩ := q; exact ⟨xs, by rw [upd_ne na]; exact h1, h2.mono kp⟩
      | dct ks ds => obtain ⟨xs, h1, h2, h3⟩ := q; exact ⟨xs, by rw [upd_ne na]; exact h1, h2, h3.mono kp⟩
      | obj C ks ds => obtain ⟨dx, xs, h1, h2, h3⟩ := q; exact ⟨dx, xs, by rw [upd_ne na]; exact h1, h2, h3.mono kp⟩
      | dead => exact q
    · rw [List.getElem?_append_right (by omega)] at e1
      have h0 : i - as.length = 0 := by
        have := (List.getElem?_eq_some_iff.mp e1).1
        simp at this
        omega
      rw [h0] at e1
      cases e1
      rw [List.getElem?_append_right (by rw [← c.len]; omega), ← c.len, h0] at e2
      cases e2
      exact h
  · obtain ⟨i, e⟩ := mem_live.mp ha
    by_cases hi : i < as.length
    · rw [List.getElem?_append_left hi] at e
      exact c.apart a (mem_live.mpr ⟨i, e⟩)
    · rw [List.getElem?_append_right (by omega)] at e
      have h0 : i - as.length = 0 := by
        have := (List.getElem?_eq_some_iff.mp e).1
        simp at this
        omega
      rw [h0] at e
      cases e
      exact fun hr => by
        obtain ⟨o', z⟩ := c.rl p hr
        rw [hp] at z
        cases z
  · obtain ⟨o', z⟩ := c.rl a ha
    exact ⟨o', same_upd hp a o' z⟩
  · show cs.length < (as ++ [some p]).length
    rw [← c.len]
    simp
  · rw [← c.len, List.getElem?_append_right (Nat.le_refl _), Nat.sub_self] at e
    cases e
    rfl
theorem live_there (c : Cells K cad as R H cs) {a : Addr} (ha : a ∈ live as) : ∃ o, H a = some o := by
  obtain ⟨i, e⟩ := mem_live.mp ha
  have hi := (List.getElem?_eq_some_iff.mp e).1
  have hc : i < cs.length := by rw [← c.len]; exact hi
  have q := c.at_ i a cs[i] e (by simp [hc])
  cases hh : cs[i] with
  | lst _ => rw [hh] at q; obtain ⟨_, q, _⟩ := q; exact ⟨_, q⟩
  | dct _ _ => rw [hh] at q; obtain ⟨_, q, _⟩ := q; exact ⟨_, q⟩
  | obj _ _ _ => rw [hh] at q; obtain ⟨_, _, q, _⟩ := q; exact ⟨_, q⟩
  | dead => rw [hh] at q; exact q.elim
/-- the mutable object n is written -/
theorem Cells.write {a : Addr} {o : HO} {m m0 : M} {n : Nat} (c : Cells K cad as R H cs) (ha : as[n]? = some (some a)) (hn : cs[n]? = some m0) (h : Kp H (Av as R) (upd H a o) (Av as R) → CellM K cad (upd H a o) (Av as R) a m) :
    Cells K cad as R (upd H a o) (cs.set n m) ∧ Ext H as (upd H a o) as := by
  have la : a ∈ live as := mem_live.mpr ⟨n, ha⟩
  have ext : Ext H as (upd H a o) as := by
    refine ⟨Nat.le_refl _, fun _ _ _ e => e, fun i b hi e => ?_, fun b u e hb => ?_, fun b u e => ?_⟩
    · have := (List.getElem?_eq_some_iff.mp e).1
      omega
    · rw [upd_ne (show b ≠ a from fun z => hb (by rw [z]; exact la))]
      exact e
    · by_cases hb : b = a
      · exact ⟨o, by rw [hb, upd_same]⟩
      · exact ⟨u, by rw [upd_ne hb]; exact e⟩
  have kp : Kp H (Av as R) (upd H a o) (Av as R) := ext.kp'
  refine ⟨⟨by simp [c.len], c.inj, fun i e => ?_, fun i b m' e1 e2 => ?_, c.apart, fun b hb => ?_⟩, ext⟩
  · have hne : n ≠ i := fun z => by
      rw [← z, ha] at e
      cases e
    rw [List.getElem?_set_ne hne]
    exact c.dead i e
  · by_cases hi : n = i
    · subst hi
      rw [ha] at e1
      cases e1
      rw [List.getElem?_set_self (by have := (List.getElem?_eq_some_iff.mp hn).1; exact this)] at e2
      cases e2
      exact h kp
    · rw [List.getElem?_set_ne hi] at e2
      have q := c.at_ i b m' e1 e2
      have na : b ≠ a := fun z => hi (c.inj n i a ha (by rw [← z]; exact e1))
      cases m' with
      | lst ds => obtain ⟨xs, h1, h2⟩ := q; exact ⟨xs, by rw [upd_ne na]; exact h1, h2.mono kp⟩
      | dct ks ds => obtain ⟨xs, h1, h2, h3⟩ := q; exact ⟨xs, by rw [upd_ne na]; exact h1, h2, h3.mono kp⟩
      | obj C ks ds => obtain ⟨dx, xs, h1, h2, h3⟩ := q; exact ⟨dx, xs, by rw [upd_ne na]; exact h1, h2, h3.mono kp⟩
      | dead => exact q
  · obtain ⟨u, z⟩ := c.rl b hb
    by_cases hba : b = a
    · exact ⟨o, by rw [hba, upd_same]⟩
    · exact ⟨u, by rw [upd_ne hba]; exact z⟩
/-- the mutable object n is data from here on -/
theorem Cells.freeze {n : Nat} {v : V} {d : D} (c : Cells K cad as R H cs) (h : IsW K cad as R H (.c n) v) (e : pk (.c n) cs = some d) :
    Cells K cad (as.set n none) R H (cs.set n .dead) ∧ Ext H as H (as.set n none) ∧ IsD K cad H (Av (as.set n none) R) d v := by
  obtain ⟨hi, ha⟩ := h
  obtain ⟨o, ho⟩ : ∃ o, as[n]? = some o := ⟨as[n], by simp [hi]⟩
  have e' : (match cs[n]? with | some m => mD m | none => none) = some d := e
  have old : ∀ (i : Nat) a, (as.set n none)[i]? = some (some a) → as[i]? = some (some a) ∧ n ≠ i := fun i a q => by
    by_cases hn : n = i
    · subst hn
      rw [List.getElem?_set_self hi] at q
      cases q
    · rw [List.getElem?_set_ne hn] at q
      exact ⟨q, hn⟩
  have ext : Ext H as H (as.set n none) := ⟨by simp, fun i a _ q => (old i a q).1, fun i a hi' q => by
    have := (List.getElem?_eq_some_iff.mp (old i a q).1).1
    omega, fun _ _ q _ => q, fun a o q => ⟨o, q⟩⟩
  have kp : Kp H (Av as R) H (Av (as.set n none) R) := ext.kp'
  have cells : Cells K cad (as.set n none) R H (cs.set n .dead) := by
    refine ⟨by simp [c.len], fun i j a q1 q2 => c.inj i j a (old i a q1).1 (old j a q2).1, fun i q => ?_, fun i a m q1 q2 => ?_, fun a hl => ?_, c.rl⟩
    · by_cases hn : n = i
      · subst hn
        rw [List.getElem?_set_self (by rw [← c.len]; exact hi)]
      · rw [List.getElem?_set_ne hn] at q ⊢
        exact c.dead i q
    · obtain ⟨q3, hn⟩ := old i a q1
      rw [List.getElem?_set_ne hn] at q2
      have q := c.at_ i a m q3 q2
      cases m with
      | lst ds => obtain ⟨xs, h1, h2⟩ := q; exact ⟨xs, h1, h2.mono kp⟩
      | dct ks ds => obtain ⟨xs, h1, h2, h3⟩ := q; exact ⟨xs, h1, h2, h3.mono kp⟩
      | obj C ks ds => obtain ⟨dx, xs, h1, h2, h3⟩ := q; exact ⟨dx, xs, h1, h2, h3.mono kp⟩
      | dead => exact q
    · obtain ⟨i, q⟩ := mem_live.mp hl
      exact c.apart a (mem_live.mpr ⟨i, (old i a q).1⟩)
  refine ⟨cells, ext, ?_⟩
  cases o with
  | none => rw [c.dead n ho] at e'; cases e'
  | some a =>
    have nav : a ∉ Av (as.set n none) R := fun hm => by
      rcases List.mem_append.mp hm with hm | hm
      · obtain ⟨i, q⟩ := mem_live.mp hm
        obtain ⟨q3, hn⟩ := old i a q
        exact hn (c.inj n i a ho q3)
      · exact c.apart a (mem_live.mpr ⟨n, ho⟩) hm
    have ev := ha a ho
    subst ev
    cases q : cs[n]? with
    | none => rw [q] at e'; cases e'
    | some m =>
      rw [q] at e'
      have z := c.at_ n a m ho q
      cases m with
      | lst ds =>
        cases (show some (D.lst ds) = some d from e')
        obtain ⟨xs, h1, h2⟩ := z
        exact ⟨a, xs, rfl, .inl ⟨nav, .inl h1⟩, h2.mono kp⟩
      | dct ks ds =>
        cases (show some (D.dct ks ds) = some d from e')
        obtain ⟨us, h1, h2, h3⟩ := z
        exact ⟨a, us, rfl, nav, h1, h2, h3.mono kp⟩
      | obj C ks ds =>
        cases (show some (D.obj C ks ds) = some d from e')
        obtain ⟨dx, us, h1, h2, h3⟩ := z
        exact ⟨a, dx, us, rfl, nav, h1, h2, h3.mono kp⟩
      | dead => cases e'
end
end PD
set_option Elab.async false
set_option linter.all false
set_option maxRecDepth 100000
set_option maxHeartbeats 4000000
/-! PyDa: rules that the hand layer lacks: t[::-1]. -/
namespace PD
open PySem PySem.Spec PyProof.Rows L2
section
variable {prog : Program} {w : World} {A : Around} {E : Value → Shared → Prop} {s : Shared}
theorem adjust_rev (n : Nat) : Builtin.Slice.sliceAdjust none none (-1) (n : Int) = ((n : Int) - 1, -1) := by
  unfold Builtin.Slice.sliceAdjust
  simp
theorem places_rev (n : Nat) : Builtin.Slice.slicePlaces ((n : Int) - 1) (-1) (-1) = n := by
  unfold Builtin.Slice.slicePlaces
  have h1 : ¬ ((-1 : Int) > 0) := by decide
  simp only [h1, if_false]
  by_cases h : (n : Int) - 1 > -1
  · rw [if_pos h, show (- -1 : Int) = 1 by decide, Int.ediv_one]
    omega
  · rw [if_neg h]
    omega
theorem sliceApplied_rev {sl : Addr} {vl vu vs : Value} {n : Nat} {Q : Int × Int × Nat → Shared → Prop} (hs : s.heap.IsSliceOf sl vl vu vs) (pl : IsPart vl none) (pu : IsPart vu none) (ps : IsPart vs (some (-1)))
    (h : Q ((n : Int) - 1, -1, n) s) : wpAny (model prog w) A (Builtin.Slice.sliceApplied (.ref sl) (pure (n : Int))) Q E s := by
  obtain ⟨os, hos, hcs, hds⟩ := id hs
  unfold Builtin.Slice.sliceApplied Builtin.Slice.sliceFields
  refine wpAny_bind (wpAny_bind (wpAny_field hos hds (x := vl) rfl (wpAny_bind (wpAny_field hos hds (x := vu) rfl (wpAny_bind (wpAny_field hos hds (x := vs) rfl (wpAny_pure ?_)))))))
  refine wpAny_bind (HT.slicePart_ ps ?_)
  show wpAny _ _ (if ((-1 : Int) == 0) = true then _ else _) _ _ s
  rw [if_neg (by decide)]
  refine wpAny_bind (HT.slicePart_ pl (wpAny_bind (HT.slicePart_ pu (wpAny_bind (wpAny_pure ?_)))))
  show wpAny _ _ (match Builtin.Slice.sliceAdjust none none (-1) (n : Int) with | (lo, hi) => pure (lo, (-1 : Int), Builtin.Slice.slicePlaces lo hi (-1))) _ _ s
  rw [adjust_rev n]
  show wpAny _ _ (pure ((n : Int) - 1, (-1 : Int), Builtin.Slice.slicePlaces ((n : Int) - 1) (-1) (-1))) _ _ s
  rw [places_rev]
  exact wpAny_pure h
theorem fm_congr {α β : Type} {f g : α → Option β} : ∀ {l : List α}, (∀ x ∈ l, f x = g x) → l.filterMap f = l.filterMap g
  | [], _ => rfl
  | a :: l, h => by
    rw [List.filterMap_cons, List.filterMap_cons, h a List.mem_cons_self, fm_congr fun x hx => h x (List.mem_cons_of_mem _ hx)]
theorem pick_rev (xs : Array Value) : ((List.range xs.size).filterMap fun (k : Nat) => xs[((xs.size : Int) - 1 + (k : Int) * (-1)).toNat]?).toArray = xs.toList.reverse.toArray := by
  congr 1
  have e : (List.range xs.size).filterMap (fun (k : Nat) => xs[((xs.size : Int) - 1 + (k : Int) * (-1)).toNat]?) = (List.range xs.size).filterMap (fun (k : Nat) => xs.toList.reverse[k]?) := by
    refine fm_congr fun k hk => ?_
    have hk := List.mem_range.mp hk
    rw [List.getElem?_reverse (by simpa using hk)]
    have : ((xs.size : Int) - 1 + (k : Int) * (-1)).toNat = xs.toList.length - 1 - k := by simp; omega
    rw [this]
    simp
  rw [e]
  have : ∀ (l : List Value), (List.range l.length).filterMap (fun (k : Nat) => l[k]?) = l := fun l => by
    induction l with
    | nil => rfl
    | cons x l ih =>
      rw [List.length_cons, List.range_succ_eq_map, List.filterMap_cons]
      simp only [List.getElem?_cons_zero]
      rw [List.filterMap_map]
      congr 1
  have z := this xs.toList.reverse
  rw [List.length_reverse, Array.length_toList] at z
  exact z
theorem getItem_tuple_rev {t sl : Addr} {items : Array Value} {vl vu vs : Value} {Q : Value → Shared → Prop} (ht : IsTup s.heap t items) (hs : s.heap.IsSliceOf sl vl vu vs) (pl : IsPart vl none) (pu : IsPart vu none) (ps : IsPart vs (some (-1)))
    (h : Q (.ref s.heap.objs.size) { s with heap := s.heap.push { cls := .type "tuple", data := .seq items.toList.reverse.toArray } })
    (hsz : items.size ≤ sizeLine) : wpAny (model prog w) A (getItem (.ref t) (.ref sl)) Q E s := by
  have htake : sizeOk (.seq items.toList.reverse.toArray) := by
    show items.toList.reverse.toArray.size ≤ sizeLine
    rw [List.size_toArray, List.length_reverse, Array.length_toList]
    omega
  obtain ⟨os, hos, hcs, hds⟩ := id hs
  have hTs : s.TypeIs (.ref sl) "slice" := ⟨os, hos, hcs⟩
  unfold getItem
  try with_reducible refine wpAny_holding ?_
  first | refine wpAny_bind (wpAny_pure ?_) | skip
  refine wpAny_bind (wpAny_sequenceKey ht.typeIs (by decide) ?_)
  refine wpAny_bind (wpAny_callSpecial?_slot (name := Str.ofString "__getitem__") ht.typeIs PyProof.Rows.slot_tuple_getitem
    (wpAny_call_entry PyProof.Rows.slot_tuple_getitem ht.typeIs entry_tuple_getitem ?_ (args_tuple_getitem _ _)))
  show wpAny _ _ (Builtin.Tuple.tupleItemsOf (.ref t) >>= _) _ _ s
  refine wpAny_bind (tupleItemsOf_ ht ?_)
  refine wpAny_bind (wpAny_typeOf hTs ?_)
  rw [if_pos (by decide)]
  refine wpAny_bind (sliceApplied_rev hs pl pu ps ?_)
  have hno : ¬ ((((items.size : Int) - 1) == 0 && (-1 : Int) == 1 && items.size == items.size) = true) := by simp
  show wpAny _ _ (if (((items.size : Int) - 1) == 0 && (-1 : Int) == 1 && items.size == items.size) = true then _ else _) _ _ s
  rw [if_neg hno, pick_rev]
  first
    | exact wpAny_bind (m := Builtin.Tuple.tupleExact _) (wpAny_newObj_type (wpAny_pure ⟨_, rfl, wpAny_pure h⟩) htake)
    | exact wpAny_bind (m := Builtin.Tuple.tupleExact _) (wpAny_newObj_type (wpAny_bind (wpAny_pure (wpAny_pure ⟨_, rfl, wpAny_pure h⟩))) htake)
    | exact wpAny_bind (wpAny_bind (m := Builtin.Tuple.tupleExact _) (wpAny_newObj_type (wpAny_pure (wpAny_pure ⟨_, rfl, wpAny_pure h⟩)) htake))
    | exact wpAny_bind (wpAny_bind (m := Builtin.Tuple.tupleExact _) (wpAny_newObj_type (wpAny_pure ⟨_, rfl, wpAny_pure h⟩) htake))
end
section
variable {X : Cx}
def tRevA (K : PySem.W.Frag) (te : TE) : TE := fun σ H Q => te σ H fun x H1 => ∃ a xs, x = .ref a ∧ ((SqL K H1 a xs ∧ ∀ p, H1 p = none → Q (.ref p) (upd H1 p (.lst xs.reverse))) ∨ (SqT K H1 a xs ∧ ∀ p, H1 p = none → Q (.ref p) (upd H1 p (.tup xs.reverse))))
theorem pe_revA {e : Expr} {te : TE} {k : Nat} {p1 p2 p3 pos : Pos} (he : PE X e te) : PE X (.Subscript e (.Slice none none (some (.UnaryOp .USub (.Constant (.int 1) k p1) p2)) p3) pos) (tRevA X.K te) := by
  refine ⟨fun pins s σ H Q I h => ?_⟩
  refine Subscript_ (thn (he.run pins s σ H _ I h) fun v s1 ⟨x, H1, I1, r1, q1⟩ => ?_)
  obtain ⟨a, xs, ex, q⟩ := q1
  subst ex
  cases r1
  have hst : PO X (some (.UnaryOp .USub (.Constant (.int 1) k p1) p2)) (tPart (tUn (rU fun i => .int (-i)) (tC (.int 1)))) := po_some (pe_un un_neg pe_int)
  refine wpAny_Slice (thn (po_none.run pins s1 σ H1 (fun o H2 => o = none ∧ H2 = H1) I1 ⟨rfl, rfl⟩) fun vl s2 ⟨l, H2, I2, pl, el, e2⟩ => ?_)
  subst el e2
  refine thn (po_none.run pins s2 σ H2 (fun o H3 => o = none ∧ H3 = H2) I2 ⟨rfl, rfl⟩) fun vu s3 ⟨u, H3, I3, pu, eu, e3⟩ => ?_
  subst eu e3
  refine thn (hst.run pins s3 σ H3 (fun o H4 => o = some (-1) ∧ H4 = H3) I3 ⟨1, rfl, -1, rfl, rfl, rfl⟩) fun vs s4 ⟨o, H4, I4, ps, eo, e4⟩ => ?_
  subst eo e4
  have I5 : Inv X pins σ H4 { s4 with heap := s4.heap.push { cls := .type "slice", data := .fields #[vl, vu, vs] } } := I4.kept (t' := s4.toks) fun b ob q => Heap.get?_push_of_some _ q
  rcases q with ⟨hx, q⟩ | ⟨hx, q⟩
  · obtain ⟨its, r, ht, hz⟩ := I5.list hx
    have hlen := r.length
    show wpAny (model X.prog X.w) X.A (subscriptTail e (.Slice none none (some (.UnaryOp .USub (.Constant (.int 1) k p1) p2)) p3) (.ref a) (.ref s4.heap.objs.size)) (EP X pins σ Q) X.xe { s4 with heap := s4.heap.push { cls := .type "slice", data := .fields #[vl, vu, vs] } }
    refine tail_any (ops := [.ref a, .ref s4.heap.objs.size]) ht.isList.typeIs (PySem.slot_list_getitem.lookup) ?_ (by with_unfolding_all rfl)
    refine wpAny_getItem_list_slice ht.isList (Heap.IsSliceOf.new _ vl vu vs) pl pu ps (by decide) ?_ (by rw [List.size_toArray]; omega)
    rw [PySem.W.krv_pick]
    refine ⟨.ref _, _, I5.laid (t' := s4.toks) (o := .lst xs.reverse) (fun b ob q => Heap.get?_push_of_some _ q) (Nat.le_refl _) ?_, rfl, q _ (I5.hok.fresh (Nat.le_refl _))⟩
    exact ⟨by rw [List.length_reverse]; exact hz, _, 0, r.reverse, Heap.get?_push_size _ rfl⟩
  · obtain ⟨its, r, ht, hz⟩ := I5.tuple hx
    have hlen := r.length
    show wpAny (model X.prog X.w) X.A (subscriptTail e (.Slice none none (some (.UnaryOp .USub (.Constant (.int 1) k p1) p2)) p3) (.ref a) (.ref s4.heap.objs.size)) (EP X pins σ Q) X.xe { s4 with heap := s4.heap.push { cls := .type "slice", data := .fields #[vl, vu, vs] } }
    refine tail_any (ops := [.ref a, .ref s4.heap.objs.size]) ht.typeIs (PyProof.Rows.slot_tuple_getitem.lookup) ?_ (by with_unfolding_all rfl)
    refine getItem_tuple_rev ht (Heap.IsSliceOf.new _ vl vu vs) pl pu ps ?_ (by rw [List.size_toArray]; omega)
    refine ⟨.ref _, _, I5.laid (t' := s4.toks) (o := .tup xs.reverse) (fun b ob q => Heap.get?_push_of_some _ q) (Nat.le_refl _) ?_, rfl, q _ (I5.hok.fresh (Nat.le_refl _))⟩
    exact ⟨by rw [List.length_reverse]; exact hz, _, r.reverse, IsTup.new _ _⟩
end
/-! list * int, whichever list -/
theorem int_rmul_listW (a : Int) (t : Tok) (l : Addr) (items : Array Value) (n : Nat) (sl : Array (Option Value)) :
    Meets (Builtin.«int.__rmul__» ⟨[.int a t, .ref l], []⟩) (fun _ R s => s.heap.get? l = some { cls := .type "list", dict := none, data := .seq items n, slots := sl } ∧ R (.ok (.ret Value.notImplemented)) s) :=
  .of_wp fun prog w A R s h => by obtain ⟨hp, g, d, tk, os⟩ := s; obtain ⟨hl, h⟩ := h; wp_walk using wpAny_loadPart' hl; exact ⟨_, rfl, h⟩
theorem list_mulW (l : Addr) (items : Array Value) (n : Nat) (sl : Array (Option Value)) (x : Int) (u : Tok) (hc0 : ¬(!Builtin.List.listFitsIndex x) = true) (hc1 : ¬items.size * x.toNat > (2 ^ 63 - 1) / 8) (hc2 : ¬Builtin.List.listTooLong (items.size * x.toNat) = true) :
    Meets (Builtin.«list.__mul__» ⟨[.ref l, .int x u], []⟩) (fun _ R s => s.heap.get? l = some { cls := .type "list", dict := none, data := .seq items n, slots := sl } ∧ R (.ok (.ret (Value.ref s.heap.objs.size))) { s with heap := s.heap.push { cls := Value.type "list", data := Data.seq (List.foldl (fun x1 x2 => x1 ++ x2) #[] (List.replicate (if items.isEmpty = true then 0 else x.toNat) items)) }, toks := s.toks }) :=
  .of_wp fun prog w A R s h => by
    obtain ⟨hp, g, d, tk, os⟩ := s
    obtain ⟨hl, h⟩ := h
    have f1 := AutoSeq1.idx_int
    have hsz := AutoListH.joined_fits hc2
    wp_walk using wpAny_loadPart' hl
    repeat (first
      | (refine wpAny_ite_false (decide_eq_false (Nat.not_lt.mpr hsz)) ?_; wp_walk using wpAny_loadPart' hl))
    exact ⟨_, rfl, h⟩
end PD
set_option Elab.async false
set_option linter.all false
set_option maxRecDepth 100000
set_option maxHeartbeats 4000000
/-! PyD3: each operation on data is what the machine does. -/
namespace PD
open PySem PySem.Spec PyProof.Rows L2

section
variable (K : PySem.W.Frag) (cad : Nat → Addr) (sub : Nat → Nat → Option Bool)
/-- an operation's promise, by values -/
def rO (o : O) : List V → Hp → VK → Prop := fun vs H Q => ∃ (F : List Addr) (ds : List D) (d : D), (∀ a ∈ F, ∃ u, H a = some u) ∧ PkDs K cad H F ds vs ∧ sem sub o ds = some d ∧ ∀ v H', Same H H' → IsD K cad H' F d v → Q v H'
def r2O (o : O) : R2 := fun x y H Q => rO K cad sub o [x, y] H Q
def r1O (o : O) : V → Hp → VK → Prop := fun x H Q => rO K cad sub o [x] H Q
end
section
variable {K : PySem.W.Frag} {cad : Nat → Addr} {sub : Nat → Nat → Option Bool} {H : Hp} {F : List Addr} {Q : VK}
theorem pk1 {ds : List D} {x : V} (h : PkDs K cad H F ds [x]) : ∃ d, ds = [d] ∧ PkD K cad H F d x := by
  cases ds with
  | nil => cases (show [x] = [] from h)
  | cons d ds =>
    obtain ⟨v, r, e, h1, h2⟩ := h
    cases e
    cases ds with
    | nil => exact ⟨d, rfl, h1⟩
    | cons d' ds => obtain ⟨_, _, e, _⟩ := h2; cases e
theorem pk2 {ds : List D} {x y : V} (h : PkDs K cad H F ds [x, y]) : ∃ d e, ds = [d, e] ∧ PkD K cad H F d x ∧ PkD K cad H F e y := by
  cases ds with
  | nil => cases (show [x, y] = [] from h)
  | cons d ds =>
    obtain ⟨v, r, e, h1, h2⟩ := h
    cases e
    obtain ⟨d', rfl, h3⟩ := pk1 h2
    exact ⟨d, d', rfl, h1, h3⟩
theorem pk3 {ds : List D} {x y z : V} (h : PkDs K cad H F ds [x, y, z]) : ∃ d e f, ds = [d, e, f] ∧ PkD K cad H F d x ∧ PkD K cad H F e y ∧ PkD K cad H F f z := by
  cases ds with
  | nil => cases (show [x, y, z] = [] from h)
  | cons d ds =>
    obtain ⟨v, r, e, h1, h2⟩ := h
    cases e
    obtain ⟨d', d2, rfl, h3, h4⟩ := pk2 h2
    exact ⟨d, d', d2, rfl, h1, h3, h4⟩
theorem fresh_av {p : Addr} (hF : ∀ a ∈ F, ∃ u, H a = some u) (hp : H p = none) : p ∉ F := fun h => by
  obtain ⟨u, e⟩ := hF p h
  rw [hp] at e
  cases e
/-- a new tuple, list of data -/
theorem new_tup {p : Addr} {xs : List V} {ds : List D} (hF : ∀ a ∈ F, ∃ u, H a = some u) (hp : H p = none) (h : IsDs K cad H F ds xs) : IsD K cad (upd H p (.tup xs)) F (.tup ds) (.ref p) :=
  ⟨p, xs, rfl, .inl ⟨fresh_av hF hp, .inl upd_same⟩, h.mono (Kp.same (same_upd hp))⟩
theorem new_lst {p : Addr} {xs : List V} {ds : List D} (hF : ∀ a ∈ F, ∃ u, H a = some u) (hp : H p = none) (h : IsDs K cad H F ds xs) : IsD K cad (upd H p (.lst xs)) F (.lst ds) (.ref p) :=
  ⟨p, xs, rfl, .inl ⟨fresh_av hF hp, .inl upd_same⟩, h.mono (Kp.same (same_upd hp))⟩
theorem lim_eq : LIM = sizeLine := by rw [sizeLine_eq]; rfl

theorem un1 {o : O} {ds : List D} {d : D} {xs : List V} (hp : PkDs K cad H F ds xs) (hs : sem sub o ds = some d) (h2 : ∀ a b, sem2 o a b = none) (h3 : ∀ a b c, sem3 o a b c = none) : ∃ x a, xs = [x] ∧ PkD K cad H F a x ∧ sem1 sub o a = some d := by
  match ds, hp, hs with
  | [], _, hs => exact nomatch (show (none : Option D) = some d from hs)
  | [a], hp, hs =>
    obtain ⟨x, r, rfl, h1, hr⟩ := hp
    cases (show r = [] from hr)
    exact ⟨x, a, rfl, h1, hs⟩
  | [a, b], _, hs => exact nomatch (h2 a b).symm.trans hs
  | [a, b, c], _, hs => exact nomatch (h3 a b c).symm.trans hs
  | a :: b :: c :: e :: r, _, hs => exact nomatch (show (none : Option D) = some d from hs)
theorem un2 {o : O} {ds : List D} {d : D} {xs : List V} (hp : PkDs K cad H F ds xs) (hs : sem sub o ds = some d) (h2 : ∀ a, sem1 sub o a = none) (h3 : ∀ a b c, sem3 o a b c = none) : ∃ x y a b, xs = [x, y] ∧ PkD K cad H F a x ∧ PkD K cad H F b y ∧ sem2 o a b = some d := by
  match ds, hp, hs with
  | [], _, hs => exact nomatch (show (none : Option D) = some d from hs)
  | [a], hp, hs => exact nomatch (h2 a).symm.trans hs
  | [a, b], hp, hs =>
    obtain ⟨x, r, rfl, h1, y, r2, rfl, h4, hr⟩ := hp
    cases (show r2 = [] from hr)
    exact ⟨x, y, a, b, rfl, h1, h4, hs⟩
  | [a, b, c], _, hs => exact nomatch (h3 a b c).symm.trans hs
  | a :: b :: c :: e :: r, _, hs => exact nomatch (show (none : Option D) = some d from hs)

/-! data as the library's PyData -/
mutual
theorem dp_of : ∀ {d : D} {v : V}, IsD K cad H F d v → (py d).plain = true → Dp K H v (py d)
  | .non, v, h, _ => by cases (show v = .non from h); exact .non
  | .bl b, v, h, _ => by cases (show v = .bl b from h); exact .bl b
  | .int i, v, h, _ => by cases (show v = .int i from h); exact .int i
  | .str x, v, h, _ => by cases (show v = .str x from h); exact .str x
  | .tup ds, v, h, p => by
    obtain ⟨a, xs, rfl, ht, hs⟩ := h
    exact .tup ht.sq (dps_of hs p)
  | .lst ds, v, h, p => by
    obtain ⟨a, xs, rfl, ht, hs⟩ := h
    exact .lst ht.sq (dps_of hs p)
  | .dct _ _, _, _, p => by cases (show false = true from p)
  | .obj _ _ _, _, _, p => by cases (show false = true from p)
  | .exc _ _ _, _, _, p => by cases (show false = true from p)
theorem dps_of : ∀ {ds : List D} {vs : List V}, IsDs K cad H F ds vs → PyData.plainAll (pys ds) = true → DpAll K H vs (pys ds)
  | [], _, h, _ => by cases (show _ = [] from h); exact .nil
  | d :: ds, _, h, p => by
    obtain ⟨x, r, rfl, h1, h2⟩ := h
    obtain ⟨p1, p2⟩ := Bool.and_eq_true_iff.mp (show ((py d).plain && PyData.plainAll (pys ds)) = true from p)
    exact .cons (dp_of h1 p1) (dps_of h2 p2)
end
theorem dp_pk {d : D} {v : V} (h : PkD K cad H F d v) (p : (py d).plain = true) : Dp K H v (py d) := by
  cases d with
  | tup ds => exact dp_of (K := K) (cad := cad) (F := F) (d := .tup ds) h p
  | lst ds =>
    obtain ⟨a, xs, rfl, ht, hs⟩ := h
    exact .lst ht (dps_of hs p)
  | dct _ _ => cases (show false = true from p)
  | obj _ _ _ => cases (show false = true from p)
  | non => exact dp_of (K := K) (cad := cad) (F := F) (d := .non) h p
  | bl b => exact dp_of (K := K) (cad := cad) (F := F) (d := .bl b) h p
  | int i => exact dp_of (K := K) (cad := cad) (F := F) (d := .int i) h p
  | str x => exact dp_of (K := K) (cad := cad) (F := F) (d := .str x) h p
  | exc _ _ _ => cases (show false = true from p)
theorem plainD_ok {d : D} (h : plainD d = true) : (py d).plain = true ∧ (py d).depth ≤ 60 := by
  obtain ⟨h1, h2⟩ := Bool.and_eq_true_iff.mp h
  exact ⟨h1, of_decide_eq_true h2⟩
end

section
variable {X : Cx} {cad : Nat → Addr} {sub : Nat → Nat → Option Bool}
theorem op_eqP (hu : X.A.units + 64 < cLine) : OpR X (compareOp .Eq) (r2O X.K cad sub .eq) := by
  intro pins s σ H x y v u Q I rx ry ⟨F, ds, d, hF, hp, hs, q⟩
  obtain ⟨da, db, rfl, h1, h2⟩ := pk2 hp
  have hs' : (if (plainD da && plainD db) = true then some (D.bl (eqD da db)) else none) = some d := hs
  by_cases hc : (plainD da && plainD db) = true
  · rw [if_pos hc] at hs'
    cases hs'
    obtain ⟨c1, c2⟩ := Bool.and_eq_true_iff.mp hc
    obtain ⟨p1, e1⟩ := plainD_ok c1
    obtain ⟨p2, e2⟩ := plainD_ok c2
    obtain ⟨as, r1⟩ := Dp.reads I _ x v (dp_pk h1 p1) rx
    obtain ⟨bs, r2⟩ := Dp.reads I _ y u (dp_pk h2 p2) ry
    have hd : X.A.units + min (py da).depth (py db).depth < cLine := by
      have := Nat.min_le_left (py da).depth (py db).depth
      omega
    exact SeqAt.eq_plain r1 r2 p1 p2 hd ⟨.bl _, H, I, rfl, q _ H (Same.refl H) rfl⟩
  · rw [if_neg hc] at hs'
    cases hs'
theorem op_neP (hu : X.A.units + 64 < cLine) : OpR X (compareOp .NotEq) (r2O X.K cad sub .ne) := by
  intro pins s σ H x y v u Q I rx ry ⟨F, ds, d, hF, hp, hs, q⟩
  obtain ⟨da, db, rfl, h1, h2⟩ := pk2 hp
  have hs' : (if (plainD da && plainD db) = true then some (D.bl (!eqD da db)) else none) = some d := hs
  by_cases hc : (plainD da && plainD db) = true
  · rw [if_pos hc] at hs'
    cases hs'
    obtain ⟨c1, c2⟩ := Bool.and_eq_true_iff.mp hc
    obtain ⟨p1, e1⟩ := plainD_ok c1
    obtain ⟨p2, e2⟩ := plainD_ok c2
    obtain ⟨as, r1⟩ := Dp.reads I _ x v (dp_pk h1 p1) rx
    obtain ⟨bs, r2⟩ := Dp.reads I _ y u (dp_pk h2 p2) ry
    have hd : X.A.units + min (py da).depth (py db).depth < cLine := by
      have := Nat.min_le_left (py da).depth (py db).depth
      omega
    exact SeqAt.ne_plain r1 r2 p1 p2 hd ⟨.bl _, H, I, rfl, q _ H (Same.refl H) rfl⟩
  · rw [if_neg hc] at hs'
    cases hs'
/-- wide floor division, any sign of the divisor -/
theorem op_fdivX : OpR X (binaryOp .FloorDiv) (rI (fun _ j => j ≠ 0 ∧ j.natAbs.log2 < 9000) fun i j => .int (i.fdiv j)) := opI fun i j _ _ _ _ _ hc q => floordiv_int hc.1 q (.inl (PyProof.noPylong_of_log2 hc.2))
/-- list + list, whichever -/
theorem op_catL : OpR X (binaryOp .Add) (fun x y H Q => ∃ l b xs zs, x = .ref l ∧ y = .ref b ∧ SqL X.K H l xs ∧ SqL X.K H b zs ∧ xs.length + zs.length ≤ sizeLine ∧ ∀ p, H p = none → Q (.ref p) (upd H p (.lst (xs ++ zs)))) := by
  intro pins s σ H x y v u Q I rx ry h
  obtain ⟨l, b, xs, zs, rfl, rfl, hH, hB, hz, q⟩ := h
  cases rx
  cases ry
  obtain ⟨its, r, ⟨o1, n1, e1, c1, d1, hd1⟩, z1⟩ := I.list hH
  obtain ⟨its2, r2, ⟨o2, n2, e2, c2, d2, hd2⟩, z2⟩ := I.list hB
  have hl := r.length
  have hl2 := r2.length
  obtain ⟨oc1, od1, odt1, osl1⟩ := o1
  obtain ⟨oc2, od2, odt2, osl2⟩ := o2
  simp only at c1 d1 hd1 c2 d2 hd2
  subst c1 d1 hd1 c2 d2 hd2
  refine concat_meets ⟨_, e1, rfl⟩ ⟨_, e2, rfl⟩ noFill_list_add seq_list_add PySem.F.slot_list_add PySem.F.entry_list_add (PySem.F.args_list_add_2 _ _) (list_addW l b its.toArray its2.toArray n1 n2 none none osl1 osl2 (by simp only [List.size_toArray]; omega)) ⟨e1, e2, ?_⟩
  have ea : its.toArray ++ its2.toArray = (its ++ its2).toArray := by simp
  rw [ea]
  exact ⟨.ref _, _, I.lnew (t' := s.toks) (r.append r2) (by rw [List.length_append]; omega), rfl, q _ I.fresh⟩
/-- ints through arith -/
theorem of_arith {f : Value → Value → Sem Value} {o : O} {C : Int → Int → Prop} {g : Int → Int → V} (h : OpR X f (rI C g)) (ha : ∀ i j d, arith o i j = some d → C i j ∧ ∀ H F, IsD X.K cad H F d (g i j))
    {pins : List (Addr × Obj)} {s : Shared} {σ : L2.St} {H : Hp} {v u : Value} {Q : VK} {i j : Int} {F : List Addr} {d : D} (I : Inv X pins σ H s) (rx : RelV (.int i) v) (ry : RelV (.int j) u) (e : arith o i j = some d)
    (q : ∀ v H', Same H H' → IsD X.K cad H' F d v → Q v H') : wpAny (model X.prog X.w) X.A (f v u) (EP X pins σ Q) X.xe s :=
  h pins s σ H _ _ v u Q I rx ry ⟨i, j, rfl, rfl, (ha i j d e).1, q _ H (Same.refl H) ((ha i j d e).2 H F)⟩
theorem of_arith0 {f : Value → Value → Sem Value} {o : O} {g : Int → Int → V} (h : OpR X f (rI0 g)) (ha : ∀ i j d, arith o i j = some d → ∀ H F, IsD X.K cad H F d (g i j))
    {pins : List (Addr × Obj)} {s : Shared} {σ : L2.St} {H : Hp} {v u : Value} {Q : VK} {i j : Int} {F : List Addr} {d : D} (I : Inv X pins σ H s) (rx : RelV (.int i) v) (ry : RelV (.int j) u) (e : arith o i j = some d)
    (q : ∀ v H', Same H H' → IsD X.K cad H' F d v → Q v H') : wpAny (model X.prog X.w) X.A (f v u) (EP X pins σ Q) X.xe s :=
  h pins s σ H _ _ v u Q I rx ry ⟨i, j, rfl, rfl, q _ H (Same.refl H) (ha i j d e H F)⟩
theorem op_addP : OpR X (binaryOp .Add) (r2O X.K cad sub .add) := by
  intro pins s σ H x y v u Q I rx ry ⟨F, ds, d, hF, hp, hs, q⟩
  obtain ⟨da, db, rfl, h1, h2⟩ := pk2 hp
  cases da <;> cases db <;> try (exact absurd (show none = some d from hs) (by simp))
  case int.int i j =>
    cases (show x = .int i from h1)
    cases (show y = .int j from h2)
    exact of_arith0 (o := .add) (F := F) op_add (fun i j d e H F => by cases (show some (D.int (i + j)) = some d from e); rfl) I rx ry hs q
  case str.str a b =>
    cases (show x = .str a from h1)
    cases (show y = .str b from h2)
    have hs' : (if a.length + b.length ≤ LIM then some (D.str (a ++ b)) else none) = some d := hs
    by_cases hc : a.length + b.length ≤ LIM
    · rw [if_pos hc] at hs'
      cases hs'
      exact op_add_str pins s σ H _ _ v u Q I rx ry ⟨a, b, rfl, rfl, by rw [← lim_eq]; exact hc, q _ H (Same.refl H) rfl⟩
    · rw [if_neg hc] at hs'; cases hs'
  case lst.lst a b =>
    obtain ⟨l, xs, rfl, hl, hx⟩ := h1
    obtain ⟨m, ys, rfl, hm, hy⟩ := h2
    have hs' : (if a.length + b.length ≤ LIM then some (D.lst (a ++ b)) else none) = some d := hs
    by_cases hc : a.length + b.length ≤ LIM
    · rw [if_pos hc] at hs'
      cases hs'
      exact op_catL pins s σ H _ _ v u Q I rx ry ⟨l, m, xs, ys, rfl, rfl, hl, hm, by rw [← lim_eq, ← hx.length, ← hy.length]; exact hc, fun p hp => q _ _ (same_upd hp) (new_lst hF hp (hx.app hy))⟩
    · rw [if_neg hc] at hs'; cases hs'
  case tup.tup a b =>
    obtain ⟨l, xs, rfl, hl, hx⟩ := h1
    obtain ⟨m, ys, rfl, hm, hy⟩ := h2
    have i1 : IsD X.K cad H F (.tup a) (.ref l) := ⟨l, xs, rfl, hl, hx⟩
    have i2 : IsD X.K cad H F (.tup b) (.ref m) := ⟨m, ys, rfl, hm, hy⟩
    have hs' : (if a.length + b.length ≤ LIM then some (D.tup (a ++ b)) else none) = some d := hs
    by_cases hc : a.length + b.length ≤ LIM
    · rw [if_pos hc] at hs'
      cases hs'
      -- the sum may be one of both itself: it is laid anew in our sight only where both have items
      exact op_catA pins s σ H _ _ v u Q I rx ry ⟨l, m, xs, ys, rfl, rfl, hl.sq, hm.sq, by rw [← lim_eq, ← hx.length, ← hy.length]; exact hc, fun e => q _ H (Same.refl H) (by
        subst e
        have e2 : a = [] := List.length_eq_zero_iff.mp (by rw [hx.length]; rfl)
        rw [e2]
        exact i2), fun _ e => q _ H (Same.refl H) (by
        subst e
        have e2 : b = [] := List.length_eq_zero_iff.mp (by rw [hy.length]; rfl)
        rw [e2, List.append_nil]
        exact i1), fun _ _ p hp => q _ _ (same_upd hp) (new_tup hF hp (hx.app hy))⟩
    · rw [if_neg hc] at hs'; cases hs'

theorem op_subP : OpR X (binaryOp .Sub) (r2O X.K cad sub .sub) := by
  intro pins s σ H x y v u Q I rx ry ⟨F, ds, d, hF, hp, hs, q⟩
  obtain ⟨da, db, rfl, h1, h2⟩ := pk2 hp
  cases da <;> cases db <;> try (exact absurd (show none = some d from hs) (by simp))
  case int.int i j =>
    cases (show x = .int i from h1)
    cases (show y = .int j from h2)
    exact of_arith0 (o := .sub) (F := F) op_sub (fun i j d e H F => by cases (show some (D.int (i - j)) = some d from e); rfl) I rx ry hs q
/-- list * int, whichever list -/
theorem op_repL : OpR X (binaryOp .Mult) (fun x y H Q => ∃ l k xs, x = .ref l ∧ y = .int k ∧ SqL X.K H l xs ∧ -(2 ^ 63) ≤ k ∧ k < 2 ^ 63 ∧ xs.length * k.toNat ≤ sizeLine ∧
  ∀ p, H p = none → Q (.ref p) (upd H p (.lst (List.replicate k.toNat xs).flatten))) := by
  intro pins s σ H x y v u Q I rx ry h
  obtain ⟨l, k, xs, rfl, rfl, hH, h1, h2, hz, q⟩ := h
  cases rx
  obtain ⟨t, rfl⟩ := ry
  obtain ⟨its, r, ⟨o1, n, e, c1, d1, hd1⟩, z⟩ := I.list hH
  obtain ⟨oc1, od1, odt1, osl1⟩ := o1
  simp only at c1 d1 hd1
  subst c1 d1 hd1
  have hl := r.length
  have hlen : its.toArray.size * k.toNat ≤ sizeLine := by rw [List.size_toArray, ← hl]; exact hz
  have hcap : ¬ its.toArray.size * k.toNat > (2 ^ 63 - 1) / 8 := by
    have : (sizeLine : Nat) ≤ (2 ^ 63 - 1) / 8 := by decide
    omega
  have hfit : ¬ (!Builtin.List.listFitsIndex k) = true := by
    rw [fitsIndex_both h1 h2]
    exact Bool.false_ne_true
  have hlong : ¬ Builtin.List.listTooLong (its.toArray.size * k.toNat) = true := by
    rw [notLongL hlen]
    exact Bool.false_ne_true
  have hnew : List.foldl (fun x1 x2 => x1 ++ x2) #[] (List.replicate (if its.toArray.isEmpty = true then 0 else k.toNat) its.toArray) = (List.replicate k.toNat its).flatten.toArray := by
    have f0 : ∀ m : Nat, List.foldl (fun x1 x2 => x1 ++ x2) #[] (List.replicate m its.toArray) = (List.replicate m its).flatten.toArray := fun m => by
      have := foldl_rep its m []
      rw [List.nil_append] at this
      exact this
    rw [f0]
    cases its with
    | nil => simp
    | cons a r' => rw [if_neg (by simp)]
  refine wpAny_binaryOp_repeat_ref (T := "list") (U := "int") (by decide) ⟨_, e, rfl⟩ (fun s' => typeIs_int s' k t) noFill_list_mul F.fills_int_mul F.slot_int_rmul repeat_list F.slot_int_index.lookup
    (call_meets F.slot_int_rmul (typeIs_int s k t) F.entry_int_rmul (F.args_int_rmul_2 _ _) (int_rmul_listW k t l its.toArray n osl1)
      ⟨e, rfl, ⟨_, e, rfl⟩, call_meets F.slot_list_mul ⟨_, e, rfl⟩ F.entry_list_mul (F.args_list_mul_2 _ _) (list_mulW l its.toArray n osl1 k t hfit hcap hlong) ⟨e, ?_⟩⟩)
  rw [hnew]
  exact ⟨.ref _, _, I.lnew (t' := s.toks) (r.rep k.toNat) (by rw [PyProof.Rows.lm_len_rep_flat, Nat.mul_comm]; exact hz), rfl, q _ I.fresh⟩
/-- products of big ints -/
def CMulZ (i j : Int) : Prop := i.natAbs.log2 + j.natAbs.log2 < 100000000
theorem CMulZ.ok {i j : Int} (h : CMulZ i j) : IntMulOk i j := by
  have b : ∀ i : Int, Builtin.Int.intBits i ≤ i.natAbs.log2 + 1 := fun i => by
    unfold Builtin.Int.intBits
    split <;> omega
  have b1 := b i
  have b2 := b j
  unfold CMulZ at h
  refine CMulX.ok ?_
  unfold CMulX
  omega
theorem op_mulZ : OpR X (binaryOp .Mult) (rI CMulZ fun i j => .int (i * j)) := opI fun _ _ _ _ _ _ _ hc q => mul_int q hc.ok
theorem op_mulP : OpR X (binaryOp .Mult) (r2O X.K cad sub .mul) := by
  intro pins s σ H x y v u Q I rx ry ⟨F, ds, d, hF, hp, hs, q⟩
  obtain ⟨da, db, rfl, h1, h2⟩ := pk2 hp
  cases da <;> cases db <;> try (exact absurd (show none = some d from hs) (by simp))
  case int.int i j =>
    cases (show x = .int i from h1)
    cases (show y = .int j from h2)
    refine of_arith (o := .mul) (F := F) op_mulZ (fun i j d e => ?_) I rx ry hs q
    have e' : (if i.natAbs.log2 + j.natAbs.log2 < 100000000 then some (D.int (i * j)) else none) = some d := e
    by_cases hc : i.natAbs.log2 + j.natAbs.log2 < 100000000
    · rw [if_pos hc] at e'; cases e'; exact ⟨hc, fun _ _ => rfl⟩
    · rw [if_neg hc] at e'; cases e'
  case lst.int a k =>
    cases (show y = .int k from h2)
    obtain ⟨p, xs, rfl, hl, hx⟩ := h1
    have hs' : (if -(2 ^ 62) ≤ k ∧ k ≤ 1000000 ∧ a.length * k.toNat ≤ LIM then some (D.lst (List.replicate k.toNat a).flatten) else none) = some d := hs
    by_cases hc : -(2 ^ 62) ≤ k ∧ k ≤ 1000000 ∧ a.length * k.toNat ≤ LIM
    · rw [if_pos hc] at hs'
      cases hs'
      exact op_repL pins s σ H _ _ v u Q I rx ry ⟨p, k, xs, rfl, rfl, hl, by omega, by omega, by rw [← lim_eq, ← hx.length]; exact hc.2.2, fun r hr => q _ _ (same_upd hr) (new_lst hF hr (hx.rep _))⟩
    · rw [if_neg hc] at hs'; cases hs'
  case tup.int a k =>
    cases (show y = .int k from h2)
    obtain ⟨p, xs, rfl, hl, hx⟩ := h1
    have hs' : (if a ≠ [] ∧ 2 ≤ k ∧ k ≤ 1000 ∧ a.length ≤ 1000 then some (D.tup (List.replicate k.toNat a).flatten) else none) = some d := hs
    by_cases hc : a ≠ [] ∧ 2 ≤ k ∧ k ≤ 1000 ∧ a.length ≤ 1000
    · rw [if_pos hc] at hs'
      cases hs'
      exact op_repT pins s σ H _ _ v u Q I rx ry ⟨p, k, xs, rfl, rfl, hl.sq, fun z => hc.1 (List.length_eq_zero_iff.mp (by rw [hx.length, z]; rfl)), hc.2.1, hc.2.2.1, by rw [← hx.length]; exact hc.2.2.2, fun r hr => q _ _ (same_upd hr) (new_tup hF hr (hx.rep _))⟩
    · rw [if_neg hc] at hs'; cases hs'
  case str.int a k =>
    cases (show x = .str a from h1)
    cases (show y = .int k from h2)
    obtain ⟨t, rfl⟩ := rx
    obtain ⟨t', rfl⟩ := ry
    have hs' : (if -(2 ^ 62) ≤ k ∧ k ≤ 1000000 ∧ a.length ≤ LIM ∧ a.length * k.toNat ≤ LIM then some (D.str (repS a k)) else none) = some d := hs
    by_cases hc : -(2 ^ 62) ≤ k ∧ k ≤ 1000000 ∧ a.length ≤ LIM ∧ a.length * k.toNat ≤ LIM
    · rw [if_pos hc] at hs'
      cases hs'
      obtain ⟨c1, c2, c3, c4⟩ := hc
      have c3' : a.length ≤ 16777216 := c3
      refine PySem.P.mul_str (by rw [decide_eq_false (by omega), decide_eq_false (by omega)]; rfl) (fun h1 _ z => ?_) (fun _ _ => ?_) ?_
      · have z1 : (2 ^ 63 - 1 : Int) / 1000000 ≤ (2 ^ 63 - 1) / k := by
          rw [Int.le_ediv_iff_mul_le (by omega)]
          have := Int.mul_le_mul_of_nonneg_left (show k ≤ 1000000 by omega) (show (0 : Int) ≤ (2 ^ 63 - 1) / 1000000 by decide)
          exact Int.le_trans this (by decide)
        have z2 : (16777216 : Int) ≤ (2 ^ 63 - 1) / 1000000 := by decide
        omega
      · unfold Builtin.Str.tooLong
        rw [← lim_eq]
        exact decide_eq_false (by omega)
      · have fl : ∀ m : Nat, ((List.replicate m a.cps).foldl (· ++ ·) #[]).size = m * a.cps.size := fun m => by
          have g : ∀ (m : Nat) (z : Array Nat), ((List.replicate m a.cps).foldl (· ++ ·) z).size = z.size + m * a.cps.size := fun m => by
            induction m with
            | zero => intro z; simp
            | succ m ih =>
              intro z
              rw [List.replicate_succ, List.foldl_cons, ih, Array.size_append, Nat.succ_mul]
              omega
          rw [g]
          simp
        by_cases k1 : k < 1
        · rw [if_pos k1]
          have e : repS a k = Str.empty := by unfold repS; rw [if_pos k1]
          exact ⟨by decide, ⟨.str (repS a k), H, I.tok _, by rw [e]; exact ⟨_, rfl⟩, q _ H (Same.refl H) rfl⟩⟩
        · rw [if_neg k1]
          by_cases k2 : (k == 1 || a.length == 0) = true
          · rw [if_pos k2]
            have e : repS a k = a := by unfold repS; rw [if_neg k1, if_pos k2]
            exact ⟨.str (repS a k), H, I, by rw [e]; exact ⟨_, rfl⟩, q _ H (Same.refl H) rfl⟩
          · rw [if_neg k2]
            have e : repS a k = ⟨(List.replicate k.toNat a.cps).foldl (· ++ ·) #[]⟩ := by unfold repS; rw [if_neg k1, if_neg k2]
            refine ⟨?_, ⟨.str (repS a k), H, I.tok _, by rw [e]; exact ⟨_, rfl⟩, q _ H (Same.refl H) rfl⟩⟩
            show ((List.replicate k.toNat a.cps).foldl (· ++ ·) #[]).size ≤ sizeLine
            rw [fl, ← lim_eq, Nat.mul_comm]
            exact c4
    · rw [if_neg hc] at hs'; cases hs'
theorem op_fdivP : OpR X (binaryOp .FloorDiv) (r2O X.K cad sub .fdiv) := by
  intro pins s σ H x y v u Q I rx ry ⟨F, ds, d, hF, hp, hs, q⟩
  obtain ⟨da, db, rfl, h1, h2⟩ := pk2 hp
  cases da <;> cases db <;> try (exact absurd (show none = some d from hs) (by simp))
  case int.int i j =>
    cases (show x = .int i from h1)
    cases (show y = .int j from h2)
    refine of_arith (o := .fdiv) (F := F) op_fdivX (fun i j d e => ?_) I rx ry hs q
    have e' : (if j ≠ 0 ∧ j.natAbs.log2 < 9000 then some (D.int (i.fdiv j)) else none) = some d := e
    by_cases hc : j ≠ 0 ∧ j.natAbs.log2 < 9000
    · rw [if_pos hc] at e'; cases e'; exact ⟨hc, fun _ _ => rfl⟩
    · rw [if_neg hc] at e'; cases e'
theorem op_modP : OpR X (binaryOp .Mod) (r2O X.K cad sub .mod) := by
  intro pins s σ H x y v u Q I rx ry ⟨F, ds, d, hF, hp, hs, q⟩
  obtain ⟨da, db, rfl, h1, h2⟩ := pk2 hp
  cases da <;> cases db <;> try (exact absurd (show none = some d from hs) (by simp))
  case int.int i j =>
    cases (show x = .int i from h1)
    cases (show y = .int j from h2)
    refine of_arith (o := .mod) (F := F) op_modN (fun i j d e => ?_) I rx ry hs q
    have e' : (if j ≠ 0 then some (D.int (i.fmod j)) else none) = some d := e
    by_cases hc : j ≠ 0
    · rw [if_pos hc] at e'; cases e'; exact ⟨hc, fun _ _ => rfl⟩
    · rw [if_neg hc] at e'; cases e'
theorem op_powP : OpR X (binaryOp .Pow) (r2O X.K cad sub .pow) := by
  intro pins s σ H x y v u Q I rx ry ⟨F, ds, d, hF, hp, hs, q⟩
  obtain ⟨da, db, rfl, h1, h2⟩ := pk2 hp
  cases da <;> cases db <;> try (exact absurd (show none = some d from hs) (by simp))
  case int.int i j =>
    cases (show x = .int i from h1)
    cases (show y = .int j from h2)
    refine of_arith (o := .pow) (F := F) op_pow (fun i j d e => ?_) I rx ry hs q
    have e' : (if 0 ≤ j ∧ j ≤ 1000000 ∧ i.natAbs < 2 ^ 64 then some (D.int (i ^ j.toNat)) else none) = some d := e
    by_cases hc : 0 ≤ j ∧ j ≤ 1000000 ∧ i.natAbs < 2 ^ 64
    · rw [if_pos hc] at e'; cases e'; exact ⟨hc, fun _ _ => rfl⟩
    · rw [if_neg hc] at e'; cases e'
theorem op_ltP : OpR X (compareOp .Lt) (r2O X.K cad sub .lt) := by
  intro pins s σ H x y v u Q I rx ry ⟨F, ds, d, hF, hp, hs, q⟩
  obtain ⟨da, db, rfl, h1, h2⟩ := pk2 hp
  cases da <;> cases db <;> try (exact absurd (show none = some d from hs) (by simp))
  case int.int i j =>
    cases (show x = .int i from h1)
    cases (show y = .int j from h2)
    exact of_arith0 (o := .lt) (F := F) op_lt (fun i j d e H F => by cases (show some (D.bl (decide (i < j))) = some d from e); rfl) I rx ry hs q
  case str.str i j =>
    cases (show x = .str i from h1)
    cases (show y = .str j from h2)
    cases (show some (D.bl (decide (i.cps.toList < j.cps.toList))) = some d from hs)
    exact op_lt_str pins s σ H _ _ v u Q I rx ry ⟨i, j, rfl, rfl, q _ H (Same.refl H) rfl⟩
theorem op_leP : OpR X (compareOp .LtE) (r2O X.K cad sub .le) := by
  intro pins s σ H x y v u Q I rx ry ⟨F, ds, d, hF, hp, hs, q⟩
  obtain ⟨da, db, rfl, h1, h2⟩ := pk2 hp
  cases da <;> cases db <;> try (exact absurd (show none = some d from hs) (by simp))
  case int.int i j =>
    cases (show x = .int i from h1)
    cases (show y = .int j from h2)
    exact of_arith0 (o := .le) (F := F) op_le (fun i j d e H F => by cases (show some (D.bl (decide (i ≤ j))) = some d from e); rfl) I rx ry hs q
theorem op_gtP : OpR X (compareOp .Gt) (r2O X.K cad sub .gt) := by
  intro pins s σ H x y v u Q I rx ry ⟨F, ds, d, hF, hp, hs, q⟩
  obtain ⟨da, db, rfl, h1, h2⟩ := pk2 hp
  cases da <;> cases db <;> try (exact absurd (show none = some d from hs) (by simp))
  case int.int i j =>
    cases (show x = .int i from h1)
    cases (show y = .int j from h2)
    exact of_arith0 (o := .gt) (F := F) op_gt (fun i j d e H F => by cases (show some (D.bl (decide (j < i))) = some d from e); rfl) I rx ry hs q
theorem op_geP : OpR X (compareOp .GtE) (r2O X.K cad sub .ge) := by
  intro pins s σ H x y v u Q I rx ry ⟨F, ds, d, hF, hp, hs, q⟩
  obtain ⟨da, db, rfl, h1, h2⟩ := pk2 hp
  cases da <;> cases db <;> try (exact absurd (show none = some d from hs) (by simp))
  case int.int i j =>
    cases (show x = .int i from h1)
    cases (show y = .int j from h2)
    exact of_arith0 (o := .ge) (F := F) op_ge (fun i j d e H F => by cases (show some (D.bl (decide (j ≤ i))) = some d from e); rfl) I rx ry hs q
theorem IsD.non_iff {K : PySem.W.Frag} {H : Hp} {F : List Addr} {d : D} {x : V} (h : PkD K cad H F d x) : decide (x = .non) = isNon d := by
  cases d with
  | non => cases (show x = .non from h); rfl
  | bl b => cases (show x = .bl b from h); rfl
  | int b => cases (show x = .int b from h); rfl
  | str b => cases (show x = .str b from h); rfl
  | tup ds => obtain ⟨a, xs, rfl, _⟩ := h; rfl
  | lst ds => obtain ⟨a, xs, rfl, _⟩ := h; rfl
  | dct _ _ => obtain ⟨a, xs, rfl, _⟩ := h; rfl
  | obj _ _ _ => obtain ⟨a, dx, xs, rfl, _⟩ := h; rfl
  | exc _ _ _ => obtain ⟨a, d, rfl, _⟩ := h; rfl
theorem op_isNP : OpR X (compareOp .Is) (fun x y H Q => y = .non ∧ r1O X.K cad sub .isN x H Q) := by
  intro pins s σ H x y v u Q I rx ry ⟨hy, F, ds, d, hF, hp, hs, q⟩
  obtain ⟨da, rfl, h1⟩ := pk1 hp
  have hs' : some (D.bl (isNon da)) = some d := hs
  cases hs'
  refine op_isN pins s σ H x y v u Q I rx ry ⟨hy, ?_⟩
  rw [IsD.non_iff h1]
  exact q _ H (Same.refl H) rfl
theorem op_notNP : OpR X (compareOp .IsNot) (fun x y H Q => y = .non ∧ r1O X.K cad sub .notN x H Q) := by
  intro pins s σ H x y v u Q I rx ry ⟨hy, F, ds, d, hF, hp, hs, q⟩
  obtain ⟨da, rfl, h1⟩ := pk1 hp
  have hs' : some (D.bl (!isNon da)) = some d := hs
  cases hs'
  refine op_notN pins s σ H x y v u Q I rx ry ⟨hy, ?_⟩
  rw [IsD.non_iff h1]
  exact q _ H (Same.refl H) rfl
theorem op_isBP {b : Bool} : OpR X (compareOp .Is) (fun x y H Q => y = .bl b ∧ r1O X.K cad sub (.isB b) x H Q) := by
  intro pins s σ H x y v u Q I rx ry ⟨hy, F, ds, d, hF, hp, hs, q⟩
  obtain ⟨da, rfl, h1⟩ := pk1 hp
  cases da <;> try (exact absurd (show none = some d from hs) (by simp))
  case bl c =>
    cases (show x = .bl c from h1)
    cases (show some (D.bl (decide (c = b))) = some d from hs)
    exact op_isBl pins s σ H _ _ v u Q I rx ry ⟨c, b, rfl, hy, q _ H (Same.refl H) rfl⟩
theorem op_ntBP {b : Bool} : OpR X (compareOp .IsNot) (fun x y H Q => y = .bl b ∧ r1O X.K cad sub (.ntB b) x H Q) := by
  intro pins s σ H x y v u Q I rx ry ⟨hy, F, ds, d, hF, hp, hs, q⟩
  obtain ⟨da, rfl, h1⟩ := pk1 hp
  cases da <;> try (exact absurd (show none = some d from hs) (by simp))
  case bl c =>
    cases (show x = .bl c from h1)
    cases (show some (D.bl (!decide (c = b))) = some d from hs)
    exact op_notBl pins s σ H _ _ v u Q I rx ry ⟨c, b, rfl, hy, q _ H (Same.refl H) rfl⟩
theorem un_negP : UnR X (unaryOp .USub) (r1O X.K cad sub .neg) := by
  intro pins s σ H x v Q I rx ⟨F, ds, d, hF, hp, hs, q⟩
  obtain ⟨da, rfl, h1⟩ := pk1 hp
  cases da <;> try (exact absurd (show none = some d from hs) (by simp))
  case int i =>
    cases (show x = .int i from h1)
    cases (show some (D.int (-i)) = some d from hs)
    exact un_neg pins s σ H _ v Q I rx ⟨i, rfl, q _ H (Same.refl H) rfl⟩
/-! in, not in -/
theorem seq_reads {K : PySem.W.Frag} {H : Hp} {F : List Addr} {ds : List D} {vs : List V} (h : IsDs K cad H F ds vs) (p : ds.all plainD = true) : PyData.plainAll (pys ds) = true ∧ PyData.depthAll (pys ds) ≤ 60 := by
  induction ds generalizing vs with
  | nil => exact ⟨rfl, by decide⟩
  | cons d ds ih =>
    obtain ⟨x, r, rfl, h1, h2⟩ := h
    rw [List.all_cons, Bool.and_eq_true] at p
    obtain ⟨p1, p2⟩ := plainD_ok p.1
    obtain ⟨p3, p4⟩ := ih h2 p.2
    refine ⟨?_, ?_⟩
    · show ((py d).plain && PyData.plainAll (pys ds)) = true
      rw [p1, p3]
      rfl
    · show max (py d).depth (PyData.depthAll (pys ds)) ≤ 60
      exact Nat.max_le.mpr ⟨p2, p4⟩
theorem any_pys (x : D) : ∀ ds : List D, (pys ds).any (fun y => PyData.eqv y (py x)) = ds.any (eqD · x)
  | [] => rfl
  | d :: ds => by
    show (PyData.eqv (py d) (py x) || _) = (eqD d x || _)
    rw [any_pys x ds]
    rfl


/-! dicts -/
theorem dget_rel {K : PySem.W.Frag} {H : Hp} {F : List Addr} {q : Key} : ∀ {us : List (Key × V)} {ds : List D}, IsDs K cad H F ds (us.map (·.2)) → ∀ r, dget (us.map (·.1)) ds q = r →
    (match r with | some d => ∃ v, valV us q = some v ∧ IsD K cad H F d v | none => valV us q = none)
  | [], ds, h, r, e => by
    cases (show none = r from by rw [← e]; cases ds <;> rfl)
    rfl
  | (k, v) :: us, [], h, r, e => by cases (show (v :: us.map (·.2)) = [] from h)
  | (k, v) :: us, d :: ds, h, r, e => by
    obtain ⟨x, rr, e', h1, h2⟩ := h
    cases e'
    have e : (if q = k then some d else dget (us.map (·.1)) ds q) = r := e
    by_cases hq : q = k
    · rw [if_pos hq] at e
      subst e
      refine ⟨v, ?_, h1⟩
      unfold valV
      rw [List.find?_cons_of_pos (by simp [hq])]
      rfl
    · rw [if_neg hq] at e
      have z := dget_rel h2 r e
      have hv : valV ((k, v) :: us) q = valV us q := by
        unfold valV
        rw [List.find?_cons_of_neg (by simpa using fun z => hq z.symm)]
      rw [hv]
      exact z
theorem key_pk {K : PySem.W.Frag} {H : Hp} {F : List Addr} {d : D} {q : Key} {y : V} (h : PkD K cad H F d y) (e : keyOf d = some q) : y = kV q := by
  cases d <;> try (cases e; done)
  case int i => cases (show y = .int i from h); cases e; rfl
  case str i => cases (show y = .str i from h); cases e; rfl
theorem dget_at {K : PySem.W.Frag} {H : Hp} {F : List Addr} {ks : List Key} {vs : List D} {d : D} {q : Key} {x y : V} (h1 : PkD K cad H F (.dct ks vs) x) (h2 : PkD K cad H F d y) (e : keyOf d = some q) :
    ∃ a o, x = .ref a ∧ DGet H a y o ∧ L2.IsD H a ∧ (match dget ks vs q with | some d => ∃ v, o = some v ∧ IsD K cad H F d v | none => o = none) := by
  obtain ⟨a, us, rfl, ha, rfl, hv⟩ := h1
  refine ⟨a, valV us q, rfl, by rw [key_pk h2 e]; exact DGet.k ha, .inl ⟨us, .inl ha⟩, dget_rel hv _ rfl⟩
/-- in, as the library answers -/
theorem in_core (hu : X.A.units + 100 < cLine) {pins : List (Addr × Obj)} {s : Shared} {σ : L2.St} {H : Hp} {x y : V} {v u : Value} {F : List Addr} {da db : D} {c : Bool} (I : Inv X pins σ H s) (rx : RelV x v) (ry : RelV y u)
    (h1 : PkD X.K cad H F da x) (h2 : PkD X.K cad H F db y) (e : inD da db = some c) :
    (∀ Q : Value → Shared → Prop, (∀ s', Inv X pins σ H s' → Q (.bool c) s') → wpAny (model X.prog X.w) X.A (compareOp .In v u) Q X.xe s) ∧ (∀ Q : Value → Shared → Prop, (∀ s', Inv X pins σ H s' → Q (.bool (!c)) s') → wpAny (model X.prog X.w) X.A (compareOp .NotIn v u) Q X.xe s) := by
  cases db with
  | str b =>
    cases da with
    | str a =>
      cases (show x = .str a from h1)
      cases (show y = .str b from h2)
      cases (show some (!(Builtin.Str.occurrences b a 0 b.length 1).isEmpty) = some c from e)
      obtain ⟨t, rfl⟩ := rx
      obtain ⟨t', rfl⟩ := ry
      exact ⟨fun Q q => in_str (q s I), fun Q q => notIn_str (q s I)⟩
    | _ => cases e
  | lst ys =>
    have e' : (if (plainD da && ys.all plainD) = true then some (ys.any (eqD · da)) else none) = some c := e
    by_cases hc : (plainD da && ys.all plainD) = true
    · rw [if_pos hc] at e'
      cases e'
      obtain ⟨c1, c2⟩ := Bool.and_eq_true_iff.mp hc
      obtain ⟨p1, e1⟩ := plainD_ok c1
      obtain ⟨a, xs, rfl, hl, hx⟩ := h2
      obtain ⟨p2, e2⟩ := seq_reads hx c2
      obtain ⟨as, r1⟩ := Dp.reads I _ x v (dp_pk h1 p1) rx
      obtain ⟨bs, r2⟩ := Dp.reads I (.list (pys ys)) _ u (.lst hl (dps_of hx p2)) ry
      have hd : X.A.units + 1 + min (PyData.depthAll (pys ys)) (py da).depth < cLine := by
        have := Nat.min_le_left (PyData.depthAll (pys ys)) (py da).depth
        omega
      exact ⟨fun Q q => SeqAt.in_list_data r2 r1 p2 p1 hd (by rw [any_pys]; exact q s I), fun Q q => SeqAt.notIn_list_data r2 r1 p2 p1 hd (by rw [any_pys]; exact q s I)⟩
    · rw [if_neg hc] at e'; cases e'
  | tup ys =>
    have e' : (if (plainD da && ys.all plainD) = true then some (ys.any (eqD · da)) else none) = some c := e
    by_cases hc : (plainD da && ys.all plainD) = true
    · rw [if_pos hc] at e'
      cases e'
      obtain ⟨c1, c2⟩ := Bool.and_eq_true_iff.mp hc
      obtain ⟨p1, e1⟩ := plainD_ok c1
      obtain ⟨a, xs, rfl, hl, hx⟩ := h2
      obtain ⟨p2, e2⟩ := seq_reads hx c2
      obtain ⟨as, r1⟩ := Dp.reads I _ x v (dp_pk h1 p1) rx
      obtain ⟨bs, r2⟩ := Dp.reads I (.tuple (pys ys)) _ u (.tup hl.sq (dps_of hx p2)) ry
      have hd : X.A.units + 1 + min (PyData.depthAll (pys ys)) (py da).depth < cLine := by
        have := Nat.min_le_left (PyData.depthAll (pys ys)) (py da).depth
        omega
      exact ⟨fun Q q => SeqAt.in_tuple_data r2 r1 p2 p1 hd (by rw [any_pys]; exact q s I), fun Q q => SeqAt.notIn_tuple_data r2 r1 p2 p1 hd (by rw [any_pys]; exact q s I)⟩
    · rw [if_neg hc] at e'; cases e'
  | dct ks vs =>
    have e' : (match keyOf da with | some q => some (dget ks vs q).isSome | none => none) = some c := e
    cases hk : keyOf da with
    | none => rw [hk] at e'; cases e'
    | some q =>
      rw [hk] at e'
      cases e'
      obtain ⟨a, o, rfl, g, _, hm⟩ := dget_at h2 h1 hk
      cases ry
      have eo : o.isSome = (dget ks vs q).isSome := by
        cases hd : dget ks vs q with
        | none => rw [hd] at hm; rw [show o = none from hm]; rfl
        | some d => rw [hd] at hm; obtain ⟨v, e1, _⟩ := hm; rw [e1]; rfl
      exact ⟨fun Q qq => d_in (by omega) I g rx fun s' I' => by rw [eo]; exact qq s' I', fun Q qq => d_notIn (by omega) I g rx fun s' I' => by rw [eo]; exact qq s' I'⟩
  | _ => cases e
theorem op_inP (hu : X.A.units + 100 < cLine) : OpR X (compareOp .In) (r2O X.K cad sub .in_) := by
  intro pins s σ H x y v u Q I rx ry ⟨F, ds, d, hF, hp, hs, q⟩
  obtain ⟨da, db, rfl, h1, h2⟩ := pk2 hp
  have hs' : (inD da db).map D.bl = some d := hs
  cases e : inD da db with
  | none => rw [e] at hs'; cases hs'
  | some c =>
    rw [e] at hs'
    cases hs'
    exact (in_core hu I rx ry h1 h2 e).1 _ fun s' I' => ⟨.bl c, H, I', rfl, q _ H (Same.refl H) rfl⟩
theorem op_notinP (hu : X.A.units + 100 < cLine) : OpR X (compareOp .NotIn) (r2O X.K cad sub .notin) := by
  intro pins s σ H x y v u Q I rx ry ⟨F, ds, d, hF, hp, hs, q⟩
  obtain ⟨da, db, rfl, h1, h2⟩ := pk2 hp
  have hs' : (inD da db).map (fun c => D.bl (!c)) = some d := hs
  cases e : inD da db with
  | none => rw [e] at hs'; cases hs'
  | some c =>
    rw [e] at hs'
    cases hs'
    exact (in_core hu I rx ry h1 h2 e).2 _ fun s' I' => ⟨.bl (!c), H, I', rfl, q _ H (Same.refl H) rfl⟩
/-! x[i], x[i:j], calls of built-ins -/
theorem atI_rel {K : PySem.W.Frag} {H : Hp} {F : List Addr} {ds : List D} {vs : List V} {i : Int} {d : D} (h : IsDs K cad H F ds vs) (e : atI ds i = some d) : ∃ v, atI vs i = some v ∧ IsD K cad H F d v := by
  unfold atI at e ⊢
  rw [← h.length]
  cases q : ixN ds.length i with
  | none => rw [q] at e; cases e
  | some j =>
    rw [q] at e
    exact h.get e
theorem ix_P (hu : X.A.units + 100 < cLine) : IxR X (r2O X.K cad sub .ix) := by
  intro value slice pins s σ H x y v u Q I rx ry ⟨F, ds, d, hF, hp, hs, q⟩ hsub
  obtain ⟨da, db, rfl, h1, h2⟩ := pk2 hp
  have hs : ixD da db = some d := hs
  cases da with
  | str a =>
    cases db with
    | int i =>
      cases (show x = .str a from h1)
      cases (show y = .int i from h2)
      have hs' : (if a.length ≤ LIM then (atI a.cps.toList i).map (fun c => D.str ⟨#[c]⟩) else none) = some d := hs
      by_cases hc : a.length ≤ LIM
      · rw [if_pos hc] at hs'
        cases e : atI a.cps.toList i with
        | none => rw [e] at hs'; cases hs'
        | some c =>
          rw [e] at hs'
          cases hs'
          exact ix_str value slice pins s σ H _ _ v u Q I rx ry ⟨a, i, c, rfl, rfl, by rw [← lim_eq]; exact hc, e, q _ H (Same.refl H) rfl⟩ hsub
      · rw [if_neg hc] at hs'; cases hs'
    | _ => cases hs
  | lst a =>
    cases db with
    | int i =>
      cases (show y = .int i from h2)
      obtain ⟨p, xs, rfl, hl, hx⟩ := h1
      obtain ⟨w, e, hw⟩ := atI_rel hx (show atI a i = some d from hs)
      exact ix_list value slice pins s σ H _ _ v u Q I rx ry ⟨p, xs, i, w, rfl, rfl, hl, e, q _ H (Same.refl H) hw⟩ hsub
    | _ => cases hs
  | tup a =>
    cases db with
    | int i =>
      cases (show y = .int i from h2)
      obtain ⟨p, xs, rfl, hl, hx⟩ := h1
      obtain ⟨w, e, hw⟩ := atI_rel hx (show atI a i = some d from hs)
      exact ix_tup value slice pins s σ H _ _ v u Q I rx ry ⟨p, xs, i, w, rfl, rfl, hl.sq, e, q _ H (Same.refl H) hw⟩ hsub
    | _ => cases hs
  | dct ks vs =>
    have hs : (match keyOf db with | some q => dget ks vs q | none => none) = some d := hs
    cases hk : keyOf db with
    | none => rw [hk] at hs; cases hs
    | some k =>
      rw [hk] at hs
      have hs : dget ks vs k = some d := hs
      obtain ⟨a, o, rfl, g, _, hm⟩ := dget_at h1 h2 hk
      rw [hs] at hm
      obtain ⟨w, rfl, hw⟩ := hm
      cases rx
      exact tail_any (dict_typeIs I g) PySem.F.slot_dict_getitem.lookup (d_getItem (by omega) I g ry fun w' s' I' rw' => ⟨w, H, I', rw', q _ H (Same.refl H) hw⟩) hsub
  | _ => cases hs
theorem cut_rel {K : PySem.W.Frag} {H : Hp} {F : List Addr} {ds : List D} {vs : List V} {lo hi : Option Int} (h : IsDs K cad H F ds vs) : IsDs K cad H F (cutD ds lo hi) (cutV vs lo hi) := by
  unfold cutD cutV
  rw [← h.length]
  exact (h.drop _).take _
def rSlP (K : PySem.W.Frag) (cad : Nat → Addr) : V → Option Int → Option Int → Hp → VK → Prop := fun x lo hi H Q => ∃ (F : List Addr) (da d : D), (∀ a ∈ F, ∃ u, H a = some u) ∧ PkD K cad H F da x ∧ slD da lo hi = some d ∧ ∀ v H', Same H H' → IsD K cad H' F d v → Q v H'
theorem sl_P : L2.SlR X (rSlP X.K cad) := by
  intro pins s σ H x v vl vu lo hi sl Q I rx hs pl pu ⟨F, da, d, hF, h1, e, q⟩
  cases da with
  | lst a =>
    cases (show some (D.lst (cutD a lo hi)) = some d from e)
    obtain ⟨p, xs, rfl, hl, hx⟩ := h1
    exact sl_list pins s σ H _ v vl vu lo hi sl Q I rx hs pl pu ⟨p, xs, rfl, hl, fun r hr => q _ _ (same_upd hr) (new_lst hF hr (cut_rel hx))⟩
  | tup a =>
    cases (show some (D.tup (cutD a lo hi)) = some d from e)
    obtain ⟨p, xs, rfl, hl, hx⟩ := h1
    have i1 : IsD X.K cad H F (.tup a) (.ref p) := ⟨p, xs, rfl, hl, hx⟩
    refine sl_tupA pins s σ H _ v vl vu lo hi sl Q I rx hs pl pu ⟨p, xs, rfl, hl.sq, fun hw => q _ H (Same.refl H) ?_, fun _ r hr => q _ _ (same_upd hr) (new_tup hF hr (cut_rel hx))⟩
    have e2 : cutD a lo hi = a := by
      unfold cutD
      rw [hx.length, hw.1, hw.2]
      rw [← hx.length]
      simp
    rw [e2]
    exact i1
  | str a =>
    cases (show x = .str a from h1)
    have e' : (if a.length ≤ LIM then some (D.str (L2.cutS a lo hi)) else none) = some d := e
    by_cases hc : a.length ≤ LIM
    · rw [if_pos hc] at e'
      cases e'
      exact sl_str pins s σ H _ v vl vu lo hi sl Q I rx hs pl pu ⟨a, rfl, by rw [← lim_eq]; exact hc, q _ H (Same.refl H) rfl⟩
    · rw [if_neg hc] at e'; cases e'
  | _ => cases e
theorem call_lenP : CallR X (.builtin "len") (rO X.K cad sub .len) := by
  intro pins s σ H xs us Q I r ⟨F, ds, d, hF, hp, hs, q⟩
  obtain ⟨x, da, rfl, h1, hs⟩ := un1 hp hs (fun _ _ => rfl) (fun _ _ _ => rfl)
  have hs : lenD da = some d := hs
  cases da with
  | lst a =>
    cases (show some (D.int a.length) = some d from hs)
    obtain ⟨p, ys, rfl, hl, hy⟩ := h1
    exact call_len_seq pins s σ H _ us Q I r ⟨p, ys, rfl, .inl hl, q _ H (Same.refl H) (by rw [hy.length]; rfl)⟩
  | tup a =>
    cases (show some (D.int a.length) = some d from hs)
    obtain ⟨p, ys, rfl, hl, hy⟩ := h1
    exact call_len_seq pins s σ H _ us Q I r ⟨p, ys, rfl, .inr hl.sq, q _ H (Same.refl H) (by rw [hy.length]; rfl)⟩
  | str a =>
    cases (show x = .str a from h1)
    have hs' : (if a.length ≤ LIM then some (D.int a.length) else none) = some d := hs
    by_cases hc : a.length ≤ LIM
    · rw [if_pos hc] at hs'
      cases hs'
      exact call_len_str pins s σ H _ us Q I r ⟨a, rfl, by rw [← lim_eq]; exact hc, q _ H (Same.refl H) rfl⟩
    · rw [if_neg hc] at hs'; cases hs'
  | dct ks vs =>
    cases (show some (D.int ks.length) = some d from hs)
    obtain ⟨p, us', rfl, hl, rfl, hy⟩ := h1
    exact call_lenD pins s σ H _ us Q I r ⟨p, us', rfl, hl, q _ H (Same.refl H) (by rw [List.length_map]; rfl)⟩
  | _ => cases hs
theorem call_absP : CallR X (.builtin "abs") (rO X.K cad sub .abs) := by
  intro pins s σ H xs us Q I r ⟨F, ds, d, hF, hp, hs, q⟩
  obtain ⟨x, da, rfl, h1, hs⟩ := un1 hp hs (fun _ _ => rfl) (fun _ _ _ => rfl)
  have hs : absD da = some d := hs
  cases da with
  | int i =>
    cases (show x = .int i from h1)
    cases (show some (D.int (if i < 0 then -i else i)) = some d from hs)
    exact call_abs pins s σ H _ us Q I r ⟨i, rfl, q _ H (Same.refl H) rfl⟩
  | _ => cases hs
theorem call_intP : CallR X (.type "int") (rO X.K cad sub .int) := by
  intro pins s σ H xs us Q I r ⟨F, ds, d, hF, hp, hs, q⟩
  obtain ⟨x, da, rfl, h1, hs⟩ := un1 hp hs (fun _ _ => rfl) (fun _ _ _ => rfl)
  have hs : intD da = some d := hs
  cases da with
  | int i =>
    cases (show x = .int i from h1)
    cases (show some (D.int i) = some d from hs)
    exact call_int1 pins s σ H _ us Q I r (.inl ⟨i, rfl, q _ H (Same.refl H) rfl⟩)
  | bl b =>
    cases (show x = .bl b from h1)
    cases (show some (D.int (if b then 1 else 0)) = some d from hs)
    exact call_int1 pins s σ H _ us Q I r (.inr ⟨b, rfl, q _ H (Same.refl H) rfl⟩)
  | str a =>
    cases (show x = .str a from h1)
    have hs' : (if a.length ≤ 640 then (PySem.intText? a).map D.int else none) = some d := hs
    by_cases hc : a.length ≤ 640
    · rw [if_pos hc] at hs'
      cases e : PySem.intText? a with
      | none => rw [e] at hs'; cases hs'
      | some n =>
        rw [e] at hs'
        cases hs'
        exact call_int_str pins s σ H _ us Q I r ⟨a, n, rfl, e, hc, q _ H (Same.refl H) rfl⟩
    · rw [if_neg hc] at hs'; cases hs'
  | _ => cases hs
theorem call_strP : CallR X (.type "str") (rO X.K cad sub .str) := by
  intro pins s σ H xs us Q I r ⟨F, ds, d, hF, hp, hs, q⟩
  obtain ⟨x, da, rfl, h1, hs⟩ := un1 hp hs (fun _ _ => rfl) (fun _ _ _ => rfl)
  have hs : strD da = some d := hs
  cases da with
  | int i =>
    cases (show x = .int i from h1)
    have hs' : (if i.natAbs.log2 < 1920 then some (D.str (toString i)) else none) = some d := hs
    by_cases hc : i.natAbs.log2 < 1920
    · rw [if_pos hc] at hs'
      cases hs'
      exact call_str_int pins s σ H _ us Q I r ⟨i, rfl, hc, q _ H (Same.refl H) rfl⟩
    · rw [if_neg hc] at hs'; cases hs'
  | _ => cases hs
theorem call_tupP : CallR X (.type "tuple") (rO X.K cad sub .tupOf) := by
  intro pins s σ H xs us Q I r ⟨F, ds, d, hF, hp, hs, q⟩
  obtain ⟨x, da, rfl, h1, hs⟩ := un1 hp hs (fun _ _ => rfl) (fun _ _ _ => rfl)
  have hs : tupD da = some d := hs
  cases da with
  | lst a =>
    cases (show some (D.tup a) = some d from hs)
    obtain ⟨p, ys, rfl, hl, hy⟩ := h1
    exact call_tuple_of pins s σ H _ us Q I r ⟨p, ys, rfl, .inl ⟨hl, fun l hl => q _ _ (same_upd hl) (new_tup hF hl hy)⟩⟩
  | tup a =>
    cases (show some (D.tup a) = some d from hs)
    obtain ⟨p, ys, rfl, hl, hy⟩ := h1
    exact call_tuple_of pins s σ H _ us Q I r ⟨p, ys, rfl, .inr ⟨hl.sq, q _ H (Same.refl H) ⟨p, ys, rfl, hl, hy⟩⟩⟩
  | _ => cases hs
theorem call_lstP : CallR X (.type "list") (rO X.K cad sub .lstOf) := by
  intro pins s σ H xs us Q I r ⟨F, ds, d, hF, hp, hs, q⟩
  obtain ⟨x, da, rfl, h1, hs⟩ := un1 hp hs (fun _ _ => rfl) (fun _ _ _ => rfl)
  have hs : lstD da = some d := hs
  cases da with
  | lst a =>
    cases (show some (D.lst a) = some d from hs)
    obtain ⟨p, ys, rfl, hl, hy⟩ := h1
    exact call_list_of pins s σ H _ us Q I r ⟨p, ys, rfl, .inl hl, fun l hl => q _ _ (same_upd hl) (new_lst hF hl hy)⟩
  | tup a =>
    cases (show some (D.lst a) = some d from hs)
    obtain ⟨p, ys, rfl, hl, hy⟩ := h1
    exact call_list_of pins s σ H _ us Q I r ⟨p, ys, rfl, .inr hl.sq, fun l hl => q _ _ (same_upd hl) (new_lst hF hl hy)⟩
  | _ => cases hs
theorem isBls_rel {K : PySem.W.Frag} {H : Hp} {F : List Addr} : ∀ {ds : List D} {vs : List V} {bs : List Bool}, IsDs K cad H F ds vs → isBls ds = some bs → vs = bs.map V.bl
  | [], _, _, h, e => by
    cases (show some [] = some _ from e)
    exact h
  | d :: ds, _, bs, h, e => by
    obtain ⟨x, r, rfl, h1, h2⟩ := h
    cases d with
    | bl b =>
      cases (show x = .bl b from h1)
      have e' : (isBls ds).map (b :: ·) = some bs := e
      cases q : isBls ds with
      | none => rw [q] at e'; cases e'
      | some bs =>
        rw [q] at e'
        cases e'
        rw [isBls_rel h2 q]
        rfl
    | _ => cases e
theorem isInts_rel {K : PySem.W.Frag} {H : Hp} {F : List Addr} : ∀ {ds : List D} {vs : List V} {bs : List Int}, IsDs K cad H F ds vs → isInts ds = some bs → vs = bs.map V.int
  | [], _, _, h, e => by
    cases (show some [] = some _ from e)
    exact h
  | d :: ds, _, bs, h, e => by
    obtain ⟨x, r, rfl, h1, h2⟩ := h
    cases d with
    | int b =>
      cases (show x = .int b from h1)
      have e' : (isInts ds).map (b :: ·) = some bs := e
      cases q : isInts ds with
      | none => rw [q] at e'; cases e'
      | some bs =>
        rw [q] at e'
        cases e'
        rw [isInts_rel h2 q]
        rfl
    | _ => cases e
theorem call_allP (hcalm : X.calm = true) : CallR X (.builtin "all") (rO X.K cad sub .all) := by
  intro pins s σ H xs us Q I r ⟨F, ds, d, hF, hp, hs, q⟩
  obtain ⟨x, da, rfl, h1, hs⟩ := un1 hp hs (fun _ _ => rfl) (fun _ _ _ => rfl)
  have hs : allD da = some d := hs
  cases da with
  | lst a =>
    have hs' : (isBls a).map (fun bs => D.bl (bs.all id)) = some d := hs
    cases e : isBls a with
    | none => rw [e] at hs'; cases hs'
    | some bs =>
      rw [e] at hs'
      cases hs'
      obtain ⟨p, ys, rfl, hl, hy⟩ := h1
      rw [isBls_rel hy e] at hl
      exact cr_all hcalm pins s σ H _ us Q I r ⟨p, bs, rfl, hl, q _ H (Same.refl H) rfl⟩
  | _ => cases hs
theorem call_anyP (hcalm : X.calm = true) : CallR X (.builtin "any") (rO X.K cad sub .any) := by
  intro pins s σ H xs us Q I r ⟨F, ds, d, hF, hp, hs, q⟩
  obtain ⟨x, da, rfl, h1, hs⟩ := un1 hp hs (fun _ _ => rfl) (fun _ _ _ => rfl)
  have hs : anyD da = some d := hs
  cases da with
  | lst a =>
    have hs' : (isBls a).map (fun bs => D.bl (bs.any id)) = some d := hs
    cases e : isBls a with
    | none => rw [e] at hs'; cases hs'
    | some bs =>
      rw [e] at hs'
      cases hs'
      obtain ⟨p, ys, rfl, hl, hy⟩ := h1
      rw [isBls_rel hy e] at hl
      exact cr_any hcalm pins s σ H _ us Q I r ⟨p, bs, rfl, hl, q _ H (Same.refl H) rfl⟩
  | _ => cases hs
theorem call_sumP (hcalm : X.calm = true) : CallR X (.builtin "sum") (rO X.K cad sub .sum) := by
  intro pins s σ H xs us Q I r ⟨F, ds, d, hF, hp, hs, q⟩
  obtain ⟨x, da, rfl, h1, hs⟩ := un1 hp hs (fun _ _ => rfl) (fun _ _ _ => rfl)
  have hs : sumD da = some d := hs
  cases da with
  | lst a =>
    have hs' : (isInts a).map (fun bs => D.int bs.sum) = some d := hs
    cases e : isInts a with
    | none => rw [e] at hs'; cases hs'
    | some bs =>
      rw [e] at hs'
      cases hs'
      obtain ⟨p, ys, rfl, hl, hy⟩ := h1
      rw [isInts_rel hy e] at hl
      exact cr_sum hcalm pins s σ H _ us Q I r ⟨p, bs, rfl, hl, q _ H (Same.refl H) rfl⟩
  | _ => cases hs
theorem call_divmodP : CallR X (.builtin "divmod") (rO X.K cad sub .divmod) := by
  intro pins s σ H xs us Q I r ⟨F, ds, d, hF, hp, hs, q⟩
  obtain ⟨x, y, da, db, rfl, h1, h2, hs⟩ := un2 hp hs (fun _ => rfl) (fun _ _ _ => rfl)
  have hs : divmodD da db = some d := hs
  cases da with
  | int i =>
    cases db with
    | int j =>
      cases (show x = .int i from h1)
      cases (show y = .int j from h2)
      have hs' : (if 0 < j ∧ j.natAbs.log2 < 9000 then some (D.tup [.int (i / j), .int (i % j)]) else none) = some d := hs
      by_cases hc : 0 < j ∧ j.natAbs.log2 < 9000
      · rw [if_pos hc] at hs'
        cases hs'
        exact call_divmodW pins s σ H _ us Q I r ⟨i, j, rfl, ⟨hc.1, PyProof.noPylong_of_log2 hc.2⟩, fun p hp => q _ _ (same_upd hp) (new_tup hF hp ⟨_, _, rfl, rfl, _, _, rfl, rfl, rfl⟩)⟩
      · rw [if_neg hc] at hs'; cases hs'
    | _ => cases hs
  | _ => cases hs
theorem call_min2P (hcalm : X.calm = true) : CallR X (.builtin "min") (rO X.K cad sub .min2) := by
  intro pins s σ H xs us Q I r ⟨F, ds, d, hF, hp, hs, q⟩
  obtain ⟨x, y, da, db, rfl, h1, h2, hs⟩ := un2 hp hs (fun _ => rfl) (fun _ _ _ => rfl)
  have hs : minD da db = some d := hs
  cases da with
  | int i =>
    cases db with
    | int j =>
      cases (show x = .int i from h1)
      cases (show y = .int j from h2)
      cases (show some (D.int (if j < i then j else i)) = some d from hs)
      exact call_min2 hcalm pins s σ H _ us Q I r ⟨i, j, rfl, q _ H (Same.refl H) rfl⟩
    | _ => cases hs
  | _ => cases hs
theorem call_max2P (hcalm : X.calm = true) : CallR X (.builtin "max") (rO X.K cad sub .max2) := by
  intro pins s σ H xs us Q I r ⟨F, ds, d, hF, hp, hs, q⟩
  obtain ⟨x, y, da, db, rfl, h1, h2, hs⟩ := un2 hp hs (fun _ => rfl) (fun _ _ _ => rfl)
  have hs : maxD da db = some d := hs
  cases da with
  | int i =>
    cases db with
    | int j =>
      cases (show x = .int i from h1)
      cases (show y = .int j from h2)
      cases (show some (D.int (if j > i then j else i)) = some d from hs)
      exact call_max2 hcalm pins s σ H _ us Q I r ⟨i, j, rfl, q _ H (Same.refl H) rfl⟩
    | _ => cases hs
  | _ => cases hs
theorem mt_swP : MtR X "str.startswith" (fun x xs H Q => rO X.K cad sub .startswith (x :: xs) H Q) := by
  intro pins s σ H x xs v us Q I rx r ⟨F, ds, d, hF, hp, hs, q⟩
  obtain ⟨x', y, da, db, e0, h1, h2, hs⟩ := un2 hp hs (fun _ => rfl) (fun _ _ _ => rfl)
  cases e0
  cases da with
  | str a =>
    cases db with
    | str b =>
      cases (show x = .str a from h1)
      cases (show y = .str b from h2)
      cases (show some (D.bl (Txt.startswith a b)) = some d from hs)
      exact mt_startswith pins s σ H _ _ v us Q I rx r ⟨a, b, rfl, rfl, q _ H (Same.refl H) rfl⟩
    | _ => cases (show (none : Option D) = some d from hs)
  | _ => cases (show (none : Option D) = some d from hs)
theorem mt_ewP : MtR X "str.endswith" (fun x xs H Q => rO X.K cad sub .endswith (x :: xs) H Q) := by
  intro pins s σ H x xs v us Q I rx r ⟨F, ds, d, hF, hp, hs, q⟩
  obtain ⟨x', y, da, db, e0, h1, h2, hs⟩ := un2 hp hs (fun _ => rfl) (fun _ _ _ => rfl)
  cases e0
  cases da with
  | str a =>
    cases db with
    | str b =>
      cases (show x = .str a from h1)
      cases (show y = .str b from h2)
      cases (show some (D.bl (Txt.endswith a b)) = some d from hs)
      exact mt_endswith pins s σ H _ _ v us Q I rx r ⟨a, b, rfl, rfl, q _ H (Same.refl H) rfl⟩
    | _ => cases (show (none : Option D) = some d from hs)
  | _ => cases (show (none : Option D) = some d from hs)
theorem isStrs_rel {K : PySem.W.Frag} {H : Hp} {F : List Addr} : ∀ {ds : List D} {vs : List V} {bs : List Str}, IsDs K cad H F ds vs → isStrs ds = some bs → vs = bs.map V.str
  | [], _, _, h, e => by
    cases (show some [] = some _ from e)
    exact h
  | d :: ds, _, bs, h, e => by
    obtain ⟨x, r, rfl, h1, h2⟩ := h
    cases d with
    | str b =>
      cases (show x = .str b from h1)
      have e' : (isStrs ds).map (b :: ·) = some bs := e
      cases q : isStrs ds with
      | none => rw [q] at e'; cases e'
      | some bs =>
        rw [q] at e'
        cases e'
        rw [isStrs_rel h2 q]
        rfl
    | _ => cases e
theorem strs_new {K : PySem.W.Frag} {H : Hp} {F : List Addr} (ys : List Str) : IsDs K cad H F (ys.map .str) (ys.map V.str) := by
  induction ys with
  | nil => rfl
  | cons y ys ih => exact ⟨_, _, rfl, rfl, ih⟩
theorem mt_splitP : MtR X "str.split" (fun x xs H Q => rO X.K cad sub .split (x :: xs) H Q) := by
  intro pins s σ H x xs v us Q I rx r ⟨F, ds, d, hF, hp, hs, q⟩
  obtain ⟨x', y, da, db, e0, h1, h2, hs⟩ := un2 hp hs (fun _ => rfl) (fun _ _ _ => rfl)
  cases e0
  cases da with
  | str a =>
    cases db with
    | str b =>
      cases (show x = .str a from h1)
      cases (show y = .str b from h2)
      have hs' : (if b.length ≠ 0 ∧ a.length + 2 ≤ LIM then some (D.lst ((Txt.split a b).map .str)) else none) = some d := hs
      by_cases hc : b.length ≠ 0 ∧ a.length + 2 ≤ LIM
      · rw [if_pos hc] at hs'
        cases hs'
        exact mt_split pins s σ H _ _ v us Q I rx r ⟨a, b, rfl, rfl, by simpa using hc.1, by rw [← lim_eq]; exact hc.2, fun p hp => q _ _ (same_upd hp) (new_lst hF hp (strs_new _))⟩
      · rw [if_neg hc] at hs'; cases hs'
    | _ => cases (show (none : Option D) = some d from hs)
  | _ => cases (show (none : Option D) = some d from hs)
theorem mt_countP : MtR X "str.count" (fun x xs H Q => rO X.K cad sub .count (x :: xs) H Q) := by
  intro pins s σ H x xs v us Q I rx r ⟨F, ds, d, hF, hp, hs, q⟩
  obtain ⟨x', y, da, db, e0, h1, h2, hs⟩ := un2 hp hs (fun _ => rfl) (fun _ _ _ => rfl)
  cases e0
  cases da with
  | str a =>
    cases db with
    | str b =>
      cases (show x = .str a from h1)
      cases (show y = .str b from h2)
      cases (show some (D.int (Txt.count a b)) = some d from hs)
      exact mt_count pins s σ H _ _ v us Q I rx r ⟨a, b, rfl, rfl, q _ H (Same.refl H) rfl⟩
    | _ => cases (show (none : Option D) = some d from hs)
  | _ => cases (show (none : Option D) = some d from hs)
theorem joinOk_le {x : Str} {ys : List Str} (h : joinOk x ys = true) : (ys.map (·.length)).sum + ys.length * x.length ≤ 16777216 := of_decide_eq_true h
theorem mt_joinP : MtR X "str.join" (fun x xs H Q => rO X.K cad sub .join (x :: xs) H Q) := by
  intro pins s σ H x xs v us Q I rx r ⟨F, ds, d, hF, hp, hs, q⟩
  obtain ⟨x', y, da, db, e0, h1, h2, hs⟩ := un2 hp hs (fun _ => rfl) (fun _ _ _ => rfl)
  cases e0
  cases da with
  | str a =>
    cases (show x = .str a from h1)
    cases db with
    | lst ys =>
      have hs' : (match isStrs ys with | some zs => if joinOk a zs = true then some (D.str (Txt.join a zs)) else none | none => none) = some d := hs
      cases e : isStrs ys with
      | none => rw [e] at hs'; cases hs'
      | some zs =>
        rw [e] at hs'
        have hs' : (if joinOk a zs = true then some (D.str (Txt.join a zs)) else none) = some d := hs'
        by_cases hc : joinOk a zs = true
        · rw [if_pos hc] at hs'
          cases hs'
          obtain ⟨p, vs, rfl, hl, hv⟩ := h2
          rw [isStrs_rel hv e] at hl
          exact mt_join pins s σ H _ _ v us Q I rx r ⟨a, p, zs, rfl, rfl, .inl hl, joinOk_le hc, q _ H (Same.refl H) rfl⟩
        · rw [if_neg hc] at hs'; cases hs'
    | tup ys =>
      have hs' : (match isStrs ys with | some zs => if joinOk a zs = true then some (D.str (Txt.join a zs)) else none | none => none) = some d := hs
      cases e : isStrs ys with
      | none => rw [e] at hs'; cases hs'
      | some zs =>
        rw [e] at hs'
        have hs' : (if joinOk a zs = true then some (D.str (Txt.join a zs)) else none) = some d := hs'
        by_cases hc : joinOk a zs = true
        · rw [if_pos hc] at hs'
          cases hs'
          obtain ⟨p, vs, rfl, hl, hv⟩ := h2
          rw [isStrs_rel hv e] at hl
          exact mt_join pins s σ H _ _ v us Q I rx r ⟨a, p, zs, rfl, rfl, .inr hl.sq, joinOk_le hc, q _ H (Same.refl H) rfl⟩
        · rw [if_neg hc] at hs'; cases hs'
    | _ => cases (show (none : Option D) = some d from hs)
  | _ => cases (show (none : Option D) = some d from hs)
theorem mt_get1P (hu : X.A.units + 100 < cLine) : MtR X "dict.get" (fun x xs H Q => rO X.K cad sub .get1 (x :: xs) H Q) := by
  intro pins s σ H x xs v us Q I rx r ⟨F, ds, d, hF, hp, hs, q⟩
  obtain ⟨x', y, da, db, e0, h1, h2, hs⟩ := un2 hp hs (fun _ => rfl) (fun _ _ _ => rfl)
  cases e0
  cases da with
  | dct ks vs =>
    have hs : (match keyOf db with | some q => some ((dget ks vs q).getD .non) | none => none) = some d := hs
    cases hk : keyOf db with
    | none => rw [hk] at hs; cases hs
    | some k =>
      rw [hk] at hs
      cases hs
      obtain ⟨a, o, rfl, g, _, hm⟩ := dget_at h1 h2 hk
      cases rx
      obtain ⟨u, rfl, ru⟩ := vals1 r
      refine d_get1 (by omega) I g ru fun w' s' I' rw' => ⟨_, H, I', rw', q _ H (Same.refl H) ?_⟩
      cases hd : dget ks vs k with
      | none => rw [hd] at hm; rw [show o = none from hm]; rfl
      | some d => rw [hd] at hm; obtain ⟨v, e1, hv⟩ := hm; rw [e1]; exact hv
  | _ => cases (show (none : Option D) = some d from hs)
theorem un3 {o : O} {K : PySem.W.Frag} {H : Hp} {F : List Addr} {ds : List D} {d : D} {xs : List V} (hp : PkDs K cad H F ds xs) (hs : sem sub o ds = some d) (h1 : ∀ a, sem1 sub o a = none) (h2 : ∀ a b, sem2 o a b = none) : ∃ x y z a b c, xs = [x, y, z] ∧ PkD K cad H F a x ∧ PkD K cad H F b y ∧ PkD K cad H F c z ∧ sem3 o a b c = some d := by
  match ds, hp, hs with
  | [], _, hs => exact nomatch (show (none : Option D) = some d from hs)
  | [a], _, hs => exact nomatch (h1 a).symm.trans hs
  | [a, b], _, hs => exact nomatch (h2 a b).symm.trans hs
  | [a, b, c], hp, hs =>
    obtain ⟨x, r, rfl, h1, y, r2, rfl, h4, z, r3, rfl, h5, hr⟩ := hp
    cases (show r3 = [] from hr)
    exact ⟨x, y, z, a, b, c, rfl, h1, h4, h5, hs⟩
  | a :: b :: c :: e :: r, _, hs => exact nomatch (show (none : Option D) = some d from hs)
theorem pk_isD {K : PySem.W.Frag} {H : Hp} {F : List Addr} {d : D} {v : V} (h : PkD K cad H F d v) (hf : flatD d = true) : IsD K cad H F d v := by
  cases d <;> first | exact h | cases hf
theorem mt_get2P (hu : X.A.units + 100 < cLine) : MtR X "dict.get" (fun x xs H Q => rO X.K cad sub .get2 (x :: xs) H Q) := by
  intro pins s σ H x xs v us Q I rx r ⟨F, ds, d, hF, hp, hs, q⟩
  obtain ⟨x', y, z, da, db, dc, e0, h1, h2, h3, hs⟩ := un3 hp hs (fun _ => rfl) (fun _ _ => rfl)
  cases e0
  have hs : (if flatD dc = true then dget2D da db dc else none) = some d := hs
  by_cases hf : flatD dc = true
  · rw [if_pos hf] at hs
    cases da with
    | dct ks vs =>
      have hs : (match keyOf db with | some q => some ((dget ks vs q).getD dc) | none => none) = some d := hs
      cases hk : keyOf db with
      | none => rw [hk] at hs; cases hs
      | some k =>
        rw [hk] at hs
        cases hs
        obtain ⟨a, o, rfl, g, _, hm⟩ := dget_at h1 h2 hk
        cases rx
        obtain ⟨u, u2, rfl, ru, ru2⟩ := vals2 r
        refine d_get2 (by omega) I g ru ru2 fun w' s' I' rw' => ⟨_, H, I', rw', q _ H (Same.refl H) ?_⟩
        cases hd : dget ks vs k with
        | none => rw [hd] at hm; rw [show o = none from hm]; exact pk_isD h3 hf
        | some d => rw [hd] at hm; obtain ⟨v, e1, hv⟩ := hm; rw [e1]; exact hv
    | _ => cases (show (none : Option D) = some d from hs)
  · rw [if_neg hf] at hs; cases hs
theorem mt_partP : MtR X "str.partition" (fun x xs H Q => rO X.K cad sub .partition (x :: xs) H Q) := by
  intro pins s σ H x xs v us Q I rx r ⟨F, ds, d, hF, hp, hs, q⟩
  obtain ⟨x', y, da, db, e0, h1, h2, hs⟩ := un2 hp hs (fun _ => rfl) (fun _ _ _ => rfl)
  cases e0
  cases da with
  | str a =>
    cases db with
    | str b =>
      cases (show x = .str a from h1)
      cases (show y = .str b from h2)
      have hs' : (if b.length ≠ 0 ∧ a.length ≤ LIM then some (D.tup [.str (Txt.partition a b).1, .str (Txt.partition a b).2.1, .str (Txt.partition a b).2.2]) else none) = some d := hs
      by_cases hc : b.length ≠ 0 ∧ a.length ≤ LIM
      · rw [if_pos hc] at hs'
        cases hs'
        exact mt_partition pins s σ H _ _ v us Q I rx r ⟨a, b, rfl, rfl, by simpa using hc.1, by rw [← lim_eq]; exact hc.2, fun p hp => q _ _ (same_upd hp) (new_tup hF hp ⟨_, _, rfl, rfl, _, _, rfl, rfl, _, _, rfl, rfl, rfl⟩)⟩
      · rw [if_neg hc] at hs'; cases hs'
    | _ => cases (show (none : Option D) = some d from hs)
  | _ => cases (show (none : Option D) = some d from hs)
/-! truth -/
theorem truth_rel {K : PySem.W.Frag} {H : Hp} {F : List Addr} {d : D} {x : V} {b : Bool} (h : PkD K cad H F d x) (e : truth d = some b) : TruV K x H b := by
  cases d with
  | non => cases (show x = .non from h); cases (show some false = some b from e); rfl
  | bl c => cases (show x = .bl c from h); cases (show some c = some b from e); rfl
  | int i => cases (show x = .int i from h); cases (show some (i != 0) = some b from e); rfl
  | str a =>
    cases (show x = .str a from h)
    have e' : (if a.length ≤ 16777216 then some (a.length != 0) else none) = some b := e
    by_cases hc : a.length ≤ 16777216
    · rw [if_pos hc] at e'
      cases e'
      refine ⟨by rw [sizeLine_eq]; exact hc, ?_⟩
      cases a.length with
      | zero => rfl
      | succ n =>
        have h1 : ((n + 1 : Nat) : Int) ≠ 0 := by omega
        simp only [bne, h1, Nat.succ_ne_zero]
        simp
        omega
    · rw [if_neg hc] at e'; cases e'
  | tup ds =>
    cases (show some (!ds.isEmpty) = some b from e)
    obtain ⟨a, xs, rfl, ht, hx⟩ := h
    refine .inr (.inl ⟨xs, ht.sq, ?_⟩)
    have := hx.length
    cases ds <;> cases xs <;> simp_all
  | lst ds =>
    cases (show some (!ds.isEmpty) = some b from e)
    obtain ⟨a, xs, rfl, ht, hx⟩ := h
    refine .inl ⟨xs, ht, ?_⟩
    have := hx.length
    cases ds <;> cases xs <;> simp_all
  | dct ks vs =>
    cases (show some (!ks.isEmpty) = some b from e)
    obtain ⟨a, us, rfl, h1, h2, h3⟩ := h
    refine .inr (.inr ⟨us, h1, ?_⟩)
    subst h2
    cases us <;> rfl
  | obj _ _ _ => cases e
  | exc _ _ _ => cases e
end
end PD
set_option Elab.async false
set_option linter.all false
set_option maxRecDepth 100000
set_option maxHeartbeats 4000000
/-! PyD4: the program's text against the small language: expressions. -/
namespace PD
open PySem PySem.Spec PyProof.Rows L2

/-- what a def promises, by its reckoning -/
def spOf (K : PySem.W.Frag) (cad : Nat → Addr) (f : List PD.W → List M → Rs PD.W) : Sp := fun vs H Q E => ∃ (ws : List PD.W) (cs : List M) (as : AS) (R : List Addr), Cells K cad as R H cs ∧ IsWs K cad as R H ws vs ∧
  Post K cad (rW K cad) (fun cls d _ H => E cls d H) [] as R H Q (f ws cs)
/-! ### the look -/
def visB (sc : Scope) (x : Str) : Bool := decide (sc.names.lookup x = some .local) || decide (sc.names.lookup x = some .cell) || decide (sc.names.lookup x = some .free)
def globB (sc : Scope) (x : Str) : Bool := decide (sc.names.lookup x = some .globalImplicit) && !(x == ("__debug__" : Str)) && !(x == ("__name__" : Str)) && !(x == ("__classdict__" : Str))
def constB : Const → D → Bool
  | .none, .non => true
  | .bool b, .bl c => b == c
  | .int i, .int j => decide (i = j)
  | .str x, .str y => decide (x = y)
  | _, _ => false
def binO : Operator → Option O
  | .Add => some .add | .Sub => some .sub | .Mult => some .mul | .FloorDiv => some .fdiv | .Mod => some .mod | .Pow => some .pow
  | _ => none
def cmpO : CmpOp → Option O
  | .Eq => some .eq | .NotEq => some .ne | .Lt => some .lt | .LtE => some .le | .Gt => some .gt | .GtE => some .ge
  | _ => none
def notSet : Expr → Bool
  | .Set _ _ _ => false
  | _ => true
def isNoneE : Expr → Bool
  | .Constant .none _ _ => true
  | _ => false
/-- a truth, written -/
def boolE : Expr → Option Bool
  | .Constant (.bool b) _ _ => some b
  | _ => none
/-- built-in functions by name and number of arguments: the operation, whether a type -/
def bltO (x : Str) (n : Nat) : Option O :=
  if x = ("len" : Str) then (if n = 1 then some .len else none)
  else if x = ("abs" : Str) then (if n = 1 then some .abs else none)
  else if x = ("int" : Str) then (if n = 1 then some .int else none)
  else if x = ("str" : Str) then (if n = 1 then some .str else none)
  else if x = ("tuple" : Str) then (if n = 1 then some .tupOf else none)
  else if x = ("list" : Str) then (if n = 1 then some .lstOf else none)
  else if x = ("all" : Str) then (if n = 1 then some .all else none)
  else if x = ("any" : Str) then (if n = 1 then some .any else none)
  else if x = ("sum" : Str) then (if n = 1 then some .sum else none)
  else if x = ("divmod" : Str) then (if n = 2 then some .divmod else none)
  else if x = ("min" : Str) then (if n = 2 then some .min2 else none)
  else if x = ("max" : Str) then (if n = 2 then some .max2 else none)
  else none
def bmO (m : Str) (n : Nat) : Option O :=
  if m = ("startswith" : Str) then (if n = 1 then some .startswith else none)
  else if m = ("endswith" : Str) then (if n = 1 then some .endswith else none)
  else if m = ("partition" : Str) then (if n = 1 then some .partition else none)
  else if m = ("split" : Str) then (if n = 1 then some .split else none)
  else if m = ("join" : Str) then (if n = 1 then some .join else none)
  else if m = ("count" : Str) then (if n = 1 then some .count else none)
  else if m = ("get" : Str) then (if n = 1 then some .get1 else if n = 2 then some .get2 else none)
  else none
def notSlice : Expr → Bool
  | .Slice _ _ _ _ => false
  | _ => true
def notStar : Expr → Bool
  | .Starred _ _ => false
  | _ => true
/-- the object of a method's call: not super() -/
def attrB : Expr → Bool
  | .Call (.Name _ _) [] [] _ => false
  | _ => true
end PD
set_option Elab.async false
set_option linter.all false
set_option maxRecDepth 100000
set_option maxHeartbeats 4000000
/-! PyD5: expressions keep their promise. -/
namespace PD
open PySem PySem.Spec PyProof.Rows L2

section
variable (G : Pg) (Φ : Nat → List PD.W → List M → Rs PD.W) (cad : Nat → Addr)
def SE (X : Cx) (d : E) (e : Expr) : Prop := ∀ W, Takes X W → PE X e (liftE X.K cad W (evE G Φ d))
def SA (X : Cx) (d : List E) (e : List Expr) : Prop := ∀ W, Takes X W → PA X e (liftA X.K cad W (evEs G Φ d))
def ST (X : Cx) (d : E) (e : Expr) : Prop := ∀ W, Takes X W → PT X e (liftT X.K cad W (evT G Φ d))
end
/-- an operation on what was reckoned -/
def opK (G : Pg) (o : O) (ws : List PD.W) (cs : List M) : Rs PD.W := match pks ws cs with
  | some ds => match sem G.isT o ds with
    | some d => .ok (.d d) cs
    | none => .stuck
  | none => .stuck
section
variable {G : Pg} {Φ : Nat → List PD.W → List M → Rs PD.W} {cad : Nat → Addr} {X : Cx} {K : PySem.W.Frag}
theorem ev_op1 (o : O) (a : E) (sl : Sl) (cs : List M) : evE G Φ (.op o [a]) sl cs = (evE G Φ a sl cs).bind fun x cs => opK G o [x] cs := by
  show (evEs G Φ [a] sl cs).bind _ = _
  show ((evE G Φ a sl cs).bind fun w cs => (Rs.ok [] cs).bind fun ws cs => Rs.ok (w :: ws) cs).bind _ = _
  cases evE G Φ a sl cs <;> rfl
theorem ev_op2 (o : O) (a b : E) (sl : Sl) (cs : List M) : evE G Φ (.op o [a, b]) sl cs = (evE G Φ a sl cs).bind fun x cs => (evE G Φ b sl cs).bind fun y cs => opK G o [x, y] cs := by
  show ((evE G Φ a sl cs).bind fun w cs => ((evE G Φ b sl cs).bind fun w cs => (Rs.ok [] cs).bind fun ws cs => Rs.ok (w :: ws) cs).bind fun ws cs => Rs.ok (w :: ws) cs).bind _ = _
  cases evE G Φ a sl cs with
  | ok x cs1 =>
    show (((evE G Φ b sl cs1).bind fun w cs => (Rs.ok [] cs).bind fun ws cs => Rs.ok (w :: ws) cs).bind fun ws cs => Rs.ok (x :: ws) cs).bind _ = _
    show _ = (evE G Φ b sl cs1).bind fun y cs => opK G o [x, y] cs
    cases evE G Φ b sl cs1 <;> rfl
  | _ => rfl
theorem ev_op3 (o : O) (a b c : E) (sl : Sl) (cs : List M) : evE G Φ (.op o [a, b, c]) sl cs = (evE G Φ a sl cs).bind fun x cs => (evE G Φ b sl cs).bind fun y cs => (evE G Φ c sl cs).bind fun z cs => opK G o [x, y, z] cs := by
  show ((evE G Φ a sl cs).bind fun w cs => ((evE G Φ b sl cs).bind fun w cs => ((evE G Φ c sl cs).bind fun w cs => (Rs.ok [] cs).bind fun ws cs => Rs.ok (w :: ws) cs).bind fun ws cs => Rs.ok (w :: ws) cs).bind fun ws cs => Rs.ok (w :: ws) cs).bind _ = _
  cases evE G Φ a sl cs with
  | ok x cs1 =>
    show (((evE G Φ b sl cs1).bind fun w cs => ((evE G Φ c sl cs).bind fun w cs => (Rs.ok [] cs).bind fun ws cs => Rs.ok (w :: ws) cs).bind fun ws cs => Rs.ok (w :: ws) cs).bind fun ws cs => Rs.ok (x :: ws) cs).bind _ = (evE G Φ b sl cs1).bind _
    cases evE G Φ b sl cs1 with
    | ok y cs2 =>
      show ((((evE G Φ c sl cs2).bind fun w cs => (Rs.ok [] cs).bind fun ws cs => Rs.ok (w :: ws) cs).bind fun ws cs => Rs.ok (y :: ws) cs).bind fun ws cs => Rs.ok (x :: ws) cs).bind _ = (evE G Φ c sl cs2).bind _
      cases evE G Φ c sl cs2 <;> rfl
    | _ => rfl
  | _ => rfl
theorem Cells.hF {as : AS} {R : List Addr} {H : Hp} {cs : List M} (c : Cells K cad as R H cs) : ∀ a ∈ Av as R, ∃ u, H a = some u := fun a h => by
  rcases List.mem_append.mp h with h | h
  · exact live_there c h
  · exact c.rl a h
/-- the end of an operation -/
theorem Post.op {W : WX} {σ : L2.St} {as : AS} {R : List Addr} {H : Hp} {Q : VK} {o : O} {ws : List PD.W} {vs : List V} {cs : List M} (c : Cells K cad as R H cs) (h : IsWs K cad as R H ws vs)
    (p : Post K cad (rW K cad) W σ as R H Q (opK G o ws cs)) : rO K cad G.isT o vs H Q := by
  unfold opK at p
  cases e : pks ws cs with
  | none => rw [e] at p; exact p.elim
  | some ds =>
    rw [e] at p
    have p : Post K cad (rW K cad) W σ as R H Q (match sem G.isT o ds with | some d => .ok (.d d) cs | none => .stuck) := p
    cases e2 : sem G.isT o ds with
    | none => rw [e2] at p; exact p.elim
    | some d =>
      rw [e2] at p
      exact ⟨Av as R, ds, d, c.hF, h.pkDs c e, e2, fun v H' s i => p.data c s i⟩
theorem lift_ev {W : WX} {g g' : Sl → List M → Rs PD.W} (e : ∀ sl cs, g sl cs = g' sl cs) {σ : L2.St} {H : Hp} {Q : VK} (h : liftE K cad W g σ H Q) : liftE K cad W g' σ H Q := by
  obtain ⟨sl, cs, as, R, rel, p⟩ := h
  exact ⟨sl, cs, as, R, rel, by rw [← e]; exact p⟩
/-- two operands, then what the operation asks -/
theorem lift_op2 {W : WX} {o : O} {a b : E} {σ : L2.St} {H : Hp} {Q : VK} (h : liftE K cad W (evE G Φ (.op o [a, b])) σ H Q) :
    liftE K cad W (evE G Φ a) σ H fun x H1 => liftE K cad W (evE G Φ b) σ H1 fun y H2 => r2O K cad G.isT o x y H2 Q := by
  refine lift_mono (lift_bind0 (IsA := rW K cad) (lift_ev (ev_op2 o a b) h)) fun x H1 ⟨sl, cs, as, R, wa, rel, iw, p⟩ => ?_
  refine lift_mono (lift_bind (IsA := rW K cad) (hs := [wa]) (vs := [x]) (g := evE G Φ b) (f := fun _ y cs => opK G o [wa, y] cs) ⟨sl, cs, as, R, rel, ⟨x, [], rfl, iw, rfl⟩, p⟩) fun y H2 ⟨sl, cs, as, R, wb, rel, ih, iw, p⟩ => ?_
  obtain ⟨x', r, e, ix, _⟩ := ih
  cases e
  exact p.op (ws := [wa, wb]) (vs := [x, y]) rel.cells ⟨x, [y], rfl, ix, y, [], rfl, iw, rfl⟩
theorem lift_op1 {W : WX} {o : O} {a : E} {σ : L2.St} {H : Hp} {Q : VK} (h : liftE K cad W (evE G Φ (.op o [a])) σ H Q) : liftE K cad W (evE G Φ a) σ H fun x H1 => r1O K cad G.isT o x H1 Q :=
  lift_mono (lift_bind0 (IsA := rW K cad) (lift_ev (ev_op1 o a) h)) fun x H1 ⟨sl, cs, as, R, wa, rel, iw, p⟩ => p.op (ws := [wa]) (vs := [x]) rel.cells ⟨x, [], rfl, iw, rfl⟩
theorem lift_op3 {W : WX} {o : O} {a b c : E} {σ : L2.St} {H : Hp} {Q : VK} (h : liftE K cad W (evE G Φ (.op o [a, b, c])) σ H Q) :
    liftE K cad W (evE G Φ a) σ H fun x H1 => liftE K cad W (evE G Φ b) σ H1 fun y H2 => liftE K cad W (evE G Φ c) σ H2 fun z H3 => rO K cad G.isT o [x, y, z] H3 Q := by
  refine lift_mono (lift_bind0 (IsA := rW K cad) (lift_ev (ev_op3 o a b c) h)) fun x H1 ⟨sl, cs, as, R, wa, rel, iw, p⟩ => ?_
  refine lift_mono (lift_bind (IsA := rW K cad) (hs := [wa]) (vs := [x]) (g := evE G Φ b) (f := fun sl y cs => (evE G Φ c sl cs).bind fun z cs => opK G o [wa, y, z] cs) ⟨sl, cs, as, R, rel, ⟨x, [], rfl, iw, rfl⟩, p⟩) fun y H2 ⟨sl, cs, as, R, wb, rel, ih, iw, p⟩ => ?_
  obtain ⟨x', r, e, ix, _⟩ := ih
  cases e
  refine lift_mono (lift_bind (IsA := rW K cad) (hs := [wa, wb]) (vs := [x, y]) (g := evE G Φ c) (f := fun _ z cs => opK G o [wa, wb, z] cs) ⟨sl, cs, as, R, rel, ⟨x, [y], rfl, ix, y, [], rfl, iw, rfl⟩, p⟩) fun z H3 ⟨sl, cs, as, R, wc, rel, ih, iw, p⟩ => ?_
  obtain ⟨x', r, e, ix, y', r', e', iy, _⟩ := ih
  cases e
  cases e'
  exact p.op (ws := [wa, wb, wc]) (vs := [x, y, z]) rel.cells ⟨x, [y, z], rfl, ix, y, [z], rfl, iy, z, [], rfl, iw, rfl⟩

variable {e a b c t : Expr} {da db dc dt : E} {es : List Expr} {ds : List E} {pos : Pos}
theorem r_const {k : Const} {j : Nat} {d : D} (h : constB k d = true) : SE G Φ cad X (.c d) (.Constant k j pos) := fun W tk => by
  have fin : ∀ {v : V}, (∀ H F, IsD X.K cad H F d v) → ∀ σ H Q, liftE X.K cad W (evE G Φ (.c d)) σ H Q → tC v σ H Q := fun hi σ H Q ⟨sl, cs, as, R, rel, p⟩ =>
    Post.data rel.cells p (Same.refl H) (hi H _)
  cases k with
  | none =>
    cases d with
    | non => exact pe_non.imp (fin fun _ _ => rfl)
    | _ => cases h
  | bool b =>
    cases d with
    | bl c =>
      have e : b = c := eq_of_beq h
      subst e
      exact pe_bl.imp (fin fun _ _ => rfl)
    | _ => cases h
  | int b =>
    cases d with
    | int c =>
      have e : b = c := of_decide_eq_true h
      subst e
      exact pe_int.imp (fin fun _ _ => rfl)
    | _ => cases h
  | str b =>
    cases d with
    | str c =>
      have e : b = c := of_decide_eq_true h
      subst e
      exact pe_str.imp (fin fun _ _ => rfl)
    | _ => cases h
  | _ => cases d <;> cases h
theorem r_dnil : SE G Φ cad X (.c (.dct [] [])) (.Dict [] [] pos) := fun W tk => pe_dnewK.imp fun σ H Q ⟨sl, cs, as, R, rel, p⟩ q hq =>
  Post.data rel.cells p (same_upd hq) ⟨q, [], rfl, fresh_av rel.cells.hF hq, upd_same, rfl, rfl⟩
theorem r_dnewC : SE G Φ cad X (.opC .dnew [.c (.dct [] [])]) (.Dict [] [] pos) := fun W tk => pe_dnewK.imp fun σ H Q ⟨sl, cs, as, R, rel, p⟩ q hq => by
  have p : Post X.K cad (rW X.K cad) W σ as R H Q (.ok (PD.W.c cs.length) (cs ++ [.dct [] []])) := p
  obtain ⟨c2, x2, i2⟩ := rel.cells.push (m := .dct [] []) hq ⟨[], upd_same, rfl, rfl⟩
  exact p _ _ _ x2 c2 i2
theorem r_var {x : Str} {i : Nat} (hN : X.N[i]? = some x) (hv : Vis X.env.scope x) (hd : (x == ("__debug__" : Str)) = false) (hcd : (x == ("__classdict__" : Str)) = false) : SE G Φ cad X (.v i) (.Name x pos) := fun W tk => by
  refine (pe_var hN hv hd hcd).imp fun σ H Q ⟨sl, cs, as, R, rel, p⟩ => ?_
  have p : Post X.K cad (rW X.K cad) W σ as R H Q (match sl[i]? with | some (some w) => .ok w cs | _ => .stuck) := p
  cases q : sl[i]? with
  | none => rw [q] at p; exact p.elim
  | some o =>
    cases o with
    | none => rw [q] at p; exact p.elim
    | some w =>
      rw [q] at p
      obtain ⟨v, e1, iw⟩ := rel.sl i w q
      exact ⟨v, e1, p v H as Ext.refl rel.cells iw⟩
theorem r_bin {op : Operator} {o : O} (ho : OpR X (binaryOp op) (r2O X.K cad G.isT o)) (ha : SE G Φ cad X da a) (hb : SE G Φ cad X db b) : SE G Φ cad X (.op o [da, db]) (.BinOp a op b pos) := fun W tk =>
  (pe_op ho (ha W tk) (hb W tk)).imp fun σ H Q h => lift_op2 h
theorem r_cmp {op : CmpOp} {o : O} (ho : OpR X (compareOp op) (r2O X.K cad G.isT o)) (ha : SE G Φ cad X da a) (hb : SE G Φ cad X db b) (hm : behindInMarks op b = false) : SE G Φ cad X (.op o [da, db]) (.Compare a [op] [b] pos) := fun W tk =>
  (pe_cmpR ho (ha W tk) (hb W tk) hm).imp fun σ H Q h => lift_op2 h
theorem r_un {op : UnaryOp} {o : O} (ho : UnR X (unaryOp op) (r1O X.K cad G.isT o)) (ha : SE G Φ cad X da a) : SE G Φ cad X (.op o [da]) (.UnaryOp op a pos) := fun W tk =>
  (pe_un ho (ha W tk)).imp fun σ H Q h => lift_op1 h
theorem r_isN {op : CmpOp} {o : O} (ho : OpR X (compareOp op) (fun x y H Q => y = .non ∧ r1O X.K cad G.isT o x H Q)) (ha : SE G Φ cad X da a) {j : Nat} {p2 : Pos} (hm : behindInMarks op (.Constant .none j p2) = false) : SE G Φ cad X (.op o [da]) (.Compare a [op] [.Constant .none j p2] pos) := fun W tk =>
  (pe_cmpR ho (ha W tk) pe_non hm).imp fun σ H Q h => lift_mono (lift_op1 h) fun x H1 q => ⟨rfl, q⟩
theorem r_isB {b : Bool} {op : CmpOp} {o : O} (ho : OpR X (compareOp op) (fun x y H Q => y = .bl b ∧ r1O X.K cad G.isT o x H Q)) (ha : SE G Φ cad X da a) {j : Nat} {p2 : Pos} (hm : behindInMarks op (.Constant (.bool b) j p2) = false) : SE G Φ cad X (.op o [da]) (.Compare a [op] [.Constant (.bool b) j p2] pos) := fun W tk =>
  (pe_cmpR ho (ha W tk) pe_bl hm).imp fun σ H Q h => lift_mono (lift_op1 h) fun x H1 q => ⟨rfl, q⟩
theorem r_rev {k : Nat} {p1 p2 p3 : Pos} (ha : SE G Φ cad X da a) : SE G Φ cad X (.op .rev [da]) (.Subscript a (.Slice none none (some (.UnaryOp .USub (.Constant (.int 1) k p1) p2)) p3) pos) := fun W tk =>
  (pe_revA (ha W tk)).imp fun σ H Q h => lift_mono (lift_op1 h) fun x H1 ⟨F, ds, d, hF, hp, hs, q⟩ => by
    obtain ⟨da, rfl, h1⟩ := pk1 hp
    cases da <;> try (exact absurd (show none = some d from hs) (by simp))
    case lst xs =>
      cases (show some (D.lst xs.reverse) = some d from hs)
      obtain ⟨p, ys, rfl, hl, hy⟩ := h1
      exact ⟨p, ys, rfl, .inl ⟨hl, fun r hr => q _ _ (same_upd hr) (new_lst hF hr hy.rev)⟩⟩
    case tup xs =>
      cases (show some (D.tup xs.reverse) = some d from hs)
      obtain ⟨p, ys, rfl, hl, hy⟩ := h1
      exact ⟨p, ys, rfl, .inr ⟨hl.sq, fun r hr => q _ _ (same_upd hr) (new_tup hF hr hy.rev)⟩⟩
theorem r_ix (ho : IxR X (r2O X.K cad G.isT .ix)) (ha : SE G Φ cad X da a) (hb : SE G Φ cad X db b) (hs : PlainIx b) : SE G Φ cad X (.op .ix [da, db]) (.Subscript a b pos) := fun W tk =>
  (pe_ix ho (ha W tk) (hb W tk) hs).imp fun σ H Q h => lift_op2 h

/-- the end of a slice -/
theorem Post.sl {W : WX} {σ : L2.St} {as : AS} {R : List Addr} {H : Hp} {Q : VK} {w : PD.W} {x : V} {cs : List M} {lo hi : Option Int} (c : Cells K cad as R H cs) (h : IsW K cad as R H w x)
    (p : Post K cad (rW K cad) W σ as R H Q (Rs.ofO (((pk w cs).bind fun d => slD d lo hi).map PD.W.d) cs)) : rSlP K cad x lo hi H Q := by
  cases e : pk w cs with
  | none => rw [e] at p; exact p.elim
  | some d =>
    rw [e] at p
    have p : Post K cad (rW K cad) W σ as R H Q (Rs.ofO ((slD d lo hi).map PD.W.d) cs) := p
    cases e2 : slD d lo hi with
    | none => rw [e2] at p; exact p.elim
    | some d' =>
      rw [e2] at p
      exact ⟨Av as R, d, d', c.hF, h.pkD c e, e2, fun v H' s i => Post.data c p s i⟩
/-- a bound is a number -/
theorem IsW.int {as : AS} {R : List Addr} {H : Hp} {i : Int} {x : V} (h : IsW K cad as R H (.d (.int i)) x) : x = .int i := h
theorem r_slL {p2 : Pos} (ha : SE G Φ cad X da a) (hb : SE G Φ cad X db b) : SE G Φ cad X (.slL da db) (.Subscript a (.Slice (some b) none none p2) pos) := fun W tk =>
  (pe_slice sl_P (ha W tk) (po_some (hb W tk)) po_none).imp fun σ H Q h => by
    refine lift_mono (lift_bind0 (IsA := rW X.K cad) (IsB := rW X.K cad) (g := evE G Φ da) (f := fun sl w cs => (evE G Φ db sl cs).bind fun l cs => match l with
      | .d (.int i) => Rs.ofO (((pk w cs).bind fun d => slD d (some i) none).map PD.W.d) cs
      | _ => .stuck) h) fun x H1 ⟨sl, cs, as, R, wa, rel, iw, p⟩ => ?_
    refine lift_mono (lift_bind (IsA := rW X.K cad) (IsB := rW X.K cad) (hs := [wa]) (vs := [x]) (g := evE G Φ db) (f := fun _ l cs => match l with
      | .d (.int i) => Rs.ofO (((pk wa cs).bind fun d => slD d (some i) none).map PD.W.d) cs
      | _ => .stuck) ⟨sl, cs, as, R, rel, ⟨x, [], rfl, iw, rfl⟩, p⟩) fun y H2 ⟨sl, cs, as, R, wb, rel, ih, iy, p⟩ => ?_
    obtain ⟨x', r, e, ix, _⟩ := ih
    cases e
    match wb, iy, p with
    | .d (.int i), iy, p => exact ⟨i, iy, Post.sl rel.cells ix p⟩
    | .d .non, _, p => exact p.elim
    | .d (.bl _), _, p => exact p.elim
    | .d (.str _), _, p => exact p.elim
    | .d (.tup _), _, p => exact p.elim
    | .d (.lst _), _, p => exact p.elim
    | .d (.dct _ _), _, p => exact p.elim
    | .d (.obj _ _ _), _, p => exact p.elim
    | .d (.exc _ _ _), _, p => exact p.elim
    | .c _, _, p => exact p.elim
theorem r_slH {p2 : Pos} (ha : SE G Φ cad X da a) (hb : SE G Φ cad X db b) : SE G Φ cad X (.slH da db) (.Subscript a (.Slice none (some b) none p2) pos) := fun W tk =>
  (pe_slice sl_P (ha W tk) po_none (po_some (hb W tk))).imp fun σ H Q h => by
    refine lift_mono (lift_bind0 (IsA := rW X.K cad) (IsB := rW X.K cad) (g := evE G Φ da) (f := fun sl w cs => (evE G Φ db sl cs).bind fun l cs => match l with
      | .d (.int i) => Rs.ofO (((pk w cs).bind fun d => slD d none (some i)).map PD.W.d) cs
      | _ => .stuck) h) fun x H1 ⟨sl, cs, as, R, wa, rel, iw, p⟩ => ?_
    refine lift_mono (lift_bind (IsA := rW X.K cad) (IsB := rW X.K cad) (hs := [wa]) (vs := [x]) (g := evE G Φ db) (f := fun _ l cs => match l with
      | .d (.int i) => Rs.ofO (((pk wa cs).bind fun d => slD d none (some i)).map PD.W.d) cs
      | _ => .stuck) ⟨sl, cs, as, R, rel, ⟨x, [], rfl, iw, rfl⟩, p⟩) fun y H2 ⟨sl, cs, as, R, wb, rel, ih, iy, p⟩ => ?_
    obtain ⟨x', r, e, ix, _⟩ := ih
    cases e
    match wb, iy, p with
    | .d (.int i), iy, p => exact ⟨i, iy, Post.sl rel.cells ix p⟩
    | .d .non, _, p => exact p.elim
    | .d (.bl _), _, p => exact p.elim
    | .d (.str _), _, p => exact p.elim
    | .d (.tup _), _, p => exact p.elim
    | .d (.lst _), _, p => exact p.elim
    | .d (.dct _ _), _, p => exact p.elim
    | .d (.obj _ _ _), _, p => exact p.elim
    | .d (.exc _ _ _), _, p => exact p.elim
    | .c _, _, p => exact p.elim
theorem r_sl2 {p2 : Pos} (ha : SE G Φ cad X da a) (hb : SE G Φ cad X db b) (hc : SE G Φ cad X dc c) : SE G Φ cad X (.sl2 da db dc) (.Subscript a (.Slice (some b) (some c) none p2) pos) := fun W tk =>
  (pe_slice sl_P (ha W tk) (po_some (hb W tk)) (po_some (hc W tk))).imp fun σ H Q h => by
    refine lift_mono (lift_bind0 (IsA := rW X.K cad) (IsB := rW X.K cad) (g := evE G Φ da) (f := fun sl w cs => (evE G Φ db sl cs).bind fun l cs => match l with
      | .d (.int i) => (evE G Φ dc sl cs).bind fun h cs => (match h with
        | .d (.int j) => Rs.ofO (((pk w cs).bind fun d => slD d (some i) (some j)).map PD.W.d) cs
        | _ => .stuck)
      | _ => .stuck) h) fun x H1 ⟨sl, cs, as, R, wa, rel, iw, p⟩ => ?_
    refine lift_mono (lift_bind (IsA := rW X.K cad) (IsB := rW X.K cad) (hs := [wa]) (vs := [x]) (g := evE G Φ db) (f := fun sl l cs => match l with
      | .d (.int i) => (evE G Φ dc sl cs).bind fun h cs => (match h with
        | .d (.int j) => Rs.ofO (((pk wa cs).bind fun d => slD d (some i) (some j)).map PD.W.d) cs
        | _ => .stuck)
      | _ => .stuck) ⟨sl, cs, as, R, rel, ⟨x, [], rfl, iw, rfl⟩, p⟩) fun y H2 ⟨sl, cs, as, R, wb, rel, ih, iy, p⟩ => ?_
    match wb, iy, p with
    | .d (.int i), iy, p =>
      refine ⟨i, iy, lift_mono (lift_bind (IsA := rW X.K cad) (IsB := rW X.K cad) (hs := [wa]) (vs := [x]) (g := evE G Φ dc) (f := fun _ h cs => match h with
        | .d (.int j) => Rs.ofO (((pk wa cs).bind fun d => slD d (some i) (some j)).map PD.W.d) cs
        | _ => .stuck) ⟨sl, cs, as, R, rel, ih, p⟩) fun z H3 ⟨sl, cs, as, R, wc, rel, ih, iz, p⟩ => ?_⟩
      obtain ⟨x', r, e, ix, _⟩ := ih
      cases e
      match wc, iz, p with
      | .d (.int j), iz, p => exact ⟨j, iz, Post.sl rel.cells ix p⟩
      | .d .non, _, p => exact p.elim
      | .d (.bl _), _, p => exact p.elim
      | .d (.str _), _, p => exact p.elim
      | .d (.tup _), _, p => exact p.elim
      | .d (.lst _), _, p => exact p.elim
      | .d (.dct _ _), _, p => exact p.elim
      | .d (.obj _ _ _), _, p => exact p.elim
      | .d (.exc _ _ _), _, p => exact p.elim
      | .c _, _, p => exact p.elim
    | .d .non, _, p => exact p.elim
    | .d (.bl _), _, p => exact p.elim
    | .d (.str _), _, p => exact p.elim
    | .d (.tup _), _, p => exact p.elim
    | .d (.lst _), _, p => exact p.elim
    | .d (.dct _ _), _, p => exact p.elim
    | .d (.obj _ _ _), _, p => exact p.elim
    | .d (.exc _ _ _), _, p => exact p.elim
    | .c _, _, p => exact p.elim
/-! lists of expressions, displays -/
theorem r_nil : SA G Φ cad X [] [] := fun W tk => pa_nil.imp fun σ H Q ⟨sl, cs, as, R, rel, p⟩ => (show Post X.K cad (rWs X.K cad) W σ as R H Q (.ok [] cs) from p) [] H as Ext.refl rel.cells rfl
theorem star_of (h : notStar e = true) : starEach (e :: es) X.env = (false, eval e X.env) :: starEach es X.env := by
  cases e <;> first | rfl | cases h
theorem r_cons (hs : notStar e = true) (ha : SE G Φ cad X da e) (hb : SA G Φ cad X ds es) : SA G Φ cad X (da :: ds) (e :: es) := fun W tk =>
  (pa_cons (ha W tk) (hb W tk) (star_of hs)).imp fun σ H Q h => by
    refine lift_mono (lift_bind0 (IsA := rW X.K cad) (IsB := rWs X.K cad) (g := evE G Φ da) (f := fun sl w cs => (evEs G Φ ds sl cs).bind fun ws cs => .ok (w :: ws) cs) h) fun x H1 ⟨sl, cs, as, R, wa, rel, iw, p⟩ => ?_
    refine lift_mono (lift_bind (IsA := rWs X.K cad) (IsB := rWs X.K cad) (hs := [wa]) (vs := [x]) (g := evEs G Φ ds) (f := fun _ ws cs => .ok (wa :: ws) cs) ⟨sl, cs, as, R, rel, ⟨x, [], rfl, iw, rfl⟩, p⟩) fun y H2 ⟨sl, cs, as, R, wb, rel, ih, iy, p⟩ => ?_
    obtain ⟨x', r, e, ix, _⟩ := ih
    cases e
    exact p _ H2 as Ext.refl rel.cells ⟨_, _, rfl, ix, iy⟩
theorem r_tup {k : Nat} (h : SA G Φ cad X ds es) : SE G Φ cad X (.tup ds) (.Tuple es k pos) := fun W tk =>
  (pe_tup (h W tk)).imp fun σ H Q h => by
    refine lift_mono (lift_bind0 (IsA := rWs X.K cad) (IsB := rW X.K cad) (g := evEs G Φ ds) (f := fun _ ws cs => match dats ws with
      | some ds => if ds.length ≤ LIM then .ok (PD.W.d (.tup ds)) cs else .stuck
      | none => .stuck) h) fun xs H1 ⟨sl, cs, as, R, ws, rel, iw, p⟩ => ?_
    cases e : dats ws with
    | none => simp only [e] at p; exact p.elim
    | some dd =>
      simp only [e] at p
      have idd := iw.dats e
      by_cases hl : dd.length ≤ LIM
      · rw [if_pos hl] at p
        exact ⟨by rw [← lim_eq, ← idd.length]; exact hl, fun q hq => Post.data rel.cells p (same_upd hq) (new_tup rel.cells.hF hq idd)⟩
      · rw [if_neg hl] at p; exact p.elim
theorem r_lst (h : SA G Φ cad X ds es) : SE G Φ cad X (.lst ds) (.List es pos) := fun W tk =>
  (pe_lst (h W tk)).imp fun σ H Q h => by
    refine lift_mono (lift_bind0 (IsA := rWs X.K cad) (IsB := rW X.K cad) (g := evEs G Φ ds) (f := fun _ ws cs => match dats ws with
      | some ds => if ds.length ≤ LIM then .ok (PD.W.d (.lst ds)) cs else .stuck
      | none => .stuck) h) fun xs H1 ⟨sl, cs, as, R, ws, rel, iw, p⟩ => ?_
    cases e : dats ws with
    | none => simp only [e] at p; exact p.elim
    | some dd =>
      simp only [e] at p
      have idd := iw.dats e
      by_cases hl : dd.length ≤ LIM
      · rw [if_pos hl] at p
        exact ⟨by rw [← lim_eq, ← idd.length]; exact hl, fun q hq => Post.data rel.cells p (same_upd hq) (new_lst rel.cells.hF hq idd)⟩
      · rw [if_neg hl] at p; exact p.elim
/-- a new list as a mutable object -/
theorem Kp.upd_new {as : AS} {R : List Addr} {H : Hp} {p : Addr} {o : HO} (hp : H p = none) : Kp H (Av as R) (upd H p o) (Av (as ++ [some p]) R) := ⟨fun a u h _ => same_upd hp a u h, fun a h => by
  rcases List.mem_append.mp h with h | h
  · obtain ⟨j, e⟩ := mem_live.mp h
    by_cases hj : j < as.length
    · rw [List.getElem?_append_left hj] at e
      exact .inl (List.mem_append_left _ (mem_live.mpr ⟨j, e⟩))
    · rw [List.getElem?_append_right (by omega)] at e
      have h0 : j - as.length = 0 := by
        have := (List.getElem?_eq_some_iff.mp e).1
        simp at this
        omega
      rw [h0] at e
      cases e
      exact .inr hp
  · exact .inl (List.mem_append_right _ h)⟩
theorem Cells.newLst {as : AS} {R : List Addr} {H : Hp} {cs : List M} {p : Addr} {xs : List V} {dd : List D} (c : Cells K cad as R H cs) (hp : H p = none) (i : IsDs K cad H (Av as R) dd xs) :
    Cells K cad (as ++ [some p]) R (upd H p (.lst xs)) (cs ++ [.lst dd]) ∧ Ext H as (upd H p (.lst xs)) (as ++ [some p]) ∧ IsW K cad (as ++ [some p]) R (upd H p (.lst xs)) (.c cs.length) (.ref p) :=
  c.push hp ⟨xs, upd_same, i.mono (Kp.upd_new hp)⟩
theorem r_mlst (h : SA G Φ cad X ds es) : SE G Φ cad X (.mlst ds) (.List es pos) := fun W tk =>
  (pe_lst (h W tk)).imp fun σ H Q h => by
    refine lift_mono (lift_bind0 (IsA := rWs X.K cad) (IsB := rW X.K cad) (g := evEs G Φ ds) (f := fun _ ws cs => match dats ws with
      | some ds => if ds.length ≤ LIM then .ok (PD.W.c cs.length) (cs ++ [.lst ds]) else .stuck
      | none => .stuck) h) fun xs H1 ⟨sl, cs, as, R, ws, rel, iw, p⟩ => ?_
    cases e : dats ws with
    | none => simp only [e] at p; exact p.elim
    | some dd =>
      simp only [e] at p
      have idd := iw.dats e
      by_cases hl : dd.length ≤ LIM
      · rw [if_pos hl] at p
        refine ⟨by rw [← lim_eq, ← idd.length]; exact hl, fun q hq => ?_⟩
        obtain ⟨c2, x2, i2⟩ := rel.cells.newLst hq idd
        exact p _ _ _ x2 c2 i2
      · rw [if_neg hl] at p; exact p.elim
end
end PD
set_option Elab.async false
set_option linter.all false
set_option maxRecDepth 100000
set_option maxHeartbeats 4000000
/-! PyD6: tests, and / or / not, conditionals, chains, constants of the module, built-in calls and methods, frozen values. -/
namespace PD
open PySem PySem.Spec PyProof.Rows L2
section
variable (G : Pg) (Φ : Nat → List PD.W → List M → Rs PD.W) (cad : Nat → Addr)
def SW (X : Cx) (d : E) (e : Expr) : Prop := ∀ W, Takes X W → PW X e (liftT X.K cad W (evT G Φ d))
end
section
variable {G : Pg} {Φ : Nat → List PD.W → List M → Rs PD.W} {cad : Nat → Addr} {X : Cx} {K : PySem.W.Frag}
variable {e a b c t : Expr} {da db dc dt : E} {es rest : List Expr} {ds : List E} {pos : Pos}
/-- a value's truth, out of what was reckoned -/
theorem lift_truth {W : WX} {d : E} {σ : L2.St} {H : Hp} {Q : Bool → Hp → Prop} (h : liftT K cad W (evT G Φ d) σ H Q) : liftE K cad W (evE G Φ d) σ H fun x H' => ∃ k, TruV K x H' k ∧ Q k H' :=
  lift_mono (lift_bind0 (IsA := rW K cad) (IsB := rB) (g := evE G Φ d) (f := fun _ w cs => Rs.ofO ((pk w cs).bind truth) cs) h) fun x H1 ⟨sl, cs, as, R, w, rel, iw, p⟩ => by
    cases e : pk w cs with
    | none => rw [e] at p; exact p.elim
    | some d =>
      rw [e] at p
      have p : Post K cad rB W σ as R H1 Q (Rs.ofO (truth d) cs) := p
      cases e2 : truth d with
      | none => rw [e2] at p; exact p.elim
      | some k =>
        rw [e2] at p
        exact ⟨k, truth_rel (iw.pkD rel.cells e) e2, p k H1 as Ext.refl rel.cells rfl⟩
theorem st_plain (ha : SE G Φ cad X da a) (he : ∀ whole, isTrue a X.env whole = (do let v ← whole; standAt a.pos; holding [v] (truthy v))) : ST G Φ cad X da a := fun W tk =>
  (pt_truth (ha W tk) he).imp fun σ H Q h => lift_truth h
/-- whatever yields a bool -/
theorem lift_tb {W : WX} {d : E} (hb : ∀ sl cs w cs', evE G Φ d sl cs = .ok w cs' → ∃ b, w = .d (.bl b)) {σ : L2.St} {H : Hp} {Q : Bool → Hp → Prop} (h : liftT K cad W (evT G Φ d) σ H Q) :
    liftE K cad W (evE G Φ d) σ H fun z H' => ∃ k, z = .bl k ∧ Q k H' := by
  obtain ⟨sl, cs, as, R, rel, p⟩ := h
  refine ⟨sl, cs, as, R, rel, ?_⟩
  have p : Post K cad rB W σ as R H Q ((evE G Φ d sl cs).bind fun w cs => Rs.ofO ((pk w cs).bind truth) cs) := p
  cases e : evE G Φ d sl cs with
  | ok w cs1 =>
    rw [e] at p
    obtain ⟨b, rfl⟩ := hb _ _ _ _ e
    exact fun v H1 as1 x c i => ⟨b, i, p b H1 as1 x c rfl⟩
  | ex C ks vs cs1 =>
    rw [e] at p
    exact p
  | stuck => rw [e] at p; exact p
def cmpBl : O → Bool
  | .eq => true | .ne => true | .lt => true | .le => true | .gt => true | .ge => true | .in_ => true | .notin => true | .isN => true | .notN => true | .isB _ => true | .ntB _ => true
  | _ => false
theorem bl1 {sub : Nat → Nat → Option Bool} {o : O} (ho : cmpBl o = true) {a d : D} (h : sem1 sub o a = some d) : ∃ b, d = .bl b := by
  cases o <;> first | (cases ho; done) | (cases h; done) | (cases h; exact ⟨_, rfl⟩) | (cases a <;> first | (cases h; done) | (cases h; exact ⟨_, rfl⟩))
theorem bl2 {o : O} (ho : cmpBl o = true) {a b d : D} (h : sem2 o a b = some d) : ∃ b, d = .bl b := by
  have ite : ∀ {c : Bool} {x : Bool}, (if c = true then some (D.bl x) else none) = some d → ∃ b, d = .bl b := fun {c x} h => by
    cases c with
    | true => cases h; exact ⟨_, rfl⟩
    | false => cases h
  have omap : ∀ {o : Option Bool} {f : Bool → Bool}, (o.map fun c => D.bl (f c)) = some d → ∃ b, d = .bl b := fun {o f} h => by
    cases o with
    | none => cases h
    | some c => cases h; exact ⟨_, rfl⟩
  have ar : ∀ {o : O}, o = .le ∨ o = .gt ∨ o = .ge → arD o a b = some d → ∃ b, d = .bl b := fun {o} ho h => by
    cases a <;> cases b <;> first | (cases h; done) | (rcases ho with rfl | rfl | rfl <;> (cases h; exact ⟨_, rfl⟩))
  cases o with
  | eq => exact ite h
  | ne => exact ite h
  | lt =>
    have h : ltD a b = some d := h
    cases a <;> cases b <;> first | (cases h; done) | (cases h; exact ⟨_, rfl⟩)
  | le => exact ar (.inl rfl) h
  | gt => exact ar (.inr (.inl rfl)) h
  | ge => exact ar (.inr (.inr rfl)) h
  | in_ => exact omap (f := id) h
  | notin => exact omap (f := not) h
  | isN => cases h
  | notN => cases h
  | isB _ => cases h
  | ntB _ => cases h
  | _ => cases ho
theorem blS {sub : Nat → Nat → Option Bool} {o : O} (ho : cmpBl o = true) {ds : List D} {d : D} (h : sem sub o ds = some d) : ∃ b, d = .bl b := by
  match ds, h with
  | [], h => cases h
  | [a], h => exact bl1 ho h
  | [a, b], h => exact bl2 ho h
  | [a, b, c], h => cases o <;> first | (cases ho; done) | (cases h; done)
  | _ :: _ :: _ :: _ :: _, h => cases h
theorem opK_bl {o : O} (ho : cmpBl o = true) {ws : List PD.W} {cs cs' : List M} {w : PD.W} (h : opK G o ws cs = .ok w cs') : ∃ b, w = .d (.bl b) := by
  unfold opK at h
  cases e : pks ws cs with
  | none => rw [e] at h; cases h
  | some dd =>
    rw [e] at h
    have h : (match sem G.isT o dd with | some d => Rs.ok (PD.W.d d) cs | none => .stuck) = .ok w cs' := h
    cases e2 : sem G.isT o dd with
    | none => rw [e2] at h; cases h
    | some d =>
      rw [e2] at h
      obtain ⟨b, rfl⟩ := blS ho e2
      cases h
      exact ⟨b, rfl⟩
theorem op_bl {o : O} (ho : cmpBl o = true) : ∀ sl cs w cs', evE G Φ (.op o ds) sl cs = .ok w cs' → ∃ b, w = .d (.bl b) := fun sl cs w cs' h => by
  have h : (evEs G Φ ds sl cs).bind (fun ws cs => opK G o ws cs) = .ok w cs' := h
  cases e : evEs G Φ ds sl cs with
  | ok ws cs1 => rw [e] at h; exact opK_bl ho h
  | ex _ _ _ _ => rw [e] at h; cases h
  | stuck => rw [e] at h; cases h
theorem t_cmp {op : CmpOp} {o : O} (hbl : cmpBl o = true) (ho : OpR X (compareOp op) (r2O X.K cad G.isT o)) (ha : SE G Φ cad X da a) (hb : SE G Φ cad X db b) (hm : behindInMarks op b = false) : ST G Φ cad X (.op o [da, db]) (.Compare a [op] [b] pos) := fun W tk =>
  (pt_cmpR ho (ha W tk) (hb W tk) hm).imp fun σ H Q h => lift_op2 (lift_tb (op_bl hbl) h)
theorem t_isN {op : CmpOp} {o : O} (hbl : cmpBl o = true) (ho : OpR X (compareOp op) (fun x y H Q => y = .non ∧ r1O X.K cad G.isT o x H Q)) (ha : SE G Φ cad X da a) {j : Nat} {p2 : Pos} (hm : behindInMarks op (.Constant .none j p2) = false) : ST G Φ cad X (.op o [da]) (.Compare a [op] [.Constant .none j p2] pos) := fun W tk =>
  (pt_cmpR ho (ha W tk) pe_non hm).imp fun σ H Q h => lift_mono (lift_op1 (lift_tb (op_bl hbl) h)) fun x H1 q => ⟨rfl, q⟩
theorem t_isB {b : Bool} {op : CmpOp} {o : O} (hbl : cmpBl o = true) (ho : OpR X (compareOp op) (fun x y H Q => y = .bl b ∧ r1O X.K cad G.isT o x H Q)) (ha : SE G Φ cad X da a) {j : Nat} {p2 : Pos} (hm : behindInMarks op (.Constant (.bool b) j p2) = false) : ST G Φ cad X (.op o [da]) (.Compare a [op] [.Constant (.bool b) j p2] pos) := fun W tk =>
  (pt_cmpR ho (ha W tk) pe_bl hm).imp fun σ H Q h => lift_mono (lift_op1 (lift_tb (op_bl hbl) h)) fun x H1 q => ⟨rfl, q⟩
/-! ### not -/
theorem evN (a : E) (sl : Sl) (cs : List M) : evE G Φ (.not_ a) sl cs = (evT G Φ a sl cs).bind fun k cs => .ok (.d (.bl (!k))) cs := by
  show (evE G Φ a sl cs).bind _ = ((evE G Φ a sl cs).bind _).bind _
  cases evE G Φ a sl cs with
  | ok w cs1 =>
    show (match (pk w cs1).bind truth with | some b => Rs.ok (PD.W.d (.bl (!b))) cs1 | none => .stuck) = (Rs.ofO ((pk w cs1).bind truth) cs1).bind _
    cases (pk w cs1).bind truth <;> rfl
  | _ => rfl
theorem evTN (a : E) (sl : Sl) (cs : List M) : evT G Φ (.not_ a) sl cs = (evT G Φ a sl cs).bind fun k cs => .ok (!k) cs := by
  show (evE G Φ (.not_ a) sl cs).bind _ = _
  rw [evN]
  cases evT G Φ a sl cs <;> rfl
theorem lift_evG {α β : Type} {IsA : AS → List Addr → Hp → α → β → Prop} {W : WX} {g g' : Sl → List M → Rs α} (e : ∀ sl cs, g sl cs = g' sl cs) {σ : L2.St} {H : Hp} {Q : β → Hp → Prop} (h : liftR K cad IsA W g σ H Q) : liftR K cad IsA W g' σ H Q := by
  obtain ⟨sl, cs, as, R, rel, p⟩ := h
  exact ⟨sl, cs, as, R, rel, by rw [← e]; exact p⟩
theorem r_not (ha : SE G Φ cad X da a) : SE G Φ cad X (.not_ da) (.UnaryOp .Not a pos) := fun W tk =>
  (pe_notT (ha W tk)).imp fun σ H Q h => by
    have h2 := lift_bind0 (IsA := rB) (IsB := rW X.K cad) (g := evT G Φ da) (f := fun _ k cs => .ok (.d (.bl (!k))) cs) (lift_evG (evN da) h)
    refine lift_mono (lift_truth h2) fun x H1 ⟨k, ht, sl, cs, as, R, k', rel, e, p⟩ => ⟨k, ht, ?_⟩
    cases (show k' = k from e)
    exact Post.data rel.cells p (Same.refl H1) rfl
theorem t_not (ha : ST G Φ cad X da a) : ST G Φ cad X (.not_ da) (.UnaryOp .Not a pos) := fun W tk =>
  (pt_not (ha W tk)).imp fun σ H Q h => by
    refine lift_mono (lift_bind0 (IsA := rB) (IsB := rB) (g := evT G Φ da) (f := fun _ k cs => .ok (!k) cs) (lift_evG (evTN da) h)) fun k H1 ⟨sl, cs, as, R, k', rel, e, p⟩ => ?_
    cases (show k' = k from e)
    exact p _ H1 as Ext.refl rel.cells rfl
/-! ### and, or -/
theorem evTA (a b : E) (sl : Sl) (cs : List M) : evT G Φ (.and_ a b) sl cs = (evT G Φ a sl cs).bind fun k cs => if k = true then evT G Φ b sl cs else .ok false cs := by
  show ((evE G Φ a sl cs).bind _).bind _ = ((evE G Φ a sl cs).bind _).bind _
  cases evE G Φ a sl cs with
  | ok w cs1 =>
    show (match (pk w cs1).bind truth with | some true => evE G Φ b sl cs1 | some false => .ok w cs1 | none => .stuck).bind _ = (Rs.ofO ((pk w cs1).bind truth) cs1).bind _
    cases e : (pk w cs1).bind truth with
    | none => rfl
    | some k =>
      cases k with
      | true => rfl
      | false =>
        show Rs.ofO ((pk w cs1).bind truth) cs1 = _
        rw [e]
        rfl
  | _ => rfl
theorem evTO (a b : E) (sl : Sl) (cs : List M) : evT G Φ (.or_ a b) sl cs = (evT G Φ a sl cs).bind fun k cs => if k = true then .ok true cs else evT G Φ b sl cs := by
  show ((evE G Φ a sl cs).bind _).bind _ = ((evE G Φ a sl cs).bind _).bind _
  cases evE G Φ a sl cs with
  | ok w cs1 =>
    show (match (pk w cs1).bind truth with | some true => Rs.ok w cs1 | some false => evE G Φ b sl cs1 | none => .stuck).bind _ = (Rs.ofO ((pk w cs1).bind truth) cs1).bind _
    cases e : (pk w cs1).bind truth with
    | none => rfl
    | some k =>
      cases k with
      | false => rfl
      | true =>
        show Rs.ofO ((pk w cs1).bind truth) cs1 = _
        rw [e]
        rfl
  | _ => rfl
theorem w_one {op : BoolOp} (ha : ST G Φ cad X da a) : SW G Φ cad X da (.BoolOp op [a] pos) := fun W tk => by
  cases op with
  | And => exact pw_and1 (ha W tk)
  | Or => exact pw_or1 (ha W tk)
theorem w_and (ha : ST G Φ cad X da a) (hb : SW G Φ cad X db (.BoolOp .And (b :: rest) pos)) : SW G Φ cad X (.and_ da db) (.BoolOp .And (a :: b :: rest) pos) := fun W tk =>
  (pw_and (ha W tk) (hb W tk)).imp fun σ H Q h => by
    refine lift_mono (lift_bind0 (IsA := rB) (IsB := rB) (g := evT G Φ da) (f := fun sl k cs => if k = true then evT G Φ db sl cs else .ok false cs) (lift_evG (evTA da db) h)) fun k H1 ⟨sl, cs, as, R, k', rel, e, p⟩ => ?_
    cases (show k' = k from e)
    cases k with
    | true => exact ⟨sl, cs, as, R, rel, p⟩
    | false => exact p false H1 as Ext.refl rel.cells rfl
theorem w_or (ha : ST G Φ cad X da a) (hb : SW G Φ cad X db (.BoolOp .Or (b :: rest) pos)) : SW G Φ cad X (.or_ da db) (.BoolOp .Or (a :: b :: rest) pos) := fun W tk =>
  (pw_or (ha W tk) (hb W tk)).imp fun σ H Q h => by
    refine lift_mono (lift_bind0 (IsA := rB) (IsB := rB) (g := evT G Φ da) (f := fun sl k cs => if k = true then .ok true cs else evT G Φ db sl cs) (lift_evG (evTO da db) h)) fun k H1 ⟨sl, cs, as, R, k', rel, e, p⟩ => ?_
    cases (show k' = k from e)
    cases k with
    | false => exact ⟨sl, cs, as, R, rel, p⟩
    | true => exact p true H1 as Ext.refl rel.cells rfl
theorem SW.pt (h : SW G Φ cad X da a) : ST G Φ cad X da a := fun W tk => (h W tk).pt
theorem r_one {op : BoolOp} (ha : SE G Φ cad X da a) : SE G Φ cad X da (.BoolOp op [a] pos) := fun W tk => pe_one (ha W tk)
theorem r_and (ha : SE G Φ cad X da a) (hb : SE G Φ cad X db (.BoolOp .And (b :: rest) pos)) : SE G Φ cad X (.and_ da db) (.BoolOp .And (a :: b :: rest) pos) := fun W tk =>
  (pe_andT (ha W tk) (hb W tk)).imp fun σ H Q h => by
    refine lift_mono (lift_bind0 (IsA := rW X.K cad) (IsB := rW X.K cad) (g := evE G Φ da) (f := fun sl w cs => match (pk w cs).bind truth with
      | some true => evE G Φ db sl cs
      | some false => .ok w cs
      | none => .stuck) h) fun x H1 ⟨sl, cs, as, R, w, rel, iw, p⟩ => ?_
    cases e : pk w cs with
    | none => simp only [e] at p; exact p.elim
    | some d =>
      cases e2 : truth d with
      | none => simp only [e, Option.bind_some, e2] at p; exact p.elim
      | some k =>
        simp only [e, Option.bind_some, e2] at p
        refine ⟨k, truth_rel (iw.pkD rel.cells e) e2, ?_⟩
        cases k with
        | true => exact ⟨sl, cs, as, R, rel, p⟩
        | false => exact p x H1 as Ext.refl rel.cells iw
theorem r_or (ha : SE G Φ cad X da a) (hb : SE G Φ cad X db (.BoolOp .Or (b :: rest) pos)) : SE G Φ cad X (.or_ da db) (.BoolOp .Or (a :: b :: rest) pos) := fun W tk =>
  (pe_orT (ha W tk) (hb W tk)).imp fun σ H Q h => by
    refine lift_mono (lift_bind0 (IsA := rW X.K cad) (IsB := rW X.K cad) (g := evE G Φ da) (f := fun sl w cs => match (pk w cs).bind truth with
      | some true => .ok w cs
      | some false => evE G Φ db sl cs
      | none => .stuck) h) fun x H1 ⟨sl, cs, as, R, w, rel, iw, p⟩ => ?_
    cases e : pk w cs with
    | none => simp only [e] at p; exact p.elim
    | some d =>
      cases e2 : truth d with
      | none => simp only [e, Option.bind_some, e2] at p; exact p.elim
      | some k =>
        simp only [e, Option.bind_some, e2] at p
        refine ⟨k, truth_rel (iw.pkD rel.cells e) e2, ?_⟩
        cases k with
        | false => exact ⟨sl, cs, as, R, rel, p⟩
        | true => exact p x H1 as Ext.refl rel.cells iw
/-! ### a if t else b -/
theorem evIf (t a b : E) (sl : Sl) (cs : List M) : evE G Φ (.ife t a b) sl cs = (evT G Φ t sl cs).bind fun k cs => if k = true then evE G Φ a sl cs else evE G Φ b sl cs := by
  show (evE G Φ t sl cs).bind _ = ((evE G Φ t sl cs).bind _).bind _
  cases evE G Φ t sl cs with
  | ok w cs1 =>
    show (match (pk w cs1).bind truth with | some true => evE G Φ a sl cs1 | some false => evE G Φ b sl cs1 | none => .stuck) = (Rs.ofO ((pk w cs1).bind truth) cs1).bind _
    cases e : (pk w cs1).bind truth with
    | none => rfl
    | some k => cases k <;> rfl
  | _ => rfl
theorem r_ife (ht : ST G Φ cad X dt t) (ha : SE G Φ cad X da a) (hb : SE G Φ cad X db b) : SE G Φ cad X (.ife dt da db) (.IfExp t a b pos) := fun W tk =>
  (pe_ifExp (ht W tk) (ha W tk) (hb W tk)).imp fun σ H Q h => by
    refine lift_mono (lift_bind0 (IsA := rB) (IsB := rW X.K cad) (g := evT G Φ dt) (f := fun sl k cs => if k = true then evE G Φ da sl cs else evE G Φ db sl cs) (lift_evG (evIf dt da db) h)) fun k H1 ⟨sl, cs, as, R, k', rel, e, p⟩ => ?_
    cases (show k' = k from e)
    cases k with
    | false => exact ⟨sl, cs, as, R, rel, p⟩
    | true => exact ⟨sl, cs, as, R, rel, p⟩
/-! ### frozen -/
theorem r_frz (ha : SE G Φ cad X da a) : SE G Φ cad X (.frz da) a := fun W tk =>
  (ha W tk).imp fun σ H Q h => by
    refine lift_mono (lift_bind0 (IsA := rW X.K cad) (IsB := rW X.K cad) (g := evE G Φ da) (f := fun sl w cs => match w with
      | .d x => .ok (.d x) cs
      | .c i => match pk (.c i) cs with
        | some d => .ok (.d d) (cs.set i .dead)
        | none => .stuck) h) fun x H1 ⟨sl, cs, as, R, w, rel, iw, p⟩ => ?_
    cases w with
    | d y => exact p x H1 as Ext.refl rel.cells iw
    | c i =>
      cases e : pk (.c i) cs with
      | none => simp only [e] at p; exact p.elim
      | some d =>
        simp only [e] at p
        obtain ⟨c2, x2, i2⟩ := rel.cells.freeze iw e
        exact p x H1 _ x2 c2 i2
/-! ### constants of the module -/
theorem r_glob {x : Str} {i : Nat} {u : Value} {v : V} {d : D} (hg : Gl X x) (hm : X.mg x = some u) (r : RelV v u) (hd : G.csts[i]? = some d) (hv : ∀ H F, IsD X.K cad H F d v) (hdb : (x == ("__debug__" : Str)) = false) : SE G Φ cad X (.g i) (.Name x pos) := fun W tk =>
  (pe_glob hg hm r hdb).imp fun σ H Q ⟨sl, cs, as, R, rel, p⟩ => by
    have p : Post X.K cad (rW X.K cad) W σ as R H Q (Rs.ofO (G.csts[i]?.map .d) cs) := p
    rw [hd] at p
    exact Post.data rel.cells p (Same.refl H) (hv H _)
theorem r_globN {x : Str} {i : Nat} (hg : G.csts[i]? = none) : SE G Φ cad X (.g i) (.Name x pos) := fun W tk => ⟨fun pins s σ H Q I ⟨sl, cs, as, R, rel, p⟩ => by
  have p : Post X.K cad (rW X.K cad) W σ as R H Q (Rs.ofO (G.csts[i]?.map .d) cs) := p
  rw [hg] at p
  exact p.elim⟩
/-! ### built-in functions and methods -/
theorem lift_opA {W : WX} {o : O} {σ : L2.St} {H : Hp} {Q : VK} (h : liftE K cad W (evE G Φ (.op o ds)) σ H Q) : liftA K cad W (evEs G Φ ds) σ H fun xs H1 => rO K cad G.isT o xs H1 Q :=
  lift_mono (lift_bind0 (IsA := rWs K cad) (IsB := rW K cad) (g := evEs G Φ ds) (f := fun _ ws cs => opK G o ws cs) h) fun xs H1 ⟨sl, cs, as, R, ws, rel, iw, p⟩ => p.op rel.cells iw
theorem noStars : ∀ (es : List Expr), es.all notStar = true → ∀ pos, (backTo pos (starEach es X.env)).any (·.1) = false
  | [], _, _ => rfl
  | e :: es, h, pos => by
    rw [List.all_cons, Bool.and_eq_true] at h
    have ih := noStars es h.2 pos
    rw [star_of h.1]
    unfold backTo at ih ⊢
    rw [List.map_cons, List.any_cons, ih]
    rfl
theorem r_blt {x : Str} {p : Pos} {o : O} {id : String} (hc : CallR X (.builtin id) (rO X.K cad G.isT o)) (hg : Gl X x) (hm : X.mg x = none) (hv : bootBuiltins x = some (.builtin id)) (ha : SA G Φ cad X ds (e :: es)) (hs : (e :: es).all notStar = true)
    (hn : x ≠ "__name__") (hdb : (x == ("__debug__" : Str)) = false) : SE G Φ cad X (.op o ds) (.Call (.Name x p) (e :: es) [] pos) := fun W tk => by
  have h2 : es.all notStar = true := (Bool.and_eq_true_iff.mp (by rw [← List.all_cons]; exact hs)).2
  exact (pe_callB hc hg hm hv (ha W tk) hn hdb (star_of (by rw [List.all_cons, Bool.and_eq_true] at hs; exact hs.1)) (noStars es h2 pos)).imp fun σ H Q h => lift_opA h
theorem r_bltT {x : Str} {p : Pos} {o : O} {T : String} (hc : CallR X (.type T) (rO X.K cad G.isT o)) (hg : Gl X x) (hm : X.mg x = none) (hv : bootBuiltins x = some (.type T)) (ha : SA G Φ cad X ds (e :: es)) (hs : (e :: es).all notStar = true)
    (hn : x ≠ "__name__") (hdb : (x == ("__debug__" : Str)) = false) : SE G Φ cad X (.op o ds) (.Call (.Name x p) (e :: es) [] pos) := fun W tk => by
  have h2 : es.all notStar = true := (Bool.and_eq_true_iff.mp (by rw [← List.all_cons]; exact hs)).2
  exact (pe_callTy hc hg hm hv (ha W tk) hn hdb (star_of (by rw [List.all_cons, Bool.and_eq_true] at hs; exact hs.1)) (noStars es h2 pos)).imp fun σ H Q h => lift_opA h
theorem noStarsA : ∀ (es : List Expr), es.all notStar = true → ∀ pos, (backTo pos (starEach es X.env)).all (fun x => !x.1) = true
  | [], _, _ => rfl
  | e :: es, h, pos => by
    rw [List.all_cons, Bool.and_eq_true] at h
    have ih := noStarsA es h.2 pos
    rw [star_of h.1]
    unfold backTo at ih ⊢
    rw [List.map_cons, List.all_cons, ih]
    rfl
/-- a built-in type's method with arguments -/
theorem r_bmN {o : O} {T id : String} {name : Str} {apos : Pos} {b : Expr} {bs : List Expr} {db : E} {dbs : List E} (hr : ∀ d, recvOk o d = true → ∃ d', d = some d' ∧ ∀ H F x, PkD X.K cad H F d' x → tyV X.K T x H) (pa : PlainAttrs T) (slot : Slot T name id) (ty : typeOf (.builtin id) = pure (.type "method_descriptor")) (rule : MtR X id (fun x xs H Q => rO X.K cad G.isT o (x :: xs) H Q))
    (ha : SE G Φ cad X da a) (hb : SA G Φ cad X (db :: dbs) (b :: bs)) (hs : (b :: bs).all notStar = true) (hl : (b :: bs).length < 20) (hbase : attributeBase a name X.env (eval a X.env) = eval a X.env) (hline : (apos.endLine == pos.line) = true) :
    SE G Φ cad X (.bm o da (db :: dbs)) (.Call (.Attribute a name apos) (b :: bs) [] pos) := fun W tk => by
  have h2 : bs.all notStar = true := (Bool.and_eq_true_iff.mp (by rw [← List.all_cons]; exact hs)).2
  have h1 : notStar b = true := (Bool.and_eq_true_iff.mp (by rw [← List.all_cons]; exact hs)).1
  have few : ((backTo pos (starEach (b :: bs) X.env)).all (fun x => !x.1) && (backToKw pos (keywordEach [] X.env)).all (fun x => x.1.isSome)
      && decide ((b :: bs).length + ([] : List Keyword).length + (if ([] : List Keyword).isEmpty then 0 else 1) < 30)) = true := by
    rw [noStarsA _ hs pos]
    have e2 : (backToKw pos (keywordEach [] X.env)) = [] := rfl
    rw [e2]
    have : (b :: bs).length + ([] : List Keyword).length + (if ([] : List Keyword).isEmpty then 0 else 1) < 30 := by
      show (b :: bs).length + 0 + 0 < 30
      omega
    simp only [List.all_nil, Bool.and_self, Bool.true_and]
    exact decide_eq_true this
  refine (pe_bm pa slot ty rule (ha W tk) (hb W tk) hbase few hline (star_of h1) (noStars bs h2 pos)).imp fun σ H Q h => ?_
  refine lift_mono (lift_bind0 (IsA := rW X.K cad) (IsB := rW X.K cad) (g := evE G Φ da) (f := fun sl w cs => if recvOk o (pk w cs) = true then (evEs G Φ (db :: dbs) sl cs).bind fun ws cs => opK G o (w :: ws) cs else .stuck) h) fun x H1 ⟨sl, cs, as, R, w, rel, iw, p⟩ => ?_
  by_cases hk : recvOk o (pk w cs) = true
  · rw [if_pos hk] at p
    obtain ⟨y, hy, ht⟩ := hr _ hk
    refine ⟨ht _ _ _ (iw.pkD rel.cells hy), ?_⟩
    refine lift_mono (lift_bind (IsA := rWs X.K cad) (IsB := rW X.K cad) (hs := [w]) (vs := [x]) (g := evEs G Φ (db :: dbs)) (f := fun _ ws cs => opK G o (w :: ws) cs) ⟨sl, cs, as, R, rel, ⟨x, [], rfl, iw, rfl⟩, p⟩) fun z H2 ⟨sl, cs, as, R, wb, rel, ih, iw, p⟩ => ?_
    obtain ⟨x', r, e, ix, _⟩ := ih
    cases e
    exact p.op (ws := w :: wb) (vs := x :: z) rel.cells ⟨x, z, rfl, ix, iw⟩
  · rw [if_neg hk] at p
    exact p.elim
/-- a str's method with one argument -/
theorem r_bm1 {o : O} {id : String} {name : Str} {apos : Pos} (hr : ∀ d, recvOk o d = true → ∃ y, d = some (.str y)) (slot : Slot "str" name id) (ty : typeOf (.builtin id) = pure (.type "method_descriptor")) (rule : MtR X id (fun x xs H Q => rO X.K cad G.isT o (x :: xs) H Q))
    (ha : SE G Φ cad X da a) (hb : SE G Φ cad X db b) (hs : notStar b = true) (hbase : attributeBase a name X.env (eval a X.env) = eval a X.env) (hline : (apos.endLine == pos.line) = true) :
    SE G Φ cad X (.bm o da [db]) (.Call (.Attribute a name apos) [b] [] pos) := fun W tk =>
  (pe_m1 slot ty rule (ha W tk) (hb W tk) (star_of hs) hbase hline).imp fun σ H Q h => by
    refine lift_mono (lift_bind0 (IsA := rW X.K cad) (IsB := rW X.K cad) (g := evE G Φ da) (f := fun sl w cs => if recvOk o (pk w cs) = true then ((evE G Φ db sl cs).bind fun y cs => (Rs.ok [] cs).bind fun ws cs => Rs.ok (y :: ws) cs).bind fun ws cs => opK G o (w :: ws) cs else .stuck) h) fun x H1 ⟨sl, cs, as, R, w, rel, iw, p⟩ => ?_
    by_cases hk : recvOk o (pk w cs) = true
    · rw [if_pos hk] at p
      obtain ⟨y, hy⟩ := hr _ hk
      refine ⟨⟨y, iw.pkD rel.cells hy⟩, ?_⟩
      have p : Post X.K cad (rW X.K cad) W σ as R H1 Q ((evE G Φ db sl cs).bind fun y cs => opK G o [w, y] cs) := by
        cases e : evE G Φ db sl cs with
        | ok z cs1 => rw [e] at p; exact p
        | ex _ _ _ _ => rw [e] at p; exact p
        | stuck => rw [e] at p; exact p
      refine lift_mono (lift_bind (IsA := rW X.K cad) (IsB := rW X.K cad) (hs := [w]) (vs := [x]) (g := evE G Φ db) (f := fun _ y cs => opK G o [w, y] cs) ⟨sl, cs, as, R, rel, ⟨x, [], rfl, iw, rfl⟩, p⟩) fun z H2 ⟨sl, cs, as, R, wb, rel, ih, iw, p⟩ => ?_
      obtain ⟨x', r, e, ix, _⟩ := ih
      cases e
      exact p.op (ws := [w, wb]) (vs := [x, z]) rel.cells ⟨x, [z], rfl, ix, z, [], rfl, iw, rfl⟩
    · rw [if_neg hk] at p
      exact p.elim
/-! ### a < b < c -/
def chK (G : Pg) (Φ : Nat → List PD.W → List M → Rs PD.W) (o o' : O) (dc : E) (sl : Sl) (x y : PD.W) (cs : List M) : Rs PD.W := match pks [x, y] cs with
  | some ds => match sem G.isT o ds with
    | some (.bl true) => (evE G Φ dc sl cs).bind fun z cs => opK G o' [y, z] cs
    | some (.bl false) => .ok (.d (.bl false)) cs
    | _ => .stuck
  | none => .stuck
theorem lift_chain {W : WX} {o o' : O} {σ : L2.St} {H : Hp} {Q : VK} (h : liftE K cad W (evE G Φ (.chain o o' da db dc)) σ H Q) :
    tChain (r2O K cad G.isT o) (r2O K cad G.isT o') (liftE K cad W (evE G Φ da)) (liftE K cad W (evE G Φ db)) (liftE K cad W (evE G Φ dc)) σ H Q := by
  refine lift_mono (lift_bind0 (IsA := rW K cad) (IsB := rW K cad) (g := evE G Φ da) (f := fun sl x cs => (evE G Φ db sl cs).bind fun y cs => chK G Φ o o' dc sl x y cs) h) fun x H1 ⟨sl, cs, as, R, wa, rel, iw, p⟩ => ?_
  refine lift_mono (lift_bind (IsA := rW K cad) (IsB := rW K cad) (hs := [wa]) (vs := [x]) (g := evE G Φ db) (f := fun sl y cs => chK G Φ o o' dc sl wa y cs) ⟨sl, cs, as, R, rel, ⟨x, [], rfl, iw, rfl⟩, p⟩) fun y H2 ⟨sl, cs, as, R, wb, rel, ih, iy, p⟩ => ?_
  obtain ⟨x', r, e, ix, _⟩ := ih
  cases e
  have iws : IsWs K cad as R H2 [wa, wb] [x, y] := ⟨x, [y], rfl, ix, y, [], rfl, iy, rfl⟩
  unfold chK at p
  cases e : pks [wa, wb] cs with
  | none => rw [e] at p; exact p.elim
  | some dd =>
    rw [e] at p
    cases e2 : sem G.isT o dd with
    | none => simp only [e2] at p; exact p.elim
    | some d =>
      refine ⟨Av as R, dd, d, rel.cells.hF, iws.pkDs rel.cells e, e2, fun v H3 s3 i3 => ?_⟩
      have rel3 := rel.mono (Ext.same s3) (rel.cells.same s3)
      have p := Post.mono (Ext.same s3) p
      have iy3 : IsW K cad as R H3 wb y := iy.mono (Ext.same s3)
      cases d with
      | bl k =>
        refine ⟨k, i3, ?_⟩
        cases k with
        | true =>
          simp only [e2] at p
          rw [if_pos rfl]
          refine lift_mono (lift_bind (IsA := rW K cad) (IsB := rW K cad) (hs := [wb]) (vs := [y]) (g := evE G Φ dc) (f := fun _ z cs => opK G o' [wb, z] cs) ⟨sl, cs, as, R, rel3, ⟨y, [], rfl, iy3, rfl⟩, p⟩) fun z H4 ⟨sl, cs, as, R, wc, rel, ih, iz, p⟩ => ?_
          obtain ⟨y', r, e, iy, _⟩ := ih
          cases e
          exact p.op (ws := [wb, wc]) (vs := [y, z]) rel.cells ⟨y, [z], rfl, iy, z, [], rfl, iz, rfl⟩
        | false =>
          simp only [e2] at p
          rw [if_neg (by decide)]
          exact Post.data rel3.cells p (Same.refl _) rfl
      | _ => simp only [e2] at p; exact p.elim
theorem r_chain {op op' : CmpOp} {o o' : O} (ho : OpR X (compareOp op) (r2O X.K cad G.isT o)) (ho' : OpR X (compareOp op') (r2O X.K cad G.isT o')) (ha : SE G Φ cad X da a) (hb : SE G Φ cad X db b) (hc : SE G Φ cad X dc c) (hm : lastMarks [op, op'] [b, c] = false) :
    SE G Φ cad X (.chain o o' da db dc) (.Compare a [op, op'] [b, c] pos) := fun W tk =>
  (pe_chain ho ho' (ha W tk) (hb W tk) (hc W tk) hm).imp fun σ H Q h => lift_chain h
theorem chain_bl {o o' : O} (hbl : cmpBl o' = true) : ∀ sl cs w cs', evE G Φ (.chain o o' da db dc) sl cs = .ok w cs' → ∃ b, w = .d (.bl b) := fun sl cs w cs' h => by
  have h : ((evE G Φ da sl cs).bind fun x cs => (evE G Φ db sl cs).bind fun y cs => chK G Φ o o' dc sl x y cs) = .ok w cs' := h
  cases e1 : evE G Φ da sl cs with
  | ok x cs1 =>
    rw [e1] at h
    have h : ((evE G Φ db sl cs1).bind fun y cs => chK G Φ o o' dc sl x y cs) = .ok w cs' := h
    cases e2 : evE G Φ db sl cs1 with
    | ok y cs2 =>
      rw [e2] at h
      have h : chK G Φ o o' dc sl x y cs2 = .ok w cs' := h
      unfold chK at h
      cases e : pks [x, y] cs2 with
      | none => simp only [e] at h; cases h
      | some dd =>
        cases e3 : sem G.isT o dd with
        | none => simp only [e, e3] at h; cases h
        | some d =>
          cases d with
          | bl k =>
            cases k with
            | true =>
              simp only [e, e3] at h
              cases e4 : evE G Φ dc sl cs2 with
              | ok z cs3 => rw [e4] at h; exact opK_bl hbl h
              | ex _ _ _ _ => rw [e4] at h; cases h
              | stuck => rw [e4] at h; cases h
            | false => simp only [e, e3] at h; cases h; exact ⟨false, rfl⟩
          | _ => simp only [e, e3] at h; cases h
    | ex _ _ _ _ => rw [e2] at h; cases h
    | stuck => rw [e2] at h; cases h
  | ex _ _ _ _ => rw [e1] at h; cases h
  | stuck => rw [e1] at h; cases h
theorem t_chain {op op' : CmpOp} {o o' : O} (hbl : cmpBl o' = true) (ho : OpR X (compareOp op) (r2O X.K cad G.isT o)) (ho' : OpR X (compareOp op') (r2O X.K cad G.isT o')) (ha : SE G Φ cad X da a) (hb : SE G Φ cad X db b) (hc : SE G Φ cad X dc c) (hm : lastMarks [op, op'] [b, c] = false) :
    ST G Φ cad X (.chain o o' da db dc) (.Compare a [op, op'] [b, c] pos) := fun W tk =>
  (pt_chain ho ho' (ha W tk) (hb W tk) (hc W tk) hm).imp fun σ H Q h => lift_chain (lift_tb (chain_bl hbl) h)
end
end PD
set_option Elab.async false
set_option linter.all false
set_option maxRecDepth 100000
set_option maxHeartbeats 4000000
/-! PyDb: len(set(xs)), xs a list of tuples of ints. -/
namespace PD
open PySem PySem.Spec PyProof.Rows L2
theorem ddL_mem : ∀ (ks : List (List Int)) (k : List Int), k ∈ ddL ks ↔ k ∈ ks
  | [], k => Iff.rfl
  | a :: r, k => by
    unfold ddL
    by_cases h : a ∈ r
    · rw [if_pos h, ddL_mem r k, List.mem_cons]
      constructor
      · exact .inr
      · rintro (rfl | z)
        · exact h
        · exact z
    · rw [if_neg h, List.mem_cons, List.mem_cons, ddL_mem r k]
theorem ddL_nodup : ∀ (ks : List (List Int)), (ddL ks).Nodup
  | [] => List.nodup_nil
  | a :: r => by
    unfold ddL
    by_cases h : a ∈ r
    · rw [if_pos h]; exact ddL_nodup r
    · rw [if_neg h]
      exact List.nodup_cons.mpr ⟨fun z => h ((ddL_mem r a).mp z), ddL_nodup r⟩
theorem ddL_len {ks l : List (List Int)} (hn : l.Nodup) (h1 : ∀ k ∈ l, k ∈ ks) (h2 : ∀ k ∈ ks, k ∈ l) : l.length = (ddL ks).length :=
  ((List.perm_ext_iff_of_nodup hn (ddL_nodup ks)).mpr fun k => ⟨fun h => (ddL_mem ks k).mpr (h1 k h), fun h => h2 k ((ddL_mem ks k).mp h)⟩).length_eq
section
variable {X : Cx}
def tLenSetT (K : PySem.W.Frag) (ta : TE) : TE := fun σ H Q => ta σ H fun x H1 => ∃ (l : Addr) (ks : List (Addr × List Int)), x = V.ref l ∧ SqL K H1 l (ks.map fun p => V.ref p.1) ∧ (∀ p ∈ ks, SqT K H1 p.1 (p.2.map V.int)) ∧ ks.length < 64 ∧ Q (.int ((ddL (ks.map (·.2))).length : Nat)) H1
theorem pe_lenSetT {a : Expr} {ta : TE} {p p2 q pos : Pos} (hc : X.calm = true) (hu : X.A.units + 64 < cLine) (hg : Gl X "len") (hm : X.mg "len" = none) (hg2 : Gl X "set") (hm2 : X.mg "set" = none) (ha : PE X a ta)
    (na : starEach [a] X.env = (false, eval a X.env) :: starEach [] X.env := by rfl) : PE X (.Call (.Name "len" p) [.Call (.Name "set" p2) [a] [] q] [] pos) (tLenSetT X.K ta) := by
  refine ⟨fun pins s σ H Q I h => ?_⟩
  refine Call_ (ld_blt I hg hm PySem.boot_len ?_)
  refine PyProof.Rows.callWith_builtin1 (PyProof.Rows.args_cons ?_ rfl) rfl rfl
  refine Call_ (ld_blt I hg2 hm2 PyProof.Rows.boot_set ?_)
  refine PyProof.Rows.callWith_type1 (PyProof.Rows.args_cons (thn (ha.run pins s σ H _ I h) fun v s1 ⟨x, H1, I1, r1, q1⟩ => PyProof.Rows.args_nil ?_) na) na rfl
  obtain ⟨l, ks, rfl, hl, hk, hf, q1⟩ := q1
  cases r1
  obtain ⟨its, rv, pl, hz⟩ := I1.list hl
  refine call_set_tups (P := X.prog) (w := X.w) ks (I1.ok.hd hc) pl.isList (by simpa using refs_of_vals rv) (fun p hp => I1.isT (hk p hp)) hf (by omega) fun h' tk L es ep t R g k => ?_
  refine PyProof.Rows.args_nil ?_
  obtain ⟨o, ho, hex, hd⟩ := R.ob
  have I2 : Inv X pins σ H1 { s1 with heap := h', toks := tk } := I1.kept k
  have sz : es.size = L.length := SetTR.size (s := { s1 with heap := h', toks := tk }) R
  have ft : t.fits es.size = true := SetTR.fits (s := { s1 with heap := h', toks := tk }) R
  have ll : L.length = (ddL (ks.map (·.2))).length := by
    rw [← ddL_len (ks := ks.map (·.2)) R.nd (fun k hk => ?_) fun k hk => ?_, List.length_map]
    · obtain ⟨p, hp, rfl⟩ := List.mem_map.mp hk
      exact List.mem_map.mpr ⟨p, List.mem_of_mem_take (g.sub p hp), rfl⟩
    · obtain ⟨p, hp, rfl⟩ := List.mem_map.mp hk
      exact g.all p (by rw [List.take_length]; exact hp)
  have few := R.few
  refine call_len_set (s := { s1 with heap := h', toks := tk }) ho hex hd ft (by rw [sz]; omega) ⟨.int ((ddL (ks.map (·.2))).length : Nat), H1, I2.tok _, ⟨_, by rw [sz, ll]⟩, q1⟩
end
section
variable {G : Pg} {Φ : Nat → List PD.W → List M → Rs PD.W} {cad : Nat → Addr} {X : Cx}
theorem isPairs_rel {K : PySem.W.Frag} {H : Hp} {F : List Addr} : ∀ {ds : List D} {vs : List V} {ks : List (List Int)}, IsDs K cad H F ds vs → isPairs ds = some ks → ∃ ps : List (Addr × List Int), vs = (ps.map fun p => V.ref p.1) ∧ (∀ p ∈ ps, SqT K H p.1 (p.2.map V.int)) ∧ ps.map (·.2) = ks
  | [], vs, ks, h, e => by
    cases (show vs = [] from h)
    cases e
    exact ⟨[], rfl, (fun _ h => absurd h List.not_mem_nil), rfl⟩
  | d :: ds, vs, ks, h, e => by
    obtain ⟨x, r, rfl, h1, h2⟩ := h
    cases d with
    | tup ys =>
      have e : (match isInts ys, isPairs ds with | some k, some r => some (k :: r) | _, _ => none) = some ks := e
      cases e1 : isInts ys with
      | none => rw [e1] at e; cases e
      | some k =>
        cases e2 : isPairs ds with
        | none => rw [e1, e2] at e; cases e
        | some r2 =>
          rw [e1, e2] at e
          cases e
          obtain ⟨a, zs, rfl, ht, hz⟩ := h1
          obtain ⟨ps, rfl, q1, q2⟩ := isPairs_rel h2 e2
          have ht := ht.sq
          rw [isInts_rel hz e1] at ht
          refine ⟨(a, k) :: ps, rfl, fun p hp => ?_, by rw [List.map_cons, q2]⟩
          rcases List.mem_cons.mp hp with rfl | hp
          · exact ht
          · exact q1 p hp
    | _ => cases e
theorem r_lenset {da : E} {a : Expr} {p p2 q pos : Pos} (hc : X.calm = true) (hu : X.A.units + 64 < cLine) (hg : Gl X "len") (hm : X.mg "len" = none) (hg2 : Gl X "set") (hm2 : X.mg "set" = none) (ha : SE G Φ cad X da a) (na : notStar a = true) : SE G Φ cad X (.op .setlen [da]) (.Call (.Name "len" p) [.Call (.Name "set" p2) [a] [] q] [] pos) := fun W tk =>
  (pe_lenSetT hc hu hg hm hg2 hm2 (ha W tk) (by cases a <;> first | rfl | cases na)).imp fun σ H Q h => lift_mono (lift_op1 h) fun x H1 ⟨F, ds, d, hF, hp, hs, q⟩ => by
    obtain ⟨da, rfl, h1⟩ := pk1 hp
    cases da <;> try (exact absurd (show none = some d from hs) (by simp))
    case lst xs =>
      have hs : (match isPairs xs with | some ks => if ks.length < 64 then some (D.int (ddL ks).length) else none | none => none) = some d := hs
      cases e : isPairs xs with
      | none => rw [e] at hs; cases hs
      | some ks =>
        rw [e] at hs
        have hs : (if ks.length < 64 then some (D.int (ddL ks).length) else none) = some d := hs
        by_cases hl : ks.length < 64
        · rw [if_pos hl] at hs
          cases hs
          obtain ⟨p, ys, rfl, hq, hy⟩ := h1
          obtain ⟨ps, rfl, q1, q2⟩ := isPairs_rel hy e
          refine ⟨p, ps, rfl, hq, q1, ?_, ?_⟩
          · rw [← q2, List.length_map] at hl; exact hl
          · rw [q2]; exact q _ H1 (Same.refl H1) rfl
        · rw [if_neg hl] at hs; cases hs
end
end PD
set_option Elab.async false
set_option linter.all false
set_option maxRecDepth 100000
set_option maxHeartbeats 4000000
/-! PyD7: calls of our own defs. -/
namespace PD
open PySem PySem.Spec PyProof.Rows L2

theorem putAll_len {α : Type} : ∀ (ids : List Nat) (cs ms : List α), (putAll cs ids ms).length = cs.length
  | [], cs, ms => by cases ms <;> rfl
  | i :: r, cs, [] => rfl
  | i :: r, cs, m :: ms => by
    show (putAll (cs.set i m) r ms).length = _
    rw [putAll_len r, List.length_set]
theorem putAll_out {α : Type} {j : Nat} : ∀ (ids : List Nat) (cs ms : List α), j ∉ ids → (putAll cs ids ms)[j]? = cs[j]?
  | [], cs, ms, _ => by cases ms <;> rfl
  | i :: r, cs, [], _ => rfl
  | i :: r, cs, m :: ms, h => by
    show (putAll (cs.set i m) r ms)[j]? = _
    rw [putAll_out r _ _ (fun z => h (List.mem_cons_of_mem _ z)), List.getElem?_set_ne (fun z => h (by rw [z]; exact List.mem_cons_self))]
theorem putAll_in {α : Type} {j : Nat} : ∀ (ids : List Nat) (cs ms : List α) (k : Nat), ids.Nodup → ids[k]? = some j → k < ms.length → j < cs.length → (putAll cs ids ms)[j]? = ms[k]?
  | [], _, _, _, _, e, _, _ => by simp at e
  | i :: r, cs, [], k, _, _, h, _ => by simp at h
  | i :: r, cs, m :: ms, 0, hn, e, _, hj => by
    have e : i = j := by simpa using e
    subst e
    show (putAll (cs.set i m) r ms)[i]? = some m
    rw [putAll_out r _ _ (List.nodup_cons.mp hn).1, List.getElem?_set_self hj]
  | i :: r, cs, m :: ms, k + 1, hn, e, h, hj => by
    show (putAll (cs.set i m) r ms)[j]? = ms[k]?
    exact putAll_in r _ _ k (List.nodup_cons.mp hn).2 (by simpa using e) (by simpa using h) (by rw [List.length_set]; exact hj)
/-- the arguments in the callee's numbering -/
inductive RnR (ids : List Nat) : List PD.W → List PD.W → Prop
  | nil : RnR ids [] []
  | d {x ws us} : RnR ids ws us → RnR ids (.d x :: ws) (.d x :: us)
  | c {i k ws us} : ids[k]? = some i → RnR ids ws us → RnR ids (.c i :: ws) (.c k :: us)
theorem rn_ok : ∀ (ws : List PD.W) (ids : List Nat), ids.Nodup → (∃ ex, (rn ids ws).2 = ids ++ ex) ∧ (rn ids ws).2.Nodup ∧ RnR (rn ids ws).2 ws (rn ids ws).1
  | [], ids, h => ⟨⟨[], by simp [rn]⟩, h, .nil⟩
  | .d x :: ws, ids, h => by
    obtain ⟨h1, h2, h3⟩ := rn_ok ws ids h
    exact ⟨h1, h2, .d h3⟩
  | .c i :: ws, ids, h => by
    unfold rn
    cases e : ids.idxOf? i with
    | some k =>
      obtain ⟨⟨ex, h1⟩, h2, h3⟩ := rn_ok ws ids h
      refine ⟨⟨ex, h1⟩, h2, .c ?_ h3⟩
      show (rn ids ws).2[k]? = some i
      have hk := List.findIdx?_eq_some_iff_getElem.mp (show ids.findIdx? (· == i) = some k from e)
      obtain ⟨hlt, he, _⟩ := hk
      rw [h1, List.getElem?_append_left hlt, List.getElem?_eq_getElem hlt]
      exact congrArg some (eq_of_beq he)
    | none =>
      have hni : i ∉ ids := fun hm => by
        have z := List.findIdx?_eq_none_iff.mp (show ids.findIdx? (· == i) = none from e) i hm
        simp at z
      obtain ⟨⟨ex, h1⟩, h2, h3⟩ := rn_ok ws (ids ++ [i]) (List.nodup_append.mpr ⟨h, by simp, fun a ha b hb => by
        rw [List.mem_singleton.mp hb]
        exact fun z => hni (z ▸ ha)⟩)
      refine ⟨⟨i :: ex, by show (rn (ids ++ [i]) ws).2 = _; rw [h1]; simp⟩, h2, .c ?_ h3⟩
      show (rn (ids ++ [i]) ws).2[ids.length]? = some i
      rw [h1]
      simp
theorem takeAll_ok {cs : List M} : ∀ {ids : List Nat} {ms : List M}, takeAll cs ids = some ms → ms.length = ids.length ∧ ∀ (k i : Nat), ids[k]? = some i → ∃ m, ms[k]? = some m ∧ cs[i]? = some m ∧ m ≠ .dead
  | [], ms, h => by
    cases h
    exact ⟨rfl, fun k i e => by simp at e⟩
  | i :: r, ms, h => by
    have h : (match cs[i]?, takeAll cs r with | some .dead, _ => none | some m, some ms => some (m :: ms) | _, _ => none) = some ms := h
    cases e1 : cs[i]? with
    | none => rw [e1] at h; cases h
    | some m =>
      cases e2 : takeAll cs r with
      | none => rw [e1, e2] at h; cases m <;> cases h
      | some ms' =>
        obtain ⟨h1, h2⟩ := takeAll_ok e2
        rw [e1, e2] at h
        have hm : m ≠ .dead ∧ ms = m :: ms' := by cases m <;> cases h <;> exact ⟨fun z => (nomatch z), rfl⟩
        obtain ⟨hd, rfl⟩ := hm
        refine ⟨by simp [h1], fun k j e => ?_⟩
        cases k with
        | zero =>
          have e : i = j := by simpa using e
          subst e
          exact ⟨m, rfl, e1, hd⟩
        | succ k =>
          obtain ⟨m', q1, q2, q3⟩ := h2 k j (by simpa using e)
          exact ⟨m', by simpa using q1, q2, q3⟩
section
variable {K : PySem.W.Frag} {cad : Nat → Addr} {as as2 as3 : AS} {R : List Addr} {H H' : Hp} {cs ms ms' cs3 : List M} {ids : List Nat}
def asOf (as : AS) (ids : List Nat) : AS := ids.map fun i => (as[i]?).join
def rOf (as : AS) (R : List Addr) (ids : List Nat) : List Addr := (live as).filter (fun a => decide (a ∉ live (asOf as ids))) ++ R
theorem asOf_get {k : Nat} {o : Option Addr} (h : (asOf as ids)[k]? = some o) : ∃ i, ids[k]? = some i ∧ (as[i]?).join = o := by
  unfold asOf at h
  rw [List.getElem?_map] at h
  cases e : ids[k]? with
  | none => rw [e] at h; cases h
  | some i => rw [e] at h; cases h; exact ⟨i, rfl, rfl⟩
theorem join_some {o : Option (Option Addr)} {a : Addr} (h : o.join = some a) : o = some (some a) := by
  cases o with
  | none => cases h
  | some o => cases (show o = some a from h); rfl
theorem asOf_live {k : Nat} {a : Addr} (h : (asOf as ids)[k]? = some (some a)) : ∃ i, ids[k]? = some i ∧ as[i]? = some (some a) := by
  obtain ⟨i, e, q⟩ := asOf_get h
  exact ⟨i, e, join_some q⟩
theorem live_asOf {a : Addr} (h : a ∈ live (asOf as ids)) : a ∈ live as := by
  obtain ⟨k, e⟩ := mem_live.mp h
  obtain ⟨i, _, q⟩ := asOf_live e
  exact mem_live.mpr ⟨i, q⟩
theorem rOf_sub {a : Addr} (h : a ∈ Av (asOf as ids) (rOf as R ids)) : a ∈ Av as R := by
  rcases List.mem_append.mp h with h | h
  · exact List.mem_append_left _ (live_asOf h)
  · rcases List.mem_append.mp h with h | h
    · exact List.mem_append_left _ (List.mem_filter.mp h).1
    · exact List.mem_append_right _ h
theorem kp_sub {F F' : List Addr} (h : ∀ a ∈ F', a ∈ F) : Kp H F H F' := ⟨fun _ _ e _ => e, fun a m => .inl (h a m)⟩
theorem CellM.mono {F F' : List Addr} (k : Kp H F H' F') {a : Addr} (he : ∀ o, H a = some o → H' a = some o) : ∀ {m : M}, CellM K cad H F a m → CellM K cad H' F' a m
  | .lst ds, ⟨xs, e, h⟩ => ⟨xs, he _ e, h.mono k⟩
  | .dct ks ds, ⟨us, e, h1, h⟩ => ⟨us, he _ e, h1, h.mono k⟩
  | .obj C ks ds, ⟨dx, us, e, h1, h⟩ => ⟨dx, us, he _ e, h1, h.mono k⟩
  | .dead, h => h
/-- the callee's view -/
theorem Cells.into (c : Cells K cad as R H cs) (hn : ids.Nodup) (ht : takeAll cs ids = some ms) : Cells K cad (asOf as ids) (rOf as R ids) H ms := by
  obtain ⟨h1, h2⟩ := takeAll_ok ht
  have kp : Kp H (Av as R) H (Av (asOf as ids) (rOf as R ids)) := kp_sub fun a h => rOf_sub h
  refine ⟨by unfold asOf; rw [List.length_map, h1], fun k l a e1 e2 => ?_, fun k e => ?_, fun k a m e1 e2 => ?_, fun a h hr => ?_, fun a h => ?_⟩
  · obtain ⟨i, q1, r1⟩ := asOf_live e1
    obtain ⟨j, q2, r2⟩ := asOf_live e2
    have z := c.inj i j a r1 r2
    subst z
    obtain ⟨l1, g1⟩ := List.getElem?_eq_some_iff.mp q1
    obtain ⟨l2, g2⟩ := List.getElem?_eq_some_iff.mp q2
    exact (List.getElem_inj hn).mp (g1.trans g2.symm)
  · obtain ⟨i, q1, r1⟩ := asOf_get e
    obtain ⟨m, q2, q3, q4⟩ := h2 k i q1
    have hi : i < as.length := by rw [c.len]; exact (List.getElem?_eq_some_iff.mp q3).1
    have r2 : as[i]? = some none := by
      rw [List.getElem?_eq_getElem hi] at r1 ⊢
      exact congrArg some r1
    have z := c.dead i r2
    rw [q3] at z
    cases z
    exact absurd rfl q4
  · obtain ⟨i, q1, r1⟩ := asOf_live e1
    obtain ⟨m', q2, q3, q4⟩ := h2 k i q1
    rw [e2] at q2
    cases q2
    exact (c.at_ i a m r1 q3).mono kp fun _ e => e
  · rcases List.mem_append.mp hr with hr | hr
    · exact of_decide_eq_true (List.mem_filter.mp hr).2 h
    · exact c.apart a (live_asOf h) hr
  · rcases List.mem_append.mp h with h | h
    · exact live_there c (List.mem_filter.mp h).1
    · exact c.rl a h
theorem IsWs.into (hn : ids.Nodup) : ∀ {ws us : List PD.W} {vs : List V}, RnR ids ws us → IsWs K cad as R H ws vs → IsWs K cad (asOf as ids) (rOf as R ids) H us vs
  | _, _, _, .nil, h => h
  | _, _, _, .d r, h => by
    obtain ⟨x, q, rfl, h1, h2⟩ := h
    exact ⟨x, q, rfl, IsD.mono (kp_sub fun a h => rOf_sub h) h1, IsWs.into hn r h2⟩
  | _, _, _, .c (i := i) (k := k) e r, h => by
    obtain ⟨x, q, rfl, h1, h2⟩ := h
    refine ⟨x, q, rfl, ⟨?_, fun a ea => ?_⟩, IsWs.into hn r h2⟩
    · unfold asOf
      rw [List.length_map]
      exact (List.getElem?_eq_some_iff.mp e).1
    · obtain ⟨i', q1, r1⟩ := asOf_live ea
      rw [e] at q1
      cases q1
      exact h1.2 a r1
/-- where the caller's new table has its entries from -/
structure Back (as as2 as3 : AS) (cs ms' cs3 : List M) (ids : List Nat) : Prop where
  org : ∀ i : Nat, i < as3.length → (∃ k, k < as2.length ∧ as3[i]? = as2[k]? ∧ cs3[i]? = ms'[k]? ∧ (i < as.length → ids[k]? = some i) ∧ (as.length ≤ i → ids.length ≤ k)) ∨ (i < as.length ∧ i ∉ ids ∧ as3[i]? = as[i]? ∧ cs3[i]? = cs[i]?)
  len : as3.length = cs3.length
  le : as.length ≤ as3.length
  le1 : as3.length ≤ as.length + 1
theorem lt_of_get {α : Type} {l : List α} {i : Nat} {a : α} (h : l[i]? = some a) : i < l.length := (List.getElem?_eq_some_iff.mp h).1
theorem Back.in_r (c : Cells K cad as R H cs) {i : Nat} {a : Addr} (hi : i ∉ ids) (e : as[i]? = some (some a)) : a ∈ rOf as R ids :=
  List.mem_append_left _ (List.mem_filter.mpr ⟨mem_live.mpr ⟨i, e⟩, decide_eq_true fun h => by
    obtain ⟨k, q⟩ := mem_live.mp h
    obtain ⟨j, q1, r1⟩ := asOf_live q
    have z := c.inj i j a e r1
    subst z
    exact hi (List.mem_of_getElem? q1)⟩)
theorem Back.sub (b : Back as as2 as3 cs ms' cs3 ids) (c : Cells K cad as R H cs) {a : Addr} (h : a ∈ Av as3 R) : a ∈ Av as2 (rOf as R ids) := by
  rcases List.mem_append.mp h with h | h
  · obtain ⟨i, e⟩ := mem_live.mp h
    rcases b.org i (lt_of_get e) with ⟨k, _, q1, _⟩ | ⟨_, hi, q1, _⟩
    · rw [q1] at e
      exact List.mem_append_left _ (mem_live.mpr ⟨k, e⟩)
    · rw [q1] at e
      exact List.mem_append_right _ (Back.in_r c hi e)
  · exact List.mem_append_right _ (List.mem_append_right _ h)
theorem Back.kp (b : Back as as2 as3 cs ms' cs3 ids) (c : Cells K cad as R H cs) : Kp H' (Av as2 (rOf as R ids)) H' (Av as3 R) := kp_sub fun _ h => b.sub c h
theorem Back.ext (b : Back as as2 as3 cs ms' cs3 ids) (x : Ext H (asOf as ids) H' as2) : Ext H as H' as3 where
  len := b.le
  old := fun i a hi e => by
    rcases b.org i (lt_of_get e) with ⟨k, _, q1, _, q3, _⟩ | ⟨_, _, q1, _⟩
    · rw [q1] at e
      have q3 := q3 hi
      have hk : k < (asOf as ids).length := by unfold asOf; rw [List.length_map]; exact lt_of_get q3
      obtain ⟨j, r1, r2⟩ := asOf_live (x.old k a hk e)
      rw [q3] at r1
      cases r1
      exact r2
    · rw [q1] at e
      exact e
  new := fun i a hi e => by
    rcases b.org i (lt_of_get e) with ⟨k, _, q1, _, _, q4⟩ | ⟨h1, _⟩
    · rw [q1] at e
      exact x.new k a (by unfold asOf; rw [List.length_map]; exact q4 hi) e
    · omega
  keep := fun a o e h => x.keep a o e fun z => h (live_asOf z)
  there := x.there
theorem Back.cells (b : Back as as2 as3 cs ms' cs3 ids) (c : Cells K cad as R H cs) (x : Ext H (asOf as ids) H' as2) (c2 : Cells K cad as2 (rOf as R ids) H' ms') : Cells K cad as3 R H' cs3 := by
  have ext := b.ext x
  refine ⟨b.len, fun i j a e1 e2 => ?_, fun i e => ?_, fun i a m e1 e2 => ?_, fun a h hr => ?_, fun a h => c2.rl a (List.mem_append_right _ h)⟩
  · have l1 := lt_of_get e1
    have l2 := lt_of_get e2
    have b1 := b.le1
    rcases b.org i l1 with ⟨k, _, q1, _, q3, q4⟩ | ⟨h1, hi, q1, _⟩
    · rw [q1] at e1
      rcases b.org j l2 with ⟨l, _, r1, _, r3, r4⟩ | ⟨h2, hj, r1, _⟩
      · rw [r1] at e2
        have z := c2.inj k l a e1 e2
        subst z
        by_cases hi : i < as.length
        · by_cases hj : j < as.length
          · have z := (q3 hi).symm.trans (r3 hj)
            cases z
            rfl
          · have z1 := lt_of_get (q3 hi)
            have z2 := r4 (by omega)
            omega
        · by_cases hj : j < as.length
          · have z1 := lt_of_get (r3 hj)
            have z2 := q4 (by omega)
            omega
          · omega
      · rw [r1] at e2
        exact absurd (Back.in_r c hj e2) (c2.apart a (mem_live.mpr ⟨k, e1⟩))
    · rw [q1] at e1
      rcases b.org j l2 with ⟨l, _, r1, _, r3, r4⟩ | ⟨h2, hj, r1, _⟩
      · rw [r1] at e2
        exact absurd (Back.in_r c hi e1) (c2.apart a (mem_live.mpr ⟨l, e2⟩))
      · rw [r1] at e2
        exact c.inj i j a e1 e2
  · rcases b.org i (lt_of_get e) with ⟨k, _, q1, q2, _, _⟩ | ⟨h1, hi, q1, q2⟩
    · rw [q1] at e
      rw [q2]
      exact c2.dead k e
    · rw [q1] at e
      rw [q2]
      exact c.dead i e
  · rcases b.org i (lt_of_get e1) with ⟨k, _, q1, q2, _, _⟩ | ⟨h1, hi, q1, q2⟩
    · rw [q1] at e1
      rw [q2] at e2
      exact (c2.at_ k a m e1 e2).mono (b.kp c) fun _ e => e
    · rw [q1] at e1
      rw [q2] at e2
      refine (c.at_ i a m e1 e2).mono ext.kp' fun o e => x.keep a o e fun z => ?_
      obtain ⟨k, q⟩ := mem_live.mp z
      obtain ⟨j, q1, r1⟩ := asOf_live q
      have z := c.inj i j a e1 r1
      subst z
      exact hi (List.mem_of_getElem? q1)
  · obtain ⟨i, e⟩ := mem_live.mp h
    rcases b.org i (lt_of_get e) with ⟨k, _, q1, _⟩ | ⟨_, hi, q1, _⟩
    · rw [q1] at e
      exact c2.apart a (mem_live.mpr ⟨k, e⟩) (List.mem_append_right _ hr)
    · rw [q1] at e
      exact c.apart a (mem_live.mpr ⟨i, e⟩) hr
/-- without a new object -/
theorem Back.zero (hc : as.length = cs.length) (hn : ids.Nodup) (hi : ∀ i ∈ ids, i < as.length) (h2 : ids.length ≤ as2.length) (h3 : as2.length = ms'.length) : Back as as2 (putAll as ids as2) cs ms' (putAll cs ids ms') ids := by
  refine ⟨fun i hl => ?_, by rw [putAll_len, putAll_len, hc], by rw [putAll_len]; exact Nat.le_refl _, by rw [putAll_len]; omega⟩
  rw [putAll_len] at hl
  by_cases hm : i ∈ ids
  · obtain ⟨k, hk⟩ := List.getElem?_of_mem hm
    have hkl := lt_of_get hk
    exact .inl ⟨k, by omega, putAll_in _ _ _ k hn hk (by omega) hl, putAll_in _ _ _ k hn hk (by omega) (by omega), fun _ => hk, fun z => by omega⟩
  · exact .inr ⟨hl, hm, putAll_out _ _ _ hm, putAll_out _ _ _ hm⟩
/-- with a new object, the callee's j -/
theorem Back.one {j : Nat} {m : M} (hc : as.length = cs.length) (hn : ids.Nodup) (hi : ∀ i ∈ ids, i < as.length) (h2 : ids.length ≤ as2.length) (h3 : as2.length = ms'.length) (hj : ids.length ≤ j) (hm : ms'[j]? = some m) :
    Back as as2 (putAll as ids as2 ++ [(as2[j]?).join]) cs ms' (putAll cs ids ms' ++ [m]) ids := by
  have b := Back.zero (as2 := as2) (ms' := ms') hc hn hi h2 h3
  refine ⟨fun i hl => ?_, by simp [putAll_len, hc], by simp [putAll_len], by simp [putAll_len]⟩
  rw [List.length_append, putAll_len] at hl
  by_cases h : i < as.length
  · have e1 : (putAll as ids as2 ++ [(as2[j]?).join])[i]? = (putAll as ids as2)[i]? := List.getElem?_append_left (by rw [putAll_len]; exact h)
    have e2 : (putAll cs ids ms' ++ [m])[i]? = (putAll cs ids ms')[i]? := List.getElem?_append_left (by rw [putAll_len]; omega)
    rw [e1, e2]
    exact b.org i (by rw [putAll_len]; exact h)
  · have hi' : i = as.length := by simp at hl; omega
    subst hi'
    have hjl := lt_of_get hm
    refine .inl ⟨j, by omega, ?_, ?_, fun z => by omega, fun _ => hj⟩
    · rw [List.getElem?_append_right (by rw [putAll_len]; exact Nat.le_refl _), putAll_len, Nat.sub_self]
      have hj2 : j < as2.length := by omega
      rw [List.getElem?_eq_getElem hj2]
      rfl
    · rw [List.getElem?_append_right (by rw [putAll_len]; omega), putAll_len, hc, Nat.sub_self, hm]
      rfl
theorem IsX.mono {C : Nat} {ks : List Str} {vs : List D} {cls : Value} {d : Option Addr} {as' : AS} {R' : List Addr} (k : Kp H (Av as R) H' (Av as' R')) (h : IsX K cad as R H C ks vs cls d) : IsX K cad as' R' H' C ks vs cls d := by
  obtain ⟨h1, h2⟩ := h
  refine ⟨h1, ?_⟩
  rcases h2 with h2 | ⟨h0, dx, us, e1, e2, e3, e4, hs⟩
  · exact .inl h2
  · exact .inr ⟨h0, dx, us, e1, k.av e3 e2, k.keep _ _ e3 e2, e4, IsDs.mono k hs⟩
theorem call_sp {f : List PD.W → List M → Rs PD.W} {ws : List PD.W} {vs : List V} {σ : L2.St} {Q : VK} {W : WX} (c : Cells K cad as R H cs) (h : IsWs K cad as R H ws vs) (p : Post K cad (rW K cad) W σ as R H Q (callW f ws cs)) :
    spOf K cad f vs H Q (WE W σ) := by
  obtain ⟨_, hn, hr⟩ := rn_ok ws [] .nil
  unfold callW at p
  generalize e1 : (rn [] ws).1 = us at *
  generalize e2 : (rn [] ws).2 = ids at *
  have e0 : rn [] ws = (us, ids) := by rw [← e1, ← e2]
  rw [e0] at p
  dsimp only at p
  cases e3 : takeAll cs ids with
  | none => rw [e3] at p; exact p.elim
  | some ms =>
    rw [e3] at p
    dsimp only at p
    obtain ⟨t1, t2⟩ := takeAll_ok e3
    have hi : ∀ i ∈ ids, i < as.length := fun i hm => by
      obtain ⟨k, hk⟩ := List.getElem?_of_mem hm
      obtain ⟨m, _, q, _⟩ := t2 k i hk
      rw [c.len]
      exact lt_of_get q
    refine ⟨us, ms, asOf as ids, rOf as R ids, c.into hn e3, IsWs.into hn hr h, ?_⟩
    have al : (asOf as ids).length = ids.length := by unfold asOf; rw [List.length_map]
    cases e4 : f us ms with
    | stuck => rw [e4] at p; exact p.elim
    | ex C ks vs ms' =>
      rw [e4] at p
      intro cls d H' as2 x c2 i
      have b := Back.zero (as2 := as2) (ms' := ms') c.len hn hi (by rw [← al]; exact x.len) c2.len
      exact p cls d H' _ (b.ext x) (b.cells c x c2) (i.mono (b.kp c))
    | ok w ms' =>
      rw [e4] at p
      intro v H' as2 x c2 i
      have l2 : ids.length ≤ as2.length := by rw [← al]; exact x.len
      cases w with
      | d y =>
        have b := Back.zero (as2 := as2) (ms' := ms') c.len hn hi l2 c2.len
        exact p v H' _ (b.ext x) (b.cells c x c2) (IsD.mono (b.kp c) i)
      | c j =>
        dsimp only at p
        cases e5 : ids[j]? with
        | some n =>
          rw [e5] at p
          have b := Back.zero (as2 := as2) (ms' := ms') c.len hn hi l2 c2.len
          have hnl := hi n (List.mem_of_getElem? e5)
          refine p v H' _ (b.ext x) (b.cells c x c2) ⟨by rw [putAll_len]; exact hnl, fun a ea => i.2 a ?_⟩
          rw [putAll_in _ _ _ j hn e5 (by have := lt_of_get e5; omega) hnl] at ea
          exact ea
        | none =>
          rw [e5] at p
          dsimp only at p
          cases e6 : ms'[j]? with
          | none => rw [e6] at p; exact p.elim
          | some m =>
            rw [e6] at p
            have hj : ids.length ≤ j := by simpa using List.getElem?_eq_none_iff.mp e5
            have b := Back.one (as2 := as2) (ms' := ms') c.len hn hi l2 c2.len hj e6
            refine p v H' _ (b.ext x) (b.cells c x c2) ⟨by rw [List.length_append, putAll_len, ← c.len]; simp, fun a ea => i.2 a ?_⟩
            rw [List.getElem?_append_right (by rw [putAll_len, c.len]; exact Nat.le_refl _), putAll_len, c.len, Nat.sub_self] at ea
            have ea : some (as2[j]?).join = some (some a) := ea
            exact join_some (Option.some.inj ea)
end
end PD
set_option Elab.async false
set_option linter.all false
set_option maxRecDepth 100000
set_option maxHeartbeats 4000000
/-! PyD8: targets, what is walked, list comprehensions. -/
namespace PD
open PySem PySem.Spec PyProof.Rows L2
mutual
def tgIn : Tg → List Nat → Bool
  | .n i, own => own.contains i
  | .t ts, own => tgsIn ts own
def tgsIn : List Tg → List Nat → Bool
  | [], _ => true
  | t :: ts, own => tgIn t own && tgsIn ts own
end
theorem wipe_get {σ : L2.St} {j : Nat} : ∀ vs : List Nat, (wipe σ vs)[j]? = if j ∈ vs then (if j < σ.length then some none else none) else σ[j]?
  | [] => by simp [wipe]
  | v :: vs => by
    unfold wipe
    by_cases h : v = j
    · subst h
      rw [if_pos List.mem_cons_self]
      by_cases hl : v < σ.length
      · rw [List.getElem?_set_self (by rw [wipe_length]; exact hl), if_pos hl]
      · rw [if_neg hl, List.getElem?_eq_none (by rw [List.length_set, wipe_length]; omega)]
    · rw [List.getElem?_set_ne h, wipe_get vs]
      have e : (j ∈ v :: vs) ↔ j ∈ vs := by simp [Ne.symm h]
      simp only [e]
theorem wipe_set {σ : L2.St} {i : Nat} {y : Option V} {vs : List Nat} (h : i ∈ vs) : wipe (σ.set i y) vs = wipe σ vs := by
  apply List.ext_getElem?
  intro j
  rw [wipe_get, wipe_get, List.length_set]
  by_cases hj : j ∈ vs
  · rw [if_pos hj, if_pos hj]
  · rw [if_neg hj, if_neg hj, List.getElem?_set_ne (fun z : i = j => hj (z ▸ h))]
theorem wipeS_len (sl : Sl) : ∀ vs, (wipeS sl vs).length = sl.length
  | [] => rfl
  | v :: vs => by unfold wipeS; rw [List.length_set, wipeS_len sl vs]
theorem wipeS_some {sl : Sl} {i : Nat} {w : PD.W} : ∀ {vs : List Nat}, (wipeS sl vs)[i]? = some (some w) → sl[i]? = some (some w) ∧ i ∉ vs
  | [], h => ⟨h, by simp⟩
  | v :: vs, h => by
    unfold wipeS at h
    by_cases hi : v = i
    · subst hi
      by_cases hv : v < (wipeS sl vs).length
      · rw [List.getElem?_set_self hv] at h; cases h
      · rw [List.getElem?_eq_none (by simpa using hv)] at h; cases h
    · rw [List.getElem?_set_ne hi] at h
      obtain ⟨h1, h2⟩ := wipeS_some h
      exact ⟨h1, by simp only [List.mem_cons, not_or]; exact ⟨fun e => hi e.symm, h2⟩⟩
section
variable {K : PySem.W.Frag} {cad : Nat → Addr} {as : AS} {R : List Addr} {H : Hp} {sl : Sl} {cs : List M} {σ : L2.St}
theorem Rel.set {i : Nat} {w : PD.W} {x : V} (r : Rel K cad as R H sl cs σ) (hi : i < sl.length) (h : IsW K cad as R H w x) : Rel K cad as R H (sl.set i (some w)) cs (σ.set i (some x)) := by
  refine ⟨by rw [List.length_set, List.length_set, r.len], fun j u e => ?_, r.cells⟩
  by_cases hj : i = j
  · subst hj
    rw [List.getElem?_set_self hi] at e
    cases e
    exact ⟨x, by rw [List.getElem?_set_self (by rw [r.len]; exact hi)], h⟩
  · rw [List.getElem?_set_ne hj] at e
    obtain ⟨v, e1, h1⟩ := r.sl j u e
    exact ⟨v, by rw [List.getElem?_set_ne hj]; exact e1, h1⟩
theorem Rel.unset {i : Nat} (r : Rel K cad as R H sl cs σ) : Rel K cad as R H (sl.set i none) cs σ := by
  refine ⟨by rw [List.length_set, r.len], fun j u e => ?_, r.cells⟩
  by_cases hj : i = j
  · subst hj
    by_cases hi : i < sl.length
    · rw [List.getElem?_set_self hi] at e
      cases e
    · rw [List.getElem?_eq_none (by rw [List.length_set]; omega)] at e
      cases e
  · rw [List.getElem?_set_ne hj] at e
    exact r.sl j u e
theorem Rel.unset2 {i : Nat} (r : Rel K cad as R H sl cs σ) : Rel K cad as R H (sl.set i none) cs (σ.set i none) := by
  refine ⟨by rw [List.length_set, List.length_set, r.len], fun j u e => ?_, r.cells⟩
  by_cases hj : i = j
  · subst hj
    by_cases hi : i < sl.length
    · rw [List.getElem?_set_self hi] at e
      cases e
    · rw [List.getElem?_eq_none (by rw [List.length_set]; omega)] at e
      cases e
  · rw [List.getElem?_set_ne hj] at e
    rw [List.getElem?_set_ne hj]
    exact r.sl j u e
theorem Rel.wipe {vs : List Nat} (r : Rel K cad as R H sl cs σ) : Rel K cad as R H (wipeS sl vs) cs (L2.wipe σ vs) := by
  refine ⟨by rw [L2.wipe_length, wipeS_len, r.len], fun j u e => ?_, r.cells⟩
  obtain ⟨e1, hj⟩ := wipeS_some e
  obtain ⟨v, e2, h⟩ := r.sl j u e1
  exact ⟨v, by rw [wipe_get, if_neg hj]; exact e2, h⟩
end
/-! ### targets -/
mutual
def gT (K : PySem.W.Frag) : Tg → TG
  | .n i => gName i
  | .t ts => gTup K ts.length (gTs K ts)
def gTs (K : PySem.W.Frag) : List Tg → TGs
  | [] => gNil
  | t :: ts => gCons (gT K t) (gTs K ts)
end
section
variable {K : PySem.W.Frag} {cad : Nat → Addr} {as : AS} {R : List Addr} {H : Hp} {cs : List M}
theorem bindTs_len {sl' : Sl} : ∀ (ts : List Tg) (ds : List D) (sl : Sl), bindTs ts ds sl = some sl' → ts.length = ds.length
  | [], [], _, _ => rfl
  | [], _ :: _, _, e => by cases (show none = some sl' from e)
  | _ :: _, [], _, e => by cases (show none = some sl' from e)
  | t :: ts, d :: ds, sl, e => by
    have e : (match bindT t (.d d) sl with | some sl => bindTs ts ds sl | none => none) = some sl' := e
    cases e1 : bindT t (.d d) sl with
    | none => rw [e1] at e; cases e
    | some sl1 =>
      rw [e1] at e
      rw [List.length_cons, List.length_cons, bindTs_len ts ds sl1 e]
mutual
theorem gT_ok : ∀ (t : Tg) {x : V} {σ : L2.St} {Q : L2.St → Hp → Prop} {w : PD.W} {sl sl' : Sl}, Rel K cad as R H sl cs σ → IsW K cad as R H w x →
    bindT t w sl = some sl' → (∀ σ', Rel K cad as R H sl' cs σ' → (∀ own : List Nat, tgIn t own = true → wipe σ' own = wipe σ own) → Q σ' H) → gT K t x σ H Q
  | .n i, x, σ, Q, w, sl, sl', rel, iw, hb, h => by
    have hb : (if i < sl.length then some (sl.set i (some w)) else none) = some sl' := hb
    by_cases hl : i < sl.length
    · rw [if_pos hl] at hb
      cases hb
      exact h _ (rel.set hl iw) fun own ho => wipe_set (by simpa [tgIn] using ho)
    · rw [if_neg hl] at hb
      cases hb
  | .t ts, x, σ, Q, .c _, sl, sl', rel, iw, hb, h => absurd (show none = some sl' from hb) (fun z => nomatch z)
  | .t ts, x, σ, Q, .d dd, sl, sl', rel, iw, hb, h => by
    cases dd with
    | tup ds =>
      have hb : bindTs ts ds sl = some sl' := hb
      obtain ⟨a, xs, rfl, ht, hd⟩ := iw
      exact ⟨a, xs, rfl, ht.sq, by rw [← hd.length, ← bindTs_len ts ds sl hb], gTs_ok ts rel hd hb h⟩
    | _ => exact absurd (show none = some sl' from hb) (fun z => nomatch z)
theorem gTs_ok : ∀ (ts : List Tg) {xs : List V} {σ : L2.St} {Q : L2.St → Hp → Prop} {ds : List D} {sl sl' : Sl}, Rel K cad as R H sl cs σ → IsDs K cad H (Av as R) ds xs →
    bindTs ts ds sl = some sl' → (∀ σ', Rel K cad as R H sl' cs σ' → (∀ own : List Nat, tgsIn ts own = true → wipe σ' own = wipe σ own) → Q σ' H) → gTs K ts xs σ H Q
  | [], xs, σ, Q, ds, sl, sl', rel, iw, hb, h => by
    cases ds with
    | nil =>
      have hb : some sl = some sl' := hb
      cases hb
      exact ⟨iw, h σ rel fun _ _ => rfl⟩
    | cons _ _ => exact absurd (show none = some sl' from hb) (fun z => nomatch z)
  | t :: ts, xs, σ, Q, ds, sl, sl', rel, iw, hb, h => by
    cases ds with
    | nil => exact absurd (show none = some sl' from hb) (fun z => nomatch z)
    | cons d ds =>
      obtain ⟨x, r, rfl, i1, i2⟩ := iw
      have hb : (match bindT t (.d d) sl with | some sl => bindTs ts ds sl | none => none) = some sl' := hb
      cases e1 : bindT t (.d d) sl with
      | none => rw [e1] at hb; cases hb
      | some sl1 =>
        rw [e1] at hb
        refine ⟨x, r, rfl, gT_ok t (w := .d d) rel i1 e1 fun σ1 rel1 w1 => ?_⟩
        refine gTs_ok ts rel1 i2 hb fun σ2 rel2 w2 => h σ2 rel2 fun own ho => ?_
        rw [show tgsIn (t :: ts) own = (tgIn t own && tgsIn ts own) from rfl, Bool.and_eq_true] at ho
        rw [w2 own ho.2, w1 own ho.1]
end
end
section
variable {G : Pg} {Φ : Nat → List PD.W → List M → Rs PD.W} {cad : Nat → Addr} {X : Cx} {K : PySem.W.Frag} {pos : Pos}
def SG (X : Cx) (t : Tg) (tg : Expr) : Prop := PG X tg (gT X.K t)
def SGs (X : Cx) (ts : List Tg) (tgs : List Expr) : Prop := PGs X tgs (gTs X.K ts)
theorem g_name {i : Nat} {x : Str} (hN : X.N.Nodup) (hi : X.N[i]? = some x) (hx : Loc X.env.scope x) (hf : X.fn x = true ∨ X.env.scope.names.lookup x = some .local) : SG X (.n i) (.Name x pos) := pg_name hN hi hx hf
theorem gs_nil : SGs X [] [] := pgs_nil
theorem assignEach_cons {e : Expr} {es : List Expr} (h : notStar e = true) : assignEach (e :: es) X.env = (false, assign e X.env) :: assignEach es X.env := by
  cases e <;> first | rfl | cases h
theorem gs_cons {t : Tg} {ts : List Tg} {e : Expr} {es : List Expr} (hs : notStar e = true) (h1 : SG X t e) (h2 : SGs X ts es) : SGs X (t :: ts) (e :: es) := pgs_cons h1 h2 (by rw [assignEach_cons hs]; rfl)
theorem g_tup {ts : List Tg} {es : List Expr} {k : Nat} (hc : X.calm = true) (hs : es.all notStar = true) (hl : es.length = ts.length) (h : SGs X ts es) : SG X (.t ts) (.Tuple es k pos) := by
  have al : ∀ es : List Expr, es.all notStar = true → (assignEach es X.env).length = es.length ∧ (assignEach es X.env).findIdx? (·.1) = none := fun es => by
    induction es with
    | nil => exact fun _ => ⟨rfl, rfl⟩
    | cons e es ih =>
      intro hs
      rw [List.all_cons, Bool.and_eq_true] at hs
      obtain ⟨i1, i2⟩ := ih hs.2
      rw [assignEach_cons hs.1]
      exact ⟨by rw [List.length_cons, i1, List.length_cons], by rw [List.findIdx?_cons]; simp [i2]⟩
  exact pg_tup hc h (by rw [(al es hs).1, hl]) (al es hs).2
/-! ### what is walked -/
def WkD (K : PySem.W.Frag) (cad : Nat → Addr) (H : Hp) (F : List Addr) (J : It) (ds : List D) : Prop := ∃ Gd Y, Walk J ds.length Gd Y ∧ ∀ H' F', Kp H F H' F' → (∀ a ∈ F', ∃ u, H' a = some u) →
  Gd H' ∧ ∀ i x H2, Y i H' x H2 → Same H' H2 ∧ ∃ d, ds[i]? = some d ∧ IsD K cad H2 F' d x
abbrev rJ (K : PySem.W.Frag) (cad : Nat → Addr) : AS → List Addr → Hp → List D → It → Prop := fun as R H ds J => ds.length ≤ LIM ∧ WkD K cad H (Av as R) J ds
abbrev liftI (K : PySem.W.Frag) (cad : Nat → Addr) (W : WX) (g : Sl → List M → Rs (List D)) : TI := liftR K cad (rJ K cad) W g
def evI (G : Pg) (Φ : Nat → List PD.W → List M → Rs PD.W) (k : IK) (its : List E) (sl : Sl) (cs : List M) : Rs (List D) := (evEs G Φ its sl cs).bind fun ws cs => Rs.ofO ((dats ws).bind (items k)) cs
def SI (G : Pg) (Φ : Nat → List PD.W → List M → Rs PD.W) (cad : Nat → Addr) (X : Cx) (k : IK) (its : List E) (tg iter : Expr) : Prop := ∀ W, Takes X W → PI X tg iter (liftI X.K cad W (evI G Φ k its))
theorem pi_or {tg iter : Expr} {a b : TI} (h1 : PI X tg iter a) (h2 : PI X tg iter b) : PI X tg iter (fun σ H R => a σ H R ∨ b σ H R) := ⟨fun pins s σ H R I h => h.elim (h1.run pins s σ H R I) (h2.run pins s σ H R I)⟩
theorem _root_.L2.PI.imp {X : Cx} {tg iter : Expr} {t t' : TI} (h : PI X tg iter t) (i : ∀ σ H Q, t' σ H Q → t σ H Q) : PI X tg iter t' := ⟨fun pins s σ H Q I q => h.run pins s σ H Q I (i _ _ _ q)⟩
theorem wk_lst {H : Hp} {F : List Addr} {a : Addr} {xs : List V} {ds : List D} (hl : LstF K H F a xs) (hd : IsDs K cad H F ds xs) : WkD K cad H F (Itl K a) ds := by
  refine ⟨fun H => SqL K H a xs, YAt xs, by rw [hd.length]; exact walk_list, fun H' F' kp _ => ⟨?_, fun i x H2 y => ?_⟩⟩
  · rcases hl with ⟨h1, h2⟩ | h
    · exact .inl (kp.rd h1 h2).2
    · exact .inr h
  · obtain ⟨rfl, e⟩ := y
    exact ⟨Same.refl _, IsDs.getV (hd.mono kp) e⟩
theorem wk_tup {H : Hp} {F : List Addr} {a : Addr} {xs : List V} {ds : List D} (hl : TupF K H F a xs) (hd : IsDs K cad H F ds xs) : WkD K cad H F (Itt K a) ds := by
  refine ⟨fun H => SqT K H a xs, YAt xs, by rw [hd.length]; exact walk_tup, fun H' F' kp _ => ⟨?_, fun i x H2 y => ?_⟩⟩
  · rcases hl with ⟨h1, h2⟩ | h
    · exact .inl (kp.rd h1 h2).2
    · exact .inr h
  · obtain ⟨rfl, e⟩ := y
    exact ⟨Same.refl _, IsDs.getV (hd.mono kp) e⟩
theorem wk_str {H : Hp} {F : List Addr} {z : Str} : WkD K cad H F (Its z) (z.cps.toList.map fun c => .str ⟨#[c]⟩) := by
  refine ⟨_, _, by rw [List.length_map, Array.length_toList]; exact walk_str, fun H' F' kp _ => ⟨trivial, fun i x H2 y => ?_⟩⟩
  obtain ⟨rfl, c, e, rfl⟩ := y
  exact ⟨Same.refl _, .str ⟨#[c]⟩, by rw [List.getElem?_map, Array.getElem?_toList, e]; rfl, rfl⟩
theorem wk_range {H : Hp} {F : List Addr} {lo : Int} {n : Nat} : WkD K cad H F (Itr lo n) (rangeD lo n) := by
  have w : Walk (Itr lo n) n (fun _ => True) (fun i H x H' => i < n ∧ H' = H ∧ x = .int (lo + i)) := ⟨fun _ _ hi _ => hi, fun _ _ => Nat.le_refl _, fun i H x H' hi _ y => ⟨hi, y⟩⟩
  refine ⟨_, _, by unfold rangeD; rw [List.length_map, List.length_range]; exact w, fun H' F' kp _ => ⟨trivial, fun i x H2 y => ?_⟩⟩
  obtain ⟨hi, rfl, rfl⟩ := y
  exact ⟨Same.refl _, .int (lo + i), by unfold rangeD; rw [List.getElem?_map, List.getElem?_range hi]; rfl, rfl⟩
theorem zipD_len : ∀ xs ys : List D, (zipD xs ys).length = min xs.length ys.length
  | [], ys => by cases ys <;> simp [zipD]
  | x :: xs, [] => by simp [zipD]
  | x :: xs, y :: ys => by simp only [zipD, List.length_cons, zipD_len xs ys]; omega
theorem zipD_get : ∀ (xs ys : List D) (i : Nat) (a b : D), xs[i]? = some a → ys[i]? = some b → (zipD xs ys)[i]? = some (.tup [a, b])
  | [], _, i, _, _, h, _ => by simp at h
  | x :: xs, [], i, _, _, _, h => by simp at h
  | x :: xs, y :: ys, 0, a, b, h1, h2 => by
    simp at h1 h2
    subst h1 h2
    rfl
  | x :: xs, y :: ys, i + 1, a, b, h1, h2 => by
    simp only [zipD, List.getElem?_cons_succ] at h1 h2 ⊢
    exact zipD_get xs ys i a b h1 h2
theorem pair_new {H' : Hp} {F' : List Addr} {T : Addr} {x y : V} {d e : D} (hF : ∀ a ∈ F', ∃ u, H' a = some u) (hT : H' T = none) (h1 : IsD K cad H' F' d x) (h2 : IsD K cad H' F' e y) : IsD K cad (upd H' T (.tup [x, y])) F' (.tup [d, e]) (.ref T) :=
  new_tup hF hT ⟨x, [y], rfl, h1, y, [], rfl, h2, rfl⟩
theorem wk_zip {H : Hp} {F : List Addr} {a b : Addr} {xs ys : List V} {ds es : List D} (hl : LstF K H F a xs) (hd : IsDs K cad H F ds xs) (hl2 : LstF K H F b ys) (hd2 : IsDs K cad H F es ys) : WkD K cad H F (Itz K a b) (zipD ds es) := by
  refine ⟨fun H => SqL K H a xs ∧ SqL K H b ys, _, walk_zip (by rw [zipD_len, hd.length, hd2.length]), fun H' F' kp hF => ⟨?_, fun i x H2 y => ?_⟩⟩
  · refine ⟨?_, ?_⟩
    · rcases hl with ⟨h1, h2⟩ | h
      · exact .inl (kp.rd h1 h2).2
      · exact .inr h
    · rcases hl2 with ⟨h1, h2⟩ | h
      · exact .inl (kp.rd h1 h2).2
      · exact .inr h
  · obtain ⟨T, x, z, rfl, h2, rfl, e1, e2⟩ := y
    obtain ⟨d, q1, i1⟩ := IsDs.getV (hd.mono kp) e1
    obtain ⟨e, q2, i2⟩ := IsDs.getV (hd2.mono kp) e2
    exact ⟨same_upd h2, .tup [d, e], zipD_get _ _ _ _ _ q1 q2, pair_new hF h2 i1 i2⟩
theorem enumD_len : ∀ (xs : List D) (n : Nat), (enumD n xs).length = xs.length
  | [], _ => rfl
  | x :: xs, n => by simp only [enumD, List.length_cons, enumD_len xs]
theorem enumD_get : ∀ (xs : List D) (n i : Nat) (a : D), xs[i]? = some a → (enumD n xs)[i]? = some (.tup [.int ((n + i : Nat) : Int), a])
  | [], _, i, _, h => by simp at h
  | x :: xs, n, 0, a, h => by
    simp at h
    subst h
    rfl
  | x :: xs, n, i + 1, a, h => by
    simp only [enumD, List.getElem?_cons_succ] at h ⊢
    rw [enumD_get xs (n + 1) i a h, show n + 1 + i = n + (i + 1) from by omega]
theorem wk_enum {H : Hp} {F : List Addr} {a : Addr} {xs : List V} {ds : List D} (hl : LstF K H F a xs) (hd : IsDs K cad H F ds xs) : WkD K cad H F (Ite K a) (enumD 0 ds) := by
  refine ⟨fun H => SqL K H a xs, _, by rw [enumD_len, hd.length]; exact walk_enum, fun H' F' kp hF => ⟨?_, fun i x H2 y => ?_⟩⟩
  · rcases hl with ⟨h1, h2⟩ | h
    · exact .inl (kp.rd h1 h2).2
    · exact .inr h
  · obtain ⟨T, x, z, rfl, h2, rfl, e1, e2⟩ := y
    cases e1
    obtain ⟨e, q2, i2⟩ := IsDs.getV (hd.mono kp) e2
    refine ⟨same_upd h2, .tup [.int ((0 + i : Nat) : Int), e], enumD_get _ _ _ _ q2, pair_new hF h2 ?_ i2⟩
    show V.int (i : Nat) = .int ((0 + i : Nat) : Int)
    rw [Nat.zero_add]
variable {tg a b : Expr} {da db : E}
/-- no list is longer than the line -/
def Short (K : PySem.W.Frag) (H : Hp) : Prop := ∀ p xs, SqL K H p xs ∨ SqT K H p xs → xs.length ≤ LIM
theorem inv_short {pins : List (Addr × Obj)} {σ : L2.St} {H : Hp} {s : Shared} (I : Inv X pins σ H s) : Short X.K H := fun p xs h => by
  rw [lim_eq]
  rcases h with h | h
  · obtain ⟨_, _, _, z⟩ := I.list h
    exact z
  · obtain ⟨_, _, _, z⟩ := I.tuple h
    exact z
theorem pe_len {e : Expr} {t : TE} (h : PE X e t) : PE X e (fun σ H Q => t σ H fun x H1 => Short X.K H1 → Q x H1) := ⟨fun pins s σ H Q I q => thn (h.run pins s σ H _ I q) fun u s' ⟨v, H', I', r, q⟩ => ⟨v, H', I', r, q (inv_short I')⟩⟩
theorem pa_len {es : List Expr} {t : TA} (h : PA X es t) : PA X es (fun σ H Q => t σ H fun x H1 => Short X.K H1 → Q x H1) := ⟨fun pos pins s σ H Q I q => thn (h.run pos pins s σ H _ I q) fun u s' ⟨v, H', I', r, q⟩ => ⟨v, H', I', r, q (inv_short I')⟩⟩
theorem i_seq (ha : SE G Φ cad X da a) : SI G Φ cad X .seq [da] tg a := fun W tk =>
  (pi_or (pi_list (pe_len (ha W tk))) (pi_tup (pe_len (ha W tk)))).imp fun σ H Q ⟨sl, cs, as, R, rel, p⟩ => by
    have p : Post X.K cad (rJ X.K cad) W σ as R H Q (((evE G Φ da sl cs).bind fun w cs => (Rs.ok [] cs).bind fun ws cs => Rs.ok (w :: ws) cs).bind fun ws cs => Rs.ofO ((dats ws).bind (items .seq)) cs) := p
    cases e : evE G Φ da sl cs with
    | stuck => rw [e] at p; exact p.elim
    | ex C ks vs cs1 =>
      rw [e] at p
      exact .inl ⟨sl, cs, as, R, rel, by rw [e]; exact p⟩
    | ok w cs1 =>
      rw [e] at p
      have p : Post X.K cad (rJ X.K cad) W σ as R H Q (Rs.ofO ((dats [w]).bind (items .seq)) cs1) := p
      match w, p, e with
      | .d (.lst ds), p, e =>
        refine .inl ⟨sl, cs, as, R, rel, ?_⟩
        rw [e]
        intro x H1 as1 ext c i sh
        obtain ⟨a, xs, rfl, hl, hd⟩ := i
        exact ⟨a, rfl, ⟨xs, hl.sq⟩, p _ H1 as1 ext c ⟨by rw [hd.length]; exact sh a xs (.inl hl.sq), wk_lst hl hd⟩⟩
      | .d (.tup ds), p, e =>
        refine .inr ⟨sl, cs, as, R, rel, ?_⟩
        rw [e]
        intro x H1 as1 ext c i sh
        obtain ⟨a, xs, rfl, hl, hd⟩ := i
        exact ⟨a, rfl, ⟨xs, hl.sq⟩, p _ H1 as1 ext c ⟨by rw [hd.length]; exact sh a xs (.inr hl.sq), wk_tup hl hd⟩⟩
      | .d .non, p, _ => exact p.elim
      | .d (.bl _), p, _ => exact p.elim
      | .d (.int _), p, _ => exact p.elim
      | .d (.str _), p, _ => exact p.elim
      | .d (.dct _ _), p, _ => exact p.elim
      | .d (.obj _ _ _), p, _ => exact p.elim
      | .d (.exc _ _ _), p, _ => exact p.elim
      | .c _, p, _ => exact p.elim
theorem i_str (ha : SE G Φ cad X da a) : SI G Φ cad X .str [da] tg a := fun W tk =>
  (pi_str (ha W tk)).imp fun σ H Q ⟨sl, cs, as, R, rel, p⟩ => by
    have p : Post X.K cad (rJ X.K cad) W σ as R H Q (((evE G Φ da sl cs).bind fun w cs => (Rs.ok [] cs).bind fun ws cs => Rs.ok (w :: ws) cs).bind fun ws cs => Rs.ofO ((dats ws).bind (items .str)) cs) := p
    refine ⟨sl, cs, as, R, rel, ?_⟩
    cases e : evE G Φ da sl cs with
    | stuck => rw [e] at p; exact p.elim
    | ex C ks vs cs1 =>
      rw [e] at p
      exact p
    | ok w cs1 =>
      rw [e] at p
      have p : Post X.K cad (rJ X.K cad) W σ as R H Q (Rs.ofO ((dats [w]).bind (items .str)) cs1) := p
      match w, p with
      | .d (.str z), p =>
        have p : Post X.K cad (rJ X.K cad) W σ as R H Q (Rs.ofO (if z.length ≤ LIM then some (z.cps.toList.map fun c => .str ⟨#[c]⟩) else none) cs1) := p
        by_cases hz : z.length ≤ LIM
        · rw [if_pos hz] at p
          exact fun x H1 as1 ext c i => ⟨z, i, p _ H1 as1 ext c ⟨by rw [List.length_map, Array.length_toList]; exact hz, wk_str⟩⟩
        · rw [if_neg hz] at p
          exact p.elim
      | .d (.lst _), p => exact p.elim
      | .d (.tup _), p => exact p.elim
      | .d .non, p => exact p.elim
      | .d (.bl _), p => exact p.elim
      | .d (.int _), p => exact p.elim
      | .d (.dct _ _), p => exact p.elim
      | .d (.obj _ _ _), p => exact p.elim
      | .d (.exc _ _ _), p => exact p.elim
      | .c _, p => exact p.elim
/-- what two operands' values must be -/
theorem lift_I {W : WX} {k : IK} {its : List E} {σ : L2.St} {H : Hp} {R : It → Hp → Prop} (h : liftI K cad W (evI G Φ k its) σ H R) :
    liftA K cad W (evEs G Φ its) σ H fun vs H1 => ∃ as R0 ds' ds, (∀ a ∈ Av as R0, ∃ u, H1 a = some u) ∧ IsDs K cad H1 (Av as R0) ds' vs ∧ items k ds' = some ds ∧ ∀ J, ds.length ≤ LIM → WkD K cad H1 (Av as R0) J ds → R J H1 :=
  lift_mono (lift_bind0 (IsA := rWs K cad) (IsB := rJ K cad) (g := evEs G Φ its) (f := fun _ ws cs => Rs.ofO ((dats ws).bind (items k)) cs) h) fun vs H1 ⟨sl, cs, as, R0, ws, rel, iw, p⟩ => by
    cases e : dats ws with
    | none => rw [e] at p; exact p.elim
    | some ds' =>
      rw [e] at p
      have p : Post K cad (rJ K cad) W σ as R0 H1 R (Rs.ofO (items k ds') cs) := p
      cases e2 : items k ds' with
      | none => rw [e2] at p; exact p.elim
      | some ds =>
        rw [e2] at p
        exact ⟨as, R0, ds', ds, rel.cells.hF, iw.dats e, e2, fun J hl hj => p J H1 as Ext.refl rel.cells ⟨hl, hj⟩⟩
theorem i_range1 {p : Pos} (hg : Gl X "range") (hm : X.mg "range" = none) (ha : SA G Φ cad X [da] [a]) (hs : notStar a = true) : SI G Φ cad X .range1 [da] tg (.Call (.Name "range" p) [a] [] pos) := fun W tk =>
  (pi_range1 hg hm (ha W tk) (star_of hs)).imp fun σ H Q h => lift_mono (lift_I h) fun vs H1 ⟨as, R0, ds', ds, hF, hd, e, q⟩ => by
    have main : ∀ n, IsDs X.K cad H1 (Av as R0) [.int n] vs → items .range1 [.int n] = some ds → ∃ j : Int, vs = [.int j] ∧ -(2 ^ 62) ≤ j ∧ j < 2 ^ 62 ∧ Q (Itr 0 j.toNat) H1 := fun n hd e => by
      obtain ⟨x, r, rfl, rfl, rfl⟩ := hd
      have e : (if -(2 ^ 62) ≤ n ∧ n.toNat ≤ LIM then some (rangeD 0 n.toNat) else none) = some ds := e
      by_cases hn : -(2 ^ 62) ≤ n ∧ n.toNat ≤ LIM
      · rw [if_pos hn] at e
        cases e
        have h2 := hn.2
        unfold LIM at h2
        exact ⟨n, rfl, hn.1, by omega, q _ (by unfold rangeD; rw [List.length_map, List.length_range]; exact hn.2) wk_range⟩
      · rw [if_neg hn] at e
        cases e
    rcases ds' with _ | ⟨d, _ | ⟨_, _⟩⟩
    · cases e
    · cases d with
      | int n => exact main n hd e
      | _ => cases e
    · cases d <;> cases e
theorem i_range2 {p : Pos} (hg : Gl X "range") (hm : X.mg "range" = none) (ha : SA G Φ cad X [da, db] [a, b]) (hs : notStar a = true) (hs2 : notStar b = true) : SI G Φ cad X .range2 [da, db] tg (.Call (.Name "range" p) [a, b] [] pos) := fun W tk =>
  (pi_range2 hg hm (ha W tk) (by rw [star_of hs, star_of hs2]; rfl) (star_of hs2)).imp fun σ H Q h => lift_mono (lift_I h) fun vs H1 ⟨as, R0, ds', ds, hF, hd, e, q⟩ => by
    have main : ∀ n m, IsDs X.K cad H1 (Av as R0) [.int n, .int m] vs → items .range2 [.int n, .int m] = some ds → ∃ i j : Int, vs = [.int i, .int j] ∧ (-(2 ^ 62) ≤ i ∧ i < 2 ^ 62 ∧ -(2 ^ 62) ≤ j ∧ j < 2 ^ 62) ∧ Q (Itr i (j - i).toNat) H1 := fun n m hd e => by
      obtain ⟨x, r, rfl, rfl, y, r, rfl, rfl, rfl⟩ := hd
      have e : (if -(2 ^ 62) ≤ n ∧ n < 2 ^ 62 ∧ -(2 ^ 62) ≤ m ∧ m < 2 ^ 62 ∧ (m - n).toNat ≤ LIM then some (rangeD n (m - n).toNat) else none) = some ds := e
      by_cases hn : -(2 ^ 62) ≤ n ∧ n < 2 ^ 62 ∧ -(2 ^ 62) ≤ m ∧ m < 2 ^ 62 ∧ (m - n).toNat ≤ LIM
      · rw [if_pos hn] at e
        cases e
        exact ⟨n, m, rfl, ⟨hn.1, hn.2.1, hn.2.2.1, hn.2.2.2.1⟩, q _ (by unfold rangeD; rw [List.length_map, List.length_range]; exact hn.2.2.2.2) wk_range⟩
      · rw [if_neg hn] at e
        cases e
    rcases ds' with _ | ⟨d, _ | ⟨f, _ | ⟨_, _⟩⟩⟩
    · cases e
    · cases d <;> cases e
    · cases d with
      | int n =>
        cases f with
        | int m => exact main n m hd e
        | _ => cases e
      | _ => cases e
    · cases d <;> first | (cases e; done) | (cases f <;> cases e)
theorem i_zip {p tpos : Pos} {elts : List Expr} {kk : Nat} (hg : Gl X "zip") (hm : X.mg "zip" = none) (ha : SA G Φ cad X [da, db] [a, b]) (hs : notStar a = true) (hs2 : notStar b = true) : SI G Φ cad X .zip [da, db] (.Tuple elts kk tpos) (.Call (.Name "zip" p) [a, b] [] pos) := fun W tk =>
  (pi_zip hg hm (pa_len (ha W tk)) (star_of hs) (by rw [star_of hs2]; rfl)).imp fun σ H Q h => lift_mono (lift_I h) fun vs H1 ⟨as, R0, ds', ds, hF, hd, e, q⟩ sh => by
    have main : ∀ n m, IsDs X.K cad H1 (Av as R0) [.lst n, .lst m] vs → items .zip [.lst n, .lst m] = some ds → ∃ a b xs ys, vs = [.ref a, .ref b] ∧ SqL X.K H1 a xs ∧ SqL X.K H1 b ys ∧ Q (Itz X.K a b) H1 := fun n m hd e => by
      obtain ⟨x, r, rfl, ⟨a, xs, rfl, hl, hd1⟩, y, r, rfl, ⟨b, ys, rfl, hl2, hd2⟩, rfl⟩ := hd
      cases (show some (zipD n m) = some ds from e)
      refine ⟨a, b, xs, ys, rfl, hl.sq, hl2.sq, q _ ?_ (wk_zip hl hd1 hl2 hd2)⟩
      have z := sh a xs (.inl hl.sq)
      rw [zipD_len, hd1.length]
      omega
    rcases ds' with _ | ⟨d, _ | ⟨f, _ | ⟨_, _⟩⟩⟩
    · cases e
    · cases d <;> cases e
    · cases d with
      | lst n =>
        cases f with
        | lst m => exact main n m hd e
        | _ => cases e
      | _ => cases e
    · cases d <;> first | (cases e; done) | (cases f <;> cases e)
theorem i_enum {p tpos : Pos} {elts : List Expr} {kk : Nat} (hg : Gl X "enumerate") (hm : X.mg "enumerate" = none) (ha : SA G Φ cad X [da] [a]) (hs : notStar a = true) : SI G Φ cad X .enum [da] (.Tuple elts kk tpos) (.Call (.Name "enumerate" p) [a] [] pos) := fun W tk =>
  (pi_enum hg hm (pa_len (ha W tk)) (star_of hs)).imp fun σ H Q h => lift_mono (lift_I h) fun vs H1 ⟨as, R0, ds', ds, hF, hd, e, q⟩ sh => by
    have main : ∀ n, IsDs X.K cad H1 (Av as R0) [.lst n] vs → items .enum [.lst n] = some ds → ∃ a xs, vs = [.ref a] ∧ SqL X.K H1 a xs ∧ Q (Ite X.K a) H1 := fun n hd e => by
      obtain ⟨x, r, rfl, ⟨a, xs, rfl, hl, hd1⟩, rfl⟩ := hd
      cases (show some (enumD 0 n) = some ds from e)
      exact ⟨a, xs, rfl, hl.sq, q _ (by rw [enumD_len, hd1.length]; exact sh a xs (.inl hl.sq)) (wk_enum hl hd1)⟩
    rcases ds' with _ | ⟨d, _ | ⟨_, _⟩⟩
    · cases e
    · cases d with
      | lst n => exact main n hd e
      | _ => cases e
    · cases d <;> cases e
end
end PD
set_option Elab.async false
set_option linter.all false
set_option maxRecDepth 100000
set_option maxHeartbeats 4000000
/-! PyD9: list comprehensions. -/
namespace PD
open PySem PySem.Spec PyProof.Rows L2
section
variable {K : PySem.W.Frag} {cad : Nat → Addr} {as as' : AS} {R R' : List Addr} {H H' : Hp} {sl : Sl} {cs cs' : List M} {σ : L2.St} {D0 : Addr}
theorem IsW.mono2 (x : Ext H as H' as') (kp : Kp H (Av as R) H' (Av as' R')) : ∀ {w : PD.W} {v : V}, IsW K cad as R H w v → IsW K cad as' R' H' w v
  | .d d, v, h => IsD.mono kp (d := d) h
  | .c i, v, h => ⟨Nat.lt_of_lt_of_le h.1 x.len, fun a e => h.2 a (x.old i a h.1 e)⟩
theorem Rel.mono2 (r : Rel K cad as R H sl cs σ) (x : Ext H as H' as') (kp : Kp H (Av as R) H' (Av as' R')) (c : Cells K cad as' R' H' cs') : Rel K cad as' R' H' sl cs' σ :=
  ⟨r.len, fun i w e => let ⟨v, e1, h⟩ := r.sl i w e; ⟨v, e1, h.mono2 x kp⟩, c⟩
theorem kp_in (h : H D0 = none) {o : HO} : Kp H (Av as R) (upd H D0 o) (Av as (D0 :: R)) := ⟨fun a u e _ => same_upd h a u e, fun a m => by
  rcases List.mem_append.mp m with m | m
  · exact .inl (List.mem_append_left _ m)
  · rcases List.mem_cons.mp m with m | m
    · rw [m]; exact .inr h
    · exact .inl (List.mem_append_right _ m)⟩
/-- a new object that the data may not touch -/
theorem Cells.enter (c : Cells K cad as R H cs) (h : H D0 = none) {o : HO} : Cells K cad as (D0 :: R) (upd H D0 o) cs ∧ Ext H as (upd H D0 o) as := by
  refine ⟨⟨c.len, c.inj, c.dead, fun i a m e1 e2 => (c.at_ i a m e1 e2).mono (kp_in h) fun u e => same_upd h a u e, fun a m z => ?_, fun a m => ?_⟩, Ext.same (same_upd h)⟩
  · rcases List.mem_cons.mp z with z | z
    · obtain ⟨u, q⟩ := live_there c m
      rw [z, h] at q
      cases q
    · exact c.apart a m z
  · rcases List.mem_cons.mp m with m | m
    · exact ⟨o, by rw [m, upd_same]⟩
    · obtain ⟨u, q⟩ := c.rl a m
      exact ⟨u, same_upd h a u q⟩
theorem kp_wr {F : List Addr} (hD : D0 ∈ F) {o : HO} : Kp H F (upd H D0 o) F := ⟨fun a u e m => by rw [upd_ne (fun z => m (by rw [z]; exact hD))]; exact e, fun _ m => .inl m⟩
/-- it is written -/
theorem Cells.writeR (c : Cells K cad as R H cs) (hD : D0 ∈ R) {o : HO} : Cells K cad as R (upd H D0 o) cs := by
  refine ⟨c.len, c.inj, c.dead, fun i a m e1 e2 => (c.at_ i a m e1 e2).mono (kp_wr (List.mem_append_right _ hD)) fun u e => ?_, c.apart, fun a m => ?_⟩
  · rw [upd_ne (fun z => c.apart a (mem_live.mpr ⟨i, e1⟩) (by rw [z]; exact hD))]
    exact e
  · by_cases z : a = D0
    · exact ⟨o, by rw [z, upd_same]⟩
    · obtain ⟨u, q⟩ := c.rl a m
      exact ⟨u, by rw [upd_ne z]; exact q⟩
theorem kp_leave : Kp H (Av as (D0 :: R)) H (Av as R) := kp_sub fun a m => by
  rcases List.mem_append.mp m with m | m
  · exact List.mem_append_left _ m
  · exact List.mem_append_right _ (List.mem_cons_of_mem _ m)
theorem Cells.leave (c : Cells K cad as (D0 :: R) H cs) : Cells K cad as R H cs :=
  ⟨c.len, c.inj, c.dead, fun i a m e1 e2 => (c.at_ i a m e1 e2).mono kp_leave fun _ e => e, fun a m z => c.apart a m (List.mem_cons_of_mem _ z), fun a m => c.rl a (List.mem_cons_of_mem _ m)⟩
theorem av_adopt {a : Addr} : a ∈ Av (as ++ [some D0]) R → a ∈ Av as (D0 :: R) := fun m => by
  rcases List.mem_append.mp m with m | m
  · obtain ⟨i, e⟩ := mem_live.mp m
    by_cases hi : i < as.length
    · rw [List.getElem?_append_left hi] at e
      exact List.mem_append_left _ (mem_live.mpr ⟨i, e⟩)
    · rw [List.getElem?_append_right (by omega)] at e
      have h0 : i - as.length = 0 := by
        have := lt_of_get e
        simp at this
        omega
      rw [h0] at e
      cases e
      exact List.mem_append_right _ List.mem_cons_self
  · exact List.mem_append_right _ (List.mem_cons_of_mem _ m)
/-- it becomes a mutable object -/
theorem Cells.adopt {xs : List V} {ds : List D} (c : Cells K cad as (D0 :: R) H cs) (hn : D0 ∉ R) (e : H D0 = some (.lst xs)) (h : IsDs K cad H (Av as (D0 :: R)) ds xs) :
    Cells K cad (as ++ [some D0]) R H (cs ++ [.lst ds]) ∧ IsW K cad (as ++ [some D0]) R H (.c cs.length) (.ref D0) := by
  have kp : Kp H (Av as (D0 :: R)) H (Av (as ++ [some D0]) R) := kp_sub fun a m => av_adopt m
  have cut : ∀ i a, (as ++ [some D0])[i]? = some (some a) → (i < as.length ∧ as[i]? = some (some a)) ∨ (i = as.length ∧ a = D0) := fun i a e => by
    by_cases hi : i < as.length
    · rw [List.getElem?_append_left hi] at e
      exact .inl ⟨hi, e⟩
    · rw [List.getElem?_append_right (by omega)] at e
      have h0 : i - as.length = 0 := by
        have := lt_of_get e
        simp at this
        omega
      rw [h0] at e
      cases e
      exact .inr ⟨by omega, rfl⟩
  refine ⟨⟨by simp [c.len], fun i j a e1 e2 => ?_, fun i q => ?_, fun i a m e1 e2 => ?_, fun a m z => ?_, fun a m => c.rl a (List.mem_cons_of_mem _ m)⟩, ⟨by simp [c.len], fun a q => ?_⟩⟩
  · rcases cut i a e1 with ⟨_, q1⟩ | ⟨q1, z1⟩
    · rcases cut j a e2 with ⟨_, q2⟩ | ⟨q2, z2⟩
      · exact c.inj i j a q1 q2
      · exact absurd List.mem_cons_self (z2 ▸ c.apart a (mem_live.mpr ⟨i, q1⟩))
    · rcases cut j a e2 with ⟨_, q2⟩ | ⟨q2, z2⟩
      · exact absurd List.mem_cons_self (z1 ▸ c.apart a (mem_live.mpr ⟨j, q2⟩))
      · omega
  · by_cases hi : i < as.length
    · rw [List.getElem?_append_left hi] at q
      rw [List.getElem?_append_left (by rw [← c.len]; exact hi)]
      exact c.dead i q
    · rw [List.getElem?_append_right (by omega)] at q
      have h0 : i - as.length = 0 := by
        have := lt_of_get q
        simp at this
        omega
      rw [h0] at q
      cases q
  · rcases cut i a e1 with ⟨hi, q1⟩ | ⟨q1, z1⟩
    · rw [List.getElem?_append_left (by rw [← c.len]; exact hi)] at e2
      exact (c.at_ i a m q1 e2).mono kp fun _ e => e
    · subst q1
      subst z1
      rw [c.len, List.getElem?_append_right (Nat.le_refl _), Nat.sub_self] at e2
      cases e2
      exact ⟨xs, e, h.mono kp⟩
  · obtain ⟨i, q⟩ := mem_live.mp m
    rcases cut i a q with ⟨_, q1⟩ | ⟨_, z1⟩
    · exact c.apart a (mem_live.mpr ⟨i, q1⟩) (List.mem_cons_of_mem _ z)
    · exact hn (z1 ▸ z)
  · rw [← c.len] at q
    rcases cut _ a q with ⟨hi, _⟩ | ⟨_, z⟩
    · omega
    · rw [z]
end
/-! ### a clause's tests -/
section
variable {G : Pg} {Φ : Nat → List PD.W → List M → Rs PD.W} {cad : Nat → Addr} {X : Cx} {K : PySem.W.Frag} {pos : Pos}
def SC (G : Pg) (Φ : Nat → List PD.W → List M → Rs PD.W) (cad : Nat → Addr) (X : Cx) (ds : List E) (es : List Expr) : Prop := ∀ W, Takes X W → PTs X es (liftT X.K cad W (evC G Φ ds))
theorem _root_.L2.PTs.imp {X : Cx} {e : List Expr} {t t' : TT} (h : PTs X e t) (i : ∀ σ H Q, t' σ H Q → t σ H Q) : PTs X e t' := ⟨fun pins s σ H Q I q => h.run pins s σ H Q I (i _ _ _ q)⟩
theorem c_nil : SC G Φ cad X [] [] := fun W tk => pts_nil.imp fun σ H Q ⟨sl, cs, as, R, rel, p⟩ => (show Post X.K cad rB W σ as R H Q (.ok true cs) from p) true H as Ext.refl rel.cells rfl
theorem evC1 (a : E) (sl : Sl) (cs : List M) : evC G Φ [a] sl cs = evT G Φ a sl cs := by
  show (evE G Φ a sl cs).bind _ = (evE G Φ a sl cs).bind _
  cases evE G Φ a sl cs with
  | ok w cs1 =>
    show (match (pk w cs1).bind truth with | some true => Rs.ok true cs1 | some false => Rs.ok false cs1 | none => .stuck) = Rs.ofO ((pk w cs1).bind truth) cs1
    cases (pk w cs1).bind truth with
    | none => rfl
    | some b => cases b <;> rfl
  | _ => rfl
theorem c_one {a : Expr} {da : E} (h : ST G Φ cad X da a) : SC G Φ cad X [da] [a] := fun W tk => (pts_one (h W tk)).imp fun σ H Q ⟨sl, cs, as, R, rel, p⟩ => ⟨sl, cs, as, R, rel, by rw [← evC1]; exact p⟩
/-! ### [elt for t in iter if ..] -/
/-- a turn -/
def compF (G : Pg) (Φ : Nat → List PD.W → List M → Rs PD.W) (own : List Nat) (t : Tg) (conds : List E) (elt : E) (sl : Sl) (d : D) (cs : List M) : Rs (Option D) := match bindT t (.d d) (wipeS sl own) with
  | some sl' => (evC G Φ conds sl' cs).bind fun b cs => if b = true then (evE G Φ elt sl' cs).bind fun w cs => match w with
      | .d x => .ok (some x) cs
      | .c _ => .stuck
    else .ok none cs
  | none => .stuck
def compZ (mc : Bool) (ds : List D) (cs : List M) : Rs PD.W := if mc = true then .ok (.c cs.length) (cs ++ [.lst ds]) else .ok (.d (.lst ds)) cs
theorem ev_comp (mc : Bool) (own : List Nat) (t : Tg) (k : IK) (its conds : List E) (elt : E) (sl : Sl) (cs : List M) :
    evE G Φ (.comp mc own t k its conds elt) sl cs = (evI G Φ k its sl cs).bind fun ds cs => (compL (compF G Φ own t conds elt sl) ds [] cs).bind (compZ mc) := by
  show (evEs G Φ its sl cs).bind _ = ((evEs G Φ its sl cs).bind _).bind _
  cases evEs G Φ its sl cs with
  | ok ws cs1 =>
    show (match (dats ws).bind (items k) with | some ds => _ | none => .stuck) = (Rs.ofO ((dats ws).bind (items k)) cs1).bind _
    cases (dats ws).bind (items k) <;> rfl
  | _ => rfl
theorem compL_ok {f : D → List M → Rs (Option D)} : ∀ {ds acc : List D} {cs : List M}, compL f ds acc cs = .stuck ∨ ∃ z cs', compL f ds acc cs = .ok z cs'
  | [], acc, cs => .inr ⟨acc, cs, rfl⟩
  | d :: ds, acc, cs => by
    unfold compL
    cases f d cs with
    | ok o cs1 => exact compL_ok
    | ex _ _ _ _ => exact .inl rfl
    | stuck => exact .inl rfl
theorem wipe_wipe {σ : L2.St} {vs : List Nat} : wipe (wipe σ vs) vs = wipe σ vs := by
  apply List.ext_getElem?
  intro j
  rw [wipe_get, wipe_get, wipe_length]
  by_cases hj : j ∈ vs
  · rw [if_pos hj, if_pos hj]
  · rw [if_neg hj, if_neg hj]
abbrev W0 : WX := fun _ _ _ _ => False
theorem lift_comp {W : WX} {mc : Bool} {own : List Nat} {t : Tg} {k : IK} {its conds : List E} {elt : E} {σ : L2.St} {H : Hp} {Q : VK} (hown : tgIn t own = true) (h : liftE K cad W (evE G Φ (.comp mc own t k its conds elt)) σ H Q) :
    tLc (liftI K cad W (evI G Φ k its)) (gT K t) (liftT K cad W0 (evC G Φ conds)) (liftE K cad W0 (evE G Φ elt)) own σ H Q := by
  refine lift_mono (lift_bind0 (IsA := rJ K cad) (IsB := rW K cad) (g := evI G Φ k its) (f := fun sl ds cs => (compL (compF G Φ own t conds elt sl) ds [] cs).bind (compZ mc)) (lift_evG (ev_comp mc own t k its conds elt) h)) fun J H1 ⟨sl, cs1, as, R, ds, rel, ⟨hlen, Gd, Y, wk, hG⟩, p⟩ => ?_
  intro D0 hD
  rcases compL_ok (f := compF G Φ own t conds elt sl) (ds := ds) (acc := []) (cs := cs1) with er | ⟨dz, cz, er⟩
  · rw [er] at p
    exact p.elim
  rw [er] at p
  have p : Post K cad (rW K cad) W σ as R H1 Q (compZ mc dz cz) := p
  have hDR : D0 ∉ R := fun m => by
    obtain ⟨u, z⟩ := rel.cells.rl D0 m
    rw [hD] at z
    cases z
  have kpD : ∀ {H' as'}, Ext H1 as H' as' → Kp H1 (Av as R) H' (Av as' (D0 :: R)) := fun {H' as'} x => ⟨x.kp' (R := R).keep, fun a m => by
    rcases List.mem_append.mp m with m | m
    · rcases x.live m with z | z
      · exact .inl (List.mem_append_left _ z)
      · exact .inr z
    · rcases List.mem_cons.mp m with m | m
      · rw [m]; exact .inr hD
      · exact .inl (List.mem_append_right _ m)⟩
  refine lc_it wk (fun i H' => ∃ (cs' : List M) (as' : AS) (acc : List D) (xs : List V), Cells K cad as' (D0 :: R) H' cs' ∧ Ext H1 as H' as' ∧ H' D0 = some (.lst xs) ∧ IsDs K cad H' (Av as' (D0 :: R)) acc xs ∧ acc.length ≤ i ∧ compL (compF G Φ own t conds elt sl) (ds.drop i) acc cs' = .ok dz cz) ?_ ?_ ?_ ?_
  · obtain ⟨c2, x2⟩ := rel.cells.enter (o := .lst []) hD
    exact ⟨cs1, as, [], [], c2, x2, upd_same, rfl, Nat.le_refl _, er⟩
  · rintro i H' _ ⟨cs', as', acc, xs, c, x, e, hd, ha, q⟩
    exact (hG H' (Av as' (D0 :: R)) (kpD x) c.hF).1
  · rintro i x H' H2 hi ⟨cs', as', acc, xs, c, xt, e, hd, ha, q⟩ hy
    obtain ⟨sm, d, ed, id⟩ := (hG H' (Av as' (D0 :: R)) (kpD xt) c.hF).2 i x H2 hy
    have x2 : Ext H1 as H2 as' := xt.trans (Ext.same sm)
    have c2 : Cells K cad as' (D0 :: R) H2 cs' := c.same sm
    rw [List.drop_eq_getElem_cons hi] at q
    rw [List.getElem?_eq_getElem hi] at ed
    cases ed
    have q : (match compF G Φ own t conds elt sl ds[i] cs' with | .ok o cs => compL (compF G Φ own t conds elt sl) (ds.drop (i + 1)) (acc ++ o.toList) cs | _ => .stuck) = .ok dz cz := q
    unfold compF at q
    cases eb : bindT t (.d ds[i]) (wipeS sl own) with
    | none => rw [eb] at q; cases q
    | some sl' =>
      rw [eb] at q
      dsimp only at q
      have rel2 : Rel K cad as' (D0 :: R) H2 (wipeS sl own) cs' (wipe σ own) := (rel.mono2 x2 (kpD x2) c2).wipe
      refine gT_ok t (w := .d ds[i]) rel2 id eb fun σ2 rel3 hw => ⟨by rw [hw own hown, wipe_wipe], ?_⟩
      refine ⟨sl', cs', as', D0 :: R, rel3, ?_⟩
      cases ec : evC G Φ conds sl' cs' with
      | stuck => rw [ec] at q; cases q
      | ex C ks vs cs2 => rw [ec] at q; cases q
      | ok b cs2 =>
        rw [ec] at q
        intro b' H3 as3 x3 c3 eb'
        cases (show b = b' from eb')
        have e3 : H3 D0 = some (.lst xs) := x3.keep D0 _ (sm _ _ e) fun m => c2.apart D0 m List.mem_cons_self
        have hd3 : IsDs K cad H3 (Av as3 (D0 :: R)) acc xs := (hd.mono (Kp.same sm)).mono x3.kp'
        cases b with
        | false =>
          rw [if_neg (by decide)]
          have q : compL (compF G Φ own t conds elt sl) (ds.drop (i + 1)) (acc ++ []) cs2 = .ok dz cz := q
          rw [List.append_nil] at q
          exact ⟨cs2, as3, acc, xs, c3, x2.trans x3, e3, hd3, by omega, q⟩
        | true =>
          rw [if_pos rfl]
          refine ⟨sl', cs2, as3, D0 :: R, rel3.mono x3 c3, ?_⟩
          have q : (match ((evE G Φ elt sl' cs2).bind fun w cs => match w with | .d x => Rs.ok (some x) cs | .c _ => .stuck) with | .ok o cs => compL (compF G Φ own t conds elt sl) (ds.drop (i + 1)) (acc ++ o.toList) cs | _ => .stuck) = .ok dz cz := q
          cases ee : evE G Φ elt sl' cs2 with
          | stuck => rw [ee] at q; cases q
          | ex C ks vs cs2 => rw [ee] at q; cases q
          | ok w cs3 =>
            rw [ee] at q
            cases w with
            | c _ => cases q
            | d y =>
              intro v H4 as4 x4 c4 iv
              have e4 : H4 D0 = some (.lst xs) := x4.keep D0 _ e3 fun m => c3.apart D0 m List.mem_cons_self
              have hd4 : IsDs K cad H4 (Av as4 (D0 :: R)) acc xs := hd3.mono x4.kp'
              have q : compL (compF G Φ own t conds elt sl) (ds.drop (i + 1)) (acc ++ [y]) cs3 = .ok dz cz := q
              have hxl : xs.length < sizeLine := by
                rw [← hd4.length, ← lim_eq]
                omega
              have hm : D0 ∈ Av as4 (D0 :: R) := List.mem_append_right _ List.mem_cons_self
              refine ⟨xs, e4, hxl, cs3, as4, acc ++ [y], xs ++ [v], c4.writeR List.mem_cons_self, ?_, upd_same, (hd4.app (IsDs.one iv)).mono (kp_wr hm), by simp; omega, q⟩
              have xx := (x2.trans x3).trans x4
              refine ⟨xx.len, xx.old, xx.new, fun a o ea m => ?_, fun a o ea => ?_⟩
              · rw [upd_ne (fun z => by rw [z, hD] at ea; cases ea)]
                exact xx.keep a o ea m
              · by_cases z : a = D0
                · exact ⟨_, by rw [z, upd_same]⟩
                · obtain ⟨o', q'⟩ := xx.there a o ea
                  exact ⟨o', by rw [upd_ne z]; exact q'⟩
  · rintro H' ⟨cs', as', acc, xs, c, x, e, hd, ha, q⟩
    rw [List.drop_length] at q
    cases (show Rs.ok acc cs' = .ok dz cz from q)
    unfold compZ at p
    cases mc with
    | true =>
      rw [if_pos rfl] at p
      obtain ⟨c2, i2⟩ := c.adopt hDR e hd
      refine p (.ref D0) H' _ ?_ c2 i2
      refine ⟨by rw [List.length_append]; exact Nat.le_trans x.len (Nat.le_add_right _ _), fun i a hi ea => ?_, fun i a hi ea => ?_, x.keep, x.there⟩
      · rw [List.getElem?_append_left (Nat.lt_of_lt_of_le hi x.len)] at ea
        exact x.old i a hi ea
      · by_cases hi2 : i < as'.length
        · rw [List.getElem?_append_left hi2] at ea
          exact x.new i a hi ea
        · rw [List.getElem?_append_right (by omega)] at ea
          have h0 : i - as'.length = 0 := by
            have := lt_of_get ea
            simp at this
            omega
          rw [h0] at ea
          cases ea
          exact hD
    | false =>
      rw [if_neg (by decide)] at p
      refine p (.ref D0) H' as' x c.leave ⟨D0, xs, rfl, .inl ⟨fun m => ?_, .inl e⟩, hd.mono kp_leave⟩
      rcases List.mem_append.mp m with m | m
      · exact c.apart D0 m List.mem_cons_self
      · exact hDR m
theorem takesB {X : Cx} : Takes X W0 := takes0
section
variable {mc : Bool} {own : List (Str × Nat)} {t : Tg} {k : IK} {its conds : List E} {elt : E} {eltE tg iter : Expr} {ifs : List Expr} {scope : Scope}
theorem r_comp (hc : X.calm = true) (hN : X.N.Nodup) (hi : SI G Φ cad X k its tg iter) (ok : BlkOk X.N X.env.scope scope own) (hg : ∀ (s : Shared) (H : Hp) (C : Addr) (cl : List (Str × Addr)) (fp : List Addr), SG (X.blk s H scope (compEnvC scope cl C X.env) fp) t tg)
    (ht : ∀ (s : Shared) (H : Hp) (C : Addr) (cl : List (Str × Addr)) (fp : List Addr), SC G Φ cad (X.blk s H scope (compEnvC scope cl C X.env) fp) conds ifs) (he : ∀ (s : Shared) (H : Hp) (C : Addr) (cl : List (Str × Addr)) (fp : List Addr), SE G Φ cad (X.blk s H scope (compEnvC scope cl C X.env) fp) elt eltE)
    (hs : ∀ x, foldedSetIterable iter X.env x = pure x) (hown : tgIn t (own.map (·.2)) = true) : SE G Φ cad X (.comp mc (own.map (·.2)) t k its conds elt) (.ListComp eltE [⟨tg, iter, ifs, 0⟩] scope pos) := fun W tk =>
  (pe_lc (g := gT X.K t) (tt := liftT X.K cad W0 (evC G Φ conds)) (te := liftE X.K cad W0 (evE G Φ elt)) hc hN (hi W tk) ok (fun s H C cl fp => hg s H C cl fp) (fun s H C cl fp => ht s H C cl fp W0 takesB) (fun s H C cl fp => he s H C cl fp W0 takesB) hs).imp fun σ H Q h => lift_comp hown h
theorem folded_of (h : notSet iter = true) : ∀ x, foldedSetIterable iter X.env x = pure x := by
  intro x
  cases iter <;> first | rfl | cases h
end
end
end PD
set_option Elab.async false
set_option linter.all false
set_option maxRecDepth 100000
set_option maxHeartbeats 4000000
/-! PyD10: calls of our own defs, methods, new objects, fields, isinstance: expressions' rules. -/
namespace PD
open PySem PySem.Spec PyProof.Rows L2
section
variable {X : Cx} {CX : CXT} {k : Nat} {f C : Addr} {fd : FuncData} {ps : List Str} {sp : Sp} {E : L2.St → XK} {x m : Str} {p pos apos : Pos} {e o : Expr} {es : List Expr} {ta : TE} {t : TA}
theorem pe_callS0 (F : FnOk X.prog X.w X.K X.mg X.base CX k f fd ps sp) (hr : Room k X.A) (hg : Gl X x) (hm : X.mg x = some (.ref f)) (hk : PySem.W.keepIn X.K (.ref f) = true) (hb : Binds X.K fd ps []) (hx : ∀ σ, PassesAt CX X σ (E σ))
    (hdb : (x == ("__debug__" : Str)) = false) : PE X (.Call (.Name x p) [] [] pos) (tCallS sp E tNil) := by
  refine ⟨fun pins s σ H Q I h => ?_⟩
  refine wpAny_Call_Name_kw (ld_glob I hg hm ?_ hdb)
  exact PySem.W.callWith_K0 I.kIn hk (run_fnS (us := []) F hr hb (hx σ) I .nil h)
/-- what a method's call asks of the object -/
def tMethD (K : PySem.W.Frag) (m : Str) (ok : Addr → Addr → (List V → Hp → VK → XK → Prop) → Prop) (E : L2.St → XK) (ta : TE) (t : TA) : TE := fun σ H Q => ta σ H fun x H1 => ∃ a C f dx fs sp, x = .ref a ∧ H1 a = some (.ins C dx fs) ∧ fs.lookup m = none ∧ Cls K C ∧ Meth K C m f ∧ ok C f sp ∧
  t σ H1 fun vs H2 => sp (x :: vs) H2 Q (E σ)
theorem pe_methD {ok : Addr → Addr → Sp → Prop} {pl : Sem Bool} (hok : ∀ C f sp, ok C f sp → ∃ k fd ps, FnOk X.prog X.w X.K X.mg X.base CX k f fd ps sp ∧ Room k X.A ∧ Binds X.K fd ps []) (he : PE X o ta) (hx : ∀ σ, PassesAt CX X σ (E σ)) (ha : PA X (e :: es) t)
    (hst : starEach (e :: es) X.env = (false, eval e X.env) :: starEach es X.env) (hpl : (backTo pos (starEach es X.env)).any (·.1) = false)
    (ht : eval (.Call (.Attribute o m apos) (e :: es) [] pos) X.env = (do
      let ov ← eval o X.env
      standAt apos.atName
      let (f, first) ← holding [ov] (getMethod ov m pl)
      callWith pos f first (backTo pos (starEach (e :: es) X.env)) (backToKw pos (keywordEach [] X.env)))) :
    PE X (.Call (.Attribute o m apos) (e :: es) [] pos) (tMethD X.K m ok E ta t) := by
  refine ⟨fun pins s σ H Q I h => ?_⟩
  refine PySem.W.methodCall_KW (pl := pl) (thn (he.run pins s σ H _ I h) fun u s1 ⟨x, H1, I1, rx, a, C, f, dx, fs, sp, ex, ea, l, c, hm, hk, q⟩ => ?_) ht
  subst ex
  obtain rfl : u = Value.ref a := rx
  obtain ⟨k, fd, ps, F, hr, hb⟩ := hok C f sp hk
  refine getmeth_ok I1 ea c hm l ?_
  refine PySem.W.callWith_K (first := [.ref a]) (h₀ := X.base) I.ok.mod.kin hm.kp (thn (ha.run pos pins s1 σ H1 _ I1 q) fun us s2 ⟨vs, H2, I2, r, q2⟩ => ⟨I2.kIn, ?_⟩) hst hpl
  exact run_fnS (us := .ref a :: us) (vs := .ref a :: vs) F hr hb (hx σ) I2 (.cons rfl r) q2
theorem pe_methD0 {ok : Addr → Addr → Sp → Prop} {pl : Sem Bool} (hok : ∀ C f sp, ok C f sp → ∃ k fd ps, FnOk X.prog X.w X.K X.mg X.base CX k f fd ps sp ∧ Room k X.A ∧ Binds X.K fd ps []) (he : PE X o ta) (hx : ∀ σ, PassesAt CX X σ (E σ))
    (ht : eval (.Call (.Attribute o m apos) [] [] pos) X.env = (do
      let ov ← eval o X.env
      standAt apos.atName
      let (f, first) ← holding [ov] (getMethod ov m pl)
      callWith pos f first (backTo pos (starEach [] X.env)) (backToKw pos (keywordEach [] X.env)))) :
    PE X (.Call (.Attribute o m apos) [] [] pos) (tMethD X.K m ok E ta tNil) := by
  refine ⟨fun pins s σ H Q I h => ?_⟩
  refine PySem.W.methodCall_KW (pl := pl) (thn (he.run pins s σ H _ I h) fun u s1 ⟨x, H1, I1, rx, a, C, f, dx, fs, sp, ex, ea, l, c, hm, hk, q⟩ => ?_) ht
  subst ex
  obtain rfl : u = Value.ref a := rx
  obtain ⟨k, fd, ps, F, hr, hb⟩ := hok C f sp hk
  refine getmeth_ok I1 ea c hm l ?_
  exact PySem.W.callWith_K0 (first := [.ref a]) I1.kIn hm.kp (run_fnS (us := [.ref a]) (vs := [.ref a]) F hr hb (hx σ) I1 (.cons rfl .nil) q)
theorem run_makeS {pins : List (Addr × Obj)} {σ : L2.St} {H : Hp} {s : Shared} {Q : VK} {us : List Value} {vs : List V} (M : Mk X.K C f) (F : FnOk X.prog X.w X.K X.mg X.base CX k f fd ps sp) (hr : Room (k + 1) X.A) (hb : Binds X.K fd ps [])
    (hx : PassesAt CX X σ (E σ)) (I : Inv X pins σ H s) (r : Vals vs us)
    (h : ∀ x dx, H x = none → H dx = none → dx ≠ x → sp (.ref x :: vs) (upd (upd H dx (.own x)) x (.ins C dx [])) (fun v H2 => v = .non ∧ Q (.ref x) H2) (E σ)) :
    wpAny (model X.prog X.w) X.A (PySem.call (.ref C) us) (EP X pins σ Q) X.xe s := by
  have hq := h (s.heap.objs.size + 1) s.heap.objs.size (I.hok.fresh (Nat.le_succ _)) (I.hok.fresh (Nat.le_refl _)) (Nat.ne_of_lt (Nat.lt_succ_self _))
  have I2 := Inv.made (C := C) I
  have r2 : Vals (V.ref (s.heap.objs.size + 1) :: vs) (Value.ref (s.heap.objs.size + 1) :: us) := .cons rfl r
  have hl : (Value.ref (s.heap.objs.size + 1) :: us).length = ps.length := by
    have e := r2.length
    rw [F.len _ _ _ _ hq] at e
    exact e.symm
  have b := hb _ (Value.ref (s.heap.objs.size + 1) :: us) I2.kIn (by rw [List.append_nil]; exact hl)
  rw [List.append_nil] at b
  refine wpAny_call (make_map (f := f) I.kIn M.makes M.init (beq_iff_eq.mp M.fn) (codeAny_mono (F.run _ X.stack _ _ ⟨Value.ref (s.heap.objs.size + 1) :: us, []⟩ (Value.ref (s.heap.objs.size + 1) :: us) _ _ (E σ) (hr.make C us [])
    (I2.env0.make C us []) b r2 hq) fun r s' hq' => ?_))
  cases r with
  | error e => exact hx pins _ _ e s' I2 hq'
  | ok fl =>
    cases fl with
    | ret u =>
      obtain ⟨v, H', I3, rv, ev, q3⟩ := I2.after hq'
      subst ev
      exact ⟨rv, ⟨V.ref (s.heap.objs.size + 1), H', I3, rfl, q3⟩⟩
    | next => exact False.elim hq'
    | brk => exact False.elim hq'
    | cont => exact False.elim hq'
def tMakeS (C : Addr) (sp : Sp) (E : L2.St → XK) (t : TA) : TE := fun σ H Q => t σ H fun vs H1 => ∀ x dx, H1 x = none → H1 dx = none → dx ≠ x → sp (.ref x :: vs) (upd (upd H1 dx (.own x)) x (.ins C dx [])) (fun v H2 => v = .non ∧ Q (.ref x) H2) (E σ)
theorem pe_makeS (M : Mk X.K C f) (F : FnOk X.prog X.w X.K X.mg X.base CX k f fd ps sp) (hr : Room (k + 1) X.A) (hg : Gl X x) (hm : X.mg x = some (.ref C)) (hb : Binds X.K fd ps []) (hx : ∀ σ, PassesAt CX X σ (E σ))
    (ha : PA X (e :: es) t) (hdb : (x == ("__debug__" : Str)) = false) (he : starEach (e :: es) X.env = (false, eval e X.env) :: starEach es X.env) (hpl : (backTo pos (starEach es X.env)).any (·.1) = false) :
    PE X (.Call (.Name x p) (e :: es) [] pos) (tMakeS C sp E t) := by
  refine ⟨fun pins s σ H Q I h => ?_⟩
  refine wpAny_Call_Name_kw (ld_glob I hg hm ?_ hdb)
  refine PySem.W.callWith_K (h₀ := X.base) I.ok.mod.kin M.kp (thn (ha.run pos pins s σ H _ I h) fun us s1 ⟨vs, H1, I1, r, q⟩ => ⟨I1.kIn, ?_⟩) he hpl
  exact run_makeS M F hr hb (hx σ) I1 r q
theorem pe_makeS0 (M : Mk X.K C f) (F : FnOk X.prog X.w X.K X.mg X.base CX k f fd ps sp) (hr : Room (k + 1) X.A) (hg : Gl X x) (hm : X.mg x = some (.ref C)) (hb : Binds X.K fd ps []) (hx : ∀ σ, PassesAt CX X σ (E σ))
    (hdb : (x == ("__debug__" : Str)) = false) : PE X (.Call (.Name x p) [] [] pos) (tMakeS C sp E tNil) := by
  refine ⟨fun pins s σ H Q I h => ?_⟩
  refine wpAny_Call_Name_kw (ld_glob I hg hm ?_ hdb)
  exact PySem.W.callWith_K0 I.kIn M.kp (run_makeS (us := []) M F hr hb (hx σ) I .nil h)
end
section
variable {G : Pg} {Φ : Nat → List PD.W → List M → Rs PD.W} {cad : Nat → Addr} {X : Cx} {K : PySem.W.Frag} {pos p apos : Pos} {x : Str} {k : Nat} {f C : Addr} {fd : FuncData} {ps : List Str} {i : Nat} {e a : Expr} {es : List Expr} {ds : List E} {da : E}
theorem lift_call {W : WX} {i : Nat} {σ : L2.St} {H : Hp} {Q : VK} (h : liftE K cad W (evE G Φ (.call i ds)) σ H Q) : tCallS (spOf K cad (Φ i)) (WE W) (liftA K cad W (evEs G Φ ds)) σ H Q :=
  lift_mono (lift_bind0 (IsA := rWs K cad) (IsB := rW K cad) (g := evEs G Φ ds) (f := fun _ ws cs => callW (Φ i) ws cs) h) fun vs H1 ⟨sl, cs, as, R, ws, rel, iw, p⟩ => call_sp rel.cells iw p
theorem tail_star (h : (e :: es).all notStar = true) : notStar e = true ∧ es.all notStar = true := by rw [List.all_cons, Bool.and_eq_true] at h; exact h
theorem r_call (F : FnOk X.prog X.w X.K X.mg X.base (L2.CX X.prog X.w) k f fd ps (spOf X.K cad (Φ i))) (hr : Room k X.A) (hg : Gl X x) (hm : X.mg x = some (.ref f)) (hk : PySem.W.keepIn X.K (.ref f) = true) (hb : Binds X.K fd ps [])
    (ha : SA G Φ cad X ds (e :: es)) (hs : (e :: es).all notStar = true) (hdb : (x == ("__debug__" : Str)) = false) : SE G Φ cad X (.call i ds) (.Call (.Name x p) (e :: es) [] pos) := fun W tk =>
  (pe_callS F hr hg hm hk hb (fun σ => passAt tk σ) (ha W tk) hdb (star_of (tail_star hs).1) (noStars es (tail_star hs).2 pos)).imp fun σ H Q h => lift_call h
theorem lift_nil {W : WX} {σ : L2.St} {H : Hp} {Q : List V → Hp → Prop} (h : liftA K cad W (evEs G Φ []) σ H Q) : tNil σ H Q := by
  obtain ⟨sl, cs, as, R, rel, p⟩ := h
  exact (show Post K cad (rWs K cad) W σ as R H Q (.ok [] cs) from p) [] H as Ext.refl rel.cells rfl
theorem r_call0 (F : FnOk X.prog X.w X.K X.mg X.base (L2.CX X.prog X.w) k f fd ps (spOf X.K cad (Φ i))) (hr : Room k X.A) (hg : Gl X x) (hm : X.mg x = some (.ref f)) (hk : PySem.W.keepIn X.K (.ref f) = true) (hb : Binds X.K fd ps [])
    (hdb : (x == ("__debug__" : Str)) = false) : SE G Φ cad X (.call i []) (.Call (.Name x p) [] [] pos) := fun W tk =>
  (pe_callS0 F hr hg hm hk hb (fun σ => passAt tk σ) hdb).imp fun σ H Q h => lift_nil (lift_call h)
/-! ### fields -/
theorem look_get : ∀ {us : List (Str × V)} {vs : List D} {F : List Addr} {H : Hp} {f : Str} {d : D}, IsDs K cad H F vs (us.map (·.2)) → fget (us.map (·.1)) vs f = some d → ∃ v, us.lookup f = some v ∧ IsD K cad H F d v
  | [], vs, _, _, _, _, h, e => by
    cases vs with
    | nil => cases e
    | cons _ _ => cases e
  | (k, v) :: us, vs, F, H, f, d, h, e => by
    cases vs with
    | nil => cases e
    | cons y ys =>
      obtain ⟨x, r, ex, h1, h2⟩ := h
      have ex : v :: us.map (·.2) = x :: r := ex
      injection ex with e1 e2
      subst e1 e2
      have e : (if f = k then some y else fget (us.map (·.1)) ys f) = some d := e
      by_cases hf : f = k
      · rw [if_pos hf] at e
        cases e
        exact ⟨v, by rw [List.lookup_cons, hf]; simp, h1⟩
      · rw [if_neg hf] at e
        obtain ⟨z, q1, q2⟩ := look_get h2 e
        exact ⟨z, by rw [List.lookup_cons, beq_false_of_ne hf]; exact q1, q2⟩
theorem look_none {us : List (Str × V)} {f : Str} (h : (us.map (·.1)).contains f = false) : us.lookup f = none := by
  induction us with
  | nil => rfl
  | cons u us ih =>
    obtain ⟨k, v⟩ := u
    rw [List.map_cons, List.contains_cons, Bool.or_eq_false_iff] at h
    rw [List.lookup_cons, h.1]
    exact ih h.2
theorem r_fld {fn : Str} (hc : ∀ C, G.fld C fn = true → Cls X.K (cad C) ∧ NoAttr X.K (cad C) fn) (ha : SE G Φ cad X da a) (hb : attributeBase a fn X.env (eval a X.env) = eval a X.env) : SE G Φ cad X (.fld da fn) (.Attribute a fn pos) := fun W tk =>
  (pe_fld (ha W tk) hb).imp fun σ H Q h => by
    refine lift_mono (lift_bind0 (IsA := rW X.K cad) (IsB := rW X.K cad) (g := evE G Φ da) (f := fun _ w cs => match pk w cs with
      | some (.obj C ks vs) => if G.fld C fn = true then Rs.ofO ((fget ks vs fn).map PD.W.d) cs else .stuck
      | _ => .stuck) h) fun x H1 ⟨sl, cs, as, R, w, rel, iw, p⟩ => ?_
    cases e : pk w cs with
    | none => simp only [e] at p; exact p.elim
    | some d =>
      cases d with
      | obj C ks vs =>
        simp only [e] at p
        by_cases hf : G.fld C fn = true
        · rw [if_pos hf] at p
          obtain ⟨a, dx, us, rfl, ea, rfl, hd⟩ := iw.pkD rel.cells e
          cases e2 : fget (us.map (·.1)) vs fn with
          | none => rw [e2] at p; exact p.elim
          | some d =>
            rw [e2] at p
            obtain ⟨v, q1, q2⟩ := look_get hd e2
            exact ⟨a, cad C, dx, us, v, rfl, ea, (hc C hf).1, (hc C hf).2, q1, Post.data rel.cells p (Same.refl _) q2⟩
        · rw [if_neg hf] at p
          exact p.elim
      | _ => simp only [e] at p; exact p.elim
/-! ### methods -/
/-- the methods' table -/
def okM (X : Cx) (G : Pg) (Φ : Nat → List PD.W → List M → Rs PD.W) (cad : Nat → Addr) (m : Str) : Addr → Addr → Sp → Prop := fun Ca f sp => ∃ C i k fd ps, Ca = cad C ∧ G.meth C m = some i ∧ sp = spOf X.K cad (Φ i) ∧ FnOk X.prog X.w X.K X.mg X.base (L2.CX X.prog X.w) k f fd ps sp ∧ Room k X.A ∧ Binds X.K fd ps []
theorem okM_ok {m : Str} : ∀ C f sp, okM X G Φ cad m C f sp → ∃ k fd ps, FnOk X.prog X.w X.K X.mg X.base (L2.CX X.prog X.w) k f fd ps sp ∧ Room k X.A ∧ Binds X.K fd ps [] := fun C f sp ⟨_, _, k, fd, ps, _, _, _, F, hr, hb⟩ => ⟨k, fd, ps, F, hr, hb⟩
theorem lift_meth {W : WX} {m : Str} {σ : L2.St} {H : Hp} {Q : VK}
    (hc : ∀ C i, G.meth C m = some i → Cls X.K (cad C) ∧ ∃ f, Meth X.K (cad C) m f ∧ okM X G Φ cad m (cad C) f (spOf X.K cad (Φ i))) (h : liftE X.K cad W (evE G Φ (.meth da m ds)) σ H Q) :
    tMethD X.K m (okM X G Φ cad m) (WE W) (liftE X.K cad W (evE G Φ da)) (liftA X.K cad W (evEs G Φ ds)) σ H Q := by
  refine lift_mono (lift_bind0 (IsA := rW X.K cad) (IsB := rW X.K cad) (g := evE G Φ da) (f := fun sl w cs => match methF G m (pk w cs) with
    | some f => (evEs G Φ ds sl cs).bind fun ws cs => callW (Φ f) (w :: ws) cs
    | none => .stuck) h) fun x H1 ⟨sl, cs, as, R, w, rel, iw, p⟩ => ?_
  cases e : methF G m (pk w cs) with
  | none => simp only [e] at p; exact p.elim
  | some i =>
    simp only [e] at p
    unfold methF at e
    split at e
    · rename_i C ks vs eo
      by_cases hk : ks.contains m = true
      · rw [if_pos hk] at e
        cases e
      · rw [if_neg hk] at e
        obtain ⟨a, dx, us, rfl, ea, rfl, hd⟩ := iw.pkD rel.cells eo
        obtain ⟨cl, f, hm, ok⟩ := hc C i e
        refine ⟨a, cad C, f, dx, us, _, rfl, ea, look_none (by simpa using hk), cl, hm, ok, ?_⟩
        refine lift_mono (lift_bind (IsA := rWs X.K cad) (IsB := rW X.K cad) (hs := [w]) (vs := [.ref a]) (g := evEs G Φ ds) (f := fun _ ws cs => callW (Φ i) (w :: ws) cs) ⟨sl, cs, as, R, rel, ⟨_, [], rfl, iw, rfl⟩, p⟩) fun vs H2 ⟨sl, cs, as, R, ws, rel, ih, iws, p⟩ => ?_
        obtain ⟨x', r, e', ix, _⟩ := ih
        cases e'
        exact call_sp (ws := w :: ws) (vs := .ref a :: vs) rel.cells ⟨_, _, rfl, ix, iws⟩ p
    · cases e
theorem r_meth {m : Str} {pl : Sem Bool} (hc : ∀ C i, G.meth C m = some i → Cls X.K (cad C) ∧ ∃ f, Meth X.K (cad C) m f ∧ okM X G Φ cad m (cad C) f (spOf X.K cad (Φ i))) (ha : SE G Φ cad X da a) (hd : SA G Φ cad X ds (e :: es)) (hs : (e :: es).all notStar = true)
    (ht : eval (.Call (.Attribute a m apos) (e :: es) [] pos) X.env = (do
      let ov ← eval a X.env
      standAt apos.atName
      let (f, first) ← holding [ov] (getMethod ov m pl)
      callWith pos f first (backTo pos (starEach (e :: es) X.env)) (backToKw pos (keywordEach [] X.env)))) : SE G Φ cad X (.meth da m ds) (.Call (.Attribute a m apos) (e :: es) [] pos) := fun W tk =>
  (pe_methD okM_ok (ha W tk) (fun σ => passAt tk σ) (hd W tk) (star_of (tail_star hs).1) (noStars es (tail_star hs).2 pos) ht).imp fun σ H Q h => lift_meth hc h
theorem r_meth0 {m : Str} {pl : Sem Bool} (hc : ∀ C i, G.meth C m = some i → Cls X.K (cad C) ∧ ∃ f, Meth X.K (cad C) m f ∧ okM X G Φ cad m (cad C) f (spOf X.K cad (Φ i))) (ha : SE G Φ cad X da a)
    (ht : eval (.Call (.Attribute a m apos) [] [] pos) X.env = (do
      let ov ← eval a X.env
      standAt apos.atName
      let (f, first) ← holding [ov] (getMethod ov m pl)
      callWith pos f first (backTo pos (starEach [] X.env)) (backToKw pos (keywordEach [] X.env)))) : SE G Φ cad X (.meth da m []) (.Call (.Attribute a m apos) [] [] pos) := fun W tk =>
  (pe_methD0 okM_ok (ha W tk) (fun σ => passAt tk σ) ht).imp fun σ H Q h => lift_mono (lift_meth hc h) fun x H1 ⟨a, C, f, dx, fs, sp, e1, e2, e3, e4, e5, e6, q⟩ => ⟨a, C, f, dx, fs, sp, e1, e2, e3, e4, e5, e6, lift_nil q⟩
/-! ### new objects -/
theorem lift_make {W : WX} {C i : Nat} {σ : L2.St} {H : Hp} {Q : VK} (hi : G.meth C (Str.ofString "__init__") = some i) (h : liftE K cad W (evE G Φ (.make C ds)) σ H Q) : tMakeS (cad C) (spOf K cad (Φ i)) (WE W) (liftA K cad W (evEs G Φ ds)) σ H Q := by
  refine lift_mono (lift_bind0 (IsA := rWs K cad) (IsB := rW K cad) (g := evEs G Φ ds) (f := fun _ ws cs => match G.meth C (Str.ofString "__init__") with
    | some f => (callW (Φ f) (.c cs.length :: ws) (cs ++ [.obj C [] []])).bind fun r cs' => match r with
      | .d .non => .ok (.c cs.length) cs'
      | _ => .stuck
    | none => .stuck) h) fun vs H1 ⟨sl, cs, as, R, ws, rel, iw, p⟩ => ?_
  intro x dx hx hdx hne
  simp only [hi] at p
  have n1 : upd H1 dx (.own x) x = none := by rw [upd_ne (Ne.symm hne)]; exact hx
  have s1 : Same H1 (upd H1 dx (.own x)) := same_upd hdx
  obtain ⟨c2, x2, i2⟩ := (rel.cells.same s1).push (o := .ins (cad C) dx []) (m := .obj C [] []) n1 ⟨dx, [], upd_same, rfl, rfl⟩
  have xx : Ext H1 as (upd (upd H1 dx (.own x)) x (.ins (cad C) dx [])) (as ++ [some x]) := (Ext.same s1).trans x2
  refine call_sp (W := W) (σ := σ) c2 (ws := .c cs.length :: ws) (vs := .ref x :: vs) ⟨_, _, rfl, i2, iw.mono xx⟩ ?_
  cases e : callW (Φ i) (.c cs.length :: ws) (cs ++ [.obj C [] []]) with
  | stuck => rw [e] at p; exact p.elim
  | ex C' ks vs' cs' =>
    rw [e] at p
    exact fun cls d H' as' x3 c i => p cls d H' as' (xx.trans x3) c i
  | ok r cs' =>
    rw [e] at p
    match r, p with
    | .d .non, p =>
      exact fun v H' as' x3 c i => ⟨i, p (.ref x) H' as' (xx.trans x3) c ⟨Nat.lt_of_lt_of_le i2.1 x3.len, fun a ea => i2.2 a (x3.old _ a i2.1 ea)⟩⟩
    | .d (.bl _), p => exact p.elim
    | .d (.int _), p => exact p.elim
    | .d (.str _), p => exact p.elim
    | .d (.tup _), p => exact p.elim
    | .d (.lst _), p => exact p.elim
    | .d (.dct _ _), p => exact p.elim
    | .d (.obj _ _ _), p => exact p.elim
    | .d (.exc _ _ _), p => exact p.elim
    | .c _, p => exact p.elim
theorem r_make {C : Nat} (hi : G.meth C (Str.ofString "__init__") = some i) (M : Mk X.K (cad C) f) (F : FnOk X.prog X.w X.K X.mg X.base (L2.CX X.prog X.w) k f fd ps (spOf X.K cad (Φ i))) (hr : Room (k + 1) X.A) (hg : Gl X x) (hm : X.mg x = some (.ref (cad C))) (hb : Binds X.K fd ps [])
    (ha : SA G Φ cad X ds (e :: es)) (hs : (e :: es).all notStar = true) (hdb : (x == ("__debug__" : Str)) = false) : SE G Φ cad X (.make C ds) (.Call (.Name x p) (e :: es) [] pos) := fun W tk =>
  (pe_makeS M F hr hg hm hb (fun σ => passAt tk σ) (ha W tk) hdb (star_of (tail_star hs).1) (noStars es (tail_star hs).2 pos)).imp fun σ H Q h => lift_make hi h
theorem r_make0 {C : Nat} (hi : G.meth C (Str.ofString "__init__") = some i) (M : Mk X.K (cad C) f) (F : FnOk X.prog X.w X.K X.mg X.base (L2.CX X.prog X.w) k f fd ps (spOf X.K cad (Φ i))) (hr : Room (k + 1) X.A) (hg : Gl X x) (hm : X.mg x = some (.ref (cad C))) (hb : Binds X.K fd ps [])
    (hdb : (x == ("__debug__" : Str)) = false) : SE G Φ cad X (.make C []) (.Call (.Name x p) [] [] pos) := fun W tk =>
  (pe_makeS0 M F hr hg hm hb (fun σ => passAt tk σ) hdb).imp fun σ H Q h => lift_nil (lift_make hi h)
end
end PD
set_option Elab.async false
set_option linter.all false
set_option maxRecDepth 100000
set_option maxHeartbeats 4000000
/-! PyD11: isinstance. -/
namespace PD
open PySem PySem.Spec PyProof.Rows L2
def tgV (cad : Nat → Addr) (g : Nat) : Value := if g < 10 then .type (bty g) else .ref (cad ((g - 10) / 2))
def clV (cad : Nat → Addr) (t : Nat) : Value := if t < 10 then .type (bty t) else .ref (cad (t - 10))
def clX (cad : Nat → Addr) (t : Nat) : V := if t < 10 then .ty (bty t) else .ref (cad (t - 10))
theorem clsV_cl (cad : Nat → Addr) (t : Nat) : ClsV (clX cad t) (clV cad t) := by
  unfold clX clV
  by_cases h : t < 10
  · rw [if_pos h, if_pos h]; exact .ty _
  · rw [if_neg h, if_neg h]; exact .own _
/-- what isinstance asks of the classes of an object -/
structure OwnC (K : PySem.W.Frag) (C : Addr) : Prop where
  cl : Cls K C
  ha : PySem.W.findIn K (.ref C) "__class__" = some (some (.builtin "object.__class__"))
  hn : PySem.W.specialIn K (.builtin "object.__class__") "__get__" = some (some (.builtin "getset_descriptor.__get__"))
  ht : PySem.W.takesIn K (.builtin "object.__class__") = some true
  hm : PySem.W.mroIn K C (.type "object") = some true
structure IsiF (K : PySem.W.Frag) (cad : Nat → Addr) (isT : Nat → Nat → Option Bool) : Prop where
  one : ∀ g t b, isT g t = some b → PySem.W.kitOne K (tgV cad g) (clV cad t) = some b
  obj : ∀ C t b, isT (2 * C + 10) t = some b → OwnC K (cad C)
  exc : ∀ C t b, isT (2 * C + 11) t = some b → ExcC K (cad C)
  non : ∀ t, isT 9 t = none
section
variable {K : PySem.W.Frag} {cad : Nat → Addr} {isT : Nat → Nat → Option Bool} {X : Cx} {pins : List (Addr × Obj)} {σ : L2.St} {H : Hp} {s : Shared} {F : List Addr}
theorem tgV_obj (C : Nat) : tgV cad (2 * C + 10) = .ref (cad C) := by
  unfold tgV
  rw [if_neg (by omega), show (2 * C + 10 - 10) / 2 = C from by omega]
theorem tgV_exc (C : Nat) : tgV cad (2 * C + 11) = .ref (cad C) := by
  unfold tgV
  rw [if_neg (by omega), show (2 * C + 11 - 10) / 2 = C from by omega]
theorem kitD (f : IsiF X.K cad isT) {d : D} {x : V} {u : Value} {t : Nat} {b : Bool} (I : Inv X pins σ H s) (rx : RelV x u) (h : PkD X.K cad H F d x) (e : isT (tag d) t = some b) :
    ∃ P : Heap → Prop, PySem.W.KitX X.K u (tgV cad (tag d)) P ∧ P s.heap ∧ u ≠ .builtin "__main__.__loader__#opaque" := by
  cases d with
  | non => cases (show x = .non from h); exact kit_of I rx (.base .non)
  | bl c => cases (show x = .bl c from h); exact kit_of I rx (.base (.bl c))
  | int c => cases (show x = .int c from h); exact kit_of I rx (.base (.int c))
  | str c => cases (show x = .str c from h); exact kit_of I rx (.base (.str c))
  | tup ds =>
    obtain ⟨a, xs, rfl, hl, _⟩ := (show ∃ a xs, x = .ref a ∧ TupF X.K H F a xs ∧ IsDs X.K cad H F ds xs from h)
    rcases hl with ⟨_, h2 | ⟨o, h2⟩⟩ | ⟨o, its, n, h1, h2, _⟩
    · exact kit_of I rx (.base (.tup h2))
    · exact kit_of I rx (.fTuple h2)
    · exact kit_of I rx (.kTuple h1 h2)
  | lst ds =>
    obtain ⟨a, xs, rfl, hl, _⟩ := (show ∃ a xs, x = .ref a ∧ SqL X.K H a xs ∧ IsDs X.K cad H F ds xs from h)
    rcases hl with (h2 | ⟨o, h2⟩) | ⟨o, its, n, h1, h2, _⟩
    · exact kit_of I rx (.base (.lst h2))
    · exact kit_of I rx (.base (.frz h2))
    · exact kit_of I rx (.kList h1 h2)
  | dct ks ds =>
    obtain ⟨a, us, rfl, e1, _⟩ := (show ∃ a us, x = .ref a ∧ H a = some (.dK us) ∧ us.map (·.1) = ks ∧ IsDs X.K cad H F ds (us.map (·.2)) from h)
    exact kit_of I rx (.base (.dK e1))
  | obj C ks ds =>
    obtain ⟨a, dx, us, rfl, e1, _⟩ := (show ∃ a dx us, x = .ref a ∧ H a = some (.ins (cad C) dx us) ∧ us.map (·.1) = ks ∧ IsDs X.K cad H F ds (us.map (·.2)) from h)
    have o := f.obj C t b e
    rw [show tag (.obj C ks ds) = 2 * C + 10 from rfl, tgV_obj]
    exact kit_of I rx (.base (.ins e1 o.cl o.ha o.hn o.ht o.hm))
  | exc C ks ds =>
    have h : IsD X.K cad H F (.exc C ks ds) x := h
    obtain ⟨a, dd, rfl, _, e1, h3⟩ := h
    cases ks with
    | cons k ks => rw [show tag (.exc C (k :: ks) ds) = 9 from rfl, f.non] at e; cases e
    | nil =>
      rcases h3 with ⟨_, _, rfl⟩ | ⟨z, _⟩
      · have c := f.exc C t b e
        rw [show tag (.exc C [] ds) = 2 * C + 11 from rfl, tgV_exc]
        cases (show u = Value.ref a from rx)
        obtain ⟨⟨oe, vs, h1, h2, h3⟩, _⟩ := (show ObjOk X.prog X.w H s.heap a (exO (.ref (cad C)) none a) from I.hok a _ e1)
        refine ⟨_, PySem.W.handS_kitx_exc (ox := oe) c.hg c.hk c.hs c.hd c.ha c.hn c.ht c.hm, ?_, fun z => nomatch z⟩
        obtain ⟨oc, od, oda, osl⟩ := oe
        obtain ⟨z1, z2⟩ := h2
        dsimp only at z1 z2 h3
        subst z1 z2 h3
        exact ⟨h1, rfl, rfl, trivial⟩
      · exact absurd rfl z
theorem kitAny_of (f : IsiF K cad isT) (g : Nat) : ∀ {ts : List Nat} {b : Bool}, tyAny isT g ts = some b → PySem.W.kitAny K (tgV cad g) (ts.map (clV cad)) = some b
  | [], b, e => e
  | t :: ts, b, e => by
    have e : (match isT g t with | some true => some true | some false => tyAny isT g ts | none => none) = some b := e
    cases q : isT g t with
    | none => rw [q] at e; cases e
    | some c =>
      rw [q] at e
      refine kitAny_cons (f.one g t c q) (fun hc => ?_) (fun hc => ?_)
      · subst hc; exact kitAny_of f g e
      · subst hc; exact (Option.some.inj (show some true = some b from e)).symm
theorem tyAny_first {g : Nat} : ∀ {ts : List Nat} {b : Bool}, tyAny isT g ts = some b → ts ≠ [] → ∃ t c, isT g t = some c
  | [], _, _, h => absurd rfl h
  | t :: ts, b, e, _ => by
    have e : (match isT g t with | some true => some true | some false => tyAny isT g ts | none => none) = some b := e
    cases q : isT g t with
    | none => rw [q] at e; cases e
    | some c => exact ⟨t, c, q⟩
/-- one class -/
def rIs1 (K : PySem.W.Frag) (cad : Nat → Addr) (isT : Nat → Nat → Option Bool) (t : Nat) : List V → Hp → VK → Prop := fun xs H Q => ∃ x, xs = [x, clX cad t] ∧ r1O K cad isT (.isi [t]) x H Q
theorem call_is1 (f : IsiF X.K cad isT) {t : Nat} : CallR X (.builtin "isinstance") (rIs1 X.K cad isT t) := by
  intro pins s σ H xs us Q I r h
  obtain ⟨x, rfl, F, ds, d, hF, hp, hs, q⟩ := h
  obtain ⟨d0, rfl, hp1⟩ := pk1 hp
  have hs : (tyAny isT (tag d0) [t]).map D.bl = some d := hs
  cases e : tyAny isT (tag d0) [t] with
  | none => rw [e] at hs; cases hs
  | some b =>
    rw [e] at hs
    cases hs
    obtain ⟨u1, u2, rfl, r1, r2⟩ := vals2 r
    have e2 := (clsV_cl cad t).eq r2
    subst e2
    have et : isT (tag d0) t = some b := by
      have e : (match isT (tag d0) t with | some true => some true | some false => some false | none => none) = some b := e
      cases q : isT (tag d0) t with
      | none => rw [q] at e; cases e
      | some c => rw [q] at e; cases c <;> exact e
    obtain ⟨P, Z, p, hx⟩ := kitD f I r1 hp1 et
    exact PySem.W.kia_one Z I.kIn p (f.one _ _ _ et) hx fun tk => ⟨.bl b, H, I.tok tk, rfl, q _ H (Same.refl H) rfl⟩
/-- a tuple of classes, just laid -/
def rIsM (K : PySem.W.Frag) (cad : Nat → Addr) (isT : Nat → Nat → Option Bool) (ts : List Nat) : List V → Hp → VK → Prop := fun xs H Q => ts ≠ [] ∧ ∃ x tp, xs = [x, .ref tp] ∧ H tp = some (.tup (ts.map (clX cad))) ∧ r1O K cad isT (.isi ts) x H Q
theorem clsP (cad : Nat → Addr) : ∀ ts : List Nat, Paired ClsV (ts.map (clX cad)) (ts.map (clV cad))
  | [] => .nil
  | t :: ts => .cons (clsV_cl cad t) (clsP cad ts)
theorem call_isM (f : IsiF X.K cad isT) {ts : List Nat} : CallR X (.builtin "isinstance") (rIsM X.K cad isT ts) := by
  intro pins s σ H xs us Q I r h
  obtain ⟨hne, x, tp, rfl, hT, F, ds, d, hF, hp, hs, q⟩ := h
  obtain ⟨d0, rfl, hp1⟩ := pk1 hp
  have hs : (tyAny isT (tag d0) ts).map D.bl = some d := hs
  cases e : tyAny isT (tag d0) ts with
  | none => rw [e] at hs; cases hs
  | some b =>
    rw [e] at hs
    cases hs
    obtain ⟨u1, u2, rfl, r1, r2⟩ := vals2 r
    cases (show u2 = Value.ref tp from r2)
    obtain ⟨t, c, et⟩ := tyAny_first e hne
    obtain ⟨P, Z, p, hx⟩ := kitD f I r1 hp1 et
    obtain ⟨_, its, rv, o, h1, h2, n, h3⟩ := (show ObjOk X.prog X.w H s.heap tp (.tup (ts.map (clX cad))) from I.hok tp _ hT)
    have e3 := ClsV.all (clsP cad ts) rv
    subst e3
    obtain ⟨oc, od, dt, sl⟩ := o
    simp only at h2 h3
    subst h2 h3
    exact PySem.W.kia_tup Z I.kIn p h1 (kitAny_of f _ e) hx fun tk => ⟨.bl b, H, I.tok tk, rfl, q _ H (Same.refl H) rfl⟩
/-- the names of classes -/
def ClsE (X : Cx) (cad : Nat → Addr) (t : Nat) (c : Expr) : Prop := PE X c (tC (clX cad t)) ∧ notStar c = true
theorem cls_bt {x : Str} {pos : Pos} {t : Nat} (ht : t < 10) (hg : Gl X x) (hm : X.mg x = none) (hv : bootBuiltins x = some (.type (bty t))) (hn : x ≠ "__name__") (hd : (x == ("__debug__" : Str)) = false) : ClsE X cad t (.Name x pos) := ⟨by
  unfold clX
  rw [if_pos ht]
  exact pe_bltn hg hm hv rfl hn hd, rfl⟩
theorem cls_own {x : Str} {pos : Pos} {C : Nat} (hg : Gl X x) (hm : X.mg x = some (.ref (cad C))) (hd : (x == ("__debug__" : Str)) = false) : ClsE X cad (C + 10) (.Name x pos) := ⟨by
  unfold clX
  rw [if_neg (by omega), show C + 10 - 10 = C from by omega]
  exact pe_glob hg hm rfl hd, rfl⟩
inductive ClsEs (X : Cx) (cad : Nat → Addr) : List Nat → List Expr → Prop
  | nil : ClsEs X cad [] []
  | cons {t ts c cs} : ClsE X cad t c → ClsEs X cad ts cs → ClsEs X cad (t :: ts) (c :: cs)
def tTs (vs : List V) : TA := fun _ H Q => Q vs H
theorem ClsEs.pa : ∀ {ts : List Nat} {cs : List Expr}, ClsEs X cad ts cs → PA X cs (tTs (ts.map (clX cad)))
  | _, _, .nil => pa_nil
  | _, _, .cons h r => (pa_cons h.1 (ClsEs.pa r) (star_of h.2)).imp fun σ H Q q => q
variable {G : Pg} {Φ : Nat → List PD.W → List M → Rs PD.W} {a c : Expr} {da : E} {p p2 pos : Pos}
theorem r_is1 {t : Nat} (f : IsiF X.K cad G.isT) (hg : Gl X "isinstance") (hm : X.mg "isinstance" = none) (ha : SE G Φ cad X da a) (hs : notStar a = true) (hc : ClsE X cad t c) : SE G Φ cad X (.op (.isi [t]) [da]) (.Call (.Name "isinstance" p) [a, c] [] pos) := fun W tk => by
  refine (pe_callB (call_is1 f (t := t)) hg hm PyProof.Rows.boot_isinstance (pa_cons (ha W tk) (pa_cons hc.1 pa_nil (star_of hc.2)) (star_of hs)) (by decide) (by decide) (star_of hs) (by rw [star_of hc.2]; rfl)).imp fun σ H Q h => ?_
  exact lift_mono (lift_op1 h) fun x H1 q => ⟨x, rfl, q⟩
theorem r_isM {ts : List Nat} {cs : List Expr} {k : Nat} (f : IsiF X.K cad G.isT) (hne : ts ≠ []) (hl : ts.length ≤ 100) (hg : Gl X "isinstance") (hm : X.mg "isinstance" = none) (ha : SE G Φ cad X da a) (hs : notStar a = true) (hc : ClsEs X cad ts cs) : SE G Φ cad X (.op (.isi ts) [da]) (.Call (.Name "isinstance" p) [a, .Tuple cs k p2] [] pos) := fun W tk => by
  refine (pe_callB (call_isM f (ts := ts)) hg hm PyProof.Rows.boot_isinstance (pa_cons (ha W tk) (pa_cons (pe_tup hc.pa) pa_nil) (star_of hs)) (by decide) (by decide) (star_of hs) (by rfl)).imp fun σ H Q h => ?_
  refine lift_mono (lift_op1 h) fun x H1 ⟨F, ds, d, hF, hp, hsm, q⟩ => ⟨?_, fun q0 hq => ⟨hne, x, q0, rfl, upd_same, F, ds, d, fun a ha => ?_, ?_, hsm, fun v H' s i => q v H' (Same.trans (same_upd hq) s) i⟩⟩
  · rw [List.length_map]
    have := sizeLine_eq
    omega
  · obtain ⟨u, e⟩ := hF a ha
    exact ⟨u, same_upd hq a u e⟩
  · obtain ⟨d0, rfl, hp1⟩ := pk1 hp
    exact ⟨x, [], rfl, hp1.mono (Kp.same (same_upd hq)) (same_upd hq), rfl⟩
end
end PD
set_option Elab.async false
set_option linter.all false
set_option maxRecDepth 100000
set_option maxHeartbeats 4000000
/-! PyD12: the program's text against the little language: expressions. -/
namespace PD
open PySem PySem.Spec PyProof.Rows L2
/-! ### what the program's names stand for -/
structure Tab where
  fns : List (Str × Nat)
  cls : List (Str × Nat)
  bts : List (Str × Nat)
  csts : List Str
  frees : List Str
/-- a class whose instances are raised: no own __init__ -/
structure RaiseC (K : PySem.W.Frag) (C : Addr) : Prop where
  base : ∃ (B newId initId : String) (bmB : List Value), ExcBaseFacts B newId initId bmB ∧ PySem.W.excIn K C bmB newId = true
  kp : PySem.W.keepIn K (.ref C) = true
  r1 : PySem.W.subIn K (.ref C) (.type "BaseException") = some true
  r2 : PySem.W.typeIn K (.ref C) = some (.type "type")
structure Wd (T : Tab) (G : Pg) (Φ : Nat → List PD.W → List M → Rs PD.W) (cad : Nat → Addr) (k : Nat) (P : Program) (w : World) (K : PySem.W.Frag) (mg : Str → Option Value) (base : Heap) : Prop where
  fn : ∀ x i, (x, i) ∈ T.fns → ∃ f fd ps, mg x = some (.ref f) ∧ PySem.W.keepIn K (.ref f) = true ∧ Binds K fd ps [] ∧ FnOk P w K mg base (L2.CX P w) k f fd ps (spOf K cad (Φ i))
  cst : ∀ (i : Nat) x d, T.csts[i]? = some x → G.csts[i]? = some d → ∃ u v, mg x = some u ∧ RelV v u ∧ ∀ H F, IsD K cad H F d v
  free : ∀ x, x ∈ T.frees → mg x = none
  cl : ∀ x C, (x, C) ∈ T.cls → mg x = some (.ref (cad C))
  bt : ∀ x t, (x, t) ∈ T.bts → t < 10 ∧ x ∈ T.frees ∧ bootBuiltins x = some (.type (bty t)) ∧ x ≠ "__name__" ∧ (x == ("__debug__" : Str)) = false
  fld : ∀ C f, G.fld C f = true → Cls K (cad C) ∧ NoAttr K (cad C) f
  meth : ∀ C m i, G.meth C m = some i → m ≠ ("__init__" : Str) → Cls K (cad C) ∧ ∃ f fd ps, Meth K (cad C) m f ∧ Binds K fd ps [] ∧ FnOk P w K mg base (L2.CX P w) k f fd ps (spOf K cad (Φ i))
  init : ∀ C i, G.meth C ("__init__" : Str) = some i → ∃ f fd ps, Mk K (cad C) f ∧ Binds K fd ps [] ∧ FnOk P w K mg base (L2.CX P w) k f fd ps (spOf K cad (Φ i))
  isi : IsiF K cad G.isT
  exc : ∀ C, G.isX C = true → RaiseC K (cad C)
  exm : ∀ C' C b, G.sub C' C = some b → PySem.W.exmOne K (.ref (cad C')) (.ref (cad C)) = some b
/-- where an expression stands -/
structure Ct where
  N : List Str
  sc : Scope
  raw : Scope
  T : Tab
  hot : Bool
structure StX (ct : Ct) (G : Pg) (Φ : Nat → List PD.W → List M → Rs PD.W) (cad : Nat → Addr) (k : Nat) (X : Cx) : Prop where
  hN : X.N = ct.N
  sc : X.env.scope = ct.sc
  nd : ct.N.Nodup
  cold : ct.hot = false → X.calm = true ∧ Room (k + 1) X.A
  un : X.A.units + 100 < cLine
  fnc : ∀ x, ct.raw.names.lookup x = some .cell → X.fn x = true
  wd : Wd ct.T G Φ cad k X.prog X.w X.K X.mg X.base
theorem StX.calm {ct : Ct} {G : Pg} {Φ : Nat → List PD.W → List M → Rs PD.W} {cad : Nat → Addr} {k : Nat} {X : Cx} (st : StX ct G Φ cad k X) (h : ct.hot = false) : X.calm = true := (st.cold h).1
theorem StX.room {ct : Ct} {G : Pg} {Φ : Nat → List PD.W → List M → Rs PD.W} {cad : Nat → Addr} {k : Nat} {X : Cx} (st : StX ct G Φ cad k X) (h : ct.hot = false) : Room (k + 1) X.A := (st.cold h).2
theorem cold_of {ct : Ct} {b : Bool} (h : (!ct.hot && b) = true) : ct.hot = false ∧ b = true := by
  rw [Bool.and_eq_true, Bool.not_eq_true'] at h
  exact h
/-! ### the look -/
def locB (ct : Ct) (x : Str) : Bool := decide (ct.sc.names.lookup x = some .local) || (decide (ct.sc.names.lookup x = some .cell) && decide (ct.raw.names.lookup x = some .cell))
mutual
def okT : Ct → Expr → Tg → Bool
  | ct, .Name x _, .n i => decide (ct.N[i]? = some x) && locB ct x
  | ct, .Tuple es _ _, .t ts => !ct.hot && okTs ct es ts
  | _, _, _ => false
def okTs : Ct → List Expr → List Tg → Bool
  | _, [], [] => true
  | ct, e :: es, t :: ts => notStar e && okT ct e t && okTs ct es ts
  | _, _, _ => false
end
/-- a name of a class, for isinstance -/
def okC1 (ct : Ct) (e : Expr) (t : Nat) : Bool := match e with
  | .Name x _ => globB ct.sc x && ((decide (10 ≤ t) && decide ((x, t - 10) ∈ ct.T.cls)) || decide ((x, t) ∈ ct.T.bts))
  | _ => false
def okCs (ct : Ct) : List Expr → List Nat → Bool
  | [], [] => true
  | e :: es, t :: ts => okC1 ct e t && okCs ct es ts
  | _, _ => false
def isFrz : E → Bool
  | .frz _ => true
  | _ => false
def notIf : Expr → Bool
  | .IfExp _ _ _ _ => false
  | _ => true
def isBO : Expr → Bool
  | .BoolOp _ _ _ => true
  | _ => false
/-- may stand as a test -/
def tstB (e : Expr) (d : E) : Bool := !isFrz d && notIf e
def ownN (N : List Str) (own : List Nat) : List (Str × Nat) := own.map fun i => ((N[i]?).getD "", i)
section
variable (G : Pg) (rE : Ct → Expr → E → Bool) (ct : Ct)
def isDnil : D → Bool
  | .dct [] [] => true
  | _ => false
def kConst (e : Expr) (d : D) : Bool := match e with
  | .Constant c _ _ => constB c d
  | .Dict [] [] _ => isDnil d
  | _ => false
/-- new mutable objects -/
def kNew (e : Expr) (o : O) (ds : List E) : Bool := match e, o, ds with
  | .Dict [] [] _, .dnew, [.c d] => isDnil d
  | _, _, _ => false
def kVar (e : Expr) (i : Nat) : Bool := match e with
  | .Name x _ => decide (ct.N[i]? = some x) && visB ct.sc x && !(x == ("__debug__" : Str)) && !(x == ("__classdict__" : Str))
  | _ => false
def kGlob (e : Expr) (i : Nat) : Bool := match e with
  | .Name x _ => decide (ct.T.csts[i]? = some x) && globB ct.sc x
  | _ => false
def kAll : List Expr → List E → Bool
  | [], [] => true
  | e :: es, d :: ds => notStar e && rE ct e d && kAll es ds
  | _, _ => false
def k2 (a b : Expr) (ds : List E) : Bool := match ds with
  | [da, db] => rE ct a da && rE ct b db
  | _ => false
def k1 (a : Expr) (ds : List E) : Bool := match ds with
  | [da] => rE ct a da
  | _ => false
def kCmp (p : CmpOp) (a b : Expr) (o : O) (ds : List E) : Bool := match p with
  | .Is => k1 rE ct a ds && (match boolE b with
    | some c => decide (o = .isB c)
    | none => decide (o = .isN) && isNoneE b)
  | .IsNot => k1 rE ct a ds && (match boolE b with
    | some c => decide (o = .ntB c)
    | none => decide (o = .notN) && isNoneE b)
  | .In => decide (o = .in_) && notSet b && k2 rE ct a b ds
  | .NotIn => decide (o = .notin) && notSet b && k2 rE ct a b ds
  | p => decide (cmpO p = some o) && k2 rE ct a b ds
def kIsi (a c : Expr) (ts : List Nat) (ds : List E) : Bool := notStar a && k1 rE ct a ds && match c with
  | .Tuple cs _ _ => decide (ts ≠ []) && decide (ts.length ≤ 100) && okCs ct cs ts
  | c => match ts with
    | [t] => okC1 ct c t
    | _ => false
def kBlt (x : Str) (es : List Expr) (o : O) (ds : List E) : Bool := globB ct.sc x && decide (x ∈ ct.T.frees) && match o with
  | .isi ts => (match es with
    | [a, c] => decide (x = ("isinstance" : Str)) && kIsi rE ct a c ts ds
    | _ => false)
  | .setlen => (match es with
    | [.Call (.Name y _) [a] [] _] => !ct.hot && decide (x = ("len" : Str)) && decide (y = ("set" : Str)) && globB ct.sc y && decide (y ∈ ct.T.frees) && notStar a && k1 rE ct a ds
    | _ => false)
  | o => !ct.hot && (decide (bltO x es.length = some o) && es.all notStar && kAll rE ct es ds)
/-- [::-1] -/
def revSl : Expr → Bool
  | .Slice none none (some (.UnaryOp .USub (.Constant (.int 1) _ _) _)) _ => true
  | _ => false
def kOp (e : Expr) (o : O) (ds : List E) : Bool := match e with
  | .BinOp a p b _ => decide (binO p = some o) && k2 rE ct a b ds
  | .UnaryOp .USub a _ => decide (o = .neg) && k1 rE ct a ds
  | .Compare a [p] [b] _ => kCmp rE ct p a b o ds
  | .Subscript a i _ => if revSl i = true then decide (o = .rev) && k1 rE ct a ds else decide (o = .ix) && notSlice i && k2 rE ct a i ds
  | .Call (.Name x _) (e :: es) [] _ => kBlt rE ct x (e :: es) o ds
  | _ => false
def kBm (e : Expr) (o : O) (da : E) (ds : List E) : Bool := match e with
  | .Call (.Attribute a m ap) (b :: bs) [] p => attrB a && (b :: bs).all notStar && (ap.endLine == p.line) && decide (bmO m (bs.length + 1) = some o) && decide ((b :: bs).length < 20) && rE ct a da && kAll rE ct (b :: bs) ds
  | _ => false
def kAnd (e : Expr) (da d : E) : Bool := match e with
  | .BoolOp .And (a :: b :: r) p => tstB a da && !isFrz d && rE ct a da && rE ct (.BoolOp .And (b :: r) p) d
  | _ => false
def kOr (e : Expr) (da d : E) : Bool := match e with
  | .BoolOp .Or (a :: b :: r) p => tstB a da && !isFrz d && rE ct a da && rE ct (.BoolOp .Or (b :: r) p) d
  | _ => false
def kNot (e : Expr) (da : E) : Bool := match e with
  | .UnaryOp .Not a _ => tstB a da && rE ct a da
  | _ => false
def kIfe (e : Expr) (dt da db : E) : Bool := match e with
  | .IfExp t a b _ => tstB t dt && rE ct t dt && rE ct a da && rE ct b db
  | _ => false
def kChain (e : Expr) (o' p' : O) (da db dc : E) : Bool := match e with
  | .Compare a [o, p] [b, c] _ => decide (cmpO o = some o') && decide (cmpO p = some p') && rE ct a da && rE ct b db && rE ct c dc
  | _ => false
def kTup (e : Expr) (ds : List E) : Bool := match e with
  | .Tuple es _ _ => kAll rE ct es ds
  | _ => false
def kLst (e : Expr) (ds : List E) : Bool := match e with
  | .List es _ => kAll rE ct es ds
  | _ => false
def kSl2 (e : Expr) (da d1 d2 : E) : Bool := match e with
  | .Subscript a (.Slice (some lo) (some hi) none _) _ => rE ct a da && rE ct lo d1 && rE ct hi d2
  | _ => false
def kSlL (e : Expr) (da d1 : E) : Bool := match e with
  | .Subscript a (.Slice (some lo) none none _) _ => rE ct a da && rE ct lo d1
  | _ => false
def kSlH (e : Expr) (da d2 : E) : Bool := match e with
  | .Subscript a (.Slice none (some hi) none _) _ => rE ct a da && rE ct hi d2
  | _ => false
def kFld (e : Expr) (da : E) (f' : Str) : Bool := match e with
  | .Attribute a f _ => attrB a && decide (f = f') && rE ct a da
  | _ => false
def kCall (e : Expr) (f : Nat) (ds : List E) : Bool := match e with
  | .Call (.Name x _) es [] _ => globB ct.sc x && decide ((x, f) ∈ ct.T.fns) && es.all notStar && kAll rE ct es ds
  | _ => false
def kMake (e : Expr) (C : Nat) (ds : List E) : Bool := match e with
  | .Call (.Name x _) es [] _ => globB ct.sc x && decide ((x, C) ∈ ct.T.cls) && (G.meth C ("__init__" : Str)).isSome && es.all notStar && kAll rE ct es ds
  | _ => false
def kMeth (e : Expr) (da : E) (m' : Str) (ds : List E) : Bool := match e with
  | .Call (.Attribute a m ap) es [] p => attrB a && decide (m = m') && decide (m ≠ ("__init__" : Str)) && (ap.endLine == p.line) && decide (es.length < 20) && es.all notStar && rE ct a da && kAll rE ct es ds
  | _ => false
def kRng1 (iter : Expr) (d : E) : Bool := match iter with
  | .Call (.Name x _) [a] [] _ => decide (x = ("range" : Str)) && globB ct.sc x && decide (x ∈ ct.T.frees) && notStar a && rE ct a d
  | _ => false
def kRng2 (iter : Expr) (d d' : E) : Bool := match iter with
  | .Call (.Name x _) [a, b] [] _ => decide (x = ("range" : Str)) && globB ct.sc x && decide (x ∈ ct.T.frees) && notStar a && notStar b && rE ct a d && rE ct b d'
  | _ => false
def isTup : Expr → Bool
  | .Tuple _ _ _ => true
  | _ => false
def kZip (tg iter : Expr) (d d' : E) : Bool := isTup tg && match iter with
  | .Call (.Name x _) [a, b] [] _ => decide (x = ("zip" : Str)) && globB ct.sc x && decide (x ∈ ct.T.frees) && notStar a && notStar b && rE ct a d && rE ct b d'
  | _ => false
def kEnum (tg iter : Expr) (d : E) : Bool := isTup tg && match iter with
  | .Call (.Name x _) [a] [] _ => decide (x = ("enumerate" : Str)) && globB ct.sc x && decide (x ∈ ct.T.frees) && notStar a && rE ct a d
  | _ => false
def kIter (k : IK) (its : List E) (tg iter : Expr) : Bool := match k, its with
  | .seq, [d] => rE ct iter d
  | .str, [d] => rE ct iter d
  | .range1, [d] => kRng1 rE ct iter d
  | .range2, [d, d'] => kRng2 rE ct iter d d'
  | .zip, [d, d'] => kZip rE ct tg iter d d'
  | .enum, [d] => kEnum rE ct tg iter d
  | _, _ => false
def kConds (es : List Expr) (ds : List E) : Bool := match es, ds with
  | [], [] => true
  | [e], [d] => tstB e d && rE ct e d
  | _, _ => false
def kComp (e : Expr) (own : List Nat) (t : Tg) (k : IK) (its conds : List E) (de : E) : Bool := match e with
  | .ListComp elt [⟨tg, iter, ifs, z⟩] scope _ => decide (z = 0) && blkC ct.N ct.sc scope (ownN ct.N own) && kIter rE ct k its tg iter && okT { ct with sc := relS scope ct.sc, raw := scope } tg t && kConds rE { ct with sc := relS scope ct.sc, raw := scope } ifs conds && rE { ct with sc := relS scope ct.sc, raw := scope } elt de && notSet iter && tgIn t own
  | _ => false
def stepD (e : Expr) (d : E) : Bool := match d with
  | .frz d => rE ct e d
  | .c d => kConst e d
  | .v i => kVar ct e i
  | .g i => kGlob ct e i
  | .op o ds => kOp rE ct e o ds
  | .bm o da ds => kBm rE ct e o da ds
  | .opC o ds => kNew e o ds
  | .and_ a b => kAnd rE ct e a b
  | .or_ a b => kOr rE ct e a b
  | .not_ a => kNot rE ct e a
  | .ife t a b => kIfe rE ct e t a b
  | .chain o p a b c => kChain rE ct e o p a b c
  | .tup ds => kTup rE ct e ds
  | .lst ds => kLst rE ct e ds
  | .mlst ds => kLst rE ct e ds
  | .sl2 a b c => kSl2 rE ct e a b c
  | .slL a b => kSlL rE ct e a b
  | .slH a b => kSlH rE ct e a b
  | .fld a f => kFld rE ct e a f
  | .call f ds => !ct.hot && kCall rE ct e f ds
  | .make C ds => !ct.hot && kMake G rE ct e C ds
  | .meth o m ds => !ct.hot && kMeth rE ct e o m ds
  | .comp _ own t k its conds de => !ct.hot && kComp rE ct e own t k its conds de
def stepE (e : Expr) (d : E) : Bool := match e with
  | .BoolOp _ [a] _ => tstB a d && rE ct a d
  | e => stepD G rE ct e d
end
def okE (G : Pg) : Nat → Ct → Expr → E → Bool
  | 0 => fun _ _ _ => false
  | n + 1 => stepE G (okE G n)
section
variable {G : Pg} {Φ : Nat → List PD.W → List M → Rs PD.W} {cad : Nat → Addr} {X : Cx} {ct : Ct} {k : Nat}
theorem visB_ok {sc : Scope} {x : Str} (h : visB sc x = true) : Vis sc x := by
  unfold visB at h
  simp only [Bool.or_eq_true, decide_eq_true_eq] at h
  rcases h with (h | h) | h
  · exact .inl h
  · exact .inr (.inl h)
  · exact .inr (.inr h)
theorem locB_ok (st : StX ct G Φ cad k X) {x : Str} (h : locB ct x = true) : Loc X.env.scope x ∧ (X.fn x = true ∨ X.env.scope.names.lookup x = some .local) := by
  unfold locB at h
  simp only [Bool.or_eq_true, Bool.and_eq_true, decide_eq_true_eq] at h
  rw [← st.sc] at h
  rcases h with h | ⟨h1, h2⟩
  · exact ⟨.inl h, .inr h⟩
  · exact ⟨.inr h1, .inl (st.fnc x h2)⟩
theorem globB_ok (st : StX ct G Φ cad k X) {x : Str} (h : globB ct.sc x = true) : Gl X x ∧ (x == ("__debug__" : Str)) = false ∧ x ≠ "__name__" := by
  unfold globB at h
  simp only [Bool.and_eq_true, decide_eq_true_eq, Bool.not_eq_true'] at h
  refine ⟨?_, h.1.1.2, fun z => ?_⟩
  · show X.env.scope.names.lookup x = _
    rw [st.sc]
    exact h.1.1.1
  · have := h.1.2
    rw [z] at this
    exact absurd this (by decide)
mutual
theorem okT_ok (st : StX ct G Φ cad k X) : ∀ (tg : Expr) (t : Tg), okT ct tg t = true → SG X t tg
  | .Name x _, .n i, h => by
    have h : (decide (ct.N[i]? = some x) && locB ct x) = true := h
    rw [Bool.and_eq_true] at h
    obtain ⟨h1, h2⟩ := locB_ok st h.2
    exact g_name (by rw [st.hN]; exact st.nd) (by rw [st.hN]; exact of_decide_eq_true h.1) h1 h2
  | .Tuple es _ _, .t ts, h => by
    obtain ⟨hc, h⟩ := cold_of (show (!ct.hot && okTs ct es ts) = true from h)
    obtain ⟨h1, h2, h3⟩ := okTs_ok st es ts h
    exact g_tup (st.calm hc) h2 h3 h1
theorem okTs_ok (st : StX ct G Φ cad k X) : ∀ (es : List Expr) (ts : List Tg), okTs ct es ts = true → SGs X ts es ∧ es.all notStar = true ∧ es.length = ts.length
  | [], [], _ => ⟨gs_nil, rfl, rfl⟩
  | [], _ :: _, h => by cases h
  | _ :: _, [], h => by cases h
  | e :: es, t :: ts, h => by
    have h : (notStar e && okT ct e t && okTs ct es ts) = true := h
    simp only [Bool.and_eq_true] at h
    obtain ⟨h1, h2, h3⟩ := okTs_ok st es ts h.2
    exact ⟨gs_cons h.1.1 (okT_ok st e t h.1.2) h1, by rw [List.all_cons, h.1.1, h2]; rfl, by rw [List.length_cons, List.length_cons, h3]⟩
end
theorem okC1_ok (st : StX ct G Φ cad k X) {e : Expr} {t : Nat} (h : okC1 ct e t = true) : ClsE X cad t e := by
  unfold okC1 at h
  split at h
  · rename_i x pos
    simp only [Bool.and_eq_true, Bool.or_eq_true, decide_eq_true_eq] at h
    obtain ⟨hg, h⟩ := h
    obtain ⟨g1, g2, g3⟩ := globB_ok st hg
    rcases h with ⟨h1, h2⟩ | h
    · have z := cls_own (cad := cad) (pos := pos) (C := t - 10) g1 (st.wd.cl _ _ h2) g2
      rw [show t - 10 + 10 = t from by omega] at z
      exact z
    · obtain ⟨b1, b2, b3, b4, b5⟩ := st.wd.bt _ _ h
      exact cls_bt b1 g1 (st.wd.free _ b2) b3 b4 b5
  · cases h
theorem okCs_ok (st : StX ct G Φ cad k X) : ∀ {es : List Expr} {ts : List Nat}, okCs ct es ts = true → ClsEs X cad ts es
  | [], [], _ => .nil
  | [], _ :: _, h => by cases h
  | _ :: _, [], h => by cases h
  | e :: es, t :: ts, h => by
    have h : (okC1 ct e t && okCs ct es ts) = true := h
    rw [Bool.and_eq_true] at h
    exact .cons (okC1_ok st h.1) (okCs_ok st h.2)
theorem base_of {a : Expr} {m : Str} {env : Env} {w : Sem Value} (h : attrB a = true) : attributeBase a m env w = w := by
  cases a with
  | Call f es kws p =>
    cases f <;> cases es <;> cases kws <;> first | rfl | cases h
  | _ => rfl
theorem plain_tst {a : Expr} {env : Env} (h1 : notIf a = true) (h2 : isBO a = false) (h3 : ∀ x p, a ≠ .UnaryOp .Not x p) (h4 : ∀ l o c p, a ≠ .Compare l o c p) : ∀ whole, isTrue a env whole = (do let v ← whole; standAt a.pos; holding [v] (truthy v)) := by
  intro whole
  cases a with
  | UnaryOp o x p => cases o <;> first | rfl | exact absurd rfl (h3 _ _)
  | BoolOp _ _ _ => cases h2
  | IfExp _ _ _ _ => cases h1
  | Compare _ _ _ _ => exact absurd rfl (h4 _ _ _ _)
  | _ => rfl
theorem ev_meth {a : Expr} {m : Str} {env : Env} {es : List Expr} {ap p : Pos} (h : attrB a = true) (hl : (ap.endLine == p.line) = true) (hs : es.all notStar = true) (hn : es.length < 21) : eval (.Call (.Attribute a m ap) es [] p) env = (do
      let ov ← eval a env
      standAt ap.atName
      let (f, first) ← holding [ov] (getMethod ov m (do return (← importBound a env).getD true))
      callWith p f first (backTo p (starEach es env)) (backToKw p (keywordEach [] env))) := by
  have st : ∀ es : List Expr, es.all notStar = true → (backTo p (starEach es env)).all (!·.1) = true := fun es => by
    induction es with
    | nil => exact fun _ => rfl
    | cons e es ih =>
      intro h
      rw [List.all_cons, Bool.and_eq_true] at h
      have e1 : starEach (e :: es) env = (false, eval e env) :: starEach es env := by cases e <;> first | rfl | cases h.1
      rw [e1]
      have i := ih h.2
      unfold backTo at i ⊢
      rw [List.map_cons, List.all_cons, i]
      rfl
  have hf : methodCallForm (es.length + ([] : List Keyword).length) (backTo p (starEach es env)) (backToKw p (keywordEach [] env)) = true := by
    unfold methodCallForm
    rw [st es hs]
    have e2 : (backToKw p (keywordEach [] env)) = [] := rfl
    rw [e2]
    simp
    omega
  rw [arm_eval_Call, base_of h]
  unfold methodCall
  rw [hf]
  unfold methodCallPos
  rw [hl]
  rfl
end
end PD
set_option Elab.async false
set_option linter.all false
set_option maxRecDepth 100000
set_option maxHeartbeats 4000000
/-! PyD13: what the look at an expression passes keeps its promise. -/
namespace PD
open PySem PySem.Spec PyProof.Rows L2
theorem isDnil_of {d : D} (h : isDnil d = true) : d = .dct [] [] := by
  unfold isDnil at h
  split at h
  · rfl
  · cases h
section
variable (G : Pg) (Φ : Nat → List PD.W → List M → Rs PD.W) (cad : Nat → Addr)
def SEv (X : Cx) (d : E) (e : Expr) : Prop := SE G Φ cad X d e ∧ (tstB e d = true → ST G Φ cad X d e) ∧ (isBO e = true → isFrz d = false → SW G Φ cad X d e)
end
section
variable {G : Pg} {Φ : Nat → List PD.W → List M → Rs PD.W} {cad : Nat → Addr} {X : Cx} {ct : Ct} {k : Nat} {rE : Ct → Expr → E → Bool} {e : Expr} {d : E}
theorem bsplit {a b : Bool} (h : (a && b) = true) : a = true ∧ b = true := by rw [Bool.and_eq_true] at h; exact h
theorem sev_plain (h : SE G Φ cad X d e) (hp : notIf e = true → ∀ whole, isTrue e X.env whole = (do let v ← whole; standAt e.pos; holding [v] (truthy v))) (hb : isBO e = false) : SEv G Φ cad X d e :=
  ⟨h, fun t => st_plain h (hp (bsplit t).2), fun z => by rw [hb] at z; cases z⟩
theorem sev_t (h : SE G Φ cad X d e) (ht : ST G Φ cad X d e) (hb : isBO e = false) : SEv G Φ cad X d e := ⟨h, fun _ => ht, fun z => by rw [hb] at z; cases z⟩
variable (st : StX ct G Φ cad k X)
include st
theorem units64 : X.A.units + 64 < cLine := by have := st.un; omega
theorem units100 : X.A.units + 100 < cLine := st.un
theorem kConst_ok {e : Expr} {v : D} (h : kConst e v = true) : SEv G Φ cad X (.c v) e := by
  unfold kConst at h
  split at h
  · exact sev_plain (r_const h) (fun _ _ => rfl) rfl
  · cases isDnil_of h
    exact sev_plain r_dnil (fun _ _ => rfl) rfl
  · cases h
theorem kNew_ok {e : Expr} {o : O} {ds : List E} (h : kNew e o ds = true) : SEv G Φ cad X (.opC o ds) e := by
  unfold kNew at h
  split at h
  · cases isDnil_of h
    exact sev_plain r_dnewC (fun _ _ => rfl) rfl
  · cases h
theorem kVar_ok {e : Expr} {i : Nat} (h : kVar ct e i = true) : SEv G Φ cad X (.v i) e := by
  cases e with
  | Name x p =>
    have h : (decide (ct.N[i]? = some x) && visB ct.sc x && !(x == ("__debug__" : Str)) && !(x == ("__classdict__" : Str))) = true := h
    obtain ⟨h, h4⟩ := bsplit h
    obtain ⟨h, h3⟩ := bsplit h
    obtain ⟨h1, h2⟩ := bsplit h
    exact sev_plain (r_var (by rw [st.hN]; exact of_decide_eq_true h1) (by rw [st.sc]; exact visB_ok h2) (by simpa using h3) (by simpa using h4)) (fun _ _ => rfl) rfl
  | _ => cases h
theorem kGlob_ok {e : Expr} {i : Nat} (h : kGlob ct e i = true) : SEv G Φ cad X (.g i) e := by
  cases e with
  | Name x p =>
    have h : (decide (ct.T.csts[i]? = some x) && globB ct.sc x) = true := h
    obtain ⟨h1, h2⟩ := bsplit h
    obtain ⟨g1, g2, g3⟩ := globB_ok st h2
    refine sev_plain ?_ (fun _ _ => rfl) rfl
    cases q : G.csts[i]? with
    | none => exact r_globN q
    | some d =>
      obtain ⟨u, v, hm, r, hv⟩ := st.wd.cst i x d (of_decide_eq_true h1) q
      exact r_glob g1 hm r q hv g2
  | _ => cases h
variable (ih : ∀ ct e d X, StX ct G Φ cad k X → rE ct e d = true → SEv G Φ cad X d e)
include ih
theorem kAll_ok : ∀ {es : List Expr} {ds : List E}, kAll rE ct es ds = true → SA G Φ cad X ds es
  | [], [], _ => r_nil
  | [], _ :: _, h => by cases h
  | _ :: _, [], h => by cases h
  | e :: es, d :: ds, h => by
    have h : (notStar e && rE ct e d && kAll rE ct es ds) = true := h
    obtain ⟨h, h3⟩ := bsplit h
    obtain ⟨h1, h2⟩ := bsplit h
    exact r_cons h1 (ih _ _ _ _ st h2).1 (kAll_ok h3)
theorem k1_ok {a : Expr} {ds : List E} (h : k1 rE ct a ds = true) : ∃ da, ds = [da] ∧ SE G Φ cad X da a := by
  match ds, h with
  | [da], h => exact ⟨da, rfl, (ih _ _ _ _ st h).1⟩
theorem k2_ok {a b : Expr} {ds : List E} (h : k2 rE ct a b ds = true) : ∃ da db, ds = [da, db] ∧ SE G Φ cad X da a ∧ SE G Φ cad X db b := by
  match ds, h with
  | [da, db], h =>
    have h : (rE ct a da && rE ct b db) = true := h
    obtain ⟨h1, h2⟩ := bsplit h
    exact ⟨da, db, rfl, (ih _ _ _ _ st h1).1, (ih _ _ _ _ st h2).1⟩
theorem cmpO_ok {p : CmpOp} {o : O} (h : cmpO p = some o) : cmpBl o = true ∧ OpR X (compareOp p) (r2O X.K cad G.isT o) ∧ p ≠ .In ∧ p ≠ .NotIn := by
  cases p with
  | Eq => cases (show some O.eq = some o from h); exact ⟨rfl, op_eqP (units64 st), (by decide), (by decide)⟩
  | NotEq => cases (show some O.ne = some o from h); exact ⟨rfl, op_neP (units64 st), (by decide), (by decide)⟩
  | Lt => cases (show some O.lt = some o from h); exact ⟨rfl, op_ltP, (by decide), (by decide)⟩
  | LtE => cases (show some O.le = some o from h); exact ⟨rfl, op_leP, (by decide), (by decide)⟩
  | Gt => cases (show some O.gt = some o from h); exact ⟨rfl, op_gtP, (by decide), (by decide)⟩
  | GtE => cases (show some O.ge = some o from h); exact ⟨rfl, op_geP, (by decide), (by decide)⟩
  | _ => cases (show none = some o from h)
theorem binO_ok {p : Operator} {o : O} (h : binO p = some o) : OpR X (binaryOp p) (r2O X.K cad G.isT o) := by
  cases p with
  | Add => cases (show some O.add = some o from h); exact op_addP
  | Sub => cases (show some O.sub = some o from h); exact op_subP
  | Mult => cases (show some O.mul = some o from h); exact op_mulP
  | FloorDiv => cases (show some O.fdiv = some o from h); exact op_fdivP
  | Mod => cases (show some O.mod = some o from h); exact op_modP
  | Pow => cases (show some O.pow = some o from h); exact op_powP
  | _ => cases (show none = some o from h)
theorem none_of {b : Expr} (h : isNoneE b = true) : ∃ j p, b = .Constant .none j p := by
  cases b with
  | Constant c j p =>
    cases c with
    | none => exact ⟨j, p, rfl⟩
    | _ => cases h
  | _ => cases h
theorem bool_of {b : Expr} {c : Bool} (h : boolE b = some c) : ∃ j p, b = .Constant (.bool c) j p := by
  cases b with
  | Constant k j p =>
    cases k with
    | bool b => cases h; exact ⟨j, p, rfl⟩
    | _ => cases h
  | _ => cases h
theorem rev_of {i : Expr} (h : revSl i = true) : ∃ k p1 p2 p3, i = .Slice none none (some (.UnaryOp .USub (.Constant (.int 1) k p1) p2)) p3 := by
  unfold revSl at h
  split at h
  · exact ⟨_, _, _, _, rfl⟩
  · cases h
theorem behind_of {op : CmpOp} {b : Expr} (h : notSet b = true) : behindInMarks op b = false := by
  cases b <;> first | rfl | cases h
theorem kCmp_ok {p : CmpOp} {a b : Expr} {o : O} {ds : List E} {pos : Pos} (h : kCmp rE ct p a b o ds = true) : SEv G Φ cad X (.op o ds) (.Compare a [p] [b] pos) := by
  have gen : ∀ p, (decide (cmpO p = some o) && k2 rE ct a b ds) = true → SEv G Φ cad X (.op o ds) (.Compare a [p] [b] pos) := fun p h => by
    obtain ⟨h1, h2⟩ := bsplit h
    obtain ⟨c1, c2, c3, c4⟩ := cmpO_ok st ih (of_decide_eq_true h1)
    obtain ⟨da, db, rfl, ha, hb⟩ := k2_ok st ih h2
    exact sev_t (r_cmp c2 ha hb (nobehind _ c3 c4)) (t_cmp c1 c2 ha hb (nobehind _ c3 c4)) rfl
  cases p with
  | Is =>
    have h : (k1 rE ct a ds && (match boolE b with | some c => decide (o = .isB c) | none => decide (o = .isN) && isNoneE b)) = true := h
    obtain ⟨h3, h4⟩ := bsplit h
    clear h
    obtain ⟨da, rfl, ha⟩ := k1_ok st ih h3
    cases hb : boolE b with
    | some c =>
      rw [hb] at h4
      obtain ⟨j, p2, rfl⟩ := bool_of st ih hb
      have h4 := of_decide_eq_true h4
      subst h4
      exact sev_t (r_isB op_isBP ha rfl) (t_isB rfl op_isBP ha rfl) rfl
    | none =>
      rw [hb] at h4
      obtain ⟨h1, h2⟩ := bsplit h4
      have h1 := of_decide_eq_true h1
      subst h1
      obtain ⟨j, p2, rfl⟩ := none_of st ih h2
      exact sev_t (r_isN op_isNP ha rfl) (t_isN rfl op_isNP ha rfl) rfl
  | IsNot =>
    have h : (k1 rE ct a ds && (match boolE b with | some c => decide (o = .ntB c) | none => decide (o = .notN) && isNoneE b)) = true := h
    obtain ⟨h3, h4⟩ := bsplit h
    clear h
    obtain ⟨da, rfl, ha⟩ := k1_ok st ih h3
    cases hb : boolE b with
    | some c =>
      rw [hb] at h4
      obtain ⟨j, p2, rfl⟩ := bool_of st ih hb
      have h4 := of_decide_eq_true h4
      subst h4
      exact sev_t (r_isB op_ntBP ha rfl) (t_isB rfl op_ntBP ha rfl) rfl
    | none =>
      rw [hb] at h4
      obtain ⟨h1, h2⟩ := bsplit h4
      have h1 := of_decide_eq_true h1
      subst h1
      obtain ⟨j, p2, rfl⟩ := none_of st ih h2
      exact sev_t (r_isN op_notNP ha rfl) (t_isN rfl op_notNP ha rfl) rfl
  | In =>
    have h : (decide (o = .in_) && notSet b && k2 rE ct a b ds) = true := h
    obtain ⟨h, h3⟩ := bsplit h
    obtain ⟨h1, h2⟩ := bsplit h
    have h1 := of_decide_eq_true h1
    subst h1
    obtain ⟨da, db, rfl, ha, hb⟩ := k2_ok st ih h3
    exact sev_t (r_cmp (op_inP (units100 st)) ha hb (behind_of st ih h2)) (t_cmp rfl (op_inP (units100 st)) ha hb (behind_of st ih h2)) rfl
  | NotIn =>
    have h : (decide (o = .notin) && notSet b && k2 rE ct a b ds) = true := h
    obtain ⟨h, h3⟩ := bsplit h
    obtain ⟨h1, h2⟩ := bsplit h
    have h1 := of_decide_eq_true h1
    subst h1
    obtain ⟨da, db, rfl, ha, hb⟩ := k2_ok st ih h3
    exact sev_t (r_cmp (op_notinP (units100 st)) ha hb (behind_of st ih h2)) (t_cmp rfl (op_notinP (units100 st)) ha hb (behind_of st ih h2)) rfl
  | Eq => exact gen _ h
  | NotEq => exact gen _ h
  | Lt => exact gen _ h
  | LtE => exact gen _ h
  | Gt => exact gen _ h
  | GtE => exact gen _ h
theorem kIsi_ok {a c : Expr} {ts : List Nat} {ds : List E} {p pos : Pos} (hg : Gl X "isinstance") (hm : X.mg "isinstance" = none) (h : kIsi rE ct a c ts ds = true) : SE G Φ cad X (.op (.isi ts) ds) (.Call (.Name "isinstance" p) [a, c] [] pos) := by
  unfold kIsi at h
  obtain ⟨h, h3⟩ := bsplit h
  obtain ⟨h1, h2⟩ := bsplit h
  obtain ⟨da, rfl, ha⟩ := k1_ok st ih h2
  have one : ∀ c, (match ts with | [t] => okC1 ct c t | _ => false) = true → SE G Φ cad X (.op (.isi ts) [da]) (.Call (.Name "isinstance" p) [a, c] [] pos) := fun c h => by
    match ts, h with
    | [t], h => exact r_is1 st.wd.isi hg hm ha h1 (okC1_ok st h)
  cases c with
  | Tuple cs k2 p2 =>
    have h3 : (decide (ts ≠ []) && decide (ts.length ≤ 100) && okCs ct cs ts) = true := h3
    obtain ⟨h4, h5⟩ := bsplit h3
    obtain ⟨h6, h7⟩ := bsplit h4
    exact r_isM st.wd.isi (of_decide_eq_true h6) (of_decide_eq_true h7) hg hm ha h1 (okCs_ok st h5)
  | _ => exact one _ h3
theorem bltO_ok (cold : ct.hot = false) {x : Str} {es : List Expr} {e : Expr} {o : O} {ds : List E} {p pos : Pos} (hg : Gl X x) (hm : X.mg x = none) (h : bltO x (es.length + 1) = some o) (hs : (e :: es).all notStar = true) (ha : SA G Φ cad X ds (e :: es)) (hn : x ≠ "__name__") (hdb : (x == ("__debug__" : Str)) = false) :
    SE G Φ cad X (.op o ds) (.Call (.Name x p) (e :: es) [] pos) := by
  unfold bltO at h
  have one : ∀ {o' : O} {m n : Nat}, (if n = m then some o' else none) = some o → o' = o := fun {o' m n} h => by
    by_cases z : n = m
    · rw [if_pos z] at h; exact Option.some.inj h
    · rw [if_neg z] at h; cases h
  by_cases z : x = ("len" : Str)
  · rw [if_pos z] at h; subst z; cases one h; exact r_blt call_lenP hg hm PySem.boot_len ha hs hn hdb
  rw [if_neg z] at h
  by_cases z : x = ("abs" : Str)
  · rw [if_pos z] at h; subst z; cases one h; exact r_blt call_absP hg hm PyProof.Rows.boot_abs ha hs hn hdb
  rw [if_neg z] at h
  by_cases z : x = ("int" : Str)
  · rw [if_pos z] at h; subst z; cases one h; exact r_bltT call_intP hg hm PyProof.Rows.boot_int ha hs hn hdb
  rw [if_neg z] at h
  by_cases z : x = ("str" : Str)
  · rw [if_pos z] at h; subst z; cases one h; exact r_bltT call_strP hg hm PyProof.Rows.boot_str ha hs hn hdb
  rw [if_neg z] at h
  by_cases z : x = ("tuple" : Str)
  · rw [if_pos z] at h; subst z; cases one h; exact r_bltT call_tupP hg hm PyProof.Rows.boot_tuple ha hs hn hdb
  rw [if_neg z] at h
  by_cases z : x = ("list" : Str)
  · rw [if_pos z] at h; subst z; cases one h; exact r_bltT call_lstP hg hm PyProof.Rows.boot_list ha hs hn hdb
  rw [if_neg z] at h
  by_cases z : x = ("all" : Str)
  · rw [if_pos z] at h; subst z; cases one h; exact r_blt (call_allP (st.calm cold)) hg hm PyProof.Rows.boot_all ha hs hn hdb
  rw [if_neg z] at h
  by_cases z : x = ("any" : Str)
  · rw [if_pos z] at h; subst z; cases one h; exact r_blt (call_anyP (st.calm cold)) hg hm PyProof.Rows.boot_any ha hs hn hdb
  rw [if_neg z] at h
  by_cases z : x = ("sum" : Str)
  · rw [if_pos z] at h; subst z; cases one h; exact r_blt (call_sumP (st.calm cold)) hg hm PyProof.Rows.boot_sum ha hs hn hdb
  rw [if_neg z] at h
  by_cases z : x = ("divmod" : Str)
  · rw [if_pos z] at h; subst z; cases one h; exact r_blt call_divmodP hg hm PyProof.Rows.boot_divmod ha hs hn hdb
  rw [if_neg z] at h
  by_cases z : x = ("min" : Str)
  · rw [if_pos z] at h; subst z; cases one h; exact r_blt (call_min2P (st.calm cold)) hg hm PyProof.Rows.boot_min ha hs hn hdb
  rw [if_neg z] at h
  by_cases z : x = ("max" : Str)
  · rw [if_pos z] at h; subst z; cases one h; exact r_blt (call_max2P (st.calm cold)) hg hm PyProof.Rows.boot_max ha hs hn hdb
  rw [if_neg z] at h
  cases h
theorem kBlt_ok {x : Str} {es : List Expr} {e : Expr} {o : O} {ds : List E} {p pos : Pos} (h : kBlt rE ct x (e :: es) o ds = true) : SE G Φ cad X (.op o ds) (.Call (.Name x p) (e :: es) [] pos) := by
  unfold kBlt at h
  obtain ⟨h, h3⟩ := bsplit h
  obtain ⟨h1, h2⟩ := bsplit h
  obtain ⟨g1, g2, g3⟩ := globB_ok st h1
  have hm := st.wd.free x (of_decide_eq_true h2)
  have gen : ∀ o, (!ct.hot && (decide (bltO x (e :: es).length = some o) && (e :: es).all notStar && kAll rE ct (e :: es) ds)) = true → SE G Φ cad X (.op o ds) (.Call (.Name x p) (e :: es) [] pos) := fun o h => by
    obtain ⟨cold, h⟩ := cold_of h
    obtain ⟨h, h3⟩ := bsplit h
    obtain ⟨h1, h2⟩ := bsplit h
    exact bltO_ok st ih cold g1 hm (of_decide_eq_true h1) h2 (kAll_ok st ih h3) g3 g2
  cases o with
  | isi ts =>
    match es, h3 with
    | [c], h3 =>
      have h3 : (decide (x = ("isinstance" : Str)) && kIsi rE ct e c ts ds) = true := h3
      obtain ⟨h4, h5⟩ := bsplit h3
      have h4 := of_decide_eq_true h4
      subst h4
      exact kIsi_ok st ih g1 hm h5
  | setlen =>
    simp only at h3
    split at h3
    · rename_i y p2 a q heq
      cases heq
      obtain ⟨h3, k7⟩ := bsplit h3
      obtain ⟨h3, k6⟩ := bsplit h3
      obtain ⟨h3, k5⟩ := bsplit h3
      obtain ⟨h3, k4⟩ := bsplit h3
      obtain ⟨h3, k3⟩ := bsplit h3
      obtain ⟨k1', k2'⟩ := bsplit h3
      have k2' := of_decide_eq_true k2'
      have k3 := of_decide_eq_true k3
      subst k2'
      subst k3
      obtain ⟨da, rfl, ha⟩ := k1_ok st ih k7
      obtain ⟨f1, f2, f3⟩ := globB_ok st k4
      exact r_lenset (st.calm (by simpa using k1')) (units64 st) g1 hm f1 (st.wd.free _ (of_decide_eq_true k5)) ha k6
    · cases h3
  | _ => exact gen _ h3
theorem kOp_ok {e : Expr} {o : O} {ds : List E} (h : kOp rE ct e o ds = true) : SEv G Φ cad X (.op o ds) e := by
  unfold kOp at h
  split at h
  · rename_i a p b pos
    obtain ⟨h1, h2⟩ := bsplit h
    obtain ⟨da, db, rfl, ha, hb⟩ := k2_ok st ih h2
    exact sev_plain (r_bin (binO_ok st ih (of_decide_eq_true h1)) ha hb) (fun _ _ => rfl) rfl
  · rename_i a pos
    obtain ⟨h1, h2⟩ := bsplit h
    obtain ⟨da, rfl, ha⟩ := k1_ok st ih h2
    have h1 := of_decide_eq_true h1
    subst h1
    exact sev_plain (r_un un_negP ha) (fun _ _ => rfl) rfl
  · exact kCmp_ok st ih h
  · rename_i a i pos
    by_cases hr : revSl i = true
    · rw [if_pos hr] at h
      obtain ⟨h1, h2⟩ := bsplit h
      obtain ⟨da, rfl, ha⟩ := k1_ok st ih h2
      have h1 := of_decide_eq_true h1
      subst h1
      obtain ⟨k, p1, p2, p3, rfl⟩ := rev_of st ih hr
      exact sev_plain (r_rev ha) (fun _ _ => rfl) rfl
    · rw [if_neg hr] at h
      obtain ⟨h, h3⟩ := bsplit h
      obtain ⟨h1, h2⟩ := bsplit h
      obtain ⟨da, db, rfl, ha, hb⟩ := k2_ok st ih h3
      have h1 := of_decide_eq_true h1
      subst h1
      exact sev_plain (r_ix (ix_P (units100 st)) ha hb (by cases i <;> first | (intro _ _; rfl) | cases h2)) (fun _ _ => rfl) rfl
  · exact sev_plain (kBlt_ok st ih h) (fun _ _ => rfl) rfl
  · cases h
theorem kBm_ok {e : Expr} {o : O} {da : E} {ds : List E} (h : kBm rE ct e o da ds = true) : SEv G Φ cad X (.bm o da ds) e := by
  unfold kBm at h
  split at h
  · rename_i a m ap b bs p
    obtain ⟨h, h7⟩ := bsplit h
    obtain ⟨h, h6⟩ := bsplit h
    obtain ⟨h, h5⟩ := bsplit h
    obtain ⟨h, h4⟩ := bsplit h
    obtain ⟨h, h3⟩ := bsplit h
    obtain ⟨h1, h2⟩ := bsplit h
    have ha := (ih _ _ _ _ st h6).1
    have hl := of_decide_eq_true h5
    have hu := units100 st
    cases ds with
    | nil => cases h7
    | cons db dbs =>
    have hb := kAll_ok st ih h7
    refine sev_plain ?_ (fun _ _ => rfl) rfl
    have h4' := of_decide_eq_true h4
    clear h4
    have h4 := h4'
    clear h4'
    unfold bmO at h4
    have one : ∀ {o' : O} {m n : Nat}, (if n = m then some o' else none) = some o → o' = o := fun {o' m n} h => by
      by_cases z : n = m
      · rw [if_pos z] at h; exact Option.some.inj h
      · rw [if_neg z] at h; cases h
    have strT : ∀ {d' : D}, (∃ y, d' = .str y) → ∀ H F x, PkD X.K cad H F d' x → tyV X.K "str" x H := fun {d'} ⟨y, e⟩ H F x h => by
      subst e
      cases (show x = .str y from h)
      rfl
    have sts : ∀ {d : Option D}, (match d with | some (.str _) => true | _ => false) = true → ∃ d', d = some d' ∧ ∀ H F x, PkD X.K cad H F d' x → tyV X.K "str" x H := fun {d} h => by
      cases d with
      | none => cases h
      | some d => cases d <;> first | exact ⟨_, rfl, strT ⟨_, rfl⟩⟩ | cases h
    have dts : ∀ {d : Option D}, (match d with | some (.dct _ _) => true | _ => false) = true → ∃ d', d = some d' ∧ ∀ H F x, PkD X.K cad H F d' x → tyV X.K "dict" x H := fun {d} h => by
      cases d with
      | none => cases h
      | some d => cases d <;> first | (refine ⟨_, rfl, fun H F x h => ?_⟩; obtain ⟨a, us, rfl, ha, _⟩ := h; exact .inr (.inr (.inl ⟨rfl, .inl ⟨us, ha⟩⟩))) | cases h
    have sts' : ∀ (o : O), (∀ d, recvOk o d = (match d with | some (.str _) => true | _ => false)) → ∀ d, recvOk o d = true → ∃ d', d = some d' ∧ ∀ H F x, PkD X.K cad H F d' x → tyV X.K "str" x H := fun o e d h => sts (by rw [← e d]; exact h)
    have dts' : ∀ (o : O), (∀ d, recvOk o d = (match d with | some (.dct _ _) => true | _ => false)) → ∀ d, recvOk o d = true → ∃ d', d = some d' ∧ ∀ H F x, PkD X.K cad H F d' x → tyV X.K "dict" x H := fun o e d h => dts (by rw [← e d]; exact h)
    have eqr : ∀ d : Option D, (match d with | some (.str _) => true | _ => false) = (match d with | some (.str _) => true | _ => false) := fun _ => rfl
    have R : ∀ {o : O} {id : String} {name : Str}, (∀ d, recvOk o d = (match d with | some (.str _) => true | _ => false)) → Slot "str" name id → typeOf (.builtin id) = pure (.type "method_descriptor") → MtR X id (fun x xs H Q => rO X.K cad G.isT o (x :: xs) H Q) → m = name → SE G Φ cad X (.bm o da (db :: dbs)) (.Call (.Attribute a m ap) (b :: bs) [] p) := fun {o id name} e sl ty rule em => by
      subst em
      exact r_bmN (sts' o e) F.plainAttrs_str sl ty rule ha hb h2 hl (base_of h1) h3
    by_cases z : m = ("startswith" : Str)
    · rw [if_pos z] at h4; cases one h4; exact R (fun d => by cases d with | none => rfl | some d => cases d <;> rfl) F.slot_str_startswith F.type_str_startswith mt_swP z
    rw [if_neg z] at h4
    by_cases z : m = ("endswith" : Str)
    · rw [if_pos z] at h4; cases one h4; exact R (fun d => by cases d with | none => rfl | some d => cases d <;> rfl) F.slot_str_endswith F.type_str_endswith mt_ewP z
    rw [if_neg z] at h4
    by_cases z : m = ("partition" : Str)
    · rw [if_pos z] at h4; cases one h4; exact R (fun d => by cases d with | none => rfl | some d => cases d <;> rfl) F.slot_str_partition F.type_str_partition mt_partP z
    rw [if_neg z] at h4
    by_cases z : m = ("split" : Str)
    · rw [if_pos z] at h4; cases one h4; exact R (fun d => by cases d with | none => rfl | some d => cases d <;> rfl) F.slot_str_split F.type_str_split mt_splitP z
    rw [if_neg z] at h4
    by_cases z : m = ("join" : Str)
    · rw [if_pos z] at h4; cases one h4; exact R (fun d => by cases d with | none => rfl | some d => cases d <;> rfl) F.slot_str_join F.type_str_join mt_joinP z
    rw [if_neg z] at h4
    by_cases z : m = ("count" : Str)
    · rw [if_pos z] at h4; cases one h4; exact R (fun d => by cases d with | none => rfl | some d => cases d <;> rfl) F.slot_str_count F.type_str_count mt_countP z
    rw [if_neg z] at h4
    by_cases z : m = ("get" : Str)
    · rw [if_pos z] at h4
      subst z
      by_cases z1 : bs.length + 1 = 1
      · rw [if_pos z1] at h4
        cases Option.some.inj h4
        exact r_bmN (dts' .get1 fun d => by cases d with | none => rfl | some d => cases d <;> rfl) F.plainAttrs_dict F.slot_dict_get F.type_dict_get (mt_get1P hu) ha hb h2 hl (base_of h1) h3
      · rw [if_neg z1] at h4
        by_cases z2 : bs.length + 1 = 2
        · rw [if_pos z2] at h4
          cases Option.some.inj h4
          exact r_bmN (dts' .get2 fun d => by cases d with | none => rfl | some d => cases d <;> rfl) F.plainAttrs_dict F.slot_dict_get F.type_dict_get (mt_get2P hu) ha hb h2 hl (base_of h1) h3
        · rw [if_neg z2] at h4; cases h4
    rw [if_neg z] at h4
    cases h4
  · cases h
theorem kAnd_ok {e : Expr} {da d : E} (h : kAnd rE ct e da d = true) : SEv G Φ cad X (.and_ da d) e := by
  unfold kAnd at h
  split at h
  · rename_i a b r p
    obtain ⟨h, h4⟩ := bsplit h
    obtain ⟨h, h3⟩ := bsplit h
    obtain ⟨h1, h2⟩ := bsplit h
    obtain ⟨a1, a2, _⟩ := ih _ _ _ _ st h3
    obtain ⟨b1, _, b3⟩ := ih _ _ _ _ st h4
    have w := w_and (a2 h1) (b3 rfl (by simpa using h2))
    exact ⟨r_and a1 b1, fun _ => w.pt, fun _ _ => w⟩
  · cases h
theorem kOr_ok {e : Expr} {da d : E} (h : kOr rE ct e da d = true) : SEv G Φ cad X (.or_ da d) e := by
  unfold kOr at h
  split at h
  · rename_i a b r p
    obtain ⟨h, h4⟩ := bsplit h
    obtain ⟨h, h3⟩ := bsplit h
    obtain ⟨h1, h2⟩ := bsplit h
    obtain ⟨a1, a2, _⟩ := ih _ _ _ _ st h3
    obtain ⟨b1, _, b3⟩ := ih _ _ _ _ st h4
    have w := w_or (a2 h1) (b3 rfl (by simpa using h2))
    exact ⟨r_or a1 b1, fun _ => w.pt, fun _ _ => w⟩
  · cases h
theorem kNot_ok {e : Expr} {da : E} (h : kNot rE ct e da = true) : SEv G Φ cad X (.not_ da) e := by
  unfold kNot at h
  split at h
  · obtain ⟨h1, h2⟩ := bsplit h
    obtain ⟨a1, a2, _⟩ := ih _ _ _ _ st h2
    exact sev_t (r_not a1) (t_not (a2 h1)) rfl
  · cases h
theorem kIfe_ok {e : Expr} {dt da db : E} (h : kIfe rE ct e dt da db = true) : SEv G Φ cad X (.ife dt da db) e := by
  unfold kIfe at h
  split at h
  · obtain ⟨h, h4⟩ := bsplit h
    obtain ⟨h, h3⟩ := bsplit h
    obtain ⟨h1, h2⟩ := bsplit h
    exact sev_plain (r_ife ((ih _ _ _ _ st h2).2.1 h1) (ih _ _ _ _ st h3).1 (ih _ _ _ _ st h4).1) (fun z => by cases z) rfl
  · cases h
theorem kChain_ok {e : Expr} {o p : O} {da db dc : E} (h : kChain rE ct e o p da db dc = true) : SEv G Φ cad X (.chain o p da db dc) e := by
  unfold kChain at h
  split at h
  · obtain ⟨h, h5⟩ := bsplit h
    obtain ⟨h, h4⟩ := bsplit h
    obtain ⟨h, h3⟩ := bsplit h
    obtain ⟨h1, h2⟩ := bsplit h
    obtain ⟨c1, c2, c3, c4⟩ := cmpO_ok st ih (of_decide_eq_true h1)
    obtain ⟨e1, e2, e3, e4⟩ := cmpO_ok st ih (of_decide_eq_true h2)
    have a := (ih _ _ _ _ st h3).1
    have b := (ih _ _ _ _ st h4).1
    have c := (ih _ _ _ _ st h5).1
    exact sev_t (r_chain c2 e2 a b c (nobehind _ e3 e4)) (t_chain e1 c2 e2 a b c (nobehind _ e3 e4)) rfl
  · cases h
theorem kTup_ok {e : Expr} {ds : List E} (h : kTup rE ct e ds = true) : SEv G Φ cad X (.tup ds) e := by
  unfold kTup at h
  split at h
  · exact sev_plain (r_tup (kAll_ok st ih h)) (fun _ _ => rfl) rfl
  · cases h
theorem kLst_ok {e : Expr} {ds : List E} (h : kLst rE ct e ds = true) : SEv G Φ cad X (.lst ds) e ∧ SEv G Φ cad X (.mlst ds) e := by
  unfold kLst at h
  split at h
  · exact ⟨sev_plain (r_lst (kAll_ok st ih h)) (fun _ _ => rfl) rfl, sev_plain (r_mlst (kAll_ok st ih h)) (fun _ _ => rfl) rfl⟩
  · cases h
theorem kSl2_ok {e : Expr} {da d1 d2 : E} (h : kSl2 rE ct e da d1 d2 = true) : SEv G Φ cad X (.sl2 da d1 d2) e := by
  unfold kSl2 at h
  split at h
  · obtain ⟨h, h3⟩ := bsplit h
    obtain ⟨h1, h2⟩ := bsplit h
    exact sev_plain (r_sl2 (ih _ _ _ _ st h1).1 (ih _ _ _ _ st h2).1 (ih _ _ _ _ st h3).1) (fun _ _ => rfl) rfl
  · cases h
theorem kSlL_ok {e : Expr} {da d1 : E} (h : kSlL rE ct e da d1 = true) : SEv G Φ cad X (.slL da d1) e := by
  unfold kSlL at h
  split at h
  · obtain ⟨h1, h2⟩ := bsplit h
    exact sev_plain (r_slL (ih _ _ _ _ st h1).1 (ih _ _ _ _ st h2).1) (fun _ _ => rfl) rfl
  · cases h
theorem kSlH_ok {e : Expr} {da d1 : E} (h : kSlH rE ct e da d1 = true) : SEv G Φ cad X (.slH da d1) e := by
  unfold kSlH at h
  split at h
  · obtain ⟨h1, h2⟩ := bsplit h
    exact sev_plain (r_slH (ih _ _ _ _ st h1).1 (ih _ _ _ _ st h2).1) (fun _ _ => rfl) rfl
  · cases h
theorem kFld_ok {e : Expr} {da : E} {f : Str} (h : kFld rE ct e da f = true) : SEv G Φ cad X (.fld da f) e := by
  unfold kFld at h
  split at h
  · obtain ⟨h, h3⟩ := bsplit h
    obtain ⟨h1, h2⟩ := bsplit h
    have h2 := of_decide_eq_true h2
    subst h2
    exact sev_plain (r_fld (fun C hC => st.wd.fld C _ hC) (ih _ _ _ _ st h3).1 (base_of h1)) (fun _ _ => rfl) rfl
  · cases h
theorem kCall_ok (cold : ct.hot = false) {e : Expr} {f : Nat} {ds : List E} (h : kCall rE ct e f ds = true) : SEv G Φ cad X (.call f ds) e := by
  unfold kCall at h
  split at h
  · rename_i x p es pos
    obtain ⟨h, h4⟩ := bsplit h
    obtain ⟨h, h3⟩ := bsplit h
    obtain ⟨h1, h2⟩ := bsplit h
    obtain ⟨g1, g2, g3⟩ := globB_ok st h1
    obtain ⟨fa, fd, ps, m1, m2, m3, F⟩ := st.wd.fn _ _ (of_decide_eq_true h2)
    have hr : Room k X.A := (st.room cold).mono (Nat.le_succ k)
    refine sev_plain ?_ (fun _ _ => rfl) rfl
    cases es with
    | nil =>
      cases ds with
      | nil => exact r_call0 F hr g1 m1 m2 m3 g2
      | cons _ _ => cases h4
    | cons e es => exact r_call F hr g1 m1 m2 m3 (kAll_ok st ih h4) h3 g2
  · cases h
theorem kMake_ok (cold : ct.hot = false) {e : Expr} {C : Nat} {ds : List E} (h : kMake G rE ct e C ds = true) : SEv G Φ cad X (.make C ds) e := by
  unfold kMake at h
  split at h
  · rename_i x p es pos
    obtain ⟨h, h5⟩ := bsplit h
    obtain ⟨h, h4⟩ := bsplit h
    obtain ⟨h, h3⟩ := bsplit h
    obtain ⟨h1, h2⟩ := bsplit h
    obtain ⟨g1, g2, g3⟩ := globB_ok st h1
    have hm := st.wd.cl _ _ (of_decide_eq_true h2)
    obtain ⟨i, hi⟩ := Option.isSome_iff_exists.mp h3
    obtain ⟨fa, fd, ps, M, m3, F⟩ := st.wd.init _ _ hi
    refine sev_plain ?_ (fun _ _ => rfl) rfl
    cases es with
    | nil =>
      cases ds with
      | nil => exact r_make0 hi M F (st.room cold) g1 hm m3 g2
      | cons _ _ => cases h5
    | cons e es => exact r_make hi M F (st.room cold) g1 hm m3 (kAll_ok st ih h5) h4 g2
  · cases h
theorem kMeth_ok (cold : ct.hot = false) {e : Expr} {da : E} {m : Str} {ds : List E} (h : kMeth rE ct e da m ds = true) : SEv G Φ cad X (.meth da m ds) e := by
  unfold kMeth at h
  split at h
  · rename_i a m' ap es p
    obtain ⟨h, h8⟩ := bsplit h
    obtain ⟨h, h7⟩ := bsplit h
    obtain ⟨h, h6⟩ := bsplit h
    obtain ⟨h, h5⟩ := bsplit h
    obtain ⟨h, h4⟩ := bsplit h
    obtain ⟨h, h3⟩ := bsplit h
    obtain ⟨h1, h2⟩ := bsplit h
    have h2 := of_decide_eq_true h2
    subst h2
    have hn := of_decide_eq_true h3
    have hl := of_decide_eq_true h5
    have hr : Room k X.A := (st.room cold).mono (Nat.le_succ k)
    have hc : ∀ C i, G.meth C m' = some i → Cls X.K (cad C) ∧ ∃ f, Meth X.K (cad C) m' f ∧ okM X G Φ cad m' (cad C) f (spOf X.K cad (Φ i)) := fun C i hi => by
      obtain ⟨cl, f, fd, ps, hm, hb, F⟩ := st.wd.meth C m' i hi hn
      exact ⟨cl, f, hm, C, i, k, fd, ps, rfl, hi, rfl, F, hr, hb⟩
    have ha := (ih _ _ _ _ st h7).1
    have ev := ev_meth (m := m') (env := X.env) h1 h4 h6 (by omega)
    refine sev_plain ?_ (fun _ _ => rfl) rfl
    cases es with
    | nil =>
      cases ds with
      | nil => exact r_meth0 hc ha ev
      | cons _ _ => cases h8
    | cons e es => exact r_meth hc ha (kAll_ok st ih h8) h6 ev
  · cases h
theorem kIter_ok {q : IK} {its : List E} {tg iter : Expr} (h : kIter rE ct q its tg iter = true) : SI G Φ cad X q its tg iter := by
  unfold kIter at h
  split at h
  · exact i_seq (ih _ _ _ _ st h).1
  · exact i_str (ih _ _ _ _ st h).1
  · rename_i d
    unfold kRng1 at h
    split at h
    · obtain ⟨h, h5⟩ := bsplit h
      obtain ⟨h, h4⟩ := bsplit h
      obtain ⟨h, h3⟩ := bsplit h
      obtain ⟨h1, h2⟩ := bsplit h
      have h1 := of_decide_eq_true h1
      subst h1
      exact i_range1 (globB_ok st h2).1 (st.wd.free _ (of_decide_eq_true h3)) (r_cons h4 (ih _ _ _ _ st h5).1 r_nil) h4
    · cases h
  · rename_i d d'
    unfold kRng2 at h
    split at h
    · obtain ⟨h, h7⟩ := bsplit h
      obtain ⟨h, h6⟩ := bsplit h
      obtain ⟨h, h5⟩ := bsplit h
      obtain ⟨h, h4⟩ := bsplit h
      obtain ⟨h, h3⟩ := bsplit h
      obtain ⟨h1, h2⟩ := bsplit h
      have h1 := of_decide_eq_true h1
      subst h1
      exact i_range2 (globB_ok st h2).1 (st.wd.free _ (of_decide_eq_true h3)) (r_cons h4 (ih _ _ _ _ st h6).1 (r_cons h5 (ih _ _ _ _ st h7).1 r_nil)) h4 h5
    · cases h
  · rename_i d d'
    unfold kZip at h
    have hh := bsplit h
    clear h
    obtain ⟨h0, h⟩ := hh
    cases tg with
    | Tuple elts kk tp =>
      split at h
      · obtain ⟨h, h7⟩ := bsplit h
        obtain ⟨h, h6⟩ := bsplit h
        obtain ⟨h, h5⟩ := bsplit h
        obtain ⟨h, h4⟩ := bsplit h
        obtain ⟨h, h3⟩ := bsplit h
        obtain ⟨h1, h2⟩ := bsplit h
        have h1 := of_decide_eq_true h1
        subst h1
        exact i_zip (globB_ok st h2).1 (st.wd.free _ (of_decide_eq_true h3)) (r_cons h4 (ih _ _ _ _ st h6).1 (r_cons h5 (ih _ _ _ _ st h7).1 r_nil)) h4 h5
      · cases h
    | _ => cases h0
  · rename_i d
    unfold kEnum at h
    have hh := bsplit h
    clear h
    obtain ⟨h0, h⟩ := hh
    cases tg with
    | Tuple elts kk tp =>
      split at h
      · obtain ⟨h, h5⟩ := bsplit h
        obtain ⟨h, h4⟩ := bsplit h
        obtain ⟨h, h3⟩ := bsplit h
        obtain ⟨h1, h2⟩ := bsplit h
        have h1 := of_decide_eq_true h1
        subst h1
        exact i_enum (globB_ok st h2).1 (st.wd.free _ (of_decide_eq_true h3)) (r_cons h4 (ih _ _ _ _ st h5).1 r_nil) h4
      · cases h
    | _ => cases h0
  · cases h
theorem ownN_snd {N : List Str} (own : List Nat) : (ownN N own).map (·.2) = own := by
  unfold ownN
  rw [List.map_map]
  exact List.map_id own
omit ih in
/-- the context of a block -/
theorem StX.blk (s : Shared) (H : Hp) (scope : Scope) (C : Addr) (cl : List (Str × Addr)) (fp : List Addr) : StX { ct with sc := relS scope ct.sc, raw := scope } G Φ cad k (X.blk s H scope (compEnvC scope cl C X.env) fp) :=
  ⟨st.hN, by rw [← st.sc]; rfl, st.nd, st.cold, st.un, fun x h => by
    show (scope.names.lookup x == some .cell) = true
    rw [show scope.names.lookup x = some .cell from h]
    rfl, st.wd⟩
theorem kConds_ok {es : List Expr} {ds : List E} (h : kConds rE ct es ds = true) : SC G Φ cad X ds es := by
  unfold kConds at h
  split at h
  · exact c_nil
  · obtain ⟨h1, h2⟩ := bsplit h
    exact c_one ((ih _ _ _ _ st h2).2.1 h1)
  · cases h
theorem kComp_parts (cold : ct.hot = false) {elt tg iter : Expr} {ifs : List Expr} {z : Int} {scope : Scope} {pos : Pos} {own : List Nat} {t : Tg} {q : IK} {its conds : List E} {de : E} (h : kComp rE ct (.ListComp elt [⟨tg, iter, ifs, z⟩] scope pos) own t q its conds de = true) :
    z = 0 ∧ BlkOk X.N X.env.scope scope (ownN ct.N own) ∧ SI G Φ cad X q its tg iter ∧ (∀ (s : Shared) (H : Hp) (C : Addr) (cl : List (Str × Addr)) (fp : List Addr), SG (X.blk s H scope (compEnvC scope cl C X.env) fp) t tg) ∧
    (∀ (s : Shared) (H : Hp) (C : Addr) (cl : List (Str × Addr)) (fp : List Addr), SC G Φ cad (X.blk s H scope (compEnvC scope cl C X.env) fp) conds ifs) ∧ (∀ (s : Shared) (H : Hp) (C : Addr) (cl : List (Str × Addr)) (fp : List Addr), SE G Φ cad (X.blk s H scope (compEnvC scope cl C X.env) fp) de elt) ∧
    (∀ x, foldedSetIterable iter X.env x = pure x) ∧ tgIn t own = true := by
  have h : (decide (z = 0) && blkC ct.N ct.sc scope (ownN ct.N own) && kIter rE ct q its tg iter && okT { ct with sc := relS scope ct.sc, raw := scope } tg t && kConds rE { ct with sc := relS scope ct.sc, raw := scope } ifs conds && rE { ct with sc := relS scope ct.sc, raw := scope } elt de && notSet iter && tgIn t own) = true := h
  obtain ⟨h, h8⟩ := bsplit h
  obtain ⟨h, h7⟩ := bsplit h
  obtain ⟨h, h6⟩ := bsplit h
  obtain ⟨h, h5⟩ := bsplit h
  obtain ⟨h, h4⟩ := bsplit h
  obtain ⟨h, h3⟩ := bsplit h
  obtain ⟨h1, h2⟩ := bsplit h
  refine ⟨of_decide_eq_true h1, by rw [st.hN, st.sc]; exact blkOk_by h2, kIter_ok st ih h3, fun s H C cl fp => ?_, fun s H C cl fp => ?_, fun s H C cl fp => ?_, folded_of h7, h8⟩
  · exact okT_ok (st.blk s H scope C cl fp) _ _ h4
  · exact kConds_ok (st.blk s H scope C cl fp) ih h5
  · exact (ih _ _ _ _ (st.blk s H scope C cl fp) h6).1
theorem kComp_ok (cold : ct.hot = false) {e : Expr} {mc : Bool} {own : List Nat} {t : Tg} {q : IK} {its conds : List E} {de : E} (h : kComp rE ct e own t q its conds de = true) : SEv G Φ cad X (.comp mc own t q its conds de) e := by
  have h0 := h
  unfold kComp at h
  split at h
  · rename_i elt tg iter ifs z scope pos
    obtain ⟨rfl, h2, h3, h4, h5, h6, h7, h8⟩ := kComp_parts st ih cold h0
    refine sev_plain ?_ (fun _ _ => rfl) rfl
    have r := r_comp (mc := mc) (pos := pos) (st.calm cold) (by rw [st.hN]; exact st.nd) h3 h2 h4 h5 h6 h7 (by rw [ownN_snd st ih]; exact h8)
    rw [ownN_snd st ih] at r
    exact r
  · cases h
theorem stepD_ok {e : Expr} {d : E} (h : stepD G rE ct e d = true) : SEv G Φ cad X d e := by
  cases d with
  | frz d =>
    have i := ih _ _ _ _ st (show rE ct e d = true from h)
    exact ⟨r_frz i.1, (fun z => absurd (show false = true from (bsplit z).1) Bool.false_ne_true), (fun _ z => absurd (show true = false from z) (fun z => nomatch z))⟩
  | c d => exact kConst_ok st h
  | v i => exact kVar_ok st h
  | g i => exact kGlob_ok st h
  | op o ds => exact kOp_ok st ih h
  | bm o da ds => exact kBm_ok st ih h
  | opC o ds => exact kNew_ok st h
  | and_ a b => exact kAnd_ok st ih h
  | or_ a b => exact kOr_ok st ih h
  | not_ a => exact kNot_ok st ih h
  | ife t a b => exact kIfe_ok st ih h
  | chain o p a b c => exact kChain_ok st ih h
  | tup ds => exact kTup_ok st ih h
  | lst ds => exact (kLst_ok st ih h).1
  | mlst ds => exact (kLst_ok st ih h).2
  | sl2 a b c => exact kSl2_ok st ih h
  | slL a b => exact kSlL_ok st ih h
  | slH a b => exact kSlH_ok st ih h
  | fld a f => exact kFld_ok st ih h
  | call f ds => exact kCall_ok st ih (cold_of h).1 (cold_of h).2
  | make C ds => exact kMake_ok st ih (cold_of h).1 (cold_of h).2
  | meth o m ds => exact kMeth_ok st ih (cold_of h).1 (cold_of h).2
  | comp mc own t q its conds de => exact kComp_ok st ih (cold_of h).1 (cold_of h).2
theorem stepE_ok {e : Expr} {d : E} (h : stepE G rE ct e d = true) : SEv G Φ cad X d e := by
  unfold stepE at h
  split at h
  · obtain ⟨h1, h2⟩ := bsplit h
    obtain ⟨a1, a2, _⟩ := ih _ _ _ _ st h2
    have w := w_one (op := by assumption) (pos := by assumption) (a2 h1)
    exact ⟨r_one a1, fun _ => w.pt, fun _ _ => w⟩
  · exact stepD_ok st ih h
end
theorem okE_ok {G : Pg} {Φ : Nat → List PD.W → List M → Rs PD.W} {cad : Nat → Addr} {k : Nat} : ∀ (n : Nat) (ct : Ct) (e : Expr) (d : E) (X : Cx), StX ct G Φ cad k X → okE G n ct e d = true → SEv G Φ cad X d e
  | 0, _, _, _, _, _, h => by cases h
  | n + 1, ct, e, d, X, st, h => stepE_ok st (okE_ok n) h
end PD
set_option Elab.async false
set_option linter.all false
set_option maxRecDepth 100000
set_option maxHeartbeats 4000000
/-! PyD14: statements' rules. -/
namespace PD
open PySem PySem.Spec PyProof.Rows L2
section
variable (K : PySem.W.Frag) (cad : Nat → Addr)
def PostS (W : WX) (D : Ends) (as : AS) (R : List Addr) (H : Hp) : SR → Prop
  | .ok .nx sl cs => ∀ σ' H' as', Ext H as H' as' → Rel K cad as' R H' sl cs σ' → D.nx σ' H'
  | .ok .brk sl cs => ∀ σ' H' as', Ext H as H' as' → Rel K cad as' R H' sl cs σ' → D.bk σ' H'
  | .ok .cnt sl cs => ∀ σ' H' as', Ext H as H' as' → Rel K cad as' R H' sl cs σ' → D.ct σ' H'
  | .ok (.ret w) sl cs => ∀ v H' as', Ext H as H' as' → Cells K cad as' R H' cs → IsW K cad as' R H' w v → D.rt v H'
  | .ex C ks vs sl cs => ∀ cls d σ' H' as', Ext H as H' as' → Rel K cad as' R H' sl cs σ' → IsX K cad as' R H' C ks vs cls d → W cls d σ' H'
  | .stuck => False
def liftS (W : WX) (g : Sl → List M → SR) : TS := fun D σ H => ∃ sl cs as R, Rel K cad as R H sl cs σ ∧ PostS K cad W D as R H (g sl cs)
end
section
variable {K : PySem.W.Frag} {cad : Nat → Addr} {as as' : AS} {R : List Addr} {H H' : Hp} {sl : Sl} {cs cs' : List M} {σ : L2.St} {W : WX} {D : Ends}
theorem PostS.mono (x : Ext H as H' as') : ∀ {r : SR}, PostS K cad W D as R H r → PostS K cad W D as' R H' r
  | .ok .nx sl cs, h => fun σ' H2 as2 x2 r => h σ' H2 as2 (x.trans x2) r
  | .ok .brk sl cs, h => fun σ' H2 as2 x2 r => h σ' H2 as2 (x.trans x2) r
  | .ok .cnt sl cs, h => fun σ' H2 as2 x2 r => h σ' H2 as2 (x.trans x2) r
  | .ok (.ret w) sl cs, h => fun v H2 as2 x2 c i => h v H2 as2 (x.trans x2) c i
  | .ex C ks vs sl cs, h => fun cls d σ' H2 as2 x2 r i => h cls d σ' H2 as2 (x.trans x2) r i
  | .stuck, h => h
theorem liftS_bind {α β : Type} {IsA : AS → List Addr → Hp → α → β → Prop} {g : Sl → List M → Rs α} {f : Sl → α → List M → SR} {hs : List PD.W} {vs : List V}
    (h : ∃ sl cs as R, Rel K cad as R H sl cs σ ∧ IsWs K cad as R H hs vs ∧ PostS K cad W D as R H (SR.of (g sl cs) sl (f sl))) :
    liftR K cad IsA W g σ H fun v H1 => ∃ sl cs as R a, Rel K cad as R H1 sl cs σ ∧ IsWs K cad as R H1 hs vs ∧ IsA as R H1 a v ∧ PostS K cad W D as R H1 (f sl a cs) := by
  obtain ⟨sl, cs, as, R, rel, ih, p⟩ := h
  refine ⟨sl, cs, as, R, rel, ?_⟩
  cases e : g sl cs with
  | ok a cs1 =>
    rw [e] at p
    exact fun v H1 as1 x c i => ⟨sl, cs1, as1, R, a, rel.mono x c, ih.mono x, i, PostS.mono x p⟩
  | ex C ks vs cs1 =>
    rw [e] at p
    exact fun cls d H1 as1 x c i => p cls d σ H1 as1 x (rel.mono x c) i
  | stuck =>
    rw [e] at p
    exact p
theorem liftS_bind0 {α β : Type} {IsA : AS → List Addr → Hp → α → β → Prop} {g : Sl → List M → Rs α} {f : Sl → α → List M → SR}
    (h : liftS K cad W (fun sl cs => SR.of (g sl cs) sl (f sl)) D σ H) :
    liftR K cad IsA W g σ H fun v H1 => ∃ sl cs as R a, Rel K cad as R H1 sl cs σ ∧ IsA as R H1 a v ∧ PostS K cad W D as R H1 (f sl a cs) := by
  obtain ⟨sl, cs, as, R, rel, p⟩ := h
  exact lift_mono (liftS_bind (IsA := IsA) (g := g) (f := f) (hs := []) (vs := []) ⟨sl, cs, as, R, rel, rfl, p⟩) fun v H1 ⟨sl, cs, as, R, a, h1, _, h2, h3⟩ => ⟨sl, cs, as, R, a, h1, h2, h3⟩
end
section
variable (G : Pg) (Φ : Nat → List PD.W → List M → Rs PD.W) (cad : Nat → Addr)
def SS (X : Cx) (d : S) (s : Stmt) : Prop := ∀ W, Takes X W → PS X s (liftS X.K cad W (evS G Φ d))
def SSs (X : Cx) (d : List S) (s : List Stmt) : Prop := ∀ W, Takes X W → PSs X s (liftS X.K cad W (evSs G Φ d))
end
section
variable {G : Pg} {Φ : Nat → List PD.W → List M → Rs PD.W} {cad : Nat → Addr} {X : Cx} {K : PySem.W.Frag} {pos : Pos}
variable {e a b c t tg : Expr} {da db dc dt : E} {es : List Expr} {ds : List E}
def notLC : Expr → Bool
  | .ListComp _ _ _ _ => false
  | .SetComp _ _ _ _ => false
  | .DictComp _ _ _ _ _ => false
  | _ => true
theorem swaps_of {tg : Option Expr} {line : Nat} {env : Env} (h : notLC e = true) : swapsWith e tg line env = pure false := by
  cases e <;> first | rfl | cases h
theorem sole_of {line : Nat} {env : Env} (h : notLC e = true) : swapsWithSole [tg] e line env = pure false := swaps_of h
theorem s_pass : SS G Φ cad X .pass (.Pass pos) := fun W tk => ps_pass.imp fun D σ H ⟨sl, cs, as, R, rel, p⟩ => (show PostS X.K cad W D as R H (.ok .nx sl cs) from p) σ H as Ext.refl rel
theorem s_doc {x : Str} {j : Nat} {p2 : Pos} : SS G Φ cad X .pass (.Expr (.Constant (.str x) j p2) pos) := fun W tk => ps_doc.imp fun D σ H ⟨sl, cs, as, R, rel, p⟩ => (show PostS X.K cad W D as R H (.ok .nx sl cs) from p) σ H as Ext.refl rel
theorem s_brk : SS G Φ cad X .brk (.Break pos) := fun W tk => ps_break.imp fun D σ H ⟨sl, cs, as, R, rel, p⟩ => (show PostS X.K cad W D as R H (.ok .brk sl cs) from p) σ H as Ext.refl rel
theorem s_cnt : SS G Φ cad X .cnt (.Continue pos) := fun W tk => ps_continue.imp fun D σ H ⟨sl, cs, as, R, rel, p⟩ => (show PostS X.K cad W D as R H (.ok .cnt sl cs) from p) σ H as Ext.refl rel
theorem s_ex (ha : SE G Φ cad X da a) (hn : notLC a = true) : SS G Φ cad X (.ex da) (.Expr a pos) := fun W tk =>
  (ps_expr (ha W tk) (swaps_of hn)).imp fun D σ H h => by
    refine lift_mono (liftS_bind0 (IsA := rW X.K cad) (g := evE G Φ da) (f := fun sl _ cs => .ok .nx sl cs) h) fun x H1 ⟨sl, cs, as, R, w, rel, iw, p⟩ => ?_
    exact p σ H1 as Ext.refl rel
theorem s_ret (ha : SE G Φ cad X da a) : SS G Φ cad X (.ret da) (.Return (some a) pos) := fun W tk =>
  (ps_ret (ha W tk)).imp fun D σ H h => by
    refine lift_mono (liftS_bind0 (IsA := rW X.K cad) (g := evE G Φ da) (f := fun sl w cs => .ok (.ret w) sl cs) h) fun x H1 ⟨sl, cs, as, R, w, rel, iw, p⟩ => ?_
    exact p x H1 as Ext.refl rel.cells iw
theorem s_retN : SS G Φ cad X (.ret (.c .non)) (.Return none pos) := fun W tk =>
  ps_retN.imp fun D σ H ⟨sl, cs, as, R, rel, p⟩ => (show PostS X.K cad W D as R H (.ok (.ret (.d .non)) sl cs) from p) .non H as Ext.refl rel.cells rfl
/-- target = e -/
theorem lift_asg {W : WX} {t : Tg} {D : Ends} {σ : L2.St} {H : Hp} (h : liftS K cad W (evS G Φ (.asg t da)) D σ H) : tAsg (liftE K cad W (evE G Φ da)) (gT K t) D σ H := by
  refine lift_mono (liftS_bind0 (IsA := rW K cad) (g := evE G Φ da) (f := fun sl w cs => match bindT t w sl with
    | some sl => .ok .nx sl cs
    | none => .stuck) h) fun x H1 ⟨sl, cs, as, R, w, rel, iw, p⟩ => ?_
  cases e : bindT t w sl with
  | none => simp only [e] at p; exact p.elim
  | some sl' =>
    simp only [e] at p
    exact gT_ok t rel iw e fun σ' rel' _ => p σ' H1 as Ext.refl rel'
def isTL : Expr → Bool
  | .Tuple _ _ _ => true
  | .List _ _ => true
  | _ => false
def isTupE : Expr → Bool
  | .Tuple _ _ _ => true
  | _ => false
/-- the tuple is folded: no swapped stores -/
def foldT : Expr → Bool
  | .Tuple vs _ _ => vs.all (foldedForSure 8)
  | _ => false
/-- not two or three targets -/
def notFew : Expr → Bool
  | .Tuple ts _ _ => !(ts.length == 2 || ts.length == 3)
  | _ => false
/-- some part is no name -/
def notNames : Expr → Bool
  | .Tuple ts _ _ => ts.any fun t => match t with | .Name _ _ => false | _ => true
  | _ => false
def noSwap (tg e : Expr) : Bool := !isTL tg || !isTupE e || notFew tg || foldT e
theorem sw_none {env : Env} (h : noSwap tg e = true) : swappedStores [tg] e env = pure none := by
  unfold noSwap at h
  simp only [Bool.or_eq_true, Bool.not_eq_true'] at h
  have fold : ∀ {ts vs : List Expr}, (vs.all (foldedForSure 8) = true ∨ (!(ts.length == 2 || ts.length == 3)) = true) → (do
      if (!(ts.length == 2 || ts.length == 3) || vs.length != ts.length || env.blockKind != .function) = true then return none
      if (vs.any fun | .Starred .. => true | _ => false) = true then return none
      let line := (ts.head?.map (·.pos.line)).getD 0
      let names := ts.filterMap fun
        | .Name id pos => if (env.kindOf id == some .local && pos.line == line) = true then some id else none
        | _ => none
      if (names.length != ts.length || names.eraseDups.length != names.length) = true then return none
      if vs.all (foldedForSure 8) = true then return none
      if vs.all (constantsAlone 8) = true then unsupported "assign.tuple-of-constant-expressions:order-of-the-stores"
      return some names : Sem (Option (List Str))) = pure none := fun {ts vs} h => by
    by_cases h1 : (!(ts.length == 2 || ts.length == 3) || vs.length != ts.length || env.blockKind != .function) = true
    · rw [if_pos h1]
    · rw [if_neg h1]
      have hf : vs.all (foldedForSure 8) = true := by
        rcases h with h | h
        · exact h
        · rw [h] at h1; exact absurd rfl h1
      by_cases h2 : (vs.any fun | .Starred .. => true | _ => false) = true
      · rw [if_pos h2]
      · rw [if_neg h2]
        dsimp only [pure_bind]
        by_cases h3 : ((ts.filterMap fun
            | .Name id pos => if (env.kindOf id == some .local && pos.line == (ts.head?.map (·.pos.line)).getD 0) = true then some id else none
            | _ => none).length != ts.length || (ts.filterMap fun
            | .Name id pos => if (env.kindOf id == some .local && pos.line == (ts.head?.map (·.pos.line)).getD 0) = true then some id else none
            | _ => none).eraseDups.length != (ts.filterMap fun
            | .Name id pos => if (env.kindOf id == some .local && pos.line == (ts.head?.map (·.pos.line)).getD 0) = true then some id else none
            | _ => none).length) = true
        · rw [if_pos h3]
        · rw [if_neg h3, if_pos hf]
  cases tg with
  | Tuple ts k p =>
    cases e with
    | Tuple vs k2 p2 =>
      rcases h with ((h | h) | h) | h
      · cases h
      · cases h
      · exact fold (.inr h)
      · exact fold (.inl h)
    | _ => rfl
  | List ts p =>
    cases e with
    | Tuple vs k2 p2 =>
      rcases h with ((h | h) | h) | h
      · cases h
      · cases h
      · cases h
      · exact fold (.inl h)
    | _ => rfl
  | _ => rfl
theorem s_asg {t : Tg} (ha : SE G Φ cad X da a) (hg : SG X t tg) (hn : notLC a = true) (hw : noSwap tg a = true) (hst : notStar tg = true) : SS G Φ cad X (.asg t da) (.Assign [tg] a pos) := fun W tk =>
  (ps_asg (ha W tk) hg (sole_of hn) (sw_none hw) (by rw [assignEach_cons hst]; rfl)).imp fun D σ H h => lift_asg h
end
end PD
set_option Elab.async false
set_option linter.all false
set_option maxRecDepth 100000
set_option maxHeartbeats 4000000
/-! PyD15: more statements: x = [..], x op= e, a, b = c, d, o[i] = e, o.f = e, xs.append(e), if, while, for. -/
namespace PD
open PySem PySem.Spec PyProof.Rows L2
section
variable {G : Pg} {Φ : Nat → List PD.W → List M → Rs PD.W} {cad : Nat → Addr} {X : Cx} {K : PySem.W.Frag} {pos : Pos}
variable {e a b c t tg : Expr} {da db dc dt : E} {es : List Expr} {ds : List E}
/-- name = [elt for ..], on one line -/
theorem s_setLc {mc : Bool} {own : List (Str × Nat)} {t : Tg} {q : IK} {its conds : List E} {de : E} {elt tg iter : Expr} {ifs : List Expr} {scope : Scope} {i : Nat} {y : Str} {py spos : Pos} (hc : X.calm = true) (hN : X.N.Nodup) (hy : X.N[i]? = some y) (hyl : X.env.scope.names.lookup y = some .local)
    (hsw : swapsWith (.ListComp elt [⟨tg, iter, ifs, 0⟩] scope pos) (some (.Name y py)) spos.line X.env = pure true) (hi : SI G Φ cad X q its tg iter) (ok : BlkOk X.N X.env.scope scope own) (hg : ∀ (s : Shared) (H : Hp) (C : Addr) (cl : List (Str × Addr)) (fp : List Addr), SG (X.blk s H scope (compEnvC scope cl C X.env) fp) t tg)
    (ht : ∀ (s : Shared) (H : Hp) (C : Addr) (cl : List (Str × Addr)) (fp : List Addr), SC G Φ cad (X.blk s H scope (compEnvC scope cl C X.env) fp) conds ifs) (he : ∀ (s : Shared) (H : Hp) (C : Addr) (cl : List (Str × Addr)) (fp : List Addr), SE G Φ cad (X.blk s H scope (compEnvC scope cl C X.env) fp) de elt)
    (hs : ∀ x, foldedSetIterable iter X.env x = pure x) (hown : tgIn t (own.map (·.2)) = true) :
    SS G Φ cad X (.asg (.n i) (.comp mc (own.map (·.2)) t q its conds de)) (.Assign [.Name y py] (.ListComp elt [⟨tg, iter, ifs, 0⟩] scope pos) spos) := fun W tk =>
  (ps_setLc (g := gT X.K t) (tt := liftT X.K cad W0 (evC G Φ conds)) (te := liftE X.K cad W0 (evE G Φ de)) hc hN hy hyl hsw (hi W tk) ok (fun s H C cl fp => hg s H C cl fp) (fun s H C cl fp => ht s H C cl fp W0 takesB) (fun s H C cl fp => he s H C cl fp W0 takesB) hs).imp fun D σ H h => lift_comp hown (lift_asg h)
/-! ### a, b = c, d -/
theorem s_par {i j : Nat} {x y : Str} {px py pt pt2 : Pos} {kt k2 : Nat} (hc : X.calm = true) (hN : X.N.Nodup) (hi : X.N[i]? = some x) (hj : X.N[j]? = some y) (hij : i ≠ j) (hx : X.env.scope.names.lookup x = some .local) (hy : X.env.scope.names.lookup y = some .local)
    (ha : SE G Φ cad X da a) (hb : SE G Φ cad X db b) (h1 : notStar a = true) (h2 : notStar b = true)
    (hw : swappedStores [.Tuple [.Name x px, .Name y py] kt pt] (.Tuple [a, b] k2 pt2) X.env = pure (some [x, y])) :
    SS G Φ cad X (.par i j da db) (.Assign [.Tuple [.Name x px, .Name y py] kt pt] (.Tuple [a, b] k2 pt2) pos) := fun W tk =>
  (ps_par (ta := tCons (liftE X.K cad W (evE G Φ da)) (tCons (liftE X.K cad W (evE G Φ db)) tNil)) hc hN hi hj hij hx hy (pa_cons (ha W tk) (pa_cons (hb W tk) pa_nil (star_of h2)) (star_of h1)) hw (sole_of rfl)).imp fun D σ H h => by
    refine lift_mono (liftS_bind0 (IsA := rW X.K cad) (g := evE G Φ da) (f := fun sl x cs => SR.of (evE G Φ db sl cs) sl fun y cs => if i < sl.length ∧ j < sl.length then .ok .nx ((sl.set i (some x)).set j (some y)) cs else .stuck) h) fun v H1 ⟨sl, cs, as, R, wa, rel, iw, p⟩ => ?_
    refine lift_mono (liftS_bind (IsA := rW X.K cad) (hs := [wa]) (vs := [v]) (g := evE G Φ db) (f := fun sl y cs => if i < sl.length ∧ j < sl.length then .ok .nx ((sl.set i (some wa)).set j (some y)) cs else .stuck) ⟨sl, cs, as, R, rel, ⟨v, [], rfl, iw, rfl⟩, p⟩) fun w H2 ⟨sl, cs, as, R, wb, rel, ih, iy, p⟩ => ?_
    obtain ⟨x', r, e, ix, _⟩ := ih
    cases e
    by_cases hl : i < sl.length ∧ j < sl.length
    · rw [if_pos hl] at p
      exact ⟨v, w, rfl, p _ H2 as Ext.refl ((rel.set hl.1 ix).set (by rw [List.length_set]; exact hl.2) iy)⟩
    · rw [if_neg hl] at p
      exact p.elim
/-! ### x op= e -/
def rAug (K : PySem.W.Frag) (cad : Nat → Addr) (o : O) : TIp := fun x y H Q => ∃ (F : List Addr) (a b d : D), IsD K cad H F a x ∧ IsD K cad H F b y ∧ augD o a b = some d ∧ ∀ v, IsD K cad H F d v → Q v H
theorem aug_cases {o : O} {a b d : D} (h : augD o a b = some d) : (∃ i j, a = .int i ∧ b = .int j ∧ augD o (.int i) (.int j) = some d) ∨ ∃ x y, a = .str x ∧ b = .str y ∧ augD o (.str x) (.str y) = some d := by
  cases a <;> cases b <;> first | (cases h; done) | exact .inl ⟨_, _, rfl, rfl, h⟩ | exact .inr ⟨_, _, rfl, rfl, h⟩
theorem ip_addP : PIp X .Add (rAug X.K cad .add) := by
  intro pins s σ H x y v u Q I r1 r2 ⟨F, a, b, d, ha, hb, hd, q⟩
  rcases aug_cases hd with ⟨i, j, rfl, rfl, hd⟩ | ⟨xx, yy, rfl, rfl, hd⟩
  · cases (show some (D.int (i + j)) = some d from hd)
    cases (show x = .int i from ha)
    cases (show y = .int j from hb)
    exact ip_add pins s σ H _ _ v u Q I r1 r2 ⟨i, j, rfl, rfl, q _ rfl⟩
  · have hd : (if xx.length + yy.length ≤ LIM then some (D.str (xx ++ yy)) else none) = some d := hd
    by_cases hl : xx.length + yy.length ≤ LIM
    · rw [if_pos hl] at hd
      cases hd
      cases (show x = .str xx from ha)
      cases (show y = .str yy from hb)
      exact iop_add_str pins s σ H _ _ v u Q I r1 r2 ⟨xx, yy, rfl, rfl, by rw [← lim_eq]; exact hl, q _ rfl⟩
    · rw [if_neg hl] at hd
      cases hd
theorem ip_subP : PIp X .Sub (rAug X.K cad .sub) := by
  intro pins s σ H x y v u Q I r1 r2 ⟨F, a, b, d, ha, hb, hd, q⟩
  rcases aug_cases hd with ⟨i, j, rfl, rfl, hd⟩ | ⟨xx, yy, rfl, rfl, hd⟩
  · cases (show some (D.int (i - j)) = some d from hd)
    cases (show x = .int i from ha)
    cases (show y = .int j from hb)
    exact ip_sub pins s σ H _ _ v u Q I r1 r2 ⟨i, j, rfl, rfl, q _ rfl⟩
  · cases hd
theorem ip_mulP : PIp X .Mult (rAug X.K cad .mul) := by
  intro pins s σ H x y v u Q I r1 r2 ⟨F, a, b, d, ha, hb, hd, q⟩
  rcases aug_cases hd with ⟨i, j, rfl, rfl, hd⟩ | ⟨xx, yy, rfl, rfl, hd⟩
  · have hd : (if i.natAbs.log2 + j.natAbs.log2 < 100000000 then some (D.int (i * j)) else none) = some d := hd
    cases (show x = .int i from ha)
    cases (show y = .int j from hb)
    by_cases hc : i.natAbs.log2 + j.natAbs.log2 < 100000000
    · rw [if_pos hc] at hd
      cases hd
      obtain ⟨t, rfl⟩ := r1
      obtain ⟨t', rfl⟩ := r2
      exact imul_int ⟨.int (i * j), H, I.tok _, ⟨_, rfl⟩, q _ rfl⟩ (CMulZ.ok hc)
    · rw [if_neg hc] at hd; cases hd
  · cases hd
theorem ip_modP : PIp X .Mod (rAug X.K cad .mod) := by
  intro pins s σ H x y v u Q I r1 r2 ⟨F, a, b, d, ha, hb, hd, q⟩
  rcases aug_cases hd with ⟨i, j, rfl, rfl, hd⟩ | ⟨xx, yy, rfl, rfl, hd⟩
  · have hd : (if j ≠ 0 then some (D.int (i.fmod j)) else none) = some d := hd
    cases (show x = .int i from ha)
    cases (show y = .int j from hb)
    by_cases hc : j ≠ 0
    · rw [if_pos hc] at hd
      cases hd
      obtain ⟨t, rfl⟩ := r1
      obtain ⟨t', rfl⟩ := r2
      exact imod_int hc ⟨.int (i.fmod j), H, I.tok _, ⟨_, rfl⟩, q _ rfl⟩
    · rw [if_neg hc] at hd; cases hd
  · cases hd
def augK (o : O) (i : Nat) (sl : Sl) (x y : PD.W) (cs : List M) : SR := match x, y with
  | .d a, .d b => match augD o a b with
    | some d => .ok .nx (sl.set i (some (.d d))) cs
    | none => .stuck
  | _, _ => .stuck
theorem s_aug {op : Operator} {o : O} {i : Nat} {x : Str} {p2 : Pos} (hN : X.N.Nodup) (hi : X.N[i]? = some x) (hx : Loc X.env.scope x) (hf : X.fn x = true ∨ X.env.scope.names.lookup x = some .local) (ha : SE G Φ cad X da a) (ho : PIp X op (rAug X.K cad o)) :
    SS G Φ cad X (.aug i o da) (.AugAssign (.Name x p2) op a pos) := fun W tk =>
  (ps_aug hN hi hx (ha W tk) ho hf).imp fun D σ H ⟨sl, cs, as, R, rel, p⟩ => by
    have p : PostS X.K cad W D as R H (match sl[i]? with
      | some (some x) => SR.of (evE G Φ da sl cs) sl fun y cs => augK o i sl x y cs
      | _ => .stuck) := p
    cases e : sl[i]? with
    | none => simp only [e] at p; exact p.elim
    | some w =>
      cases w with
      | none => simp only [e] at p; exact p.elim
      | some w =>
        simp only [e] at p
        obtain ⟨v, e1, iw⟩ := rel.sl i w e
        refine ⟨v, e1, ?_⟩
        have hlen : i < sl.length := lt_of_get e
        have ihs : ∃ sl0 cs0 as0 R0, Rel X.K cad as0 R0 H sl0 cs0 σ ∧ IsWs X.K cad as0 R0 H [w] [v] ∧ PostS X.K cad W D as0 R0 H (SR.of (evE G Φ da sl0 cs0) sl0 ((fun (s' : Sl) y cs => if i < s'.length then augK o i s' w y cs else .stuck) sl0)) := by
          refine ⟨sl, cs, as, R, rel, ⟨v, [], rfl, iw, rfl⟩, ?_⟩
          simp only [if_pos hlen]
          exact p
        refine lift_mono (liftS_bind (IsA := rW X.K cad) (hs := [w]) (vs := [v]) (g := evE G Φ da) ihs) fun y H2 ⟨sl, cs, as, R, wb, rel, ih, iy, p⟩ => ?_
        obtain ⟨x', r, e', ix, _⟩ := ih
        cases e'
        by_cases hl : i < sl.length
        · rw [if_pos hl] at p
          cases w with
          | c _ => exact p.elim
          | d a =>
            cases wb with
            | c _ => exact p.elim
            | d b =>
              unfold augK at p
              dsimp only at p
              cases ed : augD o a b with
              | none => rw [ed] at p; exact p.elim
              | some d =>
                rw [ed] at p
                exact ⟨Av as R, a, b, d, ix, iy, ed, fun z iz => p _ H2 as Ext.refl (rel.set hl (w := .d d) iz)⟩
        · rw [if_neg hl] at p
          exact p.elim
/-! ### o[i] = e -/
theorem dput_rel {us : List (Key × V)} {vs : List D} {F : List Addr} {H : Hp} {q : Key} {x : D} {v : V} (h : IsDs K cad H F vs (us.map (·.2))) (hv : IsD K cad H F x v) :
    (putK us q v).map (·.1) = (dput (us.map (·.1)) vs q x).1 ∧ IsDs K cad H F (dput (us.map (·.1)) vs q x).2 ((putK us q v).map (·.2)) := by
  have hany : ((us.map (·.1)).any fun k => decide (k = q)) = us.any fun kv => decide (kv.1 = q) := by rw [List.any_map]; rfl
  have set_rel : ∀ {us : List (Key × V)} {vs : List D}, IsDs K cad H F vs (us.map (·.2)) → IsDs K cad H F (dset (us.map (·.1)) vs q x) ((us.map fun kv => if kv.1 = q then (kv.1, v) else kv).map (·.2)) := fun {us} => by
    induction us with
    | nil => intro vs h; cases vs <;> exact rfl
    | cons u us ih =>
      intro vs h
      cases vs with
      | nil => cases (show _ = ([] : List V) from h)
      | cons y ys =>
        obtain ⟨z, r, ez, h1, h2⟩ := h
        injection (show u.2 :: us.map (·.2) = z :: r from ez) with e1 e2
        subst e1 e2
        refine ⟨_, _, rfl, ?_, ih h2⟩
        show IsD K cad H F (if u.1 = q then x else y) (if u.1 = q then (u.1, v) else u).2
        by_cases hq : u.1 = q
        · rw [if_pos hq, if_pos hq]; exact hv
        · rw [if_neg hq, if_neg hq]; exact h1
  unfold putK dput
  rw [hany]
  by_cases hk : (us.any fun kv => decide (kv.1 = q)) = true
  · rw [if_pos hk, if_pos hk]
    refine ⟨?_, set_rel h⟩
    rw [List.map_map]
    refine List.map_congr_left fun kv _ => ?_
    show (if kv.1 = q then (kv.1, v) else kv).1 = kv.1
    split <;> rfl
  · rw [if_neg hk, if_neg hk]
    exact ⟨by simp, by rw [List.map_append]; exact h.app (IsDs.one hv)⟩
theorem key_rel {kd : D} {q : Key} {F : List Addr} {H : Hp} {y : V} (h : IsD K cad H F kd y) (e : keyOf kd = some q) : y = kV q := by
  cases kd with
  | int i => cases (show some (Sum.inl i) = some q from e); exact h
  | str x => cases (show some (Sum.inr x) = some q from e); exact h
  | _ => cases e
def rSetB : TSet := fun o i v H Q => rSetL o i v H Q ∨ rSetD o i v H Q
theorem set_both (hu : X.A.units + 1 < cLine) : PSet X rSetB := fun pins s σ H o i v ov iv u Q I ro ri rv h => h.elim (set_list pins s σ H o i v ov iv u Q I ro ri rv) (set_dict hu pins s σ H o i v ov iv u Q I ro ri rv)
/-- what is stored -/
def setK (sl : Sl) (w o k : PD.W) (cs : List M) : SR := match o, k, w with
  | .c n, .d kd, .d x => match cs[n]? with
    | some (.lst xs) => (match kd with
      | .int z => (match ixN xs.length z with
        | some j => .ok .nx sl (cs.set n (.lst (xs.set j x)))
        | none => .stuck)
      | _ => .stuck)
    | some (.dct ks vs) => (match keyOf kd with
      | some q => if ks.length < LIM then .ok .nx sl (cs.set n (.dct (dput ks vs q x).1 (dput ks vs q x).2)) else .stuck
      | none => .stuck)
    | _ => .stuck
  | _, _, _ => .stuck
/-- a live object's address -/
theorem Cells.live_at {as : AS} {R : List Addr} {H : Hp} {cs : List M} {n : Nat} {m : M} {x : V} (c : Cells K cad as R H cs) (h : IsW K cad as R H (.c n) x) (e : cs[n]? = some m) (hm : m ≠ .dead) : ∃ a, as[n]? = some (some a) ∧ x = .ref a ∧ CellM K cad H (Av as R) a m := by
  obtain ⟨hi, ha⟩ := h
  cases q : as[n]? with
  | none => rw [List.getElem?_eq_none_iff] at q; omega
  | some o =>
    cases o with
    | none =>
      rw [c.dead n q] at e
      cases e
      exact absurd rfl hm
    | some a => exact ⟨a, rfl, ha a q, c.at_ n a m q e⟩
theorem setK_ok {W : WX} {D : Ends} {as : AS} {R : List Addr} {H : Hp} {sl : Sl} {cs : List M} {σ : L2.St} {w o k : PD.W} {v x y : V} (rel : Rel K cad as R H sl cs σ) (iw : IsW K cad as R H w v) (io : IsW K cad as R H o x) (ik : IsW K cad as R H k y) (p : PostS K cad W D as R H (setK sl w o k cs)) :
    rSetB x y v H fun H' => D.nx σ H' := by
  unfold setK at p
  match o, k, w, io, ik, iw, p with
  | .c n, .d kd, .d d, io, ik, iw, p =>
    dsimp only at p
    cases e : cs[n]? with
    | none => rw [e] at p; exact p.elim
    | some m =>
      rw [e] at p
      cases m with
      | lst xs =>
        obtain ⟨a, ha, rfl, zs, hH, hd⟩ := rel.cells.live_at io e (fun z => nomatch z)
        dsimp only at p
        cases kd with
        | int z =>
          dsimp only at p
          cases ej : ixN xs.length z with
          | none => rw [ej] at p; exact p.elim
          | some j =>
            rw [ej] at p
            refine .inl ⟨a, zs, z, j, rfl, ik, hH, by rw [← hd.length]; exact ej, ?_⟩
            obtain ⟨c2, x2⟩ := rel.cells.write (o := .lst (zs.set j v)) (m := .lst (xs.set j d)) ha e fun kp => ⟨_, upd_same, (hd.set j iw).mono kp⟩
            exact p σ _ as x2 (rel.mono x2 c2)
        | _ => exact p.elim
      | dct ks vs =>
        obtain ⟨a, ha, rfl, us, hH, rfl, hd⟩ := rel.cells.live_at io e (fun z => nomatch z)
        dsimp only at p
        cases eq : keyOf kd with
        | none => rw [eq] at p; exact p.elim
        | some q =>
          rw [eq] at p
          dsimp only at p
          by_cases hl : (us.map (·.1)).length < LIM
          · rw [if_pos hl] at p
            have hk := key_rel ik eq
            subst hk
            obtain ⟨r1, r2⟩ := dput_rel (q := q) hd iw
            obtain ⟨c2, x2⟩ := rel.cells.write (o := .dK (putK us q v)) (m := .dct (dput (us.map (·.1)) vs q d).1 (dput (us.map (·.1)) vs q d).2) ha e fun kp => ⟨_, upd_same, r1, r2.mono kp⟩
            refine .inr ⟨a, _, rfl, DPut.k hH ?_, p σ _ as x2 (rel.mono x2 c2)⟩
            rw [← lim_eq]
            rw [List.length_map] at hl
            exact hl
          · rw [if_neg hl] at p; exact p.elim
      | obj _ _ _ => exact p.elim
      | dead => exact p.elim
  | .c _, .d _, .c _, _, _, _, p => exact p.elim
  | .c _, .c _, _, _, _, _, p => exact p.elim
  | .d _, _, _, _, _, _, p => exact p.elim
theorem s_setix {p2 : Pos} (hsl : notSlice b = true) (hu : X.A.units + 1 < cLine) (hc : SE G Φ cad X dc c) (ha : SE G Φ cad X da a) (hb : SE G Φ cad X db b) (hn : notLC c = true) :
    SS G Φ cad X (.setix da db dc) (.Assign [.Subscript a b p2] c pos) := fun W tk =>
  (ps_asg (hc W tk) (pg_sub (ha W tk) (hb W tk) (set_both hu) (by intro _; cases b <;> first | rfl | cases hsl)) (sole_of hn) (by rfl) (by rfl)).imp fun D σ H h => by
    refine lift_mono (liftS_bind0 (IsA := rW X.K cad) (g := evE G Φ dc) (f := fun sl w cs => SR.of (evE G Φ da sl cs) sl fun o cs => SR.of (evE G Φ db sl cs) sl fun k cs => setK sl w o k cs) h) fun v H1 ⟨sl, cs, as, R, w, rel, iw, p⟩ => ?_
    refine lift_mono (liftS_bind (IsA := rW X.K cad) (hs := [w]) (vs := [v]) (g := evE G Φ da) (f := fun sl o cs => SR.of (evE G Φ db sl cs) sl fun k cs => setK sl w o k cs) ⟨sl, cs, as, R, rel, ⟨v, [], rfl, iw, rfl⟩, p⟩) fun x H2 ⟨sl, cs, as, R, o, rel, ih, io, p⟩ => ?_
    refine lift_mono (liftS_bind (IsA := rW X.K cad) (hs := [o, w]) (vs := [x, v]) (g := evE G Φ db) (f := fun sl k cs => setK sl w o k cs) ⟨sl, cs, as, R, rel, ⟨x, [v], rfl, io, ih⟩, p⟩) fun y H3 ⟨sl, cs, as, R, k, rel, ih, ik, p⟩ => ?_
    obtain ⟨x', r, e, io, v', r', e', iw, _⟩ := ih
    cases e
    cases e'
    exact setK_ok rel iw io ik p
/-! ### o.f = e -/
theorem fput_rel {us : List (Str × V)} {vs : List D} {F : List Addr} {H : Hp} {f : Str} {x : D} {v : V} (hv : IsD K cad H F x v) : ∀ {us : List (Str × V)} {vs : List D}, IsDs K cad H F vs (us.map (·.2)) →
    (putF f v us).map (·.1) = (fput (us.map (·.1)) vs f x).1 ∧ IsDs K cad H F (fput (us.map (·.1)) vs f x).2 ((putF f v us).map (·.2))
  | [], vs, h => by
    cases vs with
    | nil => exact ⟨rfl, IsDs.one hv⟩
    | cons _ _ => obtain ⟨_, _, e, _⟩ := h; cases e
  | (g, u) :: us, vs, h => by
    cases vs with
    | nil => cases (show _ = ([] : List V) from h)
    | cons y ys =>
      obtain ⟨z, r, ez, h1, h2⟩ := h
      injection (show u :: us.map (·.2) = z :: r from ez) with e1 e2
      subst e1 e2
      obtain ⟨i1, i2⟩ := fput_rel (us := us) (vs := vs) hv h2
      show ((if g = f then (g, v) :: us else (g, u) :: putF f v us).map (·.1)) = (if g = f then (g :: us.map (·.1), x :: ys) else (g :: (fput (us.map (·.1)) ys f x).1, y :: (fput (us.map (·.1)) ys f x).2)).1 ∧
        IsDs K cad H F (if g = f then (g :: us.map (·.1), x :: ys) else (g :: (fput (us.map (·.1)) ys f x).1, y :: (fput (us.map (·.1)) ys f x).2)).2 ((if g = f then (g, v) :: us else (g, u) :: putF f v us).map (·.2))
      by_cases hg : g = f
      · rw [if_pos hg, if_pos hg]
        exact ⟨rfl, _, _, rfl, hv, h2⟩
      · rw [if_neg hg, if_neg hg]
        exact ⟨by rw [List.map_cons, i1], _, _, rfl, h1, i2⟩
def setFK (G : Pg) (f : Str) (sl : Sl) (w o : PD.W) (cs : List M) : SR := match o, w with
  | .c n, .d x => match cs[n]? with
    | some (.obj C ks vs) => if G.fld C f = true ∧ ks.length < 1000 then .ok .nx sl (cs.set n (.obj C (fput ks vs f x).1 (fput ks vs f x).2)) else .stuck
    | _ => .stuck
  | _, _ => .stuck
theorem s_setfld {p2 : Pos} {fn : Str} (hcl : ∀ C, G.fld C fn = true → Cls X.K (cad C) ∧ NoAttr X.K (cad C) fn) (hc : SE G Φ cad X dc c) (ha : SE G Φ cad X da a) (hn : notLC c = true) :
    SS G Φ cad X (.setfld da fn dc) (.Assign [.Attribute a fn p2] c pos) := fun W tk =>
  (ps_fld (ha W tk) (hc W tk) (swaps_of hn)).imp fun D σ H h => by
    refine lift_mono (liftS_bind0 (IsA := rW X.K cad) (g := evE G Φ dc) (f := fun sl w cs => SR.of (evE G Φ da sl cs) sl fun o cs => setFK G fn sl w o cs) h) fun v H1 ⟨sl, cs, as, R, w, rel, iw, p⟩ => ?_
    refine lift_mono (liftS_bind (IsA := rW X.K cad) (hs := [w]) (vs := [v]) (g := evE G Φ da) (f := fun sl o cs => setFK G fn sl w o cs) ⟨sl, cs, as, R, rel, ⟨v, [], rfl, iw, rfl⟩, p⟩) fun x H2 ⟨sl, cs, as, R, o, rel, ih, io, p⟩ => ?_
    obtain ⟨v', r', e', iw, _⟩ := ih
    cases e'
    unfold setFK at p
    match o, w, io, iw, p with
    | .c n, .d d, io, iw, p =>
      dsimp only at p
      cases e : cs[n]? with
      | none => rw [e] at p; exact p.elim
      | some m =>
        rw [e] at p
        cases m with
        | obj C ks vs =>
          obtain ⟨a, ha, rfl, dx, us, hH, rfl, hd⟩ := rel.cells.live_at io e (fun z => nomatch z)
          dsimp only at p
          by_cases hf : G.fld C fn = true ∧ (us.map (·.1)).length < 1000
          · rw [if_pos hf] at p
            obtain ⟨r1, r2⟩ := fput_rel (us := us) (vs := vs) (f := fn) (show IsD X.K cad H2 (Av as R) d v from iw) hd
            obtain ⟨c2, x2⟩ := rel.cells.write (o := .ins (cad C) dx (putF fn v us)) (m := .obj C (fput (us.map (·.1)) vs fn d).1 (fput (us.map (·.1)) vs fn d).2) ha e fun kp => ⟨dx, _, upd_same, r1, r2.mono kp⟩
            obtain ⟨k1, k2⟩ := hcl C hf.1
            exact ⟨a, cad C, dx, us, rfl, hH, k1, k2, by have := hf.2; rwa [List.length_map] at this, p σ _ as x2 (rel.mono x2 c2)⟩
          · rw [if_neg hf] at p; exact p.elim
        | lst _ => exact p.elim
        | dct _ _ => exact p.elim
        | dead => exact p.elim
    | .c _, .c _, _, _, p => exact p.elim
    | .d _, _, _, _, p => exact p.elim
/-! ### xs.append(e) -/
def appK (sl : Sl) (o w : PD.W) (cs : List M) : SR := match o, w with
  | .c n, .d x => match cs[n]? with
    | some (.lst xs) => if xs.length < LIM then .ok .nx sl (cs.set n (.lst (xs ++ [x]))) else .stuck
    | _ => .stuck
  | _, _ => .stuck
theorem s_app {ap cp : Pos} (h1 : attrB a = true) (hl : (ap.endLine == cp.line) = true) (hs : notStar c = true) (ha : SE G Φ cad X da a) (hc : SE G Φ cad X dc c) : SS G Φ cad X (.app da dc) (.Expr (.Call (.Attribute a "append" ap) [c] [] cp) pos) := fun W tk =>
  (ps_expr (pe_bm PySem.F.plainAttrs_list PySem.F.slot_list_append PySem.F.type_list_append mt_append (ha W tk) (pa_cons (hc W tk) pa_nil (star_of hs)) (base_of h1) (by rw [star_of hs]; rfl) hl (star_of hs) (by rfl)) rfl).imp fun D σ H h => by
    refine lift_mono (liftS_bind0 (IsA := rW X.K cad) (g := evE G Φ da) (f := fun sl o cs => if isLstC o cs = true then SR.of (evE G Φ dc sl cs) sl fun w cs => appK sl o w cs else .stuck) h) fun x H1 ⟨sl, cs, as, R, o, rel, io, p⟩ => ?_
    by_cases hk : isLstC o cs = true
    · rw [if_pos hk] at p
      have hty : tyV X.K "list" x H1 := by
        match o, io, hk with
        | .c n, io, hk =>
          have hk : (match cs[n]? with | some (.lst _) => true | _ => false) = true := hk
          cases e : cs[n]? with
          | none => rw [e] at hk; cases hk
          | some m =>
            rw [e] at hk
            cases m with
            | lst xs =>
              obtain ⟨a, ha, rfl, zs, hH, hd⟩ := rel.cells.live_at io e (fun z => nomatch z)
              exact .inl ⟨rfl, zs, .inl (.inl hH)⟩
            | _ => cases hk
        | .d _, _, hk => cases hk
      refine ⟨hty, ?_⟩
      refine lift_mono (liftS_bind (IsA := rW X.K cad) (hs := [o]) (vs := [x]) (g := evE G Φ dc) (f := fun sl w cs => appK sl o w cs) ⟨sl, cs, as, R, rel, ⟨x, [], rfl, io, rfl⟩, p⟩) fun v H2 ⟨sl, cs, as, R, w, rel, ih, iw, p⟩ => ?_
      obtain ⟨x', r', e', io, _⟩ := ih
      cases e'
      unfold appK at p
      match o, w, io, iw, p with
      | .c n, .d d, io, iw, p =>
        dsimp only at p
        cases e : cs[n]? with
        | none => rw [e] at p; exact p.elim
        | some m =>
          rw [e] at p
          cases m with
          | lst xs =>
            obtain ⟨a, ha, rfl, zs, hH, hd⟩ := rel.cells.live_at io e (fun z => nomatch z)
            dsimp only at p
            by_cases hl : xs.length < LIM
            · rw [if_pos hl] at p
              obtain ⟨c2, x2⟩ := rel.cells.write (o := .lst (zs ++ [v])) (m := .lst (xs ++ [d])) ha e fun kp => ⟨_, upd_same, (hd.app (IsDs.one iw)).mono kp⟩
              exact ⟨a, zs, v, rfl, rfl, hH, by rw [← hd.length, ← lim_eq]; exact hl, p σ _ as x2 (rel.mono x2 c2)⟩
            · rw [if_neg hl] at p; exact p.elim
          | dct _ _ => exact p.elim
          | obj _ _ _ => exact p.elim
          | dead => exact p.elim
      | .c _, .c _, _, _, p => exact p.elim
      | .d _, _, _, _, p => exact p.elim
    · rw [if_neg hk] at p
      exact p.elim
/-! ### blocks, if -/
variable {s : Stmt} {ss b1 b2 : List Stmt} {d : S} {dd d1 d2 : List S}
theorem ss_nil : SSs G Φ cad X [] [] := fun W tk => pss_nil.imp fun D σ H ⟨sl, cs, as, R, rel, p⟩ => (show PostS X.K cad W D as R H (.ok .nx sl cs) from p) σ H as Ext.refl rel
theorem lift_seq {W : WX} {f : Sl → List M → SR} {D : Ends} {σ : L2.St} {H : Hp} (h : liftS K cad W (fun sl cs => match evS G Φ d sl cs with
      | .ok .nx sl cs => f sl cs
      | r => r) D σ H) : tSeq (liftS K cad W (evS G Φ d)) (liftS K cad W f) D σ H := by
  obtain ⟨sl, cs, as, R, rel, p⟩ := h
  refine ⟨sl, cs, as, R, rel, ?_⟩
  dsimp only at p
  cases e : evS G Φ d sl cs with
  | stuck => rw [e] at p; exact p
  | ex C ks vs sl1 cs1 => rw [e] at p; exact p
  | ok f1 sl1 cs1 =>
    rw [e] at p
    cases f1 with
    | nx => exact fun σ' H' as' x rel' => ⟨sl1, cs1, as', R, rel', PostS.mono x p⟩
    | brk => exact p
    | cnt => exact p
    | ret w => exact p
theorem ss_cons (h1 : SS G Φ cad X d s) (h2 : SSs G Φ cad X dd ss) : SSs G Φ cad X (d :: dd) (s :: ss) := fun W tk =>
  (pss_cons (h1 W tk) (h2 W tk)).imp fun D σ H h => lift_seq h
/-- a slot's object is data from here on: nothing in the text -/
theorem ss_frz {i : Nat} (h2 : SSs G Φ cad X dd ss) : SSs G Φ cad X (.frz i :: dd) ss := fun W tk =>
  (h2 W tk).imp fun D σ H h => by
    obtain ⟨sl, cs, as, R, rel, p⟩ := h
    have p : PostS X.K cad W D as R H (match (match sl[i]? with
      | some (some (.c n)) => (match pk (.c n) cs with
        | some d => SR.ok .nx (sl.set i (some (.d d))) (cs.set n .dead)
        | none => .stuck)
      | some (some (.d _)) => .ok .nx sl cs
      | _ => .stuck) with
      | .ok .nx sl cs => evSs G Φ dd sl cs
      | r => r) := p
    cases e : sl[i]? with
    | none => rw [e] at p; exact p.elim
    | some o =>
      cases o with
      | none => rw [e] at p; exact p.elim
      | some w =>
        cases w with
        | d x => rw [e] at p; exact ⟨sl, cs, as, R, rel, p⟩
        | c n =>
          rw [e] at p
          dsimp only at p
          cases e2 : pk (.c n) cs with
          | none => rw [e2] at p; exact p.elim
          | some d =>
            rw [e2] at p
            dsimp only at p
            obtain ⟨v, e3, iv⟩ := rel.sl i _ e
            obtain ⟨c2, x2, i2⟩ := rel.cells.freeze iv e2
            have rel2 := rel.mono x2 c2
            refine ⟨_, _, _, R, ⟨by rw [List.length_set]; exact rel.len, fun j w ej => ?_, c2⟩, PostS.mono x2 p⟩
            by_cases hj : i = j
            · subst hj
              rw [List.getElem?_set_self (lt_of_get e)] at ej
              cases ej
              exact ⟨v, e3, i2⟩
            · rw [List.getElem?_set_ne hj] at ej
              exact rel2.sl j w ej
theorem lift_ite {W : WX} {D : Ends} {σ : L2.St} {H : Hp} (h : liftS K cad W (evS G Φ (.ite dt d1 d2)) D σ H) : tIfS (liftT K cad W (evT G Φ dt)) (liftS K cad W (evSs G Φ d1)) (liftS K cad W (evSs G Φ d2)) D σ H := by
  refine lift_mono (liftS_bind0 (IsA := rB) (g := evT G Φ dt) (f := fun sl k cs => if k = true then evSs G Φ d1 sl cs else evSs G Φ d2 sl cs) h) fun k H1 ⟨sl, cs, as, R, k', rel, e, p⟩ => ?_
  cases (show k' = k from e)
  cases k with
  | true => exact ⟨sl, cs, as, R, rel, p⟩
  | false => exact ⟨sl, cs, as, R, rel, p⟩
theorem s_ite (ht : ST G Φ cad X dt t) (h1 : SSs G Φ cad X d1 b1) (h2 : SSs G Φ cad X d2 b2) : SS G Φ cad X (.ite dt d1 d2) (.If t b1 b2 pos) := fun W tk =>
  (ps_if (ht W tk) (h1 W tk) (h2 W tk)).imp fun D σ H h => lift_ite h
/-! ### while -/
theorem lift_while {W : WX} {D : Ends} {σ : L2.St} {H : Hp} {g : Sl → List M → Rs Bool} {f : Sl → List M → SR} {n : Nat} (h : liftS K cad W (whileL g f n) D σ H) : tWhile (liftT K cad W g) (liftS K cad W f) D σ H := by
  obtain ⟨sl0, cs0, as0, R, rel0, p⟩ := h
  generalize hr : whileL g f n sl0 cs0 = r at p
  refine ⟨fun m σ1 H1 => ∃ sl cs as, Rel K cad as R H1 sl cs σ1 ∧ Ext H as0 H1 as ∧ whileL g f m sl cs = r, ⟨n, sl0, cs0, as0, rel0, Ext.refl, hr⟩, ?_⟩
  rintro m σ1 H1 ⟨sl, cs, as, rel, x, e⟩
  cases m with
  | zero =>
    have e : SR.stuck = r := e
    rw [← e] at p
    exact p.elim
  | succ m =>
    have e : (SR.of (g sl cs) sl fun b cs => if b = true then match f sl cs with
      | .ok .nx sl cs => whileL g f m sl cs
      | .ok .cnt sl cs => whileL g f m sl cs
      | .ok .brk sl cs => .ok .nx sl cs
      | r => r
    else .ok .nx sl cs) = r := e
    refine ⟨sl, cs, as, R, rel, ?_⟩
    cases eg : g sl cs with
    | stuck => rw [eg] at e; rw [← e] at p; exact p.elim
    | ex C ks vs cs1 =>
      rw [eg] at e
      rw [← e] at p
      exact fun cls d H2 as2 x2 c i => p cls d σ1 H2 as2 (x.trans x2) (rel.mono x2 c) i
    | ok b cs1 =>
      rw [eg] at e
      intro b' H2 as2 x2 c eb
      cases (show b = b' from eb)
      cases b with
      | false =>
        rw [if_neg (by decide)]
        have e : SR.ok .nx sl cs1 = r := e
        rw [← e] at p
        exact p σ1 H2 as2 (x.trans x2) (rel.mono x2 c)
      | true =>
        rw [if_pos rfl]
        refine ⟨fun σ' H' => ∃ sl cs as, Rel K cad as R H' sl cs σ' ∧ Ext H as0 H' as ∧ whileL g f m sl cs = r, fun σ' H' q => ⟨m, Nat.lt_succ_self m, q⟩, sl, cs1, as2, R, rel.mono x2 c, ?_⟩
        have e : (match f sl cs1 with
          | .ok .nx sl cs => whileL g f m sl cs
          | .ok .cnt sl cs => whileL g f m sl cs
          | .ok .brk sl cs => .ok .nx sl cs
          | r => r) = r := e
        have x3 := x.trans x2
        cases ef : f sl cs1 with
        | stuck => rw [ef] at e; rw [← e] at p; exact p.elim
        | ex C ks vs sl2 cs2 =>
          rw [ef] at e
          rw [← e] at p
          exact fun cls d σ' H' as' x' rel' i => p cls d σ' H' as' (x3.trans x') rel' i
        | ok fl sl2 cs2 =>
          rw [ef] at e
          cases fl with
          | nx => exact fun σ' H' as' x' rel' => ⟨sl2, cs2, as', rel', x3.trans x', e⟩
          | cnt => exact fun σ' H' as' x' rel' => ⟨sl2, cs2, as', rel', x3.trans x', e⟩
          | brk =>
            have e : SR.ok .nx sl2 cs2 = r := e
            rw [← e] at p
            exact fun σ' H' as' x' rel' => p σ' H' as' (x3.trans x') rel'
          | ret w =>
            rw [← e] at p
            exact fun v H' as' x' c' i => p v H' as' (x3.trans x') c' i
theorem s_while (hp : PassesOwn (model X.prog X.w) X.A X.env X.xe) (ht : ST G Φ cad X dt t) (h1 : SSs G Φ cad X d1 b1) : SS G Φ cad X (.while_ dt d1) (.While t b1 [] pos) := fun W tk =>
  (ps_while hp (ht W tk) (h1 W tk)).imp fun D σ H h => lift_while (n := G.fuel) h
/-! ### for -/
def forF (G : Pg) (Φ : Nat → List PD.W → List M → Rs PD.W) (t : Tg) (b : List S) (d : PD.D) (sl : Sl) (cs : List M) : SR := match bindT t (.d d) sl with
  | some sl => evSs G Φ b sl cs
  | none => .stuck
theorem ev_for (t : Tg) (k : IK) (its : List E) (b : List S) (sl : Sl) (cs : List M) : evS G Φ (.for_ t k its b) sl cs = SR.of (evI G Φ k its sl cs) sl fun ds cs => forL (forF G Φ t b) ds sl cs := by
  show SR.of (evEs G Φ its sl cs) sl _ = SR.of ((evEs G Φ its sl cs).bind _) sl _
  cases evEs G Φ its sl cs with
  | ok ws cs1 =>
    show (match (dats ws).bind (items k) with | some ds => _ | none => .stuck) = SR.of (Rs.ofO ((dats ws).bind (items k)) cs1) sl _
    cases (dats ws).bind (items k) <;> rfl
  | _ => rfl
theorem lift_for {W : WX} {D : Ends} {σ : L2.St} {H : Hp} {t : Tg} {k : IK} {its : List E} {b : List S} (h : liftS K cad W (evS G Φ (.for_ t k its b)) D σ H) : tFor (liftI K cad W (evI G Φ k its)) (gT K t) (liftS K cad W (evSs G Φ b)) D σ H := by
  have h2 : liftS K cad W (fun sl cs => SR.of (evI G Φ k its sl cs) sl fun ds cs => forL (forF G Φ t b) ds sl cs) D σ H := by
    obtain ⟨sl, cs, as, R, rel, p⟩ := h
    exact ⟨sl, cs, as, R, rel, by rw [ev_for] at p; exact p⟩
  refine lift_mono (liftS_bind0 (IsA := rJ K cad) (g := evI G Φ k its) (f := fun sl ds cs => forL (forF G Φ t b) ds sl cs) h2) fun J H1 ⟨sl0, cs0, as0, R, ds, rel0, ⟨hlen, Gd, Y, wk, hG⟩, p⟩ => ?_
  generalize hr : forL (forF G Φ t b) ds sl0 cs0 = r at p
  refine for_it wk (fun i σ1 H2 => ∃ sl cs as, Rel K cad as R H2 sl cs σ1 ∧ Ext H1 as0 H2 as ∧ forL (forF G Φ t b) (ds.drop i) sl cs = r) ⟨sl0, cs0, as0, rel0, Ext.refl, hr⟩ ?_ ?_ ?_
  · rintro i σ1 H2 _ ⟨sl, cs, as, rel, x, e⟩
    exact (hG H2 (Av as R) x.kp' rel.cells.hF).1
  · rintro i v σ1 H2 H3 hi ⟨sl, cs, as, rel, x, e⟩ hy
    obtain ⟨sm, d, ed, id⟩ := (hG H2 (Av as R) x.kp' rel.cells.hF).2 i v H3 hy
    have x3 : Ext H1 as0 H3 as := x.trans (Ext.same sm)
    have rel3 : Rel K cad as R H3 sl cs σ1 := rel.mono (Ext.same sm) (rel.cells.same sm)
    rw [List.drop_eq_getElem_cons hi] at e
    rw [List.getElem?_eq_getElem hi] at ed
    cases ed
    have e : (match forF G Φ t b ds[i] sl cs with
      | .ok .nx sl cs => forL (forF G Φ t b) (ds.drop (i + 1)) sl cs
      | .ok .cnt sl cs => forL (forF G Φ t b) (ds.drop (i + 1)) sl cs
      | .ok .brk sl cs => .ok .nx sl cs
      | r => r) = r := e
    cases eb : bindT t (.d ds[i]) sl with
    | none =>
      unfold forF at e
      rw [eb] at e
      have e : SR.stuck = r := e
      rw [← e] at p
      exact p.elim
    | some sl' =>
      have ef : forF G Φ t b ds[i] sl cs = evSs G Φ b sl' cs := by unfold forF; rw [eb]
      rw [ef] at e
      refine gT_ok t (w := .d ds[i]) rel3 id eb fun σ2 rel4 _ => ⟨sl', cs, as, R, rel4, ?_⟩
      cases eg : evSs G Φ b sl' cs with
      | stuck => rw [eg] at e; rw [← e] at p; exact p.elim
      | ex C ks vs sl2 cs2 =>
        rw [eg] at e
        rw [← e] at p
        exact fun cls d σ' H' as' x' rel' i => p cls d σ' H' as' (x3.trans x') rel' i
      | ok fl sl2 cs2 =>
        rw [eg] at e
        cases fl with
        | nx => exact fun σ' H' as' x' rel' => ⟨sl2, cs2, as', rel', x3.trans x', e⟩
        | cnt => exact fun σ' H' as' x' rel' => ⟨sl2, cs2, as', rel', x3.trans x', e⟩
        | brk =>
          have e : SR.ok .nx sl2 cs2 = r := e
          rw [← e] at p
          exact fun σ' H' as' x' rel' => p σ' H' as' (x3.trans x') rel'
        | ret w =>
          rw [← e] at p
          exact fun v H' as' x' c' i => p v H' as' (x3.trans x') c' i
  · rintro σ1 H2 ⟨sl, cs, as, rel, x, e⟩
    rw [List.drop_length] at e
    have e : SR.ok .nx sl cs = r := e
    rw [← e] at p
    exact p σ1 H2 as x rel
theorem s_for {tg iter : Expr} {t : Tg} {k : IK} {its : List E} (hp : PassesOwn (model X.prog X.w) X.A X.env X.xe) (hc : X.calm = true) (hi : SI G Φ cad X k its tg iter) (hg : SG X t tg) (h1 : SSs G Φ cad X d1 b1) (hs : ∀ x, foldedSetIterable iter X.env x = pure x) :
    SS G Φ cad X (.for_ t k its d1) (.For tg iter b1 [] pos) := fun W tk =>
  (ps_for hp hc (hi W tk) hg (h1 W tk) hs).imp fun D σ H h => lift_for h
end
end PD
set_option Elab.async false
set_option linter.all false
set_option maxRecDepth 100000
set_option maxHeartbeats 4000000
/-! PyD16: try with the caught object tracked; raise. -/
namespace PD
open PySem PySem.Spec PyProof.Rows L2
section
variable {X : Cx} {pins : List (Addr × Obj)} {σ : L2.St} {H : Hp} {s sI : Shared} {a : Addr} {oe : Obj} {vs : Array Value} {cls : Value} {d : Option Addr}
theorem track (I : Inv X pins σ H s) (J : Inv X pins σ H sI) (hz : Zc cls d oe) (he : s.heap.get? a = some oe) (hd : oe.data = .fields vs) (na : H a = none) (nI : sI.heap.get? a = none) (nL : a ≠ X.env.locals) : Inv X pins σ (upd H a (exO cls d a)) s := by
  have n0 : X.s_0.heap.get? a = none ∨ a ∈ X.ex := by
    by_cases hx : a ∈ X.ex
    · exact .inr hx
    · refine .inl ?_
      cases q : X.s_0.heap.get? a with
      | none => rfl
      | some o =>
        obtain ⟨o', z⟩ := J.base.there a o q hx
        rw [nI] at z
        cases z
  refine ⟨I.ok, I.os, I.bare, ⟨I.base.keep, I.base.slot, fun b o q n hx => ?_, I.base.there, fun b xs q => ?_, fun b o u q => ?_, fun b ps q => ?_⟩, I.loc, I.cell, ?_, fun x c e => ?_, fun p hp => ?_, fun b u q => ?_, I.len⟩
  · have hb : b ≠ a := fun z => by
      rcases n0 with z0 | z0
      · rw [z, z0] at q; cases q
      · exact hx (z ▸ z0)
    rw [upd_ne hb]
    exact I.base.free b o q n hx
  · have z := I.base.tups b xs q
    rw [upd_ne (ne_of_none z na)]
    exact z
  · have z := I.base.frzs b o u q
    rw [upd_ne (ne_of_none z na)]
    exact z
  · obtain ⟨more, z⟩ := I.base.tbls b ps q
    exact ⟨more, by rw [upd_ne (ne_of_none z na)]; exact z⟩
  · rw [upd_ne (Ne.symm nL)]
    exact I.free
  · have hc : c ≠ a := fun z => by
      obtain ⟨v, o, q, hq⟩ := I.cell x c e
      rw [z, he] at q
      cases q
      rw [hd] at hq
      cases hq
    rw [upd_ne hc]
    exact I.freeC x c e
  · obtain ⟨p1, p2, p3⟩ := I.pin p hp
    have hp' : p.1 ≠ a := fun z => by
      have q := (J.pin p hp).1
      rw [z, nI] at q
      cases q
    exact ⟨p1, by rw [upd_ne hp']; exact p2, p3⟩
  · by_cases hb : b = a
    · subst hb
      rw [upd_same] at q
      cases q
      refine ⟨⟨oe, vs, he, hz, hd⟩, ⟨oe, he⟩, fun h1 h2 ⟨oe1, vs1, q1, q2, q3⟩ k => ⟨oe1, vs1, k _ q1, q2, q3⟩⟩
    · rw [upd_ne hb] at q
      exact (I.hok b u q).stay (fun c v _ q => q) (fun c q => by rw [upd_ne (ne_of_none q na)]; exact q) fun c xs q => by rw [upd_ne (ne_of_none q na)]; exact q
theorem _root_.L2.Inv.toSuite (I : Inv X pins σ H s) (a : Addr) : Inv (X.suite a (X.pn ++ pins)) [] σ H s :=
  ⟨I.ok.suite _ _, I.os, I.bare, I.base, I.loc, I.cell, I.free, I.freeC, fun p hp => I.pin p (by rw [List.append_nil] at hp; exact hp), I.hok, I.len⟩
theorem outSuite {pn' : List (Addr × Obj)} (I : Inv (X.suite a (X.pn ++ pins)) pn' σ H s) (ok : X.Ok) : Inv X pins σ H s :=
  ⟨ok, I.os, I.bare, I.base, I.loc, I.cell, I.free, I.freeC, fun p hp => I.pin p (List.mem_append_left _ hp), I.hok, I.len⟩
end
/-- what a clause wishes of an exception of the body -/
def wCatch (K : PySem.W.Frag) (c : Value) (ent : Addr → Value → Option Addr → L2.St → Hp → Prop) (Wout : WX) : WX := fun cls d σ H =>
  ∃ b, PySem.W.exmOne K cls c = some b ∧ (b = true → ∀ a, H a = none → ent a cls d σ (upd H a (exO cls d a))) ∧ (b = false → Wout cls d σ H)
section
variable {X : Cx} {pins : List (Addr × Obj)} {xe : Value → Shared → Prop} {W Wout : WX} {u : Value} {s' : Shared} {x n : Str} {c : Value} {np : Pos}
/-- an exception of the body has landed: how its suite is entered, how it goes on -/
structure Landed (X : Cx) (pins : List (Addr × Obj)) (Wout : WX) (a : Addr) (cls : Value) (d : Option Addr) (σ : L2.St) (H : Hp) (s3 : Shared) : Prop where
  na : H a = none
  inv : Inv X pins σ H s3
  ty : ∀ M : Model, PySem.W.Looks M s3.heap (typeOf (.ref a)) cls
  test : ∀ {x : Str} {c : Value} {np : Pos} {Q : Value → Shared → Prop} {E : Value → Shared → Prop}, Names X x c → Q c s3 → wpAny (model X.prog X.w) (X.A.mark (some (.ref a))) (eval (.Name x np) X.env) Q E s3
  enter : ∀ {A : Around} {Q : Unit → Shared → Prop} {E : Value → Shared → Prop}, (∀ s4, Inv (X.suite a (X.pn ++ pins)) [] σ (upd H a (exO cls d a)) s4 → Q () s4) → wpAny (model X.prog X.w) A (setFlight (.ref a) none) Q E s3
  on : ∀ {Q : Flow → Shared → Prop}, Takes X Wout → Wout cls d σ H → wpAny (model X.prog X.w) X.A (handleBy (.ref a) X.env []) Q X.xe s3
theorem landed (hs : X.stack = X.env :: X.outer) (hf : X.env.frame = some X.env.locals) (ok : X.Ok) (xx : XE (X.tr (X.pn ++ pins) xe) W u s') {Q : Shared → Prop} {E : Value → Shared → Prop}
    (k : ∀ a cls d σ H s3, u = .ref a → W cls d σ H → Landed X pins Wout a cls d σ H s3 → Q s3) :
    wpAny (model X.prog X.w) X.A (noteFrame u X.env) (fun _ s2 => wpAny (model X.prog X.w) X.A (setFlight u none) (fun _ s3 => Q s3) E s2) E s' := by
  obtain ⟨a, B, sI, pins', σ, H, cls, d, rfl, J', nb, up, sky, na, os, ag, w⟩ := xx
  have frames : X.A.frames = some (X.env :: X.outer) := by rw [ok.frames, hs]
  have J : Inv X pins σ H sI := J'.ofTry ok
  have sky2 : Sky B (X.env :: X.outer) a (Zc cls d) X.env.locals s'.heap := by rw [← hs]; exact sky
  refine Sky.land Zc.steady frames hf sky2 fun h3 fl up3 => k a cls d σ H _ rfl w ?_
  have ground : ∀ {h : Heap}, HandSPX.FlyingZ B (X.env :: X.outer) a (Zc cls d) h → s'.heap.UpToSlots h → Inv X pins σ H { s' with heap := h } := fun {h} f q => J.landed nb f.1 (up.trans q) os ag
  have off : a ∉ frs (X.env :: X.outer) := fun hm => by
    obtain ⟨oe, vs, e, _, dd⟩ := fl.there
    obtain ⟨_, o', e', hnf⟩ := fl.2.2.1.mem hm
    rw [e] at e'
    cases e'
    exact hnf _ dd
  have nL : a ≠ X.env.locals := fun z => off (List.mem_filterMap.mpr ⟨X.env, List.mem_cons_self, by rw [hf, z]⟩)
  have nF : a ∉ X.fs := fun hm => by
    obtain ⟨e, he, q⟩ := List.mem_filterMap.mp hm
    exact off (List.mem_filterMap.mpr ⟨e, List.mem_cons_of_mem _ he, q⟩)
  have nI : sI.heap.get? a = none := by
    cases q : sI.heap.get? a with
    | none => rfl
    | some o =>
      have z := nb a o q (by rw [show (X.tr (X.pn ++ pins) xe).stack = X.env :: X.outer from hs]; exact off)
      rw [fl.2.1] at z
      cases z
  obtain ⟨oe3, vs3, e3, z3, d3⟩ := fl.there
  have I3 := ground fl up3
  refine ⟨na, I3, fun M A Q E s k q => wpAny_typeOf_ref (k _ _ e3) (by rw [z3.1]; exact q), fun {x c np Q E} hc q => ?_, fun {A Q E} hQ => ?_, fun {Q} tk wo => ?_⟩
  · have S3 := I3.suite e3 d3 na nL nF
    obtain ⟨hg, hdbg, hm | ⟨hm, hv, hnn⟩⟩ := hc
    · exact ld_glob (X := X.suite a ((a, oe3) :: (X.pn ++ pins))) S3 hg hm q hdbg
    · exact ld_blt (X := X.suite a ((a, oe3) :: (X.pn ++ pins))) S3 hg hm hv q hnn hdbg
  · refine HandSPX.lands_againZ fl fun h4 fl4 up4 => hQ _ ?_
    obtain ⟨oe4, vs4, e4, z4, d4⟩ := fl4.there
    exact (track (ground fl4 (up3.trans up4)) J z4 e4 d4 na nI nL).toSuite a
  · refine wpAny_handleBy_nil ?_
    obtain ⟨_, _, _, oe, vs, T, oT, ts', he, _, hd, h1, _⟩ := id fl
    unfold PySem.passOn
    refine wpAny_bind (wpAny_field he hd h1 ?_)
    rw [if_neg (show ¬ ((Value.ref T == Value.none) = true) from by simp)]
    have fin : wpAny (model X.prog X.w) X.A (setFlight (.ref a) X.env.frame) (fun _ s4 => wpAny (model X.prog X.w) X.A (throw (.ref a) : Sem Flow) Q X.xe s4) X.xe { s' with heap := h3 } := by
      rw [hf]
      exact HandSPX.setFlight_upZ fl fun h4 hh4 up4 => wpAny_throw (tk _ _ ⟨a, B, sI, pins, σ, H, cls, d, rfl, J, nb, (up.trans up3).trans up4, .inr (.inr (by rw [hs]; exact hh4)), na, os, ag, wo⟩)
    first
      | exact wpAny_bind (wpAny_pure (wpAny_bind fin))
      | exact wpAny_bind fin
/-- the body's own ends -/
theorem endsTry {pn : List (Addr × Obj)} {D : Ends} {f : Flow} {s1 : Shared} (ok : X.Ok) (h : SP (X.tr (X.pn ++ pins) xe) [] D f s1) : SP X pins D f s1 := by
  cases f with
  | ret u => obtain ⟨v, σ', H', J', r, q⟩ := h; exact ⟨v, σ', H', J'.ofTry ok, r, q⟩
  | _ => obtain ⟨σ', H', J', q⟩ := h; exact ⟨σ', H', J'.ofTry ok, q⟩
variable {i : Nat} {body suite : List Stmt} {b₀ : Stmt} {pos pos' : Pos} {tb : WX → TS} {ts : TS}
/-- try: .. except x: .. -/
theorem ps_tryT (hs : X.stack = X.env :: X.outer) (hf : X.env.frame = some X.env.locals) (hc : Names X x c) (tk : Takes X Wout)
    (hb : ∀ (W : WX) (pn : List (Addr × Obj)) (xe : Value → Shared → Prop), Takes (X.tr pn xe) W → PassesOwn (model X.prog X.w) X.A X.env xe → PSs (X.tr pn xe) body (tb W))
    (hsu : ∀ (a : Addr) (pn : List (Addr × Obj)), PSs (X.suite a pn) (b₀ :: suite) ts) :
    PS X (.Try body [.ExceptHandler (some (.Name x np)) none (b₀ :: suite) pos'] [] [] pos) (fun D σ H => tb (wCatch X.K c (fun _ _ _ σ H => ts D σ H) Wout) D σ H) := by
  refine ⟨fun pins s σ H D I h => ?_⟩
  have ok := I.ok
  refine wpAny_Try_except (wpAny_mono ((hb (wCatch X.K c (fun _ _ _ σ H => ts D σ H) Wout) (X.pn ++ pins) (fun e s₁ => wpAny (model X.prog X.w) X.A (noteFrame e X.env) (fun _ s₂ => wpAny (model X.prog X.w) X.A (setFlight e none) (fun _ s₃ =>
    wpAny (model X.prog X.w) X.A (handleBy e X.env [.ExceptHandler (some (.Name x np)) none (b₀ :: suite) pos']) (SP X pins D) X.xe s₃) X.xe s₂) X.xe s₁) (fun u s' xx => ?_) PassesOwn.looking).run [] s σ H D (I.toTry _) h) (fun f s1 hsp => ?_) (fun e s1 he => he))
  · refine landed (Wout := Wout) hs hf ok xx fun a cls d σ' H' s3 eu w L => ?_
    subst eu
    obtain ⟨b, hb1, hyes, hno⟩ := w
    refine wpAny_handleBy_cons (codeAny_handlers_test (L.test hc ((PySem.W.exm_one (M := model X.prog X.w) L.inv.kIn (L.ty _) hb1).here ?_))) (by intro q; cases q)
    cases b with
    | true =>
      refine codeAny_handlers_suite (L.enter fun s4 S4 => ?_)
      refine wpAny_mono ((hsu a (X.pn ++ pins)).run [] _ _ _ _ S4 (hyes rfl a L.na)) (fun f s6 hsp => ?_) (fun _ _ z => False.elim z)
      cases f with
      | ret u => obtain ⟨v6, σ6, H6, S6, r6, q6⟩ := hsp; exact ⟨_, _, _, outSuite S6 ok, r6, q6⟩
      | _ => obtain ⟨σ6, H6, S6, q6⟩ := hsp; exact ⟨_, _, outSuite S6 ok, q6⟩
    | false => exact L.on tk (hno rfl)
  · have q := endsTry (pn := []) ok hsp
    cases f with
    | next => obtain ⟨σ', H', J', q⟩ := q; exact wpAny_execs_nil ⟨σ', H', J', q⟩
    | _ => exact q
/-- the ends of a suite whose exception has a name -/
def asEnds (i : Nat) (D : Ends) : Ends := { nx := fun σ' H' => D.nx (σ'.set i none) H', rt := D.rt, bk := fun σ' H' => D.bk (σ'.set i none) H', ct := fun σ' H' => D.ct (σ'.set i none) H' }
/-- try: .. except x as n: .. -/
theorem ps_tryTn (hs : X.stack = X.env :: X.outer) (hf : X.env.frame = some X.env.locals) (hN : X.N.Nodup) (hi : X.N[i]? = some n) (hln : X.env.kindOf n = some .local) (hc : Names X x c) (tk : Takes X Wout)
    (hb : ∀ (W : WX) (pn : List (Addr × Obj)) (xe : Value → Shared → Prop), Takes (X.tr pn xe) W → PassesOwn (model X.prog X.w) X.A X.env xe → PSs (X.tr pn xe) body (tb W))
    (hsu : ∀ (a : Addr) (pn : List (Addr × Obj)), PSs (X.suite a pn) (b₀ :: suite) ts) :
    PS X (.Try body [.ExceptHandler (some (.Name x np)) (some n) (b₀ :: suite) pos'] [] [] pos) (fun D σ H => tb (wCatch X.K c (fun a _ _ σ H => ts (asEnds i D) (σ.set i (some (.ref a))) H) Wout) D σ H) := by
  refine ⟨fun pins s σ H D I h => ?_⟩
  have ok := I.ok
  refine wpAny_Try_except (wpAny_mono ((hb (wCatch X.K c (fun a _ _ σ H => ts (asEnds i D) (σ.set i (some (.ref a))) H) Wout) (X.pn ++ pins) (fun e s₁ => wpAny (model X.prog X.w) X.A (noteFrame e X.env) (fun _ s₂ => wpAny (model X.prog X.w) X.A (setFlight e none) (fun _ s₃ =>
    wpAny (model X.prog X.w) X.A (handleBy e X.env [.ExceptHandler (some (.Name x np)) (some n) (b₀ :: suite) pos']) (SP X pins D) X.xe s₃) X.xe s₂) X.xe s₁) (fun u s' xx => ?_) PassesOwn.looking).run [] s σ H D (I.toTry _) h) (fun f s1 hsp => ?_) (fun e s1 he => he))
  · refine landed (Wout := Wout) hs hf ok xx fun a cls d σ' H' s3 eu w L => ?_
    subst eu
    obtain ⟨b, hb1, hyes, hno⟩ := w
    refine wpAny_handleBy_cons (codeAny_handlers_test (L.test hc ((PySem.W.exm_one (M := model X.prog X.w) L.inv.kIn (L.ty _) hb1).here ?_))) (by intro q; cases q)
    cases b with
    | true =>
      refine codeAny_handlers_suite_as (L.enter fun s4 S4 => ?_)
      refine store_ok (X := X.suite a (X.pn ++ pins)) (v := .ref a) S4 hN hi (.inl hln) rfl (fun s5 S5 => ?_) (.inr hln)
      refine wpAny_mono ((hsu a (X.pn ++ pins)).run [] s5 _ _ _ S5 (hyes rfl a L.na)) (fun f s6 hsp => ?_) (fun _ _ z => False.elim z)
      have go : ∀ {σ6 : L2.St} {H6 : Hp} {Q : Shared → Prop}, Inv (X.suite a (X.pn ++ pins)) [] σ6 H6 s6 → (∀ s7, Inv X pins (σ6.set i none) H6 s7 → Q s7) →
          wpAny (model X.prog X.w) X.A (do bindName X.env n .none; unbindBehindTheSuite X.env n pos') (fun _ s7 => Q s7) X.xe s6 := fun {σ6 H6 Q} S6 hq => gone_ok (outSuite S6 ok) hN hi hln hq
      cases f with
      | ret u => obtain ⟨v6, σ6, H6, S6, r6, q6⟩ := hsp; exact go S6 fun s7 J7 => ⟨_, _, _, J7, r6, q6⟩
      | _ => obtain ⟨σ6, H6, S6, q6⟩ := hsp; exact go S6 fun s7 J7 => ⟨_, _, J7, q6⟩
    | false => exact L.on tk (hno rfl)
  · have q := endsTry (pn := []) ok hsp
    cases f with
    | next => obtain ⟨σ', H', J', q⟩ := q; exact wpAny_execs_nil ⟨σ', H', J', q⟩
    | _ => exact q
end
end PD
set_option Elab.async false
set_option linter.all false
set_option maxRecDepth 100000
set_option maxHeartbeats 4000000
/-! PyD17: the text against the little language: statements. -/
namespace PD
open PySem PySem.Spec PyProof.Rows L2
section
variable {G : Pg} {Φ : Nat → List PD.W → List M → Rs PD.W} {cad : Nat → Addr} {X : Cx} {K : PySem.W.Frag} {pos : Pos}
/-! ### raise -/
theorem s_rais {C : Nat} {x : Str} {p p2 : Pos} {e : Expr} {es : List Expr} {ds : List E} (hc : X.calm = true) (rc : RaiseC X.K (cad C)) (hg : Gl X x) (hm : X.mg x = some (.ref (cad C))) (hdb : (x == ("__debug__" : Str)) = false) (ha : SA G Φ cad X ds (e :: es)) (hs : (e :: es).all notStar = true) :
    SS G Φ cad X (.rais C ds) (.Raise (some (.Call (.Name x p) (e :: es) [] p2)) none pos) := fun W tk => by
  obtain ⟨B, newId, initId, bmB, F, q⟩ := rc.base
  refine (ps_raise hc tk (pmk_ownA F q hm rc.kp (raises_own rc.r1 rc.r2) hg (ha W tk) hdb (star_of (tail_star hs).1) (noStars es (tail_star hs).2 p2))).imp fun D σ H h => ?_
  refine lift_mono (liftS_bind0 (IsA := rWs X.K cad) (g := evEs G Φ ds) (f := fun sl ws cs => if ws.length ≤ LIM then .ex C [] [] sl cs else .stuck) h) fun vs H1 ⟨sl, cs, as, R, ws, rel, iw, p⟩ => ?_
  by_cases hl : ws.length ≤ LIM
  · rw [if_pos hl] at p
    exact ⟨by rw [← iw.length, ← lim_eq]; exact hl, p _ none σ H1 as Ext.refl rel ⟨rfl, .inl ⟨rfl, rfl, rfl⟩⟩⟩
  · rw [if_neg hl] at p
    exact p.elim
/-! ### try -/
theorem lift_try {W : WX} {C : Nat} {b h : List S} {D : Ends} {σ : L2.St} {H : Hp} (exm : ∀ C' b, G.sub C' C = some b → PySem.W.exmOne K (.ref (cad C')) (.ref (cad C)) = some b) (hh : liftS K cad W (evS G Φ (.try_ b C none h)) D σ H) :
    liftS K cad (wCatch K (.ref (cad C)) (fun _ _ _ σ H => liftS K cad W0 (evSs G Φ h) D σ H) W) (evSs G Φ b) D σ H := by
  obtain ⟨sl, cs, as, R, rel, p⟩ := hh
  refine ⟨sl, cs, as, R, rel, ?_⟩
  have p : PostS K cad W D as R H (match evSs G Φ b sl cs with
    | .ex C' ks vs sl' cs' => match G.sub C' C with
      | some true => (match evSs G Φ h sl' cs' with
          | .ok f sl2 cs2 => .ok f sl2 cs2
          | .ex _ _ _ _ _ => .stuck
          | .stuck => .stuck)
      | some false => .ex C' ks vs sl' cs'
      | none => .stuck
    | r => r) := p
  cases e : evSs G Φ b sl cs with
  | stuck => rw [e] at p; exact p
  | ok f sl1 cs1 => rw [e] at p; cases f <;> exact p
  | ex C' ks vs sl1 cs1 =>
    rw [e] at p
    dsimp only at p
    intro cls d σ' H' as' x rel' ix
    obtain ⟨rfl, ix2⟩ := id ix
    cases es : G.sub C' C with
    | none => rw [es] at p; exact p.elim
    | some bb =>
      rw [es] at p
      cases bb with
      | false => exact ⟨false, exm C' _ es, (fun z => absurd z Bool.false_ne_true), fun _ => p _ d σ' H' as' x rel' ix⟩
      | true =>
        refine ⟨true, exm C' _ es, fun _ a na => ?_, (fun z => absurd z.symm Bool.false_ne_true)⟩
        dsimp only at p
        have sm : Same H' (upd H' a (exO (.ref (cad C')) d a)) := same_upd na
        refine ⟨sl1, cs1, as', R, rel'.mono (Ext.same sm) (rel'.cells.same sm), ?_⟩
        have p := PostS.mono (x.trans (Ext.same sm)) p
        cases eh : evSs G Φ h sl1 cs1 with
        | stuck => rw [eh] at p; exact p
        | ex _ _ _ _ _ => rw [eh] at p; exact p.elim
        | ok f sl2 cs2 => rw [eh] at p; cases f <;> exact p
/-- the caught object as a value -/
theorem exc_val {as : AS} {R : List Addr} {H : Hp} {cs : List M} {C : Nat} {ks : List Str} {vs : List D} {d : Option Addr} {a : Addr} (c : Cells K cad as R H cs) (ix : IsX K cad as R H C ks vs (.ref (cad C)) d) (na : H a = none) :
    IsD K cad (upd H a (exO (.ref (cad C)) d a)) (Av as R) (.exc C ks vs) (.ref a) := by
  have sm : Same H (upd H a (exO (.ref (cad C)) d a)) := same_upd na
  refine ⟨a, d, rfl, fresh_av c.hF na, upd_same, ?_⟩
  rcases ix.2 with h2 | ⟨h0, dx, us, e1, e2, e3, e4, hs⟩
  · exact .inl h2
  · exact .inr ⟨h0, dx, us, e1, e2, sm _ _ e3, e4, hs.mono (Kp.same sm)⟩
theorem lift_tryn {W : WX} {C i : Nat} {b h : List S} {D : Ends} {σ : L2.St} {H : Hp} (exm : ∀ C' b, G.sub C' C = some b → PySem.W.exmOne K (.ref (cad C')) (.ref (cad C)) = some b) (hh : liftS K cad W (evS G Φ (.try_ b C (some i) h)) D σ H) :
    liftS K cad (wCatch K (.ref (cad C)) (fun a _ _ σ H => liftS K cad W0 (evSs G Φ h) (asEnds i D) (σ.set i (some (.ref a))) H) W) (evSs G Φ b) D σ H := by
  obtain ⟨sl, cs, as, R, rel, p⟩ := hh
  refine ⟨sl, cs, as, R, rel, ?_⟩
  have p : PostS K cad W D as R H (match evSs G Φ b sl cs with
    | .ex C' ks vs sl' cs' => match G.sub C' C with
      | some true => if i < sl'.length then (match evSs G Φ h (sl'.set i (some (.d (.exc C' ks vs)))) cs' with
          | .ok f sl2 cs2 => .ok f (sl2.set i none) cs2
          | .ex _ _ _ _ _ => .stuck
          | .stuck => .stuck) else .stuck
      | some false => .ex C' ks vs sl' cs'
      | none => .stuck
    | r => r) := p
  cases e : evSs G Φ b sl cs with
  | stuck => rw [e] at p; exact p
  | ok f sl1 cs1 => rw [e] at p; cases f <;> exact p
  | ex C' ks vs sl1 cs1 =>
    rw [e] at p
    dsimp only at p
    intro cls d σ' H' as' x rel' ix
    obtain ⟨rfl, ix2⟩ := id ix
    cases es : G.sub C' C with
    | none => rw [es] at p; exact p.elim
    | some bb =>
      rw [es] at p
      cases bb with
      | false => exact ⟨false, exm C' _ es, (fun z => absurd z Bool.false_ne_true), fun _ => p _ d σ' H' as' x rel' ix⟩
      | true =>
        refine ⟨true, exm C' _ es, fun _ a na => ?_, (fun z => absurd z.symm Bool.false_ne_true)⟩
        dsimp only at p
        by_cases hl : i < sl1.length
        · rw [if_pos hl] at p
          have sm : Same H' (upd H' a (exO (.ref (cad C')) d a)) := same_upd na
          refine ⟨sl1.set i (some (.d (.exc C' ks vs))), cs1, as', R, (rel'.mono (Ext.same sm) (rel'.cells.same sm)).set hl (w := .d (.exc C' ks vs)) (exc_val rel'.cells ix na), ?_⟩
          have p := PostS.mono (x.trans (Ext.same sm)) p
          cases eh : evSs G Φ h (sl1.set i (some (.d (.exc C' ks vs)))) cs1 with
          | stuck => rw [eh] at p; exact p
          | ex _ _ _ _ _ => rw [eh] at p; exact p.elim
          | ok f sl2 cs2 =>
            rw [eh] at p
            cases f with
            | nx => exact fun σ2 H2 as2 x2 r2 => p _ H2 as2 x2 r2.unset2
            | brk => exact fun σ2 H2 as2 x2 r2 => p _ H2 as2 x2 r2.unset2
            | cnt => exact fun σ2 H2 as2 x2 r2 => p _ H2 as2 x2 r2.unset2
            | ret w => exact p
        · rw [if_neg hl] at p; exact p.elim
end
/-! ### where a statement stands -/
structure StS (ct : Ct) (G : Pg) (Φ : Nat → List PD.W → List M → Rs PD.W) (cad : Nat → Addr) (k : Nat) (X : Cx) : Prop where
  st : StX ct G Φ cad k X
  own : PassesOwn (model X.prog X.w) X.A X.env X.xe
  stk : X.stack = X.env :: X.outer
  frm : X.env.frame = some X.env.locals
  knd : X.env.blockKind = .function
/-! ### the look -/
def binA : Operator → Option O
  | .Add => some .add | .Sub => some .sub | .Mult => some .mul | .Mod => some .mod
  | _ => none
section
variable (G : Pg) (nE : Nat) (rS : Ct → List Stmt → List S → Bool) (ct : Ct)
def sPass (s : Stmt) : Bool := match s with
  | .Pass _ => true
  | .Expr (.Constant (.str _) _ _) _ => true
  | _ => false
def sEx (s : Stmt) (de : E) : Bool := match s with
  | .Expr e _ => notLC e && okE G nE ct e de
  | _ => false
def inScope (scope : Scope) (t : Str) : Bool := scope.names.any fun (n, k) => n == t && (k == .local || k == .cell)
/-- name = [..]: is it stored on the way out -/
def onLine (ct : Ct) (y : Str) (py lp : Pos) (scope : Scope) : Bool := (ct.sc.names.lookup y == some .local) && (py.line == lp.line) && !inScope scope y
def sLc (tg e : Expr) (t : Tg) (de : E) : Bool := !ct.hot && match tg, e, t, de with
  | .Name y py, .ListComp elt [⟨tg, iter, ifs, z⟩] scope lp, .n i, .comp mc own t q its conds d =>
    decide (ct.N[i]? = some y) && locB ct y && kComp (okE G nE) ct e own t q its conds d
  | _, _, _, _ => false
def sAsg (s : Stmt) (t : Tg) (de : E) : Bool := match s with
  | .Assign [tg] e _ => (okT ct tg t && okE G nE ct e de && notLC e && noSwap tg e && notStar tg) || sLc G nE ct tg e t de
  | _ => false
def twoSwap (x y : Str) (px py : Pos) (a b : Expr) : Bool := decide (ct.sc.names.lookup x = some .local) && decide (ct.sc.names.lookup y = some .local) && (py.line == px.line) && !(x == y) && !([a, b].all (foldedForSure 8)) && !([a, b].all (constantsAlone 8))
def sPar (s : Stmt) (i j : Nat) (da db : E) : Bool := !ct.hot && match s with
  | .Assign [.Tuple [.Name x px, .Name y py] _ _] (.Tuple [a, b] _ _) _ => decide (ct.N[i]? = some x) && decide (ct.N[j]? = some y) && decide (i ≠ j) && twoSwap ct x y px py a b && notStar a && notStar b && okE G nE ct a da && okE G nE ct b db
  | _ => false
def sAug (s : Stmt) (i : Nat) (o : O) (de : E) : Bool := match s with
  | .AugAssign (.Name x _) op e _ => decide (ct.N[i]? = some x) && locB ct x && decide (binA op = some o) && okE G nE ct e de
  | _ => false
def sSetix (s : Stmt) (da db dc : E) : Bool := match s with
  | .Assign [.Subscript a b _] c _ => notSlice b && notLC c && okE G nE ct c dc && okE G nE ct a da && okE G nE ct b db
  | _ => false
def sSetfld (s : Stmt) (da : E) (f : Str) (dc : E) : Bool := match s with
  | .Assign [.Attribute a f' _] c _ => decide (f = f') && notLC c && okE G nE ct c dc && okE G nE ct a da
  | _ => false
def sApp (s : Stmt) (da dc : E) : Bool := match s with
  | .Expr (.Call (.Attribute a m ap) [c] [] cp) _ => decide (m = ("append" : Str)) && attrB a && (ap.endLine == cp.line) && notStar c && okE G nE ct a da && okE G nE ct c dc
  | _ => false
def sIte (s : Stmt) (dt : E) (d1 d2 : List S) : Bool := match s with
  | .If t b1 b2 _ => tstB t dt && okE G nE ct t dt && rS ct b1 d1 && rS ct b2 d2
  | _ => false
def sFor (s : Stmt) (t : Tg) (q : IK) (its : List E) (d1 : List S) : Bool := !ct.hot && match s with
  | .For tg iter b1 [] _ => okT ct tg t && kIter (okE G nE) ct q its tg iter && rS ct b1 d1 && notSet iter
  | _ => false
def sWhile (s : Stmt) (dt : E) (d1 : List S) : Bool := match s with
  | .While t b1 [] _ => tstB t dt && okE G nE ct t dt && rS ct b1 d1
  | _ => false
def isNonC : E → Bool
  | .c .non => true
  | _ => false
def sRet (s : Stmt) (de : E) : Bool := match s with
  | .Return (some e) _ => okE G nE ct e de
  | .Return none _ => isNonC de
  | _ => false
def sRais (s : Stmt) (C : Nat) (ds : List E) : Bool := !ct.hot && match s with
  | .Raise (some (.Call (.Name x _) (e :: es) [] _)) none _ => globB ct.sc x && decide ((x, C) ∈ ct.T.cls) && G.isX C && (e :: es).all notStar && kAll (okE G nE) ct (e :: es) ds
  | _ => false
def sTry (s : Stmt) (b : List S) (C : Nat) (i : Option Nat) (h : List S) : Bool := !ct.hot && match s with
  | .Try body [.ExceptHandler (some (.Name x _)) nm (b0 :: suite) _] [] [] _ => globB ct.sc x && decide ((x, C) ∈ ct.T.cls) && (match nm, i with
      | none, none => true
      | some n, some i => decide (ct.N[i]? = some n) && decide (ct.sc.names.lookup n = some .local)
      | _, _ => false) && rS ct body b && rS { ct with hot := true } (b0 :: suite) h
  | _ => false
def stepS (s : Stmt) (d : S) : Bool := match d with
  | .pass => sPass s
  | .ex e => sEx G nE ct s e
  | .asg t e => sAsg G nE ct s t e
  | .par i j a b => sPar G nE ct s i j a b
  | .aug i o e => sAug G nE ct s i o e
  | .setix a i e => sSetix G nE ct s a i e
  | .setfld a f e => sSetfld G nE ct s a f e
  | .app a e => sApp G nE ct s a e
  | .ite t a b => sIte G nE rS ct s t a b
  | .for_ t k its b => sFor G nE rS ct s t k its b
  | .while_ t b => sWhile G nE rS ct s t b
  | .ret e => sRet G nE ct s e
  | .rais C es => sRais G nE ct s C es
  | .try_ b C i h => sTry rS ct s b C i h
  | .brk => (match s with | .Break _ => true | _ => false)
  | .cnt => (match s with | .Continue _ => true | _ => false)
  | .frz _ => false
def isFrzS : S → Bool
  | .frz _ => true
  | _ => false
end
def okSs (G : Pg) (nE : Nat) : Nat → Ct → List Stmt → List S → Bool
  | 0 => fun _ _ _ => false
  | n + 1 => fun ct ss ds => match ds with
    | [] => ss.isEmpty
    | d :: ds => if isFrzS d = true then okSs G nE n ct ss ds else match ss with
      | [] => false
      | s :: ss => stepS G nE (okSs G nE n) ct s d && okSs G nE n ct ss ds
end PD
set_option Elab.async false
set_option linter.all false
set_option maxRecDepth 100000
set_option maxHeartbeats 4000000
/-! PyD18: what the look at statements passes keeps its promise. -/
namespace PD
open PySem PySem.Spec PyProof.Rows L2
section
variable {G : Pg} {Φ : Nat → List PD.W → List M → Rs PD.W} {cad : Nat → Addr} {X : Cx} {ct : Ct} {k nE : Nat} {rS : Ct → List Stmt → List S → Bool}
/-- the context of a try's body -/
theorem StS.tr (t : StS ct G Φ cad k X) (pn : List (Addr × Obj)) (xe : Value → Shared → Prop) (h : PassesOwn (model X.prog X.w) X.A X.env xe) : StS ct G Φ cad k (X.tr pn xe) :=
  ⟨⟨t.st.hN, t.st.sc, t.st.nd, t.st.cold, t.st.un, t.st.fnc, t.st.wd⟩, h, t.stk, t.frm, t.knd⟩
/-- the context of a suite -/
theorem StS.suite (t : StS ct G Φ cad k X) (a : Addr) (pn : List (Addr × Obj)) : StS { ct with hot := true } G Φ cad k (X.suite a pn) :=
  ⟨⟨t.st.hN, t.st.sc, t.st.nd, fun z => absurd (show true = false from z) (by decide), t.st.un, t.st.fnc, t.st.wd⟩, PassesOwn.never, t.stk, t.frm, t.knd⟩
theorem swap_comp {elt : Expr} {gs : List Comprehension} {scope : Scope} {lp py spos : Pos} {y : Str} {env : Env} (hb : env.blockKind = .function) : swapsWith (.ListComp elt gs scope lp) (some (.Name y py)) spos.line env = pure ((env.kindOf y == some .local) && (py.line == lp.line) && !inScope scope y) := by
  show (pure (env.blockKind == .function && env.kindOf y == some .local && py.line == lp.line && !(scope.names.any fun (n, k) => n == y && (k == .local || k == .cell))) : Sem Bool) = _
  rw [hb]
  rfl
variable (t : StS ct G Φ cad k X)
include t
theorem sv {e : Expr} {d : E} (h : okE G nE ct e d = true) : SEv G Φ cad X d e := okE_ok nE ct e d X t.st h
theorem sPass_ok {s : Stmt} (h : sPass s = true) : SS G Φ cad X .pass s := by
  unfold sPass at h
  split at h
  · exact s_pass
  · exact s_doc
  · cases h
theorem sEx_ok {s : Stmt} {de : E} (h : sEx G nE ct s de = true) : SS G Φ cad X (.ex de) s := by
  unfold sEx at h
  split at h
  · obtain ⟨h1, h2⟩ := bsplit h
    exact s_ex (sv t h2).1 h1
  · cases h
theorem sLc_core (cold : ct.hot = false) {y : Str} {py lp pos : Pos} {elt tg' iter : Expr} {ifs : List Expr} {z : Int} {scope : Scope} {i : Nat} {mc : Bool} {own : List Nat} {t' : Tg} {q' : IK} {its conds : List E} {d : E}
    (h : (decide (ct.N[i]? = some y) && locB ct y && kComp (okE G nE) ct (.ListComp elt [⟨tg', iter, ifs, z⟩] scope lp) own t' q' its conds d) = true) : SS G Φ cad X (.asg (.n i) (.comp mc own t' q' its conds d)) (.Assign [.Name y py] (.ListComp elt [⟨tg', iter, ifs, z⟩] scope lp) pos) := by
    obtain ⟨h, h3⟩ := bsplit h
    obtain ⟨h1, h2⟩ := bsplit h
    have hy : X.N[i]? = some y := by rw [t.st.hN]; exact of_decide_eq_true h1
    have hN : X.N.Nodup := by rw [t.st.hN]; exact t.st.nd
    have ih := fun ct e d X st => okE_ok (G := G) (Φ := Φ) (cad := cad) (k := k) nE ct e d X st
    obtain ⟨rfl, p2, p3, p4, p5, p6, p7, p8⟩ := kComp_parts t.st ih cold h3
    obtain ⟨l1, l2⟩ := locB_ok t.st h2
    have hsw := swap_comp (elt := elt) (gs := [⟨tg', iter, ifs, 0⟩]) (scope := scope) (lp := lp) (py := py) (spos := pos) (y := y) t.knd
    generalize hb : ((X.env.kindOf y == some .local) && (py.line == lp.line) && !inScope scope y) = b at hsw
    cases b with
    | true =>
      have hyl : X.env.scope.names.lookup y = some .local := by
        rw [Bool.and_eq_true, Bool.and_eq_true] at hb
        exact eq_of_beq hb.1.1
      have r := s_setLc (mc := mc) (pos := lp) (spos := pos) (py := py) (t.st.calm cold) hN hy hyl hsw p3 p2 p4 p5 p6 p7 (by rw [ownN_snd t.st ih]; exact p8)
      rw [ownN_snd t.st ih] at r
      exact r
    | false =>
      have r := r_comp (mc := mc) (pos := lp) (t.st.calm cold) hN p3 p2 p4 p5 p6 p7 (by rw [ownN_snd t.st ih]; exact p8)
      rw [ownN_snd t.st ih] at r
      exact fun W tk => (ps_asg (r W tk) (g_name hN hy l1 l2) hsw rfl rfl).imp fun D σ H h => lift_asg h
theorem sLc_ok {tg e : Expr} {q : Tg} {de : E} {pos : Pos} (h : sLc G nE ct tg e q de = true) : SS G Φ cad X (.asg q de) (.Assign [tg] e pos) := by
  unfold sLc at h
  obtain ⟨cold, h⟩ := cold_of h
  split at h
  · exact sLc_core t cold h
  · cases h
theorem sAsg_ok {s : Stmt} {q : Tg} {de : E} (h : sAsg G nE ct s q de = true) : SS G Φ cad X (.asg q de) s := by
  unfold sAsg at h
  split at h
  · rw [Bool.or_eq_true] at h
    rcases h with h | h
    · obtain ⟨h, h5⟩ := bsplit h
      obtain ⟨h, h4⟩ := bsplit h
      obtain ⟨h, h3⟩ := bsplit h
      obtain ⟨h1, h2⟩ := bsplit h
      exact s_asg (sv t h2).1 (okT_ok t.st _ _ h1) h3 h4 h5
    · exact sLc_ok t h
  · cases h
theorem two_swap {x y : Str} {px py pt pt2 : Pos} {kt k2 : Nat} {a b : Expr} (h : twoSwap ct x y px py a b = true) (h1 : notStar a = true) (h2 : notStar b = true) :
    swappedStores [.Tuple [.Name x px, .Name y py] kt pt] (.Tuple [a, b] k2 pt2) X.env = pure (some [x, y]) := by
  unfold twoSwap at h
  obtain ⟨h, h8⟩ := bsplit h
  obtain ⟨h, h7⟩ := bsplit h
  obtain ⟨h, h6⟩ := bsplit h
  obtain ⟨h, h5⟩ := bsplit h
  obtain ⟨h3, h4⟩ := bsplit h
  have kx : X.env.kindOf x = some .local := by rw [← t.st.sc] at h3; exact of_decide_eq_true h3
  have ky : X.env.kindOf y = some .local := by rw [← t.st.sc] at h4; exact of_decide_eq_true h4
  rw [Bool.not_eq_true'] at h6 h7 h8
  have ns : (([a, b] : List Expr).any fun | .Starred .. => true | _ => false) = false := by
    have st1 : ∀ {e : Expr}, notStar e = true → (match e with | .Starred .. => true | _ => false) = false := fun {e} h => by
      cases e <;> first | rfl | exact absurd h Bool.false_ne_true
    rw [List.any_cons, List.any_cons, List.any_nil, st1 h1, st1 h2]
    rfl
  have names : (([.Name x px, .Name y py] : List Expr).filterMap fun
      | .Name id pos => if (X.env.kindOf id == some .local && pos.line == px.line) = true then some id else none
      | _ => none) = [x, y] := by
    have e1 : (X.env.kindOf x == some .local && px.line == px.line) = true := by rw [kx]; simp
    have e2 : (X.env.kindOf y == some .local && py.line == px.line) = true := by rw [ky, h5]; rfl
    rw [List.filterMap_cons_some (b := x) (by show (if _ then _ else _) = _; rw [if_pos e1]), List.filterMap_cons_some (b := y) (by show (if _ then _ else _) = _; rw [if_pos e2])]
    rfl
  have dd : ([x, y] : List Str).eraseDups.length = 2 := by
    have h6' : (y == x) = false := by
      rw [Bool.eq_false_iff] at h6 ⊢
      intro z
      exact h6 (by rw [eq_of_beq z]; exact beq_self_eq_true _)
    rw [List.eraseDups_cons]
    simp [h6', List.eraseDups_cons]
  show (do
      if (!(([.Name x px, .Name y py] : List Expr).length == 2 || ([.Name x px, .Name y py] : List Expr).length == 3) || ([a, b] : List Expr).length != ([.Name x px, .Name y py] : List Expr).length || X.env.blockKind != .function) = true then return none
      if (([a, b] : List Expr).any fun | .Starred .. => true | _ => false) = true then return none
      let names := ([.Name x px, .Name y py] : List Expr).filterMap fun
        | .Name id pos => if (X.env.kindOf id == some .local && pos.line == px.line) = true then some id else none
        | _ => none
      if (names.length != ([.Name x px, .Name y py] : List Expr).length || names.eraseDups.length != names.length) = true then return none
      if ([a, b] : List Expr).all (foldedForSure 8) = true then return none
      if ([a, b] : List Expr).all (constantsAlone 8) = true then unsupported "assign.tuple-of-constant-expressions:order-of-the-stores"
      return some names : Sem (Option (List Str))) = pure (some [x, y])
  rw [t.knd, ns, names, h7, h8]
  rw [if_neg (by simp), if_neg (by decide)]
  dsimp only
  rw [dd]
  rfl
theorem sPar_ok {s : Stmt} {i j : Nat} {da db : E} (h : sPar G nE ct s i j da db = true) : SS G Φ cad X (.par i j da db) s := by
  unfold sPar at h
  obtain ⟨cold, h⟩ := cold_of h
  split at h
  · obtain ⟨h, h8⟩ := bsplit h
    obtain ⟨h, h7⟩ := bsplit h
    obtain ⟨h, h6⟩ := bsplit h
    obtain ⟨h, h5⟩ := bsplit h
    obtain ⟨h, h4⟩ := bsplit h
    obtain ⟨h, h3⟩ := bsplit h
    obtain ⟨h1, h2⟩ := bsplit h
    have h4' := h4
    unfold twoSwap at h4'
    obtain ⟨h4', _⟩ := bsplit h4'
    obtain ⟨h4', _⟩ := bsplit h4'
    obtain ⟨h4', _⟩ := bsplit h4'
    obtain ⟨h4', _⟩ := bsplit h4'
    obtain ⟨lx, ly⟩ := bsplit h4'
    exact s_par (t.st.calm cold) (by rw [t.st.hN]; exact t.st.nd) (by rw [t.st.hN]; exact of_decide_eq_true h1) (by rw [t.st.hN]; exact of_decide_eq_true h2) (of_decide_eq_true h3) (by rw [t.st.sc]; exact of_decide_eq_true lx) (by rw [t.st.sc]; exact of_decide_eq_true ly) (sv t h7).1 (sv t h8).1 h5 h6 (two_swap t h4 h5 h6)
  · cases h
theorem binA_ok {op : Operator} {o : O} (h : binA op = some o) : PIp X op (rAug X.K cad o) := by
  cases op with
  | Add => cases (show some O.add = some o from h); exact ip_addP
  | Sub => cases (show some O.sub = some o from h); exact ip_subP
  | Mult => cases (show some O.mul = some o from h); exact ip_mulP
  | Mod => cases (show some O.mod = some o from h); exact ip_modP
  | _ => cases (show none = some o from h)
theorem sAug_ok {s : Stmt} {i : Nat} {o : O} {de : E} (h : sAug G nE ct s i o de = true) : SS G Φ cad X (.aug i o de) s := by
  unfold sAug at h
  split at h
  · obtain ⟨h, h4⟩ := bsplit h
    obtain ⟨h, h3⟩ := bsplit h
    obtain ⟨h1, h2⟩ := bsplit h
    obtain ⟨l1, l2⟩ := locB_ok t.st h2
    exact s_aug (by rw [t.st.hN]; exact t.st.nd) (by rw [t.st.hN]; exact of_decide_eq_true h1) l1 l2 (sv t h4).1 (binA_ok t (of_decide_eq_true h3))
  · cases h
theorem sSetix_ok {s : Stmt} {da db dc : E} (h : sSetix G nE ct s da db dc = true) : SS G Φ cad X (.setix da db dc) s := by
  unfold sSetix at h
  split at h
  · obtain ⟨h, h5⟩ := bsplit h
    obtain ⟨h, h4⟩ := bsplit h
    obtain ⟨h, h3⟩ := bsplit h
    obtain ⟨h1, h2⟩ := bsplit h
    exact s_setix h1 (by have := t.st.un; omega) (sv t h3).1 (sv t h4).1 (sv t h5).1 h2
  · cases h
theorem sSetfld_ok {s : Stmt} {da dc : E} {f : Str} (h : sSetfld G nE ct s da f dc = true) : SS G Φ cad X (.setfld da f dc) s := by
  unfold sSetfld at h
  split at h
  · obtain ⟨h, h4⟩ := bsplit h
    obtain ⟨h, h3⟩ := bsplit h
    obtain ⟨h1, h2⟩ := bsplit h
    have h1 := of_decide_eq_true h1
    subst h1
    exact s_setfld (fun C hC => t.st.wd.fld C _ hC) (sv t h3).1 (sv t h4).1 h2
  · cases h
theorem sApp_ok {s : Stmt} {da dc : E} (h : sApp G nE ct s da dc = true) : SS G Φ cad X (.app da dc) s := by
  unfold sApp at h
  split at h
  · obtain ⟨h, h6⟩ := bsplit h
    obtain ⟨h, h5⟩ := bsplit h
    obtain ⟨h, h4⟩ := bsplit h
    obtain ⟨h, h3⟩ := bsplit h
    obtain ⟨h1, h2⟩ := bsplit h
    have h1 := of_decide_eq_true h1
    subst h1
    exact s_app h2 h3 h4 (sv t h5).1 (sv t h6).1
  · cases h
theorem sRet_ok {s : Stmt} {de : E} (h : sRet G nE ct s de = true) : SS G Φ cad X (.ret de) s := by
  unfold sRet at h
  split at h
  · exact s_ret (sv t h).1
  · have e : de = .c .non := by
      cases de with
      | c d => cases d <;> first | rfl | cases h
      | _ => cases h
    subst e
    exact s_retN
  · cases h
theorem sRais_ok {s : Stmt} {C : Nat} {ds : List E} (h : sRais G nE ct s C ds = true) : SS G Φ cad X (.rais C ds) s := by
  unfold sRais at h
  obtain ⟨cold, h⟩ := cold_of h
  split at h
  · obtain ⟨h, h5⟩ := bsplit h
    obtain ⟨h, h4⟩ := bsplit h
    obtain ⟨h, h3⟩ := bsplit h
    obtain ⟨h1, h2⟩ := bsplit h
    obtain ⟨g1, g2, g3⟩ := globB_ok t.st h1
    have ih := fun ct e d X st => okE_ok (G := G) (Φ := Φ) (cad := cad) (k := k) nE ct e d X st
    exact s_rais (t.st.calm cold) (t.st.wd.exc C h3) g1 (t.st.wd.cl _ _ (of_decide_eq_true h2)) g2 (kAll_ok t.st ih h5) h4
  · cases h
variable (ih : ∀ ct ss ds X, StS ct G Φ cad k X → rS ct ss ds = true → SSs G Φ cad X ds ss)
include ih
theorem sIte_ok {s : Stmt} {dt : E} {d1 d2 : List S} (h : sIte G nE rS ct s dt d1 d2 = true) : SS G Φ cad X (.ite dt d1 d2) s := by
  unfold sIte at h
  split at h
  · obtain ⟨h, h4⟩ := bsplit h
    obtain ⟨h, h3⟩ := bsplit h
    obtain ⟨h1, h2⟩ := bsplit h
    exact s_ite ((sv t h2).2.1 h1) (ih _ _ _ _ t h3) (ih _ _ _ _ t h4)
  · cases h
theorem sWhile_ok {s : Stmt} {dt : E} {d1 : List S} (h : sWhile G nE rS ct s dt d1 = true) : SS G Φ cad X (.while_ dt d1) s := by
  unfold sWhile at h
  split at h
  · obtain ⟨h, h3⟩ := bsplit h
    obtain ⟨h1, h2⟩ := bsplit h
    exact s_while t.own ((sv t h2).2.1 h1) (ih _ _ _ _ t h3)
  · cases h
theorem sFor_ok {s : Stmt} {q : Tg} {kk : IK} {its : List E} {d1 : List S} (h : sFor G nE rS ct s q kk its d1 = true) : SS G Φ cad X (.for_ q kk its d1) s := by
  unfold sFor at h
  obtain ⟨cold, h⟩ := cold_of h
  split at h
  · obtain ⟨h, h4⟩ := bsplit h
    obtain ⟨h, h3⟩ := bsplit h
    obtain ⟨h1, h2⟩ := bsplit h
    have ih2 := fun ct e d X st => okE_ok (G := G) (Φ := Φ) (cad := cad) (k := k) nE ct e d X st
    exact s_for t.own (t.st.calm cold) (kIter_ok t.st ih2 h2) (okT_ok t.st _ _ h1) (ih _ _ _ _ t h3) (folded_of h4)
  · cases h
theorem sTry_core (cold : ct.hot = false) {body suite : List Stmt} {x : Str} {np p1 p2 : Pos} {nm : Option Str} {b0 : Stmt} {b : List S} {C : Nat} {i : Option Nat} {hd : List S}
    (h : (globB ct.sc x && decide ((x, C) ∈ ct.T.cls) && (match nm, i with
      | none, none => true
      | some n, some i => decide (ct.N[i]? = some n) && decide (ct.sc.names.lookup n = some .local)
      | _, _ => false) && rS ct body b && rS { ct with hot := true } (b0 :: suite) hd) = true) : SS G Φ cad X (.try_ b C i hd) (.Try body [.ExceptHandler (some (.Name x np)) nm (b0 :: suite) p1] [] [] p2) := by
  obtain ⟨h, h5⟩ := bsplit h
  obtain ⟨h, h4⟩ := bsplit h
  obtain ⟨h, h3⟩ := bsplit h
  obtain ⟨h1, h2⟩ := bsplit h
  obtain ⟨g1, g2, g3⟩ := globB_ok t.st h1
  have nx : Names X x (.ref (cad C)) := ⟨g1, g2, .inl (t.st.wd.cl _ _ (of_decide_eq_true h2))⟩
  have exm := fun C' b => t.st.wd.exm C' C b
  cases nm with
  | none =>
    cases i with
    | none =>
      exact fun W tk => (ps_tryT (tb := fun W => liftS X.K cad W (evSs G Φ b)) (ts := liftS X.K cad W0 (evSs G Φ hd)) t.stk t.frm nx tk (fun W pn xe tk' ow => ih _ _ _ _ (t.tr pn xe ow) h4 W tk') (fun a pn => ih _ _ _ _ (t.suite a pn) h5 W0 takes0)).imp fun D σ H h => lift_try exm h
    | some i => cases h3
  | some n =>
    cases i with
    | none => cases h3
    | some i =>
      have h3 : (decide (ct.N[i]? = some n) && decide (ct.sc.names.lookup n = some .local)) = true := h3
      obtain ⟨h6, h7⟩ := bsplit h3
      exact fun W tk => (ps_tryTn (tb := fun W => liftS X.K cad W (evSs G Φ b)) (ts := liftS X.K cad W0 (evSs G Φ hd)) t.stk t.frm (by rw [t.st.hN]; exact t.st.nd) (by rw [t.st.hN]; exact of_decide_eq_true h6) (show X.env.scope.names.lookup n = some .local by rw [t.st.sc]; exact of_decide_eq_true h7) nx tk
        (fun W pn xe tk' ow => ih _ _ _ _ (t.tr pn xe ow) h4 W tk') (fun a pn => ih _ _ _ _ (t.suite a pn) h5 W0 takes0)).imp fun D σ H h => lift_tryn exm h
theorem sTry_ok {s : Stmt} {b : List S} {C : Nat} {i : Option Nat} {hd : List S} (h : sTry rS ct s b C i hd = true) : SS G Φ cad X (.try_ b C i hd) s := by
  unfold sTry at h
  obtain ⟨cold, h⟩ := cold_of h
  split at h
  · exact sTry_core t ih cold h
  · cases h
theorem stepS_ok {s : Stmt} {d : S} (h : stepS G nE rS ct s d = true) : SS G Φ cad X d s := by
  cases d with
  | pass => exact sPass_ok t h
  | ex e => exact sEx_ok t h
  | asg q e => exact sAsg_ok t h
  | par i j a b => exact sPar_ok t h
  | aug i o e => exact sAug_ok t h
  | setix a i e => exact sSetix_ok t h
  | setfld a f e => exact sSetfld_ok t h
  | app a e => exact sApp_ok t h
  | ite q a b => exact sIte_ok t ih h
  | for_ q kk its b => exact sFor_ok t ih h
  | while_ q b => exact sWhile_ok t ih h
  | ret e => exact sRet_ok t h
  | rais C es => exact sRais_ok t h
  | try_ b C i hd => exact sTry_ok t ih h
  | brk =>
    unfold stepS at h
    dsimp only at h
    split at h
    · exact s_brk
    · cases h
  | cnt =>
    unfold stepS at h
    dsimp only at h
    split at h
    · exact s_cnt
    · cases h
  | frz i => cases h
end
theorem okSs_ok {G : Pg} {Φ : Nat → List PD.W → List M → Rs PD.W} {cad : Nat → Addr} {k nE : Nat} : ∀ (n : Nat) (ct : Ct) (ss : List Stmt) (ds : List S) (X : Cx), StS ct G Φ cad k X → okSs G nE n ct ss ds = true → SSs G Φ cad X ds ss
  | 0, _, _, _, _, _, h => by cases h
  | n + 1, ct, ss, ds, X, t, h => by
    cases ds with
    | nil =>
      cases ss with
      | nil => exact ss_nil
      | cons _ _ => cases h
    | cons d ds =>
      unfold okSs at h
      dsimp only at h
      by_cases hf : isFrzS d = true
      · rw [if_pos hf] at h
        cases d with
        | frz i => exact ss_frz (okSs_ok n ct ss ds X t h)
        | _ => cases hf
      · rw [if_neg hf] at h
        cases ss with
        | nil => cases h
        | cons s ss =>
          obtain ⟨h1, h2⟩ := bsplit h
          exact ss_cons (stepS_ok t (fun ct ss ds X t h => okSs_ok n ct ss ds X t h) h1) (okSs_ok n ct ss ds X t h2)
end PD
set_option Elab.async false
set_option linter.all false
set_option maxRecDepth 100000
set_option maxHeartbeats 4000000
/-! PyD19: defs keep the promise of their reckoning, at every depth. -/
namespace PD
open PySem PySem.Spec PyProof.Rows L2
/-- how a def's arguments bind -/
def BindP (params : Arguments) (ps : List Str) : Prop := ∀ (x qual : Str) (body : List Stmt) (sc : Scope) (kV doc pm : Value) (an : Option Addr) (cdv ct : Value) (us : List Value), us.length = ps.length → bindArgs (PySem.W.fnOf x qual params body sc .none kV doc pm an cdv ct) ⟨us, []⟩ = pure (ps.zip us)
def scopeB (N ps : List Str) (sc : Scope) : Bool := (match sc.kind with | .function => true | _ => false) && !sc.isCoroutine && !sc.isGenerator && decide N.Nodup && decide (N.take ps.length = ps) && ps.all (fun x => decide (sc.names.lookup x = some .local) || decide (sc.names.lookup x = some .cell)) && sc.names.all fun y => match y.2 with | .free => false | _ => true
theorem scopeB_ok {N ps : List Str} {sc : Scope} (h : scopeB N ps sc = true) : FnScope N ps sc := by
  unfold scopeB at h
  obtain ⟨h, h7⟩ := bsplit h
  obtain ⟨h, h6⟩ := bsplit h
  obtain ⟨h, h5⟩ := bsplit h
  obtain ⟨h, h4⟩ := bsplit h
  obtain ⟨h, h3⟩ := bsplit h
  obtain ⟨h1, h2⟩ := bsplit h
  refine ⟨?_, by simpa using h2, by simpa using h3, of_decide_eq_true h4, of_decide_eq_true h5, fun x hx => ?_, fun y hy e => ?_⟩
  · split at h1
    · assumption
    · cases h1
  · have q := List.all_eq_true.mp h6 x hx
    simpa using q
  · have q := List.all_eq_true.mp h7 y hy
    rw [e] at q
    cases q
/-- one def: where it stands, its slots, its parameters, its body in the little language -/
structure Fi where
  at_ : Str × Option Str
  qual : Str
  params : Arguments
  body : List Stmt
  scope : Scope
  N : List Str
  ps : List Str
  b : List S
def Fi.name (f : Fi) : Str := match f.at_.2 with
  | none => f.at_.1
  | some m => m
def Fi.d (f : Fi) : He.DefD := ⟨f.at_, f.name, f.qual, f.params, f.body, f.scope, [], []⟩
def Fi.ct (f : Fi) (T : Tab) : Ct := ⟨f.N, f.scope, f.scope, T, false⟩
def Fi.okB (T : Tab) (G : Pg) (nE nS : Nat) (f : Fi) : Bool := scopeB f.N f.ps f.scope && okSs G nE nS (f.ct T) f.body f.b
section
variable {T : Tab} {G : Pg} {cad : Nat → Addr} {nE nS : Nat} {P : Program} {w : World} {K : PySem.W.Frag} {mg : Str → Option Value} {base : Heap}
/-- a def's body, run -/
theorem fn_ok {fi : Fi} {i j k : Nat} {f : Addr} {fd : FuncData} (wd : Wd T G (call G j) cad k P w K mg base) (F : FunD K fi.name fi.qual fi.params fi.body fi.scope [] [] f fd) (hi : G.fns[i]? = some (fi.ps.length, fi.N.length, fi.b)) (ok : fi.okB T G nE nS = true) :
    FnOk P w K mg base (L2.CX P w) (k + 2) f fd fi.ps (spOf K cad (call G (j + 1) i)) := by
  obtain ⟨h1, h2⟩ := bsplit ok
  have S := scopeB_ok h1
  have ev : ∀ ws cs, call G (j + 1) i ws cs = runB G (call G j) fi.ps.length fi.N.length fi.b ws cs := fun ws cs => by
    show (match G.fns[i]? with | some (np, ns, b) => runB G (call G j) np ns b ws cs | none => .stuck) = _
    rw [hi]
  refine F.ok S (fun vs H Q E ⟨ws, cs, as, R, c, iw, p⟩ => ?_) (fun cdv A outer s H vs Q E hr ⟨ws, cs, as, R, c, iw, p⟩ => ?_)
  · rw [ev] at p
    unfold runB at p
    by_cases hl : ws.length = fi.ps.length
    · rw [← iw.length, hl]
    · rw [if_neg hl] at p
      exact p.elim
  · rw [ev] at p
    unfold runB at p
    by_cases hl : ws.length = fi.ps.length
    · rw [if_pos hl] at p
      have t : StS (fi.ct T) G (call G j) cad k (cxOf (L2.CX P w) P w K mg base fi.N fi.qual fi.scope f cdv A outer s H E) :=
        ⟨⟨rfl, rfl, S.nd, fun _ => ⟨rfl, hr⟩, by have := hr.un; show (A.deeper _).units + 100 < cLine; omega, fun _ _ => rfl, wd⟩, passes_of rfl, rfl, rfl, by show Env.blockKind (envOfC _ _ _ _ _) = _; unfold Env.blockKind; show (if fi.scope.kind.isAnnotationScope = true then ScopeKind.function else fi.scope.kind) = _; rw [S.kind]; rfl⟩
      refine ⟨_, okSs_ok nS _ _ _ _ t h2 (fun cls d _ H => E cls d H) (takes_of rfl rfl rfl rfl), ?_⟩
      refine ⟨ws.map some ++ List.replicate (fi.N.length - fi.ps.length) none, cs, as, R, ⟨?_, fun n u e => ?_, c⟩, ?_⟩
      · unfold L2.start
        rw [List.length_append, List.length_append, List.length_map, List.length_map, List.length_replicate, List.length_replicate, ← iw.length, hl]
      · have hn : n < ws.length := by
          by_cases q : n < ws.length
          · exact q
          · rw [List.getElem?_append_right (by rw [List.length_map]; omega), List.getElem?_replicate] at e
            split at e <;> cases e
        rw [List.getElem?_append_left (by rw [List.length_map]; exact hn), List.getElem?_map] at e
        have get : ∀ {ws : List PD.W} {vs : List V} {n : Nat} {u : PD.W}, IsWs K cad as R H ws vs → ws[n]? = some u → ∃ v, vs[n]? = some v ∧ IsW K cad as R H u v := fun {ws} => by
          induction ws with
          | nil => intro vs n u _ e; simp at e
          | cons w ws ih =>
            intro vs n u h e
            obtain ⟨x, r, rfl, h1, h2⟩ := h
            cases n with
            | zero => simp at e; subst e; exact ⟨x, rfl, h1⟩
            | succ n => simpa using ih h2 (by simpa using e)
        cases q : ws[n]? with
        | none => rw [q] at e; cases e
        | some u' =>
          rw [q] at e
          cases e
          obtain ⟨v, e1, h⟩ := get iw q
          refine ⟨v, ?_, h⟩
          unfold L2.start
          rw [List.getElem?_append_left (by rw [List.length_map]; exact (lt_of_get e1)), List.getElem?_map, e1]
          rfl
      · cases e : evSs G (call G j) fi.b (ws.map some ++ List.replicate (fi.N.length - fi.ps.length) none) cs with
        | stuck => rw [e] at p; exact p.elim
        | ex C ks vs' sl cs1 =>
          rw [e] at p
          exact fun cls d σ' H' as' x rel ix => p cls d H' as' x rel.cells ix
        | ok fl sl cs1 =>
          rw [e] at p
          cases fl with
          | nx => exact fun σ' H' as' x rel => p .non H' as' x rel.cells rfl
          | brk => exact p.elim
          | cnt => exact p.elim
          | ret w => exact p
    · rw [if_neg hl] at p
      exact p.elim
/-- what is known of the environment, whatever the depth -/
structure EnvF (T : Tab) (G : Pg) (fis : List Fi) (cad : Nat → Addr) (K : PySem.W.Frag) (mg : Str → Option Value) : Prop where
  fi : ∀ (i : Nat) f, fis[i]? = some f → G.fns[i]? = some (f.ps.length, f.N.length, f.b) ∧ BindP f.params f.ps
  fn : ∀ x i, (x, i) ∈ T.fns → ∃ f fi fd, fis[i]? = some fi ∧ mg x = some (.ref f) ∧ FunD K fi.name fi.qual fi.params fi.body fi.scope [] [] f fd
  cst : ∀ (i : Nat) x d, T.csts[i]? = some x → G.csts[i]? = some d → ∃ u v, mg x = some u ∧ RelV v u ∧ ∀ H F, IsD K cad H F d v
  free : ∀ x, x ∈ T.frees → mg x = none
  cl : ∀ x C, (x, C) ∈ T.cls → mg x = some (.ref (cad C))
  bt : ∀ x t, (x, t) ∈ T.bts → t < 10 ∧ x ∈ T.frees ∧ bootBuiltins x = some (.type (bty t)) ∧ x ≠ "__name__" ∧ (x == ("__debug__" : Str)) = false
  fld : ∀ C f, G.fld C f = true → Cls K (cad C) ∧ NoAttr K (cad C) f
  meth : ∀ C m i, G.meth C m = some i → m ≠ ("__init__" : Str) → Cls K (cad C) ∧ ∃ f fi fd, fis[i]? = some fi ∧ Meth K (cad C) m f ∧ FunD K fi.name fi.qual fi.params fi.body fi.scope [] [] f fd
  init : ∀ C i, G.meth C ("__init__" : Str) = some i → ∃ f fi fd, fis[i]? = some fi ∧ Mk K (cad C) f ∧ FunD K fi.name fi.qual fi.params fi.body fi.scope [] [] f fd
  isi : IsiF K cad G.isT
  exc : ∀ C, G.isX C = true → RaiseC K (cad C)
  exm : ∀ C' C b, G.sub C' C = some b → PySem.W.exmOne K (.ref (cad C')) (.ref (cad C)) = some b
theorem binds_of {fi : Fi} {f : Addr} {fd : FuncData} (b : BindP fi.params fi.ps) (F : FunD K fi.name fi.qual fi.params fi.body fi.scope [] [] f fd) : Binds K fd fi.ps [] := F.bindsN fun kV doc pm an cdv ct us hl => b _ _ _ _ kV doc pm an cdv ct us hl
theorem fn_zero {ps : List Str} {f : Addr} {fd : FuncData} {i : Nat} : FnOk P w K mg base (L2.CX P w) 0 f fd ps (spOf K cad (call G 0 i)) :=
  ⟨fun vs H Q E ⟨ws, cs, as, R, _, _, p⟩ => (show False from p).elim, fun A outer s H args us vs Q E _ _ _ _ ⟨ws, cs, as, R, _, _, p⟩ => (show False from p).elim⟩
theorem wd_of {fis : List Fi} (e : EnvF T G fis cad K mg) (ok : fis.all (Fi.okB T G nE nS) = true) : ∀ j, Wd T G (call G j) cad (2 * j) P w K mg base := by
  intro j
  have key : ∀ {fi : Fi} {i : Nat} {f : Addr} {fd : FuncData}, fis[i]? = some fi → FunD K fi.name fi.qual fi.params fi.body fi.scope [] [] f fd → FnOk P w K mg base (L2.CX P w) (2 * j) f fd fi.ps (spOf K cad (call G j i)) := by
    induction j with
    | zero => exact fun _ _ => fn_zero
    | succ j ih =>
      intro fi i f fd hi F
      have wd : Wd T G (call G j) cad (2 * j) P w K mg base := by
        refine ⟨fun x i hx => ?_, e.cst, e.free, e.cl, e.bt, e.fld, fun C m i hm hn => ?_, fun C i hm => ?_, e.isi, e.exc, e.exm⟩
        · obtain ⟨f, fi, fd, h1, h2, h3⟩ := e.fn x i hx
          exact ⟨f, fd, fi.ps, h2, h3.kp, binds_of (e.fi i fi h1).2 h3, ih h1 h3⟩
        · obtain ⟨cl, f, fi, fd, h1, h2, h3⟩ := e.meth C m i hm hn
          exact ⟨cl, f, fd, fi.ps, h2, binds_of (e.fi i fi h1).2 h3, ih h1 h3⟩
        · obtain ⟨f, fi, fd, h1, h2, h3⟩ := e.init C i hm
          exact ⟨f, fd, fi.ps, h2, binds_of (e.fi i fi h1).2 h3, ih h1 h3⟩
      exact fn_ok wd F (e.fi i fi hi).1 (List.all_eq_true.mp ok fi (List.mem_of_getElem? hi))
  refine ⟨fun x i hx => ?_, e.cst, e.free, e.cl, e.bt, e.fld, fun C m i hm hn => ?_, fun C i hm => ?_, e.isi, e.exc, e.exm⟩
  · obtain ⟨f, fi, fd, h1, h2, h3⟩ := e.fn x i hx
    exact ⟨f, fd, fi.ps, h2, h3.kp, binds_of (e.fi i fi h1).2 h3, key h1 h3⟩
  · obtain ⟨cl, f, fi, fd, h1, h2, h3⟩ := e.meth C m i hm hn
    exact ⟨cl, f, fd, fi.ps, h2, binds_of (e.fi i fi h1).2 h3, key h1 h3⟩
  · obtain ⟨f, fi, fd, h1, h2, h3⟩ := e.init C i hm
    exact ⟨f, fd, fi.ps, h2, binds_of (e.fi i fi h1).2 h3, key h1 h3⟩
/-- the law's def, called with a list of ints -/
theorem law_sp {i n : Nat} {H : Hp} {a : Addr} {ns : List Int} {cs' : List M} (hS : SqL K H a (ns.map V.int)) (hc : call G n i [.d (.lst (ns.map .int))] [] = .ok (.d (.bl true)) cs') :
    spOf K cad (call G n i) [.ref a] H (fun v _ => v = .bl true) fun _ _ _ => False := by
  have hints : ∀ ns : List Int, IsDs K cad H (Av ([] : AS) []) (ns.map .int) (ns.map V.int) := fun ns => by
    induction ns with
    | nil => exact rfl
    | cons n ns ih => exact ⟨_, _, rfl, rfl, ih⟩
  refine ⟨[.d (.lst (ns.map .int))], [], [], [], ⟨rfl, fun i j a e _ => by simp at e, fun i e => by simp at e, fun i a m e _ => by simp at e, fun a h => by simp [live] at h, fun a h => by simp at h⟩, ⟨.ref a, [], rfl, ⟨a, ns.map V.int, rfl, ?_, hints ns⟩, rfl⟩, ?_⟩
  · rcases hS with h | h
    · exact .inl ⟨by simp [live], h⟩
    · exact .inr h
  · rw [hc]
    exact fun v H' as' _ _ i => i
end
end PD
set_option Elab.async false
set_option linter.all false
set_option maxRecDepth 100000
set_option maxHeartbeats 4000000
/-! PyD20: a law's tables; what its head tells of the environment. -/
namespace PD
open PySem PySem.Spec PyProof.Rows L2
/-! ### constants of the module -/
mutual
def cstB (K : PySem.W.Frag) : D → Value → Bool
  | .non, .none => true
  | .bl b, .bool c => b == c
  | .int i, .int j _ => decide (i = j)
  | .str x, .str y _ => decide (x = y)
  | .tup ds, .ref a => (match K.lookup a with
    | some ⟨.type c, _, .seq its _, _⟩ => decide (c = "tuple") && decide (its.size ≤ sizeLine) && cstBs K ds its.toList
    | _ => false)
  | .lst ds, .ref a => (match K.lookup a with
    | some ⟨.type c, none, .seq its _, _⟩ => decide (c = "list") && decide (its.size ≤ sizeLine) && cstBs K ds its.toList
    | _ => false)
  | _, _ => false
def cstBs (K : PySem.W.Frag) : List D → List Value → Bool
  | [], [] => true
  | d :: ds, u :: us => cstB K d u && cstBs K ds us
  | _, _ => false
end
section
variable {K : PySem.W.Frag} {cad : Nat → Addr}
mutual
theorem cstB_ok : ∀ (d : D) (u : Value), cstB K d u = true → ∃ v, RelV v u ∧ ∀ H F, IsD K cad H F d v
  | .non, u, h => by
    cases u with
    | none => exact ⟨.non, rfl, fun _ _ => rfl⟩
    | _ => exact absurd (show false = true from h) Bool.false_ne_true
  | .bl b, u, h => by
    cases u with
    | bool c =>
      have e : b = c := eq_of_beq (show (b == c) = true from h)
      subst e
      exact ⟨.bl b, rfl, fun _ _ => rfl⟩
    | _ => exact absurd (show false = true from h) Bool.false_ne_true
  | .int i, u, h => by
    cases u with
    | int j t =>
      have e : i = j := of_decide_eq_true h
      subst e
      exact ⟨.int i, ⟨t, rfl⟩, fun _ _ => rfl⟩
    | _ => exact absurd (show false = true from h) Bool.false_ne_true
  | .str i, u, h => by
    cases u with
    | str j t =>
      have e : i = j := of_decide_eq_true h
      subst e
      exact ⟨.str i, ⟨t, rfl⟩, fun _ _ => rfl⟩
    | _ => exact absurd (show false = true from h) Bool.false_ne_true
  | .tup ds, u, h => by
    cases u with
    | ref a =>
      have h : (match K.lookup a with
        | some ⟨.type c, _, .seq its _, _⟩ => decide (c = "tuple") && decide (its.size ≤ sizeLine) && cstBs K ds its.toList
        | _ => false) = true := h
      split at h
      · rename_i c od its n sl e
        obtain ⟨h, h3⟩ := bsplit h
        obtain ⟨h1, h2⟩ := bsplit h
        obtain ⟨vs, r, q⟩ := cstBs_ok ds its.toList h3
        have h1 := of_decide_eq_true h1
        subst h1
        exact ⟨.ref a, rfl, fun H F => ⟨a, vs, rfl, .inr ⟨_, its, n, e, rfl, rfl, of_decide_eq_true h2, r⟩, q H F⟩⟩
      · cases h
    | _ => exact absurd (show false = true from h) Bool.false_ne_true
  | .lst ds, u, h => by
    cases u with
    | ref a =>
      have h : (match K.lookup a with
        | some ⟨.type c, none, .seq its _, _⟩ => decide (c = "list") && decide (its.size ≤ sizeLine) && cstBs K ds its.toList
        | _ => false) = true := h
      split at h
      · rename_i c its n sl e
        obtain ⟨h, h3⟩ := bsplit h
        obtain ⟨h1, h2⟩ := bsplit h
        obtain ⟨vs, r, q⟩ := cstBs_ok ds its.toList h3
        have h1 := of_decide_eq_true h1
        subst h1
        exact ⟨.ref a, rfl, fun H F => ⟨a, vs, rfl, .inr ⟨_, its, n, e, rfl, rfl, rfl, of_decide_eq_true h2, r⟩, q H F⟩⟩
      · cases h
    | _ => exact absurd (show false = true from h) Bool.false_ne_true
  | .dct _ _, u, h => absurd (show false = true from h) Bool.false_ne_true
  | .obj _ _ _, u, h => absurd (show false = true from h) Bool.false_ne_true
  | .exc _ _ _, u, h => absurd (show false = true from h) Bool.false_ne_true
theorem cstBs_ok : ∀ (ds : List D) (us : List Value), cstBs K ds us = true → ∃ vs, Vals vs us ∧ ∀ H F, IsDs K cad H F ds vs
  | [], [], _ => ⟨[], .nil, fun _ _ => rfl⟩
  | [], _ :: _, h => absurd (show false = true from h) Bool.false_ne_true
  | _ :: _, [], h => absurd (show false = true from h) Bool.false_ne_true
  | d :: ds, u :: us, h => by
    obtain ⟨h1, h2⟩ := bsplit (show (cstB K d u && cstBs K ds us) = true from h)
    obtain ⟨v, r, q⟩ := cstB_ok d u h1
    obtain ⟨vs, rs, qs⟩ := cstBs_ok ds us h2
    exact ⟨v :: vs, .cons r rs, fun H F => ⟨v, vs, rfl, q H F, qs H F⟩⟩
end
end
/-! ### the tables -/
structure Tb where
  fis : List Fi
  fnames : List (Str × Nat)
  cls : List Str
  bts : List (Str × Nat)
  csts : List (Str × D)
  frees : List Str
  meths : List (Nat × Str × Nat)
  flds : List (Nat × Str)
  subs : List (Nat × Nat × Bool)
  isTs : List (Nat × Nat × Bool)
  isXs : List Nat
  fuel : Nat
def find2 : List (Nat × Nat × Bool) → Nat → Nat → Option Bool
  | [], _, _ => none
  | (a, b, c) :: r, x, y => if a = x ∧ b = y then some c else find2 r x y
theorem find2_mem : ∀ {l : List (Nat × Nat × Bool)} {x y : Nat} {c : Bool}, find2 l x y = some c → (x, y, c) ∈ l
  | [], _, _, _, h => by cases h
  | (a, b, c) :: r, x, y, c', h => by
    have h : (if a = x ∧ b = y then some c else find2 r x y) = some c' := h
    by_cases q : a = x ∧ b = y
    · rw [if_pos q] at h
      cases h
      rw [q.1, q.2]
      exact List.mem_cons_self
    · rw [if_neg q] at h
      exact List.mem_cons_of_mem _ (find2_mem h)
def findM : List (Nat × Str × Nat) → Nat → Str → Option Nat
  | [], _, _ => none
  | (a, b, c) :: r, x, y => if a = x ∧ b = y then some c else findM r x y
theorem findM_mem : ∀ {l : List (Nat × Str × Nat)} {x : Nat} {y : Str} {c : Nat}, findM l x y = some c → (x, y, c) ∈ l
  | [], _, _, _, h => by cases h
  | (a, b, c) :: r, x, y, c', h => by
    have h : (if a = x ∧ b = y then some c else findM r x y) = some c' := h
    by_cases q : a = x ∧ b = y
    · rw [if_pos q] at h
      cases h
      rw [q.1, q.2]
      exact List.mem_cons_self
    · rw [if_neg q] at h
      exact List.mem_cons_of_mem _ (findM_mem h)
def Tb.cn (tb : Tb) (C : Nat) : Str := (tb.cls[C]?).getD ""
def Tb.T (tb : Tb) : Tab := ⟨tb.fnames, tb.cls.zipIdx, tb.bts, tb.csts.map (·.1), tb.frees⟩
def Tb.G (tb : Tb) : Pg where
  csts := tb.csts.map (·.2)
  sub := find2 tb.subs
  isT := find2 tb.isTs
  isX := fun C => tb.isXs.contains C
  fld := fun C f => tb.flds.any fun p => decide (p = (C, f))
  meth := findM tb.meths
  fns := tb.fis.map fun f => (f.ps.length, f.N.length, f.b)
  fuel := tb.fuel
def Tb.cad (tb : Tb) (K : PySem.W.Frag) (C : Nat) : Addr := He.ga K (tb.cn C)
/-- what needs no environment -/
def Tb.okB (tb : Tb) : Bool := tb.fnames.all (fun p => match tb.fis[p.2]? with
    | some f => decide (f.at_ = (p.1, none))
    | none => false) && tb.meths.all (fun p => match tb.fis[p.2.2]? with
    | some f => decide (f.at_ = (tb.cn p.1, some p.2.1))
    | none => false) && tb.isTs.all (fun p => decide (p.1 ≠ 9)) && tb.bts.all (fun p => decide (p.2 < 10) && decide (p.1 ∈ tb.frees) && decide (p.1 ≠ "__name__") && !(p.1 == ("__debug__" : Str)))
def ownB (K : PySem.W.Frag) (C : Addr) : Bool := He.eqO (PySem.W.findIn K (.ref C) "__class__") (some (some (.builtin "object.__class__"))) && He.eqO (PySem.W.specialIn K (.builtin "object.__class__") "__get__") (some (some (.builtin "getset_descriptor.__get__"))) && decide (PySem.W.takesIn K (.builtin "object.__class__") = some true) && decide (PySem.W.mroIn K C (.type "object") = some true)
def excB (K : PySem.W.Frag) (C : Addr) : Bool := He.eqO (PySem.W.findIn K (.ref C) "__getattribute__") (some (some (.builtin "BaseException.__getattribute__"))) && He.eqO (PySem.W.findIn K (.ref C) "__getattr__") (some none) && decide (PySem.W.subIn K (.ref C) (.type "BaseException") = some true) && PySem.W.hasDictIn K C && ownB K C
/-- what the head finds of the environment -/
def Tb.factB (tb : Tb) (K : PySem.W.Frag) : Bool :=
  tb.fnames.all (fun p => (He.Fa.glo p.1).ok K) && tb.cls.all (fun x => (He.Fa.glo x).ok K) && tb.frees.all (fun x => (He.Fa.free x).ok K) &&
  tb.meths.all (fun p => if p.2.1 = ("__init__" : Str) then (He.Fa.mkr (tb.cn p.1)).ok K else (He.Fa.cls (tb.cn p.1)).ok K && (He.Fa.meth (tb.cn p.1) p.2.1).ok K) &&
  tb.flds.all (fun p => (He.Fa.cls (tb.cn p.1)).ok K && (He.Fa.noat (tb.cn p.1) p.2).ok K) &&
  tb.isXs.all (fun C => (He.Fa.exc (tb.cn C)).ok K) &&
  tb.subs.all (fun p => (He.Fa.exm (tb.cn p.1) (tb.cn p.2.1) p.2.2).ok K) &&
  tb.isTs.all (fun p => decide (PySem.W.kitOne K (tgV (tb.cad K) p.1) (clV (tb.cad K) p.2.1) = some p.2.2) && (if p.1 < 10 then true else if p.1 % 2 = 0 then (He.Fa.cls (tb.cn ((p.1 - 10) / 2))).ok K && ownB K (tb.cad K ((p.1 - 10) / 2)) else excB K (tb.cad K ((p.1 - 10) / 2)))) &&
  tb.csts.all (fun p => match PySem.W.nsIn K mainGlobals p.1 with
    | some (some u) => cstB K p.2 u
    | _ => false)
theorem ownB_ok {K : PySem.W.Frag} {C : Addr} (c : Cls K C) (h : ownB K C = true) : OwnC K C := by
  unfold ownB at h
  obtain ⟨h, h4⟩ := bsplit h
  obtain ⟨h, h3⟩ := bsplit h
  obtain ⟨h1, h2⟩ := bsplit h
  exact ⟨c, He.eqO_ok h1, He.eqO_ok h2, of_decide_eq_true h3, of_decide_eq_true h4⟩
theorem excB_ok {K : PySem.W.Frag} {C : Addr} (h : excB K C = true) : ExcC K C := by
  unfold excB at h
  obtain ⟨h, h5⟩ := bsplit h
  obtain ⟨h, h4⟩ := bsplit h
  obtain ⟨h, h3⟩ := bsplit h
  obtain ⟨h1, h2⟩ := bsplit h
  unfold ownB at h5
  obtain ⟨h5, h9⟩ := bsplit h5
  obtain ⟨h5, h8⟩ := bsplit h5
  obtain ⟨h6, h7⟩ := bsplit h5
  exact ⟨He.eqO_ok h1, He.eqO_ok h2, of_decide_eq_true h3, h4, He.eqO_ok h6, He.eqO_ok h7, of_decide_eq_true h8, of_decide_eq_true h9⟩
/-- built-in types for isinstance -/
def BtP (bts : List (Str × Nat)) : Prop := ∀ p ∈ bts, bootBuiltins p.1 = some (.type (bty p.2))
theorem env_of {tb : Tb} {K : PySem.W.Frag} {h : Heap} {mg : Str → Option Value} (X : K.In h) (Gn : h.Ns mainGlobals mg) (hs : tb.okB = true) (hb : tb.factB K = true) (hf : He.SaysD [] (tb.fis.map Fi.d) K) (bp : ∀ f ∈ tb.fis, BindP f.params f.ps) (bt : BtP tb.bts) :
    EnvF tb.T tb.G tb.fis (tb.cad K) K mg := by
  unfold Tb.okB at hs
  obtain ⟨hs, s4⟩ := bsplit hs
  obtain ⟨hs, s3⟩ := bsplit hs
  obtain ⟨s1, s2⟩ := bsplit hs
  unfold Tb.factB at hb
  obtain ⟨hb, b9⟩ := bsplit hb
  obtain ⟨hb, b8⟩ := bsplit hb
  obtain ⟨hb, b7⟩ := bsplit hb
  obtain ⟨hb, b6⟩ := bsplit hb
  obtain ⟨hb, b5⟩ := bsplit hb
  obtain ⟨hb, b4⟩ := bsplit hb
  obtain ⟨hb, b3⟩ := bsplit hb
  obtain ⟨b1, b2⟩ := bsplit hb
  have al : ∀ {α : Type} {l : List α} {p : α → Bool}, l.all p = true → ∀ x ∈ l, p x = true := fun h => List.all_eq_true.mp h
  have defs : ∀ {i : Nat} {f : Fi}, tb.fis[i]? = some f → ∃ fd, FunD K f.name f.qual f.params f.body f.scope [] [] (He.fAd K f.at_) fd := fun {i f} e =>
    hf.def_ i (d := f.d) (by rw [List.getElem?_map, e]; rfl)
  have clsOf : ∀ C, He.ga K (tb.cn C) = tb.cad K C := fun _ => rfl
  refine ⟨fun i f e => ⟨?_, bp f (List.mem_of_getElem? e)⟩, fun x i hx => ?_, fun i x d h1 h2 => ?_, fun x hx => He.free_ok X Gn (al b3 x hx), fun x C hx => ?_, fun x t hx => ?_, fun C f hC => ?_, fun C m i hm hn => ?_, fun C i hm => ?_, ⟨fun g t b e => ?_, fun C t b e => ?_, fun C t b e => ?_, fun t => ?_⟩, fun C hC => ?_, fun C' C b e => ?_⟩
  · show (tb.fis.map fun f => (f.ps.length, f.N.length, f.b))[i]? = _
    rw [List.getElem?_map, e]
    rfl
  · have q := al s1 _ hx
    dsimp only at q
    split at q
    · rename_i f e
      have ea : f.at_ = (x, none) := of_decide_eq_true q
      obtain ⟨fd, F⟩ := defs e
      rw [ea] at F
      exact ⟨He.ga K x, f, fd, e, He.glo_ok X Gn (al b1 _ hx), F⟩
    · cases q
  · have h1 : (tb.csts.map (·.1))[i]? = some x := h1
    have h2 : (tb.csts.map (·.2))[i]? = some d := h2
    rw [List.getElem?_map] at h1 h2
    cases e : tb.csts[i]? with
    | none => rw [e] at h1; cases h1
    | some p =>
      rw [e] at h1 h2
      cases h1
      cases h2
      have q := al b9 p (List.mem_of_getElem? e)
      split at q
      · rename_i u eu
        obtain ⟨v, r, hv⟩ := cstB_ok (cad := tb.cad K) _ _ q
        exact ⟨u, v, PySem.W.mg_of X Gn eu, r, hv⟩
      · cases q
  · have hx : (x, C) ∈ tb.cls.zipIdx := hx
    have q := List.mem_zipIdx_iff_getElem?.mp hx
    have e : tb.cn C = x := by unfold Tb.cn; rw [q]; rfl
    rw [← clsOf, e]
    exact He.glo_ok X Gn (al b2 x (List.mem_of_getElem? q))
  · have q := al s4 _ hx
    dsimp only at q
    obtain ⟨q, q4⟩ := bsplit q
    obtain ⟨q, q3⟩ := bsplit q
    obtain ⟨q1, q2⟩ := bsplit q
    exact ⟨of_decide_eq_true q1, of_decide_eq_true q2, bt _ hx, of_decide_eq_true q3, by simpa using q4⟩
  · obtain ⟨p, hp, e⟩ := List.any_eq_true.mp (show (tb.flds.any fun p => decide (p = (C, f))) = true from hC)
    have e := of_decide_eq_true e
    subst e
    obtain ⟨q1, q2⟩ := bsplit (al b5 _ hp)
    exact ⟨He.cls_ok q1, He.noat_ok q2⟩
  · have hp := findM_mem hm
    have q := al b4 _ hp
    dsimp only at q
    rw [if_neg hn] at q
    obtain ⟨q1, q2⟩ := bsplit q
    have z := al s2 _ hp
    dsimp only at z
    split at z
    · rename_i f e
      have ea : f.at_ = (tb.cn C, some m) := of_decide_eq_true z
      obtain ⟨fd, F⟩ := defs e
      rw [ea] at F
      exact ⟨He.cls_ok q1, _, f, fd, e, He.meth_ok q2, F⟩
    · cases z
  · have hp := findM_mem hm
    have q := al b4 _ hp
    dsimp only at q
    rw [if_pos rfl] at q
    have z := al s2 _ hp
    dsimp only at z
    split at z
    · rename_i f e
      have ea : f.at_ = (tb.cn C, some ("__init__" : Str)) := of_decide_eq_true z
      obtain ⟨fd, F⟩ := defs e
      rw [ea] at F
      exact ⟨_, f, fd, e, He.mkr_ok q, F⟩
    · cases z
  · exact of_decide_eq_true (bsplit (al b8 _ (find2_mem e))).1
  · have q := (bsplit (al b8 _ (find2_mem e))).2
    dsimp only at q
    rw [if_neg (by omega), if_pos (by omega), show (2 * C + 10 - 10) / 2 = C from by omega] at q
    obtain ⟨q1, q2⟩ := bsplit q
    exact ownB_ok (He.cls_ok q1) q2
  · have q := (bsplit (al b8 _ (find2_mem e))).2
    dsimp only at q
    rw [if_neg (by omega), if_neg (by omega), show (2 * C + 11 - 10) / 2 = C from by omega] at q
    exact excB_ok q
  · cases e : find2 tb.isTs 9 t with
    | none => exact e
    | some b =>
      have q := al s3 _ (find2_mem e)
      exact absurd rfl (of_decide_eq_true q)
  · have hC : C ∈ tb.isXs := by simpa [Tb.G] using hC
    obtain ⟨q1, q2, q3, q4⟩ := He.exc_ok (al b6 _ hC)
    exact ⟨⟨_, _, _, _, PySem.F.excBase_ValueError, q1⟩, q2, q3, q4⟩
  · exact He.exm_ok (al b7 _ (find2_mem e))
/-! ### the hook -/
open He in
def obsPG (n : Nat) (tb : Tb) (g : Addr → Option Obj) : Bool × AlD := (tb.factB (frG g (asD g n)), obsD [] (tb.fis.map Fi.d) (frG g (asD g n)))
open He in
def hookP (n : Nat) (tb : Tb) : PySem.W.Hook where
  α := Bool × AlD
  obs := fun s => obsPG n tb s.heap.get?
  val := fun _ => (true, valD (tb.fis.map Fi.d))
  says := fun _ h => ∃ K : PySem.W.Frag, K.In h ∧ tb.factB K = true ∧ SaysD [] (tb.fis.map Fi.d) K
  of := fun _ _ e => ⟨_, frG_in, congrArg (fun z : Bool × AlD => z.1) e, congrArg (fun z : Bool × AlD => z.2) e⟩
  keeps := fun _ _ _ ⟨K, hK, c⟩ k => ⟨K, PySem.W.Frag.In.keeps hK k, c⟩
theorem obsPG_eq {n : Nat} {tb : Tb} {g : Addr → Option Obj} {s : Shared} (h : ∀ a, g a = s.heap.get? a) : obsPG n tb g = (hookP n tb).obs s := by
  have e : g = s.heap.get? := funext h
  rw [e]
  rfl
end PD
set_option Elab.async false
set_option linter.all false
set_option maxRecDepth 100000
set_option maxHeartbeats 4000000
/-! PyD21: the law's end. -/
namespace PD
open PySem PySem.Spec PyProof.Rows L2
theorem walk_P {l : PySem.W.OpenLaw} {n k : Nat} {q : Program} {loose : List Str} {XP : (Str → Option Value) → Heap → Prop} {YP : World → Heap → Prop} {d : DefRec} {CX : World → CXT} {x : Str}
    (hn : l.most = some n) (hn2 : n ≤ sizeLine) (hdf : d.params.defaults = []) (hr : Room k callerA)
    (F : ∀ (w : World) (mg : Str → Option Value) (fa : Addr) (h : Heap), YP w h → h.Ns mainGlobals mg → mg d.name = some (.ref fa) →
      ∃ (K : PySem.W.Frag) (fd : FuncData) (sp : Sp), K.In h ∧ (∀ (s : Shared) (u : Value), BindsTo s fd ⟨[u], []⟩ [(x, u)]) ∧
        (∀ (H : Hp) (a : Addr) (ns : List Int), ns.length ≤ n → (∀ z ∈ ns, Builtin.Int.intBits z ≤ 1048576) → SqL K H a (ns.map V.int) → sp [.ref a] H (fun v _ => v = .bl true) fun _ _ _ => False) ∧
        ∀ base : Heap, K.In base → base.Ns mainGlobals mg → FnOk l.prog w K mg base (CX w) k fa fd [x] sp)
    (hCX : ∀ (w : World) (H : Hp) (s : Shared) (e : Value) (s' : Shared), CX w [] H s (fun _ _ _ => False) e s' → False) :
    PySem.W.WalkO q loose XP YP l.row.toRowW d [] (fun f vs => PySem.call f vs) := by
  refine Att.attach_callB hn hdf fun w s₀ s₁ mg mb fa o pm cd doc a vs ns G Y ho hd hcd hmg hobj hints hlen hbits hg => ?_
  obtain ⟨K, fd, sp, KX, hb, hsp, hF⟩ := F w mg fa _ Y G.T.g hmg
  exact law_call KX G.T.g G.T.b G.T.builtins G.T.nolimit hg hobj hints (Nat.le_trans hlen hn2) hr hF hb (fun H hO hS => hsp H a ns hlen hbits hS) fun H e s' => hCX w H s₁ e s'
theorem noEx {P : Program} (w : World) (H : Hp) (s : Shared) (e : Value) (s' : Shared) (h : L2.CX P w [] H s (fun _ _ _ => False) e s') : False := by
  obtain ⟨_, _, _, _, _, _, _, _, _, _, _, _, z⟩ := h
  exact z.elim
/-- the law's def by the tables -/
theorem law_fn {tb : Tb} {nE nS i j n : Nat} {fi : Fi} {x ln : Str} {P : Program} {w : World} {K : PySem.W.Frag} {h : Heap} {mg : Str → Option Value} {fa : Addr} (hi : tb.fis[i]? = some fi) (hx : fi.ps = [x]) (hat : (ln, i) ∈ tb.fnames) (hs : tb.okB = true) (ok : tb.fis.all (Fi.okB tb.T tb.G nE nS) = true)
    (bp : ∀ f ∈ tb.fis, BindP f.params f.ps) (bt : BtP tb.bts) (law : ∀ ns : List Int, ns.length ≤ n → (∀ z ∈ ns, Builtin.Int.intBits z ≤ 1048576) → ∃ cs, call tb.G (j + 1) i [.d (.lst (ns.map .int))] [] = .ok (.d (.bl true)) cs)
    (Y : K.In h ∧ tb.factB K = true ∧ He.SaysD [] (tb.fis.map Fi.d) K) (Gn : h.Ns mainGlobals mg) (hmg : mg ln = some (.ref fa)) :
    ∃ (K : PySem.W.Frag) (fd : FuncData) (sp : Sp), K.In h ∧ (∀ (s : Shared) (u : Value), BindsTo s fd ⟨[u], []⟩ [(x, u)]) ∧
        (∀ (H : Hp) (a : Addr) (ns : List Int), ns.length ≤ n → (∀ z ∈ ns, Builtin.Int.intBits z ≤ 1048576) → SqL K H a (ns.map V.int) → sp [.ref a] H (fun v _ => v = .bl true) fun _ _ _ => False) ∧
        ∀ base : Heap, K.In base → base.Ns mainGlobals mg → FnOk P w K mg base (L2.CX P w) (2 * j + 2) fa fd [x] sp := by
  obtain ⟨KX, hB, hS⟩ := Y
  have e := env_of KX Gn hs hB hS bp bt
  obtain ⟨f, fi', fd, h1, h2, F⟩ := e.fn ln i hat
  rw [hi] at h1
  cases h1
  rw [hmg] at h2
  cases h2
  have b := (e.fi i fi hi).2
  refine ⟨K, fd, spOf K (tb.cad K) (call tb.G (j + 1) i), KX, fun s u => ?_, fun H a ns hl hb hS => ?_, fun base _ _ => ?_⟩
  · have z := FunD.bindsA (ps := fi.ps) F (fun kV doc pm an cdv ct us hl => b _ _ _ _ kV doc pm an cdv ct us hl) s [u] (by rw [hx]; rfl)
    rw [hx] at z
    exact z
  · obtain ⟨cs, hc⟩ := law ns hl hb
    exact law_sp hS hc
  · have z := fn_ok (P := P) (w := w) (base := base) (wd_of e ok j) F (e.fi i fi hi).1 (List.all_eq_true.mp ok fi (List.mem_of_getElem? hi))
    rw [hx] at z
    exact z
end PD
set_option Elab.async false
set_option linter.all false
set_option maxRecDepth 100000
set_option maxHeartbeats 4000000
/-! PyS: the reckoning as rewriting rules. -/
namespace PD
open PySem PySem.Spec PyProof.Rows L2
section
variable {G : Pg} {Φ : Nat → List PD.W → List M → Rs PD.W} {sl : Sl} {cs : List M}
@[simp] theorem eE_c (d : D) : evE G Φ (.c d) sl cs = .ok (.d d) cs := rfl
def getS (sl : Sl) (i : Nat) (cs : List M) : Rs PD.W := match sl[i]? with
  | some (some w) => .ok w cs
  | _ => .stuck
@[simp] theorem eE_v (i : Nat) : evE G Φ (.v i) sl cs = getS sl i cs := rfl
@[simp] theorem getS_0 (w : PD.W) (r : Sl) : getS (some w :: r) 0 cs = .ok w cs := rfl
@[simp] theorem getS_s (a : Option PD.W) (r : Sl) (i : Nat) : getS (a :: r) (i + 1) cs = getS r i cs := rfl
@[simp] theorem eE_g (i : Nat) : evE G Φ (.g i) sl cs = Rs.ofO (G.csts[i]?.map .d) cs := rfl
/-- an operation on values -/
def opR (G : Pg) (o : O) (ws : List PD.W) (cs : List M) : Rs PD.W := match pks ws cs with
  | some ds => match sem G.isT o ds with
    | some d => .ok (.d d) cs
    | none => .stuck
  | none => .stuck
@[simp] theorem eE_op (o : O) (es : List E) : evE G Φ (.op o es) sl cs = (evEs G Φ es sl cs).bind fun ws cs => opR G o ws cs := rfl
@[simp] theorem eE_bm (o : O) (a : E) (es : List E) : evE G Φ (.bm o a es) sl cs = (evE G Φ a sl cs).bind fun w cs => if recvOk o (pk w cs) = true then (evEs G Φ es sl cs).bind fun ws cs => opR G o (w :: ws) cs else .stuck := rfl
@[simp] theorem eE_and (a b : E) : evE G Φ (.and_ a b) sl cs = (evE G Φ a sl cs).bind fun w cs => match (pk w cs).bind truth with
    | some true => evE G Φ b sl cs
    | some false => .ok w cs
    | none => .stuck := rfl
@[simp] theorem eE_or (a b : E) : evE G Φ (.or_ a b) sl cs = (evE G Φ a sl cs).bind fun w cs => match (pk w cs).bind truth with
    | some true => .ok w cs
    | some false => evE G Φ b sl cs
    | none => .stuck := rfl
@[simp] theorem eE_not (a : E) : evE G Φ (.not_ a) sl cs = (evE G Φ a sl cs).bind fun w cs => match (pk w cs).bind truth with
    | some b => .ok (.d (.bl (!b))) cs
    | none => .stuck := rfl
@[simp] theorem eE_ife (t a b : E) : evE G Φ (.ife t a b) sl cs = (evE G Φ t sl cs).bind fun w cs => match (pk w cs).bind truth with
    | some true => evE G Φ a sl cs
    | some false => evE G Φ b sl cs
    | none => .stuck := rfl
@[simp] theorem eE_tup (es : List E) : evE G Φ (.tup es) sl cs = (evEs G Φ es sl cs).bind fun ws cs => match dats ws with
    | some ds => if ds.length ≤ LIM then .ok (.d (.tup ds)) cs else .stuck
    | none => .stuck := rfl
@[simp] theorem eE_lst (es : List E) : evE G Φ (.lst es) sl cs = (evEs G Φ es sl cs).bind fun ws cs => match dats ws with
    | some ds => if ds.length ≤ LIM then .ok (.d (.lst ds)) cs else .stuck
    | none => .stuck := rfl
@[simp] theorem eE_mlst (es : List E) : evE G Φ (.mlst es) sl cs = (evEs G Φ es sl cs).bind fun ws cs => match dats ws with
    | some ds => if ds.length ≤ LIM then .ok (.c cs.length) (cs ++ [.lst ds]) else .stuck
    | none => .stuck := rfl
@[simp] theorem eE_call (f : Nat) (es : List E) : evE G Φ (.call f es) sl cs = (evEs G Φ es sl cs).bind fun ws cs => callW (Φ f) ws cs := rfl
@[simp] theorem eEs_nil : evEs G Φ [] sl cs = .ok [] cs := rfl
@[simp] theorem eEs_cons (e : E) (es : List E) : evEs G Φ (e :: es) sl cs = (evE G Φ e sl cs).bind fun w cs => (evEs G Φ es sl cs).bind fun ws cs => .ok (w :: ws) cs := rfl
@[simp] theorem eC_nil : evC G Φ [] sl cs = .ok true cs := rfl
@[simp] theorem eT (e : E) : evT G Φ e sl cs = (evE G Φ e sl cs).bind fun w cs => Rs.ofO ((pk w cs).bind truth) cs := rfl
@[simp] theorem pk_d (d : D) : pk (.d d) cs = some d := rfl
@[simp] theorem pks_nil : pks [] cs = some [] := rfl
@[simp] theorem pks_cons (w : PD.W) (ws : List PD.W) : pks (w :: ws) cs = match pk w cs, pks ws cs with | some d, some ds => some (d :: ds) | _, _ => none := rfl
@[simp] theorem dats_nil : dats [] = some [] := rfl
@[simp] theorem dats_cons (x : D) (ws : List PD.W) : dats (.d x :: ws) = (dats ws).map (x :: ·) := rfl
@[simp] theorem tr_bl (b : Bool) : truth (.bl b) = some b := rfl
@[simp] theorem tr_int (i : Int) : truth (.int i) = some (i != 0) := rfl
@[simp] theorem sem_1 (isT : Nat → Nat → Option Bool) (o : O) (a : D) : sem isT o [a] = sem1 isT o a := rfl
@[simp] theorem sem_2 (isT : Nat → Nat → Option Bool) (o : O) (a b : D) : sem isT o [a, b] = sem2 o a b := rfl
/-! statements -/
@[simp] theorem eS_ex (e : E) : evS G Φ (.ex e) sl cs = SR.of (evE G Φ e sl cs) sl fun _ cs => .ok .nx sl cs := rfl
@[simp] theorem eS_asg (t : Tg) (e : E) : evS G Φ (.asg t e) sl cs = SR.of (evE G Φ e sl cs) sl fun w cs => match bindT t w sl with
    | some sl => .ok .nx sl cs
    | none => .stuck := rfl
@[simp] theorem eS_par (i j : Nat) (a b : E) : evS G Φ (.par i j a b) sl cs = SR.of (evE G Φ a sl cs) sl fun x cs => SR.of (evE G Φ b sl cs) sl fun y cs =>
      if i < sl.length ∧ j < sl.length then .ok .nx ((sl.set i (some x)).set j (some y)) cs else .stuck := rfl
@[simp] theorem eS_ite (t : E) (a b : List S) : evS G Φ (.ite t a b) sl cs = SR.of (evT G Φ t sl cs) sl fun k cs => if k = true then evSs G Φ a sl cs else evSs G Φ b sl cs := rfl
@[simp] theorem eS_ret (e : E) : evS G Φ (.ret e) sl cs = SR.of (evE G Φ e sl cs) sl fun w cs => .ok (.ret w) sl cs := rfl
@[simp] theorem eS_pass : evS G Φ .pass sl cs = .ok .nx sl cs := rfl
@[simp] theorem eSs_nil : evSs G Φ [] sl cs = .ok .nx sl cs := rfl
@[simp] theorem eSs_cons (s : S) (ss : List S) : evSs G Φ (s :: ss) sl cs = match evS G Φ s sl cs with
    | .ok .nx sl cs => evSs G Φ ss sl cs
    | r => r := rfl
@[simp] theorem bT_n (i : Nat) (w : PD.W) : bindT (.n i) w sl = if i < sl.length then some (sl.set i (some w)) else none := rfl
@[simp] theorem bT_t (ts : List Tg) (ds : List D) : bindT (.t ts) (.d (.tup ds)) sl = bindTs ts ds sl := rfl
@[simp] theorem bTs_nil : bindTs [] [] sl = some sl := rfl
@[simp] theorem bTs_cons (t : Tg) (ts : List Tg) (d : D) (ds : List D) : bindTs (t :: ts) (d :: ds) sl = match bindT t (.d d) sl with
    | some sl => bindTs ts ds sl
    | none => none := rfl
end
theorem call_at {G : Pg} {n f np ns : Nat} {b : List S} {ws : List PD.W} {cs : List M} (h : G.fns[f]? = some (np, ns, b)) : call G (n + 1) f ws cs = runB G (call G n) np ns b ws cs := by
  show (match G.fns[f]? with | some (np, ns, b) => runB G (call G n) np ns b ws cs | none => .stuck) = _
  rw [h]
theorem rn_dats : ∀ (ws : List PD.W) (ds : List D), dats ws = some ds → rn [] ws = (ws, []) := fun ws => by
  induction ws with
  | nil => intro ds _; rfl
  | cons w ws ih =>
    intro ds e
    cases w with
    | d x =>
      have e : (dats ws).map (x :: ·) = some ds := e
      cases q : dats ws with
      | none => rw [q] at e; cases e
      | some r =>
        show ((PD.W.d x :: (rn [] ws).1, (rn [] ws).2) : List PD.W × List Nat) = _
        rw [ih r q]
    | c i => cases (show none = some ds from e)
theorem callW_d {f : List PD.W → List M → Rs PD.W} {ws : List PD.W} {ds : List D} {cs ms : List M} {d : D} (hd : dats ws = some ds) (h : f ws [] = .ok (.d d) ms) : callW f ws cs = .ok (.d d) cs := by
  have e : putAll cs [] ms = cs := by cases ms <;> rfl
  unfold callW
  rw [rn_dats ws ds hd]
  simp only [takeAll, h, e]
theorem callW_x {f : List PD.W → List M → Rs PD.W} {ws : List PD.W} {ds : List D} {cs ms : List M} {C : Nat} {ks : List Str} {vs : List D} (hd : dats ws = some ds) (h : f ws [] = .ex C ks vs ms) : callW f ws cs = .ex C ks vs cs := by
  have e : putAll cs [] ms = cs := by cases ms <;> rfl
  unfold callW
  rw [rn_dats ws ds hd]
  simp only [takeAll, h, e]
/-- a call in place -/
theorem eE_callD {G : Pg} {Φ : Nat → List PD.W → List M → Rs PD.W} {sl : Sl} {cs cs1 ms : List M} {f : Nat} {es : List E} {ds : List D} {d : D} (he : evEs G Φ es sl cs = .ok (ds.map .d) cs1) (h : Φ f (ds.map .d) [] = .ok (.d d) ms) : evE G Φ (.call f es) sl cs = .ok (.d d) cs1 := by
  have hd : ∀ ds : List D, dats (ds.map .d) = some ds := fun ds => by
    induction ds with
    | nil => rfl
    | cons d ds ih => show (dats (ds.map .d)).map _ = _; rw [ih]; rfl
  rw [eE_call, he]
  exact callW_d (hd ds) h
theorem callW1 {f : List PD.W → List M → Rs PD.W} {a d : D} {cs ms : List M} (h : f [.d a] [] = .ok (.d d) ms) : callW f [.d a] cs = .ok (.d d) cs := callW_d (ds := [a]) rfl h
theorem callW2 {f : List PD.W → List M → Rs PD.W} {a b d : D} {cs ms : List M} (h : f [.d a, .d b] [] = .ok (.d d) ms) : callW f [.d a, .d b] cs = .ok (.d d) cs := callW_d (ds := [a, b]) rfl h
end PD
namespace PD
section
variable {G : Pg} {Φ : Nat → List PD.W → List M → Rs PD.W} {sl : Sl} {cs : List M}
theorem whileL_s {t : Sl → List M → Rs Bool} {f : Sl → List M → SR} {n : Nat} : whileL t f (n + 1) sl cs = SR.of (t sl cs) sl fun b cs => if b = true then match f sl cs with
      | .ok .nx sl cs => whileL t f n sl cs
      | .ok .cnt sl cs => whileL t f n sl cs
      | .ok .brk sl cs => .ok .nx sl cs
      | r => r
    else .ok .nx sl cs := rfl
@[simp] theorem eS_while (t : E) (b : List S) : evS G Φ (.while_ t b) sl cs = whileL (evT G Φ t) (evSs G Φ b) G.fuel sl cs := rfl
/-- a turn of a for -/
def forB (G : Pg) (Φ : Nat → List PD.W → List M → Rs PD.W) (t : Tg) (b : List S) (d : D) (sl : Sl) (cs : List M) : SR := match bindT t (.d d) sl with
  | some sl => evSs G Φ b sl cs
  | none => .stuck
@[simp] theorem eS_for (t : Tg) (k : IK) (its : List E) (b : List S) : evS G Φ (.for_ t k its b) sl cs = SR.of (evEs G Φ its sl cs) sl fun ws cs => match (dats ws).bind (items k) with
    | some ds => forL (forB G Φ t b) ds sl cs
    | none => .stuck := rfl
theorem pys_ints : ∀ ns : List Int, pys (ns.map .int) = ns.map .int
  | [] => rfl
  | n :: ns => by
    show py (.int n) :: pys (ns.map .int) = _
    rw [pys_ints ns]
    rfl
theorem eqD_int (i j : Int) : eqD (.int i) (.int j) = (i == j) := rfl
theorem plain_int (i : Int) : plainD (.int i) = true := rfl
end
/-- division by a divisor -/
theorem fdiv_exact {a b : Int} (hb : b ≠ 0) (h : b ∣ a) : a.fdiv b = a / b := by
  obtain ⟨c, rfl⟩ := h
  rw [Int.mul_fdiv_cancel_left _ hb, Int.mul_ediv_cancel_left _ hb]
end PD
namespace PD
section
variable {G : Pg} {Φ : Nat → List PD.W → List M → Rs PD.W} {sl : Sl} {cs : List M}
@[simp] theorem eS_rais (C : Nat) (es : List E) : evS G Φ (.rais C es) sl cs = SR.of (evEs G Φ es sl cs) sl fun ws cs => if ws.length ≤ LIM then .ex C [] [] sl cs else .stuck := rfl
theorem lim_pos : (1 : Nat) ≤ LIM := by decide
@[simp] theorem le_lim0 : (0 : Nat) ≤ LIM := Nat.zero_le _
@[simp] theorem le_lim1 : (1 : Nat) ≤ LIM := by decide
@[simp] theorem le_lim2 : (2 : Nat) ≤ LIM := by decide
@[simp] theorem le_lim3 : (3 : Nat) ≤ LIM := by decide
end
theorem log_lt {i : Int} {k : Nat} (h : i.natAbs < 2 ^ k) (hk : 0 < k) : i.natAbs.log2 < k := by
  by_cases h0 : i.natAbs = 0
  · rw [h0]; simpa using hk
  · exact (Nat.log2_lt h0).mpr h
theorem arith_mul {i j : Int} (hi : i.natAbs < 2 ^ 4000000) (hj : j.natAbs < 2 ^ 4000000) : arith .mul i j = some (.int (i * j)) := by
  have h1 := log_lt hi (by omega)
  have h2 := log_lt hj (by omega)
  show (if i.natAbs.log2 + j.natAbs.log2 < 100000000 then some (D.int (i * j)) else none) = _
  rw [if_pos (by omega)]
theorem arith_fdiv {i j : Int} (h0 : j ≠ 0) (hj : j.natAbs < 2 ^ 8999) : arith .fdiv i j = some (.int (i.fdiv j)) := by
  have h2 := log_lt hj (by omega)
  show (if j ≠ 0 ∧ j.natAbs.log2 < 9000 then some (D.int (i.fdiv j)) else none) = _
  rw [if_pos ⟨h0, by omega⟩]
theorem arith_mod {i j : Int} (h0 : j ≠ 0) : arith .mod i j = some (.int (i.fmod j)) := by
  show (if j ≠ 0 then some (D.int (i.fmod j)) else none) = _
  rw [if_pos h0]
end PD
namespace PD
theorem abs_int (i : Int) : absD (.int i) = some (.int (i.natAbs : Int)) := by
  show some (D.int (if i < 0 then -i else i)) = _
  congr 2
  split <;> omega
end PD
namespace PD
section
variable {G : Pg} {Φ : Nat → List PD.W → List M → Rs PD.W} {sl : Sl} {cs : List M}
/-- a turn of a comprehension -/
def cF (G : Pg) (Φ : Nat → List PD.W → List M → Rs PD.W) (sl : Sl) (own : List Nat) (t : Tg) (conds : List E) (elt : E) (d : D) (cs : List M) : Rs (Option D) := match bindT t (.d d) (wipeS sl own) with
  | some sl' => (evC G Φ conds sl' cs).bind fun b cs => if b = true then (evE G Φ elt sl' cs).bind fun w cs => match w with
      | .d x => .ok (some x) cs
      | .c _ => .stuck
    else .ok none cs
  | none => .stuck
@[simp] theorem eE_comp (mc : Bool) (own : List Nat) (t : Tg) (k : IK) (its conds : List E) (elt : E) : evE G Φ (.comp mc own t k its conds elt) sl cs = (evEs G Φ its sl cs).bind fun ws cs => match (dats ws).bind (items k) with
    | some ds => (compL (cF G Φ sl own t conds elt) ds [] cs).bind fun ds cs => if mc = true then .ok (.c cs.length) (cs ++ [.lst ds]) else .ok (.d (.lst ds)) cs
    | none => .stuck := rfl
@[simp] theorem compL_n (f : D → List M → Rs (Option D)) (acc : List D) : compL f [] acc cs = .ok acc cs := rfl
@[simp] theorem compL_c (f : D → List M → Rs (Option D)) (d : D) (ds acc : List D) : compL f (d :: ds) acc cs = match f d cs with
    | .ok o cs => compL f ds (acc ++ o.toList) cs
    | _ => .stuck := rfl
@[simp] theorem wipeS_n : wipeS sl [] = sl := rfl
@[simp] theorem wipeS_c (v : Nat) (vs : List Nat) : wipeS sl (v :: vs) = (wipeS sl vs).set v none := rfl
@[simp] theorem items_seqL (xs : List D) : items .seq [.lst xs] = some xs := rfl
@[simp] theorem items_seqT (xs : List D) : items .seq [.tup xs] = some xs := rfl
@[simp] theorem eS_try (b : List S) (C : Nat) (i : Nat) (h : List S) : evS G Φ (.try_ b C (some i) h) sl cs = match evSs G Φ b sl cs with
    | .ex C' ks vs sl' cs' => match G.sub C' C with
      | some true => if i < sl'.length then (match evSs G Φ h (sl'.set i (some (.d (.exc C' ks vs)))) cs' with
          | .ok f sl2 cs2 => .ok f (sl2.set i none) cs2
          | .ex _ _ _ _ _ => .stuck
          | .stuck => .stuck) else .stuck
      | some false => .ex C' ks vs sl' cs'
      | none => .stuck
    | r => r := rfl
end
end PD
namespace PD
open PySem PySem.Spec PyProof.Rows L2
section
variable {G : Pg} {Φ : Nat → List PD.W → List M → Rs PD.W} {sl : Sl} {cs : List M}
@[simp] theorem eS_setix (a i e : E) : evS G Φ (.setix a i e) sl cs = SR.of (evE G Φ e sl cs) sl fun w cs => SR.of (evE G Φ a sl cs) sl fun o cs => SR.of (evE G Φ i sl cs) sl fun k cs =>
    match o, k, w with
    | .c n, .d kd, .d x => match cs[n]? with
      | some (.lst xs) => (match kd with
        | .int z => (match ixN xs.length z with
          | some j => .ok .nx sl (cs.set n (.lst (xs.set j x)))
          | none => .stuck)
        | _ => .stuck)
      | some (.dct ks vs) => (match keyOf kd with
        | some q => if ks.length < LIM then .ok .nx sl (cs.set n (.dct (dput ks vs q x).1 (dput ks vs q x).2)) else .stuck
        | none => .stuck)
      | _ => .stuck
    | _, _, _ => .stuck := rfl
theorem pk_c (i : Nat) : pk (.c i) cs = match cs[i]? with | some m => mD m | none => none := rfl
/-- one mutable object, one datum -/
theorem callW_c0 {f : List PD.W → List M → Rs PD.W} {x v : D} {a a' : List D} (h : f [.c 0, .d x] [.lst a] = .ok (.d v) [.lst a']) : callW f [.c 0, .d x] [.lst a] = .ok (.d v) [.lst a'] := by
  have r : rn [] [.c 0, .d x] = ([.c 0, .d x], [0]) := rfl
  have t : takeAll [.lst a] [0] = some [.lst a] := rfl
  unfold callW
  rw [r]
  simp only [t, h]
  rfl
theorem forL_c {f : D → Sl → List M → SR} {d : D} {ds : List D} : forL f (d :: ds) sl cs = match f d sl cs with
    | .ok .nx sl cs => forL f ds sl cs
    | .ok .cnt sl cs => forL f ds sl cs
    | .ok .brk sl cs => .ok .nx sl cs
    | r => r := rfl
end
end PD
set_option Elab.async false
set_option linter.all false
set_option maxRecDepth 100000
set_option maxHeartbeats 4000000
/-! PyS2: the reckoning as rewriting rules, the rest. -/
namespace PD
open PySem PySem.Spec PyProof.Rows L2
section
variable {G : Pg} {Φ : Nat → List PD.W → List M → Rs PD.W} {sl : Sl} {cs : List M}
@[simp] theorem eS_app (a e : E) : evS G Φ (.app a e) sl cs = SR.of (evE G Φ a sl cs) sl fun o cs => if isLstC o cs = true then SR.of (evE G Φ e sl cs) sl fun w cs =>
      match o, w with
      | .c n, .d x => match cs[n]? with
        | some (.lst xs) => if xs.length < LIM then .ok .nx sl (cs.set n (.lst (xs ++ [x]))) else .stuck
        | _ => .stuck
      | _, _ => .stuck
    else .stuck := rfl
@[simp] theorem eS_aug (i : Nat) (o : O) (e : E) : evS G Φ (.aug i o e) sl cs = match sl[i]? with
    | some (some x) => SR.of (evE G Φ e sl cs) sl fun y cs => match x, y with
      | .d a, .d b => match augD o a b with
        | some d => .ok .nx (sl.set i (some (.d d))) cs
        | none => .stuck
      | _, _ => .stuck
    | _ => .stuck := rfl
@[simp] theorem eS_setfld (a : E) (f : Str) (e : E) : evS G Φ (.setfld a f e) sl cs = SR.of (evE G Φ e sl cs) sl fun w cs => SR.of (evE G Φ a sl cs) sl fun o cs =>
    match o, w with
    | .c n, .d x => match cs[n]? with
      | some (.obj C ks vs) => if G.fld C f = true ∧ ks.length < 1000 then .ok .nx sl (cs.set n (.obj C (fput ks vs f x).1 (fput ks vs f x).2)) else .stuck
      | _ => .stuck
    | _, _ => .stuck := rfl
@[simp] theorem eS_frz (i : Nat) : evS G Φ (.frz i) sl cs = match sl[i]? with
    | some (some (.c n)) => (match pk (.c n) cs with
      | some d => .ok .nx (sl.set i (some (.d d))) (cs.set n .dead)
      | none => .stuck)
    | some (some (.d _)) => .ok .nx sl cs
    | _ => .stuck := rfl
@[simp] theorem eS_brk : evS G Φ .brk sl cs = .ok .brk sl cs := rfl
@[simp] theorem eS_cnt : evS G Φ .cnt sl cs = .ok .cnt sl cs := rfl
@[simp] theorem eE_frz (e : E) : evE G Φ (.frz e) sl cs = (evE G Φ e sl cs).bind fun w cs => match w with
    | .d x => .ok (.d x) cs
    | .c i => match pk (.c i) cs with
      | some d => .ok (.d d) (cs.set i .dead)
      | none => .stuck := rfl
@[simp] theorem eE_slL (a lo : E) : evE G Φ (.slL a lo) sl cs = (evE G Φ a sl cs).bind fun w cs => (evE G Φ lo sl cs).bind fun l cs => match l with
    | .d (.int i) => Rs.ofO (((pk w cs).bind fun d => slD d (some i) none).map .d) cs
    | _ => .stuck := rfl
@[simp] theorem eE_slH (a hi : E) : evE G Φ (.slH a hi) sl cs = (evE G Φ a sl cs).bind fun w cs => (evE G Φ hi sl cs).bind fun h cs => match h with
    | .d (.int j) => Rs.ofO (((pk w cs).bind fun d => slD d none (some j)).map .d) cs
    | _ => .stuck := rfl
@[simp] theorem eE_sl2 (a lo hi : E) : evE G Φ (.sl2 a lo hi) sl cs = (evE G Φ a sl cs).bind fun w cs => (evE G Φ lo sl cs).bind fun l cs => match l with
    | .d (.int i) => (evE G Φ hi sl cs).bind fun h cs => (match h with
      | .d (.int j) => Rs.ofO (((pk w cs).bind fun d => slD d (some i) (some j)).map .d) cs
      | _ => .stuck)
    | _ => .stuck := rfl
@[simp] theorem eE_chain (o o' : O) (a b c : E) : evE G Φ (.chain o o' a b c) sl cs = (evE G Φ a sl cs).bind fun x cs => (evE G Φ b sl cs).bind fun y cs => match pks [x, y] cs with
    | some ds => match sem G.isT o ds with
      | some (.bl true) => (evE G Φ c sl cs).bind fun z cs => match pks [y, z] cs with
        | some ds => match sem G.isT o' ds with
          | some d => .ok (.d d) cs
          | none => .stuck
        | none => .stuck
      | some (.bl false) => .ok (.d (.bl false)) cs
      | _ => .stuck
    | none => .stuck := rfl
@[simp] theorem eE_fld (a : E) (f : Str) : evE G Φ (.fld a f) sl cs = (evE G Φ a sl cs).bind fun w cs => match pk w cs with
    | some (.obj C ks vs) => if G.fld C f = true then Rs.ofO ((fget ks vs f).map .d) cs else .stuck
    | _ => .stuck := rfl
@[simp] theorem eE_meth (o : E) (m : Str) (es : List E) : evE G Φ (.meth o m es) sl cs = (evE G Φ o sl cs).bind fun w cs => match methF G m (pk w cs) with
    | some f => (evEs G Φ es sl cs).bind fun ws cs => callW (Φ f) (w :: ws) cs
    | none => .stuck := rfl
@[simp] theorem eE_make (C : Nat) (es : List E) : evE G Φ (.make C es) sl cs = (evEs G Φ es sl cs).bind fun ws cs => match G.meth C (Str.ofString "__init__") with
    | some f => (callW (Φ f) (.c cs.length :: ws) (cs ++ [.obj C [] []])).bind fun r cs' => match r with
      | .d .non => .ok (.c cs.length) cs'
      | _ => .stuck
    | none => .stuck := rfl
@[simp] theorem eE_opC (o : O) (es : List E) : evE G Φ (.opC o es) sl cs = (evEs G Φ es sl cs).bind fun ws cs => match pks ws cs with
    | some ds => match sem G.isT o ds with
      | some d => match toM d with
        | some m => .ok (.c cs.length) (cs ++ [m])
        | none => .stuck
      | none => .stuck
    | none => .stuck := rfl
@[simp] theorem eS_tryN (b : List S) (C : Nat) (h : List S) : evS G Φ (.try_ b C none h) sl cs = match evSs G Φ b sl cs with
    | .ex C' ks vs sl' cs' => match G.sub C' C with
      | some true => (match evSs G Φ h sl' cs' with
          | .ok f sl2 cs2 => .ok f sl2 cs2
          | .ex _ _ _ _ _ => .stuck
          | .stuck => .stuck)
      | some false => .ex C' ks vs sl' cs'
      | none => .stuck
    | r => r := rfl
@[simp] theorem sem_3 (isT : Nat → Nat → Option Bool) (o : O) (a b c : D) : sem isT o [a, b, c] = sem3 o a b c := rfl
@[simp] theorem eC_cons (e : E) (es : List E) : evC G Φ (e :: es) sl cs = (evE G Φ e sl cs).bind fun w cs => match (pk w cs).bind truth with
    | some true => evC G Φ es sl cs
    | some false => .ok false cs
    | none => .stuck := rfl
@[simp] theorem tr_lst (xs : List D) : truth (.lst xs) = some (!xs.isEmpty) := rfl
@[simp] theorem tr_tup (xs : List D) : truth (.tup xs) = some (!xs.isEmpty) := rfl
@[simp] theorem tr_non : truth .non = some false := rfl
end
@[simp] theorem le_lim4 : (4 : Nat) ≤ LIM := by decide
@[simp] theorem le_lim5 : (5 : Nat) ≤ LIM := by decide
@[simp] theorem le_lim6 : (6 : Nat) ≤ LIM := by decide
@[simp] theorem le_lim7 : (7 : Nat) ≤ LIM := by decide
@[simp] theorem le_lim8 : (8 : Nat) ≤ LIM := by decide
@[simp] theorem le_lim9 : (9 : Nat) ≤ LIM := by decide
@[simp] theorem le_lim10 : (10 : Nat) ≤ LIM := by decide
@[simp] theorem le_lim11 : (11 : Nat) ≤ LIM := by decide
@[simp] theorem le_lim12 : (12 : Nat) ≤ LIM := by decide
@[simp] theorem le_lim13 : (13 : Nat) ≤ LIM := by decide
@[simp] theorem le_lim14 : (14 : Nat) ≤ LIM := by decide
@[simp] theorem le_lim15 : (15 : Nat) ≤ LIM := by decide
@[simp] theorem le_lim16 : (16 : Nat) ≤ LIM := by decide
@[simp] theorem le_lim17 : (17 : Nat) ≤ LIM := by decide
@[simp] theorem le_lim18 : (18 : Nat) ≤ LIM := by decide
@[simp] theorem le_lim19 : (19 : Nat) ≤ LIM := by decide
@[simp] theorem le_lim20 : (20 : Nat) ≤ LIM := by decide
/-- one mutable object, at i, and one datum -/
theorem callW_ci {f : List PD.W → List M → Rs PD.W} {i : Nat} {x v : D} {m m' : M} {cs : List M} (hi : cs[i]? = some m) (hd : m ≠ .dead) (h : f [.c 0, .d x] [m] = .ok (.d v) [m']) : callW f [.c i, .d x] cs = .ok (.d v) (cs.set i m') := by
  have r : rn [] [.c i, .d x] = ([.c 0, .d x], [i]) := rfl
  have t : takeAll cs [i] = some [m] := by
    unfold takeAll
    rw [hi]
    cases m <;> first | rfl | exact absurd rfl hd
  unfold callW
  rw [r]
  simp only [t, h]
  rfl
theorem runB_ret {G : Pg} {Φ : Nat → List PD.W → List M → Rs PD.W} {np ns : Nat} {b : List S} {ws : List PD.W} {cs cs' : List M} {sl : Sl} {w : PD.W} (hl : ws.length = np) (h : evSs G Φ b (ws.map some ++ List.replicate (ns - np) none) cs = .ok (.ret w) sl cs') : runB G Φ np ns b ws cs = .ok w cs' := by
  unfold runB
  rw [if_pos hl, h]
end PD
/-! PLIx: where a law has the program's defs, classes, constants; their bodies. -/
set_option maxRecDepth 100000
namespace PL
open PySem PD
structure Ix where
  f_common_part : Nat := 0
  f_fraction : Nat := 0
  f_add_all : Nat := 0
  f_times_all : Nat := 0
  f_cell_at : Nat := 0
  f_mix1 : Nat := 0
  f_lowest : Nat := 0
  f_pairs1 : Nat := 0
  f_is2 : Nat := 0
  f_take_off : Nat := 0
  f_share_by : Nat := 0
  f_is_below : Nat := 0
  f_is_whole : Nat := 0
  f_is_part : Nat := 0
  f_are_shares : Nat := 0
  f_fraction_text : Nat := 0
  f_number_of : Nat := 0
  f_read_fraction : Nat := 0
  f_begun : Nat := 0
  f_mix2 : Nat := 0
  f_pairs2 : Nat := 0
  f_alone_nf : Nat := 0
  c_NoFraction : Nat := 0
  c_NoBack : Nat := 0
  c_NoDraw : Nat := 0
  c_NoName : Nat := 0
  c_NoProgram : Nat := 0
  c_NoRow : Nat := 0
  c_NoSaying : Nat := 0
  c_NoSense : Nat := 0
  c_NoStep : Nat := 0
  c_NoWay : Nat := 0
  c_TooMany : Nat := 0
  k_MOST_SHARES : Nat := 0
  k_MOST_FIGURES : Nat := 0
  k_FIGURES : Nat := 0
section
variable (I : Ix)
/-- common_part -/
def b_common_part : List S := [
  .while_ (.op .gt [.v 1, .c (.int (0))]) [.asg (.t [.n 2, .n 3]) (.op .divmod [.v 0, .v 1]), .asg (.n 0) (.v 1), .asg (.n 1) (.v 3)],
  .ret (.v 0)]
/-- fraction -/
def b_fraction : List S := [
  .ite (.op .eq [.v 1, .c (.int (0))]) [.rais I.c_NoFraction [.c (.str "nothing below")]] [],
  .asg (.n 2) (.call I.f_common_part [.op .abs [.v 0], .op .abs [.v 1]]),
  .ite (.op .lt [.v 1, .c (.int (0))]) [.asg (.n 2) (.op .neg [.v 2])] [],
  .ret (.tup [.op .fdiv [.v 0, .v 2], .op .fdiv [.v 1, .v 2]])]
/-- add_all -/
def b_add_all : List S := [
  .asg (.n 1) (.c (.int (0))),
  .asg (.n 2) (.c (.int (1))),
  .for_ (.n 3) .seq [.v 0] [.asg (.t [.n 1, .n 2]) (.call I.f_fraction [.op .add [.op .mul [.v 1, .op .ix [.v 3, .c (.int (1))]], .op .mul [.op .ix [.v 3, .c (.int (0))], .v 2]], .op .mul [.v 2, .op .ix [.v 3, .c (.int (1))]]])],
  .ret (.tup [.v 1, .v 2])]
/-- times_all -/
def b_times_all : List S := [
  .asg (.n 1) (.c (.int (1))),
  .asg (.n 2) (.c (.int (1))),
  .for_ (.n 3) .seq [.v 0] [.asg (.t [.n 1, .n 2]) (.call I.f_fraction [.op .mul [.v 1, .op .ix [.v 3, .c (.int (0))]], .op .mul [.v 2, .op .ix [.v 3, .c (.int (1))]]])],
  .ret (.tup [.v 1, .v 2])]
/-- _law_cell_at -/
def b_cell_at : List S := [
  .ite (.op .lt [.v 1, .op .len [.v 0]]) [.ret (.op .ix [.v 0, .v 1])] [],
  .ret (.c (.int (0)))]
/-- _law_mix -/
def b_mix1 : List S := [
  .setix (.v 0) (.c (.int (0))) (.op .mod [.op .add [.op .add [.op .mul [.op .ix [.v 0, .c (.int (0))], .c (.int (48271))], .op .mul [.v 1, .c (.int (16807))]], .c (.int (11))], .c (.int (2147483647))]),
  .ret (.op .fdiv [.op .mod [.op .mul [.op .ix [.v 0, .c (.int (0))], .op .ix [.v 0, .c (.int (0))]], .c (.int (2147483647))], .c (.int (5))])]
/-- _law_lowest -/
def b_lowest : List S := [
  .asg (.n 2) (.op .abs [.v 0]),
  .asg (.n 3) (.op .abs [.v 1]),
  .while_ (.op .ne [.v 3, .c (.int (0))]) [.par 2 3 (.v 3) (.op .mod [.v 2, .v 3])],
  .asg (.n 4) (.op .ix [.lst [.c (.int (1)), .op .neg [.c (.int (1))]], .op .int [.op .lt [.v 1, .c (.int (0))]]]),
  .ret (.tup [.op .fdiv [.op .mul [.v 4, .v 0], .v 2], .op .fdiv [.op .mul [.v 4, .v 1], .v 2]])]
/-- _law_pairs -/
def b_pairs1 : List S := [
  .asg (.n 4) (.mlst []),
  .asg (.n 5) (.mlst [.op .add [.c (.int (1)), .op .mod [.call I.f_cell_at [.v 0, .v 1], .c (.int (2147483646))]]]),
  .for_ (.n 6) .seq [.slL (.v 0) (.v 1)] [.ite (.op .lt [.op .len [.v 4], .v 2]) [.asg (.n 7) (.op .ix [.lst [.c (.int (9)), .c (.int (60)), .v 3, .v 3], .op .mod [.call I.f_mix1 [.v 5, .op .mod [.v 6, .op .pow [.c (.int (10)), .c (.int (18))]]], .c (.int (4))]]), .asg (.n 8) (.op .sub [.op .mod [.v 6, .op .add [.op .mul [.c (.int (2)), .v 7], .c (.int (1))]], .v 7]), .asg (.n 9) (.op .fdiv [.v 6, .op .add [.op .mul [.c (.int (2)), .v 7], .c (.int (1))]]), .ite (.op .lt [.v 6, .op .pow [.c (.int (10)), .c (.int (18))]]) [.asg (.n 9) (.op .add [.v 9, .op .mul [.call I.f_mix1 [.v 5, .op .mod [.v 8, .op .pow [.c (.int (10)), .c (.int (9))]]], .op .pow [.c (.int (1000000007)), .c (.int (3))]]])] [], .app (.v 4) (.tup [.v 8, .op .add [.c (.int (1)), .op .mod [.v 9, .v 7]]])] []],
  .ret (.frz (.v 4))]
/-- _law_is -/
def b_is2 : List S := [
  .ite (.or_ (.not_ (.op (.isi [3]) [.v 0])) (.op .ne [.op .len [.v 0], .c (.int (2))])) [.ret (.c (.bl false))] [],
  .ret (.and_ (.op .eq [.comp false [2] (.n 2) .seq [.v 0] [] (.and_ (.op (.isi [0]) [.v 2]) (.not_ (.op (.isi [1]) [.v 2]))), .lst [.c (.bl true), .c (.bl true)]]) (.op .eq [.v 0, .v 1]))]
/-- take_off -/
def b_take_off : List S := [
  .ret (.call I.f_fraction [.op .sub [.op .mul [.op .ix [.v 0, .c (.int (0))], .op .ix [.v 1, .c (.int (1))]], .op .mul [.op .ix [.v 1, .c (.int (0))], .op .ix [.v 0, .c (.int (1))]]], .op .mul [.op .ix [.v 0, .c (.int (1))], .op .ix [.v 1, .c (.int (1))]]])]
/-- share_by -/
def b_share_by : List S := [
  .ite (.op .eq [.op .ix [.v 1, .c (.int (0))], .c (.int (0))]) [.rais I.c_NoFraction [.c (.str "divided by nought")]] [],
  .ret (.call I.f_fraction [.op .mul [.op .ix [.v 0, .c (.int (0))], .op .ix [.v 1, .c (.int (1))]], .op .mul [.op .ix [.v 0, .c (.int (1))], .op .ix [.v 1, .c (.int (0))]]])]
/-- is_below -/
def b_is_below : List S := [
  .ret (.op .lt [.op .mul [.op .ix [.v 0, .c (.int (0))], .op .ix [.v 1, .c (.int (1))]], .op .mul [.op .ix [.v 1, .c (.int (0))], .op .ix [.v 0, .c (.int (1))]]])]
/-- is_whole -/
def b_is_whole : List S := [
  .ret (.and_ (.op (.isi [0]) [.v 0]) (.not_ (.op (.isi [1]) [.v 0])))]
/-- is_part -/
def b_is_part : List S := [
  .ite (.or_ (.not_ (.op (.isi [3]) [.v 0])) (.or_ (.op .ne [.op .len [.v 0], .c (.int (2))]) (.not_ (.op .all [.comp false [1] (.n 1) .seq [.v 0] [] (.call I.f_is_whole [.v 1])])))) [.ret (.c (.bl false))] [],
  .ret (.and_ (.op .gt [.op .ix [.v 0, .c (.int (0))], .c (.int (0))]) (.and_ (.op .gt [.op .ix [.v 0, .c (.int (1))], .c (.int (0))]) (.op .eq [.call I.f_fraction [.op .ix [.v 0, .c (.int (0))], .op .ix [.v 0, .c (.int (1))]], .v 0])))]
/-- are_shares -/
def b_are_shares : List S := [
  .ite (.or_ (.not_ (.op (.isi [3]) [.v 0])) (.not_ (.chain .le .le (.c (.int (1))) (.op .len [.v 0]) (.g I.k_MOST_SHARES)))) [.ret (.c (.bl false))] [],
  .ret (.and_ (.op .all [.comp false [1] (.n 1) .seq [.v 0] [] (.call I.f_is_part [.v 1])]) (.op .eq [.call I.f_add_all [.v 0], .tup [.c (.int (1)), .c (.int (1))]]))]
/-- fraction_text -/
def b_fraction_text : List S := [
  .ite (.op .eq [.op .ix [.v 0, .c (.int (1))], .c (.int (1))]) [.ret (.op .str [.op .ix [.v 0, .c (.int (0))]])] [],
  .ret (.op .add [.op .add [.op .str [.op .ix [.v 0, .c (.int (0))]], .c (.str "/")], .op .str [.op .ix [.v 0, .c (.int (1))]]])]
/-- number_of -/
def b_number_of : List S := [
  .ite (.or_ (.not_ (.chain .le .le (.c (.int (1))) (.op .len [.v 0]) (.g I.k_MOST_FIGURES))) (.not_ (.op .all [.comp false [1] (.n 1) .str [.v 0] [] (.op .in_ [.v 1, .g I.k_FIGURES])]))) [.rais I.c_NoFraction [.c (.str "no figures")]] [],
  .ite (.and_ (.op .ne [.v 0, .c (.str "0")]) (.bm .startswith (.v 0) [.c (.str "0")])) [.rais I.c_NoFraction [.c (.str "a nought ahead")]] [],
  .ret (.op .int [.v 0])]
/-- read_fraction -/
def b_read_fraction : List S := [
  .ite (.not_ (.op (.isi [2]) [.v 0])) [.rais I.c_NoFraction [.c (.str "no text")]] [],
  .asg (.t [.n 3, .n 4, .n 5]) (.bm .partition (.slL (.v 0) (.op .int [.bm .startswith (.v 0) [.c (.str "-")]])) [.c (.str "/")]),
  .asg (.n 1) (.call I.f_number_of [.v 3]),
  .asg (.n 2) (.c (.int (1))),
  .ite (.op .ne [.v 4, .c (.str "")]) [.asg (.n 2) (.call I.f_number_of [.v 5])] [],
  .ite (.bm .startswith (.v 0) [.c (.str "-")]) [.asg (.n 1) (.op .neg [.v 1])] [],
  .ite (.or_ (.op .eq [.v 2, .c (.int (0))]) (.op .ne [.call I.f_fraction_text [.call I.f_fraction [.v 1, .v 2]], .v 0])) [.rais I.c_NoFraction [.c (.str "not as it is written")]] [],
  .ret (.tup [.v 1, .v 2])]
/-- _law_begun -/
def b_begun : List S := [
  .ret (.mlst [.op .add [.c (.int (1)), .op .mod [.v 0, .c (.int (2147483646))]], .op .max2 [.c (.int (0)), .op .sub [.v 0, .op .pow [.c (.int (10)), .c (.int (18))]]]])]
/-- _law_mix -/
def b_mix2 : List S := [
  .setix (.v 0) (.c (.int (0))) (.op .mod [.op .add [.op .add [.op .mul [.op .ix [.v 0, .c (.int (0))], .c (.int (48271))], .op .mul [.v 1, .c (.int (16807))]], .c (.int (11))], .c (.int (2147483647))]),
  .ite (.op .ge [.v 1, .op .pow [.c (.int (10)), .c (.int (18))]]) [.setix (.v 0) (.c (.int (1))) (.op .sub [.v 1, .op .pow [.c (.int (10)), .c (.int (18))]])] [],
  .ite (.op .eq [.op .ix [.v 0, .c (.int (1))], .c (.int (0))]) [.ret (.op .fdiv [.op .mod [.op .mul [.op .ix [.v 0, .c (.int (0))], .op .ix [.v 0, .c (.int (0))]], .c (.int (2147483647))], .c (.int (5))])] [],
  .asg (.n 2) (.op .mod [.op .ix [.v 0, .c (.int (1))], .op .pow [.c (.int (10)), .c (.int (9))]]),
  .setix (.v 0) (.c (.int (1))) (.op .fdiv [.op .ix [.v 0, .c (.int (1))], .op .pow [.c (.int (10)), .c (.int (9))]]),
  .ret (.v 2)]
/-- _law_pairs -/
def b_pairs2 : List S := [
  .asg (.n 4) (.mlst []),
  .asg (.n 5) (.call I.f_begun [.op .mod [.call I.f_cell_at [.v 0, .v 1], .op .pow [.c (.int (10)), .c (.int (18))]]]),
  .for_ (.n 6) .seq [.slL (.v 0) (.v 1)] [.ite (.op .lt [.op .len [.v 4], .v 2]) [.asg (.n 7) (.op .ix [.lst [.c (.int (9)), .c (.int (60)), .v 3, .v 3], .op .mod [.call I.f_mix2 [.v 5, .op .mod [.v 6, .op .pow [.c (.int (10)), .c (.int (18))]]], .c (.int (4))]]), .asg (.n 8) (.op .sub [.op .mod [.v 6, .op .add [.op .mul [.c (.int (2)), .v 7], .c (.int (1))]], .v 7]), .asg (.n 9) (.op .fdiv [.v 6, .op .add [.op .mul [.c (.int (2)), .v 7], .c (.int (1))]]), .ite (.op .lt [.v 6, .op .pow [.c (.int (10)), .c (.int (18))]]) [.asg (.n 9) (.op .add [.v 9, .op .mul [.call I.f_mix2 [.v 5, .op .mod [.v 8, .op .pow [.c (.int (10)), .c (.int (9))]]], .op .pow [.c (.int (1000000007)), .c (.int (3))]]])] [], .app (.v 4) (.tup [.v 8, .op .add [.c (.int (1)), .op .mod [.v 9, .v 7]]])] []],
  .ret (.frz (.v 4))]
/-- _law_alone -/
def b_alone_nf : List S := [
  .ite (.op (.isi [10 + I.c_NoBack, 10 + I.c_NoDraw, 10 + I.c_NoName, 10 + I.c_NoProgram, 10 + I.c_NoRow]) [.v 0]) [.ret (.c (.bl false))] [],
  .ite (.op (.isi [10 + I.c_NoSaying, 10 + I.c_NoSense, 10 + I.c_NoStep, 10 + I.c_NoWay, 10 + I.c_TooMany]) [.v 0]) [.ret (.c (.bl false))] [],
  .ret (.and_ (.op (.isi [10 + I.c_NoFraction]) [.v 0]) (.op (.isi [6]) [.v 0]))]
end
end PL
set_option Elab.async false
set_option linter.all false
set_option maxRecDepth 100000
set_option maxHeartbeats 40000000
set_option exponentiation.threshold 300
/-! PL1: fractions: what the program's and the laws' small functions reckon. -/
namespace PL
open PySem PySem.Spec PyProof.Rows L2 PD
abbrev WW := PD.W
/-! ### bounds -/
theorem pow_le {a b : Nat} (h : a ≤ b) : 2 ^ a ≤ 2 ^ b := Nat.pow_le_pow_right (by omega) h
theorem up {x k m : Nat} (h : x < 2 ^ k) (hk : k ≤ m) : x < 2 ^ m := Nat.lt_of_lt_of_le h (pow_le hk)
theorem a_mul {i j : Int} {a b : Nat} (hi : i.natAbs < 2 ^ a) (hj : j.natAbs < 2 ^ b) (h : a ≤ 4000000 := by omega) (h' : b ≤ 4000000 := by omega) : arith .mul i j = some (.int (i * j)) := arith_mul (up hi h) (up hj h')
theorem a_fdiv {i j : Int} {b : Nat} (h0 : j ≠ 0) (hj : j.natAbs < 2 ^ b) (h : b ≤ 8999 := by omega) : arith .fdiv i j = some (.int (i.fdiv j)) := arith_fdiv h0 (up hj h)
@[simp] theorem a_add {i j : Int} : arith .add i j = some (.int (i + j)) := rfl
@[simp] theorem a_sub {i j : Int} : arith .sub i j = some (.int (i - j)) := rfl
@[simp] theorem a_lt {i j : Int} : arith .lt i j = some (.bl (decide (i < j))) := rfl
@[simp] theorem a_le {i j : Int} : arith .le i j = some (.bl (decide (i ≤ j))) := rfl
@[simp] theorem a_gt {i j : Int} : arith .gt i j = some (.bl (decide (j < i))) := rfl
@[simp] theorem a_ge {i j : Int} : arith .ge i j = some (.bl (decide (j ≤ i))) := rfl
@[simp] theorem add_i (i j : Int) : addD (.int i) (.int j) = some (.int (i + j)) := rfl
@[simp] theorem mul_i (i j : Int) : mulD (.int i) (.int j) = arith .mul i j := rfl
@[simp] theorem lt_i (i j : Int) : ltD (.int i) (.int j) = some (.bl (decide (i < j))) := rfl
theorem add_tup {xs ys : List D} (h : xs.length + ys.length ≤ LIM) : addD (.tup xs) (.tup ys) = some (.tup (xs ++ ys)) := if_pos h
theorem add_lst {xs ys : List D} (h : xs.length + ys.length ≤ LIM) : addD (.lst xs) (.lst ys) = some (.lst (xs ++ ys)) := if_pos h
theorem add_str {x y : Str} (h : x.length + y.length ≤ LIM) : addD (.str x) (.str y) = some (.str (x ++ y)) := if_pos h
@[simp] theorem ix_l (xs : List D) (i : Int) : ixD (.lst xs) (.int i) = atI xs i := rfl
@[simp] theorem ix_t (xs : List D) (i : Int) : ixD (.tup xs) (.int i) = atI xs i := rfl
@[simp] theorem at0 (a : D) (r : List D) : atI (a :: r) 0 = some a := by
  unfold atI ixN
  simp
@[simp] theorem at1 (a b : D) (r : List D) : atI (a :: b :: r) 1 = some b := by
  unfold atI ixN
  simp
  rw [if_pos (by omega)]
  rfl
@[simp] theorem at2 (a b c : D) (r : List D) : atI (a :: b :: c :: r) 2 = some c := by
  unfold atI ixN
  simp
  rw [if_pos (by omega)]
  rfl
theorem at_nat (ns : List D) (k : Nat) (h : k < ns.length) : atI ns (k : Int) = ns[k]? := by
  unfold atI ixN
  simp [h]
theorem mul_abs_lt {i j : Int} {a b : Nat} (hi : i.natAbs < 2 ^ a) (hj : j.natAbs < 2 ^ b) : (i * j).natAbs < 2 ^ (a + b) := by
  rw [Int.natAbs_mul, Nat.pow_add]
  exact Nat.mul_lt_mul'' hi hj
theorem add_abs_lt {i j : Int} {a : Nat} (hi : i.natAbs < 2 ^ a) (hj : j.natAbs < 2 ^ a) : (i + j).natAbs < 2 ^ (a + 1) := by
  rw [Nat.pow_succ]
  omega
/-! ### the greatest common part -/
def cpT : E := .op .gt [.v 1, .c (.int (0))]
def cpB : List S := [.asg (.t [.n 2, .n 3]) (.op .divmod [.v 0, .v 1]), .asg (.n 0) (.v 1), .asg (.n 1) (.v 3)]
section
variable {G : Pg} {I : Ix}
theorem cp_loop (Φ : Nat → List PD.W → List M → Rs PD.W) (cs : List M) : ∀ (k n : Nat) (a b : Nat) (x y : Option PD.W), b < 2 ^ k → k ≤ 8999 → 2 * k + 1 ≤ n → ∃ x' y', whileL (evT G Φ cpT) (evSs G Φ cpB) n [some (.d (.int a)), some (.d (.int b)), x, y] cs = .ok .nx [some (.d (.int (Nat.gcd a b))), some (.d (.int 0)), x', y'] cs := by
  have step : ∀ (n a b : Nat) (x y : Option PD.W), 0 < b → b.log2 < 9000 → whileL (evT G Φ cpT) (evSs G Φ cpB) (n + 1) [some (.d (.int a)), some (.d (.int b)), x, y] cs = whileL (evT G Φ cpT) (evSs G Φ cpB) n [some (.d (.int b)), some (.d (.int (a % b : Nat))), some (.d (.int (a / b : Nat))), some (.d (.int (a % b : Nat)))] cs := fun n a b x y hb hl => by
    rw [whileL_s]
    simp [cpT, cpB, opR, sem2, arD, arith, divmodD, hb, hl]
  have done : ∀ (n a : Nat) (x y : Option PD.W), whileL (evT G Φ cpT) (evSs G Φ cpB) (n + 1) [some (.d (.int a)), some (.d (.int (0 : Nat))), x, y] cs = .ok .nx [some (.d (.int a)), some (.d (.int (0 : Nat))), x, y] cs := fun n a x y => by
    rw [whileL_s]
    simp [cpT, cpB, opR, sem2, arD, arith]
  intro k
  induction k with
  | zero =>
    intro n a b x y hb _ hn
    have : b = 0 := by simpa using hb
    subst this
    obtain ⟨m, rfl⟩ : ∃ m, n = m + 1 := ⟨n - 1, by omega⟩
    exact ⟨x, y, by rw [done]; simp⟩
  | succ k ih =>
    intro n a b x y hb hk hn
    obtain ⟨m, rfl⟩ : ∃ m, n = m + 1 + 1 := ⟨n - 2, by omega⟩
    have lg : ∀ c, c < 2 ^ (k + 1) → 0 < c → c.log2 < 9000 := fun c hc h0 => by
      have := (Nat.log2_lt (by omega)).mpr hc
      omega
    by_cases h0 : b = 0
    · subst h0
      exact ⟨x, y, by rw [done]; simp⟩
    · have hb0 : 0 < b := by omega
      rw [step _ _ _ _ _ hb0 (lg b hb hb0)]
      by_cases h1 : a % b = 0
      · rw [h1, done]
        refine ⟨some (.d (.int (a / b : Nat))), some (.d (.int (0 : Nat))), ?_⟩
        have e : Nat.gcd a b = b := by rw [Nat.gcd_comm, Nat.gcd_rec, h1, Nat.gcd_zero_left]
        rw [e]
        rfl
      · have hr0 : 0 < a % b := by omega
        have hrb : a % b < b := Nat.mod_lt _ hb0
        rw [step _ _ _ _ _ hr0 (lg _ (by omega) hr0)]
        have hhalf : b % (a % b) < 2 ^ k := by
          have h3 : b % (a % b) < a % b := Nat.mod_lt _ hr0
          have h4 : b = (a % b) * (b / (a % b)) + b % (a % b) := (Nat.div_add_mod _ _).symm
          have h5 : 1 ≤ b / (a % b) := (Nat.le_div_iff_mul_le hr0).mpr (by omega)
          have h6 : (a % b) * 1 ≤ (a % b) * (b / (a % b)) := Nat.mul_le_mul_left _ h5
          have h7 : 2 ^ (k + 1) = 2 * 2 ^ k := by rw [Nat.pow_succ]; omega
          omega
        obtain ⟨x', y', e⟩ := ih m (a % b) (b % (a % b)) (some (.d (.int (b / (a % b) : Nat)))) (some (.d (.int (b % (a % b) : Nat)))) hhalf (by omega) (by omega)
        refine ⟨x', y', ?_⟩
        rw [e]
        have g : Nat.gcd a b = Nat.gcd (a % b) (b % (a % b)) := by
          rw [Nat.gcd_comm a b, Nat.gcd_rec b a, Nat.gcd_rec (a % b) b, Nat.gcd_comm (b % (a % b))]
        rw [g]
/-- the fractions' defs stand in the program -/
structure HFr (G : Pg) (I : Ix) : Prop where
  fuel : G.fuel = 100000
  cp : G.fns[I.f_common_part]? = some (2, 4, b_common_part)
  fr : G.fns[I.f_fraction]? = some (2, 3, b_fraction I)
theorem common_part (h : HFr G I) (n : Nat) (a b : Nat) (hb : b < 2 ^ 8000) : PD.call G (n + 1) I.f_common_part [.d (.int a), .d (.int b)] [] = .ok (.d (.int (Nat.gcd a b))) [] := by
  rw [call_at h.cp]
  obtain ⟨x, y, e⟩ := cp_loop (G := G) (PD.call G n) [] 8000 100000 a b none none hb (by omega) (by omega)
  have e2 : b_common_part = [.while_ cpT cpB, .ret (.v 0)] := rfl
  simp only [runB, e2]
  simp [h.fuel, e]
/-! ### lowest terms -/
def sg (b : Int) : Int := if b < 0 then -1 else 1
def rt (t b : Int) : Int := sg b * (t / (Int.gcd t b : Int))
def rb (t b : Int) : Int := sg b * (b / (Int.gcd t b : Int))
theorem gcd_pos {t b : Int} (h : b ≠ 0) : (0 : Int) < (Int.gcd t b : Int) := by
  have : Int.gcd t b ≠ 0 := fun z => h (Int.gcd_eq_zero_iff.mp z).2
  omega
theorem gcd_lt {t b : Int} {k : Nat} (h0 : b ≠ 0) (h : b.natAbs < 2 ^ k) : Int.gcd t b < 2 ^ k := by
  have z := Nat.le_of_dvd (by omega : 0 < b.natAbs) (Int.natAbs_dvd_natAbs.mpr (Int.gcd_dvd_right t b))
  simp only [Int.natAbs_natCast] at z
  omega
theorem fdiv_neg_exact {a g : Int} (hg : g ≠ 0) (h : g ∣ a) : a.fdiv (-g) = -(a / g) := by
  rw [fdiv_exact (by omega) (Int.neg_dvd.mpr h), Int.ediv_neg]
/-- a fraction as the program has it -/
def fr (q : Rat) : D := .tup [.int q.num, .int q.den]
@[simp] theorem bT_fr (ts : List Tg) (q : Rat) (sl : Sl) : bindT (.t ts) (.d (fr q)) sl = bindTs ts [.int q.num, .int q.den] sl := rfl
theorem rt_num {t b : Int} (h0 : b ≠ 0) : rt t b = (Rat.divInt t b).num := by
  rw [Rat.num_divInt]
  unfold rt sg
  have d1 : (Int.gcd t b : Int) ∣ t := Int.gcd_dvd_left t b
  rw [Int.gcd_comm b t, ← Int.mul_ediv_assoc _ d1]
  by_cases h : b < 0
  · rw [if_pos h, Int.sign_eq_neg_one_of_neg h]
  · rw [if_neg h, Int.sign_eq_one_of_pos (by omega)]
theorem rb_den {t b : Int} (h0 : b ≠ 0) : rb t b = ((Rat.divInt t b).den : Int) := by
  rw [Rat.den_divInt, if_neg h0]
  unfold rb sg
  have d2 : (Int.gcd t b : Int) ∣ b := Int.gcd_dvd_right t b
  rw [Int.gcd_comm b t]
  by_cases h : b < 0
  · rw [if_pos h, Int.natCast_ediv, Int.neg_one_mul]
    have : ((b.natAbs : Nat) : Int) = -b := by omega
    rw [this, Int.neg_ediv_of_dvd d2]
  · rw [if_neg h, Int.natCast_ediv, Int.one_mul]
    have : ((b.natAbs : Nat) : Int) = b := by omega
    rw [this]
theorem fr_of {t b : Int} (h0 : b ≠ 0) : D.tup [.int (rt t b), .int (rb t b)] = fr (Rat.divInt t b) := by
  rw [rt_num h0, rb_den h0]
  rfl
theorem fraction_ok (h : HFr G I) (n : Nat) (t b : Int) (h0 : b ≠ 0) (hb : b.natAbs < 2 ^ 8000) : PD.call G (n + 1 + 1) I.f_fraction [.d (.int t), .d (.int b)] [] = .ok (.d (fr (Rat.divInt t b))) [] := by
  rw [call_at h.fr, ← fr_of h0]
  have cp := callW2 (cs := []) (common_part h n t.natAbs b.natAbs hb)
  have hg := gcd_pos (t := t) h0
  have hl := gcd_lt (t := t) h0 hb
  have d1 : (Int.gcd t b : Int) ∣ t := Int.gcd_dvd_left t b
  have d2 : (Int.gcd t b : Int) ∣ b := Int.gcd_dvd_right t b
  have ge : (Nat.gcd t.natAbs b.natAbs : Int) = (Int.gcd t b : Int) := rfl
  by_cases hn : b < 0
  · have f1 : arith .fdiv t (-(Int.gcd t b : Int)) = some (.int (rt t b)) := by
      rw [a_fdiv (b := 8000) (by omega) (by simpa only [Int.natAbs_neg, Int.natAbs_natCast] using hl), fdiv_neg_exact (by omega) d1]
      unfold rt sg
      rw [if_pos hn, Int.neg_one_mul]
    have f2 : arith .fdiv b (-(Int.gcd t b : Int)) = some (.int (rb t b)) := by
      rw [a_fdiv (b := 8000) (by omega) (by simpa only [Int.natAbs_neg, Int.natAbs_natCast] using hl), fdiv_neg_exact (by omega) d2]
      unfold rb sg
      rw [if_pos hn, Int.neg_one_mul]
    simp [runB, b_fraction, opR, sem1, sem2, ltD, arD, negD, abs_int, cp, ge, hn, h0, f1, f2, plain_int, eqD_int]
  · have f1 : arith .fdiv t (Int.gcd t b : Int) = some (.int (rt t b)) := by
      rw [a_fdiv (b := 8000) (by omega) (by simpa only [Int.natAbs_natCast] using hl), fdiv_exact (by omega) d1]
      unfold rt sg
      rw [if_neg hn, Int.one_mul]
    have f2 : arith .fdiv b (Int.gcd t b : Int) = some (.int (rb t b)) := by
      rw [a_fdiv (b := 8000) (by omega) (by simpa only [Int.natAbs_natCast] using hl), fdiv_exact (by omega) d2]
      unfold rb sg
      rw [if_neg hn, Int.one_mul]
    simp [runB, b_fraction, opR, sem1, sem2, ltD, arD, negD, abs_int, cp, ge, hn, h0, f1, f2, plain_int, eqD_int]
theorem fraction_zero (h : HFr G I) (n : Nat) (t : Int) : PD.call G (n + 1) I.f_fraction [.d (.int t), .d (.int 0)] [] = .ex I.c_NoFraction [] [] [] := by
  rw [call_at h.fr]
  simp [runB, b_fraction, opR, sem1, sem2, plain_int, eqD_int]
/-! lowest terms, the laws' own -/
def loT : E := .op .ne [.v 3, .c (.int (0))]
def loB : List S := [.par 2 3 (.v 3) (.op .mod [.v 2, .v 3])]
theorem lo_loop (Φ : Nat → List PD.W → List M → Rs PD.W) (cs : List M) (p q r : Option PD.W) : ∀ (k n : Nat) (a b : Nat), b < 2 ^ k → 2 * k + 1 ≤ n → whileL (evT G Φ loT) (evSs G Φ loB) n [p, q, some (.d (.int a)), some (.d (.int b)), r] cs = .ok .nx [p, q, some (.d (.int (Nat.gcd a b))), some (.d (.int 0)), r] cs := by
  have step : ∀ (n a b : Nat), 0 < b → whileL (evT G Φ loT) (evSs G Φ loB) (n + 1) [p, q, some (.d (.int a)), some (.d (.int b)), r] cs = whileL (evT G Φ loT) (evSs G Φ loB) n [p, q, some (.d (.int b)), some (.d (.int (a % b : Nat))), r] cs := fun n a b hb => by
    rw [whileL_s]
    have e : arith .mod (a : Int) (b : Int) = some (.int (a % b : Nat)) := by
      rw [arith_mod (by omega), Int.fmod_eq_emod_of_nonneg _ (by omega)]
      rfl
    have hb' : b ≠ 0 := by omega
    simp [loT, loB, opR, sem2, arD, e, plain_int, eqD_int, hb']
  have done : ∀ (n a : Nat), whileL (evT G Φ loT) (evSs G Φ loB) (n + 1) [p, q, some (.d (.int a)), some (.d (.int (0 : Nat))), r] cs = .ok .nx [p, q, some (.d (.int a)), some (.d (.int (0 : Nat))), r] cs := fun n a => by
    rw [whileL_s]
    simp [loT, loB, opR, sem2, plain_int, eqD_int]
  intro k
  induction k with
  | zero =>
    intro n a b hb hn
    have : b = 0 := by simpa using hb
    subst this
    obtain ⟨m, rfl⟩ : ∃ m, n = m + 1 := ⟨n - 1, by omega⟩
    rw [done]; simp
  | succ k ih =>
    intro n a b hb hn
    obtain ⟨m, rfl⟩ : ∃ m, n = m + 1 + 1 := ⟨n - 2, by omega⟩
    by_cases h0 : b = 0
    · subst h0
      rw [done]; simp
    · have hb0 : 0 < b := by omega
      rw [step _ _ _ hb0]
      by_cases h1 : a % b = 0
      · rw [h1, done]
        have e : Nat.gcd a b = b := by rw [Nat.gcd_comm, Nat.gcd_rec, h1, Nat.gcd_zero_left]
        rw [e]
        rfl
      · have hr0 : 0 < a % b := by omega
        have hrb : a % b < b := Nat.mod_lt _ hb0
        rw [step _ _ _ hr0]
        have hhalf : b % (a % b) < 2 ^ k := by
          have h3 : b % (a % b) < a % b := Nat.mod_lt _ hr0
          have h4 : b = (a % b) * (b / (a % b)) + b % (a % b) := (Nat.div_add_mod _ _).symm
          have h5 : 1 ≤ b / (a % b) := (Nat.le_div_iff_mul_le hr0).mpr (by omega)
          have h6 : (a % b) * 1 ≤ (a % b) * (b / (a % b)) := Nat.mul_le_mul_left _ h5
          have h7 : 2 ^ (k + 1) = 2 * 2 ^ k := by rw [Nat.pow_succ]; omega
          omega
        rw [ih m (a % b) (b % (a % b)) hhalf (by omega)]
        have g : Nat.gcd a b = Nat.gcd (a % b) (b % (a % b)) := by
          rw [Nat.gcd_comm a b, Nat.gcd_rec b a, Nat.gcd_rec (a % b) b, Nat.gcd_comm (b % (a % b))]
        rw [g]
theorem lowest_ok (hf : G.fuel = 100000) (h : G.fns[I.f_lowest]? = some (2, 5, b_lowest)) (n : Nat) (t b : Int) (h0 : b ≠ 0) (hb : b.natAbs < 2 ^ 8000) (ht : t.natAbs < 2 ^ 8000) : PD.call G (n + 1) I.f_lowest [.d (.int t), .d (.int b)] [] = .ok (.d (fr (Rat.divInt t b))) [] := by
  rw [call_at h, ← fr_of h0]
  have hg := gcd_pos (t := t) h0
  have hl := gcd_lt (t := t) h0 hb
  have d1 : (Int.gcd t b : Int) ∣ t := Int.gcd_dvd_left t b
  have d2 : (Int.gcd t b : Int) ∣ b := Int.gcd_dvd_right t b
  have lo := lo_loop (G := G) (PD.call G n) [] (some (.d (.int t))) (some (.d (.int b))) none 8000 100000 t.natAbs b.natAbs hb (by omega)
  have e2 : b_lowest = [.asg (.n 2) (.op .abs [.v 0]), .asg (.n 3) (.op .abs [.v 1]), .while_ loT loB, .asg (.n 4) (.op .ix [.lst [.c (.int (1)), .op .neg [.c (.int (1))]], .op .int [.op .lt [.v 1, .c (.int (0))]]]),
    .ret (.tup [.op .fdiv [.op .mul [.v 4, .v 0], .v 2], .op .fdiv [.op .mul [.v 4, .v 1], .v 2]])] := rfl
  have ge : (Nat.gcd t.natAbs b.natAbs : Int) = (Int.gcd t b : Int) := rfl
  have hgl : ((Int.gcd t b : Int)).natAbs < 2 ^ 8000 := by simpa only [Int.natAbs_natCast] using hl
  have f1 : arith .fdiv (sg b * t) (Int.gcd t b : Int) = some (.int (rt t b)) := by
    rw [a_fdiv (by omega) hgl, fdiv_exact (by omega) (Int.dvd_mul_of_dvd_right d1)]
    unfold rt
    rw [Int.mul_ediv_assoc _ d1]
  have f2 : arith .fdiv (sg b * b) (Int.gcd t b : Int) = some (.int (rb t b)) := by
    rw [a_fdiv (by omega) hgl, fdiv_exact (by omega) (Int.dvd_mul_of_dvd_right d2)]
    unfold rb
    rw [Int.mul_ediv_assoc _ d2]
  have sgl : (sg b).natAbs < 2 ^ 1 := by unfold sg; split <;> decide
  have m1 : arith .mul (sg b) t = some (.int (sg b * t)) := a_mul sgl ht
  have m2 : arith .mul (sg b) b = some (.int (sg b * b)) := a_mul sgl hb
  by_cases hn : b < 0
  · have es : sg b = -1 := if_pos hn
    rw [es] at f1 f2 m1 m2
    simp only [Int.neg_mul, Int.one_mul] at f1 f2 m1 m2
    simp only [runB, e2]
    simp [hf, opR, sem1, sem2, mulD, ltD, arD, negD, abs_int, PD.intD, ixD, lo, ge, hn, f1, f2, m1, m2]
  · have es : sg b = 1 := if_neg hn
    rw [es] at f1 f2 m1 m2
    simp only [Int.one_mul] at f1 f2 m1 m2
    simp only [runB, e2]
    simp [hf, opR, sem1, sem2, mulD, ltD, arD, negD, abs_int, PD.intD, ixD, lo, ge, hn, f1, f2, m1, m2]
end
end PL
set_option Elab.async false
set_option linter.all false
set_option maxRecDepth 100000
set_option maxHeartbeats 4000000
set_option exponentiation.threshold 300
/-! PL2: sums and products of fractions; the laws' small functions. -/
namespace PL
open PySem PySem.Spec PyProof.Rows L2 PD
/-- a fraction as a list -/
def lf (q : Rat) : D := .lst [.int q.num, .int q.den]
def frp (p : Rat × Bool) : D := if p.2 then fr p.1 else lf p.1
def sz (k : Nat) (q : Rat) : Prop := q.num.natAbs < 2 ^ k ∧ q.den < 2 ^ k
theorem sz_mono {k m : Nat} {q : Rat} (h : sz k q) (hk : k ≤ m) : sz m q := ⟨up h.1 hk, up h.2 hk⟩
theorem divInt_le {t b : Int} (h0 : b ≠ 0) : (Rat.divInt t b).num.natAbs ≤ t.natAbs ∧ (Rat.divInt t b).den ≤ b.natAbs := by
  constructor
  · rw [Rat.num_divInt]
    refine Nat.le_trans (Int.natAbs_ediv_le_natAbs _ _) ?_
    rw [Int.natAbs_mul]
    have : b.sign.natAbs ≤ 1 := by rw [Int.natAbs_sign]; split <;> omega
    calc b.sign.natAbs * t.natAbs ≤ 1 * t.natAbs := Nat.mul_le_mul_right _ this
      _ = t.natAbs := Nat.one_mul _
  · rw [Rat.den_divInt, if_neg h0]
    exact Nat.div_le_self _ _
theorem divInt_sz {t b : Int} {k : Nat} (h0 : b ≠ 0) (ht : t.natAbs < 2 ^ k) (hb : b.natAbs < 2 ^ k) : sz k (Rat.divInt t b) :=
  ⟨Nat.lt_of_le_of_lt (divInt_le h0).1 ht, Nat.lt_of_le_of_lt (divInt_le h0).2 hb⟩
theorem den_ne (q : Rat) : (q.den : Int) ≠ 0 := by have := q.den_nz; omega
theorem den_mul_ne (q r : Rat) : (q.den * r.den : Int) ≠ 0 := Int.mul_ne_zero (den_ne q) (den_ne r)
theorem add_eq (q r : Rat) : Rat.divInt (q.num * r.den + r.num * q.den) (q.den * r.den) = q + r := by
  rw [← Rat.divInt_add_divInt _ _ (den_ne q) (den_ne r), Rat.num_divInt_den, Rat.num_divInt_den]
theorem mul_eq (q r : Rat) : Rat.divInt (q.num * r.num) (q.den * r.den) = q * r := by
  rw [← Rat.divInt_mul_divInt, Rat.num_divInt_den, Rat.num_divInt_den]
theorem nat_abs {n k : Nat} (h : n < 2 ^ k) : ((n : Nat) : Int).natAbs < 2 ^ k := by simpa using h
theorem add_sz {q r : Rat} {a k : Nat} (hq : sz a q) (hr : sz k r) : sz (a + k + 1) (q + r) := by
  rw [← add_eq]
  refine divInt_sz (den_mul_ne q r) (add_abs_lt (mul_abs_lt hq.1 (nat_abs hr.2)) ?_) ?_
  · rw [Nat.add_comm]; exact mul_abs_lt hr.1 (nat_abs hq.2)
  · exact up (mul_abs_lt (nat_abs hq.2) (nat_abs hr.2)) (by omega)
theorem mul_sz {q r : Rat} {a k : Nat} (hq : sz a q) (hr : sz k r) : sz (a + k) (q * r) := by
  rw [← mul_eq]
  exact divInt_sz (den_mul_ne q r) (mul_abs_lt hq.1 hr.1) (mul_abs_lt (nat_abs hq.2) (nat_abs hr.2))
theorem sz0 : sz 1 0 := ⟨by decide, by decide⟩
theorem sz1 : sz 1 1 := ⟨by decide, by decide⟩
/-- the sum, the product, from the left -/
def sumR (q : Rat) (rs : List Rat) : Rat := rs.foldl (· + ·) q
def prodR (q : Rat) (rs : List Rat) : Rat := rs.foldl (· * ·) q
section
variable {G : Pg} {I : Ix}
def adB (I : Ix) : List S := [.asg (.t [.n 1, .n 2]) (.call I.f_fraction [.op .add [.op .mul [.v 1, .op .ix [.v 3, .c (.int (1))]], .op .mul [.op .ix [.v 3, .c (.int (0))], .v 2]], .op .mul [.v 2, .op .ix [.v 3, .c (.int (1))]]])]
theorem frp_ix (p : Rat × Bool) : ixD (frp p) (.int 0) = some (.int p.1.num) ∧ ixD (frp p) (.int 1) = some (.int p.1.den) := by
  obtain ⟨q, b⟩ := p
  cases b <;> simp [frp, fr, lf, ixD]
theorem ad_step (h : HFr G I) (n : Nat) (cs : List M) {q : Rat} {p : Rat × Bool} {a k : Nat} (hq : sz a q) (hp : sz k p.1) (hk : a + k ≤ 7999) (r x : Option PD.W) :
    forB G (PD.call G (n + 2)) (.n 3) (adB I) (frp p) [r, some (.d (.int q.num)), some (.d (.int q.den)), x] cs = .ok .nx [r, some (.d (.int (q + p.1).num)), some (.d (.int (q + p.1).den)), some (.d (frp p))] cs := by
  obtain ⟨i0, i1⟩ := frp_ix p
  have m1 := a_mul hq.1 (nat_abs hp.2)
  have m2 := a_mul hp.1 (nat_abs hq.2)
  have m3 := a_mul (nat_abs hq.2) (nat_abs hp.2)
  have F := callW2 (cs := cs) (fraction_ok h n (q.num * p.1.den + p.1.num * q.den) (q.den * p.1.den) (den_mul_ne q p.1) (up (mul_abs_lt (nat_abs hq.2) (nat_abs hp.2)) (by omega)))
  rw [add_eq] at F
  simp [forB, adB, opR, sem2, mulD, addD, i0, i1, m1, m2, m3, F, fr]
theorem ad_loop (h : HFr G I) (n : Nat) (cs : List M) (k : Nat) (r : Option PD.W) : ∀ (ps : List (Rat × Bool)) (a : Nat) (q : Rat) (x : Option PD.W), sz a q → (∀ p ∈ ps, sz k p.1) → a + (k + 1) * ps.length ≤ 7999 →
    ∃ x', forL (forB G (PD.call G (n + 2)) (.n 3) (adB I)) (ps.map frp) [r, some (.d (.int q.num)), some (.d (.int q.den)), x] cs = .ok .nx [r, some (.d (.int (sumR q (ps.map (·.1))).num)), some (.d (.int (sumR q (ps.map (·.1))).den)), x'] cs
  | [], a, q, x, _, _, _ => ⟨x, rfl⟩
  | p :: ps, a, q, x, hq, hp, hk => by
    have hk : a + (k + 1) * (ps.length + 1) ≤ 7999 := hk
    rw [Nat.mul_add] at hk
    have hp0 := hp p List.mem_cons_self
    rw [List.map_cons, forL_c, ad_step h n cs hq hp0 (by omega)]
    exact ad_loop h n cs k r ps (a + k + 1) (q + p.1) _ (add_sz hq hp0) (fun p hm => hp p (List.mem_cons_of_mem _ hm)) (by omega)
theorem add_all_ok (h : HFr G I) (h2 : G.fns[I.f_add_all]? = some (1, 4, b_add_all I)) (n : Nat) (x : D) (ps : List (Rat × Bool)) (hx : items .seq [x] = some (ps.map frp)) (k : Nat) (hs : ∀ p ∈ ps, sz k p.1) (hk : (k + 1) * ps.length ≤ 7900) :
    PD.call G (n + 1 + 2) I.f_add_all [.d x] [] = .ok (.d (fr (sumR 0 (ps.map (·.1))))) [] := by
  rw [call_at h2]
  obtain ⟨x', e⟩ := ad_loop h n [] k (some (.d x)) ps 1 0 none sz0 hs (by omega)
  have e2 : b_add_all I = [.asg (.n 1) (.c (.int (0))), .asg (.n 2) (.c (.int (1))), .for_ (.n 3) .seq [.v 0] (adB I), .ret (.tup [.v 1, .v 2])] := rfl
  simp only [runB, e2]
  have e : forL (forB G (PD.call G (n + 2)) (.n 3) (adB I)) (ps.map frp) [some (.d x), some (.d (.int 0)), some (.d (.int 1)), none] [] = _ := e
  simp [hx, e, fr]
def tmB (I : Ix) : List S := [.asg (.t [.n 1, .n 2]) (.call I.f_fraction [.op .mul [.v 1, .op .ix [.v 3, .c (.int (0))]], .op .mul [.v 2, .op .ix [.v 3, .c (.int (1))]]])]
theorem tm_step (h : HFr G I) (n : Nat) (cs : List M) {q : Rat} {p : Rat × Bool} {a k : Nat} (hq : sz a q) (hp : sz k p.1) (hk : a + k ≤ 7999) (r x : Option PD.W) :
    forB G (PD.call G (n + 2)) (.n 3) (tmB I) (frp p) [r, some (.d (.int q.num)), some (.d (.int q.den)), x] cs = .ok .nx [r, some (.d (.int (q * p.1).num)), some (.d (.int (q * p.1).den)), some (.d (frp p))] cs := by
  obtain ⟨i0, i1⟩ := frp_ix p
  have m1 := a_mul hq.1 hp.1
  have m3 := a_mul (nat_abs hq.2) (nat_abs hp.2)
  have F := callW2 (cs := cs) (fraction_ok h n (q.num * p.1.num) (q.den * p.1.den) (den_mul_ne q p.1) (up (mul_abs_lt (nat_abs hq.2) (nat_abs hp.2)) (by omega)))
  rw [mul_eq] at F
  simp [forB, tmB, opR, sem2, mulD, addD, i0, i1, m1, m3, F, fr]
theorem tm_loop (h : HFr G I) (n : Nat) (cs : List M) (k : Nat) (r : Option PD.W) : ∀ (ps : List (Rat × Bool)) (a : Nat) (q : Rat) (x : Option PD.W), sz a q → (∀ p ∈ ps, sz k p.1) → a + k * ps.length ≤ 7999 →
    ∃ x', forL (forB G (PD.call G (n + 2)) (.n 3) (tmB I)) (ps.map frp) [r, some (.d (.int q.num)), some (.d (.int q.den)), x] cs = .ok .nx [r, some (.d (.int (prodR q (ps.map (·.1))).num)), some (.d (.int (prodR q (ps.map (·.1))).den)), x'] cs
  | [], a, q, x, _, _, _ => ⟨x, rfl⟩
  | p :: ps, a, q, x, hq, hp, hk => by
    have hk : a + k * (ps.length + 1) ≤ 7999 := hk
    rw [Nat.mul_add] at hk
    have hp0 := hp p List.mem_cons_self
    rw [List.map_cons, forL_c, tm_step h n cs hq hp0 (by omega)]
    exact tm_loop h n cs k r ps (a + k) (q * p.1) _ (mul_sz hq hp0) (fun p hm => hp p (List.mem_cons_of_mem _ hm)) (by omega)
theorem times_all_ok (h : HFr G I) (h2 : G.fns[I.f_times_all]? = some (1, 4, b_times_all I)) (n : Nat) (x : D) (ps : List (Rat × Bool)) (hx : items .seq [x] = some (ps.map frp)) (k : Nat) (hs : ∀ p ∈ ps, sz k p.1) (hk : k * ps.length ≤ 7900) :
    PD.call G (n + 1 + 2) I.f_times_all [.d x] [] = .ok (.d (fr (prodR 1 (ps.map (·.1))))) [] := by
  rw [call_at h2]
  obtain ⟨x', e⟩ := tm_loop h n [] k (some (.d x)) ps 1 1 none sz1 hs (by omega)
  have e2 : b_times_all I = [.asg (.n 1) (.c (.int (1))), .asg (.n 2) (.c (.int (1))), .for_ (.n 3) .seq [.v 0] (tmB I), .ret (.tup [.v 1, .v 2])] := rfl
  simp only [runB, e2]
  have e : forL (forB G (PD.call G (n + 2)) (.n 3) (tmB I)) (ps.map frp) [some (.d x), some (.d (.int 1)), some (.d (.int 1)), none] [] = _ := e
  simp [hx, e, fr]
/-! ### the laws' small functions -/
def lis (ns : List Int) : D := .lst (ns.map .int)
theorem cell_at (h : G.fns[I.f_cell_at]? = some (2, 2, b_cell_at)) (n : Nat) (ns : List Int) (k : Nat) : PD.call G (n + 1) I.f_cell_at [.d (lis ns), .d (.int k)] [] = .ok (.d (.int (ns.getD k 0))) [] := by
  rw [call_at h]
  by_cases h : k < ns.length
  · have e : atI (ns.map D.int) (k : Int) = some (.int (ns.getD k 0)) := by
      rw [at_nat _ _ (by rw [List.length_map]; exact h)]
      simp [h]
    simp [runB, b_cell_at, opR, sem1, sem2, lenD, ltD, ixD, lis, h, e]
  · simp [runB, b_cell_at, opR, sem1, sem2, lenD, ltD, ixD, lis, h]
/-- isinstance of the built-in types -/
structure HT (G : Pg) : Prop where
  t : ∀ g ∈ [0, 1, 2, 3, 4, 5, 7], ∀ a ∈ [0, 1, 2, 3, 4, 5], G.isT g a = some (decide (g = a) || (decide (g = 1) && decide (a = 0)))
/-- the type of a plain datum -/
def tagB : D → Option Nat
  | .non => some 7
  | .bl _ => some 1
  | .int _ => some 0
  | .str _ => some 2
  | .tup _ => some 3
  | .lst _ => some 4
  | .dct _ _ => some 5
  | _ => none
theorem tagB_tag {d : D} {g : Nat} (h : tagB d = some g) : tag d = g ∧ g ∈ [0, 1, 2, 3, 4, 5, 7] := by
  cases d <;> first | (cases h; exact ⟨rfl, by decide⟩) | cases h
theorem HT.one (h : HT G) {d : D} {g a : Nat} (hd : tagB d = some g) (ha : a ∈ [0, 1, 2, 3, 4, 5]) : tyAny G.isT (tag d) [a] = some (decide (g = a) || (decide (g = 1) && decide (a = 0))) := by
  obtain ⟨e, hg⟩ := tagB_tag hd
  rw [e]
  unfold tyAny
  rw [h.t g hg a ha]
  cases (decide (g = a) || (decide (g = 1) && decide (a = 0))) <;> rfl
theorem is2_ok (h : G.fns[I.f_is2]? = some (2, 3, b_is2)) (t : HT G) (n : Nat) (a b : Int) : PD.call G (n + 1) I.f_is2 [.d (.tup [.int a, .int b]), .d (.tup [.int a, .int b])] [] = .ok (.d (.bl true)) [] := by
  rw [call_at h]
  have i1 := t.one (d := .tup [.int a, .int b]) rfl (a := 3) (by decide)
  have i2 : ∀ c : Int, _ := fun c : Int => t.one (d := .int c) rfl (a := 0) (by decide)
  have i3 : ∀ c : Int, _ := fun c : Int => t.one (d := .int c) rfl (a := 1) (by decide)
  have p1 : plainD (.tup [.int a, .int b]) = true := rfl
  have p2 : plainD (.lst [.bl true, .bl true]) = true := rfl
  have p3 : eqD (.lst [.bl true, .bl true]) (.lst [.bl true, .bl true]) = true := rfl
  have p4 : eqD (.tup [.int a, .int b]) (.tup [.int a, .int b]) = true := by
    show ((a == a) && ((b == b) && true)) = true
    simp
  simp [runB, b_is2, cF, opR, sem1, sem2, lenD, i1, i2, i3, p1, p2, p3, p4, plain_int, eqD_int]
/-- the pseudo-random mixer -/
theorem mix1_ok (h : G.fns[I.f_mix1]? = some (2, 2, b_mix1)) (n : Nat) (s k : Int) (hs : 0 ≤ s) (hs2 : s < 2147483647) (hk : k.natAbs < 2 ^ 100) : ∃ s' v : Int, PD.call G (n + 1) I.f_mix1 [.c 0, .d (.int k)] [.lst [.int s]] = .ok (.d (.int v)) [.lst [.int s']] ∧ 0 ≤ s' ∧ s' < 2147483647 ∧ 0 ≤ v ∧ v < 1000000000 := by
  rw [call_at h]
  have big : ∀ {x : Int}, 0 ≤ x → x < 18446744073709551616 → x.natAbs < 2 ^ 64 := fun {x} h1 h2 => by omega
  have m1 : arith .mul s 48271 = some (.int (s * 48271)) := a_mul (big hs (by omega)) (big (by omega) (by omega))
  have m2 : arith .mul k 16807 = some (.int (k * 16807)) := a_mul hk (big (by omega) (by omega))
  generalize hs' : (s * 48271 + k * 16807 + 11).fmod 2147483647 = s'
  have h1 : 0 ≤ s' := by rw [← hs', Int.fmod_eq_emod_of_nonneg _ (by omega)]; exact Int.emod_nonneg _ (by omega)
  have h2 : s' < 2147483647 := by rw [← hs', Int.fmod_eq_emod_of_nonneg _ (by omega)]; exact Int.emod_lt_of_pos _ (by omega)
  have d1 : arith .mod (s * 48271 + k * 16807 + 11) 2147483647 = some (.int s') := by rw [arith_mod (by omega), hs']
  have m3 : arith .mul s' s' = some (.int (s' * s')) := a_mul (big h1 (by omega)) (big h1 (by omega))
  generalize hv : (s' * s').fmod 2147483647 = v
  have v1 : 0 ≤ v := by rw [← hv, Int.fmod_eq_emod_of_nonneg _ (by omega)]; exact Int.emod_nonneg _ (by omega)
  have v2 : v < 2147483647 := by rw [← hv, Int.fmod_eq_emod_of_nonneg _ (by omega)]; exact Int.emod_lt_of_pos _ (by omega)
  have d2 : arith .mod (s' * s') 2147483647 = some (.int v) := by rw [arith_mod (by omega), hv]
  have d3 : arith .fdiv v 5 = some (.int (v.fdiv 5)) := a_fdiv (b := 3) (by omega) (by decide)
  refine ⟨s', v.fdiv 5, ?_, h1, h2, ?_, ?_⟩
  · have ixn : ixN 1 0 = some 0 := rfl
    simp [runB, b_mix1, opR, sem2, mulD, arD, addD, ixD, pk_c, mD, ixn, m1, m2, d1, m3, d2, d3]
  · rw [Int.fdiv_eq_ediv_of_nonneg _ (by omega)]; omega
  · rw [Int.fdiv_eq_ediv_of_nonneg _ (by omega)]; omega
end
end PL
set_option Elab.async false
set_option linter.all false
set_option maxRecDepth 100000
set_option maxHeartbeats 4000000
set_option exponentiation.threshold 300
/-! PL3: drawn pairs of numbers. -/
namespace PL
open PySem PySem.Spec PyProof.Rows L2 PD
def pr (p : Int × Int) : D := .tup [.int p.1, .int p.2]
/-- a pair of numbers to size -/
def okP (k : Nat) (p : Int × Int) : Prop := p.1.natAbs < 2 ^ k ∧ 1 ≤ p.2 ∧ p.2.natAbs < 2 ^ k
section
variable {G : Pg} {I : Ix}
def prB (I : Ix) : List S := [.ite (.op .lt [.op .len [.v 4], .v 2]) [.asg (.n 7) (.op .ix [.lst [.c (.int (9)), .c (.int (60)), .v 3, .v 3], .op .mod [.call I.f_mix1 [.v 5, .op .mod [.v 6, .op .pow [.c (.int (10)), .c (.int (18))]]], .c (.int (4))]]), .asg (.n 8) (.op .sub [.op .mod [.v 6, .op .add [.op .mul [.c (.int (2)), .v 7], .c (.int (1))]], .v 7]), .asg (.n 9) (.op .fdiv [.v 6, .op .add [.op .mul [.c (.int (2)), .v 7], .c (.int (1))]]), .ite (.op .lt [.v 6, .op .pow [.c (.int (10)), .c (.int (18))]]) [.asg (.n 9) (.op .add [.v 9, .op .mul [.call I.f_mix1 [.v 5, .op .mod [.v 8, .op .pow [.c (.int (10)), .c (.int (9))]]], .op .pow [.c (.int (1000000007)), .c (.int (3))]]])] [], .app (.v 4) (.tup [.v 8, .op .add [.c (.int (1)), .op .mod [.v 9, .v 7]]])] []]
theorem emod_bd (c : Int) {m : Int} (h : 0 < m) : 0 ≤ c.fmod m ∧ c.fmod m < m := by
  rw [Int.fmod_eq_emod_of_nonneg _ (by omega)]
  exact ⟨Int.emod_nonneg _ (by omega), Int.emod_lt_of_pos _ h⟩
theorem pr_step (h1 : G.fns[I.f_mix1]? = some (2, 2, b_mix1)) (n k : Nat) (hk : 6 ≤ k) (hk2 : k ≤ 4000) (most size : Int) (hz : 60 ≤ size) (hz2 : size.natAbs + 1 < 2 ^ k) (p q : Option PD.W) (c : Int) (found : List (Int × Int)) (hl : found.length < LIM) (s : Int) (hs : 0 ≤ s) (hs2 : s < 2147483647) (x6 x7 x8 x9 : Option PD.W) :
    ∃ (found' : List (Int × Int)) (s' : Int) (x6' x7' x8' x9' : Option PD.W), forB G (PD.call G (n + 1)) (.n 6) (prB I) (.int c) [p, q, some (.d (.int most)), some (.d (.int size)), some (.c 0), some (.c 1), x6, x7, x8, x9] [.lst (found.map pr), .lst [.int s]] = .ok .nx [p, q, some (.d (.int most)), some (.d (.int size)), some (.c 0), some (.c 1), x6', x7', x8', x9'] [.lst (found'.map pr), .lst [.int s']] ∧
      0 ≤ s' ∧ s' < 2147483647 ∧ (found' = found ∨ ((found.length : Int) < most ∧ ∃ z, okP k z ∧ found' = found ++ [z])) := by
  by_cases hm : (found.length : Int) < most
  · have pw18 : arith .pow 10 18 = some (.int 1000000000000000000) := rfl
    have pw9 : arith .pow 10 9 = some (.int 1000000000) := rfl
    have pw3 : arith .pow 1000000007 3 = some (.int 1000000021000000147000000343) := rfl
    obtain ⟨g1, g2⟩ := emod_bd c (m := 1000000000000000000) (by omega)
    have md : arith .mod c 1000000000000000000 = some (.int (c.fmod 1000000000000000000)) := arith_mod (by omega)
    obtain ⟨s1, v1, M1, a1, a2, a3, a4⟩ := mix1_ok h1 n s (c.fmod 1000000000000000000) hs hs2 (by omega)
    have C1 := callW_ci (cs := [.lst (found.map pr), .lst [.int s]]) (i := 1) rfl (by simp) M1
    have md4 : arith .mod v1 4 = some (.int (v1 % 4)) := by rw [arith_mod (by omega), Int.fmod_eq_emod_of_nonneg _ (by omega)]
    obtain ⟨near, ix, b1, b2⟩ : ∃ near : Int, atI [D.int 9, D.int 60, D.int size, D.int size] (v1 % 4) = some (.int near) ∧ 9 ≤ near ∧ near ≤ size := by
      have : v1 % 4 = 0 ∨ v1 % 4 = 1 ∨ v1 % 4 = 2 ∨ v1 % 4 = 3 := by omega
      rcases this with h | h | h | h <;> rw [h]
      · exact ⟨9, rfl, by omega, by omega⟩
      · exact ⟨60, rfl, by omega, by omega⟩
      · exact ⟨size, rfl, by omega, by omega⟩
      · exact ⟨size, rfl, by omega, by omega⟩
    have nk : near.natAbs < 2 ^ k := by omega
    have m2 : arith .mul 2 near = some (.int (2 * near)) := a_mul (a := 2) (by decide) nk
    have mm : arith .mod c (2 * near + 1) = some (.int (c.fmod (2 * near + 1))) := arith_mod (by omega)
    obtain ⟨e1, e2⟩ := emod_bd c (m := 2 * near + 1) (by omega)
    have k2 : (2 * near + 1).natAbs < 2 ^ (k + 2) := by rw [Nat.pow_add]; omega
    have fd : arith .fdiv c (2 * near + 1) = some (.int (c.fdiv (2 * near + 1))) := a_fdiv (by omega) k2
    generalize htop : c.fmod (2 * near + 1) = tp at mm e1 e2
    generalize hre : c.fdiv (2 * near + 1) = re at fd
    have topk : (tp - near).natAbs < 2 ^ k := by omega
    have mt : arith .mod (tp - near) 1000000000 = some (.int ((tp - near).fmod 1000000000)) := arith_mod (by omega)
    obtain ⟨t1, t2⟩ := emod_bd (tp - near) (m := 1000000000) (by omega)
    obtain ⟨s2, v2, M2, c1, c2, c3, c4⟩ := mix1_ok h1 n s1 ((tp - near).fmod 1000000000) a1 a2 (by omega)
    have C2 := callW_ci (cs := [.lst (found.map pr), .lst [.int s1]]) (i := 1) rfl (by simp) M2
    have m3 : arith .mul v2 1000000021000000147000000343 = some (.int (v2 * 1000000021000000147000000343)) := a_mul (a := 40) (b := 100) (by omega) (by decide)
    have mr : ∀ r : Int, arith .mod r near = some (.int (r.fmod near)) := fun r => arith_mod (by omega)
    have okz : ∀ r : Int, okP k (tp - near, 1 + r.fmod near) := fun r => by
      obtain ⟨h1, h2⟩ := emod_bd r (m := near) (by omega)
      exact ⟨topk, by show 1 ≤ 1 + r.fmod near; omega, by show (1 + r.fmod near).natAbs < 2 ^ k; omega⟩
    by_cases hc : c < 1000000000000000000
    · refine ⟨found ++ [(tp - near, 1 + (re + v2 * 1000000021000000147000000343).fmod near)], s2, some (.d (.int c)), some (.d (.int near)), some (.d (.int (tp - near))), some (.d (.int (re + v2 * 1000000021000000147000000343))), ?_, c1, c2, .inr ⟨hm, _, okz _, rfl⟩⟩
      simp [forB, prB, opR, sem1, sem2, mulD, arD, addD, ltD, lenD, ixD, pk_c, mD, isLstC, hm, pw18, pw9, pw3, md, C1, md4, ix, m2, mm, fd, hc, mt, C2, m3, mr, hl, pr]
    · refine ⟨found ++ [(tp - near, 1 + re.fmod near)], s1, some (.d (.int c)), some (.d (.int near)), some (.d (.int (tp - near))), some (.d (.int re)), ?_, a1, a2, .inr ⟨hm, _, okz _, rfl⟩⟩
      simp [forB, prB, opR, sem1, sem2, mulD, arD, addD, ltD, lenD, ixD, pk_c, mD, isLstC, hm, pw18, pw9, pw3, md, C1, md4, ix, m2, mm, fd, hc, mr, hl, pr]
  · refine ⟨found, s, some (.d (.int c)), x7, x8, x9, ?_, hs, hs2, .inl rfl⟩
    simp [forB, prB, opR, sem1, sem2, ltD, lenD, pk_c, mD, hm]
theorem pr_loop (h1 : G.fns[I.f_mix1]? = some (2, 2, b_mix1)) (n k : Nat) (hk : 6 ≤ k) (hk2 : k ≤ 4000) (most : Nat) (size : Int) (hz : 60 ≤ size) (hz2 : size.natAbs + 1 < 2 ^ k) (p q : Option PD.W) : ∀ (cs : List Int) (found : List (Int × Int)), found.length ≤ most → most < LIM → (∀ z ∈ found, okP k z) → ∀ (s : Int), 0 ≤ s → s < 2147483647 → ∀ (x6 x7 x8 x9 : Option PD.W),
    ∃ (found' : List (Int × Int)) (s' : Int) (x6' x7' x8' x9' : Option PD.W), forL (forB G (PD.call G (n + 1)) (.n 6) (prB I)) (cs.map .int) [p, q, some (.d (.int most)), some (.d (.int size)), some (.c 0), some (.c 1), x6, x7, x8, x9] [.lst (found.map pr), .lst [.int s]] = .ok .nx [p, q, some (.d (.int most)), some (.d (.int size)), some (.c 0), some (.c 1), x6', x7', x8', x9'] [.lst (found'.map pr), .lst [.int s']] ∧
      found'.length ≤ most ∧ (∀ z ∈ found', okP k z)
  | [], found, hl, _, ho, s, hs, hs2, x6, x7, x8, x9 => ⟨found, s, x6, x7, x8, x9, rfl, hl, ho⟩
  | c :: cs, found, hl, hm, ho, s, hs, hs2, x6, x7, x8, x9 => by
    obtain ⟨f1, s1, y6, y7, y8, y9, e, a1, a2, a3⟩ := pr_step h1 n k hk hk2 most size hz hz2 p q c found (by omega) s hs hs2 x6 x7 x8 x9
    rw [List.map_cons, forL_c, e]
    have st : f1.length ≤ most ∧ (∀ z ∈ f1, okP k z) := by
      rcases a3 with a3 | ⟨b1, z, b2, b3⟩
      · subst a3; exact ⟨hl, ho⟩
      · subst b3
        refine ⟨by rw [List.length_append]; simp; omega, fun y hy => ?_⟩
        rcases List.mem_append.mp hy with hy | hy
        · exact ho y hy
        · cases List.mem_singleton.mp hy; exact b2
    exact pr_loop h1 n k hk hk2 most size hz hz2 p q cs f1 st.1 hm st.2 s1 a1 a2 y6 y7 y8 y9
theorem cut_from (ns : List D) (k : Nat) : PD.cutD ns (some (k : Int)) none = ns.drop k := by
  unfold PD.cutD
  rw [HT.sIx_nat, HT.sIx_none]
  by_cases h : k ≤ ns.length
  · rw [Nat.min_eq_left h, List.take_of_length_le (by rw [List.length_drop]; omega)]
  · rw [Nat.min_eq_right (by omega), List.drop_of_length_le (Nat.le_refl _), List.drop_of_length_le (by omega), List.take_nil]
/-- drawn pairs -/
theorem pairs1_ok (h0 : G.fns[I.f_cell_at]? = some (2, 2, b_cell_at)) (h1 : G.fns[I.f_mix1]? = some (2, 2, b_mix1)) (h2 : G.fns[I.f_pairs1]? = some (4, 10, b_pairs1 I)) (n k : Nat) (hk : 6 ≤ k) (hk2 : k ≤ 4000) (ns : List Int) (first most : Nat) (size : Int) (hm : most < LIM) (hz : 60 ≤ size) (hz2 : size.natAbs + 1 < 2 ^ k) :
    ∃ (found : List (Int × Int)) (ms : List M), PD.call G (n + 2) I.f_pairs1 [.d (lis ns), .d (.int first), .d (.int most), .d (.int size)] [] = .ok (.d (.lst (found.map pr))) ms ∧ found.length ≤ most ∧ ∀ z ∈ found, okP k z := by
  rw [call_at h2]
  have C := callW2 (cs := [.lst []]) (cell_at h0 n ns first)
  generalize ns.getD first 0 = c at C
  have md : arith .mod c 2147483646 = some (.int (c.fmod 2147483646)) := arith_mod (by omega)
  obtain ⟨g1, g2⟩ := emod_bd c (m := 2147483646) (by omega)
  obtain ⟨found, s', x6, x7, x8, x9, e, a1, a2⟩ := pr_loop h1 n k hk hk2 most size hz hz2 (some (.d (lis ns))) (some (.d (.int first))) (ns.drop first) [] (Nat.zero_le _) hm (fun _ h => nomatch h) (1 + c.fmod 2147483646) (by omega) (by omega) none none none none
  refine ⟨found, [.dead, .lst [.int s']], ?_, a1, a2⟩
  have e2 : b_pairs1 I = [.asg (.n 4) (.mlst []), .asg (.n 5) (.mlst [.op .add [.c (.int (1)), .op .mod [.call I.f_cell_at [.v 0, .v 1], .c (.int (2147483646))]]]), .for_ (.n 6) .seq [.slL (.v 0) (.v 1)] (prB I), .ret (.frz (.v 4))] := rfl
  simp only [runB, e2]
  have sl : slD (lis ns) (some (first : Int)) none = some (.lst ((ns.drop first).map .int)) := by
    show some (D.lst (PD.cutD _ _ _)) = _
    rw [cut_from, List.map_drop]
  generalize (ns.drop first).map D.int = ds at sl e
  have e : forL (forB G (PD.call G (n + 1)) (.n 6) (prB I)) ds [some (.d (lis ns)), some (.d (.int first)), some (.d (.int most)), some (.d (.int size)), some (.c 0), some (.c 1), none, none, none, none] [.lst [], .lst [.int (1 + c.fmod 2147483646)]] = _ := e
  simp [opR, sem2, arD, addD, md, C, sl, pk_c, mD, e]
end
end PL
set_option Elab.async false
set_option linter.all false
set_option maxRecDepth 100000
set_option maxHeartbeats 4000000
set_option exponentiation.threshold 300
/-! PL4: equality of data, comprehensions, slices; sums and products. -/
namespace PL
open PySem PySem.Spec PyProof.Rows L2 PD
/-! ### plain data -/
def pl (k : Nat) (d : D) : Prop := (py d).plain = true ∧ (py d).depth ≤ k
theorem pl_mono {k m : Nat} {d : D} (h : pl k d) (hk : k ≤ m) : pl m d := ⟨h.1, Nat.le_trans h.2 hk⟩
theorem pl_int (i : Int) : pl 0 (.int i) := ⟨rfl, Nat.le_refl _⟩
theorem pl_str (i : Str) : pl 0 (.str i) := ⟨rfl, Nat.le_refl _⟩
theorem pl_bl (i : Bool) : pl 0 (.bl i) := ⟨rfl, Nat.le_refl _⟩
theorem pl_non : pl 0 .non := ⟨rfl, Nat.le_refl _⟩
theorem pls {k : Nat} : ∀ {ds : List D}, (∀ d ∈ ds, pl k d) → PyData.plainAll (pys ds) = true ∧ PyData.depthAll (pys ds) ≤ k
  | [], _ => ⟨rfl, Nat.zero_le _⟩
  | d :: ds, h => by
    obtain ⟨h1, h2⟩ := h d List.mem_cons_self
    obtain ⟨h3, h4⟩ := pls fun d hd => h d (List.mem_cons_of_mem _ hd)
    refine ⟨?_, ?_⟩
    · show ((py d).plain && PyData.plainAll (pys ds)) = true
      rw [h1, h3]; rfl
    · show max (py d).depth (PyData.depthAll (pys ds)) ≤ k
      exact Nat.max_le.mpr ⟨h2, h4⟩
theorem pl_tup {k : Nat} {ds : List D} (h : ∀ d ∈ ds, pl k d) : pl (k + 1) (.tup ds) := ⟨(pls h).1, Nat.succ_le_succ (pls h).2⟩
theorem pl_lst {k : Nat} {ds : List D} (h : ∀ d ∈ ds, pl k d) : pl (k + 1) (.lst ds) := ⟨(pls h).1, Nat.succ_le_succ (pls h).2⟩
theorem pl_ok {k : Nat} {d : D} (h : pl k d) (hk : k ≤ 60 := by omega) : plainD d = true := by
  unfold plainD
  rw [h.1, Bool.true_and]
  exact decide_eq_true (Nat.le_trans h.2 hk)
theorem eqD_refl {d : D} (h : (py d).plain = true) : eqD d d = true := SeqAt.eqv_refl_plain _ h
theorem pl_refl {k : Nat} {d : D} (h : pl k d) : eqD d d = true := eqD_refl h.1
theorem pl_fr (q : Rat) : pl 1 (fr q) := pl_tup fun d hd => by
  simp only [List.mem_cons, List.not_mem_nil, or_false] at hd
  rcases hd with rfl | rfl <;> exact pl_int _
theorem pl_lf (q : Rat) : pl 1 (lf q) := pl_lst fun d hd => by
  simp only [List.mem_cons, List.not_mem_nil, or_false] at hd
  rcases hd with rfl | rfl <;> exact pl_int _
theorem pl_frs (qs : List Rat) : pl 2 (.lst (qs.map fr)) := pl_lst fun d hd => by
  obtain ⟨q, _, rfl⟩ := List.mem_map.mp hd
  exact pl_fr q
theorem eq_fr (q r : Rat) : eqD (fr q) (fr r) = decide (q = r) := by
  show ((q.num == r.num) && (((q.den : Int) == (r.den : Int)) && true)) = _
  by_cases h : q = r
  · subst h; simp
  · have : ¬ (q.num = r.num ∧ q.den = r.den) := fun ⟨a, b⟩ => h (Rat.ext a b)
    rw [decide_eq_false h]
    by_cases h1 : q.num = r.num
    · have h2 : ¬ q.den = r.den := fun z => this ⟨h1, z⟩
      have h3 : ((q.den : Int) == (r.den : Int)) = false := by
        rw [beq_eq_false_iff_ne]
        omega
      rw [h3]; simp
    · have h3 : (q.num == r.num) = false := beq_eq_false_iff_ne.mpr h1
      rw [h3]; rfl
/-! ### comprehensions -/
theorem compL_map {f : D → List M → Rs (Option D)} {g : D → D} {cs : List M} : ∀ {ds acc : List D}, (∀ d ∈ ds, f d cs = .ok (some (g d)) cs) → compL f ds acc cs = .ok (acc ++ ds.map g) cs
  | [], acc, _ => by simp
  | d :: ds, acc, h => by
    rw [compL_c, h d List.mem_cons_self]
    show compL f ds (acc ++ [g d]) cs = _
    rw [compL_map fun d hd => h d (List.mem_cons_of_mem _ hd)]
    simp
/-- by the things that the data stand for -/
theorem compL_mapA {α : Type} {f : D → List M → Rs (Option D)} {e : α → D} {g : α → D} {cs : List M} : ∀ {xs : List α} {acc : List D}, (∀ x ∈ xs, f (e x) cs = .ok (some (g x)) cs) → compL f (xs.map e) acc cs = .ok (acc ++ xs.map g) cs
  | [], acc, _ => by simp
  | x :: xs, acc, h => by
    rw [List.map_cons, compL_c, h x List.mem_cons_self]
    show compL f (xs.map e) (acc ++ [g x]) cs = _
    rw [compL_mapA fun d hd => h d (List.mem_cons_of_mem _ hd)]
    simp
theorem cut_to (ns : List D) (k : Nat) : PD.cutD ns none (some (k : Int)) = ns.take k := by
  unfold PD.cutD
  rw [HT.sIx_nat, HT.sIx_none, List.drop_zero, Nat.sub_zero]
  by_cases h : k ≤ ns.length
  · rw [Nat.min_eq_left h]
  · rw [Nat.min_eq_right (by omega), List.take_of_length_le (Nat.le_refl _), List.take_of_length_le (by omega)]
theorem sl_to (ns : List D) (k : Nat) : slD (.lst ns) none (some (k : Int)) = some (.lst (ns.take k)) := by
  show some (D.lst (PD.cutD _ _ _)) = _
  rw [cut_to]
theorem sl_from (ns : List D) (k : Nat) : slD (.lst ns) (some (k : Int)) none = some (.lst (ns.drop k)) := by
  show some (D.lst (PD.cutD _ _ _)) = _
  rw [cut_from]
/-! ### sums and products of rationals -/
theorem sumR_acc (q : Rat) : ∀ rs : List Rat, sumR q rs = q + sumR 0 rs
  | [] => (Rat.add_zero q).symm
  | r :: rs => by
    show sumR (q + r) rs = q + sumR (0 + r) rs
    rw [sumR_acc (q + r), sumR_acc (0 + r), Rat.zero_add, Rat.add_assoc]
theorem sumR_cons (r : Rat) (rs : List Rat) : sumR 0 (r :: rs) = r + sumR 0 rs := by
  show sumR (0 + r) rs = _
  rw [sumR_acc, Rat.zero_add]
theorem sumR_app (rs ss : List Rat) : sumR 0 (rs ++ ss) = sumR 0 rs + sumR 0 ss := by
  show List.foldl _ _ _ = _
  rw [List.foldl_append]
  exact sumR_acc _ _
theorem sumR_rev : ∀ rs : List Rat, sumR 0 rs.reverse = sumR 0 rs
  | [] => rfl
  | r :: rs => by
    have z : sumR 0 [r] = r := Rat.zero_add r
    rw [List.reverse_cons, sumR_app, sumR_rev rs, z, sumR_cons, Rat.add_comm]
theorem prodR_acc (q : Rat) : ∀ rs : List Rat, prodR q rs = q * prodR 1 rs
  | [] => (Rat.mul_one q).symm
  | r :: rs => by
    show prodR (q * r) rs = q * prodR (1 * r) rs
    rw [prodR_acc (q * r), prodR_acc (1 * r), Rat.one_mul, Rat.mul_assoc]
theorem prodR_cons (r : Rat) (rs : List Rat) : prodR 1 (r :: rs) = r * prodR 1 rs := by
  show prodR (1 * r) rs = _
  rw [prodR_acc, Rat.one_mul]
theorem prodR_app (rs ss : List Rat) : prodR 1 (rs ++ ss) = prodR 1 rs * prodR 1 ss := by
  show List.foldl _ _ _ = _
  rw [List.foldl_append]
  exact prodR_acc _ _
theorem prodR_rev : ∀ rs : List Rat, prodR 1 rs.reverse = prodR 1 rs
  | [] => rfl
  | r :: rs => by
    have z : prodR 1 [r] = r := Rat.one_mul r
    rw [List.reverse_cons, prodR_app, prodR_rev rs, z, prodR_cons, Rat.mul_comm]
theorem sumR_sz {k : Nat} : ∀ (rs : List Rat) (a : Nat) (q : Rat), sz a q → (∀ r ∈ rs, sz k r) → sz (a + (k + 1) * rs.length) (sumR q rs)
  | [], a, q, h, _ => h
  | r :: rs, a, q, h, hr => by
    have z := sumR_sz rs (a + k + 1) (q + r) (add_sz h (hr r List.mem_cons_self)) fun x hx => hr x (List.mem_cons_of_mem _ hx)
    refine sz_mono z ?_
    rw [List.length_cons, Nat.mul_add]
    omega
theorem prodR_sz {k : Nat} : ∀ (rs : List Rat) (a : Nat) (q : Rat), sz a q → (∀ r ∈ rs, sz k r) → sz (a + k * rs.length) (prodR q rs)
  | [], a, q, h, _ => h
  | r :: rs, a, q, h, hr => by
    have z := prodR_sz rs (a + k) (q * r) (mul_sz h (hr r List.mem_cons_self)) fun x hx => hr x (List.mem_cons_of_mem _ hx)
    refine sz_mono z ?_
    rw [List.length_cons, Nat.mul_add]
    omega
section
variable {G : Pg} {I : Ix}
/-- the sum of two -/
theorem add2_ok (h : HFr G I) (h2 : G.fns[I.f_add_all]? = some (1, 4, b_add_all I)) (n : Nat) (q r : Rat) (a k : Nat) (hq : sz a q) (hr : sz k r) (hk : a + k ≤ 7900) (ha : a ≤ 7900) :
    PD.call G (n + 1 + 2) I.f_add_all [.d (.lst [fr q, fr r])] [] = .ok (.d (fr (q + r))) [] := by
  rw [call_at h2]
  have s1 := ad_step h n [] (p := (q, true)) sz0 hq (by omega) (some (.d (.lst [fr q, fr r]))) none
  have s2 := ad_step h n [] (p := (r, true)) (add_sz sz0 hq) hr (by omega) (some (.d (.lst [fr q, fr r]))) (some (.d (fr q)))
  have e2 : b_add_all I = [.asg (.n 1) (.c (.int (0))), .asg (.n 2) (.c (.int (1))), .for_ (.n 3) .seq [.v 0] (adB I), .ret (.tup [.v 1, .v 2])] := rfl
  simp only [runB, e2]
  have s1 : forB G (PD.call G (n + 2)) (.n 3) (adB I) (fr q) [some (.d (.lst [fr q, fr r])), some (.d (.int 0)), some (.d (.int 1)), none] [] = _ := s1
  have s2 : forB G (PD.call G (n + 2)) (.n 3) (adB I) (fr r) [some (.d (.lst [fr q, fr r])), some (.d (.int (0 + q).num)), some (.d (.int (0 + q).den)), some (.d (fr q))] [] = _ := s2
  have e : forL (forB G (PD.call G (n + 2)) (.n 3) (adB I)) [fr q, fr r] [some (.d (.lst [fr q, fr r])), some (.d (.int 0)), some (.d (.int 1)), none] [] = .ok .nx [some (.d (.lst [fr q, fr r])), some (.d (.int (0 + q + r).num)), some (.d (.int (0 + q + r).den)), some (.d (fr r))] [] := by
    rw [forL_c, s1]
    show forL _ [fr r] [_, some (.d (.int (0 + q).num)), some (.d (.int (0 + q).den)), some (.d (fr q))] [] = _
    rw [forL_c, s2]
    rfl
  rw [Rat.zero_add] at e
  simp [e, fr]
  simp [fr] at e
  simp [e]
/-- the product of two -/
theorem times2_ok (h : HFr G I) (h2 : G.fns[I.f_times_all]? = some (1, 4, b_times_all I)) (n : Nat) (q r : Rat) (a k : Nat) (hq : sz a q) (hr : sz k r) (hk : a + k ≤ 7900) (ha : a ≤ 7900) :
    PD.call G (n + 1 + 2) I.f_times_all [.d (.lst [fr q, fr r])] [] = .ok (.d (fr (q * r))) [] := by
  rw [call_at h2]
  have s1 := tm_step h n [] (p := (q, true)) sz1 hq (by omega) (some (.d (.lst [fr q, fr r]))) none
  have s2 := tm_step h n [] (p := (r, true)) (mul_sz sz1 hq) hr (by omega) (some (.d (.lst [fr q, fr r]))) (some (.d (fr q)))
  have e2 : b_times_all I = [.asg (.n 1) (.c (.int (1))), .asg (.n 2) (.c (.int (1))), .for_ (.n 3) .seq [.v 0] (tmB I), .ret (.tup [.v 1, .v 2])] := rfl
  simp only [runB, e2]
  have s1 : forB G (PD.call G (n + 2)) (.n 3) (tmB I) (fr q) [some (.d (.lst [fr q, fr r])), some (.d (.int 1)), some (.d (.int 1)), none] [] = _ := s1
  have s2 : forB G (PD.call G (n + 2)) (.n 3) (tmB I) (fr r) [some (.d (.lst [fr q, fr r])), some (.d (.int (1 * q).num)), some (.d (.int (1 * q).den)), some (.d (fr q))] [] = _ := s2
  have e : forL (forB G (PD.call G (n + 2)) (.n 3) (tmB I)) [fr q, fr r] [some (.d (.lst [fr q, fr r])), some (.d (.int 1)), some (.d (.int 1)), none] [] = .ok .nx [some (.d (.lst [fr q, fr r])), some (.d (.int (1 * q * r).num)), some (.d (.int (1 * q * r).den)), some (.d (fr r))] [] := by
    rw [forL_c, s1]
    show forL _ [fr r] [_, some (.d (.int (1 * q).num)), some (.d (.int (1 * q).den)), some (.d (fr q))] [] = _
    rw [forL_c, s2]
    rfl
  rw [Rat.one_mul] at e
  simp [e, fr]
  simp [fr] at e
  simp [e]
/-- lists of fractions, written as tuples, as lists -/
theorem frs_items (qs : List Rat) : items .seq [.lst (qs.map fr)] = some ((qs.map fun q => (q, true)).map frp) := by
  show some (qs.map fr) = _
  rw [List.map_map]
  rfl
theorem lfs_items (qs : List Rat) : items .seq [.lst (qs.map lf)] = some ((qs.map fun q => (q, false)).map frp) := by
  show some (qs.map lf) = _
  rw [List.map_map]
  rfl
theorem fst_map (qs : List Rat) (b : Bool) : (qs.map fun q => (q, b)).map (·.1) = qs := by
  rw [List.map_map]
  exact List.map_id _
theorem sz_map {k : Nat} {qs : List Rat} (h : ∀ q ∈ qs, sz k q) (b : Bool) : ∀ p ∈ (qs.map fun q => (q, b)), sz k p.1 := fun p hp => by
  obtain ⟨q, hq, rfl⟩ := List.mem_map.mp hp
  exact h q hq
theorem add_frs (h : HFr G I) (h2 : G.fns[I.f_add_all]? = some (1, 4, b_add_all I)) (n : Nat) (qs : List Rat) (k : Nat) (hs : ∀ q ∈ qs, sz k q) (hk : (k + 1) * qs.length ≤ 7900) : PD.call G (n + 1 + 2) I.f_add_all [.d (.lst (qs.map fr))] [] = .ok (.d (fr (sumR 0 qs))) [] := by
  have z := add_all_ok h h2 n _ _ (frs_items qs) k (sz_map hs true) (by rw [List.length_map]; exact hk)
  rw [fst_map] at z
  exact z
theorem add_lfs (h : HFr G I) (h2 : G.fns[I.f_add_all]? = some (1, 4, b_add_all I)) (n : Nat) (qs : List Rat) (k : Nat) (hs : ∀ q ∈ qs, sz k q) (hk : (k + 1) * qs.length ≤ 7900) : PD.call G (n + 1 + 2) I.f_add_all [.d (.lst (qs.map lf))] [] = .ok (.d (fr (sumR 0 qs))) [] := by
  have z := add_all_ok h h2 n _ _ (lfs_items qs) k (sz_map hs false) (by rw [List.length_map]; exact hk)
  rw [fst_map] at z
  exact z
theorem times_frs (h : HFr G I) (h2 : G.fns[I.f_times_all]? = some (1, 4, b_times_all I)) (n : Nat) (qs : List Rat) (k : Nat) (hs : ∀ q ∈ qs, sz k q) (hk : k * qs.length ≤ 7900) : PD.call G (n + 1 + 2) I.f_times_all [.d (.lst (qs.map fr))] [] = .ok (.d (fr (prodR 1 qs))) [] := by
  have z := times_all_ok h h2 n _ _ (frs_items qs) k (sz_map hs true) (by rw [List.length_map]; exact hk)
  rw [fst_map] at z
  exact z
theorem times_lfs (h : HFr G I) (h2 : G.fns[I.f_times_all]? = some (1, 4, b_times_all I)) (n : Nat) (qs : List Rat) (k : Nat) (hs : ∀ q ∈ qs, sz k q) (hk : k * qs.length ≤ 7900) : PD.call G (n + 1 + 2) I.f_times_all [.d (.lst (qs.map lf))] [] = .ok (.d (fr (prodR 1 qs))) [] := by
  have z := times_all_ok h h2 n _ _ (lfs_items qs) k (sz_map hs false) (by rw [List.length_map]; exact hk)
  rw [fst_map] at z
  exact z
end
end PL
set_option Elab.async false
set_option linter.all false
set_option maxRecDepth 100000
set_option maxHeartbeats 4000000
set_option exponentiation.threshold 300
/-! PL5: differences, quotients, comparisons. -/
namespace PL
open PySem PySem.Spec PyProof.Rows L2 PD
theorem sub_eq (q r : Rat) : Rat.divInt (q.num * r.den - r.num * q.den) (q.den * r.den) = q - r := by
  rw [← Rat.divInt_sub_divInt _ _ (den_ne q) (den_ne r), Rat.num_divInt_den, Rat.num_divInt_den]
theorem div_eq (q r : Rat) : Rat.divInt (q.num * r.den) (q.den * r.num) = q / r := by
  rw [← Rat.divInt_mul_divInt, Rat.num_divInt_den, Rat.div_def, Rat.inv_def]
theorem sub_sz {q r : Rat} {a k : Nat} (hq : sz a q) (hr : sz k r) : sz (a + k + 1) (q - r) := by
  rw [← sub_eq]
  refine divInt_sz (den_mul_ne q r) ?_ ?_
  · rw [Int.sub_eq_add_neg]
    refine add_abs_lt (mul_abs_lt hq.1 (nat_abs hr.2)) ?_
    rw [Int.natAbs_neg, Nat.add_comm]
    exact mul_abs_lt hr.1 (nat_abs hq.2)
  · exact up (mul_abs_lt (nat_abs hq.2) (nat_abs hr.2)) (by omega)
theorem num_ne {r : Rat} (h : r ≠ 0) : r.num ≠ 0 := fun z => h (Rat.num_eq_zero.mp z)
theorem div_sz {q r : Rat} {a k : Nat} (h : r ≠ 0) (hq : sz a q) (hr : sz k r) : sz (a + k) (q / r) := by
  rw [← div_eq]
  exact divInt_sz (Int.mul_ne_zero (den_ne q) (num_ne h)) (mul_abs_lt hq.1 (nat_abs hr.2)) (mul_abs_lt (nat_abs hq.2) hr.1)
theorem lt_dec (q r : Rat) : decide (q.num * (r.den : Int) < r.num * (q.den : Int)) = decide (q < r) := by
  rw [decide_eq_decide]
  exact (Rat.lt_iff q r).symm
section
variable {G : Pg} {I : Ix}
theorem take_off_ok (h : HFr G I) (h2 : G.fns[I.f_take_off]? = some (2, 2, b_take_off I)) (n : Nat) (p p' : Rat × Bool) (a k : Nat) (hq : sz a p.1) (hr : sz k p'.1) (hk : a + k ≤ 7900) :
    PD.call G (n + 1 + 2) I.f_take_off [.d (frp p), .d (frp p')] [] = .ok (.d (fr (p.1 - p'.1))) [] := by
  rw [call_at h2]
  obtain ⟨i0, i1⟩ := frp_ix p
  obtain ⟨j0, j1⟩ := frp_ix p'
  have m1 := a_mul hq.1 (nat_abs hr.2)
  have m2 := a_mul hr.1 (nat_abs hq.2)
  have m3 := a_mul (nat_abs hq.2) (nat_abs hr.2)
  have F := callW2 (cs := []) (fraction_ok h n (p.1.num * p'.1.den - p'.1.num * p.1.den) (p.1.den * p'.1.den) (den_mul_ne p.1 p'.1) (up (mul_abs_lt (nat_abs hq.2) (nat_abs hr.2)) (by omega)))
  rw [sub_eq] at F
  simp [runB, b_take_off, opR, sem2, mulD, arD, i0, i1, j0, j1, m1, m2, m3, F]
theorem is_below_ok (h2 : G.fns[I.f_is_below]? = some (2, 2, b_is_below)) (n : Nat) (p p' : Rat × Bool) (a k : Nat) (hq : sz a p.1) (hr : sz k p'.1) (hk : a + k ≤ 7900) :
    PD.call G (n + 1) I.f_is_below [.d (frp p), .d (frp p')] [] = .ok (.d (.bl (decide (p.1 < p'.1)))) [] := by
  rw [call_at h2]
  obtain ⟨i0, i1⟩ := frp_ix p
  obtain ⟨j0, j1⟩ := frp_ix p'
  have m1 := a_mul hq.1 (nat_abs hr.2)
  have m2 := a_mul hr.1 (nat_abs hq.2)
  have e := lt_dec p.1 p'.1
  simp [runB, b_is_below, opR, sem2, mulD, ltD, i0, i1, j0, j1, m1, m2]
  rw [Rat.lt_iff]
theorem share_by_ok (h : HFr G I) (h2 : G.fns[I.f_share_by]? = some (2, 2, b_share_by I)) (n : Nat) (p p' : Rat × Bool) (a k : Nat) (hq : sz a p.1) (hr : sz k p'.1) (hk : a + k ≤ 7900) (h0 : p'.1 ≠ 0) :
    PD.call G (n + 1 + 2) I.f_share_by [.d (frp p), .d (frp p')] [] = .ok (.d (fr (p.1 / p'.1))) [] := by
  rw [call_at h2]
  obtain ⟨i0, i1⟩ := frp_ix p
  obtain ⟨j0, j1⟩ := frp_ix p'
  have m1 := a_mul hq.1 (nat_abs hr.2)
  have m3 := a_mul (nat_abs hq.2) hr.1
  have n0 := num_ne h0
  have F := callW2 (cs := []) (fraction_ok h n (p.1.num * p'.1.den) (p.1.den * p'.1.num) (Int.mul_ne_zero (den_ne p.1) n0) (up (mul_abs_lt (nat_abs hq.2) hr.1) (by omega)))
  rw [div_eq] at F
  have e0 : (p'.1.num == 0) = false := beq_eq_false_iff_ne.mpr n0
  simp [runB, b_share_by, opR, sem2, mulD, i0, i1, j0, j1, m1, m3, F, plain_int, eqD_int, e0]
theorem share_by_zero (h2 : G.fns[I.f_share_by]? = some (2, 2, b_share_by I)) (n : Nat) (p p' : Rat × Bool) (h0 : p'.1 = 0) :
    PD.call G (n + 1) I.f_share_by [.d (frp p), .d (frp p')] [] = .ex I.c_NoFraction [] [] [] := by
  rw [call_at h2]
  obtain ⟨j0, j1⟩ := frp_ix p'
  rw [h0] at j0
  have j0 : ixD (frp p') (.int 0) = some (.int 0) := j0
  simp [runB, b_share_by, opR, sem2, j0, plain_int, eqD_int]
end
end PL
set_option Elab.async false
set_option linter.all false
set_option maxRecDepth 100000
set_option maxHeartbeats 4000000
set_option exponentiation.threshold 300
/-! PL6: shares, of anything. -/
namespace PL
open PySem PySem.Spec PyProof.Rows L2 PD
/-! data of the built-in kinds, numbers bounded -/
mutual
def gd (k : Nat) : D → Prop
  | .non => True
  | .bl _ => True
  | .int i => i.natAbs < 2 ^ k
  | .str _ => True
  | .tup xs => gds k xs
  | .lst xs => gds k xs
  | .dct ks _ => ks = []
  | .obj _ _ _ => False
  | .exc _ _ _ => False
def gds (k : Nat) : List D → Prop
  | [] => True
  | d :: ds => gd k d ∧ gds k ds
end
theorem gds_iff {k : Nat} : ∀ {ds : List D}, gds k ds ↔ ∀ d ∈ ds, gd k d
  | [] => Iff.intro (fun _ d h => absurd h List.not_mem_nil) (fun _ => trivial)
  | d :: ds => by
    constructor
    · intro h x hx
      rcases List.mem_cons.mp hx with rfl | hx
      · exact h.1
      · exact gds_iff.mp h.2 x hx
    · exact fun h => ⟨h d List.mem_cons_self, gds_iff.mpr fun x hx => h x (List.mem_cons_of_mem _ hx)⟩
theorem gd_tag {k : Nat} {d : D} (h : gd k d) : ∃ g, tagB d = some g := by
  cases d <;> first | exact ⟨_, rfl⟩ | exact absurd h id
def isInt : D → Bool
  | .int _ => true
  | _ => false
def isPart : D → Bool
  | .tup [.int t, .int b] => decide (0 < t) && (decide (0 < b) && (((Rat.divInt t b).num == t) && (((Rat.divInt t b).den : Int) == b)))
  | _ => false
def partQ : D → Rat
  | .tup [.int t, .int b] => Rat.divInt t b
  | _ => 0
def areShares : D → Bool
  | .tup xs => decide (1 ≤ xs.length ∧ xs.length ≤ 6) && (xs.all isPart && decide (sumR 0 (xs.map partQ) = 1))
  | _ => false
theorem isPart_fr (q : Rat) : isPart (fr q) = decide (0 < q) := by
  show (decide (0 < q.num) && (decide (0 < (q.den : Int)) && (((Rat.divInt q.num q.den).num == q.num) && (((Rat.divInt q.num q.den).den : Int) == (q.den : Int))))) = _
  have h := q.den_nz
  rw [Rat.num_divInt_den, decide_eq_true (by omega : 0 < (q.den : Int))]
  have e : decide (0 < q.num) = decide (0 < q) := decide_eq_decide.mpr (by rw [Rat.lt_iff]; simp)
  rw [e]
  simp
theorem partQ_fr (q : Rat) : partQ (fr q) = q := Rat.num_divInt_den q
theorem isPart_of {d : D} (h : isPart d = true) : ∃ q : Rat, 0 < q ∧ d = fr q := by
  unfold isPart at h
  split at h
  · rename_i t b
    simp only [Bool.and_eq_true, decide_eq_true_eq, beq_iff_eq] at h
    obtain ⟨h1, h2, h3, h4⟩ := h
    refine ⟨Rat.divInt t b, ?_, ?_⟩
    · rw [Rat.lt_iff]
      simp
      omega
    · unfold fr
      rw [h3, h4]
  · cases h
theorem all_parts : ∀ {xs : List D}, xs.all isPart = true → ∃ qs : List Rat, xs = qs.map fr ∧ ∀ q ∈ qs, 0 < q
  | [], _ => ⟨[], rfl, fun _ h => nomatch h⟩
  | x :: xs, h => by
    rw [List.all_cons, Bool.and_eq_true] at h
    obtain ⟨q, h1, rfl⟩ := isPart_of h.1
    obtain ⟨qs, rfl, h2⟩ := all_parts h.2
    refine ⟨q :: qs, rfl, fun r hr => ?_⟩
    rcases List.mem_cons.mp hr with rfl | hr
    · exact h1
    · exact h2 r hr
theorem parts_all {qs : List Rat} (h : ∀ q ∈ qs, 0 < q) : (qs.map fr).all isPart = true := by
  rw [List.all_eq_true]
  intro d hd
  obtain ⟨q, hq, rfl⟩ := List.mem_map.mp hd
  rw [isPart_fr]
  exact decide_eq_true (h q hq)
theorem partQs (qs : List Rat) : (qs.map fr).map partQ = qs := by
  rw [List.map_map]
  have : partQ ∘ fr = id := funext partQ_fr
  rw [this, List.map_id]
theorem areShares_frs {qs : List Rat} (h : ∀ q ∈ qs, 0 < q) : areShares (.tup (qs.map fr)) = (decide (1 ≤ qs.length ∧ qs.length ≤ 6) && decide (sumR 0 qs = 1)) := by
  show (decide (1 ≤ (qs.map fr).length ∧ (qs.map fr).length ≤ 6) && ((qs.map fr).all isPart && decide (sumR 0 ((qs.map fr).map partQ) = 1))) = _
  rw [parts_all h, partQs, List.length_map, Bool.true_and]
theorem divInt_pos {p T : Int} (hp : 0 < p) (hT : 0 < T) : 0 < Rat.divInt p T := by
  refine Rat.lt_of_le_of_ne ((Rat.divInt_nonneg_iff_of_pos_right hT).mpr (by omega)) fun z => ?_
  have e : Rat.divInt 0 T = Rat.divInt p T := by rw [Rat.zero_divInt]; exact z
  have := (Rat.divInt_eq_divInt_iff (by omega) (by omega)).mp e
  rw [Int.zero_mul] at this
  have := Int.mul_pos hp hT
  omega
section
variable {G : Pg} {I : Ix}
/-- the shares' defs stand in the program -/
structure HSh (G : Pg) (I : Ix) : Prop where
  fr : HFr G I
  t : HT G
  add : G.fns[I.f_add_all]? = some (1, 4, b_add_all I)
  whole : G.fns[I.f_is_whole]? = some (1, 1, b_is_whole)
  part : G.fns[I.f_is_part]? = some (1, 2, b_is_part I)
  are : G.fns[I.f_are_shares]? = some (1, 2, b_are_shares I)
  most : G.csts[I.k_MOST_SHARES]? = some (.int 6)
theorem is_whole_ok (h : HSh G I) (n : Nat) {d : D} {g : Nat} (hd : tagB d = some g) : PD.call G (n + 1) I.f_is_whole [.d d] [] = .ok (.d (.bl (isInt d))) [] := by
  rw [call_at h.whole]
  have i0 := h.t.one hd (a := 0) (by decide)
  have i1 := h.t.one hd (a := 1) (by decide)
  cases d <;> simp only [tagB, Option.some.injEq, reduceCtorEq] at hd <;> subst hd <;> simp [runB, b_is_whole, opR, sem1, i0, i1, isInt]
theorem fr_eqD (q : Rat) (t b : Int) : eqD (fr q) (.tup [.int t, .int b]) = ((q.num == t) && ((q.den : Int) == b)) := by
  show ((q.num == t) && (((q.den : Int) == b) && true)) = _
  rw [Bool.and_true]
theorem is_part_ok (h : HSh G I) (n k : Nat) (hk : k ≤ 7900) {d : D} (hd : gd k d) : PD.call G (n + 3) I.f_is_part [.d d] [] = .ok (.d (.bl (isPart d))) [] := by
  rw [call_at h.part]
  obtain ⟨g, hg⟩ := gd_tag hd
  have i3 := h.t.one hg (a := 3) (by decide)
  by_cases hx : ∃ xs, d = .tup xs
  · obtain ⟨xs, rfl⟩ := hx
    cases hg
    by_cases hl : xs.length = 2
    · match xs, hl with
      | [x, y], _ =>
        obtain ⟨hx, hy, _⟩ := hd
        obtain ⟨gx, ex⟩ := gd_tag hx
        obtain ⟨gy, ey⟩ := gd_tag hy
        have W1 := callW1 (cs := []) (is_whole_ok h (n + 1) ex)
        have W2 := callW1 (cs := []) (is_whole_ok h (n + 1) ey)
        by_cases hb : isInt x = true ∧ isInt y = true
        · obtain ⟨t, rfl⟩ : ∃ t, x = .int t := by cases x <;> first | exact ⟨_, rfl⟩ | cases hb.1
          obtain ⟨b, rfl⟩ : ∃ t, y = .int t := by cases y <;> first | exact ⟨_, rfl⟩ | cases hb.2
          have hb2 : b.natAbs < 2 ^ k := hy
          by_cases h1 : 0 < t
          · by_cases h2 : 0 < b
            · have F := callW2 (cs := []) (fraction_ok h.fr n t b (by omega) (up hb2 (by omega)))
              have pf := pl_ok (pl_fr (Rat.divInt t b))
              have pt : plainD (.tup [.int t, .int b]) = true := rfl
              have e := fr_eqD (Rat.divInt t b) t b
              simp [runB, b_is_part, cF, opR, sem1, sem2, arD, lenD, allD, isBls, i3, W1, W2, isInt, plain_int, eqD_int, h1, h2, F, pf, pt, e, isPart]
            · simp [runB, b_is_part, cF, opR, sem1, sem2, arD, lenD, allD, isBls, i3, W1, W2, isInt, plain_int, eqD_int, h1, h2, isPart]
          · simp [runB, b_is_part, cF, opR, sem1, sem2, arD, lenD, allD, isBls, i3, W1, W2, isInt, plain_int, eqD_int, h1, isPart]
        · have hp : isPart (.tup [x, y]) = false := by
            cases x <;> first | rfl | (cases y <;> first | rfl | exact absurd ⟨rfl, rfl⟩ hb)
          have hb' : (isInt x && isInt y) = false := by
            cases hx : isInt x <;> cases hy : isInt y <;> first | rfl | exact absurd ⟨hx, hy⟩ hb
          simp [runB, b_is_part, cF, opR, sem1, sem2, lenD, allD, isBls, i3, W1, W2, plain_int, eqD_int, hp, hb']
    · have hp : isPart (.tup xs) = false := by
        unfold isPart
        split
        · rename_i e; cases e; exact absurd rfl hl
        · rfl
      have he : ((xs.length : Int) == 2) = false := beq_eq_false_iff_ne.mpr (by omega)
      simp [runB, b_is_part, opR, sem1, sem2, lenD, i3, plain_int, eqD_int, hp, he]
  · have hp : isPart d = false := by
      cases d <;> first | rfl | exact absurd ⟨_, rfl⟩ hx
    have hg3 : (decide (g = 3) || (decide (g = 1) && decide (3 = 0))) = false := by
      cases d <;> first | (cases hg; done) | (cases hg; rfl) | exact absurd ⟨_, rfl⟩ hx
    rw [hg3] at i3
    simp [runB, b_is_part, opR, sem1, i3, hp]
theorem parts_list : ∀ xs : List D, isBls (xs.map fun d => .bl (isPart d)) = some (xs.map isPart)
  | [] => rfl
  | x :: xs => by
    show (isBls (xs.map fun d => .bl (isPart d))).map _ = _
    rw [parts_list xs]
    rfl
theorem sz_gd {k : Nat} {q : Rat} (h : gd k (fr q)) : sz k q := ⟨h.1, by have := h.2.1; simpa [gd] using this⟩
theorem are_shares_ok (h : HSh G I) (n k : Nat) (hk : (k + 1) * 6 ≤ 7900) {d : D} (hd : gd k d) : PD.call G (n + 4) I.f_are_shares [.d d] [] = .ok (.d (.bl (areShares d))) [] := by
  rw [call_at h.are]
  obtain ⟨g, hg⟩ := gd_tag hd
  have i3 := h.t.one hg (a := 3) (by decide)
  by_cases hx : ∃ xs, d = .tup xs
  · obtain ⟨xs, rfl⟩ := hx
    cases hg
    have hs : ∀ x ∈ xs, gd k x := gds_iff.mp hd
    by_cases h1 : 1 ≤ xs.length
    · have d1 : decide ((1 : Int) ≤ xs.length) = true := decide_eq_true (by omega)
      by_cases h6 : xs.length ≤ 6
      · have d6 : decide ((xs.length : Int) ≤ 6) = true := decide_eq_true (by omega)
        have CL : compL (cF G (PD.call G (n + 3)) [some (.d (.tup xs)), none] [1] (.n 1) [] (.call I.f_is_part [.v 1])) xs [] [] = .ok ([] ++ xs.map fun d => .bl (isPart d)) [] := compL_map fun x hx => by
          have P := callW1 (cs := []) (is_part_ok h n k (by omega) (hs x hx))
          simp [cF, P]
        have al : allD (.lst (xs.map fun d => .bl (isPart d))) = some (.bl (xs.all isPart)) := by
          show (isBls _).map _ = _
          rw [parts_list]
          simp
        rw [List.nil_append] at CL
        cases ha : xs.all isPart with
        | false =>
          rw [ha] at al
          have hr : areShares (.tup xs) = false := by
            show (_ && (xs.all isPart && _)) = false
            rw [ha]; simp
          simp [runB, b_are_shares, opR, sem1, sem2, arD, lenD, i3, h.most, d1, d6, CL, al, hr]
        | true =>
          rw [ha] at al
          obtain ⟨qs, rfl, hq⟩ := all_parts ha
          have hz : ∀ q ∈ qs, sz k q := fun q hq => sz_gd (hs _ (List.mem_map.mpr ⟨q, hq, rfl⟩))
          have A := callW1 (cs := []) (add_all_ok h.fr h.add n (.tup (qs.map fr)) (qs.map fun q => (q, true)) (by
            show some (qs.map fr) = _
            rw [List.map_map]; rfl) k (sz_map hz true) (by rw [List.length_map]; rw [List.length_map] at h6; exact Nat.le_trans (Nat.mul_le_mul_left _ h6) hk))
          rw [fst_map] at A
          have hr : areShares (.tup (qs.map fr)) = decide (sumR 0 qs = 1) := by
            rw [areShares_frs hq]
            rw [List.length_map] at h1 h6
            rw [decide_eq_true ⟨h1, h6⟩, Bool.true_and]
          have e : eqD (fr (sumR 0 qs)) (.tup [.int 1, .int 1]) = decide (sumR 0 qs = 1) := eq_fr _ 1
          have pf := pl_ok (pl_fr (sumR 0 qs))
          have p1 : plainD (.tup [.int 1, .int 1]) = true := rfl
          generalize qs.map fr = xs at *
          simp [runB, b_are_shares, opR, sem1, sem2, arD, lenD, i3, h.most, d1, d6, CL, al, A, e, pf, p1, hr]
      · have hr : areShares (.tup xs) = false := by
          show (decide (1 ≤ xs.length ∧ xs.length ≤ 6) && _) = false
          rw [decide_eq_false (fun z => h6 z.2)]; rfl
        have d6 : decide ((xs.length : Int) ≤ 6) = false := decide_eq_false (by omega)
        simp [runB, b_are_shares, opR, sem1, sem2, arD, lenD, i3, h.most, d1, d6, hr]
    · have hr : areShares (.tup xs) = false := by
        show (decide (1 ≤ xs.length ∧ xs.length ≤ 6) && _) = false
        rw [decide_eq_false (fun z => h1 z.1)]; rfl
      have h0 : xs = [] := List.length_eq_zero_iff.mp (by omega)
      subst h0
      simp [runB, b_are_shares, opR, sem1, sem2, arD, lenD, i3, h.most, hr]
  · have hp : areShares d = false := by
      cases d <;> first | rfl | exact absurd ⟨_, rfl⟩ hx
    have hg3 : (decide (g = 3) || (decide (g = 1) && decide (3 = 0))) = false := by
      cases d <;> first | (cases hg; done) | (cases hg; rfl) | exact absurd ⟨_, rfl⟩ hx
    rw [hg3] at i3
    simp [runB, b_are_shares, opR, sem1, i3, hp]
end
end PL
set_option Elab.async false
set_option linter.all false
set_option maxRecDepth 100000
set_option maxHeartbeats 4000000
set_option exponentiation.threshold 300
/-! PT1: texts as lists of signs. -/
namespace PL
open PySem PySem.Spec PyProof.Rows L2 PD
def L (x : Str) : List Nat := x.cps.toList
def mk (l : List Nat) : Str := ⟨l.toArray⟩
@[simp] theorem L_mk (l : List Nat) : L (mk l) = l := rfl
@[simp] theorem mk_L (x : Str) : mk (L x) = x := by
  unfold mk L
  rw [Array.toArray_toList]
theorem L_inj {x y : Str} (h : L x = L y) : x = y := by rw [← mk_L x, ← mk_L y, h]
theorem L_app (x y : Str) : L (x ++ y) = L x ++ L y := by
  unfold L
  rw [Str.cps_append, Array.toList_append]
theorem len_L (x : Str) : x.length = (L x).length := by
  unfold L Str.length
  rw [Array.length_toList]
@[simp] theorem len_mk (l : List Nat) : (mk l).length = l.length := len_L _
theorem mk_app (a b : List Nat) : mk a ++ mk b = mk (a ++ b) := L_inj (by rw [L_app]; rfl)
theorem mk_inj {a b : List Nat} (h : mk a = mk b) : a = b := congrArg L h
theorem eq_str (x y : Str) : eqD (.str x) (.str y) = decide (L x = L y) := by
  show (x == y) = _
  by_cases h : L x = L y
  · rw [decide_eq_true h, L_inj h, beq_self_eq_true]
  · rw [decide_eq_false h]
    exact beq_eq_false_iff_ne.mpr fun z => h (by rw [z])
theorem plain_str (x : Str) : plainD (.str x) = true := rfl
/-- a sign in a text -/
theorem in_one (c : Nat) (y : Str) : inD (.str ⟨#[c]⟩) (.str y) = some (decide (c ∈ L y)) := by
  show some (!(Builtin.Str.occurrences y ⟨#[c]⟩ 0 y.length 1).isEmpty) = _
  congr 1
  have h := StrLaws.found_iff y ⟨#[c]⟩
  by_cases hm : c ∈ L y
  · rw [decide_eq_true hm]
    obtain ⟨i, hi⟩ := List.getElem?_of_mem hm
    exact h.mpr ⟨i, (StrLaws.subAt_one y c i).mpr hi⟩
  · rw [decide_eq_false hm]
    rw [Bool.eq_false_iff]
    intro z
    obtain ⟨i, hi⟩ := h.mp z
    exact hm (List.mem_of_getElem? ((StrLaws.subAt_one y c i).mp hi))
theorem starts_one (x : Str) (c : Nat) : Txt.startswith x ⟨#[c]⟩ = decide ((L x).head? = some c) := by
  unfold Txt.startswith
  have h := StrLaws.subAt_one x c 0
  have e : (L x)[0]? = (L x).head? := by cases L x <;> rfl
  have h : (0 + (⟨#[c]⟩ : Str).length ≤ x.length ∧ Builtin.Str.subAt x ⟨#[c]⟩ 0 = true) ↔ (L x).head? = some c := by rw [← e]; exact h
  by_cases z : (L x).head? = some c
  · rw [decide_eq_true z]
    obtain ⟨h1, h2⟩ := h.mpr z
    rw [decide_eq_true h1, h2]; rfl
  · rw [decide_eq_false z, Bool.eq_false_iff]
    intro y
    rw [Bool.and_eq_true, decide_eq_true_eq] at y
    exact z (h.mp y)
/-- x.partition(c) -/
theorem part_one (x : Str) (c : Nat) : Txt.partition x ⟨#[c]⟩ = if c ∈ L x then (mk ((L x).takeWhile (· != c)), ⟨#[c]⟩, mk (((L x).dropWhile (· != c)).drop 1)) else (x, Str.empty, Str.empty) := by
  unfold Txt.partition
  rcases StrLaws.occ_head x ⟨#[c]⟩ 1 (Nat.le_refl 1) with ⟨h0, hn⟩ | ⟨i, r, h0, hi, hn⟩
  · have hm : c ∉ L x := fun hm => by
      obtain ⟨j, hj⟩ := List.getElem?_of_mem hm
      exact hn j ((StrLaws.subAt_one x c j).mpr hj)
    rw [h0, if_neg hm]
  · have hm : (L x)[i]? = some c := (StrLaws.subAt_one x c i).mp hi
    have hlt : ∀ k, k < i → (L x)[k]? ≠ some c := fun k hk e => hn k hk ((StrLaws.subAt_one x c k).mpr e)
    rw [h0, if_pos (List.mem_of_getElem? hm), PyProof.Rows.dropWhile_at hm hlt]
    have tw : ∀ (l : List Nat) (i : Nat), l[i]? = some c → (∀ k, k < i → l[k]? ≠ some c) → l.takeWhile (· != c) = l.take i := fun l => by
      induction l with
      | nil => intro i h; simp at h
      | cons a l ih =>
        intro i h hk
        cases i with
        | zero =>
          have : a = c := by simpa using h
          subst this
          simp
        | succ i =>
          have ha : a ≠ c := fun z => hk 0 (by omega) (by simp [z])
          rw [List.takeWhile_cons_of_pos (by simp [ha]), List.take_succ_cons, ih i (by simpa using h) fun k hkk => by have := hk (k + 1) (by omega); simpa using this]
    rw [tw _ i hm hlt]
    have e1 : Builtin.Str.strSub x 0 i = mk ((L x).take i) := L_inj (by
      show (Builtin.Str.strSub x 0 i).cps.toList = _
      rw [StrLaws.strSub_toList, List.drop_zero, Nat.sub_zero]; rfl)
    have e2 : Builtin.Str.strSub x (i + (⟨#[c]⟩ : Str).length) x.length = mk ((L x).drop (i + 1)) := L_inj (by
      show (Builtin.Str.strSub x (i + 1) x.length).cps.toList = _
      rw [StrLaws.strSub_toList, List.take_of_length_le (by rw [List.length_drop, len_L]; exact Nat.le_refl _)]; rfl)
    show (Builtin.Str.strSub x 0 i, (⟨#[c]⟩ : Str), Builtin.Str.strSub x (i + (⟨#[c]⟩ : Str).length) x.length) = _
    rw [e1, e2]
    rfl
/-! x.split(c) -/
def spl (c : Nat) : List Nat → List (List Nat)
  | [] => [[]]
  | a :: l => if a = c then [] :: spl c l else match spl c l with
    | p :: r => (a :: p) :: r
    | [] => [[a]]
def joinL (c : Nat) : List (List Nat) → List Nat
  | [] => []
  | [p] => p
  | p :: q :: r => p ++ c :: joinL c (q :: r)
theorem spl_free (c : Nat) : ∀ p : List Nat, c ∉ p → spl c p = [p]
  | [], _ => rfl
  | a :: p, h => by
    have ha : a ≠ c := fun z => h (by rw [z]; exact List.mem_cons_self)
    show (if a = c then _ else _) = _
    rw [if_neg ha, spl_free c p fun z => h (List.mem_cons_of_mem _ z)]
theorem spl_app (c : Nat) (l : List Nat) : ∀ p : List Nat, c ∉ p → spl c (p ++ c :: l) = p :: spl c l
  | [], _ => by
    show (if c = c then _ else _) = _
    rw [if_pos rfl]
  | a :: p, h => by
    have ha : a ≠ c := fun z => h (by rw [z]; exact List.mem_cons_self)
    show (if a = c then _ else match spl c (p ++ c :: l) with | q :: r => (a :: q) :: r | [] => [[a]]) = _
    rw [if_neg ha, spl_app c l p fun z => h (List.mem_cons_of_mem _ z)]
theorem spl_join (c : Nat) : ∀ ps : List (List Nat), ps ≠ [] → (∀ p ∈ ps, c ∉ p) → spl c (joinL c ps) = ps
  | [], h, _ => absurd rfl h
  | [p], _, h => spl_free c p (h p List.mem_cons_self)
  | p :: q :: r, _, h => by
    show spl c (p ++ c :: joinL c (q :: r)) = _
    rw [spl_app c _ p (h p List.mem_cons_self), spl_join c (q :: r) (by simp) fun z hz => h z (List.mem_cons_of_mem _ hz)]
theorem join_L (c : Nat) : ∀ ps : List Str, L (Str.join ⟨#[c]⟩ ps) = joinL c (ps.map L)
  | [] => rfl
  | [p] => rfl
  | p :: q :: r => by
    show L (p ++ ⟨#[c]⟩ ++ Str.join ⟨#[c]⟩ (q :: r)) = _
    rw [L_app, L_app, join_L c (q :: r), List.append_assoc]
    rfl
theorem split_one (x : Str) (c : Nat) : Txt.split x ⟨#[c]⟩ = (spl c (L x)).map mk := by
  have h1 := StrLaws.join_split x ⟨#[c]⟩
  have h2 := StrLaws.split_free x c
  have h3 : Txt.split x ⟨#[c]⟩ ≠ [] := fun z => by
    have := PyProof.Rows.split_pos x ⟨#[c]⟩
    rw [z] at this
    simp at this
  have e : L x = joinL c ((Txt.split x ⟨#[c]⟩).map L) := by rw [← join_L, h1]
  rw [e, spl_join c _ (by simpa using h3) fun p hp => by
    obtain ⟨y, hy, rfl⟩ := List.mem_map.mp hp
    exact h2 y hy]
  rw [List.map_map]
  have : mk ∘ L = id := funext mk_L
  rw [this, List.map_id]
/-! slices -/
theorem cutS_to (x : Str) (k : Nat) : L2.cutS x none (some (k : Int)) = mk ((L x).take k) := by
  unfold L2.cutS
  rw [HT.sIx_nat, HT.sIx_none, List.drop_zero, Nat.sub_zero, len_L]
  by_cases h : k ≤ (L x).length
  · rw [Nat.min_eq_left h]; rfl
  · rw [Nat.min_eq_right (by omega)]
    show mk ((L x).take (L x).length) = _
    rw [List.take_of_length_le (Nat.le_refl _), List.take_of_length_le (by omega)]
theorem cutS_from (x : Str) (k : Nat) : L2.cutS x (some (k : Int)) none = mk ((L x).drop k) := by
  unfold L2.cutS
  rw [HT.sIx_nat, HT.sIx_none, len_L]
  by_cases h : k ≤ (L x).length
  · rw [Nat.min_eq_left h]
    show mk (((L x).drop k).take _) = _
    rw [List.take_of_length_le (by rw [List.length_drop]; exact Nat.le_refl _)]
  · rw [Nat.min_eq_right (by omega)]
    show mk (((L x).drop (L x).length).take _) = _
    rw [List.drop_of_length_le (Nat.le_refl _), List.drop_of_length_le (by omega), List.take_nil]
/-! ### numbers written -/
open NumText
def dig (n : Nat) : List Nat := if h : n < 10 then [48 + n] else dig (n / 10) ++ [48 + n % 10]
termination_by n
decreasing_by omega
theorem dig_lt {n : Nat} (h : n < 10) : dig n = [48 + n] := by rw [dig, dif_pos h]
theorem dig_ge {n : Nat} (h : 10 ≤ n) : dig n = dig (n / 10) ++ [48 + n % 10] := by rw [dig, dif_neg (by omega)]
theorem val_snoc (l : List Nat) (c : Nat) : digitsVal (l ++ [c]) = digitsVal l * 10 + (c - 48) := by
  unfold digitsVal
  rw [List.foldl_append]
  rfl
theorem head_app {l m : List Nat} (h : l ≠ []) : (l ++ m).head? = l.head? := by
  cases l with
  | nil => exact absurd rfl h
  | cons a l => rfl
theorem snoc_ind {P : List Nat → Prop} (h0 : P []) (hs : ∀ l c, P l → P (l ++ [c])) (l : List Nat) : P l := by
  have h : ∀ r : List Nat, P r.reverse := fun r => by
    induction r with
    | nil => exact h0
    | cons a r ih => rw [List.reverse_cons]; exact hs _ _ ih
  have := h l.reverse
  rwa [List.reverse_reverse] at this
theorem dig_spec : ∀ (m n : Nat), n ≤ m → digitsVal (dig n) = n ∧ AllDigits (dig n) ∧ dig n ≠ [] ∧ (10 ≤ n → (dig n).head? ≠ some 48) ∧ (0 < n → (dig n).head? ≠ some 48)
  | 0, n, h => by
    have : n = 0 := by omega
    subst this
    rw [dig_lt (by omega)]
    exact ⟨rfl, fun c hc => by cases List.mem_singleton.mp hc; omega, by simp, fun h => by omega, fun h => by omega⟩
  | m + 1, n, h => by
    by_cases h9 : n < 10
    · rw [dig_lt h9]
      refine ⟨by unfold digitsVal; simp, fun c hc => by cases List.mem_singleton.mp hc; omega, by simp, fun h => by omega, fun h => by simp; omega⟩
    · rw [dig_ge (by omega)]
      obtain ⟨h1, h2, h3, h4, h5⟩ := dig_spec m (n / 10) (by omega)
      have hh : (dig (n / 10) ++ [48 + n % 10]).head? ≠ some 48 := by
        rw [head_app h3]
        exact h5 (by omega)
      refine ⟨?_, fun c hc => ?_, by simp, fun _ => hh, fun _ => hh⟩
      · rw [val_snoc, h1]; omega
      · rcases List.mem_append.mp hc with hc | hc
        · exact h2 c hc
        · cases List.mem_singleton.mp hc; omega
theorem val_dig (n : Nat) : digitsVal (dig n) = n := (dig_spec n n (Nat.le_refl _)).1
theorem all_dig (n : Nat) : AllDigits (dig n) := (dig_spec n n (Nat.le_refl _)).2.1
theorem dig_ne (n : Nat) : dig n ≠ [] := (dig_spec n n (Nat.le_refl _)).2.2.1
theorem dig_head {n : Nat} (h : 0 < n) : (dig n).head? ≠ some 48 := (dig_spec n n (Nat.le_refl _)).2.2.2.2 h
theorem val_pos : ∀ (l : List Nat), AllDigits l → l ≠ [] → l.head? ≠ some 48 → 0 < digitsVal l := by
  refine snoc_ind (P := fun l => AllDigits l → l ≠ [] → l.head? ≠ some 48 → 0 < digitsVal l) ?_ ?_
  · exact fun _ h => absurd rfl h
  · intro l c ih ha _ hh
    rw [val_snoc]
    by_cases hl : l = []
    · subst hl
      have hc := ha c (by simp)
      have : c ≠ 48 := fun z => hh (by simp [z])
      show 0 < 0 * 10 + (c - 48)
      omega
    · have := ih (fun d hd => ha d (List.mem_append_left _ hd)) hl (by rwa [head_app hl] at hh)
      omega
theorem dig_val : ∀ (l : List Nat), AllDigits l → l ≠ [] → (l = [48] ∨ l.head? ≠ some 48) → dig (digitsVal l) = l := by
  refine snoc_ind (P := fun l => AllDigits l → l ≠ [] → (l = [48] ∨ l.head? ≠ some 48) → dig (digitsVal l) = l) ?_ ?_
  · exact fun _ h => absurd rfl h
  · intro l c ih ha _ hh
    have hc := ha c (by simp)
    rw [val_snoc]
    by_cases hl : l = []
    · subst hl
      show dig (0 * 10 + (c - 48)) = [c]
      rw [dig_lt (by omega)]
      congr 1
      omega
    · have hl2 : AllDigits l := fun d hd => ha d (List.mem_append_left _ hd)
      have hh2 : l.head? ≠ some 48 := by
        rcases hh with h | h
        · have := congrArg List.length h
          simp at this
          exact absurd this hl
        · rwa [head_app hl] at h
      have hp := val_pos l hl2 hl hh2
      rw [dig_ge (by omega)]
      have e1 : (digitsVal l * 10 + (c - 48)) / 10 = digitsVal l := by omega
      have e2 : 48 + (digitsVal l * 10 + (c - 48)) % 10 = c := by omega
      rw [e1, e2, ih hl2 hl (.inr hh2)]
theorem toDigits_dig : ∀ (m n : Nat), n ≤ m → (Nat.toDigits 10 n).map Char.toNat = dig n
  | m, n, h => by
    by_cases h9 : n < 10
    · rw [dig_lt h9, Nat.toDigits_of_lt_base h9]
      have : ∀ n, n < 10 → [n.digitChar].map Char.toNat = [48 + n] := by decide
      exact this n h9
    · match m, h with
      | 0, h => omega
      | m + 1, h =>
        rw [dig_ge (by omega), Nat.toDigits_of_base_le (by omega) (by omega), List.map_append, toDigits_dig m (n / 10) (by omega)]
        have : ∀ n, n < 10 → [n.digitChar].map Char.toNat = [48 + n] := by decide
        rw [this _ (Nat.mod_lt _ (by omega))]
theorem L_nat (n : Nat) : L (Str.ofString (Nat.repr n)) = dig n := by
  unfold L
  rw [Str.ofString_eq_toList]
  show (Nat.repr n).toList.map Char.toNat = _
  rw [Nat.toList_repr]
  exact toDigits_dig n n (Nat.le_refl _)
/-- an int, written -/
def digI (i : Int) : List Nat := if i < 0 then 45 :: dig i.natAbs else dig i.natAbs
theorem L_int (i : Int) : L (Str.ofString (toString i)) = digI i := by
  unfold digI
  cases i with
  | ofNat n =>
    rw [if_neg (by simp)]
    exact L_nat n
  | negSucc n =>
    rw [if_pos (Int.negSucc_lt_zero n)]
    have e : toString (Int.negSucc n) = "-" ++ Nat.repr (n + 1) := rfl
    rw [e]
    have : Str.ofString ("-" ++ Nat.repr (n + 1)) = Str.ofString "-" ++ Str.ofString (Nat.repr (n + 1)) := by
      apply L_inj
      rw [L_app]
      unfold L
      rw [Str.ofString_eq_toList, Str.ofString_eq_toList, Str.ofString_eq_toList]
      simp
    rw [this, L_app, L_nat]
    rfl
end PL
set_option Elab.async false
set_option linter.all false
set_option maxRecDepth 100000
set_option maxHeartbeats 4000000
set_option exponentiation.threshold 300
/-! PT2: fractions, written and read. -/
namespace PL
open PySem PySem.Spec PyProof.Rows L2 PD NumText
theorem s47 : ("/" : Str) = mk [47] := by decide +kernel
theorem s45 : ("-" : Str) = mk [45] := by decide +kernel
theorem s48 : ("0" : Str) = mk [48] := by decide +kernel
theorem s0 : ("" : Str) = mk [] := by decide +kernel
theorem sfig : ("0123456789" : Str) = mk [48, 49, 50, 51, 52, 53, 54, 55, 56, 57] := by decide +kernel
/-- a fraction, written -/
def txt (q : Rat) : List Nat := if q.den = 1 then digI q.num else digI q.num ++ 47 :: dig q.den
theorem str_int {i : Int} (h : i.natAbs < 2 ^ 1920) : strD (.int i) = some (.str (mk (digI i))) := by
  show (if i.natAbs.log2 < 1920 then some (D.str (toString i)) else none) = _
  rw [if_pos (log_lt h (by omega))]
  congr 2
  refine L_inj ?_
  rw [L_mk]
  exact L_int i
theorem dig_len : ∀ (k n : Nat), n < 10 ^ k → 0 < k → (dig n).length ≤ k
  | 0, _, _, h => absurd h (by omega)
  | k + 1, n, h, _ => by
    by_cases h9 : n < 10
    · rw [dig_lt h9]; simp
    · rw [dig_ge (by omega), List.length_append]
      have hk : 0 < k := by
        cases k with
        | zero => omega
        | succ k => omega
      have hm : n / 10 < 10 ^ k := by
        rw [Nat.pow_succ] at h
        omega
      have := dig_len k (n / 10) hm hk
      simp
      omega
theorem lt10 {n k : Nat} (h : n < 2 ^ k) : n < 10 ^ k := Nat.lt_of_lt_of_le h (Nat.pow_le_pow_left (by omega) k)
theorem digI_len {i : Int} {k : Nat} (h : i.natAbs < 2 ^ k) (hk : 0 < k) : (digI i).length ≤ k + 1 := by
  have := dig_len k i.natAbs (lt10 h) hk
  unfold digI
  split <;> simp <;> omega
section
variable {G : Pg} {I : Ix}
theorem fraction_text_ok (h : G.fns[I.f_fraction_text]? = some (1, 1, b_fraction_text)) (n : Nat) (p : Rat × Bool) (hq : sz 1900 p.1) : PD.call G (n + 1) I.f_fraction_text [.d (frp p)] [] = .ok (.d (.str (mk (txt p.1)))) [] := by
  rw [call_at h]
  obtain ⟨i0, i1⟩ := frp_ix p
  have t1 := str_int (up hq.1 (by omega : 1900 ≤ 1920))
  have t2 := str_int (up (nat_abs hq.2) (by omega : 1900 ≤ 1920))
  have d2 : digI (p.1.den : Int) = dig p.1.den := by
    unfold digI
    rw [if_neg (by omega)]; rfl
  rw [d2] at t2
  have b1 := digI_len hq.1 (by omega)
  have b2 := dig_len 1900 p.1.den (lt10 hq.2) (by omega)
  have l1 : (mk (digI p.1.num)).length + (mk [47]).length ≤ LIM := by
    rw [len_mk, len_mk]
    exact Nat.le_trans (by simp; omega : _ ≤ 2000) (by decide)
  have l2 : (mk (digI p.1.num ++ [47])).length + (mk (dig p.1.den)).length ≤ LIM := by
    rw [len_mk, len_mk, List.length_append]
    exact Nat.le_trans (by simp; omega : _ ≤ 5000) (by decide)
  have a1 := add_str l1
  have a2 := add_str l2
  rw [mk_app] at a1 a2
  by_cases hd : p.1.den = 1
  · have e : ((p.1.den : Int) == 1) = true := by rw [hd]; rfl
    simp [runB, b_fraction_text, opR, sem1, sem2, i0, i1, t1, plain_int, eqD_int, e, txt, hd]
  · have e : ((p.1.den : Int) == 1) = false := beq_eq_false_iff_ne.mpr (by omega)
    simp [runB, b_fraction_text, opR, sem1, sem2, i0, i1, t1, t2, plain_int, eqD_int, e, txt, hd, s47, a1, a2]
/-! ### numbers read -/
def isDg (c : Nat) : Bool := decide (48 ≤ c) && decide (c ≤ 57)
def isNum (l : List Nat) : Bool := decide (1 ≤ l.length) && decide (l.length ≤ 40) && l.all isDg && (decide (l = [48]) || decide (l.head? ≠ some 48))
theorem all_dg {l : List Nat} (h : l.all isDg = true) : AllDigits l := fun c hc => by
  have := List.all_eq_true.mp h c hc
  simpa [isDg] using this
theorem fig_in (c : Nat) : inD (.str (mk [c])) (.str (mk [48, 49, 50, 51, 52, 53, 54, 55, 56, 57])) = some (isDg c) := by
  refine (in_one c _).trans ?_
  congr 1
  rw [L_mk]
  unfold isDg
  rw [← Bool.decide_and, decide_eq_decide]
  simp
  omega
theorem int_str {l : List Nat} (h : l.all isDg = true) (h1 : l ≠ []) (h2 : l.length ≤ 640) : PD.intD (.str (mk l)) = some (.int (digitsVal l : Nat)) := by
  show (if (mk l).length ≤ 640 then (PySem.intText? (mk l)).map D.int else none) = _
  rw [len_mk, if_pos h2, intText_digits (x := mk l) (all_dg h) h1 (by rw [len_mk]; omega)]
  rfl
theorem isBls_map {α : Type} (f : α → Bool) : ∀ l : List α, isBls (l.map fun x => .bl (f x)) = some (l.map f)
  | [] => rfl
  | a :: l => by
    show (isBls (l.map _)).map _ = _
    rw [isBls_map f l]; rfl
/-- the read-of-numbers defs stand in the program -/
structure HNum (G : Pg) (I : Ix) : Prop where
  fn : G.fns[I.f_number_of]? = some (1, 2, b_number_of I)
  fig : G.csts[I.k_FIGURES]? = some (.str "0123456789")
  most : G.csts[I.k_MOST_FIGURES]? = some (.int 40)
theorem str_items {l : List Nat} (h : l.length ≤ LIM) : items .str [.str (mk l)] = some (l.map fun c => .str (mk [c])) := by
  show (if (mk l).length ≤ LIM then some ((mk l).cps.toList.map fun c => D.str ⟨#[c]⟩) else none) = _
  rw [len_mk, if_pos h]
  rfl
theorem len_str {l : List Nat} (h : l.length ≤ LIM) : lenD (.str (mk l)) = some (.int l.length) := by
  show (if (mk l).length ≤ LIM then some (D.int (mk l).length) else none) = _
  rw [len_mk, if_pos h]
theorem eq_mk (a b : List Nat) : eqD (.str (mk a)) (.str (mk b)) = decide (a = b) := by rw [eq_str, L_mk, L_mk]
theorem sw_mk (a : List Nat) (c : Nat) : Txt.startswith (mk a) (mk [c]) = decide (a.head? = some c) := by rw [← L_mk a]; exact starts_one (mk a) c
theorem num_ok (h : HNum G I) (n : Nat) (l : List Nat) (hl : l.length ≤ LIM) : PD.call G (n + 1) I.f_number_of [.d (.str (mk l))] [] = if isNum l = true then .ok (.d (.int (digitsVal l : Nat))) [] else .ex I.c_NoFraction [] [] [] := by
  rw [call_at h.fn]
  have g1 := h.fig
  have g2 := h.most
  rw [sfig] at g1
  have ln := len_str hl
  have si := str_items hl
  have CL : compL (cF G (PD.call G n) [some (.d (.str (mk l))), none] [1] (.n 1) [] (.op .in_ [.v 1, .g I.k_FIGURES])) (l.map fun c => .str (mk [c])) [] [] = .ok ([] ++ l.map fun c => .bl (isDg c)) [] := compL_mapA fun c _ => by
    simp [cF, opR, sem2, g1, fig_in]
  rw [List.nil_append] at CL
  have al : allD (.lst (l.map fun c => .bl (isDg c))) = some (.bl (l.all isDg)) := by
    show (isBls _).map _ = _
    rw [isBls_map]
    simp [List.all_map]
  have e1 : decide ((1 : Int) ≤ (l.length : Int)) = decide (1 ≤ l.length) := by rw [decide_eq_decide]; omega
  have e2 : decide ((l.length : Int) ≤ 40) = decide (l.length ≤ 40) := by rw [decide_eq_decide]; omega
  have pe : ∀ l, plainD (.str (mk l)) = true := fun _ => rfl
  generalize (l.map fun c => D.bl (isDg c)) = us at *
  generalize (l.map fun c => D.str (mk [c])) = vs at *
  unfold isNum
  cases h1 : decide (1 ≤ l.length) with
  | false => simp [runB, b_number_of, opR, sem1, sem2, arD, ln, g2, e1, h1, si, CL, al]
  | true =>
    cases h2 : decide (l.length ≤ 40) with
    | false => simp [runB, b_number_of, opR, sem1, sem2, arD, ln, g2, e1, h1, e2, h2, si, CL, al]
    | true =>
      cases h3 : l.all isDg with
      | false => simp [runB, b_number_of, opR, sem1, sem2, arD, ln, g2, e1, h1, e2, h2, si, CL, al, h3]
      | true =>
        have z := int_str h3 (by rintro rfl; simp at h1) (by have := of_decide_eq_true h2; omega)
        cases h4 : decide (l = [48]) with
        | true => simp [runB, b_number_of, opR, sem1, sem2, arD, ln, g2, e1, h1, e2, h2, si, CL, al, h3, s48, eq_mk, h4, pe, z]
        | false =>
          cases h5 : decide (l.head? = some 48) with
          | true =>
            have := of_decide_eq_true h5
            simp [runB, b_number_of, opR, sem1, sem2, arD, ln, g2, e1, h1, e2, h2, si, CL, al, h3, s48, eq_mk, h4, pe, strs2, sw_mk, recvOk, h5, this]
          | false =>
            have := of_decide_eq_false h5
            simp [runB, b_number_of, opR, sem1, sem2, arD, ln, g2, e1, h1, e2, h2, si, CL, al, h3, s48, eq_mk, h4, pe, strs2, sw_mk, recvOk, h5, this, z]
end
end PL
set_option Elab.async false
set_option linter.all false
set_option maxRecDepth 100000
set_option maxHeartbeats 4000000
set_option exponentiation.threshold 300
/-! PT3: what a text reads as. -/
namespace PL
open PySem PySem.Spec PyProof.Rows L2 PD NumText
def neg (l : List Nat) : Bool := decide (l.head? = some 45)
def body (l : List Nat) : List Nat := if neg l = true then l.drop 1 else l
def fst47 (b : List Nat) : List Nat := b.takeWhile (· != 47)
def snd47 (b : List Nat) : List Nat := (b.dropWhile (· != 47)).drop 1
def parse (b : List Nat) : Option (Nat × Option Nat) :=
  if 47 ∈ b then (if isNum (fst47 b) = true then (if isNum (snd47 b) = true then some (digitsVal (fst47 b), some (digitsVal (snd47 b))) else none) else none)
  else if isNum b = true then some (digitsVal b, none) else none
def sgn (n : Bool) (a : Nat) : Int := if n = true then -(a : Int) else a
def rdS (l : List Nat) : Option Rat := match parse (body l) with
  | none => none
  | some (a, o) => if o.getD 1 = 0 then none else if txt (Rat.divInt (sgn (neg l) a) (o.getD 1 : Nat)) = l then some (Rat.divInt (sgn (neg l) a) (o.getD 1 : Nat)) else none
theorem neg_split (l : List Nat) : l = (if neg l = true then [45] else []) ++ body l := by
  unfold body neg
  cases l with
  | nil => rfl
  | cons a r =>
    by_cases h : a = 45
    · subst h; simp
    · simp [h]
theorem tw_app {p : Nat → Bool} {a : List Nat} {c : Nat} {b : List Nat} (h : ∀ x ∈ a, p x = true) (hc : p c = false) : (a ++ c :: b).takeWhile p = a ∧ (a ++ c :: b).dropWhile p = c :: b := by
  induction a with
  | nil => simp [hc]
  | cons x a ih =>
    have hx := h x List.mem_cons_self
    obtain ⟨i1, i2⟩ := ih fun y hy => h y (List.mem_cons_of_mem _ hy)
    refine ⟨?_, ?_⟩
    · rw [List.cons_append, List.takeWhile_cons_of_pos hx, i1]
    · rw [List.cons_append, List.dropWhile_cons_of_pos hx, i2]
theorem split47 {b : List Nat} (h : 47 ∈ b) : b = fst47 b ++ 47 :: snd47 b ∧ 47 ∉ fst47 b := by
  unfold fst47 snd47
  induction b with
  | nil => cases h
  | cons a r ih =>
    by_cases ha : a = 47
    · subst ha
      simp
    · have hp : (a != 47) = true := by simp [ha]
      have hr : 47 ∈ r := by
        rcases List.mem_cons.mp h with z | z
        · exact absurd z.symm ha
        · exact z
      obtain ⟨i1, i2⟩ := ih hr
      rw [List.takeWhile_cons_of_pos (p := (· != 47)) hp, List.dropWhile_cons_of_pos (p := (· != 47)) hp]
      refine ⟨?_, ?_⟩
      · rw [List.cons_append, ← i1]
      · intro z
        rcases List.mem_cons.mp z with z | z
        · exact ha z.symm
        · exact i2 z
theorem dg_ne47 {l : List Nat} (h : AllDigits l) : 47 ∉ l := fun z => by have := h 47 z; omega
theorem isNum_all {l : List Nat} (h : isNum l = true) : l.all isDg = true ∧ 1 ≤ l.length ∧ l.length ≤ 40 ∧ (l = [48] ∨ l.head? ≠ some 48) := by
  unfold isNum at h
  simp only [Bool.and_eq_true, Bool.or_eq_true, decide_eq_true_eq] at h
  exact ⟨h.1.2, h.1.1.1, h.1.1.2, h.2⟩
theorem isNum_dig {l : List Nat} (h : isNum l = true) : dig (digitsVal l) = l := by
  obtain ⟨h1, h2, h3, h4⟩ := isNum_all h
  exact dig_val l (all_dg h1) (by rintro rfl; simp at h2) h4
theorem val_lt : ∀ l : List Nat, AllDigits l → digitsVal l < 10 ^ l.length := by
  refine snoc_ind (P := fun l => AllDigits l → digitsVal l < 10 ^ l.length) ?_ ?_
  · exact fun _ => by decide
  · intro l c ih ha
    have := ih fun d hd => ha d (List.mem_append_left _ hd)
    have hc := ha c (by simp)
    rw [val_snoc, List.length_append, List.length_singleton, Nat.pow_succ]
    omega
theorem num_lt {l : List Nat} (h : isNum l = true) : digitsVal l < 2 ^ 133 := by
  obtain ⟨h1, h2, h3, h4⟩ := isNum_all h
  have := val_lt l (all_dg h1)
  have h5 : 10 ^ l.length ≤ 10 ^ 40 := Nat.pow_le_pow_right (by omega) h3
  have : (10 : Nat) ^ 40 < 2 ^ 133 := by decide
  omega
/-- what was read is written again -/
theorem parse_back {b : List Nat} {a : Nat} {o : Option Nat} (h : parse b = some (a, o)) : b = dig a ++ (match o with | none => [] | some d => 47 :: dig d) ∧ a < 2 ^ 133 ∧ o.getD 1 < 2 ^ 133 := by
  unfold parse at h
  by_cases h47 : 47 ∈ b
  · rw [if_pos h47] at h
    obtain ⟨s1, s2⟩ := split47 h47
    by_cases h1 : isNum (fst47 b) = true
    · rw [if_pos h1] at h
      by_cases h2 : isNum (snd47 b) = true
      · rw [if_pos h2] at h
        cases h
        refine ⟨?_, num_lt h1, num_lt h2⟩
        rw [isNum_dig h1]
        show b = _ ++ 47 :: dig _
        rw [isNum_dig h2]
        exact s1
      · rw [if_neg h2] at h; cases h
    · rw [if_neg h1] at h; cases h
  · rw [if_neg h47] at h
    by_cases h1 : isNum b = true
    · rw [if_pos h1] at h
      cases h
      refine ⟨?_, num_lt h1, by decide⟩
      rw [isNum_dig h1]
      exact (List.append_nil b).symm
    · rw [if_neg h1] at h; cases h
theorem dig_h45 (n : Nat) (r : List Nat) : (dig n ++ r).head? ≠ some 45 := by
  rw [head_app (dig_ne n)]
  intro z
  have : 45 ∈ dig n := List.mem_of_mem_head? z
  have := all_dig n 45 this
  omega
theorem digI_eq (i : Int) : digI i = (if decide (i < 0) = true then [45] else []) ++ dig i.natAbs := by
  unfold digI
  by_cases h : i < 0 <;> simp [h]
theorem txt_eq (q : Rat) : txt q = (if decide (q.num < 0) = true then [45] else []) ++ (dig q.num.natAbs ++ if q.den = 1 then [] else 47 :: dig q.den) := by
  unfold txt
  rw [digI_eq]
  by_cases h : q.den = 1
  · rw [if_pos h, if_pos h, List.append_nil]
  · rw [if_neg h, if_neg h, List.append_assoc]
theorem neg_of (n : Bool) (m : Nat) (r : List Nat) : neg ((if n = true then [45] else []) ++ (dig m ++ r)) = n := by
  cases n with
  | true => rfl
  | false =>
    have := dig_h45 m r
    show decide ((dig m ++ r).head? = some 45) = false
    exact decide_eq_false this
theorem body_of (n : Bool) (m : Nat) (r : List Nat) : body ((if n = true then [45] else []) ++ (dig m ++ r)) = dig m ++ r := by
  unfold body
  rw [neg_of]
  cases n <;> rfl
theorem parse_of {m d : Nat} {a : Nat} {o : Option Nat} (h : parse (dig m ++ if d = 1 then [] else 47 :: dig d) = some (a, o)) : a = m ∧ o.getD 1 = d := by
  by_cases hd : d = 1
  · rw [if_pos hd, List.append_nil] at h
    unfold parse at h
    rw [if_neg (dg_ne47 (all_dig m))] at h
    by_cases h1 : isNum (dig m) = true
    · rw [if_pos h1, val_dig] at h
      cases h
      exact ⟨rfl, hd.symm⟩
    · rw [if_neg h1] at h; cases h
  · rw [if_neg hd] at h
    unfold parse at h
    have tw := tw_app (p := (· != 47)) (a := dig m) (c := 47) (b := dig d) (fun x hx => by
      have := all_dig m x hx
      simp
      omega) (by simp)
    have f1 : fst47 (dig m ++ 47 :: dig d) = dig m := tw.1
    have f2 : snd47 (dig m ++ 47 :: dig d) = dig d := by
      unfold snd47
      rw [tw.2]
      rfl
    rw [if_pos (by simp), f1, f2, val_dig, val_dig] at h
    by_cases h1 : isNum (dig m) = true
    · rw [if_pos h1] at h
      by_cases h2 : isNum (dig d) = true
      · rw [if_pos h2] at h
        cases h
        exact ⟨rfl, rfl⟩
      · rw [if_neg h2] at h; cases h
    · rw [if_neg h1] at h; cases h
/-- a text that is a fraction as it is written -/
theorem canon {l : List Nat} {q : Rat} {a : Nat} {o : Option Nat} (hp : parse (body l) = some (a, o)) (ht : txt q = l) : sgn (neg l) a = q.num ∧ o.getD 1 = q.den := by
  rw [← ht, txt_eq] at hp ⊢
  rw [body_of] at hp
  rw [neg_of]
  obtain ⟨h1, h2⟩ := parse_of hp
  refine ⟨?_, h2⟩
  rw [h1]
  unfold sgn
  by_cases h : q.num < 0
  · rw [decide_eq_true h, if_pos rfl]; omega
  · rw [decide_eq_false h, if_neg (by simp)]; omega
theorem rdS_some {l : List Nat} {q : Rat} (h : rdS l = some q) : txt q = l ∧ sz 133 q ∧ ∃ a o, parse (body l) = some (a, o) ∧ o.getD 1 ≠ 0 ∧ q = Rat.divInt (sgn (neg l) a) (o.getD 1 : Nat) := by
  unfold rdS at h
  cases hp : parse (body l) with
  | none => rw [hp] at h; cases h
  | some r =>
    obtain ⟨a, o⟩ := r
    rw [hp] at h
    simp only at h
    by_cases h0 : o.getD 1 = 0
    · rw [if_pos h0] at h; cases h
    · rw [if_neg h0] at h
      by_cases ht : txt (Rat.divInt (sgn (neg l) a) (o.getD 1 : Nat)) = l
      · rw [if_pos ht] at h
        cases h
        obtain ⟨_, b1, b2⟩ := parse_back hp
        refine ⟨ht, divInt_sz (by omega) ?_ ?_, a, o, rfl, h0, rfl⟩
        · unfold sgn
          split <;> omega
        · omega
      · rw [if_neg ht] at h; cases h
/-- the law's own test of what was read -/
def dueB (l : List Nat) (a : Nat) (o : Option Nat) : Bool :=
  !(decide (o.getD 1 = 0) || (decide (o = some 1) || (decide (sgn (neg l) a = 0) && !decide (l = [48]))))
theorem due_iff {l : List Nat} {a : Nat} {o : Option Nat} (hp : parse (body l) = some (a, o)) : rdS l = if dueB l a o = true ∧ (Rat.divInt (sgn (neg l) a) (o.getD 1 : Nat)).num = sgn (neg l) a ∧ (Rat.divInt (sgn (neg l) a) (o.getD 1 : Nat)).den = o.getD 1 then some (Rat.divInt (sgn (neg l) a) (o.getD 1 : Nat)) else none := by
  unfold rdS
  rw [hp]
  show (if _ then _ else if _ then _ else _) = _
  by_cases h0 : o.getD 1 = 0
  · rw [if_pos h0, if_neg]
    rintro ⟨h1, _⟩
    simp [dueB, h0] at h1
  rw [if_neg h0]
  generalize hq : Rat.divInt (sgn (neg l) a) (o.getD 1 : Nat) = q
  by_cases ht : txt q = l
  · obtain ⟨c1, c2⟩ := canon hp ht
    rw [if_pos ht, if_pos]
    refine ⟨?_, c1.symm, c2.symm⟩
    have ho : o ≠ some 1 := by
      rintro rfl
      have e := (parse_back hp).1
      have hd : q.den = 1 := c2.symm
      have ht2 := ht
      rw [txt_eq, if_pos hd, List.append_nil] at ht2
      have hb := body_of (decide (q.num < 0)) q.num.natAbs []
      rw [List.append_nil, ht2, e] at hb
      have m1 : 47 ∈ dig q.num.natAbs := by
        rw [← hb]
        exact List.mem_append_right _ List.mem_cons_self
      exact dg_ne47 (all_dig _) m1
    have hz : ¬ (sgn (neg l) a = 0 ∧ l ≠ [48]) := by
      rintro ⟨z1, z2⟩
      rw [z1] at hq
      rw [Rat.zero_divInt] at hq
      apply z2
      rw [← ht, ← hq]
      decide +kernel
    unfold dueB
    simp only [Bool.not_eq_true', Bool.or_eq_false_iff, Bool.and_eq_false_iff, decide_eq_false_iff_not, Bool.not_eq_false', decide_eq_true_eq]
    refine ⟨h0, ho, ?_⟩
    by_cases z1 : sgn (neg l) a = 0
    · exact .inr (Classical.byContradiction fun z2 => hz ⟨z1, z2⟩)
    · exact .inl z1
  · rw [if_neg ht, if_neg]
    rintro ⟨d1, d2, d3⟩
    apply ht
    unfold dueB at d1
    simp only [Bool.not_eq_true', Bool.or_eq_false_iff, Bool.and_eq_false_iff, decide_eq_false_iff_not, Bool.not_eq_false', decide_eq_true_eq] at d1
    obtain ⟨_, ho, hz⟩ := d1
    obtain ⟨e, _⟩ := parse_back hp
    have es : decide (q.num < 0) = neg l ∧ q.num.natAbs = a := by
      rw [d2]
      unfold sgn at hz ⊢
      cases hn : neg l with
      | true =>
        rw [hn] at hz
        rw [if_pos rfl] at hz ⊢
        have : a ≠ 0 := by
          rintro rfl
          rcases hz with z | z
          · exact z rfl
          · rw [z] at hn
            exact absurd hn (by decide)
        exact ⟨decide_eq_true (by omega), by omega⟩
      | false =>
        rw [if_neg (by simp)]
        exact ⟨decide_eq_false (by omega), by omega⟩
    rw [txt_eq, es.1, es.2, d3]
    conv => rhs; rw [neg_split l, e]
    cases o with
    | none => rfl
    | some b =>
      have : b ≠ 1 := fun z => ho (by rw [z])
      show _ ++ (_ ++ if b = 1 then _ else 47 :: dig b) = _
      rw [if_neg this]
end PL
set_option Elab.async false
set_option linter.all false
set_option maxRecDepth 100000
set_option maxHeartbeats 4000000
set_option exponentiation.threshold 300
/-! PT4: read_fraction, and the law's own reading. -/
namespace PL
open PySem PySem.Spec PyProof.Rows L2 PD NumText
section
variable {G : Pg} {I : Ix}
structure HRd (G : Pg) (I : Ix) : Prop where
  fr : HFr G I
  num : HNum G I
  t : HT G
  txt : G.fns[I.f_fraction_text]? = some (1, 1, b_fraction_text)
  rd : G.fns[I.f_read_fraction]? = some (1, 6, b_read_fraction I)
def rdTail (I : Ix) : List S := [.ite (.bm .startswith (.v 0) [.c (.str "-")]) [.asg (.n 1) (.op .neg [.v 1])] [],
  .ite (.or_ (.op .eq [.v 2, .c (.int (0))]) (.op .ne [.call I.f_fraction_text [.call I.f_fraction [.v 1, .v 2]], .v 0])) [.rais I.c_NoFraction [.c (.str "not as it is written")]] [],
  .ret (.tup [.v 1, .v 2])]
theorem rd_body (I : Ix) : b_read_fraction I = [
  .ite (.not_ (.op (.isi [2]) [.v 0])) [.rais I.c_NoFraction [.c (.str "no text")]] [],
  .asg (.t [.n 3, .n 4, .n 5]) (.bm .partition (.slL (.v 0) (.op .int [.bm .startswith (.v 0) [.c (.str "-")]])) [.c (.str "/")]),
  .asg (.n 1) (.call I.f_number_of [.v 3]),
  .asg (.n 2) (.c (.int (1))),
  .ite (.op .ne [.v 4, .c (.str "")]) [.asg (.n 2) (.call I.f_number_of [.v 5])] []] ++ rdTail I := rfl
/-- what reading answers -/
def rdR (I : Ix) (o : Option Rat) : Rs PD.W := match o with
  | some q => .ok (.d (fr q)) []
  | none => .ex I.c_NoFraction [] [] []
theorem body_cut (l : List Nat) (hl : l.length ≤ LIM) : slD (.str (mk l)) (some (if neg l = true then 1 else 0)) none = some (.str (mk (body l))) := by
  show (if (mk l).length ≤ LIM then some (D.str _) else none) = _
  rw [len_mk, if_pos hl]
  congr 2
  unfold body
  cases neg l with
  | true => exact cutS_from (mk l) 1
  | false => exact cutS_from (mk l) 0
theorem body_len (l : List Nat) : (body l).length ≤ l.length := by
  unfold body
  split
  · rw [List.length_drop]; omega
  · exact Nat.le_refl _
theorem part47 (b : List Nat) (hl : b.length ≤ LIM) : partD (mk b) (mk [47]) = some (if 47 ∈ b then .tup [.str (mk (fst47 b)), .str (mk [47]), .str (mk (snd47 b))] else .tup [.str (mk b), .str (mk []), .str (mk [])]) := by
  show (if (mk [47]).length ≠ 0 ∧ (mk b).length ≤ LIM then some (D.tup _) else none) = _
  rw [if_pos ⟨by decide, by rw [len_mk]; exact hl⟩]
  have h := part_one (mk b) 47
  rw [L_mk] at h
  have h : Txt.partition (mk b) (mk [47]) = _ := h
  rw [h]
  by_cases h47 : 47 ∈ b
  · rw [if_pos h47, if_pos h47]; rfl
  · rw [if_neg h47, if_neg h47]; rfl
theorem read_ok (h : HRd G I) (n : Nat) (l : List Nat) (hl : l.length ≤ LIM) : PD.call G (n + 3) I.f_read_fraction [.d (.str (mk l))] [] = rdR I (rdS l) := by
  rw [call_at h.rd]
  have i2 := h.t.one (d := .str (mk l)) rfl (a := 2) (by decide)
  have sw := sw_mk l 45
  have bc := body_cut l hl
  have bl := body_len l
  have pa := part47 (body l) (by omega)
  have NU : ∀ b : List Nat, b.length ≤ LIM → callW (PD.call G (n + 2) I.f_number_of) [.d (.str (mk b))] [] = if isNum b = true then .ok (.d (.int (digitsVal b : Nat))) [] else .ex I.c_NoFraction [] [] [] := fun b hb => by
    have := num_ok h.num (n + 1) b hb
    cases hn : isNum b with
    | true => rw [hn, if_pos rfl] at this; exact callW1 this
    | false => rw [hn, if_neg (by simp)] at this; exact callW_x (ds := [.str (mk b)]) rfl this
  have hd : decide (l.head? = some 45) = neg l := rfl
  have nn : isBD true (.bl (neg l)) = isBD true (.bl (neg l)) := rfl
  have ib : PD.intD (.bl (neg l)) = some (.int (if neg l = true then 1 else 0)) := rfl
  have pe : ∀ l, plainD (.str (mk l)) = true := fun _ => rfl
  have FT : ∀ q : Rat, sz 133 q → callW (PD.call G (n + 2) I.f_fraction_text) [.d (fr q)] [] = .ok (.d (.str (mk (txt q)))) [] := fun q hq => callW1 (fraction_text_ok h.txt (n + 1) (q, true) (sz_mono hq (by omega)))
  have FR : ∀ t b : Int, b ≠ 0 → b.natAbs < 2 ^ 133 → callW (PD.call G (n + 2) I.f_fraction) [.d (.int t), .d (.int b)] [] = .ok (.d (fr (Rat.divInt t b))) [] := fun t b h0 hb => callW2 (fraction_ok h.fr n t b h0 (up hb (by omega)))
  have ng : ∀ i : Int, negD (.int i) = some (.int (-i)) := fun _ => rfl
  -- the end of the walk
  have fin : ∀ (a : Nat) (o : Option Nat), parse (body l) = some (a, o) → ∀ (x3 x4 x5 : Option PD.W) ,
      evSs G (PD.call G (n + 2)) (rdTail I) [some (.d (.str (mk l))), some (.d (.int (a : Int))), some (.d (.int (o.getD 1 : Nat))), x3, x4, x5] [] = match rdS l with
        | some q => .ok (.ret (.d (fr q))) [some (.d (.str (mk l))), some (.d (.int (sgn (neg l) a))), some (.d (.int (o.getD 1 : Nat))), x3, x4, x5] []
        | none => .ex I.c_NoFraction [] [] [some (.d (.str (mk l))), some (.d (.int (sgn (neg l) a))), some (.d (.int (o.getD 1 : Nat))), x3, x4, x5] [] := by
    intro a o hp x3 x4 x5
    obtain ⟨_, b1, b2⟩ := parse_back hp
    unfold rdTail
    have st : ∀ k : List S, evSs G (PD.call G (n + 2)) (.ite (.bm .startswith (.v 0) [.c (.str "-")]) [.asg (.n 1) (.op .neg [.v 1])] [] :: k) [some (.d (.str (mk l))), some (.d (.int (a : Int))), some (.d (.int (o.getD 1 : Nat))), x3, x4, x5] [] = evSs G (PD.call G (n + 2)) k [some (.d (.str (mk l))), some (.d (.int (sgn (neg l) a))), some (.d (.int (o.getD 1 : Nat))), x3, x4, x5] [] := fun k => by
      unfold sgn
      cases hn : neg l with
      | true => simp [opR, sem1, sem2, strs2, recvOk, s45, sw, hd, hn, ng]
      | false => simp [opR, sem1, sem2, strs2, recvOk, s45, sw, hd, hn]
    rw [st]
    unfold rdS
    rw [hp]
    show _ = match (if _ then _ else if _ then _ else _ : Option Rat) with | some q => _ | none => _
    by_cases h0 : o.getD 1 = 0
    · rw [if_pos h0, h0]
      simp [opR, sem1, sem2, plain_int, eqD_int]
    · rw [if_neg h0]
      have ez : ((o.getD 1 : Nat) : Int) ≠ 0 := by omega
      have e0 : (((o.getD 1 : Nat) : Int) == 0) = false := beq_eq_false_iff_ne.mpr ez
      have F := FR (sgn (neg l) a) (o.getD 1 : Nat) ez (by omega)
      have sq : sz 133 (Rat.divInt (sgn (neg l) a) (o.getD 1 : Nat)) := divInt_sz ez (by unfold sgn; split <;> omega) (by omega)
      have T := FT _ sq
      generalize hq : Rat.divInt (sgn (neg l) a) (o.getD 1 : Nat) = q at *
      by_cases ht : txt q = l
      · obtain ⟨c1, c2⟩ := canon hp ht
        rw [if_pos ht]
        rw [c1, c2] at F
        rw [c2] at e0
        have e1 : eqD (.str (mk (txt q))) (.str (mk l)) = true := by rw [eq_mk]; exact decide_eq_true ht
        rw [c1, c2]
        simp [opR, sem1, sem2, plain_int, eqD_int, e0, F, T, pe, e1]
        rfl
      · rw [if_neg ht]
        have e1 : eqD (.str (mk (txt q))) (.str (mk l)) = false := by rw [eq_mk]; exact decide_eq_false ht
        simp [opR, sem1, sem2, plain_int, eqD_int, e0, F, T, pe, e1]
  unfold runB
  rw [if_pos (show [PD.W.d (.str (mk l))].length = 1 from rfl)]
  by_cases h47 : 47 ∈ body l
  · rw [if_pos h47] at pa
    have sl47 := congrArg List.length (split47 h47).1
    rw [List.length_append, List.length_cons] at sl47
    have l1 : (fst47 (body l)).length ≤ LIM := by omega
    have l2 : (snd47 (body l)).length ≤ LIM := by omega
    have N1 := NU _ l1
    have N2 := NU _ l2
    have pr : parse (body l) = if isNum (fst47 (body l)) = true then (if isNum (snd47 (body l)) = true then some (digitsVal (fst47 (body l)), some (digitsVal (snd47 (body l)))) else none) else none := by
      unfold parse
      rw [if_pos h47]
    have e47 : eqD (.str (mk [47])) (.str (mk [])) = false := by rw [eq_mk]; rfl
    cases h1 : isNum (fst47 (body l)) with
    | false =>
      rw [h1, if_neg (by simp)] at pr N1
      have : rdS l = none := by unfold rdS; rw [pr]
      rw [this]
      simp [b_read_fraction, opR, sem1, sem2, i2, strs2, recvOk, s45, s47, sw, hd, ib, bc, pa, N1, rdR]
    | true =>
      rw [h1, if_pos rfl] at pr N1
      cases h2 : isNum (snd47 (body l)) with
      | false =>
        rw [h2, if_neg (by simp)] at pr N2
        have : rdS l = none := by unfold rdS; rw [pr]
        rw [this]
        simp [b_read_fraction, opR, sem1, sem2, i2, strs2, recvOk, s45, s47, s0, sw, hd, ib, bc, pa, N1, N2, rdR, pe, e47]
      | true =>
        rw [h2, if_pos rfl] at pr N2
        have f := fin _ _ pr (some (.d (.str (mk (fst47 (body l)))))) (some (.d (.str (mk [47])))) (some (.d (.str (mk (snd47 (body l))))))
        generalize digitsVal (fst47 (body l)) = a at *
        generalize digitsVal (snd47 (body l)) = b at *
        simp only [Option.getD_some] at f
        have z : evSs G (PD.call G (n + 2)) (b_read_fraction I) ([PD.W.d (.str (mk l))].map some ++ List.replicate (6 - 1) none) [] = evSs G (PD.call G (n + 2)) (rdTail I) [some (.d (.str (mk l))), some (.d (.int (a : Int))), some (.d (.int (b : Int))), some (.d (.str (mk (fst47 (body l))))), some (.d (.str (mk [47]))), some (.d (.str (mk (snd47 (body l)))))] [] := by
          rw [rd_body]
          simp [opR, sem1, sem2, i2, strs2, recvOk, s45, s47, s0, sw, hd, ib, bc, pa, N1, N2, rdR, pe, e47]
        rw [z, f]
        cases rdS l <;> rfl
  · rw [if_neg h47] at pa
    have N1 := NU (body l) (by omega)
    have pr : parse (body l) = if isNum (body l) = true then some (digitsVal (body l), none) else none := by
      unfold parse
      rw [if_neg h47]
    have e47 : eqD (.str (mk [])) (.str (mk [])) = true := by rw [eq_mk]; rfl
    cases h1 : isNum (body l) with
    | false =>
      rw [h1, if_neg (by simp)] at pr N1
      have : rdS l = none := by unfold rdS; rw [pr]
      rw [this]
      simp [b_read_fraction, opR, sem1, sem2, i2, strs2, recvOk, s45, s47, sw, hd, ib, bc, pa, N1, rdR]
    | true =>
      rw [h1, if_pos rfl] at pr N1
      have f := fin _ _ pr (some (.d (.str (mk (body l))))) (some (.d (.str (mk [])))) (some (.d (.str (mk []))))
      generalize digitsVal (body l) = a at *
      simp only [Option.getD_none] at f
      have z : evSs G (PD.call G (n + 2)) (b_read_fraction I) ([PD.W.d (.str (mk l))].map some ++ List.replicate (6 - 1) none) [] = evSs G (PD.call G (n + 2)) (rdTail I) [some (.d (.str (mk l))), some (.d (.int (a : Int))), some (.d (.int (1 : Nat))), some (.d (.str (mk (body l)))), some (.d (.str (mk []))), some (.d (.str (mk [])))] [] := by
        rw [rd_body]
        simp [opR, sem1, sem2, i2, strs2, recvOk, s45, s47, s0, sw, hd, ib, bc, pa, N1, rdR, pe, e47]
      rw [z, f]
      cases rdS l <;> rfl
theorem read_not (h : HRd G I) (n : Nat) {d : D} {g : Nat} (hd : tagB d = some g) (hg : g ≠ 2) : PD.call G (n + 1) I.f_read_fraction [.d d] [] = .ex I.c_NoFraction [] [] [] := by
  rw [call_at h.rd]
  have i2 := h.t.one hd (a := 2) (by decide)
  simp [runB, b_read_fraction, opR, sem1, i2, hg]
end
end PL
set_option Elab.async false
set_option linter.all false
set_option maxRecDepth 100000
set_option maxHeartbeats 4000000
set_option exponentiation.threshold 300
/-! PL7: the second mixer, and pairs drawn with it. -/
namespace PL
open PySem PySem.Spec PyProof.Rows L2 PD
section
variable {G : Pg} {I : Ix}
theorem bits_lt {z : Int} {n : Nat} (h : Builtin.Int.intBits z ≤ n) : z.natAbs < 2 ^ n := by
  unfold Builtin.Int.intBits at h
  by_cases h0 : z = 0
  · subst h0; exact Nat.two_pow_pos n
  · rw [if_neg (by simpa using h0)] at h
    exact (Nat.log2_lt (by omega)).mp (by omega)
/-- a call that makes a mutable object -/
theorem callW_new {f : List PD.W → List M → Rs PD.W} {a : D} {m : M} {cs : List M} (h : f [.d a] [] = .ok (.c 0) [m]) : callW f [.d a] cs = .ok (.c cs.length) (cs ++ [m]) := by
  have e : putAll cs [] [m] = cs := rfl
  unfold callW
  rw [rn_dats [.d a] [a] rfl]
  simp only [takeAll, h, e]
  rfl
theorem mix2_ok (h : G.fns[I.f_mix2]? = some (2, 3, b_mix2)) (n : Nat) (s u k : Int) (hs : 0 ≤ s) (hs2 : s < 2147483647) (hu : 0 ≤ u) (hk : k.natAbs < 2 ^ 2000000) : ∃ s' u' v : Int, PD.call G (n + 1) I.f_mix2 [.c 0, .d (.int k)] [.lst [.int s, .int u]] = .ok (.d (.int v)) [.lst [.int s', .int u']] ∧ 0 ≤ s' ∧ s' < 2147483647 ∧ 0 ≤ u' ∧ 0 ≤ v ∧ v < 1000000000 := by
  rw [call_at h]
  have big : ∀ {x : Int}, 0 ≤ x → x < 18446744073709551616 → x.natAbs < 2 ^ 64 := fun {x} h1 h2 => by omega
  have m1 : arith .mul s 48271 = some (.int (s * 48271)) := a_mul (big hs (by omega)) (big (by omega) (by omega))
  have m2 : arith .mul k 16807 = some (.int (k * 16807)) := a_mul hk (big (by omega) (by omega))
  obtain ⟨h1, h2⟩ := emod_bd (s * 48271 + k * 16807 + 11) (m := 2147483647) (by omega)
  have d1 : arith .mod (s * 48271 + k * 16807 + 11) 2147483647 = some (.int ((s * 48271 + k * 16807 + 11).fmod 2147483647)) := arith_mod (by omega)
  generalize (s * 48271 + k * 16807 + 11).fmod 2147483647 = s' at *
  have m3 : arith .mul s' s' = some (.int (s' * s')) := a_mul (big h1 (by omega)) (big h1 (by omega))
  obtain ⟨v1, v2⟩ := emod_bd (s' * s') (m := 2147483647) (by omega)
  have d2 : arith .mod (s' * s') 2147483647 = some (.int ((s' * s').fmod 2147483647)) := arith_mod (by omega)
  generalize (s' * s').fmod 2147483647 = v at *
  have d3 : arith .fdiv v 5 = some (.int (v.fdiv 5)) := a_fdiv (b := 3) (by omega) (by decide)
  have pw18 : arith .pow 10 18 = some (.int 1000000000000000000) := rfl
  have pw9 : arith .pow 10 9 = some (.int 1000000000) := rfl
  have n0 : ixN 2 0 = some 0 := rfl
  have n1 : ixN 2 1 = some 1 := rfl
  -- the second part
  obtain ⟨w, hw, ew⟩ : ∃ w : Int, 0 ≤ w ∧ w = if 1000000000000000000 ≤ k then k - 1000000000000000000 else u := ⟨_, by split <;> omega, rfl⟩
  have d4 : arith .mod w 1000000000 = some (.int (w.fmod 1000000000)) := arith_mod (by omega)
  have d5 : arith .fdiv w 1000000000 = some (.int (w.fdiv 1000000000)) := a_fdiv (b := 30) (by omega) (by decide)
  obtain ⟨w1, w2⟩ := emod_bd w (m := 1000000000) (by omega)
  have wf : 0 ≤ w.fdiv 1000000000 := by rw [Int.fdiv_eq_ediv_of_nonneg _ (by omega)]; omega
  by_cases hz : w = 0
  · refine ⟨s', w, v.fdiv 5, ?_, h1, h2, hw, by rw [Int.fdiv_eq_ediv_of_nonneg _ (by omega)]; omega, by rw [Int.fdiv_eq_ediv_of_nonneg _ (by omega)]; omega⟩
    by_cases hc : 1000000000000000000 ≤ k
    · rw [if_pos hc] at ew
      have ez : k - 1000000000000000000 = 0 := by omega
      have eq0 : (w == 0) = true := by rw [hz]; rfl
      simp [runB, b_mix2, opR, sem2, mulD, arD, addD, ixD, pk_c, mD, n0, n1, m1, m2, d1, m3, d2, d3, pw18, pw9, hc, plain_int, eqD_int, ← ew, eq0]
    · rw [if_neg hc] at ew
      have eq0 : (w == 0) = true := by rw [hz]; rfl
      simp [runB, b_mix2, opR, sem2, mulD, arD, addD, ixD, pk_c, mD, n0, n1, m1, m2, d1, m3, d2, d3, pw18, pw9, hc, plain_int, eqD_int, ← ew, eq0]
  · refine ⟨s', w.fdiv 1000000000, w.fmod 1000000000, ?_, h1, h2, wf, w1, w2⟩
    have eq0 : (w == 0) = false := beq_eq_false_iff_ne.mpr hz
    by_cases hc : 1000000000000000000 ≤ k
    · rw [if_pos hc] at ew
      simp [runB, b_mix2, opR, sem2, mulD, arD, addD, ixD, pk_c, mD, n0, n1, m1, m2, d1, m3, d2, d3, d4, d5, pw18, pw9, hc, plain_int, eqD_int, ← ew, eq0]
    · rw [if_neg hc] at ew
      simp [runB, b_mix2, opR, sem2, mulD, arD, addD, ixD, pk_c, mD, n0, n1, m1, m2, d1, m3, d2, d3, d4, d5, pw18, pw9, hc, plain_int, eqD_int, ← ew, eq0]
theorem begun_ok (h : G.fns[I.f_begun]? = some (1, 1, b_begun)) (n : Nat) (c : Int) : ∃ s u : Int, PD.call G (n + 1) I.f_begun [.d (.int c)] [] = .ok (.c 0) [.lst [.int s, .int u]] ∧ 0 ≤ s ∧ s < 2147483647 ∧ 0 ≤ u := by
  rw [call_at h]
  obtain ⟨h1, h2⟩ := emod_bd c (m := 2147483646) (by omega)
  have d1 : arith .mod c 2147483646 = some (.int (c.fmod 2147483646)) := arith_mod (by omega)
  have pw18 : arith .pow 10 18 = some (.int 1000000000000000000) := rfl
  refine ⟨1 + c.fmod 2147483646, if c - 1000000000000000000 > 0 then c - 1000000000000000000 else 0, ?_, by omega, by omega, by split <;> omega⟩
  simp [runB, b_begun, opR, sem2, arD, addD, maxD, d1, pw18]
def prB2 (I : Ix) : List S := [.ite (.op .lt [.op .len [.v 4], .v 2]) [.asg (.n 7) (.op .ix [.lst [.c (.int (9)), .c (.int (60)), .v 3, .v 3], .op .mod [.call I.f_mix2 [.v 5, .op .mod [.v 6, .op .pow [.c (.int (10)), .c (.int (18))]]], .c (.int (4))]]), .asg (.n 8) (.op .sub [.op .mod [.v 6, .op .add [.op .mul [.c (.int (2)), .v 7], .c (.int (1))]], .v 7]), .asg (.n 9) (.op .fdiv [.v 6, .op .add [.op .mul [.c (.int (2)), .v 7], .c (.int (1))]]), .ite (.op .lt [.v 6, .op .pow [.c (.int (10)), .c (.int (18))]]) [.asg (.n 9) (.op .add [.v 9, .op .mul [.call I.f_mix2 [.v 5, .op .mod [.v 8, .op .pow [.c (.int (10)), .c (.int (9))]]], .op .pow [.c (.int (1000000007)), .c (.int (3))]]])] [], .app (.v 4) (.tup [.v 8, .op .add [.c (.int (1)), .op .mod [.v 9, .v 7]]])] []]
theorem pr_step2 (h1 : G.fns[I.f_mix2]? = some (2, 3, b_mix2)) (n k : Nat) (hk : 6 ≤ k) (hk2 : k ≤ 4000) (most size : Int) (hz : 60 ≤ size) (hz2 : size.natAbs + 1 < 2 ^ k) (p q : Option PD.W) (c : Int) (found : List (Int × Int)) (hl : found.length < LIM) (s u : Int) (hs : 0 ≤ s) (hs2 : s < 2147483647) (hu : 0 ≤ u) (x6 x7 x8 x9 : Option PD.W) :
    ∃ (found' : List (Int × Int)) (s' u' : Int) (x6' x7' x8' x9' : Option PD.W), forB G (PD.call G (n + 1)) (.n 6) (prB2 I) (.int c) [p, q, some (.d (.int most)), some (.d (.int size)), some (.c 0), some (.c 1), x6, x7, x8, x9] [.lst (found.map pr), .lst [.int s, .int u]] = .ok .nx [p, q, some (.d (.int most)), some (.d (.int size)), some (.c 0), some (.c 1), x6', x7', x8', x9'] [.lst (found'.map pr), .lst [.int s', .int u']] ∧
      0 ≤ s' ∧ s' < 2147483647 ∧ 0 ≤ u' ∧ (found' = found ∨ ((found.length : Int) < most ∧ ∃ z, okP k z ∧ found' = found ++ [z])) := by
  by_cases hm : (found.length : Int) < most
  · have pw18 : arith .pow 10 18 = some (.int 1000000000000000000) := rfl
    have pw9 : arith .pow 10 9 = some (.int 1000000000) := rfl
    have pw3 : arith .pow 1000000007 3 = some (.int 1000000021000000147000000343) := rfl
    obtain ⟨g1, g2⟩ := emod_bd c (m := 1000000000000000000) (by omega)
    have md : arith .mod c 1000000000000000000 = some (.int (c.fmod 1000000000000000000)) := arith_mod (by omega)
    obtain ⟨s1, u1, v1, M1, a1, a2, a5, a3, a4⟩ := mix2_ok h1 n s u (c.fmod 1000000000000000000) hs hs2 hu (up (k := 64) (by omega) (by omega))
    have C1 := callW_ci (cs := [.lst (found.map pr), .lst [.int s, .int u]]) (i := 1) rfl (by simp) M1
    have md4 : arith .mod v1 4 = some (.int (v1 % 4)) := by rw [arith_mod (by omega), Int.fmod_eq_emod_of_nonneg _ (by omega)]
    obtain ⟨near, ix, b1, b2⟩ : ∃ near : Int, atI [D.int 9, D.int 60, D.int size, D.int size] (v1 % 4) = some (.int near) ∧ 9 ≤ near ∧ near ≤ size := by
      have : v1 % 4 = 0 ∨ v1 % 4 = 1 ∨ v1 % 4 = 2 ∨ v1 % 4 = 3 := by omega
      rcases this with h | h | h | h <;> rw [h]
      · exact ⟨9, rfl, by omega, by omega⟩
      · exact ⟨60, rfl, by omega, by omega⟩
      · exact ⟨size, rfl, by omega, by omega⟩
      · exact ⟨size, rfl, by omega, by omega⟩
    have nk : near.natAbs < 2 ^ k := by omega
    have m2 : arith .mul 2 near = some (.int (2 * near)) := a_mul (a := 2) (by decide) nk
    have mm : arith .mod c (2 * near + 1) = some (.int (c.fmod (2 * near + 1))) := arith_mod (by omega)
    obtain ⟨e1, e2⟩ := emod_bd c (m := 2 * near + 1) (by omega)
    have k2 : (2 * near + 1).natAbs < 2 ^ (k + 2) := by rw [Nat.pow_add]; omega
    have fd : arith .fdiv c (2 * near + 1) = some (.int (c.fdiv (2 * near + 1))) := a_fdiv (by omega) k2
    generalize htop : c.fmod (2 * near + 1) = tp at mm e1 e2
    generalize hre : c.fdiv (2 * near + 1) = re at fd
    have topk : (tp - near).natAbs < 2 ^ k := by omega
    have mt : arith .mod (tp - near) 1000000000 = some (.int ((tp - near).fmod 1000000000)) := arith_mod (by omega)
    obtain ⟨t1, t2⟩ := emod_bd (tp - near) (m := 1000000000) (by omega)
    obtain ⟨s2, u2, v2, M2, c1, c2, c5, c3, c4⟩ := mix2_ok h1 n s1 u1 ((tp - near).fmod 1000000000) a1 a2 a5 (up (k := 64) (by omega) (by omega))
    have C2 := callW_ci (cs := [.lst (found.map pr), .lst [.int s1, .int u1]]) (i := 1) rfl (by simp) M2
    have m3 : arith .mul v2 1000000021000000147000000343 = some (.int (v2 * 1000000021000000147000000343)) := a_mul (a := 40) (b := 100) (by omega) (by decide)
    have mr : ∀ r : Int, arith .mod r near = some (.int (r.fmod near)) := fun r => arith_mod (by omega)
    have okz : ∀ r : Int, okP k (tp - near, 1 + r.fmod near) := fun r => by
      obtain ⟨h1, h2⟩ := emod_bd r (m := near) (by omega)
      exact ⟨topk, by show 1 ≤ 1 + r.fmod near; omega, by show (1 + r.fmod near).natAbs < 2 ^ k; omega⟩
    by_cases hc : c < 1000000000000000000
    · refine ⟨found ++ [(tp - near, 1 + (re + v2 * 1000000021000000147000000343).fmod near)], s2, u2, some (.d (.int c)), some (.d (.int near)), some (.d (.int (tp - near))), some (.d (.int (re + v2 * 1000000021000000147000000343))), ?_, c1, c2, c5, .inr ⟨hm, _, okz _, rfl⟩⟩
      simp [forB, prB2, opR, sem1, sem2, mulD, arD, addD, ltD, lenD, ixD, pk_c, mD, isLstC, hm, pw18, pw9, pw3, md, C1, md4, ix, m2, mm, fd, hc, mt, C2, m3, mr, hl, pr]
    · refine ⟨found ++ [(tp - near, 1 + re.fmod near)], s1, u1, some (.d (.int c)), some (.d (.int near)), some (.d (.int (tp - near))), some (.d (.int re)), ?_, a1, a2, a5, .inr ⟨hm, _, okz _, rfl⟩⟩
      simp [forB, prB2, opR, sem1, sem2, mulD, arD, addD, ltD, lenD, ixD, pk_c, mD, isLstC, hm, pw18, pw9, pw3, md, C1, md4, ix, m2, mm, fd, hc, mr, hl, pr]
  · refine ⟨found, s, u, some (.d (.int c)), x7, x8, x9, ?_, hs, hs2, hu, .inl rfl⟩
    simp [forB, prB2, opR, sem1, sem2, ltD, lenD, pk_c, mD, hm]
theorem pr_loop2 (h1 : G.fns[I.f_mix2]? = some (2, 3, b_mix2)) (n k : Nat) (hk : 6 ≤ k) (hk2 : k ≤ 4000) (most : Nat) (size : Int) (hz : 60 ≤ size) (hz2 : size.natAbs + 1 < 2 ^ k) (p q : Option PD.W) : ∀ (cs : List Int) (found : List (Int × Int)), found.length ≤ most → most < LIM → (∀ z ∈ found, okP k z) → ∀ (s u : Int), 0 ≤ s → s < 2147483647 → 0 ≤ u → ∀ (x6 x7 x8 x9 : Option PD.W),
    ∃ (found' : List (Int × Int)) (s' u' : Int) (x6' x7' x8' x9' : Option PD.W), forL (forB G (PD.call G (n + 1)) (.n 6) (prB2 I)) (cs.map .int) [p, q, some (.d (.int most)), some (.d (.int size)), some (.c 0), some (.c 1), x6, x7, x8, x9] [.lst (found.map pr), .lst [.int s, .int u]] = .ok .nx [p, q, some (.d (.int most)), some (.d (.int size)), some (.c 0), some (.c 1), x6', x7', x8', x9'] [.lst (found'.map pr), .lst [.int s', .int u']] ∧
      found'.length ≤ most ∧ (∀ z ∈ found', okP k z)
  | [], found, hl, _, ho, s, u, hs, hs2, hu, x6, x7, x8, x9 => ⟨found, s, u, x6, x7, x8, x9, rfl, hl, ho⟩
  | c :: cs, found, hl, hm, ho, s, u, hs, hs2, hu, x6, x7, x8, x9 => by
    obtain ⟨f1, s1, u1, y6, y7, y8, y9, e, a1, a2, a5, a3⟩ := pr_step2 h1 n k hk hk2 most size hz hz2 p q c found (by omega) s u hs hs2 hu x6 x7 x8 x9
    rw [List.map_cons, forL_c, e]
    have st : f1.length ≤ most ∧ (∀ z ∈ f1, okP k z) := by
      rcases a3 with a3 | ⟨b1, z, b2, b3⟩
      · subst a3; exact ⟨hl, ho⟩
      · subst b3
        refine ⟨by rw [List.length_append]; simp; omega, fun y hy => ?_⟩
        rcases List.mem_append.mp hy with hy | hy
        · exact ho y hy
        · cases List.mem_singleton.mp hy; exact b2
    exact pr_loop2 h1 n k hk hk2 most size hz hz2 p q cs f1 st.1 hm st.2 s1 u1 a1 a2 a5 y6 y7 y8 y9
/-- drawn pairs -/
theorem pairs2_ok (h0 : G.fns[I.f_cell_at]? = some (2, 2, b_cell_at)) (h1 : G.fns[I.f_mix2]? = some (2, 3, b_mix2)) (hb : G.fns[I.f_begun]? = some (1, 1, b_begun)) (h2 : G.fns[I.f_pairs2]? = some (4, 10, b_pairs2 I)) (n k : Nat) (hk : 6 ≤ k) (hk2 : k ≤ 4000) (ns : List Int) (first most : Nat) (size : Int) (hm : most < LIM) (hz : 60 ≤ size) (hz2 : size.natAbs + 1 < 2 ^ k) :
    ∃ (found : List (Int × Int)) (ms : List M), PD.call G (n + 2) I.f_pairs2 [.d (lis ns), .d (.int first), .d (.int most), .d (.int size)] [] = .ok (.d (.lst (found.map pr))) ms ∧ found.length ≤ most ∧ ∀ z ∈ found, okP k z := by
  rw [call_at h2]
  have C := callW2 (cs := [.lst []]) (cell_at h0 n ns first)
  generalize ns.getD first 0 = c at C
  have pw : arith .pow 10 18 = some (.int 1000000000000000000) := rfl
  have md : arith .mod c 1000000000000000000 = some (.int (c.fmod 1000000000000000000)) := arith_mod (by omega)
  obtain ⟨g1, g2⟩ := emod_bd c (m := 1000000000000000000) (by omega)
  obtain ⟨s, u, B, z1, z2, z3⟩ := begun_ok hb n (c.fmod 1000000000000000000)
  have B := callW_new (cs := [.lst []]) B
  obtain ⟨found, s', u', x6, x7, x8, x9, e, a1, a2⟩ := pr_loop2 h1 n k hk hk2 most size hz hz2 (some (.d (lis ns))) (some (.d (.int first))) (ns.drop first) [] (Nat.zero_le _) hm (fun _ h => nomatch h) s u z1 z2 z3 none none none none
  refine ⟨found, [.dead, .lst [.int s', .int u']], ?_, a1, a2⟩
  have e2 : b_pairs2 I = [.asg (.n 4) (.mlst []), .asg (.n 5) (.call I.f_begun [.op .mod [.call I.f_cell_at [.v 0, .v 1], .op .pow [.c (.int (10)), .c (.int (18))]]]), .for_ (.n 6) .seq [.slL (.v 0) (.v 1)] (prB2 I), .ret (.frz (.v 4))] := rfl
  simp only [runB, e2]
  have sl : slD (lis ns) (some (first : Int)) none = some (.lst ((ns.drop first).map .int)) := by
    show some (D.lst (PD.cutD _ _ _)) = _
    rw [cut_from, List.map_drop]
  generalize (ns.drop first).map D.int = ds at sl e
  have e : forL (forB G (PD.call G (n + 1)) (.n 6) (prB2 I)) ds [some (.d (lis ns)), some (.d (.int first)), some (.d (.int most)), some (.d (.int size)), some (.c 0), some (.c 1), none, none, none, none] [.lst [], .lst [.int s, .int u]] = _ := e
  simp [opR, sem2, arD, addD, pw, md, C, B, sl, pk_c, mD, e]
end
end PL
set_option Elab.async false
set_option linter.all false
set_option maxRecDepth 100000
set_option maxHeartbeats 4000000
set_option exponentiation.threshold 300
/-! PT5: comprehensions with a test; text pieces. -/
namespace PL
open PySem PySem.Spec PyProof.Rows L2 PD NumText
theorem compL_filterA {α : Type} {f : D → List M → Rs (Option D)} {e : α → D} {p : α → Bool} {g : α → D} {cs : List M} : ∀ {xs : List α} {acc : List D}, (∀ x ∈ xs, f (e x) cs = .ok (if p x = true then some (g x) else none) cs) → compL f (xs.map e) acc cs = .ok (acc ++ (xs.filter p).map g) cs
  | [], acc, _ => by
    rw [List.map_nil, compL_n, List.filter_nil, List.map_nil, List.append_nil]
  | x :: xs, acc, h => by
    rw [List.map_cons, compL_c, h x List.mem_cons_self]
    show compL f (xs.map e) _ cs = _
    rw [compL_filterA fun y hy => h y (List.mem_cons_of_mem _ hy)]
    cases hp : p x with
    | true => rw [List.filter_cons_of_pos hp, if_pos rfl, List.map_cons, List.append_assoc]; rfl
    | false => rw [List.filter_cons_of_neg (by simp [hp]), if_neg (by simp), List.append_assoc]; rfl
theorem eq_nil (xs : List D) : eqD (.lst xs) (.lst []) = xs.isEmpty := by cases xs <;> rfl
theorem atc0 (c : Nat) (r : List Nat) : atI (c :: r) 0 = some c := by
  unfold atI ixN
  simp
theorem ix_c0 (c : Nat) (r : List Nat) (h : (c :: r).length ≤ LIM) : ixD (.str (mk (c :: r))) (.int 0) = some (.str (mk [c])) := by
  show (if (mk (c :: r)).length ≤ LIM then (atI (c :: r) 0).map fun c => D.str ⟨#[c]⟩ else none) = _
  rw [len_mk, if_pos h, atc0]
  rfl
theorem sl_to_s (l : List Nat) (k : Nat) (h : l.length ≤ LIM) : slD (.str (mk l)) none (some (k : Int)) = some (.str (mk (l.take k))) := by
  show (if (mk l).length ≤ LIM then some (D.str (L2.cutS (mk l) none (some (k : Int)))) else none) = _
  rw [len_mk, if_pos h, cutS_to]
  rfl
theorem sl_from_s (l : List Nat) (k : Nat) (h : l.length ≤ LIM) : slD (.str (mk l)) (some (k : Int)) none = some (.str (mk (l.drop k))) := by
  show (if (mk l).length ≤ LIM then some (D.str (L2.cutS (mk l) (some (k : Int)) none)) else none) = _
  rw [len_mk, if_pos h, cutS_from]
  rfl
theorem add_mk {a b : List Nat} (h : a.length + b.length ≤ LIM) : addD (.str (mk a)) (.str (mk b)) = some (.str (mk (a ++ b))) := by
  rw [add_str (by rw [len_mk, len_mk]; exact h), mk_app]
theorem split47_spl (b : List Nat) : spl 47 b = if 47 ∈ b then fst47 b :: spl 47 (snd47 b) else [b] := by
  by_cases h : 47 ∈ b
  · rw [if_pos h]
    obtain ⟨h1, h2⟩ := split47 h
    conv => lhs; rw [h1]
    exact spl_app 47 _ _ h2
  · rw [if_neg h, spl_free 47 b h]
theorem isNum_no47 {l : List Nat} (h : 47 ∈ l) : isNum l = false := by
  rw [Bool.eq_false_iff]
  intro z
  exact dg_ne47 (all_dg (isNum_all z).1) h
theorem isNum_ne {l : List Nat} (h : isNum l = true) : l ≠ [] := by
  rintro rfl
  exact absurd h (by decide)
theorem int_num {l : List Nat} (h : isNum l = true) : PD.intD (.str (mk l)) = some (.int (digitsVal l : Nat)) := by
  obtain ⟨h1, h2, h3, h4⟩ := isNum_all h
  exact int_str h1 (isNum_ne h) (by omega)
theorem evSs_app {G : Pg} {Φ : Nat → List PD.W → List M → Rs PD.W} : ∀ (a b : List S) (sl : Sl) (cs : List M), evSs G Φ (a ++ b) sl cs = match evSs G Φ a sl cs with
    | .ok .nx sl cs => evSs G Φ b sl cs
    | r => r
  | [], b, sl, cs => rfl
  | s :: a, b, sl, cs => by
    rw [List.cons_append, eSs_cons, eSs_cons]
    cases evS G Φ s sl cs with
    | ok f sl1 cs1 => cases f with
      | nx => exact evSs_app a b sl1 cs1
      | _ => rfl
    | _ => rfl
end PL
set_option Elab.async false
set_option linter.all false
set_option maxRecDepth 100000
set_option maxHeartbeats 4000000
set_option exponentiation.threshold 300
/-! PL8: drawn pairs, within the very size. -/
namespace PL
open PySem PySem.Spec PyProof.Rows L2 PD
def okZ (size : Int) (p : Int × Int) : Prop := p.1.natAbs ≤ size.natAbs ∧ 1 ≤ p.2 ∧ p.2 ≤ size
section
variable {G : Pg} {I : Ix}
theorem pr_stepz (h1 : G.fns[I.f_mix1]? = some (2, 2, b_mix1)) (n k : Nat) (hk : 6 ≤ k) (hk2 : k ≤ 4000) (most size : Int) (hz : 60 ≤ size) (hz2 : size.natAbs + 1 < 2 ^ k) (p q : Option PD.W) (c : Int) (found : List (Int × Int)) (hl : found.length < LIM) (s : Int) (hs : 0 ≤ s) (hs2 : s < 2147483647) (x6 x7 x8 x9 : Option PD.W) :
    ∃ (found' : List (Int × Int)) (s' : Int) (x6' x7' x8' x9' : Option PD.W), forB G (PD.call G (n + 1)) (.n 6) (prB I) (.int c) [p, q, some (.d (.int most)), some (.d (.int size)), some (.c 0), some (.c 1), x6, x7, x8, x9] [.lst (found.map pr), .lst [.int s]] = .ok .nx [p, q, some (.d (.int most)), some (.d (.int size)), some (.c 0), some (.c 1), x6', x7', x8', x9'] [.lst (found'.map pr), .lst [.int s']] ∧
      0 ≤ s' ∧ s' < 2147483647 ∧ (found' = found ∨ ((found.length : Int) < most ∧ ∃ z, okZ size z ∧ found' = found ++ [z])) := by
  by_cases hm : (found.length : Int) < most
  · have pw18 : arith .pow 10 18 = some (.int 1000000000000000000) := rfl
    have pw9 : arith .pow 10 9 = some (.int 1000000000) := rfl
    have pw3 : arith .pow 1000000007 3 = some (.int 1000000021000000147000000343) := rfl
    obtain ⟨g1, g2⟩ := emod_bd c (m := 1000000000000000000) (by omega)
    have md : arith .mod c 1000000000000000000 = some (.int (c.fmod 1000000000000000000)) := arith_mod (by omega)
    obtain ⟨s1, v1, M1, a1, a2, a3, a4⟩ := mix1_ok h1 n s (c.fmod 1000000000000000000) hs hs2 (by omega)
    have C1 := callW_ci (cs := [.lst (found.map pr), .lst [.int s]]) (i := 1) rfl (by simp) M1
    have md4 : arith .mod v1 4 = some (.int (v1 % 4)) := by rw [arith_mod (by omega), Int.fmod_eq_emod_of_nonneg _ (by omega)]
    obtain ⟨near, ix, b1, b2⟩ : ∃ near : Int, atI [D.int 9, D.int 60, D.int size, D.int size] (v1 % 4) = some (.int near) ∧ 9 ≤ near ∧ near ≤ size := by
      have : v1 % 4 = 0 ∨ v1 % 4 = 1 ∨ v1 % 4 = 2 ∨ v1 % 4 = 3 := by omega
      rcases this with h | h | h | h <;> rw [h]
      · exact ⟨9, rfl, by omega, by omega⟩
      · exact ⟨60, rfl, by omega, by omega⟩
      · exact ⟨size, rfl, by omega, by omega⟩
      · exact ⟨size, rfl, by omega, by omega⟩
    have nk : near.natAbs < 2 ^ k := by omega
    have m2 : arith .mul 2 near = some (.int (2 * near)) := a_mul (a := 2) (by decide) nk
    have mm : arith .mod c (2 * near + 1) = some (.int (c.fmod (2 * near + 1))) := arith_mod (by omega)
    obtain ⟨e1, e2⟩ := emod_bd c (m := 2 * near + 1) (by omega)
    have k2 : (2 * near + 1).natAbs < 2 ^ (k + 2) := by rw [Nat.pow_add]; omega
    have fd : arith .fdiv c (2 * near + 1) = some (.int (c.fdiv (2 * near + 1))) := a_fdiv (by omega) k2
    generalize htop : c.fmod (2 * near + 1) = tp at mm e1 e2
    generalize hre : c.fdiv (2 * near + 1) = re at fd
    have topk : (tp - near).natAbs < 2 ^ k := by omega
    have mt : arith .mod (tp - near) 1000000000 = some (.int ((tp - near).fmod 1000000000)) := arith_mod (by omega)
    obtain ⟨t1, t2⟩ := emod_bd (tp - near) (m := 1000000000) (by omega)
    obtain ⟨s2, v2, M2, c1, c2, c3, c4⟩ := mix1_ok h1 n s1 ((tp - near).fmod 1000000000) a1 a2 (by omega)
    have C2 := callW_ci (cs := [.lst (found.map pr), .lst [.int s1]]) (i := 1) rfl (by simp) M2
    have m3 : arith .mul v2 1000000021000000147000000343 = some (.int (v2 * 1000000021000000147000000343)) := a_mul (a := 40) (b := 100) (by omega) (by decide)
    have mr : ∀ r : Int, arith .mod r near = some (.int (r.fmod near)) := fun r => arith_mod (by omega)
    have okz : ∀ r : Int, okZ size (tp - near, 1 + r.fmod near) := fun r => by
      obtain ⟨h1, h2⟩ := emod_bd r (m := near) (by omega)
      exact ⟨by show (tp - near).natAbs ≤ size.natAbs; omega, by show 1 ≤ 1 + r.fmod near; omega, by show 1 + r.fmod near ≤ size; omega⟩
    by_cases hc : c < 1000000000000000000
    · refine ⟨found ++ [(tp - near, 1 + (re + v2 * 1000000021000000147000000343).fmod near)], s2, some (.d (.int c)), some (.d (.int near)), some (.d (.int (tp - near))), some (.d (.int (re + v2 * 1000000021000000147000000343))), ?_, c1, c2, .inr ⟨hm, _, okz _, rfl⟩⟩
      simp [forB, prB, opR, sem1, sem2, mulD, arD, addD, ltD, lenD, ixD, pk_c, mD, isLstC, hm, pw18, pw9, pw3, md, C1, md4, ix, m2, mm, fd, hc, mt, C2, m3, mr, hl, pr]
    · refine ⟨found ++ [(tp - near, 1 + re.fmod near)], s1, some (.d (.int c)), some (.d (.int near)), some (.d (.int (tp - near))), some (.d (.int re)), ?_, a1, a2, .inr ⟨hm, _, okz _, rfl⟩⟩
      simp [forB, prB, opR, sem1, sem2, mulD, arD, addD, ltD, lenD, ixD, pk_c, mD, isLstC, hm, pw18, pw9, pw3, md, C1, md4, ix, m2, mm, fd, hc, mr, hl, pr]
  · refine ⟨found, s, some (.d (.int c)), x7, x8, x9, ?_, hs, hs2, .inl rfl⟩
    simp [forB, prB, opR, sem1, sem2, ltD, lenD, pk_c, mD, hm]
theorem pr_loopz (h1 : G.fns[I.f_mix1]? = some (2, 2, b_mix1)) (n k : Nat) (hk : 6 ≤ k) (hk2 : k ≤ 4000) (most : Nat) (size : Int) (hz : 60 ≤ size) (hz2 : size.natAbs + 1 < 2 ^ k) (p q : Option PD.W) : ∀ (cs : List Int) (found : List (Int × Int)), found.length ≤ most → most < LIM → (∀ z ∈ found, okZ size z) → ∀ (s : Int), 0 ≤ s → s < 2147483647 → ∀ (x6 x7 x8 x9 : Option PD.W),
    ∃ (found' : List (Int × Int)) (s' : Int) (x6' x7' x8' x9' : Option PD.W), forL (forB G (PD.call G (n + 1)) (.n 6) (prB I)) (cs.map .int) [p, q, some (.d (.int most)), some (.d (.int size)), some (.c 0), some (.c 1), x6, x7, x8, x9] [.lst (found.map pr), .lst [.int s]] = .ok .nx [p, q, some (.d (.int most)), some (.d (.int size)), some (.c 0), some (.c 1), x6', x7', x8', x9'] [.lst (found'.map pr), .lst [.int s']] ∧
      found'.length ≤ most ∧ (∀ z ∈ found', okZ size z)
  | [], found, hl, _, ho, s, hs, hs2, x6, x7, x8, x9 => ⟨found, s, x6, x7, x8, x9, rfl, hl, ho⟩
  | c :: cs, found, hl, hm, ho, s, hs, hs2, x6, x7, x8, x9 => by
    obtain ⟨f1, s1, y6, y7, y8, y9, e, a1, a2, a3⟩ := pr_stepz h1 n k hk hk2 most size hz hz2 p q c found (by omega) s hs hs2 x6 x7 x8 x9
    rw [List.map_cons, forL_c, e]
    have st : f1.length ≤ most ∧ (∀ z ∈ f1, okZ size z) := by
      rcases a3 with a3 | ⟨b1, z, b2, b3⟩
      · subst a3; exact ⟨hl, ho⟩
      · subst b3
        refine ⟨by rw [List.length_append]; simp; omega, fun y hy => ?_⟩
        rcases List.mem_append.mp hy with hy | hy
        · exact ho y hy
        · cases List.mem_singleton.mp hy; exact b2
    exact pr_loopz h1 n k hk hk2 most size hz hz2 p q cs f1 st.1 hm st.2 s1 a1 a2 y6 y7 y8 y9
/-- drawn pairs -/
theorem pairs1z_ok (h0 : G.fns[I.f_cell_at]? = some (2, 2, b_cell_at)) (h1 : G.fns[I.f_mix1]? = some (2, 2, b_mix1)) (h2 : G.fns[I.f_pairs1]? = some (4, 10, b_pairs1 I)) (n k : Nat) (hk : 6 ≤ k) (hk2 : k ≤ 4000) (ns : List Int) (first most : Nat) (size : Int) (hm : most < LIM) (hz : 60 ≤ size) (hz2 : size.natAbs + 1 < 2 ^ k) :
    ∃ (found : List (Int × Int)) (ms : List M), PD.call G (n + 2) I.f_pairs1 [.d (lis ns), .d (.int first), .d (.int most), .d (.int size)] [] = .ok (.d (.lst (found.map pr))) ms ∧ found.length ≤ most ∧ ∀ z ∈ found, okZ size z := by
  rw [call_at h2]
  have C := callW2 (cs := [.lst []]) (cell_at h0 n ns first)
  generalize ns.getD first 0 = c at C
  have md : arith .mod c 2147483646 = some (.int (c.fmod 2147483646)) := arith_mod (by omega)
  obtain ⟨g1, g2⟩ := emod_bd c (m := 2147483646) (by omega)
  obtain ⟨found, s', x6, x7, x8, x9, e, a1, a2⟩ := pr_loopz h1 n k hk hk2 most size hz hz2 (some (.d (lis ns))) (some (.d (.int first))) (ns.drop first) [] (Nat.zero_le _) hm (fun _ h => nomatch h) (1 + c.fmod 2147483646) (by omega) (by omega) none none none none
  refine ⟨found, [.dead, .lst [.int s']], ?_, a1, a2⟩
  have e2 : b_pairs1 I = [.asg (.n 4) (.mlst []), .asg (.n 5) (.mlst [.op .add [.c (.int (1)), .op .mod [.call I.f_cell_at [.v 0, .v 1], .c (.int (2147483646))]]]), .for_ (.n 6) .seq [.slL (.v 0) (.v 1)] (prB I), .ret (.frz (.v 4))] := rfl
  simp only [runB, e2]
  have sl : slD (lis ns) (some (first : Int)) none = some (.lst ((ns.drop first).map .int)) := by
    show some (D.lst (PD.cutD _ _ _)) = _
    rw [cut_from, List.map_drop]
  generalize (ns.drop first).map D.int = ds at sl e
  have e : forL (forB G (PD.call G (n + 1)) (.n 6) (prB I)) ds [some (.d (lis ns)), some (.d (.int first)), some (.d (.int most)), some (.d (.int size)), some (.c 0), some (.c 1), none, none, none, none] [.lst [], .lst [.int (1 + c.fmod 2147483646)]] = _ := e
  simp [opR, sem2, arD, addD, md, C, sl, pk_c, mD, e]
end
end PL
set_option Elab.async false
set_option linter.all false
set_option maxRecDepth 100000
set_option maxHeartbeats 0
namespace Lw
open PySem PySem.Spec PyProof.Rows L2 PD
def top (i : Nat) : Stmt := PySem.Challenge.pw_chancery_k04_whole_texts.main.body.getD i (.Pass ⟨0, 0, 0, 0⟩)
def I : PL.Ix := { f_pairs1 := 1, f_lowest := 2, f_fraction_text := 4, f_is2 := 5, f_read_fraction := 6, f_cell_at := 7, f_mix1 := 8, f_number_of := 9, f_fraction := 10, f_common_part := 11, c_NoFraction := 0, k_FIGURES := 0, k_MOST_FIGURES := 1 }
/-- law -/
def b0 : List S := [
  .asg (.n 1) (.comp false [6, 7] (.t [.n 6, .n 7]) .seq [.call I.f_pairs1 [.v 0, .c (.int (0)), .c (.int (40)), .op .sub [.op .pow [.c (.int (10)), .c (.int (40))], .c (.int (1))]]] [] (.call I.f_lowest [.v 6, .v 7])),
  .asg (.n 1) (.op .add [.v 1, .lst [.tup [.c (.int (0)), .c (.int (1))], .tup [.op .sub [.op .pow [.c (.int (10)), .c (.int (40))], .c (.int (1))], .c (.int (1))], .tup [.op .sub [.c (.int (1)), .op .pow [.c (.int (10)), .c (.int (40))]], .op .sub [.op .pow [.c (.int (10)), .c (.int (40))], .c (.int (3))]]]]),
  .asg (.n 2) (.opC .dnew [.c (.dct [] [])]),
  .for_ (.n 3) .seq [.v 1] [.asg (.n 4) (.call 3 [.op .ix [.v 3, .c (.int (0))]]), .ite (.op .ne [.op .ix [.v 3, .c (.int (1))], .c (.int (1))]) [.asg (.n 4) (.op .add [.op .add [.v 4, .c (.str "/")], .call 3 [.op .ix [.v 3, .c (.int (1))]]])] [], .asg (.n 5) (.call I.f_fraction_text [.v 3]), .ite (.or_ (.not_ (.op (.isi [2]) [.v 5])) (.or_ (.op .ne [.v 5, .v 4]) (.not_ (.call I.f_is2 [.call I.f_read_fraction [.v 5], .v 3])))) [.ret (.c (.bl false))] [], .ite (.op .ne [.bm .get2 (.v 2) [.v 5, .v 3], .v 3]) [.ret (.c (.bl false))] [], .setix (.v 2) (.v 5) (.v 3)],
  .frz 2,
  .ret (.op .eq [.op .len [.v 2], .op .setlen [.v 1]])]
def f0 : Fi := ⟨("law", none), "law", defArgs (top 19), defBody (top 19), defScope (top 19), ["_law_script", "_law_row", "_law_texts", "_law_one", "_law_due", "_law_found", "_law_top", "_law_below"], ["_law_script"], b0⟩
def f1 : Fi := ⟨("_law_pairs", none), "_law_pairs", defArgs (top 16), defBody (top 16), defScope (top 16), ["_law_script", "_law_first", "_law_most", "_law_size", "_law_found", "_law_state", "_law_cell", "_law_near", "_law_top", "_law_rest"], ["_law_script", "_law_first", "_law_most", "_law_size"], PL.b_pairs1 I⟩
def f2 : Fi := ⟨("_law_lowest", none), "_law_lowest", defArgs (top 15), defBody (top 15), defScope (top 15), ["_law_top", "_law_below", "_law_one", "_law_other", "_law_sign"], ["_law_top", "_law_below"], PL.b_lowest⟩
/-- _law_figures -/
def b3 : List S := [
  .asg (.n 1) (.c (.str "")),
  .asg (.n 2) (.op .abs [.v 0]),
  .while_ (.or_ (.op .gt [.v 2, .c (.int (0))]) (.op .eq [.v 1, .c (.str "")])) [.asg (.n 1) (.op .add [.op .ix [.c (.str "0123456789"), .op .mod [.v 2, .c (.int (10))]], .v 1]), .asg (.n 2) (.op .fdiv [.v 2, .c (.int (10))])],
  .ret (.op .add [.op .ix [.lst [.c (.str ""), .c (.str "-")], .op .int [.op .lt [.v 0, .c (.int (0))]]], .v 1])]
def f3 : Fi := ⟨("_law_figures", none), "_law_figures", defArgs (top 18), defBody (top 18), defScope (top 18), ["_law_number", "_law_text", "_law_rest"], ["_law_number"], b3⟩
def f4 : Fi := ⟨("fraction_text", none), "fraction_text", defArgs (top 9), defBody (top 9), defScope (top 9), ["one"], ["one"], PL.b_fraction_text⟩
def f5 : Fi := ⟨("_law_is", none), "_law_is", defArgs (top 17), defBody (top 17), defScope (top 17), ["_law_found", "_law_due", "_law_one"], ["_law_found", "_law_due"], PL.b_is2⟩
def f6 : Fi := ⟨("read_fraction", none), "read_fraction", defArgs (top 11), defBody (top 11), defScope (top 11), ["text", "top", "below", "first", "stroke", "second"], ["text"], PL.b_read_fraction I⟩
def f7 : Fi := ⟨("_law_cell_at", none), "_law_cell_at", defArgs (top 13), defBody (top 13), defScope (top 13), ["_law_script", "_law_k"], ["_law_script", "_law_k"], PL.b_cell_at⟩
def f8 : Fi := ⟨("_law_mix", none), "_law_mix", defArgs (top 14), defBody (top 14), defScope (top 14), ["_law_state", "_law_cell"], ["_law_state", "_law_cell"], PL.b_mix1⟩
def f9 : Fi := ⟨("number_of", none), "number_of", defArgs (top 10), defBody (top 10), defScope (top 10), ["word", "sign"], ["word"], PL.b_number_of I⟩
def f10 : Fi := ⟨("fraction", none), "fraction", defArgs (top 5), defBody (top 5), defScope (top 5), ["top", "below", "part"], ["top", "below"], PL.b_fraction I⟩
def f11 : Fi := ⟨("common_part", none), "common_part", defArgs (top 4), defBody (top 4), defScope (top 4), ["one", "other", "whole", "rest"], ["one", "other"], PL.b_common_part⟩
def tb : Tb where
  fis := [f0, f1, f2, f3, f4, f5, f6, f7, f8, f9, f10, f11]
  fnames := [("law", 0), ("_law_pairs", 1), ("_law_lowest", 2), ("_law_figures", 3), ("fraction_text", 4), ("_law_is", 5), ("read_fraction", 6), ("_law_cell_at", 7), ("_law_mix", 8), ("number_of", 9), ("fraction", 10), ("common_part", 11)]
  cls := ["NoFraction"]
  bts := [("str", 2), ("tuple", 3), ("bool", 1), ("int", 0)]
  csts := [("FIGURES", .str "0123456789"), ("MOST_FIGURES", .int (40))]
  frees := ["isinstance", "str", "len", "set", "abs", "int", "tuple", "bool", "all", "divmod"]
  meths := []
  flds := []
  subs := []
  isTs := [(7, 0, false), (1, 0, true), (0, 0, true), (2, 0, false), (3, 0, false), (4, 0, false), (5, 0, false), (11, 0, false), (7, 1, false), (1, 1, true), (0, 1, false), (2, 1, false), (3, 1, false), (4, 1, false), (5, 1, false), (11, 1, false), (7, 2, false), (1, 2, false), (0, 2, false), (2, 2, true), (3, 2, false), (4, 2, false), (5, 2, false), (11, 2, false), (7, 3, false), (1, 3, false), (0, 3, false), (2, 3, false), (3, 3, true), (4, 3, false), (5, 3, false), (11, 3, false), (7, 4, false), (1, 4, false), (0, 4, false), (2, 4, false), (3, 4, false), (4, 4, true), (5, 4, false), (11, 4, false), (7, 5, false), (1, 5, false), (0, 5, false), (2, 5, false), (3, 5, false), (4, 5, false), (5, 5, true), (11, 5, false)]
  isXs := [0]
  fuel := 100000
def loose : List Str := ([("ChanceError" : Str), ("NoFraction" : Str), ("common_part" : Str), ("fraction" : Str), ("FIGURES" : Str), ("MOST_FIGURES" : Str), ("fraction_text" : Str), ("number_of" : Str), ("read_fraction" : Str), ("_law_cell_at" : Str), ("_law_mix" : Str), ("_law_lowest" : Str), ("_law_pairs" : Str), ("_law_is" : Str), ("_law_figures" : Str)] : List Str)
theorem binds : ∀ f ∈ tb.fis, BindP f.params f.ps := by
  intro f hf
  simp only [tb, List.mem_cons, List.not_mem_nil, or_false] at hf
  rcases hf with rfl | rfl | rfl | rfl | rfl | rfl | rfl | rfl | rfl | rfl | rfl | rfl
  · exact fun _ _ _ _ _ _ _ _ _ _ us hl => match us, hl with | [_], _ => rfl
  · exact fun _ _ _ _ _ _ _ _ _ _ us hl => match us, hl with | [_, _, _, _], _ => rfl
  · exact fun _ _ _ _ _ _ _ _ _ _ us hl => match us, hl with | [_, _], _ => rfl
  · exact fun _ _ _ _ _ _ _ _ _ _ us hl => match us, hl with | [_], _ => rfl
  · exact fun _ _ _ _ _ _ _ _ _ _ us hl => match us, hl with | [_], _ => rfl
  · exact fun _ _ _ _ _ _ _ _ _ _ us hl => match us, hl with | [_, _], _ => rfl
  · exact fun _ _ _ _ _ _ _ _ _ _ us hl => match us, hl with | [_], _ => rfl
  · exact fun _ _ _ _ _ _ _ _ _ _ us hl => match us, hl with | [_, _], _ => rfl
  · exact fun _ _ _ _ _ _ _ _ _ _ us hl => match us, hl with | [_, _], _ => rfl
  · exact fun _ _ _ _ _ _ _ _ _ _ us hl => match us, hl with | [_], _ => rfl
  · exact fun _ _ _ _ _ _ _ _ _ _ us hl => match us, hl with | [_, _], _ => rfl
  · exact fun _ _ _ _ _ _ _ _ _ _ us hl => match us, hl with | [_, _], _ => rfl
theorem okb : tb.okB = true := by decide +kernel
theorem oks : tb.fis.all (Fi.okB tb.T tb.G 60 400) = true := by decide +kernel
end Lw
set_option Elab.async false
set_option linter.all false
set_option maxRecDepth 100000
set_option maxHeartbeats 0
namespace Lw
open PySem PySem.Spec PyProof.Rows L2 PD
abbrev R : PySem.W.OpenRow := PySem.W.OpenLaw.row PySem.Challenge.rw_chancery_k04_whole_texts
abbrev hk : PySem.W.Hook := hookP 6 tb
def ob (s : PySem.W.SharedT) : Bool × He.AlD := obsPG 6 tb (HandSHeadRun.getT s)
theorem ob_eq (s : PySem.W.SharedT) : ob s = hk.obs s.abs := obsPG_eq (HandSHeadRun.getT_eq s)
theorem run (w : World) : HandSHeadRun.RunEq R (PySem.W.view R.prog [19]) hk ob 4000 loose w := by
  intro os
  kernel_rfl
end Lw
set_option Elab.async false
set_option linter.all false
set_option maxRecDepth 100000
set_option maxHeartbeats 4000000
set_option exponentiation.threshold 300
namespace Lw
open PySem PySem.Spec PyProof.Rows L2 PD PL NumText
theorem hT : HT tb.G := ⟨by decide +kernel⟩
theorem hrd : HRd tb.G I := ⟨⟨rfl, rfl, rfl⟩, ⟨rfl, rfl, rfl⟩, hT, rfl, rfl⟩
/-! figures -/
def fgT : E := .or_ (.op .gt [.v 2, .c (.int (0))]) (.op .eq [.v 1, .c (.str "")])
def fgB : List S := [.asg (.n 1) (.op .add [.op .ix [.c (.str "0123456789"), .op .mod [.v 2, .c (.int (10))]], .v 1]), .asg (.n 2) (.op .fdiv [.v 2, .c (.int (10))])]
theorem ix_fig (j : Nat) (h : j < 10) : ixD (.str (mk [48, 49, 50, 51, 52, 53, 54, 55, 56, 57])) (.int (j : Int)) = some (.str (mk [48 + j])) := by
  have : j = 0 ∨ j = 1 ∨ j = 2 ∨ j = 3 ∨ j = 4 ∨ j = 5 ∨ j = 6 ∨ j = 7 ∨ j = 8 ∨ j = 9 := by omega
  rcases this with rfl | rfl | rfl | rfl | rfl | rfl | rfl | rfl | rfl | rfl <;> rfl
theorem fg_step (Φ : Nat → List PD.W → List M → Rs PD.W) (cs : List M) (n m : Nat) (t : List Nat) (h : 0 < m ∨ t = []) (ht : t.length ≤ 1000) (x : Option PD.W) :
    whileL (evT tb.G Φ fgT) (evSs tb.G Φ fgB) (n + 1) [x, some (.d (.str (mk t))), some (.d (.int m))] cs = whileL (evT tb.G Φ fgT) (evSs tb.G Φ fgB) n [x, some (.d (.str (mk ((48 + m % 10) :: t)))), some (.d (.int (m / 10 : Nat)))] cs := by
  rw [whileL_s]
  have md : arith .mod (m : Int) 10 = some (.int (m % 10 : Nat)) := by
    rw [arith_mod (by omega), Int.fmod_eq_emod_of_nonneg _ (by omega)]
    rfl
  have fd : arith .fdiv (m : Int) 10 = some (.int (m / 10 : Nat)) := by
    rw [a_fdiv (b := 4) (by omega) (by decide), Int.fdiv_eq_ediv_of_nonneg _ (by omega)]
    rfl
  have ix := ix_fig (m % 10) (Nat.mod_lt _ (by omega))
  have ad := add_mk (a := [48 + m % 10]) (b := t) (Nat.le_trans (by simp; omega : _ ≤ 2000) (by decide))
  have pe : ∀ l, plainD (.str (mk l)) = true := fun _ => rfl
  have e1 : decide ((0 : Int) < (m : Int)) = decide (0 < m) := by rw [decide_eq_decide]; omega
  generalize ((m % 10 : Nat) : Int) = r at *
  generalize ((m / 10 : Nat) : Int) = dd at *
  have ad : addD (.str (mk [48 + m % 10])) (.str (mk t)) = some (.str (mk ((48 + m % 10) :: t))) := ad
  rcases h with h | rfl
  · have e2 : decide (0 < m) = true := decide_eq_true h
    simp [fgT, fgB, opR, sem2, arD, e1, e2, sfig, md, fd, ix, ad]
  · cases e2 : decide (0 < m) <;> simp [fgT, fgB, opR, sem2, arD, e1, e2, sfig, s0, pe, eq_mk, md, fd, ix, ad]
theorem fg_stop (Φ : Nat → List PD.W → List M → Rs PD.W) (cs : List M) (n : Nat) (c : Nat) (t : List Nat) (x : Option PD.W) :
    whileL (evT tb.G Φ fgT) (evSs tb.G Φ fgB) (n + 1) [x, some (.d (.str (mk (c :: t)))), some (.d (.int (0 : Nat)))] cs = .ok .nx [x, some (.d (.str (mk (c :: t)))), some (.d (.int (0 : Nat)))] cs := by
  rw [whileL_s]
  have pe : ∀ l, plainD (.str (mk l)) = true := fun _ => rfl
  simp [fgT, opR, sem2, arD, s0, pe, eq_mk]
theorem fg_loop (Φ : Nat → List PD.W → List M → Rs PD.W) (cs : List M) (x : Option PD.W) : ∀ (k n m : Nat) (t : List Nat), m < 10 ^ k → 0 < k → k + 1 ≤ n → (0 < m ∨ t = []) → t.length + k ≤ 900 →
    whileL (evT tb.G Φ fgT) (evSs tb.G Φ fgB) n [x, some (.d (.str (mk t))), some (.d (.int m))] cs = .ok .nx [x, some (.d (.str (mk (dig m ++ t)))), some (.d (.int (0 : Nat)))] cs
  | 0, _, _, _, _, h, _, _, _ => absurd h (by omega)
  | k + 1, n, m, t, hm, _, hn, h, hl => by
    obtain ⟨n', rfl⟩ : ∃ n', n = n' + 1 := ⟨n - 1, by omega⟩
    rw [fg_step Φ cs n' m t h (by omega)]
    by_cases h9 : m < 10
    · have e1 : m / 10 = 0 := by omega
      have e2 : m % 10 = m := by omega
      obtain ⟨n'', rfl⟩ : ∃ n'', n' = n'' + 1 := ⟨n' - 1, by omega⟩
      rw [e1, e2, fg_stop, dig_lt h9]
      rfl
    · rw [fg_loop Φ cs x k n' (m / 10) ((48 + m % 10) :: t) (by rw [Nat.pow_succ] at hm; omega) (by
        cases k with
        | zero => omega
        | succ k => omega) (by omega) (.inl (by omega)) (by simp; omega), dig_ge (n := m) (by omega), List.append_assoc]
      rfl
theorem fig_ok (n : Nat) (i : Int) (hi : i.natAbs < 10 ^ 40) : PD.call tb.G (n + 1) 3 [.d (.int i)] [] = .ok (.d (.str (mk (digI i)))) [] := by
  rw [call_at (np := 1) (ns := 3) (b := b3) rfl]
  have L := fg_loop (PD.call tb.G n) [] (some (.d (.int i))) 40 100000 i.natAbs [] hi (by omega) (by omega) (.inr rfl) (by simp)
  rw [List.append_nil] at L
  have ib : ∀ b : Bool, PD.intD (.bl b) = some (.int (if b = true then 1 else 0)) := fun _ => rfl
  have ab := abs_int i
  have fu : tb.G.fuel = 100000 := rfl
  have bb : Lw.b3 = [.asg (.n 1) (.c (.str "")), .asg (.n 2) (.op .abs [.v 0]), .while_ fgT fgB, .ret (.op .add [.op .ix [.lst [.c (.str ""), .c (.str "-")], .op .int [.op .lt [.v 0, .c (.int (0))]]], .v 1])] := rfl
  have dl := dig_len 40 i.natAbs hi (by omega)
  have a0 := add_mk (a := []) (b := dig i.natAbs) (Nat.le_trans (by simp; omega : _ ≤ 2000) (by decide))
  have a1 := add_mk (a := [45]) (b := dig i.natAbs) (Nat.le_trans (by simp; omega : _ ≤ 2000) (by decide))
  rw [List.nil_append] at a0
  have a1 : addD (.str (mk [45])) (.str (mk (dig i.natAbs))) = some (.str (mk (45 :: dig i.natAbs))) := a1
  rw [bb]
  unfold digI
  by_cases h : i < 0
  · rw [if_pos h]
    generalize i.natAbs = m at *
    generalize dig m = dm at *
    simp [runB, opR, sem1, sem2, arD, ab, s0, s45, fu, L, ib, h, a1]
  · rw [if_neg h]
    generalize i.natAbs = m at *
    generalize dig m = dm at *
    simp [runB, opR, sem1, sem2, arD, ab, s0, s45, fu, L, ib, h, a0]
/-! small fractions -/
def sm (q : Rat) : Prop := q.num.natAbs < 10 ^ 40 ∧ q.den < 10 ^ 40
theorem sm_sz {q : Rat} (h : sm q) : sz 133 q := by
  have : (10 : Nat) ^ 40 < 2 ^ 133 := by decide
  exact ⟨Nat.lt_trans h.1 this, Nat.lt_trans h.2 this⟩
theorem isNum_of {m : Nat} (h : m < 10 ^ 40) : isNum (dig m) = true := by
  have l1 := dig_len 40 m h (by omega)
  have l0 : 1 ≤ (dig m).length := List.length_pos_iff.mpr (dig_ne m)
  have al : (dig m).all isDg = true := List.all_eq_true.mpr fun c hc => by
    have := all_dig m c hc
    simp [isDg, this.1, this.2]
  unfold isNum
  rw [decide_eq_true l0, decide_eq_true l1, al]
  by_cases h0 : m = 0
  · subst h0
    decide +kernel
  · rw [decide_eq_true (dig_head (Nat.pos_of_ne_zero h0))]
    simp
theorem parse_txt (m d : Nat) (hm : m < 10 ^ 40) (hd : d < 10 ^ 40) : parse (dig m ++ if d = 1 then [] else 47 :: dig d) = some (m, if d = 1 then none else some d) := by
  by_cases h1 : d = 1
  · rw [if_pos h1, if_pos h1, List.append_nil]
    unfold parse
    rw [if_neg (dg_ne47 (all_dig m)), isNum_of hm, if_pos rfl, val_dig]
  · rw [if_neg h1, if_neg h1]
    have tw := tw_app (p := (· != 47)) (a := dig m) (c := 47) (b := dig d) (fun x hx => by
      have := all_dig m x hx
      simp
      omega) (by simp)
    have f1 : fst47 (dig m ++ 47 :: dig d) = dig m := tw.1
    have f2 : snd47 (dig m ++ 47 :: dig d) = dig d := by
      unfold snd47
      rw [tw.2]
      rfl
    unfold parse
    rw [if_pos (by simp), f1, f2, isNum_of hm, isNum_of hd, if_pos rfl, if_pos rfl, val_dig, val_dig]
theorem rd_txt {q : Rat} (h : sm q) : rdS (txt q) = some q := by
  have hp : parse (body (txt q)) = some (q.num.natAbs, if q.den = 1 then none else some q.den) := by
    rw [txt_eq, body_of]
    exact parse_txt _ _ h.1 h.2
  have hn : neg (txt q) = decide (q.num < 0) := by rw [txt_eq, neg_of]
  have e1 : sgn (neg (txt q)) q.num.natAbs = q.num := by
    rw [hn]
    unfold sgn
    by_cases z : q.num < 0
    · rw [decide_eq_true z, if_pos rfl]; omega
    · rw [decide_eq_false z, if_neg (by simp)]; omega
  have e2 : (if q.den = 1 then none else some q.den : Option Nat).getD 1 = q.den := by
    by_cases z : q.den = 1
    · rw [if_pos z]; exact z.symm
    · rw [if_neg z]; rfl
  unfold rdS
  rw [hp]
  show (if _ then _ else if _ then _ else _) = _
  rw [e1, e2, if_neg q.den_nz, Rat.num_divInt_den, if_pos rfl]
theorem txt_inj {q r : Rat} (hq : sm q) (hr : sm r) (h : txt q = txt r) : q = r := by
  have := rd_txt hq
  rw [h, rd_txt hr] at this
  exact (Option.some.inj this).symm
theorem digI_den (q : Rat) : digI (q.den : Int) = dig q.den := by
  unfold digI
  rw [if_neg (by omega)]
  rfl
/-! the dict -/
def key (q : Rat) : Key := .inr (mk (txt q))
theorem key_inj {q r : Rat} (hq : sm q) (hr : sm r) (h : key q = key r) : q = r := txt_inj hq hr (mk_inj (Sum.inr.inj h))
theorem dget_us {q : Rat} (hq : sm q) : ∀ us : List Rat, (∀ r ∈ us, sm r) → (dget (us.map key) (us.map fr) (key q)).getD (fr q) = fr q
  | [], _ => rfl
  | r :: us, h => by
    show (if key q = key r then some (fr r) else dget (us.map key) (us.map fr) (key q)).getD (fr q) = _
    by_cases z : key q = key r
    · rw [if_pos z, key_inj hq (h r List.mem_cons_self) z]; rfl
    · rw [if_neg z]
      exact dget_us hq us fun s hs => h s (List.mem_cons_of_mem _ hs)
theorem dset_us {q : Rat} (hq : sm q) : ∀ us : List Rat, (∀ r ∈ us, sm r) → dset (us.map key) (us.map fr) (key q) (fr q) = us.map fr
  | [], _ => rfl
  | r :: us, h => by
    show (if key r = key q then fr q else fr r) :: dset (us.map key) (us.map fr) (key q) (fr q) = _
    rw [dset_us hq us fun s hs => h s (List.mem_cons_of_mem _ hs)]
    by_cases z : key r = key q
    · rw [if_pos z, key_inj (h r List.mem_cons_self) hq z]; rfl
    · rw [if_neg z]; rfl
def addQ (us : List Rat) (q : Rat) : List Rat := if q ∈ us then us else us ++ [q]
theorem dput_us {q : Rat} (hq : sm q) (us : List Rat) (h : ∀ r ∈ us, sm r) : dput (us.map key) (us.map fr) (key q) (fr q) = ((addQ us q).map key, (addQ us q).map fr) := by
  unfold dput addQ
  by_cases z : q ∈ us
  · have : (us.map key).any (fun k => decide (k = key q)) = true := List.any_eq_true.mpr ⟨key q, List.mem_map.mpr ⟨q, z, rfl⟩, by simp⟩
    rw [if_pos this, if_pos z, dset_us hq us h]
  · have : ¬ (us.map key).any (fun k => decide (k = key q)) = true := fun y => by
      obtain ⟨k, hk, e⟩ := List.any_eq_true.mp y
      obtain ⟨r, hr, rfl⟩ := List.mem_map.mp hk
      have := key_inj (h r hr) hq (of_decide_eq_true e)
      rw [this] at hr
      exact z hr
    rw [if_neg this, if_neg z, List.map_append, List.map_append]
    rfl
theorem addQ_sm {us : List Rat} {q : Rat} (h : ∀ r ∈ us, sm r) (hq : sm q) : ∀ r ∈ addQ us q, sm r := by
  unfold addQ
  intro r hr
  split at hr
  · exact h r hr
  · rcases List.mem_append.mp hr with hr | hr
    · exact h r hr
    · cases List.mem_singleton.mp hr; exact hq
theorem addQ_nd {us : List Rat} {q : Rat} (h : us.Nodup) : (addQ us q).Nodup := by
  unfold addQ
  split
  · exact h
  · rename_i z
    refine List.nodup_append.mpr ⟨h, by simp, ?_⟩
    intro a ha b hb e
    cases List.mem_singleton.mp hb
    exact z (e ▸ ha)
theorem addQ_mem {us : List Rat} {q r : Rat} : r ∈ addQ us q ↔ r ∈ us ∨ r = q := by
  unfold addQ
  split
  · rename_i z
    constructor
    · exact .inl
    · rintro (h | rfl)
      · exact h
      · exact z
  · rw [List.mem_append, List.mem_singleton]
theorem addQ_len {us : List Rat} {q : Rat} : (addQ us q).length ≤ us.length + 1 := by
  unfold addQ
  split
  · omega
  · simp
end Lw
set_option Elab.async false
set_option linter.all false
set_option maxRecDepth 100000
set_option maxHeartbeats 4000000
set_option exponentiation.threshold 300
namespace Lw
open PySem PySem.Spec PyProof.Rows L2 PD PL NumText
def lpB : List S := [.asg (.n 4) (.call 3 [.op .ix [.v 3, .c (.int (0))]]), .ite (.op .ne [.op .ix [.v 3, .c (.int (1))], .c (.int (1))]) [.asg (.n 4) (.op .add [.op .add [.v 4, .c (.str "/")], .call 3 [.op .ix [.v 3, .c (.int (1))]]])] [], .asg (.n 5) (.call I.f_fraction_text [.v 3]), .ite (.or_ (.not_ (.op (.isi [2]) [.v 5])) (.or_ (.op .ne [.v 5, .v 4]) (.not_ (.call I.f_is2 [.call I.f_read_fraction [.v 5], .v 3])))) [.ret (.c (.bl false))] [], .ite (.op .ne [.bm .get2 (.v 2) [.v 5, .v 3], .v 3]) [.ret (.c (.bl false))] [], .setix (.v 2) (.v 5) (.v 3)]
theorem rfl_flat (q : Rat) : flatD (fr q) = true := rfl
theorem lp_step (q : Rat) (hq : sm q) (us : List Rat) (hu : ∀ r ∈ us, sm r) (hl : us.length ≤ 1000) (x0 x1 x3 x4 x5 x6 x7 : Option PD.W) :
    ∃ y4 y5, forB tb.G (PD.call tb.G 8) (.n 3) lpB (fr q) [x0, x1, some (.c 0), x3, x4, x5, x6, x7] [.dct (us.map key) (us.map fr)] = .ok .nx [x0, x1, some (.c 0), some (.d (fr q)), y4, y5, x6, x7] [.dct ((addQ us q).map key) ((addQ us q).map fr)] := by
  have F0 := callW1 (cs := [.dct (us.map key) (us.map fr)]) (fig_ok 7 q.num hq.1)
  have F1 := callW1 (cs := [.dct (us.map key) (us.map fr)]) (fig_ok 7 (q.den : Int) (by show ((q.den : Int)).natAbs < 10 ^ 40; rw [Int.natAbs_natCast]; exact hq.2))
  rw [digI_den] at F1
  have FT : callW (PD.call tb.G 8 I.f_fraction_text) [.d (fr q)] [.dct (us.map key) (us.map fr)] = .ok (.d (.str (mk (txt q)))) [.dct (us.map key) (us.map fr)] := callW1 (fraction_text_ok (G := tb.G) (I := I) rfl 7 (q, true) (sz_mono (sm_sz hq) (by omega)))
  have sz := sm_sz hq
  have tl : (txt q).length ≤ 2 * 133 + 2 := by
    have b1 := digI_len sz.1 (by omega)
    have b2 := dig_len 133 q.den (lt10 sz.2) (by omega)
    unfold txt
    split
    · omega
    · rw [List.length_append, List.length_cons]; omega
  have RD : callW (PD.call tb.G 8 I.f_read_fraction) [.d (.str (mk (txt q)))] [.dct (us.map key) (us.map fr)] = .ok (.d (fr q)) [.dct (us.map key) (us.map fr)] := by
    have R := read_ok hrd 5 (txt q) (Nat.le_trans (by omega : _ ≤ 2000) (by decide))
    rw [rd_txt hq] at R
    exact callW1 R
  have I2 : callW (PD.call tb.G 8 I.f_is2) [.d (fr q), .d (fr q)] [.dct (us.map key) (us.map fr)] = .ok (.d (.bl true)) [.dct (us.map key) (us.map fr)] := callW2 (is2_ok (G := tb.G) (I := I) rfl hT 7 q.num q.den)
  have i0 : ixD (fr q) (.int 0) = some (.int q.num) := (frp_ix (q, true)).1
  have i1 : ixD (fr q) (.int 1) = some (.int q.den) := (frp_ix (q, true)).2
  have is := hT.one (d := .str (mk (txt q))) rfl (a := 2) (by decide)
  have pe : ∀ l, plainD (.str (mk l)) = true := fun _ => rfl
  have ro : recvOk .get2 (some (.dct (us.map key) (us.map fr))) = true := rfl
  have g2 : sem3 .get2 (.dct (us.map key) (us.map fr)) (.str (mk (txt q))) (fr q) = some (fr q) := by
    have z := dget_us hq us hu
    unfold sem3
    simp only [rfl_flat q, if_true]
    show some ((dget (us.map key) (us.map fr) (key q)).getD (fr q)) = _
    rw [z]
  have pf := pl_ok (pl_fr q)
  have ef := pl_refl (pl_fr q)
  have kf : keyOf (.str (mk (txt q))) = some (key q) := rfl
  have dp := dput_us hq us hu
  have lk : (us.map key).length < LIM := by rw [List.length_map]; exact Nat.lt_of_lt_of_le (by omega : _ < 2000) (by decide)
  have a1 : addD (.str (mk (digI q.num))) (.str (mk [47])) = some (.str (mk (digI q.num ++ [47]))) := add_mk (Nat.le_trans (by
    have b1 := digI_len sz.1 (by omega)
    simp; omega : _ ≤ 2000) (by decide))
  have a2 : addD (.str (mk (digI q.num ++ [47]))) (.str (mk (dig q.den))) = some (.str (mk (digI q.num ++ [47] ++ dig q.den))) := add_mk (Nat.le_trans (by
    have b1 := digI_len sz.1 (by omega)
    have b2 := dig_len 133 q.den (lt10 sz.2) (by omega)
    simp; omega : _ ≤ 2000) (by decide))
  have tx : txt q = if q.den = 1 then digI q.num else digI q.num ++ 47 :: dig q.den := rfl
  refine ⟨some (.d (.str (mk (txt q)))), some (.d (.str (mk (txt q)))), ?_⟩
  generalize (addQ us q).map key = uk at *
  generalize (addQ us q).map fr = uf at *
  generalize us.map key = ks at *
  generalize us.map fr = vs at *
  generalize key q = kq at *
  by_cases h1 : q.den = 1
  · have e1 : ((q.den : Int) == 1) = true := by rw [h1]; rfl
    rw [if_pos h1] at tx
    rw [← tx] at F0
    simp [forB, lpB, opR, sem1, sem2, i0, i1, F0, plain_int, eqD_int, e1, FT, is, pe, eq_mk, RD, I2, pk_c, mD, ro, g2, pf, ef, kf, dp, lk]
  · have e1 : ((q.den : Int) == 1) = false := beq_eq_false_iff_ne.mpr (by omega)
    rw [if_neg h1] at tx
    have tx : digI q.num ++ [47] ++ dig q.den = txt q := by rw [tx, List.append_assoc]; rfl
    rw [tx] at a2
    simp [forB, lpB, opR, sem1, sem2, i0, i1, F0, F1, s47, a1, a2, plain_int, eqD_int, e1, FT, is, pe, eq_mk, RD, I2, pk_c, mD, ro, g2, pf, ef, kf, dp, lk]
theorem lp_loop (x0 x1 x6 x7 : Option PD.W) : ∀ (qs : List Rat), (∀ q ∈ qs, sm q) → ∀ (us : List Rat), (∀ r ∈ us, sm r) → us.Nodup → us.length + qs.length ≤ 1000 → ∀ x3 x4 x5 : Option PD.W,
    ∃ (us' : List Rat) (y3 y4 y5 : Option PD.W), forL (forB tb.G (PD.call tb.G 8) (.n 3) lpB) (qs.map fr) [x0, x1, some (.c 0), x3, x4, x5, x6, x7] [.dct (us.map key) (us.map fr)] = .ok .nx [x0, x1, some (.c 0), y3, y4, y5, x6, x7] [.dct (us'.map key) (us'.map fr)] ∧ us'.Nodup ∧ ∀ r, r ∈ us' ↔ r ∈ us ∨ r ∈ qs
  | [], _, us, _, nd, _, x3, x4, x5 => ⟨us, x3, x4, x5, rfl, nd, fun r => by simp⟩
  | q :: qs, hq, us, hu, nd, hl, x3, x4, x5 => by
    have hl : us.length + (qs.length + 1) ≤ 1000 := hl
    obtain ⟨y4, y5, e⟩ := lp_step q (hq q List.mem_cons_self) us hu (by omega) x0 x1 x3 x4 x5 x6 x7
    have al := addQ_len (us := us) (q := q)
    obtain ⟨us', z3, z4, z5, e2, n2, m2⟩ := lp_loop x0 x1 x6 x7 qs (fun r hr => hq r (List.mem_cons_of_mem _ hr)) (addQ us q) (addQ_sm hu (hq q List.mem_cons_self)) (addQ_nd nd) (by omega) (some (.d (fr q))) y4 y5
    refine ⟨us', z3, z4, z5, ?_, n2, fun r => ?_⟩
    · rw [List.map_cons, forL_c, e]
      exact e2
    · rw [m2, addQ_mem, List.mem_cons]
      constructor
      · rintro ((h | h) | h)
        · exact .inl h
        · exact .inr (.inl h)
        · exact .inr (.inr h)
      · rintro (h | h | h)
        · exact .inl (.inl h)
        · exact .inl (.inr h)
        · exact .inr h
def nd2 (q : Rat) : List Int := [q.num, q.den]
theorem nd2_inj {q r : Rat} (h : nd2 q = nd2 r) : q = r := by
  unfold nd2 at h
  simp only [List.cons.injEq, and_true] at h
  exact Rat.ext h.1 (by omega)
theorem pairs_fr : ∀ qs : List Rat, isPairs (qs.map fr) = some (qs.map nd2)
  | [] => rfl
  | q :: qs => by
    show (match isInts [D.int q.num, D.int q.den], isPairs (qs.map fr) with | some k, some r => some (k :: r) | _, _ => none) = _
    rw [pairs_fr qs]
    rfl
theorem map_nodup {us : List Rat} (h : us.Nodup) : (us.map nd2).Nodup := by
  refine List.pairwise_map.mpr (List.Pairwise.imp (fun {a b} hne e => hne (nd2_inj e)) h)
theorem plain (ns : List Int) (hl : ns.length ≤ 63) (hb : ∀ z ∈ ns, Builtin.Int.intBits z ≤ 1048576) : ∃ cs, PD.call tb.G 9 0 [.d (lis ns)] [] = .ok (.d (.bl true)) cs := by
  rw [call_at (np := 1) (ns := 8) (b := b0) rfl]
  obtain ⟨found, ms, PA, pl1, pl2⟩ := pairs1z_ok (G := tb.G) (I := I) rfl rfl rfl 6 140 (by omega) (by omega) ns 0 40 9999999999999999999999999999999999999999 (by decide) (by omega) (by decide)
  have PA : callW (PD.call tb.G 8 I.f_pairs1) [.d (lis ns), .d (.int 0), .d (.int 40), .d (.int 9999999999999999999999999999999999999999)] [] = .ok (.d (.lst (found.map pr))) [] := callW_d (ds := [lis ns, .int 0, .int 40, .int 9999999999999999999999999999999999999999]) (cs := []) rfl PA
  have pw : arith .pow 10 40 = some (.int 10000000000000000000000000000000000000000) := rfl
  have LO : ∀ p ∈ found, callW (PD.call tb.G 8 I.f_lowest) [.d (.int p.1), .d (.int p.2)] [] = .ok (.d (fr (Rat.divInt p.1 p.2))) [] := fun p hp => by
    obtain ⟨h1, h2, h3⟩ := pl2 p hp
    exact callW2 (lowest_ok (G := tb.G) (I := I) rfl rfl 7 p.1 p.2 (by omega) (up (k := 140) (by omega) (by omega)) (up (k := 140) (by omega) (by omega)))
  have qsm : ∀ p ∈ found, sm (Rat.divInt p.1 p.2) := fun p hp => by
    obtain ⟨h1, h2, h3⟩ := pl2 p hp
    obtain ⟨d1, d2⟩ := divInt_le (t := p.1) (b := p.2) (by omega)
    exact ⟨by omega, by omega⟩
  have CL : compL (cF tb.G (PD.call tb.G 8) [some (.d (lis ns)), none, none, none, none, none, none, none] [6, 7] (.t [.n 6, .n 7]) [] (.call I.f_lowest [.v 6, .v 7])) (found.map pr) [] [] = .ok ([] ++ found.map fun p => fr (Rat.divInt p.1 p.2)) [] := compL_mapA fun p hp => by
    simp [cF, pr, LO p hp]
  rw [List.nil_append] at CL
  have em : (found.map fun p => fr (Rat.divInt p.1 p.2)) = (found.map fun p : Int × Int => Rat.divInt p.1 p.2).map fr := by rw [List.map_map]; rfl
  have ql : (found.map fun p : Int × Int => Rat.divInt p.1 p.2).length ≤ 40 := by rw [List.length_map]; exact pl1
  have qm : ∀ q ∈ (found.map fun p : Int × Int => Rat.divInt p.1 p.2), sm q := fun q hq => by
    obtain ⟨p, hp, rfl⟩ := List.mem_map.mp hq
    exact qsm p hp
  rw [em] at CL
  generalize (found.map fun p : Int × Int => Rat.divInt p.1 p.2) = qs at *
  have r3 : ([.tup [.int 0, .int 1], .tup [.int 9999999999999999999999999999999999999999, .int 1], .tup [.int (-9999999999999999999999999999999999999999), .int 9999999999999999999999999999999999999997]] : List D) = ([0, ((9999999999999999999999999999999999999999 : Int) : Rat), Rat.divInt (-9999999999999999999999999999999999999999) 9999999999999999999999999999999999999997] : List Rat).map fr := by
    have a : (Rat.divInt (-9999999999999999999999999999999999999999) 9999999999999999999999999999999999999997).num = -9999999999999999999999999999999999999999 := by decide +kernel
    have b : (Rat.divInt (-9999999999999999999999999999999999999999) 9999999999999999999999999999999999999997).den = 9999999999999999999999999999999999999997 := by decide +kernel
    have c : fr (Rat.divInt (-9999999999999999999999999999999999999999) 9999999999999999999999999999999999999997) = .tup [.int (-9999999999999999999999999999999999999999), .int 9999999999999999999999999999999999999997] := by
      unfold fr
      rw [a, b]; rfl
    show _ = [fr 0, fr ((9999999999999999999999999999999999999999 : Int) : Rat), fr (Rat.divInt (-9999999999999999999999999999999999999999) 9999999999999999999999999999999999999997)]
    rw [c]
    rfl
  have m3 : ∀ q ∈ ([0, ((9999999999999999999999999999999999999999 : Int) : Rat), Rat.divInt (-9999999999999999999999999999999999999999) 9999999999999999999999999999999999999997] : List Rat), sm q := fun q hq => by
    simp only [List.mem_cons, List.not_mem_nil, or_false] at hq
    rcases hq with rfl | rfl | rfl
    · exact ⟨by decide +kernel, by decide +kernel⟩
    · exact ⟨by decide +kernel, by decide +kernel⟩
    · exact ⟨by decide +kernel, by decide +kernel⟩
  have l3 : ([0, ((9999999999999999999999999999999999999999 : Int) : Rat), Rat.divInt (-9999999999999999999999999999999999999999) 9999999999999999999999999999999999999997] : List Rat).length = 3 := rfl
  generalize ([0, ((9999999999999999999999999999999999999999 : Int) : Rat), Rat.divInt (-9999999999999999999999999999999999999999) 9999999999999999999999999999999999999997] : List Rat) = q3 at *
  have ad : addD (.lst (qs.map fr)) (.lst (q3.map fr)) = some (.lst ((qs ++ q3).map fr)) := by
    rw [add_lst (Nat.le_trans (by rw [List.length_map, List.length_map]; omega : _ ≤ 2000) (by decide)), List.map_append]
  obtain ⟨us', y3, y4, y5, e, n2, mm⟩ := lp_loop (some (.d (lis ns))) (some (.d (.lst ((qs ++ q3).map fr)))) none none (qs ++ q3) (fun q hq => by
    rcases List.mem_append.mp hq with h | h
    · exact qm q h
    · exact m3 q h) [] (fun _ h => absurd h List.not_mem_nil) List.nodup_nil (by rw [List.length_append]; simp; omega) none none none
  have ln : lenD (.dct (us'.map key) (us'.map fr)) = some (.int (us'.length : Nat)) := by
    show some (D.int ((us'.map key).length : Nat)) = _
    rw [List.length_map]
  have sl : setlenD (.lst ((qs ++ q3).map fr)) = some (.int (us'.length : Nat)) := by
    show (match isPairs ((qs ++ q3).map fr) with | some ks => if ks.length < 64 then some (D.int (ddL ks).length) else none | none => none) = _
    rw [pairs_fr]
    show (if ((qs ++ q3).map nd2).length < 64 then some (D.int (ddL ((qs ++ q3).map nd2)).length) else none) = _
    rw [if_pos (by rw [List.length_map, List.length_append]; omega)]
    have z := ddL_len (ks := (qs ++ q3).map nd2) (map_nodup n2) (fun k hk => by
      obtain ⟨q, hq, rfl⟩ := List.mem_map.mp hk
      rcases (mm q).mp hq with h | h
      · exact absurd h List.not_mem_nil
      · exact List.mem_map.mpr ⟨q, h, rfl⟩) fun k hk => by
        obtain ⟨q, hq, rfl⟩ := List.mem_map.mp hk
        exact List.mem_map.mpr ⟨q, (mm q).mpr (.inr hq), rfl⟩
    rw [List.length_map] at z
    rw [z]
  have e : forL (forB tb.G (PD.call tb.G 8) (.n 3) lpB) ((qs ++ q3).map fr) [some (.d (lis ns)), some (.d (.lst ((qs ++ q3).map fr))), some (.c 0), none, none, none, none, none] [.dct [] []] = .ok .nx [some (.d (lis ns)), some (.d (.lst ((qs ++ q3).map fr))), some (.c 0), y3, y4, y5, none, none] [.dct (us'.map key) (us'.map fr)] := e
  have bb : Lw.b0 = [.asg (.n 1) (.comp false [6, 7] (.t [.n 6, .n 7]) .seq [.call I.f_pairs1 [.v 0, .c (.int (0)), .c (.int (40)), .op .sub [.op .pow [.c (.int (10)), .c (.int (40))], .c (.int (1))]]] [] (.call I.f_lowest [.v 6, .v 7])),
  .asg (.n 1) (.op .add [.v 1, .lst [.tup [.c (.int (0)), .c (.int (1))], .tup [.op .sub [.op .pow [.c (.int (10)), .c (.int (40))], .c (.int (1))], .c (.int (1))], .tup [.op .sub [.c (.int (1)), .op .pow [.c (.int (10)), .c (.int (40))]], .op .sub [.op .pow [.c (.int (10)), .c (.int (40))], .c (.int (3))]]]]),
  .asg (.n 2) (.opC .dnew [.c (.dct [] [])]),
  .for_ (.n 3) .seq [.v 1] lpB,
  .frz 2,
  .ret (.op .eq [.op .len [.v 2], .op .setlen [.v 1]])] := rfl
  have lu : (q3.map fr).length ≤ LIM := by rw [List.length_map, l3]; decide
  generalize qs.map fr = us1 at *
  generalize q3.map fr = us2 at *
  generalize (qs ++ q3).map fr = rows at *
  generalize us'.map key = ks at *
  generalize us'.map fr = vs at *
  have tm : toM (.dct [] []) = some (.dct [] []) := rfl
  refine ⟨[.dead], runB_ret (sl := [some (.d (lis ns)), some (.d (.lst rows)), some (.d (.dct ks vs)), y3, y4, y5, none, none]) rfl ?_⟩
  rw [bb]
  simp [opR, sem1, sem2, arD, PA, pw, CL, r3, lu, ad, tm, e, pk_c, mD, ln, sl, plain_int, eqD_int]
end Lw
set_option Elab.async false
set_option linter.all false
set_option maxRecDepth 100000
set_option maxHeartbeats 0
namespace Lw
open PySem PySem.Spec PyProof.Rows L2 PD
theorem bt : BtP tb.bts := by
  intro p hp
  simp only [tb, List.mem_cons, List.not_mem_nil, or_false] at hp
  rcases hp with rfl | rfl | rfl | rfl <;> decide +kernel
end Lw
open PySem PySem.W PySem.Calls PyProof.Rows
theorem PySem.Challenge.cw_chancery_k04_whole_texts_holds : PySem.Challenge.rw_chancery_k04_whole_texts.Holds := by
  w_on; o_law
  refine HandSHeadRun.head_any (r := OpenLaw.row PySem.Challenge.rw_chancery_k04_whole_texts) (q := view (OpenLaw.row PySem.Challenge.rw_chancery_k04_whole_texts).prog [19]) (H := Lw.hk) (ob := Lw.ob) (M := 4000) (loose := Lw.loose) (d := HandSHeadRun.topDef (OpenLaw.row PySem.Challenge.rw_chancery_k04_whole_texts).prog 19) (kwd := []) Lw.ob_eq
    (by kernel_rfl) (fun s => by kernel_rfl) Lw.run (by kernel_rfl) (by kernel_rfl) (by kernel_rfl) (by rfl) (by first | assumption | decide +kernel) (by decide +kernel) ⟨rfl, rfl, rfl, rfl, rfl, by decide +kernel⟩ ?hw ?hc
  case hw => w_witness2
  case hc =>
    refine PD.walk_P (l := PySem.Challenge.rw_chancery_k04_whole_texts) (n := 63) (k := 2 * 8 + 2) (x := "_law_script") (CX := fun w => L2.CX PySem.Challenge.rw_chancery_k04_whole_texts.prog w) rfl (by decide) (by kernel_rfl) ⟨rfl, by decide, by decide⟩ ?F PD.noEx
    intro w mg fa h Y G hmg0
    have hmg : mg ("law" : PySem.Str) = some (.ref fa) := by
      have e : (HandSHeadRun.topDef (OpenLaw.row PySem.Challenge.rw_chancery_k04_whole_texts).prog 19).name = ("law" : PySem.Str) := by kernel_rfl
      rw [← e]
      exact hmg0
    obtain ⟨K, hY⟩ := Y
    exact PD.law_fn (tb := Lw.tb) (nE := 60) (nS := 400) (i := 0) (j := 8) (fi := Lw.f0) (ln := "law") rfl rfl (by decide) Lw.okb Lw.oks Lw.binds Lw.bt (fun ns hl hb => Lw.plain ns hl hb) hY G hmg
