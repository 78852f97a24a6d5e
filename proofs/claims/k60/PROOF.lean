import PyProof.Rows.All
import Wide.All
import OpenK.AllK
import Wide.FinOn
import HandS.ForMost
import HandS.ForExc
import HandS.EndBits
import HandS.Flow
import HandS.Wide
import HandS.IsInst
import HandS.ExcIs
import HandS.Defaults
import HandS.WideBits
import HandS.TupAny
import KE.DataEq
import HandS.Style
import HandS.TupMul
import KE.KEqDict
import HandS.WordsDict
import HandS.More
import PyProof.Rows.StrMeet
import PyProof.DictUpdate
import HandS.TupSets
import KE.KUnpack
import HandS.Walk
import HandS.Iter
import HandS.Comp
import HandS.New0
import HandS.Small
import HandS.Dict
import HandS.HeadHook2
import HandS.Head0
import HandS.Head1
import HandS.Head2
import HandS.HeadEnd
import PySem.Challenge.RW_chancery_k60_trees_folded
import KE.IntTextLaws
import PyProof.StrLawsTight
import PyProof.Rows.StrFromFirst
set_option Elab.async false
set_option linter.all false
set_option maxRecDepth 100000
set_option maxHeartbeats 4000000
namespace PD
open PySem PySem.Spec PyProof.Rows L2
inductive D where
  | non | bl (b : Bool) | int (i : Int) | str (x : Str)
  | tup (xs : List D) | lst (xs : List D)
  | dct (ks : List Key) (vs : List D)
  | obj (C : Nat) (ks : List Str) (vs : List D)
  | exc (C : Nat) (ks : List Str) (vs : List D)
  | fnc (i : Nat)
inductive W where
  | d (x : D) | c (i : Nat)
inductive M where
  | lst (xs : List D) | dct (ks : List Key) (vs : List D) | obj (C : Nat) (ks : List Str) (vs : List D) | dead
def exO (cls : Value) (d : Option Addr) (a : Addr) : HO := .ext fun h => ∃ (oe : Obj) (vs : Array Value), h.get? a = some oe ∧ Zc cls d oe ∧ oe.data = .fields vs
section
variable (K : PySem.W.Frag) (cad : Nat → Addr) (H : Hp) (F : List Addr)
def TupF (a : Addr) (xs : List V) : Prop := (a ∉ F ∧ Rd H a (.tup xs)) ∨ (∃ (o : Obj) (its : Array Value) (n : Nat), K.lookup a = some o ∧ o.cls = .type "tuple" ∧ o.data = .seq its n ∧ its.size ≤ sizeLine ∧ Vals xs its.toList)
def LstF (a : Addr) (xs : List V) : Prop := (a ∉ F ∧ Rd H a (.lst xs)) ∨ (∃ (o : Obj) (its : Array Value) (n : Nat), K.lookup a = some o ∧ o.cls = .type "list" ∧ o.dict = none ∧ o.data = .seq its n ∧ its.size ≤ sizeLine ∧ Vals xs its.toList)
mutual
def IsD : D → V → Prop
  | .non, v => v = .non
  | .bl b, v => v = .bl b
  | .int i, v => v = .int i
  | .str x, v => v = .str x
  | .fnc i, v => v = .ref (cad (1000000 + i))
  | .tup ds, v => ∃ a xs, v = .ref a ∧ TupF K H F a xs ∧ IsDs ds xs
  | .lst ds, v => ∃ a xs, v = .ref a ∧ LstF K H F a xs ∧ IsDs ds xs
  | .dct ks ds, v => ∃ a us, v = .ref a ∧ a ∉ F ∧ Rd H a (.dK us) ∧ us.map (·.1) = ks ∧ IsDs ds (us.map (·.2))
  | .obj C ks ds, v => ∃ a dx us, v = .ref a ∧ a ∉ F ∧ H a = some (.ins (cad C) dx us) ∧ us.map (·.1) = ks ∧ IsDs ds (us.map (·.2))
  | .exc C ks ds, v => ∃ a d, v = .ref a ∧ a ∉ F ∧ H a = some (exO (.ref (cad C)) d a) ∧
      ((ks = [] ∧ ds = [] ∧ d = none) ∨ (ks ≠ [] ∧ ∃ dx us, d = some dx ∧ dx ∉ F ∧ H dx = some (.xd us) ∧ us.map (·.1) = ks ∧ IsDs ds (us.map (·.2))))
def IsDs : List D → List V → Prop
  | [], xs => xs = []
  | d :: ds, xs => ∃ x r, xs = x :: r ∧ IsD d x ∧ IsDs ds r
end
def PkD : D → V → Prop
  | .lst ds, v => ∃ a xs, v = .ref a ∧ SqL K H a xs ∧ IsDs K cad H F ds xs
  | .dct ks ds, v => ∃ a us, v = .ref a ∧ Rd H a (.dK us) ∧ us.map (·.1) = ks ∧ IsDs K cad H F ds (us.map (·.2))
  | .obj C ks ds, v => ∃ a dx us, v = .ref a ∧ H a = some (.ins (cad C) dx us) ∧ us.map (·.1) = ks ∧ IsDs K cad H F ds (us.map (·.2))
  | d, v => IsD K cad H F d v
def CellM (a : Addr) : M → Prop
  | .lst ds => ∃ xs, H a = some (.lst xs) ∧ IsDs K cad H F ds xs
  | .dct ks ds => ∃ us, H a = some (.dK us) ∧ us.map (·.1) = ks ∧ IsDs K cad H F ds (us.map (·.2))
  | .obj C ks ds => ∃ dx us, H a = some (.ins (cad C) dx us) ∧ us.map (·.1) = ks ∧ IsDs K cad H F ds (us.map (·.2))
  | .dead => False
end
section
variable {K : PySem.W.Frag} {cad : Nat → Addr} {H H' : Hp} {F F' : List Addr}
theorem TupF.sq {a : Addr} {xs : List V} (h : TupF K H F a xs) : SqT K H a xs := h.elim (fun h => .inl h.2) .inr
theorem LstF.sq {a : Addr} {xs : List V} (h : LstF K H F a xs) : SqL K H a xs := h.elim (fun h => .inl h.2) .inr
structure Kp (H : Hp) (F : List Addr) (H' : Hp) (F' : List Addr) : Prop where
  keep : ∀ a o, H a = some o → a ∉ F → H' a = some o
  new : ∀ a ∈ F', a ∈ F ∨ H a = none
theorem Kp.av (k : Kp H F H' F') {a : Addr} {o : HO} (e : H a = some o) (h : a ∉ F) : a ∉ F' := fun hm => by
  rcases k.new a hm with z | z
  · exact h z
  · rw [e] at z; cases z
theorem Kp.refl : Kp H F H F := ⟨fun _ _ e _ => e, fun _ h => .inl h⟩
theorem Kp.same (s : Same H H') : Kp H F H' F := ⟨fun a o e _ => s a o e, fun _ h => .inl h⟩
theorem Kp.rd (k : Kp H F H' F') {a : Addr} {u : HO} (h : a ∉ F) (r : Rd H a u) : a ∉ F' ∧ Rd H' a u := by
  rcases r with r | ⟨o, r⟩
  · exact ⟨k.av r h, .inl (k.keep _ _ r h)⟩
  · exact ⟨k.av r h, .inr ⟨o, k.keep _ _ r h⟩⟩
mutual
theorem IsD.mono (k : Kp H F H' F') : ∀ {d : D} {v : V}, IsD K cad H F d v → IsD K cad H' F' d v
  | .non, v, h => h
  | .bl b, v, h => h
  | .int i, v, h => h
  | .str x, v, h => h
  | .fnc i, v, h => h
  | .tup ds, v, h => by
    obtain ⟨a, xs, rfl, ht, hs⟩ := h
    exact ⟨a, xs, rfl, ht.elim (fun ⟨h1, h2⟩ => .inl (k.rd h1 h2)) .inr, IsDs.mono k hs⟩
  | .lst ds, v, h => by
    obtain ⟨a, xs, rfl, ht, hs⟩ := h
    exact ⟨a, xs, rfl, ht.elim (fun ⟨h1, h2⟩ => .inl (k.rd h1 h2)) .inr, IsDs.mono k hs⟩
  | .dct ks ds, v, h => by
    obtain ⟨a, us, rfl, h1, h2, h3, hs⟩ := h
    exact ⟨a, us, rfl, (k.rd h1 h2).1, (k.rd h1 h2).2, h3, IsDs.mono k hs⟩
  | .obj C ks ds, v, h => by
    obtain ⟨a, dx, us, rfl, h1, h2, h3, hs⟩ := h
    exact ⟨a, dx, us, rfl, k.av h2 h1, k.keep _ _ h2 h1, h3, IsDs.mono k hs⟩
  | .exc C ks ds, v, h => by
    obtain ⟨a, d, rfl, h1, h2, h3⟩ := h
    refine ⟨a, d, rfl, k.av h2 h1, k.keep _ _ h2 h1, ?_⟩
    rcases h3 with h3 | ⟨h0, dx, us, e1, e2, e3, e4, hs⟩
    · exact .inl h3
    · exact .inr ⟨h0, dx, us, e1, k.av e3 e2, k.keep _ _ e3 e2, e4, IsDs.mono k hs⟩
theorem IsDs.mono (k : Kp H F H' F') : ∀ {ds : List D} {vs : List V}, IsDs K cad H F ds vs → IsDs K cad H' F' ds vs
  | [], _, h => h
  | d :: ds, _, h => by
    obtain ⟨x, r, rfl, h1, h2⟩ := h
    exact ⟨x, r, rfl, IsD.mono k h1, IsDs.mono k h2⟩
end
theorem IsD.pk : ∀ {d : D} {v : V}, IsD K cad H F d v → PkD K cad H F d v
  | .non, v, h => h
  | .bl b, v, h => h
  | .int i, v, h => h
  | .str x, v, h => h
  | .fnc i, v, h => h
  | .exc C ks ds, v, h => h
  | .tup ds, v, h => h
  | .lst ds, v, h => by
    obtain ⟨a, xs, rfl, ht, hs⟩ := h
    exact ⟨a, xs, rfl, ht.sq, hs⟩
  | .dct ks ds, v, h => by
    obtain ⟨a, us, rfl, h1, h2, h3, hs⟩ := h
    exact ⟨a, us, rfl, h2, h3, hs⟩
  | .obj C ks ds, v, h => by
    obtain ⟨a, dx, us, rfl, h1, h2, h3, hs⟩ := h
    exact ⟨a, dx, us, rfl, h2, h3, hs⟩
theorem IsDs.length : ∀ {ds : List D} {vs : List V}, IsDs K cad H F ds vs → ds.length = vs.length
  | [], _, h => by cases (show _ = [] from h); rfl
  | d :: ds, _, h => by
    obtain ⟨x, r, rfl, h1, h2⟩ := h
    show ds.length + 1 = r.length + 1
    rw [IsDs.length h2]
theorem IsDs.get : ∀ {ds : List D} {vs : List V} {i : Nat} {d : D}, IsDs K cad H F ds vs → ds[i]? = some d → ∃ v, vs[i]? = some v ∧ IsD K cad H F d v
  | [], _, _, _, _, e => by simp at e
  | d :: ds, _, 0, _, h, e => by
    obtain ⟨x, r, rfl, h1, h2⟩ := h
    simp at e; subst e
    exact ⟨x, rfl, h1⟩
  | d :: ds, _, i + 1, d', h, e => by
    obtain ⟨x, r, rfl, h1, h2⟩ := h
    obtain ⟨v, q1, q2⟩ := IsDs.get (i := i) h2 (by simpa using e)
    exact ⟨v, by simpa using q1, q2⟩
theorem IsDs.getV : ∀ {ds : List D} {vs : List V} {i : Nat} {v : V}, IsDs K cad H F ds vs → vs[i]? = some v → ∃ d, ds[i]? = some d ∧ IsD K cad H F d v
  | [], _, _, _, h, e => by cases (show _ = [] from h); simp at e
  | d :: ds, _, 0, _, h, e => by
    obtain ⟨x, r, rfl, h1, h2⟩ := h
    simp at e; subst e
    exact ⟨d, rfl, h1⟩
  | d :: ds, _, i + 1, _, h, e => by
    obtain ⟨x, r, rfl, h1, h2⟩ := h
    obtain ⟨v, q1, q2⟩ := IsDs.getV (i := i) h2 (by simpa using e)
    exact ⟨v, by simpa using q1, q2⟩
theorem IsDs.app : ∀ {ds es : List D} {vs us : List V}, IsDs K cad H F ds vs → IsDs K cad H F es us → IsDs K cad H F (ds ++ es) (vs ++ us)
  | [], _, _, _, h, h' => by cases (show _ = [] from h); exact h'
  | d :: ds, _, _, _, h, h' => by
    obtain ⟨x, r, rfl, h1, h2⟩ := h
    exact ⟨x, _, rfl, h1, IsDs.app h2 h'⟩
theorem IsDs.one {d : D} {v : V} (h : IsD K cad H F d v) : IsDs K cad H F [d] [v] := ⟨v, [], rfl, h, rfl⟩
theorem IsDs.set : ∀ {ds : List D} {vs : List V} {d : D} {v : V} (i : Nat), IsDs K cad H F ds vs → IsD K cad H F d v → IsDs K cad H F (ds.set i d) (vs.set i v)
  | [], _, _, _, _, h, _ => by cases (show _ = [] from h); exact rfl
  | d :: ds, _, _, _, 0, h, h' => by
    obtain ⟨x, r, rfl, h1, h2⟩ := h
    exact ⟨_, _, rfl, h', h2⟩
  | d :: ds, _, _, _, i + 1, h, h' => by
    obtain ⟨x, r, rfl, h1, h2⟩ := h
    exact ⟨_, _, rfl, h1, IsDs.set i h2 h'⟩
theorem IsDs.drop : ∀ {ds : List D} {vs : List V} (n : Nat), IsDs K cad H F ds vs → IsDs K cad H F (ds.drop n) (vs.drop n)
  | _, _, 0, h => h
  | [], _, n + 1, h => by cases (show _ = [] from h); exact rfl
  | d :: ds, _, n + 1, h => by
    obtain ⟨x, r, rfl, h1, h2⟩ := h
    exact IsDs.drop n h2
theorem IsDs.take : ∀ {ds : List D} {vs : List V} (n : Nat), IsDs K cad H F ds vs → IsDs K cad H F (ds.take n) (vs.take n)
  | _, _, 0, _ => rfl
  | [], _, n + 1, h => by cases (show _ = [] from h); exact rfl
  | d :: ds, _, n + 1, h => by
    obtain ⟨x, r, rfl, h1, h2⟩ := h
    exact ⟨x, _, rfl, h1, IsDs.take n h2⟩
theorem IsDs.rev : ∀ {ds : List D} {vs : List V}, IsDs K cad H F ds vs → IsDs K cad H F ds.reverse vs.reverse
  | [], _, h => by cases (show _ = [] from h); exact rfl
  | d :: ds, _, h => by
    obtain ⟨x, r, rfl, h1, h2⟩ := h
    rw [List.reverse_cons, List.reverse_cons]
    exact IsDs.app (IsDs.rev h2) (IsDs.one h1)
theorem IsDs.rep {ds : List D} {vs : List V} (h : IsDs K cad H F ds vs) : ∀ n, IsDs K cad H F (List.replicate n ds).flatten (List.replicate n vs).flatten
  | 0 => rfl
  | n + 1 => by
    rw [List.replicate_succ, List.replicate_succ, List.flatten_cons, List.flatten_cons]
    exact IsDs.app h (IsDs.rep h n)
theorem PkD.mono (k : Kp H F H' F') (s : Same H H') : ∀ {d : D} {v : V}, PkD K cad H F d v → PkD K cad H' F' d v
  | .non, v, h => h
  | .bl b, v, h => h
  | .int i, v, h => h
  | .str x, v, h => h
  | .fnc i, v, h => h
  | .exc C ks ds, v, h => IsD.mono k (d := .exc C ks ds) h
  | .tup ds, v, h => IsD.mono k (d := .tup ds) h
  | .lst ds, v, h => by
    obtain ⟨a, xs, rfl, ht, hs⟩ := h
    exact ⟨a, xs, rfl, s.seq ht, IsDs.mono k hs⟩
  | .dct ks ds, v, h => by
    obtain ⟨a, us, rfl, h2, h3, hs⟩ := h
    exact ⟨a, us, rfl, h2.elim (fun z => .inl (s _ _ z)) (fun ⟨o, z⟩ => .inr ⟨o, s _ _ z⟩), h3, IsDs.mono k hs⟩
  | .obj C ks ds, v, h => by
    obtain ⟨a, dx, us, rfl, h2, h3, hs⟩ := h
    exact ⟨a, dx, us, rfl, s _ _ h2, h3, IsDs.mono k hs⟩
end
abbrev AS := List (Option Addr)
def live (as : AS) : List Addr := as.filterMap id
theorem mem_live {as : AS} {a : Addr} : a ∈ live as ↔ ∃ i : Nat, as[i]? = some (some a) := by
  unfold live
  rw [List.mem_filterMap]
  constructor
  · rintro ⟨o, ho, e⟩
    simp only [id] at e
    subst e
    obtain ⟨i, hi⟩ := List.getElem?_of_mem ho
    exact ⟨i, hi⟩
  · rintro ⟨i, e⟩
    exact ⟨some a, List.mem_of_getElem? e, rfl⟩
section
variable (K : PySem.W.Frag) (cad : Nat → Addr) (as : AS) (R : List Addr) (H : Hp)
abbrev Av : List Addr := live as ++ R
structure Cells (cs : List M) : Prop where
  len : as.length = cs.length
  inj : ∀ (i j : Nat) a, as[i]? = some (some a) → as[j]? = some (some a) → i = j
  dead : ∀ i : Nat, as[i]? = some none → cs[i]? = some .dead
  at_ : ∀ (i : Nat) a m, as[i]? = some (some a) → cs[i]? = some m → CellM K cad H (Av as R) a m
  apart : ∀ a ∈ live as, a ∉ R
  rl : ∀ a ∈ R, ∃ o, H a = some o
def IsW : W → V → Prop
  | .d x, v => IsD K cad H (Av as R) x v
  | .c i, v => i < as.length ∧ ∀ a, as[i]? = some (some a) → v = .ref a
def IsWs : List W → List V → Prop
  | [], xs => xs = []
  | w :: ws, xs => ∃ x r, xs = x :: r ∧ IsW K cad as R H w x ∧ IsWs ws r
end
structure Ext (H : Hp) (as : AS) (H' : Hp) (as' : AS) : Prop where
  len : as.length ≤ as'.length
  old : ∀ (i : Nat) a, i < as.length → as'[i]? = some (some a) → as[i]? = some (some a)
  new : ∀ (i : Nat) a, as.length ≤ i → as'[i]? = some (some a) → H a = none
  keep : ∀ a o, H a = some o → a ∉ live as → H' a = some o
  there : ∀ a o, H a = some o → ∃ o', H' a = some o'
section
variable {K : PySem.W.Frag} {cad : Nat → Addr} {as as' as2 : AS} {R : List Addr} {H H' H2 : Hp} {cs cs' : List M}
theorem Ext.refl : Ext H as H as := ⟨Nat.le_refl _, fun _ _ _ e => e, fun i a h e => by
  have := (List.getElem?_eq_some_iff.mp e).1
  omega, fun _ _ e _ => e, fun _ o e => ⟨o, e⟩⟩
theorem Ext.same (s : Same H H') : Ext H as H' as := ⟨Nat.le_refl _, fun _ _ _ e => e, fun i a h e => by
  have := (List.getElem?_eq_some_iff.mp e).1
  omega, fun a o e _ => s a o e, fun a o e => ⟨o, s a o e⟩⟩
theorem Ext.live (x : Ext H as H' as') {a : Addr} (h : a ∈ live as') : a ∈ live as ∨ H a = none := by
  obtain ⟨i, e⟩ := mem_live.mp h
  by_cases hi : i < as.length
  · exact .inl (mem_live.mpr ⟨i, x.old i a hi e⟩)
  · exact .inr (x.new i a (by omega) e)
theorem Ext.trans (x : Ext H as H' as') (y : Ext H' as' H2 as2) : Ext H as H2 as2 where
  len := Nat.le_trans x.len y.len
  old := fun i a hi e => x.old i a hi (y.old i a (Nat.lt_of_lt_of_le hi x.len) e)
  new := fun i a hi e => by
    by_cases h2 : i < as'.length
    · exact x.new i a hi (y.old i a h2 e)
    · have z := y.new i a (by omega) e
      cases q : H a with
      | none => rfl
      | some o =>
        obtain ⟨o', z'⟩ := x.there a o q
        rw [z] at z'; cases z'
  keep := fun a o e h => by
    refine y.keep a o (x.keep a o e h) fun hm => ?_
    rcases x.live hm with z | z
    · exact h z
    · rw [e] at z; cases z
  there := fun a o e => by
    obtain ⟨o1, e1⟩ := x.there a o e
    exact y.there a o1 e1
theorem Ext.kp (x : Ext H as H' as') (ap : ∀ a ∈ PD.live as, a ∉ R) : Kp H (Av as R) H' (Av as' R) where
  keep := fun a o e h => x.keep a o e fun z => h (List.mem_append_left _ z)
  new := fun a h => by
    rcases List.mem_append.mp h with h | h
    · rcases x.live h with z | z
      · exact .inl (List.mem_append_left _ z)
      · exact .inr z
    · exact .inl (List.mem_append_right _ h)
theorem Ext.kp' (x : Ext H as H' as') : Kp H (Av as R) H' (Av as' R) where
  keep := fun a o e h => x.keep a o e fun z => h (List.mem_append_left _ z)
  new := fun a h => by
    rcases List.mem_append.mp h with h | h
    · rcases x.live h with z | z
      · exact .inl (List.mem_append_left _ z)
      · exact .inr z
    · exact .inl (List.mem_append_right _ h)
theorem IsW.mono (x : Ext H as H' as') : ∀ {w : W} {v : V}, IsW K cad as R H w v → IsW K cad as' R H' w v
  | .d d, v, h => IsD.mono x.kp' (d := d) h
  | .c i, v, h => ⟨Nat.lt_of_lt_of_le h.1 x.len, fun a e => h.2 a (x.old i a h.1 e)⟩
theorem IsWs.mono (x : Ext H as H' as') : ∀ {ws : List W} {vs : List V}, IsWs K cad as R H ws vs → IsWs K cad as' R H' ws vs
  | [], _, h => h
  | w :: ws, _, h => by
    obtain ⟨y, r, rfl, h1, h2⟩ := h
    exact ⟨y, r, rfl, IsW.mono x h1, IsWs.mono x h2⟩
theorem IsWs.length : ∀ {ws : List W} {vs : List V}, IsWs K cad as R H ws vs → ws.length = vs.length
  | [], _, h => by cases (show _ = [] from h); rfl
  | w :: ws, _, h => by
    obtain ⟨y, r, rfl, h1, h2⟩ := h
    show ws.length + 1 = r.length + 1
    rw [IsWs.length h2]
theorem CellM.same (s : Same H H') {F : List Addr} {a : Addr} : ∀ {m : M}, CellM K cad H F a m → CellM K cad H' F a m
  | .lst ds, ⟨xs, e, h⟩ => ⟨xs, s _ _ e, h.mono (Kp.same s)⟩
  | .dct ks ds, ⟨us, e, h1, h⟩ => ⟨us, s _ _ e, h1, h.mono (Kp.same s)⟩
  | .obj C ks ds, ⟨dx, us, e, h1, h⟩ => ⟨dx, us, s _ _ e, h1, h.mono (Kp.same s)⟩
  | .dead, h => h
theorem Cells.same (c : Cells K cad as R H cs) (s : Same H H') : Cells K cad as R H' cs := ⟨c.len, c.inj, c.dead, fun i a m e1 e2 => (c.at_ i a m e1 e2).same s, c.apart, fun a h => let ⟨o, e⟩ := c.rl a h; ⟨o, s a o e⟩⟩
theorem same_upd {a : Addr} {o : HO} (h : H a = none) : Same H (upd H a o) := fun b u e => by
  rw [upd_ne (ne_of_none e h)]
  exact e
end
end PD
set_option Elab.async false
set_option linter.all false
set_option maxRecDepth 100000
set_option maxHeartbeats 4000000
namespace PD
open PySem PySem.Spec PyProof.Rows L2
inductive Rs (α : Type) where
  | ok (a : α) (cs : List M)
  | ex (C : Nat) (ks : List Str) (vs : List D) (cs : List M)
  | stuck
def Rs.bind {α β : Type} (r : Rs α) (f : α → List M → Rs β) : Rs β := match r with
  | .ok a cs => f a cs
  | .ex C ks vs cs => .ex C ks vs cs
  | .stuck => .stuck
@[simp] theorem Rs.bind_ok {α β : Type} (a : α) (cs : List M) (f : α → List M → Rs β) : (Rs.ok a cs).bind f = f a cs := rfl
@[simp] theorem Rs.bind_ex {α β : Type} (C : Nat) (ks : List Str) (vs : List D) (cs : List M) (f : α → List M → Rs β) : (Rs.ex C ks vs cs : Rs α).bind f = .ex C ks vs cs := rfl
@[simp] theorem Rs.bind_stuck {α β : Type} (f : α → List M → Rs β) : (Rs.stuck : Rs α).bind f = .stuck := rfl
def Rs.ofO {α : Type} (o : Option α) (cs : List M) : Rs α := match o with
  | some a => .ok a cs
  | none => .stuck
@[simp] theorem Rs.ofO_some {α : Type} (a : α) (cs : List M) : Rs.ofO (some a) cs = .ok a cs := rfl
@[simp] theorem Rs.ofO_none {α : Type} (cs : List M) : (Rs.ofO none cs : Rs α) = .stuck := rfl
inductive O where
  | add | sub | mul | fdiv | mod | pow | neg
  | eq | ne | lt | le | gt | ge | in_ | notin | isN | notN
  | ix
  | len | abs | int | str | tupOf | lstOf | all | any | sum | divmod | min2 | max2 | sorted | setlen
  | startswith | endswith | partition | join | split | count
  | get1 | get2 | disp (n : Nat) | dictOf | dctcopy | sortset | max0 | revBy
  | rev | isB (b : Bool) | ntB (b : Bool) | dnew
  | isi (ts : List Nat)
  deriving DecidableEq
mutual
/-- as the library's data (others: an empty dict, which is not plain) -/
def py : D → PyData
  | .non => .none
  | .bl b => .bool b
  | .int i => .int i
  | .str x => .str x
  | .tup xs => .tuple (pys xs)
  | .lst xs => .list (pys xs)
  | _ => .dict []
def pys : List D → List PyData
  | [] => []
  | x :: xs => py x :: pys xs
end
def eqD (a b : D) : Bool := PyData.eqv (py a) (py b)
def plainD (a : D) : Bool := (py a).plain && decide ((py a).depth ≤ 60)
def truth : D → Option Bool
  | .non => some false
  | .bl b => some b
  | .int i => some (i != 0)
  | .str x => if x.length ≤ 16777216 then some (x.length != 0) else none
  | .tup xs => some (!xs.isEmpty)
  | .lst xs => some (!xs.isEmpty)
  | _ => none
def isNon : D → Bool
  | .non => true
  | _ => false
def keyOf : D → Option Key
  | .int i => some (.inl i)
  | .str x => some (.inr x)
  | _ => none
def dget : List Key → List D → Key → Option D
  | k :: ks, v :: vs, q => if q = k then some v else dget ks vs q
  | _, _, _ => none
def dset : List Key → List D → Key → D → List D
  | k :: ks, v :: vs, q, x => (if k = q then x else v) :: dset ks vs q x
  | _, _, _, _ => []
def kD : Key → D
  | .inl i => .int i
  | .inr x => .str x
def dput (ks : List Key) (vs : List D) (q : Key) (x : D) : List Key × List D := if ks.any (fun k => decide (k = q)) = true then (ks, dset ks vs q x) else (ks ++ [q], vs ++ [x])
def LIM : Nat := 16777216
def isStrs : List D → Option (List Str)
  | [] => some []
  | .str x :: r => (isStrs r).map (x :: ·)
  | _ => none
def isInts : List D → Option (List Int)
  | [] => some []
  | .int x :: r => (isInts r).map (x :: ·)
  | _ => none
def isBls : List D → Option (List Bool)
  | [] => some []
  | .bl x :: r => (isBls r).map (x :: ·)
  | _ => none
def isPairs : List D → Option (List (List Int))
  | [] => some []
  | .tup ys :: r => (match isInts ys, isPairs r with
    | some k, some r => some (k :: r)
    | _, _ => none)
  | _ => none
def ddL : List (List Int) → List (List Int)
  | [] => []
  | k :: r => if k ∈ r then ddL r else k :: ddL r
def atD (xs : List D) (i : Int) : Option D := atI xs i
def sIx (n d : Nat) (o : Option Int) : Nat := HT.sIx n d o
def cutD (xs : List D) (lo hi : Option Int) : List D := (xs.drop (HT.sIx xs.length 0 lo)).take (HT.sIx xs.length xs.length hi - HT.sIx xs.length 0 lo)
def bty : Nat → String
  | 0 => "int" | 1 => "bool" | 2 => "str" | 3 => "tuple" | 4 => "list" | 5 => "dict" | 6 => "ValueError" | 7 => "NoneType" | 8 => "Exception" | _ => "KeyError"
def tag : D → Nat
  | .non => 7
  | .bl _ => 1
  | .int _ => 0
  | .str _ => 2
  | .tup _ => 3
  | .lst _ => 4
  | .dct _ _ => 5
  | .obj C _ _ => 2 * C + 10
  | .exc C ks _ => if ks.isEmpty then 2 * C + 11 else 9
  | .fnc _ => 9
def tyAny (isT : Nat → Nat → Option Bool) (g : Nat) : List Nat → Option Bool
  | [] => some false
  | t :: ts => match isT g t with
    | some true => some true
    | some false => tyAny isT g ts
    | none => none
def arith (o : O) (i j : Int) : Option D := match o with
  | .add => some (.int (i + j))
  | .sub => some (.int (i - j))
  | .mul => if i.natAbs.log2 + j.natAbs.log2 < 100000000 then some (.int (i * j)) else none
  | .fdiv => if j ≠ 0 ∧ j.natAbs.log2 < 9000 then some (.int (i.fdiv j)) else none
  | .mod => if j ≠ 0 then some (.int (i.fmod j)) else none
  | .pow => if 0 ≤ j ∧ j ≤ 1000000 ∧ i.natAbs < 2 ^ 64 then some (.int (i ^ j.toNat)) else none
  | .lt => some (.bl (decide (i < j)))
  | .le => some (.bl (decide (i ≤ j)))
  | .gt => some (.bl (decide (j < i)))
  | .ge => some (.bl (decide (j ≤ i)))
  | _ => none
def arD (o : O) (a b : D) : Option D := match a, b with
  | .int i, .int j => arith o i j
  | _, _ => none
def addD (a b : D) : Option D := match a, b with
  | .int i, .int j => some (.int (i + j))
  | .str x, .str y => if x.length + y.length ≤ LIM then some (.str (x ++ y)) else none
  | .lst x, .lst y => if x.length + y.length ≤ LIM then some (.lst (x ++ y)) else none
  | .tup x, .tup y => if x.length + y.length ≤ LIM then some (.tup (x ++ y)) else none
  | _, _ => none
def repS (x : Str) (k : Int) : Str := if k < 1 then Str.empty else if (k == 1 || x.length == 0) = true then x else ⟨(List.replicate k.toNat x.cps).foldl (· ++ ·) #[]⟩
def mulD (a b : D) : Option D := match a, b with
  | .int i, .int j => arith .mul i j
  | .lst x, .int k => if -(2 ^ 62) ≤ k ∧ k ≤ 1000000 ∧ x.length * k.toNat ≤ LIM then some (.lst (List.replicate k.toNat x).flatten) else none
  | .tup x, .int k => if x ≠ [] ∧ 2 ≤ k ∧ k ≤ 1000 ∧ x.length ≤ 1000 then some (.tup (List.replicate k.toNat x).flatten) else none
  | .str x, .int k => if -(2 ^ 62) ≤ k ∧ k ≤ 1000000 ∧ x.length ≤ LIM ∧ x.length * k.toNat ≤ LIM then some (.str (repS x k)) else none
  | _, _ => none
def augD (o : O) (a b : D) : Option D := match a, b with
  | .int i, .int j => (match o with
    | .add => arith .add i j
    | .sub => arith .sub i j
    | .mul => arith .mul i j
    | .mod => arith .mod i j
    | _ => none)
  | .str x, .str y => (match o with
    | .add => addD (.str x) (.str y)
    | _ => none)
  | _, _ => none
def ltD (a b : D) : Option D := match a, b with
  | .int i, .int j => some (.bl (decide (i < j)))
  | .str x, .str y => some (.bl (decide (x.cps.toList < y.cps.toList)))
  | _, _ => none
def inD (a b : D) : Option Bool := match b with
  | .str y => (match a with
    | .str x => some (!(Builtin.Str.occurrences y x 0 y.length 1).isEmpty)
    | _ => none)
  | .lst ys => if plainD a && ys.all plainD then some (ys.any (eqD · a)) else none
  | .tup ys => if plainD a && ys.all plainD then some (ys.any (eqD · a)) else none
  | .dct ks vs => (match keyOf a with
    | some q => some (dget ks vs q).isSome
    | none => none)
  | _ => none
def ixD (a b : D) : Option D := match a with
  | .lst xs => (match b with
    | .int i => atI xs i
    | _ => none)
  | .tup xs => (match b with
    | .int i => atI xs i
    | _ => none)
  | .str x => (match b with
    | .int i => if x.length ≤ LIM then (atI x.cps.toList i).map fun c => .str ⟨#[c]⟩ else none
    | _ => none)
  | .dct ks vs => (match keyOf b with
    | some q => dget ks vs q
    | none => none)
  | _ => none
def slD (a : D) (lo hi : Option Int) : Option D := match a with
  | .lst xs => some (.lst (cutD xs lo hi))
  | .tup xs => some (.tup (cutD xs lo hi))
  | .str x => if x.length ≤ LIM then some (.str (L2.cutS x lo hi)) else none
  | _ => none
def negD (a : D) : Option D := match a with
  | .int i => some (.int (-i))
  | _ => none
def lenD (a : D) : Option D := match a with
  | .lst xs => some (.int xs.length)
  | .tup xs => some (.int xs.length)
  | .str x => if x.length ≤ LIM then some (.int x.length) else none
  | .dct ks _ => some (.int ks.length)
  | _ => none
def absD (a : D) : Option D := match a with
  | .int i => some (.int (if i < 0 then -i else i))
  | _ => none
def intD (a : D) : Option D := match a with
  | .int i => some (.int i)
  | .bl b => some (.int (if b then 1 else 0))
  | .str x => if x.length ≤ 640 then (PySem.intText? x).map .int else none
  | _ => none
def strD (a : D) : Option D := match a with
  | .int i => if i.natAbs.log2 < 1920 then some (.str (toString i)) else none
  | _ => none
def tupD (a : D) : Option D := match a with
  | .lst xs => some (.tup xs)
  | .tup xs => some (.tup xs)
  | _ => none
def lstD (a : D) : Option D := match a with
  | .lst xs => some (.lst xs)
  | .tup xs => some (.lst xs)
  | _ => none
def allD (a : D) : Option D := match a with
  | .lst xs => (isBls xs).map fun bs => .bl (bs.all id)
  | _ => none
def anyD (a : D) : Option D := match a with
  | .lst xs => (isBls xs).map fun bs => .bl (bs.any id)
  | _ => none
def sumD (a : D) : Option D := match a with
  | .lst xs => (isInts xs).map fun ns => .int ns.sum
  | _ => none
def divmodD (a b : D) : Option D := match a, b with
  | .int i, .int j => if 0 < j ∧ j.natAbs.log2 < 9000 then some (.tup [.int (i / j), .int (i % j)]) else none
  | _, _ => none
def minD (a b : D) : Option D := match a, b with
  | .int i, .int j => some (.int (if j < i then j else i))
  | _, _ => none
def maxD (a b : D) : Option D := match a, b with
  | .int i, .int j => some (.int (if j > i then j else i))
  | _, _ => none
def strs2 (f : Str → Str → Option D) (a b : D) : Option D := match a, b with
  | .str x, .str y => f x y
  | _, _ => none
def partD (x y : Str) : Option D := if y.length ≠ 0 ∧ x.length ≤ LIM then some (.tup [.str (Txt.partition x y).1, .str (Txt.partition x y).2.1, .str (Txt.partition x y).2.2]) else none
def revD (a : D) : Option D := match a with
  | .lst xs => some (.lst xs.reverse)
  | .tup xs => some (.tup xs.reverse)
  | _ => none
def isBD (b : Bool) (a : D) : Option D := match a with
  | .bl c => some (.bl (decide (c = b)))
  | .int _ => some (.bl false)
  | .non => some (.bl false)
  | .str _ => some (.bl false)
  | _ => none
def ntBD (b : Bool) (a : D) : Option D := match a with
  | .bl c => some (.bl (!decide (c = b)))
  | .int _ => some (.bl true)
  | .non => some (.bl true)
  | .str _ => some (.bl true)
  | _ => none
def splitD (x y : Str) : Option D := if y.length ≠ 0 ∧ x.length + 2 ≤ LIM then some (.lst ((Txt.split x y).map .str)) else none
def joinOk (x : Str) (ys : List Str) : Bool := decide ((ys.map (·.length)).sum + ys.length * x.length ≤ LIM)
def joinD (a b : D) : Option D := match a, b with
  | .str x, .lst ys => (match isStrs ys with
    | some zs => if joinOk x zs = true then some (.str (Txt.join x zs)) else none
    | none => none)
  | .str x, .tup ys => (match isStrs ys with
    | some zs => if joinOk x zs = true then some (.str (Txt.join x zs)) else none
    | none => none)
  | _, _ => none
def flatD : D → Bool
  | .lst _ => false
  | .dct _ _ => false
  | .obj _ _ _ => false
  | _ => true
def setlenD (a : D) : Option D := match a with
  | .lst xs => (match isPairs xs with
    | some ks => if ks.length < 64 then some (.int (ddL ks).length) else none
    | none => none)
  | _ => none
def dget1D (a b : D) : Option D := match a with
  | .dct ks vs => (match keyOf b with
    | some q => some ((dget ks vs q).getD .non)
    | none => none)
  | _ => none
def dget2D (a b c : D) : Option D := match a with
  | .dct ks vs => (match keyOf b with
    | some q => some ((dget ks vs q).getD c)
    | none => none)
  | _ => none
def ltS (a b : Str) : Bool := decide (a.cps.toList < b.cps.toList)
def insS (x : Str) : List Str → List Str
  | [] => [x]
  | y :: r => if ltS x y = true then x :: y :: r else y :: insS x r
def sortS : List Str → List Str
  | [] => []
  | x :: r => insS x (sortS r)
def onceS : List Str → List Str
  | [] => []
  | k :: r => if k ∈ r then onceS r else k :: onceS r
def keyStrs : List Key → Option (List Str)
  | [] => some []
  | .inr x :: r => (keyStrs r).map (x :: ·)
  | _ => none
def sortedD (a : D) : Option D := match a with
  | .lst xs => (match isStrs xs with
    | some zs => if zs.length < 64 then some (.lst ((sortS zs).map .str)) else none
    | none => none)
  | .dct ks _ => (match keyStrs ks with
    | some zs => if zs.length < 64 then some (.lst ((sortS zs).map .str)) else none
    | none => none)
  | _ => none
def sortsetD (a : D) : Option D := match a with
  | .lst xs => (match isStrs xs with
    | some zs => if zs.length < 64 then some (.lst ((sortS (onceS zs)).map .str)) else none
    | none => none)
  | _ => none
def dmerge (ks : List Key) (vs : List D) : List (Key × D) → List Key × List D
  | [] => (ks, vs)
  | (k, v) :: r => dmerge (dput ks vs k v).1 (dput ks vs k v).2 r
def pairsOf : List D → Option (List (Key × D))
  | [] => some []
  | .tup [k, v] :: r => (match keyOf k, pairsOf r with
    | some q, some r => some ((q, v) :: r)
    | _, _ => none)
  | _ => none
def dictOfD (a : D) : Option D := match a with
  | .lst xs => (match pairsOf xs with
    | some ps => some (.dct (dmerge [] [] ps).1 (dmerge [] [] ps).2)
    | none => none)
  | .dct ks vs => some (.dct ks vs)
  | _ => none
def max0D (a : D) : Option D := match a with
  | .lst xs => (isInts xs).map fun ns => .int (match ns with
    | [] => 0
    | n :: r => r.foldl max n)
  | _ => none
def revByD (a b : D) : Option D := match a, b with
  | .lst xs, .int i => if i = 1 then some (.lst xs) else if i = -1 then some (.lst xs.reverse) else none
  | _, _ => none
def sem1 (sub : Nat → Nat → Option Bool) (o : O) (a : D) : Option D := match o with
  | .isN => some (.bl (isNon a))
  | .notN => some (.bl (!isNon a))
  | .neg => negD a
  | .len => lenD a
  | .abs => absD a
  | .int => intD a
  | .str => strD a
  | .tupOf => tupD a
  | .lstOf => lstD a
  | .all => allD a
  | .any => anyD a
  | .sum => sumD a
  | .isi ts => (tyAny sub (tag a) ts).map .bl
  | .rev => revD a
  | .setlen => setlenD a
  | .dnew => some a
  | .isB b => isBD b a
  | .sorted => sortedD a
  | .sortset => sortsetD a
  | .dictOf => dictOfD a
  | .max0 => max0D a
  | .ntB b => ntBD b a
  | _ => none
def sameDct (ks2 : List Key) (vs2 : List D) : List Key → List D → Bool
  | k :: ks, v :: vs => (match dget ks2 vs2 k with
    | some d => eqD v d
    | none => false) && sameDct ks2 vs2 ks vs
  | _, _ => true
def eqDct (a b : D) : Option Bool := match a, b with
  | .dct ks vs, .dct ks2 vs2 => if vs.all plainD && vs2.all plainD && decide (ks.length = vs.length) then some (decide (ks.length = ks2.length) && sameDct ks2 vs2 ks vs) else none
  | _, _ => none
def sem2 (o : O) (a b : D) : Option D := match o with
  | .eq => if plainD a && plainD b then some (.bl (eqD a b)) else (eqDct a b).map .bl
  | .ne => if plainD a && plainD b then some (.bl (!eqD a b)) else (eqDct a b).map fun c => .bl (!c)
  | .add => addD a b
  | .sub => arD .sub a b
  | .mul => mulD a b
  | .fdiv => arD .fdiv a b
  | .mod => arD .mod a b
  | .pow => arD .pow a b
  | .lt => ltD a b
  | .le => arD .le a b
  | .gt => arD .gt a b
  | .ge => arD .ge a b
  | .in_ => (inD a b).map .bl
  | .notin => (inD a b).map fun c => .bl (!c)
  | .ix => ixD a b
  | .divmod => divmodD a b
  | .min2 => minD a b
  | .max2 => maxD a b
  | .startswith => strs2 (fun x y => some (.bl (Txt.startswith x y))) a b
  | .endswith => strs2 (fun x y => some (.bl (Txt.endswith x y))) a b
  | .partition => strs2 partD a b
  | .split => strs2 splitD a b
  | .join => joinD a b
  | .get1 => dget1D a b
  | .revBy => revByD a b
  | .count => strs2 (fun x y => some (.int (Txt.count x y))) a b
  | _ => none
def sem3 (o : O) (a b c : D) : Option D := match o with
  | .get2 => if flatD c = true then dget2D a b c else none
  | _ => none
def sem (sub : Nat → Nat → Option Bool) (o : O) (ds : List D) : Option D := match ds with
  | [a] => sem1 sub o a
  | [a, b] => sem2 o a b
  | [a, b, c] => sem3 o a b c
  | _ => none
inductive Tg where
  | n (i : Nat) | t (ts : List Tg)
inductive IK where
  | seq | range1 | range2 | str | zip | enum | keys
inductive E where
  | c (d : D)
  | v (i : Nat)
  | g (i : Nat)
  | op (o : O) (es : List E)
  | bm (o : O) (a : E) (es : List E)
  | opC (o : O) (es : List E)
  | and_ (a b : E) | or_ (a b : E) | not_ (a : E)
  | ife (t a b : E)
  | chain (o o' : O) (a b c : E)
  | tup (es : List E) | lst (es : List E) | mlst (es : List E)
  | sl2 (a lo hi : E) | slL (a lo : E) | slH (a hi : E)
  | fld (a : E) (f : Str)
  | call (f : Nat) (es : List E)
  | fv (i : Nat)
  | callv (j : Nat) (es : List E)
  | make (C : Nat) (es : List E)
  | new0 (C : Nat)
  | dsp (mc : Bool) (ks : List Key) (es : List E)
  | meth (o : E) (m : Str) (es : List E)
  | comp (mc : Bool) (own : List Nat) (t : Tg) (k : IK) (its : List E) (conds : List E) (elt : E)
  | compc (own : List Nat) (t : Tg) (j : Nat) (conds : List E) (elt : E)
  | dspE (kes : List E)
  | frz (e : E)
inductive S where
  | ex (e : E)
  | asg (t : Tg) (e : E)
  | par (i j : Nat) (a b : E)
  | aug (i : Nat) (o : O) (e : E)
  | setix (a i e : E)
  | setfld (a : E) (f : Str) (e : E)
  | app (a e : E)
  | ext (a e : E)
  | updD (a e : E)
  | popD (a k : E)
  | ite (t : E) (a b : List S)
  | for_ (t : Tg) (k : IK) (its : List E) (b : List S)
  | forK (t : Tg) (j : Nat) (b : List S)
  | while_ (t : E) (b : List S)
  | ret (e : E)
  | rais (C : Nat) (es : List E)
  | try_ (b : List S) (C : Nat) (i : Option Nat) (h : List S)
  | brk | cnt | pass
  | frz (i : Nat)
structure Pg where
  csts : List D
  sub : Nat → Nat → Option Bool
  isT : Nat → Nat → Option Bool
  isX : Nat → Bool
  fld : Nat → Str → Bool
  meth : Nat → Str → Option Nat
  fns : List (Nat × Nat × List S)      -- parameters, slots, body
  new0 : Nat → Bool := fun _ => false
  fvs : Nat → Bool := fun _ => false
  fuel : Nat
abbrev Sl := List (Option W)
def mD : M → Option D
  | .lst xs => some (.lst xs)
  | .dct ks vs => some (.dct ks vs)
  | .obj C ks vs => some (.obj C ks vs)
  | .dead => none
def pk (w : W) (cs : List M) : Option D := match w with
  | .d x => some x
  | .c i => match cs[i]? with
    | some m => mD m
    | none => none
def pks : List W → List M → Option (List D)
  | [], _ => some []
  | w :: ws, cs => match pk w cs, pks ws cs with
    | some d, some ds => some (d :: ds)
    | _, _ => none
def dats : List W → Option (List D)
  | [] => some []
  | .d x :: ws => (dats ws).map (x :: ·)
  | .c _ :: _ => none
def toM : D → Option M
  | .lst xs => some (.lst xs)
  | .dct ks vs => some (.dct ks vs)
  | .obj C ks vs => some (.obj C ks vs)
  | _ => none
mutual
def bindT : Tg → W → Sl → Option Sl
  | .n i, w, sl => if i < sl.length then some (sl.set i (some w)) else none
  | .t ts, .d (.tup ds), sl => bindTs ts ds sl
  | .t ts, .d (.lst ds), sl => bindTs ts ds sl
  | .t _, _, _ => none
def bindTs : List Tg → List D → Sl → Option Sl
  | [], [], sl => some sl
  | t :: ts, d :: ds, sl => match bindT t (.d d) sl with
    | some sl => bindTs ts ds sl
    | none => none
  | _, _, _ => none
end
def wipeS (sl : Sl) : List Nat → Sl
  | [] => sl
  | v :: vs => (wipeS sl vs).set v none
def zipD : List D → List D → List D
  | a :: as, b :: bs => .tup [a, b] :: zipD as bs
  | _, _ => []
def enumD : Nat → List D → List D
  | _, [] => []
  | n, a :: as => .tup [.int n, a] :: enumD (n + 1) as
def rangeD (lo : Int) (n : Nat) : List D := (List.range n).map fun (i : Nat) => .int (lo + i)
def items : IK → List D → Option (List D)
  | .seq, [.lst xs] => some xs
  | .seq, [.tup xs] => some xs
  | .range1, [.int n] => if -(2 ^ 62) ≤ n ∧ n.toNat ≤ LIM then some (rangeD 0 n.toNat) else none
  | .range2, [.int a, .int b] => if -(2 ^ 62) ≤ a ∧ a < 2 ^ 62 ∧ -(2 ^ 62) ≤ b ∧ b < 2 ^ 62 ∧ (b - a).toNat ≤ LIM then some (rangeD a (b - a).toNat) else none
  | .str, [.str x] => if x.length ≤ LIM then some (x.cps.toList.map fun c => .str ⟨#[c]⟩) else none
  | .zip, [.lst xs, .lst ys] => some (zipD xs ys)
  | .enum, [.lst xs] => some (enumD 0 xs)
  | .keys, [.dct ks vs] => if ks.length = vs.length ∧ ks.length ≤ LIM then some (ks.map kD) else none
  | _, _ => none
def rn (ids : List Nat) : List W → List W × List Nat
  | [] => ([], ids)
  | .d x :: r => let q := rn ids r; (.d x :: q.1, q.2)
  | .c i :: r => match ids.idxOf? i with
    | some k => let q := rn ids r; (.c k :: q.1, q.2)
    | none => let q := rn (ids ++ [i]) r; (.c ids.length :: q.1, q.2)
def takeAll (cs : List M) : List Nat → Option (List M)
  | [] => some []
  | i :: r => match cs[i]?, takeAll cs r with
    | some .dead, _ => none
    | some m, some ms => some (m :: ms)
    | _, _ => none
def putAll {α : Type} : List α → List Nat → List α → List α
  | cs, i :: r, m :: ms => putAll (cs.set i m) r ms
  | cs, _, _ => cs
def callW (f : List W → List M → Rs W) (ws : List W) (cs : List M) : Rs W :=
  match rn [] ws with
  | (us, ids) => match takeAll cs ids with
    | none => .stuck
    | some ms => match f us ms with
      | .stuck => .stuck
      | .ex C ks vs ms' => .ex C ks vs (putAll cs ids ms')
      | .ok (.d x) ms' => .ok (.d x) (putAll cs ids ms')
      | .ok (.c j) ms' => match ids[j]? with
        | some i => .ok (.c i) (putAll cs ids ms')
        | none => match ms'[j]? with
          | some m => .ok (.c cs.length) (putAll cs ids ms' ++ [m])
          | none => .stuck
def compL (f : D → List M → Rs (Option D)) : List D → List D → List M → Rs (List D)
  | [], acc, cs => .ok acc cs
  | d :: ds, acc, cs => match f d cs with
    | .ok o cs => compL f ds (acc ++ o.toList) cs
    | _ => .stuck
def fget : List Str → List D → Str → Option D
  | k :: ks, v :: vs, q => if q = k then some v else fget ks vs q
  | _, _, _ => none
def fput : List Str → List D → Str → D → List Str × List D
  | k :: ks, v :: vs, q, x => if k = q then (k :: ks, x :: vs) else let r := fput ks vs q x; (k :: r.1, v :: r.2)
  | _, _, q, x => ([q], [x])
section
variable (G : Pg) (Φ : Nat → List W → List M → Rs W)
def aloneW (n : Nat) (d : D) : Option W → Option W
  | some (.c i) => if i = n then some (.d d) else none
  | w => w
def aloneS (n : Nat) (d : D) (sl : Sl) : Sl := sl.map (aloneW n d)
def atomD : D → Bool
  | .non => true
  | .bl _ => true
  | .int _ => true
  | .str _ => true
  | _ => false
def twosOf : List D → Option (List (Key × D))
  | [] => some []
  | k :: v :: r => (match keyOf k, twosOf r with
    | some q, some r => some ((q, v) :: r)
    | _, _ => none)
  | _ => none
def recvOk (o : O) (d : Option D) : Bool := match o, d with
  | .startswith, some (.str _) => true
  | .endswith, some (.str _) => true
  | .partition, some (.str _) => true
  | .join, some (.str _) => true
  | .split, some (.str _) => true
  | .count, some (.str _) => true
  | .get1, some (.dct _ _) => true
  | .get2, some (.dct _ _) => true
  | _, _ => false
def methF (m : Str) : Option D → Option Nat
  | some (.obj C ks _) => if ks.contains m then none else G.meth C m
  | _ => none
mutual
def evE : E → Sl → List M → Rs W
  | .c d, _, cs => .ok (.d d) cs
  | .v i, sl, cs => match sl[i]? with
    | some (some w) => .ok w cs
    | _ => .stuck
  | .g i, _, cs => Rs.ofO (G.csts[i]?.map .d) cs
  | .bm o a es, sl, cs => (evE a sl cs).bind fun w cs => if recvOk o (pk w cs) = true then (evEs es sl cs).bind fun ws cs => match pks (w :: ws) cs with
      | some ds => match sem G.isT o ds with
        | some d => .ok (.d d) cs
        | none => .stuck
      | none => .stuck
    else .stuck
  | .op o es, sl, cs => (evEs es sl cs).bind fun ws cs => match pks ws cs with
    | some ds => match sem G.isT o ds with
      | some d => .ok (.d d) cs
      | none => .stuck
    | none => .stuck
  | .opC o es, sl, cs => (evEs es sl cs).bind fun ws cs => match pks ws cs with
    | some ds => match sem G.isT o ds with
      | some d => match toM d with
        | some m => .ok (.c cs.length) (cs ++ [m])
        | none => .stuck
      | none => .stuck
    | none => .stuck
  | .and_ a b, sl, cs => (evE a sl cs).bind fun w cs => match (pk w cs).bind truth with
    | some true => evE b sl cs
    | some false => .ok w cs
    | none => .stuck
  | .or_ a b, sl, cs => (evE a sl cs).bind fun w cs => match (pk w cs).bind truth with
    | some true => .ok w cs
    | some false => evE b sl cs
    | none => .stuck
  | .not_ a, sl, cs => (evE a sl cs).bind fun w cs => match (pk w cs).bind truth with
    | some b => .ok (.d (.bl (!b))) cs
    | none => .stuck
  | .ife t a b, sl, cs => (evE t sl cs).bind fun w cs => match (pk w cs).bind truth with
    | some true => evE a sl cs
    | some false => evE b sl cs
    | none => .stuck
  | .chain o o' a b c, sl, cs => (evE a sl cs).bind fun x cs => (evE b sl cs).bind fun y cs => match pks [x, y] cs with
    | some ds => match sem G.isT o ds with
      | some (.bl true) => (evE c sl cs).bind fun z cs => match pks [y, z] cs with
        | some ds => match sem G.isT o' ds with
          | some d => .ok (.d d) cs
          | none => .stuck
        | none => .stuck
      | some (.bl false) => .ok (.d (.bl false)) cs
      | _ => .stuck
    | none => .stuck
  | .tup es, sl, cs => (evEs es sl cs).bind fun ws cs => match dats ws with
    | some ds => if ds.length ≤ LIM then .ok (.d (.tup ds)) cs else .stuck
    | none => .stuck
  | .lst es, sl, cs => (evEs es sl cs).bind fun ws cs => match dats ws with
    | some ds => if ds.length ≤ LIM then .ok (.d (.lst ds)) cs else .stuck
    | none => .stuck
  | .mlst es, sl, cs => (evEs es sl cs).bind fun ws cs => match dats ws with
    | some ds => if ds.length ≤ LIM then .ok (.c cs.length) (cs ++ [.lst ds]) else .stuck
    | none => .stuck
  | .sl2 a lo hi, sl, cs => (evE a sl cs).bind fun w cs => (evE lo sl cs).bind fun l cs => match l with
    | .d (.int i) => (evE hi sl cs).bind fun h cs => (match h with
      | .d (.int j) => Rs.ofO (((pk w cs).bind fun d => slD d (some i) (some j)).map .d) cs
      | _ => .stuck)
    | _ => .stuck
  | .slL a lo, sl, cs => (evE a sl cs).bind fun w cs => (evE lo sl cs).bind fun l cs => match l with
    | .d (.int i) => Rs.ofO (((pk w cs).bind fun d => slD d (some i) none).map .d) cs
    | _ => .stuck
  | .slH a hi, sl, cs => (evE a sl cs).bind fun w cs => (evE hi sl cs).bind fun h cs => match h with
    | .d (.int j) => Rs.ofO (((pk w cs).bind fun d => slD d none (some j)).map .d) cs
    | _ => .stuck
  | .fld a f, sl, cs => (evE a sl cs).bind fun w cs => match pk w cs with
    | some (.obj C ks vs) => if G.fld C f = true then Rs.ofO ((fget ks vs f).map .d) cs else .stuck
    | _ => .stuck
  | .call f es, sl, cs => (evEs es sl cs).bind fun ws cs => callW (Φ f) ws cs
  | .fv i, _, cs => .ok (.d (.fnc i)) cs
  | .callv j es, sl, cs => match sl[j]? with
    | some (some (.d (.fnc f))) => if G.fvs f = true then (evEs es sl cs).bind fun ws cs => callW (Φ f) ws cs else .stuck
    | _ => .stuck
  | .make C es, sl, cs => (evEs es sl cs).bind fun ws cs => match G.meth C (Str.ofString "__init__") with
    | some f => (callW (Φ f) (.c cs.length :: ws) (cs ++ [.obj C [] []])).bind fun r cs' => match r with
      | .d .non => .ok (.c cs.length) cs'
      | _ => .stuck
    | none => .stuck
  | .new0 C, _, cs => if G.new0 C = true then .ok (.c cs.length) (cs ++ [.obj C [] []]) else .stuck
  | .dsp mc ks es, sl, cs => match evEs es sl cs with
    | .ok ws cs => (match dats ws with
      | some ds => if ks.Nodup ∧ ks.length = ds.length ∧ ks.length ≤ 15 then (if mc = true then .ok (.c cs.length) (cs ++ [.dct ks ds]) else .ok (.d (.dct ks ds)) cs) else .stuck
      | none => .stuck)
    | _ => .stuck
  | .meth o m es, sl, cs => (evE o sl cs).bind fun w cs => match methF G m (pk w cs) with
    | some f => (evEs es sl cs).bind fun ws cs => callW (Φ f) (w :: ws) cs
    | none => .stuck
  | .comp mc own t k its conds elt, sl, cs => (evEs its sl cs).bind fun ws cs => match (dats ws).bind (items k) with
    | some ds => (compL (fun d cs => match bindT t (.d d) (wipeS sl own) with
        | some sl' => (evC conds sl' cs).bind fun b cs => if b = true then (evE elt sl' cs).bind fun w cs => match w with
            | .d x => .ok (some x) cs
            | .c _ => .stuck
          else .ok none cs
        | none => .stuck) ds [] cs).bind fun ds cs => if mc = true then .ok (.c cs.length) (cs ++ [.lst ds]) else .ok (.d (.lst ds)) cs
    | none => .stuck
  | .compc own t j conds elt, sl, cs => match sl[j]? with
    | some (some (.c n)) => (match cs[n]? with
      | some (.dct ks vs) => if ks.length = vs.length ∧ ks.length ≤ LIM then (match compL (fun d cs => match bindT t (.d d) (wipeS (aloneS n (.dct ks vs) sl) own) with
          | some sl' => (evC conds sl' cs).bind fun b cs => if b = true then (evE elt sl' cs).bind fun w cs => match w with
              | .d x => if atomD x = true then .ok (some x) cs else .stuck
              | .c _ => .stuck
            else .ok none cs
          | none => .stuck) (ks.map kD) [] [] with
        | .ok ds _ => .ok (.d (.lst ds)) cs
        | _ => .stuck) else .stuck
      | _ => .stuck)
    | _ => .stuck
  | .dspE kes, sl, cs => match evEs kes sl cs with
    | .ok ws cs => (match (dats ws).bind twosOf with
      | some ps => if ps.length ≤ 15 ∧ ps ≠ [] then .ok (.d (.dct (dmerge [] [] ps).1 (dmerge [] [] ps).2)) cs else .stuck
      | none => .stuck)
    | _ => .stuck
  | .frz e, sl, cs => (evE e sl cs).bind fun w cs => match w with
    | .d x => .ok (.d x) cs
    | .c i => match pk (.c i) cs with
      | some d => .ok (.d d) (cs.set i .dead)
      | none => .stuck
def evEs : List E → Sl → List M → Rs (List W)
  | [], _, cs => .ok [] cs
  | e :: es, sl, cs => (evE e sl cs).bind fun w cs => (evEs es sl cs).bind fun ws cs => .ok (w :: ws) cs
/-- all conditions -/
def evC : List E → Sl → List M → Rs Bool
  | [], _, cs => .ok true cs
  | e :: es, sl, cs => (evE e sl cs).bind fun w cs => match (pk w cs).bind truth with
    | some true => evC es sl cs
    | some false => .ok false cs
    | none => .stuck
end
def evT (e : E) (sl : Sl) (cs : List M) : Rs Bool := (evE G Φ e sl cs).bind fun w cs => Rs.ofO ((pk w cs).bind truth) cs
end
def isLstC (o : W) (cs : List M) : Bool := match o with
  | .c n => (match cs[n]? with
    | some (.lst _) => true
    | _ => false)
  | _ => false
def isDctC (o : W) (cs : List M) : Bool := match o with
  | .c n => (match cs[n]? with
    | some (.dct _ _) => true
    | _ => false)
  | _ => false
def sameC (o w : W) : Bool := match o, w with
  | .c n, .c m => n == m
  | _, _ => false
def ddrop : List Key → List D → Key → List Key × List D
  | k :: ks, v :: vs, q => if k = q then ddrop ks vs q else (k :: (ddrop ks vs q).1, v :: (ddrop ks vs q).2)
  | _, _, _ => ([], [])
inductive Fl where
  | nx | brk | cnt | ret (w : W)
inductive SR where
  | ok (f : Fl) (sl : Sl) (cs : List M)
  | ex (C : Nat) (ks : List Str) (vs : List D) (sl : Sl) (cs : List M)
  | stuck
def SR.of {α : Type} (r : Rs α) (sl : Sl) (f : α → List M → SR) : SR := match r with
  | .ok a cs => f a cs
  | .ex C ks vs cs => .ex C ks vs sl cs
  | .stuck => .stuck
@[simp] theorem SR.of_ok {α : Type} (a : α) (cs : List M) (sl : Sl) (f : α → List M → SR) : SR.of (.ok a cs) sl f = f a cs := rfl
@[simp] theorem SR.of_ex {α : Type} (C : Nat) (ks : List Str) (vs : List D) (cs : List M) (sl : Sl) (f : α → List M → SR) : SR.of (.ex C ks vs cs : Rs α) sl f = .ex C ks vs sl cs := rfl
@[simp] theorem SR.of_stuck {α : Type} (sl : Sl) (f : α → List M → SR) : SR.of (.stuck : Rs α) sl f = .stuck := rfl
def forL (f : D → Sl → List M → SR) : List D → Sl → List M → SR
  | [], sl, cs => .ok .nx sl cs
  | d :: ds, sl, cs => match f d sl cs with
    | .ok .nx sl cs => forL f ds sl cs
    | .ok .cnt sl cs => forL f ds sl cs
    | .ok .brk sl cs => .ok .nx sl cs
    | r => r
def whileL (t : Sl → List M → Rs Bool) (f : Sl → List M → SR) : Nat → Sl → List M → SR
  | 0, _, _ => .stuck
  | n + 1, sl, cs => SR.of (t sl cs) sl fun b cs => if b = true then match f sl cs with
      | .ok .nx sl cs => whileL t f n sl cs
      | .ok .cnt sl cs => whileL t f n sl cs
      | .ok .brk sl cs => .ok .nx sl cs
      | r => r
    else .ok .nx sl cs
section
variable (G : Pg) (Φ : Nat → List W → List M → Rs W)
mutual
def evS : S → Sl → List M → SR
  | .ex e, sl, cs => SR.of (evE G Φ e sl cs) sl fun _ cs => .ok .nx sl cs
  | .asg t e, sl, cs => SR.of (evE G Φ e sl cs) sl fun w cs => match bindT t w sl with
    | some sl => .ok .nx sl cs
    | none => .stuck
  | .par i j a b, sl, cs => SR.of (evE G Φ a sl cs) sl fun x cs => SR.of (evE G Φ b sl cs) sl fun y cs =>
      if i < sl.length ∧ j < sl.length then .ok .nx ((sl.set i (some x)).set j (some y)) cs else .stuck
  | .aug i o e, sl, cs => match sl[i]? with
    | some (some x) => SR.of (evE G Φ e sl cs) sl fun y cs => match x, y with
      | .d a, .d b => match augD o a b with
        | some d => .ok .nx (sl.set i (some (.d d))) cs
        | none => .stuck
      | _, _ => .stuck
    | _ => .stuck
  | .setix a i e, sl, cs => SR.of (evE G Φ e sl cs) sl fun w cs => SR.of (evE G Φ a sl cs) sl fun o cs => SR.of (evE G Φ i sl cs) sl fun k cs =>
    match o, k, w with
    | .c n, .d kd, .d x => match cs[n]? with
      | some (.lst xs) => (match kd with
        | .int z => (match ixN xs.length z with
          | some j => .ok .nx sl (cs.set n (.lst (xs.set j x)))
          | none => .stuck)
        | _ => .stuck)
      | some (.dct ks vs) => (match keyOf kd with
        | some q => if ks.length < LIM then .ok .nx sl (cs.set n (.dct (dput ks vs q x).1 (dput ks vs q x).2)) else .stuck
        | none => .stuck)
      | _ => .stuck
    | _, _, _ => .stuck
  | .setfld a f e, sl, cs => SR.of (evE G Φ e sl cs) sl fun w cs => SR.of (evE G Φ a sl cs) sl fun o cs =>
    match o, w with
    | .c n, .d x => match cs[n]? with
      | some (.obj C ks vs) => if G.fld C f = true ∧ ks.length < 1000 then .ok .nx sl (cs.set n (.obj C (fput ks vs f x).1 (fput ks vs f x).2)) else .stuck
      | _ => .stuck
    | _, _ => .stuck
  | .app a e, sl, cs => SR.of (evE G Φ a sl cs) sl fun o cs => if isLstC o cs = true then SR.of (evE G Φ e sl cs) sl fun w cs =>
      match o, w with
      | .c n, .d x => match cs[n]? with
        | some (.lst xs) => if xs.length < LIM then .ok .nx sl (cs.set n (.lst (xs ++ [x]))) else .stuck
        | _ => .stuck
      | _, _ => .stuck
    else .stuck
  | .ext a e, sl, cs => SR.of (evE G Φ a sl cs) sl fun o cs => if isLstC o cs = true then SR.of (evE G Φ e sl cs) sl fun w cs =>
      match o, pk w cs with
      | .c n, some (.lst ys) => match cs[n]? with
        | some (.lst xs) => if xs.length + ys.length ≤ LIM ∧ sameC o w = false then .ok .nx sl (cs.set n (.lst (xs ++ ys))) else .stuck
        | _ => .stuck
      | _, _ => .stuck
    else .stuck
  | .updD a e, sl, cs => SR.of (evE G Φ a sl cs) sl fun o cs => if isDctC o cs = true then SR.of (evE G Φ e sl cs) sl fun w cs =>
      match o, pk w cs with
      | .c n, some (.dct ks2 vs2) => match cs[n]? with
        | some (.dct ks vs) => if ks.length + ks2.length ≤ LIM ∧ sameC o w = false ∧ ks2.length = vs2.length then .ok .nx sl (cs.set n (.dct (dmerge ks vs (ks2.zip vs2)).1 (dmerge ks vs (ks2.zip vs2)).2)) else .stuck
        | _ => .stuck
      | _, _ => .stuck
    else .stuck
  | .popD a e, sl, cs => SR.of (evE G Φ a sl cs) sl fun o cs => if isDctC o cs = true then SR.of (evE G Φ e sl cs) sl fun w cs =>
      match o, w with
      | .c n, .d kd => match cs[n]?, keyOf kd with
        | some (.dct ks vs), some q => if (dget ks vs q).isSome = true then .ok .nx sl (cs.set n (.dct (ddrop ks vs q).1 (ddrop ks vs q).2)) else .stuck
        | _, _ => .stuck
      | _, _ => .stuck
    else .stuck
  | .ite t a b, sl, cs => SR.of (evT G Φ t sl cs) sl fun k cs => if k = true then evSs a sl cs else evSs b sl cs
  | .for_ t k its b, sl, cs => SR.of (evEs G Φ its sl cs) sl fun ws cs => match (dats ws).bind (items k) with
    | some ds => forL (fun d sl cs => match bindT t (.d d) sl with
        | some sl => evSs b sl cs
        | none => .stuck) ds sl cs
    | none => .stuck
  | .forK t j b, sl, cs => match sl[j]? with
    | some (some (.d (.dct ks vs))) => if ks.length = vs.length ∧ ks.length ≤ LIM then (match forL (fun d sl cs => match bindT t (.d d) sl with
        | some sl => evSs b sl cs
        | none => .stuck) (ks.map kD) sl cs with
        | .ex _ _ _ _ _ => .stuck
        | r => r) else .stuck
    | _ => .stuck
  | .while_ t b, sl, cs => whileL (evT G Φ t) (evSs b) G.fuel sl cs
  | .ret e, sl, cs => SR.of (evE G Φ e sl cs) sl fun w cs => .ok (.ret w) sl cs
  | .rais C es, sl, cs => SR.of (evEs G Φ es sl cs) sl fun ws cs => if ws.length ≤ LIM then .ex C [] [] sl cs else .stuck
  | .try_ b C i h, sl, cs => match evSs b sl cs with
    | .ex C' ks vs sl' cs' => match G.sub C' C with
      | some true => (match i with
        | some i => if i < sl'.length then (match evSs h (sl'.set i (some (.d (.exc C' ks vs)))) cs' with
          | .ok f sl2 cs2 => .ok f (sl2.set i none) cs2
          | .ex _ _ _ _ _ => .stuck
          | .stuck => .stuck) else .stuck
        | none => (match evSs h sl' cs' with
          | .ok f sl2 cs2 => .ok f sl2 cs2
          | .ex _ _ _ _ _ => .stuck
          | .stuck => .stuck))
      | some false => .ex C' ks vs sl' cs'
      | none => .stuck
    | r => r
  | .brk, sl, cs => .ok .brk sl cs
  | .cnt, sl, cs => .ok .cnt sl cs
  | .pass, sl, cs => .ok .nx sl cs
  | .frz i, sl, cs => match sl[i]? with
    | some (some (.c n)) => (match pk (.c n) cs with
      | some d => .ok .nx (sl.set i (some (.d d))) (cs.set n .dead)
      | none => .stuck)
    | some (some (.d _)) => .ok .nx sl cs
    | _ => .stuck
def evSs : List S → Sl → List M → SR
  | [], sl, cs => .ok .nx sl cs
  | s :: ss, sl, cs => match evS s sl cs with
    | .ok .nx sl cs => evSs ss sl cs
    | r => r
end
def runB (np ns : Nat) (b : List S) (ws : List W) (cs : List M) : Rs W :=
  if ws.length = np then match evSs G Φ b (ws.map some ++ List.replicate (ns - np) none) cs with
    | .ok (.ret w) _ cs => .ok w cs
    | .ok .nx _ cs => .ok (.d .non) cs
    | .ex C ks vs _ cs => .ex C ks vs cs
    | _ => .stuck
  else .stuck
end
def call (G : Pg) : Nat → Nat → List W → List M → Rs W
  | 0, _, _, _ => .stuck
  | n + 1, f, ws, cs => match G.fns[f]? with
    | some (np, ns, b) => runB G (call G n) np ns b ws cs
    | none => .stuck
end PD
set_option Elab.async false
set_option linter.all false
set_option maxRecDepth 100000
set_option maxHeartbeats 4000000
namespace PD
open PySem PySem.Spec PyProof.Rows L2
section
variable (K : PySem.W.Frag) (cad : Nat → Addr)
structure Rel (as : AS) (R : List Addr) (H : Hp) (sl : Sl) (cs : List M) (σ : L2.St) : Prop where
  len : σ.length = sl.length
  sl : ∀ (i : Nat) w, sl[i]? = some (some w) → ∃ v, σ[i]? = some (some v) ∧ IsW K cad as R H w v
  cells : Cells K cad as R H cs
def IsX (as : AS) (R : List Addr) (H : Hp) (C : Nat) (ks : List Str) (vs : List D) (cls : Value) (d : Option Addr) : Prop :=
  cls = .ref (cad C) ∧ ((ks = [] ∧ vs = [] ∧ d = none) ∨ (ks ≠ [] ∧ ∃ dx us, d = some dx ∧ dx ∉ Av as R ∧ H dx = some (.xd us) ∧ us.map (·.1) = ks ∧ IsDs K cad H (Av as R) vs (us.map (·.2))))
def Post {α β : Type} (IsA : AS → List Addr → Hp → α → β → Prop) (W : WX) (σ : L2.St) (as : AS) (R : List Addr) (H : Hp) (Q : β → Hp → Prop) : Rs α → Prop
  | .ok a cs => ∀ v H' as', Ext H as H' as' → Cells K cad as' R H' cs → IsA as' R H' a v → Q v H'
  | .ex C ks vs cs => ∀ cls d H' as', Ext H as H' as' → Cells K cad as' R H' cs → IsX K cad as' R H' C ks vs cls d → W cls d σ H'
  | .stuck => False
def liftR {α β : Type} (IsA : AS → List Addr → Hp → α → β → Prop) (W : WX) (g : Sl → List M → Rs α) : L2.St → Hp → (β → Hp → Prop) → Prop :=
  fun σ H Q => ∃ sl cs as R, Rel K cad as R H sl cs σ ∧ Post K cad IsA W σ as R H Q (g sl cs)
abbrev rW : AS → List Addr → Hp → W → V → Prop := fun as R H w v => IsW K cad as R H w v
abbrev rWs : AS → List Addr → Hp → List W → List V → Prop := fun as R H w v => IsWs K cad as R H w v
abbrev rB : AS → List Addr → Hp → Bool → Bool → Prop := fun _ _ _ b c => b = c
abbrev liftE (W : WX) (g : Sl → List M → Rs PD.W) : TE := liftR K cad (rW K cad) W g
abbrev liftA (W : WX) (g : Sl → List M → Rs (List PD.W)) : TA := liftR K cad (rWs K cad) W g
abbrev liftT (W : WX) (g : Sl → List M → Rs Bool) : TT := liftR K cad rB W g
end
section
variable {K : PySem.W.Frag} {cad : Nat → Addr} {as as' : AS} {R : List Addr} {H H' : Hp} {sl : Sl} {cs cs' : List M} {σ : L2.St} {W : WX}
theorem Rel.mono (r : Rel K cad as R H sl cs σ) (x : Ext H as H' as') (c : Cells K cad as' R H' cs') : Rel K cad as' R H' sl cs' σ :=
  ⟨r.len, fun i w e => let ⟨v, e1, h⟩ := r.sl i w e; ⟨v, e1, h.mono x⟩, c⟩
theorem Post.mono {α β : Type} {IsA : AS → List Addr → Hp → α → β → Prop} {Q : β → Hp → Prop} (x : Ext H as H' as') : ∀ {r : Rs α}, Post K cad IsA W σ as R H Q r → Post K cad IsA W σ as' R H' Q r
  | .ok a cs, h => fun v H2 as2 x2 c i => h v H2 as2 (x.trans x2) c i
  | .ex C ks vs cs, h => fun cls d H2 as2 x2 c i => h cls d H2 as2 (x.trans x2) c i
  | .stuck, h => h
theorem lift_bind {α β γ δ : Type} {IsA : AS → List Addr → Hp → α → β → Prop} {IsB : AS → List Addr → Hp → γ → δ → Prop} {g : Sl → List M → Rs α} {f : Sl → α → List M → Rs γ} {Q : δ → Hp → Prop} {hs : List PD.W} {vs : List V}
    (h : ∃ sl cs as R, Rel K cad as R H sl cs σ ∧ IsWs K cad as R H hs vs ∧ Post K cad IsB W σ as R H Q ((g sl cs).bind (f sl))) :
    liftR K cad IsA W g σ H fun v H1 => ∃ sl cs as R a, Rel K cad as R H1 sl cs σ ∧ IsWs K cad as R H1 hs vs ∧ IsA as R H1 a v ∧ Post K cad IsB W σ as R H1 Q (f sl a cs) := by
  obtain ⟨sl, cs, as, R, rel, ih, p⟩ := h
  refine ⟨sl, cs, as, R, rel, ?_⟩
  cases e : g sl cs with
  | ok a cs1 =>
    rw [e] at p
    exact fun v H1 as1 x c i => ⟨sl, cs1, as1, R, a, rel.mono x c, ih.mono x, i, Post.mono x p⟩
  | ex C ks vs cs1 =>
    rw [e] at p
    exact p
  | stuck =>
    rw [e] at p
    exact p
theorem lift_bind0 {α β γ δ : Type} {IsA : AS → List Addr → Hp → α → β → Prop} {IsB : AS → List Addr → Hp → γ → δ → Prop} {g : Sl → List M → Rs α} {f : Sl → α → List M → Rs γ} {Q : δ → Hp → Prop}
    (h : liftR K cad IsB W (fun sl cs => (g sl cs).bind (f sl)) σ H Q) :
    liftR K cad IsA W g σ H fun v H1 => ∃ sl cs as R a, Rel K cad as R H1 sl cs σ ∧ IsA as R H1 a v ∧ Post K cad IsB W σ as R H1 Q (f sl a cs) := by
  obtain ⟨sl, cs, as, R, rel, p⟩ := h
  have q := lift_bind (IsA := IsA) (IsB := IsB) (g := g) (f := f) (hs := []) (vs := []) ⟨sl, cs, as, R, rel, rfl, p⟩
  obtain ⟨sl, cs, as, R, rel, p⟩ := q
  refine ⟨sl, cs, as, R, rel, ?_⟩
  cases e : g sl cs with
  | ok a cs1 =>
    rw [e] at p
    exact fun v H1 as1 x c i => let ⟨sl, cs, as, R, a, h1, _, h2, h3⟩ := p v H1 as1 x c i; ⟨sl, cs, as, R, a, h1, h2, h3⟩
  | ex C ks vs cs1 => rw [e] at p; exact p
  | stuck => rw [e] at p; exact p
theorem lift_mono {α β : Type} {IsA : AS → List Addr → Hp → α → β → Prop} {g : Sl → List M → Rs α} {Q Q' : β → Hp → Prop} (h : liftR K cad IsA W g σ H Q) (q : ∀ v H, Q v H → Q' v H) : liftR K cad IsA W g σ H Q' := by
  obtain ⟨sl, cs, as, R, rel, p⟩ := h
  refine ⟨sl, cs, as, R, rel, ?_⟩
  cases e : g sl cs with
  | ok a cs1 => rw [e] at p; exact fun v H1 as1 x c i => q _ _ (p v H1 as1 x c i)
  | ex C ks vs cs1 => rw [e] at p; exact p
  | stuck => rw [e] at p; exact p
theorem _root_.L2.PE.imp {X : Cx} {e : Expr} {t t' : TE} (h : PE X e t) (i : ∀ σ H Q, t' σ H Q → t σ H Q) : PE X e t' := ⟨fun pins s σ H Q I q => h.run pins s σ H Q I (i _ _ _ q)⟩
theorem _root_.L2.PA.imp {X : Cx} {e : List Expr} {t t' : TA} (h : PA X e t) (i : ∀ σ H Q, t' σ H Q → t σ H Q) : PA X e t' := ⟨fun pos pins s σ H Q I q => h.run pos pins s σ H Q I (i _ _ _ q)⟩
theorem _root_.L2.PT.imp {X : Cx} {e : Expr} {t t' : TT} (h : PT X e t) (i : ∀ σ H Q, t' σ H Q → t σ H Q) : PT X e t' := ⟨fun pins s σ H Q I q => h.run pins s σ H Q I (i _ _ _ q)⟩
theorem _root_.L2.PW.imp {X : Cx} {e : Expr} {t t' : TT} (h : PW X e t) (i : ∀ σ H Q, t' σ H Q → t σ H Q) : PW X e t' := ⟨fun wh pins s σ H Q I q => h.run wh pins s σ H Q I (i _ _ _ q)⟩
theorem _root_.L2.PS.imp {X : Cx} {e : Stmt} {t t' : TS} (h : PS X e t) (i : ∀ D σ H, t' D σ H → t D σ H) : PS X e t' := ⟨fun pins s σ H D I q => h.run pins s σ H D I (i _ _ _ q)⟩
theorem _root_.L2.PSs.imp {X : Cx} {e : List Stmt} {t t' : TS} (h : PSs X e t) (i : ∀ D σ H, t' D σ H → t D σ H) : PSs X e t' := ⟨fun pins s σ H D I q => h.run pins s σ H D I (i _ _ _ q)⟩
theorem Post.data {Q : VK} {d : D} (c : Cells K cad as R H cs) (p : Post K cad (rW K cad) W σ as R H Q (.ok (.d d) cs)) {v : V} {H' : Hp} (s : Same H H') (i : IsD K cad H' (Av as R) d v) : Q v H' :=
  p v H' as (Ext.same s) (c.same s) i
theorem IsW.pkD {w : PD.W} {v : V} {d : D} (c : Cells K cad as R H cs) (h : IsW K cad as R H w v) (e : pk w cs = some d) : PkD K cad H (Av as R) d v := by
  cases w with
  | d x => cases (show some x = some d from e); exact IsD.pk h
  | c i =>
    obtain ⟨hi, ha⟩ := h
    obtain ⟨o, ho⟩ : ∃ o, as[i]? = some o := ⟨as[i], by simp [hi]⟩
    have e' : (match cs[i]? with | some m => mD m | none => none) = some d := e
    cases o with
    | none =>
      rw [c.dead i ho] at e'
      cases e'
    | some a =>
      cases q : cs[i]? with
      | none => rw [q] at e'; cases e'
      | some m =>
        rw [q] at e'
        have z := c.at_ i a m ho q
        have ev := ha a ho
        subst ev
        cases m with
        | lst ds =>
          cases (show some (D.lst ds) = some d from e')
          obtain ⟨xs, h1, h2⟩ := z
          exact ⟨a, xs, rfl, .inl (.inl h1), h2⟩
        | dct ks ds =>
          cases (show some (D.dct ks ds) = some d from e')
          obtain ⟨us, h1, h2⟩ := z
          exact ⟨a, us, rfl, .inl h1, h2⟩
        | obj C ks ds =>
          cases (show some (D.obj C ks ds) = some d from e')
          obtain ⟨dx, us, h1, h2⟩ := z
          exact ⟨a, dx, us, rfl, h1, h2⟩
        | dead => cases e'
def PkDs (K : PySem.W.Frag) (cad : Nat → Addr) (H : Hp) (F : List Addr) : List D → List V → Prop
  | [], vs => vs = []
  | d :: ds, vs => ∃ v r, vs = v :: r ∧ PkD K cad H F d v ∧ PkDs K cad H F ds r
theorem IsWs.pkDs (c : Cells K cad as R H cs) : ∀ {ws : List PD.W} {vs : List V} {ds : List D}, IsWs K cad as R H ws vs → pks ws cs = some ds → PkDs K cad H (Av as R) ds vs
  | [], _, _, h, e => by
    cases (show some [] = some _ from e)
    exact h
  | w :: ws, _, _, h, e => by
    obtain ⟨x, r, rfl, h1, h2⟩ := h
    have e' : (match pk w cs, pks ws cs with | some d, some ds => some (d :: ds) | _, _ => none) = some _ := e
    cases e1 : pk w cs with
    | none => rw [e1] at e'; cases e'
    | some d =>
      cases e2 : pks ws cs with
      | none => rw [e1, e2] at e'; cases e'
      | some ds =>
        rw [e1, e2] at e'
        cases e'
        exact ⟨x, r, rfl, h1.pkD c e1, IsWs.pkDs c h2 e2⟩
theorem IsWs.dats : ∀ {ws : List PD.W} {vs : List V} {ds : List D}, IsWs K cad as R H ws vs → PD.dats ws = some ds → IsDs K cad H (Av as R) ds vs
  | [], _, _, h, e => by
    cases (show some [] = some _ from e)
    exact h
  | .d w :: ws, _, _, h, e => by
    obtain ⟨x, r, rfl, h1, h2⟩ := h
    have e' : (PD.dats ws).map (w :: ·) = some _ := e
    cases e2 : PD.dats ws with
    | none => rw [e2] at e'; cases e'
    | some ds =>
      rw [e2] at e'
      cases e'
      exact ⟨x, r, rfl, h1, IsWs.dats h2 e2⟩
  | .c w :: ws, _, _, h, e => by cases (show none = some _ from e)
theorem IsDs.pks {F : List Addr} : ∀ {ds : List D} {vs : List V}, IsDs K cad H F ds vs → PkDs K cad H F ds vs
  | [], _, h => h
  | d :: ds, _, h => by
    obtain ⟨x, r, rfl, h1, h2⟩ := h
    exact ⟨x, r, rfl, h1.pk, IsDs.pks h2⟩
theorem Cells.push {p : Addr} {o : HO} {m : M} (c : Cells K cad as R H cs) (hp : H p = none) (h : CellM K cad (upd H p o) (Av (as ++ [some p]) R) p m) :
    Cells K cad (as ++ [some p]) R (upd H p o) (cs ++ [m]) ∧ Ext H as (upd H p o) (as ++ [some p]) ∧ IsW K cad (as ++ [some p]) R (upd H p o) (.c cs.length) (.ref p) := by
  have ltl : ∀ a ∈ live as, a ≠ p := fun a ha z => by
    obtain ⟨i, e⟩ := mem_live.mp ha
    have hi := (List.getElem?_eq_some_iff.mp e).1
    have hc : i < cs.length := by rw [← c.len]; exact hi
    have q := c.at_ i a cs[i] e (by simp [hc])
    rw [z] at q
    cases hh : cs[i] with
    | lst _ => rw [hh] at q; obtain ⟨_, q, _⟩ := q; rw [hp] at q; cases q
    | dct _ _ => rw [hh] at q; obtain ⟨_, q, _⟩ := q; rw [hp] at q; cases q
    | obj _ _ _ => rw [hh] at q; obtain ⟨_, _, q, _⟩ := q; rw [hp] at q; cases q
    | dead => rw [hh] at q; exact q
  have ext : Ext H as (upd H p o) (as ++ [some p]) := by
    refine ⟨by simp, fun i a hi e => ?_, fun i a hi e => ?_, fun a u e _ => same_upd hp a u e, fun a u e => ⟨u, same_upd hp a u e⟩⟩
    · rw [List.getElem?_append_left hi] at e
      exact e
    · rw [List.getElem?_append_right hi] at e
      have : i - as.length = 0 := by
        have := (List.getElem?_eq_some_iff.mp e).1
        simp at this
        omega
      rw [this] at e
      cases e
      exact hp
  have kp : Kp H (Av as R) (upd H p o) (Av (as ++ [some p]) R) := ext.kp'
  refine ⟨⟨by simp [c.len], fun i j a e1 e2 => ?_, fun i e => ?_, fun i a m' e1 e2 => ?_, fun a ha => ?_, fun a ha => ?_⟩, ext, ?_, fun a e => ?_⟩
  · by_cases hi : i < as.length
    · rw [List.getElem?_append_left hi] at e1
      by_cases hj : j < as.length
      · rw [List.getElem?_append_left hj] at e2
        exact c.inj i j a e1 e2
      · rw [List.getElem?_append_right (by omega)] at e2
        have : a = p := by
          have h0 : j - as.length = 0 := by
            have := (List.getElem?_eq_some_iff.mp e2).1
            simp at this
            omega
          rw [h0] at e2
          cases e2
          rfl
        exact absurd this (ltl a (mem_live.mpr ⟨i, e1⟩))
    · rw [List.getElem?_append_right (by omega)] at e1
      have h0 : i - as.length = 0 := by
        have := (List.getElem?_eq_some_iff.mp e1).1
        simp at this
        omega
      rw [h0] at e1
      by_cases hj : j < as.length
      · rw [List.getElem?_append_left hj] at e2
        cases e1
        exact absurd rfl (ltl p (mem_live.mpr ⟨j, e2⟩))
      · rw [List.getElem?_append_right (by omega)] at e2
        have h1 : j - as.length = 0 := by
          have := (List.getElem?_eq_some_iff.mp e2).1
          simp at this
          omega
        omega
  · by_cases hi : i < as.length
    · rw [List.getElem?_append_left hi] at e
      rw [List.getElem?_append_left (by rw [← c.len]; exact hi)]
      exact c.dead i e
    · rw [List.getElem?_append_right (by omega)] at e
      have h0 : i - as.length = 0 := by
        have := (List.getElem?_eq_some_iff.mp e).1
        simp at this
        omega
      rw [h0] at e
      cases e
  · by_cases hi : i < as.length
    · rw [List.getElem?_append_left hi] at e1
      rw [List.getElem?_append_left (by rw [← c.len]; exact hi)] at e2
      have q := c.at_ i a m' e1 e2
      have na := ltl a (mem_live.mpr ⟨i, e1⟩)
      cases m' with
      | lst ds => obtain ⟨xs, h1, h2⟩ := q; exact ⟨xs, by rw [upd_ne na]; exact h1, h2.mono kp⟩
      | dct ks ds => obtain ⟨xs, h1, h2, h3⟩ := q; exact ⟨xs, by rw [upd_ne na]; exact h1, h2, h3.mono kp⟩
      | obj C ks ds => obtain ⟨dx, xs, h1, h2, h3⟩ := q; exact ⟨dx, xs, by rw [upd_ne na]; exact h1, h2, h3.mono kp⟩
      | dead => exact q
    · rw [List.getElem?_append_right (by omega)] at e1
      have h0 : i - as.length = 0 := by
        have := (List.getElem?_eq_some_iff.mp e1).1
        simp at this
        omega
      rw [h0] at e1
      cases e1
      rw [List.getElem?_append_right (by rw [← c.len]; omega), ← c.len, h0] at e2
      cases e2
      exact h
  · obtain ⟨i, e⟩ := mem_live.mp ha
    by_cases hi : i < as.length
    · rw [List.getElem?_append_left hi] at e
      exact c.apart a (mem_live.mpr ⟨i, e⟩)
    · rw [List.getElem?_append_right (by omega)] at e
      have h0 : i - as.length = 0 := by
        have := (List.getElem?_eq_some_iff.mp e).1
        simp at this
        omega
      rw [h0] at e
      cases e
      exact fun hr => by
        obtain ⟨o', z⟩ := c.rl p hr
        rw [hp] at z
        cases z
  · obtain ⟨o', z⟩ := c.rl a ha
    exact ⟨o', same_upd hp a o' z⟩
  · show cs.length < (as ++ [some p]).length
    rw [← c.len]
    simp
  · rw [← c.len, List.getElem?_append_right (Nat.le_refl _), Nat.sub_self] at e
    cases e
    rfl
theorem live_there (c : Cells K cad as R H cs) {a : Addr} (ha : a ∈ live as) : ∃ o, H a = some o := by
  obtain ⟨i, e⟩ := mem_live.mp ha
  have hi := (List.getElem?_eq_some_iff.mp e).1
  have hc : i < cs.length := by rw [← c.len]; exact hi
  have q := c.at_ i a cs[i] e (by simp [hc])
  cases hh : cs[i] with
  | lst _ => rw [hh] at q; obtain ⟨_, q, _⟩ := q; exact ⟨_, q⟩
  | dct _ _ => rw [hh] at q; obtain ⟨_, q, _⟩ := q; exact ⟨_, q⟩
  | obj _ _ _ => rw [hh] at q; obtain ⟨_, _, q, _⟩ := q; exact ⟨_, q⟩
  | dead => rw [hh] at q; exact q.elim
theorem Cells.write {a : Addr} {o : HO} {m m0 : M} {n : Nat} (c : Cells K cad as R H cs) (ha : as[n]? = some (some a)) (hn : cs[n]? = some m0) (h : Kp H (Av as R) (upd H a o) (Av as R) → CellM K cad (upd H a o) (Av as R) a m) :
    Cells K cad as R (upd H a o) (cs.set n m) ∧ Ext H as (upd H a o) as := by
  have la : a ∈ live as := mem_live.mpr ⟨n, ha⟩
  have ext : Ext H as (upd H a o) as := by
    refine ⟨Nat.le_refl _, fun _ _ _ e => e, fun i b hi e => ?_, fun b u e hb => ?_, fun b u e => ?_⟩
    · have := (List.getElem?_eq_some_iff.mp e).1
      omega
    · rw [upd_ne (show b ≠ a from fun z => hb (by rw [z]; exact la))]
      exact e
    · by_cases hb : b = a
      · exact ⟨o, by rw [hb, upd_same]⟩
      · exact ⟨u, by rw [upd_ne hb]; exact e⟩
  have kp : Kp H (Av as R) (upd H a o) (Av as R) := ext.kp'
  refine ⟨⟨by simp [c.len], c.inj, fun i e => ?_, fun i b m' e1 e2 => ?_, c.apart, fun b hb => ?_⟩, ext⟩
  · have hne : n ≠ i := fun z => by
      rw [← z, ha] at e
      cases e
    rw [List.getElem?_set_ne hne]
    exact c.dead i e
  · by_cases hi : n = i
    · subst hi
      rw [ha] at e1
      cases e1
      rw [List.getElem?_set_self (by have := (List.getElem?_eq_some_iff.mp hn).1; exact this)] at e2
      cases e2
      exact h kp
    · rw [List.getElem?_set_ne hi] at e2
      have q := c.at_ i b m' e1 e2
      have na : b ≠ a := fun z => hi (c.inj n i a ha (by rw [← z]; exact e1))
      cases m' with
      | lst ds => obtain ⟨xs, h1, h2⟩ := q; exact ⟨xs, by rw [upd_ne na]; exact h1, h2.mono kp⟩
      | dct ks ds => obtain ⟨xs, h1, h2, h3⟩ := q; exact ⟨xs, by rw [upd_ne na]; exact h1, h2, h3.mono kp⟩
      | obj C ks ds => obtain ⟨dx, xs, h1, h2, h3⟩ := q; exact ⟨dx, xs, by rw [upd_ne na]; exact h1, h2, h3.mono kp⟩
      | dead => exact q
  · obtain ⟨u, z⟩ := c.rl b hb
    by_cases hba : b = a
    · exact ⟨o, by rw [hba, upd_same]⟩
    · exact ⟨u, by rw [upd_ne hba]; exact z⟩
theorem Cells.freeze {n : Nat} {v : V} {d : D} (c : Cells K cad as R H cs) (h : IsW K cad as R H (.c n) v) (e : pk (.c n) cs = some d) :
    Cells K cad (as.set n none) R H (cs.set n .dead) ∧ Ext H as H (as.set n none) ∧ IsD K cad H (Av (as.set n none) R) d v := by
  obtain ⟨hi, ha⟩ := h
  obtain ⟨o, ho⟩ : ∃ o, as[n]? = some o := ⟨as[n], by simp [hi]⟩
  have e' : (match cs[n]? with | some m => mD m | none => none) = some d := e
  have old : ∀ (i : Nat) a, (as.set n none)[i]? = some (some a) → as[i]? = some (some a) ∧ n ≠ i := fun i a q => by
    by_cases hn : n = i
    · subst hn
      rw [List.getElem?_set_self hi] at q
      cases q
    · rw [List.getElem?_set_ne hn] at q
      exact ⟨q, hn⟩
  have ext : Ext H as H (as.set n none) := ⟨by simp, fun i a _ q => (old i a q).1, fun i a hi' q => by
    have := (List.getElem?_eq_some_iff.mp (old i a q).1).1
    omega, fun _ _ q _ => q, fun a o q => ⟨o, q⟩⟩
  have kp : Kp H (Av as R) H (Av (as.set n none) R) := ext.kp'
  have cells : Cells K cad (as.set n none) R H (cs.set n .dead) := by
    refine ⟨by simp [c.len], fun i j a q1 q2 => c.inj i j a (old i a q1).1 (old j a q2).1, fun i q => ?_, fun i a m q1 q2 => ?_, fun a hl => ?_, c.rl⟩
    · by_cases hn : n = i
      · subst hn
        rw [List.getElem?_set_self (by rw [← c.len]; exact hi)]
      · rw [List.getElem?_set_ne hn] at q ⊢
        exact c.dead i q
    · obtain ⟨q3, hn⟩ := old i a q1
      rw [List.getElem?_set_ne hn] at q2
      have q := c.at_ i a m q3 q2
      cases m with
      | lst ds => obtain ⟨xs, h1, h2⟩ := q; exact ⟨xs, h1, h2.mono kp⟩
      | dct ks ds => obtain ⟨xs, h1, h2, h3⟩ := q; exact ⟨xs, h1, h2, h3.mono kp⟩
      | obj C ks ds => obtain ⟨dx, xs, h1, h2, h3⟩ := q; exact ⟨dx, xs, h1, h2, h3.mono kp⟩
      | dead => exact q
    · obtain ⟨i, q⟩ := mem_live.mp hl
      exact c.apart a (mem_live.mpr ⟨i, (old i a q).1⟩)
  refine ⟨cells, ext, ?_⟩
  cases o with
  | none => rw [c.dead n ho] at e'; cases e'
  | some a =>
    have nav : a ∉ Av (as.set n none) R := fun hm => by
      rcases List.mem_append.mp hm with hm | hm
      · obtain ⟨i, q⟩ := mem_live.mp hm
        obtain ⟨q3, hn⟩ := old i a q
        exact hn (c.inj n i a ho q3)
      · exact c.apart a (mem_live.mpr ⟨n, ho⟩) hm
    have ev := ha a ho
    subst ev
    cases q : cs[n]? with
    | none => rw [q] at e'; cases e'
    | some m =>
      rw [q] at e'
      have z := c.at_ n a m ho q
      cases m with
      | lst ds =>
        cases (show some (D.lst ds) = some d from e')
        obtain ⟨xs, h1, h2⟩ := z
        exact ⟨a, xs, rfl, .inl ⟨nav, .inl h1⟩, h2.mono kp⟩
      | dct ks ds =>
        cases (show some (D.dct ks ds) = some d from e')
        obtain ⟨us, h1, h2, h3⟩ := z
        exact ⟨a, us, rfl, nav, .inl h1, h2, h3.mono kp⟩
      | obj C ks ds =>
        cases (show some (D.obj C ks ds) = some d from e')
        obtain ⟨dx, us, h1, h2, h3⟩ := z
        exact ⟨a, dx, us, rfl, nav, h1, h2, h3.mono kp⟩
      | dead => cases e'
end
end PD
set_option Elab.async false
set_option linter.all false
set_option maxRecDepth 100000
set_option maxHeartbeats 4000000
namespace PD
open PySem PySem.Spec PyProof.Rows L2
section
variable {prog : Program} {w : World} {A : Around} {E : Value → Shared → Prop} {s : Shared}
theorem adjust_rev (n : Nat) : Builtin.Slice.sliceAdjust none none (-1) (n : Int) = ((n : Int) - 1, -1) := by
  unfold Builtin.Slice.sliceAdjust
  simp
theorem places_rev (n : Nat) : Builtin.Slice.slicePlaces ((n : Int) - 1) (-1) (-1) = n := by
  unfold Builtin.Slice.slicePlaces
  have h1 : ¬ ((-1 : Int) > 0) := by decide
  simp only [h1, if_false]
  by_cases h : (n : Int) - 1 > -1
  · rw [if_pos h, show (- -1 : Int) = 1 by decide, Int.ediv_one]
    omega
  · rw [if_neg h]
    omega
theorem sliceApplied_rev {sl : Addr} {vl vu vs : Value} {n : Nat} {Q : Int × Int × Nat → Shared → Prop} (hs : s.heap.IsSliceOf sl vl vu vs) (pl : IsPart vl none) (pu : IsPart vu none) (ps : IsPart vs (some (-1)))
    (h : Q ((n : Int) - 1, -1, n) s) : wpAny (model prog w) A (Builtin.Slice.sliceApplied (.ref sl) (pure (n : Int))) Q E s := by
  obtain ⟨os, hos, hcs, hds⟩ := id hs
  unfold Builtin.Slice.sliceApplied Builtin.Slice.sliceFields
  refine wpAny_bind (wpAny_bind (wpAny_field hos hds (x := vl) rfl (wpAny_bind (wpAny_field hos hds (x := vu) rfl (wpAny_bind (wpAny_field hos hds (x := vs) rfl (wpAny_pure ?_)))))))
  refine wpAny_bind (HT.slicePart_ ps ?_)
  show wpAny _ _ (if ((-1 : Int) == 0) = true then _ else _) _ _ s
  rw [if_neg (by decide)]
  refine wpAny_bind (HT.slicePart_ pl (wpAny_bind (HT.slicePart_ pu (wpAny_bind (wpAny_pure ?_)))))
  show wpAny _ _ (match Builtin.Slice.sliceAdjust none none (-1) (n : Int) with | (lo, hi) => pure (lo, (-1 : Int), Builtin.Slice.slicePlaces lo hi (-1))) _ _ s
  rw [adjust_rev n]
  show wpAny _ _ (pure ((n : Int) - 1, (-1 : Int), Builtin.Slice.slicePlaces ((n : Int) - 1) (-1) (-1))) _ _ s
  rw [places_rev]
  exact wpAny_pure h
theorem fm_congr {α β : Type} {f g : α → Option β} : ∀ {l : List α}, (∀ x ∈ l, f x = g x) → l.filterMap f = l.filterMap g
  | [], _ => rfl
  | a :: l, h => by
    rw [List.filterMap_cons, List.filterMap_cons, h a List.mem_cons_self, fm_congr fun x hx => h x (List.mem_cons_of_mem _ hx)]
theorem pick_rev (xs : Array Value) : ((List.range xs.size).filterMap fun (k : Nat) => xs[((xs.size : Int) - 1 + (k : Int) * (-1)).toNat]?).toArray = xs.toList.reverse.toArray := by
  congr 1
  have e : (List.range xs.size).filterMap (fun (k : Nat) => xs[((xs.size : Int) - 1 + (k : Int) * (-1)).toNat]?) = (List.range xs.size).filterMap (fun (k : Nat) => xs.toList.reverse[k]?) := by
    refine fm_congr fun k hk => ?_
    have hk := List.mem_range.mp hk
    rw [List.getElem?_reverse (by simpa using hk)]
    have : ((xs.size : Int) - 1 + (k : Int) * (-1)).toNat = xs.toList.length - 1 - k := by simp; omega
    rw [this]
    simp
  rw [e]
  have : ∀ (l : List Value), (List.range l.length).filterMap (fun (k : Nat) => l[k]?) = l := fun l => by
    induction l with
    | nil => rfl
    | cons x l ih =>
      rw [List.length_cons, List.range_succ_eq_map, List.filterMap_cons]
      simp only [List.getElem?_cons_zero]
      rw [List.filterMap_map]
      congr 1
  have z := this xs.toList.reverse
  rw [List.length_reverse, Array.length_toList] at z
  exact z
theorem getItem_tuple_rev {t sl : Addr} {items : Array Value} {vl vu vs : Value} {Q : Value → Shared → Prop} (ht : IsTup s.heap t items) (hs : s.heap.IsSliceOf sl vl vu vs) (pl : IsPart vl none) (pu : IsPart vu none) (ps : IsPart vs (some (-1)))
    (h : Q (.ref s.heap.objs.size) { s with heap := s.heap.push { cls := .type "tuple", data := .seq items.toList.reverse.toArray } })
    (hsz : items.size ≤ sizeLine) : wpAny (model prog w) A (getItem (.ref t) (.ref sl)) Q E s := by
  have htake : sizeOk (.seq items.toList.reverse.toArray) := by
    show items.toList.reverse.toArray.size ≤ sizeLine
    rw [List.size_toArray, List.length_reverse, Array.length_toList]
    omega
  obtain ⟨os, hos, hcs, hds⟩ := id hs
  have hTs : s.TypeIs (.ref sl) "slice" := ⟨os, hos, hcs⟩
  unfold getItem
  try with_reducible refine wpAny_holding ?_
  first | refine wpAny_bind (wpAny_pure ?_) | skip
  refine wpAny_bind (wpAny_sequenceKey ht.typeIs (by decide) ?_)
  refine wpAny_bind (wpAny_callSpecial?_slot (name := Str.ofString "__getitem__") ht.typeIs PyProof.Rows.slot_tuple_getitem
    (wpAny_call_entry PyProof.Rows.slot_tuple_getitem ht.typeIs entry_tuple_getitem ?_ (args_tuple_getitem _ _)))
  show wpAny _ _ (Builtin.Tuple.tupleItemsOf (.ref t) >>= _) _ _ s
  refine wpAny_bind (tupleItemsOf_ ht ?_)
  refine wpAny_bind (wpAny_typeOf hTs ?_)
  rw [if_pos (by decide)]
  refine wpAny_bind (sliceApplied_rev hs pl pu ps ?_)
  have hno : ¬ ((((items.size : Int) - 1) == 0 && (-1 : Int) == 1 && items.size == items.size) = true) := by simp
  show wpAny _ _ (if (((items.size : Int) - 1) == 0 && (-1 : Int) == 1 && items.size == items.size) = true then _ else _) _ _ s
  rw [if_neg hno, pick_rev]
  first
    | exact wpAny_bind (m := Builtin.Tuple.tupleExact _) (wpAny_newObj_type (wpAny_pure ⟨_, rfl, wpAny_pure h⟩) htake)
    | exact wpAny_bind (m := Builtin.Tuple.tupleExact _) (wpAny_newObj_type (wpAny_bind (wpAny_pure (wpAny_pure ⟨_, rfl, wpAny_pure h⟩))) htake)
    | exact wpAny_bind (wpAny_bind (m := Builtin.Tuple.tupleExact _) (wpAny_newObj_type (wpAny_pure (wpAny_pure ⟨_, rfl, wpAny_pure h⟩)) htake))
    | exact wpAny_bind (wpAny_bind (m := Builtin.Tuple.tupleExact _) (wpAny_newObj_type (wpAny_pure ⟨_, rfl, wpAny_pure h⟩) htake))
end
section
variable {X : Cx}
def tRevA (K : PySem.W.Frag) (te : TE) : TE := fun σ H Q => te σ H fun x H1 => ∃ a xs, x = .ref a ∧ ((SqL K H1 a xs ∧ ∀ p, H1 p = none → Q (.ref p) (upd H1 p (.lst xs.reverse))) ∨ (SqT K H1 a xs ∧ ∀ p, H1 p = none → Q (.ref p) (upd H1 p (.tup xs.reverse))))
theorem pe_revA {e : Expr} {te : TE} {k : Nat} {p1 p2 p3 pos : Pos} (he : PE X e te) : PE X (.Subscript e (.Slice none none (some (.UnaryOp .USub (.Constant (.int 1) k p1) p2)) p3) pos) (tRevA X.K te) := by
  refine ⟨fun pins s σ H Q I h => ?_⟩
  refine Subscript_ (thn (he.run pins s σ H _ I h) fun v s1 ⟨x, H1, I1, r1, q1⟩ => ?_)
  obtain ⟨a, xs, ex, q⟩ := q1
  subst ex
  cases r1
  have hst : PO X (some (.UnaryOp .USub (.Constant (.int 1) k p1) p2)) (tPart (tUn (rU fun i => .int (-i)) (tC (.int 1)))) := po_some (pe_un un_neg pe_int)
  refine wpAny_Slice (thn (po_none.run pins s1 σ H1 (fun o H2 => o = none ∧ H2 = H1) I1 ⟨rfl, rfl⟩) fun vl s2 ⟨l, H2, I2, pl, el, e2⟩ => ?_)
  subst el e2
  refine thn (po_none.run pins s2 σ H2 (fun o H3 => o = none ∧ H3 = H2) I2 ⟨rfl, rfl⟩) fun vu s3 ⟨u, H3, I3, pu, eu, e3⟩ => ?_
  subst eu e3
  refine thn (hst.run pins s3 σ H3 (fun o H4 => o = some (-1) ∧ H4 = H3) I3 ⟨1, rfl, -1, rfl, rfl, rfl⟩) fun vs s4 ⟨o, H4, I4, ps, eo, e4⟩ => ?_
  subst eo e4
  have I5 : Inv X pins σ H4 { s4 with heap := s4.heap.push { cls := .type "slice", data := .fields #[vl, vu, vs] } } := I4.kept (t' := s4.toks) fun b ob q => Heap.get?_push_of_some _ q
  rcases q with ⟨hx, q⟩ | ⟨hx, q⟩
  · obtain ⟨its, r, ht, hz⟩ := I5.list hx
    have hlen := r.length
    show wpAny (model X.prog X.w) X.A (subscriptTail e (.Slice none none (some (.UnaryOp .USub (.Constant (.int 1) k p1) p2)) p3) (.ref a) (.ref s4.heap.objs.size)) (EP X pins σ Q) X.xe { s4 with heap := s4.heap.push { cls := .type "slice", data := .fields #[vl, vu, vs] } }
    refine tail_any (ops := [.ref a, .ref s4.heap.objs.size]) ht.isList.typeIs (PySem.slot_list_getitem.lookup) ?_ (by with_unfolding_all rfl)
    refine wpAny_getItem_list_slice ht.isList (Heap.IsSliceOf.new _ vl vu vs) pl pu ps (by decide) ?_ (by rw [List.size_toArray]; omega)
    rw [PySem.W.krv_pick]
    refine ⟨.ref _, _, I5.laid (t' := s4.toks) (o := .lst xs.reverse) (fun b ob q => Heap.get?_push_of_some _ q) (Nat.le_refl _) ?_, rfl, q _ (I5.hok.fresh (Nat.le_refl _))⟩
    exact ⟨by rw [List.length_reverse]; exact hz, _, 0, r.reverse, Heap.get?_push_size _ rfl⟩
  · obtain ⟨its, r, ht, hz⟩ := I5.tuple hx
    have hlen := r.length
    show wpAny (model X.prog X.w) X.A (subscriptTail e (.Slice none none (some (.UnaryOp .USub (.Constant (.int 1) k p1) p2)) p3) (.ref a) (.ref s4.heap.objs.size)) (EP X pins σ Q) X.xe { s4 with heap := s4.heap.push { cls := .type "slice", data := .fields #[vl, vu, vs] } }
    refine tail_any (ops := [.ref a, .ref s4.heap.objs.size]) ht.typeIs (PyProof.Rows.slot_tuple_getitem.lookup) ?_ (by with_unfolding_all rfl)
    refine getItem_tuple_rev ht (Heap.IsSliceOf.new _ vl vu vs) pl pu ps ?_ (by rw [List.size_toArray]; omega)
    refine ⟨.ref _, _, I5.laid (t' := s4.toks) (o := .tup xs.reverse) (fun b ob q => Heap.get?_push_of_some _ q) (Nat.le_refl _) ?_, rfl, q _ (I5.hok.fresh (Nat.le_refl _))⟩
    exact ⟨by rw [List.length_reverse]; exact hz, _, r.reverse, IsTup.new _ _⟩
end
theorem int_rmul_listW (a : Int) (t : Tok) (l : Addr) (items : Array Value) (n : Nat) (sl : Array (Option Value)) :
    Meets (Builtin.«int.__rmul__» ⟨[.int a t, .ref l], []⟩) (fun _ R s => s.heap.get? l = some { cls := .type "list", dict := none, data := .seq items n, slots := sl } ∧ R (.ok (.ret Value.notImplemented)) s) :=
  .of_wp fun prog w A R s h => by obtain ⟨hp, g, d, tk, os⟩ := s; obtain ⟨hl, h⟩ := h; wp_walk using wpAny_loadPart' hl; exact ⟨_, rfl, h⟩
theorem list_mulW (l : Addr) (items : Array Value) (n : Nat) (sl : Array (Option Value)) (x : Int) (u : Tok) (hc0 : ¬(!Builtin.List.listFitsIndex x) = true) (hc1 : ¬items.size * x.toNat > (2 ^ 63 - 1) / 8) (hc2 : ¬Builtin.List.listTooLong (items.size * x.toNat) = true) :
    Meets (Builtin.«list.__mul__» ⟨[.ref l, .int x u], []⟩) (fun _ R s => s.heap.get? l = some { cls := .type "list", dict := none, data := .seq items n, slots := sl } ∧ R (.ok (.ret (Value.ref s.heap.objs.size))) { s with heap := s.heap.push { cls := Value.type "list", data := Data.seq (List.foldl (fun x1 x2 => x1 ++ x2) #[] (List.replicate (if items.isEmpty = true then 0 else x.toNat) items)) }, toks := s.toks }) :=
  .of_wp fun prog w A R s h => by
    obtain ⟨hp, g, d, tk, os⟩ := s
    obtain ⟨hl, h⟩ := h
    have f1 := AutoSeq1.idx_int
    have hsz := AutoListH.joined_fits hc2
    wp_walk using wpAny_loadPart' hl
    repeat (first
      | (refine wpAny_ite_false (decide_eq_false (Nat.not_lt.mpr hsz)) ?_; wp_walk using wpAny_loadPart' hl))
    exact ⟨_, rfl, h⟩
end PD
set_option Elab.async false
set_option linter.all false
set_option maxRecDepth 100000
set_option maxHeartbeats 4000000
namespace PD
open PySem PySem.Spec PyProof.Rows L2
section
variable (K : PySem.W.Frag) (cad : Nat → Addr) (sub : Nat → Nat → Option Bool)
def rO (o : O) : List V → Hp → VK → Prop := fun vs H Q => ∃ (F : List Addr) (ds : List D) (d : D), (∀ a ∈ F, ∃ u, H a = some u) ∧ PkDs K cad H F ds vs ∧ sem sub o ds = some d ∧ ∀ v H', Same H H' → IsD K cad H' F d v → Q v H'
def r2O (o : O) : R2 := fun x y H Q => rO K cad sub o [x, y] H Q
def r1O (o : O) : V → Hp → VK → Prop := fun x H Q => rO K cad sub o [x] H Q
end
section
variable {K : PySem.W.Frag} {cad : Nat → Addr} {sub : Nat → Nat → Option Bool} {H : Hp} {F : List Addr} {Q : VK}
theorem pk1 {ds : List D} {x : V} (h : PkDs K cad H F ds [x]) : ∃ d, ds = [d] ∧ PkD K cad H F d x := by
  cases ds with
  | nil => cases (show [x] = [] from h)
  | cons d ds =>
    obtain ⟨v, r, e, h1, h2⟩ := h
    cases e
    cases ds with
    | nil => exact ⟨d, rfl, h1⟩
    | cons d' ds => obtain ⟨_, _, e, _⟩ := h2; cases e
theorem pk2 {ds : List D} {x y : V} (h : PkDs K cad H F ds [x, y]) : ∃ d e, ds = [d, e] ∧ PkD K cad H F d x ∧ PkD K cad H F e y := by
  cases ds with
  | nil => cases (show [x, y] = [] from h)
  | cons d ds =>
    obtain ⟨v, r, e, h1, h2⟩ := h
    cases e
    obtain ⟨d', rfl, h3⟩ := pk1 h2
    exact ⟨d, d', rfl, h1, h3⟩
theorem pk3 {ds : List D} {x y z : V} (h : PkDs K cad H F ds [x, y, z]) : ∃ d e f, ds = [d, e, f] ∧ PkD K cad H F d x ∧ PkD K cad H F e y ∧ PkD K cad H F f z := by
  cases ds with
  | nil => cases (show [x, y, z] = [] from h)
  | cons d ds =>
    obtain ⟨v, r, e, h1, h2⟩ := h
    cases e
    obtain ⟨d', d2, rfl, h3, h4⟩ := pk2 h2
    exact ⟨d, d', d2, rfl, h1, h3, h4⟩
theorem fresh_av {p : Addr} (hF : ∀ a ∈ F, ∃ u, H a = some u) (hp : H p = none) : p ∉ F := fun h => by
  obtain ⟨u, e⟩ := hF p h
  rw [hp] at e
  cases e
theorem new_tup {p : Addr} {xs : List V} {ds : List D} (hF : ∀ a ∈ F, ∃ u, H a = some u) (hp : H p = none) (h : IsDs K cad H F ds xs) : IsD K cad (upd H p (.tup xs)) F (.tup ds) (.ref p) :=
  ⟨p, xs, rfl, .inl ⟨fresh_av hF hp, .inl upd_same⟩, h.mono (Kp.same (same_upd hp))⟩
theorem new_lst {p : Addr} {xs : List V} {ds : List D} (hF : ∀ a ∈ F, ∃ u, H a = some u) (hp : H p = none) (h : IsDs K cad H F ds xs) : IsD K cad (upd H p (.lst xs)) F (.lst ds) (.ref p) :=
  ⟨p, xs, rfl, .inl ⟨fresh_av hF hp, .inl upd_same⟩, h.mono (Kp.same (same_upd hp))⟩
theorem lim_eq : LIM = sizeLine := by rw [sizeLine_eq]; rfl
theorem un1 {o : O} {ds : List D} {d : D} {xs : List V} (hp : PkDs K cad H F ds xs) (hs : sem sub o ds = some d) (h2 : ∀ a b, sem2 o a b = none) (h3 : ∀ a b c, sem3 o a b c = none) : ∃ x a, xs = [x] ∧ PkD K cad H F a x ∧ sem1 sub o a = some d := by
  match ds, hp, hs with
  | [], _, hs => exact nomatch (show (none : Option D) = some d from hs)
  | [a], hp, hs =>
    obtain ⟨x, r, rfl, h1, hr⟩ := hp
    cases (show r = [] from hr)
    exact ⟨x, a, rfl, h1, hs⟩
  | [a, b], _, hs => exact nomatch (h2 a b).symm.trans hs
  | [a, b, c], _, hs => exact nomatch (h3 a b c).symm.trans hs
  | a :: b :: c :: e :: r, _, hs => exact nomatch (show (none : Option D) = some d from hs)
theorem un2 {o : O} {ds : List D} {d : D} {xs : List V} (hp : PkDs K cad H F ds xs) (hs : sem sub o ds = some d) (h2 : ∀ a, sem1 sub o a = none) (h3 : ∀ a b c, sem3 o a b c = none) : ∃ x y a b, xs = [x, y] ∧ PkD K cad H F a x ∧ PkD K cad H F b y ∧ sem2 o a b = some d := by
  match ds, hp, hs with
  | [], _, hs => exact nomatch (show (none : Option D) = some d from hs)
  | [a], hp, hs => exact nomatch (h2 a).symm.trans hs
  | [a, b], hp, hs =>
    obtain ⟨x, r, rfl, h1, y, r2, rfl, h4, hr⟩ := hp
    cases (show r2 = [] from hr)
    exact ⟨x, y, a, b, rfl, h1, h4, hs⟩
  | [a, b, c], _, hs => exact nomatch (h3 a b c).symm.trans hs
  | a :: b :: c :: e :: r, _, hs => exact nomatch (show (none : Option D) = some d from hs)
mutual
theorem dp_of : ∀ {d : D} {v : V}, IsD K cad H F d v → (py d).plain = true → Dp K H v (py d)
  | .non, v, h, _ => by cases (show v = .non from h); exact .non
  | .bl b, v, h, _ => by cases (show v = .bl b from h); exact .bl b
  | .int i, v, h, _ => by cases (show v = .int i from h); exact .int i
  | .str x, v, h, _ => by cases (show v = .str x from h); exact .str x
  | .tup ds, v, h, p => by
    obtain ⟨a, xs, rfl, ht, hs⟩ := h
    exact .tup ht.sq (dps_of hs p)
  | .lst ds, v, h, p => by
    obtain ⟨a, xs, rfl, ht, hs⟩ := h
    exact .lst ht.sq (dps_of hs p)
  | .dct _ _, _, _, p => by cases (show false = true from p)
  | .obj _ _ _, _, _, p => by cases (show false = true from p)
  | .exc _ _ _, _, _, p => by cases (show false = true from p)
theorem dps_of : ∀ {ds : List D} {vs : List V}, IsDs K cad H F ds vs → PyData.plainAll (pys ds) = true → DpAll K H vs (pys ds)
  | [], _, h, _ => by cases (show _ = [] from h); exact .nil
  | d :: ds, _, h, p => by
    obtain ⟨x, r, rfl, h1, h2⟩ := h
    obtain ⟨p1, p2⟩ := Bool.and_eq_true_iff.mp (show ((py d).plain && PyData.plainAll (pys ds)) = true from p)
    exact .cons (dp_of h1 p1) (dps_of h2 p2)
end
theorem dp_pk {d : D} {v : V} (h : PkD K cad H F d v) (p : (py d).plain = true) : Dp K H v (py d) := by
  cases d with
  | tup ds => exact dp_of (K := K) (cad := cad) (F := F) (d := .tup ds) h p
  | lst ds =>
    obtain ⟨a, xs, rfl, ht, hs⟩ := h
    exact .lst ht (dps_of hs p)
  | dct _ _ => cases (show false = true from p)
  | obj _ _ _ => cases (show false = true from p)
  | non => exact dp_of (K := K) (cad := cad) (F := F) (d := .non) h p
  | bl b => exact dp_of (K := K) (cad := cad) (F := F) (d := .bl b) h p
  | int i => exact dp_of (K := K) (cad := cad) (F := F) (d := .int i) h p
  | str x => exact dp_of (K := K) (cad := cad) (F := F) (d := .str x) h p
  | exc _ _ _ => cases (show false = true from p)
  | fnc _ => cases (show false = true from p)
theorem plainD_ok {d : D} (h : plainD d = true) : (py d).plain = true ∧ (py d).depth ≤ 60 := by
  obtain ⟨h1, h2⟩ := Bool.and_eq_true_iff.mp h
  exact ⟨h1, of_decide_eq_true h2⟩
end
section
variable {X : Cx} {cad : Nat → Addr} {sub : Nat → Nat → Option Bool}
theorem dget_rel {K : PySem.W.Frag} {H : Hp} {F : List Addr} {q : Key} : ∀ {us : List (Key × V)} {ds : List D}, IsDs K cad H F ds (us.map (·.2)) → ∀ r, dget (us.map (·.1)) ds q = r →
    (match r with | some d => ∃ v, valV us q = some v ∧ IsD K cad H F d v | none => valV us q = none)
  | [], ds, h, r, e => by
    cases (show none = r from by rw [← e]; cases ds <;> rfl)
    rfl
  | (k, v) :: us, [], h, r, e => by cases (show (v :: us.map (·.2)) = [] from h)
  | (k, v) :: us, d :: ds, h, r, e => by
    obtain ⟨x, rr, e', h1, h2⟩ := h
    cases e'
    have e : (if q = k then some d else dget (us.map (·.1)) ds q) = r := e
    by_cases hq : q = k
    · rw [if_pos hq] at e
      subst e
      refine ⟨v, ?_, h1⟩
      unfold valV
      rw [List.find?_cons_of_pos (by simp [hq])]
      rfl
    · rw [if_neg hq] at e
      have z := dget_rel h2 r e
      have hv : valV ((k, v) :: us) q = valV us q := by
        unfold valV
        rw [List.find?_cons_of_neg (by simpa using fun z => hq z.symm)]
      rw [hv]
      exact z
theorem hits_of {pins : List (Addr × Obj)} {s : Shared} {σ : L2.St} {H : Hp} {F : List Addr} {A : Around} (I : Inv X pins σ H s) (hu : A.units + 64 < cLine) {us2 : List (Key × V)} {ds2 : List D} {vb : List (Key × Value)} (rb : KV us2 vb) (h2 : IsDs X.K cad H F ds2 (us2.map (·.2))) (p2 : ds2.all plainD = true) :
    ∀ {us : List (Key × V)} {ds : List D} {va : List (Key × Value)}, KV us va → IsDs X.K cad H F ds (us.map (·.2)) → ds.all plainD = true → PySem.W.KeqHits A s vb va (sameDct (us2.map (·.1)) ds2 (us.map (·.1)) ds)
  | [], ds, va, r, h, p => by
    cases r
    cases ds with
    | nil => exact .nil
    | cons _ _ => obtain ⟨_, _, e, _⟩ := h; cases e
  | (k, x) :: us, [], va, r, h, p => by cases (show x :: us.map (·.2) = [] from h)
  | (k, x) :: us, d :: ds, va, r, h, p => by
    obtain ⟨x', r', e, i1, i2⟩ := h
    cases e
    rw [List.all_cons, Bool.and_eq_true] at p
    cases r with
    | cons hh ht =>
      rename_i q va
      obtain ⟨k', v⟩ := q
      obtain ⟨hk, hv⟩ := hh
      have hk : k = k' := hk
      subst hk
      have hv : RelV x v := hv
      have ih := hits_of I hu rb h2 p2 ht i2 p.2
      show PySem.W.KeqHits A s vb ((k, v) :: va) ((match dget (us2.map (·.1)) ds2 k with | some e => eqD d e | none => false) && _)
      have g := dget_rel h2 (q := k) _ rfl
      have ro := rb.val k
      cases e : dget (us2.map (·.1)) ds2 k with
      | none =>
        rw [e] at g
        rw [show valV us2 k = none from g] at ro
        cases e2 : valueAt vb k with
        | none => exact .miss e2
        | some y => rw [e2] at ro; exact ro.elim
      | some d2 =>
        rw [e] at g
        obtain ⟨y, g1, g2⟩ := g
        rw [g1] at ro
        obtain ⟨w, hw, rw2⟩ := ro.some_of
        refine .hit hw ?_ ih
        have pd2 : plainD d2 = true := by
          have : ∀ (ks : List Key) (ds : List D), ds.all plainD = true → dget ks ds k = some d2 → plainD d2 = true := fun ks => by
            induction ks with
            | nil => intro ds _ h; cases ds <;> cases h
            | cons a ks ih =>
              intro ds hp h
              cases ds with
              | nil => cases h
              | cons b ds =>
                rw [List.all_cons, Bool.and_eq_true] at hp
                have h : (if k = a then some b else dget ks ds k) = some d2 := h
                by_cases hc : k = a
                · rw [if_pos hc] at h; cases h; exact hp.1
                · rw [if_neg hc] at h; exact ih ds hp.2 h
          exact this _ _ p2 e
        obtain ⟨q1, e1⟩ := plainD_ok p.1
        obtain ⟨q2, e2⟩ := plainD_ok pd2
        obtain ⟨as, r1⟩ := Dp.reads I _ x v (dp_of i1 q1) hv
        obtain ⟨bs, r2⟩ := Dp.reads I _ y w (dp_of g2 q2) rw2
        have hd : A.units + min (py d).depth (py d2).depth < cLine := by
          have := Nat.min_le_left (py d).depth (py d2).depth
          omega
        exact SeqAt.eqAt_plain _ _ A s v w as bs r1 r2 q1 q2 hd
theorem dct_parts {da db : D} {c : Bool} (h : eqDct da db = some c) : ∃ ks vs ks2 vs2, da = .dct ks vs ∧ db = .dct ks2 vs2 ∧ vs.all plainD = true ∧ vs2.all plainD = true ∧ ks.length = vs.length ∧ c = (decide (ks.length = ks2.length) && sameDct ks2 vs2 ks vs) := by
  cases da <;> cases db <;> try (cases h; done)
  case dct.dct ks vs ks2 vs2 =>
    have h : (if (vs.all plainD && vs2.all plainD && decide (ks.length = vs.length)) = true then some (decide (ks.length = ks2.length) && sameDct ks2 vs2 ks vs) else none) = some c := h
    by_cases hc : (vs.all plainD && vs2.all plainD && decide (ks.length = vs.length)) = true
    · rw [if_pos hc] at h
      cases h
      simp only [Bool.and_eq_true, decide_eq_true_eq] at hc
      exact ⟨ks, vs, ks2, vs2, rfl, rfl, hc.1.1, hc.1.2, hc.2, rfl⟩
    · rw [if_neg hc] at h
      cases h
theorem op_eqP (hu : X.A.units + 100 < cLine) : OpR X (compareOp .Eq) (r2O X.K cad sub .eq) := by
  intro pins s σ H x y v u Q I rx ry ⟨F, ds, d, hF, hp, hs, q⟩
  obtain ⟨da, db, rfl, h1, h2⟩ := pk2 hp
  have hs' : (if (plainD da && plainD db) = true then some (D.bl (eqD da db)) else (eqDct da db).map .bl) = some d := hs
  by_cases hc : (plainD da && plainD db) = true
  · rw [if_pos hc] at hs'
    cases hs'
    obtain ⟨c1, c2⟩ := Bool.and_eq_true_iff.mp hc
    obtain ⟨p1, e1⟩ := plainD_ok c1
    obtain ⟨p2, e2⟩ := plainD_ok c2
    obtain ⟨as, r1⟩ := Dp.reads I _ x v (dp_pk h1 p1) rx
    obtain ⟨bs, r2⟩ := Dp.reads I _ y u (dp_pk h2 p2) ry
    have hd : X.A.units + min (py da).depth (py db).depth < cLine := by
      have := Nat.min_le_left (py da).depth (py db).depth
      omega
    exact SeqAt.eq_plain r1 r2 p1 p2 hd ⟨.bl _, H, I, rfl, q _ H (Same.refl H) rfl⟩
  · rw [if_neg hc] at hs'
    cases ee : eqDct da db with
    | none => rw [ee] at hs'; cases hs'
    | some c =>
      rw [ee] at hs'
      cases hs'
      obtain ⟨ks, vs, ks2, vs2, rfl, rfl, a1, a2, a3, rfl⟩ := dct_parts ee
      obtain ⟨a, us, rfl, ea, rfl, i1⟩ := h1
      obtain ⟨b, us2, rfl, eb, rfl, i2⟩ := h2
      cases rx
      cases ry
      obtain ⟨_, ya, va, ra, dda⟩ := dk_rd I.hok ea
      obtain ⟨_, yb, vb, rb, ddb⟩ := dk_rd I.hok eb
      refine PySem.W.keq_eq (knd := mixKind X.prog X.w) (r := sameDct (us2.map (·.1)) vs2 (us.map (·.1)) vs) ya yb dda ddb (by omega) (fun _ => hits_of I (by show X.A.units + 1 + 64 < cLine; omega) rb i2 a2 ra i1 a1) (fin_bl I (q _ H (Same.refl H) rfl) ?_)
      rw [List.length_map, List.length_map, ra.length, rb.length]
      rfl
theorem op_neP (hu : X.A.units + 100 < cLine) : OpR X (compareOp .NotEq) (r2O X.K cad sub .ne) := by
  intro pins s σ H x y v u Q I rx ry ⟨F, ds, d, hF, hp, hs, q⟩
  obtain ⟨da, db, rfl, h1, h2⟩ := pk2 hp
  have hs' : (if (plainD da && plainD db) = true then some (D.bl (!eqD da db)) else (eqDct da db).map fun c => .bl (!c)) = some d := hs
  by_cases hc : (plainD da && plainD db) = true
  · rw [if_pos hc] at hs'
    cases hs'
    obtain ⟨c1, c2⟩ := Bool.and_eq_true_iff.mp hc
    obtain ⟨p1, e1⟩ := plainD_ok c1
    obtain ⟨p2, e2⟩ := plainD_ok c2
    obtain ⟨as, r1⟩ := Dp.reads I _ x v (dp_pk h1 p1) rx
    obtain ⟨bs, r2⟩ := Dp.reads I _ y u (dp_pk h2 p2) ry
    have hd : X.A.units + min (py da).depth (py db).depth < cLine := by
      have := Nat.min_le_left (py da).depth (py db).depth
      omega
    exact SeqAt.ne_plain r1 r2 p1 p2 hd ⟨.bl _, H, I, rfl, q _ H (Same.refl H) rfl⟩
  · rw [if_neg hc] at hs'
    cases ee : eqDct da db with
    | none => rw [ee] at hs'; cases hs'
    | some c =>
      rw [ee] at hs'
      cases hs'
      obtain ⟨ks, vs, ks2, vs2, rfl, rfl, a1, a2, a3, rfl⟩ := dct_parts ee
      obtain ⟨a, us, rfl, ea, rfl, i1⟩ := h1
      obtain ⟨b, us2, rfl, eb, rfl, i2⟩ := h2
      cases rx
      cases ry
      obtain ⟨_, ya, va, ra, dda⟩ := dk_rd I.hok ea
      obtain ⟨_, yb, vb, rb, ddb⟩ := dk_rd I.hok eb
      refine PySem.W.keq_ne (knd := mixKind X.prog X.w) (r := sameDct (us2.map (·.1)) vs2 (us.map (·.1)) vs) ya yb dda ddb (by omega) (fun _ => hits_of I (by show X.A.units + 1 + 64 < cLine; omega) rb i2 a2 ra i1 a1) (fin_bl I (q _ H (Same.refl H) rfl) ?_)
      rw [List.length_map, List.length_map, ra.length, rb.length]
      rfl
theorem op_fdivX : OpR X (binaryOp .FloorDiv) (rI (fun _ j => j ≠ 0 ∧ j.natAbs.log2 < 9000) fun i j => .int (i.fdiv j)) := opI fun i j _ _ _ _ _ hc q => floordiv_int hc.1 q (.inl (PyProof.noPylong_of_log2 hc.2))
theorem op_catL : OpR X (binaryOp .Add) (fun x y H Q => ∃ l b xs zs, x = .ref l ∧ y = .ref b ∧ SqL X.K H l xs ∧ SqL X.K H b zs ∧ xs.length + zs.length ≤ sizeLine ∧ ∀ p, H p = none → Q (.ref p) (upd H p (.lst (xs ++ zs)))) := by
  intro pins s σ H x y v u Q I rx ry h
  obtain ⟨l, b, xs, zs, rfl, rfl, hH, hB, hz, q⟩ := h
  cases rx
  cases ry
  obtain ⟨its, r, ⟨o1, n1, e1, c1, d1, hd1⟩, z1⟩ := I.list hH
  obtain ⟨its2, r2, ⟨o2, n2, e2, c2, d2, hd2⟩, z2⟩ := I.list hB
  have hl := r.length
  have hl2 := r2.length
  obtain ⟨oc1, od1, odt1, osl1⟩ := o1
  obtain ⟨oc2, od2, odt2, osl2⟩ := o2
  simp only at c1 d1 hd1 c2 d2 hd2
  subst c1 d1 hd1 c2 d2 hd2
  refine concat_meets ⟨_, e1, rfl⟩ ⟨_, e2, rfl⟩ noFill_list_add seq_list_add PySem.F.slot_list_add PySem.F.entry_list_add (PySem.F.args_list_add_2 _ _) (list_addW l b its.toArray its2.toArray n1 n2 none none osl1 osl2 (by simp only [List.size_toArray]; omega)) ⟨e1, e2, ?_⟩
  have ea : its.toArray ++ its2.toArray = (its ++ its2).toArray := by simp
  rw [ea]
  exact ⟨.ref _, _, I.lnew (t' := s.toks) (r.append r2) (by rw [List.length_append]; omega), rfl, q _ I.fresh⟩
theorem of_arith {f : Value → Value → Sem Value} {o : O} {C : Int → Int → Prop} {g : Int → Int → V} (h : OpR X f (rI C g)) (ha : ∀ i j d, arith o i j = some d → C i j ∧ ∀ H F, IsD X.K cad H F d (g i j))
    {pins : List (Addr × Obj)} {s : Shared} {σ : L2.St} {H : Hp} {v u : Value} {Q : VK} {i j : Int} {F : List Addr} {d : D} (I : Inv X pins σ H s) (rx : RelV (.int i) v) (ry : RelV (.int j) u) (e : arith o i j = some d)
    (q : ∀ v H', Same H H' → IsD X.K cad H' F d v → Q v H') : wpAny (model X.prog X.w) X.A (f v u) (EP X pins σ Q) X.xe s :=
  h pins s σ H _ _ v u Q I rx ry ⟨i, j, rfl, rfl, (ha i j d e).1, q _ H (Same.refl H) ((ha i j d e).2 H F)⟩
theorem of_arith0 {f : Value → Value → Sem Value} {o : O} {g : Int → Int → V} (h : OpR X f (rI0 g)) (ha : ∀ i j d, arith o i j = some d → ∀ H F, IsD X.K cad H F d (g i j))
    {pins : List (Addr × Obj)} {s : Shared} {σ : L2.St} {H : Hp} {v u : Value} {Q : VK} {i j : Int} {F : List Addr} {d : D} (I : Inv X pins σ H s) (rx : RelV (.int i) v) (ry : RelV (.int j) u) (e : arith o i j = some d)
    (q : ∀ v H', Same H H' → IsD X.K cad H' F d v → Q v H') : wpAny (model X.prog X.w) X.A (f v u) (EP X pins σ Q) X.xe s :=
  h pins s σ H _ _ v u Q I rx ry ⟨i, j, rfl, rfl, q _ H (Same.refl H) (ha i j d e H F)⟩
theorem op_addP : OpR X (binaryOp .Add) (r2O X.K cad sub .add) := by
  intro pins s σ H x y v u Q I rx ry ⟨F, ds, d, hF, hp, hs, q⟩
  obtain ⟨da, db, rfl, h1, h2⟩ := pk2 hp
  cases da <;> cases db <;> try (exact absurd (show none = some d from hs) (by simp))
  case int.int i j =>
    cases (show x = .int i from h1)
    cases (show y = .int j from h2)
    exact of_arith0 (o := .add) (F := F) op_add (fun i j d e H F => by cases (show some (D.int (i + j)) = some d from e); rfl) I rx ry hs q
  case str.str a b =>
    cases (show x = .str a from h1)
    cases (show y = .str b from h2)
    have hs' : (if a.length + b.length ≤ LIM then some (D.str (a ++ b)) else none) = some d := hs
    by_cases hc : a.length + b.length ≤ LIM
    · rw [if_pos hc] at hs'
      cases hs'
      exact op_add_str pins s σ H _ _ v u Q I rx ry ⟨a, b, rfl, rfl, by rw [← lim_eq]; exact hc, q _ H (Same.refl H) rfl⟩
    · rw [if_neg hc] at hs'; cases hs'
  case lst.lst a b =>
    obtain ⟨l, xs, rfl, hl, hx⟩ := h1
    obtain ⟨m, ys, rfl, hm, hy⟩ := h2
    have hs' : (if a.length + b.length ≤ LIM then some (D.lst (a ++ b)) else none) = some d := hs
    by_cases hc : a.length + b.length ≤ LIM
    · rw [if_pos hc] at hs'
      cases hs'
      exact op_catL pins s σ H _ _ v u Q I rx ry ⟨l, m, xs, ys, rfl, rfl, hl, hm, by rw [← lim_eq, ← hx.length, ← hy.length]; exact hc, fun p hp => q _ _ (same_upd hp) (new_lst hF hp (hx.app hy))⟩
    · rw [if_neg hc] at hs'; cases hs'
  case tup.tup a b =>
    obtain ⟨l, xs, rfl, hl, hx⟩ := h1
    obtain ⟨m, ys, rfl, hm, hy⟩ := h2
    have i1 : IsD X.K cad H F (.tup a) (.ref l) := ⟨l, xs, rfl, hl, hx⟩
    have i2 : IsD X.K cad H F (.tup b) (.ref m) := ⟨m, ys, rfl, hm, hy⟩
    have hs' : (if a.length + b.length ≤ LIM then some (D.tup (a ++ b)) else none) = some d := hs
    by_cases hc : a.length + b.length ≤ LIM
    · rw [if_pos hc] at hs'
      cases hs'
      -- the sum may be one of both itself: it is laid anew in our sight only where both have items
      exact op_catA pins s σ H _ _ v u Q I rx ry ⟨l, m, xs, ys, rfl, rfl, hl.sq, hm.sq, by rw [← lim_eq, ← hx.length, ← hy.length]; exact hc, fun e => q _ H (Same.refl H) (by
        subst e
        have e2 : a = [] := List.length_eq_zero_iff.mp (by rw [hx.length]; rfl)
        rw [e2]
        exact i2), fun _ e => q _ H (Same.refl H) (by
        subst e
        have e2 : b = [] := List.length_eq_zero_iff.mp (by rw [hy.length]; rfl)
        rw [e2, List.append_nil]
        exact i1), fun _ _ p hp => q _ _ (same_upd hp) (new_tup hF hp (hx.app hy))⟩
    · rw [if_neg hc] at hs'; cases hs'
theorem op_subP : OpR X (binaryOp .Sub) (r2O X.K cad sub .sub) := by
  intro pins s σ H x y v u Q I rx ry ⟨F, ds, d, hF, hp, hs, q⟩
  obtain ⟨da, db, rfl, h1, h2⟩ := pk2 hp
  cases da <;> cases db <;> try (exact absurd (show none = some d from hs) (by simp))
  case int.int i j =>
    cases (show x = .int i from h1)
    cases (show y = .int j from h2)
    exact of_arith0 (o := .sub) (F := F) op_sub (fun i j d e H F => by cases (show some (D.int (i - j)) = some d from e); rfl) I rx ry hs q
theorem op_repL : OpR X (binaryOp .Mult) (fun x y H Q => ∃ l k xs, x = .ref l ∧ y = .int k ∧ SqL X.K H l xs ∧ -(2 ^ 63) ≤ k ∧ k < 2 ^ 63 ∧ xs.length * k.toNat ≤ sizeLine ∧
  ∀ p, H p = none → Q (.ref p) (upd H p (.lst (List.replicate k.toNat xs).flatten))) := by
  intro pins s σ H x y v u Q I rx ry h
  obtain ⟨l, k, xs, rfl, rfl, hH, h1, h2, hz, q⟩ := h
  cases rx
  obtain ⟨t, rfl⟩ := ry
  obtain ⟨its, r, ⟨o1, n, e, c1, d1, hd1⟩, z⟩ := I.list hH
  obtain ⟨oc1, od1, odt1, osl1⟩ := o1
  simp only at c1 d1 hd1
  subst c1 d1 hd1
  have hl := r.length
  have hlen : its.toArray.size * k.toNat ≤ sizeLine := by rw [List.size_toArray, ← hl]; exact hz
  have hcap : ¬ its.toArray.size * k.toNat > (2 ^ 63 - 1) / 8 := by
    have : (sizeLine : Nat) ≤ (2 ^ 63 - 1) / 8 := by decide
    omega
  have hfit : ¬ (!Builtin.List.listFitsIndex k) = true := by
    rw [fitsIndex_both h1 h2]
    exact Bool.false_ne_true
  have hlong : ¬ Builtin.List.listTooLong (its.toArray.size * k.toNat) = true := by
    rw [notLongL hlen]
    exact Bool.false_ne_true
  have hnew : List.foldl (fun x1 x2 => x1 ++ x2) #[] (List.replicate (if its.toArray.isEmpty = true then 0 else k.toNat) its.toArray) = (List.replicate k.toNat its).flatten.toArray := by
    have f0 : ∀ m : Nat, List.foldl (fun x1 x2 => x1 ++ x2) #[] (List.replicate m its.toArray) = (List.replicate m its).flatten.toArray := fun m => by
      have := foldl_rep its m []
      rw [List.nil_append] at this
      exact this
    rw [f0]
    cases its with
    | nil => simp
    | cons a r' => rw [if_neg (by simp)]
  refine wpAny_binaryOp_repeat_ref (T := "list") (U := "int") (by decide) ⟨_, e, rfl⟩ (fun s' => typeIs_int s' k t) noFill_list_mul F.fills_int_mul F.slot_int_rmul repeat_list F.slot_int_index.lookup
    (call_meets F.slot_int_rmul (typeIs_int s k t) F.entry_int_rmul (F.args_int_rmul_2 _ _) (int_rmul_listW k t l its.toArray n osl1)
      ⟨e, rfl, ⟨_, e, rfl⟩, call_meets F.slot_list_mul ⟨_, e, rfl⟩ F.entry_list_mul (F.args_list_mul_2 _ _) (list_mulW l its.toArray n osl1 k t hfit hcap hlong) ⟨e, ?_⟩⟩)
  rw [hnew]
  exact ⟨.ref _, _, I.lnew (t' := s.toks) (r.rep k.toNat) (by rw [PyProof.Rows.lm_len_rep_flat, Nat.mul_comm]; exact hz), rfl, q _ I.fresh⟩
def CMulZ (i j : Int) : Prop := i.natAbs.log2 + j.natAbs.log2 < 100000000
theorem CMulZ.ok {i j : Int} (h : CMulZ i j) : IntMulOk i j := by
  have b : ∀ i : Int, Builtin.Int.intBits i ≤ i.natAbs.log2 + 1 := fun i => by
    unfold Builtin.Int.intBits
    split <;> omega
  have b1 := b i
  have b2 := b j
  unfold CMulZ at h
  refine CMulX.ok ?_
  unfold CMulX
  omega
theorem op_mulZ : OpR X (binaryOp .Mult) (rI CMulZ fun i j => .int (i * j)) := opI fun _ _ _ _ _ _ _ hc q => mul_int q hc.ok
theorem op_mulP : OpR X (binaryOp .Mult) (r2O X.K cad sub .mul) := by
  intro pins s σ H x y v u Q I rx ry ⟨F, ds, d, hF, hp, hs, q⟩
  obtain ⟨da, db, rfl, h1, h2⟩ := pk2 hp
  cases da <;> cases db <;> try (exact absurd (show none = some d from hs) (by simp))
  case int.int i j =>
    cases (show x = .int i from h1)
    cases (show y = .int j from h2)
    refine of_arith (o := .mul) (F := F) op_mulZ (fun i j d e => ?_) I rx ry hs q
    have e' : (if i.natAbs.log2 + j.natAbs.log2 < 100000000 then some (D.int (i * j)) else none) = some d := e
    by_cases hc : i.natAbs.log2 + j.natAbs.log2 < 100000000
    · rw [if_pos hc] at e'; cases e'; exact ⟨hc, fun _ _ => rfl⟩
    · rw [if_neg hc] at e'; cases e'
  case lst.int a k =>
    cases (show y = .int k from h2)
    obtain ⟨p, xs, rfl, hl, hx⟩ := h1
    have hs' : (if -(2 ^ 62) ≤ k ∧ k ≤ 1000000 ∧ a.length * k.toNat ≤ LIM then some (D.lst (List.replicate k.toNat a).flatten) else none) = some d := hs
    by_cases hc : -(2 ^ 62) ≤ k ∧ k ≤ 1000000 ∧ a.length * k.toNat ≤ LIM
    · rw [if_pos hc] at hs'
      cases hs'
      exact op_repL pins s σ H _ _ v u Q I rx ry ⟨p, k, xs, rfl, rfl, hl, by omega, by omega, by rw [← lim_eq, ← hx.length]; exact hc.2.2, fun r hr => q _ _ (same_upd hr) (new_lst hF hr (hx.rep _))⟩
    · rw [if_neg hc] at hs'; cases hs'
  case tup.int a k =>
    cases (show y = .int k from h2)
    obtain ⟨p, xs, rfl, hl, hx⟩ := h1
    have hs' : (if a ≠ [] ∧ 2 ≤ k ∧ k ≤ 1000 ∧ a.length ≤ 1000 then some (D.tup (List.replicate k.toNat a).flatten) else none) = some d := hs
    by_cases hc : a ≠ [] ∧ 2 ≤ k ∧ k ≤ 1000 ∧ a.length ≤ 1000
    · rw [if_pos hc] at hs'
      cases hs'
      exact op_repT pins s σ H _ _ v u Q I rx ry ⟨p, k, xs, rfl, rfl, hl.sq, fun z => hc.1 (List.length_eq_zero_iff.mp (by rw [hx.length, z]; rfl)), hc.2.1, hc.2.2.1, by rw [← hx.length]; exact hc.2.2.2, fun r hr => q _ _ (same_upd hr) (new_tup hF hr (hx.rep _))⟩
    · rw [if_neg hc] at hs'; cases hs'
  case str.int a k =>
    cases (show x = .str a from h1)
    cases (show y = .int k from h2)
    obtain ⟨t, rfl⟩ := rx
    obtain ⟨t', rfl⟩ := ry
    have hs' : (if -(2 ^ 62) ≤ k ∧ k ≤ 1000000 ∧ a.length ≤ LIM ∧ a.length * k.toNat ≤ LIM then some (D.str (repS a k)) else none) = some d := hs
    by_cases hc : -(2 ^ 62) ≤ k ∧ k ≤ 1000000 ∧ a.length ≤ LIM ∧ a.length * k.toNat ≤ LIM
    · rw [if_pos hc] at hs'
      cases hs'
      obtain ⟨c1, c2, c3, c4⟩ := hc
      have c3' : a.length ≤ 16777216 := c3
      refine PySem.P.mul_str (by rw [decide_eq_false (by omega), decide_eq_false (by omega)]; rfl) (fun h1 _ z => ?_) (fun _ _ => ?_) ?_
      · have z1 : (2 ^ 63 - 1 : Int) / 1000000 ≤ (2 ^ 63 - 1) / k := by
          rw [Int.le_ediv_iff_mul_le (by omega)]
          have := Int.mul_le_mul_of_nonneg_left (show k ≤ 1000000 by omega) (show (0 : Int) ≤ (2 ^ 63 - 1) / 1000000 by decide)
          exact Int.le_trans this (by decide)
        have z2 : (16777216 : Int) ≤ (2 ^ 63 - 1) / 1000000 := by decide
        omega
      · unfold Builtin.Str.tooLong
        rw [← lim_eq]
        exact decide_eq_false (by omega)
      · have fl : ∀ m : Nat, ((List.replicate m a.cps).foldl (· ++ ·) #[]).size = m * a.cps.size := fun m => by
          have g : ∀ (m : Nat) (z : Array Nat), ((List.replicate m a.cps).foldl (· ++ ·) z).size = z.size + m * a.cps.size := fun m => by
            induction m with
            | zero => intro z; simp
            | succ m ih =>
              intro z
              rw [List.replicate_succ, List.foldl_cons, ih, Array.size_append, Nat.succ_mul]
              omega
          rw [g]
          simp
        by_cases k1 : k < 1
        · rw [if_pos k1]
          have e : repS a k = Str.empty := by unfold repS; rw [if_pos k1]
          exact ⟨by decide, ⟨.str (repS a k), H, I.tok _, by rw [e]; exact ⟨_, rfl⟩, q _ H (Same.refl H) rfl⟩⟩
        · rw [if_neg k1]
          by_cases k2 : (k == 1 || a.length == 0) = true
          · rw [if_pos k2]
            have e : repS a k = a := by unfold repS; rw [if_neg k1, if_pos k2]
            exact ⟨.str (repS a k), H, I, by rw [e]; exact ⟨_, rfl⟩, q _ H (Same.refl H) rfl⟩
          · rw [if_neg k2]
            have e : repS a k = ⟨(List.replicate k.toNat a.cps).foldl (· ++ ·) #[]⟩ := by unfold repS; rw [if_neg k1, if_neg k2]
            refine ⟨?_, ⟨.str (repS a k), H, I.tok _, by rw [e]; exact ⟨_, rfl⟩, q _ H (Same.refl H) rfl⟩⟩
            show ((List.replicate k.toNat a.cps).foldl (· ++ ·) #[]).size ≤ sizeLine
            rw [fl, ← lim_eq, Nat.mul_comm]
            exact c4
    · rw [if_neg hc] at hs'; cases hs'
theorem op_fdivP : OpR X (binaryOp .FloorDiv) (r2O X.K cad sub .fdiv) := by
  intro pins s σ H x y v u Q I rx ry ⟨F, ds, d, hF, hp, hs, q⟩
  obtain ⟨da, db, rfl, h1, h2⟩ := pk2 hp
  cases da <;> cases db <;> try (exact absurd (show none = some d from hs) (by simp))
  case int.int i j =>
    cases (show x = .int i from h1)
    cases (show y = .int j from h2)
    refine of_arith (o := .fdiv) (F := F) op_fdivX (fun i j d e => ?_) I rx ry hs q
    have e' : (if j ≠ 0 ∧ j.natAbs.log2 < 9000 then some (D.int (i.fdiv j)) else none) = some d := e
    by_cases hc : j ≠ 0 ∧ j.natAbs.log2 < 9000
    · rw [if_pos hc] at e'; cases e'; exact ⟨hc, fun _ _ => rfl⟩
    · rw [if_neg hc] at e'; cases e'
theorem op_modP : OpR X (binaryOp .Mod) (r2O X.K cad sub .mod) := by
  intro pins s σ H x y v u Q I rx ry ⟨F, ds, d, hF, hp, hs, q⟩
  obtain ⟨da, db, rfl, h1, h2⟩ := pk2 hp
  cases da <;> cases db <;> try (exact absurd (show none = some d from hs) (by simp))
  case int.int i j =>
    cases (show x = .int i from h1)
    cases (show y = .int j from h2)
    refine of_arith (o := .mod) (F := F) op_modN (fun i j d e => ?_) I rx ry hs q
    have e' : (if j ≠ 0 then some (D.int (i.fmod j)) else none) = some d := e
    by_cases hc : j ≠ 0
    · rw [if_pos hc] at e'; cases e'; exact ⟨hc, fun _ _ => rfl⟩
    · rw [if_neg hc] at e'; cases e'
theorem op_powP : OpR X (binaryOp .Pow) (r2O X.K cad sub .pow) := by
  intro pins s σ H x y v u Q I rx ry ⟨F, ds, d, hF, hp, hs, q⟩
  obtain ⟨da, db, rfl, h1, h2⟩ := pk2 hp
  cases da <;> cases db <;> try (exact absurd (show none = some d from hs) (by simp))
  case int.int i j =>
    cases (show x = .int i from h1)
    cases (show y = .int j from h2)
    refine of_arith (o := .pow) (F := F) op_pow (fun i j d e => ?_) I rx ry hs q
    have e' : (if 0 ≤ j ∧ j ≤ 1000000 ∧ i.natAbs < 2 ^ 64 then some (D.int (i ^ j.toNat)) else none) = some d := e
    by_cases hc : 0 ≤ j ∧ j ≤ 1000000 ∧ i.natAbs < 2 ^ 64
    · rw [if_pos hc] at e'; cases e'; exact ⟨hc, fun _ _ => rfl⟩
    · rw [if_neg hc] at e'; cases e'
theorem op_ltP : OpR X (compareOp .Lt) (r2O X.K cad sub .lt) := by
  intro pins s σ H x y v u Q I rx ry ⟨F, ds, d, hF, hp, hs, q⟩
  obtain ⟨da, db, rfl, h1, h2⟩ := pk2 hp
  cases da <;> cases db <;> try (exact absurd (show none = some d from hs) (by simp))
  case int.int i j =>
    cases (show x = .int i from h1)
    cases (show y = .int j from h2)
    exact of_arith0 (o := .lt) (F := F) op_lt (fun i j d e H F => by cases (show some (D.bl (decide (i < j))) = some d from e); rfl) I rx ry hs q
  case str.str i j =>
    cases (show x = .str i from h1)
    cases (show y = .str j from h2)
    cases (show some (D.bl (decide (i.cps.toList < j.cps.toList))) = some d from hs)
    exact op_lt_str pins s σ H _ _ v u Q I rx ry ⟨i, j, rfl, rfl, q _ H (Same.refl H) rfl⟩
theorem op_leP : OpR X (compareOp .LtE) (r2O X.K cad sub .le) := by
  intro pins s σ H x y v u Q I rx ry ⟨F, ds, d, hF, hp, hs, q⟩
  obtain ⟨da, db, rfl, h1, h2⟩ := pk2 hp
  cases da <;> cases db <;> try (exact absurd (show none = some d from hs) (by simp))
  case int.int i j =>
    cases (show x = .int i from h1)
    cases (show y = .int j from h2)
    exact of_arith0 (o := .le) (F := F) op_le (fun i j d e H F => by cases (show some (D.bl (decide (i ≤ j))) = some d from e); rfl) I rx ry hs q
theorem op_gtP : OpR X (compareOp .Gt) (r2O X.K cad sub .gt) := by
  intro pins s σ H x y v u Q I rx ry ⟨F, ds, d, hF, hp, hs, q⟩
  obtain ⟨da, db, rfl, h1, h2⟩ := pk2 hp
  cases da <;> cases db <;> try (exact absurd (show none = some d from hs) (by simp))
  case int.int i j =>
    cases (show x = .int i from h1)
    cases (show y = .int j from h2)
    exact of_arith0 (o := .gt) (F := F) op_gt (fun i j d e H F => by cases (show some (D.bl (decide (j < i))) = some d from e); rfl) I rx ry hs q
theorem op_geP : OpR X (compareOp .GtE) (r2O X.K cad sub .ge) := by
  intro pins s σ H x y v u Q I rx ry ⟨F, ds, d, hF, hp, hs, q⟩
  obtain ⟨da, db, rfl, h1, h2⟩ := pk2 hp
  cases da <;> cases db <;> try (exact absurd (show none = some d from hs) (by simp))
  case int.int i j =>
    cases (show x = .int i from h1)
    cases (show y = .int j from h2)
    exact of_arith0 (o := .ge) (F := F) op_ge (fun i j d e H F => by cases (show some (D.bl (decide (j ≤ i))) = some d from e); rfl) I rx ry hs q
theorem IsD.non_iff {K : PySem.W.Frag} {H : Hp} {F : List Addr} {d : D} {x : V} (h : PkD K cad H F d x) : decide (x = .non) = isNon d := by
  cases d with
  | non => cases (show x = .non from h); rfl
  | bl b => cases (show x = .bl b from h); rfl
  | int b => cases (show x = .int b from h); rfl
  | str b => cases (show x = .str b from h); rfl
  | tup ds => obtain ⟨a, xs, rfl, _⟩ := h; rfl
  | lst ds => obtain ⟨a, xs, rfl, _⟩ := h; rfl
  | dct _ _ => obtain ⟨a, xs, rfl, _⟩ := h; rfl
  | obj _ _ _ => obtain ⟨a, dx, xs, rfl, _⟩ := h; rfl
  | exc _ _ _ => obtain ⟨a, d, rfl, _⟩ := h; rfl
  | fnc _ => cases (show x = .ref _ from h); rfl
theorem op_isNP : OpR X (compareOp .Is) (fun x y H Q => y = .non ∧ r1O X.K cad sub .isN x H Q) := by
  intro pins s σ H x y v u Q I rx ry ⟨hy, F, ds, d, hF, hp, hs, q⟩
  obtain ⟨da, rfl, h1⟩ := pk1 hp
  have hs' : some (D.bl (isNon da)) = some d := hs
  cases hs'
  refine op_isN pins s σ H x y v u Q I rx ry ⟨hy, ?_⟩
  rw [IsD.non_iff h1]
  exact q _ H (Same.refl H) rfl
theorem op_notNP : OpR X (compareOp .IsNot) (fun x y H Q => y = .non ∧ r1O X.K cad sub .notN x H Q) := by
  intro pins s σ H x y v u Q I rx ry ⟨hy, F, ds, d, hF, hp, hs, q⟩
  obtain ⟨da, rfl, h1⟩ := pk1 hp
  have hs' : some (D.bl (!isNon da)) = some d := hs
  cases hs'
  refine op_notN pins s σ H x y v u Q I rx ry ⟨hy, ?_⟩
  rw [IsD.non_iff h1]
  exact q _ H (Same.refl H) rfl
theorem op_isBP {b : Bool} : OpR X (compareOp .Is) (fun x y H Q => y = .bl b ∧ r1O X.K cad sub (.isB b) x H Q) := by
  intro pins s σ H x y v u Q I rx ry ⟨hy, F, ds, d, hF, hp, hs, q⟩
  obtain ⟨da, rfl, h1⟩ := pk1 hp
  cases da <;> try (exact absurd (show none = some d from hs) (by simp))
  case bl c =>
    cases (show x = .bl c from h1)
    cases (show some (D.bl (decide (c = b))) = some d from hs)
    exact op_isBl pins s σ H _ _ v u Q I rx ry ⟨c, b, rfl, hy, q _ H (Same.refl H) rfl⟩
  case int c =>
    obtain ⟨t, rfl⟩ := (show ∃ t, v = Value.int c t from by cases (show x = .int c from h1); exact rx)
    cases hy
    cases (show u = Value.bool b from ry)
    cases (show some (D.bl false) = some d from hs)
    exact wpAny_is_other rfl (fun z => nomatch z) ⟨.bl false, H, I, rfl, q _ H (Same.refl H) rfl⟩
  case str c =>
    obtain ⟨t, rfl⟩ := (show ∃ t, v = Value.str c t from by cases (show x = .str c from h1); exact rx)
    cases hy
    cases (show u = Value.bool b from ry)
    cases (show some (D.bl false) = some d from hs)
    exact wpAny_is_other rfl (fun z => nomatch z) ⟨.bl false, H, I, rfl, q _ H (Same.refl H) rfl⟩
  case non =>
    have e := (show v = Value.none from by cases (show x = .non from h1); exact rx)
    cases e
    cases hy
    cases (show u = Value.bool b from ry)
    cases (show some (D.bl false) = some d from hs)
    exact wpAny_is_other rfl (fun z => nomatch z) ⟨.bl false, H, I, rfl, q _ H (Same.refl H) rfl⟩
theorem op_ntBP {b : Bool} : OpR X (compareOp .IsNot) (fun x y H Q => y = .bl b ∧ r1O X.K cad sub (.ntB b) x H Q) := by
  intro pins s σ H x y v u Q I rx ry ⟨hy, F, ds, d, hF, hp, hs, q⟩
  obtain ⟨da, rfl, h1⟩ := pk1 hp
  cases da <;> try (exact absurd (show none = some d from hs) (by simp))
  case bl c =>
    cases (show x = .bl c from h1)
    cases (show some (D.bl (!decide (c = b))) = some d from hs)
    exact op_notBl pins s σ H _ _ v u Q I rx ry ⟨c, b, rfl, hy, q _ H (Same.refl H) rfl⟩
  case int c =>
    obtain ⟨t, rfl⟩ := (show ∃ t, v = Value.int c t from by cases (show x = .int c from h1); exact rx)
    cases hy
    cases (show u = Value.bool b from ry)
    cases (show some (D.bl true) = some d from hs)
    exact wpAny_isNot_other rfl (fun z => nomatch z) ⟨.bl true, H, I, rfl, q _ H (Same.refl H) rfl⟩
  case str c =>
    obtain ⟨t, rfl⟩ := (show ∃ t, v = Value.str c t from by cases (show x = .str c from h1); exact rx)
    cases hy
    cases (show u = Value.bool b from ry)
    cases (show some (D.bl true) = some d from hs)
    exact wpAny_isNot_other rfl (fun z => nomatch z) ⟨.bl true, H, I, rfl, q _ H (Same.refl H) rfl⟩
  case non =>
    have e := (show v = Value.none from by cases (show x = .non from h1); exact rx)
    cases e
    cases hy
    cases (show u = Value.bool b from ry)
    cases (show some (D.bl true) = some d from hs)
    exact wpAny_isNot_other rfl (fun z => nomatch z) ⟨.bl true, H, I, rfl, q _ H (Same.refl H) rfl⟩
theorem un_negP : UnR X (unaryOp .USub) (r1O X.K cad sub .neg) := by
  intro pins s σ H x v Q I rx ⟨F, ds, d, hF, hp, hs, q⟩
  obtain ⟨da, rfl, h1⟩ := pk1 hp
  cases da <;> try (exact absurd (show none = some d from hs) (by simp))
  case int i =>
    cases (show x = .int i from h1)
    cases (show some (D.int (-i)) = some d from hs)
    exact un_neg pins s σ H _ v Q I rx ⟨i, rfl, q _ H (Same.refl H) rfl⟩
theorem seq_reads {K : PySem.W.Frag} {H : Hp} {F : List Addr} {ds : List D} {vs : List V} (h : IsDs K cad H F ds vs) (p : ds.all plainD = true) : PyData.plainAll (pys ds) = true ∧ PyData.depthAll (pys ds) ≤ 60 := by
  induction ds generalizing vs with
  | nil => exact ⟨rfl, by decide⟩
  | cons d ds ih =>
    obtain ⟨x, r, rfl, h1, h2⟩ := h
    rw [List.all_cons, Bool.and_eq_true] at p
    obtain ⟨p1, p2⟩ := plainD_ok p.1
    obtain ⟨p3, p4⟩ := ih h2 p.2
    refine ⟨?_, ?_⟩
    · show ((py d).plain && PyData.plainAll (pys ds)) = true
      rw [p1, p3]
      rfl
    · show max (py d).depth (PyData.depthAll (pys ds)) ≤ 60
      exact Nat.max_le.mpr ⟨p2, p4⟩
theorem any_pys (x : D) : ∀ ds : List D, (pys ds).any (fun y => PyData.eqv y (py x)) = ds.any (eqD · x)
  | [] => rfl
  | d :: ds => by
    show (PyData.eqv (py d) (py x) || _) = (eqD d x || _)
    rw [any_pys x ds]
    rfl
theorem key_pk {K : PySem.W.Frag} {H : Hp} {F : List Addr} {d : D} {q : Key} {y : V} (h : PkD K cad H F d y) (e : keyOf d = some q) : y = kV q := by
  cases d <;> try (cases e; done)
  case int i => cases (show y = .int i from h); cases e; rfl
  case str i => cases (show y = .str i from h); cases e; rfl
theorem dget_at {K : PySem.W.Frag} {H : Hp} {F : List Addr} {ks : List Key} {vs : List D} {d : D} {q : Key} {x y : V} (h1 : PkD K cad H F (.dct ks vs) x) (h2 : PkD K cad H F d y) (e : keyOf d = some q) :
    ∃ a o, x = .ref a ∧ DGet H a y o ∧ L2.IsD H a ∧ (match dget ks vs q with | some d => ∃ v, o = some v ∧ IsD K cad H F d v | none => o = none) := by
  obtain ⟨a, us, rfl, ha, rfl, hv⟩ := h1
  refine ⟨a, valV us q, rfl, by rw [key_pk h2 e]; exact .inl ⟨us, q, ha, rfl, rfl⟩, .inl ⟨us, ha⟩, dget_rel hv _ rfl⟩
theorem in_core (hu : X.A.units + 100 < cLine) {pins : List (Addr × Obj)} {s : Shared} {σ : L2.St} {H : Hp} {x y : V} {v u : Value} {F : List Addr} {da db : D} {c : Bool} (I : Inv X pins σ H s) (rx : RelV x v) (ry : RelV y u)
    (h1 : PkD X.K cad H F da x) (h2 : PkD X.K cad H F db y) (e : inD da db = some c) :
    (∀ Q : Value → Shared → Prop, (∀ s', Inv X pins σ H s' → Q (.bool c) s') → wpAny (model X.prog X.w) X.A (compareOp .In v u) Q X.xe s) ∧ (∀ Q : Value → Shared → Prop, (∀ s', Inv X pins σ H s' → Q (.bool (!c)) s') → wpAny (model X.prog X.w) X.A (compareOp .NotIn v u) Q X.xe s) := by
  cases db with
  | str b =>
    cases da with
    | str a =>
      cases (show x = .str a from h1)
      cases (show y = .str b from h2)
      cases (show some (!(Builtin.Str.occurrences b a 0 b.length 1).isEmpty) = some c from e)
      obtain ⟨t, rfl⟩ := rx
      obtain ⟨t', rfl⟩ := ry
      exact ⟨fun Q q => in_str (q s I), fun Q q => notIn_str (q s I)⟩
    | _ => cases e
  | lst ys =>
    have e' : (if (plainD da && ys.all plainD) = true then some (ys.any (eqD · da)) else none) = some c := e
    by_cases hc : (plainD da && ys.all plainD) = true
    · rw [if_pos hc] at e'
      cases e'
      obtain ⟨c1, c2⟩ := Bool.and_eq_true_iff.mp hc
      obtain ⟨p1, e1⟩ := plainD_ok c1
      obtain ⟨a, xs, rfl, hl, hx⟩ := h2
      obtain ⟨p2, e2⟩ := seq_reads hx c2
      obtain ⟨as, r1⟩ := Dp.reads I _ x v (dp_pk h1 p1) rx
      obtain ⟨bs, r2⟩ := Dp.reads I (.list (pys ys)) _ u (.lst hl (dps_of hx p2)) ry
      have hd : X.A.units + 1 + min (PyData.depthAll (pys ys)) (py da).depth < cLine := by
        have := Nat.min_le_left (PyData.depthAll (pys ys)) (py da).depth
        omega
      exact ⟨fun Q q => SeqAt.in_list_data r2 r1 p2 p1 hd (by rw [any_pys]; exact q s I), fun Q q => SeqAt.notIn_list_data r2 r1 p2 p1 hd (by rw [any_pys]; exact q s I)⟩
    · rw [if_neg hc] at e'; cases e'
  | tup ys =>
    have e' : (if (plainD da && ys.all plainD) = true then some (ys.any (eqD · da)) else none) = some c := e
    by_cases hc : (plainD da && ys.all plainD) = true
    · rw [if_pos hc] at e'
      cases e'
      obtain ⟨c1, c2⟩ := Bool.and_eq_true_iff.mp hc
      obtain ⟨p1, e1⟩ := plainD_ok c1
      obtain ⟨a, xs, rfl, hl, hx⟩ := h2
      obtain ⟨p2, e2⟩ := seq_reads hx c2
      obtain ⟨as, r1⟩ := Dp.reads I _ x v (dp_pk h1 p1) rx
      obtain ⟨bs, r2⟩ := Dp.reads I (.tuple (pys ys)) _ u (.tup hl.sq (dps_of hx p2)) ry
      have hd : X.A.units + 1 + min (PyData.depthAll (pys ys)) (py da).depth < cLine := by
        have := Nat.min_le_left (PyData.depthAll (pys ys)) (py da).depth
        omega
      exact ⟨fun Q q => SeqAt.in_tuple_data r2 r1 p2 p1 hd (by rw [any_pys]; exact q s I), fun Q q => SeqAt.notIn_tuple_data r2 r1 p2 p1 hd (by rw [any_pys]; exact q s I)⟩
    · rw [if_neg hc] at e'; cases e'
  | dct ks vs =>
    have e' : (match keyOf da with | some q => some (dget ks vs q).isSome | none => none) = some c := e
    cases hk : keyOf da with
    | none => rw [hk] at e'; cases e'
    | some q =>
      rw [hk] at e'
      cases e'
      obtain ⟨a, o, rfl, g, _, hm⟩ := dget_at h2 h1 hk
      cases ry
      have eo : o.isSome = (dget ks vs q).isSome := by
        cases hd : dget ks vs q with
        | none => rw [hd] at hm; rw [show o = none from hm]; rfl
        | some d => rw [hd] at hm; obtain ⟨v, e1, _⟩ := hm; rw [e1]; rfl
      exact ⟨fun Q qq => d_in (by omega) I g rx fun s' I' => by rw [eo]; exact qq s' I', fun Q qq => d_notIn (by omega) I g rx fun s' I' => by rw [eo]; exact qq s' I'⟩
  | _ => cases e
theorem op_inP (hu : X.A.units + 100 < cLine) : OpR X (compareOp .In) (r2O X.K cad sub .in_) := by
  intro pins s σ H x y v u Q I rx ry ⟨F, ds, d, hF, hp, hs, q⟩
  obtain ⟨da, db, rfl, h1, h2⟩ := pk2 hp
  have hs' : (inD da db).map D.bl = some d := hs
  cases e : inD da db with
  | none => rw [e] at hs'; cases hs'
  | some c =>
    rw [e] at hs'
    cases hs'
    exact (in_core hu I rx ry h1 h2 e).1 _ fun s' I' => ⟨.bl c, H, I', rfl, q _ H (Same.refl H) rfl⟩
theorem op_notinP (hu : X.A.units + 100 < cLine) : OpR X (compareOp .NotIn) (r2O X.K cad sub .notin) := by
  intro pins s σ H x y v u Q I rx ry ⟨F, ds, d, hF, hp, hs, q⟩
  obtain ⟨da, db, rfl, h1, h2⟩ := pk2 hp
  have hs' : (inD da db).map (fun c => D.bl (!c)) = some d := hs
  cases e : inD da db with
  | none => rw [e] at hs'; cases hs'
  | some c =>
    rw [e] at hs'
    cases hs'
    exact (in_core hu I rx ry h1 h2 e).2 _ fun s' I' => ⟨.bl (!c), H, I', rfl, q _ H (Same.refl H) rfl⟩
theorem atI_rel {K : PySem.W.Frag} {H : Hp} {F : List Addr} {ds : List D} {vs : List V} {i : Int} {d : D} (h : IsDs K cad H F ds vs) (e : atI ds i = some d) : ∃ v, atI vs i = some v ∧ IsD K cad H F d v := by
  unfold atI at e ⊢
  rw [← h.length]
  cases q : ixN ds.length i with
  | none => rw [q] at e; cases e
  | some j =>
    rw [q] at e
    exact h.get e
theorem ix_P (hu : X.A.units + 100 < cLine) : IxR X (r2O X.K cad sub .ix) := by
  intro value slice pins s σ H x y v u Q I rx ry ⟨F, ds, d, hF, hp, hs, q⟩ hsub
  obtain ⟨da, db, rfl, h1, h2⟩ := pk2 hp
  have hs : ixD da db = some d := hs
  cases da with
  | str a =>
    cases db with
    | int i =>
      cases (show x = .str a from h1)
      cases (show y = .int i from h2)
      have hs' : (if a.length ≤ LIM then (atI a.cps.toList i).map (fun c => D.str ⟨#[c]⟩) else none) = some d := hs
      by_cases hc : a.length ≤ LIM
      · rw [if_pos hc] at hs'
        cases e : atI a.cps.toList i with
        | none => rw [e] at hs'; cases hs'
        | some c =>
          rw [e] at hs'
          cases hs'
          exact ix_str value slice pins s σ H _ _ v u Q I rx ry ⟨a, i, c, rfl, rfl, by rw [← lim_eq]; exact hc, e, q _ H (Same.refl H) rfl⟩ hsub
      · rw [if_neg hc] at hs'; cases hs'
    | _ => cases hs
  | lst a =>
    cases db with
    | int i =>
      cases (show y = .int i from h2)
      obtain ⟨p, xs, rfl, hl, hx⟩ := h1
      obtain ⟨w, e, hw⟩ := atI_rel hx (show atI a i = some d from hs)
      exact ix_list value slice pins s σ H _ _ v u Q I rx ry ⟨p, xs, i, w, rfl, rfl, hl, e, q _ H (Same.refl H) hw⟩ hsub
    | _ => cases hs
  | tup a =>
    cases db with
    | int i =>
      cases (show y = .int i from h2)
      obtain ⟨p, xs, rfl, hl, hx⟩ := h1
      obtain ⟨w, e, hw⟩ := atI_rel hx (show atI a i = some d from hs)
      exact ix_tup value slice pins s σ H _ _ v u Q I rx ry ⟨p, xs, i, w, rfl, rfl, hl.sq, e, q _ H (Same.refl H) hw⟩ hsub
    | _ => cases hs
  | dct ks vs =>
    have hs : (match keyOf db with | some q => dget ks vs q | none => none) = some d := hs
    cases hk : keyOf db with
    | none => rw [hk] at hs; cases hs
    | some k =>
      rw [hk] at hs
      have hs : dget ks vs k = some d := hs
      obtain ⟨a, o, rfl, g, _, hm⟩ := dget_at h1 h2 hk
      rw [hs] at hm
      obtain ⟨w, rfl, hw⟩ := hm
      cases rx
      exact tail_any (dict_typeIs I g) PySem.F.slot_dict_getitem.lookup (d_getItem (by omega) I g ry fun w' s' I' rw' => ⟨w, H, I', rw', q _ H (Same.refl H) hw⟩) hsub
  | _ => cases hs
theorem cut_rel {K : PySem.W.Frag} {H : Hp} {F : List Addr} {ds : List D} {vs : List V} {lo hi : Option Int} (h : IsDs K cad H F ds vs) : IsDs K cad H F (cutD ds lo hi) (cutV vs lo hi) := by
  unfold cutD cutV
  rw [← h.length]
  exact (h.drop _).take _
def rSlP (K : PySem.W.Frag) (cad : Nat → Addr) : V → Option Int → Option Int → Hp → VK → Prop := fun x lo hi H Q => ∃ (F : List Addr) (da d : D), (∀ a ∈ F, ∃ u, H a = some u) ∧ PkD K cad H F da x ∧ slD da lo hi = some d ∧ ∀ v H', Same H H' → IsD K cad H' F d v → Q v H'
theorem sl_P : L2.SlR X (rSlP X.K cad) := by
  intro pins s σ H x v vl vu lo hi sl Q I rx hs pl pu ⟨F, da, d, hF, h1, e, q⟩
  cases da with
  | lst a =>
    cases (show some (D.lst (cutD a lo hi)) = some d from e)
    obtain ⟨p, xs, rfl, hl, hx⟩ := h1
    exact sl_list pins s σ H _ v vl vu lo hi sl Q I rx hs pl pu ⟨p, xs, rfl, hl, fun r hr => q _ _ (same_upd hr) (new_lst hF hr (cut_rel hx))⟩
  | tup a =>
    cases (show some (D.tup (cutD a lo hi)) = some d from e)
    obtain ⟨p, xs, rfl, hl, hx⟩ := h1
    have i1 : IsD X.K cad H F (.tup a) (.ref p) := ⟨p, xs, rfl, hl, hx⟩
    refine sl_tupA pins s σ H _ v vl vu lo hi sl Q I rx hs pl pu ⟨p, xs, rfl, hl.sq, fun hw => q _ H (Same.refl H) ?_, fun _ r hr => q _ _ (same_upd hr) (new_tup hF hr (cut_rel hx))⟩
    have e2 : cutD a lo hi = a := by
      unfold cutD
      rw [hx.length, hw.1, hw.2]
      rw [← hx.length]
      simp
    rw [e2]
    exact i1
  | str a =>
    cases (show x = .str a from h1)
    have e' : (if a.length ≤ LIM then some (D.str (L2.cutS a lo hi)) else none) = some d := e
    by_cases hc : a.length ≤ LIM
    · rw [if_pos hc] at e'
      cases e'
      exact sl_str pins s σ H _ v vl vu lo hi sl Q I rx hs pl pu ⟨a, rfl, by rw [← lim_eq]; exact hc, q _ H (Same.refl H) rfl⟩
    · rw [if_neg hc] at e'; cases e'
  | _ => cases e
theorem call_lenP : CallR X (.builtin "len") (rO X.K cad sub .len) := by
  intro pins s σ H xs us Q I r ⟨F, ds, d, hF, hp, hs, q⟩
  obtain ⟨x, da, rfl, h1, hs⟩ := un1 hp hs (fun _ _ => rfl) (fun _ _ _ => rfl)
  have hs : lenD da = some d := hs
  cases da with
  | lst a =>
    cases (show some (D.int a.length) = some d from hs)
    obtain ⟨p, ys, rfl, hl, hy⟩ := h1
    exact call_len_seq pins s σ H _ us Q I r ⟨p, ys, rfl, .inl hl, q _ H (Same.refl H) (by rw [hy.length]; rfl)⟩
  | tup a =>
    cases (show some (D.int a.length) = some d from hs)
    obtain ⟨p, ys, rfl, hl, hy⟩ := h1
    exact call_len_seq pins s σ H _ us Q I r ⟨p, ys, rfl, .inr hl.sq, q _ H (Same.refl H) (by rw [hy.length]; rfl)⟩
  | str a =>
    cases (show x = .str a from h1)
    have hs' : (if a.length ≤ LIM then some (D.int a.length) else none) = some d := hs
    by_cases hc : a.length ≤ LIM
    · rw [if_pos hc] at hs'
      cases hs'
      exact call_len_str pins s σ H _ us Q I r ⟨a, rfl, by rw [← lim_eq]; exact hc, q _ H (Same.refl H) rfl⟩
    · rw [if_neg hc] at hs'; cases hs'
  | dct ks vs =>
    cases (show some (D.int ks.length) = some d from hs)
    obtain ⟨p, us', rfl, hl, rfl, hy⟩ := h1
    obtain ⟨u, rfl, ru⟩ := vals1 r
    cases ru
    exact d_len I hl fun t s' I' => ⟨.int us'.length, H, I', ⟨t, rfl⟩, q _ H (Same.refl H) (by rw [List.length_map]; rfl)⟩
  | _ => cases hs
theorem call_absP : CallR X (.builtin "abs") (rO X.K cad sub .abs) := by
  intro pins s σ H xs us Q I r ⟨F, ds, d, hF, hp, hs, q⟩
  obtain ⟨x, da, rfl, h1, hs⟩ := un1 hp hs (fun _ _ => rfl) (fun _ _ _ => rfl)
  have hs : absD da = some d := hs
  cases da with
  | int i =>
    cases (show x = .int i from h1)
    cases (show some (D.int (if i < 0 then -i else i)) = some d from hs)
    exact call_abs pins s σ H _ us Q I r ⟨i, rfl, q _ H (Same.refl H) rfl⟩
  | _ => cases hs
theorem call_intP : CallR X (.type "int") (rO X.K cad sub .int) := by
  intro pins s σ H xs us Q I r ⟨F, ds, d, hF, hp, hs, q⟩
  obtain ⟨x, da, rfl, h1, hs⟩ := un1 hp hs (fun _ _ => rfl) (fun _ _ _ => rfl)
  have hs : intD da = some d := hs
  cases da with
  | int i =>
    cases (show x = .int i from h1)
    cases (show some (D.int i) = some d from hs)
    exact call_int1 pins s σ H _ us Q I r (.inl ⟨i, rfl, q _ H (Same.refl H) rfl⟩)
  | bl b =>
    cases (show x = .bl b from h1)
    cases (show some (D.int (if b then 1 else 0)) = some d from hs)
    exact call_int1 pins s σ H _ us Q I r (.inr ⟨b, rfl, q _ H (Same.refl H) rfl⟩)
  | str a =>
    cases (show x = .str a from h1)
    have hs' : (if a.length ≤ 640 then (PySem.intText? a).map D.int else none) = some d := hs
    by_cases hc : a.length ≤ 640
    · rw [if_pos hc] at hs'
      cases e : PySem.intText? a with
      | none => rw [e] at hs'; cases hs'
      | some n =>
        rw [e] at hs'
        cases hs'
        exact call_int_str pins s σ H _ us Q I r ⟨a, n, rfl, e, hc, q _ H (Same.refl H) rfl⟩
    · rw [if_neg hc] at hs'; cases hs'
  | _ => cases hs
theorem call_strP : CallR X (.type "str") (rO X.K cad sub .str) := by
  intro pins s σ H xs us Q I r ⟨F, ds, d, hF, hp, hs, q⟩
  obtain ⟨x, da, rfl, h1, hs⟩ := un1 hp hs (fun _ _ => rfl) (fun _ _ _ => rfl)
  have hs : strD da = some d := hs
  cases da with
  | int i =>
    cases (show x = .int i from h1)
    have hs' : (if i.natAbs.log2 < 1920 then some (D.str (toString i)) else none) = some d := hs
    by_cases hc : i.natAbs.log2 < 1920
    · rw [if_pos hc] at hs'
      cases hs'
      exact call_str_int pins s σ H _ us Q I r ⟨i, rfl, hc, q _ H (Same.refl H) rfl⟩
    · rw [if_neg hc] at hs'; cases hs'
  | _ => cases hs
theorem call_tupP : CallR X (.type "tuple") (rO X.K cad sub .tupOf) := by
  intro pins s σ H xs us Q I r ⟨F, ds, d, hF, hp, hs, q⟩
  obtain ⟨x, da, rfl, h1, hs⟩ := un1 hp hs (fun _ _ => rfl) (fun _ _ _ => rfl)
  have hs : tupD da = some d := hs
  cases da with
  | lst a =>
    cases (show some (D.tup a) = some d from hs)
    obtain ⟨p, ys, rfl, hl, hy⟩ := h1
    exact call_tuple_of pins s σ H _ us Q I r ⟨p, ys, rfl, .inl ⟨hl, fun l hl => q _ _ (same_upd hl) (new_tup hF hl hy)⟩⟩
  | tup a =>
    cases (show some (D.tup a) = some d from hs)
    obtain ⟨p, ys, rfl, hl, hy⟩ := h1
    exact call_tuple_of pins s σ H _ us Q I r ⟨p, ys, rfl, .inr ⟨hl.sq, q _ H (Same.refl H) ⟨p, ys, rfl, hl, hy⟩⟩⟩
  | _ => cases hs
theorem call_lstP : CallR X (.type "list") (rO X.K cad sub .lstOf) := by
  intro pins s σ H xs us Q I r ⟨F, ds, d, hF, hp, hs, q⟩
  obtain ⟨x, da, rfl, h1, hs⟩ := un1 hp hs (fun _ _ => rfl) (fun _ _ _ => rfl)
  have hs : lstD da = some d := hs
  cases da with
  | lst a =>
    cases (show some (D.lst a) = some d from hs)
    obtain ⟨p, ys, rfl, hl, hy⟩ := h1
    exact call_list_of pins s σ H _ us Q I r ⟨p, ys, rfl, .inl hl, fun l hl => q _ _ (same_upd hl) (new_lst hF hl hy)⟩
  | tup a =>
    cases (show some (D.lst a) = some d from hs)
    obtain ⟨p, ys, rfl, hl, hy⟩ := h1
    exact call_list_of pins s σ H _ us Q I r ⟨p, ys, rfl, .inr hl.sq, fun l hl => q _ _ (same_upd hl) (new_lst hF hl hy)⟩
  | _ => cases hs
theorem isBls_rel {K : PySem.W.Frag} {H : Hp} {F : List Addr} : ∀ {ds : List D} {vs : List V} {bs : List Bool}, IsDs K cad H F ds vs → isBls ds = some bs → vs = bs.map V.bl
  | [], _, _, h, e => by
    cases (show some [] = some _ from e)
    exact h
  | d :: ds, _, bs, h, e => by
    obtain ⟨x, r, rfl, h1, h2⟩ := h
    cases d with
    | bl b =>
      cases (show x = .bl b from h1)
      have e' : (isBls ds).map (b :: ·) = some bs := e
      cases q : isBls ds with
      | none => rw [q] at e'; cases e'
      | some bs =>
        rw [q] at e'
        cases e'
        rw [isBls_rel h2 q]
        rfl
    | _ => cases e
theorem isInts_rel {K : PySem.W.Frag} {H : Hp} {F : List Addr} : ∀ {ds : List D} {vs : List V} {bs : List Int}, IsDs K cad H F ds vs → isInts ds = some bs → vs = bs.map V.int
  | [], _, _, h, e => by
    cases (show some [] = some _ from e)
    exact h
  | d :: ds, _, bs, h, e => by
    obtain ⟨x, r, rfl, h1, h2⟩ := h
    cases d with
    | int b =>
      cases (show x = .int b from h1)
      have e' : (isInts ds).map (b :: ·) = some bs := e
      cases q : isInts ds with
      | none => rw [q] at e'; cases e'
      | some bs =>
        rw [q] at e'
        cases e'
        rw [isInts_rel h2 q]
        rfl
    | _ => cases e
theorem call_allP (hcalm : X.calm = true) : CallR X (.builtin "all") (rO X.K cad sub .all) := by
  intro pins s σ H xs us Q I r ⟨F, ds, d, hF, hp, hs, q⟩
  obtain ⟨x, da, rfl, h1, hs⟩ := un1 hp hs (fun _ _ => rfl) (fun _ _ _ => rfl)
  have hs : allD da = some d := hs
  cases da with
  | lst a =>
    have hs' : (isBls a).map (fun bs => D.bl (bs.all id)) = some d := hs
    cases e : isBls a with
    | none => rw [e] at hs'; cases hs'
    | some bs =>
      rw [e] at hs'
      cases hs'
      obtain ⟨p, ys, rfl, hl, hy⟩ := h1
      rw [isBls_rel hy e] at hl
      exact cr_all hcalm pins s σ H _ us Q I r ⟨p, bs, rfl, hl, q _ H (Same.refl H) rfl⟩
  | _ => cases hs
theorem call_anyP (hcalm : X.calm = true) : CallR X (.builtin "any") (rO X.K cad sub .any) := by
  intro pins s σ H xs us Q I r ⟨F, ds, d, hF, hp, hs, q⟩
  obtain ⟨x, da, rfl, h1, hs⟩ := un1 hp hs (fun _ _ => rfl) (fun _ _ _ => rfl)
  have hs : anyD da = some d := hs
  cases da with
  | lst a =>
    have hs' : (isBls a).map (fun bs => D.bl (bs.any id)) = some d := hs
    cases e : isBls a with
    | none => rw [e] at hs'; cases hs'
    | some bs =>
      rw [e] at hs'
      cases hs'
      obtain ⟨p, ys, rfl, hl, hy⟩ := h1
      rw [isBls_rel hy e] at hl
      exact cr_any hcalm pins s σ H _ us Q I r ⟨p, bs, rfl, hl, q _ H (Same.refl H) rfl⟩
  | _ => cases hs
theorem call_sumP (hcalm : X.calm = true) : CallR X (.builtin "sum") (rO X.K cad sub .sum) := by
  intro pins s σ H xs us Q I r ⟨F, ds, d, hF, hp, hs, q⟩
  obtain ⟨x, da, rfl, h1, hs⟩ := un1 hp hs (fun _ _ => rfl) (fun _ _ _ => rfl)
  have hs : sumD da = some d := hs
  cases da with
  | lst a =>
    have hs' : (isInts a).map (fun bs => D.int bs.sum) = some d := hs
    cases e : isInts a with
    | none => rw [e] at hs'; cases hs'
    | some bs =>
      rw [e] at hs'
      cases hs'
      obtain ⟨p, ys, rfl, hl, hy⟩ := h1
      rw [isInts_rel hy e] at hl
      exact cr_sum hcalm pins s σ H _ us Q I r ⟨p, bs, rfl, hl, q _ H (Same.refl H) rfl⟩
  | _ => cases hs
theorem call_divmodP : CallR X (.builtin "divmod") (rO X.K cad sub .divmod) := by
  intro pins s σ H xs us Q I r ⟨F, ds, d, hF, hp, hs, q⟩
  obtain ⟨x, y, da, db, rfl, h1, h2, hs⟩ := un2 hp hs (fun _ => rfl) (fun _ _ _ => rfl)
  have hs : divmodD da db = some d := hs
  cases da with
  | int i =>
    cases db with
    | int j =>
      cases (show x = .int i from h1)
      cases (show y = .int j from h2)
      have hs' : (if 0 < j ∧ j.natAbs.log2 < 9000 then some (D.tup [.int (i / j), .int (i % j)]) else none) = some d := hs
      by_cases hc : 0 < j ∧ j.natAbs.log2 < 9000
      · rw [if_pos hc] at hs'
        cases hs'
        exact call_divmodW pins s σ H _ us Q I r ⟨i, j, rfl, ⟨hc.1, PyProof.noPylong_of_log2 hc.2⟩, fun p hp => q _ _ (same_upd hp) (new_tup hF hp ⟨_, _, rfl, rfl, _, _, rfl, rfl, rfl⟩)⟩
      · rw [if_neg hc] at hs'; cases hs'
    | _ => cases hs
  | _ => cases hs
theorem call_min2P (hcalm : X.calm = true) : CallR X (.builtin "min") (rO X.K cad sub .min2) := by
  intro pins s σ H xs us Q I r ⟨F, ds, d, hF, hp, hs, q⟩
  obtain ⟨x, y, da, db, rfl, h1, h2, hs⟩ := un2 hp hs (fun _ => rfl) (fun _ _ _ => rfl)
  have hs : minD da db = some d := hs
  cases da with
  | int i =>
    cases db with
    | int j =>
      cases (show x = .int i from h1)
      cases (show y = .int j from h2)
      cases (show some (D.int (if j < i then j else i)) = some d from hs)
      exact call_min2 hcalm pins s σ H _ us Q I r ⟨i, j, rfl, q _ H (Same.refl H) rfl⟩
    | _ => cases hs
  | _ => cases hs
theorem call_max2P (hcalm : X.calm = true) : CallR X (.builtin "max") (rO X.K cad sub .max2) := by
  intro pins s σ H xs us Q I r ⟨F, ds, d, hF, hp, hs, q⟩
  obtain ⟨x, y, da, db, rfl, h1, h2, hs⟩ := un2 hp hs (fun _ => rfl) (fun _ _ _ => rfl)
  have hs : maxD da db = some d := hs
  cases da with
  | int i =>
    cases db with
    | int j =>
      cases (show x = .int i from h1)
      cases (show y = .int j from h2)
      cases (show some (D.int (if j > i then j else i)) = some d from hs)
      exact call_max2 hcalm pins s σ H _ us Q I r ⟨i, j, rfl, q _ H (Same.refl H) rfl⟩
    | _ => cases hs
  | _ => cases hs
theorem mt_swP : MtR X "str.startswith" (fun x xs H Q => rO X.K cad sub .startswith (x :: xs) H Q) := by
  intro pins s σ H x xs v us Q I rx r ⟨F, ds, d, hF, hp, hs, q⟩
  obtain ⟨x', y, da, db, e0, h1, h2, hs⟩ := un2 hp hs (fun _ => rfl) (fun _ _ _ => rfl)
  cases e0
  cases da with
  | str a =>
    cases db with
    | str b =>
      cases (show x = .str a from h1)
      cases (show y = .str b from h2)
      cases (show some (D.bl (Txt.startswith a b)) = some d from hs)
      exact mt_startswith pins s σ H _ _ v us Q I rx r ⟨a, b, rfl, rfl, q _ H (Same.refl H) rfl⟩
    | _ => cases (show (none : Option D) = some d from hs)
  | _ => cases (show (none : Option D) = some d from hs)
theorem mt_ewP : MtR X "str.endswith" (fun x xs H Q => rO X.K cad sub .endswith (x :: xs) H Q) := by
  intro pins s σ H x xs v us Q I rx r ⟨F, ds, d, hF, hp, hs, q⟩
  obtain ⟨x', y, da, db, e0, h1, h2, hs⟩ := un2 hp hs (fun _ => rfl) (fun _ _ _ => rfl)
  cases e0
  cases da with
  | str a =>
    cases db with
    | str b =>
      cases (show x = .str a from h1)
      cases (show y = .str b from h2)
      cases (show some (D.bl (Txt.endswith a b)) = some d from hs)
      exact mt_endswith pins s σ H _ _ v us Q I rx r ⟨a, b, rfl, rfl, q _ H (Same.refl H) rfl⟩
    | _ => cases (show (none : Option D) = some d from hs)
  | _ => cases (show (none : Option D) = some d from hs)
theorem isStrs_rel {K : PySem.W.Frag} {H : Hp} {F : List Addr} : ∀ {ds : List D} {vs : List V} {bs : List Str}, IsDs K cad H F ds vs → isStrs ds = some bs → vs = bs.map V.str
  | [], _, _, h, e => by
    cases (show some [] = some _ from e)
    exact h
  | d :: ds, _, bs, h, e => by
    obtain ⟨x, r, rfl, h1, h2⟩ := h
    cases d with
    | str b =>
      cases (show x = .str b from h1)
      have e' : (isStrs ds).map (b :: ·) = some bs := e
      cases q : isStrs ds with
      | none => rw [q] at e'; cases e'
      | some bs =>
        rw [q] at e'
        cases e'
        rw [isStrs_rel h2 q]
        rfl
    | _ => cases e
theorem strs_new {K : PySem.W.Frag} {H : Hp} {F : List Addr} (ys : List Str) : IsDs K cad H F (ys.map .str) (ys.map V.str) := by
  induction ys with
  | nil => rfl
  | cons y ys ih => exact ⟨_, _, rfl, rfl, ih⟩
theorem mt_splitP : MtR X "str.split" (fun x xs H Q => rO X.K cad sub .split (x :: xs) H Q) := by
  intro pins s σ H x xs v us Q I rx r ⟨F, ds, d, hF, hp, hs, q⟩
  obtain ⟨x', y, da, db, e0, h1, h2, hs⟩ := un2 hp hs (fun _ => rfl) (fun _ _ _ => rfl)
  cases e0
  cases da with
  | str a =>
    cases db with
    | str b =>
      cases (show x = .str a from h1)
      cases (show y = .str b from h2)
      have hs' : (if b.length ≠ 0 ∧ a.length + 2 ≤ LIM then some (D.lst ((Txt.split a b).map .str)) else none) = some d := hs
      by_cases hc : b.length ≠ 0 ∧ a.length + 2 ≤ LIM
      · rw [if_pos hc] at hs'
        cases hs'
        exact mt_split pins s σ H _ _ v us Q I rx r ⟨a, b, rfl, rfl, by simpa using hc.1, by rw [← lim_eq]; exact hc.2, fun p hp => q _ _ (same_upd hp) (new_lst hF hp (strs_new _))⟩
      · rw [if_neg hc] at hs'; cases hs'
    | _ => cases (show (none : Option D) = some d from hs)
  | _ => cases (show (none : Option D) = some d from hs)
theorem mt_countP : MtR X "str.count" (fun x xs H Q => rO X.K cad sub .count (x :: xs) H Q) := by
  intro pins s σ H x xs v us Q I rx r ⟨F, ds, d, hF, hp, hs, q⟩
  obtain ⟨x', y, da, db, e0, h1, h2, hs⟩ := un2 hp hs (fun _ => rfl) (fun _ _ _ => rfl)
  cases e0
  cases da with
  | str a =>
    cases db with
    | str b =>
      cases (show x = .str a from h1)
      cases (show y = .str b from h2)
      cases (show some (D.int (Txt.count a b)) = some d from hs)
      exact mt_count pins s σ H _ _ v us Q I rx r ⟨a, b, rfl, rfl, q _ H (Same.refl H) rfl⟩
    | _ => cases (show (none : Option D) = some d from hs)
  | _ => cases (show (none : Option D) = some d from hs)
theorem joinOk_le {x : Str} {ys : List Str} (h : joinOk x ys = true) : (ys.map (·.length)).sum + ys.length * x.length ≤ 16777216 := of_decide_eq_true h
theorem mt_joinP : MtR X "str.join" (fun x xs H Q => rO X.K cad sub .join (x :: xs) H Q) := by
  intro pins s σ H x xs v us Q I rx r ⟨F, ds, d, hF, hp, hs, q⟩
  obtain ⟨x', y, da, db, e0, h1, h2, hs⟩ := un2 hp hs (fun _ => rfl) (fun _ _ _ => rfl)
  cases e0
  cases da with
  | str a =>
    cases (show x = .str a from h1)
    cases db with
    | lst ys =>
      have hs' : (match isStrs ys with | some zs => if joinOk a zs = true then some (D.str (Txt.join a zs)) else none | none => none) = some d := hs
      cases e : isStrs ys with
      | none => rw [e] at hs'; cases hs'
      | some zs =>
        rw [e] at hs'
        have hs' : (if joinOk a zs = true then some (D.str (Txt.join a zs)) else none) = some d := hs'
        by_cases hc : joinOk a zs = true
        · rw [if_pos hc] at hs'
          cases hs'
          obtain ⟨p, vs, rfl, hl, hv⟩ := h2
          rw [isStrs_rel hv e] at hl
          exact mt_join pins s σ H _ _ v us Q I rx r ⟨a, p, zs, rfl, rfl, .inl hl, joinOk_le hc, q _ H (Same.refl H) rfl⟩
        · rw [if_neg hc] at hs'; cases hs'
    | tup ys =>
      have hs' : (match isStrs ys with | some zs => if joinOk a zs = true then some (D.str (Txt.join a zs)) else none | none => none) = some d := hs
      cases e : isStrs ys with
      | none => rw [e] at hs'; cases hs'
      | some zs =>
        rw [e] at hs'
        have hs' : (if joinOk a zs = true then some (D.str (Txt.join a zs)) else none) = some d := hs'
        by_cases hc : joinOk a zs = true
        · rw [if_pos hc] at hs'
          cases hs'
          obtain ⟨p, vs, rfl, hl, hv⟩ := h2
          rw [isStrs_rel hv e] at hl
          exact mt_join pins s σ H _ _ v us Q I rx r ⟨a, p, zs, rfl, rfl, .inr hl.sq, joinOk_le hc, q _ H (Same.refl H) rfl⟩
        · rw [if_neg hc] at hs'; cases hs'
    | _ => cases (show (none : Option D) = some d from hs)
  | _ => cases (show (none : Option D) = some d from hs)
theorem mt_get1P (hu : X.A.units + 100 < cLine) : MtR X "dict.get" (fun x xs H Q => rO X.K cad sub .get1 (x :: xs) H Q) := by
  intro pins s σ H x xs v us Q I rx r ⟨F, ds, d, hF, hp, hs, q⟩
  obtain ⟨x', y, da, db, e0, h1, h2, hs⟩ := un2 hp hs (fun _ => rfl) (fun _ _ _ => rfl)
  cases e0
  cases da with
  | dct ks vs =>
    have hs : (match keyOf db with | some q => some ((dget ks vs q).getD .non) | none => none) = some d := hs
    cases hk : keyOf db with
    | none => rw [hk] at hs; cases hs
    | some k =>
      rw [hk] at hs
      cases hs
      obtain ⟨a, o, rfl, g, _, hm⟩ := dget_at h1 h2 hk
      cases rx
      obtain ⟨u, rfl, ru⟩ := vals1 r
      refine d_get1 (by omega) I g ru fun w' s' I' rw' => ⟨_, H, I', rw', q _ H (Same.refl H) ?_⟩
      cases hd : dget ks vs k with
      | none => rw [hd] at hm; rw [show o = none from hm]; rfl
      | some d => rw [hd] at hm; obtain ⟨v, e1, hv⟩ := hm; rw [e1]; exact hv
  | _ => cases (show (none : Option D) = some d from hs)
theorem un3 {o : O} {K : PySem.W.Frag} {H : Hp} {F : List Addr} {ds : List D} {d : D} {xs : List V} (hp : PkDs K cad H F ds xs) (hs : sem sub o ds = some d) (h1 : ∀ a, sem1 sub o a = none) (h2 : ∀ a b, sem2 o a b = none) : ∃ x y z a b c, xs = [x, y, z] ∧ PkD K cad H F a x ∧ PkD K cad H F b y ∧ PkD K cad H F c z ∧ sem3 o a b c = some d := by
  match ds, hp, hs with
  | [], _, hs => exact nomatch (show (none : Option D) = some d from hs)
  | [a], _, hs => exact nomatch (h1 a).symm.trans hs
  | [a, b], _, hs => exact nomatch (h2 a b).symm.trans hs
  | [a, b, c], hp, hs =>
    obtain ⟨x, r, rfl, h1, y, r2, rfl, h4, z, r3, rfl, h5, hr⟩ := hp
    cases (show r3 = [] from hr)
    exact ⟨x, y, z, a, b, c, rfl, h1, h4, h5, hs⟩
  | a :: b :: c :: e :: r, _, hs => exact nomatch (show (none : Option D) = some d from hs)
theorem pk_isD {K : PySem.W.Frag} {H : Hp} {F : List Addr} {d : D} {v : V} (h : PkD K cad H F d v) (hf : flatD d = true) : IsD K cad H F d v := by
  cases d <;> first | exact h | cases hf
theorem mt_get2P (hu : X.A.units + 100 < cLine) : MtR X "dict.get" (fun x xs H Q => rO X.K cad sub .get2 (x :: xs) H Q) := by
  intro pins s σ H x xs v us Q I rx r ⟨F, ds, d, hF, hp, hs, q⟩
  obtain ⟨x', y, z, da, db, dc, e0, h1, h2, h3, hs⟩ := un3 hp hs (fun _ => rfl) (fun _ _ => rfl)
  cases e0
  have hs : (if flatD dc = true then dget2D da db dc else none) = some d := hs
  by_cases hf : flatD dc = true
  · rw [if_pos hf] at hs
    cases da with
    | dct ks vs =>
      have hs : (match keyOf db with | some q => some ((dget ks vs q).getD dc) | none => none) = some d := hs
      cases hk : keyOf db with
      | none => rw [hk] at hs; cases hs
      | some k =>
        rw [hk] at hs
        cases hs
        obtain ⟨a, o, rfl, g, _, hm⟩ := dget_at h1 h2 hk
        cases rx
        obtain ⟨u, u2, rfl, ru, ru2⟩ := vals2 r
        refine d_get2 (by omega) I g ru ru2 fun w' s' I' rw' => ⟨_, H, I', rw', q _ H (Same.refl H) ?_⟩
        cases hd : dget ks vs k with
        | none => rw [hd] at hm; rw [show o = none from hm]; exact pk_isD h3 hf
        | some d => rw [hd] at hm; obtain ⟨v, e1, hv⟩ := hm; rw [e1]; exact hv
    | _ => cases (show (none : Option D) = some d from hs)
  · rw [if_neg hf] at hs; cases hs
theorem mt_partP : MtR X "str.partition" (fun x xs H Q => rO X.K cad sub .partition (x :: xs) H Q) := by
  intro pins s σ H x xs v us Q I rx r ⟨F, ds, d, hF, hp, hs, q⟩
  obtain ⟨x', y, da, db, e0, h1, h2, hs⟩ := un2 hp hs (fun _ => rfl) (fun _ _ _ => rfl)
  cases e0
  cases da with
  | str a =>
    cases db with
    | str b =>
      cases (show x = .str a from h1)
      cases (show y = .str b from h2)
      have hs' : (if b.length ≠ 0 ∧ a.length ≤ LIM then some (D.tup [.str (Txt.partition a b).1, .str (Txt.partition a b).2.1, .str (Txt.partition a b).2.2]) else none) = some d := hs
      by_cases hc : b.length ≠ 0 ∧ a.length ≤ LIM
      · rw [if_pos hc] at hs'
        cases hs'
        exact mt_partition pins s σ H _ _ v us Q I rx r ⟨a, b, rfl, rfl, by simpa using hc.1, by rw [← lim_eq]; exact hc.2, fun p hp => q _ _ (same_upd hp) (new_tup hF hp ⟨_, _, rfl, rfl, _, _, rfl, rfl, _, _, rfl, rfl, rfl⟩)⟩
      · rw [if_neg hc] at hs'; cases hs'
    | _ => cases (show (none : Option D) = some d from hs)
  | _ => cases (show (none : Option D) = some d from hs)
theorem truth_rel {K : PySem.W.Frag} {H : Hp} {F : List Addr} {d : D} {x : V} {b : Bool} (h : PkD K cad H F d x) (e : truth d = some b) : TruV K x H b := by
  cases d with
  | non => cases (show x = .non from h); cases (show some false = some b from e); rfl
  | bl c => cases (show x = .bl c from h); cases (show some c = some b from e); rfl
  | int i => cases (show x = .int i from h); cases (show some (i != 0) = some b from e); rfl
  | str a =>
    cases (show x = .str a from h)
    have e' : (if a.length ≤ 16777216 then some (a.length != 0) else none) = some b := e
    by_cases hc : a.length ≤ 16777216
    · rw [if_pos hc] at e'
      cases e'
      refine ⟨by rw [sizeLine_eq]; exact hc, ?_⟩
      cases a.length with
      | zero => rfl
      | succ n =>
        have h1 : ((n + 1 : Nat) : Int) ≠ 0 := by omega
        simp only [bne, h1, Nat.succ_ne_zero]
        simp
        omega
    · rw [if_neg hc] at e'; cases e'
  | tup ds =>
    cases (show some (!ds.isEmpty) = some b from e)
    obtain ⟨a, xs, rfl, ht, hx⟩ := h
    refine .inr (.inl ⟨xs, ht.sq, ?_⟩)
    have := hx.length
    cases ds <;> cases xs <;> simp_all
  | lst ds =>
    cases (show some (!ds.isEmpty) = some b from e)
    obtain ⟨a, xs, rfl, ht, hx⟩ := h
    refine .inl ⟨xs, ht, ?_⟩
    have := hx.length
    cases ds <;> cases xs <;> simp_all
  | dct ks vs => cases e
  | obj _ _ _ => cases e
  | exc _ _ _ => cases e
  | fnc _ => cases e
end
end PD
set_option Elab.async false
set_option linter.all false
set_option maxRecDepth 100000
set_option maxHeartbeats 4000000
namespace PD
open PySem PySem.Spec PyProof.Rows L2
def leS (a b : Str) : Prop := ¬ (b.cps.toList < a.cps.toList)
theorem leS_anti {a b : Str} (h1 : leS a b) (h2 : leS b a) : a = b := by
  have e : a.cps.toList = b.cps.toList := List.le_antisymm (by exact List.not_lt.mp h1) (by exact List.not_lt.mp h2)
  cases a; cases b
  rename_i x y
  have : x = y := Array.toList_inj.mp e
  rw [this]
theorem leS_trans {a b c : Str} (h1 : leS a b) (h2 : leS b c) : leS a c := by
  have q1 : a.cps.toList ≤ b.cps.toList := List.not_lt.mp h1
  have q2 : b.cps.toList ≤ c.cps.toList := List.not_lt.mp h2
  exact List.not_lt.mpr (List.le_trans q1 q2)
theorem leS_lt {a b : Str} (h : ltS a b = true) : leS a b := by
  have h : a.cps.toList < b.cps.toList := of_decide_eq_true h
  exact fun z => List.lt_asymm h z
theorem insS_perm (x : Str) : ∀ r : List Str, (insS x r).Perm (x :: r)
  | [] => List.Perm.refl _
  | y :: r => by
    unfold insS
    by_cases h : ltS x y = true
    · rw [if_pos h]
    · rw [if_neg h]
      exact ((insS_perm x r).cons y).trans (List.Perm.swap x y r)
theorem sortS_perm : ∀ xs : List Str, (sortS xs).Perm xs
  | [] => List.Perm.refl _
  | x :: r => (insS_perm x _).trans ((sortS_perm r).cons x)
theorem insS_up (x : Str) : ∀ r : List Str, r.Pairwise leS → (insS x r).Pairwise leS
  | [], _ => List.pairwise_singleton _ _
  | y :: r, h => by
    obtain ⟨h1, h2⟩ := List.pairwise_cons.mp h
    unfold insS
    by_cases hc : ltS x y = true
    · rw [if_pos hc]
      refine List.pairwise_cons.mpr ⟨fun z hz => ?_, h⟩
      rcases List.mem_cons.mp hz with rfl | hz
      · exact leS_lt hc
      · exact leS_trans (leS_lt hc) (h1 z hz)
    · rw [if_neg hc]
      refine List.pairwise_cons.mpr ⟨fun z hz => ?_, insS_up x r h2⟩
      rcases List.mem_cons.mp ((insS_perm x r).mem_iff.mp hz) with rfl | hz
      · exact fun q => hc (decide_eq_true q)
      · exact h1 z hz
theorem sortS_up : ∀ xs : List Str, (sortS xs).Pairwise leS
  | [] => List.Pairwise.nil
  | x :: r => insS_up x _ (sortS_up r)
theorem risingS_up : ∀ (r : List Str) (p : Str), risingS p r = true → (p :: r).Pairwise leS
  | [], p, _ => List.pairwise_singleton _ _
  | x :: r, p, h => by
    have h : (!ltCps x.cps.toList p.cps.toList && risingS x r) = true := h
    rw [Bool.and_eq_true, Bool.not_eq_true'] at h
    have i := risingS_up r x h.2
    have e : leS p x := fun z => by
      have := h.1
      rw [ltCps_eq, decide_eq_false_iff_not] at this
      exact this z
    refine List.pairwise_cons.mpr ⟨fun z hz => ?_, i⟩
    rcases List.mem_cons.mp hz with rfl | hz
    · exact e
    · exact leS_trans e ((List.pairwise_cons.mp i).1 z hz)
theorem sortedS_up {xs : List Str} (h : sortedS xs = true) : xs.Pairwise leS := by
  cases xs with
  | nil => exact List.Pairwise.nil
  | cons x r => exact risingS_up r x h
theorem up_unique : ∀ {xs ys : List Str}, xs.Pairwise leS → ys.Pairwise leS → xs.Perm ys → xs = ys
  | [], ys, _, _, h => by rw [List.nil_perm.mp h]
  | x :: xs, [], _, _, h => by cases (List.perm_nil.mp h)
  | x :: xs, y :: ys, h1, h2, h => by
    obtain ⟨a1, a2⟩ := List.pairwise_cons.mp h1
    obtain ⟨b1, b2⟩ := List.pairwise_cons.mp h2
    have e : x = y := by
      rcases List.mem_cons.mp (h.mem_iff.mp List.mem_cons_self) with z | z
      · exact z
      · rcases List.mem_cons.mp (h.mem_iff.mpr (List.mem_cons_self (a := y) (l := ys))) with w | w
        · exact w.symm
        · exact leS_anti (a1 y w) (b1 x z)
    subst e
    rw [up_unique a2 b2 h.cons_inv]
theorem sort_of {xs ys : List Str} (h : ys.Perm xs) (hs : sortedS ys = true) : ys = sortS xs :=
  up_unique (sortedS_up hs) (sortS_up xs) (h.trans (sortS_perm xs).symm)
section
variable {X : Cx} {cad : Nat → Addr} {sub : Nat → Nat → Option Bool}
def NewM (K : PySem.W.Frag) (cad : Nat → Addr) (H : Hp) (F : List Addr) : M → HO → Prop
  | .lst ds, ho => ∃ xs, ho = .lst xs ∧ IsDs K cad H F ds xs
  | .dct ks ds, ho => ∃ us, ho = .dK us ∧ us.map (·.1) = ks ∧ IsDs K cad H F ds (us.map (·.2))
  | _, _ => False
theorem NewM.cell {K : PySem.W.Frag} {H : Hp} {F F' : List Addr} {p : Addr} {ho : HO} (hn : H p = none) (kp : Kp H F (upd H p ho) F') : ∀ {m : M}, NewM K cad H F m ho → CellM K cad (upd H p ho) F' p m
  | .lst ds, ⟨xs, e, h⟩ => by subst e; exact ⟨xs, upd_same, h.mono kp⟩
  | .dct ks ds, ⟨us, e, h1, h⟩ => by subst e; exact ⟨us, upd_same, h1, h.mono kp⟩
def rN (K : PySem.W.Frag) (cad : Nat → Addr) (sub : Nat → Nat → Option Bool) (o : O) : List V → Hp → VK → Prop := fun vs H Q => ∃ (F : List Addr) (ds : List D) (d : D), (∀ a ∈ F, ∃ u, H a = some u) ∧ PkDs K cad H F ds vs ∧ sem sub o ds = some d ∧
  ∀ p ho m, H p = none → toM d = some m → NewM K cad H F m ho → Q (.ref p) (upd H p ho)
theorem fresh_isD {K : PySem.W.Frag} {H : Hp} {F : List Addr} {p : Addr} {d : D} {m : M} (hp : p ∉ F) (e : toM d = some m) (h : CellM K cad H F p m) : IsD K cad H F d (.ref p) := by
  cases d <;> try (cases e; done)
  case lst xs =>
    cases e
    obtain ⟨ys, h1, h2⟩ := h
    exact ⟨p, ys, rfl, .inl ⟨hp, .inl h1⟩, h2⟩
  case dct ks vs =>
    cases e
    obtain ⟨us, h1, h2, h3⟩ := h
    exact ⟨p, us, rfl, hp, .inl h1, h2, h3⟩
  case obj C ks vs =>
    cases e
    obtain ⟨dx, us, h1, h2, h3⟩ := h
    exact ⟨p, dx, us, rfl, hp, h1, h2, h3⟩
theorem rO_N {K : PySem.W.Frag} {o : O} {vs : List V} {H : Hp} {Q : VK} (h : rO K cad sub o vs H Q) : rN K cad sub o vs H Q := by
  obtain ⟨F, ds, d, hF, hp, hs, q⟩ := h
  exact ⟨F, ds, d, hF, hp, hs, fun p ho m hn em cm => q _ _ (same_upd hn) (fresh_isD (fresh_av hF hn) em (cm.cell hn (Kp.same (same_upd hn))))⟩
theorem keyStrs_map : ∀ {ks : List Key} {zs : List Str}, keyStrs ks = some zs → ks = zs.map Sum.inr
  | [], zs, h => by cases h; rfl
  | .inl _ :: _, zs, h => by cases h
  | .inr x :: r, zs, h => by
    have h : (keyStrs r).map (x :: ·) = some zs := h
    cases e : keyStrs r with
    | none => rw [e] at h; cases h
    | some y => rw [e] at h; cases h; rw [List.map_cons, ← keyStrs_map e]
theorem call_sortedP (hc : X.calm = true) : CallR X (.builtin "sorted") (rN X.K cad sub .sorted) := by
  intro pins s σ H xs us Q I r ⟨F, ds, d, hF, hp, hs, q⟩
  obtain ⟨x, da, rfl, h1, hs⟩ := un1 hp hs (fun _ _ => rfl) (fun _ _ _ => rfl)
  have hs : sortedD da = some d := hs
  cases da with
  | lst a =>
    obtain ⟨p, ys, rfl, hl, hy⟩ := h1
    have hs : (match isStrs a with | some zs => if zs.length < 64 then some (D.lst ((sortS zs).map .str)) else none | none => none) = some d := hs
    cases e : isStrs a with
    | none => rw [e] at hs; cases hs
    | some zs =>
      rw [e] at hs
      have hs : (if zs.length < 64 then some (D.lst ((sortS zs).map .str)) else none) = some d := hs
      by_cases hlt : zs.length < 64
      · rw [if_pos hlt] at hs
        cases hs
        rw [isStrs_rel hy e] at hl
        exact cr_sortedS pins s σ H _ us Q I r ⟨p, zs, rfl, hl, hlt, fun zs' p' pm so hn => by
          rw [sort_of pm so]
          exact q p' _ _ hn rfl ⟨_, rfl, strs_new _⟩⟩
      · rw [if_neg hlt] at hs; cases hs
  | dct ks vs =>
    obtain ⟨p, us2, rfl, hl, rfl, hy⟩ := h1
    have hs : (match keyStrs (us2.map (·.1)) with | some zs => if zs.length < 64 then some (D.lst ((sortS zs).map .str)) else none | none => none) = some d := hs
    cases e : keyStrs (us2.map (·.1)) with
    | none => rw [e] at hs; cases hs
    | some zs =>
      rw [e] at hs
      have hs : (if zs.length < 64 then some (D.lst ((sortS zs).map .str)) else none) = some d := hs
      by_cases hlt : zs.length < 64
      · rw [if_pos hlt] at hs
        cases hs
        exact call_sortedD hc pins s σ H _ us Q I r ⟨p, us2, zs, rfl, hl, keyStrs_map e, hlt, fun zs' p' pm so hn => by
          rw [sort_of pm so]
          exact q p' _ _ hn rfl ⟨_, rfl, strs_new _⟩⟩
      · rw [if_neg hlt] at hs; cases hs
  | _ => cases hs
theorem dput_relK {K : PySem.W.Frag} {H : Hp} {F : List Addr} {q : Key} {x : D} {v : V} (hv : IsD K cad H F x v) : ∀ {us : List (Key × V)} {vs : List D}, IsDs K cad H F vs (us.map (·.2)) →
    ((putK us q v).map (·.1)) = (dput (us.map (·.1)) vs q x).1 ∧ IsDs K cad H F (dput (us.map (·.1)) vs q x).2 ((putK us q v).map (·.2)) := by
  intro us vs h
  unfold putK dput
  have e1 : ((us.map (·.1)).any fun k => decide (k = q)) = (us.any fun kv => decide (kv.1 = q)) := by
    rw [List.any_map]; rfl
  rw [e1]
  by_cases hc : (us.any fun kv => decide (kv.1 = q)) = true
  · rw [if_pos hc, if_pos hc]
    refine ⟨?_, ?_⟩
    · rw [List.map_map]
      apply List.map_congr_left
      intro p _
      show (if p.1 = q then (p.1, v) else p).1 = p.1
      by_cases z : p.1 = q
      · rw [if_pos z]
      · rw [if_neg z]
    · clear hc e1
      induction us generalizing vs with
      | nil =>
        cases vs with
        | nil => exact rfl
        | cons _ _ => obtain ⟨_, _, e, _⟩ := h; cases e
      | cons p us ih =>
        cases vs with
        | nil => cases (show p.2 :: us.map (·.2) = [] from h)
        | cons d vs =>
          obtain ⟨y, r, e, i1, i2⟩ := h
          cases e
          refine ⟨_, _, rfl, ?_, ih i2⟩
          show IsD K cad H F (if p.1 = q then x else d) (if p.1 = q then (p.1, v) else p).2
          by_cases z : p.1 = q
          · rw [if_pos z, if_pos z]; exact hv
          · rw [if_neg z, if_neg z]; exact i1
  · rw [if_neg hc, if_neg hc]
    exact ⟨by rw [List.map_append]; rfl, by rw [List.map_append]; exact h.app (IsDs.one hv)⟩
theorem dmerge_rel {K : PySem.W.Frag} {H : Hp} {F : List Addr} : ∀ (ps : List (Key × D)) (kvs : List (Key × V)) (us : List (Key × V)) (vs : List D), ps.map (·.1) = kvs.map (·.1) → IsDs K cad H F (ps.map (·.2)) (kvs.map (·.2)) → IsDs K cad H F vs (us.map (·.2)) →
    ((mergeK us kvs).map (·.1)) = (dmerge (us.map (·.1)) vs ps).1 ∧ IsDs K cad H F (dmerge (us.map (·.1)) vs ps).2 ((mergeK us kvs).map (·.2))
  | [], [], us, vs, _, _, h => ⟨rfl, h⟩
  | [], _ :: _, us, vs, e, _, h => by cases e
  | _ :: _, [], us, vs, e, _, h => by cases e
  | (k, d) :: ps, (k', v) :: kvs, us, vs, e, h1, h => by
    obtain ⟨y, r, e2, i1, i2⟩ := h1
    cases e2
    rw [List.map_cons, List.map_cons] at e
    have ek : k = k' := (List.cons.inj e).1
    subst ek
    have e : ps.map (·.1) = kvs.map (·.1) := (List.cons.inj e).2
    obtain ⟨q1, q2⟩ := dput_relK (q := k) i1 h
    have z := dmerge_rel ps kvs (putK us k v) (dput (us.map (·.1)) vs k d).2 e i2 q2
    show ((mergeK (putK us k v) kvs).map (·.1)) = (dmerge (dput (us.map (·.1)) vs k d).1 (dput (us.map (·.1)) vs k d).2 ps).1 ∧ _
    rw [q1] at z
    exact z
theorem pairsOf_rel {K : PySem.W.Frag} {H : Hp} {F : List Addr} : ∀ {ds : List D} {vs : List V} {ps : List (Key × D)}, IsDs K cad H F ds vs → pairsOf ds = some ps → ∃ (as : List Addr) (kvs : List (Key × V)), vs = as.map V.ref ∧ Paired (fun p kv => SqT K H p [kV kv.1, kv.2]) as kvs ∧ ps.map (·.1) = kvs.map (·.1) ∧ IsDs K cad H F (ps.map (·.2)) (kvs.map (·.2))
  | [], vs, ps, h, e => by
    cases (show vs = [] from h)
    cases e
    exact ⟨[], [], rfl, .nil, rfl, rfl⟩
  | d :: ds, vs, ps, h, e => by
    obtain ⟨x, r, rfl, h1, h2⟩ := h
    unfold pairsOf at e
    split at e
    · cases (show _ = [] from by assumption)
    · rename_i k v r' heq
      cases heq
      cases e1 : keyOf k with
      | none => rw [e1] at e; cases e
      | some q =>
        cases e2 : pairsOf ds with
        | none => rw [e1, e2] at e; cases e
        | some ps2 =>
          rw [e1, e2] at e
          cases e
          obtain ⟨a, zs, rfl, ht, y1, r1, rfl, i1, y2, r2, rfl, i2, i3⟩ := h1
          cases (show r2 = [] from i3)
          have ek := key_pk (cad := cad) i1.pk e1
          subst ek
          obtain ⟨as, kvs, rfl, q1, q2, q3⟩ := pairsOf_rel h2 e2
          exact ⟨a :: as, (q, y2) :: kvs, rfl, .cons ht.sq q1, by rw [List.map_cons, List.map_cons, q2], y2, _, rfl, i2, q3⟩
    · cases e
theorem call_dictN (hc : X.calm = true) : CallR X (.type "dict") (rN X.K cad sub .dictOf) := by
  intro pins s σ H xs us Q I r ⟨F, ds, d, hF, hp, hs, q⟩
  obtain ⟨x, da, rfl, h1, hs⟩ := un1 hp hs (fun _ _ => rfl) (fun _ _ _ => rfl)
  have hs : dictOfD da = some d := hs
  cases da with
  | lst a =>
    obtain ⟨p, ys, rfl, hl, hy⟩ := h1
    have hs : (match pairsOf a with | some ps => some (D.dct (dmerge [] [] ps).1 (dmerge [] [] ps).2) | none => none) = some d := hs
    cases e : pairsOf a with
    | none => rw [e] at hs; cases hs
    | some ps =>
      rw [e] at hs
      cases hs
      obtain ⟨as, kvs, rfl, q1, q2, q3⟩ := pairsOf_rel hy e
      refine call_dictP hc pins s σ H _ us Q I r ⟨p, as, kvs, rfl, hl, q1, fun p' hn => ?_⟩
      obtain ⟨z1, z2⟩ := dmerge_rel ps kvs [] [] q2 q3 rfl
      exact q p' _ _ hn rfl ⟨_, rfl, z1, z2⟩
  | dct ks vs =>
    obtain ⟨p, us2, rfl, hl, rfl, hy⟩ := h1
    cases hs
    exact call_dictD pins s σ H _ us Q I r ⟨p, us2, rfl, hl, fun p' hn => q p' _ _ hn rfl ⟨_, rfl, rfl, hy⟩⟩
  | _ => cases hs
theorem ext_lists (l : Addr) (xs : Array Value) (n : Nat) (b : Addr) (ys : Array Value) (n2 : Nat) (sl : Array (Option Value)) (hlong : ¬(!xs.isEmpty && Builtin.List.listTooLong (xs.size + ys.size)) = true) (hx : xs.size ≤ sizeLine) (hxy : xs.size + ys.size ≤ sizeLine + 1) :
    Meets (Builtin.«list.extend» ⟨[.ref l, .ref b], []⟩) (fun _ R s => s.heap.get? l = some { cls := .type "list", dict := none, data := .seq xs n, slots := #[] } ∧ s.heap.get? b = some { cls := .type "list", dict := none, data := .seq ys n2, slots := sl } ∧ R (.ok (.ret Value.none)) { s with heap := s.heap.update l (Obj.mapSeq (· ++ ys)), toks := s.toks }) :=
  .of_wp fun P w A R s q => by
    obtain ⟨hp, g, d, tk, os⟩ := s
    obtain ⟨q1, q2, q3⟩ := q
    have i1 := AutoSeq1.idx_int
    have i2 := AutoSeq1.sub_tuple_tuple
    have i3 := AutoSeq1.sub_list_list
    have i4 := AutoSeq1.sub_tuple_list
    have i5 := AutoSeq1.sub_list_tuple
    have hh : (xs ++ ys).size ≤ sizeLine + 1 := by rw [Array.size_append]; exact hxy
    wp_walk using (wpAny_updateSeq q1 rfl (hz := hx) (_hz' := hh)), wpAny_loadPart' q1, wpAny_loadPart' q2
    exact ⟨_, rfl, q3⟩
theorem call_lstN : CallR X (.type "list") (rN X.K cad sub .lstOf) := by
  intro pins s σ H xs us Q I r ⟨F, ds, d, hF, hp, hs, q⟩
  obtain ⟨x, da, rfl, h1, hs⟩ := un1 hp hs (fun _ _ => rfl) (fun _ _ _ => rfl)
  have hs : lstD da = some d := hs
  cases da with
  | lst a =>
    cases (show some (D.lst a) = some d from hs)
    obtain ⟨p, ys, rfl, hl, hy⟩ := h1
    exact call_list_of pins s σ H _ us Q I r ⟨p, ys, rfl, .inl hl, fun l hl => q l _ _ hl rfl ⟨_, rfl, hy⟩⟩
  | tup a =>
    cases (show some (D.lst a) = some d from hs)
    obtain ⟨p, ys, rfl, hl, hy⟩ := h1
    exact call_list_of pins s σ H _ us Q I r ⟨p, ys, rfl, .inr hl.sq, fun l hl => q l _ _ hl rfl ⟨_, rfl, hy⟩⟩
  | _ => cases hs
theorem mt_updP : MtR X "dict.update" (fun x xs H Q => ∃ a b kvs more, x = .ref a ∧ xs = [.ref b] ∧ a ≠ b ∧ H a = some (.dK kvs) ∧ Rd H b (.dK more) ∧ kvs.length + more.length ≤ sizeLine ∧ Q .non (upd H a (.dK (mergeK kvs more)))) := by
  intro pins s σ H x xs v us Q I rx rxs ⟨a, b, kvs, more, ex, exs, hne, ea, eb, hl, q⟩
  subst ex exs
  cases rx
  have hus := Vals.ref1 rxs
  subst hus
  obtain ⟨z1, l1, vs1, r1, d1⟩ := dk_of I.hok ea
  obtain ⟨z2, l2, vs2, r2, d2⟩ := dk_rd I.hok eb
  refine call_meetsIn PySem.F.slot_dict_update d1.typeIs PySem.F.entry_dict_update (PySem.F.args_dict_update_2 _ _) (meets_dict_update (mixKind X.prog X.w) a b hne l2)
    ⟨vs1, vs2, d1, d2, by rw [← r1.length, ← r2.length]; exact hl, fun h' dd' _ hsb => ⟨.non, upd H a (.dK (mergeK kvs more)), ?_, rfl, q⟩⟩
  have he : ∃ q, h'.get? a = some q := let ⟨q, _, _, hq, _⟩ := dd'; ⟨q, hq⟩
  exact d_write I (by rw [ea]; exact True.intro) hsb he (dk_new (Nat.le_trans (length_mergeK more kvs) hl) l1 (KV.merge r2 r1) dd')
theorem mt_popP : MtR X "dict.pop" (fun x xs H Q => ∃ a kvs k v, x = .ref a ∧ xs = [kV k] ∧ H a = some (.dK kvs) ∧ valV kvs k = some v ∧ Q v (upd H a (.dK (dropK kvs k)))) := by
  intro pins s σ H x xs v us Q I rx rxs ⟨a, kvs, k, y, ex, exs, ea, ev, q⟩
  subst ex exs
  cases rx
  obtain ⟨u, rfl, ru⟩ := vals1 rxs
  exact d_pop I ea ru ev (.inl rfl) fun w' s' I' rw' => ⟨y, _, I', rw', q⟩
theorem ddrop_rel {K : PySem.W.Frag} {H : Hp} {F : List Addr} {q : Key} : ∀ {us : List (Key × V)} {vs : List D}, IsDs K cad H F vs (us.map (·.2)) →
    ((dropK us q).map (·.1)) = (ddrop (us.map (·.1)) vs q).1 ∧ IsDs K cad H F (ddrop (us.map (·.1)) vs q).2 ((dropK us q).map (·.2))
  | [], [], h => ⟨rfl, rfl⟩
  | [], _ :: _, h => by obtain ⟨_, _, e, _⟩ := h; cases e
  | p :: us, [], h => by cases (show p.2 :: us.map (·.2) = [] from h)
  | p :: us, d :: vs, h => by
    obtain ⟨y, r, e, i1, i2⟩ := h
    cases e
    obtain ⟨z1, z2⟩ := ddrop_rel (q := q) i2
    have ed : ddrop ((p :: us).map (·.1)) (d :: vs) q = if p.1 = q then ddrop (us.map (·.1)) vs q else (p.1 :: (ddrop (us.map (·.1)) vs q).1, d :: (ddrop (us.map (·.1)) vs q).2) := rfl
    rw [ed]
    unfold dropK at z1 z2 ⊢
    by_cases hc : p.1 = q
    · rw [if_pos hc, List.filter_cons_of_neg (by simp [hc])]
      exact ⟨z1, z2⟩
    · rw [if_neg hc, List.filter_cons_of_pos (by simp [hc])]
      exact ⟨by rw [List.map_cons, z1], _, _, rfl, i1, z2⟩
theorem mt_extP : MtR X "list.extend" (fun x xs H Q => ∃ l b ys zs, x = .ref l ∧ xs = [.ref b] ∧ H l = some (.lst ys) ∧ SqL X.K H b zs ∧ ys.length + zs.length ≤ sizeLine ∧ Q .non (upd H l (.lst (ys ++ zs)))) := by
  intro pins s σ H x xs v us Q I rx rxs ⟨l, b, ys, zs, ex, exs, el, eb, hz, q⟩
  subst ex exs
  cases rx
  have hus := Vals.ref1 rxs
  subst hus
  obtain ⟨z, its, n, r, hl, e⟩ := I.lstM el
  obtain ⟨its2, r2, ⟨o2, n2, e2, c2, d2, t2⟩, hl2⟩ := I.list eb
  obtain ⟨cls2, dd2, dt2, sl2⟩ := o2
  simp only at c2 d2 t2
  subst c2 d2 t2
  have hz' : its.length + its2.length ≤ sizeLine := by rw [← r.length, ← r2.length]; exact hz
  have hlong : ¬ (!its.toArray.isEmpty && Builtin.List.listTooLong (its.toArray.size + its2.toArray.size)) = true := by
    rw [notLongL (by rw [List.size_toArray, List.size_toArray]; exact hz'), Bool.and_false]
    exact fun z => nomatch z
  have hx : its.toArray.size ≤ sizeLine := by rw [List.size_toArray]; omega
  refine call_meets PySem.F.slot_list_extend ⟨_, e, rfl⟩ PySem.F.entry_list_extend (PySem.F.args_list_extend_2 _ _) (ext_lists l its.toArray n b its2.toArray n2 sl2 hlong hx (by rw [List.size_toArray, List.size_toArray]; omega)) ⟨e, e2, ?_⟩
  have hl' : (ys ++ zs).length ≤ sizeLine := by rw [List.length_append]; exact hz
  exact ⟨.non, _, I.lset (its' := its ++ its2) el e (by simp) (r.append r2) hl', rfl, q⟩
end
end PD
set_option Elab.async false
set_option linter.all false
set_option maxRecDepth 100000
set_option maxHeartbeats 4000000
namespace PD
open PySem PySem.Spec PyProof.Rows L2
def spOf (K : PySem.W.Frag) (cad : Nat → Addr) (f : List PD.W → List M → Rs PD.W) : Sp := fun vs H Q E => ∃ (ws : List PD.W) (cs : List M) (as : AS) (R : List Addr), Cells K cad as R H cs ∧ IsWs K cad as R H ws vs ∧
  Post K cad (rW K cad) (fun cls d _ H => E cls d H) [] as R H Q (f ws cs)
def visB (sc : Scope) (x : Str) : Bool := decide (sc.names.lookup x = some .local) || decide (sc.names.lookup x = some .cell) || decide (sc.names.lookup x = some .free)
def globB (sc : Scope) (x : Str) : Bool := decide (sc.names.lookup x = some .globalImplicit) && !(x == ("__debug__" : Str)) && !(x == ("__name__" : Str)) && !(x == ("__classdict__" : Str))
def constB : Const → D → Bool
  | .none, .non => true
  | .bool b, .bl c => b == c
  | .int i, .int j => decide (i = j)
  | .str x, .str y => decide (x = y)
  | _, _ => false
def binO : Operator → Option O
  | .Add => some .add | .Sub => some .sub | .Mult => some .mul | .FloorDiv => some .fdiv | .Mod => some .mod | .Pow => some .pow
  | _ => none
def cmpO : CmpOp → Option O
  | .Eq => some .eq | .NotEq => some .ne | .Lt => some .lt | .LtE => some .le | .Gt => some .gt | .GtE => some .ge
  | _ => none
def notSet : Expr → Bool
  | .Set _ _ _ => false
  | _ => true
def isNoneE : Expr → Bool
  | .Constant .none _ _ => true
  | _ => false
def boolE : Expr → Option Bool
  | .Constant (.bool b) _ _ => some b
  | _ => none
def bltO (x : Str) (n : Nat) : Option O :=
  if x = ("len" : Str) then (if n = 1 then some .len else none)
  else if x = ("abs" : Str) then (if n = 1 then some .abs else none)
  else if x = ("int" : Str) then (if n = 1 then some .int else none)
  else if x = ("str" : Str) then (if n = 1 then some .str else none)
  else if x = ("tuple" : Str) then (if n = 1 then some .tupOf else none)
  else if x = ("list" : Str) then (if n = 1 then some .lstOf else none)
  else if x = ("all" : Str) then (if n = 1 then some .all else none)
  else if x = ("any" : Str) then (if n = 1 then some .any else none)
  else if x = ("sum" : Str) then (if n = 1 then some .sum else none)
  else if x = ("sorted" : Str) then (if n = 1 then some .sorted else none)
  else if x = ("dict" : Str) then (if n = 1 then some .dictOf else none)
  else if x = ("divmod" : Str) then (if n = 2 then some .divmod else none)
  else if x = ("min" : Str) then (if n = 2 then some .min2 else none)
  else if x = ("max" : Str) then (if n = 2 then some .max2 else none)
  else none
def bmO (m : Str) (n : Nat) : Option O :=
  if m = ("startswith" : Str) then (if n = 1 then some .startswith else none)
  else if m = ("endswith" : Str) then (if n = 1 then some .endswith else none)
  else if m = ("partition" : Str) then (if n = 1 then some .partition else none)
  else if m = ("split" : Str) then (if n = 1 then some .split else none)
  else if m = ("join" : Str) then (if n = 1 then some .join else none)
  else if m = ("count" : Str) then (if n = 1 then some .count else none)
  else if m = ("get" : Str) then (if n = 1 then some .get1 else if n = 2 then some .get2 else none)
  else none
def notSlice : Expr → Bool
  | .Slice _ _ _ _ => false
  | _ => true
def notStar : Expr → Bool
  | .Starred _ _ => false
  | _ => true
def attrB : Expr → Bool
  | .Call (.Name _ _) [] [] _ => false
  | _ => true
end PD
set_option Elab.async false
set_option linter.all false
set_option maxRecDepth 100000
set_option maxHeartbeats 4000000
namespace PD
open PySem PySem.Spec PyProof.Rows L2
section
variable (G : Pg) (Φ : Nat → List PD.W → List M → Rs PD.W) (cad : Nat → Addr)
def SE (X : Cx) (d : E) (e : Expr) : Prop := ∀ W, Takes X W → PE X e (liftE X.K cad W (evE G Φ d))
def SA (X : Cx) (d : List E) (e : List Expr) : Prop := ∀ W, Takes X W → PA X e (liftA X.K cad W (evEs G Φ d))
def ST (X : Cx) (d : E) (e : Expr) : Prop := ∀ W, Takes X W → PT X e (liftT X.K cad W (evT G Φ d))
end
def opK (G : Pg) (o : O) (ws : List PD.W) (cs : List M) : Rs PD.W := match pks ws cs with
  | some ds => match sem G.isT o ds with
    | some d => .ok (.d d) cs
    | none => .stuck
  | none => .stuck
section
variable {G : Pg} {Φ : Nat → List PD.W → List M → Rs PD.W} {cad : Nat → Addr} {X : Cx} {K : PySem.W.Frag}
theorem ev_op1 (o : O) (a : E) (sl : Sl) (cs : List M) : evE G Φ (.op o [a]) sl cs = (evE G Φ a sl cs).bind fun x cs => opK G o [x] cs := by
  show (evEs G Φ [a] sl cs).bind _ = _
  show ((evE G Φ a sl cs).bind fun w cs => (Rs.ok [] cs).bind fun ws cs => Rs.ok (w :: ws) cs).bind _ = _
  cases evE G Φ a sl cs <;> rfl
theorem ev_op2 (o : O) (a b : E) (sl : Sl) (cs : List M) : evE G Φ (.op o [a, b]) sl cs = (evE G Φ a sl cs).bind fun x cs => (evE G Φ b sl cs).bind fun y cs => opK G o [x, y] cs := by
  show ((evE G Φ a sl cs).bind fun w cs => ((evE G Φ b sl cs).bind fun w cs => (Rs.ok [] cs).bind fun ws cs => Rs.ok (w :: ws) cs).bind fun ws cs => Rs.ok (w :: ws) cs).bind _ = _
  cases evE G Φ a sl cs with
  | ok x cs1 =>
    show (((evE G Φ b sl cs1).bind fun w cs => (Rs.ok [] cs).bind fun ws cs => Rs.ok (w :: ws) cs).bind fun ws cs => Rs.ok (x :: ws) cs).bind _ = _
    show _ = (evE G Φ b sl cs1).bind fun y cs => opK G o [x, y] cs
    cases evE G Φ b sl cs1 <;> rfl
  | _ => rfl
theorem Cells.hF {as : AS} {R : List Addr} {H : Hp} {cs : List M} (c : Cells K cad as R H cs) : ∀ a ∈ Av as R, ∃ u, H a = some u := fun a h => by
  rcases List.mem_append.mp h with h | h
  · exact live_there c h
  · exact c.rl a h
theorem Post.op {W : WX} {σ : L2.St} {as : AS} {R : List Addr} {H : Hp} {Q : VK} {o : O} {ws : List PD.W} {vs : List V} {cs : List M} (c : Cells K cad as R H cs) (h : IsWs K cad as R H ws vs)
    (p : Post K cad (rW K cad) W σ as R H Q (opK G o ws cs)) : rO K cad G.isT o vs H Q := by
  unfold opK at p
  cases e : pks ws cs with
  | none => rw [e] at p; exact p.elim
  | some ds =>
    rw [e] at p
    have p : Post K cad (rW K cad) W σ as R H Q (match sem G.isT o ds with | some d => .ok (.d d) cs | none => .stuck) := p
    cases e2 : sem G.isT o ds with
    | none => rw [e2] at p; exact p.elim
    | some d =>
      rw [e2] at p
      exact ⟨Av as R, ds, d, c.hF, h.pkDs c e, e2, fun v H' s i => p.data c s i⟩
theorem lift_ev {W : WX} {g g' : Sl → List M → Rs PD.W} (e : ∀ sl cs, g sl cs = g' sl cs) {σ : L2.St} {H : Hp} {Q : VK} (h : liftE K cad W g σ H Q) : liftE K cad W g' σ H Q := by
  obtain ⟨sl, cs, as, R, rel, p⟩ := h
  exact ⟨sl, cs, as, R, rel, by rw [← e]; exact p⟩
theorem lift_op2 {W : WX} {o : O} {a b : E} {σ : L2.St} {H : Hp} {Q : VK} (h : liftE K cad W (evE G Φ (.op o [a, b])) σ H Q) :
    liftE K cad W (evE G Φ a) σ H fun x H1 => liftE K cad W (evE G Φ b) σ H1 fun y H2 => r2O K cad G.isT o x y H2 Q := by
  refine lift_mono (lift_bind0 (IsA := rW K cad) (lift_ev (ev_op2 o a b) h)) fun x H1 ⟨sl, cs, as, R, wa, rel, iw, p⟩ => ?_
  refine lift_mono (lift_bind (IsA := rW K cad) (hs := [wa]) (vs := [x]) (g := evE G Φ b) (f := fun _ y cs => opK G o [wa, y] cs) ⟨sl, cs, as, R, rel, ⟨x, [], rfl, iw, rfl⟩, p⟩) fun y H2 ⟨sl, cs, as, R, wb, rel, ih, iw, p⟩ => ?_
  obtain ⟨x', r, e, ix, _⟩ := ih
  cases e
  exact p.op (ws := [wa, wb]) (vs := [x, y]) rel.cells ⟨x, [y], rfl, ix, y, [], rfl, iw, rfl⟩
theorem lift_op1 {W : WX} {o : O} {a : E} {σ : L2.St} {H : Hp} {Q : VK} (h : liftE K cad W (evE G Φ (.op o [a])) σ H Q) : liftE K cad W (evE G Φ a) σ H fun x H1 => r1O K cad G.isT o x H1 Q :=
  lift_mono (lift_bind0 (IsA := rW K cad) (lift_ev (ev_op1 o a) h)) fun x H1 ⟨sl, cs, as, R, wa, rel, iw, p⟩ => p.op (ws := [wa]) (vs := [x]) rel.cells ⟨x, [], rfl, iw, rfl⟩
variable {e a b c t : Expr} {da db dc dt : E} {es : List Expr} {ds : List E} {pos : Pos}
theorem r_const {k : Const} {j : Nat} {d : D} (h : constB k d = true) : SE G Φ cad X (.c d) (.Constant k j pos) := fun W tk => by
  have fin : ∀ {v : V}, (∀ H F, IsD X.K cad H F d v) → ∀ σ H Q, liftE X.K cad W (evE G Φ (.c d)) σ H Q → tC v σ H Q := fun hi σ H Q ⟨sl, cs, as, R, rel, p⟩ =>
    Post.data rel.cells p (Same.refl H) (hi H _)
  cases k with
  | none =>
    cases d with
    | non => exact pe_non.imp (fin fun _ _ => rfl)
    | _ => cases h
  | bool b =>
    cases d with
    | bl c =>
      have e : b = c := eq_of_beq h
      subst e
      exact pe_bl.imp (fin fun _ _ => rfl)
    | _ => cases h
  | int b =>
    cases d with
    | int c =>
      have e : b = c := of_decide_eq_true h
      subst e
      exact pe_int.imp (fin fun _ _ => rfl)
    | _ => cases h
  | str b =>
    cases d with
    | str c =>
      have e : b = c := of_decide_eq_true h
      subst e
      exact pe_str.imp (fin fun _ _ => rfl)
    | _ => cases h
  | _ => cases d <;> cases h
theorem r_dnil : SE G Φ cad X (.c (.dct [] [])) (.Dict [] [] pos) := fun W tk => pe_dnewK.imp fun σ H Q ⟨sl, cs, as, R, rel, p⟩ q hq =>
  Post.data rel.cells p (same_upd hq) ⟨q, [], rfl, fresh_av rel.cells.hF hq, .inl upd_same, rfl, rfl⟩
theorem r_dnewC : SE G Φ cad X (.opC .dnew [.c (.dct [] [])]) (.Dict [] [] pos) := fun W tk => pe_dnewK.imp fun σ H Q ⟨sl, cs, as, R, rel, p⟩ q hq => by
  have p : Post X.K cad (rW X.K cad) W σ as R H Q (.ok (PD.W.c cs.length) (cs ++ [.dct [] []])) := p
  obtain ⟨c2, x2, i2⟩ := rel.cells.push (m := .dct [] []) hq ⟨[], upd_same, rfl, rfl⟩
  exact p _ _ _ x2 c2 i2
theorem r_var {x : Str} {i : Nat} (hN : X.N[i]? = some x) (hv : Vis X.env.scope x) (hd : (x == ("__debug__" : Str)) = false) (hcd : (x == ("__classdict__" : Str)) = false) : SE G Φ cad X (.v i) (.Name x pos) := fun W tk => by
  refine (pe_var hN hv hd hcd).imp fun σ H Q ⟨sl, cs, as, R, rel, p⟩ => ?_
  have p : Post X.K cad (rW X.K cad) W σ as R H Q (match sl[i]? with | some (some w) => .ok w cs | _ => .stuck) := p
  cases q : sl[i]? with
  | none => rw [q] at p; exact p.elim
  | some o =>
    cases o with
    | none => rw [q] at p; exact p.elim
    | some w =>
      rw [q] at p
      obtain ⟨v, e1, iw⟩ := rel.sl i w q
      exact ⟨v, e1, p v H as Ext.refl rel.cells iw⟩
theorem r_bin {op : Operator} {o : O} (ho : OpR X (binaryOp op) (r2O X.K cad G.isT o)) (ha : SE G Φ cad X da a) (hb : SE G Φ cad X db b) : SE G Φ cad X (.op o [da, db]) (.BinOp a op b pos) := fun W tk =>
  (pe_op ho (ha W tk) (hb W tk)).imp fun σ H Q h => lift_op2 h
theorem r_cmp {op : CmpOp} {o : O} (ho : OpR X (compareOp op) (r2O X.K cad G.isT o)) (ha : SE G Φ cad X da a) (hb : SE G Φ cad X db b) (hm : behindInMarks op b = false) : SE G Φ cad X (.op o [da, db]) (.Compare a [op] [b] pos) := fun W tk =>
  (pe_cmpR ho (ha W tk) (hb W tk) hm).imp fun σ H Q h => lift_op2 h
theorem r_un {op : UnaryOp} {o : O} (ho : UnR X (unaryOp op) (r1O X.K cad G.isT o)) (ha : SE G Φ cad X da a) : SE G Φ cad X (.op o [da]) (.UnaryOp op a pos) := fun W tk =>
  (pe_un ho (ha W tk)).imp fun σ H Q h => lift_op1 h
theorem r_isN {op : CmpOp} {o : O} (ho : OpR X (compareOp op) (fun x y H Q => y = .non ∧ r1O X.K cad G.isT o x H Q)) (ha : SE G Φ cad X da a) {j : Nat} {p2 : Pos} (hm : behindInMarks op (.Constant .none j p2) = false) : SE G Φ cad X (.op o [da]) (.Compare a [op] [.Constant .none j p2] pos) := fun W tk =>
  (pe_cmpR ho (ha W tk) pe_non hm).imp fun σ H Q h => lift_mono (lift_op1 h) fun x H1 q => ⟨rfl, q⟩
theorem r_isB {b : Bool} {op : CmpOp} {o : O} (ho : OpR X (compareOp op) (fun x y H Q => y = .bl b ∧ r1O X.K cad G.isT o x H Q)) (ha : SE G Φ cad X da a) {j : Nat} {p2 : Pos} (hm : behindInMarks op (.Constant (.bool b) j p2) = false) : SE G Φ cad X (.op o [da]) (.Compare a [op] [.Constant (.bool b) j p2] pos) := fun W tk =>
  (pe_cmpR ho (ha W tk) pe_bl hm).imp fun σ H Q h => lift_mono (lift_op1 h) fun x H1 q => ⟨rfl, q⟩
theorem r_rev {k : Nat} {p1 p2 p3 : Pos} (ha : SE G Φ cad X da a) : SE G Φ cad X (.op .rev [da]) (.Subscript a (.Slice none none (some (.UnaryOp .USub (.Constant (.int 1) k p1) p2)) p3) pos) := fun W tk =>
  (pe_revA (ha W tk)).imp fun σ H Q h => lift_mono (lift_op1 h) fun x H1 ⟨F, ds, d, hF, hp, hs, q⟩ => by
    obtain ⟨da, rfl, h1⟩ := pk1 hp
    cases da <;> try (exact absurd (show none = some d from hs) (by simp))
    case lst xs =>
      cases (show some (D.lst xs.reverse) = some d from hs)
      obtain ⟨p, ys, rfl, hl, hy⟩ := h1
      exact ⟨p, ys, rfl, .inl ⟨hl, fun r hr => q _ _ (same_upd hr) (new_lst hF hr hy.rev)⟩⟩
    case tup xs =>
      cases (show some (D.tup xs.reverse) = some d from hs)
      obtain ⟨p, ys, rfl, hl, hy⟩ := h1
      exact ⟨p, ys, rfl, .inr ⟨hl.sq, fun r hr => q _ _ (same_upd hr) (new_tup hF hr hy.rev)⟩⟩
theorem r_ix (ho : IxR X (r2O X.K cad G.isT .ix)) (ha : SE G Φ cad X da a) (hb : SE G Φ cad X db b) (hs : PlainIx b) : SE G Φ cad X (.op .ix [da, db]) (.Subscript a b pos) := fun W tk =>
  (pe_ix ho (ha W tk) (hb W tk) hs).imp fun σ H Q h => lift_op2 h
theorem Post.sl {W : WX} {σ : L2.St} {as : AS} {R : List Addr} {H : Hp} {Q : VK} {w : PD.W} {x : V} {cs : List M} {lo hi : Option Int} (c : Cells K cad as R H cs) (h : IsW K cad as R H w x)
    (p : Post K cad (rW K cad) W σ as R H Q (Rs.ofO (((pk w cs).bind fun d => slD d lo hi).map PD.W.d) cs)) : rSlP K cad x lo hi H Q := by
  cases e : pk w cs with
  | none => rw [e] at p; exact p.elim
  | some d =>
    rw [e] at p
    have p : Post K cad (rW K cad) W σ as R H Q (Rs.ofO ((slD d lo hi).map PD.W.d) cs) := p
    cases e2 : slD d lo hi with
    | none => rw [e2] at p; exact p.elim
    | some d' =>
      rw [e2] at p
      exact ⟨Av as R, d, d', c.hF, h.pkD c e, e2, fun v H' s i => Post.data c p s i⟩
theorem IsW.int {as : AS} {R : List Addr} {H : Hp} {i : Int} {x : V} (h : IsW K cad as R H (.d (.int i)) x) : x = .int i := h
theorem r_slL {p2 : Pos} (ha : SE G Φ cad X da a) (hb : SE G Φ cad X db b) : SE G Φ cad X (.slL da db) (.Subscript a (.Slice (some b) none none p2) pos) := fun W tk =>
  (pe_slice sl_P (ha W tk) (po_some (hb W tk)) po_none).imp fun σ H Q h => by
    refine lift_mono (lift_bind0 (IsA := rW X.K cad) (IsB := rW X.K cad) (g := evE G Φ da) (f := fun sl w cs => (evE G Φ db sl cs).bind fun l cs => match l with
      | .d (.int i) => Rs.ofO (((pk w cs).bind fun d => slD d (some i) none).map PD.W.d) cs
      | _ => .stuck) h) fun x H1 ⟨sl, cs, as, R, wa, rel, iw, p⟩ => ?_
    refine lift_mono (lift_bind (IsA := rW X.K cad) (IsB := rW X.K cad) (hs := [wa]) (vs := [x]) (g := evE G Φ db) (f := fun _ l cs => match l with
      | .d (.int i) => Rs.ofO (((pk wa cs).bind fun d => slD d (some i) none).map PD.W.d) cs
      | _ => .stuck) ⟨sl, cs, as, R, rel, ⟨x, [], rfl, iw, rfl⟩, p⟩) fun y H2 ⟨sl, cs, as, R, wb, rel, ih, iy, p⟩ => ?_
    obtain ⟨x', r, e, ix, _⟩ := ih
    cases e
    match wb, iy, p with
    | .d (.int i), iy, p => exact ⟨i, iy, Post.sl rel.cells ix p⟩
    | .d .non, _, p => exact p.elim
    | .d (.bl _), _, p => exact p.elim
    | .d (.str _), _, p => exact p.elim
    | .d (.tup _), _, p => exact p.elim
    | .d (.lst _), _, p => exact p.elim
    | .d (.dct _ _), _, p => exact p.elim
    | .d (.obj _ _ _), _, p => exact p.elim
    | .d (.exc _ _ _), _, p => exact p.elim
    | .c _, _, p => exact p.elim
theorem r_slH {p2 : Pos} (ha : SE G Φ cad X da a) (hb : SE G Φ cad X db b) : SE G Φ cad X (.slH da db) (.Subscript a (.Slice none (some b) none p2) pos) := fun W tk =>
  (pe_slice sl_P (ha W tk) po_none (po_some (hb W tk))).imp fun σ H Q h => by
    refine lift_mono (lift_bind0 (IsA := rW X.K cad) (IsB := rW X.K cad) (g := evE G Φ da) (f := fun sl w cs => (evE G Φ db sl cs).bind fun l cs => match l with
      | .d (.int i) => Rs.ofO (((pk w cs).bind fun d => slD d none (some i)).map PD.W.d) cs
      | _ => .stuck) h) fun x H1 ⟨sl, cs, as, R, wa, rel, iw, p⟩ => ?_
    refine lift_mono (lift_bind (IsA := rW X.K cad) (IsB := rW X.K cad) (hs := [wa]) (vs := [x]) (g := evE G Φ db) (f := fun _ l cs => match l with
      | .d (.int i) => Rs.ofO (((pk wa cs).bind fun d => slD d none (some i)).map PD.W.d) cs
      | _ => .stuck) ⟨sl, cs, as, R, rel, ⟨x, [], rfl, iw, rfl⟩, p⟩) fun y H2 ⟨sl, cs, as, R, wb, rel, ih, iy, p⟩ => ?_
    obtain ⟨x', r, e, ix, _⟩ := ih
    cases e
    match wb, iy, p with
    | .d (.int i), iy, p => exact ⟨i, iy, Post.sl rel.cells ix p⟩
    | .d .non, _, p => exact p.elim
    | .d (.bl _), _, p => exact p.elim
    | .d (.str _), _, p => exact p.elim
    | .d (.tup _), _, p => exact p.elim
    | .d (.lst _), _, p => exact p.elim
    | .d (.dct _ _), _, p => exact p.elim
    | .d (.obj _ _ _), _, p => exact p.elim
    | .d (.exc _ _ _), _, p => exact p.elim
    | .c _, _, p => exact p.elim
theorem r_sl2 {p2 : Pos} (ha : SE G Φ cad X da a) (hb : SE G Φ cad X db b) (hc : SE G Φ cad X dc c) : SE G Φ cad X (.sl2 da db dc) (.Subscript a (.Slice (some b) (some c) none p2) pos) := fun W tk =>
  (pe_slice sl_P (ha W tk) (po_some (hb W tk)) (po_some (hc W tk))).imp fun σ H Q h => by
    refine lift_mono (lift_bind0 (IsA := rW X.K cad) (IsB := rW X.K cad) (g := evE G Φ da) (f := fun sl w cs => (evE G Φ db sl cs).bind fun l cs => match l with
      | .d (.int i) => (evE G Φ dc sl cs).bind fun h cs => (match h with
        | .d (.int j) => Rs.ofO (((pk w cs).bind fun d => slD d (some i) (some j)).map PD.W.d) cs
        | _ => .stuck)
      | _ => .stuck) h) fun x H1 ⟨sl, cs, as, R, wa, rel, iw, p⟩ => ?_
    refine lift_mono (lift_bind (IsA := rW X.K cad) (IsB := rW X.K cad) (hs := [wa]) (vs := [x]) (g := evE G Φ db) (f := fun sl l cs => match l with
      | .d (.int i) => (evE G Φ dc sl cs).bind fun h cs => (match h with
        | .d (.int j) => Rs.ofO (((pk wa cs).bind fun d => slD d (some i) (some j)).map PD.W.d) cs
        | _ => .stuck)
      | _ => .stuck) ⟨sl, cs, as, R, rel, ⟨x, [], rfl, iw, rfl⟩, p⟩) fun y H2 ⟨sl, cs, as, R, wb, rel, ih, iy, p⟩ => ?_
    match wb, iy, p with
    | .d (.int i), iy, p =>
      refine ⟨i, iy, lift_mono (lift_bind (IsA := rW X.K cad) (IsB := rW X.K cad) (hs := [wa]) (vs := [x]) (g := evE G Φ dc) (f := fun _ h cs => match h with
        | .d (.int j) => Rs.ofO (((pk wa cs).bind fun d => slD d (some i) (some j)).map PD.W.d) cs
        | _ => .stuck) ⟨sl, cs, as, R, rel, ih, p⟩) fun z H3 ⟨sl, cs, as, R, wc, rel, ih, iz, p⟩ => ?_⟩
      obtain ⟨x', r, e, ix, _⟩ := ih
      cases e
      match wc, iz, p with
      | .d (.int j), iz, p => exact ⟨j, iz, Post.sl rel.cells ix p⟩
      | .d .non, _, p => exact p.elim
      | .d (.bl _), _, p => exact p.elim
      | .d (.str _), _, p => exact p.elim
      | .d (.tup _), _, p => exact p.elim
      | .d (.lst _), _, p => exact p.elim
      | .d (.dct _ _), _, p => exact p.elim
      | .d (.obj _ _ _), _, p => exact p.elim
      | .d (.exc _ _ _), _, p => exact p.elim
      | .c _, _, p => exact p.elim
    | .d .non, _, p => exact p.elim
    | .d (.bl _), _, p => exact p.elim
    | .d (.str _), _, p => exact p.elim
    | .d (.tup _), _, p => exact p.elim
    | .d (.lst _), _, p => exact p.elim
    | .d (.dct _ _), _, p => exact p.elim
    | .d (.obj _ _ _), _, p => exact p.elim
    | .d (.exc _ _ _), _, p => exact p.elim
    | .c _, _, p => exact p.elim
theorem r_nil : SA G Φ cad X [] [] := fun W tk => pa_nil.imp fun σ H Q ⟨sl, cs, as, R, rel, p⟩ => (show Post X.K cad (rWs X.K cad) W σ as R H Q (.ok [] cs) from p) [] H as Ext.refl rel.cells rfl
theorem star_of (h : notStar e = true) : starEach (e :: es) X.env = (false, eval e X.env) :: starEach es X.env := by
  cases e <;> first | rfl | cases h
theorem r_cons (hs : notStar e = true) (ha : SE G Φ cad X da e) (hb : SA G Φ cad X ds es) : SA G Φ cad X (da :: ds) (e :: es) := fun W tk =>
  (pa_cons (ha W tk) (hb W tk) (star_of hs)).imp fun σ H Q h => by
    refine lift_mono (lift_bind0 (IsA := rW X.K cad) (IsB := rWs X.K cad) (g := evE G Φ da) (f := fun sl w cs => (evEs G Φ ds sl cs).bind fun ws cs => .ok (w :: ws) cs) h) fun x H1 ⟨sl, cs, as, R, wa, rel, iw, p⟩ => ?_
    refine lift_mono (lift_bind (IsA := rWs X.K cad) (IsB := rWs X.K cad) (hs := [wa]) (vs := [x]) (g := evEs G Φ ds) (f := fun _ ws cs => .ok (wa :: ws) cs) ⟨sl, cs, as, R, rel, ⟨x, [], rfl, iw, rfl⟩, p⟩) fun y H2 ⟨sl, cs, as, R, wb, rel, ih, iy, p⟩ => ?_
    obtain ⟨x', r, e, ix, _⟩ := ih
    cases e
    exact p _ H2 as Ext.refl rel.cells ⟨_, _, rfl, ix, iy⟩
theorem r_tup {k : Nat} (h : SA G Φ cad X ds es) : SE G Φ cad X (.tup ds) (.Tuple es k pos) := fun W tk =>
  (pe_tup (h W tk)).imp fun σ H Q h => by
    refine lift_mono (lift_bind0 (IsA := rWs X.K cad) (IsB := rW X.K cad) (g := evEs G Φ ds) (f := fun _ ws cs => match dats ws with
      | some ds => if ds.length ≤ LIM then .ok (PD.W.d (.tup ds)) cs else .stuck
      | none => .stuck) h) fun xs H1 ⟨sl, cs, as, R, ws, rel, iw, p⟩ => ?_
    cases e : dats ws with
    | none => simp only [e] at p; exact p.elim
    | some dd =>
      simp only [e] at p
      have idd := iw.dats e
      by_cases hl : dd.length ≤ LIM
      · rw [if_pos hl] at p
        exact ⟨by rw [← lim_eq, ← idd.length]; exact hl, fun q hq => Post.data rel.cells p (same_upd hq) (new_tup rel.cells.hF hq idd)⟩
      · rw [if_neg hl] at p; exact p.elim
theorem r_lst (h : SA G Φ cad X ds es) : SE G Φ cad X (.lst ds) (.List es pos) := fun W tk =>
  (pe_lst (h W tk)).imp fun σ H Q h => by
    refine lift_mono (lift_bind0 (IsA := rWs X.K cad) (IsB := rW X.K cad) (g := evEs G Φ ds) (f := fun _ ws cs => match dats ws with
      | some ds => if ds.length ≤ LIM then .ok (PD.W.d (.lst ds)) cs else .stuck
      | none => .stuck) h) fun xs H1 ⟨sl, cs, as, R, ws, rel, iw, p⟩ => ?_
    cases e : dats ws with
    | none => simp only [e] at p; exact p.elim
    | some dd =>
      simp only [e] at p
      have idd := iw.dats e
      by_cases hl : dd.length ≤ LIM
      · rw [if_pos hl] at p
        exact ⟨by rw [← lim_eq, ← idd.length]; exact hl, fun q hq => Post.data rel.cells p (same_upd hq) (new_lst rel.cells.hF hq idd)⟩
      · rw [if_neg hl] at p; exact p.elim
theorem Kp.upd_new {as : AS} {R : List Addr} {H : Hp} {p : Addr} {o : HO} (hp : H p = none) : Kp H (Av as R) (upd H p o) (Av (as ++ [some p]) R) := ⟨fun a u h _ => same_upd hp a u h, fun a h => by
  rcases List.mem_append.mp h with h | h
  · obtain ⟨j, e⟩ := mem_live.mp h
    by_cases hj : j < as.length
    · rw [List.getElem?_append_left hj] at e
      exact .inl (List.mem_append_left _ (mem_live.mpr ⟨j, e⟩))
    · rw [List.getElem?_append_right (by omega)] at e
      have h0 : j - as.length = 0 := by
        have := (List.getElem?_eq_some_iff.mp e).1
        simp at this
        omega
      rw [h0] at e
      cases e
      exact .inr hp
  · exact .inl (List.mem_append_right _ h)⟩
theorem Cells.newLst {as : AS} {R : List Addr} {H : Hp} {cs : List M} {p : Addr} {xs : List V} {dd : List D} (c : Cells K cad as R H cs) (hp : H p = none) (i : IsDs K cad H (Av as R) dd xs) :
    Cells K cad (as ++ [some p]) R (upd H p (.lst xs)) (cs ++ [.lst dd]) ∧ Ext H as (upd H p (.lst xs)) (as ++ [some p]) ∧ IsW K cad (as ++ [some p]) R (upd H p (.lst xs)) (.c cs.length) (.ref p) :=
  c.push hp ⟨xs, upd_same, i.mono (Kp.upd_new hp)⟩
theorem r_mlst (h : SA G Φ cad X ds es) : SE G Φ cad X (.mlst ds) (.List es pos) := fun W tk =>
  (pe_lst (h W tk)).imp fun σ H Q h => by
    refine lift_mono (lift_bind0 (IsA := rWs X.K cad) (IsB := rW X.K cad) (g := evEs G Φ ds) (f := fun _ ws cs => match dats ws with
      | some ds => if ds.length ≤ LIM then .ok (PD.W.c cs.length) (cs ++ [.lst ds]) else .stuck
      | none => .stuck) h) fun xs H1 ⟨sl, cs, as, R, ws, rel, iw, p⟩ => ?_
    cases e : dats ws with
    | none => simp only [e] at p; exact p.elim
    | some dd =>
      simp only [e] at p
      have idd := iw.dats e
      by_cases hl : dd.length ≤ LIM
      · rw [if_pos hl] at p
        refine ⟨by rw [← lim_eq, ← idd.length]; exact hl, fun q hq => ?_⟩
        obtain ⟨c2, x2, i2⟩ := rel.cells.newLst hq idd
        exact p _ _ _ x2 c2 i2
      · rw [if_neg hl] at p; exact p.elim
end
end PD
set_option Elab.async false
set_option linter.all false
set_option maxRecDepth 100000
set_option maxHeartbeats 4000000
namespace PD
open PySem PySem.Spec PyProof.Rows L2
section
variable (G : Pg) (Φ : Nat → List PD.W → List M → Rs PD.W) (cad : Nat → Addr)
def SW (X : Cx) (d : E) (e : Expr) : Prop := ∀ W, Takes X W → PW X e (liftT X.K cad W (evT G Φ d))
end
section
variable {G : Pg} {Φ : Nat → List PD.W → List M → Rs PD.W} {cad : Nat → Addr} {X : Cx} {K : PySem.W.Frag}
variable {e a b c t : Expr} {da db dc dt : E} {es rest : List Expr} {ds : List E} {pos : Pos}
theorem lift_truth {W : WX} {d : E} {σ : L2.St} {H : Hp} {Q : Bool → Hp → Prop} (h : liftT K cad W (evT G Φ d) σ H Q) : liftE K cad W (evE G Φ d) σ H fun x H' => ∃ k, TruV K x H' k ∧ Q k H' :=
  lift_mono (lift_bind0 (IsA := rW K cad) (IsB := rB) (g := evE G Φ d) (f := fun _ w cs => Rs.ofO ((pk w cs).bind truth) cs) h) fun x H1 ⟨sl, cs, as, R, w, rel, iw, p⟩ => by
    cases e : pk w cs with
    | none => rw [e] at p; exact p.elim
    | some d =>
      rw [e] at p
      have p : Post K cad rB W σ as R H1 Q (Rs.ofO (truth d) cs) := p
      cases e2 : truth d with
      | none => rw [e2] at p; exact p.elim
      | some k =>
        rw [e2] at p
        exact ⟨k, truth_rel (iw.pkD rel.cells e) e2, p k H1 as Ext.refl rel.cells rfl⟩
theorem st_plain (ha : SE G Φ cad X da a) (he : ∀ whole, isTrue a X.env whole = (do let v ← whole; standAt a.pos; holding [v] (truthy v))) : ST G Φ cad X da a := fun W tk =>
  (pt_truth (ha W tk) he).imp fun σ H Q h => lift_truth h
theorem lift_tb {W : WX} {d : E} (hb : ∀ sl cs w cs', evE G Φ d sl cs = .ok w cs' → ∃ b, w = .d (.bl b)) {σ : L2.St} {H : Hp} {Q : Bool → Hp → Prop} (h : liftT K cad W (evT G Φ d) σ H Q) :
    liftE K cad W (evE G Φ d) σ H fun z H' => ∃ k, z = .bl k ∧ Q k H' := by
  obtain ⟨sl, cs, as, R, rel, p⟩ := h
  refine ⟨sl, cs, as, R, rel, ?_⟩
  have p : Post K cad rB W σ as R H Q ((evE G Φ d sl cs).bind fun w cs => Rs.ofO ((pk w cs).bind truth) cs) := p
  cases e : evE G Φ d sl cs with
  | ok w cs1 =>
    rw [e] at p
    obtain ⟨b, rfl⟩ := hb _ _ _ _ e
    exact fun v H1 as1 x c i => ⟨b, i, p b H1 as1 x c rfl⟩
  | ex C ks vs cs1 =>
    rw [e] at p
    exact p
  | stuck => rw [e] at p; exact p
def cmpBl : O → Bool
  | .eq => true | .ne => true | .lt => true | .le => true | .gt => true | .ge => true | .in_ => true | .notin => true | .isN => true | .notN => true | .isB _ => true | .ntB _ => true
  | _ => false
theorem bl1 {sub : Nat → Nat → Option Bool} {o : O} (ho : cmpBl o = true) {a d : D} (h : sem1 sub o a = some d) : ∃ b, d = .bl b := by
  cases o <;> first | (cases ho; done) | (cases h; done) | (cases h; exact ⟨_, rfl⟩) | (cases a <;> first | (cases h; done) | (cases h; exact ⟨_, rfl⟩))
theorem bl2 {o : O} (ho : cmpBl o = true) {a b d : D} (h : sem2 o a b = some d) : ∃ b, d = .bl b := by
  have ite : ∀ {c : Bool} {x : Bool}, (if c = true then some (D.bl x) else none) = some d → ∃ b, d = .bl b := fun {c x} h => by
    cases c with
    | true => cases h; exact ⟨_, rfl⟩
    | false => cases h
  have omap : ∀ {o : Option Bool} {f : Bool → Bool}, (o.map fun c => D.bl (f c)) = some d → ∃ b, d = .bl b := fun {o f} h => by
    cases o with
    | none => cases h
    | some c => cases h; exact ⟨_, rfl⟩
  have ar : ∀ {o : O}, o = .le ∨ o = .gt ∨ o = .ge → arD o a b = some d → ∃ b, d = .bl b := fun {o} ho h => by
    cases a <;> cases b <;> first | (cases h; done) | (rcases ho with rfl | rfl | rfl <;> (cases h; exact ⟨_, rfl⟩))
  have ite2 : ∀ {c : Bool} {x : Bool} {y : Option D}, (∀ d, y = some d → ∃ b, d = .bl b) → (if c = true then some (D.bl x) else y) = some d → ∃ b, d = .bl b := fun {c x y} hy h => by
    cases c with
    | true => cases h; exact ⟨_, rfl⟩
    | false => exact hy d h
  cases o with
  | eq => exact ite2 (fun d h => by cases e : eqDct a b with | none => rw [e] at h; cases h | some c => rw [e] at h; cases h; exact ⟨_, rfl⟩) h
  | ne => exact ite2 (fun d h => by cases e : eqDct a b with | none => rw [e] at h; cases h | some c => rw [e] at h; cases h; exact ⟨_, rfl⟩) h
  | lt =>
    have h : ltD a b = some d := h
    cases a <;> cases b <;> first | (cases h; done) | (cases h; exact ⟨_, rfl⟩)
  | le => exact ar (.inl rfl) h
  | gt => exact ar (.inr (.inl rfl)) h
  | ge => exact ar (.inr (.inr rfl)) h
  | in_ => exact omap (f := id) h
  | notin => exact omap (f := not) h
  | isN => cases h
  | notN => cases h
  | isB _ => cases h
  | ntB _ => cases h
  | _ => cases ho
theorem blS {sub : Nat → Nat → Option Bool} {o : O} (ho : cmpBl o = true) {ds : List D} {d : D} (h : sem sub o ds = some d) : ∃ b, d = .bl b := by
  match ds, h with
  | [], h => cases h
  | [a], h => exact bl1 ho h
  | [a, b], h => exact bl2 ho h
  | [a, b, c], h => cases o <;> first | (cases ho; done) | (cases h; done)
  | _ :: _ :: _ :: _ :: _, h => cases h
theorem opK_bl {o : O} (ho : cmpBl o = true) {ws : List PD.W} {cs cs' : List M} {w : PD.W} (h : opK G o ws cs = .ok w cs') : ∃ b, w = .d (.bl b) := by
  unfold opK at h
  cases e : pks ws cs with
  | none => rw [e] at h; cases h
  | some dd =>
    rw [e] at h
    have h : (match sem G.isT o dd with | some d => Rs.ok (PD.W.d d) cs | none => .stuck) = .ok w cs' := h
    cases e2 : sem G.isT o dd with
    | none => rw [e2] at h; cases h
    | some d =>
      rw [e2] at h
      obtain ⟨b, rfl⟩ := blS ho e2
      cases h
      exact ⟨b, rfl⟩
theorem op_bl {o : O} (ho : cmpBl o = true) : ∀ sl cs w cs', evE G Φ (.op o ds) sl cs = .ok w cs' → ∃ b, w = .d (.bl b) := fun sl cs w cs' h => by
  have h : (evEs G Φ ds sl cs).bind (fun ws cs => opK G o ws cs) = .ok w cs' := h
  cases e : evEs G Φ ds sl cs with
  | ok ws cs1 => rw [e] at h; exact opK_bl ho h
  | ex _ _ _ _ => rw [e] at h; cases h
  | stuck => rw [e] at h; cases h
theorem t_cmp {op : CmpOp} {o : O} (hbl : cmpBl o = true) (ho : OpR X (compareOp op) (r2O X.K cad G.isT o)) (ha : SE G Φ cad X da a) (hb : SE G Φ cad X db b) (hm : behindInMarks op b = false) : ST G Φ cad X (.op o [da, db]) (.Compare a [op] [b] pos) := fun W tk =>
  (pt_cmpR ho (ha W tk) (hb W tk) hm).imp fun σ H Q h => lift_op2 (lift_tb (op_bl hbl) h)
theorem t_isN {op : CmpOp} {o : O} (hbl : cmpBl o = true) (ho : OpR X (compareOp op) (fun x y H Q => y = .non ∧ r1O X.K cad G.isT o x H Q)) (ha : SE G Φ cad X da a) {j : Nat} {p2 : Pos} (hm : behindInMarks op (.Constant .none j p2) = false) : ST G Φ cad X (.op o [da]) (.Compare a [op] [.Constant .none j p2] pos) := fun W tk =>
  (pt_cmpR ho (ha W tk) pe_non hm).imp fun σ H Q h => lift_mono (lift_op1 (lift_tb (op_bl hbl) h)) fun x H1 q => ⟨rfl, q⟩
theorem t_isB {b : Bool} {op : CmpOp} {o : O} (hbl : cmpBl o = true) (ho : OpR X (compareOp op) (fun x y H Q => y = .bl b ∧ r1O X.K cad G.isT o x H Q)) (ha : SE G Φ cad X da a) {j : Nat} {p2 : Pos} (hm : behindInMarks op (.Constant (.bool b) j p2) = false) : ST G Φ cad X (.op o [da]) (.Compare a [op] [.Constant (.bool b) j p2] pos) := fun W tk =>
  (pt_cmpR ho (ha W tk) pe_bl hm).imp fun σ H Q h => lift_mono (lift_op1 (lift_tb (op_bl hbl) h)) fun x H1 q => ⟨rfl, q⟩
theorem evN (a : E) (sl : Sl) (cs : List M) : evE G Φ (.not_ a) sl cs = (evT G Φ a sl cs).bind fun k cs => .ok (.d (.bl (!k))) cs := by
  show (evE G Φ a sl cs).bind _ = ((evE G Φ a sl cs).bind _).bind _
  cases evE G Φ a sl cs with
  | ok w cs1 =>
    show (match (pk w cs1).bind truth with | some b => Rs.ok (PD.W.d (.bl (!b))) cs1 | none => .stuck) = (Rs.ofO ((pk w cs1).bind truth) cs1).bind _
    cases (pk w cs1).bind truth <;> rfl
  | _ => rfl
theorem evTN (a : E) (sl : Sl) (cs : List M) : evT G Φ (.not_ a) sl cs = (evT G Φ a sl cs).bind fun k cs => .ok (!k) cs := by
  show (evE G Φ (.not_ a) sl cs).bind _ = _
  rw [evN]
  cases evT G Φ a sl cs <;> rfl
theorem lift_evG {α β : Type} {IsA : AS → List Addr → Hp → α → β → Prop} {W : WX} {g g' : Sl → List M → Rs α} (e : ∀ sl cs, g sl cs = g' sl cs) {σ : L2.St} {H : Hp} {Q : β → Hp → Prop} (h : liftR K cad IsA W g σ H Q) : liftR K cad IsA W g' σ H Q := by
  obtain ⟨sl, cs, as, R, rel, p⟩ := h
  exact ⟨sl, cs, as, R, rel, by rw [← e]; exact p⟩
theorem r_not (ha : SE G Φ cad X da a) : SE G Φ cad X (.not_ da) (.UnaryOp .Not a pos) := fun W tk =>
  (pe_notT (ha W tk)).imp fun σ H Q h => by
    have h2 := lift_bind0 (IsA := rB) (IsB := rW X.K cad) (g := evT G Φ da) (f := fun _ k cs => .ok (.d (.bl (!k))) cs) (lift_evG (evN da) h)
    refine lift_mono (lift_truth h2) fun x H1 ⟨k, ht, sl, cs, as, R, k', rel, e, p⟩ => ⟨k, ht, ?_⟩
    cases (show k' = k from e)
    exact Post.data rel.cells p (Same.refl H1) rfl
theorem t_not (ha : ST G Φ cad X da a) : ST G Φ cad X (.not_ da) (.UnaryOp .Not a pos) := fun W tk =>
  (pt_not (ha W tk)).imp fun σ H Q h => by
    refine lift_mono (lift_bind0 (IsA := rB) (IsB := rB) (g := evT G Φ da) (f := fun _ k cs => .ok (!k) cs) (lift_evG (evTN da) h)) fun k H1 ⟨sl, cs, as, R, k', rel, e, p⟩ => ?_
    cases (show k' = k from e)
    exact p _ H1 as Ext.refl rel.cells rfl
theorem evTA (a b : E) (sl : Sl) (cs : List M) : evT G Φ (.and_ a b) sl cs = (evT G Φ a sl cs).bind fun k cs => if k = true then evT G Φ b sl cs else .ok false cs := by
  show ((evE G Φ a sl cs).bind _).bind _ = ((evE G Φ a sl cs).bind _).bind _
  cases evE G Φ a sl cs with
  | ok w cs1 =>
    show (match (pk w cs1).bind truth with | some true => evE G Φ b sl cs1 | some false => .ok w cs1 | none => .stuck).bind _ = (Rs.ofO ((pk w cs1).bind truth) cs1).bind _
    cases e : (pk w cs1).bind truth with
    | none => rfl
    | some k =>
      cases k with
      | true => rfl
      | false =>
        show Rs.ofO ((pk w cs1).bind truth) cs1 = _
        rw [e]
        rfl
  | _ => rfl
theorem evTO (a b : E) (sl : Sl) (cs : List M) : evT G Φ (.or_ a b) sl cs = (evT G Φ a sl cs).bind fun k cs => if k = true then .ok true cs else evT G Φ b sl cs := by
  show ((evE G Φ a sl cs).bind _).bind _ = ((evE G Φ a sl cs).bind _).bind _
  cases evE G Φ a sl cs with
  | ok w cs1 =>
    show (match (pk w cs1).bind truth with | some true => Rs.ok w cs1 | some false => evE G Φ b sl cs1 | none => .stuck).bind _ = (Rs.ofO ((pk w cs1).bind truth) cs1).bind _
    cases e : (pk w cs1).bind truth with
    | none => rfl
    | some k =>
      cases k with
      | false => rfl
      | true =>
        show Rs.ofO ((pk w cs1).bind truth) cs1 = _
        rw [e]
        rfl
  | _ => rfl
theorem w_one {op : BoolOp} (ha : ST G Φ cad X da a) : SW G Φ cad X da (.BoolOp op [a] pos) := fun W tk => by
  cases op with
  | And => exact pw_and1 (ha W tk)
  | Or => exact pw_or1 (ha W tk)
theorem w_and (ha : ST G Φ cad X da a) (hb : SW G Φ cad X db (.BoolOp .And (b :: rest) pos)) : SW G Φ cad X (.and_ da db) (.BoolOp .And (a :: b :: rest) pos) := fun W tk =>
  (pw_and (ha W tk) (hb W tk)).imp fun σ H Q h => by
    refine lift_mono (lift_bind0 (IsA := rB) (IsB := rB) (g := evT G Φ da) (f := fun sl k cs => if k = true then evT G Φ db sl cs else .ok false cs) (lift_evG (evTA da db) h)) fun k H1 ⟨sl, cs, as, R, k', rel, e, p⟩ => ?_
    cases (show k' = k from e)
    cases k with
    | true => exact ⟨sl, cs, as, R, rel, p⟩
    | false => exact p false H1 as Ext.refl rel.cells rfl
theorem w_or (ha : ST G Φ cad X da a) (hb : SW G Φ cad X db (.BoolOp .Or (b :: rest) pos)) : SW G Φ cad X (.or_ da db) (.BoolOp .Or (a :: b :: rest) pos) := fun W tk =>
  (pw_or (ha W tk) (hb W tk)).imp fun σ H Q h => by
    refine lift_mono (lift_bind0 (IsA := rB) (IsB := rB) (g := evT G Φ da) (f := fun sl k cs => if k = true then .ok true cs else evT G Φ db sl cs) (lift_evG (evTO da db) h)) fun k H1 ⟨sl, cs, as, R, k', rel, e, p⟩ => ?_
    cases (show k' = k from e)
    cases k with
    | false => exact ⟨sl, cs, as, R, rel, p⟩
    | true => exact p true H1 as Ext.refl rel.cells rfl
theorem SW.pt (h : SW G Φ cad X da a) : ST G Φ cad X da a := fun W tk => (h W tk).pt
theorem r_one {op : BoolOp} (ha : SE G Φ cad X da a) : SE G Φ cad X da (.BoolOp op [a] pos) := fun W tk => pe_one (ha W tk)
theorem r_and (ha : SE G Φ cad X da a) (hb : SE G Φ cad X db (.BoolOp .And (b :: rest) pos)) : SE G Φ cad X (.and_ da db) (.BoolOp .And (a :: b :: rest) pos) := fun W tk =>
  (pe_andT (ha W tk) (hb W tk)).imp fun σ H Q h => by
    refine lift_mono (lift_bind0 (IsA := rW X.K cad) (IsB := rW X.K cad) (g := evE G Φ da) (f := fun sl w cs => match (pk w cs).bind truth with
      | some true => evE G Φ db sl cs
      | some false => .ok w cs
      | none => .stuck) h) fun x H1 ⟨sl, cs, as, R, w, rel, iw, p⟩ => ?_
    cases e : pk w cs with
    | none => simp only [e] at p; exact p.elim
    | some d =>
      cases e2 : truth d with
      | none => simp only [e, Option.bind_some, e2] at p; exact p.elim
      | some k =>
        simp only [e, Option.bind_some, e2] at p
        refine ⟨k, truth_rel (iw.pkD rel.cells e) e2, ?_⟩
        cases k with
        | true => exact ⟨sl, cs, as, R, rel, p⟩
        | false => exact p x H1 as Ext.refl rel.cells iw
theorem r_or (ha : SE G Φ cad X da a) (hb : SE G Φ cad X db (.BoolOp .Or (b :: rest) pos)) : SE G Φ cad X (.or_ da db) (.BoolOp .Or (a :: b :: rest) pos) := fun W tk =>
  (pe_orT (ha W tk) (hb W tk)).imp fun σ H Q h => by
    refine lift_mono (lift_bind0 (IsA := rW X.K cad) (IsB := rW X.K cad) (g := evE G Φ da) (f := fun sl w cs => match (pk w cs).bind truth with
      | some true => .ok w cs
      | some false => evE G Φ db sl cs
      | none => .stuck) h) fun x H1 ⟨sl, cs, as, R, w, rel, iw, p⟩ => ?_
    cases e : pk w cs with
    | none => simp only [e] at p; exact p.elim
    | some d =>
      cases e2 : truth d with
      | none => simp only [e, Option.bind_some, e2] at p; exact p.elim
      | some k =>
        simp only [e, Option.bind_some, e2] at p
        refine ⟨k, truth_rel (iw.pkD rel.cells e) e2, ?_⟩
        cases k with
        | false => exact ⟨sl, cs, as, R, rel, p⟩
        | true => exact p x H1 as Ext.refl rel.cells iw
theorem evIf (t a b : E) (sl : Sl) (cs : List M) : evE G Φ (.ife t a b) sl cs = (evT G Φ t sl cs).bind fun k cs => if k = true then evE G Φ a sl cs else evE G Φ b sl cs := by
  show (evE G Φ t sl cs).bind _ = ((evE G Φ t sl cs).bind _).bind _
  cases evE G Φ t sl cs with
  | ok w cs1 =>
    show (match (pk w cs1).bind truth with | some true => evE G Φ a sl cs1 | some false => evE G Φ b sl cs1 | none => .stuck) = (Rs.ofO ((pk w cs1).bind truth) cs1).bind _
    cases e : (pk w cs1).bind truth with
    | none => rfl
    | some k => cases k <;> rfl
  | _ => rfl
theorem r_ife (ht : ST G Φ cad X dt t) (ha : SE G Φ cad X da a) (hb : SE G Φ cad X db b) : SE G Φ cad X (.ife dt da db) (.IfExp t a b pos) := fun W tk =>
  (pe_ifExp (ht W tk) (ha W tk) (hb W tk)).imp fun σ H Q h => by
    refine lift_mono (lift_bind0 (IsA := rB) (IsB := rW X.K cad) (g := evT G Φ dt) (f := fun sl k cs => if k = true then evE G Φ da sl cs else evE G Φ db sl cs) (lift_evG (evIf dt da db) h)) fun k H1 ⟨sl, cs, as, R, k', rel, e, p⟩ => ?_
    cases (show k' = k from e)
    cases k with
    | false => exact ⟨sl, cs, as, R, rel, p⟩
    | true => exact ⟨sl, cs, as, R, rel, p⟩
theorem r_frz (ha : SE G Φ cad X da a) : SE G Φ cad X (.frz da) a := fun W tk =>
  (ha W tk).imp fun σ H Q h => by
    refine lift_mono (lift_bind0 (IsA := rW X.K cad) (IsB := rW X.K cad) (g := evE G Φ da) (f := fun sl w cs => match w with
      | .d x => .ok (.d x) cs
      | .c i => match pk (.c i) cs with
        | some d => .ok (.d d) (cs.set i .dead)
        | none => .stuck) h) fun x H1 ⟨sl, cs, as, R, w, rel, iw, p⟩ => ?_
    cases w with
    | d y => exact p x H1 as Ext.refl rel.cells iw
    | c i =>
      cases e : pk (.c i) cs with
      | none => simp only [e] at p; exact p.elim
      | some d =>
        simp only [e] at p
        obtain ⟨c2, x2, i2⟩ := rel.cells.freeze iw e
        exact p x H1 _ x2 c2 i2
theorem r_glob {x : Str} {i : Nat} {u : Value} {v : V} {d : D} (hg : Gl X x) (hm : X.mg x = some u) (r : RelV v u) (hd : G.csts[i]? = some d) (hv : ∀ H F, IsD X.K cad H F d v) (hdb : (x == ("__debug__" : Str)) = false) : SE G Φ cad X (.g i) (.Name x pos) := fun W tk =>
  (pe_glob hg hm r hdb).imp fun σ H Q ⟨sl, cs, as, R, rel, p⟩ => by
    have p : Post X.K cad (rW X.K cad) W σ as R H Q (Rs.ofO (G.csts[i]?.map .d) cs) := p
    rw [hd] at p
    exact Post.data rel.cells p (Same.refl H) (hv H _)
theorem r_globN {x : Str} {i : Nat} (hg : G.csts[i]? = none) : SE G Φ cad X (.g i) (.Name x pos) := fun W tk => ⟨fun pins s σ H Q I ⟨sl, cs, as, R, rel, p⟩ => by
  have p : Post X.K cad (rW X.K cad) W σ as R H Q (Rs.ofO (G.csts[i]?.map .d) cs) := p
  rw [hg] at p
  exact p.elim⟩
theorem lift_opA {W : WX} {o : O} {σ : L2.St} {H : Hp} {Q : VK} (h : liftE K cad W (evE G Φ (.op o ds)) σ H Q) : liftA K cad W (evEs G Φ ds) σ H fun xs H1 => rO K cad G.isT o xs H1 Q :=
  lift_mono (lift_bind0 (IsA := rWs K cad) (IsB := rW K cad) (g := evEs G Φ ds) (f := fun _ ws cs => opK G o ws cs) h) fun xs H1 ⟨sl, cs, as, R, ws, rel, iw, p⟩ => p.op rel.cells iw
theorem lift_opN {W : WX} {o : O} {σ : L2.St} {H : Hp} {Q : VK} (h : liftE K cad W (evE G Φ (.op o ds)) σ H Q) : liftA K cad W (evEs G Φ ds) σ H fun xs H1 => rN K cad G.isT o xs H1 Q := lift_mono (lift_opA h) fun xs H1 q => rO_N q
def opCK (G : Pg) (o : O) (ws : List PD.W) (cs : List M) : Rs PD.W := match pks ws cs with
  | some ds => match sem G.isT o ds with
    | some d => match toM d with
      | some m => .ok (.c cs.length) (cs ++ [m])
      | none => .stuck
    | none => .stuck
  | none => .stuck
theorem lift_opC {W : WX} {o : O} {σ : L2.St} {H : Hp} {Q : VK} (h : liftE K cad W (evE G Φ (.opC o ds)) σ H Q) : liftA K cad W (evEs G Φ ds) σ H fun xs H1 => rN K cad G.isT o xs H1 Q :=
  lift_mono (lift_bind0 (IsA := rWs K cad) (IsB := rW K cad) (g := evEs G Φ ds) (f := fun _ ws cs => opCK G o ws cs) h) fun xs H1 ⟨sl, cs, as, R, ws, rel, iw, p⟩ => by
    unfold opCK at p
    cases e : pks ws cs with
    | none => rw [e] at p; exact p.elim
    | some ds =>
      rw [e] at p
      dsimp only at p
      cases e2 : sem G.isT o ds with
      | none => rw [e2] at p; exact p.elim
      | some d =>
        rw [e2] at p
        dsimp only at p
        refine ⟨Av as R, ds, d, rel.cells.hF, iw.pkDs rel.cells e, e2, fun q ho m hn em nm => ?_⟩
        rw [em] at p
        have p : Post K cad (rW K cad) W σ as R H1 Q (.ok (PD.W.c cs.length) (cs ++ [m])) := p
        have kp : Kp H1 (Av as R) (upd H1 q ho) (Av (as ++ [some q]) R) := by
          refine ⟨fun a u ea _ => same_upd hn a u ea, fun a ha => ?_⟩
          rcases List.mem_append.mp ha with ha | ha
          · obtain ⟨i, ei⟩ := mem_live.mp ha
            by_cases hi : i < as.length
            · rw [List.getElem?_append_left hi] at ei
              exact .inl (List.mem_append_left _ (mem_live.mpr ⟨i, ei⟩))
            · rw [List.getElem?_append_right (by omega)] at ei
              have h0 : i - as.length = 0 := by
                have := (List.getElem?_eq_some_iff.mp ei).1
                simp at this
                omega
              rw [h0] at ei
              cases ei
              exact .inr hn
          · exact .inl (List.mem_append_right _ ha)
        obtain ⟨c2, x2, i2⟩ := rel.cells.push (m := m) hn (nm.cell hn kp)
        exact p _ _ _ x2 c2 i2
theorem noStars : ∀ (es : List Expr), es.all notStar = true → ∀ pos, (backTo pos (starEach es X.env)).any (·.1) = false
  | [], _, _ => rfl
  | e :: es, h, pos => by
    rw [List.all_cons, Bool.and_eq_true] at h
    have ih := noStars es h.2 pos
    rw [star_of h.1]
    unfold backTo at ih ⊢
    rw [List.map_cons, List.any_cons, ih]
    rfl
theorem r_blt {x : Str} {p : Pos} {o : O} {id : String} (hc : CallR X (.builtin id) (rO X.K cad G.isT o)) (hg : Gl X x) (hm : X.mg x = none) (hv : bootBuiltins x = some (.builtin id)) (ha : SA G Φ cad X ds (e :: es)) (hs : (e :: es).all notStar = true)
    (hn : x ≠ "__name__") (hdb : (x == ("__debug__" : Str)) = false) : SE G Φ cad X (.op o ds) (.Call (.Name x p) (e :: es) [] pos) := fun W tk => by
  have h2 : es.all notStar = true := (Bool.and_eq_true_iff.mp (by rw [← List.all_cons]; exact hs)).2
  exact (pe_callB hc hg hm hv (ha W tk) hn hdb (star_of (by rw [List.all_cons, Bool.and_eq_true] at hs; exact hs.1)) (noStars es h2 pos)).imp fun σ H Q h => lift_opA h
theorem r_bltT {x : Str} {p : Pos} {o : O} {T : String} (hc : CallR X (.type T) (rO X.K cad G.isT o)) (hg : Gl X x) (hm : X.mg x = none) (hv : bootBuiltins x = some (.type T)) (ha : SA G Φ cad X ds (e :: es)) (hs : (e :: es).all notStar = true)
    (hn : x ≠ "__name__") (hdb : (x == ("__debug__" : Str)) = false) : SE G Φ cad X (.op o ds) (.Call (.Name x p) (e :: es) [] pos) := fun W tk => by
  have h2 : es.all notStar = true := (Bool.and_eq_true_iff.mp (by rw [← List.all_cons]; exact hs)).2
  exact (pe_callTy hc hg hm hv (ha W tk) hn hdb (star_of (by rw [List.all_cons, Bool.and_eq_true] at hs; exact hs.1)) (noStars es h2 pos)).imp fun σ H Q h => lift_opA h
theorem r_newT {x : Str} {p : Pos} {o : O} {T : String} (hc : CallR X (.type T) (rN X.K cad G.isT o)) (hg : Gl X x) (hm : X.mg x = none) (hv : bootBuiltins x = some (.type T)) (ha : SA G Φ cad X ds (e :: es)) (hs : (e :: es).all notStar = true)
    (hn : x ≠ "__name__") (hdb : (x == ("__debug__" : Str)) = false) : SE G Φ cad X (.op o ds) (.Call (.Name x p) (e :: es) [] pos) ∧ SE G Φ cad X (.opC o ds) (.Call (.Name x p) (e :: es) [] pos) := by
  have h2 : es.all notStar = true := (Bool.and_eq_true_iff.mp (by rw [← List.all_cons]; exact hs)).2
  have h1 := star_of (X := X) (es := es) (by rw [List.all_cons, Bool.and_eq_true] at hs; exact hs.1)
  exact ⟨fun W tk => (pe_callTy hc hg hm hv (ha W tk) hn hdb h1 (noStars es h2 pos)).imp fun σ H Q h => lift_opN h, fun W tk => (pe_callTy hc hg hm hv (ha W tk) hn hdb h1 (noStars es h2 pos)).imp fun σ H Q h => lift_opC h⟩
theorem r_newB {x : Str} {p : Pos} {o : O} {id : String} (hc : CallR X (.builtin id) (rN X.K cad G.isT o)) (hg : Gl X x) (hm : X.mg x = none) (hv : bootBuiltins x = some (.builtin id)) (ha : SA G Φ cad X ds (e :: es)) (hs : (e :: es).all notStar = true)
    (hn : x ≠ "__name__") (hdb : (x == ("__debug__" : Str)) = false) : SE G Φ cad X (.op o ds) (.Call (.Name x p) (e :: es) [] pos) ∧ SE G Φ cad X (.opC o ds) (.Call (.Name x p) (e :: es) [] pos) := by
  have h2 : es.all notStar = true := (Bool.and_eq_true_iff.mp (by rw [← List.all_cons]; exact hs)).2
  have h1 := star_of (X := X) (es := es) (by rw [List.all_cons, Bool.and_eq_true] at hs; exact hs.1)
  exact ⟨fun W tk => (pe_callB hc hg hm hv (ha W tk) hn hdb h1 (noStars es h2 pos)).imp fun σ H Q h => lift_opN h, fun W tk => (pe_callB hc hg hm hv (ha W tk) hn hdb h1 (noStars es h2 pos)).imp fun σ H Q h => lift_opC h⟩
theorem noStarsA : ∀ (es : List Expr), es.all notStar = true → ∀ pos, (backTo pos (starEach es X.env)).all (fun x => !x.1) = true
  | [], _, _ => rfl
  | e :: es, h, pos => by
    rw [List.all_cons, Bool.and_eq_true] at h
    have ih := noStarsA es h.2 pos
    rw [star_of h.1]
    unfold backTo at ih ⊢
    rw [List.map_cons, List.all_cons, ih]
    rfl
def TyR (X : Cx) (T : String) (x : V) (H : Hp) : Prop := ∀ (pins : List (Addr × Obj)) (σ : L2.St) (s : Shared) (v : Value), Inv X pins σ H s → RelV x v → s.TypeIs v T ∧ ∀ a, v = .ref a → ∃ ob, s.heap.get? a = some ob ∧ ob.dict = none
theorem tyR_of {X : Cx} {T : String} {x : V} {H : Hp} (h : tyV X.K T x H) : TyR X T x H := fun pins σ s v I r => tyV_is I r h
theorem tyR_dct {X : Cx} {a : Addr} {us : List (Key × V)} {H : Hp} (h : Rd H a (.dK us)) : TyR X "dict" (.ref a) H := fun pins σ s v I r => by
  cases r
  obtain ⟨_, _, vs, _, dd⟩ := dk_rd I.hok h
  obtain ⟨o, es, ep, e, ex, _⟩ := dd
  refine ⟨⟨o, e, ex.1⟩, fun b e2 => ?_⟩
  cases e2
  exact ⟨o, e, ex.2.1⟩
def tBR (X : Cx) (T : String) (r : V → List V → Hp → VK → Prop) (to : TE) (t : TA) : TE := fun σ H Q => to σ H fun x H1 => TyR X T x H1 ∧ t σ H1 fun xs H2 => r x xs H2 Q
theorem pe_bmR {X : Cx} {o e : Expr} {es : List Expr} {to : TE} {t : TA} {name : Str} {apos cpos : Pos} {T id : String} {r : V → List V → Hp → VK → Prop} (pa : PlainAttrs T) (slot : Slot T name id) (hty : typeOf (.builtin id) = pure (.type "method_descriptor")) (hm : MtR X id r) (ho : PE X o to) (ha : PA X (e :: es) t)
    (hb : attributeBase o name X.env (eval o X.env) = eval o X.env)
    (hf : ((backTo cpos (starEach (e :: es) X.env)).all (fun x => !x.1) && (backToKw cpos (keywordEach [] X.env)).all (fun x => x.1.isSome)
      && decide ((e :: es).length + ([] : List Keyword).length + (if ([] : List Keyword).isEmpty then 0 else 1) < 30)) = true)
    (hl : (apos.endLine == cpos.line) = true) (hs : starEach (e :: es) X.env = (false, eval e X.env) :: starEach es X.env) (hp : (backTo cpos (starEach es X.env)).any (·.1) = false) : PE X (.Call (.Attribute o name apos) (e :: es) [] cpos) (tBR X T r to t) := by
  refine ⟨fun pins s σ H Q I h => ?_⟩
  refine wpAny_Call_method_late hb hf hl rfl (thn (ho.run pins s σ H _ I h) fun v s1 ⟨x, H1, I1, r1, ty, q1⟩ => ?_)
  have k := ty pins σ s1 v I1 r1
  refine ⟨T, id, pa, slot, hty, k.1, k.2, ?_⟩
  have run := ha.run cpos pins s1 σ H1 _ I1 q1
  rw [hs] at run ⊢
  have nostar : (backTo cpos ((false, eval e X.env) :: starEach es X.env)).any (·.1) = false := by show (false || (backTo cpos (starEach es X.env)).any (·.1)) = false; rw [hp]; rfl
  exact Calls.callWith_builtin nostar (Calls.evalArgs_plain (thn run fun us s2 ⟨vs, H2, I2, r2, q2⟩ => hm pins s2 σ H2 x vs v us Q I2 r1 r2 q2))
theorem r_bmN {o : O} {T id : String} {name : Str} {apos : Pos} {b : Expr} {bs : List Expr} {db : E} {dbs : List E} (hr : ∀ d, recvOk o d = true → ∃ d', d = some d' ∧ ∀ H F x, PkD X.K cad H F d' x → TyR X T x H) (pa : PlainAttrs T) (slot : Slot T name id) (ty : typeOf (.builtin id) = pure (.type "method_descriptor")) (rule : MtR X id (fun x xs H Q => rO X.K cad G.isT o (x :: xs) H Q))
    (ha : SE G Φ cad X da a) (hb : SA G Φ cad X (db :: dbs) (b :: bs)) (hs : (b :: bs).all notStar = true) (hl : (b :: bs).length < 20) (hbase : attributeBase a name X.env (eval a X.env) = eval a X.env) (hline : (apos.endLine == pos.line) = true) :
    SE G Φ cad X (.bm o da (db :: dbs)) (.Call (.Attribute a name apos) (b :: bs) [] pos) := fun W tk => by
  have h2 : bs.all notStar = true := (Bool.and_eq_true_iff.mp (by rw [← List.all_cons]; exact hs)).2
  have h1 : notStar b = true := (Bool.and_eq_true_iff.mp (by rw [← List.all_cons]; exact hs)).1
  have few : ((backTo pos (starEach (b :: bs) X.env)).all (fun x => !x.1) && (backToKw pos (keywordEach [] X.env)).all (fun x => x.1.isSome)
      && decide ((b :: bs).length + ([] : List Keyword).length + (if ([] : List Keyword).isEmpty then 0 else 1) < 30)) = true := by
    rw [noStarsA _ hs pos]
    have e2 : (backToKw pos (keywordEach [] X.env)) = [] := rfl
    rw [e2]
    have : (b :: bs).length + ([] : List Keyword).length + (if ([] : List Keyword).isEmpty then 0 else 1) < 30 := by
      show (b :: bs).length + 0 + 0 < 30
      omega
    simp only [List.all_nil, Bool.and_self, Bool.true_and]
    exact decide_eq_true this
  refine (pe_bmR pa slot ty rule (ha W tk) (hb W tk) hbase few hline (star_of h1) (noStars bs h2 pos)).imp fun σ H Q h => ?_
  refine lift_mono (lift_bind0 (IsA := rW X.K cad) (IsB := rW X.K cad) (g := evE G Φ da) (f := fun sl w cs => if recvOk o (pk w cs) = true then (evEs G Φ (db :: dbs) sl cs).bind fun ws cs => opK G o (w :: ws) cs else .stuck) h) fun x H1 ⟨sl, cs, as, R, w, rel, iw, p⟩ => ?_
  by_cases hk : recvOk o (pk w cs) = true
  · rw [if_pos hk] at p
    obtain ⟨y, hy, ht⟩ := hr _ hk
    refine ⟨ht _ _ _ (iw.pkD rel.cells hy), ?_⟩
    refine lift_mono (lift_bind (IsA := rWs X.K cad) (IsB := rW X.K cad) (hs := [w]) (vs := [x]) (g := evEs G Φ (db :: dbs)) (f := fun _ ws cs => opK G o (w :: ws) cs) ⟨sl, cs, as, R, rel, ⟨x, [], rfl, iw, rfl⟩, p⟩) fun z H2 ⟨sl, cs, as, R, wb, rel, ih, iw, p⟩ => ?_
    obtain ⟨x', r, e, ix, _⟩ := ih
    cases e
    exact p.op (ws := w :: wb) (vs := x :: z) rel.cells ⟨x, z, rfl, ix, iw⟩
  · rw [if_neg hk] at p
    exact p.elim
def chK (G : Pg) (Φ : Nat → List PD.W → List M → Rs PD.W) (o o' : O) (dc : E) (sl : Sl) (x y : PD.W) (cs : List M) : Rs PD.W := match pks [x, y] cs with
  | some ds => match sem G.isT o ds with
    | some (.bl true) => (evE G Φ dc sl cs).bind fun z cs => opK G o' [y, z] cs
    | some (.bl false) => .ok (.d (.bl false)) cs
    | _ => .stuck
  | none => .stuck
theorem lift_chain {W : WX} {o o' : O} {σ : L2.St} {H : Hp} {Q : VK} (h : liftE K cad W (evE G Φ (.chain o o' da db dc)) σ H Q) :
    tChain (r2O K cad G.isT o) (r2O K cad G.isT o') (liftE K cad W (evE G Φ da)) (liftE K cad W (evE G Φ db)) (liftE K cad W (evE G Φ dc)) σ H Q := by
  refine lift_mono (lift_bind0 (IsA := rW K cad) (IsB := rW K cad) (g := evE G Φ da) (f := fun sl x cs => (evE G Φ db sl cs).bind fun y cs => chK G Φ o o' dc sl x y cs) h) fun x H1 ⟨sl, cs, as, R, wa, rel, iw, p⟩ => ?_
  refine lift_mono (lift_bind (IsA := rW K cad) (IsB := rW K cad) (hs := [wa]) (vs := [x]) (g := evE G Φ db) (f := fun sl y cs => chK G Φ o o' dc sl wa y cs) ⟨sl, cs, as, R, rel, ⟨x, [], rfl, iw, rfl⟩, p⟩) fun y H2 ⟨sl, cs, as, R, wb, rel, ih, iy, p⟩ => ?_
  obtain ⟨x', r, e, ix, _⟩ := ih
  cases e
  have iws : IsWs K cad as R H2 [wa, wb] [x, y] := ⟨x, [y], rfl, ix, y, [], rfl, iy, rfl⟩
  unfold chK at p
  cases e : pks [wa, wb] cs with
  | none => rw [e] at p; exact p.elim
  | some dd =>
    rw [e] at p
    cases e2 : sem G.isT o dd with
    | none => simp only [e2] at p; exact p.elim
    | some d =>
      refine ⟨Av as R, dd, d, rel.cells.hF, iws.pkDs rel.cells e, e2, fun v H3 s3 i3 => ?_⟩
      have rel3 := rel.mono (Ext.same s3) (rel.cells.same s3)
      have p := Post.mono (Ext.same s3) p
      have iy3 : IsW K cad as R H3 wb y := iy.mono (Ext.same s3)
      cases d with
      | bl k =>
        refine ⟨k, i3, ?_⟩
        cases k with
        | true =>
          simp only [e2] at p
          rw [if_pos rfl]
          refine lift_mono (lift_bind (IsA := rW K cad) (IsB := rW K cad) (hs := [wb]) (vs := [y]) (g := evE G Φ dc) (f := fun _ z cs => opK G o' [wb, z] cs) ⟨sl, cs, as, R, rel3, ⟨y, [], rfl, iy3, rfl⟩, p⟩) fun z H4 ⟨sl, cs, as, R, wc, rel, ih, iz, p⟩ => ?_
          obtain ⟨y', r, e, iy, _⟩ := ih
          cases e
          exact p.op (ws := [wb, wc]) (vs := [y, z]) rel.cells ⟨y, [z], rfl, iy, z, [], rfl, iz, rfl⟩
        | false =>
          simp only [e2] at p
          rw [if_neg (by decide)]
          exact Post.data rel3.cells p (Same.refl _) rfl
      | _ => simp only [e2] at p; exact p.elim
theorem r_chain {op op' : CmpOp} {o o' : O} (ho : OpR X (compareOp op) (r2O X.K cad G.isT o)) (ho' : OpR X (compareOp op') (r2O X.K cad G.isT o')) (ha : SE G Φ cad X da a) (hb : SE G Φ cad X db b) (hc : SE G Φ cad X dc c) (hm : lastMarks [op, op'] [b, c] = false) :
    SE G Φ cad X (.chain o o' da db dc) (.Compare a [op, op'] [b, c] pos) := fun W tk =>
  (pe_chain ho ho' (ha W tk) (hb W tk) (hc W tk) hm).imp fun σ H Q h => lift_chain h
theorem chain_bl {o o' : O} (hbl : cmpBl o' = true) : ∀ sl cs w cs', evE G Φ (.chain o o' da db dc) sl cs = .ok w cs' → ∃ b, w = .d (.bl b) := fun sl cs w cs' h => by
  have h : ((evE G Φ da sl cs).bind fun x cs => (evE G Φ db sl cs).bind fun y cs => chK G Φ o o' dc sl x y cs) = .ok w cs' := h
  cases e1 : evE G Φ da sl cs with
  | ok x cs1 =>
    rw [e1] at h
    have h : ((evE G Φ db sl cs1).bind fun y cs => chK G Φ o o' dc sl x y cs) = .ok w cs' := h
    cases e2 : evE G Φ db sl cs1 with
    | ok y cs2 =>
      rw [e2] at h
      have h : chK G Φ o o' dc sl x y cs2 = .ok w cs' := h
      unfold chK at h
      cases e : pks [x, y] cs2 with
      | none => simp only [e] at h; cases h
      | some dd =>
        cases e3 : sem G.isT o dd with
        | none => simp only [e, e3] at h; cases h
        | some d =>
          cases d with
          | bl k =>
            cases k with
            | true =>
              simp only [e, e3] at h
              cases e4 : evE G Φ dc sl cs2 with
              | ok z cs3 => rw [e4] at h; exact opK_bl hbl h
              | ex _ _ _ _ => rw [e4] at h; cases h
              | stuck => rw [e4] at h; cases h
            | false => simp only [e, e3] at h; cases h; exact ⟨false, rfl⟩
          | _ => simp only [e, e3] at h; cases h
    | ex _ _ _ _ => rw [e2] at h; cases h
    | stuck => rw [e2] at h; cases h
  | ex _ _ _ _ => rw [e1] at h; cases h
  | stuck => rw [e1] at h; cases h
theorem t_chain {op op' : CmpOp} {o o' : O} (hbl : cmpBl o' = true) (ho : OpR X (compareOp op) (r2O X.K cad G.isT o)) (ho' : OpR X (compareOp op') (r2O X.K cad G.isT o')) (ha : SE G Φ cad X da a) (hb : SE G Φ cad X db b) (hc : SE G Φ cad X dc c) (hm : lastMarks [op, op'] [b, c] = false) :
    ST G Φ cad X (.chain o o' da db dc) (.Compare a [op, op'] [b, c] pos) := fun W tk =>
  (pt_chain ho ho' (ha W tk) (hb W tk) (hc W tk) hm).imp fun σ H Q h => lift_chain (lift_tb (chain_bl hbl) h)
end
end PD
set_option Elab.async false
set_option linter.all false
set_option maxRecDepth 100000
set_option maxHeartbeats 4000000
namespace PD
open PySem PySem.Spec PyProof.Rows L2
theorem ddL_mem : ∀ (ks : List (List Int)) (k : List Int), k ∈ ddL ks ↔ k ∈ ks
  | [], k => Iff.rfl
  | a :: r, k => by
    unfold ddL
    by_cases h : a ∈ r
    · rw [if_pos h, ddL_mem r k, List.mem_cons]
      constructor
      · exact .inr
      · rintro (rfl | z)
        · exact h
        · exact z
    · rw [if_neg h, List.mem_cons, List.mem_cons, ddL_mem r k]
theorem ddL_nodup : ∀ (ks : List (List Int)), (ddL ks).Nodup
  | [] => List.nodup_nil
  | a :: r => by
    unfold ddL
    by_cases h : a ∈ r
    · rw [if_pos h]; exact ddL_nodup r
    · rw [if_neg h]
      exact List.nodup_cons.mpr ⟨fun z => h ((ddL_mem r a).mp z), ddL_nodup r⟩
theorem ddL_len {ks l : List (List Int)} (hn : l.Nodup) (h1 : ∀ k ∈ l, k ∈ ks) (h2 : ∀ k ∈ ks, k ∈ l) : l.length = (ddL ks).length :=
  ((List.perm_ext_iff_of_nodup hn (ddL_nodup ks)).mpr fun k => ⟨fun h => (ddL_mem ks k).mpr (h1 k h), fun h => h2 k ((ddL_mem ks k).mp h)⟩).length_eq
section
variable {X : Cx}
def tLenSetT (K : PySem.W.Frag) (ta : TE) : TE := fun σ H Q => ta σ H fun x H1 => ∃ (l : Addr) (ks : List (Addr × List Int)), x = V.ref l ∧ SqL K H1 l (ks.map fun p => V.ref p.1) ∧ (∀ p ∈ ks, SqT K H1 p.1 (p.2.map V.int)) ∧ ks.length < 64 ∧ Q (.int ((ddL (ks.map (·.2))).length : Nat)) H1
theorem pe_lenSetT {a : Expr} {ta : TE} {p p2 q pos : Pos} (hc : X.calm = true) (hu : X.A.units + 64 < cLine) (hg : Gl X "len") (hm : X.mg "len" = none) (hg2 : Gl X "set") (hm2 : X.mg "set" = none) (ha : PE X a ta)
    (na : starEach [a] X.env = (false, eval a X.env) :: starEach [] X.env := by rfl) : PE X (.Call (.Name "len" p) [.Call (.Name "set" p2) [a] [] q] [] pos) (tLenSetT X.K ta) := by
  refine ⟨fun pins s σ H Q I h => ?_⟩
  refine Call_ (ld_blt I hg hm PySem.boot_len ?_)
  refine PyProof.Rows.callWith_builtin1 (PyProof.Rows.args_cons ?_ rfl) rfl rfl
  refine Call_ (ld_blt I hg2 hm2 PyProof.Rows.boot_set ?_)
  refine PyProof.Rows.callWith_type1 (PyProof.Rows.args_cons (thn (ha.run pins s σ H _ I h) fun v s1 ⟨x, H1, I1, r1, q1⟩ => PyProof.Rows.args_nil ?_) na) na rfl
  obtain ⟨l, ks, rfl, hl, hk, hf, q1⟩ := q1
  cases r1
  obtain ⟨its, rv, pl, hz⟩ := I1.list hl
  refine call_set_tups (P := X.prog) (w := X.w) ks (I1.ok.hd hc) pl.isList (by simpa using refs_of_vals rv) (fun p hp => I1.isT (hk p hp)) hf (by omega) fun h' tk L es ep t R g k => ?_
  refine PyProof.Rows.args_nil ?_
  obtain ⟨o, ho, hex, hd⟩ := R.ob
  have I2 : Inv X pins σ H1 { s1 with heap := h', toks := tk } := I1.kept k
  have sz : es.size = L.length := SetTR.size (s := { s1 with heap := h', toks := tk }) R
  have ft : t.fits es.size = true := SetTR.fits (s := { s1 with heap := h', toks := tk }) R
  have ll : L.length = (ddL (ks.map (·.2))).length := by
    rw [← ddL_len (ks := ks.map (·.2)) R.nd (fun k hk => ?_) fun k hk => ?_, List.length_map]
    · obtain ⟨p, hp, rfl⟩ := List.mem_map.mp hk
      exact List.mem_map.mpr ⟨p, List.mem_of_mem_take (g.sub p hp), rfl⟩
    · obtain ⟨p, hp, rfl⟩ := List.mem_map.mp hk
      exact g.all p (by rw [List.take_length]; exact hp)
  have few := R.few
  refine call_len_set (s := { s1 with heap := h', toks := tk }) ho hex hd ft (by rw [sz]; omega) ⟨.int ((ddL (ks.map (·.2))).length : Nat), H1, I2.tok _, ⟨_, by rw [sz, ll]⟩, q1⟩
end
section
variable {G : Pg} {Φ : Nat → List PD.W → List M → Rs PD.W} {cad : Nat → Addr} {X : Cx}
theorem isPairs_rel {K : PySem.W.Frag} {H : Hp} {F : List Addr} : ∀ {ds : List D} {vs : List V} {ks : List (List Int)}, IsDs K cad H F ds vs → isPairs ds = some ks → ∃ ps : List (Addr × List Int), vs = (ps.map fun p => V.ref p.1) ∧ (∀ p ∈ ps, SqT K H p.1 (p.2.map V.int)) ∧ ps.map (·.2) = ks
  | [], vs, ks, h, e => by
    cases (show vs = [] from h)
    cases e
    exact ⟨[], rfl, (fun _ h => absurd h List.not_mem_nil), rfl⟩
  | d :: ds, vs, ks, h, e => by
    obtain ⟨x, r, rfl, h1, h2⟩ := h
    cases d with
    | tup ys =>
      have e : (match isInts ys, isPairs ds with | some k, some r => some (k :: r) | _, _ => none) = some ks := e
      cases e1 : isInts ys with
      | none => rw [e1] at e; cases e
      | some k =>
        cases e2 : isPairs ds with
        | none => rw [e1, e2] at e; cases e
        | some r2 =>
          rw [e1, e2] at e
          cases e
          obtain ⟨a, zs, rfl, ht, hz⟩ := h1
          obtain ⟨ps, rfl, q1, q2⟩ := isPairs_rel h2 e2
          have ht := ht.sq
          rw [isInts_rel hz e1] at ht
          refine ⟨(a, k) :: ps, rfl, fun p hp => ?_, by rw [List.map_cons, q2]⟩
          rcases List.mem_cons.mp hp with rfl | hp
          · exact ht
          · exact q1 p hp
    | _ => cases e
theorem r_lenset {da : E} {a : Expr} {p p2 q pos : Pos} (hc : X.calm = true) (hu : X.A.units + 64 < cLine) (hg : Gl X "len") (hm : X.mg "len" = none) (hg2 : Gl X "set") (hm2 : X.mg "set" = none) (ha : SE G Φ cad X da a) (na : notStar a = true) : SE G Φ cad X (.op .setlen [da]) (.Call (.Name "len" p) [.Call (.Name "set" p2) [a] [] q] [] pos) := fun W tk =>
  (pe_lenSetT hc hu hg hm hg2 hm2 (ha W tk) (by cases a <;> first | rfl | cases na)).imp fun σ H Q h => lift_mono (lift_op1 h) fun x H1 ⟨F, ds, d, hF, hp, hs, q⟩ => by
    obtain ⟨da, rfl, h1⟩ := pk1 hp
    cases da <;> try (exact absurd (show none = some d from hs) (by simp))
    case lst xs =>
      have hs : (match isPairs xs with | some ks => if ks.length < 64 then some (D.int (ddL ks).length) else none | none => none) = some d := hs
      cases e : isPairs xs with
      | none => rw [e] at hs; cases hs
      | some ks =>
        rw [e] at hs
        have hs : (if ks.length < 64 then some (D.int (ddL ks).length) else none) = some d := hs
        by_cases hl : ks.length < 64
        · rw [if_pos hl] at hs
          cases hs
          obtain ⟨p, ys, rfl, hq, hy⟩ := h1
          obtain ⟨ps, rfl, q1, q2⟩ := isPairs_rel hy e
          refine ⟨p, ps, rfl, hq, q1, ?_, ?_⟩
          · rw [← q2, List.length_map] at hl; exact hl
          · rw [q2]; exact q _ H1 (Same.refl H1) rfl
        · rw [if_neg hl] at hs; cases hs
end
end PD
set_option Elab.async false
set_option linter.all false
set_option maxRecDepth 100000
set_option maxHeartbeats 4000000
namespace PD
open PySem PySem.Spec PyProof.Rows L2
theorem putAll_len {α : Type} : ∀ (ids : List Nat) (cs ms : List α), (putAll cs ids ms).length = cs.length
  | [], cs, ms => by cases ms <;> rfl
  | i :: r, cs, [] => rfl
  | i :: r, cs, m :: ms => by
    show (putAll (cs.set i m) r ms).length = _
    rw [putAll_len r, List.length_set]
theorem putAll_out {α : Type} {j : Nat} : ∀ (ids : List Nat) (cs ms : List α), j ∉ ids → (putAll cs ids ms)[j]? = cs[j]?
  | [], cs, ms, _ => by cases ms <;> rfl
  | i :: r, cs, [], _ => rfl
  | i :: r, cs, m :: ms, h => by
    show (putAll (cs.set i m) r ms)[j]? = _
    rw [putAll_out r _ _ (fun z => h (List.mem_cons_of_mem _ z)), List.getElem?_set_ne (fun z => h (by rw [z]; exact List.mem_cons_self))]
theorem putAll_in {α : Type} {j : Nat} : ∀ (ids : List Nat) (cs ms : List α) (k : Nat), ids.Nodup → ids[k]? = some j → k < ms.length → j < cs.length → (putAll cs ids ms)[j]? = ms[k]?
  | [], _, _, _, _, e, _, _ => by simp at e
  | i :: r, cs, [], k, _, _, h, _ => by simp at h
  | i :: r, cs, m :: ms, 0, hn, e, _, hj => by
    have e : i = j := by simpa using e
    subst e
    show (putAll (cs.set i m) r ms)[i]? = some m
    rw [putAll_out r _ _ (List.nodup_cons.mp hn).1, List.getElem?_set_self hj]
  | i :: r, cs, m :: ms, k + 1, hn, e, h, hj => by
    show (putAll (cs.set i m) r ms)[j]? = ms[k]?
    exact putAll_in r _ _ k (List.nodup_cons.mp hn).2 (by simpa using e) (by simpa using h) (by rw [List.length_set]; exact hj)
inductive RnR (ids : List Nat) : List PD.W → List PD.W → Prop
  | nil : RnR ids [] []
  | d {x ws us} : RnR ids ws us → RnR ids (.d x :: ws) (.d x :: us)
  | c {i k ws us} : ids[k]? = some i → RnR ids ws us → RnR ids (.c i :: ws) (.c k :: us)
theorem rn_ok : ∀ (ws : List PD.W) (ids : List Nat), ids.Nodup → (∃ ex, (rn ids ws).2 = ids ++ ex) ∧ (rn ids ws).2.Nodup ∧ RnR (rn ids ws).2 ws (rn ids ws).1
  | [], ids, h => ⟨⟨[], by simp [rn]⟩, h, .nil⟩
  | .d x :: ws, ids, h => by
    obtain ⟨h1, h2, h3⟩ := rn_ok ws ids h
    exact ⟨h1, h2, .d h3⟩
  | .c i :: ws, ids, h => by
    unfold rn
    cases e : ids.idxOf? i with
    | some k =>
      obtain ⟨⟨ex, h1⟩, h2, h3⟩ := rn_ok ws ids h
      refine ⟨⟨ex, h1⟩, h2, .c ?_ h3⟩
      show (rn ids ws).2[k]? = some i
      have hk := List.findIdx?_eq_some_iff_getElem.mp (show ids.findIdx? (· == i) = some k from e)
      obtain ⟨hlt, he, _⟩ := hk
      rw [h1, List.getElem?_append_left hlt, List.getElem?_eq_getElem hlt]
      exact congrArg some (eq_of_beq he)
    | none =>
      have hni : i ∉ ids := fun hm => by
        have z := List.findIdx?_eq_none_iff.mp (show ids.findIdx? (· == i) = none from e) i hm
        simp at z
      obtain ⟨⟨ex, h1⟩, h2, h3⟩ := rn_ok ws (ids ++ [i]) (List.nodup_append.mpr ⟨h, by simp, fun a ha b hb => by
        rw [List.mem_singleton.mp hb]
        exact fun z => hni (z ▸ ha)⟩)
      refine ⟨⟨i :: ex, by show (rn (ids ++ [i]) ws).2 = _; rw [h1]; simp⟩, h2, .c ?_ h3⟩
      show (rn (ids ++ [i]) ws).2[ids.length]? = some i
      rw [h1]
      simp
theorem takeAll_ok {cs : List M} : ∀ {ids : List Nat} {ms : List M}, takeAll cs ids = some ms → ms.length = ids.length ∧ ∀ (k i : Nat), ids[k]? = some i → ∃ m, ms[k]? = some m ∧ cs[i]? = some m ∧ m ≠ .dead
  | [], ms, h => by
    cases h
    exact ⟨rfl, fun k i e => by simp at e⟩
  | i :: r, ms, h => by
    have h : (match cs[i]?, takeAll cs r with | some .dead, _ => none | some m, some ms => some (m :: ms) | _, _ => none) = some ms := h
    cases e1 : cs[i]? with
    | none => rw [e1] at h; cases h
    | some m =>
      cases e2 : takeAll cs r with
      | none => rw [e1, e2] at h; cases m <;> cases h
      | some ms' =>
        obtain ⟨h1, h2⟩ := takeAll_ok e2
        rw [e1, e2] at h
        have hm : m ≠ .dead ∧ ms = m :: ms' := by cases m <;> cases h <;> exact ⟨fun z => (nomatch z), rfl⟩
        obtain ⟨hd, rfl⟩ := hm
        refine ⟨by simp [h1], fun k j e => ?_⟩
        cases k with
        | zero =>
          have e : i = j := by simpa using e
          subst e
          exact ⟨m, rfl, e1, hd⟩
        | succ k =>
          obtain ⟨m', q1, q2, q3⟩ := h2 k j (by simpa using e)
          exact ⟨m', by simpa using q1, q2, q3⟩
section
variable {K : PySem.W.Frag} {cad : Nat → Addr} {as as2 as3 : AS} {R : List Addr} {H H' : Hp} {cs ms ms' cs3 : List M} {ids : List Nat}
def asOf (as : AS) (ids : List Nat) : AS := ids.map fun i => (as[i]?).join
def rOf (as : AS) (R : List Addr) (ids : List Nat) : List Addr := (live as).filter (fun a => decide (a ∉ live (asOf as ids))) ++ R
theorem asOf_get {k : Nat} {o : Option Addr} (h : (asOf as ids)[k]? = some o) : ∃ i, ids[k]? = some i ∧ (as[i]?).join = o := by
  unfold asOf at h
  rw [List.getElem?_map] at h
  cases e : ids[k]? with
  | none => rw [e] at h; cases h
  | some i => rw [e] at h; cases h; exact ⟨i, rfl, rfl⟩
theorem join_some {o : Option (Option Addr)} {a : Addr} (h : o.join = some a) : o = some (some a) := by
  cases o with
  | none => cases h
  | some o => cases (show o = some a from h); rfl
theorem asOf_live {k : Nat} {a : Addr} (h : (asOf as ids)[k]? = some (some a)) : ∃ i, ids[k]? = some i ∧ as[i]? = some (some a) := by
  obtain ⟨i, e, q⟩ := asOf_get h
  exact ⟨i, e, join_some q⟩
theorem live_asOf {a : Addr} (h : a ∈ live (asOf as ids)) : a ∈ live as := by
  obtain ⟨k, e⟩ := mem_live.mp h
  obtain ⟨i, _, q⟩ := asOf_live e
  exact mem_live.mpr ⟨i, q⟩
theorem rOf_sub {a : Addr} (h : a ∈ Av (asOf as ids) (rOf as R ids)) : a ∈ Av as R := by
  rcases List.mem_append.mp h with h | h
  · exact List.mem_append_left _ (live_asOf h)
  · rcases List.mem_append.mp h with h | h
    · exact List.mem_append_left _ (List.mem_filter.mp h).1
    · exact List.mem_append_right _ h
theorem kp_sub {F F' : List Addr} (h : ∀ a ∈ F', a ∈ F) : Kp H F H F' := ⟨fun _ _ e _ => e, fun a m => .inl (h a m)⟩
theorem CellM.mono {F F' : List Addr} (k : Kp H F H' F') {a : Addr} (he : ∀ o, H a = some o → H' a = some o) : ∀ {m : M}, CellM K cad H F a m → CellM K cad H' F' a m
  | .lst ds, ⟨xs, e, h⟩ => ⟨xs, he _ e, h.mono k⟩
  | .dct ks ds, ⟨us, e, h1, h⟩ => ⟨us, he _ e, h1, h.mono k⟩
  | .obj C ks ds, ⟨dx, us, e, h1, h⟩ => ⟨dx, us, he _ e, h1, h.mono k⟩
  | .dead, h => h
theorem Cells.into (c : Cells K cad as R H cs) (hn : ids.Nodup) (ht : takeAll cs ids = some ms) : Cells K cad (asOf as ids) (rOf as R ids) H ms := by
  obtain ⟨h1, h2⟩ := takeAll_ok ht
  have kp : Kp H (Av as R) H (Av (asOf as ids) (rOf as R ids)) := kp_sub fun a h => rOf_sub h
  refine ⟨by unfold asOf; rw [List.length_map, h1], fun k l a e1 e2 => ?_, fun k e => ?_, fun k a m e1 e2 => ?_, fun a h hr => ?_, fun a h => ?_⟩
  · obtain ⟨i, q1, r1⟩ := asOf_live e1
    obtain ⟨j, q2, r2⟩ := asOf_live e2
    have z := c.inj i j a r1 r2
    subst z
    obtain ⟨l1, g1⟩ := List.getElem?_eq_some_iff.mp q1
    obtain ⟨l2, g2⟩ := List.getElem?_eq_some_iff.mp q2
    exact (List.getElem_inj hn).mp (g1.trans g2.symm)
  · obtain ⟨i, q1, r1⟩ := asOf_get e
    obtain ⟨m, q2, q3, q4⟩ := h2 k i q1
    have hi : i < as.length := by rw [c.len]; exact (List.getElem?_eq_some_iff.mp q3).1
    have r2 : as[i]? = some none := by
      rw [List.getElem?_eq_getElem hi] at r1 ⊢
      exact congrArg some r1
    have z := c.dead i r2
    rw [q3] at z
    cases z
    exact absurd rfl q4
  · obtain ⟨i, q1, r1⟩ := asOf_live e1
    obtain ⟨m', q2, q3, q4⟩ := h2 k i q1
    rw [e2] at q2
    cases q2
    exact (c.at_ i a m r1 q3).mono kp fun _ e => e
  · rcases List.mem_append.mp hr with hr | hr
    · exact of_decide_eq_true (List.mem_filter.mp hr).2 h
    · exact c.apart a (live_asOf h) hr
  · rcases List.mem_append.mp h with h | h
    · exact live_there c (List.mem_filter.mp h).1
    · exact c.rl a h
theorem IsWs.into (hn : ids.Nodup) : ∀ {ws us : List PD.W} {vs : List V}, RnR ids ws us → IsWs K cad as R H ws vs → IsWs K cad (asOf as ids) (rOf as R ids) H us vs
  | _, _, _, .nil, h => h
  | _, _, _, .d r, h => by
    obtain ⟨x, q, rfl, h1, h2⟩ := h
    exact ⟨x, q, rfl, IsD.mono (kp_sub fun a h => rOf_sub h) h1, IsWs.into hn r h2⟩
  | _, _, _, .c (i := i) (k := k) e r, h => by
    obtain ⟨x, q, rfl, h1, h2⟩ := h
    refine ⟨x, q, rfl, ⟨?_, fun a ea => ?_⟩, IsWs.into hn r h2⟩
    · unfold asOf
      rw [List.length_map]
      exact (List.getElem?_eq_some_iff.mp e).1
    · obtain ⟨i', q1, r1⟩ := asOf_live ea
      rw [e] at q1
      cases q1
      exact h1.2 a r1
structure Back (as as2 as3 : AS) (cs ms' cs3 : List M) (ids : List Nat) : Prop where
  org : ∀ i : Nat, i < as3.length → (∃ k, k < as2.length ∧ as3[i]? = as2[k]? ∧ cs3[i]? = ms'[k]? ∧ (i < as.length → ids[k]? = some i) ∧ (as.length ≤ i → ids.length ≤ k)) ∨ (i < as.length ∧ i ∉ ids ∧ as3[i]? = as[i]? ∧ cs3[i]? = cs[i]?)
  len : as3.length = cs3.length
  le : as.length ≤ as3.length
  le1 : as3.length ≤ as.length + 1
theorem lt_of_get {α : Type} {l : List α} {i : Nat} {a : α} (h : l[i]? = some a) : i < l.length := (List.getElem?_eq_some_iff.mp h).1
theorem Back.in_r (c : Cells K cad as R H cs) {i : Nat} {a : Addr} (hi : i ∉ ids) (e : as[i]? = some (some a)) : a ∈ rOf as R ids :=
  List.mem_append_left _ (List.mem_filter.mpr ⟨mem_live.mpr ⟨i, e⟩, decide_eq_true fun h => by
    obtain ⟨k, q⟩ := mem_live.mp h
    obtain ⟨j, q1, r1⟩ := asOf_live q
    have z := c.inj i j a e r1
    subst z
    exact hi (List.mem_of_getElem? q1)⟩)
theorem Back.sub (b : Back as as2 as3 cs ms' cs3 ids) (c : Cells K cad as R H cs) {a : Addr} (h : a ∈ Av as3 R) : a ∈ Av as2 (rOf as R ids) := by
  rcases List.mem_append.mp h with h | h
  · obtain ⟨i, e⟩ := mem_live.mp h
    rcases b.org i (lt_of_get e) with ⟨k, _, q1, _⟩ | ⟨_, hi, q1, _⟩
    · rw [q1] at e
      exact List.mem_append_left _ (mem_live.mpr ⟨k, e⟩)
    · rw [q1] at e
      exact List.mem_append_right _ (Back.in_r c hi e)
  · exact List.mem_append_right _ (List.mem_append_right _ h)
theorem Back.kp (b : Back as as2 as3 cs ms' cs3 ids) (c : Cells K cad as R H cs) : Kp H' (Av as2 (rOf as R ids)) H' (Av as3 R) := kp_sub fun _ h => b.sub c h
theorem Back.ext (b : Back as as2 as3 cs ms' cs3 ids) (x : Ext H (asOf as ids) H' as2) : Ext H as H' as3 where
  len := b.le
  old := fun i a hi e => by
    rcases b.org i (lt_of_get e) with ⟨k, _, q1, _, q3, _⟩ | ⟨_, _, q1, _⟩
    · rw [q1] at e
      have q3 := q3 hi
      have hk : k < (asOf as ids).length := by unfold asOf; rw [List.length_map]; exact lt_of_get q3
      obtain ⟨j, r1, r2⟩ := asOf_live (x.old k a hk e)
      rw [q3] at r1
      cases r1
      exact r2
    · rw [q1] at e
      exact e
  new := fun i a hi e => by
    rcases b.org i (lt_of_get e) with ⟨k, _, q1, _, _, q4⟩ | ⟨h1, _⟩
    · rw [q1] at e
      exact x.new k a (by unfold asOf; rw [List.length_map]; exact q4 hi) e
    · omega
  keep := fun a o e h => x.keep a o e fun z => h (live_asOf z)
  there := x.there
theorem Back.cells (b : Back as as2 as3 cs ms' cs3 ids) (c : Cells K cad as R H cs) (x : Ext H (asOf as ids) H' as2) (c2 : Cells K cad as2 (rOf as R ids) H' ms') : Cells K cad as3 R H' cs3 := by
  have ext := b.ext x
  refine ⟨b.len, fun i j a e1 e2 => ?_, fun i e => ?_, fun i a m e1 e2 => ?_, fun a h hr => ?_, fun a h => c2.rl a (List.mem_append_right _ h)⟩
  · have l1 := lt_of_get e1
    have l2 := lt_of_get e2
    have b1 := b.le1
    rcases b.org i l1 with ⟨k, _, q1, _, q3, q4⟩ | ⟨h1, hi, q1, _⟩
    · rw [q1] at e1
      rcases b.org j l2 with ⟨l, _, r1, _, r3, r4⟩ | ⟨h2, hj, r1, _⟩
      · rw [r1] at e2
        have z := c2.inj k l a e1 e2
        subst z
        by_cases hi : i < as.length
        · by_cases hj : j < as.length
          · have z := (q3 hi).symm.trans (r3 hj)
            cases z
            rfl
          · have z1 := lt_of_get (q3 hi)
            have z2 := r4 (by omega)
            omega
        · by_cases hj : j < as.length
          · have z1 := lt_of_get (r3 hj)
            have z2 := q4 (by omega)
            omega
          · omega
      · rw [r1] at e2
        exact absurd (Back.in_r c hj e2) (c2.apart a (mem_live.mpr ⟨k, e1⟩))
    · rw [q1] at e1
      rcases b.org j l2 with ⟨l, _, r1, _, r3, r4⟩ | ⟨h2, hj, r1, _⟩
      · rw [r1] at e2
        exact absurd (Back.in_r c hi e1) (c2.apart a (mem_live.mpr ⟨l, e2⟩))
      · rw [r1] at e2
        exact c.inj i j a e1 e2
  · rcases b.org i (lt_of_get e) with ⟨k, _, q1, q2, _, _⟩ | ⟨h1, hi, q1, q2⟩
    · rw [q1] at e
      rw [q2]
      exact c2.dead k e
    · rw [q1] at e
      rw [q2]
      exact c.dead i e
  · rcases b.org i (lt_of_get e1) with ⟨k, _, q1, q2, _, _⟩ | ⟨h1, hi, q1, q2⟩
    · rw [q1] at e1
      rw [q2] at e2
      exact (c2.at_ k a m e1 e2).mono (b.kp c) fun _ e => e
    · rw [q1] at e1
      rw [q2] at e2
      refine (c.at_ i a m e1 e2).mono ext.kp' fun o e => x.keep a o e fun z => ?_
      obtain ⟨k, q⟩ := mem_live.mp z
      obtain ⟨j, q1, r1⟩ := asOf_live q
      have z := c.inj i j a e1 r1
      subst z
      exact hi (List.mem_of_getElem? q1)
  · obtain ⟨i, e⟩ := mem_live.mp h
    rcases b.org i (lt_of_get e) with ⟨k, _, q1, _⟩ | ⟨_, hi, q1, _⟩
    · rw [q1] at e
      exact c2.apart a (mem_live.mpr ⟨k, e⟩) (List.mem_append_right _ hr)
    · rw [q1] at e
      exact c.apart a (mem_live.mpr ⟨i, e⟩) hr
theorem Back.zero (hc : as.length = cs.length) (hn : ids.Nodup) (hi : ∀ i ∈ ids, i < as.length) (h2 : ids.length ≤ as2.length) (h3 : as2.length = ms'.length) : Back as as2 (putAll as ids as2) cs ms' (putAll cs ids ms') ids := by
  refine ⟨fun i hl => ?_, by rw [putAll_len, putAll_len, hc], by rw [putAll_len]; exact Nat.le_refl _, by rw [putAll_len]; omega⟩
  rw [putAll_len] at hl
  by_cases hm : i ∈ ids
  · obtain ⟨k, hk⟩ := List.getElem?_of_mem hm
    have hkl := lt_of_get hk
    exact .inl ⟨k, by omega, putAll_in _ _ _ k hn hk (by omega) hl, putAll_in _ _ _ k hn hk (by omega) (by omega), fun _ => hk, fun z => by omega⟩
  · exact .inr ⟨hl, hm, putAll_out _ _ _ hm, putAll_out _ _ _ hm⟩
theorem Back.one {j : Nat} {m : M} (hc : as.length = cs.length) (hn : ids.Nodup) (hi : ∀ i ∈ ids, i < as.length) (h2 : ids.length ≤ as2.length) (h3 : as2.length = ms'.length) (hj : ids.length ≤ j) (hm : ms'[j]? = some m) :
    Back as as2 (putAll as ids as2 ++ [(as2[j]?).join]) cs ms' (putAll cs ids ms' ++ [m]) ids := by
  have b := Back.zero (as2 := as2) (ms' := ms') hc hn hi h2 h3
  refine ⟨fun i hl => ?_, by simp [putAll_len, hc], by simp [putAll_len], by simp [putAll_len]⟩
  rw [List.length_append, putAll_len] at hl
  by_cases h : i < as.length
  · have e1 : (putAll as ids as2 ++ [(as2[j]?).join])[i]? = (putAll as ids as2)[i]? := List.getElem?_append_left (by rw [putAll_len]; exact h)
    have e2 : (putAll cs ids ms' ++ [m])[i]? = (putAll cs ids ms')[i]? := List.getElem?_append_left (by rw [putAll_len]; omega)
    rw [e1, e2]
    exact b.org i (by rw [putAll_len]; exact h)
  · have hi' : i = as.length := by simp at hl; omega
    subst hi'
    have hjl := lt_of_get hm
    refine .inl ⟨j, by omega, ?_, ?_, fun z => by omega, fun _ => hj⟩
    · rw [List.getElem?_append_right (by rw [putAll_len]; exact Nat.le_refl _), putAll_len, Nat.sub_self]
      have hj2 : j < as2.length := by omega
      rw [List.getElem?_eq_getElem hj2]
      rfl
    · rw [List.getElem?_append_right (by rw [putAll_len]; omega), putAll_len, hc, Nat.sub_self, hm]
      rfl
theorem IsX.mono {C : Nat} {ks : List Str} {vs : List D} {cls : Value} {d : Option Addr} {as' : AS} {R' : List Addr} (k : Kp H (Av as R) H' (Av as' R')) (h : IsX K cad as R H C ks vs cls d) : IsX K cad as' R' H' C ks vs cls d := by
  obtain ⟨h1, h2⟩ := h
  refine ⟨h1, ?_⟩
  rcases h2 with h2 | ⟨h0, dx, us, e1, e2, e3, e4, hs⟩
  · exact .inl h2
  · exact .inr ⟨h0, dx, us, e1, k.av e3 e2, k.keep _ _ e3 e2, e4, IsDs.mono k hs⟩
theorem call_sp {f : List PD.W → List M → Rs PD.W} {ws : List PD.W} {vs : List V} {σ : L2.St} {Q : VK} {W : WX} (c : Cells K cad as R H cs) (h : IsWs K cad as R H ws vs) (p : Post K cad (rW K cad) W σ as R H Q (callW f ws cs)) :
    spOf K cad f vs H Q (WE W σ) := by
  obtain ⟨_, hn, hr⟩ := rn_ok ws [] .nil
  unfold callW at p
  generalize e1 : (rn [] ws).1 = us at *
  generalize e2 : (rn [] ws).2 = ids at *
  have e0 : rn [] ws = (us, ids) := by rw [← e1, ← e2]
  rw [e0] at p
  dsimp only at p
  cases e3 : takeAll cs ids with
  | none => rw [e3] at p; exact p.elim
  | some ms =>
    rw [e3] at p
    dsimp only at p
    obtain ⟨t1, t2⟩ := takeAll_ok e3
    have hi : ∀ i ∈ ids, i < as.length := fun i hm => by
      obtain ⟨k, hk⟩ := List.getElem?_of_mem hm
      obtain ⟨m, _, q, _⟩ := t2 k i hk
      rw [c.len]
      exact lt_of_get q
    refine ⟨us, ms, asOf as ids, rOf as R ids, c.into hn e3, IsWs.into hn hr h, ?_⟩
    have al : (asOf as ids).length = ids.length := by unfold asOf; rw [List.length_map]
    cases e4 : f us ms with
    | stuck => rw [e4] at p; exact p.elim
    | ex C ks vs ms' =>
      rw [e4] at p
      intro cls d H' as2 x c2 i
      have b := Back.zero (as2 := as2) (ms' := ms') c.len hn hi (by rw [← al]; exact x.len) c2.len
      exact p cls d H' _ (b.ext x) (b.cells c x c2) (i.mono (b.kp c))
    | ok w ms' =>
      rw [e4] at p
      intro v H' as2 x c2 i
      have l2 : ids.length ≤ as2.length := by rw [← al]; exact x.len
      cases w with
      | d y =>
        have b := Back.zero (as2 := as2) (ms' := ms') c.len hn hi l2 c2.len
        exact p v H' _ (b.ext x) (b.cells c x c2) (IsD.mono (b.kp c) i)
      | c j =>
        dsimp only at p
        cases e5 : ids[j]? with
        | some n =>
          rw [e5] at p
          have b := Back.zero (as2 := as2) (ms' := ms') c.len hn hi l2 c2.len
          have hnl := hi n (List.mem_of_getElem? e5)
          refine p v H' _ (b.ext x) (b.cells c x c2) ⟨by rw [putAll_len]; exact hnl, fun a ea => i.2 a ?_⟩
          rw [putAll_in _ _ _ j hn e5 (by have := lt_of_get e5; omega) hnl] at ea
          exact ea
        | none =>
          rw [e5] at p
          dsimp only at p
          cases e6 : ms'[j]? with
          | none => rw [e6] at p; exact p.elim
          | some m =>
            rw [e6] at p
            have hj : ids.length ≤ j := by simpa using List.getElem?_eq_none_iff.mp e5
            have b := Back.one (as2 := as2) (ms' := ms') c.len hn hi l2 c2.len hj e6
            refine p v H' _ (b.ext x) (b.cells c x c2) ⟨by rw [List.length_append, putAll_len, ← c.len]; simp, fun a ea => i.2 a ?_⟩
            rw [List.getElem?_append_right (by rw [putAll_len, c.len]; exact Nat.le_refl _), putAll_len, c.len, Nat.sub_self] at ea
            have ea : some (as2[j]?).join = some (some a) := ea
            exact join_some (Option.some.inj ea)
end
end PD
set_option Elab.async false
set_option linter.all false
set_option maxRecDepth 100000
set_option maxHeartbeats 4000000
namespace PD
open PySem PySem.Spec PyProof.Rows L2
mutual
def tgIn : Tg → List Nat → Bool
  | .n i, own => own.contains i
  | .t ts, own => tgsIn ts own
def tgsIn : List Tg → List Nat → Bool
  | [], _ => true
  | t :: ts, own => tgIn t own && tgsIn ts own
end
theorem wipe_get {σ : L2.St} {j : Nat} : ∀ vs : List Nat, (wipe σ vs)[j]? = if j ∈ vs then (if j < σ.length then some none else none) else σ[j]?
  | [] => by simp [wipe]
  | v :: vs => by
    unfold wipe
    by_cases h : v = j
    · subst h
      rw [if_pos List.mem_cons_self]
      by_cases hl : v < σ.length
      · rw [List.getElem?_set_self (by rw [wipe_length]; exact hl), if_pos hl]
      · rw [if_neg hl, List.getElem?_eq_none (by rw [List.length_set, wipe_length]; omega)]
    · rw [List.getElem?_set_ne h, wipe_get vs]
      have e : (j ∈ v :: vs) ↔ j ∈ vs := by simp [Ne.symm h]
      simp only [e]
theorem wipe_set {σ : L2.St} {i : Nat} {y : Option V} {vs : List Nat} (h : i ∈ vs) : wipe (σ.set i y) vs = wipe σ vs := by
  apply List.ext_getElem?
  intro j
  rw [wipe_get, wipe_get, List.length_set]
  by_cases hj : j ∈ vs
  · rw [if_pos hj, if_pos hj]
  · rw [if_neg hj, if_neg hj, List.getElem?_set_ne (fun z : i = j => hj (z ▸ h))]
theorem wipeS_len (sl : Sl) : ∀ vs, (wipeS sl vs).length = sl.length
  | [] => rfl
  | v :: vs => by unfold wipeS; rw [List.length_set, wipeS_len sl vs]
theorem wipeS_some {sl : Sl} {i : Nat} {w : PD.W} : ∀ {vs : List Nat}, (wipeS sl vs)[i]? = some (some w) → sl[i]? = some (some w) ∧ i ∉ vs
  | [], h => ⟨h, by simp⟩
  | v :: vs, h => by
    unfold wipeS at h
    by_cases hi : v = i
    · subst hi
      by_cases hv : v < (wipeS sl vs).length
      · rw [List.getElem?_set_self hv] at h; cases h
      · rw [List.getElem?_eq_none (by simpa using hv)] at h; cases h
    · rw [List.getElem?_set_ne hi] at h
      obtain ⟨h1, h2⟩ := wipeS_some h
      exact ⟨h1, by simp only [List.mem_cons, not_or]; exact ⟨fun e => hi e.symm, h2⟩⟩
section
variable {K : PySem.W.Frag} {cad : Nat → Addr} {as : AS} {R : List Addr} {H : Hp} {sl : Sl} {cs : List M} {σ : L2.St}
theorem Rel.set {i : Nat} {w : PD.W} {x : V} (r : Rel K cad as R H sl cs σ) (hi : i < sl.length) (h : IsW K cad as R H w x) : Rel K cad as R H (sl.set i (some w)) cs (σ.set i (some x)) := by
  refine ⟨by rw [List.length_set, List.length_set, r.len], fun j u e => ?_, r.cells⟩
  by_cases hj : i = j
  · subst hj
    rw [List.getElem?_set_self hi] at e
    cases e
    exact ⟨x, by rw [List.getElem?_set_self (by rw [r.len]; exact hi)], h⟩
  · rw [List.getElem?_set_ne hj] at e
    obtain ⟨v, e1, h1⟩ := r.sl j u e
    exact ⟨v, by rw [List.getElem?_set_ne hj]; exact e1, h1⟩
theorem Rel.unset2 {i : Nat} (r : Rel K cad as R H sl cs σ) : Rel K cad as R H (sl.set i none) cs (σ.set i none) := by
  refine ⟨by rw [List.length_set, List.length_set, r.len], fun j u e => ?_, r.cells⟩
  by_cases hj : i = j
  · subst hj
    by_cases hi : i < sl.length
    · rw [List.getElem?_set_self hi] at e
      cases e
    · rw [List.getElem?_eq_none (by rw [List.length_set]; omega)] at e
      cases e
  · rw [List.getElem?_set_ne hj] at e
    rw [List.getElem?_set_ne hj]
    exact r.sl j u e
theorem Rel.wipe {vs : List Nat} (r : Rel K cad as R H sl cs σ) : Rel K cad as R H (wipeS sl vs) cs (L2.wipe σ vs) := by
  refine ⟨by rw [L2.wipe_length, wipeS_len, r.len], fun j u e => ?_, r.cells⟩
  obtain ⟨e1, hj⟩ := wipeS_some e
  obtain ⟨v, e2, h⟩ := r.sl j u e1
  exact ⟨v, by rw [wipe_get, if_neg hj]; exact e2, h⟩
end
def gSeq (K : PySem.W.Frag) (n : Nat) (t : TGs) : TG := fun v σ H Q => ∃ a xs, v = .ref a ∧ (SqT K H a xs ∨ SqL K H a xs) ∧ xs.length = n ∧ t xs σ H Q
theorem pg_seq {X : Cx} {pos : Pos} {es : List Expr} {k : Nat} {t : TGs} {n : Nat} (hc : X.calm = true) (h : PGs X es t)
    (hn : (assignEach es X.env).length = n) (hst : (assignEach es X.env).findIdx? (·.1) = none) : PG X (.Tuple es k pos) (gSeq X.K n t) := by
  refine ⟨fun pins s σ H v u Q I r hw => ?_⟩
  obtain ⟨a, xs, e1, hq, hl, hw⟩ := hw
  subst e1
  cases r
  rcases hq with hq | hq
  · obtain ⟨its, rv, ht, hz⟩ := I.tuple hq
    refine assign_Tuple_tuple (I.ok.hd hc) ht (by simp [hn, ← hl, rv.length]) hst fun h' hx => ?_
    have I1 : Inv X pins σ H { s with heap := h' } := I.kept (t' := s.toks) fun b o e => hx b o (Nat.ne_of_lt (Heap.lt_size e)) e
    exact h.run pins _ σ H xs _ Q I1 (by simpa using rv) hw
  · obtain ⟨its, rv, ht, hz⟩ := I.list hq
    rw [assign_Tuple]
    refine wpAny_bind (wpAny_standAt ?_)
    unfold unpack
    have hn2 : (assignEach es X.env).length = its.toArray.size := by simp [hn, ← hl, rv.length]
    rw [hn2, hst]
    refine wpAny_bind (wpAny_holding (PySem.W.kun_itemsOf (I.ok.hd hc) ht.isList fun h' hx => ?_))
    have I1 : Inv X pins σ H { s with heap := h' } := I.kept (t' := s.toks) fun b o e => hx b o (Nat.ne_of_lt (Heap.lt_size e)) e
    exact h.run pins _ σ H xs _ Q I1 (by simpa using rv) hw
mutual
def gT (K : PySem.W.Frag) : Tg → TG
  | .n i => gName i
  | .t ts => gSeq K ts.length (gTs K ts)
def gTs (K : PySem.W.Frag) : List Tg → TGs
  | [] => gNil
  | t :: ts => gCons (gT K t) (gTs K ts)
end
section
variable {K : PySem.W.Frag} {cad : Nat → Addr} {as : AS} {R : List Addr} {H : Hp} {cs : List M}
theorem bindTs_len {sl' : Sl} : ∀ (ts : List Tg) (ds : List D) (sl : Sl), bindTs ts ds sl = some sl' → ts.length = ds.length
  | [], [], _, _ => rfl
  | [], _ :: _, _, e => by cases (show none = some sl' from e)
  | _ :: _, [], _, e => by cases (show none = some sl' from e)
  | t :: ts, d :: ds, sl, e => by
    have e : (match bindT t (.d d) sl with | some sl => bindTs ts ds sl | none => none) = some sl' := e
    cases e1 : bindT t (.d d) sl with
    | none => rw [e1] at e; cases e
    | some sl1 =>
      rw [e1] at e
      rw [List.length_cons, List.length_cons, bindTs_len ts ds sl1 e]
mutual
theorem gT_ok : ∀ (t : Tg) {x : V} {σ : L2.St} {Q : L2.St → Hp → Prop} {w : PD.W} {sl sl' : Sl}, Rel K cad as R H sl cs σ → IsW K cad as R H w x →
    bindT t w sl = some sl' → (∀ σ', Rel K cad as R H sl' cs σ' → (∀ own : List Nat, tgIn t own = true → wipe σ' own = wipe σ own) → Q σ' H) → gT K t x σ H Q
  | .n i, x, σ, Q, w, sl, sl', rel, iw, hb, h => by
    have hb : (if i < sl.length then some (sl.set i (some w)) else none) = some sl' := hb
    by_cases hl : i < sl.length
    · rw [if_pos hl] at hb
      cases hb
      exact h _ (rel.set hl iw) fun own ho => wipe_set (by simpa [tgIn] using ho)
    · rw [if_neg hl] at hb
      cases hb
  | .t ts, x, σ, Q, .c _, sl, sl', rel, iw, hb, h => absurd (show none = some sl' from hb) (fun z => nomatch z)
  | .t ts, x, σ, Q, .d dd, sl, sl', rel, iw, hb, h => by
    cases dd with
    | tup ds =>
      have hb : bindTs ts ds sl = some sl' := hb
      obtain ⟨a, xs, rfl, ht, hd⟩ := iw
      exact ⟨a, xs, rfl, .inl ht.sq, by rw [← hd.length, ← bindTs_len ts ds sl hb], gTs_ok ts rel hd hb h⟩
    | lst ds =>
      have hb : bindTs ts ds sl = some sl' := hb
      obtain ⟨a, xs, rfl, ht, hd⟩ := iw
      exact ⟨a, xs, rfl, .inr ht.sq, by rw [← hd.length, ← bindTs_len ts ds sl hb], gTs_ok ts rel hd hb h⟩
    | _ => exact absurd (show none = some sl' from hb) (fun z => nomatch z)
theorem gTs_ok : ∀ (ts : List Tg) {xs : List V} {σ : L2.St} {Q : L2.St → Hp → Prop} {ds : List D} {sl sl' : Sl}, Rel K cad as R H sl cs σ → IsDs K cad H (Av as R) ds xs →
    bindTs ts ds sl = some sl' → (∀ σ', Rel K cad as R H sl' cs σ' → (∀ own : List Nat, tgsIn ts own = true → wipe σ' own = wipe σ own) → Q σ' H) → gTs K ts xs σ H Q
  | [], xs, σ, Q, ds, sl, sl', rel, iw, hb, h => by
    cases ds with
    | nil =>
      have hb : some sl = some sl' := hb
      cases hb
      exact ⟨iw, h σ rel fun _ _ => rfl⟩
    | cons _ _ => exact absurd (show none = some sl' from hb) (fun z => nomatch z)
  | t :: ts, xs, σ, Q, ds, sl, sl', rel, iw, hb, h => by
    cases ds with
    | nil => exact absurd (show none = some sl' from hb) (fun z => nomatch z)
    | cons d ds =>
      obtain ⟨x, r, rfl, i1, i2⟩ := iw
      have hb : (match bindT t (.d d) sl with | some sl => bindTs ts ds sl | none => none) = some sl' := hb
      cases e1 : bindT t (.d d) sl with
      | none => rw [e1] at hb; cases hb
      | some sl1 =>
        rw [e1] at hb
        refine ⟨x, r, rfl, gT_ok t (w := .d d) rel i1 e1 fun σ1 rel1 w1 => ?_⟩
        refine gTs_ok ts rel1 i2 hb fun σ2 rel2 w2 => h σ2 rel2 fun own ho => ?_
        rw [show tgsIn (t :: ts) own = (tgIn t own && tgsIn ts own) from rfl, Bool.and_eq_true] at ho
        rw [w2 own ho.2, w1 own ho.1]
end
end
section
variable {G : Pg} {Φ : Nat → List PD.W → List M → Rs PD.W} {cad : Nat → Addr} {X : Cx} {K : PySem.W.Frag} {pos : Pos}
def SG (X : Cx) (t : Tg) (tg : Expr) : Prop := PG X tg (gT X.K t)
def SGs (X : Cx) (ts : List Tg) (tgs : List Expr) : Prop := PGs X tgs (gTs X.K ts)
theorem g_name {i : Nat} {x : Str} (hN : X.N.Nodup) (hi : X.N[i]? = some x) (hx : Loc X.env.scope x) (hf : X.fn x = true ∨ X.env.scope.names.lookup x = some .local) : SG X (.n i) (.Name x pos) := pg_name hN hi hx hf
theorem gs_nil : SGs X [] [] := pgs_nil
theorem assignEach_cons {e : Expr} {es : List Expr} (h : notStar e = true) : assignEach (e :: es) X.env = (false, assign e X.env) :: assignEach es X.env := by
  cases e <;> first | rfl | cases h
theorem gs_cons {t : Tg} {ts : List Tg} {e : Expr} {es : List Expr} (hs : notStar e = true) (h1 : SG X t e) (h2 : SGs X ts es) : SGs X (t :: ts) (e :: es) := pgs_cons h1 h2 (by rw [assignEach_cons hs]; rfl)
theorem g_tup {ts : List Tg} {es : List Expr} {k : Nat} (hc : X.calm = true) (hs : es.all notStar = true) (hl : es.length = ts.length) (h : SGs X ts es) : SG X (.t ts) (.Tuple es k pos) := by
  have al : ∀ es : List Expr, es.all notStar = true → (assignEach es X.env).length = es.length ∧ (assignEach es X.env).findIdx? (·.1) = none := fun es => by
    induction es with
    | nil => exact fun _ => ⟨rfl, rfl⟩
    | cons e es ih =>
      intro hs
      rw [List.all_cons, Bool.and_eq_true] at hs
      obtain ⟨i1, i2⟩ := ih hs.2
      rw [assignEach_cons hs.1]
      exact ⟨by rw [List.length_cons, i1, List.length_cons], by rw [List.findIdx?_cons]; simp [i2]⟩
  exact pg_seq hc h (by rw [(al es hs).1, hl]) (al es hs).2
def WkD (K : PySem.W.Frag) (cad : Nat → Addr) (H : Hp) (F : List Addr) (J : It) (ds : List D) : Prop := ∃ Gd Y, Walk J ds.length Gd Y ∧ ∀ H' F', Kp H F H' F' → (∀ a ∈ F', ∃ u, H' a = some u) →
  Gd H' ∧ ∀ i x H2, Y i H' x H2 → Same H' H2 ∧ ∃ d, ds[i]? = some d ∧ IsD K cad H2 F' d x
abbrev rJ (K : PySem.W.Frag) (cad : Nat → Addr) : AS → List Addr → Hp → List D → It → Prop := fun as R H ds J => ds.length ≤ LIM ∧ WkD K cad H (Av as R) J ds
abbrev liftI (K : PySem.W.Frag) (cad : Nat → Addr) (W : WX) (g : Sl → List M → Rs (List D)) : TI := liftR K cad (rJ K cad) W g
def evI (G : Pg) (Φ : Nat → List PD.W → List M → Rs PD.W) (k : IK) (its : List E) (sl : Sl) (cs : List M) : Rs (List D) := (evEs G Φ its sl cs).bind fun ws cs => Rs.ofO ((dats ws).bind (items k)) cs
def SI (G : Pg) (Φ : Nat → List PD.W → List M → Rs PD.W) (cad : Nat → Addr) (X : Cx) (k : IK) (its : List E) (tg iter : Expr) : Prop := ∀ W, Takes X W → PI X tg iter (liftI X.K cad W (evI G Φ k its))
theorem pi_or {tg iter : Expr} {a b : TI} (h1 : PI X tg iter a) (h2 : PI X tg iter b) : PI X tg iter (fun σ H R => a σ H R ∨ b σ H R) := ⟨fun pins s σ H R I h => h.elim (h1.run pins s σ H R I) (h2.run pins s σ H R I)⟩
theorem _root_.L2.PI.imp {X : Cx} {tg iter : Expr} {t t' : TI} (h : PI X tg iter t) (i : ∀ σ H Q, t' σ H Q → t σ H Q) : PI X tg iter t' := ⟨fun pins s σ H Q I q => h.run pins s σ H Q I (i _ _ _ q)⟩
theorem wk_lst {H : Hp} {F : List Addr} {a : Addr} {xs : List V} {ds : List D} (hl : LstF K H F a xs) (hd : IsDs K cad H F ds xs) : WkD K cad H F (Itl K a) ds := by
  refine ⟨fun H => SqL K H a xs, YAt xs, by rw [hd.length]; exact walk_list, fun H' F' kp _ => ⟨?_, fun i x H2 y => ?_⟩⟩
  · rcases hl with ⟨h1, h2⟩ | h
    · exact .inl (kp.rd h1 h2).2
    · exact .inr h
  · obtain ⟨rfl, e⟩ := y
    exact ⟨Same.refl _, IsDs.getV (hd.mono kp) e⟩
theorem wk_tup {H : Hp} {F : List Addr} {a : Addr} {xs : List V} {ds : List D} (hl : TupF K H F a xs) (hd : IsDs K cad H F ds xs) : WkD K cad H F (Itt K a) ds := by
  refine ⟨fun H => SqT K H a xs, YAt xs, by rw [hd.length]; exact walk_tup, fun H' F' kp _ => ⟨?_, fun i x H2 y => ?_⟩⟩
  · rcases hl with ⟨h1, h2⟩ | h
    · exact .inl (kp.rd h1 h2).2
    · exact .inr h
  · obtain ⟨rfl, e⟩ := y
    exact ⟨Same.refl _, IsDs.getV (hd.mono kp) e⟩
theorem wk_str {H : Hp} {F : List Addr} {z : Str} : WkD K cad H F (Its z) (z.cps.toList.map fun c => .str ⟨#[c]⟩) := by
  refine ⟨_, _, by rw [List.length_map, Array.length_toList]; exact walk_str, fun H' F' kp _ => ⟨trivial, fun i x H2 y => ?_⟩⟩
  obtain ⟨rfl, c, e, rfl⟩ := y
  exact ⟨Same.refl _, .str ⟨#[c]⟩, by rw [List.getElem?_map, Array.getElem?_toList, e]; rfl, rfl⟩
theorem wk_range {H : Hp} {F : List Addr} {lo : Int} {n : Nat} : WkD K cad H F (Itr lo n) (rangeD lo n) := by
  have w : Walk (Itr lo n) n (fun _ => True) (fun i H x H' => i < n ∧ H' = H ∧ x = .int (lo + i)) := ⟨fun _ _ hi _ => hi, fun _ _ => Nat.le_refl _, fun i H x H' hi _ y => ⟨hi, y⟩⟩
  refine ⟨_, _, by unfold rangeD; rw [List.length_map, List.length_range]; exact w, fun H' F' kp _ => ⟨trivial, fun i x H2 y => ?_⟩⟩
  obtain ⟨hi, rfl, rfl⟩ := y
  exact ⟨Same.refl _, .int (lo + i), by unfold rangeD; rw [List.getElem?_map, List.getElem?_range hi]; rfl, rfl⟩
theorem zipD_len : ∀ xs ys : List D, (zipD xs ys).length = min xs.length ys.length
  | [], ys => by cases ys <;> simp [zipD]
  | x :: xs, [] => by simp [zipD]
  | x :: xs, y :: ys => by simp only [zipD, List.length_cons, zipD_len xs ys]; omega
theorem zipD_get : ∀ (xs ys : List D) (i : Nat) (a b : D), xs[i]? = some a → ys[i]? = some b → (zipD xs ys)[i]? = some (.tup [a, b])
  | [], _, i, _, _, h, _ => by simp at h
  | x :: xs, [], i, _, _, _, h => by simp at h
  | x :: xs, y :: ys, 0, a, b, h1, h2 => by
    simp at h1 h2
    subst h1 h2
    rfl
  | x :: xs, y :: ys, i + 1, a, b, h1, h2 => by
    simp only [zipD, List.getElem?_cons_succ] at h1 h2 ⊢
    exact zipD_get xs ys i a b h1 h2
theorem pair_new {H' : Hp} {F' : List Addr} {T : Addr} {x y : V} {d e : D} (hF : ∀ a ∈ F', ∃ u, H' a = some u) (hT : H' T = none) (h1 : IsD K cad H' F' d x) (h2 : IsD K cad H' F' e y) : IsD K cad (upd H' T (.tup [x, y])) F' (.tup [d, e]) (.ref T) :=
  new_tup hF hT ⟨x, [y], rfl, h1, y, [], rfl, h2, rfl⟩
theorem wk_zip {H : Hp} {F : List Addr} {a b : Addr} {xs ys : List V} {ds es : List D} (hl : LstF K H F a xs) (hd : IsDs K cad H F ds xs) (hl2 : LstF K H F b ys) (hd2 : IsDs K cad H F es ys) : WkD K cad H F (Itz K a b) (zipD ds es) := by
  refine ⟨fun H => SqL K H a xs ∧ SqL K H b ys, _, walk_zip (by rw [zipD_len, hd.length, hd2.length]), fun H' F' kp hF => ⟨?_, fun i x H2 y => ?_⟩⟩
  · refine ⟨?_, ?_⟩
    · rcases hl with ⟨h1, h2⟩ | h
      · exact .inl (kp.rd h1 h2).2
      · exact .inr h
    · rcases hl2 with ⟨h1, h2⟩ | h
      · exact .inl (kp.rd h1 h2).2
      · exact .inr h
  · obtain ⟨T, x, z, rfl, h2, rfl, e1, e2⟩ := y
    obtain ⟨d, q1, i1⟩ := IsDs.getV (hd.mono kp) e1
    obtain ⟨e, q2, i2⟩ := IsDs.getV (hd2.mono kp) e2
    exact ⟨same_upd h2, .tup [d, e], zipD_get _ _ _ _ _ q1 q2, pair_new hF h2 i1 i2⟩
theorem enumD_len : ∀ (xs : List D) (n : Nat), (enumD n xs).length = xs.length
  | [], _ => rfl
  | x :: xs, n => by simp only [enumD, List.length_cons, enumD_len xs]
theorem enumD_get : ∀ (xs : List D) (n i : Nat) (a : D), xs[i]? = some a → (enumD n xs)[i]? = some (.tup [.int ((n + i : Nat) : Int), a])
  | [], _, i, _, h => by simp at h
  | x :: xs, n, 0, a, h => by
    simp at h
    subst h
    rfl
  | x :: xs, n, i + 1, a, h => by
    simp only [enumD, List.getElem?_cons_succ] at h ⊢
    rw [enumD_get xs (n + 1) i a h, show n + 1 + i = n + (i + 1) from by omega]
theorem wk_enum {H : Hp} {F : List Addr} {a : Addr} {xs : List V} {ds : List D} (hl : LstF K H F a xs) (hd : IsDs K cad H F ds xs) : WkD K cad H F (Ite K a) (enumD 0 ds) := by
  refine ⟨fun H => SqL K H a xs, _, by rw [enumD_len, hd.length]; exact walk_enum, fun H' F' kp hF => ⟨?_, fun i x H2 y => ?_⟩⟩
  · rcases hl with ⟨h1, h2⟩ | h
    · exact .inl (kp.rd h1 h2).2
    · exact .inr h
  · obtain ⟨T, x, z, rfl, h2, rfl, e1, e2⟩ := y
    cases e1
    obtain ⟨e, q2, i2⟩ := IsDs.getV (hd.mono kp) e2
    refine ⟨same_upd h2, .tup [.int ((0 + i : Nat) : Int), e], enumD_get _ _ _ _ q2, pair_new hF h2 ?_ i2⟩
    show V.int (i : Nat) = .int ((0 + i : Nat) : Int)
    rw [Nat.zero_add]
variable {tg a b : Expr} {da db : E}
def Short (K : PySem.W.Frag) (H : Hp) : Prop := ∀ p xs, SqL K H p xs ∨ SqT K H p xs → xs.length ≤ LIM
theorem inv_short {pins : List (Addr × Obj)} {σ : L2.St} {H : Hp} {s : Shared} (I : Inv X pins σ H s) : Short X.K H := fun p xs h => by
  rw [lim_eq]
  rcases h with h | h
  · obtain ⟨_, _, _, z⟩ := I.list h
    exact z
  · obtain ⟨_, _, _, z⟩ := I.tuple h
    exact z
theorem pe_len {e : Expr} {t : TE} (h : PE X e t) : PE X e (fun σ H Q => t σ H fun x H1 => Short X.K H1 → Q x H1) := ⟨fun pins s σ H Q I q => thn (h.run pins s σ H _ I q) fun u s' ⟨v, H', I', r, q⟩ => ⟨v, H', I', r, q (inv_short I')⟩⟩
theorem pa_len {es : List Expr} {t : TA} (h : PA X es t) : PA X es (fun σ H Q => t σ H fun x H1 => Short X.K H1 → Q x H1) := ⟨fun pos pins s σ H Q I q => thn (h.run pos pins s σ H _ I q) fun u s' ⟨v, H', I', r, q⟩ => ⟨v, H', I', r, q (inv_short I')⟩⟩
theorem i_seq (ha : SE G Φ cad X da a) : SI G Φ cad X .seq [da] tg a := fun W tk =>
  (pi_or (pi_list (pe_len (ha W tk))) (pi_tup (pe_len (ha W tk)))).imp fun σ H Q ⟨sl, cs, as, R, rel, p⟩ => by
    have p : Post X.K cad (rJ X.K cad) W σ as R H Q (((evE G Φ da sl cs).bind fun w cs => (Rs.ok [] cs).bind fun ws cs => Rs.ok (w :: ws) cs).bind fun ws cs => Rs.ofO ((dats ws).bind (items .seq)) cs) := p
    cases e : evE G Φ da sl cs with
    | stuck => rw [e] at p; exact p.elim
    | ex C ks vs cs1 =>
      rw [e] at p
      exact .inl ⟨sl, cs, as, R, rel, by rw [e]; exact p⟩
    | ok w cs1 =>
      rw [e] at p
      have p : Post X.K cad (rJ X.K cad) W σ as R H Q (Rs.ofO ((dats [w]).bind (items .seq)) cs1) := p
      match w, p, e with
      | .d (.lst ds), p, e =>
        refine .inl ⟨sl, cs, as, R, rel, ?_⟩
        rw [e]
        intro x H1 as1 ext c i sh
        obtain ⟨a, xs, rfl, hl, hd⟩ := i
        exact ⟨a, rfl, ⟨xs, hl.sq⟩, p _ H1 as1 ext c ⟨by rw [hd.length]; exact sh a xs (.inl hl.sq), wk_lst hl hd⟩⟩
      | .d (.tup ds), p, e =>
        refine .inr ⟨sl, cs, as, R, rel, ?_⟩
        rw [e]
        intro x H1 as1 ext c i sh
        obtain ⟨a, xs, rfl, hl, hd⟩ := i
        exact ⟨a, rfl, ⟨xs, hl.sq⟩, p _ H1 as1 ext c ⟨by rw [hd.length]; exact sh a xs (.inr hl.sq), wk_tup hl hd⟩⟩
      | .d .non, p, _ => exact p.elim
      | .d (.bl _), p, _ => exact p.elim
      | .d (.int _), p, _ => exact p.elim
      | .d (.str _), p, _ => exact p.elim
      | .d (.dct _ _), p, _ => exact p.elim
      | .d (.obj _ _ _), p, _ => exact p.elim
      | .d (.exc _ _ _), p, _ => exact p.elim
      | .c _, p, _ => exact p.elim
theorem i_str (ha : SE G Φ cad X da a) : SI G Φ cad X .str [da] tg a := fun W tk =>
  (pi_str (ha W tk)).imp fun σ H Q ⟨sl, cs, as, R, rel, p⟩ => by
    have p : Post X.K cad (rJ X.K cad) W σ as R H Q (((evE G Φ da sl cs).bind fun w cs => (Rs.ok [] cs).bind fun ws cs => Rs.ok (w :: ws) cs).bind fun ws cs => Rs.ofO ((dats ws).bind (items .str)) cs) := p
    refine ⟨sl, cs, as, R, rel, ?_⟩
    cases e : evE G Φ da sl cs with
    | stuck => rw [e] at p; exact p.elim
    | ex C ks vs cs1 =>
      rw [e] at p
      exact p
    | ok w cs1 =>
      rw [e] at p
      have p : Post X.K cad (rJ X.K cad) W σ as R H Q (Rs.ofO ((dats [w]).bind (items .str)) cs1) := p
      match w, p with
      | .d (.str z), p =>
        have p : Post X.K cad (rJ X.K cad) W σ as R H Q (Rs.ofO (if z.length ≤ LIM then some (z.cps.toList.map fun c => .str ⟨#[c]⟩) else none) cs1) := p
        by_cases hz : z.length ≤ LIM
        · rw [if_pos hz] at p
          exact fun x H1 as1 ext c i => ⟨z, i, p _ H1 as1 ext c ⟨by rw [List.length_map, Array.length_toList]; exact hz, wk_str⟩⟩
        · rw [if_neg hz] at p
          exact p.elim
      | .d (.lst _), p => exact p.elim
      | .d (.tup _), p => exact p.elim
      | .d .non, p => exact p.elim
      | .d (.bl _), p => exact p.elim
      | .d (.int _), p => exact p.elim
      | .d (.dct _ _), p => exact p.elim
      | .d (.obj _ _ _), p => exact p.elim
      | .d (.exc _ _ _), p => exact p.elim
      | .c _, p => exact p.elim
theorem lift_I {W : WX} {k : IK} {its : List E} {σ : L2.St} {H : Hp} {R : It → Hp → Prop} (h : liftI K cad W (evI G Φ k its) σ H R) :
    liftA K cad W (evEs G Φ its) σ H fun vs H1 => ∃ as R0 ds' ds, (∀ a ∈ Av as R0, ∃ u, H1 a = some u) ∧ IsDs K cad H1 (Av as R0) ds' vs ∧ items k ds' = some ds ∧ ∀ J, ds.length ≤ LIM → WkD K cad H1 (Av as R0) J ds → R J H1 :=
  lift_mono (lift_bind0 (IsA := rWs K cad) (IsB := rJ K cad) (g := evEs G Φ its) (f := fun _ ws cs => Rs.ofO ((dats ws).bind (items k)) cs) h) fun vs H1 ⟨sl, cs, as, R0, ws, rel, iw, p⟩ => by
    cases e : dats ws with
    | none => rw [e] at p; exact p.elim
    | some ds' =>
      rw [e] at p
      have p : Post K cad (rJ K cad) W σ as R0 H1 R (Rs.ofO (items k ds') cs) := p
      cases e2 : items k ds' with
      | none => rw [e2] at p; exact p.elim
      | some ds =>
        rw [e2] at p
        exact ⟨as, R0, ds', ds, rel.cells.hF, iw.dats e, e2, fun J hl hj => p J H1 as Ext.refl rel.cells ⟨hl, hj⟩⟩
theorem i_range1 {p : Pos} (hg : Gl X "range") (hm : X.mg "range" = none) (ha : SA G Φ cad X [da] [a]) (hs : notStar a = true) : SI G Φ cad X .range1 [da] tg (.Call (.Name "range" p) [a] [] pos) := fun W tk =>
  (pi_range1 hg hm (ha W tk) (star_of hs)).imp fun σ H Q h => lift_mono (lift_I h) fun vs H1 ⟨as, R0, ds', ds, hF, hd, e, q⟩ => by
    have main : ∀ n, IsDs X.K cad H1 (Av as R0) [.int n] vs → items .range1 [.int n] = some ds → ∃ j : Int, vs = [.int j] ∧ -(2 ^ 62) ≤ j ∧ j < 2 ^ 62 ∧ Q (Itr 0 j.toNat) H1 := fun n hd e => by
      obtain ⟨x, r, rfl, rfl, rfl⟩ := hd
      have e : (if -(2 ^ 62) ≤ n ∧ n.toNat ≤ LIM then some (rangeD 0 n.toNat) else none) = some ds := e
      by_cases hn : -(2 ^ 62) ≤ n ∧ n.toNat ≤ LIM
      · rw [if_pos hn] at e
        cases e
        have h2 := hn.2
        unfold LIM at h2
        exact ⟨n, rfl, hn.1, by omega, q _ (by unfold rangeD; rw [List.length_map, List.length_range]; exact hn.2) wk_range⟩
      · rw [if_neg hn] at e
        cases e
    rcases ds' with _ | ⟨d, _ | ⟨_, _⟩⟩
    · cases e
    · cases d with
      | int n => exact main n hd e
      | _ => cases e
    · cases d <;> cases e
theorem i_range2 {p : Pos} (hg : Gl X "range") (hm : X.mg "range" = none) (ha : SA G Φ cad X [da, db] [a, b]) (hs : notStar a = true) (hs2 : notStar b = true) : SI G Φ cad X .range2 [da, db] tg (.Call (.Name "range" p) [a, b] [] pos) := fun W tk =>
  (pi_range2 hg hm (ha W tk) (by rw [star_of hs, star_of hs2]; rfl) (star_of hs2)).imp fun σ H Q h => lift_mono (lift_I h) fun vs H1 ⟨as, R0, ds', ds, hF, hd, e, q⟩ => by
    have main : ∀ n m, IsDs X.K cad H1 (Av as R0) [.int n, .int m] vs → items .range2 [.int n, .int m] = some ds → ∃ i j : Int, vs = [.int i, .int j] ∧ (-(2 ^ 62) ≤ i ∧ i < 2 ^ 62 ∧ -(2 ^ 62) ≤ j ∧ j < 2 ^ 62) ∧ Q (Itr i (j - i).toNat) H1 := fun n m hd e => by
      obtain ⟨x, r, rfl, rfl, y, r, rfl, rfl, rfl⟩ := hd
      have e : (if -(2 ^ 62) ≤ n ∧ n < 2 ^ 62 ∧ -(2 ^ 62) ≤ m ∧ m < 2 ^ 62 ∧ (m - n).toNat ≤ LIM then some (rangeD n (m - n).toNat) else none) = some ds := e
      by_cases hn : -(2 ^ 62) ≤ n ∧ n < 2 ^ 62 ∧ -(2 ^ 62) ≤ m ∧ m < 2 ^ 62 ∧ (m - n).toNat ≤ LIM
      · rw [if_pos hn] at e
        cases e
        exact ⟨n, m, rfl, ⟨hn.1, hn.2.1, hn.2.2.1, hn.2.2.2.1⟩, q _ (by unfold rangeD; rw [List.length_map, List.length_range]; exact hn.2.2.2.2) wk_range⟩
      · rw [if_neg hn] at e
        cases e
    rcases ds' with _ | ⟨d, _ | ⟨f, _ | ⟨_, _⟩⟩⟩
    · cases e
    · cases d <;> cases e
    · cases d with
      | int n =>
        cases f with
        | int m => exact main n m hd e
        | _ => cases e
      | _ => cases e
    · cases d <;> first | (cases e; done) | (cases f <;> cases e)
theorem i_zip {p tpos : Pos} {elts : List Expr} {kk : Nat} (hg : Gl X "zip") (hm : X.mg "zip" = none) (ha : SA G Φ cad X [da, db] [a, b]) (hs : notStar a = true) (hs2 : notStar b = true) : SI G Φ cad X .zip [da, db] (.Tuple elts kk tpos) (.Call (.Name "zip" p) [a, b] [] pos) := fun W tk =>
  (pi_zip hg hm (pa_len (ha W tk)) (star_of hs) (by rw [star_of hs2]; rfl)).imp fun σ H Q h => lift_mono (lift_I h) fun vs H1 ⟨as, R0, ds', ds, hF, hd, e, q⟩ sh => by
    have main : ∀ n m, IsDs X.K cad H1 (Av as R0) [.lst n, .lst m] vs → items .zip [.lst n, .lst m] = some ds → ∃ a b xs ys, vs = [.ref a, .ref b] ∧ SqL X.K H1 a xs ∧ SqL X.K H1 b ys ∧ Q (Itz X.K a b) H1 := fun n m hd e => by
      obtain ⟨x, r, rfl, ⟨a, xs, rfl, hl, hd1⟩, y, r, rfl, ⟨b, ys, rfl, hl2, hd2⟩, rfl⟩ := hd
      cases (show some (zipD n m) = some ds from e)
      refine ⟨a, b, xs, ys, rfl, hl.sq, hl2.sq, q _ ?_ (wk_zip hl hd1 hl2 hd2)⟩
      have z := sh a xs (.inl hl.sq)
      rw [zipD_len, hd1.length]
      omega
    rcases ds' with _ | ⟨d, _ | ⟨f, _ | ⟨_, _⟩⟩⟩
    · cases e
    · cases d <;> cases e
    · cases d with
      | lst n =>
        cases f with
        | lst m => exact main n m hd e
        | _ => cases e
      | _ => cases e
    · cases d <;> first | (cases e; done) | (cases f <;> cases e)
theorem i_enum {p tpos : Pos} {elts : List Expr} {kk : Nat} (hg : Gl X "enumerate") (hm : X.mg "enumerate" = none) (ha : SA G Φ cad X [da] [a]) (hs : notStar a = true) : SI G Φ cad X .enum [da] (.Tuple elts kk tpos) (.Call (.Name "enumerate" p) [a] [] pos) := fun W tk =>
  (pi_enum hg hm (pa_len (ha W tk)) (star_of hs)).imp fun σ H Q h => lift_mono (lift_I h) fun vs H1 ⟨as, R0, ds', ds, hF, hd, e, q⟩ sh => by
    have main : ∀ n, IsDs X.K cad H1 (Av as R0) [.lst n] vs → items .enum [.lst n] = some ds → ∃ a xs, vs = [.ref a] ∧ SqL X.K H1 a xs ∧ Q (Ite X.K a) H1 := fun n hd e => by
      obtain ⟨x, r, rfl, ⟨a, xs, rfl, hl, hd1⟩, rfl⟩ := hd
      cases (show some (enumD 0 n) = some ds from e)
      exact ⟨a, xs, rfl, hl.sq, q _ (by rw [enumD_len, hd1.length]; exact sh a xs (.inl hl.sq)) (wk_enum hl hd1)⟩
    rcases ds' with _ | ⟨d, _ | ⟨_, _⟩⟩
    · cases e
    · cases d with
      | lst n => exact main n hd e
      | _ => cases e
    · cases d <;> cases e
end
end PD
set_option Elab.async false
set_option linter.all false
set_option maxRecDepth 100000
set_option maxHeartbeats 4000000
namespace PD
open PySem PySem.Spec PyProof.Rows L2
section
variable {K : PySem.W.Frag} {cad : Nat → Addr} {as as' : AS} {R R' : List Addr} {H H' : Hp} {sl : Sl} {cs cs' : List M} {σ : L2.St} {D0 : Addr}
theorem IsW.mono2 (x : Ext H as H' as') (kp : Kp H (Av as R) H' (Av as' R')) : ∀ {w : PD.W} {v : V}, IsW K cad as R H w v → IsW K cad as' R' H' w v
  | .d d, v, h => IsD.mono kp (d := d) h
  | .c i, v, h => ⟨Nat.lt_of_lt_of_le h.1 x.len, fun a e => h.2 a (x.old i a h.1 e)⟩
theorem Rel.mono2 (r : Rel K cad as R H sl cs σ) (x : Ext H as H' as') (kp : Kp H (Av as R) H' (Av as' R')) (c : Cells K cad as' R' H' cs') : Rel K cad as' R' H' sl cs' σ :=
  ⟨r.len, fun i w e => let ⟨v, e1, h⟩ := r.sl i w e; ⟨v, e1, h.mono2 x kp⟩, c⟩
theorem kp_in (h : H D0 = none) {o : HO} : Kp H (Av as R) (upd H D0 o) (Av as (D0 :: R)) := ⟨fun a u e _ => same_upd h a u e, fun a m => by
  rcases List.mem_append.mp m with m | m
  · exact .inl (List.mem_append_left _ m)
  · rcases List.mem_cons.mp m with m | m
    · rw [m]; exact .inr h
    · exact .inl (List.mem_append_right _ m)⟩
theorem Cells.enter (c : Cells K cad as R H cs) (h : H D0 = none) {o : HO} : Cells K cad as (D0 :: R) (upd H D0 o) cs ∧ Ext H as (upd H D0 o) as := by
  refine ⟨⟨c.len, c.inj, c.dead, fun i a m e1 e2 => (c.at_ i a m e1 e2).mono (kp_in h) fun u e => same_upd h a u e, fun a m z => ?_, fun a m => ?_⟩, Ext.same (same_upd h)⟩
  · rcases List.mem_cons.mp z with z | z
    · obtain ⟨u, q⟩ := live_there c m
      rw [z, h] at q
      cases q
    · exact c.apart a m z
  · rcases List.mem_cons.mp m with m | m
    · exact ⟨o, by rw [m, upd_same]⟩
    · obtain ⟨u, q⟩ := c.rl a m
      exact ⟨u, same_upd h a u q⟩
theorem kp_wr {F : List Addr} (hD : D0 ∈ F) {o : HO} : Kp H F (upd H D0 o) F := ⟨fun a u e m => by rw [upd_ne (fun z => m (by rw [z]; exact hD))]; exact e, fun _ m => .inl m⟩
theorem Cells.writeR (c : Cells K cad as R H cs) (hD : D0 ∈ R) {o : HO} : Cells K cad as R (upd H D0 o) cs := by
  refine ⟨c.len, c.inj, c.dead, fun i a m e1 e2 => (c.at_ i a m e1 e2).mono (kp_wr (List.mem_append_right _ hD)) fun u e => ?_, c.apart, fun a m => ?_⟩
  · rw [upd_ne (fun z => c.apart a (mem_live.mpr ⟨i, e1⟩) (by rw [z]; exact hD))]
    exact e
  · by_cases z : a = D0
    · exact ⟨o, by rw [z, upd_same]⟩
    · obtain ⟨u, q⟩ := c.rl a m
      exact ⟨u, by rw [upd_ne z]; exact q⟩
theorem kp_leave : Kp H (Av as (D0 :: R)) H (Av as R) := kp_sub fun a m => by
  rcases List.mem_append.mp m with m | m
  · exact List.mem_append_left _ m
  · exact List.mem_append_right _ (List.mem_cons_of_mem _ m)
theorem Cells.leave (c : Cells K cad as (D0 :: R) H cs) : Cells K cad as R H cs :=
  ⟨c.len, c.inj, c.dead, fun i a m e1 e2 => (c.at_ i a m e1 e2).mono kp_leave fun _ e => e, fun a m z => c.apart a m (List.mem_cons_of_mem _ z), fun a m => c.rl a (List.mem_cons_of_mem _ m)⟩
theorem av_adopt {a : Addr} : a ∈ Av (as ++ [some D0]) R → a ∈ Av as (D0 :: R) := fun m => by
  rcases List.mem_append.mp m with m | m
  · obtain ⟨i, e⟩ := mem_live.mp m
    by_cases hi : i < as.length
    · rw [List.getElem?_append_left hi] at e
      exact List.mem_append_left _ (mem_live.mpr ⟨i, e⟩)
    · rw [List.getElem?_append_right (by omega)] at e
      have h0 : i - as.length = 0 := by
        have := lt_of_get e
        simp at this
        omega
      rw [h0] at e
      cases e
      exact List.mem_append_right _ List.mem_cons_self
  · exact List.mem_append_right _ (List.mem_cons_of_mem _ m)
theorem Cells.adopt {xs : List V} {ds : List D} (c : Cells K cad as (D0 :: R) H cs) (hn : D0 ∉ R) (e : H D0 = some (.lst xs)) (h : IsDs K cad H (Av as (D0 :: R)) ds xs) :
    Cells K cad (as ++ [some D0]) R H (cs ++ [.lst ds]) ∧ IsW K cad (as ++ [some D0]) R H (.c cs.length) (.ref D0) := by
  have kp : Kp H (Av as (D0 :: R)) H (Av (as ++ [some D0]) R) := kp_sub fun a m => av_adopt m
  have cut : ∀ i a, (as ++ [some D0])[i]? = some (some a) → (i < as.length ∧ as[i]? = some (some a)) ∨ (i = as.length ∧ a = D0) := fun i a e => by
    by_cases hi : i < as.length
    · rw [List.getElem?_append_left hi] at e
      exact .inl ⟨hi, e⟩
    · rw [List.getElem?_append_right (by omega)] at e
      have h0 : i - as.length = 0 := by
        have := lt_of_get e
        simp at this
        omega
      rw [h0] at e
      cases e
      exact .inr ⟨by omega, rfl⟩
  refine ⟨⟨by simp [c.len], fun i j a e1 e2 => ?_, fun i q => ?_, fun i a m e1 e2 => ?_, fun a m z => ?_, fun a m => c.rl a (List.mem_cons_of_mem _ m)⟩, ⟨by simp [c.len], fun a q => ?_⟩⟩
  · rcases cut i a e1 with ⟨_, q1⟩ | ⟨q1, z1⟩
    · rcases cut j a e2 with ⟨_, q2⟩ | ⟨q2, z2⟩
      · exact c.inj i j a q1 q2
      · exact absurd List.mem_cons_self (z2 ▸ c.apart a (mem_live.mpr ⟨i, q1⟩))
    · rcases cut j a e2 with ⟨_, q2⟩ | ⟨q2, z2⟩
      · exact absurd List.mem_cons_self (z1 ▸ c.apart a (mem_live.mpr ⟨j, q2⟩))
      · omega
  · by_cases hi : i < as.length
    · rw [List.getElem?_append_left hi] at q
      rw [List.getElem?_append_left (by rw [← c.len]; exact hi)]
      exact c.dead i q
    · rw [List.getElem?_append_right (by omega)] at q
      have h0 : i - as.length = 0 := by
        have := lt_of_get q
        simp at this
        omega
      rw [h0] at q
      cases q
  · rcases cut i a e1 with ⟨hi, q1⟩ | ⟨q1, z1⟩
    · rw [List.getElem?_append_left (by rw [← c.len]; exact hi)] at e2
      exact (c.at_ i a m q1 e2).mono kp fun _ e => e
    · subst q1
      subst z1
      rw [c.len, List.getElem?_append_right (Nat.le_refl _), Nat.sub_self] at e2
      cases e2
      exact ⟨xs, e, h.mono kp⟩
  · obtain ⟨i, q⟩ := mem_live.mp m
    rcases cut i a q with ⟨_, q1⟩ | ⟨_, z1⟩
    · exact c.apart a (mem_live.mpr ⟨i, q1⟩) (List.mem_cons_of_mem _ z)
    · exact hn (z1 ▸ z)
  · rw [← c.len] at q
    rcases cut _ a q with ⟨hi, _⟩ | ⟨_, z⟩
    · omega
    · rw [z]
end
section
variable {G : Pg} {Φ : Nat → List PD.W → List M → Rs PD.W} {cad : Nat → Addr} {X : Cx} {K : PySem.W.Frag} {pos : Pos}
def SC (G : Pg) (Φ : Nat → List PD.W → List M → Rs PD.W) (cad : Nat → Addr) (X : Cx) (ds : List E) (es : List Expr) : Prop := ∀ W, Takes X W → PTs X es (liftT X.K cad W (evC G Φ ds))
theorem _root_.L2.PTs.imp {X : Cx} {e : List Expr} {t t' : TT} (h : PTs X e t) (i : ∀ σ H Q, t' σ H Q → t σ H Q) : PTs X e t' := ⟨fun pins s σ H Q I q => h.run pins s σ H Q I (i _ _ _ q)⟩
theorem c_nil : SC G Φ cad X [] [] := fun W tk => pts_nil.imp fun σ H Q ⟨sl, cs, as, R, rel, p⟩ => (show Post X.K cad rB W σ as R H Q (.ok true cs) from p) true H as Ext.refl rel.cells rfl
theorem evC1 (a : E) (sl : Sl) (cs : List M) : evC G Φ [a] sl cs = evT G Φ a sl cs := by
  show (evE G Φ a sl cs).bind _ = (evE G Φ a sl cs).bind _
  cases evE G Φ a sl cs with
  | ok w cs1 =>
    show (match (pk w cs1).bind truth with | some true => Rs.ok true cs1 | some false => Rs.ok false cs1 | none => .stuck) = Rs.ofO ((pk w cs1).bind truth) cs1
    cases (pk w cs1).bind truth with
    | none => rfl
    | some b => cases b <;> rfl
  | _ => rfl
theorem c_one {a : Expr} {da : E} (h : ST G Φ cad X da a) : SC G Φ cad X [da] [a] := fun W tk => (pts_one (h W tk)).imp fun σ H Q ⟨sl, cs, as, R, rel, p⟩ => ⟨sl, cs, as, R, rel, by rw [← evC1]; exact p⟩
def compF (G : Pg) (Φ : Nat → List PD.W → List M → Rs PD.W) (own : List Nat) (t : Tg) (conds : List E) (elt : E) (sl : Sl) (d : D) (cs : List M) : Rs (Option D) := match bindT t (.d d) (wipeS sl own) with
  | some sl' => (evC G Φ conds sl' cs).bind fun b cs => if b = true then (evE G Φ elt sl' cs).bind fun w cs => match w with
      | .d x => .ok (some x) cs
      | .c _ => .stuck
    else .ok none cs
  | none => .stuck
def compZ (mc : Bool) (ds : List D) (cs : List M) : Rs PD.W := if mc = true then .ok (.c cs.length) (cs ++ [.lst ds]) else .ok (.d (.lst ds)) cs
theorem ev_comp (mc : Bool) (own : List Nat) (t : Tg) (k : IK) (its conds : List E) (elt : E) (sl : Sl) (cs : List M) :
    evE G Φ (.comp mc own t k its conds elt) sl cs = (evI G Φ k its sl cs).bind fun ds cs => (compL (compF G Φ own t conds elt sl) ds [] cs).bind (compZ mc) := by
  show (evEs G Φ its sl cs).bind _ = ((evEs G Φ its sl cs).bind _).bind _
  cases evEs G Φ its sl cs with
  | ok ws cs1 =>
    show (match (dats ws).bind (items k) with | some ds => _ | none => .stuck) = (Rs.ofO ((dats ws).bind (items k)) cs1).bind _
    cases (dats ws).bind (items k) <;> rfl
  | _ => rfl
theorem compL_ok {f : D → List M → Rs (Option D)} : ∀ {ds acc : List D} {cs : List M}, compL f ds acc cs = .stuck ∨ ∃ z cs', compL f ds acc cs = .ok z cs'
  | [], acc, cs => .inr ⟨acc, cs, rfl⟩
  | d :: ds, acc, cs => by
    unfold compL
    cases f d cs with
    | ok o cs1 => exact compL_ok
    | ex _ _ _ _ => exact .inl rfl
    | stuck => exact .inl rfl
theorem wipe_wipe {σ : L2.St} {vs : List Nat} : wipe (wipe σ vs) vs = wipe σ vs := by
  apply List.ext_getElem?
  intro j
  rw [wipe_get, wipe_get, wipe_length]
  by_cases hj : j ∈ vs
  · rw [if_pos hj, if_pos hj]
  · rw [if_neg hj, if_neg hj]
abbrev W0 : WX := fun _ _ _ _ => False
theorem comp_in {W : WX} {mc : Bool} {own : List Nat} {t : Tg} {conds : List E} {elt : E} {σ : L2.St} {J : It} {H1 : Hp} {Q : VK} {sl : Sl} {cs1 : List M} {as : AS} {R : List Addr} {ds : List D} (hown : tgIn t own = true) (rel : Rel K cad as R H1 sl cs1 σ) (rj : rJ K cad as R H1 ds J)
    (p : Post K cad (rW K cad) W σ as R H1 Q ((compL (compF G Φ own t conds elt sl) ds [] cs1).bind (compZ mc))) :
    ∀ D, H1 D = none → ∃ W : Nat → Nat → Hp → Prop, (∃ m, W 0 m (upd H1 D (.lst []))) ∧ ∀ i m H, W i m H →
      (J.stop i H ∧ Q (.ref D) H) ∨ (J.go i H ∧ ∃ Nx : Hp → Prop, (∀ H', Nx H' → ∃ m', m' < m ∧ W (i + 1) m' H') ∧ ∀ x H', J.yld i H x H' → gT K t x (wipe σ own) H' fun σ2 H2 => wipe σ2 own = wipe σ own ∧ liftT K cad W0 (evC G Φ conds) σ2 H2 fun b H3 =>
        if b = true then liftE K cad W0 (evE G Φ elt) σ2 H3 fun y H4 => ∃ acc, H4 D = some (.lst acc) ∧ acc.length < sizeLine ∧ Nx (upd H4 D (.lst (acc ++ [y]))) else Nx H3) := by
  obtain ⟨hlen, Gd, Y, wk, hG⟩ := rj
  intro D0 hD
  rcases compL_ok (f := compF G Φ own t conds elt sl) (ds := ds) (acc := []) (cs := cs1) with er | ⟨dz, cz, er⟩
  · rw [er] at p
    exact p.elim
  rw [er] at p
  have p : Post K cad (rW K cad) W σ as R H1 Q (compZ mc dz cz) := p
  have hDR : D0 ∉ R := fun m => by
    obtain ⟨u, z⟩ := rel.cells.rl D0 m
    rw [hD] at z
    cases z
  have kpD : ∀ {H' as'}, Ext H1 as H' as' → Kp H1 (Av as R) H' (Av as' (D0 :: R)) := fun {H' as'} x => ⟨x.kp' (R := R).keep, fun a m => by
    rcases List.mem_append.mp m with m | m
    · rcases x.live m with z | z
      · exact .inl (List.mem_append_left _ z)
      · exact .inr z
    · rcases List.mem_cons.mp m with m | m
      · rw [m]; exact .inr hD
      · exact .inl (List.mem_append_right _ m)⟩
  refine lc_it wk (fun i H' => ∃ (cs' : List M) (as' : AS) (acc : List D) (xs : List V), Cells K cad as' (D0 :: R) H' cs' ∧ Ext H1 as H' as' ∧ H' D0 = some (.lst xs) ∧ IsDs K cad H' (Av as' (D0 :: R)) acc xs ∧ acc.length ≤ i ∧ compL (compF G Φ own t conds elt sl) (ds.drop i) acc cs' = .ok dz cz) ?_ ?_ ?_ ?_
  · obtain ⟨c2, x2⟩ := rel.cells.enter (o := .lst []) hD
    exact ⟨cs1, as, [], [], c2, x2, upd_same, rfl, Nat.le_refl _, er⟩
  · rintro i H' _ ⟨cs', as', acc, xs, c, x, e, hd, ha, q⟩
    exact (hG H' (Av as' (D0 :: R)) (kpD x) c.hF).1
  · rintro i x H' H2 hi ⟨cs', as', acc, xs, c, xt, e, hd, ha, q⟩ hy
    obtain ⟨sm, d, ed, id⟩ := (hG H' (Av as' (D0 :: R)) (kpD xt) c.hF).2 i x H2 hy
    have x2 : Ext H1 as H2 as' := xt.trans (Ext.same sm)
    have c2 : Cells K cad as' (D0 :: R) H2 cs' := c.same sm
    rw [List.drop_eq_getElem_cons hi] at q
    rw [List.getElem?_eq_getElem hi] at ed
    cases ed
    have q : (match compF G Φ own t conds elt sl ds[i] cs' with | .ok o cs => compL (compF G Φ own t conds elt sl) (ds.drop (i + 1)) (acc ++ o.toList) cs | _ => .stuck) = .ok dz cz := q
    unfold compF at q
    cases eb : bindT t (.d ds[i]) (wipeS sl own) with
    | none => rw [eb] at q; cases q
    | some sl' =>
      rw [eb] at q
      dsimp only at q
      have rel2 : Rel K cad as' (D0 :: R) H2 (wipeS sl own) cs' (wipe σ own) := (rel.mono2 x2 (kpD x2) c2).wipe
      refine gT_ok t (w := .d ds[i]) rel2 id eb fun σ2 rel3 hw => ⟨by rw [hw own hown, wipe_wipe], ?_⟩
      refine ⟨sl', cs', as', D0 :: R, rel3, ?_⟩
      cases ec : evC G Φ conds sl' cs' with
      | stuck => rw [ec] at q; cases q
      | ex C ks vs cs2 => rw [ec] at q; cases q
      | ok b cs2 =>
        rw [ec] at q
        intro b' H3 as3 x3 c3 eb'
        cases (show b = b' from eb')
        have e3 : H3 D0 = some (.lst xs) := x3.keep D0 _ (sm _ _ e) fun m => c2.apart D0 m List.mem_cons_self
        have hd3 : IsDs K cad H3 (Av as3 (D0 :: R)) acc xs := (hd.mono (Kp.same sm)).mono x3.kp'
        cases b with
        | false =>
          rw [if_neg (by decide)]
          have q : compL (compF G Φ own t conds elt sl) (ds.drop (i + 1)) (acc ++ []) cs2 = .ok dz cz := q
          rw [List.append_nil] at q
          exact ⟨cs2, as3, acc, xs, c3, x2.trans x3, e3, hd3, by omega, q⟩
        | true =>
          rw [if_pos rfl]
          refine ⟨sl', cs2, as3, D0 :: R, rel3.mono x3 c3, ?_⟩
          have q : (match ((evE G Φ elt sl' cs2).bind fun w cs => match w with | .d x => Rs.ok (some x) cs | .c _ => .stuck) with | .ok o cs => compL (compF G Φ own t conds elt sl) (ds.drop (i + 1)) (acc ++ o.toList) cs | _ => .stuck) = .ok dz cz := q
          cases ee : evE G Φ elt sl' cs2 with
          | stuck => rw [ee] at q; cases q
          | ex C ks vs cs2 => rw [ee] at q; cases q
          | ok w cs3 =>
            rw [ee] at q
            cases w with
            | c _ => cases q
            | d y =>
              intro v H4 as4 x4 c4 iv
              have e4 : H4 D0 = some (.lst xs) := x4.keep D0 _ e3 fun m => c3.apart D0 m List.mem_cons_self
              have hd4 : IsDs K cad H4 (Av as4 (D0 :: R)) acc xs := hd3.mono x4.kp'
              have q : compL (compF G Φ own t conds elt sl) (ds.drop (i + 1)) (acc ++ [y]) cs3 = .ok dz cz := q
              have hxl : xs.length < sizeLine := by
                rw [← hd4.length, ← lim_eq]
                omega
              have hm : D0 ∈ Av as4 (D0 :: R) := List.mem_append_right _ List.mem_cons_self
              refine ⟨xs, e4, hxl, cs3, as4, acc ++ [y], xs ++ [v], c4.writeR List.mem_cons_self, ?_, upd_same, (hd4.app (IsDs.one iv)).mono (kp_wr hm), by simp; omega, q⟩
              have xx := (x2.trans x3).trans x4
              refine ⟨xx.len, xx.old, xx.new, fun a o ea m => ?_, fun a o ea => ?_⟩
              · rw [upd_ne (fun z => by rw [z, hD] at ea; cases ea)]
                exact xx.keep a o ea m
              · by_cases z : a = D0
                · exact ⟨_, by rw [z, upd_same]⟩
                · obtain ⟨o', q'⟩ := xx.there a o ea
                  exact ⟨o', by rw [upd_ne z]; exact q'⟩
  · rintro H' ⟨cs', as', acc, xs, c, x, e, hd, ha, q⟩
    rw [List.drop_length] at q
    cases (show Rs.ok acc cs' = .ok dz cz from q)
    unfold compZ at p
    cases mc with
    | true =>
      rw [if_pos rfl] at p
      obtain ⟨c2, i2⟩ := c.adopt hDR e hd
      refine p (.ref D0) H' _ ?_ c2 i2
      refine ⟨by rw [List.length_append]; exact Nat.le_trans x.len (Nat.le_add_right _ _), fun i a hi ea => ?_, fun i a hi ea => ?_, x.keep, x.there⟩
      · rw [List.getElem?_append_left (Nat.lt_of_lt_of_le hi x.len)] at ea
        exact x.old i a hi ea
      · by_cases hi2 : i < as'.length
        · rw [List.getElem?_append_left hi2] at ea
          exact x.new i a hi ea
        · rw [List.getElem?_append_right (by omega)] at ea
          have h0 : i - as'.length = 0 := by
            have := lt_of_get ea
            simp at this
            omega
          rw [h0] at ea
          cases ea
          exact hD
    | false =>
      rw [if_neg (by decide)] at p
      refine p (.ref D0) H' as' x c.leave ⟨D0, xs, rfl, .inl ⟨fun m => ?_, .inl e⟩, hd.mono kp_leave⟩
      rcases List.mem_append.mp m with m | m
      · exact c.apart D0 m List.mem_cons_self
      · exact hDR m
theorem lift_comp {W : WX} {mc : Bool} {own : List Nat} {t : Tg} {k : IK} {its conds : List E} {elt : E} {σ : L2.St} {H : Hp} {Q : VK} (hown : tgIn t own = true) (h : liftE K cad W (evE G Φ (.comp mc own t k its conds elt)) σ H Q) :
    tLc (liftI K cad W (evI G Φ k its)) (gT K t) (liftT K cad W0 (evC G Φ conds)) (liftE K cad W0 (evE G Φ elt)) own σ H Q :=
  lift_mono (lift_bind0 (IsA := rJ K cad) (IsB := rW K cad) (g := evI G Φ k its) (f := fun sl ds cs => (compL (compF G Φ own t conds elt sl) ds [] cs).bind (compZ mc)) (lift_evG (ev_comp mc own t k its conds elt) h)) fun J H1 ⟨sl, cs1, as, R, ds, rel, rj, p⟩ => comp_in hown rel rj p
theorem takesB {X : Cx} : Takes X W0 := takes0
section
variable {mc : Bool} {own : List (Str × Nat)} {t : Tg} {k : IK} {its conds : List E} {elt : E} {eltE tg iter : Expr} {ifs : List Expr} {scope : Scope}
theorem r_comp (hc : X.calm = true) (hN : X.N.Nodup) (hi : SI G Φ cad X k its tg iter) (ok : BlkOk X.N X.env.scope scope own) (hg : ∀ (s : Shared) (H : Hp) (C : Addr) (cl : List (Str × Addr)) (fp : List Addr), SG (X.blk s H scope (compEnvC scope cl C X.env) fp) t tg)
    (ht : ∀ (s : Shared) (H : Hp) (C : Addr) (cl : List (Str × Addr)) (fp : List Addr), SC G Φ cad (X.blk s H scope (compEnvC scope cl C X.env) fp) conds ifs) (he : ∀ (s : Shared) (H : Hp) (C : Addr) (cl : List (Str × Addr)) (fp : List Addr), SE G Φ cad (X.blk s H scope (compEnvC scope cl C X.env) fp) elt eltE)
    (hs : ∀ x, foldedSetIterable iter X.env x = pure x) (hown : tgIn t (own.map (·.2)) = true) : SE G Φ cad X (.comp mc (own.map (·.2)) t k its conds elt) (.ListComp eltE [⟨tg, iter, ifs, 0⟩] scope pos) := fun W tk =>
  (pe_lc (g := gT X.K t) (tt := liftT X.K cad W0 (evC G Φ conds)) (te := liftE X.K cad W0 (evE G Φ elt)) hc hN (hi W tk) ok (fun s H C cl fp => hg s H C cl fp) (fun s H C cl fp => ht s H C cl fp W0 takesB) (fun s H C cl fp => he s H C cl fp W0 takesB) hs).imp fun σ H Q h => lift_comp hown h
theorem folded_of (h : notSet iter = true) : ∀ x, foldedSetIterable iter X.env x = pure x := by
  intro x
  cases iter <;> first | rfl | cases h
end
end
end PD
set_option Elab.async false
set_option linter.all false
set_option maxRecDepth 100000
set_option maxHeartbeats 4000000
namespace PD
open PySem PySem.Spec PyProof.Rows L2
def Lk (H H2 : Hp) : Prop := ∀ a, H a = H2 a ∨ ∃ us, Rd H a (.dK us) ∧ Rd H2 a (.dK us)
section
variable {K : PySem.W.Frag} {cad : Nat → Addr} {as as' : AS} {R R' F : List Addr} {H H' H2 : Hp} {sl : Sl} {cs cs' : List M} {σ : L2.St} {D0 : Addr}
theorem Lk.lock {a : Addr} {od : Obj} {us : List (Key × V)} (h : H a = some (.dK us)) : Lk H (upd H a (.frz od (.dK us))) := fun b => by
  by_cases hb : b = a
  · subst hb
    exact .inr ⟨us, .inl h, .inr ⟨od, upd_same⟩⟩
  · exact .inl (by rw [upd_ne hb])
theorem Lk.unlock {a : Addr} {od : Obj} {us : List (Key × V)} (h : H a = some (.frz od (.dK us))) : Lk H (upd H a (.dK us)) := fun b => by
  by_cases hb : b = a
  · subst hb
    exact .inr ⟨us, .inr ⟨od, h⟩, .inl upd_same⟩
  · exact .inl (by rw [upd_ne hb])
theorem Lk.rd (k : Lk H H2) {a : Addr} {u : HO} (hu : ∀ o z, u ≠ .frz o z) (h : Rd H a u) : Rd H2 a u := by
  rcases k a with e | ⟨us, e1, e2⟩
  · rcases h with h | ⟨o, h⟩
    · exact .inl (by rw [← e]; exact h)
    · exact .inr ⟨o, by rw [← e]; exact h⟩
  · rcases h with h | ⟨o, h⟩ <;> rcases e1 with e1 | ⟨o1, e1⟩
    · rw [h] at e1; cases e1; exact e2
    · rw [h] at e1; cases e1; exact absurd rfl (hu _ _)
    · rw [h] at e1; cases e1
    · rw [h] at e1; cases e1; exact e2
theorem Lk.eq (k : Lk H H2) {a : Addr} {u : HO} (h : H a = some u) (h1 : ∀ us, u ≠ .dK us) (h2 : ∀ o us, u ≠ .frz o (.dK us)) : H2 a = some u := by
  rcases k a with e | ⟨us, e1, e2⟩
  · rw [← e]; exact h
  · rcases e1 with e1 | ⟨o1, e1⟩
    · rw [h] at e1; cases e1; exact absurd rfl (h1 _)
    · rw [h] at e1; cases e1; exact absurd rfl (h2 _ _)
mutual
theorem IsD.lk (k : Lk H H2) : ∀ {d : D} {v : V}, IsD K cad H F d v → IsD K cad H2 F d v
  | .non, v, h => h
  | .bl b, v, h => h
  | .int i, v, h => h
  | .str x, v, h => h
  | .fnc i, v, h => h
  | .tup ds, v, h => by
    obtain ⟨a, xs, rfl, ht, hs⟩ := h
    exact ⟨a, xs, rfl, ht.elim (fun ⟨h1, h2⟩ => .inl ⟨h1, k.rd (fun _ _ z => nomatch z) h2⟩) .inr, IsDs.lk k hs⟩
  | .lst ds, v, h => by
    obtain ⟨a, xs, rfl, ht, hs⟩ := h
    exact ⟨a, xs, rfl, ht.elim (fun ⟨h1, h2⟩ => .inl ⟨h1, k.rd (fun _ _ z => nomatch z) h2⟩) .inr, IsDs.lk k hs⟩
  | .dct ks ds, v, h => by
    obtain ⟨a, us, rfl, h1, h2, h3, hs⟩ := h
    exact ⟨a, us, rfl, h1, k.rd (fun _ _ z => nomatch z) h2, h3, IsDs.lk k hs⟩
  | .obj C ks ds, v, h => by
    obtain ⟨a, dx, us, rfl, h1, h2, h3, hs⟩ := h
    exact ⟨a, dx, us, rfl, h1, k.eq h2 (fun _ z => nomatch z) (fun _ _ z => nomatch z), h3, IsDs.lk k hs⟩
  | .exc C ks ds, v, h => by
    obtain ⟨a, d, rfl, h1, h2, h3⟩ := h
    refine ⟨a, d, rfl, h1, k.eq h2 (fun _ z => nomatch z) (fun _ _ z => nomatch z), ?_⟩
    rcases h3 with h3 | ⟨h0, dx, us, e1, e2, e3, e4, hs⟩
    · exact .inl h3
    · exact .inr ⟨h0, dx, us, e1, e2, k.eq e3 (fun _ z => nomatch z) (fun _ _ z => nomatch z), e4, IsDs.lk k hs⟩
theorem IsDs.lk (k : Lk H H2) : ∀ {ds : List D} {vs : List V}, IsDs K cad H F ds vs → IsDs K cad H2 F ds vs
  | [], _, h => h
  | d :: ds, _, h => by
    obtain ⟨x, r, rfl, h1, h2⟩ := h
    exact ⟨x, r, rfl, IsD.lk k h1, IsDs.lk k h2⟩
end
theorem CellM.lk (k : Lk H H2) {a : Addr} (e : H2 a = H a) : ∀ {m : M}, CellM K cad H F a m → CellM K cad H2 F a m
  | .lst ds, ⟨xs, h1, h⟩ => ⟨xs, by rw [e]; exact h1, h.lk k⟩
  | .dct ks ds, ⟨us, h1, h2, h⟩ => ⟨us, by rw [e]; exact h1, h2, h.lk k⟩
  | .obj C ks ds, ⟨dx, us, h1, h2, h⟩ => ⟨dx, us, by rw [e]; exact h1, h2, h.lk k⟩
  | .dead, h => h
theorem Cells.lk (c : Cells K cad as R H cs) (k : Lk H H2) (e : ∀ a ∈ live as, H2 a = H a) : Cells K cad as R H2 cs :=
  ⟨c.len, c.inj, c.dead, fun i a m e1 e2 => (c.at_ i a m e1 e2).lk k (e a (mem_live.mpr ⟨i, e1⟩)), c.apart, fun a h => by
    obtain ⟨o, z⟩ := c.rl a h
    rcases k a with q | ⟨us, _, q⟩
    · exact ⟨o, by rw [← q]; exact z⟩
    · rcases q with q | ⟨o', q⟩
      · exact ⟨_, q⟩
      · exact ⟨_, q⟩⟩
theorem IsW.lk (k : Lk H H2) : ∀ {w : PD.W} {v : V}, IsW K cad as R H w v → IsW K cad as R H2 w v
  | .d d, v, h => IsD.lk k (d := d) h
  | .c i, v, h => h
theorem Rel.lk (r : Rel K cad as R H sl cs σ) (k : Lk H H2) (e : ∀ a ∈ live as, H2 a = H a) : Rel K cad as R H2 sl cs σ :=
  ⟨r.len, fun i w q => let ⟨v, e1, h⟩ := r.sl i w q; ⟨v, e1, h.lk k⟩, r.cells.lk k e⟩
theorem ext_unlock {a : Addr} {od : Obj} {us : List (Key × V)} (h : H a = some (.dK us)) (hl : a ∉ live as) (x : Ext (upd H a (.frz od (.dK us))) as H' as') : H' a = some (.frz od (.dK us)) ∧ a ∉ live as' ∧ Ext H as (upd H' a (.dK us)) as' := by
  have e1 : H' a = some (.frz od (.dK us)) := x.keep a _ upd_same hl
  refine ⟨e1, fun m => ?_, x.len, x.old, fun i b hi e => ?_, fun b o e m => ?_, fun b o e => ?_⟩
  · rcases x.live m with z | z
    · exact hl z
    · rw [upd_same] at z; cases z
  · have z := x.new i b hi e
    by_cases hb : b = a
    · rw [hb, upd_same] at z; cases z
    · rw [upd_ne hb] at z; exact z
  · by_cases hb : b = a
    · subst hb
      rw [h] at e
      cases e
      exact upd_same
    · rw [upd_ne hb]
      exact x.keep b o (by rw [upd_ne hb]; exact e) m
  · by_cases hb : b = a
    · exact ⟨_, by rw [hb, upd_same]⟩
    · rw [upd_ne hb]
      exact x.there b o (by rw [upd_ne hb]; exact e)
end
section
variable {G : Pg} {Φ : Nat → List PD.W → List M → Rs PD.W} {cad : Nat → Addr} {X : Cx} {K : PySem.W.Frag} {pos : Pos}
def evK (j : Nat) (sl : Sl) (cs : List M) : Rs (List D) := match sl[j]? with
  | some (some (.d (.dct ks vs))) => if ks.length = vs.length ∧ ks.length ≤ LIM then .ok (ks.map kD) cs else .stuck
  | _ => .stuck
theorem evI_keys (j : Nat) (sl : Sl) (cs : List M) : evI G Φ .keys [.v j] sl cs = evK j sl cs := by
  show (((evE G Φ (.v j) sl cs).bind fun w cs => (Rs.ok [] cs).bind fun ws cs => Rs.ok (w :: ws) cs).bind fun ws cs => Rs.ofO ((dats ws).bind (items .keys)) cs) = _
  show ((((match sl[j]? with | some (some w) => Rs.ok w cs | _ => .stuck) : Rs PD.W).bind fun w cs => (Rs.ok [] cs).bind fun ws cs => Rs.ok (w :: ws) cs).bind fun ws cs => Rs.ofO ((dats ws).bind (items .keys)) cs) = match sl[j]? with | some (some (.d (.dct ks vs))) => if ks.length = vs.length ∧ ks.length ≤ LIM then Rs.ok (ks.map kD) cs else .stuck | _ => .stuck
  cases sl[j]? with
  | none => rfl
  | some ow =>
    cases ow with
    | none => rfl
    | some w =>
      cases w with
      | c _ => rfl
      | d x =>
        cases x with
        | dct ks vs =>
          show Rs.ofO (if ks.length = vs.length ∧ ks.length ≤ LIM then some (ks.map kD) else none) cs = if ks.length = vs.length ∧ ks.length ≤ LIM then Rs.ok (ks.map kD) cs else .stuck
          by_cases h : ks.length = vs.length ∧ ks.length ≤ LIM
          · rw [if_pos h, if_pos h]; rfl
          · rw [if_neg h, if_neg h]; rfl
        | _ => rfl
def tKeysF (j : Nat) : TI := fun σ H Q => ∃ a o us, σ[j]? = some (some (.ref a)) ∧ H a = some (.frz o (.dK us)) ∧ Q (Itk a o us) H
theorem i_keysF {tg : Expr} {x : Str} {j : Nat} (hN : X.N[j]? = some x) (hv : Vis X.env.scope x) (hd : (x == ("__debug__" : Str)) = false) (hcd : (x == ("__classdict__" : Str)) = false) : PI X tg (.Name x pos) (tKeysF j) :=
  (pi_keys (pe_var hN hv hd hcd)).imp fun σ H Q ⟨a, o, us, e, f, q⟩ => ⟨.ref a, e, a, o, rfl, .inl ⟨us, f, q⟩⟩
theorem wk_keys {H : Hp} {F : List Addr} {a : Addr} {o : Obj} {us : List (Key × V)} (hf : H a = some (.frz o (.dK us))) (ha : a ∉ F) : WkD K cad H F (Itk a o us) ((us.map (·.1)).map kD) := by
  refine ⟨fun H => H a = some (.frz o (.dK us)), _, by rw [List.length_map, List.length_map]; exact walk_keys, fun H' F' kp _ => ⟨kp.keep a _ hf ha, fun i x H2 y => ?_⟩⟩
  obtain ⟨rfl, k, v, e, rfl⟩ := y
  refine ⟨Same.refl _, kD k, by rw [List.getElem?_map, List.getElem?_map, e]; rfl, ?_⟩
  cases k <;> rfl
theorem pe_alt {e : Expr} {t t' : TE} (h1 : PE X e t) (h2 : PE X e t') : PE X e (fun σ H Q => t σ H Q ∨ t' σ H Q) := ⟨fun pins s σ H Q I h => h.elim (h1.run pins s σ H Q I) (h2.run pins s σ H Q I)⟩
theorem Post.unlock {W W' : WX} {σ : L2.St} {as : AS} {R : List Addr} {H : Hp} {Q : VK} {a : Addr} {od : Obj} {us : List (Key × V)} {mc : Bool} {r : Rs (List D)} (h : H a = some (.dK us)) (hl : a ∉ live as) (hr : r = .stuck ∨ ∃ z cs', r = .ok z cs')
    (p : Post K cad (rW K cad) W σ as R H Q (r.bind (compZ mc))) : Post K cad (rW K cad) W' σ as R (upd H a (.frz od (.dK us))) (fun v H' => H' a = some (.frz od (.dK us)) ∧ Q v (upd H' a (.dK us))) (r.bind (compZ mc)) := by
  have go : ∀ {w : PD.W} {cs : List M}, Post K cad (rW K cad) W σ as R H Q (.ok w cs) → Post K cad (rW K cad) W' σ as R (upd H a (.frz od (.dK us))) (fun v H' => H' a = some (.frz od (.dK us)) ∧ Q v (upd H' a (.dK us))) (.ok w cs) := fun {w cs} p v H' as' x c iw => by
    obtain ⟨e1, e2, x2⟩ := ext_unlock h hl x
    have k := Lk.unlock e1
    refine ⟨e1, p v _ as' x2 (c.lk k fun b hb => ?_) (iw.lk k)⟩
    exact upd_ne (fun z : b = a => e2 (by rw [← z]; exact hb))
  rcases hr with rfl | ⟨z, cs', rfl⟩
  · exact p
  · have p : Post K cad (rW K cad) W σ as R H Q (compZ mc z cs') := p
    show Post K cad (rW K cad) W' σ as R _ _ (compZ mc z cs')
    unfold compZ at p ⊢
    cases mc with
    | true => exact go p
    | false => exact go p
theorem lift_compK {W : WX} {mc : Bool} {own : List Nat} {t : Tg} {j : Nat} {conds : List E} {elt : E} {σ : L2.St} {H : Hp} {Q : VK} (hown : tgIn t own = true) (h : liftE K cad W (evE G Φ (.comp mc own t .keys [.v j] conds elt)) σ H Q) :
    tLockE (tLc (tKeysF j) (gT K t) (liftT K cad W0 (evC G Φ conds)) (liftE K cad W0 (evE G Φ elt)) own) σ H Q ∨ tLc (tKeysF j) (gT K t) (liftT K cad W0 (evC G Φ conds)) (liftE K cad W0 (evE G Φ elt)) own σ H Q := by
  obtain ⟨sl, cs, as, R, rel, p⟩ := lift_evG (ev_comp mc own t .keys [.v j] conds elt) h
  have p : Post K cad (rW K cad) W σ as R H Q ((evI G Φ .keys [.v j] sl cs).bind fun ds cs => (compL (compF G Φ own t conds elt sl) ds [] cs).bind (compZ mc)) := p
  rw [evI_keys] at p
  have hev : evK j sl cs = (match sl[j]? with | some (some (.d (.dct ks vs))) => if ks.length = vs.length ∧ ks.length ≤ LIM then Rs.ok (ks.map kD) cs else .stuck | _ => .stuck) := rfl
  cases e : sl[j]? with
  | none => rw [hev, e] at p; exact p.elim
  | some ow =>
    cases ow with
    | none => rw [hev, e] at p; exact p.elim
    | some w =>
      cases w with
      | c _ => rw [hev, e] at p; exact p.elim
      | d x =>
        cases x <;> try (rw [hev, e] at p; exact p.elim)
        case dct ks vs =>
          rw [hev, e] at p
          dsimp only at p
          by_cases hc : ks.length = vs.length ∧ ks.length ≤ LIM
          · rw [if_pos hc] at p
            have p : Post K cad (rW K cad) W σ as R H Q ((compL (compF G Φ own t conds elt sl) (ks.map kD) [] cs).bind (compZ mc)) := p
            obtain ⟨v, ev, iv⟩ := rel.sl j _ e
            obtain ⟨a, us, rfl, na, rd, rfl, hv⟩ := iv
            have nl : a ∉ live as := fun z => na (List.mem_append_left _ z)
            rcases rd with rd | ⟨o, rd⟩
            · refine .inl ⟨a, .dK us, rd, trivial, fun od => ?_⟩
              have rel1 := rel.lk (H2 := upd H a (.frz od (.dK us))) (Lk.lock rd) fun b hb => upd_ne (fun z : b = a => nl (by rw [← z]; exact hb))
              refine ⟨a, od, us, ev, upd_same, ?_⟩
              refine comp_in (mc := mc) (W := W0) (own := own) hown rel1 ⟨by rw [List.length_map]; exact hc.2, wk_keys upd_same na⟩ (Post.unlock rd nl compL_ok p)
            · refine .inr ⟨a, o, us, ev, rd, ?_⟩
              exact comp_in hown rel ⟨by rw [List.length_map]; exact hc.2, wk_keys rd na⟩ p
          · rw [if_neg hc] at p
            exact p.elim
def compFA (G : Pg) (Φ : Nat → List PD.W → List M → Rs PD.W) (own : List Nat) (t : Tg) (conds : List E) (elt : E) (sl : Sl) (d : D) (cs : List M) : Rs (Option D) := match bindT t (.d d) (wipeS sl own) with
  | some sl' => (evC G Φ conds sl' cs).bind fun b cs => if b = true then (evE G Φ elt sl' cs).bind fun w cs => match w with
      | .d x => if atomD x = true then .ok (some x) cs else .stuck
      | .c _ => .stuck
    else .ok none cs
  | none => .stuck
theorem compFA_F {own : List Nat} {t : Tg} {conds : List E} {elt : E} {sl : Sl} {d : D} {cs cs' : List M} {o : Option D} (h : compFA G Φ own t conds elt sl d cs = .ok o cs') : compF G Φ own t conds elt sl d cs = .ok o cs' ∧ ∀ x, o = some x → atomD x = true := by
  unfold compFA at h
  unfold compF
  cases eb : bindT t (.d d) (wipeS sl own) with
  | none => rw [eb] at h; cases h
  | some sl' =>
    rw [eb] at h
    dsimp only at h ⊢
    cases ec : evC G Φ conds sl' cs with
    | stuck => rw [ec] at h; cases h
    | ex C ks vs cs2 => rw [ec] at h; cases h
    | ok b cs2 =>
      rw [ec] at h
      cases b with
      | false => cases h; exact ⟨rfl, fun x e => by cases e⟩
      | true =>
        have h : ((evE G Φ elt sl' cs2).bind fun w cs => match w with | .d x => if atomD x = true then Rs.ok (some x) cs else .stuck | .c _ => .stuck) = .ok o cs' := h
        show ((evE G Φ elt sl' cs2).bind fun w cs => match w with | .d x => Rs.ok (some x) cs | .c _ => .stuck) = .ok o cs' ∧ _
        cases ee : evE G Φ elt sl' cs2 with
        | stuck => rw [ee] at h; cases h
        | ex C ks vs cs2 => rw [ee] at h; cases h
        | ok w cs3 =>
          rw [ee] at h
          cases w with
          | c _ => cases h
          | d x =>
            have h : (if atomD x = true then Rs.ok (some x) cs3 else .stuck) = .ok o cs' := h
            by_cases ha : atomD x = true
            · rw [if_pos ha] at h
              cases h
              exact ⟨rfl, fun y e => by cases e; exact ha⟩
            · rw [if_neg ha] at h; cases h
theorem compLA_L {own : List Nat} {t : Tg} {conds : List E} {elt : E} {sl : Sl} : ∀ {ds acc z : List D} {cs cs' : List M}, compL (compFA G Φ own t conds elt sl) ds acc cs = .ok z cs' → compL (compF G Φ own t conds elt sl) ds acc cs = .ok z cs' ∧ (acc.all atomD = true → z.all atomD = true)
  | [], acc, z, cs, cs', h => by cases (show Rs.ok acc cs = .ok z cs' from h); exact ⟨rfl, fun h => h⟩
  | d :: ds, acc, z, cs, cs', h => by
    have h : (match compFA G Φ own t conds elt sl d cs with | .ok o cs => compL (compFA G Φ own t conds elt sl) ds (acc ++ o.toList) cs | _ => .stuck) = .ok z cs' := h
    show (match compF G Φ own t conds elt sl d cs with | .ok o cs => compL (compF G Φ own t conds elt sl) ds (acc ++ o.toList) cs | _ => .stuck) = .ok z cs' ∧ _
    cases e : compFA G Φ own t conds elt sl d cs with
    | stuck => rw [e] at h; cases h
    | ex C ks vs cs2 => rw [e] at h; cases h
    | ok o cs2 =>
      rw [e] at h
      obtain ⟨e1, e2⟩ := compFA_F e
      rw [e1]
      obtain ⟨i1, i2⟩ := compLA_L h
      refine ⟨i1, fun ha => i2 ?_⟩
      rw [List.all_append, ha]
      cases o with
      | none => rfl
      | some x => simp [e2 x rfl]
theorem atoms_lk {H H2 : Hp} {F F2 : List Addr} : ∀ {ds : List D} {vs : List V}, ds.all atomD = true → IsDs K cad H F ds vs → IsDs K cad H2 F2 ds vs
  | [], _, _, h => h
  | d :: ds, _, ha, h => by
    obtain ⟨x, r, rfl, h1, h2⟩ := h
    rw [List.all_cons, Bool.and_eq_true] at ha
    refine ⟨x, r, rfl, ?_, atoms_lk ha.2 h2⟩
    cases d <;> first | exact h1 | exact absurd ha.1 (fun z => nomatch z)
theorem lift_compC {W : WX} {own : List Nat} {t : Tg} {j : Nat} {conds : List E} {elt : E} {σ : L2.St} {H : Hp} {Q : VK} (hown : tgIn t own = true) (h : liftE K cad W (evE G Φ (.compc own t j conds elt)) σ H Q) :
    tLockE (tLc (tKeysF j) (gT K t) (liftT K cad W0 (evC G Φ conds)) (liftE K cad W0 (evE G Φ elt)) own) σ H Q := by
  obtain ⟨sl, cs, as, R, rel, p⟩ := h
  have p : Post K cad (rW K cad) W σ as R H Q (match sl[j]? with
    | some (some (.c n)) => (match cs[n]? with
      | some (.dct ks vs) => if ks.length = vs.length ∧ ks.length ≤ LIM then (match compL (compFA G Φ own t conds elt (aloneS n (.dct ks vs) sl)) (ks.map kD) [] [] with
        | .ok ds _ => .ok (.d (.lst ds)) cs
        | _ => .stuck) else .stuck
      | _ => .stuck)
    | _ => .stuck) := p
  cases e : sl[j]? with
  | none => rw [e] at p; exact p.elim
  | some ow =>
    cases ow with
    | none => rw [e] at p; exact p.elim
    | some w =>
      cases w with
      | d x => rw [e] at p; exact p.elim
      | c n =>
        rw [e] at p
        dsimp only at p
        cases ec : cs[n]? with
        | none => rw [ec] at p; exact p.elim
        | some m =>
          cases m <;> try (rw [ec] at p; exact p.elim)
          case dct ks vs =>
            rw [ec] at p
            dsimp only at p
            by_cases hc : ks.length = vs.length ∧ ks.length ≤ LIM
            · rw [if_pos hc] at p
              cases el : compL (compFA G Φ own t conds elt (aloneS n (.dct ks vs) sl)) (ks.map kD) [] [] with
              | stuck => rw [el] at p; exact p.elim
              | ex C ks vs cs2 => rw [el] at p; exact p.elim
              | ok z cz =>
                rw [el] at p
                have p : Post K cad (rW K cad) W σ as R H Q (.ok (.d (.lst z)) cs) := p
                obtain ⟨l1, l2⟩ := compLA_L el
                have za := l2 rfl
                obtain ⟨v, ev, hi, hv⟩ := rel.sl j _ e
                obtain ⟨oa, ho⟩ : ∃ o, as[n]? = some o := ⟨as[n], by simp [hi]⟩
                cases oa with
                | none => rw [rel.cells.dead n ho] at ec; cases ec
                | some a =>
                  obtain ⟨us, rd, rfl, hu⟩ := rel.cells.at_ n a _ ho ec
                  have ev2 := hv a ho
                  subst ev2
                  have la : a ∈ live as := mem_live.mpr ⟨n, ho⟩
                  refine ⟨a, .dK us, rd, trivial, fun od => ?_⟩
                  have hR : ∀ b, b ∈ (live as).filter (fun b => decide (b ≠ a)) ++ R → b ∈ Av as R := fun b hb => by
                    rcases List.mem_append.mp hb with hb | hb
                    · exact List.mem_append_left _ (List.mem_filter.mp hb).1
                    · exact List.mem_append_right _ hb
                  have hna : a ∉ (live as).filter (fun b => decide (b ≠ a)) ++ R := fun hb => by
                    rcases List.mem_append.mp hb with hb | hb
                    · have := (List.mem_filter.mp hb).2
                      simp at this
                    · exact rel.cells.apart a la hb
                  have kp : Kp H (Av as R) (upd H a (.frz od (.dK us))) (Av [] ((live as).filter (fun b => decide (b ≠ a)) ++ R)) := by
                    refine ⟨fun b o eb hb => ?_, fun b hb => .inl (hR b hb)⟩
                    rw [upd_ne (fun z : b = a => hb (by rw [z]; exact List.mem_append_left _ la))]
                    exact eb
                  have c1 : Cells K cad [] ((live as).filter (fun b => decide (b ≠ a)) ++ R) (upd H a (.frz od (.dK us))) [] := by
                    refine ⟨rfl, fun i j b e1 _ => by simp at e1, fun i e1 => by simp at e1, fun i b m e1 _ => by simp at e1, fun b hb => by simp [live] at hb, fun b hb => ?_⟩
                    obtain ⟨o, z⟩ := rel.cells.hF b (hR b hb)
                    have hba : b ≠ a := fun q => hna (q ▸ hb)
                    exact ⟨o, by rw [upd_ne hba]; exact z⟩
                  have rel1 : Rel K cad [] ((live as).filter (fun b => decide (b ≠ a)) ++ R) (upd H a (.frz od (.dK us))) (aloneS n (.dct (us.map (·.1)) vs) sl) [] σ := by
                    refine ⟨by unfold aloneS; rw [List.length_map]; exact rel.len, fun i w ew => ?_, c1⟩
                    unfold aloneS at ew
                    rw [List.getElem?_map] at ew
                    cases es : sl[i]? with
                    | none => rw [es] at ew; cases ew
                    | some ow2 =>
                      rw [es] at ew
                      have ew : aloneW n (.dct (us.map (·.1)) vs) ow2 = some w := Option.some.inj ew
                      cases ow2 with
                      | none => cases ew
                      | some w2 =>
                        obtain ⟨v2, e2, i2⟩ := rel.sl i _ es
                        cases w2 with
                        | d y =>
                          cases (show some (PD.W.d y) = some w from ew)
                          exact ⟨v2, e2, IsD.mono kp (d := y) i2⟩
                        | c k =>
                          have ew : (if k = n then some (PD.W.d (.dct (us.map (·.1)) vs)) else none) = some w := ew
                          by_cases hk : k = n
                          · rw [if_pos hk] at ew
                            cases ew
                            subst hk
                            refine ⟨v2, e2, ?_⟩
                            rw [i2.2 a ho]
                            exact ⟨a, us, rfl, hna, .inr ⟨od, upd_same⟩, rfl, hu.mono kp⟩
                          · rw [if_neg hk] at ew; cases ew
                  refine ⟨a, od, us, ev, upd_same, ?_⟩
                  refine comp_in (G := G) (Φ := Φ) (conds := conds) (elt := elt) (Q := fun v H' => H' a = some (.frz od (.dK us)) ∧ Q v (upd H' a (.dK us))) (mc := false) (W := W0) (own := own) hown rel1 ⟨by rw [List.length_map]; exact hc.2, wk_keys upd_same hna⟩ ?_
                  rw [l1]
                  intro v' H' as' x c iv
                  have e1 : H' a = some (.frz od (.dK us)) := x.keep a _ upd_same (by simp [live])
                  refine ⟨e1, p v' (upd H' a (.dK us)) as ?_ ?_ ?_⟩
                  · refine ⟨Nat.le_refl _, fun _ _ _ e => e, fun i b hi e => ?_, fun b o eb hb => ?_, fun b o eb => ?_⟩
                    · have := (List.getElem?_eq_some_iff.mp e).1
                      omega
                    · have hba : b ≠ a := fun z => hb (by rw [z]; exact la)
                      rw [upd_ne hba]
                      exact x.keep b o (by rw [upd_ne hba]; exact eb) (by simp [live])
                    · by_cases hba : b = a
                      · exact ⟨_, by rw [hba, upd_same]⟩
                      · rw [upd_ne hba]
                        exact ⟨o, x.keep b o (by rw [upd_ne hba]; exact eb) (by simp [live])⟩
                  · have kp2 : Kp H (Av as R) (upd H' a (.dK us)) (Av as R) := by
                      refine ⟨fun b o eb hb => ?_, fun b hb => .inl hb⟩
                      have hba : b ≠ a := fun z => hb (by rw [z]; exact List.mem_append_left _ la)
                      rw [upd_ne hba]
                      exact x.keep b o (by rw [upd_ne hba]; exact eb) (by simp [live])
                    have same : ∀ b o, H b = some o → (upd H' a (.dK us)) b = some o := fun b o eb => by
                      by_cases hba : b = a
                      · subst hba
                        rw [rd] at eb
                        cases eb
                        exact upd_same
                      · rw [upd_ne hba]
                        exact x.keep b o (by rw [upd_ne hba]; exact eb) (by simp [live])
                    exact rel.cells.same same
                  · obtain ⟨q, xs, rfl, hl, hx⟩ := iv
                    refine ⟨q, xs, rfl, ?_, atoms_lk za hx⟩
                    rcases hl with ⟨hq, hr⟩ | hr
                    · have hqa : q ≠ a := fun z => by
                        rw [z] at hr
                        rcases hr with hr | ⟨o, hr⟩
                        · rw [e1] at hr; cases hr
                        · rw [e1] at hr; cases hr
                      refine .inl ⟨fun m => ?_, ?_⟩
                      · rcases List.mem_append.mp m with m | m
                        · exact hq (List.mem_append_right _ (List.mem_append_left _ (List.mem_filter.mpr ⟨m, by simpa using hqa⟩)))
                        · exact hq (List.mem_append_right _ (List.mem_append_right _ m))
                      · rcases hr with hr | ⟨o, hr⟩
                        · exact .inl (by rw [upd_ne hqa]; exact hr)
                        · exact .inr ⟨o, by rw [upd_ne hqa]; exact hr⟩
                    · exact .inr hr
            · rw [if_neg hc] at p
              exact p.elim
section
variable {mc : Bool} {own : List (Str × Nat)} {t : Tg} {conds : List E} {elt : E} {eltE tg : Expr} {ifs : List Expr} {scope : Scope} {j : Nat} {x : Str} {px : Pos}
theorem r_compK (hc : X.calm = true) (hN : X.N.Nodup) (hj : X.N[j]? = some x) (hv : Vis X.env.scope x) (hd : (x == ("__debug__" : Str)) = false) (hcd : (x == ("__classdict__" : Str)) = false) (ok : BlkOk X.N X.env.scope scope own) (hg : ∀ (s : Shared) (H : Hp) (C : Addr) (cl : List (Str × Addr)) (fp : List Addr), SG (X.blk s H scope (compEnvC scope cl C X.env) fp) t tg)
    (ht : ∀ (s : Shared) (H : Hp) (C : Addr) (cl : List (Str × Addr)) (fp : List Addr), SC G Φ cad (X.blk s H scope (compEnvC scope cl C X.env) fp) conds ifs) (he : ∀ (s : Shared) (H : Hp) (C : Addr) (cl : List (Str × Addr)) (fp : List Addr), SE G Φ cad (X.blk s H scope (compEnvC scope cl C X.env) fp) elt eltE)
    (hown : tgIn t (own.map (·.2)) = true) : SE G Φ cad X (.comp mc (own.map (·.2)) t .keys [.v j] conds elt) (.ListComp eltE [⟨tg, .Name x px, ifs, 0⟩] scope pos) := fun W tk => by
  have h := pe_lc (pos := pos) (g := gT X.K t) (tt := liftT X.K cad W0 (evC G Φ conds)) (te := liftE X.K cad W0 (evE G Φ elt)) hc hN (i_keysF (pos := px) hj hv hd hcd) ok (fun s H C cl fp => hg s H C cl fp) (fun s H C cl fp => ht s H C cl fp W0 takesB) (fun s H C cl fp => he s H C cl fp W0 takesB) (fun _ => rfl)
  exact (pe_alt (pe_lock h) h).imp fun σ H Q h => lift_compK hown h
theorem r_compC (hc : X.calm = true) (hN : X.N.Nodup) (hj : X.N[j]? = some x) (hv : Vis X.env.scope x) (hd : (x == ("__debug__" : Str)) = false) (hcd : (x == ("__classdict__" : Str)) = false) (ok : BlkOk X.N X.env.scope scope own) (hg : ∀ (s : Shared) (H : Hp) (C : Addr) (cl : List (Str × Addr)) (fp : List Addr), SG (X.blk s H scope (compEnvC scope cl C X.env) fp) t tg)
    (ht : ∀ (s : Shared) (H : Hp) (C : Addr) (cl : List (Str × Addr)) (fp : List Addr), SC G Φ cad (X.blk s H scope (compEnvC scope cl C X.env) fp) conds ifs) (he : ∀ (s : Shared) (H : Hp) (C : Addr) (cl : List (Str × Addr)) (fp : List Addr), SE G Φ cad (X.blk s H scope (compEnvC scope cl C X.env) fp) elt eltE)
    (hown : tgIn t (own.map (·.2)) = true) : SE G Φ cad X (.compc (own.map (·.2)) t j conds elt) (.ListComp eltE [⟨tg, .Name x px, ifs, 0⟩] scope pos) := fun W tk => by
  have h := pe_lc (pos := pos) (g := gT X.K t) (tt := liftT X.K cad W0 (evC G Φ conds)) (te := liftE X.K cad W0 (evE G Φ elt)) hc hN (i_keysF (pos := px) hj hv hd hcd) ok (fun s H C cl fp => hg s H C cl fp) (fun s H C cl fp => ht s H C cl fp W0 takesB) (fun s H C cl fp => he s H C cl fp W0 takesB) (fun _ => rfl)
  exact (pe_lock h).imp fun σ H Q h => lift_compC hown h
end
end
end PD
set_option Elab.async false
set_option linter.all false
set_option maxRecDepth 100000
set_option maxHeartbeats 4000000
namespace PD
open PySem PySem.Spec PyProof.Rows L2
section
variable {X : Cx} {CX : CXT} {k : Nat} {f C : Addr} {fd : FuncData} {ps : List Str} {sp : Sp} {E : L2.St → XK} {x m : Str} {p pos apos : Pos} {e o : Expr} {es : List Expr} {ta : TE} {t : TA}
theorem pe_callS0 (F : FnOk X.prog X.w X.K X.mg X.base CX k f fd ps sp) (hr : Room k X.A) (hg : Gl X x) (hm : X.mg x = some (.ref f)) (hk : PySem.W.keepIn X.K (.ref f) = true) (hb : Binds X.K fd ps []) (hx : ∀ σ, PassesAt CX X σ (E σ))
    (hdb : (x == ("__debug__" : Str)) = false) : PE X (.Call (.Name x p) [] [] pos) (tCallS sp E tNil) := by
  refine ⟨fun pins s σ H Q I h => ?_⟩
  refine wpAny_Call_Name_kw (ld_glob I hg hm ?_ hdb)
  exact PySem.W.callWith_K0 I.kIn hk (run_fnS (us := []) F hr hb (hx σ) I .nil h)
def tMethD (K : PySem.W.Frag) (m : Str) (ok : Addr → Addr → (List V → Hp → VK → XK → Prop) → Prop) (E : L2.St → XK) (ta : TE) (t : TA) : TE := fun σ H Q => ta σ H fun x H1 => ∃ a C f dx fs sp, x = .ref a ∧ H1 a = some (.ins C dx fs) ∧ fs.lookup m = none ∧ Cls K C ∧ Meth K C m f ∧ ok C f sp ∧
  t σ H1 fun vs H2 => sp (x :: vs) H2 Q (E σ)
theorem pe_methD {ok : Addr → Addr → Sp → Prop} {pl : Sem Bool} (hok : ∀ C f sp, ok C f sp → ∃ k fd ps, FnOk X.prog X.w X.K X.mg X.base CX k f fd ps sp ∧ Room k X.A ∧ Binds X.K fd ps []) (he : PE X o ta) (hx : ∀ σ, PassesAt CX X σ (E σ)) (ha : PA X (e :: es) t)
    (hst : starEach (e :: es) X.env = (false, eval e X.env) :: starEach es X.env) (hpl : (backTo pos (starEach es X.env)).any (·.1) = false)
    (ht : eval (.Call (.Attribute o m apos) (e :: es) [] pos) X.env = (do
      let ov ← eval o X.env
      standAt apos.atName
      let (f, first) ← holding [ov] (getMethod ov m pl)
      callWith pos f first (backTo pos (starEach (e :: es) X.env)) (backToKw pos (keywordEach [] X.env)))) :
    PE X (.Call (.Attribute o m apos) (e :: es) [] pos) (tMethD X.K m ok E ta t) := by
  refine ⟨fun pins s σ H Q I h => ?_⟩
  refine PySem.W.methodCall_KW (pl := pl) (thn (he.run pins s σ H _ I h) fun u s1 ⟨x, H1, I1, rx, a, C, f, dx, fs, sp, ex, ea, l, c, hm, hk, q⟩ => ?_) ht
  subst ex
  obtain rfl : u = Value.ref a := rx
  obtain ⟨k, fd, ps, F, hr, hb⟩ := hok C f sp hk
  refine getmeth_ok I1 ea c hm l ?_
  refine PySem.W.callWith_K (first := [.ref a]) (h₀ := X.base) I.ok.mod.kin hm.kp (thn (ha.run pos pins s1 σ H1 _ I1 q) fun us s2 ⟨vs, H2, I2, r, q2⟩ => ⟨I2.kIn, ?_⟩) hst hpl
  exact run_fnS (us := .ref a :: us) (vs := .ref a :: vs) F hr hb (hx σ) I2 (.cons rfl r) q2
theorem pe_methD0 {ok : Addr → Addr → Sp → Prop} {pl : Sem Bool} (hok : ∀ C f sp, ok C f sp → ∃ k fd ps, FnOk X.prog X.w X.K X.mg X.base CX k f fd ps sp ∧ Room k X.A ∧ Binds X.K fd ps []) (he : PE X o ta) (hx : ∀ σ, PassesAt CX X σ (E σ))
    (ht : eval (.Call (.Attribute o m apos) [] [] pos) X.env = (do
      let ov ← eval o X.env
      standAt apos.atName
      let (f, first) ← holding [ov] (getMethod ov m pl)
      callWith pos f first (backTo pos (starEach [] X.env)) (backToKw pos (keywordEach [] X.env)))) :
    PE X (.Call (.Attribute o m apos) [] [] pos) (tMethD X.K m ok E ta tNil) := by
  refine ⟨fun pins s σ H Q I h => ?_⟩
  refine PySem.W.methodCall_KW (pl := pl) (thn (he.run pins s σ H _ I h) fun u s1 ⟨x, H1, I1, rx, a, C, f, dx, fs, sp, ex, ea, l, c, hm, hk, q⟩ => ?_) ht
  subst ex
  obtain rfl : u = Value.ref a := rx
  obtain ⟨k, fd, ps, F, hr, hb⟩ := hok C f sp hk
  refine getmeth_ok I1 ea c hm l ?_
  exact PySem.W.callWith_K0 (first := [.ref a]) I1.kIn hm.kp (run_fnS (us := [.ref a]) (vs := [.ref a]) F hr hb (hx σ) I1 (.cons rfl .nil) q)
theorem run_makeS {pins : List (Addr × Obj)} {σ : L2.St} {H : Hp} {s : Shared} {Q : VK} {us : List Value} {vs : List V} (M : Mk X.K C f) (F : FnOk X.prog X.w X.K X.mg X.base CX k f fd ps sp) (hr : Room (k + 1) X.A) (hb : Binds X.K fd ps [])
    (hx : PassesAt CX X σ (E σ)) (I : Inv X pins σ H s) (r : Vals vs us)
    (h : ∀ x dx, H x = none → H dx = none → dx ≠ x → sp (.ref x :: vs) (upd (upd H dx (.own x)) x (.ins C dx [])) (fun v H2 => v = .non ∧ Q (.ref x) H2) (E σ)) :
    wpAny (model X.prog X.w) X.A (PySem.call (.ref C) us) (EP X pins σ Q) X.xe s := by
  have hq := h (s.heap.objs.size + 1) s.heap.objs.size (I.hok.fresh (Nat.le_succ _)) (I.hok.fresh (Nat.le_refl _)) (Nat.ne_of_lt (Nat.lt_succ_self _))
  have I2 := Inv.made (C := C) I
  have r2 : Vals (V.ref (s.heap.objs.size + 1) :: vs) (Value.ref (s.heap.objs.size + 1) :: us) := .cons rfl r
  have hl : (Value.ref (s.heap.objs.size + 1) :: us).length = ps.length := by
    have e := r2.length
    rw [F.len _ _ _ _ hq] at e
    exact e.symm
  have b := hb _ (Value.ref (s.heap.objs.size + 1) :: us) I2.kIn (by rw [List.append_nil]; exact hl)
  rw [List.append_nil] at b
  refine wpAny_call (make_map (f := f) I.kIn M.makes M.init (beq_iff_eq.mp M.fn) (codeAny_mono (F.run _ X.stack _ _ ⟨Value.ref (s.heap.objs.size + 1) :: us, []⟩ (Value.ref (s.heap.objs.size + 1) :: us) _ _ (E σ) (hr.make C us [])
    (I2.env0.make C us []) b r2 hq) fun r s' hq' => ?_))
  cases r with
  | error e => exact hx pins _ _ e s' I2 hq'
  | ok fl =>
    cases fl with
    | ret u =>
      obtain ⟨v, H', I3, rv, ev, q3⟩ := I2.after hq'
      subst ev
      exact ⟨rv, ⟨V.ref (s.heap.objs.size + 1), H', I3, rfl, q3⟩⟩
    | next => exact False.elim hq'
    | brk => exact False.elim hq'
    | cont => exact False.elim hq'
def tMakeS (C : Addr) (sp : Sp) (E : L2.St → XK) (t : TA) : TE := fun σ H Q => t σ H fun vs H1 => ∀ x dx, H1 x = none → H1 dx = none → dx ≠ x → sp (.ref x :: vs) (upd (upd H1 dx (.own x)) x (.ins C dx [])) (fun v H2 => v = .non ∧ Q (.ref x) H2) (E σ)
theorem pe_makeS (M : Mk X.K C f) (F : FnOk X.prog X.w X.K X.mg X.base CX k f fd ps sp) (hr : Room (k + 1) X.A) (hg : Gl X x) (hm : X.mg x = some (.ref C)) (hb : Binds X.K fd ps []) (hx : ∀ σ, PassesAt CX X σ (E σ))
    (ha : PA X (e :: es) t) (hdb : (x == ("__debug__" : Str)) = false) (he : starEach (e :: es) X.env = (false, eval e X.env) :: starEach es X.env) (hpl : (backTo pos (starEach es X.env)).any (·.1) = false) :
    PE X (.Call (.Name x p) (e :: es) [] pos) (tMakeS C sp E t) := by
  refine ⟨fun pins s σ H Q I h => ?_⟩
  refine wpAny_Call_Name_kw (ld_glob I hg hm ?_ hdb)
  refine PySem.W.callWith_K (h₀ := X.base) I.ok.mod.kin M.kp (thn (ha.run pos pins s σ H _ I h) fun us s1 ⟨vs, H1, I1, r, q⟩ => ⟨I1.kIn, ?_⟩) he hpl
  exact run_makeS M F hr hb (hx σ) I1 r q
theorem pe_makeS0 (M : Mk X.K C f) (F : FnOk X.prog X.w X.K X.mg X.base CX k f fd ps sp) (hr : Room (k + 1) X.A) (hg : Gl X x) (hm : X.mg x = some (.ref C)) (hb : Binds X.K fd ps []) (hx : ∀ σ, PassesAt CX X σ (E σ))
    (hdb : (x == ("__debug__" : Str)) = false) : PE X (.Call (.Name x p) [] [] pos) (tMakeS C sp E tNil) := by
  refine ⟨fun pins s σ H Q I h => ?_⟩
  refine wpAny_Call_Name_kw (ld_glob I hg hm ?_ hdb)
  exact PySem.W.callWith_K0 I.kIn M.kp (run_makeS (us := []) M F hr hb (hx σ) I .nil h)
end
section
variable {G : Pg} {Φ : Nat → List PD.W → List M → Rs PD.W} {cad : Nat → Addr} {X : Cx} {K : PySem.W.Frag} {pos p apos : Pos} {x : Str} {k : Nat} {f C : Addr} {fd : FuncData} {ps : List Str} {i : Nat} {e a : Expr} {es : List Expr} {ds : List E} {da : E}
theorem lift_call {W : WX} {i : Nat} {σ : L2.St} {H : Hp} {Q : VK} (h : liftE K cad W (evE G Φ (.call i ds)) σ H Q) : tCallS (spOf K cad (Φ i)) (WE W) (liftA K cad W (evEs G Φ ds)) σ H Q :=
  lift_mono (lift_bind0 (IsA := rWs K cad) (IsB := rW K cad) (g := evEs G Φ ds) (f := fun _ ws cs => callW (Φ i) ws cs) h) fun vs H1 ⟨sl, cs, as, R, ws, rel, iw, p⟩ => call_sp rel.cells iw p
theorem tail_star (h : (e :: es).all notStar = true) : notStar e = true ∧ es.all notStar = true := by rw [List.all_cons, Bool.and_eq_true] at h; exact h
theorem r_call (F : FnOk X.prog X.w X.K X.mg X.base (L2.CX X.prog X.w) k f fd ps (spOf X.K cad (Φ i))) (hr : Room k X.A) (hg : Gl X x) (hm : X.mg x = some (.ref f)) (hk : PySem.W.keepIn X.K (.ref f) = true) (hb : Binds X.K fd ps [])
    (ha : SA G Φ cad X ds (e :: es)) (hs : (e :: es).all notStar = true) (hdb : (x == ("__debug__" : Str)) = false) : SE G Φ cad X (.call i ds) (.Call (.Name x p) (e :: es) [] pos) := fun W tk =>
  (pe_callS F hr hg hm hk hb (fun σ => passAt tk σ) (ha W tk) hdb (star_of (tail_star hs).1) (noStars es (tail_star hs).2 pos)).imp fun σ H Q h => lift_call h
theorem lift_nil {W : WX} {σ : L2.St} {H : Hp} {Q : List V → Hp → Prop} (h : liftA K cad W (evEs G Φ []) σ H Q) : tNil σ H Q := by
  obtain ⟨sl, cs, as, R, rel, p⟩ := h
  exact (show Post K cad (rWs K cad) W σ as R H Q (.ok [] cs) from p) [] H as Ext.refl rel.cells rfl
theorem r_call0 (F : FnOk X.prog X.w X.K X.mg X.base (L2.CX X.prog X.w) k f fd ps (spOf X.K cad (Φ i))) (hr : Room k X.A) (hg : Gl X x) (hm : X.mg x = some (.ref f)) (hk : PySem.W.keepIn X.K (.ref f) = true) (hb : Binds X.K fd ps [])
    (hdb : (x == ("__debug__" : Str)) = false) : SE G Φ cad X (.call i []) (.Call (.Name x p) [] [] pos) := fun W tk =>
  (pe_callS0 F hr hg hm hk hb (fun σ => passAt tk σ) hdb).imp fun σ H Q h => lift_nil (lift_call h)
theorem look_get : ∀ {us : List (Str × V)} {vs : List D} {F : List Addr} {H : Hp} {f : Str} {d : D}, IsDs K cad H F vs (us.map (·.2)) → fget (us.map (·.1)) vs f = some d → ∃ v, us.lookup f = some v ∧ IsD K cad H F d v
  | [], vs, _, _, _, _, h, e => by
    cases vs with
    | nil => cases e
    | cons _ _ => cases e
  | (k, v) :: us, vs, F, H, f, d, h, e => by
    cases vs with
    | nil => cases e
    | cons y ys =>
      obtain ⟨x, r, ex, h1, h2⟩ := h
      have ex : v :: us.map (·.2) = x :: r := ex
      injection ex with e1 e2
      subst e1 e2
      have e : (if f = k then some y else fget (us.map (·.1)) ys f) = some d := e
      by_cases hf : f = k
      · rw [if_pos hf] at e
        cases e
        exact ⟨v, by rw [List.lookup_cons, hf]; simp, h1⟩
      · rw [if_neg hf] at e
        obtain ⟨z, q1, q2⟩ := look_get h2 e
        exact ⟨z, by rw [List.lookup_cons, beq_false_of_ne hf]; exact q1, q2⟩
theorem look_none {us : List (Str × V)} {f : Str} (h : (us.map (·.1)).contains f = false) : us.lookup f = none := by
  induction us with
  | nil => rfl
  | cons u us ih =>
    obtain ⟨k, v⟩ := u
    rw [List.map_cons, List.contains_cons, Bool.or_eq_false_iff] at h
    rw [List.lookup_cons, h.1]
    exact ih h.2
theorem r_fld {fn : Str} (hc : ∀ C, G.fld C fn = true → Cls X.K (cad C) ∧ NoAttr X.K (cad C) fn) (ha : SE G Φ cad X da a) (hb : attributeBase a fn X.env (eval a X.env) = eval a X.env) : SE G Φ cad X (.fld da fn) (.Attribute a fn pos) := fun W tk =>
  (pe_fld (ha W tk) hb).imp fun σ H Q h => by
    refine lift_mono (lift_bind0 (IsA := rW X.K cad) (IsB := rW X.K cad) (g := evE G Φ da) (f := fun _ w cs => match pk w cs with
      | some (.obj C ks vs) => if G.fld C fn = true then Rs.ofO ((fget ks vs fn).map PD.W.d) cs else .stuck
      | _ => .stuck) h) fun x H1 ⟨sl, cs, as, R, w, rel, iw, p⟩ => ?_
    cases e : pk w cs with
    | none => simp only [e] at p; exact p.elim
    | some d =>
      cases d with
      | obj C ks vs =>
        simp only [e] at p
        by_cases hf : G.fld C fn = true
        · rw [if_pos hf] at p
          obtain ⟨a, dx, us, rfl, ea, rfl, hd⟩ := iw.pkD rel.cells e
          cases e2 : fget (us.map (·.1)) vs fn with
          | none => rw [e2] at p; exact p.elim
          | some d =>
            rw [e2] at p
            obtain ⟨v, q1, q2⟩ := look_get hd e2
            exact ⟨a, cad C, dx, us, v, rfl, ea, (hc C hf).1, (hc C hf).2, q1, Post.data rel.cells p (Same.refl _) q2⟩
        · rw [if_neg hf] at p
          exact p.elim
      | _ => simp only [e] at p; exact p.elim
def okM (X : Cx) (G : Pg) (Φ : Nat → List PD.W → List M → Rs PD.W) (cad : Nat → Addr) (m : Str) : Addr → Addr → Sp → Prop := fun Ca f sp => ∃ C i k fd ps, Ca = cad C ∧ G.meth C m = some i ∧ sp = spOf X.K cad (Φ i) ∧ FnOk X.prog X.w X.K X.mg X.base (L2.CX X.prog X.w) k f fd ps sp ∧ Room k X.A ∧ Binds X.K fd ps []
theorem okM_ok {m : Str} : ∀ C f sp, okM X G Φ cad m C f sp → ∃ k fd ps, FnOk X.prog X.w X.K X.mg X.base (L2.CX X.prog X.w) k f fd ps sp ∧ Room k X.A ∧ Binds X.K fd ps [] := fun C f sp ⟨_, _, k, fd, ps, _, _, _, F, hr, hb⟩ => ⟨k, fd, ps, F, hr, hb⟩
theorem lift_meth {W : WX} {m : Str} {σ : L2.St} {H : Hp} {Q : VK}
    (hc : ∀ C i, G.meth C m = some i → Cls X.K (cad C) ∧ ∃ f, Meth X.K (cad C) m f ∧ okM X G Φ cad m (cad C) f (spOf X.K cad (Φ i))) (h : liftE X.K cad W (evE G Φ (.meth da m ds)) σ H Q) :
    tMethD X.K m (okM X G Φ cad m) (WE W) (liftE X.K cad W (evE G Φ da)) (liftA X.K cad W (evEs G Φ ds)) σ H Q := by
  refine lift_mono (lift_bind0 (IsA := rW X.K cad) (IsB := rW X.K cad) (g := evE G Φ da) (f := fun sl w cs => match methF G m (pk w cs) with
    | some f => (evEs G Φ ds sl cs).bind fun ws cs => callW (Φ f) (w :: ws) cs
    | none => .stuck) h) fun x H1 ⟨sl, cs, as, R, w, rel, iw, p⟩ => ?_
  cases e : methF G m (pk w cs) with
  | none => simp only [e] at p; exact p.elim
  | some i =>
    simp only [e] at p
    unfold methF at e
    split at e
    · rename_i C ks vs eo
      by_cases hk : ks.contains m = true
      · rw [if_pos hk] at e
        cases e
      · rw [if_neg hk] at e
        obtain ⟨a, dx, us, rfl, ea, rfl, hd⟩ := iw.pkD rel.cells eo
        obtain ⟨cl, f, hm, ok⟩ := hc C i e
        refine ⟨a, cad C, f, dx, us, _, rfl, ea, look_none (by simpa using hk), cl, hm, ok, ?_⟩
        refine lift_mono (lift_bind (IsA := rWs X.K cad) (IsB := rW X.K cad) (hs := [w]) (vs := [.ref a]) (g := evEs G Φ ds) (f := fun _ ws cs => callW (Φ i) (w :: ws) cs) ⟨sl, cs, as, R, rel, ⟨_, [], rfl, iw, rfl⟩, p⟩) fun vs H2 ⟨sl, cs, as, R, ws, rel, ih, iws, p⟩ => ?_
        obtain ⟨x', r, e', ix, _⟩ := ih
        cases e'
        exact call_sp (ws := w :: ws) (vs := .ref a :: vs) rel.cells ⟨_, _, rfl, ix, iws⟩ p
    · cases e
theorem r_meth {m : Str} {pl : Sem Bool} (hc : ∀ C i, G.meth C m = some i → Cls X.K (cad C) ∧ ∃ f, Meth X.K (cad C) m f ∧ okM X G Φ cad m (cad C) f (spOf X.K cad (Φ i))) (ha : SE G Φ cad X da a) (hd : SA G Φ cad X ds (e :: es)) (hs : (e :: es).all notStar = true)
    (ht : eval (.Call (.Attribute a m apos) (e :: es) [] pos) X.env = (do
      let ov ← eval a X.env
      standAt apos.atName
      let (f, first) ← holding [ov] (getMethod ov m pl)
      callWith pos f first (backTo pos (starEach (e :: es) X.env)) (backToKw pos (keywordEach [] X.env)))) : SE G Φ cad X (.meth da m ds) (.Call (.Attribute a m apos) (e :: es) [] pos) := fun W tk =>
  (pe_methD okM_ok (ha W tk) (fun σ => passAt tk σ) (hd W tk) (star_of (tail_star hs).1) (noStars es (tail_star hs).2 pos) ht).imp fun σ H Q h => lift_meth hc h
theorem r_meth0 {m : Str} {pl : Sem Bool} (hc : ∀ C i, G.meth C m = some i → Cls X.K (cad C) ∧ ∃ f, Meth X.K (cad C) m f ∧ okM X G Φ cad m (cad C) f (spOf X.K cad (Φ i))) (ha : SE G Φ cad X da a)
    (ht : eval (.Call (.Attribute a m apos) [] [] pos) X.env = (do
      let ov ← eval a X.env
      standAt apos.atName
      let (f, first) ← holding [ov] (getMethod ov m pl)
      callWith pos f first (backTo pos (starEach [] X.env)) (backToKw pos (keywordEach [] X.env)))) : SE G Φ cad X (.meth da m []) (.Call (.Attribute a m apos) [] [] pos) := fun W tk =>
  (pe_methD0 okM_ok (ha W tk) (fun σ => passAt tk σ) ht).imp fun σ H Q h => lift_mono (lift_meth hc h) fun x H1 ⟨a, C, f, dx, fs, sp, e1, e2, e3, e4, e5, e6, q⟩ => ⟨a, C, f, dx, fs, sp, e1, e2, e3, e4, e5, e6, lift_nil q⟩
theorem lift_make {W : WX} {C i : Nat} {σ : L2.St} {H : Hp} {Q : VK} (hi : G.meth C (Str.ofString "__init__") = some i) (h : liftE K cad W (evE G Φ (.make C ds)) σ H Q) : tMakeS (cad C) (spOf K cad (Φ i)) (WE W) (liftA K cad W (evEs G Φ ds)) σ H Q := by
  refine lift_mono (lift_bind0 (IsA := rWs K cad) (IsB := rW K cad) (g := evEs G Φ ds) (f := fun _ ws cs => match G.meth C (Str.ofString "__init__") with
    | some f => (callW (Φ f) (.c cs.length :: ws) (cs ++ [.obj C [] []])).bind fun r cs' => match r with
      | .d .non => .ok (.c cs.length) cs'
      | _ => .stuck
    | none => .stuck) h) fun vs H1 ⟨sl, cs, as, R, ws, rel, iw, p⟩ => ?_
  intro x dx hx hdx hne
  simp only [hi] at p
  have n1 : upd H1 dx (.own x) x = none := by rw [upd_ne (Ne.symm hne)]; exact hx
  have s1 : Same H1 (upd H1 dx (.own x)) := same_upd hdx
  obtain ⟨c2, x2, i2⟩ := (rel.cells.same s1).push (o := .ins (cad C) dx []) (m := .obj C [] []) n1 ⟨dx, [], upd_same, rfl, rfl⟩
  have xx : Ext H1 as (upd (upd H1 dx (.own x)) x (.ins (cad C) dx [])) (as ++ [some x]) := (Ext.same s1).trans x2
  refine call_sp (W := W) (σ := σ) c2 (ws := .c cs.length :: ws) (vs := .ref x :: vs) ⟨_, _, rfl, i2, iw.mono xx⟩ ?_
  cases e : callW (Φ i) (.c cs.length :: ws) (cs ++ [.obj C [] []]) with
  | stuck => rw [e] at p; exact p.elim
  | ex C' ks vs' cs' =>
    rw [e] at p
    exact fun cls d H' as' x3 c i => p cls d H' as' (xx.trans x3) c i
  | ok r cs' =>
    rw [e] at p
    match r, p with
    | .d .non, p =>
      exact fun v H' as' x3 c i => ⟨i, p (.ref x) H' as' (xx.trans x3) c ⟨Nat.lt_of_lt_of_le i2.1 x3.len, fun a ea => i2.2 a (x3.old _ a i2.1 ea)⟩⟩
    | .d (.bl _), p => exact p.elim
    | .d (.int _), p => exact p.elim
    | .d (.str _), p => exact p.elim
    | .d (.tup _), p => exact p.elim
    | .d (.lst _), p => exact p.elim
    | .d (.dct _ _), p => exact p.elim
    | .d (.obj _ _ _), p => exact p.elim
    | .d (.exc _ _ _), p => exact p.elim
    | .c _, p => exact p.elim
theorem r_make {C : Nat} (hi : G.meth C (Str.ofString "__init__") = some i) (M : Mk X.K (cad C) f) (F : FnOk X.prog X.w X.K X.mg X.base (L2.CX X.prog X.w) k f fd ps (spOf X.K cad (Φ i))) (hr : Room (k + 1) X.A) (hg : Gl X x) (hm : X.mg x = some (.ref (cad C))) (hb : Binds X.K fd ps [])
    (ha : SA G Φ cad X ds (e :: es)) (hs : (e :: es).all notStar = true) (hdb : (x == ("__debug__" : Str)) = false) : SE G Φ cad X (.make C ds) (.Call (.Name x p) (e :: es) [] pos) := fun W tk =>
  (pe_makeS M F hr hg hm hb (fun σ => passAt tk σ) (ha W tk) hdb (star_of (tail_star hs).1) (noStars es (tail_star hs).2 pos)).imp fun σ H Q h => lift_make hi h
theorem r_make0 {C : Nat} (hi : G.meth C (Str.ofString "__init__") = some i) (M : Mk X.K (cad C) f) (F : FnOk X.prog X.w X.K X.mg X.base (L2.CX X.prog X.w) k f fd ps (spOf X.K cad (Φ i))) (hr : Room (k + 1) X.A) (hg : Gl X x) (hm : X.mg x = some (.ref (cad C))) (hb : Binds X.K fd ps [])
    (hdb : (x == ("__debug__" : Str)) = false) : SE G Φ cad X (.make C []) (.Call (.Name x p) [] [] pos) := fun W tk =>
  (pe_makeS0 M F hr hg hm hb (fun σ => passAt tk σ) hdb).imp fun σ H Q h => lift_nil (lift_make hi h)
end
end PD
set_option Elab.async false
set_option linter.all false
set_option maxRecDepth 100000
set_option maxHeartbeats 4000000
namespace PD
open PySem PySem.Spec PyProof.Rows L2
structure Mk0 (K : PySem.W.Frag) (C : Addr) : Prop where
  makes : PySem.W.makesIn K C = true
  init : PySem.W.findIn K (.ref C) "__init__" = some (some (.builtin "object.__init__"))
  kp : PySem.W.keepIn K (.ref C) = true
  top : PySem.W.mroIn K C (.type "object") = some true
def mk0B (K : PySem.W.Frag) (C : Addr) : Bool := PySem.W.makesIn K C && decide (PySem.W.findIn K (.ref C) "__init__" = some (some (.builtin "object.__init__"))) && PySem.W.keepIn K (.ref C) && decide (PySem.W.mroIn K C (.type "object") = some true)
theorem mk0B_ok {K : PySem.W.Frag} {C : Addr} (h : mk0B K C = true) : Mk0 K C := by
  unfold mk0B at h
  simp only [Bool.and_eq_true] at h
  exact ⟨h.1.1.1, of_decide_eq_true h.1.1.2, h.1.2, of_decide_eq_true h.2⟩
section
variable {X : Cx} {C : Addr} {x : Str} {p pos : Pos}
theorem run_make0 {pins : List (Addr × Obj)} {σ : L2.St} {H : Hp} {s : Shared} {Q : VK} (M : Mk0 X.K C) (I : Inv X pins σ H s)
    (h : ∀ x dx, H x = none → H dx = none → dx ≠ x → Q (.ref x) (upd (upd H dx (.own x)) x (.ins C dx []))) :
    wpAny (model X.prog X.w) X.A (PySem.call (.ref C) []) (EP X pins σ Q) X.xe s := by
  have hq := h (s.heap.objs.size + 1) s.heap.objs.size (I.hok.fresh (Nat.le_succ _)) (I.hok.fresh (Nat.le_refl _)) (Nat.ne_of_lt (Nat.lt_succ_self _))
  have I2 := Inv.made (C := C) I
  have ho : ((s.heap.push PySem.W.emptyDict).push (PySem.W.instObj C s.heap.objs.size)).get? (s.heap.objs.size + 1) = some (PySem.W.instObj C s.heap.objs.size) := by
    have := Heap.get?_push_size (s.heap.push PySem.W.emptyDict) (o := PySem.W.instObj C s.heap.objs.size) rfl
    rwa [Heap.size_push] at this
  have t1 := NwA.type_at (M := model X.prog X.w) (C := C) ho rfl
  have t2 : PySem.W.Looks (model X.prog X.w) ((s.heap.push PySem.W.emptyDict).push (PySem.W.instObj C s.heap.objs.size)) (isInstance (.ref (s.heap.objs.size + 1)) (.type "object")) true := t1.andThen (PySem.W.looks_mroIn I2.kIn M.top)
  refine wpAny_call (make_map0 I.kIn M.makes M.init (fun self => PySem.W.Looks.of_pure (PySem.W.oi_bind _)) ?_)
  refine codeAny_call_builtin PySem.W.oi_plain PySem.W.entry_oi (@PySem.W.check_slot (model X.prog X.w) _ _ _ "object.__init__" "object" "__init__" (.ref (s.heap.objs.size + 1)) [] [] _ PySem.W.oi_kind PySem.W.oi_split t2 (NwA.oi_args_any _ [] []) ?_)
  rw [PySem.W.oi_run]
  exact wpAny_pure (And.intro rfl ⟨V.ref (s.heap.objs.size + 1), _, I2, rfl, hq⟩)
def tNew0 (C : Addr) : TE := fun _ H Q => ∀ x dx, H x = none → H dx = none → dx ≠ x → Q (.ref x) (upd (upd H dx (.own x)) x (.ins C dx []))
theorem pe_new0 (M : Mk0 X.K C) (hg : Gl X x) (hm : X.mg x = some (.ref C)) (hdb : (x == ("__debug__" : Str)) = false) : PE X (.Call (.Name x p) [] [] pos) (tNew0 C) := by
  refine ⟨fun pins s σ H Q I h => ?_⟩
  refine wpAny_Call_Name_kw (ld_glob I hg hm ?_ hdb)
  exact PySem.W.callWith_K0 I.kIn M.kp (run_make0 M I h)
end
section
variable {G : Pg} {Φ : Nat → List PD.W → List M → Rs PD.W} {cad : Nat → Addr} {X : Cx} {K : PySem.W.Frag} {pos p : Pos} {x : Str}
theorem lift_new0 {W : WX} {C : Nat} {σ : L2.St} {H : Hp} {Q : VK} (hg : G.new0 C = true) (h : liftE K cad W (evE G Φ (.new0 C)) σ H Q) : tNew0 (cad C) σ H Q := by
  obtain ⟨sl, cs, as, R, rel, p⟩ := h
  intro x dx hx hdx hne
  have e : evE G Φ (.new0 C) sl cs = .ok (.c cs.length) (cs ++ [.obj C [] []]) := by
    show (if G.new0 C = true then _ else _) = _
    rw [if_pos hg]
  rw [e] at p
  have n1 : upd H dx (.own x) x = none := by rw [upd_ne (Ne.symm hne)]; exact hx
  have s1 : Same H (upd H dx (.own x)) := same_upd hdx
  obtain ⟨c2, x2, i2⟩ := (rel.cells.same s1).push (o := .ins (cad C) dx []) (m := .obj C [] []) n1 ⟨dx, [], upd_same, rfl, rfl⟩
  have xx : Ext H as (upd (upd H dx (.own x)) x (.ins (cad C) dx [])) (as ++ [some x]) := (Ext.same s1).trans x2
  exact p (.ref x) _ _ xx c2 i2
theorem r_new0 {C : Nat} (hi : G.new0 C = true) (M : Mk0 X.K (cad C)) (hg : Gl X x) (hm : X.mg x = some (.ref (cad C))) (hdb : (x == ("__debug__" : Str)) = false) : SE G Φ cad X (.new0 C) (.Call (.Name x p) [] [] pos) := fun W tk =>
  (pe_new0 M hg hm hdb).imp fun σ H Q h => lift_new0 hi h
end
end PD
set_option Elab.async false
set_option linter.all false
set_option maxRecDepth 100000
set_option maxHeartbeats 4000000
namespace PD
open PySem PySem.Spec PyProof.Rows L2
section
variable {K : PySem.W.Frag} {cad : Nat → Addr} {as as' : AS} {R R' : List Addr} {H H' : Hp} {sl : Sl} {cs cs' : List M} {σ : L2.St} {D0 : Addr}
theorem Cells.adoptM {m0 : M} (c : Cells K cad as (D0 :: R) H cs) (hn : D0 ∉ R) (h : CellM K cad H (Av (as ++ [some D0]) R) D0 m0) :
    Cells K cad (as ++ [some D0]) R H (cs ++ [m0]) ∧ IsW K cad (as ++ [some D0]) R H (.c cs.length) (.ref D0) := by
  have kp : Kp H (Av as (D0 :: R)) H (Av (as ++ [some D0]) R) := kp_sub fun a m => av_adopt m
  have cut : ∀ i a, (as ++ [some D0])[i]? = some (some a) → (i < as.length ∧ as[i]? = some (some a)) ∨ (i = as.length ∧ a = D0) := fun i a e => by
    by_cases hi : i < as.length
    · rw [List.getElem?_append_left hi] at e
      exact .inl ⟨hi, e⟩
    · rw [List.getElem?_append_right (by omega)] at e
      have h0 : i - as.length = 0 := by
        have := lt_of_get e
        simp at this
        omega
      rw [h0] at e
      cases e
      exact .inr ⟨by omega, rfl⟩
  refine ⟨⟨by simp [c.len], fun i j a e1 e2 => ?_, fun i q => ?_, fun i a m e1 e2 => ?_, fun a m z => ?_, fun a m => c.rl a (List.mem_cons_of_mem _ m)⟩, ⟨by simp [c.len], fun a q => ?_⟩⟩
  · rcases cut i a e1 with ⟨_, q1⟩ | ⟨q1, z1⟩
    · rcases cut j a e2 with ⟨_, q2⟩ | ⟨q2, z2⟩
      · exact c.inj i j a q1 q2
      · exact absurd List.mem_cons_self (z2 ▸ c.apart a (mem_live.mpr ⟨i, q1⟩))
    · rcases cut j a e2 with ⟨_, q2⟩ | ⟨q2, z2⟩
      · exact absurd List.mem_cons_self (z1 ▸ c.apart a (mem_live.mpr ⟨j, q2⟩))
      · omega
  · by_cases hi : i < as.length
    · rw [List.getElem?_append_left hi] at q
      rw [List.getElem?_append_left (by rw [← c.len]; exact hi)]
      exact c.dead i q
    · rw [List.getElem?_append_right (by omega)] at q
      have h0 : i - as.length = 0 := by
        have := lt_of_get q
        simp at this
        omega
      rw [h0] at q
      cases q
  · rcases cut i a e1 with ⟨hi, q1⟩ | ⟨q1, z1⟩
    · rw [List.getElem?_append_left (by rw [← c.len]; exact hi)] at e2
      exact (c.at_ i a m q1 e2).mono kp fun _ e => e
    · subst q1
      subst z1
      rw [c.len, List.getElem?_append_right (Nat.le_refl _), Nat.sub_self] at e2
      cases e2
      exact h
  · obtain ⟨i, q⟩ := mem_live.mp m
    rcases cut i a q with ⟨_, q1⟩ | ⟨_, z1⟩
    · exact c.apart a (mem_live.mpr ⟨i, q1⟩) (List.mem_cons_of_mem _ z)
    · exact hn (z1 ▸ z)
  · rw [← c.len] at q
    rcases cut _ a q with ⟨hi, _⟩ | ⟨_, z⟩
    · omega
    · rw [z]
theorem putK_new {kvs : List (Key × V)} {k : Key} {v : V} (h : k ∉ kvs.map (·.1)) : putK kvs k v = kvs ++ [(k, v)] := by
  unfold putK
  rw [if_neg]
  intro z
  obtain ⟨p, hp, e⟩ := List.any_eq_true.mp z
  exact h (List.mem_map.mpr ⟨p, hp, of_decide_eq_true e⟩)
theorem mergeK_nodup : ∀ (more kvs : List (Key × V)), ((kvs ++ more).map (·.1)).Nodup → mergeK kvs more = kvs ++ more
  | [], kvs, _ => (List.append_nil kvs).symm
  | p :: r, kvs, h => by
    have hp : p.1 ∉ kvs.map (·.1) := fun z => by
      rw [List.map_append, List.map_cons] at h
      exact (List.nodup_append.mp h).2.2 _ z _ List.mem_cons_self rfl
    show mergeK (putK kvs p.1 p.2) r = _
    rw [putK_new hp, mergeK_nodup r (kvs ++ [(p.1, p.2)]) (by rw [List.append_assoc]; exact h), List.append_assoc]
    rfl
theorem kD_is {F : List Addr} {k : Key} {v : V} (h : IsD K cad H F (kD k) v) : v = kV k := by
  cases k with
  | inl i => exact h
  | inr x => exact h
end
section
variable {G : Pg} {Φ : Nat → List PD.W → List M → Rs PD.W} {cad : Nat → Addr} {X : Cx} {K : PySem.W.Frag} {pos : Pos}
def dTrs (G : Pg) (Φ : Nat → List PD.W → List M → Rs PD.W) (K : PySem.W.Frag) (cad : Nat → Addr) : List Key → List E → List (TE × TE)
  | k :: ks, e :: es => (liftE K cad W0 (evE G Φ (.c (kD k))), liftE K cad W0 (evE G Φ e)) :: dTrs G Φ K cad ks es
  | _, _ => []
theorem dsp_pairs {sl : Sl} {σ : L2.St} : ∀ (ks : List Key) (es : List E) (as : AS) (R : List Addr) (H : Hp) (cs : List M) (ws : List PD.W) (cs' : List M) (ds : List D) (Q : List (V × V) → Hp → Prop), ks.length = es.length → Rel K cad as R H sl cs σ → evEs G Φ es sl cs = .ok ws cs' → dats ws = some ds →
    (∀ H' as' xs, Ext H as H' as' → Cells K cad as' R H' cs' → IsDs K cad H' (Av as' R) ds xs → Q ((List.zip ks xs).map fun kv => (kV kv.1, kv.2)) H') → tPairs (dTrs G Φ K cad ks es) σ H Q
  | [], [], as, R, H, cs, ws, cs', ds, Q, _, rel, e, ed, hQ => by
    cases (show Rs.ok [] cs = .ok ws cs' from e)
    cases (show some [] = some ds from ed)
    exact hQ H as [] Ext.refl rel.cells rfl
  | [], _ :: _, as, R, H, cs, ws, cs', ds, Q, hl, rel, e, ed, hQ => by cases hl
  | _ :: _, [], as, R, H, cs, ws, cs', ds, Q, hl, rel, e, ed, hQ => by cases hl
  | k :: ks, d :: es, as, R, H, cs, ws, cs', ds, Q, hl, rel, e, ed, hQ => by
    have e : ((evE G Φ d sl cs).bind fun w cs => (evEs G Φ es sl cs).bind fun ws cs => .ok (w :: ws) cs) = .ok ws cs' := e
    cases e1 : evE G Φ d sl cs with
    | stuck => rw [e1] at e; cases e
    | ex C ks vs cs2 => rw [e1] at e; cases e
    | ok w cs1 =>
      rw [e1] at e
      have e : ((evEs G Φ es sl cs1).bind fun ws cs => .ok (w :: ws) cs) = .ok ws cs' := e
      cases e2 : evEs G Φ es sl cs1 with
      | stuck => rw [e2] at e; cases e
      | ex C ks vs cs2 => rw [e2] at e; cases e
      | ok ws2 cs2 =>
        rw [e2] at e
        cases e
        cases w with
        | c _ => cases (show none = some ds from ed)
        | d y =>
          have ed : (dats ws2).map (y :: ·) = some ds := ed
          cases e3 : dats ws2 with
          | none => rw [e3] at ed; cases ed
          | some ds2 =>
            rw [e3] at ed
            cases ed
            refine ⟨sl, cs, as, R, rel, ?_⟩
            intro x H1 as1 x1 c1 i1
            refine ⟨sl, cs, as1, R, rel.mono x1 c1, ?_⟩
            rw [e1]
            intro v H2 as2 x2 c2 i2
            have ex := kD_is i1
            subst ex
            refine dsp_pairs ks es as2 R H2 cs1 ws2 cs' ds2 _ (by simpa using hl) ((rel.mono x1 c1).mono x2 c2) e2 e3 fun H3 as3 xs x3 c3 i3 => ?_
            exact hQ H3 as3 (v :: xs) ((x1.trans x2).trans x3) c3 ⟨v, xs, rfl, IsD.mono x3.kp' i2, i3⟩
theorem lift_dsp {W : WX} {mc : Bool} {ks : List Key} {es : List E} {σ : L2.St} {H : Hp} {Q : VK} (hlen : ks.length = es.length) (h : liftE K cad W (evE G Φ (.dsp mc ks es)) σ H Q) : tDisp (dTrs G Φ K cad ks es) σ H Q := by
  obtain ⟨sl, cs, as, R, rel, p⟩ := h
  intro D0 hD
  have p : Post K cad (rW K cad) W σ as R H Q (match evEs G Φ es sl cs with
    | .ok ws cs => (match dats ws with
      | some ds => if ks.Nodup ∧ ks.length = ds.length ∧ ks.length ≤ 15 then (if mc = true then .ok (.c cs.length) (cs ++ [.dct ks ds]) else .ok (.d (.dct ks ds)) cs) else .stuck
      | none => .stuck)
    | _ => .stuck) := p
  cases e : evEs G Φ es sl cs with
  | stuck => rw [e] at p; exact p.elim
  | ex C ks vs cs2 => rw [e] at p; exact p.elim
  | ok ws cs1 =>
    rw [e] at p
    dsimp only at p
    cases ed : dats ws with
    | none => rw [ed] at p; exact p.elim
    | some ds =>
      rw [ed] at p
      have p : Post K cad (rW K cad) W σ as R H Q (if ks.Nodup ∧ ks.length = ds.length ∧ ks.length ≤ 15 then (if mc = true then .ok (.c cs1.length) (cs1 ++ [.dct ks ds]) else .ok (.d (.dct ks ds)) cs1) else .stuck) := p
      by_cases hc : ks.Nodup ∧ ks.length = ds.length ∧ ks.length ≤ 15
      · rw [if_pos hc] at p
        obtain ⟨hn, hl, h15⟩ := hc
        have hDR : D0 ∉ R := fun m => by
          obtain ⟨u, z⟩ := rel.cells.rl D0 m
          rw [hD] at z
          cases z
        obtain ⟨c2, x2⟩ := rel.cells.enter (o := .dK []) hD
        have rel2 : Rel K cad as (D0 :: R) (upd H D0 (.dK [])) sl cs σ := rel.mono2 x2 (kp_in hD) c2
        refine dsp_pairs ks es as (D0 :: R) _ cs ws cs1 ds _ hlen rel2 e ed fun H' as' xs x3 c3 i3 => ?_
        have e3 : H' D0 = some (.dK []) := x3.keep D0 _ upd_same fun m => c2.apart D0 m List.mem_cons_self
        have xl : xs.length = ks.length := by rw [← i3.length, hl]
        have mf : (List.zip ks xs).map (·.1) = ks := List.map_fst_zip (by omega)
        have ms : (List.zip ks xs).map (·.2) = xs := List.map_snd_zip (by omega)
        refine ⟨e3, List.zip ks xs, rfl, by rw [List.length_zip]; omega, ?_⟩
        rw [mergeK_nodup _ [] (by rw [List.nil_append, mf]; exact hn), List.nil_append]
        have hm : D0 ∈ Av as' (D0 :: R) := List.mem_append_right _ List.mem_cons_self
        have c4 : Cells K cad as' (D0 :: R) (upd H' D0 (.dK (List.zip ks xs))) cs1 := c3.writeR List.mem_cons_self
        have i4 : IsDs K cad (upd H' D0 (.dK (List.zip ks xs))) (Av as' (D0 :: R)) ds xs := i3.mono (kp_wr hm)
        have xx := x2.trans x3
        have x4 : Ext H as (upd H' D0 (.dK (List.zip ks xs))) as' := by
          refine ⟨xx.len, xx.old, xx.new, fun a o ea m => ?_, fun a o ea => ?_⟩
          · rw [upd_ne (fun z => by rw [z, hD] at ea; cases ea)]
            exact xx.keep a o ea m
          · by_cases z : a = D0
            · exact ⟨_, by rw [z, upd_same]⟩
            · obtain ⟨o', q'⟩ := xx.there a o ea
              exact ⟨o', by rw [upd_ne z]; exact q'⟩
        cases mc with
        | true =>
          rw [if_pos rfl] at p
          have kp : Kp (upd H' D0 (.dK (List.zip ks xs))) (Av as' (D0 :: R)) (upd H' D0 (.dK (List.zip ks xs))) (Av (as' ++ [some D0]) R) := kp_sub fun a m => av_adopt m
          obtain ⟨c5, i5⟩ := c4.adoptM (m0 := .dct ks ds) hDR ⟨List.zip ks xs, upd_same, mf, by rw [ms]; exact i4.mono kp⟩
          refine p (.ref D0) _ _ ?_ c5 i5
          refine ⟨by rw [List.length_append]; exact Nat.le_trans x4.len (Nat.le_add_right _ _), fun i a hi ea => ?_, fun i a hi ea => ?_, x4.keep, x4.there⟩
          · rw [List.getElem?_append_left (Nat.lt_of_lt_of_le hi x4.len)] at ea
            exact x4.old i a hi ea
          · by_cases hi2 : i < as'.length
            · rw [List.getElem?_append_left hi2] at ea
              exact x4.new i a hi ea
            · rw [List.getElem?_append_right (by omega)] at ea
              have h0 : i - as'.length = 0 := by
                have := lt_of_get ea
                simp at this
                omega
              rw [h0] at ea
              cases ea
              exact hD
        | false =>
          rw [if_neg (by decide)] at p
          refine p (.ref D0) _ as' x4 c4.leave ⟨D0, List.zip ks xs, rfl, fun m => ?_, .inl upd_same, mf, by rw [ms]; exact i4.mono kp_leave⟩
          rcases List.mem_append.mp m with m | m
          · exact c3.apart D0 m List.mem_cons_self
          · exact hDR m
      · rw [if_neg hc] at p
        exact p.elim
def keysB : List (Option Expr) → List Key → Bool
  | [], [] => true
  | some (.Constant c _ _) :: r, k :: ks => constB c (kD k) && keysB r ks
  | _, _ => false
theorem dsp_pps : ∀ {keys : List (Option Expr)} {ks : List Key} {vals : List Expr} {es : List E}, keysB keys ks = true → vals.length = es.length → ks.length = es.length → (∀ (i : Nat) (e : Expr) (d : E), vals[i]? = some e → es[i]? = some d → SE G Φ cad X d e) → PPs X pos keys vals (dTrs G Φ X.K cad ks es)
  | [], [], [], [], _, _, _, _ => pps_nil
  | [], [], _ :: _, _ :: _, _, _, h, _ => by cases h
  | [], _ :: _, _, _, h, _, _, _ => by cases h
  | some (.Constant c j p) :: r, k :: ks, v :: vals, d :: es, h, h1, h2, hs => by
    have h : (constB c (kD k) && keysB r ks) = true := h
    rw [Bool.and_eq_true] at h
    exact pps_cons (r_const h.1 W0 takesB) (hs 0 v d rfl rfl W0 takesB) (dsp_pps h.2 (by simpa using h1) (by simpa using h2) fun i e d h3 h4 => hs (i + 1) e d h3 h4)
  | some (.Constant c j p) :: r, k :: ks, [], _ :: _, h, h1, h2, hs => by cases h1
  | some (.Constant c j p) :: r, k :: ks, _, [], h, h1, h2, hs => by cases h2
theorem keysB_some : ∀ {keys : List (Option Expr)} {ks : List Key}, keysB keys ks = true → keys.all (·.isSome) = true ∧ keys.length = ks.length
  | [], [], _ => ⟨rfl, rfl⟩
  | [], _ :: _, h => by cases h
  | some (.Constant c j p) :: r, k :: ks, h => by
    have h : (constB c (kD k) && keysB r ks) = true := h
    rw [Bool.and_eq_true] at h
    obtain ⟨h1, h2⟩ := keysB_some h.2
    exact ⟨by rw [List.all_cons, h1]; rfl, by rw [List.length_cons, List.length_cons, h2]⟩
theorem r_dsp {mc : Bool} {keys : List (Option Expr)} {ks : List Key} {vals : List Expr} {es : List E} (hk : keysB keys ks = true) (h1 : vals.length = es.length) (h2 : ks.length = es.length) (h0 : ks ≠ []) (h15 : ks.length ≤ 15) (hs : ∀ (i : Nat) (e : Expr) (d : E), vals[i]? = some e → es[i]? = some d → SE G Φ cad X d e) :
    SE G Φ cad X (.dsp mc ks es) (.Dict keys vals pos) := fun W tk => by
  obtain ⟨a1, a2⟩ := keysB_some hk
  exact (pe_disp (dsp_pps hk h1 h2 hs) a1 (by omega) (fun z => h0 (List.length_eq_zero_iff.mp (by rw [← a2, z]; rfl))) (by omega)).imp fun σ H Q h => lift_dsp h2 h
end
end PD
set_option Elab.async false
set_option linter.all false
set_option maxRecDepth 100000
set_option maxHeartbeats 4000000
namespace PD
open PySem PySem.Spec PyProof.Rows L2
def tgV (cad : Nat → Addr) (g : Nat) : Value := if g < 10 then .type (bty g) else .ref (cad ((g - 10) / 2))
def clV (cad : Nat → Addr) (t : Nat) : Value := if t < 10 then .type (bty t) else .ref (cad (t - 10))
def clX (cad : Nat → Addr) (t : Nat) : V := if t < 10 then .ty (bty t) else .ref (cad (t - 10))
theorem clsV_cl (cad : Nat → Addr) (t : Nat) : ClsV (clX cad t) (clV cad t) := by
  unfold clX clV
  by_cases h : t < 10
  · rw [if_pos h, if_pos h]; exact .ty _
  · rw [if_neg h, if_neg h]; exact .own _
structure OwnC (K : PySem.W.Frag) (C : Addr) : Prop where
  cl : Cls K C
  ha : PySem.W.findIn K (.ref C) "__class__" = some (some (.builtin "object.__class__"))
  hn : PySem.W.specialIn K (.builtin "object.__class__") "__get__" = some (some (.builtin "getset_descriptor.__get__"))
  ht : PySem.W.takesIn K (.builtin "object.__class__") = some true
  hm : PySem.W.mroIn K C (.type "object") = some true
structure IsiF (K : PySem.W.Frag) (cad : Nat → Addr) (isT : Nat → Nat → Option Bool) : Prop where
  one : ∀ g t b, isT g t = some b → PySem.W.kitOne K (tgV cad g) (clV cad t) = some b
  obj : ∀ C t b, isT (2 * C + 10) t = some b → OwnC K (cad C)
  exc : ∀ C t b, isT (2 * C + 11) t = some b → ExcC K (cad C)
  non : ∀ t, isT 9 t = none
section
variable {K : PySem.W.Frag} {cad : Nat → Addr} {isT : Nat → Nat → Option Bool} {X : Cx} {pins : List (Addr × Obj)} {σ : L2.St} {H : Hp} {s : Shared} {F : List Addr}
theorem tgV_obj (C : Nat) : tgV cad (2 * C + 10) = .ref (cad C) := by
  unfold tgV
  rw [if_neg (by omega), show (2 * C + 10 - 10) / 2 = C from by omega]
theorem tgV_exc (C : Nat) : tgV cad (2 * C + 11) = .ref (cad C) := by
  unfold tgV
  rw [if_neg (by omega), show (2 * C + 11 - 10) / 2 = C from by omega]
theorem kitD (f : IsiF X.K cad isT) {d : D} {x : V} {u : Value} {t : Nat} {b : Bool} (I : Inv X pins σ H s) (rx : RelV x u) (h : PkD X.K cad H F d x) (e : isT (tag d) t = some b) :
    ∃ P : Heap → Prop, PySem.W.KitX X.K u (tgV cad (tag d)) P ∧ P s.heap ∧ u ≠ .builtin "__main__.__loader__#opaque" := by
  cases d with
  | non => cases (show x = .non from h); exact kit_of I rx (.base .non)
  | bl c => cases (show x = .bl c from h); exact kit_of I rx (.base (.bl c))
  | int c => cases (show x = .int c from h); exact kit_of I rx (.base (.int c))
  | str c => cases (show x = .str c from h); exact kit_of I rx (.base (.str c))
  | tup ds =>
    obtain ⟨a, xs, rfl, hl, _⟩ := (show ∃ a xs, x = .ref a ∧ TupF X.K H F a xs ∧ IsDs X.K cad H F ds xs from h)
    rcases hl with ⟨_, h2 | ⟨o, h2⟩⟩ | ⟨o, its, n, h1, h2, _⟩
    · exact kit_of I rx (.base (.tup h2))
    · exact kit_of I rx (.fTuple h2)
    · exact kit_of I rx (.kTuple h1 h2)
  | lst ds =>
    obtain ⟨a, xs, rfl, hl, _⟩ := (show ∃ a xs, x = .ref a ∧ SqL X.K H a xs ∧ IsDs X.K cad H F ds xs from h)
    rcases hl with (h2 | ⟨o, h2⟩) | ⟨o, its, n, h1, h2, _⟩
    · exact kit_of I rx (.base (.lst h2))
    · exact kit_of I rx (.base (.frz h2))
    · exact kit_of I rx (.kList h1 h2)
  | dct ks ds =>
    obtain ⟨a, us, rfl, e1, _⟩ := (show ∃ a us, x = .ref a ∧ Rd H a (.dK us) ∧ us.map (·.1) = ks ∧ IsDs X.K cad H F ds (us.map (·.2)) from h)
    rcases e1 with e1 | ⟨o, e1⟩
    · exact kit_of I rx (.base (.dK e1))
    · exact kit_of I rx (.fDict e1)
  | fnc i => rw [show tag (.fnc i) = 9 from rfl, f.non] at e; cases e
  | obj C ks ds =>
    obtain ⟨a, dx, us, rfl, e1, _⟩ := (show ∃ a dx us, x = .ref a ∧ H a = some (.ins (cad C) dx us) ∧ us.map (·.1) = ks ∧ IsDs X.K cad H F ds (us.map (·.2)) from h)
    have o := f.obj C t b e
    rw [show tag (.obj C ks ds) = 2 * C + 10 from rfl, tgV_obj]
    exact kit_of I rx (.base (.ins e1 o.cl o.ha o.hn o.ht o.hm))
  | exc C ks ds =>
    have h : IsD X.K cad H F (.exc C ks ds) x := h
    obtain ⟨a, dd, rfl, _, e1, h3⟩ := h
    cases ks with
    | cons k ks => rw [show tag (.exc C (k :: ks) ds) = 9 from rfl, f.non] at e; cases e
    | nil =>
      rcases h3 with ⟨_, _, rfl⟩ | ⟨z, _⟩
      · have c := f.exc C t b e
        rw [show tag (.exc C [] ds) = 2 * C + 11 from rfl, tgV_exc]
        cases (show u = Value.ref a from rx)
        obtain ⟨⟨oe, vs, h1, h2, h3⟩, _⟩ := (show ObjOk X.prog X.w H s.heap a (exO (.ref (cad C)) none a) from I.hok a _ e1)
        refine ⟨_, PySem.W.handS_kitx_exc (ox := oe) c.hg c.hk c.hs c.hd c.ha c.hn c.ht c.hm, ?_, fun z => nomatch z⟩
        obtain ⟨oc, od, oda, osl⟩ := oe
        obtain ⟨z1, z2⟩ := h2
        dsimp only at z1 z2 h3
        subst z1 z2 h3
        exact ⟨h1, rfl, rfl, trivial⟩
      · exact absurd rfl z
theorem kitAny_of (f : IsiF K cad isT) (g : Nat) : ∀ {ts : List Nat} {b : Bool}, tyAny isT g ts = some b → PySem.W.kitAny K (tgV cad g) (ts.map (clV cad)) = some b
  | [], b, e => e
  | t :: ts, b, e => by
    have e : (match isT g t with | some true => some true | some false => tyAny isT g ts | none => none) = some b := e
    cases q : isT g t with
    | none => rw [q] at e; cases e
    | some c =>
      rw [q] at e
      refine kitAny_cons (f.one g t c q) (fun hc => ?_) (fun hc => ?_)
      · subst hc; exact kitAny_of f g e
      · subst hc; exact (Option.some.inj (show some true = some b from e)).symm
theorem tyAny_first {g : Nat} : ∀ {ts : List Nat} {b : Bool}, tyAny isT g ts = some b → ts ≠ [] → ∃ t c, isT g t = some c
  | [], _, _, h => absurd rfl h
  | t :: ts, b, e, _ => by
    have e : (match isT g t with | some true => some true | some false => tyAny isT g ts | none => none) = some b := e
    cases q : isT g t with
    | none => rw [q] at e; cases e
    | some c => exact ⟨t, c, q⟩
def rIs1 (K : PySem.W.Frag) (cad : Nat → Addr) (isT : Nat → Nat → Option Bool) (t : Nat) : List V → Hp → VK → Prop := fun xs H Q => ∃ x, xs = [x, clX cad t] ∧ r1O K cad isT (.isi [t]) x H Q
theorem call_is1 (f : IsiF X.K cad isT) {t : Nat} : CallR X (.builtin "isinstance") (rIs1 X.K cad isT t) := by
  intro pins s σ H xs us Q I r h
  obtain ⟨x, rfl, F, ds, d, hF, hp, hs, q⟩ := h
  obtain ⟨d0, rfl, hp1⟩ := pk1 hp
  have hs : (tyAny isT (tag d0) [t]).map D.bl = some d := hs
  cases e : tyAny isT (tag d0) [t] with
  | none => rw [e] at hs; cases hs
  | some b =>
    rw [e] at hs
    cases hs
    obtain ⟨u1, u2, rfl, r1, r2⟩ := vals2 r
    have e2 := (clsV_cl cad t).eq r2
    subst e2
    have et : isT (tag d0) t = some b := by
      have e : (match isT (tag d0) t with | some true => some true | some false => some false | none => none) = some b := e
      cases q : isT (tag d0) t with
      | none => rw [q] at e; cases e
      | some c => rw [q] at e; cases c <;> exact e
    obtain ⟨P, Z, p, hx⟩ := kitD f I r1 hp1 et
    exact PySem.W.kia_one Z I.kIn p (f.one _ _ _ et) hx fun tk => ⟨.bl b, H, I.tok tk, rfl, q _ H (Same.refl H) rfl⟩
def rIsM (K : PySem.W.Frag) (cad : Nat → Addr) (isT : Nat → Nat → Option Bool) (ts : List Nat) : List V → Hp → VK → Prop := fun xs H Q => ts ≠ [] ∧ ∃ x tp, xs = [x, .ref tp] ∧ H tp = some (.tup (ts.map (clX cad))) ∧ r1O K cad isT (.isi ts) x H Q
theorem clsP (cad : Nat → Addr) : ∀ ts : List Nat, Paired ClsV (ts.map (clX cad)) (ts.map (clV cad))
  | [] => .nil
  | t :: ts => .cons (clsV_cl cad t) (clsP cad ts)
theorem call_isM (f : IsiF X.K cad isT) {ts : List Nat} : CallR X (.builtin "isinstance") (rIsM X.K cad isT ts) := by
  intro pins s σ H xs us Q I r h
  obtain ⟨hne, x, tp, rfl, hT, F, ds, d, hF, hp, hs, q⟩ := h
  obtain ⟨d0, rfl, hp1⟩ := pk1 hp
  have hs : (tyAny isT (tag d0) ts).map D.bl = some d := hs
  cases e : tyAny isT (tag d0) ts with
  | none => rw [e] at hs; cases hs
  | some b =>
    rw [e] at hs
    cases hs
    obtain ⟨u1, u2, rfl, r1, r2⟩ := vals2 r
    cases (show u2 = Value.ref tp from r2)
    obtain ⟨t, c, et⟩ := tyAny_first e hne
    obtain ⟨P, Z, p, hx⟩ := kitD f I r1 hp1 et
    obtain ⟨_, its, rv, o, h1, h2, n, h3⟩ := (show ObjOk X.prog X.w H s.heap tp (.tup (ts.map (clX cad))) from I.hok tp _ hT)
    have e3 := ClsV.all (clsP cad ts) rv
    subst e3
    obtain ⟨oc, od, dt, sl⟩ := o
    simp only at h2 h3
    subst h2 h3
    exact PySem.W.kia_tup Z I.kIn p h1 (kitAny_of f _ e) hx fun tk => ⟨.bl b, H, I.tok tk, rfl, q _ H (Same.refl H) rfl⟩
def ClsE (X : Cx) (cad : Nat → Addr) (t : Nat) (c : Expr) : Prop := PE X c (tC (clX cad t)) ∧ notStar c = true
theorem cls_bt {x : Str} {pos : Pos} {t : Nat} (ht : t < 10) (hg : Gl X x) (hm : X.mg x = none) (hv : bootBuiltins x = some (.type (bty t))) (hn : x ≠ "__name__") (hd : (x == ("__debug__" : Str)) = false) : ClsE X cad t (.Name x pos) := ⟨by
  unfold clX
  rw [if_pos ht]
  exact pe_bltn hg hm hv rfl hn hd, rfl⟩
theorem cls_own {x : Str} {pos : Pos} {C : Nat} (hg : Gl X x) (hm : X.mg x = some (.ref (cad C))) (hd : (x == ("__debug__" : Str)) = false) : ClsE X cad (C + 10) (.Name x pos) := ⟨by
  unfold clX
  rw [if_neg (by omega), show C + 10 - 10 = C from by omega]
  exact pe_glob hg hm rfl hd, rfl⟩
inductive ClsEs (X : Cx) (cad : Nat → Addr) : List Nat → List Expr → Prop
  | nil : ClsEs X cad [] []
  | cons {t ts c cs} : ClsE X cad t c → ClsEs X cad ts cs → ClsEs X cad (t :: ts) (c :: cs)
def tTs (vs : List V) : TA := fun _ H Q => Q vs H
theorem ClsEs.pa : ∀ {ts : List Nat} {cs : List Expr}, ClsEs X cad ts cs → PA X cs (tTs (ts.map (clX cad)))
  | _, _, .nil => pa_nil
  | _, _, .cons h r => (pa_cons h.1 (ClsEs.pa r) (star_of h.2)).imp fun σ H Q q => q
variable {G : Pg} {Φ : Nat → List PD.W → List M → Rs PD.W} {a c : Expr} {da : E} {p p2 pos : Pos}
theorem r_is1 {t : Nat} (f : IsiF X.K cad G.isT) (hg : Gl X "isinstance") (hm : X.mg "isinstance" = none) (ha : SE G Φ cad X da a) (hs : notStar a = true) (hc : ClsE X cad t c) : SE G Φ cad X (.op (.isi [t]) [da]) (.Call (.Name "isinstance" p) [a, c] [] pos) := fun W tk => by
  refine (pe_callB (call_is1 f (t := t)) hg hm PyProof.Rows.boot_isinstance (pa_cons (ha W tk) (pa_cons hc.1 pa_nil (star_of hc.2)) (star_of hs)) (by decide) (by decide) (star_of hs) (by rw [star_of hc.2]; rfl)).imp fun σ H Q h => ?_
  exact lift_mono (lift_op1 h) fun x H1 q => ⟨x, rfl, q⟩
theorem r_isM {ts : List Nat} {cs : List Expr} {k : Nat} (f : IsiF X.K cad G.isT) (hne : ts ≠ []) (hl : ts.length ≤ 100) (hg : Gl X "isinstance") (hm : X.mg "isinstance" = none) (ha : SE G Φ cad X da a) (hs : notStar a = true) (hc : ClsEs X cad ts cs) : SE G Φ cad X (.op (.isi ts) [da]) (.Call (.Name "isinstance" p) [a, .Tuple cs k p2] [] pos) := fun W tk => by
  refine (pe_callB (call_isM f (ts := ts)) hg hm PyProof.Rows.boot_isinstance (pa_cons (ha W tk) (pa_cons (pe_tup hc.pa) pa_nil) (star_of hs)) (by decide) (by decide) (star_of hs) (by rfl)).imp fun σ H Q h => ?_
  refine lift_mono (lift_op1 h) fun x H1 ⟨F, ds, d, hF, hp, hsm, q⟩ => ⟨?_, fun q0 hq => ⟨hne, x, q0, rfl, upd_same, F, ds, d, fun a ha => ?_, ?_, hsm, fun v H' s i => q v H' (Same.trans (same_upd hq) s) i⟩⟩
  · rw [List.length_map]
    have := sizeLine_eq
    omega
  · obtain ⟨u, e⟩ := hF a ha
    exact ⟨u, same_upd hq a u e⟩
  · obtain ⟨d0, rfl, hp1⟩ := pk1 hp
    exact ⟨x, [], rfl, hp1.mono (Kp.same (same_upd hq)) (same_upd hq), rfl⟩
end
end PD
set_option Elab.async false
set_option linter.all false
set_option maxRecDepth 100000
set_option maxHeartbeats 4000000
namespace PD
open PySem PySem.Spec PyProof.Rows L2
section
variable {X : Cx} {CX : CXT} {i : Nat} {E : L2.St → XK} {x : Str} {p pos : Pos} {e : Expr} {es : List Expr} {t : TA}
def tCallV (i : Nat) (ok : Addr → Sp → Prop) (E : L2.St → XK) (t : TA) : TE := fun σ H Q => ∃ f sp, σ[i]? = some (some (.ref f)) ∧ ok f sp ∧ t σ H fun vs H1 => sp vs H1 Q (E σ)
theorem pe_callV {ok : Addr → Sp → Prop} (hok : ∀ f sp, ok f sp → ∃ k fd ps, FnOk X.prog X.w X.K X.mg X.base CX k f fd ps sp ∧ Room k X.A ∧ PySem.W.keepIn X.K (.ref f) = true ∧ Binds X.K fd ps []) (hN : X.N[i]? = some x) (hv : Vis X.env.scope x) (hx : ∀ σ, PassesAt CX X σ (E σ)) (ha : PA X (e :: es) t)
    (hdb : (x == ("__debug__" : Str)) = false) (hcd : (x == ("__classdict__" : Str)) = false) (he : starEach (e :: es) X.env = (false, eval e X.env) :: starEach es X.env) (hpl : (backTo pos (starEach es X.env)).any (·.1) = false) : PE X (.Call (.Name x p) (e :: es) [] pos) (tCallV i ok E t) := by
  refine ⟨fun pins s σ H Q I ⟨f, sp, hs, hk, h⟩ => ?_⟩
  obtain ⟨k, fd, ps, F, hr, hkp, hb⟩ := hok f sp hk
  refine wpAny_Call_Name_kw (thn ((pe_var (pos := p) hN hv hdb hcd).run pins s σ H (fun v H1 => v = .ref f ∧ H1 = H) I ⟨.ref f, hs, rfl, rfl⟩) fun u s1 ⟨v, H1, I1, r1, ev, eH⟩ => ?_)
  subst ev eH
  cases r1
  refine PySem.W.callWith_K (h₀ := X.base) I1.ok.mod.kin hkp (thn (ha.run pos pins s1 σ _ _ I1 h) fun us s2 ⟨vs, H2, I2, r2, q⟩ => ⟨I2.kIn, ?_⟩) he hpl
  exact run_fnS F hr hb (hx σ) I2 r2 q
end
section
variable {G : Pg} {Φ : Nat → List PD.W → List M → Rs PD.W} {cad : Nat → Addr} {X : Cx} {K : PySem.W.Frag} {pos p : Pos} {x : Str} {e : Expr} {es : List Expr} {ds : List E} {j k : Nat}
theorem r_fv {i : Nat} (hg : Gl X x) (hm : X.mg x = some (.ref (cad (1000000 + i)))) (hdb : (x == ("__debug__" : Str)) = false) : SE G Φ cad X (.fv i) (.Name x pos) := fun W tk =>
  (pe_glob hg hm (show RelV (.ref (cad (1000000 + i))) _ from rfl) hdb).imp fun σ H Q ⟨sl, cs, as, R, rel, p⟩ =>
    Post.data (d := .fnc i) rel.cells (show Post X.K cad (rW X.K cad) W σ as R H Q (.ok (.d (.fnc i)) cs) from p) (Same.refl H) rfl
def okV (X : Cx) (G : Pg) (Φ : Nat → List PD.W → List M → Rs PD.W) (cad : Nat → Addr) : Addr → Sp → Prop := fun f sp => ∃ i, f = cad (1000000 + i) ∧ G.fvs i = true ∧ sp = spOf X.K cad (Φ i)
theorem r_callv (hok : ∀ i, G.fvs i = true → ∃ k fd ps, FnOk X.prog X.w X.K X.mg X.base (L2.CX X.prog X.w) k (cad (1000000 + i)) fd ps (spOf X.K cad (Φ i)) ∧ Room k X.A ∧ PySem.W.keepIn X.K (.ref (cad (1000000 + i))) = true ∧ Binds X.K fd ps [])
    (hN : X.N[j]? = some x) (hv : Vis X.env.scope x) (ha : SA G Φ cad X ds (e :: es)) (hs : (e :: es).all notStar = true) (hdb : (x == ("__debug__" : Str)) = false) (hcd : (x == ("__classdict__" : Str)) = false) : SE G Φ cad X (.callv j ds) (.Call (.Name x p) (e :: es) [] pos) := fun W tk => by
  refine (pe_callV (CX := L2.CX X.prog X.w) (E := WE W) (ok := okV X G Φ cad) (fun f sp ⟨i, e1, e2, e3⟩ => by subst e1 e3; exact hok i e2) hN hv (fun σ => passAt tk σ) (ha W tk) hdb hcd (star_of (tail_star hs).1) (noStars es (tail_star hs).2 pos)).imp fun σ H Q ⟨sl, cs, as, R, rel, p⟩ => ?_
  have p : Post X.K cad (rW X.K cad) W σ as R H Q (match sl[j]? with
    | some (some (.d (.fnc f))) => if G.fvs f = true then (evEs G Φ ds sl cs).bind fun ws cs => callW (Φ f) ws cs else .stuck
    | _ => .stuck) := p
  cases e1 : sl[j]? with
  | none => rw [e1] at p; exact p.elim
  | some ow =>
    cases ow with
    | none => rw [e1] at p; exact p.elim
    | some w =>
      cases w with
      | c _ => rw [e1] at p; exact p.elim
      | d x =>
        cases x <;> try (rw [e1] at p; exact p.elim)
        case fnc f =>
          rw [e1] at p
          dsimp only at p
          by_cases hf : G.fvs f = true
          · rw [if_pos hf] at p
            obtain ⟨v, ev, iv⟩ := rel.sl j _ e1
            cases (show v = .ref (cad (1000000 + f)) from iv)
            refine ⟨_, _, ev, ⟨f, rfl, hf, rfl⟩, ?_⟩
            exact lift_mono (lift_bind0 (IsA := rWs X.K cad) (IsB := rW X.K cad) (g := evEs G Φ ds) (f := fun _ ws cs => callW (Φ f) ws cs) ⟨sl, cs, as, R, rel, p⟩) fun vs H1 ⟨sl, cs, as, R, ws, rel, iw, p⟩ => call_sp rel.cells iw p
          · rw [if_neg hf] at p
            exact p.elim
def dTrE (G : Pg) (Φ : Nat → List PD.W → List M → Rs PD.W) (K : PySem.W.Frag) (cad : Nat → Addr) : List E → List (TE × TE)
  | k :: v :: r => (liftE K cad W0 (evE G Φ k), liftE K cad W0 (evE G Φ v)) :: dTrE G Φ K cad r
  | _ => []
theorem dspE_pairs {sl : Sl} {σ : L2.St} : ∀ (n : Nat) (es : List E) (as : AS) (R : List Addr) (H : Hp) (cs : List M) (ws : List PD.W) (cs' : List M) (ds : List D) (ps : List (Key × D)) (Q : List (V × V) → Hp → Prop), es.length ≤ n → Rel K cad as R H sl cs σ → evEs G Φ es sl cs = .ok ws cs' → dats ws = some ds → twosOf ds = some ps →
    (∀ H' as' (kvs : List (Key × V)), Ext H as H' as' → Cells K cad as' R H' cs' → ps.map (·.1) = kvs.map (·.1) → IsDs K cad H' (Av as' R) (ps.map (·.2)) (kvs.map (·.2)) → Q (kvs.map fun kv => (kV kv.1, kv.2)) H') → tPairs (dTrE G Φ K cad es) σ H Q
  | 0, [], as, R, H, cs, ws, cs', ds, ps, Q, _, rel, e, ed, ep, hQ => by
    cases (show Rs.ok [] cs = .ok ws cs' from e)
    cases (show some [] = some ds from ed)
    cases (show some [] = some ps from ep)
    exact hQ H as [] Ext.refl rel.cells rfl rfl
  | 0, _ :: _, as, R, H, cs, ws, cs', ds, ps, Q, hn, rel, e, ed, ep, hQ => by cases hn
  | n + 1, [], as, R, H, cs, ws, cs', ds, ps, Q, _, rel, e, ed, ep, hQ => by
    cases (show Rs.ok [] cs = .ok ws cs' from e)
    cases (show some [] = some ds from ed)
    cases (show some [] = some ps from ep)
    exact hQ H as [] Ext.refl rel.cells rfl rfl
  | n + 1, [k], as, R, H, cs, ws, cs', ds, ps, Q, _, rel, e, ed, ep, hQ => by
    have e : ((evE G Φ k sl cs).bind fun w cs => (Rs.ok [] cs).bind fun ws cs => Rs.ok (w :: ws) cs) = .ok ws cs' := e
    cases e1 : evE G Φ k sl cs with
    | stuck => rw [e1] at e; cases e
    | ex C ks vs cs2 => rw [e1] at e; cases e
    | ok w cs1 =>
      rw [e1] at e
      cases e
      cases w with
      | c _ => cases (show none = some ds from ed)
      | d y =>
        cases (show some [y] = some ds from ed)
        cases (show none = some ps from ep)
  | n + 1, k :: d :: es, as, R, H, cs, ws, cs', ds, ps, Q, hn, rel, e, ed, ep, hQ => by
    have e : ((evE G Φ k sl cs).bind fun w cs => ((evE G Φ d sl cs).bind fun w cs => (evEs G Φ es sl cs).bind fun ws cs => Rs.ok (w :: ws) cs).bind fun ws cs => Rs.ok (w :: ws) cs) = .ok ws cs' := e
    cases e0 : evE G Φ k sl cs with
    | stuck => rw [e0] at e; cases e
    | ex C ks vs cs2 => rw [e0] at e; cases e
    | ok wk cs0 =>
      rw [e0] at e
      have e : (((evE G Φ d sl cs0).bind fun w cs => (evEs G Φ es sl cs).bind fun ws cs => Rs.ok (w :: ws) cs).bind fun ws cs => Rs.ok (wk :: ws) cs) = .ok ws cs' := e
      cases e1 : evE G Φ d sl cs0 with
      | stuck => rw [e1] at e; cases e
      | ex C ks vs cs2 => rw [e1] at e; cases e
      | ok w cs1 =>
        rw [e1] at e
        have e : (((evEs G Φ es sl cs1).bind fun ws cs => Rs.ok (w :: ws) cs).bind fun ws cs => Rs.ok (wk :: ws) cs) = .ok ws cs' := e
        cases e2 : evEs G Φ es sl cs1 with
        | stuck => rw [e2] at e; cases e
        | ex C ks vs cs2 => rw [e2] at e; cases e
        | ok ws2 cs2 =>
          rw [e2] at e
          cases e
          cases wk with
          | c _ => cases (show none = some ds from ed)
          | d x =>
            cases w with
            | c _ => cases (show none = some ds from ed)
            | d y =>
              have ed : ((dats ws2).map (y :: ·)).map (x :: ·) = some ds := ed
              cases e3 : dats ws2 with
              | none => rw [e3] at ed; cases ed
              | some ds2 =>
                rw [e3] at ed
                cases ed
                have ep : (match keyOf x, twosOf ds2 with | some q, some r => some ((q, y) :: r) | _, _ => none) = some ps := ep
                cases ek : keyOf x with
                | none => rw [ek] at ep; cases ep
                | some q =>
                  cases et : twosOf ds2 with
                  | none => rw [ek, et] at ep; cases ep
                  | some ps2 =>
                    rw [ek, et] at ep
                    cases ep
                    refine ⟨sl, cs, as, R, rel, ?_⟩
                    rw [e0]
                    intro vx H1 as1 x1 c1 i1
                    refine ⟨sl, cs0, as1, R, rel.mono x1 c1, ?_⟩
                    rw [e1]
                    intro v H2 as2 x2 c2 i2
                    have ex := key_pk (cad := cad) (IsD.pk (d := x) i1) ek
                    subst ex
                    refine dspE_pairs n es as2 R H2 cs1 ws2 cs' ds2 ps2 _ (by simp at hn; omega) ((rel.mono x1 c1).mono x2 c2) e2 e3 et fun H3 as3 kvs x3 c3 m3 i3 => ?_
                    exact hQ H3 as3 ((q, v) :: kvs) ((x1.trans x2).trans x3) c3 (by rw [List.map_cons, List.map_cons, m3]) ⟨v, _, rfl, IsD.mono x3.kp' (d := y) i2, i3⟩
theorem lift_dspE {W : WX} {kes : List E} {σ : L2.St} {H : Hp} {Q : VK} (h : liftE K cad W (evE G Φ (.dspE kes)) σ H Q) : tDisp (dTrE G Φ K cad kes) σ H Q := by
  obtain ⟨sl, cs, as, R, rel, p⟩ := h
  intro D0 hD
  have p : Post K cad (rW K cad) W σ as R H Q (match evEs G Φ kes sl cs with
    | .ok ws cs => (match (dats ws).bind twosOf with
      | some ps => if ps.length ≤ 15 ∧ ps ≠ [] then .ok (.d (.dct (dmerge [] [] ps).1 (dmerge [] [] ps).2)) cs else .stuck
      | none => .stuck)
    | _ => .stuck) := p
  cases e : evEs G Φ kes sl cs with
  | stuck => rw [e] at p; exact p.elim
  | ex C ks vs cs2 => rw [e] at p; exact p.elim
  | ok ws cs1 =>
    rw [e] at p
    dsimp only at p
    cases ed : dats ws with
    | none => rw [ed] at p; exact p.elim
    | some ds =>
      rw [ed] at p
      have p : Post K cad (rW K cad) W σ as R H Q (match twosOf ds with
        | some ps => if ps.length ≤ 15 ∧ ps ≠ [] then .ok (.d (.dct (dmerge [] [] ps).1 (dmerge [] [] ps).2)) cs1 else .stuck
        | none => .stuck) := p
      cases ep : twosOf ds with
      | none => rw [ep] at p; exact p.elim
      | some ps =>
        rw [ep] at p
        dsimp only at p
        by_cases hc : ps.length ≤ 15 ∧ ps ≠ []
        · rw [if_pos hc] at p
          have hDR : D0 ∉ R := fun m => by
            obtain ⟨u, z⟩ := rel.cells.rl D0 m
            rw [hD] at z
            cases z
          obtain ⟨c2, x2⟩ := rel.cells.enter (o := .dK []) hD
          have rel2 : Rel K cad as (D0 :: R) (upd H D0 (.dK [])) sl cs σ := rel.mono2 x2 (kp_in hD) c2
          refine dspE_pairs kes.length kes as (D0 :: R) _ cs ws cs1 ds ps _ (Nat.le_refl _) rel2 e ed ep fun H' as' kvs x3 c3 m3 i3 => ?_
          have e3 : H' D0 = some (.dK []) := x3.keep D0 _ upd_same fun m => c2.apart D0 m List.mem_cons_self
          have kl : kvs.length = ps.length := by
            have := congrArg List.length m3
            rw [List.length_map, List.length_map] at this
            exact this.symm
          refine ⟨e3, kvs, rfl, by rw [kl]; exact hc.1, ?_⟩
          obtain ⟨z1, z2⟩ := dmerge_rel ps kvs [] [] m3 i3 rfl
          have hm : D0 ∈ Av as' (D0 :: R) := List.mem_append_right _ List.mem_cons_self
          have c4 : Cells K cad as' (D0 :: R) (upd H' D0 (.dK (mergeK [] kvs))) cs1 := c3.writeR List.mem_cons_self
          have i4 := z2.mono (kp_wr (o := .dK (mergeK [] kvs)) hm)
          have xx := x2.trans x3
          have x4 : Ext H as (upd H' D0 (.dK (mergeK [] kvs))) as' := by
            refine ⟨xx.len, xx.old, xx.new, fun a o ea m => ?_, fun a o ea => ?_⟩
            · rw [upd_ne (fun z => by rw [z, hD] at ea; cases ea)]
              exact xx.keep a o ea m
            · by_cases z : a = D0
              · exact ⟨_, by rw [z, upd_same]⟩
              · obtain ⟨o', q'⟩ := xx.there a o ea
                exact ⟨o', by rw [upd_ne z]; exact q'⟩
          refine p (.ref D0) _ as' x4 c4.leave ⟨D0, mergeK [] kvs, rfl, fun m => ?_, .inl upd_same, z1, i4.mono kp_leave⟩
          rcases List.mem_append.mp m with m | m
          · exact c3.apart D0 m List.mem_cons_self
          · exact hDR m
        · rw [if_neg hc] at p
          exact p.elim
theorem dspE_pps : ∀ {keys : List (Option Expr)} {vals : List Expr} {kes : List E}, kes.length = 2 * keys.length → vals.length = keys.length → (∀ (i : Nat) (e : Expr) (d : E), keys[i]? = some (some e) → kes[2 * i]? = some d → SE G Φ cad X d e) → (∀ (i : Nat) (e : Expr) (d : E), vals[i]? = some e → kes[2 * i + 1]? = some d → SE G Φ cad X d e) → keys.all (·.isSome) = true → PPs X pos keys vals (dTrE G Φ X.K cad kes)
  | [], [], [], _, _, _, _, _ => pps_nil
  | [], [], _ :: _, h, _, _, _, _ => by cases h
  | [], _ :: _, _, _, h, _, _, _ => by cases h
  | none :: _, _, _, _, _, _, _, h => by cases h
  | some e :: keys, [], _, _, h, _, _, _ => by cases h
  | some e :: keys, v :: vals, [], h, _, _, _, _ => by simp at h
  | some e :: keys, v :: vals, [_], h, _, _, _, _ => by simp at h; omega
  | some e :: keys, v :: vals, dk :: dv :: kes, h, h2, hk, hv, ha => by
    refine pps_cons (hk 0 e dk rfl rfl W0 takesB) (hv 0 v dv rfl rfl W0 takesB) (dspE_pps (by simp at h; omega) (by simpa using h2) (fun i e d h3 h4 => hk (i + 1) e d h3 ?_) (fun i e d h3 h4 => hv (i + 1) e d h3 ?_) (by rw [List.all_cons] at ha; exact (Bool.and_eq_true_iff.mp ha).2))
    · rw [show 2 * (i + 1) = 2 * i + 1 + 1 from by omega]; exact h4
    · rw [show 2 * (i + 1) + 1 = 2 * i + 1 + 1 + 1 from by omega]; exact h4
theorem r_dspE {keys : List (Option Expr)} {vals : List Expr} {kes : List E} (h : kes.length = 2 * keys.length) (h2 : vals.length = keys.length) (h0 : keys ≠ []) (h15 : keys.length ≤ 15) (hk : ∀ (i : Nat) (e : Expr) (d : E), keys[i]? = some (some e) → kes[2 * i]? = some d → SE G Φ cad X d e) (hv : ∀ (i : Nat) (e : Expr) (d : E), vals[i]? = some e → kes[2 * i + 1]? = some d → SE G Φ cad X d e) (ha : keys.all (·.isSome) = true) :
    SE G Φ cad X (.dspE kes) (.Dict keys vals pos) := fun W tk =>
  (pe_disp (dspE_pps h h2 hk hv ha) ha h2.symm h0 h15).imp fun σ H Q h => lift_dspE h
end
end PD
set_option Elab.async false
set_option linter.all false
set_option maxRecDepth 100000
set_option maxHeartbeats 4000000
namespace PD
open PySem PySem.Spec PyProof.Rows L2
structure Tab where
  fns : List (Str × Nat)
  cls : List (Str × Nat)
  bts : List (Str × Nat)
  csts : List Str
  frees : List Str
  fvs : List (Str × Nat) := []
structure RaiseC (K : PySem.W.Frag) (C : Addr) : Prop where
  base : ∃ (B newId initId : String) (bmB : List Value), ExcBaseFacts B newId initId bmB ∧ PySem.W.excIn K C bmB newId = true
  kp : PySem.W.keepIn K (.ref C) = true
  r1 : PySem.W.subIn K (.ref C) (.type "BaseException") = some true
  r2 : PySem.W.typeIn K (.ref C) = some (.type "type")
structure Wd (T : Tab) (G : Pg) (Φ : Nat → List PD.W → List M → Rs PD.W) (cad : Nat → Addr) (k : Nat) (P : Program) (w : World) (K : PySem.W.Frag) (mg : Str → Option Value) (base : Heap) : Prop where
  fn : ∀ x i, (x, i) ∈ T.fns → ∃ f fd ps, mg x = some (.ref f) ∧ PySem.W.keepIn K (.ref f) = true ∧ Binds K fd ps [] ∧ FnOk P w K mg base (L2.CX P w) k f fd ps (spOf K cad (Φ i))
  cst : ∀ (i : Nat) x d, T.csts[i]? = some x → G.csts[i]? = some d → ∃ u v, mg x = some u ∧ RelV v u ∧ ∀ H F, IsD K cad H F d v
  free : ∀ x, x ∈ T.frees → mg x = none
  cl : ∀ x C, (x, C) ∈ T.cls → mg x = some (.ref (cad C))
  bt : ∀ x t, (x, t) ∈ T.bts → t < 10 ∧ x ∈ T.frees ∧ bootBuiltins x = some (.type (bty t)) ∧ x ≠ "__name__" ∧ (x == ("__debug__" : Str)) = false
  fld : ∀ C f, G.fld C f = true → Cls K (cad C) ∧ NoAttr K (cad C) f
  meth : ∀ C m i, G.meth C m = some i → m ≠ ("__init__" : Str) → Cls K (cad C) ∧ ∃ f fd ps, Meth K (cad C) m f ∧ Binds K fd ps [] ∧ FnOk P w K mg base (L2.CX P w) k f fd ps (spOf K cad (Φ i))
  init : ∀ C i, G.meth C ("__init__" : Str) = some i → ∃ f fd ps, Mk K (cad C) f ∧ Binds K fd ps [] ∧ FnOk P w K mg base (L2.CX P w) k f fd ps (spOf K cad (Φ i))
  isi : IsiF K cad G.isT
  new0 : ∀ C, G.new0 C = true → Mk0 K (cad C)
  exc : ∀ C, G.isX C = true → RaiseC K (cad C)
  exm : ∀ C' C b, G.sub C' C = some b → PySem.W.exmOne K (.ref (cad C')) (.ref (cad C)) = some b
  fv : ∀ x i, (x, i) ∈ T.fvs → mg x = some (.ref (cad (1000000 + i))) ∧ PySem.W.keepIn K (.ref (cad (1000000 + i))) = true ∧ ∃ fd ps, Binds K fd ps [] ∧ FnOk P w K mg base (L2.CX P w) k (cad (1000000 + i)) fd ps (spOf K cad (Φ i))
  fvG : ∀ i, G.fvs i = true → ∃ x, (x, i) ∈ T.fvs
structure Ct where
  N : List Str
  sc : Scope
  raw : Scope
  T : Tab
  hot : Bool
structure StX (ct : Ct) (G : Pg) (Φ : Nat → List PD.W → List M → Rs PD.W) (cad : Nat → Addr) (k : Nat) (X : Cx) : Prop where
  hN : X.N = ct.N
  sc : X.env.scope = ct.sc
  nd : ct.N.Nodup
  cold : ct.hot = false → X.calm = true ∧ Room (k + 1) X.A
  un : X.A.units + 100 < cLine
  fnc : ∀ x, ct.raw.names.lookup x = some .cell → X.fn x = true
  wd : Wd ct.T G Φ cad k X.prog X.w X.K X.mg X.base
theorem StX.calm {ct : Ct} {G : Pg} {Φ : Nat → List PD.W → List M → Rs PD.W} {cad : Nat → Addr} {k : Nat} {X : Cx} (st : StX ct G Φ cad k X) (h : ct.hot = false) : X.calm = true := (st.cold h).1
theorem StX.room {ct : Ct} {G : Pg} {Φ : Nat → List PD.W → List M → Rs PD.W} {cad : Nat → Addr} {k : Nat} {X : Cx} (st : StX ct G Φ cad k X) (h : ct.hot = false) : Room (k + 1) X.A := (st.cold h).2
theorem cold_of {ct : Ct} {b : Bool} (h : (!ct.hot && b) = true) : ct.hot = false ∧ b = true := by
  rw [Bool.and_eq_true, Bool.not_eq_true'] at h
  exact h
def locB (ct : Ct) (x : Str) : Bool := decide (ct.sc.names.lookup x = some .local) || (decide (ct.sc.names.lookup x = some .cell) && decide (ct.raw.names.lookup x = some .cell))
mutual
def okT : Ct → Expr → Tg → Bool
  | ct, .Name x _, .n i => decide (ct.N[i]? = some x) && locB ct x
  | ct, .Tuple es _ _, .t ts => !ct.hot && okTs ct es ts
  | _, _, _ => false
def okTs : Ct → List Expr → List Tg → Bool
  | _, [], [] => true
  | ct, e :: es, t :: ts => notStar e && okT ct e t && okTs ct es ts
  | _, _, _ => false
end
def okC1 (ct : Ct) (e : Expr) (t : Nat) : Bool := match e with
  | .Name x _ => globB ct.sc x && ((decide (10 ≤ t) && decide ((x, t - 10) ∈ ct.T.cls)) || decide ((x, t) ∈ ct.T.bts))
  | _ => false
def okCs (ct : Ct) : List Expr → List Nat → Bool
  | [], [] => true
  | e :: es, t :: ts => okC1 ct e t && okCs ct es ts
  | _, _ => false
def isFrz : E → Bool
  | .frz _ => true
  | _ => false
def notIf : Expr → Bool
  | .IfExp _ _ _ _ => false
  | _ => true
def isBO : Expr → Bool
  | .BoolOp _ _ _ => true
  | _ => false
def tstB (e : Expr) (d : E) : Bool := !isFrz d && notIf e
def ownN (N : List Str) (own : List Nat) : List (Str × Nat) := own.map fun i => ((N[i]?).getD "", i)
section
variable (G : Pg) (rE : Ct → Expr → E → Bool) (ct : Ct)
def isDnil : D → Bool
  | .dct [] [] => true
  | _ => false
def kConst (e : Expr) (d : D) : Bool := match e with
  | .Constant c _ _ => constB c d
  | .Dict [] [] _ => isDnil d
  | _ => false
def kNew (e : Expr) (o : O) (ds : List E) : Bool := match e, o, ds with
  | .Dict [] [] _, .dnew, [.c d] => isDnil d
  | _, _, _ => false
def kVar (e : Expr) (i : Nat) : Bool := match e with
  | .Name x _ => decide (ct.N[i]? = some x) && visB ct.sc x && !(x == ("__debug__" : Str)) && !(x == ("__classdict__" : Str))
  | _ => false
def kGlob (e : Expr) (i : Nat) : Bool := match e with
  | .Name x _ => decide (ct.T.csts[i]? = some x) && globB ct.sc x
  | _ => false
def kAll : List Expr → List E → Bool
  | [], [] => true
  | e :: es, d :: ds => notStar e && rE ct e d && kAll es ds
  | _, _ => false
def newO (x : Str) (n : Nat) : Option O :=
  if x = ("sorted" : Str) then (if n = 1 then some .sorted else none)
  else if x = ("dict" : Str) then (if n = 1 then some .dictOf else none)
  else if x = ("list" : Str) then (if n = 1 then some .lstOf else none)
  else none
def kNewC (e : Expr) (o : O) (ds : List E) : Bool := match e with
  | .Call (.Name x _) (e :: es) [] _ => !ct.hot && globB ct.sc x && decide (x ∈ ct.T.frees) && decide (newO x (es.length + 1) = some o) && (e :: es).all notStar && kAll rE ct (e :: es) ds
  | _ => false
def kFv (e : Expr) (i : Nat) : Bool := match e with
  | .Name x _ => decide ((x, i) ∈ ct.T.fvs) && globB ct.sc x
  | _ => false
def nmB (j : Nat) (x : Str) : Bool := decide (ct.N[j]? = some x) && visB ct.sc x && !(x == ("__debug__" : Str)) && !(x == ("__classdict__" : Str))
def kCallv (e : Expr) (j : Nat) (ds : List E) : Bool := match e with
  | .Call (.Name x _) (e :: es) [] _ => nmB ct j x && (e :: es).all notStar && kAll rE ct (e :: es) ds
  | _ => false
def evens {α : Type} : List α → List α
  | a :: _ :: r => a :: evens r
  | _ => []
def odds {α : Type} : List α → List α
  | _ :: b :: r => b :: odds r
  | _ => []
def kDspE (e : Expr) (kes : List E) : Bool := match e with
  | .Dict keys vals _ => keys.all (·.isSome) && decide (kes.length = 2 * keys.length) && decide (vals.length = keys.length) && decide (keys ≠ []) && decide (keys.length ≤ 15) && kAll rE ct (keys.filterMap id) (evens kes) && kAll rE ct vals (odds kes)
  | _ => false
def k2 (a b : Expr) (ds : List E) : Bool := match ds with
  | [da, db] => rE ct a da && rE ct b db
  | _ => false
def k1 (a : Expr) (ds : List E) : Bool := match ds with
  | [da] => rE ct a da
  | _ => false
def kCmp (p : CmpOp) (a b : Expr) (o : O) (ds : List E) : Bool := match p with
  | .Is => k1 rE ct a ds && (match boolE b with
    | some c => decide (o = .isB c)
    | none => decide (o = .isN) && isNoneE b)
  | .IsNot => k1 rE ct a ds && (match boolE b with
    | some c => decide (o = .ntB c)
    | none => decide (o = .notN) && isNoneE b)
  | .In => decide (o = .in_) && notSet b && k2 rE ct a b ds
  | .NotIn => decide (o = .notin) && notSet b && k2 rE ct a b ds
  | p => decide (cmpO p = some o) && k2 rE ct a b ds
def kIsi (a c : Expr) (ts : List Nat) (ds : List E) : Bool := notStar a && k1 rE ct a ds && match c with
  | .Tuple cs _ _ => decide (ts ≠ []) && decide (ts.length ≤ 100) && okCs ct cs ts
  | c => match ts with
    | [t] => okC1 ct c t
    | _ => false
def kBlt (x : Str) (es : List Expr) (o : O) (ds : List E) : Bool := globB ct.sc x && decide (x ∈ ct.T.frees) && match o with
  | .isi ts => (match es with
    | [a, c] => decide (x = ("isinstance" : Str)) && kIsi rE ct a c ts ds
    | _ => false)
  | .setlen => (match es with
    | [.Call (.Name y _) [a] [] _] => !ct.hot && decide (x = ("len" : Str)) && decide (y = ("set" : Str)) && globB ct.sc y && decide (y ∈ ct.T.frees) && notStar a && k1 rE ct a ds
    | _ => false)
  | o => !ct.hot && (decide (bltO x es.length = some o) && es.all notStar && kAll rE ct es ds)
def revSl : Expr → Bool
  | .Slice none none (some (.UnaryOp .USub (.Constant (.int 1) _ _) _)) _ => true
  | _ => false
def kOp (e : Expr) (o : O) (ds : List E) : Bool := match e with
  | .BinOp a p b _ => decide (binO p = some o) && k2 rE ct a b ds
  | .UnaryOp .USub a _ => decide (o = .neg) && k1 rE ct a ds
  | .Compare a [p] [b] _ => kCmp rE ct p a b o ds
  | .Subscript a i _ => if revSl i = true then decide (o = .rev) && k1 rE ct a ds else decide (o = .ix) && notSlice i && k2 rE ct a i ds
  | .Call (.Name x _) (e :: es) [] _ => kBlt rE ct x (e :: es) o ds
  | _ => false
def kBm (e : Expr) (o : O) (da : E) (ds : List E) : Bool := match e with
  | .Call (.Attribute a m ap) (b :: bs) [] p => attrB a && (b :: bs).all notStar && (ap.endLine == p.line) && decide (bmO m (bs.length + 1) = some o) && decide ((b :: bs).length < 20) && rE ct a da && kAll rE ct (b :: bs) ds
  | _ => false
def kAnd (e : Expr) (da d : E) : Bool := match e with
  | .BoolOp .And (a :: b :: r) p => tstB a da && !isFrz d && rE ct a da && rE ct (.BoolOp .And (b :: r) p) d
  | _ => false
def kOr (e : Expr) (da d : E) : Bool := match e with
  | .BoolOp .Or (a :: b :: r) p => tstB a da && !isFrz d && rE ct a da && rE ct (.BoolOp .Or (b :: r) p) d
  | _ => false
def kNot (e : Expr) (da : E) : Bool := match e with
  | .UnaryOp .Not a _ => tstB a da && rE ct a da
  | _ => false
def kIfe (e : Expr) (dt da db : E) : Bool := match e with
  | .IfExp t a b _ => tstB t dt && rE ct t dt && rE ct a da && rE ct b db
  | _ => false
def kChain (e : Expr) (o' p' : O) (da db dc : E) : Bool := match e with
  | .Compare a [o, p] [b, c] _ => decide (cmpO o = some o') && decide (cmpO p = some p') && rE ct a da && rE ct b db && rE ct c dc
  | _ => false
def kTup (e : Expr) (ds : List E) : Bool := match e with
  | .Tuple es _ _ => kAll rE ct es ds
  | _ => false
def kLst (e : Expr) (ds : List E) : Bool := match e with
  | .List es _ => kAll rE ct es ds
  | _ => false
def kSl2 (e : Expr) (da d1 d2 : E) : Bool := match e with
  | .Subscript a (.Slice (some lo) (some hi) none _) _ => rE ct a da && rE ct lo d1 && rE ct hi d2
  | _ => false
def kSlL (e : Expr) (da d1 : E) : Bool := match e with
  | .Subscript a (.Slice (some lo) none none _) _ => rE ct a da && rE ct lo d1
  | _ => false
def kSlH (e : Expr) (da d2 : E) : Bool := match e with
  | .Subscript a (.Slice none (some hi) none _) _ => rE ct a da && rE ct hi d2
  | _ => false
def kFld (e : Expr) (da : E) (f' : Str) : Bool := match e with
  | .Attribute a f _ => attrB a && decide (f = f') && rE ct a da
  | _ => false
def kCall (e : Expr) (f : Nat) (ds : List E) : Bool := match e with
  | .Call (.Name x _) es [] _ => globB ct.sc x && decide ((x, f) ∈ ct.T.fns) && es.all notStar && kAll rE ct es ds
  | _ => false
def kMake (e : Expr) (C : Nat) (ds : List E) : Bool := match e with
  | .Call (.Name x _) es [] _ => globB ct.sc x && decide ((x, C) ∈ ct.T.cls) && (G.meth C ("__init__" : Str)).isSome && es.all notStar && kAll rE ct es ds
  | _ => false
def kNew0 (e : Expr) (C : Nat) : Bool := match e with
  | .Call (.Name x _) [] [] _ => globB ct.sc x && decide ((x, C) ∈ ct.T.cls) && G.new0 C
  | _ => false
def kDsp (e : Expr) (ks : List Key) (es : List E) : Bool := match e with
  | .Dict keys vals _ => keysB keys ks && decide (ks ≠ []) && decide (ks.length ≤ 15) && decide (ks.length = es.length) && decide (vals.length = es.length) && kAll rE ct vals es
  | _ => false
def kMeth (e : Expr) (da : E) (m' : Str) (ds : List E) : Bool := match e with
  | .Call (.Attribute a m ap) es [] p => attrB a && decide (m = m') && decide (m ≠ ("__init__" : Str)) && (ap.endLine == p.line) && decide (es.length < 20) && es.all notStar && rE ct a da && kAll rE ct es ds
  | _ => false
def kRng1 (iter : Expr) (d : E) : Bool := match iter with
  | .Call (.Name x _) [a] [] _ => decide (x = ("range" : Str)) && globB ct.sc x && decide (x ∈ ct.T.frees) && notStar a && rE ct a d
  | _ => false
def kRng2 (iter : Expr) (d d' : E) : Bool := match iter with
  | .Call (.Name x _) [a, b] [] _ => decide (x = ("range" : Str)) && globB ct.sc x && decide (x ∈ ct.T.frees) && notStar a && notStar b && rE ct a d && rE ct b d'
  | _ => false
def isTup : Expr → Bool
  | .Tuple _ _ _ => true
  | _ => false
def kZip (tg iter : Expr) (d d' : E) : Bool := isTup tg && match iter with
  | .Call (.Name x _) [a, b] [] _ => decide (x = ("zip" : Str)) && globB ct.sc x && decide (x ∈ ct.T.frees) && notStar a && notStar b && rE ct a d && rE ct b d'
  | _ => false
def kEnum (tg iter : Expr) (d : E) : Bool := isTup tg && match iter with
  | .Call (.Name x _) [a] [] _ => decide (x = ("enumerate" : Str)) && globB ct.sc x && decide (x ∈ ct.T.frees) && notStar a && rE ct a d
  | _ => false
def kIter (k : IK) (its : List E) (tg iter : Expr) : Bool := match k, its with
  | .seq, [d] => rE ct iter d
  | .str, [d] => rE ct iter d
  | .range1, [d] => kRng1 rE ct iter d
  | .range2, [d, d'] => kRng2 rE ct iter d d'
  | .zip, [d, d'] => kZip rE ct tg iter d d'
  | .enum, [d] => kEnum rE ct tg iter d
  | _, _ => false
def kConds (es : List Expr) (ds : List E) : Bool := match es, ds with
  | [], [] => true
  | [e], [d] => tstB e d && rE ct e d
  | _, _ => false
def kComp (e : Expr) (own : List Nat) (t : Tg) (k : IK) (its conds : List E) (de : E) : Bool := match e with
  | .ListComp elt [⟨tg, iter, ifs, z⟩] scope _ => decide (z = 0) && blkC ct.N ct.sc scope (ownN ct.N own) && kIter rE ct k its tg iter && okT { ct with sc := relS scope ct.sc, raw := scope } tg t && kConds rE { ct with sc := relS scope ct.sc, raw := scope } ifs conds && rE { ct with sc := relS scope ct.sc, raw := scope } elt de && notSet iter && tgIn t own
  | _ => false
def kCompK (e : Expr) (own : List Nat) (t : Tg) (j : Nat) (conds : List E) (de : E) : Bool := match e with
  | .ListComp elt [⟨tg, .Name x _, ifs, z⟩] scope _ => decide (z = 0) && blkC ct.N ct.sc scope (ownN ct.N own) && nmB ct j x && okT { ct with sc := relS scope ct.sc, raw := scope } tg t && kConds rE { ct with sc := relS scope ct.sc, raw := scope } ifs conds && rE { ct with sc := relS scope ct.sc, raw := scope } elt de && tgIn t own
  | _ => false
def kCompKs (e : Expr) (own : List Nat) (t : Tg) (k : IK) (its conds : List E) (de : E) : Bool := match k, its with
  | .keys, [.v j] => kCompK rE ct e own t j conds de
  | _, _ => false
def stepD (e : Expr) (d : E) : Bool := match d with
  | .frz d => rE ct e d
  | .c d => kConst e d
  | .v i => kVar ct e i
  | .g i => kGlob ct e i
  | .op o ds => kOp rE ct e o ds
  | .bm o da ds => kBm rE ct e o da ds
  | .opC o ds => kNew e o ds || kNewC rE ct e o ds
  | .and_ a b => kAnd rE ct e a b
  | .or_ a b => kOr rE ct e a b
  | .not_ a => kNot rE ct e a
  | .ife t a b => kIfe rE ct e t a b
  | .chain o p a b c => kChain rE ct e o p a b c
  | .tup ds => kTup rE ct e ds
  | .lst ds => kLst rE ct e ds
  | .mlst ds => kLst rE ct e ds
  | .sl2 a b c => kSl2 rE ct e a b c
  | .slL a b => kSlL rE ct e a b
  | .slH a b => kSlH rE ct e a b
  | .fld a f => kFld rE ct e a f
  | .call f ds => !ct.hot && kCall rE ct e f ds
  | .fv i => kFv ct e i
  | .callv j ds => !ct.hot && kCallv rE ct e j ds
  | .compc own t j conds de => !ct.hot && kCompK rE ct e own t j conds de
  | .dspE kes => kDspE rE ct e kes
  | .make C ds => !ct.hot && kMake G rE ct e C ds
  | .meth o m ds => !ct.hot && kMeth rE ct e o m ds
  | .new0 C => kNew0 G ct e C
  | .dsp _ ks ds => kDsp rE ct e ks ds
  | .comp _ own t k its conds de => !ct.hot && (kComp rE ct e own t k its conds de || kCompKs rE ct e own t k its conds de)
def stepE (e : Expr) (d : E) : Bool := match e with
  | .BoolOp _ [a] _ => tstB a d && rE ct a d
  | e => stepD G rE ct e d
end
def okE (G : Pg) : Nat → Ct → Expr → E → Bool
  | 0 => fun _ _ _ => false
  | n + 1 => stepE G (okE G n)
section
variable {G : Pg} {Φ : Nat → List PD.W → List M → Rs PD.W} {cad : Nat → Addr} {X : Cx} {ct : Ct} {k : Nat}
theorem visB_ok {sc : Scope} {x : Str} (h : visB sc x = true) : Vis sc x := by
  unfold visB at h
  simp only [Bool.or_eq_true, decide_eq_true_eq] at h
  rcases h with (h | h) | h
  · exact .inl h
  · exact .inr (.inl h)
  · exact .inr (.inr h)
theorem locB_ok (st : StX ct G Φ cad k X) {x : Str} (h : locB ct x = true) : Loc X.env.scope x ∧ (X.fn x = true ∨ X.env.scope.names.lookup x = some .local) := by
  unfold locB at h
  simp only [Bool.or_eq_true, Bool.and_eq_true, decide_eq_true_eq] at h
  rw [← st.sc] at h
  rcases h with h | ⟨h1, h2⟩
  · exact ⟨.inl h, .inr h⟩
  · exact ⟨.inr h1, .inl (st.fnc x h2)⟩
theorem globB_ok (st : StX ct G Φ cad k X) {x : Str} (h : globB ct.sc x = true) : Gl X x ∧ (x == ("__debug__" : Str)) = false ∧ x ≠ "__name__" := by
  unfold globB at h
  simp only [Bool.and_eq_true, decide_eq_true_eq, Bool.not_eq_true'] at h
  refine ⟨?_, h.1.1.2, fun z => ?_⟩
  · show X.env.scope.names.lookup x = _
    rw [st.sc]
    exact h.1.1.1
  · have := h.1.2
    rw [z] at this
    exact absurd this (by decide)
mutual
theorem okT_ok (st : StX ct G Φ cad k X) : ∀ (tg : Expr) (t : Tg), okT ct tg t = true → SG X t tg
  | .Name x _, .n i, h => by
    have h : (decide (ct.N[i]? = some x) && locB ct x) = true := h
    rw [Bool.and_eq_true] at h
    obtain ⟨h1, h2⟩ := locB_ok st h.2
    exact g_name (by rw [st.hN]; exact st.nd) (by rw [st.hN]; exact of_decide_eq_true h.1) h1 h2
  | .Tuple es _ _, .t ts, h => by
    obtain ⟨hc, h⟩ := cold_of (show (!ct.hot && okTs ct es ts) = true from h)
    obtain ⟨h1, h2, h3⟩ := okTs_ok st es ts h
    exact g_tup (st.calm hc) h2 h3 h1
theorem okTs_ok (st : StX ct G Φ cad k X) : ∀ (es : List Expr) (ts : List Tg), okTs ct es ts = true → SGs X ts es ∧ es.all notStar = true ∧ es.length = ts.length
  | [], [], _ => ⟨gs_nil, rfl, rfl⟩
  | [], _ :: _, h => by cases h
  | _ :: _, [], h => by cases h
  | e :: es, t :: ts, h => by
    have h : (notStar e && okT ct e t && okTs ct es ts) = true := h
    simp only [Bool.and_eq_true] at h
    obtain ⟨h1, h2, h3⟩ := okTs_ok st es ts h.2
    exact ⟨gs_cons h.1.1 (okT_ok st e t h.1.2) h1, by rw [List.all_cons, h.1.1, h2]; rfl, by rw [List.length_cons, List.length_cons, h3]⟩
end
theorem okC1_ok (st : StX ct G Φ cad k X) {e : Expr} {t : Nat} (h : okC1 ct e t = true) : ClsE X cad t e := by
  unfold okC1 at h
  split at h
  · rename_i x pos
    simp only [Bool.and_eq_true, Bool.or_eq_true, decide_eq_true_eq] at h
    obtain ⟨hg, h⟩ := h
    obtain ⟨g1, g2, g3⟩ := globB_ok st hg
    rcases h with ⟨h1, h2⟩ | h
    · have z := cls_own (cad := cad) (pos := pos) (C := t - 10) g1 (st.wd.cl _ _ h2) g2
      rw [show t - 10 + 10 = t from by omega] at z
      exact z
    · obtain ⟨b1, b2, b3, b4, b5⟩ := st.wd.bt _ _ h
      exact cls_bt b1 g1 (st.wd.free _ b2) b3 b4 b5
  · cases h
theorem okCs_ok (st : StX ct G Φ cad k X) : ∀ {es : List Expr} {ts : List Nat}, okCs ct es ts = true → ClsEs X cad ts es
  | [], [], _ => .nil
  | [], _ :: _, h => by cases h
  | _ :: _, [], h => by cases h
  | e :: es, t :: ts, h => by
    have h : (okC1 ct e t && okCs ct es ts) = true := h
    rw [Bool.and_eq_true] at h
    exact .cons (okC1_ok st h.1) (okCs_ok st h.2)
theorem base_of {a : Expr} {m : Str} {env : Env} {w : Sem Value} (h : attrB a = true) : attributeBase a m env w = w := by
  cases a with
  | Call f es kws p =>
    cases f <;> cases es <;> cases kws <;> first | rfl | cases h
  | _ => rfl
theorem ev_meth {a : Expr} {m : Str} {env : Env} {es : List Expr} {ap p : Pos} (h : attrB a = true) (hl : (ap.endLine == p.line) = true) (hs : es.all notStar = true) (hn : es.length < 21) : eval (.Call (.Attribute a m ap) es [] p) env = (do
      let ov ← eval a env
      standAt ap.atName
      let (f, first) ← holding [ov] (getMethod ov m (do return (← importBound a env).getD true))
      callWith p f first (backTo p (starEach es env)) (backToKw p (keywordEach [] env))) := by
  have st : ∀ es : List Expr, es.all notStar = true → (backTo p (starEach es env)).all (!·.1) = true := fun es => by
    induction es with
    | nil => exact fun _ => rfl
    | cons e es ih =>
      intro h
      rw [List.all_cons, Bool.and_eq_true] at h
      have e1 : starEach (e :: es) env = (false, eval e env) :: starEach es env := by cases e <;> first | rfl | cases h.1
      rw [e1]
      have i := ih h.2
      unfold backTo at i ⊢
      rw [List.map_cons, List.all_cons, i]
      rfl
  have hf : methodCallForm (es.length + ([] : List Keyword).length) (backTo p (starEach es env)) (backToKw p (keywordEach [] env)) = true := by
    unfold methodCallForm
    rw [st es hs]
    have e2 : (backToKw p (keywordEach [] env)) = [] := rfl
    rw [e2]
    simp
    omega
  rw [arm_eval_Call, base_of h]
  unfold methodCall
  rw [hf]
  unfold methodCallPos
  rw [hl]
  rfl
end
end PD
set_option Elab.async false
set_option linter.all false
set_option maxRecDepth 100000
set_option maxHeartbeats 4000000
namespace PD
open PySem PySem.Spec PyProof.Rows L2
theorem isDnil_of {d : D} (h : isDnil d = true) : d = .dct [] [] := by
  unfold isDnil at h
  split at h
  · rfl
  · cases h
section
variable (G : Pg) (Φ : Nat → List PD.W → List M → Rs PD.W) (cad : Nat → Addr)
def SEv (X : Cx) (d : E) (e : Expr) : Prop := SE G Φ cad X d e ∧ (tstB e d = true → ST G Φ cad X d e) ∧ (isBO e = true → isFrz d = false → SW G Φ cad X d e)
end
section
variable {G : Pg} {Φ : Nat → List PD.W → List M → Rs PD.W} {cad : Nat → Addr} {X : Cx} {ct : Ct} {k : Nat} {rE : Ct → Expr → E → Bool} {e : Expr} {d : E}
theorem bsplit {a b : Bool} (h : (a && b) = true) : a = true ∧ b = true := by rw [Bool.and_eq_true] at h; exact h
theorem sev_plain (h : SE G Φ cad X d e) (hp : notIf e = true → ∀ whole, isTrue e X.env whole = (do let v ← whole; standAt e.pos; holding [v] (truthy v))) (hb : isBO e = false) : SEv G Φ cad X d e :=
  ⟨h, fun t => st_plain h (hp (bsplit t).2), fun z => by rw [hb] at z; cases z⟩
theorem sev_t (h : SE G Φ cad X d e) (ht : ST G Φ cad X d e) (hb : isBO e = false) : SEv G Φ cad X d e := ⟨h, fun _ => ht, fun z => by rw [hb] at z; cases z⟩
variable (st : StX ct G Φ cad k X)
include st
theorem units64 : X.A.units + 64 < cLine := by have := st.un; omega
theorem units100 : X.A.units + 100 < cLine := st.un
theorem kConst_ok {e : Expr} {v : D} (h : kConst e v = true) : SEv G Φ cad X (.c v) e := by
  unfold kConst at h
  split at h
  · exact sev_plain (r_const h) (fun _ _ => rfl) rfl
  · cases isDnil_of h
    exact sev_plain r_dnil (fun _ _ => rfl) rfl
  · cases h
theorem kNew_ok {e : Expr} {o : O} {ds : List E} (h : kNew e o ds = true) : SEv G Φ cad X (.opC o ds) e := by
  unfold kNew at h
  split at h
  · cases isDnil_of h
    exact sev_plain r_dnewC (fun _ _ => rfl) rfl
  · cases h
theorem nmB_ok {j : Nat} {x : Str} (h : nmB ct j x = true) : X.N[j]? = some x ∧ Vis X.env.scope x ∧ (x == ("__debug__" : Str)) = false ∧ (x == ("__classdict__" : Str)) = false := by
  unfold nmB at h
  obtain ⟨h, h4⟩ := bsplit h
  obtain ⟨h, h3⟩ := bsplit h
  obtain ⟨h1, h2⟩ := bsplit h
  exact ⟨by rw [st.hN]; exact of_decide_eq_true h1, by rw [st.sc]; exact visB_ok h2, by simpa using h3, by simpa using h4⟩
theorem kFv_ok {e : Expr} {i : Nat} (h : kFv ct e i = true) : SEv G Φ cad X (.fv i) e := by
  unfold kFv at h
  split at h
  · obtain ⟨h1, h2⟩ := bsplit h
    obtain ⟨g1, g2, g3⟩ := globB_ok st h2
    exact sev_plain (r_fv g1 (st.wd.fv _ _ (of_decide_eq_true h1)).1 g2) (fun _ _ => rfl) rfl
  · cases h
theorem kVar_ok {e : Expr} {i : Nat} (h : kVar ct e i = true) : SEv G Φ cad X (.v i) e := by
  cases e with
  | Name x p =>
    have h : (decide (ct.N[i]? = some x) && visB ct.sc x && !(x == ("__debug__" : Str)) && !(x == ("__classdict__" : Str))) = true := h
    obtain ⟨h, h4⟩ := bsplit h
    obtain ⟨h, h3⟩ := bsplit h
    obtain ⟨h1, h2⟩ := bsplit h
    exact sev_plain (r_var (by rw [st.hN]; exact of_decide_eq_true h1) (by rw [st.sc]; exact visB_ok h2) (by simpa using h3) (by simpa using h4)) (fun _ _ => rfl) rfl
  | _ => cases h
theorem kGlob_ok {e : Expr} {i : Nat} (h : kGlob ct e i = true) : SEv G Φ cad X (.g i) e := by
  cases e with
  | Name x p =>
    have h : (decide (ct.T.csts[i]? = some x) && globB ct.sc x) = true := h
    obtain ⟨h1, h2⟩ := bsplit h
    obtain ⟨g1, g2, g3⟩ := globB_ok st h2
    refine sev_plain ?_ (fun _ _ => rfl) rfl
    cases q : G.csts[i]? with
    | none => exact r_globN q
    | some d =>
      obtain ⟨u, v, hm, r, hv⟩ := st.wd.cst i x d (of_decide_eq_true h1) q
      exact r_glob g1 hm r q hv g2
  | _ => cases h
variable (ih : ∀ ct e d X, StX ct G Φ cad k X → rE ct e d = true → SEv G Φ cad X d e)
include ih
theorem kAll_ok : ∀ {es : List Expr} {ds : List E}, kAll rE ct es ds = true → SA G Φ cad X ds es
  | [], [], _ => r_nil
  | [], _ :: _, h => by cases h
  | _ :: _, [], h => by cases h
  | e :: es, d :: ds, h => by
    have h : (notStar e && rE ct e d && kAll rE ct es ds) = true := h
    obtain ⟨h, h3⟩ := bsplit h
    obtain ⟨h1, h2⟩ := bsplit h
    exact r_cons h1 (ih _ _ _ _ st h2).1 (kAll_ok h3)
theorem kNewC_ok {e : Expr} {o : O} {ds : List E} (h : kNewC rE ct e o ds = true) : SEv G Φ cad X (.opC o ds) e := by
  unfold kNewC at h
  split at h
  · rename_i x p e es pos
    obtain ⟨h, h6⟩ := bsplit h
    obtain ⟨h, h5⟩ := bsplit h
    obtain ⟨h, h4⟩ := bsplit h
    obtain ⟨h, h3⟩ := bsplit h
    obtain ⟨h1, h2⟩ := bsplit h
    have cold : ct.hot = false := by simpa using h1
    obtain ⟨g1, g2, g3⟩ := globB_ok st h2
    have hm := st.wd.free _ (of_decide_eq_true h3)
    have ha := kAll_ok st ih h6
    have hn := of_decide_eq_true h4
    have one : ∀ {o' : O} {m n : Nat}, (if n = m then some o' else none) = some o → o' = o := fun {o' m n} h => by
      by_cases z : n = m
      · rw [if_pos z] at h; exact Option.some.inj h
      · rw [if_neg z] at h; cases h
    refine sev_plain ?_ (fun _ _ => rfl) rfl
    unfold newO at hn
    by_cases z : x = ("sorted" : Str)
    · rw [if_pos z] at hn; subst z; cases one hn; exact (r_newB (call_sortedP (st.calm cold)) g1 hm PyProof.Rows.boot_sorted ha h5 g3 g2).2
    rw [if_neg z] at hn
    by_cases z : x = ("dict" : Str)
    · rw [if_pos z] at hn; subst z; cases one hn; exact (r_newT (call_dictN (st.calm cold)) g1 hm PyProof.Rows.boot_dict ha h5 g3 g2).2
    rw [if_neg z] at hn
    by_cases z : x = ("list" : Str)
    · rw [if_pos z] at hn; subst z; cases one hn; exact (r_newT call_lstN g1 hm PyProof.Rows.boot_list ha h5 g3 g2).2
    rw [if_neg z] at hn
    cases hn
  · cases h
theorem kCallv_ok (cold : ct.hot = false) {e : Expr} {j : Nat} {ds : List E} (h : kCallv rE ct e j ds = true) : SEv G Φ cad X (.callv j ds) e := by
  unfold kCallv at h
  split at h
  · obtain ⟨h, h3⟩ := bsplit h
    obtain ⟨h1, h2⟩ := bsplit h
    obtain ⟨n1, n2, n3, n4⟩ := nmB_ok st h1
    refine sev_plain (r_callv (fun i hi => ?_) n1 n2 (kAll_ok st ih h3) h2 n3 n4) (fun _ _ => rfl) rfl
    obtain ⟨x, hx⟩ := st.wd.fvG i hi
    obtain ⟨_, q2, fd, ps, q3, q4⟩ := st.wd.fv x i hx
    exact ⟨k, fd, ps, q4, (st.room cold).mono (Nat.le_succ k), q2, q3⟩
  · cases h
theorem kDspE_ok {e : Expr} {kes : List E} (h : kDspE rE ct e kes = true) : SEv G Φ cad X (.dspE kes) e := by
  unfold kDspE at h
  split at h
  · rename_i keys vals pos
    obtain ⟨h, h7⟩ := bsplit h
    obtain ⟨h, h6⟩ := bsplit h
    obtain ⟨h, h5⟩ := bsplit h
    obtain ⟨h, h4⟩ := bsplit h
    obtain ⟨h, h3⟩ := bsplit h
    obtain ⟨h1, h2⟩ := bsplit h
    have at_ : ∀ {es : List Expr} {ds : List E}, kAll rE ct es ds = true → ∀ (i : Nat) (e : Expr) (d : E), es[i]? = some e → ds[i]? = some d → SE G Φ cad X d e := fun {es} => by
      induction es with
      | nil => exact fun _ i e d h1 _ => by simp at h1
      | cons v es ihh =>
        intro ds h i e d h1 h2
        cases ds with
        | nil => simp at h2
        | cons d0 ds =>
          have h : (notStar v && rE ct v d0 && kAll rE ct es ds) = true := h
          obtain ⟨h, h3⟩ := bsplit h
          obtain ⟨h4, h5⟩ := bsplit h
          cases i with
          | zero =>
            cases (show some v = some e from h1)
            cases (show some d0 = some d from h2)
            exact (ih _ _ _ _ st h5).1
          | succ i => exact ihh h3 i e d h1 h2
    have ev : ∀ (l : List E) (i : Nat), (evens l)[i]? = if 2 * i + 1 < l.length then l[2 * i]? else none := fun l => by
      have : ∀ n (l : List E), l.length ≤ n → ∀ i, (evens l)[i]? = if 2 * i + 1 < l.length then l[2 * i]? else none := fun n => by
        induction n with
        | zero => intro l hl i; cases l with | nil => simp [evens] | cons _ _ => simp at hl
        | succ n ihn =>
          intro l hl i
          match l, hl with
          | [], _ => simp [evens]
          | [a], _ => simp [evens]
          | a :: b :: r, hl =>
            cases i with
            | zero => simp [evens]
            | succ i =>
              have := ihn r (by simp at hl; omega) i
              show (evens r)[i]? = _
              have e3 : (a :: b :: r)[2 * (i + 1)]? = r[2 * i]? := by rw [show 2 * (i + 1) = 2 * i + 1 + 1 from by omega]; rfl
              rw [this, e3]
              by_cases hc : 2 * i + 1 < r.length
              · rw [if_pos hc, if_pos (by simp only [List.length_cons]; omega)]
              · rw [if_neg hc, if_neg (by simp only [List.length_cons]; omega)]
      exact this l.length l (Nat.le_refl _)
    have od : ∀ (l : List E) (i : Nat), (odds l)[i]? = l[2 * i + 1]? := fun l => by
      have : ∀ n (l : List E), l.length ≤ n → ∀ i, (odds l)[i]? = l[2 * i + 1]? := fun n => by
        induction n with
        | zero => intro l hl i; cases l with | nil => simp [odds] | cons _ _ => simp at hl
        | succ n ihn =>
          intro l hl i
          match l, hl with
          | [], _ => simp [odds]
          | [a], _ => simp [odds]
          | a :: b :: r, hl =>
            cases i with
            | zero => simp [odds]
            | succ i =>
              have := ihn r (by simp at hl; omega) i
              show (odds r)[i]? = _
              have e3 : (a :: b :: r)[2 * (i + 1) + 1]? = r[2 * i + 1]? := by rw [show 2 * (i + 1) + 1 = 2 * i + 1 + 1 + 1 from by omega]; rfl
              rw [this, e3]
      exact this l.length l (Nat.le_refl _)
    have fm : ∀ (ks : List (Option Expr)), ks.all (·.isSome) = true → ∀ (i : Nat) (e : Expr), ks[i]? = some (some e) → (ks.filterMap id)[i]? = some e := fun ks => by
      induction ks with
      | nil => intro _ i e h; simp at h
      | cons k ks ihk =>
        intro ha i e h
        rw [List.all_cons] at ha
        obtain ⟨a1, a2⟩ := bsplit ha
        cases k with
        | none => cases a1
        | some k =>
          rw [List.filterMap_cons]
          cases i with
          | zero => simpa using h
          | succ i => simpa using ihk a2 i e (by simpa using h)
    have e2 := of_decide_eq_true h2
    refine sev_plain (r_dspE e2 (of_decide_eq_true h3) (of_decide_eq_true h4) (of_decide_eq_true h5) (fun i e d q1 q2 => at_ h6 i e d (fm keys h1 i e q1) ?_) (fun i e d q1 q2 => at_ h7 i e d q1 ?_) h1) (fun _ _ => rfl) rfl
    · rw [ev, if_pos]
      · exact q2
      · have := (List.getElem?_eq_some_iff.mp q1).1
        omega
    · rw [od]
      exact q2
  · cases h
theorem k1_ok {a : Expr} {ds : List E} (h : k1 rE ct a ds = true) : ∃ da, ds = [da] ∧ SE G Φ cad X da a := by
  match ds, h with
  | [da], h => exact ⟨da, rfl, (ih _ _ _ _ st h).1⟩
theorem k2_ok {a b : Expr} {ds : List E} (h : k2 rE ct a b ds = true) : ∃ da db, ds = [da, db] ∧ SE G Φ cad X da a ∧ SE G Φ cad X db b := by
  match ds, h with
  | [da, db], h =>
    have h : (rE ct a da && rE ct b db) = true := h
    obtain ⟨h1, h2⟩ := bsplit h
    exact ⟨da, db, rfl, (ih _ _ _ _ st h1).1, (ih _ _ _ _ st h2).1⟩
theorem cmpO_ok {p : CmpOp} {o : O} (h : cmpO p = some o) : cmpBl o = true ∧ OpR X (compareOp p) (r2O X.K cad G.isT o) ∧ p ≠ .In ∧ p ≠ .NotIn := by
  cases p with
  | Eq => cases (show some O.eq = some o from h); exact ⟨rfl, op_eqP (units100 st), (by decide), (by decide)⟩
  | NotEq => cases (show some O.ne = some o from h); exact ⟨rfl, op_neP (units100 st), (by decide), (by decide)⟩
  | Lt => cases (show some O.lt = some o from h); exact ⟨rfl, op_ltP, (by decide), (by decide)⟩
  | LtE => cases (show some O.le = some o from h); exact ⟨rfl, op_leP, (by decide), (by decide)⟩
  | Gt => cases (show some O.gt = some o from h); exact ⟨rfl, op_gtP, (by decide), (by decide)⟩
  | GtE => cases (show some O.ge = some o from h); exact ⟨rfl, op_geP, (by decide), (by decide)⟩
  | _ => cases (show none = some o from h)
theorem binO_ok {p : Operator} {o : O} (h : binO p = some o) : OpR X (binaryOp p) (r2O X.K cad G.isT o) := by
  cases p with
  | Add => cases (show some O.add = some o from h); exact op_addP
  | Sub => cases (show some O.sub = some o from h); exact op_subP
  | Mult => cases (show some O.mul = some o from h); exact op_mulP
  | FloorDiv => cases (show some O.fdiv = some o from h); exact op_fdivP
  | Mod => cases (show some O.mod = some o from h); exact op_modP
  | Pow => cases (show some O.pow = some o from h); exact op_powP
  | _ => cases (show none = some o from h)
theorem none_of {b : Expr} (h : isNoneE b = true) : ∃ j p, b = .Constant .none j p := by
  cases b with
  | Constant c j p =>
    cases c with
    | none => exact ⟨j, p, rfl⟩
    | _ => cases h
  | _ => cases h
theorem bool_of {b : Expr} {c : Bool} (h : boolE b = some c) : ∃ j p, b = .Constant (.bool c) j p := by
  cases b with
  | Constant k j p =>
    cases k with
    | bool b => cases h; exact ⟨j, p, rfl⟩
    | _ => cases h
  | _ => cases h
theorem rev_of {i : Expr} (h : revSl i = true) : ∃ k p1 p2 p3, i = .Slice none none (some (.UnaryOp .USub (.Constant (.int 1) k p1) p2)) p3 := by
  unfold revSl at h
  split at h
  · exact ⟨_, _, _, _, rfl⟩
  · cases h
theorem behind_of {op : CmpOp} {b : Expr} (h : notSet b = true) : behindInMarks op b = false := by
  cases b <;> first | rfl | cases h
theorem kCmp_ok {p : CmpOp} {a b : Expr} {o : O} {ds : List E} {pos : Pos} (h : kCmp rE ct p a b o ds = true) : SEv G Φ cad X (.op o ds) (.Compare a [p] [b] pos) := by
  have gen : ∀ p, (decide (cmpO p = some o) && k2 rE ct a b ds) = true → SEv G Φ cad X (.op o ds) (.Compare a [p] [b] pos) := fun p h => by
    obtain ⟨h1, h2⟩ := bsplit h
    obtain ⟨c1, c2, c3, c4⟩ := cmpO_ok st ih (of_decide_eq_true h1)
    obtain ⟨da, db, rfl, ha, hb⟩ := k2_ok st ih h2
    exact sev_t (r_cmp c2 ha hb (nobehind _ c3 c4)) (t_cmp c1 c2 ha hb (nobehind _ c3 c4)) rfl
  cases p with
  | Is =>
    have h : (k1 rE ct a ds && (match boolE b with | some c => decide (o = .isB c) | none => decide (o = .isN) && isNoneE b)) = true := h
    obtain ⟨h3, h4⟩ := bsplit h
    clear h
    obtain ⟨da, rfl, ha⟩ := k1_ok st ih h3
    cases hb : boolE b with
    | some c =>
      rw [hb] at h4
      obtain ⟨j, p2, rfl⟩ := bool_of st ih hb
      have h4 := of_decide_eq_true h4
      subst h4
      exact sev_t (r_isB op_isBP ha rfl) (t_isB rfl op_isBP ha rfl) rfl
    | none =>
      rw [hb] at h4
      obtain ⟨h1, h2⟩ := bsplit h4
      have h1 := of_decide_eq_true h1
      subst h1
      obtain ⟨j, p2, rfl⟩ := none_of st ih h2
      exact sev_t (r_isN op_isNP ha rfl) (t_isN rfl op_isNP ha rfl) rfl
  | IsNot =>
    have h : (k1 rE ct a ds && (match boolE b with | some c => decide (o = .ntB c) | none => decide (o = .notN) && isNoneE b)) = true := h
    obtain ⟨h3, h4⟩ := bsplit h
    clear h
    obtain ⟨da, rfl, ha⟩ := k1_ok st ih h3
    cases hb : boolE b with
    | some c =>
      rw [hb] at h4
      obtain ⟨j, p2, rfl⟩ := bool_of st ih hb
      have h4 := of_decide_eq_true h4
      subst h4
      exact sev_t (r_isB op_ntBP ha rfl) (t_isB rfl op_ntBP ha rfl) rfl
    | none =>
      rw [hb] at h4
      obtain ⟨h1, h2⟩ := bsplit h4
      have h1 := of_decide_eq_true h1
      subst h1
      obtain ⟨j, p2, rfl⟩ := none_of st ih h2
      exact sev_t (r_isN op_notNP ha rfl) (t_isN rfl op_notNP ha rfl) rfl
  | In =>
    have h : (decide (o = .in_) && notSet b && k2 rE ct a b ds) = true := h
    obtain ⟨h, h3⟩ := bsplit h
    obtain ⟨h1, h2⟩ := bsplit h
    have h1 := of_decide_eq_true h1
    subst h1
    obtain ⟨da, db, rfl, ha, hb⟩ := k2_ok st ih h3
    exact sev_t (r_cmp (op_inP (units100 st)) ha hb (behind_of st ih h2)) (t_cmp rfl (op_inP (units100 st)) ha hb (behind_of st ih h2)) rfl
  | NotIn =>
    have h : (decide (o = .notin) && notSet b && k2 rE ct a b ds) = true := h
    obtain ⟨h, h3⟩ := bsplit h
    obtain ⟨h1, h2⟩ := bsplit h
    have h1 := of_decide_eq_true h1
    subst h1
    obtain ⟨da, db, rfl, ha, hb⟩ := k2_ok st ih h3
    exact sev_t (r_cmp (op_notinP (units100 st)) ha hb (behind_of st ih h2)) (t_cmp rfl (op_notinP (units100 st)) ha hb (behind_of st ih h2)) rfl
  | Eq => exact gen _ h
  | NotEq => exact gen _ h
  | Lt => exact gen _ h
  | LtE => exact gen _ h
  | Gt => exact gen _ h
  | GtE => exact gen _ h
theorem kIsi_ok {a c : Expr} {ts : List Nat} {ds : List E} {p pos : Pos} (hg : Gl X "isinstance") (hm : X.mg "isinstance" = none) (h : kIsi rE ct a c ts ds = true) : SE G Φ cad X (.op (.isi ts) ds) (.Call (.Name "isinstance" p) [a, c] [] pos) := by
  unfold kIsi at h
  obtain ⟨h, h3⟩ := bsplit h
  obtain ⟨h1, h2⟩ := bsplit h
  obtain ⟨da, rfl, ha⟩ := k1_ok st ih h2
  have one : ∀ c, (match ts with | [t] => okC1 ct c t | _ => false) = true → SE G Φ cad X (.op (.isi ts) [da]) (.Call (.Name "isinstance" p) [a, c] [] pos) := fun c h => by
    match ts, h with
    | [t], h => exact r_is1 st.wd.isi hg hm ha h1 (okC1_ok st h)
  cases c with
  | Tuple cs k2 p2 =>
    have h3 : (decide (ts ≠ []) && decide (ts.length ≤ 100) && okCs ct cs ts) = true := h3
    obtain ⟨h4, h5⟩ := bsplit h3
    obtain ⟨h6, h7⟩ := bsplit h4
    exact r_isM st.wd.isi (of_decide_eq_true h6) (of_decide_eq_true h7) hg hm ha h1 (okCs_ok st h5)
  | _ => exact one _ h3
theorem bltO_ok (cold : ct.hot = false) {x : Str} {es : List Expr} {e : Expr} {o : O} {ds : List E} {p pos : Pos} (hg : Gl X x) (hm : X.mg x = none) (h : bltO x (es.length + 1) = some o) (hs : (e :: es).all notStar = true) (ha : SA G Φ cad X ds (e :: es)) (hn : x ≠ "__name__") (hdb : (x == ("__debug__" : Str)) = false) :
    SE G Φ cad X (.op o ds) (.Call (.Name x p) (e :: es) [] pos) := by
  unfold bltO at h
  have one : ∀ {o' : O} {m n : Nat}, (if n = m then some o' else none) = some o → o' = o := fun {o' m n} h => by
    by_cases z : n = m
    · rw [if_pos z] at h; exact Option.some.inj h
    · rw [if_neg z] at h; cases h
  by_cases z : x = ("len" : Str)
  · rw [if_pos z] at h; subst z; cases one h; exact r_blt call_lenP hg hm PySem.boot_len ha hs hn hdb
  rw [if_neg z] at h
  by_cases z : x = ("abs" : Str)
  · rw [if_pos z] at h; subst z; cases one h; exact r_blt call_absP hg hm PyProof.Rows.boot_abs ha hs hn hdb
  rw [if_neg z] at h
  by_cases z : x = ("int" : Str)
  · rw [if_pos z] at h; subst z; cases one h; exact r_bltT call_intP hg hm PyProof.Rows.boot_int ha hs hn hdb
  rw [if_neg z] at h
  by_cases z : x = ("str" : Str)
  · rw [if_pos z] at h; subst z; cases one h; exact r_bltT call_strP hg hm PyProof.Rows.boot_str ha hs hn hdb
  rw [if_neg z] at h
  by_cases z : x = ("tuple" : Str)
  · rw [if_pos z] at h; subst z; cases one h; exact r_bltT call_tupP hg hm PyProof.Rows.boot_tuple ha hs hn hdb
  rw [if_neg z] at h
  by_cases z : x = ("list" : Str)
  · rw [if_pos z] at h; subst z; cases one h; exact r_bltT call_lstP hg hm PyProof.Rows.boot_list ha hs hn hdb
  rw [if_neg z] at h
  by_cases z : x = ("all" : Str)
  · rw [if_pos z] at h; subst z; cases one h; exact r_blt (call_allP (st.calm cold)) hg hm PyProof.Rows.boot_all ha hs hn hdb
  rw [if_neg z] at h
  by_cases z : x = ("any" : Str)
  · rw [if_pos z] at h; subst z; cases one h; exact r_blt (call_anyP (st.calm cold)) hg hm PyProof.Rows.boot_any ha hs hn hdb
  rw [if_neg z] at h
  by_cases z : x = ("sum" : Str)
  · rw [if_pos z] at h; subst z; cases one h; exact r_blt (call_sumP (st.calm cold)) hg hm PyProof.Rows.boot_sum ha hs hn hdb
  rw [if_neg z] at h
  by_cases z : x = ("sorted" : Str)
  · rw [if_pos z] at h; subst z; cases one h; exact (r_newB (call_sortedP (st.calm cold)) hg hm PyProof.Rows.boot_sorted ha hs hn hdb).1
  rw [if_neg z] at h
  by_cases z : x = ("dict" : Str)
  · rw [if_pos z] at h; subst z; cases one h; exact (r_newT (call_dictN (st.calm cold)) hg hm PyProof.Rows.boot_dict ha hs hn hdb).1
  rw [if_neg z] at h
  by_cases z : x = ("divmod" : Str)
  · rw [if_pos z] at h; subst z; cases one h; exact r_blt call_divmodP hg hm PyProof.Rows.boot_divmod ha hs hn hdb
  rw [if_neg z] at h
  by_cases z : x = ("min" : Str)
  · rw [if_pos z] at h; subst z; cases one h; exact r_blt (call_min2P (st.calm cold)) hg hm PyProof.Rows.boot_min ha hs hn hdb
  rw [if_neg z] at h
  by_cases z : x = ("max" : Str)
  · rw [if_pos z] at h; subst z; cases one h; exact r_blt (call_max2P (st.calm cold)) hg hm PyProof.Rows.boot_max ha hs hn hdb
  rw [if_neg z] at h
  cases h
theorem kBlt_ok {x : Str} {es : List Expr} {e : Expr} {o : O} {ds : List E} {p pos : Pos} (h : kBlt rE ct x (e :: es) o ds = true) : SE G Φ cad X (.op o ds) (.Call (.Name x p) (e :: es) [] pos) := by
  unfold kBlt at h
  obtain ⟨h, h3⟩ := bsplit h
  obtain ⟨h1, h2⟩ := bsplit h
  obtain ⟨g1, g2, g3⟩ := globB_ok st h1
  have hm := st.wd.free x (of_decide_eq_true h2)
  have gen : ∀ o, (!ct.hot && (decide (bltO x (e :: es).length = some o) && (e :: es).all notStar && kAll rE ct (e :: es) ds)) = true → SE G Φ cad X (.op o ds) (.Call (.Name x p) (e :: es) [] pos) := fun o h => by
    obtain ⟨cold, h⟩ := cold_of h
    obtain ⟨h, h3⟩ := bsplit h
    obtain ⟨h1, h2⟩ := bsplit h
    exact bltO_ok st ih cold g1 hm (of_decide_eq_true h1) h2 (kAll_ok st ih h3) g3 g2
  cases o with
  | isi ts =>
    match es, h3 with
    | [c], h3 =>
      have h3 : (decide (x = ("isinstance" : Str)) && kIsi rE ct e c ts ds) = true := h3
      obtain ⟨h4, h5⟩ := bsplit h3
      have h4 := of_decide_eq_true h4
      subst h4
      exact kIsi_ok st ih g1 hm h5
  | setlen =>
    simp only at h3
    split at h3
    · rename_i y p2 a q heq
      cases heq
      obtain ⟨h3, k7⟩ := bsplit h3
      obtain ⟨h3, k6⟩ := bsplit h3
      obtain ⟨h3, k5⟩ := bsplit h3
      obtain ⟨h3, k4⟩ := bsplit h3
      obtain ⟨h3, k3⟩ := bsplit h3
      obtain ⟨k1', k2'⟩ := bsplit h3
      have k2' := of_decide_eq_true k2'
      have k3 := of_decide_eq_true k3
      subst k2'
      subst k3
      obtain ⟨da, rfl, ha⟩ := k1_ok st ih k7
      obtain ⟨f1, f2, f3⟩ := globB_ok st k4
      exact r_lenset (st.calm (by simpa using k1')) (units64 st) g1 hm f1 (st.wd.free _ (of_decide_eq_true k5)) ha k6
    · cases h3
  | _ => exact gen _ h3
theorem kOp_ok {e : Expr} {o : O} {ds : List E} (h : kOp rE ct e o ds = true) : SEv G Φ cad X (.op o ds) e := by
  unfold kOp at h
  split at h
  · rename_i a p b pos
    obtain ⟨h1, h2⟩ := bsplit h
    obtain ⟨da, db, rfl, ha, hb⟩ := k2_ok st ih h2
    exact sev_plain (r_bin (binO_ok st ih (of_decide_eq_true h1)) ha hb) (fun _ _ => rfl) rfl
  · rename_i a pos
    obtain ⟨h1, h2⟩ := bsplit h
    obtain ⟨da, rfl, ha⟩ := k1_ok st ih h2
    have h1 := of_decide_eq_true h1
    subst h1
    exact sev_plain (r_un un_negP ha) (fun _ _ => rfl) rfl
  · exact kCmp_ok st ih h
  · rename_i a i pos
    by_cases hr : revSl i = true
    · rw [if_pos hr] at h
      obtain ⟨h1, h2⟩ := bsplit h
      obtain ⟨da, rfl, ha⟩ := k1_ok st ih h2
      have h1 := of_decide_eq_true h1
      subst h1
      obtain ⟨k, p1, p2, p3, rfl⟩ := rev_of st ih hr
      exact sev_plain (r_rev ha) (fun _ _ => rfl) rfl
    · rw [if_neg hr] at h
      obtain ⟨h, h3⟩ := bsplit h
      obtain ⟨h1, h2⟩ := bsplit h
      obtain ⟨da, db, rfl, ha, hb⟩ := k2_ok st ih h3
      have h1 := of_decide_eq_true h1
      subst h1
      exact sev_plain (r_ix (ix_P (units100 st)) ha hb (by cases i <;> first | (intro _ _; rfl) | cases h2)) (fun _ _ => rfl) rfl
  · exact sev_plain (kBlt_ok st ih h) (fun _ _ => rfl) rfl
  · cases h
theorem kBm_ok {e : Expr} {o : O} {da : E} {ds : List E} (h : kBm rE ct e o da ds = true) : SEv G Φ cad X (.bm o da ds) e := by
  unfold kBm at h
  split at h
  · rename_i a m ap b bs p
    obtain ⟨h, h7⟩ := bsplit h
    obtain ⟨h, h6⟩ := bsplit h
    obtain ⟨h, h5⟩ := bsplit h
    obtain ⟨h, h4⟩ := bsplit h
    obtain ⟨h, h3⟩ := bsplit h
    obtain ⟨h1, h2⟩ := bsplit h
    have ha := (ih _ _ _ _ st h6).1
    have hl := of_decide_eq_true h5
    have hu := units100 st
    cases ds with
    | nil => cases h7
    | cons db dbs =>
    have hb := kAll_ok st ih h7
    refine sev_plain ?_ (fun _ _ => rfl) rfl
    have h4' := of_decide_eq_true h4
    clear h4
    have h4 := h4'
    clear h4'
    unfold bmO at h4
    have one : ∀ {o' : O} {m n : Nat}, (if n = m then some o' else none) = some o → o' = o := fun {o' m n} h => by
      by_cases z : n = m
      · rw [if_pos z] at h; exact Option.some.inj h
      · rw [if_neg z] at h; cases h
    have strT : ∀ {d' : D}, (∃ y, d' = .str y) → ∀ H F x, PkD X.K cad H F d' x → TyR X "str" x H := fun {d'} ⟨y, e⟩ H F x h => by
      subst e
      cases (show x = .str y from h)
      exact tyR_of rfl
    have sts : ∀ {d : Option D}, (match d with | some (.str _) => true | _ => false) = true → ∃ d', d = some d' ∧ ∀ H F x, PkD X.K cad H F d' x → TyR X "str" x H := fun {d} h => by
      cases d with
      | none => cases h
      | some d => cases d <;> first | exact ⟨_, rfl, strT ⟨_, rfl⟩⟩ | cases h
    have dts : ∀ {d : Option D}, (match d with | some (.dct _ _) => true | _ => false) = true → ∃ d', d = some d' ∧ ∀ H F x, PkD X.K cad H F d' x → TyR X "dict" x H := fun {d} h => by
      cases d with
      | none => cases h
      | some d => cases d <;> first | (refine ⟨_, rfl, fun H F x h => ?_⟩; obtain ⟨a, us, rfl, ha, _⟩ := h; exact tyR_dct ha) | cases h
    have sts' : ∀ (o : O), (∀ d, recvOk o d = (match d with | some (.str _) => true | _ => false)) → ∀ d, recvOk o d = true → ∃ d', d = some d' ∧ ∀ H F x, PkD X.K cad H F d' x → TyR X "str" x H := fun o e d h => sts (by rw [← e d]; exact h)
    have dts' : ∀ (o : O), (∀ d, recvOk o d = (match d with | some (.dct _ _) => true | _ => false)) → ∀ d, recvOk o d = true → ∃ d', d = some d' ∧ ∀ H F x, PkD X.K cad H F d' x → TyR X "dict" x H := fun o e d h => dts (by rw [← e d]; exact h)
    have eqr : ∀ d : Option D, (match d with | some (.str _) => true | _ => false) = (match d with | some (.str _) => true | _ => false) := fun _ => rfl
    have R : ∀ {o : O} {id : String} {name : Str}, (∀ d, recvOk o d = (match d with | some (.str _) => true | _ => false)) → Slot "str" name id → typeOf (.builtin id) = pure (.type "method_descriptor") → MtR X id (fun x xs H Q => rO X.K cad G.isT o (x :: xs) H Q) → m = name → SE G Φ cad X (.bm o da (db :: dbs)) (.Call (.Attribute a m ap) (b :: bs) [] p) := fun {o id name} e sl ty rule em => by
      subst em
      exact r_bmN (sts' o e) F.plainAttrs_str sl ty rule ha hb h2 hl (base_of h1) h3
    by_cases z : m = ("startswith" : Str)
    · rw [if_pos z] at h4; cases one h4; exact R (fun d => by cases d with | none => rfl | some d => cases d <;> rfl) F.slot_str_startswith F.type_str_startswith mt_swP z
    rw [if_neg z] at h4
    by_cases z : m = ("endswith" : Str)
    · rw [if_pos z] at h4; cases one h4; exact R (fun d => by cases d with | none => rfl | some d => cases d <;> rfl) F.slot_str_endswith F.type_str_endswith mt_ewP z
    rw [if_neg z] at h4
    by_cases z : m = ("partition" : Str)
    · rw [if_pos z] at h4; cases one h4; exact R (fun d => by cases d with | none => rfl | some d => cases d <;> rfl) F.slot_str_partition F.type_str_partition mt_partP z
    rw [if_neg z] at h4
    by_cases z : m = ("split" : Str)
    · rw [if_pos z] at h4; cases one h4; exact R (fun d => by cases d with | none => rfl | some d => cases d <;> rfl) F.slot_str_split F.type_str_split mt_splitP z
    rw [if_neg z] at h4
    by_cases z : m = ("join" : Str)
    · rw [if_pos z] at h4; cases one h4; exact R (fun d => by cases d with | none => rfl | some d => cases d <;> rfl) F.slot_str_join F.type_str_join mt_joinP z
    rw [if_neg z] at h4
    by_cases z : m = ("count" : Str)
    · rw [if_pos z] at h4; cases one h4; exact R (fun d => by cases d with | none => rfl | some d => cases d <;> rfl) F.slot_str_count F.type_str_count mt_countP z
    rw [if_neg z] at h4
    by_cases z : m = ("get" : Str)
    · rw [if_pos z] at h4
      subst z
      by_cases z1 : bs.length + 1 = 1
      · rw [if_pos z1] at h4
        cases Option.some.inj h4
        exact r_bmN (dts' .get1 fun d => by cases d with | none => rfl | some d => cases d <;> rfl) F.plainAttrs_dict F.slot_dict_get F.type_dict_get (mt_get1P hu) ha hb h2 hl (base_of h1) h3
      · rw [if_neg z1] at h4
        by_cases z2 : bs.length + 1 = 2
        · rw [if_pos z2] at h4
          cases Option.some.inj h4
          exact r_bmN (dts' .get2 fun d => by cases d with | none => rfl | some d => cases d <;> rfl) F.plainAttrs_dict F.slot_dict_get F.type_dict_get (mt_get2P hu) ha hb h2 hl (base_of h1) h3
        · rw [if_neg z2] at h4; cases h4
    rw [if_neg z] at h4
    cases h4
  · cases h
theorem kAnd_ok {e : Expr} {da d : E} (h : kAnd rE ct e da d = true) : SEv G Φ cad X (.and_ da d) e := by
  unfold kAnd at h
  split at h
  · rename_i a b r p
    obtain ⟨h, h4⟩ := bsplit h
    obtain ⟨h, h3⟩ := bsplit h
    obtain ⟨h1, h2⟩ := bsplit h
    obtain ⟨a1, a2, _⟩ := ih _ _ _ _ st h3
    obtain ⟨b1, _, b3⟩ := ih _ _ _ _ st h4
    have w := w_and (a2 h1) (b3 rfl (by simpa using h2))
    exact ⟨r_and a1 b1, fun _ => w.pt, fun _ _ => w⟩
  · cases h
theorem kOr_ok {e : Expr} {da d : E} (h : kOr rE ct e da d = true) : SEv G Φ cad X (.or_ da d) e := by
  unfold kOr at h
  split at h
  · rename_i a b r p
    obtain ⟨h, h4⟩ := bsplit h
    obtain ⟨h, h3⟩ := bsplit h
    obtain ⟨h1, h2⟩ := bsplit h
    obtain ⟨a1, a2, _⟩ := ih _ _ _ _ st h3
    obtain ⟨b1, _, b3⟩ := ih _ _ _ _ st h4
    have w := w_or (a2 h1) (b3 rfl (by simpa using h2))
    exact ⟨r_or a1 b1, fun _ => w.pt, fun _ _ => w⟩
  · cases h
theorem kNot_ok {e : Expr} {da : E} (h : kNot rE ct e da = true) : SEv G Φ cad X (.not_ da) e := by
  unfold kNot at h
  split at h
  · obtain ⟨h1, h2⟩ := bsplit h
    obtain ⟨a1, a2, _⟩ := ih _ _ _ _ st h2
    exact sev_t (r_not a1) (t_not (a2 h1)) rfl
  · cases h
theorem kIfe_ok {e : Expr} {dt da db : E} (h : kIfe rE ct e dt da db = true) : SEv G Φ cad X (.ife dt da db) e := by
  unfold kIfe at h
  split at h
  · obtain ⟨h, h4⟩ := bsplit h
    obtain ⟨h, h3⟩ := bsplit h
    obtain ⟨h1, h2⟩ := bsplit h
    exact sev_plain (r_ife ((ih _ _ _ _ st h2).2.1 h1) (ih _ _ _ _ st h3).1 (ih _ _ _ _ st h4).1) (fun z => by cases z) rfl
  · cases h
theorem kChain_ok {e : Expr} {o p : O} {da db dc : E} (h : kChain rE ct e o p da db dc = true) : SEv G Φ cad X (.chain o p da db dc) e := by
  unfold kChain at h
  split at h
  · obtain ⟨h, h5⟩ := bsplit h
    obtain ⟨h, h4⟩ := bsplit h
    obtain ⟨h, h3⟩ := bsplit h
    obtain ⟨h1, h2⟩ := bsplit h
    obtain ⟨c1, c2, c3, c4⟩ := cmpO_ok st ih (of_decide_eq_true h1)
    obtain ⟨e1, e2, e3, e4⟩ := cmpO_ok st ih (of_decide_eq_true h2)
    have a := (ih _ _ _ _ st h3).1
    have b := (ih _ _ _ _ st h4).1
    have c := (ih _ _ _ _ st h5).1
    exact sev_t (r_chain c2 e2 a b c (nobehind _ e3 e4)) (t_chain e1 c2 e2 a b c (nobehind _ e3 e4)) rfl
  · cases h
theorem kTup_ok {e : Expr} {ds : List E} (h : kTup rE ct e ds = true) : SEv G Φ cad X (.tup ds) e := by
  unfold kTup at h
  split at h
  · exact sev_plain (r_tup (kAll_ok st ih h)) (fun _ _ => rfl) rfl
  · cases h
theorem kLst_ok {e : Expr} {ds : List E} (h : kLst rE ct e ds = true) : SEv G Φ cad X (.lst ds) e ∧ SEv G Φ cad X (.mlst ds) e := by
  unfold kLst at h
  split at h
  · exact ⟨sev_plain (r_lst (kAll_ok st ih h)) (fun _ _ => rfl) rfl, sev_plain (r_mlst (kAll_ok st ih h)) (fun _ _ => rfl) rfl⟩
  · cases h
theorem kSl2_ok {e : Expr} {da d1 d2 : E} (h : kSl2 rE ct e da d1 d2 = true) : SEv G Φ cad X (.sl2 da d1 d2) e := by
  unfold kSl2 at h
  split at h
  · obtain ⟨h, h3⟩ := bsplit h
    obtain ⟨h1, h2⟩ := bsplit h
    exact sev_plain (r_sl2 (ih _ _ _ _ st h1).1 (ih _ _ _ _ st h2).1 (ih _ _ _ _ st h3).1) (fun _ _ => rfl) rfl
  · cases h
theorem kSlL_ok {e : Expr} {da d1 : E} (h : kSlL rE ct e da d1 = true) : SEv G Φ cad X (.slL da d1) e := by
  unfold kSlL at h
  split at h
  · obtain ⟨h1, h2⟩ := bsplit h
    exact sev_plain (r_slL (ih _ _ _ _ st h1).1 (ih _ _ _ _ st h2).1) (fun _ _ => rfl) rfl
  · cases h
theorem kSlH_ok {e : Expr} {da d1 : E} (h : kSlH rE ct e da d1 = true) : SEv G Φ cad X (.slH da d1) e := by
  unfold kSlH at h
  split at h
  · obtain ⟨h1, h2⟩ := bsplit h
    exact sev_plain (r_slH (ih _ _ _ _ st h1).1 (ih _ _ _ _ st h2).1) (fun _ _ => rfl) rfl
  · cases h
theorem kFld_ok {e : Expr} {da : E} {f : Str} (h : kFld rE ct e da f = true) : SEv G Φ cad X (.fld da f) e := by
  unfold kFld at h
  split at h
  · obtain ⟨h, h3⟩ := bsplit h
    obtain ⟨h1, h2⟩ := bsplit h
    have h2 := of_decide_eq_true h2
    subst h2
    exact sev_plain (r_fld (fun C hC => st.wd.fld C _ hC) (ih _ _ _ _ st h3).1 (base_of h1)) (fun _ _ => rfl) rfl
  · cases h
theorem kCall_ok (cold : ct.hot = false) {e : Expr} {f : Nat} {ds : List E} (h : kCall rE ct e f ds = true) : SEv G Φ cad X (.call f ds) e := by
  unfold kCall at h
  split at h
  · rename_i x p es pos
    obtain ⟨h, h4⟩ := bsplit h
    obtain ⟨h, h3⟩ := bsplit h
    obtain ⟨h1, h2⟩ := bsplit h
    obtain ⟨g1, g2, g3⟩ := globB_ok st h1
    obtain ⟨fa, fd, ps, m1, m2, m3, F⟩ := st.wd.fn _ _ (of_decide_eq_true h2)
    have hr : Room k X.A := (st.room cold).mono (Nat.le_succ k)
    refine sev_plain ?_ (fun _ _ => rfl) rfl
    cases es with
    | nil =>
      cases ds with
      | nil => exact r_call0 F hr g1 m1 m2 m3 g2
      | cons _ _ => cases h4
    | cons e es => exact r_call F hr g1 m1 m2 m3 (kAll_ok st ih h4) h3 g2
  · cases h
theorem kMake_ok (cold : ct.hot = false) {e : Expr} {C : Nat} {ds : List E} (h : kMake G rE ct e C ds = true) : SEv G Φ cad X (.make C ds) e := by
  unfold kMake at h
  split at h
  · rename_i x p es pos
    obtain ⟨h, h5⟩ := bsplit h
    obtain ⟨h, h4⟩ := bsplit h
    obtain ⟨h, h3⟩ := bsplit h
    obtain ⟨h1, h2⟩ := bsplit h
    obtain ⟨g1, g2, g3⟩ := globB_ok st h1
    have hm := st.wd.cl _ _ (of_decide_eq_true h2)
    obtain ⟨i, hi⟩ := Option.isSome_iff_exists.mp h3
    obtain ⟨fa, fd, ps, M, m3, F⟩ := st.wd.init _ _ hi
    refine sev_plain ?_ (fun _ _ => rfl) rfl
    cases es with
    | nil =>
      cases ds with
      | nil => exact r_make0 hi M F (st.room cold) g1 hm m3 g2
      | cons _ _ => cases h5
    | cons e es => exact r_make hi M F (st.room cold) g1 hm m3 (kAll_ok st ih h5) h4 g2
  · cases h
theorem kNew0_ok {e : Expr} {C : Nat} (h : kNew0 G ct e C = true) : SEv G Φ cad X (.new0 C) e := by
  unfold kNew0 at h
  split at h
  · rename_i x p pos
    obtain ⟨h, h3⟩ := bsplit h
    obtain ⟨h1, h2⟩ := bsplit h
    obtain ⟨g1, g2, g3⟩ := globB_ok st h1
    exact sev_plain (r_new0 h3 (st.wd.new0 C h3) g1 (st.wd.cl _ _ (of_decide_eq_true h2)) g2) (fun _ _ => rfl) rfl
  · cases h
theorem kAll_get : ∀ {vals : List Expr} {ds : List E}, kAll rE ct vals ds = true → ∀ (i : Nat) (e : Expr) (d : E), vals[i]? = some e → ds[i]? = some d → SE G Φ cad X d e
  | [], _, _, i, e, d, h1, _ => by cases h1
  | _ :: _, [], h, _, _, _, _, _ => by cases h
  | v :: vals, d0 :: ds, h, i, e, d, h1, h2 => by
    have h : (notStar v && rE ct v d0 && kAll rE ct vals ds) = true := h
    obtain ⟨h, h3⟩ := bsplit h
    obtain ⟨h4, h5⟩ := bsplit h
    cases i with
    | zero =>
      cases (show some v = some e from h1)
      cases (show some d0 = some d from h2)
      exact (ih _ _ _ _ st h5).1
    | succ i => exact kAll_get h3 i e d h1 h2
theorem kDsp_ok {e : Expr} {mc : Bool} {ks : List Key} {es : List E} (h : kDsp rE ct e ks es = true) : SEv G Φ cad X (.dsp mc ks es) e := by
  unfold kDsp at h
  split at h
  · rename_i keys vals pos
    obtain ⟨h, h6⟩ := bsplit h
    obtain ⟨h, h5⟩ := bsplit h
    obtain ⟨h, h4⟩ := bsplit h
    obtain ⟨h, h3⟩ := bsplit h
    obtain ⟨h1, h2⟩ := bsplit h
    exact sev_plain (r_dsp h1 (of_decide_eq_true h5) (of_decide_eq_true h4) (of_decide_eq_true h2) (of_decide_eq_true h3) (kAll_get st ih h6)) (fun _ _ => rfl) rfl
  · cases h
theorem kMeth_ok (cold : ct.hot = false) {e : Expr} {da : E} {m : Str} {ds : List E} (h : kMeth rE ct e da m ds = true) : SEv G Φ cad X (.meth da m ds) e := by
  unfold kMeth at h
  split at h
  · rename_i a m' ap es p
    obtain ⟨h, h8⟩ := bsplit h
    obtain ⟨h, h7⟩ := bsplit h
    obtain ⟨h, h6⟩ := bsplit h
    obtain ⟨h, h5⟩ := bsplit h
    obtain ⟨h, h4⟩ := bsplit h
    obtain ⟨h, h3⟩ := bsplit h
    obtain ⟨h1, h2⟩ := bsplit h
    have h2 := of_decide_eq_true h2
    subst h2
    have hn := of_decide_eq_true h3
    have hl := of_decide_eq_true h5
    have hr : Room k X.A := (st.room cold).mono (Nat.le_succ k)
    have hc : ∀ C i, G.meth C m' = some i → Cls X.K (cad C) ∧ ∃ f, Meth X.K (cad C) m' f ∧ okM X G Φ cad m' (cad C) f (spOf X.K cad (Φ i)) := fun C i hi => by
      obtain ⟨cl, f, fd, ps, hm, hb, F⟩ := st.wd.meth C m' i hi hn
      exact ⟨cl, f, hm, C, i, k, fd, ps, rfl, hi, rfl, F, hr, hb⟩
    have ha := (ih _ _ _ _ st h7).1
    have ev := ev_meth (m := m') (env := X.env) h1 h4 h6 (by omega)
    refine sev_plain ?_ (fun _ _ => rfl) rfl
    cases es with
    | nil =>
      cases ds with
      | nil => exact r_meth0 hc ha ev
      | cons _ _ => cases h8
    | cons e es => exact r_meth hc ha (kAll_ok st ih h8) h6 ev
  · cases h
theorem kIter_ok {q : IK} {its : List E} {tg iter : Expr} (h : kIter rE ct q its tg iter = true) : SI G Φ cad X q its tg iter := by
  unfold kIter at h
  split at h
  · exact i_seq (ih _ _ _ _ st h).1
  · exact i_str (ih _ _ _ _ st h).1
  · rename_i d
    unfold kRng1 at h
    split at h
    · obtain ⟨h, h5⟩ := bsplit h
      obtain ⟨h, h4⟩ := bsplit h
      obtain ⟨h, h3⟩ := bsplit h
      obtain ⟨h1, h2⟩ := bsplit h
      have h1 := of_decide_eq_true h1
      subst h1
      exact i_range1 (globB_ok st h2).1 (st.wd.free _ (of_decide_eq_true h3)) (r_cons h4 (ih _ _ _ _ st h5).1 r_nil) h4
    · cases h
  · rename_i d d'
    unfold kRng2 at h
    split at h
    · obtain ⟨h, h7⟩ := bsplit h
      obtain ⟨h, h6⟩ := bsplit h
      obtain ⟨h, h5⟩ := bsplit h
      obtain ⟨h, h4⟩ := bsplit h
      obtain ⟨h, h3⟩ := bsplit h
      obtain ⟨h1, h2⟩ := bsplit h
      have h1 := of_decide_eq_true h1
      subst h1
      exact i_range2 (globB_ok st h2).1 (st.wd.free _ (of_decide_eq_true h3)) (r_cons h4 (ih _ _ _ _ st h6).1 (r_cons h5 (ih _ _ _ _ st h7).1 r_nil)) h4 h5
    · cases h
  · rename_i d d'
    unfold kZip at h
    have hh := bsplit h
    clear h
    obtain ⟨h0, h⟩ := hh
    cases tg with
    | Tuple elts kk tp =>
      split at h
      · obtain ⟨h, h7⟩ := bsplit h
        obtain ⟨h, h6⟩ := bsplit h
        obtain ⟨h, h5⟩ := bsplit h
        obtain ⟨h, h4⟩ := bsplit h
        obtain ⟨h, h3⟩ := bsplit h
        obtain ⟨h1, h2⟩ := bsplit h
        have h1 := of_decide_eq_true h1
        subst h1
        exact i_zip (globB_ok st h2).1 (st.wd.free _ (of_decide_eq_true h3)) (r_cons h4 (ih _ _ _ _ st h6).1 (r_cons h5 (ih _ _ _ _ st h7).1 r_nil)) h4 h5
      · cases h
    | _ => cases h0
  · rename_i d
    unfold kEnum at h
    have hh := bsplit h
    clear h
    obtain ⟨h0, h⟩ := hh
    cases tg with
    | Tuple elts kk tp =>
      split at h
      · obtain ⟨h, h5⟩ := bsplit h
        obtain ⟨h, h4⟩ := bsplit h
        obtain ⟨h, h3⟩ := bsplit h
        obtain ⟨h1, h2⟩ := bsplit h
        have h1 := of_decide_eq_true h1
        subst h1
        exact i_enum (globB_ok st h2).1 (st.wd.free _ (of_decide_eq_true h3)) (r_cons h4 (ih _ _ _ _ st h5).1 r_nil) h4
      · cases h
    | _ => cases h0
  · cases h
theorem ownN_snd {N : List Str} (own : List Nat) : (ownN N own).map (·.2) = own := by
  unfold ownN
  rw [List.map_map]
  exact List.map_id own
omit ih in
/-- the context of a block -/
theorem StX.blk (s : Shared) (H : Hp) (scope : Scope) (C : Addr) (cl : List (Str × Addr)) (fp : List Addr) : StX { ct with sc := relS scope ct.sc, raw := scope } G Φ cad k (X.blk s H scope (compEnvC scope cl C X.env) fp) :=
  ⟨st.hN, by rw [← st.sc]; rfl, st.nd, st.cold, st.un, fun x h => by
    show (scope.names.lookup x == some .cell) = true
    rw [show scope.names.lookup x = some .cell from h]
    rfl, st.wd⟩
theorem kConds_ok {es : List Expr} {ds : List E} (h : kConds rE ct es ds = true) : SC G Φ cad X ds es := by
  unfold kConds at h
  split at h
  · exact c_nil
  · obtain ⟨h1, h2⟩ := bsplit h
    exact c_one ((ih _ _ _ _ st h2).2.1 h1)
  · cases h
theorem kComp_parts (cold : ct.hot = false) {elt tg iter : Expr} {ifs : List Expr} {z : Int} {scope : Scope} {pos : Pos} {own : List Nat} {t : Tg} {q : IK} {its conds : List E} {de : E} (h : kComp rE ct (.ListComp elt [⟨tg, iter, ifs, z⟩] scope pos) own t q its conds de = true) :
    z = 0 ∧ BlkOk X.N X.env.scope scope (ownN ct.N own) ∧ SI G Φ cad X q its tg iter ∧ (∀ (s : Shared) (H : Hp) (C : Addr) (cl : List (Str × Addr)) (fp : List Addr), SG (X.blk s H scope (compEnvC scope cl C X.env) fp) t tg) ∧
    (∀ (s : Shared) (H : Hp) (C : Addr) (cl : List (Str × Addr)) (fp : List Addr), SC G Φ cad (X.blk s H scope (compEnvC scope cl C X.env) fp) conds ifs) ∧ (∀ (s : Shared) (H : Hp) (C : Addr) (cl : List (Str × Addr)) (fp : List Addr), SE G Φ cad (X.blk s H scope (compEnvC scope cl C X.env) fp) de elt) ∧
    (∀ x, foldedSetIterable iter X.env x = pure x) ∧ tgIn t own = true := by
  have h : (decide (z = 0) && blkC ct.N ct.sc scope (ownN ct.N own) && kIter rE ct q its tg iter && okT { ct with sc := relS scope ct.sc, raw := scope } tg t && kConds rE { ct with sc := relS scope ct.sc, raw := scope } ifs conds && rE { ct with sc := relS scope ct.sc, raw := scope } elt de && notSet iter && tgIn t own) = true := h
  obtain ⟨h, h8⟩ := bsplit h
  obtain ⟨h, h7⟩ := bsplit h
  obtain ⟨h, h6⟩ := bsplit h
  obtain ⟨h, h5⟩ := bsplit h
  obtain ⟨h, h4⟩ := bsplit h
  obtain ⟨h, h3⟩ := bsplit h
  obtain ⟨h1, h2⟩ := bsplit h
  refine ⟨of_decide_eq_true h1, by rw [st.hN, st.sc]; exact blkOk_by h2, kIter_ok st ih h3, fun s H C cl fp => ?_, fun s H C cl fp => ?_, fun s H C cl fp => ?_, folded_of h7, h8⟩
  · exact okT_ok (st.blk s H scope C cl fp) _ _ h4
  · exact kConds_ok (st.blk s H scope C cl fp) ih h5
  · exact (ih _ _ _ _ (st.blk s H scope C cl fp) h6).1
theorem kComp_ok (cold : ct.hot = false) {e : Expr} {mc : Bool} {own : List Nat} {t : Tg} {q : IK} {its conds : List E} {de : E} (h : kComp rE ct e own t q its conds de = true) : SEv G Φ cad X (.comp mc own t q its conds de) e := by
  have h0 := h
  unfold kComp at h
  split at h
  · rename_i elt tg iter ifs z scope pos
    obtain ⟨rfl, h2, h3, h4, h5, h6, h7, h8⟩ := kComp_parts st ih cold h0
    refine sev_plain ?_ (fun _ _ => rfl) rfl
    have r := r_comp (mc := mc) (pos := pos) (st.calm cold) (by rw [st.hN]; exact st.nd) h3 h2 h4 h5 h6 h7 (by rw [ownN_snd st ih]; exact h8)
    rw [ownN_snd st ih] at r
    exact r
  · cases h
theorem kCompK_ok (cold : ct.hot = false) {e : Expr} {mc : Bool} {own : List Nat} {t : Tg} {j : Nat} {conds : List E} {de : E} (h : kCompK rE ct e own t j conds de = true) : SEv G Φ cad X (.comp mc own t .keys [.v j] conds de) e ∧ SEv G Φ cad X (.compc own t j conds de) e := by
  unfold kCompK at h
  split at h
  · rename_i elt tg x px ifs z scope pos
    obtain ⟨h, h7⟩ := bsplit h
    obtain ⟨h, h6⟩ := bsplit h
    obtain ⟨h, h5⟩ := bsplit h
    obtain ⟨h, h4⟩ := bsplit h
    obtain ⟨h, h3⟩ := bsplit h
    obtain ⟨h1, h2⟩ := bsplit h
    have h1 := of_decide_eq_true h1
    subst h1
    obtain ⟨n1, n2, n3, n4⟩ := nmB_ok st h3
    have bk : BlkOk X.N X.env.scope scope (ownN ct.N own) := by rw [st.hN, st.sc]; exact blkOk_by h2
    have r := r_compK (mc := mc) (pos := pos) (px := px) (st.calm cold) (by rw [st.hN]; exact st.nd) n1 n2 n3 n4 bk (fun s H C cl fp => okT_ok (st.blk s H scope C cl fp) _ _ h4) (fun s H C cl fp => kConds_ok (st.blk s H scope C cl fp) ih h5) (fun s H C cl fp => (ih _ _ _ _ (st.blk s H scope C cl fp) h6).1) (by rw [ownN_snd st ih]; exact h7)
    have r2 := r_compC (pos := pos) (px := px) (st.calm cold) (by rw [st.hN]; exact st.nd) n1 n2 n3 n4 bk (fun s H C cl fp => okT_ok (st.blk s H scope C cl fp) _ _ h4) (fun s H C cl fp => kConds_ok (st.blk s H scope C cl fp) ih h5) (fun s H C cl fp => (ih _ _ _ _ (st.blk s H scope C cl fp) h6).1) (by rw [ownN_snd st ih]; exact h7)
    rw [ownN_snd st ih] at r r2
    exact ⟨sev_plain r (fun _ _ => rfl) rfl, sev_plain r2 (fun _ _ => rfl) rfl⟩
  · cases h
theorem kCompKs_ok (cold : ct.hot = false) {e : Expr} {mc : Bool} {own : List Nat} {t : Tg} {q : IK} {its conds : List E} {de : E} (h : kCompKs rE ct e own t q its conds de = true) : SEv G Φ cad X (.comp mc own t q its conds de) e := by
  unfold kCompKs at h
  split at h
  · exact (kCompK_ok st ih cold h).1
  · cases h
theorem stepD_ok {e : Expr} {d : E} (h : stepD G rE ct e d = true) : SEv G Φ cad X d e := by
  cases d with
  | frz d =>
    have i := ih _ _ _ _ st (show rE ct e d = true from h)
    exact ⟨r_frz i.1, (fun z => absurd (show false = true from (bsplit z).1) Bool.false_ne_true), (fun _ z => absurd (show true = false from z) (fun z => nomatch z))⟩
  | c d => exact kConst_ok st h
  | v i => exact kVar_ok st h
  | g i => exact kGlob_ok st h
  | op o ds => exact kOp_ok st ih h
  | bm o da ds => exact kBm_ok st ih h
  | opC o ds =>
    rcases Bool.or_eq_true_iff.mp (show (kNew e o ds || kNewC rE ct e o ds) = true from h) with h | h
    · exact kNew_ok st h
    · exact kNewC_ok st ih h
  | and_ a b => exact kAnd_ok st ih h
  | or_ a b => exact kOr_ok st ih h
  | not_ a => exact kNot_ok st ih h
  | ife t a b => exact kIfe_ok st ih h
  | chain o p a b c => exact kChain_ok st ih h
  | tup ds => exact kTup_ok st ih h
  | lst ds => exact (kLst_ok st ih h).1
  | mlst ds => exact (kLst_ok st ih h).2
  | sl2 a b c => exact kSl2_ok st ih h
  | slL a b => exact kSlL_ok st ih h
  | slH a b => exact kSlH_ok st ih h
  | fld a f => exact kFld_ok st ih h
  | call f ds => exact kCall_ok st ih (cold_of h).1 (cold_of h).2
  | fv i => exact kFv_ok st h
  | callv j ds => exact kCallv_ok st ih (cold_of h).1 (cold_of h).2
  | compc own t j conds de => exact (kCompK_ok (mc := true) st ih (cold_of h).1 (cold_of h).2).2
  | dspE kes => exact kDspE_ok st ih h
  | make C ds => exact kMake_ok st ih (cold_of h).1 (cold_of h).2
  | meth o m ds => exact kMeth_ok st ih (cold_of h).1 (cold_of h).2
  | new0 C => exact kNew0_ok st ih h
  | dsp mc ks ds => exact kDsp_ok st ih h
  | comp mc own t q its conds de =>
    obtain ⟨cold, h⟩ := cold_of h
    rcases Bool.or_eq_true_iff.mp h with h | h
    · exact kComp_ok st ih cold h
    · exact kCompKs_ok st ih cold h
theorem stepE_ok {e : Expr} {d : E} (h : stepE G rE ct e d = true) : SEv G Φ cad X d e := by
  unfold stepE at h
  split at h
  · obtain ⟨h1, h2⟩ := bsplit h
    obtain ⟨a1, a2, _⟩ := ih _ _ _ _ st h2
    have w := w_one (op := by assumption) (pos := by assumption) (a2 h1)
    exact ⟨r_one a1, fun _ => w.pt, fun _ _ => w⟩
  · exact stepD_ok st ih h
end
theorem okE_ok {G : Pg} {Φ : Nat → List PD.W → List M → Rs PD.W} {cad : Nat → Addr} {k : Nat} : ∀ (n : Nat) (ct : Ct) (e : Expr) (d : E) (X : Cx), StX ct G Φ cad k X → okE G n ct e d = true → SEv G Φ cad X d e
  | 0, _, _, _, _, _, h => by cases h
  | n + 1, ct, e, d, X, st, h => stepE_ok st (okE_ok n) h
end PD
set_option Elab.async false
set_option linter.all false
set_option maxRecDepth 100000
set_option maxHeartbeats 4000000
namespace PD
open PySem PySem.Spec PyProof.Rows L2
section
variable (K : PySem.W.Frag) (cad : Nat → Addr)
def PostS (W : WX) (D : Ends) (as : AS) (R : List Addr) (H : Hp) : SR → Prop
  | .ok .nx sl cs => ∀ σ' H' as', Ext H as H' as' → Rel K cad as' R H' sl cs σ' → D.nx σ' H'
  | .ok .brk sl cs => ∀ σ' H' as', Ext H as H' as' → Rel K cad as' R H' sl cs σ' → D.bk σ' H'
  | .ok .cnt sl cs => ∀ σ' H' as', Ext H as H' as' → Rel K cad as' R H' sl cs σ' → D.ct σ' H'
  | .ok (.ret w) sl cs => ∀ v H' as', Ext H as H' as' → Cells K cad as' R H' cs → IsW K cad as' R H' w v → D.rt v H'
  | .ex C ks vs sl cs => ∀ cls d σ' H' as', Ext H as H' as' → Rel K cad as' R H' sl cs σ' → IsX K cad as' R H' C ks vs cls d → W cls d σ' H'
  | .stuck => False
def liftS (W : WX) (g : Sl → List M → SR) : TS := fun D σ H => ∃ sl cs as R, Rel K cad as R H sl cs σ ∧ PostS K cad W D as R H (g sl cs)
end
section
variable {K : PySem.W.Frag} {cad : Nat → Addr} {as as' : AS} {R : List Addr} {H H' : Hp} {sl : Sl} {cs cs' : List M} {σ : L2.St} {W : WX} {D : Ends}
theorem PostS.mono (x : Ext H as H' as') : ∀ {r : SR}, PostS K cad W D as R H r → PostS K cad W D as' R H' r
  | .ok .nx sl cs, h => fun σ' H2 as2 x2 r => h σ' H2 as2 (x.trans x2) r
  | .ok .brk sl cs, h => fun σ' H2 as2 x2 r => h σ' H2 as2 (x.trans x2) r
  | .ok .cnt sl cs, h => fun σ' H2 as2 x2 r => h σ' H2 as2 (x.trans x2) r
  | .ok (.ret w) sl cs, h => fun v H2 as2 x2 c i => h v H2 as2 (x.trans x2) c i
  | .ex C ks vs sl cs, h => fun cls d σ' H2 as2 x2 r i => h cls d σ' H2 as2 (x.trans x2) r i
  | .stuck, h => h
theorem liftS_bind {α β : Type} {IsA : AS → List Addr → Hp → α → β → Prop} {g : Sl → List M → Rs α} {f : Sl → α → List M → SR} {hs : List PD.W} {vs : List V}
    (h : ∃ sl cs as R, Rel K cad as R H sl cs σ ∧ IsWs K cad as R H hs vs ∧ PostS K cad W D as R H (SR.of (g sl cs) sl (f sl))) :
    liftR K cad IsA W g σ H fun v H1 => ∃ sl cs as R a, Rel K cad as R H1 sl cs σ ∧ IsWs K cad as R H1 hs vs ∧ IsA as R H1 a v ∧ PostS K cad W D as R H1 (f sl a cs) := by
  obtain ⟨sl, cs, as, R, rel, ih, p⟩ := h
  refine ⟨sl, cs, as, R, rel, ?_⟩
  cases e : g sl cs with
  | ok a cs1 =>
    rw [e] at p
    exact fun v H1 as1 x c i => ⟨sl, cs1, as1, R, a, rel.mono x c, ih.mono x, i, PostS.mono x p⟩
  | ex C ks vs cs1 =>
    rw [e] at p
    exact fun cls d H1 as1 x c i => p cls d σ H1 as1 x (rel.mono x c) i
  | stuck =>
    rw [e] at p
    exact p
theorem liftS_bind0 {α β : Type} {IsA : AS → List Addr → Hp → α → β → Prop} {g : Sl → List M → Rs α} {f : Sl → α → List M → SR}
    (h : liftS K cad W (fun sl cs => SR.of (g sl cs) sl (f sl)) D σ H) :
    liftR K cad IsA W g σ H fun v H1 => ∃ sl cs as R a, Rel K cad as R H1 sl cs σ ∧ IsA as R H1 a v ∧ PostS K cad W D as R H1 (f sl a cs) := by
  obtain ⟨sl, cs, as, R, rel, p⟩ := h
  exact lift_mono (liftS_bind (IsA := IsA) (g := g) (f := f) (hs := []) (vs := []) ⟨sl, cs, as, R, rel, rfl, p⟩) fun v H1 ⟨sl, cs, as, R, a, h1, _, h2, h3⟩ => ⟨sl, cs, as, R, a, h1, h2, h3⟩
end
section
variable (G : Pg) (Φ : Nat → List PD.W → List M → Rs PD.W) (cad : Nat → Addr)
def SS (X : Cx) (d : S) (s : Stmt) : Prop := ∀ W, Takes X W → PS X s (liftS X.K cad W (evS G Φ d))
def SSs (X : Cx) (d : List S) (s : List Stmt) : Prop := ∀ W, Takes X W → PSs X s (liftS X.K cad W (evSs G Φ d))
end
section
variable {G : Pg} {Φ : Nat → List PD.W → List M → Rs PD.W} {cad : Nat → Addr} {X : Cx} {K : PySem.W.Frag} {pos : Pos}
variable {e a b c t tg : Expr} {da db dc dt : E} {es : List Expr} {ds : List E}
def notLC : Expr → Bool
  | .ListComp _ _ _ _ => false
  | .SetComp _ _ _ _ => false
  | .DictComp _ _ _ _ _ => false
  | _ => true
theorem swaps_of {tg : Option Expr} {line : Nat} {env : Env} (h : notLC e = true) : swapsWith e tg line env = pure false := by
  cases e <;> first | rfl | cases h
theorem sole_of {line : Nat} {env : Env} (h : notLC e = true) : swapsWithSole [tg] e line env = pure false := swaps_of h
theorem s_pass : SS G Φ cad X .pass (.Pass pos) := fun W tk => ps_pass.imp fun D σ H ⟨sl, cs, as, R, rel, p⟩ => (show PostS X.K cad W D as R H (.ok .nx sl cs) from p) σ H as Ext.refl rel
theorem s_doc {x : Str} {j : Nat} {p2 : Pos} : SS G Φ cad X .pass (.Expr (.Constant (.str x) j p2) pos) := fun W tk => ps_doc.imp fun D σ H ⟨sl, cs, as, R, rel, p⟩ => (show PostS X.K cad W D as R H (.ok .nx sl cs) from p) σ H as Ext.refl rel
theorem s_brk : SS G Φ cad X .brk (.Break pos) := fun W tk => ps_break.imp fun D σ H ⟨sl, cs, as, R, rel, p⟩ => (show PostS X.K cad W D as R H (.ok .brk sl cs) from p) σ H as Ext.refl rel
theorem s_cnt : SS G Φ cad X .cnt (.Continue pos) := fun W tk => ps_continue.imp fun D σ H ⟨sl, cs, as, R, rel, p⟩ => (show PostS X.K cad W D as R H (.ok .cnt sl cs) from p) σ H as Ext.refl rel
theorem s_ex (ha : SE G Φ cad X da a) (hn : notLC a = true) : SS G Φ cad X (.ex da) (.Expr a pos) := fun W tk =>
  (ps_expr (ha W tk) (swaps_of hn)).imp fun D σ H h => by
    refine lift_mono (liftS_bind0 (IsA := rW X.K cad) (g := evE G Φ da) (f := fun sl _ cs => .ok .nx sl cs) h) fun x H1 ⟨sl, cs, as, R, w, rel, iw, p⟩ => ?_
    exact p σ H1 as Ext.refl rel
theorem s_ret (ha : SE G Φ cad X da a) : SS G Φ cad X (.ret da) (.Return (some a) pos) := fun W tk =>
  (ps_ret (ha W tk)).imp fun D σ H h => by
    refine lift_mono (liftS_bind0 (IsA := rW X.K cad) (g := evE G Φ da) (f := fun sl w cs => .ok (.ret w) sl cs) h) fun x H1 ⟨sl, cs, as, R, w, rel, iw, p⟩ => ?_
    exact p x H1 as Ext.refl rel.cells iw
theorem s_retN : SS G Φ cad X (.ret (.c .non)) (.Return none pos) := fun W tk =>
  ps_retN.imp fun D σ H ⟨sl, cs, as, R, rel, p⟩ => (show PostS X.K cad W D as R H (.ok (.ret (.d .non)) sl cs) from p) .non H as Ext.refl rel.cells rfl
theorem lift_asg {W : WX} {t : Tg} {D : Ends} {σ : L2.St} {H : Hp} (h : liftS K cad W (evS G Φ (.asg t da)) D σ H) : tAsg (liftE K cad W (evE G Φ da)) (gT K t) D σ H := by
  refine lift_mono (liftS_bind0 (IsA := rW K cad) (g := evE G Φ da) (f := fun sl w cs => match bindT t w sl with
    | some sl => .ok .nx sl cs
    | none => .stuck) h) fun x H1 ⟨sl, cs, as, R, w, rel, iw, p⟩ => ?_
  cases e : bindT t w sl with
  | none => simp only [e] at p; exact p.elim
  | some sl' =>
    simp only [e] at p
    exact gT_ok t rel iw e fun σ' rel' _ => p σ' H1 as Ext.refl rel'
def isTL : Expr → Bool
  | .Tuple _ _ _ => true
  | .List _ _ => true
  | _ => false
def isTupE : Expr → Bool
  | .Tuple _ _ _ => true
  | _ => false
def foldT : Expr → Bool
  | .Tuple vs _ _ => vs.all (foldedForSure 8)
  | _ => false
def notFew : Expr → Bool
  | .Tuple ts _ _ => !(ts.length == 2 || ts.length == 3)
  | _ => false
def notNames : Expr → Bool
  | .Tuple ts _ _ => ts.any fun t => match t with | .Name _ _ => false | _ => true
  | _ => false
def noSwap (tg e : Expr) : Bool := !isTL tg || !isTupE e || notFew tg || foldT e
theorem sw_none {env : Env} (h : noSwap tg e = true) : swappedStores [tg] e env = pure none := by
  unfold noSwap at h
  simp only [Bool.or_eq_true, Bool.not_eq_true'] at h
  have fold : ∀ {ts vs : List Expr}, (vs.all (foldedForSure 8) = true ∨ (!(ts.length == 2 || ts.length == 3)) = true) → (do
      if (!(ts.length == 2 || ts.length == 3) || vs.length != ts.length || env.blockKind != .function) = true then return none
      if (vs.any fun | .Starred .. => true | _ => false) = true then return none
      let line := (ts.head?.map (·.pos.line)).getD 0
      let names := ts.filterMap fun
        | .Name id pos => if (env.kindOf id == some .local && pos.line == line) = true then some id else none
        | _ => none
      if (names.length != ts.length || names.eraseDups.length != names.length) = true then return none
      if vs.all (foldedForSure 8) = true then return none
      if vs.all (constantsAlone 8) = true then unsupported "assign.tuple-of-constant-expressions:order-of-the-stores"
      return some names : Sem (Option (List Str))) = pure none := fun {ts vs} h => by
    by_cases h1 : (!(ts.length == 2 || ts.length == 3) || vs.length != ts.length || env.blockKind != .function) = true
    · rw [if_pos h1]
    · rw [if_neg h1]
      have hf : vs.all (foldedForSure 8) = true := by
        rcases h with h | h
        · exact h
        · rw [h] at h1; exact absurd rfl h1
      by_cases h2 : (vs.any fun | .Starred .. => true | _ => false) = true
      · rw [if_pos h2]
      · rw [if_neg h2]
        dsimp only [pure_bind]
        by_cases h3 : ((ts.filterMap fun
            | .Name id pos => if (env.kindOf id == some .local && pos.line == (ts.head?.map (·.pos.line)).getD 0) = true then some id else none
            | _ => none).length != ts.length || (ts.filterMap fun
            | .Name id pos => if (env.kindOf id == some .local && pos.line == (ts.head?.map (·.pos.line)).getD 0) = true then some id else none
            | _ => none).eraseDups.length != (ts.filterMap fun
            | .Name id pos => if (env.kindOf id == some .local && pos.line == (ts.head?.map (·.pos.line)).getD 0) = true then some id else none
            | _ => none).length) = true
        · rw [if_pos h3]
        · rw [if_neg h3, if_pos hf]
  cases tg with
  | Tuple ts k p =>
    cases e with
    | Tuple vs k2 p2 =>
      rcases h with ((h | h) | h) | h
      · cases h
      · cases h
      · exact fold (.inr h)
      · exact fold (.inl h)
    | _ => rfl
  | List ts p =>
    cases e with
    | Tuple vs k2 p2 =>
      rcases h with ((h | h) | h) | h
      · cases h
      · cases h
      · cases h
      · exact fold (.inl h)
    | _ => rfl
  | _ => rfl
theorem s_asg {t : Tg} (ha : SE G Φ cad X da a) (hg : SG X t tg) (hn : notLC a = true) (hw : noSwap tg a = true) (hst : notStar tg = true) : SS G Φ cad X (.asg t da) (.Assign [tg] a pos) := fun W tk =>
  (ps_asg (ha W tk) hg (sole_of hn) (sw_none hw) (by rw [assignEach_cons hst]; rfl)).imp fun D σ H h => lift_asg h
end
end PD
set_option Elab.async false
set_option linter.all false
set_option maxRecDepth 100000
set_option maxHeartbeats 4000000
namespace PD
open PySem PySem.Spec PyProof.Rows L2
section
variable {G : Pg} {Φ : Nat → List PD.W → List M → Rs PD.W} {cad : Nat → Addr} {X : Cx} {K : PySem.W.Frag} {pos : Pos}
variable {e a b c t tg : Expr} {da db dc dt : E} {es : List Expr} {ds : List E}
theorem s_setLc {mc : Bool} {own : List (Str × Nat)} {t : Tg} {q : IK} {its conds : List E} {de : E} {elt tg iter : Expr} {ifs : List Expr} {scope : Scope} {i : Nat} {y : Str} {py spos : Pos} (hc : X.calm = true) (hN : X.N.Nodup) (hy : X.N[i]? = some y) (hyl : X.env.scope.names.lookup y = some .local)
    (hsw : swapsWith (.ListComp elt [⟨tg, iter, ifs, 0⟩] scope pos) (some (.Name y py)) spos.line X.env = pure true) (hi : SI G Φ cad X q its tg iter) (ok : BlkOk X.N X.env.scope scope own) (hg : ∀ (s : Shared) (H : Hp) (C : Addr) (cl : List (Str × Addr)) (fp : List Addr), SG (X.blk s H scope (compEnvC scope cl C X.env) fp) t tg)
    (ht : ∀ (s : Shared) (H : Hp) (C : Addr) (cl : List (Str × Addr)) (fp : List Addr), SC G Φ cad (X.blk s H scope (compEnvC scope cl C X.env) fp) conds ifs) (he : ∀ (s : Shared) (H : Hp) (C : Addr) (cl : List (Str × Addr)) (fp : List Addr), SE G Φ cad (X.blk s H scope (compEnvC scope cl C X.env) fp) de elt)
    (hs : ∀ x, foldedSetIterable iter X.env x = pure x) (hown : tgIn t (own.map (·.2)) = true) :
    SS G Φ cad X (.asg (.n i) (.comp mc (own.map (·.2)) t q its conds de)) (.Assign [.Name y py] (.ListComp elt [⟨tg, iter, ifs, 0⟩] scope pos) spos) := fun W tk =>
  (ps_setLc (g := gT X.K t) (tt := liftT X.K cad W0 (evC G Φ conds)) (te := liftE X.K cad W0 (evE G Φ de)) hc hN hy hyl hsw (hi W tk) ok (fun s H C cl fp => hg s H C cl fp) (fun s H C cl fp => ht s H C cl fp W0 takesB) (fun s H C cl fp => he s H C cl fp W0 takesB) hs).imp fun D σ H h => lift_comp hown (lift_asg h)
theorem s_par {i j : Nat} {x y : Str} {px py pt pt2 : Pos} {kt k2 : Nat} (hc : X.calm = true) (hN : X.N.Nodup) (hi : X.N[i]? = some x) (hj : X.N[j]? = some y) (hij : i ≠ j) (hx : X.env.scope.names.lookup x = some .local) (hy : X.env.scope.names.lookup y = some .local)
    (ha : SE G Φ cad X da a) (hb : SE G Φ cad X db b) (h1 : notStar a = true) (h2 : notStar b = true)
    (hw : swappedStores [.Tuple [.Name x px, .Name y py] kt pt] (.Tuple [a, b] k2 pt2) X.env = pure (some [x, y])) :
    SS G Φ cad X (.par i j da db) (.Assign [.Tuple [.Name x px, .Name y py] kt pt] (.Tuple [a, b] k2 pt2) pos) := fun W tk =>
  (ps_par (ta := tCons (liftE X.K cad W (evE G Φ da)) (tCons (liftE X.K cad W (evE G Φ db)) tNil)) hc hN hi hj hij hx hy (pa_cons (ha W tk) (pa_cons (hb W tk) pa_nil (star_of h2)) (star_of h1)) hw (sole_of rfl)).imp fun D σ H h => by
    refine lift_mono (liftS_bind0 (IsA := rW X.K cad) (g := evE G Φ da) (f := fun sl x cs => SR.of (evE G Φ db sl cs) sl fun y cs => if i < sl.length ∧ j < sl.length then .ok .nx ((sl.set i (some x)).set j (some y)) cs else .stuck) h) fun v H1 ⟨sl, cs, as, R, wa, rel, iw, p⟩ => ?_
    refine lift_mono (liftS_bind (IsA := rW X.K cad) (hs := [wa]) (vs := [v]) (g := evE G Φ db) (f := fun sl y cs => if i < sl.length ∧ j < sl.length then .ok .nx ((sl.set i (some wa)).set j (some y)) cs else .stuck) ⟨sl, cs, as, R, rel, ⟨v, [], rfl, iw, rfl⟩, p⟩) fun w H2 ⟨sl, cs, as, R, wb, rel, ih, iy, p⟩ => ?_
    obtain ⟨x', r, e, ix, _⟩ := ih
    cases e
    by_cases hl : i < sl.length ∧ j < sl.length
    · rw [if_pos hl] at p
      exact ⟨v, w, rfl, p _ H2 as Ext.refl ((rel.set hl.1 ix).set (by rw [List.length_set]; exact hl.2) iy)⟩
    · rw [if_neg hl] at p
      exact p.elim
def rAug (K : PySem.W.Frag) (cad : Nat → Addr) (o : O) : TIp := fun x y H Q => ∃ (F : List Addr) (a b d : D), IsD K cad H F a x ∧ IsD K cad H F b y ∧ augD o a b = some d ∧ ∀ v, IsD K cad H F d v → Q v H
theorem aug_cases {o : O} {a b d : D} (h : augD o a b = some d) : (∃ i j, a = .int i ∧ b = .int j ∧ augD o (.int i) (.int j) = some d) ∨ ∃ x y, a = .str x ∧ b = .str y ∧ augD o (.str x) (.str y) = some d := by
  cases a <;> cases b <;> first | (cases h; done) | exact .inl ⟨_, _, rfl, rfl, h⟩ | exact .inr ⟨_, _, rfl, rfl, h⟩
theorem ip_addP : PIp X .Add (rAug X.K cad .add) := by
  intro pins s σ H x y v u Q I r1 r2 ⟨F, a, b, d, ha, hb, hd, q⟩
  rcases aug_cases hd with ⟨i, j, rfl, rfl, hd⟩ | ⟨xx, yy, rfl, rfl, hd⟩
  · cases (show some (D.int (i + j)) = some d from hd)
    cases (show x = .int i from ha)
    cases (show y = .int j from hb)
    exact ip_add pins s σ H _ _ v u Q I r1 r2 ⟨i, j, rfl, rfl, q _ rfl⟩
  · have hd : (if xx.length + yy.length ≤ LIM then some (D.str (xx ++ yy)) else none) = some d := hd
    by_cases hl : xx.length + yy.length ≤ LIM
    · rw [if_pos hl] at hd
      cases hd
      cases (show x = .str xx from ha)
      cases (show y = .str yy from hb)
      exact iop_add_str pins s σ H _ _ v u Q I r1 r2 ⟨xx, yy, rfl, rfl, by rw [← lim_eq]; exact hl, q _ rfl⟩
    · rw [if_neg hl] at hd
      cases hd
theorem ip_subP : PIp X .Sub (rAug X.K cad .sub) := by
  intro pins s σ H x y v u Q I r1 r2 ⟨F, a, b, d, ha, hb, hd, q⟩
  rcases aug_cases hd with ⟨i, j, rfl, rfl, hd⟩ | ⟨xx, yy, rfl, rfl, hd⟩
  · cases (show some (D.int (i - j)) = some d from hd)
    cases (show x = .int i from ha)
    cases (show y = .int j from hb)
    exact ip_sub pins s σ H _ _ v u Q I r1 r2 ⟨i, j, rfl, rfl, q _ rfl⟩
  · cases hd
theorem ip_mulP : PIp X .Mult (rAug X.K cad .mul) := by
  intro pins s σ H x y v u Q I r1 r2 ⟨F, a, b, d, ha, hb, hd, q⟩
  rcases aug_cases hd with ⟨i, j, rfl, rfl, hd⟩ | ⟨xx, yy, rfl, rfl, hd⟩
  · have hd : (if i.natAbs.log2 + j.natAbs.log2 < 100000000 then some (D.int (i * j)) else none) = some d := hd
    cases (show x = .int i from ha)
    cases (show y = .int j from hb)
    by_cases hc : i.natAbs.log2 + j.natAbs.log2 < 100000000
    · rw [if_pos hc] at hd
      cases hd
      obtain ⟨t, rfl⟩ := r1
      obtain ⟨t', rfl⟩ := r2
      exact imul_int ⟨.int (i * j), H, I.tok _, ⟨_, rfl⟩, q _ rfl⟩ (CMulZ.ok hc)
    · rw [if_neg hc] at hd; cases hd
  · cases hd
theorem ip_modP : PIp X .Mod (rAug X.K cad .mod) := by
  intro pins s σ H x y v u Q I r1 r2 ⟨F, a, b, d, ha, hb, hd, q⟩
  rcases aug_cases hd with ⟨i, j, rfl, rfl, hd⟩ | ⟨xx, yy, rfl, rfl, hd⟩
  · have hd : (if j ≠ 0 then some (D.int (i.fmod j)) else none) = some d := hd
    cases (show x = .int i from ha)
    cases (show y = .int j from hb)
    by_cases hc : j ≠ 0
    · rw [if_pos hc] at hd
      cases hd
      obtain ⟨t, rfl⟩ := r1
      obtain ⟨t', rfl⟩ := r2
      exact imod_int hc ⟨.int (i.fmod j), H, I.tok _, ⟨_, rfl⟩, q _ rfl⟩
    · rw [if_neg hc] at hd; cases hd
  · cases hd
def augK (o : O) (i : Nat) (sl : Sl) (x y : PD.W) (cs : List M) : SR := match x, y with
  | .d a, .d b => match augD o a b with
    | some d => .ok .nx (sl.set i (some (.d d))) cs
    | none => .stuck
  | _, _ => .stuck
theorem s_aug {op : Operator} {o : O} {i : Nat} {x : Str} {p2 : Pos} (hN : X.N.Nodup) (hi : X.N[i]? = some x) (hx : Loc X.env.scope x) (hf : X.fn x = true ∨ X.env.scope.names.lookup x = some .local) (ha : SE G Φ cad X da a) (ho : PIp X op (rAug X.K cad o)) :
    SS G Φ cad X (.aug i o da) (.AugAssign (.Name x p2) op a pos) := fun W tk =>
  (ps_aug hN hi hx (ha W tk) ho hf).imp fun D σ H ⟨sl, cs, as, R, rel, p⟩ => by
    have p : PostS X.K cad W D as R H (match sl[i]? with
      | some (some x) => SR.of (evE G Φ da sl cs) sl fun y cs => augK o i sl x y cs
      | _ => .stuck) := p
    cases e : sl[i]? with
    | none => simp only [e] at p; exact p.elim
    | some w =>
      cases w with
      | none => simp only [e] at p; exact p.elim
      | some w =>
        simp only [e] at p
        obtain ⟨v, e1, iw⟩ := rel.sl i w e
        refine ⟨v, e1, ?_⟩
        have hlen : i < sl.length := lt_of_get e
        have ihs : ∃ sl0 cs0 as0 R0, Rel X.K cad as0 R0 H sl0 cs0 σ ∧ IsWs X.K cad as0 R0 H [w] [v] ∧ PostS X.K cad W D as0 R0 H (SR.of (evE G Φ da sl0 cs0) sl0 ((fun (s' : Sl) y cs => if i < s'.length then augK o i s' w y cs else .stuck) sl0)) := by
          refine ⟨sl, cs, as, R, rel, ⟨v, [], rfl, iw, rfl⟩, ?_⟩
          simp only [if_pos hlen]
          exact p
        refine lift_mono (liftS_bind (IsA := rW X.K cad) (hs := [w]) (vs := [v]) (g := evE G Φ da) ihs) fun y H2 ⟨sl, cs, as, R, wb, rel, ih, iy, p⟩ => ?_
        obtain ⟨x', r, e', ix, _⟩ := ih
        cases e'
        by_cases hl : i < sl.length
        · rw [if_pos hl] at p
          cases w with
          | c _ => exact p.elim
          | d a =>
            cases wb with
            | c _ => exact p.elim
            | d b =>
              unfold augK at p
              dsimp only at p
              cases ed : augD o a b with
              | none => rw [ed] at p; exact p.elim
              | some d =>
                rw [ed] at p
                exact ⟨Av as R, a, b, d, ix, iy, ed, fun z iz => p _ H2 as Ext.refl (rel.set hl (w := .d d) iz)⟩
        · rw [if_neg hl] at p
          exact p.elim
theorem dput_rel {us : List (Key × V)} {vs : List D} {F : List Addr} {H : Hp} {q : Key} {x : D} {v : V} (h : IsDs K cad H F vs (us.map (·.2))) (hv : IsD K cad H F x v) :
    (putK us q v).map (·.1) = (dput (us.map (·.1)) vs q x).1 ∧ IsDs K cad H F (dput (us.map (·.1)) vs q x).2 ((putK us q v).map (·.2)) := by
  have hany : ((us.map (·.1)).any fun k => decide (k = q)) = us.any fun kv => decide (kv.1 = q) := by rw [List.any_map]; rfl
  have set_rel : ∀ {us : List (Key × V)} {vs : List D}, IsDs K cad H F vs (us.map (·.2)) → IsDs K cad H F (dset (us.map (·.1)) vs q x) ((us.map fun kv => if kv.1 = q then (kv.1, v) else kv).map (·.2)) := fun {us} => by
    induction us with
    | nil => intro vs h; cases vs <;> exact rfl
    | cons u us ih =>
      intro vs h
      cases vs with
      | nil => cases (show _ = ([] : List V) from h)
      | cons y ys =>
        obtain ⟨z, r, ez, h1, h2⟩ := h
        injection (show u.2 :: us.map (·.2) = z :: r from ez) with e1 e2
        subst e1 e2
        refine ⟨_, _, rfl, ?_, ih h2⟩
        show IsD K cad H F (if u.1 = q then x else y) (if u.1 = q then (u.1, v) else u).2
        by_cases hq : u.1 = q
        · rw [if_pos hq, if_pos hq]; exact hv
        · rw [if_neg hq, if_neg hq]; exact h1
  unfold putK dput
  rw [hany]
  by_cases hk : (us.any fun kv => decide (kv.1 = q)) = true
  · rw [if_pos hk, if_pos hk]
    refine ⟨?_, set_rel h⟩
    rw [List.map_map]
    refine List.map_congr_left fun kv _ => ?_
    show (if kv.1 = q then (kv.1, v) else kv).1 = kv.1
    split <;> rfl
  · rw [if_neg hk, if_neg hk]
    exact ⟨by simp, by rw [List.map_append]; exact h.app (IsDs.one hv)⟩
theorem key_rel {kd : D} {q : Key} {F : List Addr} {H : Hp} {y : V} (h : IsD K cad H F kd y) (e : keyOf kd = some q) : y = kV q := by
  cases kd with
  | int i => cases (show some (Sum.inl i) = some q from e); exact h
  | str x => cases (show some (Sum.inr x) = some q from e); exact h
  | _ => cases e
def rSetB : TSet := fun o i v H Q => rSetL o i v H Q ∨ rSetD o i v H Q
theorem set_both (hu : X.A.units + 1 < cLine) : PSet X rSetB := fun pins s σ H o i v ov iv u Q I ro ri rv h => h.elim (set_list pins s σ H o i v ov iv u Q I ro ri rv) (set_dict hu pins s σ H o i v ov iv u Q I ro ri rv)
def setK (sl : Sl) (w o k : PD.W) (cs : List M) : SR := match o, k, w with
  | .c n, .d kd, .d x => match cs[n]? with
    | some (.lst xs) => (match kd with
      | .int z => (match ixN xs.length z with
        | some j => .ok .nx sl (cs.set n (.lst (xs.set j x)))
        | none => .stuck)
      | _ => .stuck)
    | some (.dct ks vs) => (match keyOf kd with
      | some q => if ks.length < LIM then .ok .nx sl (cs.set n (.dct (dput ks vs q x).1 (dput ks vs q x).2)) else .stuck
      | none => .stuck)
    | _ => .stuck
  | _, _, _ => .stuck
theorem Cells.live_at {as : AS} {R : List Addr} {H : Hp} {cs : List M} {n : Nat} {m : M} {x : V} (c : Cells K cad as R H cs) (h : IsW K cad as R H (.c n) x) (e : cs[n]? = some m) (hm : m ≠ .dead) : ∃ a, as[n]? = some (some a) ∧ x = .ref a ∧ CellM K cad H (Av as R) a m := by
  obtain ⟨hi, ha⟩ := h
  cases q : as[n]? with
  | none => rw [List.getElem?_eq_none_iff] at q; omega
  | some o =>
    cases o with
    | none =>
      rw [c.dead n q] at e
      cases e
      exact absurd rfl hm
    | some a => exact ⟨a, rfl, ha a q, c.at_ n a m q e⟩
theorem setK_ok {W : WX} {D : Ends} {as : AS} {R : List Addr} {H : Hp} {sl : Sl} {cs : List M} {σ : L2.St} {w o k : PD.W} {v x y : V} (rel : Rel K cad as R H sl cs σ) (iw : IsW K cad as R H w v) (io : IsW K cad as R H o x) (ik : IsW K cad as R H k y) (p : PostS K cad W D as R H (setK sl w o k cs)) :
    rSetB x y v H fun H' => D.nx σ H' := by
  unfold setK at p
  match o, k, w, io, ik, iw, p with
  | .c n, .d kd, .d d, io, ik, iw, p =>
    dsimp only at p
    cases e : cs[n]? with
    | none => rw [e] at p; exact p.elim
    | some m =>
      rw [e] at p
      cases m with
      | lst xs =>
        obtain ⟨a, ha, rfl, zs, hH, hd⟩ := rel.cells.live_at io e (fun z => nomatch z)
        dsimp only at p
        cases kd with
        | int z =>
          dsimp only at p
          cases ej : ixN xs.length z with
          | none => rw [ej] at p; exact p.elim
          | some j =>
            rw [ej] at p
            refine .inl ⟨a, zs, z, j, rfl, ik, hH, by rw [← hd.length]; exact ej, ?_⟩
            obtain ⟨c2, x2⟩ := rel.cells.write (o := .lst (zs.set j v)) (m := .lst (xs.set j d)) ha e fun kp => ⟨_, upd_same, (hd.set j iw).mono kp⟩
            exact p σ _ as x2 (rel.mono x2 c2)
        | _ => exact p.elim
      | dct ks vs =>
        obtain ⟨a, ha, rfl, us, hH, rfl, hd⟩ := rel.cells.live_at io e (fun z => nomatch z)
        dsimp only at p
        cases eq : keyOf kd with
        | none => rw [eq] at p; exact p.elim
        | some q =>
          rw [eq] at p
          dsimp only at p
          by_cases hl : (us.map (·.1)).length < LIM
          · rw [if_pos hl] at p
            have hk := key_rel ik eq
            subst hk
            obtain ⟨r1, r2⟩ := dput_rel (q := q) hd iw
            obtain ⟨c2, x2⟩ := rel.cells.write (o := .dK (putK us q v)) (m := .dct (dput (us.map (·.1)) vs q d).1 (dput (us.map (·.1)) vs q d).2) ha e fun kp => ⟨_, upd_same, r1, r2.mono kp⟩
            refine .inr ⟨a, _, rfl, DPut.k hH ?_, p σ _ as x2 (rel.mono x2 c2)⟩
            rw [← lim_eq]
            rw [List.length_map] at hl
            exact hl
          · rw [if_neg hl] at p; exact p.elim
      | obj _ _ _ => exact p.elim
      | dead => exact p.elim
  | .c _, .d _, .c _, _, _, _, p => exact p.elim
  | .c _, .c _, _, _, _, _, p => exact p.elim
  | .d _, _, _, _, _, _, p => exact p.elim
theorem s_setix {p2 : Pos} (hsl : notSlice b = true) (hu : X.A.units + 1 < cLine) (hc : SE G Φ cad X dc c) (ha : SE G Φ cad X da a) (hb : SE G Φ cad X db b) (hn : notLC c = true) :
    SS G Φ cad X (.setix da db dc) (.Assign [.Subscript a b p2] c pos) := fun W tk =>
  (ps_asg (hc W tk) (pg_sub (ha W tk) (hb W tk) (set_both hu) (by intro _; cases b <;> first | rfl | cases hsl)) (sole_of hn) (by rfl) (by rfl)).imp fun D σ H h => by
    refine lift_mono (liftS_bind0 (IsA := rW X.K cad) (g := evE G Φ dc) (f := fun sl w cs => SR.of (evE G Φ da sl cs) sl fun o cs => SR.of (evE G Φ db sl cs) sl fun k cs => setK sl w o k cs) h) fun v H1 ⟨sl, cs, as, R, w, rel, iw, p⟩ => ?_
    refine lift_mono (liftS_bind (IsA := rW X.K cad) (hs := [w]) (vs := [v]) (g := evE G Φ da) (f := fun sl o cs => SR.of (evE G Φ db sl cs) sl fun k cs => setK sl w o k cs) ⟨sl, cs, as, R, rel, ⟨v, [], rfl, iw, rfl⟩, p⟩) fun x H2 ⟨sl, cs, as, R, o, rel, ih, io, p⟩ => ?_
    refine lift_mono (liftS_bind (IsA := rW X.K cad) (hs := [o, w]) (vs := [x, v]) (g := evE G Φ db) (f := fun sl k cs => setK sl w o k cs) ⟨sl, cs, as, R, rel, ⟨x, [v], rfl, io, ih⟩, p⟩) fun y H3 ⟨sl, cs, as, R, k, rel, ih, ik, p⟩ => ?_
    obtain ⟨x', r, e, io, v', r', e', iw, _⟩ := ih
    cases e
    cases e'
    exact setK_ok rel iw io ik p
theorem fput_rel {us : List (Str × V)} {vs : List D} {F : List Addr} {H : Hp} {f : Str} {x : D} {v : V} (hv : IsD K cad H F x v) : ∀ {us : List (Str × V)} {vs : List D}, IsDs K cad H F vs (us.map (·.2)) →
    (putF f v us).map (·.1) = (fput (us.map (·.1)) vs f x).1 ∧ IsDs K cad H F (fput (us.map (·.1)) vs f x).2 ((putF f v us).map (·.2))
  | [], vs, h => by
    cases vs with
    | nil => exact ⟨rfl, IsDs.one hv⟩
    | cons _ _ => obtain ⟨_, _, e, _⟩ := h; cases e
  | (g, u) :: us, vs, h => by
    cases vs with
    | nil => cases (show _ = ([] : List V) from h)
    | cons y ys =>
      obtain ⟨z, r, ez, h1, h2⟩ := h
      injection (show u :: us.map (·.2) = z :: r from ez) with e1 e2
      subst e1 e2
      obtain ⟨i1, i2⟩ := fput_rel (us := us) (vs := vs) hv h2
      show ((if g = f then (g, v) :: us else (g, u) :: putF f v us).map (·.1)) = (if g = f then (g :: us.map (·.1), x :: ys) else (g :: (fput (us.map (·.1)) ys f x).1, y :: (fput (us.map (·.1)) ys f x).2)).1 ∧
        IsDs K cad H F (if g = f then (g :: us.map (·.1), x :: ys) else (g :: (fput (us.map (·.1)) ys f x).1, y :: (fput (us.map (·.1)) ys f x).2)).2 ((if g = f then (g, v) :: us else (g, u) :: putF f v us).map (·.2))
      by_cases hg : g = f
      · rw [if_pos hg, if_pos hg]
        exact ⟨rfl, _, _, rfl, hv, h2⟩
      · rw [if_neg hg, if_neg hg]
        exact ⟨by rw [List.map_cons, i1], _, _, rfl, h1, i2⟩
def setFK (G : Pg) (f : Str) (sl : Sl) (w o : PD.W) (cs : List M) : SR := match o, w with
  | .c n, .d x => match cs[n]? with
    | some (.obj C ks vs) => if G.fld C f = true ∧ ks.length < 1000 then .ok .nx sl (cs.set n (.obj C (fput ks vs f x).1 (fput ks vs f x).2)) else .stuck
    | _ => .stuck
  | _, _ => .stuck
theorem s_setfld {p2 : Pos} {fn : Str} (hcl : ∀ C, G.fld C fn = true → Cls X.K (cad C) ∧ NoAttr X.K (cad C) fn) (hc : SE G Φ cad X dc c) (ha : SE G Φ cad X da a) (hn : notLC c = true) :
    SS G Φ cad X (.setfld da fn dc) (.Assign [.Attribute a fn p2] c pos) := fun W tk =>
  (ps_fld (ha W tk) (hc W tk) (swaps_of hn)).imp fun D σ H h => by
    refine lift_mono (liftS_bind0 (IsA := rW X.K cad) (g := evE G Φ dc) (f := fun sl w cs => SR.of (evE G Φ da sl cs) sl fun o cs => setFK G fn sl w o cs) h) fun v H1 ⟨sl, cs, as, R, w, rel, iw, p⟩ => ?_
    refine lift_mono (liftS_bind (IsA := rW X.K cad) (hs := [w]) (vs := [v]) (g := evE G Φ da) (f := fun sl o cs => setFK G fn sl w o cs) ⟨sl, cs, as, R, rel, ⟨v, [], rfl, iw, rfl⟩, p⟩) fun x H2 ⟨sl, cs, as, R, o, rel, ih, io, p⟩ => ?_
    obtain ⟨v', r', e', iw, _⟩ := ih
    cases e'
    unfold setFK at p
    match o, w, io, iw, p with
    | .c n, .d d, io, iw, p =>
      dsimp only at p
      cases e : cs[n]? with
      | none => rw [e] at p; exact p.elim
      | some m =>
        rw [e] at p
        cases m with
        | obj C ks vs =>
          obtain ⟨a, ha, rfl, dx, us, hH, rfl, hd⟩ := rel.cells.live_at io e (fun z => nomatch z)
          dsimp only at p
          by_cases hf : G.fld C fn = true ∧ (us.map (·.1)).length < 1000
          · rw [if_pos hf] at p
            obtain ⟨r1, r2⟩ := fput_rel (us := us) (vs := vs) (f := fn) (show IsD X.K cad H2 (Av as R) d v from iw) hd
            obtain ⟨c2, x2⟩ := rel.cells.write (o := .ins (cad C) dx (putF fn v us)) (m := .obj C (fput (us.map (·.1)) vs fn d).1 (fput (us.map (·.1)) vs fn d).2) ha e fun kp => ⟨dx, _, upd_same, r1, r2.mono kp⟩
            obtain ⟨k1, k2⟩ := hcl C hf.1
            exact ⟨a, cad C, dx, us, rfl, hH, k1, k2, by have := hf.2; rwa [List.length_map] at this, p σ _ as x2 (rel.mono x2 c2)⟩
          · rw [if_neg hf] at p; exact p.elim
        | lst _ => exact p.elim
        | dct _ _ => exact p.elim
        | dead => exact p.elim
    | .c _, .c _, _, _, p => exact p.elim
    | .d _, _, _, _, p => exact p.elim
def appK (sl : Sl) (o w : PD.W) (cs : List M) : SR := match o, w with
  | .c n, .d x => match cs[n]? with
    | some (.lst xs) => if xs.length < LIM then .ok .nx sl (cs.set n (.lst (xs ++ [x]))) else .stuck
    | _ => .stuck
  | _, _ => .stuck
theorem s_app {ap cp : Pos} (h1 : attrB a = true) (hl : (ap.endLine == cp.line) = true) (hs : notStar c = true) (ha : SE G Φ cad X da a) (hc : SE G Φ cad X dc c) : SS G Φ cad X (.app da dc) (.Expr (.Call (.Attribute a "append" ap) [c] [] cp) pos) := fun W tk =>
  (ps_expr (pe_bm PySem.F.plainAttrs_list PySem.F.slot_list_append PySem.F.type_list_append mt_append (ha W tk) (pa_cons (hc W tk) pa_nil (star_of hs)) (base_of h1) (by rw [star_of hs]; rfl) hl (star_of hs) (by rfl)) rfl).imp fun D σ H h => by
    refine lift_mono (liftS_bind0 (IsA := rW X.K cad) (g := evE G Φ da) (f := fun sl o cs => if isLstC o cs = true then SR.of (evE G Φ dc sl cs) sl fun w cs => appK sl o w cs else .stuck) h) fun x H1 ⟨sl, cs, as, R, o, rel, io, p⟩ => ?_
    by_cases hk : isLstC o cs = true
    · rw [if_pos hk] at p
      have hty : tyV X.K "list" x H1 := by
        match o, io, hk with
        | .c n, io, hk =>
          have hk : (match cs[n]? with | some (.lst _) => true | _ => false) = true := hk
          cases e : cs[n]? with
          | none => rw [e] at hk; cases hk
          | some m =>
            rw [e] at hk
            cases m with
            | lst xs =>
              obtain ⟨a, ha, rfl, zs, hH, hd⟩ := rel.cells.live_at io e (fun z => nomatch z)
              exact .inl ⟨rfl, zs, .inl (.inl hH)⟩
            | _ => cases hk
        | .d _, _, hk => cases hk
      refine ⟨hty, ?_⟩
      refine lift_mono (liftS_bind (IsA := rW X.K cad) (hs := [o]) (vs := [x]) (g := evE G Φ dc) (f := fun sl w cs => appK sl o w cs) ⟨sl, cs, as, R, rel, ⟨x, [], rfl, io, rfl⟩, p⟩) fun v H2 ⟨sl, cs, as, R, w, rel, ih, iw, p⟩ => ?_
      obtain ⟨x', r', e', io, _⟩ := ih
      cases e'
      unfold appK at p
      match o, w, io, iw, p with
      | .c n, .d d, io, iw, p =>
        dsimp only at p
        cases e : cs[n]? with
        | none => rw [e] at p; exact p.elim
        | some m =>
          rw [e] at p
          cases m with
          | lst xs =>
            obtain ⟨a, ha, rfl, zs, hH, hd⟩ := rel.cells.live_at io e (fun z => nomatch z)
            dsimp only at p
            by_cases hl : xs.length < LIM
            · rw [if_pos hl] at p
              obtain ⟨c2, x2⟩ := rel.cells.write (o := .lst (zs ++ [v])) (m := .lst (xs ++ [d])) ha e fun kp => ⟨_, upd_same, (hd.app (IsDs.one iw)).mono kp⟩
              exact ⟨a, zs, v, rfl, rfl, hH, by rw [← hd.length, ← lim_eq]; exact hl, p σ _ as x2 (rel.mono x2 c2)⟩
            · rw [if_neg hl] at p; exact p.elim
          | dct _ _ => exact p.elim
          | obj _ _ _ => exact p.elim
          | dead => exact p.elim
      | .c _, .c _, _, _, p => exact p.elim
      | .d _, _, _, _, p => exact p.elim
    · rw [if_neg hk] at p
      exact p.elim
variable {s : Stmt} {ss b1 b2 : List Stmt} {d : S} {dd d1 d2 : List S}
theorem ss_nil : SSs G Φ cad X [] [] := fun W tk => pss_nil.imp fun D σ H ⟨sl, cs, as, R, rel, p⟩ => (show PostS X.K cad W D as R H (.ok .nx sl cs) from p) σ H as Ext.refl rel
theorem lift_seq {W : WX} {f : Sl → List M → SR} {D : Ends} {σ : L2.St} {H : Hp} (h : liftS K cad W (fun sl cs => match evS G Φ d sl cs with
      | .ok .nx sl cs => f sl cs
      | r => r) D σ H) : tSeq (liftS K cad W (evS G Φ d)) (liftS K cad W f) D σ H := by
  obtain ⟨sl, cs, as, R, rel, p⟩ := h
  refine ⟨sl, cs, as, R, rel, ?_⟩
  dsimp only at p
  cases e : evS G Φ d sl cs with
  | stuck => rw [e] at p; exact p
  | ex C ks vs sl1 cs1 => rw [e] at p; exact p
  | ok f1 sl1 cs1 =>
    rw [e] at p
    cases f1 with
    | nx => exact fun σ' H' as' x rel' => ⟨sl1, cs1, as', R, rel', PostS.mono x p⟩
    | brk => exact p
    | cnt => exact p
    | ret w => exact p
theorem ss_cons (h1 : SS G Φ cad X d s) (h2 : SSs G Φ cad X dd ss) : SSs G Φ cad X (d :: dd) (s :: ss) := fun W tk =>
  (pss_cons (h1 W tk) (h2 W tk)).imp fun D σ H h => lift_seq h
theorem ss_frz {i : Nat} (h2 : SSs G Φ cad X dd ss) : SSs G Φ cad X (.frz i :: dd) ss := fun W tk =>
  (h2 W tk).imp fun D σ H h => by
    obtain ⟨sl, cs, as, R, rel, p⟩ := h
    have p : PostS X.K cad W D as R H (match (match sl[i]? with
      | some (some (.c n)) => (match pk (.c n) cs with
        | some d => SR.ok .nx (sl.set i (some (.d d))) (cs.set n .dead)
        | none => .stuck)
      | some (some (.d _)) => .ok .nx sl cs
      | _ => .stuck) with
      | .ok .nx sl cs => evSs G Φ dd sl cs
      | r => r) := p
    cases e : sl[i]? with
    | none => rw [e] at p; exact p.elim
    | some o =>
      cases o with
      | none => rw [e] at p; exact p.elim
      | some w =>
        cases w with
        | d x => rw [e] at p; exact ⟨sl, cs, as, R, rel, p⟩
        | c n =>
          rw [e] at p
          dsimp only at p
          cases e2 : pk (.c n) cs with
          | none => rw [e2] at p; exact p.elim
          | some d =>
            rw [e2] at p
            dsimp only at p
            obtain ⟨v, e3, iv⟩ := rel.sl i _ e
            obtain ⟨c2, x2, i2⟩ := rel.cells.freeze iv e2
            have rel2 := rel.mono x2 c2
            refine ⟨_, _, _, R, ⟨by rw [List.length_set]; exact rel.len, fun j w ej => ?_, c2⟩, PostS.mono x2 p⟩
            by_cases hj : i = j
            · subst hj
              rw [List.getElem?_set_self (lt_of_get e)] at ej
              cases ej
              exact ⟨v, e3, i2⟩
            · rw [List.getElem?_set_ne hj] at ej
              exact rel2.sl j w ej
theorem lift_ite {W : WX} {D : Ends} {σ : L2.St} {H : Hp} (h : liftS K cad W (evS G Φ (.ite dt d1 d2)) D σ H) : tIfS (liftT K cad W (evT G Φ dt)) (liftS K cad W (evSs G Φ d1)) (liftS K cad W (evSs G Φ d2)) D σ H := by
  refine lift_mono (liftS_bind0 (IsA := rB) (g := evT G Φ dt) (f := fun sl k cs => if k = true then evSs G Φ d1 sl cs else evSs G Φ d2 sl cs) h) fun k H1 ⟨sl, cs, as, R, k', rel, e, p⟩ => ?_
  cases (show k' = k from e)
  cases k with
  | true => exact ⟨sl, cs, as, R, rel, p⟩
  | false => exact ⟨sl, cs, as, R, rel, p⟩
theorem s_ite (ht : ST G Φ cad X dt t) (h1 : SSs G Φ cad X d1 b1) (h2 : SSs G Φ cad X d2 b2) : SS G Φ cad X (.ite dt d1 d2) (.If t b1 b2 pos) := fun W tk =>
  (ps_if (ht W tk) (h1 W tk) (h2 W tk)).imp fun D σ H h => lift_ite h
theorem lift_while {W : WX} {D : Ends} {σ : L2.St} {H : Hp} {g : Sl → List M → Rs Bool} {f : Sl → List M → SR} {n : Nat} (h : liftS K cad W (whileL g f n) D σ H) : tWhile (liftT K cad W g) (liftS K cad W f) D σ H := by
  obtain ⟨sl0, cs0, as0, R, rel0, p⟩ := h
  generalize hr : whileL g f n sl0 cs0 = r at p
  refine ⟨fun m σ1 H1 => ∃ sl cs as, Rel K cad as R H1 sl cs σ1 ∧ Ext H as0 H1 as ∧ whileL g f m sl cs = r, ⟨n, sl0, cs0, as0, rel0, Ext.refl, hr⟩, ?_⟩
  rintro m σ1 H1 ⟨sl, cs, as, rel, x, e⟩
  cases m with
  | zero =>
    have e : SR.stuck = r := e
    rw [← e] at p
    exact p.elim
  | succ m =>
    have e : (SR.of (g sl cs) sl fun b cs => if b = true then match f sl cs with
      | .ok .nx sl cs => whileL g f m sl cs
      | .ok .cnt sl cs => whileL g f m sl cs
      | .ok .brk sl cs => .ok .nx sl cs
      | r => r
    else .ok .nx sl cs) = r := e
    refine ⟨sl, cs, as, R, rel, ?_⟩
    cases eg : g sl cs with
    | stuck => rw [eg] at e; rw [← e] at p; exact p.elim
    | ex C ks vs cs1 =>
      rw [eg] at e
      rw [← e] at p
      exact fun cls d H2 as2 x2 c i => p cls d σ1 H2 as2 (x.trans x2) (rel.mono x2 c) i
    | ok b cs1 =>
      rw [eg] at e
      intro b' H2 as2 x2 c eb
      cases (show b = b' from eb)
      cases b with
      | false =>
        rw [if_neg (by decide)]
        have e : SR.ok .nx sl cs1 = r := e
        rw [← e] at p
        exact p σ1 H2 as2 (x.trans x2) (rel.mono x2 c)
      | true =>
        rw [if_pos rfl]
        refine ⟨fun σ' H' => ∃ sl cs as, Rel K cad as R H' sl cs σ' ∧ Ext H as0 H' as ∧ whileL g f m sl cs = r, fun σ' H' q => ⟨m, Nat.lt_succ_self m, q⟩, sl, cs1, as2, R, rel.mono x2 c, ?_⟩
        have e : (match f sl cs1 with
          | .ok .nx sl cs => whileL g f m sl cs
          | .ok .cnt sl cs => whileL g f m sl cs
          | .ok .brk sl cs => .ok .nx sl cs
          | r => r) = r := e
        have x3 := x.trans x2
        cases ef : f sl cs1 with
        | stuck => rw [ef] at e; rw [← e] at p; exact p.elim
        | ex C ks vs sl2 cs2 =>
          rw [ef] at e
          rw [← e] at p
          exact fun cls d σ' H' as' x' rel' i => p cls d σ' H' as' (x3.trans x') rel' i
        | ok fl sl2 cs2 =>
          rw [ef] at e
          cases fl with
          | nx => exact fun σ' H' as' x' rel' => ⟨sl2, cs2, as', rel', x3.trans x', e⟩
          | cnt => exact fun σ' H' as' x' rel' => ⟨sl2, cs2, as', rel', x3.trans x', e⟩
          | brk =>
            have e : SR.ok .nx sl2 cs2 = r := e
            rw [← e] at p
            exact fun σ' H' as' x' rel' => p σ' H' as' (x3.trans x') rel'
          | ret w =>
            rw [← e] at p
            exact fun v H' as' x' c' i => p v H' as' (x3.trans x') c' i
theorem s_while (hp : PassesOwn (model X.prog X.w) X.A X.env X.xe) (ht : ST G Φ cad X dt t) (h1 : SSs G Φ cad X d1 b1) : SS G Φ cad X (.while_ dt d1) (.While t b1 [] pos) := fun W tk =>
  (ps_while hp (ht W tk) (h1 W tk)).imp fun D σ H h => lift_while (n := G.fuel) h
def forF (G : Pg) (Φ : Nat → List PD.W → List M → Rs PD.W) (t : Tg) (b : List S) (d : PD.D) (sl : Sl) (cs : List M) : SR := match bindT t (.d d) sl with
  | some sl => evSs G Φ b sl cs
  | none => .stuck
theorem ev_for (t : Tg) (k : IK) (its : List E) (b : List S) (sl : Sl) (cs : List M) : evS G Φ (.for_ t k its b) sl cs = SR.of (evI G Φ k its sl cs) sl fun ds cs => forL (forF G Φ t b) ds sl cs := by
  show SR.of (evEs G Φ its sl cs) sl _ = SR.of ((evEs G Φ its sl cs).bind _) sl _
  cases evEs G Φ its sl cs with
  | ok ws cs1 =>
    show (match (dats ws).bind (items k) with | some ds => _ | none => .stuck) = SR.of (Rs.ofO ((dats ws).bind (items k)) cs1) sl _
    cases (dats ws).bind (items k) <;> rfl
  | _ => rfl
theorem for_in {W : WX} {D : Ends} {σ : L2.St} {J : It} {H1 : Hp} {t : Tg} {b : List S} {sl0 : Sl} {cs0 : List M} {as0 : AS} {R : List Addr} {ds : List PD.D} (rel0 : Rel K cad as0 R H1 sl0 cs0 σ) (rj : rJ K cad as0 R H1 ds J) (p : PostS K cad W D as0 R H1 (forL (forF G Φ t b) ds sl0 cs0)) :
    ∃ W' : Nat → Nat → L2.St → Hp → Prop, (∃ m, W' 0 m σ H1) ∧ ∀ i m σ H, W' i m σ H →
      (J.stop i H ∧ D.nx σ H) ∨ (J.go i H ∧ ∃ N : L2.St → Hp → Prop, (∀ σ' H', N σ' H' → ∃ m', m' < m ∧ W' (i + 1) m' σ' H') ∧ ∀ x H', J.yld i H x H' → gT K t x σ H' fun σ2 H2 => liftS K cad W (evSs G Φ b) { D with nx := N, ct := N, bk := D.nx } σ2 H2) := by
  obtain ⟨hlen, Gd, Y, wk, hG⟩ := rj
  generalize hr : forL (forF G Φ t b) ds sl0 cs0 = r at p
  refine for_it wk (fun i σ1 H2 => ∃ sl cs as, Rel K cad as R H2 sl cs σ1 ∧ Ext H1 as0 H2 as ∧ forL (forF G Φ t b) (ds.drop i) sl cs = r) ⟨sl0, cs0, as0, rel0, Ext.refl, hr⟩ ?_ ?_ ?_
  · rintro i σ1 H2 _ ⟨sl, cs, as, rel, x, e⟩
    exact (hG H2 (Av as R) x.kp' rel.cells.hF).1
  · rintro i v σ1 H2 H3 hi ⟨sl, cs, as, rel, x, e⟩ hy
    obtain ⟨sm, d, ed, id⟩ := (hG H2 (Av as R) x.kp' rel.cells.hF).2 i v H3 hy
    have x3 : Ext H1 as0 H3 as := x.trans (Ext.same sm)
    have rel3 : Rel K cad as R H3 sl cs σ1 := rel.mono (Ext.same sm) (rel.cells.same sm)
    rw [List.drop_eq_getElem_cons hi] at e
    rw [List.getElem?_eq_getElem hi] at ed
    cases ed
    have e : (match forF G Φ t b ds[i] sl cs with
      | .ok .nx sl cs => forL (forF G Φ t b) (ds.drop (i + 1)) sl cs
      | .ok .cnt sl cs => forL (forF G Φ t b) (ds.drop (i + 1)) sl cs
      | .ok .brk sl cs => .ok .nx sl cs
      | r => r) = r := e
    cases eb : bindT t (.d ds[i]) sl with
    | none =>
      unfold forF at e
      rw [eb] at e
      have e : SR.stuck = r := e
      rw [← e] at p
      exact p.elim
    | some sl' =>
      have ef : forF G Φ t b ds[i] sl cs = evSs G Φ b sl' cs := by unfold forF; rw [eb]
      rw [ef] at e
      refine gT_ok t (w := .d ds[i]) rel3 id eb fun σ2 rel4 _ => ⟨sl', cs, as, R, rel4, ?_⟩
      cases eg : evSs G Φ b sl' cs with
      | stuck => rw [eg] at e; rw [← e] at p; exact p.elim
      | ex C ks vs sl2 cs2 =>
        rw [eg] at e
        rw [← e] at p
        exact fun cls d σ' H' as' x' rel' i => p cls d σ' H' as' (x3.trans x') rel' i
      | ok fl sl2 cs2 =>
        rw [eg] at e
        cases fl with
        | nx => exact fun σ' H' as' x' rel' => ⟨sl2, cs2, as', rel', x3.trans x', e⟩
        | cnt => exact fun σ' H' as' x' rel' => ⟨sl2, cs2, as', rel', x3.trans x', e⟩
        | brk =>
          have e : SR.ok .nx sl2 cs2 = r := e
          rw [← e] at p
          exact fun σ' H' as' x' rel' => p σ' H' as' (x3.trans x') rel'
        | ret w =>
          rw [← e] at p
          exact fun v H' as' x' c' i => p v H' as' (x3.trans x') c' i
  · rintro σ1 H2 ⟨sl, cs, as, rel, x, e⟩
    rw [List.drop_length] at e
    have e : SR.ok .nx sl cs = r := e
    rw [← e] at p
    exact p σ1 H2 as x rel
theorem lift_for {W : WX} {D : Ends} {σ : L2.St} {H : Hp} {t : Tg} {k : IK} {its : List E} {b : List S} (h : liftS K cad W (evS G Φ (.for_ t k its b)) D σ H) : tFor (liftI K cad W (evI G Φ k its)) (gT K t) (liftS K cad W (evSs G Φ b)) D σ H := by
  have h2 : liftS K cad W (fun sl cs => SR.of (evI G Φ k its sl cs) sl fun ds cs => forL (forF G Φ t b) ds sl cs) D σ H := by
    obtain ⟨sl, cs, as, R, rel, p⟩ := h
    exact ⟨sl, cs, as, R, rel, by rw [ev_for] at p; exact p⟩
  exact lift_mono (liftS_bind0 (IsA := rJ K cad) (g := evI G Φ k its) (f := fun sl ds cs => forL (forF G Φ t b) ds sl cs) h2) fun J H1 ⟨sl0, cs0, as0, R, ds, rel0, rj, p⟩ => for_in rel0 rj p
theorem s_for {tg iter : Expr} {t : Tg} {k : IK} {its : List E} (hp : PassesOwn (model X.prog X.w) X.A X.env X.xe) (hc : X.calm = true) (hi : SI G Φ cad X k its tg iter) (hg : SG X t tg) (h1 : SSs G Φ cad X d1 b1) (hs : ∀ x, foldedSetIterable iter X.env x = pure x) :
    SS G Φ cad X (.for_ t k its d1) (.For tg iter b1 [] pos) := fun W tk =>
  (ps_for hp hc (hi W tk) hg (h1 W tk) hs).imp fun D σ H h => lift_for h
end
end PD
set_option Elab.async false
set_option linter.all false
set_option maxRecDepth 100000
set_option maxHeartbeats 4000000
namespace PD
open PySem PySem.Spec PyProof.Rows L2
section
variable {G : Pg} {Φ : Nat → List PD.W → List M → Rs PD.W} {cad : Nat → Addr} {X : Cx} {K : PySem.W.Frag} {pos : Pos} {a c : Expr} {da dc : E}
theorem s_cell {T id : String} {name : Str} {ap cp : Pos} {is : PD.W → List M → Bool} {k : Sl → PD.W → PD.W → List M → SR} {r : V → List V → Hp → VK → Prop} {d : S}
    (hev : ∀ sl cs, evS G Φ d sl cs = SR.of (evE G Φ da sl cs) sl fun o cs => if is o cs = true then SR.of (evE G Φ dc sl cs) sl fun w cs => k sl o w cs else .stuck)
    (pa : PlainAttrs T) (slot : Slot T name id) (ty : typeOf (.builtin id) = pure (.type "method_descriptor")) (rule : MtR X id r)
    (hty : ∀ {as : AS} {R : List Addr} {H : Hp} {cs : List M} {o : PD.W} {x : V}, Cells X.K cad as R H cs → IsW X.K cad as R H o x → is o cs = true → TyR X T x H)
    (hk : ∀ {W : WX} {D : Ends} {σ : L2.St} {as : AS} {R : List Addr} {H : Hp} {sl : Sl} {cs : List M} {o w : PD.W} {x v : V}, Rel X.K cad as R H sl cs σ → IsW X.K cad as R H o x → IsW X.K cad as R H w v → PostS X.K cad W D as R H (k sl o w cs) → r x [v] H fun _ H' => D.nx σ H')
    (h1 : attrB a = true) (hl : (ap.endLine == cp.line) = true) (hs : notStar c = true) (ha : SE G Φ cad X da a) (hc : SE G Φ cad X dc c) : SS G Φ cad X d (.Expr (.Call (.Attribute a name ap) [c] [] cp) pos) := fun W tk =>
  (ps_expr (pe_bmR pa slot ty rule (ha W tk) (pa_cons (hc W tk) pa_nil (star_of hs)) (base_of h1) (by rw [star_of hs]; rfl) hl (star_of hs) (by rfl)) rfl).imp fun D σ H h => by
    have h : liftS X.K cad W (fun sl cs => SR.of (evE G Φ da sl cs) sl fun o cs => if is o cs = true then SR.of (evE G Φ dc sl cs) sl fun w cs => k sl o w cs else .stuck) D σ H := by
      obtain ⟨sl, cs, as, R, rel, p⟩ := h
      exact ⟨sl, cs, as, R, rel, by rw [hev] at p; exact p⟩
    refine lift_mono (liftS_bind0 (IsA := rW X.K cad) (g := evE G Φ da) (f := fun sl o cs => if is o cs = true then SR.of (evE G Φ dc sl cs) sl fun w cs => k sl o w cs else .stuck) h) fun x H1 ⟨sl, cs, as, R, o, rel, io, p⟩ => ?_
    by_cases hi : is o cs = true
    · rw [if_pos hi] at p
      refine ⟨hty rel.cells io hi, ?_⟩
      refine lift_mono (liftS_bind (IsA := rW X.K cad) (hs := [o]) (vs := [x]) (g := evE G Φ dc) (f := fun sl w cs => k sl o w cs) ⟨sl, cs, as, R, rel, ⟨x, [], rfl, io, rfl⟩, p⟩) fun v H2 ⟨sl, cs, as, R, w, rel, ih, iw, p⟩ => ?_
      obtain ⟨x', r', e', io, _⟩ := ih
      cases e'
      exact hk rel io iw p
    · rw [if_neg hi] at p
      exact p.elim
def extK (sl : Sl) (o w : PD.W) (cs : List M) : SR := match o, pk w cs with
  | .c n, some (.lst ys) => match cs[n]? with
    | some (.lst xs) => if xs.length + ys.length ≤ LIM ∧ sameC o w = false then .ok .nx sl (cs.set n (.lst (xs ++ ys))) else .stuck
    | _ => .stuck
  | _, _ => .stuck
def updK (sl : Sl) (o w : PD.W) (cs : List M) : SR := match o, pk w cs with
  | .c n, some (.dct ks2 vs2) => match cs[n]? with
    | some (.dct ks vs) => if ks.length + ks2.length ≤ LIM ∧ sameC o w = false ∧ ks2.length = vs2.length then .ok .nx sl (cs.set n (.dct (dmerge ks vs (ks2.zip vs2)).1 (dmerge ks vs (ks2.zip vs2)).2)) else .stuck
    | _ => .stuck
  | _, _ => .stuck
def popK (sl : Sl) (o w : PD.W) (cs : List M) : SR := match o, w with
  | .c n, .d kd => match cs[n]?, keyOf kd with
    | some (.dct ks vs), some q => if (dget ks vs q).isSome = true then .ok .nx sl (cs.set n (.dct (ddrop ks vs q).1 (ddrop ks vs q).2)) else .stuck
    | _, _ => .stuck
  | _, _ => .stuck
theorem ty_lst {as : AS} {R : List Addr} {H : Hp} {cs : List M} {o : PD.W} {x : V} (c : Cells X.K cad as R H cs) (io : IsW X.K cad as R H o x) (hk : isLstC o cs = true) : TyR X "list" x H := by
  match o, io, hk with
  | .c n, io, hk =>
    have hk : (match cs[n]? with | some (.lst _) => true | _ => false) = true := hk
    cases e : cs[n]? with
    | none => rw [e] at hk; cases hk
    | some m =>
      rw [e] at hk
      cases m with
      | lst xs =>
        obtain ⟨a, ha, rfl, zs, hH, hd⟩ := c.live_at io e (fun z => nomatch z)
        exact tyR_of (.inl ⟨rfl, zs, .inl (.inl hH)⟩)
      | _ => cases hk
  | .d _, _, hk => cases hk
theorem ty_dct {as : AS} {R : List Addr} {H : Hp} {cs : List M} {o : PD.W} {x : V} (c : Cells X.K cad as R H cs) (io : IsW X.K cad as R H o x) (hk : isDctC o cs = true) : TyR X "dict" x H := by
  match o, io, hk with
  | .c n, io, hk =>
    have hk : (match cs[n]? with | some (.dct _ _) => true | _ => false) = true := hk
    cases e : cs[n]? with
    | none => rw [e] at hk; cases hk
    | some m =>
      rw [e] at hk
      cases m with
      | dct ks vs =>
        obtain ⟨a, ha, rfl, zs, hH, hd⟩ := c.live_at io e (fun z => nomatch z)
        exact tyR_dct (.inl hH)
      | _ => cases hk
  | .d _, _, hk => cases hk
theorem extK_ok {W : WX} {D : Ends} {σ : L2.St} {as : AS} {R : List Addr} {H : Hp} {sl : Sl} {cs : List M} {o w : PD.W} {x v : V} (rel : Rel X.K cad as R H sl cs σ) (io : IsW X.K cad as R H o x) (iw : IsW X.K cad as R H w v) (p : PostS X.K cad W D as R H (extK sl o w cs)) :
    ∃ l b ys zs, x = .ref l ∧ [v] = [.ref b] ∧ H l = some (.lst ys) ∧ SqL X.K H b zs ∧ ys.length + zs.length ≤ sizeLine ∧ D.nx σ (upd H l (.lst (ys ++ zs))) := by
  unfold extK at p
  cases o with
  | d _ => exact p.elim
  | c n =>
    cases ew : pk w cs with
    | none => rw [ew] at p; exact p.elim
    | some dw =>
      rw [ew] at p
      cases dw <;> try exact p.elim
      case lst ys =>
        dsimp only at p
        cases e : cs[n]? with
        | none => rw [e] at p; exact p.elim
        | some m =>
          rw [e] at p
          cases m <;> try exact p.elim
          case lst xs =>
            obtain ⟨a, ha, rfl, zs, hH, hd⟩ := rel.cells.live_at io e (fun z => nomatch z)
            dsimp only at p
            by_cases hl : xs.length + ys.length ≤ LIM ∧ sameC (.c n) w = false
            · rw [if_pos hl] at p
              obtain ⟨b, us, rfl, hb, hu⟩ := iw.pkD rel.cells ew
              obtain ⟨c2, x2⟩ := rel.cells.write (o := .lst (zs ++ us)) (m := .lst (xs ++ ys)) ha e fun kp => ⟨_, upd_same, (hd.app hu).mono kp⟩
              exact ⟨a, b, zs, us, rfl, rfl, hH, hb, by rw [← hd.length, ← hu.length, ← lim_eq]; exact hl.1, p σ _ as x2 (rel.mono x2 c2)⟩
            · rw [if_neg hl] at p; exact p.elim
theorem updK_ok {W : WX} {D : Ends} {σ : L2.St} {as : AS} {R : List Addr} {H : Hp} {sl : Sl} {cs : List M} {o w : PD.W} {x v : V} (rel : Rel X.K cad as R H sl cs σ) (io : IsW X.K cad as R H o x) (iw : IsW X.K cad as R H w v) (p : PostS X.K cad W D as R H (updK sl o w cs)) :
    ∃ a b kvs more, x = .ref a ∧ [v] = [.ref b] ∧ a ≠ b ∧ H a = some (.dK kvs) ∧ Rd H b (.dK more) ∧ kvs.length + more.length ≤ sizeLine ∧ D.nx σ (upd H a (.dK (mergeK kvs more))) := by
  unfold updK at p
  cases o with
  | d _ => exact p.elim
  | c n =>
    cases ew : pk w cs with
    | none => rw [ew] at p; exact p.elim
    | some dw =>
      rw [ew] at p
      cases dw <;> try exact p.elim
      case dct ks2 vs2 =>
        dsimp only at p
        cases e : cs[n]? with
        | none => rw [e] at p; exact p.elim
        | some m =>
          rw [e] at p
          cases m <;> try exact p.elim
          case dct ks vs =>
            obtain ⟨a, ha, rfl, us, hH, rfl, hd⟩ := rel.cells.live_at io e (fun z => nomatch z)
            dsimp only at p
            by_cases hl : (us.map (·.1)).length + ks2.length ≤ LIM ∧ sameC (.c n) w = false ∧ ks2.length = vs2.length
            · rw [if_pos hl] at p
              obtain ⟨b, us2, rfl, hb, rfl, hu⟩ := iw.pkD rel.cells ew
              have hne : a ≠ b := by
                intro z
                subst z
                cases w with
                | d dd =>
                  cases (show some dd = some _ from ew)
                  obtain ⟨a', _, e', na, _⟩ := (show IsD X.K cad H (Av as R) (.dct _ _) (.ref a) from iw)
                  cases e'
                  exact na (List.mem_append_left _ (mem_live.mpr ⟨n, ha⟩))
                | c m =>
                  have hm : (n == m) = false := hl.2.1
                  have hc : m < cs.length := by
                    have e' : (match cs[m]? with | some m => mD m | none => none) = some _ := ew
                    cases q : cs[m]? with
                    | none => rw [q] at e'; cases e'
                    | some _ => exact (List.getElem?_eq_some_iff.mp q).1
                  obtain ⟨oa, ho⟩ : ∃ o, as[m]? = some o := ⟨as[m]'(by rw [rel.cells.len]; exact hc), by simp⟩
                  cases oa with
                  | none =>
                    have q := rel.cells.dead m ho
                    have e' : (match cs[m]? with | some m => mD m | none => none) = some _ := ew
                    rw [q] at e'
                    cases e'
                  | some a2 =>
                    have ea := iw.2 a2 ho
                    cases ea
                    have := rel.cells.inj n m a ha ho
                    subst this
                    simp at hm
              obtain ⟨z1, z2⟩ := dmerge_rel ((us2.map (·.1)).zip vs2) us2 us vs (by rw [List.map_fst_zip]; omega) (by rw [List.map_snd_zip (by omega)]; exact hu) hd
              obtain ⟨c2, x2⟩ := rel.cells.write (o := .dK (mergeK us us2)) (m := .dct (dmerge (us.map (·.1)) vs ((us2.map (·.1)).zip vs2)).1 (dmerge (us.map (·.1)) vs ((us2.map (·.1)).zip vs2)).2) ha e fun kp => ⟨_, upd_same, z1, z2.mono kp⟩
              exact ⟨a, b, us, us2, rfl, rfl, hne, hH, hb, by have := hl.1; rw [List.length_map, List.length_map] at this; rw [← lim_eq]; exact this, p σ _ as x2 (rel.mono x2 c2)⟩
            · rw [if_neg hl] at p; exact p.elim
theorem popK_ok {W : WX} {D : Ends} {σ : L2.St} {as : AS} {R : List Addr} {H : Hp} {sl : Sl} {cs : List M} {o w : PD.W} {x v : V} (rel : Rel X.K cad as R H sl cs σ) (io : IsW X.K cad as R H o x) (iw : IsW X.K cad as R H w v) (p : PostS X.K cad W D as R H (popK sl o w cs)) :
    ∃ a kvs k y, x = .ref a ∧ [v] = [kV k] ∧ H a = some (.dK kvs) ∧ valV kvs k = some y ∧ D.nx σ (upd H a (.dK (dropK kvs k))) := by
  unfold popK at p
  cases o with
  | d _ => exact p.elim
  | c n =>
    cases w with
    | c _ => exact p.elim
    | d kd =>
      dsimp only at p
      cases e : cs[n]? with
      | none => rw [e] at p; exact p.elim
      | some m =>
        rw [e] at p
        cases m <;> try exact p.elim
        case dct ks vs =>
          cases ek : keyOf kd with
          | none => rw [ek] at p; exact p.elim
          | some q =>
            rw [ek] at p
            dsimp only at p
            by_cases hc : (dget ks vs q).isSome = true
            · rw [if_pos hc] at p
              obtain ⟨a, ha, rfl, us, hH, rfl, hd⟩ := rel.cells.live_at io e (fun z => nomatch z)
              obtain ⟨d, ed⟩ := Option.isSome_iff_exists.mp hc
              have g := dget_rel hd (q := q) _ rfl
              rw [ed] at g
              obtain ⟨y, ey, _⟩ := g
              have ekv := key_pk (cad := cad) (IsD.pk (d := kd) iw) ek
              subst ekv
              obtain ⟨z1, z2⟩ := ddrop_rel (q := q) hd
              obtain ⟨c2, x2⟩ := rel.cells.write (o := .dK (dropK us q)) (m := .dct (ddrop (us.map (·.1)) vs q).1 (ddrop (us.map (·.1)) vs q).2) ha e fun kp => ⟨_, upd_same, z1, z2.mono kp⟩
              exact ⟨a, us, q, y, rfl, rfl, hH, ey, p σ _ as x2 (rel.mono x2 c2)⟩
            · rw [if_neg hc] at p
              exact p.elim
theorem s_ext {ap cp : Pos} (h1 : attrB a = true) (hl : (ap.endLine == cp.line) = true) (hs : notStar c = true) (ha : SE G Φ cad X da a) (hc : SE G Φ cad X dc c) : SS G Φ cad X (.ext da dc) (.Expr (.Call (.Attribute a "extend" ap) [c] [] cp) pos) :=
  s_cell (is := isLstC) (k := extK) (fun _ _ => rfl) PySem.F.plainAttrs_list PySem.F.slot_list_extend PySem.F.type_list_extend mt_extP (fun c io hk => ty_lst c io hk) (fun rel io iw p => extK_ok rel io iw p) h1 hl hs ha hc
theorem s_updD {ap cp : Pos} (h1 : attrB a = true) (hl : (ap.endLine == cp.line) = true) (hs : notStar c = true) (ha : SE G Φ cad X da a) (hc : SE G Φ cad X dc c) : SS G Φ cad X (.updD da dc) (.Expr (.Call (.Attribute a "update" ap) [c] [] cp) pos) :=
  s_cell (is := isDctC) (k := updK) (fun _ _ => rfl) PySem.F.plainAttrs_dict PySem.F.slot_dict_update PySem.F.type_dict_update mt_updP (fun c io hk => ty_dct c io hk) (fun rel io iw p => updK_ok rel io iw p) h1 hl hs ha hc
theorem s_popD {ap cp : Pos} (h1 : attrB a = true) (hl : (ap.endLine == cp.line) = true) (hs : notStar c = true) (ha : SE G Φ cad X da a) (hc : SE G Φ cad X dc c) : SS G Φ cad X (.popD da dc) (.Expr (.Call (.Attribute a "pop" ap) [c] [] cp) pos) :=
  s_cell (is := isDctC) (k := popK) (fun _ _ => rfl) PySem.F.plainAttrs_dict PySem.F.slot_dict_pop PySem.F.type_dict_pop mt_popP (fun c io hk => ty_dct c io hk) (fun rel io iw p => popK_ok rel io iw p) h1 hl hs ha hc
theorem ps_alt {e : Stmt} {t t' : TS} (h1 : PS X e t) (h2 : PS X e t') : PS X e (fun D σ H => t D σ H ∨ t' D σ H) := ⟨fun pins s σ H D I h => h.elim (h1.run pins s σ H D I) (h2.run pins s σ H D I)⟩
theorem PostS.unlock {W : WX} {D : Ends} {as : AS} {R : List Addr} {H : Hp} {a : Addr} {od : Obj} {us : List (Key × V)} {r : SR} (h : H a = some (.dK us)) (hl : a ∉ live as) (p : PostS K cad W D as R H (match r with | .ex _ _ _ _ _ => .stuck | r => r)) :
    PostS K cad W ⟨fun σ' H' => H' a = some (.frz od (.dK us)) ∧ D.nx σ' (upd H' a (.dK us)), fun v H' => H' a = some (.frz od (.dK us)) ∧ D.rt v (upd H' a (.dK us)), fun σ' H' => H' a = some (.frz od (.dK us)) ∧ D.bk σ' (upd H' a (.dK us)), fun σ' H' => H' a = some (.frz od (.dK us)) ∧ D.ct σ' (upd H' a (.dK us))⟩ as R (upd H a (.frz od (.dK us))) r := by
  have go : ∀ {sl : Sl} {cs : List M} {σ' : L2.St} {H' : Hp} {as' : AS}, Ext (upd H a (.frz od (.dK us))) as H' as' → Rel K cad as' R H' sl cs σ' → H' a = some (.frz od (.dK us)) ∧ Ext H as (upd H' a (.dK us)) as' ∧ Rel K cad as' R (upd H' a (.dK us)) sl cs σ' := fun {sl cs σ' H' as'} x rel => by
    obtain ⟨e1, e2, x2⟩ := ext_unlock h hl x
    exact ⟨e1, x2, rel.lk (Lk.unlock e1) fun b hb => upd_ne (fun z : b = a => e2 (by rw [← z]; exact hb))⟩
  cases r with
  | stuck => exact p
  | ex _ _ _ _ _ => exact p.elim
  | ok f sl cs =>
    cases f with
    | nx => exact fun σ' H' as' x rel => let ⟨e1, x2, r2⟩ := go x rel; ⟨e1, p σ' _ as' x2 r2⟩
    | brk => exact fun σ' H' as' x rel => let ⟨e1, x2, r2⟩ := go x rel; ⟨e1, p σ' _ as' x2 r2⟩
    | cnt => exact fun σ' H' as' x rel => let ⟨e1, x2, r2⟩ := go x rel; ⟨e1, p σ' _ as' x2 r2⟩
    | ret w =>
      intro v H' as' x c i
      obtain ⟨e1, e2, x2⟩ := ext_unlock h hl x
      exact ⟨e1, p v _ as' x2 (c.lk (Lk.unlock e1) fun b hb => upd_ne (fun z : b = a => e2 (by rw [← z]; exact hb))) (i.lk (Lk.unlock e1))⟩
theorem lift_forK {W : WX} {D : Ends} {σ : L2.St} {H : Hp} {t : Tg} {j : Nat} {b : List S} (h : liftS K cad W (evS G Φ (.forK t j b)) D σ H) : tLock (tFor (tKeysF j) (gT K t) (liftS K cad W (evSs G Φ b))) D σ H ∨ tFor (tKeysF j) (gT K t) (liftS K cad W (evSs G Φ b)) D σ H := by
  obtain ⟨sl, cs, as, R, rel, p⟩ := h
  have p : PostS K cad W D as R H (match sl[j]? with
    | some (some (.d (.dct ks vs))) => if ks.length = vs.length ∧ ks.length ≤ LIM then (match forL (forF G Φ t b) (ks.map kD) sl cs with
        | .ex _ _ _ _ _ => .stuck
        | r => r) else .stuck
    | _ => .stuck) := p
  cases e : sl[j]? with
  | none => rw [e] at p; exact p.elim
  | some ow =>
    cases ow with
    | none => rw [e] at p; exact p.elim
    | some w =>
      cases w with
      | c _ => rw [e] at p; exact p.elim
      | d x =>
        cases x <;> try (rw [e] at p; exact p.elim)
        case dct ks vs =>
          rw [e] at p
          dsimp only at p
          by_cases hc : ks.length = vs.length ∧ ks.length ≤ LIM
          · rw [if_pos hc] at p
            obtain ⟨v, ev, iv⟩ := rel.sl j _ e
            obtain ⟨a, us, rfl, na, rd, rfl, hv⟩ := iv
            have nl : a ∉ live as := fun z => na (List.mem_append_left _ z)
            rcases rd with rd | ⟨o, rd⟩
            · refine .inl ⟨a, .dK us, rd, trivial, fun od => ?_⟩
              have rel1 := rel.lk (H2 := upd H a (.frz od (.dK us))) (Lk.lock rd) fun b hb => upd_ne (fun z : b = a => nl (by rw [← z]; exact hb))
              exact ⟨a, od, us, ev, upd_same, for_in rel1 ⟨by rw [List.length_map]; exact hc.2, wk_keys upd_same na⟩ (PostS.unlock rd nl p)⟩
            · refine .inr ⟨a, o, us, ev, rd, for_in rel ⟨by rw [List.length_map]; exact hc.2, wk_keys rd na⟩ ?_⟩
              cases er : forL (forF G Φ t b) ((us.map (·.1)).map kD) sl cs with
              | ex _ _ _ _ _ => rw [er] at p; exact p.elim
              | stuck => rw [er] at p; exact p
              | ok _ _ _ => rw [er] at p; exact p
          · rw [if_neg hc] at p
            exact p.elim
theorem s_forK {tg : Expr} {x : Str} {px : Pos} {t : Tg} {j : Nat} {d1 : List S} {b1 : List Stmt} (hp : PassesOwn (model X.prog X.w) X.A X.env X.xe) (hc : X.calm = true) (hj : X.N[j]? = some x) (hv : Vis X.env.scope x) (hd : (x == ("__debug__" : Str)) = false) (hcd : (x == ("__classdict__" : Str)) = false) (hg : SG X t tg) (h1 : SSs G Φ cad X d1 b1) :
    SS G Φ cad X (.forK t j d1) (.For tg (.Name x px) b1 [] pos) := fun W tk => by
  have h := ps_for (pos := pos) hp hc (i_keysF (pos := px) hj hv hd hcd) hg (h1 W tk) (fun _ => rfl)
  exact (ps_alt (ps_lock h) h).imp fun D σ H h => lift_forK h
end
end PD
set_option Elab.async false
set_option linter.all false
set_option maxRecDepth 100000
set_option maxHeartbeats 4000000
namespace PD
open PySem PySem.Spec PyProof.Rows L2
section
variable {X : Cx} {pins : List (Addr × Obj)} {σ : L2.St} {H : Hp} {s sI : Shared} {a : Addr} {oe : Obj} {vs : Array Value} {cls : Value} {d : Option Addr}
theorem track (I : Inv X pins σ H s) (J : Inv X pins σ H sI) (hz : Zc cls d oe) (he : s.heap.get? a = some oe) (hd : oe.data = .fields vs) (na : H a = none) (nI : sI.heap.get? a = none) (nL : a ≠ X.env.locals) : Inv X pins σ (upd H a (exO cls d a)) s := by
  have n0 : X.s_0.heap.get? a = none ∨ a ∈ X.ex := by
    by_cases hx : a ∈ X.ex
    · exact .inr hx
    · refine .inl ?_
      cases q : X.s_0.heap.get? a with
      | none => rfl
      | some o =>
        obtain ⟨o', z⟩ := J.base.there a o q hx
        rw [nI] at z
        cases z
  refine ⟨I.ok, I.os, I.bare, ⟨I.base.keep, I.base.slot, fun b o q n hx => ?_, I.base.there, fun b xs q => ?_, fun b o u q => ?_, fun b ps q => ?_⟩, I.loc, I.cell, ?_, fun x c e => ?_, fun p hp => ?_, fun b u q => ?_, I.len⟩
  · have hb : b ≠ a := fun z => by
      rcases n0 with z0 | z0
      · rw [z, z0] at q; cases q
      · exact hx (z ▸ z0)
    rw [upd_ne hb]
    exact I.base.free b o q n hx
  · have z := I.base.tups b xs q
    rw [upd_ne (ne_of_none z na)]
    exact z
  · have z := I.base.frzs b o u q
    rw [upd_ne (ne_of_none z na)]
    exact z
  · obtain ⟨more, z⟩ := I.base.tbls b ps q
    exact ⟨more, by rw [upd_ne (ne_of_none z na)]; exact z⟩
  · rw [upd_ne (Ne.symm nL)]
    exact I.free
  · have hc : c ≠ a := fun z => by
      obtain ⟨v, o, q, hq⟩ := I.cell x c e
      rw [z, he] at q
      cases q
      rw [hd] at hq
      cases hq
    rw [upd_ne hc]
    exact I.freeC x c e
  · obtain ⟨p1, p2, p3⟩ := I.pin p hp
    have hp' : p.1 ≠ a := fun z => by
      have q := (J.pin p hp).1
      rw [z, nI] at q
      cases q
    exact ⟨p1, by rw [upd_ne hp']; exact p2, p3⟩
  · by_cases hb : b = a
    · subst hb
      rw [upd_same] at q
      cases q
      refine ⟨⟨oe, vs, he, hz, hd⟩, ⟨oe, he⟩, fun h1 h2 ⟨oe1, vs1, q1, q2, q3⟩ k => ⟨oe1, vs1, k _ q1, q2, q3⟩⟩
    · rw [upd_ne hb] at q
      exact (I.hok b u q).stay (fun c v _ q => q) (fun c q => by rw [upd_ne (ne_of_none q na)]; exact q) fun c xs q => by rw [upd_ne (ne_of_none q na)]; exact q
theorem _root_.L2.Inv.toSuite (I : Inv X pins σ H s) (a : Addr) : Inv (X.suite a (X.pn ++ pins)) [] σ H s :=
  ⟨I.ok.suite _ _, I.os, I.bare, I.base, I.loc, I.cell, I.free, I.freeC, fun p hp => I.pin p (by rw [List.append_nil] at hp; exact hp), I.hok, I.len⟩
theorem outSuite {pn' : List (Addr × Obj)} (I : Inv (X.suite a (X.pn ++ pins)) pn' σ H s) (ok : X.Ok) : Inv X pins σ H s :=
  ⟨ok, I.os, I.bare, I.base, I.loc, I.cell, I.free, I.freeC, fun p hp => I.pin p (List.mem_append_left _ hp), I.hok, I.len⟩
end
def wCatch (K : PySem.W.Frag) (c : Value) (ent : Addr → Value → Option Addr → L2.St → Hp → Prop) (Wout : WX) : WX := fun cls d σ H =>
  ∃ b, PySem.W.exmOne K cls c = some b ∧ (b = true → ∀ a, H a = none → ent a cls d σ (upd H a (exO cls d a))) ∧ (b = false → Wout cls d σ H)
section
variable {X : Cx} {pins : List (Addr × Obj)} {xe : Value → Shared → Prop} {W Wout : WX} {u : Value} {s' : Shared} {x n : Str} {c : Value} {np : Pos}
structure Landed (X : Cx) (pins : List (Addr × Obj)) (Wout : WX) (a : Addr) (cls : Value) (d : Option Addr) (σ : L2.St) (H : Hp) (s3 : Shared) : Prop where
  na : H a = none
  inv : Inv X pins σ H s3
  ty : ∀ M : Model, PySem.W.Looks M s3.heap (typeOf (.ref a)) cls
  test : ∀ {x : Str} {c : Value} {np : Pos} {Q : Value → Shared → Prop} {E : Value → Shared → Prop}, Names X x c → Q c s3 → wpAny (model X.prog X.w) (X.A.mark (some (.ref a))) (eval (.Name x np) X.env) Q E s3
  enter : ∀ {A : Around} {Q : Unit → Shared → Prop} {E : Value → Shared → Prop}, (∀ s4, Inv (X.suite a (X.pn ++ pins)) [] σ (upd H a (exO cls d a)) s4 → Q () s4) → wpAny (model X.prog X.w) A (setFlight (.ref a) none) Q E s3
  on : ∀ {Q : Flow → Shared → Prop}, Takes X Wout → Wout cls d σ H → wpAny (model X.prog X.w) X.A (handleBy (.ref a) X.env []) Q X.xe s3
theorem landed (hs : X.stack = X.env :: X.outer) (hf : X.env.frame = some X.env.locals) (ok : X.Ok) (xx : XE (X.tr (X.pn ++ pins) xe) W u s') {Q : Shared → Prop} {E : Value → Shared → Prop}
    (k : ∀ a cls d σ H s3, u = .ref a → W cls d σ H → Landed X pins Wout a cls d σ H s3 → Q s3) :
    wpAny (model X.prog X.w) X.A (noteFrame u X.env) (fun _ s2 => wpAny (model X.prog X.w) X.A (setFlight u none) (fun _ s3 => Q s3) E s2) E s' := by
  obtain ⟨a, B, sI, pins', σ, H, cls, d, rfl, J', nb, up, sky, na, os, ag, w⟩ := xx
  have frames : X.A.frames = some (X.env :: X.outer) := by rw [ok.frames, hs]
  have J : Inv X pins σ H sI := J'.ofTry ok
  have sky2 : Sky B (X.env :: X.outer) a (Zc cls d) X.env.locals s'.heap := by rw [← hs]; exact sky
  refine Sky.land Zc.steady frames hf sky2 fun h3 fl up3 => k a cls d σ H _ rfl w ?_
  have ground : ∀ {h : Heap}, HandSPX.FlyingZ B (X.env :: X.outer) a (Zc cls d) h → s'.heap.UpToSlots h → Inv X pins σ H { s' with heap := h } := fun {h} f q => J.landed nb f.1 (up.trans q) os ag
  have off : a ∉ frs (X.env :: X.outer) := fun hm => by
    obtain ⟨oe, vs, e, _, dd⟩ := fl.there
    obtain ⟨_, o', e', hnf⟩ := fl.2.2.1.mem hm
    rw [e] at e'
    cases e'
    exact hnf _ dd
  have nL : a ≠ X.env.locals := fun z => off (List.mem_filterMap.mpr ⟨X.env, List.mem_cons_self, by rw [hf, z]⟩)
  have nF : a ∉ X.fs := fun hm => by
    obtain ⟨e, he, q⟩ := List.mem_filterMap.mp hm
    exact off (List.mem_filterMap.mpr ⟨e, List.mem_cons_of_mem _ he, q⟩)
  have nI : sI.heap.get? a = none := by
    cases q : sI.heap.get? a with
    | none => rfl
    | some o =>
      have z := nb a o q (by rw [show (X.tr (X.pn ++ pins) xe).stack = X.env :: X.outer from hs]; exact off)
      rw [fl.2.1] at z
      cases z
  obtain ⟨oe3, vs3, e3, z3, d3⟩ := fl.there
  have I3 := ground fl up3
  refine ⟨na, I3, fun M A Q E s k q => wpAny_typeOf_ref (k _ _ e3) (by rw [z3.1]; exact q), fun {x c np Q E} hc q => ?_, fun {A Q E} hQ => ?_, fun {Q} tk wo => ?_⟩
  · have S3 := I3.suite e3 d3 na nL nF
    obtain ⟨hg, hdbg, hm | ⟨hm, hv, hnn⟩⟩ := hc
    · exact ld_glob (X := X.suite a ((a, oe3) :: (X.pn ++ pins))) S3 hg hm q hdbg
    · exact ld_blt (X := X.suite a ((a, oe3) :: (X.pn ++ pins))) S3 hg hm hv q hnn hdbg
  · refine HandSPX.lands_againZ fl fun h4 fl4 up4 => hQ _ ?_
    obtain ⟨oe4, vs4, e4, z4, d4⟩ := fl4.there
    exact (track (ground fl4 (up3.trans up4)) J z4 e4 d4 na nI nL).toSuite a
  · refine wpAny_handleBy_nil ?_
    obtain ⟨_, _, _, oe, vs, T, oT, ts', he, _, hd, h1, _⟩ := id fl
    unfold PySem.passOn
    refine wpAny_bind (wpAny_field he hd h1 ?_)
    rw [if_neg (show ¬ ((Value.ref T == Value.none) = true) from by simp)]
    have fin : wpAny (model X.prog X.w) X.A (setFlight (.ref a) X.env.frame) (fun _ s4 => wpAny (model X.prog X.w) X.A (throw (.ref a) : Sem Flow) Q X.xe s4) X.xe { s' with heap := h3 } := by
      rw [hf]
      exact HandSPX.setFlight_upZ fl fun h4 hh4 up4 => wpAny_throw (tk _ _ ⟨a, B, sI, pins, σ, H, cls, d, rfl, J, nb, (up.trans up3).trans up4, .inr (.inr (by rw [hs]; exact hh4)), na, os, ag, wo⟩)
    first
      | exact wpAny_bind (wpAny_pure (wpAny_bind fin))
      | exact wpAny_bind fin
theorem endsTry {pn : List (Addr × Obj)} {D : Ends} {f : Flow} {s1 : Shared} (ok : X.Ok) (h : SP (X.tr (X.pn ++ pins) xe) [] D f s1) : SP X pins D f s1 := by
  cases f with
  | ret u => obtain ⟨v, σ', H', J', r, q⟩ := h; exact ⟨v, σ', H', J'.ofTry ok, r, q⟩
  | _ => obtain ⟨σ', H', J', q⟩ := h; exact ⟨σ', H', J'.ofTry ok, q⟩
variable {i : Nat} {body suite : List Stmt} {b₀ : Stmt} {pos pos' : Pos} {tb : WX → TS} {ts : TS}
theorem ps_tryT (hs : X.stack = X.env :: X.outer) (hf : X.env.frame = some X.env.locals) (hc : Names X x c) (tk : Takes X Wout)
    (hb : ∀ (W : WX) (pn : List (Addr × Obj)) (xe : Value → Shared → Prop), Takes (X.tr pn xe) W → PassesOwn (model X.prog X.w) X.A X.env xe → PSs (X.tr pn xe) body (tb W))
    (hsu : ∀ (a : Addr) (pn : List (Addr × Obj)), PSs (X.suite a pn) (b₀ :: suite) ts) :
    PS X (.Try body [.ExceptHandler (some (.Name x np)) none (b₀ :: suite) pos'] [] [] pos) (fun D σ H => tb (wCatch X.K c (fun _ _ _ σ H => ts D σ H) Wout) D σ H) := by
  refine ⟨fun pins s σ H D I h => ?_⟩
  have ok := I.ok
  refine wpAny_Try_except (wpAny_mono ((hb (wCatch X.K c (fun _ _ _ σ H => ts D σ H) Wout) (X.pn ++ pins) (fun e s₁ => wpAny (model X.prog X.w) X.A (noteFrame e X.env) (fun _ s₂ => wpAny (model X.prog X.w) X.A (setFlight e none) (fun _ s₃ =>
    wpAny (model X.prog X.w) X.A (handleBy e X.env [.ExceptHandler (some (.Name x np)) none (b₀ :: suite) pos']) (SP X pins D) X.xe s₃) X.xe s₂) X.xe s₁) (fun u s' xx => ?_) PassesOwn.looking).run [] s σ H D (I.toTry _) h) (fun f s1 hsp => ?_) (fun e s1 he => he))
  · refine landed (Wout := Wout) hs hf ok xx fun a cls d σ' H' s3 eu w L => ?_
    subst eu
    obtain ⟨b, hb1, hyes, hno⟩ := w
    refine wpAny_handleBy_cons (codeAny_handlers_test (L.test hc ((PySem.W.exm_one (M := model X.prog X.w) L.inv.kIn (L.ty _) hb1).here ?_))) (by intro q; cases q)
    cases b with
    | true =>
      refine codeAny_handlers_suite (L.enter fun s4 S4 => ?_)
      refine wpAny_mono ((hsu a (X.pn ++ pins)).run [] _ _ _ _ S4 (hyes rfl a L.na)) (fun f s6 hsp => ?_) (fun _ _ z => False.elim z)
      cases f with
      | ret u => obtain ⟨v6, σ6, H6, S6, r6, q6⟩ := hsp; exact ⟨_, _, _, outSuite S6 ok, r6, q6⟩
      | _ => obtain ⟨σ6, H6, S6, q6⟩ := hsp; exact ⟨_, _, outSuite S6 ok, q6⟩
    | false => exact L.on tk (hno rfl)
  · have q := endsTry (pn := []) ok hsp
    cases f with
    | next => obtain ⟨σ', H', J', q⟩ := q; exact wpAny_execs_nil ⟨σ', H', J', q⟩
    | _ => exact q
def asEnds (i : Nat) (D : Ends) : Ends := { nx := fun σ' H' => D.nx (σ'.set i none) H', rt := D.rt, bk := fun σ' H' => D.bk (σ'.set i none) H', ct := fun σ' H' => D.ct (σ'.set i none) H' }
theorem ps_tryTn (hs : X.stack = X.env :: X.outer) (hf : X.env.frame = some X.env.locals) (hN : X.N.Nodup) (hi : X.N[i]? = some n) (hln : X.env.kindOf n = some .local) (hc : Names X x c) (tk : Takes X Wout)
    (hb : ∀ (W : WX) (pn : List (Addr × Obj)) (xe : Value → Shared → Prop), Takes (X.tr pn xe) W → PassesOwn (model X.prog X.w) X.A X.env xe → PSs (X.tr pn xe) body (tb W))
    (hsu : ∀ (a : Addr) (pn : List (Addr × Obj)), PSs (X.suite a pn) (b₀ :: suite) ts) :
    PS X (.Try body [.ExceptHandler (some (.Name x np)) (some n) (b₀ :: suite) pos'] [] [] pos) (fun D σ H => tb (wCatch X.K c (fun a _ _ σ H => ts (asEnds i D) (σ.set i (some (.ref a))) H) Wout) D σ H) := by
  refine ⟨fun pins s σ H D I h => ?_⟩
  have ok := I.ok
  refine wpAny_Try_except (wpAny_mono ((hb (wCatch X.K c (fun a _ _ σ H => ts (asEnds i D) (σ.set i (some (.ref a))) H) Wout) (X.pn ++ pins) (fun e s₁ => wpAny (model X.prog X.w) X.A (noteFrame e X.env) (fun _ s₂ => wpAny (model X.prog X.w) X.A (setFlight e none) (fun _ s₃ =>
    wpAny (model X.prog X.w) X.A (handleBy e X.env [.ExceptHandler (some (.Name x np)) (some n) (b₀ :: suite) pos']) (SP X pins D) X.xe s₃) X.xe s₂) X.xe s₁) (fun u s' xx => ?_) PassesOwn.looking).run [] s σ H D (I.toTry _) h) (fun f s1 hsp => ?_) (fun e s1 he => he))
  · refine landed (Wout := Wout) hs hf ok xx fun a cls d σ' H' s3 eu w L => ?_
    subst eu
    obtain ⟨b, hb1, hyes, hno⟩ := w
    refine wpAny_handleBy_cons (codeAny_handlers_test (L.test hc ((PySem.W.exm_one (M := model X.prog X.w) L.inv.kIn (L.ty _) hb1).here ?_))) (by intro q; cases q)
    cases b with
    | true =>
      refine codeAny_handlers_suite_as (L.enter fun s4 S4 => ?_)
      refine store_ok (X := X.suite a (X.pn ++ pins)) (v := .ref a) S4 hN hi (.inl hln) rfl (fun s5 S5 => ?_) (.inr hln)
      refine wpAny_mono ((hsu a (X.pn ++ pins)).run [] s5 _ _ _ S5 (hyes rfl a L.na)) (fun f s6 hsp => ?_) (fun _ _ z => False.elim z)
      have go : ∀ {σ6 : L2.St} {H6 : Hp} {Q : Shared → Prop}, Inv (X.suite a (X.pn ++ pins)) [] σ6 H6 s6 → (∀ s7, Inv X pins (σ6.set i none) H6 s7 → Q s7) →
          wpAny (model X.prog X.w) X.A (do bindName X.env n .none; unbindBehindTheSuite X.env n pos') (fun _ s7 => Q s7) X.xe s6 := fun {σ6 H6 Q} S6 hq => gone_ok (outSuite S6 ok) hN hi hln hq
      cases f with
      | ret u => obtain ⟨v6, σ6, H6, S6, r6, q6⟩ := hsp; exact go S6 fun s7 J7 => ⟨_, _, _, J7, r6, q6⟩
      | _ => obtain ⟨σ6, H6, S6, q6⟩ := hsp; exact go S6 fun s7 J7 => ⟨_, _, J7, q6⟩
    | false => exact L.on tk (hno rfl)
  · have q := endsTry (pn := []) ok hsp
    cases f with
    | next => obtain ⟨σ', H', J', q⟩ := q; exact wpAny_execs_nil ⟨σ', H', J', q⟩
    | _ => exact q
end
end PD
set_option Elab.async false
set_option linter.all false
set_option maxRecDepth 100000
set_option maxHeartbeats 4000000
namespace PD
open PySem PySem.Spec PyProof.Rows L2
section
variable {G : Pg} {Φ : Nat → List PD.W → List M → Rs PD.W} {cad : Nat → Addr} {X : Cx} {K : PySem.W.Frag} {pos : Pos}
theorem s_rais {C : Nat} {x : Str} {p p2 : Pos} {e : Expr} {es : List Expr} {ds : List E} (hc : X.calm = true) (rc : RaiseC X.K (cad C)) (hg : Gl X x) (hm : X.mg x = some (.ref (cad C))) (hdb : (x == ("__debug__" : Str)) = false) (ha : SA G Φ cad X ds (e :: es)) (hs : (e :: es).all notStar = true) :
    SS G Φ cad X (.rais C ds) (.Raise (some (.Call (.Name x p) (e :: es) [] p2)) none pos) := fun W tk => by
  obtain ⟨B, newId, initId, bmB, F, q⟩ := rc.base
  refine (ps_raise hc tk (pmk_ownA F q hm rc.kp (raises_own rc.r1 rc.r2) hg (ha W tk) hdb (star_of (tail_star hs).1) (noStars es (tail_star hs).2 p2))).imp fun D σ H h => ?_
  refine lift_mono (liftS_bind0 (IsA := rWs X.K cad) (g := evEs G Φ ds) (f := fun sl ws cs => if ws.length ≤ LIM then .ex C [] [] sl cs else .stuck) h) fun vs H1 ⟨sl, cs, as, R, ws, rel, iw, p⟩ => ?_
  by_cases hl : ws.length ≤ LIM
  · rw [if_pos hl] at p
    exact ⟨by rw [← iw.length, ← lim_eq]; exact hl, p _ none σ H1 as Ext.refl rel ⟨rfl, .inl ⟨rfl, rfl, rfl⟩⟩⟩
  · rw [if_neg hl] at p
    exact p.elim
theorem lift_try {W : WX} {C : Nat} {b h : List S} {D : Ends} {σ : L2.St} {H : Hp} (exm : ∀ C' b, G.sub C' C = some b → PySem.W.exmOne K (.ref (cad C')) (.ref (cad C)) = some b) (hh : liftS K cad W (evS G Φ (.try_ b C none h)) D σ H) :
    liftS K cad (wCatch K (.ref (cad C)) (fun _ _ _ σ H => liftS K cad W0 (evSs G Φ h) D σ H) W) (evSs G Φ b) D σ H := by
  obtain ⟨sl, cs, as, R, rel, p⟩ := hh
  refine ⟨sl, cs, as, R, rel, ?_⟩
  have p : PostS K cad W D as R H (match evSs G Φ b sl cs with
    | .ex C' ks vs sl' cs' => match G.sub C' C with
      | some true => (match evSs G Φ h sl' cs' with
          | .ok f sl2 cs2 => .ok f sl2 cs2
          | .ex _ _ _ _ _ => .stuck
          | .stuck => .stuck)
      | some false => .ex C' ks vs sl' cs'
      | none => .stuck
    | r => r) := p
  cases e : evSs G Φ b sl cs with
  | stuck => rw [e] at p; exact p
  | ok f sl1 cs1 => rw [e] at p; cases f <;> exact p
  | ex C' ks vs sl1 cs1 =>
    rw [e] at p
    dsimp only at p
    intro cls d σ' H' as' x rel' ix
    obtain ⟨rfl, ix2⟩ := id ix
    cases es : G.sub C' C with
    | none => rw [es] at p; exact p.elim
    | some bb =>
      rw [es] at p
      cases bb with
      | false => exact ⟨false, exm C' _ es, (fun z => absurd z Bool.false_ne_true), fun _ => p _ d σ' H' as' x rel' ix⟩
      | true =>
        refine ⟨true, exm C' _ es, fun _ a na => ?_, (fun z => absurd z.symm Bool.false_ne_true)⟩
        dsimp only at p
        have sm : Same H' (upd H' a (exO (.ref (cad C')) d a)) := same_upd na
        refine ⟨sl1, cs1, as', R, rel'.mono (Ext.same sm) (rel'.cells.same sm), ?_⟩
        have p := PostS.mono (x.trans (Ext.same sm)) p
        cases eh : evSs G Φ h sl1 cs1 with
        | stuck => rw [eh] at p; exact p
        | ex _ _ _ _ _ => rw [eh] at p; exact p.elim
        | ok f sl2 cs2 => rw [eh] at p; cases f <;> exact p
theorem exc_val {as : AS} {R : List Addr} {H : Hp} {cs : List M} {C : Nat} {ks : List Str} {vs : List D} {d : Option Addr} {a : Addr} (c : Cells K cad as R H cs) (ix : IsX K cad as R H C ks vs (.ref (cad C)) d) (na : H a = none) :
    IsD K cad (upd H a (exO (.ref (cad C)) d a)) (Av as R) (.exc C ks vs) (.ref a) := by
  have sm : Same H (upd H a (exO (.ref (cad C)) d a)) := same_upd na
  refine ⟨a, d, rfl, fresh_av c.hF na, upd_same, ?_⟩
  rcases ix.2 with h2 | ⟨h0, dx, us, e1, e2, e3, e4, hs⟩
  · exact .inl h2
  · exact .inr ⟨h0, dx, us, e1, e2, sm _ _ e3, e4, hs.mono (Kp.same sm)⟩
theorem lift_tryn {W : WX} {C i : Nat} {b h : List S} {D : Ends} {σ : L2.St} {H : Hp} (exm : ∀ C' b, G.sub C' C = some b → PySem.W.exmOne K (.ref (cad C')) (.ref (cad C)) = some b) (hh : liftS K cad W (evS G Φ (.try_ b C (some i) h)) D σ H) :
    liftS K cad (wCatch K (.ref (cad C)) (fun a _ _ σ H => liftS K cad W0 (evSs G Φ h) (asEnds i D) (σ.set i (some (.ref a))) H) W) (evSs G Φ b) D σ H := by
  obtain ⟨sl, cs, as, R, rel, p⟩ := hh
  refine ⟨sl, cs, as, R, rel, ?_⟩
  have p : PostS K cad W D as R H (match evSs G Φ b sl cs with
    | .ex C' ks vs sl' cs' => match G.sub C' C with
      | some true => if i < sl'.length then (match evSs G Φ h (sl'.set i (some (.d (.exc C' ks vs)))) cs' with
          | .ok f sl2 cs2 => .ok f (sl2.set i none) cs2
          | .ex _ _ _ _ _ => .stuck
          | .stuck => .stuck) else .stuck
      | some false => .ex C' ks vs sl' cs'
      | none => .stuck
    | r => r) := p
  cases e : evSs G Φ b sl cs with
  | stuck => rw [e] at p; exact p
  | ok f sl1 cs1 => rw [e] at p; cases f <;> exact p
  | ex C' ks vs sl1 cs1 =>
    rw [e] at p
    dsimp only at p
    intro cls d σ' H' as' x rel' ix
    obtain ⟨rfl, ix2⟩ := id ix
    cases es : G.sub C' C with
    | none => rw [es] at p; exact p.elim
    | some bb =>
      rw [es] at p
      cases bb with
      | false => exact ⟨false, exm C' _ es, (fun z => absurd z Bool.false_ne_true), fun _ => p _ d σ' H' as' x rel' ix⟩
      | true =>
        refine ⟨true, exm C' _ es, fun _ a na => ?_, (fun z => absurd z.symm Bool.false_ne_true)⟩
        dsimp only at p
        by_cases hl : i < sl1.length
        · rw [if_pos hl] at p
          have sm : Same H' (upd H' a (exO (.ref (cad C')) d a)) := same_upd na
          refine ⟨sl1.set i (some (.d (.exc C' ks vs))), cs1, as', R, (rel'.mono (Ext.same sm) (rel'.cells.same sm)).set hl (w := .d (.exc C' ks vs)) (exc_val rel'.cells ix na), ?_⟩
          have p := PostS.mono (x.trans (Ext.same sm)) p
          cases eh : evSs G Φ h (sl1.set i (some (.d (.exc C' ks vs)))) cs1 with
          | stuck => rw [eh] at p; exact p
          | ex _ _ _ _ _ => rw [eh] at p; exact p.elim
          | ok f sl2 cs2 =>
            rw [eh] at p
            cases f with
            | nx => exact fun σ2 H2 as2 x2 r2 => p _ H2 as2 x2 r2.unset2
            | brk => exact fun σ2 H2 as2 x2 r2 => p _ H2 as2 x2 r2.unset2
            | cnt => exact fun σ2 H2 as2 x2 r2 => p _ H2 as2 x2 r2.unset2
            | ret w => exact p
        · rw [if_neg hl] at p; exact p.elim
end
structure StS (ct : Ct) (G : Pg) (Φ : Nat → List PD.W → List M → Rs PD.W) (cad : Nat → Addr) (k : Nat) (X : Cx) : Prop where
  st : StX ct G Φ cad k X
  own : PassesOwn (model X.prog X.w) X.A X.env X.xe
  stk : X.stack = X.env :: X.outer
  frm : X.env.frame = some X.env.locals
  knd : X.env.blockKind = .function
def binA : Operator → Option O
  | .Add => some .add | .Sub => some .sub | .Mult => some .mul | .Mod => some .mod
  | _ => none
section
variable (G : Pg) (nE : Nat) (rS : Ct → List Stmt → List S → Bool) (ct : Ct)
def sPass (s : Stmt) : Bool := match s with
  | .Pass _ => true
  | .Expr (.Constant (.str _) _ _) _ => true
  | _ => false
def sEx (s : Stmt) (de : E) : Bool := match s with
  | .Expr e _ => notLC e && okE G nE ct e de
  | _ => false
def inScope (scope : Scope) (t : Str) : Bool := scope.names.any fun (n, k) => n == t && (k == .local || k == .cell)
def onLine (ct : Ct) (y : Str) (py lp : Pos) (scope : Scope) : Bool := (ct.sc.names.lookup y == some .local) && (py.line == lp.line) && !inScope scope y
def sLc (tg e : Expr) (t : Tg) (de : E) : Bool := !ct.hot && match tg, e, t, de with
  | .Name y py, .ListComp elt [⟨tg, iter, ifs, z⟩] scope lp, .n i, .comp mc own t q its conds d =>
    decide (ct.N[i]? = some y) && locB ct y && kComp (okE G nE) ct e own t q its conds d
  | _, _, _, _ => false
def sAsg (s : Stmt) (t : Tg) (de : E) : Bool := match s with
  | .Assign [tg] e _ => (okT ct tg t && okE G nE ct e de && notLC e && noSwap tg e && notStar tg) || sLc G nE ct tg e t de
  | _ => false
def twoSwap (x y : Str) (px py : Pos) (a b : Expr) : Bool := decide (ct.sc.names.lookup x = some .local) && decide (ct.sc.names.lookup y = some .local) && (py.line == px.line) && !(x == y) && !([a, b].all (foldedForSure 8)) && !([a, b].all (constantsAlone 8))
def sPar (s : Stmt) (i j : Nat) (da db : E) : Bool := !ct.hot && match s with
  | .Assign [.Tuple [.Name x px, .Name y py] _ _] (.Tuple [a, b] _ _) _ => decide (ct.N[i]? = some x) && decide (ct.N[j]? = some y) && decide (i ≠ j) && twoSwap ct x y px py a b && notStar a && notStar b && okE G nE ct a da && okE G nE ct b db
  | _ => false
def sAug (s : Stmt) (i : Nat) (o : O) (de : E) : Bool := match s with
  | .AugAssign (.Name x _) op e _ => decide (ct.N[i]? = some x) && locB ct x && decide (binA op = some o) && okE G nE ct e de
  | _ => false
def sSetix (s : Stmt) (da db dc : E) : Bool := match s with
  | .Assign [.Subscript a b _] c _ => notSlice b && notLC c && okE G nE ct c dc && okE G nE ct a da && okE G nE ct b db
  | _ => false
def sSetfld (s : Stmt) (da : E) (f : Str) (dc : E) : Bool := match s with
  | .Assign [.Attribute a f' _] c _ => decide (f = f') && notLC c && okE G nE ct c dc && okE G nE ct a da
  | _ => false
def sApp (s : Stmt) (da dc : E) : Bool := match s with
  | .Expr (.Call (.Attribute a m ap) [c] [] cp) _ => decide (m = ("append" : Str)) && attrB a && (ap.endLine == cp.line) && notStar c && okE G nE ct a da && okE G nE ct c dc
  | _ => false
def sM1 (m0 : Str) (s : Stmt) (da dc : E) : Bool := match s with
  | .Expr (.Call (.Attribute a m ap) [c] [] cp) _ => decide (m = m0) && attrB a && (ap.endLine == cp.line) && notStar c && okE G nE ct a da && okE G nE ct c dc
  | _ => false
def sForK (s : Stmt) (t : Tg) (j : Nat) (d1 : List S) : Bool := !ct.hot && match s with
  | .For tg (.Name x _) b1 [] _ => okT ct tg t && nmB ct j x && rS ct b1 d1
  | _ => false
def sIte (s : Stmt) (dt : E) (d1 d2 : List S) : Bool := match s with
  | .If t b1 b2 _ => tstB t dt && okE G nE ct t dt && rS ct b1 d1 && rS ct b2 d2
  | _ => false
def sFor (s : Stmt) (t : Tg) (q : IK) (its : List E) (d1 : List S) : Bool := !ct.hot && match s with
  | .For tg iter b1 [] _ => okT ct tg t && kIter (okE G nE) ct q its tg iter && rS ct b1 d1 && notSet iter
  | _ => false
def sWhile (s : Stmt) (dt : E) (d1 : List S) : Bool := match s with
  | .While t b1 [] _ => tstB t dt && okE G nE ct t dt && rS ct b1 d1
  | _ => false
def isNonC : E → Bool
  | .c .non => true
  | _ => false
def sRet (s : Stmt) (de : E) : Bool := match s with
  | .Return (some e) _ => okE G nE ct e de
  | .Return none _ => isNonC de
  | _ => false
def sRais (s : Stmt) (C : Nat) (ds : List E) : Bool := !ct.hot && match s with
  | .Raise (some (.Call (.Name x _) (e :: es) [] _)) none _ => globB ct.sc x && decide ((x, C) ∈ ct.T.cls) && G.isX C && (e :: es).all notStar && kAll (okE G nE) ct (e :: es) ds
  | _ => false
def sTry (s : Stmt) (b : List S) (C : Nat) (i : Option Nat) (h : List S) : Bool := !ct.hot && match s with
  | .Try body [.ExceptHandler (some (.Name x _)) nm (b0 :: suite) _] [] [] _ => globB ct.sc x && decide ((x, C) ∈ ct.T.cls) && (match nm, i with
      | none, none => true
      | some n, some i => decide (ct.N[i]? = some n) && decide (ct.sc.names.lookup n = some .local)
      | _, _ => false) && rS ct body b && rS { ct with hot := true } (b0 :: suite) h
  | _ => false
def stepS (s : Stmt) (d : S) : Bool := match d with
  | .pass => sPass s
  | .ex e => sEx G nE ct s e
  | .asg t e => sAsg G nE ct s t e
  | .par i j a b => sPar G nE ct s i j a b
  | .aug i o e => sAug G nE ct s i o e
  | .setix a i e => sSetix G nE ct s a i e
  | .setfld a f e => sSetfld G nE ct s a f e
  | .app a e => sApp G nE ct s a e
  | .ext a e => sM1 G nE ct "extend" s a e
  | .updD a e => sM1 G nE ct "update" s a e
  | .popD a e => sM1 G nE ct "pop" s a e
  | .forK t j b => sForK rS ct s t j b
  | .ite t a b => sIte G nE rS ct s t a b
  | .for_ t k its b => sFor G nE rS ct s t k its b
  | .while_ t b => sWhile G nE rS ct s t b
  | .ret e => sRet G nE ct s e
  | .rais C es => sRais G nE ct s C es
  | .try_ b C i h => sTry rS ct s b C i h
  | .brk => (match s with | .Break _ => true | _ => false)
  | .cnt => (match s with | .Continue _ => true | _ => false)
  | .frz _ => false
def isFrzS : S → Bool
  | .frz _ => true
  | _ => false
end
def okSs (G : Pg) (nE : Nat) : Nat → Ct → List Stmt → List S → Bool
  | 0 => fun _ _ _ => false
  | n + 1 => fun ct ss ds => match ds with
    | [] => ss.isEmpty
    | d :: ds => if isFrzS d = true then okSs G nE n ct ss ds else match ss with
      | [] => false
      | s :: ss => stepS G nE (okSs G nE n) ct s d && okSs G nE n ct ss ds
end PD
set_option Elab.async false
set_option linter.all false
set_option maxRecDepth 100000
set_option maxHeartbeats 4000000
namespace PD
open PySem PySem.Spec PyProof.Rows L2
section
variable {G : Pg} {Φ : Nat → List PD.W → List M → Rs PD.W} {cad : Nat → Addr} {X : Cx} {ct : Ct} {k nE : Nat} {rS : Ct → List Stmt → List S → Bool}
theorem StS.tr (t : StS ct G Φ cad k X) (pn : List (Addr × Obj)) (xe : Value → Shared → Prop) (h : PassesOwn (model X.prog X.w) X.A X.env xe) : StS ct G Φ cad k (X.tr pn xe) :=
  ⟨⟨t.st.hN, t.st.sc, t.st.nd, t.st.cold, t.st.un, t.st.fnc, t.st.wd⟩, h, t.stk, t.frm, t.knd⟩
theorem StS.suite (t : StS ct G Φ cad k X) (a : Addr) (pn : List (Addr × Obj)) : StS { ct with hot := true } G Φ cad k (X.suite a pn) :=
  ⟨⟨t.st.hN, t.st.sc, t.st.nd, fun z => absurd (show true = false from z) (by decide), t.st.un, t.st.fnc, t.st.wd⟩, PassesOwn.never, t.stk, t.frm, t.knd⟩
theorem swap_comp {elt : Expr} {gs : List Comprehension} {scope : Scope} {lp py spos : Pos} {y : Str} {env : Env} (hb : env.blockKind = .function) : swapsWith (.ListComp elt gs scope lp) (some (.Name y py)) spos.line env = pure ((env.kindOf y == some .local) && (py.line == lp.line) && !inScope scope y) := by
  show (pure (env.blockKind == .function && env.kindOf y == some .local && py.line == lp.line && !(scope.names.any fun (n, k) => n == y && (k == .local || k == .cell))) : Sem Bool) = _
  rw [hb]
  rfl
variable (t : StS ct G Φ cad k X)
include t
theorem sv {e : Expr} {d : E} (h : okE G nE ct e d = true) : SEv G Φ cad X d e := okE_ok nE ct e d X t.st h
theorem sPass_ok {s : Stmt} (h : sPass s = true) : SS G Φ cad X .pass s := by
  unfold sPass at h
  split at h
  · exact s_pass
  · exact s_doc
  · cases h
theorem sEx_ok {s : Stmt} {de : E} (h : sEx G nE ct s de = true) : SS G Φ cad X (.ex de) s := by
  unfold sEx at h
  split at h
  · obtain ⟨h1, h2⟩ := bsplit h
    exact s_ex (sv t h2).1 h1
  · cases h
theorem sLc_core (cold : ct.hot = false) {y : Str} {py lp pos : Pos} {elt tg' iter : Expr} {ifs : List Expr} {z : Int} {scope : Scope} {i : Nat} {mc : Bool} {own : List Nat} {t' : Tg} {q' : IK} {its conds : List E} {d : E}
    (h : (decide (ct.N[i]? = some y) && locB ct y && kComp (okE G nE) ct (.ListComp elt [⟨tg', iter, ifs, z⟩] scope lp) own t' q' its conds d) = true) : SS G Φ cad X (.asg (.n i) (.comp mc own t' q' its conds d)) (.Assign [.Name y py] (.ListComp elt [⟨tg', iter, ifs, z⟩] scope lp) pos) := by
    obtain ⟨h, h3⟩ := bsplit h
    obtain ⟨h1, h2⟩ := bsplit h
    have hy : X.N[i]? = some y := by rw [t.st.hN]; exact of_decide_eq_true h1
    have hN : X.N.Nodup := by rw [t.st.hN]; exact t.st.nd
    have ih := fun ct e d X st => okE_ok (G := G) (Φ := Φ) (cad := cad) (k := k) nE ct e d X st
    obtain ⟨rfl, p2, p3, p4, p5, p6, p7, p8⟩ := kComp_parts t.st ih cold h3
    obtain ⟨l1, l2⟩ := locB_ok t.st h2
    have hsw := swap_comp (elt := elt) (gs := [⟨tg', iter, ifs, 0⟩]) (scope := scope) (lp := lp) (py := py) (spos := pos) (y := y) t.knd
    generalize hb : ((X.env.kindOf y == some .local) && (py.line == lp.line) && !inScope scope y) = b at hsw
    cases b with
    | true =>
      have hyl : X.env.scope.names.lookup y = some .local := by
        rw [Bool.and_eq_true, Bool.and_eq_true] at hb
        exact eq_of_beq hb.1.1
      have r := s_setLc (mc := mc) (pos := lp) (spos := pos) (py := py) (t.st.calm cold) hN hy hyl hsw p3 p2 p4 p5 p6 p7 (by rw [ownN_snd t.st ih]; exact p8)
      rw [ownN_snd t.st ih] at r
      exact r
    | false =>
      have r := r_comp (mc := mc) (pos := lp) (t.st.calm cold) hN p3 p2 p4 p5 p6 p7 (by rw [ownN_snd t.st ih]; exact p8)
      rw [ownN_snd t.st ih] at r
      exact fun W tk => (ps_asg (r W tk) (g_name hN hy l1 l2) hsw rfl rfl).imp fun D σ H h => lift_asg h
theorem sLc_ok {tg e : Expr} {q : Tg} {de : E} {pos : Pos} (h : sLc G nE ct tg e q de = true) : SS G Φ cad X (.asg q de) (.Assign [tg] e pos) := by
  unfold sLc at h
  obtain ⟨cold, h⟩ := cold_of h
  split at h
  · exact sLc_core t cold h
  · cases h
theorem sAsg_ok {s : Stmt} {q : Tg} {de : E} (h : sAsg G nE ct s q de = true) : SS G Φ cad X (.asg q de) s := by
  unfold sAsg at h
  split at h
  · rw [Bool.or_eq_true] at h
    rcases h with h | h
    · obtain ⟨h, h5⟩ := bsplit h
      obtain ⟨h, h4⟩ := bsplit h
      obtain ⟨h, h3⟩ := bsplit h
      obtain ⟨h1, h2⟩ := bsplit h
      exact s_asg (sv t h2).1 (okT_ok t.st _ _ h1) h3 h4 h5
    · exact sLc_ok t h
  · cases h
theorem two_swap {x y : Str} {px py pt pt2 : Pos} {kt k2 : Nat} {a b : Expr} (h : twoSwap ct x y px py a b = true) (h1 : notStar a = true) (h2 : notStar b = true) :
    swappedStores [.Tuple [.Name x px, .Name y py] kt pt] (.Tuple [a, b] k2 pt2) X.env = pure (some [x, y]) := by
  unfold twoSwap at h
  obtain ⟨h, h8⟩ := bsplit h
  obtain ⟨h, h7⟩ := bsplit h
  obtain ⟨h, h6⟩ := bsplit h
  obtain ⟨h, h5⟩ := bsplit h
  obtain ⟨h3, h4⟩ := bsplit h
  have kx : X.env.kindOf x = some .local := by rw [← t.st.sc] at h3; exact of_decide_eq_true h3
  have ky : X.env.kindOf y = some .local := by rw [← t.st.sc] at h4; exact of_decide_eq_true h4
  rw [Bool.not_eq_true'] at h6 h7 h8
  have ns : (([a, b] : List Expr).any fun | .Starred .. => true | _ => false) = false := by
    have st1 : ∀ {e : Expr}, notStar e = true → (match e with | .Starred .. => true | _ => false) = false := fun {e} h => by
      cases e <;> first | rfl | exact absurd h Bool.false_ne_true
    rw [List.any_cons, List.any_cons, List.any_nil, st1 h1, st1 h2]
    rfl
  have names : (([.Name x px, .Name y py] : List Expr).filterMap fun
      | .Name id pos => if (X.env.kindOf id == some .local && pos.line == px.line) = true then some id else none
      | _ => none) = [x, y] := by
    have e1 : (X.env.kindOf x == some .local && px.line == px.line) = true := by rw [kx]; simp
    have e2 : (X.env.kindOf y == some .local && py.line == px.line) = true := by rw [ky, h5]; rfl
    rw [List.filterMap_cons_some (b := x) (by show (if _ then _ else _) = _; rw [if_pos e1]), List.filterMap_cons_some (b := y) (by show (if _ then _ else _) = _; rw [if_pos e2])]
    rfl
  have dd : ([x, y] : List Str).eraseDups.length = 2 := by
    have h6' : (y == x) = false := by
      rw [Bool.eq_false_iff] at h6 ⊢
      intro z
      exact h6 (by rw [eq_of_beq z]; exact beq_self_eq_true _)
    rw [List.eraseDups_cons]
    simp [h6', List.eraseDups_cons]
  show (do
      if (!(([.Name x px, .Name y py] : List Expr).length == 2 || ([.Name x px, .Name y py] : List Expr).length == 3) || ([a, b] : List Expr).length != ([.Name x px, .Name y py] : List Expr).length || X.env.blockKind != .function) = true then return none
      if (([a, b] : List Expr).any fun | .Starred .. => true | _ => false) = true then return none
      let names := ([.Name x px, .Name y py] : List Expr).filterMap fun
        | .Name id pos => if (X.env.kindOf id == some .local && pos.line == px.line) = true then some id else none
        | _ => none
      if (names.length != ([.Name x px, .Name y py] : List Expr).length || names.eraseDups.length != names.length) = true then return none
      if ([a, b] : List Expr).all (foldedForSure 8) = true then return none
      if ([a, b] : List Expr).all (constantsAlone 8) = true then unsupported "assign.tuple-of-constant-expressions:order-of-the-stores"
      return some names : Sem (Option (List Str))) = pure (some [x, y])
  rw [t.knd, ns, names, h7, h8]
  rw [if_neg (by simp), if_neg (by decide)]
  dsimp only
  rw [dd]
  rfl
theorem sPar_ok {s : Stmt} {i j : Nat} {da db : E} (h : sPar G nE ct s i j da db = true) : SS G Φ cad X (.par i j da db) s := by
  unfold sPar at h
  obtain ⟨cold, h⟩ := cold_of h
  split at h
  · obtain ⟨h, h8⟩ := bsplit h
    obtain ⟨h, h7⟩ := bsplit h
    obtain ⟨h, h6⟩ := bsplit h
    obtain ⟨h, h5⟩ := bsplit h
    obtain ⟨h, h4⟩ := bsplit h
    obtain ⟨h, h3⟩ := bsplit h
    obtain ⟨h1, h2⟩ := bsplit h
    have h4' := h4
    unfold twoSwap at h4'
    obtain ⟨h4', _⟩ := bsplit h4'
    obtain ⟨h4', _⟩ := bsplit h4'
    obtain ⟨h4', _⟩ := bsplit h4'
    obtain ⟨h4', _⟩ := bsplit h4'
    obtain ⟨lx, ly⟩ := bsplit h4'
    exact s_par (t.st.calm cold) (by rw [t.st.hN]; exact t.st.nd) (by rw [t.st.hN]; exact of_decide_eq_true h1) (by rw [t.st.hN]; exact of_decide_eq_true h2) (of_decide_eq_true h3) (by rw [t.st.sc]; exact of_decide_eq_true lx) (by rw [t.st.sc]; exact of_decide_eq_true ly) (sv t h7).1 (sv t h8).1 h5 h6 (two_swap t h4 h5 h6)
  · cases h
theorem binA_ok {op : Operator} {o : O} (h : binA op = some o) : PIp X op (rAug X.K cad o) := by
  cases op with
  | Add => cases (show some O.add = some o from h); exact ip_addP
  | Sub => cases (show some O.sub = some o from h); exact ip_subP
  | Mult => cases (show some O.mul = some o from h); exact ip_mulP
  | Mod => cases (show some O.mod = some o from h); exact ip_modP
  | _ => cases (show none = some o from h)
theorem sAug_ok {s : Stmt} {i : Nat} {o : O} {de : E} (h : sAug G nE ct s i o de = true) : SS G Φ cad X (.aug i o de) s := by
  unfold sAug at h
  split at h
  · obtain ⟨h, h4⟩ := bsplit h
    obtain ⟨h, h3⟩ := bsplit h
    obtain ⟨h1, h2⟩ := bsplit h
    obtain ⟨l1, l2⟩ := locB_ok t.st h2
    exact s_aug (by rw [t.st.hN]; exact t.st.nd) (by rw [t.st.hN]; exact of_decide_eq_true h1) l1 l2 (sv t h4).1 (binA_ok t (of_decide_eq_true h3))
  · cases h
theorem sSetix_ok {s : Stmt} {da db dc : E} (h : sSetix G nE ct s da db dc = true) : SS G Φ cad X (.setix da db dc) s := by
  unfold sSetix at h
  split at h
  · obtain ⟨h, h5⟩ := bsplit h
    obtain ⟨h, h4⟩ := bsplit h
    obtain ⟨h, h3⟩ := bsplit h
    obtain ⟨h1, h2⟩ := bsplit h
    exact s_setix h1 (by have := t.st.un; omega) (sv t h3).1 (sv t h4).1 (sv t h5).1 h2
  · cases h
theorem sSetfld_ok {s : Stmt} {da dc : E} {f : Str} (h : sSetfld G nE ct s da f dc = true) : SS G Φ cad X (.setfld da f dc) s := by
  unfold sSetfld at h
  split at h
  · obtain ⟨h, h4⟩ := bsplit h
    obtain ⟨h, h3⟩ := bsplit h
    obtain ⟨h1, h2⟩ := bsplit h
    have h1 := of_decide_eq_true h1
    subst h1
    exact s_setfld (fun C hC => t.st.wd.fld C _ hC) (sv t h3).1 (sv t h4).1 h2
  · cases h
theorem sM1_ok {m0 : Str} {s : Stmt} {da dc : E} (h : sM1 G nE ct m0 s da dc = true) : (m0 = ("extend" : Str) → SS G Φ cad X (.ext da dc) s) ∧ (m0 = ("update" : Str) → SS G Φ cad X (.updD da dc) s) ∧ (m0 = ("pop" : Str) → SS G Φ cad X (.popD da dc) s) := by
  unfold sM1 at h
  split at h
  · obtain ⟨h, h6⟩ := bsplit h
    obtain ⟨h, h5⟩ := bsplit h
    obtain ⟨h, h4⟩ := bsplit h
    obtain ⟨h, h3⟩ := bsplit h
    obtain ⟨h1, h2⟩ := bsplit h
    have h1 := of_decide_eq_true h1
    subst h1
    have ea := (sv t h5).1
    have ec := (sv t h6).1
    refine ⟨fun z => ?_, fun z => ?_, fun z => ?_⟩ <;> subst z
    · exact s_ext h2 h3 h4 ea ec
    · exact s_updD h2 h3 h4 ea ec
    · exact s_popD h2 h3 h4 ea ec
  · cases h
theorem sApp_ok {s : Stmt} {da dc : E} (h : sApp G nE ct s da dc = true) : SS G Φ cad X (.app da dc) s := by
  unfold sApp at h
  split at h
  · obtain ⟨h, h6⟩ := bsplit h
    obtain ⟨h, h5⟩ := bsplit h
    obtain ⟨h, h4⟩ := bsplit h
    obtain ⟨h, h3⟩ := bsplit h
    obtain ⟨h1, h2⟩ := bsplit h
    have h1 := of_decide_eq_true h1
    subst h1
    exact s_app h2 h3 h4 (sv t h5).1 (sv t h6).1
  · cases h
theorem sRet_ok {s : Stmt} {de : E} (h : sRet G nE ct s de = true) : SS G Φ cad X (.ret de) s := by
  unfold sRet at h
  split at h
  · exact s_ret (sv t h).1
  · have e : de = .c .non := by
      cases de with
      | c d => cases d <;> first | rfl | cases h
      | _ => cases h
    subst e
    exact s_retN
  · cases h
theorem sRais_ok {s : Stmt} {C : Nat} {ds : List E} (h : sRais G nE ct s C ds = true) : SS G Φ cad X (.rais C ds) s := by
  unfold sRais at h
  obtain ⟨cold, h⟩ := cold_of h
  split at h
  · obtain ⟨h, h5⟩ := bsplit h
    obtain ⟨h, h4⟩ := bsplit h
    obtain ⟨h, h3⟩ := bsplit h
    obtain ⟨h1, h2⟩ := bsplit h
    obtain ⟨g1, g2, g3⟩ := globB_ok t.st h1
    have ih := fun ct e d X st => okE_ok (G := G) (Φ := Φ) (cad := cad) (k := k) nE ct e d X st
    exact s_rais (t.st.calm cold) (t.st.wd.exc C h3) g1 (t.st.wd.cl _ _ (of_decide_eq_true h2)) g2 (kAll_ok t.st ih h5) h4
  · cases h
variable (ih : ∀ ct ss ds X, StS ct G Φ cad k X → rS ct ss ds = true → SSs G Φ cad X ds ss)
include ih
theorem sIte_ok {s : Stmt} {dt : E} {d1 d2 : List S} (h : sIte G nE rS ct s dt d1 d2 = true) : SS G Φ cad X (.ite dt d1 d2) s := by
  unfold sIte at h
  split at h
  · obtain ⟨h, h4⟩ := bsplit h
    obtain ⟨h, h3⟩ := bsplit h
    obtain ⟨h1, h2⟩ := bsplit h
    exact s_ite ((sv t h2).2.1 h1) (ih _ _ _ _ t h3) (ih _ _ _ _ t h4)
  · cases h
theorem sWhile_ok {s : Stmt} {dt : E} {d1 : List S} (h : sWhile G nE rS ct s dt d1 = true) : SS G Φ cad X (.while_ dt d1) s := by
  unfold sWhile at h
  split at h
  · obtain ⟨h, h3⟩ := bsplit h
    obtain ⟨h1, h2⟩ := bsplit h
    exact s_while t.own ((sv t h2).2.1 h1) (ih _ _ _ _ t h3)
  · cases h
theorem sFor_ok {s : Stmt} {q : Tg} {kk : IK} {its : List E} {d1 : List S} (h : sFor G nE rS ct s q kk its d1 = true) : SS G Φ cad X (.for_ q kk its d1) s := by
  unfold sFor at h
  obtain ⟨cold, h⟩ := cold_of h
  split at h
  · obtain ⟨h, h4⟩ := bsplit h
    obtain ⟨h, h3⟩ := bsplit h
    obtain ⟨h1, h2⟩ := bsplit h
    have ih2 := fun ct e d X st => okE_ok (G := G) (Φ := Φ) (cad := cad) (k := k) nE ct e d X st
    exact s_for t.own (t.st.calm cold) (kIter_ok t.st ih2 h2) (okT_ok t.st _ _ h1) (ih _ _ _ _ t h3) (folded_of h4)
  · cases h
theorem sForK_ok {s : Stmt} {q : Tg} {j : Nat} {d1 : List S} (h : sForK rS ct s q j d1 = true) : SS G Φ cad X (.forK q j d1) s := by
  unfold sForK at h
  obtain ⟨cold, h⟩ := cold_of h
  split at h
  · obtain ⟨h, h3⟩ := bsplit h
    obtain ⟨h1, h2⟩ := bsplit h
    obtain ⟨n1, n2, n3, n4⟩ := nmB_ok t.st h2
    exact s_forK t.own (t.st.calm cold) n1 n2 n3 n4 (okT_ok t.st _ _ h1) (ih _ _ _ _ t h3)
  · cases h
theorem sTry_core (cold : ct.hot = false) {body suite : List Stmt} {x : Str} {np p1 p2 : Pos} {nm : Option Str} {b0 : Stmt} {b : List S} {C : Nat} {i : Option Nat} {hd : List S}
    (h : (globB ct.sc x && decide ((x, C) ∈ ct.T.cls) && (match nm, i with
      | none, none => true
      | some n, some i => decide (ct.N[i]? = some n) && decide (ct.sc.names.lookup n = some .local)
      | _, _ => false) && rS ct body b && rS { ct with hot := true } (b0 :: suite) hd) = true) : SS G Φ cad X (.try_ b C i hd) (.Try body [.ExceptHandler (some (.Name x np)) nm (b0 :: suite) p1] [] [] p2) := by
  obtain ⟨h, h5⟩ := bsplit h
  obtain ⟨h, h4⟩ := bsplit h
  obtain ⟨h, h3⟩ := bsplit h
  obtain ⟨h1, h2⟩ := bsplit h
  obtain ⟨g1, g2, g3⟩ := globB_ok t.st h1
  have nx : Names X x (.ref (cad C)) := ⟨g1, g2, .inl (t.st.wd.cl _ _ (of_decide_eq_true h2))⟩
  have exm := fun C' b => t.st.wd.exm C' C b
  cases nm with
  | none =>
    cases i with
    | none =>
      exact fun W tk => (ps_tryT (tb := fun W => liftS X.K cad W (evSs G Φ b)) (ts := liftS X.K cad W0 (evSs G Φ hd)) t.stk t.frm nx tk (fun W pn xe tk' ow => ih _ _ _ _ (t.tr pn xe ow) h4 W tk') (fun a pn => ih _ _ _ _ (t.suite a pn) h5 W0 takes0)).imp fun D σ H h => lift_try exm h
    | some i => cases h3
  | some n =>
    cases i with
    | none => cases h3
    | some i =>
      have h3 : (decide (ct.N[i]? = some n) && decide (ct.sc.names.lookup n = some .local)) = true := h3
      obtain ⟨h6, h7⟩ := bsplit h3
      exact fun W tk => (ps_tryTn (tb := fun W => liftS X.K cad W (evSs G Φ b)) (ts := liftS X.K cad W0 (evSs G Φ hd)) t.stk t.frm (by rw [t.st.hN]; exact t.st.nd) (by rw [t.st.hN]; exact of_decide_eq_true h6) (show X.env.scope.names.lookup n = some .local by rw [t.st.sc]; exact of_decide_eq_true h7) nx tk
        (fun W pn xe tk' ow => ih _ _ _ _ (t.tr pn xe ow) h4 W tk') (fun a pn => ih _ _ _ _ (t.suite a pn) h5 W0 takes0)).imp fun D σ H h => lift_tryn exm h
theorem sTry_ok {s : Stmt} {b : List S} {C : Nat} {i : Option Nat} {hd : List S} (h : sTry rS ct s b C i hd = true) : SS G Φ cad X (.try_ b C i hd) s := by
  unfold sTry at h
  obtain ⟨cold, h⟩ := cold_of h
  split at h
  · exact sTry_core t ih cold h
  · cases h
theorem stepS_ok {s : Stmt} {d : S} (h : stepS G nE rS ct s d = true) : SS G Φ cad X d s := by
  cases d with
  | pass => exact sPass_ok t h
  | ex e => exact sEx_ok t h
  | asg q e => exact sAsg_ok t h
  | par i j a b => exact sPar_ok t h
  | aug i o e => exact sAug_ok t h
  | setix a i e => exact sSetix_ok t h
  | setfld a f e => exact sSetfld_ok t h
  | app a e => exact sApp_ok t h
  | ext a e => exact (sM1_ok t h).1 rfl
  | updD a e => exact (sM1_ok t h).2.1 rfl
  | popD a e => exact (sM1_ok t h).2.2 rfl
  | forK tg j b => exact sForK_ok t ih h
  | ite q a b => exact sIte_ok t ih h
  | for_ q kk its b => exact sFor_ok t ih h
  | while_ q b => exact sWhile_ok t ih h
  | ret e => exact sRet_ok t h
  | rais C es => exact sRais_ok t h
  | try_ b C i hd => exact sTry_ok t ih h
  | brk =>
    unfold stepS at h
    dsimp only at h
    split at h
    · exact s_brk
    · cases h
  | cnt =>
    unfold stepS at h
    dsimp only at h
    split at h
    · exact s_cnt
    · cases h
  | frz i => cases h
end
theorem okSs_ok {G : Pg} {Φ : Nat → List PD.W → List M → Rs PD.W} {cad : Nat → Addr} {k nE : Nat} : ∀ (n : Nat) (ct : Ct) (ss : List Stmt) (ds : List S) (X : Cx), StS ct G Φ cad k X → okSs G nE n ct ss ds = true → SSs G Φ cad X ds ss
  | 0, _, _, _, _, _, h => by cases h
  | n + 1, ct, ss, ds, X, t, h => by
    cases ds with
    | nil =>
      cases ss with
      | nil => exact ss_nil
      | cons _ _ => cases h
    | cons d ds =>
      unfold okSs at h
      dsimp only at h
      by_cases hf : isFrzS d = true
      · rw [if_pos hf] at h
        cases d with
        | frz i => exact ss_frz (okSs_ok n ct ss ds X t h)
        | _ => cases hf
      · rw [if_neg hf] at h
        cases ss with
        | nil => cases h
        | cons s ss =>
          obtain ⟨h1, h2⟩ := bsplit h
          exact ss_cons (stepS_ok t (fun ct ss ds X t h => okSs_ok n ct ss ds X t h) h1) (okSs_ok n ct ss ds X t h2)
end PD
set_option Elab.async false
set_option linter.all false
set_option maxRecDepth 100000
set_option maxHeartbeats 4000000
namespace PD
open PySem PySem.Spec PyProof.Rows L2
def BindP (params : Arguments) (ps : List Str) : Prop := ∀ (x qual : Str) (body : List Stmt) (sc : Scope) (kV doc pm : Value) (an : Option Addr) (cdv ct : Value) (us : List Value), us.length = ps.length → bindArgs (PySem.W.fnOf x qual params body sc .none kV doc pm an cdv ct) ⟨us, []⟩ = pure (ps.zip us)
def scopeB (N ps : List Str) (sc : Scope) : Bool := (match sc.kind with | .function => true | _ => false) && !sc.isCoroutine && !sc.isGenerator && decide N.Nodup && decide (N.take ps.length = ps) && ps.all (fun x => decide (sc.names.lookup x = some .local) || decide (sc.names.lookup x = some .cell)) && sc.names.all fun y => match y.2 with | .free => false | _ => true
theorem scopeB_ok {N ps : List Str} {sc : Scope} (h : scopeB N ps sc = true) : FnScope N ps sc := by
  unfold scopeB at h
  obtain ⟨h, h7⟩ := bsplit h
  obtain ⟨h, h6⟩ := bsplit h
  obtain ⟨h, h5⟩ := bsplit h
  obtain ⟨h, h4⟩ := bsplit h
  obtain ⟨h, h3⟩ := bsplit h
  obtain ⟨h1, h2⟩ := bsplit h
  refine ⟨?_, by simpa using h2, by simpa using h3, of_decide_eq_true h4, of_decide_eq_true h5, fun x hx => ?_, fun y hy e => ?_⟩
  · split at h1
    · assumption
    · cases h1
  · have q := List.all_eq_true.mp h6 x hx
    simpa using q
  · have q := List.all_eq_true.mp h7 y hy
    rw [e] at q
    cases q
structure Fi where
  at_ : Str × Option Str
  qual : Str
  params : Arguments
  body : List Stmt
  scope : Scope
  N : List Str
  ps : List Str
  b : List S
def Fi.name (f : Fi) : Str := match f.at_.2 with
  | none => f.at_.1
  | some m => m
def Fi.d (f : Fi) : He.DefD := ⟨f.at_, f.name, f.qual, f.params, f.body, f.scope, [], []⟩
def Fi.ct (f : Fi) (T : Tab) : Ct := ⟨f.N, f.scope, f.scope, T, false⟩
def Fi.okB (T : Tab) (G : Pg) (nE nS : Nat) (f : Fi) : Bool := scopeB f.N f.ps f.scope && okSs G nE nS (f.ct T) f.body f.b
section
variable {T : Tab} {G : Pg} {cad : Nat → Addr} {nE nS : Nat} {P : Program} {w : World} {K : PySem.W.Frag} {mg : Str → Option Value} {base : Heap}
theorem fn_ok {fi : Fi} {i j k : Nat} {f : Addr} {fd : FuncData} (wd : Wd T G (call G j) cad k P w K mg base) (F : FunD K fi.name fi.qual fi.params fi.body fi.scope [] [] f fd) (hi : G.fns[i]? = some (fi.ps.length, fi.N.length, fi.b)) (ok : fi.okB T G nE nS = true) :
    FnOk P w K mg base (L2.CX P w) (k + 2) f fd fi.ps (spOf K cad (call G (j + 1) i)) := by
  obtain ⟨h1, h2⟩ := bsplit ok
  have S := scopeB_ok h1
  have ev : ∀ ws cs, call G (j + 1) i ws cs = runB G (call G j) fi.ps.length fi.N.length fi.b ws cs := fun ws cs => by
    show (match G.fns[i]? with | some (np, ns, b) => runB G (call G j) np ns b ws cs | none => .stuck) = _
    rw [hi]
  refine F.ok S (fun vs H Q E ⟨ws, cs, as, R, c, iw, p⟩ => ?_) (fun cdv A outer s H vs Q E hr ⟨ws, cs, as, R, c, iw, p⟩ => ?_)
  · rw [ev] at p
    unfold runB at p
    by_cases hl : ws.length = fi.ps.length
    · rw [← iw.length, hl]
    · rw [if_neg hl] at p
      exact p.elim
  · rw [ev] at p
    unfold runB at p
    by_cases hl : ws.length = fi.ps.length
    · rw [if_pos hl] at p
      have t : StS (fi.ct T) G (call G j) cad k (cxOf (L2.CX P w) P w K mg base fi.N fi.qual fi.scope f cdv A outer s H E) :=
        ⟨⟨rfl, rfl, S.nd, fun _ => ⟨rfl, hr⟩, by have := hr.un; show (A.deeper _).units + 100 < cLine; omega, fun _ _ => rfl, wd⟩, passes_of rfl, rfl, rfl, by show Env.blockKind (envOfC _ _ _ _ _) = _; unfold Env.blockKind; show (if fi.scope.kind.isAnnotationScope = true then ScopeKind.function else fi.scope.kind) = _; rw [S.kind]; rfl⟩
      refine ⟨_, okSs_ok nS _ _ _ _ t h2 (fun cls d _ H => E cls d H) (takes_of rfl rfl rfl rfl), ?_⟩
      refine ⟨ws.map some ++ List.replicate (fi.N.length - fi.ps.length) none, cs, as, R, ⟨?_, fun n u e => ?_, c⟩, ?_⟩
      · unfold L2.start
        rw [List.length_append, List.length_append, List.length_map, List.length_map, List.length_replicate, List.length_replicate, ← iw.length, hl]
      · have hn : n < ws.length := by
          by_cases q : n < ws.length
          · exact q
          · rw [List.getElem?_append_right (by rw [List.length_map]; omega), List.getElem?_replicate] at e
            split at e <;> cases e
        rw [List.getElem?_append_left (by rw [List.length_map]; exact hn), List.getElem?_map] at e
        have get : ∀ {ws : List PD.W} {vs : List V} {n : Nat} {u : PD.W}, IsWs K cad as R H ws vs → ws[n]? = some u → ∃ v, vs[n]? = some v ∧ IsW K cad as R H u v := fun {ws} => by
          induction ws with
          | nil => intro vs n u _ e; simp at e
          | cons w ws ih =>
            intro vs n u h e
            obtain ⟨x, r, rfl, h1, h2⟩ := h
            cases n with
            | zero => simp at e; subst e; exact ⟨x, rfl, h1⟩
            | succ n => simpa using ih h2 (by simpa using e)
        cases q : ws[n]? with
        | none => rw [q] at e; cases e
        | some u' =>
          rw [q] at e
          cases e
          obtain ⟨v, e1, h⟩ := get iw q
          refine ⟨v, ?_, h⟩
          unfold L2.start
          rw [List.getElem?_append_left (by rw [List.length_map]; exact (lt_of_get e1)), List.getElem?_map, e1]
          rfl
      · cases e : evSs G (call G j) fi.b (ws.map some ++ List.replicate (fi.N.length - fi.ps.length) none) cs with
        | stuck => rw [e] at p; exact p.elim
        | ex C ks vs' sl cs1 =>
          rw [e] at p
          exact fun cls d σ' H' as' x rel ix => p cls d H' as' x rel.cells ix
        | ok fl sl cs1 =>
          rw [e] at p
          cases fl with
          | nx => exact fun σ' H' as' x rel => p .non H' as' x rel.cells rfl
          | brk => exact p.elim
          | cnt => exact p.elim
          | ret w => exact p
    · rw [if_neg hl] at p
      exact p.elim
structure EnvF (T : Tab) (G : Pg) (fis : List Fi) (cad : Nat → Addr) (K : PySem.W.Frag) (mg : Str → Option Value) : Prop where
  fi : ∀ (i : Nat) f, fis[i]? = some f → G.fns[i]? = some (f.ps.length, f.N.length, f.b) ∧ BindP f.params f.ps
  fn : ∀ x i, (x, i) ∈ T.fns → ∃ f fi fd, fis[i]? = some fi ∧ mg x = some (.ref f) ∧ FunD K fi.name fi.qual fi.params fi.body fi.scope [] [] f fd
  cst : ∀ (i : Nat) x d, T.csts[i]? = some x → G.csts[i]? = some d → ∃ u v, mg x = some u ∧ RelV v u ∧ ∀ H F, IsD K cad H F d v
  free : ∀ x, x ∈ T.frees → mg x = none
  cl : ∀ x C, (x, C) ∈ T.cls → mg x = some (.ref (cad C))
  bt : ∀ x t, (x, t) ∈ T.bts → t < 10 ∧ x ∈ T.frees ∧ bootBuiltins x = some (.type (bty t)) ∧ x ≠ "__name__" ∧ (x == ("__debug__" : Str)) = false
  fld : ∀ C f, G.fld C f = true → Cls K (cad C) ∧ NoAttr K (cad C) f
  meth : ∀ C m i, G.meth C m = some i → m ≠ ("__init__" : Str) → Cls K (cad C) ∧ ∃ f fi fd, fis[i]? = some fi ∧ Meth K (cad C) m f ∧ FunD K fi.name fi.qual fi.params fi.body fi.scope [] [] f fd
  init : ∀ C i, G.meth C ("__init__" : Str) = some i → ∃ f fi fd, fis[i]? = some fi ∧ Mk K (cad C) f ∧ FunD K fi.name fi.qual fi.params fi.body fi.scope [] [] f fd
  isi : IsiF K cad G.isT
  new0 : ∀ C, G.new0 C = true → Mk0 K (cad C)
  exc : ∀ C, G.isX C = true → RaiseC K (cad C)
  exm : ∀ C' C b, G.sub C' C = some b → PySem.W.exmOne K (.ref (cad C')) (.ref (cad C)) = some b
  fv : ∀ x i, (x, i) ∈ T.fvs → ∃ fi fd, fis[i]? = some fi ∧ mg x = some (.ref (cad (1000000 + i))) ∧ FunD K fi.name fi.qual fi.params fi.body fi.scope [] [] (cad (1000000 + i)) fd
  fvG : ∀ i, G.fvs i = true → ∃ x, (x, i) ∈ T.fvs
theorem binds_of {fi : Fi} {f : Addr} {fd : FuncData} (b : BindP fi.params fi.ps) (F : FunD K fi.name fi.qual fi.params fi.body fi.scope [] [] f fd) : Binds K fd fi.ps [] := F.bindsN fun kV doc pm an cdv ct us hl => b _ _ _ _ kV doc pm an cdv ct us hl
theorem fn_zero {ps : List Str} {f : Addr} {fd : FuncData} {i : Nat} : FnOk P w K mg base (L2.CX P w) 0 f fd ps (spOf K cad (call G 0 i)) :=
  ⟨fun vs H Q E ⟨ws, cs, as, R, _, _, p⟩ => (show False from p).elim, fun A outer s H args us vs Q E _ _ _ _ ⟨ws, cs, as, R, _, _, p⟩ => (show False from p).elim⟩
theorem wd_of {fis : List Fi} (e : EnvF T G fis cad K mg) (ok : fis.all (Fi.okB T G nE nS) = true) : ∀ j, Wd T G (call G j) cad (2 * j) P w K mg base := by
  intro j
  have key : ∀ {fi : Fi} {i : Nat} {f : Addr} {fd : FuncData}, fis[i]? = some fi → FunD K fi.name fi.qual fi.params fi.body fi.scope [] [] f fd → FnOk P w K mg base (L2.CX P w) (2 * j) f fd fi.ps (spOf K cad (call G j i)) := by
    induction j with
    | zero => exact fun _ _ => fn_zero
    | succ j ih =>
      intro fi i f fd hi F
      have wd : Wd T G (call G j) cad (2 * j) P w K mg base := by
        refine ⟨fun x i hx => ?_, e.cst, e.free, e.cl, e.bt, e.fld, fun C m i hm hn => ?_, fun C i hm => ?_, e.isi, e.new0, e.exc, e.exm, fun x i hx => ?_, e.fvG⟩
        · obtain ⟨f, fi, fd, h1, h2, h3⟩ := e.fn x i hx
          exact ⟨f, fd, fi.ps, h2, h3.kp, binds_of (e.fi i fi h1).2 h3, ih h1 h3⟩
        · obtain ⟨cl, f, fi, fd, h1, h2, h3⟩ := e.meth C m i hm hn
          exact ⟨cl, f, fd, fi.ps, h2, binds_of (e.fi i fi h1).2 h3, ih h1 h3⟩
        · obtain ⟨f, fi, fd, h1, h2, h3⟩ := e.init C i hm
          exact ⟨f, fd, fi.ps, h2, binds_of (e.fi i fi h1).2 h3, ih h1 h3⟩
        · obtain ⟨fi, fd, h1, h2, h3⟩ := e.fv x i hx
          exact ⟨h2, h3.kp, fd, fi.ps, binds_of (e.fi i fi h1).2 h3, ih h1 h3⟩
      exact fn_ok wd F (e.fi i fi hi).1 (List.all_eq_true.mp ok fi (List.mem_of_getElem? hi))
  refine ⟨fun x i hx => ?_, e.cst, e.free, e.cl, e.bt, e.fld, fun C m i hm hn => ?_, fun C i hm => ?_, e.isi, e.new0, e.exc, e.exm, fun x i hx => ?_, e.fvG⟩
  · obtain ⟨f, fi, fd, h1, h2, h3⟩ := e.fn x i hx
    exact ⟨f, fd, fi.ps, h2, h3.kp, binds_of (e.fi i fi h1).2 h3, key h1 h3⟩
  · obtain ⟨cl, f, fi, fd, h1, h2, h3⟩ := e.meth C m i hm hn
    exact ⟨cl, f, fd, fi.ps, h2, binds_of (e.fi i fi h1).2 h3, key h1 h3⟩
  · obtain ⟨f, fi, fd, h1, h2, h3⟩ := e.init C i hm
    exact ⟨f, fd, fi.ps, h2, binds_of (e.fi i fi h1).2 h3, key h1 h3⟩
  · obtain ⟨fi, fd, h1, h2, h3⟩ := e.fv x i hx
    exact ⟨h2, h3.kp, fd, fi.ps, binds_of (e.fi i fi h1).2 h3, key h1 h3⟩
theorem law_sp {i n : Nat} {H : Hp} {a : Addr} {ns : List Int} {cs' : List M} (hS : SqL K H a (ns.map V.int)) (hc : call G n i [.d (.lst (ns.map .int))] [] = .ok (.d (.bl true)) cs') :
    spOf K cad (call G n i) [.ref a] H (fun v _ => v = .bl true) fun _ _ _ => False := by
  have hints : ∀ ns : List Int, IsDs K cad H (Av ([] : AS) []) (ns.map .int) (ns.map V.int) := fun ns => by
    induction ns with
    | nil => exact rfl
    | cons n ns ih => exact ⟨_, _, rfl, rfl, ih⟩
  refine ⟨[.d (.lst (ns.map .int))], [], [], [], ⟨rfl, fun i j a e _ => by simp at e, fun i e => by simp at e, fun i a m e _ => by simp at e, fun a h => by simp [live] at h, fun a h => by simp at h⟩, ⟨.ref a, [], rfl, ⟨a, ns.map V.int, rfl, ?_, hints ns⟩, rfl⟩, ?_⟩
  · rcases hS with h | h
    · exact .inl ⟨by simp [live], h⟩
    · exact .inr h
  · rw [hc]
    exact fun v H' as' _ _ i => i
end
end PD
set_option Elab.async false
set_option linter.all false
set_option maxRecDepth 100000
set_option maxHeartbeats 4000000
namespace PD
open PySem PySem.Spec PyProof.Rows L2
mutual
def cstB (K : PySem.W.Frag) : D → Value → Bool
  | .non, .none => true
  | .bl b, .bool c => b == c
  | .int i, .int j _ => decide (i = j)
  | .str x, .str y _ => decide (x = y)
  | .tup ds, .ref a => (match K.lookup a with
    | some ⟨.type c, _, .seq its _, _⟩ => decide (c = "tuple") && decide (its.size ≤ sizeLine) && cstBs K ds its.toList
    | _ => false)
  | .lst ds, .ref a => (match K.lookup a with
    | some ⟨.type c, none, .seq its _, _⟩ => decide (c = "list") && decide (its.size ≤ sizeLine) && cstBs K ds its.toList
    | _ => false)
  | _, _ => false
def cstBs (K : PySem.W.Frag) : List D → List Value → Bool
  | [], [] => true
  | d :: ds, u :: us => cstB K d u && cstBs K ds us
  | _, _ => false
end
section
variable {K : PySem.W.Frag} {cad : Nat → Addr}
mutual
theorem cstB_ok : ∀ (d : D) (u : Value), cstB K d u = true → ∃ v, RelV v u ∧ ∀ H F, IsD K cad H F d v
  | .non, u, h => by
    cases u with
    | none => exact ⟨.non, rfl, fun _ _ => rfl⟩
    | _ => exact absurd (show false = true from h) Bool.false_ne_true
  | .bl b, u, h => by
    cases u with
    | bool c =>
      have e : b = c := eq_of_beq (show (b == c) = true from h)
      subst e
      exact ⟨.bl b, rfl, fun _ _ => rfl⟩
    | _ => exact absurd (show false = true from h) Bool.false_ne_true
  | .int i, u, h => by
    cases u with
    | int j t =>
      have e : i = j := of_decide_eq_true h
      subst e
      exact ⟨.int i, ⟨t, rfl⟩, fun _ _ => rfl⟩
    | _ => exact absurd (show false = true from h) Bool.false_ne_true
  | .str i, u, h => by
    cases u with
    | str j t =>
      have e : i = j := of_decide_eq_true h
      subst e
      exact ⟨.str i, ⟨t, rfl⟩, fun _ _ => rfl⟩
    | _ => exact absurd (show false = true from h) Bool.false_ne_true
  | .tup ds, u, h => by
    cases u with
    | ref a =>
      have h : (match K.lookup a with
        | some ⟨.type c, _, .seq its _, _⟩ => decide (c = "tuple") && decide (its.size ≤ sizeLine) && cstBs K ds its.toList
        | _ => false) = true := h
      split at h
      · rename_i c od its n sl e
        obtain ⟨h, h3⟩ := bsplit h
        obtain ⟨h1, h2⟩ := bsplit h
        obtain ⟨vs, r, q⟩ := cstBs_ok ds its.toList h3
        have h1 := of_decide_eq_true h1
        subst h1
        exact ⟨.ref a, rfl, fun H F => ⟨a, vs, rfl, .inr ⟨_, its, n, e, rfl, rfl, of_decide_eq_true h2, r⟩, q H F⟩⟩
      · cases h
    | _ => exact absurd (show false = true from h) Bool.false_ne_true
  | .lst ds, u, h => by
    cases u with
    | ref a =>
      have h : (match K.lookup a with
        | some ⟨.type c, none, .seq its _, _⟩ => decide (c = "list") && decide (its.size ≤ sizeLine) && cstBs K ds its.toList
        | _ => false) = true := h
      split at h
      · rename_i c its n sl e
        obtain ⟨h, h3⟩ := bsplit h
        obtain ⟨h1, h2⟩ := bsplit h
        obtain ⟨vs, r, q⟩ := cstBs_ok ds its.toList h3
        have h1 := of_decide_eq_true h1
        subst h1
        exact ⟨.ref a, rfl, fun H F => ⟨a, vs, rfl, .inr ⟨_, its, n, e, rfl, rfl, rfl, of_decide_eq_true h2, r⟩, q H F⟩⟩
      · cases h
    | _ => exact absurd (show false = true from h) Bool.false_ne_true
  | .dct _ _, u, h => absurd (show false = true from h) Bool.false_ne_true
  | .obj _ _ _, u, h => absurd (show false = true from h) Bool.false_ne_true
  | .exc _ _ _, u, h => absurd (show false = true from h) Bool.false_ne_true
theorem cstBs_ok : ∀ (ds : List D) (us : List Value), cstBs K ds us = true → ∃ vs, Vals vs us ∧ ∀ H F, IsDs K cad H F ds vs
  | [], [], _ => ⟨[], .nil, fun _ _ => rfl⟩
  | [], _ :: _, h => absurd (show false = true from h) Bool.false_ne_true
  | _ :: _, [], h => absurd (show false = true from h) Bool.false_ne_true
  | d :: ds, u :: us, h => by
    obtain ⟨h1, h2⟩ := bsplit (show (cstB K d u && cstBs K ds us) = true from h)
    obtain ⟨v, r, q⟩ := cstB_ok d u h1
    obtain ⟨vs, rs, qs⟩ := cstBs_ok ds us h2
    exact ⟨v :: vs, .cons r rs, fun H F => ⟨v, vs, rfl, q H F, qs H F⟩⟩
end
end
structure Tb where
  fis : List Fi
  fnames : List (Str × Nat)
  cls : List Str
  bts : List (Str × Nat)
  csts : List (Str × D)
  frees : List Str
  meths : List (Nat × Str × Nat)
  flds : List (Nat × Str)
  subs : List (Nat × Nat × Bool)
  isTs : List (Nat × Nat × Bool)
  isXs : List Nat
  fuel : Nat
  new0s : List Nat := []
  fvs : List (Str × Nat) := []
def find2 : List (Nat × Nat × Bool) → Nat → Nat → Option Bool
  | [], _, _ => none
  | (a, b, c) :: r, x, y => if a = x ∧ b = y then some c else find2 r x y
theorem find2_mem : ∀ {l : List (Nat × Nat × Bool)} {x y : Nat} {c : Bool}, find2 l x y = some c → (x, y, c) ∈ l
  | [], _, _, _, h => by cases h
  | (a, b, c) :: r, x, y, c', h => by
    have h : (if a = x ∧ b = y then some c else find2 r x y) = some c' := h
    by_cases q : a = x ∧ b = y
    · rw [if_pos q] at h
      cases h
      rw [q.1, q.2]
      exact List.mem_cons_self
    · rw [if_neg q] at h
      exact List.mem_cons_of_mem _ (find2_mem h)
def findM : List (Nat × Str × Nat) → Nat → Str → Option Nat
  | [], _, _ => none
  | (a, b, c) :: r, x, y => if a = x ∧ b = y then some c else findM r x y
theorem findM_mem : ∀ {l : List (Nat × Str × Nat)} {x : Nat} {y : Str} {c : Nat}, findM l x y = some c → (x, y, c) ∈ l
  | [], _, _, _, h => by cases h
  | (a, b, c) :: r, x, y, c', h => by
    have h : (if a = x ∧ b = y then some c else findM r x y) = some c' := h
    by_cases q : a = x ∧ b = y
    · rw [if_pos q] at h
      cases h
      rw [q.1, q.2]
      exact List.mem_cons_self
    · rw [if_neg q] at h
      exact List.mem_cons_of_mem _ (findM_mem h)
def Tb.cn (tb : Tb) (C : Nat) : Str := if C < 1000000 then (tb.cls[C]?).getD "" else ((tb.fvs.find? fun p => decide (p.2 = C - 1000000)).map (·.1)).getD ""
def Tb.T (tb : Tb) : Tab := ⟨tb.fnames, tb.cls.zipIdx, tb.bts, tb.csts.map (·.1), tb.frees, tb.fvs⟩
def Tb.G (tb : Tb) : Pg where
  csts := tb.csts.map (·.2)
  sub := find2 tb.subs
  isT := find2 tb.isTs
  isX := fun C => tb.isXs.contains C
  fld := fun C f => tb.flds.any fun p => decide (p = (C, f))
  meth := findM tb.meths
  fns := tb.fis.map fun f => (f.ps.length, f.N.length, f.b)
  fuel := tb.fuel
  new0 := fun C => tb.new0s.contains C
  fvs := fun i => tb.fvs.any fun p => decide (p.2 = i)
def Tb.cad (tb : Tb) (K : PySem.W.Frag) (C : Nat) : Addr := He.ga K (tb.cn C)
def Tb.okB (tb : Tb) : Bool := tb.fnames.all (fun p => match tb.fis[p.2]? with
    | some f => decide (f.at_ = (p.1, none))
    | none => false) && tb.meths.all (fun p => (tb.fis[p.2.2]?).isSome) && tb.isTs.all (fun p => decide (p.1 ≠ 9)) && tb.bts.all (fun p => decide (p.2 < 10) && decide (p.1 ∈ tb.frees) && decide (p.1 ≠ "__name__") && !(p.1 == ("__debug__" : Str))) &&
  tb.fvs.all (fun p => decide (p ∈ tb.fnames) && decide (tb.cn (1000000 + p.2) = p.1)) && decide (tb.cls.length < 1000000)
def ownB (K : PySem.W.Frag) (C : Addr) : Bool := He.eqO (PySem.W.findIn K (.ref C) "__class__") (some (some (.builtin "object.__class__"))) && He.eqO (PySem.W.specialIn K (.builtin "object.__class__") "__get__") (some (some (.builtin "getset_descriptor.__get__"))) && decide (PySem.W.takesIn K (.builtin "object.__class__") = some true) && decide (PySem.W.mroIn K C (.type "object") = some true)
def excB (K : PySem.W.Frag) (C : Addr) : Bool := He.eqO (PySem.W.findIn K (.ref C) "__getattribute__") (some (some (.builtin "BaseException.__getattribute__"))) && He.eqO (PySem.W.findIn K (.ref C) "__getattr__") (some none) && decide (PySem.W.subIn K (.ref C) (.type "BaseException") = some true) && PySem.W.hasDictIn K C && ownB K C
def Tb.factB (tb : Tb) (K : PySem.W.Frag) : Bool :=
  tb.fnames.all (fun p => (He.Fa.glo p.1).ok K) && tb.cls.all (fun x => (He.Fa.glo x).ok K) && tb.frees.all (fun x => (He.Fa.free x).ok K) &&
  tb.meths.all (fun p => (if p.2.1 = ("__init__" : Str) then (He.Fa.mkr (tb.cn p.1)).ok K else (He.Fa.cls (tb.cn p.1)).ok K && (He.Fa.meth (tb.cn p.1) p.2.1).ok K) && (match tb.fis[p.2.2]? with
    | some f => decide (He.ma K (He.ga K (tb.cn p.1)) p.2.1 = He.fAd K f.at_)
    | none => false)) &&
  tb.flds.all (fun p => (He.Fa.cls (tb.cn p.1)).ok K && (He.Fa.noat (tb.cn p.1) p.2).ok K) &&
  tb.isXs.all (fun C => (He.Fa.exc (tb.cn C)).ok K) &&
  tb.subs.all (fun p => (He.Fa.exm (tb.cn p.1) (tb.cn p.2.1) p.2.2).ok K) &&
  tb.isTs.all (fun p => decide (PySem.W.kitOne K (tgV (tb.cad K) p.1) (clV (tb.cad K) p.2.1) = some p.2.2) && (if p.1 < 10 then true else if p.1 % 2 = 0 then (He.Fa.cls (tb.cn ((p.1 - 10) / 2))).ok K && ownB K (tb.cad K ((p.1 - 10) / 2)) else excB K (tb.cad K ((p.1 - 10) / 2)))) &&
  tb.csts.all (fun p => match PySem.W.nsIn K mainGlobals p.1 with
    | some (some u) => cstB K p.2 u
    | _ => false) &&
  tb.new0s.all (fun C => mk0B K (tb.cad K C))
theorem ownB_ok {K : PySem.W.Frag} {C : Addr} (c : Cls K C) (h : ownB K C = true) : OwnC K C := by
  unfold ownB at h
  obtain ⟨h, h4⟩ := bsplit h
  obtain ⟨h, h3⟩ := bsplit h
  obtain ⟨h1, h2⟩ := bsplit h
  exact ⟨c, He.eqO_ok h1, He.eqO_ok h2, of_decide_eq_true h3, of_decide_eq_true h4⟩
theorem excB_ok {K : PySem.W.Frag} {C : Addr} (h : excB K C = true) : ExcC K C := by
  unfold excB at h
  obtain ⟨h, h5⟩ := bsplit h
  obtain ⟨h, h4⟩ := bsplit h
  obtain ⟨h, h3⟩ := bsplit h
  obtain ⟨h1, h2⟩ := bsplit h
  unfold ownB at h5
  obtain ⟨h5, h9⟩ := bsplit h5
  obtain ⟨h5, h8⟩ := bsplit h5
  obtain ⟨h6, h7⟩ := bsplit h5
  exact ⟨He.eqO_ok h1, He.eqO_ok h2, of_decide_eq_true h3, h4, He.eqO_ok h6, He.eqO_ok h7, of_decide_eq_true h8, of_decide_eq_true h9⟩
def BtP (bts : List (Str × Nat)) : Prop := ∀ p ∈ bts, bootBuiltins p.1 = some (.type (bty p.2))
theorem env_of {tb : Tb} {K : PySem.W.Frag} {h : Heap} {mg : Str → Option Value} (X : K.In h) (Gn : h.Ns mainGlobals mg) (hs : tb.okB = true) (hb : tb.factB K = true) (hf : He.SaysD [] (tb.fis.map Fi.d) K) (bp : ∀ f ∈ tb.fis, BindP f.params f.ps) (bt : BtP tb.bts) :
    EnvF tb.T tb.G tb.fis (tb.cad K) K mg := by
  unfold Tb.okB at hs
  obtain ⟨hs, s6⟩ := bsplit hs
  obtain ⟨hs, s5⟩ := bsplit hs
  obtain ⟨hs, s4⟩ := bsplit hs
  obtain ⟨hs, s3⟩ := bsplit hs
  obtain ⟨s1, s2⟩ := bsplit hs
  unfold Tb.factB at hb
  obtain ⟨hb, b10⟩ := bsplit hb
  obtain ⟨hb, b9⟩ := bsplit hb
  obtain ⟨hb, b8⟩ := bsplit hb
  obtain ⟨hb, b7⟩ := bsplit hb
  obtain ⟨hb, b6⟩ := bsplit hb
  obtain ⟨hb, b5⟩ := bsplit hb
  obtain ⟨hb, b4⟩ := bsplit hb
  obtain ⟨hb, b3⟩ := bsplit hb
  obtain ⟨b1, b2⟩ := bsplit hb
  have al : ∀ {α : Type} {l : List α} {p : α → Bool}, l.all p = true → ∀ x ∈ l, p x = true := fun h => List.all_eq_true.mp h
  have defs : ∀ {i : Nat} {f : Fi}, tb.fis[i]? = some f → ∃ fd, FunD K f.name f.qual f.params f.body f.scope [] [] (He.fAd K f.at_) fd := fun {i f} e =>
    hf.def_ i (d := f.d) (by rw [List.getElem?_map, e]; rfl)
  have clsOf : ∀ C, He.ga K (tb.cn C) = tb.cad K C := fun _ => rfl
  refine ⟨fun i f e => ⟨?_, bp f (List.mem_of_getElem? e)⟩, fun x i hx => ?_, fun i x d h1 h2 => ?_, fun x hx => He.free_ok X Gn (al b3 x hx), fun x C hx => ?_, fun x t hx => ?_, fun C f hC => ?_, fun C m i hm hn => ?_, fun C i hm => ?_, ⟨fun g t b e => ?_, fun C t b e => ?_, fun C t b e => ?_, fun t => ?_⟩, fun C hC => ?_, fun C hC => ?_, fun C' C b e => ?_, fun x i hx => ?_, fun i hi => ?_⟩
  · show (tb.fis.map fun f => (f.ps.length, f.N.length, f.b))[i]? = _
    rw [List.getElem?_map, e]
    rfl
  · have q := al s1 _ hx
    dsimp only at q
    split at q
    · rename_i f e
      have ea : f.at_ = (x, none) := of_decide_eq_true q
      obtain ⟨fd, F⟩ := defs e
      rw [ea] at F
      exact ⟨He.ga K x, f, fd, e, He.glo_ok X Gn (al b1 _ hx), F⟩
    · cases q
  · have h1 : (tb.csts.map (·.1))[i]? = some x := h1
    have h2 : (tb.csts.map (·.2))[i]? = some d := h2
    rw [List.getElem?_map] at h1 h2
    cases e : tb.csts[i]? with
    | none => rw [e] at h1; cases h1
    | some p =>
      rw [e] at h1 h2
      cases h1
      cases h2
      have q := al b9 p (List.mem_of_getElem? e)
      split at q
      · rename_i u eu
        obtain ⟨v, r, hv⟩ := cstB_ok (cad := tb.cad K) _ _ q
        exact ⟨u, v, PySem.W.mg_of X Gn eu, r, hv⟩
      · cases q
  · have hx : (x, C) ∈ tb.cls.zipIdx := hx
    have q := List.mem_zipIdx_iff_getElem?.mp hx
    have hC := (List.getElem?_eq_some_iff.mp q).1
    have hn := of_decide_eq_true s6
    have e : tb.cn C = x := by unfold Tb.cn; rw [if_pos (by omega), q]; rfl
    rw [← clsOf, e]
    exact He.glo_ok X Gn (al b2 x (List.mem_of_getElem? q))
  · have q := al s4 _ hx
    dsimp only at q
    obtain ⟨q, q4⟩ := bsplit q
    obtain ⟨q, q3⟩ := bsplit q
    obtain ⟨q1, q2⟩ := bsplit q
    exact ⟨of_decide_eq_true q1, of_decide_eq_true q2, bt _ hx, of_decide_eq_true q3, by simpa using q4⟩
  · obtain ⟨p, hp, e⟩ := List.any_eq_true.mp (show (tb.flds.any fun p => decide (p = (C, f))) = true from hC)
    have e := of_decide_eq_true e
    subst e
    obtain ⟨q1, q2⟩ := bsplit (al b5 _ hp)
    exact ⟨He.cls_ok q1, He.noat_ok q2⟩
  · have hp := findM_mem hm
    have q := al b4 _ hp
    dsimp only at q
    obtain ⟨q, z⟩ := bsplit q
    rw [if_neg hn] at q
    obtain ⟨q1, q2⟩ := bsplit q
    split at z
    · rename_i f e
      have ea := of_decide_eq_true z
      obtain ⟨fd, F⟩ := defs e
      rw [← ea] at F
      exact ⟨He.cls_ok q1, _, f, fd, e, He.meth_ok q2, F⟩
    · cases z
  · have hp := findM_mem hm
    have q := al b4 _ hp
    dsimp only at q
    obtain ⟨q, z⟩ := bsplit q
    rw [if_pos rfl] at q
    split at z
    · rename_i f e
      have ea := of_decide_eq_true z
      obtain ⟨fd, F⟩ := defs e
      rw [← ea] at F
      exact ⟨_, f, fd, e, He.mkr_ok q, F⟩
    · cases z
  · exact of_decide_eq_true (bsplit (al b8 _ (find2_mem e))).1
  · have q := (bsplit (al b8 _ (find2_mem e))).2
    dsimp only at q
    rw [if_neg (by omega), if_pos (by omega), show (2 * C + 10 - 10) / 2 = C from by omega] at q
    obtain ⟨q1, q2⟩ := bsplit q
    exact ownB_ok (He.cls_ok q1) q2
  · have q := (bsplit (al b8 _ (find2_mem e))).2
    dsimp only at q
    rw [if_neg (by omega), if_neg (by omega), show (2 * C + 11 - 10) / 2 = C from by omega] at q
    exact excB_ok q
  · cases e : find2 tb.isTs 9 t with
    | none => exact e
    | some b =>
      have q := al s3 _ (find2_mem e)
      exact absurd rfl (of_decide_eq_true q)
  · have hC : C ∈ tb.new0s := by simpa [Tb.G] using hC
    exact mk0B_ok (al b10 _ hC)
  · have hC : C ∈ tb.isXs := by simpa [Tb.G] using hC
    obtain ⟨q1, q2, q3, q4⟩ := He.exc_ok (al b6 _ hC)
    exact ⟨⟨_, _, _, _, PySem.F.excBase_ValueError, q1⟩, q2, q3, q4⟩
  · exact He.exm_ok (al b7 _ (find2_mem e))
  · obtain ⟨q1, q2⟩ := bsplit (al s5 _ (show (x, i) ∈ tb.fvs from hx))
    have q1 := of_decide_eq_true q1
    have q2 := of_decide_eq_true q2
    have q := al s1 _ q1
    dsimp only at q
    split at q
    · rename_i f e
      have ea : f.at_ = (x, none) := of_decide_eq_true q
      obtain ⟨fd, F⟩ := defs e
      rw [ea] at F
      have ec : tb.cad K (1000000 + i) = He.ga K x := by
        show He.ga K (tb.cn (1000000 + i)) = _
        rw [q2]
      rw [ec]
      exact ⟨f, fd, e, He.glo_ok X Gn (al b1 _ q1), F⟩
    · cases q
  · obtain ⟨p, hp, e⟩ := List.any_eq_true.mp (show (tb.fvs.any fun p => decide (p.2 = i)) = true from hi)
    have e := of_decide_eq_true e
    subst e
    exact ⟨p.1, hp⟩
open He in
def obsPG (n : Nat) (tb : Tb) (g : Addr → Option Obj) : Bool × AlD := (tb.factB (frG g (asD g n)), obsD [] (tb.fis.map Fi.d) (frG g (asD g n)))
open He in
def hookP (n : Nat) (tb : Tb) : PySem.W.Hook where
  α := Bool × AlD
  obs := fun s => obsPG n tb s.heap.get?
  val := fun _ => (true, valD (tb.fis.map Fi.d))
  says := fun _ h => ∃ K : PySem.W.Frag, K.In h ∧ tb.factB K = true ∧ SaysD [] (tb.fis.map Fi.d) K
  of := fun _ _ e => ⟨_, frG_in, congrArg (fun z : Bool × AlD => z.1) e, congrArg (fun z : Bool × AlD => z.2) e⟩
  keeps := fun _ _ _ ⟨K, hK, c⟩ k => ⟨K, PySem.W.Frag.In.keeps hK k, c⟩
theorem obsPG_eq {n : Nat} {tb : Tb} {g : Addr → Option Obj} {s : Shared} (h : ∀ a, g a = s.heap.get? a) : obsPG n tb g = (hookP n tb).obs s := by
  have e : g = s.heap.get? := funext h
  rw [e]
  rfl
end PD
set_option Elab.async false
set_option linter.all false
set_option maxRecDepth 100000
set_option maxHeartbeats 4000000
namespace PD
open PySem PySem.Spec PyProof.Rows L2
theorem walk_P {l : PySem.W.OpenLaw} {n k : Nat} {q : Program} {loose : List Str} {XP : (Str → Option Value) → Heap → Prop} {YP : World → Heap → Prop} {d : DefRec} {CX : World → CXT} {x : Str}
    (hn : l.most = some n) (hn2 : n ≤ sizeLine) (hdf : d.params.defaults = []) (hr : Room k callerA)
    (F : ∀ (w : World) (mg : Str → Option Value) (fa : Addr) (h : Heap), YP w h → h.Ns mainGlobals mg → mg d.name = some (.ref fa) →
      ∃ (K : PySem.W.Frag) (fd : FuncData) (sp : Sp), K.In h ∧ (∀ (s : Shared) (u : Value), BindsTo s fd ⟨[u], []⟩ [(x, u)]) ∧
        (∀ (H : Hp) (a : Addr) (ns : List Int), ns.length ≤ n → (∀ z ∈ ns, Builtin.Int.intBits z ≤ 1048576) → SqL K H a (ns.map V.int) → sp [.ref a] H (fun v _ => v = .bl true) fun _ _ _ => False) ∧
        ∀ base : Heap, K.In base → base.Ns mainGlobals mg → FnOk l.prog w K mg base (CX w) k fa fd [x] sp)
    (hCX : ∀ (w : World) (H : Hp) (s : Shared) (e : Value) (s' : Shared), CX w [] H s (fun _ _ _ => False) e s' → False) :
    PySem.W.WalkO q loose XP YP l.row.toRowW d [] (fun f vs => PySem.call f vs) := by
  refine Att.attach_callB hn hdf fun w s₀ s₁ mg mb fa o pm cd doc a vs ns G Y ho hd hcd hmg hobj hints hlen hbits hg => ?_
  obtain ⟨K, fd, sp, KX, hb, hsp, hF⟩ := F w mg fa _ Y G.T.g hmg
  exact law_call KX G.T.g G.T.b G.T.builtins G.T.nolimit hg hobj hints (Nat.le_trans hlen hn2) hr hF hb (fun H hO hS => hsp H a ns hlen hbits hS) fun H e s' => hCX w H s₁ e s'
theorem noEx {P : Program} (w : World) (H : Hp) (s : Shared) (e : Value) (s' : Shared) (h : L2.CX P w [] H s (fun _ _ _ => False) e s') : False := by
  obtain ⟨_, _, _, _, _, _, _, _, _, _, _, _, z⟩ := h
  exact z.elim
theorem law_fn {tb : Tb} {nE nS i j n : Nat} {fi : Fi} {x ln : Str} {P : Program} {w : World} {K : PySem.W.Frag} {h : Heap} {mg : Str → Option Value} {fa : Addr} (hi : tb.fis[i]? = some fi) (hx : fi.ps = [x]) (hat : (ln, i) ∈ tb.fnames) (hs : tb.okB = true) (ok : tb.fis.all (Fi.okB tb.T tb.G nE nS) = true)
    (bp : ∀ f ∈ tb.fis, BindP f.params f.ps) (bt : BtP tb.bts) (law : ∀ ns : List Int, ns.length ≤ n → (∀ z ∈ ns, Builtin.Int.intBits z ≤ 1048576) → ∃ cs, call tb.G (j + 1) i [.d (.lst (ns.map .int))] [] = .ok (.d (.bl true)) cs)
    (Y : K.In h ∧ tb.factB K = true ∧ He.SaysD [] (tb.fis.map Fi.d) K) (Gn : h.Ns mainGlobals mg) (hmg : mg ln = some (.ref fa)) :
    ∃ (K : PySem.W.Frag) (fd : FuncData) (sp : Sp), K.In h ∧ (∀ (s : Shared) (u : Value), BindsTo s fd ⟨[u], []⟩ [(x, u)]) ∧
        (∀ (H : Hp) (a : Addr) (ns : List Int), ns.length ≤ n → (∀ z ∈ ns, Builtin.Int.intBits z ≤ 1048576) → SqL K H a (ns.map V.int) → sp [.ref a] H (fun v _ => v = .bl true) fun _ _ _ => False) ∧
        ∀ base : Heap, K.In base → base.Ns mainGlobals mg → FnOk P w K mg base (L2.CX P w) (2 * j + 2) fa fd [x] sp := by
  obtain ⟨KX, hB, hS⟩ := Y
  have e := env_of KX Gn hs hB hS bp bt
  obtain ⟨f, fi', fd, h1, h2, F⟩ := e.fn ln i hat
  rw [hi] at h1
  cases h1
  rw [hmg] at h2
  cases h2
  have b := (e.fi i fi hi).2
  refine ⟨K, fd, spOf K (tb.cad K) (call tb.G (j + 1) i), KX, fun s u => ?_, fun H a ns hl hb hS => ?_, fun base _ _ => ?_⟩
  · have z := FunD.bindsA (ps := fi.ps) F (fun kV doc pm an cdv ct us hl => b _ _ _ _ kV doc pm an cdv ct us hl) s [u] (by rw [hx]; rfl)
    rw [hx] at z
    exact z
  · obtain ⟨cs, hc⟩ := law ns hl hb
    exact law_sp hS hc
  · have z := fn_ok (P := P) (w := w) (base := base) (wd_of e ok j) F (e.fi i fi hi).1 (List.all_eq_true.mp ok fi (List.mem_of_getElem? hi))
    rw [hx] at z
    exact z
end PD
set_option maxRecDepth 100000
namespace PL
open PySem PD
structure Ix where
  f_common_part : Nat := 0
  f_fraction : Nat := 0
  f_add_all : Nat := 0
  f_times_all : Nat := 0
  f_cell_at : Nat := 0
  f_mix1 : Nat := 0
  f_lowest : Nat := 0
  f_pairs1 : Nat := 0
  f_is2 : Nat := 0
  f_take_off : Nat := 0
  f_share_by : Nat := 0
  f_is_below : Nat := 0
  f_is_whole : Nat := 0
  f_is_part : Nat := 0
  f_are_shares : Nat := 0
  f_fraction_text : Nat := 0
  f_number_of : Nat := 0
  f_read_fraction : Nat := 0
  f_begun : Nat := 0
  f_mix2 : Nat := 0
  f_pairs2 : Nat := 0
  f_alone_nf : Nat := 0
  f_is_name : Nat := 0
  f_is_leaf : Nat := 0
  f_many_inner : Nat := 0
  f_parts_in : Nat := 0
  f_is_tree : Nat := 0
  f_names : Nat := 0
  f_any : Nat := 0
  f_reduced : Nat := 0
  f_shares1 : Nat := 0
  f_is_up_to : Nat := 0
  f_are_values : Nat := 0
  f_are_trees : Nat := 0
  f_is_plain_row : Nat := 0
  f_inner_rows : Nat := 0
  f_count_rows : Nat := 0
  f_is_rows : Nat := 0
  f_is_helper : Nat := 0
  f_is_program : Nat := 0
  f_saying_of : Nat := 0
  f_built_of : Nat := 0
  f_two_of : Nat := 0
  f_Num___init__ : Nat := 0
  f_Box___init__ : Nat := 0
  f_Not___init__ : Nat := 0
  f_Pick___init__ : Nat := 0
  f_Two___init__ : Nat := 0
  f_Num_kind : Nat := 0
  f_Box_kind : Nat := 0
  f_Yes_kind : Nat := 0
  f_No_kind : Nat := 0
  f_Not_kind : Nat := 0
  f_Pick_kind : Nat := 0
  f_Two_kind : Nat := 0
  f_Saying_parts : Nat := 0
  f_Not_parts : Nat := 0
  f_Pick_parts : Nat := 0
  f_Two_parts : Nat := 0
  f_Two_wanted : Nat := 0
  f_Two_made : Nat := 0
  f_Same_made : Nat := 0
  f_And_wanted : Nat := 0
  f_kind13 : Nat := 0
  f_leafK : Nat := 0
  f_treeK : Nat := 0
  f_Num_tree : Nat := 0
  f_Box_tree : Nat := 0
  f_Saying_tree : Nat := 0
  f_Saying_word : Nat := 0
  f_Yes_word : Nat := 0
  f_No_word : Nat := 0
  f_Not_word : Nat := 0
  f_Pick_word : Nat := 0
  f_Plus_word : Nat := 0
  f_Minus_word : Nat := 0
  f_Times_word : Nat := 0
  f_Same_word : Nat := 0
  f_Less_word : Nat := 0
  f_And_word : Nat := 0
  f_Or_word : Nat := 0
  f_Num_written : Nat := 0
  f_Box_written : Nat := 0
  f_Saying_written : Nat := 0
  f_Not_written : Nat := 0
  f_Pick_written : Nat := 0
  f_Two_written : Nat := 0
  f_Plus_sign : Nat := 0
  f_Minus_sign : Nat := 0
  f_Times_sign : Nat := 0
  f_Same_sign : Nat := 0
  f_Less_sign : Nat := 0
  f_And_sign : Nat := 0
  f_Saying_names : Nat := 0
  f_Box_names : Nat := 0
  f_Num_value : Nat := 0
  f_Box_value : Nat := 0
  f_Yes_value : Nat := 0
  f_No_value : Nat := 0
  f_Not_value : Nat := 0
  f_Pick_value : Nat := 0
  f_Two_value : Nat := 0
  f_Plus_reckoned : Nat := 0
  f_Minus_reckoned : Nat := 0
  f_Times_reckoned : Nat := 0
  f_Same_reckoned : Nat := 0
  f_Less_reckoned : Nat := 0
  f_And_reckoned : Nat := 0
  f_Or_reckoned : Nat := 0
  f_parts12 : Nat := 0
  f_worth12 : Nat := 0
  f_same12 : Nat := 0
  f_isname10 : Nat := 0
  f_form10 : Nat := 0
  f_treeP : Nat := 0
  f_put_in : Nat := 0
  c_NoFraction : Nat := 0
  c_NoBack : Nat := 0
  c_NoDraw : Nat := 0
  c_NoName : Nat := 0
  c_NoProgram : Nat := 0
  c_NoRow : Nat := 0
  c_NoSaying : Nat := 0
  c_NoSense : Nat := 0
  c_NoStep : Nat := 0
  c_NoWay : Nat := 0
  c_TooMany : Nat := 0
  c_Num : Nat := 0
  c_Box : Nat := 0
  c_Yes : Nat := 0
  c_No : Nat := 0
  c_Not : Nat := 0
  c_Pick : Nat := 0
  c_Plus : Nat := 0
  c_Minus : Nat := 0
  c_Times : Nat := 0
  c_Same : Nat := 0
  c_Less : Nat := 0
  c_And : Nat := 0
  c_Or : Nat := 0
  k_MOST_SHARES : Nat := 0
  k_MOST_FIGURES : Nat := 0
  k_FIGURES : Nat := 0
  k_MOST_SIGNS : Nat := 0
  k_KEPT : Nat := 0
  k_LETTERS : Nat := 0
  k_MOST_NUMBER_trees : Nat := 0
  k_TWOS : Nat := 0
  k_MOST_DEEP_trees : Nat := 0
  k_MOST_PARTS : Nat := 0
  k_MOST_NUMBER_programs : Nat := 0
  k_MOST_PARAMS : Nat := 0
  k_MOST_ROUNDS : Nat := 0
  k_MOST_DEEP_programs : Nat := 0
  k_MOST_ROWS : Nat := 0
  k_MOST_HELPERS : Nat := 0
section
variable (I : Ix)
def b_common_part : List S := [
  .while_ (.op .gt [.v 1, .c (.int (0))]) [.asg (.t [.n 2, .n 3]) (.op .divmod [.v 0, .v 1]), .asg (.n 0) (.v 1), .asg (.n 1) (.v 3)],
  .ret (.v 0)]
def b_fraction : List S := [
  .ite (.op .eq [.v 1, .c (.int (0))]) [.rais I.c_NoFraction [.c (.str "nothing below")]] [],
  .asg (.n 2) (.call I.f_common_part [.op .abs [.v 0], .op .abs [.v 1]]),
  .ite (.op .lt [.v 1, .c (.int (0))]) [.asg (.n 2) (.op .neg [.v 2])] [],
  .ret (.tup [.op .fdiv [.v 0, .v 2], .op .fdiv [.v 1, .v 2]])]
def b_add_all : List S := [
  .asg (.n 1) (.c (.int (0))),
  .asg (.n 2) (.c (.int (1))),
  .for_ (.n 3) .seq [.v 0] [.asg (.t [.n 1, .n 2]) (.call I.f_fraction [.op .add [.op .mul [.v 1, .op .ix [.v 3, .c (.int (1))]], .op .mul [.op .ix [.v 3, .c (.int (0))], .v 2]], .op .mul [.v 2, .op .ix [.v 3, .c (.int (1))]]])],
  .ret (.tup [.v 1, .v 2])]
def b_times_all : List S := [
  .asg (.n 1) (.c (.int (1))),
  .asg (.n 2) (.c (.int (1))),
  .for_ (.n 3) .seq [.v 0] [.asg (.t [.n 1, .n 2]) (.call I.f_fraction [.op .mul [.v 1, .op .ix [.v 3, .c (.int (0))]], .op .mul [.v 2, .op .ix [.v 3, .c (.int (1))]]])],
  .ret (.tup [.v 1, .v 2])]
def b_cell_at : List S := [
  .ite (.op .lt [.v 1, .op .len [.v 0]]) [.ret (.op .ix [.v 0, .v 1])] [],
  .ret (.c (.int (0)))]
def b_mix1 : List S := [
  .setix (.v 0) (.c (.int (0))) (.op .mod [.op .add [.op .add [.op .mul [.op .ix [.v 0, .c (.int (0))], .c (.int (48271))], .op .mul [.v 1, .c (.int (16807))]], .c (.int (11))], .c (.int (2147483647))]),
  .ret (.op .fdiv [.op .mod [.op .mul [.op .ix [.v 0, .c (.int (0))], .op .ix [.v 0, .c (.int (0))]], .c (.int (2147483647))], .c (.int (5))])]
def b_lowest : List S := [
  .asg (.n 2) (.op .abs [.v 0]),
  .asg (.n 3) (.op .abs [.v 1]),
  .while_ (.op .ne [.v 3, .c (.int (0))]) [.par 2 3 (.v 3) (.op .mod [.v 2, .v 3])],
  .asg (.n 4) (.op .ix [.lst [.c (.int (1)), .op .neg [.c (.int (1))]], .op .int [.op .lt [.v 1, .c (.int (0))]]]),
  .ret (.tup [.op .fdiv [.op .mul [.v 4, .v 0], .v 2], .op .fdiv [.op .mul [.v 4, .v 1], .v 2]])]
def b_pairs1 : List S := [
  .asg (.n 4) (.mlst []),
  .asg (.n 5) (.mlst [.op .add [.c (.int (1)), .op .mod [.call I.f_cell_at [.v 0, .v 1], .c (.int (2147483646))]]]),
  .for_ (.n 6) .seq [.slL (.v 0) (.v 1)] [.ite (.op .lt [.op .len [.v 4], .v 2]) [.asg (.n 7) (.op .ix [.lst [.c (.int (9)), .c (.int (60)), .v 3, .v 3], .op .mod [.call I.f_mix1 [.v 5, .op .mod [.v 6, .op .pow [.c (.int (10)), .c (.int (18))]]], .c (.int (4))]]), .asg (.n 8) (.op .sub [.op .mod [.v 6, .op .add [.op .mul [.c (.int (2)), .v 7], .c (.int (1))]], .v 7]), .asg (.n 9) (.op .fdiv [.v 6, .op .add [.op .mul [.c (.int (2)), .v 7], .c (.int (1))]]), .ite (.op .lt [.v 6, .op .pow [.c (.int (10)), .c (.int (18))]]) [.asg (.n 9) (.op .add [.v 9, .op .mul [.call I.f_mix1 [.v 5, .op .mod [.v 8, .op .pow [.c (.int (10)), .c (.int (9))]]], .op .pow [.c (.int (1000000007)), .c (.int (3))]]])] [], .app (.v 4) (.tup [.v 8, .op .add [.c (.int (1)), .op .mod [.v 9, .v 7]]])] []],
  .ret (.frz (.v 4))]
def b_is2 : List S := [
  .ite (.or_ (.not_ (.op (.isi [3]) [.v 0])) (.op .ne [.op .len [.v 0], .c (.int (2))])) [.ret (.c (.bl false))] [],
  .ret (.and_ (.op .eq [.comp false [2] (.n 2) .seq [.v 0] [] (.and_ (.op (.isi [0]) [.v 2]) (.not_ (.op (.isi [1]) [.v 2]))), .lst [.c (.bl true), .c (.bl true)]]) (.op .eq [.v 0, .v 1]))]
def b_take_off : List S := [
  .ret (.call I.f_fraction [.op .sub [.op .mul [.op .ix [.v 0, .c (.int (0))], .op .ix [.v 1, .c (.int (1))]], .op .mul [.op .ix [.v 1, .c (.int (0))], .op .ix [.v 0, .c (.int (1))]]], .op .mul [.op .ix [.v 0, .c (.int (1))], .op .ix [.v 1, .c (.int (1))]]])]
def b_share_by : List S := [
  .ite (.op .eq [.op .ix [.v 1, .c (.int (0))], .c (.int (0))]) [.rais I.c_NoFraction [.c (.str "divided by nought")]] [],
  .ret (.call I.f_fraction [.op .mul [.op .ix [.v 0, .c (.int (0))], .op .ix [.v 1, .c (.int (1))]], .op .mul [.op .ix [.v 0, .c (.int (1))], .op .ix [.v 1, .c (.int (0))]]])]
def b_is_below : List S := [
  .ret (.op .lt [.op .mul [.op .ix [.v 0, .c (.int (0))], .op .ix [.v 1, .c (.int (1))]], .op .mul [.op .ix [.v 1, .c (.int (0))], .op .ix [.v 0, .c (.int (1))]]])]
def b_is_whole : List S := [
  .ret (.and_ (.op (.isi [0]) [.v 0]) (.not_ (.op (.isi [1]) [.v 0])))]
def b_is_part : List S := [
  .ite (.or_ (.not_ (.op (.isi [3]) [.v 0])) (.or_ (.op .ne [.op .len [.v 0], .c (.int (2))]) (.not_ (.op .all [.comp false [1] (.n 1) .seq [.v 0] [] (.call I.f_is_whole [.v 1])])))) [.ret (.c (.bl false))] [],
  .ret (.and_ (.op .gt [.op .ix [.v 0, .c (.int (0))], .c (.int (0))]) (.and_ (.op .gt [.op .ix [.v 0, .c (.int (1))], .c (.int (0))]) (.op .eq [.call I.f_fraction [.op .ix [.v 0, .c (.int (0))], .op .ix [.v 0, .c (.int (1))]], .v 0])))]
def b_are_shares : List S := [
  .ite (.or_ (.not_ (.op (.isi [3]) [.v 0])) (.not_ (.chain .le .le (.c (.int (1))) (.op .len [.v 0]) (.g I.k_MOST_SHARES)))) [.ret (.c (.bl false))] [],
  .ret (.and_ (.op .all [.comp false [1] (.n 1) .seq [.v 0] [] (.call I.f_is_part [.v 1])]) (.op .eq [.call I.f_add_all [.v 0], .tup [.c (.int (1)), .c (.int (1))]]))]
def b_fraction_text : List S := [
  .ite (.op .eq [.op .ix [.v 0, .c (.int (1))], .c (.int (1))]) [.ret (.op .str [.op .ix [.v 0, .c (.int (0))]])] [],
  .ret (.op .add [.op .add [.op .str [.op .ix [.v 0, .c (.int (0))]], .c (.str "/")], .op .str [.op .ix [.v 0, .c (.int (1))]]])]
def b_number_of : List S := [
  .ite (.or_ (.not_ (.chain .le .le (.c (.int (1))) (.op .len [.v 0]) (.g I.k_MOST_FIGURES))) (.not_ (.op .all [.comp false [1] (.n 1) .str [.v 0] [] (.op .in_ [.v 1, .g I.k_FIGURES])]))) [.rais I.c_NoFraction [.c (.str "no figures")]] [],
  .ite (.and_ (.op .ne [.v 0, .c (.str "0")]) (.bm .startswith (.v 0) [.c (.str "0")])) [.rais I.c_NoFraction [.c (.str "a nought ahead")]] [],
  .ret (.op .int [.v 0])]
def b_read_fraction : List S := [
  .ite (.not_ (.op (.isi [2]) [.v 0])) [.rais I.c_NoFraction [.c (.str "no text")]] [],
  .asg (.t [.n 3, .n 4, .n 5]) (.bm .partition (.slL (.v 0) (.op .int [.bm .startswith (.v 0) [.c (.str "-")]])) [.c (.str "/")]),
  .asg (.n 1) (.call I.f_number_of [.v 3]),
  .asg (.n 2) (.c (.int (1))),
  .ite (.op .ne [.v 4, .c (.str "")]) [.asg (.n 2) (.call I.f_number_of [.v 5])] [],
  .ite (.bm .startswith (.v 0) [.c (.str "-")]) [.asg (.n 1) (.op .neg [.v 1])] [],
  .ite (.or_ (.op .eq [.v 2, .c (.int (0))]) (.op .ne [.call I.f_fraction_text [.call I.f_fraction [.v 1, .v 2]], .v 0])) [.rais I.c_NoFraction [.c (.str "not as it is written")]] [],
  .ret (.tup [.v 1, .v 2])]
def b_begun : List S := [
  .ret (.mlst [.op .add [.c (.int (1)), .op .mod [.v 0, .c (.int (2147483646))]], .op .max2 [.c (.int (0)), .op .sub [.v 0, .op .pow [.c (.int (10)), .c (.int (18))]]]])]
def b_mix2 : List S := [
  .setix (.v 0) (.c (.int (0))) (.op .mod [.op .add [.op .add [.op .mul [.op .ix [.v 0, .c (.int (0))], .c (.int (48271))], .op .mul [.v 1, .c (.int (16807))]], .c (.int (11))], .c (.int (2147483647))]),
  .ite (.op .ge [.v 1, .op .pow [.c (.int (10)), .c (.int (18))]]) [.setix (.v 0) (.c (.int (1))) (.op .sub [.v 1, .op .pow [.c (.int (10)), .c (.int (18))]])] [],
  .ite (.op .eq [.op .ix [.v 0, .c (.int (1))], .c (.int (0))]) [.ret (.op .fdiv [.op .mod [.op .mul [.op .ix [.v 0, .c (.int (0))], .op .ix [.v 0, .c (.int (0))]], .c (.int (2147483647))], .c (.int (5))])] [],
  .asg (.n 2) (.op .mod [.op .ix [.v 0, .c (.int (1))], .op .pow [.c (.int (10)), .c (.int (9))]]),
  .setix (.v 0) (.c (.int (1))) (.op .fdiv [.op .ix [.v 0, .c (.int (1))], .op .pow [.c (.int (10)), .c (.int (9))]]),
  .ret (.v 2)]
def b_pairs2 : List S := [
  .asg (.n 4) (.mlst []),
  .asg (.n 5) (.call I.f_begun [.op .mod [.call I.f_cell_at [.v 0, .v 1], .op .pow [.c (.int (10)), .c (.int (18))]]]),
  .for_ (.n 6) .seq [.slL (.v 0) (.v 1)] [.ite (.op .lt [.op .len [.v 4], .v 2]) [.asg (.n 7) (.op .ix [.lst [.c (.int (9)), .c (.int (60)), .v 3, .v 3], .op .mod [.call I.f_mix2 [.v 5, .op .mod [.v 6, .op .pow [.c (.int (10)), .c (.int (18))]]], .c (.int (4))]]), .asg (.n 8) (.op .sub [.op .mod [.v 6, .op .add [.op .mul [.c (.int (2)), .v 7], .c (.int (1))]], .v 7]), .asg (.n 9) (.op .fdiv [.v 6, .op .add [.op .mul [.c (.int (2)), .v 7], .c (.int (1))]]), .ite (.op .lt [.v 6, .op .pow [.c (.int (10)), .c (.int (18))]]) [.asg (.n 9) (.op .add [.v 9, .op .mul [.call I.f_mix2 [.v 5, .op .mod [.v 8, .op .pow [.c (.int (10)), .c (.int (9))]]], .op .pow [.c (.int (1000000007)), .c (.int (3))]]])] [], .app (.v 4) (.tup [.v 8, .op .add [.c (.int (1)), .op .mod [.v 9, .v 7]]])] []],
  .ret (.frz (.v 4))]
def b_alone_nf : List S := [
  .ite (.op (.isi [10 + I.c_NoBack, 10 + I.c_NoDraw, 10 + I.c_NoName, 10 + I.c_NoProgram, 10 + I.c_NoRow]) [.v 0]) [.ret (.c (.bl false))] [],
  .ite (.op (.isi [10 + I.c_NoSaying, 10 + I.c_NoSense, 10 + I.c_NoStep, 10 + I.c_NoWay, 10 + I.c_TooMany]) [.v 0]) [.ret (.c (.bl false))] [],
  .ret (.and_ (.op (.isi [10 + I.c_NoFraction]) [.v 0]) (.op (.isi [6]) [.v 0]))]
def b_is_name : List S := [
  .ite (.or_ (.not_ (.op (.isi [2]) [.v 0])) (.or_ (.not_ (.chain .le .le (.c (.int (1))) (.op .len [.v 0]) (.g I.k_MOST_SIGNS))) (.op .in_ [.v 0, .g I.k_KEPT]))) [.ret (.c (.bl false))] [],
  .ret (.and_ (.op .in_ [.op .ix [.v 0, .c (.int (0))], .g I.k_LETTERS]) (.op .all [.comp false [1] (.n 1) .str [.v 0] [] (.op .in_ [.v 1, .op .add [.g I.k_LETTERS, .c (.str "0123456789")]])]))]
def b_is_leaf : List S := [
  .ite (.op .in_ [.v 0, .tup [.tup [.c (.str "yes")], .tup [.c (.str "no")]]]) [.ret (.c (.bl true))] [],
  .ite (.op .ne [.op .len [.v 0], .c (.int (2))]) [.ret (.c (.bl false))] [],
  .ite (.op .eq [.op .ix [.v 0, .c (.int (0))], .c (.str "num")]) [.ret (.and_ (.op (.isi [0]) [.op .ix [.v 0, .c (.int (1))]]) (.and_ (.not_ (.op (.isi [1]) [.op .ix [.v 0, .c (.int (1))]])) (.chain .le .le (.c (.int (0))) (.op .ix [.v 0, .c (.int (1))]) (.g I.k_MOST_NUMBER_trees))))] [],
  .ret (.and_ (.op .eq [.op .ix [.v 0, .c (.int (0))], .c (.str "box")]) (.call I.f_is_name [.op .ix [.v 0, .c (.int (1))]]))]
def b_many_inner : List S := [
  .ite (.op .in_ [.v 0, .g I.k_TWOS]) [.ret (.c (.int (2)))] [],
  .ret (.bm .get2 (.dsp false [.inr "not", .inr "pick"] [.c (.int (1)), .c (.int (3))]) [.v 0, .c (.int (0))])]
def b_parts_in : List S := [
  .ite (.or_ (.not_ (.op (.isi [3]) [.v 0])) (.or_ (.op .gt [.v 1, .g I.k_MOST_DEEP_trees]) (.or_ (.op .eq [.op .len [.v 0], .c (.int (0))]) (.not_ (.op (.isi [2]) [.op .ix [.v 0, .c (.int (0))]]))))) [.ret (.op .add [.g I.k_MOST_PARTS, .c (.int (1))])] [],
  .asg (.n 2) (.call I.f_many_inner [.op .ix [.v 0, .c (.int (0))]]),
  .ite (.op .eq [.v 2, .c (.int (0))]) [.ret (.ife (.call I.f_is_leaf [.v 0]) (.c (.int (1))) (.op .add [.g I.k_MOST_PARTS, .c (.int (1))]))] [],
  .ite (.op .ne [.op .len [.v 0], .op .add [.v 2, .c (.int (1))]]) [.ret (.op .add [.g I.k_MOST_PARTS, .c (.int (1))])] [],
  .asg (.n 3) (.c (.int (1))),
  .for_ (.n 4) .seq [.slL (.v 0) (.c (.int (1)))] [.ite (.op .le [.v 3, .g I.k_MOST_PARTS]) [.aug 3 .add (.call I.f_parts_in [.v 4, .op .add [.v 1, .c (.int (1))]])] []],
  .ret (.v 3)]
def b_is_tree : List S := [
  .ret (.op .le [.call I.f_parts_in [.v 0, .c (.int (1))], .g I.k_MOST_PARTS])]
def b_names : List S := [
  .asg (.n 2) (.c (.str "abcdefghijklmnopqrstuvwxyz0123456789")),
  .asg (.n 3) (.op .add [.op .ix [.v 2, .op .mod [.call I.f_mix2 [.v 0, .c (.int (0))], .c (.int (26))]], .op .ix [.v 2, .op .add [.c (.int (26)), .op .mod [.call I.f_mix2 [.v 0, .c (.int (0))], .c (.int (10))]]]]),
  .for_ (.n 4) .range1 [.op .mod [.call I.f_mix2 [.v 0, .c (.int (0))], .c (.int (6))]] [.asg (.n 3) (.op .add [.v 3, .op .ix [.v 2, .op .mod [.call I.f_mix2 [.v 0, .c (.int (0))], .c (.int (36))]]])],
  .asg (.n 5) (.op .add [.c (.int (1)), .op .mod [.call I.f_mix2 [.v 0, .c (.int (0))], .op .len [.v 3]]]),
  .asg (.n 6) (.op .mod [.call I.f_mix2 [.v 0, .c (.int (0))], .c (.int (36))]),
  .ite (.and_ (.op .lt [.v 1, .c (.int (8))]) (.op .eq [.op .mod [.v 6, .c (.int (4))], .c (.int (1))])) [.asg (.n 7) (.op .add [.slH (.v 3) (.c (.int (2))), .op .ix [.v 3, .c (.int (0))]]), .ret (.comp false [8] (.n 8) .seq [.slH (.lst [.c (.str "1"), .op .add [.v 7, .c (.str "1")], .c (.str ""), .v 7, .c (.str "2"), .c (.str "11"), .c (.str "12")]) (.v 1)] [] (.op .add [.v 7, .v 8]))] [],
  .ret (.comp false [4] (.n 4) .range1 [.v 1] [] (.op .add [.op .add [.slH (.v 3) (.v 5), .op .ix [.v 2, .op .mod [.op .add [.v 6, .v 4], .c (.int (36))]]], .slL (.v 3) (.v 5)]))]
def b_any : List S := [
  .asg (.n 4) (.op .mod [.call I.f_mix2 [.v 0, .c (.int (0))], .c (.int (14))]),
  .ite (.or_ (.op .lt [.v 3, .c (.int (2))]) (.or_ (.op .lt [.v 2, .c (.int (4))]) (.op .lt [.v 4, .c (.int (4))]))) [.asg (.n 7) (.op .mod [.call I.f_mix2 [.v 0, .c (.int (0))], .c (.int (5))]), .ite (.op .lt [.v 7, .c (.int (2))]) [.ret (.tup [.c (.str "box"), .op .ix [.v 1, .op .mod [.call I.f_mix2 [.v 0, .c (.int (0))], .op .len [.v 1]]]])] [], .ret (.op .ix [.lst [.tup [.c (.str "num"), .op .mod [.call I.f_mix2 [.v 0, .c (.int (0))], .c (.int (16))]], .tup [.c (.str "yes")], .tup [.c (.str "no")]], .op .sub [.v 7, .c (.int (2))]])] [],
  .ite (.op .eq [.v 4, .c (.int (4))]) [.ret (.tup [.c (.str "not"), .call I.f_any [.v 0, .v 1, .op .sub [.v 2, .c (.int (1))], .op .sub [.v 3, .c (.int (1))]]])] [],
  .ite (.op .lt [.v 4, .c (.int (7))]) [.ret (.op .add [.tup [.c (.str "pick")], .op .tupOf [.comp false [8] (.n 8) .range1 [.c (.int (3))] [] (.call I.f_any [.v 0, .v 1, .op .fdiv [.op .sub [.v 2, .c (.int (1))], .c (.int (3))], .op .sub [.v 3, .c (.int (1))]])]])] [],
  .asg (.n 5) (.op .ix [.lst [.c (.str "plus"), .c (.str "minus"), .c (.str "times"), .c (.str "same"), .c (.str "less"), .c (.str "and"), .c (.str "or")], .op .sub [.v 4, .c (.int (7))]]),
  .asg (.n 6) (.op .add [.c (.int (1)), .op .mod [.call I.f_mix2 [.v 0, .c (.int (0))], .op .sub [.v 2, .c (.int (2))]]]),
  .ret (.tup [.v 5, .call I.f_any [.v 0, .v 1, .v 6, .op .sub [.v 3, .c (.int (1))]], .call I.f_any [.v 0, .v 1, .op .sub [.op .sub [.v 2, .c (.int (1))], .v 6], .op .sub [.v 3, .c (.int (1))]]])]
def b_reduced : List S := [
  .par 2 3 (.op .abs [.v 0]) (.op .abs [.v 1]),
  .while_ (.op .ne [.v 3, .c (.int (0))]) [.par 2 3 (.v 3) (.op .mod [.v 2, .v 3])],
  .ite (.op .lt [.v 1, .c (.int (0))]) [.asg (.n 2) (.op .neg [.v 2])] [],
  .ret (.tup [.op .fdiv [.v 0, .v 2], .op .fdiv [.v 1, .v 2]])]
def b_shares1 : List S := [
  .asg (.n 2) (.comp false [3] (.n 3) .range1 [.v 1] [] (.op .add [.c (.int (1)), .op .mod [.call I.f_mix2 [.v 0, .c (.int (0))], .c (.int (5))]])),
  .ret (.op .tupOf [.comp false [4] (.n 4) .seq [.v 2] [] (.call I.f_reduced [.v 4, .op .sum [.v 2]])])]
def b_is_up_to : List S := [
  .ret (.and_ (.op (.isi [0]) [.v 0]) (.and_ (.not_ (.op (.isi [1]) [.v 0])) (.chain .le .le (.c (.int (0))) (.v 0) (.v 1))))]
def b_are_values : List S := [
  .ite (.or_ (.not_ (.op (.isi [3]) [.v 0])) (.op .ne [.op .len [.v 0], .v 1])) [.ret (.c (.bl false))] [],
  .asg (.n 2) (.comp false [3] (.n 3) .seq [.v 0] [.op (.isi [1]) [.v 3]] (.v 3)),
  .ite (.and_ (.op .ne [.op .len [.v 2], .op .len [.v 0]]) (.not_ (.op .all [.comp false [3] (.n 3) .seq [.v 0] [] (.call I.f_is_up_to [.v 3, .g I.k_MOST_NUMBER_programs])]))) [.ret (.c (.bl false))] [],
  .ret (.op .eq [.op .setlen [.v 0], .op .len [.v 0]])]
def b_are_trees : List S := [
  .ret (.and_ (.op (.isi [3]) [.v 0]) (.and_ (.op .le [.op .len [.v 0], .g I.k_MOST_PARAMS]) (.op .all [.comp false [1] (.n 1) .seq [.v 0] [] (.call I.f_is_tree [.v 1])])))]
def b_is_plain_row : List S := [
  .ite (.op .eq [.op .ix [.v 0, .c (.int (0))], .c (.str "see")]) [.ret (.and_ (.op .eq [.op .len [.v 0], .c (.int (2))]) (.call I.f_is_tree [.op .ix [.v 0, .c (.int (1))]]))] [],
  .ite (.op .eq [.op .ix [.v 0, .c (.int (0))], .c (.str "set")]) [.ret (.and_ (.op .eq [.op .len [.v 0], .c (.int (3))]) (.and_ (.call I.f_is_name [.op .ix [.v 0, .c (.int (1))]]) (.call I.f_is_tree [.op .ix [.v 0, .c (.int (2))]])))] [],
  .ite (.or_ (.op .ne [.op .len [.v 0], .c (.int (4))]) (.not_ (.call I.f_is_name [.op .ix [.v 0, .c (.int (1))]]))) [.ret (.c (.bl false))] [],
  .ite (.op .eq [.op .ix [.v 0, .c (.int (0))], .c (.str "draw")]) [.ret (.and_ (.call I.f_are_shares [.op .ix [.v 0, .c (.int (3))]]) (.call I.f_are_values [.op .ix [.v 0, .c (.int (2))], .op .len [.op .ix [.v 0, .c (.int (3))]]]))] [],
  .ret (.and_ (.op .eq [.op .ix [.v 0, .c (.int (0))], .c (.str "call")]) (.and_ (.call I.f_is_name [.op .ix [.v 0, .c (.int (2))]]) (.call I.f_are_trees [.op .ix [.v 0, .c (.int (3))]])))]
def b_inner_rows : List S := [
  .ite (.and_ (.op .eq [.op .ix [.v 0, .c (.int (0))], .c (.str "if")]) (.and_ (.op .eq [.op .len [.v 0], .c (.int (4))]) (.call I.f_is_tree [.op .ix [.v 0, .c (.int (1))]]))) [.ret (.lst [.op .ix [.v 0, .c (.int (2))], .op .ix [.v 0, .c (.int (3))]])] [],
  .ite (.and_ (.op .eq [.op .ix [.v 0, .c (.int (0))], .c (.str "repeat")]) (.and_ (.op .eq [.op .len [.v 0], .c (.int (3))]) (.call I.f_is_up_to [.op .ix [.v 0, .c (.int (1))], .g I.k_MOST_ROUNDS]))) [.ret (.lst [.op .ix [.v 0, .c (.int (2))]])] [],
  .ret (.c (.non))]
def b_count_rows : List S := [
  .ite (.or_ (.not_ (.op (.isi [3]) [.v 0])) (.and_ (.op .gt [.op .len [.v 0], .c (.int (0))]) (.op .gt [.v 1, .g I.k_MOST_DEEP_programs]))) [.ret (.op .add [.g I.k_MOST_ROWS, .c (.int (1))])] [],
  .asg (.n 2) (.c (.int (0))),
  .for_ (.n 3) .seq [.v 0] [.ite (.or_ (.op .gt [.v 2, .g I.k_MOST_ROWS]) (.or_ (.not_ (.op (.isi [3]) [.v 3])) (.or_ (.op .eq [.op .len [.v 3], .c (.int (0))]) (.not_ (.op (.isi [2]) [.op .ix [.v 3, .c (.int (0))]]))))) [.ret (.op .add [.g I.k_MOST_ROWS, .c (.int (1))])] [], .aug 2 .add (.c (.int (1))), .asg (.n 4) (.call I.f_inner_rows [.v 3]), .ite (.op .notN [.v 4]) [.aug 2 .add (.op .sum [.comp false [5] (.n 5) .seq [.v 4] [] (.call I.f_count_rows [.v 5, .op .add [.v 1, .c (.int (1))]])])] [.ite (.not_ (.call I.f_is_plain_row [.v 3])) [.ret (.op .add [.g I.k_MOST_ROWS, .c (.int (1))])] []]],
  .ret (.v 2)]
def b_is_rows : List S := [
  .ret (.op .le [.call I.f_count_rows [.v 0, .c (.int (1))], .g I.k_MOST_ROWS])]
def b_is_helper : List S := [
  .ite (.or_ (.not_ (.op (.isi [3]) [.v 0])) (.or_ (.op .ne [.op .len [.v 0], .c (.int (4))]) (.not_ (.call I.f_is_name [.op .ix [.v 0, .c (.int (0))]])))) [.ret (.c (.bl false))] [],
  .asg (.n 1) (.op .ix [.v 0, .c (.int (1))]),
  .ite (.or_ (.not_ (.op (.isi [3]) [.v 1])) (.or_ (.op .gt [.op .len [.v 1], .g I.k_MOST_PARAMS]) (.not_ (.op .all [.comp false [2] (.n 2) .seq [.v 1] [] (.call I.f_is_name [.v 2])])))) [.ret (.c (.bl false))] [],
  .ret (.and_ (.call I.f_is_rows [.op .ix [.v 0, .c (.int (2))]]) (.call I.f_is_tree [.op .ix [.v 0, .c (.int (3))]]))]
def b_is_program : List S := [
  .ite (.or_ (.not_ (.op (.isi [3]) [.v 0])) (.or_ (.op .gt [.op .len [.v 0], .g I.k_MOST_HELPERS]) (.not_ (.call I.f_is_rows [.v 1])))) [.ret (.c (.bl false))] [],
  .ite (.not_ (.op .all [.comp false [2] (.n 2) .seq [.v 0] [] (.call I.f_is_helper [.v 2])])) [.ret (.c (.bl false))] [],
  .ret (.op .le [.op .add [.call I.f_count_rows [.v 1, .c (.int (1))], .op .sum [.comp false [2] (.n 2) .seq [.v 0] [] (.call I.f_count_rows [.op .ix [.v 2, .c (.int (2))], .c (.int (1))])]], .g I.k_MOST_ROWS])]
def b_saying_of : List S := [
  .ite (.not_ (.call I.f_is_tree [.v 0])) [.rais I.c_NoSaying [.c (.str "no tree")]] [],
  .ret (.call I.f_built_of [.v 0])]
def b_built_of : List S := [
  .asg (.n 1) (.op .ix [.v 0, .c (.int (0))]),
  .ite (.op .eq [.v 1, .c (.str "num")]) [.ret (.frz (.make I.c_Num [.op .ix [.v 0, .c (.int (1))]]))] [],
  .ite (.op .eq [.v 1, .c (.str "box")]) [.ret (.frz (.make I.c_Box [.op .ix [.v 0, .c (.int (1))]]))] [],
  .ite (.op .eq [.v 1, .c (.str "yes")]) [.ret (.frz (.new0 I.c_Yes))] [],
  .ite (.op .eq [.v 1, .c (.str "no")]) [.ret (.frz (.new0 I.c_No))] [],
  .asg (.n 2) (.comp false [3] (.n 3) .seq [.slL (.v 0) (.c (.int (1)))] [] (.call I.f_built_of [.v 3])),
  .ite (.op .eq [.v 1, .c (.str "not")]) [.ret (.frz (.make I.c_Not [.op .ix [.v 2, .c (.int (0))]]))] [],
  .ite (.op .eq [.v 1, .c (.str "pick")]) [.ret (.frz (.make I.c_Pick [.op .ix [.v 2, .c (.int (0))], .op .ix [.v 2, .c (.int (1))], .op .ix [.v 2, .c (.int (2))]]))] [],
  .ret (.call I.f_two_of [.v 1, .op .ix [.v 2, .c (.int (0))], .op .ix [.v 2, .c (.int (1))]])]
def b_two_of : List S := [
  .ite (.op .eq [.v 0, .c (.str "plus")]) [.ret (.frz (.make I.c_Plus [.v 1, .v 2]))] [],
  .ite (.op .eq [.v 0, .c (.str "minus")]) [.ret (.frz (.make I.c_Minus [.v 1, .v 2]))] [],
  .ite (.op .eq [.v 0, .c (.str "times")]) [.ret (.frz (.make I.c_Times [.v 1, .v 2]))] [],
  .ite (.op .eq [.v 0, .c (.str "same")]) [.ret (.frz (.make I.c_Same [.v 1, .v 2]))] [],
  .ite (.op .eq [.v 0, .c (.str "less")]) [.ret (.frz (.make I.c_Less [.v 1, .v 2]))] [],
  .ite (.op .eq [.v 0, .c (.str "and")]) [.ret (.frz (.make I.c_And [.v 1, .v 2]))] [],
  .ret (.frz (.make I.c_Or [.v 1, .v 2]))]
def b_Num___init__ : List S := [
  .setfld (.v 0) "number" (.v 1)]
def b_Box___init__ : List S := [
  .setfld (.v 0) "name" (.v 1)]
def b_Not___init__ : List S := [
  .setfld (.v 0) "one" (.v 1)]
def b_Pick___init__ : List S := [
  .setfld (.v 0) "asked" (.v 1),
  .setfld (.v 0) "one" (.v 2),
  .setfld (.v 0) "other" (.v 3)]
def b_Two___init__ : List S := [
  .setfld (.v 0) "one" (.v 1),
  .setfld (.v 0) "other" (.v 2)]
def b_Num_kind : List S := [
  .ret (.c (.str "number"))]
def b_Box_kind : List S := [
  .ret (.bm .get1 (.v 1) [.fld (.v 0) "name"])]
def b_Yes_kind : List S := [
  .ret (.c (.str "truth"))]
def b_No_kind : List S := [
  .ret (.c (.str "truth"))]
def b_Not_kind : List S := [
  .ret (.ife (.op .eq [.meth (.fld (.v 0) "one") "kind" [.v 1], .c (.str "truth")]) (.c (.str "truth")) (.c (.non)))]
def b_Pick_kind : List S := [
  .asg (.n 2) (.meth (.fld (.v 0) "one") "kind" [.v 1]),
  .ite (.or_ (.op .ne [.meth (.fld (.v 0) "asked") "kind" [.v 1], .c (.str "truth")]) (.op .ne [.meth (.fld (.v 0) "other") "kind" [.v 1], .v 2])) [.ret (.c (.non))] [],
  .ret (.v 2)]
def b_Two_kind : List S := [
  .ite (.op .ne [.comp false [2] (.n 2) .seq [.meth (.v 0) "parts" []] [] (.meth (.v 2) "kind" [.v 1]), .op .mul [.lst [.meth (.v 0) "wanted" []], .c (.int (2))]]) [.ret (.c (.non))] [],
  .ret (.meth (.v 0) "made" [])]
def b_Saying_parts : List S := [
  .ret (.lst [])]
def b_Not_parts : List S := [
  .ret (.lst [.fld (.v 0) "one"])]
def b_Pick_parts : List S := [
  .ret (.lst [.fld (.v 0) "asked", .fld (.v 0) "one", .fld (.v 0) "other"])]
def b_Two_parts : List S := [
  .ret (.lst [.fld (.v 0) "one", .fld (.v 0) "other"])]
def b_Two_wanted : List S := [
  .ret (.c (.str "number"))]
def b_Two_made : List S := [
  .ret (.c (.str "number"))]
def b_Same_made : List S := [
  .ret (.c (.str "truth"))]
def b_And_wanted : List S := [
  .ret (.c (.str "truth"))]
def b_kind13 : List S := [
  .ite (.op .eq [.op .ix [.v 0, .c (.int (0))], .c (.str "num")]) [.ret (.c (.str "number"))] [],
  .ite (.op .in_ [.op .ix [.v 0, .c (.int (0))], .tup [.c (.str "yes"), .c (.str "no")]]) [.ret (.c (.str "truth"))] [],
  .ite (.op .eq [.op .ix [.v 0, .c (.int (0))], .c (.str "box")]) [.ret (.bm .get2 (.v 1) [.op .ix [.v 0, .c (.int (1))], .c (.non)])] [],
  .asg (.n 2) (.comp false [4] (.n 4) .seq [.slL (.v 0) (.c (.int (1)))] [] (.call I.f_kind13 [.v 4, .v 1])),
  .ite (.op .eq [.op .ix [.v 0, .c (.int (0))], .c (.str "pick")]) [.ret (.ife (.and_ (.op .eq [.op .ix [.v 2, .c (.int (0))], .c (.str "truth")]) (.op .eq [.op .ix [.v 2, .c (.int (1))], .op .ix [.v 2, .c (.int (2))]])) (.op .ix [.v 2, .c (.int (1))]) (.c (.non)))] [],
  .asg (.n 3) (.op .ix [.lst [.c (.str "number"), .c (.str "truth")], .op .int [.op .in_ [.op .ix [.v 0, .c (.int (0))], .tup [.c (.str "and"), .c (.str "or"), .c (.str "not")]]]]),
  .ite (.op .ne [.comp false [5] (.n 5) .seq [.v 2] [.op .ne [.v 5, .v 3]] (.v 5), .lst []]) [.ret (.c (.non))] [],
  .ret (.op .ix [.lst [.c (.str "number"), .c (.str "truth")], .op .int [.op .notin [.op .ix [.v 0, .c (.int (0))], .tup [.c (.str "plus"), .c (.str "minus"), .c (.str "times")]]]])]
def b_leafK : List S := [
  .asg (.n 3) (.op .sorted [.comp false [4] (.n 4) .keys [.v 1] [.op .eq [.op .ix [.v 1, .v 4], .v 2]] (.v 4)]),
  .ite (.and_ (.op .ne [.v 3, .lst []]) (.op .gt [.op .mod [.call I.f_mix2 [.v 0, .c (.int (0))], .c (.int (4))], .c (.int (0))])) [.ret (.tup [.c (.str "box"), .op .ix [.v 3, .op .mod [.call I.f_mix2 [.v 0, .c (.int (0))], .op .len [.v 3]]]])] [],
  .ite (.op .eq [.v 2, .c (.str "truth")]) [.ret (.op .ix [.lst [.tup [.c (.str "yes")], .tup [.c (.str "no")]], .op .mod [.call I.f_mix2 [.v 0, .c (.int (0))], .c (.int (2))]])] [],
  .ret (.tup [.c (.str "num"), .op .mod [.call I.f_mix2 [.v 0, .c (.int (0))], .op .ix [.lst [.c (.int (3)), .c (.int (16))], .op .mod [.call I.f_mix2 [.v 0, .c (.int (0))], .c (.int (2))]]]])]
def b_treeK : List S := [
  .asg (.n 4) (.op .mod [.call I.f_mix2 [.v 0, .c (.int (0))], .c (.int (10))]),
  .ite (.or_ (.op .eq [.v 3, .c (.int (0))]) (.op .lt [.v 4, .c (.int (3))])) [.ret (.call I.f_leafK [.v 0, .v 1, .v 2])] [],
  .ite (.op .eq [.v 4, .c (.int (3))]) [.asg (.n 5) (.call I.f_treeK [.v 0, .v 1, .c (.str "truth"), .op .sub [.v 3, .c (.int (1))]]), .ret (.tup [.c (.str "pick"), .v 5, .call I.f_treeK [.v 0, .v 1, .v 2, .op .sub [.v 3, .c (.int (1))]], .call I.f_treeK [.v 0, .v 1, .v 2, .op .sub [.v 3, .c (.int (1))]]])] [],
  .par 6 7 (.op .ix [.lst [.c (.str "plus"), .c (.str "minus"), .c (.str "times")], .op .mod [.v 4, .c (.int (3))]]) (.c (.str "number")),
  .ite (.op .eq [.v 2, .c (.str "truth")]) [.asg (.n 6) (.op .ix [.lst [.c (.str "same"), .c (.str "less"), .c (.str "and"), .c (.str "or"), .c (.str "not"), .c (.str "same")], .op .sub [.v 4, .c (.int (4))]]), .asg (.n 7) (.op .ix [.lst [.c (.str "number"), .c (.str "truth")], .op .int [.op .in_ [.v 4, .tup [.c (.int (6)), .c (.int (7)), .c (.int (8))]]]])] [],
  .ite (.op .eq [.v 6, .c (.str "not")]) [.ret (.tup [.c (.str "not"), .call I.f_treeK [.v 0, .v 1, .c (.str "truth"), .op .sub [.v 3, .c (.int (1))]]])] [],
  .ret (.tup [.v 6, .call I.f_treeK [.v 0, .v 1, .v 7, .op .sub [.v 3, .c (.int (1))]], .call I.f_treeK [.v 0, .v 1, .v 7, .op .sub [.v 3, .c (.int (1))]]])]
def b_Num_tree : List S := [
  .ret (.tup [.c (.str "num"), .fld (.v 0) "number"])]
def b_Box_tree : List S := [
  .ret (.tup [.c (.str "box"), .fld (.v 0) "name"])]
def b_Saying_tree : List S := [
  .ret (.op .add [.tup [.meth (.v 0) "word" []], .op .tupOf [.comp false [1] (.n 1) .seq [.meth (.v 0) "parts" []] [] (.meth (.v 1) "tree" [])]])]
def b_Saying_word : List S := [
  .ret (.c (.str ""))]
def b_Yes_word : List S := [
  .ret (.c (.str "yes"))]
def b_No_word : List S := [
  .ret (.c (.str "no"))]
def b_Not_word : List S := [
  .ret (.c (.str "not"))]
def b_Pick_word : List S := [
  .ret (.c (.str "pick"))]
def b_Plus_word : List S := [
  .ret (.c (.str "plus"))]
def b_Minus_word : List S := [
  .ret (.c (.str "minus"))]
def b_Times_word : List S := [
  .ret (.c (.str "times"))]
def b_Same_word : List S := [
  .ret (.c (.str "same"))]
def b_Less_word : List S := [
  .ret (.c (.str "less"))]
def b_And_word : List S := [
  .ret (.c (.str "and"))]
def b_Or_word : List S := [
  .ret (.c (.str "or"))]
def b_Num_written : List S := [
  .ret (.op .str [.fld (.v 0) "number"])]
def b_Box_written : List S := [
  .ret (.fld (.v 0) "name")]
def b_Saying_written : List S := [
  .ret (.meth (.v 0) "word" [])]
def b_Not_written : List S := [
  .ret (.op .add [.c (.str "not "), .meth (.fld (.v 0) "one") "written" []])]
def b_Pick_written : List S := [
  .asg (.n 1) (.op .add [.op .add [.meth (.fld (.v 0) "one") "written" [], .c (.str " : ")], .meth (.fld (.v 0) "other") "written" []]),
  .ret (.op .add [.op .add [.op .add [.op .add [.c (.str "("), .meth (.fld (.v 0) "asked") "written" []], .c (.str " ? ")], .v 1], .c (.str ")")])]
def b_Two_written : List S := [
  .ret (.op .add [.op .add [.op .add [.op .add [.op .add [.op .add [.c (.str "("), .meth (.fld (.v 0) "one") "written" []], .c (.str " ")], .meth (.v 0) "sign" []], .c (.str " ")], .meth (.fld (.v 0) "other") "written" []], .c (.str ")")])]
def b_Plus_sign : List S := [
  .ret (.c (.str "+"))]
def b_Minus_sign : List S := [
  .ret (.c (.str "-"))]
def b_Times_sign : List S := [
  .ret (.c (.str "*"))]
def b_Same_sign : List S := [
  .ret (.c (.str "="))]
def b_Less_sign : List S := [
  .ret (.c (.str "<"))]
def b_And_sign : List S := [
  .ret (.meth (.v 0) "word" [])]
def b_Saying_names : List S := [
  .asg (.n 1) (.mlst []),
  .for_ (.n 2) .seq [.meth (.v 0) "parts" []] [.ext (.v 1) (.comp false [3] (.n 3) .seq [.meth (.v 2) "names" []] [.op .notin [.v 3, .v 1]] (.v 3))],
  .frz 1,
  .ret (.op .sorted [.v 1])]
def b_Box_names : List S := [
  .ret (.lst [.fld (.v 0) "name"])]
def b_Num_value : List S := [
  .ret (.fld (.v 0) "number")]
def b_Box_value : List S := [
  .ret (.op .ix [.v 1, .fld (.v 0) "name"])]
def b_Yes_value : List S := [
  .ret (.c (.bl true))]
def b_No_value : List S := [
  .ret (.c (.bl false))]
def b_Not_value : List S := [
  .ret (.not_ (.meth (.fld (.v 0) "one") "value" [.v 1]))]
def b_Pick_value : List S := [
  .ite (.meth (.fld (.v 0) "asked") "value" [.v 1]) [.ret (.meth (.fld (.v 0) "one") "value" [.v 1])] [],
  .ret (.meth (.fld (.v 0) "other") "value" [.v 1])]
def b_Two_value : List S := [
  .ret (.meth (.v 0) "reckoned" [.meth (.fld (.v 0) "one") "value" [.v 1], .meth (.fld (.v 0) "other") "value" [.v 1]])]
def b_Plus_reckoned : List S := [
  .ret (.op .mod [.op .add [.v 1, .v 2], .c (.int (16))])]
def b_Minus_reckoned : List S := [
  .ret (.op .mod [.op .sub [.v 1, .v 2], .c (.int (16))])]
def b_Times_reckoned : List S := [
  .ret (.op .mod [.op .mul [.v 1, .v 2], .c (.int (16))])]
def b_Same_reckoned : List S := [
  .ret (.op .eq [.v 1, .v 2])]
def b_Less_reckoned : List S := [
  .ret (.op .lt [.v 1, .v 2])]
def b_And_reckoned : List S := [
  .ret (.and_ (.v 1) (.v 2))]
def b_Or_reckoned : List S := [
  .ret (.or_ (.v 1) (.v 2))]
def b_parts12 : List S := [
  .asg (.n 1) (.comp false [2] (.n 2) .seq [.slL (.v 0) (.c (.int (1)))] [.op (.isi [3]) [.v 2]] (.call I.f_parts12 [.v 2])),
  .ret (.lst [.op .add [.c (.int (1)), .op .sum [.comp false [3] (.n 3) .seq [.v 1] [] (.op .ix [.v 3, .c (.int (0))])]], .op .add [.c (.int (1)), .op .max0 [.comp false [3] (.n 3) .seq [.v 1] [] (.op .ix [.v 3, .c (.int (1))])]]])]
def b_worth12 : List S := [
  .ite (.op .eq [.op .ix [.v 0, .c (.int (0))], .c (.str "num")]) [.ret (.op .ix [.v 0, .c (.int (1))])] [],
  .ite (.op .in_ [.op .ix [.v 0, .c (.int (0))], .tup [.c (.str "yes"), .c (.str "no")]]) [.ret (.op .eq [.op .ix [.v 0, .c (.int (0))], .c (.str "yes")])] [],
  .ite (.op .eq [.op .ix [.v 0, .c (.int (0))], .c (.str "box")]) [.ret (.op .ix [.v 1, .op .ix [.v 0, .c (.int (1))]])] [],
  .ite (.op .eq [.op .ix [.v 0, .c (.int (0))], .c (.str "pick")]) [.ret (.call I.f_worth12 [.op .ix [.v 0, .op .add [.c (.int (2)), .op .int [.not_ (.call I.f_worth12 [.op .ix [.v 0, .c (.int (1))], .v 1])]]], .v 1])] [],
  .asg (.n 2) (.call I.f_worth12 [.op .ix [.v 0, .c (.int (1))], .v 1]),
  .ite (.op .eq [.op .ix [.v 0, .c (.int (0))], .c (.str "not")]) [.ret (.not_ (.v 2))] [],
  .asg (.n 3) (.call I.f_worth12 [.op .ix [.v 0, .c (.int (2))], .v 1]),
  .ite (.op .in_ [.op .ix [.v 0, .c (.int (0))], .tup [.c (.str "plus"), .c (.str "minus"), .c (.str "times")]]) [.ret (.op .mod [.op .ix [.dsp false [.inr "plus", .inr "minus", .inr "times"] [.op .add [.v 2, .v 3], .op .sub [.v 2, .v 3], .op .mul [.v 2, .v 3]], .op .ix [.v 0, .c (.int (0))]], .c (.int (16))])] [],
  .ite (.op .in_ [.op .ix [.v 0, .c (.int (0))], .tup [.c (.str "same"), .c (.str "less")]]) [.ret (.op .ix [.lst [.op .eq [.v 2, .v 3], .op .lt [.v 2, .v 3]], .op .int [.op .eq [.op .ix [.v 0, .c (.int (0))], .c (.str "less")]]])] [],
  .ret (.op .ix [.lst [.and_ (.v 2) (.v 3), .or_ (.v 2) (.v 3)], .op .int [.op .eq [.op .ix [.v 0, .c (.int (0))], .c (.str "or")]]])]
def b_same12 : List S := [
  .ret (.and_ (.op .eq [.op (.isi [1]) [.v 0], .op (.isi [1]) [.v 1]]) (.and_ (.op (.isi [0]) [.v 0]) (.op .eq [.v 0, .v 1])))]
def b_isname10 : List S := [
  .asg (.n 1) (.lst [.c (.str "yes"), .c (.str "no"), .c (.str "not"), .c (.str "and"), .c (.str "or"), .c (.str "set"), .c (.str "draw"), .c (.str "see"), .c (.str "if")]),
  .asg (.n 1) (.op .add [.v 1, .lst [.c (.str "else"), .c (.str "repeat"), .c (.str "end")]]),
  .asg (.n 1) (.op .add [.v 1, .lst [.c (.str "helper"), .c (.str "give"), .c (.str "main")]]),
  .asg (.n 2) (.c (.str "abcdefghijklmnopqrstuvwxyz")),
  .ite (.or_ (.not_ (.op (.isi [2]) [.v 0])) (.or_ (.op .in_ [.v 0, .v 1]) (.or_ (.not_ (.chain .le .le (.c (.int (1))) (.op .len [.v 0]) (.c (.int (8))))) (.op .notin [.op .ix [.v 0, .c (.int (0))], .v 2])))) [.ret (.c (.bl false))] [],
  .ret (.op .eq [.op .len [.comp false [3] (.n 3) .str [.v 0] [.op .notin [.v 3, .op .add [.v 2, .c (.str "0123456789")]]] (.v 3)], .c (.int (0))])]
def b_form10 : List S := [
  .asg (.n 2) (.dsp true [.inr "num", .inr "yes", .inr "no", .inr "box", .inr "not", .inr "pick"] [.c (.int (0)), .c (.int (0)), .c (.int (0)), .c (.int (0)), .c (.int (1)), .c (.int (3))]),
  .ite (.or_ (.op .gt [.v 1, .c (.int (9))]) (.or_ (.not_ (.op (.isi [3]) [.v 0])) (.or_ (.op .eq [.op .len [.v 0], .c (.int (0))]) (.not_ (.op (.isi [2]) [.op .ix [.v 0, .c (.int (0))]]))))) [.ret (.c (.non))] [],
  .ite (.op .eq [.op .ix [.v 0, .c (.int (0))], .c (.str "num")]) [.asg (.n 4) (.and_ (.op .eq [.op .len [.v 0], .c (.int (2))]) (.and_ (.op (.isi [0]) [.op .ix [.v 0, .c (.int (1))]]) (.not_ (.op (.isi [1]) [.op .ix [.v 0, .c (.int (1))]])))), .ret (.ife (.and_ (.v 4) (.chain .le .le (.c (.int (0))) (.op .ix [.v 0, .c (.int (1))]) (.c (.int (15))))) (.lst [.c (.int (1)), .c (.int (1))]) (.c (.non)))] [],
  .ite (.op .eq [.op .ix [.v 0, .c (.int (0))], .c (.str "box")]) [.ret (.ife (.and_ (.op .eq [.op .len [.v 0], .c (.int (2))]) (.call I.f_isname10 [.op .ix [.v 0, .c (.int (1))]])) (.lst [.c (.int (1)), .c (.int (1))]) (.c (.non)))] [],
  .ite (.op .in_ [.op .ix [.v 0, .c (.int (0))], .tup [.c (.str "plus"), .c (.str "minus"), .c (.str "times"), .c (.str "same"), .c (.str "less"), .c (.str "and"), .c (.str "or")]]) [.setix (.v 2) (.op .ix [.v 0, .c (.int (0))]) (.c (.int (2)))] [],
  .frz 2,
  .ite (.or_ (.op .notin [.op .ix [.v 0, .c (.int (0))], .v 2]) (.op .ne [.op .len [.v 0], .op .add [.c (.int (1)), .op .ix [.v 2, .op .ix [.v 0, .c (.int (0))]]]])) [.ret (.c (.non))] [],
  .asg (.n 3) (.comp false [5] (.n 5) .seq [.slL (.v 0) (.c (.int (1)))] [] (.call I.f_form10 [.v 5, .op .add [.v 1, .c (.int (1))]])),
  .ite (.op .in_ [.c (.non), .v 3]) [.ret (.c (.non))] [],
  .ret (.lst [.op .add [.c (.int (1)), .op .sum [.comp false [6] (.n 6) .seq [.v 3] [] (.op .ix [.v 6, .c (.int (0))])]], .op .add [.c (.int (1)), .op .max0 [.comp false [6] (.n 6) .seq [.v 3] [] (.op .ix [.v 6, .c (.int (1))])]]])]
def b_treeP : List S := [
  .asg (.n 4) (.op .mod [.call I.f_mix2 [.v 0, .c (.int (0))], .c (.int (10))]),
  .ite (.or_ (.op .eq [.v 3, .c (.int (0))]) (.op .lt [.v 4, .c (.int (3))])) [.ret (.call I.f_leafK [.v 0, .v 1, .v 2])] [],
  .ite (.op .eq [.v 4, .c (.int (3))]) [.asg (.n 5) (.call I.f_treeP [.v 0, .v 1, .c (.str "truth"), .op .sub [.v 3, .c (.int (1))]]), .ret (.tup [.c (.str "pick"), .v 5, .call I.f_treeP [.v 0, .v 1, .v 2, .op .sub [.v 3, .c (.int (1))]], .call I.f_treeP [.v 0, .v 1, .v 2, .op .sub [.v 3, .c (.int (1))]]])] [],
  .par 6 7 (.op .ix [.lst [.c (.str "plus"), .c (.str "minus"), .c (.str "times")], .op .mod [.v 4, .c (.int (3))]]) (.c (.str "number")),
  .ite (.op .eq [.v 2, .c (.str "truth")]) [.par 6 7 (.op .ix [.lst [.c (.str "same"), .c (.str "less"), .c (.str "and"), .c (.str "or"), .c (.str "not"), .c (.str "same")], .op .sub [.v 4, .c (.int (4))]]) (.op .ix [.lst [.c (.str "number"), .c (.str "truth")], .op .int [.op .in_ [.v 4, .tup [.c (.int (6)), .c (.int (7)), .c (.int (8))]]]])] [],
  .ite (.op .eq [.v 6, .c (.str "not")]) [.ret (.tup [.c (.str "not"), .call I.f_treeP [.v 0, .v 1, .c (.str "truth"), .op .sub [.v 3, .c (.int (1))]]])] [],
  .ret (.tup [.v 6, .call I.f_treeP [.v 0, .v 1, .v 7, .op .sub [.v 3, .c (.int (1))]], .call I.f_treeP [.v 0, .v 1, .v 7, .op .sub [.v 3, .c (.int (1))]]])]
def b_put_in : List S := [
  .ite (.op .eq [.op .ix [.v 0, .c (.int (0))], .c (.str "box")]) [.ret (.bm .get2 (.v 1) [.op .ix [.v 0, .c (.int (1))], .v 0])] [],
  .ite (.op .eq [.call I.f_many_inner [.op .ix [.v 0, .c (.int (0))]], .c (.int (0))]) [.ret (.v 0)] [],
  .ret (.op .add [.tup [.op .ix [.v 0, .c (.int (0))]], .op .tupOf [.comp false [2] (.n 2) .seq [.slL (.v 0) (.c (.int (1)))] [] (.call I.f_put_in [.v 2, .v 1])]])]
end
end PL
set_option Elab.async false
set_option linter.all false
set_option maxRecDepth 100000
set_option maxHeartbeats 0
namespace Lw
open PySem PySem.Spec PyProof.Rows L2 PD
def top (i : Nat) : Stmt := PySem.Challenge.pw_chancery_k60_trees_folded.main.body.getD i (.Pass ⟨0, 0, 0, 0⟩)
def I : PL.Ix := { f_begun := 1, f_names := 2, f_mix2 := 4, f_treeP := 5, f_leafK := 10, f_saying_of := 17, f_is_tree := 21, f_built_of := 22, f_parts_in := 23, f_two_of := 24, f_many_inner := 25, f_is_leaf := 26, f_is_name := 27, f_Num___init__ := 28, f_Num_value := 29, f_Box___init__ := 30, f_Box_value := 31, f_Yes_value := 32, f_No_value := 33, f_Not___init__ := 34, f_Not_value := 35, f_Pick___init__ := 36, f_Pick_value := 37, f_Two___init__ := 38, f_Two_value := 39, f_Plus_reckoned := 40, f_Minus_reckoned := 41, f_Times_reckoned := 42, f_Same_reckoned := 43, f_Less_reckoned := 44, f_And_reckoned := 45, f_Or_reckoned := 46, c_NoSaying := 0, c_Num := 1, c_Box := 2, c_Yes := 3, c_No := 4, c_Not := 5, c_Pick := 6, c_Plus := 7, c_Minus := 8, c_Times := 9, c_Same := 10, c_Less := 11, c_And := 12, c_Or := 13, k_MOST_PARTS := 0, k_MOST_DEEP_trees := 1, k_TWOS := 2, k_MOST_NUMBER_trees := 3, k_KEPT := 4, k_MOST_SIGNS := 5, k_LETTERS := 6 }
def b0 : List S := [
  .asg (.n 1) (.call I.f_begun [.op .len [.v 0]]),
  .asg (.n 2) (.call I.f_names [.v 1, .c (.int (6))]),
  .ite (.not_ (.call 3 [.v 1, .v 2])) [.ret (.c (.bl false))] [],
  .for_ (.n 3) .seq [.v 0] [.ex (.call I.f_mix2 [.v 1, .v 3]), .ite (.not_ (.call 3 [.v 1, .v 2])) [.ret (.c (.bl false))] []],
  .ret (.c (.bl true))]
def f0 : Fi := ⟨("law", none), "law", defArgs (top 60), defBody (top 60), defScope (top 60), ["_law_script", "_law_state", "_law_names_here", "_law_cell"], ["_law_script"], b0⟩
def f1 : Fi := ⟨("_law_begun", none), "_law_begun", defArgs (top 46), defBody (top 46), defScope (top 46), ["_law_cell"], ["_law_cell"], PL.b_begun⟩
def f2 : Fi := ⟨("_law_names", none), "_law_names", defArgs (top 48), defBody (top 48), defScope (top 48), ["_law_state", "_law_many", "_law_signs", "_law_base", "_law_k", "_law_at", "_law_first", "_law_stem", "_law_tail"], ["_law_state", "_law_many"], PL.b_names I⟩
def b3 : List S := [
  .asg (.n 2) (.op .dictOf [.comp false [9] (.n 9) .range1 [.c (.int (6))] [] (.tup [.op .ix [.v 1, .v 9], .op .ix [.lst [.c (.str "number"), .c (.str "truth")], .op .fdiv [.v 9, .c (.int (3))]]])]),
  .ite (.op .eq [.op .mod [.call I.f_mix2 [.v 0, .c (.int (0))], .c (.int (3))], .c (.int (0))]) [.asg (.n 2) (.dspE [.op .ix [.v 1, .c (.int (0))], .c (.str "number"), .op .ix [.v 1, .c (.int (3))], .c (.str "truth")])] [],
  .asg (.n 3) (.call I.f_treeP [.v 0, .v 2, .op .ix [.lst [.c (.str "number"), .c (.str "truth")], .op .mod [.call I.f_mix2 [.v 0, .c (.int (0))], .c (.int (2))]], .op .add [.c (.int (1)), .op .mod [.call I.f_mix2 [.v 0, .c (.int (0))], .c (.int (3))]]]),
  .asg (.n 4) (.call 6 [.v 3]),
  .ite (.or_ (.not_ (.op (.isi [3]) [.v 4])) (.or_ (.op .ne [.v 4, .call 7 [.v 3]]) (.op .ne [.call 6 [.v 4], .v 4]))) [.ret (.c (.bl false))] [],
  .for_ (.n 5) .range1 [.c (.int (3))] [.asg (.n 6) (.call 8 [.v 0, .v 1]), .par 7 8 (.call 9 [.v 4, .v 6]) (.call 9 [.v 3, .v 6]), .ite (.or_ (.op .ne [.v 7, .v 8]) (.op .ne [.op (.isi [1]) [.v 7], .op (.isi [1]) [.v 8]])) [.ret (.c (.bl false))] []],
  .ret (.op .eq [.call 6 [.v 3], .v 4])]
def f3 : Fi := ⟨("_law_good", none), "_law_good", defArgs (top 59), defBody (top 59), defScope (top 59), ["_law_state", "_law_names_here", "_law_kinds", "_law_tree_here", "_law_found", "_law_turn", "_law_boxes_here", "_law_one", "_law_other", "_law_k"], ["_law_state", "_law_names_here"], b3⟩
def f4 : Fi := ⟨("_law_mix", none), "_law_mix", defArgs (top 47), defBody (top 47), defScope (top 47), ["_law_state", "_law_cell", "_law_found"], ["_law_state", "_law_cell"], PL.b_mix2⟩
def f5 : Fi := ⟨("_law_tree", none), "_law_tree", defArgs (top 52), defBody (top 52), defScope (top 52), ["_law_state", "_law_kinds", "_law_kind", "_law_deep", "_law_way", "_law_asked", "_law_word", "_law_inner"], ["_law_state", "_law_kinds", "_law_kind", "_law_deep"], PL.b_treeP I⟩
def b6 : List S := [
  .ite (.or_ (.call 11 [.v 0]) (.op .eq [.op .ix [.v 0, .c (.int (0))], .c (.str "box")])) [.ret (.v 0)] [],
  .ret (.call 12 [.op .add [.tup [.op .ix [.v 0, .c (.int (0))]], .op .tupOf [.comp false [1] (.n 1) .seq [.slL (.v 0) (.c (.int (1)))] [] (.call 6 [.v 1])]]])]
def f6 : Fi := ⟨("folded", none), "folded", defArgs (top 43), defBody (top 43), defScope (top 43), ["tree", "part"], ["tree"], b6⟩
def b7 : List S := [
  .ite (.op .in_ [.op .ix [.v 0, .c (.int (0))], .lst [.c (.str "num"), .c (.str "yes"), .c (.str "no"), .c (.str "box")]]) [.ret (.v 0)] [],
  .asg (.n 1) (.comp false [2] (.n 2) .seq [.slL (.v 0) (.c (.int (1)))] [] (.call 7 [.v 2])),
  .ite (.op .eq [.comp false [2] (.n 2) .seq [.v 1] [.not_ (.call 13 [.v 2])] (.v 2), .lst []]) [.ret (.call 14 [.call 9 [.op .add [.tup [.op .ix [.v 0, .c (.int (0))]], .op .tupOf [.v 1]], .c (.dct [] [])]])] [],
  .ite (.op .in_ [.op .ix [.v 0, .c (.int (0))], .lst [.c (.str "and"), .c (.str "or")]]) [.ret (.call 15 [.op .ix [.v 0, .c (.int (0))], .op .ix [.v 1, .c (.int (0))], .op .ix [.v 1, .c (.int (1))]])] [],
  .ite (.and_ (.op .eq [.op .ix [.v 0, .c (.int (0))], .c (.str "pick")]) (.or_ (.op .eq [.op .ix [.v 1, .c (.int (0))], .tup [.c (.str "yes")]]) (.op .eq [.op .ix [.v 1, .c (.int (1))], .op .ix [.v 1, .c (.int (2))]]))) [.ret (.op .ix [.v 1, .c (.int (1))])] [],
  .ite (.and_ (.op .eq [.op .ix [.v 0, .c (.int (0))], .c (.str "pick")]) (.op .eq [.op .ix [.v 1, .c (.int (0))], .tup [.c (.str "no")]])) [.ret (.op .ix [.v 1, .c (.int (2))])] [],
  .ite (.and_ (.op .eq [.op .ix [.v 0, .c (.int (0))], .c (.str "not")]) (.op .eq [.op .ix [.op .ix [.v 1, .c (.int (0))], .c (.int (0))], .c (.str "not")])) [.ret (.op .ix [.op .ix [.v 1, .c (.int (0))], .c (.int (1))])] [],
  .ret (.op .add [.tup [.op .ix [.v 0, .c (.int (0))]], .op .tupOf [.v 1]])]
def f7 : Fi := ⟨("_law_folded", none), "_law_folded", defArgs (top 57), defBody (top 57), defScope (top 57), ["_law_tree_here", "_law_parts", "_law_part"], ["_law_tree_here"], b7⟩
def b8 : List S := [
  .asg (.n 2) (.opC .dictOf [.comp false [3] (.n 3) .seq [.slH (.v 1) (.c (.int (3)))] [] (.tup [.v 3, .op .mod [.call I.f_mix2 [.v 0, .c (.int (0))], .c (.int (16))]])]),
  .updD (.v 2) (.op .dictOf [.comp false [3] (.n 3) .seq [.slL (.v 1) (.c (.int (3)))] [] (.tup [.v 3, .op .eq [.op .mod [.call I.f_mix2 [.v 0, .c (.int (0))], .c (.int (2))], .c (.int (1))]])]),
  .ret (.frz (.v 2))]
def f8 : Fi := ⟨("_law_boxes", none), "_law_boxes", defArgs (top 58), defBody (top 58), defScope (top 58), ["_law_state", "_law_names_here", "_law_boxes_here", "_law_name"], ["_law_state", "_law_names_here"], b8⟩
def b9 : List S := [
  .asg (.n 2) (.op .ix [.v 0, .c (.int (0))]),
  .ite (.op .eq [.v 2, .c (.str "num")]) [.ret (.op .ix [.v 0, .c (.int (1))])] [],
  .ite (.op .in_ [.v 2, .lst [.c (.str "yes"), .c (.str "no")]]) [.ret (.op .eq [.v 2, .c (.str "yes")])] [],
  .ite (.op .eq [.v 2, .c (.str "box")]) [.ret (.op .ix [.v 1, .op .ix [.v 0, .c (.int (1))]])] [],
  .ite (.op .eq [.v 2, .c (.str "pick")]) [.ret (.call 9 [.ife (.call 9 [.op .ix [.v 0, .c (.int (1))], .v 1]) (.op .ix [.v 0, .c (.int (2))]) (.op .ix [.v 0, .c (.int (3))]), .v 1])] [],
  .asg (.n 3) (.call 9 [.op .ix [.v 0, .c (.int (1))], .v 1]),
  .ite (.op .eq [.v 2, .c (.str "not")]) [.ret (.not_ (.v 3))] [],
  .asg (.n 4) (.call 9 [.op .ix [.v 0, .c (.int (2))], .v 1]),
  .ite (.op .in_ [.v 2, .lst [.c (.str "plus"), .c (.str "minus"), .c (.str "times")]]) [.asg (.n 5) (.ife (.op .eq [.v 2, .c (.str "plus")]) (.op .add [.v 3, .v 4]) (.ife (.op .eq [.v 2, .c (.str "minus")]) (.op .sub [.v 3, .v 4]) (.op .mul [.v 3, .v 4]))), .ret (.op .mod [.v 5, .c (.int (16))])] [],
  .ite (.op .in_ [.v 2, .lst [.c (.str "same"), .c (.str "less")]]) [.ret (.ife (.op .eq [.v 2, .c (.str "same")]) (.op .eq [.v 3, .v 4]) (.op .lt [.v 3, .v 4]))] [],
  .ret (.ife (.op .eq [.v 2, .c (.str "and")]) (.and_ (.v 3) (.v 4)) (.or_ (.v 3) (.v 4)))]
def f9 : Fi := ⟨("_law_value", none), "_law_value", defArgs (top 53), defBody (top 53), defScope (top 53), ["_law_tree_here", "_law_boxes_here", "_law_word", "_law_one", "_law_other", "_law_number"], ["_law_tree_here", "_law_boxes_here"], b9⟩
def f10 : Fi := ⟨("_law_leaf", none), "_law_leaf", defArgs (top 51), defBody (top 51), defScope (top 51), ["_law_state", "_law_kinds", "_law_kind", "_law_names_here", "_law_name"], ["_law_state", "_law_kinds", "_law_kind"], PL.b_leafK I⟩
def b11 : List S := [
  .ret (.op .in_ [.op .ix [.v 0, .c (.int (0))], .tup [.c (.str "num"), .c (.str "yes"), .c (.str "no")]])]
def f11 : Fi := ⟨("is_value", none), "is_value", defArgs (top 37), defBody (top 37), defScope (top 37), ["tree"], ["tree"], b11⟩
def b12 : List S := [
  .ite (.and_ (.op .gt [.op .len [.v 0], .c (.int (1))]) (.and_ (.op .notin [.op .ix [.v 0, .c (.int (0))], .tup [.c (.str "num"), .c (.str "box")]]) (.op .all [.comp false [1] (.n 1) .seq [.slL (.v 0) (.c (.int (1)))] [] (.call 11 [.v 1])]))) [.ret (.call 16 [.meth (.call I.f_saying_of [.v 0]) "value" [.c (.dct [] [])]])] [],
  .ite (.op .eq [.op .ix [.v 0, .c (.int (0))], .c (.str "and")]) [.ret (.call 18 [.op .ix [.v 0, .c (.int (1))], .op .ix [.v 0, .c (.int (2))]])] [],
  .ite (.op .eq [.op .ix [.v 0, .c (.int (0))], .c (.str "or")]) [.ret (.call 19 [.op .ix [.v 0, .c (.int (1))], .op .ix [.v 0, .c (.int (2))]])] [],
  .ite (.op .eq [.op .ix [.v 0, .c (.int (0))], .c (.str "pick")]) [.ret (.call 20 [.op .ix [.v 0, .c (.int (1))], .op .ix [.v 0, .c (.int (2))], .op .ix [.v 0, .c (.int (3))]])] [],
  .ite (.and_ (.op .eq [.op .ix [.v 0, .c (.int (0))], .c (.str "not")]) (.op .eq [.op .ix [.op .ix [.v 0, .c (.int (1))], .c (.int (0))], .c (.str "not")])) [.ret (.op .ix [.op .ix [.v 0, .c (.int (1))], .c (.int (1))])] [],
  .ret (.v 0)]
def f12 : Fi := ⟨("folded_part", none), "folded_part", defArgs (top 42), defBody (top 42), defScope (top 42), ["tree", "part"], ["tree"], b12⟩
def b13 : List S := [
  .ret (.op .in_ [.op .ix [.v 0, .c (.int (0))], .lst [.c (.str "num"), .c (.str "yes"), .c (.str "no")]])]
def f13 : Fi := ⟨("_law_is_atom", none), "_law_is_atom", defArgs (top 54), defBody (top 54), defScope (top 54), ["_law_tree_here"], ["_law_tree_here"], b13⟩
def b14 : List S := [
  .ite (.op (.isi [1]) [.v 0]) [.ret (.ife (.v 0) (.tup [.c (.str "yes")]) (.tup [.c (.str "no")]))] [],
  .ret (.tup [.c (.str "num"), .v 0])]
def f14 : Fi := ⟨("_law_as_tree", none), "_law_as_tree", defArgs (top 55), defBody (top 55), defScope (top 55), ["_law_value_here"], ["_law_value_here"], b14⟩
def b15 : List S := [
  .asg (.t [.n 3, .n 4]) (.ife (.op .eq [.v 0, .c (.str "and")]) (.lst [.tup [.c (.str "no")], .tup [.c (.str "yes")]]) (.lst [.tup [.c (.str "yes")], .tup [.c (.str "no")]])),
  .ite (.or_ (.op .eq [.v 1, .v 3]) (.op .eq [.v 2, .v 3])) [.ret (.v 3)] [],
  .ite (.op .eq [.v 1, .v 4]) [.ret (.v 2)] [],
  .ret (.ife (.op .eq [.v 2, .v 4]) (.v 1) (.tup [.v 0, .v 1, .v 2]))]
def f15 : Fi := ⟨("_law_joined", none), "_law_joined", defArgs (top 56), defBody (top 56), defScope (top 56), ["_law_word", "_law_one", "_law_other", "_law_end", "_law_keep"], ["_law_word", "_law_one", "_law_other"], b15⟩
def b16 : List S := [
  .ite (.op (.isB true) [.v 0]) [.ret (.tup [.c (.str "yes")])] [],
  .ite (.op (.isB false) [.v 0]) [.ret (.tup [.c (.str "no")])] [],
  .ret (.tup [.c (.str "num"), .v 0])]
def f16 : Fi := ⟨("tree_of", none), "tree_of", defArgs (top 38), defBody (top 38), defScope (top 38), ["value"], ["value"], b16⟩
def f17 : Fi := ⟨("saying_of", none), "saying_of", defArgs (top 35), defBody (top 35), defScope (top 35), ["tree"], ["tree"], PL.b_saying_of I⟩
def b18 : List S := [
  .ite (.op .in_ [.tup [.c (.str "no")], .tup [.v 0, .v 1]]) [.ret (.tup [.c (.str "no")])] [],
  .ite (.op .eq [.v 0, .tup [.c (.str "yes")]]) [.ret (.v 1)] [],
  .ret (.ife (.op .eq [.v 1, .tup [.c (.str "yes")]]) (.v 0) (.tup [.c (.str "and"), .v 0, .v 1]))]
def f18 : Fi := ⟨("folded_and", none), "folded_and", defArgs (top 39), defBody (top 39), defScope (top 39), ["one", "other"], ["one", "other"], b18⟩
def b19 : List S := [
  .ite (.op .in_ [.tup [.c (.str "yes")], .tup [.v 0, .v 1]]) [.ret (.tup [.c (.str "yes")])] [],
  .ite (.op .eq [.v 0, .tup [.c (.str "no")]]) [.ret (.v 1)] [],
  .ret (.ife (.op .eq [.v 1, .tup [.c (.str "no")]]) (.v 0) (.tup [.c (.str "or"), .v 0, .v 1]))]
def f19 : Fi := ⟨("folded_or", none), "folded_or", defArgs (top 40), defBody (top 40), defScope (top 40), ["one", "other"], ["one", "other"], b19⟩
def b20 : List S := [
  .ite (.or_ (.op .eq [.v 0, .tup [.c (.str "yes")]]) (.op .eq [.v 1, .v 2])) [.ret (.v 1)] [],
  .ret (.ife (.op .eq [.v 0, .tup [.c (.str "no")]]) (.v 2) (.tup [.c (.str "pick"), .v 0, .v 1, .v 2]))]
def f20 : Fi := ⟨("folded_pick", none), "folded_pick", defArgs (top 41), defBody (top 41), defScope (top 41), ["asked", "one", "other"], ["asked", "one", "other"], b20⟩
def f21 : Fi := ⟨("is_tree", none), "is_tree", defArgs (top 32), defBody (top 32), defScope (top 32), ["thing"], ["thing"], PL.b_is_tree I⟩
def f22 : Fi := ⟨("built_of", none), "built_of", defArgs (top 34), defBody (top 34), defScope (top 34), ["tree", "word", "parts", "part"], ["tree"], PL.b_built_of I⟩
def f23 : Fi := ⟨("parts_in", none), "parts_in", defArgs (top 31), defBody (top 31), defScope (top 31), ["thing", "deep", "many", "found", "part"], ["thing", "deep"], PL.b_parts_in I⟩
def f24 : Fi := ⟨("two_of", none), "two_of", defArgs (top 33), defBody (top 33), defScope (top 33), ["word", "one", "other"], ["word", "one", "other"], PL.b_two_of I⟩
def f25 : Fi := ⟨("many_inner", none), "many_inner", defArgs (top 30), defBody (top 30), defScope (top 30), ["word"], ["word"], PL.b_many_inner I⟩
def f26 : Fi := ⟨("is_leaf", none), "is_leaf", defArgs (top 29), defBody (top 29), defScope (top 29), ["tree"], ["tree"], PL.b_is_leaf I⟩
def f27 : Fi := ⟨("is_name", none), "is_name", defArgs (top 28), defBody (top 28), defScope (top 28), ["thing", "sign"], ["thing"], PL.b_is_name I⟩
def f28 : Fi := ⟨("Num", some "__init__"), "Num.__init__", defArgs (inClass (top 6) 0), defBody (inClass (top 6) 0), defScope (inClass (top 6) 0), ["self", "number"], ["self", "number"], PL.b_Num___init__⟩
def f29 : Fi := ⟨("Num", some "value"), "Num.value", defArgs (inClass (top 6) 3), defBody (inClass (top 6) 3), defScope (inClass (top 6) 3), ["self", "boxes"], ["self", "boxes"], PL.b_Num_value⟩
def f30 : Fi := ⟨("Box", some "__init__"), "Box.__init__", defArgs (inClass (top 9) 0), defBody (inClass (top 9) 0), defScope (inClass (top 9) 0), ["self", "name"], ["self", "name"], PL.b_Box___init__⟩
def f31 : Fi := ⟨("Box", some "value"), "Box.value", defArgs (inClass (top 9) 3), defBody (inClass (top 9) 3), defScope (inClass (top 9) 3), ["self", "boxes"], ["self", "boxes"], PL.b_Box_value⟩
def f32 : Fi := ⟨("Yes", some "value"), "Yes.value", defArgs (inClass (top 7) 1), defBody (inClass (top 7) 1), defScope (inClass (top 7) 1), ["self", "boxes"], ["self", "boxes"], PL.b_Yes_value⟩
def f33 : Fi := ⟨("No", some "value"), "No.value", defArgs (inClass (top 8) 1), defBody (inClass (top 8) 1), defScope (inClass (top 8) 1), ["self", "boxes"], ["self", "boxes"], PL.b_No_value⟩
def f34 : Fi := ⟨("Not", some "__init__"), "Not.__init__", defArgs (inClass (top 18) 0), defBody (inClass (top 18) 0), defScope (inClass (top 18) 0), ["self", "one"], ["self", "one"], PL.b_Not___init__⟩
def f35 : Fi := ⟨("Not", some "value"), "Not.value", defArgs (inClass (top 18) 4), defBody (inClass (top 18) 4), defScope (inClass (top 18) 4), ["self", "boxes"], ["self", "boxes"], PL.b_Not_value⟩
def f36 : Fi := ⟨("Pick", some "__init__"), "Pick.__init__", defArgs (inClass (top 19) 0), defBody (inClass (top 19) 0), defScope (inClass (top 19) 0), ["self", "asked", "one", "other"], ["self", "asked", "one", "other"], PL.b_Pick___init__⟩
def f37 : Fi := ⟨("Pick", some "value"), "Pick.value", defArgs (inClass (top 19) 4), defBody (inClass (top 19) 4), defScope (inClass (top 19) 4), ["self", "boxes"], ["self", "boxes"], PL.b_Pick_value⟩
def f38 : Fi := ⟨("Two", some "__init__"), "Two.__init__", defArgs (inClass (top 10) 0), defBody (inClass (top 10) 0), defScope (inClass (top 10) 0), ["self", "one", "other"], ["self", "one", "other"], PL.b_Two___init__⟩
def f39 : Fi := ⟨("Two", some "value"), "Two.value", defArgs (inClass (top 10) 5), defBody (inClass (top 10) 5), defScope (inClass (top 10) 5), ["self", "boxes"], ["self", "boxes"], PL.b_Two_value⟩
def f40 : Fi := ⟨("Plus", some "reckoned"), "Plus.reckoned", defArgs (inClass (top 11) 2), defBody (inClass (top 11) 2), defScope (inClass (top 11) 2), ["self", "left", "right"], ["self", "left", "right"], PL.b_Plus_reckoned⟩
def f41 : Fi := ⟨("Minus", some "reckoned"), "Minus.reckoned", defArgs (inClass (top 12) 2), defBody (inClass (top 12) 2), defScope (inClass (top 12) 2), ["self", "left", "right"], ["self", "left", "right"], PL.b_Minus_reckoned⟩
def f42 : Fi := ⟨("Times", some "reckoned"), "Times.reckoned", defArgs (inClass (top 13) 2), defBody (inClass (top 13) 2), defScope (inClass (top 13) 2), ["self", "left", "right"], ["self", "left", "right"], PL.b_Times_reckoned⟩
def f43 : Fi := ⟨("Same", some "reckoned"), "Same.reckoned", defArgs (inClass (top 14) 2), defBody (inClass (top 14) 2), defScope (inClass (top 14) 2), ["self", "left", "right"], ["self", "left", "right"], PL.b_Same_reckoned⟩
def f44 : Fi := ⟨("Less", some "reckoned"), "Less.reckoned", defArgs (inClass (top 15) 2), defBody (inClass (top 15) 2), defScope (inClass (top 15) 2), ["self", "left", "right"], ["self", "left", "right"], PL.b_Less_reckoned⟩
def f45 : Fi := ⟨("And", some "reckoned"), "And.reckoned", defArgs (inClass (top 16) 2), defBody (inClass (top 16) 2), defScope (inClass (top 16) 2), ["self", "left", "right"], ["self", "left", "right"], PL.b_And_reckoned⟩
def f46 : Fi := ⟨("Or", some "reckoned"), "Or.reckoned", defArgs (inClass (top 17) 1), defBody (inClass (top 17) 1), defScope (inClass (top 17) 1), ["self", "left", "right"], ["self", "left", "right"], PL.b_Or_reckoned⟩
def tb : Tb where
  fis := [f0, f1, f2, f3, f4, f5, f6, f7, f8, f9, f10, f11, f12, f13, f14, f15, f16, f17, f18, f19, f20, f21, f22, f23, f24, f25, f26, f27, f28, f29, f30, f31, f32, f33, f34, f35, f36, f37, f38, f39, f40, f41, f42, f43, f44, f45, f46]
  fnames := [("law", 0), ("_law_begun", 1), ("_law_names", 2), ("_law_good", 3), ("_law_mix", 4), ("_law_tree", 5), ("folded", 6), ("_law_folded", 7), ("_law_boxes", 8), ("_law_value", 9), ("_law_leaf", 10), ("is_value", 11), ("folded_part", 12), ("_law_is_atom", 13), ("_law_as_tree", 14), ("_law_joined", 15), ("tree_of", 16), ("saying_of", 17), ("folded_and", 18), ("folded_or", 19), ("folded_pick", 20), ("is_tree", 21), ("built_of", 22), ("parts_in", 23), ("two_of", 24), ("many_inner", 25), ("is_leaf", 26), ("is_name", 27)]
  cls := ["NoSaying", "Num", "Box", "Yes", "No", "Not", "Pick", "Plus", "Minus", "Times", "Same", "Less", "And", "Or"]
  bts := [("tuple", 3), ("bool", 1), ("str", 2), ("int", 0)]
  csts := [("MOST_PARTS", .int (40)), ("MOST_DEEP", .int (9)), ("TWOS", .lst [.str "plus", .str "minus", .str "times", .str "same", .str "less", .str "and", .str "or"]), ("MOST_NUMBER", .int (15)), ("KEPT", .lst [.str "yes", .str "no", .str "not", .str "and", .str "or", .str "set", .str "draw", .str "see", .str "if", .str "else", .str "repeat", .str "end", .str "helper", .str "give", .str "main"]), ("MOST_SIGNS", .int (8)), ("LETTERS", .str "abcdefghijklmnopqrstuvwxyz")]
  frees := ["len", "max", "range", "dict", "isinstance", "tuple", "bool", "int", "sorted", "all", "str"]
  meths := ([(1, "__init__", 28), (1, "value", 29), (2, "__init__", 30), (2, "value", 31), (3, "value", 32), (4, "value", 33), (5, "__init__", 34), (5, "value", 35), (6, "__init__", 36), (6, "value", 37), (7, "__init__", 38), (7, "value", 39), (7, "reckoned", 40), (8, "__init__", 38), (8, "value", 39), (8, "reckoned", 41), (9, "__init__", 38), (9, "value", 39), (9, "reckoned", 42), (10, "__init__", 38), (10, "value", 39), (10, "reckoned", 43), (11, "__init__", 38), (11, "value", 39), (11, "reckoned", 44), (12, "__init__", 38), (12, "value", 39), (12, "reckoned", 45), (13, "__init__", 38), (13, "value", 39)] : List (Nat × Str × Nat)) ++ ([(13, "reckoned", 46)] : List (Nat × Str × Nat))
  flds := ([(1, "asked"), (1, "name"), (1, "number"), (1, "one"), (1, "other"), (2, "asked"), (2, "name"), (2, "number"), (2, "one"), (2, "other"), (3, "asked"), (3, "name"), (3, "number"), (3, "one"), (3, "other"), (4, "asked"), (4, "name"), (4, "number"), (4, "one"), (4, "other"), (5, "asked"), (5, "name"), (5, "number"), (5, "one"), (5, "other"), (6, "asked"), (6, "name"), (6, "number"), (6, "one"), (6, "other")] : List (Nat × Str)) ++ ([(7, "asked"), (7, "name"), (7, "number"), (7, "one"), (7, "other"), (8, "asked"), (8, "name"), (8, "number"), (8, "one"), (8, "other"), (9, "asked"), (9, "name"), (9, "number"), (9, "one"), (9, "other"), (10, "asked"), (10, "name"), (10, "number"), (10, "one"), (10, "other"), (11, "asked"), (11, "name"), (11, "number"), (11, "one"), (11, "other"), (12, "asked"), (12, "name"), (12, "number"), (12, "one"), (12, "other")] : List (Nat × Str)) ++ ([(13, "asked"), (13, "name"), (13, "number"), (13, "one"), (13, "other")] : List (Nat × Str))
  subs := []
  isTs := ([(7, 0, false), (1, 0, true), (0, 0, true), (2, 0, false), (3, 0, false), (4, 0, false), (5, 0, false), (11, 0, false), (7, 1, false), (1, 1, true), (0, 1, false), (2, 1, false), (3, 1, false), (4, 1, false), (5, 1, false), (11, 1, false), (7, 2, false), (1, 2, false), (0, 2, false), (2, 2, true), (3, 2, false), (4, 2, false), (5, 2, false), (11, 2, false), (7, 3, false), (1, 3, false), (0, 3, false), (2, 3, false), (3, 3, true), (4, 3, false)] : List (Nat × Nat × Bool)) ++ ([(5, 3, false), (11, 3, false), (7, 4, false), (1, 4, false), (0, 4, false), (2, 4, false), (3, 4, false), (4, 4, true), (5, 4, false), (11, 4, false), (7, 5, false), (1, 5, false), (0, 5, false), (2, 5, false), (3, 5, false), (4, 5, false), (5, 5, true), (11, 5, false)] : List (Nat × Nat × Bool))
  isXs := [0]
  fuel := 100000
  fvs := []
  new0s := [3, 4]
def loose : List Str := ([("_wall" : Str), ("ChanceError" : Str), ("NoSaying" : Str), ("Saying" : Str), ("Num" : Str), ("Yes" : Str), ("No" : Str), ("Box" : Str), ("Two" : Str), ("Plus" : Str), ("Minus" : Str), ("Times" : Str), ("Same" : Str), ("Less" : Str), ("And" : Str), ("Or" : Str), ("Not" : Str), ("Pick" : Str), ("LETTERS" : Str), ("KEPT" : Str), ("TWOS" : Str), ("MOST_SIGNS" : Str), ("MOST_PARTS" : Str), ("MOST_DEEP" : Str), ("MOST_NUMBER" : Str), ("is_name" : Str), ("is_leaf" : Str), ("many_inner" : Str), ("parts_in" : Str), ("is_tree" : Str)] : List Str) ++ ([("two_of" : Str), ("built_of" : Str), ("saying_of" : Str), ("is_value" : Str), ("tree_of" : Str), ("folded_and" : Str), ("folded_or" : Str), ("folded_pick" : Str), ("folded_part" : Str), ("folded" : Str), ("_law_cell_at" : Str), ("_law_begun" : Str), ("_law_mix" : Str), ("_law_names" : Str), ("_law_reduced" : Str), ("_law_shares" : Str), ("_law_leaf" : Str), ("_law_tree" : Str), ("_law_value" : Str), ("_law_is_atom" : Str), ("_law_as_tree" : Str), ("_law_joined" : Str), ("_law_folded" : Str), ("_law_boxes" : Str), ("_law_good" : Str)] : List Str)
theorem binds : ∀ f ∈ tb.fis, BindP f.params f.ps := by
  intro f hf
  simp only [tb, List.mem_cons, List.not_mem_nil, or_false] at hf
  rcases hf with rfl | rfl | rfl | rfl | rfl | rfl | rfl | rfl | rfl | rfl | rfl | rfl | rfl | rfl | rfl | rfl | rfl | rfl | rfl | rfl | rfl | rfl | rfl | rfl | rfl | rfl | rfl | rfl | rfl | rfl | rfl | rfl | rfl | rfl | rfl | rfl | rfl | rfl | rfl | rfl | rfl | rfl | rfl | rfl | rfl | rfl | rfl
  · exact fun _ _ _ _ _ _ _ _ _ _ us hl => match us, hl with | [_], _ => rfl
  · exact fun _ _ _ _ _ _ _ _ _ _ us hl => match us, hl with | [_], _ => rfl
  · exact fun _ _ _ _ _ _ _ _ _ _ us hl => match us, hl with | [_, _], _ => rfl
  · exact fun _ _ _ _ _ _ _ _ _ _ us hl => match us, hl with | [_, _], _ => rfl
  · exact fun _ _ _ _ _ _ _ _ _ _ us hl => match us, hl with | [_, _], _ => rfl
  · exact fun _ _ _ _ _ _ _ _ _ _ us hl => match us, hl with | [_, _, _, _], _ => rfl
  · exact fun _ _ _ _ _ _ _ _ _ _ us hl => match us, hl with | [_], _ => rfl
  · exact fun _ _ _ _ _ _ _ _ _ _ us hl => match us, hl with | [_], _ => rfl
  · exact fun _ _ _ _ _ _ _ _ _ _ us hl => match us, hl with | [_, _], _ => rfl
  · exact fun _ _ _ _ _ _ _ _ _ _ us hl => match us, hl with | [_, _], _ => rfl
  · exact fun _ _ _ _ _ _ _ _ _ _ us hl => match us, hl with | [_, _, _], _ => rfl
  · exact fun _ _ _ _ _ _ _ _ _ _ us hl => match us, hl with | [_], _ => rfl
  · exact fun _ _ _ _ _ _ _ _ _ _ us hl => match us, hl with | [_], _ => rfl
  · exact fun _ _ _ _ _ _ _ _ _ _ us hl => match us, hl with | [_], _ => rfl
  · exact fun _ _ _ _ _ _ _ _ _ _ us hl => match us, hl with | [_], _ => rfl
  · exact fun _ _ _ _ _ _ _ _ _ _ us hl => match us, hl with | [_, _, _], _ => rfl
  · exact fun _ _ _ _ _ _ _ _ _ _ us hl => match us, hl with | [_], _ => rfl
  · exact fun _ _ _ _ _ _ _ _ _ _ us hl => match us, hl with | [_], _ => rfl
  · exact fun _ _ _ _ _ _ _ _ _ _ us hl => match us, hl with | [_, _], _ => rfl
  · exact fun _ _ _ _ _ _ _ _ _ _ us hl => match us, hl with | [_, _], _ => rfl
  · exact fun _ _ _ _ _ _ _ _ _ _ us hl => match us, hl with | [_, _, _], _ => rfl
  · exact fun _ _ _ _ _ _ _ _ _ _ us hl => match us, hl with | [_], _ => rfl
  · exact fun _ _ _ _ _ _ _ _ _ _ us hl => match us, hl with | [_], _ => rfl
  · exact fun _ _ _ _ _ _ _ _ _ _ us hl => match us, hl with | [_, _], _ => rfl
  · exact fun _ _ _ _ _ _ _ _ _ _ us hl => match us, hl with | [_, _, _], _ => rfl
  · exact fun _ _ _ _ _ _ _ _ _ _ us hl => match us, hl with | [_], _ => rfl
  · exact fun _ _ _ _ _ _ _ _ _ _ us hl => match us, hl with | [_], _ => rfl
  · exact fun _ _ _ _ _ _ _ _ _ _ us hl => match us, hl with | [_], _ => rfl
  · exact fun _ _ _ _ _ _ _ _ _ _ us hl => match us, hl with | [_, _], _ => rfl
  · exact fun _ _ _ _ _ _ _ _ _ _ us hl => match us, hl with | [_, _], _ => rfl
  · exact fun _ _ _ _ _ _ _ _ _ _ us hl => match us, hl with | [_, _], _ => rfl
  · exact fun _ _ _ _ _ _ _ _ _ _ us hl => match us, hl with | [_, _], _ => rfl
  · exact fun _ _ _ _ _ _ _ _ _ _ us hl => match us, hl with | [_, _], _ => rfl
  · exact fun _ _ _ _ _ _ _ _ _ _ us hl => match us, hl with | [_, _], _ => rfl
  · exact fun _ _ _ _ _ _ _ _ _ _ us hl => match us, hl with | [_, _], _ => rfl
  · exact fun _ _ _ _ _ _ _ _ _ _ us hl => match us, hl with | [_, _], _ => rfl
  · exact fun _ _ _ _ _ _ _ _ _ _ us hl => match us, hl with | [_, _, _, _], _ => rfl
  · exact fun _ _ _ _ _ _ _ _ _ _ us hl => match us, hl with | [_, _], _ => rfl
  · exact fun _ _ _ _ _ _ _ _ _ _ us hl => match us, hl with | [_, _, _], _ => rfl
  · exact fun _ _ _ _ _ _ _ _ _ _ us hl => match us, hl with | [_, _], _ => rfl
  · exact fun _ _ _ _ _ _ _ _ _ _ us hl => match us, hl with | [_, _, _], _ => rfl
  · exact fun _ _ _ _ _ _ _ _ _ _ us hl => match us, hl with | [_, _, _], _ => rfl
  · exact fun _ _ _ _ _ _ _ _ _ _ us hl => match us, hl with | [_, _, _], _ => rfl
  · exact fun _ _ _ _ _ _ _ _ _ _ us hl => match us, hl with | [_, _, _], _ => rfl
  · exact fun _ _ _ _ _ _ _ _ _ _ us hl => match us, hl with | [_, _, _], _ => rfl
  · exact fun _ _ _ _ _ _ _ _ _ _ us hl => match us, hl with | [_, _, _], _ => rfl
  · exact fun _ _ _ _ _ _ _ _ _ _ us hl => match us, hl with | [_, _, _], _ => rfl
theorem okb : tb.okB = true := by decide +kernel
theorem oks : tb.fis.all (Fi.okB tb.T tb.G 60 400) = true := by decide +kernel
end Lw
set_option Elab.async false
set_option linter.all false
set_option maxRecDepth 100000
set_option maxHeartbeats 0
namespace Lw
open PySem PySem.Spec PyProof.Rows L2 PD
abbrev R : PySem.W.OpenRow := PySem.W.OpenLaw.row PySem.Challenge.rw_chancery_k60_trees_folded
abbrev hk : PySem.W.Hook := hookP 4 tb
def ob (s : PySem.W.SharedT) : Bool × He.AlD := obsPG 4 tb (HandSHeadRun.getT s)
theorem ob_eq (s : PySem.W.SharedT) : ob s = hk.obs s.abs := obsPG_eq (HandSHeadRun.getT_eq s)
theorem run (w : World) : HandSHeadRun.RunEq R (PySem.W.view R.prog [60]) hk ob 20000 loose w := by
  intro os
  kernel_rfl
end Lw
set_option Elab.async false
set_option linter.all false
set_option maxRecDepth 100000
set_option maxHeartbeats 4000000
namespace PD
open PySem PySem.Spec PyProof.Rows L2
section
variable {G : Pg} {Φ : Nat → List PD.W → List M → Rs PD.W} {sl : Sl} {cs : List M}
@[simp] theorem eE_c (d : D) : evE G Φ (.c d) sl cs = .ok (.d d) cs := rfl
def getS (sl : Sl) (i : Nat) (cs : List M) : Rs PD.W := match sl[i]? with
  | some (some w) => .ok w cs
  | _ => .stuck
@[simp] theorem eE_v (i : Nat) : evE G Φ (.v i) sl cs = getS sl i cs := rfl
@[simp] theorem getS_0 (w : PD.W) (r : Sl) : getS (some w :: r) 0 cs = .ok w cs := rfl
@[simp] theorem getS_s (a : Option PD.W) (r : Sl) (i : Nat) : getS (a :: r) (i + 1) cs = getS r i cs := rfl
@[simp] theorem eE_g (i : Nat) : evE G Φ (.g i) sl cs = Rs.ofO (G.csts[i]?.map .d) cs := rfl
def opR (G : Pg) (o : O) (ws : List PD.W) (cs : List M) : Rs PD.W := match pks ws cs with
  | some ds => match sem G.isT o ds with
    | some d => .ok (.d d) cs
    | none => .stuck
  | none => .stuck
@[simp] theorem eE_op (o : O) (es : List E) : evE G Φ (.op o es) sl cs = (evEs G Φ es sl cs).bind fun ws cs => opR G o ws cs := rfl
@[simp] theorem eE_bm (o : O) (a : E) (es : List E) : evE G Φ (.bm o a es) sl cs = (evE G Φ a sl cs).bind fun w cs => if recvOk o (pk w cs) = true then (evEs G Φ es sl cs).bind fun ws cs => opR G o (w :: ws) cs else .stuck := rfl
@[simp] theorem eE_and (a b : E) : evE G Φ (.and_ a b) sl cs = (evE G Φ a sl cs).bind fun w cs => match (pk w cs).bind truth with
    | some true => evE G Φ b sl cs
    | some false => .ok w cs
    | none => .stuck := rfl
@[simp] theorem eE_or (a b : E) : evE G Φ (.or_ a b) sl cs = (evE G Φ a sl cs).bind fun w cs => match (pk w cs).bind truth with
    | some true => .ok w cs
    | some false => evE G Φ b sl cs
    | none => .stuck := rfl
@[simp] theorem eE_not (a : E) : evE G Φ (.not_ a) sl cs = (evE G Φ a sl cs).bind fun w cs => match (pk w cs).bind truth with
    | some b => .ok (.d (.bl (!b))) cs
    | none => .stuck := rfl
@[simp] theorem eE_ife (t a b : E) : evE G Φ (.ife t a b) sl cs = (evE G Φ t sl cs).bind fun w cs => match (pk w cs).bind truth with
    | some true => evE G Φ a sl cs
    | some false => evE G Φ b sl cs
    | none => .stuck := rfl
@[simp] theorem eE_tup (es : List E) : evE G Φ (.tup es) sl cs = (evEs G Φ es sl cs).bind fun ws cs => match dats ws with
    | some ds => if ds.length ≤ LIM then .ok (.d (.tup ds)) cs else .stuck
    | none => .stuck := rfl
@[simp] theorem eE_lst (es : List E) : evE G Φ (.lst es) sl cs = (evEs G Φ es sl cs).bind fun ws cs => match dats ws with
    | some ds => if ds.length ≤ LIM then .ok (.d (.lst ds)) cs else .stuck
    | none => .stuck := rfl
@[simp] theorem eE_mlst (es : List E) : evE G Φ (.mlst es) sl cs = (evEs G Φ es sl cs).bind fun ws cs => match dats ws with
    | some ds => if ds.length ≤ LIM then .ok (.c cs.length) (cs ++ [.lst ds]) else .stuck
    | none => .stuck := rfl
@[simp] theorem eE_call (f : Nat) (es : List E) : evE G Φ (.call f es) sl cs = (evEs G Φ es sl cs).bind fun ws cs => callW (Φ f) ws cs := rfl
@[simp] theorem eEs_nil : evEs G Φ [] sl cs = .ok [] cs := rfl
@[simp] theorem eEs_cons (e : E) (es : List E) : evEs G Φ (e :: es) sl cs = (evE G Φ e sl cs).bind fun w cs => (evEs G Φ es sl cs).bind fun ws cs => .ok (w :: ws) cs := rfl
@[simp] theorem eC_nil : evC G Φ [] sl cs = .ok true cs := rfl
@[simp] theorem eT (e : E) : evT G Φ e sl cs = (evE G Φ e sl cs).bind fun w cs => Rs.ofO ((pk w cs).bind truth) cs := rfl
@[simp] theorem pk_d (d : D) : pk (.d d) cs = some d := rfl
@[simp] theorem pks_nil : pks [] cs = some [] := rfl
@[simp] theorem pks_cons (w : PD.W) (ws : List PD.W) : pks (w :: ws) cs = match pk w cs, pks ws cs with | some d, some ds => some (d :: ds) | _, _ => none := rfl
@[simp] theorem dats_nil : dats [] = some [] := rfl
@[simp] theorem dats_cons (x : D) (ws : List PD.W) : dats (.d x :: ws) = (dats ws).map (x :: ·) := rfl
@[simp] theorem tr_bl (b : Bool) : truth (.bl b) = some b := rfl
@[simp] theorem tr_int (i : Int) : truth (.int i) = some (i != 0) := rfl
@[simp] theorem sem_1 (isT : Nat → Nat → Option Bool) (o : O) (a : D) : sem isT o [a] = sem1 isT o a := rfl
@[simp] theorem sem_2 (isT : Nat → Nat → Option Bool) (o : O) (a b : D) : sem isT o [a, b] = sem2 o a b := rfl
@[simp] theorem eS_ex (e : E) : evS G Φ (.ex e) sl cs = SR.of (evE G Φ e sl cs) sl fun _ cs => .ok .nx sl cs := rfl
@[simp] theorem eS_asg (t : Tg) (e : E) : evS G Φ (.asg t e) sl cs = SR.of (evE G Φ e sl cs) sl fun w cs => match bindT t w sl with
    | some sl => .ok .nx sl cs
    | none => .stuck := rfl
@[simp] theorem eS_par (i j : Nat) (a b : E) : evS G Φ (.par i j a b) sl cs = SR.of (evE G Φ a sl cs) sl fun x cs => SR.of (evE G Φ b sl cs) sl fun y cs =>
      if i < sl.length ∧ j < sl.length then .ok .nx ((sl.set i (some x)).set j (some y)) cs else .stuck := rfl
@[simp] theorem eS_ite (t : E) (a b : List S) : evS G Φ (.ite t a b) sl cs = SR.of (evT G Φ t sl cs) sl fun k cs => if k = true then evSs G Φ a sl cs else evSs G Φ b sl cs := rfl
@[simp] theorem eS_ret (e : E) : evS G Φ (.ret e) sl cs = SR.of (evE G Φ e sl cs) sl fun w cs => .ok (.ret w) sl cs := rfl
@[simp] theorem eS_pass : evS G Φ .pass sl cs = .ok .nx sl cs := rfl
@[simp] theorem eSs_nil : evSs G Φ [] sl cs = .ok .nx sl cs := rfl
@[simp] theorem eSs_cons (s : S) (ss : List S) : evSs G Φ (s :: ss) sl cs = match evS G Φ s sl cs with
    | .ok .nx sl cs => evSs G Φ ss sl cs
    | r => r := rfl
@[simp] theorem bT_n (i : Nat) (w : PD.W) : bindT (.n i) w sl = if i < sl.length then some (sl.set i (some w)) else none := rfl
@[simp] theorem bT_t (ts : List Tg) (ds : List D) : bindT (.t ts) (.d (.tup ds)) sl = bindTs ts ds sl := rfl
@[simp] theorem bT_tl (ts : List Tg) (ds : List D) : bindT (.t ts) (.d (.lst ds)) sl = bindTs ts ds sl := rfl
@[simp] theorem bTs_nil : bindTs [] [] sl = some sl := rfl
@[simp] theorem bTs_cons (t : Tg) (ts : List Tg) (d : D) (ds : List D) : bindTs (t :: ts) (d :: ds) sl = match bindT t (.d d) sl with
    | some sl => bindTs ts ds sl
    | none => none := rfl
end
theorem call_at {G : Pg} {n f np ns : Nat} {b : List S} {ws : List PD.W} {cs : List M} (h : G.fns[f]? = some (np, ns, b)) : call G (n + 1) f ws cs = runB G (call G n) np ns b ws cs := by
  show (match G.fns[f]? with | some (np, ns, b) => runB G (call G n) np ns b ws cs | none => .stuck) = _
  rw [h]
theorem rn_dats : ∀ (ws : List PD.W) (ds : List D), dats ws = some ds → rn [] ws = (ws, []) := fun ws => by
  induction ws with
  | nil => intro ds _; rfl
  | cons w ws ih =>
    intro ds e
    cases w with
    | d x =>
      have e : (dats ws).map (x :: ·) = some ds := e
      cases q : dats ws with
      | none => rw [q] at e; cases e
      | some r =>
        show ((PD.W.d x :: (rn [] ws).1, (rn [] ws).2) : List PD.W × List Nat) = _
        rw [ih r q]
    | c i => cases (show none = some ds from e)
theorem callW_d {f : List PD.W → List M → Rs PD.W} {ws : List PD.W} {ds : List D} {cs ms : List M} {d : D} (hd : dats ws = some ds) (h : f ws [] = .ok (.d d) ms) : callW f ws cs = .ok (.d d) cs := by
  have e : putAll cs [] ms = cs := by cases ms <;> rfl
  unfold callW
  rw [rn_dats ws ds hd]
  simp only [takeAll, h, e]
theorem callW1 {f : List PD.W → List M → Rs PD.W} {a d : D} {cs ms : List M} (h : f [.d a] [] = .ok (.d d) ms) : callW f [.d a] cs = .ok (.d d) cs := callW_d (ds := [a]) rfl h
theorem callW2 {f : List PD.W → List M → Rs PD.W} {a b d : D} {cs ms : List M} (h : f [.d a, .d b] [] = .ok (.d d) ms) : callW f [.d a, .d b] cs = .ok (.d d) cs := callW_d (ds := [a, b]) rfl h
end PD
namespace PD
section
variable {G : Pg} {Φ : Nat → List PD.W → List M → Rs PD.W} {sl : Sl} {cs : List M}
@[simp] theorem eS_while (t : E) (b : List S) : evS G Φ (.while_ t b) sl cs = whileL (evT G Φ t) (evSs G Φ b) G.fuel sl cs := rfl
def forB (G : Pg) (Φ : Nat → List PD.W → List M → Rs PD.W) (t : Tg) (b : List S) (d : D) (sl : Sl) (cs : List M) : SR := match bindT t (.d d) sl with
  | some sl => evSs G Φ b sl cs
  | none => .stuck
@[simp] theorem eS_for (t : Tg) (k : IK) (its : List E) (b : List S) : evS G Φ (.for_ t k its b) sl cs = SR.of (evEs G Φ its sl cs) sl fun ws cs => match (dats ws).bind (items k) with
    | some ds => forL (forB G Φ t b) ds sl cs
    | none => .stuck := rfl
theorem eqD_int (i j : Int) : eqD (.int i) (.int j) = (i == j) := rfl
theorem plain_int (i : Int) : plainD (.int i) = true := rfl
end
end PD
namespace PD
section
variable {G : Pg} {Φ : Nat → List PD.W → List M → Rs PD.W} {sl : Sl} {cs : List M}
@[simp] theorem eS_rais (C : Nat) (es : List E) : evS G Φ (.rais C es) sl cs = SR.of (evEs G Φ es sl cs) sl fun ws cs => if ws.length ≤ LIM then .ex C [] [] sl cs else .stuck := rfl
@[simp] theorem le_lim0 : (0 : Nat) ≤ LIM := Nat.zero_le _
@[simp] theorem le_lim1 : (1 : Nat) ≤ LIM := by decide
@[simp] theorem le_lim2 : (2 : Nat) ≤ LIM := by decide
@[simp] theorem le_lim3 : (3 : Nat) ≤ LIM := by decide
end
theorem log_lt {i : Int} {k : Nat} (h : i.natAbs < 2 ^ k) (hk : 0 < k) : i.natAbs.log2 < k := by
  by_cases h0 : i.natAbs = 0
  · rw [h0]; simpa using hk
  · exact (Nat.log2_lt h0).mpr h
theorem arith_mul {i j : Int} (hi : i.natAbs < 2 ^ 4000000) (hj : j.natAbs < 2 ^ 4000000) : arith .mul i j = some (.int (i * j)) := by
  have h1 := log_lt hi (by omega)
  have h2 := log_lt hj (by omega)
  show (if i.natAbs.log2 + j.natAbs.log2 < 100000000 then some (D.int (i * j)) else none) = _
  rw [if_pos (by omega)]
theorem arith_fdiv {i j : Int} (h0 : j ≠ 0) (hj : j.natAbs < 2 ^ 8999) : arith .fdiv i j = some (.int (i.fdiv j)) := by
  have h2 := log_lt hj (by omega)
  show (if j ≠ 0 ∧ j.natAbs.log2 < 9000 then some (D.int (i.fdiv j)) else none) = _
  rw [if_pos ⟨h0, by omega⟩]
theorem arith_mod {i j : Int} (h0 : j ≠ 0) : arith .mod i j = some (.int (i.fmod j)) := by
  show (if j ≠ 0 then some (D.int (i.fmod j)) else none) = _
  rw [if_pos h0]
end PD
namespace PD
end PD
namespace PD
section
variable {G : Pg} {Φ : Nat → List PD.W → List M → Rs PD.W} {sl : Sl} {cs : List M}
def cF (G : Pg) (Φ : Nat → List PD.W → List M → Rs PD.W) (sl : Sl) (own : List Nat) (t : Tg) (conds : List E) (elt : E) (d : D) (cs : List M) : Rs (Option D) := match bindT t (.d d) (wipeS sl own) with
  | some sl' => (evC G Φ conds sl' cs).bind fun b cs => if b = true then (evE G Φ elt sl' cs).bind fun w cs => match w with
      | .d x => .ok (some x) cs
      | .c _ => .stuck
    else .ok none cs
  | none => .stuck
@[simp] theorem eE_comp (mc : Bool) (own : List Nat) (t : Tg) (k : IK) (its conds : List E) (elt : E) : evE G Φ (.comp mc own t k its conds elt) sl cs = (evEs G Φ its sl cs).bind fun ws cs => match (dats ws).bind (items k) with
    | some ds => (compL (cF G Φ sl own t conds elt) ds [] cs).bind fun ds cs => if mc = true then .ok (.c cs.length) (cs ++ [.lst ds]) else .ok (.d (.lst ds)) cs
    | none => .stuck := rfl
@[simp] theorem compL_n (f : D → List M → Rs (Option D)) (acc : List D) : compL f [] acc cs = .ok acc cs := rfl
@[simp] theorem compL_c (f : D → List M → Rs (Option D)) (d : D) (ds acc : List D) : compL f (d :: ds) acc cs = match f d cs with
    | .ok o cs => compL f ds (acc ++ o.toList) cs
    | _ => .stuck := rfl
@[simp] theorem wipeS_n : wipeS sl [] = sl := rfl
@[simp] theorem wipeS_c (v : Nat) (vs : List Nat) : wipeS sl (v :: vs) = (wipeS sl vs).set v none := rfl
@[simp] theorem items_seqL (xs : List D) : items .seq [.lst xs] = some xs := rfl
@[simp] theorem items_seqT (xs : List D) : items .seq [.tup xs] = some xs := rfl
@[simp] theorem eS_try (b : List S) (C : Nat) (i : Nat) (h : List S) : evS G Φ (.try_ b C (some i) h) sl cs = match evSs G Φ b sl cs with
    | .ex C' ks vs sl' cs' => match G.sub C' C with
      | some true => if i < sl'.length then (match evSs G Φ h (sl'.set i (some (.d (.exc C' ks vs)))) cs' with
          | .ok f sl2 cs2 => .ok f (sl2.set i none) cs2
          | .ex _ _ _ _ _ => .stuck
          | .stuck => .stuck) else .stuck
      | some false => .ex C' ks vs sl' cs'
      | none => .stuck
    | r => r := rfl
end
end PD
namespace PD
open PySem PySem.Spec PyProof.Rows L2
section
variable {G : Pg} {Φ : Nat → List PD.W → List M → Rs PD.W} {sl : Sl} {cs : List M}
@[simp] theorem eS_setix (a i e : E) : evS G Φ (.setix a i e) sl cs = SR.of (evE G Φ e sl cs) sl fun w cs => SR.of (evE G Φ a sl cs) sl fun o cs => SR.of (evE G Φ i sl cs) sl fun k cs =>
    match o, k, w with
    | .c n, .d kd, .d x => match cs[n]? with
      | some (.lst xs) => (match kd with
        | .int z => (match ixN xs.length z with
          | some j => .ok .nx sl (cs.set n (.lst (xs.set j x)))
          | none => .stuck)
        | _ => .stuck)
      | some (.dct ks vs) => (match keyOf kd with
        | some q => if ks.length < LIM then .ok .nx sl (cs.set n (.dct (dput ks vs q x).1 (dput ks vs q x).2)) else .stuck
        | none => .stuck)
      | _ => .stuck
    | _, _, _ => .stuck := rfl
theorem pk_c (i : Nat) : pk (.c i) cs = match cs[i]? with | some m => mD m | none => none := rfl
theorem forL_c {f : D → Sl → List M → SR} {d : D} {ds : List D} : forL f (d :: ds) sl cs = match f d sl cs with
    | .ok .nx sl cs => forL f ds sl cs
    | .ok .cnt sl cs => forL f ds sl cs
    | .ok .brk sl cs => .ok .nx sl cs
    | r => r := rfl
end
end PD
set_option Elab.async false
set_option linter.all false
set_option maxRecDepth 100000
set_option maxHeartbeats 4000000
namespace PD
open PySem PySem.Spec PyProof.Rows L2
section
variable {G : Pg} {Φ : Nat → List PD.W → List M → Rs PD.W} {sl : Sl} {cs : List M}
@[simp] theorem eS_app (a e : E) : evS G Φ (.app a e) sl cs = SR.of (evE G Φ a sl cs) sl fun o cs => if isLstC o cs = true then SR.of (evE G Φ e sl cs) sl fun w cs =>
      match o, w with
      | .c n, .d x => match cs[n]? with
        | some (.lst xs) => if xs.length < LIM then .ok .nx sl (cs.set n (.lst (xs ++ [x]))) else .stuck
        | _ => .stuck
      | _, _ => .stuck
    else .stuck := rfl
@[simp] theorem eS_aug (i : Nat) (o : O) (e : E) : evS G Φ (.aug i o e) sl cs = match sl[i]? with
    | some (some x) => SR.of (evE G Φ e sl cs) sl fun y cs => match x, y with
      | .d a, .d b => match augD o a b with
        | some d => .ok .nx (sl.set i (some (.d d))) cs
        | none => .stuck
      | _, _ => .stuck
    | _ => .stuck := rfl
@[simp] theorem eS_setfld (a : E) (f : Str) (e : E) : evS G Φ (.setfld a f e) sl cs = SR.of (evE G Φ e sl cs) sl fun w cs => SR.of (evE G Φ a sl cs) sl fun o cs =>
    match o, w with
    | .c n, .d x => match cs[n]? with
      | some (.obj C ks vs) => if G.fld C f = true ∧ ks.length < 1000 then .ok .nx sl (cs.set n (.obj C (fput ks vs f x).1 (fput ks vs f x).2)) else .stuck
      | _ => .stuck
    | _, _ => .stuck := rfl
@[simp] theorem eS_frz (i : Nat) : evS G Φ (.frz i) sl cs = match sl[i]? with
    | some (some (.c n)) => (match pk (.c n) cs with
      | some d => .ok .nx (sl.set i (some (.d d))) (cs.set n .dead)
      | none => .stuck)
    | some (some (.d _)) => .ok .nx sl cs
    | _ => .stuck := rfl
@[simp] theorem eS_brk : evS G Φ .brk sl cs = .ok .brk sl cs := rfl
@[simp] theorem eS_cnt : evS G Φ .cnt sl cs = .ok .cnt sl cs := rfl
@[simp] theorem eE_frz (e : E) : evE G Φ (.frz e) sl cs = (evE G Φ e sl cs).bind fun w cs => match w with
    | .d x => .ok (.d x) cs
    | .c i => match pk (.c i) cs with
      | some d => .ok (.d d) (cs.set i .dead)
      | none => .stuck := rfl
@[simp] theorem eE_slL (a lo : E) : evE G Φ (.slL a lo) sl cs = (evE G Φ a sl cs).bind fun w cs => (evE G Φ lo sl cs).bind fun l cs => match l with
    | .d (.int i) => Rs.ofO (((pk w cs).bind fun d => slD d (some i) none).map .d) cs
    | _ => .stuck := rfl
@[simp] theorem eE_slH (a hi : E) : evE G Φ (.slH a hi) sl cs = (evE G Φ a sl cs).bind fun w cs => (evE G Φ hi sl cs).bind fun h cs => match h with
    | .d (.int j) => Rs.ofO (((pk w cs).bind fun d => slD d none (some j)).map .d) cs
    | _ => .stuck := rfl
@[simp] theorem eE_sl2 (a lo hi : E) : evE G Φ (.sl2 a lo hi) sl cs = (evE G Φ a sl cs).bind fun w cs => (evE G Φ lo sl cs).bind fun l cs => match l with
    | .d (.int i) => (evE G Φ hi sl cs).bind fun h cs => (match h with
      | .d (.int j) => Rs.ofO (((pk w cs).bind fun d => slD d (some i) (some j)).map .d) cs
      | _ => .stuck)
    | _ => .stuck := rfl
@[simp] theorem eE_chain (o o' : O) (a b c : E) : evE G Φ (.chain o o' a b c) sl cs = (evE G Φ a sl cs).bind fun x cs => (evE G Φ b sl cs).bind fun y cs => match pks [x, y] cs with
    | some ds => match sem G.isT o ds with
      | some (.bl true) => (evE G Φ c sl cs).bind fun z cs => match pks [y, z] cs with
        | some ds => match sem G.isT o' ds with
          | some d => .ok (.d d) cs
          | none => .stuck
        | none => .stuck
      | some (.bl false) => .ok (.d (.bl false)) cs
      | _ => .stuck
    | none => .stuck := rfl
@[simp] theorem eE_fld (a : E) (f : Str) : evE G Φ (.fld a f) sl cs = (evE G Φ a sl cs).bind fun w cs => match pk w cs with
    | some (.obj C ks vs) => if G.fld C f = true then Rs.ofO ((fget ks vs f).map .d) cs else .stuck
    | _ => .stuck := rfl
@[simp] theorem eE_meth (o : E) (m : Str) (es : List E) : evE G Φ (.meth o m es) sl cs = (evE G Φ o sl cs).bind fun w cs => match methF G m (pk w cs) with
    | some f => (evEs G Φ es sl cs).bind fun ws cs => callW (Φ f) (w :: ws) cs
    | none => .stuck := rfl
@[simp] theorem eE_make (C : Nat) (es : List E) : evE G Φ (.make C es) sl cs = (evEs G Φ es sl cs).bind fun ws cs => match G.meth C (Str.ofString "__init__") with
    | some f => (callW (Φ f) (.c cs.length :: ws) (cs ++ [.obj C [] []])).bind fun r cs' => match r with
      | .d .non => .ok (.c cs.length) cs'
      | _ => .stuck
    | none => .stuck := rfl
@[simp] theorem eE_dsp (mc : Bool) (ks : List Key) (es : List E) : evE G Φ (.dsp mc ks es) sl cs = match evEs G Φ es sl cs with
    | .ok ws cs => (match dats ws with
      | some ds => if ks.Nodup ∧ ks.length = ds.length ∧ ks.length ≤ 15 then (if mc = true then .ok (.c cs.length) (cs ++ [.dct ks ds]) else .ok (.d (.dct ks ds)) cs) else .stuck
      | none => .stuck)
    | _ => .stuck := rfl
@[simp] theorem eE_new0 (C : Nat) : evE G Φ (.new0 C) sl cs = if G.new0 C = true then .ok (.c cs.length) (cs ++ [.obj C [] []]) else .stuck := rfl
@[simp] theorem eE_opC (o : O) (es : List E) : evE G Φ (.opC o es) sl cs = (evEs G Φ es sl cs).bind fun ws cs => match pks ws cs with
    | some ds => match sem G.isT o ds with
      | some d => match toM d with
        | some m => .ok (.c cs.length) (cs ++ [m])
        | none => .stuck
      | none => .stuck
    | none => .stuck := rfl
@[simp] theorem eS_tryN (b : List S) (C : Nat) (h : List S) : evS G Φ (.try_ b C none h) sl cs = match evSs G Φ b sl cs with
    | .ex C' ks vs sl' cs' => match G.sub C' C with
      | some true => (match evSs G Φ h sl' cs' with
          | .ok f sl2 cs2 => .ok f sl2 cs2
          | .ex _ _ _ _ _ => .stuck
          | .stuck => .stuck)
      | some false => .ex C' ks vs sl' cs'
      | none => .stuck
    | r => r := rfl
@[simp] theorem sem_3 (isT : Nat → Nat → Option Bool) (o : O) (a b c : D) : sem isT o [a, b, c] = sem3 o a b c := rfl
@[simp] theorem eC_cons (e : E) (es : List E) : evC G Φ (e :: es) sl cs = (evE G Φ e sl cs).bind fun w cs => match (pk w cs).bind truth with
    | some true => evC G Φ es sl cs
    | some false => .ok false cs
    | none => .stuck := rfl
@[simp] theorem tr_lst (xs : List D) : truth (.lst xs) = some (!xs.isEmpty) := rfl
@[simp] theorem tr_tup (xs : List D) : truth (.tup xs) = some (!xs.isEmpty) := rfl
@[simp] theorem tr_non : truth .non = some false := rfl
end
@[simp] theorem le_lim4 : (4 : Nat) ≤ LIM := by decide
@[simp] theorem le_lim5 : (5 : Nat) ≤ LIM := by decide
@[simp] theorem le_lim6 : (6 : Nat) ≤ LIM := by decide
@[simp] theorem le_lim7 : (7 : Nat) ≤ LIM := by decide
@[simp] theorem le_lim8 : (8 : Nat) ≤ LIM := by decide
@[simp] theorem le_lim9 : (9 : Nat) ≤ LIM := by decide
@[simp] theorem le_lim10 : (10 : Nat) ≤ LIM := by decide
@[simp] theorem le_lim11 : (11 : Nat) ≤ LIM := by decide
@[simp] theorem le_lim12 : (12 : Nat) ≤ LIM := by decide
@[simp] theorem le_lim13 : (13 : Nat) ≤ LIM := by decide
@[simp] theorem le_lim14 : (14 : Nat) ≤ LIM := by decide
@[simp] theorem le_lim15 : (15 : Nat) ≤ LIM := by decide
@[simp] theorem le_lim16 : (16 : Nat) ≤ LIM := by decide
@[simp] theorem le_lim17 : (17 : Nat) ≤ LIM := by decide
@[simp] theorem le_lim18 : (18 : Nat) ≤ LIM := by decide
@[simp] theorem le_lim19 : (19 : Nat) ≤ LIM := by decide
@[simp] theorem le_lim20 : (20 : Nat) ≤ LIM := by decide
theorem callW_ci {f : List PD.W → List M → Rs PD.W} {i : Nat} {x v : D} {m m' : M} {cs : List M} (hi : cs[i]? = some m) (hd : m ≠ .dead) (h : f [.c 0, .d x] [m] = .ok (.d v) [m']) : callW f [.c i, .d x] cs = .ok (.d v) (cs.set i m') := by
  have r : rn [] [.c i, .d x] = ([.c 0, .d x], [i]) := rfl
  have t : takeAll cs [i] = some [m] := by
    unfold takeAll
    rw [hi]
    cases m <;> first | rfl | exact absurd rfl hd
  unfold callW
  rw [r]
  simp only [t, h]
  rfl
theorem runB_ret {G : Pg} {Φ : Nat → List PD.W → List M → Rs PD.W} {np ns : Nat} {b : List S} {ws : List PD.W} {cs cs' : List M} {sl : Sl} {w : PD.W} (hl : ws.length = np) (h : evSs G Φ b (ws.map some ++ List.replicate (ns - np) none) cs = .ok (.ret w) sl cs') : runB G Φ np ns b ws cs = .ok w cs' := by
  unfold runB
  rw [if_pos hl, h]
end PD
set_option Elab.async false
set_option linter.all false
set_option maxRecDepth 100000
set_option maxHeartbeats 4000000
namespace PD
open PySem PySem.Spec PyProof.Rows L2
section
variable {G : Pg} {Φ : Nat → List PD.W → List M → Rs PD.W} {sl : Sl} {cs : List M}
@[simp] theorem eE_fv (i : Nat) : evE G Φ (.fv i) sl cs = .ok (.d (.fnc i)) cs := rfl
@[simp] theorem eE_callv (j : Nat) (es : List E) : evE G Φ (.callv j es) sl cs = match sl[j]? with
    | some (some (.d (.fnc f))) => if G.fvs f = true then (evEs G Φ es sl cs).bind fun ws cs => callW (Φ f) ws cs else .stuck
    | _ => .stuck := rfl
@[simp] theorem eE_dspE (kes : List E) : evE G Φ (.dspE kes) sl cs = match evEs G Φ kes sl cs with
    | .ok ws cs => (match (dats ws).bind twosOf with
      | some ps => if ps.length ≤ 15 ∧ ps ≠ [] then .ok (.d (.dct (dmerge [] [] ps).1 (dmerge [] [] ps).2)) cs else .stuck
      | none => .stuck)
    | _ => .stuck := rfl
@[simp] theorem eS_ext (a e : E) : evS G Φ (.ext a e) sl cs = SR.of (evE G Φ a sl cs) sl fun o cs => if isLstC o cs = true then SR.of (evE G Φ e sl cs) sl fun w cs =>
      match o, pk w cs with
      | .c n, some (.lst ys) => match cs[n]? with
        | some (.lst xs) => if xs.length + ys.length ≤ LIM ∧ sameC o w = false then .ok .nx sl (cs.set n (.lst (xs ++ ys))) else .stuck
        | _ => .stuck
      | _, _ => .stuck
    else .stuck := rfl
@[simp] theorem eS_updD (a e : E) : evS G Φ (.updD a e) sl cs = SR.of (evE G Φ a sl cs) sl fun o cs => if isDctC o cs = true then SR.of (evE G Φ e sl cs) sl fun w cs =>
      match o, pk w cs with
      | .c n, some (.dct ks2 vs2) => match cs[n]? with
        | some (.dct ks vs) => if ks.length + ks2.length ≤ LIM ∧ sameC o w = false ∧ ks2.length = vs2.length then .ok .nx sl (cs.set n (.dct (dmerge ks vs (ks2.zip vs2)).1 (dmerge ks vs (ks2.zip vs2)).2)) else .stuck
        | _ => .stuck
      | _, _ => .stuck
    else .stuck := rfl
@[simp] theorem eS_popD (a e : E) : evS G Φ (.popD a e) sl cs = SR.of (evE G Φ a sl cs) sl fun o cs => if isDctC o cs = true then SR.of (evE G Φ e sl cs) sl fun w cs =>
      match o, w with
      | .c n, .d kd => match cs[n]?, keyOf kd with
        | some (.dct ks vs), some q => if (dget ks vs q).isSome = true then .ok .nx sl (cs.set n (.dct (ddrop ks vs q).1 (ddrop ks vs q).2)) else .stuck
        | _, _ => .stuck
      | _, _ => .stuck
    else .stuck := rfl
@[simp] theorem items_keys (ks : List Key) (vs : List D) : items .keys [.dct ks vs] = if ks.length = vs.length ∧ ks.length ≤ LIM then some (ks.map kD) else none := rfl
end
theorem callW_cds {f : List PD.W → List M → Rs PD.W} {i : Nat} {v : D} {m m' : M} {cs ms : List M} {ws : List PD.W} {ds : List D} (hd : dats ws = some ds) (hi : cs[i]? = some m) (hm : m ≠ .dead) (h : f (.c 0 :: ws) [m] = .ok (.d v) (m' :: ms)) : callW f (.c i :: ws) cs = .ok (.d v) (cs.set i m') := by
  have r : ∀ (ws : List PD.W) (ds : List D), dats ws = some ds → rn [i] ws = (ws, [i]) := fun ws => by
    induction ws with
    | nil => intro ds _; rfl
    | cons w ws ih =>
      intro ds e
      cases w with
      | d x =>
        have e : (dats ws).map (x :: ·) = some ds := e
        cases q : dats ws with
        | none => rw [q] at e; cases e
        | some r =>
          show ((PD.W.d x :: (rn [i] ws).1, (rn [i] ws).2) : List PD.W × List Nat) = _
          rw [ih r q]
      | c i => cases (show none = some ds from e)
  have e1 : rn [] (.c i :: ws) = (.c 0 :: ws, [i]) := by
    show ((PD.W.c 0 :: (rn [i] ws).1, (rn [i] ws).2) : List PD.W × List Nat) = _
    rw [r ws ds hd]
  have e2 : takeAll cs [i] = some [m] := by
    show (match cs[i]?, (some [] : Option (List M)) with | some .dead, _ => none | some m, some ms => some (m :: ms) | _, _ => none) = _
    rw [hi]
    cases m <;> first | rfl | exact absurd rfl hm
  unfold callW
  rw [e1]
  dsimp only
  rw [e2]
  dsimp only
  rw [h]
  show Rs.ok (PD.W.d v) (putAll (cs.set i m') [] ms) = _
  cases ms <;> rfl
theorem make_frz {G : Pg} {Φ : Nat → List PD.W → List M → Rs PD.W} {sl : Sl} {cs cs1 : List M} {C f : Nat} {es : List E} {ds : List D} {ks : List Str} {vs : List D} (hm : G.meth C (Str.ofString "__init__") = some f) (he : evEs G Φ es sl cs = .ok (ds.map .d) cs1) (h : Φ f (.c 0 :: ds.map .d) [.obj C [] []] = .ok (.d .non) [.obj C ks vs]) :
    evE G Φ (.frz (.make C es)) sl cs = .ok (.d (.obj C ks vs)) (cs1 ++ [.dead]) := by
  have hd : ∀ ds : List D, dats (ds.map .d) = some ds := fun ds => by
    induction ds with
    | nil => rfl
    | cons d ds ih => show (dats (ds.map .d)).map _ = _; rw [ih]; rfl
  have c := callW_cds (m := .obj C [] []) (cs := cs1 ++ [.obj C [] []]) (i := cs1.length) (hd ds) (by rw [List.getElem?_append_right (Nat.le_refl _), Nat.sub_self]; rfl) (fun z => nomatch z) h
  rw [eE_frz, eE_make, he]
  show (match G.meth C (Str.ofString "__init__") with | some f => _ | none => _ : Rs PD.W).bind _ = _
  rw [hm]
  show ((callW (Φ f) (.c cs1.length :: ds.map .d) (cs1 ++ [.obj C [] []])).bind _).bind _ = _
  rw [c]
  have e3 : (cs1 ++ [M.obj C [] []]).set cs1.length (.obj C ks vs) = cs1 ++ [.obj C ks vs] := by
    rw [List.set_append_right _ _ (Nat.le_refl _), Nat.sub_self]
    rfl
  rw [e3]
  show (match pk (.c cs1.length) (cs1 ++ [.obj C ks vs]) with | some d => Rs.ok (PD.W.d d) ((cs1 ++ [M.obj C ks vs]).set cs1.length .dead) | none => .stuck) = _
  have e4 : pk (.c cs1.length) (cs1 ++ [.obj C ks vs]) = some (.obj C ks vs) := by
    rw [pk_c, List.getElem?_append_right (Nat.le_refl _), Nat.sub_self]
    rfl
  rw [e4]
  show Rs.ok _ _ = _
  rw [List.set_append_right _ _ (Nat.le_refl _), Nat.sub_self]
  rfl
theorem new0_frz {G : Pg} {Φ : Nat → List PD.W → List M → Rs PD.W} {sl : Sl} {cs : List M} {C : Nat} (h : G.new0 C = true) : evE G Φ (.frz (.new0 C)) sl cs = .ok (.d (.obj C [] [])) (cs ++ [.dead]) := by
  rw [eE_frz, eE_new0, if_pos h]
  show (match pk (.c cs.length) (cs ++ [.obj C [] []]) with | some d => Rs.ok (PD.W.d d) ((cs ++ [M.obj C [] []]).set cs.length .dead) | none => .stuck) = _
  have e4 : pk (.c cs.length) (cs ++ [.obj C [] []]) = some (.obj C [] []) := by
    rw [pk_c, List.getElem?_append_right (Nat.le_refl _), Nat.sub_self]
    rfl
  rw [e4]
  show Rs.ok _ _ = _
  rw [List.set_append_right _ _ (Nat.le_refl _), Nat.sub_self]
  rfl
end PD
set_option Elab.async false
set_option linter.all false
set_option maxRecDepth 100000
set_option maxHeartbeats 40000000
set_option exponentiation.threshold 300
namespace PL
open PySem PySem.Spec PyProof.Rows L2 PD
abbrev WW := PD.W
theorem pow_le {a b : Nat} (h : a ≤ b) : 2 ^ a ≤ 2 ^ b := Nat.pow_le_pow_right (by omega) h
theorem up {x k m : Nat} (h : x < 2 ^ k) (hk : k ≤ m) : x < 2 ^ m := Nat.lt_of_lt_of_le h (pow_le hk)
theorem a_mul {i j : Int} {a b : Nat} (hi : i.natAbs < 2 ^ a) (hj : j.natAbs < 2 ^ b) (h : a ≤ 4000000 := by omega) (h' : b ≤ 4000000 := by omega) : arith .mul i j = some (.int (i * j)) := arith_mul (up hi h) (up hj h')
theorem a_fdiv {i j : Int} {b : Nat} (h0 : j ≠ 0) (hj : j.natAbs < 2 ^ b) (h : b ≤ 8999 := by omega) : arith .fdiv i j = some (.int (i.fdiv j)) := arith_fdiv h0 (up hj h)
@[simp] theorem a_add {i j : Int} : arith .add i j = some (.int (i + j)) := rfl
@[simp] theorem a_sub {i j : Int} : arith .sub i j = some (.int (i - j)) := rfl
@[simp] theorem a_lt {i j : Int} : arith .lt i j = some (.bl (decide (i < j))) := rfl
@[simp] theorem a_le {i j : Int} : arith .le i j = some (.bl (decide (i ≤ j))) := rfl
@[simp] theorem a_gt {i j : Int} : arith .gt i j = some (.bl (decide (j < i))) := rfl
@[simp] theorem a_ge {i j : Int} : arith .ge i j = some (.bl (decide (j ≤ i))) := rfl
@[simp] theorem add_i (i j : Int) : addD (.int i) (.int j) = some (.int (i + j)) := rfl
@[simp] theorem mul_i (i j : Int) : mulD (.int i) (.int j) = arith .mul i j := rfl
@[simp] theorem lt_i (i j : Int) : ltD (.int i) (.int j) = some (.bl (decide (i < j))) := rfl
theorem add_tup {xs ys : List D} (h : xs.length + ys.length ≤ LIM) : addD (.tup xs) (.tup ys) = some (.tup (xs ++ ys)) := if_pos h
theorem add_str {x y : Str} (h : x.length + y.length ≤ LIM) : addD (.str x) (.str y) = some (.str (x ++ y)) := if_pos h
@[simp] theorem ix_l (xs : List D) (i : Int) : ixD (.lst xs) (.int i) = atI xs i := rfl
@[simp] theorem ix_t (xs : List D) (i : Int) : ixD (.tup xs) (.int i) = atI xs i := rfl
@[simp] theorem at0 (a : D) (r : List D) : atI (a :: r) 0 = some a := by
  unfold atI ixN
  simp
@[simp] theorem at1 (a b : D) (r : List D) : atI (a :: b :: r) 1 = some b := by
  unfold atI ixN
  simp
  rw [if_pos (by omega)]
  rfl
@[simp] theorem at2 (a b c : D) (r : List D) : atI (a :: b :: c :: r) 2 = some c := by
  unfold atI ixN
  simp
  rw [if_pos (by omega)]
  rfl
def cpT : E := .op .gt [.v 1, .c (.int (0))]
def cpB : List S := [.asg (.t [.n 2, .n 3]) (.op .divmod [.v 0, .v 1]), .asg (.n 0) (.v 1), .asg (.n 1) (.v 3)]
section
variable {G : Pg} {I : Ix}
structure HFr (G : Pg) (I : Ix) : Prop where
  fuel : G.fuel = 100000
  cp : G.fns[I.f_common_part]? = some (2, 4, b_common_part)
  fr : G.fns[I.f_fraction]? = some (2, 3, b_fraction I)
def sg (b : Int) : Int := if b < 0 then -1 else 1
def rt (t b : Int) : Int := sg b * (t / (Int.gcd t b : Int))
def rb (t b : Int) : Int := sg b * (b / (Int.gcd t b : Int))
def fr (q : Rat) : D := .tup [.int q.num, .int q.den]
@[simp] theorem bT_fr (ts : List Tg) (q : Rat) (sl : Sl) : bindT (.t ts) (.d (fr q)) sl = bindTs ts [.int q.num, .int q.den] sl := rfl
def loT : E := .op .ne [.v 3, .c (.int (0))]
def loB : List S := [.par 2 3 (.v 3) (.op .mod [.v 2, .v 3])]
end
end PL
set_option Elab.async false
set_option linter.all false
set_option maxRecDepth 100000
set_option maxHeartbeats 4000000
set_option exponentiation.threshold 300
namespace PL
open PySem PySem.Spec PyProof.Rows L2 PD
def lf (q : Rat) : D := .lst [.int q.num, .int q.den]
def frp (p : Rat × Bool) : D := if p.2 then fr p.1 else lf p.1
def sz (k : Nat) (q : Rat) : Prop := q.num.natAbs < 2 ^ k ∧ q.den < 2 ^ k
def sumR (q : Rat) (rs : List Rat) : Rat := rs.foldl (· + ·) q
def prodR (q : Rat) (rs : List Rat) : Rat := rs.foldl (· * ·) q
section
variable {G : Pg} {I : Ix}
def adB (I : Ix) : List S := [.asg (.t [.n 1, .n 2]) (.call I.f_fraction [.op .add [.op .mul [.v 1, .op .ix [.v 3, .c (.int (1))]], .op .mul [.op .ix [.v 3, .c (.int (0))], .v 2]], .op .mul [.v 2, .op .ix [.v 3, .c (.int (1))]]])]
def tmB (I : Ix) : List S := [.asg (.t [.n 1, .n 2]) (.call I.f_fraction [.op .mul [.v 1, .op .ix [.v 3, .c (.int (0))]], .op .mul [.v 2, .op .ix [.v 3, .c (.int (1))]]])]
def lis (ns : List Int) : D := .lst (ns.map .int)
structure HT (G : Pg) : Prop where
  t : ∀ g ∈ [0, 1, 2, 3, 4, 5, 7], ∀ a ∈ [0, 1, 2, 3, 4, 5], G.isT g a = some (decide (g = a) || (decide (g = 1) && decide (a = 0)))
def tagB : D → Option Nat
  | .non => some 7
  | .bl _ => some 1
  | .int _ => some 0
  | .str _ => some 2
  | .tup _ => some 3
  | .lst _ => some 4
  | .dct _ _ => some 5
  | _ => none
theorem tagB_tag {d : D} {g : Nat} (h : tagB d = some g) : tag d = g ∧ g ∈ [0, 1, 2, 3, 4, 5, 7] := by
  cases d <;> first | (cases h; exact ⟨rfl, by decide⟩) | cases h
theorem HT.one (h : HT G) {d : D} {g a : Nat} (hd : tagB d = some g) (ha : a ∈ [0, 1, 2, 3, 4, 5]) : tyAny G.isT (tag d) [a] = some (decide (g = a) || (decide (g = 1) && decide (a = 0))) := by
  obtain ⟨e, hg⟩ := tagB_tag hd
  rw [e]
  unfold tyAny
  rw [h.t g hg a ha]
  cases (decide (g = a) || (decide (g = 1) && decide (a = 0))) <;> rfl
end
end PL
set_option Elab.async false
set_option linter.all false
set_option maxRecDepth 100000
set_option maxHeartbeats 4000000
set_option exponentiation.threshold 300
namespace PL
open PySem PySem.Spec PyProof.Rows L2 PD
def pr (p : Int × Int) : D := .tup [.int p.1, .int p.2]
def okP (k : Nat) (p : Int × Int) : Prop := p.1.natAbs < 2 ^ k ∧ 1 ≤ p.2 ∧ p.2.natAbs < 2 ^ k
section
variable {G : Pg} {I : Ix}
def prB (I : Ix) : List S := [.ite (.op .lt [.op .len [.v 4], .v 2]) [.asg (.n 7) (.op .ix [.lst [.c (.int (9)), .c (.int (60)), .v 3, .v 3], .op .mod [.call I.f_mix1 [.v 5, .op .mod [.v 6, .op .pow [.c (.int (10)), .c (.int (18))]]], .c (.int (4))]]), .asg (.n 8) (.op .sub [.op .mod [.v 6, .op .add [.op .mul [.c (.int (2)), .v 7], .c (.int (1))]], .v 7]), .asg (.n 9) (.op .fdiv [.v 6, .op .add [.op .mul [.c (.int (2)), .v 7], .c (.int (1))]]), .ite (.op .lt [.v 6, .op .pow [.c (.int (10)), .c (.int (18))]]) [.asg (.n 9) (.op .add [.v 9, .op .mul [.call I.f_mix1 [.v 5, .op .mod [.v 8, .op .pow [.c (.int (10)), .c (.int (9))]]], .op .pow [.c (.int (1000000007)), .c (.int (3))]]])] [], .app (.v 4) (.tup [.v 8, .op .add [.c (.int (1)), .op .mod [.v 9, .v 7]]])] []]
theorem emod_bd (c : Int) {m : Int} (h : 0 < m) : 0 ≤ c.fmod m ∧ c.fmod m < m := by
  rw [Int.fmod_eq_emod_of_nonneg _ (by omega)]
  exact ⟨Int.emod_nonneg _ (by omega), Int.emod_lt_of_pos _ h⟩
theorem cut_from (ns : List D) (k : Nat) : PD.cutD ns (some (k : Int)) none = ns.drop k := by
  unfold PD.cutD
  rw [HT.sIx_nat, HT.sIx_none]
  by_cases h : k ≤ ns.length
  · rw [Nat.min_eq_left h, List.take_of_length_le (by rw [List.length_drop]; omega)]
  · rw [Nat.min_eq_right (by omega), List.drop_of_length_le (Nat.le_refl _), List.drop_of_length_le (by omega), List.take_nil]
end
end PL
set_option Elab.async false
set_option linter.all false
set_option maxRecDepth 100000
set_option maxHeartbeats 4000000
set_option exponentiation.threshold 300
namespace PL
open PySem PySem.Spec PyProof.Rows L2 PD
def pl (k : Nat) (d : D) : Prop := (py d).plain = true ∧ (py d).depth ≤ k
theorem pl_mono {k m : Nat} {d : D} (h : pl k d) (hk : k ≤ m) : pl m d := ⟨h.1, Nat.le_trans h.2 hk⟩
theorem pl_int (i : Int) : pl 0 (.int i) := ⟨rfl, Nat.le_refl _⟩
theorem pl_str (i : Str) : pl 0 (.str i) := ⟨rfl, Nat.le_refl _⟩
theorem pls {k : Nat} : ∀ {ds : List D}, (∀ d ∈ ds, pl k d) → PyData.plainAll (pys ds) = true ∧ PyData.depthAll (pys ds) ≤ k
  | [], _ => ⟨rfl, Nat.zero_le _⟩
  | d :: ds, h => by
    obtain ⟨h1, h2⟩ := h d List.mem_cons_self
    obtain ⟨h3, h4⟩ := pls fun d hd => h d (List.mem_cons_of_mem _ hd)
    refine ⟨?_, ?_⟩
    · show ((py d).plain && PyData.plainAll (pys ds)) = true
      rw [h1, h3]; rfl
    · show max (py d).depth (PyData.depthAll (pys ds)) ≤ k
      exact Nat.max_le.mpr ⟨h2, h4⟩
theorem pl_tup {k : Nat} {ds : List D} (h : ∀ d ∈ ds, pl k d) : pl (k + 1) (.tup ds) := ⟨(pls h).1, Nat.succ_le_succ (pls h).2⟩
theorem pl_ok {k : Nat} {d : D} (h : pl k d) (hk : k ≤ 60 := by omega) : plainD d = true := by
  unfold plainD
  rw [h.1, Bool.true_and]
  exact decide_eq_true (Nat.le_trans h.2 hk)
theorem compL_mapA {α : Type} {f : D → List M → Rs (Option D)} {e : α → D} {g : α → D} {cs : List M} : ∀ {xs : List α} {acc : List D}, (∀ x ∈ xs, f (e x) cs = .ok (some (g x)) cs) → compL f (xs.map e) acc cs = .ok (acc ++ xs.map g) cs
  | [], acc, _ => by simp
  | x :: xs, acc, h => by
    rw [List.map_cons, compL_c, h x List.mem_cons_self]
    show compL f (xs.map e) (acc ++ [g x]) cs = _
    rw [compL_mapA fun d hd => h d (List.mem_cons_of_mem _ hd)]
    simp
theorem cut_to (ns : List D) (k : Nat) : PD.cutD ns none (some (k : Int)) = ns.take k := by
  unfold PD.cutD
  rw [HT.sIx_nat, HT.sIx_none, List.drop_zero, Nat.sub_zero]
  by_cases h : k ≤ ns.length
  · rw [Nat.min_eq_left h]
  · rw [Nat.min_eq_right (by omega), List.take_of_length_le (Nat.le_refl _), List.take_of_length_le (by omega)]
theorem sl_to (ns : List D) (k : Nat) : slD (.lst ns) none (some (k : Int)) = some (.lst (ns.take k)) := by
  show some (D.lst (PD.cutD _ _ _)) = _
  rw [cut_to]
theorem sl_from (ns : List D) (k : Nat) : slD (.lst ns) (some (k : Int)) none = some (.lst (ns.drop k)) := by
  show some (D.lst (PD.cutD _ _ _)) = _
  rw [cut_from]
section
variable {G : Pg} {I : Ix}
end
end PL
set_option Elab.async false
set_option linter.all false
set_option maxRecDepth 100000
set_option maxHeartbeats 4000000
set_option exponentiation.threshold 300
namespace PL
open PySem PySem.Spec PyProof.Rows L2 PD
section
variable {G : Pg} {I : Ix}
end
end PL
set_option Elab.async false
set_option linter.all false
set_option maxRecDepth 100000
set_option maxHeartbeats 4000000
set_option exponentiation.threshold 300
namespace PL
open PySem PySem.Spec PyProof.Rows L2 PD
mutual
def gd (k : Nat) : D → Prop
  | .non => True
  | .bl _ => True
  | .int i => i.natAbs < 2 ^ k
  | .str _ => True
  | .tup xs => gds k xs
  | .lst xs => gds k xs
  | .dct ks _ => ks = []
  | .obj _ _ _ => False
  | .exc _ _ _ => False
  | .fnc _ => False
def gds (k : Nat) : List D → Prop
  | [] => True
  | d :: ds => gd k d ∧ gds k ds
end
def isInt : D → Bool
  | .int _ => true
  | _ => false
def isPart : D → Bool
  | .tup [.int t, .int b] => decide (0 < t) && (decide (0 < b) && (((Rat.divInt t b).num == t) && (((Rat.divInt t b).den : Int) == b)))
  | _ => false
def partQ : D → Rat
  | .tup [.int t, .int b] => Rat.divInt t b
  | _ => 0
def areShares : D → Bool
  | .tup xs => decide (1 ≤ xs.length ∧ xs.length ≤ 6) && (xs.all isPart && decide (sumR 0 (xs.map partQ) = 1))
  | _ => false
section
variable {G : Pg} {I : Ix}
structure HSh (G : Pg) (I : Ix) : Prop where
  fr : HFr G I
  t : HT G
  add : G.fns[I.f_add_all]? = some (1, 4, b_add_all I)
  whole : G.fns[I.f_is_whole]? = some (1, 1, b_is_whole)
  part : G.fns[I.f_is_part]? = some (1, 2, b_is_part I)
  are : G.fns[I.f_are_shares]? = some (1, 2, b_are_shares I)
  most : G.csts[I.k_MOST_SHARES]? = some (.int 6)
end
end PL
set_option Elab.async false
set_option linter.all false
set_option maxRecDepth 100000
set_option maxHeartbeats 4000000
set_option exponentiation.threshold 300
namespace PL
open PySem PySem.Spec PyProof.Rows L2 PD
def L (x : Str) : List Nat := x.cps.toList
def mk (l : List Nat) : Str := ⟨l.toArray⟩
@[simp] theorem L_mk (l : List Nat) : L (mk l) = l := rfl
@[simp] theorem mk_L (x : Str) : mk (L x) = x := by
  unfold mk L
  rw [Array.toArray_toList]
theorem L_inj {x y : Str} (h : L x = L y) : x = y := by rw [← mk_L x, ← mk_L y, h]
theorem L_app (x y : Str) : L (x ++ y) = L x ++ L y := by
  unfold L
  rw [Str.cps_append, Array.toList_append]
theorem len_L (x : Str) : x.length = (L x).length := by
  unfold L Str.length
  rw [Array.length_toList]
@[simp] theorem len_mk (l : List Nat) : (mk l).length = l.length := len_L _
theorem mk_app (a b : List Nat) : mk a ++ mk b = mk (a ++ b) := L_inj (by rw [L_app]; rfl)
theorem mk_inj {a b : List Nat} (h : mk a = mk b) : a = b := congrArg L h
theorem eq_str (x y : Str) : eqD (.str x) (.str y) = decide (L x = L y) := by
  show (x == y) = _
  by_cases h : L x = L y
  · rw [decide_eq_true h, L_inj h, beq_self_eq_true]
  · rw [decide_eq_false h]
    exact beq_eq_false_iff_ne.mpr fun z => h (by rw [z])
theorem in_one (c : Nat) (y : Str) : inD (.str ⟨#[c]⟩) (.str y) = some (decide (c ∈ L y)) := by
  show some (!(Builtin.Str.occurrences y ⟨#[c]⟩ 0 y.length 1).isEmpty) = _
  congr 1
  have h := StrLaws.found_iff y ⟨#[c]⟩
  by_cases hm : c ∈ L y
  · rw [decide_eq_true hm]
    obtain ⟨i, hi⟩ := List.getElem?_of_mem hm
    exact h.mpr ⟨i, (StrLaws.subAt_one y c i).mpr hi⟩
  · rw [decide_eq_false hm]
    rw [Bool.eq_false_iff]
    intro z
    obtain ⟨i, hi⟩ := h.mp z
    exact hm (List.mem_of_getElem? ((StrLaws.subAt_one y c i).mp hi))
def spl (c : Nat) : List Nat → List (List Nat)
  | [] => [[]]
  | a :: l => if a = c then [] :: spl c l else match spl c l with
    | p :: r => (a :: p) :: r
    | [] => [[a]]
def joinL (c : Nat) : List (List Nat) → List Nat
  | [] => []
  | [p] => p
  | p :: q :: r => p ++ c :: joinL c (q :: r)
theorem cutS_to (x : Str) (k : Nat) : L2.cutS x none (some (k : Int)) = mk ((L x).take k) := by
  unfold L2.cutS
  rw [HT.sIx_nat, HT.sIx_none, List.drop_zero, Nat.sub_zero, len_L]
  by_cases h : k ≤ (L x).length
  · rw [Nat.min_eq_left h]; rfl
  · rw [Nat.min_eq_right (by omega)]
    show mk ((L x).take (L x).length) = _
    rw [List.take_of_length_le (Nat.le_refl _), List.take_of_length_le (by omega)]
theorem cutS_from (x : Str) (k : Nat) : L2.cutS x (some (k : Int)) none = mk ((L x).drop k) := by
  unfold L2.cutS
  rw [HT.sIx_nat, HT.sIx_none, len_L]
  by_cases h : k ≤ (L x).length
  · rw [Nat.min_eq_left h]
    show mk (((L x).drop k).take _) = _
    rw [List.take_of_length_le (by rw [List.length_drop]; exact Nat.le_refl _)]
  · rw [Nat.min_eq_right (by omega)]
    show mk (((L x).drop (L x).length).take _) = _
    rw [List.drop_of_length_le (Nat.le_refl _), List.drop_of_length_le (by omega), List.take_nil]
open NumText
def dig (n : Nat) : List Nat := if h : n < 10 then [48 + n] else dig (n / 10) ++ [48 + n % 10]
termination_by n
decreasing_by omega
def digI (i : Int) : List Nat := if i < 0 then 45 :: dig i.natAbs else dig i.natAbs
end PL
set_option Elab.async false
set_option linter.all false
set_option maxRecDepth 100000
set_option maxHeartbeats 4000000
set_option exponentiation.threshold 300
namespace PL
open PySem PySem.Spec PyProof.Rows L2 PD NumText
theorem s0 : ("" : Str) = mk [] := by decide +kernel
theorem sfig : ("0123456789" : Str) = mk [48, 49, 50, 51, 52, 53, 54, 55, 56, 57] := by decide +kernel
def txt (q : Rat) : List Nat := if q.den = 1 then digI q.num else digI q.num ++ 47 :: dig q.den
section
variable {G : Pg} {I : Ix}
def isDg (c : Nat) : Bool := decide (48 ≤ c) && decide (c ≤ 57)
def isNum (l : List Nat) : Bool := decide (1 ≤ l.length) && decide (l.length ≤ 40) && l.all isDg && (decide (l = [48]) || decide (l.head? ≠ some 48))
theorem isBls_map {α : Type} (f : α → Bool) : ∀ l : List α, isBls (l.map fun x => .bl (f x)) = some (l.map f)
  | [] => rfl
  | a :: l => by
    show (isBls (l.map _)).map _ = _
    rw [isBls_map f l]; rfl
structure HNum (G : Pg) (I : Ix) : Prop where
  fn : G.fns[I.f_number_of]? = some (1, 2, b_number_of I)
  fig : G.csts[I.k_FIGURES]? = some (.str "0123456789")
  most : G.csts[I.k_MOST_FIGURES]? = some (.int 40)
theorem str_items {l : List Nat} (h : l.length ≤ LIM) : items .str [.str (mk l)] = some (l.map fun c => .str (mk [c])) := by
  show (if (mk l).length ≤ LIM then some ((mk l).cps.toList.map fun c => D.str ⟨#[c]⟩) else none) = _
  rw [len_mk, if_pos h]
  rfl
theorem len_str {l : List Nat} (h : l.length ≤ LIM) : lenD (.str (mk l)) = some (.int l.length) := by
  show (if (mk l).length ≤ LIM then some (D.int (mk l).length) else none) = _
  rw [len_mk, if_pos h]
end
end PL
set_option Elab.async false
set_option linter.all false
set_option maxRecDepth 100000
set_option maxHeartbeats 4000000
set_option exponentiation.threshold 300
namespace PL
open PySem PySem.Spec PyProof.Rows L2 PD NumText
def neg (l : List Nat) : Bool := decide (l.head? = some 45)
def body (l : List Nat) : List Nat := if neg l = true then l.drop 1 else l
def fst47 (b : List Nat) : List Nat := b.takeWhile (· != 47)
def snd47 (b : List Nat) : List Nat := (b.dropWhile (· != 47)).drop 1
def parse (b : List Nat) : Option (Nat × Option Nat) :=
  if 47 ∈ b then (if isNum (fst47 b) = true then (if isNum (snd47 b) = true then some (digitsVal (fst47 b), some (digitsVal (snd47 b))) else none) else none)
  else if isNum b = true then some (digitsVal b, none) else none
def sgn (n : Bool) (a : Nat) : Int := if n = true then -(a : Int) else a
def rdS (l : List Nat) : Option Rat := match parse (body l) with
  | none => none
  | some (a, o) => if o.getD 1 = 0 then none else if txt (Rat.divInt (sgn (neg l) a) (o.getD 1 : Nat)) = l then some (Rat.divInt (sgn (neg l) a) (o.getD 1 : Nat)) else none
def dueB (l : List Nat) (a : Nat) (o : Option Nat) : Bool :=
  !(decide (o.getD 1 = 0) || (decide (o = some 1) || (decide (sgn (neg l) a = 0) && !decide (l = [48]))))
end PL
set_option Elab.async false
set_option linter.all false
set_option maxRecDepth 100000
set_option maxHeartbeats 4000000
set_option exponentiation.threshold 300
namespace PL
open PySem PySem.Spec PyProof.Rows L2 PD NumText
section
variable {G : Pg} {I : Ix}
structure HRd (G : Pg) (I : Ix) : Prop where
  fr : HFr G I
  num : HNum G I
  t : HT G
  txt : G.fns[I.f_fraction_text]? = some (1, 1, b_fraction_text)
  rd : G.fns[I.f_read_fraction]? = some (1, 6, b_read_fraction I)
def rdTail (I : Ix) : List S := [.ite (.bm .startswith (.v 0) [.c (.str "-")]) [.asg (.n 1) (.op .neg [.v 1])] [],
  .ite (.or_ (.op .eq [.v 2, .c (.int (0))]) (.op .ne [.call I.f_fraction_text [.call I.f_fraction [.v 1, .v 2]], .v 0])) [.rais I.c_NoFraction [.c (.str "not as it is written")]] [],
  .ret (.tup [.v 1, .v 2])]
def rdR (I : Ix) (o : Option Rat) : Rs PD.W := match o with
  | some q => .ok (.d (fr q)) []
  | none => .ex I.c_NoFraction [] [] []
end
end PL
set_option Elab.async false
set_option linter.all false
set_option maxRecDepth 100000
set_option maxHeartbeats 4000000
set_option exponentiation.threshold 300
namespace PL
open PySem PySem.Spec PyProof.Rows L2 PD
section
variable {G : Pg} {I : Ix}
theorem bits_lt {z : Int} {n : Nat} (h : Builtin.Int.intBits z ≤ n) : z.natAbs < 2 ^ n := by
  unfold Builtin.Int.intBits at h
  by_cases h0 : z = 0
  · subst h0; exact Nat.two_pow_pos n
  · rw [if_neg (by simpa using h0)] at h
    exact (Nat.log2_lt (by omega)).mp (by omega)
theorem callW_new {f : List PD.W → List M → Rs PD.W} {a : D} {m : M} {cs : List M} (h : f [.d a] [] = .ok (.c 0) [m]) : callW f [.d a] cs = .ok (.c cs.length) (cs ++ [m]) := by
  have e : putAll cs [] [m] = cs := rfl
  unfold callW
  rw [rn_dats [.d a] [a] rfl]
  simp only [takeAll, h, e]
  rfl
theorem mix2_ok (h : G.fns[I.f_mix2]? = some (2, 3, b_mix2)) (n : Nat) (s u k : Int) (hs : 0 ≤ s) (hs2 : s < 2147483647) (hu : 0 ≤ u) (hk : k.natAbs < 2 ^ 2000000) : ∃ s' u' v : Int, PD.call G (n + 1) I.f_mix2 [.c 0, .d (.int k)] [.lst [.int s, .int u]] = .ok (.d (.int v)) [.lst [.int s', .int u']] ∧ 0 ≤ s' ∧ s' < 2147483647 ∧ 0 ≤ u' ∧ 0 ≤ v ∧ v < 1000000000 := by
  rw [call_at h]
  have big : ∀ {x : Int}, 0 ≤ x → x < 18446744073709551616 → x.natAbs < 2 ^ 64 := fun {x} h1 h2 => by omega
  have m1 : arith .mul s 48271 = some (.int (s * 48271)) := a_mul (big hs (by omega)) (big (by omega) (by omega))
  have m2 : arith .mul k 16807 = some (.int (k * 16807)) := a_mul hk (big (by omega) (by omega))
  obtain ⟨h1, h2⟩ := emod_bd (s * 48271 + k * 16807 + 11) (m := 2147483647) (by omega)
  have d1 : arith .mod (s * 48271 + k * 16807 + 11) 2147483647 = some (.int ((s * 48271 + k * 16807 + 11).fmod 2147483647)) := arith_mod (by omega)
  generalize (s * 48271 + k * 16807 + 11).fmod 2147483647 = s' at *
  have m3 : arith .mul s' s' = some (.int (s' * s')) := a_mul (big h1 (by omega)) (big h1 (by omega))
  obtain ⟨v1, v2⟩ := emod_bd (s' * s') (m := 2147483647) (by omega)
  have d2 : arith .mod (s' * s') 2147483647 = some (.int ((s' * s').fmod 2147483647)) := arith_mod (by omega)
  generalize (s' * s').fmod 2147483647 = v at *
  have d3 : arith .fdiv v 5 = some (.int (v.fdiv 5)) := a_fdiv (b := 3) (by omega) (by decide)
  have pw18 : arith .pow 10 18 = some (.int 1000000000000000000) := rfl
  have pw9 : arith .pow 10 9 = some (.int 1000000000) := rfl
  have n0 : ixN 2 0 = some 0 := rfl
  have n1 : ixN 2 1 = some 1 := rfl
  -- the second part
  obtain ⟨w, hw, ew⟩ : ∃ w : Int, 0 ≤ w ∧ w = if 1000000000000000000 ≤ k then k - 1000000000000000000 else u := ⟨_, by split <;> omega, rfl⟩
  have d4 : arith .mod w 1000000000 = some (.int (w.fmod 1000000000)) := arith_mod (by omega)
  have d5 : arith .fdiv w 1000000000 = some (.int (w.fdiv 1000000000)) := a_fdiv (b := 30) (by omega) (by decide)
  obtain ⟨w1, w2⟩ := emod_bd w (m := 1000000000) (by omega)
  have wf : 0 ≤ w.fdiv 1000000000 := by rw [Int.fdiv_eq_ediv_of_nonneg _ (by omega)]; omega
  by_cases hz : w = 0
  · refine ⟨s', w, v.fdiv 5, ?_, h1, h2, hw, by rw [Int.fdiv_eq_ediv_of_nonneg _ (by omega)]; omega, by rw [Int.fdiv_eq_ediv_of_nonneg _ (by omega)]; omega⟩
    by_cases hc : 1000000000000000000 ≤ k
    · rw [if_pos hc] at ew
      have ez : k - 1000000000000000000 = 0 := by omega
      have eq0 : (w == 0) = true := by rw [hz]; rfl
      simp [runB, b_mix2, opR, sem2, mulD, arD, addD, ixD, pk_c, mD, n0, n1, m1, m2, d1, m3, d2, d3, pw18, pw9, hc, plain_int, eqD_int, ← ew, eq0]
    · rw [if_neg hc] at ew
      have eq0 : (w == 0) = true := by rw [hz]; rfl
      simp [runB, b_mix2, opR, sem2, mulD, arD, addD, ixD, pk_c, mD, n0, n1, m1, m2, d1, m3, d2, d3, pw18, pw9, hc, plain_int, eqD_int, ← ew, eq0]
  · refine ⟨s', w.fdiv 1000000000, w.fmod 1000000000, ?_, h1, h2, wf, w1, w2⟩
    have eq0 : (w == 0) = false := beq_eq_false_iff_ne.mpr hz
    by_cases hc : 1000000000000000000 ≤ k
    · rw [if_pos hc] at ew
      simp [runB, b_mix2, opR, sem2, mulD, arD, addD, ixD, pk_c, mD, n0, n1, m1, m2, d1, m3, d2, d3, d4, d5, pw18, pw9, hc, plain_int, eqD_int, ← ew, eq0]
    · rw [if_neg hc] at ew
      simp [runB, b_mix2, opR, sem2, mulD, arD, addD, ixD, pk_c, mD, n0, n1, m1, m2, d1, m3, d2, d3, d4, d5, pw18, pw9, hc, plain_int, eqD_int, ← ew, eq0]
theorem begun_ok (h : G.fns[I.f_begun]? = some (1, 1, b_begun)) (n : Nat) (c : Int) : ∃ s u : Int, PD.call G (n + 1) I.f_begun [.d (.int c)] [] = .ok (.c 0) [.lst [.int s, .int u]] ∧ 0 ≤ s ∧ s < 2147483647 ∧ 0 ≤ u := by
  rw [call_at h]
  obtain ⟨h1, h2⟩ := emod_bd c (m := 2147483646) (by omega)
  have d1 : arith .mod c 2147483646 = some (.int (c.fmod 2147483646)) := arith_mod (by omega)
  have pw18 : arith .pow 10 18 = some (.int 1000000000000000000) := rfl
  refine ⟨1 + c.fmod 2147483646, if c - 1000000000000000000 > 0 then c - 1000000000000000000 else 0, ?_, by omega, by omega, by split <;> omega⟩
  simp [runB, b_begun, opR, sem2, arD, addD, maxD, d1, pw18]
def prB2 (I : Ix) : List S := [.ite (.op .lt [.op .len [.v 4], .v 2]) [.asg (.n 7) (.op .ix [.lst [.c (.int (9)), .c (.int (60)), .v 3, .v 3], .op .mod [.call I.f_mix2 [.v 5, .op .mod [.v 6, .op .pow [.c (.int (10)), .c (.int (18))]]], .c (.int (4))]]), .asg (.n 8) (.op .sub [.op .mod [.v 6, .op .add [.op .mul [.c (.int (2)), .v 7], .c (.int (1))]], .v 7]), .asg (.n 9) (.op .fdiv [.v 6, .op .add [.op .mul [.c (.int (2)), .v 7], .c (.int (1))]]), .ite (.op .lt [.v 6, .op .pow [.c (.int (10)), .c (.int (18))]]) [.asg (.n 9) (.op .add [.v 9, .op .mul [.call I.f_mix2 [.v 5, .op .mod [.v 8, .op .pow [.c (.int (10)), .c (.int (9))]]], .op .pow [.c (.int (1000000007)), .c (.int (3))]]])] [], .app (.v 4) (.tup [.v 8, .op .add [.c (.int (1)), .op .mod [.v 9, .v 7]]])] []]
end
end PL
set_option Elab.async false
set_option linter.all false
set_option maxRecDepth 100000
set_option maxHeartbeats 4000000
set_option exponentiation.threshold 300
namespace PL
open PySem PySem.Spec PyProof.Rows L2 PD NumText
theorem atc0 (c : Nat) (r : List Nat) : atI (c :: r) 0 = some c := by
  unfold atI ixN
  simp
theorem ix_c0 (c : Nat) (r : List Nat) (h : (c :: r).length ≤ LIM) : ixD (.str (mk (c :: r))) (.int 0) = some (.str (mk [c])) := by
  show (if (mk (c :: r)).length ≤ LIM then (atI (c :: r) 0).map fun c => D.str ⟨#[c]⟩ else none) = _
  rw [len_mk, if_pos h, atc0]
  rfl
theorem sl_to_s (l : List Nat) (k : Nat) (h : l.length ≤ LIM) : slD (.str (mk l)) none (some (k : Int)) = some (.str (mk (l.take k))) := by
  show (if (mk l).length ≤ LIM then some (D.str (L2.cutS (mk l) none (some (k : Int)))) else none) = _
  rw [len_mk, if_pos h, cutS_to]
  rfl
theorem sl_from_s (l : List Nat) (k : Nat) (h : l.length ≤ LIM) : slD (.str (mk l)) (some (k : Int)) none = some (.str (mk (l.drop k))) := by
  show (if (mk l).length ≤ LIM then some (D.str (L2.cutS (mk l) (some (k : Int)) none)) else none) = _
  rw [len_mk, if_pos h, cutS_from]
  rfl
theorem add_mk {a b : List Nat} (h : a.length + b.length ≤ LIM) : addD (.str (mk a)) (.str (mk b)) = some (.str (mk (a ++ b))) := by
  rw [add_str (by rw [len_mk, len_mk]; exact h), mk_app]
end PL
set_option Elab.async false
set_option linter.all false
set_option maxRecDepth 100000
set_option maxHeartbeats 4000000
set_option exponentiation.threshold 300
namespace PL
open PySem PySem.Spec PyProof.Rows L2 PD
def okZ (size : Int) (p : Int × Int) : Prop := p.1.natAbs ≤ size.natAbs ∧ 1 ≤ p.2 ∧ p.2 ≤ size
section
variable {G : Pg} {I : Ix}
end
end PL
set_option Elab.async false
set_option linter.all false
set_option maxRecDepth 100000
set_option maxHeartbeats 4000000
set_option exponentiation.threshold 300
namespace PL
open PySem PySem.Spec PyProof.Rows L2 PD NumText
def keptS : List Str := ["yes", "no", "not", "and", "or", "set", "draw", "see", "if", "else", "repeat", "end", "helper", "give", "main"]
def twosS : List Str := ["plus", "minus", "times", "same", "less", "and", "or"]
def isLow (c : Nat) : Bool := decide (97 ≤ c) && decide (c ≤ 122)
def isLd (c : Nat) : Bool := isLow c || isDg c
def headLow : List Nat → Bool
  | c :: _ => isLow c
  | [] => false
def isNameL (l : List Nat) : Bool := decide (1 ≤ l.length) && decide (l.length ≤ 8) && !decide (l ∈ keptS.map L) && headLow l && l.all isLd
theorem slet : ("abcdefghijklmnopqrstuvwxyz" : Str) = mk [97, 98, 99, 100, 101, 102, 103, 104, 105, 106, 107, 108, 109, 110, 111, 112, 113, 114, 115, 116, 117, 118, 119, 120, 121, 122] := by decide +kernel
def lets : List Nat := [97, 98, 99, 100, 101, 102, 103, 104, 105, 106, 107, 108, 109, 110, 111, 112, 113, 114, 115, 116, 117, 118, 119, 120, 121, 122]
def figs : List Nat := [48, 49, 50, 51, 52, 53, 54, 55, 56, 57]
theorem mem_lets (c : Nat) : decide (c ∈ lets) = isLow c := by
  unfold isLow lets
  rw [← Bool.decide_and, decide_eq_decide]
  simp
  omega
theorem mem_figs (c : Nat) : decide (c ∈ figs) = isDg c := by
  unfold isDg figs
  rw [← Bool.decide_and, decide_eq_decide]
  simp
  omega
theorem low_in (c : Nat) : inD (.str (mk [c])) (.str (mk lets)) = some (isLow c) := by
  refine (in_one c _).trans ?_
  rw [L_mk, mem_lets]
theorem ld_in (c : Nat) : inD (.str (mk [c])) (.str (mk (lets ++ figs))) = some (isLd c) := by
  refine (in_one c _).trans ?_
  rw [L_mk]
  congr 1
  unfold isLd
  rw [← mem_lets, ← mem_figs, ← Bool.decide_or, decide_eq_decide, List.mem_append]
theorem in_texts (l : List Nat) (xs : List Str) : inD (.str (mk l)) (.lst (xs.map .str)) = some (decide (l ∈ xs.map L)) := by
  show (if plainD (.str (mk l)) && (xs.map D.str).all plainD then some ((xs.map D.str).any (eqD · (.str (mk l)))) else none) = _
  have h : (plainD (.str (mk l)) && (xs.map D.str).all plainD) = true := by
    rw [Bool.and_eq_true]
    refine ⟨rfl, List.all_eq_true.mpr fun d hd => ?_⟩
    obtain ⟨x, _, rfl⟩ := List.mem_map.mp hd
    rfl
  rw [if_pos h]
  congr 1
  rw [Bool.eq_iff_iff, List.any_eq_true, decide_eq_true_eq]
  constructor
  · rintro ⟨d, hd, e⟩
    obtain ⟨x, hx, rfl⟩ := List.mem_map.mp hd
    rw [eq_str, L_mk] at e
    exact List.mem_map.mpr ⟨x, hx, of_decide_eq_true e⟩
  · intro h
    obtain ⟨x, hx, e⟩ := List.mem_map.mp h
    exact ⟨.str x, List.mem_map.mpr ⟨x, hx, rfl⟩, by rw [eq_str, L_mk]; exact decide_eq_true e⟩
section
variable {G : Pg} {I : Ix}
structure HNm (G : Pg) (I : Ix) : Prop where
  t : HT G
  nm : G.fns[I.f_is_name]? = some (1, 2, b_is_name I)
  most : G.csts[I.k_MOST_SIGNS]? = some (.int 8)
  kept : G.csts[I.k_KEPT]? = some (.lst (keptS.map .str))
  lets : G.csts[I.k_LETTERS]? = some (.str "abcdefghijklmnopqrstuvwxyz")
theorem is_name_str (h : HNm G I) (n : Nat) (l : List Nat) (hl : l.length ≤ LIM) : PD.call G (n + 1) I.f_is_name [.d (.str (mk l))] [] = .ok (.d (.bl (isNameL l))) [] := by
  rw [call_at h.nm]
  have i2 := h.t.one (d := .str (mk l)) rfl (a := 2) (by decide)
  have g1 := h.most
  have g2 := h.kept
  have g3 := h.lets
  rw [slet] at g3
  have g3 : G.csts[I.k_LETTERS]? = some (.str (mk lets)) := g3
  have ln := len_str hl
  have si := str_items hl
  have ik := in_texts l keptS
  have e1 : decide ((1 : Int) ≤ (l.length : Int)) = decide (1 ≤ l.length) := by rw [decide_eq_decide]; omega
  have e2 : decide ((l.length : Int) ≤ 8) = decide (l.length ≤ 8) := by rw [decide_eq_decide]; omega
  have ad : addD (.str (mk lets)) (.str (mk figs)) = some (.str (mk (lets ++ figs))) := add_mk (by decide)
  have sf : ("0123456789" : Str) = mk figs := sfig
  have CL : compL (cF G (PD.call G n) [some (.d (.str (mk l))), none] [1] (.n 1) [] (.op .in_ [.v 1, .op .add [.g I.k_LETTERS, .c (.str "0123456789")]])) (l.map fun c => .str (mk [c])) [] [] = .ok ([] ++ l.map fun c => .bl (isLd c)) [] := compL_mapA fun c _ => by
    simp [cF, opR, sem2, g3, sf, ad, ld_in]
  rw [List.nil_append] at CL
  have al : allD (.lst (l.map fun c => .bl (isLd c))) = some (.bl (l.all isLd)) := by
    show (isBls _).map _ = _
    rw [isBls_map]
    simp [List.all_map]
  generalize (l.map fun c => D.bl (isLd c)) = us at *
  generalize (l.map fun c => D.str (mk [c])) = vs at *
  unfold isNameL
  generalize hk : decide (l ∈ keptS.map L) = kb at *
  generalize keptS.map D.str = ks at *
  cases l with
  | nil => simp [runB, b_is_name, opR, sem1, sem2, arD, i2, ln, g1]
  | cons c r =>
    have i0 := ix_c0 c r hl
    have lw := low_in c
    have hc : decide (1 ≤ (c :: r).length) = true := by simp
    rw [hc] at e1
    rw [hc]
    have hd0 : headLow (c :: r) = isLow c := rfl
    rw [hd0]
    generalize (c :: r).all isLd = ab at *
    generalize hL : (c :: r).length = len at *
    generalize decide (len ≤ 8) = b8 at *
    generalize isLow c = lb at *
    cases b8 with
    | false => simp [runB, b_is_name, opR, sem1, sem2, arD, i2, ln, g1, e1, e2]
    | true =>
      cases kb with
      | true => simp [runB, b_is_name, opR, sem1, sem2, arD, i2, ln, g1, e1, e2, g2, ik]
      | false =>
        cases lb with
        | false => simp [runB, b_is_name, opR, sem1, sem2, arD, i2, ln, g1, e1, e2, g2, ik, i0, g3, lw]
        | true => simp [runB, b_is_name, opR, sem1, sem2, arD, i2, ln, g1, e1, e2, g2, ik, i0, g3, lw, si, CL, al]
theorem is_name_not (h : HNm G I) (n : Nat) {d : D} {g : Nat} (hd : tagB d = some g) (hg : g ≠ 2) : PD.call G (n + 1) I.f_is_name [.d d] [] = .ok (.d (.bl false)) [] := by
  rw [call_at h.nm]
  have i2 := h.t.one hd (a := 2) (by decide)
  simp [runB, b_is_name, opR, sem1, i2, hg]
end
end PL
set_option Elab.async false
set_option linter.all false
set_option maxRecDepth 100000
set_option maxHeartbeats 4000000
set_option exponentiation.threshold 300
namespace PL
open PySem PySem.Spec PyProof.Rows L2 PD NumText
mutual
def shD : D → Prop
  | .str x => x.length ≤ LIM
  | .tup xs => shDs xs
  | .lst xs => shDs xs
  | _ => True
def shDs : List D → Prop
  | [] => True
  | d :: ds => shD d ∧ shDs ds
end
theorem pl_tag {k : Nat} {d : D} (h : pl k d) : ∃ g, tagB d = some g := by
  cases d with
  | obj C ks vs => exact absurd h.1 Bool.false_ne_true
  | exc C ks vs => exact absurd h.1 Bool.false_ne_true
  | fnc i => exact absurd h.1 Bool.false_ne_true
  | _ => exact ⟨_, rfl⟩
theorem pl_of_tup {k : Nat} {ds : List D} (h : pl (k + 1) (.tup ds)) : ∀ d ∈ ds, pl k d := by
  have h1 : PyData.plainAll (pys ds) = true := h.1
  have h2 : PyData.depthAll (pys ds) ≤ k := Nat.le_of_succ_le_succ h.2
  clear h
  induction ds with
  | nil => exact fun _ h => absurd h List.not_mem_nil
  | cons a r ih =>
    have h1 : ((py a).plain && PyData.plainAll (pys r)) = true := h1
    rw [Bool.and_eq_true] at h1
    have h2 : max (py a).depth (PyData.depthAll (pys r)) ≤ k := h2
    intro d hd
    rcases List.mem_cons.mp hd with rfl | hd
    · exact ⟨h1.1, by omega⟩
    · exact ih h1.2 (by omega) d hd
def inner2 (w : Str) : Int := if (Sum.inr w : Key) = .inr "not" then 1 else if (Sum.inr w : Key) = .inr "pick" then 3 else 0
def manyI (w : Str) : Int := if decide (L w ∈ twosS.map L) = true then 2 else inner2 w
def leafB (w : Str) (r : List D) : Bool := match r with
  | [] => (w == "yes") || (w == "no")
  | [x] => if (w == ("num" : Str)) = true then (match x with | .int i => decide (0 ≤ i) && decide (i ≤ 15) | _ => false) else (w == ("box" : Str)) && (match x with | .str s => isNameL (L s) | _ => false)
  | _ => false
section
variable {G : Pg} {I : Ix}
structure HTr (G : Pg) (I : Ix) : Prop where
  nm : HNm G I
  leaf : G.fns[I.f_is_leaf]? = some (1, 1, b_is_leaf I)
  many : G.fns[I.f_many_inner]? = some (1, 1, b_many_inner I)
  parts : G.fns[I.f_parts_in]? = some (2, 5, b_parts_in I)
  tree : G.fns[I.f_is_tree]? = some (1, 1, b_is_tree I)
  twos : G.csts[I.k_TWOS]? = some (.lst (twosS.map .str))
  num : G.csts[I.k_MOST_NUMBER_trees]? = some (.int 15)
  most : G.csts[I.k_MOST_PARTS]? = some (.int 40)
  deep : G.csts[I.k_MOST_DEEP_trees]? = some (.int 9)
theorem many_ok (h : HTr G I) (n : Nat) (w : Str) : PD.call G (n + 1) I.f_many_inner [.d (.str w)] [] = .ok (.d (.int (manyI w))) [] := by
  rw [call_at h.many]
  have g := h.twos
  have ik := in_texts (L w) twosS
  rw [mk_L] at ik
  have g2 : sem3 .get2 (.dct [.inr "not", .inr "pick"] [.int 1, .int 3]) (.str w) (.int 0) = some (.int (inner2 w)) := by
    unfold inner2
    show some ((dget [.inr "not", .inr "pick"] [.int 1, .int 3] (.inr w)).getD (.int 0)) = _
    congr 1
    show (if (Sum.inr w : Key) = .inr "not" then some (D.int 1) else if (Sum.inr w : Key) = .inr "pick" then some (.int 3) else none).getD (.int 0) = _
    by_cases h1 : (Sum.inr w : Key) = .inr "not"
    · rw [if_pos h1, if_pos h1]; rfl
    · rw [if_neg h1, if_neg h1]
      by_cases h2 : (Sum.inr w : Key) = .inr "pick"
      · rw [if_pos h2, if_pos h2]; rfl
      · rw [if_neg h2, if_neg h2]; rfl
  have nd : ([.inr "not", .inr "pick"] : List Key).Nodup := by decide +kernel
  have ro : recvOk .get2 (some (.dct [.inr "not", .inr "pick"] [.int 1, .int 3])) = true := rfl
  have dv : ∀ sl cs, evE G (PD.call G n) (.dsp false [.inr "not", .inr "pick"] [.c (.int 1), .c (.int 3)]) sl cs = .ok (.d (.dct [.inr "not", .inr "pick"] [.int 1, .int 3])) cs := fun sl cs => by
    show (if ([.inr "not", .inr "pick"] : List Key).Nodup ∧ (2 : Nat) = 2 ∧ (2 : Nat) ≤ 15 then Rs.ok (PD.W.d (.dct [.inr "not", .inr "pick"] [.int 1, .int 3])) cs else Rs.stuck) = _
    rw [if_pos ⟨nd, rfl, by decide⟩]
  have nk : b_many_inner I = [
    .ite (.op .in_ [.v 0, .g I.k_TWOS]) [.ret (.c (.int (2)))] [],
    .ret (.bm .get2 (.dsp false [.inr "not", .inr "pick"] [.c (.int (1)), .c (.int (3))]) [.v 0, .c (.int (0))])] := rfl
  rw [nk]
  unfold manyI
  generalize (E.dsp false [.inr "not", .inr "pick"] [.c (.int 1), .c (.int 3)]) = de at *
  generalize D.dct [.inr "not", .inr "pick"] [.int 1, .int 3] = dd at *
  generalize decide (L w ∈ twosS.map L) = b at *
  generalize twosS.map D.str = ts at *
  cases b with
  | true => simp [runB, opR, sem2, g, ik]
  | false => simp [runB, opR, sem2, g, ik, dv, ro, g2]
theorem eq_one (a : Str) (w : Str) (r : List D) : eqD (.tup [.str a]) (.tup (.str w :: r)) = ((a == w) && r.isEmpty) := by
  cases r with
  | nil => rfl
  | cons b r => rfl
theorem yesno (w : Str) (r : List D) (hp : plainD (.tup (.str w :: r)) = true) : inD (.tup (.str w :: r)) (.tup [.tup [.str "yes"], .tup [.str "no"]]) = some (((("yes" : Str) == w) && r.isEmpty) || ((("no" : Str) == w) && r.isEmpty)) := by
  show (if plainD (.tup (.str w :: r)) && [D.tup [.str "yes"], .tup [.str "no"]].all plainD then some ([D.tup [.str "yes"], .tup [.str "no"]].any (eqD · (.tup (.str w :: r)))) else none) = _
  rw [if_pos (by rw [hp]; rfl)]
  show some (eqD _ _ || (eqD _ _ || false)) = _
  rw [eq_one, eq_one, Bool.or_false]
def leafS (sy sn sm sb : Str) (I : Ix) : List S := [
  .ite (.op .in_ [.v 0, .tup [.tup [.c (.str sy)], .tup [.c (.str sn)]]]) [.ret (.c (.bl true))] [],
  .ite (.op .ne [.op .len [.v 0], .c (.int (2))]) [.ret (.c (.bl false))] [],
  .ite (.op .eq [.op .ix [.v 0, .c (.int (0))], .c (.str sm)]) [.ret (.and_ (.op (.isi [0]) [.op .ix [.v 0, .c (.int (1))]]) (.and_ (.not_ (.op (.isi [1]) [.op .ix [.v 0, .c (.int (1))]])) (.chain .le .le (.c (.int (0))) (.op .ix [.v 0, .c (.int (1))]) (.g I.k_MOST_NUMBER_trees))))] [],
  .ret (.and_ (.op .eq [.op .ix [.v 0, .c (.int (0))], .c (.str sb)]) (.call I.f_is_name [.op .ix [.v 0, .c (.int (1))]]))]
def nameD : D → Bool
  | .str s => isNameL (L s)
  | _ => false
def numD : D → Bool
  | .int i => decide (0 ≤ i) && decide (i ≤ 15)
  | _ => false
def leafE (a b m x : Bool) : List D → Bool
  | [] => a || b
  | [d] => if m = true then numD d else x && nameD d
  | _ => false
theorem leaf_run (h : HTr G I) (n : Nat) (sy sn sm sb w : Str) (r : List D) (hp : pl 58 (.tup (.str w :: r))) (hs : shDs r) (a b m x : Bool)
    (yn : inD (.tup (.str w :: r)) (.tup [.tup [.str sy], .tup [.str sn]]) = some ((a && r.isEmpty) || (b && r.isEmpty))) (qm : eqD (.str w) (.str sm) = m) (qb : eqD (.str w) (.str sb) = x) :
    runB G (PD.call G (n + 1)) 1 1 (leafS sy sn sm sb I) [.d (.tup (.str w :: r))] [] = .ok (.d (.bl (leafE a b m x r))) [] := by
  have gn := h.num
  have ps : ∀ x : Str, plainD (.str x) = true := fun _ => rfl
  have ln : ∀ xs : List D, lenD (.tup xs) = some (.int (xs.length : Nat)) := fun _ => rfl
  match r, hp, hs, yn with
  | [], hp, hs, yn =>
    have yn : inD (.tup [.str w]) (.tup [.tup [.str sy], .tup [.str sn]]) = some ((a && true) || (b && true)) := yn
    rw [Bool.and_true, Bool.and_true] at yn
    show _ = Rs.ok (PD.W.d (.bl (a || b))) []
    generalize (a || b) = c at *
    cases c <;> simp [runB, leafS, opR, sem2, sem1, ln, yn, plain_int, eqD_int]
  | [d], hp, hs, yn =>
    have yn : inD (.tup [.str w, d]) (.tup [.tup [.str sy], .tup [.str sn]]) = some ((a && false) || (b && false)) := yn
    rw [Bool.and_false, Bool.and_false, Bool.or_false] at yn
    have hx : pl 57 d := pl_of_tup hp d (by simp)
    obtain ⟨g, hg⟩ := pl_tag hx
    have i0 := h.nm.t.one hg (a := 0) (by decide)
    have i1 := h.nm.t.one hg (a := 1) (by decide)
    show _ = Rs.ok (PD.W.d (.bl (if m = true then numD d else x && nameD d))) []
    cases m with
    | true =>
      rw [if_pos rfl]
      by_cases hi : ∃ i, d = .int i
      · obtain ⟨i, rfl⟩ := hi
        cases hg
        show _ = Rs.ok (PD.W.d (.bl (decide (0 ≤ i) && decide (i ≤ 15)))) []
        cases h1 : decide (0 ≤ i) with
        | false => simp [runB, leafS, opR, sem2, sem1, arD, ln, yn, plain_int, eqD_int, ps, qm, i0, i1, gn, h1]
        | true =>
          cases h2 : decide (i ≤ 15) <;> simp [runB, leafS, opR, sem2, sem1, arD, ln, yn, plain_int, eqD_int, ps, qm, i0, i1, gn, h1, h2]
      · have nd : numD d = false := by
          cases d <;> first | rfl | exact absurd ⟨_, rfl⟩ hi
        rw [nd]
        have gi : g ≠ 0 := by
          rintro rfl
          cases d <;> first | exact hi ⟨_, rfl⟩ | cases hg
        have i0 : tyAny G.isT (tag d) [0] = some (decide (g = 1)) := by
          rw [i0, decide_eq_false gi]; simp
        have i1 : tyAny G.isT (tag d) [1] = some (decide (g = 1)) := by
          rw [i1]; simp
        cases hb : decide (g = 1) <;> (rw [hb] at i0 i1; simp [runB, leafS, opR, sem2, sem1, arD, ln, yn, plain_int, eqD_int, ps, qm, i0, i1, gn])
    | false =>
      rw [if_neg (by simp)]
      have NM : callW (PD.call G (n + 1) I.f_is_name) [.d d] [] = .ok (.d (.bl (nameD d))) [] := by
        cases d with
        | str s =>
          have z := callW1 (cs := []) (is_name_str h.nm n (L s) (by rw [← len_L]; exact hs.1))
          rw [mk_L] at z
          exact z
        | obj C ks vs => cases hg
        | exc C ks vs => cases hg
        | fnc i => cases hg
        | _ => cases hg; exact callW1 (is_name_not h.nm n rfl (by decide))
      generalize nameD d = c at *
      cases x <;> simp [runB, leafS, opR, sem2, sem1, arD, ln, yn, plain_int, eqD_int, ps, qm, qb, NM]
  | d :: y :: r, hp, hs, yn =>
    have yn : inD (.tup (.str w :: d :: y :: r)) (.tup [.tup [.str sy], .tup [.str sn]]) = some ((a && false) || (b && false)) := yn
    rw [Bool.and_false, Bool.and_false, Bool.or_false] at yn
    have l2 : ((((.str w :: d :: y :: r : List D).length : Nat) : Int) == 2) = false := beq_eq_false_iff_ne.mpr (by simp; omega)
    have lx := ln (.str w :: d :: y :: r)
    generalize (.str w :: d :: y :: r : List D) = zs at *
    generalize (zs.length : Int) = len at *
    simp [runB, leafS, opR, sem2, sem1, lx, yn, plain_int, eqD_int, l2, leafE]
theorem is_leaf_ok (h : HTr G I) (n : Nat) (w : Str) (r : List D) (hp : pl 58 (.tup (.str w :: r))) (hs : shDs r) : PD.call G (n + 2) I.f_is_leaf [.d (.tup (.str w :: r))] [] = .ok (.d (.bl (leafE (("yes" : Str) == w) (("no" : Str) == w) (w == ("num" : Str)) (w == ("box" : Str)) r))) [] := by
  rw [call_at h.leaf]
  exact leaf_run h n "yes" "no" "num" "box" w r hp hs _ _ _ _ (yesno w r (pl_ok hp)) rfl rfl
end
end PL
set_option Elab.async false
set_option linter.all false
set_option maxRecDepth 100000
set_option maxHeartbeats 4000000
set_option exponentiation.threshold 300
namespace PL
open PySem PySem.Spec PyProof.Rows L2 PD NumText
def leafW (w : Str) (r : List D) : Bool := leafE (("yes" : Str) == w) (("no" : Str) == w) (w == ("num" : Str)) (w == ("box" : Str)) r
def prt : Nat → D → Nat
  | 0, _ => 41
  | k + 1, .tup (.str w :: r) => if manyI w = 0 then (if leafW w r = true then 1 else 41) else if (r.length : Int) = manyI w then r.foldl (fun f p => if f ≤ 40 then f + prt k p else f) 1 else 41
  | _ + 1, _ => 41
section
variable {G : Pg} {I : Ix}
def ptB (I : Ix) : List S := [.ite (.op .le [.v 3, .g I.k_MOST_PARTS]) [.aug 3 .add (.call I.f_parts_in [.v 4, .op .add [.v 1, .c (.int (1))]])] []]
theorem pt_loop (h : HTr G I) (Φ : Nat → List PD.W → List M → Rs PD.W) (v : D → Nat) (dp : Int) (x0 x2 : Option PD.W) : ∀ (ps : List D), (∀ p ∈ ps, callW (Φ I.f_parts_in) [.d p, .d (.int (dp + 1))] [] = .ok (.d (.int (v p : Nat))) []) → ∀ (f : Nat) (x4 : Option PD.W),
    ∃ y4, forL (forB G Φ (.n 4) (ptB I)) ps [x0, some (.d (.int dp)), x2, some (.d (.int f)), x4] [] = .ok .nx [x0, some (.d (.int dp)), x2, some (.d (.int (ps.foldl (fun f p => if f ≤ 40 then f + v p else f) f : Nat))), y4] []
  | [], _, f, x4 => ⟨x4, rfl⟩
  | p :: ps, hp, f, x4 => by
    have g := h.most
    have C := hp p List.mem_cons_self
    have st : forB G Φ (.n 4) (ptB I) p [x0, some (.d (.int dp)), x2, some (.d (.int f)), x4] [] = .ok .nx [x0, some (.d (.int dp)), x2, some (.d (.int ((if f ≤ 40 then f + v p else f : Nat) : Int))), some (.d p)] [] := by
      have e : decide ((f : Int) ≤ 40) = decide (f ≤ 40) := by rw [decide_eq_decide]; omega
      by_cases hf : f ≤ 40
      · have hf2 : decide (f ≤ 40) = true := decide_eq_true hf
        have au : augD .add (.int f) (.int (v p : Nat)) = some (.int ((f + v p : Nat) : Int)) := by
          show some (D.int ((f : Int) + (v p : Nat))) = _
          congr 2
        rw [if_pos hf]
        generalize ((f + v p : Nat) : Int) = s at *
        simp [forB, ptB, opR, sem2, arD, g, e, hf2, C, au]
      · have hf2 : decide (f ≤ 40) = false := decide_eq_false hf
        rw [if_neg hf]
        simp [forB, ptB, opR, sem2, arD, g, e, hf2]
    rw [forL_c, st]
    exact pt_loop h Φ v dp x0 x2 ps (fun q hq => hp q (List.mem_cons_of_mem _ hq)) _ _
theorem shDs_mem : ∀ {ds : List D}, shDs ds → ∀ d ∈ ds, shD d
  | [], _, d, h => absurd h List.not_mem_nil
  | a :: r, hs, d, h => by
    rcases List.mem_cons.mp h with rfl | h
    · exact hs.1
    · exact shDs_mem hs.2 d h
theorem parts_ok (h : HTr G I) : ∀ (k m : Nat) (d : D), m ≤ 58 → pl m d → shD d → k ≤ 9 → ∀ n, PD.call G (n + k + 3) I.f_parts_in [.d d, .d (.int (10 - (k : Int)))] [] = .ok (.d (.int (prt k d : Nat))) [] := by
  intro k
  induction k with
  | zero =>
    intro m d hm hp hs _ n
    rw [call_at h.parts]
    obtain ⟨g, hg⟩ := pl_tag hp
    have i3 := h.nm.t.one hg (a := 3) (by decide)
    have g1 := h.most
    have g2 := h.deep
    show _ = Rs.ok (PD.W.d (.int 41)) []
    have i3 : ∃ b, tyAny G.isT (tag d) [3] = some b := ⟨_, i3⟩
    obtain ⟨b, i3⟩ := i3
    cases b <;> simp [runB, b_parts_in, opR, sem1, sem2, arD, i3, g1, g2]
  | succ k ih =>
    intro m d hm hp hs hk n
    rw [call_at h.parts]
    have g1 := h.most
    have g2 := h.deep
    have e10 : (10 - ((k + 1 : Nat) : Int)) = 9 - (k : Int) := by omega
    rw [e10]
    have dl : decide ((9 : Int) < 9 - (k : Int)) = false := decide_eq_false (by omega)
    by_cases ht : ∃ xs, d = .tup xs
    · obtain ⟨xs, rfl⟩ := ht
      have i3 := h.nm.t.one (d := .tup xs) rfl (a := 3) (by decide)
      have i3 : tyAny G.isT (tag (.tup xs)) [3] = some true := i3
      have ln : ∀ xs : List D, lenD (.tup xs) = some (.int (xs.length : Nat)) := fun _ => rfl
      obtain ⟨m', rfl⟩ : ∃ m', m = m' + 1 := ⟨m - 1, by
        have := hp.2
        have : 1 ≤ (py (.tup xs)).depth := Nat.succ_le_succ (Nat.zero_le _)
        omega⟩
      match xs, hp, hs, i3 with
      | [], hp, hs, i3 =>
        show _ = Rs.ok (PD.W.d (.int 41)) []
        simp [runB, b_parts_in, opR, sem1, sem2, arD, i3, g1, g2, dl, ln, plain_int, eqD_int]
      | a :: r, hp, hs, i3 =>
        have l0 : ((((a :: r : List D).length : Nat) : Int) == 0) = false := beq_eq_false_iff_ne.mpr (by simp; omega)
        have ha := pl_of_tup hp a List.mem_cons_self
        obtain ⟨ga, hga⟩ := pl_tag ha
        have i2 := h.nm.t.one hga (a := 2) (by decide)
        by_cases hw : ∃ w, a = .str w
        · obtain ⟨w, rfl⟩ := hw
          cases hga
          have i2 : tyAny G.isT (tag (.str w)) [2] = some true := i2
          have MA : callW (PD.call G (n + (k + 1) + 2) I.f_many_inner) [.d (.str w)] [] = .ok (.d (.int (manyI w))) [] := callW1 (many_ok h (n + (k + 1) + 1) w)
          have LF : callW (PD.call G (n + (k + 1) + 2) I.f_is_leaf) [.d (.tup (.str w :: r))] [] = .ok (.d (.bl (leafW w r))) [] := callW1 (is_leaf_ok h (n + (k + 1)) w r (pl_mono hp (by omega)) hs.2)
          have PT : ∀ p ∈ r, callW (PD.call G (n + (k + 1) + 2) I.f_parts_in) [.d p, .d (.int (9 - (k : Int) + 1))] [] = .ok (.d (.int (prt k p : Nat))) [] := fun p hpr => by
            have z := ih m' p (by omega) (pl_of_tup hp p (List.mem_cons_of_mem _ hpr)) (shDs_mem hs.2 p hpr) (by omega) n
            have e : (10 - (k : Int)) = 9 - (k : Int) + 1 := by omega
            rw [e] at z
            exact callW2 z
          obtain ⟨y4, LP⟩ := pt_loop h (PD.call G (n + (k + 1) + 2)) (prt k) (9 - (k : Int)) (some (.d (.tup (.str w :: r)))) (some (.d (.int (manyI w)))) r PT 1 none
          have sl : slD (.tup (.str w :: r)) (some 1) none = some (.tup r) := by
            show some (D.tup (PD.cutD (.str w :: r) (some ((1 : Nat) : Int)) none)) = _
            rw [cut_from]
            rfl
          have lr : ((((.str w :: r : List D).length : Nat) : Int) == manyI w + 1) = decide ((r.length : Int) = manyI w) := by
            rw [Bool.eq_iff_iff]
            simp
          have lx := ln (.str w :: r)
          have nk : b_parts_in I = [
            .ite (.or_ (.not_ (.op (.isi [3]) [.v 0])) (.or_ (.op .gt [.v 1, .g I.k_MOST_DEEP_trees]) (.or_ (.op .eq [.op .len [.v 0], .c (.int (0))]) (.not_ (.op (.isi [2]) [.op .ix [.v 0, .c (.int (0))]]))))) [.ret (.op .add [.g I.k_MOST_PARTS, .c (.int (1))])] [],
            .asg (.n 2) (.call I.f_many_inner [.op .ix [.v 0, .c (.int (0))]]),
            .ite (.op .eq [.v 2, .c (.int (0))]) [.ret (.ife (.call I.f_is_leaf [.v 0]) (.c (.int (1))) (.op .add [.g I.k_MOST_PARTS, .c (.int (1))]))] [],
            .ite (.op .ne [.op .len [.v 0], .op .add [.v 2, .c (.int (1))]]) [.ret (.op .add [.g I.k_MOST_PARTS, .c (.int (1))])] [],
            .asg (.n 3) (.c (.int (1))),
            .for_ (.n 4) .seq [.slL (.v 0) (.c (.int (1)))] (ptB I),
            .ret (.v 3)] := rfl
          have ix0 : ixD (.tup (.str w :: r)) (.int 0) = some (.str w) := at0 _ _
          have it : items .seq [.tup r] = some r := rfl
          show _ = Rs.ok (PD.W.d (.int ((if manyI w = 0 then (if leafW w r = true then 1 else 41) else if (r.length : Int) = manyI w then r.foldl (fun f p => if f ≤ 40 then f + prt k p else f) 1 else 41 : Nat) : Int))) []
          rw [nk]
          have LP : forL (forB G (PD.call G (n + (k + 1) + 2)) (.n 4) (ptB I)) r [some (.d (.tup (.str w :: r))), some (.d (.int (9 - (k : Int)))), some (.d (.int (manyI w))), some (.d (.int 1)), none] [] = _ := LP
          generalize hfo : r.foldl (fun f p => if f ≤ 40 then f + prt k p else f) 1 = fo at *
          generalize leafW w r = lf at *
          generalize manyI w = mi at *
          generalize hdl : decide ((r.length : Int) = mi) = b at *
          generalize hz : D.tup (.str w :: r) = tt at *
          generalize ((.str w :: r : List D).length : Int) = le at *
          by_cases hm0 : mi = 0
          · have c0 : (mi == 0) = true := by rw [hm0]; rfl
            rw [if_pos hm0]
            cases lf <;> simp [runB, opR, sem1, sem2, arD, i3, g1, g2, dl, lx, l0, ix0, i2, MA, plain_int, eqD_int, c0, LF]
          · have c0 : (mi == 0) = false := beq_eq_false_iff_ne.mpr hm0
            rw [if_neg hm0]
            cases b with
            | false =>
              rw [if_neg (of_decide_eq_false hdl)]
              simp [runB, opR, sem1, sem2, arD, i3, g1, g2, dl, lx, l0, ix0, i2, MA, plain_int, eqD_int, c0, lr]
            | true =>
              rw [if_pos (of_decide_eq_true hdl)]
              simp [runB, opR, sem1, sem2, arD, i3, g1, g2, dl, lx, l0, ix0, i2, MA, plain_int, eqD_int, c0, lr, sl, it, LP]
        · have np : prt (k + 1) (.tup (a :: r)) = 41 := by
            cases a <;> first | rfl | exact absurd ⟨_, rfl⟩ hw
          have gn : ga ≠ 2 := by
            rintro rfl
            cases a <;> first | exact hw ⟨_, rfl⟩ | cases hga
          have gs : ga ≠ 2 → tyAny G.isT (tag a) [2] = some false := fun hn => by
            rw [i2, decide_eq_false hn]; simp
          have i2 := gs gn
          rw [np]
          have lx := ln (a :: r)
          have ix0 : ixD (.tup (a :: r)) (.int 0) = some a := at0 _ _
          generalize D.tup (a :: r) = tt at *
          generalize ((a :: r : List D).length : Int) = le at *
          simp [runB, b_parts_in, opR, sem1, sem2, arD, i3, g1, g2, dl, lx, l0, ix0, i2, plain_int, eqD_int]
    · have np : prt (k + 1) d = 41 := by
        cases d <;> first | rfl | exact absurd ⟨_, rfl⟩ ht
      obtain ⟨g, hg⟩ := pl_tag hp
      have i3 := h.nm.t.one hg (a := 3) (by decide)
      have gn : g ≠ 3 := by
        rintro rfl
        cases d <;> first | exact ht ⟨_, rfl⟩ | cases hg
      have i3 : tyAny G.isT (tag d) [3] = some false := by
        rw [i3, decide_eq_false gn]; simp
      rw [np]
      simp [runB, b_parts_in, opR, sem1, sem2, arD, i3, g1]
theorem is_tree_ok (h : HTr G I) (n m : Nat) (d : D) (hm : m ≤ 58) (hp : pl m d) (hs : shD d) : PD.call G (n + 13) I.f_is_tree [.d d] [] = .ok (.d (.bl (decide (prt 9 d ≤ 40)))) [] := by
  rw [call_at h.tree]
  have P : callW (PD.call G (n + 12) I.f_parts_in) [.d d, .d (.int 1)] [] = .ok (.d (.int (prt 9 d : Nat))) [] := callW2 (parts_ok h 9 m d hm hp hs (by omega) n)
  have g1 := h.most
  have e : decide (((prt 9 d : Nat) : Int) ≤ 40) = decide (prt 9 d ≤ 40) := by rw [decide_eq_decide]; omega
  simp [runB, b_is_tree, opR, sem2, arD, P, g1, e]
end
end PL
set_option Elab.async false
set_option linter.all false
set_option maxRecDepth 100000
set_option maxHeartbeats 4000000
set_option exponentiation.threshold 300
namespace PL
open PySem PySem.Spec PyProof.Rows L2 PD NumText
theorem s36 : ("abcdefghijklmnopqrstuvwxyz0123456789" : Str) = mk (lets ++ figs) := by decide +kernel
theorem al_facts : ∀ j, j < 36 → isLd ((lets ++ figs).getD j 0) = true ∧ (j < 26 → isLow ((lets ++ figs).getD j 0) = true) ∧ (26 ≤ j → isDg ((lets ++ figs).getD j 0) = true) := by decide +kernel
theorem ix_al (i : Int) (h0 : 0 ≤ i) (h1 : i < 36) : ∃ c, ixD (.str (mk (lets ++ figs))) (.int i) = some (.str (mk [c])) ∧ isLd c = true ∧ (i < 26 → isLow c = true) ∧ (26 ≤ i → isDg c = true) := by
  obtain ⟨j, rfl⟩ : ∃ j : Nat, i = (j : Int) := ⟨i.toNat, by omega⟩
  have hj : j < 36 := by omega
  have hl : (lets ++ figs).length = 36 := rfl
  obtain ⟨a1, a2, a3⟩ := al_facts j hj
  refine ⟨(lets ++ figs).getD j 0, ?_, a1, fun h => a2 (by omega), fun h => a3 (by omega)⟩
  show (if (mk (lets ++ figs)).length ≤ LIM then (atI (lets ++ figs) (j : Int)).map fun c => D.str ⟨#[c]⟩ else none) = _
  rw [len_mk, if_pos (by decide)]
  have : atI (lets ++ figs) (j : Int) = some ((lets ++ figs).getD j 0) := by
    unfold atI ixN
    rw [List.getD_eq_getElem?_getD]
    have : (lets ++ figs)[j]? = some ((lets ++ figs)[j]'(by omega)) := List.getElem?_eq_getElem _
    rw [this]
    simp [hl, hj, h1, this]
  rw [this]
  rfl
theorem kept_low : ∀ x ∈ keptS.map L, x.all isLow = true := by decide +kernel
theorem dg_not_low {c : Nat} (h : isDg c = true) : isLow c = false := by
  unfold isDg at h
  unfold isLow
  simp at h ⊢
  omega
theorem nm_ok {l : List Nat} (h1 : 1 ≤ l.length) (h2 : l.length ≤ 8) (h3 : headLow l = true) (h4 : l.all isLd = true) {d : Nat} (hd : d ∈ l) (hd2 : isDg d = true) : isNameL l = true := by
  have hk : l ∉ keptS.map L := fun h => by
    have := List.all_eq_true.mp (kept_low l h) d hd
    rw [dg_not_low hd2] at this
    cases this
  unfold isNameL
  rw [decide_eq_true h1, decide_eq_true h2, decide_eq_false hk, h3, h4]
  rfl
def baseP (b : List Nat) : Prop := ∃ c d r, b = c :: d :: r ∧ isLow c = true ∧ isDg d = true ∧ r.all isLd = true ∧ r.length ≤ 5
theorem base_all {c d : Nat} {r : List Nat} (hc : isLow c = true) (hd : isDg d = true) (hr : r.all isLd = true) : (c :: d :: r).all isLd = true := by
  rw [List.all_cons, List.all_cons, hr]
  simp [isLd, hc, hd]
theorem all_app {a b : List Nat} (ha : a.all isLd = true) (hb : b.all isLd = true) : (a ++ b).all isLd = true := by rw [List.all_append, ha, hb]; rfl
theorem mid_ok {b : List Nat} (hb : baseP b) (k : Nat) (h1 : 1 ≤ k) (x : Nat) (hx : isLd x = true) : isNameL (b.take k ++ [x] ++ b.drop k) = true := by
  obtain ⟨c, d, r, rfl, hc, hd, hr, hl⟩ := hb
  have al := base_all hc hd hr
  have al2 : ((c :: d :: r).take k).all isLd = true ∧ ((c :: d :: r).drop k).all isLd = true := by
    have : ((c :: d :: r).take k ++ (c :: d :: r).drop k).all isLd = true := by rw [List.take_append_drop]; exact al
    rw [List.all_append, Bool.and_eq_true] at this
    exact this
  have hm : d ∈ (c :: d :: r).take k ++ [x] ++ (c :: d :: r).drop k := by
    have : d ∈ (c :: d :: r).take k ++ (c :: d :: r).drop k := by rw [List.take_append_drop]; simp
    rcases List.mem_append.mp this with h | h
    · exact List.mem_append_left _ (List.mem_append_left _ h)
    · exact List.mem_append_right _ h
  refine nm_ok ?_ ?_ ?_ (all_app (all_app al2.1 (by simp [hx])) al2.2) hm hd
  · simp
    omega
  · simp
    omega
  · obtain ⟨k', rfl⟩ : ∃ k', k = k' + 1 := ⟨k - 1, by omega⟩
    exact hc
section
variable {G : Pg} {I : Ix}
def nmB (I : Ix) : List S := [.asg (.n 3) (.op .add [.v 3, .op .ix [.v 2, .op .mod [.call I.f_mix2 [.v 0, .c (.int (0))], .c (.int (36))]]])]
theorem nm_loop (h1 : G.fns[I.f_mix2]? = some (2, 3, b_mix2)) (n : Nat) (x1 x5 x6 x7 x8 : Option PD.W) : ∀ (is : List Int) (b : List Nat), (∃ c d r, b = c :: d :: r ∧ isLow c = true ∧ isDg d = true ∧ r.all isLd = true ∧ r.length + is.length ≤ 5) → ∀ (s u : Int), 0 ≤ s → s < 2147483647 → 0 ≤ u → ∀ x4 : Option PD.W,
    ∃ (b' : List Nat) (s' u' : Int) (y4 : Option PD.W), forL (forB G (PD.call G (n + 1)) (.n 4) (nmB I)) (is.map .int) [some (.c 0), x1, some (.d (.str (mk (lets ++ figs)))), some (.d (.str (mk b))), x4, x5, x6, x7, x8] [.lst [.int s, .int u]] = .ok .nx [some (.c 0), x1, some (.d (.str (mk (lets ++ figs)))), some (.d (.str (mk b'))), y4, x5, x6, x7, x8] [.lst [.int s', .int u']] ∧ baseP b' ∧ 0 ≤ s' ∧ s' < 2147483647 ∧ 0 ≤ u'
  | [], b, ⟨c, d, r, e, q1, q2, q3, q4⟩, s, u, a1, a2, a3, x4 => ⟨b, s, u, x4, rfl, ⟨c, d, r, e, q1, q2, q3, q4⟩, a1, a2, a3⟩
  | i :: is, b, ⟨c, d, r, e, q1, q2, q3, q4⟩, s, u, a1, a2, a3, x4 => by
    subst e
    have q4 : r.length + (is.length + 1) ≤ 5 := q4
    obtain ⟨s1, u1, v1, M1, b1, b2, b3, b4, b5⟩ := mix2_ok h1 n s u 0 a1 a2 a3 (Nat.two_pow_pos 2000000)
    have C1 := callW_ci (cs := [.lst [.int s, .int u]]) (i := 0) rfl (by simp) M1
    have m1 : arith .mod v1 36 = some (.int (v1.fmod 36)) := arith_mod (by omega)
    obtain ⟨g1, g2⟩ := emod_bd v1 (m := 36) (by omega)
    obtain ⟨x, ix, hx, _, _⟩ := ix_al _ g1 g2
    have ad : addD (.str (mk (c :: d :: r))) (.str (mk [x])) = some (.str (mk (c :: d :: r ++ [x]))) := add_mk (Nat.le_trans (by simp; omega : _ ≤ 100) (by decide))
    generalize v1.fmod 36 = w at *
    have st : forB G (PD.call G (n + 1)) (.n 4) (nmB I) (.int i) [some (.c 0), x1, some (.d (.str (mk (lets ++ figs)))), some (.d (.str (mk (c :: d :: r)))), x4, x5, x6, x7, x8] [.lst [.int s, .int u]] = .ok .nx [some (.c 0), x1, some (.d (.str (mk (lets ++ figs)))), some (.d (.str (mk (c :: d :: r ++ [x])))), some (.d (.int i)), x5, x6, x7, x8] [.lst [.int s1, .int u1]] := by
      generalize mk (lets ++ figs) = al at *
      generalize mk (c :: d :: r ++ [x]) = nb at *
      simp [forB, nmB, opR, sem2, arD, C1, m1, ix, ad]
    rw [List.map_cons, forL_c, st]
    exact nm_loop h1 n x1 x5 x6 x7 x8 is (c :: d :: r ++ [x]) ⟨c, d, r ++ [x], rfl, q1, q2, all_app q3 (by simp [hx]), by simp; omega⟩ s1 u1 b1 b2 b3 _
end
end PL
set_option Elab.async false
set_option linter.all false
set_option maxRecDepth 100000
set_option maxHeartbeats 4000000
set_option exponentiation.threshold 300
namespace PL
open PySem PySem.Spec PyProof.Rows L2 PD NumText
def alAt (i : Int) : Nat := (lets ++ figs).getD i.toNat 0
theorem ix_alAt (i : Int) (h0 : 0 ≤ i) (h1 : i < 36) : ixD (.str (mk (lets ++ figs))) (.int i) = some (.str (mk [alAt i])) ∧ isLd (alAt i) = true := by
  obtain ⟨j, rfl⟩ : ∃ j : Nat, i = (j : Int) := ⟨i.toNat, by omega⟩
  have hj : j < 36 := by omega
  have hl : (lets ++ figs).length = 36 := rfl
  have e : alAt (j : Int) = (lets ++ figs).getD j 0 := by unfold alAt; rw [Int.toNat_natCast]
  rw [e]
  refine ⟨?_, (al_facts j hj).1⟩
  show (if (mk (lets ++ figs)).length ≤ LIM then (atI (lets ++ figs) (j : Int)).map fun c => D.str ⟨#[c]⟩ else none) = _
  rw [len_mk, if_pos (by decide)]
  have : atI (lets ++ figs) (j : Int) = some ((lets ++ figs).getD j 0) := by
    unfold atI ixN
    rw [List.getD_eq_getElem?_getD]
    have : (lets ++ figs)[j]? = some ((lets ++ figs)[j]'(by omega)) := List.getElem?_eq_getElem _
    rw [this]
    simp [hl, hj, h1, this]
  rw [this]
  rfl
def tails (st : List Nat) : List (List Nat) := [[49], st ++ [49], [], st, [50], [49, 49], [49, 50]]
theorem stem_ok {c d : Nat} (hc : isLow c = true) (hd : isDg d = true) : ∀ t ∈ tails [c, d, c], isNameL ([c, d, c] ++ t) = true := by
  intro t ht
  have sa : ([c, d, c] : List Nat).all isLd = true := by simp [isLd, hc, hd]
  have ta : t.all isLd = true ∧ t.length ≤ 4 := by
    simp only [tails, List.mem_cons, List.not_mem_nil, or_false] at ht
    rcases ht with rfl | rfl | rfl | rfl | rfl | rfl | rfl
    · exact ⟨by decide, by decide⟩
    · exact ⟨all_app sa (by decide), by simp⟩
    · exact ⟨by decide, by decide⟩
    · exact ⟨sa, by simp⟩
    · exact ⟨by decide, by decide⟩
    · exact ⟨by decide, by decide⟩
    · exact ⟨by decide, by decide⟩
  refine nm_ok (by simp) (by simp; omega) hc (all_app sa ta.1) (d := d) (by simp) hd
section
variable {G : Pg} {I : Ix}
theorem s1t : ("1" : Str) = mk [49] := by decide +kernel
theorem s2t : ("2" : Str) = mk [50] := by decide +kernel
theorem s11t : ("11" : Str) = mk [49, 49] := by decide +kernel
theorem s12t : ("12" : Str) = mk [49, 50] := by decide +kernel
theorem range_items (m : Int) (h0 : 0 ≤ m) (h1 : m ≤ 1000) : items .range1 [.int m] = some (((List.range m.toNat).map fun i : Nat => (i : Int)).map .int) := by
  show (if -(2 ^ 62) ≤ m ∧ m.toNat ≤ LIM then some (rangeD 0 m.toNat) else none) = _
  rw [if_pos ⟨by omega, Nat.le_trans (by omega : _ ≤ 1000) (by decide)⟩, List.map_map]
  unfold rangeD
  congr 1
  apply List.map_congr_left
  intro i _
  show D.int (0 + (i : Int)) = D.int (i : Int)
  rw [Int.zero_add]
theorem tails_nd (c d : Nat) : (tails [c, d, c]).Nodup := by
  simp [tails, List.nodup_cons]
theorem alAt_inj {i j : Int} (h0 : 0 ≤ i) (h1 : i < 36) (h2 : 0 ≤ j) (h3 : j < 36) (h : alAt i = alAt j) : i = j := by
  have t : ∀ a < 36, ∀ b < 36, (lets ++ figs).getD a 0 = (lets ++ figs).getD b 0 → a = b := by decide +kernel
  have := t i.toNat (by omega) j.toNat (by omega) h
  omega
theorem names_nd (h1 : G.fns[I.f_mix2]? = some (2, 3, b_mix2)) (h2 : G.fns[I.f_names]? = some (2, 9, b_names I)) (n : Nat) (s u : Int) (a1 : 0 ≤ s) (a2 : s < 2147483647) (a3 : 0 ≤ u) (many : Nat) (hm : many ≤ 36) :
    ∃ (ls : List (List Nat)) (s' u' : Int), PD.call G (n + 2) I.f_names [.c 0, .d (.int many)] [.lst [.int s, .int u]] = .ok (.d (.lst (ls.map fun l => .str (mk l)))) [.lst [.int s', .int u']] ∧ ls.length = many ∧ (∀ l ∈ ls, isNameL l = true) ∧ ls.Nodup ∧ 0 ≤ s' ∧ s' < 2147483647 ∧ 0 ≤ u' := by
  rw [call_at h2]
  obtain ⟨s1, u1, v1, M1, b1, b2, b3, _, _⟩ := mix2_ok h1 n s u 0 a1 a2 a3 (Nat.two_pow_pos 2000000)
  have C1 := callW_ci (cs := [.lst [.int s, .int u]]) (i := 0) rfl (by simp) M1
  obtain ⟨s2, u2, v2, M2, c1, c2, c3, _, _⟩ := mix2_ok h1 n s1 u1 0 b1 b2 b3 (Nat.two_pow_pos 2000000)
  have C2 := callW_ci (cs := [.lst [.int s1, .int u1]]) (i := 0) rfl (by simp) M2
  obtain ⟨s3, u3, v3, M3, d1, d2, d3, _, _⟩ := mix2_ok h1 n s2 u2 0 c1 c2 c3 (Nat.two_pow_pos 2000000)
  have C3 := callW_ci (cs := [.lst [.int s2, .int u2]]) (i := 0) rfl (by simp) M3
  have m1 : arith .mod v1 26 = some (.int (v1.fmod 26)) := arith_mod (by omega)
  obtain ⟨e1, e2⟩ := emod_bd v1 (m := 26) (by omega)
  have m2 : arith .mod v2 10 = some (.int (v2.fmod 10)) := arith_mod (by omega)
  obtain ⟨e3, e4⟩ := emod_bd v2 (m := 10) (by omega)
  have m3 : arith .mod v3 6 = some (.int (v3.fmod 6)) := arith_mod (by omega)
  obtain ⟨e5, e6⟩ := emod_bd v3 (m := 6) (by omega)
  obtain ⟨c, ic, _, hc, _⟩ := ix_al (v1.fmod 26) e1 (by omega)
  obtain ⟨d, id, _, _, hd⟩ := ix_al (26 + v2.fmod 10) (by omega) (by omega)
  have hc := hc (by omega)
  have hd := hd (by omega)
  have ad0 : addD (.str (mk [c])) (.str (mk [d])) = some (.str (mk [c, d])) := add_mk (by show 2 ≤ LIM; decide)
  have ri := range_items (v3.fmod 6) e5 (by omega)
  obtain ⟨b, s4, u4, y4, LP, hb, f1, f2, f3⟩ := nm_loop h1 n (some (.d (.int many))) none none none none ((List.range (v3.fmod 6).toNat).map fun i : Nat => (i : Int)) [c, d] ⟨c, d, [], rfl, hc, hd, rfl, by simp; omega⟩ s3 u3 d1 d2 d3 none
  have hb' := hb
  obtain ⟨c', d', r, rfl, hc', hd', hr, hrl⟩ := hb'
  obtain ⟨s5, u5, v5, M5, g1, g2, g3, _, _⟩ := mix2_ok h1 n s4 u4 0 f1 f2 f3 (Nat.two_pow_pos 2000000)
  have C5 := callW_ci (cs := [.lst [.int s4, .int u4]]) (i := 0) rfl (by simp) M5
  obtain ⟨s6, u6, v6, M6, k1, k2, k3, _, _⟩ := mix2_ok h1 n s5 u5 0 g1 g2 g3 (Nat.two_pow_pos 2000000)
  have C6 := callW_ci (cs := [.lst [.int s5, .int u5]]) (i := 0) rfl (by simp) M6
  have bl : (c' :: d' :: r).length ≤ LIM := Nat.le_trans (by simp; omega : _ ≤ 100) (by decide)
  have ln := len_str bl
  have lp : (0 : Int) < ((c' :: d' :: r).length : Nat) := by simp; omega
  have m5 : arith .mod v5 ((c' :: d' :: r).length : Nat) = some (.int (v5.fmod ((c' :: d' :: r).length : Nat))) := arith_mod (by omega)
  obtain ⟨q1, q2⟩ := emod_bd v5 lp
  obtain ⟨k, hk⟩ : ∃ k : Nat, 1 + v5.fmod ((c' :: d' :: r).length : Nat) = (k : Int) := ⟨(1 + v5.fmod ((c' :: d' :: r).length : Nat)).toNat, by omega⟩
  have m6 : arith .mod v6 36 = some (.int (v6.fmod 36)) := arith_mod (by omega)
  obtain ⟨q3, q4⟩ := emod_bd v6 (m := 36) (by omega)
  have m7 : arith .mod (v6.fmod 36) 4 = some (.int ((v6.fmod 36).fmod 4)) := arith_mod (by omega)
  have sT := sl_to_s (c' :: d' :: r) k bl
  have sF := sl_from_s (c' :: d' :: r) k bl
  have hk1 : 1 ≤ k := by omega
  generalize v6.fmod 36 = fi at *
  generalize hfm : fi.fmod 4 = f4 at *
  have bn : b_names I = [
    .asg (.n 2) (.c (.str "abcdefghijklmnopqrstuvwxyz0123456789")),
    .asg (.n 3) (.op .add [.op .ix [.v 2, .op .mod [.call I.f_mix2 [.v 0, .c (.int (0))], .c (.int (26))]], .op .ix [.v 2, .op .add [.c (.int (26)), .op .mod [.call I.f_mix2 [.v 0, .c (.int (0))], .c (.int (10))]]]]),
    .for_ (.n 4) .range1 [.op .mod [.call I.f_mix2 [.v 0, .c (.int (0))], .c (.int (6))]] (nmB I),
    .asg (.n 5) (.op .add [.c (.int (1)), .op .mod [.call I.f_mix2 [.v 0, .c (.int (0))], .op .len [.v 3]]]),
    .asg (.n 6) (.op .mod [.call I.f_mix2 [.v 0, .c (.int (0))], .c (.int (36))]),
    .ite (.and_ (.op .lt [.v 1, .c (.int (8))]) (.op .eq [.op .mod [.v 6, .c (.int (4))], .c (.int (1))])) [.asg (.n 7) (.op .add [.slH (.v 3) (.c (.int (2))), .op .ix [.v 3, .c (.int (0))]]), .ret (.comp false [8] (.n 8) .seq [.slH (.lst [.c (.str "1"), .op .add [.v 7, .c (.str "1")], .c (.str ""), .v 7, .c (.str "2"), .c (.str "11"), .c (.str "12")]) (.v 1)] [] (.op .add [.v 7, .v 8]))] [],
    .ret (.comp false [4] (.n 4) .range1 [.v 1] [] (.op .add [.op .add [.slH (.v 3) (.v 5), .op .ix [.v 2, .op .mod [.op .add [.v 6, .v 4], .c (.int (36))]]], .slL (.v 3) (.v 5)]))] := rfl
  have e8 : decide ((many : Int) < 8) = decide (many < 8) := by rw [decide_eq_decide]; omega
  by_cases hs : many < 8 ∧ f4 = 1
  · obtain ⟨h8, rfl⟩ := hs
    have z8 : decide (many < 8) = true := decide_eq_true h8
    have s2' : slD (.str (mk (c' :: d' :: r))) none (some 2) = some (.str (mk [c', d'])) := sl_to_s (c' :: d' :: r) 2 bl
    have i0 := ix_c0 c' (d' :: r) bl
    have ad1 : addD (.str (mk [c', d'])) (.str (mk [c'])) = some (.str (mk [c', d', c'])) := add_mk (by show 3 ≤ LIM; decide)
    have ad2 : addD (.str (mk [c', d', c'])) (.str (mk [49])) = some (.str (mk [c', d', c', 49])) := add_mk (by show 4 ≤ LIM; decide)
    have sl : slD (.lst [.str (mk [49]), .str (mk [c', d', c', 49]), .str (mk []), .str (mk [c', d', c']), .str (mk [50]), .str (mk [49, 49]), .str (mk [49, 50])]) none (some (many : Int)) = some (.lst (((tails [c', d', c']).take many).map fun t => .str (mk t))) := by
      rw [sl_to, List.map_take]
      rfl
    have CL : compL (cF G (PD.call G (n + 1)) [some (.c 0), some (.d (.int many)), some (.d (.str (mk (lets ++ figs)))), some (.d (.str (mk (c' :: d' :: r)))), y4, some (.d (.int k)), some (.d (.int fi)), some (.d (.str (mk [c', d', c']))), none] [8] (.n 8) [] (.op .add [.v 7, .v 8])) (((tails [c', d', c']).take many).map fun t => .str (mk t)) [] [.lst [.int s6, .int u6]] = .ok ([] ++ ((tails [c', d', c']).take many).map fun t => .str (mk ([c', d', c'] ++ t))) [.lst [.int s6, .int u6]] := compL_mapA fun t ht => by
      have tl : t.length ≤ 10 := by
        have := List.mem_of_mem_take ht
        simp only [tails, List.mem_cons, List.not_mem_nil, or_false] at this
        rcases this with rfl | rfl | rfl | rfl | rfl | rfl | rfl <;> simp
      have ad : addD (.str (mk [c', d', c'])) (.str (mk t)) = some (.str (mk ([c', d', c'] ++ t))) := add_mk (Nat.le_trans (by simp; omega : _ ≤ 100) (by decide))
      generalize mk ([c', d', c'] ++ t) = nm at *
      generalize mk [c', d', c'] = st at *
      simp [cF, opR, sem2, ad]
    rw [List.nil_append] at CL
    refine ⟨((tails [c', d', c']).take many).map fun t => [c', d', c'] ++ t, s6, u6, ?_, ?_, fun l hl => ?_, ?_, k1, k2, k3⟩
    · have em : ((((tails [c', d', c']).take many).map fun t => [c', d', c'] ++ t).map fun l => D.str (mk l)) = ((tails [c', d', c']).take many).map fun t => .str (mk ([c', d', c'] ++ t)) := by rw [List.map_map]; rfl
      rw [em]
      generalize (((tails [c', d', c']).take many).map fun t => D.str (mk ([c', d', c'] ++ t))) = outs at *
      generalize (((tails [c', d', c']).take many).map fun t => D.str (mk t)) = ins at *
      generalize (((List.range (v3.fmod 6).toNat).map fun i : Nat => (i : Int)).map D.int) = is at *
      have LP : forL (forB G (PD.call G (n + 1)) (.n 4) (nmB I)) is [some (.c 0), some (.d (.int many)), some (.d (.str (mk (lets ++ figs)))), some (.d (.str (mk [c, d]))), none, none, none, none, none] [.lst [.int s3, .int u3]] = _ := LP
      refine runB_ret (sl := [some (.c 0), some (.d (.int many)), some (.d (.str (mk (lets ++ figs)))), some (.d (.str (mk (c' :: d' :: r)))), y4, some (.d (.int k)), some (.d (.int fi)), some (.d (.str (mk [c', d', c']))), none]) rfl ?_
      rw [bn, s36]
      generalize ((c' :: d' :: r).length : Nat) = len at *
      generalize mk (c' :: d' :: r) = bs at *
      generalize mk (lets ++ figs) = al at *
      simp [opR, sem1, sem2, arD, C1, C2, C3, C5, C6, m1, m2, m3, m5, m6, m7, ic, id, ad0, ri, LP, ln, hk, e8, z8, plain_int, eqD_int, s2', i0, ad1, s1t, s2t, s11t, s12t, s0, ad2, sl, CL]
    · rw [List.length_map, List.length_take]
      show min many 7 = many
      omega
    · obtain ⟨t, ht, rfl⟩ := List.mem_map.mp hl
      exact stem_ok hc' hd' t (List.mem_of_mem_take ht)
    · exact List.pairwise_map.mpr (((tails_nd c' d').sublist (List.take_sublist _ _)).imp fun h e => h (List.append_cancel_left e))
  · have zz : (decide (many < 8) = false) ∨ ((f4 == 1) = false) := by
      by_cases h8 : many < 8
      · exact .inr (beq_eq_false_iff_ne.mpr fun z => hs ⟨h8, z⟩)
      · exact .inl (decide_eq_false h8)
    have CL : compL (cF G (PD.call G (n + 1)) [some (.c 0), some (.d (.int many)), some (.d (.str (mk (lets ++ figs)))), some (.d (.str (mk (c' :: d' :: r)))), y4, some (.d (.int k)), some (.d (.int fi)), none, none] [4] (.n 4) [] (.op .add [.op .add [.slH (.v 3) (.v 5), .op .ix [.v 2, .op .mod [.op .add [.v 6, .v 4], .c (.int (36))]]], .slL (.v 3) (.v 5)])) (((List.range many).map fun i : Nat => (i : Int)).map .int) [] [.lst [.int s6, .int u6]] = .ok ([] ++ ((List.range many).map fun i : Nat => (i : Int)).map fun i => .str (mk ((c' :: d' :: r).take k ++ [alAt ((fi + i).fmod 36)] ++ (c' :: d' :: r).drop k))) [.lst [.int s6, .int u6]] := compL_mapA fun i hi => by
      have mm : arith .mod (fi + i) 36 = some (.int ((fi + i).fmod 36)) := arith_mod (by omega)
      obtain ⟨w1, w2⟩ := emod_bd (fi + i) (m := 36) (by omega)
      obtain ⟨ix, _⟩ := ix_alAt _ w1 w2
      have t1 : ((c' :: d' :: r).take k).length ≤ 100 := by rw [List.length_take]; simp; omega
      have t2 : ((c' :: d' :: r).drop k).length ≤ 100 := by rw [List.length_drop]; simp; omega
      have a1 := add_mk (a := (c' :: d' :: r).take k) (b := [alAt ((fi + i).fmod 36)]) (Nat.le_trans (Nat.add_le_add t1 (Nat.le_refl _)) (by show 101 ≤ LIM; decide))
      have a2 := add_mk (a := (c' :: d' :: r).take k ++ [alAt ((fi + i).fmod 36)]) (b := (c' :: d' :: r).drop k) (Nat.le_trans (by rw [List.length_append]; simp only [List.length_singleton]; omega : _ ≤ 1000) (by decide))
      generalize mk ((c' :: d' :: r).take k ++ [alAt ((fi + i).fmod 36)] ++ (c' :: d' :: r).drop k) = nm at *
      generalize mk ((c' :: d' :: r).take k ++ [alAt ((fi + i).fmod 36)]) = nm1 at *
      generalize mk ((c' :: d' :: r).take k) = tk at *
      generalize mk ((c' :: d' :: r).drop k) = dk at *
      generalize mk (c' :: d' :: r) = bs at *
      generalize mk (lets ++ figs) = al at *
      generalize mk [alAt ((fi + i).fmod 36)] = ch at *
      generalize (fi + i).fmod 36 = j at *
      simp [cF, opR, sem2, arD, sT, sF, mm, ix, a1, a2]
    rw [List.nil_append] at CL
    have ri2 := range_items (many : Int) (by omega) (by omega)
    rw [Int.toNat_natCast] at ri2
    refine ⟨((List.range many).map fun i : Nat => (i : Int)).map fun i => (c' :: d' :: r).take k ++ [alAt ((fi + i).fmod 36)] ++ (c' :: d' :: r).drop k, s6, u6, ?_, ?_, fun l hl => ?_, ?_, k1, k2, k3⟩
    · have em : ((((List.range many).map fun i : Nat => (i : Int)).map fun i => (c' :: d' :: r).take k ++ [alAt ((fi + i).fmod 36)] ++ (c' :: d' :: r).drop k).map fun l => D.str (mk l)) = ((List.range many).map fun i : Nat => (i : Int)).map fun i => .str (mk ((c' :: d' :: r).take k ++ [alAt ((fi + i).fmod 36)] ++ (c' :: d' :: r).drop k)) := by rw [List.map_map]; rfl
      rw [em]
      generalize (((List.range many).map fun i : Nat => (i : Int)).map fun i => D.str (mk ((c' :: d' :: r).take k ++ [alAt ((fi + i).fmod 36)] ++ (c' :: d' :: r).drop k))) = outs at *
      generalize (((List.range many).map fun i : Nat => (i : Int)).map D.int) = ins at *
      generalize (((List.range (v3.fmod 6).toNat).map fun i : Nat => (i : Int)).map D.int) = is at *
      have LP : forL (forB G (PD.call G (n + 1)) (.n 4) (nmB I)) is [some (.c 0), some (.d (.int many)), some (.d (.str (mk (lets ++ figs)))), some (.d (.str (mk [c, d]))), none, none, none, none, none] [.lst [.int s3, .int u3]] = _ := LP
      refine runB_ret (sl := [some (.c 0), some (.d (.int many)), some (.d (.str (mk (lets ++ figs)))), some (.d (.str (mk (c' :: d' :: r)))), y4, some (.d (.int k)), some (.d (.int fi)), none, none]) rfl ?_
      rw [bn, s36]
      generalize ((c' :: d' :: r).length : Nat) = len at *
      generalize mk (c' :: d' :: r) = bs at *
      generalize mk (lets ++ figs) = al at *
      rcases zz with z8 | z8
      · simp [opR, sem1, sem2, arD, C1, C2, C3, C5, C6, m1, m2, m3, m5, m6, m7, ic, id, ad0, ri, LP, ln, hk, e8, z8, plain_int, eqD_int, ri2, CL]
      · cases z9 : decide (many < 8) <;> simp [opR, sem1, sem2, arD, C1, C2, C3, C5, C6, m1, m2, m3, m5, m6, m7, ic, id, ad0, ri, LP, ln, hk, e8, z8, z9, plain_int, eqD_int, ri2, CL]
    · rw [List.length_map, List.length_map, List.length_range]
    · obtain ⟨i, hi, rfl⟩ := List.mem_map.mp hl
      obtain ⟨w1, w2⟩ := emod_bd (fi + i) (m := 36) (by omega)
      exact mid_ok hb k hk1 _ (ix_alAt _ w1 w2).2
    · refine List.pairwise_map.mpr (List.pairwise_map.mpr (List.Pairwise.imp_of_mem ?_ (List.pairwise_lt_range (n := many))))
      intro a b ha hb hab e
      have e1 := List.append_cancel_right e
      have e2 := List.append_cancel_left e1
      injection e2 with e3 _
      have h1 := List.mem_range.mp ha
      have h2 := List.mem_range.mp hb
      obtain ⟨w1, w2⟩ := emod_bd (fi + (a : Int)) (m := 36) (by omega)
      obtain ⟨w3, w4⟩ := emod_bd (fi + (b : Int)) (m := 36) (by omega)
      have e4 := alAt_inj w1 w2 w3 w4 e3
      rw [Int.fmod_eq_emod_of_nonneg _ (by omega), Int.fmod_eq_emod_of_nonneg _ (by omega)] at e4
      omega
end
end PL
set_option Elab.async false
set_option linter.all false
set_option maxRecDepth 100000
set_option maxHeartbeats 4000000
set_option exponentiation.threshold 300
namespace PL
open PySem PySem.Spec PyProof.Rows L2 PD NumText
theorem fold_le (v : D → Nat) : ∀ (r : List D) (f : Nat), r.foldl (fun f p => if f ≤ 40 then f + v p else f) f ≤ f + (r.map v).sum
  | [], f => by simp
  | p :: r, f => by
    show List.foldl _ (if f ≤ 40 then f + v p else f) r ≤ _
    refine Nat.le_trans (fold_le v r _) ?_
    rw [List.map_cons, List.sum_cons]
    split <;> omega
theorem prt_in {w : Str} {r : List D} (h : manyI w = (r.length : Int)) (h0 : manyI w ≠ 0) (k : Nat) : prt (k + 1) (.tup (.str w :: r)) ≤ 1 + (r.map (prt k)).sum := by
  show (if manyI w = 0 then _ else if (r.length : Int) = manyI w then _ else _) ≤ _
  rw [if_neg h0, if_pos h.symm]
  exact fold_le (prt k) r 1
theorem prt_leaf {w : Str} {r : List D} (h : manyI w = 0) (hl : leafW w r = true) (k : Nat) : prt (k + 1) (.tup (.str w :: r)) = 1 := by
  show (if manyI w = 0 then (if leafW w r = true then 1 else 41) else _) = _
  rw [if_pos h, if_pos hl]
theorem leaf_box (d : D) : leafW "box" [d] = nameD d := by
  show (if (("box" : Str) == ("num" : Str)) = true then numD d else (("box" : Str) == ("box" : Str)) && nameD d) = _
  rw [show (("box" : Str) == ("num" : Str)) = false by decide +kernel, show (("box" : Str) == ("box" : Str)) = true by decide +kernel]
  rfl
theorem leaf_num (d : D) : leafW "num" [d] = numD d := by
  show (if (("num" : Str) == ("num" : Str)) = true then numD d else (("num" : Str) == ("box" : Str)) && nameD d) = _
  rw [show (("num" : Str) == ("num" : Str)) = true by decide +kernel, if_pos rfl]
structure LeafP (d : D) : Prop where
  shape : ∃ w r, d = .tup (.str w :: r)
  one : ∀ k, prt (k + 1) d = 1
  pl : pl 1 d
  sh : shD d
theorem leafP_box {l : List Nat} (h : isNameL l = true) (h8 : l.length ≤ LIM) : LeafP (.tup [.str "box", .str (mk l)]) :=
  ⟨⟨_, _, rfl⟩, fun k => prt_leaf (by decide +kernel) (by rw [leaf_box]; exact h) k, pl_tup fun d hd => by
    simp only [List.mem_cons, List.not_mem_nil, or_false] at hd
    rcases hd with rfl | rfl <;> exact pl_str _, ⟨(by decide +kernel : ("box" : Str).length ≤ LIM), (by show (mk l).length ≤ LIM; rw [len_mk]; exact h8), trivial⟩⟩
theorem leafP_num {i : Int} (h : 0 ≤ i) (h2 : i ≤ 15) : LeafP (.tup [.str "num", .int i]) :=
  ⟨⟨_, _, rfl⟩, fun k => prt_leaf (by decide +kernel) (by rw [leaf_num]; show (decide (0 ≤ i) && decide (i ≤ 15)) = true; rw [decide_eq_true h, decide_eq_true h2]; rfl) k, pl_tup fun d hd => by
    simp only [List.mem_cons, List.not_mem_nil, or_false] at hd
    rcases hd with rfl | rfl
    · exact pl_str _
    · exact pl_int _, ⟨(by decide +kernel : ("num" : Str).length ≤ LIM), trivial, trivial⟩⟩
theorem leafP_yes : LeafP (.tup [.str "yes"]) :=
  ⟨⟨_, _, rfl⟩, fun k => prt_leaf (by decide +kernel) (by decide +kernel) k, pl_tup fun d hd => by cases List.mem_singleton.mp hd; exact pl_str _, ⟨(by decide +kernel : ("yes" : Str).length ≤ LIM), trivial⟩⟩
theorem leafP_no : LeafP (.tup [.str "no"]) :=
  ⟨⟨_, _, rfl⟩, fun k => prt_leaf (by decide +kernel) (by decide +kernel) k, pl_tup fun d hd => by cases List.mem_singleton.mp hd; exact pl_str _, ⟨(by decide +kernel : ("no" : Str).length ≤ LIM), trivial⟩⟩
section
variable {G : Pg} {I : Ix}
def lfS (box num yes no : Str) (I : Ix) : List S := [.asg (.n 7) (.op .mod [.call I.f_mix2 [.v 0, .c (.int (0))], .c (.int (5))]), .ite (.op .lt [.v 7, .c (.int (2))]) [.ret (.tup [.c (.str box), .op .ix [.v 1, .op .mod [.call I.f_mix2 [.v 0, .c (.int (0))], .op .len [.v 1]]]])] [], .ret (.op .ix [.lst [.tup [.c (.str num), .op .mod [.call I.f_mix2 [.v 0, .c (.int (0))], .c (.int (16))]], .tup [.c (.str yes)], .tup [.c (.str no)]], .op .sub [.v 7, .c (.int (2))]])]
end
end PL
set_option Elab.async false
set_option linter.all false
set_option maxRecDepth 100000
set_option maxHeartbeats 4000000
set_option exponentiation.threshold 300
namespace PL
open PySem PySem.Spec PyProof.Rows L2 PD NumText
structure GoodT (room dp : Nat) (d : D) : Prop where
  shape : ∃ w r, d = .tup (.str w :: r)
  few : ∀ k, dp ≤ k → 1 ≤ k → prt k d ≤ room
  pl : pl (dp + 1) d
  sh : shD d
theorem man_not : manyI "not" = 1 := by decide +kernel
theorem man_pick : manyI "pick" = 3 := by decide +kernel
section
variable {G : Pg} {I : Ix}
end
end PL
set_option Elab.async false
set_option linter.all false
set_option maxRecDepth 100000
set_option maxHeartbeats 4000000
namespace PL
open PySem PySem.Spec PyProof.Rows L2 PD NumText
inductive Op2 | plus | minus | times | same | less | and_ | or_
  deriving DecidableEq
def Op2.w : Op2 → Str
  | .plus => "plus" | .minus => "minus" | .times => "times" | .same => "same" | .less => "less" | .and_ => "and" | .or_ => "or"
inductive Tr
  | num (i : Int) | yes | no | box (l : List Nat) | nt (a : Tr) | two (o : Op2) (a b : Tr) | pick (a b c : Tr)
  deriving DecidableEq
def enc : Tr → D
  | .num i => .tup [.str "num", .int i]
  | .yes => .tup [.str "yes"]
  | .no => .tup [.str "no"]
  | .box l => .tup [.str "box", .str (mk l)]
  | .nt a => .tup [.str "not", enc a]
  | .two o a b => .tup [.str o.w, enc a, enc b]
  | .pick a b c => .tup [.str "pick", enc a, enc b, enc c]
def Tr.ok : Tr → Prop
  | .num i => 0 ≤ i ∧ i ≤ 15
  | .box l => isNameL l = true
  | .nt a => a.ok
  | .two _ a b => a.ok ∧ b.ok
  | .pick a b c => a.ok ∧ b.ok ∧ c.ok
  | _ => True
def Tr.dp : Tr → Nat
  | .nt a => a.dp + 1
  | .two _ a b => max a.dp b.dp + 1
  | .pick a b c => max a.dp (max b.dp c.dp) + 1
  | _ => 1
def Tr.sz : Tr → Nat
  | .nt a => 1 + a.sz
  | .two _ a b => 1 + (a.sz + b.sz)
  | .pick a b c => 1 + (a.sz + (b.sz + c.sz))
  | _ => 1
theorem many_w (o : Op2) : manyI o.w = 2 := by cases o <;> decide +kernel
theorem w_len (o : Op2) : o.w.length ≤ LIM := by cases o <;> decide +kernel
theorem enc_shape (t : Tr) : ∃ w r, enc t = .tup (.str w :: r) := by cases t <;> exact ⟨_, _, rfl⟩
theorem name_len {l : List Nat} (h : isNameL l = true) : l.length ≤ 8 := by
  unfold isNameL at h
  simp only [Bool.and_eq_true, decide_eq_true_eq] at h
  exact h.1.1.1.2
theorem dp_pos (t : Tr) : 1 ≤ t.dp := by cases t <;> simp [Tr.dp]
theorem sz_pos (t : Tr) : 1 ≤ t.sz := by cases t <;> simp [Tr.sz]
theorem enc_pl : ∀ (t : Tr), pl t.dp (enc t)
  | .num i => pl_tup fun d hd => by simp at hd; rcases hd with rfl | rfl <;> first | exact pl_str _ | exact pl_int _
  | .yes => pl_tup fun d hd => by simp at hd; subst hd; exact pl_str _
  | .no => pl_tup fun d hd => by simp at hd; subst hd; exact pl_str _
  | .box l => pl_tup fun d hd => by simp at hd; rcases hd with rfl | rfl <;> exact pl_str _
  | .nt a => pl_tup fun d hd => by
    simp at hd
    rcases hd with rfl | rfl
    · exact pl_mono (pl_str _) (Nat.zero_le _)
    · exact enc_pl a
  | .two o a b => pl_tup fun d hd => by
    simp at hd
    rcases hd with rfl | rfl | rfl
    · exact pl_mono (pl_str _) (Nat.zero_le _)
    · exact pl_mono (enc_pl a) (by omega)
    · exact pl_mono (enc_pl b) (by omega)
  | .pick a b c => pl_tup fun d hd => by
    simp at hd
    rcases hd with rfl | rfl | rfl | rfl
    · exact pl_mono (pl_str _) (Nat.zero_le _)
    · exact pl_mono (enc_pl a) (by omega)
    · exact pl_mono (enc_pl b) (by omega)
    · exact pl_mono (enc_pl c) (by omega)
theorem lim_small {n : Nat} (h : n ≤ 1000) : n ≤ LIM := Nat.le_trans h (by decide)
theorem mk_len (l : List Nat) : (mk l).length = l.length := by simp [mk, Str.length]
theorem enc_sh : ∀ (t : Tr), t.ok → shD (enc t)
  | .num i, _ => ⟨(by decide +kernel : (("num" : Str)).length ≤ LIM), trivial, trivial⟩
  | .yes, _ => ⟨(by decide +kernel : (("yes" : Str)).length ≤ LIM), trivial⟩
  | .no, _ => ⟨(by decide +kernel : (("no" : Str)).length ≤ LIM), trivial⟩
  | .box l, h => ⟨(by decide +kernel : (("box" : Str)).length ≤ LIM), by
    show (mk l).length ≤ LIM
    rw [mk_len]
    have := name_len h
    exact lim_small (by omega), trivial⟩
  | .nt a, h => ⟨(by decide +kernel : (("not" : Str)).length ≤ LIM), enc_sh a h, trivial⟩
  | .two o a b, h => ⟨w_len o, enc_sh a h.1, enc_sh b h.2, trivial⟩
  | .pick a b c, h => ⟨(by decide +kernel : (("pick" : Str)).length ≤ LIM), enc_sh a h.1, enc_sh b h.2.1, enc_sh c h.2.2, trivial⟩
theorem prt_enc : ∀ (t : Tr), t.ok → ∀ k, t.dp ≤ k → prt k (enc t) ≤ t.sz
  | .num i, h, k, hk => by
    have h := (leafP_num h.1 h.2).one (k - 1)
    rw [show k - 1 + 1 = k from by simp [Tr.dp] at hk; omega] at h
    exact Nat.le_of_eq h
  | .yes, h, k, hk => by
    have h := leafP_yes.one (k - 1)
    rw [show k - 1 + 1 = k from by simp [Tr.dp] at hk; omega] at h
    exact Nat.le_of_eq h
  | .no, h, k, hk => by
    have h := leafP_no.one (k - 1)
    rw [show k - 1 + 1 = k from by simp [Tr.dp] at hk; omega] at h
    exact Nat.le_of_eq h
  | .box l, h, k, hk => by
    have hl := name_len h
    have h := (leafP_box h (lim_small (by omega))).one (k - 1)
    rw [show k - 1 + 1 = k from by simp [Tr.dp] at hk; omega] at h
    exact Nat.le_of_eq h
  | .nt a, h, k, hk => by
    have hk : a.dp + 1 ≤ k := hk
    have e := prt_in (w := "not") (r := [enc a]) man_not (by rw [man_not]; decide) (k - 1)
    rw [show k - 1 + 1 = k from by omega] at e
    have i := prt_enc a h (k - 1) (by omega)
    simp only [List.map_cons, List.map_nil, List.sum_cons, List.sum_nil] at e
    show prt k _ ≤ 1 + a.sz
    exact Nat.le_trans e (by omega)
  | .two o a b, h, k, hk => by
    have hk : max a.dp b.dp + 1 ≤ k := hk
    have e := prt_in (w := o.w) (r := [enc a, enc b]) (many_w o) (by rw [many_w]; decide) (k - 1)
    rw [show k - 1 + 1 = k from by omega] at e
    have i := prt_enc a h.1 (k - 1) (by omega)
    have j := prt_enc b h.2 (k - 1) (by omega)
    simp only [List.map_cons, List.map_nil, List.sum_cons, List.sum_nil] at e
    show prt k _ ≤ 1 + (a.sz + b.sz)
    exact Nat.le_trans e (by omega)
  | .pick a b c, h, k, hk => by
    have hk : max a.dp (max b.dp c.dp) + 1 ≤ k := hk
    have e := prt_in (w := "pick") (r := [enc a, enc b, enc c]) man_pick (by rw [man_pick]; decide) (k - 1)
    rw [show k - 1 + 1 = k from by omega] at e
    have i := prt_enc a h.1 (k - 1) (by omega)
    have j := prt_enc b h.2.1 (k - 1) (by omega)
    have l := prt_enc c h.2.2 (k - 1) (by omega)
    simp only [List.map_cons, List.map_nil, List.sum_cons, List.sum_nil] at e
    show prt k _ ≤ 1 + (a.sz + (b.sz + c.sz))
    exact Nat.le_trans e (by omega)
end PL
set_option Elab.async false
set_option linter.all false
set_option maxRecDepth 100000
set_option maxHeartbeats 4000000
namespace PL
open PySem PySem.Spec PyProof.Rows L2 PD NumText
section
variable {G : Pg} {Φ : Nat → List PD.W → List M → Rs PD.W} {sl : Sl} {cs : List M}
theorem q_get {i : Nat} {w : PD.W} (hi : sl[i]? = some (some w)) : evE G Φ (.v i) sl cs = .ok w cs := by
  show (match sl[i]? with | some (some w) => Rs.ok w cs | _ => .stuck) = _
  rw [hi]
theorem q_str {i : Nat} {w k : Str} (hi : sl[i]? = some (some (.d (.str w)))) : evE G Φ (.op .eq [.v i, .c (.str k)]) sl cs = .ok (.d (.bl (w == k))) cs := by
  show ((evE G Φ (.v i) sl cs).bind fun w cs => ((evE G Φ (.c (.str k)) sl cs).bind fun w cs => (Rs.ok [] cs).bind fun ws cs => Rs.ok (w :: ws) cs).bind fun ws cs => Rs.ok (w :: ws) cs).bind _ = _
  rw [q_get hi]
  rfl
theorem q_ite {i : Nat} {w k : Str} {b c : List S} {rest : List S} (hi : sl[i]? = some (some (.d (.str w)))) : evSs G Φ (.ite (.op .eq [.v i, .c (.str k)]) b c :: rest) sl cs = match (if (w == k) = true then evSs G Φ b sl cs else evSs G Φ c sl cs) with | .ok .nx sl cs => evSs G Φ rest sl cs | r => r := by
  rw [eSs_cons, eS_ite, eT, q_str hi]
  rfl
theorem q_ne {i : Nat} {w k : Str} {b : List S} {rest : List S} (hi : sl[i]? = some (some (.d (.str w)))) (h : (w == k) = false) : evSs G Φ (.ite (.op .eq [.v i, .c (.str k)]) b [] :: rest) sl cs = evSs G Φ rest sl cs := by
  rw [q_ite hi, h]
  rfl
theorem q_eq {i : Nat} {w k : Str} {e : E} {rest : List S} (hi : sl[i]? = some (some (.d (.str w)))) (h : (w == k) = true) : evSs G Φ (.ite (.op .eq [.v i, .c (.str k)]) [.ret e] [] :: rest) sl cs = SR.of (evE G Φ e sl cs) sl fun w cs => .ok (.ret w) sl cs := by
  rw [q_ite hi, h, if_pos rfl, eSs_cons, eS_ret]
  cases evE G Φ e sl cs <;> rfl
theorem q_ret {e : E} {rest : List S} {w : PD.W} {cs' : List M} (h : evE G Φ e sl cs = .ok w cs') : evSs G Φ (.ret e :: rest) sl cs = .ok (.ret w) sl cs' := by
  rw [eSs_cons, eS_ret, h]
  rfl
theorem q_asg {i : Nat} {e : E} {rest : List S} {w : PD.W} {cs' : List M} (h : evE G Φ e sl cs = .ok w cs') (hi : i < sl.length) : evSs G Φ (.asg (.n i) e :: rest) sl cs = evSs G Φ rest (sl.set i (some w)) cs' := by
  rw [eSs_cons, eS_asg, h, SR.of_ok, bT_n, if_pos hi]
theorem sl_1 (a : D) (r : List D) : slD (.tup (a :: r)) (some 1) none = some (.tup r) := by
  have h := sl_from (a :: r) 1
  have e : cutD (a :: r) (some 1) none = r := by
    have h : some (D.lst (cutD (a :: r) (some ((1 : Nat) : Int)) none)) = some (.lst ((a :: r).drop 1)) := h
    injection h with h
    injection h with h
  show some (D.tup (cutD (a :: r) (some 1) none)) = _
  rw [e]
theorem q_comp {ds es : List D} {f : D → List M → Rs (Option D)} (h : ∀ (j : Nat) d, ds[j]? = some d → ∃ x, es[j]? = some x ∧ f d cs = .ok (some x) cs) (hl : ds.length = es.length) : ∀ acc, compL f ds acc cs = .ok (acc ++ es) cs := by
  induction ds generalizing es with
  | nil =>
    intro acc
    cases es with
    | nil => simp
    | cons _ _ => simp at hl
  | cons d ds ih =>
    intro acc
    cases es with
    | nil => simp at hl
    | cons x es =>
      obtain ⟨y, e1, e2⟩ := h 0 d rfl
      cases (show some x = some y from e1)
      rw [compL_c, e2]
      dsimp only
      rw [ih (es := es) (fun j d' hj => h (j + 1) d' hj) (by simpa using hl)]
      simp
end
def cOp (I : Ix) : Op2 → Nat
  | .plus => I.c_Plus | .minus => I.c_Minus | .times => I.c_Times | .same => I.c_Same | .less => I.c_Less | .and_ => I.c_And | .or_ => I.c_Or
def obj (I : Ix) : Tr → D
  | .num i => .obj I.c_Num ["number"] [.int i]
  | .yes => .obj I.c_Yes [] []
  | .no => .obj I.c_No [] []
  | .box l => .obj I.c_Box ["name"] [.str (mk l)]
  | .nt a => .obj I.c_Not ["one"] [obj I a]
  | .two o a b => .obj (cOp I o) ["one", "other"] [obj I a, obj I b]
  | .pick a b c => .obj I.c_Pick ["asked", "one", "other"] [obj I a, obj I b, obj I c]
structure HBd (G : Pg) (I : Ix) : Prop where
  tr : HTr G I
  built : G.fns[I.f_built_of]? = some (1, 4, b_built_of I)
  two : G.fns[I.f_two_of]? = some (3, 3, b_two_of I)
  say : G.fns[I.f_saying_of]? = some (1, 1, b_saying_of I)
  iNum : G.fns[I.f_Num___init__]? = some (2, 2, b_Num___init__)
  iBox : G.fns[I.f_Box___init__]? = some (2, 2, b_Box___init__)
  iNot : G.fns[I.f_Not___init__]? = some (2, 2, b_Not___init__)
  iTwo : G.fns[I.f_Two___init__]? = some (3, 3, b_Two___init__)
  iPick : G.fns[I.f_Pick___init__]? = some (4, 4, b_Pick___init__)
  mNum : G.meth I.c_Num (Str.ofString "__init__") = some I.f_Num___init__
  mBox : G.meth I.c_Box (Str.ofString "__init__") = some I.f_Box___init__
  mNot : G.meth I.c_Not (Str.ofString "__init__") = some I.f_Not___init__
  mPick : G.meth I.c_Pick (Str.ofString "__init__") = some I.f_Pick___init__
  mTwo : ∀ o, G.meth (cOp I o) (Str.ofString "__init__") = some I.f_Two___init__
  fNum : G.fld I.c_Num "number" = true
  fBox : G.fld I.c_Box "name" = true
  fNot : G.fld I.c_Not "one" = true
  fPick : G.fld I.c_Pick "asked" = true ∧ G.fld I.c_Pick "one" = true ∧ G.fld I.c_Pick "other" = true
  fTwo : ∀ o, G.fld (cOp I o) "one" = true ∧ G.fld (cOp I o) "other" = true
  nYes : G.new0 I.c_Yes = true
  nNo : G.new0 I.c_No = true
section
variable {G : Pg} {I : Ix}
def set1 (f : Str) : List S := [.setfld (.v 0) f (.v 1)]
def set2 (f g : Str) : List S := [.setfld (.v 0) f (.v 1), .setfld (.v 0) g (.v 2)]
def set3 (f g k : Str) : List S := [.setfld (.v 0) f (.v 1), .setfld (.v 0) g (.v 2), .setfld (.v 0) k (.v 3)]
theorem set1_ok {Φ : Nat → List PD.W → List M → Rs PD.W} {C : Nat} {f : Str} {x : D} (h : G.fld C f = true) : runB G Φ 2 2 (set1 f) [.c 0, .d x] [.obj C [] []] = .ok (.d .non) [.obj C [f] [x]] := by
  simp [runB, set1, h, fput]
theorem set2_ok {Φ : Nat → List PD.W → List M → Rs PD.W} {C : Nat} {f g : Str} {x y : D} (h : G.fld C f = true) (h2 : G.fld C g = true) (hn : f ≠ g) : runB G Φ 3 3 (set2 f g) [.c 0, .d x, .d y] [.obj C [] []] = .ok (.d .non) [.obj C [f, g] [x, y]] := by
  simp [runB, set2, h, h2, fput, hn]
theorem set3_ok {Φ : Nat → List PD.W → List M → Rs PD.W} {C : Nat} {f g k : Str} {x y z : D} (h : G.fld C f = true) (h2 : G.fld C g = true) (h3 : G.fld C k = true) (hn : f ≠ g) (hn2 : f ≠ k) (hn3 : g ≠ k) : runB G Φ 4 4 (set3 f g k) [.c 0, .d x, .d y, .d z] [.obj C [] []] = .ok (.d .non) [.obj C [f, g, k] [x, y, z]] := by
  simp [runB, set3, h, h2, h3, fput, hn, hn2, hn3]
theorem init_two (h : HBd G I) (n : Nat) (o : Op2) (x y : D) : PD.call G (n + 1) I.f_Two___init__ [.c 0, .d x, .d y] [.obj (cOp I o) [] []] = .ok (.d .non) [.obj (cOp I o) ["one", "other"] [x, y]] := by
  rw [call_at h.iTwo]
  exact set2_ok (f := "one") (g := "other") (h.fTwo o).1 (h.fTwo o).2 (by decide +kernel)
theorem two_ok (h : HBd G I) (n : Nat) (o : Op2) (x y : D) : ∃ ms, PD.call G (n + 2) I.f_two_of [.d (.str o.w), .d x, .d y] [] = .ok (.d (.obj (cOp I o) ["one", "other"] [x, y])) ms := by
  rw [call_at h.two]
  have mk2 : ∀ (sl : Sl), sl[1]? = some (some (.d x)) → sl[2]? = some (some (.d y)) → evE G (PD.call G (n + 1)) (.frz (.make (cOp I o) [.v 1, .v 2])) sl [] = .ok (.d (.obj (cOp I o) ["one", "other"] [x, y])) ([] ++ [.dead]) := fun sl h1 h2 =>
    make_frz (ds := [x, y]) (h.mTwo o) (by rw [eEs_cons, q_get h1, Rs.bind_ok, eEs_cons, q_get h2]; rfl) (init_two h n o x y)
  have m := mk2 [some (.d (.str o.w)), some (.d x), some (.d y)] rfl rfl
  refine ⟨[.dead], runB_ret (sl := [some (.d (.str o.w)), some (.d x), some (.d y)]) rfl ?_⟩
  show evSs G _ (b_two_of I) [some (.d (.str o.w)), some (.d x), some (.d y)] [] = _
  unfold b_two_of
  cases o with
  | plus => rw [q_eq rfl (by decide +kernel)]; rw [show I.c_Plus = cOp I .plus from rfl, m]; rfl
  | minus => rw [q_ne rfl (by decide +kernel), q_eq rfl (by decide +kernel)]; rw [show I.c_Minus = cOp I .minus from rfl, m]; rfl
  | times => rw [q_ne rfl (by decide +kernel), q_ne rfl (by decide +kernel), q_eq rfl (by decide +kernel)]; rw [show I.c_Times = cOp I .times from rfl, m]; rfl
  | same => rw [q_ne rfl (by decide +kernel), q_ne rfl (by decide +kernel), q_ne rfl (by decide +kernel), q_eq rfl (by decide +kernel)]; rw [show I.c_Same = cOp I .same from rfl, m]; rfl
  | less => rw [q_ne rfl (by decide +kernel), q_ne rfl (by decide +kernel), q_ne rfl (by decide +kernel), q_ne rfl (by decide +kernel), q_eq rfl (by decide +kernel)]; rw [show I.c_Less = cOp I .less from rfl, m]; rfl
  | and_ => rw [q_ne rfl (by decide +kernel), q_ne rfl (by decide +kernel), q_ne rfl (by decide +kernel), q_ne rfl (by decide +kernel), q_ne rfl (by decide +kernel), q_eq rfl (by decide +kernel)]; rw [show I.c_And = cOp I .and_ from rfl, m]; rfl
  | or_ => rw [q_ne rfl (by decide +kernel), q_ne rfl (by decide +kernel), q_ne rfl (by decide +kernel), q_ne rfl (by decide +kernel), q_ne rfl (by decide +kernel), q_ne rfl (by decide +kernel)]; exact q_ret m
def Tr.kids : Tr → List Tr
  | .nt a => [a] | .two _ a b => [a, b] | .pick a b c => [a, b, c] | _ => []
theorem built_ok (h : HBd G I) : ∀ (k : Nat) (t : Tr), t.dp ≤ k → ∀ n, ∃ ms, PD.call G (n + k + 2) I.f_built_of [.d (enc t)] [] = .ok (.d (obj I t)) ms := by
  intro k
  induction k with
  | zero => intro t ht; have := dp_pos t; omega
  | succ k ih =>
    intro t ht n
    rw [show n + (k + 1) + 2 = (n + k + 2) + 1 from by omega, call_at h.built]
    obtain ⟨w, r, es⟩ := enc_shape t
    -- the word
    have e1 : evE G (PD.call G (n + k + 2)) (.op .ix [.v 0, .c (.int 0)]) [some (.d (enc t)), none, none, none] [] = .ok (.d (.str w)) [] := by
      rw [es]
      simp [opR, sem2]
    have step : ∀ rest, evSs G (PD.call G (n + k + 2)) (.asg (.n 1) (.op .ix [.v 0, .c (.int 0)]) :: rest) [some (.d (enc t)), none, none, none] [] = evSs G (PD.call G (n + k + 2)) rest [some (.d (enc t)), some (.d (.str w)), none, none] [] := fun rest => q_asg e1 (by simp)
    -- the parts
    have kid : ∀ (d : D) (t' : Tr), d = enc t' → t'.dp ≤ k → callW (PD.call G (n + k + 2) I.f_built_of) [.d d] [] = .ok (.d (obj I t')) [] := fun d t' e hd => by
      subst e
      obtain ⟨ms, q⟩ := ih t' hd n
      exact callW1 q
    have parts : ∀ (ts : List Tr), (∀ t' ∈ ts, t'.dp ≤ k) → ∀ x1, evE G (PD.call G (n + k + 2)) (.comp false [3] (.n 3) .seq [.slL (.v 0) (.c (.int 1))] [] (.call I.f_built_of [.v 3])) [some (.d (.tup (.str w :: ts.map enc))), x1, none, none] [] = .ok (.d (.lst (ts.map (obj I)))) [] := fun ts ht x1 => by
      have sl : slD (.tup (.str w :: ts.map enc)) (some 1) none = some (.tup (ts.map enc)) := sl_1 _ _
      have it : (dats [PD.W.d (.tup (ts.map enc))]).bind (items .seq) = some (ts.map enc) := rfl
      rw [eE_comp, eEs_cons, eE_slL]
      have g0 : evE G (PD.call G (n + k + 2)) (.v 0) [some (.d (.tup (.str w :: ts.map enc))), x1, none, none] [] = .ok (.d (.tup (.str w :: ts.map enc))) [] := rfl
      rw [g0, Rs.bind_ok, eE_c, Rs.bind_ok]
      dsimp only
      rw [pk_d]
      show (((Rs.ofO (((some (D.tup (.str w :: ts.map enc))).bind fun d => slD d (some 1) none).map PD.W.d) []).bind fun w cs => (Rs.ok [] cs).bind fun ws cs => Rs.ok (w :: ws) cs).bind _) = _
      rw [show ((some (D.tup (.str w :: ts.map enc))).bind fun d => slD d (some 1) none) = slD (.tup (.str w :: ts.map enc)) (some 1) none from rfl, sl]
      show (Rs.ok [PD.W.d (D.tup (ts.map enc))] []).bind _ = _
      rw [Rs.bind_ok, it]
      dsimp only
      rw [q_comp (es := ts.map (obj I)) ?_ (by simp) []]
      · rfl
      · intro j d hd
        rw [List.getElem?_map] at hd
        cases et : ts[j]? with
        | none => rw [et] at hd; cases hd
        | some t' =>
          rw [et] at hd
          cases hd
          refine ⟨obj I t', by rw [List.getElem?_map, et]; rfl, ?_⟩
          have q := kid _ t' rfl (ht t' (List.mem_of_getElem? et))
          simp [cF, q]
    have fin : ∀ {sl : Sl} {ms : List M} {w : PD.W}, evSs G (PD.call G (n + k + 2)) (b_built_of I) [some (.d (enc t)), none, none, none] [] = .ok (.ret w) sl ms → runB G (PD.call G (n + k + 2)) 1 4 (b_built_of I) [.d (enc t)] [] = .ok w ms := fun {sl ms w} q => runB_ret rfl q
    have bo : b_built_of I = .asg (.n 1) (.op .ix [.v 0, .c (.int 0)]) :: (b_built_of I).tail := rfl
    cases t with
    | num i =>
      obtain ⟨rfl, rfl⟩ : w = "num" ∧ r = [.int i] := by injection es with es; injection es with a b; injection a with a; exact ⟨a.symm, b.symm⟩
      refine ⟨[.dead], fin (sl := [some (.d (enc (.num i))), some (.d (.str "num")), none, none]) ?_⟩
      rw [bo, step]
      show evSs G _ (.ite _ _ _ :: _) _ _ = _
      rw [q_eq rfl (by decide +kernel)]
      rw [make_frz (ds := [.int i]) (cs1 := []) h.mNum (by simp [opR, sem2, enc]) (by rw [show n + k + 2 = (n + k + 1) + 1 from rfl, call_at h.iNum]; exact set1_ok (f := "number") h.fNum)]
      rfl
    | box l =>
      obtain ⟨rfl, rfl⟩ : w = "box" ∧ r = [.str (mk l)] := by injection es with es; injection es with a b; injection a with a; exact ⟨a.symm, b.symm⟩
      refine ⟨[.dead], fin (sl := [some (.d (enc (.box l))), some (.d (.str "box")), none, none]) ?_⟩
      rw [bo, step]
      show evSs G _ (.ite _ _ _ :: _) _ _ = _
      rw [q_ne rfl (by decide +kernel), q_eq rfl (by decide +kernel)]
      rw [make_frz (ds := [.str (mk l)]) (cs1 := []) h.mBox (by simp [opR, sem2, enc]) (by rw [show n + k + 2 = (n + k + 1) + 1 from rfl, call_at h.iBox]; exact set1_ok (f := "name") h.fBox)]
      rfl
    | yes =>
      obtain ⟨rfl, rfl⟩ : w = "yes" ∧ r = [] := by injection es with es; injection es with a b; injection a with a; exact ⟨a.symm, b.symm⟩
      refine ⟨[.dead], fin (sl := [some (.d (enc .yes)), some (.d (.str "yes")), none, none]) ?_⟩
      rw [bo, step]
      show evSs G _ (.ite _ _ _ :: _) _ _ = _
      rw [q_ne rfl (by decide +kernel), q_ne rfl (by decide +kernel), q_eq rfl (by decide +kernel), new0_frz h.nYes]
      rfl
    | no =>
      obtain ⟨rfl, rfl⟩ : w = "no" ∧ r = [] := by injection es with es; injection es with a b; injection a with a; exact ⟨a.symm, b.symm⟩
      refine ⟨[.dead], fin (sl := [some (.d (enc .no)), some (.d (.str "no")), none, none]) ?_⟩
      rw [bo, step]
      show evSs G _ (.ite _ _ _ :: _) _ _ = _
      rw [q_ne rfl (by decide +kernel), q_ne rfl (by decide +kernel), q_ne rfl (by decide +kernel), q_eq rfl (by decide +kernel), new0_frz h.nNo]
      rfl
    | nt a =>
      obtain ⟨rfl, rfl⟩ : w = "not" ∧ r = [enc a] := by injection es with es; injection es with a b; injection a with a; exact ⟨a.symm, b.symm⟩
      have ha : a.dp + 1 ≤ k + 1 := ht
      refine ⟨[.dead], fin (sl := [some (.d (enc (.nt a))), some (.d (.str "not")), some (.d (.lst [obj I a])), none]) ?_⟩
      rw [bo, step]
      show evSs G _ (.ite _ _ _ :: _) _ _ = _
      rw [q_ne rfl (by decide +kernel), q_ne rfl (by decide +kernel), q_ne rfl (by decide +kernel), q_ne rfl (by decide +kernel)]
      refine (q_asg (w := .d (.lst [obj I a])) (cs' := []) (parts [a] (by simpa using Nat.le_of_succ_le_succ ha) _) (by simp)).trans ?_
      show evSs G _ (.ite _ _ _ :: _) [some (.d (enc (.nt a))), some (.d (.str "not")), some (.d (.lst [obj I a])), none] _ = _
      rw [q_eq rfl (by decide +kernel)]
      rw [make_frz (ds := [obj I a]) (cs1 := []) h.mNot (by simp [opR, sem2]) (by rw [show n + k + 2 = (n + k + 1) + 1 from rfl, call_at h.iNot]; exact set1_ok (f := "one") h.fNot)]
      rfl
    | pick a b c =>
      obtain ⟨rfl, rfl⟩ : w = "pick" ∧ r = [enc a, enc b, enc c] := by injection es with es; injection es with a b; injection a with a; exact ⟨a.symm, b.symm⟩
      have ha : max a.dp (max b.dp c.dp) + 1 ≤ k + 1 := ht
      refine ⟨[.dead], fin (sl := [some (.d (enc (.pick a b c))), some (.d (.str "pick")), some (.d (.lst [obj I a, obj I b, obj I c])), none]) ?_⟩
      rw [bo, step]
      show evSs G _ (.ite _ _ _ :: _) _ _ = _
      rw [q_ne rfl (by decide +kernel), q_ne rfl (by decide +kernel), q_ne rfl (by decide +kernel), q_ne rfl (by decide +kernel)]
      refine (q_asg (w := .d (.lst [obj I a, obj I b, obj I c])) (cs' := []) (parts [a, b, c] (by intro t' h'; simp at h'; rcases h' with rfl | rfl | rfl <;> omega) _) (by simp)).trans ?_
      show evSs G _ (.ite _ _ _ :: _) [some (.d (enc (.pick a b c))), some (.d (.str "pick")), some (.d (.lst [obj I a, obj I b, obj I c])), none] _ = _
      rw [q_ne rfl (by decide +kernel), q_eq rfl (by decide +kernel)]
      rw [make_frz (ds := [obj I a, obj I b, obj I c]) (cs1 := []) h.mPick (by simp [opR, sem2]) (by rw [show n + k + 2 = (n + k + 1) + 1 from rfl, call_at h.iPick]; exact set3_ok (f := "asked") (g := "one") (k := "other") h.fPick.1 h.fPick.2.1 h.fPick.2.2 (by decide +kernel) (by decide +kernel) (by decide +kernel))]
      rfl
    | two o a b =>
      obtain ⟨rfl, rfl⟩ : w = o.w ∧ r = [enc a, enc b] := by injection es with es; injection es with a b; injection a with a; exact ⟨a.symm, b.symm⟩
      have ha : max a.dp b.dp + 1 ≤ k + 1 := ht
      refine ⟨[], fin (sl := [some (.d (enc (.two o a b))), some (.d (.str o.w)), some (.d (.lst [obj I a, obj I b])), none]) ?_⟩
      rw [bo, step]
      show evSs G _ (.ite _ _ _ :: _) _ _ = _
      have nw : ∀ k ∈ (["num", "box", "yes", "no", "not", "pick"] : List Str), (o.w == k) = false := by cases o <;> decide +kernel
      rw [q_ne rfl (nw _ (by decide +kernel)), q_ne rfl (nw _ (by decide +kernel)), q_ne rfl (nw _ (by decide +kernel)), q_ne rfl (nw _ (by decide +kernel))]
      refine (q_asg (w := .d (.lst [obj I a, obj I b])) (cs' := []) (parts [a, b] (by intro t' h'; simp at h'; rcases h' with rfl | rfl <;> omega) _) (by simp)).trans ?_
      show evSs G _ (.ite _ _ _ :: _) [some (.d (enc (.two o a b))), some (.d (.str o.w)), some (.d (.lst [obj I a, obj I b])), none] _ = _
      rw [q_ne rfl (nw _ (by decide +kernel)), q_ne rfl (nw _ (by decide +kernel))]
      obtain ⟨ms, q⟩ := two_ok h (n + k) o (obj I a) (obj I b)
      refine q_ret ?_
      have c : callW (PD.call G (n + k + 2) I.f_two_of) [.d (.str o.w), .d (obj I a), .d (obj I b)] [] = .ok (.d (obj I (.two o a b))) [] := callW_d (ds := [.str o.w, obj I a, obj I b]) rfl q
      simp [opR, sem2, c]
theorem say_ok (h : HBd G I) (t : Tr) (ht : t.ok) (hd : t.dp ≤ 9) (hs : t.sz ≤ 40) (n : Nat) : ∃ ms, PD.call G (n + 14) I.f_saying_of [.d (enc t)] [] = .ok (.d (obj I t)) ms := by
  rw [show n + 14 = (n + 13) + 1 from rfl, call_at h.say]
  have T := is_tree_ok h.tr n 9 (enc t) (by omega) (pl_mono (enc_pl t) hd) (enc_sh t ht)
  rw [decide_eq_true (Nat.le_trans (prt_enc t ht 9 hd) hs)] at T
  have T := callW1 (cs := []) T
  obtain ⟨ms, B⟩ := built_ok h 9 t hd (n + 2)
  have B : callW (PD.call G (n + 13) I.f_built_of) [.d (enc t)] [] = .ok (.d (obj I t)) [] := callW1 (cs := []) B
  refine ⟨[], ?_⟩
  simp [runB, b_saying_of, T, B]
end
end PL
set_option Elab.async false
set_option linter.all false
set_option maxRecDepth 100000
set_option maxHeartbeats 4000000
namespace PL
open PySem PySem.Spec PyProof.Rows L2 PD NumText
section
variable {G : Pg} {Φ : Nat → List PD.W → List M → Rs PD.W} {sl : Sl} {cs : List M}
theorem s_eq {a b : D} (h1 : plainD a = true) (h2 : plainD b = true) : sem2 .eq a b = some (.bl (eqD a b)) := by
  show (if (plainD a && plainD b) = true then _ else _) = _
  rw [h1, h2]
  rfl
theorem s_ne {a b : D} (h1 : plainD a = true) (h2 : plainD b = true) : sem2 .ne a b = some (.bl (!eqD a b)) := by
  show (if (plainD a && plainD b) = true then _ else _) = _
  rw [h1, h2]
  rfl
theorem q_eqE {e1 e2 : E} {a b : D} (he : evE G Φ e1 sl cs = .ok (.d a) cs) (hf : evE G Φ e2 sl cs = .ok (.d b) cs) (h1 : plainD a = true) (h2 : plainD b = true) : evE G Φ (.op .eq [e1, e2]) sl cs = .ok (.d (.bl (eqD a b))) cs := by
  rw [eE_op, eEs_cons, he, Rs.bind_ok, eEs_cons, hf, Rs.bind_ok, eEs_nil, Rs.bind_ok, Rs.bind_ok, Rs.bind_ok]
  show (match sem2 .eq a b with | some d => Rs.ok (PD.W.d d) cs | none => .stuck) = _
  rw [s_eq h1 h2]
theorem q_neE {e1 e2 : E} {a b : D} (he : evE G Φ e1 sl cs = .ok (.d a) cs) (hf : evE G Φ e2 sl cs = .ok (.d b) cs) (h1 : plainD a = true) (h2 : plainD b = true) : evE G Φ (.op .ne [e1, e2]) sl cs = .ok (.d (.bl (!eqD a b))) cs := by
  rw [eE_op, eEs_cons, he, Rs.bind_ok, eEs_cons, hf, Rs.bind_ok, eEs_nil, Rs.bind_ok, Rs.bind_ok, Rs.bind_ok]
  show (match sem2 .ne a b with | some d => Rs.ok (PD.W.d d) cs | none => .stuck) = _
  rw [s_ne h1 h2]
theorem q_meth {o : E} {m : Str} {es : List E} {C f : Nat} {ks : List Str} {vs : List D} (ho : evE G Φ o sl cs = .ok (.d (.obj C ks vs)) cs) (hm : G.meth C m = some f) (hk : ks.contains m = false) :
    evE G Φ (.meth o m es) sl cs = (evEs G Φ es sl cs).bind fun ws cs => callW (Φ f) (.d (.obj C ks vs) :: ws) cs := by
  rw [eE_meth, ho, Rs.bind_ok, pk_d]
  show (match (if ks.contains m = true then none else G.meth C m) with | some f => _ | none => _ : Rs PD.W) = _
  rw [if_neg (by rw [hk]; exact Bool.false_ne_true), hm]
theorem q_fld {o : E} {f : Str} {C : Nat} {ks : List Str} {vs : List D} {v : D} (ho : evE G Φ o sl cs = .ok (.d (.obj C ks vs)) cs) (hf : G.fld C f = true) (hv : fget ks vs f = some v) : evE G Φ (.fld o f) sl cs = .ok (.d v) cs := by
  rw [eE_fld, ho, Rs.bind_ok, pk_d]
  dsimp only
  rw [if_pos hf, hv]
  rfl
theorem fg1 {f : Str} {x : D} : fget [f] [x] f = some x := if_pos rfl
theorem fg2a {f g : Str} {x y : D} : fget [f, g] [x, y] f = some x := if_pos rfl
theorem fg2b {f g : Str} {x y : D} (h : g ≠ f) : fget [f, g] [x, y] g = some y := (if_neg h).trans (if_pos rfl)
theorem fg3a {f g k : Str} {x y z : D} : fget [f, g, k] [x, y, z] f = some x := if_pos rfl
theorem fg3b {f g k : Str} {x y z : D} (h : g ≠ f) : fget [f, g, k] [x, y, z] g = some y := (if_neg h).trans (if_pos rfl)
theorem fg3c {f g k : Str} {x y z : D} (h : k ≠ f) (h2 : k ≠ g) : fget [f, g, k] [x, y, z] k = some z := (if_neg h).trans ((if_neg h2).trans (if_pos rfl))
end
structure Arg (w : PD.W) (cs : List M) (dd : D) : Prop where
  pk : PD.pk w cs = some dd
  form : (w = .d dd ∧ cs = []) ∨ (w = .c 0 ∧ ∃ m, cs = [m] ∧ m ≠ .dead)
theorem Arg.data (dd : D) : Arg (.d dd) [] dd := ⟨rfl, .inl ⟨rfl, rfl⟩⟩
theorem Arg.cell {m : M} {dd : D} (h : mD m = some dd) : Arg (.c 0) [m] dd := ⟨h, .inr ⟨rfl, m, rfl, by rintro rfl; cases h⟩⟩
theorem Arg.call {w : PD.W} {cs : List M} {dd x v : D} {f : List PD.W → List M → Rs PD.W} (a : Arg w cs dd) (h : f [.d x, w] cs = .ok (.d v) cs) : callW f [.d x, w] cs = .ok (.d v) cs := by
  rcases a.form with ⟨rfl, rfl⟩ | ⟨rfl, m, rfl, hm⟩
  · exact callW2 h
  · have r : rn [] [PD.W.d x, .c 0] = ([.d x, .c 0], [0]) := rfl
    have t : takeAll [m] [0] = some [m] := by cases m <;> first | rfl | exact absurd rfl hm
    unfold callW
    rw [r]
    dsimp only
    rw [t]
    dsimp only
    rw [h]
    rfl
def kw : Option Bool → D
  | none => .non
  | some false => .str "number"
  | some true => .str "truth"
def Op2.want : Op2 → Bool
  | .and_ => true | .or_ => true | _ => false
def Op2.made : Op2 → Bool
  | .plus => false | .minus => false | .times => false | _ => true
def kind (κ : List Nat → Option Bool) : Tr → Option Bool
  | .num _ => some false
  | .yes => some true
  | .no => some true
  | .box l => κ l
  | .nt a => if kind κ a = some true then some true else none
  | .two o a b => if kind κ a = some o.want ∧ kind κ b = some o.want then some o.made else none
  | .pick a b c => if kind κ a = some true ∧ kind κ c = kind κ b then kind κ b else none
def KD (κ : List Nat → Option Bool) (dd : D) : Prop := ∃ ks vs, dd = .dct ks vs ∧ ∀ l, (dget ks vs (.inr (mk l))).getD .non = kw (κ l)
theorem kw_plain (k : Option Bool) : plainD (kw k) = true := by
  cases k with
  | none => rfl
  | some b => cases b <;> rfl
theorem kw_eq (a b : Option Bool) : eqD (kw a) (kw b) = decide (a = b) := by
  cases a with
  | none =>
    cases b with
    | none => rfl
    | some b => cases b <;> rfl
  | some a =>
    cases b with
    | none => cases a <;> rfl
    | some b =>
      cases a <;> cases b <;> (show ((_ : Str) == _) = _) <;> decide +kernel
structure HKd (G : Pg) (I : Ix) : Prop where
  bd : HBd G I
  fNum : G.fns[I.f_Num_kind]? = some (2, 2, b_Num_kind)
  fYes : G.fns[I.f_Yes_kind]? = some (2, 2, b_Yes_kind)
  fNo : G.fns[I.f_No_kind]? = some (2, 2, b_No_kind)
  fBox : G.fns[I.f_Box_kind]? = some (2, 2, b_Box_kind)
  fNot : G.fns[I.f_Not_kind]? = some (2, 2, b_Not_kind)
  fPick : G.fns[I.f_Pick_kind]? = some (2, 3, b_Pick_kind)
  fTwo : G.fns[I.f_Two_kind]? = some (2, 3, b_Two_kind)
  fParts : G.fns[I.f_Two_parts]? = some (1, 1, b_Two_parts)
  fWant : G.fns[I.f_Two_wanted]? = some (1, 1, b_Two_wanted)
  fWant2 : G.fns[I.f_And_wanted]? = some (1, 1, b_And_wanted)
  fMade : G.fns[I.f_Two_made]? = some (1, 1, b_Two_made)
  fMade2 : G.fns[I.f_Same_made]? = some (1, 1, b_Same_made)
  mNum : G.meth I.c_Num "kind" = some I.f_Num_kind
  mYes : G.meth I.c_Yes "kind" = some I.f_Yes_kind
  mNo : G.meth I.c_No "kind" = some I.f_No_kind
  mBox : G.meth I.c_Box "kind" = some I.f_Box_kind
  mNot : G.meth I.c_Not "kind" = some I.f_Not_kind
  mPick : G.meth I.c_Pick "kind" = some I.f_Pick_kind
  mTwo : ∀ o, G.meth (cOp I o) "kind" = some I.f_Two_kind
  mParts : ∀ o, G.meth (cOp I o) "parts" = some I.f_Two_parts
  mWant : ∀ o, G.meth (cOp I o) "wanted" = some (if o.want = true then I.f_And_wanted else I.f_Two_wanted)
  mMade : ∀ o, G.meth (cOp I o) "made" = some (if o.made = true then I.f_Same_made else I.f_Two_made)
def clsT (I : Ix) : Tr → Nat
  | .num _ => I.c_Num | .yes => I.c_Yes | .no => I.c_No | .box _ => I.c_Box | .nt _ => I.c_Not | .two o _ _ => cOp I o | .pick _ _ _ => I.c_Pick
def kindF (I : Ix) : Tr → Nat
  | .num _ => I.f_Num_kind | .yes => I.f_Yes_kind | .no => I.f_No_kind | .box _ => I.f_Box_kind | .nt _ => I.f_Not_kind | .two _ _ _ => I.f_Two_kind | .pick _ _ _ => I.f_Pick_kind
def fieldsT : Tr → List Str
  | .num _ => ["number"] | .yes => [] | .no => [] | .box _ => ["name"] | .nt _ => ["one"] | .two _ _ _ => ["one", "other"] | .pick _ _ _ => ["asked", "one", "other"]
theorem obj_form (I : Ix) (t : Tr) : ∃ vs, obj I t = .obj (clsT I t) (fieldsT t) vs := by cases t <;> exact ⟨_, rfl⟩
section
variable {G : Pg} {I : Ix}
end
end PL
set_option Elab.async false
set_option linter.all false
set_option maxRecDepth 100000
set_option maxHeartbeats 4000000
namespace PL
open PySem PySem.Spec PyProof.Rows L2 PD NumText
section
variable {G : Pg} {Φ : Nat → List PD.W → List M → Rs PD.W} {sl : Sl} {cs : List M}
theorem evEs_strs (ws : List Str) : evEs G Φ (ws.map fun x => .c (.str x)) sl cs = .ok (ws.map fun x => .d (.str x)) cs := by
  induction ws with
  | nil => rfl
  | cons a r ih => rw [List.map_cons, eEs_cons, eE_c, Rs.bind_ok, ih]; rfl
theorem dats_map (ds : List D) : dats (ds.map .d) = some ds := by
  induction ds with
  | nil => rfl
  | cons d ds ih => show (dats (ds.map .d)).map _ = _; rw [ih]; rfl
theorem in_strs (w : Str) (ws : List Str) : inD (.str w) (.tup (ws.map .str)) = some (ws.any (· == w)) := by
  show (if (plainD (.str w) && (ws.map D.str).all plainD) = true then some ((ws.map D.str).any (eqD · (.str w))) else none) = _
  have e : (ws.map D.str).all plainD = true := by
    rw [List.all_eq_true]
    intro d hd
    obtain ⟨x, _, rfl⟩ := List.mem_map.mp hd
    rfl
  rw [e, Bool.and_true, show plainD (.str w) = true from rfl, if_pos rfl, List.any_map]
  rfl
theorem q_in {e : E} {w : Str} (ws : List Str) (he : evE G Φ e sl cs = .ok (.d (.str w)) cs) (hl : ws.length ≤ LIM) : evE G Φ (.op .in_ [e, .tup (ws.map fun x => .c (.str x))]) sl cs = .ok (.d (.bl (ws.any (· == w)))) cs := by
  have hm : (ws.map fun x => PD.W.d (.str x)) = (ws.map D.str).map .d := by rw [List.map_map]; rfl
  rw [eE_op, eEs_cons, he, Rs.bind_ok, eEs_cons, eE_tup, evEs_strs, Rs.bind_ok, hm, dats_map]
  dsimp only
  rw [if_pos (by rw [List.length_map]; exact hl), Rs.bind_ok, eEs_nil, Rs.bind_ok, Rs.bind_ok, Rs.bind_ok]
  show (match (inD (.str w) (.tup (ws.map .str))).map D.bl with | some d => Rs.ok (PD.W.d d) cs | none => .stuck) = _
  rw [in_strs]
  rfl
theorem q_notin {e : E} {w : Str} (ws : List Str) (he : evE G Φ e sl cs = .ok (.d (.str w)) cs) (hl : ws.length ≤ LIM) : evE G Φ (.op .notin [e, .tup (ws.map fun x => .c (.str x))]) sl cs = .ok (.d (.bl (!ws.any (· == w)))) cs := by
  have hm : (ws.map fun x => PD.W.d (.str x)) = (ws.map D.str).map .d := by rw [List.map_map]; rfl
  rw [eE_op, eEs_cons, he, Rs.bind_ok, eEs_cons, eE_tup, evEs_strs, Rs.bind_ok, hm, dats_map]
  dsimp only
  rw [if_pos (by rw [List.length_map]; exact hl), Rs.bind_ok, eEs_nil, Rs.bind_ok, Rs.bind_ok, Rs.bind_ok]
  show (match (inD (.str w) (.tup (ws.map .str))).map fun c => D.bl (!c) with | some d => Rs.ok (PD.W.d d) cs | none => .stuck) = _
  rw [in_strs]
  rfl
theorem q_iteT {t : E} {c : Bool} {b : List S} {e : E} {rest : List S} {cs1 : List M} (ht : evE G Φ t sl cs = .ok (.d (.bl c)) cs1) : evSs G Φ (.ite t [.ret e] [] :: rest) sl cs = if c = true then SR.of (evE G Φ e sl cs1) sl fun w cs => .ok (.ret w) sl cs else evSs G Φ rest sl cs1 := by
  rw [eSs_cons, eS_ite, eT, ht, Rs.bind_ok, pk_d]
  show (match SR.of (Rs.ofO (truth (.bl c)) cs1) sl _ with | .ok .nx sl cs => _ | r => r) = _
  rw [tr_bl]
  cases c with
  | false => rfl
  | true =>
    show (match evSs G Φ [.ret e] sl cs1 with | .ok .nx sl cs => _ | r => r) = _
    rw [eSs_cons, eS_ret]
    cases evE G Φ e sl cs1 <;> rfl
theorem q_ifT {t : E} {e : E} {rest : List S} {cs1 : List M} (ht : evE G Φ t sl cs = .ok (.d (.bl true)) cs1) : evSs G Φ (.ite t [.ret e] [] :: rest) sl cs = SR.of (evE G Φ e sl cs1) sl fun w cs => .ok (.ret w) sl cs := (q_iteT (b := []) ht).trans (if_pos rfl)
theorem q_ifF {t : E} {b : List S} {rest : List S} {cs1 : List M} (ht : evE G Φ t sl cs = .ok (.d (.bl false)) cs1) : evSs G Φ (.ite t b [] :: rest) sl cs = evSs G Φ rest sl cs1 := by
  rw [eSs_cons, eS_ite, eT, ht]
  rfl
theorem q_eqS {e : E} {w k : Str} (he : evE G Φ e sl cs = .ok (.d (.str w)) cs) : evE G Φ (.op .eq [e, .c (.str k)]) sl cs = .ok (.d (.bl (w == k))) cs := q_eqE (a := .str w) (b := .str k) he rfl rfl rfl
def RetS (G : Pg) (Φ : Nat → List PD.W → List M → Rs PD.W) (b : List S) (sl : Sl) (cs : List M) (w : PD.W) (cs' : List M) : Prop := ∃ sl', evSs G Φ b sl cs = .ok (.ret w) sl' cs'
variable {b rest : List S} {e t : E} {w : PD.W} {cs1 cs' : List M}
theorem t_run {np ns : Nat} {ws : List PD.W} (sl0 : Sl) (h : RetS G Φ b sl0 cs w cs') (hl : ws.length = np := by rfl) (h0 : ws.map some ++ List.replicate (ns - np) none = sl0 := by rfl) : runB G Φ np ns b ws cs = .ok w cs' := by
  obtain ⟨sl, h⟩ := h
  exact runB_ret hl (by rw [h0]; exact h)
theorem t_ret (h : evE G Φ e sl cs = .ok w cs') : RetS G Φ (.ret e :: rest) sl cs w cs' := ⟨sl, q_ret h⟩
theorem t_asg {i : Nat} {x : PD.W} (sl2 : Sl) (h : evE G Φ e sl cs = .ok x cs1) (h2 : RetS G Φ rest sl2 cs1 w cs') (hi : i < sl.length := by simp) (hs : sl.set i (some x) = sl2 := by rfl) : RetS G Φ (.asg (.n i) e :: rest) sl cs w cs' := by
  subst hs
  obtain ⟨sl', h2⟩ := h2
  exact ⟨sl', (q_asg h hi).trans h2⟩
theorem t_ifR (ht : evE G Φ t sl cs = .ok (.d (.bl true)) cs1) (h : evE G Φ e sl cs1 = .ok w cs') : RetS G Φ (.ite t [.ret e] [] :: rest) sl cs w cs' := ⟨sl, by rw [q_ifT ht, h]; rfl⟩
theorem t_ifF (ht : evE G Φ t sl cs = .ok (.d (.bl false)) cs1) (h : RetS G Φ rest sl cs1 w cs') : RetS G Φ (.ite t b [] :: rest) sl cs w cs' := by
  obtain ⟨sl', h⟩ := h
  exact ⟨sl', (q_ifF ht).trans h⟩
theorem t_ifB {b1 b2 : List S} (ht : evE G Φ t sl cs = .ok (.d (.bl true)) cs1) (h : RetS G Φ b1 sl cs1 w cs') : RetS G Φ (.ite t b1 b2 :: rest) sl cs w cs' := by
  obtain ⟨sl', h⟩ := h
  refine ⟨sl', ?_⟩
  rw [eSs_cons, eS_ite, eT, ht]
  show (match evSs G Φ b1 sl cs1 with | .ok .nx sl cs => _ | r => r) = _
  rw [h]
theorem q_ifeT {a c : E} (ht : evE G Φ t sl cs = .ok (.d (.bl true)) cs1) (h : evE G Φ a sl cs1 = .ok w cs') : evE G Φ (.ife t a c) sl cs = .ok w cs' := by
  rw [eE_ife, ht]; exact h
theorem q_ifeF {a c : E} (ht : evE G Φ t sl cs = .ok (.d (.bl false)) cs1) (h : evE G Φ c sl cs1 = .ok w cs') : evE G Φ (.ife t a c) sl cs = .ok w cs' := by
  rw [eE_ife, ht]; exact h
theorem q_andT {a : E} {x : PD.W} (ht : evE G Φ t sl cs = .ok (.d (.bl true)) cs1) (h : evE G Φ a sl cs1 = .ok x cs') : evE G Φ (.and_ t a) sl cs = .ok x cs' := by
  rw [eE_and, ht]; exact h
theorem q_andF {a : E} (ht : evE G Φ t sl cs = .ok (.d (.bl false)) cs1) : evE G Φ (.and_ t a) sl cs = .ok (.d (.bl false)) cs1 := by
  rw [eE_and, ht]; rfl
theorem q_orT {a : E} (ht : evE G Φ t sl cs = .ok (.d (.bl true)) cs1) : evE G Φ (.or_ t a) sl cs = .ok (.d (.bl true)) cs1 := by
  rw [eE_or, ht]; rfl
theorem q_orF {a : E} {x : PD.W} (ht : evE G Φ t sl cs = .ok (.d (.bl false)) cs1) (h : evE G Φ a sl cs1 = .ok x cs') : evE G Φ (.or_ t a) sl cs = .ok x cs' := by
  rw [eE_or, ht]; exact h
theorem q_not {c : Bool} (ht : evE G Φ t sl cs = .ok (.d (.bl c)) cs1) : evE G Φ (.not_ t) sl cs = .ok (.d (.bl (!c))) cs1 := by
  rw [eE_not, ht]; rfl
end
section
variable {G : Pg} {I : Ix}
theorem ix0 {Φ : Nat → List PD.W → List M → Rs PD.W} {sl : Sl} {cs : List M} {i : Nat} {x : D} {r : List D} (h : sl[i]? = some (some (.d (.tup (x :: r))))) : evE G Φ (.op .ix [.v i, .c (.int 0)]) sl cs = .ok (.d x) cs := by
  rw [eE_op, eEs_cons, q_get h, Rs.bind_ok, eEs_cons, eE_c, Rs.bind_ok, eEs_nil, Rs.bind_ok, Rs.bind_ok, Rs.bind_ok]
  show (match ixD (.tup (x :: r)) (.int 0) with | some d => Rs.ok (PD.W.d d) cs | none => .stuck) = _
  rw [ix_t, at0]
theorem ix1 {Φ : Nat → List PD.W → List M → Rs PD.W} {sl : Sl} {cs : List M} {i : Nat} {x y : D} {r : List D} (h : sl[i]? = some (some (.d (.tup (x :: y :: r))))) : evE G Φ (.op .ix [.v i, .c (.int 1)]) sl cs = .ok (.d y) cs := by
  rw [eE_op, eEs_cons, q_get h, Rs.bind_ok, eEs_cons, eE_c, Rs.bind_ok, eEs_nil, Rs.bind_ok, Rs.bind_ok, Rs.bind_ok]
  show (match ixD (.tup (x :: y :: r)) (.int 1) with | some d => Rs.ok (PD.W.d d) cs | none => .stuck) = _
  rw [ix_t, at1]
theorem ixL {Φ : Nat → List PD.W → List M → Rs PD.W} {sl : Sl} {cs : List M} {i : Nat} {xs : List D} {k : Int} {y : D} (h : sl[i]? = some (some (.d (.lst xs)))) (hk : atI xs k = some y) : evE G Φ (.op .ix [.v i, .c (.int k)]) sl cs = .ok (.d y) cs := by
  rw [eE_op, eEs_cons, q_get h, Rs.bind_ok, eEs_cons, eE_c, Rs.bind_ok, eEs_nil, Rs.bind_ok, Rs.bind_ok, Rs.bind_ok]
  show (match ixD (.lst xs) (.int k) with | some d => Rs.ok (PD.W.d d) cs | none => .stuck) = _
  rw [ix_l, hk]
theorem q_tail {Φ : Nat → List PD.W → List M → Rs PD.W} {sl : Sl} {cs : List M} {i j : Nat} {own : List Nat} {x : D} {r es : List D} {elt : E} (h : sl[i]? = some (some (.d (.tup (x :: r))))) (hl : r.length = es.length) (hf : ∀ (k : Nat) d, r[k]? = some d → ∃ y, es[k]? = some y ∧ cF G Φ sl own (.n j) [] elt d cs = .ok (some y) cs) :
    evE G Φ (.comp false own (.n j) .seq [.slL (.v i) (.c (.int 1))] [] elt) sl cs = .ok (.d (.lst es)) cs := by
  rw [eE_comp, eEs_cons, eE_slL, q_get h, Rs.bind_ok, eE_c, Rs.bind_ok]
  dsimp only
  rw [pk_d]
  show (((Rs.ofO ((slD (.tup (x :: r)) (some 1) none).map PD.W.d) cs).bind fun w cs => (Rs.ok [] cs).bind fun ws cs => Rs.ok (w :: ws) cs).bind _) = _
  rw [sl_1]
  show (Rs.ok [PD.W.d (D.tup r)] cs).bind _ = _
  rw [Rs.bind_ok]
  show (compL _ r [] cs).bind _ = _
  rw [q_comp hf hl []]
  rfl
end
end PL
set_option Elab.async false
set_option linter.all false
set_option maxRecDepth 100000
set_option maxHeartbeats 4000000
set_option exponentiation.threshold 300
namespace PL
open PySem PySem.Spec PyProof.Rows L2 PD NumText
def St2 (m : M) : Prop := ∃ s u : Int, m = .lst [.int s, .int u] ∧ 0 ≤ s ∧ s < 2147483647 ∧ 0 ≤ u
theorem St2.nd {m : M} (h : St2 m) : m ≠ .dead := by obtain ⟨_, _, rfl, _⟩ := h; exact fun z => nomatch z
section
variable {G : Pg} {I : Ix}
theorem mixK (h : G.fns[I.f_mix2]? = some (2, 3, b_mix2)) (n : Nat) {m : M} (hm : St2 m) (k : Int) (hk : k.natAbs < 2 ^ 2000000) : ∃ (v : Int) (m' : M), PD.call G (n + 1) I.f_mix2 [.c 0, .d (.int k)] [m] = .ok (.d (.int v)) [m'] ∧ St2 m' ∧ 0 ≤ v := by
  obtain ⟨s, u, rfl, h1, h2, h3⟩ := hm
  obtain ⟨s', u', v, e, a1, a2, a3, a4, _⟩ := mix2_ok h n s u k h1 h2 h3 hk
  exact ⟨v, _, e, ⟨s', u', rfl, a1, a2, a3⟩, a4⟩
theorem q_mix (h : G.fns[I.f_mix2]? = some (2, 3, b_mix2)) (n : Nat) {sl : Sl} {cs : List M} {i : Nat} {m : M} (hs : sl[0]? = some (some (.c i))) (hi : cs[i]? = some m) (hm : St2 m) : ∃ (v : Int) (m' : M), evE G (PD.call G (n + 1)) (.call I.f_mix2 [.v 0, .c (.int 0)]) sl cs = .ok (.d (.int v)) (cs.set i m') ∧ St2 m' ∧ 0 ≤ v := by
  obtain ⟨v, m', e, a1, a2⟩ := mixK h n hm 0 (Nat.two_pow_pos _)
  refine ⟨v, m', ?_, a1, a2⟩
  rw [eE_call, eEs_cons, q_get hs, Rs.bind_ok, eEs_cons, eE_c, Rs.bind_ok, eEs_nil, Rs.bind_ok, Rs.bind_ok, Rs.bind_ok]
  exact callW_ci hi hm.nd e
theorem q_modE {Φ : Nat → List PD.W → List M → Rs PD.W} {sl : Sl} {cs cs1 cs2 : List M} {a b : E} {v k : Int} (ha : evE G Φ a sl cs = .ok (.d (.int v)) cs1) (hb : evE G Φ b sl cs1 = .ok (.d (.int k)) cs2) (hk : 0 < k) : evE G Φ (.op .mod [a, b]) sl cs = .ok (.d (.int (v.fmod k))) cs2 := by
  rw [eE_op, eEs_cons, ha, Rs.bind_ok, eEs_cons, hb, Rs.bind_ok, eEs_nil, Rs.bind_ok, Rs.bind_ok, Rs.bind_ok]
  show (match arith .mod v k with | some d => Rs.ok (PD.W.d d) cs2 | none => .stuck) = _
  rw [arith_mod (by omega)]
theorem fmod_bd (v k : Int) (hk : 0 < k) : 0 ≤ v.fmod k ∧ v.fmod k < k := ⟨Int.fmod_nonneg_of_pos v hk, Int.fmod_lt_of_pos v hk⟩
theorem q_mm (h : G.fns[I.f_mix2]? = some (2, 3, b_mix2)) (n : Nat) {sl : Sl} {cs : List M} {i : Nat} {m : M} (hs : sl[0]? = some (some (.c i))) (hi : cs[i]? = some m) (hm : St2 m) (k : Int) (hk : 0 < k) : ∃ (r : Int) (m' : M), evE G (PD.call G (n + 1)) (.op .mod [.call I.f_mix2 [.v 0, .c (.int 0)], .c (.int k)]) sl cs = .ok (.d (.int r)) (cs.set i m') ∧ St2 m' ∧ 0 ≤ r ∧ r < k := by
  obtain ⟨v, m', e, a1, a2⟩ := q_mix h n hs hi hm
  obtain ⟨b1, b2⟩ := fmod_bd v k hk
  exact ⟨_, m', q_modE e rfl hk, a1, b1, b2⟩
end
theorem comp_filter {α : Type} {f : D → List M → Rs (Option D)} {cs : List M} (p : α → Bool) (g : α → D) : ∀ (as : List α) (acc : List D), (∀ a ∈ as, f (g a) cs = .ok (if p a = true then some (g a) else none) cs) → compL f (as.map g) acc cs = .ok (acc ++ (as.filter p).map g) cs
  | [], acc, _ => by simp
  | a :: as, acc, h => by
    rw [List.map_cons, compL_c, h a List.mem_cons_self]
    dsimp only
    rw [comp_filter p g as _ fun b hb => h b (List.mem_cons_of_mem _ hb)]
    by_cases c : p a = true
    · rw [if_pos c, List.filter_cons_of_pos c]; simp
    · rw [if_neg c, List.filter_cons_of_neg c]; simp
structure KDN (κ : List Nat → Option Bool) (ls : List (List Nat)) (bs : List Bool) : Prop where
  len : ls.length = bs.length
  few : ls.length < 64
  nm : ∀ l ∈ ls, isNameL l = true
  at_ : ∀ l, dget (ls.map fun l => (Sum.inr (mk l) : Key)) (bs.map fun b => kw (some b)) (.inr (mk l)) = (κ l).map fun b => kw (some b)
abbrev kdD (ls : List (List Nat)) (bs : List Bool) : D := .dct (ls.map fun l => .inr (mk l)) (bs.map fun b => kw (some b))
theorem kdn_kd {κ : List Nat → Option Bool} {ls : List (List Nat)} {bs : List Bool} (h : KDN κ ls bs) : KD κ (kdD ls bs) := by
  refine ⟨_, _, rfl, fun l => ?_⟩
  rw [h.at_]
  cases κ l with
  | none => rfl
  | some b => rfl
theorem kdn_mem {κ : List Nat → Option Bool} {ls : List (List Nat)} {bs : List Bool} (h : KDN κ ls bs) {l : List Nat} (hl : l ∈ ls) : ∃ b, κ l = some b := by
  have hs : ∀ (ls : List (List Nat)) (bs : List Bool), ls.length = bs.length → l ∈ ls → (dget (ls.map fun l => (Sum.inr (mk l) : Key)) (bs.map fun b => kw (some b)) (.inr (mk l))).isSome = true := fun ls => by
    induction ls with
    | nil => intro bs _ h; cases h
    | cons a r ih =>
      intro bs hlen hm
      cases bs with
      | nil => cases hlen
      | cons b bs =>
        show (if (Sum.inr (mk l) : Key) = .inr (mk a) then some (kw (some b)) else dget _ _ _).isSome = true
        by_cases c : (Sum.inr (mk l) : Key) = .inr (mk a)
        · rw [if_pos c]; rfl
        · rw [if_neg c]
          refine ih bs (by simpa using hlen) ?_
          rcases List.mem_cons.mp hm with rfl | hm
          · exact absurd rfl c
          · exact hm
  have := hs ls bs h.len hl
  rw [h.at_] at this
  cases e : κ l with
  | none => rw [e] at this; cases this
  | some b => exact ⟨b, rfl⟩
section
variable {G : Pg} {I : Ix}
theorem isStrs_mk : ∀ ls : List (List Nat), isStrs (ls.map fun l => .str (mk l)) = some (ls.map mk)
  | [] => rfl
  | l :: ls => by
    show (isStrs (ls.map fun l => .str (mk l))).map (mk l :: ·) = _
    rw [isStrs_mk ls]
    rfl
theorem names_of (κ : List Nat → Option Bool) (ls : List (List Nat)) (bs : List Bool) (h : KDN κ ls bs) (b : Bool) (Φ : Nat → List PD.W → List M → Rs PD.W) (s0 s3 : Option PD.W) (cs : List M) :
    ∃ zs : List (List Nat), evE G Φ (.op .sorted [.comp false [4] (.n 4) .keys [.v 1] [.op .eq [.op .ix [.v 1, .v 4], .v 2]] (.v 4)]) [s0, some (.d (kdD ls bs)), some (.d (kw (some b))), s3, none] cs = .ok (.d (.lst (zs.map fun l => .str (mk l)))) cs ∧ (∀ l ∈ zs, isNameL l = true ∧ κ l = some b) ∧ zs.length < 64 := by
  have hlim : ls.length ≤ LIM := Nat.le_trans (Nat.le_of_lt h.few) (by decide)
  have turn : ∀ l ∈ ls, cF G Φ [s0, some (.d (kdD ls bs)), some (.d (kw (some b))), s3, none] [4] (.n 4) [.op .eq [.op .ix [.v 1, .v 4], .v 2]] (.v 4) (.str (mk l)) cs = .ok (if decide (κ l = some b) = true then some (.str (mk l)) else none) cs := fun l hl => by
    obtain ⟨b', hb⟩ := kdn_mem h hl
    show ((evC G Φ [.op .eq [.op .ix [.v 1, .v 4], .v 2]] [s0, some (.d (kdD ls bs)), some (.d (kw (some b))), s3, some (.d (.str (mk l)))] cs).bind _ : Rs (Option D)) = _
    have ix : evE G Φ (.op .ix [.v 1, .v 4]) [s0, some (.d (kdD ls bs)), some (.d (kw (some b))), s3, some (.d (.str (mk l)))] cs = .ok (.d (kw (some b'))) cs := by
      show (match dget (ls.map fun l => (Sum.inr (mk l) : Key)) (bs.map fun b => kw (some b)) (.inr (mk l)) with | some d => Rs.ok (PD.W.d d) cs | none => .stuck) = _
      rw [h.at_, hb]
      rfl
    have q := q_eqE ix (e2 := .v 2) (b := kw (some b)) rfl (kw_plain _) (kw_plain _)
    rw [kw_eq] at q
    rw [eC_cons, q, hb]
    by_cases c : (some b' : Option Bool) = some b
    · rw [decide_eq_true c, if_pos rfl]; rfl
    · rw [decide_eq_false c]; rfl
  have cmp : evE G Φ (.comp false [4] (.n 4) .keys [.v 1] [.op .eq [.op .ix [.v 1, .v 4], .v 2]] (.v 4)) [s0, some (.d (kdD ls bs)), some (.d (kw (some b))), s3, none] cs = .ok (.d (.lst ((ls.filter fun l => decide (κ l = some b)).map fun l => .str (mk l)))) cs := by
    rw [eE_comp, eEs_cons, q_get rfl, Rs.bind_ok, eEs_nil, Rs.bind_ok, Rs.bind_ok]
    show (match (items .keys [kdD ls bs]) with | some ds => _ | none => _ : Rs PD.W) = _
    rw [items_keys, if_pos ⟨by rw [List.length_map, List.length_map]; exact h.len, by rw [List.length_map]; exact hlim⟩]
    have em : ((ls.map fun l => (Sum.inr (mk l) : Key)).map kD) = ls.map fun l => D.str (mk l) := by rw [List.map_map]; rfl
    rw [em]
    dsimp only
    rw [comp_filter (fun l => decide (κ l = some b)) (fun l => .str (mk l)) ls [] turn]
    rfl
  have hmem : ∀ x ∈ sortS ((ls.filter fun l => decide (κ l = some b)).map mk), ∃ l, x = mk l ∧ isNameL l = true ∧ κ l = some b := fun x hx => by
    have := (sortS_perm _).mem_iff.mp hx
    obtain ⟨l, hl, rfl⟩ := List.mem_map.mp this
    obtain ⟨h1, h2⟩ := List.mem_filter.mp hl
    exact ⟨l, rfl, h.nm l h1, of_decide_eq_true h2⟩
  refine ⟨(sortS ((ls.filter fun l => decide (κ l = some b)).map mk)).map L, ?_, fun l hl => ?_, ?_⟩
  · rw [eE_op, eEs_cons, cmp, Rs.bind_ok, eEs_nil, Rs.bind_ok, Rs.bind_ok]
    show (match (match isStrs ((ls.filter fun l => decide (κ l = some b)).map fun l => .str (mk l)) with | some zs => if zs.length < 64 then some (D.lst ((sortS zs).map .str)) else none | none => none) with | some d => Rs.ok (PD.W.d d) cs | none => .stuck) = _
    rw [isStrs_mk]
    dsimp only
    rw [if_pos (by rw [List.length_map]; exact Nat.lt_of_le_of_lt (List.length_filter_le _ _) h.few), List.map_map]
    dsimp only
    congr 3
  · obtain ⟨x, hx, rfl⟩ := List.mem_map.mp hl
    obtain ⟨l, rfl, q1, q2⟩ := hmem x hx
    rw [L_mk]
    exact ⟨q1, q2⟩
  · rw [List.length_map, (sortS_perm _).length_eq, List.length_map]
    exact Nat.lt_of_le_of_lt (List.length_filter_le _ _) h.few
theorem atI_in {xs : List D} {r : Int} (h : 0 ≤ r) (h2 : r < xs.length) : ∃ d, atI xs r = some d ∧ d ∈ xs := by
  obtain ⟨k, rfl⟩ := Int.eq_ofNat_of_zero_le h
  have hk : k < xs.length := by omega
  exact ⟨xs[k], atI_nat (by simp [hk]), List.getElem_mem hk⟩
def LeafK (κ : List Nat → Option Bool) (b : Bool) (t : Tr) : Prop := t.ok ∧ t.dp = 1 ∧ t.sz = 1 ∧ kind κ t = some b
theorem leafK_ok (h1 : G.fns[I.f_mix2]? = some (2, 3, b_mix2)) (h2 : G.fns[I.f_leafK]? = some (3, 5, b_leafK I)) (κ : List Nat → Option Bool) (ls : List (List Nat)) (bs : List Bool) (h : KDN κ ls bs) (b : Bool) (n : Nat) {m : M} (hm : St2 m) :
    ∃ (t : Tr) (m' : M), PD.call G (n + 2) I.f_leafK [.c 0, .d (kdD ls bs), .d (kw (some b))] [m] = .ok (.d (enc t)) [m'] ∧ St2 m' ∧ LeafK κ b t := by
  rw [show n + 2 = (n + 1) + 1 from rfl, call_at h2]
  obtain ⟨zs, nz, hz, lz⟩ := names_of (G := G) κ ls bs h b (PD.call G (n + 1)) (some (.c 0)) none [m]
  -- the slots behind the names
  have go : ∀ {t : Tr} {m' : M}, RetS G (PD.call G (n + 1)) ((b_leafK I).tail) [some (.c 0), some (.d (kdD ls bs)), some (.d (kw (some b))), some (.d (.lst (zs.map fun l => .str (mk l)))), none] [m] (.d (enc t)) [m'] → runB G (PD.call G (n + 1)) 3 5 (b_leafK I) [.c 0, .d (kdD ls bs), .d (kw (some b))] [m] = .ok (.d (enc t)) [m'] := fun {t m'} q =>
    t_run [some (.c 0), some (.d (kdD ls bs)), some (.d (kw (some b))), none, none] (t_asg _ nz q)
  -- the test
  have ne : evE G (PD.call G (n + 1)) (.op .ne [.v 3, .lst []]) [some (.c 0), some (.d (kdD ls bs)), some (.d (kw (some b))), some (.d (.lst (zs.map fun l => .str (mk l)))), none] [m] = .ok (.d (.bl (!zs.isEmpty))) [m] := by
    have pz : plainD (.lst (zs.map fun l => .str (mk l))) = true := by
      have : ∀ zs : List (List Nat), PyData.plainAll (pys (zs.map fun l => .str (mk l))) = true ∧ PyData.depthAll (pys (zs.map fun l => .str (mk l))) = 0 := fun zs => by
        induction zs with
        | nil => exact ⟨rfl, rfl⟩
        | cons a r ih =>
          refine ⟨?_, ?_⟩
          · show (true && PyData.plainAll (pys (r.map fun l => .str (mk l)))) = true
            rw [ih.1]; rfl
          · show max 0 (PyData.depthAll (pys (r.map fun l => .str (mk l)))) = 0
            rw [ih.2]; rfl
      obtain ⟨p1, p2⟩ := this zs
      show (PyData.plainAll _ && decide (PyData.depthAll _ + 1 ≤ 60)) = true
      rw [p1, p2]
      decide
    have q := q_neE (G := G) (Φ := PD.call G (n + 1)) (sl := [some (.c 0), some (.d (kdD ls bs)), some (.d (kw (some b))), some (.d (.lst (zs.map fun l => .str (mk l)))), none]) (cs := [m]) (e1 := .v 3) (e2 := .lst []) (a := .lst (zs.map fun l => .str (mk l))) (b := .lst []) rfl rfl pz rfl
    rw [q]
    cases zs <;> rfl
  obtain ⟨r1, m1, e1, a1, a2, a3⟩ := q_mm h1 n (sl := [some (.c 0), some (.d (kdD ls bs)), some (.d (kw (some b))), some (.d (.lst (zs.map fun l => .str (mk l)))), none]) (cs := [m]) rfl rfl hm 4 (by decide)
  have gt : evE G (PD.call G (n + 1)) (.op .gt [.op .mod [.call I.f_mix2 [.v 0, .c (.int 0)], .c (.int 4)], .c (.int 0)]) [some (.c 0), some (.d (kdD ls bs)), some (.d (kw (some b))), some (.d (.lst (zs.map fun l => .str (mk l)))), none] [m] = .ok (.d (.bl (decide (0 < r1)))) [m1] := by
    rw [eE_op, eEs_cons, e1]
    rfl
  -- what stands behind the names
  have rest : ∀ {m0 : M}, St2 m0 → ∃ (t : Tr) (m' : M), RetS G (PD.call G (n + 1)) ((b_leafK I).tail.tail) [some (.c 0), some (.d (kdD ls bs)), some (.d (kw (some b))), some (.d (.lst (zs.map fun l => .str (mk l)))), none] [m0] (.d (enc t)) [m'] ∧ St2 m' ∧ LeafK κ b t := fun {m0} h0 => by
    have eqt : evE G (PD.call G (n + 1)) (.op .eq [.v 2, .c (kw (some true))]) [some (.c 0), some (.d (kdD ls bs)), some (.d (kw (some b))), some (.d (.lst (zs.map fun l => .str (mk l)))), none] [m0] = .ok (.d (.bl (decide ((some b : Option Bool) = some true)))) [m0] := by
      have q := q_eqE (G := G) (Φ := PD.call G (n + 1)) (sl := [some (.c 0), some (.d (kdD ls bs)), some (.d (kw (some b))), some (.d (.lst (zs.map fun l => .str (mk l)))), none]) (cs := [m0]) (e1 := .v 2) (e2 := .c (kw (some true))) (a := kw (some b)) (b := kw (some true)) rfl rfl (kw_plain _) (kw_plain _)
      rw [kw_eq] at q
      exact q
    obtain ⟨r, m', e, b1, b2, b3⟩ := q_mm h1 n (sl := [some (.c 0), some (.d (kdD ls bs)), some (.d (kw (some b))), some (.d (.lst (zs.map fun l => .str (mk l)))), none]) (cs := [m0]) rfl rfl h0 2 (by decide)
    cases b with
    | true =>
      have rr : r = 0 ∨ r = 1 := by omega
      rcases rr with rfl | rfl
      · refine ⟨.yes, m', t_ifR eqt ?_, b1, trivial, rfl, rfl, rfl⟩
        rw [eE_op, eEs_cons, show evE G (PD.call G (n + 1)) (.lst [.tup [.c (.str "yes")], .tup [.c (.str "no")]]) _ [m0] = .ok (.d (.lst [.tup [.str "yes"], .tup [.str "no"]])) [m0] from rfl, Rs.bind_ok, eEs_cons, e]
        rfl
      · refine ⟨.no, m', t_ifR eqt ?_, b1, trivial, rfl, rfl, rfl⟩
        rw [eE_op, eEs_cons, show evE G (PD.call G (n + 1)) (.lst [.tup [.c (.str "yes")], .tup [.c (.str "no")]]) _ [m0] = .ok (.d (.lst [.tup [.str "yes"], .tup [.str "no"]])) [m0] from rfl, Rs.bind_ok, eEs_cons, e]
        rfl
    | false =>
      obtain ⟨v, mv, ev, c1, c2⟩ := q_mix h1 n (sl := [some (.c 0), some (.d (kdD ls bs)), some (.d (kw (some false))), some (.d (.lst (zs.map fun l => .str (mk l)))), none]) (cs := [m0]) rfl rfl h0
      obtain ⟨r, m2, e, b1, b2, b3⟩ := q_mm h1 n (sl := [some (.c 0), some (.d (kdD ls bs)), some (.d (kw (some false))), some (.d (.lst (zs.map fun l => .str (mk l)))), none]) (cs := [mv]) rfl rfl c1 2 (by decide)
      have sel : ∃ k : Int, (k = 3 ∨ k = 16) ∧ evE G (PD.call G (n + 1)) (.op .ix [.lst [.c (.int 3), .c (.int 16)], .op .mod [.call I.f_mix2 [.v 0, .c (.int 0)], .c (.int 2)]]) [some (.c 0), some (.d (kdD ls bs)), some (.d (kw (some false))), some (.d (.lst (zs.map fun l => .str (mk l)))), none] [mv] = .ok (.d (.int k)) [m2] := by
        have rr : r = 0 ∨ r = 1 := by omega
        rcases rr with rfl | rfl
        · refine ⟨3, .inl rfl, ?_⟩
          rw [eE_op, eEs_cons, show evE G (PD.call G (n + 1)) (.lst [.c (.int 3), .c (.int 16)]) _ [mv] = .ok (.d (.lst [.int 3, .int 16])) [mv] from rfl, Rs.bind_ok, eEs_cons, e]
          rfl
        · refine ⟨16, .inr rfl, ?_⟩
          rw [eE_op, eEs_cons, show evE G (PD.call G (n + 1)) (.lst [.c (.int 3), .c (.int 16)]) _ [mv] = .ok (.d (.lst [.int 3, .int 16])) [mv] from rfl, Rs.bind_ok, eEs_cons, e]
          rfl
      obtain ⟨k, hk, ek⟩ := sel
      have q := q_modE ev ek (by rcases hk with rfl | rfl <;> decide)
      obtain ⟨f1, f2⟩ := fmod_bd v k (by rcases hk with rfl | rfl <;> decide)
      refine ⟨.num (v.fmod k), m2, t_ifF eqt (t_ret ?_), b1, ⟨f1, by rcases hk with rfl | rfl <;> omega⟩, rfl, rfl, rfl⟩
      rw [eE_tup, eEs_cons, eE_c, Rs.bind_ok, eEs_cons, q]
      rfl
  cases hzs : zs with
  | nil =>
    obtain ⟨t, m', q, b1, b2⟩ := rest hm
    refine ⟨t, m', go (t_ifF ?_ q), b1, b2⟩
    have he : zs.isEmpty = true := by rw [hzs]; rfl
    rw [he] at ne
    exact q_andF ne
  | cons z zr =>
    have he : zs.isEmpty = false := by rw [hzs]; rfl
    rw [he] at ne
    have an := q_andT ne gt
    by_cases c : 0 < r1
    · rw [decide_eq_true c] at an
      obtain ⟨v, mv, ev, c1, c2⟩ := q_mix h1 n (sl := [some (.c 0), some (.d (kdD ls bs)), some (.d (kw (some b))), some (.d (.lst (zs.map fun l => .str (mk l)))), none]) (cs := [m1]) rfl rfl a1
      have el : evE G (PD.call G (n + 1)) (.op .len [.v 3]) [some (.c 0), some (.d (kdD ls bs)), some (.d (kw (some b))), some (.d (.lst (zs.map fun l => .str (mk l)))), none] [mv] = .ok (.d (.int (zs.map fun l => D.str (mk l)).length)) [mv] := rfl
      have hl0 : (0 : Int) < ((zs.map fun l => D.str (mk l)).length : Nat) := by rw [hzs]; simp
      have q := q_modE ev el hl0
      obtain ⟨f1, f2⟩ := fmod_bd v _ hl0
      obtain ⟨d, ed, md⟩ := atI_in (xs := zs.map fun l => D.str (mk l)) f1 f2
      obtain ⟨l, hl, rfl⟩ := List.mem_map.mp md
      obtain ⟨g1, g2⟩ := hz l hl
      refine ⟨.box l, mv, go (t_ifR an ?_), c1, g1, rfl, rfl, g2⟩
      have ix : evE G (PD.call G (n + 1)) (.op .ix [.v 3, .op .mod [.call I.f_mix2 [.v 0, .c (.int 0)], .op .len [.v 3]]]) [some (.c 0), some (.d (kdD ls bs)), some (.d (kw (some b))), some (.d (.lst (zs.map fun l => .str (mk l)))), none] [m1] = .ok (.d (.str (mk l))) [mv] := by
        rw [eE_op, eEs_cons, q_get rfl, Rs.bind_ok, eEs_cons, q, Rs.bind_ok, eEs_nil, Rs.bind_ok, Rs.bind_ok, Rs.bind_ok]
        show (match atI (zs.map fun l => D.str (mk l)) _ with | some d => Rs.ok (PD.W.d d) [mv] | none => .stuck) = _
        rw [ed]
      show evE G _ (.tup [.c (.str "box"), _]) _ _ = _
      rw [eE_tup, eEs_cons, eE_c, Rs.bind_ok, eEs_cons, ix]
      rfl
    · rw [decide_eq_false c] at an
      obtain ⟨t, m', q, b1, b2⟩ := rest a1
      exact ⟨t, m', go (t_ifF an q), b1, b2⟩
end
end PL
set_option Elab.async false
set_option linter.all false
set_option maxRecDepth 100000
set_option maxHeartbeats 4000000
namespace PL
open PySem PySem.Spec PyProof.Rows L2 PD NumText
def T3 : Nat → Nat
  | 0 => 1
  | d + 1 => 1 + 3 * T3 d
structure TreeK (κ : List Nat → Option Bool) (b : Bool) (d : Nat) (t : Tr) : Prop where
  ok : t.ok
  dp : t.dp ≤ d + 1
  sz : t.sz ≤ T3 d
  kd : kind κ t = some b
theorem T3_pos (d : Nat) : 1 ≤ T3 d := by cases d <;> simp [T3]; 
theorem LeafK.tree {κ : List Nat → Option Bool} {b : Bool} {t : Tr} (h : LeafK κ b t) (d : Nat) : TreeK κ b d t := ⟨h.1, by rw [h.2.1]; omega, by rw [h.2.2.1]; exact T3_pos d, h.2.2.2⟩
def treeS (f : Nat) (I : Ix) (inn : List S) : List S := [
  .asg (.n 4) (.op .mod [.call I.f_mix2 [.v 0, .c (.int (0))], .c (.int (10))]),
  .ite (.or_ (.op .eq [.v 3, .c (.int (0))]) (.op .lt [.v 4, .c (.int (3))])) [.ret (.call I.f_leafK [.v 0, .v 1, .v 2])] [],
  .ite (.op .eq [.v 4, .c (.int (3))]) [.asg (.n 5) (.call f [.v 0, .v 1, .c (kw (some true)), .op .sub [.v 3, .c (.int (1))]]), .ret (.tup [.c (.str "pick"), .v 5, .call f [.v 0, .v 1, .v 2, .op .sub [.v 3, .c (.int (1))]], .call f [.v 0, .v 1, .v 2, .op .sub [.v 3, .c (.int (1))]]])] [],
  .par 6 7 (.op .ix [.lst [.c (.str "plus"), .c (.str "minus"), .c (.str "times")], .op .mod [.v 4, .c (.int (3))]]) (.c (kw (some false))),
  .ite (.op .eq [.v 2, .c (kw (some true))]) inn [],
  .ite (.op .eq [.v 6, .c (.str "not")]) [.ret (.tup [.c (.str "not"), .call f [.v 0, .v 1, .c (kw (some true)), .op .sub [.v 3, .c (.int (1))]]])] [],
  .ret (.tup [.v 6, .call f [.v 0, .v 1, .v 7, .op .sub [.v 3, .c (.int (1))]], .call f [.v 0, .v 1, .v 7, .op .sub [.v 3, .c (.int (1))]]])]
def tw : Int → Str × Bool
  | 4 => ("same", false) | 5 => ("less", false) | 6 => ("and", true) | 7 => ("or", true) | 8 => ("not", true) | _ => ("same", false)
def InnOk (G : Pg) (inn : List S) : Prop := ∀ (Φ : Nat → List PD.W → List M → Rs PD.W) (s0 s1 s2 s3 s5 s6 s7 : Option PD.W) (cs : List M) (w : Int), 4 ≤ w → w < 10 →
  evSs G Φ inn [s0, s1, s2, s3, some (.d (.int w)), s5, s6, s7] cs = .ok .nx [s0, s1, s2, s3, some (.d (.int w)), s5, some (.d (.str (tw w).1)), some (.d (kw (some (tw w).2)))] cs
section
variable {G : Pg} {I : Ix}
theorem t_nx {G : Pg} {Φ : Nat → List PD.W → List M → Rs PD.W} {b1 b2 rest : List S} {t : E} {sl sl2 : Sl} {cs cs1 cs2 cs' : List M} {w : PD.W} (ht : evE G Φ t sl cs = .ok (.d (.bl true)) cs1) (h1 : evSs G Φ b1 sl cs1 = .ok .nx sl2 cs2) (h : RetS G Φ rest sl2 cs2 w cs') : RetS G Φ (.ite t b1 b2 :: rest) sl cs w cs' := by
  obtain ⟨sl', h⟩ := h
  refine ⟨sl', ?_⟩
  rw [eSs_cons, eS_ite, eT, ht]
  show (match evSs G Φ b1 sl cs1 with | .ok .nx sl cs => _ | r => r) = _
  rw [h1]
  exact h
theorem t_par {G : Pg} {Φ : Nat → List PD.W → List M → Rs PD.W} {rest : List S} {i j : Nat} {a b : E} {sl : Sl} {cs cs1 cs2 cs' : List M} {w x y : PD.W} (sl2 : Sl) (ha : evE G Φ a sl cs = .ok x cs1) (hb : evE G Φ b sl cs1 = .ok y cs2) (h : RetS G Φ rest sl2 cs2 w cs') (hi : i < sl.length ∧ j < sl.length := by simp) (hs : (sl.set i (some x)).set j (some y) = sl2 := by rfl) : RetS G Φ (.par i j a b :: rest) sl cs w cs' := by
  subst hs
  obtain ⟨sl', h⟩ := h
  refine ⟨sl', ?_⟩
  rw [eSs_cons, eS_par, ha, SR.of_ok, hb, SR.of_ok, if_pos hi]
  exact h
theorem q_callS {f : Nat} {Φ : Nat → List PD.W → List M → Rs PD.W} {sl : Sl} {m m' : M} {e : E} {x y v : D} {k : Int} (h0 : sl[0]? = some (some (.c 0))) (h1 : sl[1]? = some (some (.d x))) (he : evE G Φ e sl [m] = .ok (.d y) [m]) (h3 : sl[3]? = some (some (.d (.int k)))) (hm : m ≠ .dead) (h : Φ f [.c 0, .d x, .d y, .d (.int (k - 1))] [m] = .ok (.d v) [m']) :
    evE G Φ (.call f [.v 0, .v 1, e, .op .sub [.v 3, .c (.int 1)]]) sl [m] = .ok (.d v) [m'] := by
  rw [eE_call, eEs_cons, q_get h0, Rs.bind_ok, eEs_cons, q_get h1, Rs.bind_ok, eEs_cons, he, Rs.bind_ok, eEs_cons, eE_op, eEs_cons, q_get h3]
  show callW (Φ f) [.c 0, .d x, .d y, .d (.int (k - 1))] [m] = _
  exact callW_cds (ds := [x, y, .int (k - 1)]) rfl rfl hm h
theorem tree_step (f : Nat) (inn : List S) (hf : G.fns[f]? = some (4, 8, treeS f I inn)) (hi : InnOk G inn) (h1 : G.fns[I.f_mix2]? = some (2, 3, b_mix2)) (h2 : G.fns[I.f_leafK]? = some (3, 5, b_leafK I)) (κ : List Nat → Option Bool) (ls : List (List Nat)) (bs : List Bool) (h : KDN κ ls bs) :
    ∀ (d : Nat) (n : Nat) (b : Bool) (m : M), St2 m → ∃ (t : Tr) (m' : M), PD.call G (n + d + 3) f [.c 0, .d (kdD ls bs), .d (kw (some b)), .d (.int d)] [m] = .ok (.d (enc t)) [m'] ∧ St2 m' ∧ TreeK κ b d t := by
  intro d
  induction d with
  | zero =>
    intro n b m hm
    rw [show n + 0 + 3 = (n + 2) + 1 from rfl, call_at hf]
    obtain ⟨w, m1, e1, a1, a2, a3⟩ := q_mm h1 (n + 1) (sl := [some (.c 0), some (.d (kdD ls bs)), some (.d (kw (some b))), some (.d (.int 0)), none, none, none, none]) (cs := [m]) rfl rfl hm 10 (by decide)
    obtain ⟨t, m', q, c1, c2⟩ := leafK_ok h1 h2 κ ls bs h b n a1
    refine ⟨t, m', t_run [some (.c 0), some (.d (kdD ls bs)), some (.d (kw (some b))), some (.d (.int 0)), none, none, none, none] ?_, c1, c2.tree 0⟩
    refine t_asg _ e1 (t_ifR (q_orT (cs1 := [m1]) rfl) ?_)
    exact callW_cds (ds := [kdD ls bs, kw (some b)]) rfl rfl a1.nd q
  | succ d ih =>
    intro n b m hm
    rw [show n + (d + 1) + 3 = (n + d + 3) + 1 from by omega, call_at hf]
    obtain ⟨w, m1, e1, a1, a2, a3⟩ := q_mm h1 (n + d + 2) (sl := [some (.c 0), some (.d (kdD ls bs)), some (.d (kw (some b))), some (.d (.int ((d + 1 : Nat) : Int))), none, none, none, none]) (cs := [m]) rfl rfl hm 10 (by decide)
    have e0 : ∀ (o5 o6 o7 : Option PD.W) (cs : List M), evE G (PD.call G (n + d + 3)) (.op .eq [.v 3, .c (.int 0)]) [some (.c 0), some (.d (kdD ls bs)), some (.d (kw (some b))), some (.d (.int ((d + 1 : Nat) : Int))), some (.d (.int w)), o5, o6, o7] cs = .ok (.d (.bl false)) cs := fun o5 o6 o7 cs => by
      have q := q_eqE (G := G) (Φ := PD.call G (n + d + 3)) (sl := [some (.c 0), some (.d (kdD ls bs)), some (.d (kw (some b))), some (.d (.int ((d + 1 : Nat) : Int))), some (.d (.int w)), o5, o6, o7]) (cs := cs) (e1 := .v 3) (e2 := .c (.int 0)) (a := .int ((d + 1 : Nat) : Int)) (b := .int 0) rfl rfl rfl rfl
      rw [q, eqD_int]
      have : (((d + 1 : Nat) : Int) == 0) = false := by simp; omega
      rw [this]
    have lt3 : ∀ (cs : List M), evE G (PD.call G (n + d + 3)) (.op .lt [.v 4, .c (.int 3)]) [some (.c 0), some (.d (kdD ls bs)), some (.d (kw (some b))), some (.d (.int ((d + 1 : Nat) : Int))), some (.d (.int w)), none, none, none] cs = .ok (.d (.bl (decide (w < 3)))) cs := fun cs => rfl
    have eq3 : evE G (PD.call G (n + d + 3)) (.op .eq [.v 4, .c (.int 3)]) [some (.c 0), some (.d (kdD ls bs)), some (.d (kw (some b))), some (.d (.int ((d + 1 : Nat) : Int))), some (.d (.int w)), none, none, none] [m1] = .ok (.d (.bl (w == 3))) [m1] := q_eqE (a := .int w) (b := .int 3) rfl rfl rfl rfl
    -- calls within
    have rc : ∀ (b' : Bool) (e : E) (sl : Sl) (m0 : M), St2 m0 → sl[0]? = some (some (.c 0)) → sl[1]? = some (some (.d (kdD ls bs))) → sl[3]? = some (some (.d (.int ((d + 1 : Nat) : Int)))) → evE G (PD.call G (n + d + 3)) e sl [m0] = .ok (.d (kw (some b'))) [m0] →
        ∃ (t : Tr) (m' : M), evE G (PD.call G (n + d + 3)) (.call f [.v 0, .v 1, e, .op .sub [.v 3, .c (.int 1)]]) sl [m0] = .ok (.d (enc t)) [m'] ∧ St2 m' ∧ TreeK κ b' d t := fun b' e sl m0 hm0 s0 s1 s3 he => by
      obtain ⟨t, m', q, c1, c2⟩ := ih n b' m0 hm0
      refine ⟨t, m', q_callS s0 s1 he s3 hm0.nd ?_, c1, c2⟩
      rw [show ((d + 1 : Nat) : Int) - 1 = (d : Int) from by omega]
      exact q
    have fin : ∀ {t : Tr} {m' : M}, RetS G (PD.call G (n + d + 3)) (treeS f I inn).tail [some (.c 0), some (.d (kdD ls bs)), some (.d (kw (some b))), some (.d (.int ((d + 1 : Nat) : Int))), some (.d (.int w)), none, none, none] [m1] (.d (enc t)) [m'] → runB G (PD.call G (n + d + 3)) 4 8 (treeS f I inn) [.c 0, .d (kdD ls bs), .d (kw (some b)), .d (.int ((d + 1 : Nat) : Int))] [m] = .ok (.d (enc t)) [m'] := fun {t m'} q =>
      t_run [some (.c 0), some (.d (kdD ls bs)), some (.d (kw (some b))), some (.d (.int ((d + 1 : Nat) : Int))), none, none, none, none] (t_asg _ e1 q)
    have or1 := q_orF (e0 none none none [m1]) (lt3 [m1])
    by_cases c : w < 3
    · obtain ⟨t, m', q, c1, c2⟩ := leafK_ok h1 h2 κ ls bs h b (n + d + 1) a1
      refine ⟨t, m', fin (t_ifR (by rw [or1, decide_eq_true c]) ?_), c1, c2.tree _⟩
      exact callW_cds (ds := [kdD ls bs, kw (some b)]) rfl rfl a1.nd q
    rw [decide_eq_false c] at or1
    by_cases c3 : w = 3
    · subst c3
      obtain ⟨x, m2, q1, x1, x2⟩ := rc true (.c (kw (some true))) [some (.c 0), some (.d (kdD ls bs)), some (.d (kw (some b))), some (.d (.int ((d + 1 : Nat) : Int))), some (.d (.int 3)), none, none, none] m1 a1 rfl rfl rfl rfl
      obtain ⟨y, m3, q2, y1, y2⟩ := rc b (.v 2) [some (.c 0), some (.d (kdD ls bs)), some (.d (kw (some b))), some (.d (.int ((d + 1 : Nat) : Int))), some (.d (.int 3)), some (.d (enc x)), none, none] m2 x1 rfl rfl rfl rfl
      obtain ⟨z, m4, q3, z1, z2⟩ := rc b (.v 2) [some (.c 0), some (.d (kdD ls bs)), some (.d (kw (some b))), some (.d (.int ((d + 1 : Nat) : Int))), some (.d (.int 3)), some (.d (enc x)), none, none] m3 y1 rfl rfl rfl rfl
      refine ⟨.pick x y z, m4, fin (t_ifF or1 (t_ifB (by rw [eq3]; rfl) (t_asg _ q1 (t_ret ?_)))), z1, ⟨x2.ok, y2.ok, z2.ok⟩, ?_, ?_, ?_⟩
      · show evE G _ (.tup [.c (.str "pick"), .v 5, _, _]) [some (.c 0), some (.d (kdD ls bs)), some (.d (kw (some b))), some (.d (.int ((d + 1 : Nat) : Int))), some (.d (.int 3)), some (.d (enc x)), none, none] [m2] = _
        rw [eE_tup, eEs_cons, eE_c, Rs.bind_ok, eEs_cons, q_get rfl, Rs.bind_ok, eEs_cons, q2, Rs.bind_ok, eEs_cons, q3]
        rfl
      · show max x.dp (max y.dp z.dp) + 1 ≤ _
        have := x2.dp; have := y2.dp; have := z2.dp
        omega
      · show 1 + (x.sz + (y.sz + z.sz)) ≤ 1 + 3 * T3 d
        have := x2.sz; have := y2.sz; have := z2.sz
        omega
      · show (if kind κ x = some true ∧ kind κ z = kind κ y then kind κ y else none) = _
        rw [x2.kd, y2.kd, z2.kd, if_pos ⟨rfl, rfl⟩]
    · have eq3' : evE G (PD.call G (n + d + 3)) (.op .eq [.v 4, .c (.int 3)]) [some (.c 0), some (.d (kdD ls bs)), some (.d (kw (some b))), some (.d (.int ((d + 1 : Nat) : Int))), some (.d (.int w)), none, none, none] [m1] = .ok (.d (.bl false)) [m1] := by
        rw [eq3]
        have : (w == 3) = false := by simp [c3]
        rw [this]
      have hw4 : 4 ≤ w := by omega
      -- the last row: a word between two of one kind
      have two : ∀ (o : Op2) (b' : Bool), o.want = b' → o.made = b → ∃ (t : Tr) (m' : M), RetS G (PD.call G (n + d + 3)) (treeS f I inn).tail.tail.tail.tail.tail [some (.c 0), some (.d (kdD ls bs)), some (.d (kw (some b))), some (.d (.int ((d + 1 : Nat) : Int))), some (.d (.int w)), none, some (.d (.str o.w)), some (.d (kw (some b')))] [m1] (.d (enc t)) [m'] ∧ St2 m' ∧ TreeK κ b (d + 1) t := fun o b' ho hb => by
        obtain ⟨x, m2, q1, x1, x2⟩ := rc b' (.v 7) [some (.c 0), some (.d (kdD ls bs)), some (.d (kw (some b))), some (.d (.int ((d + 1 : Nat) : Int))), some (.d (.int w)), none, some (.d (.str o.w)), some (.d (kw (some b')))] m1 a1 rfl rfl rfl rfl
        obtain ⟨y, m3, q2, y1, y2⟩ := rc b' (.v 7) [some (.c 0), some (.d (kdD ls bs)), some (.d (kw (some b))), some (.d (.int ((d + 1 : Nat) : Int))), some (.d (.int w)), none, some (.d (.str o.w)), some (.d (kw (some b')))] m2 x1 rfl rfl rfl rfl
        have nw : (o.w == ("not" : Str)) = false := by cases o <;> decide +kernel
        refine ⟨.two o x y, m3, t_ifF (by rw [q_eqS (w := o.w) rfl, nw]) (t_ret ?_), y1, ⟨x2.ok, y2.ok⟩, ?_, ?_, ?_⟩
        · rw [eE_tup, eEs_cons, q_get rfl, Rs.bind_ok, eEs_cons, q1, Rs.bind_ok, eEs_cons, q2]
          rfl
        · show max x.dp y.dp + 1 ≤ _
          have := x2.dp; have := y2.dp
          omega
        · show 1 + (x.sz + y.sz) ≤ 1 + 3 * T3 d
          have := x2.sz; have := y2.sz
          omega
        · show (if kind κ x = some o.want ∧ kind κ y = some o.want then some o.made else none) = _
          rw [x2.kd, y2.kd, ho, if_pos ⟨rfl, rfl⟩, hb]
      have eqt : ∀ (o6 o7 : Option PD.W), evE G (PD.call G (n + d + 3)) (.op .eq [.v 2, .c (kw (some true))]) [some (.c 0), some (.d (kdD ls bs)), some (.d (kw (some b))), some (.d (.int ((d + 1 : Nat) : Int))), some (.d (.int w)), none, o6, o7] [m1] = .ok (.d (.bl (decide ((some b : Option Bool) = some true)))) [m1] := fun o6 o7 => by
        have q := q_eqE (G := G) (Φ := PD.call G (n + d + 3)) (sl := [some (.c 0), some (.d (kdD ls bs)), some (.d (kw (some b))), some (.d (.int ((d + 1 : Nat) : Int))), some (.d (.int w)), none, o6, o7]) (cs := [m1]) (e1 := .v 2) (e2 := .c (kw (some true))) (a := kw (some b)) (b := kw (some true)) rfl rfl (kw_plain _) (kw_plain _)
        rw [kw_eq] at q
        exact q
      -- the arithmetic word
      have aw : ∃ o : Op2, o.want = false ∧ o.made = false ∧ evE G (PD.call G (n + d + 3)) (.op .ix [.lst [.c (.str "plus"), .c (.str "minus"), .c (.str "times")], .op .mod [.v 4, .c (.int 3)]]) [some (.c 0), some (.d (kdD ls bs)), some (.d (kw (some b))), some (.d (.int ((d + 1 : Nat) : Int))), some (.d (.int w)), none, none, none] [m1] = .ok (.d (.str o.w)) [m1] := by
        have hw : w = 4 ∨ w = 5 ∨ w = 6 ∨ w = 7 ∨ w = 8 ∨ w = 9 := by omega
        rcases hw with rfl | rfl | rfl | rfl | rfl | rfl
        · exact ⟨.minus, rfl, rfl, rfl⟩
        · exact ⟨.times, rfl, rfl, rfl⟩
        · exact ⟨.plus, rfl, rfl, rfl⟩
        · exact ⟨.minus, rfl, rfl, rfl⟩
        · exact ⟨.times, rfl, rfl, rfl⟩
        · exact ⟨.plus, rfl, rfl, rfl⟩
      obtain ⟨oa, wa, ma, ea⟩ := aw
      cases b with
      | false =>
        obtain ⟨t, m', q, c1, c2⟩ := two oa false wa ma
        exact ⟨t, m', fin (t_ifF or1 (t_ifF eq3' (t_par _ ea rfl (t_ifF (eqt _ _) q)))), c1, c2⟩
      | true =>
        have il := hi (PD.call G (n + d + 3)) (some (.c 0)) (some (.d (kdD ls bs))) (some (.d (kw (some true)))) (some (.d (.int ((d + 1 : Nat) : Int)))) none (some (.d (.str oa.w))) (some (.d (kw (some false)))) [m1] w hw4 a3
        by_cases c8 : w = 8
        · subst c8
          obtain ⟨x, m2, q1, x1, x2⟩ := rc true (.c (kw (some true))) [some (.c 0), some (.d (kdD ls bs)), some (.d (kw (some true))), some (.d (.int ((d + 1 : Nat) : Int))), some (.d (.int 8)), none, some (.d (.str "not")), some (.d (kw (some true)))] m1 a1 rfl rfl rfl rfl
          refine ⟨.nt x, m2, fin (t_ifF or1 (t_ifF eq3' (t_par _ ea rfl (t_nx (eqt _ _) il (t_ifR (by rw [q_eqS (w := "not") rfl]; rfl) ?_))))), x1, x2.ok, ?_, ?_, ?_⟩
          · show evE G _ (.tup [.c (.str "not"), _]) [some (.c 0), some (.d (kdD ls bs)), some (.d (kw (some true))), some (.d (.int ((d + 1 : Nat) : Int))), some (.d (.int 8)), none, some (.d (.str "not")), some (.d (kw (some true)))] [m1] = _
            rw [eE_tup, eEs_cons, eE_c, Rs.bind_ok, eEs_cons, q1]
            rfl
          · show x.dp + 1 ≤ _
            have := x2.dp
            omega
          · show 1 + x.sz ≤ 1 + 3 * T3 d
            have := x2.sz
            omega
          · show (if kind κ x = some true then some true else none) = _
            rw [x2.kd, if_pos rfl]
        · have ow : ∃ o : Op2, o.w = (tw w).1 ∧ o.want = (tw w).2 ∧ o.made = true := by
            have hw : w = 4 ∨ w = 5 ∨ w = 6 ∨ w = 7 ∨ w = 9 := by omega
            rcases hw with rfl | rfl | rfl | rfl | rfl
            · exact ⟨.same, rfl, rfl, rfl⟩
            · exact ⟨.less, rfl, rfl, rfl⟩
            · exact ⟨.and_, rfl, rfl, rfl⟩
            · exact ⟨.or_, rfl, rfl, rfl⟩
            · exact ⟨.same, rfl, rfl, rfl⟩
          obtain ⟨o, o1, o2, o3⟩ := ow
          obtain ⟨t, m', q, c1, c2⟩ := two o (tw w).2 o2 o3
          rw [o1] at q
          exact ⟨t, m', fin (t_ifF or1 (t_ifF eq3' (t_par _ ea rfl (t_nx (eqt _ _) il q)))), c1, c2⟩
def innK : List S := [.asg (.n 6) (.op .ix [.lst [.c (.str "same"), .c (.str "less"), .c (.str "and"), .c (.str "or"), .c (.str "not"), .c (.str "same")], .op .sub [.v 4, .c (.int (4))]]), .asg (.n 7) (.op .ix [.lst [.c (.str "number"), .c (.str "truth")], .op .int [.op .in_ [.v 4, .tup [.c (.int (6)), .c (.int (7)), .c (.int (8))]]]])]
def innP : List S := [.par 6 7 (.op .ix [.lst [.c (.str "same"), .c (.str "less"), .c (.str "and"), .c (.str "or"), .c (.str "not"), .c (.str "same")], .op .sub [.v 4, .c (.int (4))]]) (.op .ix [.lst [.c (.str "number"), .c (.str "truth")], .op .int [.op .in_ [.v 4, .tup [.c (.int (6)), .c (.int (7)), .c (.int (8))]]]])]
theorem innP_ok : InnOk G innP := fun Φ s0 s1 s2 s3 s5 s6 s7 cs w h1 h2 => by
  have hw : w = 4 ∨ w = 5 ∨ w = 6 ∨ w = 7 ∨ w = 8 ∨ w = 9 := by omega
  rcases hw with rfl | rfl | rfl | rfl | rfl | rfl <;> rfl
end
end PL
set_option Elab.async false
set_option linter.all false
set_option maxRecDepth 100000
set_option maxHeartbeats 4000000
set_option exponentiation.threshold 300
namespace PL
open PySem PySem.Spec PyProof.Rows L2 PD NumText
abbrev nk (l : List Nat) : Key := .inr (mk l)
theorem nk_inj {a b : List Nat} (h : nk a = nk b) : a = b := mk_inj (Sum.inr.inj h)
structure ND (ls : List (List Nat)) (bs : List Bool) : Prop where
  len : ls.length = bs.length
  nd : ls.Nodup
  nm : ∀ l ∈ ls, isNameL l = true
def kap : List (List Nat) → List Bool → List Nat → Option Bool
  | a :: r, b :: s, l => if l = a then some b else kap r s l
  | _, _, _ => none
theorem dget_kap : ∀ (ls : List (List Nat)) (bs : List Bool) (l : List Nat), dget (ls.map nk) (bs.map fun b => kw (some b)) (nk l) = (kap ls bs l).map fun b => kw (some b)
  | [], bs, l => by cases bs <;> rfl
  | a :: r, [], l => rfl
  | a :: r, b :: s, l => by
    show (if nk l = nk a then some (kw (some b)) else dget (r.map nk) (s.map fun b => kw (some b)) (nk l)) = (if l = a then some b else kap r s l).map _
    by_cases c : l = a
    · subst c; rw [if_pos rfl, if_pos rfl]; rfl
    · rw [if_neg fun z => c (nk_inj z), if_neg c, dget_kap r s l]
theorem ND.kdn {ls : List (List Nat)} {bs : List Bool} (h : ND ls bs) (hf : ls.length < 64) : KDN (kap ls bs) ls bs := ⟨h.len, hf, h.nm, fun l => dget_kap ls bs l⟩
theorem ND.kd {ls : List (List Nat)} {bs : List Bool} (h : ND ls bs) (hf : ls.length < 64) : KD (kap ls bs) (kdD ls bs) := kdn_kd (h.kdn hf)
end PL
set_option Elab.async false
set_option linter.all false
set_option maxRecDepth 100000
set_option maxHeartbeats 4000000
set_option exponentiation.threshold 300
namespace PL
open PySem PySem.Spec PyProof.Rows L2 PD NumText
section
variable {G : Pg} {Φ : Nat → List PD.W → List M → Rs PD.W} {sl sl1 : Sl} {cs cs1 cs2 : List M} {b rest : List S} {e t : E} {P : Sl → List M → Prop}
def NxS (G : Pg) (Φ : Nat → List PD.W → List M → Rs PD.W) (b : List S) (sl : Sl) (cs : List M) (P : Sl → List M → Prop) : Prop := ∃ sl' cs', evSs G Φ b sl cs = .ok .nx sl' cs' ∧ P sl' cs'
theorem n_nil (h : P sl cs) : NxS G Φ [] sl cs P := ⟨sl, cs, rfl, h⟩
theorem n_step {s : S} (h : evS G Φ s sl cs = .ok .nx sl1 cs1) (h2 : NxS G Φ rest sl1 cs1 P) : NxS G Φ (s :: rest) sl cs P := by
  obtain ⟨sl', cs', q, p⟩ := h2
  exact ⟨sl', cs', by rw [eSs_cons, h]; exact q, p⟩
theorem n_asg {i : Nat} {x : PD.W} (sl2 : Sl) (h : evE G Φ e sl cs = .ok x cs1) (h2 : NxS G Φ rest sl2 cs1 P) (hi : i < sl.length := by simp) (hs : sl.set i (some x) = sl2 := by rfl) : NxS G Φ (.asg (.n i) e :: rest) sl cs P := by
  subst hs
  exact n_step (by rw [eS_asg, h, SR.of_ok, bT_n, if_pos hi]) h2
theorem n_ifF {b1 b2 : List S} (ht : evE G Φ t sl cs = .ok (.d (.bl false)) cs1) (h : NxS G Φ b2 sl cs1 fun sl' cs' => NxS G Φ rest sl' cs' P) : NxS G Φ (.ite t b1 b2 :: rest) sl cs P := by
  obtain ⟨sl', cs', q, p⟩ := h
  exact n_step (by rw [eS_ite, eT, ht]; exact q) p
theorem n_skip {b1 : List S} (ht : evE G Φ t sl cs = .ok (.d (.bl false)) cs1) (h : NxS G Φ rest sl cs1 P) : NxS G Φ (.ite t b1 [] :: rest) sl cs P := n_ifF ht (n_nil h)
theorem for_inv {tg : Tg} {bd : List S} (Inv : Sl → List M → Prop) : ∀ (ds : List D), (∀ d ∈ ds, ∀ sl cs, Inv sl cs → ∃ sl1, bindT tg (.d d) sl = some sl1 ∧ NxS G Φ bd sl1 cs Inv) → ∀ sl cs, Inv sl cs → ∃ sl' cs', forL (forB G Φ tg bd) ds sl cs = .ok .nx sl' cs' ∧ Inv sl' cs'
  | [], _, sl, cs, h => ⟨sl, cs, rfl, h⟩
  | d :: ds, hd, sl, cs, h => by
    obtain ⟨sl1, hb, sl2, cs2, q, p⟩ := hd d List.mem_cons_self sl cs h
    obtain ⟨sl3, cs3, q3, p3⟩ := for_inv Inv ds (fun d' hd' => hd d' (List.mem_cons_of_mem _ hd')) sl2 cs2 p
    refine ⟨sl3, cs3, ?_, p3⟩
    have e : forB G Φ tg bd d sl cs = .ok .nx sl2 cs2 := by
      unfold forB
      rw [hb]
      exact q
    rw [forL_c, e]
    exact q3
theorem q_opC {o : O} {es : List E} {ws : List PD.W} {ds : List D} {d : D} {m : M} (he : evEs G Φ es sl cs = .ok ws cs1) (hp : pks ws cs1 = some ds) (hs : sem G.isT o ds = some d) (hm : toM d = some m) : evE G Φ (.opC o es) sl cs = .ok (.c cs1.length) (cs1 ++ [m]) := by
  rw [eE_opC, he, Rs.bind_ok, hp]
  dsimp only
  rw [hs]
  dsimp only
  rw [hm]
theorem q_op2 {o : O} {a c : E} {x y : PD.W} {dx dy d : D} (ha : evE G Φ a sl cs = .ok x cs1) (hc : evE G Φ c sl cs1 = .ok y cs2) (hx : pk x cs2 = some dx) (hy : pk y cs2 = some dy) (hs : sem2 o dx dy = some d) : evE G Φ (.op o [a, c]) sl cs = .ok (.d d) cs2 := by
  rw [eE_op, eEs_cons, ha, Rs.bind_ok, eEs_cons, hc, Rs.bind_ok, eEs_nil, Rs.bind_ok, Rs.bind_ok, Rs.bind_ok]
  show (match pks [x, y] cs2 with | some ds => _ | none => _ : Rs PD.W) = _
  rw [pks_cons, hx, pks_cons, hy]
  show (match sem2 o dx dy with | some d => _ | none => _ : Rs PD.W) = _
  rw [hs]
theorem q_call {f : Nat} {es : List E} {ws : List PD.W} {w : PD.W} (he : evEs G Φ es sl cs = .ok ws cs1) (h : callW (Φ f) ws cs1 = .ok w cs2) : evE G Φ (.call f es) sl cs = .ok w cs2 := by
  rw [eE_call, he]; exact h
theorem es2 {a c : E} {x y : PD.W} (ha : evE G Φ a sl cs = .ok x cs1) (hc : evE G Φ c sl cs1 = .ok y cs2) : evEs G Φ [a, c] sl cs = .ok [x, y] cs2 := by
  rw [eEs_cons, ha, Rs.bind_ok, eEs_cons, hc]; rfl
theorem es1 {a : E} {x : PD.W} (ha : evE G Φ a sl cs = .ok x cs1) : evEs G Φ [a] sl cs = .ok [x] cs1 := by
  rw [eEs_cons, ha]; rfl
theorem es_cons {a : E} {es : List E} {x : PD.W} {ws : List PD.W} (ha : evE G Φ a sl cs = .ok x cs1) (hc : evEs G Φ es sl cs1 = .ok ws cs2) : evEs G Φ (a :: es) sl cs = .ok (x :: ws) cs2 := by
  rw [eEs_cons, ha, Rs.bind_ok, hc]; rfl
end
end PL
set_option Elab.async false
set_option linter.all false
set_option maxRecDepth 100000
set_option maxHeartbeats 4000000
namespace PL
open PySem PySem.Spec PyProof.Rows L2 PD NumText
inductive Vl | n (i : Int) | b (c : Bool)
  deriving DecidableEq
def Vl.d : Vl → D | .n i => .int i | .b c => .bl c
def op2 : Op2 → Vl → Vl → Vl
  | .plus, .n i, .n j => .n ((i + j).fmod 16)
  | .minus, .n i, .n j => .n ((i - j).fmod 16)
  | .times, .n i, .n j => .n ((i * j).fmod 16)
  | .same, .n i, .n j => .b (i == j)
  | .less, .n i, .n j => .b (decide (i < j))
  | .and_, .b p, .b q => .b (p && q)
  | .or_, .b p, .b q => .b (p || q)
  | _, _, _ => .n 0
def nt1 : Vl → Vl | .b c => .b (!c) | _ => .n 0
def pk3 : Vl → Vl → Vl → Vl | .b c, x, y => if c = true then x else y | _, _, _ => .n 0
def val (r : List Nat → Vl) : Tr → Vl
  | .num i => .n i
  | .yes => .b true
  | .no => .b false
  | .box l => r l
  | .nt a => nt1 (val r a)
  | .two o a c => op2 o (val r a) (val r c)
  | .pick a x y => pk3 (val r a) (val r x) (val r y)
def VOk : Bool → Vl → Prop
  | true, .b _ => True
  | false, .n i => 0 ≤ i ∧ i ≤ 15
  | _, _ => False
theorem vok_t {v : Vl} (h : VOk true v) : ∃ c, v = .b c := by cases v <;> first | exact ⟨_, rfl⟩ | exact h.elim
theorem vok_n {v : Vl} (h : VOk false v) : ∃ i, v = .n i ∧ 0 ≤ i ∧ i ≤ 15 := by cases v <;> first | exact ⟨_, rfl, h⟩ | exact h.elim
def Env (k : List Nat → Option Bool) (r : List Nat → Vl) : Prop := ∀ l b, k l = some b → VOk b (r l)
theorem kind_nt {k : List Nat → Option Bool} {a : Tr} {b : Bool} (h : kind k (.nt a) = some b) : b = true ∧ kind k a = some true := by
  have h : (if kind k a = some true then some true else none) = some b := h
  by_cases c : kind k a = some true
  · rw [if_pos c] at h; exact ⟨(Option.some.inj h).symm, c⟩
  · rw [if_neg c] at h; cases h
theorem kind_two {k : List Nat → Option Bool} {o : Op2} {x y : Tr} {b : Bool} (h : kind k (.two o x y) = some b) : b = o.made ∧ kind k x = some o.want ∧ kind k y = some o.want := by
  have h : (if kind k x = some o.want ∧ kind k y = some o.want then some o.made else none) = some b := h
  by_cases c : kind k x = some o.want ∧ kind k y = some o.want
  · rw [if_pos c] at h; exact ⟨(Option.some.inj h).symm, c⟩
  · rw [if_neg c] at h; cases h
theorem kind_pick {k : List Nat → Option Bool} {a x y : Tr} {b : Bool} (h : kind k (.pick a x y) = some b) : kind k a = some true ∧ kind k x = some b ∧ kind k y = some b := by
  have h : (if kind k a = some true ∧ kind k y = kind k x then kind k x else none) = some b := h
  by_cases c : kind k a = some true ∧ kind k y = kind k x
  · rw [if_pos c] at h; exact ⟨c.1, h, c.2.trans h⟩
  · rw [if_neg c] at h; cases h
theorem op2_ok {o : Op2} {x y : Vl} (hx : VOk o.want x) (hy : VOk o.want y) : VOk o.made (op2 o x y) := by
  have f : ∀ z : Int, 0 ≤ z.fmod 16 ∧ z.fmod 16 ≤ 15 := fun z => by
    have h1 := Int.fmod_nonneg_of_pos z (show (0 : Int) < 16 by decide)
    have h2 := Int.fmod_lt_of_pos z (show (0 : Int) < 16 by decide)
    omega
  cases o
  case and_ => obtain ⟨p, rfl⟩ := vok_t hx; obtain ⟨q, rfl⟩ := vok_t hy; trivial
  case or_ => obtain ⟨p, rfl⟩ := vok_t hx; obtain ⟨q, rfl⟩ := vok_t hy; trivial
  case same => obtain ⟨p, rfl, _⟩ := vok_n hx; obtain ⟨q, rfl, _⟩ := vok_n hy; trivial
  case less => obtain ⟨p, rfl, _⟩ := vok_n hx; obtain ⟨q, rfl, _⟩ := vok_n hy; trivial
  case plus => obtain ⟨p, rfl, _⟩ := vok_n hx; obtain ⟨q, rfl, _⟩ := vok_n hy; exact f _
  case minus => obtain ⟨p, rfl, _⟩ := vok_n hx; obtain ⟨q, rfl, _⟩ := vok_n hy; exact f _
  case times => obtain ⟨p, rfl, _⟩ := vok_n hx; obtain ⟨q, rfl, _⟩ := vok_n hy; exact f _
theorem val_ok {k : List Nat → Option Bool} {r : List Nat → Vl} (he : Env k r) : ∀ (t : Tr) (b : Bool), t.ok → kind k t = some b → VOk b (val r t)
  | .num i, b, ho, h => by cases (Option.some.inj (show some false = some b from h)); exact ho
  | .yes, b, _, h => by cases (Option.some.inj (show some true = some b from h)); trivial
  | .no, b, _, h => by cases (Option.some.inj (show some true = some b from h)); trivial
  | .box l, b, _, h => he l b h
  | .nt a, b, ho, h => by
    obtain ⟨rfl, ha⟩ := kind_nt h
    obtain ⟨c, e⟩ := vok_t (val_ok he a true ho ha)
    show VOk true (nt1 (val r a))
    rw [e]; trivial
  | .two o x y, b, ho, h => by
    obtain ⟨rfl, hx, hy⟩ := kind_two h
    exact op2_ok (val_ok he x _ ho.1 hx) (val_ok he y _ ho.2 hy)
  | .pick a x y, b, ho, h => by
    obtain ⟨ha, hx, hy⟩ := kind_pick h
    obtain ⟨c, e⟩ := vok_t (val_ok he a true ho.1 ha)
    show VOk b (pk3 (val r a) (val r x) (val r y))
    rw [e]
    cases c
    · exact val_ok he y b ho.2.2 hy
    · exact val_ok he x b ho.2.1 hx
def atom : Tr → Bool | .num _ => true | .yes => true | .no => true | _ => false
def asT : Vl → Tr | .n i => .num i | .b true => .yes | .b false => .no
def jn (o : Op2) (e k x y : Tr) : Tr := if x = e ∨ y = e then e else if x = k then y else if y = k then x else .two o x y
def r0 : List Nat → Vl := fun _ => .n 0
def ntn : Tr → Tr | .nt y => y | x => .nt x
def part : Tr → Tr
  | .nt x => if atom x = true then asT (val r0 (.nt x)) else ntn x
  | .two o x y => if atom x = true ∧ atom y = true then asT (val r0 (.two o x y)) else match o with
    | .and_ => jn .and_ .no .yes x y
    | .or_ => jn .or_ .yes .no x y
    | o => .two o x y
  | .pick a x y => if atom a = true ∧ atom x = true ∧ atom y = true then asT (val r0 (.pick a x y)) else if a = .yes ∨ x = y then x else if a = .no then y else .pick a x y
  | t => t
def fold : Tr → Tr
  | .nt x => part (.nt (fold x))
  | .two o x y => part (.two o (fold x) (fold y))
  | .pick a x y => part (.pick (fold a) (fold x) (fold y))
  | t => t
theorem val_asT (r : List Nat → Vl) (v : Vl) : val r (asT v) = v := by
  cases v with
  | n i => rfl
  | b c => cases c <;> rfl
theorem kind_asT (k : List Nat → Option Bool) {b : Bool} {v : Vl} (h : VOk b v) : kind k (asT v) = some b ∧ (asT v).ok ∧ atom (asT v) = true ∧ (asT v).dp = 1 ∧ (asT v).sz = 1 := by
  cases b with
  | true => obtain ⟨c, rfl⟩ := vok_t h; cases c <;> exact ⟨rfl, trivial, rfl, rfl, rfl⟩
  | false => obtain ⟨i, rfl, h1⟩ := vok_n h; exact ⟨rfl, h1, rfl, rfl, rfl⟩
theorem val_atom (r r' : List Nat → Vl) {t : Tr} (h : atom t = true) : val r t = val r' t := by
  cases t <;> first | rfl | cases h
theorem env0 (k : List Nat → Option Bool) (h : ∀ l, k l = none) : Env k r0 := fun l b e => by rw [h] at e; cases e
theorem kind_atom (k k' : List Nat → Option Bool) {t : Tr} (h : atom t = true) : kind k t = kind k' t := by
  cases t <;> first | rfl | cases h
structure Keeps (k : List Nat → Option Bool) (b : Bool) (t u : Tr) : Prop where
  ok : u.ok
  kd : kind k u = some b
  dp : u.dp ≤ t.dp
  sz : u.sz ≤ t.sz
  vl : ∀ r, Env k r → val r u = val r t
theorem Keeps.refl {k : List Nat → Option Bool} {b : Bool} {t : Tr} (h : t.ok) (hk : kind k t = some b) : Keeps k b t t := ⟨h, hk, Nat.le_refl _, Nat.le_refl _, fun _ _ => rfl⟩
theorem k0_nt {k : List Nat → Option Bool} {x : Tr} {b : Bool} (ha : atom x = true) (h : kind k (.nt x) = some b) : kind (fun _ => none) (.nt x) = some b := by
  rw [← h]; show (if kind _ x = some true then _ else _) = (if kind k x = some true then _ else _); rw [kind_atom (fun _ => none) k ha]
theorem keeps_as {k : List Nat → Option Bool} {b : Bool} {t : Tr} (ho : t.ok) (hd : 1 ≤ t.dp) (hz : 1 ≤ t.sz) (hk0 : kind (fun _ => none) t = some b) (hv : ∀ r, val r t = val r0 t) : Keeps k b t (asT (val r0 t)) := by
  have v := val_ok (env0 (fun _ => none) fun _ => rfl) t b ho hk0
  obtain ⟨h1, h2, _, h4, h5⟩ := kind_asT k v
  exact ⟨h2, h1, by omega, by omega, fun r _ => by rw [val_asT, hv r]⟩
theorem part_nt {k : List Nat → Option Bool} {b : Bool} {x : Tr} (ho : x.ok) (h : kind k (.nt x) = some b) : Keeps k b (.nt x) (part (.nt x)) := by
  show Keeps k b (.nt x) (if atom x = true then asT (val r0 (.nt x)) else ntn x)
  by_cases c : atom x = true
  · rw [if_pos c]
    exact keeps_as ho (dp_pos _) (sz_pos _) (k0_nt c h) fun r => by show nt1 _ = nt1 _; rw [val_atom r r0 c]
  · rw [if_neg c]
    cases x with
    | nt y =>
      obtain ⟨rfl, h1⟩ := kind_nt h
      obtain ⟨_, h2⟩ := kind_nt h1
      refine ⟨ho, h2, ?_, ?_, fun r he => ?_⟩
      · show y.dp ≤ y.dp + 1 + 1; omega
      · show y.sz ≤ 1 + (1 + y.sz); omega
      · obtain ⟨c, e⟩ := vok_t (val_ok he y true ho h2)
        show val r y = nt1 (nt1 (val r y))
        rw [e]; cases c <;> rfl
    | _ => exact Keeps.refl ho h
theorem jn_keeps {k : List Nat → Option Bool} (o : Op2) (e kp x y : Tr) (ho : (Tr.two o x y).ok) (h : kind k (.two o x y) = some true) (hw : o.want = true) (e1 : e.ok ∧ kind k e = some true ∧ e.dp = 1 ∧ e.sz = 1)
    (q1 : ∀ r (c : Bool), op2 o (val r e) (.b c) = val r e ∧ op2 o (.b c) (val r e) = val r e) (q2 : ∀ r (c : Bool), op2 o (val r kp) (.b c) = .b c ∧ op2 o (.b c) (val r kp) = .b c) : Keeps k true (.two o x y) (jn o e kp x y) := by
  obtain ⟨hm, hx, hy⟩ := kind_two h
  rw [hw] at hx hy
  have d1 : x.dp ≤ (Tr.two o x y).dp := by show x.dp ≤ max x.dp y.dp + 1; omega
  have d2 : y.dp ≤ (Tr.two o x y).dp := by show y.dp ≤ max x.dp y.dp + 1; omega
  have z1 : x.sz ≤ (Tr.two o x y).sz := by show x.sz ≤ 1 + (x.sz + y.sz); omega
  have z2 : y.sz ≤ (Tr.two o x y).sz := by show y.sz ≤ 1 + (x.sz + y.sz); omega
  unfold jn
  by_cases c1 : x = e ∨ y = e
  · rw [if_pos c1]
    refine ⟨e1.1, e1.2.1, by rw [e1.2.2.1]; exact dp_pos _, by rw [e1.2.2.2]; exact sz_pos _, fun r he => ?_⟩
    obtain ⟨cx, ex⟩ := vok_t (val_ok he x true ho.1 hx)
    obtain ⟨cy, ey⟩ := vok_t (val_ok he y true ho.2 hy)
    show val r e = op2 o (val r x) (val r y)
    rcases c1 with c1 | c1
    · rw [ey, c1]; exact (q1 r cy).1.symm
    · rw [ex, c1]; exact (q1 r cx).2.symm
  rw [if_neg c1]
  by_cases c2 : x = kp
  · rw [if_pos c2]
    refine ⟨ho.2, hy, d2, z2, fun r he => ?_⟩
    obtain ⟨cy, ey⟩ := vok_t (val_ok he y true ho.2 hy)
    show val r y = op2 o (val r x) (val r y)
    rw [ey, c2]; exact (q2 r cy).1.symm
  rw [if_neg c2]
  by_cases c3 : y = kp
  · rw [if_pos c3]
    refine ⟨ho.1, hx, d1, z1, fun r he => ?_⟩
    obtain ⟨cx, ex⟩ := vok_t (val_ok he x true ho.1 hx)
    show val r x = op2 o (val r x) (val r y)
    rw [ex, c3]; exact (q2 r cx).2.symm
  rw [if_neg c3]
  exact Keeps.refl ho h
theorem part_two {k : List Nat → Option Bool} {b : Bool} (o : Op2) {x y : Tr} (ho : (Tr.two o x y).ok) (h : kind k (.two o x y) = some b) : Keeps k b (.two o x y) (part (.two o x y)) := by
  by_cases c : atom x = true ∧ atom y = true
  · rw [show part (.two o x y) = asT (val r0 (.two o x y)) from if_pos c]
    refine keeps_as ho (dp_pos _) (sz_pos _) ?_ fun r => by show op2 o _ _ = op2 o _ _; rw [val_atom r r0 c.1, val_atom r r0 c.2]
    rw [← h]
    show (if kind _ x = some o.want ∧ kind _ y = some o.want then _ else _) = (if kind k x = some o.want ∧ kind k y = some o.want then _ else _)
    rw [kind_atom (fun _ => none) k c.1, kind_atom (fun _ => none) k c.2]
  · obtain ⟨hb, _⟩ := kind_two h
    cases o with
    | and_ =>
      cases hb
      rw [show part (.two .and_ x y) = jn .and_ .no .yes x y from if_neg c]
      exact jn_keeps .and_ .no .yes x y ho h rfl ⟨trivial, rfl, rfl, rfl⟩ (fun r c => ⟨rfl, by show Vl.b (c && false) = .b false; rw [Bool.and_false]⟩) (fun r c => ⟨rfl, by show Vl.b (c && true) = .b c; rw [Bool.and_true]⟩)
    | or_ =>
      cases hb
      rw [show part (.two .or_ x y) = jn .or_ .yes .no x y from if_neg c]
      exact jn_keeps .or_ .yes .no x y ho h rfl ⟨trivial, rfl, rfl, rfl⟩ (fun r c => ⟨rfl, by show Vl.b (c || true) = .b true; rw [Bool.or_true]⟩) (fun r c => ⟨rfl, by show Vl.b (c || false) = .b c; rw [Bool.or_false]⟩)
    | plus => rw [show part (.two .plus x y) = .two .plus x y from if_neg c]; exact Keeps.refl ho h
    | minus => rw [show part (.two .minus x y) = .two .minus x y from if_neg c]; exact Keeps.refl ho h
    | times => rw [show part (.two .times x y) = .two .times x y from if_neg c]; exact Keeps.refl ho h
    | same => rw [show part (.two .same x y) = .two .same x y from if_neg c]; exact Keeps.refl ho h
    | less => rw [show part (.two .less x y) = .two .less x y from if_neg c]; exact Keeps.refl ho h
theorem part_pick {k : List Nat → Option Bool} {b : Bool} {a x y : Tr} (ho : (Tr.pick a x y).ok) (h : kind k (.pick a x y) = some b) : Keeps k b (.pick a x y) (part (.pick a x y)) := by
  show Keeps k b (.pick a x y) (if atom a = true ∧ atom x = true ∧ atom y = true then asT (val r0 (.pick a x y)) else if a = .yes ∨ x = y then x else if a = .no then y else .pick a x y)
  obtain ⟨ha, hx, hy⟩ := kind_pick h
  have d1 : x.dp ≤ (Tr.pick a x y).dp := by show x.dp ≤ max a.dp (max x.dp y.dp) + 1; omega
  have d2 : y.dp ≤ (Tr.pick a x y).dp := by show y.dp ≤ max a.dp (max x.dp y.dp) + 1; omega
  have z1 : x.sz ≤ (Tr.pick a x y).sz := by show x.sz ≤ 1 + (a.sz + (x.sz + y.sz)); omega
  have z2 : y.sz ≤ (Tr.pick a x y).sz := by show y.sz ≤ 1 + (a.sz + (x.sz + y.sz)); omega
  by_cases c : atom a = true ∧ atom x = true ∧ atom y = true
  · rw [if_pos c]
    refine keeps_as ho (dp_pos _) (sz_pos _) ?_ fun r => by show pk3 _ _ _ = pk3 _ _ _; rw [val_atom r r0 c.1, val_atom r r0 c.2.1, val_atom r r0 c.2.2]
    rw [← h]
    show (if kind _ a = some true ∧ kind _ y = kind _ x then kind _ x else _) = (if kind k a = some true ∧ kind k y = kind k x then kind k x else _)
    rw [kind_atom (fun _ => none) k c.1, kind_atom (fun _ => none) k c.2.1, kind_atom (fun _ => none) k c.2.2]
  rw [if_neg c]
  by_cases c1 : a = .yes ∨ x = y
  · rw [if_pos c1]
    refine ⟨ho.2.1, hx, d1, z1, fun r he => ?_⟩
    obtain ⟨ca, ea⟩ := vok_t (val_ok he a true ho.1 ha)
    show val r x = pk3 (val r a) (val r x) (val r y)
    rcases c1 with c1 | c1
    · rw [c1]; rfl
    · rw [ea, ← c1]; cases ca <;> rfl
  rw [if_neg c1]
  by_cases c2 : a = .no
  · rw [if_pos c2]
    exact ⟨ho.2.2, hy, d2, z2, fun r he => by show val r y = pk3 (val r a) (val r x) (val r y); rw [c2]; rfl⟩
  rw [if_neg c2]
  exact Keeps.refl ho h
theorem Keeps.trans {k : List Nat → Option Bool} {b : Bool} {t u v : Tr} (h : Keeps k b u v) (hd : u.dp ≤ t.dp) (hz : u.sz ≤ t.sz) (hv : ∀ r, Env k r → val r u = val r t) : Keeps k b t v := ⟨h.ok, h.kd, Nat.le_trans h.dp hd, Nat.le_trans h.sz hz, fun r he => (h.vl r he).trans (hv r he)⟩
theorem fold_keeps {k : List Nat → Option Bool} : ∀ (t : Tr) (b : Bool), t.ok → kind k t = some b → Keeps k b t (fold t)
  | .num i, b, ho, h => Keeps.refl ho h
  | .yes, b, ho, h => Keeps.refl ho h
  | .no, b, ho, h => Keeps.refl ho h
  | .box l, b, ho, h => Keeps.refl ho h
  | .nt x, b, ho, h => by
    obtain ⟨rfl, hx⟩ := kind_nt h
    have f := fold_keeps x true ho hx
    have h' : kind k (.nt (fold x)) = some true := if_pos f.kd
    refine (part_nt f.ok h').trans ?_ ?_ fun r he => ?_
    · show (fold x).dp + 1 ≤ x.dp + 1; have := f.dp; omega
    · show 1 + (fold x).sz ≤ 1 + x.sz; have := f.sz; omega
    · show nt1 _ = nt1 _; rw [f.vl r he]
  | .two o x y, b, ho, h => by
    obtain ⟨rfl, hx, hy⟩ := kind_two h
    have f := fold_keeps x _ ho.1 hx
    have g := fold_keeps y _ ho.2 hy
    have h' : kind k (.two o (fold x) (fold y)) = some o.made := if_pos ⟨f.kd, g.kd⟩
    refine (part_two o ⟨f.ok, g.ok⟩ h').trans ?_ ?_ fun r he => ?_
    · show max (fold x).dp (fold y).dp + 1 ≤ max x.dp y.dp + 1; have := f.dp; have := g.dp; omega
    · show 1 + ((fold x).sz + (fold y).sz) ≤ 1 + (x.sz + y.sz); have := f.sz; have := g.sz; omega
    · show op2 o _ _ = op2 o _ _; rw [f.vl r he, g.vl r he]
  | .pick a x y, b, ho, h => by
    obtain ⟨ha, hx, hy⟩ := kind_pick h
    have f := fold_keeps a _ ho.1 ha
    have g := fold_keeps x _ ho.2.1 hx
    have j := fold_keeps y _ ho.2.2 hy
    have h' : kind k (.pick (fold a) (fold x) (fold y)) = some b := by
      show (if kind k (fold a) = some true ∧ kind k (fold y) = kind k (fold x) then kind k (fold x) else none) = _
      rw [if_pos ⟨f.kd, by rw [j.kd, g.kd]⟩, g.kd]
    refine (part_pick ⟨f.ok, g.ok, j.ok⟩ h').trans ?_ ?_ fun r he => ?_
    · show max (fold a).dp (max (fold x).dp (fold y).dp) + 1 ≤ max a.dp (max x.dp y.dp) + 1; have := f.dp; have := g.dp; have := j.dp; omega
    · show 1 + ((fold a).sz + ((fold x).sz + (fold y).sz)) ≤ 1 + (a.sz + (x.sz + y.sz)); have := f.sz; have := g.sz; have := j.sz; omega
    · show pk3 _ _ _ = pk3 _ _ _; rw [f.vl r he, g.vl r he, j.vl r he]
inductive NF : Tr → Prop
  | num (i : Int) : NF (.num i)
  | yes : NF .yes
  | no : NF .no
  | box (l : List Nat) : NF (.box l)
  | nt {x : Tr} : NF x → part (.nt x) = .nt x → NF (.nt x)
  | two {o : Op2} {x y : Tr} : NF x → NF y → part (.two o x y) = .two o x y → NF (.two o x y)
  | pick {a x y : Tr} : NF a → NF x → NF y → part (.pick a x y) = .pick a x y → NF (.pick a x y)
theorem NF.fold {t : Tr} (h : NF t) : fold t = t := by
  induction h with
  | nt _ e ih => show part (.nt (PL.fold _)) = _; rw [ih, e]
  | two _ _ e i1 i2 => show part (.two _ (PL.fold _) (PL.fold _)) = _; rw [i1, i2, e]
  | pick _ _ _ e i1 i2 i3 => show part (.pick (PL.fold _) (PL.fold _) (PL.fold _)) = _; rw [i1, i2, i3, e]
  | _ => rfl
theorem nf_asT (v : Vl) : NF (asT v) := by
  cases v with
  | n i => exact .num i
  | b c => cases c <;> constructor
theorem nf_nt {x : Tr} (h : NF x) : NF (part (.nt x)) := by
  by_cases c : atom x = true
  · rw [show part (.nt x) = asT (val r0 (.nt x)) from if_pos c]; exact nf_asT _
  · have e : part (.nt x) = ntn x := if_neg c
    cases h with
    | nt h1 _ => rw [e]; exact h1
    | num i => exact absurd rfl c
    | yes => exact absurd rfl c
    | no => exact absurd rfl c
    | box l => rw [e]; exact .nt (.box l) e
    | two h1 h2 q => rw [e]; exact .nt (.two h1 h2 q) e
    | pick h1 h2 h3 q => rw [e]; exact .nt (.pick h1 h2 h3 q) e
theorem nf_two (o : Op2) {x y : Tr} (hx : NF x) (hy : NF y) : NF (part (.two o x y)) := by
  by_cases c : atom x = true ∧ atom y = true
  · rw [show part (.two o x y) = asT (val r0 (.two o x y)) from if_pos c]; exact nf_asT _
  · have j : ∀ (o : Op2) (e k : Tr), part (.two o x y) = jn o e k x y → NF e → NF (part (.two o x y)) := fun o e k q he => by
      by_cases c1 : x = e ∨ y = e
      · rw [q, jn, if_pos c1]; exact he
      by_cases c2 : x = k
      · rw [q, jn, if_neg c1, if_pos c2]; exact hy
      by_cases c3 : y = k
      · rw [q, jn, if_neg c1, if_neg c2, if_pos c3]; exact hx
      have q2 : part (.two o x y) = .two o x y := by rw [q, jn, if_neg c1, if_neg c2, if_neg c3]
      rw [q2]
      exact .two hx hy q2
    cases o with
    | and_ => exact j .and_ .no .yes (if_neg c) .no
    | or_ => exact j .or_ .yes .no (if_neg c) .yes
    | plus => have e : part (.two .plus x y) = .two .plus x y := if_neg c; rw [e]; exact .two hx hy e
    | minus => have e : part (.two .minus x y) = .two .minus x y := if_neg c; rw [e]; exact .two hx hy e
    | times => have e : part (.two .times x y) = .two .times x y := if_neg c; rw [e]; exact .two hx hy e
    | same => have e : part (.two .same x y) = .two .same x y := if_neg c; rw [e]; exact .two hx hy e
    | less => have e : part (.two .less x y) = .two .less x y := if_neg c; rw [e]; exact .two hx hy e
theorem nf_pick {a x y : Tr} (ha : NF a) (hx : NF x) (hy : NF y) : NF (part (.pick a x y)) := by
  by_cases c : atom a = true ∧ atom x = true ∧ atom y = true
  · rw [show part (.pick a x y) = asT (val r0 (.pick a x y)) from if_pos c]; exact nf_asT _
  have e : part (.pick a x y) = if a = .yes ∨ x = y then x else if a = .no then y else .pick a x y := if_neg c
  by_cases c1 : a = .yes ∨ x = y
  · rw [e, if_pos c1]; exact hx
  by_cases c2 : a = .no
  · rw [e, if_neg c1, if_pos c2]; exact hy
  have e2 : part (.pick a x y) = .pick a x y := by rw [e, if_neg c1, if_neg c2]
  rw [e2]
  exact .pick ha hx hy e2
theorem nf_fold : ∀ t : Tr, NF (fold t)
  | .num i => .num i
  | .yes => .yes
  | .no => .no
  | .box l => .box l
  | .nt x => nf_nt (nf_fold x)
  | .two o x y => nf_two o (nf_fold x) (nf_fold y)
  | .pick a x y => nf_pick (nf_fold a) (nf_fold x) (nf_fold y)
theorem fold_fold (t : Tr) : fold (fold t) = fold t := (nf_fold t).fold
end PL
set_option Elab.async false
set_option linter.all false
set_option maxRecDepth 100000
set_option maxHeartbeats 4000000
namespace PL
open PySem PySem.Spec PyProof.Rows L2 PD NumText
def con : Tr → Nat
  | .num _ => 0 | .yes => 1 | .no => 2 | .box _ => 3 | .nt _ => 4 | .pick _ _ _ => 5
  | .two .plus _ _ => 6 | .two .minus _ _ => 7 | .two .times _ _ => 8 | .two .same _ _ => 9 | .two .less _ _ => 10 | .two .and_ _ _ => 11 | .two .or_ _ _ => 12
def wd : Tr → Str
  | .num _ => "num" | .yes => "yes" | .no => "no" | .box _ => "box" | .nt _ => "not" | .pick _ _ _ => "pick" | .two o _ _ => o.w
def rs : Tr → List D
  | .num i => [.int i] | .yes => [] | .no => [] | .box l => [.str (mk l)] | .nt a => [enc a] | .pick a b c => [enc a, enc b, enc c] | .two _ a b => [enc a, enc b]
theorem enc_form (t : Tr) : enc t = .tup (.str (wd t) :: rs t) := by cases t <;> rfl
def dec (s : Str) : Nat := if s = "num" then 0 else if s = "yes" then 1 else if s = "no" then 2 else if s = "box" then 3 else if s = "not" then 4 else if s = "pick" then 5 else if s = "plus" then 6 else if s = "minus" then 7 else if s = "times" then 8 else if s = "same" then 9 else if s = "less" then 10 else if s = "and" then 11 else 12
theorem dec_wd (t : Tr) : dec (wd t) = con t := by
  have h : dec "num" = 0 ∧ dec "yes" = 1 ∧ dec "no" = 2 ∧ dec "box" = 3 ∧ dec "not" = 4 ∧ dec "pick" = 5 ∧ dec "plus" = 6 ∧ dec "minus" = 7 ∧ dec "times" = 8 ∧ dec "same" = 9 ∧ dec "less" = 10 ∧ dec "and" = 11 ∧ dec "or" = 12 := by decide +kernel
  obtain ⟨h0, h1, h2, h3, h4, h5, h6, h7, h8, h9, h10, h11, h12⟩ := h
  cases t with
  | num _ => exact h0
  | yes => exact h1
  | no => exact h2
  | box _ => exact h3
  | nt _ => exact h4
  | pick _ _ _ => exact h5
  | two o _ _ =>
    cases o
    · exact h6
    · exact h7
    · exact h8
    · exact h9
    · exact h10
    · exact h11
    · exact h12
theorem eqT (w v : Str) (r s : List D) : eqD (.tup (.str w :: r)) (.tup (.str v :: s)) = ((w == v) && PyData.eqvAll (pys r) (pys s)) := rfl
def un : Nat → Str
  | 0 => "num" | 1 => "yes" | 2 => "no" | 3 => "box" | 4 => "not" | 5 => "pick" | 6 => "plus" | 7 => "minus" | 8 => "times" | 9 => "same" | 10 => "less" | 11 => "and" | _ => "or"
theorem un_con (t : Tr) : un (con t) = wd t := by
  cases t with
  | two o _ _ => cases o <;> rfl
  | _ => rfl
theorem wd_con {a b : Tr} (h : con a = con b) : wd a = wd b := by rw [← un_con, ← un_con, h]
theorem str_beq (w : Str) : (w == w) = true := by simp
theorem eqD_enc : ∀ a b : Tr, eqD (enc a) (enc b) = decide (a = b) := by
  have base : ∀ a b : Tr, con a ≠ con b → eqD (enc a) (enc b) = decide (a = b) := fun a b h => by
    have hw : (wd a == wd b) = false := by
      rw [beq_eq_false_iff_ne]
      intro e
      exact h (by rw [← dec_wd, ← dec_wd, e])
    rw [enc_form a, enc_form b, eqT, hw, decide_eq_false fun e => h (by rw [e])]
    rfl
  have same : ∀ a b : Tr, con a = con b → eqD (enc a) (enc b) = PyData.eqvAll (pys (rs a)) (pys (rs b)) := fun a b h => by
    rw [enc_form a, enc_form b, eqT, wd_con h, str_beq]
    rfl
  intro a
  induction a with
  | num i =>
    intro b
    by_cases h : con (.num i) = con b
    · cases b with
      | num j =>
        rw [same _ _ h]
        show ((i == j) && true) = _
        rw [Bool.and_true, Bool.eq_iff_iff]
        simp
      | two o _ _ => cases o <;> cases h
      | _ => cases h
    · exact base _ _ h
  | yes =>
    intro b
    by_cases h : con .yes = con b
    · cases b with
      | yes => rw [same _ _ h, decide_eq_true rfl]; rfl
      | two o _ _ => cases o <;> cases h
      | _ => cases h
    · exact base _ _ h
  | no =>
    intro b
    by_cases h : con .no = con b
    · cases b with
      | no => rw [same _ _ h, decide_eq_true rfl]; rfl
      | two o _ _ => cases o <;> cases h
      | _ => cases h
    · exact base _ _ h
  | box l =>
    intro b
    by_cases h : con (.box l) = con b
    · cases b with
      | box m =>
        rw [same _ _ h]
        show (((mk l : Str) == mk m) && true) = _
        rw [Bool.and_true, Bool.eq_iff_iff]
        simp only [beq_iff_eq, decide_eq_true_eq, Tr.box.injEq]
        exact ⟨mk_inj, fun e => by rw [e]⟩
      | two o _ _ => cases o <;> cases h
      | _ => cases h
    · exact base _ _ h
  | nt x ih =>
    intro b
    by_cases h : con (.nt x) = con b
    · cases b with
      | nt y =>
        rw [same _ _ h]
        show (eqD (enc x) (enc y) && true) = _
        rw [Bool.and_true, ih, Bool.eq_iff_iff]
        simp
      | two o _ _ => cases o <;> cases h
      | _ => cases h
    · exact base _ _ h
  | two o x y ix iy =>
    intro b
    by_cases h : con (.two o x y) = con b
    · cases b with
      | two o2 x2 y2 =>
        have ho : o = o2 := by cases o <;> cases o2 <;> first | rfl | cases h
        subst ho
        rw [same _ _ h]
        show (eqD (enc x) (enc x2) && (eqD (enc y) (enc y2) && true)) = _
        rw [Bool.and_true, ix, iy, Bool.eq_iff_iff]
        simp
      | _ => cases o <;> cases h
    · exact base _ _ h
  | pick a x y ia ix iy =>
    intro b
    by_cases h : con (.pick a x y) = con b
    · cases b with
      | pick a2 x2 y2 =>
        rw [same _ _ h]
        show (eqD (enc a) (enc a2) && (eqD (enc x) (enc x2) && (eqD (enc y) (enc y2) && true))) = _
        rw [Bool.and_true, ia, ix, iy, Bool.eq_iff_iff]
        simp
      | two o _ _ => cases o <;> cases h
      | _ => cases h
    · exact base _ _ h
theorem enc_plain {t : Tr} (h : t.dp ≤ 60) : plainD (enc t) = true := by
  have p := enc_pl t
  show ((py (enc t)).plain && decide ((py (enc t)).depth ≤ 60)) = true
  rw [p.1, decide_eq_true (Nat.le_trans p.2 h)]
  rfl
theorem vl_plain (v : Vl) : plainD v.d = true := by cases v <;> rfl
theorem vl_eq {b : Bool} {u v : Vl} (hu : VOk b u) (hv : VOk b v) : eqD u.d v.d = decide (u = v) := by
  cases b with
  | true =>
    obtain ⟨p, rfl⟩ := vok_t hu
    obtain ⟨q, rfl⟩ := vok_t hv
    cases p <;> cases q <;> rfl
  | false =>
    obtain ⟨p, rfl, _⟩ := vok_n hu
    obtain ⟨q, rfl, _⟩ := vok_n hv
    show (p == q) = _
    rw [Bool.eq_iff_iff]
    simp
end PL
set_option Elab.async false
set_option linter.all false
set_option maxRecDepth 100000
set_option maxHeartbeats 4000000
set_option exponentiation.threshold 300
namespace PL
open PySem PySem.Spec PyProof.Rows L2 PD NumText
def recF (I : Ix) : Op2 → Nat
  | .plus => I.f_Plus_reckoned | .minus => I.f_Minus_reckoned | .times => I.f_Times_reckoned | .same => I.f_Same_reckoned | .less => I.f_Less_reckoned | .and_ => I.f_And_reckoned | .or_ => I.f_Or_reckoned
structure HVd (G : Pg) (I : Ix) : Prop where
  bd : HBd G I
  fNum : G.fns[I.f_Num_value]? = some (2, 2, b_Num_value)
  fYes : G.fns[I.f_Yes_value]? = some (2, 2, b_Yes_value)
  fNo : G.fns[I.f_No_value]? = some (2, 2, b_No_value)
  fBox : G.fns[I.f_Box_value]? = some (2, 2, b_Box_value)
  fNot : G.fns[I.f_Not_value]? = some (2, 2, b_Not_value)
  fPick : G.fns[I.f_Pick_value]? = some (2, 2, b_Pick_value)
  fTwo : G.fns[I.f_Two_value]? = some (2, 2, b_Two_value)
  rPlus : G.fns[I.f_Plus_reckoned]? = some (3, 3, b_Plus_reckoned)
  rMinus : G.fns[I.f_Minus_reckoned]? = some (3, 3, b_Minus_reckoned)
  rTimes : G.fns[I.f_Times_reckoned]? = some (3, 3, b_Times_reckoned)
  rSame : G.fns[I.f_Same_reckoned]? = some (3, 3, b_Same_reckoned)
  rLess : G.fns[I.f_Less_reckoned]? = some (3, 3, b_Less_reckoned)
  rAnd : G.fns[I.f_And_reckoned]? = some (3, 3, b_And_reckoned)
  rOr : G.fns[I.f_Or_reckoned]? = some (3, 3, b_Or_reckoned)
  mNum : G.meth I.c_Num "value" = some I.f_Num_value
  mYes : G.meth I.c_Yes "value" = some I.f_Yes_value
  mNo : G.meth I.c_No "value" = some I.f_No_value
  mBox : G.meth I.c_Box "value" = some I.f_Box_value
  mNot : G.meth I.c_Not "value" = some I.f_Not_value
  mPick : G.meth I.c_Pick "value" = some I.f_Pick_value
  mTwo : ∀ o, G.meth (cOp I o) "value" = some I.f_Two_value
  mRec : ∀ o, G.meth (cOp I o) "reckoned" = some (recF I o)
def valF (I : Ix) : Tr → Nat
  | .num _ => I.f_Num_value | .yes => I.f_Yes_value | .no => I.f_No_value | .box _ => I.f_Box_value | .nt _ => I.f_Not_value | .two _ _ _ => I.f_Two_value | .pick _ _ _ => I.f_Pick_value
def VD (k : List Nat → Option Bool) (r : List Nat → Vl) (dd : D) : Prop := ∃ ks vs, dd = .dct ks vs ∧ ∀ l b, k l = some b → dget ks vs (.inr (mk l)) = some (r l).d
section
variable {G : Pg} {I : Ix}
theorem val_meth (h : HVd G I) (t : Tr) : G.meth (clsT I t) "value" = some (valF I t) := by
  cases t with
  | num i => exact h.mNum
  | yes => exact h.mYes
  | no => exact h.mNo
  | box l => exact h.mBox
  | nt a => exact h.mNot
  | two o a b => exact h.mTwo o
  | pick a b c => exact h.mPick
theorem val_free (t : Tr) : (fieldsT t).contains "value" = false := by
  cases t with
  | num _ => show (["number"] : List Str).contains "value" = false; decide +kernel
  | yes => rfl
  | no => rfl
  | box _ => show (["name"] : List Str).contains "value" = false; decide +kernel
  | nt _ => show (["one"] : List Str).contains "value" = false; decide +kernel
  | two _ _ _ => show (["one", "other"] : List Str).contains "value" = false; decide +kernel
  | pick _ _ _ => show (["asked", "one", "other"] : List Str).contains "value" = false; decide +kernel
theorem rec_ok (h : HVd G I) (n : Nat) (o : Op2) (x y : D) (u v : Vl) (d : D) (hu : VOk o.want u) (hv : VOk o.want v) : PD.call G (n + 1) (recF I o) [.d d, .d u.d, .d v.d] [] = .ok (.d (op2 o u v).d) [] := by
  cases o with
  | and_ =>
    obtain ⟨p, rfl⟩ := vok_t hu
    obtain ⟨q, rfl⟩ := vok_t hv
    rw [show recF I .and_ = I.f_And_reckoned from rfl, call_at h.rAnd]
    cases p <;> cases q <;> rfl
  | or_ =>
    obtain ⟨p, rfl⟩ := vok_t hu
    obtain ⟨q, rfl⟩ := vok_t hv
    rw [show recF I .or_ = I.f_Or_reckoned from rfl, call_at h.rOr]
    cases p <;> cases q <;> rfl
  | same =>
    obtain ⟨p, rfl, _⟩ := vok_n hu
    obtain ⟨q, rfl, _⟩ := vok_n hv
    rw [show recF I .same = I.f_Same_reckoned from rfl, call_at h.rSame]
    exact t_run [some (.d d), some (.d (.int p)), some (.d (.int q))] (t_ret (q_eqE (a := .int p) (b := .int q) rfl rfl rfl rfl))
  | less =>
    obtain ⟨p, rfl, _⟩ := vok_n hu
    obtain ⟨q, rfl, _⟩ := vok_n hv
    rw [show recF I .less = I.f_Less_reckoned from rfl, call_at h.rLess]
    rfl
  | plus =>
    obtain ⟨p, rfl, p1, p2⟩ := vok_n hu
    obtain ⟨q, rfl, q1, q2⟩ := vok_n hv
    rw [show recF I .plus = I.f_Plus_reckoned from rfl, call_at h.rPlus]
    have e : evE G (PD.call G n) (.op .add [.v 1, .v 2]) [some (.d d), some (.d (.int p)), some (.d (.int q))] [] = .ok (.d (.int (p + q))) [] := rfl
    exact t_run [some (.d d), some (.d (.int p)), some (.d (.int q))] (t_ret (q_modE e rfl (by decide)))
  | minus =>
    obtain ⟨p, rfl, p1, p2⟩ := vok_n hu
    obtain ⟨q, rfl, q1, q2⟩ := vok_n hv
    rw [show recF I .minus = I.f_Minus_reckoned from rfl, call_at h.rMinus]
    have e : evE G (PD.call G n) (.op .sub [.v 1, .v 2]) [some (.d d), some (.d (.int p)), some (.d (.int q))] [] = .ok (.d (.int (p - q))) [] := rfl
    exact t_run [some (.d d), some (.d (.int p)), some (.d (.int q))] (t_ret (q_modE e rfl (by decide)))
  | times =>
    obtain ⟨p, rfl, p1, p2⟩ := vok_n hu
    obtain ⟨q, rfl, q1, q2⟩ := vok_n hv
    rw [show recF I .times = I.f_Times_reckoned from rfl, call_at h.rTimes]
    have e : evE G (PD.call G n) (.op .mul [.v 1, .v 2]) [some (.d d), some (.d (.int p)), some (.d (.int q))] [] = .ok (.d (.int (p * q))) [] := by
      refine q_op2 (dx := .int p) (dy := .int q) rfl rfl rfl rfl ?_
      show arith .mul p q = _
      exact a_mul (a := 10) (b := 10) (by omega) (by omega)
    exact t_run [some (.d d), some (.d (.int p)), some (.d (.int q))] (t_ret (q_modE e rfl (by decide)))
theorem value_ok (h : HVd G I) (κ : List Nat → Option Bool) (r : List Nat → Vl) (he : Env κ r) (w : PD.W) (cs : List M) (dd : D) (a : Arg w cs dd) (vd : VD κ r dd) : ∀ (k : Nat) (t : Tr), t.dp ≤ k → ∀ b, t.ok → kind κ t = some b → ∀ n, PD.call G (n + k + 1) (valF I t) [.d (obj I t), w] cs = .ok (.d (val r t).d) cs := by
  intro k
  induction k with
  | zero => intro t ht; have := dp_pos t; omega
  | succ k ih =>
    intro t ht b ho hk n
    rw [show n + (k + 1) + 1 = (n + k + 1) + 1 from by omega]
    have sub : ∀ (e : E) (sl : Sl) (t' : Tr) (b' : Bool), t'.dp ≤ k → t'.ok → kind κ t' = some b' → sl[1]? = some (some w) → evE G (PD.call G (n + k + 1)) e sl cs = .ok (.d (obj I t')) cs → evE G (PD.call G (n + k + 1)) (.meth e "value" [.v 1]) sl cs = .ok (.d (val r t').d) cs := fun e sl t' b' hd hok hkd hs he => by
      obtain ⟨vs, ho⟩ := obj_form I t'
      rw [q_meth (by rw [he, ho]) (val_meth h t') (val_free t'), es1 (q_get hs), Rs.bind_ok, ← ho]
      exact a.call (ih t' hd b' hok hkd n)
    cases t with
    | num i =>
      rw [show valF I (.num i) = I.f_Num_value from rfl, call_at h.fNum]
      exact t_run [some (.d (obj I (.num i))), some w] (t_ret (q_fld (C := I.c_Num) (ks := ["number"]) (vs := [.int i]) rfl h.bd.fNum fg1))
    | yes => rw [show valF I .yes = I.f_Yes_value from rfl, call_at h.fYes]; rfl
    | no => rw [show valF I .no = I.f_No_value from rfl, call_at h.fNo]; rfl
    | box l =>
      rw [show valF I (.box l) = I.f_Box_value from rfl, call_at h.fBox]
      obtain ⟨ks, vs, rfl, hv⟩ := vd
      have fl : evE G (PD.call G (n + k + 1)) (.fld (.v 0) "name") [some (.d (obj I (.box l))), some w] cs = .ok (.d (.str (mk l))) cs := q_fld (C := I.c_Box) (ks := ["name"]) (vs := [.str (mk l)]) rfl h.bd.fBox fg1
      refine t_run [some (.d (obj I (.box l))), some w] (t_ret (q_op2 (dx := .dct ks vs) (dy := .str (mk l)) (q_get rfl) fl a.pk rfl ?_))
      show dget ks vs (.inr (mk l)) = _
      exact hv l b hk
    | nt x =>
      have hx : x.dp + 1 ≤ k + 1 := ht
      obtain ⟨rfl, hkx⟩ := kind_nt hk
      rw [show valF I (.nt x) = I.f_Not_value from rfl, call_at h.fNot]
      have fl : evE G (PD.call G (n + k + 1)) (.fld (.v 0) "one") [some (.d (obj I (.nt x))), some w] cs = .ok (.d (obj I x)) cs := q_fld (C := I.c_Not) (ks := ["one"]) (vs := [obj I x]) rfl h.bd.fNot fg1
      have s := sub _ [some (.d (obj I (.nt x))), some w] x true (by omega) ho hkx rfl fl
      obtain ⟨c, ec⟩ := vok_t (val_ok he x true ho hkx)
      rw [ec] at s
      have q := t_run (b := b_Not_value) [some (.d (obj I (.nt x))), some w] (t_ret (q_not s)) (ws := [.d (obj I (.nt x)), w]) (np := 2) (ns := 2)
      rw [q]
      show _ = Rs.ok (PD.W.d (nt1 (val r x)).d) cs
      rw [ec]; rfl
    | pick x y z =>
      have hx : max x.dp (max y.dp z.dp) + 1 ≤ k + 1 := ht
      obtain ⟨h1, h2, h3⟩ := kind_pick hk
      rw [show valF I (.pick x y z) = I.f_Pick_value from rfl, call_at h.fPick]
      have fx : evE G (PD.call G (n + k + 1)) (.fld (.v 0) "asked") [some (.d (obj I (.pick x y z))), some w] cs = .ok (.d (obj I x)) cs := q_fld (C := I.c_Pick) (ks := ["asked", "one", "other"]) (vs := [obj I x, obj I y, obj I z]) rfl h.bd.fPick.1 fg3a
      have fy : evE G (PD.call G (n + k + 1)) (.fld (.v 0) "one") [some (.d (obj I (.pick x y z))), some w] cs = .ok (.d (obj I y)) cs := q_fld (C := I.c_Pick) (ks := ["asked", "one", "other"]) (vs := [obj I x, obj I y, obj I z]) rfl h.bd.fPick.2.1 (fg3b (by decide +kernel))
      have fz : evE G (PD.call G (n + k + 1)) (.fld (.v 0) "other") [some (.d (obj I (.pick x y z))), some w] cs = .ok (.d (obj I z)) cs := q_fld (C := I.c_Pick) (ks := ["asked", "one", "other"]) (vs := [obj I x, obj I y, obj I z]) rfl h.bd.fPick.2.2 (fg3c (by decide +kernel) (by decide +kernel))
      have sx := sub _ [some (.d (obj I (.pick x y z))), some w] x true (by omega) ho.1 h1 rfl fx
      have sy := sub _ [some (.d (obj I (.pick x y z))), some w] y b (by omega) ho.2.1 h2 rfl fy
      have sz := sub _ [some (.d (obj I (.pick x y z))), some w] z b (by omega) ho.2.2 h3 rfl fz
      obtain ⟨c, ec⟩ := vok_t (val_ok he x true ho.1 h1)
      rw [ec] at sx
      show _ = Rs.ok (PD.W.d (pk3 (val r x) (val r y) (val r z)).d) cs
      rw [ec]
      cases c with
      | true => exact t_run [some (.d (obj I (.pick x y z))), some w] (t_ifR sx sy)
      | false => exact t_run [some (.d (obj I (.pick x y z))), some w] (t_ifF sx (t_ret sz))
    | two o x y =>
      have hx : max x.dp y.dp + 1 ≤ k + 1 := ht
      obtain ⟨rfl, h1, h2⟩ := kind_two hk
      rw [show valF I (.two o x y) = I.f_Two_value from rfl, call_at h.fTwo]
      have f1 : evE G (PD.call G (n + k + 1)) (.fld (.v 0) "one") [some (.d (obj I (.two o x y))), some w] cs = .ok (.d (obj I x)) cs := q_fld (C := cOp I o) (ks := ["one", "other"]) (vs := [obj I x, obj I y]) rfl (h.bd.fTwo o).1 fg2a
      have f2 : evE G (PD.call G (n + k + 1)) (.fld (.v 0) "other") [some (.d (obj I (.two o x y))), some w] cs = .ok (.d (obj I y)) cs := q_fld (C := cOp I o) (ks := ["one", "other"]) (vs := [obj I x, obj I y]) rfl (h.bd.fTwo o).2 (fg2b (by decide +kernel))
      have s1 := sub _ [some (.d (obj I (.two o x y))), some w] x _ (by omega) ho.1 h1 rfl f1
      have s2 := sub _ [some (.d (obj I (.two o x y))), some w] y _ (by omega) ho.2 h2 rfl f2
      refine t_run [some (.d (obj I (.two o x y))), some w] (t_ret ?_)
      rw [q_meth (C := cOp I o) (ks := ["one", "other"]) (vs := [obj I x, obj I y]) (f := recF I o) (q_get rfl) (h.mRec o) (by decide +kernel), es2 s1 s2, Rs.bind_ok]
      exact callW_d (ds := [obj I (.two o x y), (val r x).d, (val r y).d]) rfl (rec_ok h (n + k) o (obj I x) (obj I y) _ _ _ (val_ok he x _ ho.1 h1) (val_ok he y _ ho.2 h2))
end
end PL
set_option Elab.async false
set_option linter.all false
set_option maxRecDepth 100000
set_option maxHeartbeats 4000000
set_option exponentiation.threshold 300
namespace Lw
open PySem PySem.Spec PyProof.Rows L2 PD PL NumText
theorem htr : HTr tb.G I where
  nm := ⟨⟨by decide +kernel⟩, rfl, rfl, rfl, rfl⟩
  leaf := rfl
  many := rfl
  parts := rfl
  tree := rfl
  twos := rfl
  num := rfl
  most := rfl
  deep := rfl
theorem hbd : HBd tb.G I where
  tr := htr
  built := rfl
  two := rfl
  say := rfl
  iNum := rfl
  iBox := rfl
  iNot := rfl
  iTwo := rfl
  iPick := rfl
  mNum := by decide +kernel
  mBox := by decide +kernel
  mNot := by decide +kernel
  mPick := by decide +kernel
  mTwo := by intro o; cases o <;> decide +kernel
  fNum := by decide +kernel
  fBox := by decide +kernel
  fNot := by decide +kernel
  fPick := by decide +kernel
  fTwo := by intro o; cases o <;> decide +kernel
  nYes := by decide +kernel
  nNo := by decide +kernel
theorem hvd : HVd tb.G I where
  bd := hbd
  fNum := rfl
  fYes := rfl
  fNo := rfl
  fBox := rfl
  fNot := rfl
  fPick := rfl
  fTwo := rfl
  rPlus := rfl
  rMinus := rfl
  rTimes := rfl
  rSame := rfl
  rLess := rfl
  rAnd := rfl
  rOr := rfl
  mNum := by decide +kernel
  mYes := by decide +kernel
  mNo := by decide +kernel
  mBox := by decide +kernel
  mNot := by decide +kernel
  mPick := by decide +kernel
  mTwo := by intro o; cases o <;> decide +kernel
  mRec := by intro o; cases o <;> decide +kernel
section
variable {Φ : Nat → List PD.W → List M → Rs PD.W} {sl : Sl} {cs : List M}
theorem in_strsL (w : Str) (ws : List Str) : inD (.str w) (.lst (ws.map .str)) = some (ws.any (· == w)) := in_strs w ws
theorem q_inL {e : E} {w : Str} (ws : List Str) (he : evE tb.G Φ e sl cs = .ok (.d (.str w)) cs) (hl : ws.length ≤ LIM) : evE tb.G Φ (.op .in_ [e, .lst (ws.map fun x => .c (.str x))]) sl cs = .ok (.d (.bl (ws.any (· == w)))) cs := by
  have hm : (ws.map fun x => PD.W.d (.str x)) = (ws.map D.str).map .d := by rw [List.map_map]; rfl
  rw [eE_op, eEs_cons, he, Rs.bind_ok, eEs_cons, eE_lst, evEs_strs, Rs.bind_ok, hm, dats_map]
  dsimp only
  rw [if_pos (by rw [List.length_map]; exact hl), Rs.bind_ok, eEs_nil, Rs.bind_ok, Rs.bind_ok, Rs.bind_ok]
  show (match (inD (.str w) (.lst (ws.map .str))).map D.bl with | some d => Rs.ok (PD.W.d d) cs | none => .stuck) = _
  rw [in_strsL]
  rfl
theorem q_enc {a b : E} {x y : Tr} (ha : evE tb.G Φ a sl cs = .ok (.d (enc x)) cs) (hb : evE tb.G Φ b sl cs = .ok (.d (enc y)) cs) (hx : x.dp ≤ 60) (hy : y.dp ≤ 60) : evE tb.G Φ (.op .eq [a, b]) sl cs = .ok (.d (.bl (decide (x = y)))) cs := by
  rw [q_eqE ha hb (enc_plain hx) (enc_plain hy), eqD_enc]
theorem wd_ix {t : Tr} {i : Nat} (h : sl[i]? = some (some (.d (enc t)))) : evE tb.G Φ (.op .ix [.v i, .c (.int 0)]) sl cs = .ok (.d (.str (wd t))) cs := by
  rw [enc_form t] at h
  exact ix0 h
end
theorem con_lt (t : Tr) : con t < 13 := by
  cases t with
  | two o _ _ => cases o <;> simp [con]
  | _ => simp [con]
theorem atom_con (t : Tr) : atom t = decide (con t < 3) := by
  cases t with
  | two o _ _ => cases o <;> rfl
  | _ => rfl
theorem wdT (f : Str → Bool) (g : Nat → Bool) (h : ∀ c < 13, f (un c) = g c) (t : Tr) : f (wd t) = g (con t) := by rw [← un_con]; exact h _ (con_lt t)
theorem atomW (t : Tr) : (["num", "yes", "no"] : List Str).any (· == wd t) = atom t := by
  rw [atom_con]
  exact wdT (fun w => (["num", "yes", "no"] : List Str).any (· == w)) (fun c => decide (c < 3)) (by decide +kernel) t
theorem isv (n : Nat) (t : Tr) : PD.call tb.G (n + 1) 11 [.d (enc t)] [] = .ok (.d (.bl (atom t))) [] := by
  rw [call_at (np := 1) (ns := 1) (b := b11) rfl]
  refine t_run [some (.d (enc t))] (t_ret ?_)
  rw [← atomW]
  exact q_in ["num", "yes", "no"] (wd_ix rfl) (by decide)
theorem isa (n : Nat) (t : Tr) : PD.call tb.G (n + 1) 13 [.d (enc t)] [] = .ok (.d (.bl (atom t))) [] := by
  rw [call_at (np := 1) (ns := 1) (b := b13) rfl]
  refine t_run [some (.d (enc t))] (t_ret ?_)
  rw [← atomW]
  exact q_inL ["num", "yes", "no"] (wd_ix rfl) (by decide)
theorem tree_of_ok (n : Nat) (v : Vl) : PD.call tb.G (n + 1) 16 [.d v.d] [] = .ok (.d (enc (asT v))) [] := by
  rw [call_at (np := 1) (ns := 1) (b := b16) rfl]
  cases v with
  | n i => rfl
  | b c => cases c <;> rfl
theorem as_tree_ok (n : Nat) (v : Vl) : PD.call tb.G (n + 1) 14 [.d v.d] [] = .ok (.d (enc (asT v))) [] := by
  rw [call_at (np := 1) (ns := 1) (b := b14) rfl]
  cases v with
  | n i => rfl
  | b c => cases c <;> rfl
def jnB (we wk wo : Str) : List S := [.ite (.op .in_ [.tup [.c (.str we)], .tup [.v 0, .v 1]]) [.ret (.tup [.c (.str we)])] [], .ite (.op .eq [.v 0, .tup [.c (.str wk)]]) [.ret (.v 1)] [], .ret (.ife (.op .eq [.v 1, .tup [.c (.str wk)]]) (.v 0) (.tup [.c (.str wo), .v 0, .v 1]))]
theorem jnB_ok (n f : Nat) (o : Op2) (e k x y : Tr) (hf : tb.G.fns[f]? = some (2, 2, jnB (wd e) (wd k) o.w)) (he : enc e = .tup [.str (wd e)]) (hk : enc k = .tup [.str (wd k)]) (de : e.dp ≤ 60) (dk : k.dp ≤ 60) (hx : x.dp ≤ 60) (hy : y.dp ≤ 60) : PD.call tb.G (n + 1) f [.d (enc x), .d (enc y)] [] = .ok (.d (enc (jn o e k x y))) [] := by
  rw [call_at hf]
  have i1 : evE tb.G (PD.call tb.G n) (.op .in_ [.tup [.c (.str (wd e))], .tup [.v 0, .v 1]]) [some (.d (enc x)), some (.d (enc y))] [] = .ok (.d (.bl (decide (x = e ∨ y = e)))) [] := by
    refine q_op2 (dx := enc e) (dy := .tup [enc x, enc y]) (x := .d (enc e)) (y := .d (.tup [enc x, enc y])) (by rw [he]; rfl) rfl rfl rfl ?_
    show (if (plainD (enc e) && (plainD (enc x) && (plainD (enc y) && true))) = true then some (eqD (enc x) (enc e) || (eqD (enc y) (enc e) || false)) else none).map D.bl = _
    rw [enc_plain de, enc_plain hx, enc_plain hy, eqD_enc, eqD_enc, Bool.or_false, Bool.decide_or]
    rfl
  have e1 : evE tb.G (PD.call tb.G n) (.op .eq [.v 0, .tup [.c (.str (wd k))]]) [some (.d (enc x)), some (.d (enc y))] [] = .ok (.d (.bl (decide (x = k)))) [] := q_enc rfl (by rw [hk]; rfl) hx dk
  have e2 : evE tb.G (PD.call tb.G n) (.op .eq [.v 1, .tup [.c (.str (wd k))]]) [some (.d (enc x)), some (.d (enc y))] [] = .ok (.d (.bl (decide (y = k)))) [] := q_enc rfl (by rw [hk]; rfl) hy dk
  refine t_run [some (.d (enc x)), some (.d (enc y))] ?_
  unfold jn
  by_cases c1 : x = e ∨ y = e
  · rw [if_pos c1]
    rw [decide_eq_true c1] at i1
    exact t_ifR i1 (by rw [he]; rfl)
  rw [if_neg c1]
  rw [decide_eq_false c1] at i1
  refine t_ifF i1 ?_
  by_cases c2 : x = k
  · rw [if_pos c2]
    rw [decide_eq_true c2] at e1
    exact t_ifR e1 rfl
  rw [if_neg c2]
  rw [decide_eq_false c2] at e1
  refine t_ifF e1 (t_ret ?_)
  by_cases c3 : y = k
  · rw [if_pos c3]
    rw [decide_eq_true c3] at e2
    exact q_ifeT e2 rfl
  · rw [if_neg c3]
    rw [decide_eq_false c3] at e2
    exact q_ifeF e2 rfl
theorem fand_ok (n : Nat) (x y : Tr) (hx : x.dp ≤ 60) (hy : y.dp ≤ 60) : PD.call tb.G (n + 1) 18 [.d (enc x), .d (enc y)] [] = .ok (.d (enc (jn .and_ .no .yes x y))) [] := jnB_ok n 18 .and_ .no .yes x y rfl rfl rfl (by decide) (by decide) hx hy
theorem for_ok (n : Nat) (x y : Tr) (hx : x.dp ≤ 60) (hy : y.dp ≤ 60) : PD.call tb.G (n + 1) 19 [.d (enc x), .d (enc y)] [] = .ok (.d (enc (jn .or_ .yes .no x y))) [] := jnB_ok n 19 .or_ .yes .no x y rfl rfl rfl (by decide) (by decide) hx hy
def pkT (a x y : Tr) : Tr := if a = .yes ∨ x = y then x else if a = .no then y else .pick a x y
theorem fpick_ok (n : Nat) (a x y : Tr) (ha : a.dp ≤ 60) (hx : x.dp ≤ 60) (hy : y.dp ≤ 60) : PD.call tb.G (n + 1) 20 [.d (enc a), .d (enc x), .d (enc y)] [] = .ok (.d (enc (pkT a x y))) [] := by
  rw [call_at (np := 3) (ns := 3) (b := b20) rfl]
  have e1 : evE tb.G (PD.call tb.G n) (.op .eq [.v 0, .tup [.c (.str "yes")]]) [some (.d (enc a)), some (.d (enc x)), some (.d (enc y))] [] = .ok (.d (.bl (decide (a = .yes)))) [] := q_enc rfl rfl ha (by decide)
  have e2 : evE tb.G (PD.call tb.G n) (.op .eq [.v 1, .v 2]) [some (.d (enc a)), some (.d (enc x)), some (.d (enc y))] [] = .ok (.d (.bl (decide (x = y)))) [] := q_enc rfl rfl hx hy
  have e3 : evE tb.G (PD.call tb.G n) (.op .eq [.v 0, .tup [.c (.str "no")]]) [some (.d (enc a)), some (.d (enc x)), some (.d (enc y))] [] = .ok (.d (.bl (decide (a = .no)))) [] := q_enc rfl rfl ha (by decide)
  refine t_run [some (.d (enc a)), some (.d (enc x)), some (.d (enc y))] ?_
  unfold pkT
  by_cases c1 : a = .yes
  · rw [if_pos (.inl c1)]
    rw [decide_eq_true c1] at e1
    exact t_ifR (q_orT e1) rfl
  rw [decide_eq_false c1] at e1
  by_cases c2 : x = y
  · rw [if_pos (.inr c2)]
    rw [decide_eq_true c2] at e2
    exact t_ifR (q_orF e1 e2) rfl
  rw [if_neg fun q => q.elim c1 c2]
  rw [decide_eq_false c2] at e2
  refine t_ifF (q_orF e1 e2) (t_ret ?_)
  by_cases c3 : a = .no
  · rw [if_pos c3]
    rw [decide_eq_true c3] at e3
    exact q_ifeT e3 rfl
  · rw [if_neg c3]
    rw [decide_eq_false c3] at e3
    exact q_ifeF e3 rfl
def kids : Tr → List Tr | .nt x => [x] | .two _ x y => [x, y] | .pick a x y => [a, x, y] | _ => []
def inner : Tr → Bool | .nt _ => true | .two _ _ _ => true | .pick _ _ _ => true | _ => false
theorem rs_kids {u : Tr} (h : inner u = true) : rs u = (kids u).map enc := by cases u <;> first | rfl | cases h
theorem kids_map {Φ : Nat → List PD.W → List M → Rs PD.W} (f j : Nat) (g : Tr → D) (u : Tr) (hu : inner u = true) (sl : Sl) (h0 : sl[0]? = some (some (.d (enc u)))) (hb : ∀ d : D, ∃ sl', bindT (.n j) (.d d) (wipeS sl [j]) = some sl' ∧ sl'[j]? = some (some (.d d))) (hf : ∀ t ∈ kids u, Φ f [.d (enc t)] [] = .ok (.d (g t)) []) :
    evE tb.G Φ (.comp false [j] (.n j) .seq [.slL (.v 0) (.c (.int 1))] [] (.call f [.v j])) sl [] = .ok (.d (.lst ((kids u).map g))) [] := by
  refine q_tail (x := .str (wd u)) (r := (kids u).map enc) (by rw [h0, enc_form, rs_kids hu]) (by simp) fun k d hk => ?_
  rw [List.getElem?_map] at hk
  cases et : (kids u)[k]? with
  | none => rw [et] at hk; cases hk
  | some t =>
    rw [et] at hk
    cases hk
    refine ⟨g t, by rw [List.getElem?_map, et]; rfl, ?_⟩
    obtain ⟨sl', e1, e2⟩ := hb (enc t)
    show (match bindT (.n j) (.d (enc t)) (wipeS sl [j]) with | some sl' => (evC tb.G Φ [] sl' []).bind fun b cs => if b = true then (evE tb.G Φ (.call f [.v j]) sl' cs).bind fun w cs => match w with | .d x => Rs.ok (some x) cs | .c _ => .stuck else .ok none cs | none => .stuck) = _
    rw [e1]
    show ((evE tb.G Φ (.call f [.v j]) sl' []).bind _ : Rs (Option D)) = _
    rw [q_call (es1 (q_get e2)) (callW1 (hf t (List.mem_of_getElem? et)))]
    rfl
theorem k0_kids {k : List Nat → Option Bool} {u : Tr} {b : Bool} (ha : (kids u).all atom = true) (hu : inner u = true) (h : kind k u = some b) : kind (fun _ => none) u = some b := by
  cases u with
  | nt x => simp only [kids, List.all_cons, List.all_nil, Bool.and_true] at ha; exact k0_nt ha h
  | two o x y =>
    simp only [kids, List.all_cons, List.all_nil, Bool.and_true, Bool.and_eq_true] at ha
    rw [← h]
    show (if kind _ x = some o.want ∧ kind _ y = some o.want then _ else _) = (if kind k x = some o.want ∧ kind k y = some o.want then _ else _)
    rw [kind_atom (fun _ => none) k ha.1, kind_atom (fun _ => none) k ha.2]
  | pick a x y =>
    simp only [kids, List.all_cons, List.all_nil, Bool.and_true, Bool.and_eq_true] at ha
    rw [← h]
    show (if kind _ a = some true ∧ kind _ y = kind _ x then kind _ x else _) = (if kind k a = some true ∧ kind k y = kind k x then kind k x else _)
    rw [kind_atom (fun _ => none) k ha.1, kind_atom (fun _ => none) k ha.2.1, kind_atom (fun _ => none) k ha.2.2]
  | _ => cases hu
theorem part_atoms {u : Tr} (ha : (kids u).all atom = true) (hu : inner u = true) : part u = asT (val r0 u) := by
  cases u with
  | nt x => simp only [kids, List.all_cons, List.all_nil, Bool.and_true] at ha; exact if_pos ha
  | two o x y => simp only [kids, List.all_cons, List.all_nil, Bool.and_true, Bool.and_eq_true] at ha; exact if_pos ha
  | pick a x y => simp only [kids, List.all_cons, List.all_nil, Bool.and_true, Bool.and_eq_true] at ha; exact if_pos ha
  | _ => cases hu
theorem bls_all (bs : List Bool) : allD (.lst (bs.map .bl)) = some (.bl (bs.all id)) := by
  have e : ∀ bs : List Bool, isBls (bs.map .bl) = some bs := fun bs => by
    induction bs with
    | nil => rfl
    | cons b r ih => show (isBls (r.map .bl)).map (b :: ·) = _; rw [ih]; rfl
  show (isBls (bs.map .bl)).map _ = _
  rw [e]
  rfl
section
variable {Φ : Nat → List PD.W → List M → Rs PD.W} {sl : Sl} {cs : List M}
theorem eqw {t : Tr} {i : Nat} (s : Str) (k : Nat) (hk : ∀ c < 13, (un c == s) = decide (c = k)) (h : sl[i]? = some (some (.d (enc t)))) : evE tb.G Φ (.op .eq [.op .ix [.v i, .c (.int 0)], .c (.str s)]) sl cs = .ok (.d (.bl (decide (con t = k)))) cs := by
  rw [q_eqS (wd_ix h), wdT (fun w => w == s) (fun c => decide (c = k)) hk t]
theorem kid_ix {u : Tr} {i : Nat} {k : Nat} {t : Tr} (hu : inner u = true) (h : sl[i]? = some (some (.d (enc u)))) (hk : (kids u)[k]? = some t) : evE tb.G Φ (.op .ix [.v i, .c (.int ((k + 1 : Nat) : Int))]) sl cs = .ok (.d (enc t)) cs := by
  refine q_op2 (dx := enc u) (dy := .int ((k + 1 : Nat) : Int)) (q_get h) rfl rfl rfl ?_
  rw [enc_form, rs_kids hu]
  show atI _ ((k + 1 : Nat) : Int) = _
  exact atI_nat (by rw [List.getElem?_cons_succ, List.getElem?_map, hk]; rfl)
end
theorem w_and : ∀ c < 13, (un c == ("and" : Str)) = decide (c = 11) := by decide +kernel
theorem w_or : ∀ c < 13, (un c == ("or" : Str)) = decide (c = 12) := by decide +kernel
theorem w_pick : ∀ c < 13, (un c == ("pick" : Str)) = decide (c = 5) := by decide +kernel
theorem w_not : ∀ c < 13, (un c == ("not" : Str)) = decide (c = 4) := by decide +kernel
theorem w_box : ∀ c < 13, (un c == ("box" : Str)) = decide (c = 3) := by decide +kernel
theorem part_ok (n : Nat) (k : List Nat → Option Bool) (b : Bool) (u : Tr) (hu : inner u = true) (ho : u.ok) (hk : kind k u = some b) (hd : u.dp ≤ 9) (hz : u.sz ≤ 40) : PD.call tb.G (n + 17) 12 [.d (enc u)] [] = .ok (.d (enc (part u))) [] := by
  rw [show n + 17 = (n + 16) + 1 from rfl, call_at (np := 1) (ns := 2) (b := b12) rfl]
  refine t_run [some (.d (enc u)), none] ?_
  have gt : evE tb.G (PD.call tb.G (n + 16)) (.op .gt [.op .len [.v 0], .c (.int (1))]) [some (.d (enc u)), none] [] = .ok (.d (.bl true)) [] := by cases u <;> first | rfl | cases hu
  have ni : evE tb.G (PD.call tb.G (n + 16)) (.op .notin [.op .ix [.v 0, .c (.int (0))], .tup [.c (.str "num"), .c (.str "box")]]) [some (.d (enc u)), none] [] = .ok (.d (.bl true)) [] := by
    have q := q_notin (G := tb.G) (Φ := PD.call tb.G (n + 16)) (cs := []) ["num", "box"] (wd_ix (sl := [some (.d (enc u)), none]) (t := u) (i := 0) rfl) (by decide)
    have e : (!(["num", "box"] : List Str).any (· == wd u)) = true := by
      rw [wdT (fun w => !(["num", "box"] : List Str).any (· == w)) (fun c => decide (c ≠ 0 ∧ c ≠ 3)) (by decide +kernel) u]
      cases u with
      | two o _ _ => cases o <;> rfl
      | nt _ => rfl
      | pick _ _ _ => rfl
      | _ => cases hu
    rw [e] at q
    exact q
  have al : evE tb.G (PD.call tb.G (n + 16)) (.op .all [.comp false [1] (.n 1) .seq [.slL (.v 0) (.c (.int (1)))] [] (.call 11 [.v 1])]) [some (.d (enc u)), none] [] = .ok (.d (.bl ((kids u).all atom))) [] := by
    rw [eE_op, es1 (kids_map 11 1 (fun t => .bl (atom t)) u hu _ rfl (fun d => ⟨[some (.d (enc u)), some (.d d)], rfl, rfl⟩) fun t _ => isv (n + 15) t), Rs.bind_ok]
    show (match allD (.lst ((kids u).map fun t => .bl (atom t))) with | some d => Rs.ok (PD.W.d d) [] | none => .stuck) = _
    rw [show ((kids u).map fun t => D.bl (atom t)) = ((kids u).map atom).map .bl from by rw [List.map_map]; rfl, bls_all, List.all_map]
    rfl
  have t1 := q_andT gt (q_andT ni al)
  by_cases ha : (kids u).all atom = true
  · rw [ha] at t1
    rw [part_atoms ha hu]
    refine t_ifR t1 ?_
    obtain ⟨ms, sy⟩ := say_ok hbd u ho hd hz (n + 2)
    obtain ⟨vs, hob⟩ := obj_form I u
    have q := value_ok hvd (fun _ => none) r0 (env0 _ fun _ => rfl) (.d (.dct [] [])) [] (.dct [] []) (Arg.data _) ⟨[], [], rfl, fun l b h => nomatch h⟩ 9 u hd b ho (k0_kids ha hu hk) (n + 6)
    have e1 : evE tb.G (PD.call tb.G (n + 16)) (.meth (.call I.f_saying_of [.v 0]) "value" [.c (.dct [] [])]) [some (.d (enc u)), none] [] = .ok (.d (val r0 u).d) [] := by
      rw [q_meth (C := clsT I u) (ks := fieldsT u) (vs := vs) (f := valF I u) (by rw [← hob]; exact q_call (es1 rfl) (callW1 sy)) (val_meth hvd u) (val_free u), es1 rfl, Rs.bind_ok, ← hob]
      exact callW2 q
    exact q_call (es1 e1) (callW1 (tree_of_ok (n + 15) _))
  have hf : (kids u).all atom = false := by simpa using ha
  rw [hf] at t1
  refine t_ifF t1 ?_
  have e2 := eqw (Φ := PD.call tb.G (n + 16)) (cs := []) (sl := [some (.d (enc u)), none]) (i := 0) (t := u) "and" 11 w_and rfl
  have e3 := eqw (Φ := PD.call tb.G (n + 16)) (cs := []) (sl := [some (.d (enc u)), none]) (i := 0) (t := u) "or" 12 w_or rfl
  have e4 := eqw (Φ := PD.call tb.G (n + 16)) (cs := []) (sl := [some (.d (enc u)), none]) (i := 0) (t := u) "pick" 5 w_pick rfl
  have e5 := eqw (Φ := PD.call tb.G (n + 16)) (cs := []) (sl := [some (.d (enc u)), none]) (i := 0) (t := u) "not" 4 w_not rfl
  cases u with
  | nt x =>
    have hx : x.dp + 1 ≤ 9 := hd
    have nx : atom x ≠ true := fun q => ha (by simp [kids, q])
    have k1 := kid_ix (Φ := PD.call tb.G (n + 16)) (cs := []) (sl := [some (.d (enc (.nt x))), none]) (i := 0) (u := .nt x) (k := 0) rfl rfl rfl
    have e6 : evE tb.G (PD.call tb.G (n + 16)) (.op .eq [.op .ix [.op .ix [.v 0, .c (.int (1))], .c (.int (0))], .c (.str "not")]) [some (.d (enc (.nt x))), none] [] = .ok (.d (.bl (decide (con x = 4)))) [] := by
      rw [← wdT (fun w => w == ("not" : Str)) (fun c => decide (c = 4)) w_not x]
      refine q_eqS (q_op2 (dx := enc x) (dy := .int 0) k1 rfl rfl rfl ?_)
      rw [enc_form]
      show atI _ 0 = _
      exact at0 _ _
    refine t_ifF e2 (t_ifF e3 (t_ifF e4 ?_))
    rw [show part (.nt x) = ntn x from if_neg nx]
    have e7 := q_andT e5 e6
    cases x with
    | nt y =>
      refine t_ifR e7 ?_
      refine q_op2 (dx := enc (.nt y)) (dy := .int 1) k1 rfl rfl rfl ?_
      show atI [.str "not", enc y] 1 = _
      exact at1 _ _ _
    | two o p q => cases o <;> exact t_ifF e7 (t_ret rfl)
    | box l => exact t_ifF e7 (t_ret rfl)
    | pick p q r => exact t_ifF e7 (t_ret rfl)
    | _ => exact absurd rfl nx
  | two o x y =>
    have hx : max x.dp y.dp + 1 ≤ 9 := hd
    have nx : ¬ (atom x = true ∧ atom y = true) := fun q => ha (by simp [kids, q.1, q.2])
    have k1 := kid_ix (Φ := PD.call tb.G (n + 16)) (cs := []) (sl := [some (.d (enc (.two o x y))), none]) (i := 0) (u := .two o x y) (k := 0) rfl rfl rfl
    have k2 := kid_ix (Φ := PD.call tb.G (n + 16)) (cs := []) (sl := [some (.d (enc (.two o x y))), none]) (i := 0) (u := .two o x y) (k := 1) rfl rfl rfl
    cases o with
    | and_ =>
      rw [show part (.two .and_ x y) = jn .and_ .no .yes x y from if_neg nx]
      exact t_ifR e2 (q_call (es2 k1 k2) (callW2 (fand_ok (n + 15) x y (by omega) (by omega))))
    | or_ =>
      rw [show part (.two .or_ x y) = jn .or_ .yes .no x y from if_neg nx]
      exact t_ifF e2 (t_ifR e3 (q_call (es2 k1 k2) (callW2 (for_ok (n + 15) x y (by omega) (by omega)))))
    | plus => rw [show part (.two .plus x y) = .two .plus x y from if_neg nx]; exact t_ifF e2 (t_ifF e3 (t_ifF e4 (t_ifF (q_andF e5) (t_ret rfl))))
    | minus => rw [show part (.two .minus x y) = .two .minus x y from if_neg nx]; exact t_ifF e2 (t_ifF e3 (t_ifF e4 (t_ifF (q_andF e5) (t_ret rfl))))
    | times => rw [show part (.two .times x y) = .two .times x y from if_neg nx]; exact t_ifF e2 (t_ifF e3 (t_ifF e4 (t_ifF (q_andF e5) (t_ret rfl))))
    | same => rw [show part (.two .same x y) = .two .same x y from if_neg nx]; exact t_ifF e2 (t_ifF e3 (t_ifF e4 (t_ifF (q_andF e5) (t_ret rfl))))
    | less => rw [show part (.two .less x y) = .two .less x y from if_neg nx]; exact t_ifF e2 (t_ifF e3 (t_ifF e4 (t_ifF (q_andF e5) (t_ret rfl))))
  | pick a x y =>
    have hx : max a.dp (max x.dp y.dp) + 1 ≤ 9 := hd
    have nx : ¬ (atom a = true ∧ atom x = true ∧ atom y = true) := fun q => ha (by simp [kids, q.1, q.2.1, q.2.2])
    have k1 := kid_ix (Φ := PD.call tb.G (n + 16)) (cs := []) (sl := [some (.d (enc (.pick a x y))), none]) (i := 0) (u := .pick a x y) (k := 0) rfl rfl rfl
    have k2 := kid_ix (Φ := PD.call tb.G (n + 16)) (cs := []) (sl := [some (.d (enc (.pick a x y))), none]) (i := 0) (u := .pick a x y) (k := 1) rfl rfl rfl
    have k3 := kid_ix (Φ := PD.call tb.G (n + 16)) (cs := []) (sl := [some (.d (enc (.pick a x y))), none]) (i := 0) (u := .pick a x y) (k := 2) rfl rfl rfl
    rw [show part (.pick a x y) = pkT a x y from if_neg nx]
    exact t_ifF e2 (t_ifF e3 (t_ifR e4 (q_call (es_cons k1 (es2 k2 k3)) (callW_d (ds := [enc a, enc x, enc y]) rfl (fpick_ok (n + 15) a x y (by omega) (by omega) (by omega))))))
  | _ => cases hu
end Lw
set_option Elab.async false
set_option linter.all false
set_option maxRecDepth 100000
set_option maxHeartbeats 4000000
set_option exponentiation.threshold 300
namespace Lw
open PySem PySem.Spec PyProof.Rows L2 PD PL NumText
def mapK (f : Tr → Tr) : Tr → Tr | .nt x => .nt (f x) | .two o x y => .two o (f x) (f y) | .pick a x y => .pick (f a) (f x) (f y) | t => t
theorem mapK_con (f : Tr → Tr) (t : Tr) : con (mapK f t) = con t := by
  cases t with
  | two o _ _ => cases o <;> rfl
  | _ => rfl
theorem mapK_wd (f : Tr → Tr) (t : Tr) : wd (mapK f t) = wd t := by rw [← un_con, ← un_con, mapK_con]
theorem mapK_kids (f : Tr → Tr) {t : Tr} (h : inner t = true) : kids (mapK f t) = (kids t).map f := by cases t <;> first | rfl | cases h
theorem mapK_inner (f : Tr → Tr) {t : Tr} (h : inner t = true) : inner (mapK f t) = true := by cases t <;> first | rfl | cases h
theorem fold_part {t : Tr} (h : inner t = true) : fold t = part (mapK fold t) := by cases t <;> first | rfl | cases h
theorem fold_leaf {t : Tr} (h : inner t = false) : fold t = t := by cases t <;> first | rfl | cases h
theorem enc_map (f : Tr → Tr) {t : Tr} (h : inner t = true) : enc (mapK f t) = .tup (.str (wd t) :: (kids t).map fun u => enc (f u)) := by
  rw [enc_form, mapK_wd, rs_kids (mapK_inner f h), mapK_kids f h, List.map_map]
  rfl
theorem kid_facts {k : List Nat → Option Bool} {u : Tr} {b : Bool} (ho : u.ok) (hk : kind k u = some b) : ∀ t ∈ kids u, t.ok ∧ (∃ b', kind k t = some b') ∧ t.dp + 1 ≤ u.dp ∧ t.sz ≤ u.sz := by
  cases u with
  | nt x =>
    intro t ht
    cases List.mem_singleton.mp ht
    exact ⟨ho, ⟨_, (kind_nt hk).2⟩, Nat.le_refl _, by show x.sz ≤ 1 + x.sz; omega⟩
  | two o x y =>
    obtain ⟨_, h1, h2⟩ := kind_two hk
    intro t ht
    simp only [kids, List.mem_cons, List.not_mem_nil, or_false] at ht
    rcases ht with rfl | rfl
    · exact ⟨ho.1, ⟨_, h1⟩, by show t.dp + 1 ≤ max t.dp y.dp + 1; omega, by show t.sz ≤ 1 + (t.sz + y.sz); omega⟩
    · exact ⟨ho.2, ⟨_, h2⟩, by show t.dp + 1 ≤ max x.dp t.dp + 1; omega, by show t.sz ≤ 1 + (x.sz + t.sz); omega⟩
  | pick a x y =>
    obtain ⟨h0, h1, h2⟩ := kind_pick hk
    intro t ht
    simp only [kids, List.mem_cons, List.not_mem_nil, or_false] at ht
    rcases ht with rfl | rfl | rfl
    · exact ⟨ho.1, ⟨_, h0⟩, by show t.dp + 1 ≤ max t.dp (max x.dp y.dp) + 1; omega, by show t.sz ≤ 1 + (t.sz + (x.sz + y.sz)); omega⟩
    · exact ⟨ho.2.1, ⟨_, h1⟩, by show t.dp + 1 ≤ max a.dp (max t.dp y.dp) + 1; omega, by show t.sz ≤ 1 + (a.sz + (t.sz + y.sz)); omega⟩
    · exact ⟨ho.2.2, ⟨_, h2⟩, by show t.dp + 1 ≤ max a.dp (max x.dp t.dp) + 1; omega, by show t.sz ≤ 1 + (a.sz + (x.sz + t.sz)); omega⟩
  | _ => intro t ht; cases ht
theorem map_keeps {k : List Nat → Option Bool} {u : Tr} {b : Bool} (ho : u.ok) (hk : kind k u = some b) : (mapK fold u).ok ∧ kind k (mapK fold u) = some b ∧ (mapK fold u).dp ≤ u.dp ∧ (mapK fold u).sz ≤ u.sz := by
  cases u with
  | nt x =>
    obtain ⟨rfl, h1⟩ := kind_nt hk
    have f := fold_keeps x true ho h1
    refine ⟨f.ok, if_pos f.kd, ?_, ?_⟩
    · show (fold x).dp + 1 ≤ x.dp + 1; have := f.dp; omega
    · show 1 + (fold x).sz ≤ 1 + x.sz; have := f.sz; omega
  | two o x y =>
    obtain ⟨rfl, h1, h2⟩ := kind_two hk
    have f := fold_keeps x _ ho.1 h1
    have g := fold_keeps y _ ho.2 h2
    refine ⟨⟨f.ok, g.ok⟩, if_pos ⟨f.kd, g.kd⟩, ?_, ?_⟩
    · show max (fold x).dp (fold y).dp + 1 ≤ max x.dp y.dp + 1; have := f.dp; have := g.dp; omega
    · show 1 + ((fold x).sz + (fold y).sz) ≤ 1 + (x.sz + y.sz); have := f.sz; have := g.sz; omega
  | pick a x y =>
    obtain ⟨h0, h1, h2⟩ := kind_pick hk
    have e := fold_keeps a _ ho.1 h0
    have f := fold_keeps x _ ho.2.1 h1
    have g := fold_keeps y _ ho.2.2 h2
    refine ⟨⟨e.ok, f.ok, g.ok⟩, ?_, ?_, ?_⟩
    · show (if kind k (fold a) = some true ∧ kind k (fold y) = kind k (fold x) then kind k (fold x) else none) = _
      rw [if_pos ⟨e.kd, by rw [g.kd, f.kd]⟩, f.kd]
    · show max (fold a).dp (max (fold x).dp (fold y).dp) + 1 ≤ max a.dp (max x.dp y.dp) + 1; have := e.dp; have := f.dp; have := g.dp; omega
    · show 1 + ((fold a).sz + ((fold x).sz + (fold y).sz)) ≤ 1 + (a.sz + (x.sz + y.sz)); have := e.sz; have := f.sz; have := g.sz; omega
  | _ => exact ⟨ho, hk, Nat.le_refl _, Nat.le_refl _⟩
theorem kids_few (u : Tr) : (kids u).length ≤ 3 := by cases u <;> simp [kids]
theorem leaf_con (t : Tr) : inner t = !(atom t || decide (con t = 3)) := by
  cases t with
  | two o _ _ => cases o <;> rfl
  | _ => rfl
section
variable {Φ : Nat → List PD.W → List M → Rs PD.W} {sl : Sl} {cs : List M}
theorem q_rebuild {e : E} {t : Tr} (f : Tr → Tr) (hi : inner t = true) (h0 : sl[0]? = some (some (.d (enc t)))) (he : evE tb.G Φ e sl cs = .ok (.d (.lst ((kids t).map fun u => enc (f u)))) cs) : evE tb.G Φ (.op .add [.tup [.op .ix [.v 0, .c (.int (0))]], .op .tupOf [e]]) sl cs = .ok (.d (enc (mapK f t))) cs := by
  have e1 : evE tb.G Φ (.tup [.op .ix [.v 0, .c (.int (0))]]) sl cs = .ok (.d (.tup [.str (wd t)])) cs := by
    rw [eE_tup, es1 (wd_ix h0)]; rfl
  have e2 : evE tb.G Φ (.op .tupOf [e]) sl cs = .ok (.d (.tup ((kids t).map fun u => enc (f u)))) cs := by
    rw [eE_op, es1 he]; rfl
  refine q_op2 e1 e2 rfl rfl ?_
  rw [enc_map f hi]
  exact add_tup (by
    rw [List.length_map]
    exact Nat.le_trans (show 1 + (kids t).length ≤ 4 by have := kids_few t; omega) (by decide))
end
theorem folded_ok (k : List Nat → Option Bool) : ∀ (d : Nat) (t : Tr), t.dp ≤ d → ∀ b, t.ok → kind k t = some b → t.dp ≤ 9 → t.sz ≤ 40 → ∀ n, PD.call tb.G (n + d + 17) 6 [.d (enc t)] [] = .ok (.d (enc (fold t))) [] := by
  intro d
  induction d with
  | zero => intro t ht; have := dp_pos t; omega
  | succ d ih =>
    intro t ht b ho hk hd hz n
    rw [show n + (d + 1) + 17 = (n + d + 17) + 1 from by omega, call_at (np := 1) (ns := 2) (b := b6) rfl]
    refine t_run [some (.d (enc t)), none] ?_
    have e1 : evE tb.G (PD.call tb.G (n + d + 17)) (.call 11 [.v 0]) [some (.d (enc t)), none] [] = .ok (.d (.bl (atom t))) [] := q_call (es1 rfl) (callW1 (isv (n + d + 16) t))
    have e2 := eqw (Φ := PD.call tb.G (n + d + 17)) (cs := []) (sl := [some (.d (enc t)), none]) (i := 0) (t := t) "box" 3 w_box rfl
    have lc := leaf_con t
    cases hi : inner t with
    | false =>
      rw [fold_leaf hi]
      cases ha : atom t with
      | true => rw [ha] at e1; exact t_ifR (q_orT e1) rfl
      | false =>
        rw [ha] at e1
        have c3 : decide (con t = 3) = true := by rw [hi, ha] at lc; simpa using lc
        rw [c3] at e2
        exact t_ifR (q_orF e1 e2) rfl
    | true =>
      rw [hi] at lc
      have ha : atom t = false := by cases h : atom t with | false => rfl | true => rw [h] at lc; cases lc
      have c3 : decide (con t = 3) = false := by rw [ha] at lc; simpa using lc
      rw [ha] at e1
      rw [c3] at e2
      refine t_ifF (q_orF e1 e2) (t_ret ?_)
      have hm := kids_map (Φ := PD.call tb.G (n + d + 17)) 6 1 (fun u => enc (fold u)) t hi [some (.d (enc t)), none] rfl (fun d => ⟨[some (.d (enc t)), some (.d d)], rfl, rfl⟩) fun u hu => by
        obtain ⟨h1, ⟨b', h2⟩, h3, h4⟩ := kid_facts ho hk u hu
        exact ih u (by omega) b' h1 h2 (by omega) (by omega) n
      obtain ⟨m1, m2, m3, m4⟩ := map_keeps ho hk
      rw [fold_part hi]
      exact q_call (es1 (q_rebuild fold hi rfl hm)) (callW1 (part_ok (n + d) k b (mapK fold t) (mapK_inner fold hi) m1 m2 (by omega) (by omega)))
theorem w_num : ∀ c < 13, (un c == ("num" : Str)) = decide (c = 0) := by decide +kernel
theorem eqs {Φ : Nat → List PD.W → List M → Rs PD.W} {sl : Sl} {cs : List M} {t : Tr} {i : Nat} (s : Str) (k : Nat) (hk : ∀ c < 13, (un c == s) = decide (c = k)) (h : sl[i]? = some (some (.d (.str (wd t))))) : evE tb.G Φ (.op .eq [.v i, .c (.str s)]) sl cs = .ok (.d (.bl (decide (con t = k)))) cs := by
  rw [q_eqS (q_get h), wdT (fun w => w == s) (fun c => decide (c = k)) hk t]
theorem ins {Φ : Nat → List PD.W → List M → Rs PD.W} {sl : Sl} {cs : List M} {t : Tr} {i : Nat} (ws : List Str) (g : Nat → Bool) (hk : ∀ c < 13, ws.any (· == un c) = g c) (hl : ws.length ≤ LIM) (h : sl[i]? = some (some (.d (.str (wd t))))) : evE tb.G Φ (.op .in_ [.v i, .lst (ws.map fun x => .c (.str x))]) sl cs = .ok (.d (.bl (g (con t)))) cs := by
  rw [q_inL ws (q_get h) hl, wdT (fun w => ws.any (· == w)) g hk t]
theorem lv_ok (κ : List Nat → Option Bool) (r : List Nat → Vl) (he : Env κ r) (dd : D) (vd : VD κ r dd) : ∀ (d : Nat) (t : Tr), t.dp ≤ d → ∀ b, t.ok → kind κ t = some b → ∀ n, PD.call tb.G (n + d) 9 [.d (enc t), .d dd] [] = .ok (.d (val r t).d) [] := by
  intro d
  induction d with
  | zero => intro t ht; have := dp_pos t; omega
  | succ d ih =>
    intro t ht b ho hk n
    rw [show n + (d + 1) = (n + d) + 1 from by omega, call_at (np := 2) (ns := 6) (b := b9) rfl]
    refine t_run [some (.d (enc t)), some (.d dd), none, none, none, none] ?_
    refine t_asg [some (.d (enc t)), some (.d dd), some (.d (.str (wd t))), none, none, none] (wd_ix rfl) ?_
    have e1 := fun (o3 o4 o5 : Option PD.W) => eqs (Φ := PD.call tb.G (n + d)) (cs := []) (sl := [some (.d (enc t)), some (.d dd), some (.d (.str (wd t))), o3, o4, o5]) (i := 2) (t := t) "num" 0 w_num rfl
    have e2 := fun (o3 o4 o5 : Option PD.W) => ins (Φ := PD.call tb.G (n + d)) (cs := []) (sl := [some (.d (enc t)), some (.d dd), some (.d (.str (wd t))), o3, o4, o5]) (i := 2) (t := t) ["yes", "no"] (fun c => decide (c = 1 ∨ c = 2)) (by decide +kernel) (by decide) rfl
    have e3 := fun (o3 o4 o5 : Option PD.W) => eqs (Φ := PD.call tb.G (n + d)) (cs := []) (sl := [some (.d (enc t)), some (.d dd), some (.d (.str (wd t))), o3, o4, o5]) (i := 2) (t := t) "box" 3 w_box rfl
    have e4 := fun (o3 o4 o5 : Option PD.W) => eqs (Φ := PD.call tb.G (n + d)) (cs := []) (sl := [some (.d (enc t)), some (.d dd), some (.d (.str (wd t))), o3, o4, o5]) (i := 2) (t := t) "pick" 5 w_pick rfl
    have e5 := fun (o3 o4 o5 : Option PD.W) => eqs (Φ := PD.call tb.G (n + d)) (cs := []) (sl := [some (.d (enc t)), some (.d dd), some (.d (.str (wd t))), o3, o4, o5]) (i := 2) (t := t) "not" 4 w_not rfl
    have e6 := fun (o3 o4 o5 : Option PD.W) => ins (Φ := PD.call tb.G (n + d)) (cs := []) (sl := [some (.d (enc t)), some (.d dd), some (.d (.str (wd t))), o3, o4, o5]) (i := 2) (t := t) ["plus", "minus", "times"] (fun c => decide (c = 6 ∨ c = 7 ∨ c = 8)) (by decide +kernel) (by decide) rfl
    have e7 := fun (o3 o4 o5 : Option PD.W) => ins (Φ := PD.call tb.G (n + d)) (cs := []) (sl := [some (.d (enc t)), some (.d dd), some (.d (.str (wd t))), o3, o4, o5]) (i := 2) (t := t) ["same", "less"] (fun c => decide (c = 9 ∨ c = 10)) (by decide +kernel) (by decide) rfl
    have e8 := fun (o3 o4 o5 : Option PD.W) => eqs (Φ := PD.call tb.G (n + d)) (cs := []) (sl := [some (.d (enc t)), some (.d dd), some (.d (.str (wd t))), o3, o4, o5]) (i := 2) (t := t) "plus" 6 (by decide +kernel) rfl
    have e9 := fun (o3 o4 o5 : Option PD.W) => eqs (Φ := PD.call tb.G (n + d)) (cs := []) (sl := [some (.d (enc t)), some (.d dd), some (.d (.str (wd t))), o3, o4, o5]) (i := 2) (t := t) "minus" 7 (by decide +kernel) rfl
    have ea := fun (o3 o4 o5 : Option PD.W) => eqs (Φ := PD.call tb.G (n + d)) (cs := []) (sl := [some (.d (enc t)), some (.d dd), some (.d (.str (wd t))), o3, o4, o5]) (i := 2) (t := t) "same" 9 (by decide +kernel) rfl
    have eb := fun (o3 o4 o5 : Option PD.W) => eqs (Φ := PD.call tb.G (n + d)) (cs := []) (sl := [some (.d (enc t)), some (.d dd), some (.d (.str (wd t))), o3, o4, o5]) (i := 2) (t := t) "and" 11 w_and rfl
    have ey := fun (o3 o4 o5 : Option PD.W) => eqs (Φ := PD.call tb.G (n + d)) (cs := []) (sl := [some (.d (enc t)), some (.d dd), some (.d (.str (wd t))), o3, o4, o5]) (i := 2) (t := t) "yes" 1 (by decide +kernel) rfl
    cases t with
    | num i =>
      refine t_ifR (e1 _ _ _) ?_
      exact ix1 (x := .str "num") (y := .int i) (r := []) rfl
    | yes => exact t_ifF (e1 _ _ _) (t_ifR (e2 _ _ _) (ey _ _ _))
    | no => exact t_ifF (e1 _ _ _) (t_ifR (e2 _ _ _) (ey _ _ _))
    | box l =>
      obtain ⟨ks, vs, rfl, hv⟩ := vd
      refine t_ifF (e1 _ _ _) (t_ifF (e2 _ _ _) (t_ifR (e3 _ _ _) ?_))
      refine q_op2 (dx := .dct ks vs) (dy := .str (mk l)) (q_get rfl) (ix1 (x := .str "box") (y := .str (mk l)) (r := []) rfl) rfl rfl ?_
      exact hv l b hk
    | pick a x y =>
      have hx : max a.dp (max x.dp y.dp) + 1 ≤ d + 1 := ht
      obtain ⟨h0, h1, h2⟩ := kind_pick hk
      refine t_ifF (e1 _ _ _) (t_ifF (e2 _ _ _) (t_ifF (e3 _ _ _) (t_ifR (e4 _ _ _) ?_)))
      have k1 := kid_ix (Φ := PD.call tb.G (n + d)) (cs := []) (sl := [some (.d (enc (.pick a x y))), some (.d dd), some (.d (.str (wd (.pick a x y)))), none, none, none]) (i := 0) (u := .pick a x y) (k := 0) rfl rfl rfl
      have k2 := kid_ix (Φ := PD.call tb.G (n + d)) (cs := []) (sl := [some (.d (enc (.pick a x y))), some (.d dd), some (.d (.str (wd (.pick a x y)))), none, none, none]) (i := 0) (u := .pick a x y) (k := 1) rfl rfl rfl
      have k3 := kid_ix (Φ := PD.call tb.G (n + d)) (cs := []) (sl := [some (.d (enc (.pick a x y))), some (.d dd), some (.d (.str (wd (.pick a x y)))), none, none, none]) (i := 0) (u := .pick a x y) (k := 2) rfl rfl rfl
      have qa := q_call (G := tb.G) (es2 k1 (q_get (i := 1) rfl)) (callW2 (cs := []) (ih a (by omega) true ho.1 h0 n))
      obtain ⟨c, ec⟩ := vok_t (val_ok he a true ho.1 h0)
      rw [ec] at qa
      show _ = Rs.ok (PD.W.d (pk3 (val r a) (val r x) (val r y)).d) []
      rw [ec]
      cases c with
      | true => exact q_call (es2 (q_ifeT qa k2) (q_get rfl)) (callW2 (ih x (by omega) b ho.2.1 h1 n))
      | false => exact q_call (es2 (q_ifeF qa k3) (q_get rfl)) (callW2 (ih y (by omega) b ho.2.2 h2 n))
    | nt x =>
      have hx : x.dp + 1 ≤ d + 1 := ht
      obtain ⟨rfl, h0⟩ := kind_nt hk
      have k1 := kid_ix (Φ := PD.call tb.G (n + d)) (cs := []) (sl := [some (.d (enc (.nt x))), some (.d dd), some (.d (.str (wd (.nt x)))), none, none, none]) (i := 0) (u := .nt x) (k := 0) rfl rfl rfl
      have qa := q_call (G := tb.G) (es2 k1 (q_get (i := 1) rfl)) (callW2 (cs := []) (ih x (by omega) true ho h0 n))
      obtain ⟨c, ec⟩ := vok_t (val_ok he x true ho h0)
      rw [ec] at qa
      refine t_ifF (e1 _ _ _) (t_ifF (e2 _ _ _) (t_ifF (e3 _ _ _) (t_ifF (e4 _ _ _) (t_asg [some (.d (enc (.nt x))), some (.d dd), some (.d (.str (wd (.nt x)))), some (.d (.bl c)), none, none] qa (t_ifR (e5 _ _ _) ?_)))))
      show _ = Rs.ok (PD.W.d (nt1 (val r x)).d) []
      rw [ec]
      exact q_not (c := c) rfl
    | two o x y =>
      have hx : max x.dp y.dp + 1 ≤ d + 1 := ht
      obtain ⟨rfl, h1, h2⟩ := kind_two hk
      have v1 := val_ok he x _ ho.1 h1
      have v2 := val_ok he y _ ho.2 h2
      have ne : decide (con (.two o x y) = 0) = false ∧ decide (con (.two o x y) = 1 ∨ con (.two o x y) = 2) = false ∧ decide (con (.two o x y) = 3) = false ∧ decide (con (.two o x y) = 5) = false ∧ decide (con (.two o x y) = 4) = false := by cases o <;> exact ⟨rfl, rfl, rfl, rfl, rfl⟩
      obtain ⟨n1, n2, n3, n4, n5⟩ := ne
      have k1 := kid_ix (Φ := PD.call tb.G (n + d)) (cs := []) (sl := [some (.d (enc (.two o x y))), some (.d dd), some (.d (.str (wd (.two o x y)))), none, none, none]) (i := 0) (u := .two o x y) (k := 0) rfl rfl rfl
      have k2 := kid_ix (Φ := PD.call tb.G (n + d)) (cs := []) (sl := [some (.d (enc (.two o x y))), some (.d dd), some (.d (.str (wd (.two o x y)))), some (.d (val r x).d), none, none]) (i := 0) (u := .two o x y) (k := 1) rfl rfl rfl
      have qa := q_call (G := tb.G) (es2 k1 (q_get (i := 1) rfl)) (callW2 (cs := []) (ih x (by omega) _ ho.1 h1 n))
      have qb := q_call (G := tb.G) (es2 k2 (q_get (i := 1) rfl)) (callW2 (cs := []) (ih y (by omega) _ ho.2 h2 n))
      refine t_ifF ((e1 _ _ _).trans (by rw [n1])) (t_ifF ((e2 _ _ _).trans (by rw [n2])) (t_ifF ((e3 _ _ _).trans (by rw [n3])) (t_ifF ((e4 _ _ _).trans (by rw [n4])) (t_asg [some (.d (enc (.two o x y))), some (.d dd), some (.d (.str (wd (.two o x y)))), some (.d (val r x).d), none, none] qa (t_ifF ((e5 _ _ _).trans (by rw [n5])) (t_asg [some (.d (enc (.two o x y))), some (.d dd), some (.d (.str (wd (.two o x y)))), some (.d (val r x).d), some (.d (val r y).d), none] qb ?_))))))
      show RetS tb.G _ _ _ _ (.d (op2 o (val r x) (val r y)).d) _
      generalize val r x = u at *
      generalize val r y = v at *
      cases o with
      | and_ =>
        obtain ⟨p, rfl⟩ := vok_t v1
        obtain ⟨q, rfl⟩ := vok_t v2
        refine t_ifF (e6 _ _ _) (t_ifF (e7 _ _ _) (t_ret (q_ifeT (eb _ _ _) ?_)))
        cases p <;> cases q <;> rfl
      | or_ =>
        obtain ⟨p, rfl⟩ := vok_t v1
        obtain ⟨q, rfl⟩ := vok_t v2
        refine t_ifF (e6 _ _ _) (t_ifF (e7 _ _ _) (t_ret (q_ifeF (eb _ _ _) ?_)))
        cases p <;> cases q <;> rfl
      | same =>
        obtain ⟨p, rfl, _⟩ := vok_n v1
        obtain ⟨q, rfl, _⟩ := vok_n v2
        exact t_ifF (e6 _ _ _) (t_ifR (e7 _ _ _) (q_ifeT (ea _ _ _) (q_eqE (a := .int p) (b := .int q) rfl rfl rfl rfl)))
      | less =>
        obtain ⟨p, rfl, _⟩ := vok_n v1
        obtain ⟨q, rfl, _⟩ := vok_n v2
        exact t_ifF (e6 _ _ _) (t_ifR (e7 _ _ _) (q_ifeF (ea _ _ _) rfl))
      | plus =>
        obtain ⟨p, rfl, p1, p2⟩ := vok_n v1
        obtain ⟨q, rfl, q1, q2⟩ := vok_n v2
        exact t_ifB (e6 _ _ _) (t_asg _ (x := .d (.int (p + q))) (q_ifeT (e8 _ _ _) rfl) (t_ret (q_modE (q_get rfl) rfl (by decide))))
      | minus =>
        obtain ⟨p, rfl, p1, p2⟩ := vok_n v1
        obtain ⟨q, rfl, q1, q2⟩ := vok_n v2
        exact t_ifB (e6 _ _ _) (t_asg _ (x := .d (.int (p - q))) (q_ifeF (e8 _ _ _) (q_ifeT (e9 _ _ _) rfl)) (t_ret (q_modE (q_get rfl) rfl (by decide))))
      | times =>
        obtain ⟨p, rfl, p1, p2⟩ := vok_n v1
        obtain ⟨q, rfl, q1, q2⟩ := vok_n v2
        refine t_ifB (e6 _ _ _) (t_asg _ (x := .d (.int (p * q))) (q_ifeF (e8 _ _ _) (q_ifeF (e9 _ _ _) ?_)) (t_ret (q_modE (q_get rfl) rfl (by decide))))
        refine q_op2 (dx := .int p) (dy := .int q) rfl rfl rfl rfl ?_
        show arith .mul p q = _
        exact a_mul (a := 10) (b := 10) (by omega) (by omega)
end Lw
set_option Elab.async false
set_option linter.all false
set_option maxRecDepth 100000
set_option maxHeartbeats 4000000
set_option exponentiation.threshold 300
namespace Lw
open PySem PySem.Spec PyProof.Rows L2 PD PL NumText
theorem t_step {G : Pg} {Φ : Nat → List PD.W → List M → Rs PD.W} {s : S} {rest : List S} {sl sl1 : Sl} {cs cs1 cs' : List M} {w : PD.W} (h : evS G Φ s sl cs = .ok .nx sl1 cs1) (h2 : RetS G Φ rest sl1 cs1 w cs') : RetS G Φ (s :: rest) sl cs w cs' := by
  obtain ⟨sl', h2⟩ := h2
  exact ⟨sl', by rw [eSs_cons, h]; exact h2⟩
def jnT : List S := [.ite (.or_ (.op .eq [.v 1, .v 3]) (.op .eq [.v 2, .v 3])) [.ret (.v 3)] [], .ite (.op .eq [.v 1, .v 4]) [.ret (.v 2)] [], .ret (.ife (.op .eq [.v 2, .v 4]) (.v 1) (.tup [.v 0, .v 1, .v 2]))]
theorem jnT_ok (n : Nat) (o : Op2) (e k x y : Tr) (de : e.dp ≤ 60) (dk : k.dp ≤ 60) (hx : x.dp ≤ 60) (hy : y.dp ≤ 60) : RetS tb.G (PD.call tb.G n) jnT [some (.d (.str o.w)), some (.d (enc x)), some (.d (enc y)), some (.d (enc e)), some (.d (enc k))] [] (.d (enc (jn o e k x y))) [] := by
  have e1 : evE tb.G (PD.call tb.G n) (.op .eq [.v 1, .v 3]) [some (.d (.str o.w)), some (.d (enc x)), some (.d (enc y)), some (.d (enc e)), some (.d (enc k))] [] = .ok (.d (.bl (decide (x = e)))) [] := q_enc rfl rfl hx de
  have e2 : evE tb.G (PD.call tb.G n) (.op .eq [.v 2, .v 3]) [some (.d (.str o.w)), some (.d (enc x)), some (.d (enc y)), some (.d (enc e)), some (.d (enc k))] [] = .ok (.d (.bl (decide (y = e)))) [] := q_enc rfl rfl hy de
  have e3 : evE tb.G (PD.call tb.G n) (.op .eq [.v 1, .v 4]) [some (.d (.str o.w)), some (.d (enc x)), some (.d (enc y)), some (.d (enc e)), some (.d (enc k))] [] = .ok (.d (.bl (decide (x = k)))) [] := q_enc rfl rfl hx dk
  have e4 : evE tb.G (PD.call tb.G n) (.op .eq [.v 2, .v 4]) [some (.d (.str o.w)), some (.d (enc x)), some (.d (enc y)), some (.d (enc e)), some (.d (enc k))] [] = .ok (.d (.bl (decide (y = k)))) [] := q_enc rfl rfl hy dk
  unfold jn
  by_cases c1 : x = e
  · rw [if_pos (.inl c1)]
    rw [decide_eq_true c1] at e1
    exact t_ifR (q_orT e1) rfl
  rw [decide_eq_false c1] at e1
  by_cases c2 : y = e
  · rw [if_pos (.inr c2)]
    rw [decide_eq_true c2] at e2
    exact t_ifR (q_orF e1 e2) rfl
  rw [if_neg fun q => q.elim c1 c2]
  rw [decide_eq_false c2] at e2
  refine t_ifF (q_orF e1 e2) ?_
  by_cases c3 : x = k
  · rw [if_pos c3]
    rw [decide_eq_true c3] at e3
    exact t_ifR e3 rfl
  rw [if_neg c3]
  rw [decide_eq_false c3] at e3
  refine t_ifF e3 (t_ret ?_)
  by_cases c4 : y = k
  · rw [if_pos c4]
    rw [decide_eq_true c4] at e4
    exact q_ifeT e4 rfl
  · rw [if_neg c4]
    rw [decide_eq_false c4] at e4
    exact q_ifeF e4 rfl
theorem jand_ok (n : Nat) (x y : Tr) (hx : x.dp ≤ 60) (hy : y.dp ≤ 60) : PD.call tb.G (n + 1) 15 [.d (.str "and"), .d (enc x), .d (enc y)] [] = .ok (.d (enc (jn .and_ .no .yes x y))) [] := by
  rw [call_at (np := 3) (ns := 5) (b := b15) rfl]
  refine t_run [some (.d (.str "and")), some (.d (enc x)), some (.d (enc y)), none, none] (t_step (sl1 := [some (.d (.str "and")), some (.d (enc x)), some (.d (enc y)), some (.d (enc .no)), some (.d (enc .yes))]) (cs1 := []) ?_ (jnT_ok n .and_ .no .yes x y (by decide) (by decide) hx hy))
  have e : evE tb.G (PD.call tb.G n) (.op .eq [.v 0, .c (.str "and")]) [some (.d (.str "and")), some (.d (enc x)), some (.d (enc y)), none, none] [] = .ok (.d (.bl true)) [] := by
    rw [q_eqS (w := "and") rfl, show (("and" : Str) == "and") = true by decide +kernel]
  rw [eS_asg, q_ifeT (w := .d (.lst [enc .no, enc .yes])) e rfl, SR.of_ok]
  simp
theorem jor_ok (n : Nat) (x y : Tr) (hx : x.dp ≤ 60) (hy : y.dp ≤ 60) : PD.call tb.G (n + 1) 15 [.d (.str "or"), .d (enc x), .d (enc y)] [] = .ok (.d (enc (jn .or_ .yes .no x y))) [] := by
  rw [call_at (np := 3) (ns := 5) (b := b15) rfl]
  refine t_run [some (.d (.str "or")), some (.d (enc x)), some (.d (enc y)), none, none] (t_step (sl1 := [some (.d (.str "or")), some (.d (enc x)), some (.d (enc y)), some (.d (enc .yes)), some (.d (enc .no))]) (cs1 := []) ?_ (jnT_ok n .or_ .yes .no x y (by decide) (by decide) hx hy))
  have e : evE tb.G (PD.call tb.G n) (.op .eq [.v 0, .c (.str "and")]) [some (.d (.str "or")), some (.d (enc x)), some (.d (enc y)), none, none] [] = .ok (.d (.bl false)) [] := by
    rw [q_eqS (w := "or") rfl, show (("or" : Str) == "and") = false by decide +kernel]
  rw [eS_asg, q_ifeF (w := .d (.lst [enc .yes, enc .no])) e rfl, SR.of_ok]
  simp
theorem filter_all (p : Tr → Bool) : ∀ l : List Tr, (l.filter fun a => !p a).isEmpty = l.all p
  | [] => rfl
  | a :: l => by
    rw [List.filter_cons, List.all_cons, ← filter_all p l]
    cases p a <;> rfl
theorem plain_encs (l : List Tr) (h : ∀ t ∈ l, t.dp ≤ 50) : plainD (.lst (l.map enc)) = true := by
  have p : ∀ l : List Tr, (∀ t ∈ l, t.dp ≤ 50) → PyData.plainAll (pys (l.map enc)) = true ∧ PyData.depthAll (pys (l.map enc)) ≤ 50 := fun l => by
    induction l with
    | nil => intro _; exact ⟨rfl, Nat.zero_le _⟩
    | cons a r ih =>
      intro h
      obtain ⟨i1, i2⟩ := ih fun t ht => h t (List.mem_cons_of_mem _ ht)
      have q := enc_pl a
      have qa := h a List.mem_cons_self
      refine ⟨?_, ?_⟩
      · show ((py (enc a)).plain && PyData.plainAll (pys (r.map enc))) = true
        rw [q.1, i1]; rfl
      · show max (py (enc a)).depth (PyData.depthAll (pys (r.map enc))) ≤ 50
        have := q.2
        omega
  obtain ⟨p1, p2⟩ := p l h
  show (PyData.plainAll (pys (l.map enc)) && decide (PyData.depthAll (pys (l.map enc)) + 1 ≤ 60)) = true
  rw [p1, decide_eq_true (by omega)]
  rfl
theorem lfold_ok (k : List Nat → Option Bool) : ∀ (d : Nat) (t : Tr), t.dp ≤ d → ∀ b, t.ok → kind k t = some b → t.dp ≤ 9 → ∀ n, PD.call tb.G (n + d + 12) 7 [.d (enc t)] [] = .ok (.d (enc (fold t))) [] := by
  intro d
  induction d with
  | zero => intro t ht; have := dp_pos t; omega
  | succ d ih =>
    intro t ht b ho hk hd n
    rw [show n + (d + 1) + 12 = (n + d + 12) + 1 from by omega, call_at (np := 1) (ns := 3) (b := b7) rfl]
    refine t_run [some (.d (enc t)), none, none] ?_
    have e1 := q_inL (Φ := PD.call tb.G (n + d + 12)) (cs := []) ["num", "yes", "no", "box"] (wd_ix (sl := [some (.d (enc t)), none, none]) (i := 0) (t := t) rfl) (by decide)
    rw [wdT (fun w => (["num", "yes", "no", "box"] : List Str).any (· == w)) (fun c => decide (c < 4)) (by decide +kernel) t] at e1
    have li : decide (con t < 4) = !inner t := by
      cases t with
      | two o _ _ => cases o <;> rfl
      | _ => rfl
    rw [li] at e1
    cases hi : inner t with
    | false =>
      rw [hi] at e1
      rw [fold_leaf hi]
      exact t_ifR e1 rfl
    | true =>
      rw [hi] at e1
      refine t_ifF e1 ?_
      have hm := kids_map (Φ := PD.call tb.G (n + d + 12)) 7 2 (fun u => enc (fold u)) t hi [some (.d (enc t)), none, none] rfl (fun d => ⟨[some (.d (enc t)), none, some (.d d)], rfl, rfl⟩) fun u hu => by
        obtain ⟨h1, ⟨b', h2⟩, h3, h4⟩ := kid_facts ho hk u hu
        exact ih u (by omega) b' h1 h2 (by omega) n
      refine t_asg [some (.d (enc t)), some (.d (.lst ((kids t).map fun u => enc (fold u)))), none] hm ?_
      obtain ⟨m1, m2, m3, m4⟩ := map_keeps ho hk
      have hku : kids (mapK fold t) = (kids t).map fold := mapK_kids fold hi
      have fs : ∀ u ∈ kids t, (fold u).dp ≤ 8 := fun u hu => by
        obtain ⟨h1, ⟨b', h2⟩, h3, h4⟩ := kid_facts ho hk u hu
        have := (fold_keeps u b' h1 h2).dp
        omega
      have em : ((kids t).map fun u => enc (fold u)) = ((kids t).map fold).map enc := by rw [List.map_map]; rfl
      -- all of them values?
      have cmp : evE tb.G (PD.call tb.G (n + d + 12)) (.comp false [2] (.n 2) .seq [.v 1] [.not_ (.call 13 [.v 2])] (.v 2)) [some (.d (enc t)), some (.d (.lst ((kids t).map fun u => enc (fold u)))), none] [] = .ok (.d (.lst ((((kids t).map fold).filter fun a => !atom a).map enc))) [] := by
        rw [em, eE_comp, es1 (q_get rfl), Rs.bind_ok]
        show (compL _ (((kids t).map fold).map enc) [] []).bind _ = _
        rw [comp_filter (fun a => !atom a) enc ((kids t).map fold) [] fun a _ => ?_]
        · rfl
        · show ((evC tb.G (PD.call tb.G (n + d + 12)) [.not_ (.call 13 [.v 2])] [some (.d (enc t)), some (.d (.lst (((kids t).map fold).map enc))), some (.d (enc a))] []).bind _ : Rs (Option D)) = _
          rw [eC_cons, q_not (q_call (es1 (q_get rfl)) (callW1 (isa (n + d + 11) a)))]
          cases atom a <;> rfl
      have eq0 := q_eqE cmp (e2 := .lst []) (b := .lst []) rfl (plain_encs _ fun u hu => by
        obtain ⟨v, hv, rfl⟩ := List.mem_map.mp (List.mem_filter.mp hu).1
        exact Nat.le_trans (fs v hv) (by decide)) rfl
      have ei : eqD (.lst ((((kids t).map fold).filter fun a => !atom a).map enc)) (.lst []) = ((kids t).map fold).all atom := by
        rw [← filter_all]
        cases ((kids t).map fold).filter fun a => !atom a <;> rfl
      rw [ei] at eq0
      rw [fold_part hi]
      by_cases ha : ((kids t).map fold).all atom = true
      · rw [ha] at eq0
        have ha2 : (kids (mapK fold t)).all atom = true := by rw [hku]; exact ha
        refine t_ifR eq0 ?_
        rw [part_atoms ha2 (mapK_inner fold hi)]
        have lv := lv_ok (fun _ => none) r0 (env0 _ fun _ => rfl) (.dct [] []) ⟨[], [], rfl, fun l b h => nomatch h⟩ 9 (mapK fold t) (by omega) b m1 (k0_kids ha2 (mapK_inner fold hi) m2) (n + d + 3)
        exact q_call (es1 (q_call (es2 (q_rebuild fold hi rfl (q_get rfl)) rfl) (callW2 lv))) (callW1 (as_tree_ok (n + d + 11) _))
      have hf : ((kids t).map fold).all atom = false := by simpa using ha
      rw [hf] at eq0
      refine t_ifF eq0 ?_
      have ha2 : ¬ (kids (mapK fold t)).all atom = true := by rw [hku]; exact ha
      have e2 := q_inL (Φ := PD.call tb.G (n + d + 12)) (cs := []) ["and", "or"] (wd_ix (sl := [some (.d (enc t)), some (.d (.lst ((kids t).map fun u => enc (fold u)))), none]) (i := 0) (t := t) rfl) (by decide)
      rw [wdT (fun w => (["and", "or"] : List Str).any (· == w)) (fun c => decide (c = 11 ∨ c = 12)) (by decide +kernel) t] at e2
      have e3 := eqw (Φ := PD.call tb.G (n + d + 12)) (cs := []) (sl := [some (.d (enc t)), some (.d (.lst ((kids t).map fun u => enc (fold u)))), none]) (i := 0) (t := t) "pick" 5 w_pick rfl
      have e4 := eqw (Φ := PD.call tb.G (n + d + 12)) (cs := []) (sl := [some (.d (enc t)), some (.d (.lst ((kids t).map fun u => enc (fold u)))), none]) (i := 0) (t := t) "not" 4 w_not rfl
      have reb := q_rebuild (Φ := PD.call tb.G (n + d + 12)) (cs := []) (sl := [some (.d (enc t)), some (.d (.lst ((kids t).map fun u => enc (fold u)))), none]) fold hi rfl (q_get (i := 1) rfl)
      cases t with
      | nt x =>
        have i1 : evE tb.G (PD.call tb.G (n + d + 12)) (.op .ix [.v 1, .c (.int 0)]) [some (.d (enc (.nt x))), some (.d (.lst ((kids (.nt x)).map fun u => enc (fold u)))), none] [] = .ok (.d (enc (fold x))) [] := ixL rfl (at0 _ _)
        have nx : atom (fold x) ≠ true := fun q => ha (by simp [kids, q])
        have e5 : evE tb.G (PD.call tb.G (n + d + 12)) (.op .eq [.op .ix [.op .ix [.v 1, .c (.int (0))], .c (.int (0))], .c (.str "not")]) [some (.d (enc (.nt x))), some (.d (.lst ((kids (.nt x)).map fun u => enc (fold u)))), none] [] = .ok (.d (.bl (decide (con (fold x) = 4)))) [] := by
          rw [← wdT (fun w => w == ("not" : Str)) (fun c => decide (c = 4)) w_not (fold x)]
          refine q_eqS (q_op2 (dx := enc (fold x)) (dy := .int 0) i1 rfl rfl rfl ?_)
          rw [enc_form]
          show atI _ 0 = _
          exact at0 _ _
        refine t_ifF e2 (t_ifF (q_andF e3) (t_ifF (q_andF e3) ?_))
        have e6 := q_andT e4 e5
        show RetS tb.G _ _ _ _ (.d (enc (part (.nt (fold x))))) _
        rw [show part (.nt (fold x)) = ntn (fold x) from if_neg nx]
        have reb : evE tb.G (PD.call tb.G (n + d + 12)) _ _ [] = .ok (.d (enc (.nt (fold x)))) [] := reb
        generalize fold x = z at *
        cases z with
        | nt y =>
          refine t_ifR e6 ?_
          refine q_op2 (dx := enc (.nt y)) (dy := .int 1) i1 rfl rfl rfl ?_
          show atI [.str "not", enc y] 1 = _
          exact at1 _ _ _
        | two o p q => cases o <;> exact t_ifF e6 (t_ret reb)
        | box l => exact t_ifF e6 (t_ret reb)
        | pick p q r => exact t_ifF e6 (t_ret reb)
        | _ => exact absurd rfl nx
      | two o x y =>
        have i1 : evE tb.G (PD.call tb.G (n + d + 12)) (.op .ix [.v 1, .c (.int 0)]) [some (.d (enc (.two o x y))), some (.d (.lst ((kids (.two o x y)).map fun u => enc (fold u)))), none] [] = .ok (.d (enc (fold x))) [] := ixL rfl (at0 _ _)
        have i2 : evE tb.G (PD.call tb.G (n + d + 12)) (.op .ix [.v 1, .c (.int 1)]) [some (.d (enc (.two o x y))), some (.d (.lst ((kids (.two o x y)).map fun u => enc (fold u)))), none] [] = .ok (.d (enc (fold y))) [] := ixL rfl (at1 _ _ _)
        have d1 := fs x (by simp [kids])
        have d2 := fs y (by simp [kids])
        have nx : ¬ (atom (fold x) = true ∧ atom (fold y) = true) := fun q => ha (by simp [kids, q.1, q.2])
        have w0 := fun o' : Op2 => wd_ix (Φ := PD.call tb.G (n + d + 12)) (cs := []) (sl := [some (.d (enc (.two o' x y))), some (.d (.lst ((kids (.two o' x y)).map fun u => enc (fold u)))), none]) (i := 0) (t := .two o' x y) rfl
        cases o with
        | and_ =>
          show RetS tb.G _ _ _ _ (.d (enc (part (.two .and_ (fold x) (fold y))))) _
          rw [show part (.two .and_ (fold x) (fold y)) = jn .and_ .no .yes (fold x) (fold y) from if_neg nx]
          exact t_ifR e2 (q_call (es_cons (w0 _) (es2 i1 i2)) (callW_d (ds := [.str "and", enc (fold x), enc (fold y)]) rfl (jand_ok (n + d + 11) _ _ (by omega) (by omega))))
        | or_ =>
          show RetS tb.G _ _ _ _ (.d (enc (part (.two .or_ (fold x) (fold y))))) _
          rw [show part (.two .or_ (fold x) (fold y)) = jn .or_ .yes .no (fold x) (fold y) from if_neg nx]
          exact t_ifR e2 (q_call (es_cons (w0 _) (es2 i1 i2)) (callW_d (ds := [.str "or", enc (fold x), enc (fold y)]) rfl (jor_ok (n + d + 11) _ _ (by omega) (by omega))))
        | plus => rw [show part (mapK fold (.two .plus x y)) = mapK fold (.two .plus x y) from if_neg nx]; exact t_ifF e2 (t_ifF (q_andF e3) (t_ifF (q_andF e3) (t_ifF (q_andF e4) (t_ret reb))))
        | minus => rw [show part (mapK fold (.two .minus x y)) = mapK fold (.two .minus x y) from if_neg nx]; exact t_ifF e2 (t_ifF (q_andF e3) (t_ifF (q_andF e3) (t_ifF (q_andF e4) (t_ret reb))))
        | times => rw [show part (mapK fold (.two .times x y)) = mapK fold (.two .times x y) from if_neg nx]; exact t_ifF e2 (t_ifF (q_andF e3) (t_ifF (q_andF e3) (t_ifF (q_andF e4) (t_ret reb))))
        | same => rw [show part (mapK fold (.two .same x y)) = mapK fold (.two .same x y) from if_neg nx]; exact t_ifF e2 (t_ifF (q_andF e3) (t_ifF (q_andF e3) (t_ifF (q_andF e4) (t_ret reb))))
        | less => rw [show part (mapK fold (.two .less x y)) = mapK fold (.two .less x y) from if_neg nx]; exact t_ifF e2 (t_ifF (q_andF e3) (t_ifF (q_andF e3) (t_ifF (q_andF e4) (t_ret reb))))
      | pick a x y =>
        have i1 : evE tb.G (PD.call tb.G (n + d + 12)) (.op .ix [.v 1, .c (.int 0)]) [some (.d (enc (.pick a x y))), some (.d (.lst ((kids (.pick a x y)).map fun u => enc (fold u)))), none] [] = .ok (.d (enc (fold a))) [] := ixL rfl (at0 _ _)
        have i2 : evE tb.G (PD.call tb.G (n + d + 12)) (.op .ix [.v 1, .c (.int 1)]) [some (.d (enc (.pick a x y))), some (.d (.lst ((kids (.pick a x y)).map fun u => enc (fold u)))), none] [] = .ok (.d (enc (fold x))) [] := ixL rfl (at1 _ _ _)
        have i3 : evE tb.G (PD.call tb.G (n + d + 12)) (.op .ix [.v 1, .c (.int 2)]) [some (.d (enc (.pick a x y))), some (.d (.lst ((kids (.pick a x y)).map fun u => enc (fold u)))), none] [] = .ok (.d (enc (fold y))) [] := ixL rfl (at2 _ _ _ _)
        have d0 := fs a (by simp [kids])
        have d1 := fs x (by simp [kids])
        have d2 := fs y (by simp [kids])
        have nx : ¬ (atom (fold a) = true ∧ atom (fold x) = true ∧ atom (fold y) = true) := fun q => ha (by simp [kids, q.1, q.2.1, q.2.2])
        have q1 := q_enc (b := .tup [.c (.str "yes")]) (y := .yes) i1 rfl (by omega) (by decide)
        have q2 := q_enc i2 i3 (by omega) (by omega)
        have q3 := q_enc (b := .tup [.c (.str "no")]) (y := .no) i1 rfl (by omega) (by decide)
        refine t_ifF e2 ?_
        show RetS tb.G _ _ _ _ (.d (enc (part (.pick (fold a) (fold x) (fold y))))) _
        rw [show part (.pick (fold a) (fold x) (fold y)) = pkT (fold a) (fold x) (fold y) from if_neg nx]
        unfold pkT
        by_cases c1 : fold a = .yes
        · rw [if_pos (.inl c1)]
          rw [decide_eq_true c1] at q1
          exact t_ifR (q_andT e3 (q_orT q1)) i2
        rw [decide_eq_false c1] at q1
        by_cases c2 : fold x = fold y
        · rw [if_pos (.inr c2)]
          rw [decide_eq_true c2] at q2
          exact t_ifR (q_andT e3 (q_orF q1 q2)) i2
        rw [if_neg fun q => q.elim c1 c2]
        rw [decide_eq_false c2] at q2
        refine t_ifF (q_andT e3 (q_orF q1 q2)) ?_
        by_cases c3 : fold a = .no
        · rw [if_pos c3]
          rw [decide_eq_true c3] at q3
          exact t_ifR (q_andT e3 q3) i3
        · rw [if_neg c3]
          rw [decide_eq_false c3] at q3
          exact t_ifF (q_andT e3 q3) (t_ifF (q_andF e4) (t_ret reb))
      | _ => cases hi
end Lw
set_option Elab.async false
set_option linter.all false
set_option maxRecDepth 100000
set_option maxHeartbeats 4000000
set_option exponentiation.threshold 300
namespace Lw
open PySem PySem.Spec PyProof.Rows L2 PD PL NumText
theorem dput_fresh {k : Key} {v : D} : ∀ {ks : List Key} {vs : List D}, ks.length = vs.length → k ∉ ks → dput ks vs k v = (ks ++ [k], vs ++ [v])
  | ks, vs, hl, hn => by
    unfold dput
    rw [if_neg (by
      rw [List.any_eq_true]
      rintro ⟨x, hx, e⟩
      exact hn (by rw [← of_decide_eq_true e]; exact hx))]
theorem dmerge_fresh : ∀ (ps : List (Key × D)) (ks : List Key) (vs : List D), ks.length = vs.length → (ks ++ ps.map (·.1)).Nodup → dmerge ks vs ps = (ks ++ ps.map (·.1), vs ++ ps.map (·.2))
  | [], ks, vs, _, _ => by simp [dmerge]
  | (k, v) :: ps, ks, vs, hl, hn => by
    have hk : k ∉ ks := fun hk => by
      have := (List.nodup_append.mp hn).2.2
      exact this k hk k (by simp) rfl
    show dmerge (dput ks vs k v).1 (dput ks vs k v).2 ps = _
    rw [dput_fresh hl hk, dmerge_fresh ps _ _ (by simp [hl]) (by simpa using hn)]
    simp
def lk : List (List Nat) → List Vl → List Nat → Vl
  | a :: r, v :: s, l => if l = a then v else lk r s l
  | _, _, _ => .n 0
def A2 : List Bool → List Vl → Prop
  | [], [] => True
  | b :: bs, v :: vs => VOk b v ∧ A2 bs vs
  | _, _ => False
theorem env_kap : ∀ (ls : List (List Nat)) (bs : List Bool) (vs : List Vl), A2 bs vs → ∀ l b, kap ls bs l = some b → VOk b (lk ls vs l)
  | [], bs, vs, _, l, b, h => by cases bs <;> cases h
  | a :: r, [], vs, _, l, b, h => by cases h
  | a :: r, b0 :: bs, [], h2, l, b, h => h2.elim
  | a :: r, b0 :: bs, v :: vs, h2, l, b, h => by
    have h : (if l = a then some b0 else kap r bs l) = some b := h
    show VOk b (if l = a then v else lk r vs l)
    by_cases c : l = a
    · rw [if_pos c] at h ⊢; cases h; exact h2.1
    · rw [if_neg c] at h ⊢; exact env_kap r bs vs h2.2 l b h
theorem dget_lk : ∀ (ls : List (List Nat)) (bs : List Bool) (vs : List Vl), A2 bs vs → ∀ l b, kap ls bs l = some b → dget (ls.map nk) (vs.map Vl.d) (nk l) = some (lk ls vs l).d
  | [], bs, vs, _, l, b, h => by cases bs <;> cases h
  | a :: r, [], vs, _, l, b, h => by cases h
  | a :: r, b0 :: bs, [], h2, l, b, h => h2.elim
  | a :: r, b0 :: bs, v :: vs, h2, l, b, h => by
    have h : (if l = a then some b0 else kap r bs l) = some b := h
    show (if nk l = nk a then some v.d else dget (r.map nk) (vs.map Vl.d) (nk l)) = some (if l = a then v else lk r vs l).d
    by_cases c : l = a
    · rw [if_pos c, if_pos (by rw [c])]
    · rw [if_neg c] at h
      rw [if_neg c, if_neg fun z => c (nk_inj z)]
      exact dget_lk r bs vs h2.2 l b h
def pairsD : List (List Nat) → List Vl → List D
  | l :: ls, v :: vs => .tup [.str (mk l), v.d] :: pairsD ls vs
  | _, _ => []
def pairsK : List (List Nat) → List Vl → List (Key × D)
  | l :: ls, v :: vs => (nk l, v.d) :: pairsK ls vs
  | _, _ => []
theorem pairs_of : ∀ (ls : List (List Nat)) (vs : List Vl), pairsOf (pairsD ls vs) = some (pairsK ls vs)
  | [], vs => by cases vs <;> rfl
  | l :: ls, [] => rfl
  | l :: ls, v :: vs => by
    show (match keyOf (.str (mk l)), pairsOf (pairsD ls vs) with | some q, some r => some ((q, v.d) :: r) | _, _ => none) = _
    rw [pairs_of ls vs]
    rfl
theorem pairsK_fst : ∀ (ls : List (List Nat)) (vs : List Vl), ls.length = vs.length → (pairsK ls vs).map (·.1) = ls.map nk ∧ (pairsK ls vs).map (·.2) = vs.map Vl.d
  | [], [], _ => ⟨rfl, rfl⟩
  | [], _ :: _, h => by cases h
  | _ :: _, [], h => by cases h
  | l :: ls, v :: vs, h => by
    obtain ⟨a, b⟩ := pairsK_fst ls vs (by simpa using h)
    exact ⟨by show nk l :: _ = _; rw [a]; rfl, by show v.d :: _ = _; rw [b]; rfl⟩
theorem A2_rep {b : Bool} : ∀ {vs : List Vl} {n : Nat}, vs.length = n → (∀ v ∈ vs, VOk b v) → A2 (List.replicate n b) vs
  | [], 0, _, _ => trivial
  | [], _ + 1, h, _ => by cases h
  | _ :: _, 0, h, _ => by cases h
  | v :: vs, n + 1, h, hv => ⟨hv v List.mem_cons_self, A2_rep (by simpa using h) fun u hu => hv u (List.mem_cons_of_mem _ hu)⟩
theorem A2_app : ∀ {bs cs : List Bool} {us vs : List Vl}, A2 bs us → A2 cs vs → A2 (bs ++ cs) (us ++ vs)
  | [], cs, [], vs, _, h => h
  | [], _, _ :: _, _, h, _ => h.elim
  | _ :: _, _, [], _, h, _ => h.elim
  | b :: bs, cs, u :: us, vs, h, h2 => ⟨h.1, A2_app h.2 h2⟩
section
variable {Φ : Nat → List PD.W → List M → Rs PD.W}
theorem comp_mix {N o2 : Option PD.W} {X : E} {b : Bool} {r0 : List M} (hX : ∀ (l : List Nat) (m : M), St2 m → ∃ (v : Vl) (m' : M), evE tb.G Φ X [some (.c 0), N, o2, some (.d (.str (mk l)))] (m :: r0) = .ok (.d v.d) (m' :: r0) ∧ VOk b v ∧ St2 m') : ∀ (ls : List (List Nat)) (acc : List D) (m : M), St2 m →
    ∃ (vs : List Vl) (m' : M), compL (cF tb.G Φ [some (.c 0), N, o2, none] [3] (.n 3) [] (.tup [.v 3, X])) (ls.map fun l => .str (mk l)) acc (m :: r0) = .ok (acc ++ pairsD ls vs) (m' :: r0) ∧ vs.length = ls.length ∧ (∀ v ∈ vs, VOk b v) ∧ St2 m'
  | [], acc, m, hm => ⟨[], m, by show Rs.ok acc (m :: r0) = Rs.ok (acc ++ pairsD [] []) (m :: r0); rw [show pairsD [] [] = [] from by simp [pairsD], List.append_nil], rfl, fun _ h => absurd h List.not_mem_nil, hm⟩
  | l :: ls, acc, m, hm => by
    obtain ⟨v, m1, e, h1, h2⟩ := hX l m hm
    obtain ⟨vs, m', q, h3, h4, h5⟩ := comp_mix hX ls (acc ++ [.tup [.str (mk l), v.d]]) m1 h2
    refine ⟨v :: vs, m', ?_, by simp [h3], fun u hu => ?_, h5⟩
    · have st : cF tb.G Φ [some (.c 0), N, o2, none] [3] (.n 3) [] (.tup [.v 3, X]) (.str (mk l)) (m :: r0) = .ok (some (.tup [.str (mk l), v.d])) (m1 :: r0) := by
        show ((evE tb.G Φ (.tup [.v 3, X]) [some (.c 0), N, o2, some (.d (.str (mk l)))] (m :: r0)).bind _ : Rs (Option D)) = _
        rw [eE_tup, es2 (q_get rfl) e]
        rfl
      rw [List.map_cons, compL_c, st]
      dsimp only
      rw [show (some (D.tup [.str (mk l), v.d])).toList = [.tup [.str (mk l), v.d]] from rfl, q]
      show Rs.ok (acc ++ [_] ++ _) _ = Rs.ok (acc ++ (_ :: _)) _
      rw [List.append_assoc]
      rfl
    · rcases List.mem_cons.mp hu with rfl | hu
      · exact h1
      · exact h4 u hu
end
abbrev K6 (n6 : List (List Nat)) : List Nat → Option Bool := kap n6 [false, false, false, true, true, true]
theorem boxes_ok (n : Nat) (l0 l1 l2 l3 l4 l5 : List Nat) (hnd : [l0, l1, l2, l3, l4, l5].Nodup) (m : M) (hm : St2 m) :
    ∃ (dd : D) (r : List Nat → Vl) (m' : M) (ms : List M), PD.call tb.G (n + 3) 8 [.c 0, .d (.lst ([l0, l1, l2, l3, l4, l5].map fun l => .str (mk l)))] [m] = .ok (.d dd) (m' :: ms) ∧ St2 m' ∧ Env (K6 [l0, l1, l2, l3, l4, l5]) r ∧ VD (K6 [l0, l1, l2, l3, l4, l5]) r dd := by
  rw [show n + 3 = (n + 2) + 1 from rfl, call_at (np := 2) (ns := 4) (b := b8) rfl]
  have hx1 : ∀ (o2 : Option PD.W) (r0 : List M) (l : List Nat) (m : M), St2 m → ∃ (v : Vl) (m' : M), evE tb.G (PD.call tb.G (n + 2)) (.op .mod [.call I.f_mix2 [.v 0, .c (.int (0))], .c (.int (16))]) [some (.c 0), some (.d (.lst ([l0, l1, l2, l3, l4, l5].map fun l => .str (mk l)))), o2, some (.d (.str (mk l)))] (m :: r0) = .ok (.d v.d) (m' :: r0) ∧ VOk false v ∧ St2 m' := fun o2 r0 l m hm => by
    obtain ⟨r, m', e, a1, a2, a3⟩ := q_mm (G := tb.G) (I := I) rfl (n + 1) (sl := [some (.c 0), some (.d (.lst ([l0, l1, l2, l3, l4, l5].map fun l => .str (mk l)))), o2, some (.d (.str (mk l)))]) (cs := m :: r0) (i := 0) rfl rfl hm 16 (by decide)
    exact ⟨.n r, m', e, ⟨a2, by omega⟩, a1⟩
  have hx2 : ∀ (o2 : Option PD.W) (r0 : List M) (l : List Nat) (m : M), St2 m → ∃ (v : Vl) (m' : M), evE tb.G (PD.call tb.G (n + 2)) (.op .eq [.op .mod [.call I.f_mix2 [.v 0, .c (.int (0))], .c (.int (2))], .c (.int (1))]) [some (.c 0), some (.d (.lst ([l0, l1, l2, l3, l4, l5].map fun l => .str (mk l)))), o2, some (.d (.str (mk l)))] (m :: r0) = .ok (.d v.d) (m' :: r0) ∧ VOk true v ∧ St2 m' := fun o2 r0 l m hm => by
    obtain ⟨r, m', e, a1, a2, a3⟩ := q_mm (G := tb.G) (I := I) rfl (n + 1) (sl := [some (.c 0), some (.d (.lst ([l0, l1, l2, l3, l4, l5].map fun l => .str (mk l)))), o2, some (.d (.str (mk l)))]) (cs := m :: r0) (i := 0) rfl rfl hm 2 (by decide)
    refine ⟨.b (r == 1), m', q_op2 (dx := .int r) (dy := .int 1) e rfl rfl rfl ?_, trivial, a1⟩
    rw [s_eq rfl rfl]
    rfl
  obtain ⟨us, m1, q1, u1, u2, hm1⟩ := comp_mix (o2 := none) (r0 := []) (hx1 none []) [l0, l1, l2] [] m hm
  obtain ⟨vs, m2, q2, v1, v2, hm2⟩ := comp_mix (o2 := some (.c 1)) (r0 := [.dct ([l0, l1, l2].map nk) (us.map Vl.d)]) (hx2 (some (.c 1)) _) [l3, l4, l5] [] m1 hm1
  have hn1 : ([l0, l1, l2].map nk).Nodup := List.pairwise_map.mpr ((hnd.sublist (List.sublist_append_left [l0, l1, l2] [l3, l4, l5])).imp fun h e => h (nk_inj e))
  have hn2 : ([l3, l4, l5].map nk).Nodup := List.pairwise_map.mpr ((hnd.sublist (List.sublist_append_right [l0, l1, l2] [l3, l4, l5])).imp fun h e => h (nk_inj e))
  have hn3 : ([l0, l1, l2].map nk ++ [l3, l4, l5].map nk).Nodup := by
    have : ([l0, l1, l2, l3, l4, l5].map nk).Nodup := List.pairwise_map.mpr (hnd.imp fun h e => h (nk_inj e))
    exact this
  have d1 : dictOfD (.lst (pairsD [l0, l1, l2] us)) = some (.dct ([l0, l1, l2].map nk) (us.map Vl.d)) := by
    show (match pairsOf (pairsD [l0, l1, l2] us) with | some ps => some (D.dct (dmerge [] [] ps).1 (dmerge [] [] ps).2) | none => none) = _
    obtain ⟨p1, p2⟩ := pairsK_fst [l0, l1, l2] us (by rw [u1])
    rw [pairs_of]
    dsimp only
    rw [dmerge_fresh _ [] [] rfl (by rw [p1]; exact hn1), p1, p2]
    rfl
  have d2 : dictOfD (.lst (pairsD [l3, l4, l5] vs)) = some (.dct ([l3, l4, l5].map nk) (vs.map Vl.d)) := by
    show (match pairsOf (pairsD [l3, l4, l5] vs) with | some ps => some (D.dct (dmerge [] [] ps).1 (dmerge [] [] ps).2) | none => none) = _
    obtain ⟨p1, p2⟩ := pairsK_fst [l3, l4, l5] vs (by rw [v1])
    rw [pairs_of]
    dsimp only
    rw [dmerge_fresh _ [] [] rfl (by rw [p1]; exact hn2), p1, p2]
    rfl
  have zip1 : (([l3, l4, l5].map nk).zip (vs.map Vl.d)).map (·.1) = [l3, l4, l5].map nk := List.map_fst_zip (by simp [v1])
  have zip2 : (([l3, l4, l5].map nk).zip (vs.map Vl.d)).map (·.2) = vs.map Vl.d := List.map_snd_zip (by simp [v1])
  have dm : dmerge ([l0, l1, l2].map nk) (us.map Vl.d) (([l3, l4, l5].map nk).zip (vs.map Vl.d)) = ([l0, l1, l2, l3, l4, l5].map nk, (us ++ vs).map Vl.d) := by
    rw [dmerge_fresh _ _ _ (by simp [u1]) (by rw [zip1]; exact hn3), zip1, zip2, List.map_append]
    rfl
  have a2 : A2 [false, false, false, true, true, true] (us ++ vs) := A2_app (A2_rep (n := 3) u1 u2) (A2_rep (n := 3) v1 v2)
  have c1 : evE tb.G (PD.call tb.G (n + 2)) (.opC .dictOf [.comp false [3] (.n 3) .seq [.slH (.v 1) (.c (.int (3)))] [] (.tup [.v 3, .op .mod [.call I.f_mix2 [.v 0, .c (.int (0))], .c (.int (16))]])]) [some (.c 0), some (.d (.lst ([l0, l1, l2, l3, l4, l5].map fun l => .str (mk l)))), none, none] [m] = .ok (.c 1) [m1, .dct ([l0, l1, l2].map nk) (us.map Vl.d)] := by
    have e1 : evE tb.G (PD.call tb.G (n + 2)) (.comp false [3] (.n 3) .seq [.slH (.v 1) (.c (.int (3)))] [] (.tup [.v 3, .op .mod [.call I.f_mix2 [.v 0, .c (.int (0))], .c (.int (16))]])) [some (.c 0), some (.d (.lst ([l0, l1, l2, l3, l4, l5].map fun l => .str (mk l)))), none, none] [m] = .ok (.d (.lst (pairsD [l0, l1, l2] us))) [m1] := by
      have sl : slD (.lst ([l0, l1, l2, l3, l4, l5].map fun l => .str (mk l))) none (some 3) = some (.lst ([l0, l1, l2].map fun l => .str (mk l))) := rfl
      have e0 : evE tb.G (PD.call tb.G (n + 2)) (.slH (.v 1) (.c (.int (3)))) [some (.c 0), some (.d (.lst ([l0, l1, l2, l3, l4, l5].map fun l => .str (mk l)))), none, none] [m] = .ok (.d (.lst ([l0, l1, l2].map fun l => .str (mk l)))) [m] := congrArg (fun o : Option D => Rs.ofO (o.map PD.W.d) [m]) sl
      rw [eE_comp, es1 e0, Rs.bind_ok]
      show (compL _ ([l0, l1, l2].map fun l => D.str (mk l)) [] [m]).bind _ = _
      rw [q1]
      rfl
    exact q_opC (es1 e1) rfl d1 rfl
  have c2 : evE tb.G (PD.call tb.G (n + 2)) (.op .dictOf [.comp false [3] (.n 3) .seq [.slL (.v 1) (.c (.int (3)))] [] (.tup [.v 3, .op .eq [.op .mod [.call I.f_mix2 [.v 0, .c (.int (0))], .c (.int (2))], .c (.int (1))]])]) [some (.c 0), some (.d (.lst ([l0, l1, l2, l3, l4, l5].map fun l => .str (mk l)))), some (.c 1), none] [m1, .dct ([l0, l1, l2].map nk) (us.map Vl.d)] = .ok (.d (.dct ([l3, l4, l5].map nk) (vs.map Vl.d))) [m2, .dct ([l0, l1, l2].map nk) (us.map Vl.d)] := by
    have e1 : evE tb.G (PD.call tb.G (n + 2)) (.comp false [3] (.n 3) .seq [.slL (.v 1) (.c (.int (3)))] [] (.tup [.v 3, .op .eq [.op .mod [.call I.f_mix2 [.v 0, .c (.int (0))], .c (.int (2))], .c (.int (1))]])) [some (.c 0), some (.d (.lst ([l0, l1, l2, l3, l4, l5].map fun l => .str (mk l)))), some (.c 1), none] [m1, .dct ([l0, l1, l2].map nk) (us.map Vl.d)] = .ok (.d (.lst (pairsD [l3, l4, l5] vs))) [m2, .dct ([l0, l1, l2].map nk) (us.map Vl.d)] := by
      have sl : slD (.lst ([l0, l1, l2, l3, l4, l5].map fun l => .str (mk l))) (some 3) none = some (.lst ([l3, l4, l5].map fun l => .str (mk l))) := rfl
      have e0 : evE tb.G (PD.call tb.G (n + 2)) (.slL (.v 1) (.c (.int (3)))) [some (.c 0), some (.d (.lst ([l0, l1, l2, l3, l4, l5].map fun l => .str (mk l)))), some (.c 1), none] [m1, .dct ([l0, l1, l2].map nk) (us.map Vl.d)] = .ok (.d (.lst ([l3, l4, l5].map fun l => .str (mk l)))) [m1, .dct ([l0, l1, l2].map nk) (us.map Vl.d)] := congrArg (fun o : Option D => Rs.ofO (o.map PD.W.d) [m1, .dct ([l0, l1, l2].map nk) (us.map Vl.d)]) sl
      rw [eE_comp, es1 e0, Rs.bind_ok]
      show (compL _ ([l3, l4, l5].map fun l => D.str (mk l)) [] [m1, .dct ([l0, l1, l2].map nk) (us.map Vl.d)]).bind _ = _
      rw [q2]
      rfl
    rw [eE_op, es1 e1, Rs.bind_ok]
    show (match dictOfD (.lst (pairsD [l3, l4, l5] vs)) with | some d => Rs.ok (PD.W.d d) [m2, .dct ([l0, l1, l2].map nk) (us.map Vl.d)] | none => .stuck) = _
    rw [d2]
  refine ⟨.dct ([l0, l1, l2, l3, l4, l5].map nk) ((us ++ vs).map Vl.d), lk [l0, l1, l2, l3, l4, l5] (us ++ vs), m2, [.dead], ?_, hm2, env_kap _ _ _ a2, ⟨_, _, rfl, fun l b h => dget_lk _ _ _ a2 l b h⟩⟩
  refine t_run [some (.c 0), some (.d (.lst ([l0, l1, l2, l3, l4, l5].map fun l => .str (mk l)))), none, none] ?_
  refine t_asg [some (.c 0), some (.d (.lst ([l0, l1, l2, l3, l4, l5].map fun l => .str (mk l)))), some (.c 1), none] c1 ?_
  refine t_step (sl1 := [some (.c 0), some (.d (.lst ([l0, l1, l2, l3, l4, l5].map fun l => .str (mk l)))), some (.c 1), none]) (cs1 := [m2, .dct ([l0, l1, l2, l3, l4, l5].map nk) ((us ++ vs).map Vl.d)]) ?_ (t_ret ?_)
  · rw [eS_updD, q_get rfl, SR.of_ok, if_pos (show isDctC (.c 1) [m1, .dct ([l0, l1, l2].map nk) (us.map Vl.d)] = true from rfl), c2, SR.of_ok]
    show (if ([l0, l1, l2].map nk).length + ([l3, l4, l5].map nk).length ≤ LIM ∧ false = false ∧ ([l3, l4, l5].map nk).length = (vs.map Vl.d).length then SR.ok .nx _ [m2, .dct (dmerge ([l0, l1, l2].map nk) (us.map Vl.d) (([l3, l4, l5].map nk).zip (vs.map Vl.d))).1 (dmerge ([l0, l1, l2].map nk) (us.map Vl.d) (([l3, l4, l5].map nk).zip (vs.map Vl.d))).2] else .stuck) = _
    rw [if_pos ⟨by show 6 ≤ LIM; decide, rfl, by simp [v1]⟩, dm]
  · rfl
end Lw
set_option Elab.async false
set_option linter.all false
set_option maxRecDepth 100000
set_option maxHeartbeats 4000000
set_option exponentiation.threshold 300
namespace Lw
open PySem PySem.Spec PyProof.Rows L2 PD PL NumText
abbrev Ph : Nat → List PD.W → List M → Rs PD.W := PD.call tb.G 29
abbrev n6D (ns : List (List Nat)) : D := .lst (ns.map fun l => .str (mk l))
def fB : List S := [.asg (.n 6) (.call 8 [.v 0, .v 1]), .par 7 8 (.call 9 [.v 4, .v 6]) (.call 9 [.v 3, .v 6]), .ite (.or_ (.op .ne [.v 7, .v 8]) (.op .ne [.op (.isi [1]) [.v 7], .op (.isi [1]) [.v 8]])) [.ret (.c (.bl false))] []]
theorem isb (v : Vl) : ∃ c : Bool, ∀ (i : Nat) (sl : Sl) (cs : List M), sl[i]? = some (some (.d v.d)) → evE tb.G Ph (.op (.isi [1]) [.v i]) sl cs = .ok (.d (.bl c)) cs := by
  cases v with
  | n i => exact ⟨false, fun j sl cs h => by rw [eE_op, es1 (q_get h)]; rfl⟩
  | b c => exact ⟨true, fun j sl cs h => by rw [eE_op, es1 (q_get h)]; rfl⟩
theorem T3_le {d : Nat} (h : d ≤ 3) : T3 d ≤ 40 := by
  match d, h with
  | 0, _ => decide
  | 1, _ => decide
  | 2, _ => decide
  | 3, _ => decide
theorem good_rest (l0 l1 l2 l3 l4 l5 : List Nat) (hnd : [l0, l1, l2, l3, l4, l5].Nodup) (κ : List Nat → Option Bool) (ls : List (List Nat)) (bs : List Bool) (kdn : KDN κ ls bs) (sub : ∀ l b, κ l = some b → K6 [l0, l1, l2, l3, l4, l5] l = some b) (m : M) (hm : St2 m) :
    ∃ m', RetS tb.G Ph (b3.drop 2) [some (.c 0), some (.d (n6D [l0, l1, l2, l3, l4, l5])), some (.d (kdD ls bs)), none, none, none, none, none, none, none] [m] (.d (.bl true)) [m'] ∧ St2 m' := by
  obtain ⟨r, m1, e1, a1, a2, a3⟩ := q_mm (G := tb.G) (I := I) rfl 28 (sl := [some (.c 0), some (.d (n6D [l0, l1, l2, l3, l4, l5])), some (.d (kdD ls bs)), none, none, none, none, none, none, none]) (cs := [m]) (i := 0) rfl rfl hm 2 (by decide)
  obtain ⟨b, e2⟩ : ∃ b : Bool, evE tb.G Ph (.op .ix [.lst [.c (.str "number"), .c (.str "truth")], .op .mod [.call I.f_mix2 [.v 0, .c (.int (0))], .c (.int (2))]]) [some (.c 0), some (.d (n6D [l0, l1, l2, l3, l4, l5])), some (.d (kdD ls bs)), none, none, none, none, none, none, none] [m] = .ok (.d (kw (some b))) [m1] := by
    have rr : r = 0 ∨ r = 1 := by omega
    rcases rr with rfl | rfl
    · exact ⟨false, q_op2 (dx := .lst [kw (some false), kw (some true)]) (dy := .int 0) rfl e1 rfl rfl (by show atI [kw (some false), kw (some true)] 0 = _; exact at0 _ _)⟩
    · exact ⟨true, q_op2 (dx := .lst [kw (some false), kw (some true)]) (dy := .int 1) rfl e1 rfl rfl (by show atI [kw (some false), kw (some true)] 1 = _; exact at1 _ _ _)⟩
  obtain ⟨s, m2, e3, b1, b2, b3'⟩ := q_mm (G := tb.G) (I := I) rfl 28 (sl := [some (.c 0), some (.d (n6D [l0, l1, l2, l3, l4, l5])), some (.d (kdD ls bs)), none, none, none, none, none, none, none]) (cs := [m1]) (i := 0) rfl rfl a1 3 (by decide)
  obtain ⟨d0, rfl⟩ := Int.eq_ofNat_of_zero_le b2
  have hd0 : d0 < 3 := by omega
  have e4 : evE tb.G Ph (.op .add [.c (.int (1)), .op .mod [.call I.f_mix2 [.v 0, .c (.int (0))], .c (.int (3))]]) [some (.c 0), some (.d (n6D [l0, l1, l2, l3, l4, l5])), some (.d (kdD ls bs)), none, none, none, none, none, none, none] [m1] = .ok (.d (.int ((d0 + 1 : Nat) : Int))) [m2] := by
    refine q_op2 (dx := .int 1) (dy := .int (d0 : Int)) rfl e3 rfl rfl ?_
    show some (D.int (1 + (d0 : Int))) = _
    congr 2
    omega
  obtain ⟨t, m3, q0, c1, tk⟩ := tree_step (G := tb.G) (I := I) I.f_treeP innP rfl innP_ok rfl rfl κ ls bs kdn (d0 + 1) (25 - d0) b m2 b1
  rw [show 25 - d0 + (d0 + 1) + 3 = 29 from by omega] at q0
  have ho := tk.ok
  have hk := tk.kd
  have hd : t.dp ≤ 4 := Nat.le_trans tk.dp (by omega)
  have hz : t.sz ≤ 40 := Nat.le_trans tk.sz (T3_le (by omega))
  have fk := fold_keeps t b ho hk
  have hfd : (fold t).dp ≤ 4 := Nat.le_trans fk.dp hd
  have hfz : (fold t).sz ≤ 40 := Nat.le_trans fk.sz hz
  have F1 : ∀ cs : List M, callW (Ph 6) [.d (enc t)] cs = .ok (.d (enc (fold t))) cs := fun cs => callW1 (folded_ok κ 9 t (by omega) b ho hk (by omega) hz 3)
  have F2 : ∀ cs : List M, callW (Ph 6) [.d (enc (fold t))] cs = .ok (.d (enc (fold t))) cs := fun cs => by
    have q := folded_ok κ 9 (fold t) (by omega) b fk.ok fk.kd (by omega) hfz 3
    rw [fold_fold] at q
    exact callW1 q
  have F3 : ∀ cs : List M, callW (Ph 7) [.d (enc t)] cs = .ok (.d (enc (fold t))) cs := fun cs => callW1 (lfold_ok κ 9 t (by omega) b ho hk (by omega) 8)
  -- the loop
  have lp := for_inv (G := tb.G) (Φ := Ph) (tg := .n 5) (bd := fB) (fun sl cs => ∃ (o5 o6 o7 o8 : Option PD.W) (m : M), sl = [some (.c 0), some (.d (n6D [l0, l1, l2, l3, l4, l5])), some (.d (kdD ls bs)), some (.d (enc t)), some (.d (enc (fold t))), o5, o6, o7, o8, none] ∧ cs = [m] ∧ St2 m) [.int 0, .int 1, .int 2] (fun d _ sl cs hi => by
    obtain ⟨o5, o6, o7, o8, m, rfl, rfl, hm⟩ := hi
    refine ⟨[some (.c 0), some (.d (n6D [l0, l1, l2, l3, l4, l5])), some (.d (kdD ls bs)), some (.d (enc t)), some (.d (enc (fold t))), some (.d d), o6, o7, o8, none], rfl, ?_⟩
    obtain ⟨dd, r, m', ms, q, h1, he, vd⟩ := boxes_ok 26 l0 l1 l2 l3 l4 l5 hnd m hm
    have he' : Env κ r := fun l b h => he l b (sub l b h)
    have vd' : VD κ r dd := by
      obtain ⟨ks, vs, e, h⟩ := vd
      exact ⟨ks, vs, e, fun l b hl => h l b (sub l b hl)⟩
    have v1 := callW2 (cs := [m']) (lv_ok κ r he' dd vd' 9 (fold t) (by omega) b fk.ok fk.kd 20)
    have v2 := callW2 (cs := [m']) (lv_ok κ r he' dd vd' 9 t (by omega) b ho hk 20)
    rw [fk.vl r he'] at v1
    have vo := val_ok he' t b ho hk
    refine n_asg (x := .d dd) [some (.c 0), some (.d (n6D [l0, l1, l2, l3, l4, l5])), some (.d (kdD ls bs)), some (.d (enc t)), some (.d (enc (fold t))), some (.d d), some (.d dd), o7, o8, none] (cs1 := [m']) (q_call (es2 (q_get rfl) (q_get rfl)) (callW_cds (cs := [m]) (i := 0) (ds := [n6D [l0, l1, l2, l3, l4, l5]]) rfl rfl hm.nd q)) ?_
    refine n_step (sl1 := [some (.c 0), some (.d (n6D [l0, l1, l2, l3, l4, l5])), some (.d (kdD ls bs)), some (.d (enc t)), some (.d (enc (fold t))), some (.d d), some (.d dd), some (.d (val r t).d), some (.d (val r t).d), none]) (cs1 := [m']) ?_ ?_
    · rw [eS_par, q_call (es2 (q_get rfl) (q_get rfl)) v1, SR.of_ok, q_call (es2 (q_get rfl) (q_get rfl)) v2, SR.of_ok, if_pos (by simp)]
      rfl
    · obtain ⟨c, hc⟩ := isb (val r t)
      have n1 := q_neE (G := tb.G) (Φ := Ph) (sl := [some (.c 0), some (.d (n6D [l0, l1, l2, l3, l4, l5])), some (.d (kdD ls bs)), some (.d (enc t)), some (.d (enc (fold t))), some (.d d), some (.d dd), some (.d (val r t).d), some (.d (val r t).d), none]) (cs := [m']) (e1 := .v 7) (e2 := .v 8) (q_get rfl) (q_get rfl) (vl_plain _) (vl_plain _)
      rw [vl_eq vo vo, decide_eq_true rfl] at n1
      have n2 := q_neE (G := tb.G) (Φ := Ph) (hc 7 [some (.c 0), some (.d (n6D [l0, l1, l2, l3, l4, l5])), some (.d (kdD ls bs)), some (.d (enc t)), some (.d (enc (fold t))), some (.d d), some (.d dd), some (.d (val r t).d), some (.d (val r t).d), none] [m'] rfl) (hc 8 _ [m'] rfl) rfl rfl
      rw [show eqD (.bl c) (.bl c) = true from by cases c <;> rfl] at n2
      exact n_skip (q_orF n1 n2) (n_nil ⟨_, _, _, _, m', rfl, rfl, h1⟩))
  obtain ⟨sl2, cs2, q5, o5, o6, o7, o8, m4, rfl, rfl, hm4⟩ := lp [some (.c 0), some (.d (n6D [l0, l1, l2, l3, l4, l5])), some (.d (kdD ls bs)), some (.d (enc t)), some (.d (enc (fold t))), none, none, none, none, none] [m3] ⟨none, none, none, none, m3, rfl, rfl, c1⟩
  refine ⟨m4, ?_, hm4⟩
  refine t_asg [some (.c 0), some (.d (n6D [l0, l1, l2, l3, l4, l5])), some (.d (kdD ls bs)), some (.d (enc t)), none, none, none, none, none, none] (cs1 := [m3]) (q_call (es_cons (q_get rfl) (es_cons (q_get rfl) (es2 e2 e4))) (callW_cds (cs := [m2]) (i := 0) (ds := [kdD ls bs, kw (some b), .int ((d0 + 1 : Nat) : Int)]) rfl rfl b1.nd q0)) ?_
  refine t_asg [some (.c 0), some (.d (n6D [l0, l1, l2, l3, l4, l5])), some (.d (kdD ls bs)), some (.d (enc t)), some (.d (enc (fold t))), none, none, none, none, none] (cs1 := [m3]) (q_call (es1 (q_get rfl)) (F1 _)) ?_
  have i3 : evE tb.G Ph (.op (.isi [3]) [.v 4]) [some (.c 0), some (.d (n6D [l0, l1, l2, l3, l4, l5])), some (.d (kdD ls bs)), some (.d (enc t)), some (.d (enc (fold t))), none, none, none, none, none] [m3] = .ok (.d (.bl true)) [m3] := by
    rw [eE_op, es1 (q_get rfl), enc_form]
    rfl
  have ne1 := q_neE (G := tb.G) (Φ := Ph) (sl := [some (.c 0), some (.d (n6D [l0, l1, l2, l3, l4, l5])), some (.d (kdD ls bs)), some (.d (enc t)), some (.d (enc (fold t))), none, none, none, none, none]) (cs := [m3]) (e1 := .v 4) (q_get rfl) (q_call (es1 (q_get (i := 3) rfl)) (F3 _)) (enc_plain (by omega)) (enc_plain (by omega))
  have ne2 := q_neE (G := tb.G) (Φ := Ph) (sl := [some (.c 0), some (.d (n6D [l0, l1, l2, l3, l4, l5])), some (.d (kdD ls bs)), some (.d (enc t)), some (.d (enc (fold t))), none, none, none, none, none]) (cs := [m3]) (e2 := .v 4) (q_call (es1 (q_get (i := 4) rfl)) (F2 _)) (q_get rfl) (enc_plain (by omega)) (enc_plain (by omega))
  rw [eqD_enc, decide_eq_true rfl] at ne1 ne2
  refine t_ifF (q_orF (q_not i3) (q_orF ne1 ne2)) ?_
  refine t_step (sl1 := [some (.c 0), some (.d (n6D [l0, l1, l2, l3, l4, l5])), some (.d (kdD ls bs)), some (.d (enc t)), some (.d (enc (fold t))), o5, o6, o7, o8, none]) (cs1 := [m4]) ?_ (t_ret ?_)
  · rw [eS_for, es1 (show evE tb.G Ph (.c (.int 3)) _ [m3] = .ok (.d (.int 3)) [m3] from rfl), SR.of_ok]
    exact q5
  · have q := q_enc (Φ := Ph) (sl := [some (.c 0), some (.d (n6D [l0, l1, l2, l3, l4, l5])), some (.d (kdD ls bs)), some (.d (enc t)), some (.d (enc (fold t))), o5, o6, o7, o8, none]) (cs := [m4]) (b := .v 4) (q_call (es1 (q_get (i := 3) rfl)) (F1 _)) (q_get rfl) (by omega) (by omega)
    rw [decide_eq_true rfl] at q
    exact q
theorem good_ok (l0 l1 l2 l3 l4 l5 : List Nat) (hnd : [l0, l1, l2, l3, l4, l5].Nodup) (hnm : ∀ l ∈ [l0, l1, l2, l3, l4, l5], isNameL l = true) (m : M) (hm : St2 m) :
    ∃ m', PD.call tb.G 30 3 [.c 0, .d (n6D [l0, l1, l2, l3, l4, l5])] [m] = .ok (.d (.bl true)) [m'] ∧ St2 m' := by
  have hk6 : ([l0, l1, l2, l3, l4, l5].map nk).Nodup := List.pairwise_map.mpr (hnd.imp fun h e => h (nk_inj e))
  have nd6 : ND [l0, l1, l2, l3, l4, l5] [false, false, false, true, true, true] := ⟨rfl, hnd, hnm⟩
  have h03 : l0 ≠ l3 ∧ l1 ≠ l3 ∧ l2 ≠ l3 := by
    simp only [List.nodup_cons, List.mem_cons, List.not_mem_nil, or_false, not_or] at hnd
    exact ⟨hnd.1.2.2.1, hnd.2.1.2.1, hnd.2.2.1.1⟩
  have nd2 : ND [l0, l3] [false, true] := ⟨rfl, by simp [h03.1], fun l hl => hnm l (by simp at hl ⊢; rcases hl with rfl | rfl <;> simp)⟩
  have c1 : evE tb.G Ph (.op .dictOf [.comp false [9] (.n 9) .range1 [.c (.int (6))] [] (.tup [.op .ix [.v 1, .v 9], .op .ix [.lst [.c (.str "number"), .c (.str "truth")], .op .fdiv [.v 9, .c (.int (3))]]])]) [some (.c 0), some (.d (n6D [l0, l1, l2, l3, l4, l5])), none, none, none, none, none, none, none, none] [m] = .ok (.d (kdD [l0, l1, l2, l3, l4, l5] [false, false, false, true, true, true])) [m] := by
    have e1 : evE tb.G Ph (.comp false [9] (.n 9) .range1 [.c (.int (6))] [] (.tup [.op .ix [.v 1, .v 9], .op .ix [.lst [.c (.str "number"), .c (.str "truth")], .op .fdiv [.v 9, .c (.int (3))]]])) [some (.c 0), some (.d (n6D [l0, l1, l2, l3, l4, l5])), none, none, none, none, none, none, none, none] [m] = .ok (.d (.lst [.tup [.str (mk l0), kw (some false)], .tup [.str (mk l1), kw (some false)], .tup [.str (mk l2), kw (some false)], .tup [.str (mk l3), kw (some true)], .tup [.str (mk l4), kw (some true)], .tup [.str (mk l5), kw (some true)]])) [m] := by
      rw [eE_comp, es1 (show evE tb.G Ph (.c (.int 6)) _ [m] = .ok (.d (.int 6)) [m] from rfl), Rs.bind_ok]
      rfl
    rw [eE_op, es1 e1, Rs.bind_ok]
    show Rs.ok (PD.W.d (.dct (dmerge [] [] [(nk l0, kw (some false)), (nk l1, kw (some false)), (nk l2, kw (some false)), (nk l3, kw (some true)), (nk l4, kw (some true)), (nk l5, kw (some true))]).1 (dmerge [] [] [(nk l0, kw (some false)), (nk l1, kw (some false)), (nk l2, kw (some false)), (nk l3, kw (some true)), (nk l4, kw (some true)), (nk l5, kw (some true))]).2)) [m] = _
    rw [dmerge_fresh [(nk l0, kw (some false)), (nk l1, kw (some false)), (nk l2, kw (some false)), (nk l3, kw (some true)), (nk l4, kw (some true)), (nk l5, kw (some true))] [] [] rfl hk6]
    rfl
  obtain ⟨r, m1, e1, a1, a2, a3⟩ := q_mm (G := tb.G) (I := I) rfl 28 (sl := [some (.c 0), some (.d (n6D [l0, l1, l2, l3, l4, l5])), some (.d (kdD [l0, l1, l2, l3, l4, l5] [false, false, false, true, true, true])), none, none, none, none, none, none, none]) (cs := [m]) (i := 0) rfl rfl hm 3 (by decide)
  have e2 : evE tb.G Ph (.op .eq [.op .mod [.call I.f_mix2 [.v 0, .c (.int (0))], .c (.int (3))], .c (.int (0))]) [some (.c 0), some (.d (n6D [l0, l1, l2, l3, l4, l5])), some (.d (kdD [l0, l1, l2, l3, l4, l5] [false, false, false, true, true, true])), none, none, none, none, none, none, none] [m] = .ok (.d (.bl (r == 0))) [m1] := by
    refine q_op2 (dx := .int r) (dy := .int 0) e1 rfl rfl rfl ?_
    rw [s_eq rfl rfl]
    rfl
  have b3e : b3 = [b3.getD 0 .pass, .ite (.op .eq [.op .mod [.call I.f_mix2 [.v 0, .c (.int (0))], .c (.int (3))], .c (.int (0))]) [.asg (.n 2) (.dspE [.op .ix [.v 1, .c (.int (0))], .c (.str "number"), .op .ix [.v 1, .c (.int (3))], .c (.str "truth")])] []] ++ b3.drop 2 := rfl
  rw [show (30 : Nat) = 29 + 1 from rfl, call_at (np := 2) (ns := 10) (b := b3) rfl]
  cases hr : (r == 0) with
  | false =>
    rw [hr] at e2
    obtain ⟨m', q, h⟩ := good_rest l0 l1 l2 l3 l4 l5 hnd (K6 [l0, l1, l2, l3, l4, l5]) _ _ (nd6.kdn (show 6 < 64 by decide)) (fun _ _ h => h) m1 a1
    refine ⟨m', t_run [some (.c 0), some (.d (n6D [l0, l1, l2, l3, l4, l5])), none, none, none, none, none, none, none, none] ?_, h⟩
    rw [b3e]
    exact t_asg [some (.c 0), some (.d (n6D [l0, l1, l2, l3, l4, l5])), some (.d (kdD [l0, l1, l2, l3, l4, l5] [false, false, false, true, true, true])), none, none, none, none, none, none, none] c1 (t_ifF e2 q)
  | true =>
    rw [hr] at e2
    have sub : ∀ l b, kap [l0, l3] [false, true] l = some b → K6 [l0, l1, l2, l3, l4, l5] l = some b := fun l b h => by
      have g : (if l = l0 then some false else if l = l3 then some true else none) = some b := h
      clear h
      show (if l = l0 then some false else if l = l1 then some false else if l = l2 then some false else if l = l3 then some true else _) = some b
      by_cases c0 : l = l0
      · rw [if_pos c0] at g ⊢; exact g
      rw [if_neg c0] at g ⊢
      by_cases c3 : l = l3
      · rw [if_pos c3] at g
        rw [if_neg fun z => h03.2.1 (z.symm.trans c3), if_neg fun z => h03.2.2 (z.symm.trans c3), if_pos c3]
        exact g
      · rw [if_neg c3] at g; cases g
    obtain ⟨m', q, h⟩ := good_rest l0 l1 l2 l3 l4 l5 hnd (kap [l0, l3] [false, true]) _ _ (nd2.kdn (show 2 < 64 by decide)) sub m1 a1
    refine ⟨m', t_run [some (.c 0), some (.d (n6D [l0, l1, l2, l3, l4, l5])), none, none, none, none, none, none, none, none] ?_, h⟩
    rw [b3e]
    refine t_asg [some (.c 0), some (.d (n6D [l0, l1, l2, l3, l4, l5])), some (.d (kdD [l0, l1, l2, l3, l4, l5] [false, false, false, true, true, true])), none, none, none, none, none, none, none] c1 (t_nx e2 (sl2 := [some (.c 0), some (.d (n6D [l0, l1, l2, l3, l4, l5])), some (.d (kdD [l0, l3] [false, true])), none, none, none, none, none, none, none]) (cs2 := [m1]) ?_ q)
    have ds : evE tb.G Ph (.dspE [.op .ix [.v 1, .c (.int (0))], .c (.str "number"), .op .ix [.v 1, .c (.int (3))], .c (.str "truth")]) [some (.c 0), some (.d (n6D [l0, l1, l2, l3, l4, l5])), some (.d (kdD [l0, l1, l2, l3, l4, l5] [false, false, false, true, true, true])), none, none, none, none, none, none, none] [m1] = .ok (.d (kdD [l0, l3] [false, true])) [m1] := by
      have es : evEs tb.G Ph [.op .ix [.v 1, .c (.int (0))], .c (.str "number"), .op .ix [.v 1, .c (.int (3))], .c (.str "truth")] [some (.c 0), some (.d (n6D [l0, l1, l2, l3, l4, l5])), some (.d (kdD [l0, l1, l2, l3, l4, l5] [false, false, false, true, true, true])), none, none, none, none, none, none, none] [m1] = .ok [.d (.str (mk l0)), .d (kw (some false)), .d (.str (mk l3)), .d (kw (some true))] [m1] :=
        es_cons (ixL (xs := [l0, l1, l2, l3, l4, l5].map fun l => .str (mk l)) rfl rfl) (es_cons rfl (es2 (ixL (xs := [l0, l1, l2, l3, l4, l5].map fun l => .str (mk l)) rfl rfl) rfl))
      rw [eE_dspE, es]
      show (if 2 ≤ 15 ∧ [(nk l0, kw (some false)), (nk l3, kw (some true))] ≠ [] then Rs.ok (PD.W.d (.dct (dmerge [] [] [(nk l0, kw (some false)), (nk l3, kw (some true))]).1 (dmerge [] [] [(nk l0, kw (some false)), (nk l3, kw (some true))]).2)) [m1] else .stuck) = _
      rw [if_pos ⟨by decide, by simp⟩, dmerge_fresh _ [] [] rfl (by
        show ([nk l0, nk l3] : List Key).Nodup
        simp only [List.nodup_cons, List.mem_cons, List.not_mem_nil, or_false, not_false_eq_true, List.nodup_nil, and_true]
        exact fun z => h03.1 (nk_inj z))]
      rfl
    rw [q_asg ds (by simp)]
    rfl
def Inv (S : D) (n6 : List (List Nat)) (sl : Sl) (cs : List M) : Prop :=
  ∃ (o3 : Option PD.W) (m : M), sl = [some (.d S), some (.c 0), some (.d (n6D n6)), o3] ∧ cs = [m] ∧ St2 m
theorem plain (ns : List Int) (hl : ns.length ≤ 63) (hb : ∀ z ∈ ns, Builtin.Int.intBits z ≤ 1048576) : ∃ cs, PD.call tb.G 31 0 [.d (lis ns)] [] = .ok (.d (.bl true)) cs := by
  have bd : ∀ z ∈ ns, z.natAbs < 2 ^ 2000000 := fun z hz => Nat.lt_of_lt_of_le (bits_lt (hb z hz)) (Nat.pow_le_pow_right (by decide) (by decide))
  obtain ⟨s, u, q1, a1, a2, a3⟩ := begun_ok (G := tb.G) (I := I) rfl 29 (ns.length : Nat)
  obtain ⟨n6, s', u', q2, hl6, hn6, hnd, b1, b2, b3⟩ := names_nd (G := tb.G) (I := I) rfl rfl 28 s u a1 a2 a3 6 (by decide)
  match n6, hl6 with
  | [l0, l1, l2, l3, l4, l5], _ =>
  have G1 : ∀ (o3 : Option PD.W) (m : M), St2 m → ∃ m', evE tb.G (PD.call tb.G 30) (.not_ (.call 3 [.v 1, .v 2])) [some (.d (lis ns)), some (.c 0), some (.d (n6D [l0, l1, l2, l3, l4, l5])), o3] [m] = .ok (.d (.bl false)) [m'] ∧ St2 m' := fun o3 m hm => by
    obtain ⟨m', q, h⟩ := good_ok l0 l1 l2 l3 l4 l5 hnd hn6 m hm
    exact ⟨m', q_not (c := true) (q_call (es2 (q_get rfl) (q_get rfl)) (callW_cds (cs := [m]) (i := 0) (ds := [n6D [l0, l1, l2, l3, l4, l5]]) rfl rfl hm.nd q)), h⟩
  rw [call_at (show tb.G.fns[0]? = some (1, 4, b0) from rfl)]
  suffices h : ∃ cs, RetS tb.G (PD.call tb.G 30) b0 [some (.d (lis ns)), none, none, none] [] (.d (.bl true)) cs by
    obtain ⟨cs, sl, h⟩ := h
    exact ⟨cs, runB_ret rfl h⟩
  obtain ⟨m1, g1, h1⟩ := G1 none (.lst [.int s', .int u']) ⟨s', u', rfl, b1, b2, b3⟩
  have bl : ns.length ≤ LIM := Nat.le_trans hl (by decide)
  have e0 : evE tb.G (PD.call tb.G 30) (.call I.f_begun [.op .len [.v 0]]) [some (.d (lis ns)), none, none, none] [] = .ok (.c 0) [.lst [.int s, .int u]] := by
    refine q_call (es1 (x := .d (.int (ns.length : Nat))) (cs1 := []) ?_) (callW_new (cs := []) q1)
    rw [eE_op, es1 (q_get rfl), Rs.bind_ok]
    show Rs.ok (PD.W.d (.int ((ns.map D.int).length : Nat))) [] = _
    rw [List.length_map]
  -- the loop
  have lp := for_inv (G := tb.G) (Φ := PD.call tb.G 30) (tg := .n 3) (bd := [.ex (.call I.f_mix2 [.v 1, .v 3]), .ite (.not_ (.call 3 [.v 1, .v 2])) [.ret (.c (.bl false))] []]) (Inv (lis ns) [l0, l1, l2, l3, l4, l5]) (ns.map D.int) (fun d hd sl cs hi => by
    obtain ⟨z, hz, rfl⟩ := List.mem_map.mp hd
    obtain ⟨o3, m, rfl, rfl, hm⟩ := hi
    refine ⟨_, rfl, ?_⟩
    obtain ⟨v, m1, e1, h1, _⟩ := mixK (G := tb.G) (I := I) rfl 29 hm z (bd z hz)
    obtain ⟨m2, g2, h2⟩ := G1 (some (.d (.int z))) m1 h1
    refine n_step (sl1 := [some (.d (lis ns)), some (.c 0), some (.d (n6D [l0, l1, l2, l3, l4, l5])), some (.d (.int z))]) (cs1 := [m1]) ?_ (n_skip g2 (n_nil ⟨_, m2, rfl, rfl, h2⟩))
    show evS tb.G _ _ [some (.d (lis ns)), some (.c 0), some (.d (n6D [l0, l1, l2, l3, l4, l5])), some (.d (.int z))] [m] = _
    rw [eS_ex, q_call (es2 (q_get rfl) (q_get rfl)) (callW_ci (cs := [m]) (i := 0) rfl hm.nd e1)]
    rfl)
  obtain ⟨sl2, cs2, q5, _⟩ := lp [some (.d (lis ns)), some (.c 0), some (.d (n6D [l0, l1, l2, l3, l4, l5])), none] [m1] ⟨none, m1, rfl, rfl, h1⟩
  refine ⟨cs2, ?_⟩
  refine t_asg [some (.d (lis ns)), some (.c 0), none, none] (cs1 := [.lst [.int s, .int u]]) e0 ?_
  refine t_asg [some (.d (lis ns)), some (.c 0), some (.d (n6D [l0, l1, l2, l3, l4, l5])), none] (cs1 := [.lst [.int s', .int u']]) (q_call (es2 (q_get rfl) rfl) (callW_cds (cs := [.lst [.int s, .int u]]) (i := 0) (ds := [.int 6]) rfl rfl (by simp) q2)) ?_
  refine t_ifF g1 (t_step (sl1 := sl2) (cs1 := cs2) ?_ (t_ret rfl))
  rw [eS_for, es1 (q_get rfl), SR.of_ok]
  exact q5
end Lw
set_option Elab.async false
set_option linter.all false
set_option maxRecDepth 100000
set_option maxHeartbeats 0
namespace Lw
open PySem PySem.Spec PyProof.Rows L2 PD
theorem bt : BtP tb.bts := by
  intro p hp
  simp only [tb, List.mem_cons, List.not_mem_nil, or_false] at hp
  rcases hp with rfl | rfl | rfl | rfl <;> decide +kernel
end Lw
open PySem PySem.W PySem.Calls PyProof.Rows
theorem PySem.Challenge.cw_chancery_k60_trees_folded_holds : PySem.Challenge.rw_chancery_k60_trees_folded.Holds := by
  w_on; o_law
  refine HandSHeadRun.head_any (r := OpenLaw.row PySem.Challenge.rw_chancery_k60_trees_folded) (q := view (OpenLaw.row PySem.Challenge.rw_chancery_k60_trees_folded).prog [60]) (H := Lw.hk) (ob := Lw.ob) (M := 20000) (loose := Lw.loose) (d := HandSHeadRun.topDef (OpenLaw.row PySem.Challenge.rw_chancery_k60_trees_folded).prog 60) (kwd := []) Lw.ob_eq
    (by kernel_rfl) (fun s => by kernel_rfl) Lw.run (by kernel_rfl) (by kernel_rfl) (by kernel_rfl) (by rfl) (by first | assumption | decide +kernel) (by decide +kernel) ⟨rfl, rfl, rfl, rfl, rfl, by decide +kernel⟩ ?hw ?hc
  case hw => w_witness2
  case hc =>
    refine PD.walk_P (l := PySem.Challenge.rw_chancery_k60_trees_folded) (n := 63) (k := 2 * 30 + 2) (x := "_law_script") (CX := fun w => L2.CX PySem.Challenge.rw_chancery_k60_trees_folded.prog w) rfl (by decide) (by kernel_rfl) ⟨rfl, by decide, by decide⟩ ?F PD.noEx
    intro w mg fa h Y G hmg0
    have hmg : mg ("law" : PySem.Str) = some (.ref fa) := by
      have e : (HandSHeadRun.topDef (OpenLaw.row PySem.Challenge.rw_chancery_k60_trees_folded).prog 60).name = ("law" : PySem.Str) := by kernel_rfl
      rw [← e]
      exact hmg0
    obtain ⟨K, hY⟩ := Y
    exact PD.law_fn (tb := Lw.tb) (nE := 60) (nS := 400) (i := 0) (j := 30) (fi := Lw.f0) (ln := "law") rfl rfl (by decide) Lw.okb Lw.oks Lw.binds Lw.bt (fun ns hl hb => Lw.plain ns hl hb) hY G hmg
