import PyProof.Rows.All
import Wide.All
import OpenK.AllK
import Wide.FinOn
import KE.KStateDown
import HandS.ForMost
import HandS.Flow
import HandS.Defaults
import HandS.TupAny
import HandS.IsInst
import HandS.Wide
import HandS.TupMul
import HandS.TupLe
import HandS.Comp
import HandS.Zip
import KE.GoesEnum
import HandS.Walk
import HandS.Conv
import HandS.List
import HandS.Words
import HandS.Head0
import HandS.Head1
import HandS.Head2
import HandS.HeadEnd
import HandS.HeadHook1
import HandS.HeadHook2
import PySem.Challenge.RW_seepage_k85_whole_rows_that_swallow_othe
set_option Elab.async false
set_option linter.all false
set_option maxRecDepth 100000
set_option maxHeartbeats 2000000
/-! A clean evaluator for a part of Python, and its soundness over the hand layer: data, links. -/
namespace Pe
open PySem PySem.Spec PyProof.Rows L2

abbrev Cs := List Nat
def stO (c : Cs) : Str := ⟨c.toArray⟩
/-- data: scalars, tuples, frozen lists, dicts and instances, a def, a cell of the store (whose head is lst, dct or ins) -/
inductive D where
  | non | bl (b : Bool) | int (i : Int) | str (s : Cs)
  | tup (xs : List D) | lst (xs : List D) | scr (xs : List D)
  | dct (t : Bool) (ks : List (List (Int ⊕ Cs))) (vs : List D)
  | ins (c : Nat) (ids : List Nat) (xs : List D)
  | fn (f : Nat) | ref (n : Nat)
instance : Inhabited D := ⟨.non⟩
abbrev Store := List D
/-- the program's names by numbers -/
structure Gm where
  K : PySem.W.Frag
  cls : Nat → Addr
  fn : Nat → Addr
  nm : Nat → Str
structure Lk where
  F : Hp
  m : List Addr
def lockable : HO → Bool
  | .dK _ | .dT _ => true
  | _ => false
def FLe (F H : Hp) : Prop := ∀ a o, F a = some o → H a = some o ∨ (lockable o = true ∧ ∃ ob, H a = some (.frz ob o))
def kOf : Key → Int ⊕ Cs
  | .inl i => .inl i
  | .inr x => .inr x.cps.toList
def DctAt (H : Hp) (a : Addr) : Bool → List (List (Int ⊕ Cs)) → List V → Prop
  | false, ks, vs => ∃ kvs : List (Key × V), H a = some (.dK kvs) ∧ ks = kvs.map (fun p => [kOf p.1]) ∧ vs = kvs.map (·.2)
  | true, ks, vs => ∃ kvs : List (List Key × V), H a = some (.dT kvs) ∧ ks = kvs.map (fun p => p.1.map kOf) ∧ vs = kvs.map (·.2)
mutual
def Rep (G : Gm) (L : Lk) : D → V → Prop
  | .non, v => v = .non
  | .bl b, v => v = .bl b
  | .int i, v => v = .int i
  | .str c, v => v = .str (stO c) ∧ c.all (fun x => decide (x < 1114112)) = true
  | .tup xs, v => ∃ a vs, v = .ref a ∧ SqT G.K L.F a vs ∧ RepL G L xs vs
  | .lst xs, v => ∃ a vs, v = .ref a ∧ L.F a = some (.lst vs) ∧ RepL G L xs vs
  | .scr xs, v => ∃ a vs, v = .ref a ∧ SqL G.K L.F a vs ∧ RepL G L xs vs
  | .dct t ks xs, v => ∃ a vs, v = .ref a ∧ DctAt L.F a t ks vs ∧ RepL G L xs vs
  | .ins c ids xs, v => ∃ a dx fs, v = .ref a ∧ L.F a = some (.ins (G.cls c) dx fs) ∧ fs.map (·.1) = ids.map G.nm ∧ RepL G L xs (fs.map (·.2))
  | .fn f, v => v = .ref (G.fn f)
  | .ref n, v => ∃ a, L.m[n]? = some a ∧ v = .ref a
def RepL (G : Gm) (L : Lk) : List D → List V → Prop
  | [], vs => vs = []
  | d :: ds, vs => ∃ v r, vs = v :: r ∧ Rep G L d v ∧ RepL G L ds r
end
def CellOk (G : Gm) (L : Lk) (H : Hp) (a : Addr) : D → Prop
  | .lst xs => ∃ vs, H a = some (.lst vs) ∧ RepL G L xs vs
  | .dct t ks xs => ∃ vs, DctAt H a t ks vs ∧ RepL G L xs vs
  | .ins c ids xs => ∃ dx fs, H a = some (.ins (G.cls c) dx fs) ∧ fs.map (·.1) = ids.map G.nm ∧ RepL G L xs (fs.map (·.2))
  | _ => False
structure Sim (G : Gm) (L : Lk) (S : Store) (H : Hp) : Prop where
  le : FLe L.F H
  len : L.m.length = S.length
  nd : L.m.Nodup
  fr : ∀ a ∈ L.m, L.F a = none
  cell : ∀ (n : Nat) (d : D) (a : Addr), S[n]? = some d → L.m[n]? = some a → CellOk G L H a d
structure Ext (L : Lk) (H : Hp) (L' : Lk) (H' : Hp) : Prop where
  F : ∀ a o, L.F a = some o → L'.F a = some o
  m : ∃ l, L'.m = L.m ++ l
  new : ∀ a ∈ L'.m, a ∈ L.m ∨ H a = none
  newF : ∀ a o, L'.F a = some o → L.F a = some o ∨ H a = none ∨ a ∈ L.m
  keep : ∀ a o, H a = some o → a ∉ L.m → H' a = some o

theorem Ext.refl (L : Lk) (H : Hp) : Ext L H L H := ⟨fun _ _ h => h, ⟨[], by simp⟩, fun _ h => .inl h, fun _ _ h => .inl h, fun _ _ h _ => h⟩
theorem Ext.sub {L L' : Lk} {H H' : Hp} (e : Ext L H L' H') : ∀ a ∈ L.m, a ∈ L'.m := fun a h => by
  obtain ⟨l, q⟩ := e.m
  rw [q]
  exact List.mem_append_left _ h
theorem Ext.trans {L L1 L2 : Lk} {H H1 H2 : Hp} (e : Ext L H L1 H1) (f : Ext L1 H1 L2 H2) : Ext L H L2 H2 where
  F := fun a o h => f.F a o (e.F a o h)
  m := by
    obtain ⟨l, q⟩ := e.m
    obtain ⟨l', q'⟩ := f.m
    exact ⟨l ++ l', by rw [q', q, List.append_assoc]⟩
  new := fun a h => by
    rcases f.new a h with h | h
    · exact e.new a h
    · by_cases ha : a ∈ L.m
      · exact .inl ha
      · cases q : H a with
        | none => exact .inr rfl
        | some o =>
          rw [e.keep a o q ha] at h
          cases h
  newF := fun a o h => by
    rcases f.newF a o h with h | h | h
    · exact e.newF a o h
    · by_cases ha : a ∈ L.m
      · exact .inr (.inr ha)
      · cases q : H a with
        | none => exact .inr (.inl rfl)
        | some o =>
          rw [e.keep a o q ha] at h
          cases h
    · rcases e.new a h with h | h
      · exact .inr (.inr h)
      · exact .inr (.inl h)
  keep := fun a o h ha => f.keep a o (e.keep a o h ha) fun hm => by
    rcases e.new a hm with z | z
    · exact ha z
    · rw [h] at z
      cases z

theorem FLe.rd {F H : Hp} {a : Addr} {u : HO} (h : FLe F H) (r : Rd F a u) : Rd H a u := by
  rcases r with r | ⟨ob, r⟩
  · rcases h a _ r with q | ⟨_, ob, q⟩
    · exact .inl q
    · exact .inr ⟨ob, q⟩
  · rcases h a _ r with q | ⟨q, _⟩
    · exact .inr ⟨ob, q⟩
    · cases q
theorem FLe.sqt {K : PySem.W.Frag} {F H : Hp} {a : Addr} {xs : List V} (h : FLe F H) (q : SqT K F a xs) : SqT K H a xs := by
  rcases q with q | q
  · exact .inl (h.rd q)
  · exact .inr q
theorem FLe.sql {K : PySem.W.Frag} {F H : Hp} {a : Addr} {xs : List V} (h : FLe F H) (q : SqL K F a xs) : SqL K H a xs := by
  rcases q with q | q
  · exact .inl (h.rd q)
  · exact .inr q
theorem sqt_mono {K : PySem.W.Frag} {F F' : Hp} {a : Addr} {xs : List V} (h : ∀ a o, F a = some o → F' a = some o) (q : SqT K F a xs) : SqT K F' a xs := by
  rcases q with (q | ⟨ob, q⟩) | q
  · exact .inl (.inl (h _ _ q))
  · exact .inl (.inr ⟨ob, h _ _ q⟩)
  · exact .inr q
theorem sql_mono {K : PySem.W.Frag} {F F' : Hp} {a : Addr} {xs : List V} (h : ∀ a o, F a = some o → F' a = some o) (q : SqL K F a xs) : SqL K F' a xs := by
  rcases q with (q | ⟨ob, q⟩) | q
  · exact .inl (.inl (h _ _ q))
  · exact .inl (.inr ⟨ob, h _ _ q⟩)
  · exact .inr q
theorem DctAt.mono {F F' : Hp} {a : Addr} {t : Bool} {ks : List (List (Int ⊕ Cs))} {vs : List V} (h : ∀ o, F a = some o → F' a = some o) (q : DctAt F a t ks vs) : DctAt F' a t ks vs := by
  cases t with
  | false => obtain ⟨kvs, q, r⟩ := q; exact ⟨kvs, h _ q, r⟩
  | true => obtain ⟨kvs, q, r⟩ := q; exact ⟨kvs, h _ q, r⟩

/-- frozen things and cells go on -/
structure Lk.Le (L L' : Lk) : Prop where
  F : ∀ a o, L.F a = some o → L'.F a = some o
  m : ∀ (n : Nat) (a : Addr), L.m[n]? = some a → L'.m[n]? = some a
theorem Ext.le {L L' : Lk} {H H' : Hp} (e : Ext L H L' H') : L.Le L' := ⟨e.F, fun n a h => by
  obtain ⟨l, q⟩ := e.m
  rw [q, List.getElem?_append_left (List.getElem?_eq_some_iff.mp h).1]
  exact h⟩
mutual
theorem Rep.mono {G : Gm} {L L' : Lk} (e : L.Le L') : ∀ (d : D) (v : V), Rep G L d v → Rep G L' d v
  | .non, v, h => by simpa [Rep] using h
  | .bl _, v, h => by simpa [Rep] using h
  | .int _, v, h => by simpa [Rep] using h
  | .str _, v, h => by simpa [Rep] using h
  | .fn _, v, h => by simpa [Rep] using h
  | .tup xs, v, h => by
    simp only [Rep] at h ⊢
    obtain ⟨a, vs, e1, e2, e3⟩ := h
    exact ⟨a, vs, e1, sqt_mono e.F e2, RepL.mono e xs vs e3⟩
  | .lst xs, v, h => by
    simp only [Rep] at h ⊢
    obtain ⟨a, vs, e1, e2, e3⟩ := h
    exact ⟨a, vs, e1, e.F _ _ e2, RepL.mono e xs vs e3⟩
  | .scr xs, v, h => by
    simp only [Rep] at h ⊢
    obtain ⟨a, vs, e1, e2, e3⟩ := h
    exact ⟨a, vs, e1, sql_mono e.F e2, RepL.mono e xs vs e3⟩
  | .dct t ks xs, v, h => by
    simp only [Rep] at h ⊢
    obtain ⟨a, vs, e1, e2, e3⟩ := h
    exact ⟨a, vs, e1, e2.mono (e.F a), RepL.mono e xs vs e3⟩
  | .ins c ids xs, v, h => by
    simp only [Rep] at h ⊢
    obtain ⟨a, dx, fs, e1, e2, e3, e4⟩ := h
    exact ⟨a, dx, fs, e1, e.F _ _ e2, e3, RepL.mono e xs _ e4⟩
  | .ref n, v, h => by
    simp only [Rep] at h ⊢
    obtain ⟨a, e1, e2⟩ := h
    exact ⟨a, e.m _ _ e1, e2⟩
theorem RepL.mono {G : Gm} {L L' : Lk} (e : L.Le L') : ∀ (ds : List D) (vs : List V), RepL G L ds vs → RepL G L' ds vs
  | [], vs, h => by simpa [RepL] using h
  | d :: ds, vs, h => by
    simp only [RepL] at h ⊢
    obtain ⟨v, r, e1, e2, e3⟩ := h
    exact ⟨v, r, e1, Rep.mono e d v e2, RepL.mono e ds r e3⟩
end
section
variable {G : Gm} {L L' : Lk} {H H' : Hp} {S S' : Store}
theorem CellOk.mono {a : Addr} {d : D} (e : L.Le L') (hk : ∀ o, H a = some o → H' a = some o) (h : CellOk G L H a d) : CellOk G L' H' a d := by
  cases d with
  | lst xs => obtain ⟨vs, e1, e2⟩ := h; exact ⟨vs, hk _ e1, RepL.mono e _ _ e2⟩
  | dct t ks xs => obtain ⟨vs, e1, e2⟩ := h; exact ⟨vs, e1.mono hk, RepL.mono e _ _ e2⟩
  | ins c ids xs => obtain ⟨dx, fs, e1, e2, e3⟩ := h; exact ⟨dx, fs, hk _ e1, e2, RepL.mono e _ _ e3⟩
  | _ => exact h
theorem repL_length : ∀ {ds : List D} {vs : List V}, RepL G L ds vs → ds.length = vs.length
  | [], vs, h => by simp only [RepL] at h; rw [h]; rfl
  | d :: ds, vs, h => by
    simp only [RepL] at h
    obtain ⟨v, r, e1, _, e3⟩ := h
    rw [e1, List.length_cons, List.length_cons, repL_length e3]
theorem repL_get : ∀ {ds : List D} {vs : List V} {i : Nat} {d : D}, RepL G L ds vs → ds[i]? = some d → ∃ v, vs[i]? = some v ∧ Rep G L d v
  | [], vs, i, d, h, q => by simp at q
  | d0 :: ds, vs, i, d, h, q => by
    simp only [RepL] at h
    obtain ⟨v, r, e1, e2, e3⟩ := h
    cases i with
    | zero =>
      have q' : d0 = d := Option.some.inj q
      rw [e1, ← q']
      exact ⟨v, rfl, e2⟩
    | succ i =>
      rw [e1]
      exact repL_get (i := i) e3 q
theorem repL_get' : ∀ {ds : List D} {vs : List V} {i : Nat} {v : V}, RepL G L ds vs → vs[i]? = some v → ∃ d, ds[i]? = some d ∧ Rep G L d v := fun {ds vs i v} h q => by
  have hl := repL_length h
  have hi := (List.getElem?_eq_some_iff.mp q).1
  have hd : ds[i]? = some (ds[i]'(by omega)) := List.getElem?_eq_getElem _
  obtain ⟨v', q', r⟩ := repL_get h hd
  rw [q] at q'
  cases q'
  exact ⟨_, hd, r⟩
theorem repL_append : ∀ {ds es : List D} {vs ws : List V}, RepL G L ds vs → RepL G L es ws → RepL G L (ds ++ es) (vs ++ ws)
  | [], es, vs, ws, h, q => by simp only [RepL] at h; rw [h]; exact q
  | d :: ds, es, vs, ws, h, q => by
    simp only [RepL] at h
    obtain ⟨v, r, e1, e2, e3⟩ := h
    rw [e1]
    show RepL G L (d :: (ds ++ es)) (v :: (r ++ ws))
    simp only [RepL]
    exact ⟨v, _, rfl, e2, repL_append e3 q⟩
theorem repL_one {d : D} {v : V} (h : Rep G L d v) : RepL G L [d] [v] := by
  simp only [RepL]
  exact ⟨v, [], rfl, h, rfl⟩
theorem repL_nil : RepL G L [] [] := by simp only [RepL]
theorem repL_cons {d : D} {v : V} {ds : List D} {vs : List V} (h : Rep G L d v) (q : RepL G L ds vs) : RepL G L (d :: ds) (v :: vs) := by
  simp only [RepL]
  exact ⟨v, vs, rfl, h, q⟩
theorem repL_set : ∀ {ds : List D} {vs : List V} (i : Nat) {d : D} {v : V}, RepL G L ds vs → Rep G L d v → RepL G L (ds.set i d) (vs.set i v)
  | [], vs, i, d, v, h, q => by simp only [RepL] at h; rw [h]; simp [RepL]
  | d0 :: ds, vs, i, d, v, h, q => by
    simp only [RepL] at h
    obtain ⟨v0, r, e1, e2, e3⟩ := h
    rw [e1]
    cases i with
    | zero => exact repL_cons q e3
    | succ i => exact repL_cons e2 (repL_set i e3 q)
theorem repL_take : ∀ {ds : List D} {vs : List V} (n : Nat), RepL G L ds vs → RepL G L (ds.take n) (vs.take n)
  | _, _, 0, _ => by simp [RepL]
  | [], vs, n + 1, h => by simp only [RepL] at h; rw [h]; simp [RepL]
  | d :: ds, vs, n + 1, h => by
    simp only [RepL] at h
    obtain ⟨v, r, e1, e2, e3⟩ := h
    rw [e1]
    exact repL_cons e2 (repL_take n e3)
theorem repL_drop : ∀ {ds : List D} {vs : List V} (n : Nat), RepL G L ds vs → RepL G L (ds.drop n) (vs.drop n)
  | _, _, 0, h => h
  | [], vs, n + 1, h => by simp only [RepL] at h; rw [h]; simp [RepL]
  | d :: ds, vs, n + 1, h => by
    simp only [RepL] at h
    obtain ⟨v, r, e1, e2, e3⟩ := h
    rw [e1]
    exact repL_drop n e3

/-- a new frozen object (a tuple) -/
def Lk.frz (L : Lk) (p : Addr) (o : HO) : Lk := ⟨upd L.F p o, L.m⟩
theorem le_frz {p : Addr} {o : HO} (hp : L.F p = none) : L.Le (L.frz p o) := ⟨fun a u h => by
  show upd L.F p o a = some u
  rw [upd_ne (ne_of_none h hp)]
  exact h, fun _ _ h => h⟩
theorem sim_none (s : Sim G L S H) {p : Addr} (hp : H p = none) : L.F p = none ∧ p ∉ L.m := by
  constructor
  · cases q : L.F p with
    | none => rfl
    | some o =>
      rcases s.le p o q with z | ⟨_, ob, z⟩ <;> (rw [hp] at z; cases z)
  · intro h
    obtain ⟨n, hn⟩ := List.getElem?_of_mem h
    have hlt := (List.getElem?_eq_some_iff.mp hn).1
    have hS : S[n]? = some (S[n]'(by have := s.len; omega)) := List.getElem?_eq_getElem _
    have c := s.cell n _ p hS hn
    generalize S[n]'(by have := s.len; omega) = d at c
    cases d with
    | lst xs => obtain ⟨vs, e1, _⟩ := c; rw [hp] at e1; cases e1
    | dct t ks xs => obtain ⟨vs, e1, _⟩ := c; cases t <;> (obtain ⟨kvs, e1, _⟩ := e1; rw [hp] at e1; cases e1)
    | ins c ids xs => obtain ⟨dx, fs, e1, _⟩ := c; rw [hp] at e1; cases e1
    | _ => exact c
/-- a new object is laid and frozen -/
theorem sim_frz (s : Sim G L S H) {p : Addr} {o : HO} (hp : H p = none) : Sim G (L.frz p o) S (upd H p o) ∧ Ext L H (L.frz p o) (upd H p o) := by
  obtain ⟨hF, hm⟩ := sim_none s hp
  have hle : L.Le (L.frz p o) := le_frz hF
  have hk : ∀ a u, H a = some u → upd H p o a = some u := fun a u h => by
    rw [upd_ne (ne_of_none h hp)]
    exact h
  refine ⟨⟨fun a u h => ?_, s.len, s.nd, fun a ha => ?_, fun n d a e1 e2 => (s.cell n d a e1 e2).mono hle (hk a)⟩, ⟨hle.F, ⟨[], (List.append_nil _).symm⟩, fun a h => .inl h, fun a u h => ?_, fun a u h _ => hk a u h⟩⟩
  · by_cases e : a = p
    · subst e
      have h' : upd L.F a o a = some u := h
      rw [upd_same] at h'
      exact .inl (by rw [upd_same]; exact h')
    · have h' : upd L.F p o a = some u := h
      rw [upd_ne e] at h'
      rw [upd_ne e]
      exact s.le a u h'
  · show upd L.F p o a = none
    rw [upd_ne (fun e => hm (by rw [← e]; exact ha))]
    exact s.fr a ha
  · by_cases e : a = p
    · subst e
      exact .inr (.inl hp)
    · have h' : upd L.F p o a = some u := h
      rw [upd_ne e] at h'
      exact .inl h'
/-- a new object is laid as a cell -/
def Lk.add (L : Lk) (p : Addr) : Lk := ⟨L.F, L.m ++ [p]⟩
theorem le_add {p : Addr} : L.Le (L.add p) := ⟨fun _ _ h => h, fun n a h => by
  show (L.m ++ [p])[n]? = some a
  rw [List.getElem?_append_left (List.getElem?_eq_some_iff.mp h).1]
  exact h⟩
theorem sim_add (s : Sim G L S H) {p : Addr} {o : HO} {d : D} (hp : H p = none) (hc : CellOk G (L.add p) (upd H p o) p d) : Sim G (L.add p) (S ++ [d]) (upd H p o) ∧ Ext L H (L.add p) (upd H p o) := by
  obtain ⟨hF, hm⟩ := sim_none s hp
  have hk : ∀ a u, H a = some u → upd H p o a = some u := fun a u h => by
    rw [upd_ne (ne_of_none h hp)]
    exact h
  have hlen := s.len
  refine ⟨⟨fun a u h => ?_, ?_, ?_, fun a ha => ?_, fun n d' a e1 e2 => ?_⟩, ⟨fun _ _ h => h, ⟨[p], rfl⟩, fun a h => ?_, fun a u h => .inl h, fun a u h _ => hk a u h⟩⟩
  · rcases s.le a u h with z | ⟨z1, ob, z2⟩
    · exact .inl (hk a u z)
    · exact .inr ⟨z1, ob, hk _ _ z2⟩
  · show (L.m ++ [p]).length = (S ++ [d]).length
    rw [List.length_append, List.length_append, hlen]
    rfl
  · show (L.m ++ [p]).Nodup
    rw [List.nodup_append]
    exact ⟨s.nd, by simp, fun a ha b hb => by
      rw [List.mem_singleton] at hb
      intro e
      exact hm (by rw [← hb, ← e]; exact ha)⟩
  · have ha' : a ∈ L.m ++ [p] := ha
    rw [List.mem_append, List.mem_singleton] at ha'
    rcases ha' with z | z
    · exact s.fr a z
    · rw [z]; exact hF
  · have e2' : (L.m ++ [p])[n]? = some a := e2
    by_cases hn : n < S.length
    · rw [List.getElem?_append_left hn] at e1
      rw [List.getElem?_append_left (by omega)] at e2'
      exact (s.cell n d' a e1 e2').mono le_add (hk a)
    · rw [List.getElem?_append_right (by omega)] at e1
      rw [List.getElem?_append_right (by omega), hlen] at e2'
      have hz : n - S.length = 0 := by
        have := (List.getElem?_eq_some_iff.mp e1).1
        simp at this
        omega
      rw [hz] at e1 e2'
      have a1 : d = d' := Option.some.inj e1
      have a2 : p = a := Option.some.inj e2'
      rw [← a1, ← a2]
      exact hc
  · have h' : a ∈ L.m ++ [p] := h
    rw [List.mem_append, List.mem_singleton] at h'
    rcases h' with z | z
    · exact .inl z
    · rw [z]; exact .inr hp
/-- a cell's object changes -/
theorem sim_set (s : Sim G L S H) {n : Nat} {p : Addr} {o : HO} {d : D} (hn : L.m[n]? = some p) (hc : CellOk G L (upd H p o) p d) : Sim G L (S.set n d) (upd H p o) ∧ Ext L H L (upd H p o) := by
  have hpm : p ∈ L.m := List.mem_of_getElem? hn
  have hF := s.fr p hpm
  refine ⟨⟨fun a u h => ?_, by rw [List.length_set]; exact s.len, s.nd, s.fr, fun k d' a e1 e2 => ?_⟩, ⟨fun _ _ h => h, ⟨[], (List.append_nil _).symm⟩, fun a h => .inl h, fun a u h => .inl h, fun a u h hm => ?_⟩⟩
  · have ne : a ≠ p := ne_of_none h hF
    rw [upd_ne ne]
    exact s.le a u h
  · by_cases e : n = k
    · subst e
      have hlt : n < S.length := by
        have := (List.getElem?_eq_some_iff.mp hn).1
        have := s.len
        omega
      rw [List.getElem?_set_self hlt] at e1
      rw [hn] at e2
      cases e1
      cases e2
      exact hc
    · rw [List.getElem?_set_ne e] at e1
      have ne : a ≠ p := fun z => by
        subst z
        exact e ((List.getElem?_inj (List.getElem?_eq_some_iff.mp hn).1 s.nd).mp (hn.trans e2.symm))
      exact (s.cell k d' a e1 e2).mono ⟨fun _ _ h => h, fun _ _ h => h⟩ fun u h => by
        rw [upd_ne ne]
        exact h
  · rw [upd_ne (fun z => hm (by rw [z]; exact hpm))]
    exact h
end
end Pe
set_option Elab.async false
set_option linter.all false
set_option maxRecDepth 100000
set_option maxHeartbeats 2000000
/-! expressions -/
namespace Pe
open PySem PySem.Spec PyProof.Rows L2

structure Ec where
  call : Nat → List D → Store → Option (D × Store)
  lend : Nat → Bool
  init : Nat → Option Nat
  meth : Nat → Nat → Option Nat
  prop : Nat → Nat → Option Nat
  fuel : Nat
abbrev Env := List (Option D)
abbrev Ex := Ec → Env → Store → Option (D × Store)
abbrev Tx := Ec → Env → Store → Option (Bool × Store)
abbrev Ax := Ec → Env → Store → Option (List D × Store)

def EnvOk (G : Gm) (L : Lk) (env : Env) (σ : L2.St) : Prop := env.length = σ.length ∧ ∀ (i : Nat) (d : D), env[i]? = some (some d) → ∃ v, σ[i]? = some (some v) ∧ Rep G L d v
def tE (G : Gm) (c : Ec) (E : Ex) : TE := fun σ H Q => ∃ L env S d S', EnvOk G L env σ ∧ Sim G L S H ∧ E c env S = some (d, S') ∧ ∀ L' v H', Ext L H L' H' → Sim G L' S' H' → Rep G L' d v → Q v H'
def tT (G : Gm) (c : Ec) (E : Tx) : TT := fun σ H Q => ∃ L env S b S', EnvOk G L env σ ∧ Sim G L S H ∧ E c env S = some (b, S') ∧ ∀ L' H', Ext L H L' H' → Sim G L' S' H' → Q b H'
def tA (G : Gm) (c : Ec) (E : Ax) : TA := fun σ H Q => ∃ L env S ds S', EnvOk G L env σ ∧ Sim G L S H ∧ E c env S = some (ds, S') ∧ ∀ L' vs H', Ext L H L' H' → Sim G L' S' H' → RepL G L' ds vs → Q vs H'
theorem EnvOk.mono {G : Gm} {L L' : Lk} {env : Env} {σ : L2.St} (h : EnvOk G L env σ) (e : L.Le L') : EnvOk G L' env σ := ⟨h.1, fun i d q => by
  obtain ⟨v, q1, q2⟩ := h.2 i d q
  exact ⟨v, q1, q2.mono e⟩⟩
theorem EnvOk.set {G : Gm} {L : Lk} {env : Env} {σ : L2.St} (h : EnvOk G L env σ) {i : Nat} {d : D} {v : V} (r : Rep G L d v) : EnvOk G L (env.set i (some d)) (σ.set i (some v)) := ⟨by rw [List.length_set, List.length_set, h.1], fun j d' q => by
  by_cases e : i = j
  · subst e
    by_cases hl : i < env.length
    · rw [List.getElem?_set_self hl] at q
      cases q
      rw [List.getElem?_set_self (by rw [← h.1]; exact hl)]
      exact ⟨v, rfl, r⟩
    · rw [List.getElem?_eq_none (by rw [List.length_set]; omega)] at q
      cases q
  · rw [List.getElem?_set_ne e] at q
    rw [List.getElem?_set_ne e]
    exact h.2 j d' q⟩

theorem _root_.L2.PE.imp {X : Cx} {e : Expr} {t t' : TE} (h : PE X e t) (hi : ∀ (pins : List (Addr × Obj)) (s : Shared) (σ : L2.St) (H : Hp) (Q : VK), Inv X pins σ H s → t' σ H Q → t σ H Q) : PE X e t' := ⟨fun pins s σ H Q I hw => h.run pins s σ H Q I (hi pins s σ H Q I hw)⟩
theorem _root_.L2.PT.imp {X : Cx} {e : Expr} {t t' : TT} (h : PT X e t) (hi : ∀ (pins : List (Addr × Obj)) (s : Shared) (σ : L2.St) (H : Hp) (Q : Bool → Hp → Prop), Inv X pins σ H s → t' σ H Q → t σ H Q) : PT X e t' := ⟨fun pins s σ H Q I hw => h.run pins s σ H Q I (hi pins s σ H Q I hw)⟩
theorem _root_.L2.PW.imp {X : Cx} {e : Expr} {t t' : TT} (h : PW X e t) (hi : ∀ (pins : List (Addr × Obj)) (s : Shared) (σ : L2.St) (H : Hp) (Q : Bool → Hp → Prop), Inv X pins σ H s → t' σ H Q → t σ H Q) : PW X e t' := ⟨fun wh pins s σ H Q I hw => h.run wh pins s σ H Q I (hi pins s σ H Q I hw)⟩
theorem _root_.L2.PA.imp {X : Cx} {e : List Expr} {t t' : TA} (h : PA X e t) (hi : ∀ (pins : List (Addr × Obj)) (s : Shared) (σ : L2.St) (H : Hp) (Q : List V → Hp → Prop), Inv X pins σ H s → t' σ H Q → t σ H Q) : PA X e t' := ⟨fun pos pins s σ H Q I hw => h.run pos pins s σ H Q I (hi pins s σ H Q I hw)⟩

section
variable {X : Cx} {G : Gm} {c : Ec}

/-! ### names, constants -/
def eVar (i : Nat) : Ex := fun _ env S => match env[i]? with
  | some (some d) => some (d, S)
  | _ => none
theorem e_var {i : Nat} {x : Str} {pos : Pos} (h : PE X (.Name x pos) (tVar i)) : PE X (.Name x pos) (tE G c (eVar i)) := h.imp fun pins s σ H Q I ⟨L, env, S, d, S', he, hs, hE, k⟩ => by
  unfold eVar at hE
  split at hE
  · rename_i d' q
    cases hE
    obtain ⟨v, q1, q2⟩ := he.2 i _ q
    exact ⟨v, q1, k L v H (.refl L H) hs q2⟩
  · cases hE
def eC (d : D) : Ex := fun _ _ S => some (d, S)
theorem e_c {e : Expr} {d : D} {v : V} (h : PE X e (tC v)) (r : ∀ L, Rep G L d v) : PE X e (tE G c (eC d)) := h.imp fun pins s σ H Q I ⟨L, env, S, d', S', he, hs, hE, k⟩ => by
  cases hE
  exact k L v H (.refl L H) hs (r L)
theorem e_int {i : Int} {j pos} : PE X (.Constant (.int i) j pos) (tE G c (eC (.int i))) := e_c pe_int fun L => by simp [Rep]
theorem e_bl {b j pos} : PE X (.Constant (.bool b) j pos) (tE G c (eC (.bl b))) := e_c pe_bl fun L => by simp [Rep]
theorem e_non {j pos} : PE X (.Constant .none j pos) (tE G c (eC .non)) := e_c pe_non fun L => by simp [Rep]
theorem stO_list (x : Str) : stO x.cps.toList = x := by
  obtain ⟨a⟩ := x
  simp [stO]
theorem e_str {x : Str} {j pos} (h : x.cps.toList.all (fun x => decide (x < 1114112)) = true) : PE X (.Constant (.str x) j pos) (tE G c (eC (.str x.cps.toList))) := e_c pe_str fun L => by
  simp only [Rep]
  exact ⟨by rw [stO_list], h⟩
theorem e_glob {x : Str} {u : Value} {pos : Pos} {d : D} (hg : Gl X x) (hm : X.mg x = some u) (r : ∃ v, RelV v u ∧ ∀ L, Rep G L d v) (hd : (x == ("__debug__" : Str)) = false) : PE X (.Name x pos) (tE G c (eC d)) := by
  obtain ⟨v, r1, r2⟩ := r
  exact e_c (pe_glob hg hm r1 hd) r2

/-! ### two operands -/
abbrev Op2 := D → D → Store → Option (D × Store)
def eBin (o : Op2) (a b : Ex) : Ex := fun c env S => (a c env S).bind fun p => (b c env p.2).bind fun q => o p.1 q.1 q.2
def rO (G : Gm) (o : Op2) : R2 := fun x y H Q => ∃ L S a b z S', Sim G L S H ∧ Rep G L a x ∧ Rep G L b y ∧ o a b S = some (z, S') ∧ ∀ L' v H', Ext L H L' H' → Sim G L' S' H' → Rep G L' z v → Q v H'
theorem bin_imp {o : Op2} {A B : Ex} {σ : L2.St} {H : Hp} {Q : VK} (h : tE G c (eBin o A B) σ H Q) : tOp (rO G o) (tE G c A) (tE G c B) σ H Q := by
  obtain ⟨L, env, S, d, S', he, hs, hE, k⟩ := h
  unfold eBin at hE
  obtain ⟨⟨a, S1⟩, hA, hE⟩ := Option.bind_eq_some_iff.mp hE
  obtain ⟨⟨b, S2⟩, hB, hE⟩ := Option.bind_eq_some_iff.mp hE
  refine ⟨L, env, S, a, S1, he, hs, hA, fun L1 x H1 e1 s1 r1 => ?_⟩
  refine ⟨L1, env, S1, b, S2, he.mono e1.le, s1, hB, fun L2 y H2 e2 s2 r2 => ?_⟩
  exact ⟨L2, S2, a, b, d, S', s2, r1.mono e2.le, r2, hE, fun L3 v H3 e3 s3 r3 => k L3 v H3 ((e1.trans e2).trans e3) s3 r3⟩
theorem e_bin {op : Operator} {o : Op2} {a b : Expr} {A B : Ex} {pos : Pos} (ho : OpR X (binaryOp op) (rO G o)) (ha : PE X a (tE G c A)) (hb : PE X b (tE G c B)) : PE X (.BinOp a op b pos) (tE G c (eBin o A B)) :=
  (pe_op ho ha hb).imp fun _ _ _ _ _ _ h => bin_imp h
theorem e_cmp {op : CmpOp} {o : Op2} {a b : Expr} {A B : Ex} {pos : Pos} (ho : OpR X (compareOp op) (rO G o)) (ha : PE X a (tE G c A)) (hb : PE X b (tE G c B)) (hm : behindInMarks op b = false) : PE X (.Compare a [op] [b] pos) (tE G c (eBin o A B)) :=
  (pe_cmpR ho ha hb hm).imp fun _ _ _ _ _ _ h => bin_imp h

/-- a cell's content, or the thing itself -/
def look (S : Store) : D → Option D
  | .ref n => S[n]?
  | d => some d
/-- a list that is tracked -/
def seqM (S : Store) (d : D) : Option (List D) := match look S d with
  | some (.lst xs) => some xs
  | _ => none
theorem FLe.lst {F H : Hp} {a : Addr} {vs : List V} (h : FLe F H) (q : F a = some (.lst vs)) : H a = some (.lst vs) := by
  rcases h a _ q with z | ⟨z, _⟩
  · exact z
  · cases z
theorem rep_seqM {L : Lk} {S : Store} {H : Hp} {d : D} {xs : List D} {v : V} (s : Sim G L S H) (r : Rep G L d v) (h : seqM S d = some xs) : ∃ a vs, v = .ref a ∧ H a = some (.lst vs) ∧ RepL G L xs vs := by
  unfold seqM at h
  split at h
  · rename_i ys q
    cases h
    unfold look at q
    split at q
    · rename_i n
      simp only [Rep] at r
      obtain ⟨a, e1, e2⟩ := r
      obtain ⟨vs, c1, c2⟩ := s.cell n _ a q e1
      exact ⟨a, vs, e2, c1, c2⟩
    · cases q
      simp only [Rep] at r
      obtain ⟨a, vs, e1, e2, e3⟩ := r
      exact ⟨a, vs, e1, s.le.lst e2, e3⟩
  · cases h
/-- a list to be read -/
def seqL (S : Store) (d : D) : Option (List D) := match d with
  | .scr xs => some xs
  | d => seqM S d
theorem rep_seqL {L : Lk} {S : Store} {H : Hp} {d : D} {xs : List D} {v : V} (hK : G.K = X.K) (s : Sim G L S H) (r : Rep G L d v) (h : seqL S d = some xs) : ∃ a vs, v = .ref a ∧ SqL X.K H a vs ∧ RepL G L xs vs := by
  unfold seqL at h
  split at h
  · cases h
    simp only [Rep] at r
    obtain ⟨a, vs, e1, e2, e3⟩ := r
    rw [hK] at e2
    exact ⟨a, vs, e1, s.le.sql e2, e3⟩
  · obtain ⟨a, vs, e1, e2, e3⟩ := rep_seqM s r h
    exact ⟨a, vs, e1, .of e2, e3⟩
def seqT : D → Option (List D)
  | .tup xs => some xs
  | _ => none
theorem rep_seqT {L : Lk} {S : Store} {H : Hp} {d : D} {xs : List D} {v : V} (hK : G.K = X.K) (s : Sim G L S H) (r : Rep G L d v) (h : seqT d = some xs) : ∃ a vs, v = .ref a ∧ SqT X.K H a vs ∧ RepL G L xs vs := by
  cases d with
  | tup ys =>
    cases h
    simp only [Rep] at r
    obtain ⟨a, vs, e1, e2, e3⟩ := r
    rw [hK] at e2
    exact ⟨a, vs, e1, s.le.sqt e2, e3⟩
  | _ => cases h
/-- a list or a tuple -/
def seqX (S : Store) (d : D) : Option (List D) := match seqT d with
  | some xs => some xs
  | none => seqL S d
theorem rep_seqX {L : Lk} {S : Store} {H : Hp} {d : D} {xs : List D} {v : V} (hK : G.K = X.K) (s : Sim G L S H) (r : Rep G L d v) (h : seqX S d = some xs) : ∃ a vs, v = .ref a ∧ (SqL X.K H a vs ∨ SqT X.K H a vs) ∧ RepL G L xs vs := by
  unfold seqX at h
  split at h
  · rename_i ys q
    cases h
    obtain ⟨a, vs, e1, e2, e3⟩ := rep_seqT hK s r q
    exact ⟨a, vs, e1, .inr e2, e3⟩
  · obtain ⟨a, vs, e1, e2, e3⟩ := rep_seqL hK s r h
    exact ⟨a, vs, e1, .inl e2, e3⟩
/-- a new tuple -/
theorem new_tup {L : Lk} {S : Store} {H : Hp} {xs : List D} {vs : List V} (s : Sim G L S H) (r : RepL G L xs vs) {p : Addr} (hp : H p = none) : ∃ L', Ext L H L' (upd H p (.tup vs)) ∧ Sim G L' S (upd H p (.tup vs)) ∧ Rep G L' (.tup xs) (.ref p) := by
  obtain ⟨s1, e1⟩ := sim_frz (o := .tup vs) s hp
  refine ⟨_, e1, s1, ?_⟩
  simp only [Rep]
  exact ⟨p, vs, rfl, .of upd_same, RepL.mono e1.le _ _ r⟩
/-- a new list -/
theorem new_lst {L : Lk} {S : Store} {H : Hp} {xs : List D} {vs : List V} (s : Sim G L S H) (r : RepL G L xs vs) {p : Addr} (hp : H p = none) : ∃ L', Ext L H L' (upd H p (.lst vs)) ∧ Sim G L' (S ++ [.lst xs]) (upd H p (.lst vs)) ∧ Rep G L' (.ref S.length) (.ref p) := by
  have hc : CellOk G (L.add p) (upd H p (.lst vs)) p (.lst xs) := ⟨vs, upd_same, RepL.mono le_add _ _ r⟩
  obtain ⟨s1, e1⟩ := sim_add s hp hc
  refine ⟨_, e1, s1, ?_⟩
  simp only [Rep]
  refine ⟨p, ?_, rfl⟩
  show (L.m ++ [p])[S.length]? = some p
  rw [← s.len, List.getElem?_append_right (Nat.le_refl _), Nat.sub_self]
  rfl

/-! ### arithmetic -/
def fits (i : Int) : Bool := decide (i.natAbs < 2 ^ 3000)
theorem fits_lt {i : Int} (h : fits i = true) : i.natAbs < 2 ^ 3000 := of_decide_eq_true h
/-- a str's length -/
theorem stO_length (c : Cs) : (stO c).length = c.length := by
  show c.toArray.size = c.length
  simp
theorem stO_app (a b : Cs) : stO a ++ stO b = stO (a ++ b) := by
  show (⟨a.toArray ++ b.toArray⟩ : Str) = ⟨(a ++ b).toArray⟩
  rw [List.append_toArray]
theorem rep_int {L : Lk} {i : Int} {v : V} (r : Rep G L (.int i) v) : v = .int i := by simpa [Rep] using r
theorem rep_bl {L : Lk} {i : Bool} {v : V} (r : Rep G L (.bl i) v) : v = .bl i := by simpa [Rep] using r
theorem rep_non {L : Lk} {v : V} (r : Rep G L .non v) : v = .non := by simpa [Rep] using r
theorem rep_str {L : Lk} {x : Cs} {v : V} (r : Rep G L (.str x) v) : v = .str (stO x) ∧ x.all (fun x => decide (x < 1114112)) = true := by simpa [Rep] using r
theorem rep_of_int {L : Lk} {i : Int} : Rep G L (.int i) (.int i) := by simp [Rep]
theorem rep_of_bl {L : Lk} {i : Bool} : Rep G L (.bl i) (.bl i) := by simp [Rep]
theorem rep_of_non {L : Lk} : Rep G L .non .non := by simp [Rep]
theorem rep_of_str {L : Lk} {x : Cs} (h : x.all (fun x => decide (x < 1114112)) = true) : Rep G L (.str x) (.str (stO x)) := by simp only [Rep]; exact ⟨trivial, h⟩
def oAdd : Op2 := fun a b S => match a, b with
  | .int i, .int j => some (.int (i + j), S)
  | .str x, .str y => if x.length + y.length ≤ sizeLine then some (.str (x ++ y), S) else none
  | .tup x, .tup y => if x.length + y.length ≤ sizeLine then some (.tup (x ++ y), S) else none
  | a, b => match seqM S a, seqM S b with
    | some x, some y => if x.length + y.length ≤ sizeLine then some (.ref S.length, S ++ [.lst (x ++ y)]) else none
    | _, _ => none
theorem op_oAdd (hK : G.K = X.K) : OpR X (binaryOp .Add) (rO G oAdd) := by
  intro pins s σ H x y v u Q I rx ry h
  obtain ⟨L, S, a, b, z, S', hs, ra, rb, hE, k⟩ := h
  unfold oAdd at hE
  split at hE
  · cases hE
    have e1 := rep_int ra
    have e2 := rep_int rb
    subst e1 e2
    exact op_add pins s σ H _ _ v u Q I rx ry ⟨_, _, rfl, rfl, k L _ H (.refl L H) hs rep_of_int⟩
  · split at hE
    · rename_i hz
      cases hE
      obtain ⟨e1, h1⟩ := rep_str ra
      obtain ⟨e2, h2⟩ := rep_str rb
      subst e1 e2
      refine op_add_str pins s σ H _ _ v u Q I rx ry ⟨_, _, rfl, rfl, by rw [stO_length, stO_length]; exact hz, ?_⟩
      rw [stO_app]
      exact k L _ H (.refl L H) hs (rep_of_str (by rw [List.all_append, h1, h2]; rfl))
    · cases hE
  · rename_i xs ys
    split at hE
    · rename_i hz
      cases hE
      obtain ⟨p, vs, e1, t1, r1⟩ := rep_seqT hK hs ra rfl
      obtain ⟨q, ws, e2, t2, r2⟩ := rep_seqT hK hs rb rfl
      subst e1 e2
      have l1 := repL_length r1
      have l2 := repL_length r2
      refine op_catA pins s σ H _ _ v u Q I rx ry ⟨p, q, vs, ws, rfl, rfl, t1, t2, by omega, fun e => ?_, fun _ e => ?_, fun _ _ pp hp => ?_⟩
      · subst e
        have : xs = [] := List.length_eq_zero_iff.mp (by simpa using l1)
        subst this
        exact k L _ H (.refl L H) hs rb
      · subst e
        have : ys = [] := List.length_eq_zero_iff.mp (by simpa using l2)
        subst this
        rw [List.append_nil] at k
        exact k L _ H (.refl L H) hs ra
      · obtain ⟨L', e', s', r'⟩ := new_tup hs (repL_append r1 r2) hp
        exact k L' _ _ e' s' r'
    · cases hE
  · split at hE
    · rename_i xs ys q1 q2
      split at hE
      · rename_i hz
        cases hE
        obtain ⟨p, vs, e1, t1, r1⟩ := rep_seqM hs ra q1
        obtain ⟨q, ws, e2, t2, r2⟩ := rep_seqM hs rb q2
        subst e1 e2
        have l1 := repL_length r1
        have l2 := repL_length r2
        refine op_cat pins s σ H _ _ v u Q I rx ry ⟨p, q, vs, ws, rfl, rfl, t1, t2, by omega, fun pp hp => ?_⟩
        obtain ⟨L', e', s', r'⟩ := new_lst hs (repL_append r1 r2) hp
        exact k L' _ _ e' s' r'
      · cases hE
    · cases hE
/-- two ints, an int -/
def oI (c : Int → Int → Bool) (g : Int → Int → D) : Op2 := fun a b S => match a, b with
  | .int i, .int j => if c i j = true then some (g i j, S) else none
  | _, _ => none
theorem op_oI {f : Value → Value → Sem Value} {c : Int → Int → Bool} {g : Int → Int → D} {C : Int → Int → Prop} {g' : Int → Int → V} (h : OpR X f (rI C g')) (hc : ∀ i j, c i j = true → C i j ∧ ∀ L, Rep G L (g i j) (g' i j)) : OpR X f (rO G (oI c g)) := by
  intro pins s σ H x y v u Q I rx ry q
  obtain ⟨L, S, a, b, z, S', hs, ra, rb, hE, k⟩ := q
  unfold oI at hE
  split at hE
  · split at hE
    · rename_i i j e
      cases hE
      have e1 := rep_int ra
      have e2 := rep_int rb
      subst e1 e2
      obtain ⟨h1, h2⟩ := hc _ _ e
      exact h pins s σ H _ _ v u Q I rx ry ⟨_, _, rfl, rfl, h1, k L _ H (.refl L H) hs (h2 L)⟩
    · cases hE
  · cases hE
def oI0 (g : Int → Int → D) : Op2 := fun a b S => match a, b with
  | .int i, .int j => some (g i j, S)
  | _, _ => none
theorem op_oI0 {f : Value → Value → Sem Value} {g : Int → Int → D} {g' : Int → Int → V} (h : OpR X f (rI0 g')) (hc : ∀ i j L, Rep G L (g i j) (g' i j)) : OpR X f (rO G (oI0 g)) := by
  intro pins s σ H x y v u Q I rx ry q
  obtain ⟨L, S, a, b, z, S', hs, ra, rb, hE, k⟩ := q
  unfold oI0 at hE
  split at hE
  · cases hE
    have e1 := rep_int ra
    have e2 := rep_int rb
    subst e1 e2
    exact h pins s σ H _ _ v u Q I rx ry ⟨_, _, rfl, rfl, k L _ H (.refl L H) hs (hc _ _ L)⟩
  · cases hE
def oSub : Op2 := oI0 fun i j => .int (i - j)
def oMod : Op2 := oI (fun _ j => decide (0 < j)) fun i j => .int (i % j)
def oDiv : Op2 := oI (fun _ j => decide (0 < j) && fits j) fun i j => .int (i / j)
def oMul : Op2 := oI (fun i j => fits i && fits j) fun i j => .int (i * j)
def oPow : Op2 := oI (fun i j => decide (0 ≤ j) && (decide (j ≤ 1000) && fits i)) fun i j => .int (i ^ j.toNat)
def oLt : Op2 := oI0 fun i j => .bl (decide (i < j))
def oLe : Op2 := oI0 fun i j => .bl (decide (i ≤ j))
def oGt : Op2 := oI0 fun i j => .bl (decide (j < i))
def oGe : Op2 := oI0 fun i j => .bl (decide (j ≤ i))
theorem op_oSub : OpR X (binaryOp .Sub) (rO G oSub) := op_oI0 op_sub fun _ _ _ => rep_of_int
theorem op_oLt : OpR X (compareOp .Lt) (rO G oLt) := op_oI0 op_lt fun _ _ _ => rep_of_bl
theorem op_oLe : OpR X (compareOp .LtE) (rO G oLe) := op_oI0 op_le fun _ _ _ => rep_of_bl
theorem op_oGt : OpR X (compareOp .Gt) (rO G oGt) := op_oI0 op_gt fun _ _ _ => rep_of_bl
theorem op_oGe : OpR X (compareOp .GtE) (rO G oGe) := op_oI0 op_ge fun _ _ _ => rep_of_bl
theorem op_oMod : OpR X (binaryOp .Mod) (rO G oMod) := op_oI op_mod fun _ _ h => ⟨of_decide_eq_true h, fun _ => rep_of_int⟩
theorem op_oDiv : OpR X (binaryOp .FloorDiv) (rO G oDiv) := op_oI op_fdivW fun _ _ h => by
  rw [Bool.and_eq_true] at h
  exact ⟨wide_div (of_decide_eq_true h.1) (fits_lt h.2) (by decide) (by decide), fun _ => rep_of_int⟩
theorem op_oMul : OpR X (binaryOp .Mult) (rO G oMul) := op_oI op_mulW fun _ _ h => by
  rw [Bool.and_eq_true] at h
  exact ⟨wide_mul (fits_lt h.1) (fits_lt h.2) (by decide) (by decide) (by decide), fun _ => rep_of_int⟩
theorem op_powW : OpR X (binaryOp .Pow) (rI (fun i j => 0 ≤ j ∧ j ≤ 1000 ∧ i.natAbs < 2 ^ 3000) fun i j => .int (i ^ j.toNat)) := opI fun i j _ _ _ _ _ hc q => by
  refine pow_int hc.1 ?_ q
  have h1 := PyProof.Rows.intBits_le hc.2.2
  have h2 := hc.2.1
  have h3 := hc.1
  have h4 : (Builtin.Int.intBits i : Int) * j ≤ 3000 * 1000 := by
    have a1 : (Builtin.Int.intBits i : Int) ≤ 3000 := by omega
    exact Int.mul_le_mul a1 h2 h3 (by omega)
  exact Int.le_trans h4 (by decide)
theorem op_oPow : OpR X (binaryOp .Pow) (rO G oPow) := op_oI op_powW fun _ _ h => by
  rw [Bool.and_eq_true, Bool.and_eq_true] at h
  exact ⟨⟨of_decide_eq_true h.1, of_decide_eq_true h.2.1, fits_lt h.2.2⟩, fun _ => rep_of_int⟩
end
end Pe
set_option Elab.async false
set_option linter.all false
set_option maxRecDepth 100000
set_option maxHeartbeats 2000000
/-! expressions, further: equality, in, is, isinstance, tests, displays, subscripts, built-ins -/
namespace Pe
open PySem PySem.Spec PyProof.Rows L2
section
variable {X : Cx} {G : Gm} {c : Ec}

/-! ### equality of data -/
def pd : Nat → Store → D → Option PyData
  | 0, _, _ => none
  | k + 1, S, d => match d with
    | .non => some .none
    | .bl b => some (.bool b)
    | .int i => some (.int i)
    | .str x => some (.str (stO x))
    | .tup xs => (xs.mapM (pd k S)).map .tuple
    | .lst xs => (xs.mapM (pd k S)).map .list
    | .ref n => match S[n]? with
      | some (.lst xs) => (xs.mapM (pd k S)).map .list
      | _ => none
    | _ => none
theorem strOk_stO {x : Cs} (h : x.all (fun x => decide (x < 1114112)) = true) : PyData.strOk (stO x) = true := by
  show (x.toArray).all (fun z => decide (z < 0x110000)) = true
  simpa using h
theorem pd_list {L : Lk} {S : Store} {H : Hp} {k : Nat} (ih : ∀ (d : D) (p : PyData) (v : V), Rep G L d v → pd k S d = some p → Dp X.K H v p ∧ p.canLay0 = true ∧ p.depth ≤ k) :
    ∀ (xs : List D) (ps : List PyData) (vs : List V), RepL G L xs vs → xs.mapM (pd k S) = some ps → DpAll X.K H vs ps ∧ PyData.canLayAll0 ps = true ∧ PyData.depthAll ps ≤ k
  | [], ps, vs, r, h => by
    simp only [RepL] at r
    subst r
    have e : ps = [] := by simpa using h.symm
    subst e
    exact ⟨.nil, by simp [PyData.canLayAll0], by simp [PyData.depthAll]⟩
  | d :: xs, ps, vs, r, h => by
    simp only [RepL] at r
    obtain ⟨v, rest, rfl, r1, r2⟩ := r
    rw [List.mapM_cons] at h
    obtain ⟨p, h1, h⟩ := Option.bind_eq_some_iff.mp h
    obtain ⟨qs, h2, h⟩ := Option.bind_eq_some_iff.mp h
    cases h
    obtain ⟨a1, a2, a3⟩ := ih d p v r1 h1
    obtain ⟨b1, b2, b3⟩ := pd_list ih xs qs rest r2 h2
    refine ⟨.cons a1 b1, ?_, ?_⟩
    · simp only [PyData.canLayAll0, a2, b2, Bool.and_self]
    · simp only [PyData.depthAll]
      omega
theorem pd_ok {L : Lk} {S : Store} {H : Hp} (hK : G.K = X.K) (s : Sim G L S H) : ∀ (k : Nat) (d : D) (p : PyData) (v : V), Rep G L d v → pd k S d = some p → Dp X.K H v p ∧ p.canLay0 = true ∧ p.depth ≤ k
  | 0, d, p, v, r, h => by cases h
  | k + 1, d, p, v, r, h => by
    have ih := pd_ok hK s k
    unfold pd at h
    split at h
    · cases h
      rw [rep_non r]
      exact ⟨.non, by simp [PyData.canLay0], by simp [PyData.depth]⟩
    · cases h
      rw [rep_bl r]
      exact ⟨.bl _, by simp [PyData.canLay0], by simp [PyData.depth]⟩
    · cases h
      rw [rep_int r]
      exact ⟨.int _, by simp [PyData.canLay0], by simp [PyData.depth]⟩
    · cases h
      obtain ⟨e, h⟩ := rep_str r
      rw [e]
      exact ⟨.str _, by simp only [PyData.canLay0]; exact strOk_stO h, by simp [PyData.depth]⟩
    · obtain ⟨ps, h1, h2⟩ := Option.map_eq_some_iff.mp h
      subst h2
      obtain ⟨a, vs, rfl, t1, r1⟩ := rep_seqT hK s r rfl
      obtain ⟨b1, b2, b3⟩ := pd_list ih _ _ _ r1 h1
      exact ⟨.tup t1 b1, by simp only [PyData.canLay0]; exact b2, by simp only [PyData.depth]; omega⟩
    · obtain ⟨ps, h1, h2⟩ := Option.map_eq_some_iff.mp h
      subst h2
      obtain ⟨a, vs, rfl, t1, r1⟩ := rep_seqM s r rfl
      obtain ⟨b1, b2, b3⟩ := pd_list ih _ _ _ r1 h1
      exact ⟨.lst (.of t1) b1, by simp only [PyData.canLay0]; exact b2, by simp only [PyData.depth]; omega⟩
    · rename_i n
      split at h
      · rename_i xs q
        obtain ⟨ps, h1, h2⟩ := Option.map_eq_some_iff.mp h
        subst h2
        have q2 : seqM S (.ref n) = some xs := by
          show (match S[n]? with | some (D.lst xs) => some xs | _ => none) = some xs
          rw [q]
        obtain ⟨a, vs, rfl, t1, r1⟩ := rep_seqM s r q2
        obtain ⟨b1, b2, b3⟩ := pd_list ih _ _ _ r1 h1
        exact ⟨.lst (.of t1) b1, by simp only [PyData.canLay0]; exact b2, by simp only [PyData.depth]; omega⟩
      · cases h
    · cases h
def oEq : Op2 := fun a b S => match pd 60 S a, pd 60 S b with
  | some p, some q => some (.bl (PyData.eqv p q), S)
  | _, _ => none
def oNe : Op2 := fun a b S => match pd 60 S a, pd 60 S b with
  | some p, some q => some (.bl (!PyData.eqv p q), S)
  | _, _ => none
theorem shaped_of {p : PyData} (h : p.canLay0 = true) (hd : p.depth ≤ 60) : SeqAt.shaped p = true := by
  unfold SeqAt.shaped
  rw [h, decide_eq_true (by omega)]
  rfl
theorem op_oEq (hK : G.K = X.K) (hu : X.A.units + 64 < cLine) : OpR X (compareOp .Eq) (rO G oEq) := by
  intro pins s σ H x y v u Q I rx ry h
  obtain ⟨L, S, a, b, z, S', hs, ra, rb, hE, k⟩ := h
  unfold oEq at hE
  split at hE
  · rename_i p q h1 h2
    cases hE
    obtain ⟨a1, a2, a3⟩ := pd_ok hK hs 60 _ _ _ ra h1
    obtain ⟨b1, b2, b3⟩ := pd_ok hK hs 60 _ _ _ rb h2
    exact op_eqD hu pins s σ H x y v u Q I rx ry ⟨p, q, a1, b1, shaped_of a2 a3, shaped_of b2 b3, k L _ H (.refl L H) hs rep_of_bl⟩
  · cases hE
theorem op_oNe (hK : G.K = X.K) (hu : X.A.units + 64 < cLine) : OpR X (compareOp .NotEq) (rO G oNe) := by
  intro pins s σ H x y v u Q I rx ry h
  obtain ⟨L, S, a, b, z, S', hs, ra, rb, hE, k⟩ := h
  unfold oNe at hE
  split at hE
  · rename_i p q h1 h2
    cases hE
    obtain ⟨a1, a2, a3⟩ := pd_ok hK hs 60 _ _ _ ra h1
    obtain ⟨b1, b2, b3⟩ := pd_ok hK hs 60 _ _ _ rb h2
    exact op_neD hu pins s σ H x y v u Q I rx ry ⟨p, q, a1, b1, shaped_of a2 a3, shaped_of b2 b3, k L _ H (.refl L H) hs rep_of_bl⟩
  · cases hE

/-! ### x in (flat things) -/
def flatD : D → Bool
  | .non | .bl _ | .int _ | .str _ => true
  | _ => false
def eqF : D → D → Bool
  | .non, .non => true
  | .bl a, .bl b => a == b
  | .bl a, .int b => (if a then 1 else 0) == b
  | .int a, .bl b => a == (if b then 1 else 0)
  | .int a, .int b => a == b
  | .str a, .str b => a == b
  | _, _ => false
def inF (x : D) (xs : List D) : Bool := xs.any fun y => eqF y x
theorem flat_rep {L : Lk} {d : D} {v : V} (r : Rep G L d v) (h : flatD d = true) : flatV v = true := by
  cases d with
  | non => rw [rep_non r]; rfl
  | bl b => rw [rep_bl r]; rfl
  | int i => rw [rep_int r]; rfl
  | str x => rw [(rep_str r).1]; rfl
  | _ => cases h
theorem stO_inj {a b : Cs} (h : stO a = stO b) : a = b := by
  have h' : a.toArray = b.toArray := congrArg Str.cps h
  have := congrArg Array.toList h'
  simpa using this
theorem stO_beq (a b : Cs) : (stO a == stO b) = (a == b) := by
  by_cases h : a = b
  · subst h
    simp
  · rw [beq_eq_false_iff_ne.mpr h, beq_eq_false_iff_ne.mpr (fun e => h (stO_inj e))]
theorem eq_rep {L : Lk} {d e : D} {v w : V} (r : Rep G L d v) (q : Rep G L e w) (h : flatD d = true) (h' : flatD e = true) : eqV v w = eqF d e := by
  cases d with
  | non => rw [rep_non r]; cases e with
    | non => rw [rep_non q]; rfl
    | bl b => rw [rep_bl q]; rfl
    | int i => rw [rep_int q]; rfl
    | str x => rw [(rep_str q).1]; rfl
    | _ => cases h'
  | bl b => rw [rep_bl r]; cases e with
    | non => rw [rep_non q]; rfl
    | bl b => rw [rep_bl q]; rfl
    | int i => rw [rep_int q]; rfl
    | str x => rw [(rep_str q).1]; rfl
    | _ => cases h'
  | int i => rw [rep_int r]; cases e with
    | non => rw [rep_non q]; rfl
    | bl b => rw [rep_bl q]; rfl
    | int i => rw [rep_int q]; rfl
    | str x => rw [(rep_str q).1]; rfl
    | _ => cases h'
  | str x => rw [(rep_str r).1]; cases e with
    | non => rw [rep_non q]; rfl
    | bl b => rw [rep_bl q]; rfl
    | int i => rw [rep_int q]; rfl
    | str y => rw [(rep_str q).1]; exact stO_beq x y
    | _ => cases h'
  | _ => cases h
theorem flats_rep {L : Lk} : ∀ {xs : List D} {vs : List V}, RepL G L xs vs → xs.all flatD = true → vs.all flatV = true
  | [], vs, r, _ => by simp only [RepL] at r; subst r; rfl
  | d :: xs, vs, r, h => by
    simp only [RepL] at r
    obtain ⟨v, rest, rfl, r1, r2⟩ := r
    rw [List.all_cons, Bool.and_eq_true] at h
    rw [List.all_cons, flat_rep r1 h.1, flats_rep r2 h.2]
    rfl
theorem in_rep {L : Lk} {x : D} {w : V} (q : Rep G L x w) (hx : flatD x = true) : ∀ {xs : List D} {vs : List V}, RepL G L xs vs → xs.all flatD = true → inV w vs = inF x xs
  | [], vs, r, _ => by simp only [RepL] at r; subst r; rfl
  | d :: xs, vs, r, h => by
    simp only [RepL] at r
    obtain ⟨v, rest, rfl, r1, r2⟩ := r
    rw [List.all_cons, Bool.and_eq_true] at h
    have ih := in_rep q hx r2 h.2
    unfold inV inF at ih ⊢
    rw [List.any_cons, List.any_cons, eq_rep r1 q h.1 hx, ih]
def oInX (neg : Bool) : Op2 := fun a b S => match seqX S b with
  | some xs => if flatD a = true ∧ xs.all flatD = true then some (.bl (if neg then !inF a xs else inF a xs), S) else none
  | none => none
theorem op_oInX (hK : G.K = X.K) (neg : Bool) : OpR X (compareOp (if neg then .NotIn else .In)) (rO G (oInX neg)) := by
  intro pins s σ H x y v u Q I rx ry h
  obtain ⟨L, S, a, b, z, S', hs, ra, rb, hE, k⟩ := h
  unfold oInX at hE
  split at hE
  · rename_i xs h1
    split at hE
    · rename_i h2
      cases hE
      obtain ⟨p, vs, rfl, t1, r1⟩ := rep_seqX hK hs rb h1
      have q : Q (.bl (if neg then !inV x vs else inV x vs)) H := by
        rw [in_rep ra h2.1 r1 h2.2]
        exact k L _ H (.refl L H) hs rep_of_bl
      cases neg with
      | true => exact op_notIn_seq pins s σ H x _ v u Q I rx ry ⟨p, vs, rfl, t1, flat_rep ra h2.1, flats_rep r1 h2.2, q⟩
      | false => exact op_in_seq pins s σ H x _ v u Q I rx ry ⟨p, vs, rfl, t1, flat_rep ra h2.1, flats_rep r1 h2.2, q⟩
    · cases hE
  · cases hE

/-! ### is None, is True -/
def isN : D → Option Bool
  | .non => some true
  | .bl _ | .int _ | .str _ | .tup _ | .lst _ | .scr _ | .dct _ _ _ | .ins _ _ _ | .fn _ | .ref _ => some false
theorem isN_rep {L : Lk} {d : D} {v : V} {b : Bool} (r : Rep G L d v) (h : isN d = some b) : decide (v = .non) = b := by
  cases d with
  | non => cases h; rw [rep_non r]; rfl
  | bl _ => cases h; rw [rep_bl r]; rfl
  | int _ => cases h; rw [rep_int r]; rfl
  | str _ => cases h; rw [(rep_str r).1]; rfl
  | tup _ => cases h; simp only [Rep] at r; obtain ⟨a, vs, rfl, _⟩ := r; rfl
  | lst _ => cases h; simp only [Rep] at r; obtain ⟨a, vs, rfl, _⟩ := r; rfl
  | scr _ => cases h; simp only [Rep] at r; obtain ⟨a, vs, rfl, _⟩ := r; rfl
  | dct _ _ _ => cases h; simp only [Rep] at r; obtain ⟨a, vs, rfl, _⟩ := r; rfl
  | ins _ _ _ => cases h; simp only [Rep] at r; obtain ⟨a, dx, fs, rfl, _⟩ := r; rfl
  | fn _ => cases h; simp only [Rep] at r; subst r; rfl
  | ref _ => cases h; simp only [Rep] at r; obtain ⟨a, _, rfl⟩ := r; rfl
def oIs (neg : Bool) : Op2 := fun a b S => match b with
  | .non => (isN a).map fun t => (.bl (if neg then !t else t), S)
  | .bl y => match a with
    | .bl x => some (.bl (if neg then !decide (x = y) else decide (x = y)), S)
    | _ => none
  | _ => none
theorem op_oIs (neg : Bool) : OpR X (compareOp (if neg then .IsNot else .Is)) (rO G (oIs neg)) := by
  intro pins s σ H x y v u Q I rx ry h
  obtain ⟨L, S, a, b, z, S', hs, ra, rb, hE, k⟩ := h
  unfold oIs at hE
  split at hE
  · obtain ⟨t, h1, h2⟩ := Option.map_eq_some_iff.mp hE
    cases h2
    have e := rep_non rb
    subst e
    have h3 := isN_rep ra h1
    have q := k L _ H (.refl L H) hs rep_of_bl
    rw [← h3] at q
    cases neg with
    | true => exact op_notN pins s σ H x _ v u Q I rx ry ⟨rfl, q⟩
    | false => exact op_isN pins s σ H x _ v u Q I rx ry ⟨rfl, q⟩
  · split at hE
    · cases hE
      have e := rep_bl rb
      have e' := rep_bl ra
      subst e e'
      have q := k L _ H (.refl L H) hs rep_of_bl
      cases neg with
      | true => exact op_isnot_bl pins s σ H _ _ v u Q I rx ry ⟨_, _, rfl, rfl, q⟩
      | false => exact op_is_bl pins s σ H _ _ v u Q I rx ry ⟨_, _, rfl, rfl, q⟩
    · cases hE
  · cases hE

/-! ### truth, tests -/
theorem cast_ne (n : Nat) : (n != 0) = ((n : Int) != 0) := by
  cases n with
  | zero => rfl
  | succ n =>
    have h1 : ((n + 1 : Nat) != 0) = true := by simp
    have h2 : (((n + 1 : Nat) : Int) != 0) = true := by
      rw [bne_iff_ne]
      omega
    rw [h1, h2]
def truD (S : Store) (d : D) : Option Bool := match d with
  | .non => some false
  | .bl b => some b
  | .int i => some (i != 0)
  | .str x => if x.length ≤ sizeLine then some (x.length != 0) else none
  | d => match seqX S d with
    | some xs => some (!xs.isEmpty)
    | none => none
theorem tru_rep {L : Lk} {S : Store} {H : Hp} {d : D} {v : V} {b : Bool} (hK : G.K = X.K) (s : Sim G L S H) (r : Rep G L d v) (h : truD S d = some b) : TruV X.K v H b := by
  unfold truD at h
  split at h
  · cases h; rw [rep_non r]; exact rfl
  · cases h; rw [rep_bl r]; exact rfl
  · cases h; rw [rep_int r]; exact rfl
  · split at h
    · rename_i hz
      cases h
      rw [(rep_str r).1]
      refine ⟨by rw [stO_length]; exact hz, ?_⟩
      rw [stO_length]
      exact cast_ne _
    · cases h
  · split at h
    · rename_i xs q
      cases h
      obtain ⟨a, vs, rfl, t, r1⟩ := rep_seqX hK s r q
      have hl := repL_length r1
      have e : xs.isEmpty = vs.isEmpty := by
        cases xs <;> cases vs <;> simp at hl ⊢
      rw [e]
      rcases t with t | t
      · exact .inl ⟨vs, t, rfl⟩
      · exact .inr (.inl ⟨vs, t, rfl⟩)
    · cases h
def tOfE (e : Ex) : Tx := fun c env S => (e c env S).bind fun p => (truD p.2 p.1).map fun b => (b, p.2)
theorem t_of {e : Expr} {E : Ex} (hK : G.K = X.K) (h : PE X e (tE G c E)) (he : ∀ whole, isTrue e X.env whole = (do let v ← whole; standAt e.pos; holding [v] (truthy v))) : PT X e (tT G c (tOfE E)) :=
  (pt_truth h he).imp fun pins s σ H Q I ⟨L, env, S, b, S', heq, hs, hE, k⟩ => by
    unfold tOfE at hE
    obtain ⟨⟨d, S1⟩, h1, hE⟩ := Option.bind_eq_some_iff.mp hE
    obtain ⟨t, h2, h3⟩ := Option.map_eq_some_iff.mp hE
    cases h3
    refine ⟨L, env, S, d, S1, heq, hs, h1, fun L1 x H1 e1 s1 r1 => ?_⟩
    exact ⟨b, tru_rep hK s1 r1 h2, k L1 H1 e1 s1⟩
/-- a comparison as a test -/
def BoolO (o : Op2) : Prop := ∀ a b S z S', o a b S = some (z, S') → ∃ t, z = .bl t
theorem t_cmp {op : CmpOp} {o : Op2} {a b : Expr} {A B : Ex} {pos : Pos} (ho : OpR X (compareOp op) (rO G o)) (hbo : BoolO o) (ha : PE X a (tE G c A)) (hb : PE X b (tE G c B)) (hm : behindInMarks op b = false) : PT X (.Compare a [op] [b] pos) (tT G c (tOfE (eBin o A B))) :=
  (pt_cmpR ho ha hb hm).imp fun pins s σ H Q I ⟨L, env, S, b', S', heq, hs, hE, k⟩ => by
    unfold tOfE at hE
    obtain ⟨⟨d, S1⟩, h1, hE⟩ := Option.bind_eq_some_iff.mp hE
    obtain ⟨t, h2, h3⟩ := Option.map_eq_some_iff.mp hE
    cases h3
    have h1' := h1
    unfold eBin at h1'
    obtain ⟨_, _, h1'⟩ := Option.bind_eq_some_iff.mp h1'
    obtain ⟨_, _, h1'⟩ := Option.bind_eq_some_iff.mp h1'
    obtain ⟨t', rfl⟩ := hbo _ _ _ _ _ h1'
    have e2 : t' = b' := Option.some.inj h2
    subst e2
    refine bin_imp ⟨L, env, S, _, S1, heq, hs, h1, fun L1 x H1 e1 s1 r1 => ?_⟩
    exact ⟨t', rep_bl r1, k L1 H1 e1 s1⟩
theorem bool_oI0 {g : Int → Int → Bool} : BoolO (oI0 fun i j => .bl (g i j)) := fun a b S z S' h => by
  unfold oI0 at h
  split at h
  · cases h; exact ⟨_, rfl⟩
  · cases h
theorem bool_oEq : BoolO oEq := fun a b S z S' h => by
  unfold oEq at h
  split at h
  · cases h; exact ⟨_, rfl⟩
  · cases h
theorem bool_oNe : BoolO oNe := fun a b S z S' h => by
  unfold oNe at h
  split at h
  · cases h; exact ⟨_, rfl⟩
  · cases h
theorem bool_oInX {neg : Bool} : BoolO (oInX neg) := fun a b S z S' h => by
  unfold oInX at h
  split at h
  · split at h
    · cases h; exact ⟨_, rfl⟩
    · cases h
  · cases h
theorem bool_oIs {neg : Bool} : BoolO (oIs neg) := fun a b S z S' h => by
  unfold oIs at h
  split at h
  · obtain ⟨t, _, h2⟩ := Option.map_eq_some_iff.mp h
    cases h2
    exact ⟨_, rfl⟩
  · split at h
    · cases h; exact ⟨_, rfl⟩
    · cases h
  · cases h
/-- a < b < c as a value and a test -/
def eChain (o o' : Op2) (a b d : Ex) : Ex := fun c env S => (a c env S).bind fun p => (b c env p.2).bind fun q => (o p.1 q.1 q.2).bind fun r => match r.1 with
  | .bl true => (d c env r.2).bind fun t => o' q.1 t.1 t.2
  | .bl false => some (.bl false, r.2)
  | _ => none
theorem chain_imp {o o' : Op2} {A B C : Ex} {σ : L2.St} {H : Hp} {Q : VK} (h : tE G c (eChain o o' A B C) σ H Q) : tChain (rO G o) (rO G o') (tE G c A) (tE G c B) (tE G c C) σ H Q := by
  obtain ⟨L, env, S, d, S', he, hs, hE, k⟩ := h
  unfold eChain at hE
  obtain ⟨⟨a, S1⟩, hA, hE⟩ := Option.bind_eq_some_iff.mp hE
  obtain ⟨⟨b, S2⟩, hB, hE⟩ := Option.bind_eq_some_iff.mp hE
  obtain ⟨⟨z, S3⟩, hO, hE⟩ := Option.bind_eq_some_iff.mp hE
  refine ⟨L, env, S, a, S1, he, hs, hA, fun L1 x H1 e1 s1 r1 => ?_⟩
  refine ⟨L1, env, S1, b, S2, he.mono e1.le, s1, hB, fun L2 y H2 e2 s2 r2 => ?_⟩
  refine ⟨L2, S2, a, b, z, S3, s2, r1.mono e2.le, r2, hO, fun L3 w H3 e3 s3 r3 => ?_⟩
  split at hE
  · rename_i e
    have e' : z = .bl true := e
    subst e'
    refine ⟨true, rep_bl r3, ?_⟩
    rw [if_pos rfl]
    obtain ⟨⟨u, S4⟩, hC, hE⟩ := Option.bind_eq_some_iff.mp hE
    refine ⟨L3, env, S3, u, S4, he.mono ((e1.trans e2).trans e3).le, s3, hC, fun L4 w4 H4 e4 s4 r4 => ?_⟩
    exact ⟨L4, S4, b, u, d, S', s4, r2.mono (e3.trans e4).le, r4, hE, fun L5 v H5 e5 s5 r5 => k L5 v H5 ((((e1.trans e2).trans e3).trans e4).trans e5) s5 r5⟩
  · rename_i e
    have e' : z = .bl false := e
    subst e'
    cases hE
    refine ⟨false, rep_bl r3, ?_⟩
    rw [if_neg Bool.false_ne_true]
    exact k L3 _ H3 ((e1.trans e2).trans e3) s3 rep_of_bl
  · cases hE
end
end Pe
set_option Elab.async false
set_option linter.all false
set_option maxRecDepth 100000
set_option maxHeartbeats 2000000
/-! expressions, further: and, or, not, if, displays, subscripts, slices, built-ins -/
namespace Pe
open PySem PySem.Spec PyProof.Rows L2
section
variable {X : Cx} {G : Gm} {c : Ec}

/-! ### and, or, not -/
def eAnd (a b : Ex) : Ex := fun c env S => (a c env S).bind fun p => match truD p.2 p.1 with
  | some true => b c env p.2
  | some false => some p
  | none => none
def eOr (a b : Ex) : Ex := fun c env S => (a c env S).bind fun p => match truD p.2 p.1 with
  | some true => some p
  | some false => b c env p.2
  | none => none
def eNot (a : Ex) : Ex := fun c env S => (a c env S).bind fun p => (truD p.2 p.1).map fun t => (.bl (!t), p.2)
theorem e_and {a b : Expr} {rest : List Expr} {A B : Ex} {pos : Pos} (hK : G.K = X.K) (ha : PE X a (tE G c A)) (hb : PE X (.BoolOp .And (b :: rest) pos) (tE G c B)) : PE X (.BoolOp .And (a :: b :: rest) pos) (tE G c (eAnd A B)) :=
  (pe_andT ha hb).imp fun pins s σ H Q I ⟨L, env, S, d, S', he, hs, hE, k⟩ => by
    unfold eAnd at hE
    obtain ⟨⟨x, S1⟩, hA, hE⟩ := Option.bind_eq_some_iff.mp hE
    refine ⟨L, env, S, x, S1, he, hs, hA, fun L1 v H1 e1 s1 r1 => ?_⟩
    split at hE
    · rename_i q
      refine ⟨true, tru_rep hK s1 r1 q, ?_⟩
      rw [if_pos rfl]
      exact ⟨L1, env, S1, d, S', he.mono e1.le, s1, hE, fun L2 w H2 e2 s2 r2 => k L2 w H2 (e1.trans e2) s2 r2⟩
    · rename_i q
      cases hE
      refine ⟨false, tru_rep hK s1 r1 q, ?_⟩
      rw [if_neg Bool.false_ne_true]
      exact k L1 v H1 e1 s1 r1
    · cases hE
theorem e_or {a b : Expr} {rest : List Expr} {A B : Ex} {pos : Pos} (hK : G.K = X.K) (ha : PE X a (tE G c A)) (hb : PE X (.BoolOp .Or (b :: rest) pos) (tE G c B)) : PE X (.BoolOp .Or (a :: b :: rest) pos) (tE G c (eOr A B)) :=
  (pe_orT ha hb).imp fun pins s σ H Q I ⟨L, env, S, d, S', he, hs, hE, k⟩ => by
    unfold eOr at hE
    obtain ⟨⟨x, S1⟩, hA, hE⟩ := Option.bind_eq_some_iff.mp hE
    refine ⟨L, env, S, x, S1, he, hs, hA, fun L1 v H1 e1 s1 r1 => ?_⟩
    split at hE
    · rename_i q
      cases hE
      refine ⟨true, tru_rep hK s1 r1 q, ?_⟩
      rw [if_pos rfl]
      exact k L1 v H1 e1 s1 r1
    · rename_i q
      refine ⟨false, tru_rep hK s1 r1 q, ?_⟩
      rw [if_neg Bool.false_ne_true]
      exact ⟨L1, env, S1, d, S', he.mono e1.le, s1, hE, fun L2 w H2 e2 s2 r2 => k L2 w H2 (e1.trans e2) s2 r2⟩
    · cases hE
theorem e_one {op : BoolOp} {a : Expr} {A : Ex} {pos : Pos} (ha : PE X a (tE G c A)) : PE X (.BoolOp op [a] pos) (tE G c A) := pe_one ha
theorem e_not {a : Expr} {A : Ex} {pos : Pos} (hK : G.K = X.K) (ha : PE X a (tE G c A)) : PE X (.UnaryOp .Not a pos) (tE G c (eNot A)) :=
  (pe_notT ha).imp fun pins s σ H Q I ⟨L, env, S, d, S', he, hs, hE, k⟩ => by
    unfold eNot at hE
    obtain ⟨⟨x, S1⟩, hA, hE⟩ := Option.bind_eq_some_iff.mp hE
    obtain ⟨t, q, hE⟩ := Option.map_eq_some_iff.mp hE
    cases hE
    refine ⟨L, env, S, x, S1, he, hs, hA, fun L1 v H1 e1 s1 r1 => ?_⟩
    exact ⟨t, tru_rep hK s1 r1 q, k L1 _ H1 e1 s1 rep_of_bl⟩
def tAndD (a b : Tx) : Tx := fun c env S => (a c env S).bind fun p => match p.1 with
  | true => b c env p.2
  | false => some (false, p.2)
def tOrD (a b : Tx) : Tx := fun c env S => (a c env S).bind fun p => match p.1 with
  | true => some (true, p.2)
  | false => b c env p.2
def tNotD (a : Tx) : Tx := fun c env S => (a c env S).map fun p => (!p.1, p.2)
theorem w_one_and {a : Expr} {A : Tx} {pos : Pos} (ha : PT X a (tT G c A)) : PW X (.BoolOp .And [a] pos) (tT G c A) := pw_and1 ha
theorem w_one_or {a : Expr} {A : Tx} {pos : Pos} (ha : PT X a (tT G c A)) : PW X (.BoolOp .Or [a] pos) (tT G c A) := pw_or1 ha
theorem w_and {a b : Expr} {rest : List Expr} {A B : Tx} {pos : Pos} (ha : PT X a (tT G c A)) (hb : PW X (.BoolOp .And (b :: rest) pos) (tT G c B)) : PW X (.BoolOp .And (a :: b :: rest) pos) (tT G c (tAndD A B)) :=
  (pw_and ha hb).imp fun pins s σ H Q I ⟨L, env, S, d, S', he, hs, hE, k⟩ => by
    unfold tAndD at hE
    obtain ⟨⟨x, S1⟩, hA, hE⟩ := Option.bind_eq_some_iff.mp hE
    refine ⟨L, env, S, x, S1, he, hs, hA, fun L1 H1 e1 s1 => ?_⟩
    cases x with
    | true =>
      rw [if_pos rfl]
      exact ⟨L1, env, S1, d, S', he.mono e1.le, s1, hE, fun L2 H2 e2 s2 => k L2 H2 (e1.trans e2) s2⟩
    | false =>
      cases hE
      rw [if_neg Bool.false_ne_true]
      exact k L1 H1 e1 s1
theorem w_or {a b : Expr} {rest : List Expr} {A B : Tx} {pos : Pos} (ha : PT X a (tT G c A)) (hb : PW X (.BoolOp .Or (b :: rest) pos) (tT G c B)) : PW X (.BoolOp .Or (a :: b :: rest) pos) (tT G c (tOrD A B)) :=
  (pw_or ha hb).imp fun pins s σ H Q I ⟨L, env, S, d, S', he, hs, hE, k⟩ => by
    unfold tOrD at hE
    obtain ⟨⟨x, S1⟩, hA, hE⟩ := Option.bind_eq_some_iff.mp hE
    refine ⟨L, env, S, x, S1, he, hs, hA, fun L1 H1 e1 s1 => ?_⟩
    cases x with
    | true =>
      cases hE
      rw [if_pos rfl]
      exact k L1 H1 e1 s1
    | false =>
      rw [if_neg Bool.false_ne_true]
      exact ⟨L1, env, S1, d, S', he.mono e1.le, s1, hE, fun L2 H2 e2 s2 => k L2 H2 (e1.trans e2) s2⟩
theorem t_not {a : Expr} {A : Tx} {pos : Pos} (ha : PT X a (tT G c A)) : PT X (.UnaryOp .Not a pos) (tT G c (tNotD A)) :=
  (pt_not ha).imp fun pins s σ H Q I ⟨L, env, S, d, S', he, hs, hE, k⟩ => by
    unfold tNotD at hE
    obtain ⟨⟨x, S1⟩, hA, hE⟩ := Option.map_eq_some_iff.mp hE
    cases hE
    exact ⟨L, env, S, x, S1, he, hs, hA, fun L1 H1 e1 s1 => k L1 H1 e1 s1⟩
def eIf (t : Tx) (a b : Ex) : Ex := fun c env S => (t c env S).bind fun p => match p.1 with
  | true => a c env p.2
  | false => b c env p.2
theorem e_if {t a b : Expr} {T : Tx} {A B : Ex} {pos : Pos} (ht : PT X t (tT G c T)) (ha : PE X a (tE G c A)) (hb : PE X b (tE G c B)) : PE X (.IfExp t a b pos) (tE G c (eIf T A B)) :=
  (pe_ifExp ht ha hb).imp fun pins s σ H Q I ⟨L, env, S, d, S', he, hs, hE, k⟩ => by
    unfold eIf at hE
    obtain ⟨⟨x, S1⟩, hA, hE⟩ := Option.bind_eq_some_iff.mp hE
    refine ⟨L, env, S, x, S1, he, hs, hA, fun L1 H1 e1 s1 => ?_⟩
    cases x with
    | true =>
      rw [if_pos rfl]
      exact ⟨L1, env, S1, d, S', he.mono e1.le, s1, hE, fun L2 w H2 e2 s2 r2 => k L2 w H2 (e1.trans e2) s2 r2⟩
    | false =>
      rw [if_neg Bool.false_ne_true]
      exact ⟨L1, env, S1, d, S', he.mono e1.le, s1, hE, fun L2 w H2 e2 s2 r2 => k L2 w H2 (e1.trans e2) s2 r2⟩

/-! ### one operand -/
def eNeg (a : Ex) : Ex := fun c env S => (a c env S).bind fun p => match p.1 with
  | .int i => some (.int (-i), p.2)
  | _ => none
theorem e_neg {a : Expr} {A : Ex} {pos : Pos} (ha : PE X a (tE G c A)) : PE X (.UnaryOp .USub a pos) (tE G c (eNeg A)) :=
  (pe_un un_neg ha).imp fun pins s σ H Q I ⟨L, env, S, d, S', he, hs, hE, k⟩ => by
    unfold eNeg at hE
    obtain ⟨⟨x, S1⟩, hA, hE⟩ := Option.bind_eq_some_iff.mp hE
    refine ⟨L, env, S, x, S1, he, hs, hA, fun L1 v H1 e1 s1 r1 => ?_⟩
    split at hE
    · rename_i i e
      have e' : x = .int i := e
      subst e'
      cases hE
      exact ⟨i, rep_int r1, k L1 _ H1 e1 s1 rep_of_int⟩
    · cases hE

/-! ### arguments, displays -/
def aNil : Ax := fun _ _ S => some ([], S)
def aCons (e : Ex) (r : Ax) : Ax := fun c env S => (e c env S).bind fun p => (r c env p.2).map fun q => (p.1 :: q.1, q.2)
theorem a_nil : PA X [] (tA G c aNil) := pa_nil.imp fun pins s σ H Q I ⟨L, env, S, d, S', he, hs, hE, k⟩ => by
  cases hE
  exact k L [] H (.refl L H) hs repL_nil
theorem a_cons {e : Expr} {es : List Expr} {E : Ex} {R : Ax} (ha : PE X e (tE G c E)) (hr : PA X es (tA G c R)) (hs : starEach (e :: es) X.env = (false, eval e X.env) :: starEach es X.env) : PA X (e :: es) (tA G c (aCons E R)) :=
  (pa_cons ha hr hs).imp fun pins s σ H Q I ⟨L, env, S, ds, S', he, hs, hE, k⟩ => by
    unfold aCons at hE
    obtain ⟨⟨x, S1⟩, hA, hE⟩ := Option.bind_eq_some_iff.mp hE
    obtain ⟨⟨xs, S2⟩, hB, hE⟩ := Option.map_eq_some_iff.mp hE
    cases hE
    refine ⟨L, env, S, x, S1, he, hs, hA, fun L1 v H1 e1 s1 r1 => ?_⟩
    exact ⟨L1, env, S1, xs, S2, he.mono e1.le, s1, hB, fun L2 vs H2 e2 s2 r2 => k L2 _ H2 (e1.trans e2) s2 (repL_cons (r1.mono e2.le) r2)⟩
def eTup (a : Ax) : Ex := fun c env S => (a c env S).bind fun p => if p.1.length ≤ sizeLine then some (.tup p.1, p.2) else none
def eLst (a : Ax) : Ex := fun c env S => (a c env S).bind fun p => if p.1.length ≤ sizeLine then some (.ref p.2.length, p.2 ++ [.lst p.1]) else none
theorem e_tup {es : List Expr} {A : Ax} {pos : Pos} {x1} (ha : PA X es (tA G c A)) : PE X (.Tuple es x1 pos) (tE G c (eTup A)) :=
  (pe_tup ha).imp fun pins s σ H Q I ⟨L, env, S, d, S', he, hs, hE, k⟩ => by
    unfold eTup at hE
    obtain ⟨⟨xs, S1⟩, hA, hE⟩ := Option.bind_eq_some_iff.mp hE
    split at hE
    · rename_i hz
      cases hE
      refine ⟨L, env, S, xs, S1, he, hs, hA, fun L1 vs H1 e1 s1 r1 => ?_⟩
      have hl := repL_length r1
      refine ⟨by rw [← hl]; exact hz, fun p hp => ?_⟩
      obtain ⟨L2, e2, s2, r2⟩ := new_tup s1 r1 hp
      exact k L2 _ _ (e1.trans e2) s2 r2
    · cases hE
theorem e_lst {es : List Expr} {A : Ax} {pos : Pos} (ha : PA X es (tA G c A)) : PE X (.List es pos) (tE G c (eLst A)) :=
  (pe_lst ha).imp fun pins s σ H Q I ⟨L, env, S, d, S', he, hs, hE, k⟩ => by
    unfold eLst at hE
    obtain ⟨⟨xs, S1⟩, hA, hE⟩ := Option.bind_eq_some_iff.mp hE
    split at hE
    · rename_i hz
      cases hE
      refine ⟨L, env, S, xs, S1, he, hs, hA, fun L1 vs H1 e1 s1 r1 => ?_⟩
      have hl := repL_length r1
      refine ⟨by rw [← hl]; exact hz, fun p hp => ?_⟩
      obtain ⟨L2, e2, s2, r2⟩ := new_lst s1 r1 hp
      exact k L2 _ _ (e1.trans e2) s2 r2
    · cases hE

/-! ### subscripts -/
def oIx : Op2 := fun a b S => match b with
  | .int i => match a with
    | .str x => if x.length ≤ sizeLine then (atI x i).map fun ch => (.str [ch], S) else none
    | a => match seqX S a with
      | some xs => (atI xs i).map fun d => (d, S)
      | none => none
  | _ => none
theorem atI_rep {L : Lk} {xs : List D} {vs : List V} {i : Int} {d : D} (r : RepL G L xs vs) (h : atI xs i = some d) : ∃ v, atI vs i = some v ∧ Rep G L d v := by
  unfold atI at h ⊢
  obtain ⟨j, h1, h2⟩ := Option.bind_eq_some_iff.mp h
  rw [repL_length r] at h1
  obtain ⟨v, h3, h4⟩ := repL_get r h2
  exact ⟨v, by rw [h1]; exact h3, h4⟩
theorem atI_mem {α : Type} {xs : List α} {i : Int} {d : α} (h : atI xs i = some d) : d ∈ xs := by
  unfold atI at h
  obtain ⟨j, h1, h2⟩ := Option.bind_eq_some_iff.mp h
  exact List.mem_of_getElem? h2
theorem ix_oIx (hK : G.K = X.K) : IxR X (rO G oIx) := by
  intro value slice pins s σ H x y v u Q I rx ry h hsub
  obtain ⟨L, S, a, b, z, S', hs, ra, rb, hE, k⟩ := h
  unfold oIx at hE
  split at hE
  · rename_i i
    have e := rep_int rb
    subst e
    split at hE
    · rename_i t
      split at hE
      · rename_i hz
        obtain ⟨ch, h1, h2⟩ := Option.map_eq_some_iff.mp hE
        cases h2
        obtain ⟨e, hok⟩ := rep_str ra
        subst e
        refine ix_str value slice pins s σ H _ _ v u Q I rx ry ⟨_, _, ch, rfl, rfl, by rw [stO_length]; exact hz, ?_, ?_⟩ hsub
        · show atI (stO t).cps.toList i = some ch
          simpa [stO] using h1
        · refine k L _ H (.refl L H) hs (rep_of_str (x := [ch]) ?_)
          rw [List.all_cons, List.all_eq_true.mp hok ch (atI_mem h1)]
          rfl
      · cases hE
    · split at hE
      · rename_i xs h0
        obtain ⟨d, h1, h2⟩ := Option.map_eq_some_iff.mp hE
        cases h2
        obtain ⟨p, vs, rfl, t1, r1⟩ := rep_seqX hK hs ra h0
        obtain ⟨w, h3, h4⟩ := atI_rep r1 h1
        have q := k L w H (.refl L H) hs h4
        rcases t1 with t1 | t1
        · exact ix_list value slice pins s σ H _ _ v u Q I rx ry ⟨p, vs, i, w, rfl, rfl, t1, h3, q⟩ hsub
        · exact ix_tup value slice pins s σ H _ _ v u Q I rx ry ⟨p, vs, i, w, rfl, rfl, t1, h3, q⟩ hsub
      · cases hE
  · cases hE
theorem e_ix {a b : Expr} {A B : Ex} {pos : Pos} (hK : G.K = X.K) (ha : PE X a (tE G c A)) (hb : PE X b (tE G c B)) (hp : PlainIx b) : PE X (.Subscript a b pos) (tE G c (eBin oIx A B)) :=
  (pe_ix (ix_oIx hK) ha hb hp).imp fun _ _ _ _ _ _ h => bin_imp h

/-! ### slices -/
abbrev Ox := Ec → Env → Store → Option (Option Int × Store)
def oNone : Ox := fun _ _ S => some (none, S)
def oSome (e : Ex) : Ox := fun c env S => (e c env S).bind fun p => match p.1 with
  | .int i => some (some i, p.2)
  | _ => none
def tO (G : Gm) (c : Ec) (E : Ox) : TO := fun σ H Q => ∃ L env S o S', EnvOk G L env σ ∧ Sim G L S H ∧ E c env S = some (o, S') ∧ ∀ L' H', Ext L H L' H' → Sim G L' S' H' → Q o H'
theorem _root_.L2.PO.imp {X : Cx} {e : Option Expr} {t t' : TO} (h : PO X e t) (hi : ∀ (pins : List (Addr × Obj)) (s : Shared) (σ : L2.St) (H : Hp) (Q : Option Int → Hp → Prop), Inv X pins σ H s → t' σ H Q → t σ H Q) : PO X e t' := ⟨fun pins s σ H Q I hw => h.run pins s σ H Q I (hi pins s σ H Q I hw)⟩
theorem o_none : PO X none (tO G c oNone) := po_none.imp fun pins s σ H Q I ⟨L, env, S, o, S', he, hs, hE, k⟩ => by
  cases hE
  exact k L H (.refl L H) hs
theorem o_some {e : Expr} {E : Ex} (h : PE X e (tE G c E)) : PO X (some e) (tO G c (oSome E)) := (po_some h).imp fun pins s σ H Q I ⟨L, env, S, o, S', he, hs, hE, k⟩ => by
  unfold oSome at hE
  obtain ⟨⟨x, S1⟩, hA, hE⟩ := Option.bind_eq_some_iff.mp hE
  refine ⟨L, env, S, x, S1, he, hs, hA, fun L1 v H1 e1 s1 r1 => ?_⟩
  split at hE
  · rename_i i e
    have e' : x = .int i := e
    subst e'
    cases hE
    exact ⟨i, rep_int r1, k L1 H1 e1 s1⟩
  · cases hE
def cutD {α : Type} (xs : List α) (lo hi : Option Int) : List α := (xs.drop (HT.sIx xs.length 0 lo)).take (HT.sIx xs.length xs.length hi - HT.sIx xs.length 0 lo)
theorem cut_rep {L : Lk} {xs : List D} {vs : List V} {lo hi : Option Int} (r : RepL G L xs vs) : RepL G L (cutD xs lo hi) (cutV vs lo hi) := by
  unfold cutD cutV
  rw [repL_length r]
  exact repL_take _ (repL_drop _ r)
theorem cut_whole {α : Type} {xs : List α} {lo hi : Option Int} (h : HT.sIx xs.length 0 lo = 0 ∧ HT.sIx xs.length xs.length hi = xs.length) : cutD xs lo hi = xs := by
  unfold cutD
  rw [h.1, h.2, List.drop_zero, Nat.sub_zero]
  exact List.take_length
def slD (d : D) (l u : Option Int) (S : Store) : Option (D × Store) := match d with
  | .str x => if x.length ≤ sizeLine then some (.str (cutD x l u), S) else none
  | .tup xs => some (.tup (cutD xs l u), S)
  | d => match seqL S d with
    | some xs => some (.ref S.length, S ++ [.lst (cutD xs l u)])
    | none => none
def eSl (a : Ex) (lo hi : Ox) : Ex := fun c env S => (a c env S).bind fun p => (lo c env p.2).bind fun l => (hi c env l.2).bind fun u => slD p.1 l.1 u.1 u.2
theorem mem_cut {α : Type} {xs : List α} {lo hi : Option Int} {a : α} (h : a ∈ cutD xs lo hi) : a ∈ xs := List.mem_of_mem_drop (List.mem_of_mem_take h)
theorem e_sl {a : Expr} {A : Ex} {lo hi : Option Expr} {Lo Hi : Ox} {pos p2 : Pos} (hK : G.K = X.K) (ha : PE X a (tE G c A)) (hl : PO X lo (tO G c Lo)) (hh : PO X hi (tO G c Hi)) : PE X (.Subscript a (.Slice lo hi none p2) pos) (tE G c (eSl A Lo Hi)) :=
  (pe_slice (sl_list.or (sl_tupA.or sl_str)) ha hl hh).imp fun pins s σ H Q I ⟨L, env, S, d, S', he, hs, hE, k⟩ => by
    unfold eSl at hE
    obtain ⟨⟨x, S1⟩, hA, h2⟩ := Option.bind_eq_some_iff.mp hE
    obtain ⟨⟨l, S2⟩, hB, h3⟩ := Option.bind_eq_some_iff.mp h2
    obtain ⟨⟨u, S3⟩, hC, h4⟩ := Option.bind_eq_some_iff.mp h3
    clear hE h2 h3
    refine ⟨L, env, S, x, S1, he, hs, hA, fun L1 v H1 e1 s1 r1 => ?_⟩
    refine ⟨L1, env, S1, l, S2, he.mono e1.le, s1, hB, fun L2 H2 e2 s2 => ?_⟩
    refine ⟨L2, env, S2, u, S3, he.mono (e1.trans e2).le, s2, hC, fun L3 H3 e3 s3 => ?_⟩
    have e13 := (e1.trans e2).trans e3
    have r3 : Rep G L3 x v := r1.mono (e2.trans e3).le
    have hE : slD x l u S3 = some (d, S') := h4
    clear h4
    unfold slD at hE
    split at hE
    · rename_i t
      split at hE
      · rename_i hz
        cases hE
        obtain ⟨ev, hok⟩ := rep_str r3
        subst ev
        refine .inr (.inr ⟨_, rfl, by rw [stO_length]; exact hz, ?_⟩)
        have hc : cutS (stO t) l u = stO (cutD t l u) := by
          unfold cutS cutD stO
          show (⟨((List.drop (HT.sIx t.toArray.size 0 l) t.toArray.toList).take _).toArray⟩ : Str) = _
          rw [List.size_toArray]
          rfl
        rw [hc]
        refine k L3 _ H3 e13 s3 (rep_of_str ?_)
        rw [List.all_eq_true] at hok ⊢
        exact fun z hz => hok z (mem_cut hz)
      · cases hE
    · cases hE
      obtain ⟨p, vs, rfl, t1, r4⟩ := rep_seqT hK s3 r3 rfl
      refine .inr (.inl ⟨p, vs, rfl, t1, fun hw => ?_, fun hw p' hp => ?_⟩)
      · rw [← repL_length r4] at hw
        rw [cut_whole hw] at k
        exact k L3 _ H3 e13 s3 r3
      · obtain ⟨L4, e4, s4, r5⟩ := new_tup s3 (cut_rep (lo := l) (hi := u) r4) hp
        exact k L4 _ _ (e13.trans e4) s4 r5
    · split at hE
      · rename_i xs h0
        cases hE
        obtain ⟨p, vs, rfl, t1, r4⟩ := rep_seqL hK s3 r3 h0
        refine .inl ⟨p, vs, rfl, t1, fun p' hp => ?_⟩
        obtain ⟨L4, e4, s4, r5⟩ := new_lst s3 (cut_rep (lo := l) (hi := u) r4) hp
        exact k L4 _ _ (e13.trans e4) s4 r5
      · cases hE

/-! ### built-ins on values -/
abbrev OpN := List D → Store → Option (D × Store)
def rC (G : Gm) (o : OpN) : List V → Hp → VK → Prop := fun vs H Q => ∃ L S ds z S', Sim G L S H ∧ RepL G L ds vs ∧ o ds S = some (z, S') ∧ ∀ L' v H', Ext L H L' H' → Sim G L' S' H' → Rep G L' z v → Q v H'
def eFun (o : OpN) (a : Ax) : Ex := fun c env S => (a c env S).bind fun p => o p.1 p.2
theorem fun_imp {o : OpN} {A : Ax} {σ : L2.St} {H : Hp} {Q : VK} (h : tE G c (eFun o A) σ H Q) : tCB (rC G o) (tA G c A) σ H Q := by
  obtain ⟨L, env, S, d, S', he, hs, hE, k⟩ := h
  unfold eFun at hE
  obtain ⟨⟨xs, S1⟩, hA, hE⟩ := Option.bind_eq_some_iff.mp hE
  refine ⟨L, env, S, xs, S1, he, hs, hA, fun L1 vs H1 e1 s1 r1 => ?_⟩
  exact ⟨L1, S1, xs, d, S', s1, r1, hE, fun L2 v H2 e2 s2 r2 => k L2 v H2 (e1.trans e2) s2 r2⟩
theorem e_funB {o : OpN} {A : Ax} {id : String} {x : Str} {e : Expr} {es : List Expr} {p pos : Pos} (ho : CallR X (.builtin id) (rC G o)) (hg : Gl X x) (hm : X.mg x = none) (hv : bootBuiltins x = some (.builtin id)) (ha : PA X (e :: es) (tA G c A))
    (hn : x ≠ "__name__") (hdb : (x == ("__debug__" : Str)) = false) (hs : starEach (e :: es) X.env = (false, eval e X.env) :: starEach es X.env) (hpl : (backTo pos (starEach es X.env)).any (·.1) = false) : PE X (.Call (.Name x p) (e :: es) [] pos) (tE G c (eFun o A)) :=
  (pe_callB ho hg hm hv ha hn hdb hs hpl).imp fun _ _ _ _ _ _ h => fun_imp h
theorem e_funT {o : OpN} {A : Ax} {T : String} {x : Str} {e : Expr} {es : List Expr} {p pos : Pos} (ho : CallR X (.type T) (rC G o)) (hg : Gl X x) (hm : X.mg x = none) (hv : bootBuiltins x = some (.type T)) (ha : PA X (e :: es) (tA G c A))
    (hn : x ≠ "__name__") (hdb : (x == ("__debug__" : Str)) = false) (hs : starEach (e :: es) X.env = (false, eval e X.env) :: starEach es X.env) (hpl : (backTo pos (starEach es X.env)).any (·.1) = false) : PE X (.Call (.Name x p) (e :: es) [] pos) (tE G c (eFun o A)) :=
  (pe_callTy ho hg hm hv ha hn hdb hs hpl).imp fun _ _ _ _ _ _ h => fun_imp h
theorem rep_one {L : Lk} {d : D} {vs : List V} (r : RepL G L [d] vs) : ∃ v, vs = [v] ∧ Rep G L d v := by
  simp only [RepL] at r
  obtain ⟨v, t, rfl, r1, rfl⟩ := r
  exact ⟨v, rfl, r1⟩
theorem rep_two {L : Lk} {d e : D} {vs : List V} (r : RepL G L [d, e] vs) : ∃ v w, vs = [v, w] ∧ Rep G L d v ∧ Rep G L e w := by
  simp only [RepL] at r
  obtain ⟨v, t, rfl, r1, w, t2, rfl, r2, rfl⟩ := r
  exact ⟨v, w, rfl, r1, r2⟩
/-- len -/
def nLen : OpN := fun ds S => match ds with
  | [.str x] => if x.length ≤ sizeLine then some (.int x.length, S) else none
  | [d] => match seqX S d with
    | some xs => some (.int xs.length, S)
    | none => none
  | _ => none
theorem op_nLen (hK : G.K = X.K) : CallR X (.builtin "len") (rC G nLen) := by
  intro pins s σ H vs us Q I rv h
  obtain ⟨L, S, ds, z, S', hs, rd, hE, k⟩ := h
  unfold nLen at hE
  split at hE
  · split at hE
    · rename_i hz
      cases hE
      obtain ⟨v, rfl, r1⟩ := rep_one rd
      obtain ⟨rfl, _⟩ := rep_str r1
      refine call_len pins s σ H _ us Q I rv ⟨_, _, rfl, ⟨by rw [stO_length]; exact hz, rfl⟩, ?_⟩
      rw [stO_length]
      exact k L _ H (.refl L H) hs rep_of_int
    · cases hE
  · split at hE
    · rename_i xs h0
      cases hE
      obtain ⟨v, rfl, r1⟩ := rep_one rd
      obtain ⟨p, ws, rfl, t, r2⟩ := rep_seqX hK hs r1 h0
      have hl := repL_length r2
      refine call_len pins s σ H _ us Q I rv ⟨_, xs.length, rfl, ?_, k L _ H (.refl L H) hs rep_of_int⟩
      rcases t with t | t
      · exact .inl ⟨ws, t, hl⟩
      · exact .inr ⟨ws, t, hl⟩
    · cases hE
  · cases hE
/-- tuple(..), list(..) -/
def nTup : OpN := fun ds S => match ds with
  | [.tup xs] => some (.tup xs, S)
  | [d] => match seqL S d with
    | some xs => some (.tup xs, S)
    | none => none
  | _ => none
theorem op_nTup (hK : G.K = X.K) : CallR X (.type "tuple") (rC G nTup) := by
  intro pins s σ H vs us Q I rv h
  obtain ⟨L, S, ds, z, S', hs, rd, hE, k⟩ := h
  unfold nTup at hE
  split at hE
  · cases hE
    obtain ⟨v, rfl, r1⟩ := rep_one rd
    obtain ⟨p, ws, rfl, t, r2⟩ := rep_seqT hK hs r1 rfl
    exact call_tuple_of pins s σ H _ us Q I rv ⟨p, ws, rfl, .inr ⟨t, k L _ H (.refl L H) hs r1⟩⟩
  · split at hE
    · rename_i xs h0
      cases hE
      obtain ⟨v, rfl, r1⟩ := rep_one rd
      obtain ⟨p, ws, rfl, t, r2⟩ := rep_seqL hK hs r1 h0
      refine call_tuple_of pins s σ H _ us Q I rv ⟨p, ws, rfl, .inl ⟨t, fun l hl => ?_⟩⟩
      obtain ⟨L2, e2, s2, r3⟩ := new_tup hs r2 hl
      exact k L2 _ _ e2 s2 r3
    · cases hE
  · cases hE
def nLst : OpN := fun ds S => match ds with
  | [d] => match seqX S d with
    | some xs => some (.ref S.length, S ++ [.lst xs])
    | none => none
  | _ => none
theorem op_nLst (hK : G.K = X.K) : CallR X (.type "list") (rC G nLst) := by
  intro pins s σ H vs us Q I rv h
  obtain ⟨L, S, ds, z, S', hs, rd, hE, k⟩ := h
  unfold nLst at hE
  split at hE
  · split at hE
    · rename_i xs h0
      cases hE
      obtain ⟨v, rfl, r1⟩ := rep_one rd
      obtain ⟨p, ws, rfl, t, r2⟩ := rep_seqX hK hs r1 h0
      refine call_list_of pins s σ H _ us Q I rv ⟨p, ws, rfl, t, fun l hl => ?_⟩
      obtain ⟨L2, e2, s2, r3⟩ := new_lst hs r2 hl
      exact k L2 _ _ e2 s2 r3
    · cases hE
  · cases hE
/-- int(..) of an int, a bool -/
def nInt : OpN := fun ds S => match ds with
  | [.int i] => some (.int i, S)
  | [.bl b] => some (.int (if b = true then 1 else 0), S)
  | _ => none
theorem op_nInt : CallR X (.type "int") (rC G nInt) := by
  intro pins s σ H vs us Q I rv h
  obtain ⟨L, S, ds, z, S', hs, rd, hE, k⟩ := h
  unfold nInt at hE
  split at hE
  · cases hE
    obtain ⟨v, rfl, r1⟩ := rep_one rd
    have e := rep_int r1
    subst e
    exact call_int1 pins s σ H _ us Q I rv (.inl ⟨_, rfl, k L _ H (.refl L H) hs rep_of_int⟩)
  · cases hE
    obtain ⟨v, rfl, r1⟩ := rep_one rd
    have e := rep_bl r1
    subst e
    exact call_int1 pins s σ H _ us Q I rv (.inr ⟨_, rfl, k L _ H (.refl L H) hs rep_of_int⟩)
  · cases hE
def nAbs : OpN := fun ds S => match ds with
  | [.int i] => some (.int (if i < 0 then -i else i), S)
  | _ => none
theorem op_nAbs : CallR X (.builtin "abs") (rC G nAbs) := by
  intro pins s σ H vs us Q I rv h
  obtain ⟨L, S, ds, z, S', hs, rd, hE, k⟩ := h
  unfold nAbs at hE
  split at hE
  · cases hE
    obtain ⟨v, rfl, r1⟩ := rep_one rd
    have e := rep_int r1
    subst e
    exact call_abs pins s σ H _ us Q I rv ⟨_, rfl, k L _ H (.refl L H) hs rep_of_int⟩
  · cases hE
/-- all, any of lists of bools -/
def blsOf : List D → Option (List Bool)
  | [] => some []
  | .bl b :: r => (blsOf r).map (b :: ·)
  | _ => none
theorem bls_rep {L : Lk} : ∀ {xs : List D} {vs : List V} {bs : List Bool}, RepL G L xs vs → blsOf xs = some bs → vs = bs.map V.bl
  | [], vs, bs, r, h => by simp only [RepL] at r; cases h; exact r
  | .bl b :: xs, vs, bs, r, h => by
    simp only [RepL] at r
    obtain ⟨v, t, rfl, r1, r2⟩ := r
    simp only [blsOf] at h
    obtain ⟨cs, h1, rfl⟩ := Option.map_eq_some_iff.mp h
    rw [rep_bl r1, bls_rep r2 h1]
    rfl
  | .non :: xs, vs, bs, r, h => by cases h
  | .int _ :: xs, vs, bs, r, h => by cases h
  | .str _ :: xs, vs, bs, r, h => by cases h
  | .tup _ :: xs, vs, bs, r, h => by cases h
  | .lst _ :: xs, vs, bs, r, h => by cases h
  | .scr _ :: xs, vs, bs, r, h => by cases h
  | .dct _ _ _ :: xs, vs, bs, r, h => by cases h
  | .ins _ _ _ :: xs, vs, bs, r, h => by cases h
  | .fn _ :: xs, vs, bs, r, h => by cases h
  | .ref _ :: xs, vs, bs, r, h => by cases h
def nAll (every : Bool) : OpN := fun ds S => match ds with
  | [d] => match (seqL S d).bind blsOf with
    | some bs => some (.bl (if every then bs.all id else bs.any id), S)
    | none => none
  | _ => none
theorem op_nAll (hK : G.K = X.K) (hc : X.calm = true) : CallR X (.builtin "all") (rC G (nAll true)) := by
  intro pins s σ H vs us Q I rv h
  obtain ⟨L, S, ds, z, S', hs, rd, hE, k⟩ := h
  unfold nAll at hE
  split at hE
  · split at hE
    · rename_i bs h0
      cases hE
      obtain ⟨xs, h1, h2⟩ := Option.bind_eq_some_iff.mp h0
      obtain ⟨v, rfl, r1⟩ := rep_one rd
      obtain ⟨p, ws, rfl, t, r2⟩ := rep_seqL hK hs r1 h1
      have e := bls_rep r2 h2
      subst e
      exact cr_all hc pins s σ H _ us Q I rv ⟨p, bs, rfl, t, k L _ H (.refl L H) hs rep_of_bl⟩
    · cases hE
  · cases hE
theorem op_nAny (hK : G.K = X.K) (hc : X.calm = true) : CallR X (.builtin "any") (rC G (nAll false)) := by
  intro pins s σ H vs us Q I rv h
  obtain ⟨L, S, ds, z, S', hs, rd, hE, k⟩ := h
  unfold nAll at hE
  split at hE
  · split at hE
    · rename_i bs h0
      cases hE
      obtain ⟨xs, h1, h2⟩ := Option.bind_eq_some_iff.mp h0
      obtain ⟨v, rfl, r1⟩ := rep_one rd
      obtain ⟨p, ws, rfl, t, r2⟩ := rep_seqL hK hs r1 h1
      have e := bls_rep r2 h2
      subst e
      exact cr_any hc pins s σ H _ us Q I rv ⟨p, bs, rfl, t, k L _ H (.refl L H) hs rep_of_bl⟩
    · cases hE
  · cases hE
/-- min, max of two ints, of a list of ints -/
def intsOf : List D → Option (List Int)
  | [] => some []
  | .int b :: r => (intsOf r).map (b :: ·)
  | _ => none
theorem ints_rep {L : Lk} : ∀ {xs : List D} {vs : List V} {bs : List Int}, RepL G L xs vs → intsOf xs = some bs → vs = bs.map V.int
  | [], vs, bs, r, h => by simp only [RepL] at r; cases h; exact r
  | .int b :: xs, vs, bs, r, h => by
    simp only [RepL] at r
    obtain ⟨v, t, rfl, r1, r2⟩ := r
    simp only [intsOf] at h
    obtain ⟨cs, h1, rfl⟩ := Option.map_eq_some_iff.mp h
    rw [rep_int r1, ints_rep r2 h1]
    rfl
  | .non :: xs, vs, bs, r, h => by cases h
  | .bl _ :: xs, vs, bs, r, h => by cases h
  | .str _ :: xs, vs, bs, r, h => by cases h
  | .tup _ :: xs, vs, bs, r, h => by cases h
  | .lst _ :: xs, vs, bs, r, h => by cases h
  | .scr _ :: xs, vs, bs, r, h => by cases h
  | .dct _ _ _ :: xs, vs, bs, r, h => by cases h
  | .ins _ _ _ :: xs, vs, bs, r, h => by cases h
  | .fn _ :: xs, vs, bs, r, h => by cases h
  | .ref _ :: xs, vs, bs, r, h => by cases h
def minL : Int → List Int → Int
  | a, [] => a
  | a, b :: r => minL (if b < a then b else a) r
def maxL : Int → List Int → Int
  | a, [] => a
  | a, b :: r => maxL (if a < b then b else a) r
theorem minL_le : ∀ (r : List Int) (a : Int), minL a r ≤ a ∧ (∀ y ∈ r, minL a r ≤ y) ∧ (minL a r = a ∨ minL a r ∈ r)
  | [], a => ⟨Int.le_refl _, fun y h => by simp at h, .inl rfl⟩
  | b :: r, a => by
    obtain ⟨h1, h2, h3⟩ := minL_le r (if b < a then b else a)
    show minL (if b < a then b else a) r ≤ a ∧ _
    refine ⟨Int.le_trans h1 (by split <;> omega), fun y hy => ?_, ?_⟩
    · rcases List.mem_cons.mp hy with e | e
      · subst e
        exact Int.le_trans h1 (by split <;> omega)
      · exact h2 y e
    · show minL (if b < a then b else a) r = a ∨ minL (if b < a then b else a) r ∈ b :: r
      rcases h3 with e | e
      · rw [e]
        split
        · exact .inr List.mem_cons_self
        · exact .inl rfl
      · exact .inr (List.mem_cons_of_mem _ e)
theorem maxL_ge : ∀ (r : List Int) (a : Int), a ≤ maxL a r ∧ (∀ y ∈ r, y ≤ maxL a r) ∧ (maxL a r = a ∨ maxL a r ∈ r)
  | [], a => ⟨Int.le_refl _, fun y h => by simp at h, .inl rfl⟩
  | b :: r, a => by
    obtain ⟨h1, h2, h3⟩ := maxL_ge r (if a < b then b else a)
    show a ≤ maxL (if a < b then b else a) r ∧ _
    refine ⟨Int.le_trans (by split <;> omega) h1, fun y hy => ?_, ?_⟩
    · rcases List.mem_cons.mp hy with e | e
      · subst e
        exact Int.le_trans (by split <;> omega) h1
      · exact h2 y e
    · show maxL (if a < b then b else a) r = a ∨ maxL (if a < b then b else a) r ∈ b :: r
      rcases h3 with e | e
      · rw [e]
        split
        · exact .inr List.mem_cons_self
        · exact .inl rfl
      · exact .inr (List.mem_cons_of_mem _ e)
def nMin : OpN := fun ds S => match ds with
  | [.int i, .int j] => some (.int (if j < i then j else i), S)
  | [d] => match (seqL S d).bind intsOf with
    | some (a :: r) => some (.int (minL a r), S)
    | _ => none
  | _ => none
def nMax : OpN := fun ds S => match ds with
  | [.int i, .int j] => some (.int (if j > i then j else i), S)
  | [d] => match (seqL S d).bind intsOf with
    | some (a :: r) => some (.int (maxL a r), S)
    | _ => none
  | _ => none
theorem op_nMin (hK : G.K = X.K) (hc : X.calm = true) : CallR X (.builtin "min") (rC G nMin) := by
  intro pins s σ H vs us Q I rv h
  obtain ⟨L, S, ds, z, S', hs, rd, hE, k⟩ := h
  unfold nMin at hE
  split at hE
  · cases hE
    obtain ⟨v, w, rfl, r1, r2⟩ := rep_two rd
    have e := rep_int r1
    have e' := rep_int r2
    subst e e'
    exact call_min2 hc pins s σ H _ us Q I rv ⟨_, _, rfl, k L _ H (.refl L H) hs rep_of_int⟩
  · split at hE
    · rename_i a r h0
      cases hE
      obtain ⟨xs, h1, h2⟩ := Option.bind_eq_some_iff.mp h0
      obtain ⟨v, rfl, r1⟩ := rep_one rd
      obtain ⟨p, ws, rfl, t, r2⟩ := rep_seqL hK hs r1 h1
      have e := ints_rep r2 h2
      subst e
      refine cr_min hc pins s σ H _ us Q I rv ⟨p, a :: r, rfl, t, by simp, fun m hm hle => ?_⟩
      obtain ⟨b1, b2, b3⟩ := minL_le r a
      have e : m = minL a r := by
        have c1 : m ≤ minL a r := by
          rcases b3 with b3 | b3
          · rw [b3]; exact hle a List.mem_cons_self
          · exact hle _ (List.mem_cons_of_mem _ b3)
        have c2 : minL a r ≤ m := by
          rcases List.mem_cons.mp hm with z | z
          · rw [z]; exact b1
          · exact b2 m z
        omega
      rw [e]
      exact k L _ H (.refl L H) hs rep_of_int
    · cases hE
  · cases hE
theorem op_nMax (hK : G.K = X.K) (hc : X.calm = true) : CallR X (.builtin "max") (rC G nMax) := by
  intro pins s σ H vs us Q I rv h
  obtain ⟨L, S, ds, z, S', hs, rd, hE, k⟩ := h
  unfold nMax at hE
  split at hE
  · cases hE
    obtain ⟨v, w, rfl, r1, r2⟩ := rep_two rd
    have e := rep_int r1
    have e' := rep_int r2
    subst e e'
    exact call_max2 hc pins s σ H _ us Q I rv ⟨_, _, rfl, k L _ H (.refl L H) hs rep_of_int⟩
  · split at hE
    · rename_i a r h0
      cases hE
      obtain ⟨xs, h1, h2⟩ := Option.bind_eq_some_iff.mp h0
      obtain ⟨v, rfl, r1⟩ := rep_one rd
      obtain ⟨p, ws, rfl, t, r2⟩ := rep_seqL hK hs r1 h1
      have e := ints_rep r2 h2
      subst e
      refine cr_max hc pins s σ H _ us Q I rv ⟨p, a :: r, rfl, t, by simp, fun m hm hle => ?_⟩
      obtain ⟨b1, b2, b3⟩ := maxL_ge r a
      have e : m = maxL a r := by
        have c1 : maxL a r ≤ m := by
          rcases b3 with b3 | b3
          · rw [b3]; exact hle a List.mem_cons_self
          · exact hle _ (List.mem_cons_of_mem _ b3)
        have c2 : m ≤ maxL a r := by
          rcases List.mem_cons.mp hm with z | z
          · rw [z]; exact b1
          · exact b2 m z
        omega
      rw [e]
      exact k L _ H (.refl L H) hs rep_of_int
    · cases hE
  · cases hE
end
end Pe
set_option Elab.async false
set_option linter.all false
set_option maxRecDepth 100000
set_option maxHeartbeats 2000000
/-! targets, what is walked, statements, comprehensions -/
namespace Pe
open PySem PySem.Spec PyProof.Rows L2
/-! ### equality of data as it is written -/
mutual
def D.same : D → D → Bool
  | .non, .non => true
  | .bl a, .bl b => a == b
  | .int a, .int b => decide (a = b)
  | .str a, .str b => decide (a = b)
  | .tup a, .tup b => sameL a b
  | .lst a, .lst b => sameL a b
  | .scr a, .scr b => sameL a b
  | .dct t ks a, .dct t' ks' b => (t == t') && (decide (ks = ks') && sameL a b)
  | .ins c is a, .ins c' is' b => decide (c = c') && (decide (is = is') && sameL a b)
  | .fn a, .fn b => decide (a = b)
  | .ref a, .ref b => decide (a = b)
  | _, _ => false
def sameL : List D → List D → Bool
  | [], [] => true
  | a :: r, b :: s => D.same a b && sameL r s
  | _, _ => false
end
mutual
theorem D.same_eq : ∀ {a b : D}, D.same a b = true → a = b := fun {a b} h => by
  cases a <;> cases b <;> simp only [D.same, Bool.and_eq_true, decide_eq_true_eq, beq_iff_eq, Bool.false_eq_true] at h
  all_goals first
    | rfl
    | (subst h; rfl)
    | (rw [sameL_eq h])
    | (obtain ⟨h1, h2, h3⟩ := h; subst h1 h2; rw [sameL_eq h3])
theorem sameL_eq : ∀ {a b : List D}, sameL a b = true → a = b := fun {a b} h => by
  cases a <;> cases b <;> simp only [sameL, Bool.and_eq_true, Bool.false_eq_true] at h
  · rfl
  · rw [D.same_eq h.1, sameL_eq h.2]
end
mutual
theorem D.same_refl : ∀ (a : D), D.same a a = true
  | .non => by simp [D.same]
  | .bl _ => by simp [D.same]
  | .int _ => by simp [D.same]
  | .str _ => by simp [D.same]
  | .tup a => by simp [D.same, sameL_refl a]
  | .lst a => by simp [D.same, sameL_refl a]
  | .scr a => by simp [D.same, sameL_refl a]
  | .dct t ks a => by simp [D.same, sameL_refl a]
  | .ins c ids a => by simp [D.same, sameL_refl a]
  | .fn _ => by simp [D.same]
  | .ref _ => by simp [D.same]
theorem sameL_refl : ∀ (a : List D), sameL a a = true
  | [] => by simp [sameL]
  | a :: r => by simp [sameL, D.same_refl a, sameL_refl r]
end

section
variable {X : Cx} {G : Gm} {c : Ec}
/-! ### targets -/
abbrev Gx := D → Ec → Env → Store → Option (Env × Store)
abbrev Gxs := List D → Ec → Env → Store → Option (Env × Store)
def gG (G : Gm) (c : Ec) (g : Gx) : TG := fun v σ H Q => ∃ L env S d env' S', EnvOk G L env σ ∧ Sim G L S H ∧ Rep G L d v ∧ g d c env S = some (env', S') ∧ ∀ L' σ' H', Ext L H L' H' → Sim G L' S' H' → EnvOk G L' env' σ' → Q σ' H'
def gGs (G : Gm) (c : Ec) (g : Gxs) : TGs := fun vs σ H Q => ∃ L env S ds env' S', EnvOk G L env σ ∧ Sim G L S H ∧ RepL G L ds vs ∧ g ds c env S = some (env', S') ∧ ∀ L' σ' H', Ext L H L' H' → Sim G L' S' H' → EnvOk G L' env' σ' → Q σ' H'
/-- .. that sets none but the slots w -/
def gW (G : Gm) (c : Ec) (w : List Nat) (g : Gx) : TG := fun v σ H Q => ∃ L env S d env' S', EnvOk G L env σ ∧ Sim G L S H ∧ Rep G L d v ∧ g d c env S = some (env', S') ∧ ∀ L' σ' H', Ext L H L' H' → Sim G L' S' H' → EnvOk G L' env' σ' → wipe σ' w = wipe σ w → Q σ' H'
def gWs (G : Gm) (c : Ec) (w : List Nat) (g : Gxs) : TGs := fun vs σ H Q => ∃ L env S ds env' S', EnvOk G L env σ ∧ Sim G L S H ∧ RepL G L ds vs ∧ g ds c env S = some (env', S') ∧ ∀ L' σ' H', Ext L H L' H' → Sim G L' S' H' → EnvOk G L' env' σ' → wipe σ' w = wipe σ w → Q σ' H'
theorem _root_.L2.PG.imp {X : Cx} {e : Expr} {t t' : TG} (h : PG X e t) (hi : ∀ (pins : List (Addr × Obj)) (s : Shared) (v : V) (σ : L2.St) (H : Hp) (Q : L2.St → Hp → Prop), Inv X pins σ H s → t' v σ H Q → t v σ H Q) : PG X e t' := ⟨fun pins s σ H v u Q I r hw => h.run pins s σ H v u Q I r (hi pins s v σ H Q I hw)⟩
theorem _root_.L2.PGs.imp {X : Cx} {e : List Expr} {t t' : TGs} (h : PGs X e t) (hi : ∀ (pins : List (Addr × Obj)) (s : Shared) (v : List V) (σ : L2.St) (H : Hp) (Q : L2.St → Hp → Prop), Inv X pins σ H s → t' v σ H Q → t v σ H Q) : PGs X e t' := ⟨fun pins s σ H v u Q I r hw => h.run pins s σ H v u Q I r (hi pins s v σ H Q I hw)⟩
def gNm (i : Nat) : Gx := fun d _ env S => some (env.set i (some d), S)
theorem wipe_set {σ : L2.St} {i : Nat} {x : Option V} : ∀ {w : List Nat}, i ∈ w → wipe (σ.set i x) w = wipe σ w
  | [], h => by simp at h
  | a :: w, h => by
    unfold wipe
    by_cases ha : i = a
    · subst ha
      by_cases hw : i ∈ w
      · rw [wipe_set hw]
      · have : ∀ (w : List Nat) (_ : i ∉ w) (τ : L2.St), wipe (τ.set i x) w = (wipe τ w).set i x := by
          intro w
          induction w with
          | nil => intro _ τ; rfl
          | cons b w ih =>
            intro hb τ
            rw [List.mem_cons, not_or] at hb
            unfold wipe
            rw [ih hb.2 τ, List.set_comm _ _ hb.1]
        rw [this w hw σ, List.set_set]
    · rw [wipe_set (by simpa [ha] using h)]
theorem g_name {i : Nat} {x : Str} {pos : Pos} (h : PG X (.Name x pos) (gName i)) : PG X (.Name x pos) (gG G c (gNm i)) := h.imp fun pins s v σ H Q I ⟨L, env, S, d, env', S', he, hs, r, hE, k⟩ => by
  cases hE
  exact k L _ H (.refl L H) hs (he.set r)
theorem w_name {i : Nat} {x : Str} {pos : Pos} {w : List Nat} (hw : i ∈ w) (h : PG X (.Name x pos) (gName i)) : PG X (.Name x pos) (gW G c w (gNm i)) := h.imp fun pins s v σ H Q I ⟨L, env, S, d, env', S', he, hs, r, hE, k⟩ => by
  cases hE
  exact k L _ H (.refl L H) hs (he.set r) (wipe_set hw)
def gsNil : Gxs := fun ds _ env S => match ds with
  | [] => some (env, S)
  | _ => none
def gsCons (g : Gx) (u : Gxs) : Gxs := fun ds c env S => match ds with
  | d :: r => (g d c env S).bind fun p => u r c p.1 p.2
  | _ => none
theorem gs_nil : PGs X [] (gGs G c gsNil) := pgs_nil.imp fun pins s vs σ H Q I ⟨L, env, S, ds, env', S', he, hs, r, hE, k⟩ => by
  unfold gsNil at hE
  split at hE
  · cases hE
    simp only [RepL] at r
    exact ⟨r, k L _ H (.refl L H) hs he⟩
  · cases hE
theorem ws_nil {w : List Nat} : PGs X [] (gWs G c w gsNil) := pgs_nil.imp fun pins s vs σ H Q I ⟨L, env, S, ds, env', S', he, hs, r, hE, k⟩ => by
  unfold gsNil at hE
  split at hE
  · cases hE
    simp only [RepL] at r
    exact ⟨r, k L _ H (.refl L H) hs he rfl⟩
  · cases hE
theorem gs_cons {e : Expr} {es : List Expr} {g : Gx} {u : Gxs} (h1 : PG X e (gG G c g)) (h2 : PGs X es (gGs G c u)) (ha : (assignEach (e :: es) X.env).map (·.2) = assign e X.env :: (assignEach es X.env).map (·.2)) : PGs X (e :: es) (gGs G c (gsCons g u)) :=
  (pgs_cons h1 h2 ha).imp fun pins s vs σ H Q I ⟨L, env, S, ds, env', S', he, hs, r, hE, k⟩ => by
    unfold gsCons at hE
    split at hE
    · rename_i d rest
      simp only [RepL] at r
      obtain ⟨v, r2, rfl, r3, r4⟩ := r
      obtain ⟨⟨env1, S1⟩, h1, h2⟩ := Option.bind_eq_some_iff.mp hE
      refine ⟨v, r2, rfl, L, env, S, d, env1, S1, he, hs, r3, h1, fun L1 σ1 H1 e1 s1 he1 => ?_⟩
      exact ⟨L1, env1, S1, rest, env', S', he1, s1, RepL.mono e1.le _ _ r4, h2, fun L2 σ2 H2 e2 s2 he2 => k L2 σ2 H2 (e1.trans e2) s2 he2⟩
    · cases hE
theorem ws_cons {w : List Nat} {e : Expr} {es : List Expr} {g : Gx} {u : Gxs} (h1 : PG X e (gW G c w g)) (h2 : PGs X es (gWs G c w u)) (ha : (assignEach (e :: es) X.env).map (·.2) = assign e X.env :: (assignEach es X.env).map (·.2)) : PGs X (e :: es) (gWs G c w (gsCons g u)) :=
  (pgs_cons h1 h2 ha).imp fun pins s vs σ H Q I ⟨L, env, S, ds, env', S', he, hs, r, hE, k⟩ => by
    unfold gsCons at hE
    split at hE
    · rename_i d rest
      simp only [RepL] at r
      obtain ⟨v, r2, rfl, r3, r4⟩ := r
      obtain ⟨⟨env1, S1⟩, h1, h2⟩ := Option.bind_eq_some_iff.mp hE
      refine ⟨v, r2, rfl, L, env, S, d, env1, S1, he, hs, r3, h1, fun L1 σ1 H1 e1 s1 he1 w1 => ?_⟩
      exact ⟨L1, env1, S1, rest, env', S', he1, s1, RepL.mono e1.le _ _ r4, h2, fun L2 σ2 H2 e2 s2 he2 w2 => k L2 σ2 H2 (e1.trans e2) s2 he2 (w2.trans w1)⟩
    · cases hE
def gTp (n : Nat) (u : Gxs) : Gx := fun d c env S => match d with
  | .tup xs => if xs.length = n then u xs c env S else none
  | _ => none
theorem g_tup {es : List Expr} {k : Nat} {u : Gxs} {n : Nat} {pos : Pos} (hK : G.K = X.K) (hc : X.calm = true) (h : PGs X es (gGs G c u)) (hn : (assignEach es X.env).length = n) (hst : (assignEach es X.env).findIdx? (·.1) = none) : PG X (.Tuple es k pos) (gG G c (gTp n u)) :=
  (pg_tup hc h hn hst).imp fun pins s v σ H Q I ⟨L, env, S, d, env', S', he, hs, r, hE, k⟩ => by
    unfold gTp at hE
    split at hE
    · rename_i xs
      split at hE
      · rename_i hl
        obtain ⟨a, vs, rfl, t, r1⟩ := rep_seqT hK hs r rfl
        exact ⟨a, vs, rfl, t, by rw [← repL_length r1]; exact hl, L, env, S, xs, env', S', he, hs, r1, hE, k⟩
      · cases hE
    · cases hE
theorem w_tup {w : List Nat} {es : List Expr} {k : Nat} {u : Gxs} {n : Nat} {pos : Pos} (hK : G.K = X.K) (hc : X.calm = true) (h : PGs X es (gWs G c w u)) (hn : (assignEach es X.env).length = n) (hst : (assignEach es X.env).findIdx? (·.1) = none) : PG X (.Tuple es k pos) (gW G c w (gTp n u)) :=
  (pg_tup hc h hn hst).imp fun pins s v σ H Q I ⟨L, env, S, d, env', S', he, hs, r, hE, k⟩ => by
    unfold gTp at hE
    split at hE
    · rename_i xs
      split at hE
      · rename_i hl
        obtain ⟨a, vs, rfl, t, r1⟩ := rep_seqT hK hs r rfl
        exact ⟨a, vs, rfl, t, by rw [← repL_length r1]; exact hl, L, env, S, xs, env', S', he, hs, r1, hE, k⟩
      · cases hE
    · cases hE
/-- o[i] = v: a list -/
def stIx (o i v : D) (S : Store) : Option Store := match o, i with
  | .ref n, .int k => match S[n]? with
    | some (.lst xs) => (ixN xs.length k).map fun j => S.set n (.lst (xs.set j v))
    | _ => none
  | _, _ => none
def gIx (o i : Ex) : Gx := fun d c env S => (o c env S).bind fun p => (i c env p.2).bind fun q => (stIx p.1 q.1 d q.2).map fun S' => (env, S')
def rStI (G : Gm) : TSet := fun o i v H Q => ∃ L S a b d S', Sim G L S H ∧ Rep G L a o ∧ Rep G L b i ∧ Rep G L d v ∧ stIx a b d S = some S' ∧ ∀ L' H', Ext L H L' H' → Sim G L' S' H' → Q H'
theorem set_stIx : PSet X (rStI G) := by
  intro pins s σ H o i v ov iv u Q I ro ri rv h
  obtain ⟨L, S, a, b, d, S', hs, ra, rb, rd, hE, k⟩ := h
  unfold stIx at hE
  split at hE
  · rename_i n j
    split at hE
    · rename_i xs h0
      obtain ⟨t, h1, rfl⟩ := Option.map_eq_some_iff.mp hE
      simp only [Rep] at ra
      obtain ⟨p, e1, rfl⟩ := ra
      have e := rep_int rb
      subst e
      obtain ⟨vs, c1, c2⟩ := hs.cell n _ p h0 e1
      have hl := repL_length c2
      have hc : CellOk G L (upd H p (.lst (vs.set t v))) p (.lst (xs.set t d)) := ⟨_, upd_same, repL_set t c2 rd⟩
      obtain ⟨s1, x1⟩ := sim_set hs e1 hc
      exact set_list pins s σ H _ _ v ov iv u Q I ro ri rv ⟨p, vs, j, t, rfl, rfl, c1, by rw [← hl]; exact h1, k L _ x1 s1⟩
    · cases hE
  · cases hE
theorem g_ix {o i : Expr} {O Ie : Ex} {pos : Pos} (ho : PE X o (tE G c O)) (hi : PE X i (tE G c Ie))
    (ha : ∀ v, assign (.Subscript o i pos) X.env v = (do
      let ov ← holding [v] (eval o X.env)
      let iv ← holding [v, ov] (eval i X.env)
      standAt pos
      holding [v, ov, iv] (setItem ov iv v)
      release [v, ov, iv] [])) : PG X (.Subscript o i pos) (gG G c (gIx O Ie)) :=
  (pg_sub ho hi set_stIx ha).imp fun pins s v σ H Q I ⟨L, env, S, d, env', S', he, hs, r, hE, k⟩ => by
    unfold gIx at hE
    obtain ⟨⟨x, S1⟩, hA, h2⟩ := Option.bind_eq_some_iff.mp hE
    obtain ⟨⟨y, S2⟩, hB, h3⟩ := Option.bind_eq_some_iff.mp h2
    obtain ⟨S3, hC, h4⟩ := Option.map_eq_some_iff.mp h3
    cases h4
    refine ⟨L, env, S, x, S1, he, hs, hA, fun L1 o H1 e1 s1 r1 => ?_⟩
    refine ⟨L1, env, S1, y, S2, he.mono e1.le, s1, hB, fun L2 w H2 e2 s2 r2 => ?_⟩
    refine ⟨L2, S2, x, y, d, S', s2, r1.mono e2.le, r2, r.mono (e1.trans e2).le, hC, fun L3 H3 e3 s3 => ?_⟩
    exact k L3 σ H3 ((e1.trans e2).trans e3) s3 (he.mono ((e1.trans e2).trans e3).le)

/-! ### what is walked -/
structure Sq where
  items : List D
  watch : List (Nat × D)
def watchOk (w : List (Nat × D)) (S : Store) : Bool := w.all fun p => match S[p.1]? with
  | some d => D.same d p.2
  | none => false
theorem watch_at {w : List (Nat × D)} {S : Store} (h : watchOk w S = true) {n : Nat} {d : D} (hm : (n, d) ∈ w) : S[n]? = some d := by
  unfold watchOk at h
  have q := List.all_eq_true.mp h (n, d) hm
  simp only at q
  split at q
  · rename_i d' e
    rw [e, D.same_eq q]
  · cases q
abbrev Ix := Ec → Env → Store → Option (Sq × Store)
def WalksAt (G : Gm) (J : It) (q : Sq) (L' : Lk) (S' : Store) (H' : Hp) : Prop :=
  (∀ (i : Nat) (d : D), q.items[i]? = some d → J.go i H' ∧ ∀ x H'', J.yld i H' x H'' → ∃ L'', Ext L' H' L'' H'' ∧ Sim G L'' S' H'' ∧ Rep G L'' d x) ∧ J.stop q.items.length H'
def Walks (G : Gm) (J : It) (L : Lk) (S : Store) (H : Hp) (q : Sq) : Prop := watchOk q.watch S = true ∧ ∀ L' S' H', Ext L H L' H' → Sim G L' S' H' → watchOk q.watch S' = true → WalksAt G J q L' S' H'
def tI (G : Gm) (c : Ec) (it : Ix) : TI := fun σ H R => ∃ L env S q S', EnvOk G L env σ ∧ Sim G L S H ∧ it c env S = some (q, S') ∧ ∀ J L' H', Ext L H L' H' → Sim G L' S' H' → Walks G J L' S' H' q → R J H'
theorem _root_.L2.PI.imp {X : Cx} {tg e : Expr} {t t' : TI} (h : PI X tg e t) (hi : ∀ (σ : L2.St) (H : Hp) (R : It → Hp → Prop), t' σ H R → t σ H R) : PI X tg e t' := ⟨fun pins s σ H R I hw => h.run pins s σ H R I (hi σ H R hw)⟩
theorem _root_.L2.PI.or {X : Cx} {tg e : Expr} {t t' : TI} (h : PI X tg e t) (h' : PI X tg e t') : PI X tg e (fun σ H R => t σ H R ∨ t' σ H R) := ⟨fun pins s σ H R I hw => hw.elim (h.run pins s σ H R I) (h'.run pins s σ H R I)⟩
/-- the cell that a list's walk watches -/
def watchOf (S : Store) : D → List (Nat × D)
  | .ref n => match S[n]? with
    | some d => [(n, d)]
    | none => []
  | _ => []
theorem watch_now (S : Store) (d : D) : watchOk (watchOf S d) S = true := by
  unfold watchOf
  split
  · rename_i n
    split
    · rename_i d e
      unfold watchOk
      rw [List.all_cons, List.all_nil, Bool.and_true]
      simp only [e]
      exact D.same_refl d
    · rfl
  · rfl
/-- the list goes on as it is -/
theorem seqL_on {L L' : Lk} {S S' : Store} {H' : Hp} {d : D} {xs : List D} {v : V} (hK : G.K = X.K) (le : L.Le L') (s' : Sim G L' S' H') (r : Rep G L d v) (h : seqL S d = some xs) (hw : watchOk (watchOf S d) S' = true) : ∃ a vs, v = .ref a ∧ SqL X.K H' a vs ∧ RepL G L' xs vs := by
  refine rep_seqL hK s' (r.mono le) ?_
  unfold seqL seqM look at h ⊢
  cases d with
  | ref n =>
    simp only at h ⊢
    cases q : S[n]? with
    | none => rw [q] at h; cases h
    | some d =>
      rw [q] at h
      have q2 : S'[n]? = some d := watch_at hw (by
        show (n, d) ∈ (match S[n]? with | some d => [(n, d)] | none => [])
        rw [q]
        exact List.mem_cons_self)
      rw [q2]
      exact h
  | _ => exact h
theorem SqL.len_go {K : PySem.W.Frag} {H : Hp} {a : Addr} {vs : List V} {i : Nat} {x : V} (h : SqL K H a vs) (q : vs[i]? = some x) : (Itl K a).go i H := ⟨vs, x, h, q⟩
def seqI (S : Store) (d : D) : Option Sq := match d with
  | .tup xs => some ⟨xs, []⟩
  | .str x => some ⟨x.map fun ch => .str [ch], []⟩
  | d => (seqL S d).map fun xs => ⟨xs, watchOf S d⟩
def iSeq (e : Ex) : Ix := fun c env S => (e c env S).bind fun p => (seqI p.2 p.1).map fun q => (q, p.2)
end
end Pe
set_option Elab.async false
set_option linter.all false
set_option maxRecDepth 100000
set_option maxHeartbeats 4000000
/-! what a for walks: lists, tuples, texts, ranges, enumerate, zip -/
namespace Pe
open PySem PySem.Spec PyProof.Rows L2
section
variable {X : Cx} {G : Gm} {c : Ec}
theorem walks_tup {L : Lk} {S : Store} {H : Hp} {xs : List D} {a : Addr} {K : PySem.W.Frag} (hm : ∀ (L' : Lk) (S' : Store) (H' : Hp), Ext L H L' H' → Sim G L' S' H' → ∃ vs, SqT K H' a vs ∧ RepL G L' xs vs) : Walks G (Itt K a) L S H ⟨xs, []⟩ :=
  ⟨rfl, fun L' S' H' e s _ => by
    obtain ⟨vs, t, r⟩ := hm L' S' H' e s
    refine ⟨fun i d q => ?_, ⟨vs, t, by rw [← repL_length r]; exact Nat.le_refl _⟩⟩
    obtain ⟨v, q1, q2⟩ := repL_get r q
    refine ⟨⟨vs, v, t, q1⟩, fun x H'' y => ?_⟩
    obtain ⟨rfl, y⟩ := y
    have e := y vs t
    rw [q1] at e
    cases e
    exact ⟨L', .refl L' _, s, q2⟩⟩
theorem walks_lst {L : Lk} {S : Store} {H : Hp} {xs : List D} {w : List (Nat × D)} {a : Addr} {K : PySem.W.Frag} (hw : watchOk w S = true) (hm : ∀ (L' : Lk) (S' : Store) (H' : Hp), Ext L H L' H' → Sim G L' S' H' → watchOk w S' = true → ∃ vs, SqL K H' a vs ∧ RepL G L' xs vs) : Walks G (Itl K a) L S H ⟨xs, w⟩ :=
  ⟨hw, fun L' S' H' e s hw' => by
    obtain ⟨vs, t, r⟩ := hm L' S' H' e s hw'
    refine ⟨fun i d q => ?_, ⟨vs, t, by rw [← repL_length r]; exact Nat.le_refl _⟩⟩
    obtain ⟨v, q1, q2⟩ := repL_get r q
    refine ⟨⟨vs, v, t, q1⟩, fun x H'' y => ?_⟩
    obtain ⟨rfl, y⟩ := y
    have e := y vs t
    rw [q1] at e
    cases e
    exact ⟨L', .refl L' _, s, q2⟩⟩
theorem i_seq {tg e : Expr} {E : Ex} (hK : G.K = X.K) (he : PE X e (tE G c E)) : PI X tg e (tI G c (iSeq E)) :=
  ((pi_list he).or ((pi_tup he).or (pi_str he))).imp fun σ H R ⟨L, env, S, q, S', heq, hs, hE, k⟩ => by
    unfold iSeq at hE
    obtain ⟨⟨d, S1⟩, hA, h2⟩ := Option.bind_eq_some_iff.mp hE
    obtain ⟨q', h3, h4⟩ := Option.map_eq_some_iff.mp h2
    cases h4
    clear hE h2
    have h7 : seqI S1 d = some q := h3
    clear h3
    unfold seqI at h7
    split at h7
    · rename_i xs
      cases h7
      refine .inr (.inl ⟨L, env, S, _, S1, heq, hs, hA, fun L1 v H1 e1 s1 r1 => ?_⟩)
      obtain ⟨a, vs, rfl, t, r2⟩ := rep_seqT hK s1 r1 rfl
      refine ⟨a, rfl, ⟨vs, t⟩, k (Itt X.K a) L1 H1 e1 s1 (walks_tup fun L' S' H' e s => ?_)⟩
      obtain ⟨a', vs', e', t', r'⟩ := rep_seqT hK s (r1.mono e.le) rfl
      cases e'
      exact ⟨vs', t', r'⟩
    · rename_i x
      cases h7
      refine .inr (.inr ⟨L, env, S, _, S1, heq, hs, hA, fun L1 v H1 e1 s1 r1 => ?_⟩)
      obtain ⟨rfl, hok⟩ := rep_str r1
      refine ⟨stO x, rfl, k (Its (stO x)) L1 H1 e1 s1 ⟨rfl, fun L' S' H' e s _ => ⟨fun i d q => ?_, ?_⟩⟩⟩
      · have hi : i < x.length := by
          have := (List.getElem?_eq_some_iff.mp q).1
          simpa using this
        refine ⟨by show i < x.toArray.size; simpa using hi, fun y H'' hy => ?_⟩
        obtain ⟨rfl, ch, h5, rfl⟩ := hy
        have h6 : x[i]? = some ch := by
          have h5' : x.toArray[i]? = some ch := h5
          simpa using h5'
        rw [List.getElem?_map, h6] at q
        cases q
        refine ⟨L', .refl L' _, s, rep_of_str (x := [ch]) ?_⟩
        rw [List.all_cons, List.all_eq_true.mp hok ch (List.mem_of_getElem? h6)]
        rfl
      · show x.toArray.size ≤ (x.map fun ch => D.str [ch]).length
        simp
    · obtain ⟨xs, h5, h6⟩ := Option.map_eq_some_iff.mp h7
      subst h6
      refine .inl ⟨L, env, S, _, S1, heq, hs, hA, fun L1 v H1 e1 s1 r1 => ?_⟩
      obtain ⟨a, vs, rfl, t, r2⟩ := rep_seqL hK s1 r1 h5
      refine ⟨a, rfl, ⟨vs, t⟩, k (Itl X.K a) L1 H1 e1 s1 (walks_lst (watch_now _ _) fun L' S' H' e s hw => ?_)⟩
      obtain ⟨a', vs', e', t', r'⟩ := seqL_on hK e.le s r1 h5 hw
      cases e'
      exact ⟨vs', t', r'⟩
/-! ### ranges -/
def rngItems (lo c : Int) (n : Nat) : List D := (List.range n).map fun (i : Nat) => D.int (lo + (i : Int) * c)
theorem rng_get {lo c : Int} {n i : Nat} {d : D} (h : (rngItems lo c n)[i]? = some d) : i < n ∧ d = .int (lo + (i : Int) * c) := by
  unfold rngItems at h
  rw [List.getElem?_map] at h
  obtain ⟨j, h1, h2⟩ := Option.map_eq_some_iff.mp h
  have h3 := (List.getElem?_eq_some_iff.mp h1)
  obtain ⟨h4, h5⟩ := h3
  rw [List.getElem_range] at h5
  rw [List.length_range] at h4
  exact ⟨h4, by rw [← h2, h5]⟩
theorem rng_len {lo c : Int} {n : Nat} : (rngItems lo c n).length = n := by
  unfold rngItems
  rw [List.length_map, List.length_range]
def inR (i : Int) : Bool := decide (-(2 ^ 62) ≤ i ∧ i < 2 ^ 62)
theorem inR_of {i : Int} (h : inR i = true) : -(2 ^ 62) ≤ i ∧ i < 2 ^ 62 := of_decide_eq_true h
theorem walks_rng {lo : Int} {n : Nat} {L : Lk} {S : Store} {H : Hp} : Walks G (Itr lo n) L S H ⟨rngItems lo 1 n, []⟩ :=
  ⟨rfl, fun L' S' H' e s _ => ⟨fun i d q => by
    obtain ⟨h1, h2⟩ := rng_get q
    subst h2
    refine ⟨h1, fun x H'' y => ?_⟩
    obtain ⟨rfl, rfl⟩ := y
    rw [Int.mul_one]
    exact ⟨L', .refl L' _, s, rep_of_int⟩, by
    show n ≤ (rngItems lo 1 n).length
    rw [rng_len]
    exact Nat.le_refl _⟩⟩
def iRange1 (a : Ax) : Ix := fun c env S => (a c env S).bind fun p => match p.1 with
  | [.int j] => if inR j = true then some (⟨rngItems 0 1 j.toNat, []⟩, p.2) else none
  | _ => none
def iRange2 (a : Ax) : Ix := fun c env S => (a c env S).bind fun p => match p.1 with
  | [.int i, .int j] => if inR i = true ∧ inR j = true then some (⟨rngItems i 1 (j - i).toNat, []⟩, p.2) else none
  | _ => none
theorem i_range1 {tg a : Expr} {A : Ax} {p pos : Pos} (hg : Gl X "range") (hm : X.mg "range" = none) (ha : PA X [a] (tA G c A)) (hs : starEach [a] X.env = [(false, eval a X.env)]) : PI X tg (.Call (.Name "range" p) [a] [] pos) (tI G c (iRange1 A)) :=
  (pi_range1 hg hm ha hs).imp fun σ H R ⟨L, env, S, q, S', heq, hs, hE, k⟩ => by
    unfold iRange1 at hE
    obtain ⟨⟨ds, S1⟩, hA, h2⟩ := Option.bind_eq_some_iff.mp hE
    refine ⟨L, env, S, ds, S1, heq, hs, hA, fun L1 vs H1 e1 s1 r1 => ?_⟩
    clear hE
    split at h2
    · rename_i j e
      have e' : ds = [.int j] := e
      subst e'
      split at h2
      · rename_i hj
        cases h2
        obtain ⟨v, rfl, r2⟩ := rep_one r1
        rw [rep_int r2]
        exact ⟨j, rfl, (inR_of hj).1, (inR_of hj).2, k _ L1 H1 e1 s1 walks_rng⟩
      · cases h2
    · cases h2
theorem i_range2 {tg a b : Expr} {A : Ax} {p pos : Pos} (hg : Gl X "range") (hm : X.mg "range" = none) (ha : PA X [a, b] (tA G c A)) (hs : starEach [a, b] X.env = [(false, eval a X.env), (false, eval b X.env)]) (hs2 : starEach [b] X.env = [(false, eval b X.env)]) : PI X tg (.Call (.Name "range" p) [a, b] [] pos) (tI G c (iRange2 A)) :=
  (pi_range2 hg hm ha hs hs2).imp fun σ H R ⟨L, env, S, q, S', heq, hs, hE, k⟩ => by
    unfold iRange2 at hE
    obtain ⟨⟨ds, S1⟩, hA, h2⟩ := Option.bind_eq_some_iff.mp hE
    refine ⟨L, env, S, ds, S1, heq, hs, hA, fun L1 vs H1 e1 s1 r1 => ?_⟩
    clear hE
    split at h2
    · rename_i i j e
      have e' : ds = [.int i, .int j] := e
      subst e'
      split at h2
      · rename_i hj
        cases h2
        obtain ⟨v, w, rfl, r2, r3⟩ := rep_two r1
        rw [rep_int r2, rep_int r3]
        exact ⟨i, j, rfl, ⟨(inR_of hj.1).1, (inR_of hj.1).2, (inR_of hj.2).1, (inR_of hj.2).2⟩, k _ L1 H1 e1 s1 walks_rng⟩
      · cases h2
    · cases h2
/-! ### what is drawn from: lists and tuples -/
inductive Sk where
  | l (a : Addr) | t (a : Addr)
def Sk.ad : Sk → Addr
  | .l a => a
  | .t a => a
def Sk.has (K : PySem.W.Frag) (H : Hp) : Sk → List V → Prop
  | .l a, vs => SqL K H a vs
  | .t a, vs => SqT K H a vs
def Sk.it (h : Heap) (p : Addr) (i : Nat) : Sk → Prop
  | .l a => h.IsListIter p a i
  | .t a => h.IsTupleIter p a i
def Sk.con (h : Heap) (its : Array Value) : Sk → Prop
  | .l a => h.IsList a its
  | .t a => h.IsTuple a its
def Sk.begin (s : Sk) : Obj := match s with
  | .l a => { cls := .type "list_iterator", data := .fields #[.ref a, .int 0 0] }
  | .t a => { cls := .type "tuple_iterator", data := .fields #[.ref a, .int 0 0] }
theorem Sk.begins (s : Sk) (its : Array Value) : Begins (.ref s.ad) s.begin fun h => s.con h its := by
  cases s with
  | l a => exact begins_list a its
  | t a => exact begins_tuple a its
theorem Sk.now {s : Sk} {pins : List (Addr × Obj)} {sh : Shared} {σ : L2.St} {H : Hp} {vs : List V} (I : Inv X pins σ H sh) (h : s.has X.K H vs) : ∃ its : List Value, Vals vs its ∧ s.con sh.heap its.toArray ∧ vs.length ≤ sizeLine ∧ s.ad < sh.heap.objs.size := by
  cases s with
  | l a =>
    obtain ⟨its, rv, p, hz⟩ := I.list h
    have p' : PlainL sh.heap a its.toArray := p
    obtain ⟨o, n, e, h1, h2, h3⟩ := p'
    exact ⟨its, rv, ⟨o, e, h1, n, h3⟩, hz, Heap.lt_size e⟩
  | t a =>
    obtain ⟨its, rv, p, hz⟩ := I.tuple h
    exact ⟨its, rv, p, hz, p.lt⟩
theorem Sk.inj {s : Sk} {pins : List (Addr × Obj)} {sh : Shared} {σ : L2.St} {H : Hp} {vs ws : List V} (I : Inv X pins σ H sh) (h : s.has X.K H vs) (h' : s.has X.K H ws) : vs = ws := by
  cases s with
  | l a => exact I.list_inj h h'
  | t a => exact I.tuple_inj h h'
theorem Sk.draws {prog : Program} {w : World} {A : Around} (hh : A.handled = none) (s : Sk) (p : Addr) (hne : s.ad ≠ p) (its : Array Value) : Draws prog w A p [p, s.ad] its.size (fun i v => its[i]? = some v) (fun i h => s.it h p i ∧ s.con h its) := by
  cases s with
  | l a => exact Draws.list hh p a hne its
  | t a => exact Draws.tuple hh p a hne its
theorem Sk.itAt {s : Sk} {h h' : Heap} {p : Addr} {i : Nat} (x : s.it h p i) (k : ∀ o, h.get? p = some o → h'.get? p = some o) : s.it h' p i := by
  cases s with
  | l a => exact Heap.IsListIter.at x k
  | t a => exact Heap.IsTupleIter.at x k
theorem Sk.itObj {s : Sk} {h : Heap} {p : Addr} {i : Nat} (x : s.it h p i) : ∃ o, h.get? p = some o ∧ ∀ v, o.data ≠ .cell v := by
  cases s with
  | l a => obtain ⟨o, e, c, d⟩ := x; exact ⟨o, e, fun v z => by rw [d] at z; cases z⟩
  | t a => obtain ⟨o, e, c, d⟩ := x; exact ⟨o, e, fun v z => by rw [d] at z; cases z⟩
theorem Sk.it0 {s : Sk} {h : Heap} {p : Addr} (e : h.get? p = some s.begin) : s.it h p 0 := by
  cases s with
  | l a => exact ⟨_, e, rfl, rfl⟩
  | t a => exact ⟨_, e, rfl, rfl⟩
/-- an iterator is no list, no tuple -/
theorem Sk.apart {s : Sk} {h : Heap} {p : Addr} {i : Nat} {its : Array Value} (x : s.it h p i) (y : s.con h its) : s.ad ≠ p := by
  cases s with
  | l a =>
    intro e
    have e : a = p := e
    subst e
    obtain ⟨o, e1, c1, d1⟩ := x
    obtain ⟨o2, e2, c2, d2⟩ := y
    rw [e1] at e2
    cases e2
    rw [c1] at c2
    exact absurd c2 (by decide)
  | t a =>
    intro e
    have e : a = p := e
    subst e
    obtain ⟨o, e1, c1, d1⟩ := x
    obtain ⟨o2, e2, c2, d2⟩ := y
    rw [e1] at e2
    cases e2
    rw [c1] at c2
    exact absurd c2 (by decide)
end
end Pe
set_option Elab.async false
set_option linter.all false
set_option maxRecDepth 100000
set_option maxHeartbeats 4000000
/-! zip and enumerate, one in the other: their turns by the machine -/
namespace Pe
open PySem PySem.Spec PyProof.Rows L2
abbrev IsZ (h : Heap) (z TI TO : Addr) (f0 f1 : Value) : Prop := h.get? z = some { cls := .type "zip", dict := none, data := .fields #[f0, f1, .bool false, .ref TI, .ref TO], slots := #[] }
/-- nothing is out, or some tuple, alive or not -/
def Fz (f0 : Value) : Prop := f0 = .none ∨ ∃ a : Nat, f0 = rawInt a
section
variable {prog : Program} {w : World} {A : Around} {E : Value → Shared → Prop} {s : Shared}
theorem alive_any {a : Addr} {Q : Option Obj → Shared → Prop} (h : Q (s.heap.get? a) s) : wpAny (model prog w) A (loadIfAlive a) Q E s := fun Γ p _ => by
  unfold loadIfAlive
  rw [Sem.wp_loadIfAlive]
  simpa using h
theorem free_any {z TI TO : Addr} {f0 f1 : Value} {Q : Bool → Shared → Prop} (hz : IsZ s.heap z TI TO f0 f1) (hf : Fz f0)
    (hQ : ∀ b h' f1', IsZ h' z TI TO f0 f1' → Heap.SameBut z s.heap h' → Q b { s with heap := h' }) : wpAny (model prog w) A (Builtin.SmallTypes.ownedTupleIsFree (.ref z)) Q E s := by
  have self : Heap.SameBut z s.heap s.heap := ⟨rfl, fun _ _ => rfl⟩
  unfold Builtin.SmallTypes.ownedTupleIsFree
  rcases hf with e | ⟨a, e⟩
  · subst e
    exact wpAny_bind (wpAny_field hz rfl (x := .none) rfl (wpAny_pure (hQ true s.heap f1 hz self)))
  · subst e
    refine wpAny_bind (wpAny_field hz rfl (x := rawInt a) rfl ?_)
    show wpAny _ _ (loadIfAlive (a : Int).toNat >>= _) _ _ _
    refine wpAny_bind (alive_any ?_)
    cases q : s.heap.get? (a : Int).toNat with
    | none => exact wpAny_pure (hQ true s.heap f1 hz self)
    | some o =>
      show wpAny _ _ (field (.ref z) 1 >>= _) _ _ _
      refine wpAny_bind (wpAny_field hz rfl (x := f1) rfl ?_)
      by_cases hb : (f1 != Value.bool true) = true
      · rw [if_pos hb]
        refine wpAny_bind (wpAny_setField_rec hz (by simp) fun h' hz' hs' => ?_)
        exact wpAny_pure (hQ false h' (.bool true) hz' hs')
      · rw [if_neg hb]
        exact wpAny_bind (wpAny_pure (wpAny_pure (hQ false s.heap f1 hz self)))
theorem zip_next2 {Q : Value → Shared → Prop} {z TI TO i1 i2 : Addr} {fp1 fp2 : List Addr} {n1 n2 i : Nat} {P1 P2 : Nat → Value → Prop} {St1 St2 : Nat → Heap → Prop} {a1 a2 f0 f1 : Value}
    (S : ZipSep2 z TI TO i1 i2 fp1 fp2) (D1 : Draws prog w A i1 fp1 n1 P1 St1) (D2 : Draws prog w A i2 fp2 n2 P2 St2)
    (hz : IsZ s.heap z TI TO f0 f1) (hf : Fz f0) (hTI : IsTupOf2 s.heap TI (.ref i1) (.ref i2)) (hTO : IsTupOf2 s.heap TO a1 a2) (st1 : St1 i s.heap) (st2 : St2 i s.heap) (l1 : i < n1) (l2 : i < n2)
    (hQ : ∀ x1 x2 T h' tk g0 g1 b1 b2, P1 i x1 → P2 i x2 → IsZ h' z TI TO g0 g1 → Fz g0 → IsTupOf2 h' TO b1 b2 → St1 (i + 1) h' → St2 (i + 1) h' → IsTupOf2 h' T x1 x2 → s.heap.objs.size ≤ T → s.heap.objs.size ≤ h'.objs.size →
      (∀ c o, c ≠ z → c ≠ TO → c ≠ i1 → c ≠ i2 → s.heap.get? c = some o → h'.get? c = some o) → Q (.ref T) { s with heap := h', toks := tk }) :
    wpAny (model prog w) A (Builtin.«zip.__next__» ⟨[.ref z], []⟩) (fun fin s' => ∃ v, fin = .done (.ret v) ∧ Q v s') E s := by
  obtain ⟨hp, gs, dr, tk0, os⟩ := s
  show wpAny _ _ (field (.ref z) 2 >>= _) _ _ _
  refine wpAny_bind (wpAny_field hz rfl (x := .bool false) rfl ?_)
  show wpAny _ _ (field (.ref z) 3 >>= _) _ _ _
  refine wpAny_bind (wpAny_field hz rfl (x := .ref TI) rfl (wpAny_bind (wpAny_seqItems hTI rfl ?_)))
  show wpAny _ _ (Builtin.SmallTypes.ownedTupleIsFree (.ref z) >>= _) _ _ _
  refine wpAny_bind (free_any hz hf fun b hA f1' hzA sA => ?_)
  have sA : Heap.SameBut z hp hA := sA
  have tiA : IsTupOf2 hA TI (.ref i1) (.ref i2) := sA.extBut _ _ S.TIz hTI
  have toA : IsTupOf2 hA TO a1 a2 := sA.extBut _ _ S.TOz hTO
  have s1A := D1.over st1 sA S.zf1
  have s2A := D2.over st2 sA S.zf2
  cases b with
  | true =>
    simp only [if_true]
    refine wpAny_bind (wpAny_rule (wpAny_bind (wpAny_field hzA rfl (x := .ref TO) rfl ?_)))
    refine wpAny_bind (wpAny_setField_rec hzA (by simp) fun hB zB sB => ?_)
    have zB : IsZ hB z TI TO .ellipsis f1' := zB
    have sB : Heap.SameBut z hA hB := sB
    refine wpAny_bind ?_
    simp only [List.zipIdx_cons, List.zipIdx_nil, List.forIn_cons, List.forIn_nil]
    refine wpAny_bind (wpAny_bind (wpAny_onRaise ?_))
    show wpAny _ _ (Builtin.SmallTypes.nextOf (.ref i1) >>= _) _ _ (⟨hB, gs, dr, tk0, os⟩ : Shared)
    refine wpAny_bind (D1.item i _ _ _ l1 (D1.over s1A sB S.zf1) fun x1 hC t1 p1 d1 sC => wpAny_pure ?_)
    have sC : Heap.SameBut i1 hB hC := sC
    have toC : IsTupOf2 hC TO a1 a2 := sC.extBut _ _ S.Ti1 (sB.extBut _ _ S.TOz toA)
    refine wpAny_bind (wpAny_seqItems (s := ⟨hC, gs, dr, t1, os⟩) toC rfl (wpAny_bind (updateSeq_IsTupOf2 (s := ⟨hC, gs, dr, t1, os⟩) toC fun hD toD sD => ?_)))
    have toD : IsTupOf2 hD TO x1 a2 := toD
    have sD : Heap.SameBut TO hC hD := sD
    refine wpAny_bind (wpAny_letGo (wpAny_pure (wpAny_bind (wpAny_bind (wpAny_onRaise ?_)))))
    show wpAny _ _ (Builtin.SmallTypes.nextOf (.ref i2) >>= _) _ _ (⟨hD, gs, dr, t1, os⟩ : Shared)
    refine wpAny_bind (D2.item i _ _ _ l2 (D2.over (D2.over (D2.over s2A sB S.zf2) sC S.sep1_2) sD S.Tf2) fun x2 hE t2 p2 d2 sE => wpAny_pure ?_)
    have sE : Heap.SameBut i2 hD hE := sE
    have toE : IsTupOf2 hE TO x1 a2 := sE.extBut _ _ S.Ti2 toD
    refine wpAny_bind (wpAny_seqItems (s := ⟨hE, gs, dr, t2, os⟩) toE rfl (wpAny_bind (updateSeq_IsTupOf2 (s := ⟨hE, gs, dr, t2, os⟩) toE fun hF toF sF => ?_)))
    have toF : IsTupOf2 hF TO x1 x2 := toF
    have sF : Heap.SameBut TO hE hF := sF
    refine wpAny_bind (wpAny_letGo (wpAny_pure (wpAny_pure (wpAny_bind (wpAny_seqItems (s := ⟨hF, gs, dr, t2, os⟩) toF rfl (wpAny_bind (wpAny_newTuple ?_)))))))
    have zF : IsZ hF z TI TO .ellipsis f1' := sF.extBut _ _ S.TOz.symm (sE.extBut _ _ S.zi2 (sD.extBut _ _ S.TOz.symm (sC.extBut _ _ S.zi1 zB)))
    have up : ∀ q o, q ≠ z → q ≠ TO → q ≠ i1 → q ≠ i2 → hp.get? q = some o → hF.get? q = some o := fun q o n1 n2 n3 n4 e =>
      sF.extBut _ _ n2 (sE.extBut _ _ n4 (sD.extBut _ _ n2 (sC.extBut _ _ n3 (sB.extBut _ _ n1 (sA.extBut _ _ n1 e)))))
    have size : hF.objs.size = hp.objs.size := by rw [sF.1, sE.1, sD.1, sC.1, sB.1, sA.1]
    have j1 : St1 (i + 1) hF := D1.over (D1.over (D1.over d1 sD S.Tf1) sE S.sep2_1) sF S.Tf1
    have j2 : St2 (i + 1) hF := D2.over d2 sF S.Tf2
    show wpAny _ _ (Builtin.SmallTypes.ownedTupleHandOut (.ref z) (.ref hF.objs.size) >>= _) _ _ (⟨hF.push { cls := .type "tuple", data := .seq #[x1, x2] }, gs, dr, t2, os⟩ : Shared)
    refine wpAny_bind ?_
    unfold Builtin.SmallTypes.ownedTupleHandOut
    have zG : IsZ (hF.push { cls := .type "tuple", data := .seq #[x1, x2] }) z TI TO .ellipsis f1' := Heap.get?_push_of_some _ zF
    refine wpAny_bind (wpAny_setField_rec zG (by simp) fun hH zH sH => ?_)
    have zH : IsZ hH z TI TO (rawInt hF.objs.size) f1' := zH
    refine wpAny_setField_rec zH (by simp) fun hI zI sI => ?_
    have zI : IsZ hI z TI TO (rawInt hF.objs.size) (.bool false) := zI
    have sH : Heap.SameBut z (hF.push { cls := .type "tuple", data := .seq #[x1, x2] }) hH := sH
    have sI : Heap.SameBut z hH hI := sI
    have on : ∀ q o, q ≠ z → hF.get? q = some o → hI.get? q = some o := fun q o n e => sI.extBut _ _ n (sH.extBut _ _ n (Heap.get?_push_of_some _ e))
    have zlt : z < hF.objs.size := Heap.lt_size zF
    refine wpAny_pure ⟨_, rfl, hQ x1 x2 hF.objs.size hI t2 _ _ x1 x2 p1 p2 zI (.inr ⟨_, rfl⟩) (on _ _ S.TOz toF) ?_ ?_ ?_ (Nat.le_of_eq size.symm) ?_ fun q o n1 n2 n3 n4 e => on q o n1 (up q o n1 n2 n3 n4 e)⟩
    · exact D1.frame _ _ _ j1 fun b hb o e => on b o (fun q => S.zf1 (q ▸ hb)) e
    · exact D2.frame _ _ _ j2 fun b hb o e => on b o (fun q => S.zf2 (q ▸ hb)) e
    · exact sI.extBut _ _ (Nat.ne_of_gt zlt) (sH.extBut _ _ (Nat.ne_of_gt zlt) (Heap.get?_push_size _ rfl))
    · show hp.objs.size ≤ hI.objs.size
      rw [sI.1, sH.1, Heap.size_push, size]
      exact Nat.le_succ _
  | false =>
    refine wpAny_bind ?_
    rw [show (#[Value.ref i1, Value.ref i2] : Array Value) = [Value.ref i1, Value.ref i2].toArray from rfl, List.forIn_toArray]
    simp only [List.forIn_cons, List.forIn_nil]
    refine wpAny_bind (wpAny_bind (wpAny_holding ?_))
    show wpAny _ _ (Builtin.SmallTypes.nextOf (.ref i1) >>= _) _ _ (⟨hA, gs, dr, tk0, os⟩ : Shared)
    refine wpAny_bind (D1.item i _ _ _ l1 s1A fun x1 hC t1 p1 d1 sC => wpAny_pure (wpAny_pure ?_))
    have sC : Heap.SameBut i1 hA hC := sC
    refine wpAny_bind (wpAny_bind (wpAny_holding ?_))
    show wpAny _ _ (Builtin.SmallTypes.nextOf (.ref i2) >>= _) _ _ (⟨hC, gs, dr, t1, os⟩ : Shared)
    refine wpAny_bind (D2.item i _ _ _ l2 (D2.over s2A sC S.sep1_2) fun x2 hE t2 p2 d2 sE => wpAny_pure (wpAny_pure (wpAny_pure ?_)))
    have sE : Heap.SameBut i2 hC hE := sE
    show wpAny _ _ (newTuple [x1, x2] >>= _) _ _ (⟨hE, gs, dr, t2, os⟩ : Shared)
    refine wpAny_bind (wpAny_newTuple (wpAny_pure ⟨_, rfl, ?_⟩))
    have size : hE.objs.size = hp.objs.size := by rw [sE.1, sC.1, sA.1]
    have zE : IsZ hE z TI TO f0 f1' := sE.extBut _ _ S.zi2 (sC.extBut _ _ S.zi1 hzA)
    have up : ∀ q o, q ≠ z → q ≠ TO → q ≠ i1 → q ≠ i2 → hp.get? q = some o → hE.get? q = some o := fun q o n1 n2 n3 n4 e => sE.extBut _ _ n4 (sC.extBut _ _ n3 (sA.extBut _ _ n1 e))
    have on : ∀ q o, hE.get? q = some o → (hE.push { cls := .type "tuple", data := .seq #[x1, x2] }).get? q = some o := fun q o e => Heap.get?_push_of_some _ e
    refine hQ x1 x2 hE.objs.size _ t2 _ _ a1 a2 p1 p2 (on _ _ zE) hf (on _ _ (sE.extBut _ _ S.Ti2 (sC.extBut _ _ S.Ti1 toA))) ?_ ?_ (Heap.get?_push_size _ rfl) (Nat.le_of_eq size.symm) ?_ fun q o n1 n2 n3 n4 e => on q o (up q o n1 n2 n3 n4 e)
    · exact D1.frame _ _ _ (D1.over d1 sE S.sep2_1) fun b hb o e => on b o e
    · exact D2.frame _ _ _ d2 fun b hb o e => on b o e
    · show hp.objs.size ≤ (hE.push _).objs.size
      rw [Heap.size_push, size]
      exact Nat.le_succ _
theorem zip_end2 {Q : Fin → Shared → Prop} {z TI TO i1 i2 : Addr} {fp1 fp2 : List Addr} {n1 n2 i : Nat} {P1 P2 : Nat → Value → Prop} {St1 St2 : Nat → Heap → Prop} {a1 a2 f0 f1 : Value}
    (S : ZipSep2 z TI TO i1 i2 fp1 fp2) (D1 : Draws prog w A i1 fp1 n1 P1 St1) (D2 : Draws prog w A i2 fp2 n2 P2 St2)
    (hz : IsZ s.heap z TI TO f0 f1) (hf : Fz f0) (hTI : IsTupOf2 s.heap TI (.ref i1) (.ref i2)) (hTO : IsTupOf2 s.heap TO a1 a2) (st1 : St1 i s.heap) (st2 : St2 i s.heap) (e1 : i ≤ n1) (e2 : i ≤ n2) (en : i = n1 ∨ i = n2)
    (hE : ∀ h' tk x, (∀ c o, c ≠ z → c ≠ TO → c ≠ i1 → c ≠ i2 → s.heap.get? c = some o → h'.get? c = some o) → (∃ o, h'.get? x = some o ∧ o.cls = .type "StopIteration") → E (.ref x) { s with heap := h', toks := tk }) :
    wpAny (model prog w) A (Builtin.«zip.__next__» ⟨[.ref z], []⟩) Q E s := by
  obtain ⟨hp, gs, dr, tk0, os⟩ := s
  show wpAny _ _ (field (.ref z) 2 >>= _) _ _ _
  refine wpAny_bind (wpAny_field hz rfl (x := .bool false) rfl ?_)
  show wpAny _ _ (field (.ref z) 3 >>= _) _ _ _
  refine wpAny_bind (wpAny_field hz rfl (x := .ref TI) rfl (wpAny_bind (wpAny_seqItems hTI rfl ?_)))
  show wpAny _ _ (Builtin.SmallTypes.ownedTupleIsFree (.ref z) >>= _) _ _ _
  refine wpAny_bind (free_any hz hf fun b hA f1' hzA sA => ?_)
  have sA : Heap.SameBut z hp hA := sA
  have tiA : IsTupOf2 hA TI (.ref i1) (.ref i2) := sA.extBut _ _ S.TIz hTI
  have toA : IsTupOf2 hA TO a1 a2 := sA.extBut _ _ S.TOz hTO
  have s1A := D1.over st1 sA S.zf1
  have s2A := D2.over st2 sA S.zf2
  cases b with
  | true =>
    simp only [if_true]
    refine wpAny_bind (wpAny_rule (wpAny_bind (wpAny_field hzA rfl (x := .ref TO) rfl ?_)))
    refine wpAny_bind (wpAny_setField_rec hzA (by simp) fun hB zB sB => ?_)
    have zB : IsZ hB z TI TO .ellipsis f1' := zB
    have sB : Heap.SameBut z hA hB := sB
    refine wpAny_bind ?_
    simp only [List.zipIdx_cons, List.zipIdx_nil, List.forIn_cons, List.forIn_nil]
    refine wpAny_bind (wpAny_bind (wpAny_onRaise ?_))
    show wpAny _ _ (Builtin.SmallTypes.nextOf (.ref i1) >>= _) _ _ (⟨hB, gs, dr, tk0, os⟩ : Shared)
    by_cases l1 : i < n1
    · refine wpAny_bind (D1.item i _ _ _ l1 (D1.over s1A sB S.zf1) fun x1 hC t1 p1 d1 sC => wpAny_pure ?_)
      have sC : Heap.SameBut i1 hB hC := sC
      have toC : IsTupOf2 hC TO a1 a2 := sC.extBut _ _ S.Ti1 (sB.extBut _ _ S.TOz toA)
      refine wpAny_bind (wpAny_seqItems (s := ⟨hC, gs, dr, t1, os⟩) toC rfl (wpAny_bind (updateSeq_IsTupOf2 (s := ⟨hC, gs, dr, t1, os⟩) toC fun hD toD sD => ?_)))
      have toD : IsTupOf2 hD TO x1 a2 := toD
      have sD : Heap.SameBut TO hC hD := sD
      refine wpAny_bind (wpAny_letGo (wpAny_pure (wpAny_bind (wpAny_bind (wpAny_onRaise ?_)))))
      show wpAny _ _ (Builtin.SmallTypes.nextOf (.ref i2) >>= _) _ _ (⟨hD, gs, dr, t1, os⟩ : Shared)
      have en2 : i = n2 := by omega
      have s2D := D2.over (D2.over (D2.over s2A sB S.zf2) sC S.sep1_2) sD S.Tf2
      rw [en2] at s2D
      refine wpAny_bind (D2.done ⟨hD, gs, dr, t1, os⟩ _ _ s2D fun hE' x sE he => ?_)
      have sE : Heap.ExtBut i2 hD hE' := sE
      obtain ⟨o, ho, hc⟩ := he
      have zE : IsZ hE' z TI TO .ellipsis f1' := sE _ _ S.zi2 (sD.extBut _ _ S.TOz.symm (sC.extBut _ _ S.zi1 zB))
      have xz : x ≠ z := fun q => by
        subst q
        rw [zE] at ho
        cases ho
        simp at hc
      refine wpAny_setField_rec (s := ⟨hE', gs, dr, t1, os⟩) zE (by simp) fun hF _ sF => ?_
      have sF : Heap.SameBut z hE' hF := sF
      exact hE hF t1 x (fun q o n1 n2 n3 n4 e => sF.extBut _ _ n1 (sE _ _ n4 (sD.extBut _ _ n2 (sC.extBut _ _ n3 (sB.extBut _ _ n1 (sA.extBut _ _ n1 e)))))) ⟨o, sF.extBut _ _ xz ho, hc⟩
    · have en1 : i = n1 := by omega
      have s1B := D1.over s1A sB S.zf1
      rw [en1] at s1B
      refine wpAny_bind (D1.done ⟨hB, gs, dr, tk0, os⟩ _ _ s1B fun hE' x sE he => ?_)
      have sE : Heap.ExtBut i1 hB hE' := sE
      obtain ⟨o, ho, hc⟩ := he
      have zE : IsZ hE' z TI TO .ellipsis f1' := sE _ _ S.zi1 zB
      have xz : x ≠ z := fun q => by
        subst q
        rw [zE] at ho
        cases ho
        simp at hc
      refine wpAny_setField_rec (s := ⟨hE', gs, dr, tk0, os⟩) zE (by simp) fun hF _ sF => ?_
      have sF : Heap.SameBut z hE' hF := sF
      exact hE hF tk0 x (fun q o n1 n2 n3 n4 e => sF.extBut _ _ n1 (sE _ _ n3 (sB.extBut _ _ n1 (sA.extBut _ _ n1 e)))) ⟨o, sF.extBut _ _ xz ho, hc⟩
  | false =>
    refine wpAny_bind ?_
    rw [show (#[Value.ref i1, Value.ref i2] : Array Value) = [Value.ref i1, Value.ref i2].toArray from rfl, List.forIn_toArray]
    simp only [List.forIn_cons, List.forIn_nil]
    refine wpAny_bind (wpAny_bind (wpAny_holding ?_))
    show wpAny _ _ (Builtin.SmallTypes.nextOf (.ref i1) >>= _) _ _ (⟨hA, gs, dr, tk0, os⟩ : Shared)
    by_cases l1 : i < n1
    · refine wpAny_bind (D1.item i _ _ _ l1 s1A fun x1 hC t1 p1 d1 sC => wpAny_pure (wpAny_pure ?_))
      have sC : Heap.SameBut i1 hA hC := sC
      refine wpAny_bind (wpAny_bind (wpAny_holding ?_))
      show wpAny _ _ (Builtin.SmallTypes.nextOf (.ref i2) >>= _) _ _ (⟨hC, gs, dr, t1, os⟩ : Shared)
      have en2 : i = n2 := by omega
      have s2C := D2.over s2A sC S.sep1_2
      rw [en2] at s2C
      refine wpAny_bind (D2.done ⟨hC, gs, dr, t1, os⟩ _ _ s2C fun hE' x sE he => ?_)
      have sE : Heap.ExtBut i2 hC hE' := sE
      exact hE hE' t1 x (fun q o n1 n2 n3 n4 e => sE _ _ n4 (sC.extBut _ _ n3 (sA.extBut _ _ n1 e))) he
    · have en1 : i = n1 := by omega
      rw [en1] at s1A
      refine wpAny_bind (D1.done ⟨hA, gs, dr, tk0, os⟩ _ _ s1A fun hE' x sE he => ?_)
      have sE : Heap.ExtBut i1 hA hE' := sE
      exact hE hE' tk0 x (fun q o n1 n2 n3 n4 e => sE _ _ n3 (sA.extBut _ _ n1 e)) he
/-- enumerate's own part of a turn: x has been drawn -/
theorem enum_rest {e it : Addr} {k : Int} {old x : Value} {Q : Value → Shared → Prop} (he : IsEnum s.heap e it k old)
    (hQ : ∀ h' tk t, IsEnumOut h' e it (k + 1) x s.heap.objs.size → h'.get? s.heap.objs.size = some { cls := .type "tuple", data := .seq #[.int k t, x] } → h'.objs.size = s.heap.objs.size + 1 → (∀ b o, b ≠ e → s.heap.get? b = some o → h'.get? b = some o) → Q (.ref s.heap.objs.size) { s with heap := h', toks := tk }) :
    wpAny (model prog w) A (do
      let .int i _ ← field (.ref e) 3 | unsupported "internal:enumerate.__next__"
      let given ← field (.ref e) 4
      let index ← if given == .none then mkInt i else pure given
      setField (.ref e) 3 (rawInt (i + 1))
      setField (.ref e) 4 .none
      let result ← newTuple [index, x]
      if ← Builtin.SmallTypes.ownedTupleIsFree (.ref e) then
        rule "enumerate.__next__.owned-tuple-again"
        let old ← field (.ref e) 5
        setField (.ref e) 5 x
        Builtin.SmallTypes.ownedTupleHandOut (.ref e) result
        letGo [old] [result]
      ret result) (fun fin s' => ∃ v, fin = Fin.done (.ret v) ∧ Q v s') E s := by
  obtain ⟨hp, gs, dr, tk0, os⟩ := s
  have hel : e < hp.objs.size := Heap.lt_size he
  refine wpAny_bind (wpAny_field he rfl (x := rawInt k) rfl ?_)
  show wpAny _ _ (field (.ref e) 4 >>= _) _ _ (⟨hp, gs, dr, tk0, os⟩ : Shared)
  refine wpAny_bind (wpAny_field he rfl (x := .none) rfl ?_)
  show wpAny _ _ (mkInt k >>= _) _ _ (⟨hp, gs, dr, tk0, os⟩ : Shared)
  refine wpAny_bind (wpAny_mkInt ?_)
  refine wpAny_bind (wpAny_setField_rec (s := ⟨hp, gs, dr, tk0 + 1, os⟩) he (by simp) fun hA eA sA => ?_)
  have eA : IsEnum hA e it (k + 1) old := eA
  have sA : Heap.SameBut e hp hA := sA
  refine wpAny_bind (wpAny_setField_rec (s := ⟨hA, gs, dr, tk0 + 1, os⟩) eA (by simp) fun hB eB sB => ?_)
  have eB : IsEnum hB e it (k + 1) old := eB
  have sB : Heap.SameBut e hA hB := sB
  refine wpAny_bind (wpAny_newTuple ?_)
  have size : hB.objs.size = hp.objs.size := by rw [sB.1, sA.1]
  have eC : IsEnum (hB.push { cls := .type "tuple", data := .seq #[.int k tk0, x] }) e it (k + 1) old := Heap.get?_push_of_some _ eB
  have tC : (hB.push { cls := .type "tuple", data := .seq #[.int k tk0, x] }).get? hp.objs.size = some { cls := .type "tuple", data := .seq #[.int k tk0, x] } := by
    rw [← size]
    exact Heap.get?_push_size _ rfl
  have zC : (hB.push { cls := .type "tuple", data := .seq #[.int k tk0, x] }).objs.size = hp.objs.size + 1 := by rw [Heap.size_push, size]
  have on : ∀ b o, b ≠ e → hp.get? b = some o → (hB.push { cls := .type "tuple", data := .seq #[.int k tk0, x] }).get? b = some o := fun b o n q => Heap.get?_push_of_some _ (sB.extBut _ _ n (sA.extBut _ _ n q))
  show wpAny _ _ (Builtin.SmallTypes.ownedTupleIsFree (.ref e) >>= _) _ _ (⟨hB.push { cls := .type "tuple", data := .seq #[.int k tk0, x] }, gs, dr, tk0 + 1, os⟩ : Shared)
  rw [size]
  generalize hB.push { cls := .type "tuple", data := .seq #[.int k tk0, x] } = hC at eC tC zC on
  refine wpAny_bind ?_
  unfold Builtin.SmallTypes.ownedTupleIsFree
  refine wpAny_bind (wpAny_field eC rfl (x := .none) rfl (wpAny_pure ?_))
  simp only [if_true]
  refine wpAny_bind (wpAny_rule (wpAny_bind (wpAny_field eC rfl (x := old) rfl ?_)))
  refine wpAny_bind (wpAny_setField_rec (s := ⟨hC, gs, dr, tk0 + 1, os⟩) eC (by simp) fun hD eD sD => ?_)
  have eD : IsEnum hD e it (k + 1) x := eD
  have sD : Heap.SameBut e hC hD := sD
  show wpAny _ _ (Builtin.SmallTypes.ownedTupleHandOut (.ref e) (.ref hp.objs.size) >>= _) _ _ (⟨hD, gs, dr, tk0 + 1, os⟩ : Shared)
  refine wpAny_bind ?_
  unfold Builtin.SmallTypes.ownedTupleHandOut
  refine wpAny_bind (wpAny_setField_rec (s := ⟨hD, gs, dr, tk0 + 1, os⟩) eD (by simp) fun hE' eE sE => ?_)
  have eE : IsEnumOut hE' e it (k + 1) x hp.objs.size := eE
  have sE : Heap.SameBut e hD hE' := sE
  refine wpAny_setField_rec (s := ⟨hE', gs, dr, tk0 + 1, os⟩) eE (by simp) fun hF eF sF => ?_
  have eF : IsEnumOut hF e it (k + 1) x hp.objs.size := eF
  have sF : Heap.SameBut e hE' hF := sF
  have ne : hp.objs.size ≠ e := Nat.ne_of_gt hel
  exact wpAny_bind (wpAny_letGo (wpAny_pure ⟨_, rfl, hQ hF _ tk0 eF (sF.extBut _ _ ne (sE.extBut _ _ ne (sD.extBut _ _ ne tC))) (by
    show hF.objs.size = hp.objs.size + 1
    rw [sF.1, sE.1, sD.1, zC]) fun b o n q => sF.extBut _ _ n (sE.extBut _ _ n (sD.extBut _ _ n (on b o n q)))⟩))
end
end Pe
set_option Elab.async false
set_option linter.all false
set_option maxRecDepth 100000
set_option maxHeartbeats 4000000
/-! the turns of enumerate, zip, enumerate(zip) over lists and tuples -/
namespace Pe
open PySem PySem.Spec PyProof.Rows L2
section
variable {prog : Program} {w : World} {A : Around} {E : Value → Shared → Prop} {s : Shared}
theorem nextOf_zip {z TI TO : Addr} {f0 f1 : Value} {Q : Value → Shared → Prop} (hz : IsZ s.heap z TI TO f0 f1)
    (h : wpAny (model prog w) A.in1 (Builtin.«zip.__next__» ⟨[.ref z], []⟩) (fun fin s' => ∃ v, fin = .done (.ret v) ∧ Q v s') E s) : wpAny (model prog w) A (Builtin.SmallTypes.nextOf (.ref z)) Q E s := by
  have hT : s.TypeIs (.ref z) "zip" := ⟨_, hz, rfl⟩
  unfold Builtin.SmallTypes.nextOf
  refine wpAny_bind (wpAny_callSpecial?_slot (name := Str.ofString "__next__") hT F.slot_zip_next
    (wpAny_call_entry F.slot_zip_next hT F.entry_zip_next (wpAny_mono h (fun fin s' hq => ?_) fun _ _ x => x) (F.args_zip_next_1 _)))
  obtain ⟨v, e, q⟩ := hq
  exact ⟨v, e, wpAny_pure q⟩
/-- one turn of enumerate over a zip, ahead of the store -/
theorem next_ez {Q : Option Value → Shared → Prop} {e z TI TO i1 i2 : Addr} {fp1 fp2 : List Addr} {n1 n2 i : Nat} {P1 P2 : Nat → Value → Prop} {St1 St2 : Nat → Heap → Prop} {a1 a2 f0 f1 old : Value} {k : Int}
    (S : ZipSep2 z TI TO i1 i2 fp1 fp2) (D1 : Draws prog w A.in1.in1 i1 fp1 n1 P1 St1) (D2 : Draws prog w A.in1.in1 i2 fp2 n2 P2 St2) (ez : e ≠ z) (eT : e ≠ TO) (e1 : e ≠ i1) (e2 : e ≠ i2)
    (he : IsEnum s.heap e z k old) (hz : IsZ s.heap z TI TO f0 f1) (hf : Fz f0) (hTI : IsTupOf2 s.heap TI (.ref i1) (.ref i2)) (hTO : IsTupOf2 s.heap TO a1 a2) (st1 : St1 i s.heap) (st2 : St2 i s.heap) (l1 : i < n1) (l2 : i < n2)
    (hQ : ∀ x1 x2 T h1 g0 g1 b1 b2, P1 i x1 → P2 i x2 → IsZ h1 z TI TO g0 g1 → Fz g0 → IsTupOf2 h1 TO b1 b2 → St1 (i + 1) h1 → St2 (i + 1) h1 → IsTupOf2 h1 T x1 x2 → s.heap.objs.size ≤ T →
      (∀ c o, c ≠ z → c ≠ TO → c ≠ i1 → c ≠ i2 → s.heap.get? c = some o → h1.get? c = some o) →
      ∀ h2 (tk2 t : Nat), IsEnumOut h2 e z (k + 1) (.ref T) h1.objs.size → h2.get? h1.objs.size = some { cls := .type "tuple", data := .seq #[.int k t, .ref T] } → (∀ b o, b ≠ e → h1.get? b = some o → h2.get? b = some o) →
      Q (some (.ref h1.objs.size)) { s with heap := h2, toks := tk2 }) :
    wpAny (model prog w) A (pyNext (.ref e)) Q E s := by
  have hT : s.TypeIs (.ref e) "enumerate" := ⟨_, he, rfl⟩
  unfold pyNext
  refine wpAny_bind (wpAny_attempt (wpAny_callSpecial?_slot (name := Str.ofString "__next__") hT F.slot_enumerate_next (wpAny_call_entry F.slot_enumerate_next hT F.entry_enumerate_next ?_ (F.args_enumerate_next_1 _))))
  show wpAny _ _ (field (.ref e) 2 >>= _) _ _ _
  refine wpAny_bind (wpAny_field he rfl (x := .ref z) rfl (wpAny_bind ?_))
  refine nextOf_zip hz (zip_next2 S D1 D2 hz hf hTI hTO st1 st2 l1 l2 fun x1 x2 T h1 tk g0 g1 b1 b2 p1 p2 z1 zf to1 s1 s2 tT hTs hsz kp => ?_)
  have he1 : IsEnum h1 e z k old := kp _ _ ez eT e1 e2 he
  refine wpAny_mono (enum_rest (s := { s with heap := h1, toks := tk }) he1 (Q := fun v s' => Q (some v) s') fun h2 tk2 t eo gt sz on => ?_) (fun fin s' hq => ?_) fun _ _ x => x
  · exact hQ x1 x2 T h1 g0 g1 b1 b2 p1 p2 z1 zf to1 s1 s2 tT hTs kp h2 tk2 t eo gt on
  · obtain ⟨v, ev, q⟩ := hq
    exact ⟨v, ev, wpAny_pure q⟩
theorem end_ez {Q : Option Value → Shared → Prop} {e z TI TO i1 i2 : Addr} {fp1 fp2 : List Addr} {n1 n2 i : Nat} {P1 P2 : Nat → Value → Prop} {St1 St2 : Nat → Heap → Prop} {a1 a2 f0 f1 old : Value} {k : Int}
    (S : ZipSep2 z TI TO i1 i2 fp1 fp2) (D1 : Draws prog w A.in1.in1 i1 fp1 n1 P1 St1) (D2 : Draws prog w A.in1.in1 i2 fp2 n2 P2 St2)
    (he : IsEnum s.heap e z k old) (hz : IsZ s.heap z TI TO f0 f1) (hf : Fz f0) (hTI : IsTupOf2 s.heap TI (.ref i1) (.ref i2)) (hTO : IsTupOf2 s.heap TO a1 a2) (st1 : St1 i s.heap) (st2 : St2 i s.heap) (l1 : i ≤ n1) (l2 : i ≤ n2) (en : i = n1 ∨ i = n2)
    (hQ : ∀ h' tk, (∀ c o, c ≠ z → c ≠ TO → c ≠ i1 → c ≠ i2 → s.heap.get? c = some o → h'.get? c = some o) → Q none { s with heap := h', toks := tk }) : wpAny (model prog w) A (pyNext (.ref e)) Q E s := by
  have hT : s.TypeIs (.ref e) "enumerate" := ⟨_, he, rfl⟩
  unfold pyNext
  refine wpAny_bind (wpAny_attempt (wpAny_callSpecial?_slot (name := Str.ofString "__next__") hT F.slot_enumerate_next (wpAny_call_entry F.slot_enumerate_next hT F.entry_enumerate_next ?_ (F.args_enumerate_next_1 _))))
  show wpAny _ _ (field (.ref e) 2 >>= _) _ _ _
  refine wpAny_bind (wpAny_field he rfl (x := .ref z) rfl (wpAny_bind ?_))
  refine nextOf_zip hz (zip_end2 S D1 D2 hz hf hTI hTO st1 st2 l1 l2 en fun h' tk x kp hx => ?_)
  obtain ⟨o, ho, hc⟩ := hx
  refine wpAny_bind (wpAny_isInstance (T := "StopIteration") (b := true) ⟨o, ho, hc⟩ isSubtype_stop ?_)
  exact wpAny_pure (hQ _ _ kp)
end
/-- enumerate(zip(a, b)) -/
def ItEZ (K : PySem.W.Frag) (s1 s2 : Sk) : It :=
  ⟨fun i H => ∃ (xs ys : List V) (x y : V), s1.has K H xs ∧ s2.has K H ys ∧ xs[i]? = some x ∧ ys[i]? = some y,
    fun i H v H' => ∃ T0 T x y, v = .ref T ∧ H T0 = none ∧ (upd H T0 (.tup [x, y])) T = none ∧ H' = upd (upd H T0 (.tup [x, y])) T (.tup [.int (i : Nat), .ref T0]) ∧ (∀ xs, s1.has K H xs → xs[i]? = some x) ∧ ∀ ys, s2.has K H ys → ys[i]? = some y,
    fun i H => ∃ xs ys : List V, s1.has K H xs ∧ s2.has K H ys ∧ i ≤ xs.length ∧ i ≤ ys.length ∧ (i = xs.length ∨ i = ys.length)⟩
structure ApEZ (e z TI TO i1 i2 a1 a2 : Addr) : Prop where
  S : ZipSep2 z TI TO i1 i2 [i1, a1] [i2, a2]
  ez : e ≠ z
  eI : e ≠ TI
  eT : e ≠ TO
  e1 : e ≠ i1
  e2 : e ≠ i2
  i12 : i1 ≠ i2
theorem turn_ez {P : Program} {w : World} {K : PySem.W.Frag} {elts : List Expr} {kk : Nat} {tpos : Pos} {e z TI TO i1 i2 : Addr} (s1 s2 : Sk) (ap : ApEZ e z TI TO i1 i2 s1.ad s2.ad) :
    Turn P w K (.Tuple elts kk tpos) (ItEZ K s1 s2) [e, z, TI, TO, i1, i2] e (fun i h => (∃ old, IsEnum h e z ((i : Nat) : Int) old) ∧ (∃ f0 f1, IsZ h z TI TO f0 f1 ∧ Fz f0) ∧ IsTupOf2 h TI (.ref i1) (.ref i2) ∧ (∃ b1 b2, IsTupOf2 h TO b1 b2) ∧ s1.it h i1 i ∧ s2.it h i2 i) where
  mem := by simp
  obj := fun i h st b hb => by
    obtain ⟨⟨old, he⟩, ⟨f0, f1, hz, _⟩, hTI, ⟨b1, b2, hTO⟩, h1, h2⟩ := st
    have e' : b = e ∨ b = z ∨ b = TI ∨ b = TO ∨ b = i1 ∨ b = i2 := by simpa using hb
    rcases e' with q | q | q | q | q | q
    · rw [q]; exact ⟨_, he, fun v q => nomatch q⟩
    · rw [q]; exact ⟨_, hz, fun v q => nomatch q⟩
    · rw [q]; exact ⟨_, hTI, fun v q => nomatch q⟩
    · rw [q]; exact ⟨_, hTO, fun v q => nomatch q⟩
    · rw [q]; exact Sk.itObj h1
    · rw [q]; exact Sk.itObj h2
  keep := fun i h h' st k => by
    obtain ⟨⟨old, he⟩, ⟨f0, f1, hz, hf⟩, hTI, ⟨b1, b2, hTO⟩, h1, h2⟩ := st
    exact ⟨⟨old, k e (by simp) _ he⟩, ⟨f0, f1, k z (by simp) _ hz, hf⟩, k TI (by simp) _ hTI, ⟨b1, b2, k TO (by simp) _ hTO⟩, Sk.itAt h1 fun o q => k i1 (by simp) o q, Sk.itAt h2 fun o q => k i2 (by simp) o q⟩
  item := by
    intro X hP hw hK hc i pins s σ H E I hf st hg
    subst hP hw hK
    obtain ⟨⟨old, he⟩, ⟨f0, f1, hz, hfz⟩, hTI, ⟨b1, b2, hTO⟩, h1, h2⟩ := st
    obtain ⟨xs, ys, x, y, hx, hy, qx, qy⟩ := hg
    obtain ⟨its, rv, c1, z1, lt1⟩ := Sk.now I hx
    obtain ⟨its2, rv2, c2, z2, lt2⟩ := Sk.now I hy
    obtain ⟨u, hu, ru⟩ := rv.get qx
    obtain ⟨u2, hu2, ru2⟩ := rv2.get qy
    have hh : X.A.handled = none := I.ok.hd hc
    have l1 : i < its.toArray.size := by
      have := (List.getElem?_eq_some_iff.mp hu).1
      simpa using this
    have l2 : i < its2.toArray.size := by
      have := (List.getElem?_eq_some_iff.mp hu2).1
      simpa using this
    refine next_ez ap.S (Sk.draws (A := X.A.in1.in1) hh s1 i1 (Sk.apart h1 c1) its.toArray) (Sk.draws (A := X.A.in1.in1) hh s2 i2 (Sk.apart h2 c2) its2.toArray) ap.ez ap.eT ap.e1 ap.e2 he hz hfz hTI hTO ⟨h1, c1⟩ ⟨h2, c2⟩ l1 l2
      fun x1 x2 T h1' g0 g1 d1 d2 p1 p2 zz zf to1 st1 st2 tT hTs kp h2' tk2 t eo gt on => ⟨.ref h1'.objs.size, rfl, ?_⟩
    have ex1 : x1 = u := by
      have q : its.toArray[i]? = some u := by simpa using hu
      exact Option.some.inj (p1.symm.trans q)
    have ex2 : x2 = u2 := by
      have q : its2.toArray[i]? = some u2 := by simpa using hu2
      exact Option.some.inj (p2.symm.trans q)
    subst ex1 ex2
    have hT0 : H T = none := I.hok.fresh hTs
    have new1 : ObjOk X.prog X.w (upd H T (.tup [x, y])) h1' T (.tup [x, y]) := ⟨by show 2 ≤ sizeLine; decide, [x1, x2], .cons ru (.cons ru2 .nil), ⟨_, tT, rfl, _, rfl⟩⟩
    have I1 : Inv X pins σ (upd H T (.tup [x, y])) { s with heap := h1' } :=
      I.turnedNew (t' := s.toks) (ch := [e, z, TI, TO, i1, i2]) (fun c o hb q => kp c o (fun q' => hb (by simp [q'])) (fun q' => hb (by simp [q'])) (fun q' => hb (by simp [q'])) (fun q' => hb (by simp [q'])) q) hf hTs new1
    have lt : ∀ c ∈ [e, z, TI, TO, i1, i2], c < s.heap.objs.size := fun c hcm => by
      have e' : c = e ∨ c = z ∨ c = TI ∨ c = TO ∨ c = i1 ∨ c = i2 := by simpa using hcm
      rcases e' with q | q | q | q | q | q
      · rw [q]; exact Heap.lt_size he
      · rw [q]; exact Heap.lt_size hz
      · rw [q]; exact Heap.lt_size hTI
      · rw [q]; exact Heap.lt_size hTO
      · rw [q]; obtain ⟨_, q1, _⟩ := Sk.itObj h1; exact Heap.lt_size q1
      · rw [q]; obtain ⟨_, q1, _⟩ := Sk.itObj h2; exact Heap.lt_size q1
    refine wpAny_letOwnedTupleGo_enum (s := { s with heap := h2', toks := tk2 }) eo fun h3 he3 sb => ?_
    have sb : Heap.SameBut e h2' h3 := sb
    have elt1 : e < h1'.objs.size := Heap.lt_size (kp _ _ ap.ez ap.eT ap.e1 ap.e2 he)
    have gt3 : h3.get? h1'.objs.size = some { cls := .type "tuple", data := .seq #[.int i t, .ref T] } := sb.extBut _ _ (Nat.ne_of_gt elt1) gt
    have new2 : ObjOk X.prog X.w (upd (upd H T (.tup [x, y])) h1'.objs.size (.tup [.int (i : Nat), .ref T])) h3 h1'.objs.size (.tup [.int (i : Nat), .ref T]) :=
      ⟨by show 2 ≤ sizeLine; decide, [.int i t, .ref T], .cons ⟨_, rfl⟩ (.cons rfl .nil), ⟨_, gt3, rfl, _, rfl⟩⟩
    have fe : ∀ b ∈ [e], FpOk X pins (upd H T (.tup [x, y])) b := fun b hb => by
      have q : b = e := by simpa using hb
      subst q
      obtain ⟨f0, fr⟩ := hf b (by simp)
      refine ⟨?_, fr⟩
      rw [upd_ne (Nat.ne_of_lt (Nat.lt_of_lt_of_le (lt b (by simp)) hTs))]
      exact f0
    have I2 : Inv X pins σ (upd (upd H T (.tup [x, y])) h1'.objs.size (.tup [.int (i : Nat), .ref T])) { s with heap := h3, toks := tk2 } :=
      I1.turnedNew (t' := tk2) (ch := [e]) (fun c o hb q => sb.extBut _ _ (fun q' => hb (by simp [q'])) (on c o (fun q' => hb (by simp [q'])) q)) fe (Nat.le_refl _) new2
    have on3 : ∀ c o, c ≠ e → h1'.get? c = some o → h3.get? c = some o := fun c o n q => sb.extBut _ _ n (on c o n q)
    have i1' : ((i + 1 : Nat) : Int) = (i : Int) + 1 := by omega
    refine ⟨.ref h1'.objs.size, _, I2, rfl, ⟨T, h1'.objs.size, x, y, rfl, hT0, I1.hok.fresh (Nat.le_refl _), rfl, fun l hl => by rw [Sk.inj I hl hx]; exact qx, fun l hl => by rw [Sk.inj I hl hy]; exact qy⟩, ?_, fun b hb => ?_⟩
    · refine ⟨⟨_, by rw [i1']; exact he3⟩, ⟨_, _, on3 _ _ ap.ez.symm zz, zf⟩, on3 _ _ ap.eI.symm (kp _ _ ap.S.TIz ap.S.TITO ap.S.TIi1 ap.S.TIi2 hTI), ⟨_, _, on3 _ _ ap.eT.symm to1⟩, Sk.itAt st1.1 fun o q => on3 _ _ ap.e1.symm q, Sk.itAt st2.1 fun o q => on3 _ _ ap.e2.symm q⟩
    · have hlt := lt b hb
      have h1sz : s.heap.objs.size ≤ h1'.objs.size := by
        cases Nat.lt_or_ge h1'.objs.size s.heap.objs.size with
        | inr q => exact q
        | inl q => exact absurd (Nat.lt_of_le_of_lt hTs (Heap.lt_size tT)) (by omega)
      rw [upd_ne (Nat.ne_of_lt (Nat.lt_of_lt_of_le hlt h1sz)), upd_ne (Nat.ne_of_lt (Nat.lt_of_lt_of_le hlt hTs))]
      exact (hf b hb).1
  done := by
    intro X hP hw hK hc i pins s σ H E I hf st hg
    subst hP hw hK
    obtain ⟨⟨old, he⟩, ⟨f0, f1, hz, hfz⟩, hTI, ⟨b1, b2, hTO⟩, h1, h2⟩ := st
    obtain ⟨xs, ys, hx, hy, m1, m2, en⟩ := hg
    obtain ⟨its, rv, c1, z1, lt1⟩ := Sk.now I hx
    obtain ⟨its2, rv2, c2, z2, lt2⟩ := Sk.now I hy
    have hh : X.A.handled = none := I.ok.hd hc
    have e1 := rv.length
    have e2 := rv2.length
    exact end_ez ap.S (Sk.draws (A := X.A.in1.in1) hh s1 i1 (Sk.apart h1 c1) its.toArray) (Sk.draws (A := X.A.in1.in1) hh s2 i2 (Sk.apart h2 c2) its2.toArray) he hz hfz hTI hTO ⟨h1, c1⟩ ⟨h2, c2⟩ (by rw [List.size_toArray]; omega) (by rw [List.size_toArray]; omega) (by rw [List.size_toArray, List.size_toArray]; omega)
      fun h' tk kp => ⟨rfl, I.turnedL (t' := tk) (ch := [e, z, TI, TO, i1, i2]) (fun c o hb q => kp c o (fun q' => hb (by simp [q'])) (fun q' => hb (by simp [q'])) (fun q' => hb (by simp [q'])) (fun q' => hb (by simp [q'])) q) hf⟩
  self := fun A i s Q E st h => by
    obtain ⟨⟨old, he⟩, _⟩ := st
    exact wpAny_pyIter_enum he h
end Pe
set_option Elab.async false
set_option linter.all false
set_option maxRecDepth 100000
set_option maxHeartbeats 4000000
/-! enumerate over lists, tuples, zips -/
namespace Pe
open PySem PySem.Spec PyProof.Rows L2
structure BegAny (v : Value) (iv : Heap → Addr) (g : Heap → Heap) (H : Heap → Prop) : Prop where
  iter : ∀ (prog : Program) (w : World) (A : Around) (E : Value → Shared → Prop) (s : Shared) (Q : Value → Shared → Prop), H s.heap → Q (.ref (iv s.heap)) { s with heap := g s.heap } → wpAny (model prog w) A (pyIter v) Q E s
theorem meets_enum1 {v : Value} {iv : Heap → Addr} {g : Heap → Heap} {H : Heap → Prop} (B : BegAny v iv g H) :
    Meets (Builtin.«enumerate.__new__» ⟨[.type "enumerate", v], []⟩) (fun _ R s => H s.heap ∧
      R (.ok (.ret (.ref (g s.heap).objs.size))) { s with heap := (g s.heap).push { cls := .type "enumerate", data := .fields #[.none, .bool false, .ref (iv s.heap), rawInt 0, .none, .none] } }) :=
  .of_wp fun prog w A R s h => by
    obtain ⟨hp, gs, d, tk, os⟩ := s; obtain ⟨h1, h⟩ := h
    have hsub := sub_enumerate
    have q1 : ∀ {A' : Around} {E : Value → Shared → Prop} {Q : Value → Shared → Prop}, Q (.ref (iv hp)) ⟨g hp, gs, d, tk, os⟩ → wpAny (model prog w) A' (pyIter v) Q E ⟨hp, gs, d, tk, os⟩ :=
      fun q => B.iter prog w _ _ ⟨hp, gs, d, tk, os⟩ _ h1 q
    wp_walk using q1
    refine wpAny_stack_any fun st => wpAny_pure ?_
    split
    · rename_i c _ _ _ _ _
      cases (c == Value.type "enumerate")
      · wp_walk using q1
        exact ⟨_, rfl, h⟩
      · wp_walk using q1
        exact ⟨_, rfl, h⟩
    · wp_walk using q1
      exact ⟨_, rfl, h⟩
section
variable {prog : Program} {w : World} {A : Around} {E : Value → Shared → Prop} {s : Shared}
theorem enum1_any {v : Value} {iv : Heap → Addr} {g : Heap → Heap} {H : Heap → Prop} {Q : Value → Shared → Prop} (B : BegAny v iv g H) (h1 : H s.heap)
    (h : ∀ h', IsEnum h' (g s.heap).objs.size (iv s.heap) 0 .none → h'.objs.size = (g s.heap).objs.size + 1 →
      (∀ b o, (g s.heap).get? b = some o → h'.get? b = some o) → Q (.ref (g s.heap).objs.size) { s with heap := h' }) :
    wpAny (model prog w) A (call (.type "enumerate") [v]) Q E s := by
  refine callType_new F.called_enumerate (by decide) (F.typeCall_enumerate_1 _) (F.newCall_enumerate_1 _) (fun obj => F.args_object_init_2 obj _) F.entry_enumerate_new
    (meets_enum1 B) ⟨h1, ?_⟩
  show _ ∧ _
  have he : IsEnum ((g s.heap).push { cls := .type "enumerate", data := .fields #[.none, .bool false, .ref (iv s.heap), rawInt 0, .none, .none] }) (g s.heap).objs.size (iv s.heap) 0 .none := Heap.get?_push_size (g s.heap) (o := { cls := .type "enumerate", data := .fields #[.none, .bool false, .ref (iv s.heap), rawInt 0, .none, .none] }) rfl
  refine ⟨⟨_, he, rfl⟩, h _ he (by rw [Heap.size_push]) fun b o x => Heap.get?_push_of_some _ x⟩
end
theorem Sk.beg (s : Sk) (its : Array Value) : BegAny (.ref s.ad) (fun h => h.objs.size) (fun h => h.push s.begin) fun h => s.con h its :=
  ⟨fun prog w A E sh Q h q => (s.begins its).iter prog w A E sh Q h q⟩
theorem beg_zip {z TI TO : Addr} : BegAny (.ref z) (fun _ => z) (fun h => h) fun h => PySem.IsZip h z TI TO .none :=
  ⟨fun prog w A E sh Q h q => wpAny_pyIter_zip h q⟩
/-! ### enumerate(a) -/
def ItE (K : PySem.W.Frag) (s : Sk) : It :=
  ⟨fun i H => ∃ (xs : List V) (x : V), s.has K H xs ∧ xs[i]? = some x, fun i H v H' => ∃ T x, v = .ref T ∧ H T = none ∧ H' = upd H T (.tup [.int (i : Nat), x]) ∧ ∀ xs, s.has K H xs → xs[i]? = some x, fun i H => ∃ xs : List V, s.has K H xs ∧ xs.length = i⟩
theorem turn_en {P : Program} {w : World} {K : PySem.W.Frag} {elts : List Expr} {kk : Nat} {tpos : Pos} (a : Sk) (e it : Addr) (hea : e ≠ a.ad) :
    Turn P w K (.Tuple elts kk tpos) (ItE K a) [e, it] e (fun i h => (∃ old, IsEnum h e it ((i : Nat) : Int) old) ∧ a.it h it i ∧ e ≠ it) where
  mem := by simp
  obj := fun i h st b hb => by
    obtain ⟨⟨old, he⟩, hi, _⟩ := st
    have e' : b = e ∨ b = it := by simpa using hb
    rcases e' with z | z
    · rw [z]; exact ⟨_, he, fun v q => nomatch q⟩
    · rw [z]; exact Sk.itObj hi
  keep := fun i h h' st k => let ⟨⟨old, he⟩, hi, hne⟩ := st; ⟨⟨old, k e (by simp) _ he⟩, Sk.itAt hi fun o q => k it (by simp) o q, hne⟩
  item := by
    intro X hP hw hK hc i pins s σ H E I hf st hg
    subst hP hw hK
    obtain ⟨⟨old, he⟩, hit, hne⟩ := st
    obtain ⟨xs, x, hq, hx⟩ := hg
    obtain ⟨its, rv, p, hz, lta⟩ := Sk.now I hq
    obtain ⟨u, hu, ru⟩ := rv.get hx
    have hh : X.A.handled = none := I.ok.hd hc
    have hel : e < s.heap.objs.size := Heap.lt_size he
    have hil : it < s.heap.objs.size := by obtain ⟨_, q, _⟩ := Sk.itObj hit; exact Heap.lt_size q
    have l1 : i < its.toArray.size := by
      have := (List.getElem?_eq_some_iff.mp hu).1
      simpa using this
    refine wpAny_pyNext_enum_itemC (Sk.draws (A := X.A.in1) hh a it (Sk.apart hit p) its.toArray) he ⟨hit, p⟩ l1 hne (by simp [hne, hea]) fun x' h' tk px ho hst' hT2 hsz hk => ⟨_, rfl, ?_⟩
    refine wpAny_letOwnedTupleGo_enum (s := { s with heap := h', toks := tk + 1 }) ho fun h'' he' sb => ?_
    have ex : x' = u := by
      have q : its.toArray[i]? = some u := by simpa using hu
      exact Option.some.inj (px.symm.trans q)
    subst ex
    have hT3 : h''.get? s.heap.objs.size = some { cls := .type "tuple", data := .seq #[.int i tk, x'] } := (sb.2 _ (Nat.ne_of_gt hel)).trans hT2
    have new : ObjOk X.prog X.w (upd H s.heap.objs.size (.tup [.int (i : Nat), x])) h'' s.heap.objs.size (.tup [.int (i : Nat), x]) :=
      ⟨by show 2 ≤ sizeLine; decide, [.int i tk, x'], .cons ⟨_, rfl⟩ (.cons ru .nil), ⟨_, hT3, rfl, _, rfl⟩⟩
    have I1 : Inv X pins σ (upd H s.heap.objs.size (.tup [.int (i : Nat), x])) { s with heap := h'', toks := tk + 1 } :=
      I.turnedNew (ch := [e, it]) (fun b ob hb q => (sb.2 b (fun z => hb (by simp [z]))).trans (hk b ob (fun z => hb (by simp [z])) (fun z => hb (by simp [z])) q)) hf (Nat.le_refl _) new
    have hlen := rv.length
    refine ⟨.ref s.heap.objs.size, _, I1, rfl, ⟨_, x, rfl, I.hok.fresh (Nat.le_refl _), rfl, fun ys hy => by rw [Sk.inj I hy hq]; exact hx⟩, ⟨⟨x', ?_⟩, Sk.itAt hst'.1 fun o q => (sb.2 it (Ne.symm hne)).trans q, hne⟩, fun b hb => ?_⟩
    · have e1 : ((i + 1 : Nat) : Int) = (i : Int) + 1 := by omega
      rw [e1]; exact he'
    · have hb' : b < s.heap.objs.size := by
        have e' : b = e ∨ b = it := by simpa using hb
        rcases e' with z | z
        · rw [z]; exact hel
        · rw [z]; exact hil
      rw [upd_ne (Nat.ne_of_lt hb')]
      exact (hf b hb).1
  done := by
    intro X hP hw hK hc i pins s σ H E I hf st hg
    subst hP hw hK
    obtain ⟨⟨old, he⟩, hit, hne⟩ := st
    obtain ⟨xs, hq, hx⟩ := hg
    obtain ⟨its, rv, p, hz, lta⟩ := Sk.now I hq
    have hh : X.A.handled = none := I.ok.hd hc
    have hl := rv.length
    obtain ⟨f0, f1, f2, f3, f4, f5⟩ := hf it (by simp)
    have st : i = its.toArray.size := by rw [List.size_toArray]; omega
    exact wpAny_pyNext_enum_endD (Sk.draws (A := X.A.in1) hh a it (Sk.apart hit p) its.toArray) he (st ▸ ⟨hit, p⟩) fun h' eb => ⟨rfl, I.turned (t' := s.toks) (fun b o hb q => eb b o (by simp [hb]) q) f0 f1 f3 f4 f5⟩
  self := fun A i s Q E st h => let ⟨⟨_, he⟩, _⟩ := st; wpAny_pyIter_enum he h

section
variable {X : Cx} {G : Gm} {c : Ec}
theorem src_on {L : Lk} {S : Store} {H : Hp} {d : D} {xs : List D} {v : V} (hK : G.K = X.K) (s0 : Sim G L S H) (r : Rep G L d v) (h : seqX S d = some xs) : ∃ s : Sk, v = .ref s.ad ∧ (∃ vs, s.has X.K H vs) ∧ ∀ (L' : Lk) (S' : Store) (H' : Hp), L.Le L' → Sim G L' S' H' → watchOk (watchOf S d) S' = true → ∃ vs, s.has X.K H' vs ∧ RepL G L' xs vs := by
  unfold seqX at h
  split at h
  · rename_i ys q
    have q2 := q
    cases h
    obtain ⟨a, vs, rfl, t, r1⟩ := rep_seqT hK s0 r q
    refine ⟨.t a, rfl, ⟨vs, t⟩, fun L' S' H' le s' hw => ?_⟩
    obtain ⟨a', vs', e', t', r'⟩ := rep_seqT hK s' (r.mono le) q2
    cases e'
    exact ⟨vs', t', r'⟩
  · obtain ⟨a, vs, rfl, t, r1⟩ := rep_seqL hK s0 r h
    refine ⟨.l a, rfl, ⟨vs, t⟩, fun L' S' H' le s' hw => ?_⟩
    obtain ⟨a', vs', e', t', r'⟩ := seqL_on hK le s' r h hw
    cases e'
    exact ⟨vs', t', r'⟩
def enumFrom : Nat → List D → List D
  | _, [] => []
  | i, x :: xs => .tup [.int i, x] :: enumFrom (i + 1) xs
theorem enum_len : ∀ {i : Nat} {xs : List D}, (enumFrom i xs).length = xs.length
  | _, [] => rfl
  | i, x :: xs => by rw [enumFrom, List.length_cons, List.length_cons, enum_len]
theorem enum_get : ∀ {k : Nat} {xs : List D} {i : Nat} {d : D}, (enumFrom k xs)[i]? = some d → ∃ x, xs[i]? = some x ∧ d = .tup [.int ((k + i : Nat) : Int), x]
  | k, [], i, d, h => by simp [enumFrom] at h
  | k, x :: xs, 0, d, h => by
    rw [enumFrom] at h
    exact ⟨x, rfl, (Option.some.inj h).symm⟩
  | k, x :: xs, i + 1, d, h => by
    rw [enumFrom] at h
    obtain ⟨y, h1, h2⟩ := enum_get (k := k + 1) (i := i) (xs := xs) h
    refine ⟨y, h1, ?_⟩
    rw [h2]
    have e : k + 1 + i = k + (i + 1) := by omega
    rw [e]
def iEnu (a : Ax) : Ix := fun c env S => (a c env S).bind fun p => match p.1 with
  | [d] => (seqX p.2 d).map fun xs => (⟨enumFrom 0 xs, watchOf p.2 d⟩, p.2)
  | _ => none
theorem walks_en {L : Lk} {S : Store} {H : Hp} {xs : List D} {w : List (Nat × D)} {s : Sk} {K : PySem.W.Frag} (hw : watchOk w S = true) (hm : ∀ (L' : Lk) (S' : Store) (H' : Hp), Ext L H L' H' → Sim G L' S' H' → watchOk w S' = true → ∃ vs, s.has K H' vs ∧ RepL G L' xs vs) : Walks G (ItE K s) L S H ⟨enumFrom 0 xs, w⟩ :=
  ⟨hw, fun L' S' H' e s' hw' => by
    obtain ⟨vs, t, r⟩ := hm L' S' H' e s' hw'
    refine ⟨fun i d q => ?_, ⟨vs, t, by rw [← repL_length r]; exact enum_len.symm⟩⟩
    obtain ⟨d1, q0, qe⟩ := enum_get q
    obtain ⟨v, q1, q2⟩ := repL_get r q0
    refine ⟨⟨vs, v, t, q1⟩, fun x H'' y => ?_⟩
    obtain ⟨T, x', rfl, hT, rfl, y⟩ := y
    have e := y vs t
    rw [q1] at e
    cases e
    subst qe
    rw [Nat.zero_add]
    exact new_tup s' (repL_cons rep_of_int (repL_cons q2 repL_nil)) hT⟩
theorem pi_enS {e : Expr} {ta : TA} {p pos tpos : Pos} {elts : List Expr} {kk : Nat} (hg : Gl X "enumerate") (hm : X.mg "enumerate" = none) (ha : PA X [e] ta) (hs : starEach [e] X.env = [(false, eval e X.env)]) :
    PI X (.Tuple elts kk tpos) (.Call (.Name "enumerate" p) [e] [] pos) (fun σ H R => ta σ H fun vs H1 => ∃ (s : Sk), vs = [.ref s.ad] ∧ (∃ xs, s.has X.K H1 xs) ∧ R (ItE X.K s) H1) := by
  refine ⟨fun pins s σ H R I h => ?_⟩
  refine Call_ (ld_blt I hg hm boot_enumerate (PyProof.Rows.callWith_type1 (thn (ha.run pos pins s σ H _ I h) fun us s1 ⟨vs, H1, I1, r1, q1⟩ => ?_) hs rfl))
  obtain ⟨sk, ex, ⟨xs, hq⟩, q⟩ := q1
  subst ex
  cases r1 with
  | cons r rr =>
    cases rr
    cases r
    obtain ⟨its, rv, p', hz, lta⟩ := Sk.now I1 hq
    refine enum1_any (sk.beg its.toArray) p' fun h' he hsz hk => ?_
    have hps : (s1.heap.push sk.begin).objs.size = s1.heap.objs.size + 1 := Heap.size_push ..
    rw [hps] at he hsz ⊢
    have hit : sk.it h' s1.heap.objs.size 0 := Sk.it0 (hk _ _ (Heap.get?_push_size _ (sk.begins its.toArray).free))
    refine wpAny_pyIter_enum he ?_
    have I2 : Inv X pins σ H1 { s1 with heap := h' } := I1.kept (t' := s1.toks) fun b o q => hk b o (Heap.get?_push_of_some _ q)
    refine ⟨s1.heap.objs.size + 1, [s1.heap.objs.size + 1, s1.heap.objs.size], _, _, H1, rfl, I2, turn_en sk (s1.heap.objs.size + 1) s1.heap.objs.size (Nat.ne_of_gt (Nat.lt_succ_of_lt lta)), ⟨⟨.none, he⟩, hit, Nat.succ_ne_self _⟩, fun b hb => ?_, q⟩
    have e' : b = s1.heap.objs.size + 1 ∨ b = s1.heap.objs.size := by simpa using hb
    have hle : s1.heap.objs.size ≤ b := by
      rcases e' with z | z
      · rw [z]; exact Nat.le_add_right _ _
      · rw [z]; exact Nat.le_refl _
    exact I1.fpOk hle (I1.hok.fresh hle)
theorem i_enu {e : Expr} {A : Ax} {p pos tpos : Pos} {elts : List Expr} {kk : Nat} (hK : G.K = X.K) (hg : Gl X "enumerate") (hm : X.mg "enumerate" = none) (ha : PA X [e] (tA G c A)) (hs : starEach [e] X.env = [(false, eval e X.env)]) :
    PI X (.Tuple elts kk tpos) (.Call (.Name "enumerate" p) [e] [] pos) (tI G c (iEnu A)) :=
  (pi_enS hg hm ha hs).imp fun σ H R ⟨L, env, S, q, S', heq, hs, hE, k⟩ => by
    unfold iEnu at hE
    obtain ⟨⟨ds, S1⟩, hA, h2⟩ := Option.bind_eq_some_iff.mp hE
    refine ⟨L, env, S, ds, S1, heq, hs, hA, fun L1 vs H1 e1 s1 r1 => ?_⟩
    clear hE
    split at h2
    · rename_i d e
      have e' : ds = [d] := e
      subst e'
      obtain ⟨xs, h3, h4⟩ := Option.map_eq_some_iff.mp h2
      cases h4
      obtain ⟨v, rfl, r2⟩ := rep_one r1
      obtain ⟨sk, rfl, hn, on⟩ := src_on hK s1 r2 h3
      exact ⟨sk, rfl, hn, k _ L1 H1 e1 s1 (walks_en (watch_now _ _) fun L' S' H' e s hw => on L' S' H' e.le s hw)⟩
    · cases h2
/-! ### zip(a, b) -/
def zipD : List D → List D → List D
  | x :: xs, y :: ys => .tup [x, y] :: zipD xs ys
  | _, _ => []
theorem zip_len : ∀ {xs ys : List D}, (zipD xs ys).length = min xs.length ys.length
  | [], _ => by simp [zipD]
  | _ :: _, [] => by simp [zipD]
  | x :: xs, y :: ys => by rw [zipD, List.length_cons, List.length_cons, List.length_cons, zip_len]; omega
theorem zip_get : ∀ {xs ys : List D} {i : Nat} {d : D}, (zipD xs ys)[i]? = some d → ∃ x y, xs[i]? = some x ∧ ys[i]? = some y ∧ d = .tup [x, y]
  | [], _, i, d, h => by simp [zipD] at h
  | _ :: _, [], i, d, h => by simp [zipD] at h
  | x :: xs, y :: ys, 0, d, h => by
    rw [zipD] at h
    exact ⟨x, y, rfl, rfl, (Option.some.inj h).symm⟩
  | x :: xs, y :: ys, i + 1, d, h => by
    rw [zipD] at h
    exact zip_get (xs := xs) (ys := ys) (i := i) h
end
end Pe
set_option Elab.async false
set_option linter.all false
set_option maxRecDepth 100000
set_option maxHeartbeats 4000000
/-! zip, enumerate(zip) -/
namespace Pe
open PySem PySem.Spec PyProof.Rows L2
section
variable {X : Cx} {G : Gm} {c : Ec}
def kindsOk (S : Store) (d e : D) : Bool := (seqT d).isSome == (seqT e).isSome
def iZip (a : Ax) : Ix := fun c env S => (a c env S).bind fun p => match p.1 with
  | [d, e] => if kindsOk p.2 d e = true then (seqX p.2 d).bind fun xs => (seqX p.2 e).map fun ys => (⟨zipD xs ys, watchOf p.2 d ++ watchOf p.2 e⟩, p.2) else none
  | _ => none
theorem watch_app {w1 w2 : List (Nat × D)} {S : Store} : watchOk (w1 ++ w2) S = true ↔ watchOk w1 S = true ∧ watchOk w2 S = true := by
  unfold watchOk
  rw [List.all_append, Bool.and_eq_true]
theorem walks_zL {L : Lk} {S : Store} {H : Hp} {xs ys : List D} {w : List (Nat × D)} {a b : Addr} {K : PySem.W.Frag} (hw : watchOk w S = true) (hm : ∀ (L' : Lk) (S' : Store) (H' : Hp), Ext L H L' H' → Sim G L' S' H' → watchOk w S' = true → ∃ vs us, SqL K H' a vs ∧ RepL G L' xs vs ∧ SqL K H' b us ∧ RepL G L' ys us) : Walks G (Itz K a b) L S H ⟨zipD xs ys, w⟩ :=
  ⟨hw, fun L' S' H' e s' hw' => by
    obtain ⟨vs, us, t, r, t', r'⟩ := hm L' S' H' e s' hw'
    have hlen := @zip_len xs ys
    have l1 := repL_length r
    have l2 := repL_length r'
    refine ⟨fun i d q => ?_, ⟨vs, us, t, t', by show vs.length ≤ (zipD xs ys).length ∨ us.length ≤ (zipD xs ys).length; omega⟩⟩
    obtain ⟨d1, d2, q0, q0', qe⟩ := zip_get q
    obtain ⟨v, q1, q2⟩ := repL_get r q0
    obtain ⟨u, q3, q4⟩ := repL_get r' q0'
    refine ⟨⟨vs, us, v, u, t, t', q1, q3⟩, fun x H'' y => ?_⟩
    obtain ⟨T, x', y', rfl, hT, rfl, f1, f2⟩ := y
    have e := f1 vs t
    rw [q1] at e
    cases e
    have e := f2 us t'
    rw [q3] at e
    cases e
    subst qe
    exact new_tup s' (repL_cons q2 (repL_cons q4 repL_nil)) hT⟩
theorem walks_zT {L : Lk} {S : Store} {H : Hp} {xs ys : List D} {w : List (Nat × D)} {a b : Addr} {K : PySem.W.Frag} (hw : watchOk w S = true) (hm : ∀ (L' : Lk) (S' : Store) (H' : Hp), Ext L H L' H' → Sim G L' S' H' → watchOk w S' = true → ∃ vs us, SqT K H' a vs ∧ RepL G L' xs vs ∧ SqT K H' b us ∧ RepL G L' ys us) : Walks G (RZ.ItzT K a b) L S H ⟨zipD xs ys, w⟩ :=
  ⟨hw, fun L' S' H' e s' hw' => by
    obtain ⟨vs, us, t, r, t', r'⟩ := hm L' S' H' e s' hw'
    have hlen := @zip_len xs ys
    have l1 := repL_length r
    have l2 := repL_length r'
    refine ⟨fun i d q => ?_, ⟨vs, us, t, t', by show vs.length ≤ (zipD xs ys).length ∨ us.length ≤ (zipD xs ys).length; omega⟩⟩
    obtain ⟨d1, d2, q0, q0', qe⟩ := zip_get q
    obtain ⟨v, q1, q2⟩ := repL_get r q0
    obtain ⟨u, q3, q4⟩ := repL_get r' q0'
    refine ⟨⟨vs, us, v, u, t, t', q1, q3⟩, fun x H'' y => ?_⟩
    obtain ⟨T, x', y', rfl, hT, rfl, f1, f2⟩ := y
    have e := f1 vs t
    rw [q1] at e
    cases e
    have e := f2 us t'
    rw [q3] at e
    cases e
    subst qe
    exact new_tup s' (repL_cons q2 (repL_cons q4 repL_nil)) hT⟩
theorem seqT_of_not {S : Store} {d : D} {xs : List D} (h : seqT d = none) (q : seqX S d = some xs) : seqL S d = some xs := by
  unfold seqX at q
  rw [h] at q
  exact q
theorem i_zip {a b : Expr} {A : Ax} {p pos tpos : Pos} {elts : List Expr} {kk : Nat} (hK : G.K = X.K) (hg : Gl X "zip") (hm : X.mg "zip" = none) (ha : PA X [a, b] (tA G c A))
    (hs : starEach [a, b] X.env = (false, eval a X.env) :: starEach [b] X.env) (hpl : (backTo pos (starEach [b] X.env)).any (·.1) = false) :
    PI X (.Tuple elts kk tpos) (.Call (.Name "zip" p) [a, b] [] pos) (tI G c (iZip A)) :=
  (RZ.pi_zipA hg hm ha hs hpl).imp fun σ H R ⟨L, env, S, q, S', heq, hs, hE, k⟩ => by
    unfold iZip at hE
    obtain ⟨⟨ds, S1⟩, hA, h2⟩ := Option.bind_eq_some_iff.mp hE
    refine ⟨L, env, S, ds, S1, heq, hs, hA, fun L1 vs H1 e1 s1 r1 => ?_⟩
    clear hE
    split at h2
    · rename_i d d' e
      have e' : ds = [d, d'] := e
      subst e'
      split at h2
      · rename_i hk
        obtain ⟨xs, h3, h4⟩ := Option.bind_eq_some_iff.mp h2
        obtain ⟨ys, h5, h6⟩ := Option.map_eq_some_iff.mp h4
        cases h6
        obtain ⟨v, u, rfl, r2, r3⟩ := rep_two r1
        have h3' : seqX S1 d = some xs := h3
        have h5' : seqX S1 d' = some ys := h5
        have hk' : kindsOk S1 d d' = true := hk
        unfold kindsOk at hk'
        cases hd : seqT d with
        | none =>
          have hd' : seqT d' = none := by
            cases q : seqT d' with
            | none => rfl
            | some _ => rw [hd, q] at hk'; cases hk'
          have g1 := seqT_of_not hd h3'
          have g2 := seqT_of_not hd' h5'
          obtain ⟨a1, vs1, rfl, t1, _⟩ := rep_seqL hK s1 r2 g1
          obtain ⟨a2, vs2, rfl, t2, _⟩ := rep_seqL hK s1 r3 g2
          refine ⟨a1, a2, vs1, vs2, rfl, .inl ⟨t1, t2, k _ L1 H1 e1 s1 (walks_zL (watch_app.mpr ⟨watch_now _ _, watch_now _ _⟩) fun L' S' H' e s hw => ?_)⟩⟩
          have hw := watch_app.mp hw
          obtain ⟨b1, us1, f1, f2, f3⟩ := seqL_on hK e.le s r2 g1 hw.1
          obtain ⟨b2, us2, f4, f5, f6⟩ := seqL_on hK e.le s r3 g2 hw.2
          cases f1
          cases f4
          exact ⟨us1, us2, f2, f3, f5, f6⟩
        | some zs =>
          have hd' : ∃ z, seqT d' = some z := by
            cases q : seqT d' with
            | none => rw [hd, q] at hk'; cases hk'
            | some z => exact ⟨z, rfl⟩
          obtain ⟨zs', hd'⟩ := hd'
          have g1 : zs = xs := by unfold seqX at h3'; rw [hd] at h3'; exact Option.some.inj h3'
          have g2 : zs' = ys := by unfold seqX at h5'; rw [hd'] at h5'; exact Option.some.inj h5'
          subst g1 g2
          obtain ⟨a1, vs1, rfl, t1, _⟩ := rep_seqT hK s1 r2 hd
          obtain ⟨a2, vs2, rfl, t2, _⟩ := rep_seqT hK s1 r3 hd'
          refine ⟨a1, a2, vs1, vs2, rfl, .inr ⟨t1, t2, k _ L1 H1 e1 s1 (walks_zT (watch_app.mpr ⟨watch_now _ _, watch_now _ _⟩) fun L' S' H' e s hw => ?_)⟩⟩
          obtain ⟨b1, us1, f1, f2, f3⟩ := rep_seqT hK s (r2.mono e.le) hd
          obtain ⟨b2, us2, f4, f5, f6⟩ := rep_seqT hK s (r3.mono e.le) hd'
          cases f1
          cases f4
          exact ⟨us1, us2, f2, f3, f5, f6⟩
      · cases h2
    · cases h2
/-! ### enumerate(zip(a, b)) -/
def iEz (a : Ax) : Ix := fun c env S => (a c env S).bind fun p => match p.1 with
  | [d, e] => (seqX p.2 d).bind fun xs => (seqX p.2 e).map fun ys => (⟨enumFrom 0 (zipD xs ys), watchOf p.2 d ++ watchOf p.2 e⟩, p.2)
  | _ => none
theorem walks_ez {L : Lk} {S : Store} {H : Hp} {xs ys : List D} {w : List (Nat × D)} {k1 k2 : Sk} {K : PySem.W.Frag} (hw : watchOk w S = true) (hm : ∀ (L' : Lk) (S' : Store) (H' : Hp), Ext L H L' H' → Sim G L' S' H' → watchOk w S' = true → ∃ vs us, k1.has K H' vs ∧ RepL G L' xs vs ∧ k2.has K H' us ∧ RepL G L' ys us) : Walks G (ItEZ K k1 k2) L S H ⟨enumFrom 0 (zipD xs ys), w⟩ :=
  ⟨hw, fun L' S' H' e s' hw' => by
    obtain ⟨vs, us, t, r, t', r'⟩ := hm L' S' H' e s' hw'
    have hlen := @zip_len xs ys
    have hlen2 := @enum_len 0 (zipD xs ys)
    have l1 := repL_length r
    have l2 := repL_length r'
    refine ⟨fun i d q => ?_, ⟨vs, us, t, t', ?_, ?_, ?_⟩⟩
    · obtain ⟨d0, q0, qe⟩ := enum_get q
      obtain ⟨d1, d2, q0', q0'', qe'⟩ := zip_get q0
      obtain ⟨v, q1, q2⟩ := repL_get r q0'
      obtain ⟨u, q3, q4⟩ := repL_get r' q0''
      refine ⟨⟨vs, us, v, u, t, t', q1, q3⟩, fun x H'' y => ?_⟩
      obtain ⟨T0, T, x', y', rfl, hT0, hT, rfl, f1, f2⟩ := y
      have e := f1 vs t
      rw [q1] at e
      cases e
      have e := f2 us t'
      rw [q3] at e
      cases e
      subst qe qe'
      rw [Nat.zero_add]
      obtain ⟨L2, x2, s2, r2⟩ := new_tup s' (repL_cons q2 (repL_cons q4 repL_nil)) hT0
      obtain ⟨L3, x3, s3, r3⟩ := new_tup s2 (repL_cons (rep_of_int (i := ((i : Nat) : Int))) (repL_cons r2 repL_nil)) hT
      exact ⟨L3, x2.trans x3, s3, r3⟩
    · show (enumFrom 0 (zipD xs ys)).length ≤ vs.length; omega
    · show (enumFrom 0 (zipD xs ys)).length ≤ us.length; omega
    · show (enumFrom 0 (zipD xs ys)).length = vs.length ∨ (enumFrom 0 (zipD xs ys)).length = us.length; omega⟩
theorem pi_ezS {a b : Expr} {ta : TA} {p p2 pos q tpos : Pos} {elts : List Expr} {kk : Nat} (hg : Gl X "enumerate") (hm : X.mg "enumerate" = none) (hg2 : Gl X "zip") (hm2 : X.mg "zip" = none) (ha : PA X [a, b] ta)
    (hs : starEach [a, b] X.env = (false, eval a X.env) :: starEach [b] X.env) (hpl : (backTo q (starEach [b] X.env)).any (·.1) = false)
    (hs2 : starEach [.Call (.Name "zip" p2) [a, b] [] q] X.env = (false, eval (.Call (.Name "zip" p2) [a, b] [] q) X.env) :: starEach [] X.env) :
    PI X (.Tuple elts kk tpos) (.Call (.Name "enumerate" p) [.Call (.Name "zip" p2) [a, b] [] q] [] pos) (fun σ H R => ta σ H fun vs H1 => ∃ (s1 s2 : Sk), vs = [.ref s1.ad, .ref s2.ad] ∧ (∃ xs, s1.has X.K H1 xs) ∧ (∃ ys, s2.has X.K H1 ys) ∧ R (ItEZ X.K s1 s2) H1) := by
  refine ⟨fun pins s σ H R I h => ?_⟩
  refine Call_ (ld_blt I hg hm boot_enumerate (PyProof.Rows.callWith_type1 (PyProof.Rows.args_cons ?_ hs2) hs2 rfl))
  refine Call_ (ld_blt I hg2 hm2 PyProof.Rows.boot_zip (PyProof.Rows.callWith_type1 (thn (ha.run q pins s σ H _ I h) fun us s1 ⟨vs, H1, I1, r1, q1⟩ => ?_) hs hpl))
  obtain ⟨k1, k2, ex, ⟨xs, hqx⟩, ⟨ys, hqy⟩, q1⟩ := q1
  subst ex
  cases r1 with
  | cons r rr =>
    cases rr with
    | cons r' rr =>
      cases rr
      cases r
      cases r'
      obtain ⟨its, rv, c1, z1, lt1⟩ := Sk.now I1 hqx
      obtain ⟨its2, rv2, c2, z2, lt2⟩ := Sk.now I1 hqy
      refine zip_begins2 (k1.begins its.toArray) (k2.begins its2.toArray) c1 c2 fun h' hz hTI hTO g1 g2 hsz hk => PyProof.Rows.args_nil ?_
      refine enum1_any (s := { s1 with heap := h' }) beg_zip hz fun h2 he hsz2 hk2 => wpAny_pyIter_enum he ?_
      have hsz' : h'.objs.size = s1.heap.objs.size + 5 := hsz
      have I2 : Inv X pins σ H1 { s1 with heap := h2 } := I1.kept (t' := s1.toks) fun b o q => hk2 b o (hk b o q)
      have e0 : h'.objs.size = s1.heap.objs.size + 5 := hsz
      have lt1' : (k1.ad : Nat) < s1.heap.objs.size := lt1
      have lt2' : (k2.ad : Nat) < s1.heap.objs.size := lt2
      have ap : ApEZ h'.objs.size (s1.heap.objs.size + 4) (s1.heap.objs.size + 2) (s1.heap.objs.size + 3) s1.heap.objs.size (s1.heap.objs.size + 1) k1.ad k2.ad :=
        ⟨zip_sep2 (N := s1.heap.objs.size) (by simpa using lt1) (by simpa using lt2), by rw [e0]; exact fun z => by have z' : (s1.heap.objs.size + 5 : Nat) = s1.heap.objs.size + 4 := z; omega, by rw [e0]; exact fun z => by have z' : (s1.heap.objs.size + 5 : Nat) = s1.heap.objs.size + 2 := z; omega, by rw [e0]; exact fun z => by have z' : (s1.heap.objs.size + 5 : Nat) = s1.heap.objs.size + 3 := z; omega, by rw [e0]; exact fun z => by have z' : (s1.heap.objs.size + 5 : Nat) = s1.heap.objs.size := z; omega, by rw [e0]; exact fun z => by have z' : (s1.heap.objs.size + 5 : Nat) = s1.heap.objs.size + 1 := z; omega, fun z => by have z' : (s1.heap.objs.size : Nat) = s1.heap.objs.size + 1 := z; omega⟩
      refine ⟨h'.objs.size, [h'.objs.size, s1.heap.objs.size + 4, s1.heap.objs.size + 2, s1.heap.objs.size + 3, s1.heap.objs.size, s1.heap.objs.size + 1], _, _, H1, rfl, I2, turn_ez k1 k2 ap, ?_, ?_, q1⟩
      · exact ⟨⟨_, he⟩, ⟨_, _, hk2 _ _ hz, .inl rfl⟩, hk2 _ _ hTI, ⟨_, _, hk2 _ _ hTO⟩, Sk.it0 (hk2 _ _ g1), Sk.it0 (hk2 _ _ g2)⟩
      · intro c hcm
        have e' : c = h'.objs.size ∨ c = s1.heap.objs.size + 4 ∨ c = s1.heap.objs.size + 2 ∨ c = s1.heap.objs.size + 3 ∨ c = s1.heap.objs.size ∨ c = s1.heap.objs.size + 1 := by simpa using hcm
        have hle : s1.heap.objs.size ≤ c := by
          rcases e' with z | z | z | z | z | z
          · rw [z, e0]; exact Nat.le_add_right _ _
          · rw [z]; exact Nat.le_add_right _ _
          · rw [z]; exact Nat.le_add_right _ _
          · rw [z]; exact Nat.le_add_right _ _
          · rw [z]; exact Nat.le_refl _
          · rw [z]; exact Nat.le_add_right _ _
        exact I1.fpOk hle (I1.hok.fresh hle)
theorem i_ez {a b : Expr} {A : Ax} {p p2 pos q tpos : Pos} {elts : List Expr} {kk : Nat} (hK : G.K = X.K) (hg : Gl X "enumerate") (hm : X.mg "enumerate" = none) (hg2 : Gl X "zip") (hm2 : X.mg "zip" = none) (ha : PA X [a, b] (tA G c A))
    (hs : starEach [a, b] X.env = (false, eval a X.env) :: starEach [b] X.env) (hpl : (backTo q (starEach [b] X.env)).any (·.1) = false)
    (hs2 : starEach [.Call (.Name "zip" p2) [a, b] [] q] X.env = (false, eval (.Call (.Name "zip" p2) [a, b] [] q) X.env) :: starEach [] X.env) :
    PI X (.Tuple elts kk tpos) (.Call (.Name "enumerate" p) [.Call (.Name "zip" p2) [a, b] [] q] [] pos) (tI G c (iEz A)) :=
  (pi_ezS hg hm hg2 hm2 ha hs hpl hs2).imp fun σ H R ⟨L, env, S, q, S', heq, hs, hE, k⟩ => by
    unfold iEz at hE
    obtain ⟨⟨ds, S1⟩, hA, h2⟩ := Option.bind_eq_some_iff.mp hE
    refine ⟨L, env, S, ds, S1, heq, hs, hA, fun L1 vs H1 e1 s1 r1 => ?_⟩
    clear hE
    split at h2
    · rename_i d d' e
      have e' : ds = [d, d'] := e
      subst e'
      obtain ⟨xs, h3, h4⟩ := Option.bind_eq_some_iff.mp h2
      obtain ⟨ys, h5, h6⟩ := Option.map_eq_some_iff.mp h4
      cases h6
      obtain ⟨v, u, rfl, r2, r3⟩ := rep_two r1
      obtain ⟨k1, rfl, n1, on1⟩ := src_on hK s1 r2 h3
      obtain ⟨k2, rfl, n2, on2⟩ := src_on hK s1 r3 h5
      refine ⟨k1, k2, rfl, n1, n2, k _ L1 H1 e1 s1 (walks_ez (watch_app.mpr ⟨watch_now _ _, watch_now _ _⟩) fun L' S' H' e s hw => ?_)⟩
      have hw := watch_app.mp hw
      obtain ⟨vs, f1, f2⟩ := on1 L' S' H' e.le s hw.1
      obtain ⟨us, f3, f4⟩ := on2 L' S' H' e.le s hw.2
      exact ⟨vs, us, f1, f2, f3, f4⟩
    · cases h2
end
end Pe
set_option Elab.async false
set_option linter.all false
set_option maxRecDepth 100000
set_option maxHeartbeats 4000000
/-! statements -/
namespace Pe
open PySem PySem.Spec PyProof.Rows L2
inductive Fl where
  | nx (env : Env) | rt (d : D) | bk (env : Env) | ct (env : Env)
abbrev Sx := Ec → Env → Store → Option (Fl × Store)
def Post (G : Gm) (Ds : Ends) (L : Lk) (H : Hp) (S' : Store) : Fl → Prop
  | .nx env => ∀ L' σ' H', Ext L H L' H' → Sim G L' S' H' → EnvOk G L' env σ' → Ds.nx σ' H'
  | .rt d => ∀ L' v H', Ext L H L' H' → Sim G L' S' H' → Rep G L' d v → Ds.rt v H'
  | .bk env => ∀ L' σ' H', Ext L H L' H' → Sim G L' S' H' → EnvOk G L' env σ' → Ds.bk σ' H'
  | .ct env => ∀ L' σ' H', Ext L H L' H' → Sim G L' S' H' → EnvOk G L' env σ' → Ds.ct σ' H'
theorem Post.on {G : Gm} {Ds : Ends} {L L1 : Lk} {H H1 : Hp} {S' : Store} {f : Fl} (h : Post G Ds L H S' f) (e : Ext L H L1 H1) : Post G Ds L1 H1 S' f := by
  cases f with
  | nx env => exact fun L' σ' H' e' => h L' σ' H' (e.trans e')
  | rt d => exact fun L' v H' e' => h L' v H' (e.trans e')
  | bk env => exact fun L' σ' H' e' => h L' σ' H' (e.trans e')
  | ct env => exact fun L' σ' H' e' => h L' σ' H' (e.trans e')
def tS (G : Gm) (c : Ec) (s : Sx) : TS := fun Ds σ H => ∃ L env S f S', EnvOk G L env σ ∧ Sim G L S H ∧ s c env S = some (f, S') ∧ Post G Ds L H S' f
theorem _root_.L2.PS.imp {X : Cx} {e : Stmt} {t t' : TS} (h : PS X e t) (hi : ∀ (Ds : Ends) (σ : L2.St) (H : Hp), t' Ds σ H → t Ds σ H) : PS X e t' := ⟨fun pins s σ H D I hw => h.run pins s σ H D I (hi D σ H hw)⟩
theorem _root_.L2.PSs.imp {X : Cx} {e : List Stmt} {t t' : TS} (h : PSs X e t) (hi : ∀ (Ds : Ends) (σ : L2.St) (H : Hp), t' Ds σ H → t Ds σ H) : PSs X e t' := ⟨fun pins s σ H D I hw => h.run pins s σ H D I (hi D σ H hw)⟩
section
variable {X : Cx} {G : Gm} {c : Ec}
def sNext : Sx := fun _ env S => some (.nx env, S)
theorem next_imp {Ds : Ends} {σ : L2.St} {H : Hp} (h : tS G c sNext Ds σ H) : tNext Ds σ H := by
  obtain ⟨L, env, S, f, S', he, hs, hE, k⟩ := h
  cases hE
  exact k L σ H (.refl L H) hs he
theorem s_nil : PSs X [] (tS G c sNext) := pss_nil.imp fun _ _ _ => next_imp
theorem s_pass {pos : Pos} : PS X (.Pass pos) (tS G c sNext) := ps_pass.imp fun _ _ _ => next_imp
theorem s_doc {x j pos pos'} : PS X (.Expr (.Constant (.str x) j pos) pos') (tS G c sNext) := ps_doc.imp fun _ _ _ => next_imp
def sBrk : Sx := fun _ env S => some (.bk env, S)
def sCnt : Sx := fun _ env S => some (.ct env, S)
theorem s_brk {pos : Pos} : PS X (.Break pos) (tS G c sBrk) := ps_break.imp fun _ _ _ ⟨L, env, S, f, S', he, hs, hE, k⟩ => by
  cases hE
  exact k L _ _ (.refl L _) hs he
theorem s_cnt {pos : Pos} : PS X (.Continue pos) (tS G c sCnt) := ps_continue.imp fun _ _ _ ⟨L, env, S, f, S', he, hs, hE, k⟩ => by
  cases hE
  exact k L _ _ (.refl L _) hs he
def sSeq (a b : Sx) : Sx := fun c env S => (a c env S).bind fun p => match p.1 with
  | .nx env' => b c env' p.2
  | f => some (f, p.2)
theorem s_cons {st : Stmt} {rest : List Stmt} {a b : Sx} (h1 : PS X st (tS G c a)) (h2 : PSs X rest (tS G c b)) : PSs X (st :: rest) (tS G c (sSeq a b)) :=
  (pss_cons h1 h2).imp fun Ds σ H ⟨L, env, S, f, S', he, hs, hE, k⟩ => by
    unfold sSeq at hE
    obtain ⟨⟨f1, S1⟩, hA, h2⟩ := Option.bind_eq_some_iff.mp hE
    clear hE
    refine ⟨L, env, S, f1, S1, he, hs, hA, ?_⟩
    cases f1 with
    | nx env1 => exact fun L' σ' H' e s' he' => ⟨L', env1, S1, f, S', he', s', h2, k.on e⟩
    | rt d => cases h2; exact k
    | bk env1 => cases h2; exact k
    | ct env1 => cases h2; exact k
theorem s_one {st : Stmt} {a : Sx} (h1 : PS X st (tS G c a)) : PSs X [st] (tS G c a) := pss_one h1
def sExp (e : Ex) : Sx := fun c env S => (e c env S).map fun p => (.nx env, p.2)
theorem s_exp {e : Expr} {E : Ex} {pos : Pos} (he : PE X e (tE G c E)) (hs : swapsWith e none pos.line X.env = pure false) : PS X (.Expr e pos) (tS G c (sExp E)) :=
  (ps_expr he hs).imp fun Ds σ H ⟨L, env, S, f, S', he, hs, hE, k⟩ => by
    unfold sExp at hE
    obtain ⟨⟨d, S1⟩, hA, h2⟩ := Option.map_eq_some_iff.mp hE
    cases h2
    exact ⟨L, env, S, d, S1, he, hs, hA, fun L' v H' e s r => k L' σ H' e s (he.mono e.le)⟩
def sRet (e : Ex) : Sx := fun c env S => (e c env S).map fun p => (.rt p.1, p.2)
theorem s_ret {e : Expr} {E : Ex} {pos : Pos} (he : PE X e (tE G c E)) : PS X (.Return (some e) pos) (tS G c (sRet E)) :=
  (ps_ret he).imp fun Ds σ H ⟨L, env, S, f, S', he, hs, hE, k⟩ => by
    unfold sRet at hE
    obtain ⟨⟨d, S1⟩, hA, h2⟩ := Option.map_eq_some_iff.mp hE
    cases h2
    exact ⟨L, env, S, d, S1, he, hs, hA, fun L' v H' e s r => k L' v H' e s r⟩
def sRetN : Sx := fun _ _ S => some (.rt .non, S)
theorem s_retN {pos : Pos} : PS X (.Return none pos) (tS G c sRetN) := ps_retN.imp fun Ds σ H ⟨L, env, S, f, S', he, hs, hE, k⟩ => by
  cases hE
  exact k L .non H (.refl L H) hs (by simp [Rep])
def sNev : Sx := fun _ _ _ => none
theorem s_nev {st : Stmt} : PS X st (tS G c sNev) := ps_never.imp fun Ds σ H ⟨L, env, S, f, S', he, hs, hE, k⟩ => by cases hE
def sIf (t : Tx) (a b : Sx) : Sx := fun c env S => (t c env S).bind fun p => if p.1 = true then a c env p.2 else b c env p.2
theorem s_if {t : Expr} {p q : List Stmt} {T : Tx} {a b : Sx} {pos : Pos} (ht : PT X t (tT G c T)) (ha : PSs X p (tS G c a)) (hb : PSs X q (tS G c b)) : PS X (.If t p q pos) (tS G c (sIf T a b)) :=
  (ps_if ht ha hb).imp fun Ds σ H ⟨L, env, S, f, S', he, hs, hE, k⟩ => by
    unfold sIf at hE
    obtain ⟨⟨d, S1⟩, hA, h2⟩ := Option.bind_eq_some_iff.mp hE
    clear hE
    refine ⟨L, env, S, d, S1, he, hs, hA, fun L' H' e s => ?_⟩
    cases d with
    | true => exact ⟨L', env, S1, f, S', he.mono e.le, s, h2, k.on e⟩
    | false => exact ⟨L', env, S1, f, S', he.mono e.le, s, h2, k.on e⟩
def sAsg (e : Ex) (g : Gx) : Sx := fun c env S => (e c env S).bind fun p => (g p.1 c env p.2).map fun q => (.nx q.1, q.2)
theorem asg_imp {E : Ex} {g : Gx} {Ds : Ends} {σ : L2.St} {H : Hp} (h : tS G c (sAsg E g) Ds σ H) : tAsg (tE G c E) (gG G c g) Ds σ H := by
  obtain ⟨L, env, S, f, S', he, hs, hE, k⟩ := h
  unfold sAsg at hE
  obtain ⟨⟨d, S1⟩, hA, h2⟩ := Option.bind_eq_some_iff.mp hE
  obtain ⟨⟨env1, S2⟩, hB, h3⟩ := Option.map_eq_some_iff.mp h2
  cases h3
  exact ⟨L, env, S, d, S1, he, hs, hA, fun L1 v H1 e1 s1 r1 => ⟨L1, env, S1, d, env1, S2, he.mono e1.le, s1, r1, hB, fun L2 σ2 H2 e2 s2 he2 => k L2 σ2 H2 (e1.trans e2) s2 he2⟩⟩
theorem asgN_imp {E : Ex} {i : Nat} {Ds : Ends} {σ : L2.St} {H : Hp} (h : tS G c (sAsg E (gNm i)) Ds σ H) : tAsg (tE G c E) (gName i) Ds σ H := by
  obtain ⟨L, env, S, f, S', he, hs, hE, k⟩ := h
  unfold sAsg gNm at hE
  obtain ⟨⟨d, S1⟩, hA, h2⟩ := Option.bind_eq_some_iff.mp hE
  obtain ⟨⟨env1, S2⟩, hB, h3⟩ := Option.map_eq_some_iff.mp h2
  cases h3
  cases hB
  exact ⟨L, env, S, d, S1, he, hs, hA, fun L1 v H1 e1 s1 r1 => k L1 _ H1 e1 s1 ((he.mono e1.le).set r1)⟩
theorem s_asg {tg e : Expr} {E : Ex} {g : Gx} {pos : Pos} (he : PE X e (tE G c E)) (hg : PG X tg (gG G c g)) (hs : swapsWithSole [tg] e pos.line X.env = pure false) (hw : swappedStores [tg] e X.env = pure none)
    (h1 : (assignEach [tg] X.env).map (·.2) = [assign tg X.env]) : PS X (.Assign [tg] e pos) (tS G c (sAsg E g)) := (ps_asg he hg hs hw h1).imp fun _ _ _ => asg_imp
theorem s_set {i : Nat} {x : Str} {e : Expr} {E : Ex} {pos pos' : Pos} (hN : X.N.Nodup) (hi : X.N[i]? = some x) (hx : Loc X.env.scope x) (he : PE X e (tE G c E)) (hs : swapsWith e (some (.Name x pos')) pos.line X.env = pure false) (hf : X.fn x = true ∨ X.env.scope.names.lookup x = some .local) :
    PS X (.Assign [.Name x pos'] e pos) (tS G c (sAsg E (gNm i))) := (ps_set hN hi hx he hs hf).imp fun _ _ _ => asgN_imp

/-! ### loops -/
def forLoop (w : List (Nat × D)) (g : Gx) (b : Sx) (c : Ec) : List D → Env → Store → Option (Fl × Store)
  | [], env, S => if watchOk w S = true then some (.nx env, S) else none
  | d :: r, env, S => if watchOk w S = true then (g d c env S).bind fun p => (b c p.1 p.2).bind fun q => match q.1 with
      | .nx env' => forLoop w g b c r env' q.2
      | .ct env' => forLoop w g b c r env' q.2
      | .bk env' => some (.nx env', q.2)
      | .rt d => some (.rt d, q.2)
    else none
def sFor (it : Ix) (g : Gx) (b : Sx) : Sx := fun c env S => (it c env S).bind fun p => forLoop p.1.watch g b c p.1.items env p.2
theorem for_imp {it : Ix} {g : Gx} {b : Sx} {Ds : Ends} {σ : L2.St} {H : Hp} (h : tS G c (sFor it g b) Ds σ H) : tFor (tI G c it) (gG G c g) (tS G c b) Ds σ H := by
  obtain ⟨L, env, S, f, S', he, hs, hE, k⟩ := h
  unfold sFor at hE
  obtain ⟨⟨q, S1⟩, hA, h2⟩ := Option.bind_eq_some_iff.mp hE
  clear hE
  refine ⟨L, env, S, q, S1, he, hs, hA, fun J L1 H1 e1 s1 wk => ?_⟩
  have h2' : forLoop q.watch g b c q.items env S1 = some (f, S') := h2
  refine ⟨fun i m σ H => m = q.items.length - i ∧ i ≤ q.items.length ∧ ∃ L2 env2 S2, Ext L1 H1 L2 H ∧ EnvOk G L2 env2 σ ∧ Sim G L2 S2 H ∧ forLoop q.watch g b c (q.items.drop i) env2 S2 = some (f, S'), ⟨_, rfl, Nat.zero_le _, L1, env, S1, .refl L1 H1, he.mono e1.le, s1, h2'⟩, ?_⟩
  rintro i m σ2 H2 ⟨rfl, hi, L2, env2, S2, e2, he2, s2, hl⟩
  by_cases hlt : i < q.items.length
  · have hd : q.items.drop i = q.items[i] :: q.items.drop (i + 1) := List.drop_eq_getElem_cons hlt
    rw [hd] at hl
    unfold forLoop at hl
    split at hl
    · rename_i hw
      obtain ⟨⟨env3, S3⟩, hB, h3⟩ := Option.bind_eq_some_iff.mp hl
      obtain ⟨⟨f4, S4⟩, hC, h4⟩ := Option.bind_eq_some_iff.mp h3
      clear hl h3
      obtain ⟨yl, _⟩ := wk.2 L2 S2 H2 e2 s2 hw
      obtain ⟨go, yl⟩ := yl i q.items[i] (List.getElem?_eq_getElem hlt)
      refine .inr ⟨go, fun σ' H' => i + 1 ≤ q.items.length ∧ ∃ L2 env2 S2, Ext L1 H1 L2 H' ∧ EnvOk G L2 env2 σ' ∧ Sim G L2 S2 H' ∧ forLoop q.watch g b c (q.items.drop (i + 1)) env2 S2 = some (f, S'), fun σ' H' n => ⟨q.items.length - (i + 1), by omega, rfl, n⟩, fun x H' y => ?_⟩
      obtain ⟨L3, e3, s3, r3⟩ := yl x H' y
      refine ⟨L3, env2, S2, q.items[i], env3, S3, he2.mono e3.le, s3, r3, hB, fun L4 σ4 H4 e4 s4 he4 => ?_⟩
      refine ⟨L4, env3, S3, f4, S4, he4, s4, hC, ?_⟩
      have e14 : Ext L1 H1 L4 H4 := (e2.trans e3).trans e4
      cases f4 with
      | nx env5 => exact fun L' σ' H' e' s' he' => ⟨hlt, L', env5, S4, e14.trans e', he', s', h4⟩
      | ct env5 => exact fun L' σ' H' e' s' he' => ⟨hlt, L', env5, S4, e14.trans e', he', s', h4⟩
      | bk env5 =>
        cases h4
        exact fun L' σ' H' e' s' he' => (k.on (e1.trans e14)) L' σ' H' e' s' he'
      | rt d =>
        cases h4
        exact fun L' σ' H' e' s' he' => (k.on (e1.trans e14)) L' σ' H' e' s' he'
    · cases hl
  · have hq : i = q.items.length := by omega
    subst hq
    rw [List.drop_eq_nil_of_le (Nat.le_refl _)] at hl
    unfold forLoop at hl
    split at hl
    · rename_i hw
      cases hl
      obtain ⟨_, st⟩ := wk.2 L2 S' H2 e2 s2 hw
      exact .inl ⟨st, (k.on (e1.trans e2)) L2 σ2 H2 (.refl L2 H2) s2 he2⟩
    · cases hl
theorem s_for {tg iter : Expr} {body : List Stmt} {it : Ix} {g : Gx} {b : Sx} {pos : Pos} (hp : PassesOwn (model X.prog X.w) X.A X.env X.xe) (hc : X.calm = true) (hi : PI X tg iter (tI G c it)) (hg : PG X tg (gG G c g)) (hb : PSs X body (tS G c b))
    (hs : ∀ x, foldedSetIterable iter X.env x = pure x) : PS X (.For tg iter body [] pos) (tS G c (sFor it g b)) := (ps_for hp hc hi hg hb hs).imp fun _ _ _ => for_imp
def whLoop (t : Tx) (b : Sx) (c : Ec) : Nat → Env → Store → Option (Fl × Store)
  | 0, _, _ => none
  | n + 1, env, S => (t c env S).bind fun p => if p.1 = true then (b c env p.2).bind fun q => match q.1 with
      | .nx env' => whLoop t b c n env' q.2
      | .ct env' => whLoop t b c n env' q.2
      | .bk env' => some (.nx env', q.2)
      | .rt d => some (.rt d, q.2)
    else some (.nx env, p.2)
def sWhile (t : Tx) (b : Sx) : Sx := fun c env S => whLoop t b c c.fuel env S
theorem while_imp {t : Tx} {b : Sx} {Ds : Ends} {σ : L2.St} {H : Hp} (h : tS G c (sWhile t b) Ds σ H) : tWhile (tT G c t) (tS G c b) Ds σ H := by
  obtain ⟨L, env, S, f, S', he, hs, hE, k⟩ := h
  unfold sWhile at hE
  refine ⟨fun m σ' H' => ∃ L2 env2 S2, Ext L H L2 H' ∧ EnvOk G L2 env2 σ' ∧ Sim G L2 S2 H' ∧ whLoop t b c m env2 S2 = some (f, S'), ⟨_, L, env, S, .refl L H, he, hs, hE⟩, ?_⟩
  rintro m σ2 H2 ⟨L2, env2, S2, e2, he2, s2, hl⟩
  cases m with
  | zero => cases hl
  | succ m =>
    unfold whLoop at hl
    obtain ⟨⟨d, S3⟩, hA, h3⟩ := Option.bind_eq_some_iff.mp hl
    clear hl
    refine ⟨L2, env2, S2, d, S3, he2, s2, hA, fun L3 H3 e3 s3 => ?_⟩
    cases d with
    | true =>
      obtain ⟨⟨f4, S4⟩, hC, h4⟩ := Option.bind_eq_some_iff.mp h3
      clear h3
      refine ⟨fun σ' H' => ∃ L2 env2 S2, Ext L H L2 H' ∧ EnvOk G L2 env2 σ' ∧ Sim G L2 S2 H' ∧ whLoop t b c m env2 S2 = some (f, S'), fun σ' H' n => ⟨m, by omega, n⟩, L3, env2, S3, f4, S4, he2.mono e3.le, s3, hC, ?_⟩
      have e13 : Ext L H L3 H3 := e2.trans e3
      cases f4 with
      | nx env5 => exact fun L' σ' H' e' s' he' => ⟨L', env5, S4, e13.trans e', he', s', h4⟩
      | ct env5 => exact fun L' σ' H' e' s' he' => ⟨L', env5, S4, e13.trans e', he', s', h4⟩
      | bk env5 =>
        cases h4
        exact fun L' σ' H' e' s' he' => (k.on e13) L' σ' H' e' s' he'
      | rt d =>
        cases h4
        exact fun L' σ' H' e' s' he' => (k.on e13) L' σ' H' e' s' he'
    | false =>
      cases h3
      exact (k.on (e2.trans e3)) L3 σ2 H3 (.refl L3 H3) s3 (he2.mono e3.le)
theorem s_while {t : Expr} {body : List Stmt} {T : Tx} {b : Sx} {pos : Pos} (hp : PassesOwn (model X.prog X.w) X.A X.env X.xe) (ht : PT X t (tT G c T)) (hb : PSs X body (tS G c b)) : PS X (.While t body [] pos) (tS G c (sWhile T b)) := (ps_while hp ht hb).imp fun _ _ _ => while_imp

/-! ### list comprehensions -/
theorem wipe_in {σ : L2.St} {i : Nat} : ∀ {vs : List Nat}, i ∈ vs → (wipe σ vs)[i]? = if i < σ.length then some none else none
  | [], h => by cases h
  | v :: vs, h => by
    unfold wipe
    by_cases e : v = i
    · subst e
      rw [List.getElem?_set, if_pos rfl, wipe_length]
    · rw [List.getElem?_set_ne e]
      exact wipe_in (by
        rcases List.mem_cons.mp h with z | z
        · exact absurd z.symm e
        · exact z)
theorem wipe_wipe {σ : L2.St} (vs : List Nat) : wipe (wipe σ vs) vs = wipe σ vs := by
  refine List.ext_getElem? fun i => ?_
  by_cases h : i ∈ vs
  · rw [wipe_in h, wipe_in h, wipe_length]
  · rw [wipe_out h]
def wipeE (env : Env) : List Nat → Env
  | [] => env
  | v :: vs => (wipeE env vs).set v none
theorem EnvOk.wipe {L : Lk} {env : Env} {σ : L2.St} (h : EnvOk G L env σ) : ∀ vs : List Nat, EnvOk G L (wipeE env vs) (wipe σ vs)
  | [] => h
  | v :: vs => by
    have ih := EnvOk.wipe h vs
    refine ⟨by unfold wipeE L2.wipe; rw [List.length_set, List.length_set, ih.1], fun i d q => ?_⟩
    unfold wipeE at q
    unfold L2.wipe
    by_cases e : v = i
    · subst e
      by_cases hl : v < (wipeE env vs).length
      · rw [List.getElem?_set_self hl] at q
        cases q
      · rw [List.getElem?_eq_none (by rw [List.length_set]; omega)] at q
        cases q
    · rw [List.getElem?_set_ne e] at q ⊢
      exact ih.2 i d q
def cellAdd (n : Nat) (y : D) (S : Store) : Option Store := match S[n]? with
  | some (.lst acc) => if acc.length < 2 ^ 24 then some (S.set n (.lst (acc ++ [y]))) else none
  | _ => none
def lcLoop (w : List (Nat × D)) (g : Gx) (t : Tx) (e : Ex) (c : Ec) (env : Env) (n : Nat) : List D → Store → Option Store
  | [], S => if watchOk w S = true then some S else none
  | d :: r, S => if watchOk w S = true then (g d c env S).bind fun p => (t c p.1 p.2).bind fun q =>
      if q.1 = true then (e c p.1 q.2).bind fun y => (cellAdd n y.1 y.2).bind fun S' => lcLoop w g t e c env n r S'
      else lcLoop w g t e c env n r q.2
    else none
def eLc (it : Ix) (vs : List Nat) (g : Gx) (t : Tx) (e : Ex) : Ex := fun c env S => (it c env S).bind fun p =>
  (lcLoop p.1.watch g t e c (wipeE env vs) p.2.length p.1.items (p.2 ++ [.lst []])).map fun S' => (.ref p.2.length, S')
theorem watch_push {w : List (Nat × D)} {S : Store} {d : D} (h : watchOk w S = true) : watchOk w (S ++ [d]) = true := by
  unfold watchOk at h ⊢
  rw [List.all_eq_true] at h ⊢
  intro p hp
  have := h p hp
  split at this
  · rename_i d' e
    rw [List.getElem?_append_left (List.getElem?_eq_some_iff.mp e).1, e]
    exact this
  · cases this
theorem lc_imp {it : Ix} {g : Gx} {t : Tx} {e : Ex} {vs : List Nat} {σ : L2.St} {H : Hp} {Q : VK} (h : tE G c (eLc it vs g t e) σ H Q) : tLc (tI G c it) (gW G c vs g) (tT G c t) (tE G c e) vs σ H Q := by
  obtain ⟨L, env, S, d, S', he, hs, hE, k⟩ := h
  unfold eLc at hE
  obtain ⟨⟨q, S1⟩, hA, h2⟩ := Option.bind_eq_some_iff.mp hE
  obtain ⟨S2, hL, h3⟩ := Option.map_eq_some_iff.mp h2
  cases h3
  clear hE h2
  refine ⟨L, env, S, q, S1, he, hs, hA, fun J L1 H1 e1 s1 wk P hP => ?_⟩
  have hL : lcLoop q.watch g t e c (wipeE env vs) S1.length q.items (S1 ++ [.lst []]) = some S' := hL
  obtain ⟨L0, e0, s0, r0⟩ := new_lst s1 (repL_nil (L := L1)) hP
  have r0m : L0.m[S1.length]? = some P := by
    simp only [Rep] at r0
    obtain ⟨a, ra, rb⟩ := r0
    cases rb
    exact ra
  have he0 : EnvOk G L0 env σ := (he.mono e1.le).mono e0.le
  refine ⟨fun i m H => m = q.items.length - i ∧ i ≤ q.items.length ∧ ∃ L2 S2, Ext L0 (upd H1 P (.lst [])) L2 H ∧ Sim G L2 S2 H ∧ lcLoop q.watch g t e c (wipeE env vs) S1.length (q.items.drop i) S2 = some S', ⟨_, rfl, Nat.zero_le _, L0, _, .refl _ _, s0, hL⟩, ?_⟩
  rintro i m H2 ⟨rfl, hi, L2, S2, e2, s2, hl⟩
  by_cases hlt : i < q.items.length
  · have hd : q.items.drop i = q.items[i] :: q.items.drop (i + 1) := List.drop_eq_getElem_cons hlt
    rw [hd] at hl
    unfold lcLoop at hl
    split at hl
    · rename_i hw
      obtain ⟨⟨env3, S3⟩, hB, h3⟩ := Option.bind_eq_some_iff.mp hl
      obtain ⟨⟨b4, S4⟩, hC, h4⟩ := Option.bind_eq_some_iff.mp h3
      clear hl h3
      obtain ⟨yl, _⟩ := wk.2 L2 S2 H2 (e0.trans e2) s2 hw
      obtain ⟨go, yl⟩ := yl i q.items[i] (List.getElem?_eq_getElem hlt)
      refine .inr ⟨go, fun H' => i + 1 ≤ q.items.length ∧ ∃ L2 S2, Ext L0 (upd H1 P (.lst [])) L2 H' ∧ Sim G L2 S2 H' ∧ lcLoop q.watch g t e c (wipeE env vs) S1.length (q.items.drop (i + 1)) S2 = some S', fun H' n => ⟨q.items.length - (i + 1), by omega, rfl, n⟩, fun x H' y => ?_⟩
      obtain ⟨L3, e3, s3, r3⟩ := yl x H' y
      refine ⟨L3, wipeE env vs, S2, q.items[i], env3, S3, ((he0.mono (e2.trans e3).le).wipe vs), s3, r3, hB, fun L4 σ4 H4 e4 s4 he4 w4 => ⟨?_, ?_⟩⟩
      · rw [w4]
        exact wipe_wipe vs
      · refine ⟨L4, env3, S3, b4, S4, he4, s4, hC, fun L5 H5 e5 s5 => ?_⟩
        have e05 : Ext L0 (upd H1 P (.lst [])) L5 H5 := ((e2.trans e3).trans e4).trans e5
        cases b4 with
        | false =>
          exact ⟨hlt, L5, S4, e05, s5, h4⟩
        | true =>
          obtain ⟨⟨y6, S6⟩, hD, h6⟩ := Option.bind_eq_some_iff.mp h4
          obtain ⟨S7, hF, h7⟩ := Option.bind_eq_some_iff.mp h6
          clear h4 h6
          refine ⟨L5, env3, S4, y6, S6, he4.mono e5.le, s5, hD, fun L6 v6 H6 e6 s6 r6 => ?_⟩
          have hF' : cellAdd S1.length y6 S6 = some S7 := hF
          unfold cellAdd at hF'
          split at hF'
          · rename_i acc hacc
            split at hF'
            · rename_i hsz
              cases hF'
              have hm : L6.m[S1.length]? = some P := (e05.trans e6).le.m _ _ r0m
              obtain ⟨avs, a1, a2⟩ := s6.cell _ _ P hacc hm
              have hc : CellOk G L6 (upd H6 P (.lst (avs ++ [v6]))) P (.lst (acc ++ [y6])) := ⟨_, upd_same, repL_append a2 (repL_one r6)⟩
              obtain ⟨s7, e7⟩ := sim_set s6 hm hc
              refine ⟨avs, a1, ?_, hlt, L6, _, (e05.trans e6).trans e7, s7, h7⟩
              rw [← repL_length a2]
              exact hsz
            · cases hF'
          · cases hF'
    · cases hl
  · have hq : i = q.items.length := by omega
    subst hq
    rw [List.drop_eq_nil_of_le (Nat.le_refl _)] at hl
    unfold lcLoop at hl
    split at hl
    · rename_i hw
      cases hl
      obtain ⟨_, st⟩ := wk.2 L2 S' H2 (e0.trans e2) s2 hw
      refine .inl ⟨st, k L2 (.ref P) H2 ((e1.trans e0).trans e2) s2 ?_⟩
      exact r0.mono e2.le
    · cases hl
end
end Pe
set_option Elab.async false
set_option linter.all false
set_option maxRecDepth 100000
set_option maxHeartbeats 4000000
/-! what a call hands back: cells made in it are frozen -/
namespace Pe
open PySem PySem.Spec PyProof.Rows L2
mutual
def D.free : D → Bool
  | .ref _ => false
  | .tup xs => freeL xs
  | .lst xs => freeL xs
  | .scr xs => freeL xs
  | .dct _ _ xs => freeL xs
  | .ins _ _ xs => freeL xs
  | _ => true
def freeL : List D → Bool
  | [] => true
  | d :: ds => D.free d && freeL ds
end
mutual
def sealW (r : Nat → Option D) : D → Option D
  | .ref n => r n
  | .tup xs => (sealL r xs).map .tup
  | .lst xs => (sealL r xs).map .lst
  | .scr xs => (sealL r xs).map .scr
  | .dct t ks xs => (sealL r xs).map (.dct t ks)
  | .ins c ids xs => (sealL r xs).map (.ins c ids)
  | .non => some .non
  | .bl b => some (.bl b)
  | .int i => some (.int i)
  | .str s => some (.str s)
  | .fn f => some (.fn f)
def sealL (r : Nat → Option D) : List D → Option (List D)
  | [] => some []
  | d :: ds => (sealW r d).bind fun e => (sealL r ds).map fun es => e :: es
end
mutual
theorem seal_free {r : Nat → Option D} : ∀ {d : D}, D.free d = true → sealW r d = some d
  | .ref n, h => by simp [D.free] at h
  | .tup xs, h => by
    simp only [D.free] at h
    simp only [sealW, sealL_free h, Option.map_some]
  | .lst xs, h => by
    simp only [D.free] at h
    simp only [sealW, sealL_free h, Option.map_some]
  | .scr xs, h => by
    simp only [D.free] at h
    simp only [sealW, sealL_free h, Option.map_some]
  | .dct t ks xs, h => by
    simp only [D.free] at h
    simp only [sealW, sealL_free h, Option.map_some]
  | .ins c ids xs, h => by
    simp only [D.free] at h
    simp only [sealW, sealL_free h, Option.map_some]
  | .non, _ => by simp [sealW]
  | .bl b, _ => by simp [sealW]
  | .int i, _ => by simp [sealW]
  | .str s, _ => by simp [sealW]
  | .fn f, _ => by simp [sealW]
theorem sealL_free {r : Nat → Option D} : ∀ {ds : List D}, freeL ds = true → sealL r ds = some ds
  | [], _ => by simp [sealL]
  | d :: ds, h => by
    simp only [freeL, Bool.and_eq_true] at h
    simp only [sealL, seal_free h.1, sealL_free h.2, Option.bind_some, Option.map_some]
end
/-- a cell's content, all its cells frozen but those of ex -/
def cellF (S : Store) (ex : Nat → Bool) : Nat → Nat → Option D
  | 0, _ => none
  | n + 1, j => if ex j = true then none else (S[j]?).bind (sealW (cellF S ex n))
def fuelC : Nat := 64
def sealD (S : Store) (ex : Nat → Bool) (d : D) : Option D := sealW (cellF S ex fuelC) d
/-- .. frozen by the link -/
def frzF (L : Lk) (H : Hp) (ex : Nat → Bool) : Hp := fun a => match L.m.findIdx? (· == a) with
  | some j => if ex j = true then L.F a else H a
  | none => L.F a
section
variable {G : Gm} {L : Lk} {S : Store} {H : Hp} {ex : Nat → Bool}
theorem idx_of {m : List Addr} (nd : m.Nodup) {j : Nat} {a : Addr} (h : m[j]? = some a) : m.findIdx? (· == a) = some j := by
  obtain ⟨hj, e⟩ := List.getElem?_eq_some_iff.mp h
  rw [List.findIdx?_eq_some_iff_getElem]
  refine ⟨hj, by simp [e], fun i hi => ?_⟩
  simp only [beq_iff_eq, Bool.not_eq_true, beq_eq_false_iff_ne, ne_eq, decide_not, Bool.not_eq_eq_eq_not, Bool.not_true]
  intro q
  have := (List.getElem?_inj (by omega) nd).mp (show m[i]? = m[j]? by rw [h, ← q]; exact List.getElem?_eq_getElem (by omega))
  omega
theorem idx_none {m : List Addr} {a : Addr} (h : a ∉ m) : m.findIdx? (· == a) = none := by
  rw [List.findIdx?_eq_none_iff]
  intro x hx
  simp only [beq_eq_false_iff_ne, ne_eq]
  intro e
  exact h (e ▸ hx)
theorem frz_of (s : Sim G L S H) {a : Addr} {o : HO} (h : L.F a = some o) : frzF L H ex a = some o := by
  unfold frzF
  have : a ∉ L.m := fun hm => by
    rw [s.fr a hm] at h
    cases h
  rw [idx_none this]
  exact h
theorem frz_cell (s : Sim G L S H) {j : Nat} {a : Addr} (h : L.m[j]? = some a) (he : ex j = false) : frzF L H ex a = H a := by
  unfold frzF
  rw [idx_of s.nd h]
  simp only [he, Bool.false_eq_true, if_false]
theorem frz_ex (s : Sim G L S H) {j : Nat} {a : Addr} (h : L.m[j]? = some a) (he : ex j = true) : frzF L H ex a = none := by
  unfold frzF
  rw [idx_of s.nd h]
  simp only [he, if_true]
  exact s.fr a (List.mem_of_getElem? h)
theorem frz_le (s : Sim G L S H) : FLe (frzF L H ex) H := fun a o h => by
  unfold frzF at h
  split at h
  · split at h
    · exact s.le a o h
    · exact .inl h
  · exact s.le a o h
theorem frz_inv {a : Addr} {o : HO} (h : frzF L H ex a = some o) : L.F a = some o ∨ ∃ j, L.m[j]? = some a ∧ ex j = false ∧ H a = some o := by
  unfold frzF at h
  split at h
  · rename_i j q
    split at h
    · exact .inl h
    · rename_i hx
      rw [List.findIdx?_eq_some_iff_getElem] at q
      obtain ⟨hj, e, _⟩ := q
      exact .inr ⟨j, by rw [List.getElem?_eq_getElem hj, eq_of_beq e], by simpa using hx, h⟩
  · exact .inl h
mutual
theorem seal_rep {r : Nat → Option D} {M : List Addr} (s : Sim G L S H) (hr : ∀ (n : Nat) (e : D) (a : Addr), r n = some e → L.m[n]? = some a → Rep G ⟨frzF L H ex, M⟩ e (.ref a)) : ∀ (d e : D) (v : V), Rep G L d v → sealW r d = some e → Rep G ⟨frzF L H ex, M⟩ e v
  | .ref n, e, v, h, q => by
    simp only [Rep] at h
    simp only [sealW] at q
    obtain ⟨a, e1, rfl⟩ := h
    exact hr n e a q e1
  | .tup xs, e, v, h, q => by
    simp only [Rep] at h
    simp only [sealW] at q
    obtain ⟨es, q1, rfl⟩ := Option.map_eq_some_iff.mp q
    obtain ⟨a, vs, e1, e2, e3⟩ := h
    simp only [Rep]
    exact ⟨a, vs, e1, sqt_mono (fun a o z => frz_of s z) e2, sealL_rep s hr xs es vs e3 q1⟩
  | .lst xs, e, v, h, q => by
    simp only [Rep] at h
    simp only [sealW] at q
    obtain ⟨es, q1, rfl⟩ := Option.map_eq_some_iff.mp q
    obtain ⟨a, vs, e1, e2, e3⟩ := h
    simp only [Rep]
    exact ⟨a, vs, e1, frz_of s e2, sealL_rep s hr xs es vs e3 q1⟩
  | .scr xs, e, v, h, q => by
    simp only [Rep] at h
    simp only [sealW] at q
    obtain ⟨es, q1, rfl⟩ := Option.map_eq_some_iff.mp q
    obtain ⟨a, vs, e1, e2, e3⟩ := h
    simp only [Rep]
    exact ⟨a, vs, e1, sql_mono (fun a o z => frz_of s z) e2, sealL_rep s hr xs es vs e3 q1⟩
  | .dct t ks xs, e, v, h, q => by
    simp only [Rep] at h
    simp only [sealW] at q
    obtain ⟨es, q1, rfl⟩ := Option.map_eq_some_iff.mp q
    obtain ⟨a, vs, e1, e2, e3⟩ := h
    simp only [Rep]
    exact ⟨a, vs, e1, e2.mono fun o z => frz_of s z, sealL_rep s hr xs es vs e3 q1⟩
  | .ins c ids xs, e, v, h, q => by
    simp only [Rep] at h
    simp only [sealW] at q
    obtain ⟨es, q1, rfl⟩ := Option.map_eq_some_iff.mp q
    obtain ⟨a, dx, fs, e1, e2, e3, e4⟩ := h
    simp only [Rep]
    exact ⟨a, dx, fs, e1, frz_of s e2, e3, sealL_rep s hr xs es _ e4 q1⟩
  | .non, e, v, h, q => by simp only [sealW] at q; cases q; simpa [Rep] using h
  | .bl _, e, v, h, q => by simp only [sealW] at q; cases q; simpa [Rep] using h
  | .int _, e, v, h, q => by simp only [sealW] at q; cases q; simpa [Rep] using h
  | .str _, e, v, h, q => by simp only [sealW] at q; cases q; simpa [Rep] using h
  | .fn _, e, v, h, q => by simp only [sealW] at q; cases q; simpa [Rep] using h
theorem sealL_rep {r : Nat → Option D} {M : List Addr} (s : Sim G L S H) (hr : ∀ (n : Nat) (e : D) (a : Addr), r n = some e → L.m[n]? = some a → Rep G ⟨frzF L H ex, M⟩ e (.ref a)) : ∀ (ds es : List D) (vs : List V), RepL G L ds vs → sealL r ds = some es → RepL G ⟨frzF L H ex, M⟩ es vs
  | [], es, vs, h, q => by
    simp only [sealL] at q
    cases q
    simpa [RepL] using h
  | d :: ds, es, vs, h, q => by
    simp only [sealL] at q
    obtain ⟨e, q1, q2⟩ := Option.bind_eq_some_iff.mp q
    obtain ⟨es', q3, rfl⟩ := Option.map_eq_some_iff.mp q2
    simp only [RepL] at h
    obtain ⟨v, r', e1, e2, e3⟩ := h
    rw [e1]
    exact repL_cons (seal_rep s hr d e v e2 q1) (sealL_rep s hr ds es' r' e3 q3)
end
/-- a cell's content, sealed: as a cell's content, or frozen -/
theorem seal_cell {r : Nat → Option D} {M : List Addr} (s : Sim G L S H) (hr : ∀ (n : Nat) (e : D) (a : Addr), r n = some e → L.m[n]? = some a → Rep G ⟨frzF L H ex, M⟩ e (.ref a)) {a : Addr} {d e : D} (h : CellOk G L H a d) (q : sealW r d = some e) : CellOk G ⟨frzF L H ex, M⟩ H a e ∧ (frzF L H ex a = H a → Rep G ⟨frzF L H ex, M⟩ e (.ref a)) := by
  cases d with
  | lst xs =>
    obtain ⟨vs, e1, e2⟩ := h
    simp only [sealW] at q
    obtain ⟨es, q1, rfl⟩ := Option.map_eq_some_iff.mp q
    have r1 := sealL_rep (M := M) s hr xs es vs e2 q1
    refine ⟨⟨vs, e1, r1⟩, fun hf => ?_⟩
    simp only [Rep]
    exact ⟨a, vs, rfl, by show frzF L H ex a = _; rw [hf]; exact e1, r1⟩
  | dct t ks xs =>
    obtain ⟨vs, e1, e2⟩ := h
    simp only [sealW] at q
    obtain ⟨es, q1, rfl⟩ := Option.map_eq_some_iff.mp q
    have r1 := sealL_rep (M := M) s hr xs es vs e2 q1
    refine ⟨⟨vs, e1, r1⟩, fun hf => ?_⟩
    simp only [Rep]
    exact ⟨a, vs, rfl, e1.mono fun o z => by show frzF L H ex a = _; rw [hf]; exact z, r1⟩
  | ins c ids xs =>
    obtain ⟨dx, fs, e1, e2, e3⟩ := h
    simp only [sealW] at q
    obtain ⟨es, q1, rfl⟩ := Option.map_eq_some_iff.mp q
    have r1 := sealL_rep (M := M) s hr xs es _ e3 q1
    refine ⟨⟨dx, fs, e1, e2, r1⟩, fun hf => ?_⟩
    simp only [Rep]
    exact ⟨a, dx, fs, rfl, by show frzF L H ex a = _; rw [hf]; exact e1, e2, r1⟩
  | _ => exact h.elim
theorem cellF_rep {M : List Addr} (s : Sim G L S H) : ∀ (k n : Nat) (e : D) (a : Addr), cellF S ex k n = some e → L.m[n]? = some a → Rep G ⟨frzF L H ex, M⟩ e (.ref a)
  | 0, n, e, a, q, _ => by cases q
  | k + 1, n, e, a, q, hm => by
    unfold cellF at q
    split at q
    · cases q
    · rename_i hx
      have hx' : ex n = false := by simpa using hx
      obtain ⟨d, q1, q2⟩ := Option.bind_eq_some_iff.mp q
      exact (seal_cell s (fun n e a => cellF_rep s k n e a) (s.cell n d a q1 hm) q2).2 (frz_cell s hm hx')
end
end Pe
set_option Elab.async false
set_option linter.all false
set_option maxRecDepth 100000
set_option maxHeartbeats 4000000
/-! calls -/
namespace Pe
open PySem PySem.Spec PyProof.Rows L2
def lentOf : List D → List Nat
  | [] => []
  | .ref n :: r => n :: lentOf r
  | _ :: r => lentOf r
def lendA : Nat → List D → List D
  | _, [] => []
  | i, .ref _ :: r => .ref i :: lendA (i + 1) r
  | i, d :: r => d :: lendA i r
def argsOk : List D → Bool
  | [] => true
  | .ref _ :: r => argsOk r
  | d :: r => d.free && argsOk r
def getAll (S : Store) : List Nat → Option (List D)
  | [] => some []
  | n :: r => match S[n]? with
    | some d => if d.free = true then (getAll S r).map fun l => d :: l else none
    | none => none
def putBack : List Nat → List D → Store → Store
  | n :: r, d :: ds, S => putBack r ds (S.set n d)
  | _, _, S => S
def giveBack (ns : List Nat) (S S' : Store) : D → Option (D × Store)
  | .ref j => match ns[j]? with
    | some n => (sealL (cellF S' (fun i => decide (i < ns.length)) fuelC) (S'.take ns.length)).map fun cs => (.ref n, putBack ns cs S)
    | none => (sealL (cellF S' (fun i => decide (i < ns.length) || decide (i = j)) fuelC) (S'.take ns.length)).bind fun cs =>
        (S'[j]?).bind fun x => (sealW (cellF S' (fun i => decide (i < ns.length) || decide (i = j)) fuelC) x).map fun e => (.ref S.length, putBack ns cs S ++ [e])
  | d => (sealL (cellF S' (fun i => decide (i < ns.length)) fuelC) (S'.take ns.length)).bind fun cs =>
      (sealW (cellF S' (fun i => decide (i < ns.length)) fuelC) d).map fun e => (e, putBack ns cs S)
section
variable {G : Gm}
theorem putBack_length : ∀ (ns : List Nat) (ds : List D) (S : Store), (putBack ns ds S).length = S.length
  | [], ds, S => by simp [putBack]
  | n :: ns, [], S => by simp [putBack]
  | n :: ns, d :: ds, S => by rw [putBack, putBack_length, List.length_set]
theorem putBack_out : ∀ (ns : List Nat) (ds : List D) (S : Store) {n : Nat}, n ∉ ns → (putBack ns ds S)[n]? = S[n]?
  | [], ds, S, n, _ => by simp [putBack]
  | m :: ns, [], S, n, _ => by simp [putBack]
  | m :: ns, d :: ds, S, n, h => by
    rw [List.mem_cons, not_or] at h
    rw [putBack, putBack_out ns ds _ h.2, List.getElem?_set_ne (Ne.symm h.1)]
theorem putBack_in : ∀ (ns : List Nat) (ds : List D) (S : Store) {i n : Nat}, ns.Nodup → ns.length = ds.length → (∀ n ∈ ns, n < S.length) → ns[i]? = some n → (putBack ns ds S)[n]? = ds[i]?
  | [], ds, S, i, n, _, _, _, h => by simp at h
  | m :: ns, [], S, i, n, _, hl, _, h => by simp at hl
  | m :: ns, d :: ds, S, 0, n, nd, hl, hb, h => by
    have e : m = n := by simpa using h
    subst e
    rw [putBack, putBack_out ns ds _ (List.nodup_cons.mp nd).1, List.getElem?_set_self (hb m List.mem_cons_self)]
    rfl
  | m :: ns, d :: ds, S, i + 1, n, nd, hl, hb, h => by
    rw [putBack]
    exact putBack_in ns ds _ (i := i) (List.nodup_cons.mp nd).2 (by simpa using hl) (fun n hn => by rw [List.length_set]; exact hb n (List.mem_cons_of_mem _ hn)) h
theorem getAll_length {S : Store} : ∀ {ns : List Nat} {cs : List D}, getAll S ns = some cs → cs.length = ns.length
  | [], cs, h => by cases h; rfl
  | n :: ns, cs, h => by
    unfold getAll at h
    split at h
    · split at h
      · obtain ⟨l, h1, rfl⟩ := Option.map_eq_some_iff.mp h
        rw [List.length_cons, List.length_cons, getAll_length h1]
      · cases h
    · cases h
theorem getAll_get {S : Store} : ∀ {ns : List Nat} {cs : List D} {i : Nat} {d : D}, getAll S ns = some cs → cs[i]? = some d → ∃ n, ns[i]? = some n ∧ S[n]? = some d ∧ d.free = true
  | [], cs, i, d, h, q => by cases h; simp at q
  | n :: ns, cs, i, d, h, q => by
    unfold getAll at h
    split at h
    · rename_i d0 hd
      split at h
      · rename_i hf
        obtain ⟨l, h1, rfl⟩ := Option.map_eq_some_iff.mp h
        cases i with
        | zero =>
          have e : d0 = d := by simpa using q
          subst e
          exact ⟨n, rfl, hd, hf⟩
        | succ i => exact getAll_get (i := i) h1 (by simpa using q)
      · cases h
    · cases h
theorem getAll_mem {S : Store} : ∀ {ns : List Nat} {cs : List D} {n : Nat}, getAll S ns = some cs → n ∈ ns → n < S.length
  | [], cs, n, h, q => by cases q
  | m :: ns, cs, n, h, q => by
    unfold getAll at h
    split at h
    · rename_i d0 hd
      split at h
      · obtain ⟨l, h1, rfl⟩ := Option.map_eq_some_iff.mp h
        rcases List.mem_cons.mp q with e | e
        · subst e
          exact (List.getElem?_eq_some_iff.mp hd).1
        · exact getAll_mem h1 e
      · cases h
    · cases h
theorem sealL_length {r : Nat → Option D} : ∀ {ds es : List D}, sealL r ds = some es → es.length = ds.length
  | [], es, h => by simp only [sealL] at h; cases h; rfl
  | d :: ds, es, h => by
    simp only [sealL] at h
    obtain ⟨e, q1, q2⟩ := Option.bind_eq_some_iff.mp h
    obtain ⟨es', q3, rfl⟩ := Option.map_eq_some_iff.mp q2
    rw [List.length_cons, List.length_cons, sealL_length q3]
theorem sealL_get {r : Nat → Option D} : ∀ {ds es : List D} {i : Nat} {e : D}, sealL r ds = some es → es[i]? = some e → ∃ d, ds[i]? = some d ∧ sealW r d = some e
  | [], es, i, e, h, q => by simp only [sealL] at h; cases h; simp at q
  | d :: ds, es, i, e, h, q => by
    simp only [sealL] at h
    obtain ⟨e0, q1, q2⟩ := Option.bind_eq_some_iff.mp h
    obtain ⟨es', q3, rfl⟩ := Option.map_eq_some_iff.mp q2
    cases i with
    | zero =>
      have e' : e0 = e := by simpa using q
      subst e'
      exact ⟨d, rfl, q1⟩
    | succ i => exact sealL_get (i := i) q3 (by simpa using q)
mutual
theorem rep_free {L L2 : Lk} (hF : ∀ a o, L.F a = some o → L2.F a = some o) : ∀ (d : D) (v : V), D.free d = true → Rep G L d v → Rep G L2 d v
  | .ref n, v, h, _ => by simp [D.free] at h
  | .tup xs, v, h, q => by
    simp only [D.free] at h
    simp only [Rep] at q ⊢
    obtain ⟨a, vs, e1, e2, e3⟩ := q
    exact ⟨a, vs, e1, sqt_mono hF e2, repL_free hF xs vs h e3⟩
  | .lst xs, v, h, q => by
    simp only [D.free] at h
    simp only [Rep] at q ⊢
    obtain ⟨a, vs, e1, e2, e3⟩ := q
    exact ⟨a, vs, e1, hF _ _ e2, repL_free hF xs vs h e3⟩
  | .scr xs, v, h, q => by
    simp only [D.free] at h
    simp only [Rep] at q ⊢
    obtain ⟨a, vs, e1, e2, e3⟩ := q
    exact ⟨a, vs, e1, sql_mono hF e2, repL_free hF xs vs h e3⟩
  | .dct t ks xs, v, h, q => by
    simp only [D.free] at h
    simp only [Rep] at q ⊢
    obtain ⟨a, vs, e1, e2, e3⟩ := q
    exact ⟨a, vs, e1, e2.mono (hF a), repL_free hF xs vs h e3⟩
  | .ins c ids xs, v, h, q => by
    simp only [D.free] at h
    simp only [Rep] at q ⊢
    obtain ⟨a, dx, fs, e1, e2, e3, e4⟩ := q
    exact ⟨a, dx, fs, e1, hF _ _ e2, e3, repL_free hF xs _ h e4⟩
  | .non, v, _, q => by simpa [Rep] using q
  | .bl _, v, _, q => by simpa [Rep] using q
  | .int _, v, _, q => by simpa [Rep] using q
  | .str _, v, _, q => by simpa [Rep] using q
  | .fn _, v, _, q => by simpa [Rep] using q
theorem repL_free {L L2 : Lk} (hF : ∀ a o, L.F a = some o → L2.F a = some o) : ∀ (ds : List D) (vs : List V), freeL ds = true → RepL G L ds vs → RepL G L2 ds vs
  | [], vs, _, q => by simpa [RepL] using q
  | d :: ds, vs, h, q => by
    simp only [freeL, Bool.and_eq_true] at h
    simp only [RepL] at q
    obtain ⟨v, r, e1, e2, e3⟩ := q
    rw [e1]
    exact repL_cons (rep_free hF d v h.1 e2) (repL_free hF ds r h.2 e3)
end
theorem cell_free {L L2 : Lk} {H : Hp} {a : Addr} {d : D} (hF : ∀ a o, L.F a = some o → L2.F a = some o) (hd : D.free d = true) (h : CellOk G L H a d) : CellOk G L2 H a d := by
  cases d with
  | lst xs => simp only [D.free] at hd; obtain ⟨vs, e1, e2⟩ := h; exact ⟨vs, e1, repL_free hF _ _ hd e2⟩
  | dct t ks xs => simp only [D.free] at hd; obtain ⟨vs, e1, e2⟩ := h; exact ⟨vs, e1, repL_free hF _ _ hd e2⟩
  | ins c ids xs => simp only [D.free] at hd; obtain ⟨dx, fs, e1, e2, e3⟩ := h; exact ⟨dx, fs, e1, e2, repL_free hF _ _ hd e3⟩
  | _ => exact h
/-- the callee's link -/
def lentL (L : Lk) (ns : List Nat) : Lk := ⟨L.F, ns.map fun n => L.m.getD n 0⟩
theorem getD_at {L : Lk} {n : Nat} (h : n < L.m.length) : L.m[n]? = some (L.m.getD n 0) := by
  rw [List.getD_eq_getElem?_getD, List.getElem?_eq_getElem h]
  rfl
theorem lend_args {L L2 : Lk} (hF : L2.F = L.F) : ∀ (ds : List D) (vs : List V) (i : Nat), RepL G L ds vs → argsOk ds = true → (∀ t n, (lentOf ds)[t]? = some n → ∃ a, L.m[n]? = some a ∧ L2.m[i + t]? = some a) → RepL G L2 (lendA i ds) vs
  | [], vs, i, h, _, _ => by simpa [RepL, lendA] using h
  | d :: ds, vs, i, h, ho, hm => by
    simp only [RepL] at h
    obtain ⟨v, r, e1, e2, e3⟩ := h
    rw [e1]
    by_cases hd : ∃ n, d = .ref n
    · obtain ⟨n, rfl⟩ := hd
      simp only [argsOk] at ho
      show RepL G L2 (.ref i :: lendA (i + 1) ds) (v :: r)
      obtain ⟨a, m1, m2⟩ := hm 0 n rfl
      simp only [Rep] at e2
      obtain ⟨b, b1, rfl⟩ := e2
      rw [m1] at b1
      cases b1
      refine repL_cons ?_ (lend_args hF ds r (i + 1) e3 ho fun t n q => ?_)
      · simp only [Rep]
        exact ⟨a, m2, rfl⟩
      · obtain ⟨b, b1, b2⟩ := hm (t + 1) n (by simpa [lentOf] using q)
        exact ⟨b, b1, by rw [← b2]; congr 1; omega⟩
    · have ho' : D.free d = true ∧ argsOk ds = true := by
        cases d <;> first
          | (exact absurd ⟨_, rfl⟩ hd)
          | (simpa [argsOk] using ho)
      have hl : lentOf (d :: ds) = lentOf ds := by
        cases d <;> first
          | (exact absurd ⟨_, rfl⟩ hd)
          | rfl
      have hA : lendA i (d :: ds) = d :: lendA i ds := by
        cases d <;> first
          | (exact absurd ⟨_, rfl⟩ hd)
          | rfl
      rw [hA]
      refine repL_cons (rep_free (fun a o z => by rw [hF]; exact z) d v ho'.1 e2) (lend_args hF ds r i e3 ho'.2 fun t n q => hm t n (by rw [hl]; exact q))
theorem lent_sim {L : Lk} {S : Store} {H : Hp} {ns : List Nat} {cs : List D} (s : Sim G L S H) (nd : ns.Nodup) (h : getAll S ns = some cs) : Sim G (lentL L ns) cs H where
  le := s.le
  len := by
    show (ns.map _).length = _
    rw [List.length_map, getAll_length h]
  nd := by
    show (ns.map fun n => L.m.getD n 0).Nodup
    unfold List.Nodup
    rw [List.pairwise_map]
    refine nd.imp_of_mem fun {a b} ha hb ne q => ne ?_
    have l1 : a < L.m.length := by rw [s.len]; exact getAll_mem h ha
    have l2 : b < L.m.length := by rw [s.len]; exact getAll_mem h hb
    refine (List.getElem?_inj l1 s.nd).mp ?_
    rw [getD_at l1, getD_at l2, q]
  fr := fun a ha => by
    obtain ⟨n, hn, rfl⟩ := List.mem_map.mp (show a ∈ ns.map fun n => L.m.getD n 0 from ha)
    have l1 : n < L.m.length := by rw [s.len]; exact getAll_mem h hn
    exact s.fr _ (List.mem_of_getElem? (getD_at l1))
  cell := fun i d a hi ha => by
    obtain ⟨n, hn, hd, hf⟩ := getAll_get h hi
    have ha' : (ns.map fun n => L.m.getD n 0)[i]? = some a := ha
    rw [List.getElem?_map, hn] at ha'
    have l1 : n < L.m.length := by rw [s.len]; exact getAll_mem h (List.mem_of_getElem? hn)
    have e : L.m.getD n 0 = a := Option.some.inj ha'
    subst e
    exact cell_free (L := L) (fun _ _ z => z) hf (s.cell n d _ hd (getD_at l1))
/-- back in the caller -/
theorem give_core {L Lc : Lk} {S S' : Store} {H H' : Hp} {ns : List Nat} {cs cs' : List D} {ex : Nat → Bool} (s : Sim G L S H) (nd : ns.Nodup) (h : getAll S ns = some cs) (e : Ext (lentL L ns) H Lc H') (s' : Sim G Lc S' H')
    (hx : ∀ i, i < ns.length → ex i = true) (hs : sealL (cellF S' ex fuelC) (S'.take ns.length) = some cs') (extra : List Addr) (add : List D)
    (hadd : extra.length = add.length) (hex : ∀ a ∈ extra, H a = none ∧ frzF Lc H' ex a = none) (hnd : extra.Nodup) (hcell : ∀ (n : Nat) (d : D) (a : Addr), add[n]? = some d → extra[n]? = some a → CellOk G ⟨frzF Lc H' ex, L.m ++ extra⟩ H' a d) :
    Ext L H ⟨frzF Lc H' ex, L.m ++ extra⟩ H' ∧ Sim G ⟨frzF Lc H' ex, L.m ++ extra⟩ (putBack ns cs' S ++ add) H' := by
  have hsub : ∀ a ∈ (lentL L ns).m, a ∈ L.m := fun a ha => by
    obtain ⟨n, hn, rfl⟩ := List.mem_map.mp (show a ∈ ns.map fun n => L.m.getD n 0 from ha)
    exact List.mem_of_getElem? (getD_at (by rw [s.len]; exact getAll_mem h hn))
  have hlc : (lentL L ns).m.length = ns.length := by show (ns.map _).length = _; rw [List.length_map]
  obtain ⟨l, hm⟩ := e.m
  have hlow : ∀ j a, Lc.m[j]? = some a → a ∈ (lentL L ns).m → j < ns.length := fun j a hj ha => by
    obtain ⟨i, hi⟩ := List.getElem?_of_mem ha
    have hi' := (List.getElem?_eq_some_iff.mp hi).1
    have q : Lc.m[i]? = some a := by rw [hm, List.getElem?_append_left hi']; exact hi
    have ei : i = j := (List.getElem?_inj (List.getElem?_eq_some_iff.mp q).1 s'.nd).mp (q.trans hj.symm)
    omega
  have hfr : ∀ a ∈ L.m, frzF Lc H' ex a = none := fun a ha => by
    cases q : frzF Lc H' ex a with
    | none => rfl
    | some o =>
      exfalso
      have notnone : H a ≠ none := fun z => (sim_none s z).2 ha
      rcases frz_inv q with z | ⟨j, j1, j2, j3⟩
      · rcases e.newF a o z with y | y | y
        · rw [show (lentL L ns).F a = L.F a from rfl, s.fr a ha] at y; cases y
        · exact notnone y
        · rw [s'.fr a (e.sub a y)] at z; cases z
      · rcases e.new a (List.mem_of_getElem? j1) with y | y
        · rw [hx j (hlow j a j1 y)] at j2; cases j2
        · exact notnone y
  refine ⟨⟨fun a o z => frz_of s' (e.F a o z), ⟨extra, rfl⟩, fun a ha => ?_, fun a o z => ?_, fun a o z hn => e.keep a o z fun hc => hn (hsub a hc)⟩, ⟨frz_le s', ?_, ?_, fun a ha => ?_, fun n d a hn ha => ?_⟩⟩
  · rcases List.mem_append.mp (show a ∈ L.m ++ extra from ha) with z | z
    · exact .inl z
    · exact .inr (hex a z).1
  · have z' : frzF Lc H' ex a = some o := z
    rcases frz_inv z' with y | ⟨j, j1, j2, j3⟩
    · rcases e.newF a o y with x | x | x
      · exact .inl x
      · exact .inr (.inl x)
      · exact .inr (.inr (hsub a x))
    · rcases e.new a (List.mem_of_getElem? j1) with x | x
      · exact .inr (.inr (hsub a x))
      · exact .inr (.inl x)
  · show (L.m ++ extra).length = _
    rw [List.length_append, List.length_append, putBack_length, s.len, hadd]
  · show (L.m ++ extra).Nodup
    rw [List.nodup_append]
    exact ⟨s.nd, hnd, fun a ha b hb q => (sim_none s (q ▸ (hex b hb).1)).2 ha⟩
  · rcases List.mem_append.mp (show a ∈ L.m ++ extra from ha) with z | z
    · exact hfr a z
    · exact (hex a z).2
  · have ha' : (L.m ++ extra)[n]? = some a := ha
    by_cases hl : n < S.length
    · rw [List.getElem?_append_left (by rw [putBack_length]; exact hl)] at hn
      rw [List.getElem?_append_left (by rw [s.len]; exact hl)] at ha'
      have hlen' : (S'.take ns.length).length = ns.length := by
        rw [List.length_take]
        have : ns.length ≤ Lc.m.length := by rw [hm, List.length_append, hlc]; omega
        rw [s'.len] at this
        omega
      have hcl : ns.length = cs'.length := by rw [sealL_length hs, hlen']
      by_cases hmem : n ∈ ns
      · obtain ⟨i, hi⟩ := List.getElem?_of_mem hmem
        rw [putBack_in ns cs' S nd hcl (fun n hn => getAll_mem h hn) hi] at hn
        obtain ⟨d0, q1, q2⟩ := sealL_get hs hn
        have hil := (List.getElem?_eq_some_iff.mp hi).1
        rw [List.getElem?_take, if_pos hil] at q1
        have hma : Lc.m[i]? = some a := by
          rw [hm, List.getElem?_append_left (by rw [hlc]; exact hil)]
          show (ns.map fun n => L.m.getD n 0)[i]? = some a
          rw [List.getElem?_map, hi]
          have := getD_at (L := L) (n := n) (by rw [s.len]; exact hl)
          rw [ha'] at this
          exact congrArg some (Option.some.inj this).symm
        exact (seal_cell s' (fun n e a => cellF_rep s' fuelC n e a) (s'.cell i d0 a q1 hma) q2).1
      · rw [putBack_out ns cs' S hmem] at hn
        have hc := s.cell n d a hn ha'
        have hna : a ∉ (lentL L ns).m := fun hc => by
          obtain ⟨n', hn', q⟩ := List.mem_map.mp (show a ∈ ns.map fun n => L.m.getD n 0 from hc)
          have l1 : n' < L.m.length := by rw [s.len]; exact getAll_mem h hn'
          have := getD_at l1
          rw [q, ← ha'] at this
          have e' : n' = n := (List.getElem?_inj l1 s.nd).mp this
          exact hmem (e' ▸ hn')
        refine CellOk.mono (L := L) (L' := ⟨frzF Lc H' ex, L.m ++ extra⟩) ⟨fun a o z => frz_of s' (e.F a o z), fun n a z => ?_⟩ (fun o z => e.keep a o z hna) hc
        show (L.m ++ extra)[n]? = some a
        rw [List.getElem?_append_left (List.getElem?_eq_some_iff.mp z).1]
        exact z
    · rw [List.getElem?_append_right (by rw [putBack_length]; omega), putBack_length] at hn
      rw [List.getElem?_append_right (by rw [s.len]; omega), s.len] at ha'
      exact hcell _ d a hn ha'
theorem give_ok {L Lc : Lk} {S S' S2 : Store} {H H' : Hp} {ns : List Nat} {cs : List D} {d r : D} {v : V} (s : Sim G L S H) (nd : ns.Nodup) (h : getAll S ns = some cs) (e : Ext (lentL L ns) H Lc H') (s' : Sim G Lc S' H') (rp : Rep G Lc d v) (hg : giveBack ns S S' d = some (r, S2)) :
    ∃ L', Ext L H L' H' ∧ Sim G L' S2 H' ∧ Rep G L' r v := by
  have hlc : (lentL L ns).m.length = ns.length := by show (ns.map _).length = _; rw [List.length_map]
  obtain ⟨l, hm⟩ := e.m
  by_cases hd : ∃ j, d = .ref j
  · obtain ⟨j, rfl⟩ := hd
    simp only [Rep] at rp
    obtain ⟨a, ha, rfl⟩ := rp
    unfold giveBack at hg
    simp only at hg
    split at hg
    · rename_i n hn
      obtain ⟨cs', h1, h2⟩ := Option.map_eq_some_iff.mp hg
      cases h2
      obtain ⟨x1, x2⟩ := give_core s nd h e s' (ex := fun i => decide (i < ns.length)) (fun i hi => by simp [hi]) h1 [] [] rfl (fun a ha => by cases ha) List.nodup_nil (fun n d a q => by simp at q)
      simp only [List.append_nil] at x1 x2
      refine ⟨_, x1, x2, ?_⟩
      simp only [Rep]
      refine ⟨a, ?_, rfl⟩
      show L.m[n]? = some a
      have hjl := (List.getElem?_eq_some_iff.mp hn).1
      rw [hm, List.getElem?_append_left (by rw [hlc]; exact hjl)] at ha
      have ha' : (ns.map fun n => L.m.getD n 0)[j]? = some a := ha
      rw [List.getElem?_map, hn] at ha'
      have e' : L.m.getD n 0 = a := Option.some.inj ha'
      rw [← e']
      exact getD_at (by rw [s.len]; exact getAll_mem h (List.mem_of_getElem? hn))
    · rename_i hn
      obtain ⟨cs', h1, h2⟩ := Option.bind_eq_some_iff.mp hg
      obtain ⟨x, h3, h4⟩ := Option.bind_eq_some_iff.mp h2
      obtain ⟨y, h5, h6⟩ := Option.map_eq_some_iff.mp h4
      cases h6
      have hj : ns.length ≤ j := by
        rw [List.getElem?_eq_none_iff] at hn
        exact hn
      have hfresh : H a = none := by
        rcases e.new a (List.mem_of_getElem? ha) with z | z
        · exfalso
          obtain ⟨i, hi⟩ := List.getElem?_of_mem z
          have hi' := (List.getElem?_eq_some_iff.mp hi).1
          have q : Lc.m[i]? = some a := by rw [hm, List.getElem?_append_left hi']; exact hi
          have ei : i = j := (List.getElem?_inj (List.getElem?_eq_some_iff.mp q).1 s'.nd).mp (q.trans ha.symm)
          omega
        · exact z
      obtain ⟨x1, x2⟩ := give_core s nd h e s' (ex := fun i => decide (i < ns.length) || decide (i = j)) (fun i hi => by simp [hi]) h1 [a] [y] rfl
        (fun b hb => by
          rw [List.mem_singleton] at hb
          subst hb
          exact ⟨hfresh, frz_ex s' ha (by simp)⟩) (by simp) (fun n d b q1 q2 => by
          cases n with
          | succ n => simp at q1
          | zero =>
            have e1 : y = d := by simpa using q1
            have e2 : a = b := by simpa using q2
            subst e1 e2
            exact (seal_cell s' (fun n e a => cellF_rep s' fuelC n e a) (s'.cell j x a h3 ha) h5).1)
      refine ⟨_, x1, x2, ?_⟩
      simp only [Rep]
      refine ⟨a, ?_, rfl⟩
      show (L.m ++ [a])[S.length]? = some a
      rw [← s.len, List.getElem?_append_right (Nat.le_refl _), Nat.sub_self]
      rfl
  · have hg' : ((sealL (cellF S' (fun i => decide (i < ns.length)) fuelC) (S'.take ns.length)).bind fun cs =>
      (sealW (cellF S' (fun i => decide (i < ns.length)) fuelC) d).map fun e => (e, putBack ns cs S)) = some (r, S2) := by
      rw [← hg]
      cases d <;> first
        | (exact absurd ⟨_, rfl⟩ hd)
        | rfl
    obtain ⟨cs', h1, h2⟩ := Option.bind_eq_some_iff.mp hg'
    obtain ⟨y, h5, h6⟩ := Option.map_eq_some_iff.mp h2
    cases h6
    obtain ⟨x1, x2⟩ := give_core s nd h e s' (ex := fun i => decide (i < ns.length)) (fun i hi => by simp [hi]) h1 [] [] rfl (fun a ha => by cases ha) List.nodup_nil (fun n d a q => by simp at q)
    simp only [List.append_nil] at x1 x2
    exact ⟨_, x1, x2, seal_rep s' (fun n e a => cellF_rep s' fuelC n e a) d _ v rp h5⟩
end
end Pe
set_option Elab.async false
set_option linter.all false
set_option maxRecDepth 100000
set_option maxHeartbeats 4000000
/-! the table of defs -/
namespace Pe
open PySem PySem.Spec PyProof.Rows L2
structure Pd where
  np : Nat
  nl : Nat
  body : Sx
def outOf : Fl → Option D
  | .rt d => some d
  | .nx _ => some .non
  | _ => none
def startE (m : Nat) (ds : List D) : Env := ds.map some ++ List.replicate (m - ds.length) none
def ecOf (K : Nat) (call : Nat → List D → Store → Option (D × Store)) : Ec := ⟨call, fun _ => true, fun _ => none, fun _ _ => none, fun _ _ => none, K⟩
def callN (T : Nat → Option Pd) (K : Nat) : Nat → Nat → List D → Store → Option (D × Store)
  | 0 => fun _ _ _ => none
  | k + 1 => fun f ds S => (T f).bind fun p => if ds.length = p.np ∧ argsOk ds = true ∧ (lentOf ds).Nodup then
      (getAll S (lentOf ds)).bind fun cs => (p.body (ecOf K (callN T K k)) (startE p.nl (lendA 0 ds)) cs).bind fun q => (outOf q.1).bind fun d => giveBack (lentOf ds) S q.2 d
    else none
abbrev ecN (T : Nat → Option Pd) (K k : Nat) : Ec := ecOf K (callN T K k)
def spC (G : Gm) (c : Ec) (f : Nat) : Sp := fun vs H Q _ => ∃ L S ds r S', Sim G L S H ∧ RepL G L ds vs ∧ c.call f ds S = some (r, S') ∧ ∀ L' v H', Ext L H L' H' → Sim G L' S' H' → Rep G L' r v → Q v H'
theorem lendA_length : ∀ (i : Nat) (ds : List D), (lendA i ds).length = ds.length
  | _, [] => rfl
  | i, d :: ds => by
    cases d <;> (unfold lendA; rw [List.length_cons, List.length_cons, lendA_length])
theorem start_env {G : Gm} {L : Lk} {N : List Str} {ds : List D} {vs : List V} {m : Nat} (r : RepL G L ds vs) (hm : N.length = m) (hl : ds.length ≤ m) : EnvOk G L (startE m ds) (L2.start N vs) := by
  have hv := repL_length r
  refine ⟨?_, fun i d q => ?_⟩
  · unfold startE L2.start
    rw [List.length_append, List.length_append, List.length_map, List.length_map, List.length_replicate, List.length_replicate, hv, hm]
  · unfold startE at q
    unfold L2.start
    by_cases h : i < ds.length
    · rw [List.getElem?_append_left (by rw [List.length_map]; exact h), List.getElem?_map] at q
      obtain ⟨d', q1, q2⟩ := Option.map_eq_some_iff.mp q
      cases q2
      obtain ⟨v, v1, v2⟩ := repL_get r q1
      refine ⟨v, ?_, v2⟩
      rw [List.getElem?_append_left (by rw [List.length_map, ← hv]; exact h), List.getElem?_map, v1]
      rfl
    · rw [List.getElem?_append_right (by rw [List.length_map]; omega), List.getElem?_replicate] at q
      split at q <;> cases q
section
variable {P : Program} {w : World} {K : PySem.W.Frag} {mg : Str → Option Value} {base : Heap} {G : Gm} {T : Nat → Option Pd} {Kf : Nat}
/-- one def more deep -/
theorem fn_step {f np nl k : Nat} {body : Sx} {x qual : Str} {params : Arguments} {sts : List Stmt} {scope : Scope} {fd : FuncData} {N ps : List Str} (hT : T f = some ⟨np, nl, body⟩) (F : FunD K x qual params sts scope [] [] (G.fn f) fd) (S : FnScope N ps scope)
    (hps : ps.length = np) (hN : N.length = nl)
    (walk : ∀ (cdv : Value) (A : Around) (outer : List PySem.Env) (s : Shared) (H : Hp) (E : XK), Room k (A.deeper (envOfC qual scope s.heap.objs.size (G.fn f) cdv)) → PSs (cxOf CX0 P w K mg base N qual scope (G.fn f) cdv A outer s H E).nox sts (tS G (ecN T Kf k) body)) :
    FnOk P w K mg base CX0 (k + 1) (G.fn f) fd ps (spC G (ecN T Kf (k + 1)) f) := by
  refine F.ok S (fun vs H Q E h => ?_) (fun cdv A outer s H vs Q E hr h => ⟨tS G (ecN T Kf k) body, PSs.nox (walk cdv A outer s H E hr), ?_⟩)
  · obtain ⟨L, S0, ds, r, S', hs, hr, hc, _⟩ := h
    have hc' : callN T Kf (k + 1) f ds S0 = some (r, S') := hc
    unfold callN at hc'
    rw [hT] at hc'
    simp only [Option.bind_some] at hc'
    split at hc'
    · rename_i g
      rw [← repL_length hr, g.1, hps]
    · cases hc'
  · obtain ⟨L, S0, ds, r, S', hs, hr, hc, hQ⟩ := h
    have hc' : callN T Kf (k + 1) f ds S0 = some (r, S') := hc
    unfold callN at hc'
    rw [hT] at hc'
    simp only [Option.bind_some] at hc'
    split at hc'
    · rename_i g
      obtain ⟨g1, g2, g3⟩ := g
      obtain ⟨cs, h1, h2⟩ := Option.bind_eq_some_iff.mp hc'
      obtain ⟨⟨fl, S1⟩, h3, h4⟩ := Option.bind_eq_some_iff.mp h2
      obtain ⟨d, h5, h6⟩ := Option.bind_eq_some_iff.mp h4
      have s1 := lent_sim hs g3 h1
      have ra : RepL G (lentL L (lentOf ds)) (lendA 0 ds) vs := lend_args (L := L) (L2 := lentL L (lentOf ds)) rfl ds vs 0 hr g2 fun t n q => by
        have hn : n < L.m.length := by rw [hs.len]; exact getAll_mem h1 (List.mem_of_getElem? q)
        refine ⟨_, getD_at hn, ?_⟩
        show ((lentOf ds).map fun n => L.m.getD n 0)[0 + t]? = _
        rw [Nat.zero_add, List.getElem?_map, q]
        rfl
      have hlen : (lendA 0 ds).length ≤ N.length := by
        rw [lendA_length, g1, ← hps]
        have := S.pre
        rw [← this, List.length_take]
        omega
      refine ⟨_, _, cs, fl, S1, start_env ra hN (by rw [← hN]; exact hlen), s1, h3, ?_⟩
      cases fl with
      | nx env =>
        have e : D.non = d := Option.some.inj h5
        subst e
        exact fun L' σ' H' e' s' _ => by
          obtain ⟨L2, x1, x2, x3⟩ := give_ok (v := .non) hs g3 h1 e' s' (by simp [Rep]) h6
          exact hQ L2 .non H' x1 x2 x3
      | rt d' =>
        have e : d' = d := Option.some.inj h5
        subst e
        exact fun L' v H' e' s' rp => by
          obtain ⟨L2, x1, x2, x3⟩ := give_ok hs g3 h1 e' s' rp h6
          exact hQ L2 v H' x1 x2 x3
      | bk env => cases h5
      | ct env => cases h5
    · cases hc'
/-- a def at hand -/
structure Fc (P : Program) (w : World) (K : PySem.W.Frag) (mg : Str → Option Value) (base : Heap) (G : Gm) (c : Ec) (k f : Nat) (x : Str) : Prop where
  ex : ∃ (fd : FuncData) (ps : List Str), FnOk P w K mg base CX0 k (G.fn f) fd ps (spC G c f) ∧ Binds K fd ps []
  mg : mg x = some (.ref (G.fn f))
  kp : PySem.W.keepIn K (.ref (G.fn f)) = true
  dbg : (x == ("__debug__" : Str)) = false
end
def eCall (f : Nat) (a : Ax) : Ex := fun c env S => (a c env S).bind fun p => c.call f p.1 p.2
def aNone : Ax := fun _ _ S => some ([], S)
section
variable {X : Cx} {G : Gm} {c : Ec}
theorem call_imp {f : Nat} {a : Ax} {σ : L2.St} {H : Hp} {Q : VK} (h : tE G c (eCall f a) σ H Q) : tCall (spC G c f) [] E0 (tA G c a) σ H Q := by
  obtain ⟨L, env, S, d, S', he, hs, hE, k⟩ := h
  unfold eCall at hE
  obtain ⟨⟨ds, S1⟩, hA, h2⟩ := Option.bind_eq_some_iff.mp hE
  clear hE
  refine ⟨L, env, S, ds, S1, he, hs, hA, fun L1 vs H1 e1 s1 r1 => ?_⟩
  exact ⟨L1, S1, ds, d, S', s1, by rw [List.append_nil]; exact r1, h2, fun L2 v H2 e2 s2 r2 => k L2 v H2 (e1.trans e2) s2 r2⟩
theorem e_call {f k : Nat} {x : Str} {e : Expr} {es : List Expr} {a : Ax} {p pos : Pos} (F : Fc X.prog X.w X.K X.mg X.base G c k f x) (hr : Room k X.A) (hg : Gl X x)
    (ha : PA X (e :: es) (tA G c a)) (he : starEach (e :: es) X.env = (false, eval e X.env) :: starEach es X.env) (hpl : (backTo pos (starEach es X.env)).any (·.1) = false) :
    PE X (.Call (.Name x p) (e :: es) [] pos) (tE G c (eCall f a)) := by
  obtain ⟨fd, ps, F1, F2⟩ := F.ex
  exact (pe_call F1 hr hg F.mg F.kp F2 .nil pass0 ha F.dbg he hpl).imp fun _ _ _ _ _ _ h => call_imp h
theorem e_call0 {f k : Nat} {x : Str} {p pos : Pos} (F : Fc X.prog X.w X.K X.mg X.base G c k f x) (hr : Room k X.A) (hg : Gl X x) :
    PE X (.Call (.Name x p) [] [] pos) (tE G c (eCall f aNone)) := by
  obtain ⟨fd, ps, F1, F2⟩ := F.ex
  refine (pe_call0 F1 hr hg F.mg F.kp F2 .nil pass0 F.dbg).imp fun _ _ _ _ _ _ h => ?_
  obtain ⟨L, env, S, d, S', he, hs, hE, k⟩ := h
  exact ⟨L, S, [], d, S', hs, by simp [RepL], hE, k⟩
end
end Pe
set_option Elab.async false
set_option linter.all false
set_option maxRecDepth 100000
set_option maxHeartbeats 4000000
/-! comprehensions, isinstance, methods of lists, list(range) -/
namespace Pe
open PySem PySem.Spec PyProof.Rows L2
section
variable {X : Cx} {G : Gm} {c : Ec}
def tYesX : Tx := fun _ _ S => some (true, S)
theorem ts_nil : PTs X [] (tT G c tYesX) := ⟨fun pins s σ H Q I ⟨L, env, S, b, S', he, hs, hE, k⟩ => by
  cases hE
  exact pts_nil.run pins s σ H Q I (k L H (.refl L H) hs)⟩
theorem ts_one {e : Expr} {T : Tx} (h : PT X e (tT G c T)) : PTs X [e] (tT G c T) := pts_one h
theorem e_lc {elt tg iter : Expr} {ifs : List Expr} {scope : Scope} {own : List (Str × Nat)} {pos : Pos} {it : Ix} {vs : List Nat} {g : Gx} {t : Tx} {e : Ex} (hc : X.calm = true) (hN : X.N.Nodup) (hi : PI X tg iter (tI G c it)) (ok : BlkOk X.N X.env.scope scope own) (hv : own.map (·.2) = vs)
    (hg : ∀ (s : Shared) (H : Hp) (C : Addr) (cl : List (Str × Addr)) (fp : List Addr), PG (X.blk s H scope (compEnvC scope cl C X.env) fp) tg (gW G c vs g))
    (ht : ∀ (s : Shared) (H : Hp) (C : Addr) (cl : List (Str × Addr)) (fp : List Addr), PTs (X.blk s H scope (compEnvC scope cl C X.env) fp) ifs (tT G c t))
    (he : ∀ (s : Shared) (H : Hp) (C : Addr) (cl : List (Str × Addr)) (fp : List Addr), PE (X.blk s H scope (compEnvC scope cl C X.env) fp) elt (tE G c e)) (hs : ∀ x, foldedSetIterable iter X.env x = pure x) :
    PE X (.ListComp elt [⟨tg, iter, ifs, 0⟩] scope pos) (tE G c (eLc it vs g t e)) := by
  subst hv
  exact (pe_lc hc hN hi ok hg ht he hs).imp fun _ _ _ _ _ _ h => lc_imp h
theorem s_setLc {i : Nat} {y : Str} {py : Pos} {elt tg iter : Expr} {ifs : List Expr} {scope : Scope} {own : List (Str × Nat)} {pos spos : Pos} {it : Ix} {vs : List Nat} {g : Gx} {t : Tx} {e : Ex} (hc : X.calm = true) (hN : X.N.Nodup) (hy : X.N[i]? = some y) (hyl : X.env.scope.names.lookup y = some .local)
    (hsw : swapsWith (.ListComp elt [⟨tg, iter, ifs, 0⟩] scope pos) (some (.Name y py)) spos.line X.env = pure true) (hi : PI X tg iter (tI G c it)) (ok : BlkOk X.N X.env.scope scope own) (hv : own.map (·.2) = vs)
    (hg : ∀ (s : Shared) (H : Hp) (C : Addr) (cl : List (Str × Addr)) (fp : List Addr), PG (X.blk s H scope (compEnvC scope cl C X.env) fp) tg (gW G c vs g))
    (ht : ∀ (s : Shared) (H : Hp) (C : Addr) (cl : List (Str × Addr)) (fp : List Addr), PTs (X.blk s H scope (compEnvC scope cl C X.env) fp) ifs (tT G c t))
    (he : ∀ (s : Shared) (H : Hp) (C : Addr) (cl : List (Str × Addr)) (fp : List Addr), PE (X.blk s H scope (compEnvC scope cl C X.env) fp) elt (tE G c e)) (hs : ∀ x, foldedSetIterable iter X.env x = pure x) :
    PS X (.Assign [.Name y py] (.ListComp elt [⟨tg, iter, ifs, 0⟩] scope pos) spos) (tS G c (sAsg (eLc it vs g t e) (gNm i))) := by
  subst hv
  refine (ps_setLc hc hN hy hyl hsw hi ok hg ht he hs).imp fun Ds σ H h => ?_
  obtain ⟨L, env, S, f, S', he, hs, hE, k⟩ := h
  unfold sAsg gNm at hE
  obtain ⟨⟨d, S1⟩, hA, h2⟩ := Option.bind_eq_some_iff.mp hE
  obtain ⟨⟨env1, S2⟩, hB, h3⟩ := Option.map_eq_some_iff.mp h2
  cases h3
  cases hB
  exact lc_imp ⟨L, env, S, d, S1, he, hs, hA, fun L1 v H1 e1 s1 r1 => k L1 _ H1 e1 s1 ((he.mono e1.le).set r1)⟩

/-! ### isinstance(x, T) -/
inductive Ty where
  | non | bl | int | str | tup | lst | dct
deriving DecidableEq
def Ty.nm : Ty → String
  | .non => "NoneType"
  | .bl => "bool"
  | .int => "int"
  | .str => "str"
  | .tup => "tuple"
  | .lst => "list"
  | .dct => "dict"
def isTy (a b : Ty) : Bool := decide (a = b) || (decide (a = .bl) && decide (b = .int))
theorem isTy_ok : ∀ (a b : Ty), b ≠ .non → kitB a.nm b.nm = some (isTy a b) := by
  intro a b h
  cases b <;> first
    | (exact absurd rfl h)
    | (cases a <;> decide +kernel)
def tyD (S : Store) (d : D) : Option Ty := match d with
  | .non => some .non
  | .bl _ => some .bl
  | .int _ => some .int
  | .str _ => some .str
  | .tup _ => some .tup
  | .lst _ => some .lst
  | .scr _ => some .lst
  | .dct false _ _ => some .dct
  | .ref n => match S[n]? with
    | some (.lst _) => some .lst
    | some (.dct _ _ _) => some .dct
    | _ => none
  | _ => none
theorem tyX_sqt {K : PySem.W.Frag} {H : Hp} {a : Addr} {vs : List V} (t : SqT K H a vs) : TyX K H (.ref a) (.type "tuple") := by
  rcases t with (t | ⟨ob, t⟩) | ⟨o, its, n, e1, e2, _⟩
  · exact .base (.tup t)
  · exact .fTuple t
  · exact .kTuple e1 e2
theorem tyX_sql {K : PySem.W.Frag} {H : Hp} {a : Addr} {vs : List V} (t : SqL K H a vs) : TyX K H (.ref a) (.type "list") := by
  rcases t with (t | ⟨ob, t⟩) | ⟨o, its, n, e1, e2, _⟩
  · exact .base (.lst t)
  · exact .base (.frz t)
  · exact .kList e1 e2
theorem tyD_rep {L : Lk} {S : Store} {H : Hp} {d : D} {v : V} {t : Ty} (hK : G.K = X.K) (s : Sim G L S H) (r : Rep G L d v) (h : tyD S d = some t) : TyX X.K H v (.type t.nm) := by
  have frz_d : ∀ (a : Addr) (tt : Bool) (ks : List (List (Int ⊕ Cs))) (vs : List V), DctAt L.F a tt ks vs → ∀ e : tt = false, TyX X.K H (.ref a) (.type "dict") := fun a tt ks vs q e => by
    subst e
    obtain ⟨kvs, q1, _⟩ := q
    rcases s.le _ _ q1 with z | ⟨_, ob, z⟩
    · exact .base (.dK z)
    · exact .fDict z
  unfold tyD at h
  cases d with
  | non => cases h; rw [rep_non r]; exact .base .non
  | bl b => cases h; rw [rep_bl r]; exact .base (.bl b)
  | int i => cases h; rw [rep_int r]; exact .base (.int i)
  | str x => cases h; rw [(rep_str r).1]; exact .base (.str _)
  | tup xs =>
    cases h
    obtain ⟨a, vs, rfl, t, _⟩ := rep_seqT hK s r rfl
    exact tyX_sqt t
  | lst xs =>
    cases h
    obtain ⟨a, vs, rfl, t, _⟩ := rep_seqL hK s r (xs := xs) rfl
    exact tyX_sql t
  | scr xs =>
    cases h
    obtain ⟨a, vs, rfl, t, _⟩ := rep_seqL hK s r (xs := xs) rfl
    exact tyX_sql t
  | dct tt ks xs =>
    cases tt with
    | false =>
      cases h
      simp only [Rep] at r
      obtain ⟨a, vs, rfl, q, _⟩ := r
      exact frz_d a _ _ _ q rfl
    | true => cases h
  | ins cc is xs => cases h
  | fn f => cases h
  | ref n =>
    simp only [Rep] at r
    obtain ⟨a, ha, rfl⟩ := r
    have h' : (match S[n]? with
      | some (.lst _) => some Ty.lst
      | some (.dct _ _ _) => some .dct
      | _ => none) = some t := h
    cases q : S[n]? with
    | none => rw [q] at h'; cases h'
    | some d =>
      rw [q] at h'
      have c0 := s.cell n d a q ha
      cases d with
      | lst xs => cases h'; obtain ⟨vs, c1, _⟩ := c0; exact .base (.lst c1)
      | dct tt ks xs =>
        cases h'
        obtain ⟨vs, c1, _⟩ := c0
        cases tt with
        | false => obtain ⟨kvs, q1, _⟩ := c1; exact .base (.dK q1)
        | true => obtain ⟨kvs, q1, _⟩ := c1; exact .base (.dT q1)
      | _ => cases h'
def eIsi (T : Ty) (e : Ex) : Ex := fun c env S => (e c env S).bind fun p => (tyD p.2 p.1).map fun t => (.bl (isTy t T), p.2)
theorem e_isi {e : Expr} {E : Ex} {y : Str} {T : Ty} {p q pos : Pos} (hK : G.K = X.K) (hT : T ≠ .non) (hg : Gl X "isinstance") (hm : X.mg "isinstance" = none) (hg2 : Gl X y) (hm2 : X.mg y = none) (hv : bootBuiltins y = some (.type T.nm)) (hn : y ≠ "__name__") (hd : (y == ("__debug__" : Str)) = false)
    (he : PE X e (tE G c E)) (hs : starEach [e, .Name y q] X.env = (false, eval e X.env) :: starEach [.Name y q] X.env) (hs2 : starEach [.Name y q] X.env = (false, eval (.Name y q) X.env) :: starEach [] X.env) (hpl : (backTo pos (starEach [.Name y q] X.env)).any (·.1) = false) :
    PE X (.Call (.Name "isinstance" p) [e, .Name y q] [] pos) (tE G c (eIsi T E)) := by
  refine (pe_callB call_isi hg hm boot_isinstance (pa_cons he (pa_cons (pe_bltn (v := .ty T.nm) hg2 hm2 hv rfl hn hd) pa_nil hs2) hs) (by decide) (by decide) hs hpl).imp fun pins s σ H Q I ⟨L, env, S, d, S', heq, hs, hE, k⟩ => ?_
  unfold eIsi at hE
  obtain ⟨⟨x, S1⟩, hA, h2⟩ := Option.bind_eq_some_iff.mp hE
  obtain ⟨t, h3, h4⟩ := Option.map_eq_some_iff.mp h2
  cases h4
  refine ⟨L, env, S, x, S1, heq, hs, hA, fun L1 v H1 e1 s1 r1 => ?_⟩
  exact ⟨v, .ty T.nm, .type t.nm, .type T.nm, isTy t T, rfl, .ty _, tyD_rep hK s1 r1 h3, kit_ty (isTy_ok t T hT), k L1 _ H1 e1 s1 rep_of_bl⟩

/-! ### methods of built-in types -/
abbrev OpM := D → List D → Store → Option (D × Store)
def eMt (o : Ex) (a : Ax) (g : Store → D → Bool) (m : OpM) : Ex := fun c env S => (o c env S).bind fun p => if g p.2 p.1 = true then (a c env p.2).bind fun q => m p.1 q.1 q.2 else none
def rM (G : Gm) (m : OpM) : V → List V → Hp → VK → Prop := fun x xs H Q => ∃ L S d ds z S', Sim G L S H ∧ Rep G L d x ∧ RepL G L ds xs ∧ m d ds S = some (z, S') ∧ ∀ L' v H', Ext L H L' H' → Sim G L' S' H' → Rep G L' z v → Q v H'
theorem mt_imp {o : Ex} {a : Ax} {g : Store → D → Bool} {m : OpM} {T : String} {K : PySem.W.Frag} {σ : L2.St} {H : Hp} {Q : VK} (hty : ∀ L S H d v, Sim G L S H → Rep G L d v → g S d = true → tyV K T v H) (h : tE G c (eMt o a g m) σ H Q) : tBM K T (rM G m) (tE G c o) (tA G c a) σ H Q := by
  obtain ⟨L, env, S, d, S', heq, hs, hE, k⟩ := h
  unfold eMt at hE
  obtain ⟨⟨x, S1⟩, hA, h2⟩ := Option.bind_eq_some_iff.mp hE
  clear hE
  split at h2
  · rename_i hg
    obtain ⟨⟨ds, S2⟩, hB, h3⟩ := Option.bind_eq_some_iff.mp h2
    clear h2
    refine ⟨L, env, S, x, S1, heq, hs, hA, fun L1 v H1 e1 s1 r1 => ⟨hty L1 S1 H1 x v s1 r1 hg, L1, env, S1, ds, S2, heq.mono e1.le, s1, hB, fun L2 vs H2 e2 s2 r2 => ?_⟩⟩
    exact ⟨L2, S2, x, ds, d, S', s2, r1.mono e2.le, r2, h3, fun L3 w H3 e3 s3 r3 => k L3 w H3 ((e1.trans e2).trans e3) s3 r3⟩
  · cases h2
def isLst (S : Store) (d : D) : Bool := (seqL S d).isSome
theorem ty_lst (hK : G.K = X.K) (L : Lk) (S : Store) (H : Hp) (d : D) (v : V) (s : Sim G L S H) (r : Rep G L d v) (h : isLst S d = true) : tyV X.K "list" v H := by
  obtain ⟨xs, h0⟩ := Option.isSome_iff_exists.mp h
  obtain ⟨a, vs, rfl, t, _⟩ := rep_seqL hK s r h0
  exact .inl ⟨rfl, vs, t⟩
def mApp : OpM := fun d ds S => match d, ds with
  | .ref n, [y] => match S[n]? with
    | some (.lst xs) => if xs.length < 2 ^ 24 then some (.non, S.set n (.lst (xs ++ [y]))) else none
    | _ => none
  | _, _ => none
theorem mt_mApp : MtR X "list.append" (rM G mApp) := by
  intro pins s σ H x xs v us Q I rx rxs h
  obtain ⟨L, S, d, ds, z, S', hs, r1, r2, hE, k⟩ := h
  unfold mApp at hE
  split at hE
  · split at hE
    · rename_i n y _ ys h0
      split at hE
      · rename_i hz
        cases hE
        obtain ⟨w, rfl, r3⟩ := rep_one r2
        simp only [Rep] at r1
        obtain ⟨a, ha, rfl⟩ := r1
        obtain ⟨vs, c1, c2⟩ := hs.cell n _ a h0 ha
        have hc : CellOk G L (upd H a (.lst (vs ++ [w]))) a (.lst (ys ++ [y])) := ⟨_, upd_same, repL_append c2 (repL_one r3)⟩
        obtain ⟨s1, x1⟩ := sim_set hs ha hc
        exact mt_append pins s σ H _ _ v us Q I rx rxs ⟨a, vs, w, rfl, rfl, c1, by rw [← repL_length c2]; exact hz, k L .non _ x1 s1 rep_of_non⟩
      · cases hE
    · cases hE
  · cases hE
def mExt : OpM := fun d ds S => match d, ds with
  | .ref n, [y] => match S[n]?, seqM S y with
    | some (.lst xs), some ys => if xs.length + ys.length ≤ 2 ^ 24 then some (.non, S.set n (.lst (xs ++ ys))) else none
    | _, _ => none
  | _, _ => none
theorem mt_mExt : MtR X "list.extend" (rM G mExt) := by
  intro pins s σ H x xs v us Q I rx rxs h
  obtain ⟨L, S, d, ds, z, S', hs, r1, r2, hE, k⟩ := h
  unfold mExt at hE
  split at hE
  · split at hE
    · rename_i n y _ _ ys zs h0 h1
      split at hE
      · rename_i hz
        cases hE
        obtain ⟨w, rfl, r3⟩ := rep_one r2
        obtain ⟨b, us', rfl, b1, b2⟩ := rep_seqM hs r3 h1
        simp only [Rep] at r1
        obtain ⟨a, ha, rfl⟩ := r1
        obtain ⟨vs, c1, c2⟩ := hs.cell n _ a h0 ha
        have hc : CellOk G L (upd H a (.lst (vs ++ us'))) a (.lst (ys ++ zs)) := ⟨_, upd_same, repL_append c2 b2⟩
        obtain ⟨s1, x1⟩ := sim_set hs ha hc
        exact mt_extend pins s σ H _ _ v us Q I rx rxs ⟨a, b, vs, us', rfl, rfl, c1, b1, by rw [← repL_length c2, ← repL_length b2]; exact hz, k L .non _ x1 s1 rep_of_non⟩
      · cases hE
    · cases hE
  · cases hE
theorem e_app {o e : Expr} {O : Ex} {A : Ax} {apos cpos : Pos} (hK : G.K = X.K) (ho : PE X o (tE G c O)) (ha : PA X [e] (tA G c A))
    (hbase : attributeBase o "append" X.env (eval o X.env) = eval o X.env)
    (hfew : ((backTo cpos (starEach [e] X.env)).all (fun x => !x.1) && (backToKw cpos (keywordEach [] X.env)).all (fun x => x.1.isSome)
      && decide ([e].length + ([] : List Keyword).length + (if ([] : List Keyword).isEmpty then 0 else 1) < 30)) = true)
    (hline : (apos.endLine == cpos.line) = true) (hs : starEach [e] X.env = (false, eval e X.env) :: starEach [] X.env) (hplain : (backTo cpos (starEach [] X.env)).any (·.1) = false) :
    PE X (.Call (.Attribute o "append" apos) [e] [] cpos) (tE G c (eMt O A isLst mApp)) :=
  (pe_bm PySem.F.plainAttrs_list PySem.F.slot_list_append PySem.F.type_list_append mt_mApp ho ha hbase hfew hline hs hplain).imp fun _ _ _ _ _ _ h => mt_imp (ty_lst hK) h
theorem e_ext {o e : Expr} {O : Ex} {A : Ax} {apos cpos : Pos} (hK : G.K = X.K) (ho : PE X o (tE G c O)) (ha : PA X [e] (tA G c A))
    (hbase : attributeBase o "extend" X.env (eval o X.env) = eval o X.env)
    (hfew : ((backTo cpos (starEach [e] X.env)).all (fun x => !x.1) && (backToKw cpos (keywordEach [] X.env)).all (fun x => x.1.isSome)
      && decide ([e].length + ([] : List Keyword).length + (if ([] : List Keyword).isEmpty then 0 else 1) < 30)) = true)
    (hline : (apos.endLine == cpos.line) = true) (hs : starEach [e] X.env = (false, eval e X.env) :: starEach [] X.env) (hplain : (backTo cpos (starEach [] X.env)).any (·.1) = false) :
    PE X (.Call (.Attribute o "extend" apos) [e] [] cpos) (tE G c (eMt O A isLst mExt)) :=
  (pe_bm PySem.F.plainAttrs_list PySem.F.slot_list_extend PySem.F.type_list_extend mt_mExt ho ha hbase hfew hline hs hplain).imp fun _ _ _ _ _ _ h => mt_imp (ty_lst hK) h

/-! ### list(range(..)) -/
theorem rg_rep {L : Lk} (a b : Int) : RepL G L (rngItems a 1 (b - a).toNat) (rgV a b) := by
  unfold rngItems rgV
  generalize List.range (b - a).toNat = l
  induction l with
  | nil => simp [RepL]
  | cons i l ih =>
    rw [List.map_cons, List.map_cons]
    refine repL_cons ?_ ih
    rw [Int.mul_one]
    exact rep_of_int
def eLRg1 (a : Ex) : Ex := fun c env S => (a c env S).bind fun p => match p.1 with
  | .int j => if inR j = true ∧ j.toNat ≤ 2 ^ 24 then some (.ref p.2.length, p.2 ++ [.lst (rngItems 0 1 j.toNat)]) else none
  | _ => none
theorem e_lrg1 {a : Expr} {A : Ex} {p p2 q pos : Pos} (hc : X.calm = true) (hg : Gl X "list") (hm : X.mg "list" = none) (hg2 : Gl X "range") (hm2 : X.mg "range" = none) (ha : PE X a (tE G c A))
    (na2 : starEach [a] X.env = (false, eval a X.env) :: starEach [] X.env) (na : starEach [.Call (.Name "range" p2) [a] [] q] X.env = (false, eval (.Call (.Name "range" p2) [a] [] q) X.env) :: starEach [] X.env) :
    PE X (.Call (.Name "list" p) [.Call (.Name "range" p2) [a] [] q] [] pos) (tE G c (eLRg1 A)) :=
  (pe_listRg hc hg hm (prg_1 hg2 hm2 ha na2) na).imp fun pins s σ H Q I ⟨L, env, S, d, S', heq, hs, hE, k⟩ => by
    unfold eLRg1 at hE
    obtain ⟨⟨x, S1⟩, hA, h2⟩ := Option.bind_eq_some_iff.mp hE
    clear hE
    refine ⟨L, env, S, x, S1, heq, hs, hA, fun L1 v H1 e1 s1 r1 => ?_⟩
    split at h2
    · rename_i j e
      have e' : x = .int j := e
      subst e'
      split at h2
      · rename_i hj
        cases h2
        rw [rep_int r1]
        refine ⟨j, rfl, ⟨by omega, by omega, (inR_of hj.1).1, (inR_of hj.1).2, by rw [Int.sub_zero]; exact hj.2⟩, fun q hq => ?_⟩
        obtain ⟨L2, e2, s2, r2⟩ := new_lst s1 (rg_rep 0 j) hq
        rw [Int.sub_zero] at s2
        exact k L2 _ _ (e1.trans e2) s2 r2
      · cases h2
    · cases h2
end
end Pe
set_option Elab.async false
set_option linter.all false
set_option maxRecDepth 100000
set_option maxHeartbeats 4000000
/-! short words for the printed walks -/
namespace Pe
open PySem PySem.Spec PyProof.Rows L2
/-! two names at once -/
def sPar (i j : Nat) (a : Ax) : Sx := fun c env S => (a c env S).bind fun p => match p.1 with
  | [d, e] => some (.nx ((env.set i (some d)).set j (some e)), p.2)
  | _ => none
section
variable {X : Cx} {G : Gm} {c : Ec}
theorem s_par {i j : Nat} {x y : Str} {a b : Expr} {A : Ax} {px py pt : Pos} {kt k2 pt2} {pos : Pos} (hc : X.calm = true) (hN : X.N.Nodup) (hi : X.N[i]? = some x) (hj : X.N[j]? = some y) (hij : i ≠ j)
    (hx : X.env.scope.names.lookup x = some .local) (hy : X.env.scope.names.lookup y = some .local) (ha : PA X [a, b] (tA G c A))
    (hw : swappedStores [.Tuple [.Name x px, .Name y py] kt pt] (.Tuple [a, b] k2 pt2) X.env = pure (some [x, y]))
    (hs : swapsWithSole [.Tuple [.Name x px, .Name y py] kt pt] (.Tuple [a, b] k2 pt2) pos.line X.env = pure false) :
    PS X (.Assign [.Tuple [.Name x px, .Name y py] kt pt] (.Tuple [a, b] k2 pt2) pos) (tS G c (sPar i j A)) :=
  (ps_par hc hN hi hj hij hx hy ha hw hs).imp fun Ds σ H ⟨L, env, S, f, S', he, hs, hE, k⟩ => by
    unfold sPar at hE
    obtain ⟨⟨ds, S1⟩, hA, h2⟩ := Option.bind_eq_some_iff.mp hE
    clear hE
    refine ⟨L, env, S, ds, S1, he, hs, hA, fun L1 vs H1 e1 s1 r1 => ?_⟩
    split at h2
    · rename_i d e q
      have q' : ds = [d, e] := q
      subst q'
      cases h2
      obtain ⟨v, w, rfl, r2, r3⟩ := rep_two r1
      exact ⟨v, w, rfl, k L1 _ H1 e1 s1 (((he.mono e1.le).set r2).set r3)⟩
    · cases h2
theorem e_chain {op op' : CmpOp} {o o' : Op2} {a b d : Expr} {A B C : Ex} {pos : Pos} (ho : OpR X (compareOp op) (rO G o)) (ho' : OpR X (compareOp op') (rO G o')) (ha : PE X a (tE G c A)) (hb : PE X b (tE G c B)) (hd : PE X d (tE G c C))
    (hm : lastMarks [op, op'] [b, d] = false) : PE X (.Compare a [op, op'] [b, d] pos) (tE G c (eChain o o' A B C)) := (pe_chain ho ho' ha hb hd hm).imp fun _ _ _ _ _ _ h => chain_imp h
theorem chain_bl {o o' : Op2} {A B C : Ex} {env : Env} {S S' : Store} {z : D} (hbo : BoolO o') (h : eChain o o' A B C c env S = some (z, S')) : ∃ t, z = .bl t := by
  unfold eChain at h
  obtain ⟨_, _, h⟩ := Option.bind_eq_some_iff.mp h
  obtain ⟨_, _, h⟩ := Option.bind_eq_some_iff.mp h
  obtain ⟨_, _, h⟩ := Option.bind_eq_some_iff.mp h
  split at h
  · obtain ⟨_, _, h⟩ := Option.bind_eq_some_iff.mp h
    exact hbo _ _ _ _ _ h
  · cases h
    exact ⟨_, rfl⟩
  · cases h
theorem t_chain {op op' : CmpOp} {o o' : Op2} {a b d : Expr} {A B C : Ex} {pos : Pos} (ho : OpR X (compareOp op) (rO G o)) (ho' : OpR X (compareOp op') (rO G o')) (hbo : BoolO o') (ha : PE X a (tE G c A)) (hb : PE X b (tE G c B)) (hd : PE X d (tE G c C))
    (hm : lastMarks [op, op'] [b, d] = false) : PT X (.Compare a [op, op'] [b, d] pos) (tT G c (tOfE (eChain o o' A B C))) :=
  (pt_chain ho ho' ha hb hd hm).imp fun pins s σ H Q I ⟨L, env, S, b', S', heq, hs, hE, k⟩ => by
    unfold tOfE at hE
    obtain ⟨⟨d, S1⟩, h1, hE⟩ := Option.bind_eq_some_iff.mp hE
    obtain ⟨t, h2, h3⟩ := Option.map_eq_some_iff.mp hE
    cases h3
    obtain ⟨t', rfl⟩ := chain_bl hbo h1
    have e2 : t' = b' := Option.some.inj h2
    subst e2
    refine chain_imp ⟨L, env, S, _, S1, heq, hs, h1, fun L1 x H1 e1 s1 r1 => ?_⟩
    exact ⟨t', rep_bl r1, k L1 H1 e1 s1⟩
theorem op_oIn (hK : G.K = X.K) : OpR X (compareOp .In) (rO G (oInX false)) := op_oInX hK false
theorem op_oNin (hK : G.K = X.K) : OpR X (compareOp .NotIn) (rO G (oInX true)) := op_oInX hK true
theorem op_oIsY : OpR X (compareOp .Is) (rO G (oIs false)) := op_oIs false
theorem op_oIsN : OpR X (compareOp .IsNot) (rO G (oIs true)) := op_oIs true

/-! ### with their side conditions -/
def blkB (N : List Str) (sc scope : Scope) (own : List (Str × Nat)) : Bool :=
  scope.names.all (fun y => scope.names.lookup y.1 == some y.2) && (own.all (fun p => N[p.2]? == some p.1) &&
    (scope.names.all (fun y => !(y.2 == .free) || (sc.names.lookup y.1 == some .cell || sc.names.lookup y.1 == some .free)) &&
      scope.names.all (fun y => !(y.2 == .local || y.2 == .cell) || ((own.map (·.1)).contains y.1 || !N.contains y.1))))
theorem blk_ok {N : List Str} {sc scope : Scope} {own : List (Str × Nat)} (hk : scope.kind = .function) (h : blkB N sc scope own = true) : BlkOk N sc scope own := by
  unfold blkB at h
  simp only [Bool.and_eq_true, List.all_eq_true] at h
  obtain ⟨h1, h2, h3, h4⟩ := h
  refine ⟨hk, fun y hy => eq_of_beq (h1 y hy), fun p hp => eq_of_beq (h2 p hp), fun y hy e => ?_, fun y hy e => ?_⟩
  · have q := h3 y hy
    rw [e] at q
    simpa using q
  · have q := h4 y hy
    rcases e with e | e <;> (rw [e] at q; simpa using q)
theorem v (i : Nat) {x : Str} {pos : Pos} (hN : X.N[i]? = some x := by rfl) (hv : Vis X.env.scope x := by first | exact Or.inl rfl | exact Or.inr (Or.inl rfl) | exact Or.inr (Or.inr rfl)) (hd : (x == ("__debug__" : Str)) = false := by decide)
    (hcd : (x == ("__classdict__" : Str)) = false := by decide) : PE X (.Name x pos) (tE G c (eVar i)) := e_var (pe_var hN hv hd hcd)
theorem gs {x z : Str} {l : Cs} {pos : Pos} (h : ∃ t, X.mg x = some (.str z t)) (hl : z.cps.toList = l := by rfl) (ha : l.all (fun x => decide (x < 1114112)) = true := by rfl) (hg : Gl X x := by rfl) (hd : (x == ("__debug__" : Str)) = false := by decide) : PE X (.Name x pos) (tE G c (eC (.str l))) := by
  obtain ⟨t, h⟩ := h
  subst hl
  exact e_glob hg h ⟨.str z, ⟨t, rfl⟩, fun L => by simp only [Rep]; exact ⟨by rw [stO_list], ha⟩⟩ hd
theorem gi {x : Str} {i : Int} {pos : Pos} (h : ∃ t, X.mg x = some (.int i t)) (hg : Gl X x := by rfl) (hd : (x == ("__debug__" : Str)) = false := by decide) : PE X (.Name x pos) (tE G c (eC (.int i))) := by
  obtain ⟨t, h⟩ := h
  exact e_glob hg h ⟨.int i, ⟨t, rfl⟩, fun L => by simp [Rep]⟩ hd
theorem sc {x : Str} {l : Cs} {j pos} (hl : x.cps.toList = l := by rfl) (ha : l.all (fun x => decide (x < 1114112)) = true := by rfl) : PE X (.Constant (.str x) j pos) (tE G c (eC (.str l))) := by
  subst hl
  exact e_str ha
theorem cm {op : CmpOp} {o : Op2} {a b : Expr} {A B : Ex} {pos : Pos} (ho : OpR X (compareOp op) (rO G o)) (ha : PE X a (tE G c A)) (hb : PE X b (tE G c B)) (hm : behindInMarks op b = false := by first | exact nomark _ | with_unfolding_all rfl) : PE X (.Compare a [op] [b] pos) (tE G c (eBin o A B)) := e_cmp ho ha hb hm
theorem ct {op : CmpOp} {o : Op2} {a b : Expr} {A B : Ex} {pos : Pos} (ho : OpR X (compareOp op) (rO G o)) (hbo : BoolO o) (ha : PE X a (tE G c A)) (hb : PE X b (tE G c B)) (hm : behindInMarks op b = false := by first | exact nomark _ | with_unfolding_all rfl) : PT X (.Compare a [op] [b] pos) (tT G c (tOfE (eBin o A B))) := t_cmp ho hbo ha hb hm
theorem ch {op op' : CmpOp} {o o' : Op2} {a b d : Expr} {A B C : Ex} {pos : Pos} (ho : OpR X (compareOp op) (rO G o)) (ho' : OpR X (compareOp op') (rO G o')) (ha : PE X a (tE G c A)) (hb : PE X b (tE G c B)) (hd : PE X d (tE G c C))
    (hm : lastMarks [op, op'] [b, d] = false := by with_unfolding_all rfl) : PE X (.Compare a [op, op'] [b, d] pos) (tE G c (eChain o o' A B C)) := e_chain ho ho' ha hb hd hm
theorem cht {op op' : CmpOp} {o o' : Op2} {a b d : Expr} {A B C : Ex} {pos : Pos} (ho : OpR X (compareOp op) (rO G o)) (ho' : OpR X (compareOp op') (rO G o')) (hbo : BoolO o') (ha : PE X a (tE G c A)) (hb : PE X b (tE G c B)) (hd : PE X d (tE G c C))
    (hm : lastMarks [op, op'] [b, d] = false := by with_unfolding_all rfl) : PT X (.Compare a [op, op'] [b, d] pos) (tT G c (tOfE (eChain o o' A B C))) := t_chain ho ho' hbo ha hb hd hm
theorem tv {e : Expr} {E : Ex} (hK : G.K = X.K) (h : PE X e (tE G c E)) (he : ∀ whole, isTrue e X.env whole = (do let v ← whole; standAt e.pos; holding [v] (truthy v)) := by intro _; rfl) : PT X e (tT G c (tOfE E)) := t_of hK h he
theorem ac {e : Expr} {es : List Expr} {E : Ex} {R : Ax} (ha : PE X e (tE G c E)) (hr : PA X es (tA G c R)) (hs : starEach (e :: es) X.env = (false, eval e X.env) :: starEach es X.env := by rfl) : PA X (e :: es) (tA G c (aCons E R)) := a_cons ha hr hs
theorem ix {a b : Expr} {A B : Ex} {pos : Pos} (hK : G.K = X.K) (ha : PE X a (tE G c A)) (hb : PE X b (tE G c B)) (hp : PlainIx b := by intro _ _; rfl) : PE X (.Subscript a b pos) (tE G c (eBin oIx A B)) := e_ix hK ha hb hp
theorem fB {o : OpN} {A : Ax} {id : String} {x : Str} {e : Expr} {es : List Expr} {p pos : Pos} (ho : CallR X (.builtin id) (rC G o)) (hm : X.mg x = none) (hv : bootBuiltins x = some (.builtin id)) (ha : PA X (e :: es) (tA G c A)) (hg : Gl X x := by rfl)
    (hn : x ≠ "__name__" := by decide) (hdb : (x == ("__debug__" : Str)) = false := by decide) (hs : starEach (e :: es) X.env = (false, eval e X.env) :: starEach es X.env := by rfl) (hpl : (backTo pos (starEach es X.env)).any (·.1) = false := by rfl) : PE X (.Call (.Name x p) (e :: es) [] pos) (tE G c (eFun o A)) := e_funB ho hg hm hv ha hn hdb hs hpl
theorem fT {o : OpN} {A : Ax} {T : String} {x : Str} {e : Expr} {es : List Expr} {p pos : Pos} (ho : CallR X (.type T) (rC G o)) (hm : X.mg x = none) (hv : bootBuiltins x = some (.type T)) (ha : PA X (e :: es) (tA G c A)) (hg : Gl X x := by rfl)
    (hn : x ≠ "__name__" := by decide) (hdb : (x == ("__debug__" : Str)) = false := by decide) (hs : starEach (e :: es) X.env = (false, eval e X.env) :: starEach es X.env := by rfl) (hpl : (backTo pos (starEach es X.env)).any (·.1) = false := by rfl) : PE X (.Call (.Name x p) (e :: es) [] pos) (tE G c (eFun o A)) := e_funT ho hg hm hv ha hn hdb hs hpl
theorem isi {e : Expr} {E : Ex} {y : Str} (T : Ty) {p q pos : Pos} (hK : G.K = X.K) (hm : X.mg "isinstance" = none) (hm2 : X.mg y = none) (hv : bootBuiltins y = some (.type T.nm)) (he : PE X e (tE G c E)) (hT : T ≠ .non := by decide) (hg : Gl X "isinstance" := by rfl) (hg2 : Gl X y := by rfl) (hn : y ≠ "__name__" := by decide) (hd : (y == ("__debug__" : Str)) = false := by decide)
    (hs : starEach [e, .Name y q] X.env = (false, eval e X.env) :: starEach [.Name y q] X.env := by rfl) (hs2 : starEach [.Name y q] X.env = (false, eval (.Name y q) X.env) :: starEach [] X.env := by rfl) (hpl : (backTo pos (starEach [.Name y q] X.env)).any (·.1) = false := by rfl) :
    PE X (.Call (.Name "isinstance" p) [e, .Name y q] [] pos) (tE G c (eIsi T E)) := e_isi hK hT hg hm hg2 hm2 hv hn hd he hs hs2 hpl
theorem cl {f k : Nat} {x : Str} {e : Expr} {es : List Expr} {a : Ax} {p pos : Pos} (F : Fc X.prog X.w X.K X.mg X.base G c k f x) (hr : Room k X.A) (ha : PA X (e :: es) (tA G c a)) (hg : Gl X x := by rfl) (he : starEach (e :: es) X.env = (false, eval e X.env) :: starEach es X.env := by rfl) (hpl : (backTo pos (starEach es X.env)).any (·.1) = false := by rfl) :
    PE X (.Call (.Name x p) (e :: es) [] pos) (tE G c (eCall f a)) := e_call F hr hg ha he hpl
theorem cl0 {f k : Nat} {x : Str} {p pos : Pos} (F : Fc X.prog X.w X.K X.mg X.base G c k f x) (hr : Room k X.A) (hg : Gl X x := by rfl) : PE X (.Call (.Name x p) [] [] pos) (tE G c (eCall f aNone)) := e_call0 F hr hg
theorem app {o e : Expr} {O : Ex} {A : Ax} {apos cpos : Pos} (hK : G.K = X.K) (ho : PE X o (tE G c O)) (ha : PA X [e] (tA G c A))
    (hbase : attributeBase o "append" X.env (eval o X.env) = eval o X.env := by rfl)
    (hfew : ((backTo cpos (starEach [e] X.env)).all (fun x => !x.1) && (backToKw cpos (keywordEach [] X.env)).all (fun x => x.1.isSome)
      && decide ([e].length + ([] : List Keyword).length + (if ([] : List Keyword).isEmpty then 0 else 1) < 30)) = true := by rfl)
    (hline : (apos.endLine == cpos.line) = true := by rfl) (hs : starEach [e] X.env = (false, eval e X.env) :: starEach [] X.env := by rfl) (hplain : (backTo cpos (starEach [] X.env)).any (·.1) = false := by rfl) :
    PE X (.Call (.Attribute o "append" apos) [e] [] cpos) (tE G c (eMt O A isLst mApp)) := e_app hK ho ha hbase hfew hline hs hplain
theorem ext {o e : Expr} {O : Ex} {A : Ax} {apos cpos : Pos} (hK : G.K = X.K) (ho : PE X o (tE G c O)) (ha : PA X [e] (tA G c A))
    (hbase : attributeBase o "extend" X.env (eval o X.env) = eval o X.env := by rfl)
    (hfew : ((backTo cpos (starEach [e] X.env)).all (fun x => !x.1) && (backToKw cpos (keywordEach [] X.env)).all (fun x => x.1.isSome)
      && decide ([e].length + ([] : List Keyword).length + (if ([] : List Keyword).isEmpty then 0 else 1) < 30)) = true := by rfl)
    (hline : (apos.endLine == cpos.line) = true := by rfl) (hs : starEach [e] X.env = (false, eval e X.env) :: starEach [] X.env := by rfl) (hplain : (backTo cpos (starEach [] X.env)).any (·.1) = false := by rfl) :
    PE X (.Call (.Attribute o "extend" apos) [e] [] cpos) (tE G c (eMt O A isLst mExt)) := e_ext hK ho ha hbase hfew hline hs hplain
theorem lrg {a : Expr} {A : Ex} {p p2 q pos : Pos} (hm : X.mg "list" = none) (hm2 : X.mg "range" = none) (ha : PE X a (tE G c A)) (hc : X.calm = true := by rfl) (hg : Gl X "list" := by rfl) (hg2 : Gl X "range" := by rfl)
    (na2 : starEach [a] X.env = (false, eval a X.env) :: starEach [] X.env := by rfl) (na : starEach [.Call (.Name "range" p2) [a] [] q] X.env = (false, eval (.Call (.Name "range" p2) [a] [] q) X.env) :: starEach [] X.env := by rfl) :
    PE X (.Call (.Name "list" p) [.Call (.Name "range" p2) [a] [] q] [] pos) (tE G c (eLRg1 A)) := e_lrg1 hc hg hm hg2 hm2 ha na2 na
theorem lc {elt tg iter : Expr} {ifs : List Expr} {scope : Scope} (own : List (Str × Nat)) {pos : Pos} {it : Ix} {vs : List Nat} {g : Gx} {t : Tx} {e : Ex} (hN : X.N.Nodup) (hi : PI X tg iter (tI G c it))
    (hg : ∀ (s : Shared) (H : Hp) (C : Addr) (cl : List (Str × Addr)) (fp : List Addr), PG (X.blk s H scope (compEnvC scope cl C X.env) fp) tg (gW G c vs g))
    (ht : ∀ (s : Shared) (H : Hp) (C : Addr) (cl : List (Str × Addr)) (fp : List Addr), PTs (X.blk s H scope (compEnvC scope cl C X.env) fp) ifs (tT G c t))
    (he : ∀ (s : Shared) (H : Hp) (C : Addr) (cl : List (Str × Addr)) (fp : List Addr), PE (X.blk s H scope (compEnvC scope cl C X.env) fp) elt (tE G c e))
    (okk : scope.kind = .function := by rfl) (ok : blkB X.N X.env.scope scope own = true := by rfl) (hv : own.map (·.2) = vs := by rfl) (hc : X.calm = true := by rfl) (hs : ∀ x, foldedSetIterable iter X.env x = pure x := by intro _; rfl) :
    PE X (.ListComp elt [⟨tg, iter, ifs, 0⟩] scope pos) (tE G c (eLc it vs g t e)) := e_lc hc hN hi (blk_ok okk ok) hv hg ht he hs
theorem slc {i : Nat} {y : Str} {py : Pos} {elt tg iter : Expr} {ifs : List Expr} {scope : Scope} (own : List (Str × Nat)) {pos spos : Pos} {it : Ix} {vs : List Nat} {g : Gx} {t : Tx} {e : Ex} (hN : X.N.Nodup) (hi : PI X tg iter (tI G c it))
    (hg : ∀ (s : Shared) (H : Hp) (C : Addr) (cl : List (Str × Addr)) (fp : List Addr), PG (X.blk s H scope (compEnvC scope cl C X.env) fp) tg (gW G c vs g))
    (ht : ∀ (s : Shared) (H : Hp) (C : Addr) (cl : List (Str × Addr)) (fp : List Addr), PTs (X.blk s H scope (compEnvC scope cl C X.env) fp) ifs (tT G c t))
    (he : ∀ (s : Shared) (H : Hp) (C : Addr) (cl : List (Str × Addr)) (fp : List Addr), PE (X.blk s H scope (compEnvC scope cl C X.env) fp) elt (tE G c e))
    (okk : scope.kind = .function := by rfl) (ok : blkB X.N X.env.scope scope own = true := by rfl) (hv : own.map (·.2) = vs := by rfl) (hc : X.calm = true := by rfl) (hs : ∀ x, foldedSetIterable iter X.env x = pure x := by intro _; rfl) (hy : X.N[i]? = some y := by rfl) (hyl : X.env.scope.names.lookup y = some .local := by rfl)
    (hsw : swapsWith (.ListComp elt [⟨tg, iter, ifs, 0⟩] scope pos) (some (.Name y py)) spos.line X.env = pure true := by rfl) :
    PS X (.Assign [.Name y py] (.ListComp elt [⟨tg, iter, ifs, 0⟩] scope pos) spos) (tS G c (sAsg (eLc it vs g t e) (gNm i))) := s_setLc hc hN hy hyl hsw hi (blk_ok okk ok) hv hg ht he hs
/-! targets -/
theorem gn (i : Nat) {x : Str} {pos : Pos} (hN : X.N.Nodup) (hi : X.N[i]? = some x := by rfl) (hx : Loc X.env.scope x := by first | exact Or.inl rfl | exact Or.inr rfl) (hf : X.fn x = true ∨ X.env.scope.names.lookup x = some .local := by first | exact .inl rfl | exact .inr rfl) : PG X (.Name x pos) (gG G c (gNm i)) := g_name (pg_name hN hi hx hf)
theorem wn (i : Nat) {x : Str} {pos : Pos} {w : List Nat} (hN : X.N.Nodup) (hw : i ∈ w := by decide) (hi : X.N[i]? = some x := by rfl) (hx : Loc X.env.scope x := by first | exact Or.inl rfl | exact Or.inr rfl) (hf : X.fn x = true ∨ X.env.scope.names.lookup x = some .local := by first | exact .inl rfl | exact .inr rfl) : PG X (.Name x pos) (gW G c w (gNm i)) := w_name hw (pg_name hN hi hx hf)
theorem gc {e : Expr} {es : List Expr} {g : Gx} {u : Gxs} (h1 : PG X e (gG G c g)) (h2 : PGs X es (gGs G c u)) (ha : (assignEach (e :: es) X.env).map (·.2) = assign e X.env :: (assignEach es X.env).map (·.2) := by rfl) : PGs X (e :: es) (gGs G c (gsCons g u)) := gs_cons h1 h2 ha
theorem wc {w : List Nat} {e : Expr} {es : List Expr} {g : Gx} {u : Gxs} (h1 : PG X e (gW G c w g)) (h2 : PGs X es (gWs G c w u)) (ha : (assignEach (e :: es) X.env).map (·.2) = assign e X.env :: (assignEach es X.env).map (·.2) := by rfl) : PGs X (e :: es) (gWs G c w (gsCons g u)) := ws_cons h1 h2 ha
theorem gt {es : List Expr} {k : Nat} {u : Gxs} {n : Nat} {pos : Pos} (hK : G.K = X.K) (h : PGs X es (gGs G c u)) (hc : X.calm = true := by rfl) (hn : (assignEach es X.env).length = n := by rfl) (hst : (assignEach es X.env).findIdx? (·.1) = none := by rfl) : PG X (.Tuple es k pos) (gG G c (gTp n u)) := g_tup hK hc h hn hst
theorem wt {w : List Nat} {es : List Expr} {k : Nat} {u : Gxs} {n : Nat} {pos : Pos} (hK : G.K = X.K) (h : PGs X es (gWs G c w u)) (hc : X.calm = true := by rfl) (hn : (assignEach es X.env).length = n := by rfl) (hst : (assignEach es X.env).findIdx? (·.1) = none := by rfl) : PG X (.Tuple es k pos) (gW G c w (gTp n u)) := w_tup hK hc h hn hst
theorem gx {o i : Expr} {O Ie : Ex} {pos : Pos} (ho : PE X o (tE G c O)) (hi : PE X i (tE G c Ie))
    (ha : ∀ v, assign (.Subscript o i pos) X.env v = (do
      let ov ← holding [v] (eval o X.env)
      let iv ← holding [v, ov] (eval i X.env)
      standAt pos
      holding [v, ov, iv] (setItem ov iv v)
      release [v, ov, iv] []) := by intro _; rfl) : PG X (.Subscript o i pos) (gG G c (gIx O Ie)) := g_ix ho hi ha
/-! iterables -/
theorem ir1 {tg a : Expr} {A : Ax} {p pos : Pos} (hm : X.mg "range" = none) (ha : PA X [a] (tA G c A)) (hg : Gl X "range" := by rfl) (hs : starEach [a] X.env = [(false, eval a X.env)] := by rfl) : PI X tg (.Call (.Name "range" p) [a] [] pos) (tI G c (iRange1 A)) := i_range1 hg hm ha hs
theorem ir2 {tg a b : Expr} {A : Ax} {p pos : Pos} (hm : X.mg "range" = none) (ha : PA X [a, b] (tA G c A)) (hg : Gl X "range" := by rfl) (hs : starEach [a, b] X.env = [(false, eval a X.env), (false, eval b X.env)] := by rfl) (hs2 : starEach [b] X.env = [(false, eval b X.env)] := by rfl) : PI X tg (.Call (.Name "range" p) [a, b] [] pos) (tI G c (iRange2 A)) := i_range2 hg hm ha hs hs2
theorem ie {e : Expr} {A : Ax} {p pos tpos : Pos} {elts : List Expr} {kk : Nat} (hK : G.K = X.K) (hm : X.mg "enumerate" = none) (ha : PA X [e] (tA G c A)) (hg : Gl X "enumerate" := by rfl) (hs : starEach [e] X.env = [(false, eval e X.env)] := by rfl) : PI X (.Tuple elts kk tpos) (.Call (.Name "enumerate" p) [e] [] pos) (tI G c (iEnu A)) := i_enu hK hg hm ha hs
theorem iz {a b : Expr} {A : Ax} {p pos tpos : Pos} {elts : List Expr} {kk : Nat} (hK : G.K = X.K) (hm : X.mg "zip" = none) (ha : PA X [a, b] (tA G c A)) (hg : Gl X "zip" := by rfl)
    (hs : starEach [a, b] X.env = (false, eval a X.env) :: starEach [b] X.env := by rfl) (hpl : (backTo pos (starEach [b] X.env)).any (·.1) = false := by rfl) : PI X (.Tuple elts kk tpos) (.Call (.Name "zip" p) [a, b] [] pos) (tI G c (iZip A)) := i_zip hK hg hm ha hs hpl
theorem iez {a b : Expr} {A : Ax} {p p2 pos q tpos : Pos} {elts : List Expr} {kk : Nat} (hK : G.K = X.K) (hm : X.mg "enumerate" = none) (hm2 : X.mg "zip" = none) (ha : PA X [a, b] (tA G c A)) (hg : Gl X "enumerate" := by rfl) (hg2 : Gl X "zip" := by rfl)
    (hs : starEach [a, b] X.env = (false, eval a X.env) :: starEach [b] X.env := by rfl) (hpl : (backTo q (starEach [b] X.env)).any (·.1) = false := by rfl)
    (hs2 : starEach [.Call (.Name "zip" p2) [a, b] [] q] X.env = (false, eval (.Call (.Name "zip" p2) [a, b] [] q) X.env) :: starEach [] X.env := by rfl) : PI X (.Tuple elts kk tpos) (.Call (.Name "enumerate" p) [.Call (.Name "zip" p2) [a, b] [] q] [] pos) (tI G c (iEz A)) := i_ez hK hg hm hg2 hm2 ha hs hpl hs2
/-! statements -/
theorem sx {e : Expr} {E : Ex} {pos : Pos} (he : PE X e (tE G c E)) (hs : swapsWith e none pos.line X.env = pure false := by rfl) : PS X (.Expr e pos) (tS G c (sExp E)) := s_exp he hs
theorem ss (i : Nat) {x : Str} {e : Expr} {E : Ex} {pos pos' : Pos} (hN : X.N.Nodup) (he : PE X e (tE G c E)) (hi : X.N[i]? = some x := by rfl) (hx : Loc X.env.scope x := by first | exact Or.inl rfl | exact Or.inr rfl) (hs : swapsWith e (some (.Name x pos')) pos.line X.env = pure false := by rfl) (hf : X.fn x = true ∨ X.env.scope.names.lookup x = some .local := by first | exact .inl rfl | exact .inr rfl) :
    PS X (.Assign [.Name x pos'] e pos) (tS G c (sAsg E (gNm i))) := s_set hN hi hx he hs hf
theorem sa {tg e : Expr} {E : Ex} {g : Gx} {pos : Pos} (he : PE X e (tE G c E)) (hg : PG X tg (gG G c g)) (hs : swapsWithSole [tg] e pos.line X.env = pure false := by rfl) (hw : swappedStores [tg] e X.env = pure none := by rfl)
    (h1 : (assignEach [tg] X.env).map (·.2) = [assign tg X.env] := by rfl) : PS X (.Assign [tg] e pos) (tS G c (sAsg E g)) := s_asg he hg hs hw h1
theorem sp (i j : Nat) {x y : Str} {a b : Expr} {A : Ax} {px py pt : Pos} {kt k2 pt2} {pos : Pos} (hN : X.N.Nodup) (ha : PA X [a, b] (tA G c A)) (hc : X.calm = true := by rfl) (hi : X.N[i]? = some x := by rfl) (hj : X.N[j]? = some y := by rfl) (hij : i ≠ j := by decide)
    (hx : X.env.scope.names.lookup x = some .local := by rfl) (hy : X.env.scope.names.lookup y = some .local := by rfl)
    (hw : swappedStores [.Tuple [.Name x px, .Name y py] kt pt] (.Tuple [a, b] k2 pt2) X.env = pure (some [x, y]) := by rfl)
    (hs : swapsWithSole [.Tuple [.Name x px, .Name y py] kt pt] (.Tuple [a, b] k2 pt2) pos.line X.env = pure false := by rfl) :
    PS X (.Assign [.Tuple [.Name x px, .Name y py] kt pt] (.Tuple [a, b] k2 pt2) pos) (tS G c (sPar i j A)) := s_par hc hN hi hj hij hx hy ha hw hs
theorem sf {tg iter : Expr} {body : List Stmt} {it : Ix} {g : Gx} {b : Sx} {pos : Pos} (hp : PassesOwn (model X.prog X.w) X.A X.env X.xe) (hi : PI X tg iter (tI G c it)) (hg : PG X tg (gG G c g)) (hb : PSs X body (tS G c b)) (hc : X.calm = true := by rfl)
    (hs : ∀ x, foldedSetIterable iter X.env x = pure x := by intro _; rfl) : PS X (.For tg iter body [] pos) (tS G c (sFor it g b)) := s_for hp hc hi hg hb hs
end
end Pe
set_option Elab.async false
set_option linter.all false
set_option maxRecDepth 100000
set_option maxHeartbeats 4000000

/-! what the defs of the law compute (printed by gen.py) -/
namespace K85
open PySem PySem.Spec PyProof.Rows L2 Pe

/- is_whole(value) slots ['value'] -/
def x_is_whole : Sx := (sRet (eAnd (eIsi .int (eVar 0)) (eNot (eIsi .bl (eVar 0)))))

/- is_between(value, low, high) slots ['value', 'low', 'high'] -/
def x_is_between : Sx := (sRet (eAnd (eCall 0 (aCons (eVar 0) aNil)) (eChain oLe oLe (eVar 1) (eVar 0) (eVar 2))))

/- is_from(value, low) slots ['value', 'low'] -/
def x_is_from : Sx := (sRet (eAnd (eCall 0 (aCons (eVar 0) aNil)) (eBin oGe (eVar 0) (eVar 1))))

/- is_times(value) slots ['value'] -/
def x_is_times : Sx := (sRet (eCall 1 (aCons (eVar 0) (aCons (eC (.int 0)) (aCons (eC (.int 1000000000000000000000000000000)) aNil)))))

/- check_page(height, first) slots ['height', 'first'] -/
def x_check_page : Sx := (sSeq (sIf (tNotD (tOfE (eCall 1 (aCons (eVar 0) (aCons (eC (.int 1)) (aCons (eC (.int 60)) aNil)))))) sNev sNext) (sIf (tNotD (tOfE (eCall 1 (aCons (eVar 1) (aCons (eC (.int 1)) (aCons (eC (.int 999999)) aNil)))))) sNev sNext))

/- check_lines(lines) slots ['lines'] -/
def x_check_lines : Sx := (sIf (tNotD (tOfE (eCall 2 (aCons (eVar 0) (aCons (eC (.int 0)) aNil))))) sNev sNext)

/- is_step(height, value) slots ['height', 'value'] -/
def x_is_step : Sx := (sSeq (sIf (tOrD (tNotD (tOfE (eIsi .tup (eVar 1)))) (tOrD (tOfE (eBin oEq (eVar 1) (eTup aNil))) (tNotD (tOfE (eIsi .str (eBin oIx (eVar 1) (eC (.int 0)))))))) (sRet (eC (.bl false))) sNext) (sSeq (sIf (tOfE (eBin (oInX false) (eBin oIx (eVar 1) (eC (.int 0))) (eTup (aCons (eC (.str [112, 97, 103, 101])) (aCons (eC (.str [114, 105, 103, 104, 116])) aNil))))) (sRet (eBin oEq (eFun nLen (aCons (eVar 1) aNil)) (eC (.int 1)))) sNext) (sSeq (sIf (tOfE (eBin oEq (eBin oIx (eVar 1) (eC (.int 0))) (eC (.str [116, 97, 98, 108, 101, 115])))) (sRet (eAnd (eBin oEq (eFun nLen (aCons (eVar 1) aNil)) (eC (.int 3))) (eAnd (eCall 3 (aCons (eBin oIx (eVar 1) (eC (.int 1))) aNil)) (eCall 1 (aCons (eBin oIx (eVar 1) (eC (.int 2))) (aCons (eC (.int 1)) (aCons (eVar 0) aNil))))))) sNext) (sRet (eAnd (eBin (oInX false) (eBin oIx (eVar 1) (eC (.int 0))) (eTup (aCons (eC (.str [108, 105, 110, 101, 115])) (aCons (eC (.str [107, 101, 112, 116])) (aCons (eC (.str [103, 97, 112])) (aCons (eC (.str [112, 108, 97, 116, 101, 115])) aNil)))))) (eAnd (eBin oEq (eFun nLen (aCons (eVar 1) aNil)) (eC (.int 2))) (eCall 3 (aCons (eBin oIx (eVar 1) (eC (.int 1))) aNil))))))))

/- page_end(height, lines) slots ['height', 'lines'] -/
def x_page_end : Sx := (sRet (eBin oAdd (eVar 1) (eBin oMod (eNeg (eVar 1)) (eVar 0))))

/- kept_begin(height, lines, many) slots ['height', 'lines', 'many', 'rest'] -/
def x_kept_begin : Sx := (sSeq (sAsg (eBin oMod (eVar 1) (eVar 0)) (gNm 3)) (sRet (eIf (tAndD (tOfE (eBin oGt (eVar 3) (eC (.int 0)))) (tOfE (eBin oGt (eBin oAdd (eVar 3) (eVar 2)) (eVar 0)))) (eCall 7 (aCons (eVar 0) (aCons (eVar 1) aNil))) (eVar 1))))

/- behind_tables(height, lines, many, each) slots ['height', 'lines', 'many', 'each', 'room', 'left', 'on_page', 'pages'] -/
def x_behind_tables : Sx := (sSeq (sAsg (eBin oDiv (eBin oSub (eVar 0) (eBin oMod (eVar 1) (eVar 0))) (eVar 3)) (gNm 4)) (sSeq (sIf (tOfE (eBin oLe (eVar 2) (eVar 4))) (sRet (eBin oAdd (eVar 1) (eBin oMul (eVar 2) (eVar 3)))) sNext) (sSeq (sPar 5 6 (aCons (eBin oSub (eVar 2) (eVar 4)) (aCons (eBin oDiv (eVar 0) (eVar 3)) aNil))) (sSeq (sAsg (eBin oDiv (eBin oSub (eVar 5) (eC (.int 1))) (eVar 6)) (gNm 7)) (sRet (eBin oAdd (eBin oAdd (eCall 7 (aCons (eVar 0) (aCons (eBin oAdd (eVar 1) (eBin oMul (eVar 4) (eVar 3))) aNil))) (eBin oMul (eVar 7) (eVar 0))) (eBin oMul (eBin oSub (eVar 5) (eBin oMul (eVar 7) (eVar 6))) (eVar 3))))))))

/- right_begin(height, first, lines) slots ['height', 'first', 'lines', 'begin'] -/
def x_right_begin : Sx := (sSeq (sAsg (eCall 7 (aCons (eVar 0) (aCons (eVar 2) aNil))) (gNm 3)) (sRet (eIf (tOfE (eBin oEq (eBin oMod (eBin oAdd (eVar 1) (eBin oDiv (eVar 3) (eVar 0))) (eC (.int 2))) (eC (.int 1)))) (eVar 3) (eBin oAdd (eVar 3) (eVar 0)))))

/- done(height, first, lines, step) slots ['height', 'first', 'lines', 'step'] -/
def x_done : Sx := (sSeq (sIf (tOfE (eBin oEq (eBin oIx (eVar 3) (eC (.int 0))) (eC (.str [108, 105, 110, 101, 115])))) (sRet (eBin oAdd (eVar 2) (eBin oIx (eVar 3) (eC (.int 1))))) sNext) (sSeq (sIf (tOfE (eBin oEq (eBin oIx (eVar 3) (eC (.int 0))) (eC (.str [107, 101, 112, 116])))) (sRet (eBin oAdd (eCall 8 (aCons (eVar 0) (aCons (eVar 2) (aCons (eBin oIx (eVar 3) (eC (.int 1))) aNil)))) (eBin oIx (eVar 3) (eC (.int 1))))) sNext) (sSeq (sIf (tOfE (eBin oEq (eBin oIx (eVar 3) (eC (.int 0))) (eC (.str [103, 97, 112])))) (sRet (eFun nMin (aCons (eBin oAdd (eVar 2) (eBin oIx (eVar 3) (eC (.int 1)))) (aCons (eCall 7 (aCons (eVar 0) (aCons (eVar 2) aNil))) aNil)))) sNext) (sSeq (sIf (tOfE (eBin oEq (eBin oIx (eVar 3) (eC (.int 0))) (eC (.str [112, 97, 103, 101])))) (sRet (eCall 7 (aCons (eVar 0) (aCons (eVar 2) aNil)))) sNext) (sSeq (sIf (tOfE (eBin oEq (eBin oIx (eVar 3) (eC (.int 0))) (eC (.str [114, 105, 103, 104, 116])))) (sRet (eCall 10 (aCons (eVar 0) (aCons (eVar 1) (aCons (eVar 2) aNil))))) sNext) (sSeq (sIf (tOfE (eBin oEq (eBin oIx (eVar 3) (eC (.int 0))) (eC (.str [112, 108, 97, 116, 101, 115])))) (sRet (eBin oAdd (eCall 7 (aCons (eVar 0) (aCons (eVar 2) aNil))) (eBin oMul (eBin oIx (eVar 3) (eC (.int 1))) (eVar 0)))) sNext) (sRet (eCall 9 (aCons (eVar 0) (aCons (eVar 2) (aCons (eBin oIx (eVar 3) (eC (.int 1))) (aCons (eBin oIx (eVar 3) (eC (.int 2))) aNil))))))))))))

/- stepped_by(height, first, x, steps) slots ['height', 'first', 'x', 'steps', 'step'] -/
def x_stepped_by : Sx := (sSeq (sExp (eCall 4 (aCons (eVar 0) (aCons (eVar 1) aNil)))) (sSeq (sExp (eCall 5 (aCons (eVar 2) aNil))) (sSeq (sIf (tOrD (tNotD (tOfE (eIsi .tup (eVar 3)))) (tNotD (tOfE (eFun (nAll true) (aCons (eLc (iSeq (eVar 3)) [4] (gNm 4) tYesX (eCall 6 (aCons (eVar 0) (aCons (eVar 4) aNil)))) aNil))))) sNev sNext) (sSeq (sFor (iSeq (eVar 3)) (gNm 4) (sAsg (eCall 11 (aCons (eVar 0) (aCons (eVar 1) (aCons (eVar 2) (aCons (eVar 4) aNil))))) (gNm 2))) (sRet (eVar 2))))))

/- check_steps(height, steps) slots ['height', 'steps', 'step'] -/
def x_check_steps : Sx := (sIf (tOrD (tNotD (tOfE (eIsi .tup (eVar 1)))) (tNotD (tOfE (eFun (nAll true) (aCons (eLc (iSeq (eVar 1)) [2] (gNm 2) tYesX (eCall 6 (aCons (eVar 0) (aCons (eVar 2) aNil)))) aNil))))) sNev sNext)

/- led(height, first, steps, lines) slots ['height', 'first', 'steps', 'lines', 'step'] -/
def x_led : Sx := (sSeq (sFor (iSeq (eVar 2)) (gNm 4) (sAsg (eCall 11 (aCons (eVar 0) (aCons (eVar 1) (aCons (eVar 3) (aCons (eVar 4) aNil))))) (gNm 3))) (sRet (eVar 3)))

/- table_by(height, first, steps) slots ['height', 'first', 'steps', 'lines'] -/
def x_table_by : Sx := (sRet (eFun nTup (aCons (eLc (iRange1 (aCons (eBin oMul (eC (.int 2)) (eVar 0)) aNil)) [3] (gNm 3) tYesX (eCall 14 (aCons (eVar 0) (aCons (eVar 1) (aCons (eVar 2) (aCons (eVar 3) aNil)))))) aNil)))

/- table_of(height, first, steps) slots ['height', 'first', 'steps'] -/
def x_table_of : Sx := (sSeq (sExp (eCall 4 (aCons (eVar 0) (aCons (eVar 1) aNil)))) (sSeq (sExp (eCall 13 (aCons (eVar 0) (aCons (eVar 2) aNil)))) (sRet (eCall 15 (aCons (eVar 0) (aCons (eVar 1) (aCons (eVar 2) aNil)))))))

/- is_right_table(height, value) slots ['height', 'value', 'at', 'number', 'one', 'other'] -/
def x_is_right_table : Sx := (sSeq (sIf (tOrD (tNotD (tOfE (eIsi .tup (eVar 1)))) (tOfE (eBin oNe (eFun nLen (aCons (eVar 1) aNil)) (eBin oMul (eC (.int 2)) (eVar 0))))) (sRet (eC (.bl false))) sNext) (sSeq (sIf (tNotD (tOfE (eFun (nAll true) (aCons (eLc (iEnu (aCons (eVar 1) aNil)) [2, 3] (gTp 2 (gsCons (gNm 2) (gsCons (gNm 3) gsNil))) tYesX (eCall 2 (aCons (eVar 3) (aCons (eVar 2) aNil)))) aNil)))) (sRet (eC (.bl false))) sNext) (sSeq (sIf (tNotD (tOfE (eFun (nAll true) (aCons (eLc (iZip (aCons (eVar 1) (aCons (eSl (eVar 1) (oSome (eC (.int 1))) oNone) aNil))) [4, 5] (gTp 2 (gsCons (gNm 4) (gsCons (gNm 5) gsNil))) tYesX (eBin oLe (eVar 4) (eVar 5))) aNil)))) (sRet (eC (.bl false))) sNext) (sRet (eBin oLe (eBin oIx (eVar 1) (eNeg (eC (.int 1)))) (eBin oAdd (eBin oIx (eVar 1) (eC (.int 0))) (eBin oMul (eC (.int 2)) (eVar 0))))))))

/- check_height(height) slots ['height'] -/
def x_check_height : Sx := (sIf (tNotD (tOfE (eCall 1 (aCons (eVar 0) (aCons (eC (.int 1)) (aCons (eC (.int 60)) aNil)))))) sNev sNext)

/- check_table(height, value) slots ['height', 'value'] -/
def x_check_table : Sx := (sIf (tNotD (tOfE (eCall 17 (aCons (eVar 0) (aCons (eVar 1) aNil))))) sNev sNext)

/- is_table(height, value) slots ['height', 'value'] -/
def x_is_table : Sx := (sSeq (sExp (eCall 18 (aCons (eVar 0) aNil))) (sRet (eCall 17 (aCons (eVar 0) (aCons (eVar 1) aNil)))))

/- applied(height, table, lines) slots ['height', 'table', 'lines', 'rest'] -/
def x_applied : Sx := (sSeq (sAsg (eBin oMod (eVar 2) (eBin oMul (eC (.int 2)) (eVar 0))) (gNm 3)) (sRet (eBin oSub (eBin oAdd (eBin oIx (eVar 1) (eVar 3)) (eVar 2)) (eVar 3))))

/- by_table(height, table, x) slots ['height', 'table', 'x'] -/
def x_by_table : Sx := (sSeq (sExp (eCall 18 (aCons (eVar 0) aNil))) (sSeq (sExp (eCall 19 (aCons (eVar 0) (aCons (eVar 1) aNil)))) (sSeq (sIf (tNotD (tOfE (eCall 2 (aCons (eVar 2) (aCons (eC (.int 0)) aNil))))) sNev sNext) (sRet (eCall 21 (aCons (eVar 0) (aCons (eVar 1) (aCons (eVar 2) aNil))))))))

/- behind(height, one, other) slots ['height', 'one', 'other', 'lines'] -/
def x_behind : Sx := (sRet (eFun nTup (aCons (eLc (iSeq (eVar 1)) [3] (gNm 3) tYesX (eCall 21 (aCons (eVar 0) (aCons (eVar 2) (aCons (eVar 3) aNil))))) aNil)))

/- then(height, one, other) slots ['height', 'one', 'other'] -/
def x_then : Sx := (sSeq (sExp (eCall 18 (aCons (eVar 0) aNil))) (sSeq (sExp (eCall 19 (aCons (eVar 0) (aCons (eVar 1) aNil)))) (sSeq (sExp (eCall 19 (aCons (eVar 0) (aCons (eVar 2) aNil)))) (sRet (eCall 23 (aCons (eVar 0) (aCons (eVar 1) (aCons (eVar 2) aNil))))))))

/- first_unlike_x(height, first, steps, others) slots ['height', 'first', 'steps', 'others', 'lines', 'one', 'other'] -/
def x_first_unlike_x : Sx := (sSeq (sExp (eCall 4 (aCons (eVar 0) (aCons (eVar 1) aNil)))) (sSeq (sExp (eCall 13 (aCons (eVar 0) (aCons (eVar 2) aNil)))) (sSeq (sExp (eCall 13 (aCons (eVar 0) (aCons (eVar 3) aNil)))) (sSeq (sFor (iEz (aCons (eCall 15 (aCons (eVar 0) (aCons (eVar 1) (aCons (eVar 2) aNil)))) (aCons (eCall 15 (aCons (eVar 0) (aCons (eVar 1) (aCons (eVar 3) aNil)))) aNil))) (gTp 2 (gsCons (gNm 4) (gsCons (gTp 2 (gsCons (gNm 5) (gsCons (gNm 6) gsNil))) gsNil))) (sIf (tOfE (eBin oNe (eVar 5) (eVar 6))) (sRet (eVar 4)) sNext)) (sRet (eC .non))))))

/- first_later_x(height, first, steps, others) slots ['height', 'first', 'steps', 'others', 'lines', 'one', 'other'] -/
def x_first_later_x : Sx := (sSeq (sExp (eCall 4 (aCons (eVar 0) (aCons (eVar 1) aNil)))) (sSeq (sExp (eCall 13 (aCons (eVar 0) (aCons (eVar 2) aNil)))) (sSeq (sExp (eCall 13 (aCons (eVar 0) (aCons (eVar 3) aNil)))) (sSeq (sFor (iEz (aCons (eCall 15 (aCons (eVar 0) (aCons (eVar 1) (aCons (eVar 2) aNil)))) (aCons (eCall 15 (aCons (eVar 0) (aCons (eVar 1) (aCons (eVar 3) aNil)))) aNil))) (gTp 2 (gsCons (gNm 4) (gsCons (gTp 2 (gsCons (gNm 5) (gsCons (gNm 6) gsNil))) gsNil))) (sIf (tOfE (eBin oGt (eVar 5) (eVar 6))) (sRet (eVar 4)) sNext)) (sRet (eC .non))))))

/- _law_pot(script, place) slots ['script', 'place', 'cell', 'own', 'small'] -/
def x__law_pot : Sx := (sSeq (sAsg (eIf (tOfE (eBin oLt (eVar 1) (eFun nLen (aCons (eVar 0) aNil)))) (eBin oIx (eVar 0) (eVar 1)) (eBin oAdd (eBin oMul (eC (.int 463)) (eVar 1)) (eC (.int 167)))) (gNm 2)) (sSeq (sAsg (eBin oMul (eBin oMod (eFun nInt (aCons (eFun nAbs (aCons (eVar 2) aNil)) aNil)) (eBin oPow (eBin oPow (eC (.int 10)) (eC (.int 60))) (eC (.int 5)))) (eFun nInt (aCons (eBin oGe (eFun nAbs (aCons (eVar 2) aNil)) (eBin oPow (eC (.int 10)) (eC (.int 18)))) aNil))) (gNm 3)) (sSeq (sAsg (eBin oMod (eFun nInt (aCons (eVar 2) aNil)) (eC (.int 2305843009213693951))) (gNm 4)) (sRet (eLst (aCons (eVar 3) (aCons (eBin oMod (eFun nInt (aCons (eBin oAdd (eBin oAdd (eBin oMul (eVar 4) (eC (.int 97213))) (eBin oMul (eBin oMul (eC (.int 9157)) (eVar 1)) (eVar 1))) (eC (.int 281))) aNil)) (eC (.int 2305843009213693921))) (aCons (eC (.int 0)) aNil))))))))

/- _law_take(pot, upto) slots ['pot', 'upto', 'digit', 'prime', 'blend'] -/
def x__law_take : Sx := (sSeq (sIf (tOfE (eBin oGt (eBin oIx (eVar 0) (eC (.int 0))) (eC (.int 0)))) (sSeq (sAsg (eBin oMod (eFun nInt (aCons (eBin oIx (eVar 0) (eC (.int 0))) aNil)) (eVar 1)) (gNm 2)) (sSeq (sAsg (eBin oDiv (eBin oIx (eVar 0) (eC (.int 0))) (eVar 1)) (gIx (eVar 0) (eC (.int 0)))) (sRet (eVar 2)))) sNext) (sSeq (sAsg (eBin oAdd (eBin oIx (eVar 0) (eC (.int 2))) (eC (.int 1))) (gIx (eVar 0) (eC (.int 2)))) (sSeq (sAsg (eBin oIx (eLst (aCons (eC (.int 2147483647)) (aCons (eC (.int 2147483629)) (aCons (eC (.int 2147483587)) (aCons (eC (.int 2147483579)) (aCons (eC (.int 2147483563)) aNil)))))) (eBin oMod (eFun nInt (aCons (eBin oIx (eVar 0) (eC (.int 2))) aNil)) (eC (.int 5)))) (gNm 3)) (sSeq (sAsg (eBin oMod (eFun nInt (aCons (eBin oPow (eFun nInt (aCons (eBin oAdd (eBin oAdd (eBin oIx (eVar 0) (eC (.int 1))) (eBin oMul (eBin oMul (eC (.int 98327)) (eBin oIx (eVar 0) (eC (.int 2)))) (eBin oIx (eVar 0) (eC (.int 2))))) (eC (.int 307))) aNil)) (eC (.int 3))) aNil)) (eVar 3)) (gNm 4)) (sSeq (sAsg (eBin oMod (eFun nInt (aCons (eBin oMul (eVar 4) (eBin oAdd (eBin oMod (eFun nInt (aCons (eVar 4) aNil)) (eC (.int 14593))) (eBin oMul (eC (.int 151)) (eBin oIx (eVar 0) (eC (.int 2)))))) aNil)) (eC (.int 2305843009213693907))) (gNm 4)) (sRet (eBin oMod (eFun nInt (aCons (eBin oDiv (eVar 4) (eC (.int 211))) aNil)) (eVar 1))))))))

/- _law_of(pot, some) slots ['pot', 'some'] -/
def x__law_of : Sx := (sRet (eBin oIx (eVar 1) (eCall 28 (aCons (eVar 0) (aCons (eFun nLen (aCons (eVar 1) aNil)) aNil)))))

/- _law_cells(script, upto) slots ['script', 'upto'] -/
def x__law_cells : Sx := (sRet (eLRg1 (eFun nMax (aCons (eC (.int 1)) (aCons (eFun nMin (aCons (eVar 1) (aCons (eFun nLen (aCons (eVar 0) aNil)) aNil))) aNil)))))

/- _law_step(pot, height) slots ['pot', 'height', 'word', 'many'] -/
def x__law_step : Sx := (sSeq (sAsg (eCall 29 (aCons (eVar 0) (aCons (eLst (aCons (eC (.str [108, 105, 110, 101, 115])) (aCons (eC (.str [107, 101, 112, 116])) (aCons (eC (.str [103, 97, 112])) (aCons (eC (.str [112, 97, 103, 101])) (aCons (eC (.str [114, 105, 103, 104, 116])) (aCons (eC (.str [112, 108, 97, 116, 101, 115])) (aCons (eC (.str [116, 97, 98, 108, 101, 115])) aNil)))))))) aNil))) (gNm 2)) (sSeq (sAsg (eCall 28 (aCons (eVar 0) (aCons (eCall 29 (aCons (eVar 0) (aCons (eLst (aCons (eC (.int 2)) (aCons (eBin oAdd (eVar 1) (eC (.int 2))) (aCons (eBin oMul (eC (.int 3)) (eVar 1)) (aCons (eC (.int 40)) aNil))))) aNil))) aNil))) (gNm 3)) (sSeq (sIf (tOfE (eBin (oInX false) (eVar 2) (eTup (aCons (eC (.str [112, 97, 103, 101])) (aCons (eC (.str [114, 105, 103, 104, 116])) aNil))))) (sRet (eTup (aCons (eVar 2) aNil))) sNext) (sRet (eIf (tOfE (eBin oEq (eVar 2) (eC (.str [116, 97, 98, 108, 101, 115])))) (eTup (aCons (eVar 2) (aCons (eVar 3) (aCons (eBin oAdd (eC (.int 1)) (eCall 28 (aCons (eVar 0) (aCons (eVar 1) aNil)))) aNil)))) (eTup (aCons (eVar 2) (aCons (eVar 3) aNil))))))))

/- _law_up(height, x) slots ['height', 'x'] -/
def x__law_up : Sx := (sRet (eBin oAdd (eVar 1) (eBin oMod (eFun nInt (aCons (eBin oSub (eVar 0) (eBin oMod (eFun nInt (aCons (eVar 1) aNil)) (eVar 0))) aNil)) (eVar 0))))

/- _law_stepped(height, first, x, step) slots ['height', 'first', 'x', 'step', 'word', 'rest', 'lap'] -/
def x__law_stepped : Sx := (sSeq (sAsg (eBin oIx (eVar 3) (eC (.int 0))) (gNm 4)) (sSeq (sIf (tOfE (eBin oEq (eVar 4) (eC (.str [108, 105, 110, 101, 115])))) (sRet (eBin oAdd (eVar 2) (eBin oIx (eVar 3) (eC (.int 1))))) sNext) (sSeq (sIf (tOfE (eBin oEq (eVar 4) (eC (.str [107, 101, 112, 116])))) (sSeq (sAsg (eBin oMod (eFun nInt (aCons (eVar 2) aNil)) (eVar 0)) (gNm 5)) (sRet (eBin oAdd (eIf (tAndD (tOfE (eBin oGt (eVar 5) (eC (.int 0)))) (tOfE (eBin oGt (eBin oAdd (eVar 5) (eBin oIx (eVar 3) (eC (.int 1)))) (eVar 0)))) (eCall 32 (aCons (eVar 0) (aCons (eVar 2) aNil))) (eVar 2)) (eBin oIx (eVar 3) (eC (.int 1)))))) sNext) (sSeq (sIf (tOfE (eBin oEq (eVar 4) (eC (.str [103, 97, 112])))) (sRet (eIf (tOfE (eBin oEq (eBin oMod (eFun nInt (aCons (eVar 2) aNil)) (eVar 0)) (eC (.int 0)))) (eVar 2) (eFun nMin (aCons (eBin oAdd (eVar 2) (eBin oIx (eVar 3) (eC (.int 1)))) (aCons (eCall 32 (aCons (eVar 0) (aCons (eVar 2) aNil))) aNil))))) sNext) (sSeq (sIf (tOfE (eBin oEq (eVar 4) (eC (.str [116, 97, 98, 108, 101, 115])))) (sSeq (sFor (iRange1 (aCons (eBin oIx (eVar 3) (eC (.int 1))) aNil)) (gNm 6) (sAsg (eCall 33 (aCons (eVar 0) (aCons (eVar 1) (aCons (eVar 2) (aCons (eTup (aCons (eC (.str [107, 101, 112, 116])) (aCons (eBin oIx (eVar 3) (eC (.int 2))) aNil))) aNil))))) (gNm 2))) (sRet (eVar 2))) sNext) (sSeq (sAsg (eCall 32 (aCons (eVar 0) (aCons (eVar 2) aNil))) (gNm 2)) (sSeq (sIf (tAndD (tOfE (eBin oEq (eVar 4) (eC (.str [114, 105, 103, 104, 116])))) (tOfE (eBin oEq (eBin oMod (eFun nInt (aCons (eBin oAdd (eVar 1) (eBin oDiv (eVar 2) (eVar 0))) aNil)) (eC (.int 2))) (eC (.int 0))))) (sAsg (eBin oAdd (eVar 2) (eVar 0)) (gNm 2)) sNext) (sRet (eIf (tOfE (eBin oEq (eVar 4) (eC (.str [112, 108, 97, 116, 101, 115])))) (eBin oAdd (eVar 2) (eBin oMul (eBin oIx (eVar 3) (eC (.int 1))) (eVar 0))) (eVar 2))))))))))

/- _law_pairs(height, one, other) slots ['height', 'one', 'other', 'found', 'each'] -/
def x__law_pairs : Sx := (sSeq (sAsg (eLst (aCons (eTup (aCons (eTup (aCons (eTup (aCons (eC (.str [103, 97, 112])) (aCons (eVar 1) aNil))) (aCons (eTup (aCons (eC (.str [112, 97, 103, 101])) aNil)) aNil))) (aCons (eTup (aCons (eTup (aCons (eC (.str [112, 97, 103, 101])) aNil)) aNil)) aNil))) (aCons (eTup (aCons (eTup (aCons (eTup (aCons (eC (.str [112, 97, 103, 101])) aNil)) (aCons (eTup (aCons (eC (.str [112, 97, 103, 101])) aNil)) aNil))) (aCons (eTup (aCons (eTup (aCons (eC (.str [112, 97, 103, 101])) aNil)) aNil)) aNil))) aNil))) (gNm 3)) (sSeq (sExp (eMt (eVar 3) (aCons (eTup (aCons (eTup (aCons (eTup (aCons (eC (.str [103, 97, 112])) (aCons (eVar 1) aNil))) (aCons (eTup (aCons (eC (.str [114, 105, 103, 104, 116])) aNil)) aNil))) (aCons (eTup (aCons (eTup (aCons (eC (.str [114, 105, 103, 104, 116])) aNil)) aNil)) aNil))) aNil) isLst mApp)) (sSeq (sExp (eMt (eVar 3) (aCons (eTup (aCons (eTup (aCons (eTup (aCons (eC (.str [112, 97, 103, 101])) aNil)) (aCons (eTup (aCons (eC (.str [114, 105, 103, 104, 116])) aNil)) aNil))) (aCons (eTup (aCons (eTup (aCons (eC (.str [114, 105, 103, 104, 116])) aNil)) aNil)) aNil))) aNil) isLst mApp)) (sSeq (sExp (eMt (eVar 3) (aCons (eTup (aCons (eTup (aCons (eTup (aCons (eC (.str [114, 105, 103, 104, 116])) aNil)) (aCons (eTup (aCons (eC (.str [112, 97, 103, 101])) aNil)) aNil))) (aCons (eTup (aCons (eTup (aCons (eC (.str [114, 105, 103, 104, 116])) aNil)) aNil)) aNil))) aNil) isLst mApp)) (sSeq (sExp (eMt (eVar 3) (aCons (eTup (aCons (eTup (aCons (eTup (aCons (eC (.str [114, 105, 103, 104, 116])) aNil)) (aCons (eTup (aCons (eC (.str [114, 105, 103, 104, 116])) aNil)) aNil))) (aCons (eTup (aCons (eTup (aCons (eC (.str [114, 105, 103, 104, 116])) aNil)) aNil)) aNil))) aNil) isLst mApp)) (sSeq (sExp (eMt (eVar 3) (aCons (eTup (aCons (eTup (aCons (eTup (aCons (eC (.str [103, 97, 112])) (aCons (eVar 1) aNil))) (aCons (eTup (aCons (eC (.str [112, 108, 97, 116, 101, 115])) (aCons (eVar 2) aNil))) aNil))) (aCons (eTup (aCons (eTup (aCons (eC (.str [112, 108, 97, 116, 101, 115])) (aCons (eVar 2) aNil))) aNil)) aNil))) aNil) isLst mApp)) (sSeq (sExp (eMt (eVar 3) (aCons (eTup (aCons (eTup (aCons (eTup (aCons (eC (.str [112, 97, 103, 101])) aNil)) (aCons (eTup (aCons (eC (.str [112, 108, 97, 116, 101, 115])) (aCons (eVar 2) aNil))) aNil))) (aCons (eTup (aCons (eTup (aCons (eC (.str [112, 108, 97, 116, 101, 115])) (aCons (eVar 2) aNil))) aNil)) aNil))) aNil) isLst mApp)) (sSeq (sExp (eMt (eVar 3) (aCons (eTup (aCons (eTup (aCons (eTup (aCons (eC (.str [112, 108, 97, 116, 101, 115])) (aCons (eVar 1) aNil))) (aCons (eTup (aCons (eC (.str [112, 97, 103, 101])) aNil)) aNil))) (aCons (eTup (aCons (eTup (aCons (eC (.str [112, 108, 97, 116, 101, 115])) (aCons (eVar 1) aNil))) aNil)) aNil))) aNil) isLst mApp)) (sSeq (sExp (eMt (eVar 3) (aCons (eTup (aCons (eTup (aCons (eTup (aCons (eC (.str [112, 108, 97, 116, 101, 115])) (aCons (eC (.int 0)) aNil))) aNil)) (aCons (eTup (aCons (eTup (aCons (eC (.str [112, 97, 103, 101])) aNil)) aNil)) aNil))) aNil) isLst mApp)) (sSeq (sExp (eMt (eVar 3) (aCons (eTup (aCons (eTup (aCons (eTup (aCons (eC (.str [112, 108, 97, 116, 101, 115])) (aCons (eVar 1) aNil))) (aCons (eTup (aCons (eC (.str [112, 108, 97, 116, 101, 115])) (aCons (eVar 2) aNil))) aNil))) (aCons (eTup (aCons (eTup (aCons (eC (.str [112, 108, 97, 116, 101, 115])) (aCons (eBin oAdd (eVar 1) (eVar 2)) aNil))) aNil)) aNil))) aNil) isLst mApp)) (sSeq (sExp (eMt (eVar 3) (aCons (eTup (aCons (eTup (aCons (eTup (aCons (eC (.str [108, 105, 110, 101, 115])) (aCons (eVar 1) aNil))) (aCons (eTup (aCons (eC (.str [108, 105, 110, 101, 115])) (aCons (eVar 2) aNil))) aNil))) (aCons (eTup (aCons (eTup (aCons (eC (.str [108, 105, 110, 101, 115])) (aCons (eBin oAdd (eVar 1) (eVar 2)) aNil))) aNil)) aNil))) aNil) isLst mApp)) (sSeq (sExp (eMt (eVar 3) (aCons (eTup (aCons (eTup (aCons (eTup (aCons (eC (.str [103, 97, 112])) (aCons (eVar 1) aNil))) (aCons (eTup (aCons (eC (.str [103, 97, 112])) (aCons (eVar 2) aNil))) aNil))) (aCons (eTup (aCons (eTup (aCons (eC (.str [103, 97, 112])) (aCons (eBin oAdd (eVar 1) (eVar 2)) aNil))) aNil)) aNil))) aNil) isLst mApp)) (sSeq (sExp (eMt (eVar 3) (aCons (eTup (aCons (eTup (aCons (eTup (aCons (eC (.str [103, 97, 112])) (aCons (eBin oAdd (eVar 0) (eVar 1)) aNil))) aNil)) (aCons (eTup (aCons (eTup (aCons (eC (.str [112, 97, 103, 101])) aNil)) aNil)) aNil))) aNil) isLst mApp)) (sSeq (sExp (eMt (eVar 3) (aCons (eTup (aCons (eTup (aCons (eTup (aCons (eC (.str [108, 105, 110, 101, 115])) (aCons (eC (.int 0)) aNil))) aNil)) (aCons (eTup aNil) aNil))) aNil) isLst mApp)) (sSeq (sExp (eMt (eVar 3) (aCons (eTup (aCons (eTup (aCons (eTup (aCons (eC (.str [103, 97, 112])) (aCons (eC (.int 0)) aNil))) aNil)) (aCons (eTup aNil) aNil))) aNil) isLst mApp)) (sSeq (sExp (eMt (eVar 3) (aCons (eTup (aCons (eTup (aCons (eTup (aCons (eC (.str [107, 101, 112, 116])) (aCons (eC (.int 0)) aNil))) aNil)) (aCons (eTup aNil) aNil))) aNil) isLst mApp)) (sSeq (sExp (eMt (eVar 3) (aCons (eTup (aCons (eTup (aCons (eTup (aCons (eC (.str [116, 97, 98, 108, 101, 115])) (aCons (eC (.int 0)) (aCons (eVar 0) aNil)))) aNil)) (aCons (eTup aNil) aNil))) aNil) isLst mApp)) (sSeq (sExp (eMt (eVar 3) (aCons (eTup (aCons (eTup (aCons (eTup (aCons (eC (.str [107, 101, 112, 116])) (aCons (eC (.int 1)) aNil))) aNil)) (aCons (eTup (aCons (eTup (aCons (eC (.str [108, 105, 110, 101, 115])) (aCons (eC (.int 1)) aNil))) aNil)) aNil))) aNil) isLst mApp)) (sSeq (sExp (eMt (eVar 3) (aCons (eTup (aCons (eTup (aCons (eTup (aCons (eC (.str [116, 97, 98, 108, 101, 115])) (aCons (eVar 1) (aCons (eC (.int 1)) aNil)))) aNil)) (aCons (eTup (aCons (eTup (aCons (eC (.str [108, 105, 110, 101, 115])) (aCons (eVar 1) aNil))) aNil)) aNil))) aNil) isLst mApp)) (sSeq (sExp (eMt (eVar 3) (aCons (eTup (aCons (eTup (aCons (eTup (aCons (eC (.str [116, 97, 98, 108, 101, 115])) (aCons (eVar 1) (aCons (eVar 0) aNil)))) aNil)) (aCons (eIf (tOfE (eBin oGt (eVar 1) (eC (.int 0)))) (eTup (aCons (eTup (aCons (eC (.str [112, 97, 103, 101])) aNil)) (aCons (eTup (aCons (eC (.str [108, 105, 110, 101, 115])) (aCons (eBin oMul (eVar 1) (eVar 0)) aNil))) aNil))) (eTup aNil)) aNil))) aNil) isLst mApp)) (sSeq (sExp (eMt (eVar 3) (aCons (eTup (aCons (eTup (aCons (eTup (aCons (eC (.str [107, 101, 112, 116])) (aCons (eBin oAdd (eVar 0) (eVar 1)) aNil))) aNil)) (aCons (eTup (aCons (eTup (aCons (eC (.str [112, 97, 103, 101])) aNil)) (aCons (eTup (aCons (eC (.str [108, 105, 110, 101, 115])) (aCons (eBin oAdd (eVar 0) (eVar 1)) aNil))) aNil))) aNil))) aNil) isLst mApp)) (sSeq (sExp (eMt (eVar 3) (aCons (eTup (aCons (eTup (aCons (eTup (aCons (eC (.str [112, 108, 97, 116, 101, 115])) (aCons (eVar 1) aNil))) aNil)) (aCons (eTup (aCons (eTup (aCons (eC (.str [112, 97, 103, 101])) aNil)) (aCons (eTup (aCons (eC (.str [108, 105, 110, 101, 115])) (aCons (eBin oMul (eVar 1) (eVar 0)) aNil))) aNil))) aNil))) aNil) isLst mApp)) (sSeq (sAsg (eBin oAdd (eC (.int 1)) (eBin oMod (eFun nInt (aCons (eVar 1) aNil)) (eVar 0))) (gNm 4)) (sSeq (sExp (eMt (eVar 3) (aCons (eTup (aCons (eTup (aCons (eTup (aCons (eC (.str [116, 97, 98, 108, 101, 115])) (aCons (eVar 1) (aCons (eVar 4) aNil)))) (aCons (eTup (aCons (eC (.str [116, 97, 98, 108, 101, 115])) (aCons (eVar 2) (aCons (eVar 4) aNil)))) aNil))) (aCons (eTup (aCons (eTup (aCons (eC (.str [116, 97, 98, 108, 101, 115])) (aCons (eBin oAdd (eVar 1) (eVar 2)) (aCons (eVar 4) aNil)))) aNil)) aNil))) aNil) isLst mApp)) (sSeq (sExp (eMt (eVar 3) (aCons (eTup (aCons (eTup (aCons (eTup (aCons (eC (.str [116, 97, 98, 108, 101, 115])) (aCons (eC (.int 1)) (aCons (eVar 4) aNil)))) aNil)) (aCons (eTup (aCons (eTup (aCons (eC (.str [107, 101, 112, 116])) (aCons (eVar 4) aNil))) aNil)) aNil))) aNil) isLst mApp)) (sRet (eBin oAdd (eVar 3) (eLst (aCons (eTup (aCons (eTup (aCons (eTup (aCons (eC (.str [107, 101, 112, 116])) (aCons (eVar 4) aNil))) (aCons (eTup (aCons (eC (.str [107, 101, 112, 116])) (aCons (eVar 4) aNil))) aNil))) (aCons (eTup (aCons (eTup (aCons (eC (.str [116, 97, 98, 108, 101, 115])) (aCons (eC (.int 2)) (aCons (eVar 4) aNil)))) aNil)) aNil))) aNil)))))))))))))))))))))))))))))

/- _law_led(height, first, x, steps) slots ['height', 'first', 'x', 'steps', 'step'] -/
def x__law_led : Sx := (sSeq (sFor (iSeq (eVar 3)) (gNm 4) (sAsg (eCall 33 (aCons (eVar 0) (aCons (eVar 1) (aCons (eVar 2) (aCons (eVar 4) aNil))))) (gNm 2))) (sRet (eVar 2)))

/- _law_is_pair_right(pot, height, first, one, other) slots ['pot', 'height', 'first', 'one', 'other', 'table', 'lap', 'x', 'due'] -/
def x__law_is_pair_right : Sx := (sSeq (sAsg (eCall 16 (aCons (eVar 1) (aCons (eVar 2) (aCons (eVar 3) aNil)))) (gNm 5)) (sSeq (sIf (tOrD (tOfE (eBin oNe (eVar 5) (eCall 16 (aCons (eVar 1) (aCons (eVar 2) (aCons (eVar 4) aNil)))))) (tOfE (eBin (oIs true) (eCall 20 (aCons (eVar 1) (aCons (eVar 5) aNil))) (eC (.bl true))))) (sRet (eC (.bl false))) sNext) (sSeq (sIf (tOrD (tOfE (eBin (oIs true) (eCall 25 (aCons (eVar 1) (aCons (eVar 2) (aCons (eVar 3) (aCons (eVar 4) aNil))))) (eC .non))) (tOfE (eBin (oIs true) (eCall 26 (aCons (eVar 1) (aCons (eVar 2) (aCons (eVar 3) (aCons (eVar 4) aNil))))) (eC .non)))) (sRet (eC (.bl false))) sNext) (sSeq (sFor (iRange1 (aCons (eC (.int 2)) aNil)) (gNm 6) (sSeq (sAsg (eCall 29 (aCons (eVar 0) (aCons (eLst (aCons (eCall 28 (aCons (eVar 0) (aCons (eBin oMul (eC (.int 4)) (eVar 1)) aNil))) (aCons (eCall 28 (aCons (eVar 0) (aCons (eBin oPow (eC (.int 10)) (eC (.int 30))) aNil))) aNil))) aNil))) (gNm 7)) (sSeq (sAsg (eCall 35 (aCons (eVar 1) (aCons (eVar 2) (aCons (eVar 7) (aCons (eVar 3) aNil))))) (gNm 8)) (sSeq (sIf (tOrD (tOfE (eBin oNe (eCall 12 (aCons (eVar 1) (aCons (eVar 2) (aCons (eVar 7) (aCons (eVar 3) aNil))))) (eVar 8))) (tOfE (eBin oNe (eCall 12 (aCons (eVar 1) (aCons (eVar 2) (aCons (eVar 7) (aCons (eVar 4) aNil))))) (eVar 8)))) (sRet (eC (.bl false))) sNext) (sIf (tOfE (eBin oNe (eCall 22 (aCons (eVar 1) (aCons (eVar 5) (aCons (eVar 7) aNil)))) (eVar 8))) (sRet (eC (.bl false))) sNext))))) (sRet (eC (.bl true)))))))

/- _law_right(pot) slots ['pot', 'height', 'first', 'one', 'other', 'pairs', 'mine', 'its', 'ahead', 'behind_v', 'both', 'turned', 'due', 'x', 'is_same'] -/
def x__law_right : Sx := (sSeq (sPar 1 2 (aCons (eBin oAdd (eC (.int 1)) (eCall 28 (aCons (eVar 0) (aCons (eC (.int 8)) aNil)))) (aCons (eBin oAdd (eC (.int 1)) (eCall 28 (aCons (eVar 0) (aCons (eC (.int 40)) aNil)))) aNil))) (sSeq (sPar 3 4 (aCons (eCall 28 (aCons (eVar 0) (aCons (eCall 29 (aCons (eVar 0) (aCons (eLst (aCons (eC (.int 3)) (aCons (eC (.int 20)) aNil))) aNil))) aNil))) (aCons (eCall 28 (aCons (eVar 0) (aCons (eCall 29 (aCons (eVar 0) (aCons (eLst (aCons (eC (.int 3)) (aCons (eC (.int 20)) aNil))) aNil))) aNil))) aNil))) (sSeq (sAsg (eCall 34 (aCons (eVar 1) (aCons (eVar 3) (aCons (eVar 4) aNil)))) (gNm 5)) (sSeq (sFor (iSeq (eVar 5)) (gTp 2 (gsCons (gNm 6) (gsCons (gNm 7) gsNil))) (sIf (tNotD (tOfE (eCall 36 (aCons (eVar 0) (aCons (eVar 1) (aCons (eVar 2) (aCons (eVar 6) (aCons (eVar 7) aNil)))))))) (sRet (eC (.bl false))) sNext)) (sSeq (sPar 8 9 (aCons (eCall 31 (aCons (eVar 0) (aCons (eVar 1) aNil))) (aCons (eCall 31 (aCons (eVar 0) (aCons (eVar 1) aNil))) aNil))) (sSeq (sAsg (eCall 29 (aCons (eVar 0) (aCons (eVar 5) aNil))) (gTp 2 (gsCons (gNm 6) (gsCons (gNm 7) gsNil)))) (sSeq (sIf (tNotD (tOfE (eCall 36 (aCons (eVar 0) (aCons (eVar 1) (aCons (eVar 2) (aCons (eBin oAdd (eBin oAdd (eTup (aCons (eVar 8) aNil)) (eVar 6)) (eTup (aCons (eVar 9) aNil))) (aCons (eBin oAdd (eBin oAdd (eTup (aCons (eVar 8) aNil)) (eVar 7)) (eTup (aCons (eVar 9) aNil))) aNil)))))))) (sRet (eC (.bl false))) sNext) (sSeq (sPar 10 11 (aCons (eCall 16 (aCons (eVar 1) (aCons (eVar 2) (aCons (eTup (aCons (eVar 8) (aCons (eVar 9) aNil))) aNil)))) (aCons (eCall 16 (aCons (eVar 1) (aCons (eVar 2) (aCons (eTup (aCons (eVar 9) (aCons (eVar 8) aNil))) aNil)))) aNil))) (sSeq (sIf (tOfE (eBin oNe (eVar 10) (eCall 24 (aCons (eVar 1) (aCons (eCall 16 (aCons (eVar 1) (aCons (eVar 2) (aCons (eTup (aCons (eVar 8) aNil)) aNil)))) (aCons (eCall 16 (aCons (eVar 1) (aCons (eVar 2) (aCons (eTup (aCons (eVar 9) aNil)) aNil)))) aNil)))))) (sRet (eC (.bl false))) sNext) (sSeq (sAsg (eLst aNil) (gNm 12)) (sSeq (sFor (iRange1 (aCons (eBin oMul (eC (.int 2)) (eVar 1)) aNil)) (gNm 13) (sSeq (sAsg (eBin oEq (eCall 35 (aCons (eVar 1) (aCons (eVar 2) (aCons (eVar 13) (aCons (eTup (aCons (eVar 8) (aCons (eVar 9) aNil))) aNil))))) (eCall 35 (aCons (eVar 1) (aCons (eVar 2) (aCons (eVar 13) (aCons (eTup (aCons (eVar 9) (aCons (eVar 8) aNil))) aNil)))))) (gNm 14)) (sExp (eMt (eVar 12) (aCons (eIf (tOfE (eVar 14)) (eLst aNil) (eLst (aCons (eVar 13) aNil))) aNil) isLst mExt)))) (sSeq (sIf (tOfE (eBin oNe (eBin oEq (eVar 10) (eVar 11)) (eBin oEq (eVar 12) (eLst aNil)))) (sRet (eC (.bl false))) sNext) (sRet (eBin oEq (eCall 25 (aCons (eVar 1) (aCons (eVar 2) (aCons (eTup (aCons (eVar 8) (aCons (eVar 9) aNil))) (aCons (eTup (aCons (eVar 9) (aCons (eVar 8) aNil))) aNil))))) (eIf (tOfE (eBin oNe (eVar 12) (eLst aNil))) (eBin oIx (eVar 12) (eC (.int 0))) (eC .non))))))))))))))))

/- law(script) slots ['script', 'place', 'pot', 'lap'] -/
def x_law : Sx := (sSeq (sFor (iSeq (eCall 30 (aCons (eVar 0) (aCons (eC (.int 2)) aNil)))) (gNm 1) (sSeq (sAsg (eCall 27 (aCons (eVar 0) (aCons (eVar 1) aNil))) (gNm 2)) (sIf (tNotD (tOfE (eFun (nAll true) (aCons (eLc (iRange1 (aCons (eC (.int 2)) aNil)) [3] (gNm 3) tYesX (eCall 37 (aCons (eVar 2) aNil))) aNil)))) (sRet (eC (.bl false))) sNext))) (sRet (eC (.bl true))))

def T : Nat → Option Pd
  | 0 => some ⟨1, 1, x_is_whole⟩
  | 1 => some ⟨3, 3, x_is_between⟩
  | 2 => some ⟨2, 2, x_is_from⟩
  | 3 => some ⟨1, 1, x_is_times⟩
  | 4 => some ⟨2, 2, x_check_page⟩
  | 5 => some ⟨1, 1, x_check_lines⟩
  | 6 => some ⟨2, 2, x_is_step⟩
  | 7 => some ⟨2, 2, x_page_end⟩
  | 8 => some ⟨3, 4, x_kept_begin⟩
  | 9 => some ⟨4, 8, x_behind_tables⟩
  | 10 => some ⟨3, 4, x_right_begin⟩
  | 11 => some ⟨4, 4, x_done⟩
  | 12 => some ⟨4, 5, x_stepped_by⟩
  | 13 => some ⟨2, 3, x_check_steps⟩
  | 14 => some ⟨4, 5, x_led⟩
  | 15 => some ⟨3, 4, x_table_by⟩
  | 16 => some ⟨3, 3, x_table_of⟩
  | 17 => some ⟨2, 6, x_is_right_table⟩
  | 18 => some ⟨1, 1, x_check_height⟩
  | 19 => some ⟨2, 2, x_check_table⟩
  | 20 => some ⟨2, 2, x_is_table⟩
  | 21 => some ⟨3, 4, x_applied⟩
  | 22 => some ⟨3, 3, x_by_table⟩
  | 23 => some ⟨3, 4, x_behind⟩
  | 24 => some ⟨3, 3, x_then⟩
  | 25 => some ⟨4, 7, x_first_unlike_x⟩
  | 26 => some ⟨4, 7, x_first_later_x⟩
  | 27 => some ⟨2, 5, x__law_pot⟩
  | 28 => some ⟨2, 5, x__law_take⟩
  | 29 => some ⟨2, 2, x__law_of⟩
  | 30 => some ⟨2, 2, x__law_cells⟩
  | 31 => some ⟨2, 4, x__law_step⟩
  | 32 => some ⟨2, 2, x__law_up⟩
  | 33 => some ⟨4, 7, x__law_stepped⟩
  | 34 => some ⟨3, 5, x__law_pairs⟩
  | 35 => some ⟨4, 5, x__law_led⟩
  | 36 => some ⟨5, 9, x__law_is_pair_right⟩
  | 37 => some ⟨1, 15, x__law_right⟩
  | 38 => some ⟨1, 4, x_law⟩
  | _ => none
def names : List Str := [("is_whole" : Str), ("is_between" : Str), ("is_from" : Str), ("is_times" : Str), ("check_page" : Str), ("check_lines" : Str), ("is_step" : Str), ("page_end" : Str), ("kept_begin" : Str), ("behind_tables" : Str), ("right_begin" : Str), ("done" : Str), ("stepped_by" : Str), ("check_steps" : Str), ("led" : Str), ("table_by" : Str), ("table_of" : Str), ("is_right_table" : Str), ("check_height" : Str), ("check_table" : Str), ("is_table" : Str), ("applied" : Str), ("by_table" : Str), ("behind" : Str), ("then" : Str), ("first_unlike_x" : Str), ("first_later_x" : Str), ("_law_pot" : Str), ("_law_take" : Str), ("_law_of" : Str), ("_law_cells" : Str), ("_law_step" : Str), ("_law_up" : Str), ("_law_stepped" : Str), ("_law_pairs" : Str), ("_law_led" : Str), ("_law_is_pair_right" : Str), ("_law_right" : Str), ("law" : Str)]
abbrev KF : Nat := 1000000
end K85
set_option Elab.async false
set_option linter.all false
set_option maxRecDepth 100000
set_option maxHeartbeats 4000000

/-! each def does what its combinators say (printed by gen.py) -/
namespace K85
open PySem PySem.Spec PyProof.Rows L2 Pe

def top (i : Nat) : Stmt := PySem.Challenge.pw_seepage_k85_whole_rows_that_swallow_othe.main.body.getD i (.Pass ⟨0, 0, 0, 0⟩)
structure Ct (P : Program) (w : World) (K : PySem.W.Frag) (mg : Str → Option Value) (base : Heap) (G : Gm) (k : Nat) : Prop where
  hK : G.K = K
  f_is_whole : Fc P w K mg base G (ecN T KF k) k 0 "is_whole"
  f_is_between : Fc P w K mg base G (ecN T KF k) k 1 "is_between"
  f_is_from : Fc P w K mg base G (ecN T KF k) k 2 "is_from"
  f_is_times : Fc P w K mg base G (ecN T KF k) k 3 "is_times"
  f_check_page : Fc P w K mg base G (ecN T KF k) k 4 "check_page"
  f_check_lines : Fc P w K mg base G (ecN T KF k) k 5 "check_lines"
  f_is_step : Fc P w K mg base G (ecN T KF k) k 6 "is_step"
  f_page_end : Fc P w K mg base G (ecN T KF k) k 7 "page_end"
  f_kept_begin : Fc P w K mg base G (ecN T KF k) k 8 "kept_begin"
  f_behind_tables : Fc P w K mg base G (ecN T KF k) k 9 "behind_tables"
  f_right_begin : Fc P w K mg base G (ecN T KF k) k 10 "right_begin"
  f_done : Fc P w K mg base G (ecN T KF k) k 11 "done"
  f_stepped_by : Fc P w K mg base G (ecN T KF k) k 12 "stepped_by"
  f_check_steps : Fc P w K mg base G (ecN T KF k) k 13 "check_steps"
  f_led : Fc P w K mg base G (ecN T KF k) k 14 "led"
  f_table_by : Fc P w K mg base G (ecN T KF k) k 15 "table_by"
  f_table_of : Fc P w K mg base G (ecN T KF k) k 16 "table_of"
  f_is_right_table : Fc P w K mg base G (ecN T KF k) k 17 "is_right_table"
  f_check_height : Fc P w K mg base G (ecN T KF k) k 18 "check_height"
  f_check_table : Fc P w K mg base G (ecN T KF k) k 19 "check_table"
  f_is_table : Fc P w K mg base G (ecN T KF k) k 20 "is_table"
  f_applied : Fc P w K mg base G (ecN T KF k) k 21 "applied"
  f_by_table : Fc P w K mg base G (ecN T KF k) k 22 "by_table"
  f_behind : Fc P w K mg base G (ecN T KF k) k 23 "behind"
  f_then : Fc P w K mg base G (ecN T KF k) k 24 "then"
  f_first_unlike_x : Fc P w K mg base G (ecN T KF k) k 25 "first_unlike_x"
  f_first_later_x : Fc P w K mg base G (ecN T KF k) k 26 "first_later_x"
  f__law_pot : Fc P w K mg base G (ecN T KF k) k 27 "_law_pot"
  f__law_take : Fc P w K mg base G (ecN T KF k) k 28 "_law_take"
  f__law_of : Fc P w K mg base G (ecN T KF k) k 29 "_law_of"
  f__law_cells : Fc P w K mg base G (ecN T KF k) k 30 "_law_cells"
  f__law_step : Fc P w K mg base G (ecN T KF k) k 31 "_law_step"
  f__law_up : Fc P w K mg base G (ecN T KF k) k 32 "_law_up"
  f__law_stepped : Fc P w K mg base G (ecN T KF k) k 33 "_law_stepped"
  f__law_pairs : Fc P w K mg base G (ecN T KF k) k 34 "_law_pairs"
  f__law_led : Fc P w K mg base G (ecN T KF k) k 35 "_law_led"
  f__law_is_pair_right : Fc P w K mg base G (ecN T KF k) k 36 "_law_is_pair_right"
  f__law_right : Fc P w K mg base G (ecN T KF k) k 37 "_law_right"
  f_law : Fc P w K mg base G (ecN T KF k) k 38 "law"
  n_abs : mg "abs" = none
  n_all : mg "all" = none
  n_bool : mg "bool" = none
  n_enumerate : mg "enumerate" = none
  n_int : mg "int" = none
  n_isinstance : mg "isinstance" = none
  n_len : mg "len" = none
  n_list : mg "list" = none
  n_max : mg "max" = none
  n_min : mg "min" = none
  n_range : mg "range" = none
  n_str : mg "str" = none
  n_tuple : mg "tuple" = none
  n_zip : mg "zip" = none
  c_GAP : ∃ t, mg "GAP" = some (.str "gap" t)
  c_KEPT : ∃ t, mg "KEPT" = some (.str "kept" t)
  c_LINES : ∃ t, mg "LINES" = some (.str "lines" t)
  c_MOST_FIRST : ∃ t, mg "MOST_FIRST" = some (.int 999999 t)
  c_MOST_HEIGHT : ∃ t, mg "MOST_HEIGHT" = some (.int 60 t)
  c_MOST_TIMES : ∃ t, mg "MOST_TIMES" = some (.int 1000000000000000000000000000000 t)
  c_PAGE : ∃ t, mg "PAGE" = some (.str "page" t)
  c_PLATES : ∃ t, mg "PLATES" = some (.str "plates" t)
  c_RIGHT : ∃ t, mg "RIGHT" = some (.str "right" t)
  c_TABLES : ∃ t, mg "TABLES" = some (.str "tables" t)
section
variable {P : Program} {w : World} {K : PySem.W.Frag} {mg : Str → Option Value} {base : Heap} {G : Gm} {k : Nat}
theorem sc_is_whole : FnScope ["value"] ["value"] (defScope (top 9)) := ⟨rfl, rfl, rfl, by decide +kernel, rfl, by decide +kernel, by decide +kernel⟩
theorem w_is_whole (C : Ct P w K mg base G k) (cdv : Value) (A : Around) (outer : List PySem.Env) (s : Shared) (H : Hp) (E : XK) (hr : Room k (A.deeper (envOfC "is_whole" (defScope (top 9)) s.heap.objs.size (G.fn 0) cdv))) :
    PSs (cxOf CX0 P w K mg base ["value"] "is_whole" (defScope (top 9)) (G.fn 0) cdv A outer s H E).nox (defBody (top 9)) (tS G (ecN T KF k) x_is_whole) :=
  have hK := C.hK
  have nd := (sc_is_whole).nd
  (s_one (s_ret (e_and hK (isi .int hK C.n_isinstance C.n_int boot_int (v 0)) (e_one (e_not hK (isi .bl hK C.n_isinstance C.n_bool boot_bool (v 0)))))))
theorem sc_is_between : FnScope ["value", "low", "high"] ["value", "low", "high"] (defScope (top 10)) := ⟨rfl, rfl, rfl, by decide +kernel, rfl, by decide +kernel, by decide +kernel⟩
theorem w_is_between (C : Ct P w K mg base G k) (cdv : Value) (A : Around) (outer : List PySem.Env) (s : Shared) (H : Hp) (E : XK) (hr : Room k (A.deeper (envOfC "is_between" (defScope (top 10)) s.heap.objs.size (G.fn 1) cdv))) :
    PSs (cxOf CX0 P w K mg base ["value", "low", "high"] "is_between" (defScope (top 10)) (G.fn 1) cdv A outer s H E).nox (defBody (top 10)) (tS G (ecN T KF k) x_is_between) :=
  have hK := C.hK
  have nd := (sc_is_between).nd
  (s_one (s_ret (e_and hK (cl C.f_is_whole hr (ac (v 0) a_nil)) (e_one (ch op_oLe op_oLe (v 1) (v 0) (v 2))))))
theorem sc_is_from : FnScope ["value", "low"] ["value", "low"] (defScope (top 11)) := ⟨rfl, rfl, rfl, by decide +kernel, rfl, by decide +kernel, by decide +kernel⟩
theorem w_is_from (C : Ct P w K mg base G k) (cdv : Value) (A : Around) (outer : List PySem.Env) (s : Shared) (H : Hp) (E : XK) (hr : Room k (A.deeper (envOfC "is_from" (defScope (top 11)) s.heap.objs.size (G.fn 2) cdv))) :
    PSs (cxOf CX0 P w K mg base ["value", "low"] "is_from" (defScope (top 11)) (G.fn 2) cdv A outer s H E).nox (defBody (top 11)) (tS G (ecN T KF k) x_is_from) :=
  have hK := C.hK
  have nd := (sc_is_from).nd
  (s_one (s_ret (e_and hK (cl C.f_is_whole hr (ac (v 0) a_nil)) (e_one (cm op_oGe (v 0) (v 1))))))
theorem sc_is_times : FnScope ["value"] ["value"] (defScope (top 12)) := ⟨rfl, rfl, rfl, by decide +kernel, rfl, by decide +kernel, by decide +kernel⟩
theorem w_is_times (C : Ct P w K mg base G k) (cdv : Value) (A : Around) (outer : List PySem.Env) (s : Shared) (H : Hp) (E : XK) (hr : Room k (A.deeper (envOfC "is_times" (defScope (top 12)) s.heap.objs.size (G.fn 3) cdv))) :
    PSs (cxOf CX0 P w K mg base ["value"] "is_times" (defScope (top 12)) (G.fn 3) cdv A outer s H E).nox (defBody (top 12)) (tS G (ecN T KF k) x_is_times) :=
  have hK := C.hK
  have nd := (sc_is_times).nd
  (s_one (s_ret (cl C.f_is_between hr (ac (v 0) (ac e_int (ac (gi C.c_MOST_TIMES) a_nil))))))
theorem sc_check_page : FnScope ["height", "first"] ["height", "first"] (defScope (top 23)) := ⟨rfl, rfl, rfl, by decide +kernel, rfl, by decide +kernel, by decide +kernel⟩
theorem w_check_page (C : Ct P w K mg base G k) (cdv : Value) (A : Around) (outer : List PySem.Env) (s : Shared) (H : Hp) (E : XK) (hr : Room k (A.deeper (envOfC "check_page" (defScope (top 23)) s.heap.objs.size (G.fn 4) cdv))) :
    PSs (cxOf CX0 P w K mg base ["height", "first"] "check_page" (defScope (top 23)) (G.fn 4) cdv A outer s H E).nox (defBody (top 23)) (tS G (ecN T KF k) x_check_page) :=
  have hK := C.hK
  have nd := (sc_check_page).nd
  (s_cons (s_if (t_not (tv hK (cl C.f_is_between hr (ac (v 0) (ac e_int (ac (gi C.c_MOST_HEIGHT) a_nil)))))) (s_one s_nev) s_nil)
  (s_one (s_if (t_not (tv hK (cl C.f_is_between hr (ac (v 1) (ac e_int (ac (gi C.c_MOST_FIRST) a_nil)))))) (s_one s_nev) s_nil)))
theorem sc_check_lines : FnScope ["lines"] ["lines"] (defScope (top 24)) := ⟨rfl, rfl, rfl, by decide +kernel, rfl, by decide +kernel, by decide +kernel⟩
theorem w_check_lines (C : Ct P w K mg base G k) (cdv : Value) (A : Around) (outer : List PySem.Env) (s : Shared) (H : Hp) (E : XK) (hr : Room k (A.deeper (envOfC "check_lines" (defScope (top 24)) s.heap.objs.size (G.fn 5) cdv))) :
    PSs (cxOf CX0 P w K mg base ["lines"] "check_lines" (defScope (top 24)) (G.fn 5) cdv A outer s H E).nox (defBody (top 24)) (tS G (ecN T KF k) x_check_lines) :=
  have hK := C.hK
  have nd := (sc_check_lines).nd
  (s_one (s_if (t_not (tv hK (cl C.f_is_from hr (ac (v 0) (ac e_int a_nil))))) (s_one s_nev) s_nil))
theorem sc_is_step : FnScope ["height", "value"] ["height", "value"] (defScope (top 25)) := ⟨rfl, rfl, rfl, by decide +kernel, rfl, by decide +kernel, by decide +kernel⟩
theorem w_is_step (C : Ct P w K mg base G k) (cdv : Value) (A : Around) (outer : List PySem.Env) (s : Shared) (H : Hp) (E : XK) (hr : Room k (A.deeper (envOfC "is_step" (defScope (top 25)) s.heap.objs.size (G.fn 6) cdv))) :
    PSs (cxOf CX0 P w K mg base ["height", "value"] "is_step" (defScope (top 25)) (G.fn 6) cdv A outer s H E).nox (defBody (top 25)) (tS G (ecN T KF k) x_is_step) :=
  have hK := C.hK
  have nd := (sc_is_step).nd
  (s_cons (s_if (w_or (t_not (tv hK (isi .tup hK C.n_isinstance C.n_tuple boot_tuple (v 1)))) (w_or (ct (op_oEq hK hr.units) bool_oEq (v 1) (e_tup a_nil)) (w_one_or (t_not (tv hK (isi .str hK C.n_isinstance C.n_str boot_str (ix hK (v 1) e_int))))))).pt (s_one (s_ret e_bl)) s_nil)
  (s_cons (s_if (ct (op_oIn hK) bool_oInX (ix hK (v 1) e_int) (e_tup (ac (gs C.c_PAGE) (ac (gs C.c_RIGHT) a_nil)))) (s_one (s_ret (cm (op_oEq hK hr.units) (fB (op_nLen hK) C.n_len boot_len (ac (v 1) a_nil)) e_int))) s_nil)
  (s_cons (s_if (ct (op_oEq hK hr.units) bool_oEq (ix hK (v 1) e_int) (gs C.c_TABLES)) (s_one (s_ret (e_and hK (cm (op_oEq hK hr.units) (fB (op_nLen hK) C.n_len boot_len (ac (v 1) a_nil)) e_int) (e_and hK (cl C.f_is_times hr (ac (ix hK (v 1) e_int) a_nil)) (e_one (cl C.f_is_between hr (ac (ix hK (v 1) e_int) (ac e_int (ac (v 0) a_nil))))))))) s_nil)
  (s_one (s_ret (e_and hK (cm (op_oIn hK) (ix hK (v 1) e_int) (e_tup (ac (gs C.c_LINES) (ac (gs C.c_KEPT) (ac (gs C.c_GAP) (ac (gs C.c_PLATES) a_nil)))))) (e_and hK (cm (op_oEq hK hr.units) (fB (op_nLen hK) C.n_len boot_len (ac (v 1) a_nil)) e_int) (e_one (cl C.f_is_times hr (ac (ix hK (v 1) e_int) a_nil))))))))))
theorem sc_page_end : FnScope ["height", "lines"] ["height", "lines"] (defScope (top 26)) := ⟨rfl, rfl, rfl, by decide +kernel, rfl, by decide +kernel, by decide +kernel⟩
theorem w_page_end (C : Ct P w K mg base G k) (cdv : Value) (A : Around) (outer : List PySem.Env) (s : Shared) (H : Hp) (E : XK) (hr : Room k (A.deeper (envOfC "page_end" (defScope (top 26)) s.heap.objs.size (G.fn 7) cdv))) :
    PSs (cxOf CX0 P w K mg base ["height", "lines"] "page_end" (defScope (top 26)) (G.fn 7) cdv A outer s H E).nox (defBody (top 26)) (tS G (ecN T KF k) x_page_end) :=
  have hK := C.hK
  have nd := (sc_page_end).nd
  (s_one (s_ret (e_bin (op_oAdd hK) (v 1) (e_bin op_oMod (e_neg (v 1)) (v 0)))))
theorem sc_kept_begin : FnScope ["height", "lines", "many", "rest"] ["height", "lines", "many"] (defScope (top 27)) := ⟨rfl, rfl, rfl, by decide +kernel, rfl, by decide +kernel, by decide +kernel⟩
theorem w_kept_begin (C : Ct P w K mg base G k) (cdv : Value) (A : Around) (outer : List PySem.Env) (s : Shared) (H : Hp) (E : XK) (hr : Room k (A.deeper (envOfC "kept_begin" (defScope (top 27)) s.heap.objs.size (G.fn 8) cdv))) :
    PSs (cxOf CX0 P w K mg base ["height", "lines", "many", "rest"] "kept_begin" (defScope (top 27)) (G.fn 8) cdv A outer s H E).nox (defBody (top 27)) (tS G (ecN T KF k) x_kept_begin) :=
  have hK := C.hK
  have nd := (sc_kept_begin).nd
  (s_cons (ss 3 nd (e_bin op_oMod (v 1) (v 0)))
  (s_one (s_ret (e_if (w_and (ct op_oGt bool_oI0 (v 3) e_int) (w_one_and (ct op_oGt bool_oI0 (e_bin (op_oAdd hK) (v 3) (v 2)) (v 0)))).pt (cl C.f_page_end hr (ac (v 0) (ac (v 1) a_nil))) (v 1)))))
theorem sc_behind_tables : FnScope ["height", "lines", "many", "each", "room", "left", "on_page", "pages"] ["height", "lines", "many", "each"] (defScope (top 28)) := ⟨rfl, rfl, rfl, by decide +kernel, rfl, by decide +kernel, by decide +kernel⟩
theorem w_behind_tables (C : Ct P w K mg base G k) (cdv : Value) (A : Around) (outer : List PySem.Env) (s : Shared) (H : Hp) (E : XK) (hr : Room k (A.deeper (envOfC "behind_tables" (defScope (top 28)) s.heap.objs.size (G.fn 9) cdv))) :
    PSs (cxOf CX0 P w K mg base ["height", "lines", "many", "each", "room", "left", "on_page", "pages"] "behind_tables" (defScope (top 28)) (G.fn 9) cdv A outer s H E).nox (defBody (top 28)) (tS G (ecN T KF k) x_behind_tables) :=
  have hK := C.hK
  have nd := (sc_behind_tables).nd
  (s_cons (ss 4 nd (e_bin op_oDiv (e_bin op_oSub (v 0) (e_bin op_oMod (v 1) (v 0))) (v 3)))
  (s_cons (s_if (ct op_oLe bool_oI0 (v 2) (v 4)) (s_one (s_ret (e_bin (op_oAdd hK) (v 1) (e_bin op_oMul (v 2) (v 3))))) s_nil)
  (s_cons (sp 5 6 nd (ac (e_bin op_oSub (v 2) (v 4)) (ac (e_bin op_oDiv (v 0) (v 3)) a_nil)))
  (s_cons (ss 7 nd (e_bin op_oDiv (e_bin op_oSub (v 5) e_int) (v 6)))
  (s_one (s_ret (e_bin (op_oAdd hK) (e_bin (op_oAdd hK) (cl C.f_page_end hr (ac (v 0) (ac (e_bin (op_oAdd hK) (v 1) (e_bin op_oMul (v 4) (v 3))) a_nil))) (e_bin op_oMul (v 7) (v 0))) (e_bin op_oMul (e_bin op_oSub (v 5) (e_bin op_oMul (v 7) (v 6))) (v 3)))))))))
theorem sc_right_begin : FnScope ["height", "first", "lines", "begin"] ["height", "first", "lines"] (defScope (top 29)) := ⟨rfl, rfl, rfl, by decide +kernel, rfl, by decide +kernel, by decide +kernel⟩
theorem w_right_begin (C : Ct P w K mg base G k) (cdv : Value) (A : Around) (outer : List PySem.Env) (s : Shared) (H : Hp) (E : XK) (hr : Room k (A.deeper (envOfC "right_begin" (defScope (top 29)) s.heap.objs.size (G.fn 10) cdv))) :
    PSs (cxOf CX0 P w K mg base ["height", "first", "lines", "begin"] "right_begin" (defScope (top 29)) (G.fn 10) cdv A outer s H E).nox (defBody (top 29)) (tS G (ecN T KF k) x_right_begin) :=
  have hK := C.hK
  have nd := (sc_right_begin).nd
  (s_cons (ss 3 nd (cl C.f_page_end hr (ac (v 0) (ac (v 2) a_nil))))
  (s_one (s_ret (e_if (ct (op_oEq hK hr.units) bool_oEq (e_bin op_oMod (e_bin (op_oAdd hK) (v 1) (e_bin op_oDiv (v 3) (v 0))) e_int) e_int) (v 3) (e_bin (op_oAdd hK) (v 3) (v 0))))))
theorem sc_done : FnScope ["height", "first", "lines", "step"] ["height", "first", "lines", "step"] (defScope (top 30)) := ⟨rfl, rfl, rfl, by decide +kernel, rfl, by decide +kernel, by decide +kernel⟩
theorem w_done (C : Ct P w K mg base G k) (cdv : Value) (A : Around) (outer : List PySem.Env) (s : Shared) (H : Hp) (E : XK) (hr : Room k (A.deeper (envOfC "done" (defScope (top 30)) s.heap.objs.size (G.fn 11) cdv))) :
    PSs (cxOf CX0 P w K mg base ["height", "first", "lines", "step"] "done" (defScope (top 30)) (G.fn 11) cdv A outer s H E).nox (defBody (top 30)) (tS G (ecN T KF k) x_done) :=
  have hK := C.hK
  have nd := (sc_done).nd
  (s_cons (s_if (ct (op_oEq hK hr.units) bool_oEq (ix hK (v 3) e_int) (gs C.c_LINES)) (s_one (s_ret (e_bin (op_oAdd hK) (v 2) (ix hK (v 3) e_int)))) s_nil)
  (s_cons (s_if (ct (op_oEq hK hr.units) bool_oEq (ix hK (v 3) e_int) (gs C.c_KEPT)) (s_one (s_ret (e_bin (op_oAdd hK) (cl C.f_kept_begin hr (ac (v 0) (ac (v 2) (ac (ix hK (v 3) e_int) a_nil)))) (ix hK (v 3) e_int)))) s_nil)
  (s_cons (s_if (ct (op_oEq hK hr.units) bool_oEq (ix hK (v 3) e_int) (gs C.c_GAP)) (s_one (s_ret (fB (op_nMin hK rfl) C.n_min boot_min (ac (e_bin (op_oAdd hK) (v 2) (ix hK (v 3) e_int)) (ac (cl C.f_page_end hr (ac (v 0) (ac (v 2) a_nil))) a_nil))))) s_nil)
  (s_cons (s_if (ct (op_oEq hK hr.units) bool_oEq (ix hK (v 3) e_int) (gs C.c_PAGE)) (s_one (s_ret (cl C.f_page_end hr (ac (v 0) (ac (v 2) a_nil))))) s_nil)
  (s_cons (s_if (ct (op_oEq hK hr.units) bool_oEq (ix hK (v 3) e_int) (gs C.c_RIGHT)) (s_one (s_ret (cl C.f_right_begin hr (ac (v 0) (ac (v 1) (ac (v 2) a_nil)))))) s_nil)
  (s_cons (s_if (ct (op_oEq hK hr.units) bool_oEq (ix hK (v 3) e_int) (gs C.c_PLATES)) (s_one (s_ret (e_bin (op_oAdd hK) (cl C.f_page_end hr (ac (v 0) (ac (v 2) a_nil))) (e_bin op_oMul (ix hK (v 3) e_int) (v 0))))) s_nil)
  (s_one (s_ret (cl C.f_behind_tables hr (ac (v 0) (ac (v 2) (ac (ix hK (v 3) e_int) (ac (ix hK (v 3) e_int) a_nil)))))))))))))
theorem sc_stepped_by : FnScope ["height", "first", "x", "steps", "step"] ["height", "first", "x", "steps"] (defScope (top 31)) := ⟨rfl, rfl, rfl, by decide +kernel, rfl, by decide +kernel, by decide +kernel⟩
theorem w_stepped_by (C : Ct P w K mg base G k) (cdv : Value) (A : Around) (outer : List PySem.Env) (s : Shared) (H : Hp) (E : XK) (hr : Room k (A.deeper (envOfC "stepped_by" (defScope (top 31)) s.heap.objs.size (G.fn 12) cdv))) :
    PSs (cxOf CX0 P w K mg base ["height", "first", "x", "steps", "step"] "stepped_by" (defScope (top 31)) (G.fn 12) cdv A outer s H E).nox (defBody (top 31)) (tS G (ecN T KF k) x_stepped_by) :=
  have hK := C.hK
  have nd := (sc_stepped_by).nd
  (s_cons (sx (cl C.f_check_page hr (ac (v 0) (ac (v 1) a_nil))))
  (s_cons (sx (cl C.f_check_lines hr (ac (v 2) a_nil)))
  (s_cons (s_if (w_or (t_not (tv hK (isi .tup hK C.n_isinstance C.n_tuple boot_tuple (v 3)))) (w_one_or (t_not (tv hK (fB (op_nAll hK rfl) C.n_all boot_all (ac (lc [("step", 4)] nd (i_seq hK (v 3)) (fun _ _ _ _ _ => (wn 4 nd)) (fun _ _ _ _ _ => ts_nil) (fun _ _ _ _ _ => (cl C.f_is_step hr (ac (v 0) (ac (v 4) a_nil))))) a_nil)))))).pt (s_one s_nev) s_nil)
  (s_cons (sf PassesOwn.never (i_seq hK (v 3)) (gn 4 nd) (s_one (ss 2 nd (cl C.f_done hr (ac (v 0) (ac (v 1) (ac (v 2) (ac (v 4) a_nil))))))))
  (s_one (s_ret (v 2)))))))
theorem sc_check_steps : FnScope ["height", "steps", "step"] ["height", "steps"] (defScope (top 33)) := ⟨rfl, rfl, rfl, by decide +kernel, rfl, by decide +kernel, by decide +kernel⟩
theorem w_check_steps (C : Ct P w K mg base G k) (cdv : Value) (A : Around) (outer : List PySem.Env) (s : Shared) (H : Hp) (E : XK) (hr : Room k (A.deeper (envOfC "check_steps" (defScope (top 33)) s.heap.objs.size (G.fn 13) cdv))) :
    PSs (cxOf CX0 P w K mg base ["height", "steps", "step"] "check_steps" (defScope (top 33)) (G.fn 13) cdv A outer s H E).nox (defBody (top 33)) (tS G (ecN T KF k) x_check_steps) :=
  have hK := C.hK
  have nd := (sc_check_steps).nd
  (s_one (s_if (w_or (t_not (tv hK (isi .tup hK C.n_isinstance C.n_tuple boot_tuple (v 1)))) (w_one_or (t_not (tv hK (fB (op_nAll hK rfl) C.n_all boot_all (ac (lc [("step", 2)] nd (i_seq hK (v 1)) (fun _ _ _ _ _ => (wn 2 nd)) (fun _ _ _ _ _ => ts_nil) (fun _ _ _ _ _ => (cl C.f_is_step hr (ac (v 0) (ac (v 2) a_nil))))) a_nil)))))).pt (s_one s_nev) s_nil))
theorem sc_led : FnScope ["height", "first", "steps", "lines", "step"] ["height", "first", "steps", "lines"] (defScope (top 34)) := ⟨rfl, rfl, rfl, by decide +kernel, rfl, by decide +kernel, by decide +kernel⟩
theorem w_led (C : Ct P w K mg base G k) (cdv : Value) (A : Around) (outer : List PySem.Env) (s : Shared) (H : Hp) (E : XK) (hr : Room k (A.deeper (envOfC "led" (defScope (top 34)) s.heap.objs.size (G.fn 14) cdv))) :
    PSs (cxOf CX0 P w K mg base ["height", "first", "steps", "lines", "step"] "led" (defScope (top 34)) (G.fn 14) cdv A outer s H E).nox (defBody (top 34)) (tS G (ecN T KF k) x_led) :=
  have hK := C.hK
  have nd := (sc_led).nd
  (s_cons (sf PassesOwn.never (i_seq hK (v 2)) (gn 4 nd) (s_one (ss 3 nd (cl C.f_done hr (ac (v 0) (ac (v 1) (ac (v 3) (ac (v 4) a_nil))))))))
  (s_one (s_ret (v 3))))
theorem sc_table_by : FnScope ["height", "first", "steps", "lines"] ["height", "first", "steps"] (defScope (top 35)) := ⟨rfl, rfl, rfl, by decide +kernel, rfl, by decide +kernel, by decide +kernel⟩
theorem w_table_by (C : Ct P w K mg base G k) (cdv : Value) (A : Around) (outer : List PySem.Env) (s : Shared) (H : Hp) (E : XK) (hr : Room k (A.deeper (envOfC "table_by" (defScope (top 35)) s.heap.objs.size (G.fn 15) cdv))) :
    PSs (cxOf CX0 P w K mg base ["height", "first", "steps", "lines"] "table_by" (defScope (top 35)) (G.fn 15) cdv A outer s H E).nox (defBody (top 35)) (tS G (ecN T KF k) x_table_by) :=
  have hK := C.hK
  have nd := (sc_table_by).nd
  (s_one (s_ret (fT (op_nTup hK) C.n_tuple boot_tuple (ac (lc [("lines", 3)] nd (ir1 C.n_range (ac (e_bin op_oMul e_int (v 0)) a_nil)) (fun _ _ _ _ _ => (wn 3 nd)) (fun _ _ _ _ _ => ts_nil) (fun _ _ _ _ _ => (cl C.f_led hr (ac (v 0) (ac (v 1) (ac (v 2) (ac (v 3) a_nil))))))) a_nil))))
theorem sc_table_of : FnScope ["height", "first", "steps"] ["height", "first", "steps"] (defScope (top 36)) := ⟨rfl, rfl, rfl, by decide +kernel, rfl, by decide +kernel, by decide +kernel⟩
theorem w_table_of (C : Ct P w K mg base G k) (cdv : Value) (A : Around) (outer : List PySem.Env) (s : Shared) (H : Hp) (E : XK) (hr : Room k (A.deeper (envOfC "table_of" (defScope (top 36)) s.heap.objs.size (G.fn 16) cdv))) :
    PSs (cxOf CX0 P w K mg base ["height", "first", "steps"] "table_of" (defScope (top 36)) (G.fn 16) cdv A outer s H E).nox (defBody (top 36)) (tS G (ecN T KF k) x_table_of) :=
  have hK := C.hK
  have nd := (sc_table_of).nd
  (s_cons (sx (cl C.f_check_page hr (ac (v 0) (ac (v 1) a_nil))))
  (s_cons (sx (cl C.f_check_steps hr (ac (v 0) (ac (v 2) a_nil))))
  (s_one (s_ret (cl C.f_table_by hr (ac (v 0) (ac (v 1) (ac (v 2) a_nil))))))))
theorem sc_is_right_table : FnScope ["height", "value", "at", "number", "one", "other"] ["height", "value"] (defScope (top 37)) := ⟨rfl, rfl, rfl, by decide +kernel, rfl, by decide +kernel, by decide +kernel⟩
theorem w_is_right_table (C : Ct P w K mg base G k) (cdv : Value) (A : Around) (outer : List PySem.Env) (s : Shared) (H : Hp) (E : XK) (hr : Room k (A.deeper (envOfC "is_right_table" (defScope (top 37)) s.heap.objs.size (G.fn 17) cdv))) :
    PSs (cxOf CX0 P w K mg base ["height", "value", "at", "number", "one", "other"] "is_right_table" (defScope (top 37)) (G.fn 17) cdv A outer s H E).nox (defBody (top 37)) (tS G (ecN T KF k) x_is_right_table) :=
  have hK := C.hK
  have nd := (sc_is_right_table).nd
  (s_cons (s_if (w_or (t_not (tv hK (isi .tup hK C.n_isinstance C.n_tuple boot_tuple (v 1)))) (w_one_or (ct (op_oNe hK hr.units) bool_oNe (fB (op_nLen hK) C.n_len boot_len (ac (v 1) a_nil)) (e_bin op_oMul e_int (v 0))))).pt (s_one (s_ret e_bl)) s_nil)
  (s_cons (s_if (t_not (tv hK (fB (op_nAll hK rfl) C.n_all boot_all (ac (lc [("at", 2), ("number", 3)] nd (ie hK C.n_enumerate (ac (v 1) a_nil)) (fun _ _ _ _ _ => (wt hK (wc (wn 2 nd) (wc (wn 3 nd) ws_nil)))) (fun _ _ _ _ _ => ts_nil) (fun _ _ _ _ _ => (cl C.f_is_from hr (ac (v 3) (ac (v 2) a_nil))))) a_nil)))) (s_one (s_ret e_bl)) s_nil)
  (s_cons (s_if (t_not (tv hK (fB (op_nAll hK rfl) C.n_all boot_all (ac (lc [("one", 4), ("other", 5)] nd (iz hK C.n_zip (ac (v 1) (ac (e_sl hK (v 1) (o_some e_int) o_none) a_nil))) (fun _ _ _ _ _ => (wt hK (wc (wn 4 nd) (wc (wn 5 nd) ws_nil)))) (fun _ _ _ _ _ => ts_nil) (fun _ _ _ _ _ => (cm op_oLe (v 4) (v 5)))) a_nil)))) (s_one (s_ret e_bl)) s_nil)
  (s_one (s_ret (cm op_oLe (ix hK (v 1) (e_neg e_int)) (e_bin (op_oAdd hK) (ix hK (v 1) e_int) (e_bin op_oMul e_int (v 0)))))))))
theorem sc_check_height : FnScope ["height"] ["height"] (defScope (top 38)) := ⟨rfl, rfl, rfl, by decide +kernel, rfl, by decide +kernel, by decide +kernel⟩
theorem w_check_height (C : Ct P w K mg base G k) (cdv : Value) (A : Around) (outer : List PySem.Env) (s : Shared) (H : Hp) (E : XK) (hr : Room k (A.deeper (envOfC "check_height" (defScope (top 38)) s.heap.objs.size (G.fn 18) cdv))) :
    PSs (cxOf CX0 P w K mg base ["height"] "check_height" (defScope (top 38)) (G.fn 18) cdv A outer s H E).nox (defBody (top 38)) (tS G (ecN T KF k) x_check_height) :=
  have hK := C.hK
  have nd := (sc_check_height).nd
  (s_one (s_if (t_not (tv hK (cl C.f_is_between hr (ac (v 0) (ac e_int (ac (gi C.c_MOST_HEIGHT) a_nil)))))) (s_one s_nev) s_nil))
theorem sc_check_table : FnScope ["height", "value"] ["height", "value"] (defScope (top 39)) := ⟨rfl, rfl, rfl, by decide +kernel, rfl, by decide +kernel, by decide +kernel⟩
theorem w_check_table (C : Ct P w K mg base G k) (cdv : Value) (A : Around) (outer : List PySem.Env) (s : Shared) (H : Hp) (E : XK) (hr : Room k (A.deeper (envOfC "check_table" (defScope (top 39)) s.heap.objs.size (G.fn 19) cdv))) :
    PSs (cxOf CX0 P w K mg base ["height", "value"] "check_table" (defScope (top 39)) (G.fn 19) cdv A outer s H E).nox (defBody (top 39)) (tS G (ecN T KF k) x_check_table) :=
  have hK := C.hK
  have nd := (sc_check_table).nd
  (s_one (s_if (t_not (tv hK (cl C.f_is_right_table hr (ac (v 0) (ac (v 1) a_nil))))) (s_one s_nev) s_nil))
theorem sc_is_table : FnScope ["height", "value"] ["height", "value"] (defScope (top 40)) := ⟨rfl, rfl, rfl, by decide +kernel, rfl, by decide +kernel, by decide +kernel⟩
theorem w_is_table (C : Ct P w K mg base G k) (cdv : Value) (A : Around) (outer : List PySem.Env) (s : Shared) (H : Hp) (E : XK) (hr : Room k (A.deeper (envOfC "is_table" (defScope (top 40)) s.heap.objs.size (G.fn 20) cdv))) :
    PSs (cxOf CX0 P w K mg base ["height", "value"] "is_table" (defScope (top 40)) (G.fn 20) cdv A outer s H E).nox (defBody (top 40)) (tS G (ecN T KF k) x_is_table) :=
  have hK := C.hK
  have nd := (sc_is_table).nd
  (s_cons (sx (cl C.f_check_height hr (ac (v 0) a_nil)))
  (s_one (s_ret (cl C.f_is_right_table hr (ac (v 0) (ac (v 1) a_nil))))))
theorem sc_applied : FnScope ["height", "table", "lines", "rest"] ["height", "table", "lines"] (defScope (top 41)) := ⟨rfl, rfl, rfl, by decide +kernel, rfl, by decide +kernel, by decide +kernel⟩
theorem w_applied (C : Ct P w K mg base G k) (cdv : Value) (A : Around) (outer : List PySem.Env) (s : Shared) (H : Hp) (E : XK) (hr : Room k (A.deeper (envOfC "applied" (defScope (top 41)) s.heap.objs.size (G.fn 21) cdv))) :
    PSs (cxOf CX0 P w K mg base ["height", "table", "lines", "rest"] "applied" (defScope (top 41)) (G.fn 21) cdv A outer s H E).nox (defBody (top 41)) (tS G (ecN T KF k) x_applied) :=
  have hK := C.hK
  have nd := (sc_applied).nd
  (s_cons (ss 3 nd (e_bin op_oMod (v 2) (e_bin op_oMul e_int (v 0))))
  (s_one (s_ret (e_bin op_oSub (e_bin (op_oAdd hK) (ix hK (v 1) (v 3)) (v 2)) (v 3)))))
theorem sc_by_table : FnScope ["height", "table", "x"] ["height", "table", "x"] (defScope (top 42)) := ⟨rfl, rfl, rfl, by decide +kernel, rfl, by decide +kernel, by decide +kernel⟩
theorem w_by_table (C : Ct P w K mg base G k) (cdv : Value) (A : Around) (outer : List PySem.Env) (s : Shared) (H : Hp) (E : XK) (hr : Room k (A.deeper (envOfC "by_table" (defScope (top 42)) s.heap.objs.size (G.fn 22) cdv))) :
    PSs (cxOf CX0 P w K mg base ["height", "table", "x"] "by_table" (defScope (top 42)) (G.fn 22) cdv A outer s H E).nox (defBody (top 42)) (tS G (ecN T KF k) x_by_table) :=
  have hK := C.hK
  have nd := (sc_by_table).nd
  (s_cons (sx (cl C.f_check_height hr (ac (v 0) a_nil)))
  (s_cons (sx (cl C.f_check_table hr (ac (v 0) (ac (v 1) a_nil))))
  (s_cons (s_if (t_not (tv hK (cl C.f_is_from hr (ac (v 2) (ac e_int a_nil))))) (s_one s_nev) s_nil)
  (s_one (s_ret (cl C.f_applied hr (ac (v 0) (ac (v 1) (ac (v 2) a_nil)))))))))
theorem sc_behind : FnScope ["height", "one", "other", "lines"] ["height", "one", "other"] (defScope (top 43)) := ⟨rfl, rfl, rfl, by decide +kernel, rfl, by decide +kernel, by decide +kernel⟩
theorem w_behind (C : Ct P w K mg base G k) (cdv : Value) (A : Around) (outer : List PySem.Env) (s : Shared) (H : Hp) (E : XK) (hr : Room k (A.deeper (envOfC "behind" (defScope (top 43)) s.heap.objs.size (G.fn 23) cdv))) :
    PSs (cxOf CX0 P w K mg base ["height", "one", "other", "lines"] "behind" (defScope (top 43)) (G.fn 23) cdv A outer s H E).nox (defBody (top 43)) (tS G (ecN T KF k) x_behind) :=
  have hK := C.hK
  have nd := (sc_behind).nd
  (s_one (s_ret (fT (op_nTup hK) C.n_tuple boot_tuple (ac (lc [("lines", 3)] nd (i_seq hK (v 1)) (fun _ _ _ _ _ => (wn 3 nd)) (fun _ _ _ _ _ => ts_nil) (fun _ _ _ _ _ => (cl C.f_applied hr (ac (v 0) (ac (v 2) (ac (v 3) a_nil)))))) a_nil))))
theorem sc_then : FnScope ["height", "one", "other"] ["height", "one", "other"] (defScope (top 44)) := ⟨rfl, rfl, rfl, by decide +kernel, rfl, by decide +kernel, by decide +kernel⟩
theorem w_then (C : Ct P w K mg base G k) (cdv : Value) (A : Around) (outer : List PySem.Env) (s : Shared) (H : Hp) (E : XK) (hr : Room k (A.deeper (envOfC "then" (defScope (top 44)) s.heap.objs.size (G.fn 24) cdv))) :
    PSs (cxOf CX0 P w K mg base ["height", "one", "other"] "then" (defScope (top 44)) (G.fn 24) cdv A outer s H E).nox (defBody (top 44)) (tS G (ecN T KF k) x_then) :=
  have hK := C.hK
  have nd := (sc_then).nd
  (s_cons (sx (cl C.f_check_height hr (ac (v 0) a_nil)))
  (s_cons (sx (cl C.f_check_table hr (ac (v 0) (ac (v 1) a_nil))))
  (s_cons (sx (cl C.f_check_table hr (ac (v 0) (ac (v 2) a_nil))))
  (s_one (s_ret (cl C.f_behind hr (ac (v 0) (ac (v 1) (ac (v 2) a_nil)))))))))
theorem sc_first_unlike_x : FnScope ["height", "first", "steps", "others", "lines", "one", "other"] ["height", "first", "steps", "others"] (defScope (top 45)) := ⟨rfl, rfl, rfl, by decide +kernel, rfl, by decide +kernel, by decide +kernel⟩
theorem w_first_unlike_x (C : Ct P w K mg base G k) (cdv : Value) (A : Around) (outer : List PySem.Env) (s : Shared) (H : Hp) (E : XK) (hr : Room k (A.deeper (envOfC "first_unlike_x" (defScope (top 45)) s.heap.objs.size (G.fn 25) cdv))) :
    PSs (cxOf CX0 P w K mg base ["height", "first", "steps", "others", "lines", "one", "other"] "first_unlike_x" (defScope (top 45)) (G.fn 25) cdv A outer s H E).nox (defBody (top 45)) (tS G (ecN T KF k) x_first_unlike_x) :=
  have hK := C.hK
  have nd := (sc_first_unlike_x).nd
  (s_cons (sx (cl C.f_check_page hr (ac (v 0) (ac (v 1) a_nil))))
  (s_cons (sx (cl C.f_check_steps hr (ac (v 0) (ac (v 2) a_nil))))
  (s_cons (sx (cl C.f_check_steps hr (ac (v 0) (ac (v 3) a_nil))))
  (s_cons (sf PassesOwn.never (iez hK C.n_enumerate C.n_zip (ac (cl C.f_table_by hr (ac (v 0) (ac (v 1) (ac (v 2) a_nil)))) (ac (cl C.f_table_by hr (ac (v 0) (ac (v 1) (ac (v 3) a_nil)))) a_nil))) (gt hK (gc (gn 4 nd) (gc (gt hK (gc (gn 5 nd) (gc (gn 6 nd) gs_nil))) gs_nil))) (s_one (s_if (ct (op_oNe hK hr.units) bool_oNe (v 5) (v 6)) (s_one (s_ret (v 4))) s_nil)))
  (s_one (s_ret e_non))))))
theorem sc_first_later_x : FnScope ["height", "first", "steps", "others", "lines", "one", "other"] ["height", "first", "steps", "others"] (defScope (top 46)) := ⟨rfl, rfl, rfl, by decide +kernel, rfl, by decide +kernel, by decide +kernel⟩
theorem w_first_later_x (C : Ct P w K mg base G k) (cdv : Value) (A : Around) (outer : List PySem.Env) (s : Shared) (H : Hp) (E : XK) (hr : Room k (A.deeper (envOfC "first_later_x" (defScope (top 46)) s.heap.objs.size (G.fn 26) cdv))) :
    PSs (cxOf CX0 P w K mg base ["height", "first", "steps", "others", "lines", "one", "other"] "first_later_x" (defScope (top 46)) (G.fn 26) cdv A outer s H E).nox (defBody (top 46)) (tS G (ecN T KF k) x_first_later_x) :=
  have hK := C.hK
  have nd := (sc_first_later_x).nd
  (s_cons (sx (cl C.f_check_page hr (ac (v 0) (ac (v 1) a_nil))))
  (s_cons (sx (cl C.f_check_steps hr (ac (v 0) (ac (v 2) a_nil))))
  (s_cons (sx (cl C.f_check_steps hr (ac (v 0) (ac (v 3) a_nil))))
  (s_cons (sf PassesOwn.never (iez hK C.n_enumerate C.n_zip (ac (cl C.f_table_by hr (ac (v 0) (ac (v 1) (ac (v 2) a_nil)))) (ac (cl C.f_table_by hr (ac (v 0) (ac (v 1) (ac (v 3) a_nil)))) a_nil))) (gt hK (gc (gn 4 nd) (gc (gt hK (gc (gn 5 nd) (gc (gn 6 nd) gs_nil))) gs_nil))) (s_one (s_if (ct op_oGt bool_oI0 (v 5) (v 6)) (s_one (s_ret (v 4))) s_nil)))
  (s_one (s_ret e_non))))))
theorem sc__law_pot : FnScope ["script", "place", "cell", "own", "small"] ["script", "place"] (defScope (top 48)) := ⟨rfl, rfl, rfl, by decide +kernel, rfl, by decide +kernel, by decide +kernel⟩
theorem w__law_pot (C : Ct P w K mg base G k) (cdv : Value) (A : Around) (outer : List PySem.Env) (s : Shared) (H : Hp) (E : XK) (hr : Room k (A.deeper (envOfC "_law_pot" (defScope (top 48)) s.heap.objs.size (G.fn 27) cdv))) :
    PSs (cxOf CX0 P w K mg base ["script", "place", "cell", "own", "small"] "_law_pot" (defScope (top 48)) (G.fn 27) cdv A outer s H E).nox (defBody (top 48)) (tS G (ecN T KF k) x__law_pot) :=
  have hK := C.hK
  have nd := (sc__law_pot).nd
  (s_cons (ss 2 nd (e_if (ct op_oLt bool_oI0 (v 1) (fB (op_nLen hK) C.n_len boot_len (ac (v 0) a_nil))) (ix hK (v 0) (v 1)) (e_bin (op_oAdd hK) (e_bin op_oMul e_int (v 1)) e_int)))
  (s_cons (ss 3 nd (e_bin op_oMul (e_bin op_oMod (fT op_nInt C.n_int boot_int (ac (fB op_nAbs C.n_abs boot_abs (ac (v 2) a_nil)) a_nil)) (e_bin op_oPow (e_bin op_oPow e_int e_int) e_int)) (fT op_nInt C.n_int boot_int (ac (cm op_oGe (fB op_nAbs C.n_abs boot_abs (ac (v 2) a_nil)) (e_bin op_oPow e_int e_int)) a_nil))))
  (s_cons (ss 4 nd (e_bin op_oMod (fT op_nInt C.n_int boot_int (ac (v 2) a_nil)) e_int))
  (s_one (s_ret (e_lst (ac (v 3) (ac (e_bin op_oMod (fT op_nInt C.n_int boot_int (ac (e_bin (op_oAdd hK) (e_bin (op_oAdd hK) (e_bin op_oMul (v 4) e_int) (e_bin op_oMul (e_bin op_oMul e_int (v 1)) (v 1))) e_int) a_nil)) e_int) (ac e_int a_nil)))))))))
theorem sc__law_take : FnScope ["pot", "upto", "digit", "prime", "blend"] ["pot", "upto"] (defScope (top 49)) := ⟨rfl, rfl, rfl, by decide +kernel, rfl, by decide +kernel, by decide +kernel⟩
theorem w__law_take (C : Ct P w K mg base G k) (cdv : Value) (A : Around) (outer : List PySem.Env) (s : Shared) (H : Hp) (E : XK) (hr : Room k (A.deeper (envOfC "_law_take" (defScope (top 49)) s.heap.objs.size (G.fn 28) cdv))) :
    PSs (cxOf CX0 P w K mg base ["pot", "upto", "digit", "prime", "blend"] "_law_take" (defScope (top 49)) (G.fn 28) cdv A outer s H E).nox (defBody (top 49)) (tS G (ecN T KF k) x__law_take) :=
  have hK := C.hK
  have nd := (sc__law_take).nd
  (s_cons (s_if (ct op_oGt bool_oI0 (ix hK (v 0) e_int) e_int) (s_cons (ss 2 nd (e_bin op_oMod (fT op_nInt C.n_int boot_int (ac (ix hK (v 0) e_int) a_nil)) (v 1)))
  (s_cons (sa (e_bin op_oDiv (ix hK (v 0) e_int) (v 1)) (gx (v 0) e_int))
  (s_one (s_ret (v 2))))) s_nil)
  (s_cons (sa (e_bin (op_oAdd hK) (ix hK (v 0) e_int) e_int) (gx (v 0) e_int))
  (s_cons (ss 3 nd (ix hK (e_lst (ac e_int (ac e_int (ac e_int (ac e_int (ac e_int a_nil)))))) (e_bin op_oMod (fT op_nInt C.n_int boot_int (ac (ix hK (v 0) e_int) a_nil)) e_int)))
  (s_cons (ss 4 nd (e_bin op_oMod (fT op_nInt C.n_int boot_int (ac (e_bin op_oPow (fT op_nInt C.n_int boot_int (ac (e_bin (op_oAdd hK) (e_bin (op_oAdd hK) (ix hK (v 0) e_int) (e_bin op_oMul (e_bin op_oMul e_int (ix hK (v 0) e_int)) (ix hK (v 0) e_int))) e_int) a_nil)) e_int) a_nil)) (v 3)))
  (s_cons (ss 4 nd (e_bin op_oMod (fT op_nInt C.n_int boot_int (ac (e_bin op_oMul (v 4) (e_bin (op_oAdd hK) (e_bin op_oMod (fT op_nInt C.n_int boot_int (ac (v 4) a_nil)) e_int) (e_bin op_oMul e_int (ix hK (v 0) e_int)))) a_nil)) e_int))
  (s_one (s_ret (e_bin op_oMod (fT op_nInt C.n_int boot_int (ac (e_bin op_oDiv (v 4) e_int) a_nil)) (v 1)))))))))
theorem sc__law_of : FnScope ["pot", "some"] ["pot", "some"] (defScope (top 50)) := ⟨rfl, rfl, rfl, by decide +kernel, rfl, by decide +kernel, by decide +kernel⟩
theorem w__law_of (C : Ct P w K mg base G k) (cdv : Value) (A : Around) (outer : List PySem.Env) (s : Shared) (H : Hp) (E : XK) (hr : Room k (A.deeper (envOfC "_law_of" (defScope (top 50)) s.heap.objs.size (G.fn 29) cdv))) :
    PSs (cxOf CX0 P w K mg base ["pot", "some"] "_law_of" (defScope (top 50)) (G.fn 29) cdv A outer s H E).nox (defBody (top 50)) (tS G (ecN T KF k) x__law_of) :=
  have hK := C.hK
  have nd := (sc__law_of).nd
  (s_one (s_ret (ix hK (v 1) (cl C.f__law_take hr (ac (v 0) (ac (fB (op_nLen hK) C.n_len boot_len (ac (v 1) a_nil)) a_nil))))))
theorem sc__law_cells : FnScope ["script", "upto"] ["script", "upto"] (defScope (top 51)) := ⟨rfl, rfl, rfl, by decide +kernel, rfl, by decide +kernel, by decide +kernel⟩
theorem w__law_cells (C : Ct P w K mg base G k) (cdv : Value) (A : Around) (outer : List PySem.Env) (s : Shared) (H : Hp) (E : XK) (hr : Room k (A.deeper (envOfC "_law_cells" (defScope (top 51)) s.heap.objs.size (G.fn 30) cdv))) :
    PSs (cxOf CX0 P w K mg base ["script", "upto"] "_law_cells" (defScope (top 51)) (G.fn 30) cdv A outer s H E).nox (defBody (top 51)) (tS G (ecN T KF k) x__law_cells) :=
  have hK := C.hK
  have nd := (sc__law_cells).nd
  (s_one (s_ret (lrg C.n_list C.n_range (fB (op_nMax hK rfl) C.n_max boot_max (ac e_int (ac (fB (op_nMin hK rfl) C.n_min boot_min (ac (v 1) (ac (fB (op_nLen hK) C.n_len boot_len (ac (v 0) a_nil)) a_nil))) a_nil))))))
theorem sc__law_step : FnScope ["pot", "height", "word", "many"] ["pot", "height"] (defScope (top 52)) := ⟨rfl, rfl, rfl, by decide +kernel, rfl, by decide +kernel, by decide +kernel⟩
theorem w__law_step (C : Ct P w K mg base G k) (cdv : Value) (A : Around) (outer : List PySem.Env) (s : Shared) (H : Hp) (E : XK) (hr : Room k (A.deeper (envOfC "_law_step" (defScope (top 52)) s.heap.objs.size (G.fn 31) cdv))) :
    PSs (cxOf CX0 P w K mg base ["pot", "height", "word", "many"] "_law_step" (defScope (top 52)) (G.fn 31) cdv A outer s H E).nox (defBody (top 52)) (tS G (ecN T KF k) x__law_step) :=
  have hK := C.hK
  have nd := (sc__law_step).nd
  (s_cons (ss 2 nd (cl C.f__law_of hr (ac (v 0) (ac (e_lst (ac sc (ac sc (ac sc (ac sc (ac sc (ac sc (ac sc a_nil)))))))) a_nil))))
  (s_cons (ss 3 nd (cl C.f__law_take hr (ac (v 0) (ac (cl C.f__law_of hr (ac (v 0) (ac (e_lst (ac e_int (ac (e_bin (op_oAdd hK) (v 1) e_int) (ac (e_bin op_oMul e_int (v 1)) (ac e_int a_nil))))) a_nil))) a_nil))))
  (s_cons (s_if (ct (op_oIn hK) bool_oInX (v 2) (e_tup (ac sc (ac sc a_nil)))) (s_one (s_ret (e_tup (ac (v 2) a_nil)))) s_nil)
  (s_one (s_ret (e_if (ct (op_oEq hK hr.units) bool_oEq (v 2) sc) (e_tup (ac (v 2) (ac (v 3) (ac (e_bin (op_oAdd hK) e_int (cl C.f__law_take hr (ac (v 0) (ac (v 1) a_nil)))) a_nil)))) (e_tup (ac (v 2) (ac (v 3) a_nil)))))))))
theorem sc__law_up : FnScope ["height", "x"] ["height", "x"] (defScope (top 53)) := ⟨rfl, rfl, rfl, by decide +kernel, rfl, by decide +kernel, by decide +kernel⟩
theorem w__law_up (C : Ct P w K mg base G k) (cdv : Value) (A : Around) (outer : List PySem.Env) (s : Shared) (H : Hp) (E : XK) (hr : Room k (A.deeper (envOfC "_law_up" (defScope (top 53)) s.heap.objs.size (G.fn 32) cdv))) :
    PSs (cxOf CX0 P w K mg base ["height", "x"] "_law_up" (defScope (top 53)) (G.fn 32) cdv A outer s H E).nox (defBody (top 53)) (tS G (ecN T KF k) x__law_up) :=
  have hK := C.hK
  have nd := (sc__law_up).nd
  (s_one (s_ret (e_bin (op_oAdd hK) (v 1) (e_bin op_oMod (fT op_nInt C.n_int boot_int (ac (e_bin op_oSub (v 0) (e_bin op_oMod (fT op_nInt C.n_int boot_int (ac (v 1) a_nil)) (v 0))) a_nil)) (v 0)))))
theorem sc__law_stepped : FnScope ["height", "first", "x", "step", "word", "rest", "lap"] ["height", "first", "x", "step"] (defScope (top 54)) := ⟨rfl, rfl, rfl, by decide +kernel, rfl, by decide +kernel, by decide +kernel⟩
theorem w__law_stepped (C : Ct P w K mg base G k) (cdv : Value) (A : Around) (outer : List PySem.Env) (s : Shared) (H : Hp) (E : XK) (hr : Room k (A.deeper (envOfC "_law_stepped" (defScope (top 54)) s.heap.objs.size (G.fn 33) cdv))) :
    PSs (cxOf CX0 P w K mg base ["height", "first", "x", "step", "word", "rest", "lap"] "_law_stepped" (defScope (top 54)) (G.fn 33) cdv A outer s H E).nox (defBody (top 54)) (tS G (ecN T KF k) x__law_stepped) :=
  have hK := C.hK
  have nd := (sc__law_stepped).nd
  (s_cons (ss 4 nd (ix hK (v 3) e_int))
  (s_cons (s_if (ct (op_oEq hK hr.units) bool_oEq (v 4) sc) (s_one (s_ret (e_bin (op_oAdd hK) (v 2) (ix hK (v 3) e_int)))) s_nil)
  (s_cons (s_if (ct (op_oEq hK hr.units) bool_oEq (v 4) sc) (s_cons (ss 5 nd (e_bin op_oMod (fT op_nInt C.n_int boot_int (ac (v 2) a_nil)) (v 0)))
  (s_one (s_ret (e_bin (op_oAdd hK) (e_if (w_and (ct op_oGt bool_oI0 (v 5) e_int) (w_one_and (ct op_oGt bool_oI0 (e_bin (op_oAdd hK) (v 5) (ix hK (v 3) e_int)) (v 0)))).pt (cl C.f__law_up hr (ac (v 0) (ac (v 2) a_nil))) (v 2)) (ix hK (v 3) e_int))))) s_nil)
  (s_cons (s_if (ct (op_oEq hK hr.units) bool_oEq (v 4) sc) (s_one (s_ret (e_if (ct (op_oEq hK hr.units) bool_oEq (e_bin op_oMod (fT op_nInt C.n_int boot_int (ac (v 2) a_nil)) (v 0)) e_int) (v 2) (fB (op_nMin hK rfl) C.n_min boot_min (ac (e_bin (op_oAdd hK) (v 2) (ix hK (v 3) e_int)) (ac (cl C.f__law_up hr (ac (v 0) (ac (v 2) a_nil))) a_nil)))))) s_nil)
  (s_cons (s_if (ct (op_oEq hK hr.units) bool_oEq (v 4) sc) (s_cons (sf PassesOwn.never (ir1 C.n_range (ac (ix hK (v 3) e_int) a_nil)) (gn 6 nd) (s_one (ss 2 nd (cl C.f__law_stepped hr (ac (v 0) (ac (v 1) (ac (v 2) (ac (e_tup (ac sc (ac (ix hK (v 3) e_int) a_nil))) a_nil))))))))
  (s_one (s_ret (v 2)))) s_nil)
  (s_cons (ss 2 nd (cl C.f__law_up hr (ac (v 0) (ac (v 2) a_nil))))
  (s_cons (s_if (w_and (ct (op_oEq hK hr.units) bool_oEq (v 4) sc) (w_one_and (ct (op_oEq hK hr.units) bool_oEq (e_bin op_oMod (fT op_nInt C.n_int boot_int (ac (e_bin (op_oAdd hK) (v 1) (e_bin op_oDiv (v 2) (v 0))) a_nil)) e_int) e_int))).pt (s_one (ss 2 nd (e_bin (op_oAdd hK) (v 2) (v 0)))) s_nil)
  (s_one (s_ret (e_if (ct (op_oEq hK hr.units) bool_oEq (v 4) sc) (e_bin (op_oAdd hK) (v 2) (e_bin op_oMul (ix hK (v 3) e_int) (v 0))) (v 2)))))))))))
theorem sc__law_pairs : FnScope ["height", "one", "other", "found", "each"] ["height", "one", "other"] (defScope (top 55)) := ⟨rfl, rfl, rfl, by decide +kernel, rfl, by decide +kernel, by decide +kernel⟩
theorem w__law_pairs (C : Ct P w K mg base G k) (cdv : Value) (A : Around) (outer : List PySem.Env) (s : Shared) (H : Hp) (E : XK) (hr : Room k (A.deeper (envOfC "_law_pairs" (defScope (top 55)) s.heap.objs.size (G.fn 34) cdv))) :
    PSs (cxOf CX0 P w K mg base ["height", "one", "other", "found", "each"] "_law_pairs" (defScope (top 55)) (G.fn 34) cdv A outer s H E).nox (defBody (top 55)) (tS G (ecN T KF k) x__law_pairs) :=
  have hK := C.hK
  have nd := (sc__law_pairs).nd
  (s_cons (ss 3 nd (e_lst (ac (e_tup (ac (e_tup (ac (e_tup (ac sc (ac (v 1) a_nil))) (ac (e_tup (ac sc a_nil)) a_nil))) (ac (e_tup (ac (e_tup (ac sc a_nil)) a_nil)) a_nil))) (ac (e_tup (ac (e_tup (ac (e_tup (ac sc a_nil)) (ac (e_tup (ac sc a_nil)) a_nil))) (ac (e_tup (ac (e_tup (ac sc a_nil)) a_nil)) a_nil))) a_nil))))
  (s_cons (sx (app hK (v 3) (ac (e_tup (ac (e_tup (ac (e_tup (ac sc (ac (v 1) a_nil))) (ac (e_tup (ac sc a_nil)) a_nil))) (ac (e_tup (ac (e_tup (ac sc a_nil)) a_nil)) a_nil))) a_nil)))
  (s_cons (sx (app hK (v 3) (ac (e_tup (ac (e_tup (ac (e_tup (ac sc a_nil)) (ac (e_tup (ac sc a_nil)) a_nil))) (ac (e_tup (ac (e_tup (ac sc a_nil)) a_nil)) a_nil))) a_nil)))
  (s_cons (sx (app hK (v 3) (ac (e_tup (ac (e_tup (ac (e_tup (ac sc a_nil)) (ac (e_tup (ac sc a_nil)) a_nil))) (ac (e_tup (ac (e_tup (ac sc a_nil)) a_nil)) a_nil))) a_nil)))
  (s_cons (sx (app hK (v 3) (ac (e_tup (ac (e_tup (ac (e_tup (ac sc a_nil)) (ac (e_tup (ac sc a_nil)) a_nil))) (ac (e_tup (ac (e_tup (ac sc a_nil)) a_nil)) a_nil))) a_nil)))
  (s_cons (sx (app hK (v 3) (ac (e_tup (ac (e_tup (ac (e_tup (ac sc (ac (v 1) a_nil))) (ac (e_tup (ac sc (ac (v 2) a_nil))) a_nil))) (ac (e_tup (ac (e_tup (ac sc (ac (v 2) a_nil))) a_nil)) a_nil))) a_nil)))
  (s_cons (sx (app hK (v 3) (ac (e_tup (ac (e_tup (ac (e_tup (ac sc a_nil)) (ac (e_tup (ac sc (ac (v 2) a_nil))) a_nil))) (ac (e_tup (ac (e_tup (ac sc (ac (v 2) a_nil))) a_nil)) a_nil))) a_nil)))
  (s_cons (sx (app hK (v 3) (ac (e_tup (ac (e_tup (ac (e_tup (ac sc (ac (v 1) a_nil))) (ac (e_tup (ac sc a_nil)) a_nil))) (ac (e_tup (ac (e_tup (ac sc (ac (v 1) a_nil))) a_nil)) a_nil))) a_nil)))
  (s_cons (sx (app hK (v 3) (ac (e_tup (ac (e_tup (ac (e_tup (ac sc (ac e_int a_nil))) a_nil)) (ac (e_tup (ac (e_tup (ac sc a_nil)) a_nil)) a_nil))) a_nil)))
  (s_cons (sx (app hK (v 3) (ac (e_tup (ac (e_tup (ac (e_tup (ac sc (ac (v 1) a_nil))) (ac (e_tup (ac sc (ac (v 2) a_nil))) a_nil))) (ac (e_tup (ac (e_tup (ac sc (ac (e_bin (op_oAdd hK) (v 1) (v 2)) a_nil))) a_nil)) a_nil))) a_nil)))
  (s_cons (sx (app hK (v 3) (ac (e_tup (ac (e_tup (ac (e_tup (ac sc (ac (v 1) a_nil))) (ac (e_tup (ac sc (ac (v 2) a_nil))) a_nil))) (ac (e_tup (ac (e_tup (ac sc (ac (e_bin (op_oAdd hK) (v 1) (v 2)) a_nil))) a_nil)) a_nil))) a_nil)))
  (s_cons (sx (app hK (v 3) (ac (e_tup (ac (e_tup (ac (e_tup (ac sc (ac (v 1) a_nil))) (ac (e_tup (ac sc (ac (v 2) a_nil))) a_nil))) (ac (e_tup (ac (e_tup (ac sc (ac (e_bin (op_oAdd hK) (v 1) (v 2)) a_nil))) a_nil)) a_nil))) a_nil)))
  (s_cons (sx (app hK (v 3) (ac (e_tup (ac (e_tup (ac (e_tup (ac sc (ac (e_bin (op_oAdd hK) (v 0) (v 1)) a_nil))) a_nil)) (ac (e_tup (ac (e_tup (ac sc a_nil)) a_nil)) a_nil))) a_nil)))
  (s_cons (sx (app hK (v 3) (ac (e_tup (ac (e_tup (ac (e_tup (ac sc (ac e_int a_nil))) a_nil)) (ac (e_tup a_nil) a_nil))) a_nil)))
  (s_cons (sx (app hK (v 3) (ac (e_tup (ac (e_tup (ac (e_tup (ac sc (ac e_int a_nil))) a_nil)) (ac (e_tup a_nil) a_nil))) a_nil)))
  (s_cons (sx (app hK (v 3) (ac (e_tup (ac (e_tup (ac (e_tup (ac sc (ac e_int a_nil))) a_nil)) (ac (e_tup a_nil) a_nil))) a_nil)))
  (s_cons (sx (app hK (v 3) (ac (e_tup (ac (e_tup (ac (e_tup (ac sc (ac e_int (ac (v 0) a_nil)))) a_nil)) (ac (e_tup a_nil) a_nil))) a_nil)))
  (s_cons (sx (app hK (v 3) (ac (e_tup (ac (e_tup (ac (e_tup (ac sc (ac e_int a_nil))) a_nil)) (ac (e_tup (ac (e_tup (ac sc (ac e_int a_nil))) a_nil)) a_nil))) a_nil)))
  (s_cons (sx (app hK (v 3) (ac (e_tup (ac (e_tup (ac (e_tup (ac sc (ac (v 1) (ac e_int a_nil)))) a_nil)) (ac (e_tup (ac (e_tup (ac sc (ac (v 1) a_nil))) a_nil)) a_nil))) a_nil)))
  (s_cons (sx (app hK (v 3) (ac (e_tup (ac (e_tup (ac (e_tup (ac sc (ac (v 1) (ac (v 0) a_nil)))) a_nil)) (ac (e_if (ct op_oGt bool_oI0 (v 1) e_int) (e_tup (ac (e_tup (ac sc a_nil)) (ac (e_tup (ac sc (ac (e_bin op_oMul (v 1) (v 0)) a_nil))) a_nil))) (e_tup a_nil)) a_nil))) a_nil)))
  (s_cons (sx (app hK (v 3) (ac (e_tup (ac (e_tup (ac (e_tup (ac sc (ac (e_bin (op_oAdd hK) (v 0) (v 1)) a_nil))) a_nil)) (ac (e_tup (ac (e_tup (ac sc a_nil)) (ac (e_tup (ac sc (ac (e_bin (op_oAdd hK) (v 0) (v 1)) a_nil))) a_nil))) a_nil))) a_nil)))
  (s_cons (sx (app hK (v 3) (ac (e_tup (ac (e_tup (ac (e_tup (ac sc (ac (v 1) a_nil))) a_nil)) (ac (e_tup (ac (e_tup (ac sc a_nil)) (ac (e_tup (ac sc (ac (e_bin op_oMul (v 1) (v 0)) a_nil))) a_nil))) a_nil))) a_nil)))
  (s_cons (ss 4 nd (e_bin (op_oAdd hK) e_int (e_bin op_oMod (fT op_nInt C.n_int boot_int (ac (v 1) a_nil)) (v 0))))
  (s_cons (sx (app hK (v 3) (ac (e_tup (ac (e_tup (ac (e_tup (ac sc (ac (v 1) (ac (v 4) a_nil)))) (ac (e_tup (ac sc (ac (v 2) (ac (v 4) a_nil)))) a_nil))) (ac (e_tup (ac (e_tup (ac sc (ac (e_bin (op_oAdd hK) (v 1) (v 2)) (ac (v 4) a_nil)))) a_nil)) a_nil))) a_nil)))
  (s_cons (sx (app hK (v 3) (ac (e_tup (ac (e_tup (ac (e_tup (ac sc (ac e_int (ac (v 4) a_nil)))) a_nil)) (ac (e_tup (ac (e_tup (ac sc (ac (v 4) a_nil))) a_nil)) a_nil))) a_nil)))
  (s_one (s_ret (e_bin (op_oAdd hK) (v 3) (e_lst (ac (e_tup (ac (e_tup (ac (e_tup (ac sc (ac (v 4) a_nil))) (ac (e_tup (ac sc (ac (v 4) a_nil))) a_nil))) (ac (e_tup (ac (e_tup (ac sc (ac e_int (ac (v 4) a_nil)))) a_nil)) a_nil))) a_nil))))))))))))))))))))))))))))))
theorem sc__law_led : FnScope ["height", "first", "x", "steps", "step"] ["height", "first", "x", "steps"] (defScope (top 56)) := ⟨rfl, rfl, rfl, by decide +kernel, rfl, by decide +kernel, by decide +kernel⟩
theorem w__law_led (C : Ct P w K mg base G k) (cdv : Value) (A : Around) (outer : List PySem.Env) (s : Shared) (H : Hp) (E : XK) (hr : Room k (A.deeper (envOfC "_law_led" (defScope (top 56)) s.heap.objs.size (G.fn 35) cdv))) :
    PSs (cxOf CX0 P w K mg base ["height", "first", "x", "steps", "step"] "_law_led" (defScope (top 56)) (G.fn 35) cdv A outer s H E).nox (defBody (top 56)) (tS G (ecN T KF k) x__law_led) :=
  have hK := C.hK
  have nd := (sc__law_led).nd
  (s_cons (sf PassesOwn.never (i_seq hK (v 3)) (gn 4 nd) (s_one (ss 2 nd (cl C.f__law_stepped hr (ac (v 0) (ac (v 1) (ac (v 2) (ac (v 4) a_nil))))))))
  (s_one (s_ret (v 2))))
theorem sc__law_is_pair_right : FnScope ["pot", "height", "first", "one", "other", "table", "lap", "x", "due"] ["pot", "height", "first", "one", "other"] (defScope (top 57)) := ⟨rfl, rfl, rfl, by decide +kernel, rfl, by decide +kernel, by decide +kernel⟩
theorem w__law_is_pair_right (C : Ct P w K mg base G k) (cdv : Value) (A : Around) (outer : List PySem.Env) (s : Shared) (H : Hp) (E : XK) (hr : Room k (A.deeper (envOfC "_law_is_pair_right" (defScope (top 57)) s.heap.objs.size (G.fn 36) cdv))) :
    PSs (cxOf CX0 P w K mg base ["pot", "height", "first", "one", "other", "table", "lap", "x", "due"] "_law_is_pair_right" (defScope (top 57)) (G.fn 36) cdv A outer s H E).nox (defBody (top 57)) (tS G (ecN T KF k) x__law_is_pair_right) :=
  have hK := C.hK
  have nd := (sc__law_is_pair_right).nd
  (s_cons (ss 5 nd (cl C.f_table_of hr (ac (v 1) (ac (v 2) (ac (v 3) a_nil)))))
  (s_cons (s_if (w_or (ct (op_oNe hK hr.units) bool_oNe (v 5) (cl C.f_table_of hr (ac (v 1) (ac (v 2) (ac (v 4) a_nil))))) (w_one_or (ct op_oIsN bool_oIs (cl C.f_is_table hr (ac (v 1) (ac (v 5) a_nil))) e_bl))).pt (s_one (s_ret e_bl)) s_nil)
  (s_cons (s_if (w_or (ct op_oIsN bool_oIs (cl C.f_first_unlike_x hr (ac (v 1) (ac (v 2) (ac (v 3) (ac (v 4) a_nil))))) e_non) (w_one_or (ct op_oIsN bool_oIs (cl C.f_first_later_x hr (ac (v 1) (ac (v 2) (ac (v 3) (ac (v 4) a_nil))))) e_non))).pt (s_one (s_ret e_bl)) s_nil)
  (s_cons (sf PassesOwn.never (ir1 C.n_range (ac e_int a_nil)) (gn 6 nd) (s_cons (ss 7 nd (cl C.f__law_of hr (ac (v 0) (ac (e_lst (ac (cl C.f__law_take hr (ac (v 0) (ac (e_bin op_oMul e_int (v 1)) a_nil))) (ac (cl C.f__law_take hr (ac (v 0) (ac (e_bin op_oPow e_int e_int) a_nil))) a_nil))) a_nil))))
  (s_cons (ss 8 nd (cl C.f__law_led hr (ac (v 1) (ac (v 2) (ac (v 7) (ac (v 3) a_nil))))))
  (s_cons (s_if (w_or (ct (op_oNe hK hr.units) bool_oNe (cl C.f_stepped_by hr (ac (v 1) (ac (v 2) (ac (v 7) (ac (v 3) a_nil))))) (v 8)) (w_one_or (ct (op_oNe hK hr.units) bool_oNe (cl C.f_stepped_by hr (ac (v 1) (ac (v 2) (ac (v 7) (ac (v 4) a_nil))))) (v 8)))).pt (s_one (s_ret e_bl)) s_nil)
  (s_one (s_if (ct (op_oNe hK hr.units) bool_oNe (cl C.f_by_table hr (ac (v 1) (ac (v 5) (ac (v 7) a_nil)))) (v 8)) (s_one (s_ret e_bl)) s_nil))))))
  (s_one (s_ret e_bl))))))
theorem sc__law_right : FnScope ["pot", "height", "first", "one", "other", "pairs", "mine", "its", "ahead", "behind_v", "both", "turned", "due", "x", "is_same"] ["pot"] (defScope (top 58)) := ⟨rfl, rfl, rfl, by decide +kernel, rfl, by decide +kernel, by decide +kernel⟩
theorem w__law_right (C : Ct P w K mg base G k) (cdv : Value) (A : Around) (outer : List PySem.Env) (s : Shared) (H : Hp) (E : XK) (hr : Room k (A.deeper (envOfC "_law_right" (defScope (top 58)) s.heap.objs.size (G.fn 37) cdv))) :
    PSs (cxOf CX0 P w K mg base ["pot", "height", "first", "one", "other", "pairs", "mine", "its", "ahead", "behind_v", "both", "turned", "due", "x", "is_same"] "_law_right" (defScope (top 58)) (G.fn 37) cdv A outer s H E).nox (defBody (top 58)) (tS G (ecN T KF k) x__law_right) :=
  have hK := C.hK
  have nd := (sc__law_right).nd
  (s_cons (sp 1 2 nd (ac (e_bin (op_oAdd hK) e_int (cl C.f__law_take hr (ac (v 0) (ac e_int a_nil)))) (ac (e_bin (op_oAdd hK) e_int (cl C.f__law_take hr (ac (v 0) (ac e_int a_nil)))) a_nil)))
  (s_cons (sp 3 4 nd (ac (cl C.f__law_take hr (ac (v 0) (ac (cl C.f__law_of hr (ac (v 0) (ac (e_lst (ac e_int (ac e_int a_nil))) a_nil))) a_nil))) (ac (cl C.f__law_take hr (ac (v 0) (ac (cl C.f__law_of hr (ac (v 0) (ac (e_lst (ac e_int (ac e_int a_nil))) a_nil))) a_nil))) a_nil)))
  (s_cons (ss 5 nd (cl C.f__law_pairs hr (ac (v 1) (ac (v 3) (ac (v 4) a_nil)))))
  (s_cons (sf PassesOwn.never (i_seq hK (v 5)) (gt hK (gc (gn 6 nd) (gc (gn 7 nd) gs_nil))) (s_one (s_if (t_not (tv hK (cl C.f__law_is_pair_right hr (ac (v 0) (ac (v 1) (ac (v 2) (ac (v 6) (ac (v 7) a_nil)))))))) (s_one (s_ret e_bl)) s_nil)))
  (s_cons (sp 8 9 nd (ac (cl C.f__law_step hr (ac (v 0) (ac (v 1) a_nil))) (ac (cl C.f__law_step hr (ac (v 0) (ac (v 1) a_nil))) a_nil)))
  (s_cons (sa (cl C.f__law_of hr (ac (v 0) (ac (v 5) a_nil))) (gt hK (gc (gn 6 nd) (gc (gn 7 nd) gs_nil))))
  (s_cons (s_if (t_not (tv hK (cl C.f__law_is_pair_right hr (ac (v 0) (ac (v 1) (ac (v 2) (ac (e_bin (op_oAdd hK) (e_bin (op_oAdd hK) (e_tup (ac (v 8) a_nil)) (v 6)) (e_tup (ac (v 9) a_nil))) (ac (e_bin (op_oAdd hK) (e_bin (op_oAdd hK) (e_tup (ac (v 8) a_nil)) (v 7)) (e_tup (ac (v 9) a_nil))) a_nil)))))))) (s_one (s_ret e_bl)) s_nil)
  (s_cons (sp 10 11 nd (ac (cl C.f_table_of hr (ac (v 1) (ac (v 2) (ac (e_tup (ac (v 8) (ac (v 9) a_nil))) a_nil)))) (ac (cl C.f_table_of hr (ac (v 1) (ac (v 2) (ac (e_tup (ac (v 9) (ac (v 8) a_nil))) a_nil)))) a_nil)))
  (s_cons (s_if (ct (op_oNe hK hr.units) bool_oNe (v 10) (cl C.f_then hr (ac (v 1) (ac (cl C.f_table_of hr (ac (v 1) (ac (v 2) (ac (e_tup (ac (v 8) a_nil)) a_nil)))) (ac (cl C.f_table_of hr (ac (v 1) (ac (v 2) (ac (e_tup (ac (v 9) a_nil)) a_nil)))) a_nil))))) (s_one (s_ret e_bl)) s_nil)
  (s_cons (ss 12 nd (e_lst a_nil))
  (s_cons (sf PassesOwn.never (ir1 C.n_range (ac (e_bin op_oMul e_int (v 1)) a_nil)) (gn 13 nd) (s_cons (ss 14 nd (cm (op_oEq hK hr.units) (cl C.f__law_led hr (ac (v 1) (ac (v 2) (ac (v 13) (ac (e_tup (ac (v 8) (ac (v 9) a_nil))) a_nil))))) (cl C.f__law_led hr (ac (v 1) (ac (v 2) (ac (v 13) (ac (e_tup (ac (v 9) (ac (v 8) a_nil))) a_nil)))))))
  (s_one (sx (ext hK (v 12) (ac (e_if (tv hK (v 14)) (e_lst a_nil) (e_lst (ac (v 13) a_nil))) a_nil))))))
  (s_cons (s_if (ct (op_oNe hK hr.units) bool_oNe (cm (op_oEq hK hr.units) (v 10) (v 11)) (cm (op_oEq hK hr.units) (v 12) (e_lst a_nil))) (s_one (s_ret e_bl)) s_nil)
  (s_one (s_ret (cm (op_oEq hK hr.units) (cl C.f_first_unlike_x hr (ac (v 1) (ac (v 2) (ac (e_tup (ac (v 8) (ac (v 9) a_nil))) (ac (e_tup (ac (v 9) (ac (v 8) a_nil))) a_nil))))) (e_if (ct (op_oNe hK hr.units) bool_oNe (v 12) (e_lst a_nil)) (ix hK (v 12) e_int) e_non))))))))))))))))
theorem sc_law : FnScope ["script", "place", "pot", "lap"] ["script"] (defScope (top 59)) := ⟨rfl, rfl, rfl, by decide +kernel, rfl, by decide +kernel, by decide +kernel⟩
theorem w_law (C : Ct P w K mg base G k) (cdv : Value) (A : Around) (outer : List PySem.Env) (s : Shared) (H : Hp) (E : XK) (hr : Room k (A.deeper (envOfC "law" (defScope (top 59)) s.heap.objs.size (G.fn 38) cdv))) :
    PSs (cxOf CX0 P w K mg base ["script", "place", "pot", "lap"] "law" (defScope (top 59)) (G.fn 38) cdv A outer s H E).nox (defBody (top 59)) (tS G (ecN T KF k) x_law) :=
  have hK := C.hK
  have nd := (sc_law).nd
  (s_cons (sf PassesOwn.never (i_seq hK (cl C.f__law_cells hr (ac (v 0) (ac e_int a_nil)))) (gn 1 nd) (s_cons (ss 2 nd (cl C.f__law_pot hr (ac (v 0) (ac (v 1) a_nil))))
  (s_one (s_if (t_not (tv hK (fB (op_nAll hK rfl) C.n_all boot_all (ac (lc [("lap", 3)] nd (ir1 C.n_range (ac e_int a_nil)) (fun _ _ _ _ _ => (wn 3 nd)) (fun _ _ _ _ _ => ts_nil) (fun _ _ _ _ _ => (cl C.f__law_right hr (ac (v 2) a_nil)))) a_nil)))) (s_one (s_ret e_bl)) s_nil))))
  (s_one (s_ret e_bl)))
end
end K85
set_option Elab.async false
set_option linter.all false
set_option maxRecDepth 100000
set_option maxHeartbeats 4000000
/-! evaluating combinators -/
namespace Pe
open PySem PySem.Spec PyProof.Rows L2
/-! ### equality -/
theorem beq_dec {α : Type} [DecidableEq α] [BEq α] [LawfulBEq α] (a b : α) : (a == b) = decide (a = b) := by
  by_cases h : a = b
  · subst h
    simp
  · simp [h]
theorem pdI (S : Store) (i : Int) : pd 60 S (.int i) = some (.int i) := rfl
theorem pdN (S : Store) : pd 60 S .non = some .none := rfl
theorem pdB (S : Store) (b : Bool) : pd 60 S (.bl b) = some (.bool b) := rfl
theorem pdS (S : Store) (x : Cs) : pd 60 S (.str x) = some (.str (stO x)) := rfl
theorem pdT (S : Store) (xs : List D) : pd 60 S (.tup xs) = (xs.mapM (pd 59 S)).map .tuple := rfl
theorem pdR {n : Nat} {S : Store} {xs : List D} (h : S[n]? = some (.lst xs)) : pd 60 S (.ref n) = (xs.mapM (pd 59 S)).map .list := by
  show (match S[n]? with
    | some (.lst xs) => (xs.mapM (pd 59 S)).map PyData.list
    | _ => none) = _
  rw [h]
theorem oEq_of {a b : D} {p q : PyData} {S : Store} (h : pd 60 S a = some p) (h' : pd 60 S b = some q) : oEq a b S = some (.bl (PyData.eqv p q), S) := by
  unfold oEq
  rw [h, h']
theorem oNe_of {a b : D} {p q : PyData} {S : Store} (h : pd 60 S a = some p) (h' : pd 60 S b = some q) : oNe a b S = some (.bl (!PyData.eqv p q), S) := by
  unfold oNe
  rw [h, h']
theorem eqvI (i j : Int) : PyData.eqv (.int i) (.int j) = decide (i = j) := by
  rw [PyData.eqv]
  exact beq_dec _ _
theorem eqvB (i j : Bool) : PyData.eqv (.bool i) (.bool j) = decide (i = j) := by
  rw [PyData.eqv]
  exact beq_dec _ _
theorem eqvS (a b : Cs) : PyData.eqv (.str (stO a)) (.str (stO b)) = decide (a = b) := by
  rw [PyData.eqv, stO_beq]
  exact beq_dec _ _
@[simp] theorem eq_int (i j : Int) (S : Store) : oEq (.int i) (.int j) S = some (.bl (decide (i = j)), S) := by rw [oEq_of (pdI S i) (pdI S j), eqvI]
@[simp] theorem ne_int (i j : Int) (S : Store) : oNe (.int i) (.int j) S = some (.bl (!decide (i = j)), S) := by rw [oNe_of (pdI S i) (pdI S j), eqvI]
@[simp] theorem eq_str (a b : Cs) (S : Store) : oEq (.str a) (.str b) S = some (.bl (decide (a = b)), S) := by rw [oEq_of (pdS S a) (pdS S b), eqvS]
@[simp] theorem ne_str (a b : Cs) (S : Store) : oNe (.str a) (.str b) S = some (.bl (!decide (a = b)), S) := by rw [oNe_of (pdS S a) (pdS S b), eqvS]
@[simp] theorem eq_bl (a b : Bool) (S : Store) : oEq (.bl a) (.bl b) S = some (.bl (decide (a = b)), S) := by rw [oEq_of (pdB S a) (pdB S b), eqvB]
@[simp] theorem ne_bl (a b : Bool) (S : Store) : oNe (.bl a) (.bl b) S = some (.bl (!decide (a = b)), S) := by rw [oNe_of (pdB S a) (pdB S b), eqvB]
@[simp] theorem eq_non (S : Store) : oEq .non .non S = some (.bl true, S) := by rw [oEq_of (pdN S) (pdN S), PyData.eqv]
@[simp] theorem eq_int_non (i : Int) (S : Store) : oEq (.int i) .non S = some (.bl false, S) := by rw [oEq_of (pdI S i) (pdN S), PyData.eqv]
@[simp] theorem eq_non_int (i : Int) (S : Store) : oEq .non (.int i) S = some (.bl false, S) := by rw [oEq_of (pdN S) (pdI S i), PyData.eqv]
theorem pd_ints (k : Nat) (S : Store) : ∀ xs : List Int, (xs.map D.int).mapM (pd (k + 1) S) = some (xs.map PyData.int)
  | [] => rfl
  | x :: xs => by
    rw [List.map_cons, List.mapM_cons, pd_ints k S xs]
    rfl
theorem eqvs_ints : ∀ xs ys : List Int, PyData.eqvAll (xs.map PyData.int) (ys.map PyData.int) = decide (xs = ys)
  | [], [] => by simp [PyData.eqvAll]
  | [], y :: ys => by simp [PyData.eqvAll]
  | x :: xs, [] => by simp [PyData.eqvAll]
  | x :: xs, y :: ys => by
    rw [List.map_cons, List.map_cons, PyData.eqvAll, eqvs_ints xs ys, eqvI]
    simp [Bool.decide_and]
theorem pdTi (S : Store) (xs : List Int) : pd 60 S (.tup (xs.map D.int)) = some (.tuple (xs.map PyData.int)) := by
  rw [pdT, pd_ints 58 S xs]
  rfl
theorem pdLi {n : Nat} {S : Store} {xs : List Int} (h : S[n]? = some (.lst (xs.map D.int))) : pd 60 S (.ref n) = some (.list (xs.map PyData.int)) := by
  rw [pdR h, pd_ints 58 S xs]
  rfl
theorem eq_tints (xs ys : List Int) (S : Store) : oEq (.tup (xs.map D.int)) (.tup (ys.map D.int)) S = some (.bl (decide (xs = ys)), S) := by
  rw [oEq_of (pdTi S xs) (pdTi S ys), PyData.eqv, eqvs_ints]
theorem ne_tints (xs ys : List Int) (S : Store) : oNe (.tup (xs.map D.int)) (.tup (ys.map D.int)) S = some (.bl (!decide (xs = ys)), S) := by
  rw [oNe_of (pdTi S xs) (pdTi S ys), PyData.eqv, eqvs_ints]
theorem eq_lints {n m : Nat} {xs ys : List Int} {S : Store} (h : S[n]? = some (.lst (xs.map D.int))) (h' : S[m]? = some (.lst (ys.map D.int))) : oEq (.ref n) (.ref m) S = some (.bl (decide (xs = ys)), S) := by
  rw [oEq_of (pdLi h) (pdLi h'), PyData.eqv, eqvs_ints]
theorem ne_lints {n m : Nat} {xs ys : List Int} {S : Store} (h : S[n]? = some (.lst (xs.map D.int))) (h' : S[m]? = some (.lst (ys.map D.int))) : oNe (.ref n) (.ref m) S = some (.bl (!decide (xs = ys)), S) := by
  rw [oNe_of (pdLi h) (pdLi h'), PyData.eqv, eqvs_ints]
/-! ### the small ones -/
@[simp] theorem add_int (i j : Int) (S : Store) : oAdd (.int i) (.int j) S = some (.int (i + j), S) := rfl
@[simp] theorem sub_int (i j : Int) (S : Store) : oSub (.int i) (.int j) S = some (.int (i - j), S) := rfl
@[simp] theorem lt_int' (i j : Int) (S : Store) : oLt (.int i) (.int j) S = some (.bl (decide (i < j)), S) := rfl
@[simp] theorem le_int' (i j : Int) (S : Store) : oLe (.int i) (.int j) S = some (.bl (decide (i ≤ j)), S) := rfl
@[simp] theorem gt_int' (i j : Int) (S : Store) : oGt (.int i) (.int j) S = some (.bl (decide (j < i)), S) := rfl
@[simp] theorem ge_int' (i j : Int) (S : Store) : oGe (.int i) (.int j) S = some (.bl (decide (j ≤ i)), S) := rfl
theorem mod_int {i j : Int} {S : Store} (h : 0 < j) : oMod (.int i) (.int j) S = some (.int (i % j), S) := by simp [oMod, oI, h]
theorem fits_of {i : Int} {b : Nat} (hb : b ≤ 2 ^ 3000) (h1 : -(b : Int) < i) (h2 : i < (b : Int)) : fits i = true := by
  unfold fits
  refine decide_eq_true (Nat.lt_of_lt_of_le ?_ hb)
  omega
theorem div_int {i j : Int} {S : Store} (h : 0 < j) (hf : fits j = true) : oDiv (.int i) (.int j) S = some (.int (i / j), S) := by simp [oDiv, oI, h, hf]
theorem mul_int {i j : Int} {S : Store} (h : fits i = true) (hf : fits j = true) : oMul (.int i) (.int j) S = some (.int (i * j), S) := by simp [oMul, oI, h, hf]
section
variable (c : Ec) (env : Env) (S : Store)
@[simp] theorem u_var (i : Nat) : eVar i c env S = match env[i]? with
  | some (some d) => some (d, S)
  | _ => none := rfl
@[simp] theorem u_c (d : D) : eC d c env S = some (d, S) := rfl
@[simp] theorem u_bin (o : Op2) (a b : Ex) : eBin o a b c env S = (a c env S).bind fun p => (b c env p.2).bind fun q => o p.1 q.1 q.2 := rfl
@[simp] theorem u_chain (o o' : Op2) (a b d : Ex) : eChain o o' a b d c env S = (a c env S).bind fun p => (b c env p.2).bind fun q => (o p.1 q.1 q.2).bind fun r => match r.1 with
  | .bl true => (d c env r.2).bind fun t => o' q.1 t.1 t.2
  | .bl false => some (.bl false, r.2)
  | _ => none := rfl
@[simp] theorem u_not (a : Ex) : eNot a c env S = (a c env S).bind fun p => (truD p.2 p.1).map fun t => (.bl (!t), p.2) := rfl
@[simp] theorem u_neg (a : Ex) : eNeg a c env S = (a c env S).bind fun p => match p.1 with
  | .int i => some (.int (-i), p.2)
  | _ => none := rfl
@[simp] theorem u_if (t : Tx) (a b : Ex) : eIf t a b c env S = (t c env S).bind fun p => match p.1 with
  | true => a c env p.2
  | false => b c env p.2 := rfl
@[simp] theorem u_of (a : Ex) : tOfE a c env S = (a c env S).bind fun p => (truD p.2 p.1).map fun b => (b, p.2) := rfl
@[simp] theorem u_tnot (a : Tx) : tNotD a c env S = (a c env S).map fun p => (!p.1, p.2) := rfl
@[simp] theorem u_tand (a b : Tx) : tAndD a b c env S = (a c env S).bind fun p => match p.1 with
  | true => b c env p.2
  | false => some (false, p.2) := rfl
@[simp] theorem u_tor (a b : Tx) : tOrD a b c env S = (a c env S).bind fun p => match p.1 with
  | true => some (true, p.2)
  | false => b c env p.2 := rfl
@[simp] theorem u_and (a b : Ex) : eAnd a b c env S = (a c env S).bind fun p => match truD p.2 p.1 with
  | some true => b c env p.2
  | some false => some (p.1, p.2)
  | none => none := rfl
@[simp] theorem u_or (a b : Ex) : eOr a b c env S = (a c env S).bind fun p => match truD p.2 p.1 with
  | some true => some (p.1, p.2)
  | some false => b c env p.2
  | none => none := rfl
@[simp] theorem u_anil : aNil c env S = some ([], S) := rfl
@[simp] theorem u_anone : aNone c env S = some ([], S) := rfl
@[simp] theorem u_acons (a : Ex) (r : Ax) : aCons a r c env S = (a c env S).bind fun p => (r c env p.2).map fun q => (p.1 :: q.1, q.2) := rfl
@[simp] theorem u_tup (a : Ax) : eTup a c env S = (a c env S).bind fun p => if p.1.length ≤ 16777216 then some (.tup p.1, p.2) else none := rfl
@[simp] theorem u_lst (a : Ax) : eLst a c env S = (a c env S).bind fun p => if p.1.length ≤ 16777216 then some (.ref p.2.length, p.2 ++ [.lst p.1]) else none := rfl
@[simp] theorem u_fun (o : OpN) (a : Ax) : eFun o a c env S = (a c env S).bind fun p => o p.1 p.2 := rfl
@[simp] theorem u_isi (t : Ty) (a : Ex) : eIsi t a c env S = (a c env S).bind fun p => (tyD p.2 p.1).map fun u => (.bl (isTy u t), p.2) := rfl
@[simp] theorem u_call (f : Nat) (a : Ax) : eCall f a c env S = (a c env S).bind fun p => c.call f p.1 p.2 := rfl
@[simp] theorem u_next : sNext c env S = some (.nx env, S) := rfl
@[simp] theorem u_seq (a b : Sx) : sSeq a b c env S = (a c env S).bind fun p => match p.1 with
  | .nx env' => b c env' p.2
  | f => some (f, p.2) := rfl
@[simp] theorem u_exp (e : Ex) : sExp e c env S = (e c env S).map fun p => (.nx env, p.2) := rfl
@[simp] theorem u_ret (e : Ex) : sRet e c env S = (e c env S).map fun p => (.rt p.1, p.2) := rfl
@[simp] theorem u_retN : sRetN c env S = some (.rt .non, S) := rfl
@[simp] theorem u_sif (t : Tx) (a b : Sx) : sIf t a b c env S = (t c env S).bind fun p => if p.1 = true then a c env p.2 else b c env p.2 := rfl
@[simp] theorem u_asg (e : Ex) (g : Gx) : sAsg e g c env S = (e c env S).bind fun p => (g p.1 c env p.2).map fun q => (.nx q.1, q.2) := rfl
@[simp] theorem u_par (i j : Nat) (a : Ax) : sPar i j a c env S = (a c env S).bind fun p => match p.1 with
  | [d, e] => some (.nx ((env.set i (some d)).set j (some e)), p.2)
  | _ => none := rfl
@[simp] theorem u_nm (i : Nat) (d : D) : gNm i d c env S = some (env.set i (some d), S) := rfl
@[simp] theorem u_for (it : Ix) (g : Gx) (b : Sx) : sFor it g b c env S = (it c env S).bind fun p => forLoop p.1.watch g b c p.1.items env p.2 := rfl
@[simp] theorem u_yes : tYesX c env S = some (true, S) := rfl
@[simp] theorem u_gsnil : gsNil [] c env S = some (env, S) := rfl
@[simp] theorem u_gscons (g : Gx) (u : Gxs) (d : D) (ds : List D) : gsCons g u (d :: ds) c env S = (g d c env S).bind fun p => u ds c p.1 p.2 := rfl
@[simp] theorem u_gtp (n : Nat) (u : Gxs) (xs : List D) : gTp n u (.tup xs) c env S = if xs.length = n then u xs c env S else none := rfl
@[simp] theorem u_gix (o i : Ex) (d : D) : gIx o i d c env S = (o c env S).bind fun p => (i c env p.2).bind fun q => (stIx p.1 q.1 d q.2).map fun S' => (env, S') := rfl
@[simp] theorem u_mt (o : Ex) (a : Ax) (g : Store → D → Bool) (m : OpM) : eMt o a g m c env S = (o c env S).bind fun p => if g p.2 p.1 = true then (a c env p.2).bind fun q => m p.1 q.1 q.2 else none := rfl
@[simp] theorem u_iseq (e : Ex) : iSeq e c env S = (e c env S).bind fun p => (seqI p.2 p.1).map fun q => (q, p.2) := rfl
@[simp] theorem u_sl (a : Ex) (lo hi : Ox) : eSl a lo hi c env S = (a c env S).bind fun p => (lo c env p.2).bind fun l => (hi c env l.2).bind fun u => slD p.1 l.1 u.1 u.2 := rfl
@[simp] theorem u_onone : oNone c env S = some (none, S) := rfl
@[simp] theorem u_osome (e : Ex) : oSome e c env S = (e c env S).bind fun p => match p.1 with
  | .int i => some (some i, p.2)
  | _ => none := rfl
@[simp] theorem u_rg1 (a : Ax) : iRange1 a c env S = (a c env S).bind fun p => match p.1 with
  | [.int j] => if inR j = true then some (⟨rngItems 0 1 j.toNat, []⟩, p.2) else none
  | _ => none := rfl
@[simp] theorem u_enu (a : Ax) : iEnu a c env S = (a c env S).bind fun p => match p.1 with
  | [d] => (seqX p.2 d).map fun xs => (⟨enumFrom 0 xs, watchOf p.2 d⟩, p.2)
  | _ => none := rfl
@[simp] theorem u_zip (a : Ax) : iZip a c env S = (a c env S).bind fun p => match p.1 with
  | [d, e] => if kindsOk p.2 d e = true then (seqX p.2 d).bind fun xs => (seqX p.2 e).map fun ys => (⟨zipD xs ys, watchOf p.2 d ++ watchOf p.2 e⟩, p.2) else none
  | _ => none := rfl
@[simp] theorem u_ez (a : Ax) : iEz a c env S = (a c env S).bind fun p => match p.1 with
  | [d, e] => (seqX p.2 d).bind fun xs => (seqX p.2 e).map fun ys => (⟨enumFrom 0 (zipD xs ys), watchOf p.2 d ++ watchOf p.2 e⟩, p.2)
  | _ => none := rfl
@[simp] theorem u_lrg (a : Ex) : eLRg1 a c env S = (a c env S).bind fun p => match p.1 with
  | .int j => if inR j = true ∧ j.toNat ≤ 16777216 then some (.ref p.2.length, p.2 ++ [.lst (rngItems 0 1 j.toNat)]) else none
  | _ => none := rfl
end
@[simp] theorem ty_int (S : Store) (i : Int) : tyD S (.int i) = some .int := rfl
@[simp] theorem ty_bl (S : Store) (i : Bool) : tyD S (.bl i) = some .bl := rfl
@[simp] theorem ty_str (S : Store) (i : Cs) : tyD S (.str i) = some .str := rfl
@[simp] theorem ty_tup (S : Store) (i : List D) : tyD S (.tup i) = some .tup := rfl
@[simp] theorem ty_non (S : Store) : tyD S .non = some .non := rfl
@[simp] theorem isTy_def (a b : Ty) : isTy a b = (decide (a = b) || (decide (a = .bl) && decide (b = .int))) := rfl
@[simp] theorem ix_tup (xs : List D) (i : Int) (S : Store) : oIx (.tup xs) (.int i) S = (atI xs i).map fun d => (d, S) := rfl
@[simp] theorem ix_scr (xs : List D) (i : Int) (S : Store) : oIx (.scr xs) (.int i) S = (atI xs i).map fun d => (d, S) := rfl
theorem ix_ref {n : Nat} {xs : List D} {i : Int} {S : Store} (h : S[n]? = some (.lst xs)) : oIx (.ref n) (.int i) S = (atI xs i).map fun d => (d, S) := by
  simp [oIx, seqX, seqT, seqL, seqM, look, h]
@[simp] theorem at0 {α : Type} (x : α) (r : List α) : atI (x :: r) 0 = some x := by
  have : (0 : Int) < ((r.length : Nat) : Int) + 1 := by omega
  simp [atI, ixN, this]
@[simp] theorem at1 {α : Type} (x y : α) (r : List α) : atI (x :: y :: r) 1 = some y := by
  have : (1 : Int) < ((r.length : Nat) : Int) + 1 + 1 := by omega
  simp [atI, ixN, this]
@[simp] theorem at2 {α : Type} (x y z : α) (r : List α) : atI (x :: y :: z :: r) 2 = some z := by
  have : (2 : Int) < ((r.length : Nat) : Int) + 1 + 1 + 1 := by omega
  simp [atI, ixN, this]
theorem at_nat {α : Type} {xs : List α} {i : Int} (h0 : 0 ≤ i) (h1 : i < xs.length) : atI xs i = xs[i.toNat]? := by
  unfold atI ixN
  rw [if_pos h0, if_pos h1]
  rfl
@[simp] theorem len_tup (xs : List D) (S : Store) : nLen [.tup xs] S = some (.int xs.length, S) := rfl
@[simp] theorem len_scr (xs : List D) (S : Store) : nLen [.scr xs] S = some (.int xs.length, S) := rfl
theorem len_ref {n : Nat} {xs : List D} {S : Store} (h : S[n]? = some (.lst xs)) : nLen [.ref n] S = some (.int xs.length, S) := by
  simp [nLen, seqX, seqT, seqL, seqM, look, h]
@[simp] theorem in_tup (neg : Bool) (a : D) (xs : List D) (S : Store) : oInX neg a (.tup xs) S = if flatD a = true ∧ xs.all flatD = true then some (.bl (if neg then !inF a xs else inF a xs), S) else none := rfl
@[simp] theorem min_two (i j : Int) (S : Store) : nMin [.int i, .int j] S = some (.int (if j < i then j else i), S) := rfl
@[simp] theorem max_two (i j : Int) (S : Store) : nMax [.int i, .int j] S = some (.int (if j > i then j else i), S) := rfl
@[simp] theorem int_int (i : Int) (S : Store) : nInt [.int i] S = some (.int i, S) := rfl
@[simp] theorem int_bl (b : Bool) (S : Store) : nInt [.bl b] S = some (.int (if b = true then 1 else 0), S) := rfl
@[simp] theorem abs_int (i : Int) (S : Store) : nAbs [.int i] S = some (.int (if i < 0 then -i else i), S) := rfl
@[simp] theorem is_bl (neg x y : Bool) (S : Store) : oIs neg (.bl x) (.bl y) S = some (.bl (if neg then !decide (x = y) else decide (x = y)), S) := rfl
@[simp] theorem is_non (neg : Bool) (a : D) (S : Store) : oIs neg a .non S = (isN a).map fun t => (.bl (if neg then !t else t), S) := rfl
@[simp] theorem isN_non : isN .non = some true := rfl
@[simp] theorem isN_int (i : Int) : isN (.int i) = some false := rfl
@[simp] theorem tru_bl (S : Store) (b : Bool) : truD S (.bl b) = some b := rfl
@[simp] theorem tru_int (S : Store) (i : Int) : truD S (.int i) = some (i != 0) := rfl
@[simp] theorem out_rt (d : D) : outOf (.rt d) = some d := rfl
@[simp] theorem out_nx (env : Env) : outOf (.nx env) = some .non := rfl
@[simp] theorem startE_eq (m : Nat) (ds : List D) : startE m ds = ds.map some ++ List.replicate (m - ds.length) none := rfl
@[simp] theorem sizeL : sizeLine = 16777216 := rfl
/-! ### calls -/
variable {T : Nat → Option Pd} {KF : Nat}
theorem free_args : ∀ {ds : List D}, freeL ds = true → argsOk ds = true ∧ lentOf ds = [] ∧ ∀ i, lendA i ds = ds
  | [], _ => ⟨rfl, rfl, fun _ => rfl⟩
  | d :: ds, h => by
    simp only [freeL, Bool.and_eq_true] at h
    obtain ⟨h1, h2, h3⟩ := free_args h.2
    cases d with
    | ref n => simp [D.free] at h
    | _ => exact ⟨by simp only [argsOk, h.1, h1, Bool.and_self], h2, fun i => by show _ :: lendA i ds = _; rw [h3 i]⟩
theorem give_free {ns : List Nat} {S S' : Store} {d : D} {cs : List D} (hd : d.free = true) (h : (S'.take ns.length) = cs) (hc : freeL cs = true) : giveBack ns S S' d = some (d, putBack ns cs S) := by
  have e : ∀ r : Nat → Option D, sealW r d = some d := fun r => seal_free hd
  have e2 : ∀ r : Nat → Option D, sealL r cs = some cs := fun r => sealL_free hc
  cases d with
  | ref n => simp [D.free] at hd
  | _ => simp only [giveBack, h, e2, e, Option.bind_some, Option.map_some]
theorem call_pure {f np nl k : Nat} {body : Sx} {ds : List D} {S S' : Store} {fl : Fl} {d : D} (hT : T f = some ⟨np, nl, body⟩) (hl : ds.length = np) (hf : freeL ds = true) (hb : body (ecN T KF k) (startE nl ds) [] = some (fl, S')) (ho : outOf fl = some d) (hd : d.free = true) : callN T KF (k + 1) f ds S = some (d, S) := by
  obtain ⟨h1, h2, h3⟩ := free_args hf
  unfold callN
  rw [hT]
  simp only [Option.bind_some]
  rw [if_pos ⟨hl, h1, by rw [h2]; exact List.nodup_nil⟩, h2, h3 0]
  simp only [getAll, Option.bind_some, hb, ho]
  rw [give_free (cs := []) hd (by simp) rfl]
  simp [putBack]
/-- a list that was made in the call -/
theorem call_list {f np nl k j : Nat} {body : Sx} {ds xs : List D} {S S' : Store} {fl : Fl} (hT : T f = some ⟨np, nl, body⟩) (hl : ds.length = np) (hf : freeL ds = true) (hb : body (ecN T KF k) (startE nl ds) [] = some (fl, S')) (ho : outOf fl = some (.ref j)) (hj : S'[j]? = some (.lst xs)) (hx : freeL xs = true) : callN T KF (k + 1) f ds S = some (.ref S.length, S ++ [.lst xs]) := by
  obtain ⟨h1, h2, h3⟩ := free_args hf
  unfold callN
  rw [hT]
  simp only [Option.bind_some]
  rw [if_pos ⟨hl, h1, by rw [h2]; exact List.nodup_nil⟩, h2, h3 0]
  simp only [getAll, Option.bind_some, hb, ho]
  have e2 : ∀ r : Nat → Option D, sealW r (.lst xs) = some (.lst xs) := fun r => seal_free (by simpa [D.free] using hx)
  simp only [giveBack, List.getElem?_nil, List.length_nil, List.take_zero, sealL, Option.bind_some, hj, e2, Option.map_some, putBack]
/-- one cell lent -/
theorem call_cell {f np nl k n : Nat} {body : Sx} {ds : List D} {S S' : Store} {fl : Fl} {d c0 c1 : D} (hT : T f = some ⟨np, nl, body⟩) (hl : ds.length + 1 = np) (hf : freeL ds = true) (hn : S[n]? = some c0) (h0 : c0.free = true) (hb : body (ecN T KF k) (startE nl (.ref 0 :: ds)) [c0] = some (fl, S')) (ho : outOf fl = some d) (hd : d.free = true) (h1 : S'[0]? = some c1) (h2 : c1.free = true) : callN T KF (k + 1) f (.ref n :: ds) S = some (d, S.set n c1) := by
  obtain ⟨a1, a2, a3⟩ := free_args hf
  unfold callN
  rw [hT]
  simp only [Option.bind_some]
  have b1 : lentOf (.ref n :: ds) = [n] := by show n :: lentOf ds = [n]; rw [a2]
  have b2 : lendA 0 (.ref n :: ds) = .ref 0 :: ds := by show D.ref 0 :: lendA 1 ds = _; rw [a3]
  rw [if_pos ⟨by simpa using hl, a1, by rw [b1]; simp⟩, b1, b2]
  simp only [getAll, hn, h0, if_true, Option.map_some, Option.bind_some, hb, ho]
  have ht : S'.take 1 = [c1] := by
    cases S' with
    | nil => simp at h1
    | cons x r => simp at h1; subst h1; simp
  rw [give_free (ns := [n]) (cs := [c1]) hd ht (by simp [freeL, h2])]
  simp [putBack]
/-- two cells lent, the second one kept as it is -/
theorem call_cells {f np nl k n m : Nat} {body : Sx} {S S' : Store} {fl : Fl} {d c0 c1 e0 : D} (hT : T f = some ⟨np, nl, body⟩) (hl : 2 = np) (hnm : n ≠ m) (hn : S[n]? = some c0) (h0 : c0.free = true) (hm : S[m]? = some e0) (h0' : e0.free = true) (hb : body (ecN T KF k) (startE nl [.ref 0, .ref 1]) [c0, e0] = some (fl, S')) (ho : outOf fl = some d) (hd : d.free = true) (h1 : S'[0]? = some c1) (h2 : c1.free = true) (h3 : S'[1]? = some e0) : callN T KF (k + 1) f [.ref n, .ref m] S = some (d, S.set n c1) := by
  unfold callN
  rw [hT]
  simp only [Option.bind_some]
  rw [if_pos ⟨by simpa using hl, rfl, by simp [lentOf, hnm]⟩]
  simp only [lentOf, lendA, Nat.zero_add]
  simp only [getAll, hn, hm, h0, h0', if_true, Option.map_some, Option.bind_some, hb, ho]
  have ht : S'.take 2 = [c1, e0] := by
    cases S' with
    | nil => simp at h1
    | cons x r =>
      cases r with
      | nil => simp at h3
      | cons y r => simp at h1 h3; subst h1 h3; simp
  rw [give_free (ns := [n, m]) (cs := [c1, e0]) hd ht (by simp [freeL, h2, h0'])]
  simp only [putBack]
  congr 2
  refine List.ext_getElem? fun i => ?_
  by_cases hi : m = i
  · subst hi
    rw [List.getElem?_set_self (by rw [List.length_set]; exact (List.getElem?_eq_some_iff.mp hm).1), List.getElem?_set_ne hnm, hm]
  · rw [List.getElem?_set_ne hi]
/-! ### loops -/
theorem for_fold {α : Type} {g : Gx} {b : Sx} {c : Ec} (P : α → Prop) (st : α → Env × Store) (step : α → D → α) : ∀ (items : List D) (a : α), P a → (∀ d ∈ items, ∀ a, P a → P (step a d) ∧ ((g d c (st a).1 (st a).2).bind fun p => b c p.1 p.2) = some (.nx (st (step a d)).1, (st (step a d)).2)) →
    forLoop [] g b c items (st a).1 (st a).2 = some (.nx (st (items.foldl step a)).1, (st (items.foldl step a)).2) ∧ P (items.foldl step a)
  | [], a, ha, _ => ⟨rfl, ha⟩
  | d :: r, a, ha, h => by
    obtain ⟨h1, h2⟩ := h d List.mem_cons_self a ha
    obtain ⟨h3, h4⟩ := for_fold P st step r (step a d) h1 fun d hd a ha => h d (List.mem_cons_of_mem _ hd) a ha
    refine ⟨?_, h4⟩
    unfold forLoop
    rw [if_pos (show watchOk [] (st a).2 = true from rfl)]
    obtain ⟨p, q1, q2⟩ := Option.bind_eq_some_iff.mp h2
    rw [q1]
    simp only [Option.bind_some, q2]
    exact h3
theorem lc_loop {g : Gx} {t : Tx} {e : Ex} {c : Ec} {env : Env} {S0 : Store} (F : D → D) : ∀ (items : List D) (acc : List D), acc.length + items.length ≤ 2 ^ 24 → (∀ d ∈ items, ∀ S1, ∃ env', g d c env S1 = some (env', S1) ∧ t c env' S1 = some (true, S1) ∧ e c env' S1 = some (F d, S1)) →
    lcLoop [] g t e c env S0.length items (S0 ++ [.lst acc]) = some (S0 ++ [.lst (acc ++ items.map F)])
  | [], acc, _, _ => by simp [lcLoop, watchOk]
  | d :: r, acc, hl, h => by
    obtain ⟨env', h1, h2, h3⟩ := h d List.mem_cons_self (S0 ++ [.lst acc])
    unfold lcLoop
    rw [if_pos (show watchOk [] (S0 ++ [D.lst acc]) = true from rfl), h1]
    rw [List.length_cons] at hl
    have hg : (S0 ++ [D.lst acc])[S0.length]? = some (.lst acc) := by simp
    have hs : (S0 ++ [D.lst acc]).set S0.length (.lst (acc ++ [F d])) = S0 ++ [.lst (acc ++ [F d])] := by simp
    simp only [Option.bind_some, h2, h3, if_true, cellAdd, hg]
    rw [if_pos (by omega)]
    simp only [Option.bind_some, hs]
    rw [lc_loop F r (acc ++ [F d]) (by rw [List.length_append, List.length_singleton]; omega) fun d hd => h d (List.mem_cons_of_mem _ hd)]
    simp
theorem lc_pure {it : Ix} {vs : List Nat} {g : Gx} {t : Tx} {e : Ex} {c : Ec} {env : Env} {S S0 : Store} {items : List D} (F : D → D) (hi : it c env S = some (⟨items, []⟩, S0)) (hl : items.length ≤ 2 ^ 24)
    (h : ∀ d ∈ items, ∀ S1, ∃ env', g d c (wipeE env vs) S1 = some (env', S1) ∧ t c env' S1 = some (true, S1) ∧ e c env' S1 = some (F d, S1)) : eLc it vs g t e c env S = some (.ref S0.length, S0 ++ [.lst (items.map F)]) := by
  unfold eLc
  rw [hi]
  simp only [Option.bind_some]
  rw [lc_loop F items [] (by simpa using hl) h]
  simp
theorem all_true {xs : List D} (h : ∀ d ∈ xs, d = .bl true) : ∃ bs, blsOf xs = some bs ∧ bs.all id = true := by
  induction xs with
  | nil => exact ⟨[], rfl, rfl⟩
  | cons x xs ih =>
    obtain ⟨bs, h1, h2⟩ := ih fun d hd => h d (List.mem_cons_of_mem _ hd)
    rw [h x List.mem_cons_self]
    refine ⟨true :: bs, ?_, by simpa using h2⟩
    simp only [blsOf, h1, Option.map_some]
theorem nAll_true {n : Nat} {S : Store} {xs : List D} (hn : S[n]? = some (.lst xs)) (h : ∀ d ∈ xs, d = .bl true) : nAll true [.ref n] S = some (.bl true, S) := by
  obtain ⟨bs, h1, h2⟩ := all_true h
  simp [nAll, seqL, seqM, look, hn, h1]
  simpa using h2
theorem nTup_ref {n : Nat} {S : Store} {xs : List D} (hn : S[n]? = some (.lst xs)) : nTup [.ref n] S = some (.tup xs, S) := by
  simp [nTup, seqL, seqM, look, hn]
theorem free_ints : ∀ xs : List Int, freeL (xs.map D.int) = true
  | [] => by simp [freeL]
  | x :: xs => by simp only [List.map_cons, freeL, D.free, free_ints xs, Bool.and_self]
end Pe
set_option Elab.async false
set_option linter.all false
set_option maxRecDepth 100000
set_option maxHeartbeats 4000000
/-! loops by mapped items -/
namespace Pe
open PySem PySem.Spec PyProof.Rows L2
theorem for_map {α β : Type} {g : Gx} {b : Sx} {c : Ec} (P : α → Prop) (e : β → D) (st : α → Env × Store) (step : α → β → α) : ∀ (xs : List β) (a : α), P a → (∀ x ∈ xs, ∀ a, P a → P (step a x) ∧ ((g (e x) c (st a).1 (st a).2).bind fun p => b c p.1 p.2) = some (.nx (st (step a x)).1, (st (step a x)).2)) →
    forLoop [] g b c (xs.map e) (st a).1 (st a).2 = some (.nx (st (xs.foldl step a)).1, (st (xs.foldl step a)).2) ∧ P (xs.foldl step a)
  | [], a, ha, _ => ⟨rfl, ha⟩
  | x :: r, a, ha, h => by
    obtain ⟨h1, h2⟩ := h x List.mem_cons_self a ha
    obtain ⟨h3, h4⟩ := for_map P e st step r (step a x) h1 fun d hd a ha => h d (List.mem_cons_of_mem _ hd) a ha
    refine ⟨?_, h4⟩
    rw [List.map_cons]
    unfold forLoop
    rw [if_pos (show watchOk [] (st a).2 = true from rfl)]
    obtain ⟨p, q1, q2⟩ := Option.bind_eq_some_iff.mp h2
    rw [q1]
    simp only [Option.bind_some, q2]
    exact h3
theorem sFor_map {α β : Type} {it : Ix} {g : Gx} {b : Sx} {c : Ec} {env : Env} {S : Store} (P : α → Prop) (e : β → D) (st : α → Env × Store) (step : α → β → α) (xs : List β) (a : α) (hst : st a = (env, S)) (hi : it c env S = some (⟨xs.map e, []⟩, S)) (ha : P a)
    (h : ∀ x ∈ xs, ∀ a, P a → P (step a x) ∧ ((g (e x) c (st a).1 (st a).2).bind fun p => b c p.1 p.2) = some (.nx (st (step a x)).1, (st (step a x)).2)) : sFor it g b c env S = some (.nx (st (xs.foldl step a)).1, (st (xs.foldl step a)).2) := by
  have q := (for_map P e st step xs a ha h).1
  rw [hst] at q
  rw [u_for, hi]
  exact q
/-- a loop that may leave by return -/
theorem for_find {β : Type} {g : Gx} {b : Sx} {c : Ec} {S : Store} (e : β → D) (hit : β → Bool) (r : β → D) (envs : Option β → Env) : ∀ (xs : List β) (o : Option β), (∀ x ∈ xs, ∀ o, ((g (e x) c (envs o) S).bind fun p => b c p.1 p.2) = some (if hit x = true then .rt (r x) else .nx (envs (some x)), S)) →
    (∃ o', xs.find? hit = none ∧ forLoop [] g b c (xs.map e) (envs o) S = some (.nx (envs o'), S)) ∨ ∃ x, xs.find? hit = some x ∧ forLoop [] g b c (xs.map e) (envs o) S = some (.rt (r x), S)
  | [], o, _ => .inl ⟨o, rfl, rfl⟩
  | x :: xs, o, h => by
    have h1 := h x List.mem_cons_self o
    obtain ⟨p, q1, q2⟩ := Option.bind_eq_some_iff.mp h1
    have hu : forLoop [] g b c ((x :: xs).map e) (envs o) S = (if hit x = true then some (.rt (r x), S) else forLoop [] g b c (xs.map e) (envs (some x)) S) := by
      rw [List.map_cons]
      conv => lhs; unfold forLoop
      rw [if_pos (show watchOk [] S = true from rfl), q1]
      simp only [Option.bind_some, q2]
      cases hx : hit x <;> simp [hx]
    rw [hu, List.find?_cons]
    cases hx : hit x with
    | true => exact .inr ⟨x, rfl, by simp⟩
    | false =>
      rcases for_find e hit r envs xs (some x) fun y hy => h y (List.mem_cons_of_mem _ hy) with ⟨o', a1, a2⟩ | ⟨y, a1, a2⟩
      · exact .inl ⟨o', a1, by simpa using a2⟩
      · exact .inr ⟨y, a1, by simpa using a2⟩
theorem lc_map {β : Type} {it : Ix} {vs : List Nat} {g : Gx} {t : Tx} {e : Ex} {c : Ec} {env : Env} {S S0 : Store} {xs : List β} (en : β → D) (F : β → D) (hi : it c env S = some (⟨xs.map en, []⟩, S0)) (hl : xs.length ≤ 2 ^ 24)
    (h : ∀ x ∈ xs, ∀ S1, ∃ env', g (en x) c (wipeE env vs) S1 = some (env', S1) ∧ t c env' S1 = some (true, S1) ∧ e c env' S1 = some (F x, S1)) : eLc it vs g t e c env S = some (.ref S0.length, S0 ++ [.lst (xs.map F)]) := by
  have key : ∀ (xs : List β) (acc : List D), acc.length + xs.length ≤ 2 ^ 24 → (∀ x ∈ xs, ∀ S1, ∃ env', g (en x) c (wipeE env vs) S1 = some (env', S1) ∧ t c env' S1 = some (true, S1) ∧ e c env' S1 = some (F x, S1)) →
      lcLoop [] g t e c (wipeE env vs) S0.length (xs.map en) (S0 ++ [.lst acc]) = some (S0 ++ [.lst (acc ++ xs.map F)]) := by
    intro xs
    induction xs with
    | nil => intro acc _ _; simp [lcLoop, watchOk]
    | cons d r ih =>
      intro acc hl h
      obtain ⟨env', h1, h2, h3⟩ := h d List.mem_cons_self (S0 ++ [.lst acc])
      rw [List.map_cons]
      unfold lcLoop
      rw [if_pos (show watchOk [] (S0 ++ [D.lst acc]) = true from rfl), h1]
      rw [List.length_cons] at hl
      have hg : (S0 ++ [D.lst acc])[S0.length]? = some (.lst acc) := by simp
      have hs : (S0 ++ [D.lst acc]).set S0.length (.lst (acc ++ [F d])) = S0 ++ [.lst (acc ++ [F d])] := by simp
      simp only [Option.bind_some, h2, h3, if_true, cellAdd, hg]
      rw [if_pos (by omega)]
      simp only [Option.bind_some, hs]
      rw [ih (acc ++ [F d]) (by rw [List.length_append, List.length_singleton]; omega) fun d hd => h d (List.mem_cons_of_mem _ hd)]
      simp
  unfold eLc
  rw [hi]
  simp only [Option.bind_some]
  rw [key xs [] (by simpa using hl) h]
  simp
theorem rng0 (n : Nat) : rngItems 0 1 n = (List.range n).map fun (i : Nat) => .int (i : Int) := by
  unfold rngItems
  refine List.map_congr_left fun i _ => ?_
  simp
theorem inR_mk {i : Int} (h1 : -1000000000000000000 ≤ i) (h2 : i < 1000000000000000000) : inR i = true := by
  unfold inR
  exact decide_eq_true ⟨by omega, by omega⟩
@[simp] theorem seqI_tup (xs : List D) (S : Store) : seqI S (.tup xs) = some ⟨xs, []⟩ := rfl
@[simp] theorem seqX_tup (xs : List D) (S : Store) : seqX S (.tup xs) = some xs := rfl
@[simp] theorem watchOf_tup (xs : List D) (S : Store) : watchOf S (.tup xs) = [] := rfl
@[simp] theorem kinds_tup (xs ys : List D) (S : Store) : kindsOk S (.tup xs) (.tup ys) = true := rfl
@[simp] theorem wipeE_nil (env : Env) : wipeE env [] = env := rfl
@[simp] theorem wipeE_cons (env : Env) (v : Nat) (vs : List Nat) : wipeE env (v :: vs) = (wipeE env vs).set v none := rfl
theorem ez_items {f g : Nat → D} : ∀ (n k : Nat), enumFrom k (zipD ((List.range' k n).map f) ((List.range' k n).map g)) = (List.range' k n).map fun i => .tup [.int (i : Int), .tup [f i, g i]]
  | 0, k => rfl
  | n + 1, k => by
    rw [List.range'_succ, List.map_cons, List.map_cons, List.map_cons, zipD, enumFrom, ez_items n (k + 1)]
theorem ez_range {f g : Nat → D} (n : Nat) : enumFrom 0 (zipD ((List.range n).map f) ((List.range n).map g)) = (List.range n).map fun i => .tup [.int (i : Int), .tup [f i, g i]] := by
  rw [List.range_eq_range']
  exact ez_items n 0
theorem en_items {f : Nat → D} : ∀ (n k : Nat), enumFrom k ((List.range' k n).map f) = (List.range' k n).map fun i => .tup [.int (i : Int), f i]
  | 0, k => rfl
  | n + 1, k => by
    rw [List.range'_succ, List.map_cons, List.map_cons, enumFrom, en_items n (k + 1)]
theorem en_range {f : Nat → D} (n : Nat) : enumFrom 0 ((List.range n).map f) = (List.range n).map fun i => .tup [.int (i : Int), f i] := by
  rw [List.range_eq_range']
  exact en_items n 0
theorem cut1 (xs : List D) : cutD xs (some 1) none = xs.drop 1 := by
  unfold cutD HT.sIx
  cases xs with
  | nil => rfl
  | cons x r =>
    have : min (1 : Int).toNat (x :: r).length = 1 := by simp
    simp [this]
theorem zd_items {f : Nat → D} : ∀ (n k : Nat), zipD ((List.range' k (n + 1)).map f) (((List.range' k (n + 1)).map f).drop 1) = (List.range' k n).map fun i => .tup [f i, f (i + 1)]
  | 0, k => rfl
  | n + 1, k => by
    have ih := zd_items (f := f) n (k + 1)
    rw [List.range'_succ, List.map_cons, List.drop_succ_cons, List.drop_zero]
    rw [List.range'_succ, List.map_cons, List.drop_succ_cons, List.drop_zero] at ih
    rw [List.range'_succ, List.map_cons, zipD, ih]
    rw [List.range'_succ (n := n), List.map_cons]
theorem zd_range {f : Nat → D} (n : Nat) : zipD ((List.range (n + 1)).map f) (((List.range (n + 1)).map f).drop 1) = (List.range n).map fun i => .tup [f i, f (i + 1)] := by
  rw [List.range_eq_range', List.range_eq_range']
  exact zd_items n 0
end Pe
set_option Elab.async false
set_option linter.all false
set_option maxRecDepth 100000
set_option maxHeartbeats 4000000
/-! cells by their places -/
namespace Pe
open PySem PySem.Spec PyProof.Rows L2
@[simp] theorem r_ix (n : Nat) (i : Int) (S : Store) : oIx (.ref n) (.int i) S = match S[n]? with
  | some (.lst xs) => (atI xs i).map fun d => (d, S)
  | _ => none := by
  show (match seqX S (.ref n) with
    | some xs => (atI xs i).map fun d => (d, S)
    | none => none) = _
  simp only [seqX, seqT, seqL, seqM, look]
  cases S[n]? with
  | none => rfl
  | some d => cases d <;> rfl
@[simp] theorem r_len (n : Nat) (S : Store) : nLen [.ref n] S = match S[n]? with
  | some (.lst xs) => some (.int xs.length, S)
  | _ => none := by
  show (match seqX S (.ref n) with
    | some xs => some (D.int xs.length, S)
    | none => none) = _
  simp only [seqX, seqT, seqL, seqM, look]
  cases S[n]? with
  | none => rfl
  | some d => cases d <;> rfl
@[simp] theorem r_st (n : Nat) (k : Int) (v : D) (S : Store) : stIx (.ref n) (.int k) v S = match S[n]? with
  | some (.lst xs) => (ixN xs.length k).map fun j => S.set n (.lst (xs.set j v))
  | _ => none := rfl
@[simp] theorem ixN0 (n : Nat) : ixN (n + 1) 0 = some 0 := by
  have : (0 : Int) < (n : Int) + 1 := by omega
  simp [ixN, this]
@[simp] theorem ixN1 (n : Nat) : ixN (n + 2) 1 = some 1 := by
  have : (1 : Int) < (n : Int) + 2 := by omega
  simp [ixN, this]
@[simp] theorem ixN2 (n : Nat) : ixN (n + 3) 2 = some 2 := by
  have : (2 : Int) < (n : Int) + 3 := by omega
  simp [ixN, this]
@[simp] theorem r_app (n : Nat) (y : D) (S : Store) : mApp (.ref n) [y] S = match S[n]? with
  | some (.lst xs) => if xs.length < 16777216 then some (.non, S.set n (.lst (xs ++ [y]))) else none
  | _ => none := rfl
@[simp] theorem r_isl (n : Nat) (S : Store) : isLst S (.ref n) = match S[n]? with
  | some (.lst _) => true
  | _ => false := by
  simp only [isLst, seqL, seqM, look]
  cases S[n]? with
  | none => rfl
  | some d => cases d <;> rfl
theorem r_ext {n m : Nat} {xs ys : List D} {S : Store} (h : S[n]? = some (.lst xs)) (h' : S[m]? = some (.lst ys)) (hl : xs.length + ys.length ≤ 2 ^ 24) : mExt (.ref n) [.ref m] S = some (.non, S.set n (.lst (xs ++ ys))) := by
  simp only [mExt, h, seqM, look, h', if_pos hl]
theorem r_seq {n : Nat} {xs : List D} {S : Store} (h : S[n]? = some (.lst xs)) : seqI S (.ref n) = some ⟨xs, [(n, .lst xs)]⟩ := by
  simp only [seqI, seqL, seqM, look, h, Option.map_some, watchOf]
theorem add_lists {n m : Nat} {xs ys : List D} {S : Store} (h : S[n]? = some (.lst xs)) (h' : S[m]? = some (.lst ys)) (hl : xs.length + ys.length ≤ 16777216) : oAdd (.ref n) (.ref m) S = some (.ref S.length, S ++ [.lst (xs ++ ys)]) := by
  show (match seqM S (.ref n), seqM S (.ref m) with
    | some x, some y => if x.length + y.length ≤ sizeLine then some (D.ref S.length, S ++ [D.lst (x ++ y)]) else none
    | _, _ => none) = _
  simp only [seqM, look, h, h']
  exact if_pos hl
@[simp] theorem r_add (n m : Nat) (S : Store) : oAdd (.ref n) (.ref m) S = match S[n]? with
  | some (.lst x) => (match S[m]? with
    | some (.lst y) => if x.length + y.length ≤ 16777216 then some (.ref S.length, S ++ [.lst (x ++ y)]) else none
    | _ => none)
  | _ => none := by
  show (match seqM S (.ref n), seqM S (.ref m) with
    | some x, some y => if x.length + y.length ≤ sizeLine then some (D.ref S.length, S ++ [D.lst (x ++ y)]) else none
    | _, _ => none) = _
  simp only [seqM, look]
  cases S[n]? with
  | none => cases S[m]? with
    | none => rfl
    | some d => cases d <;> rfl
  | some d => cases S[m]? with
    | none => cases d <;> rfl
    | some e => cases d <;> cases e <;> rfl
@[simp] theorem add_tups (x y : List D) (S : Store) : oAdd (.tup x) (.tup y) S = if x.length + y.length ≤ 16777216 then some (.tup (x ++ y), S) else none := rfl
/-- a walk over a cell that stays -/
theorem for_watch {α β : Type} {n : Nat} {xs0 : List D} {g : Gx} {b : Sx} {c : Ec} (P : α → Prop) (e : β → D) (st : α → Env × Store) (hw : ∀ a, P a → (st a).2[n]? = some (.lst xs0)) : ∀ (xs : List β) (a : α), P a → (∀ x ∈ xs, ∀ a, P a → ∃ a', P a' ∧ ((g (e x) c (st a).1 (st a).2).bind fun p => b c p.1 p.2) = some (.nx (st a').1, (st a').2)) →
    ∃ a', P a' ∧ forLoop [(n, .lst xs0)] g b c (xs.map e) (st a).1 (st a).2 = some (.nx (st a').1, (st a').2)
  | [], a, ha, _ => ⟨a, ha, by
    have : watchOk [(n, .lst xs0)] (st a).2 = true := by simp [watchOk, hw a ha, D.same_refl]
    simp [forLoop, this]⟩
  | x :: r, a, ha, h => by
    obtain ⟨a1, h1, h2⟩ := h x List.mem_cons_self a ha
    obtain ⟨a2, h3, h4⟩ := for_watch P e st hw r a1 h1 fun d hd a ha => h d (List.mem_cons_of_mem _ hd) a ha
    refine ⟨a2, h3, ?_⟩
    have w : watchOk [(n, .lst xs0)] (st a).2 = true := by simp [watchOk, hw a ha, D.same_refl]
    rw [List.map_cons]
    unfold forLoop
    rw [if_pos w]
    obtain ⟨p, q1, q2⟩ := Option.bind_eq_some_iff.mp h2
    rw [q1]
    simp only [Option.bind_some, q2]
    exact h4
/-- a walk that changes the store -/
theorem for_inv {β : Type} {g : Gx} {b : Sx} {c : Ec} (e : β → D) (P : Nat → Env → Store → Prop) : ∀ (xs : List β) (i : Nat) (env : Env) (S : Store), P i env S → (∀ (j : Nat) (x : β), xs[j]? = some x → ∀ env S, P (i + j) env S → ∃ env' S', P (i + j + 1) env' S' ∧ ((g (e x) c env S).bind fun p => b c p.1 p.2) = some (.nx env', S')) →
    ∃ env' S', P (i + xs.length) env' S' ∧ forLoop [] g b c (xs.map e) env S = some (.nx env', S')
  | [], i, env, S, ha, _ => ⟨env, S, ha, rfl⟩
  | x :: r, i, env, S, ha, h => by
    obtain ⟨e1, S1, h1, h2⟩ := h 0 x rfl env S ha
    obtain ⟨e2, S2, h3, h4⟩ := for_inv e P r (i + 1) e1 S1 h1 fun j y hj env S hp => by
      have e' : i + 1 + j = i + (j + 1) := by omega
      rw [e'] at hp ⊢
      exact h (j + 1) y hj env S hp
    refine ⟨e2, S2, ?_, ?_⟩
    · rw [List.length_cons]
      have e' : i + (r.length + 1) = i + 1 + r.length := by omega
      rw [e']
      exact h3
    · rw [List.map_cons]
      unfold forLoop
      rw [if_pos (show watchOk [] S = true from rfl)]
      obtain ⟨p, q1, q2⟩ := Option.bind_eq_some_iff.mp h2
      rw [q1]
      simp only [Option.bind_some, q2]
      exact h4
end Pe
set_option Elab.async false
set_option linter.all false
set_option maxRecDepth 100000
set_option maxHeartbeats 4000000
/-! rows as steps, by whole numbers alone -/
namespace K85
def pe (h l : Int) : Int := l + (-l) % h
def kb (h l m : Int) : Int := if 0 < l % h ∧ h < l % h + m then pe h l else l
def kp (h e l : Int) : Int := kb h l e + e
def bt (h l m e : Int) : Int :=
  if m ≤ (h - l % h) / e then l + m * e
  else pe h (l + (h - l % h) / e * e) + (m - (h - l % h) / e - 1) / (h / e) * h + (m - (h - l % h) / e - (m - (h - l % h) / e - 1) / (h / e) * (h / e)) * e
def rb (h f l : Int) : Int := if (f + pe h l / h) % 2 = 1 then pe h l else pe h l + h
inductive St where
  | lines (n : Int) | kept (n : Int) | gap (n : Int) | page | right | plates (n : Int) | tables (n e : Int)
def sf (h f l : Int) : St → Int
  | .lines n => l + n
  | .kept n => kb h l n + n
  | .gap n => if pe h l < l + n then pe h l else l + n
  | .page => pe h l
  | .right => rb h f l
  | .plates n => pe h l + n * h
  | .tables n e => bt h l n e
def St.ok (h : Int) : St → Prop
  | .lines n => 0 ≤ n ∧ n ≤ 1000
  | .kept n => 0 ≤ n ∧ n ≤ 1000
  | .gap n => 0 ≤ n ∧ n ≤ 1000
  | .page => True
  | .right => True
  | .plates n => 0 ≤ n ∧ n ≤ 1000
  | .tables n e => 0 ≤ n ∧ n ≤ 40 ∧ 1 ≤ e ∧ e ≤ h
def kit (h e : Int) : Nat → Int → Int
  | 0, l => l
  | n + 1, l => kp h e (kit h e n l)
def led (h f l : Int) (ss : List St) : Int := ss.foldl (sf h f) l
theorem h8 {h : Int} (h1 : 1 ≤ h) (h2 : h ≤ 8) : h = 1 ∨ h = 2 ∨ h = 3 ∨ h = 4 ∨ h = 5 ∨ h = 6 ∨ h = 7 ∨ h = 8 := by omega
theorem kp_ge {h e l : Int} (h1 : 1 ≤ h) (he : 0 ≤ e) : l ≤ kp h e l := by
  unfold kp kb pe
  have : 0 ≤ (-l) % h := Int.emod_nonneg _ (by omega)
  split <;> omega
def chkB (h e r m : Nat) : Bool := !(decide (1 ≤ h) && (decide (1 ≤ e) && (decide (e ≤ h) && decide (r < h)))) || decide (bt h r ((m : Int) + 1) e = kp h e (bt h r m e))
def allB : Bool := (List.range 9).all fun h => (List.range 9).all fun e => (List.range 8).all fun r => (List.range 41).all fun m => chkB h e r m
theorem all_b : allB = true := by decide +kernel
theorem pe_shift (h l q : Int) : pe h (l + h * q) = pe h l + h * q := by
  unfold pe
  have : -(l + h * q) = -l + h * (-q) := by rw [Int.mul_neg]; omega
  rw [this, Int.add_mul_emod_self_left]
  omega
theorem kp_shift (h e l q : Int) : kp h e (l + h * q) = kp h e l + h * q := by
  unfold kp kb
  rw [Int.add_mul_emod_self_left, pe_shift]
  split <;> omega
theorem bt_shift (h l q m e : Int) : bt h (l + h * q) m e = bt h l m e + h * q := by
  unfold bt
  rw [Int.add_mul_emod_self_left]
  have : l + h * q + (h - l % h) / e * e = (l + (h - l % h) / e * e) + h * q := by omega
  rw [this, pe_shift]
  split <;> omega
theorem bt_step (h l m e : Int) (h1 : 1 ≤ h) (h2 : h ≤ 8) (e1 : 1 ≤ e) (e2 : e ≤ h) (hm : 0 ≤ m) (hm2 : m ≤ 40) : bt h l (m + 1) e = kp h e (bt h l m e) := by
  have key : bt h (l % h) (m + 1) e = kp h e (bt h (l % h) m e) := by
    have r0 : 0 ≤ l % h := Int.emod_nonneg _ (by omega)
    have r1 : l % h < h := Int.emod_lt_of_pos _ (by omega)
    have q := all_b
    unfold allB at q
    have a1 := List.all_eq_true.mp q h.toNat (List.mem_range.mpr (by omega))
    have a2 := List.all_eq_true.mp a1 e.toNat (List.mem_range.mpr (by omega))
    have a3 := List.all_eq_true.mp a2 (l % h).toNat (List.mem_range.mpr (by omega))
    have a4 := List.all_eq_true.mp a3 m.toNat (List.mem_range.mpr (by omega))
    unfold chkB at a4
    rw [decide_eq_true (show 1 ≤ h.toNat by omega), decide_eq_true (show 1 ≤ e.toNat by omega), decide_eq_true (show e.toNat ≤ h.toNat by omega), decide_eq_true (show (l % h).toNat < h.toNat by omega)] at a4
    simp only [Bool.and_self, Bool.not_true, Bool.false_or, decide_eq_true_eq] at a4
    have e1' : ((h.toNat : Nat) : Int) = h := by omega
    have e2' : ((e.toNat : Nat) : Int) = e := by omega
    have e3' : (((l % h).toNat : Nat) : Int) = l % h := by omega
    have e4' : ((m.toNat : Nat) : Int) = m := by omega
    rw [e1', e2', e3', e4'] at a4
    exact a4
  have hl : l = l % h + h * (l / h) := by have := Int.emod_add_mul_ediv l h; omega
  rw [hl, bt_shift, bt_shift, kp_shift, ← key]
theorem bt_zero (h l e : Int) (h1 : 1 ≤ h) (h2 : h ≤ 8) (e1 : 1 ≤ e) (e2 : e ≤ h) : bt h l 0 e = l := by
  unfold bt
  have r1 : l % h < h := Int.emod_lt_of_pos _ (by omega)
  have : 0 ≤ (h - l % h) / e := Int.ediv_nonneg (by omega) (by omega)
  rw [if_pos this]
  omega
theorem bt_kit (h l e : Int) (h1 : 1 ≤ h) (h2 : h ≤ 8) (e1 : 1 ≤ e) (e2 : e ≤ h) : ∀ n : Nat, n ≤ 41 → bt h l n e = kit h e n l
  | 0, _ => bt_zero h l e h1 h2 e1 e2
  | n + 1, hn => by
    have : ((n + 1 : Nat) : Int) = (n : Int) + 1 := by omega
    rw [this, bt_step h l n e h1 h2 e1 e2 (by omega) (by omega), bt_kit h l e h1 h2 e1 e2 n (by omega)]
    rfl
/-! ### what each step keeps -/
theorem kit_shift (h e q : Int) : ∀ (n : Nat) (l : Int), kit h e n (l + h * q) = kit h e n l + h * q
  | 0, _ => rfl
  | n + 1, l => by
    unfold kit
    rw [kit_shift h e q n l, kp_shift]
theorem kp_mono {h e x y : Int} (h1 : 1 ≤ h) (h2 : h ≤ 8) (e1 : 0 ≤ e) (hx : x ≤ y) : kp h e x ≤ kp h e y := by
  have hh := h8 h1 h2
  unfold kp kb pe
  rcases hh with rfl | rfl | rfl | rfl | rfl | rfl | rfl | rfl <;> split <;> split <;> omega
theorem kit_mono {h e : Int} (h1 : 1 ≤ h) (h2 : h ≤ 8) (e1 : 0 ≤ e) : ∀ (n : Nat) {x y : Int}, x ≤ y → kit h e n x ≤ kit h e n y
  | 0, _, _, hx => hx
  | n + 1, x, y, hx => kp_mono h1 h2 e1 (kit_mono h1 h2 e1 n hx)
theorem kit_ge {h e : Int} (h1 : 1 ≤ h) (e1 : 0 ≤ e) : ∀ (n : Nat) (x : Int), x ≤ kit h e n x
  | 0, x => Int.le_refl _
  | n + 1, x => Int.le_trans (kit_ge h1 e1 n x) (kp_ge h1 e1)
theorem sf_ge {h f l : Int} {s : St} (h1 : 1 ≤ h) (h2 : h ≤ 8) (ho : s.ok h) : l ≤ sf h f l s := by
  have p : 0 ≤ (-l) % h := Int.emod_nonneg _ (by omega)
  cases s with
  | lines n => have := ho.1; show l ≤ l + n; omega
  | kept n => exact kp_ge h1 ho.1
  | gap n => have := ho.1; show l ≤ if pe h l < l + n then pe h l else l + n; unfold pe; split <;> omega
  | page => show l ≤ pe h l; unfold pe; omega
  | right => show l ≤ rb h f l; unfold rb pe; split <;> omega
  | plates n =>
    have := Int.mul_nonneg ho.1 (show (0 : Int) ≤ h by omega)
    show l ≤ pe h l + n * h
    unfold pe
    omega
  | tables n e =>
    obtain ⟨a, b, c, d⟩ := ho
    have q := bt_kit h l e h1 h2 c d n.toNat (by omega)
    have e1 : ((n.toNat : Nat) : Int) = n := by omega
    rw [e1] at q
    show l ≤ bt h l n e
    rw [q]
    exact kit_ge h1 (by omega) _ _
theorem pe_mono {h x y : Int} (h1 : 1 ≤ h) (h2 : h ≤ 8) (hx : x ≤ y) : pe h x ≤ pe h y := by
  have hh := h8 h1 h2
  unfold pe
  rcases hh with rfl | rfl | rfl | rfl | rfl | rfl | rfl | rfl <;> omega
theorem rb_mono {h f x y : Int} (h1 : 1 ≤ h) (h2 : h ≤ 8) (hx : x ≤ y) : rb h f x ≤ rb h f y := by
  have hh := h8 h1 h2
  unfold rb pe
  rcases hh with rfl | rfl | rfl | rfl | rfl | rfl | rfl | rfl <;> split <;> split <;> omega
theorem sf_mono {h f x y : Int} {s : St} (h1 : 1 ≤ h) (h2 : h ≤ 8) (ho : s.ok h) (hx : x ≤ y) : sf h f x s ≤ sf h f y s := by
  have p := pe_mono h1 h2 hx
  cases s with
  | lines n => show x + n ≤ y + n; omega
  | kept n => exact kp_mono h1 h2 ho.1 hx
  | gap n =>
    show (if pe h x < x + n then pe h x else x + n) ≤ if pe h y < y + n then pe h y else y + n
    split <;> split <;> omega
  | page => exact p
  | right => exact rb_mono h1 h2 hx
  | plates n => show pe h x + n * h ≤ pe h y + n * h; omega
  | tables n e =>
    obtain ⟨a, b, c, d⟩ := ho
    have q := bt_kit h x e h1 h2 c d n.toNat (by omega)
    have q2 := bt_kit h y e h1 h2 c d n.toNat (by omega)
    have e1 : ((n.toNat : Nat) : Int) = n := by omega
    rw [e1] at q q2
    show bt h x n e ≤ bt h y n e
    rw [q, q2]
    exact kit_mono h1 h2 (by omega) _ hx
theorem sf_shift {h f x q : Int} {s : St} (h1 : 1 ≤ h) : sf h f (x + 2 * h * q) s = sf h f x s + 2 * h * q := by
  have e : x + 2 * h * q = x + h * (2 * q) := by rw [Int.mul_comm 2 h, Int.mul_assoc]
  have e2 : 2 * h * q = h * (2 * q) := by rw [Int.mul_comm 2 h, Int.mul_assoc]
  rw [e, e2]
  cases s with
  | lines n => show x + h * (2 * q) + n = x + n + h * (2 * q); omega
  | kept n => exact kp_shift h n x (2 * q)
  | gap n =>
    show (if pe h (x + h * (2 * q)) < x + h * (2 * q) + n then pe h (x + h * (2 * q)) else x + h * (2 * q) + n) = (if pe h x < x + n then pe h x else x + n) + h * (2 * q)
    rw [pe_shift]
    split <;> split <;> omega
  | page => exact pe_shift h x (2 * q)
  | right =>
    show rb h f (x + h * (2 * q)) = rb h f x + h * (2 * q)
    unfold rb
    rw [pe_shift, Int.add_mul_ediv_left _ _ (show h ≠ 0 by omega)]
    have : (f + (pe h x / h + 2 * q)) % 2 = (f + pe h x / h) % 2 := by omega
    rw [this]
    split <;> omega
  | plates n => show pe h (x + h * (2 * q)) + n * h = pe h x + n * h + h * (2 * q); rw [pe_shift]; omega
  | tables n e => exact bt_shift h x (2 * q) n e
theorem led_ge {h f : Int} (h1 : 1 ≤ h) (h2 : h ≤ 8) : ∀ (ss : List St) (l : Int), (∀ s ∈ ss, s.ok h) → l ≤ led h f l ss
  | [], l, _ => Int.le_refl _
  | s :: ss, l, ho => Int.le_trans (sf_ge h1 h2 (ho s List.mem_cons_self)) (led_ge h1 h2 ss _ fun s hs => ho s (List.mem_cons_of_mem _ hs))
theorem led_mono {h f : Int} (h1 : 1 ≤ h) (h2 : h ≤ 8) : ∀ (ss : List St) (x y : Int), (∀ s ∈ ss, s.ok h) → x ≤ y → led h f x ss ≤ led h f y ss
  | [], _, _, _, hx => hx
  | s :: ss, x, y, ho, hx => led_mono h1 h2 ss _ _ (fun s hs => ho s (List.mem_cons_of_mem _ hs)) (sf_mono h1 h2 (ho s List.mem_cons_self) hx)
theorem led_shift {h f q : Int} (h1 : 1 ≤ h) : ∀ (ss : List St) (x : Int), led h f (x + 2 * h * q) ss = led h f x ss + 2 * h * q
  | [], _ => rfl
  | s :: ss, x => by
    show led h f (sf h f (x + 2 * h * q) s) ss = led h f (sf h f x s) ss + 2 * h * q
    rw [sf_shift h1, led_shift h1 ss]
theorem led_app (h f l : Int) (a b : List St) : led h f l (a ++ b) = led h f (led h f l a) b := by
  unfold led
  rw [List.foldl_append]
/-! ### the pairs -/
def pairs (h one other : Int) : List (List St × List St) := [
  ([.gap one, .page], [.page]), ([.page, .page], [.page]), ([.gap one, .right], [.right]), ([.page, .right], [.right]), ([.right, .page], [.right]), ([.right, .right], [.right]),
  ([.gap one, .plates other], [.plates other]), ([.page, .plates other], [.plates other]), ([.plates one, .page], [.plates one]), ([.plates 0], [.page]), ([.plates one, .plates other], [.plates (one + other)]),
  ([.lines one, .lines other], [.lines (one + other)]), ([.gap one, .gap other], [.gap (one + other)]), ([.gap (h + one)], [.page]), ([.lines 0], []), ([.gap 0], []), ([.kept 0], []), ([.tables 0 h], []),
  ([.kept 1], [.lines 1]), ([.tables one 1], [.lines one]), ([.tables one h], if 0 < one then [.page, .lines (one * h)] else []), ([.kept (h + one)], [.page, .lines (h + one)]), ([.plates one], [.page, .lines (one * h)]),
  ([.tables one (1 + one % h), .tables other (1 + one % h)], [.tables (one + other) (1 + one % h)]), ([.tables 1 (1 + one % h)], [.kept (1 + one % h)]), ([.kept (1 + one % h), .kept (1 + one % h)], [.tables 2 (1 + one % h)])]
def same (h f : Int) (p : List St × List St) : Prop := (∀ s ∈ p.1, s.ok h) ∧ (∀ s ∈ p.2, s.ok h) ∧ ∀ l, 0 ≤ l → led h f l p.1 = led h f l p.2
theorem kit_add (h e : Int) (a : Nat) : ∀ (b : Nat) (l : Int), kit h e (a + b) l = kit h e b (kit h e a l)
  | 0, _ => rfl
  | b + 1, l => by
    show kp h e (kit h e (a + b) l) = kp h e (kit h e b (kit h e a l))
    rw [kit_add h e a b l]
theorem bt_of {h l e n : Int} (h1 : 1 ≤ h) (h2 : h ≤ 8) (e1 : 1 ≤ e) (e2 : e ≤ h) (n0 : 0 ≤ n) (n1 : n ≤ 41) : bt h l n e = kit h e n.toNat l := by
  have q := bt_kit h l e h1 h2 e1 e2 n.toNat (by omega)
  have e1 : ((n.toNat : Nat) : Int) = n := by omega
  rw [e1] at q
  exact q
theorem kp1 {h l : Int} (h1 : 1 ≤ h) : kp h 1 l = l + 1 := by
  have r1 : l % h < h := Int.emod_lt_of_pos _ (by omega)
  unfold kp kb
  rw [if_neg (by omega)]
theorem kit1 {h : Int} (h1 : 1 ≤ h) : ∀ (n : Nat) (l : Int), kit h 1 n l = l + n
  | 0, l => by show l = l + ((0 : Nat) : Int); omega
  | n + 1, l => by
    show kp h 1 (kit h 1 n l) = _
    rw [kit1 h1 n l, kp1 h1]
    omega
theorem kpH {h l : Int} (h1 : 1 ≤ h) : kp h h l = pe h l + h := by
  have r0 : 0 ≤ l % h := Int.emod_nonneg _ (by omega)
  unfold kp kb
  split
  · rfl
  · rename_i hn
    have z : l % h = 0 := by omega
    unfold pe
    have : (-l) % h = 0 := by rw [Int.emod_eq_zero_of_dvd (Int.dvd_neg.mpr (Int.dvd_of_emod_eq_zero z))]
    omega
theorem pe_fix {h l : Int} (h1 : 1 ≤ h) : (pe h l) % h = 0 := by
  unfold pe
  have e : l + (-l) % h = -(-l - (-l) % h) := by omega
  rw [e]
  exact Int.emod_eq_zero_of_dvd (Int.dvd_neg.mpr (Int.dvd_self_sub_emod))
theorem pe_al {h l : Int} (z : l % h = 0) : pe h l = l := by
  unfold pe
  have : (-l) % h = 0 := by rw [Int.emod_eq_zero_of_dvd (Int.dvd_neg.mpr (Int.dvd_of_emod_eq_zero z))]
  omega
theorem kitH {h l : Int} (h1 : 1 ≤ h) : ∀ n : Nat, kit h h (n + 1) l = pe h l + ((n : Int) + 1) * h
  | 0 => by
    show kp h h l = _
    rw [kpH h1]
    simp
  | n + 1 => by
    show kp h h (kit h h (n + 1) l) = _
    rw [kitH h1 n, kpH h1, pe_al]
    · have : (((n + 1 : Nat) : Int) + 1) * h = ((n : Int) + 1) * h + h := by
        rw [show ((n + 1 : Nat) : Int) + 1 = ((n : Int) + 1) + 1 by omega, Int.add_mul, Int.one_mul]
      omega
    · rw [Int.add_mul_emod_self_right]
      exact pe_fix h1
end K85
set_option Elab.async false
set_option linter.all false
set_option maxRecDepth 100000
set_option maxHeartbeats 4000000
/-! the pairs are alike; the law's own steps -/
namespace K85
theorem pe_pe {h l : Int} (h1 : 1 ≤ h) : pe h (pe h l) = pe h l := pe_al (pe_fix h1)
theorem pe_plus {h l n : Int} (h1 : 1 ≤ h) : pe h (pe h l + n * h) = pe h l + n * h := pe_al (by
  rw [Int.add_mul_emod_self_right]
  exact pe_fix h1)
theorem pe_gap {h l n : Int} (h1 : 1 ≤ h) (h2 : h ≤ 8) (n0 : 0 ≤ n) : pe h (if pe h l < l + n then pe h l else l + n) = pe h l := by
  have hh := h8 h1 h2
  unfold pe
  rcases hh with rfl | rfl | rfl | rfl | rfl | rfl | rfl | rfl <;> split <;> omega
theorem rb_eq {h f l : Int} : rb h f l = rb h f l := rfl
theorem rb_of {h f x y : Int} (e : pe h x = pe h y) : rb h f x = rb h f y := by
  unfold rb
  rw [e]
theorem rb_al {h f l : Int} (h1 : 1 ≤ h) : (rb h f l) % h = 0 := by
  unfold rb
  split
  · exact pe_fix h1
  · have : pe h l + h = pe h l + h * 1 := by omega
    rw [this, Int.add_mul_emod_self_left]
    exact pe_fix h1
theorem rb_rb {h f l : Int} (h1 : 1 ≤ h) : rb h f (rb h f l) = rb h f l := by
  have z := pe_al (rb_al (f := f) (l := l) h1)
  have e : rb h f (rb h f l) = if (f + rb h f l / h) % 2 = 1 then rb h f l else rb h f l + h := by
    show (if (f + pe h (rb h f l) / h) % 2 = 1 then pe h (rb h f l) else pe h (rb h f l) + h) = _
    rw [z]
  rw [e]
  have key : (f + rb h f l / h) % 2 = 1 := by
    unfold rb
    split
    · assumption
    · rename_i hn
      have : (pe h l + h) / h = pe h l / h + 1 := by
        have : pe h l + h = pe h l + h * 1 := by omega
        rw [this, Int.add_mul_ediv_left _ _ (by omega)]
      rw [this]
      omega
  rw [if_pos key]
theorem pair_ok {h f one other : Int} (h1 : 1 ≤ h) (h2 : h ≤ 8) (a0 : 0 ≤ one) (a1 : one ≤ 19) (b0 : 0 ≤ other) (b1 : other ≤ 19) : ∀ p ∈ pairs h one other, same h f p := by
  have m0 : 0 ≤ one % h := Int.emod_nonneg _ (by omega)
  have m1 : one % h < h := Int.emod_lt_of_pos _ (by omega)
  have hh0 : 0 ≤ one * h := Int.mul_nonneg a0 (by omega)
  have hh1 : one * h ≤ 19 * 8 := Int.mul_le_mul a1 h2 (by omega) (by omega)
  intro p hp
  simp only [pairs, List.mem_cons, List.not_mem_nil, or_false] at hp
  rcases hp with rfl | rfl | rfl | rfl | rfl | rfl | rfl | rfl | rfl | rfl | rfl | rfl | rfl | rfl | rfl | rfl | rfl | rfl | rfl | rfl | rfl | rfl | rfl | rfl | rfl | rfl
  case inr.inr.inr.inr.inr.inr.inr.inr.inr.inr.inr.inr.inr.inr.inr.inr.inr.inr.inr.inr.inl =>
    by_cases hc : 0 < one
    · simp only [if_pos hc]
      refine ⟨by simp [St.ok]; omega, by simp [St.ok]; omega, fun l hl => ?_⟩
      simp only [led, List.foldl_cons, List.foldl_nil, sf]
      rw [bt_of h1 h2 h1 (Int.le_refl h) a0 (by omega)]
      obtain ⟨n, hn⟩ : ∃ n : Nat, one.toNat = n + 1 := ⟨one.toNat - 1, by omega⟩
      rw [hn, kitH h1]
      have : ((n : Int) + 1) = one := by omega
      rw [this]
    · simp only [if_neg hc]
      refine ⟨by simp [St.ok]; omega, by simp, fun l hl => ?_⟩
      simp only [led, List.foldl_cons, List.foldl_nil, sf]
      have : one = 0 := by omega
      rw [this, bt_zero h l h h1 h2 h1 (Int.le_refl h)]
  all_goals refine ⟨by simp [St.ok]; try omega, by simp [St.ok]; try omega, fun l hl => ?_⟩
  all_goals simp only [led, List.foldl_cons, List.foldl_nil, sf]
  · exact pe_gap h1 h2 a0
  · exact pe_pe h1
  · exact rb_of (pe_gap h1 h2 a0)
  · exact rb_of (pe_pe h1)
  · exact pe_al (rb_al h1)
  · exact rb_rb h1
  · rw [pe_gap h1 h2 a0]
  · rw [pe_pe h1]
  · exact pe_plus h1
  · omega
  · rw [pe_plus h1, Int.add_mul]; omega
  · omega
  · have hh := h8 h1 h2
    unfold pe
    rcases hh with rfl | rfl | rfl | rfl | rfl | rfl | rfl | rfl <;> split <;> split <;> split <;> omega
  · have hh := h8 h1 h2
    unfold pe
    rcases hh with rfl | rfl | rfl | rfl | rfl | rfl | rfl | rfl <;> split <;> omega
  · omega
  · have : 0 ≤ (-l) % h := Int.emod_nonneg _ (by omega)
    unfold pe
    split <;> omega
  · have r1 : l % h < h := Int.emod_lt_of_pos _ (by omega)
    unfold kb
    rw [if_neg (by omega)]
    omega
  · exact bt_zero h l h h1 h2 h1 (Int.le_refl h)
  · exact kp1 h1
  · rw [bt_of h1 h2 (by omega) h1 a0 (by omega), kit1 h1]
    omega
  · have r0 : 0 ≤ l % h := Int.emod_nonneg _ (by omega)
    unfold kb
    split
    · rfl
    · have z : l % h = 0 := by omega
      rw [pe_al z]
  · rw [bt_of h1 h2 (by omega) (by omega) a0 (by omega), bt_of h1 h2 (by omega) (by omega) b0 (by omega), bt_of h1 h2 (by omega) (by omega) (by omega) (by omega), ← kit_add]
    congr 1
    omega
  · rw [bt_of h1 h2 (by omega) (by omega) (by omega) (by omega)]
    rfl
  · rw [bt_of h1 h2 (by omega) (by omega) (by omega) (by omega)]
    rfl
/-! ### the law's own steps -/
def up (h x : Int) : Int := x + (h - x % h) % h
theorem up_pe {h x : Int} (h1 : 1 ≤ h) : up h x = pe h x := by
  unfold up pe
  have r0 := Int.emod_add_mul_ediv x h
  have : -x = (h - x % h) + h * (-(x / h) - 1) := by
    rw [Int.mul_sub, Int.mul_neg]
    omega
  rw [this, Int.add_mul_emod_self_left]
end K85
set_option Elab.async false
set_option linter.all false
set_option maxRecDepth 100000
set_option maxHeartbeats 4000000
/-! what each def answers -/
namespace K85
open Pe
abbrev cl (k f : Nat) (ds : List D) (S : Store) := callN T KF k f ds S
@[simp] theorem ec_call (k f : Nat) (ds : List D) (S : Store) : (ecN T KF k).call f ds S = callN T KF k f ds S := rfl
@[simp] theorem ec_call2 (k f : Nat) (ds : List D) (S : Store) : (ecOf KF (callN T KF k)).call f ds S = callN T KF k f ds S := rfl
abbrev i_ (i : Int) : D := .int i
@[simp] theorem s_whole (k : Nat) (i : Int) (S : Store) : callN T KF (k + 1) 0 [.int i] S = some (.bl true, S) :=
  call_pure (fl := .rt (.bl true)) (S' := []) rfl rfl rfl (by simp [x_is_whole]) rfl rfl
@[simp] theorem s_between (k : Nat) (i lo hi : Int) (S : Store) : callN T KF (k + 2) 1 [.int i, .int lo, .int hi] S = some (.bl (decide (lo ≤ i) && decide (i ≤ hi)), S) :=
  call_pure (fl := .rt (.bl (decide (lo ≤ i) && decide (i ≤ hi)))) (S' := []) rfl rfl rfl (by
    simp [x_is_between]
    by_cases h : lo ≤ i <;> simp [h]) rfl rfl
@[simp] theorem s_from (k : Nat) (i lo : Int) (S : Store) : callN T KF (k + 2) 2 [.int i, .int lo] S = some (.bl (decide (lo ≤ i)), S) :=
  call_pure (fl := .rt (.bl (decide (lo ≤ i)))) (S' := []) rfl rfl rfl (by simp [x_is_from]) rfl rfl
@[simp] theorem s_times (k : Nat) (i : Int) (S : Store) : callN T KF (k + 3) 3 [.int i] S = some (.bl (decide (0 ≤ i) && decide (i ≤ 1000000000000000000000000000000)), S) :=
  call_pure (fl := .rt (.bl (decide (0 ≤ i) && decide (i ≤ 1000000000000000000000000000000)))) (S' := []) rfl rfl rfl (by simp [x_is_times]) rfl rfl
theorem s_check_page (k : Nat) (h f : Int) (S : Store) (h1 : 1 ≤ h) (h2 : h ≤ 60) (f1 : 1 ≤ f) (f2 : f ≤ 999999) : callN T KF (k + 3) 4 [.int h, .int f] S = some (.non, S) :=
  call_pure (fl := .nx [some (.int h), some (.int f)]) (S' := []) rfl rfl rfl (by simp [x_check_page, h1, h2, f1, f2]) rfl rfl
theorem s_check_lines (k : Nat) (l : Int) (S : Store) (h1 : 0 ≤ l) : callN T KF (k + 3) 5 [.int l] S = some (.non, S) :=
  call_pure (fl := .nx [some (.int l)]) (S' := []) rfl rfl rfl (by simp [x_check_lines, h1]) rfl rfl
theorem s_page_end (k : Nat) (h l : Int) (S : Store) (h1 : 1 ≤ h) : callN T KF (k + 1) 7 [.int h, .int l] S = some (.int (pe h l), S) :=
  call_pure (fl := .rt (.int (pe h l))) (S' := []) rfl rfl rfl (by simp [x_page_end, mod_int (show 0 < h by omega), pe]) rfl rfl
theorem s_kept_begin (k : Nat) (h l m : Int) (S : Store) (h1 : 1 ≤ h) : callN T KF (k + 2) 8 [.int h, .int l, .int m] S = some (.int (kb h l m), S) :=
  call_pure (fl := .rt (.int (kb h l m))) (S' := []) rfl rfl rfl (by
    simp [x_kept_begin, mod_int (show 0 < h by omega), kb, s_page_end _ _ _ _ h1]
    by_cases a : 0 < l % h <;> by_cases b : h < l % h + m <;> simp [a, b, s_page_end _ _ _ _ h1]) rfl rfl

def enc : St → D
  | .lines n => .tup [.str [108, 105, 110, 101, 115], .int n]
  | .kept n => .tup [.str [107, 101, 112, 116], .int n]
  | .gap n => .tup [.str [103, 97, 112], .int n]
  | .page => .tup [.str [112, 97, 103, 101]]
  | .right => .tup [.str [114, 105, 103, 104, 116]]
  | .plates n => .tup [.str [112, 108, 97, 116, 101, 115], .int n]
  | .tables n e => .tup [.str [116, 97, 98, 108, 101, 115], .int n, .int e]
theorem enc_free (s : St) : (enc s).free = true := by cases s <;> rfl
theorem encs_free : ∀ ss : List St, freeL (ss.map enc) = true
  | [] => rfl
  | s :: ss => by simp only [List.map_cons, freeL, enc_free, encs_free ss, Bool.and_self]
theorem fit_small {i : Int} (h1 : -1000000000000000000000000000000000000 < i) (h2 : i < 1000000000000000000000000000000000000) : fits i = true :=
  fits_of (b := 1000000000000000000000000000000000000) (by decide) h1 h2
theorem s_behind_tables (k : Nat) (h l m e : Int) (S : Store) (h1 : 1 ≤ h) (h2 : h ≤ 8) (e1 : 1 ≤ e) (e2 : e ≤ h) (m1 : 0 ≤ m) (m2 : m ≤ 40) : callN T KF (k + 2) 9 [.int h, .int l, .int m, .int e] S = some (.int (bt h l m e), S) := by
  have r0 : 0 ≤ l % h := Int.emod_nonneg _ (by omega)
  have r1 : l % h < h := Int.emod_lt_of_pos _ (by omega)
  have q0 : 0 ≤ (h - l % h) / e := Int.ediv_nonneg (by omega) (by omega)
  have q1 : (h - l % h) / e ≤ 8 := Int.le_trans (Int.ediv_le_self _ (by omega)) (by omega)
  have p0 : 1 ≤ h / e := by
    have := Int.ediv_le_ediv (show 0 < e by omega) e2
    rw [Int.ediv_self (by omega)] at this
    exact this
  have p1 : h / e ≤ 8 := Int.le_trans (Int.ediv_le_self _ (by omega)) (by omega)
  have f1 := mod_int (i := l) (S := []) (show 0 < h by omega)
  have f2 := div_int (i := h - l % h) (S := []) (show 0 < e by omega) (fit_small (by omega) (by omega))
  have f3 := mul_int (i := m) (j := e) (S := []) (fit_small (by omega) (by omega)) (fit_small (by omega) (by omega))
  have f4 := div_int (i := h) (S := []) (show 0 < e by omega) (fit_small (by omega) (by omega))
  have f5 := div_int (i := m - (h - l % h) / e - 1) (j := h / e) (S := []) (by omega) (fit_small (by omega) (by omega))
  have f6 := mul_int (i := (h - l % h) / e) (j := e) (S := []) (fit_small (by omega) (by omega)) (fit_small (by omega) (by omega))
  refine call_pure (fl := .rt (.int (bt h l m e))) (S' := []) rfl rfl rfl ?_ rfl rfl
  by_cases hc : m ≤ (h - l % h) / e
  · simp [x_behind_tables, f1, f2, f3, hc, bt]
  · have g0 : 0 ≤ (m - (h - l % h) / e - 1) / (h / e) := Int.ediv_nonneg (by omega) (by omega)
    have g1 : (m - (h - l % h) / e - 1) / (h / e) ≤ 40 := Int.le_trans (Int.ediv_le_self _ (by omega)) (by omega)
    have f7 := mul_int (i := (m - (h - l % h) / e - 1) / (h / e)) (j := h) (S := []) (fit_small (by omega) (by omega)) (fit_small (by omega) (by omega))
    have f8 := mul_int (i := (m - (h - l % h) / e - 1) / (h / e)) (j := h / e) (S := []) (fit_small (by omega) (by omega)) (fit_small (by omega) (by omega))
    have g2 : (m - (h - l % h) / e - 1) / (h / e) * (h / e) ≤ m - (h - l % h) / e - 1 := Int.ediv_mul_le _ (by omega)
    have g3 : 0 ≤ (m - (h - l % h) / e - 1) / (h / e) * (h / e) := Int.mul_nonneg g0 (by omega)
    have f9 := mul_int (i := m - (h - l % h) / e - (m - (h - l % h) / e - 1) / (h / e) * (h / e)) (j := e) (S := []) (fit_small (by omega) (by omega)) (fit_small (by omega) (by omega))
    simp [x_behind_tables, f1, f2, f4, hc, bt, f5, f6, f7, f8, f9, s_page_end _ _ _ _ h1]
theorem s_right_begin (k : Nat) (h f l : Int) (S : Store) (h1 : 1 ≤ h) (h2 : h ≤ 8) : callN T KF (k + 2) 10 [.int h, .int f, .int l] S = some (.int (rb h f l), S) := by
  have f2 := div_int (i := pe h l) (S := []) (show 0 < h by omega) (fit_small (by omega) (by omega))
  have f3 := mod_int (i := f + pe h l / h) (j := 2) (S := []) (by omega)
  refine call_pure (fl := .rt (.int (rb h f l))) (S' := []) rfl rfl rfl ?_ rfl rfl
  by_cases hc : (f + pe h l / h) % 2 = 1 <;> simp [x_right_begin, f2, f3, s_page_end _ _ _ _ h1, rb, hc]
theorem s_done (k : Nat) (h f l : Int) (s : St) (S : Store) (h1 : 1 ≤ h) (h2 : h ≤ 8) (ho : s.ok h) : callN T KF (k + 3) 11 [.int h, .int f, .int l, enc s] S = some (.int (sf h f l s), S) := by
  refine call_pure (fl := .rt (.int (sf h f l s))) (S' := []) rfl rfl (by simp [freeL, D.free, enc_free]) ?_ rfl rfl
  cases s with
  | lines n => simp [x_done, enc, sf]
  | kept n => simp [x_done, enc, sf, s_kept_begin _ _ _ _ _ h1]
  | gap n => simp [x_done, enc, sf, s_page_end _ _ _ _ h1]
  | page => simp [x_done, enc, sf, s_page_end _ _ _ _ h1]
  | right => simp [x_done, enc, sf, s_right_begin _ _ _ _ _ h1 h2]
  | plates n =>
    obtain ⟨a, b⟩ := ho
    simp [x_done, enc, sf, s_page_end _ _ _ _ h1, mul_int (i := n) (j := h) (fit_small (by omega) (by omega)) (fit_small (by omega) (by omega))]
  | tables n e =>
    obtain ⟨a, b, c, d⟩ := ho
    simp [x_done, enc, sf, s_behind_tables _ _ _ _ _ _ h1 h2 c d a b]
theorem eq_enc_nil (s : St) (S : Store) : oEq (enc s) (.tup []) S = some (.bl false, S) := by
  cases s <;> (rw [enc, oEq_of (p := .tuple _) (q := .tuple []) rfl rfl]; simp [PySem.PyData.eqv, PySem.PyData.eqvAll])
theorem s_is_step (k : Nat) (h : Int) (s : St) (S : Store) (h1 : 1 ≤ h) (h2 : h ≤ 8) (ho : s.ok h) : callN T KF (k + 4) 6 [.int h, enc s] S = some (.bl true, S) := by
  refine call_pure (fl := .rt (.bl true)) (S' := []) rfl rfl (by simp [freeL, D.free, enc_free]) ?_ rfl rfl
  have q := eq_enc_nil s []
  cases s with
  | lines n =>
    obtain ⟨a, b⟩ := ho
    have : n ≤ 1000000000000000000000000000000 := by omega
    simp only [enc] at q
    simp [x_is_step, enc, q, flatD, inF, eqF, a, this]
  | kept n =>
    obtain ⟨a, b⟩ := ho
    have : n ≤ 1000000000000000000000000000000 := by omega
    simp only [enc] at q
    simp [x_is_step, enc, q, flatD, inF, eqF, a, this]
  | gap n =>
    obtain ⟨a, b⟩ := ho
    have : n ≤ 1000000000000000000000000000000 := by omega
    simp only [enc] at q
    simp [x_is_step, enc, q, flatD, inF, eqF, a, this]
  | page =>
    simp only [enc] at q
    simp [x_is_step, enc, q, flatD, inF, eqF]
  | right =>
    simp only [enc] at q
    simp [x_is_step, enc, q, flatD, inF, eqF]
  | plates n =>
    obtain ⟨a, b⟩ := ho
    have : n ≤ 1000000000000000000000000000000 := by omega
    simp only [enc] at q
    simp [x_is_step, enc, q, flatD, inF, eqF, a, this]
  | tables n e =>
    obtain ⟨a, b, c, d⟩ := ho
    have : n ≤ 1000000000000000000000000000000 := by omega
    simp only [enc] at q
    simp [x_is_step, enc, q, flatD, inF, eqF, a, this, c, d]
end K85
set_option Elab.async false
set_option linter.all false
set_option maxRecDepth 100000
set_option maxHeartbeats 4000000
/-! tables -/
namespace K85
open Pe
theorem fold_led (h f : Int) : ∀ (ss : List St) (l : Int) (o : Option D), (ss.foldl (fun (a : Int × Option D) s => (sf h f a.1 s, some (enc s))) (l, o)).1 = led h f l ss
  | [], l, o => rfl
  | s :: ss, l, o => fold_led h f ss _ _
theorem s_led (k : Nat) (h f l : Int) (ss : List St) (S : Store) (h1 : 1 ≤ h) (h2 : h ≤ 8) (ho : ∀ s ∈ ss, s.ok h) : callN T KF (k + 4) 14 [.int h, .int f, .tup (ss.map enc), .int l] S = some (.int (led h f l ss), S) := by
  refine call_pure (fl := .rt (.int (led h f l ss))) (S' := []) rfl rfl (by simp [freeL, D.free, encs_free]) ?_ rfl rfl
  have hfor := sFor_map (it := iSeq (eVar 2)) (g := gNm 4) (b := sAsg (eCall 11 (aCons (eVar 0) (aCons (eVar 1) (aCons (eVar 3) (aCons (eVar 4) aNil))))) (gNm 3)) (c := ecN T KF (k + 3)) (env := [some (.int h), some (.int f), some (.tup (ss.map enc)), some (.int l), none]) (S := [])
    (P := fun _ => True) (e := enc) (xs := ss) (st := fun a : Int × Option D => ([some (.int h), some (.int f), some (.tup (ss.map enc)), some (.int a.1), a.2], [])) (step := fun a s => (sf h f a.1 s, some (enc s))) (a := (l, none)) (hst := rfl) (hi := by simp) (ha := trivial)
    (h := fun s hs a _ => ⟨trivial, by simp [s_done _ _ _ _ s _ h1 h2 (ho s hs)]⟩)
  simp [x_led, hfor, fold_led, -u_for]
def tb (h f : Int) (ss : List St) : List Int := (List.range (2 * h).toNat).map fun (i : Nat) => led h f (i : Int) ss
theorem tb_map (h f : Int) (ss : List St) : (tb h f ss).map D.int = (List.range (2 * h).toNat).map fun (i : Nat) => D.int (led h f (i : Int) ss) := by
  unfold tb
  rw [List.map_map]
  rfl
theorem s_table_by (k : Nat) (h f : Int) (ss : List St) (S : Store) (h1 : 1 ≤ h) (h2 : h ≤ 8) (ho : ∀ s ∈ ss, s.ok h) : callN T KF (k + 5) 15 [.int h, .int f, .tup (ss.map enc)] S = some (.tup ((tb h f ss).map D.int), S) := by
  refine call_pure (fl := .rt (.tup ((tb h f ss).map D.int))) (S' := [.lst ((tb h f ss).map D.int)]) rfl rfl (by simp [freeL, D.free, encs_free]) ?_ rfl (by simp [D.free, free_ints])
  have f1 := mul_int (i := 2) (j := h) (S := []) (by decide) (fit_small (by omega) (by omega))
  have hr : inR (2 * h) = true := inR_mk (by omega) (by omega)
  unfold x_table_by
  rw [u_ret, u_fun, u_acons, lc_map (S0 := []) (xs := List.range (2 * h).toNat) (en := fun (i : Nat) => .int (i : Int)) (F := fun (i : Nat) => D.int (led h f (i : Int) ss)) (hi := by simp [f1, hr, rng0]) (hl := by simp; omega)]
  · rw [tb_map]
    simp [nTup_ref]
  · intro i _ S1
    exact ⟨[some (.int h), some (.int f), some (.tup (ss.map enc)), some (.int (i : Int))], by simp, by simp, by simp [s_led _ _ _ _ _ _ h1 h2 ho]⟩
theorem s_check_steps (k : Nat) (h : Int) (ss : List St) (S : Store) (h1 : 1 ≤ h) (h2 : h ≤ 8) (hl : ss.length ≤ 1000) (ho : ∀ s ∈ ss, s.ok h) : callN T KF (k + 5) 13 [.int h, .tup (ss.map enc)] S = some (.non, S) := by
  refine call_pure (fl := .nx [some (.int h), some (.tup (ss.map enc)), none]) (S' := [.lst (ss.map fun _ => .bl true)]) rfl rfl (by simp [freeL, D.free, encs_free]) ?_ rfl rfl
  have hlc := lc_map (it := iSeq (eVar 1)) (vs := [2]) (g := gNm 2) (t := tYesX) (e := eCall 6 (aCons (eVar 0) (aCons (eVar 2) aNil))) (c := ecN T KF (k + 4)) (env := [some (.int h), some (.tup (ss.map enc)), none]) (S := []) (S0 := []) (xs := ss) (en := enc) (F := fun _ => D.bl true) (hi := by simp) (hl := by omega)
    (h := fun s hs S1 => ⟨[some (.int h), some (.tup (ss.map enc)), some (enc s)], by simp, by simp, by simp [s_is_step _ _ s _ h1 h2 (ho s hs)]⟩)
  have hal := nAll_true (n := 0) (S := [.lst (ss.map fun _ => D.bl true)]) (xs := ss.map fun _ => D.bl true) rfl (by simp)
  simp only [List.length_nil, List.nil_append] at hlc
  simp [x_check_steps, hlc, hal]
theorem s_stepped_by (k : Nat) (h f x : Int) (ss : List St) (S : Store) (h1 : 1 ≤ h) (h2 : h ≤ 8) (f1 : 1 ≤ f) (f2 : f ≤ 999999) (x0 : 0 ≤ x) (hl : ss.length ≤ 1000) (ho : ∀ s ∈ ss, s.ok h) : callN T KF (k + 5) 12 [.int h, .int f, .int x, .tup (ss.map enc)] S = some (.int (led h f x ss), S) := by
  refine call_pure (fl := .rt (.int (led h f x ss))) (S' := [.lst (ss.map fun _ => .bl true)]) rfl rfl (by simp [freeL, D.free, encs_free]) ?_ rfl rfl
  have hlc := lc_map (it := iSeq (eVar 3)) (vs := [4]) (g := gNm 4) (t := tYesX) (e := eCall 6 (aCons (eVar 0) (aCons (eVar 4) aNil))) (c := ecN T KF (k + 4)) (env := [some (.int h), some (.int f), some (.int x), some (.tup (ss.map enc)), none]) (S := []) (S0 := []) (xs := ss) (en := enc) (F := fun _ => D.bl true) (hi := by simp) (hl := by omega)
    (h := fun s hs S1 => ⟨[some (.int h), some (.int f), some (.int x), some (.tup (ss.map enc)), some (enc s)], by simp, by simp, by simp [s_is_step _ _ s _ h1 h2 (ho s hs)]⟩)
  have hal := nAll_true (n := 0) (S := [.lst (ss.map fun _ => D.bl true)]) (xs := ss.map fun _ => D.bl true) rfl (by simp)
  simp only [List.length_nil, List.nil_append] at hlc
  have hfor := sFor_map (it := iSeq (eVar 3)) (g := gNm 4) (b := sAsg (eCall 11 (aCons (eVar 0) (aCons (eVar 1) (aCons (eVar 2) (aCons (eVar 4) aNil))))) (gNm 2)) (c := ecN T KF (k + 4)) (env := [some (.int h), some (.int f), some (.int x), some (.tup (ss.map enc)), none]) (S := [.lst (ss.map fun _ => .bl true)])
    (P := fun _ => True) (e := enc) (xs := ss) (st := fun a : Int × Option D => ([some (.int h), some (.int f), some (.int a.1), some (.tup (ss.map enc)), a.2], [.lst (ss.map fun _ => .bl true)])) (step := fun a s => (sf h f a.1 s, some (enc s))) (a := (x, none)) (hst := rfl) (hi := by simp) (ha := trivial)
    (h := fun s hs a _ => ⟨trivial, by simp [s_done _ _ _ _ s _ h1 h2 (ho s hs)]⟩)
  simp [x_stepped_by, hlc, hal, hfor, fold_led, -u_for, s_check_page _ h f _ h1 (show h ≤ 60 by omega) f1 f2, s_check_lines _ x _ x0]
theorem s_table_of (k : Nat) (h f : Int) (ss : List St) (S : Store) (h1 : 1 ≤ h) (h2 : h ≤ 8) (f1 : 1 ≤ f) (f2 : f ≤ 999999) (hl : ss.length ≤ 1000) (ho : ∀ s ∈ ss, s.ok h) : callN T KF (k + 6) 16 [.int h, .int f, .tup (ss.map enc)] S = some (.tup ((tb h f ss).map D.int), S) := by
  refine call_pure (fl := .rt (.tup ((tb h f ss).map D.int))) (S' := []) rfl rfl (by simp [freeL, D.free, encs_free]) ?_ rfl (by simp [D.free, free_ints])
  simp [x_table_of, s_check_page _ h f _ h1 (by omega) f1 f2, s_check_steps _ h ss _ h1 h2 hl ho, s_table_by _ h f ss _ h1 h2 ho]
end K85
set_option Elab.async false
set_option linter.all false
set_option maxRecDepth 100000
set_option maxHeartbeats 4000000
/-! tables, right ones, applied, unlike ones -/
namespace K85
open Pe
open L2 (atI ixN)
theorem neg_emod_two (h x : Int) (h1 : 1 ≤ h) : 0 ≤ x % (2 * h) ∧ x % (2 * h) < 2 * h := ⟨Int.emod_nonneg _ (by omega), Int.emod_lt_of_pos _ (by omega)⟩
theorem atm1 {α : Type} {xs : List α} (h : 1 ≤ xs.length) : atI xs (-1) = xs[xs.length - 1]? := by
  unfold atI ixN
  rw [if_neg (by omega), if_pos (by omega)]
  show xs[((-1 : Int) + (xs.length : Int)).toNat]? = _
  congr 1
  omega
theorem tbD (h f : Int) (ss : List St) : (tb h f ss).map D.int = (List.range (2 * h).toNat).map fun (i : Nat) => D.int (led h f (i : Int) ss) := tb_map h f ss
theorem s_is_right (k : Nat) (h f : Int) (ss : List St) (S : Store) (h1 : 1 ≤ h) (h2 : h ≤ 8) (ho : ∀ s ∈ ss, s.ok h) : callN T KF (k + 3) 17 [.int h, .tup ((tb h f ss).map D.int)] S = some (.bl true, S) := by
  rw [tbD]
  obtain ⟨m, hm⟩ : ∃ m : Nat, (2 * h).toNat = m + 1 := ⟨(2 * h).toNat - 1, by omega⟩
  have hmh : ((m : Int) + 1) = 2 * h := by omega
  rw [hm]
  have f1 := fun S => mul_int (i := 2) (j := h) (S := S) (by decide) (fit_small (by omega) (by omega))
  generalize ht : (List.range (m + 1)).map (fun (i : Nat) => D.int (led h f (i : Int) ss)) = t
  have tl : t.length = m + 1 := by rw [← ht]; simp
  have tf : freeL t = true := by
    have : t = ((List.range (m + 1)).map fun (i : Nat) => led h f (i : Int) ss).map D.int := by rw [← ht, List.map_map]; rfl
    rw [this]
    exact free_ints _
  have tg : ∀ i : Nat, i < m + 1 → t[i]? = some (.int (led h f i ss)) := fun i hi => by
    rw [← ht, List.getElem?_map, List.getElem?_range hi]
    rfl
  have hlc1 := lc_map (it := iEnu (aCons (eVar 1) aNil)) (vs := [2, 3]) (g := gTp 2 (gsCons (gNm 2) (gsCons (gNm 3) gsNil))) (t := tYesX) (e := eCall 2 (aCons (eVar 3) (aCons (eVar 2) aNil))) (c := ecN T KF (k + 2)) (env := [some (.int h), some (.tup t), none, none, none, none]) (S := []) (S0 := []) (xs := List.range (m + 1)) (en := fun (i : Nat) => .tup [.int (i : Int), .int (led h f (i : Int) ss)]) (F := fun _ => D.bl true)
    (hi := by simp [← ht, en_range]) (hl := by simp; omega)
    (h := fun i _ S1 => ⟨[some (.int h), some (.tup t), some (.int (i : Int)), some (.int (led h f (i : Int) ss)), none, none], by simp, by simp, by simp [led_ge h1 h2 ss _ ho]⟩)
  have hal1 := nAll_true (n := 0) (S := [.lst ((List.range (m + 1)).map fun _ => D.bl true)]) (xs := (List.range (m + 1)).map fun _ => D.bl true) rfl (by simp)
  have hlc2 := lc_map (it := iZip (aCons (eVar 1) (aCons (eSl (eVar 1) (oSome (eC (.int 1))) oNone) aNil))) (vs := [4, 5]) (g := gTp 2 (gsCons (gNm 4) (gsCons (gNm 5) gsNil))) (t := tYesX) (e := eBin oLe (eVar 4) (eVar 5)) (c := ecN T KF (k + 2)) (env := [some (.int h), some (.tup t), none, none, none, none]) (S := [.lst ((List.range (m + 1)).map fun _ => D.bl true)]) (S0 := [.lst ((List.range (m + 1)).map fun _ => D.bl true)]) (xs := List.range m) (en := fun (i : Nat) => .tup [.int (led h f (i : Int) ss), .int (led h f ((i + 1 : Nat) : Int) ss)]) (F := fun _ => D.bl true)
    (hi := by
      have z := zd_range (f := fun (i : Nat) => D.int (led h f (i : Int) ss)) m
      rw [ht] at z
      simp only [u_zip, u_acons, u_var, u_sl, u_osome, u_onone, u_c, u_anil, List.getElem?_cons_zero, List.getElem?_cons_succ, Option.bind_some, Option.map_some, slD, cut1, kinds_tup, if_true, seqX_tup, watchOf_tup, List.append_nil]
      rw [z])
    (hl := by simp; omega)
    (h := fun i _ S1 => ⟨[some (.int h), some (.tup t), none, none, some (.int (led h f (i : Int) ss)), some (.int (led h f ((i + 1 : Nat) : Int) ss))], by simp, by simp, by
      have := led_mono (f := f) h1 h2 ss (i : Int) ((i + 1 : Nat) : Int) ho (by omega)
      simp only [u_bin, u_var, List.getElem?_cons_zero, List.getElem?_cons_succ, Option.bind_some, le_int', this, decide_true]⟩)
  have hal2 := nAll_true (n := 1) (S := [.lst ((List.range (m + 1)).map fun _ => D.bl true), .lst ((List.range m).map fun _ => D.bl true)]) (xs := (List.range m).map fun _ => D.bl true) rfl (by simp)
  simp only [List.length_nil, List.nil_append, List.length_cons, List.cons_append, Nat.zero_add] at hlc1 hlc2
  have tlast := atm1 (xs := t) (by omega)
  rw [tl, Nat.add_sub_cancel, tg m (by omega)] at tlast
  have tfirst : atI t 0 = some (.int (led h f 0 ss)) := by
    rw [at_nat (by omega) (by omega)]
    exact tg 0 (by omega)
  have hend : led h f (m : Int) ss ≤ led h f 0 ss + 2 * h := by
    have a1 := led_mono (f := f) h1 h2 ss (m : Int) (0 + 2 * h * 1) ho (by omega)
    rw [led_shift h1] at a1
    omega
  refine call_pure (fl := .rt (.bl true)) (S' := [.lst ((List.range (m + 1)).map fun _ => D.bl true), .lst ((List.range m).map fun _ => D.bl true)]) rfl rfl (by simp [freeL, D.free, tf]) ?_ rfl rfl
  simp only [x_is_right_table, u_seq, u_sif, u_tor, u_tnot, u_of, u_isi, u_fun, u_bin, u_ret, u_acons, u_var, u_c, u_neg, u_anil, u_next, startE_eq, List.map_cons, List.map_nil, List.cons_append, List.nil_append, List.length_cons, List.length_nil, Nat.reduceSub, Nat.reduceAdd, List.replicate_succ, List.replicate_zero, List.getElem?_cons_zero, List.getElem?_cons_succ, Option.bind_some, Option.map_some, ty_tup, isTy_def, tru_bl, len_tup, f1, tl, ne_int, hlc1, hal1, hlc2, hal2, ix_tup, tlast, tfirst, add_int, le_int']
  have e1 : (((m + 1 : Nat) : Int) = 2 * h) := by omega
  simp [e1, hend, hmh, hlc1, hal1, hlc2, hal2, tlast, tfirst, f1]
theorem s_check_height (k : Nat) (h : Int) (S : Store) (h1 : 1 ≤ h) (h2 : h ≤ 60) : callN T KF (k + 3) 18 [.int h] S = some (.non, S) :=
  call_pure (fl := .nx [some (.int h)]) (S' := []) rfl rfl rfl (by simp [x_check_height, h1, h2]) rfl rfl
theorem s_check_table (k : Nat) (h f : Int) (ss : List St) (S : Store) (h1 : 1 ≤ h) (h2 : h ≤ 8) (ho : ∀ s ∈ ss, s.ok h) : callN T KF (k + 4) 19 [.int h, .tup ((tb h f ss).map D.int)] S = some (.non, S) :=
  call_pure (fl := .nx [some (.int h), some (.tup ((tb h f ss).map D.int))]) (S' := []) rfl rfl (by simp [freeL, D.free, free_ints]) (by simp [x_check_table, s_is_right _ h f ss _ h1 h2 ho]) rfl rfl
theorem s_is_table (k : Nat) (h f : Int) (ss : List St) (S : Store) (h1 : 1 ≤ h) (h2 : h ≤ 8) (ho : ∀ s ∈ ss, s.ok h) : callN T KF (k + 4) 20 [.int h, .tup ((tb h f ss).map D.int)] S = some (.bl true, S) :=
  call_pure (fl := .rt (.bl true)) (S' := []) rfl rfl (by simp [freeL, D.free, free_ints]) (by simp [x_is_table, s_is_right _ h f ss _ h1 h2 ho, s_check_height _ h _ h1 (show h ≤ 60 by omega)]) rfl rfl
theorem s_applied (k : Nat) (h f x : Int) (ss : List St) (S : Store) (h1 : 1 ≤ h) (h2 : h ≤ 8) (x0 : 0 ≤ x) : callN T KF (k + 1) 21 [.int h, .tup ((tb h f ss).map D.int), .int x] S = some (.int (led h f x ss), S) := by
  have f1 := mul_int (i := 2) (j := h) (S := []) (by decide) (fit_small (by omega) (by omega))
  have f2 := mod_int (i := x) (j := 2 * h) (S := []) (by omega)
  obtain ⟨r0, r1⟩ := neg_emod_two h x h1
  have tg : atI ((tb h f ss).map D.int) (x % (2 * h)) = some (.int (led h f (x % (2 * h)) ss)) := by
    have tl : ((tb h f ss).map D.int).length = (2 * h).toNat := by rw [tbD]; simp
    rw [at_nat r0 (by rw [tl]; omega), tbD, List.getElem?_map, List.getElem?_range (by omega)]
    have e : (((x % (2 * h)).toNat : Nat) : Int) = x % (2 * h) := by omega
    simp only [Option.map_some, e]
  have hx : led h f x ss = led h f (x % (2 * h)) ss + x - x % (2 * h) := by
    have e := Int.emod_add_mul_ediv x (2 * h)
    have := led_shift (f := f) (q := x / (2 * h)) h1 ss (x % (2 * h))
    rw [e] at this
    omega
  refine call_pure (fl := .rt (.int (led h f x ss))) (S' := []) rfl rfl (by simp [freeL, D.free, free_ints]) ?_ rfl rfl
  rw [hx]
  simp [x_applied, f1, f2, tg]
theorem s_by_table (k : Nat) (h f x : Int) (ss : List St) (S : Store) (h1 : 1 ≤ h) (h2 : h ≤ 8) (x0 : 0 ≤ x) (ho : ∀ s ∈ ss, s.ok h) : callN T KF (k + 5) 22 [.int h, .tup ((tb h f ss).map D.int), .int x] S = some (.int (led h f x ss), S) :=
  call_pure (fl := .rt (.int (led h f x ss))) (S' := []) rfl rfl (by simp [freeL, D.free, free_ints]) (by simp [x_by_table, s_check_height _ h _ h1 (show h ≤ 60 by omega), s_check_table _ h f ss _ h1 h2 ho, x0, s_applied _ h f x ss _ h1 h2 x0]) rfl rfl
theorem s_behind (k : Nat) (h f : Int) (s1 s2 : List St) (S : Store) (h1 : 1 ≤ h) (h2 : h ≤ 8) (ho : ∀ s ∈ s1, s.ok h) : callN T KF (k + 2) 23 [.int h, .tup ((tb h f s1).map D.int), .tup ((tb h f s2).map D.int)] S = some (.tup ((tb h f (s1 ++ s2)).map D.int), S) := by
  have hlc := lc_map (it := iSeq (eVar 1)) (vs := [3]) (g := gNm 3) (t := tYesX) (e := eCall 21 (aCons (eVar 0) (aCons (eVar 2) (aCons (eVar 3) aNil)))) (c := ecN T KF (k + 1)) (env := [some (.int h), some (.tup ((tb h f s1).map D.int)), some (.tup ((tb h f s2).map D.int)), none]) (S := []) (S0 := []) (xs := List.range (2 * h).toNat) (en := fun (i : Nat) => .int (led h f (i : Int) s1)) (F := fun (i : Nat) => .int (led h f (led h f (i : Int) s1) s2))
    (hi := by simp [tbD]) (hl := by simp; omega)
    (h := fun i _ S1 => ⟨[some (.int h), some (.tup ((tb h f s1).map D.int)), some (.tup ((tb h f s2).map D.int)), some (.int (led h f (i : Int) s1))], by simp, by simp, by
      have : 0 ≤ led h f (i : Int) s1 := Int.le_trans (by omega) (led_ge h1 h2 s1 (i : Int) ho)
      simp [s_applied _ h f _ s2 _ h1 h2 this]⟩)
  simp only [List.length_nil, List.nil_append] at hlc
  have e : (List.range (2 * h).toNat).map (fun (i : Nat) => D.int (led h f (led h f (i : Int) s1) s2)) = (tb h f (s1 ++ s2)).map D.int := by
    rw [tbD]
    refine List.map_congr_left fun i _ => ?_
    rw [led_app]
  rw [e] at hlc
  have ht := nTup_ref (n := 0) (S := [.lst ((tb h f (s1 ++ s2)).map D.int)]) rfl
  exact call_pure (fl := .rt (.tup ((tb h f (s1 ++ s2)).map D.int))) (S' := [.lst ((tb h f (s1 ++ s2)).map D.int)]) rfl rfl (by simp [freeL, D.free, free_ints]) (by simp [x_behind, hlc, ht]) rfl (by simp [D.free, free_ints])
theorem s_then (k : Nat) (h f : Int) (s1 s2 : List St) (S : Store) (h1 : 1 ≤ h) (h2 : h ≤ 8) (ho : ∀ s ∈ s1, s.ok h) (ho2 : ∀ s ∈ s2, s.ok h) : callN T KF (k + 5) 24 [.int h, .tup ((tb h f s1).map D.int), .tup ((tb h f s2).map D.int)] S = some (.tup ((tb h f (s1 ++ s2)).map D.int), S) :=
  call_pure (fl := .rt (.tup ((tb h f (s1 ++ s2)).map D.int))) (S' := []) rfl rfl (by simp [freeL, D.free, free_ints]) (by simp [x_then, s_check_height _ h _ h1 (show h ≤ 60 by omega), s_check_table _ h f s1 _ h1 h2 ho, s_check_table _ h f s2 _ h1 h2 ho2, s_behind _ h f s1 s2 _ h1 h2 ho]) rfl (by simp [D.free, free_ints])
end K85
set_option Elab.async false
set_option linter.all false
set_option maxRecDepth 100000
set_option maxHeartbeats 4000000
/-! the first unlike one; the law's own steps -/
namespace K85
open Pe
open L2 (atI ixN)
def diffs (p : Int → Int → Bool) (h f : Int) (s1 s2 : List St) : List Nat := (List.range (2 * h).toNat).filter fun (i : Nat) => p (led h f (i : Int) s1) (led h f (i : Int) s2)
def firstD (l : List Nat) : D := match l with
  | [] => .non
  | i :: _ => .int (i : Int)
theorem find_filter {α : Type} (p : α → Bool) : ∀ l : List α, l.find? p = (l.filter p).head?
  | [] => rfl
  | x :: l => by
    rw [List.find?_cons, List.filter_cons]
    cases p x with
    | true => rfl
    | false => exact find_filter p l
theorem s_unlike (k : Nat) (h f : Int) (s1 s2 : List St) (S : Store) (h1 : 1 ≤ h) (h2 : h ≤ 8) (f1 : 1 ≤ f) (f2 : f ≤ 999999) (l1 : s1.length ≤ 1000) (l2 : s2.length ≤ 1000) (o1 : ∀ s ∈ s1, s.ok h) (o2 : ∀ s ∈ s2, s.ok h) :
    callN T KF (k + 6) 25 [.int h, .int f, .tup (s1.map enc), .tup (s2.map enc)] S = some (firstD (diffs (fun a b => !decide (a = b)) h f s1 s2), S) := by
  have hff := for_find (g := gTp 2 (gsCons (gNm 4) (gsCons (gTp 2 (gsCons (gNm 5) (gsCons (gNm 6) gsNil))) gsNil))) (b := sIf (tOfE (eBin oNe (eVar 5) (eVar 6))) (sRet (eVar 4)) sNext) (c := ecN T KF (k + 5)) (S := [])
    (e := fun (i : Nat) => D.tup [.int (i : Int), .tup [.int (led h f (i : Int) s1), .int (led h f (i : Int) s2)]]) (hit := fun (i : Nat) => !decide (led h f (i : Int) s1 = led h f (i : Int) s2)) (r := fun (i : Nat) => .int (i : Int))
    (envs := fun o => [some (.int h), some (.int f), some (.tup (s1.map enc)), some (.tup (s2.map enc))] ++ match o with
      | none => [none, none, none]
      | some (i : Nat) => [some (.int (i : Int)), some (.int (led h f (i : Int) s1)), some (.int (led h f (i : Int) s2))]) (xs := List.range (2 * h).toNat) none (fun i _ o => by
        cases o <;> by_cases hc : led h f (i : Int) s1 = led h f (i : Int) s2 <;> simp [hc])
  have hit : ∀ (env : Env), env[0]? = some (some (.int h)) → env[1]? = some (some (.int f)) → env[2]? = some (some (.tup (s1.map enc))) → env[3]? = some (some (.tup (s2.map enc))) →
      iEz (aCons (eCall 15 (aCons (eVar 0) (aCons (eVar 1) (aCons (eVar 2) aNil)))) (aCons (eCall 15 (aCons (eVar 0) (aCons (eVar 1) (aCons (eVar 3) aNil)))) aNil)) (ecN T KF (k + 5)) env [] = some (⟨(List.range (2 * h).toNat).map fun (i : Nat) => D.tup [.int (i : Int), .tup [.int (led h f (i : Int) s1), .int (led h f (i : Int) s2)]], []⟩, []) := fun env e0 e1 e2 e3 => by
    simp [e0, e1, e2, e3, s_table_by _ h f _ _ h1 h2 o1, s_table_by _ h f _ _ h1 h2 o2, tbD, ez_range]
  have hd : firstD (diffs (fun a b => !decide (a = b)) h f s1 s2) = match (List.range (2 * h).toNat).find? (fun (i : Nat) => !decide (led h f (i : Int) s1 = led h f (i : Int) s2)) with
      | none => .non
      | some i => .int (i : Int) := by
    rw [find_filter]
    unfold diffs
    cases (List.range (2 * h).toNat).filter (fun (i : Nat) => !decide (led h f (i : Int) s1 = led h f (i : Int) s2)) <;> rfl
  rw [hd]
  simp only [List.cons_append, List.nil_append] at hff
  rcases hff with ⟨o', a1, a2⟩ | ⟨i, a1, a2⟩
  · rw [a1]
    exact call_pure (fl := .rt .non) (S' := []) rfl rfl (by simp [freeL, D.free, encs_free]) (by simp [x_first_unlike_x, s_check_page _ h f _ h1 (show h ≤ 60 by omega) f1 f2, s_check_steps _ h s1 _ h1 h2 l1 o1, s_check_steps _ h s2 _ h1 h2 l2 o2, hit, a2, -u_ez]) rfl rfl
  · rw [a1]
    exact call_pure (fl := .rt (.int (i : Int))) (S' := []) rfl rfl (by simp [freeL, D.free, encs_free]) (by simp [x_first_unlike_x, s_check_page _ h f _ h1 (show h ≤ 60 by omega) f1 f2, s_check_steps _ h s1 _ h1 h2 l1 o1, s_check_steps _ h s2 _ h1 h2 l2 o2, hit, a2, -u_ez]) rfl rfl
theorem s_later (k : Nat) (h f : Int) (s1 s2 : List St) (S : Store) (h1 : 1 ≤ h) (h2 : h ≤ 8) (f1 : 1 ≤ f) (f2 : f ≤ 999999) (l1 : s1.length ≤ 1000) (l2 : s2.length ≤ 1000) (o1 : ∀ s ∈ s1, s.ok h) (o2 : ∀ s ∈ s2, s.ok h) :
    callN T KF (k + 6) 26 [.int h, .int f, .tup (s1.map enc), .tup (s2.map enc)] S = some (firstD (diffs (fun a b => decide (b < a)) h f s1 s2), S) := by
  have hff := for_find (g := gTp 2 (gsCons (gNm 4) (gsCons (gTp 2 (gsCons (gNm 5) (gsCons (gNm 6) gsNil))) gsNil))) (b := sIf (tOfE (eBin oGt (eVar 5) (eVar 6))) (sRet (eVar 4)) sNext) (c := ecN T KF (k + 5)) (S := [])
    (e := fun (i : Nat) => D.tup [.int (i : Int), .tup [.int (led h f (i : Int) s1), .int (led h f (i : Int) s2)]]) (hit := fun (i : Nat) => decide (led h f (i : Int) s2 < led h f (i : Int) s1)) (r := fun (i : Nat) => .int (i : Int))
    (envs := fun o => [some (.int h), some (.int f), some (.tup (s1.map enc)), some (.tup (s2.map enc))] ++ match o with
      | none => [none, none, none]
      | some (i : Nat) => [some (.int (i : Int)), some (.int (led h f (i : Int) s1)), some (.int (led h f (i : Int) s2))]) (xs := List.range (2 * h).toNat) none (fun i _ o => by
        cases o <;> by_cases hc : led h f (i : Int) s2 < led h f (i : Int) s1 <;> simp [hc])
  have hit : ∀ (env : Env), env[0]? = some (some (.int h)) → env[1]? = some (some (.int f)) → env[2]? = some (some (.tup (s1.map enc))) → env[3]? = some (some (.tup (s2.map enc))) →
      iEz (aCons (eCall 15 (aCons (eVar 0) (aCons (eVar 1) (aCons (eVar 2) aNil)))) (aCons (eCall 15 (aCons (eVar 0) (aCons (eVar 1) (aCons (eVar 3) aNil)))) aNil)) (ecN T KF (k + 5)) env [] = some (⟨(List.range (2 * h).toNat).map fun (i : Nat) => D.tup [.int (i : Int), .tup [.int (led h f (i : Int) s1), .int (led h f (i : Int) s2)]], []⟩, []) := fun env e0 e1 e2 e3 => by
    simp [e0, e1, e2, e3, s_table_by _ h f _ _ h1 h2 o1, s_table_by _ h f _ _ h1 h2 o2, tbD, ez_range]
  have hd : firstD (diffs (fun a b => decide (b < a)) h f s1 s2) = match (List.range (2 * h).toNat).find? (fun (i : Nat) => decide (led h f (i : Int) s2 < led h f (i : Int) s1)) with
      | none => .non
      | some i => .int (i : Int) := by
    rw [find_filter]
    unfold diffs
    cases (List.range (2 * h).toNat).filter (fun (i : Nat) => decide (led h f (i : Int) s2 < led h f (i : Int) s1)) <;> rfl
  rw [hd]
  simp only [List.cons_append, List.nil_append] at hff
  rcases hff with ⟨o', a1, a2⟩ | ⟨i, a1, a2⟩
  · rw [a1]
    exact call_pure (fl := .rt .non) (S' := []) rfl rfl (by simp [freeL, D.free, encs_free]) (by simp [x_first_later_x, s_check_page _ h f _ h1 (show h ≤ 60 by omega) f1 f2, s_check_steps _ h s1 _ h1 h2 l1 o1, s_check_steps _ h s2 _ h1 h2 l2 o2, hit, a2, -u_ez]) rfl rfl
  · rw [a1]
    exact call_pure (fl := .rt (.int (i : Int))) (S' := []) rfl rfl (by simp [freeL, D.free, encs_free]) (by simp [x_first_later_x, s_check_page _ h f _ h1 (show h ≤ 60 by omega) f1 f2, s_check_steps _ h s1 _ h1 h2 l1 o1, s_check_steps _ h s2 _ h1 h2 l2 o2, hit, a2, -u_ez]) rfl rfl
/-! ### the law's own -/
theorem s_up (k : Nat) (h x : Int) (S : Store) (h1 : 1 ≤ h) : callN T KF (k + 1) 32 [.int h, .int x] S = some (.int (pe h x), S) := by
  have f1 := fun i => mod_int (i := i) (j := h) (S := []) (by omega)
  refine call_pure (fl := .rt (.int (pe h x))) (S' := []) rfl rfl rfl ?_ rfl rfl
  rw [← up_pe h1]
  simp [x__law_up, f1, up]
theorem s_lkept (k : Nat) (h f x n : Int) (S : Store) (h1 : 1 ≤ h) : callN T KF (k + 2) 33 [.int h, .int f, .int x, .tup [.str [107, 101, 112, 116], .int n]] S = some (.int (kp h n x), S) := by
  have f1 := fun i => mod_int (i := i) (j := h) (S := []) (by omega)
  refine call_pure (fl := .rt (.int (kp h n x))) (S' := []) rfl rfl rfl ?_ rfl rfl
  by_cases a : 0 < x % h <;> by_cases b : h < x % h + n <;> simp [x__law_stepped, f1, a, b, s_up _ _ _ _ h1, kp, kb]
theorem fold_kit (h e : Int) : ∀ (n : Nat) (x : Int) (o : Option D), ((List.range n).foldl (fun (a : Int × Option D) (i : Nat) => (kp h e a.1, some (.int (i : Int)))) (x, o)).1 = kit h e n x
  | 0, x, o => rfl
  | n + 1, x, o => by
    rw [List.range_succ, List.foldl_append]
    show kp h e _ = kp h e _
    rw [fold_kit h e n x o]
theorem s_lstepped (k : Nat) (h f x : Int) (s : St) (S : Store) (h1 : 1 ≤ h) (h2 : h ≤ 8) (x0 : 0 ≤ x) (ho : s.ok h) : callN T KF (k + 3) 33 [.int h, .int f, .int x, enc s] S = some (.int (sf h f x s), S) := by
  have f1 := fun i S => mod_int (i := i) (j := h) (S := S) (by omega)
  have f3 := fun i S => mod_int (i := i) (j := 2) (S := S) (by omega)
  have f2 := fun i S => div_int (i := i) (j := h) (S := S) (by omega) (fit_small (by omega) (by omega))
  refine call_pure (fl := .rt (.int (sf h f x s))) (S' := []) rfl rfl (by simp [freeL, D.free, enc_free]) ?_ rfl rfl
  cases s with
  | lines n => simp [x__law_stepped, enc, sf]
  | kept n => by_cases a : 0 < x % h <;> by_cases b : h < x % h + n <;> simp [x__law_stepped, enc, sf, f1, a, b, s_up _ _ _ _ h1, kb]
  | gap n =>
    by_cases a : x % h = 0
    · have z := pe_al a
      have n0 : 0 ≤ n := ho.1
      have : (if pe h x < x + n then pe h x else x + n) = x := by rw [z]; split <;> omega
      simp [x__law_stepped, enc, sf, f1, a, this]
    · simp [x__law_stepped, enc, sf, f1, a, s_up _ _ _ _ h1]
  | page => simp [x__law_stepped, enc, sf, s_up _ _ _ _ h1]
  | right =>
    have e : rb h f x = if (f + pe h x / h) % 2 = 0 then pe h x + h else pe h x := by
      unfold rb
      split <;> split <;> omega
    by_cases a : (f + pe h x / h) % 2 = 0 <;> simp [x__law_stepped, enc, sf, s_up _ _ _ _ h1, f2, f3, e, a]
  | plates n =>
    obtain ⟨a, b⟩ := ho
    simp [x__law_stepped, enc, sf, s_up _ _ _ _ h1, mul_int (i := n) (j := h) (fit_small (by omega) (by omega)) (fit_small (by omega) (by omega))]
  | tables n e =>
    obtain ⟨a, b, c, d⟩ := ho
    have hn : ((n.toNat : Nat) : Int) = n := by omega
    have hr : inR n = true := inR_mk (by omega) (by omega)
    have hfor := sFor_map (it := iRange1 (aCons (eBin oIx (eVar 3) (eC (.int 1))) aNil)) (g := gNm 6) (b := sAsg (eCall 33 (aCons (eVar 0) (aCons (eVar 1) (aCons (eVar 2) (aCons (eTup (aCons (eC (.str [107, 101, 112, 116])) (aCons (eBin oIx (eVar 3) (eC (.int 2))) aNil))) aNil))))) (gNm 2)) (c := ecN T KF (k + 2)) (env := [some (.int h), some (.int f), some (.int x), some (enc (.tables n e)), some (.str [116, 97, 98, 108, 101, 115]), none, none]) (S := [])
      (P := fun _ => True) (e := fun (i : Nat) => .int (i : Int)) (xs := List.range n.toNat) (st := fun a : Int × Option D => ([some (.int h), some (.int f), some (.int a.1), some (enc (.tables n e)), some (.str [116, 97, 98, 108, 101, 115]), none, a.2], [])) (step := fun a (i : Nat) => (kp h e a.1, some (.int (i : Int)))) (a := (x, none)) (hst := rfl) (hi := by simp [enc, hr, rng0]) (ha := trivial)
      (h := fun i _ a _ => ⟨trivial, by simp [enc, s_lkept _ h f _ e _ h1]⟩)
    simp only [enc] at hfor
    have q := bt_of (l := x) h1 h2 c d a (show n ≤ 41 by omega)
    simp [x__law_stepped, enc, sf, hfor, -u_for, fold_kit, q]
theorem s_lled (k : Nat) (h f x : Int) (ss : List St) (S : Store) (h1 : 1 ≤ h) (h2 : h ≤ 8) (x0 : 0 ≤ x) (ho : ∀ s ∈ ss, s.ok h) : callN T KF (k + 4) 35 [.int h, .int f, .int x, .tup (ss.map enc)] S = some (.int (led h f x ss), S) := by
  refine call_pure (fl := .rt (.int (led h f x ss))) (S' := []) rfl rfl (by simp [freeL, D.free, encs_free]) ?_ rfl rfl
  have hfor := sFor_map (it := iSeq (eVar 3)) (g := gNm 4) (b := sAsg (eCall 33 (aCons (eVar 0) (aCons (eVar 1) (aCons (eVar 2) (aCons (eVar 4) aNil))))) (gNm 2)) (c := ecN T KF (k + 3)) (env := [some (.int h), some (.int f), some (.int x), some (.tup (ss.map enc)), none]) (S := [])
    (P := fun a => 0 ≤ a.1) (e := enc) (xs := ss) (st := fun a : Int × Option D => ([some (.int h), some (.int f), some (.int a.1), some (.tup (ss.map enc)), a.2], [])) (step := fun a s => (sf h f a.1 s, some (enc s))) (a := (x, none)) (hst := rfl) (hi := by simp) (ha := x0)
    (h := fun s hs a p => ⟨Int.le_trans p (sf_ge h1 h2 (ho s hs)), by simp [s_lstepped _ _ _ _ s _ h1 h2 p (ho s hs)]⟩)
  simp [x__law_led, hfor, fold_led, -u_for]
end K85
set_option Elab.async false
set_option linter.all false
set_option maxRecDepth 100000
set_option maxHeartbeats 4000000
/-! the pot -/
namespace K85
open Pe
open L2 (atI ixN)
def big : Int := 1000000000000000000000000000000000000000000000000000000000000 ^ 5
def Pot (m : Nat) (p : D) : Prop := ∃ a b c : Int, p = .lst [.int a, .int b, .int c] ∧ 0 ≤ a ∧ a < big ∧ 0 ≤ b ∧ b < 2305843009213693921 ∧ 0 ≤ c ∧ c ≤ m
theorem Pot.free {m : Nat} {p : D} (h : Pot m p) : p.free = true := by
  obtain ⟨a, b, c, rfl, _⟩ := h
  rfl
theorem Pot.le {m n : Nat} {p : D} (h : Pot m p) (e : m ≤ n) : Pot n p := by
  obtain ⟨a, b, c, q, h1, h2, h3, h4, h5, h6⟩ := h
  exact ⟨a, b, c, q, h1, h2, h3, h4, h5, by omega⟩
theorem s_take (k n m : Nat) (u : Int) (p : D) (S : Store) (hn : S[n]? = some p) (hp : Pot m p) (hm : m ≤ 1000000) (u1 : 1 ≤ u) (u2 : u ≤ 1000000000000000000000000000000) :
    ∃ (r : Int) (p' : D), callN T KF (k + 1) 28 [.ref n, .int u] S = some (.int r, S.set n p') ∧ 0 ≤ r ∧ r < u ∧ Pot (m + 1) p' := by
  obtain ⟨a, b, c, rfl, a0, a1, b0, b1, c0, c1⟩ := hp
  have fm := fun i S => mod_int (i := i) (j := u) (S := S) (by omega)
  have fd := fun i S => div_int (i := i) (j := u) (S := S) (by omega) (fit_small (by omega) (by omega))
  by_cases ha : 0 < a
  · refine ⟨a % u, .lst [.int (a / u), .int b, .int c], call_cell (fl := .rt (.int (a % u))) (S' := [.lst [.int (a / u), .int b, .int c]]) rfl rfl rfl hn rfl ?_ rfl rfl rfl rfl, Int.emod_nonneg _ (by omega), Int.emod_lt_of_pos _ (by omega), a / u, b, c, rfl, Int.ediv_nonneg a0 (by omega), Int.lt_of_le_of_lt (Int.ediv_le_self _ a0) a1, b0, b1, c0, by omega⟩
    simp [x__law_take, ha, fm, fd]
  · obtain ⟨i, hi0, hi1, hi⟩ : ∃ i : Int, 0 ≤ i ∧ i < 5 ∧ (c + 1) % 5 = i := ⟨_, Int.emod_nonneg _ (by decide), Int.emod_lt_of_pos _ (by decide), rfl⟩
    obtain ⟨P, P0, P1, hP⟩ : ∃ P : Int, 0 < P ∧ P < 2147483648 ∧ atI [D.int 2147483647, D.int 2147483629, D.int 2147483587, D.int 2147483579, D.int 2147483563] ((c + 1) % 5) = some (.int P) := by
      rw [hi]
      have : i = 0 ∨ i = 1 ∨ i = 2 ∨ i = 3 ∨ i = 4 := by omega
      rcases this with rfl | rfl | rfl | rfl | rfl
      · exact ⟨2147483647, by decide, by decide, rfl⟩
      · exact ⟨2147483629, by decide, by decide, rfl⟩
      · exact ⟨2147483587, by decide, by decide, rfl⟩
      · exact ⟨2147483579, by decide, by decide, rfl⟩
      · exact ⟨2147483563, by decide, by decide, rfl⟩
    have g1 : (c + 1) * (c + 1) ≤ 1000001 * 1000001 := Int.mul_le_mul (by omega) (by omega) (by omega) (by omega)
    have g0 : 0 ≤ (c + 1) * (c + 1) := Int.mul_nonneg (by omega) (by omega)
    have ga : 98327 * (c + 1) * (c + 1) = 98327 * ((c + 1) * (c + 1)) := Int.mul_assoc _ _ _
    have f1 := fun S => mul_int (i := 98327) (j := c + 1) (S := S) (fit_small (by omega) (by omega)) (fit_small (by omega) (by omega))
    have f2 := fun S => mul_int (i := 98327 * (c + 1)) (j := c + 1) (S := S) (fit_small (by omega) (by omega)) (fit_small (by omega) (by omega))
    have f3 := fun S => mod_int (i := c + 1) (j := 5) (S := S) (by omega)
    have f4 : ∀ S, oPow (.int (b + 98327 * (c + 1) * (c + 1) + 307)) (.int 3) S = some (.int ((b + 98327 * (c + 1) * (c + 1) + 307) ^ 3), S) := fun S => by
      have : fits (b + 98327 * (c + 1) * (c + 1) + 307) = true := fit_small (by omega) (by omega)
      simp [oPow, oI, this]
    generalize hz : (b + 98327 * (c + 1) * (c + 1) + 307) ^ 3 = z at f4
    have f5 := fun S => mod_int (i := z) (j := P) (S := S) P0
    have y0 : 0 ≤ z % P := Int.emod_nonneg _ (by omega)
    have y1 : z % P < P := Int.emod_lt_of_pos _ P0
    generalize hy : z % P = y at f5 y0 y1
    have f6 := fun S => mod_int (i := y) (j := 14593) (S := S) (by omega)
    have w0 : 0 ≤ y % 14593 := Int.emod_nonneg _ (by omega)
    have w1 : y % 14593 < 14593 := Int.emod_lt_of_pos _ (by omega)
    have f7 := fun S => mul_int (i := 151) (j := c + 1) (S := S) (fit_small (by omega) (by omega)) (fit_small (by omega) (by omega))
    have f8 := fun S => mul_int (i := y) (j := y % 14593 + 151 * (c + 1)) (S := S) (fit_small (by omega) (by omega)) (fit_small (by omega) (by omega))
    have f9 := fun i S => mod_int (i := i) (j := 2305843009213693907) (S := S) (by omega)
    have f10 := fun i S => div_int (i := i) (j := 211) (S := S) (by omega) (fit_small (by omega) (by omega))
    refine ⟨_, .lst [.int a, .int b, .int (c + 1)], call_cell (fl := .rt (.int (y * (y % 14593 + 151 * (c + 1)) % 2305843009213693907 / 211 % u))) (S' := [.lst [.int a, .int b, .int (c + 1)], .lst [.int 2147483647, .int 2147483629, .int 2147483587, .int 2147483579, .int 2147483563]]) rfl rfl rfl hn rfl ?_ rfl rfl rfl rfl, Int.emod_nonneg _ (by omega), Int.emod_lt_of_pos _ (by omega), a, b, c + 1, rfl, a0, a1, b0, b1, by omega, by omega⟩
    simp [x__law_take, ha, fm, f1, f2, f3, f4, f5, f6, f7, f8, f9, f10, hP]
theorem s_of (k n l m : Nat) (xs : List D) (p : D) (S : Store) (hn : S[n]? = some p) (hl : S[l]? = some (.lst xs)) (hnl : n ≠ l) (hx : freeL xs = true) (x1 : 1 ≤ xs.length) (x2 : xs.length ≤ 1000000) (hp : Pot m p) (hm : m ≤ 1000000) :
    ∃ (r : Nat) (d p' : D), callN T KF (k + 2) 29 [.ref n, .ref l] S = some (d, S.set n p') ∧ xs[r]? = some d ∧ Pot (m + 1) p' := by
  obtain ⟨r, p', h1, h2, h3, h4⟩ := s_take k 0 m xs.length p [p, .lst xs] rfl hp hm (by omega) (by omega)
  have hr : r.toNat < xs.length := by omega
  refine ⟨r.toNat, xs[r.toNat], p', call_cells (fl := .rt xs[r.toNat]) (S' := [p', .lst xs]) rfl rfl hnl hn hp.free hl (by simpa [D.free] using hx) ?_ rfl ?_ rfl h4.free rfl, List.getElem?_eq_getElem hr, h4⟩
  · have ha : atI xs r = some xs[r.toNat] := by
      rw [at_nat h2 (by omega)]
      exact List.getElem?_eq_getElem hr
    simp [x__law_of, h1, ha]
  · have : ∀ (l : List D), freeL l = true → ∀ d ∈ l, D.free d = true := by
      intro l
      induction l with
      | nil => intro _ d hd; simp at hd
      | cons x l ih =>
        intro h d hd
        simp only [freeL, Bool.and_eq_true] at h
        rcases List.mem_cons.mp hd with e | e
        · subst e; exact h.1
        · exact ih h.2 d e
    exact this xs hx _ (List.getElem_mem hr)
end K85
set_option Elab.async false
set_option linter.all false
set_option maxRecDepth 100000
set_option maxHeartbeats 4000000
/-! a drawn step, the pairs, a pair is right -/
namespace K85
open Pe
open L2 (atI ixN)
theorem set0 (p q : D) (r : Store) : (p :: r).set 0 q = q :: r := rfl
abbrev W7 : List D := [.str [108, 105, 110, 101, 115], .str [107, 101, 112, 116], .str [103, 97, 112], .str [112, 97, 103, 101], .str [114, 105, 103, 104, 116], .str [112, 108, 97, 116, 101, 115], .str [116, 97, 98, 108, 101, 115]]
/-- what a drawn row is, its word and number ahead -/
theorem s_step (k n m : Nat) (h : Int) (p : D) (S : Store) (hn : S[n]? = some p) (hp : Pot m p) (hm : m ≤ 900000) (h1 : 1 ≤ h) (h2 : h ≤ 8) :
    ∃ (s : St) (p' : D), callN T KF (k + 3) 31 [.ref n, .int h] S = some (enc s, S.set n p') ∧ s.ok h ∧ Pot (m + 4) p' := by
  obtain ⟨r1, w, p1, a1, a2, a3⟩ := s_of k 0 1 m [.str [108, 105, 110, 101, 115], .str [107, 101, 112, 116], .str [103, 97, 112], .str [112, 97, 103, 101], .str [114, 105, 103, 104, 116], .str [112, 108, 97, 116, 101, 115], .str [116, 97, 98, 108, 101, 115]] p [p, .lst [.str [108, 105, 110, 101, 115], .str [107, 101, 112, 116], .str [103, 97, 112], .str [112, 97, 103, 101], .str [114, 105, 103, 104, 116], .str [112, 108, 97, 116, 101, 115], .str [116, 97, 98, 108, 101, 115]]] rfl rfl (by decide) rfl (by decide) (by decide) hp (by omega)
  obtain ⟨r2, u, p2, b1, b2, b3⟩ := s_of k 0 2 (m + 1) [.int 2, .int (h + 2), .int (3 * h), .int 40] p1 [p1, .lst [.str [108, 105, 110, 101, 115], .str [107, 101, 112, 116], .str [103, 97, 112], .str [112, 97, 103, 101], .str [114, 105, 103, 104, 116], .str [112, 108, 97, 116, 101, 115], .str [116, 97, 98, 108, 101, 115]], .lst [.int 2, .int (h + 2), .int (3 * h), .int 40]] rfl rfl (by decide) rfl (by simp) (by simp) a3 (by omega)
  have hu : ∃ v : Int, u = .int v ∧ 1 ≤ v ∧ v ≤ 40 := by
    have hr : r2 < 4 := (List.getElem?_eq_some_iff.mp b2).1
    have : r2 = 0 ∨ r2 = 1 ∨ r2 = 2 ∨ r2 = 3 := by omega
    rcases this with rfl | rfl | rfl | rfl <;> (cases b2; exact ⟨_, rfl, by omega, by omega⟩)
  obtain ⟨v, rfl, v1, v2⟩ := hu
  obtain ⟨many, p3, c1, c2, c3, c4⟩ := s_take (k + 1) 0 (m + 2) v p2 [p2, .lst [.str [108, 105, 110, 101, 115], .str [107, 101, 112, 116], .str [103, 97, 112], .str [112, 97, 103, 101], .str [114, 105, 103, 104, 116], .str [112, 108, 97, 116, 101, 115], .str [116, 97, 98, 108, 101, 115]], .lst [.int 2, .int (h + 2), .int (3 * h), .int 40]] rfl b3 (by omega) v1 (by omega)
  obtain ⟨each, p4, d1, d2, d3, d4⟩ := s_take (k + 1) 0 (m + 3) h p3 [p3, .lst [.str [108, 105, 110, 101, 115], .str [107, 101, 112, 116], .str [103, 97, 112], .str [112, 97, 103, 101], .str [114, 105, 103, 104, 116], .str [112, 108, 97, 116, 101, 115], .str [116, 97, 98, 108, 101, 115]], .lst [.int 2, .int (h + 2), .int (3 * h), .int 40]] rfl c4 (by omega) h1 (by omega)
  have f1 := fun S => mul_int (i := 3) (j := h) (S := S) (by decide) (fit_small (by omega) (by omega))
  simp only [set0] at a1 b1 c1 d1
  have hr : r1 < 7 := (List.getElem?_eq_some_iff.mp a2).1
  have : r1 = 0 ∨ r1 = 1 ∨ r1 = 2 ∨ r1 = 3 ∨ r1 = 4 ∨ r1 = 5 ∨ r1 = 6 := by omega
  rcases this with rfl | rfl | rfl | rfl | rfl | rfl | rfl
  · cases a2
    refine ⟨.lines many, p3, call_cell (fl := .rt (enc (.lines many))) (S' := [p3, .lst W7, .lst [.int 2, .int (h + 2), .int (3 * h), .int 40]]) rfl rfl rfl hn hp.free ?_ rfl rfl rfl c4.free, ⟨c2, by omega⟩, c4.le (by omega)⟩
    simp [x__law_step, a1, b1, c1, f1, flatD, inF, eqF, enc]
  · cases a2
    refine ⟨.kept many, p3, call_cell (fl := .rt (enc (.kept many))) (S' := [p3, .lst W7, .lst [.int 2, .int (h + 2), .int (3 * h), .int 40]]) rfl rfl rfl hn hp.free ?_ rfl rfl rfl c4.free, ⟨c2, by omega⟩, c4.le (by omega)⟩
    simp [x__law_step, a1, b1, c1, f1, flatD, inF, eqF, enc]
  · cases a2
    refine ⟨.gap many, p3, call_cell (fl := .rt (enc (.gap many))) (S' := [p3, .lst W7, .lst [.int 2, .int (h + 2), .int (3 * h), .int 40]]) rfl rfl rfl hn hp.free ?_ rfl rfl rfl c4.free, ⟨c2, by omega⟩, c4.le (by omega)⟩
    simp [x__law_step, a1, b1, c1, f1, flatD, inF, eqF, enc]
  · cases a2
    refine ⟨.page, p3, call_cell (fl := .rt (enc .page)) (S' := [p3, .lst W7, .lst [.int 2, .int (h + 2), .int (3 * h), .int 40]]) rfl rfl rfl hn hp.free ?_ rfl rfl rfl c4.free, trivial, c4.le (by omega)⟩
    simp [x__law_step, a1, b1, c1, f1, flatD, inF, eqF, enc]
  · cases a2
    refine ⟨.right, p3, call_cell (fl := .rt (enc .right)) (S' := [p3, .lst W7, .lst [.int 2, .int (h + 2), .int (3 * h), .int 40]]) rfl rfl rfl hn hp.free ?_ rfl rfl rfl c4.free, trivial, c4.le (by omega)⟩
    simp [x__law_step, a1, b1, c1, f1, flatD, inF, eqF, enc]
  · cases a2
    refine ⟨.plates many, p3, call_cell (fl := .rt (enc (.plates many))) (S' := [p3, .lst W7, .lst [.int 2, .int (h + 2), .int (3 * h), .int 40]]) rfl rfl rfl hn hp.free ?_ rfl rfl rfl c4.free, ⟨c2, by omega⟩, c4.le (by omega)⟩
    simp [x__law_step, a1, b1, c1, f1, flatD, inF, eqF, enc]
  · cases a2
    refine ⟨.tables many (1 + each), p4, call_cell (fl := .rt (enc (.tables many (1 + each)))) (S' := [p4, .lst W7, .lst [.int 2, .int (h + 2), .int (3 * h), .int 40]]) rfl rfl rfl hn hp.free ?_ rfl rfl rfl d4.free, ⟨c2, by omega, by omega, by omega⟩, d4⟩
    simp [x__law_step, a1, b1, c1, d1, f1, flatD, inF, eqF, enc]
end K85
set_option Elab.async false
set_option linter.all false
set_option maxRecDepth 100000
set_option maxHeartbeats 4000000
/-! the pairs -/
namespace K85
open Pe
open L2 (atI ixN)
def encP (p : List St × List St) : D := .tup [.tup (p.1.map enc), .tup (p.2.map enc)]
theorem encP_free : ∀ l : List (List St × List St), freeL (l.map encP) = true
  | [] => rfl
  | p :: l => by simp only [List.map_cons, freeL, encP, D.free, encs_free, encP_free l, Bool.and_self]
theorem seq_app {E : Ex} {b : Sx} {c : Ec} {env : Env} {xs : List D} {r : Store} {z : Option (Fl × Store)} (d : D) (hv : env[3]? = some (some (.ref 0))) (hE : E c env (.lst xs :: r) = some (d, .lst xs :: r)) (hl : xs.length < 16777216) (h : b c env (.lst (xs ++ [d]) :: r) = z) :
    sSeq (sExp (eMt (eVar 3) (aCons E aNil) isLst mApp)) b c env (.lst xs :: r) = z := by
  rw [← h]
  simp [hv, hE, hl]
theorem seq_nx {A B : Sx} {c : Ec} {env env' : Env} {S S' : Store} {z : Option (Fl × Store)} (hA : A c env S = some (.nx env', S')) (h : B c env' S' = z) : sSeq A B c env S = z := by
  rw [← h]
  simp [hA]
theorem s_pairs (k : Nat) (h one other : Int) (S : Store) (h1 : 1 ≤ h) (h2 : h ≤ 8) (a0 : 0 ≤ one) (a1 : one ≤ 19) : callN T KF (k + 1) 34 [.int h, .int one, .int other] S = some (.ref S.length, S ++ [.lst ((pairs h one other).map encP)]) := by
  have f1 := fun S => mod_int (i := one) (j := h) (S := S) (by omega)
  have f2 := fun S => mul_int (i := one) (j := h) (S := S) (fit_small (by omega) (by omega)) (fit_small (by omega) (by omega))
  refine call_list (fl := .rt (.ref 2)) (j := 2) (S' := [.lst (((pairs h one other).take 25).map encP), .lst (((pairs h one other).drop 25).map encP), .lst ((pairs h one other).map encP)]) rfl rfl rfl ?_ rfl rfl (encP_free _)
  have e0 : sAsg (eLst (aCons (eTup (aCons (eTup (aCons (eTup (aCons (eC (.str [103, 97, 112])) (aCons (eVar 1) aNil))) (aCons (eTup (aCons (eC (.str [112, 97, 103, 101])) aNil)) aNil))) (aCons (eTup (aCons (eTup (aCons (eC (.str [112, 97, 103, 101])) aNil)) aNil)) aNil))) (aCons (eTup (aCons (eTup (aCons (eTup (aCons (eC (.str [112, 97, 103, 101])) aNil)) (aCons (eTup (aCons (eC (.str [112, 97, 103, 101])) aNil)) aNil))) (aCons (eTup (aCons (eTup (aCons (eC (.str [112, 97, 103, 101])) aNil)) aNil)) aNil))) aNil))) (gNm 3) (ecN T KF k) (startE 5 [.int h, .int one, .int other]) [] = some (.nx [some (.int h), some (.int one), some (.int other), some (.ref 0), none], [.lst [encP ([.gap one, .page], [.page]), encP ([.page, .page], [.page])]]) := by
    simp [encP, enc]
  refine seq_nx e0 ?_
  refine seq_app (encP ([.gap one, .right], [.right])) rfl (by simp [encP, enc]) (by simp) ?_
  refine seq_app (encP ([.page, .right], [.right])) rfl (by simp [encP, enc]) (by simp) ?_
  refine seq_app (encP ([.right, .page], [.right])) rfl (by simp [encP, enc]) (by simp) ?_
  refine seq_app (encP ([.right, .right], [.right])) rfl (by simp [encP, enc]) (by simp) ?_
  refine seq_app (encP ([.gap one, .plates other], [.plates other])) rfl (by simp [encP, enc]) (by simp) ?_
  refine seq_app (encP ([.page, .plates other], [.plates other])) rfl (by simp [encP, enc]) (by simp) ?_
  refine seq_app (encP ([.plates one, .page], [.plates one])) rfl (by simp [encP, enc]) (by simp) ?_
  refine seq_app (encP ([.plates 0], [.page])) rfl (by simp [encP, enc]) (by simp) ?_
  refine seq_app (encP ([.plates one, .plates other], [.plates (one + other)])) rfl (by simp [encP, enc]) (by simp) ?_
  refine seq_app (encP ([.lines one, .lines other], [.lines (one + other)])) rfl (by simp [encP, enc]) (by simp) ?_
  refine seq_app (encP ([.gap one, .gap other], [.gap (one + other)])) rfl (by simp [encP, enc]) (by simp) ?_
  refine seq_app (encP ([.gap (h + one)], [.page])) rfl (by simp [encP, enc]) (by simp) ?_
  refine seq_app (encP ([.lines 0], [])) rfl (by simp [encP, enc]) (by simp) ?_
  refine seq_app (encP ([.gap 0], [])) rfl (by simp [encP, enc]) (by simp) ?_
  refine seq_app (encP ([.kept 0], [])) rfl (by simp [encP, enc]) (by simp) ?_
  refine seq_app (encP ([.tables 0 h], [])) rfl (by simp [encP, enc]) (by simp) ?_
  refine seq_app (encP ([.kept 1], [.lines 1])) rfl (by simp [encP, enc]) (by simp) ?_
  refine seq_app (encP ([.tables one 1], [.lines one])) rfl (by simp [encP, enc]) (by simp) ?_
  refine seq_app (encP ([.tables one h], if 0 < one then [.page, .lines (one * h)] else [])) rfl (by by_cases hc : 0 < one <;> simp [encP, enc, f2, hc]) (by simp) ?_
  refine seq_app (encP ([.kept (h + one)], [.page, .lines (h + one)])) rfl (by simp [encP, enc]) (by simp) ?_
  refine seq_app (encP ([.plates one], [.page, .lines (one * h)])) rfl (by simp [encP, enc, f2]) (by simp) ?_
  have e1 : ∀ S, sAsg (eBin oAdd (eC (.int 1)) (eBin oMod (eFun nInt (aCons (eVar 1) aNil)) (eVar 0))) (gNm 4) (ecN T KF k) [some (.int h), some (.int one), some (.int other), some (.ref 0), none] S = some (.nx [some (.int h), some (.int one), some (.int other), some (.ref 0), some (.int (1 + one % h))], S) := fun S => by simp [f1]
  refine seq_nx (e1 _) ?_
  refine seq_app (encP ([.tables one (1 + one % h), .tables other (1 + one % h)], [.tables (one + other) (1 + one % h)])) rfl (by simp [encP, enc]) (by simp) ?_
  refine seq_app (encP ([.tables 1 (1 + one % h)], [.kept (1 + one % h)])) rfl (by simp [encP, enc]) (by simp) ?_
  simp [encP, enc, pairs]
end K85
set_option Elab.async false
set_option linter.all false
set_option maxRecDepth 100000
set_option maxHeartbeats 4000000
/-! a pair is right -/
namespace K85
open Pe
open L2 (atI ixN)
theorem for_winv {β : Type} {w : List (Nat × D)} {g : Gx} {b : Sx} {c : Ec} (e : β → D) (P : Nat → Env → Store → Prop) (hw : ∀ i env S, P i env S → watchOk w S = true) : ∀ (xs : List β) (i : Nat) (env : Env) (S : Store), P i env S → (∀ (j : Nat) (x : β), xs[j]? = some x → ∀ env S, P (i + j) env S → ∃ env' S', P (i + j + 1) env' S' ∧ ((g (e x) c env S).bind fun p => b c p.1 p.2) = some (.nx env', S')) →
    ∃ env' S', P (i + xs.length) env' S' ∧ forLoop w g b c (xs.map e) env S = some (.nx env', S')
  | [], i, env, S, ha, _ => ⟨env, S, ha, by simp [forLoop, hw i env S ha]⟩
  | x :: r, i, env, S, ha, h => by
    obtain ⟨e1, S1, h1, h2⟩ := h 0 x rfl env S ha
    obtain ⟨e2, S2, h3, h4⟩ := for_winv e P hw r (i + 1) e1 S1 h1 fun j y hj env S hp => by
      have e' : i + 1 + j = i + (j + 1) := by omega
      rw [e'] at hp ⊢
      exact h (j + 1) y hj env S hp
    refine ⟨e2, S2, ?_, ?_⟩
    · rw [List.length_cons]
      have e' : i + (r.length + 1) = i + 1 + r.length := by omega
      rw [e']
      exact h3
    · rw [List.map_cons]
      unfold forLoop
      rw [if_pos (hw i env S ha)]
      obtain ⟨p, q1, q2⟩ := Option.bind_eq_some_iff.mp h2
      rw [q1]
      simp only [Option.bind_some, q2]
      exact h4
theorem set_at {S : Store} {n : Nat} {p q : D} (h : S[n]? = some p) : (S.set n q)[n]? = some q := List.getElem?_set_self (List.getElem?_eq_some_iff.mp h).1
theorem app_at {S : Store} {n : Nat} {p d : D} (h : S[n]? = some p) : (S ++ [d])[n]? = some p := by
  rw [List.getElem?_append_left (List.getElem?_eq_some_iff.mp h).1]
  exact h
theorem app_last (S : Store) (d : D) : (S ++ [d])[S.length]? = some d := by simp
theorem seq_nx2 {A B : Sx} {c : Ec} {env env' : Env} {S S' : Store} {z : Option (Fl × Store)} (hA : A c env S = some (.nx env', S')) (h : B c env' S' = z) : sSeq A B c env S = z := seq_nx hA h
theorem tb_same {h f : Int} {s1 s2 : List St} (hs : ∀ l, 0 ≤ l → led h f l s1 = led h f l s2) : tb h f s1 = tb h f s2 := by
  unfold tb
  exact List.map_congr_left fun i _ => hs i (by omega)
theorem diffs_none {p : Int → Int → Bool} {h f : Int} {s1 s2 : List St} (hp : ∀ a, p a a = false) (hs : ∀ l, 0 ≤ l → led h f l s1 = led h f l s2) : diffs p h f s1 s2 = [] := by
  unfold diffs
  rw [List.filter_eq_nil_iff]
  intro i _
  rw [hs i (by omega), hp]
  decide
/-- one number drawn, all ways alike -/
theorem pair_lap (k m : Nat) (h f : Int) (s1 s2 : List St) (p : D) (S : Store) (o6 o7 o8 : Option D) (h0 : S[0]? = some p) (hp : Pot m p) (hm : m ≤ 900000) (h1 : 1 ≤ h) (h2 : h ≤ 8) (f1 : 1 ≤ f) (f2 : f ≤ 999999) (l1 : s1.length ≤ 1000) (l2 : s2.length ≤ 1000) (hs : same h f (s1, s2)) :
    ∃ (o7' o8' : Option D) (S' : Store) (p' : D), S'[0]? = some p' ∧ Pot (m + 3) p' ∧
      (sSeq (sAsg (eCall 29 (aCons (eVar 0) (aCons (eLst (aCons (eCall 28 (aCons (eVar 0) (aCons (eBin oMul (eC (.int 4)) (eVar 1)) aNil))) (aCons (eCall 28 (aCons (eVar 0) (aCons (eBin oPow (eC (.int 10)) (eC (.int 30))) aNil))) aNil))) aNil))) (gNm 7)) (sSeq (sAsg (eCall 35 (aCons (eVar 1) (aCons (eVar 2) (aCons (eVar 7) (aCons (eVar 3) aNil))))) (gNm 8)) (sSeq (sIf (tOrD (tOfE (eBin oNe (eCall 12 (aCons (eVar 1) (aCons (eVar 2) (aCons (eVar 7) (aCons (eVar 3) aNil))))) (eVar 8))) (tOfE (eBin oNe (eCall 12 (aCons (eVar 1) (aCons (eVar 2) (aCons (eVar 7) (aCons (eVar 4) aNil))))) (eVar 8)))) (sRet (eC (.bl false))) sNext) (sIf (tOfE (eBin oNe (eCall 22 (aCons (eVar 1) (aCons (eVar 5) (aCons (eVar 7) aNil)))) (eVar 8))) (sRet (eC (.bl false))) sNext))))
        (ecN T KF (k + 6)) [some (.ref 0), some (.int h), some (.int f), some (.tup (s1.map enc)), some (.tup (s2.map enc)), some (.tup ((tb h f s1).map D.int)), o6, o7, o8] S =
        some (.nx [some (.ref 0), some (.int h), some (.int f), some (.tup (s1.map enc)), some (.tup (s2.map enc)), some (.tup ((tb h f s1).map D.int)), o6, o7', o8'], S') := by
  obtain ⟨ok1, ok2, hl⟩ := hs
  obtain ⟨r1, p1, a1, a2, a3, a4⟩ := s_take (k + 5) 0 m (4 * h) p S h0 hp (by omega) (by omega) (by omega)
  have g1 := set_at (q := p1) h0
  generalize S.set 0 p1 = S1 at a1 g1
  obtain ⟨r2, p2, b1, b2, b3, b4⟩ := s_take (k + 5) 0 (m + 1) 1000000000000000000000000000000 p1 S1 g1 a4 (by omega) (by omega) (by omega)
  have g2 := set_at (q := p2) g1
  generalize S1.set 0 p2 = S2 at b1 g2
  have hlen : 0 ≠ S2.length := by have := (List.getElem?_eq_some_iff.mp g2).1; omega
  obtain ⟨r, d, p3, c1, c2, c3⟩ := s_of (k + 4) 0 S2.length (m + 2) [.int r1, .int r2] p2 (S2 ++ [.lst [.int r1, .int r2]]) (app_at g2) (app_last _ _) hlen rfl (by simp) (by simp) b4 (by omega)
  have g3 := set_at (q := p3) (app_at (d := .lst [.int r1, .int r2]) g2)
  generalize (S2 ++ [D.lst [D.int r1, D.int r2]]).set 0 p3 = S3 at c1 g3
  have hd : ∃ x : Int, d = .int x ∧ 0 ≤ x := by
    have hr : r < 2 := (List.getElem?_eq_some_iff.mp c2).1
    have : r = 0 ∨ r = 1 := by omega
    rcases this with rfl | rfl <;> (cases c2; exact ⟨_, rfl, by assumption⟩)
  obtain ⟨x, rfl, x0⟩ := hd
  have fm := fun S => mul_int (i := 4) (j := h) (S := S) (by decide) (fit_small (by omega) (by omega))
  have fp : ∀ S, oPow (.int 10) (.int 30) S = some (.int 1000000000000000000000000000000, S) := fun S => by
    have : fits 10 = true := by decide
    simp [oPow, oI, this]
  refine ⟨some (.int x), some (.int (led h f x s1)), S3, p3, g3, c3, ?_⟩
  refine seq_nx (env' := [some (.ref 0), some (.int h), some (.int f), some (.tup (s1.map enc)), some (.tup (s2.map enc)), some (.tup ((tb h f s1).map D.int)), o6, some (.int x), o8]) (S' := S3) (by simp [fm, fp, a1, b1, c1]) ?_
  refine seq_nx (env' := [some (.ref 0), some (.int h), some (.int f), some (.tup (s1.map enc)), some (.tup (s2.map enc)), some (.tup ((tb h f s1).map D.int)), o6, some (.int x), some (.int (led h f x s1))]) (S' := S3) (by simp [s_lled _ h f x s1 _ h1 h2 x0 ok1]) ?_
  refine seq_nx (env' := [some (.ref 0), some (.int h), some (.int f), some (.tup (s1.map enc)), some (.tup (s2.map enc)), some (.tup ((tb h f s1).map D.int)), o6, some (.int x), some (.int (led h f x s1))]) (S' := S3) (by simp [s_stepped_by _ h f x s1 _ h1 h2 f1 f2 x0 l1 ok1, s_stepped_by _ h f x s2 _ h1 h2 f1 f2 x0 l2 ok2, hl x x0]) ?_
  simp [s_by_table _ h f x s1 _ h1 h2 x0 ok1]
theorem s_pair_right (k n m : Nat) (h f : Int) (s1 s2 : List St) (p : D) (S : Store) (h0 : S[n]? = some p) (hp : Pot m p) (hm : m ≤ 800000) (h1 : 1 ≤ h) (h2 : h ≤ 8) (f1 : 1 ≤ f) (f2 : f ≤ 999999) (l1 : s1.length ≤ 1000) (l2 : s2.length ≤ 1000) (hs : same h f (s1, s2)) :
    ∃ p', callN T KF (k + 7) 36 [.ref n, .int h, .int f, .tup (s1.map enc), .tup (s2.map enc)] S = some (.bl true, S.set n p') ∧ Pot (m + 6) p' := by
  have hs' := hs
  obtain ⟨ok1, ok2, hl⟩ := hs'
  have e1 := tb_same hl
  have e2 := diffs_none (p := fun a b => !decide (a = b)) (by simp) hl
  have e3 := diffs_none (p := fun a b => decide (b < a)) (by simp) hl
  have hr2 : rngItems 0 1 2 = (List.range 2).map fun (i : Nat) => D.int (i : Int) := rng0 2
  obtain ⟨env', S', ⟨o6, o7, o8, q, e4, q0, qp⟩, hfor⟩ := for_winv (w := []) (g := gNm 6) (c := ecN T KF (k + 6)) (b := (sSeq (sAsg (eCall 29 (aCons (eVar 0) (aCons (eLst (aCons (eCall 28 (aCons (eVar 0) (aCons (eBin oMul (eC (.int 4)) (eVar 1)) aNil))) (aCons (eCall 28 (aCons (eVar 0) (aCons (eBin oPow (eC (.int 10)) (eC (.int 30))) aNil))) aNil))) aNil))) (gNm 7)) (sSeq (sAsg (eCall 35 (aCons (eVar 1) (aCons (eVar 2) (aCons (eVar 7) (aCons (eVar 3) aNil))))) (gNm 8)) (sSeq (sIf (tOrD (tOfE (eBin oNe (eCall 12 (aCons (eVar 1) (aCons (eVar 2) (aCons (eVar 7) (aCons (eVar 3) aNil))))) (eVar 8))) (tOfE (eBin oNe (eCall 12 (aCons (eVar 1) (aCons (eVar 2) (aCons (eVar 7) (aCons (eVar 4) aNil))))) (eVar 8)))) (sRet (eC (.bl false))) sNext) (sIf (tOfE (eBin oNe (eCall 22 (aCons (eVar 1) (aCons (eVar 5) (aCons (eVar 7) aNil)))) (eVar 8))) (sRet (eC (.bl false))) sNext)))))
    (fun (i : Nat) => D.int (i : Int)) (fun i env S => ∃ o6 o7 o8 q, env = [some (.ref 0), some (.int h), some (.int f), some (.tup (s1.map enc)), some (.tup (s2.map enc)), some (.tup ((tb h f s1).map D.int)), o6, o7, o8] ∧ S[0]? = some q ∧ Pot (m + 3 * i) q) (fun _ _ _ _ => rfl) (List.range 2) 0
    [some (.ref 0), some (.int h), some (.int f), some (.tup (s1.map enc)), some (.tup (s2.map enc)), some (.tup ((tb h f s1).map D.int)), none, none, none] [p] ⟨none, none, none, p, rfl, rfl, hp⟩
    (fun j x hj env S hP => by
      obtain ⟨o6, o7, o8, q, rfl, q0, qp⟩ := hP
      have hj2 : j < 2 := by
        have := (List.getElem?_eq_some_iff.mp hj).1
        simpa using this
      obtain ⟨o7', o8', S', p', g0, gp, ge⟩ := pair_lap k (m + 3 * (0 + j)) h f s1 s2 q S (some (.int (x : Int))) o7 o8 q0 qp (by omega) h1 h2 f1 f2 l1 l2 hs
      refine ⟨_, S', ⟨some (.int (x : Int)), o7', o8', p', rfl, g0, gp.le (by omega)⟩, ?_⟩
      rw [u_nm]
      exact ge)
  subst e4
  refine ⟨q, call_cell (fl := .rt (.bl true)) (S' := S') rfl rfl (by simp [freeL, D.free, encs_free]) h0 hp.free ?_ rfl rfl q0 qp.free, qp.le (by simp)⟩
  refine seq_nx (env' := [some (.ref 0), some (.int h), some (.int f), some (.tup (s1.map enc)), some (.tup (s2.map enc)), some (.tup ((tb h f s1).map D.int)), none, none, none]) (S' := [p]) (by simp [s_table_of _ h f s1 _ h1 h2 f1 f2 l1 ok1]) ?_
  refine seq_nx (env' := [some (.ref 0), some (.int h), some (.int f), some (.tup (s1.map enc)), some (.tup (s2.map enc)), some (.tup ((tb h f s1).map D.int)), none, none, none]) (S' := [p]) (by
    simp [s_table_of _ h f s2 _ h1 h2 f1 f2 l2 ok2, s_is_table _ h f s1 _ h1 h2 ok1, ne_tints, e1]
    simp [← e1, s_is_table _ h f s1 _ h1 h2 ok1]) ?_
  refine seq_nx (env' := [some (.ref 0), some (.int h), some (.int f), some (.tup (s1.map enc)), some (.tup (s2.map enc)), some (.tup ((tb h f s1).map D.int)), none, none, none]) (S' := [p]) (by
    simp [s_unlike _ h f s1 s2 _ h1 h2 f1 f2 l1 l2 ok1 ok2, s_later _ h f s1 s2 _ h1 h2 f1 f2 l1 l2 ok1 ok2, e2, e3, firstD]) ?_
  refine seq_nx (env' := [some (.ref 0), some (.int h), some (.int f), some (.tup (s1.map enc)), some (.tup (s2.map enc)), some (.tup ((tb h f s1).map D.int)), o6, o7, o8]) (S' := S') (by
    have hr : inR 2 = true := by decide
    simp only [u_for, u_rg1, u_acons, u_c, u_anil, Option.bind_some, Option.map_some, hr, if_true]
    rw [show ((2 : Int).toNat) = 2 from rfl, hr2]
    exact hfor) ?_
  simp
end K85
set_option Elab.async false
set_option linter.all false
set_option maxRecDepth 100000
set_option maxHeartbeats 4000000
/-! one draw is right -/
namespace K85
open Pe
open L2 (atI ixN)
theorem pair_len {h one other : Int} : ∀ p ∈ pairs h one other, p.1.length ≤ 2 ∧ p.2.length ≤ 2 := by
  intro p hp
  simp only [pairs, List.mem_cons, List.not_mem_nil, or_false] at hp
  rcases hp with rfl | rfl | rfl | rfl | rfl | rfl | rfl | rfl | rfl | rfl | rfl | rfl | rfl | rfl | rfl | rfl | rfl | rfl | rfl | rfl | rfl | rfl | rfl | rfl | rfl | rfl <;> constructor <;> first
    | (simp; done)
    | (show (if 0 < one then [St.page, St.lines (one * h)] else []).length ≤ 2; split <;> simp)
theorem same_wrap {h f : Int} {a b : St} {p : List St × List St} (h1 : 1 ≤ h) (h2 : h ≤ 8) (ha : a.ok h) (hb : b.ok h) (hs : same h f p) : same h f (a :: p.1 ++ [b], a :: p.2 ++ [b]) := by
  obtain ⟨o1, o2, hl⟩ := hs
  refine ⟨fun s hs => ?_, fun s hs => ?_, fun l hl0 => ?_⟩
  · simp only [List.cons_append, List.mem_cons, List.mem_append, List.not_mem_nil, or_false] at hs
    rcases hs with rfl | hs | rfl
    · exact ha
    · exact o1 s hs
    · exact hb
  · simp only [List.cons_append, List.mem_cons, List.mem_append, List.not_mem_nil, or_false] at hs
    rcases hs with rfl | hs | rfl
    · exact ha
    · exact o2 s hs
    · exact hb
  · show led h f l (a :: p.1 ++ [b]) = led h f l (a :: p.2 ++ [b])
    rw [led_app, led_app]
    have e : led h f l (a :: p.1) = led h f l (a :: p.2) := by
      show led h f (sf h f l a) p.1 = led h f (sf h f l a) p.2
      exact hl _ (Int.le_trans hl0 (sf_ge h1 h2 ha))
    rw [e]
def dif (h f : Int) (a b : St) (i : Nat) : Bool := !decide (led h f (i : Int) [a, b] = led h f (i : Int) [b, a])
def due (h f : Int) (a b : St) (n : Nat) : List Int := ((List.range n).filter (dif h f a b)).map fun (i : Nat) => (i : Int)
theorem due_succ (h f : Int) (a b : St) (n : Nat) : due h f a b (n + 1) = due h f a b n ++ if dif h f a b n = true then [(n : Int)] else [] := by
  unfold due
  rw [List.range_succ, List.filter_append, List.map_append]
  cases hd : dif h f a b n <;> simp [hd]
theorem due_len (h f : Int) (a b : St) (n : Nat) : (due h f a b n).length ≤ n := by
  unfold due
  rw [List.length_map]
  exact Nat.le_trans (List.length_filter_le _ _) (by simp)
theorem tb_iff (h f : Int) (a b : St) : tb h f [a, b] = tb h f [b, a] ↔ due h f a b (2 * h).toNat = [] := by
  unfold tb due
  rw [List.map_eq_nil_iff, List.filter_eq_nil_iff]
  constructor
  · intro e i hi
    have := (List.map_inj_left.mp e) i hi
    simp [dif, this]
  · intro e
    refine List.map_congr_left fun i hi => ?_
    have := e i hi
    simpa [dif] using this
theorem firstD_due (h f : Int) (a b : St) : firstD (diffs (fun x y => !decide (x = y)) h f [a, b] [b, a]) = match due h f a b (2 * h).toNat with
    | [] => .non
    | i :: _ => .int i := by
  unfold diffs due
  have : (fun (i : Nat) => (fun x y => !decide (x = y)) (led h f (i : Int) [a, b]) (led h f (i : Int) [b, a])) = dif h f a b := rfl
  show firstD ((List.range (2 * h).toNat).filter (dif h f a b)) = _
  cases (List.range (2 * h).toNat).filter (dif h f a b) <;> rfl
theorem in_map {l : List (List St × List St)} {r : Nat} {d : D} (h : (l.map encP)[r]? = some d) : ∃ p ∈ l, d = encP p := by
  rw [List.getElem?_map] at h
  obtain ⟨p, h1, h2⟩ := Option.map_eq_some_iff.mp h
  exact ⟨p, List.mem_of_getElem? h1, h2.symm⟩
/-- the loop that gathers what is unlike -/
theorem due_loop (k : Nat) (h f : Int) (a b : St) (e3 e4 e5 e6 e7 e10 e11 : Option D) (q x1 x2 x3 : D) (h1 : 1 ≤ h) (h2 : h ≤ 8) (oa : a.ok h) (ob : b.ok h) :
    ∃ (o13 o14 : Option D) (S' : Store), S'[0]? = some q ∧ S'[4]? = some (.lst ((due h f a b (2 * h).toNat).map D.int)) ∧
      sFor (iRange1 (aCons (eBin oMul (eC (.int 2)) (eVar 1)) aNil)) (gNm 13) (sSeq (sAsg (eBin oEq (eCall 35 (aCons (eVar 1) (aCons (eVar 2) (aCons (eVar 13) (aCons (eTup (aCons (eVar 8) (aCons (eVar 9) aNil))) aNil))))) (eCall 35 (aCons (eVar 1) (aCons (eVar 2) (aCons (eVar 13) (aCons (eTup (aCons (eVar 9) (aCons (eVar 8) aNil))) aNil)))))) (gNm 14)) (sExp (eMt (eVar 12) (aCons (eIf (tOfE (eVar 14)) (eLst aNil) (eLst (aCons (eVar 13) aNil))) aNil) isLst mExt)))
        (ecN T KF (k + 7)) [some (.ref 0), some (.int h), some (.int f), e3, e4, e5, e6, e7, some (enc a), some (enc b), e10, e11, some (.ref 4), none, none] [q, x1, x2, x3, .lst []] =
        some (.nx [some (.ref 0), some (.int h), some (.int f), e3, e4, e5, e6, e7, some (enc a), some (enc b), e10, e11, some (.ref 4), o13, o14], S') := by
  have oab : ∀ s ∈ [a, b], s.ok h := by simp [oa, ob]
  have oba : ∀ s ∈ [b, a], s.ok h := by simp [oa, ob]
  have fm := fun S => mul_int (i := 2) (j := h) (S := S) (by decide) (fit_small (by omega) (by omega))
  have hr : inR (2 * h) = true := inR_mk (by omega) (by omega)
  obtain ⟨env', S', ⟨o13, o14, e, q0, q4⟩, hfor⟩ := for_winv (w := []) (g := gNm 13) (c := ecN T KF (k + 7)) (b := (sSeq (sAsg (eBin oEq (eCall 35 (aCons (eVar 1) (aCons (eVar 2) (aCons (eVar 13) (aCons (eTup (aCons (eVar 8) (aCons (eVar 9) aNil))) aNil))))) (eCall 35 (aCons (eVar 1) (aCons (eVar 2) (aCons (eVar 13) (aCons (eTup (aCons (eVar 9) (aCons (eVar 8) aNil))) aNil)))))) (gNm 14)) (sExp (eMt (eVar 12) (aCons (eIf (tOfE (eVar 14)) (eLst aNil) (eLst (aCons (eVar 13) aNil))) aNil) isLst mExt))))
    (fun (i : Nat) => D.int (i : Int)) (fun i env S => ∃ o13 o14, env = [some (.ref 0), some (.int h), some (.int f), e3, e4, e5, e6, e7, some (enc a), some (enc b), e10, e11, some (.ref 4), o13, o14] ∧ S[0]? = some q ∧ S[4]? = some (.lst ((due h f a b i).map D.int))) (fun _ _ _ _ => rfl) (List.range (2 * h).toNat) 0
    [some (.ref 0), some (.int h), some (.int f), e3, e4, e5, e6, e7, some (enc a), some (enc b), e10, e11, some (.ref 4), none, none] [q, x1, x2, x3, .lst []] ⟨none, none, rfl, rfl, rfl⟩
    (fun j x hj env S hP => by
      obtain ⟨o13, o14, rfl, q0, q4⟩ := hP
      have hjl := (List.getElem?_eq_some_iff.mp hj).1
      rw [List.length_range] at hjl
      have hx : x = j := by
        rw [List.getElem?_range hjl] at hj
        exact (Option.some.inj hj).symm
      subst hx
      rw [Nat.zero_add] at q4
      have c1 : ∀ S, callN T KF (k + 7) 35 [.int h, .int f, .int (x : Int), .tup [enc a, enc b]] S = some (.int (led h f (x : Int) [a, b]), S) := fun S => s_lled (k + 3) h f x [a, b] S h1 h2 (by omega) oab
      have c2 : ∀ S, callN T KF (k + 7) 35 [.int h, .int f, .int (x : Int), .tup [enc b, enc a]] S = some (.int (led h f (x : Int) [b, a]), S) := fun S => s_lled (k + 3) h f x [b, a] S h1 h2 (by omega) oba
      have h4 := (List.getElem?_eq_some_iff.mp q4).1
      have hdl := due_len h f a b x
      have hs := due_succ h f a b x
      by_cases hc : led h f (x : Int) [a, b] = led h f (x : Int) [b, a]
      · have hd : dif h f a b x = false := by simp [dif, hc]
        have ex := r_ext (n := 4) (m := S.length) (S := S ++ [D.lst []]) (app_at q4) (app_last _ _) (by simp; omega)
        refine ⟨_, (S ++ [D.lst []]).set 4 (.lst ((due h f a b x).map D.int ++ [])), ⟨some (.int (x : Int)), some (.bl true), rfl, ?_, ?_⟩, ?_⟩
        · rw [List.getElem?_set_ne (by decide)]
          exact app_at q0
        · rw [set_at (app_at q4), Nat.zero_add, hs, hd]
          simp
        · simp [c1, c2, hc, q4, ex]
      · have hd : dif h f a b x = true := by simp [dif, hc]
        have ex := r_ext (n := 4) (m := S.length) (S := S ++ [D.lst [.int (x : Int)]]) (app_at q4) (app_last _ _) (by simp; omega)
        refine ⟨_, (S ++ [D.lst [.int (x : Int)]]).set 4 (.lst ((due h f a b x).map D.int ++ [.int (x : Int)])), ⟨some (.int (x : Int)), some (.bl false), rfl, ?_, ?_⟩, ?_⟩
        · rw [List.getElem?_set_ne (by decide)]
          exact app_at q0
        · rw [set_at (app_at q4), Nat.zero_add, hs, hd]
          simp
        · simp [c1, c2, hc, q4, ex])
  subst e
  rw [Nat.zero_add, List.length_range] at q4
  refine ⟨o13, o14, S', q0, q4, ?_⟩
  simp only [u_for, u_rg1, u_acons, u_bin, u_c, u_var, u_anil, List.getElem?_cons_zero, List.getElem?_cons_succ, Option.bind_some, Option.map_some, fm, hr, if_true, rng0]
  exact hfor
end K85
set_option Elab.async false
set_option linter.all false
set_option maxRecDepth 100000
set_option maxHeartbeats 4000000
/-! one draw is right, the law -/
namespace K85
open Pe
open L2 (atI ixN)
theorem pot_take (k m : Nat) (u : Int) (p : D) (r : Store) (hp : Pot m p) (hm : m ≤ 1000000) (u1 : 1 ≤ u) (u2 : u ≤ 1000000) :
    ∃ (d : Int) (p' : D), callN T KF (k + 1) 28 [.ref 0, .int u] (p :: r) = some (.int d, p' :: r) ∧ 0 ≤ d ∧ d < u ∧ Pot (m + 1) p' := s_take k 0 m u p (p :: r) rfl hp hm u1 (by omega)
theorem pot_of (k l m : Nat) (xs : List D) (p : D) (r : Store) (hl : (p :: r)[l]? = some (.lst xs)) (hnl : 0 ≠ l) (hx : freeL xs = true) (x1 : 1 ≤ xs.length) (x2 : xs.length ≤ 1000000) (hp : Pot m p) (hm : m ≤ 1000000) :
    ∃ (i : Nat) (d p' : D), callN T KF (k + 2) 29 [.ref 0, .ref l] (p :: r) = some (d, p' :: r) ∧ xs[i]? = some d ∧ Pot (m + 1) p' := s_of k 0 l m xs p (p :: r) rfl hl hnl hx x1 x2 hp hm
theorem of_two {i : Nat} {d : D} (h : [D.int 3, D.int 20][i]? = some d) : ∃ v : Int, d = .int v ∧ 1 ≤ v ∧ v ≤ 20 := by
  have hr : i < 2 := (List.getElem?_eq_some_iff.mp h).1
  have : i = 0 ∨ i = 1 := by omega
  rcases this with rfl | rfl <;> (cases h; exact ⟨_, rfl, by decide, by decide⟩)
theorem s_right (k n m : Nat) (p : D) (S : Store) (h0 : S[n]? = some p) (hp : Pot m p) (hm : m ≤ 100000) :
    ∃ p', callN T KF (k + 8) 37 [.ref n] S = some (.bl true, S.set n p') ∧ Pot (m + 1000) p' := by
  -- the draws
  obtain ⟨r1, p1, a1, a2, a3, a4⟩ := pot_take (k + 6) m 8 p [] hp (by omega) (by omega) (by omega)
  obtain ⟨r2, p2, b1, b2, b3, b4⟩ := pot_take (k + 6) (m + 1) 40 p1 [] a4 (by omega) (by omega) (by omega)
  obtain ⟨h, hh⟩ : ∃ h : Int, 1 + r1 = h := ⟨_, rfl⟩
  obtain ⟨f, hf⟩ : ∃ f : Int, 1 + r2 = f := ⟨_, rfl⟩
  have h1 : 1 ≤ h := by omega
  have h2 : h ≤ 8 := by omega
  have f1 : 1 ≤ f := by omega
  have f2 : f ≤ 999999 := by omega
  obtain ⟨i1, d1, p3, c1, c2, c3⟩ := pot_of (k + 5) 1 (m + 2) [.int 3, .int 20] p2 [.lst [.int 3, .int 20]] rfl (by decide) rfl (by decide) (by decide) b4 (by omega)
  obtain ⟨v1, rfl, v10, v11⟩ := of_two c2
  obtain ⟨one, p4, d1, d2, d3, d4⟩ := pot_take (k + 6) (m + 3) v1 p3 [.lst [.int 3, .int 20]] c3 (by omega) v10 (by omega)
  obtain ⟨i2, d1', p5, e1, e2, e3⟩ := pot_of (k + 5) 2 (m + 4) [.int 3, .int 20] p4 [.lst [.int 3, .int 20], .lst [.int 3, .int 20]] rfl (by decide) rfl (by decide) (by decide) d4 (by omega)
  obtain ⟨v2, rfl, v20, v21⟩ := of_two e2
  obtain ⟨other, p6, g1, g2, g3, g4⟩ := pot_take (k + 6) (m + 5) v2 p5 [.lst [.int 3, .int 20], .lst [.int 3, .int 20]] e3 (by omega) v20 (by omega)
  have hP := s_pairs (k + 6) h one other [p6, .lst [.int 3, .int 20], .lst [.int 3, .int 20]] h1 h2 d2 (by omega)
  have pok := pair_ok (f := f) h1 h2 d2 (show one ≤ 19 by omega) g2 (show other ≤ 19 by omega)
  have plen : (pairs h one other).length = 26 := by simp [pairs]
  -- the loop over all pairs
  obtain ⟨env', S', ⟨q, o6, o7, rfl, rfl, qp⟩, hfor⟩ := for_winv (w := [(3, .lst ((pairs h one other).map encP))]) (g := gTp 2 (gsCons (gNm 6) (gsCons (gNm 7) gsNil))) (c := ecN T KF (k + 7)) (b := sIf (tNotD (tOfE (eCall 36 (aCons (eVar 0) (aCons (eVar 1) (aCons (eVar 2) (aCons (eVar 6) (aCons (eVar 7) aNil)))))))) (sRet (eC (.bl false))) sNext)
    encP (fun i env S => ∃ q o6 o7, env = [some (.ref 0), some (.int h), some (.int f), some (.int one), some (.int other), some (.ref 3), o6, o7, none, none, none, none, none, none, none] ∧ S = [q, .lst [.int 3, .int 20], .lst [.int 3, .int 20], .lst ((pairs h one other).map encP)] ∧ Pot (m + 6 + 6 * i) q)
    (fun i env S hP => by
      obtain ⟨q, o6, o7, _, rfl, _⟩ := hP
      simp [watchOk, D.same_refl]) (pairs h one other) 0
    [some (.ref 0), some (.int h), some (.int f), some (.int one), some (.int other), some (.ref 3), none, none, none, none, none, none, none, none, none] [p6, .lst [.int 3, .int 20], .lst [.int 3, .int 20], .lst ((pairs h one other).map encP)] ⟨p6, none, none, rfl, rfl, g4⟩
    (fun j x hj env S hPj => by
      obtain ⟨q, o6, o7, rfl, rfl, qp⟩ := hPj
      have hjl := (List.getElem?_eq_some_iff.mp hj).1
      have hx := List.mem_of_getElem? hj
      obtain ⟨l1, l2⟩ := pair_len x hx
      obtain ⟨q', w1, w2⟩ := s_pair_right k 0 (m + 6 + 6 * (0 + j)) h f x.1 x.2 q [q, .lst [.int 3, .int 20], .lst [.int 3, .int 20], .lst ((pairs h one other).map encP)] rfl qp (by omega) h1 h2 f1 f2 (by omega) (by omega) (pok x hx)
      simp only [set0] at w1
      refine ⟨_, _, ⟨q', some (.tup (x.1.map enc)), some (.tup (x.2.map enc)), rfl, rfl, w2.le (by omega)⟩, ?_⟩
      simp [encP, w1])
  rw [plen] at qp
  -- two rows around a pair
  obtain ⟨sa, q1, s1, s2, s3⟩ := s_step (k + 4) 0 (m + 6 + 6 * (0 + 26)) h q [q, .lst [.int 3, .int 20], .lst [.int 3, .int 20], .lst ((pairs h one other).map encP)] rfl qp (by omega) h1 h2
  obtain ⟨sb, q2, t1, t2, t3⟩ := s_step (k + 4) 0 (m + 6 + 6 * (0 + 26) + 4) h q1 [q1, .lst [.int 3, .int 20], .lst [.int 3, .int 20], .lst ((pairs h one other).map encP)] rfl s3 (by omega) h1 h2
  simp only [set0] at s1 t1
  obtain ⟨i3, d3', q3, u1, u2, u3⟩ := pot_of (k + 5) 3 (m + 6 + 6 * (0 + 26) + 4 + 4) ((pairs h one other).map encP) q2 [.lst [.int 3, .int 20], .lst [.int 3, .int 20], .lst ((pairs h one other).map encP)] rfl (by decide) (encP_free _) (by simp [plen]) (by simp [plen]) t3 (by omega)
  obtain ⟨pr, hpr, rfl⟩ := in_map u2
  obtain ⟨l1, l2⟩ := pair_len pr hpr
  have hw := same_wrap h1 h2 s2 t2 (pok pr hpr)
  obtain ⟨q4, w1, w2⟩ := s_pair_right k 0 (m + 6 + 6 * (0 + 26) + 4 + 4 + 1) h f (sa :: pr.1 ++ [sb]) (sa :: pr.2 ++ [sb]) q3 [q3, .lst [.int 3, .int 20], .lst [.int 3, .int 20], .lst ((pairs h one other).map encP)] rfl u3 (by omega) h1 h2 f1 f2 (by simp; omega) (by simp; omega) hw
  simp only [set0] at w1
  have oab : ∀ s ∈ [sa, sb], s.ok h := by simp [s2, t2]
  have oba : ∀ s ∈ [sb, sa], s.ok h := by simp [s2, t2]
  have oa : ∀ s ∈ [sa], s.ok h := by simp [s2]
  have ob : ∀ s ∈ [sb], s.ok h := by simp [t2]
  have T1 : ∀ S, callN T KF (k + 7) 16 [.int h, .int f, .tup [enc sa, enc sb]] S = some (.tup ((tb h f [sa, sb]).map D.int), S) := fun S => s_table_of (k + 1) h f [sa, sb] S h1 h2 f1 f2 (by simp) oab
  have T2 : ∀ S, callN T KF (k + 7) 16 [.int h, .int f, .tup [enc sb, enc sa]] S = some (.tup ((tb h f [sb, sa]).map D.int), S) := fun S => s_table_of (k + 1) h f [sb, sa] S h1 h2 f1 f2 (by simp) oba
  have T3 : ∀ S, callN T KF (k + 7) 16 [.int h, .int f, .tup [enc sa]] S = some (.tup ((tb h f [sa]).map D.int), S) := fun S => s_table_of (k + 1) h f [sa] S h1 h2 f1 f2 (by simp) oa
  have T4 : ∀ S, callN T KF (k + 7) 16 [.int h, .int f, .tup [enc sb]] S = some (.tup ((tb h f [sb]).map D.int), S) := fun S => s_table_of (k + 1) h f [sb] S h1 h2 f1 f2 (by simp) ob
  have T5 : ∀ S, callN T KF (k + 7) 24 [.int h, .tup ((tb h f [sa]).map D.int), .tup ((tb h f [sb]).map D.int)] S = some (.tup ((tb h f [sa, sb]).map D.int), S) := fun S => s_then (k + 2) h f [sa] [sb] S h1 h2 oa ob
  have T6 : ∀ S, callN T KF (k + 7) 25 [.int h, .int f, .tup [enc sa, enc sb], .tup [enc sb, enc sa]] S = some (firstD (diffs (fun a b => !decide (a = b)) h f [sa, sb] [sb, sa]), S) := fun S => s_unlike (k + 1) h f [sa, sb] [sb, sa] S h1 h2 f1 f2 (by simp) (by simp) oab oba
  obtain ⟨o13, o14, S2, z0, z4, hloop⟩ := due_loop k h f sa sb (some (.int one)) (some (.int other)) (some (.ref 3)) (some (.tup (pr.1.map enc))) (some (.tup (pr.2.map enc))) (some (.tup ((tb h f [sa, sb]).map D.int))) (some (.tup ((tb h f [sb, sa]).map D.int))) q4 (.lst [.int 3, .int 20]) (.lst [.int 3, .int 20]) (.lst ((pairs h one other).map encP)) h1 h2 s2 t2
  have A1 : ∀ S, oAdd (.tup [enc sa]) (.tup (pr.1.map enc)) S = some (.tup (enc sa :: pr.1.map enc), S) := fun S => by
    rw [add_tups, if_pos (by simp; omega)]
    rfl
  have A2 : ∀ S, oAdd (.tup (enc sa :: pr.1.map enc)) (.tup [enc sb]) S = some (.tup (enc sa :: (pr.1.map enc ++ [enc sb])), S) := fun S => by
    rw [add_tups, if_pos (by simp; omega)]
    rfl
  have A3 : ∀ S, oAdd (.tup [enc sa]) (.tup (pr.2.map enc)) S = some (.tup (enc sa :: pr.2.map enc), S) := fun S => by
    rw [add_tups, if_pos (by simp; omega)]
    rfl
  have A4 : ∀ S, oAdd (.tup (enc sa :: pr.2.map enc)) (.tup [enc sb]) S = some (.tup (enc sa :: (pr.2.map enc ++ [enc sb])), S) := fun S => by
    rw [add_tups, if_pos (by simp; omega)]
    rfl
  have w1' : callN T KF (k + 7) 36 [.ref 0, .int h, .int f, .tup (enc sa :: (pr.1.map enc ++ [enc sb])), .tup (enc sa :: (pr.2.map enc ++ [enc sb]))] [q3, .lst [.int 3, .int 20], .lst [.int 3, .int 20], .lst ((pairs h one other).map encP)] = some (.bl true, [q4, .lst [.int 3, .int 20], .lst [.int 3, .int 20], .lst ((pairs h one other).map encP)]) := by
    have w := w1
    simp only [List.cons_append, List.map_cons, List.map_append, List.map_nil] at w
    exact w
  have hP' : callN T KF (k + 7) 34 [.int h, .int one, .int other] [p6, .lst [.int 3, .int 20], .lst [.int 3, .int 20]] = some (.ref 3, [p6, .lst [.int 3, .int 20], .lst [.int 3, .int 20], .lst ((pairs h one other).map encP)]) := hP
  obtain ⟨S3, hS3⟩ : ∃ S3, S2 ++ [D.lst []] = S3 := ⟨_, rfl⟩
  have y0 : S3[0]? = some q4 := by rw [← hS3]; exact app_at z0
  have y4 : S3[4]? = some (.lst ((due h f sa sb (2 * h).toNat).map D.int)) := by rw [← hS3]; exact app_at z4
  have eqL : oEq (.ref 4) (.ref S2.length) S3 = some (.bl (decide (due h f sa sb (2 * h).toNat = [])), S3) := by
    rw [← hS3]
    exact eq_lints (ys := []) (app_at z4) (app_last _ _)
  have neL : oNe (.ref 4) (.ref S3.length) (S3 ++ [D.lst []]) = some (.bl (!decide (due h f sa sb (2 * h).toNat = [])), S3 ++ [D.lst []]) := ne_lints (ys := []) (app_at y4) (app_last _ _)
  have y44 : (S3 ++ [D.lst []])[4]? = some (.lst ((due h f sa sb (2 * h).toNat).map D.int)) := app_at y4
  have hti : decide (tb h f [sa, sb] = tb h f [sb, sa]) = decide (due h f sa sb (2 * h).toNat = []) := by simp [tb_iff]
  refine ⟨q4, call_cell (fl := .rt (.bl true)) (S' := S3 ++ [D.lst []]) rfl rfl rfl h0 hp.free ?_ rfl rfl (app_at y0) w2.free, w2.le (by omega)⟩
  refine seq_nx (env' := [some (.ref 0), some (.int h), some (.int f), none, none, none, none, none, none, none, none, none, none, none, none]) (S' := [p2]) (by simp [a1, b1, hh, hf]) ?_
  refine seq_nx (env' := [some (.ref 0), some (.int h), some (.int f), some (.int one), some (.int other), none, none, none, none, none, none, none, none, none, none]) (S' := [p6, .lst [.int 3, .int 20], .lst [.int 3, .int 20]]) (by simp [c1, d1, e1, g1]) ?_
  refine seq_nx (env' := [some (.ref 0), some (.int h), some (.int f), some (.int one), some (.int other), some (.ref 3), none, none, none, none, none, none, none, none, none]) (S' := [p6, .lst [.int 3, .int 20], .lst [.int 3, .int 20], .lst ((pairs h one other).map encP)]) (by simp [hP']) ?_
  refine seq_nx (env' := [some (.ref 0), some (.int h), some (.int f), some (.int one), some (.int other), some (.ref 3), o6, o7, none, none, none, none, none, none, none]) (S' := [q, .lst [.int 3, .int 20], .lst [.int 3, .int 20], .lst ((pairs h one other).map encP)]) (by
    have hq := r_seq (n := 3) (xs := (pairs h one other).map encP) (S := [p6, .lst [.int 3, .int 20], .lst [.int 3, .int 20], .lst ((pairs h one other).map encP)]) rfl
    simp only [u_for, u_iseq, u_var, List.getElem?_cons_zero, List.getElem?_cons_succ, Option.bind_some, Option.map_some, hq]
    exact hfor) ?_
  refine seq_nx (env' := [some (.ref 0), some (.int h), some (.int f), some (.int one), some (.int other), some (.ref 3), o6, o7, some (enc sa), some (enc sb), none, none, none, none, none]) (S' := [q2, .lst [.int 3, .int 20], .lst [.int 3, .int 20], .lst ((pairs h one other).map encP)]) (by simp [s1, t1]) ?_
  refine seq_nx (env' := [some (.ref 0), some (.int h), some (.int f), some (.int one), some (.int other), some (.ref 3), some (.tup (pr.1.map enc)), some (.tup (pr.2.map enc)), some (enc sa), some (enc sb), none, none, none, none, none]) (S' := [q3, .lst [.int 3, .int 20], .lst [.int 3, .int 20], .lst ((pairs h one other).map encP)]) (by simp [u1, encP]) ?_
  refine seq_nx (env' := [some (.ref 0), some (.int h), some (.int f), some (.int one), some (.int other), some (.ref 3), some (.tup (pr.1.map enc)), some (.tup (pr.2.map enc)), some (enc sa), some (enc sb), none, none, none, none, none]) (S' := [q4, .lst [.int 3, .int 20], .lst [.int 3, .int 20], .lst ((pairs h one other).map encP)]) (by simp [A1, A2, A3, A4, w1', -add_tups]) ?_
  refine seq_nx (env' := [some (.ref 0), some (.int h), some (.int f), some (.int one), some (.int other), some (.ref 3), some (.tup (pr.1.map enc)), some (.tup (pr.2.map enc)), some (enc sa), some (enc sb), some (.tup ((tb h f [sa, sb]).map D.int)), some (.tup ((tb h f [sb, sa]).map D.int)), none, none, none]) (S' := [q4, .lst [.int 3, .int 20], .lst [.int 3, .int 20], .lst ((pairs h one other).map encP)]) (by simp [T1, T2]) ?_
  refine seq_nx (env' := [some (.ref 0), some (.int h), some (.int f), some (.int one), some (.int other), some (.ref 3), some (.tup (pr.1.map enc)), some (.tup (pr.2.map enc)), some (enc sa), some (enc sb), some (.tup ((tb h f [sa, sb]).map D.int)), some (.tup ((tb h f [sb, sa]).map D.int)), none, none, none]) (S' := [q4, .lst [.int 3, .int 20], .lst [.int 3, .int 20], .lst ((pairs h one other).map encP)]) (by simp [T3, T4, T5, ne_tints]) ?_
  refine seq_nx (env' := [some (.ref 0), some (.int h), some (.int f), some (.int one), some (.int other), some (.ref 3), some (.tup (pr.1.map enc)), some (.tup (pr.2.map enc)), some (enc sa), some (enc sb), some (.tup ((tb h f [sa, sb]).map D.int)), some (.tup ((tb h f [sb, sa]).map D.int)), some (.ref 4), none, none]) (S' := [q4, .lst [.int 3, .int 20], .lst [.int 3, .int 20], .lst ((pairs h one other).map encP), .lst []]) (by simp) ?_
  refine seq_nx (env' := [some (.ref 0), some (.int h), some (.int f), some (.int one), some (.int other), some (.ref 3), some (.tup (pr.1.map enc)), some (.tup (pr.2.map enc)), some (enc sa), some (enc sb), some (.tup ((tb h f [sa, sb]).map D.int)), some (.tup ((tb h f [sb, sa]).map D.int)), some (.ref 4), o13, o14]) (S' := S2) hloop ?_
  refine seq_nx (env' := [some (.ref 0), some (.int h), some (.int f), some (.int one), some (.int other), some (.ref 3), some (.tup (pr.1.map enc)), some (.tup (pr.2.map enc)), some (enc sa), some (enc sb), some (.tup ((tb h f [sa, sb]).map D.int)), some (.tup ((tb h f [sb, sa]).map D.int)), some (.ref 4), o13, o14]) (S' := S3) (by simp [eq_tints, hS3, eqL, hti]) ?_
  have hfd := firstD_due h f sa sb
  cases hdue : due h f sa sb (2 * h).toNat with
  | nil =>
    rw [hdue] at hfd neL
    simp [T6, hfd, neL]
  | cons i r =>
    rw [hdue] at hfd neL y44
    simp [T6, hfd, neL, y44]
end K85
set_option Elab.async false
set_option linter.all false
set_option maxRecDepth 100000
set_option maxHeartbeats 4000000
/-! the law -/
namespace K85
open Pe
open L2 (atI ixN)
theorem big_pos : 0 < big := by decide
theorem fits_big {i : Int} (h0 : 0 ≤ i) (h1 : i < big) : fits i = true :=
  fits_of (b := 1000000000000000000000000000000000000000000000000000000000000 ^ 5) (by decide) (by omega) h1
theorem s_pot (k : Nat) (ns : List Int) (pl : Int) (S : Store) (p0 : 0 ≤ pl) (p1 : pl ≤ 1) : ∃ xs, callN T KF (k + 1) 27 [.scr (ns.map D.int), .int pl] S = some (.ref S.length, S ++ [.lst xs]) ∧ Pot 0 (.lst xs) := by
  obtain ⟨cell, hc⟩ : ∃ cell : Int, eIf (tOfE (eBin oLt (eVar 1) (eFun nLen (aCons (eVar 0) aNil)))) (eBin oIx (eVar 0) (eVar 1)) (eBin oAdd (eBin oMul (eC (.int 463)) (eVar 1)) (eC (.int 167))) (ecN T KF k) [some (.scr (ns.map D.int)), some (.int pl), none, none, none] [] = some (.int cell, []) := by
    by_cases hl : pl < (ns.length : Int)
    · refine ⟨ns[pl.toNat]'(by omega), ?_⟩
      have ha : atI (ns.map D.int) pl = some (.int (ns[pl.toNat]'(by omega))) := by
        rw [at_nat p0 (by rw [List.length_map]; exact hl), List.getElem?_map, List.getElem?_eq_getElem (by omega)]
        rfl
      simp [hl, ha]
    · have fm := fun S => mul_int (i := 463) (j := pl) (S := S) (by decide) (fit_small (by omega) (by omega))
      exact ⟨463 * pl + 167, by simp [hl, fm]⟩
  have g1 : ∀ S, oPow (.int 10) (.int 60) S = some (.int 1000000000000000000000000000000000000000000000000000000000000, S) := fun S => by
    have : fits 10 = true := by decide
    simp [oPow, oI, this]
  have g2 : ∀ S, oPow (.int 1000000000000000000000000000000000000000000000000000000000000) (.int 5) S = some (.int big, S) := fun S => by
    have : fits 1000000000000000000000000000000000000000000000000000000000000 = true := by decide
    show (if (decide ((0 : Int) ≤ 5) && (decide ((5 : Int) ≤ 1000) && fits 1000000000000000000000000000000000000000000000000000000000000)) = true then some (D.int (1000000000000000000000000000000000000000000000000000000000000 ^ (5 : Int).toNat), S) else none) = _
    rw [this]
    rfl
  have g3 : ∀ S, oPow (.int 10) (.int 18) S = some (.int 1000000000000000000, S) := fun S => by
    have : fits 10 = true := by decide
    simp [oPow, oI, this]
  obtain ⟨ac, hac⟩ : ∃ ac : Int, ac = if cell < 0 then -cell else cell := ⟨_, rfl⟩
  have q0 : 0 ≤ ac % big := Int.emod_nonneg _ (by have := big_pos; omega)
  have q1 : ac % big < big := Int.emod_lt_of_pos _ big_pos
  have g4 := fun S => mod_int (i := ac) (j := big) (S := S) big_pos
  have g5 : ∀ (b : Bool) S, oMul (.int (ac % big)) (.int (if b = true then 1 else 0)) S = some (.int (ac % big * (if b = true then 1 else 0)), S) := fun b S => mul_int (fits_big q0 q1) (by cases b <;> decide)
  have s0 : 0 ≤ cell % 2305843009213693951 := Int.emod_nonneg _ (by decide)
  have s1 : cell % 2305843009213693951 < 2305843009213693951 := Int.emod_lt_of_pos _ (by decide)
  have g6 := fun S => mod_int (i := cell) (j := 2305843009213693951) (S := S) (by decide)
  have g7 := fun S => mul_int (i := cell % 2305843009213693951) (j := 97213) (S := S) (fit_small (by omega) (by omega)) (by decide)
  have g8 := fun S => mul_int (i := 9157) (j := pl) (S := S) (by decide) (fit_small (by omega) (by omega))
  have g9 := fun S => mul_int (i := 9157 * pl) (j := pl) (S := S) (fit_small (by omega) (by omega)) (fit_small (by omega) (by omega))
  have g10 := fun i S => mod_int (i := i) (j := 2305843009213693921) (S := S) (by decide)
  refine ⟨[.int (ac % big * (if decide (1000000000000000000 ≤ ac) = true then 1 else 0)), .int ((cell % 2305843009213693951 * 97213 + 9157 * pl * pl + 281) % 2305843009213693921), .int 0], call_list (fl := .rt (.ref 0)) (j := 0) (S' := [.lst [.int (ac % big * (if decide (1000000000000000000 ≤ ac) = true then 1 else 0)), .int ((cell % 2305843009213693951 * 97213 + 9157 * pl * pl + 281) % 2305843009213693921), .int 0]]) rfl rfl (by simp [freeL, D.free, free_ints]) ?_ rfl rfl rfl, ?_⟩
  · refine seq_nx (env' := [some (.scr (ns.map D.int)), some (.int pl), some (.int cell), none, none]) (S' := []) (by
      rw [u_asg]
      show Option.bind (eIf _ _ _ (ecN T KF k) [some (.scr (ns.map D.int)), some (.int pl), none, none, none] []) _ = _
      rw [hc]
      rfl) ?_
    refine seq_nx (env' := [some (.scr (ns.map D.int)), some (.int pl), some (.int cell), some (.int (ac % big * (if decide (1000000000000000000 ≤ ac) = true then 1 else 0))), none]) (S' := []) (by
      simp only [u_asg, u_bin, u_fun, u_acons, u_var, u_c, u_anil, u_nm, List.getElem?_cons_zero, List.getElem?_cons_succ, Option.bind_some, Option.map_some, abs_int, int_int, int_bl, ← hac, g1, g2, g3, g4, g5, ge_int', List.set_cons_succ, List.set_cons_zero]) ?_
    refine seq_nx (env' := [some (.scr (ns.map D.int)), some (.int pl), some (.int cell), some (.int (ac % big * (if decide (1000000000000000000 ≤ ac) = true then 1 else 0))), some (.int (cell % 2305843009213693951))]) (S' := []) (by simp [g6]) ?_
    simp [g7, g8, g9, g10]
  · refine ⟨_, _, _, rfl, ?_, ?_, Int.emod_nonneg _ (by decide), Int.emod_lt_of_pos _ (by decide), by decide, by decide⟩
    · split <;> omega
    · have := big_pos
      split <;> omega
theorem s_cells (k : Nat) (ns : List Int) (S : Store) : callN T KF (k + 1) 30 [.scr (ns.map D.int), .int 2] S = some (.ref S.length, S ++ [.lst (if 2 ≤ ns.length then [.int 0, .int 1] else [.int 0])]) := by
  have e1 : rngItems 0 1 1 = [.int 0] := rfl
  have e2 : rngItems 0 1 2 = [.int 0, .int 1] := rfl
  have r1 : inR 1 = true := by decide
  have r2 : inR 2 = true := by decide
  by_cases hl : 2 ≤ ns.length
  · rw [if_pos hl]
    refine call_list (fl := .rt (.ref 0)) (j := 0) (S' := [.lst [.int 0, .int 1]]) rfl rfl (by simp [freeL, D.free, free_ints]) ?_ rfl rfl rfl
    have h1 : ¬ ((ns.length : Int) < 2) := by omega
    simp [x__law_cells, h1, r2, e2]
  · rw [if_neg hl]
    refine call_list (fl := .rt (.ref 0)) (j := 0) (S' := [.lst [.int 0]]) rfl rfl (by simp [freeL, D.free, free_ints]) ?_ rfl rfl rfl
    have h1 : (ns.length : Int) < 2 := by omega
    have h2 : ¬ ((ns.length : Int) > 1) := by omega
    simp [x__law_cells, h1, h2, r1, e1]
theorem law_lap1 (k : Nat) (ns : List Int) (pl : Int) (x0 : D) (o2 : Option D) (p0 : 0 ≤ pl) (p1 : pl ≤ 1) : ∃ S', S'.length = 3 ∧ S'[0]? = some x0 ∧
    sSeq (sAsg (eCall 27 (aCons (eVar 0) (aCons (eVar 1) aNil))) (gNm 2)) (sIf (tNotD (tOfE (eFun (nAll true) (aCons (eLc (iRange1 (aCons (eC (.int 2)) aNil)) [3] (gNm 3) tYesX (eCall 37 (aCons (eVar 2) aNil))) aNil)))) (sRet (eC (.bl false))) sNext)
      (ecN T KF (k + 8)) [some (.scr (ns.map D.int)), some (.int pl), o2, none] [x0] = some (.nx [some (.scr (ns.map D.int)), some (.int pl), some (.ref 1), none], S') := by
  obtain ⟨xs, a1, a2⟩ := s_pot (k + 7) ns pl [x0] p0 p1
  obtain ⟨q1, b1, b2⟩ := s_right k 1 0 (.lst xs) [x0, .lst xs, .lst []] rfl a2 (by decide)
  obtain ⟨q2, c1, c2⟩ := s_right k 1 1000 q1 [x0, q1, .lst [.bl true]] rfl (by simpa using b2) (by decide)
  have r2 : inR 2 = true := by decide
  have e2 : rngItems 0 1 2 = [.int 0, .int 1] := rfl
  have hal := nAll_true (n := 2) (S := [x0, q2, .lst [.bl true, .bl true]]) (xs := [.bl true, .bl true]) rfl (by simp)
  have b1' : callN T KF (k + 8) 37 [.ref 1] [x0, .lst xs, .lst []] = some (.bl true, [x0, q1, .lst []]) := b1
  have c1' : callN T KF (k + 8) 37 [.ref 1] [x0, q1, .lst [.bl true]] = some (.bl true, [x0, q2, .lst [.bl true]]) := c1
  have a1' : callN T KF (k + 8) 27 [.scr (ns.map D.int), .int pl] [x0] = some (.ref 1, [x0, .lst xs]) := a1
  refine ⟨[x0, q2, .lst [.bl true, .bl true]], rfl, rfl, ?_⟩
  refine seq_nx (env' := [some (.scr (ns.map D.int)), some (.int pl), some (.ref 1), none]) (S' := [x0, .lst xs]) (by simp [a1']) ?_
  simp [eLc, r2, e2, lcLoop, watchOk, cellAdd, b1', c1', hal]
theorem law_lap2 (k : Nat) (ns : List Int) (pl : Int) (x0 x1 x2 : D) (o2 : Option D) (p0 : 0 ≤ pl) (p1 : pl ≤ 1) : ∃ S', S'[0]? = some x0 ∧
    sSeq (sAsg (eCall 27 (aCons (eVar 0) (aCons (eVar 1) aNil))) (gNm 2)) (sIf (tNotD (tOfE (eFun (nAll true) (aCons (eLc (iRange1 (aCons (eC (.int 2)) aNil)) [3] (gNm 3) tYesX (eCall 37 (aCons (eVar 2) aNil))) aNil)))) (sRet (eC (.bl false))) sNext)
      (ecN T KF (k + 8)) [some (.scr (ns.map D.int)), some (.int pl), o2, none] [x0, x1, x2] = some (.nx [some (.scr (ns.map D.int)), some (.int pl), some (.ref 3), none], S') := by
  obtain ⟨xs, a1, a2⟩ := s_pot (k + 7) ns pl [x0, x1, x2] p0 p1
  obtain ⟨q1, b1, b2⟩ := s_right k 3 0 (.lst xs) [x0, x1, x2, .lst xs, .lst []] rfl a2 (by decide)
  obtain ⟨q2, c1, c2⟩ := s_right k 3 1000 q1 [x0, x1, x2, q1, .lst [.bl true]] rfl (by simpa using b2) (by decide)
  have r2 : inR 2 = true := by decide
  have e2 : rngItems 0 1 2 = [.int 0, .int 1] := rfl
  have hal := nAll_true (n := 4) (S := [x0, x1, x2, q2, .lst [.bl true, .bl true]]) (xs := [.bl true, .bl true]) rfl (by simp)
  have b1' : callN T KF (k + 8) 37 [.ref 3] [x0, x1, x2, .lst xs, .lst []] = some (.bl true, [x0, x1, x2, q1, .lst []]) := b1
  have c1' : callN T KF (k + 8) 37 [.ref 3] [x0, x1, x2, q1, .lst [.bl true]] = some (.bl true, [x0, x1, x2, q2, .lst [.bl true]]) := c1
  have a1' : callN T KF (k + 8) 27 [.scr (ns.map D.int), .int pl] [x0, x1, x2] = some (.ref 3, [x0, x1, x2, .lst xs]) := a1
  refine ⟨[x0, x1, x2, q2, .lst [.bl true, .bl true]], rfl, ?_⟩
  refine seq_nx (env' := [some (.scr (ns.map D.int)), some (.int pl), some (.ref 3), none]) (S' := [x0, x1, x2, .lst xs]) (by simp [a1']) ?_
  simp [eLc, r2, e2, lcLoop, watchOk, cellAdd, b1', c1', hal]
theorem s_law (k : Nat) (ns : List Int) (S : Store) : callN T KF (k + 9) 38 [.scr (ns.map D.int)] S = some (.bl true, S) := by
  have hc := s_cells (k + 7) ns []
  by_cases hl : 2 ≤ ns.length
  · rw [if_pos hl] at hc
    have hc' : callN T KF (k + 8) 30 [.scr (ns.map D.int), .int 2] [] = some (.ref 0, [.lst [.int 0, .int 1]]) := hc
    obtain ⟨S1, a1, a2, a3⟩ := law_lap1 k ns 0 (.lst [.int 0, .int 1]) none (by decide) (by decide)
    obtain ⟨y0, y1, y2, rfl⟩ : ∃ y0 y1 y2, S1 = [y0, y1, y2] := by
      match S1, a1 with
      | [y0, y1, y2], _ => exact ⟨_, _, _, rfl⟩
    have e0 : y0 = .lst [.int 0, .int 1] := by simpa using a2
    subst e0
    obtain ⟨S2, b1, b2⟩ := law_lap2 k ns 1 (.lst [.int 0, .int 1]) y1 y2 (some (.ref 1)) (by decide) (by decide)
    refine call_pure (fl := .rt (.bl true)) (S' := S2) rfl rfl (by simp [freeL, D.free, free_ints]) ?_ rfl rfl
    refine seq_nx (env' := [some (.scr (ns.map D.int)), some (.int 1), some (.ref 3), none]) (S' := S2) ?_ (by simp)
    have hq := r_seq (n := 0) (xs := [.int 0, .int 1]) (S := [.lst [.int 0, .int 1]]) rfl
    have w1 : watchOk [(0, D.lst [.int 0, .int 1])] [D.lst [.int 0, .int 1]] = true := by simp [watchOk, D.same_refl]
    have w2 : watchOk [(0, D.lst [.int 0, .int 1])] [D.lst [.int 0, .int 1], y1, y2] = true := by simp [watchOk, D.same_refl]
    have w3 : watchOk [(0, D.lst [.int 0, .int 1])] S2 = true := by simp [watchOk, b1, D.same_refl]
    simp only [u_for, u_iseq, u_call, u_acons, u_var, u_c, u_anil, startE_eq, List.map_cons, List.map_nil, List.cons_append, List.nil_append, List.length_cons, List.length_nil, Nat.reduceSub, Nat.reduceAdd, List.replicate_succ, List.replicate_zero, List.getElem?_cons_zero, List.getElem?_cons_succ, Option.bind_some, Option.map_some, ec_call, hc', hq]
    simp only [forLoop, w1, w2, w3, if_true, u_nm, Option.bind_some, List.set_cons_succ, List.set_cons_zero, a3, b2]
  · rw [if_neg hl] at hc
    have hc' : callN T KF (k + 8) 30 [.scr (ns.map D.int), .int 2] [] = some (.ref 0, [.lst [.int 0]]) := hc
    obtain ⟨S1, a1, a2, a3⟩ := law_lap1 k ns 0 (.lst [.int 0]) none (by decide) (by decide)
    refine call_pure (fl := .rt (.bl true)) (S' := S1) rfl rfl (by simp [freeL, D.free, free_ints]) ?_ rfl rfl
    refine seq_nx (env' := [some (.scr (ns.map D.int)), some (.int 0), some (.ref 1), none]) (S' := S1) ?_ (by simp)
    have hq := r_seq (n := 0) (xs := [.int 0]) (S := [.lst [.int 0]]) rfl
    have w1 : watchOk [(0, D.lst [.int 0])] [D.lst [.int 0]] = true := by simp [watchOk, D.same_refl]
    have w2 : watchOk [(0, D.lst [.int 0])] S1 = true := by simp [watchOk, a2, D.same_refl]
    simp only [u_for, u_iseq, u_call, u_acons, u_var, u_c, u_anil, startE_eq, List.map_cons, List.map_nil, List.cons_append, List.nil_append, List.length_cons, List.length_nil, Nat.reduceSub, Nat.reduceAdd, List.replicate_succ, List.replicate_zero, List.getElem?_cons_zero, List.getElem?_cons_succ, Option.bind_some, Option.map_some, ec_call, hc', hq]
    simp only [forLoop, w1, w2, if_true, u_nm, Option.bind_some, List.set_cons_succ, List.set_cons_zero, a3]
end K85
set_option Elab.async false
set_option linter.all false
set_option maxRecDepth 100000
set_option maxHeartbeats 0

/-! the head (printed by gen.py) -/
namespace K85
open PySem PySem.Spec PyProof.Rows L2 Pe

def fn0 : List He.DefD := [⟨("is_whole", none), "is_whole", "is_whole", defArgs (top 9), defBody (top 9), defScope (top 9), [], []⟩, ⟨("is_between", none), "is_between", "is_between", defArgs (top 10), defBody (top 10), defScope (top 10), [], []⟩, ⟨("is_from", none), "is_from", "is_from", defArgs (top 11), defBody (top 11), defScope (top 11), [], []⟩, ⟨("is_times", none), "is_times", "is_times", defArgs (top 12), defBody (top 12), defScope (top 12), [], []⟩, ⟨("check_page", none), "check_page", "check_page", defArgs (top 23), defBody (top 23), defScope (top 23), [], []⟩, ⟨("check_lines", none), "check_lines", "check_lines", defArgs (top 24), defBody (top 24), defScope (top 24), [], []⟩, ⟨("is_step", none), "is_step", "is_step", defArgs (top 25), defBody (top 25), defScope (top 25), [], []⟩, ⟨("page_end", none), "page_end", "page_end", defArgs (top 26), defBody (top 26), defScope (top 26), [], []⟩, ⟨("kept_begin", none), "kept_begin", "kept_begin", defArgs (top 27), defBody (top 27), defScope (top 27), [], []⟩, ⟨("behind_tables", none), "behind_tables", "behind_tables", defArgs (top 28), defBody (top 28), defScope (top 28), [], []⟩, ⟨("right_begin", none), "right_begin", "right_begin", defArgs (top 29), defBody (top 29), defScope (top 29), [], []⟩, ⟨("done", none), "done", "done", defArgs (top 30), defBody (top 30), defScope (top 30), [], []⟩, ⟨("stepped_by", none), "stepped_by", "stepped_by", defArgs (top 31), defBody (top 31), defScope (top 31), [], []⟩, ⟨("check_steps", none), "check_steps", "check_steps", defArgs (top 33), defBody (top 33), defScope (top 33), [], []⟩, ⟨("led", none), "led", "led", defArgs (top 34), defBody (top 34), defScope (top 34), [], []⟩, ⟨("table_by", none), "table_by", "table_by", defArgs (top 35), defBody (top 35), defScope (top 35), [], []⟩, ⟨("table_of", none), "table_of", "table_of", defArgs (top 36), defBody (top 36), defScope (top 36), [], []⟩, ⟨("is_right_table", none), "is_right_table", "is_right_table", defArgs (top 37), defBody (top 37), defScope (top 37), [], []⟩, ⟨("check_height", none), "check_height", "check_height", defArgs (top 38), defBody (top 38), defScope (top 38), [], []⟩, ⟨("check_table", none), "check_table", "check_table", defArgs (top 39), defBody (top 39), defScope (top 39), [], []⟩, ⟨("is_table", none), "is_table", "is_table", defArgs (top 40), defBody (top 40), defScope (top 40), [], []⟩, ⟨("applied", none), "applied", "applied", defArgs (top 41), defBody (top 41), defScope (top 41), [], []⟩, ⟨("by_table", none), "by_table", "by_table", defArgs (top 42), defBody (top 42), defScope (top 42), [], []⟩, ⟨("behind", none), "behind", "behind", defArgs (top 43), defBody (top 43), defScope (top 43), [], []⟩, ⟨("then", none), "then", "then", defArgs (top 44), defBody (top 44), defScope (top 44), [], []⟩, ⟨("first_unlike_x", none), "first_unlike_x", "first_unlike_x", defArgs (top 45), defBody (top 45), defScope (top 45), [], []⟩, ⟨("first_later_x", none), "first_later_x", "first_later_x", defArgs (top 46), defBody (top 46), defScope (top 46), [], []⟩, ⟨("_law_pot", none), "_law_pot", "_law_pot", defArgs (top 48), defBody (top 48), defScope (top 48), [], []⟩, ⟨("_law_take", none), "_law_take", "_law_take", defArgs (top 49), defBody (top 49), defScope (top 49), [], []⟩, ⟨("_law_of", none), "_law_of", "_law_of", defArgs (top 50), defBody (top 50), defScope (top 50), [], []⟩]
def fn1 : List He.DefD := [⟨("_law_cells", none), "_law_cells", "_law_cells", defArgs (top 51), defBody (top 51), defScope (top 51), [], []⟩, ⟨("_law_step", none), "_law_step", "_law_step", defArgs (top 52), defBody (top 52), defScope (top 52), [], []⟩, ⟨("_law_up", none), "_law_up", "_law_up", defArgs (top 53), defBody (top 53), defScope (top 53), [], []⟩, ⟨("_law_stepped", none), "_law_stepped", "_law_stepped", defArgs (top 54), defBody (top 54), defScope (top 54), [], []⟩, ⟨("_law_pairs", none), "_law_pairs", "_law_pairs", defArgs (top 55), defBody (top 55), defScope (top 55), [], []⟩, ⟨("_law_led", none), "_law_led", "_law_led", defArgs (top 56), defBody (top 56), defScope (top 56), [], []⟩, ⟨("_law_is_pair_right", none), "_law_is_pair_right", "_law_is_pair_right", defArgs (top 57), defBody (top 57), defScope (top 57), [], []⟩, ⟨("_law_right", none), "_law_right", "_law_right", defArgs (top 58), defBody (top 58), defScope (top 58), [], []⟩, ⟨("law", none), "law", "law", defArgs (top 59), defBody (top 59), defScope (top 59), [], []⟩]
def fn : List He.DefD := fn0 ++ fn1
def fa0 : List He.Fa := [.glo "is_whole", .glo "is_between", .glo "is_from", .glo "is_times", .glo "check_page", .glo "check_lines", .glo "is_step", .glo "page_end", .glo "kept_begin", .glo "behind_tables", .glo "right_begin", .glo "done", .glo "stepped_by", .glo "check_steps", .glo "led", .glo "table_by", .glo "table_of", .glo "is_right_table", .glo "check_height", .glo "check_table", .glo "is_table", .glo "applied", .glo "by_table", .glo "behind", .glo "then", .glo "first_unlike_x", .glo "first_later_x", .glo "_law_pot", .glo "_law_take", .glo "_law_of"]
def fa1 : List He.Fa := [.glo "_law_cells", .glo "_law_step", .glo "_law_up", .glo "_law_stepped", .glo "_law_pairs", .glo "_law_led", .glo "_law_is_pair_right", .glo "_law_right", .glo "law", .free "abs", .free "all", .free "bool", .free "enumerate", .free "int", .free "isinstance", .free "len", .free "list", .free "max", .free "min", .free "range", .free "str", .free "tuple", .free "zip", .str "GAP" "gap", .str "KEPT" "kept", .str "LINES" "lines", .int "MOST_FIRST" 999999, .int "MOST_HEIGHT" 60, .int "MOST_TIMES" 1000000000000000000000000000000, .str "PAGE" "page"]
def fa2 : List He.Fa := [.str "PLATES" "plates", .str "RIGHT" "right", .str "TABLES" "tables"]
def fa : List He.Fa := fa0 ++ fa1 ++ fa2
def loose0 : List Str := [("PageError" : Str), ("BadLines" : Str), ("BadHeight" : Str), ("BadFirst" : Str), ("BadSteps" : Str), ("BadTable" : Str), ("MOST_TIMES" : Str), ("is_whole" : Str), ("is_between" : Str), ("is_from" : Str), ("is_times" : Str), ("LINES" : Str), ("KEPT" : Str), ("GAP" : Str), ("PAGE" : Str), ("RIGHT" : Str), ("PLATES" : Str), ("TABLES" : Str), ("MOST_HEIGHT" : Str), ("MOST_FIRST" : Str), ("check_page" : Str), ("check_lines" : Str), ("is_step" : Str), ("page_end" : Str), ("kept_begin" : Str), ("behind_tables" : Str), ("right_begin" : Str), ("done" : Str), ("stepped_by" : Str), ("check_steps" : Str)]
def loose1 : List Str := [("led" : Str), ("table_by" : Str), ("table_of" : Str), ("is_right_table" : Str), ("check_height" : Str), ("check_table" : Str), ("is_table" : Str), ("applied" : Str), ("by_table" : Str), ("behind" : Str), ("then" : Str), ("first_unlike_x" : Str), ("first_later_x" : Str), ("_law_pot" : Str), ("_law_take" : Str), ("_law_of" : Str), ("_law_cells" : Str), ("_law_step" : Str), ("_law_up" : Str), ("_law_stepped" : Str), ("_law_pairs" : Str), ("_law_led" : Str), ("_law_is_pair_right" : Str), ("_law_right" : Str)]
def loose : List Str := loose0 ++ loose1
abbrev R : PySem.W.OpenRow := PySem.W.OpenLaw.row PySem.Challenge.rw_seepage_k85_whole_rows_that_swallow_othe
abbrev hk : PySem.W.Hook := He.hookD 4 fa fn
def ob (s : PySem.W.SharedT) : He.AlD := He.obsDG 4 fa fn (HandSHeadRun.getT s)
theorem ob_eq (s : PySem.W.SharedT) : ob s = hk.obs s.abs := He.obsDG_eq (HandSHeadRun.getT_eq s)
theorem run (w : World) : HandSHeadRun.RunEq R (PySem.W.view R.prog [59]) hk ob 4000 loose w := by
  intro os
  kernel_rfl
def gm (K : PySem.W.Frag) : Gm := ⟨K, fun _ => 0, fun i => He.ga K (names.getD i ""), fun _ => ""⟩
section
variable {P : Program} {w : World} {K : PySem.W.Frag} {mg : Str → Option Value} {base h : Heap}
theorem never {f : Nat} {fd : FuncData} {ps : List Str} : FnOk P w K mg base CX0 0 ((gm K).fn f) fd ps (spC (gm K) (ecN T KF 0) f) :=
  ⟨(fun vs H Q E h => by obtain ⟨_, _, _, _, _, _, _, z, _⟩ := h; cases z), (fun A outer s H args us vs Q E _ _ _ _ h => by obtain ⟨_, _, _, _, _, _, _, z, _⟩ := h; cases z)⟩
theorem b_is_whole {fd : FuncData} (F : FunD K "is_whole" "is_whole" (defArgs (top 9)) (defBody (top 9)) (defScope (top 9)) [] [] ((gm K).fn 0) fd) : Binds K fd ["value"] [] := F.bindsN fun _ _ _ _ _ _ us hl => match us, hl with | [_], _ => rfl
theorem b_is_between {fd : FuncData} (F : FunD K "is_between" "is_between" (defArgs (top 10)) (defBody (top 10)) (defScope (top 10)) [] [] ((gm K).fn 1) fd) : Binds K fd ["value", "low", "high"] [] := F.bindsN fun _ _ _ _ _ _ us hl => match us, hl with | [_, _, _], _ => rfl
theorem b_is_from {fd : FuncData} (F : FunD K "is_from" "is_from" (defArgs (top 11)) (defBody (top 11)) (defScope (top 11)) [] [] ((gm K).fn 2) fd) : Binds K fd ["value", "low"] [] := F.bindsN fun _ _ _ _ _ _ us hl => match us, hl with | [_, _], _ => rfl
theorem b_is_times {fd : FuncData} (F : FunD K "is_times" "is_times" (defArgs (top 12)) (defBody (top 12)) (defScope (top 12)) [] [] ((gm K).fn 3) fd) : Binds K fd ["value"] [] := F.bindsN fun _ _ _ _ _ _ us hl => match us, hl with | [_], _ => rfl
theorem b_check_page {fd : FuncData} (F : FunD K "check_page" "check_page" (defArgs (top 23)) (defBody (top 23)) (defScope (top 23)) [] [] ((gm K).fn 4) fd) : Binds K fd ["height", "first"] [] := F.bindsN fun _ _ _ _ _ _ us hl => match us, hl with | [_, _], _ => rfl
theorem b_check_lines {fd : FuncData} (F : FunD K "check_lines" "check_lines" (defArgs (top 24)) (defBody (top 24)) (defScope (top 24)) [] [] ((gm K).fn 5) fd) : Binds K fd ["lines"] [] := F.bindsN fun _ _ _ _ _ _ us hl => match us, hl with | [_], _ => rfl
theorem b_is_step {fd : FuncData} (F : FunD K "is_step" "is_step" (defArgs (top 25)) (defBody (top 25)) (defScope (top 25)) [] [] ((gm K).fn 6) fd) : Binds K fd ["height", "value"] [] := F.bindsN fun _ _ _ _ _ _ us hl => match us, hl with | [_, _], _ => rfl
theorem b_page_end {fd : FuncData} (F : FunD K "page_end" "page_end" (defArgs (top 26)) (defBody (top 26)) (defScope (top 26)) [] [] ((gm K).fn 7) fd) : Binds K fd ["height", "lines"] [] := F.bindsN fun _ _ _ _ _ _ us hl => match us, hl with | [_, _], _ => rfl
theorem b_kept_begin {fd : FuncData} (F : FunD K "kept_begin" "kept_begin" (defArgs (top 27)) (defBody (top 27)) (defScope (top 27)) [] [] ((gm K).fn 8) fd) : Binds K fd ["height", "lines", "many"] [] := F.bindsN fun _ _ _ _ _ _ us hl => match us, hl with | [_, _, _], _ => rfl
theorem b_behind_tables {fd : FuncData} (F : FunD K "behind_tables" "behind_tables" (defArgs (top 28)) (defBody (top 28)) (defScope (top 28)) [] [] ((gm K).fn 9) fd) : Binds K fd ["height", "lines", "many", "each"] [] := F.bindsN fun _ _ _ _ _ _ us hl => match us, hl with | [_, _, _, _], _ => rfl
theorem b_right_begin {fd : FuncData} (F : FunD K "right_begin" "right_begin" (defArgs (top 29)) (defBody (top 29)) (defScope (top 29)) [] [] ((gm K).fn 10) fd) : Binds K fd ["height", "first", "lines"] [] := F.bindsN fun _ _ _ _ _ _ us hl => match us, hl with | [_, _, _], _ => rfl
theorem b_done {fd : FuncData} (F : FunD K "done" "done" (defArgs (top 30)) (defBody (top 30)) (defScope (top 30)) [] [] ((gm K).fn 11) fd) : Binds K fd ["height", "first", "lines", "step"] [] := F.bindsN fun _ _ _ _ _ _ us hl => match us, hl with | [_, _, _, _], _ => rfl
theorem b_stepped_by {fd : FuncData} (F : FunD K "stepped_by" "stepped_by" (defArgs (top 31)) (defBody (top 31)) (defScope (top 31)) [] [] ((gm K).fn 12) fd) : Binds K fd ["height", "first", "x", "steps"] [] := F.bindsN fun _ _ _ _ _ _ us hl => match us, hl with | [_, _, _, _], _ => rfl
theorem b_check_steps {fd : FuncData} (F : FunD K "check_steps" "check_steps" (defArgs (top 33)) (defBody (top 33)) (defScope (top 33)) [] [] ((gm K).fn 13) fd) : Binds K fd ["height", "steps"] [] := F.bindsN fun _ _ _ _ _ _ us hl => match us, hl with | [_, _], _ => rfl
theorem b_led {fd : FuncData} (F : FunD K "led" "led" (defArgs (top 34)) (defBody (top 34)) (defScope (top 34)) [] [] ((gm K).fn 14) fd) : Binds K fd ["height", "first", "steps", "lines"] [] := F.bindsN fun _ _ _ _ _ _ us hl => match us, hl with | [_, _, _, _], _ => rfl
theorem b_table_by {fd : FuncData} (F : FunD K "table_by" "table_by" (defArgs (top 35)) (defBody (top 35)) (defScope (top 35)) [] [] ((gm K).fn 15) fd) : Binds K fd ["height", "first", "steps"] [] := F.bindsN fun _ _ _ _ _ _ us hl => match us, hl with | [_, _, _], _ => rfl
theorem b_table_of {fd : FuncData} (F : FunD K "table_of" "table_of" (defArgs (top 36)) (defBody (top 36)) (defScope (top 36)) [] [] ((gm K).fn 16) fd) : Binds K fd ["height", "first", "steps"] [] := F.bindsN fun _ _ _ _ _ _ us hl => match us, hl with | [_, _, _], _ => rfl
theorem b_is_right_table {fd : FuncData} (F : FunD K "is_right_table" "is_right_table" (defArgs (top 37)) (defBody (top 37)) (defScope (top 37)) [] [] ((gm K).fn 17) fd) : Binds K fd ["height", "value"] [] := F.bindsN fun _ _ _ _ _ _ us hl => match us, hl with | [_, _], _ => rfl
theorem b_check_height {fd : FuncData} (F : FunD K "check_height" "check_height" (defArgs (top 38)) (defBody (top 38)) (defScope (top 38)) [] [] ((gm K).fn 18) fd) : Binds K fd ["height"] [] := F.bindsN fun _ _ _ _ _ _ us hl => match us, hl with | [_], _ => rfl
theorem b_check_table {fd : FuncData} (F : FunD K "check_table" "check_table" (defArgs (top 39)) (defBody (top 39)) (defScope (top 39)) [] [] ((gm K).fn 19) fd) : Binds K fd ["height", "value"] [] := F.bindsN fun _ _ _ _ _ _ us hl => match us, hl with | [_, _], _ => rfl
theorem b_is_table {fd : FuncData} (F : FunD K "is_table" "is_table" (defArgs (top 40)) (defBody (top 40)) (defScope (top 40)) [] [] ((gm K).fn 20) fd) : Binds K fd ["height", "value"] [] := F.bindsN fun _ _ _ _ _ _ us hl => match us, hl with | [_, _], _ => rfl
theorem b_applied {fd : FuncData} (F : FunD K "applied" "applied" (defArgs (top 41)) (defBody (top 41)) (defScope (top 41)) [] [] ((gm K).fn 21) fd) : Binds K fd ["height", "table", "lines"] [] := F.bindsN fun _ _ _ _ _ _ us hl => match us, hl with | [_, _, _], _ => rfl
theorem b_by_table {fd : FuncData} (F : FunD K "by_table" "by_table" (defArgs (top 42)) (defBody (top 42)) (defScope (top 42)) [] [] ((gm K).fn 22) fd) : Binds K fd ["height", "table", "x"] [] := F.bindsN fun _ _ _ _ _ _ us hl => match us, hl with | [_, _, _], _ => rfl
theorem b_behind {fd : FuncData} (F : FunD K "behind" "behind" (defArgs (top 43)) (defBody (top 43)) (defScope (top 43)) [] [] ((gm K).fn 23) fd) : Binds K fd ["height", "one", "other"] [] := F.bindsN fun _ _ _ _ _ _ us hl => match us, hl with | [_, _, _], _ => rfl
theorem b_then {fd : FuncData} (F : FunD K "then" "then" (defArgs (top 44)) (defBody (top 44)) (defScope (top 44)) [] [] ((gm K).fn 24) fd) : Binds K fd ["height", "one", "other"] [] := F.bindsN fun _ _ _ _ _ _ us hl => match us, hl with | [_, _, _], _ => rfl
theorem b_first_unlike_x {fd : FuncData} (F : FunD K "first_unlike_x" "first_unlike_x" (defArgs (top 45)) (defBody (top 45)) (defScope (top 45)) [] [] ((gm K).fn 25) fd) : Binds K fd ["height", "first", "steps", "others"] [] := F.bindsN fun _ _ _ _ _ _ us hl => match us, hl with | [_, _, _, _], _ => rfl
theorem b_first_later_x {fd : FuncData} (F : FunD K "first_later_x" "first_later_x" (defArgs (top 46)) (defBody (top 46)) (defScope (top 46)) [] [] ((gm K).fn 26) fd) : Binds K fd ["height", "first", "steps", "others"] [] := F.bindsN fun _ _ _ _ _ _ us hl => match us, hl with | [_, _, _, _], _ => rfl
theorem b__law_pot {fd : FuncData} (F : FunD K "_law_pot" "_law_pot" (defArgs (top 48)) (defBody (top 48)) (defScope (top 48)) [] [] ((gm K).fn 27) fd) : Binds K fd ["script", "place"] [] := F.bindsN fun _ _ _ _ _ _ us hl => match us, hl with | [_, _], _ => rfl
theorem b__law_take {fd : FuncData} (F : FunD K "_law_take" "_law_take" (defArgs (top 49)) (defBody (top 49)) (defScope (top 49)) [] [] ((gm K).fn 28) fd) : Binds K fd ["pot", "upto"] [] := F.bindsN fun _ _ _ _ _ _ us hl => match us, hl with | [_, _], _ => rfl
theorem b__law_of {fd : FuncData} (F : FunD K "_law_of" "_law_of" (defArgs (top 50)) (defBody (top 50)) (defScope (top 50)) [] [] ((gm K).fn 29) fd) : Binds K fd ["pot", "some"] [] := F.bindsN fun _ _ _ _ _ _ us hl => match us, hl with | [_, _], _ => rfl
theorem b__law_cells {fd : FuncData} (F : FunD K "_law_cells" "_law_cells" (defArgs (top 51)) (defBody (top 51)) (defScope (top 51)) [] [] ((gm K).fn 30) fd) : Binds K fd ["script", "upto"] [] := F.bindsN fun _ _ _ _ _ _ us hl => match us, hl with | [_, _], _ => rfl
theorem b__law_step {fd : FuncData} (F : FunD K "_law_step" "_law_step" (defArgs (top 52)) (defBody (top 52)) (defScope (top 52)) [] [] ((gm K).fn 31) fd) : Binds K fd ["pot", "height"] [] := F.bindsN fun _ _ _ _ _ _ us hl => match us, hl with | [_, _], _ => rfl
theorem b__law_up {fd : FuncData} (F : FunD K "_law_up" "_law_up" (defArgs (top 53)) (defBody (top 53)) (defScope (top 53)) [] [] ((gm K).fn 32) fd) : Binds K fd ["height", "x"] [] := F.bindsN fun _ _ _ _ _ _ us hl => match us, hl with | [_, _], _ => rfl
theorem b__law_stepped {fd : FuncData} (F : FunD K "_law_stepped" "_law_stepped" (defArgs (top 54)) (defBody (top 54)) (defScope (top 54)) [] [] ((gm K).fn 33) fd) : Binds K fd ["height", "first", "x", "step"] [] := F.bindsN fun _ _ _ _ _ _ us hl => match us, hl with | [_, _, _, _], _ => rfl
theorem b__law_pairs {fd : FuncData} (F : FunD K "_law_pairs" "_law_pairs" (defArgs (top 55)) (defBody (top 55)) (defScope (top 55)) [] [] ((gm K).fn 34) fd) : Binds K fd ["height", "one", "other"] [] := F.bindsN fun _ _ _ _ _ _ us hl => match us, hl with | [_, _, _], _ => rfl
theorem b__law_led {fd : FuncData} (F : FunD K "_law_led" "_law_led" (defArgs (top 56)) (defBody (top 56)) (defScope (top 56)) [] [] ((gm K).fn 35) fd) : Binds K fd ["height", "first", "x", "steps"] [] := F.bindsN fun _ _ _ _ _ _ us hl => match us, hl with | [_, _, _, _], _ => rfl
theorem b__law_is_pair_right {fd : FuncData} (F : FunD K "_law_is_pair_right" "_law_is_pair_right" (defArgs (top 57)) (defBody (top 57)) (defScope (top 57)) [] [] ((gm K).fn 36) fd) : Binds K fd ["pot", "height", "first", "one", "other"] [] := F.bindsN fun _ _ _ _ _ _ us hl => match us, hl with | [_, _, _, _, _], _ => rfl
theorem b__law_right {fd : FuncData} (F : FunD K "_law_right" "_law_right" (defArgs (top 58)) (defBody (top 58)) (defScope (top 58)) [] [] ((gm K).fn 37) fd) : Binds K fd ["pot"] [] := F.bindsN fun _ _ _ _ _ _ us hl => match us, hl with | [_], _ => rfl
theorem b_law {fd : FuncData} (F : FunD K "law" "law" (defArgs (top 59)) (defBody (top 59)) (defScope (top 59)) [] [] ((gm K).fn 38) fd) : Binds K fd ["script"] [] := F.bindsN fun _ _ _ _ _ _ us hl => match us, hl with | [_], _ => rfl
theorem ct (X : K.In h) (G : h.Ns mainGlobals mg) (c : He.SaysD fa fn K) : ∀ k, Ct P w K mg base (gm K) k
  | 0 =>
    { hK := rfl
      f_is_whole := (let ⟨fd, F⟩ := c.def_ 0 (d := ⟨("is_whole", none), "is_whole", "is_whole", defArgs (top 9), defBody (top 9), defScope (top 9), [], []⟩) rfl; ⟨⟨fd, ["value"], never, b_is_whole F⟩, He.glo_ok X G (c.fact 0 (f := .glo "is_whole") rfl), F.kp, by decide⟩)
      f_is_between := (let ⟨fd, F⟩ := c.def_ 1 (d := ⟨("is_between", none), "is_between", "is_between", defArgs (top 10), defBody (top 10), defScope (top 10), [], []⟩) rfl; ⟨⟨fd, ["value", "low", "high"], never, b_is_between F⟩, He.glo_ok X G (c.fact 1 (f := .glo "is_between") rfl), F.kp, by decide⟩)
      f_is_from := (let ⟨fd, F⟩ := c.def_ 2 (d := ⟨("is_from", none), "is_from", "is_from", defArgs (top 11), defBody (top 11), defScope (top 11), [], []⟩) rfl; ⟨⟨fd, ["value", "low"], never, b_is_from F⟩, He.glo_ok X G (c.fact 2 (f := .glo "is_from") rfl), F.kp, by decide⟩)
      f_is_times := (let ⟨fd, F⟩ := c.def_ 3 (d := ⟨("is_times", none), "is_times", "is_times", defArgs (top 12), defBody (top 12), defScope (top 12), [], []⟩) rfl; ⟨⟨fd, ["value"], never, b_is_times F⟩, He.glo_ok X G (c.fact 3 (f := .glo "is_times") rfl), F.kp, by decide⟩)
      f_check_page := (let ⟨fd, F⟩ := c.def_ 4 (d := ⟨("check_page", none), "check_page", "check_page", defArgs (top 23), defBody (top 23), defScope (top 23), [], []⟩) rfl; ⟨⟨fd, ["height", "first"], never, b_check_page F⟩, He.glo_ok X G (c.fact 4 (f := .glo "check_page") rfl), F.kp, by decide⟩)
      f_check_lines := (let ⟨fd, F⟩ := c.def_ 5 (d := ⟨("check_lines", none), "check_lines", "check_lines", defArgs (top 24), defBody (top 24), defScope (top 24), [], []⟩) rfl; ⟨⟨fd, ["lines"], never, b_check_lines F⟩, He.glo_ok X G (c.fact 5 (f := .glo "check_lines") rfl), F.kp, by decide⟩)
      f_is_step := (let ⟨fd, F⟩ := c.def_ 6 (d := ⟨("is_step", none), "is_step", "is_step", defArgs (top 25), defBody (top 25), defScope (top 25), [], []⟩) rfl; ⟨⟨fd, ["height", "value"], never, b_is_step F⟩, He.glo_ok X G (c.fact 6 (f := .glo "is_step") rfl), F.kp, by decide⟩)
      f_page_end := (let ⟨fd, F⟩ := c.def_ 7 (d := ⟨("page_end", none), "page_end", "page_end", defArgs (top 26), defBody (top 26), defScope (top 26), [], []⟩) rfl; ⟨⟨fd, ["height", "lines"], never, b_page_end F⟩, He.glo_ok X G (c.fact 7 (f := .glo "page_end") rfl), F.kp, by decide⟩)
      f_kept_begin := (let ⟨fd, F⟩ := c.def_ 8 (d := ⟨("kept_begin", none), "kept_begin", "kept_begin", defArgs (top 27), defBody (top 27), defScope (top 27), [], []⟩) rfl; ⟨⟨fd, ["height", "lines", "many"], never, b_kept_begin F⟩, He.glo_ok X G (c.fact 8 (f := .glo "kept_begin") rfl), F.kp, by decide⟩)
      f_behind_tables := (let ⟨fd, F⟩ := c.def_ 9 (d := ⟨("behind_tables", none), "behind_tables", "behind_tables", defArgs (top 28), defBody (top 28), defScope (top 28), [], []⟩) rfl; ⟨⟨fd, ["height", "lines", "many", "each"], never, b_behind_tables F⟩, He.glo_ok X G (c.fact 9 (f := .glo "behind_tables") rfl), F.kp, by decide⟩)
      f_right_begin := (let ⟨fd, F⟩ := c.def_ 10 (d := ⟨("right_begin", none), "right_begin", "right_begin", defArgs (top 29), defBody (top 29), defScope (top 29), [], []⟩) rfl; ⟨⟨fd, ["height", "first", "lines"], never, b_right_begin F⟩, He.glo_ok X G (c.fact 10 (f := .glo "right_begin") rfl), F.kp, by decide⟩)
      f_done := (let ⟨fd, F⟩ := c.def_ 11 (d := ⟨("done", none), "done", "done", defArgs (top 30), defBody (top 30), defScope (top 30), [], []⟩) rfl; ⟨⟨fd, ["height", "first", "lines", "step"], never, b_done F⟩, He.glo_ok X G (c.fact 11 (f := .glo "done") rfl), F.kp, by decide⟩)
      f_stepped_by := (let ⟨fd, F⟩ := c.def_ 12 (d := ⟨("stepped_by", none), "stepped_by", "stepped_by", defArgs (top 31), defBody (top 31), defScope (top 31), [], []⟩) rfl; ⟨⟨fd, ["height", "first", "x", "steps"], never, b_stepped_by F⟩, He.glo_ok X G (c.fact 12 (f := .glo "stepped_by") rfl), F.kp, by decide⟩)
      f_check_steps := (let ⟨fd, F⟩ := c.def_ 13 (d := ⟨("check_steps", none), "check_steps", "check_steps", defArgs (top 33), defBody (top 33), defScope (top 33), [], []⟩) rfl; ⟨⟨fd, ["height", "steps"], never, b_check_steps F⟩, He.glo_ok X G (c.fact 13 (f := .glo "check_steps") rfl), F.kp, by decide⟩)
      f_led := (let ⟨fd, F⟩ := c.def_ 14 (d := ⟨("led", none), "led", "led", defArgs (top 34), defBody (top 34), defScope (top 34), [], []⟩) rfl; ⟨⟨fd, ["height", "first", "steps", "lines"], never, b_led F⟩, He.glo_ok X G (c.fact 14 (f := .glo "led") rfl), F.kp, by decide⟩)
      f_table_by := (let ⟨fd, F⟩ := c.def_ 15 (d := ⟨("table_by", none), "table_by", "table_by", defArgs (top 35), defBody (top 35), defScope (top 35), [], []⟩) rfl; ⟨⟨fd, ["height", "first", "steps"], never, b_table_by F⟩, He.glo_ok X G (c.fact 15 (f := .glo "table_by") rfl), F.kp, by decide⟩)
      f_table_of := (let ⟨fd, F⟩ := c.def_ 16 (d := ⟨("table_of", none), "table_of", "table_of", defArgs (top 36), defBody (top 36), defScope (top 36), [], []⟩) rfl; ⟨⟨fd, ["height", "first", "steps"], never, b_table_of F⟩, He.glo_ok X G (c.fact 16 (f := .glo "table_of") rfl), F.kp, by decide⟩)
      f_is_right_table := (let ⟨fd, F⟩ := c.def_ 17 (d := ⟨("is_right_table", none), "is_right_table", "is_right_table", defArgs (top 37), defBody (top 37), defScope (top 37), [], []⟩) rfl; ⟨⟨fd, ["height", "value"], never, b_is_right_table F⟩, He.glo_ok X G (c.fact 17 (f := .glo "is_right_table") rfl), F.kp, by decide⟩)
      f_check_height := (let ⟨fd, F⟩ := c.def_ 18 (d := ⟨("check_height", none), "check_height", "check_height", defArgs (top 38), defBody (top 38), defScope (top 38), [], []⟩) rfl; ⟨⟨fd, ["height"], never, b_check_height F⟩, He.glo_ok X G (c.fact 18 (f := .glo "check_height") rfl), F.kp, by decide⟩)
      f_check_table := (let ⟨fd, F⟩ := c.def_ 19 (d := ⟨("check_table", none), "check_table", "check_table", defArgs (top 39), defBody (top 39), defScope (top 39), [], []⟩) rfl; ⟨⟨fd, ["height", "value"], never, b_check_table F⟩, He.glo_ok X G (c.fact 19 (f := .glo "check_table") rfl), F.kp, by decide⟩)
      f_is_table := (let ⟨fd, F⟩ := c.def_ 20 (d := ⟨("is_table", none), "is_table", "is_table", defArgs (top 40), defBody (top 40), defScope (top 40), [], []⟩) rfl; ⟨⟨fd, ["height", "value"], never, b_is_table F⟩, He.glo_ok X G (c.fact 20 (f := .glo "is_table") rfl), F.kp, by decide⟩)
      f_applied := (let ⟨fd, F⟩ := c.def_ 21 (d := ⟨("applied", none), "applied", "applied", defArgs (top 41), defBody (top 41), defScope (top 41), [], []⟩) rfl; ⟨⟨fd, ["height", "table", "lines"], never, b_applied F⟩, He.glo_ok X G (c.fact 21 (f := .glo "applied") rfl), F.kp, by decide⟩)
      f_by_table := (let ⟨fd, F⟩ := c.def_ 22 (d := ⟨("by_table", none), "by_table", "by_table", defArgs (top 42), defBody (top 42), defScope (top 42), [], []⟩) rfl; ⟨⟨fd, ["height", "table", "x"], never, b_by_table F⟩, He.glo_ok X G (c.fact 22 (f := .glo "by_table") rfl), F.kp, by decide⟩)
      f_behind := (let ⟨fd, F⟩ := c.def_ 23 (d := ⟨("behind", none), "behind", "behind", defArgs (top 43), defBody (top 43), defScope (top 43), [], []⟩) rfl; ⟨⟨fd, ["height", "one", "other"], never, b_behind F⟩, He.glo_ok X G (c.fact 23 (f := .glo "behind") rfl), F.kp, by decide⟩)
      f_then := (let ⟨fd, F⟩ := c.def_ 24 (d := ⟨("then", none), "then", "then", defArgs (top 44), defBody (top 44), defScope (top 44), [], []⟩) rfl; ⟨⟨fd, ["height", "one", "other"], never, b_then F⟩, He.glo_ok X G (c.fact 24 (f := .glo "then") rfl), F.kp, by decide⟩)
      f_first_unlike_x := (let ⟨fd, F⟩ := c.def_ 25 (d := ⟨("first_unlike_x", none), "first_unlike_x", "first_unlike_x", defArgs (top 45), defBody (top 45), defScope (top 45), [], []⟩) rfl; ⟨⟨fd, ["height", "first", "steps", "others"], never, b_first_unlike_x F⟩, He.glo_ok X G (c.fact 25 (f := .glo "first_unlike_x") rfl), F.kp, by decide⟩)
      f_first_later_x := (let ⟨fd, F⟩ := c.def_ 26 (d := ⟨("first_later_x", none), "first_later_x", "first_later_x", defArgs (top 46), defBody (top 46), defScope (top 46), [], []⟩) rfl; ⟨⟨fd, ["height", "first", "steps", "others"], never, b_first_later_x F⟩, He.glo_ok X G (c.fact 26 (f := .glo "first_later_x") rfl), F.kp, by decide⟩)
      f__law_pot := (let ⟨fd, F⟩ := c.def_ 27 (d := ⟨("_law_pot", none), "_law_pot", "_law_pot", defArgs (top 48), defBody (top 48), defScope (top 48), [], []⟩) rfl; ⟨⟨fd, ["script", "place"], never, b__law_pot F⟩, He.glo_ok X G (c.fact 27 (f := .glo "_law_pot") rfl), F.kp, by decide⟩)
      f__law_take := (let ⟨fd, F⟩ := c.def_ 28 (d := ⟨("_law_take", none), "_law_take", "_law_take", defArgs (top 49), defBody (top 49), defScope (top 49), [], []⟩) rfl; ⟨⟨fd, ["pot", "upto"], never, b__law_take F⟩, He.glo_ok X G (c.fact 28 (f := .glo "_law_take") rfl), F.kp, by decide⟩)
      f__law_of := (let ⟨fd, F⟩ := c.def_ 29 (d := ⟨("_law_of", none), "_law_of", "_law_of", defArgs (top 50), defBody (top 50), defScope (top 50), [], []⟩) rfl; ⟨⟨fd, ["pot", "some"], never, b__law_of F⟩, He.glo_ok X G (c.fact 29 (f := .glo "_law_of") rfl), F.kp, by decide⟩)
      f__law_cells := (let ⟨fd, F⟩ := c.def_ 30 (d := ⟨("_law_cells", none), "_law_cells", "_law_cells", defArgs (top 51), defBody (top 51), defScope (top 51), [], []⟩) rfl; ⟨⟨fd, ["script", "upto"], never, b__law_cells F⟩, He.glo_ok X G (c.fact 30 (f := .glo "_law_cells") rfl), F.kp, by decide⟩)
      f__law_step := (let ⟨fd, F⟩ := c.def_ 31 (d := ⟨("_law_step", none), "_law_step", "_law_step", defArgs (top 52), defBody (top 52), defScope (top 52), [], []⟩) rfl; ⟨⟨fd, ["pot", "height"], never, b__law_step F⟩, He.glo_ok X G (c.fact 31 (f := .glo "_law_step") rfl), F.kp, by decide⟩)
      f__law_up := (let ⟨fd, F⟩ := c.def_ 32 (d := ⟨("_law_up", none), "_law_up", "_law_up", defArgs (top 53), defBody (top 53), defScope (top 53), [], []⟩) rfl; ⟨⟨fd, ["height", "x"], never, b__law_up F⟩, He.glo_ok X G (c.fact 32 (f := .glo "_law_up") rfl), F.kp, by decide⟩)
      f__law_stepped := (let ⟨fd, F⟩ := c.def_ 33 (d := ⟨("_law_stepped", none), "_law_stepped", "_law_stepped", defArgs (top 54), defBody (top 54), defScope (top 54), [], []⟩) rfl; ⟨⟨fd, ["height", "first", "x", "step"], never, b__law_stepped F⟩, He.glo_ok X G (c.fact 33 (f := .glo "_law_stepped") rfl), F.kp, by decide⟩)
      f__law_pairs := (let ⟨fd, F⟩ := c.def_ 34 (d := ⟨("_law_pairs", none), "_law_pairs", "_law_pairs", defArgs (top 55), defBody (top 55), defScope (top 55), [], []⟩) rfl; ⟨⟨fd, ["height", "one", "other"], never, b__law_pairs F⟩, He.glo_ok X G (c.fact 34 (f := .glo "_law_pairs") rfl), F.kp, by decide⟩)
      f__law_led := (let ⟨fd, F⟩ := c.def_ 35 (d := ⟨("_law_led", none), "_law_led", "_law_led", defArgs (top 56), defBody (top 56), defScope (top 56), [], []⟩) rfl; ⟨⟨fd, ["height", "first", "x", "steps"], never, b__law_led F⟩, He.glo_ok X G (c.fact 35 (f := .glo "_law_led") rfl), F.kp, by decide⟩)
      f__law_is_pair_right := (let ⟨fd, F⟩ := c.def_ 36 (d := ⟨("_law_is_pair_right", none), "_law_is_pair_right", "_law_is_pair_right", defArgs (top 57), defBody (top 57), defScope (top 57), [], []⟩) rfl; ⟨⟨fd, ["pot", "height", "first", "one", "other"], never, b__law_is_pair_right F⟩, He.glo_ok X G (c.fact 36 (f := .glo "_law_is_pair_right") rfl), F.kp, by decide⟩)
      f__law_right := (let ⟨fd, F⟩ := c.def_ 37 (d := ⟨("_law_right", none), "_law_right", "_law_right", defArgs (top 58), defBody (top 58), defScope (top 58), [], []⟩) rfl; ⟨⟨fd, ["pot"], never, b__law_right F⟩, He.glo_ok X G (c.fact 37 (f := .glo "_law_right") rfl), F.kp, by decide⟩)
      f_law := (let ⟨fd, F⟩ := c.def_ 38 (d := ⟨("law", none), "law", "law", defArgs (top 59), defBody (top 59), defScope (top 59), [], []⟩) rfl; ⟨⟨fd, ["script"], never, b_law F⟩, He.glo_ok X G (c.fact 38 (f := .glo "law") rfl), F.kp, by decide⟩)
      n_abs := He.free_ok X G (c.fact 39 (f := .free "abs") rfl)
      n_all := He.free_ok X G (c.fact 40 (f := .free "all") rfl)
      n_bool := He.free_ok X G (c.fact 41 (f := .free "bool") rfl)
      n_enumerate := He.free_ok X G (c.fact 42 (f := .free "enumerate") rfl)
      n_int := He.free_ok X G (c.fact 43 (f := .free "int") rfl)
      n_isinstance := He.free_ok X G (c.fact 44 (f := .free "isinstance") rfl)
      n_len := He.free_ok X G (c.fact 45 (f := .free "len") rfl)
      n_list := He.free_ok X G (c.fact 46 (f := .free "list") rfl)
      n_max := He.free_ok X G (c.fact 47 (f := .free "max") rfl)
      n_min := He.free_ok X G (c.fact 48 (f := .free "min") rfl)
      n_range := He.free_ok X G (c.fact 49 (f := .free "range") rfl)
      n_str := He.free_ok X G (c.fact 50 (f := .free "str") rfl)
      n_tuple := He.free_ok X G (c.fact 51 (f := .free "tuple") rfl)
      n_zip := He.free_ok X G (c.fact 52 (f := .free "zip") rfl)
      c_GAP := He.str_ok X G (c.fact 53 (f := .str "GAP" "gap") rfl)
      c_KEPT := He.str_ok X G (c.fact 54 (f := .str "KEPT" "kept") rfl)
      c_LINES := He.str_ok X G (c.fact 55 (f := .str "LINES" "lines") rfl)
      c_MOST_FIRST := He.int_ok X G (c.fact 56 (f := .int "MOST_FIRST" 999999) rfl)
      c_MOST_HEIGHT := He.int_ok X G (c.fact 57 (f := .int "MOST_HEIGHT" 60) rfl)
      c_MOST_TIMES := He.int_ok X G (c.fact 58 (f := .int "MOST_TIMES" 1000000000000000000000000000000) rfl)
      c_PAGE := He.str_ok X G (c.fact 59 (f := .str "PAGE" "page") rfl)
      c_PLATES := He.str_ok X G (c.fact 60 (f := .str "PLATES" "plates") rfl)
      c_RIGHT := He.str_ok X G (c.fact 61 (f := .str "RIGHT" "right") rfl)
      c_TABLES := He.str_ok X G (c.fact 62 (f := .str "TABLES" "tables") rfl) }
  | k + 1 =>
    { hK := rfl
      f_is_whole := (let ⟨fd, F⟩ := c.def_ 0 (d := ⟨("is_whole", none), "is_whole", "is_whole", defArgs (top 9), defBody (top 9), defScope (top 9), [], []⟩) rfl; ⟨⟨fd, ["value"], fn_step (T := T) (Kf := KF) rfl F sc_is_whole rfl rfl (w_is_whole (ct X G c k)), b_is_whole F⟩, He.glo_ok X G (c.fact 0 (f := .glo "is_whole") rfl), F.kp, by decide⟩)
      f_is_between := (let ⟨fd, F⟩ := c.def_ 1 (d := ⟨("is_between", none), "is_between", "is_between", defArgs (top 10), defBody (top 10), defScope (top 10), [], []⟩) rfl; ⟨⟨fd, ["value", "low", "high"], fn_step (T := T) (Kf := KF) rfl F sc_is_between rfl rfl (w_is_between (ct X G c k)), b_is_between F⟩, He.glo_ok X G (c.fact 1 (f := .glo "is_between") rfl), F.kp, by decide⟩)
      f_is_from := (let ⟨fd, F⟩ := c.def_ 2 (d := ⟨("is_from", none), "is_from", "is_from", defArgs (top 11), defBody (top 11), defScope (top 11), [], []⟩) rfl; ⟨⟨fd, ["value", "low"], fn_step (T := T) (Kf := KF) rfl F sc_is_from rfl rfl (w_is_from (ct X G c k)), b_is_from F⟩, He.glo_ok X G (c.fact 2 (f := .glo "is_from") rfl), F.kp, by decide⟩)
      f_is_times := (let ⟨fd, F⟩ := c.def_ 3 (d := ⟨("is_times", none), "is_times", "is_times", defArgs (top 12), defBody (top 12), defScope (top 12), [], []⟩) rfl; ⟨⟨fd, ["value"], fn_step (T := T) (Kf := KF) rfl F sc_is_times rfl rfl (w_is_times (ct X G c k)), b_is_times F⟩, He.glo_ok X G (c.fact 3 (f := .glo "is_times") rfl), F.kp, by decide⟩)
      f_check_page := (let ⟨fd, F⟩ := c.def_ 4 (d := ⟨("check_page", none), "check_page", "check_page", defArgs (top 23), defBody (top 23), defScope (top 23), [], []⟩) rfl; ⟨⟨fd, ["height", "first"], fn_step (T := T) (Kf := KF) rfl F sc_check_page rfl rfl (w_check_page (ct X G c k)), b_check_page F⟩, He.glo_ok X G (c.fact 4 (f := .glo "check_page") rfl), F.kp, by decide⟩)
      f_check_lines := (let ⟨fd, F⟩ := c.def_ 5 (d := ⟨("check_lines", none), "check_lines", "check_lines", defArgs (top 24), defBody (top 24), defScope (top 24), [], []⟩) rfl; ⟨⟨fd, ["lines"], fn_step (T := T) (Kf := KF) rfl F sc_check_lines rfl rfl (w_check_lines (ct X G c k)), b_check_lines F⟩, He.glo_ok X G (c.fact 5 (f := .glo "check_lines") rfl), F.kp, by decide⟩)
      f_is_step := (let ⟨fd, F⟩ := c.def_ 6 (d := ⟨("is_step", none), "is_step", "is_step", defArgs (top 25), defBody (top 25), defScope (top 25), [], []⟩) rfl; ⟨⟨fd, ["height", "value"], fn_step (T := T) (Kf := KF) rfl F sc_is_step rfl rfl (w_is_step (ct X G c k)), b_is_step F⟩, He.glo_ok X G (c.fact 6 (f := .glo "is_step") rfl), F.kp, by decide⟩)
      f_page_end := (let ⟨fd, F⟩ := c.def_ 7 (d := ⟨("page_end", none), "page_end", "page_end", defArgs (top 26), defBody (top 26), defScope (top 26), [], []⟩) rfl; ⟨⟨fd, ["height", "lines"], fn_step (T := T) (Kf := KF) rfl F sc_page_end rfl rfl (w_page_end (ct X G c k)), b_page_end F⟩, He.glo_ok X G (c.fact 7 (f := .glo "page_end") rfl), F.kp, by decide⟩)
      f_kept_begin := (let ⟨fd, F⟩ := c.def_ 8 (d := ⟨("kept_begin", none), "kept_begin", "kept_begin", defArgs (top 27), defBody (top 27), defScope (top 27), [], []⟩) rfl; ⟨⟨fd, ["height", "lines", "many"], fn_step (T := T) (Kf := KF) rfl F sc_kept_begin rfl rfl (w_kept_begin (ct X G c k)), b_kept_begin F⟩, He.glo_ok X G (c.fact 8 (f := .glo "kept_begin") rfl), F.kp, by decide⟩)
      f_behind_tables := (let ⟨fd, F⟩ := c.def_ 9 (d := ⟨("behind_tables", none), "behind_tables", "behind_tables", defArgs (top 28), defBody (top 28), defScope (top 28), [], []⟩) rfl; ⟨⟨fd, ["height", "lines", "many", "each"], fn_step (T := T) (Kf := KF) rfl F sc_behind_tables rfl rfl (w_behind_tables (ct X G c k)), b_behind_tables F⟩, He.glo_ok X G (c.fact 9 (f := .glo "behind_tables") rfl), F.kp, by decide⟩)
      f_right_begin := (let ⟨fd, F⟩ := c.def_ 10 (d := ⟨("right_begin", none), "right_begin", "right_begin", defArgs (top 29), defBody (top 29), defScope (top 29), [], []⟩) rfl; ⟨⟨fd, ["height", "first", "lines"], fn_step (T := T) (Kf := KF) rfl F sc_right_begin rfl rfl (w_right_begin (ct X G c k)), b_right_begin F⟩, He.glo_ok X G (c.fact 10 (f := .glo "right_begin") rfl), F.kp, by decide⟩)
      f_done := (let ⟨fd, F⟩ := c.def_ 11 (d := ⟨("done", none), "done", "done", defArgs (top 30), defBody (top 30), defScope (top 30), [], []⟩) rfl; ⟨⟨fd, ["height", "first", "lines", "step"], fn_step (T := T) (Kf := KF) rfl F sc_done rfl rfl (w_done (ct X G c k)), b_done F⟩, He.glo_ok X G (c.fact 11 (f := .glo "done") rfl), F.kp, by decide⟩)
      f_stepped_by := (let ⟨fd, F⟩ := c.def_ 12 (d := ⟨("stepped_by", none), "stepped_by", "stepped_by", defArgs (top 31), defBody (top 31), defScope (top 31), [], []⟩) rfl; ⟨⟨fd, ["height", "first", "x", "steps"], fn_step (T := T) (Kf := KF) rfl F sc_stepped_by rfl rfl (w_stepped_by (ct X G c k)), b_stepped_by F⟩, He.glo_ok X G (c.fact 12 (f := .glo "stepped_by") rfl), F.kp, by decide⟩)
      f_check_steps := (let ⟨fd, F⟩ := c.def_ 13 (d := ⟨("check_steps", none), "check_steps", "check_steps", defArgs (top 33), defBody (top 33), defScope (top 33), [], []⟩) rfl; ⟨⟨fd, ["height", "steps"], fn_step (T := T) (Kf := KF) rfl F sc_check_steps rfl rfl (w_check_steps (ct X G c k)), b_check_steps F⟩, He.glo_ok X G (c.fact 13 (f := .glo "check_steps") rfl), F.kp, by decide⟩)
      f_led := (let ⟨fd, F⟩ := c.def_ 14 (d := ⟨("led", none), "led", "led", defArgs (top 34), defBody (top 34), defScope (top 34), [], []⟩) rfl; ⟨⟨fd, ["height", "first", "steps", "lines"], fn_step (T := T) (Kf := KF) rfl F sc_led rfl rfl (w_led (ct X G c k)), b_led F⟩, He.glo_ok X G (c.fact 14 (f := .glo "led") rfl), F.kp, by decide⟩)
      f_table_by := (let ⟨fd, F⟩ := c.def_ 15 (d := ⟨("table_by", none), "table_by", "table_by", defArgs (top 35), defBody (top 35), defScope (top 35), [], []⟩) rfl; ⟨⟨fd, ["height", "first", "steps"], fn_step (T := T) (Kf := KF) rfl F sc_table_by rfl rfl (w_table_by (ct X G c k)), b_table_by F⟩, He.glo_ok X G (c.fact 15 (f := .glo "table_by") rfl), F.kp, by decide⟩)
      f_table_of := (let ⟨fd, F⟩ := c.def_ 16 (d := ⟨("table_of", none), "table_of", "table_of", defArgs (top 36), defBody (top 36), defScope (top 36), [], []⟩) rfl; ⟨⟨fd, ["height", "first", "steps"], fn_step (T := T) (Kf := KF) rfl F sc_table_of rfl rfl (w_table_of (ct X G c k)), b_table_of F⟩, He.glo_ok X G (c.fact 16 (f := .glo "table_of") rfl), F.kp, by decide⟩)
      f_is_right_table := (let ⟨fd, F⟩ := c.def_ 17 (d := ⟨("is_right_table", none), "is_right_table", "is_right_table", defArgs (top 37), defBody (top 37), defScope (top 37), [], []⟩) rfl; ⟨⟨fd, ["height", "value"], fn_step (T := T) (Kf := KF) rfl F sc_is_right_table rfl rfl (w_is_right_table (ct X G c k)), b_is_right_table F⟩, He.glo_ok X G (c.fact 17 (f := .glo "is_right_table") rfl), F.kp, by decide⟩)
      f_check_height := (let ⟨fd, F⟩ := c.def_ 18 (d := ⟨("check_height", none), "check_height", "check_height", defArgs (top 38), defBody (top 38), defScope (top 38), [], []⟩) rfl; ⟨⟨fd, ["height"], fn_step (T := T) (Kf := KF) rfl F sc_check_height rfl rfl (w_check_height (ct X G c k)), b_check_height F⟩, He.glo_ok X G (c.fact 18 (f := .glo "check_height") rfl), F.kp, by decide⟩)
      f_check_table := (let ⟨fd, F⟩ := c.def_ 19 (d := ⟨("check_table", none), "check_table", "check_table", defArgs (top 39), defBody (top 39), defScope (top 39), [], []⟩) rfl; ⟨⟨fd, ["height", "value"], fn_step (T := T) (Kf := KF) rfl F sc_check_table rfl rfl (w_check_table (ct X G c k)), b_check_table F⟩, He.glo_ok X G (c.fact 19 (f := .glo "check_table") rfl), F.kp, by decide⟩)
      f_is_table := (let ⟨fd, F⟩ := c.def_ 20 (d := ⟨("is_table", none), "is_table", "is_table", defArgs (top 40), defBody (top 40), defScope (top 40), [], []⟩) rfl; ⟨⟨fd, ["height", "value"], fn_step (T := T) (Kf := KF) rfl F sc_is_table rfl rfl (w_is_table (ct X G c k)), b_is_table F⟩, He.glo_ok X G (c.fact 20 (f := .glo "is_table") rfl), F.kp, by decide⟩)
      f_applied := (let ⟨fd, F⟩ := c.def_ 21 (d := ⟨("applied", none), "applied", "applied", defArgs (top 41), defBody (top 41), defScope (top 41), [], []⟩) rfl; ⟨⟨fd, ["height", "table", "lines"], fn_step (T := T) (Kf := KF) rfl F sc_applied rfl rfl (w_applied (ct X G c k)), b_applied F⟩, He.glo_ok X G (c.fact 21 (f := .glo "applied") rfl), F.kp, by decide⟩)
      f_by_table := (let ⟨fd, F⟩ := c.def_ 22 (d := ⟨("by_table", none), "by_table", "by_table", defArgs (top 42), defBody (top 42), defScope (top 42), [], []⟩) rfl; ⟨⟨fd, ["height", "table", "x"], fn_step (T := T) (Kf := KF) rfl F sc_by_table rfl rfl (w_by_table (ct X G c k)), b_by_table F⟩, He.glo_ok X G (c.fact 22 (f := .glo "by_table") rfl), F.kp, by decide⟩)
      f_behind := (let ⟨fd, F⟩ := c.def_ 23 (d := ⟨("behind", none), "behind", "behind", defArgs (top 43), defBody (top 43), defScope (top 43), [], []⟩) rfl; ⟨⟨fd, ["height", "one", "other"], fn_step (T := T) (Kf := KF) rfl F sc_behind rfl rfl (w_behind (ct X G c k)), b_behind F⟩, He.glo_ok X G (c.fact 23 (f := .glo "behind") rfl), F.kp, by decide⟩)
      f_then := (let ⟨fd, F⟩ := c.def_ 24 (d := ⟨("then", none), "then", "then", defArgs (top 44), defBody (top 44), defScope (top 44), [], []⟩) rfl; ⟨⟨fd, ["height", "one", "other"], fn_step (T := T) (Kf := KF) rfl F sc_then rfl rfl (w_then (ct X G c k)), b_then F⟩, He.glo_ok X G (c.fact 24 (f := .glo "then") rfl), F.kp, by decide⟩)
      f_first_unlike_x := (let ⟨fd, F⟩ := c.def_ 25 (d := ⟨("first_unlike_x", none), "first_unlike_x", "first_unlike_x", defArgs (top 45), defBody (top 45), defScope (top 45), [], []⟩) rfl; ⟨⟨fd, ["height", "first", "steps", "others"], fn_step (T := T) (Kf := KF) rfl F sc_first_unlike_x rfl rfl (w_first_unlike_x (ct X G c k)), b_first_unlike_x F⟩, He.glo_ok X G (c.fact 25 (f := .glo "first_unlike_x") rfl), F.kp, by decide⟩)
      f_first_later_x := (let ⟨fd, F⟩ := c.def_ 26 (d := ⟨("first_later_x", none), "first_later_x", "first_later_x", defArgs (top 46), defBody (top 46), defScope (top 46), [], []⟩) rfl; ⟨⟨fd, ["height", "first", "steps", "others"], fn_step (T := T) (Kf := KF) rfl F sc_first_later_x rfl rfl (w_first_later_x (ct X G c k)), b_first_later_x F⟩, He.glo_ok X G (c.fact 26 (f := .glo "first_later_x") rfl), F.kp, by decide⟩)
      f__law_pot := (let ⟨fd, F⟩ := c.def_ 27 (d := ⟨("_law_pot", none), "_law_pot", "_law_pot", defArgs (top 48), defBody (top 48), defScope (top 48), [], []⟩) rfl; ⟨⟨fd, ["script", "place"], fn_step (T := T) (Kf := KF) rfl F sc__law_pot rfl rfl (w__law_pot (ct X G c k)), b__law_pot F⟩, He.glo_ok X G (c.fact 27 (f := .glo "_law_pot") rfl), F.kp, by decide⟩)
      f__law_take := (let ⟨fd, F⟩ := c.def_ 28 (d := ⟨("_law_take", none), "_law_take", "_law_take", defArgs (top 49), defBody (top 49), defScope (top 49), [], []⟩) rfl; ⟨⟨fd, ["pot", "upto"], fn_step (T := T) (Kf := KF) rfl F sc__law_take rfl rfl (w__law_take (ct X G c k)), b__law_take F⟩, He.glo_ok X G (c.fact 28 (f := .glo "_law_take") rfl), F.kp, by decide⟩)
      f__law_of := (let ⟨fd, F⟩ := c.def_ 29 (d := ⟨("_law_of", none), "_law_of", "_law_of", defArgs (top 50), defBody (top 50), defScope (top 50), [], []⟩) rfl; ⟨⟨fd, ["pot", "some"], fn_step (T := T) (Kf := KF) rfl F sc__law_of rfl rfl (w__law_of (ct X G c k)), b__law_of F⟩, He.glo_ok X G (c.fact 29 (f := .glo "_law_of") rfl), F.kp, by decide⟩)
      f__law_cells := (let ⟨fd, F⟩ := c.def_ 30 (d := ⟨("_law_cells", none), "_law_cells", "_law_cells", defArgs (top 51), defBody (top 51), defScope (top 51), [], []⟩) rfl; ⟨⟨fd, ["script", "upto"], fn_step (T := T) (Kf := KF) rfl F sc__law_cells rfl rfl (w__law_cells (ct X G c k)), b__law_cells F⟩, He.glo_ok X G (c.fact 30 (f := .glo "_law_cells") rfl), F.kp, by decide⟩)
      f__law_step := (let ⟨fd, F⟩ := c.def_ 31 (d := ⟨("_law_step", none), "_law_step", "_law_step", defArgs (top 52), defBody (top 52), defScope (top 52), [], []⟩) rfl; ⟨⟨fd, ["pot", "height"], fn_step (T := T) (Kf := KF) rfl F sc__law_step rfl rfl (w__law_step (ct X G c k)), b__law_step F⟩, He.glo_ok X G (c.fact 31 (f := .glo "_law_step") rfl), F.kp, by decide⟩)
      f__law_up := (let ⟨fd, F⟩ := c.def_ 32 (d := ⟨("_law_up", none), "_law_up", "_law_up", defArgs (top 53), defBody (top 53), defScope (top 53), [], []⟩) rfl; ⟨⟨fd, ["height", "x"], fn_step (T := T) (Kf := KF) rfl F sc__law_up rfl rfl (w__law_up (ct X G c k)), b__law_up F⟩, He.glo_ok X G (c.fact 32 (f := .glo "_law_up") rfl), F.kp, by decide⟩)
      f__law_stepped := (let ⟨fd, F⟩ := c.def_ 33 (d := ⟨("_law_stepped", none), "_law_stepped", "_law_stepped", defArgs (top 54), defBody (top 54), defScope (top 54), [], []⟩) rfl; ⟨⟨fd, ["height", "first", "x", "step"], fn_step (T := T) (Kf := KF) rfl F sc__law_stepped rfl rfl (w__law_stepped (ct X G c k)), b__law_stepped F⟩, He.glo_ok X G (c.fact 33 (f := .glo "_law_stepped") rfl), F.kp, by decide⟩)
      f__law_pairs := (let ⟨fd, F⟩ := c.def_ 34 (d := ⟨("_law_pairs", none), "_law_pairs", "_law_pairs", defArgs (top 55), defBody (top 55), defScope (top 55), [], []⟩) rfl; ⟨⟨fd, ["height", "one", "other"], fn_step (T := T) (Kf := KF) rfl F sc__law_pairs rfl rfl (w__law_pairs (ct X G c k)), b__law_pairs F⟩, He.glo_ok X G (c.fact 34 (f := .glo "_law_pairs") rfl), F.kp, by decide⟩)
      f__law_led := (let ⟨fd, F⟩ := c.def_ 35 (d := ⟨("_law_led", none), "_law_led", "_law_led", defArgs (top 56), defBody (top 56), defScope (top 56), [], []⟩) rfl; ⟨⟨fd, ["height", "first", "x", "steps"], fn_step (T := T) (Kf := KF) rfl F sc__law_led rfl rfl (w__law_led (ct X G c k)), b__law_led F⟩, He.glo_ok X G (c.fact 35 (f := .glo "_law_led") rfl), F.kp, by decide⟩)
      f__law_is_pair_right := (let ⟨fd, F⟩ := c.def_ 36 (d := ⟨("_law_is_pair_right", none), "_law_is_pair_right", "_law_is_pair_right", defArgs (top 57), defBody (top 57), defScope (top 57), [], []⟩) rfl; ⟨⟨fd, ["pot", "height", "first", "one", "other"], fn_step (T := T) (Kf := KF) rfl F sc__law_is_pair_right rfl rfl (w__law_is_pair_right (ct X G c k)), b__law_is_pair_right F⟩, He.glo_ok X G (c.fact 36 (f := .glo "_law_is_pair_right") rfl), F.kp, by decide⟩)
      f__law_right := (let ⟨fd, F⟩ := c.def_ 37 (d := ⟨("_law_right", none), "_law_right", "_law_right", defArgs (top 58), defBody (top 58), defScope (top 58), [], []⟩) rfl; ⟨⟨fd, ["pot"], fn_step (T := T) (Kf := KF) rfl F sc__law_right rfl rfl (w__law_right (ct X G c k)), b__law_right F⟩, He.glo_ok X G (c.fact 37 (f := .glo "_law_right") rfl), F.kp, by decide⟩)
      f_law := (let ⟨fd, F⟩ := c.def_ 38 (d := ⟨("law", none), "law", "law", defArgs (top 59), defBody (top 59), defScope (top 59), [], []⟩) rfl; ⟨⟨fd, ["script"], fn_step (T := T) (Kf := KF) rfl F sc_law rfl rfl (w_law (ct X G c k)), b_law F⟩, He.glo_ok X G (c.fact 38 (f := .glo "law") rfl), F.kp, by decide⟩)
      n_abs := He.free_ok X G (c.fact 39 (f := .free "abs") rfl)
      n_all := He.free_ok X G (c.fact 40 (f := .free "all") rfl)
      n_bool := He.free_ok X G (c.fact 41 (f := .free "bool") rfl)
      n_enumerate := He.free_ok X G (c.fact 42 (f := .free "enumerate") rfl)
      n_int := He.free_ok X G (c.fact 43 (f := .free "int") rfl)
      n_isinstance := He.free_ok X G (c.fact 44 (f := .free "isinstance") rfl)
      n_len := He.free_ok X G (c.fact 45 (f := .free "len") rfl)
      n_list := He.free_ok X G (c.fact 46 (f := .free "list") rfl)
      n_max := He.free_ok X G (c.fact 47 (f := .free "max") rfl)
      n_min := He.free_ok X G (c.fact 48 (f := .free "min") rfl)
      n_range := He.free_ok X G (c.fact 49 (f := .free "range") rfl)
      n_str := He.free_ok X G (c.fact 50 (f := .free "str") rfl)
      n_tuple := He.free_ok X G (c.fact 51 (f := .free "tuple") rfl)
      n_zip := He.free_ok X G (c.fact 52 (f := .free "zip") rfl)
      c_GAP := He.str_ok X G (c.fact 53 (f := .str "GAP" "gap") rfl)
      c_KEPT := He.str_ok X G (c.fact 54 (f := .str "KEPT" "kept") rfl)
      c_LINES := He.str_ok X G (c.fact 55 (f := .str "LINES" "lines") rfl)
      c_MOST_FIRST := He.int_ok X G (c.fact 56 (f := .int "MOST_FIRST" 999999) rfl)
      c_MOST_HEIGHT := He.int_ok X G (c.fact 57 (f := .int "MOST_HEIGHT" 60) rfl)
      c_MOST_TIMES := He.int_ok X G (c.fact 58 (f := .int "MOST_TIMES" 1000000000000000000000000000000) rfl)
      c_PAGE := He.str_ok X G (c.fact 59 (f := .str "PAGE" "page") rfl)
      c_PLATES := He.str_ok X G (c.fact 60 (f := .str "PLATES" "plates") rfl)
      c_RIGHT := He.str_ok X G (c.fact 61 (f := .str "RIGHT" "right") rfl)
      c_TABLES := He.str_ok X G (c.fact 62 (f := .str "TABLES" "tables") rfl) }
end
end K85
set_option Elab.async false
set_option linter.all false
set_option maxRecDepth 100000
set_option maxHeartbeats 0
/-! the statement -/
namespace K85
open PySem PySem.Spec PyProof.Rows L2 Pe
theorem facts {P : Program} {w : World} {K : PySem.W.Frag} {h : Heap} {mg : Str → Option Value} {f : Addr} (X : K.In h) (G : h.Ns mainGlobals mg) (hfa : mg ("law" : Str) = some (.ref f)) (c : He.SaysD fa fn K) :
    ∃ fd : FuncData, (∀ (s : Shared) (v : Value), BindsTo s fd ⟨[v], []⟩ [("script", v)]) ∧ ∀ base : Heap, K.In base → base.Ns mainGlobals mg → FnOk P w K mg base CX0 9 f fd ["script"] (spC (gm K) (ecN T KF 9) 38) := by
  obtain ⟨fd, F⟩ := c.def_ 38 (d := ⟨("law", none), "law", "law", defArgs (top 59), defBody (top 59), defScope (top 59), [], []⟩) rfl
  have e := hfa.symm.trans (He.glo_ok X G (c.fact 38 (f := .glo "law") rfl))
  cases e
  have b := FunD.bindsA (ps := ["script"]) F fun _ _ _ _ _ _ us hl => match us, hl with | [_], _ => rfl
  exact ⟨fd, fun s v => b s [v] rfl, fun base _ _ => fn_step (T := T) (Kf := KF) (G := gm K) (f := 38) rfl F sc_law rfl rfl (w_law (ct X G c 8))⟩
theorem repL_ints {G : Gm} {L : Lk} : ∀ ns : List Int, RepL G L (ns.map D.int) (ns.map V.int)
  | [] => by simp [RepL]
  | n :: ns => repL_cons rep_of_int (repL_ints ns)
theorem start_ok {K : PySem.W.Frag} {H : Hp} {a : Addr} {ns : List Int} {E : XK} (hS : SqL K H a (ns.map V.int)) : spC (gm K) (ecN T KF 9) 38 [.ref a] H (fun v _ => v = .bl true) E := by
  refine ⟨⟨H, []⟩, [], [.scr (ns.map D.int)], .bl true, [], ⟨(fun a o h => .inl h), rfl, List.nodup_nil, (fun a h => by cases h), (fun n d a h => by cases h)⟩, ?_, s_law 0 ns [], fun L' v H' _ _ r => rep_bl r⟩
  refine repL_one ?_
  simp only [Rep]
  exact ⟨a, ns.map V.int, rfl, hS, repL_ints ns⟩
end K85
open PySem PySem.W PySem.Calls PyProof.Rows
theorem PySem.Challenge.cw_seepage_k85_whole_rows_that_swallow_othe_holds : PySem.Challenge.rw_seepage_k85_whole_rows_that_swallow_othe.Holds := by
  w_on; o_law
  refine HandSHeadRun.head_any (r := K85.R) (q := view K85.R.prog [59]) (H := K85.hk) (ob := K85.ob) (M := 4000) (loose := K85.loose) (d := HandSHeadRun.topDef K85.R.prog 59) (kwd := []) K85.ob_eq
    (by kernel_rfl) (fun s => by kernel_rfl) K85.run (by kernel_rfl) (by kernel_rfl) (by kernel_rfl) (by rfl) (by first | assumption | decide +kernel) (by decide +kernel) ⟨rfl, rfl, rfl, rfl, rfl, by decide +kernel⟩ ?hw ?hc
  case hw => w_witness2
  case hc =>
    refine L2.walk_ofE (l := PySem.Challenge.rw_seepage_k85_whole_rows_that_swallow_othe) (n := 63) (k := 9) (x := "script") (CX := L2.CX0) rfl (by decide) (by kernel_rfl) ⟨rfl, by decide, by decide⟩ ?F (fun _ _ _ _ z => z)
    intro w mg fa h Y G hmg0
    obtain ⟨K, KX, c⟩ := Y
    have hmg : mg ("law" : PySem.Str) = some (.ref fa) := by
      have e : (HandSHeadRun.topDef K85.R.prog 59).name = ("law" : PySem.Str) := by kernel_rfl
      rw [← e]
      exact hmg0
    obtain ⟨fd, hb, hF⟩ := K85.facts (P := (PySem.Challenge.rw_seepage_k85_whole_rows_that_swallow_othe).prog) (w := w) KX G hmg c
    exact ⟨K, fd, Pe.spC (K85.gm K) (Pe.ecN K85.T K85.KF 9) 38, KX, hb, fun H a ns hl _ hS => K85.start_ok hS, hF⟩
