import PyProof.Rows.All
import Wide.All
import OpenK.AllK
import Wide.FinOn
import HandS.ForMost
import HandS.ForExc
import HandS.Lambda
import HandS.Evl
import HandS.Flow
import HandS.Wide
import HandS.IsInst
import HandS.CallSlots
import HandS.EndTab
import HandS.HotCalls
import HandS.TupAny
import HandS.Zip
import HandS.Style
import HandS.Conv
import HandS.Strs
import HandS.DictComp
import HandS.SortInts
import HandS.SetFor
import HandS.Deep
import HandS.TupLen
import HandS.Walk
import HandS.TupMul
import KE.SortData
import KE.KDictSum
import HandS.ExcIs
import KE.KNestM
import PySem.Challenge.RW_wholerounds_k03_whole_struck
set_option Elab.async false
set_option linter.all false
set_option maxRecDepth 100000
/-! Mini 1: heaps, data, states. -/
namespace Mini
open PySem L2 LamX

/-! ### heaps -/
abbrev Zone := Addr → Prop
/-- the heap without the zone O -/
noncomputable def hide (H : Hp) (O : Zone) : Hp := fun a => open Classical in if O a then none else H a
theorem hide_some {H : Hp} {O : Zone} {a : Addr} {o : HO} : hide H O a = some o ↔ ¬ O a ∧ H a = some o := by
  unfold hide
  by_cases h : O a
  · simp [h]
  · simp [h]
/-- all but the tables stays -/
structure Ex (T : List (Addr × Str)) (H H' : Hp) : Prop where
  ext : ExtN H H'
  tabs : Tabs T H → Tabs T H'
theorem Ex.refl {T : List (Addr × Str)} (H : Hp) : Ex T H H := ⟨ExtN.refl H, fun t => t⟩
theorem Ex.trans {T : List (Addr × Str)} {H H1 H2 : Hp} (a : Ex T H H1) (b : Ex T H1 H2) : Ex T H H2 := ⟨a.ext.trans b.ext, fun t => b.tabs (a.tabs t)⟩
theorem Ex.same {T : List (Addr × Str)} {H H' : Hp} (e : ∀ b o, H b = some o → H' b = some o) : Ex T H H' := ⟨ExtN.of e, fun t => t.ext e⟩
theorem Ex.new {T : List (Addr × Str)} {H : Hp} {p : Addr} {o : HO} (h : H p = none) : Ex T H (upd H p o) := Ex.same fun b u e => by
  rw [upd_ne (ne_of_none e h)]
  exact e
theorem ex_none {T : List (Addr × Str)} {H H' : Hp} {p : Addr} (e : Ex T H H') (h : H' p = none) : H p = none ∨ ∃ ps, H p = some (.tbl ps) := by
  cases q : H p with
  | none => exact .inl rfl
  | some o =>
    by_cases z : ∃ ps, o = .tbl ps
    · obtain ⟨ps, rfl⟩ := z
      exact .inr ⟨ps, rfl⟩
    · have := e.ext p o q fun ps hp => z ⟨ps, hp⟩
      rw [h] at this
      cases this

/-- no object stands there (a table may) -/
def Fresh (H : Hp) (a : Addr) : Prop := ∀ o, H a = some o → ∃ ps, o = .tbl ps
theorem Fresh.of {H : Hp} {a : Addr} (h : H a = none) : Fresh H a := fun o e => by rw [h] at e; cases e
theorem Fresh.back {T : List (Addr × Str)} {H H' : Hp} {a : Addr} (e : Ex T H H') (h : Fresh H' a) : Fresh H a := fun o q => by
  by_cases z : ∃ ps, o = .tbl ps
  · exact z
  · exact h o (e.ext a o q fun ps hp => z ⟨ps, hp⟩)

/-! ### data in a heap: monotone -/
/-- G's lists and tuples stand in G' -/
def Sub (G G' : Hp) : Prop := ∀ b o, G b = some o → (∀ ps, o ≠ .tbl ps) → G' b = some o
theorem Sub.refl (G : Hp) : Sub G G := fun _ _ h _ => h
theorem Sub.trans {a b c : Hp} (x : Sub a b) (y : Sub b c) : Sub a c := fun p o h n => y p o (x p o h n) n
theorem Ex.sub {T : List (Addr × Str)} {H H' : Hp} (e : Ex T H H') : Sub H H' := e.ext
theorem hide_sub (H : Hp) (O : Zone) : Sub (hide H O) H := fun _ _ h _ => (hide_some.mp h).2
theorem Sub.rd {G G' : Hp} {a : Addr} {u : HO} (s : Sub G G') (nt : ∀ ps, u ≠ .tbl ps) (h : Rd G a u) : Rd G' a u := by
  rcases h with h | ⟨o, h⟩
  · exact .inl (s _ _ h nt)
  · exact .inr ⟨o, s _ _ h fun ps z => nomatch z⟩
theorem Sub.sqL {K : PySem.W.Frag} {G G' : Hp} {a : Addr} {xs : List V} (s : Sub G G') (h : SqL K G a xs) : SqL K G' a xs := by
  rcases h with h | h
  · exact .inl (s.rd (fun ps z => nomatch z) h)
  · exact .inr h
theorem Sub.sqT {K : PySem.W.Frag} {G G' : Hp} {a : Addr} {xs : List V} (s : Sub G G') (h : SqT K G a xs) : SqT K G' a xs := by
  rcases h with h | h
  · exact .inl (s.rd (fun ps z => nomatch z) h)
  · exact .inr h

/-! ### data -/
/-- data: scr is the law's script -/
inductive D where
  | non | bl (b : Bool) | int (i : Int) | str (x : Str) | tup (xs : List D) | lst (xs : List D) | dic (kvs : List (D × D)) | scr (ns : List Int)
mutual
inductive Rp (K : PySem.W.Frag) (G : Hp) : V → D → Prop
  | non : Rp K G .non .non
  | bl (b : Bool) : Rp K G (.bl b) (.bl b)
  | int (i : Int) : Rp K G (.int i) (.int i)
  | str (x : Str) : Rp K G (.str x) (.str x)
  | lst {a : Addr} {xs : List V} {ds : List D} : G a = some (.lst xs) → RpAll K G xs ds → Rp K G (.ref a) (.lst ds)
  | tup {a : Addr} {xs : List V} {ds : List D} : G a = some (.tup xs) → RpAll K G xs ds → Rp K G (.ref a) (.tup ds)
  | scr {a : Addr} {ns : List Int} : SqL K G a (ns.map V.int) → Rp K G (.ref a) (.scr ns)
inductive RpAll (K : PySem.W.Frag) (G : Hp) : List V → List D → Prop
  | nil : RpAll K G [] []
  | cons {v : V} {vs : List V} {d : D} {ds : List D} : Rp K G v d → RpAll K G vs ds → RpAll K G (v :: vs) (d :: ds)
end
mutual
theorem Sub.rp {K : PySem.W.Frag} {G G' : Hp} (s : Sub G G') : ∀ (d : D) (v : V), Rp K G v d → Rp K G' v d
  | .non, _, h => by cases h; exact .non
  | .bl b, _, h => by cases h; exact .bl b
  | .int i, _, h => by cases h; exact .int i
  | .str x, _, h => by cases h; exact .str x
  | .lst ds, _, h => by
    cases h with
    | lst hs ha => exact .lst (s _ _ hs fun ps z => nomatch z) (Sub.rpAll s ds _ ha)
  | .tup ds, _, h => by
    cases h with
    | tup hs ha => exact .tup (s _ _ hs fun ps z => nomatch z) (Sub.rpAll s ds _ ha)
  | .scr ns, _, h => by
    cases h with
    | scr hs => exact .scr (s.sqL hs)
  | .dic _, _, h => by cases h
theorem Sub.rpAll {K : PySem.W.Frag} {G G' : Hp} (s : Sub G G') : ∀ (ds : List D) (vs : List V), RpAll K G vs ds → RpAll K G' vs ds
  | [], _, h => by cases h; exact .nil
  | d :: ds, _, h => by
    cases h with
    | cons h1 h2 => exact .cons (Sub.rp s d _ h1) (Sub.rpAll s ds _ h2)
end
/-! as the library has data -/
mutual
def D.py : D → PyData
  | .non => .none
  | .bl b => .bool b
  | .int i => .int i
  | .str x => .str x
  | .tup xs => .tuple (D.pyAll xs)
  | .lst xs => .list (D.pyAll xs)
  | .dic _ => .dict []
  | .scr ns => .list (ns.map PyData.int)
def D.pyAll : List D → List PyData
  | [] => []
  | d :: ds => d.py :: D.pyAll ds
end
theorem dp_ints {K : PySem.W.Frag} {G : Hp} : ∀ {ns : List Int}, DpAll K G (ns.map V.int) (ns.map PyData.int)
  | [] => .nil
  | n :: ns => .cons (.int n) dp_ints
mutual
theorem Rp.dp {K : PySem.W.Frag} {G : Hp} : ∀ (d : D) (v : V), Rp K G v d → Dp K G v d.py
  | .non, _, h => by cases h; exact .non
  | .bl b, _, h => by cases h; exact .bl b
  | .int i, _, h => by cases h; exact .int i
  | .str x, _, h => by cases h; exact .str x
  | .lst ds, _, h => by
    cases h with
    | lst hs ha => exact .lst (SqL.of hs) (RpAll.dp ds _ ha)
  | .tup ds, _, h => by
    cases h with
    | tup hs ha => exact .tup (SqT.of hs) (RpAll.dp ds _ ha)
  | .scr ns, _, h => by
    cases h with
    | scr hs => exact .lst hs dp_ints
  | .dic _, _, h => by cases h
theorem RpAll.dp {K : PySem.W.Frag} {G : Hp} : ∀ (ds : List D) (vs : List V), RpAll K G vs ds → DpAll K G vs (D.pyAll ds)
  | [], _, h => by cases h; exact .nil
  | d :: ds, _, h => by
    cases h with
    | cons h1 h2 => exact .cons (Rp.dp d _ h1) (RpAll.dp ds _ h2)
end
/-- hidden heaps: growing, freezing, a new address hidden -/
theorem hide_mono {T : List (Addr × Str)} {H H' : Hp} {O O' : Zone} (e : Ex T H H') (h : ∀ b, O' b → O b ∨ Fresh H b) : Sub (hide H O) (hide H' O') := fun b o q n => by
  obtain ⟨q1, q2⟩ := hide_some.mp q
  refine hide_some.mpr ⟨fun z => ?_, e.ext b o q2 n⟩
  rcases h b z with z | z
  · exact q1 z
  · obtain ⟨ps, hp⟩ := z o q2
    exact n ps hp
theorem hide_ex {T : List (Addr × Str)} {H H' : Hp} {O : Zone} (e : Ex T H H') : Sub (hide H O) (hide H' O) := hide_mono e fun _ z => .inl z

/-! ### lists of data -/
theorem RpAll.length {K : PySem.W.Frag} {G : Hp} : ∀ {vs : List V} {ds : List D}, RpAll K G vs ds → vs.length = ds.length
  | [], [], _ => rfl
  | [], _ :: _, h => by cases h
  | _ :: _, [], h => by cases h
  | _ :: vs, _ :: ds, h => by
    cases h with
    | cons _ h2 => simp [RpAll.length h2]
theorem RpAll.get {K : PySem.W.Frag} {G : Hp} : ∀ {vs : List V} {ds : List D} {i : Nat} {d : D}, RpAll K G vs ds → ds[i]? = some d → ∃ v, vs[i]? = some v ∧ Rp K G v d
  | [], [], _, _, _, e => by simp at e
  | [], _ :: _, _, _, h, _ => by cases h
  | _ :: _, [], _, _, h, _ => by cases h
  | v :: vs, d' :: ds, 0, d, h, e => by
    cases h with
    | cons h1 _ => simp at e; subst e; exact ⟨v, rfl, h1⟩
  | _ :: vs, _ :: ds, i + 1, d, h, e => by
    cases h with
    | cons _ h2 =>
      obtain ⟨v, q1, q2⟩ := RpAll.get (i := i) h2 (by simpa using e)
      exact ⟨v, by simpa using q1, q2⟩
theorem RpAll.getV {K : PySem.W.Frag} {G : Hp} : ∀ {vs : List V} {ds : List D} {i : Nat} {v : V}, RpAll K G vs ds → vs[i]? = some v → ∃ d, ds[i]? = some d ∧ Rp K G v d
  | [], [], _, _, _, e => by simp at e
  | [], _ :: _, _, _, h, _ => by cases h
  | _ :: _, [], _, _, h, _ => by cases h
  | v' :: vs, d' :: ds, 0, v, h, e => by
    cases h with
    | cons h1 _ => simp at e; subst e; exact ⟨d', rfl, h1⟩
  | _ :: vs, _ :: ds, i + 1, v, h, e => by
    cases h with
    | cons _ h2 =>
      obtain ⟨d, q1, q2⟩ := RpAll.getV (i := i) h2 (by simpa using e)
      exact ⟨d, by simpa using q1, q2⟩
theorem RpAll.append {K : PySem.W.Frag} {G : Hp} : ∀ {vs ws : List V} {ds es : List D}, RpAll K G vs ds → RpAll K G ws es → RpAll K G (vs ++ ws) (ds ++ es)
  | [], _, [], _, _, h => h
  | [], _, _ :: _, _, h, _ => by cases h
  | _ :: _, _, [], _, h, _ => by cases h
  | _ :: _, _, _ :: _, _, h, h' => by
    cases h with
    | cons h1 h2 => exact .cons h1 (RpAll.append h2 h')
theorem RpAll.take {K : PySem.W.Frag} {G : Hp} : ∀ {vs : List V} {ds : List D} (n : Nat), RpAll K G vs ds → RpAll K G (vs.take n) (ds.take n)
  | [], [], n, _ => by simp; exact .nil
  | [], _ :: _, _, h => by cases h
  | _ :: _, [], _, h => by cases h
  | _ :: _, _ :: _, 0, _ => .nil
  | _ :: _, _ :: _, n + 1, h => by
    cases h with
    | cons h1 h2 => exact .cons h1 (RpAll.take n h2)
theorem RpAll.drop {K : PySem.W.Frag} {G : Hp} : ∀ {vs : List V} {ds : List D} (n : Nat), RpAll K G vs ds → RpAll K G (vs.drop n) (ds.drop n)
  | [], [], n, _ => by simp; exact .nil
  | [], _ :: _, _, h => by cases h
  | _ :: _, [], _, h => by cases h
  | _ :: _, _ :: _, 0, h => h
  | _ :: _, _ :: _, n + 1, h => by
    cases h with
    | cons _ h2 => exact RpAll.drop n h2
theorem RpAll.set {K : PySem.W.Frag} {G : Hp} {v : V} {d : D} (hv : Rp K G v d) : ∀ {vs : List V} {ds : List D} (n : Nat), RpAll K G vs ds → RpAll K G (vs.set n v) (ds.set n d)
  | [], [], n, _ => by simp; exact .nil
  | [], _ :: _, _, h => by cases h
  | _ :: _, [], _, h => by cases h
  | _ :: _, _ :: _, 0, h => by
    cases h with
    | cons _ h2 => exact .cons hv h2
  | _ :: _, _ :: _, n + 1, h => by
    cases h with
    | cons h1 h2 => exact .cons h1 (RpAll.set hv n h2)
theorem RpAll.reverse {K : PySem.W.Frag} {G : Hp} : ∀ {vs : List V} {ds : List D}, RpAll K G vs ds → RpAll K G vs.reverse ds.reverse
  | [], [], _ => .nil
  | [], _ :: _, h => by cases h
  | _ :: _, [], h => by cases h
  | _ :: _, _ :: _, h => by
    cases h with
    | cons h1 h2 =>
      rw [List.reverse_cons, List.reverse_cons]
      exact RpAll.append (RpAll.reverse h2) (.cons h1 .nil)
/-- ints -/
theorem RpAll.ints {K : PySem.W.Frag} {G : Hp} : ∀ {ns : List Int}, RpAll K G (ns.map V.int) (ns.map D.int)
  | [] => .nil
  | n :: ns => .cons (.int n) RpAll.ints
theorem RpAll.ints_inv {K : PySem.W.Frag} {G : Hp} : ∀ {ns : List Int} {vs : List V}, RpAll K G vs (ns.map D.int) → vs = ns.map V.int
  | [], vs, h => by cases h; rfl
  | n :: ns, vs, h => by
    cases h with
    | cons h1 h2 =>
      cases h1
      rw [RpAll.ints_inv h2]
      rfl

/-! ### dicts: keys -/
def keyD : Key → D
  | .inl i => .int i
  | .inr x => .str x
def dKey : D → Option Key
  | .int i => some (.inl i)
  | .str x => some (.inr x)
  | _ => none
def dKeys : List D → Option (List Key)
  | [] => some []
  | d :: ds => match dKey d, dKeys ds with
    | some k, some ks => some (k :: ks)
    | _, _ => none
theorem dKey_some {d : D} {k : Key} (h : dKey d = some k) : d = keyD k := by
  cases d <;> simp [dKey] at h <;> subst h <;> rfl
theorem dKey_keyD (k : Key) : dKey (keyD k) = some k := by cases k <;> rfl
theorem dKeys_some : ∀ {ds : List D} {ks : List Key}, dKeys ds = some ks → ds = ks.map keyD
  | [], ks, h => by simp [dKeys] at h; subst h; rfl
  | d :: ds, ks, h => by
    unfold dKeys at h
    cases h1 : dKey d with
    | none => simp [h1] at h
    | some k =>
      cases h2 : dKeys ds with
      | none => simp [h1, h2] at h
      | some ks' =>
        simp [h1, h2] at h
        subst h
        rw [dKey_some h1, dKeys_some h2]
        rfl
theorem dKeys_map : ∀ (ks : List Key), dKeys (ks.map keyD) = some ks
  | [] => rfl
  | k :: ks => by
    show (match dKey (keyD k), dKeys (ks.map keyD) with
    | some k, some ks => some (k :: ks)
    | _, _ => none) = _
    rw [dKey_keyD, dKeys_map ks]
theorem dp_key {K : PySem.W.Frag} {G : Hp} {v : V} {k : Key} (h : Rp K G v (keyD k)) : v = kV k := by
  cases k with
  | inl i => cases h; rfl
  | inr x => cases h; rfl
theorem key_dp {K : PySem.W.Frag} {G : Hp} (k : Key) : Rp K G (kV k) (keyD k) := by
  cases k with
  | inl i => exact .int i
  | inr x => exact .str x
theorem dp_keys {K : PySem.W.Frag} {G : Hp} : ∀ {ks : List Key} {vs : List V}, RpAll K G vs (ks.map keyD) → vs = ks.map kV
  | [], vs, h => by cases h; rfl
  | k :: ks, vs, h => by
    cases h with
    | cons h1 h2 => rw [dp_key h1, dp_keys h2]; rfl
theorem keys_dp {K : PySem.W.Frag} {G : Hp} : ∀ (ks : List Key), RpAll K G (ks.map kV) (ks.map keyD)
  | [] => .nil
  | k :: ks => .cons (key_dp k) (keys_dp ks)

/-- pairs: keys equal as data, values by Dp -/
inductive KvOk {κ : Type} (kd : κ → D) (K : PySem.W.Frag) (G : Hp) : List (κ × V) → List (D × D) → Prop
  | nil : KvOk kd K G [] []
  | cons {k : κ} {v : V} {d : D} {r : List (κ × V)} {s : List (D × D)} : Rp K G v d → KvOk kd K G r s → KvOk kd K G ((k, v) :: r) ((kd k, d) :: s)
theorem KvOk.mono {κ : Type} {kd : κ → D} {K : PySem.W.Frag} {G G' : Hp} (s : Sub G G') : ∀ {r : List (κ × V)} {kvs : List (D × D)}, KvOk kd K G r kvs → KvOk kd K G' r kvs
  | _, _, .nil => .nil
  | _, _, .cons h t => .cons (s.rp _ _ h) (KvOk.mono s t)

/-! ### slots and states -/
inductive SV where
  | fz (d : D)
  | own (d : D)
  | exn (c : Str)
abbrev MSt := List (Option SV)
/-- an owned object: its own address alone is its mutable part; what it holds stands in G -/
def At (K : PySem.W.Frag) (H G : Hp) (a : Addr) : D → Prop
  | .lst ds => ∃ xs, H a = some (.lst xs) ∧ RpAll K G xs ds
  | .dic kvs => (∃ r : List (Key × V), H a = some (.dK r) ∧ KvOk keyD K G r kvs) ∨ (∃ r : List (List Key × V), H a = some (.dT r) ∧ KvOk (fun ks => .tup (ks.map keyD)) K G r kvs)
  | _ => False
theorem At.mono {K : PySem.W.Frag} {H H' G G' : Hp} {a : Addr} {d : D} (e : Sub H H') (s : Sub G G') (o : At K H G a d) : At K H' G' a d := by
  cases d with
  | lst ds =>
    obtain ⟨xs, h1, h2⟩ := o
    exact ⟨xs, e _ _ h1 (fun ps z => nomatch z), s.rpAll _ _ h2⟩
  | dic kvs =>
    rcases o with ⟨r, h1, h2⟩ | ⟨r, h1, h2⟩
    · exact .inl ⟨r, e _ _ h1 (fun ps z => nomatch z), h2.mono s⟩
    · exact .inr ⟨r, e _ _ h1 (fun ps z => nomatch z), h2.mono s⟩
  | _ => exact o.elim
abbrev OwnAt (K : PySem.W.Frag) (H : Hp) (O : Zone) (a : Addr) (d : D) : Prop := At K H (hide H O) a d
theorem OwnAt.mono {T : List (Addr × Str)} {K : PySem.W.Frag} {H H' : Hp} {O O' : Zone} {a : Addr} {d : D} (e : Ex T H H') (h : ∀ b, O' b → O b ∨ Fresh H b) (o : OwnAt K H O a d) : OwnAt K H' O' a d :=
  At.mono e.sub (hide_mono e h) o
/-- a list or a dict -/
def D.isObj : D → Bool
  | .lst _ => true
  | .dic _ => true
  | _ => false
theorem At.isObj {K : PySem.W.Frag} {H G : Hp} {a : Addr} {d : D} (o : At K H G a d) : d.isObj = true := by
  cases d <;> first | rfl | exact o.elim

/-- what is read: a value x of data d -/
def Vw (K : PySem.W.Frag) (H : Hp) (O : Zone) (x : V) (d : D) : Prop := (∃ a, x = .ref a ∧ OwnAt K H O a d) ∨ Rp K (hide H O) x d
theorem Vw.mono {T : List (Addr × Str)} {K : PySem.W.Frag} {H H' : Hp} {O O' : Zone} {x : V} {d : D} (e : Ex T H H') (h : ∀ b, O' b → O b ∨ Fresh H b) (v : Vw K H O x d) : Vw K H' O' x d := by
  rcases v with ⟨a, h1, h2⟩ | v
  · exact .inl ⟨a, h1, h2.mono e h⟩
  · exact .inr ((hide_mono e h).rp _ _ v)
theorem Vw.ex {T : List (Addr × Str)} {K : PySem.W.Frag} {H H' : Hp} {O : Zone} {x : V} {d : D} (e : Ex T H H') (v : Vw K H O x d) : Vw K H' O x d := v.mono e fun _ z => .inl z
section
variable {K : PySem.W.Frag} {H : Hp} {O : Zone} {x : V}
theorem Vw.int {i : Int} (v : Vw K H O x (.int i)) : x = .int i := by
  rcases v with ⟨a, _, h2⟩ | v
  · exact h2.elim
  · cases v; rfl
theorem Vw.non (v : Vw K H O x .non) : x = .non := by
  rcases v with ⟨a, _, h2⟩ | v
  · exact h2.elim
  · cases v; rfl
theorem Vw.bl {b : Bool} (v : Vw K H O x (.bl b)) : x = .bl b := by
  rcases v with ⟨a, _, h2⟩ | v
  · exact h2.elim
  · cases v; rfl
theorem Vw.str {y : Str} (v : Vw K H O x (.str y)) : x = .str y := by
  rcases v with ⟨a, _, h2⟩ | v
  · exact h2.elim
  · cases v; rfl
theorem Vw.lst {ds : List D} (v : Vw K H O x (.lst ds)) : ∃ a xs, x = .ref a ∧ H a = some (.lst xs) ∧ RpAll K (hide H O) xs ds := by
  rcases v with ⟨a, h1, xs, h2, h3⟩ | v
  · exact ⟨a, xs, h1, h2, h3⟩
  · cases v with
    | lst h1 h2 => exact ⟨_, _, rfl, (hide_some.mp h1).2, h2⟩
theorem Vw.tup {ds : List D} (v : Vw K H O x (.tup ds)) : ∃ a xs, x = .ref a ∧ H a = some (.tup xs) ∧ RpAll K (hide H O) xs ds := by
  rcases v with ⟨a, _, h2⟩ | v
  · exact h2.elim
  · cases v with
    | tup h1 h2 => exact ⟨_, _, rfl, (hide_some.mp h1).2, h2⟩
theorem Vw.scr {ns : List Int} (v : Vw K H O x (.scr ns)) : ∃ a, x = .ref a ∧ SqL K H a (ns.map V.int) := by
  rcases v with ⟨a, _, h2⟩ | v
  · exact h2.elim
  · cases v with
    | scr h1 => exact ⟨_, rfl, (hide_sub H O).sqL h1⟩
theorem Vw.dic {kvs : List (D × D)} (v : Vw K H O x (.dic kvs)) : ∃ a, x = .ref a ∧ OwnAt K H O a (.dic kvs) := by
  rcases v with ⟨a, h1, h2⟩ | v
  · exact ⟨a, h1, h2⟩
  · cases v
/-- no dict at the top -/
def noDict : D → Bool
  | .dic _ => false
  | _ => true
theorem Vw.rp {d : D} (v : Vw K H O x d) (n : noDict d = true) : Rp K H x d := by
  have s := hide_sub H O
  rcases v with ⟨a, rfl, h2⟩ | v
  · cases d with
    | lst ds =>
      obtain ⟨xs, h3, h4⟩ := h2
      exact .lst h3 (s.rpAll _ _ h4)
    | dic _ => cases n
    | _ => exact h2.elim
  · exact s.rp _ _ v
theorem Vw.of_rp {d : D} (h : Rp K (hide H O) x d) : Vw K H O x d := .inr h
theorem Vw.of_own {a : Addr} {d : D} (h : OwnAt K H O a d) : Vw K H O (.ref a) d := .inl ⟨a, rfl, h⟩
end

/-! ### results -/
inductive Kd where
  | fz | fr | bor
structure RV where
  k : Kd
  d : D
inductive Out (α : Type) where
  | ok (a : α)
  | exc (c : Str)
  | bad
/-- a result of code that ran from H to H' -/
def ResOk (K : PySem.W.Frag) (H H' : Hp) (O : Zone) (x : V) (r : RV) : Prop :=
  match r.k with
  | .fz => Rp K (hide H' O) x r.d
  | .fr => ∃ a, x = .ref a ∧ Fresh H a ∧ OwnAt K H' (fun b => O b ∨ b = a) a r.d
  | .bor => Vw K H' O x r.d
/-- lists and dicts -/
def isLD : HO → Bool
  | .lst _ => true
  | .dK _ => true
  | .dT _ => true
  | _ => false
theorem isLD.nt {o : HO} (h : isLD o = true) : ∀ ps, o ≠ .tbl ps := fun ps z => by rw [z] at h; cases h
/-- the zone's objects stand -/
def Dom (H : Hp) (O : Zone) : Prop := ∀ a, O a → ∃ o, H a = some o ∧ isLD o = true
theorem Dom.ex {T : List (Addr × Str)} {H H' : Hp} {O : Zone} (d : Dom H O) (e : Ex T H H') : Dom H' O := fun a h => by
  obtain ⟨o, h1, h2⟩ := d a h
  exact ⟨o, e.ext a o h1 (isLD.nt h2), h2⟩
theorem Dom.fresh {H : Hp} {O : Zone} (d : Dom H O) {a : Addr} (f : Fresh H a) : ¬ O a := fun h => by
  obtain ⟨o, h1, h2⟩ := d a h
  obtain ⟨ps, e⟩ := f o h1
  exact isLD.nt h2 ps e
theorem Dom.tup {H : Hp} {O : Zone} (d : Dom H O) {a : Addr} {xs : List V} (h : H a = some (.tup xs)) : hide H O a = some (.tup xs) := by
  refine hide_some.mpr ⟨fun z => ?_, h⟩
  obtain ⟨o, h1, h2⟩ := d a z
  rw [h] at h1
  cases h1
  cases h2
theorem ResOk.vw {T : List (Addr × Str)} {K : PySem.W.Frag} {H H' : Hp} {O : Zone} {x : V} {r : RV} (h : ResOk K H H' O x r) : Vw K H' O x r.d := by
  obtain ⟨k, d⟩ := r
  cases k with
  | fz => exact .inr h
  | bor => exact h
  | fr =>
    obtain ⟨a, h1, _, h3⟩ := h
    exact .inl ⟨a, h1, OwnAt.mono (T := T) (Ex.refl _) (fun b z => .inl (.inl z)) h3⟩
theorem ResOk.ex {T : List (Addr × Str)} {K : PySem.W.Frag} {H H' H'' : Hp} {O : Zone} {x : V} {r : RV} (h : ResOk K H H' O x r) (e : Ex T H' H'') : ResOk K H H'' O x r := by
  obtain ⟨k, d⟩ := r
  cases k with
  | fz => exact (hide_ex e).rp _ _ h
  | bor => exact Vw.ex e h
  | fr =>
    obtain ⟨a, h1, h2, h3⟩ := h
    exact ⟨a, h1, h2, OwnAt.mono e (fun b z => .inl z) h3⟩
theorem ResOk.back {T : List (Addr × Str)} {K : PySem.W.Frag} {H H1 H' : Hp} {O : Zone} {x : V} {r : RV} (h : ResOk K H1 H' O x r) (e : Ex T H H1) : ResOk K H H' O x r := by
  obtain ⟨k, d⟩ := r
  cases k with
  | fz => exact h
  | bor => exact h
  | fr =>
    obtain ⟨a, h1, h2, h3⟩ := h
    exact ⟨a, h1, h2.back e, h3⟩
/-- may be kept: no borrowed object, no dict -/
def RV.keep (r : RV) : Bool := match r.k with
  | .fz => true
  | .fr => noDict r.d
  | .bor => false
theorem ResOk.rp {T : List (Addr × Str)} {K : PySem.W.Frag} {H H' : Hp} {O : Zone} {x : V} {r : RV} (h : ResOk K H H' O x r) (d : Dom H O) (k : r.keep = true) : Rp K (hide H' O) x r.d := by
  obtain ⟨k', dd⟩ := r
  cases k' with
  | fz => exact h
  | bor => cases k
  | fr =>
    obtain ⟨a, rfl, h2, h3⟩ := h
    have na := d.fresh h2
    have s : Sub (hide H' fun b => O b ∨ b = a) (hide H' O) := hide_mono (T := T) (Ex.refl _) fun b z => .inl (.inl z)
    cases dd with
    | lst ds =>
      obtain ⟨xs, h4, h5⟩ := h3
      exact .lst (hide_some.mpr ⟨na, h4⟩) (s.rpAll _ _ h5)
    | dic _ => cases k
    | _ => exact h3.elim
end Mini

set_option Elab.async false
set_option linter.all false
set_option maxRecDepth 100000
/-! Mini 2: the state's relation; readings of expressions by functions of states. -/
namespace Mini
open PySem L2 LamX

structure Fm where
  K : PySem.W.Frag
  T : List (Addr × Str)
  Xn : V → Str → Prop
/-- what a body was entered with: the callers' zone, the heap -/
structure Dm where
  S : Zone
  H0 : Hp
def SlotOk (F : Fm) (M : Dm) (H : Hp) (O : Zone) (x : V) : SV → Prop
  | .fz d => Rp F.K (hide H O) x d
  | .own d => ∃ a, x = .ref a ∧ O a ∧ ¬ M.S a ∧ Fresh M.H0 a ∧ OwnAt F.K H O a d
  | .exn c => F.Xn x c
structure Rel (F : Fm) (M : Dm) (st : MSt) (σ : L2.St) (H : Hp) (O : Zone) : Prop where
  sub : ∀ a, M.S a → O a
  dom : Dom H O
  tabs : Tabs F.T H
  ex0 : Ex F.T M.H0 H
  len : st.length = σ.length
  slot : ∀ (i : Nat) (v : SV), st[i]? = some (some v) → ∃ x, σ[i]? = some (some x) ∧ SlotOk F M H O x v
  uniq : ∀ (i j : Nat) (d d' : D) (a : Addr), st[i]? = some (some (.own d)) → st[j]? = some (some (.own d')) → σ[i]? = some (some (.ref a)) → σ[j]? = some (some (.ref a)) → i = j
theorem SlotOk.ex {F : Fm} {M : Dm} {H H' : Hp} {O : Zone} {x : V} {v : SV} (h : SlotOk F M H O x v) (e : Ex F.T H H') : SlotOk F M H' O x v := by
  cases v with
  | fz d => exact (hide_ex e).rp _ _ h
  | own d =>
    obtain ⟨a, h1, h2, h3, h4, h5⟩ := h
    exact ⟨a, h1, h2, h3, h4, h5.mono e fun _ z => .inl z⟩
  | exn c => exact h
theorem Rel.ex {F : Fm} {M : Dm} {st : MSt} {σ : L2.St} {H H' : Hp} {O : Zone} (r : Rel F M st σ H O) (e : Ex F.T H H') : Rel F M st σ H' O :=
  ⟨r.sub, r.dom.ex e, e.tabs r.tabs, r.ex0.trans e, r.len, fun i v h => let ⟨x, h1, h2⟩ := r.slot i v h; ⟨x, h1, h2.ex e⟩, r.uniq⟩

/-! ### outcomes -/
def Out.bind {α β : Type} (o : Out α) (f : α → Out β) : Out β := match o with
  | .ok a => f a
  | .exc c => .exc c
  | .bad => .bad
def Out.of {α : Type} : Option α → Out α
  | some a => .ok a
  | none => .bad
/-- what is wanted of an outcome -/
def OutP {α : Type} (o : Out α) (k : α → Prop) (x : Str → Prop) : Prop := match o with
  | .ok a => k a
  | .exc c => x c
  | .bad => False
theorem OutP.bind {α β : Type} {o : Out α} {f : α → Out β} {k : β → Prop} {x : Str → Prop} (h : OutP (o.bind f) k x) : OutP o (fun a => OutP (f a) k x) x := by
  cases o with
  | ok a => exact h
  | exc c => exact h
  | bad => exact h
theorem OutP.mono {α : Type} {o : Out α} {k k' : α → Prop} {x x' : Str → Prop} (h : OutP o k x) (hk : ∀ a, o = .ok a → k a → k' a) (hx : ∀ c, o = .exc c → x c → x' c) : OutP o k' x' := by
  cases o with
  | ok a => exact hk a rfl h
  | exc c => exact hx c rfl h
  | bad => exact h
theorem OutP.of {α : Type} {o : Option α} {k : α → Prop} {x : Str → Prop} (h : OutP (Out.of o) k x) : ∃ a, o = some a ∧ k a := by
  cases o with
  | some a => exact ⟨a, rfl, h⟩
  | none => exact h.elim
theorem OutP.ite {α : Type} {c : Prop} [Decidable c] {a : Out α} {k : α → Prop} {x : Str → Prop} (h : OutP (if c then a else .bad) k x) : c ∧ OutP a k x := by
  by_cases hc : c
  · rw [if_pos hc] at h
    exact ⟨hc, h⟩
  · rw [if_neg hc] at h
    exact h.elim
/-! ### data brought to its plain form before it goes on (the kernel keeps it small) -/
section
variable {α : Type}
def forceN (n : Nat) (k : Nat → α) : α := match n with
  | 0 => k 0
  | m + 1 => k (m + 1)
def forceI (i : Int) (k : Int → α) : α := match i with
  | .ofNat n => forceN n fun n => k (.ofNat n)
  | .negSucc n => forceN n fun n => k (.negSucc n)
theorem forceN_eq (n : Nat) (k : Nat → α) : forceN n k = k n := by cases n <;> rfl
theorem forceI_eq (i : Int) (k : Int → α) : forceI i k = k i := by
  cases i with
  | ofNat n => unfold forceI; simp only [forceN_eq]
  | negSucc n => unfold forceI; simp only [forceN_eq]
def force0 (d : D) (k : D → α) : α := match d with
  | .int i => forceI i fun i => k (.int i)
  | d => k d
theorem force0_eq (d : D) (k : D → α) : force0 d k = k d := by
  unfold force0
  split
  · rw [forceI_eq]
  · rfl
def forceL0 : List D → (List D → α) → α
  | [], k => k []
  | d :: ds, k => force0 d fun d => forceL0 ds fun ds => k (d :: ds)
theorem forceL0_eq : ∀ (ds : List D) (k : List D → α), forceL0 ds k = k ds
  | [], k => rfl
  | d :: ds, k => by
    show force0 d (fun d => forceL0 ds fun ds => k (d :: ds)) = _
    rw [force0_eq, forceL0_eq ds]
def force1 (d : D) (k : D → α) : α := match d with
  | .int i => forceI i fun i => k (.int i)
  | .lst ds => forceL0 ds fun ds => k (.lst ds)
  | .tup ds => forceL0 ds fun ds => k (.tup ds)
  | d => k d
theorem force1_eq (d : D) (k : D → α) : force1 d k = k d := by
  unfold force1
  split
  · rw [forceI_eq]
  · rw [forceL0_eq]
  · rw [forceL0_eq]
  · rfl
def forceL1 : List D → (List D → α) → α
  | [], k => k []
  | d :: ds, k => force1 d fun d => forceL1 ds fun ds => k (d :: ds)
theorem forceL1_eq : ∀ (ds : List D) (k : List D → α), forceL1 ds k = k ds
  | [], k => rfl
  | d :: ds, k => by
    show force1 d (fun d => forceL1 ds fun ds => k (d :: ds)) = _
    rw [force1_eq, forceL1_eq ds]
def force2 (d : D) (k : D → α) : α := match d with
  | .int i => forceI i fun i => k (.int i)
  | .lst ds => forceL1 ds fun ds => k (.lst ds)
  | .tup ds => forceL1 ds fun ds => k (.tup ds)
  | d => k d
theorem force2_eq (d : D) (k : D → α) : force2 d k = k d := by
  unfold force2
  split
  · rw [forceI_eq]
  · rw [forceL1_eq]
  · rw [forceL1_eq]
  · rfl
def forceL2 : List D → (List D → α) → α
  | [], k => k []
  | d :: ds, k => force2 d fun d => forceL2 ds fun ds => k (d :: ds)
theorem forceL2_eq : ∀ (ds : List D) (k : List D → α), forceL2 ds k = k ds
  | [], k => rfl
  | d :: ds, k => by
    show force2 d (fun d => forceL2 ds fun ds => k (d :: ds)) = _
    rw [force2_eq, forceL2_eq ds]
def force3 (d : D) (k : D → α) : α := match d with
  | .int i => forceI i fun i => k (.int i)
  | .lst ds => forceL2 ds fun ds => k (.lst ds)
  | .tup ds => forceL2 ds fun ds => k (.tup ds)
  | d => k d
theorem force3_eq (d : D) (k : D → α) : force3 d k = k d := by
  unfold force3
  split
  · rw [forceI_eq]
  · rw [forceL2_eq]
  · rw [forceL2_eq]
  · rfl
def forceS : MSt → (MSt → α) → α
  | [], k => k []
  | x :: r, k => forceS r fun r => k (x :: r)
theorem forceS_eq : ∀ (st : MSt) (k : MSt → α), forceS st k = k st
  | [], k => rfl
  | x :: r, k => by
    show forceS r (fun r => k (x :: r)) = _
    rw [forceS_eq r]
end
abbrev DE := MSt → Out RV
abbrev DT := MSt → Out Bool
abbrev DA := MSt → Out (List RV)

/-- the reading of a function of states -/
def Tx (F : Fm) (W : WX) (cv : Str → Value) {α β : Type} (ok : Hp → Hp → Zone → β → α → Prop) (de : MSt → Out α) (σ : L2.St) (H : Hp) (Q : β → Hp → Prop) : Prop :=
  ∃ M st O, Rel F M st σ H O ∧ OutP (de st) (fun r => ∀ x H', Ex F.T H H' → ok H H' O x r → Q x H') (fun c => ∀ H', Ex F.T H H' → W (cv c) none σ H')
abbrev okE (F : Fm) : Hp → Hp → Zone → V → RV → Prop := fun H H' O x r => ResOk F.K H H' O x r
abbrev okT : Hp → Hp → Zone → Bool → Bool → Prop := fun _ _ _ b r => b = r
def TEx (F : Fm) (W : WX) (cv : Str → Value) (de : DE) : TE := fun σ H Q => Tx F W cv (okE F) de σ H Q
def TTx (F : Fm) (W : WX) (cv : Str → Value) (de : DT) : TT := fun σ H Q => Tx F W cv okT de σ H Q
/-- results in a row: new objects are distinct -/
inductive ResAll (K : PySem.W.Frag) (H H' : Hp) (O : Zone) : List V → List RV → Prop
  | nil : ResAll K H H' O [] []
  | cons {x : V} {r : RV} {xs : List V} {rs : List RV} : ResOk K H H' O x r → (∀ (a : Addr) (j : Nat) (s : RV), r.k = .fr → x = .ref a → rs[j]? = some s → s.k = .fr → xs[j]? ≠ some (.ref a)) → ResAll K H H' O xs rs → ResAll K H H' O (x :: xs) (r :: rs)
abbrev okL (F : Fm) : Hp → Hp → Zone → List V → List RV → Prop := fun H H' O xs rs => ResAll F.K H H' O xs rs
def TAx (F : Fm) (W : WX) (cv : Str → Value) (de : DA) : TA := fun σ H Q => Tx F W cv (okL F) de σ H Q
section
variable {F : Fm} {W : WX} {cv : Str → Value} {X : Cx} {e a b c : Expr} {pos : Pos}
theorem pe_w {t t' : TE} (h : PE X e t) (w : ∀ σ H Q, t' σ H Q → t σ H Q) : PE X e t' := ⟨fun pins s σ H Q I q => h.run pins s σ H Q I (w σ H Q q)⟩
theorem pt_w {t t' : TT} (h : PT X e t) (w : ∀ σ H Q, t' σ H Q → t σ H Q) : PT X e t' := ⟨fun pins s σ H Q I q => h.run pins s σ H Q I (w σ H Q q)⟩
theorem pa_w {es : List Expr} {t t' : TA} (h : PA X es t) (w : ∀ σ H Q, t' σ H Q → t σ H Q) : PA X es t' := ⟨fun pos pins s σ H Q I q => h.run pos pins s σ H Q I (w σ H Q q)⟩

/-- one reading behind another -/
theorem tx_bind {α β γ δ : Type} {okA : Hp → Hp → Zone → β → α → Prop} {okC : Hp → Hp → Zone → δ → γ → Prop} {da : MSt → Out α} {f : α → MSt → Out γ} {σ : L2.St} {H : Hp} {Q : δ → Hp → Prop} {P : β → Hp → Prop}
    (h : Tx F W cv okC (fun st => (da st).bind fun r => f r st) σ H Q)
    (step : ∀ M st O r x H1, Rel F M st σ H O → Ex F.T H H1 → Rel F M st σ H1 O → okA H H1 O x r →
      OutP (f r st) (fun t => ∀ y H', Ex F.T H1 H' → okC H H' O y t → Q y H') (fun c => ∀ H', Ex F.T H1 H' → W (cv c) none σ H') → P x H1) : Tx F W cv okA da σ H P := by
  obtain ⟨M, st, O, R, h⟩ := h
  refine ⟨M, st, O, R, (OutP.bind h).mono (fun r _ h x H1 e1 k1 => ?_) fun c _ h => h⟩
  exact step M st O r x H1 R e1 (R.ex e1) k1 (h.mono (fun t _ h y H' e k => h y H' (e1.trans e) k) fun c _ h H' e => h H' (e1.trans e))
/-- the rest of a reading, from a later heap -/
theorem tx_back {α β : Type} {ok : Hp → Hp → Zone → β → α → Prop} {de : MSt → Out α} {M : Dm} {st : MSt} {O : Zone} {σ : L2.St} {H H1 : Hp} {Q : β → Hp → Prop} (R1 : Rel F M st σ H1 O)
    (back : ∀ H' x r, ok H1 H' O x r → ok H H' O x r)
    (h : OutP (de st) (fun t => ∀ y H', Ex F.T H1 H' → ok H H' O y t → Q y H') (fun c => ∀ H', Ex F.T H1 H' → W (cv c) none σ H')) : Tx F W cv ok de σ H1 Q :=
  ⟨M, st, O, R1, h.mono (fun t _ h y H' e k => h y H' e (back H' y t k)) fun c _ h => h⟩

/-! ### names and constants -/
def dVar (i : Nat) : DE := fun st => match st[i]? with
  | some (some (.fz d)) => .ok ⟨.fz, d⟩
  | some (some (.own d)) => .ok ⟨.bor, d⟩
  | _ => .bad
theorem s_var {i : Nat} {x : Str} (hN : X.N[i]? = some x) (hv : Vis X.env.scope x) (hd : (x == ("__debug__" : Str)) = false) (hcd : (x == ("__classdict__" : Str)) = false) : PE X (.Name x pos) (TEx F W cv (dVar i)) := by
  refine pe_w (pe_var hN hv hd hcd) fun σ H Q ⟨M, st, O, R, h⟩ => ?_
  unfold dVar at h
  cases q : st[i]? with
  | none => rw [q] at h; exact h.elim
  | some o =>
    cases o with
    | none => rw [q] at h; exact h.elim
    | some v =>
      rw [q] at h
      obtain ⟨x, h1, h2⟩ := R.slot i _ q
      cases v with
      | fz d => exact ⟨x, h1, h x H (Ex.refl H) h2⟩
      | own d =>
        obtain ⟨a, h2, _, _, _, h3⟩ := h2
        exact ⟨x, h1, h x H (Ex.refl H) (.inl ⟨a, h2, h3⟩)⟩
      | exn c => exact h.elim
def dLit (d : D) : DE := fun _ => .ok ⟨.fz, d⟩
def D.scal : D → Bool
  | .non => true | .bl _ => true | .int _ => true | .str _ => true
  | _ => false
/-- a constant's value -/
def D.v : D → V
  | .non => .non
  | .bl b => .bl b
  | .int i => .int i
  | .str x => .str x
  | _ => .non
theorem D.rp_v {K : PySem.W.Frag} {G : Hp} {d : D} (h : d.scal = true) : Rp K G d.v d := by
  cases d with
  | non => exact .non
  | bl b => exact .bl b
  | int i => exact .int i
  | str x => exact .str x
  | _ => cases h
theorem s_lit {d : D} (hs : d.scal = true) (h : PE X e (tC d.v)) : PE X e (TEx F W cv (dLit d)) :=
  pe_w h fun σ H Q ⟨M, st, O, R, h⟩ => h _ H (Ex.refl H) (D.rp_v hs)

/-! ### two-place operations by values -/
def OpSim (K : PySem.W.Frag) (T : List (Addr × Str)) (r : R2) (f : D → D → Option RV) : Prop :=
  ∀ (O : Zone) (H : Hp) (x y : V) (dx dy : D) (t : RV) (Q : VK), Dom H O → Vw K H O x dx → Vw K H O y dy → f dx dy = some t → (∀ z H', Ex T H H' → ResOk K H H' O z t → Q z H') → r x y H Q
def dOp (f : D → D → Option RV) (da db : DE) : DE := fun st => (da st).bind fun r => (db st).bind fun s => .of (f r.d s.d)
theorem t_op {r : R2} {f : D → D → Option RV} {da db : DE} (hs : OpSim F.K F.T r f) {σ : L2.St} {H : Hp} {Q : VK} (h : TEx F W cv (dOp f da db) σ H Q) : tOp r (TEx F W cv da) (TEx F W cv db) σ H Q := by
  show Tx F W cv (okE F) da σ H _
  refine tx_bind (okA := okE F) (okC := okE F) (f := fun (r : RV) st => (db st).bind fun s => Out.of (f r.d s.d)) h fun M st O ra x H1 R e1 R1 k1 h1 => ?_
  refine ⟨M, st, O, R1, (OutP.bind h1).mono (fun rb _ h2 y H2 e2 k2 => ?_) fun c _ h => h⟩
  obtain ⟨t, q2, h3⟩ := h2.of
  exact hs O H2 x y ra.d rb.d t Q (R1.ex e2).dom ((k1.vw (T := F.T)).ex e2) (k2.vw (T := F.T)) q2 fun z H' e k => h3 z H' (e2.trans e) (k.back (e1.trans e2))
theorem s_op {op : Operator} {r : R2} {f : D → D → Option RV} {da db : DE} (ho : OpR X (binaryOp op) r) (hs : OpSim F.K F.T r f) (ha : PE X a (TEx F W cv da)) (hb : PE X b (TEx F W cv db)) : PE X (.BinOp a op b pos) (TEx F W cv (dOp f da db)) :=
  pe_w (pe_op ho ha hb) fun _ _ _ h => t_op hs h
theorem s_cmp {op : CmpOp} {r : R2} {f : D → D → Option RV} {da db : DE} (ho : OpR X (compareOp op) r) (hs : OpSim F.K F.T r f) (ha : PE X a (TEx F W cv da)) (hb : PE X b (TEx F W cv db)) (hm : behindInMarks op b = false) : PE X (.Compare a [op] [b] pos) (TEx F W cv (dOp f da db)) :=
  pe_w (pe_cmpR ho ha hb hm) fun _ _ _ h => t_op hs h
theorem s_ix {r : R2} {f : D → D → Option RV} {da db : DE} (ho : IxR X r) (hs : OpSim F.K F.T r f) (ha : PE X a (TEx F W cv da)) (hb : PE X b (TEx F W cv db)) (hp : PlainIx b) : PE X (.Subscript a b pos) (TEx F W cv (dOp f da db)) :=
  pe_w (pe_ix ho ha hb hp) fun _ _ _ h => t_op hs h
/-- one or the other rule -/
theorem OpSim.or {K : PySem.W.Frag} {T : List (Addr × Str)} {r r' : R2} {f g : D → D → Option RV} (h : OpSim K T r f) (h' : OpSim K T r' g) : OpSim K T (fun x y H Q => r x y H Q ∨ r' x y H Q) (fun a b => match f a b with | some t => some t | none => g a b) := by
  intro O H x y dx dy t Q hd v w q k
  cases e : f dx dy with
  | some u =>
    simp only [e] at q
    exact .inl (h O H x y dx dy u Q hd v w e (by cases q; exact k))
  | none =>
    simp only [e] at q
    exact .inr (h' O H x y dx dy t Q hd v w q k)

/-! ### tests -/
def dTest (da : DE) (tr : D → Option Bool) : DT := fun st => (da st).bind fun r => .of (tr r.d)
/-- a value's truth, the value a bool -/
def trB : D → Option Bool
  | .bl b => some b
  | _ => none
theorem s_test {da : DE} (h : PT X e (tB (TEx F W cv da))) : PT X e (TTx F W cv (dTest da trB)) := by
  refine pt_w h fun σ H Q h => ?_
  show Tx F W cv (okE F) da σ H _
  refine tx_bind (okA := okE F) (okC := okT) (f := fun (r : RV) st => Out.of (trB r.d)) h fun M st O ra x H1 R e1 R1 k1 h1 => ?_
  obtain ⟨b, q, h2⟩ := h1.of
  obtain ⟨k, d⟩ := ra
  cases d with
  | bl b' => cases q; exact ⟨b, (k1.vw (T := F.T)).bl, h2 b H1 (Ex.refl _) rfl⟩
  | _ => cases q
def dAnd (t u : DT) : DT := fun st => (t st).bind fun b => if b = true then u st else .ok false
def dOr (t u : DT) : DT := fun st => (t st).bind fun b => if b = true then .ok true else u st
def dNot (t : DT) : DT := fun st => (t st).bind fun b => .ok (!b)
theorem t_and {t u : DT} {σ : L2.St} {H : Hp} {Q : Bool → Hp → Prop} (h : TTx F W cv (dAnd t u) σ H Q) : tAnd (TTx F W cv t) (TTx F W cv u) σ H Q := by
  show Tx F W cv okT t σ H _
  refine tx_bind (okA := okT) (okC := okT) (f := fun (b : Bool) st => if b = true then u st else .ok false) h fun M st O b x H1 R e1 R1 k1 h1 => ?_
  obtain rfl : x = b := k1
  cases x with
  | true => exact ⟨M, st, O, R1, h1⟩
  | false => exact h1 false H1 (Ex.refl _) rfl
theorem t_or {t u : DT} {σ : L2.St} {H : Hp} {Q : Bool → Hp → Prop} (h : TTx F W cv (dOr t u) σ H Q) : tOr (TTx F W cv t) (TTx F W cv u) σ H Q := by
  show Tx F W cv okT t σ H _
  refine tx_bind (okA := okT) (okC := okT) (f := fun (b : Bool) st => if b = true then .ok true else u st) h fun M st O b x H1 R e1 R1 k1 h1 => ?_
  obtain rfl : x = b := k1
  cases x with
  | true => exact h1 true H1 (Ex.refl _) rfl
  | false => exact ⟨M, st, O, R1, h1⟩
theorem t_not {t : DT} {σ : L2.St} {H : Hp} {Q : Bool → Hp → Prop} (h : TTx F W cv (dNot t) σ H Q) : tNot (TTx F W cv t) σ H Q := by
  show Tx F W cv okT t σ H _
  refine tx_bind (okA := okT) (okC := okT) (f := fun (b : Bool) st => Out.ok (!b)) h fun M st O b x H1 R e1 R1 k1 h1 => ?_
  obtain rfl : x = b := k1
  exact h1 _ H1 (Ex.refl _) rfl
/-- a if t else b -/
def dIf (t : DT) (da db : DE) : DE := fun st => (t st).bind fun c => if c = true then da st else db st
theorem t_if {t : DT} {da db : DE} {σ : L2.St} {H : Hp} {Q : VK} (h : TEx F W cv (dIf t da db) σ H Q) : tIf (TTx F W cv t) (TEx F W cv da) (TEx F W cv db) σ H Q := by
  show Tx F W cv okT t σ H _
  refine tx_bind (okA := okT) (okC := okE F) (f := fun (c : Bool) st => if c = true then da st else db st) h fun M st O b x H1 R e1 R1 k1 h1 => ?_
  obtain rfl : x = b := k1
  cases x with
  | true => exact tx_back R1 (fun H' y r k => k.back e1) h1
  | false => exact tx_back R1 (fun H' y r k => k.back e1) h1
theorem s_if (hc : PT X c (TTx F W cv t)) (ha : PE X a (TEx F W cv da)) (hb : PE X b (TEx F W cv db)) : PE X (.IfExp c a b pos) (TEx F W cv (dIf t da db)) := pe_w (pe_ifExp hc ha hb) fun _ _ _ h => t_if h

/-! ### arguments -/
def dNil : DA := fun _ => .ok []
def dCons (da : DE) (dr : DA) : DA := fun st => (da st).bind fun r => (dr st).bind fun rs => .ok (r :: rs)
theorem ResAll.ex {T : List (Addr × Str)} {K : PySem.W.Frag} {H H' H'' : Hp} {O : Zone} (e : Ex T H' H'') : ∀ {xs : List V} {rs : List RV}, ResAll K H H' O xs rs → ResAll K H H'' O xs rs
  | _, _, .nil => .nil
  | _, _, .cons h d t => .cons (h.ex e) d (ResAll.ex e t)
theorem ResAll.back {T : List (Addr × Str)} {K : PySem.W.Frag} {H H1 H' : Hp} {O : Zone} (e : Ex T H H1) : ∀ {xs : List V} {rs : List RV}, ResAll K H1 H' O xs rs → ResAll K H H' O xs rs
  | _, _, .nil => .nil
  | _, _, .cons h d t => .cons (h.back e) d (ResAll.back e t)
theorem ResAll.fresh {K : PySem.W.Frag} {H H' : Hp} {O : Zone} : ∀ {xs : List V} {rs : List RV} {j : Nat} {s : RV} {a : Addr}, ResAll K H H' O xs rs → rs[j]? = some s → s.k = .fr → xs[j]? = some (.ref a) → Fresh H a
  | _, _, _, _, _, .nil, h, _, _ => by simp at h
  | _, _, 0, s, a, .cons (r := r) h _ _, h1, h2, h3 => by
    obtain rfl : r = s := by simpa using h1
    obtain ⟨k, d⟩ := r
    cases (show k = .fr from h2)
    obtain ⟨b, hb, hf, _⟩ := h
    have : V.ref a = V.ref b := by
      have := h3
      simp at this
      rw [← this, hb]
    cases this
    exact hf
  | _, _, j + 1, s, a, .cons _ _ t, h1, h2, h3 => ResAll.fresh (j := j) t (by simpa using h1) h2 (by simpa using h3)
theorem s_nil : PA X [] (TAx F W cv dNil) := pa_w pa_nil fun σ H Q ⟨M, st, O, R, h⟩ => h [] H (Ex.refl H) .nil
theorem s_cons {es : List Expr} {da : DE} {dr : DA} (ha : PE X e (TEx F W cv da)) (hr : PA X es (TAx F W cv dr)) (hs : starEach (e :: es) X.env = (false, eval e X.env) :: starEach es X.env) : PA X (e :: es) (TAx F W cv (dCons da dr)) := by
  refine pa_w (pa_cons ha hr hs) fun σ H Q h => ?_
  show Tx F W cv (okE F) da σ H _
  refine tx_bind (okA := okE F) (okC := okL F) (f := fun (r : RV) st => (dr st).bind fun rs => .ok (r :: rs)) h fun M st O ra x H1 R e1 R1 k1 h1 => ?_
  refine ⟨M, st, O, R1, (OutP.bind h1).mono (fun rs _ h2 xs H2 e2 k2 => ?_) fun c _ h => h⟩
  refine h2 (x :: xs) H2 e2 (.cons (k1.ex e2) (fun a j s hf hx hj hs' hxs => ?_) (k2.back e1))
  have f1 : Fresh H1 a := k2.fresh hj hs' hxs
  obtain ⟨k, d⟩ := ra
  cases (show k = .fr from hf)
  obtain ⟨b, hb, _, hat⟩ := k1
  rw [hx] at hb
  cases hb
  cases d with
  | lst ds =>
    obtain ⟨ys, h3, _⟩ := hat
    obtain ⟨ps, z⟩ := f1 _ h3
    cases z
  | dic kvs =>
    rcases hat with ⟨r, h3, _⟩ | ⟨r, h3, _⟩
    · obtain ⟨ps, z⟩ := f1 _ h3
      cases z
    · obtain ⟨ps, z⟩ := f1 _ h3
      cases z
  | _ => exact hat.elim
/-- all may be kept -/
def keepAll : List RV → Bool
  | [] => true
  | r :: rs => r.keep && keepAll rs
def dataOf (rs : List RV) : List D := rs.map (·.d)
theorem ResAll.rp {T : List (Addr × Str)} {K : PySem.W.Frag} {H H' : Hp} {O : Zone} (d : Dom H O) : ∀ {xs : List V} {rs : List RV}, ResAll K H H' O xs rs → keepAll rs = true → RpAll K (hide H' O) xs (dataOf rs)
  | _, _, .nil, _ => .nil
  | _, _, .cons h _ t, k => by
    have k' := Bool.and_eq_true_iff.mp k
    exact .cons (h.rp (T := T) d k'.1) (ResAll.rp (T := T) d t k'.2)
/-- new objects -/
theorem new_lst {K : PySem.W.Frag} {H : Hp} {O : Zone} {p : Addr} {xs : List V} {ds : List D} (hp : H p = none) (h : RpAll K (hide H O) xs ds) : ResOk K H (upd H p (.lst xs)) O (.ref p) ⟨.fr, .lst ds⟩ :=
  ⟨p, rfl, Fresh.of hp, xs, upd_same, (hide_mono (T := []) (Ex.new hp) fun b z => z.elim .inl fun e => .inr (by rw [e]; exact Fresh.of hp)).rpAll _ _ h⟩
theorem new_tup {K : PySem.W.Frag} {H : Hp} {O : Zone} {p : Addr} {xs : List V} {ds : List D} (hp : H p = none) (d : Dom H O) (h : RpAll K (hide H O) xs ds) : ResOk K H (upd H p (.tup xs)) O (.ref p) ⟨.fz, .tup ds⟩ :=
  Rp.tup (hide_some.mpr ⟨d.fresh (Fresh.of hp), upd_same⟩) ((hide_ex (T := []) (Ex.new hp)).rpAll _ _ h)
/-- displays -/
def fitsN (n : Nat) : Bool := decide (n ≤ sizeLine)
def dDisp (mk : List D → RV) (da : DA) : DE := fun st => (da st).bind fun rs => if keepAll rs && fitsN rs.length then .ok (mk (dataOf rs)) else .bad
theorem ResAll.length {K : PySem.W.Frag} {H H' : Hp} {O : Zone} : ∀ {xs : List V} {rs : List RV}, ResAll K H H' O xs rs → xs.length = rs.length
  | _, _, .nil => rfl
  | _, _, .cons _ _ t => by simp [ResAll.length t]
theorem s_lst {es : List Expr} {da : DA} (h : PA X es (TAx F W cv da)) : PE X (.List es pos) (TEx F W cv (dDisp (fun ds => ⟨.fr, .lst ds⟩) da)) := by
  refine pe_w (pe_lst h) fun σ H Q h => ?_
  show Tx F W cv (okL F) da σ H _
  refine tx_bind (okA := okL F) (okC := okE F) (f := fun (rs : List RV) st => if keepAll rs && fitsN rs.length then .ok (⟨.fr, .lst (dataOf rs)⟩ : RV) else .bad) h fun M st O rs xs H1 R e1 R1 k1 h1 => ?_
  obtain ⟨hk, h1⟩ := h1.ite
  have hk' := Bool.and_eq_true_iff.mp hk
  refine ⟨by rw [k1.length]; exact of_decide_eq_true hk'.2, fun p hp => ?_⟩
  exact h1 _ _ (Ex.new hp) ((new_lst hp (k1.rp (T := F.T) R.dom hk'.1)).back e1)
theorem s_tup {es : List Expr} {da : DA} {n : Nat} (h : PA X es (TAx F W cv da)) : PE X (.Tuple es n pos) (TEx F W cv (dDisp (fun ds => ⟨.fz, .tup ds⟩) da)) := by
  refine pe_w (pe_tup h) fun σ H Q h => ?_
  show Tx F W cv (okL F) da σ H _
  refine tx_bind (okA := okL F) (okC := okE F) (f := fun (rs : List RV) st => if keepAll rs && fitsN rs.length then .ok (⟨.fz, .tup (dataOf rs)⟩ : RV) else .bad) h fun M st O rs xs H1 R e1 R1 k1 h1 => ?_
  obtain ⟨hk, h1⟩ := h1.ite
  have hk' := Bool.and_eq_true_iff.mp hk
  refine ⟨by rw [k1.length]; exact of_decide_eq_true hk'.2, fun p hp => ?_⟩
  exact h1 _ _ (Ex.new hp) ((new_tup hp R1.dom (k1.rp (T := F.T) R.dom hk'.1)).back e1)
end
end Mini

set_option Elab.async false
set_option linter.all false
set_option maxRecDepth 100000
/-! Mini 3: operators on data. -/
namespace Mini
open PySem L2 LamX

abbrev rz (d : D) : RV := ⟨.fz, d⟩
theorem res_fz {K : PySem.W.Frag} {H : Hp} {O : Zone} {d : D} (h : d.scal = true) : ResOk K H H O d.v (rz d) := D.rp_v h

/-! ### ints -/
theorem sim_int {K : PySem.W.Frag} {T : List (Addr × Str)} {C : Int → Int → Prop} {g : Int → Int → V} {f : D → D → Option RV}
    (h : ∀ dx dy t, f dx dy = some t → ∃ i j d, dx = .int i ∧ dy = .int j ∧ C i j ∧ t = rz d ∧ d.scal = true ∧ g i j = d.v) : OpSim K T (rI C g) f := by
  intro O H x y dx dy t Q hd v w q k
  obtain ⟨i, j, d, rfl, rfl, hc, rfl, hs, e⟩ := h dx dy t q
  exact ⟨i, j, v.int, w.int, hc, k _ H (Ex.refl H) (by rw [e]; exact res_fz hs)⟩
theorem sim_int0 {K : PySem.W.Frag} {T : List (Addr × Str)} {g : Int → Int → V} {f : D → D → Option RV}
    (h : ∀ dx dy t, f dx dy = some t → ∃ i j d, dx = .int i ∧ dy = .int j ∧ t = rz d ∧ d.scal = true ∧ g i j = d.v) : OpSim K T (rI0 g) f := by
  intro O H x y dx dy t Q hd v w q k
  obtain ⟨i, j, d, rfl, rfl, rfl, hs, e⟩ := h dx dy t q
  exact ⟨i, j, v.int, w.int, k _ H (Ex.refl H) (by rw [e]; exact res_fz hs)⟩
def onInts (c : Int → Int → Bool) (g : Int → Int → D) : D → D → Option RV
  | .int i, .int j => if c i j = true then some (rz (g i j)) else none
  | _, _ => none
theorem onInts_some {c : Int → Int → Bool} {g : Int → Int → D} {dx dy : D} {t : RV} (h : onInts c g dx dy = some t) : ∃ i j, dx = .int i ∧ dy = .int j ∧ c i j = true ∧ t = rz (g i j) := by
  unfold onInts at h
  split at h
  · rename_i i j
    split at h
    · rename_i hc
      cases h
      exact ⟨i, j, rfl, rfl, hc, rfl⟩
    · cases h
  · cases h
theorem sim_onInts {K : PySem.W.Frag} {T : List (Addr × Str)} {C : Int → Int → Prop} {g : Int → Int → V} {c : Int → Int → Bool} {gd : Int → Int → D} (hc : ∀ i j, c i j = true → C i j) (hg : ∀ i j, (gd i j).scal = true ∧ g i j = (gd i j).v) : OpSim K T (rI C g) (onInts c gd) :=
  sim_int fun dx dy t h => by
    obtain ⟨i, j, e1, e2, e3, e4⟩ := onInts_some h
    exact ⟨i, j, _, e1, e2, hc i j e3, e4, (hg i j).1, (hg i j).2⟩
theorem sim_onInts0 {K : PySem.W.Frag} {T : List (Addr × Str)} {g : Int → Int → V} {gd : Int → Int → D} (hg : ∀ i j, (gd i j).scal = true ∧ g i j = (gd i j).v) : OpSim K T (rI0 g) (onInts (fun _ _ => true) gd) :=
  sim_int0 fun dx dy t h => by
    obtain ⟨i, j, e1, e2, e3, e4⟩ := onInts_some h
    exact ⟨i, j, _, e1, e2, e4, (hg i j).1, (hg i j).2⟩
/-- a narrower function -/
theorem OpSim.weak {K : PySem.W.Frag} {T : List (Addr × Str)} {r : R2} {f g : D → D → Option RV} (h : OpSim K T r f) (w : ∀ a b t, g a b = some t → f a b = some t) : OpSim K T r g :=
  fun O H x y dx dy t Q hd v v' q k => h O H x y dx dy t Q hd v v' (w dx dy t q) k
theorem OpSim.orElse {K : PySem.W.Frag} {T : List (Addr × Str)} {r r' : R2} {f g p : D → D → Option RV} (h : OpSim K T r f) (h' : OpSim K T r' g) (w : ∀ a b t, p a b = some t → f a b = some t ∨ g a b = some t) : OpSim K T (fun x y H Q => r x y H Q ∨ r' x y H Q) p :=
  fun O H x y dx dy t Q hd v v' q k => (w dx dy t q).elim (fun z => .inl (h O H x y dx dy t Q hd v v' z k)) (fun z => .inr (h' O H x y dx dy t Q hd v v' z k))

/-! ### + -/
def addS : D → D → Option RV
  | .str x, .str y => if fitsN (x.length + y.length) = true then some (rz (.str (x ++ y))) else none
  | _, _ => none
def addL : D → D → Option RV
  | .lst x, .lst y => if fitsN (x.length + y.length) = true then some ⟨.fr, .lst (x ++ y)⟩ else none
  | _, _ => none
def addT : D → D → Option RV
  | .tup x, .tup y => if fitsN (x.length + y.length) = true then some (rz (.tup (x ++ y))) else none
  | _, _ => none
def addD : D → D → Option RV
  | .int i, .int j => some (rz (.int (i + j)))
  | .str x, .str y => if fitsN (x.length + y.length) = true then some (rz (.str (x ++ y))) else none
  | .lst x, .lst y => if fitsN (x.length + y.length) = true then some ⟨.fr, .lst (x ++ y)⟩ else none
  | .tup x, .tup y => if fitsN (x.length + y.length) = true then some (rz (.tup (x ++ y))) else none
  | _, _ => none
section
variable {K : PySem.W.Frag} {T : List (Addr × Str)}
theorem fits {n : Nat} (h : fitsN n = true) : n ≤ sizeLine := of_decide_eq_true h
theorem sim_addS : OpSim K T (fun x y H Q => ∃ i j, x = .str i ∧ y = .str j ∧ i.length + j.length ≤ sizeLine ∧ Q (.str (i ++ j)) H) addS := by
  intro O H x y dx dy t Q hd v w q k
  unfold addS at q
  split at q
  · split at q
    · rename_i hf
      cases q
      exact ⟨_, _, v.str, w.str, fits hf, k _ H (Ex.refl H) (Rp.str _)⟩
    · cases q
  · cases q
theorem sim_addL : OpSim K T rCat addL := by
  intro O H x y dx dy t Q hd v w q k
  unfold addL at q
  split at q
  · split at q
    · rename_i hf
      cases q
      obtain ⟨a, xs, rfl, h1, h2⟩ := v.lst
      obtain ⟨b, ys, rfl, h3, h4⟩ := w.lst
      refine ⟨a, b, xs, ys, rfl, rfl, h1, h3, by rw [h2.length, h4.length]; exact fits hf, fun p hp => ?_⟩
      exact k _ _ (Ex.new hp) (new_lst hp (h2.append h4))
    · cases q
  · cases q
theorem sim_addT : OpSim K T (rCatA K) addT := by
  intro O H x y dx dy t Q hd v w q k
  unfold addT at q
  split at q
  · split at q
    · rename_i hf
      cases q
      have v' := v
      have w' := w
      obtain ⟨a, xs, rfl, h1, h2⟩ := v.tup
      obtain ⟨b, ys, rfl, h3, h4⟩ := w.tup
      refine ⟨a, b, xs, ys, rfl, rfl, SqT.of h1, SqT.of h3, by rw [h2.length, h4.length]; exact fits hf, fun e => ?_, fun _ e => ?_, fun _ _ p hp => ?_⟩
      · subst e
        cases h2
        refine k _ H (Ex.refl H) ?_
        rcases w' with ⟨_, _, z⟩ | z
        · exact z.elim
        · exact z
      · subst e
        cases h4
        refine k _ H (Ex.refl H) ?_
        rcases v' with ⟨_, _, z⟩ | z
        · exact z.elim
        · show Rp K (hide H O) _ (.tup (_ ++ []))
          rw [List.append_nil]
          exact z
      · exact k _ _ (Ex.new hp) (new_tup hp hd (h2.append h4))
    · cases q
  · cases q
abbrev rAddD (K : PySem.W.Frag) : R2 := fun x y H Q => rI0 (fun i j => .int (i + j)) x y H Q ∨ ((∃ i j, x = .str i ∧ y = .str j ∧ i.length + j.length ≤ sizeLine ∧ Q (.str (i ++ j)) H) ∨ (rCat x y H Q ∨ rCatA K x y H Q))
theorem op_addD {X : Cx} : OpR X (binaryOp .Add) (rAddD X.K) := op_add.or (op_add_str.or (op_cat.or op_catA))
theorem sim_addD : OpSim K T (rAddD K) addD := by
  refine OpSim.orElse (f := onInts (fun _ _ => true) fun i j => .int (i + j)) (sim_onInts0 fun i j => ⟨rfl, rfl⟩)
    (OpSim.orElse (p := fun a b => match addS a b with | some t => some t | none => match addL a b with | some t => some t | none => addT a b) sim_addS
      (OpSim.orElse (p := fun a b => match addL a b with | some t => some t | none => addT a b) sim_addL sim_addT fun a b t h => ?_) fun a b t h => ?_) fun a b t h => ?_
  · cases q : addL a b with
    | some u => simp only [q] at h; exact .inl h
    | none => simp only [q] at h; exact .inr h
  · cases q : addS a b with
    | some u => simp only [q] at h; exact .inl h
    | none => simp only [q] at h; exact .inr h
  · unfold addD at h
    split at h
    · exact .inl (by simpa [onInts] using h)
    · right; simp only [addS]; exact (by rw [h])
    · right; simp only [addS, addL]; exact (by rw [h])
    · right; simp only [addS, addL, addT]; exact h
    · cases h

/-! ### * -/
def in64 (i : Int) : Bool := decide (-18446744073709551616 < i) && decide (i < 18446744073709551616)
def mulI : D → D → Option RV := onInts (fun i j => in64 i || in64 j) fun i j => .int (i * j)
def repL : D → D → Option RV
  | .lst xs, .int k => if (in64 (k * 2) && fitsN (xs.length * k.toNat)) = true then some ⟨.fr, .lst (List.replicate k.toNat xs).flatten⟩ else none
  | _, _ => none
def repT : D → D → Option RV
  | .tup xs, .int k => if (!xs.isEmpty && decide (2 ≤ k) && decide (k ≤ 1000) && decide (xs.length ≤ 1000)) = true then some (rz (.tup (List.replicate k.toNat xs).flatten)) else none
  | _, _ => none
def mulD : D → D → Option RV
  | .int i, .int j => if (in64 i || in64 j) = true then some (rz (.int (i * j))) else none
  | .lst xs, .int k => if (in64 (k * 2) && fitsN (xs.length * k.toNat)) = true then some ⟨.fr, .lst (List.replicate k.toNat xs).flatten⟩ else none
  | _, _ => none
theorem RpAll.rep {G : Hp} {xs : List V} {ds : List D} (h : RpAll K G xs ds) : ∀ n : Nat, RpAll K G (List.replicate n xs).flatten (List.replicate n ds).flatten
  | 0 => .nil
  | n + 1 => by
    rw [List.replicate_succ, List.replicate_succ, List.flatten_cons, List.flatten_cons]
    exact h.append (RpAll.rep h n)
theorem in64_of {i : Int} (h : in64 i = true) : -(2 ^ 64) < i ∧ i < 2 ^ 64 := by
  have h' := Bool.and_eq_true_iff.mp h
  have h1 := of_decide_eq_true h'.1
  have h2 := of_decide_eq_true h'.2
  exact ⟨by omega, by omega⟩
theorem sim_mulI : OpSim K T (rI CMul fun i j => .int (i * j)) mulI := sim_onInts (fun i j h => by
  rcases Bool.or_eq_true_iff.mp h with h | h
  · exact .inl (in64_of h)
  · exact .inr (in64_of h)) fun i j => ⟨rfl, rfl⟩
theorem sim_repL : OpSim K T rRep repL := by
  intro O H x y dx dy t Q hd v w q k
  unfold repL at q
  split at q
  · split at q
    · rename_i hf
      cases q
      have hf' := Bool.and_eq_true_iff.mp hf
      have h64 := in64_of hf'.1
      obtain ⟨a, xs, rfl, h1, h2⟩ := v.lst
      refine ⟨a, _, xs, rfl, w.int, h1, by omega, by omega, by rw [h2.length]; exact fits hf'.2, fun p hp => ?_⟩
      exact k _ _ (Ex.new hp) (new_lst hp (h2.rep _))
    · cases q
  · cases q
theorem op_mulD {X : Cx} : OpR X (binaryOp .Mult) (fun x y H Q => rI CMul (fun i j => .int (i * j)) x y H Q ∨ rRep x y H Q) := op_mul.or op_rep
theorem sim_mulD : OpSim K T (fun x y H Q => rI CMul (fun i j => .int (i * j)) x y H Q ∨ rRep x y H Q) mulD := OpSim.orElse sim_mulI sim_repL fun a b t h => by
  unfold mulD at h
  split at h
  · exact .inl h
  · exact .inr h
  · cases h

/-! ### the other int operators -/
def subD : D → D → Option RV := onInts (fun _ _ => true) fun i j => .int (i - j)
theorem sim_subD : OpSim K T (rI0 fun i j => .int (i - j)) subD := sim_onInts0 fun i j => ⟨rfl, rfl⟩
def fdivD : D → D → Option RV := onInts (fun _ j => decide (0 < j) && decide (j < 18446744073709551616)) fun i j => .int (i / j)
theorem log2_small {j : Int} (h0 : 0 < j) (h : j < 2 ^ 64) : j.natAbs.log2 < 9000 := by
  have h1 : j.natAbs < 2 ^ 64 := by omega
  have := (Nat.log2_lt (by omega)).mpr h1
  omega
theorem sim_fdivD : OpSim K T (rI CDivW fun i j => .int (i / j)) fdivD := sim_onInts (fun i j h => by
  have h' := Bool.and_eq_true_iff.mp h
  exact ⟨of_decide_eq_true h'.1, log2_small (of_decide_eq_true h'.1) (by have := of_decide_eq_true h'.2; omega)⟩) fun i j => ⟨rfl, rfl⟩
def modD : D → D → Option RV := onInts (fun _ j => decide (0 < j)) fun i j => .int (i % j)
theorem sim_modD : OpSim K T (rI (fun _ j => 0 < j) fun i j => .int (i % j)) modD := sim_onInts (fun i j h => of_decide_eq_true h) fun i j => ⟨rfl, rfl⟩
def cpow (i j : Int) : Bool := decide (0 ≤ j) && decide (j ≤ 1000000) && in64 i
theorem cpow_of {i j : Int} (h : cpow i j = true) : CPow i j := by
  have h' := Bool.and_eq_true_iff.mp h
  have h2 := Bool.and_eq_true_iff.mp h'.1
  have h3 := in64_of h'.2
  exact ⟨of_decide_eq_true h2.1, of_decide_eq_true h2.2, by omega⟩
def powD : D → D → Option RV := onInts cpow fun i j => .int (i ^ j.toNat)
theorem sim_powD : OpSim K T (rI CPow fun i j => .int (i ^ j.toNat)) powD := sim_onInts (fun i j h => cpow_of h) fun i j => ⟨rfl, rfl⟩
def shlD : D → D → Option RV := onInts cpow fun i j => .int (i * ((2 ^ j.toNat : Nat) : Int))
theorem sim_shlD : OpSim K T (rI CPow fun i j => .int (i * 2 ^ j.toNat)) shlD := sim_onInts (fun i j h => cpow_of h) fun i j => ⟨rfl, by simp [D.v]⟩
def shrD : D → D → Option RV := onInts (fun i j => decide (0 ≤ i) && decide (0 ≤ j)) fun i j => .int ((i.toNat >>> j.toNat : Nat) : Int)
theorem sim_shrD : OpSim K T (rI (fun _ j => 0 ≤ j) fun i j => .int (i / 2 ^ j.toNat)) shrD := by
  refine sim_int fun dx dy t h => ?_
  obtain ⟨i, j, e1, e2, e3, e4⟩ := onInts_some h
  have h' := Bool.and_eq_true_iff.mp e3
  have h0 : 0 ≤ i := of_decide_eq_true h'.1
  refine ⟨i, j, _, e1, e2, of_decide_eq_true h'.2, e4, rfl, ?_⟩
  show V.int (i / 2 ^ j.toNat) = V.int _
  rw [Nat.shiftRight_eq_div_pow]
  have e : ((i.toNat / 2 ^ j.toNat : Nat) : Int) = i / 2 ^ j.toNat := by
    rw [Int.natCast_ediv, Int.toNat_of_nonneg h0]
    simp
  rw [e]
def andD : D → D → Option RV := onInts (fun i j => decide (0 ≤ i) && decide (0 ≤ j)) fun i j => .int ((i.toNat &&& j.toNat : Nat) : Int)
theorem sim_andD : OpSim K T (rI0 fun i j => .int (Builtin.bitAnd i j)) andD := by
  refine sim_int0 fun dx dy t h => ?_
  obtain ⟨i, j, e1, e2, e3, e4⟩ := onInts_some h
  have h' := Bool.and_eq_true_iff.mp e3
  have h0 : 0 ≤ i := of_decide_eq_true h'.1
  have h1 : 0 ≤ j := of_decide_eq_true h'.2
  refine ⟨i, j, _, e1, e2, e4, rfl, ?_⟩
  show V.int _ = V.int _
  simp [Builtin.bitAnd, h0, h1]
def orD : D → D → Option RV := onInts (fun i j => decide (0 ≤ i) && decide (0 ≤ j)) fun i j => .int ((i.toNat ||| j.toNat : Nat) : Int)
theorem bitOr_pp {i j : Int} (h0 : 0 ≤ i) (h1 : 0 ≤ j) : Builtin.bitOr i j = ((i.toNat ||| j.toNat : Nat) : Int) := by
  have a : ¬ (0 ≤ Builtin.bitNot i) := by simp only [Builtin.bitNot]; omega
  have b : ¬ (0 ≤ Builtin.bitNot j) := by simp only [Builtin.bitNot]; omega
  have na : Builtin.bitNot (Builtin.bitNot i) = i := by simp only [Builtin.bitNot]; omega
  have nb : Builtin.bitNot (Builtin.bitNot j) = j := by simp only [Builtin.bitNot]; omega
  have nn : ∀ n : Int, Builtin.bitNot (Builtin.bitNot n) = n := fun n => by simp only [Builtin.bitNot]; omega
  show Builtin.bitNot (Builtin.bitAnd (Builtin.bitNot i) (Builtin.bitNot j)) = _
  simp [Builtin.bitAnd, a, b, na, nb, nn]
theorem sim_orD : OpSim K T (rI0 fun i j => .int (Builtin.bitOr i j)) orD := by
  refine sim_int0 fun dx dy t h => ?_
  obtain ⟨i, j, e1, e2, e3, e4⟩ := onInts_some h
  have h' := Bool.and_eq_true_iff.mp e3
  have h0 : 0 ≤ i := of_decide_eq_true h'.1
  have h1 : 0 ≤ j := of_decide_eq_true h'.2
  refine ⟨i, j, _, e1, e2, e4, rfl, ?_⟩
  show V.int _ = V.int _
  rw [bitOr_pp h0 h1]

/-! ### comparisons -/
def eqD (d e : D) : Bool := PyData.eqv d.py e.py
def shaped (d : D) : Bool := SeqAt.shaped d.py && noDict d
def eqV' (neg : Bool) : D → D → Option RV := fun a b => if (shaped a && shaped b) = true then some (rz (.bl (if neg then !eqD a b else eqD a b))) else none
theorem shaped_of {d : D} (h : shaped d = true) : SeqAt.shaped d.py = true ∧ noDict d = true := Bool.and_eq_true_iff.mp h
theorem sim_eq : OpSim K T (rEqD K) (eqV' false) := by
  intro O H x y dx dy t Q hd v w q k
  unfold eqV' at q
  split at q
  · rename_i hs
    cases q
    have hs' := Bool.and_eq_true_iff.mp hs
    obtain ⟨a1, a2⟩ := shaped_of hs'.1
    obtain ⟨b1, b2⟩ := shaped_of hs'.2
    exact ⟨dx.py, dy.py, (v.rp a2).dp, (w.rp b2).dp, a1, b1, k _ H (Ex.refl H) (Rp.bl _)⟩
  · cases q
theorem sim_ne : OpSim K T (rNeD K) (eqV' true) := by
  intro O H x y dx dy t Q hd v w q k
  unfold eqV' at q
  split at q
  · rename_i hs
    cases q
    have hs' := Bool.and_eq_true_iff.mp hs
    obtain ⟨a1, a2⟩ := shaped_of hs'.1
    obtain ⟨b1, b2⟩ := shaped_of hs'.2
    exact ⟨dx.py, dy.py, (v.rp a2).dp, (w.rp b2).dp, a1, b1, k _ H (Ex.refl H) (Rp.bl _)⟩
  · cases q
def ltD : D → D → Option RV := onInts (fun _ _ => true) fun i j => .bl (decide (i < j))
def leD : D → D → Option RV := onInts (fun _ _ => true) fun i j => .bl (decide (i ≤ j))
def gtD : D → D → Option RV := onInts (fun _ _ => true) fun i j => .bl (decide (j < i))
def geD : D → D → Option RV := onInts (fun _ _ => true) fun i j => .bl (decide (j ≤ i))
theorem sim_ltI : OpSim K T (rI0 fun i j => .bl (decide (i < j))) ltD := sim_onInts0 fun i j => ⟨rfl, rfl⟩
theorem sim_leI : OpSim K T (rI0 fun i j => .bl (decide (i ≤ j))) leD := sim_onInts0 fun i j => ⟨rfl, rfl⟩
theorem sim_gtI : OpSim K T (rI0 fun i j => .bl (decide (j < i))) gtD := sim_onInts0 fun i j => ⟨rfl, rfl⟩
theorem sim_geI : OpSim K T (rI0 fun i j => .bl (decide (j ≤ i))) geD := sim_onInts0 fun i j => ⟨rfl, rfl⟩
/-- is, is not: None or bools -/
def D.isNon : D → Bool
  | .non => true
  | _ => false
def isD (neg : Bool) : D → D → Option RV
  | d, .non => some (rz (.bl (if neg then !d.isNon else d.isNon)))
  | .bl a, .bl b => some (rz (.bl (if neg then !decide (a = b) else decide (a = b))))
  | _, _ => none
theorem Vw.isNon {H : Hp} {O : Zone} {x : V} {d : D} (v : Vw K H O x d) : decide (x = .non) = d.isNon := by
  cases d with
  | non => rw [v.non]; rfl
  | bl b => rw [v.bl]; rfl
  | int i => rw [v.int]; rfl
  | str y => rw [v.str]; rfl
  | lst ds => obtain ⟨a, xs, rfl, _⟩ := v.lst; rfl
  | tup ds => obtain ⟨a, xs, rfl, _⟩ := v.tup; rfl
  | scr ns => obtain ⟨a, rfl, _⟩ := v.scr; rfl
  | dic kvs => obtain ⟨a, rfl, _⟩ := v.dic; rfl
theorem sim_is : OpSim K T (fun x y H Q => (y = .non ∧ Q (.bl (decide (x = .non))) H) ∨ rIsB x y H Q) (isD false) := by
  intro O H x y dx dy t Q hd v w q k
  unfold isD at q
  split at q
  · cases q
    refine .inl ⟨w.non, ?_⟩
    rw [v.isNon]
    exact k _ H (Ex.refl H) (Rp.bl _)
  · cases q
    exact .inr ⟨_, _, v.bl, w.bl, k _ H (Ex.refl H) (Rp.bl _)⟩
  · cases q
theorem sim_isnot : OpSim K T (fun x y H Q => (y = .non ∧ Q (.bl (!decide (x = .non))) H) ∨ rNotB x y H Q) (isD true) := by
  intro O H x y dx dy t Q hd v w q k
  unfold isD at q
  split at q
  · cases q
    refine .inl ⟨w.non, ?_⟩
    rw [v.isNon]
    exact k _ H (Ex.refl H) (Rp.bl _)
  · cases q
    exact .inr ⟨_, _, v.bl, w.bl, k _ H (Ex.refl H) (Rp.bl _)⟩
  · cases q
theorem op_isD {X : Cx} : OpR X (compareOp .Is) (fun x y H Q => (y = .non ∧ Q (.bl (decide (x = .non))) H) ∨ rIsB x y H Q) := op_isN.or op_isBl
theorem op_isnotD {X : Cx} : OpR X (compareOp .IsNot) (fun x y H Q => (y = .non ∧ Q (.bl (!decide (x = .non))) H) ∨ rNotB x y H Q) := op_notN.or op_notBl
end
end Mini

set_option Elab.async false
set_option linter.all false
set_option maxRecDepth 100000
/-! Mini 4: calls of built-ins, methods, subscripts, slices. -/
namespace Mini
open PySem L2 LamX

/-! ### lists of values read -/
inductive VwAll (K : PySem.W.Frag) (H : Hp) (O : Zone) : List V → List D → Prop
  | nil : VwAll K H O [] []
  | cons {x : V} {d : D} {xs : List V} {ds : List D} : Vw K H O x d → VwAll K H O xs ds → VwAll K H O (x :: xs) (d :: ds)
theorem ResAll.vw {T : List (Addr × Str)} {K : PySem.W.Frag} {H H' : Hp} {O : Zone} : ∀ {xs : List V} {rs : List RV}, ResAll K H H' O xs rs → VwAll K H' O xs (dataOf rs)
  | _, _, .nil => .nil
  | _, _, .cons h _ t => .cons (h.vw (T := T)) (ResAll.vw (T := T) t)
theorem VwAll.ex {T : List (Addr × Str)} {K : PySem.W.Frag} {H H' : Hp} {O : Zone} (e : Ex T H H') : ∀ {xs : List V} {ds : List D}, VwAll K H O xs ds → VwAll K H' O xs ds
  | _, _, .nil => .nil
  | _, _, .cons h t => .cons (h.ex e) (VwAll.ex e t)
theorem VwAll.one {K : PySem.W.Frag} {H : Hp} {O : Zone} {xs : List V} {d : D} (h : VwAll K H O xs [d]) : ∃ x, xs = [x] ∧ Vw K H O x d := by
  cases h with
  | cons h t => cases t; exact ⟨_, rfl, h⟩
theorem VwAll.two {K : PySem.W.Frag} {H : Hp} {O : Zone} {xs : List V} {d e : D} (h : VwAll K H O xs [d, e]) : ∃ x y, xs = [x, y] ∧ Vw K H O x d ∧ Vw K H O y e := by
  cases h with
  | cons h t =>
    obtain ⟨y, rfl, h'⟩ := t.one
    exact ⟨_, y, rfl, h, h'⟩
def CallSim (K : PySem.W.Frag) (T : List (Addr × Str)) (r : List V → Hp → VK → Prop) (f : List D → Option RV) : Prop :=
  ∀ (O : Zone) (H : Hp) (xs : List V) (ds : List D) (t : RV) (Q : VK), Dom H O → VwAll K H O xs ds → f ds = some t → (∀ z H', Ex T H H' → ResOk K H H' O z t → Q z H') → r xs H Q
theorem CallSim.orElse {K : PySem.W.Frag} {T : List (Addr × Str)} {r r' : List V → Hp → VK → Prop} {f g p : List D → Option RV} (h : CallSim K T r f) (h' : CallSim K T r' g) (w : ∀ a t, p a = some t → f a = some t ∨ g a = some t) : CallSim K T (fun x H Q => r x H Q ∨ r' x H Q) p :=
  fun O H xs ds t Q hd v q k => (w ds t q).elim (fun z => .inl (h O H xs ds t Q hd v z k)) (fun z => .inr (h' O H xs ds t Q hd v z k))
theorem CallR.or {X : Cx} {f : Value} {r r' : List V → Hp → VK → Prop} (h : CallR X f r) (h' : CallR X f r') : CallR X f (fun x H Q => r x H Q ∨ r' x H Q) :=
  fun pins s σ H xs us Q I v q => q.elim (h pins s σ H xs us Q I v) (h' pins s σ H xs us Q I v)
def dCB (f : List D → Option RV) (da : DA) : DE := fun st => (da st).bind fun rs => .of (f (dataOf rs))
section
variable {F : Fm} {W : WX} {cv : Str → Value} {X : Cx} {e a b c o : Expr} {es : List Expr} {pos p : Pos}
theorem t_cb {r : List V → Hp → VK → Prop} {f : List D → Option RV} {da : DA} (hs : CallSim F.K F.T r f) {σ : L2.St} {H : Hp} {Q : VK} (h : TEx F W cv (dCB f da) σ H Q) : tCB r (TAx F W cv da) σ H Q := by
  show Tx F W cv (okL F) da σ H _
  refine tx_bind (okA := okL F) (okC := okE F) (f := fun (rs : List RV) st => Out.of (f (dataOf rs))) h fun M st O rs xs H1 R e1 R1 k1 h1 => ?_
  obtain ⟨t, q, h2⟩ := h1.of
  exact hs O H1 xs (dataOf rs) t Q R1.dom (k1.vw (T := F.T)) q fun z H' e k => h2 z H' e (k.back e1)
theorem s_callB {x : Str} {id : String} {r : List V → Hp → VK → Prop} {f : List D → Option RV} {da : DA} (hc : CallR X (.builtin id) r) (hs : CallSim F.K F.T r f) (hg : Gl X x) (hm : X.mg x = none) (hv : bootBuiltins x = some (.builtin id)) (ha : PA X (e :: es) (TAx F W cv da))
    (hn : x ≠ "__name__") (hdb : (x == ("__debug__" : Str)) = false) (he : starEach (e :: es) X.env = (false, eval e X.env) :: starEach es X.env) (hpl : (backTo pos (starEach es X.env)).any (·.1) = false) : PE X (.Call (.Name x p) (e :: es) [] pos) (TEx F W cv (dCB f da)) :=
  pe_w (pe_callB hc hg hm hv ha hn hdb he hpl) fun _ _ _ h => t_cb hs h
theorem s_callTy {x : Str} {id : String} {r : List V → Hp → VK → Prop} {f : List D → Option RV} {da : DA} (hc : CallR X (.type id) r) (hs : CallSim F.K F.T r f) (hg : Gl X x) (hm : X.mg x = none) (hv : bootBuiltins x = some (.type id)) (ha : PA X (e :: es) (TAx F W cv da))
    (hn : x ≠ "__name__") (hdb : (x == ("__debug__" : Str)) = false) (he : starEach (e :: es) X.env = (false, eval e X.env) :: starEach es X.env) (hpl : (backTo pos (starEach es X.env)).any (·.1) = false) : PE X (.Call (.Name x p) (e :: es) [] pos) (TEx F W cv (dCB f da)) :=
  pe_w (pe_callTy hc hg hm hv ha hn hdb he hpl) fun _ _ _ h => t_cb hs h
end

/-! ### data by kinds -/
def intsD : List D → Option (List Int)
  | [] => some []
  | .int i :: r => match intsD r with | some ns => some (i :: ns) | none => none
  | _ :: _ => none
def blsD : List D → Option (List Bool)
  | [] => some []
  | .bl i :: r => match blsD r with | some ns => some (i :: ns) | none => none
  | _ :: _ => none
theorem intsD_some : ∀ {ds : List D} {ns : List Int}, intsD ds = some ns → ds = ns.map D.int
  | [], ns, h => by cases h; rfl
  | d :: ds, ns, h => by
    cases d with
    | int i =>
      have h : (match intsD ds with | some ns => some (i :: ns) | none => none) = some ns := h
      cases q : intsD ds with
      | none => rw [q] at h; cases h
      | some ms => rw [q] at h; cases h; rw [intsD_some q]; rfl
    | _ => cases h
theorem intsD_map : ∀ ns : List Int, intsD (ns.map D.int) = some ns
  | [] => rfl
  | n :: ns => by
    show (match intsD (ns.map D.int) with | some ns => some (n :: ns) | none => none) = _
    rw [intsD_map ns]
theorem blsD_some : ∀ {ds : List D} {ns : List Bool}, blsD ds = some ns → ds = ns.map D.bl
  | [], ns, h => by cases h; rfl
  | d :: ds, ns, h => by
    cases d with
    | bl i =>
      have h : (match blsD ds with | some ns => some (i :: ns) | none => none) = some ns := h
      cases q : blsD ds with
      | none => rw [q] at h; cases h
      | some ms => rw [q] at h; cases h; rw [blsD_some q]; rfl
    | _ => cases h
theorem blsD_map : ∀ ns : List Bool, blsD (ns.map D.bl) = some ns
  | [] => rfl
  | n :: ns => by
    show (match blsD (ns.map D.bl) with | some ns => some (n :: ns) | none => none) = _
    rw [blsD_map ns]
theorem RpAll.bls_inv {K : PySem.W.Frag} {G : Hp} : ∀ {ns : List Bool} {vs : List V}, RpAll K G vs (ns.map D.bl) → vs = ns.map V.bl
  | [], vs, h => by cases h; rfl
  | n :: ns, vs, h => by
    cases h with
    | cons h1 h2 =>
      cases h1
      rw [RpAll.bls_inv h2]
      rfl
/-- a list of ints at a value -/
def listInts : D → Option (List Int)
  | .lst ds => intsD ds
  | .scr ns => some ns
  | _ => none
section
variable {K : PySem.W.Frag} {T : List (Addr × Str)} {H : Hp} {O : Zone} {x : V}
theorem Vw.ints {d : D} {ns : List Int} (v : Vw K H O x d) (h : listInts d = some ns) : ∃ a, x = .ref a ∧ SqL K H a (ns.map V.int) := by
  cases d with
  | lst ds =>
    have e := intsD_some h
    subst e
    obtain ⟨a, xs, rfl, h1, h2⟩ := v.lst
    rw [h2.ints_inv] at h1
    exact ⟨a, rfl, SqL.of h1⟩
  | scr ms =>
    cases h
    exact v.scr
  | _ => cases h
theorem Vw.bls {ds : List D} {ns : List Bool} (v : Vw K H O x (.lst ds)) (h : blsD ds = some ns) : ∃ a, x = .ref a ∧ SqL K H a (ns.map V.bl) := by
  have e := blsD_some h
  subst e
  obtain ⟨a, xs, rfl, h1, h2⟩ := v.lst
  rw [h2.bls_inv] at h1
  exact ⟨a, rfl, SqL.of h1⟩

/-! ### len, all, any, sum -/
def lenD : List D → Option RV
  | [.str x] => if fitsN x.length = true then some (rz (.int x.length)) else none
  | [.lst xs] => some (rz (.int xs.length))
  | [.tup xs] => some (rz (.int xs.length))
  | [.scr ns] => some (rz (.int ns.length))
  | [.dic kvs] => some (rz (.int kvs.length))
  | _ => none
theorem KvOk.length {κ : Type} {kd : κ → D} {G : Hp} : ∀ {r : List (κ × V)} {kvs : List (D × D)}, KvOk kd K G r kvs → r.length = kvs.length
  | _, _, .nil => rfl
  | _, _, .cons _ t => by simp [KvOk.length t]

theorem op_lenD {X : Cx} : CallR X (.builtin "len") (fun xs H Q => (∃ x n, xs = [x] ∧ LenV X.K x H n ∧ Q (.int n) H) ∨ ((∃ a kvs, xs = [V.ref a] ∧ H a = some (.dK kvs) ∧ Q (.int kvs.length) H) ∨ rLenT xs H Q)) :=
  CallR.or call_len (CallR.or call_lenD call_len_dT)
theorem sim_lenD : CallSim K T (fun xs H Q => (∃ x n, xs = [x] ∧ LenV K x H n ∧ Q (.int n) H) ∨ ((∃ a kvs, xs = [V.ref a] ∧ H a = some (.dK kvs) ∧ Q (.int kvs.length) H) ∨ rLenT xs H Q)) lenD := by
  intro O H xs ds t Q hd v q k
  unfold lenD at q
  split at q
  · split at q
    · rename_i hf
      cases q
      obtain ⟨x, rfl, u⟩ := v.one
      rw [u.str]
      exact .inl ⟨_, _, rfl, ⟨fits hf, rfl⟩, k _ H (Ex.refl H) (Rp.int _)⟩
    · cases q
  · cases q
    obtain ⟨x, rfl, u⟩ := v.one
    obtain ⟨a, ys, rfl, h1, h2⟩ := u.lst
    exact .inl ⟨_, ys.length, rfl, .inl ⟨ys, SqL.of h1, rfl⟩, by rw [h2.length]; exact k _ H (Ex.refl H) (Rp.int _)⟩
  · cases q
    obtain ⟨x, rfl, u⟩ := v.one
    obtain ⟨a, ys, rfl, h1, h2⟩ := u.tup
    exact .inl ⟨_, ys.length, rfl, .inr ⟨ys, SqT.of h1, rfl⟩, by rw [h2.length]; exact k _ H (Ex.refl H) (Rp.int _)⟩
  · cases q
    obtain ⟨x, rfl, u⟩ := v.one
    obtain ⟨a, rfl, h1⟩ := u.scr
    exact .inl ⟨_, _, rfl, .inl ⟨_, h1, rfl⟩, by rw [List.length_map]; exact k _ H (Ex.refl H) (Rp.int _)⟩
  · cases q
    obtain ⟨x, rfl, u⟩ := v.one
    obtain ⟨a, rfl, h⟩ := u.dic
    rcases h with ⟨r, h1, h2⟩ | ⟨r, h1, h2⟩
    · exact .inr (.inl ⟨a, r, rfl, h1, by rw [h2.length]; exact k _ H (Ex.refl H) (Rp.int _)⟩)
    · exact .inr (.inr ⟨a, r, rfl, h1, by rw [h2.length]; exact k _ H (Ex.refl H) (Rp.int _)⟩)
  · cases q
def onBls (g : List Bool → Bool) : List D → Option RV
  | [.lst ds] => match blsD ds with | some bs => some (rz (.bl (g bs))) | none => none
  | _ => none
theorem sim_onBls {g : List Bool → Bool} : CallSim K T (fun vs H Q => ∃ (a : Addr) (bs : List Bool), vs = [V.ref a] ∧ SqL K H a (bs.map V.bl) ∧ Q (.bl (g bs)) H) (onBls g) := by
  intro O H xs ds t Q hd v q k
  unfold onBls at q
  split at q
  · split at q
    · rename_i bs hb
      cases q
      obtain ⟨x, rfl, u⟩ := v.one
      obtain ⟨a, rfl, h⟩ := u.bls hb
      exact ⟨a, bs, rfl, h, k _ H (Ex.refl H) (Rp.bl _)⟩
    · cases q
  · cases q
def onIntL (g : List Int → Option D) : List D → Option RV
  | [d] => match listInts d with | some ns => (g ns).map rz | none => none
  | _ => none
theorem onIntL_some {g : List Int → Option D} {ds : List D} {t : RV} (h : onIntL g ds = some t) : ∃ d ns e, ds = [d] ∧ listInts d = some ns ∧ g ns = some e ∧ t = rz e := by
  unfold onIntL at h
  split at h
  · rename_i d
    split at h
    · rename_i ns hn
      obtain ⟨e, h1, h2⟩ := Option.map_eq_some_iff.mp h
      exact ⟨d, ns, e, rfl, hn, h1, h2.symm⟩
    · cases h
  · cases h
def sumD : List D → Option RV := onIntL fun ns => some (.int ns.sum)
theorem sim_sumD : CallSim K T (rSum K) sumD := by
  intro O H xs ds t Q hd v q k
  obtain ⟨d, ns, e, rfl, h1, h2, rfl⟩ := onIntL_some q
  cases h2
  obtain ⟨x, rfl, u⟩ := v.one
  obtain ⟨a, rfl, h⟩ := u.ints h1
  exact ⟨a, ns, rfl, h, k _ H (Ex.refl H) (Rp.int _)⟩
/-- the greatest, the least -/
def maxL : List Int → Option Int
  | [] => none
  | n :: ns => match maxL ns with | some m => some (if n < m then m else n) | none => some n
def minL : List Int → Option Int
  | [] => none
  | n :: ns => match minL ns with | some m => some (if m < n then m else n) | none => some n
theorem maxL_none {ns : List Int} (h : maxL ns = none) : ns = [] := by
  cases ns with
  | nil => rfl
  | cons n ns =>
    simp only [maxL] at h
    split at h <;> cases h
theorem minL_none {ns : List Int} (h : minL ns = none) : ns = [] := by
  cases ns with
  | nil => rfl
  | cons n ns =>
    simp only [minL] at h
    split at h <;> cases h
theorem maxL_spec : ∀ {ns : List Int} {m : Int}, maxL ns = some m → m ∈ ns ∧ ∀ y ∈ ns, y ≤ m
  | [], m, h => by cases h
  | n :: ns, m, h => by
    simp only [maxL] at h
    split at h
    · rename_i m' h'
      obtain ⟨h1, h2⟩ := maxL_spec h'
      cases h
      split
      · rename_i hlt
        refine ⟨List.mem_cons_of_mem _ h1, fun y hy => ?_⟩
        rcases List.mem_cons.mp hy with rfl | hy
        · omega
        · exact h2 y hy
      · rename_i hlt
        refine ⟨List.mem_cons_self, fun y hy => ?_⟩
        rcases List.mem_cons.mp hy with rfl | hy
        · omega
        · have := h2 y hy; omega
    · rename_i h'
      cases h
      rw [maxL_none h']
      exact ⟨List.mem_cons_self, fun y hy => by
        rcases List.mem_cons.mp hy with rfl | hy
        · omega
        · cases hy⟩
theorem minL_spec : ∀ {ns : List Int} {m : Int}, minL ns = some m → m ∈ ns ∧ ∀ y ∈ ns, m ≤ y
  | [], m, h => by cases h
  | n :: ns, m, h => by
    simp only [minL] at h
    split at h
    · rename_i m' h'
      obtain ⟨h1, h2⟩ := minL_spec h'
      cases h
      split
      · rename_i hlt
        refine ⟨List.mem_cons_of_mem _ h1, fun y hy => ?_⟩
        rcases List.mem_cons.mp hy with rfl | hy
        · omega
        · exact h2 y hy
      · rename_i hlt
        refine ⟨List.mem_cons_self, fun y hy => ?_⟩
        rcases List.mem_cons.mp hy with rfl | hy
        · omega
        · have := h2 y hy; omega
    · rename_i h'
      cases h
      rw [minL_none h']
      exact ⟨List.mem_cons_self, fun y hy => by
        rcases List.mem_cons.mp hy with rfl | hy
        · omega
        · cases hy⟩
def maxD1 : List D → Option RV := onIntL fun ns => (maxL ns).map D.int
def minD1 : List D → Option RV := onIntL fun ns => (minL ns).map D.int
theorem sim_maxD1 : CallSim K T (rMax K) maxD1 := by
  intro O H xs ds t Q hd v q k
  obtain ⟨d, ns, e, rfl, h1, h2, rfl⟩ := onIntL_some q
  obtain ⟨m, h3, rfl⟩ := Option.map_eq_some_iff.mp h2
  obtain ⟨m1, m2⟩ := maxL_spec h3
  obtain ⟨x, rfl, u⟩ := v.one
  obtain ⟨a, rfl, h⟩ := u.ints h1
  refine ⟨a, ns, rfl, h, List.length_pos_of_mem m1, fun m' a1 a2 => ?_⟩
  have e : m' = m := by have := a2 m m1; have := m2 m' a1; omega
  subst e
  exact k _ H (Ex.refl H) (Rp.int _)
theorem sim_minD1 : CallSim K T (rMin K) minD1 := by
  intro O H xs ds t Q hd v q k
  obtain ⟨d, ns, e, rfl, h1, h2, rfl⟩ := onIntL_some q
  obtain ⟨m, h3, rfl⟩ := Option.map_eq_some_iff.mp h2
  obtain ⟨m1, m2⟩ := minL_spec h3
  obtain ⟨x, rfl, u⟩ := v.one
  obtain ⟨a, rfl, h⟩ := u.ints h1
  refine ⟨a, ns, rfl, h, List.length_pos_of_mem m1, fun m' a1 a2 => ?_⟩
  have e : m' = m := by have := a2 m m1; have := m2 m' a1; omega
  subst e
  exact k _ H (Ex.refl H) (Rp.int _)
def on2 (g : Int → Int → Int) : List D → Option RV
  | [.int i, .int j] => some (rz (.int (g i j)))
  | _ => none
theorem sim_on2 {g : Int → Int → Int} : CallSim K T (fun xs H Q => ∃ i j, xs = [.int i, .int j] ∧ Q (.int (g i j)) H) (on2 g) := by
  intro O H xs ds t Q hd v q k
  unfold on2 at q
  split at q
  · cases q
    obtain ⟨x, y, rfl, v, w⟩ := v.two
    rw [v.int, w.int]
    exact ⟨_, _, rfl, k _ H (Ex.refl H) (Rp.int _)⟩
  · cases q
abbrev max2 (i j : Int) : Int := if j > i then j else i
abbrev min2 (i j : Int) : Int := if j < i then j else i
def maxD (ds : List D) : Option RV := match on2 max2 ds with | some t => some t | none => maxD1 ds
def minD (ds : List D) : Option RV := match on2 min2 ds with | some t => some t | none => minD1 ds
theorem op_maxD {X : Cx} (hc : X.calm = true) : CallR X (.builtin "max") (fun xs H Q => (∃ i j, xs = [.int i, .int j] ∧ Q (.int (max2 i j)) H) ∨ rMax X.K xs H Q) := CallR.or (call_max2 hc) (cr_max hc)
theorem op_minD {X : Cx} (hc : X.calm = true) : CallR X (.builtin "min") (fun xs H Q => (∃ i j, xs = [.int i, .int j] ∧ Q (.int (min2 i j)) H) ∨ rMin X.K xs H Q) := CallR.or (call_min2 hc) (cr_min hc)
theorem sim_maxD : CallSim K T (fun xs H Q => (∃ i j, xs = [.int i, .int j] ∧ Q (.int (max2 i j)) H) ∨ rMax K xs H Q) maxD := CallSim.orElse sim_on2 sim_maxD1 fun a t h => by
  unfold maxD at h
  split at h
  · rename_i u hu
    cases h
    exact .inl hu
  · exact .inr h
theorem sim_minD : CallSim K T (fun xs H Q => (∃ i j, xs = [.int i, .int j] ∧ Q (.int (min2 i j)) H) ∨ rMin K xs H Q) minD := CallSim.orElse sim_on2 sim_minD1 fun a t h => by
  unfold minD at h
  split at h
  · rename_i u hu
    cases h
    exact .inl hu
  · exact .inr h

/-! ### tuple(..), list(..) -/
def tupleD : List D → Option RV
  | [.lst xs] => some (rz (.tup xs))
  | [.tup xs] => some (rz (.tup xs))
  | [.scr ns] => some (rz (.tup (ns.map D.int)))
  | _ => none
theorem sim_tupleD : CallSim K T (fun xs H Q => ∃ p ys, xs = [.ref p] ∧ ((SqL K H p ys ∧ ∀ l, H l = none → Q (.ref l) (upd H l (.tup ys))) ∨ (SqT K H p ys ∧ Q (.ref p) H))) tupleD := by
  intro O H xs ds t Q hd v q k
  unfold tupleD at q
  split at q
  · cases q
    obtain ⟨x, rfl, u⟩ := v.one
    obtain ⟨a, ys, rfl, h1, h2⟩ := u.lst
    exact ⟨a, ys, rfl, .inl ⟨SqL.of h1, fun l hl => k _ _ (Ex.new hl) (new_tup hl hd h2)⟩⟩
  · cases q
    obtain ⟨x, rfl, u⟩ := v.one
    have v' := u
    obtain ⟨a, ys, rfl, h1, h2⟩ := u.tup
    refine ⟨a, ys, rfl, .inr ⟨SqT.of h1, k _ H (Ex.refl H) ?_⟩⟩
    rcases v' with ⟨_, _, z⟩ | z
    · exact z.elim
    · exact z
  · cases q
    obtain ⟨x, rfl, u⟩ := v.one
    obtain ⟨a, rfl, h1⟩ := u.scr
    exact ⟨a, _, rfl, .inl ⟨h1, fun l hl => k _ _ (Ex.new hl) (new_tup hl hd RpAll.ints)⟩⟩
  · cases q
def listD : List D → Option RV
  | [.lst xs] => some ⟨.fr, .lst xs⟩
  | [.tup xs] => some ⟨.fr, .lst xs⟩
  | [.scr ns] => some ⟨.fr, .lst (ns.map D.int)⟩
  | _ => none
theorem sim_listD : CallSim K T (fun xs H Q => ∃ p ys, xs = [.ref p] ∧ (SqL K H p ys ∨ SqT K H p ys) ∧ ∀ l, H l = none → Q (.ref l) (upd H l (.lst ys))) listD := by
  intro O H xs ds t Q hd v q k
  unfold listD at q
  split at q
  · cases q
    obtain ⟨x, rfl, u⟩ := v.one
    obtain ⟨a, ys, rfl, h1, h2⟩ := u.lst
    exact ⟨a, ys, rfl, .inl (SqL.of h1), fun l hl => k _ _ (Ex.new hl) (new_lst hl h2)⟩
  · cases q
    obtain ⟨x, rfl, u⟩ := v.one
    obtain ⟨a, ys, rfl, h1, h2⟩ := u.tup
    exact ⟨a, ys, rfl, .inr (SqT.of h1), fun l hl => k _ _ (Ex.new hl) (new_lst hl h2)⟩
  · cases q
    obtain ⟨x, rfl, u⟩ := v.one
    obtain ⟨a, rfl, h1⟩ := u.scr
    exact ⟨a, _, rfl, .inl h1, fun l hl => k _ _ (Ex.new hl) (new_lst hl RpAll.ints)⟩
  · cases q

/-! ### sorted of ints -/
def insI (n : Int) : List Int → List Int
  | [] => [n]
  | m :: ms => if n ≤ m then n :: m :: ms else m :: insI n ms
def sortI : List Int → List Int
  | [] => []
  | n :: ns => insI n (sortI ns)
theorem insI_perm (n : Int) : ∀ ms : List Int, (insI n ms).Perm (n :: ms)
  | [] => .refl _
  | m :: ms => by
    unfold insI
    split
    · exact .refl _
    · exact ((insI_perm n ms).cons m).trans (.swap n m ms)
theorem sortI_perm : ∀ ns : List Int, (sortI ns).Perm ns
  | [] => .refl _
  | n :: ns => (insI_perm n _).trans ((sortI_perm ns).cons n)
theorem insI_sorted (n : Int) : ∀ {ms : List Int}, ms.Pairwise (· ≤ ·) → (insI n ms).Pairwise (· ≤ ·)
  | [], _ => List.pairwise_singleton _ _
  | m :: ms, h => by
    unfold insI
    have h' := List.pairwise_cons.mp h
    split
    · rename_i hle
      refine List.pairwise_cons.mpr ⟨fun y hy => ?_, h⟩
      rcases List.mem_cons.mp hy with rfl | hy
      · exact hle
      · have := h'.1 y hy; omega
    · rename_i hle
      refine List.pairwise_cons.mpr ⟨fun y hy => ?_, insI_sorted n h'.2⟩
      rcases List.mem_cons.mp ((insI_perm n ms).mem_iff.mp hy) with rfl | hy
      · omega
      · exact h'.1 y hy
theorem sortI_sorted : ∀ ns : List Int, (sortI ns).Pairwise (· ≤ ·)
  | [] => .nil
  | n :: ns => insI_sorted n (sortI_sorted ns)
theorem sorted_uniq {xs ys : List Int} (h1 : xs.Pairwise (· ≤ ·)) (h2 : ys.Pairwise (· ≤ ·)) (p : xs.Perm ys) : xs = ys :=
  p.eq_of_pairwise (fun a b _ _ h h' => Int.le_antisymm h h') h1 h2
end
end Mini

set_option Elab.async false
set_option linter.all false
set_option maxRecDepth 100000
/-! Mini 5: isinstance, subscripts, slices, membership, methods that read. -/
namespace Mini
open PySem L2 LamX

/-! ### isinstance(x, T), T a built-in type -/
def tyName : D → String
  | .non => "NoneType" | .bl _ => "bool" | .int _ => "int" | .str _ => "str" | .lst _ => "list" | .tup _ => "tuple" | .dic _ => "dict" | .scr _ => "list"
def tyNames : List String := ["NoneType", "bool", "int", "str", "list", "tuple", "dict"]
def isTy (T n : String) : Bool := n == T || (n == "bool" && T == "int")
theorem kit_tab : ∀ n ∈ tyNames, ∀ T ∈ ["int", "bool", "tuple", "list", "str", "dict"], kitB n T = some (isTy T n) := by decide +kernel
theorem tyName_mem (d : D) : tyName d ∈ tyNames := by cases d <;> simp [tyName, tyNames]
section
variable {K : PySem.W.Frag} {T : List (Addr × Str)} {H : Hp} {O : Zone} {x : V}
theorem Vw.ty {d : D} (v : Vw K H O x d) : TyX K H x (.type (tyName d)) := by
  cases d with
  | non => rw [v.non]; exact .base .non
  | bl b => rw [v.bl]; exact .base (.bl b)
  | int i => rw [v.int]; exact .base (.int i)
  | str y => rw [v.str]; exact .base (.str y)
  | lst ds => obtain ⟨a, xs, rfl, h, _⟩ := v.lst; exact .base (.lst h)
  | tup ds => obtain ⟨a, xs, rfl, h, _⟩ := v.tup; exact .base (.tup h)
  | dic kvs =>
    obtain ⟨a, rfl, h⟩ := v.dic
    rcases h with ⟨r, h1, _⟩ | ⟨r, h1, _⟩
    · exact .base (.dK h1)
    · exact .base (.dT h1)
  | scr ns =>
    obtain ⟨a, rfl, h⟩ := v.scr
    rcases h with (h | ⟨o, h⟩) | ⟨o, its, n, h1, h2, _⟩
    · exact .base (.lst h)
    · exact .base (.frz h)
    · exact .kList h1 h2
end
section
variable {F : Fm} {W : WX} {cv : Str → Value} {X : Cx} {e a b c o : Expr} {es : List Expr} {pos p p2 : Pos}
def dIsi (T : String) (da : DE) : DE := fun st => (da st).bind fun r => .ok (rz (.bl (isTy T (tyName r.d))))
theorem s_isi {n : String} {x : Str} {da : DE} (hK : X.K = F.K) (hn : n ∈ ["int", "bool", "tuple", "list", "str", "dict"]) (hg : Gl X "isinstance") (hm : X.mg "isinstance" = none) (ha : PE X a (TEx F W cv da)) (hg2 : Gl X x) (hm2 : X.mg x = none) (hv : bootBuiltins x = some (.type n))
    (hx : x ≠ "__name__") (hdb : (x == ("__debug__" : Str)) = false)
    (he : starEach [a, .Name x p2] X.env = (false, eval a X.env) :: starEach [.Name x p2] X.env) (he2 : starEach [.Name x p2] X.env = (false, eval (.Name x p2) X.env) :: starEach [] X.env) (hpl : (backTo pos (starEach [.Name x p2] X.env)).any (·.1) = false) :
    PE X (.Call (.Name "isinstance" p) [a, .Name x p2] [] pos) (TEx F W cv (dIsi n da)) := by
  refine pe_w (pe_callB (id := "isinstance") call_isi hg hm (by decide +kernel) (pa_cons ha (pa_cons (pe_bltn (v := .ty n) hg2 hm2 hv rfl hx hdb) pa_nil he2) he) (by decide) (by decide) he hpl) fun σ H Q h => ?_
  show Tx F W cv (okE F) da σ H _
  refine tx_bind (okA := okE F) (okC := okE F) (f := fun (r : RV) st => Out.ok (rz (.bl (isTy n (tyName r.d))))) h fun M st O ra x H1 R e1 R1 k1 h1 => ?_
  refine ⟨x, .ty n, .type (tyName ra.d), .type n, isTy n (tyName ra.d), rfl, .ty n, ?_, kit_ty (kit_tab _ (tyName_mem _) _ hn), h1 _ H1 (Ex.refl _) (Rp.bl _)⟩
  rw [hK]
  exact (k1.vw (T := F.T)).ty

/-! ### not, and, or as values -/
def trD : D → Option Bool
  | .non => some false
  | .bl b => some b
  | .int i => some (i != 0)
  | .str x => if fitsN x.length = true then some ((x.length : Int) != 0) else none
  | .lst xs => some (!xs.isEmpty)
  | .tup xs => some (!xs.isEmpty)
  | .scr ns => some (!ns.isEmpty)
  | .dic _ => none
theorem RpAll.empty {K : PySem.W.Frag} {G : Hp} {vs : List V} {ds : List D} (h : RpAll K G vs ds) : vs.isEmpty = ds.isEmpty := by
  cases ds with
  | nil => cases h; rfl
  | cons d ds => cases h; rfl
theorem Vw.tru {K : PySem.W.Frag} {H : Hp} {O : Zone} {x : V} {d : D} {b : Bool} (v : Vw K H O x d) (h : trD d = some b) : TruV K x H b := by
  cases d with
  | non => cases h; rw [v.non]; rfl
  | bl c => cases h; rw [v.bl]; rfl
  | int i => cases h; rw [v.int]; rfl
  | str y =>
    have h : (if fitsN y.length = true then some ((y.length : Int) != 0) else none) = some b := h
    by_cases hf : fitsN y.length = true
    · rw [if_pos hf] at h
      cases h
      rw [v.str]
      exact ⟨fits hf, rfl⟩
    · rw [if_neg hf] at h
      cases h
  | lst ds =>
    cases h
    obtain ⟨a, xs, rfl, h1, h2⟩ := v.lst
    exact .inl ⟨xs, SqL.of h1, by rw [h2.empty]⟩
  | tup ds =>
    cases h
    obtain ⟨a, xs, rfl, h1, h2⟩ := v.tup
    exact .inr (.inl ⟨xs, SqT.of h1, by rw [h2.empty]⟩)
  | scr ns =>
    cases h
    obtain ⟨a, rfl, h1⟩ := v.scr
    exact .inl ⟨_, h1, by simp⟩
  | dic _ => cases h
def dOrV (da db : DE) : DE := fun st => (da st).bind fun r => match trD r.d with | some true => .ok r | some false => db st | none => .bad
def dAndV (da db : DE) : DE := fun st => (da st).bind fun r => match trD r.d with | some true => db st | some false => .ok r | none => .bad
def dNotV (da : DE) : DE := fun st => (da st).bind fun r => match trD r.d with | some b => .ok (rz (.bl (!b))) | none => .bad
variable {rest : List Expr}
theorem s_orV {da db : DE} (hK : X.K = F.K) (ha : PE X a (TEx F W cv da)) (hb : PE X (.BoolOp .Or (b :: rest) pos) (TEx F W cv db)) : PE X (.BoolOp .Or (a :: b :: rest) pos) (TEx F W cv (dOrV da db)) := by
  refine pe_w (pe_orT ha hb) fun σ H Q h => ?_
  show Tx F W cv (okE F) da σ H _
  refine tx_bind (okA := okE F) (okC := okE F) (f := fun (r : RV) st => match trD r.d with | some true => .ok r | some false => db st | none => .bad) h fun M st O ra x H1 R e1 R1 k1 h1 => ?_
  cases q : trD ra.d with
  | none => rw [q] at h1; exact h1.elim
  | some k =>
    rw [q] at h1
    refine ⟨k, by rw [hK]; exact (k1.vw (T := F.T)).tru q, ?_⟩
    cases k with
    | true => exact h1 x H1 (Ex.refl _) k1
    | false => exact tx_back R1 (fun H' y r k => k.back e1) h1
theorem s_andV {da db : DE} (hK : X.K = F.K) (ha : PE X a (TEx F W cv da)) (hb : PE X (.BoolOp .And (b :: rest) pos) (TEx F W cv db)) : PE X (.BoolOp .And (a :: b :: rest) pos) (TEx F W cv (dAndV da db)) := by
  refine pe_w (pe_andT ha hb) fun σ H Q h => ?_
  show Tx F W cv (okE F) da σ H _
  refine tx_bind (okA := okE F) (okC := okE F) (f := fun (r : RV) st => match trD r.d with | some true => db st | some false => .ok r | none => .bad) h fun M st O ra x H1 R e1 R1 k1 h1 => ?_
  cases q : trD ra.d with
  | none => rw [q] at h1; exact h1.elim
  | some k =>
    rw [q] at h1
    refine ⟨k, by rw [hK]; exact (k1.vw (T := F.T)).tru q, ?_⟩
    cases k with
    | true => exact tx_back R1 (fun H' y r k => k.back e1) h1
    | false => exact h1 x H1 (Ex.refl _) k1
theorem s_notV {da : DE} (hK : X.K = F.K) (ha : PE X a (TEx F W cv da)) : PE X (.UnaryOp .Not a pos) (TEx F W cv (dNotV da)) := by
  refine pe_w (pe_notT ha) fun σ H Q h => ?_
  show Tx F W cv (okE F) da σ H _
  refine tx_bind (okA := okE F) (okC := okE F) (f := fun (r : RV) st => match trD r.d with | some b => Out.ok (rz (.bl (!b))) | none => .bad) h fun M st O ra x H1 R e1 R1 k1 h1 => ?_
  cases q : trD ra.d with
  | none => rw [q] at h1; exact h1.elim
  | some k =>
    rw [q] at h1
    exact ⟨k, by rw [hK]; exact (k1.vw (T := F.T)).tru q, h1 _ H1 (Ex.refl _) (Rp.bl _)⟩
/-- a value's truth as a test -/
theorem s_truth {da : DE} (hK : X.K = F.K) (ha : PE X a (TEx F W cv da)) (he : ∀ whole, isTrue a X.env whole = (do let v ← whole; standAt a.pos; holding [v] (truthy v))) : PT X a (TTx F W cv (dTest da trD)) := by
  refine pt_w (pt_truth ha he) fun σ H Q h => ?_
  show Tx F W cv (okE F) da σ H _
  refine tx_bind (okA := okE F) (okC := okT) (f := fun (r : RV) st => Out.of (trD r.d)) h fun M st O ra x H1 R e1 R1 k1 h1 => ?_
  obtain ⟨b, q, h2⟩ := h1.of
  exact ⟨b, by rw [hK]; exact (k1.vw (T := F.T)).tru q, h2 b H1 (Ex.refl _) rfl⟩
/-- -x -/
def dNeg (da : DE) : DE := fun st => (da st).bind fun r => match r.d with | .int i => .ok (rz (.int (-i))) | _ => .bad
theorem s_neg {da : DE} (ha : PE X a (TEx F W cv da)) : PE X (.UnaryOp .USub a pos) (TEx F W cv (dNeg da)) := by
  refine pe_w (pe_un un_neg ha) fun σ H Q h => ?_
  show Tx F W cv (okE F) da σ H _
  refine tx_bind (okA := okE F) (okC := okE F) (f := fun (r : RV) st => match r.d with | .int i => Out.ok (rz (.int (-i))) | _ => .bad) h fun M st O ra x H1 R e1 R1 k1 h1 => ?_
  obtain ⟨k, d⟩ := ra
  cases d with
  | int i => exact ⟨i, (k1.vw (T := F.T)).int, h1 _ H1 (Ex.refl _) (Rp.int _)⟩
  | _ => exact h1.elim
/-- a < b < c -/
def dChain (f g : D → D → Option RV) (da db dc : DE) : DE := fun st => (da st).bind fun r => (db st).bind fun s => match f r.d s.d with
  | some ⟨_, .bl true⟩ => (dc st).bind fun t => .of (g s.d t.d)
  | some ⟨_, .bl false⟩ => .ok (rz (.bl false))
  | _ => .bad
theorem s_chain {op op' : CmpOp} {r r' : R2} {f g : D → D → Option RV} {da db dc : DE} (ho : OpR X (compareOp op) r) (ho' : OpR X (compareOp op') r') (hs : OpSim F.K F.T r f) (hs' : OpSim F.K F.T r' g) (ha : PE X a (TEx F W cv da)) (hb : PE X b (TEx F W cv db)) (hc : PE X c (TEx F W cv dc))
    (hm : lastMarks [op, op'] [b, c] = false) : PE X (.Compare a [op, op'] [b, c] pos) (TEx F W cv (dChain f g da db dc)) := by
  refine pe_w (pe_chain ho ho' ha hb hc hm) fun σ H Q h => ?_
  show Tx F W cv (okE F) da σ H _
  refine tx_bind (okA := okE F) (okC := okE F) (f := fun (r : RV) st => (db st).bind fun s => match f r.d s.d with
    | some ⟨_, .bl true⟩ => (dc st).bind fun t => .of (g s.d t.d)
    | some ⟨_, .bl false⟩ => .ok (rz (.bl false))
    | _ => .bad) h fun M st O ra x H1 R e1 R1 k1 h1 => ?_
  refine ⟨M, st, O, R1, (OutP.bind h1).mono (fun rb _ h2 y H2 e2 k2 => ?_) fun c _ h => h⟩
  have R2 := R1.ex e2
  cases q : f ra.d rb.d with
  | none => rw [q] at h2; exact h2.elim
  | some t =>
    rw [q] at h2
    refine hs O H2 x y ra.d rb.d t _ R2.dom ((k1.vw (T := F.T)).ex e2) (k2.vw (T := F.T)) q fun z H3 e3 k3 => ?_
    obtain ⟨tk, td⟩ := t
    cases td with
    | bl bb =>
      have ez : z = .bl bb := (k3.vw (T := F.T)).bl
      refine ⟨bb, ez, ?_⟩
      cases bb with
      | false => exact h2 _ H3 (e2.trans e3) (Rp.bl _)
      | true =>
        refine ⟨M, st, O, R2.ex e3, (OutP.bind h2).mono (fun rc _ h4 w H4 e4 k4 => ?_) fun c _ h H' e => h H' ((e2.trans e3).trans e)⟩
        obtain ⟨u, q2, h5⟩ := h4.of
        exact hs' O H4 y w rb.d rc.d u Q ((R2.ex e3).ex e4).dom (((k2.vw (T := F.T)).ex e3).ex e4) (k4.vw (T := F.T)) q2 fun z2 H5 e5 k5 => h5 z2 H5 (((e2.trans e3).trans e4).trans e5) (k5.back (((e1.trans e2).trans e3).trans e4))
    | _ => exact h2.elim

/-! ### subscripts -/
def ixD : D → D → Option RV
  | .lst xs, .int i => (atI xs i).map rz
  | .tup xs, .int i => (atI xs i).map rz
  | .scr ns, .int i => (atI ns i).map fun n => rz (.int n)
  | .str z, .int i => if fitsN z.length = true then (atI z.cps.toList i).map fun c => rz (.str ⟨#[c]⟩) else none
  | _, _ => none
theorem atI_rp {K : PySem.W.Frag} {G : Hp} {vs : List V} {ds : List D} {i : Int} {d : D} (h : RpAll K G vs ds) (e : atI ds i = some d) : ∃ v, atI vs i = some v ∧ Rp K G v d := by
  unfold atI at e ⊢
  rw [h.length]
  cases q : ixN ds.length i with
  | none => rw [q] at e; cases e
  | some j =>
    rw [q] at e
    exact h.get e
theorem atI_map {ns : List Int} {i n : Int} (h : atI ns i = some n) : atI (ns.map V.int) i = some (.int n) := by
  unfold atI at h ⊢
  rw [List.length_map]
  cases q2 : ixN ns.length i with
  | none => rw [q2] at h; cases h
  | some j =>
    rw [q2] at h
    have h : ns[j]? = some n := h
    show (ns.map V.int)[j]? = some _
    rw [List.getElem?_map, h]
    rfl
theorem sim_ixD {K : PySem.W.Frag} {T : List (Addr × Str)} : OpSim K T (rIx K) ixD := by
  intro O H x y dx dy t Q hd v w q k
  unfold ixD at q
  split at q
  · obtain ⟨d, q1, rfl⟩ := Option.map_eq_some_iff.mp q
    obtain ⟨a, xs, rfl, h1, h2⟩ := v.lst
    obtain ⟨u, e1, e2⟩ := atI_rp h2 q1
    exact .inl ⟨a, xs, _, u, rfl, w.int, SqL.of h1, e1, k _ H (Ex.refl H) e2⟩
  · obtain ⟨d, q1, rfl⟩ := Option.map_eq_some_iff.mp q
    obtain ⟨a, xs, rfl, h1, h2⟩ := v.tup
    obtain ⟨u, e1, e2⟩ := atI_rp h2 q1
    exact .inr (.inl ⟨a, xs, _, u, rfl, w.int, SqT.of h1, e1, k _ H (Ex.refl H) e2⟩)
  · obtain ⟨d, q1, rfl⟩ := Option.map_eq_some_iff.mp q
    obtain ⟨a, rfl, h1⟩ := v.scr
    exact .inl ⟨a, _, _, .int d, rfl, w.int, h1, atI_map q1, k _ H (Ex.refl H) (Rp.int _)⟩
  · split at q
    · rename_i hf
      obtain ⟨c, q1, rfl⟩ := Option.map_eq_some_iff.mp q
      exact .inr (.inr ⟨_, _, c, v.str, w.int, fits hf, q1, k _ H (Ex.refl H) (Rp.str _)⟩)
    · cases q
  · cases q
/-! ### slices -/
def cutD (xs : List D) (lo hi : Option Int) : List D := (xs.drop (HT.sIx xs.length 0 lo)).take (HT.sIx xs.length xs.length hi - HT.sIx xs.length 0 lo)
def slD (lo hi : Option Int) : D → Option RV
  | .lst xs => some ⟨.fr, .lst (cutD xs lo hi)⟩
  | .tup xs => some (rz (.tup (cutD xs lo hi)))
  | .str z => if fitsN z.length = true then some (rz (.str (cutS z lo hi))) else none
  | _ => none
theorem cutD_rp {K : PySem.W.Frag} {G : Hp} {vs : List V} {ds : List D} (h : RpAll K G vs ds) (lo hi : Option Int) : RpAll K G (cutV vs lo hi) (cutD ds lo hi) := by
  unfold cutV cutD
  rw [h.length]
  exact (h.drop _).take _
theorem cutD_whole {xs : List D} {lo hi : Option Int} (h : HT.sIx xs.length 0 lo = 0 ∧ HT.sIx xs.length xs.length hi = xs.length) : cutD xs lo hi = xs := by
  unfold cutD
  rw [h.1, h.2]
  simp
abbrev rSlD (K : PySem.W.Frag) : V → Option Int → Option Int → Hp → VK → Prop := fun x lo hi H Q => rSlL K x lo hi H Q ∨ (rSlA K x lo hi H Q ∨ rSlS x lo hi H Q)
theorem op_slD : SlR X (rSlD X.K) := sl_list.or (sl_tupA.or sl_str)
/-- a part of a slice -/
def dPart (o : Option DE) : MSt → Out (Option Int) := match o with
  | none => fun _ => .ok none
  | some de => fun st => (de st).bind fun r => match r.d with | .int i => .ok (some i) | _ => .bad
abbrev okO : Hp → Hp → Zone → Option Int → Option Int → Prop := fun _ _ _ b r => b = r
def TOx (F : Fm) (W : WX) (cv : Str → Value) (de : MSt → Out (Option Int)) : TO := fun σ H Q => Tx F W cv okO de σ H Q
theorem po_w {oe : Option Expr} {t t' : TO} (h : PO X oe t) (w : ∀ σ H Q, t' σ H Q → t σ H Q) : PO X oe t' := ⟨fun pins s σ H Q I q => h.run pins s σ H Q I (w σ H Q q)⟩
theorem s_partN : PO X none (TOx F W cv (dPart none)) := po_w po_none fun σ H Q ⟨M, st, O, R, h⟩ => h none H (Ex.refl H) rfl
theorem s_part {de : DE} (h : PE X e (TEx F W cv de)) : PO X (some e) (TOx F W cv (dPart (some de))) := by
  refine po_w (po_some h) fun σ H Q h => ?_
  show Tx F W cv (okE F) de σ H _
  refine tx_bind (okA := okE F) (okC := okO) (f := fun (r : RV) st => match r.d with | .int i => Out.ok (some i) | _ => .bad) h fun M st O ra x H1 R e1 R1 k1 h1 => ?_
  obtain ⟨k, d⟩ := ra
  cases d with
  | int i => exact ⟨i, (k1.vw (T := F.T)).int, h1 _ H1 (Ex.refl _) rfl⟩
  | _ => exact h1.elim
def dSl (da : DE) (dl dh : MSt → Out (Option Int)) : DE := fun st => (da st).bind fun r => (dl st).bind fun l => (dh st).bind fun h => .of (slD l h r.d)
theorem s_slice {da : DE} {dl dh : MSt → Out (Option Int)} {lo hi : Option Expr} {p2 : Pos} (hK : X.K = F.K) (ha : PE X a (TEx F W cv da)) (hl : PO X lo (TOx F W cv dl)) (hh : PO X hi (TOx F W cv dh)) : PE X (.Subscript a (.Slice lo hi none p2) pos) (TEx F W cv (dSl da dl dh)) := by
  refine pe_w (pe_slice op_slD ha hl hh) fun σ H Q h => ?_
  show Tx F W cv (okE F) da σ H _
  refine tx_bind (okA := okE F) (okC := okE F) (f := fun (r : RV) st => (dl st).bind fun l => (dh st).bind fun h => .of (slD l h r.d)) h fun M st O ra x H1 R e1 R1 k1 h1 => ?_
  refine ⟨M, st, O, R1, (OutP.bind h1).mono (fun rl _ h2 l H2 e2 k2 => ?_) fun c _ h => h⟩
  obtain rfl : l = rl := k2
  have R2 := R1.ex e2
  refine ⟨M, st, O, R2, (OutP.bind h2).mono (fun rh _ h3 hh H3 e3 k3 => ?_) fun c _ h H' e => h H' (e2.trans e)⟩
  obtain rfl : hh = rh := k3
  have R3 := R2.ex e3
  obtain ⟨t, q, h4⟩ := h3.of
  have fin : ∀ z H', Ex F.T H3 H' → ResOk F.K H3 H' O z t → Q z H' := fun z H' e k => h4 z H' ((e2.trans e3).trans e) (k.back ((e1.trans e2).trans e3))
  have v := ((k1.vw (T := F.T)).ex e2).ex e3
  show rSlD X.K x l hh H3 Q
  rw [hK]
  unfold slD at q
  split at q
  · rename_i xs hx
    cases q
    rw [hx] at v
    obtain ⟨a, ys, rfl, h5, h6⟩ := v.lst
    exact .inl ⟨a, ys, rfl, SqL.of h5, fun p hp => fin _ _ (Ex.new hp) (new_lst hp (cutD_rp h6 _ _))⟩
  · rename_i xs hx
    cases q
    rw [hx] at v
    have v' := v
    obtain ⟨a, ys, rfl, h5, h6⟩ := v.tup
    refine .inr (.inl ⟨a, ys, rfl, SqT.of h5, fun e => ?_, fun _ p hp => fin _ _ (Ex.new hp) (new_tup hp R3.dom (cutD_rp h6 _ _))⟩)
    refine fin _ H3 (Ex.refl _) ?_
    show Rp F.K (hide H3 O) _ (.tup (cutD xs l hh))
    rw [h6.length] at e
    rw [cutD_whole e]
    rcases v' with ⟨_, _, z⟩ | z
    · exact z.elim
    · exact z
  · rename_i z hz
    rw [hz] at v
    split at q
    · rename_i hf
      cases q
      exact .inr (.inr ⟨_, v.str, fits hf, fin _ H3 (Ex.refl _) (Rp.str _)⟩)
    · cases q
  · cases q
end
end Mini

set_option Elab.async false
set_option linter.all false
set_option maxRecDepth 100000
/-! Mini 6: what is walked, targets, comprehensions. -/
namespace Mini
open PySem L2 LamX

/-! ### states: weaker ones, slots set -/
section
variable {F : Fm} {M : Dm} {st st' : MSt} {σ σ' : L2.St} {H H' : Hp} {O O' : Zone}
theorem Rel.weak (r : Rel F M st σ H O) (hl : st'.length = σ'.length) (h : ∀ (i : Nat) v, st'[i]? = some (some v) → st[i]? = some (some v) ∧ σ'[i]? = σ[i]?) : Rel F M st' σ' H O :=
  ⟨r.sub, r.dom, r.tabs, r.ex0, hl, fun i v e => by
    obtain ⟨h1, h2⟩ := h i v e
    obtain ⟨x, q1, q2⟩ := r.slot i v h1
    exact ⟨x, by rw [h2]; exact q1, q2⟩, fun i j d d' a e1 e2 e3 e4 => by
    obtain ⟨a1, a2⟩ := h i _ e1
    obtain ⟨b1, b2⟩ := h j _ e2
    rw [a2] at e3
    rw [b2] at e4
    exact r.uniq i j d d' a a1 b1 e3 e4⟩
theorem Rel.setFz (r : Rel F M st σ H O) {x : V} {d : D} (j : Nat) (h : Rp F.K (hide H O) x d) : Rel F M (st.set j (some (.fz d))) (σ.set j (some x)) H O := by
  refine ⟨r.sub, r.dom, r.tabs, r.ex0, by simp [r.len], fun i v e => ?_, fun i k d1 d2 a e1 e2 e3 e4 => ?_⟩
  · by_cases hi : j = i
    · subst hi
      by_cases hj : j < st.length
      · rw [List.getElem?_set_self hj] at e
        cases e
        exact ⟨x, List.getElem?_set_self (by rw [← r.len]; exact hj), h⟩
      · rw [List.getElem?_eq_none (by simpa using hj)] at e
        cases e
    · rw [List.getElem?_set_ne hi] at e
      obtain ⟨y, q1, q2⟩ := r.slot i v e
      exact ⟨y, by rw [List.getElem?_set_ne hi]; exact q1, q2⟩
  · have ne : ∀ (m : Nat) (dd : D), (st.set j (some (.fz d)))[m]? = some (some (.own dd)) → j ≠ m ∧ st[m]? = some (some (.own dd)) := fun m dd e => by
      by_cases hm : j = m
      · subst hm
        by_cases hj : j < st.length
        · rw [List.getElem?_set_self hj] at e; cases e
        · rw [List.getElem?_eq_none (by simpa using hj)] at e; cases e
      · rw [List.getElem?_set_ne hm] at e
        exact ⟨hm, e⟩
    obtain ⟨n1, a1⟩ := ne i d1 e1
    obtain ⟨n2, a2⟩ := ne k d2 e2
    rw [List.getElem?_set_ne n1] at e3
    rw [List.getElem?_set_ne n2] at e4
    exact r.uniq i k d1 d2 a a1 a2 e3 e4
/-- a new object is owned by a slot -/
theorem Rel.setOwn (r : Rel F M st σ H O) {a : Addr} {d : D} (j : Nat) (fr : Fresh H a) (e : Ex F.T H H') (h : OwnAt F.K H' (fun b => O b ∨ b = a) a d) : Rel F M (st.set j (some (.own d))) (σ.set j (some (.ref a))) H' (fun b => O b ∨ b = a) := by
  have r1 := r.ex e
  have sub' : ∀ b, O b ∨ b = a → O b ∨ Fresh H b := fun b z => z.elim .inl fun q => .inr (by rw [q]; exact fr)
  have na : ¬ O a := r.dom.fresh fr
  have hat : ∃ o, H' a = some o ∧ isLD o = true := by
    cases d with
    | lst ds => obtain ⟨xs, h1, _⟩ := h; exact ⟨_, h1, rfl⟩
    | dic kvs =>
      rcases h with ⟨q, h1, _⟩ | ⟨q, h1, _⟩
      · exact ⟨_, h1, rfl⟩
      · exact ⟨_, h1, rfl⟩
    | _ => exact h.elim
  refine ⟨fun b z => .inl (r.sub b z), fun b z => ?_, r1.tabs, r1.ex0, by simp [r.len], fun i v q => ?_, fun i k d1 d2 b e1 e2 e3 e4 => ?_⟩
  · rcases z with z | z
    · exact r1.dom b z
    · rw [z]; exact hat
  · by_cases hi : j = i
    · subst hi
      by_cases hj : j < st.length
      · rw [List.getElem?_set_self hj] at q
        cases q
        exact ⟨.ref a, List.getElem?_set_self (by rw [← r.len]; exact hj), a, rfl, .inr rfl, fun z => na (r.sub a z), fr.back r.ex0, h⟩
      · rw [List.getElem?_eq_none (by simpa using hj)] at q
        cases q
    · rw [List.getElem?_set_ne hi] at q
      obtain ⟨y, q1, q2⟩ := r.slot i v q
      refine ⟨y, by rw [List.getElem?_set_ne hi]; exact q1, ?_⟩
      cases v with
      | fz dd => exact (hide_mono e sub').rp _ _ q2
      | own dd =>
        obtain ⟨c, h1, h2, h3, h4, h5⟩ := q2
        exact ⟨c, h1, .inl h2, h3, h4, h5.mono e sub'⟩
      | exn c => exact q2
  · have old : ∀ (m : Nat) (dd : D), j ≠ m → (st.set j (some (.own d)))[m]? = some (some (.own dd)) → (σ.set j (some (.ref a)))[m]? = some (some (.ref b)) → O b ∧ st[m]? = some (some (.own dd)) ∧ σ[m]? = some (some (.ref b)) := fun m dd hm e e' => by
      rw [List.getElem?_set_ne hm] at e e'
      obtain ⟨y, q1, c, h1, h2, _⟩ := r.slot m _ e
      rw [e'] at q1
      cases q1
      cases h1
      exact ⟨h2, e, e'⟩
    have self : ∀ (dd : D), (st.set j (some (.own d)))[j]? = some (some (.own dd)) → (σ.set j (some (.ref a)))[j]? = some (some (.ref b)) → b = a := fun dd e e' => by
      by_cases hj : j < st.length
      · rw [List.getElem?_set_self (by rw [← r.len]; exact hj)] at e'
        cases e'
        rfl
      · rw [List.getElem?_eq_none (by simpa using hj)] at e
        cases e
    by_cases hi : j = i
    · by_cases hk : j = k
      · exact hi.symm.trans hk
      · subst hi
        have := self d1 e1 e3
        subst this
        exact absurd (old k d2 hk e2 e4).1 na
    · by_cases hk : j = k
      · subst hk
        have := self d2 e2 e4
        subst this
        exact absurd (old i d1 hi e1 e3).1 na
      · exact r.uniq i k d1 d2 b (old i d1 hi e1 e3).2.1 (old k d2 hk e2 e4).2.1 (old i d1 hi e1 e3).2.2 (old k d2 hk e2 e4).2.2
/-- a hidden object of the callers changes -/
theorem hide_upd {a : Addr} {o : HO} (h : O a) : hide (upd H a o) O = hide H O := by
  funext b
  unfold hide
  by_cases hb : O b
  · simp [hb]
  · simp only [hb, if_false]
    exact upd_ne fun z => hb (by rw [z]; exact h)
theorem tabs_upd {T : List (Addr × Str)} {a : Addr} {o o' : HO} (t : Tabs T H) (h : H a = some o') (l : isLD o' = true) : Tabs T (upd H a o) := by
  intro p hp
  obtain ⟨ps, h1, h2, h3⟩ := t p hp
  have ne : ∀ b u, H b = some u → isLD u = false → b ≠ a := fun b u e f z => by
    rw [z, h] at e
    cases e
    rw [l] at f
    cases f
  refine ⟨ps, by rw [upd_ne (ne _ _ h1 rfl)]; exact h1, h2, fun pos cv hc => ?_⟩
  obtain ⟨c, e1, e2⟩ := h3 pos cv hc
  exact ⟨c, e1, by rw [upd_ne (ne _ _ e2 rfl)]; exact e2⟩
theorem At.upd_ne {K : PySem.W.Frag} {G : Hp} {a c : Addr} {o : HO} {d : D} (h : At K H G c d) (hc : c ≠ a) : At K (upd H a o) G c d := by
  cases d with
  | lst ds => obtain ⟨xs, h1, h2⟩ := h; exact ⟨xs, by rw [L2.upd_ne hc]; exact h1, h2⟩
  | dic kvs =>
    rcases h with ⟨r, h1, h2⟩ | ⟨r, h1, h2⟩
    · exact .inl ⟨r, by rw [L2.upd_ne hc]; exact h1, h2⟩
    · exact .inr ⟨r, by rw [L2.upd_ne hc]; exact h1, h2⟩
  | _ => exact h.elim
theorem Rel.updS (r : Rel F M st σ H O) {a : Addr} {o o' : HO} (h : M.S a) (fr : Fresh M.H0 a) (h' : H a = some o') (l' : isLD o' = true) (l : isLD o = true) : Rel F M st σ (upd H a o) O := by
  have ha := r.sub a h
  have tb := tabs_upd (o := o) r.tabs h' l'
  refine ⟨r.sub, fun b z => ?_, tb, ⟨fun b u e n => ?_, fun _ => tb⟩, r.len, fun i v e => ?_, r.uniq⟩
  · by_cases hb : b = a
    · rw [hb, upd_same]; exact ⟨o, rfl, l⟩
    · rw [L2.upd_ne hb]; exact r.dom b z
  · by_cases hb : b = a
    · obtain ⟨ps, z⟩ := fr u (by rw [← hb]; exact e)
      exact absurd z (n ps)
    · rw [L2.upd_ne hb]; exact r.ex0.ext b u e n
  · obtain ⟨x, q1, q2⟩ := r.slot i v e
    refine ⟨x, q1, ?_⟩
    cases v with
    | fz d =>
      show Rp F.K (hide (upd H a o) O) x d
      rw [hide_upd ha]
      exact q2
    | own d =>
      obtain ⟨c, h1, h2, h3, h4, h5⟩ := q2
      refine ⟨c, h1, h2, h3, h4, ?_⟩
      show At F.K (upd H a o) (hide (upd H a o) O) c d
      rw [hide_upd ha]
      exact h5.upd_ne fun z => h3 (by rw [z]; exact h)
    | exn c => exact q2

theorem wipe_set {σ : L2.St} {x : Option V} {j : Nat} : ∀ {vs : List Nat}, j ∈ vs → wipe (σ.set j x) vs = wipe σ vs
  | [], h => by cases h
  | v :: vs, h => by
    show (wipe (σ.set j x) vs).set v none = (wipe σ vs).set v none
    by_cases hj : j ∈ vs
    · rw [wipe_set hj]
    · rcases List.mem_cons.mp h with rfl | h
      · have : ∀ vs : List Nat, j ∉ vs → wipe (σ.set j x) vs = (wipe σ vs).set j x := by
          intro vs
          induction vs with
          | nil => intro _; rfl
          | cons u us ih =>
            intro hn
            show (wipe (σ.set j x) us).set u none = ((wipe σ us).set u none).set j x
            rw [ih fun z => hn (List.mem_cons_of_mem _ z), List.set_comm _ _ (fun z => hn (by rw [z]; exact List.mem_cons_self))]
        rw [this vs hj, List.set_set]
      · exact absurd h hj

/-! ### targets -/
inductive Pat where
  | one (j : Nat)
  | many (js : List Nat)
def setAll : List Nat → List D → MSt → MSt
  | j :: js, d :: ds, st => setAll js ds (st.set j (some (.fz d)))
  | _, _, st => st
def setPat : Pat → D → MSt → Option MSt
  | .one j, d, st => some (st.set j (some (.fz d)))
  | .many js, .tup ds, st => if js.length = ds.length then some (setAll js ds st) else none
  | .many _, _, _ => none
def gNames : List Nat → TGs
  | [] => gNil
  | j :: js => gCons (gName j) (gNames js)
def gPat (K : PySem.W.Frag) : Pat → TG
  | .one j => gName j
  | .many js => gTup K js.length (gNames js)
def Pat.slots : Pat → List Nat
  | .one j => [j]
  | .many js => js
theorem names_ok : ∀ (js : List Nat) (ds : List D) (xs : List V) (st : MSt) (σ : L2.St), js.length = ds.length → RpAll F.K (hide H O) xs ds → Rel F M st σ H O →
    ∃ σ', Rel F M (setAll js ds st) σ' H O ∧ (∀ vs, (∀ j ∈ js, j ∈ vs) → wipe σ' vs = wipe σ vs) ∧ ∀ Q : L2.St → Hp → Prop, Q σ' H → gNames js xs σ H Q := by
  intro js
  induction js with
  | nil =>
    intro ds xs st σ hl h r
    cases ds with
    | nil => cases h; exact ⟨σ, r, fun _ _ => rfl, fun Q q => ⟨rfl, q⟩⟩
    | cons d ds => simp at hl
  | cons j js ih =>
    intro ds xs st σ hl h r
    cases ds with
    | nil => simp at hl
    | cons d ds =>
      cases h with
      | cons h1 h2 =>
        rename_i x xs
        obtain ⟨σ', r', w, k⟩ := ih ds xs _ (σ.set j (some x)) (by simpa using hl) h2 (r.setFz j h1)
        refine ⟨σ', r', fun vs hv => ?_, fun Q q => ⟨x, xs, rfl, k Q q⟩⟩
        rw [w vs fun j hj => hv j (List.mem_cons_of_mem _ hj)]
        exact wipe_set (hv j List.mem_cons_self)
end
end Mini

set_option Elab.async false
set_option linter.all false
set_option maxRecDepth 100000
/-! Mini 7: what is walked; comprehensions. -/
namespace Mini
open PySem L2 LamX

section
variable {F : Fm} {M : Dm} {st st' : MSt} {σ σ' : L2.St} {H H' : Hp} {O O' : Zone}
theorem pat_ok (p : Pat) {d : D} {x : V} {st st' : MSt} {σ : L2.St} (h : Rp F.K (hide H O) x d) (e : setPat p d st = some st') (r : Rel F M st σ H O) :
    ∃ σ', Rel F M st' σ' H O ∧ (∀ vs, (∀ j ∈ p.slots, j ∈ vs) → wipe σ' vs = wipe σ vs) ∧ ∀ Q : L2.St → Hp → Prop, Q σ' H → gPat F.K p x σ H Q := by
  cases p with
  | one j =>
    cases e
    exact ⟨_, r.setFz j h, fun vs hv => wipe_set (hv j (by simp [Pat.slots])), fun Q q => q⟩
  | many js =>
    cases d with
    | tup ds =>
      have e : (if js.length = ds.length then some (setAll js ds st) else none) = some st' := e
      by_cases hl : js.length = ds.length
      · rw [if_pos hl] at e
        cases e
        cases h with
        | tup h1 h2 =>
          obtain ⟨σ', a, b, c⟩ := names_ok js ds _ st σ hl h2 r
          exact ⟨σ', a, b, fun Q q => ⟨_, _, rfl, .inl (.inl (hide_some.mp h1).2), by rw [h2.length, hl], c Q q⟩⟩
      · rw [if_neg hl] at e
        cases e
    | _ => cases e
/-- later heaps: firm, what is frozen stands; else all that stood stands -/
def Later (F : Fm) (firm : Bool) (H : Hp) (O : Zone) (H2 : Hp) (O2 : Zone) : Prop := if firm = true then Sub (hide H O) (hide H2 O2) else Ex F.T H H2 ∧ ∀ b, O2 b → O b ∨ Fresh H b
theorem Later.sub {firm : Bool} {H2 : Hp} {O2 : Zone} (l : Later F firm H O H2 O2) : Sub (hide H O) (hide H2 O2) := by
  unfold Later at l
  cases firm with
  | true => exact l
  | false => exact hide_mono l.1 l.2
theorem Later.of {firm : Bool} {H2 : Hp} {O2 : Zone} (e : Ex F.T H H2) (h : ∀ b, O2 b → O b ∨ Fresh H b) : Later F firm H O H2 O2 := by
  unfold Later
  cases firm with
  | true => exact hide_mono e h
  | false => exact ⟨e, h⟩
/-- a walk over data -/
structure WalkD (F : Fm) (firm : Bool) (H : Hp) (O : Zone) (J : It) (n : Nat) (f : Nat → Option D) : Prop where
  go : ∃ G Y, Walk J n G Y ∧ ∀ H2 O2, Later F firm H O H2 O2 → G H2 ∧ (Dom H2 O2 → ∀ i x H3, i < n → Y i H2 x H3 → Ex F.T H2 H3 ∧ ∃ d, f i = some d ∧ Rp F.K (hide H3 O2) x d)
/-- what is walked, as data -/
abbrev DI := MSt → Out (Bool × List D)
def TIx (F : Fm) (W : WX) (cv : Str → Value) (di : DI) : TI := fun σ H R => ∃ M st O, Rel F M st σ H O ∧
  OutP (di st) (fun p => ∀ J H', Ex F.T H H' → WalkD F p.1 H' O J p.2.length (fun i => p.2[i]?) → R J H') (fun c => ∀ H', Ex F.T H H' → W (cv c) none σ H')
end
section
variable {F : Fm} {W : WX} {cv : Str → Value} {X : Cx} {e a b c tg : Expr} {pos : Pos}
theorem pi_w {w w' : TI} (h : PI X tg e w) (k : ∀ σ H R, w' σ H R → w σ H R) : PI X tg e w' := ⟨fun pins s σ H R I q => h.run pins s σ H R I (k σ H R q)⟩
theorem pi_or {w w' : TI} (h : PI X tg e w) (h' : PI X tg e w') : PI X tg e (fun σ H R => w σ H R ∨ w' σ H R) := ⟨fun pins s σ H R I q => q.elim (h.run pins s σ H R I) (h'.run pins s σ H R I)⟩
/-- strings, sign by sign -/
def chars (x : Str) : List D := x.cps.toList.map fun c => .str ⟨#[c]⟩
/-- the items of data -/
def itemsD : D → Option (List D)
  | .lst ds => some ds
  | .tup ds => some ds
  | .str x => some (chars x)
  | .scr ns => some (ns.map D.int)
  | _ => none
def dIt (da : DE) : DI := fun st => (da st).bind fun r => match itemsD r.d with
  | some ds => .ok (r.keep, ds)
  | none => .bad
/-- the value, kept or borrowed -/
def Got (F : Fm) (firm : Bool) (H : Hp) (O : Zone) (x : V) (d : D) : Prop := if firm = true then Rp F.K (hide H O) x d else Vw F.K H O x d
theorem ResOk.got {H H' : Hp} {O : Zone} {x : V} {r : RV} (h : ResOk F.K H H' O x r) (d : Dom H O) : Got F r.keep H' O x r.d := by
  unfold Got
  by_cases k : r.keep = true
  · rw [if_pos k]; exact h.rp (T := F.T) d k
  · rw [if_neg k]; exact h.vw (T := F.T)
theorem Got.later {firm : Bool} {H H2 : Hp} {O O2 : Zone} {x : V} {d : D} (g : Got F firm H O x d) (l : Later F firm H O H2 O2) : Vw F.K H2 O2 x d := by
  unfold Got at g
  cases firm with
  | true => exact .inr (l.sub.rp _ _ g)
  | false => exact g.mono l.1 l.2
/-- a walk by items -/
theorem YAt.walk {firm : Bool} {H : Hp} {O : Zone} {J : It} {xs : List V} {ds : List D} {G : Hp → Prop} (w : Walk J xs.length G (YAt xs)) (hl : xs.length = ds.length)
    (h : ∀ H2 O2, Later F firm H O H2 O2 → G H2 ∧ RpAll F.K (hide H2 O2) xs ds) : WalkD F firm H O J ds.length (fun i => ds[i]?) := by
  refine ⟨G, YAt xs, hl ▸ w, fun H2 O2 l => ⟨(h H2 O2 l).1, fun _ i x H3 hi y => ?_⟩⟩
  obtain ⟨e, y⟩ := y
  subst e
  obtain ⟨d, q1, q2⟩ := (h _ O2 l).2.getV y
  exact ⟨Ex.refl _, d, q1, q2⟩
theorem s_it {da : DE} (hK : X.K = F.K) (ha : PE X e (TEx F W cv da)) : PI X tg e (TIx F W cv (dIt da)) := by
  refine pi_w (pi_or (pi_list ha) (pi_or (pi_tup ha) (pi_str ha))) fun σ H R ⟨M, st, O, Rl, h⟩ => ?_
  rw [hK]
  unfold dIt at h
  have h := OutP.bind h
  cases q : da st with
  | bad => rw [q] at h; exact h.elim
  | exc c => rw [q] at h; exact .inl ⟨M, st, O, Rl, by rw [q]; exact h⟩
  | ok r =>
    rw [q] at h
    have h : OutP (match itemsD r.d with | some ds => Out.ok (r.keep, ds) | none => .bad) _ _ := h
    cases qi : itemsD r.d with
    | none => rw [qi] at h; exact h.elim
    | some ds =>
      rw [qi] at h
      have h : ∀ J H', Ex F.T H H' → WalkD F r.keep H' O J ds.length (fun i => ds[i]?) → R J H' := h
      obtain ⟨k, d⟩ := r
      cases d with
      | lst ds' =>
        cases qi
        refine .inl ⟨M, st, O, Rl, ?_⟩
        rw [q]
        intro x H1 e1 ok
        have g := ResOk.got ok Rl.dom
        obtain ⟨a, xs, h1, h2, h3⟩ := (ok.vw (T := F.T)).lst
        refine ⟨a, h1, ⟨xs, .inl (.inl h2)⟩, h _ H1 e1 (YAt.walk (xs := xs) walk_list h3.length fun H2 O2 l => ?_)⟩
        obtain ⟨a', xs', z1, z2, z3⟩ := (g.later l).lst
        rw [h1] at z1
        cases z1
        have l0 := l
        have : xs' = xs := by
          unfold Later at l
          cases kk : RV.keep ⟨k, D.lst ds⟩ with
          | false =>
            rw [kk] at l
            have := l.1.ext _ _ h2 (fun ps z => nomatch z)
            rw [z2] at this
            cases this; rfl
          | true =>
            have g' := ok.rp (T := F.T) Rl.dom kk
            rw [h1] at g'
            cases g' with
            | lst g1 g2 =>
              have g3 := (hide_some.mp g1).2
              rw [h2] at g3
              cases g3
              have := l0.sub _ _ g1 (fun ps z => nomatch z)
              have := (hide_some.mp this).2
              rw [z2] at this
              cases this; rfl
        rw [← this]
        exact ⟨.inl (.inl z2), z3⟩
      | tup ds' =>
        cases qi
        refine .inr (.inl ⟨M, st, O, Rl, ?_⟩)
        rw [q]
        intro x H1 e1 ok
        have g := (ok.vw (T := F.T))
        have g1 : Rp F.K (hide H1 O) x (.tup ds) := by
          rcases g with ⟨a, _, z⟩ | g
          · exact z.elim
          · exact g
        cases g1 with
        | tup h2 h3 =>
          rename_i a xs
          refine ⟨a, rfl, ⟨xs, .inl (.inl (hide_some.mp h2).2)⟩, h _ H1 e1 (YAt.walk (xs := xs) walk_tup h3.length fun H2 O2 l => ?_)⟩
          exact ⟨.inl (.inl (hide_some.mp (l.sub _ _ h2 fun ps z => nomatch z)).2), l.sub.rpAll _ _ h3⟩
      | str z =>
        cases qi
        refine .inr (.inr ⟨M, st, O, Rl, ?_⟩)
        rw [q]
        intro x H1 e1 ok
        have g := (ok.vw (T := F.T)).str
        subst g
        refine ⟨z, rfl, h _ H1 e1 ⟨_, _, (by simpa [chars] using (walk_str (z := z))), fun H2 O2 l => ⟨trivial, fun _ i x H3 hi y => ?_⟩⟩⟩
        obtain ⟨e, c, y1, y2⟩ := y
        subst e y2
        exact ⟨Ex.refl _, .str ⟨#[c]⟩, by simp [chars, y1], .str _⟩
      | scr ns =>
        cases qi
        refine .inl ⟨M, st, O, Rl, ?_⟩
        rw [q]
        intro x H1 e1 ok
        have g := (ok.vw (T := F.T))
        have g1 : Rp F.K (hide H1 O) x (.scr ns) := by
          rcases g with ⟨a, _, z⟩ | g
          · exact z.elim
          · exact g
        cases g1 with
        | scr h2 =>
          rename_i a
          refine ⟨a, rfl, ⟨_, (hide_sub H1 O).sqL h2⟩, h _ H1 e1 (YAt.walk (xs := ns.map V.int) walk_list (by simp) fun H2 O2 l => ?_)⟩
          exact ⟨(l.sub.trans (hide_sub H2 O2)).sqL h2, RpAll.ints⟩
      | _ => cases qi
/-- ranges -/
def in62 (i : Int) : Bool := decide (-4611686018427387904 ≤ i) && decide (i < 4611686018427387904)
def upto (lo : Int) : Nat → List D
  | 0 => []
  | n + 1 => .int lo :: upto (lo + 1) n
def uptoC (lo c : Int) : Nat → List D
  | 0 => []
  | n + 1 => .int lo :: uptoC (lo + c) c n
theorem upto_length : ∀ (n : Nat) (lo : Int), (upto lo n).length = n
  | 0, _ => rfl
  | n + 1, lo => by simp [upto, upto_length n]
theorem uptoC_length : ∀ (n : Nat) (lo c : Int), (uptoC lo c n).length = n
  | 0, _, _ => rfl
  | n + 1, lo, c => by simp [uptoC, uptoC_length n]
theorem upto_get : ∀ (n : Nat) (lo : Int) (i : Nat), i < n → (upto lo n)[i]? = some (.int (lo + i))
  | 0, _, _, h => by omega
  | n + 1, lo, 0, _ => by simp [upto]
  | n + 1, lo, i + 1, h => by
    simp only [upto, List.getElem?_cons_succ]
    rw [upto_get n (lo + 1) i (by omega)]
    congr 2
    omega
theorem uptoC_get : ∀ (n : Nat) (lo c : Int) (i : Nat), i < n → (uptoC lo c n)[i]? = some (.int (lo + (i : Nat) * c))
  | 0, _, _, _, h => by omega
  | n + 1, lo, c, 0, _ => by simp [uptoC]
  | n + 1, lo, c, i + 1, h => by
    simp only [uptoC, List.getElem?_cons_succ]
    rw [uptoC_get n (lo + c) c i (by omega)]
    congr 2
    push_cast
    rw [Int.add_mul]
    omega
def rg1 : List D → Option (List D)
  | [.int j] => if in62 j = true then some (upto 0 j.toNat) else none
  | _ => none
def rg2 : List D → Option (List D)
  | [.int i, .int j] => if (in62 i && in62 j) = true then some (upto i (j - i).toNat) else none
  | _ => none
def cntC (i j c : Int) : Nat := (Builtin.Range.rangeSize i j c).toNat
def okC (i j c : Int) : Bool := decide (c ≠ 0) && (decide (c.natAbs < 1073741824) && Builtin.Range.small i j c)
theorem okC_of {i j c : Int} (h : okC i j c = true) : RgC i j c (cntC i j c) := by
  have h1 := Bool.and_eq_true_iff.mp h
  have h2 := Bool.and_eq_true_iff.mp h1.2
  refine ⟨of_decide_eq_true h1.1, of_decide_eq_true h2.1, h2.2, ?_⟩
  have hc := of_decide_eq_true h1.1
  have : 0 ≤ Builtin.Range.rangeSize i j c := by
    unfold Builtin.Range.rangeSize
    split
    · split
      · have := Int.ediv_nonneg (a := j - i - 1) (b := c) (by omega) (by omega)
        omega
      · omega
    · split
      · have := Int.ediv_nonneg (a := i - j - 1) (b := -c) (by omega) (by omega)
        omega
      · omega
  unfold cntC
  omega
def rg3 : List D → Option (List D)
  | [.int i, .int j, .int c] => if okC i j c = true then some (uptoC i c (cntC i j c)) else none
  | _ => none
def dRg (g : List D → Option (List D)) (da : DA) : DI := fun st => (da st).bind fun rs => match g (dataOf rs) with
  | some ds => .ok (true, ds)
  | none => .bad
theorem rg1_some {l ds : List D} (h : rg1 l = some ds) : ∃ j, l = [.int j] ∧ in62 j = true ∧ ds = upto 0 j.toNat := by
  unfold rg1 at h
  split at h
  · split at h
    · cases h; exact ⟨_, rfl, ‹_›, rfl⟩
    · cases h
  · cases h
theorem rg2_some {l ds : List D} (h : rg2 l = some ds) : ∃ i j, l = [.int i, .int j] ∧ in62 i = true ∧ in62 j = true ∧ ds = upto i (j - i).toNat := by
  unfold rg2 at h
  split at h
  · split at h
    · cases h
      have := Bool.and_eq_true_iff.mp ‹_›
      exact ⟨_, _, rfl, this.1, this.2, rfl⟩
    · cases h
  · cases h
theorem rg3_some {l ds : List D} (h : rg3 l = some ds) : ∃ i j c, l = [.int i, .int j, .int c] ∧ okC i j c = true ∧ ds = uptoC i c (cntC i j c) := by
  unfold rg3 at h
  split at h
  · split at h
    · cases h; exact ⟨_, _, _, rfl, ‹_›, rfl⟩
    · cases h
  · cases h
theorem in62_of {i : Int} (h : in62 i = true) : -(2 ^ 62) ≤ i ∧ i < 2 ^ 62 := by
  have h' := Bool.and_eq_true_iff.mp h
  have h1 := of_decide_eq_true h'.1
  have h2 := of_decide_eq_true h'.2
  exact ⟨by omega, by omega⟩
theorem walk_upto {H : Hp} {O : Zone} {lo : Int} {n : Nat} : WalkD F true H O (Itr lo n) (upto lo n).length (fun i => (upto lo n)[i]?) := by
  rw [upto_length]
  refine ⟨_, _, walk_range, fun H2 O2 l => ⟨trivial, fun _ i x H3 hi y => ?_⟩⟩
  obtain ⟨e, y⟩ := y
  subst e y
  exact ⟨Ex.refl _, _, upto_get n lo i hi, .int _⟩
theorem walk_uptoC {H : Hp} {O : Zone} {lo c : Int} {n : Nat} : WalkD F true H O (Itc lo c n) (uptoC lo c n).length (fun i => (uptoC lo c n)[i]?) := by
  rw [uptoC_length]
  refine ⟨_, _, walk_rangeC, fun H2 O2 l => ⟨trivial, fun _ i x H3 hi y => ?_⟩⟩
  obtain ⟨e, y⟩ := y
  subst e y
  exact ⟨Ex.refl _, _, uptoC_get n lo c i hi, .int _⟩
theorem ResAll.one {K : PySem.W.Frag} {H H' : Hp} {O : Zone} {xs : List V} {rs : List RV} {d : D} {T : List (Addr × Str)} (k : ResAll K H H' O xs rs) (e : dataOf rs = [d]) : ∃ x, xs = [x] ∧ Vw K H' O x d := (e ▸ k.vw (T := T)).one
theorem ResAll.two {K : PySem.W.Frag} {H H' : Hp} {O : Zone} {xs : List V} {rs : List RV} {d d2 : D} {T : List (Addr × Str)} (k : ResAll K H H' O xs rs) (e : dataOf rs = [d, d2]) : ∃ x y, xs = [x, y] ∧ Vw K H' O x d ∧ Vw K H' O y d2 := (e ▸ k.vw (T := T)).two
/-- from arguments to a walk -/
theorem t_args {da : DA} {g : List D → Option (List D)} {firm : Bool} {σ : L2.St} {H : Hp} {R : It → Hp → Prop} {P : List V → Hp → Prop}
    (h : TIx F W cv (fun st => (da st).bind fun rs => match g (dataOf rs) with | some ds => .ok (firm, ds) | none => .bad) σ H R)
    (step : ∀ M st O rs xs ds H1, Rel F M st σ H O → Ex F.T H H1 → ResAll F.K H H1 O xs rs → g (dataOf rs) = some ds → (∀ J, WalkD F firm H1 O J ds.length (fun i => ds[i]?) → R J H1) → P xs H1) : TAx F W cv da σ H P := by
  obtain ⟨M, st, O, Rl, h⟩ := h
  refine ⟨M, st, O, Rl, (OutP.bind h).mono (fun rs _ h xs H1 e1 k1 => ?_) fun c _ h => h⟩
  cases q : g (dataOf rs) with
  | none => rw [q] at h; exact h.elim
  | some ds =>
    rw [q] at h
    exact step M st O rs xs ds H1 Rl e1 k1 q fun J w => h J H1 e1 w
theorem s_range1 {da : DA} {p : Pos} (hg : Gl X "range") (hm : X.mg "range" = none) (ha : PA X [a] (TAx F W cv da)) (hs : starEach [a] X.env = [(false, eval a X.env)]) : PI X tg (.Call (.Name "range" p) [a] [] pos) (TIx F W cv (dRg rg1 da)) := by
  refine pi_w (pi_range1 hg hm ha hs) fun σ H R h => ?_
  refine t_args h fun M st O rs xs ds H1 Rl e1 k1 q k => ?_
  obtain ⟨j, q1, q2, rfl⟩ := rg1_some q
  obtain ⟨x, rfl, v⟩ := k1.one (T := F.T) q1
  exact ⟨j, by rw [v.int], (in62_of q2).1, (in62_of q2).2, k _ walk_upto⟩
theorem s_range2 {da : DA} {p : Pos} (hg : Gl X "range") (hm : X.mg "range" = none) (ha : PA X [a, b] (TAx F W cv da)) (hs : starEach [a, b] X.env = [(false, eval a X.env), (false, eval b X.env)]) (hs2 : starEach [b] X.env = [(false, eval b X.env)]) : PI X tg (.Call (.Name "range" p) [a, b] [] pos) (TIx F W cv (dRg rg2 da)) := by
  refine pi_w (pi_range2 hg hm ha hs hs2) fun σ H R h => ?_
  refine t_args h fun M st O rs xs ds H1 Rl e1 k1 q k => ?_
  obtain ⟨i, j, q1, q2, q3, rfl⟩ := rg2_some q
  obtain ⟨x, y, rfl, v, w⟩ := k1.two (T := F.T) q1
  exact ⟨i, j, by rw [v.int, w.int], ⟨(in62_of q2).1, (in62_of q2).2, (in62_of q3).1, (in62_of q3).2⟩, k _ walk_upto⟩
theorem ResAll.three {K : PySem.W.Frag} {H H' : Hp} {O : Zone} {xs : List V} {rs : List RV} {d d2 d3 : D} {T : List (Addr × Str)} (k : ResAll K H H' O xs rs) (e : dataOf rs = [d, d2, d3]) : ∃ x y z, xs = [x, y, z] ∧ Vw K H' O x d ∧ Vw K H' O y d2 ∧ Vw K H' O z d3 := by
  have k := e ▸ k.vw (T := T)
  cases k with
  | cons h1 k => cases k with
    | cons h2 k => cases k with
      | cons h3 k => cases k; exact ⟨_, _, _, rfl, h1, h2, h3⟩
theorem s_range3 {da : DA} {p : Pos} (hg : Gl X "range") (hm : X.mg "range" = none) (ha : PA X [a, b, c] (TAx F W cv da)) (hs : starEach [a, b, c] X.env = (false, eval a X.env) :: starEach [b, c] X.env) (hpl : (backTo pos (starEach [b, c] X.env)).any (·.1) = false) : PI X tg (.Call (.Name "range" p) [a, b, c] [] pos) (TIx F W cv (dRg rg3 da)) := by
  refine pi_w (pi_range3 hg hm ha hs hpl) fun σ H R h => ?_
  refine t_args h fun M st O rs xs ds H1 Rl e1 k1 q k => ?_
  obtain ⟨i, j, c, q1, q2, rfl⟩ := rg3_some q
  obtain ⟨x, y, z, rfl, v, w, u⟩ := k1.three (T := F.T) q1
  exact ⟨i, j, c, _, by rw [v.int, w.int, u.int], okC_of q2, k _ walk_uptoC⟩

/-! ### lists that stand -/
theorem Later.weak {f g : Bool} {H H2 : Hp} {O O2 : Zone} (l : Later F f H O H2 O2) (h : f = true → g = true) : Later F g H O H2 O2 := by
  cases f with
  | true => rw [h rfl]; exact l
  | false => exact Later.of l.1 l.2
/-- the list or tuple at a stays -/
def StL (F : Fm) (firm : Bool) (H : Hp) (O : Zone) (a : Addr) (xs : List V) (ds : List D) : Prop := ∀ H2 O2, Later F firm H O H2 O2 → SqL F.K H2 a xs ∧ RpAll F.K (hide H2 O2) xs ds
def StT (F : Fm) (firm : Bool) (H : Hp) (O : Zone) (a : Addr) (xs : List V) (ds : List D) : Prop := ∀ H2 O2, Later F firm H O H2 O2 → SqT F.K H2 a xs ∧ RpAll F.K (hide H2 O2) xs ds
theorem ResOk.stL {H0 H : Hp} {O : Zone} {x : V} {r : RV} {ds : List D} (h : ResOk F.K H0 H O x r) (d : Dom H0 O) (e : r.d = .lst ds) : ∃ a xs, x = .ref a ∧ xs.length = ds.length ∧ StL F r.keep H O a xs ds := by
  obtain ⟨k, dd⟩ := r
  cases (show dd = _ from e)
  obtain ⟨a, xs, h1, h2, h3⟩ := (h.vw (T := F.T)).lst
  refine ⟨a, xs, h1, h3.length, fun H2 O2 l => ?_⟩
  cases kk : RV.keep ⟨k, D.lst ds⟩ with
  | false =>
    rw [kk] at l
    exact ⟨.inl (.inl (l.1.ext _ _ h2 fun ps z => nomatch z)), (hide_mono l.1 l.2).rpAll _ _ h3⟩
  | true =>
    have g := h.rp (T := F.T) d kk
    rw [h1] at g
    cases g with
    | lst g1 g2 =>
      have g3 := (hide_some.mp g1).2
      rw [h2] at g3
      cases g3
      exact ⟨.inl (.inl (hide_some.mp (l.sub _ _ g1 fun ps z => nomatch z)).2), l.sub.rpAll _ _ g2⟩
theorem ResOk.stT {H0 H : Hp} {O : Zone} {x : V} {r : RV} {ds : List D} {firm : Bool} (h : ResOk F.K H0 H O x r) (e : r.d = .tup ds) : ∃ a xs, x = .ref a ∧ xs.length = ds.length ∧ StT F firm H O a xs ds := by
  obtain ⟨k, dd⟩ := r
  cases (show dd = _ from e)
  have g1 : Rp F.K (hide H O) x (.tup ds) := by
    rcases h.vw (T := F.T) with ⟨a, _, z⟩ | g
    · exact z.elim
    · exact g
  cases g1 with
  | tup h2 h3 => exact ⟨_, _, rfl, h3.length, fun H2 O2 l => ⟨.inl (.inl (hide_some.mp (l.sub _ _ h2 fun ps z => nomatch z)).2), l.sub.rpAll _ _ h3⟩⟩
/-- pairs -/
theorem YPair.walk {firm : Bool} {H : Hp} {O : Zone} {J : It} {fx fy : Nat → Option V} {G : Hp → Prop} {ds : List D} (w : Walk J ds.length G (YPair fx fy))
    (h : ∀ H2 O2, Later F firm H O H2 O2 → G H2 ∧ ∀ i x y, i < ds.length → fx i = some x → fy i = some y → ∃ d d', ds[i]? = some (.tup [d, d']) ∧ Rp F.K (hide H2 O2) x d ∧ Rp F.K (hide H2 O2) y d') : WalkD F firm H O J ds.length (fun i => ds[i]?) := by
  refine ⟨G, _, w, fun H2 O2 l => ⟨(h H2 O2 l).1, fun dm i v H3 hi y => ?_⟩⟩
  obtain ⟨T, x, y, rfl, hT, rfl, q1, q2⟩ := y
  obtain ⟨d, d', z1, z2, z3⟩ := (h H2 O2 l).2 i x y hi q1 q2
  exact ⟨Ex.new hT, _, z1, new_tup hT dm (.cons z2 (.cons z3 .nil))⟩
def zipD : List D → List D → List D
  | d :: ds, e :: es => .tup [d, e] :: zipD ds es
  | _, _ => []
theorem zipD_length : ∀ (ds es : List D), (zipD ds es).length = min ds.length es.length
  | [], _ => by simp [zipD]
  | _ :: _, [] => by simp [zipD]
  | d :: ds, e :: es => by simp [zipD, zipD_length ds es]
theorem zipD_get : ∀ (ds es : List D) (i : Nat) (d e : D), ds[i]? = some d → es[i]? = some e → (zipD ds es)[i]? = some (.tup [d, e])
  | [], _, _, _, _, h, _ => by simp at h
  | _ :: _, [], _, _, _, _, h => by simp at h
  | d :: ds, e :: es, 0, _, _, h, h' => by simp at h h'; subst h h'; rfl
  | _ :: ds, _ :: es, i + 1, d, e, h, h' => by
    simp only [zipD, List.getElem?_cons_succ] at *
    exact zipD_get ds es i d e h h'
theorem walk_zipT {K : PySem.W.Frag} {a b : Addr} {xs ys : List V} {n : Nat} (hn : n = min xs.length ys.length) : Walk (RZ.ItzT K a b) n (fun H => SqT K H a xs ∧ SqT K H b ys) (YPair (fun i => xs[i]?) (fun i => ys[i]?)) := by
  subst hn
  refine ⟨fun i _ hi q => ?_, fun _ q => ⟨xs, ys, q.1, q.2, by omega⟩, fun i H v H' _ q y => ?_⟩
  · have h1 : i < xs.length := by omega
    have h2 : i < ys.length := by omega
    exact ⟨xs, ys, xs[i], ys[i], q.1, q.2, by simp [h1], by simp [h2]⟩
  · obtain ⟨T, x, z, h1, h2, h3, h4, h5⟩ := y
    exact ⟨T, x, z, h1, h2, h3, h4 xs q.1, h5 ys q.2⟩
def dZip (da : DA) : DI := fun st => (da st).bind fun rs => match rs with
  | [r, s] => match r.d, s.d with
    | .lst ds, .lst es => .ok (r.keep && s.keep, zipD ds es)
    | .tup ds, .tup es => .ok (true, zipD ds es)
    | _, _ => .bad
  | _ => .bad
theorem zip_pairs {firm : Bool} {H : Hp} {O : Zone} {xs ys : List V} {ds es : List D} (h1 : RpAll F.K (hide H O) xs ds) (h2 : RpAll F.K (hide H O) ys es) : ∀ i x y, i < (zipD ds es).length → xs[i]? = some x → ys[i]? = some y → ∃ d d', (zipD ds es)[i]? = some (.tup [d, d']) ∧ Rp F.K (hide H O) x d ∧ Rp F.K (hide H O) y d' := fun i x y _ q1 q2 => by
  obtain ⟨d, z1, z2⟩ := h1.getV q1
  obtain ⟨d', z3, z4⟩ := h2.getV q2
  exact ⟨d, d', zipD_get ds es i d d' z1 z3, z2, z4⟩
theorem s_zip {da : DA} {p tpos : Pos} {elts : List Expr} {kk : Nat} (hK : X.K = F.K) (hg : Gl X "zip") (hm : X.mg "zip" = none) (ha : PA X [a, b] (TAx F W cv da)) (hs : starEach [a, b] X.env = (false, eval a X.env) :: starEach [b] X.env) (hpl : (backTo pos (starEach [b] X.env)).any (·.1) = false) :
    PI X (.Tuple elts kk tpos) (.Call (.Name "zip" p) [a, b] [] pos) (TIx F W cv (dZip da)) := by
  refine pi_w (RZ.pi_zipA hg hm ha hs hpl) fun σ H R ⟨M, st, O, Rl, h⟩ => ?_
  rw [hK]
  refine ⟨M, st, O, Rl, (OutP.bind h).mono (fun rs _ h xs H1 e1 k1 => ?_) fun c _ h => h⟩
  cases k1 with
  | nil => exact h.elim
  | cons k1 _ kr =>
    cases kr with
    | nil => exact h.elim
    | cons k2 _ kr =>
      cases kr with
      | cons _ _ _ => exact h.elim
      | nil =>
        rename_i x r _ s _ _ _
        have h : OutP (match r.d, s.d with | .lst ds, .lst es => Out.ok (r.keep && s.keep, zipD ds es) | .tup ds, .tup es => .ok (true, zipD ds es) | _, _ => .bad) _ _ := h
        cases er : r.d with
        | lst ds =>
          cases es : s.d with
          | lst es' =>
            rw [er, es] at h
            obtain ⟨a1, us, rfl, l1, s1⟩ := k1.stL Rl.dom er
            obtain ⟨a2, ws, rfl, l2, s2⟩ := k2.stL Rl.dom es
            have z1 := s1 H1 O (Later.of (Ex.refl _) fun _ z => .inl z)
            have z2 := s2 H1 O (Later.of (Ex.refl _) fun _ z => .inl z)
            refine ⟨a1, a2, us, ws, rfl, .inl ⟨z1.1, z2.1, h _ H1 e1 (YPair.walk (walk_zip (xs := us) (ys := ws) (by rw [zipD_length, l1, l2])) fun H2 O2 l => ?_)⟩⟩
            have y1 := s1 H2 O2 (l.weak fun z => (Bool.and_eq_true_iff.mp z).1)
            have y2 := s2 H2 O2 (l.weak fun z => (Bool.and_eq_true_iff.mp z).2)
            exact ⟨⟨y1.1, y2.1⟩, zip_pairs (firm := true) y1.2 y2.2⟩
          | _ => rw [er, es] at h; exact h.elim
        | tup ds =>
          cases es : s.d with
          | tup es' =>
            rw [er, es] at h
            obtain ⟨a1, us, rfl, l1, s1⟩ := k1.stT (F := F) (firm := true) er
            obtain ⟨a2, ws, rfl, l2, s2⟩ := k2.stT (F := F) (firm := true) es
            have z1 := s1 H1 O (Later.of (Ex.refl _) fun _ z => .inl z)
            have z2 := s2 H1 O (Later.of (Ex.refl _) fun _ z => .inl z)
            refine ⟨a1, a2, us, ws, rfl, .inr ⟨z1.1, z2.1, h _ H1 e1 (YPair.walk (walk_zipT (xs := us) (ys := ws) (by rw [zipD_length, l1, l2])) fun H2 O2 l => ?_)⟩⟩
            have y1 := s1 H2 O2 l
            have y2 := s2 H2 O2 l
            exact ⟨⟨y1.1, y2.1⟩, zip_pairs (firm := true) y1.2 y2.2⟩
          | _ => rw [er, es] at h; exact h.elim
        | _ => rw [er] at h; exact h.elim
/-- enumerate -/
def enumD (n : Int) : List D → List D
  | [] => []
  | d :: ds => .tup [.int n, d] :: enumD (n + 1) ds
theorem enumD_length : ∀ (ds : List D) (n : Int), (enumD n ds).length = ds.length
  | [], _ => rfl
  | d :: ds, n => by simp [enumD, enumD_length ds]
theorem enumD_get : ∀ (ds : List D) (n : Int) (i : Nat) (d : D), ds[i]? = some d → (enumD n ds)[i]? = some (.tup [.int (n + i), d])
  | [], _, _, _, h => by simp at h
  | d :: ds, n, 0, _, h => by simp at h; subst h; simp [enumD]
  | _ :: ds, n, i + 1, d, h => by
    simp only [enumD, List.getElem?_cons_succ] at *
    rw [enumD_get ds (n + 1) i d h]
    congr 4
    push_cast
    omega
def dEnum (da : DA) : DI := fun st => (da st).bind fun rs => match rs with
  | [r] => match r.d with
    | .lst ds => .ok (r.keep, enumD 0 ds)
    | _ => .bad
  | _ => .bad
theorem s_enum {da : DA} {p tpos : Pos} {elts : List Expr} {kk : Nat} (hK : X.K = F.K) (hg : Gl X "enumerate") (hm : X.mg "enumerate" = none) (ha : PA X [a] (TAx F W cv da)) (hs : starEach [a] X.env = [(false, eval a X.env)]) :
    PI X (.Tuple elts kk tpos) (.Call (.Name "enumerate" p) [a] [] pos) (TIx F W cv (dEnum da)) := by
  refine pi_w (pi_enum hg hm ha hs) fun σ H R ⟨M, st, O, Rl, h⟩ => ?_
  rw [hK]
  refine ⟨M, st, O, Rl, (OutP.bind h).mono (fun rs _ h xs H1 e1 k1 => ?_) fun c _ h => h⟩
  cases k1 with
  | nil => exact h.elim
  | cons k1 _ kr =>
    cases kr with
    | cons _ _ _ => exact h.elim
    | nil =>
      rename_i x r _ _
      have h : OutP (match r.d with | .lst ds => Out.ok (r.keep, enumD 0 ds) | _ => .bad) _ _ := h
      cases er : r.d with
      | lst ds =>
        rw [er] at h
        obtain ⟨a1, us, rfl, l1, s1⟩ := k1.stL Rl.dom er
        have z1 := s1 H1 O (Later.of (Ex.refl _) fun _ z => .inl z)
        refine ⟨a1, us, rfl, z1.1, h _ H1 e1 (YPair.walk (by rw [enumD_length, ← l1]; exact walk_enum (xs := us)) fun H2 O2 l => ?_)⟩
        have y1 := s1 H2 O2 l
        refine ⟨y1.1, fun i x y hi q1 q2 => ?_⟩
        cases q1
        obtain ⟨d, z1, z2⟩ := y1.2.getV q2
        exact ⟨_, d, enumD_get ds 0 i d z1, by simpa using Rp.int _, z2⟩
      | _ => rw [er] at h; exact h.elim
end
end Mini

set_option Elab.async false
set_option linter.all false
set_option maxRecDepth 100000
/-! Mini 8: list comprehensions. -/
namespace Mini
open PySem L2 LamX
def wipeM (st : MSt) : List Nat → MSt
  | [] => st
  | v :: vs => (wipeM st vs).set v none
theorem wipeM_length (st : MSt) : ∀ vs : List Nat, (wipeM st vs).length = st.length
  | [] => rfl
  | v :: vs => by unfold wipeM; rw [List.length_set, wipeM_length st vs]
theorem wipeM_some {st : MSt} {i : Nat} {x : SV} : ∀ {vs : List Nat}, (wipeM st vs)[i]? = some (some x) → st[i]? = some (some x) ∧ i ∉ vs
  | [], h => ⟨h, by simp⟩
  | v :: vs, h => by
    unfold wipeM at h
    by_cases hv : v = i
    · subst hv
      by_cases hj : v < (wipeM st vs).length
      · rw [List.getElem?_set_self hj] at h; cases h
      · rw [List.getElem?_eq_none (by simpa using hj)] at h; cases h
    · rw [List.getElem?_set_ne hv] at h
      obtain ⟨h1, h2⟩ := wipeM_some h
      exact ⟨h1, by simp [h2]; exact fun z => hv z.symm⟩
theorem Rel.wipe {F : Fm} {M : Dm} {st : MSt} {σ : L2.St} {H : Hp} {O : Zone} (r : Rel F M st σ H O) (vs : List Nat) : Rel F M (wipeM st vs) (L2.wipe σ vs) H O :=
  r.weak (by rw [wipeM_length, wipe_length, r.len]) fun i v e => by
    obtain ⟨h1, h2⟩ := wipeM_some e
    exact ⟨h1, wipe_out h2⟩
def Wb : WX := fun _ _ _ _ => False
/-- the comprehension's turns: n lie in the new list -/
def lcGo (p : Pat) (dt : DT) (de : DE) (st : MSt) : List D → Nat → Out (List D)
  | [], _ => .ok []
  | d :: ds, n => force2 d fun d => match setPat p d st with
    | none => .bad
    | some st1 => forceS st1 fun st1 => match dt st1 with
      | .ok true => match de st1 with
        | .ok r => if r.keep && decide (n < sizeLine) then (lcGo p dt de st ds (n + 1)).bind fun rest => .ok (r.d :: rest) else .bad
        | _ => .bad
      | .ok false => lcGo p dt de st ds n
      | _ => .bad
def dLc (di : DI) (p : Pat) (vs : List Nat) (dt : DT) (de : DE) : DE := fun st => (di st).bind fun q => match lcGo p dt de (wipeM st vs) q.2 0 with
  | .ok ds => .ok ⟨.fr, .lst ds⟩
  | _ => .bad
def Dm.with (M : Dm) (a : Addr) : Dm := ⟨fun b => M.S b ∨ b = a, M.H0⟩
theorem Rel.with {F : Fm} {M : Dm} {st : MSt} {σ : L2.St} {H : Hp} {O : Zone} (r : Rel F M st σ H O) {a : Addr} {o : HO} (h : H a = none) (l : isLD o = true) : Rel F (M.with a) st σ (upd H a o) (fun b => O b ∨ b = a) := by
  have e : Ex F.T H (upd H a o) := Ex.new h
  have r1 := r.ex e
  have fr := Fresh.of h
  have sub' : ∀ b, O b ∨ b = a → O b ∨ Fresh H b := fun b z => z.elim .inl fun q => .inr (by rw [q]; exact fr)
  have na : ¬ O a := r.dom.fresh fr
  refine ⟨fun b z => z.elim (fun z => .inl (r.sub b z)) .inr, fun b z => ?_, r1.tabs, r1.ex0, r.len, fun i v q => ?_, r.uniq⟩
  · rcases z with z | z
    · exact r1.dom b z
    · rw [z]; exact ⟨o, upd_same, l⟩
  · obtain ⟨y, q1, q2⟩ := r.slot i v q
    refine ⟨y, q1, ?_⟩
    cases v with
    | fz d => exact (hide_mono e sub').rp _ _ q2
    | own d =>
      obtain ⟨c, h1, h2, h3, h4, h5⟩ := q2
      exact ⟨c, h1, .inl h2, fun z => z.elim h3 fun z => na (by rw [← z]; exact h2), h4, h5.mono e sub'⟩
    | exn c => exact q2
theorem wipe_wipe {σ : L2.St} : ∀ {vs : List Nat}, L2.wipe (L2.wipe σ vs) vs = L2.wipe σ vs := by
  intro vs
  have : ∀ us vs : List Nat, (∀ j ∈ us, j ∈ vs) → L2.wipe (L2.wipe σ us) vs = L2.wipe σ vs := by
    intro us
    induction us with
    | nil => intro vs _; rfl
    | cons u us ih =>
      intro vs h
      show L2.wipe ((L2.wipe σ us).set u none) vs = _
      rw [wipe_set (h u List.mem_cons_self), ih vs fun j hj => h j (List.mem_cons_of_mem _ hj)]
  exact this vs vs fun _ h => h
section
variable {F : Fm} {W : WX} {cv : Str → Value} {X : Cx} {e a b c tg : Expr} {pos : Pos}
/-- one turn's reading, from the test on: n in the list at D -/
def AccOk (F : Fm) (H : Hp) (O : Zone) (A : Addr) (acc : List V) (ds : List D) : Prop := H A = some (.lst acc) ∧ RpAll F.K (hide H O) acc ds
theorem t_lc {di : DI} {p : Pat} {vs : List Nat} {dt : DT} {de : DE} (hp : ∀ j ∈ p.slots, j ∈ vs) {σ : L2.St} {H : Hp} {Q : VK} (h : TEx F W cv (dLc di p vs dt de) σ H Q) :
    tLc (TIx F W cv di) (gPat F.K p) (TTx F Wb cv dt) (TEx F Wb cv de) vs σ H Q := by
  obtain ⟨M, st, O, R, h⟩ := h
  refine ⟨M, st, O, R, (OutP.bind h).mono (fun q _ h J H1 e1 wd => ?_) fun c _ h => h⟩
  obtain ⟨firm, ds⟩ := q
  intro A hA
  have R1 := R.ex e1
  obtain ⟨G, Y, w, hw⟩ := wd.go
  have frA : Fresh M.H0 A := (Fresh.of hA).back R1.ex0
  have h : OutP (match lcGo p dt de (wipeM st vs) ds 0 with | .ok ds => Out.ok (⟨.fr, .lst ds⟩ : RV) | _ => .bad) (fun t => ∀ x H', Ex F.T H H' → okE F H H' O x t → Q x H') (fun c => ∀ H', Ex F.T H H' → W (cv c) none σ H') := h
  cases qq : lcGo p dt de (wipeM st vs) ds 0 with
  | bad => rw [qq] at h; exact h.elim
  | exc c => rw [qq] at h; exact h.elim
  | ok total =>
  rw [qq] at h
  have lat : ∀ Hc, Ex F.T H1 Hc → Later F firm H1 O Hc (fun b => O b ∨ b = A) := fun Hc e => Later.of e fun b z => z.elim .inl fun q => .inr (by rw [q]; exact Fresh.of hA)
  have exA : ∀ Hc o, Ex F.T H1 Hc → isLD o = true → (∃ o', Hc A = some o' ∧ isLD o' = true) → Ex F.T H1 (upd Hc A o) := fun Hc o e l ⟨o', l1, l2⟩ => ⟨fun b u q n => by
    rw [L2.upd_ne (fun z => by rw [z, hA] at q; cases q)]
    exact e.ext b u q n, fun t => tabs_upd (e.tabs t) l1 l2⟩
  refine lc_it (n := ds.length) w (fun i Hc => ∃ acc accD rest, Ex F.T H1 Hc ∧ AccOk F Hc (fun b => O b ∨ b = A) A acc accD ∧ Rel F (M.with A) (wipeM st vs) (L2.wipe σ vs) Hc (fun b => O b ∨ b = A) ∧ lcGo p dt de (wipeM st vs) (ds.drop i) accD.length = .ok rest ∧ total = accD ++ rest) ?_ ?_ ?_ ?_
  · exact ⟨[], [], total, Ex.new hA, ⟨upd_same, .nil⟩, (R1.with hA rfl).wipe vs, by simpa using qq, by simp⟩
  · rintro i Hc _ ⟨acc, accD, rest, k1, _⟩
    exact (hw Hc _ (lat Hc k1)).1
  · rintro i x Hc H' hi ⟨acc, accD, rest, k1, k2, k3, k4, k5⟩ y
    obtain ⟨e2, d, hd, rx⟩ := (hw Hc _ (lat Hc k1)).2 k3.dom i x H' hi y
    have hdrop : ds.drop i = d :: ds.drop (i + 1) := by
      have := List.drop_eq_getElem_cons hi
      rw [this]
      congr 1
      rw [List.getElem?_eq_getElem hi] at hd
      exact Option.some.inj hd
    rw [hdrop] at k4
    unfold lcGo at k4
    rw [force2_eq] at k4
    cases hs : setPat p d (wipeM st vs) with
    | none => rw [hs] at k4; cases k4
    | some st1 =>
    rw [hs] at k4
    simp only [forceS_eq] at k4
    have k3' := k3.ex e2
    obtain ⟨σ', r', wq, gq⟩ := pat_ok p rx hs k3'
    refine gq _ ⟨by rw [wq vs hp, wipe_wipe], ?_⟩
    have k4 : (match dt st1 with
      | .ok true => match de st1 with
        | .ok r => if r.keep && decide (accD.length < sizeLine) then (lcGo p dt de (wipeM st vs) (ds.drop (i + 1)) (accD.length + 1)).bind fun rest => .ok (r.d :: rest) else .bad
        | _ => .bad
      | .ok false => lcGo p dt de (wipeM st vs) (ds.drop (i + 1)) accD.length
      | _ => .bad) = Out.ok rest := k4
    refine ⟨_, st1, _, r', ?_⟩
    cases ht : dt st1 with
    | bad => rw [ht] at k4; cases k4
    | exc c => rw [ht] at k4; cases k4
    | ok bb =>
    rw [ht] at k4
    intro x2 H3 e3 hx2
    obtain rfl : x2 = bb := hx2
    cases x2 with
    | false =>
      rw [if_neg (by decide)]
      have ee := e2.trans e3
      refine ⟨acc, accD, rest, k1.trans ee, ⟨ee.ext _ _ k2.1 (fun ps z => nomatch z), (hide_ex ee).rpAll _ _ k2.2⟩, k3.ex ee, k4, k5⟩
    | true =>
      rw [if_pos rfl]
      refine ⟨_, st1, _, r'.ex e3, ?_⟩
      have k4 : (match de st1 with
        | .ok r => if r.keep && decide (accD.length < sizeLine) then (lcGo p dt de (wipeM st vs) (ds.drop (i + 1)) (accD.length + 1)).bind fun rest => .ok (r.d :: rest) else .bad
        | _ => .bad) = Out.ok rest := k4
      cases he : de st1 with
      | bad => rw [he] at k4; cases k4
      | exc c => rw [he] at k4; cases k4
      | ok r =>
      rw [he] at k4
      have k4 : (if r.keep && decide (accD.length < sizeLine) then (lcGo p dt de (wipeM st vs) (ds.drop (i + 1)) (accD.length + 1)).bind fun rest => .ok (r.d :: rest) else .bad) = Out.ok rest := k4
      by_cases kk : (r.keep && decide (accD.length < sizeLine)) = true
      · rw [if_pos kk] at k4
        have kk' := Bool.and_eq_true_iff.mp kk
        intro y2 H4 e4 ok4
        have ee := (e2.trans e3).trans e4
        have hA4 : H4 A = some (.lst acc) := ee.ext _ _ k2.1 fun ps z => nomatch z
        have rr := ok4.rp (T := F.T) (k3'.ex e3).dom kk'.1
        refine ⟨acc, hA4, by rw [k2.2.length]; exact of_decide_eq_true kk'.2, ?_⟩
        cases hr : lcGo p dt de (wipeM st vs) (ds.drop (i + 1)) (accD.length + 1) with
        | bad => rw [hr] at k4; cases k4
        | exc c => rw [hr] at k4; cases k4
        | ok rest' =>
        rw [hr] at k4
        cases k4
        refine ⟨acc ++ [y2], accD ++ [r.d], rest', exA _ _ (k1.trans ee) rfl ⟨_, hA4, rfl⟩, ⟨upd_same, ?_⟩, ?_, by simpa using hr, by rw [k5]; simp⟩
        · rw [hide_upd (.inr rfl)]
          exact RpAll.append ((hide_ex ee).rpAll _ _ k2.2) (.cons rr .nil)
        · exact (k3.ex ee).updS (.inr rfl) frA hA4 rfl rfl
      · rw [if_neg kk] at k4
        cases k4
  · rintro Hc ⟨acc, accD, rest, k1, k2, k3, k4, k5⟩
    rw [List.drop_length] at k4
    cases k4
    rw [List.append_nil] at k5
    subst k5
    exact h _ Hc (e1.trans k1) ⟨A, rfl, (Fresh.of hA).back e1, acc, k2.1, k2.2⟩
def dYes : DT := fun _ => .ok true
theorem ptsx_nil : PTs X [] (TTx F W cv dYes) := ⟨fun pins s σ H Q I ⟨M, st, O, R, h⟩ => (pts_nil (X := X)).run pins s σ H Q I (h true H (Ex.refl _) rfl)⟩
theorem s_lc {elt iter : Expr} {ifs : List Expr} {scope : Scope} {own : List (Str × Nat)} {di : DI} {p : Pat} {dt : DT} {de : DE} (hK : X.K = F.K) (hc : X.calm = true) (hN : X.N.Nodup) (hi : PI X tg iter (TIx F W cv di)) (ok : BlkOk X.N X.env.scope scope own) (hp : ∀ j ∈ p.slots, j ∈ own.map (·.2))
    (hg : ∀ (s : Shared) (H : Hp) (C : Addr) (cl : List (Str × Addr)) (fp : List Addr), PG (X.blk s H scope (compEnvC scope cl C X.env) fp) tg (gPat F.K p)) (ht : ∀ (s : Shared) (H : Hp) (C : Addr) (cl : List (Str × Addr)) (fp : List Addr), PTs (X.blk s H scope (compEnvC scope cl C X.env) fp) ifs (TTx F Wb cv dt))
    (he : ∀ (s : Shared) (H : Hp) (C : Addr) (cl : List (Str × Addr)) (fp : List Addr), PE (X.blk s H scope (compEnvC scope cl C X.env) fp) elt (TEx F Wb cv de)) (hs : ∀ x, foldedSetIterable iter X.env x = pure x) :
    PE X (.ListComp elt [⟨tg, iter, ifs, 0⟩] scope pos) (TEx F W cv (dLc di p (own.map (·.2)) dt de)) :=
  pe_w (pe_lc hc hN hi ok hg ht he hs) fun _ _ _ h => t_lc hp h
end
end Mini

set_option Elab.async false
set_option linter.all false
set_option maxRecDepth 100000
/-! Mini 9: statements. -/
namespace Mini
open PySem L2 LamX
inductive Fl where
  | nx (st : MSt) | rt (r : RV) | bk (st : MSt) | ct (st : MSt)
abbrev DS := MSt → Out Fl
/-- a result, as the callers see it -/
def RetOk (F : Fm) (M : Dm) (v : V) (H' : Hp) (r : RV) : Prop := Ex F.T M.H0 H' ∧ ResOk F.K M.H0 H' M.S v r
/-- what is wanted of a statement's outcome -/
def FlP (F : Fm) (M : Dm) (W : WX) (cv : Str → Value) (H : Hp) (O : Zone) (D : Ends) (o : Out Fl) : Prop := match o with
  | .ok (.nx st) => ∀ σ' H' O', Rel F M st σ' H' O' → Sub (hide H O) (hide H' O') → D.nx σ' H'
  | .ok (.rt r) => ∀ v H', RetOk F M v H' r → D.rt v H'
  | .ok (.bk st) => ∀ σ' H' O', Rel F M st σ' H' O' → Sub (hide H O) (hide H' O') → D.bk σ' H'
  | .ok (.ct st) => ∀ σ' H' O', Rel F M st σ' H' O' → Sub (hide H O) (hide H' O') → D.ct σ' H'
  | .exc c => ∀ σ' H', Ex F.T M.H0 H' → W (cv c) none σ' H'
  | .bad => False
def TSx (F : Fm) (W : WX) (cv : Str → Value) (ds : DS) : TS := fun D σ H => ∃ M st O, Rel F M st σ H O ∧ FlP F M W cv H O D (ds st)
section
variable {F : Fm} {M : Dm} {W : WX} {cv : Str → Value} {X : Cx} {e a b c tg : Expr} {s s1 : Stmt} {ss : List Stmt} {pos : Pos} {D : Ends} {σ : L2.St} {H H1 : Hp} {O O1 : Zone}
theorem ps_w {t t' : TS} (h : PS X s t) (w : ∀ D σ H, t' D σ H → t D σ H) : PS X s t' := ⟨fun pins s σ H D I q => h.run pins s σ H D I (w D σ H q)⟩
theorem pss_w {t t' : TS} (h : PSs X ss t) (w : ∀ D σ H, t' D σ H → t D σ H) : PSs X ss t' := ⟨fun pins s σ H D I q => h.run pins s σ H D I (w D σ H q)⟩
theorem FlP.sub {o : Out Fl} (h : FlP F M W cv H O D o) (s : Sub (hide H O) (hide H1 O1)) : FlP F M W cv H1 O1 D o := by
  cases o with
  | ok f =>
    cases f with
    | nx st => exact fun σ' H' O' r q => h σ' H' O' r (s.trans q)
    | rt r => exact h
    | bk st => exact fun σ' H' O' r q => h σ' H' O' r (s.trans q)
    | ct st => exact fun σ' H' O' r q => h σ' H' O' r (s.trans q)
  | exc c => exact h
  | bad => exact h
/-- an expression, then the rest -/
theorem ts_e {de : DE} {k : RV → MSt → Out Fl} {P : VK} (h : TSx F W cv (fun st => (de st).bind fun r => k r st) D σ H)
    (step : ∀ M st O r x H1, Rel F M st σ H O → Ex F.T H H1 → ResOk F.K H H1 O x r → FlP F M W cv H O D (k r st) → P x H1) : TEx F W cv de σ H P := by
  obtain ⟨M, st, O, R, h⟩ := h
  refine ⟨M, st, O, R, ?_⟩
  have h : FlP F M W cv H O D ((de st).bind fun r => k r st) := h
  cases q : de st with
  | bad => rw [q] at h; exact h.elim
  | exc c => rw [q] at h; exact fun H' e => h σ H' (R.ex0.trans e)
  | ok r =>
    rw [q] at h
    exact fun x H1 e1 k1 => step M st O r x H1 R e1 k1 h
theorem ts_t {dt : DT} {k : Bool → MSt → Out Fl} {P : Bool → Hp → Prop} (h : TSx F W cv (fun st => (dt st).bind fun r => k r st) D σ H)
    (step : ∀ M st O r H1, Rel F M st σ H O → Ex F.T H H1 → FlP F M W cv H O D (k r st) → P r H1) : TTx F W cv dt σ H P := by
  obtain ⟨M, st, O, R, h⟩ := h
  refine ⟨M, st, O, R, ?_⟩
  have h : FlP F M W cv H O D ((dt st).bind fun r => k r st) := h
  cases q : dt st with
  | bad => rw [q] at h; exact h.elim
  | exc c => rw [q] at h; exact fun H' e => h σ H' (R.ex0.trans e)
  | ok r =>
    rw [q] at h
    exact fun x H1 e1 k1 => by
      obtain rfl : x = r := k1
      exact step M st O x H1 R e1 h
theorem ts_a {da : DA} {k : List RV → MSt → Out Fl} {P : List V → Hp → Prop} (h : TSx F W cv (fun st => (da st).bind fun r => k r st) D σ H)
    (step : ∀ M st O rs xs H1, Rel F M st σ H O → Ex F.T H H1 → ResAll F.K H H1 O xs rs → FlP F M W cv H O D (k rs st) → P xs H1) : TAx F W cv da σ H P := by
  obtain ⟨M, st, O, R, h⟩ := h
  refine ⟨M, st, O, R, ?_⟩
  have h : FlP F M W cv H O D ((da st).bind fun r => k r st) := h
  cases q : da st with
  | bad => rw [q] at h; exact h.elim
  | exc c => rw [q] at h; exact fun H' e => h σ H' (R.ex0.trans e)
  | ok r =>
    rw [q] at h
    exact fun x H1 e1 k1 => step M st O r x H1 R e1 k1 h

/-! ### sequences -/
def dNext : DS := fun st => .ok (.nx st)
def dSeq (p q : DS) : DS := fun st => (p st).bind fun f => match f with
  | .nx st1 => forceS st1 q
  | f => .ok f
theorem s_pnil : PSs X [] (TSx F W cv dNext) := pss_w pss_nil fun D σ H ⟨M, st, O, R, h⟩ => h σ H O R (Sub.refl _)
theorem s_pcons {d1 d2 : DS} (h1 : PS X s (TSx F W cv d1)) (h2 : PSs X ss (TSx F W cv d2)) : PSs X (s :: ss) (TSx F W cv (dSeq d1 d2)) := by
  refine pss_w (pss_cons h1 h2) fun D σ H ⟨M, st, O, R, h⟩ => ?_
  refine ⟨M, st, O, R, ?_⟩
  unfold dSeq at h
  cases q : d1 st with
  | bad => rw [q] at h; exact h.elim
  | exc c => rw [q] at h; exact h
  | ok f =>
    rw [q] at h
    cases f with
    | nx st1 =>
      have h : FlP F M W cv H O D (forceS st1 d2) := h
      rw [forceS_eq] at h
      exact fun σ' H' O' R' s' => ⟨M, st1, O', R', FlP.sub h s'⟩
    | rt r => exact h
    | bk st1 => exact h
    | ct st1 => exact h
theorem s_pone {d1 : DS} (h1 : PS X s (TSx F W cv d1)) : PSs X [s] (TSx F W cv d1) := pss_one h1
theorem s_pass : PS X (.Pass pos) (TSx F W cv dNext) := ps_w ps_pass fun D σ H ⟨M, st, O, R, h⟩ => h σ H O R (Sub.refl _)
def dBreak : DS := fun st => .ok (.bk st)
def dCont : DS := fun st => .ok (.ct st)
theorem s_break : PS X (.Break pos) (TSx F W cv dBreak) := ps_w ps_break fun D σ H ⟨M, st, O, R, h⟩ => h σ H O R (Sub.refl _)
theorem s_continue : PS X (.Continue pos) (TSx F W cv dCont) := ps_w ps_continue fun D σ H ⟨M, st, O, R, h⟩ => h σ H O R (Sub.refl _)
theorem s_doc {x j pos pos'} : PS X (.Expr (.Constant (.str x) j pos) pos') (TSx F W cv dNext) := ps_w ps_doc fun D σ H ⟨M, st, O, R, h⟩ => h σ H O R (Sub.refl _)
/-- an expression alone -/
def dExpr (de : DE) : DS := fun st => (de st).bind fun _ => .ok (.nx st)
theorem s_expr {de : DE} (he : PE X e (TEx F W cv de)) (hs : swapsWith e none pos.line X.env = pure false) : PS X (.Expr e pos) (TSx F W cv (dExpr de)) :=
  ps_w (ps_expr he hs) fun D σ H h => ts_e h fun M st O r x H1 R e1 k1 f => f σ H1 O (R.ex e1) (hide_ex e1)
/-- a test -/
def dIfS (dt : DT) (p q : DS) : DS := fun st => (dt st).bind fun b => if b = true then p st else q st
theorem s_ifS {dt : DT} {p q : DS} {sa sb : List Stmt} (hc : PT X c (TTx F W cv dt)) (ha : PSs X sa (TSx F W cv p)) (hb : PSs X sb (TSx F W cv q)) : PS X (.If c sa sb pos) (TSx F W cv (dIfS dt p q)) := by
  refine ps_w (ps_if hc ha hb) fun D σ H h => ?_
  refine ts_t (k := fun b st => if b = true then p st else q st) h fun M st O r H1 R e1 f => ?_
  cases r with
  | true => exact ⟨M, st, O, R.ex e1, FlP.sub f (hide_ex e1)⟩
  | false => exact ⟨M, st, O, R.ex e1, FlP.sub f (hide_ex e1)⟩

/-! ### return -/
theorem ret_ok {r : RV} {x : V} {H0 : Hp} {st : MSt} (R : Rel F M st σ H1 O) (h : ResOk F.K H0 H1 O x r) (e : Ex F.T M.H0 H0) (hk : r.k = .fz ∨ r.k = .fr) : RetOk F M x H1 r := by
  refine ⟨R.ex0, ?_⟩
  obtain ⟨k, d⟩ := r
  rcases hk with rfl | rfl
  · exact (hide_mono (T := F.T) (Ex.refl H1) fun b z => .inl (R.sub b z)).rp _ _ h
  · obtain ⟨a, h1, h2, h3⟩ := h
    exact ⟨a, h1, h2.back e, h3.mono (T := F.T) (Ex.refl H1) fun b z => .inl (z.elim (fun z => .inl (R.sub b z)) .inr)⟩
def Kd.retOk : Kd → Bool
  | .bor => false
  | _ => true
def dRet (de : DE) : DS := fun st => (de st).bind fun r => if r.k.retOk = true then .ok (.rt r) else .bad
theorem Kd.ret_of {k : Kd} (h : k.retOk = true) : k = .fz ∨ k = .fr := by
  cases k with
  | fz => exact .inl rfl
  | fr => exact .inr rfl
  | bor => cases h
theorem s_ret {de : DE} (he : PE X e (TEx F W cv de)) : PS X (.Return (some e) pos) (TSx F W cv (dRet de)) := by
  refine ps_w (ps_ret he) fun D σ H h => ?_
  obtain ⟨M, st, O, R, h⟩ := h
  refine ⟨M, st, O, R, ?_⟩
  unfold dRet at h
  cases q : de st with
  | bad => rw [q] at h; exact h.elim
  | exc c => rw [q] at h; exact fun H' e => h σ H' (R.ex0.trans e)
  | ok r =>
    rw [q] at h
    intro x H1 e1 k1
    by_cases hk : r.k.retOk = true
    · have h : FlP F M W cv H O D (if r.k.retOk = true then .ok (.rt r) else .bad) := h
      rw [if_pos hk] at h
      exact h x H1 (ret_ok (R.ex e1) k1 R.ex0 (Kd.ret_of hk))
    · have h : FlP F M W cv H O D (if r.k.retOk = true then .ok (.rt r) else .bad) := h
      rw [if_neg hk] at h
      exact h.elim
theorem s_retN : PS X (.Return none pos) (TSx F W cv (fun _ => .ok (.rt ⟨.fz, .non⟩))) := ps_w ps_retN fun D σ H ⟨M, st, O, R, h⟩ => h .non H ⟨R.ex0, .non⟩
/-- return x, x a name: an owned object goes to the caller -/
def dRetV (i : Nat) : DS := fun st => match st[i]? with
  | some (some (.fz d)) => .ok (.rt ⟨.fz, d⟩)
  | some (some (.own d)) => .ok (.rt ⟨.fr, d⟩)
  | _ => .bad
theorem s_retV {i : Nat} {x : Str} {p : Pos} (hN : X.N[i]? = some x) (hv : Vis X.env.scope x) (hd : (x == ("__debug__" : Str)) = false) (hcd : (x == ("__classdict__" : Str)) = false) : PS X (.Return (some (.Name x p)) pos) (TSx F W cv (dRetV i)) := by
  refine ps_w (ps_ret (pe_var hN hv hd hcd)) fun D σ H ⟨M, st, O, R, h⟩ => ?_
  unfold dRetV at h
  cases q : st[i]? with
  | none => rw [q] at h; exact h.elim
  | some o =>
    cases o with
    | none => rw [q] at h; exact h.elim
    | some v =>
      rw [q] at h
      obtain ⟨y, h1, h2⟩ := R.slot i _ q
      cases v with
      | exn c => exact h.elim
      | fz d => exact ⟨y, h1, h y H (ret_ok (H0 := H) R (r := ⟨.fz, d⟩) h2 R.ex0 (.inl rfl))⟩
      | own d =>
        obtain ⟨a, rfl, h3, h4, h5, h6⟩ := h2
        refine ⟨_, h1, h _ H ⟨R.ex0, a, rfl, h5, ?_⟩⟩
        exact OwnAt.mono (T := F.T) (Ex.refl H) (fun b z => .inl (z.elim (R.sub b) fun e => by rw [e]; exact h3)) h6

/-! ### stores -/
/-- how a result is kept in a slot: owned if it is new and wanted so (a dict: always) -/
def keepAs (own : Bool) (r : RV) : Option SV := match r.k with
  | .fz => some (.fz r.d)
  | .fr => if (own || !noDict r.d) = true then some (.own r.d) else some (.fz r.d)
  | .bor => none
theorem keep_ok {own : Bool} {r : RV} {x : V} {v : SV} {st : MSt} {H0 : Hp} (R : Rel F M st σ H0 O) (e1 : Ex F.T H0 H1) (k1 : ResOk F.K H0 H1 O x r) (hk : keepAs own r = some v) (j : Nat) :
    ∃ O', Rel F M (st.set j (some v)) (σ.set j (some x)) H1 O' ∧ Sub (hide H0 O) (hide H1 O') := by
  have R1 := R.ex e1
  obtain ⟨k, d⟩ := r
  cases k with
  | bor => cases hk
  | fz =>
    cases hk
    exact ⟨O, R1.setFz j k1, hide_ex e1⟩
  | fr =>
    unfold keepAs at hk
    by_cases ho : (own || !noDict d) = true
    · simp only [ho, if_true] at hk
      cases hk
      obtain ⟨a, rfl, h2, h3⟩ := k1
      exact ⟨_, R.setOwn j h2 e1 h3, hide_mono e1 fun b z => z.elim .inl fun e => .inr (by rw [e]; exact h2)⟩
    · simp only [ho] at hk
      have hn : noDict d = true := by
        cases hh : noDict d with
        | true => rfl
        | false => rw [hh] at ho; simp at ho
      cases hk
      exact ⟨O, R1.setFz j (ResOk.rp (T := F.T) (r := ⟨.fr, d⟩) k1 R.dom hn), hide_ex e1⟩
end
end Mini

set_option Elab.async false
set_option linter.all false
set_option maxRecDepth 100000
/-! Mini 10: stores, loops, changes of owned lists. -/
namespace Mini
open PySem L2 LamX
section
variable {F : Fm} {M : Dm} {W : WX} {cv : Str → Value} {X : Cx} {e a b c tg : Expr} {s s1 : Stmt} {ss : List Stmt} {pos : Pos} {Ke : Ends} {σ : L2.St} {H H1 : Hp} {O O1 : Zone}
def dSet (own : Bool) (j : Nat) (de : DE) : DS := fun st => (de st).bind fun r => force3 r.d fun d => match keepAs own ⟨r.k, d⟩ with
  | some v => .ok (.nx (st.set j (some v)))
  | none => .bad
theorem t_set {own : Bool} {j : Nat} {de : DE} (h : TSx F W cv (dSet own j de) Ke σ H) : tAsg (TEx F W cv de) (gName j) Ke σ H := by
  refine ts_e (k := fun r st => force3 r.d fun d => match keepAs own ⟨r.k, d⟩ with | some v => Out.ok (Fl.nx (st.set j (some v))) | none => .bad) h fun M st O r x H1 R e1 k1 f => ?_
  rw [force3_eq] at f
  have f : FlP F M W cv H O Ke (match keepAs own r with | some v => Out.ok (Fl.nx (st.set j (some v))) | none => .bad) := f
  cases q : keepAs own r with
  | none => rw [q] at f; exact f.elim
  | some v =>
    rw [q] at f
    obtain ⟨O', R', s'⟩ := keep_ok R e1 k1 q j
    exact f _ H1 O' R' s'
theorem s_set {own : Bool} {j : Nat} {de : DE} {x : Str} {p : Pos} (hN : X.N.Nodup) (hj : X.N[j]? = some x) (hx : Loc X.env.scope x) (hf : X.fn x = true ∨ X.env.scope.names.lookup x = some .local) (he : PE X e (TEx F W cv de)) (hs : swapsWith e (some (.Name x p)) pos.line X.env = pure false) : PS X (.Assign [.Name x p] e pos) (TSx F W cv (dSet own j de)) :=
  ps_w (ps_set hN hj hx he hs hf) fun D σ H h => t_set h
theorem s_setLc {own : Bool} {j : Nat} {x : Str} {py : Pos} {elt iter : Expr} {ifs : List Expr} {scope : Scope} {ownN : List (Str × Nat)} {spos : Pos} {di : DI} {p : Pat} {dt : DT} {de : DE} (hc : X.calm = true) (hN : X.N.Nodup) (hj : X.N[j]? = some x) (hx : X.env.scope.names.lookup x = some .local)
    (hsw : swapsWith (.ListComp elt [⟨tg, iter, ifs, 0⟩] scope pos) (some (.Name x py)) spos.line X.env = pure true) (hi : PI X tg iter (TIx F W cv di)) (ok : BlkOk X.N X.env.scope scope ownN) (hp : ∀ j ∈ p.slots, j ∈ ownN.map (·.2))
    (hg : ∀ (s : Shared) (H : Hp) (C : Addr) (cl : List (Str × Addr)) (fp : List Addr), PG (X.blk s H scope (compEnvC scope cl C X.env) fp) tg (gPat F.K p)) (ht : ∀ (s : Shared) (H : Hp) (C : Addr) (cl : List (Str × Addr)) (fp : List Addr), PTs (X.blk s H scope (compEnvC scope cl C X.env) fp) ifs (TTx F Wb cv dt))
    (he : ∀ (s : Shared) (H : Hp) (C : Addr) (cl : List (Str × Addr)) (fp : List Addr), PE (X.blk s H scope (compEnvC scope cl C X.env) fp) elt (TEx F Wb cv de)) (hs : ∀ x, foldedSetIterable iter X.env x = pure x) :
    PS X (.Assign [.Name x py] (.ListComp elt [⟨tg, iter, ifs, 0⟩] scope pos) spos) (TSx F W cv (dSet own j (dLc di p (ownN.map (·.2)) dt de))) :=
  ps_w (ps_setLc hc hN hj hx hsw hi ok hg ht he hs) fun D σ H h => t_lc hp (t_set h)
/-- a pattern -/
def dAsgP (p : Pat) (de : DE) : DS := fun st => (de st).bind fun r => if r.keep = true then (match setPat p r.d st with | some st1 => .ok (.nx st1) | none => .bad) else .bad
theorem s_asgP {p : Pat} {de : DE} (he : PE X e (TEx F W cv de)) (hg : PG X tg (gPat F.K p)) (hs : swapsWithSole [tg] e pos.line X.env = pure false) (hw : swappedStores [tg] e X.env = pure none) (h1 : (assignEach [tg] X.env).map (·.2) = [assign tg X.env]) : PS X (.Assign [tg] e pos) (TSx F W cv (dAsgP p de)) := by
  refine ps_w (ps_asg he hg hs hw h1) fun D σ H h => ?_
  refine ts_e (k := fun r st => if r.keep = true then (match setPat p r.d st with | some st1 => Out.ok (Fl.nx st1) | none => .bad) else .bad) h fun M st O r x H1 R e1 k1 f => ?_
  by_cases hk : r.keep = true
  · simp only [hk, if_true] at f
    cases q : setPat p r.d st with
    | none => rw [q] at f; exact f.elim
    | some st1 =>
      rw [q] at f
      obtain ⟨σ', R', _, g⟩ := pat_ok p (k1.rp (T := F.T) R.dom hk) q (R.ex e1)
      exact g _ (f σ' H1 O R' (hide_ex e1))
  · simp only [hk] at f
    exact f.elim
/-- several names at once -/
def setMany : List (Bool × Nat) → List RV → MSt → Option MSt
  | [], [], st => some st
  | (o, j) :: js, r :: rs, st => force3 r.d fun d => match keepAs o ⟨r.k, d⟩ with
    | some v => setMany js rs (st.set j (some v))
    | none => none
  | _, _, _ => none
theorem setMany_cons {o : Bool} {j : Nat} {js : List (Bool × Nat)} {r : RV} {rs : List RV} {st : MSt} : setMany ((o, j) :: js) (r :: rs) st = (match keepAs o r with | some v => setMany js rs (st.set j (some v)) | none => none) := by
  unfold setMany
  rw [force3_eq]
  cases q : keepAs o r with
  | none => rfl
  | some v => cases js <;> cases rs <;> rfl
def dPar (js : List (Bool × Nat)) (da : DA) : DS := fun st => (da st).bind fun rs => match setMany js rs st with
  | some st1 => .ok (.nx st1)
  | none => .bad
end
/-- the new ones' addresses -/
def FrZ (xs : List V) (rs : List RV) : Zone := fun b => ∃ (j : Nat) (s : RV), rs[j]? = some s ∧ s.k = .fr ∧ xs[j]? = some (.ref b)
abbrev okZ (F : Fm) : Hp → Hp → Zone → List V → List RV → Prop := fun H H' O xs rs => ResAll F.K H H' O xs rs ∧ ∀ (j : Nat) (x : V) (r : RV), xs[j]? = some x → rs[j]? = some r → ResOk F.K H H' (fun b => O b ∨ FrZ xs rs b) x r
def TZx (F : Fm) (W : WX) (cv : Str → Value) (de : DA) : TA := fun σ H Q => Tx F W cv (okZ F) de σ H Q
theorem ResOk.zone {T : List (Addr × Str)} {K : PySem.W.Frag} {H H1 H2 : Hp} {O O2 : Zone} {x : V} {r : RV} (h : ResOk K H H1 O x r) (e : Ex T H1 H2) (hz : ∀ b, O2 b → O b ∨ Fresh H1 b ∨ (r.k = .fr ∧ x = .ref b)) : ResOk K H H2 O2 x r := by
  obtain ⟨k, d⟩ := r
  cases k with
  | fz => exact (hide_mono e fun b z => (hz b z).elim .inl fun z => z.elim .inr fun z => nomatch z.1).rp _ _ h
  | bor => exact Vw.mono e (fun b z => (hz b z).elim .inl fun z => z.elim .inr fun z => nomatch z.1) h
  | fr =>
    obtain ⟨a, rfl, h2, h3⟩ := h
    refine ⟨a, rfl, h2, h3.mono e fun b z => ?_⟩
    rcases z with z | z
    · rcases hz b z with z | z | z
      · exact .inl (.inl z)
      · exact .inr z
      · exact .inl (.inr (V.ref.inj z.2).symm)
    · exact .inl (.inr z)
section
variable {F : Fm} {M : Dm} {W : WX} {cv : Str → Value} {X : Cx} {e a b c tg : Expr} {s s1 : Stmt} {ss : List Stmt} {pos : Pos} {Ke : Ends} {σ : L2.St} {H H1 : Hp} {O O1 : Zone}
/-- more is hidden, all of it new -/
theorem Rel.grow {st : MSt} {Z : Zone} (r : Rel F M st σ H O) (e : Ex F.T H H1) (h1 : ∀ b, O b → Z b) (h2 : ∀ b, Z b → O b ∨ Fresh H b) (dm : Dom H1 Z) : Rel F M st σ H1 Z := by
  have r1 := r.ex e
  refine ⟨fun b z => h1 b (r.sub b z), dm, r1.tabs, r1.ex0, r.len, fun i v q => ?_, r.uniq⟩
  obtain ⟨y, q1, q2⟩ := r.slot i v q
  refine ⟨y, q1, ?_⟩
  cases v with
  | fz d => exact (hide_mono e h2).rp _ _ q2
  | own d =>
    obtain ⟨c, g1, g2, g3, g4, g5⟩ := q2
    exact ⟨c, g1, h1 c g2, g3, g4, g5.mono e h2⟩
  | exn c => exact q2
theorem ResOk.stands {K : PySem.W.Frag} {H H' : Hp} {O : Zone} {a : Addr} {r : RV} (h : ResOk K H H' O (.ref a) r) (hk : r.k = .fr) : Fresh H a ∧ ∃ o, H' a = some o ∧ isLD o = true := by
  obtain ⟨k, d⟩ := r
  cases (show k = .fr from hk)
  obtain ⟨a', e, h2, h3⟩ := h
  cases e
  refine ⟨h2, ?_⟩
  cases d with
  | lst ds => obtain ⟨xs, h4, _⟩ := h3; exact ⟨_, h4, rfl⟩
  | dic kvs =>
    rcases h3 with ⟨q, h4, _⟩ | ⟨q, h4, _⟩
    · exact ⟨_, h4, rfl⟩
    · exact ⟨_, h4, rfl⟩
  | _ => exact h3.elim
theorem z_nil : PA X [] (TZx F W cv dNil) := pa_w pa_nil fun σ H Q ⟨M, st, O, R, h⟩ => h [] H (Ex.refl H) ⟨.nil, fun j x r h => by simp at h⟩
theorem z_cons {es : List Expr} {da : DE} {dr : DA} (ha : PE X e (TEx F W cv da)) (hr : PA X es (TZx F W cv dr)) (hs : starEach (e :: es) X.env = (false, eval e X.env) :: starEach es X.env) : PA X (e :: es) (TZx F W cv (dCons da dr)) := by
  refine pa_w (pa_cons ha hr hs) fun σ H Q h => ?_
  show Tx F W cv (okE F) da σ H _
  refine tx_bind (okA := okE F) (okC := okZ F) (f := fun (r : RV) st => (dr st).bind fun rs => .ok (r :: rs)) h fun M st O ra x H1 R e1 R1 k1 h1 => ?_
  have h2 : ∀ b, (O b ∨ (ra.k = .fr ∧ x = .ref b)) → O b ∨ Fresh H b := fun b z => z.elim .inl fun z => .inr (by
    obtain ⟨z1, z2⟩ := z
    subst z2
    exact (ResOk.stands k1 z1).1)
  have dm : Dom H1 (fun b => O b ∨ (ra.k = .fr ∧ x = .ref b)) := fun b z => z.elim (R1.dom b) fun z => by
    obtain ⟨z1, z2⟩ := z
    subst z2
    exact (ResOk.stands k1 z1).2
  have RG : Rel F M st σ H1 (fun b => O b ∨ (ra.k = .fr ∧ x = .ref b)) := R.grow e1 (fun b z => .inl z) h2 dm
  refine ⟨M, st, _, RG, (OutP.bind h1).mono (fun rs _ h2 xs H2 e2 k2 => ?_) fun c _ h => h⟩
  obtain ⟨k2, k3⟩ := k2
  have sh : ∀ {xs : List V} {rs : List RV}, ResAll F.K H1 H2 (fun b => O b ∨ (ra.k = .fr ∧ x = .ref b)) xs rs → ResAll F.K H1 H2 O xs rs := by
    intro xs rs k
    induction k with
    | nil => exact .nil
    | cons h d t ih => exact .cons (h.zone (T := F.T) (Ex.refl _) fun b z => .inl (.inl z)) d ih
  have frs : ∀ b, FrZ xs rs b → Fresh H1 b := fun b ⟨j, s, z1, z2, z3⟩ => k2.fresh z1 z2 z3
  have frc : ∀ b, FrZ (x :: xs) (ra :: rs) b → (ra.k = .fr ∧ x = .ref b) ∨ FrZ xs rs b := fun b ⟨j, s, z1, z2, z3⟩ => by
    cases j with
    | zero =>
      simp at z1 z3
      subst z1
      exact .inl ⟨z2, z3⟩
    | succ j => exact .inr ⟨j, s, by simpa using z1, z2, by simpa using z3⟩
  refine h2 (x :: xs) H2 e2 ⟨.cons (k1.ex e2) (fun a j s hf hx hj hs' hxs => ?_) ((sh k2).back e1), fun j y r hy hr' => ?_⟩
  · have f1 : Fresh H1 a := k2.fresh hj hs' hxs
    rw [hx] at k1
    obtain ⟨o, z1, z2⟩ := (ResOk.stands k1 hf).2
    obtain ⟨ps, z3⟩ := f1 o z1
    exact isLD.nt z2 ps z3
  · cases j with
    | zero =>
      simp at hy hr'
      subst hy hr'
      refine k1.zone e2 fun b z => ?_
      rcases z with z | z
      · exact .inl z
      · rcases frc b z with z | z
        · exact .inr (.inr z)
        · exact .inr (.inl (frs b z))
    | succ j =>
      have q := k3 j y r (by simpa using hy) (by simpa using hr')
      refine ResOk.back (q.zone (T := F.T) (Ex.refl _) fun b z => ?_) e1
      rcases z with z | z
      · exact .inl (.inl (.inl z))
      · rcases frc b z with z | z
        · exact .inl (.inl (.inr z))
        · exact .inl (.inr z)
/-- the slots of the values -/
def setVs : List (Bool × Nat) → List V → L2.St → L2.St
  | (_, j) :: js, x :: xs, σ => setVs js xs (σ.set j (some x))
  | _, _, σ => σ
def ownB (o : Bool) (r : RV) : Bool := match r.k with
  | .fr => o || !noDict r.d
  | _ => false
/-- an owned object into a slot, its address hidden already -/
theorem Rel.putOwn {st : MSt} {d : D} {a : Addr} (r : Rel F M st σ H O) (j : Nat) (h1 : O a) (h2 : ¬ M.S a) (h3 : Fresh M.H0 a) (h4 : OwnAt F.K H O a d) (h5 : ∀ (m : Nat) dd, st[m]? = some (some (.own dd)) → σ[m]? ≠ some (some (.ref a))) : Rel F M (st.set j (some (.own d))) (σ.set j (some (.ref a))) H O := by
  refine ⟨r.sub, r.dom, r.tabs, r.ex0, by simp [r.len], fun i v e => ?_, fun i k d1 d2 b e1 e2 e3 e4 => ?_⟩
  · by_cases hi : j = i
    · subst hi
      by_cases hj : j < st.length
      · rw [List.getElem?_set_self hj] at e
        cases e
        exact ⟨.ref a, List.getElem?_set_self (by rw [← r.len]; exact hj), a, rfl, h1, h2, h3, h4⟩
      · rw [List.getElem?_eq_none (by simpa using hj)] at e
        cases e
    · rw [List.getElem?_set_ne hi] at e
      obtain ⟨y, q1, q2⟩ := r.slot i v e
      exact ⟨y, by rw [List.getElem?_set_ne hi]; exact q1, q2⟩
  · have self : ∀ (dd : D), (st.set j (some (.own d)))[j]? = some (some (.own dd)) → (σ.set j (some (.ref a)))[j]? = some (some (.ref b)) → b = a := fun dd e e' => by
      by_cases hj : j < st.length
      · rw [List.getElem?_set_self (by rw [← r.len]; exact hj)] at e'
        cases e'
        rfl
      · rw [List.getElem?_eq_none (by simpa using hj)] at e
        cases e
    by_cases hi : j = i
    · by_cases hk : j = k
      · exact hi.symm.trans hk
      · subst hi
        have := self d1 e1 e3
        subst this
        rw [List.getElem?_set_ne hk] at e2 e4
        exact absurd e4 (h5 k d2 e2)
    · by_cases hk : j = k
      · subst hk
        have := self d2 e2 e4
        subst this
        rw [List.getElem?_set_ne hi] at e1 e3
        exact absurd e3 (h5 i d1 e1)
      · rw [List.getElem?_set_ne hi] at e1 e3
        rw [List.getElem?_set_ne hk] at e2 e4
        exact r.uniq i k d1 d2 b e1 e2 e3 e4
theorem par_go {Hb : Hp} {Z : Zone} : ∀ (js : List (Bool × Nat)) (rs : List RV) (xs : List V) (st st' : MSt) (σ : L2.St), setMany js rs st = some st' → Rel F M st σ H1 Z →
    ResAll F.K Hb H1 Z xs rs →
    (∀ (i : Nat) o j r a, js[i]? = some (o, j) → rs[i]? = some r → xs[i]? = some (.ref a) → r.k = .fr → ownB o r = true → Z a ∧ ¬ M.S a ∧ Fresh M.H0 a ∧ ∀ (m : Nat) dd, st[m]? = some (some (.own dd)) → σ[m]? ≠ some (some (.ref a))) →
    (∀ (i : Nat) o j r a, js[i]? = some (o, j) → rs[i]? = some r → xs[i]? = some (.ref a) → r.k = .fr → ownB o r = false → ¬ Z a) →
    Rel F M st' (setVs js xs σ) H1 Z := by
  intro js
  induction js with
  | nil =>
    intro rs xs st st' σ h R k1 _ _
    cases rs with
    | nil => cases h; cases xs <;> exact R
    | cons _ _ => cases h
  | cons p js ih =>
    obtain ⟨o, j⟩ := p
    intro rs xs st st' σ h R k1 ho hn
    cases rs with
    | nil => cases h
    | cons r rs =>
      cases k1 with
      | cons k1 dis k2 =>
      rename_i x xs
      have h : (match keepAs o r with | some v => setMany js rs (st.set j (some v)) | none => none) = some st' := by rw [setMany_cons] at h; exact h
      cases q : keepAs o r with
      | none => rw [q] at h; cases h
      | some v =>
        rw [q] at h
        have key : Rel F M (st.set j (some v)) (σ.set j (some x)) H1 Z ∧ (∀ a, x = .ref a → ∀ dd, v = .own dd → r.k = .fr) := by
          obtain ⟨k, d⟩ := r
          cases k with
          | bor => cases q
          | fz =>
            cases q
            exact ⟨R.setFz j k1, fun a _ dd z => nomatch z⟩
          | fr =>
            obtain ⟨a, rfl, z2, z3⟩ := k1
            cases hb : ownB o ⟨.fr, d⟩ with
            | true =>
              have hb' : (o || !noDict d) = true := hb
              have q : (if (o || !noDict d) = true then some (SV.own d) else some (.fz d)) = some v := q
              rw [if_pos hb'] at q
              cases q
              obtain ⟨g1, g2, g3, g4⟩ := ho 0 o j ⟨.fr, d⟩ a rfl rfl rfl rfl hb
              refine ⟨R.putOwn j g1 g2 g3 (z3.mono (T := F.T) (Ex.refl _) fun b z => .inl (.inl z)) g4, fun _ _ _ _ => rfl⟩
            | false =>
              have hb' : (o || !noDict d) = false := hb
              have q : (if (o || !noDict d) = true then some (SV.own d) else some (.fz d)) = some v := q
              rw [hb', if_neg (by decide)] at q
              cases q
              have nz := hn 0 o j ⟨.fr, d⟩ a rfl rfl rfl rfl hb
              have hd : noDict d = true := by
                cases hh : noDict d with
                | true => rfl
                | false => rw [hh] at hb'; simp at hb'
              refine ⟨R.setFz j ?_, fun _ _ dd z => nomatch z⟩
              have s : Sub (hide H1 fun b => Z b ∨ b = a) (hide H1 Z) := hide_mono (T := F.T) (Ex.refl _) fun b z => .inl (.inl z)
              cases d with
              | lst ds =>
                obtain ⟨ys, h4, h5⟩ := z3
                exact .lst (hide_some.mpr ⟨nz, h4⟩) (s.rpAll _ _ h5)
              | dic _ => cases hd
              | _ => exact z3.elim
        refine ih rs xs _ st' _ h key.1 k2 (fun i o' j' r' a' q1 q2 q3 q4 q5 => ?_) fun i o' j' r' a' q1 q2 q3 q4 q5 => hn (i + 1) o' j' r' a' (by simpa using q1) (by simpa using q2) (by simpa using q3) q4 q5
        obtain ⟨g1, g2, g3, g4⟩ := ho (i + 1) o' j' r' a' (by simpa using q1) (by simpa using q2) (by simpa using q3) q4 q5
        refine ⟨g1, g2, g3, fun m dd e1 e2 => ?_⟩
        by_cases hm : j = m
        · subst hm
          by_cases hj : j < st.length
          · rw [List.getElem?_set_self hj] at e1
            rw [List.getElem?_set_self (by rw [← R.len]; exact hj)] at e2
            cases e2
            cases e1
            exact dis a' i r' (key.2 a' rfl dd rfl) rfl q2 q4 q3
          · rw [List.getElem?_eq_none (by simpa using hj)] at e1
            cases e1
        · rw [List.getElem?_set_ne hm] at e1 e2
          exact g4 m dd e1 e2
theorem t_par {js : List (Bool × Nat)} {da : DA} {P : List V → Hp → Prop} (h : TSx F W cv (dPar js da) Ke σ H) (hP : ∀ xs H1, (∀ H2, Ex F.T H1 H2 → Ke.nx (setVs js xs σ) H2) → (∃ (rs : List RV) (st st' : MSt), xs.length = rs.length ∧ setMany js rs st = some st') → P xs H1) : TZx F W cv da σ H P := by
  obtain ⟨M, st, O, R, h⟩ := h
  refine ⟨M, st, O, R, ?_⟩
  have h : FlP F M W cv H O Ke ((da st).bind fun rs => match setMany js rs st with | some st1 => .ok (.nx st1) | none => .bad) := h
  cases q : da st with
  | bad => rw [q] at h; exact h.elim
  | exc c => rw [q] at h; exact fun H' e => h σ H' (R.ex0.trans e)
  | ok rs =>
    rw [q] at h
    intro xs H1 e1 k
    obtain ⟨k1, k2⟩ := k
    have h : FlP F M W cv H O Ke (match setMany js rs st with | some st1 => .ok (.nx st1) | none => .bad) := h
    cases hs : setMany js rs st with
    | none => rw [hs] at h; exact h.elim
    | some st1 =>
      rw [hs] at h
      -- the zone: the old one and what is to be owned
      have hfr : ∀ (i : Nat) r a, rs[i]? = some r → xs[i]? = some (.ref a) → r.k = .fr → Fresh H a := fun i r a z1 z2 z3 => k1.fresh z1 z3 z2
      have zsub : ∀ b, (O b ∨ ∃ (i : Nat) (o : Bool) (j : Nat) (r : RV), js[i]? = some (o, j) ∧ rs[i]? = some r ∧ xs[i]? = some (.ref b) ∧ r.k = .fr ∧ ownB o r = true) → O b ∨ Fresh H b := fun b z => z.elim .inl fun ⟨i, o, j, r, z1, z2, z3, z4, z5⟩ => .inr (hfr i r b z2 z3 z4)
      have dm : Dom H1 (fun b => O b ∨ ∃ (i : Nat) (o : Bool) (j : Nat) (r : RV), js[i]? = some (o, j) ∧ rs[i]? = some r ∧ xs[i]? = some (.ref b) ∧ r.k = .fr ∧ ownB o r = true) := fun b z => by
        rcases z with z | ⟨i, o, j, r, z1, z2, z3, z4, z5⟩
        · exact (R.ex e1).dom b z
        · exact (ResOk.stands (k2 i _ r z3 z2) z4).2
      have RG := R.grow e1 (fun b z => .inl z) zsub dm
      have dist : ∀ {xs : List V} {rs : List RV}, ResAll F.K H H1 O xs rs → ∀ (i i' : Nat) r r' a, rs[i]? = some r → rs[i']? = some r' → r.k = .fr → r'.k = .fr → xs[i]? = some (.ref a) → xs[i']? = some (.ref a) → i = i' := by
        intro xs rs k
        induction k with
        | nil => intro i i' r r' a h; simp at h
        | cons hh d t ih =>
          intro i i' r r' a h1 h2 h3 h4 h5 h6
          cases i with
          | zero =>
            cases i' with
            | zero => rfl
            | succ i' =>
              simp at h1 h2 h5 h6
              subst h1
              exact absurd h6 (d a i' r' h3 h5 h2 h4)
          | succ i =>
            cases i' with
            | zero =>
              simp at h1 h2 h5 h6
              subst h2
              exact absurd h5 (d a i r h4 h6 h1 h3)
            | succ i' =>
              simp at h1 h2 h5 h6
              rw [ih i i' r r' a h1 h2 h3 h4 h5 h6]
      have all : ∀ {ys : List V} {ts : List RV}, (∀ (i : Nat) y t, ys[i]? = some y → ts[i]? = some t → ResOk F.K H H1 (fun b => O b ∨ FrZ xs rs b) y t) → ResAll F.K H H1 O ys ts → ResAll F.K H H1 (fun b => O b ∨ ∃ (i : Nat) (o : Bool) (j : Nat) (r : RV), js[i]? = some (o, j) ∧ rs[i]? = some r ∧ xs[i]? = some (.ref b) ∧ r.k = .fr ∧ ownB o r = true) ys ts := by
        intro ys ts hall k
        induction k with
        | nil => exact .nil
        | cons hh d t ih =>
          refine .cons ((hall 0 _ _ rfl rfl).zone (T := F.T) (Ex.refl _) fun b z => .inl ?_) d (ih fun i y t z1 z2 => hall (i + 1) y t (by simpa using z1) (by simpa using z2))
          rcases z with z | ⟨i, o, j, r, z1, z2, z3, z4, z5⟩
          · exact .inl z
          · exact .inr ⟨i, r, z2, z4, z3⟩
      have fin := par_go (F := F) (M := M) (Hb := H) js rs xs st st1 σ hs RG (all k2 k1) (fun i o j r a q1 q2 q3 q4 q5 => ?_) (fun i o j r a q1 q2 q3 q4 q5 z => ?_)
      · exact hP xs H1 (fun H2 e2 => h _ H2 _ (fin.ex e2) ((hide_mono e1 zsub).trans (hide_ex e2))) ⟨rs, st, st1, k1.length, hs⟩
      · have fr := hfr i r a q2 q3 q4
        have na := R.dom.fresh fr
        refine ⟨.inr ⟨i, o, j, r, q1, q2, q3, q4, q5⟩, fun z => na (R.sub a z), fr.back R.ex0, fun m dd e1 e2 => ?_⟩
        obtain ⟨y, z1, c, z2, z3, _⟩ := R.slot m _ e1
        rw [e2] at z1
        cases z1
        cases z2
        exact na z3
      · rcases z with z | ⟨i', o', j', r', z1, z2, z3, z4, z5⟩
        · exact R.dom.fresh (hfr i r a q2 q3 q4) z
        · have := dist k1 i i' r r' a q2 z2 q4 z4 q3 z3
          subst this
          rw [q1] at z1
          rw [q2] at z2
          cases z1
          cases z2
          rw [q5] at z5
          cases z5
theorem setMany_length : ∀ {js : List (Bool × Nat)} {rs : List RV} {st st' : MSt}, setMany js rs st = some st' → js.length = rs.length
  | [], [], _, _, _ => rfl
  | [], _ :: _, _, _, h => by cases h
  | _ :: _, [], _, _, h => by cases h
  | (o, j) :: js, r :: rs, st, st', h => by
    have h : (match keepAs o r with | some v => setMany js rs (st.set j (some v)) | none => none) = some st' := by rw [setMany_cons] at h; exact h
    cases q : keepAs o r with
    | none => rw [q] at h; cases h
    | some v => rw [q] at h; simp [setMany_length h]
theorem s_par {i j : Nat} {o1 o2 : Bool} {x y : Str} {px py pt : Pos} {kt k2 pt2} {da : DA} (hc : X.calm = true) (hN : X.N.Nodup) (hi : X.N[i]? = some x) (hj : X.N[j]? = some y) (hij : i ≠ j)
    (hx : X.env.scope.names.lookup x = some .local) (hy : X.env.scope.names.lookup y = some .local) (ha : PA X [a, b] (TZx F W cv da))
    (hw : swappedStores [.Tuple [.Name x px, .Name y py] kt pt] (.Tuple [a, b] k2 pt2) X.env = pure (some [x, y]))
    (hs : swapsWithSole [.Tuple [.Name x px, .Name y py] kt pt] (.Tuple [a, b] k2 pt2) pos.line X.env = pure false) :
    PS X (.Assign [.Tuple [.Name x px, .Name y py] kt pt] (.Tuple [a, b] k2 pt2) pos) (TSx F W cv (dPar [(o1, i), (o2, j)] da)) := by
  refine ps_w (ps_par hc hN hi hj hij hx hy ha hw hs) fun D σ H h => ?_
  refine t_par h fun xs H1 q ⟨rs, st, st', l1, l2⟩ => ?_
  have := setMany_length l2
  match xs, l1, q with
  | [v, w], _, q => exact ⟨v, w, rfl, q _ (Ex.refl _)⟩
  | [], l1, _ => simp at l1 this; omega
  | [_], l1, _ => simp at l1 this; omega
  | _ :: _ :: _ :: _, l1, _ => simp at l1 this; omega
theorem s_par3 {i j l : Nat} {o1 o2 o3 : Bool} {x y z : Str} {px py pz pt : Pos} {kt k2 pt2} {da : DA} (hc : X.calm = true) (hN : X.N.Nodup) (hi : X.N[i]? = some x) (hj : X.N[j]? = some y) (hl : X.N[l]? = some z) (hij : i ≠ j) (hil : i ≠ l) (hjl : j ≠ l)
    (hx : X.env.scope.names.lookup x = some .local) (hy : X.env.scope.names.lookup y = some .local) (hz : X.env.scope.names.lookup z = some .local) (ha : PA X [a, b, c] (TZx F W cv da))
    (hw : swappedStores [.Tuple [.Name x px, .Name y py, .Name z pz] kt pt] (.Tuple [a, b, c] k2 pt2) X.env = pure (some [x, y, z]))
    (hs : swapsWithSole [.Tuple [.Name x px, .Name y py, .Name z pz] kt pt] (.Tuple [a, b, c] k2 pt2) pos.line X.env = pure false) :
    PS X (.Assign [.Tuple [.Name x px, .Name y py, .Name z pz] kt pt] (.Tuple [a, b, c] k2 pt2) pos) (TSx F W cv (dPar [(o1, i), (o2, j), (o3, l)] da)) := by
  refine ps_w (ps_par3 hc hN hi hj hl hij hil hjl hx hy hz ha hw hs) fun D σ H h => ?_
  refine t_par h fun xs H1 q ⟨rs, st, st', l1, l2⟩ => ?_
  have := setMany_length l2
  match xs, l1, q with
  | [u, v, w], _, q => exact ⟨u, v, w, rfl, q _ (Ex.refl _)⟩
  | [], l1, _ => simp at l1 this; omega
  | [_], l1, _ => simp at l1 this; omega
  | [_, _], l1, _ => simp at l1 this; omega
  | _ :: _ :: _ :: _ :: _, l1, _ => simp at l1 this; omega
/-- the long way: a tuple is made and taken apart -/
theorem t_names : ∀ (js : List (Bool × Nat)) (xs : List V) (σ : L2.St) (H : Hp) (Q : L2.St → Hp → Prop), js.length = xs.length → Q (setVs js xs σ) H → gNames (js.map (·.2)) xs σ H Q
  | [], [], _, _, _, _, q => ⟨rfl, q⟩
  | [], _ :: _, _, _, _, h, _ => by simp at h
  | _ :: _, [], _, _, _, h, _ => by simp at h
  | (o, j) :: js, x :: xs, σ, H, Q, h, q => ⟨x, xs, rfl, t_names js xs _ H Q (by simpa using h) q⟩
theorem s_parT {js : List (Bool × Nat)} {es : List Expr} {k : Nat} {pt : Pos} {da : DA} (hl : fitsN js.length = true) (ha : PA X es (TZx F W cv da)) (hg : PG X tg (gTup F.K js.length (gNames (js.map (·.2))))) (hs : swapsWithSole [tg] (.Tuple es k pt) pos.line X.env = pure false) (hw : swappedStores [tg] (.Tuple es k pt) X.env = pure none) (h1 : (assignEach [tg] X.env).map (·.2) = [assign tg X.env]) :
    PS X (.Assign [tg] (.Tuple es k pt) pos) (TSx F W cv (dPar js da)) := by
  refine ps_w (ps_asg (pe_tup ha) hg hs hw h1) fun D σ H h => ?_
  refine t_par h fun xs H1 q ⟨rs, st, st', l1, l2⟩ => ?_
  have l3 := setMany_length l2
  refine ⟨by rw [l1, ← l3]; exact fits hl, fun p hp => ?_⟩
  exact ⟨p, xs, rfl, .inl (.inl upd_same), by rw [l1, l3], t_names js xs σ _ _ (by rw [l3, l1]) (q _ (Ex.new hp))⟩
end
end Mini

set_option Elab.async false
set_option linter.all false
set_option maxRecDepth 100000
/-! Mini 11: loops, freezing, changes of owned lists. -/
namespace Mini
open PySem L2 LamX
section
variable {F : Fm} {M : Dm} {W : WX} {cv : Str → Value} {X : Cx} {e a b c tg : Expr} {s s1 : Stmt} {ss : List Stmt} {pos : Pos} {Ke : Ends} {σ : L2.St} {H H1 : Hp} {O O1 : Zone}
/-! ### for -/
def forGo (p : Pat) (body : DS) : List D → MSt → Out Fl
  | [], st => .ok (.nx st)
  | d :: ds, st => force2 d fun d => match setPat p d st with
    | none => .bad
    | some st1 => match forceS st1 body with
      | .ok (.nx st2) => forceS st2 fun st2 => forGo p body ds st2
      | .ok (.ct st2) => forceS st2 fun st2 => forGo p body ds st2
      | .ok (.bk st2) => .ok (.nx st2)
      | o => o
def dFor (di : DI) (p : Pat) (body : DS) : DS := fun st => (di st).bind fun q => if q.1 = true then forGo p body q.2 st else .bad
theorem t_for {di : DI} {p : Pat} {body : DS} (h : TSx F W cv (dFor di p body) Ke σ H) : tFor (TIx F W cv di) (gPat F.K p) (TSx F W cv body) Ke σ H := by
  obtain ⟨M, st, O, R, h⟩ := h
  refine ⟨M, st, O, R, ?_⟩
  have h : FlP F M W cv H O Ke ((di st).bind fun q => if q.1 = true then forGo p body q.2 st else .bad) := h
  cases q : di st with
  | bad => rw [q] at h; exact h.elim
  | exc c => rw [q] at h; exact fun H' e => h σ H' (R.ex0.trans e)
  | ok fd =>
    rw [q] at h
    obtain ⟨firm, ds⟩ := fd
    intro J H1 e1 wd
    have h : FlP F M W cv H O Ke (if firm = true then forGo p body ds st else .bad) := h
    cases firm with
    | false => exact h.elim
    | true =>
      rw [if_pos rfl] at h
      have wd : WalkD F true H1 O J ds.length (fun i => ds[i]?) := wd
      obtain ⟨G, Y, w, hw⟩ := wd.go
      refine for_it (n := ds.length) w (fun i σ Hc => ∃ st O', Rel F M st σ Hc O' ∧ Sub (hide H1 O) (hide Hc O') ∧ FlP F M W cv H1 O Ke (forGo p body (ds.drop i) st)) ⟨st, O, R.ex e1, Sub.refl _, FlP.sub h (hide_ex e1)⟩ ?_ ?_ ?_
      · rintro i σ Hc _ ⟨st, O', R', s', _⟩
        exact (hw Hc O' s').1
      · rintro i x σ Hc H' hi ⟨st, O', R', s', f⟩ y
        obtain ⟨e2, d, hd, rx⟩ := (hw Hc O' s').2 R'.dom i x H' hi y
        have hdrop : ds.drop i = d :: ds.drop (i + 1) := by
          rw [List.drop_eq_getElem_cons hi]
          congr 1
          rw [List.getElem?_eq_getElem hi] at hd
          exact Option.some.inj hd
        rw [hdrop] at f
        unfold forGo at f
        rw [force2_eq] at f
        simp only [forceS_eq] at f
        cases hs : setPat p d st with
        | none => rw [hs] at f; exact f.elim
        | some st1 =>
          rw [hs] at f
          have f : FlP F M W cv H1 O Ke (match body st1 with
            | .ok (.nx st2) => forGo p body (ds.drop (i + 1)) st2
            | .ok (.ct st2) => forGo p body (ds.drop (i + 1)) st2
            | .ok (.bk st2) => .ok (.nx st2)
            | o => o) := f
          obtain ⟨σ2, R2, _, g⟩ := pat_ok p rx hs (R'.ex e2)
          have s2 : Sub (hide H1 O) (hide H' O') := s'.trans (hide_ex e2)
          refine g _ ⟨M, st1, O', R2, ?_⟩
          cases hb : body st1 with
          | bad => rw [hb] at f; exact f.elim
          | exc c => rw [hb] at f; exact f
          | ok fl =>
            rw [hb] at f
            cases fl with
            | nx st2 => exact fun σ3 H3 O3 R3 s3 => ⟨st2, O3, R3, s2.trans s3, f⟩
            | ct st2 => exact fun σ3 H3 O3 R3 s3 => ⟨st2, O3, R3, s2.trans s3, f⟩
            | bk st2 => exact fun σ3 H3 O3 R3 s3 => f σ3 H3 O3 R3 (s2.trans s3)
            | rt r => exact f
      · rintro σ Hc ⟨st, O', R', s', f⟩
        rw [List.drop_length] at f
        exact f σ Hc O' R' s'
theorem s_for {di : DI} {p : Pat} {body : DS} {iter : Expr} {sb : List Stmt} (hp : PassesOwn (model X.prog X.w) X.A X.env X.xe) (hc : X.calm = true) (hi : PI X tg iter (TIx F W cv di)) (hg : PG X tg (gPat F.K p)) (hb : PSs X sb (TSx F W cv body)) (hs : ∀ x, foldedSetIterable iter X.env x = pure x) : PS X (.For tg iter sb [] pos) (TSx F W cv (dFor di p body)) :=
  ps_w (ps_for hp hc hi hg hb hs) fun _ _ _ h => t_for h
/-! ### while -/
def whGo (dt : DT) (body : DS) : Nat → MSt → Out Fl
  | 0, _ => .bad
  | n + 1, st => (dt st).bind fun b => if b = true then (match body st with
      | .ok (.nx st2) => forceS st2 fun st2 => whGo dt body n st2
      | .ok (.ct st2) => forceS st2 fun st2 => whGo dt body n st2
      | .ok (.bk st2) => .ok (.nx st2)
      | o => o) else .ok (.nx st)
def dWhile (fuel : MSt → Nat) (dt : DT) (body : DS) : DS := fun st => whGo dt body (fuel st) st
theorem t_while {fuel : MSt → Nat} {dt : DT} {body : DS} (h : TSx F W cv (dWhile fuel dt body) Ke σ H) : tWhile (TTx F W cv dt) (TSx F W cv body) Ke σ H := by
  obtain ⟨M, st, O, R, h⟩ := h
  refine ⟨fun n σ Hc => ∃ st O', Rel F M st σ Hc O' ∧ Sub (hide H O) (hide Hc O') ∧ FlP F M W cv H O Ke (whGo dt body n st), ⟨fuel st, st, O, R, Sub.refl _, h⟩, ?_⟩
  rintro n σ Hc ⟨st, O', R', s', f⟩
  cases n with
  | zero => exact f.elim
  | succ n =>
    unfold whGo at f
    simp only [forceS_eq] at f
    have f' : TSx F W cv (fun st => (dt st).bind fun b => if b = true then (match body st with
      | .ok (.nx st2) => whGo dt body n st2
      | .ok (.ct st2) => whGo dt body n st2
      | .ok (.bk st2) => .ok (.nx st2)
      | o => o) else .ok (.nx st)) Ke σ Hc := ⟨M, st, O', R', FlP.sub f s'⟩
    refine ⟨M, st, O', R', ?_⟩
    cases hd : dt st with
    | bad => rw [hd] at f; exact f.elim
    | exc c => rw [hd] at f; exact fun H' e => f σ H' (R'.ex0.trans e)
    | ok b =>
      rw [hd] at f
      intro b' H2 e2 hb'
      obtain rfl : b' = b := hb'
      have f : FlP F M W cv H O Ke (if b' = true then (match body st with
        | .ok (.nx st2) => whGo dt body n st2
        | .ok (.ct st2) => whGo dt body n st2
        | .ok (.bk st2) => .ok (.nx st2)
        | o => o) else .ok (.nx st)) := f
      cases b' with
      | false =>
        rw [if_neg (by decide)] at f ⊢
        exact f σ H2 O' (R'.ex e2) (s'.trans (hide_ex e2))
      | true =>
        rw [if_pos rfl] at f ⊢
        refine ⟨fun σ' H' => ∃ m, m < n + 1 ∧ ∃ st O', Rel F M st σ' H' O' ∧ Sub (hide H O) (hide H' O') ∧ FlP F M W cv H O Ke (whGo dt body m st), fun σ' H' q => q, M, st, O', R'.ex e2, ?_⟩
        have s2 : Sub (hide H O) (hide H2 O') := s'.trans (hide_ex e2)
        cases hb : body st with
        | bad => rw [hb] at f; exact f.elim
        | exc c => rw [hb] at f; exact f
        | ok fl =>
          rw [hb] at f
          cases fl with
          | nx st2 => exact fun σ3 H3 O3 R3 s3 => ⟨n, Nat.lt_succ_self n, st2, O3, R3, s2.trans s3, f⟩
          | ct st2 => exact fun σ3 H3 O3 R3 s3 => ⟨n, Nat.lt_succ_self n, st2, O3, R3, s2.trans s3, f⟩
          | bk st2 => exact fun σ3 H3 O3 R3 s3 => f σ3 H3 O3 R3 (s2.trans s3)
          | rt r => exact f
theorem s_while {fuel : MSt → Nat} {dt : DT} {body : DS} {sb : List Stmt} (hp : PassesOwn (model X.prog X.w) X.A X.env X.xe) (hc : PT X c (TTx F W cv dt)) (hb : PSs X sb (TSx F W cv body)) : PS X (.While c sb [] pos) (TSx F W cv (dWhile fuel dt body)) :=
  ps_w (ps_while hp hc hb) fun _ _ _ h => t_while h
/-! ### freezing: a list owned so far is data from here on -/
def dFrz (j : Nat) (k : DS) : DS := fun st => match st[j]? with
  | some (some (.own (.lst ds))) => k (st.set j (some (.fz (.lst ds))))
  | _ => k st
theorem Rel.frz {st : MSt} {j : Nat} {ds : List D} (R : Rel F M st σ H O) (h : st[j]? = some (some (.own (.lst ds)))) : ∃ O', Rel F M (st.set j (some (.fz (.lst ds)))) σ H O' ∧ Sub (hide H O) (hide H O') := by
  obtain ⟨x, hx, a, rfl, h1, h2, h3, xs, h4, h5⟩ := R.slot j _ h
  have s : Sub (hide H O) (hide H fun b => O b ∧ b ≠ a) := hide_mono (T := F.T) (Ex.refl _) fun b z => .inl z.1
  refine ⟨fun b => O b ∧ b ≠ a, ⟨fun b z => ⟨R.sub b z, fun e => h2 (by rw [← e]; exact z)⟩, fun b z => R.dom b z.1, R.tabs, R.ex0, by simp [R.len], fun i v e => ?_, fun i k d1 d2 b e1 e2 e3 e4 => ?_⟩, s⟩
  · by_cases hi : j = i
    · subst hi
      have hj : j < st.length := by
        cases hl : decide (j < st.length) with
        | true => exact of_decide_eq_true hl
        | false => rw [List.getElem?_eq_none (by simpa using of_decide_eq_false hl)] at h; cases h
      rw [List.getElem?_set_self hj] at e
      cases e
      exact ⟨.ref a, hx, .lst (hide_some.mpr ⟨fun z => z.2 rfl, h4⟩) (s.rpAll _ _ h5)⟩
    · rw [List.getElem?_set_ne hi] at e
      obtain ⟨y, q1, q2⟩ := R.slot i v e
      refine ⟨y, q1, ?_⟩
      cases v with
      | fz d => exact s.rp _ _ q2
      | own d =>
        obtain ⟨c, g1, g2, g3, g4, g5⟩ := q2
        refine ⟨c, g1, ⟨g2, fun z => ?_⟩, g3, g4, At.mono (Sub.refl _) s g5⟩
        subst g1
        subst z
        exact hi (R.uniq j i _ d c h e hx q1)
      | exn c => exact q2
  · have ne : ∀ (m : Nat) (dd : D), (st.set j (some (.fz (.lst ds))))[m]? = some (some (.own dd)) → st[m]? = some (some (.own dd)) := fun m dd e => by
      by_cases hm : j = m
      · subst hm
        by_cases hj : j < st.length
        · rw [List.getElem?_set_self hj] at e; cases e
        · rw [List.getElem?_eq_none (by simpa using hj)] at e; cases e
      · rw [List.getElem?_set_ne hm] at e
        exact e
    exact R.uniq i k d1 d2 b (ne i d1 e1) (ne k d2 e2) e3 e4
theorem t_frz {j : Nat} {k : DS} (h : TSx F W cv (dFrz j k) Ke σ H) : TSx F W cv k Ke σ H := by
  obtain ⟨M, st, O, R, h⟩ := h
  unfold dFrz at h
  split at h
  · rename_i ds q
    obtain ⟨O', R', s'⟩ := R.frz q
    exact ⟨M, _, O', R', FlP.sub h s'⟩
  · exact ⟨M, st, O, R, h⟩
theorem s_frz {j : Nat} {k : DS} (h : PS X s (TSx F W cv k)) : PS X s (TSx F W cv (dFrz j k)) := ps_w h fun _ _ _ h => t_frz h
theorem s_frzs {j : Nat} {k : DS} (h : PSs X ss (TSx F W cv k)) : PSs X ss (TSx F W cv (dFrz j k)) := pss_w h fun _ _ _ h => t_frz h
/-! ### owned objects change -/
theorem Rel.updOwn {st : MSt} {j : Nat} {d d' : D} {a : Addr} {o : HO} (R : Rel F M st σ H O) (h : st[j]? = some (some (.own d))) (hx : σ[j]? = some (some (.ref a))) (l : isLD o = true) (new : At F.K (upd H a o) (hide H O) a d') :
    Rel F M (st.set j (some (.own d'))) σ (upd H a o) O ∧ Sub (hide H O) (hide (upd H a o) O) := by
  obtain ⟨x, hx', a', rfl, h1, h2, h3, h4⟩ := R.slot j _ h
  rw [hx] at hx'
  cases hx'
  have eqh : hide (upd H a o) O = hide H O := hide_upd h1
  have l' : ∃ o', H a = some o' ∧ isLD o' = true := by
    cases d with
    | lst ds => obtain ⟨xs, z, _⟩ := h4; exact ⟨_, z, rfl⟩
    | dic kvs =>
      rcases h4 with ⟨q, z, _⟩ | ⟨q, z, _⟩
      · exact ⟨_, z, rfl⟩
      · exact ⟨_, z, rfl⟩
    | _ => exact h4.elim
  obtain ⟨o', l1, l2⟩ := l'
  have tb := tabs_upd (o := o) R.tabs l1 l2
  refine ⟨⟨R.sub, fun b z => ?_, tb, ⟨fun b u e n => ?_, fun _ => tb⟩, by simp [R.len], fun i v e => ?_, fun i k d1 d2 b e1 e2 e3 e4 => ?_⟩, by rw [eqh]; exact Sub.refl _⟩
  · by_cases hb : b = a
    · rw [hb, upd_same]; exact ⟨o, rfl, l⟩
    · rw [L2.upd_ne hb]; exact R.dom b z
  · by_cases hb : b = a
    · obtain ⟨ps, z⟩ := h3 u (by rw [← hb]; exact e)
      exact absurd z (n ps)
    · rw [L2.upd_ne hb]; exact R.ex0.ext b u e n
  · by_cases hi : j = i
    · subst hi
      have hj : j < st.length := by
        cases hl : decide (j < st.length) with
        | true => exact of_decide_eq_true hl
        | false => rw [List.getElem?_eq_none (by simpa using of_decide_eq_false hl)] at h; cases h
      rw [List.getElem?_set_self hj] at e
      cases e
      refine ⟨.ref a, hx, a, rfl, h1, h2, h3, ?_⟩
      show At F.K (upd H a o) (hide (upd H a o) O) a d'
      rw [eqh]
      exact new
    · rw [List.getElem?_set_ne hi] at e
      obtain ⟨y, q1, q2⟩ := R.slot i v e
      refine ⟨y, q1, ?_⟩
      cases v with
      | fz d => show Rp F.K (hide (upd H a o) O) y d; rw [eqh]; exact q2
      | own d2 =>
        obtain ⟨c, g1, g2, g3, g4, g5⟩ := q2
        refine ⟨c, g1, g2, g3, g4, ?_⟩
        show At F.K (upd H a o) (hide (upd H a o) O) c d2
        rw [eqh]
        refine At.upd_ne g5 fun z => ?_
        subst g1
        subst z
        exact hi (R.uniq j i _ d2 c h e hx q1)
      | exn c => exact q2
  · have ne : ∀ (m : Nat) (dd : D), (st.set j (some (.own d')))[m]? = some (some (.own dd)) → ∃ d0, st[m]? = some (some (.own d0)) := fun m dd e => by
      by_cases hm : j = m
      · subst hm
        exact ⟨d, h⟩
      · rw [List.getElem?_set_ne hm] at e
        exact ⟨dd, e⟩
    obtain ⟨z1, y1⟩ := ne i d1 e1
    obtain ⟨z2, y2⟩ := ne k d2 e2
    exact R.uniq i k z1 z2 b y1 y2 e3 e4
end
end Mini

set_option Elab.async false
set_option linter.all false
set_option maxRecDepth 100000
/-! Mini 12: append, extend, pop, x[i] = e, x[i] += e on owned lists. -/
namespace Mini
open PySem L2 LamX PySem.Spec PyProof.Rows
theorem get_list {X : Cx} : PGet X (rIxL X.K) := by
  intro pins s σ H x y v u Q I rx ry h
  obtain ⟨p, xs, i, z, rfl, rfl, hq, he, q⟩ := h
  cases rx
  obtain ⟨t, rfl⟩ := ry
  obtain ⟨its, r, pl, hz⟩ := I.list hq
  obtain ⟨j, h1, h2, h3, h4, h5⟩ := atI_get he
  obtain ⟨w, ew, rw'⟩ := r.get h2
  have hl := r.length
  have hn := line63
  have fin : EP X pins σ Q w s := ⟨z, H, I, rw', q⟩
  by_cases h0 : 0 ≤ i
  · have hj : i.toNat = j := by
      rw [seqIndex_of h0 h5] at h1
      exact Option.some.inj h1
    exact wpAny_getItem_list (Q := EP X pins σ Q) pl.isList h0 (by omega) (by rw [hj]; simpa using ew) fin
  · have hj : (i + (its.toArray.size : Int)).toNat = j := by
      rw [seqIndex_neg (by omega) h4] at h1
      rw [List.size_toArray, ← hl]
      exact Option.some.inj h1
    exact wpAny_getItem_list_neg (Q := EP X pins σ Q) pl.isList (by omega) (by rw [List.size_toArray] <;> omega) (by omega) (by rw [hj]; simpa using ew) fin
section
variable {F : Fm} {M : Dm} {W : WX} {cv : Str → Value} {X : Cx} {e a b c tg : Expr} {s s1 : Stmt} {ss : List Stmt} {pos cpos apos p : Pos} {Ke : Ends} {σ : L2.St} {H H1 : Hp} {O O1 : Zone} {x : Str} {j : Nat}
/-- the owned list in a slot -/
def ownL (st : MSt) (j : Nat) : Option (List D) := match st[j]? with
  | some (some (.own (.lst ds))) => some ds
  | _ => none
theorem ownL_some {st : MSt} {j : Nat} {ds : List D} (h : ownL st j = some ds) : st[j]? = some (some (.own (.lst ds))) := by
  unfold ownL at h
  split at h
  · cases h; assumption
  · cases h
theorem Rel.ownAt {st : MSt} {ds : List D} (R : Rel F M st σ H O) (h : ownL st j = some ds) : ∃ a xs, σ[j]? = some (some (.ref a)) ∧ O a ∧ H a = some (.lst xs) ∧ RpAll F.K (hide H O) xs ds := by
  obtain ⟨x, hx, a, rfl, h1, _, _, xs, h4, h5⟩ := R.slot j _ (ownL_some h)
  exact ⟨a, xs, hx, h1, h4, h5⟩
/-- a list in a slot gets new items -/
theorem Rel.newL {st : MSt} {ds ds' : List D} {a : Addr} {xs' : List V} (R : Rel F M st σ H O) (h : ownL st j = some ds) (hx : σ[j]? = some (some (.ref a))) (h' : RpAll F.K (hide H O) xs' ds') :
    Rel F M (st.set j (some (.own (.lst ds')))) σ (upd H a (.lst xs')) O ∧ Sub (hide H O) (hide (upd H a (.lst xs')) O) :=
  R.updOwn (ownL_some h) hx rfl ⟨xs', upd_same, h'⟩
def putL (st : MSt) (j : Nat) (ds : List D) : Out Fl := forceL2 ds fun ds => .ok (.nx (st.set j (some (.own (.lst ds)))))
theorem putL_eq {st : MSt} {j : Nat} {ds : List D} : putL st j ds = .ok (.nx (st.set j (some (.own (.lst ds))))) := by unfold putL; rw [forceL2_eq]
/-- x.m(args): the receiver owned by slot j -/
def dMut (j : Nat) (da : DA) (f : List D → List RV → Option (List D)) : DS := fun st => match ownL st j with
  | some ds => (da st).bind fun rs => match f ds rs with
    | some ds' => putL st j ds'
    | none => .bad
  | none => .bad
theorem t_mut {da : DA} {f : List D → List RV → Option (List D)} {r : V → List V → Hp → VK → Prop} (h : TSx F W cv (dMut j da f) Ke σ H)
    (step : ∀ (H0 H1 : Hp) (O : Zone) (a : Addr) (xs vs : List V) (ds ds' : List D) (rs : List RV) (Q : VK), H1 a = some (.lst xs) → RpAll F.K (hide H1 O) xs ds → ResAll F.K H0 H1 O vs rs → Dom H0 O → f ds rs = some ds' →
      (∀ v xs', RpAll F.K (hide H1 O) xs' ds' → Q v (upd H1 a (.lst xs'))) → r (.ref a) vs H1 Q) : tDrop (tBM F.K "list" r (tVar j) (TAx F W cv da)) Ke σ H := by
  obtain ⟨M, st, O, R, h⟩ := h
  unfold dMut at h
  cases q : ownL st j with
  | none => rw [q] at h; exact h.elim
  | some ds =>
    rw [q] at h
    obtain ⟨a, xs, hx, hO, ha, hxs⟩ := R.ownAt q
    refine ⟨.ref a, hx, .inl ⟨rfl, xs, .inl (.inl ha)⟩, ?_⟩
    refine ⟨M, st, O, R, ?_⟩
    have h : FlP F M W cv H O Ke ((da st).bind fun rs => match f ds rs with | some ds' => putL st j ds' | none => .bad) := h
    cases qa : da st with
    | bad => rw [qa] at h; exact h.elim
    | exc c => rw [qa] at h; exact fun H' e => h σ H' (R.ex0.trans e)
    | ok rs =>
      rw [qa] at h
      intro vs H1 e1 k1
      have h : FlP F M W cv H O Ke (match f ds rs with | some ds' => putL st j ds' | none => .bad) := h
      cases qf : f ds rs with
      | none => rw [qf] at h; exact h.elim
      | some ds' =>
        rw [qf] at h
        have R1 := R.ex e1
        refine step H H1 O a xs vs ds ds' rs _ (e1.ext _ _ ha fun ps z => nomatch z) ((hide_ex e1).rpAll _ _ hxs) k1 R.dom qf fun v xs' hxs' => ?_
        obtain ⟨R2, s2⟩ := R1.newL q hx hxs'
        have h : FlP F M W cv H O Ke (putL st j ds') := h
        rw [putL_eq] at h
        exact h σ _ O R2 ((hide_ex e1).trans s2)
def fApp (ds : List D) (rs : List RV) : Option (List D) := match rs with
  | [r] => if (r.keep && decide (ds.length < sizeLine)) = true then some (ds ++ [r.d]) else none
  | _ => none
def fExt (ds : List D) (rs : List RV) : Option (List D) := match rs with
  | [r] => match r.d with
    | .lst es => if ds.length + es.length ≤ sizeLine then some (ds ++ es) else none
    | _ => none
  | _ => none
theorem fApp_some {ds ds' : List D} {rs : List RV} (h : fApp ds rs = some ds') : ∃ r, rs = [r] ∧ r.keep = true ∧ ds.length < sizeLine ∧ ds' = ds ++ [r.d] := by
  unfold fApp at h
  split at h
  · split at h
    · cases h
      have := Bool.and_eq_true_iff.mp ‹_›
      exact ⟨_, rfl, this.1, of_decide_eq_true this.2, rfl⟩
    · cases h
  · cases h
theorem fExt_some {ds ds' : List D} {rs : List RV} (h : fExt ds rs = some ds') : ∃ r es, rs = [r] ∧ r.d = .lst es ∧ ds.length + es.length ≤ sizeLine ∧ ds' = ds ++ es := by
  unfold fExt at h
  split at h
  · split at h
    · split at h
      · cases h
        exact ⟨_, _, rfl, ‹_›, ‹_›, rfl⟩
      · cases h
    · cases h
  · cases h
theorem ResAll.single {K : PySem.W.Frag} {H H' : Hp} {O : Zone} {vs : List V} {r : RV} (h : ResAll K H H' O vs [r]) : ∃ v, vs = [v] ∧ ResOk K H H' O v r := by
  cases h with
  | cons h1 _ t => cases t; exact ⟨_, rfl, h1⟩
theorem s_append {da : DA} (hK : X.K = F.K) (hN : X.N[j]? = some x) (hv : Vis X.env.scope x) (hd : (x == ("__debug__" : Str)) = false) (hcd : (x == ("__classdict__" : Str)) = false) (ha : PA X [e] (TAx F W cv da))
    (hbase : attributeBase (.Name x p) "append" X.env (eval (.Name x p) X.env) = eval (.Name x p) X.env)
    (hfew : ((backTo cpos (starEach (e :: []) X.env)).all (fun x => !x.1) && (backToKw cpos (keywordEach [] X.env)).all (fun x => x.1.isSome) && decide ((e :: []).length + ([] : List Keyword).length + (if ([] : List Keyword).isEmpty then 0 else 1) < 30)) = true)
    (hline : (apos.endLine == cpos.line) = true) (hst : starEach (e :: []) X.env = (false, eval e X.env) :: starEach [] X.env) (hplain : (backTo cpos (starEach [] X.env)).any (·.1) = false)
    (hsw : swapsWith (.Call (.Attribute (.Name x p) "append" apos) [e] [] cpos) none pos.line X.env = pure false) :
    PS X (.Expr (.Call (.Attribute (.Name x p) "append" apos) [e] [] cpos) pos) (TSx F W cv (dMut j da fApp)) := by
  refine ps_w (ps_expr (pe_bm PySem.F.plainAttrs_list PySem.F.slot_list_append PySem.F.type_list_append mt_append (pe_var hN hv hd hcd) ha hbase hfew hline hst hplain) hsw) fun D σ H h => ?_
  rw [hK]
  refine t_mut h fun H0 H1 O a xs vs ds ds' rs Q h1 h2 h3 h4 h5 h6 => ?_
  obtain ⟨r, rfl, k1, k2, rfl⟩ := fApp_some h5
  obtain ⟨v, rfl, k3⟩ := h3.single
  exact ⟨a, xs, v, rfl, rfl, h1, by rw [h2.length]; exact k2, h6 _ _ (RpAll.append h2 (.cons (k3.rp (T := F.T) h4 k1) .nil))⟩
theorem s_extend {da : DA} (hK : X.K = F.K) (hN : X.N[j]? = some x) (hv : Vis X.env.scope x) (hd : (x == ("__debug__" : Str)) = false) (hcd : (x == ("__classdict__" : Str)) = false) (ha : PA X [e] (TAx F W cv da))
    (hbase : attributeBase (.Name x p) "extend" X.env (eval (.Name x p) X.env) = eval (.Name x p) X.env)
    (hfew : ((backTo cpos (starEach (e :: []) X.env)).all (fun x => !x.1) && (backToKw cpos (keywordEach [] X.env)).all (fun x => x.1.isSome) && decide ((e :: []).length + ([] : List Keyword).length + (if ([] : List Keyword).isEmpty then 0 else 1) < 30)) = true)
    (hline : (apos.endLine == cpos.line) = true) (hst : starEach (e :: []) X.env = (false, eval e X.env) :: starEach [] X.env) (hplain : (backTo cpos (starEach [] X.env)).any (·.1) = false)
    (hsw : swapsWith (.Call (.Attribute (.Name x p) "extend" apos) [e] [] cpos) none pos.line X.env = pure false) :
    PS X (.Expr (.Call (.Attribute (.Name x p) "extend" apos) [e] [] cpos) pos) (TSx F W cv (dMut j da fExt)) := by
  refine ps_w (ps_expr (pe_bm PySem.F.plainAttrs_list PySem.F.slot_list_extend PySem.F.type_list_extend mt_extend (pe_var hN hv hd hcd) ha hbase hfew hline hst hplain) hsw) fun D σ H h => ?_
  rw [hK]
  refine t_mut h fun H0 H1 O a xs vs ds ds' rs Q h1 h2 h3 h4 h5 h6 => ?_
  obtain ⟨r, es, rfl, k1, k2, rfl⟩ := fExt_some h5
  obtain ⟨v, rfl, k3⟩ := h3.single
  have kv := k3.vw (T := F.T)
  rw [k1] at kv
  obtain ⟨b, zs, rfl, z1, z2⟩ := kv.lst
  exact ⟨a, b, xs, zs, rfl, rfl, h1, z1, by rw [h2.length, z2.length]; exact k2, h6 _ _ (RpAll.append h2 z2)⟩
/-! ### pop -/
theorem RpAll.dropLast {K : PySem.W.Frag} {G : Hp} {vs : List V} {ds : List D} (h : RpAll K G vs ds) : RpAll K G vs.dropLast ds.dropLast := by
  rw [List.dropLast_eq_take, List.dropLast_eq_take, h.length]
  exact h.take _
def lastD : List D → Option D
  | [] => none
  | [d] => some d
  | _ :: d :: ds => lastD (d :: ds)
theorem lastD_get : ∀ {ds : List D} {d : D}, lastD ds = some d → ds[ds.length - 1]? = some d
  | [], _, h => by cases h
  | [d], _, h => by simpa [lastD] using h
  | _ :: d :: ds, _, h => by
    have := lastD_get (ds := d :: ds) (by simpa [lastD] using h)
    simpa using this
/-- the last one goes; p takes it -/
def popK (st : MSt) (j : Nat) (ds : List D) (p : Option Pat) (d : D) : Out Fl := match p with
  | none => putL st j ds.dropLast
  | some p => match setPat p d (st.set j (some (.own (.lst ds.dropLast)))) with
    | some st1 => .ok (.nx st1)
    | none => .bad
def popL (st : MSt) (j : Nat) (ds : List D) (p : Option Pat) : Out Fl := match lastD ds with
  | some d => popK st j ds p d
  | none => .bad
def dPop (j : Nat) (p : Option Pat) : DS := fun st => match ownL st j with
  | some ds => popL st j ds p
  | none => .bad
theorem t_pop {p : Option Pat} (h : TSx F W cv (dPop j p) Ke σ H) : tBM0 F.K "list" rPop (tVar j) σ H fun v H1 => match p with
    | none => Ke.nx σ H1
    | some p => gPat F.K p v σ H1 Ke.nx := by
  obtain ⟨M, st, O, R, h⟩ := h
  unfold dPop at h
  cases q : ownL st j with
  | none => rw [q] at h; exact h.elim
  | some ds =>
    rw [q] at h
    obtain ⟨a, xs, hx, hO, ha, hxs⟩ := R.ownAt q
    have h : FlP F M W cv H O Ke (popL st j ds p) := h
    unfold popL at h
    cases ql : lastD ds with
    | none => rw [ql] at h; exact h.elim
    | some d =>
      rw [ql] at h
      obtain ⟨y, g1, g2⟩ := hxs.get (lastD_get ql)
      obtain ⟨R2, s2⟩ := R.newL q hx hxs.dropLast
      have g2' := s2.rp _ _ g2
      refine ⟨.ref a, hx, .inl ⟨rfl, xs, .inl (.inl ha)⟩, a, xs, y, rfl, rfl, ha, by rw [hxs.length]; exact g1, ?_⟩
      cases p with
      | none =>
        have h : FlP F M W cv H O Ke (putL st j ds.dropLast) := h
        rw [putL_eq] at h
        exact h σ _ O R2 s2
      | some p =>
        have h : FlP F M W cv H O Ke (popK st j ds (some p) d) := h
        unfold popK at h
        simp only at h
        cases qp : setPat p d (st.set j (some (.own (.lst ds.dropLast)))) with
        | none => rw [qp] at h; exact h.elim
        | some st1 =>
          rw [qp] at h
          obtain ⟨σ', R', _, g⟩ := pat_ok p g2' qp R2
          exact g _ (h σ' _ O R' s2)
theorem s_popE (hK : X.K = F.K) (hN : X.N[j]? = some x) (hv : Vis X.env.scope x) (hd : (x == ("__debug__" : Str)) = false) (hcd : (x == ("__classdict__" : Str)) = false)
    (hbase : attributeBase (.Name x p) "pop" X.env (eval (.Name x p) X.env) = eval (.Name x p) X.env) (hline : (apos.endLine == cpos.line) = true)
    (hsw : swapsWith (.Call (.Attribute (.Name x p) "pop" apos) [] [] cpos) none pos.line X.env = pure false) :
    PS X (.Expr (.Call (.Attribute (.Name x p) "pop" apos) [] [] cpos) pos) (TSx F W cv (dPop j none)) := by
  refine ps_w (ps_expr (pe_bm0 PySem.F.plainAttrs_list PySem.F.slot_list_pop PySem.F.type_list_pop mt_pop (pe_var hN hv hd hcd) hbase hline) hsw) fun D σ H h => ?_
  rw [hK]
  exact t_pop h
theorem s_popP {pt : Pat} (hK : X.K = F.K) (hN : X.N[j]? = some x) (hv : Vis X.env.scope x) (hd : (x == ("__debug__" : Str)) = false) (hcd : (x == ("__classdict__" : Str)) = false)
    (hbase : attributeBase (.Name x p) "pop" X.env (eval (.Name x p) X.env) = eval (.Name x p) X.env) (hline : (apos.endLine == cpos.line) = true) (hg : PG X tg (gPat F.K pt))
    (hs : swapsWithSole [tg] (.Call (.Attribute (.Name x p) "pop" apos) [] [] cpos) pos.line X.env = pure false) (hw : swappedStores [tg] (.Call (.Attribute (.Name x p) "pop" apos) [] [] cpos) X.env = pure none) (h1 : (assignEach [tg] X.env).map (·.2) = [assign tg X.env]) :
    PS X (.Assign [tg] (.Call (.Attribute (.Name x p) "pop" apos) [] [] cpos) pos) (TSx F W cv (dPop j (some pt))) := by
  refine ps_w (ps_asg (pe_bm0 PySem.F.plainAttrs_list PySem.F.slot_list_pop PySem.F.type_list_pop mt_pop (pe_var hN hv hd hcd) hbase hline) hg hs hw h1) fun D σ H h => ?_
  rw [hK]
  exact t_pop h
/-! ### x[i] = e and x[i] += e -/
def putK (st : MSt) (j : Nat) (ds : List D) (r i : RV) : Out Fl := match i.d with
  | .int k => match ixN ds.length k with
    | some n => if r.keep = true then putL st j (ds.set n r.d) else .bad
    | none => .bad
  | _ => .bad
theorem putK_ok {st : MSt} {j : Nat} {ds : List D} {r i : RV} {M : Dm} (h : FlP F M W cv H O Ke (putK st j ds r i)) : ∃ k n, i.d = .int k ∧ ixN ds.length k = some n ∧ r.keep = true ∧ FlP F M W cv H O Ke (putL st j (ds.set n r.d)) := by
  unfold putK at h
  split at h
  · split at h
    · split at h
      · exact ⟨_, _, ‹_›, ‹_›, ‹_›, h⟩
      · exact h.elim
    · exact h.elim
  · exact h.elim
def dPut (j : Nat) (di de : DE) : DS := fun st => match ownL st j with
  | some ds => (de st).bind fun r => (di st).bind fun i => putK st j ds r i
  | none => .bad
theorem s_put {di de : DE} {ie : Expr} {tpos : Pos} (hN : X.N[j]? = some x) (hv : Vis X.env.scope x) (hd : (x == ("__debug__" : Str)) = false) (hcd : (x == ("__classdict__" : Str)) = false) (he : PE X e (TEx F W cv de)) (hi : PE X ie (TEx F W cv di))
    (ha : ∀ v, assign (.Subscript (.Name x p) ie tpos) X.env v = (do
      let ov ← holding [v] (eval (.Name x p) X.env)
      let iv ← holding [v, ov] (eval ie X.env)
      standAt tpos
      holding [v, ov, iv] (setItem ov iv v)
      release [v, ov, iv] []))
    (hs : swapsWithSole [.Subscript (.Name x p) ie tpos] e pos.line X.env = pure false) (hw : swappedStores [.Subscript (.Name x p) ie tpos] e X.env = pure none) (h1 : (assignEach [.Subscript (.Name x p) ie tpos] X.env).map (·.2) = [assign (.Subscript (.Name x p) ie tpos) X.env]) :
    PS X (.Assign [.Subscript (.Name x p) ie tpos] e pos) (TSx F W cv (dPut j di de)) := by
  refine ps_w (ps_asg he (pg_sub (pe_var hN hv hd hcd) hi set_list ha) hs hw h1) fun D σ H h => ?_
  obtain ⟨M, st, O, R, h⟩ := h
  unfold dPut at h
  cases q : ownL st j with
  | none => rw [q] at h; exact h.elim
  | some ds =>
    rw [q] at h
    obtain ⟨a, xs, hx, hO, ha, hxs⟩ := R.ownAt q
    refine ⟨M, st, O, R, ?_⟩
    have h : FlP F M W cv H O D ((de st).bind fun r => (di st).bind fun i => putK st j ds r i) := h
    cases qe : de st with
    | bad => rw [qe] at h; exact h.elim
    | exc c => rw [qe] at h; exact fun H' e => h σ H' (R.ex0.trans e)
    | ok r =>
      rw [qe] at h
      intro v H1 e1 k1
      have R1 := R.ex e1
      refine ⟨.ref a, hx, M, st, O, R1, ?_⟩
      have h : FlP F M W cv H O D ((di st).bind fun i => putK st j ds r i) := h
      cases qi : di st with
      | bad => rw [qi] at h; exact h.elim
      | exc c => rw [qi] at h; exact fun H' e => h σ H' (R1.ex0.trans e)
      | ok i =>
        rw [qi] at h
        intro w H2 e2 k2
        obtain ⟨k, n, z1, z2, z3, z4⟩ := putK_ok h
        rw [putL_eq] at z4
        have kv := k2.vw (T := F.T)
        rw [z1] at kv
        have e12 := e1.trans e2
        have hxs2 := (hide_ex e12).rpAll _ _ hxs
        obtain ⟨R3, s3⟩ := (R.ex e12).newL q hx (RpAll.set ((k1.ex e2).rp (T := F.T) R.dom z3) n hxs2)
        exact ⟨a, xs, k, n, rfl, kv.int, e12.ext _ _ ha (fun ps z => nomatch z), by rw [hxs.length]; exact z2, z4 σ _ O R3 ((hide_ex e12).trans s3)⟩
def augK (f : Int → Int → Int) (st : MSt) (j : Nat) (ds : List D) (i r : RV) : Out Fl := match i.d, r.d with
  | .int k, .int y => match ixN ds.length k with
    | some n => match ds[n]? with
      | some (.int x) => putL st j (ds.set n (.int (f x y)))
      | _ => .bad
    | none => .bad
  | _, _ => .bad
theorem augK_ok {f : Int → Int → Int} {st : MSt} {j : Nat} {ds : List D} {r i : RV} {M : Dm} (h : FlP F M W cv H O Ke (augK f st j ds i r)) : ∃ k n x y, i.d = .int k ∧ r.d = .int y ∧ ixN ds.length k = some n ∧ ds[n]? = some (.int x) ∧ FlP F M W cv H O Ke (putL st j (ds.set n (.int (f x y)))) := by
  unfold augK at h
  split at h
  · split at h
    · split at h
      · exact ⟨_, _, _, _, ‹_›, ‹_›, ‹_›, ‹_›, h⟩
      · exact h.elim
    · exact h.elim
  · exact h.elim
def dAug (f : Int → Int → Int) (j : Nat) (di de : DE) : DS := fun st => match ownL st j with
  | some ds => (di st).bind fun i => (de st).bind fun r => augK f st j ds i r
  | none => .bad
/-- the index is good before the right side is looked at -/
def ixOk (ds : List D) (i : RV) : Bool := match i.d with
  | .int k => (atI ds k).isSome
  | _ => false
def dAugS (f : Int → Int → Int) (j : Nat) (di de : DE) : DS := fun st => match ownL st j with
  | some ds => (di st).bind fun i => if ixOk ds i = true then ((de st).bind fun r => augK f st j ds i r) else .bad
  | none => .bad
theorem ixOk_of {ds : List D} {i : RV} (h : ixOk ds i = true) : ∃ k d, i.d = .int k ∧ atI ds k = some d := by
  unfold ixOk at h
  split at h
  · obtain ⟨d, hd⟩ := Option.isSome_iff_exists.mp h
    exact ⟨_, d, ‹_›, hd⟩
  · cases h
theorem s_augS {di de : DE} {ie : Expr} {tpos : Pos} {op : Operator} {f : Int → Int → Int} (hK : X.K = F.K) (hip : PIp X op (ipI f)) (hN : X.N[j]? = some x) (hv : Vis X.env.scope x) (hd : (x == ("__debug__" : Str)) = false) (hcd : (x == ("__classdict__" : Str)) = false) (he : PE X e (TEx F W cv de)) (hi : PE X ie (TEx F W cv di))
    (ha : ∀ ov iv new, augStore ie ov iv new = (do holding [new, ov, iv] (setItem ov iv new); release [new, ov, iv] []; pure .next)) :
    PS X (.AugAssign (.Subscript (.Name x p) ie tpos) op e pos) (TSx F W cv (dAugS f j di de)) := by
  refine ps_w (ps_augS (pe_var hN hv hd hcd) hi get_list he hip set_list ha) fun D σ H h => ?_
  rw [hK]
  obtain ⟨M, st, O, R, h⟩ := h
  unfold dAugS at h
  cases q : ownL st j with
  | none => rw [q] at h; exact h.elim
  | some ds =>
    rw [q] at h
    obtain ⟨a, xs, hx, hO, ha, hxs⟩ := R.ownAt q
    refine ⟨.ref a, hx, M, st, O, R, ?_⟩
    have h : FlP F M W cv H O D ((di st).bind fun i => if ixOk ds i = true then ((de st).bind fun r => augK f st j ds i r) else .bad) := h
    cases qi : di st with
    | bad => rw [qi] at h; exact h.elim
    | exc c => rw [qi] at h; exact fun H' e => h σ H' (R.ex0.trans e)
    | ok i =>
      rw [qi] at h
      intro w H1 e1 k1
      have R1 := R.ex e1
      have h : FlP F M W cv H O D (if ixOk ds i = true then ((de st).bind fun r => augK f st j ds i r) else .bad) := h
      by_cases hk : ixOk ds i = true
      · rw [if_pos hk] at h
        obtain ⟨k, d, z1, z2⟩ := ixOk_of hk
        have kv := k1.vw (T := F.T)
        rw [z1] at kv
        have hw := kv.int
        subst hw
        have hxs1 := (hide_ex e1).rpAll _ _ hxs
        obtain ⟨v0, z3, z4⟩ := atI_rp hxs1 z2
        refine ⟨a, xs, k, v0, rfl, rfl, .inl (.inl (e1.ext _ _ ha fun ps z => nomatch z)), z3, M, st, O, R1, ?_⟩
        cases qe : de st with
        | bad => rw [qe] at h; exact h.elim
        | exc c => rw [qe] at h; exact fun H' e => h σ H' (R1.ex0.trans e)
        | ok r =>
          rw [qe] at h
          intro y H2 e2 k2
          obtain ⟨k', n, x0, y0, g1, g2, g3, g4, g5⟩ := augK_ok h
          rw [putL_eq] at g5
          rw [z1] at g1
          cases g1
          have e12 := e1.trans e2
          have hxs2 := (hide_ex e12).rpAll _ _ hxs
          have kv2 := k2.vw (T := F.T)
          rw [g2] at kv2
          have hy := kv2.int
          subst hy
          have ed : d = .int x0 := by
            unfold atI at z2
            rw [g3] at z2
            have : ds[n]? = some d := z2
            rw [g4] at this
            exact (Option.some.inj this).symm
          subst ed
          cases z4
          obtain ⟨R3, s3⟩ := (R.ex e12).newL q hx (RpAll.set (.int (f x0 y0)) n hxs2)
          exact ⟨x0, y0, rfl, rfl, a, xs, k, n, rfl, rfl, e12.ext _ _ ha (fun ps z => nomatch z), by rw [hxs.length]; exact g3, g5 σ _ O R3 ((hide_ex e12).trans s3)⟩
      · rw [if_neg hk] at h
        exact h.elim
end
end Mini

set_option Elab.async false
set_option linter.all false
set_option maxRecDepth 100000
/-! Mini 13: defs and calls; raise. -/
namespace Mini
open PySem L2 LamX PySem.Spec PyProof.Rows
/-- a def's promise: what f tells of data -/
def spD (F : Fm) (cv : Str → Value) (n : Nat) (f : List D → Out RV) : Sp := fun vs H Q E => vs.length = n ∧ ∃ O ds, Dom H O ∧ Tabs F.T H ∧ RpAll F.K (hide H O) vs ds ∧
  OutP (f ds) (fun r => ∀ v H', Ex F.T H H' → ResOk F.K H H' O v r → Q v H') (fun c => ∀ H', Ex F.T H H' → E (cv c) none H')
/-- data kept as it is, however the heap stands -/
def okRes : Out RV → Out RV
  | .ok r => if r.d.scal = true then .ok ⟨.fz, r.d⟩ else .bad
  | .exc c => .exc c
  | .bad => .bad
def dCall (f : List D → Out RV) (da : DA) : DE := fun st => (da st).bind fun rs => if keepAll rs = true then f (dataOf rs) else okRes (f (dataOf rs))
def noDicts : List RV → Bool
  | [] => true
  | r :: rs => noDict r.d && noDicts rs
def dCallB (f : List D → Out RV) (da : DA) : DE := fun st => (da st).bind fun rs => if keepAll rs = true then f (dataOf rs) else if noDicts rs = true then okRes (f (dataOf rs)) else .bad
theorem Rp.scal_any {K : PySem.W.Frag} {G G' : Hp} {v : V} {d : D} (h : Rp K G v d) (s : d.scal = true) : Rp K G' v d := by
  cases h with
  | non => exact .non
  | bl b => exact .bl b
  | int i => exact .int i
  | str x => exact .str x
  | lst _ _ => cases s
  | tup _ _ => cases s
  | scr _ => cases s
section
variable {F : Fm} {M : Dm} {W : WX} {cv : Str → Value} {X : Cx} {e a b c tg : Expr} {es : List Expr} {pos p : Pos} {σ : L2.St} {H H1 : Hp} {O O1 : Zone} {x : Str} {j : Nat}
theorem ResAll.get {K : PySem.W.Frag} {H H' : Hp} {O : Zone} : ∀ {vs : List V} {rs : List RV}, ResAll K H H' O vs rs → ∀ {O1 : Zone}, (∀ b, O1 b → O b) → (∀ b, .ref b ∈ vs → ¬ O1 b) → noDicts rs = true → RpAll K (hide H' O1) vs (dataOf rs)
  | _, _, .nil, _, _, _, _ => .nil
  | _, _, .cons (x := x) (r := r) h _ t, O1, h1, h2, nd => by
    have nd' := Bool.and_eq_true_iff.mp nd
    refine .cons ?_ (ResAll.get t h1 (fun b z => h2 b (List.mem_cons_of_mem _ z)) nd'.2)
    have s : Sub (hide H' O) (hide H' O1) := hide_mono (T := []) (Ex.refl _) fun b z => .inl (h1 b z)
    rcases h.vw (T := []) with ⟨a, rfl, z⟩ | z
    · have na := h2 a List.mem_cons_self
      cases hd : r.d with
      | lst ds =>
        rw [hd] at z
        obtain ⟨xs, z1, z2⟩ := z
        show Rp K (hide H' O1) (V.ref a) r.d
        rw [hd]
        exact .lst (hide_some.mpr ⟨na, z1⟩) (s.rpAll _ _ z2)
      | dic kvs => rw [hd] at nd'; cases nd'.1
      | _ => rw [hd] at z; exact z.elim
    · exact s.rp _ _ z
theorem t_call {n : Nat} {f : List D → Out RV} {da : DA} {Q : VK} (hn : ∀ st rs, da st = .ok rs → rs.length = n) (h : TEx F W cv (dCallB f da) σ H Q) : tCallS (spD F cv n f) (WE W) (TAx F W cv da) σ H Q := by
  obtain ⟨M, st, O, R, h⟩ := h
  refine ⟨M, st, O, R, ?_⟩
  have h : OutP ((da st).bind fun rs => if keepAll rs = true then f (dataOf rs) else if noDicts rs = true then okRes (f (dataOf rs)) else .bad) (fun r => ∀ x H', Ex F.T H H' → okE F H H' O x r → Q x H') (fun c => ∀ H', Ex F.T H H' → W (cv c) none σ H') := h
  cases q : da st with
  | bad => rw [q] at h; exact h.elim
  | exc c => rw [q] at h; exact h
  | ok rs =>
    rw [q] at h
    intro vs H1 e1 k1
    have R1 := R.ex e1
    refine ⟨by rw [k1.length]; exact hn st rs q, ?_⟩
    have h : OutP (if keepAll rs = true then f (dataOf rs) else if noDicts rs = true then okRes (f (dataOf rs)) else .bad) (fun r => ∀ x H', Ex F.T H H' → okE F H H' O x r → Q x H') (fun c => ∀ H', Ex F.T H H' → W (cv c) none σ H') := h
    by_cases hk : keepAll rs = true
    · rw [if_pos hk] at h
      refine ⟨O, dataOf rs, R1.dom, R1.tabs, k1.rp (T := F.T) R.dom hk, h.mono (fun r _ h v H' e k => h v H' (e1.trans e) (k.back e1)) fun c _ h H' e => h H' (e1.trans e)⟩
    · rw [if_neg hk] at h
      by_cases hd : noDicts rs = true
      · rw [if_pos hd] at h
        refine ⟨fun b => O b ∧ .ref b ∉ vs, dataOf rs, fun b z => R1.dom b z.1, R1.tabs, k1.get (fun b z => z.1) (fun b z q => q.2 z) hd, ?_⟩
        cases hf : f (dataOf rs) with
        | bad => rw [hf] at h; exact h.elim
        | exc c => rw [hf] at h; exact fun H' e => h H' (e1.trans e)
        | ok r =>
          rw [hf] at h
          have h : OutP (if r.d.scal = true then Out.ok (⟨.fz, r.d⟩ : RV) else .bad) (fun r => ∀ x H', Ex F.T H H' → okE F H H' O x r → Q x H') (fun c => ∀ H', Ex F.T H H' → W (cv c) none σ H') := h
          obtain ⟨hs, h⟩ := h.ite
          intro v H' e k
          refine h v H' (e1.trans e) ?_
          rcases k.vw (T := F.T) with ⟨a, _, z⟩ | z
          · obtain ⟨kk, d⟩ := r
            cases d with
            | lst ds => cases hs
            | dic ds => cases hs
            | _ => exact z.elim
          · exact z.scal_any hs
      · rw [if_neg hd] at h
        exact h.elim
def dLen : Nat → DA → Prop := fun n da => ∀ st rs, da st = .ok rs → rs.length = n
theorem dLen_nil : dLen 0 dNil := fun st rs h => by cases h; rfl
theorem dLen_cons {n : Nat} {de : DE} {dr : DA} (h : dLen n dr) : dLen (n + 1) (dCons de dr) := fun st rs q => by
  unfold dCons at q
  cases h1 : de st with
  | bad => rw [h1] at q; cases q
  | exc c => rw [h1] at q; cases q
  | ok r =>
    rw [h1] at q
    have q : ((dr st).bind fun rs => .ok (r :: rs)) = Out.ok rs := q
    cases h2 : dr st with
    | bad => rw [h2] at q; cases q
    | exc c => rw [h2] at q; cases q
    | ok rs' =>
      rw [h2] at q
      cases q
      simp [h st rs' h2]
/-- what the top has written of a def: its promise and its name -/
structure FnD (P : Program) (w : World) (mg : Str → Option Value) (base : Heap) (F : Fm) (cv : Str → Value) (k : Nat) (x : Str) (ps : List Str) (f : List D → Out RV) : Prop where
  ex : ∃ a fd, FnOk P w F.K mg base (L2.CX P w) k a fd ps (spD F cv ps.length f) ∧ mg x = some (.ref a) ∧ PySem.W.keepIn F.K (.ref a) = true ∧ Binds F.K fd ps []
theorem s_call {k : Nat} {ps : List Str} {f : List D → Out RV} {da : DA} (hK : X.K = F.K) (FN : FnD X.prog X.w X.mg X.base F cv k x ps f) (hr : Room k X.A) (hg : Gl X x) (tk : Takes X W) (hn : dLen ps.length da) (ha : PA X (e :: es) (TAx F W cv da))
    (hdb : (x == ("__debug__" : Str)) = false) (he : starEach (e :: es) X.env = (false, eval e X.env) :: starEach es X.env) (hpl : (backTo pos (starEach es X.env)).any (·.1) = false) :
    PE X (.Call (.Name x p) (e :: es) [] pos) (TEx F W cv (dCallB f da)) := by
  obtain ⟨a, fd, h1, h2, h3, h4⟩ := FN.ex
  rw [← hK] at h1 h3 h4
  exact pe_w (pe_callS h1 hr hg h2 h3 h4 (fun σ => passAt tk σ) ha hdb he hpl) fun σ H Q h => t_call hn h
/-! ### defs -/
def startM (n : Nat) (ds : List D) : MSt := ds.map (fun d => some (.fz d)) ++ List.replicate (n - ds.length) none
def runD (n : Nat) (body : DS) (ds : List D) : Out RV := match forceL2 ds (fun ds => forceS (startM n ds) body) with
  | .ok (.nx _) => .ok ⟨.fz, .non⟩
  | .ok (.rt r) => .ok r
  | .ok _ => .bad
  | .exc c => .exc c
  | .bad => .bad
theorem start_rel {N : List Str} {vs : List V} {ds : List D} {T : List (Addr × Str)} (hd : Dom H O) (ht : Tabs F.T H) (h : RpAll F.K (hide H O) vs ds) : Rel F ⟨O, H⟩ (startM N.length ds) (L2.start N vs) H O := by
  refine ⟨fun _ z => z, hd, ht, Ex.refl H, ?_, fun i v e => ?_, fun i j d d' a e => ?_⟩
  · unfold startM L2.start
    simp [h.length]
  · unfold startM at e
    by_cases hi : i < ds.length
    · rw [List.getElem?_append_left (by simpa using hi), List.getElem?_map, List.getElem?_eq_getElem hi] at e
      cases e
      obtain ⟨y, q1, q2⟩ := h.get (List.getElem?_eq_getElem hi)
      refine ⟨y, ?_, q2⟩
      unfold L2.start
      rw [List.getElem?_append_left (by simpa [h.length] using hi), List.getElem?_map, q1]
      rfl
    · rw [List.getElem?_append_right (by simpa using hi)] at e
      have := List.mem_of_getElem? e
      rw [List.mem_replicate] at this
      cases this.2
  · unfold startM at e
    by_cases hi : i < ds.length
    · rw [List.getElem?_append_left (by simpa using hi), List.getElem?_map, List.getElem?_eq_getElem hi] at e
      cases e
    · rw [List.getElem?_append_right (by simpa using hi)] at e
      have := List.mem_of_getElem? e
      rw [List.mem_replicate] at this
      cases this.2
/-- a def's body read: its promise -/
theorem okD {P : Program} {w : World} {mg : Str → Option Value} {base : Heap} {qual : Str} {st : Stmt} {f : Addr} {fd : FuncData} {N ps : List Str} {k : Nat} {body : DS} (Fn : Fun F.K x qual st f fd) (S : FnScope N ps (defScope st))
    (hb : ∀ (cdv : Value) (A : Around) (outer : List Env) (s : Shared) (H : Hp) (E : XK), Room k (A.deeper (envOfC qual (defScope st) s.heap.objs.size f cdv)) → PSs (cxOf (L2.CX P w) P w F.K mg base N qual (defScope st) f cdv A outer s H E) (defBody st) (TSx F (fun cls d _ H => E cls d H) cv body)) :
    FnOk P w F.K mg base (L2.CX P w) (k + 1) f fd ps (spD F cv ps.length (runD N.length body)) := by
  refine Fn.okX S (fun vs H Q E h => h.1) fun cdv A outer s H vs Q E hr h => ?_
  obtain ⟨hl, O, ds, h1, h2, h3, h4⟩ := h
  refine ⟨_, hb cdv A outer s H E hr, ⟨O, H⟩, _, O, start_rel (T := F.T) h1 h2 h3, ?_⟩
  unfold runD at h4
  rw [forceL2_eq, forceS_eq] at h4
  cases q : body (startM N.length ds) with
  | bad => rw [q] at h4; exact h4.elim
  | exc c => rw [q] at h4; exact fun σ' H' e => h4 H' e
  | ok fl =>
    rw [q] at h4
    cases fl with
    | nx st => exact fun σ' H' O' R _ => h4 .non H' R.ex0 .non
    | rt r => exact fun v H' q => h4 v H' q.1 q.2
    | bk st => exact h4.elim
    | ct st => exact h4.elim
/-! ### raise -/
structure ExcD (K : PySem.W.Frag) (mg : Str → Option Value) (cv : Str → Value) (c : Str) : Prop where
  ex : ∃ C bmB B newId initId, cv c = .ref C ∧ ExcBaseFacts B newId initId bmB ∧ PySem.W.excIn K C bmB newId = true ∧ mg c = some (.ref C) ∧ PySem.W.keepIn K (.ref C) = true ∧ PySem.W.subIn K (.ref C) (.type "BaseException") = some true ∧ PySem.W.typeIn K (.ref C) = some (.type "type")
def dRaise (c : Str) : DS := fun _ => .exc c
theorem s_raise {m : Str} {j : Nat} {p2 p3 : Pos} (E : ExcD X.K X.mg cv x) (hc : X.calm = true) (tk : Takes X W) (hg : Gl X x) (hdb : (x == ("__debug__" : Str)) = false) : PS X (.Raise (some (.Call (.Name x p) [.Constant (.str m) j p2] [] p3)) none pos) (TSx F W cv (dRaise x)) := by
  obtain ⟨C, bmB, B, newId, initId, h1, h2, h3, h4, h5, h6, h7⟩ := E.ex
  refine ps_w (ps_raise hc tk (pmk_own h2 h3 h4 h5 (raises_own h6 h7) hg hdb)) fun D σ H ⟨M, st, O, R, h⟩ => ?_
  have := h σ H R.ex0
  rw [h1] at this
  exact this
theorem takesWb {X : Cx} : Takes X Wb := fun _ _ x => by
  obtain ⟨_, _, _, _, _, _, _, _, _, _, _, _, _, _, _, _, z⟩ := x
  exact z.elim
end
end Mini

set_option Elab.async false
set_option linter.all false
set_option maxRecDepth 100000
/-! Mini 14: in, sorted, tuples and lists of ranges, xs[::-1], tuples repeated. -/
namespace Mini
open PySem L2 LamX PySem.Spec PyProof.Rows
/-! ### tuples repeated -/
/-- t * 1 is t -/
theorem tuple_mul1 (l : Addr) (items : Array Value) (n : Nat) (dd : Option Addr) (sl : Array (Option Value)) (u : Tok) :
    Meets (Builtin.«tuple.__mul__» ⟨[.ref l, .int 1 u], []⟩) (fun _ R s => s.heap.get? l = some { cls := .type "tuple", dict := dd, data := .seq items n, slots := sl } ∧
      R (.ok (.ret (Value.ref l))) s) :=
  .of_wp fun prog w A R s h => by
    obtain ⟨hp, g, d, tk, os⟩ := s
    obtain ⟨hl, h⟩ := h
    have f1 := AutoSeq1.idx_int
    have c1 : (items.isEmpty || (1 : Int) == 1) = true := by simp
    have c0 : (decide ((1 : Int) < -(2 ^ 63)) || decide ((1 : Int) ≥ 2 ^ 63)) = false := by decide
    wp_walk using wpAny_loadPart' hl
    repeat (first
      | (refine wpAny_ite_false (decide_eq_false (by rw [c0]; exact Bool.false_ne_true)) ?_; wp_walk using wpAny_loadPart' hl)
      | (refine wpAny_ite_true (decide_eq_true (by rw [c1])) ?_; wp_walk using wpAny_loadPart' hl))
    exact ⟨_, rfl, h⟩
def rRep1 (K : PySem.W.Frag) : R2 := fun x y H Q => ∃ l xs, x = .ref l ∧ y = .int 1 ∧ SqT K H l xs ∧ Q x H
theorem op_rep1 {X : Cx} : OpR X (binaryOp .Mult) (rRep1 X.K) := by
  intro pins s σ H x y v u Q I rx ry h
  obtain ⟨l, xs, rfl, rfl, hT, q⟩ := h
  cases rx
  obtain ⟨t, rfl⟩ := ry
  obtain ⟨its, r, ⟨⟨cls, dd, data, sl⟩, ho, hc, n, hd⟩, hs⟩ := I.tuple hT
  simp only at hc hd
  subst hc hd
  exact wpAny_binaryOp_repeat_ref (T := "tuple") (U := "int") (by decide) ⟨_, ho, rfl⟩ (fun s' => typeIs_int s' 1 t) noFill_tuple_mul F.fills_int_mul F.slot_int_rmul repeat_tuple F.slot_int_index.lookup
    (call_meets F.slot_int_rmul (typeIs_int s 1 t) F.entry_int_rmul (F.args_int_rmul_2 _ _) (int_rmul_tuple 1 t l its.toArray n dd sl)
      ⟨ho, rfl, ⟨_, ho, rfl⟩, call_meets F.slot_tuple_mul ⟨_, ho, rfl⟩ F.entry_tuple_mul (F.args_tuple_mul_2 _ _) (tuple_mul1 l its.toArray n dd sl t) ⟨ho, ⟨.ref l, H, I, rfl, q⟩⟩⟩)
section
variable {K : PySem.W.Frag} {T : List (Addr × Str)}
def rep1 : D → D → Option RV
  | .tup xs, .int k => if k = 1 then some (rz (.tup xs)) else none
  | _, _ => none
theorem sim_rep1 : OpSim K T (rRep1 K) rep1 := by
  intro O H x y dx dy t Q hd v w q k
  unfold rep1 at q
  split at q
  · split at q
    · rename_i hf
      cases q
      subst hf
      have v' := v
      obtain ⟨a, xs, rfl, h1, h2⟩ := v.tup
      refine ⟨a, xs, rfl, w.int, SqT.of h1, k _ H (Ex.refl H) ?_⟩
      rcases v' with ⟨_, _, z⟩ | z
      · exact z.elim
      · exact z
    · cases q
  · cases q
theorem sim_repT : OpSim K T (rRepT K) repT := by
  intro O H x y dx dy t Q hd v w q k
  unfold repT at q
  split at q
  · split at q
    · rename_i hf
      cases q
      simp only [Bool.and_eq_true, decide_eq_true_eq, Bool.not_eq_true'] at hf
      obtain ⟨⟨⟨f1, f2⟩, f3⟩, f4⟩ := hf
      obtain ⟨a, xs, rfl, h1, h2⟩ := v.tup
      refine ⟨a, _, xs, rfl, w.int, SqT.of h1, fun z => ?_, f2, f3, by rw [h2.length]; exact f4, fun p hp => ?_⟩
      · subst z
        cases h2
        cases f1
      · exact k _ _ (Ex.new hp) (new_tup hp hd (h2.rep _))
    · cases q
  · cases q
/-- * -/
def mulA (a b : D) : Option RV := match mulD a b with
  | some t => some t
  | none => match rep1 a b with
    | some t => some t
    | none => repT a b
abbrev rMulA (K : PySem.W.Frag) : R2 := fun x y H Q => (rI CMul (fun i j => .int (i * j)) x y H Q ∨ rRep x y H Q) ∨ (rRep1 K x y H Q ∨ rRepT K x y H Q)
theorem op_mulA {X : Cx} : OpR X (binaryOp .Mult) (rMulA X.K) := op_mulD.or (op_rep1.or op_repT)
theorem sim_mulA : OpSim K T (rMulA K) mulA := OpSim.or sim_mulD (OpSim.or sim_rep1 sim_repT)
/-! ### == with short ways -/
def isIL : List D → Bool
  | [] => true
  | .int _ :: r => isIL r
  | _ :: _ => false
def eqIL : List D → List D → Bool
  | [], [] => true
  | .int i :: as, .int j :: bs => decide (i = j) && eqIL as bs
  | _, _ => false
theorem isIL_lay : ∀ {ds : List D}, isIL ds = true → PyData.canLayAll0 (D.pyAll ds) = true ∧ PyData.depthAll (D.pyAll ds) ≤ 0
  | [], _ => ⟨rfl, by decide⟩
  | .int i :: r, h => by
    obtain ⟨h1, h2⟩ := isIL_lay (ds := r) h
    exact ⟨by show (true && _) = true; rw [h1]; rfl, by show max 0 (PyData.depthAll (D.pyAll r)) ≤ 0; omega⟩
  | .non :: _, h => by cases h
  | .bl _ :: _, h => by cases h
  | .str _ :: _, h => by cases h
  | .tup _ :: _, h => by cases h
  | .lst _ :: _, h => by cases h
  | .dic _ :: _, h => by cases h
  | .scr _ :: _, h => by cases h
theorem isIL_map : ∀ {ds : List D}, isIL ds = true → ∃ ns : List Int, ds = ns.map D.int
  | [], _ => ⟨[], rfl⟩
  | .int i :: r, h => by
    obtain ⟨ns, e⟩ := isIL_map (ds := r) h
    exact ⟨i :: ns, by rw [e]; rfl⟩
  | .non :: _, h => by cases h
  | .bl _ :: _, h => by cases h
  | .str _ :: _, h => by cases h
  | .tup _ :: _, h => by cases h
  | .lst _ :: _, h => by cases h
  | .dic _ :: _, h => by cases h
  | .scr _ :: _, h => by cases h
theorem eqIL_py : ∀ (ns ms : List Int), PyData.eqvAll (D.pyAll (ns.map D.int)) (D.pyAll (ms.map D.int)) = eqIL (ns.map D.int) (ms.map D.int)
  | [], [] => rfl
  | [], _ :: _ => rfl
  | _ :: _, [] => rfl
  | n :: ns, m :: ms => by
    show ((n == m) && PyData.eqvAll _ _) = (decide (n = m) && eqIL _ _)
    rw [eqIL_py ns ms]
    rfl
def eqF (neg : Bool) : D → D → Option RV
  | .int i, .int j => some (rz (.bl (if neg then !decide (i = j) else decide (i = j))))
  | .tup as, .tup bs => if (isIL as && isIL bs) = true then some (rz (.bl (if neg then !eqIL as bs else eqIL as bs))) else eqV' neg (.tup as) (.tup bs)
  | .lst as, .lst bs => if (isIL as && isIL bs) = true then some (rz (.bl (if neg then !eqIL as bs else eqIL as bs))) else eqV' neg (.lst as) (.lst bs)
  | a, b => eqV' neg a b
theorem eqF_eq {neg : Bool} (a b : D) (t : RV) (h : eqF neg a b = some t) : eqV' neg a b = some t := by
  unfold eqF at h
  split at h
  · cases h
    rename_i i j
    show (if _ then some _ else none) = _
    rw [if_pos (by rfl)]
    rfl
  · rename_i as bs
    by_cases hk : (isIL as && isIL bs) = true
    · rw [if_pos hk] at h
      have hk' := Bool.and_eq_true_iff.mp hk
      obtain ⟨a1, a2⟩ := isIL_lay hk'.1
      obtain ⟨b1, b2⟩ := isIL_lay hk'.2
      obtain ⟨ns, rfl⟩ := isIL_map hk'.1
      obtain ⟨ms, rfl⟩ := isIL_map hk'.2
      cases h
      have sh : ∀ l : List Int, PyData.canLayAll0 (D.pyAll (l.map D.int)) = true → PyData.depthAll (D.pyAll (l.map D.int)) ≤ 0 → shaped (.tup (l.map D.int)) = true := fun l q1 q2 => by
        show ((PyData.canLayAll0 _ && decide (PyData.depthAll _ + 1 ≤ 64)) && true) = true
        rw [q1, decide_eq_true (by omega)]
        rfl
      unfold eqV'
      rw [if_pos (by rw [sh ns a1 a2, sh ms b1 b2]; rfl)]
      show some (rz (.bl (if neg = true then !PyData.eqvAll _ _ else PyData.eqvAll _ _))) = _
      rw [eqIL_py]
    · rw [if_neg hk] at h
      exact h
  · rename_i as bs
    by_cases hk : (isIL as && isIL bs) = true
    · rw [if_pos hk] at h
      have hk' := Bool.and_eq_true_iff.mp hk
      obtain ⟨a1, a2⟩ := isIL_lay hk'.1
      obtain ⟨b1, b2⟩ := isIL_lay hk'.2
      obtain ⟨ns, rfl⟩ := isIL_map hk'.1
      obtain ⟨ms, rfl⟩ := isIL_map hk'.2
      cases h
      have sh : ∀ l : List Int, PyData.canLayAll0 (D.pyAll (l.map D.int)) = true → PyData.depthAll (D.pyAll (l.map D.int)) ≤ 0 → shaped (.lst (l.map D.int)) = true := fun l q1 q2 => by
        show ((PyData.canLayAll0 _ && decide (PyData.depthAll _ + 1 ≤ 64)) && true) = true
        rw [q1, decide_eq_true (by omega)]
        rfl
      unfold eqV'
      rw [if_pos (by rw [sh ns a1 a2, sh ms b1 b2]; rfl)]
      show some (rz (.bl (if neg = true then !PyData.eqvAll _ _ else PyData.eqvAll _ _))) = _
      rw [eqIL_py]
    · rw [if_neg hk] at h
      exact h
  · exact h
theorem sim_eqF : OpSim K T (rEqD K) (eqF false) := sim_eq.weak fun a b t h => eqF_eq a b t h
theorem sim_neF : OpSim K T (rNeD K) (eqF true) := sim_ne.weak fun a b t h => eqF_eq a b t h
/-! ### in -/
def flatD (d : D) : Bool := d.scal
def allScal : List D → Bool
  | [] => true
  | d :: ds => d.scal && allScal ds
def eqS : D → D → Bool
  | .non, .non => true
  | .bl a, .bl b => a == b
  | .bl a, .int b => (if a then 1 else 0) == b
  | .int a, .bl b => a == (if b then 1 else 0)
  | .int a, .int b => a == b
  | .str a, .str b => a == b
  | _, _ => false
def anyS (d : D) : List D → Bool
  | [] => false
  | x :: xs => eqS x d || anyS d xs
def seqD : D → Option (List D)
  | .lst ds => some ds
  | .tup ds => some ds
  | .scr ns => some (ns.map D.int)
  | _ => none
def inS (neg : Bool) (a b : D) : Option RV := match seqD b with
  | some ds => if (a.scal && allScal ds) = true then some (rz (.bl (if neg then !anyS a ds else anyS a ds))) else none
  | none => none
theorem Rp.scalV {G : Hp} {v : V} {d : D} (h : Rp K G v d) (s : d.scal = true) : v = d.v := by
  cases h with
  | non => rfl
  | bl b => rfl
  | int i => rfl
  | str x => rfl
  | lst _ _ => cases s
  | tup _ _ => cases s
  | scr _ => cases s
theorem flat_v {d : D} (s : d.scal = true) : flatV d.v = true := by cases d <;> first | rfl | cases s
theorem eqS_v {d e : D} (s : d.scal = true) (s' : e.scal = true) : eqV d.v e.v = eqS d e := by
  cases d <;> cases e <;> first | rfl | (cases s'; done) | (cases s; done)
theorem any_v {G : Hp} {d : D} (s : d.scal = true) : ∀ {vs : List V} {ds : List D}, RpAll K G vs ds → allScal ds = true → vs.all flatV = true ∧ inV d.v vs = anyS d ds
  | [], [], _, _ => ⟨rfl, rfl⟩
  | [], _ :: _, h, _ => by cases h
  | _ :: _, [], h, _ => by cases h
  | v :: vs, e :: es, h, a => by
    cases h with
    | cons h1 h2 =>
      have a' := Bool.and_eq_true_iff.mp a
      have := h1.scalV a'.1
      subst this
      obtain ⟨q1, q2⟩ := any_v s h2 a'.2
      refine ⟨?_, ?_⟩
      · rw [List.all_cons, flat_v a'.1, q1]
        rfl
      · show (eqV e.v d.v || inV d.v vs) = _
        rw [q2, eqS_v a'.1 s]
        rfl
theorem Vw.scalV {H : Hp} {O : Zone} {x : V} {d : D} (v : Vw K H O x d) (s : d.scal = true) : x = d.v := by
  rcases v with ⟨a, _, z⟩ | z
  · cases d <;> first | exact z.elim | cases s
  · exact z.scalV s
theorem Vw.seq {H : Hp} {O : Zone} {x : V} {d : D} {ds : List D} (v : Vw K H O x d) (e : seqD d = some ds) : ∃ a xs, x = .ref a ∧ (SqL K H a xs ∨ SqT K H a xs) ∧ RpAll K (hide H O) xs ds := by
  cases d with
  | lst ds' => cases e; obtain ⟨a, xs, h1, h2, h3⟩ := v.lst; exact ⟨a, xs, h1, .inl (.inl (.inl h2)), h3⟩
  | tup ds' => cases e; obtain ⟨a, xs, h1, h2, h3⟩ := v.tup; exact ⟨a, xs, h1, .inr (.inl (.inl h2)), h3⟩
  | scr ns => cases e; obtain ⟨a, h1, h2⟩ := v.scr; exact ⟨a, _, h1, .inl h2, RpAll.ints⟩
  | _ => cases e
theorem sim_inS {neg : Bool} : OpSim K T (rIn K neg) (inS neg) := by
  intro O H x y dx dy t Q hd v w q k
  unfold inS at q
  split at q
  · rename_i ds e
    split at q
    · rename_i hf
      cases q
      have hf' := Bool.and_eq_true_iff.mp hf
      have hx := v.scalV hf'.1
      subst hx
      obtain ⟨a, xs, rfl, h1, h2⟩ := w.seq e
      obtain ⟨q1, q2⟩ := any_v hf'.1 h2 hf'.2
      refine ⟨a, xs, rfl, h1, flat_v hf'.1, q1, ?_⟩
      rw [q2]
      exact k _ H (Ex.refl H) (Rp.bl _)
    · cases q
  · cases q
/-- deep data in a list -/
def anyE (d : D) : List D → Bool
  | [] => false
  | x :: xs => eqD x d || anyE d xs
theorem anyE_py (d : D) : ∀ ds : List D, ((D.pyAll ds).any fun z => PyData.eqv z d.py) = anyE d ds
  | [] => rfl
  | x :: xs => by
    show (PyData.eqv x.py d.py || (D.pyAll xs).any fun z => PyData.eqv z d.py) = _
    rw [anyE_py d xs]
    rfl
def inE (neg : Bool) (a b : D) : Option RV := match b with
  | .lst ds => if (shaped a && shaped (.lst ds)) = true then some (rz (.bl (if neg then !anyE a ds else anyE a ds))) else none
  | _ => none
theorem sim_inE : OpSim K T (rInD K) (inE false) := by
  intro O H x y dx dy t Q hd v w q k
  unfold inE at q
  split at q
  · split at q
    · rename_i ds hf
      cases q
      have hf' := Bool.and_eq_true_iff.mp hf
      obtain ⟨a1, a2⟩ := shaped_of hf'.1
      obtain ⟨b1, b2⟩ := shaped_of hf'.2
      refine ⟨dx.py, D.pyAll ds, (v.rp a2).dp, (w.rp b2).dp, a1, b1, ?_⟩
      rw [anyE_py]
      exact k _ H (Ex.refl H) (Rp.bl _)
    · cases q
  · cases q
theorem sim_notInE : OpSim K T (rNotInD K) (inE true) := by
  intro O H x y dx dy t Q hd v w q k
  unfold inE at q
  split at q
  · split at q
    · rename_i ds hf
      cases q
      have hf' := Bool.and_eq_true_iff.mp hf
      obtain ⟨a1, a2⟩ := shaped_of hf'.1
      obtain ⟨b1, b2⟩ := shaped_of hf'.2
      refine ⟨dx.py, D.pyAll ds, (v.rp a2).dp, (w.rp b2).dp, a1, b1, ?_⟩
      rw [anyE_py]
      exact k _ H (Ex.refl H) (Rp.bl _)
    · cases q
  · cases q
def inD (neg : Bool) (a b : D) : Option RV := match inS neg a b with
  | some t => some t
  | none => inE neg a b
theorem op_inA {X : Cx} (hu : X.A.units + 65 < cLine) : OpR X (compareOp .In) (fun x y H Q => rIn X.K false x y H Q ∨ rInD X.K x y H Q) := op_in_seq.or (op_inD hu)
theorem op_notInA {X : Cx} (hu : X.A.units + 65 < cLine) : OpR X (compareOp .NotIn) (fun x y H Q => rIn X.K true x y H Q ∨ rNotInD X.K x y H Q) := op_notIn_seq.or (op_notInD hu)
theorem sim_inA : OpSim K T (fun x y H Q => rIn K false x y H Q ∨ rInD K x y H Q) (inD false) := OpSim.or sim_inS sim_inE
theorem sim_notInA : OpSim K T (fun x y H Q => rIn K true x y H Q ∨ rNotInD K x y H Q) (inD true) := OpSim.or sim_inS sim_notInE
/-! ### sorted -/
def sortL : List D → Option RV
  | [d] => match listInts d with
    | some ns => some ⟨.fr, .lst ((sortI ns).map D.int)⟩
    | none => none
  | _ => none
theorem sim_sortL : CallSim K T (rSortedI K) sortL := by
  intro O H xs ds t Q hd v q k
  unfold sortL at q
  split at q
  · split at q
    · rename_i d ns e
      cases q
      obtain ⟨x, rfl, u⟩ := v.one
      obtain ⟨a, rfl, h1⟩ := u.ints e
      refine ⟨a, ns, rfl, h1, fun ns' p hp hs hn => ?_⟩
      have := sorted_uniq hs (sortI_sorted ns) (hp.trans (sortI_perm ns).symm)
      subst this
      exact k _ _ (Ex.new hn) (new_lst hn RpAll.ints)
    · cases q
  · cases q
def keyInts : List (D × D) → Option (List Int)
  | [] => some []
  | (.int i, _) :: r => (keyInts r).map (i :: ·)
  | _ :: _ => none
theorem keyInts_kv {G : Hp} : ∀ {r : List (Key × V)} {kvs : List (D × D)} {ks : List Int}, KvOk keyD K G r kvs → keyInts kvs = some ks → r.map (·.1) = ks.map Sum.inl
  | _, _, _, .nil, h => by cases h; rfl
  | _, _, ks, .cons (k := k) hv t, h => by
    cases k with
    | inr z => cases h
    | inl i =>
      unfold keyInts at h
      have h : (keyInts _).map (i :: ·) = some ks := h
      cases q : keyInts _ with
      | none => rw [q] at h; cases h
      | some ks' =>
        rw [q] at h
        cases h
        rw [List.map_cons, keyInts_kv t q]
        rfl
/-- a dict of a tuple-keyed kind has no int keys unless empty -/
theorem keyInts_dT {G : Hp} {r : List (List Key × V)} {kvs : List (D × D)} {ks : List Int} (h : KvOk (fun ks => .tup (ks.map keyD)) K G r kvs) (e : keyInts kvs = some ks) : r = [] := by
  cases h with
  | nil => rfl
  | cons _ _ => cases e
def sortK : List D → Option RV
  | [.dic kvs] => match keyInts kvs with
    | some ks => if (decide (ks.length < 64) && !ks.isEmpty) = true then some ⟨.fr, .lst ((sortI ks).map D.int)⟩ else none
    | none => none
  | _ => none
theorem sim_sortK : CallSim K T (fun xs H Q => ∃ (a : Addr) (kvs : List (Key × V)) (ks : List Int), xs = [.ref a] ∧ Rd H a (.dK kvs) ∧ kvs.map (·.1) = ks.map Sum.inl ∧ ks.length < 64 ∧
    ∀ (ys : List Int) (p : Addr), ys.Perm ks → ys.Pairwise (· ≤ ·) → H p = none → Q (.ref p) (upd H p (.lst (ys.map V.int)))) sortK := by
  intro O H xs ds t Q hd v q k
  unfold sortK at q
  split at q
  · split at q
    · split at q
      · rename_i kvs ks e hf
        cases q
        have hf' := Bool.and_eq_true_iff.mp hf
        obtain ⟨x, rfl, u⟩ := v.one
        obtain ⟨a, rfl, o⟩ := u.dic
        rcases o with ⟨r, h1, h2⟩ | ⟨r, h1, h2⟩
        · refine ⟨a, r, ks, rfl, .inl h1, keyInts_kv h2 e, of_decide_eq_true hf'.1, fun ys p hp hs hn => ?_⟩
          have := sorted_uniq hs (sortI_sorted ks) (hp.trans (sortI_perm ks).symm)
          subst this
          exact k _ _ (Ex.new hn) (new_lst hn RpAll.ints)
        · have := keyInts_dT h2 e
          subst this
          cases h2
          cases e
          cases hf'.2
      · cases q
    · cases q
  · cases q
def sortD (ds : List D) : Option RV := match sortL ds with
  | some t => some t
  | none => sortK ds
def rSortK : List V → Hp → VK → Prop := fun xs H Q => ∃ (a : Addr) (kvs : List (Key × V)) (ks : List Int), xs = [.ref a] ∧ Rd H a (.dK kvs) ∧ kvs.map (·.1) = ks.map Sum.inl ∧ ks.length < 64 ∧
    ∀ (ys : List Int) (p : Addr), ys.Perm ks → ys.Pairwise (· ≤ ·) → H p = none → Q (.ref p) (upd H p (.lst (ys.map V.int)))
theorem op_sortD {X : Cx} (hc : X.calm = true) : CallR X (.builtin "sorted") (fun xs H Q => rSortedI X.K xs H Q ∨ rSortK xs H Q) := CallR.or (cr_sortedI (X := X)) (call_sortedDI hc)
theorem sim_sortD : CallSim K T (fun xs H Q => rSortedI K xs H Q ∨ rSortK xs H Q) sortD := CallSim.orElse sim_sortL sim_sortK fun a t h => by
  unfold sortD at h
  cases q : sortL a with
  | some u => rw [q] at h; exact .inl (by rw [← h])
  | none => rw [q] at h; exact .inr h
end
end Mini

set_option Elab.async false
set_option linter.all false
set_option maxRecDepth 100000
/-! Mini 15: list(range(..)), tuple(range(..)), xs[::-1]. -/
namespace Mini
open PySem L2 LamX PySem.Spec PyProof.Rows
section
variable {F : Fm} {M : Dm} {W : WX} {cv : Str → Value} {X : Cx} {e a b c tg : Expr} {es : List Expr} {pos p p2 pos2 : Pos} {σ : L2.St} {H H1 : Hp} {O O1 : Zone} {x : Str} {j : Nat}
/-- an expression that makes a range: n items from i by c -/
def PRn (X : Cx) (e : Expr) (t : L2.St → Hp → (Int → Int → Nat → Hp → Prop) → Prop) : Prop :=
  ∀ (pins : List (Addr × Obj)) (s : Shared) (σ : L2.St) (H : Hp) (Q : Int → Int → Nat → Hp → Prop), Inv X pins σ H s → t σ H Q →
    wpAny (model X.prog X.w) X.A (eval e X.env) (fun v s' => ∃ (r : Addr) (i j c : Int) (t u w : Tok) (n : Nat) (H' : Hp), v = .ref r ∧ IsRange s'.heap r i j c t u w ∧ Builtin.Range.small i j c = true ∧ Builtin.Range.rangeSize i j c = n ∧ Inv X pins σ H' s' ∧ Q i c n H') X.xe s
def dRn (g : List D → Option (List D)) (da : DA) : MSt → Out (List D) := fun st => (da st).bind fun rs => match g (dataOf rs) with
  | some ds => if ds.length ≤ 16777216 then .ok ds else .bad
  | none => .bad
/-- items as data -/
theorem uptoC_one : ∀ (n : Nat) (lo : Int), uptoC lo 1 n = upto lo n
  | 0, _ => rfl
  | n + 1, lo => by simp [uptoC, upto, uptoC_one n]
def TRn (F : Fm) (W : WX) (cv : Str → Value) (dr : MSt → Out (List D)) : L2.St → Hp → (Int → Int → Nat → Hp → Prop) → Prop := fun σ H Q => ∃ M st O, Rel F M st σ H O ∧
  OutP (dr st) (fun ds => ∀ i c n H', Ex F.T H H' → ds = uptoC i c n → n ≤ 16777216 → Q i c n H') (fun c => ∀ H', Ex F.T H H' → W (cv c) none σ H')
theorem t_rn {da : DA} {g : List D → Option (List D)} {σ : L2.St} {H : Hp} {Q : Int → Int → Nat → Hp → Prop} {P : List V → Hp → Prop}
    (h : TRn F W cv (dRn g da) σ H Q)
    (step : ∀ O rs xs ds H1, ResAll F.K H H1 O xs rs → g (dataOf rs) = some ds → ds.length ≤ 16777216 → (∀ i c n, ds = uptoC i c n → Q i c n H1) → P xs H1) : TAx F W cv da σ H P := by
  obtain ⟨M, st, O, Rl, h⟩ := h
  refine ⟨M, st, O, Rl, (OutP.bind h).mono (fun rs _ h xs H1 e1 k1 => ?_) fun c _ h => h⟩
  cases q : g (dataOf rs) with
  | none => rw [q] at h; exact h.elim
  | some ds =>
    rw [q] at h
    have h : OutP (if ds.length ≤ 16777216 then Out.ok ds else .bad) _ _ := h
    obtain ⟨hl, h⟩ := h.ite
    refine step O rs xs ds H1 k1 q hl fun i c n e => h i c n H1 e1 e ?_
    rw [e, uptoC_length] at hl
    exact hl
theorem s_rn1 {da : DA} (hg : Gl X "range") (hm : X.mg "range" = none) (ha : PA X [a] (TAx F W cv da)) (hs : starEach [a] X.env = [(false, eval a X.env)]) : PRn X (.Call (.Name "range" p) [a] [] pos) (TRn F W cv (dRn rg1 da)) := by
  intro pins s σ H Q I h
  refine Call_ (ld_blt I hg hm boot_range (PyProof.Rows.callWith_type1 (thn (ha.run pos pins s σ H _ I (t_rn (P := fun vs H1 => ∃ j : Int, vs = [.int j] ∧ in62 j = true ∧ Q 0 1 j.toNat H1) h ?_)) fun us s1 ⟨vs, H1, I1, r1, q1⟩ => ?_) hs rfl))
  · intro O rs xs ds H1 k1 q hl k
    obtain ⟨j, q1, q2, rfl⟩ := rg1_some q
    obtain ⟨x, rfl, v⟩ := k1.one (T := F.T) q1
    exact ⟨j, by rw [v.int], q2, k 0 1 _ (uptoC_one _ _).symm⟩
  · obtain ⟨j, rfl, h2, q⟩ := q1
    cases r1 with
    | cons r rr =>
      cases rr
      obtain ⟨t, rfl⟩ := r
      have := in62_of h2
      refine call_range_1 ⟨_, 0, j, 1, _, _, _, j.toNat, H1, rfl, IsRange.new _ _ _ _ _ _ _, small_one (by decide) (by decide) this.1 this.2, ?_, I1.kept fun b u e => Heap.get?_push_of_some _ e, q⟩
      have := rangeSize_nat 0 j
      rw [this]
      simp
theorem s_rn2 {da : DA} (hg : Gl X "range") (hm : X.mg "range" = none) (ha : PA X [a, b] (TAx F W cv da)) (hs : starEach [a, b] X.env = (false, eval a X.env) :: starEach [b] X.env) (hpl : (backTo pos (starEach [b] X.env)).any (·.1) = false) : PRn X (.Call (.Name "range" p) [a, b] [] pos) (TRn F W cv (dRn rg2 da)) := by
  intro pins s σ H Q I h
  refine Call_ (ld_blt I hg hm boot_range (PyProof.Rows.callWith_type1 (thn (ha.run pos pins s σ H _ I (t_rn (P := fun vs H1 => ∃ i j : Int, vs = [.int i, .int j] ∧ in62 i = true ∧ in62 j = true ∧ Q i 1 (j - i).toNat H1) h ?_)) fun us s1 ⟨vs, H1, I1, r1, q1⟩ => ?_) hs hpl))
  · intro O rs xs ds H1 k1 q hl k
    obtain ⟨i, j, q1, q2, q3, rfl⟩ := rg2_some q
    obtain ⟨x, y, rfl, v, w⟩ := k1.two (T := F.T) q1
    exact ⟨i, j, by rw [v.int, w.int], q2, q3, k i 1 _ (uptoC_one _ _).symm⟩
  · obtain ⟨i, j, rfl, h2, h3, q⟩ := q1
    cases r1 with
    | cons r rr =>
      cases rr with
      | cons r' rr =>
        cases rr
        obtain ⟨t, rfl⟩ := r
        obtain ⟨t', rfl⟩ := r'
        have := in62_of h2
        have := in62_of h3
        exact call_range_2 ⟨_, i, j, 1, _, _, _, (j - i).toNat, H1, rfl, IsRange.new _ _ _ _ _ _ _, small_one (by omega) (by omega) (by omega) (by omega), rangeSize_nat i j, I1.kept fun b u e => Heap.get?_push_of_some _ e, q⟩
theorem s_rn3 {da : DA} (hg : Gl X "range") (hm : X.mg "range" = none) (ha : PA X [a, b, c] (TAx F W cv da)) (hs : starEach [a, b, c] X.env = (false, eval a X.env) :: starEach [b, c] X.env) (hpl : (backTo pos (starEach [b, c] X.env)).any (·.1) = false) : PRn X (.Call (.Name "range" p) [a, b, c] [] pos) (TRn F W cv (dRn rg3 da)) := by
  intro pins s σ H Q I h
  refine Call_ (ld_blt I hg hm boot_range (PyProof.Rows.callWith_type1 (thn (ha.run pos pins s σ H _ I (t_rn (P := fun vs H1 => ∃ (i j c : Int), vs = [.int i, .int j, .int c] ∧ okC i j c = true ∧ Q i c (cntC i j c) H1) h ?_)) fun us s1 ⟨vs, H1, I1, r1, q1⟩ => ?_) hs hpl))
  · intro O rs xs ds H1 k1 q hl k
    obtain ⟨i, j, c, q1, q2, rfl⟩ := rg3_some q
    obtain ⟨x, y, z, rfl, v, w, u⟩ := k1.three (T := F.T) q1
    exact ⟨i, j, c, by rw [v.int, w.int, u.int], q2, k i c _ rfl⟩
  · obtain ⟨i, j, c, rfl, h2, q⟩ := q1
    obtain ⟨c0, c1, c2, c3⟩ := okC_of h2
    cases r1 with
    | cons r rr =>
      cases rr with
      | cons r' rr =>
        cases rr with
        | cons r'' rr =>
          cases rr
          obtain ⟨t, rfl⟩ := r
          obtain ⟨t', rfl⟩ := r'
          obtain ⟨t'', rfl⟩ := r''
          exact call_range_3 c0 ⟨_, i, j, c, _, _, _, cntC i j c, H1, rfl, IsRange.new _ _ _ _ _ _ _, c2, c3, I1.kept fun b u e => Heap.get?_push_of_some _ e, q⟩ (.inl (PyProof.noPylong_small c1))
def dLstRn (dr : MSt → Out (List D)) : DE := fun st => (dr st).bind fun ds => .ok ⟨.fr, .lst ds⟩
def dTupRn (dr : MSt → Out (List D)) : DE := fun st => (dr st).bind fun ds => .ok ⟨.fz, .tup ds⟩
/-- the values -/
def rgC (i c : Int) (n : Nat) : List V := (List.range n).map fun (k : Nat) => V.int (i + (k : Int) * c)
theorem rgC_length (i c : Int) (n : Nat) : (rgC i c n).length = n := by unfold rgC; rw [List.length_map, List.length_range]
theorem vals_rgC {i c : Int} {n : Nat} {acc : Array Value} (h : ItemsOf (fun k v => ∃ t, v = .int (i + (k : Int) * c) t) acc n) : Vals (rgC i c n) acc.toList := by
  have e : acc.toList.length = n := by rw [Array.length_toList]; exact h.1
  unfold rgC
  rw [← e]
  refine vals_of_get acc.toList _ fun j u hj => ?_
  obtain ⟨t, rfl⟩ := h.2 j u (by rw [← hj, Array.getElem?_toList])
  exact ⟨t, rfl⟩
theorem RpAll.of_get {K : PySem.W.Frag} {G : Hp} : ∀ {vs : List V} {ds : List D}, vs.length = ds.length → (∀ (i : Nat) v d, vs[i]? = some v → ds[i]? = some d → Rp K G v d) → RpAll K G vs ds
  | [], [], _, _ => .nil
  | [], _ :: _, h, _ => by simp at h
  | _ :: _, [], h, _ => by simp at h
  | v :: vs, d :: ds, h, k => .cons (k 0 v d rfl rfl) (RpAll.of_get (by simpa using h) fun i v d h1 h2 => k (i + 1) v d (by simpa using h1) (by simpa using h2))
theorem rp_rgC {K : PySem.W.Frag} {G : Hp} {i c : Int} {n : Nat} : RpAll K G (rgC i c n) (uptoC i c n) := by
  refine RpAll.of_get (by rw [rgC_length, uptoC_length]) fun j v d h1 h2 => ?_
  have hj : j < n := by
    have := List.getElem?_eq_some_iff.mp h1
    obtain ⟨hl, _⟩ := this
    rw [rgC_length] at hl
    exact hl
  rw [uptoC_get n i c j hj] at h2
  cases h2
  unfold rgC at h1
  rw [List.getElem?_map, List.getElem?_range hj] at h1
  cases h1
  exact .int _
theorem s_lstRn {dr : MSt → Out (List D)} (hc : X.calm = true) (hg : Gl X "list") (hm : X.mg "list" = none) (he : PRn X e (TRn F W cv dr)) (na : starEach [e] X.env = (false, eval e X.env) :: starEach [] X.env) (na2 : (backTo pos (starEach [] X.env)).any (·.1) = false) : PE X (.Call (.Name "list" p) [e] [] pos) (TEx F W cv (dLstRn dr)) := by
  refine ⟨fun pins s σ H Q I h => ?_⟩
  refine Call_ (ld_blt I hg hm boot_list (PyProof.Rows.callWith_type1 (args_cons (thn (he pins s σ H (fun i c n H1 => n ≤ 16777216 ∧ ∀ q, H1 q = none → Q (.ref q) (upd H1 q (.lst (rgC i c n)))) I ?_) fun v s1 ⟨r, i, j, c, t, u, w, n, H1, ex, hr, sm, sz, I1, ok, q⟩ => args_nil ?_) na) na na2))
  · obtain ⟨M, st, O, R, h⟩ := h
    refine ⟨M, st, O, R, (OutP.bind h).mono (fun ds _ h i c n H1 e1 e2 e3 => ⟨e3, fun q hq => ?_⟩) fun c _ h => h⟩
    subst e2
    exact h _ _ (e1.trans (Ex.new hq)) ((new_lst hq rp_rgC).back e1)
  · subst ex
    refine call_list_range (n := n) (I1.ok.hd hc) hr sm sz ok fun h' tk acc c' hk e' hi => ?_
    refine ⟨.ref s1.heap.objs.size, upd H1 s1.heap.objs.size (.lst (rgC i c n)), I1.laid hk (Nat.le_refl _) (show ObjOk X.prog X.w _ _ _ (.lst (rgC i c n)) from ⟨?_, acc.toList, c', vals_rgC hi, ?_⟩), rfl, q _ (I1.hok.fresh (Nat.le_refl _))⟩
    · rw [rgC_length, sizeLine_eq]; omega
    · rw [Array.toArray_toList]; exact e'
theorem s_tupRn {dr : MSt → Out (List D)} (hc : X.calm = true) (hg : Gl X "tuple") (hm : X.mg "tuple" = none) (he : PRn X e (TRn F W cv dr)) (na : starEach [e] X.env = (false, eval e X.env) :: starEach [] X.env) (na2 : (backTo pos (starEach [] X.env)).any (·.1) = false) : PE X (.Call (.Name "tuple" p) [e] [] pos) (TEx F W cv (dTupRn dr)) := by
  refine ⟨fun pins s σ H Q I h => ?_⟩
  refine Call_ (ld_blt I hg hm boot_tuple (PyProof.Rows.callWith_type1 (args_cons (thn (he pins s σ H (fun i c n H1 => n ≤ 16777216 ∧ ∀ q, H1 q = none → Q (.ref q) (upd H1 q (.tup (rgC i c n)))) I ?_) fun v s1 ⟨r, i, j, c, t, u, w, n, H1, ex, hr, sm, sz, I1, ok, q⟩ => args_nil ?_) na) na na2))
  · obtain ⟨M, st, O, R, h⟩ := h
    refine ⟨M, st, O, R, (OutP.bind h).mono (fun ds _ h i c n H1 e1 e2 e3 => ⟨e3, fun q hq => ?_⟩) fun c _ h => h⟩
    subst e2
    exact h _ _ (e1.trans (Ex.new hq)) ((new_tup hq (R.ex e1).dom rp_rgC).back e1)
  · subst ex
    refine call_tuple_range (n := n) (I1.ok.hd hc) hr sm sz ok fun h' tk acc hk hi => ?_
    have I2 : Inv X pins σ H1 { s1 with heap := h', toks := tk } := I1.kept hk
    refine ⟨.ref h'.objs.size, upd H1 h'.objs.size (.tup (rgC i c n)), I2.laid (t' := tk) (fun c o e => Heap.get?_push_of_some _ e) (Nat.le_refl _) (show ObjOk X.prog X.w _ _ _ (.tup (rgC i c n)) from ⟨?_, acc.toList, vals_rgC hi, ?_⟩), rfl, q _ (I2.hok.fresh (Nat.le_refl _))⟩
    · rw [rgC_length, sizeLine_eq]; omega
    · rw [Array.toArray_toList]; exact IsTup.new _ _
/-! ### xs[::-1] -/
def dRev (da : DE) : DE := fun st => (da st).bind fun r => match r.d with
  | .lst ds => .ok ⟨.fr, .lst ds.reverse⟩
  | _ => .bad
theorem s_rev {da : DE} {k : Nat} {p1 p2 p3 : Pos} (hK : X.K = F.K) (he : PE X e (TEx F W cv da)) : PE X (.Subscript e (.Slice none none (some (.UnaryOp .USub (.Constant (.int 1) k p1) p2)) p3) pos) (TEx F W cv (dRev da)) := by
  refine pe_w (pe_revL he) fun σ H Q h => ?_
  rw [hK]
  show Tx F W cv (okE F) da σ H _
  refine tx_bind (okA := okE F) (okC := okE F) (f := fun (r : RV) st => match r.d with | .lst ds => Out.ok (⟨.fr, .lst ds.reverse⟩ : RV) | _ => .bad) h fun M st O r x H1 R e1 R1 k1 h1 => ?_
  cases hd : r.d with
  | lst ds =>
    rw [hd] at h1
    have kv := k1.vw (T := F.T)
    rw [hd] at kv
    obtain ⟨a, xs, rfl, h2, h3⟩ := kv.lst
    exact ⟨a, xs, rfl, .inl (.inl h2), fun q hq => h1 _ _ (Ex.new hq) ((new_lst hq h3.reverse).back e1)⟩
  | _ => rw [hd] at h1; exact h1.elim
end
end Mini

set_option Elab.async false
set_option linter.all false
set_option maxRecDepth 100000
/-! Mini 16: keys; dict comprehensions; comprehensions of two clauses. -/
namespace Mini
open PySem L2 LamX PySem.Spec PyProof.Rows
/-! ### keys -/
def keq1 : D → D → Bool
  | .int a, .int b => decide (a = b)
  | .str a, .str b => a == b
  | _, _ => false
def keqL : List D → List D → Bool
  | [], [] => true
  | a :: as, b :: bs => keq1 a b && keqL as bs
  | _, _ => false
def keq : D → D → Bool
  | .tup as, .tup bs => keqL as bs
  | a, b => keq1 a b
theorem keq1_keyD (a b : Key) : keq1 (keyD a) (keyD b) = decide (a = b) := by
  cases a with
  | inl i =>
    cases b with
    | inl j => simp [keyD, keq1]
    | inr y => simp [keyD, keq1]
  | inr x =>
    cases b with
    | inl j => simp [keyD, keq1]
    | inr y =>
      simp only [keyD, keq1, Sum.inr.injEq]
      by_cases h : x = y
      · subst h; simp
      · simp [h]
theorem keq_keyD (a b : Key) : keq (keyD a) (keyD b) = decide (a = b) := by
  rw [← keq1_keyD]
  cases a <;> cases b <;> rfl
theorem keqL_keyD : ∀ (as bs : List Key), keqL (as.map keyD) (bs.map keyD) = decide (as = bs)
  | [], [] => rfl
  | [], _ :: _ => rfl
  | _ :: _, [] => rfl
  | a :: as, b :: bs => by
    show (keq1 (keyD a) (keyD b) && keqL (as.map keyD) (bs.map keyD)) = _
    rw [keq1_keyD, keqL_keyD as bs]
    by_cases h : a = b <;> by_cases h' : as = bs <;> simp [h, h']
def hasK (k : D) : List (D × D) → Bool
  | [] => false
  | (k', _) :: r => keq k' k || hasK k r
def replK (k v : D) : List (D × D) → List (D × D)
  | [] => []
  | (k', v') :: r => (if keq k' k = true then (k', v) else (k', v')) :: replK k v r
def putD (kvs : List (D × D)) (k v : D) : List (D × D) := if hasK k kvs = true then replK k v kvs else kvs ++ [(k, v)]
def getK (k : D) : List (D × D) → Option D
  | [] => none
  | (k', v) :: r => if keq k' k = true then some v else getK k r
section
variable {κ : Type} [DecidableEq κ] {kd : κ → D} {K : PySem.W.Frag} {G : Hp}
theorem KvOk.has (hk : ∀ a b, keq (kd a) (kd b) = decide (a = b)) (k : κ) : ∀ {r : List (κ × V)} {kvs : List (D × D)}, KvOk kd K G r kvs → (r.any fun kv => decide (kv.1 = k)) = hasK (kd k) kvs
  | _, _, .nil => rfl
  | _, _, .cons (k := k') hv t => by
    rw [List.any_cons, KvOk.has hk k t]
    show _ = (keq (kd k') (kd k) || hasK (kd k) _)
    rw [hk]
theorem KvOk.append {r r' : List (κ × V)} {kvs kvs' : List (D × D)} (h : KvOk kd K G r kvs) (h' : KvOk kd K G r' kvs') : KvOk kd K G (r ++ r') (kvs ++ kvs') := by
  induction h with
  | nil => exact h'
  | cons hv t ih => exact .cons hv ih
theorem KvOk.put (hk : ∀ a b, keq (kd a) (kd b) = decide (a = b)) {k : κ} {v : V} {d : D} {r : List (κ × V)} {kvs : List (D × D)} (h : KvOk kd K G r kvs) (hv : Rp K G v d) : KvOk kd K G (L2.putK r k v) (putD kvs (kd k) d) := by
  unfold L2.putK putD
  rw [h.has hk]
  cases hasK (kd k) kvs with
  | true =>
    rw [if_pos rfl, if_pos rfl]
    induction h with
    | nil => exact .nil
    | cons hv' t ih =>
      rename_i k' v' d' r' s'
      show KvOk kd K G ((if k' = k then (k', v) else (k', v')) :: _) ((if keq (kd k') (kd k) = true then (kd k', d) else (kd k', d')) :: _)
      rw [hk]
      by_cases e : k' = k
      · rw [if_pos e, if_pos (decide_eq_true e)]
        exact .cons hv ih
      · rw [if_neg e, if_neg (by simp [e])]
        exact .cons hv' ih
  | false =>
    rw [if_neg (by decide), if_neg (by decide)]
    exact h.append (.cons hv .nil)
theorem KvOk.get (hk : ∀ a b, keq (kd a) (kd b) = decide (a = b)) {k : κ} : ∀ {r : List (κ × V)} {kvs : List (D × D)}, KvOk kd K G r kvs → (∀ d, getK (kd k) kvs = some d → ∃ v, valV r k = some v ∧ Rp K G v d) ∧ (getK (kd k) kvs = none → valV r k = none)
  | _, _, .nil => ⟨fun d h => (by cases h), fun _ => rfl⟩
  | _, _, .cons (k := k') (v := v') (d := d') hv t => by
    unfold getK
    rw [hk]
    by_cases e : k' = k
    · rw [if_pos (decide_eq_true e), valV_pos e]
      exact ⟨fun d h => by cases h; exact ⟨v', rfl, hv⟩, fun h => by cases h⟩
    · rw [if_neg (by simp [e]), valV_neg e]
      exact KvOk.get hk t
end
/-! ### dict comprehensions -/
def dcGo (p : Pat) (dt : DT) (dk dv : DE) (st : MSt) : List D → List (D × D) → Out (List (D × D))
  | [], acc => .ok acc
  | d :: ds, acc => match setPat p d st with
    | none => .bad
    | some st1 => match dt st1 with
      | .ok true => match dk st1 with
        | .ok k => match dv st1 with
          | .ok v => if ((dKey k.d).isSome && v.keep && decide (acc.length < sizeLine)) = true then dcGo p dt dk dv st ds (putD acc k.d v.d) else .bad
          | _ => .bad
        | _ => .bad
      | .ok false => dcGo p dt dk dv st ds acc
      | _ => .bad
def dDc (di : DI) (p : Pat) (vs : List Nat) (dt : DT) (dk dv : DE) : DE := fun st => (di st).bind fun q => match dcGo p dt dk dv (wipeM st vs) q.2 [] with
  | .ok kvs => .ok ⟨.fr, .dic kvs⟩
  | _ => .bad
section
variable {F : Fm} {W : WX} {cv : Str → Value} {X : Cx} {e a b c tg : Expr} {pos : Pos}
theorem t_dc {di : DI} {p : Pat} {vs : List Nat} {dt : DT} {dk dv : DE} (hp : ∀ j ∈ p.slots, j ∈ vs) {σ : L2.St} {H : Hp} {Q : VK} (h : TEx F W cv (dDc di p vs dt dk dv) σ H Q) :
    tDc (TIx F W cv di) (gPat F.K p) (TTx F Wb cv dt) (TEx F Wb cv dk) (TEx F Wb cv dv) vs σ H Q := by
  obtain ⟨M, st, O, R, h⟩ := h
  refine ⟨M, st, O, R, (OutP.bind h).mono (fun q _ h J H1 e1 wd => ?_) fun c _ h => h⟩
  obtain ⟨firm, ds⟩ := q
  intro A hA
  have R1 := R.ex e1
  obtain ⟨G, Y, w, hw⟩ := wd.go
  have frA : Fresh M.H0 A := (Fresh.of hA).back R1.ex0
  have h : OutP (match dcGo p dt dk dv (wipeM st vs) ds [] with | .ok ds => Out.ok (⟨.fr, .dic ds⟩ : RV) | _ => .bad) (fun t => ∀ x H', Ex F.T H H' → okE F H H' O x t → Q x H') (fun c => ∀ H', Ex F.T H H' → W (cv c) none σ H') := h
  cases qq : dcGo p dt dk dv (wipeM st vs) ds [] with
  | bad => rw [qq] at h; exact h.elim
  | exc c => rw [qq] at h; exact h.elim
  | ok total =>
  rw [qq] at h
  have lat : ∀ Hc, Ex F.T H1 Hc → Later F firm H1 O Hc (fun b => O b ∨ b = A) := fun Hc e => Later.of e fun b z => z.elim .inl fun q => .inr (by rw [q]; exact Fresh.of hA)
  have exA : ∀ Hc o, Ex F.T H1 Hc → isLD o = true → (∃ o', Hc A = some o' ∧ isLD o' = true) → Ex F.T H1 (upd Hc A o) := fun Hc o e l ⟨o', l1, l2⟩ => ⟨fun b u q n => by
    rw [L2.upd_ne (fun z => by rw [z, hA] at q; cases q)]
    exact e.ext b u q n, fun t => tabs_upd (e.tabs t) l1 l2⟩
  refine ⟨fun i m Hc => m = ds.length - i ∧ i ≤ ds.length ∧ ∃ acc accD, Ex F.T H1 Hc ∧ Hc A = some (.dK acc) ∧ KvOk keyD F.K (hide Hc (fun b => O b ∨ b = A)) acc accD ∧ Rel F (M.with A) (wipeM st vs) (L2.wipe σ vs) Hc (fun b => O b ∨ b = A) ∧ dcGo p dt dk dv (wipeM st vs) (ds.drop i) accD = .ok total, ?_, ?_⟩
  · exact ⟨ds.length, by simp, Nat.zero_le _, [], [], Ex.new hA, upd_same, .nil, (R1.with hA rfl).wipe vs, by simpa using qq⟩
  · rintro i m Hc ⟨rfl, hi, acc, accD, k1, k2, k2', k3, k4⟩
    have hG := (hw Hc _ (lat Hc k1)).1
    by_cases hlt : i < ds.length
    · refine .inr ⟨w.goes i Hc hlt hG, fun Hn => ∃ acc accD, Ex F.T H1 Hn ∧ Hn A = some (.dK acc) ∧ KvOk keyD F.K (hide Hn (fun b => O b ∨ b = A)) acc accD ∧ Rel F (M.with A) (wipeM st vs) (L2.wipe σ vs) Hn (fun b => O b ∨ b = A) ∧ dcGo p dt dk dv (wipeM st vs) (ds.drop (i + 1)) accD = .ok total, fun H' q => ⟨ds.length - (i + 1), by omega, rfl, hlt, q⟩, fun x H' y => ?_⟩
      obtain ⟨e2, d, hd, rx⟩ := (hw Hc _ (lat Hc k1)).2 k3.dom i x H' hlt (w.yields i Hc x H' hlt hG y)
      have hdrop : ds.drop i = d :: ds.drop (i + 1) := by
        have := List.drop_eq_getElem_cons hlt
        rw [this]
        congr 1
        have hd : ds[i]? = some d := hd
        rw [List.getElem?_eq_getElem hlt] at hd
        exact Option.some.inj hd
      rw [hdrop] at k4
      unfold dcGo at k4
      cases hs : setPat p d (wipeM st vs) with
      | none => rw [hs] at k4; cases k4
      | some st1 =>
      rw [hs] at k4
      have k3' := k3.ex e2
      obtain ⟨σ', r', wq, gq⟩ := pat_ok p rx hs k3'
      refine gq _ ⟨by rw [wq vs hp, wipe_wipe], ?_⟩
      simp only at k4
      refine ⟨_, st1, _, r', ?_⟩
      cases ht : dt st1 with
      | bad => rw [ht] at k4; cases k4
      | exc c => rw [ht] at k4; cases k4
      | ok bb =>
      rw [ht] at k4
      intro x2 H3 e3 hx2
      obtain rfl : x2 = bb := hx2
      cases x2 with
      | false =>
        rw [if_neg (by decide)]
        have ee := e2.trans e3
        exact ⟨acc, accD, k1.trans ee, ee.ext _ _ k2 (fun ps z => nomatch z), k2'.mono (hide_ex ee), k3.ex ee, k4⟩
      | true =>
        rw [if_pos rfl]
        refine ⟨_, st1, _, r'.ex e3, ?_⟩
        simp only at k4
        cases hk : dk st1 with
        | bad => rw [hk] at k4; cases k4
        | exc c => rw [hk] at k4; cases k4
        | ok rk =>
        rw [hk] at k4
        simp only at k4
        intro y1 H4 e4 ok4
        refine ⟨_, st1, _, (r'.ex e3).ex e4, ?_⟩
        cases hv : dv st1 with
        | bad => rw [hv] at k4; cases k4
        | exc c => rw [hv] at k4; cases k4
        | ok rv =>
        rw [hv] at k4
        simp only at k4
        by_cases kk : ((dKey rk.d).isSome && rv.keep && decide (accD.length < sizeLine)) = true
        · rw [if_pos kk] at k4
          simp only [Bool.and_eq_true, decide_eq_true_eq] at kk
          obtain ⟨⟨kk1, kk2⟩, kk3⟩ := kk
          obtain ⟨kk0, hkk⟩ := Option.isSome_iff_exists.mp kk1
          intro y2 H5 e5 ok5
          have ee := ((e2.trans e3).trans e4).trans e5
          have hA5 : H5 A = some (.dK acc) := ee.ext _ _ k2 fun ps z => nomatch z
          have rr := ok5.rp (T := F.T) ((k3'.ex e3).ex e4).dom kk2
          have vk := ok4.vw (T := F.T)
          rw [dKey_some hkk] at vk
          have hy1 : y1 = kV kk0 := by
            rcases vk with ⟨a, _, z⟩ | z
            · cases kk0 <;> exact z.elim
            · exact dp_key z
          have hlen : acc.length = accD.length := k2'.length
          refine ⟨acc, kk0, hy1, hA5, by rw [hlen]; exact kk3, ?_⟩
          refine ⟨L2.putK acc kk0 y2, putD accD rk.d rv.d, exA _ _ (k1.trans ee) rfl ⟨_, hA5, rfl⟩, upd_same, ?_, (k3.ex ee).updS (.inr rfl) frA hA5 rfl rfl, k4⟩
          rw [hide_upd (.inr rfl), dKey_some hkk]
          exact (k2'.mono (hide_ex ee)).put keq_keyD rr
        · rw [if_neg kk] at k4
          cases k4
    · have : i = ds.length := by omega
      subst this
      refine .inl ⟨w.stops Hc hG, ?_⟩
      rw [List.drop_length] at k4
      cases k4
      exact h _ Hc (e1.trans k1) ⟨A, rfl, (Fresh.of hA).back e1, .inl ⟨acc, k2, k2'⟩⟩
theorem s_dc {kx vx iter : Expr} {ifs : List Expr} {scope : Scope} {own : List (Str × Nat)} {di : DI} {p : Pat} {dt : DT} {dk dv : DE} (hc : X.calm = true) (hN : X.N.Nodup) (hi : PI X tg iter (TIx F W cv di)) (ok : BlkOk X.N X.env.scope scope own) (hp : ∀ j ∈ p.slots, j ∈ own.map (·.2))
    (hg : ∀ (s : Shared) (H : Hp) (C : Addr) (cl : List (Str × Addr)) (fp : List Addr), PG (X.blk s H scope (compEnvC scope cl C X.env) fp) tg (gPat F.K p)) (ht : ∀ (s : Shared) (H : Hp) (C : Addr) (cl : List (Str × Addr)) (fp : List Addr), PTs (X.blk s H scope (compEnvC scope cl C X.env) fp) ifs (TTx F Wb cv dt))
    (hk : ∀ (s : Shared) (H : Hp) (C : Addr) (cl : List (Str × Addr)) (fp : List Addr), PE (X.blk s H scope (compEnvC scope cl C X.env) fp) kx (TEx F Wb cv dk))
    (he : ∀ (s : Shared) (H : Hp) (C : Addr) (cl : List (Str × Addr)) (fp : List Addr), PE (X.blk s H scope (compEnvC scope cl C X.env) fp) vx (TEx F Wb cv dv)) (hs : ∀ x, foldedSetIterable iter X.env x = pure x) :
    PE X (.DictComp kx vx [⟨tg, iter, ifs, 0⟩] scope pos) (TEx F W cv (dDc di p (own.map (·.2)) dt dk dv)) :=
  pe_w (pe_dc hc hN hi ok hg ht hk he hs) fun _ _ _ h => t_dc hp h
end
end Mini

set_option Elab.async false
set_option linter.all false
set_option maxRecDepth 100000
/-! Mini 17: comprehensions of two clauses. -/
namespace Mini
open PySem L2 LamX PySem.Spec PyProof.Rows
def lc2Go (p : Pat) (dt : DT) (di1 : DI) (p1 : Pat) (vs1 : List Nat) (dt1 : DT) (de : DE) (st : MSt) : List D → Nat → Out (List D)
  | [], _ => .ok []
  | d :: ds, n => match setPat p d st with
    | none => .bad
    | some st1 => match dt st1 with
      | .ok true => match di1 st1 with
        | .ok (true, es) => match lcGo p1 dt1 de (wipeM st1 vs1) es n with
          | .ok rs => (lc2Go p dt di1 p1 vs1 dt1 de st ds (n + rs.length)).bind fun rest => .ok (rs ++ rest)
          | _ => .bad
        | _ => .bad
      | .ok false => lc2Go p dt di1 p1 vs1 dt1 de st ds n
      | _ => .bad
def dLc2 (di : DI) (p : Pat) (vs : List Nat) (dt : DT) (di1 : DI) (p1 : Pat) (vs1 : List Nat) (dt1 : DT) (de : DE) : DE := fun st => (di st).bind fun q => match lc2Go p dt di1 p1 vs1 dt1 de (wipeM st vs) q.2 0 with
  | .ok ds => .ok ⟨.fr, .lst ds⟩
  | _ => .bad
section
variable {F : Fm} {W : WX} {cv : Str → Value} {X : Cx} {e a b c tg tg1 : Expr} {pos : Pos}
theorem t_lc2 {di di1 : DI} {p p1 : Pat} {vs vs1 : List Nat} {dt dt1 : DT} {de : DE} (hp : ∀ j ∈ p.slots, j ∈ vs) (hp1 : ∀ j ∈ p1.slots, j ∈ vs1) {σ : L2.St} {H : Hp} {Q : VK} (h : TEx F W cv (dLc2 di p vs dt di1 p1 vs1 dt1 de) σ H Q) :
    tLc2 (TIx F W cv di) (gPat F.K p) (TTx F Wb cv dt) (TIx F Wb cv di1) (gPat F.K p1) (TTx F Wb cv dt1) (TEx F Wb cv de) vs vs1 σ H Q := by
  obtain ⟨M, st, O, R, h⟩ := h
  refine ⟨M, st, O, R, (OutP.bind h).mono (fun q _ h J H1 e1 wd => ?_) fun c _ h => h⟩
  obtain ⟨firm, ds⟩ := q
  intro A hA
  have R1 := R.ex e1
  obtain ⟨G, Y, w, hw⟩ := wd.go
  have frA : Fresh M.H0 A := (Fresh.of hA).back R1.ex0
  have h : OutP (match lc2Go p dt di1 p1 vs1 dt1 de (wipeM st vs) ds 0 with | .ok ds => Out.ok (⟨.fr, .lst ds⟩ : RV) | _ => .bad) (fun t => ∀ x H', Ex F.T H H' → okE F H H' O x t → Q x H') (fun c => ∀ H', Ex F.T H H' → W (cv c) none σ H') := h
  cases qq : lc2Go p dt di1 p1 vs1 dt1 de (wipeM st vs) ds 0 with
  | bad => rw [qq] at h; exact h.elim
  | exc c => rw [qq] at h; exact h.elim
  | ok total =>
  rw [qq] at h
  have lat : ∀ Hc, Ex F.T H1 Hc → Later F firm H1 O Hc (fun b => O b ∨ b = A) := fun Hc e => Later.of e fun b z => z.elim .inl fun q => .inr (by rw [q]; exact Fresh.of hA)
  have exA : ∀ Hc o, Ex F.T H1 Hc → isLD o = true → (∃ o', Hc A = some o' ∧ isLD o' = true) → Ex F.T H1 (upd Hc A o) := fun Hc o e l ⟨o', l1, l2⟩ => ⟨fun b u q n => by
    rw [L2.upd_ne (fun z => by rw [z, hA] at q; cases q)]
    exact e.ext b u q n, fun t => tabs_upd (e.tabs t) l1 l2⟩
  refine ⟨fun i m Hc => m = ds.length - i ∧ i ≤ ds.length ∧ ∃ acc accD rest, Ex F.T H1 Hc ∧ AccOk F Hc (fun b => O b ∨ b = A) A acc accD ∧ Rel F (M.with A) (wipeM st vs) (L2.wipe σ vs) Hc (fun b => O b ∨ b = A) ∧ lc2Go p dt di1 p1 vs1 dt1 de (wipeM st vs) (ds.drop i) accD.length = .ok rest ∧ total = accD ++ rest, ?_, ?_⟩
  · exact ⟨ds.length, by simp, Nat.zero_le _, [], [], total, Ex.new hA, ⟨upd_same, .nil⟩, (R1.with hA rfl).wipe vs, by simpa using qq, by simp⟩
  · rintro i m Hc ⟨rfl, hi, acc, accD, rest, k1, k2, k3, k4, k5⟩
    have hG := (hw Hc _ (lat Hc k1)).1
    by_cases hlt : i < ds.length
    · refine .inr ⟨w.goes i Hc hlt hG, fun Hn => ∃ acc accD rest, Ex F.T H1 Hn ∧ AccOk F Hn (fun b => O b ∨ b = A) A acc accD ∧ Rel F (M.with A) (wipeM st vs) (L2.wipe σ vs) Hn (fun b => O b ∨ b = A) ∧ lc2Go p dt di1 p1 vs1 dt1 de (wipeM st vs) (ds.drop (i + 1)) accD.length = .ok rest ∧ total = accD ++ rest, fun H' q => ⟨ds.length - (i + 1), by omega, rfl, hlt, q⟩, fun x H' y => ?_⟩
      obtain ⟨e2, d, hd, rx⟩ := (hw Hc _ (lat Hc k1)).2 k3.dom i x H' hlt (w.yields i Hc x H' hlt hG y)
      have hdrop : ds.drop i = d :: ds.drop (i + 1) := by
        have := List.drop_eq_getElem_cons hlt
        rw [this]
        congr 1
        have hd : ds[i]? = some d := hd
        rw [List.getElem?_eq_getElem hlt] at hd
        exact Option.some.inj hd
      rw [hdrop] at k4
      unfold lc2Go at k4
      cases hs : setPat p d (wipeM st vs) with
      | none => rw [hs] at k4; cases k4
      | some st1 =>
      rw [hs] at k4
      have k3' := k3.ex e2
      obtain ⟨σ', r', wq, gq⟩ := pat_ok p rx hs k3'
      refine gq _ ⟨by rw [wq vs hp, wipe_wipe], ?_⟩
      simp only at k4
      refine ⟨_, st1, _, r', ?_⟩
      cases ht : dt st1 with
      | bad => rw [ht] at k4; cases k4
      | exc c => rw [ht] at k4; cases k4
      | ok bb =>
      rw [ht] at k4
      intro x2 H3 e3 hx2
      obtain rfl : x2 = bb := hx2
      cases x2 with
      | false =>
        rw [if_neg (by decide)]
        have ee := e2.trans e3
        exact ⟨acc, accD, rest, k1.trans ee, ⟨ee.ext _ _ k2.1 (fun ps z => nomatch z), (hide_ex ee).rpAll _ _ k2.2⟩, k3.ex ee, k4, k5⟩
      | true =>
        rw [if_pos rfl]
        refine ⟨_, st1, _, r'.ex e3, ?_⟩
        simp only at k4
        cases hd1 : di1 st1 with
        | bad => rw [hd1] at k4; cases k4
        | exc c => rw [hd1] at k4; cases k4
        | ok fe =>
        obtain ⟨f1, es⟩ := fe
        rw [hd1] at k4
        cases f1 with
        | false => cases k4
        | true =>
        simp only at k4
        intro J1 H4 e4 wd1
        have wd1 : WalkD F true H4 (fun b => O b ∨ b = A) J1 es.length (fun i => es[i]?) := wd1
        obtain ⟨G1, Y1, w1, hw1⟩ := wd1.go
        cases hin : lcGo p1 dt1 de (wipeM st1 vs1) es accD.length with
        | bad => rw [hin] at k4; cases k4
        | exc c => rw [hin] at k4; cases k4
        | ok rs =>
        rw [hin] at k4
        simp only at k4
        cases hout : lc2Go p dt di1 p1 vs1 dt1 de (wipeM st vs) (ds.drop (i + 1)) (accD.length + rs.length) with
        | bad => rw [hout] at k4; cases k4
        | exc c => rw [hout] at k4; cases k4
        | ok rest' =>
        rw [hout] at k4
        have k4 : Out.ok (rs ++ rest') = Out.ok rest := k4
        cases k4
        have ee := (e2.trans e3).trans e4
        have RI : Rel F (M.with A) (wipeM st1 vs1) (L2.wipe σ' vs1) H4 (fun b => O b ∨ b = A) := ((r'.ex e3).ex e4).wipe vs1
        have RO : Rel F (M.with A) (wipeM st vs) (L2.wipe σ vs) H4 (fun b => O b ∨ b = A) := k3.ex ee
        -- the inner turns
        refine ⟨fun j m Hc => m = es.length - j ∧ j ≤ es.length ∧ ∃ acc' accD' rs', Ex F.T H1 Hc ∧ Sub (hide H4 (fun b => O b ∨ b = A)) (hide Hc (fun b => O b ∨ b = A)) ∧ AccOk F Hc (fun b => O b ∨ b = A) A acc' (accD ++ accD') ∧
          Rel F (M.with A) (wipeM st vs) (L2.wipe σ vs) Hc (fun b => O b ∨ b = A) ∧ Rel F (M.with A) (wipeM st1 vs1) (L2.wipe σ' vs1) Hc (fun b => O b ∨ b = A) ∧ lcGo p1 dt1 de (wipeM st1 vs1) (es.drop j) (accD ++ accD').length = .ok rs' ∧ rs = accD' ++ rs', ?_, ?_⟩
        · exact ⟨es.length, by simp, Nat.zero_le _, acc, [], rs, k1.trans ee, Sub.refl _, ⟨ee.ext _ _ k2.1 (fun ps z => nomatch z), by rw [List.append_nil]; exact (hide_ex ee).rpAll _ _ k2.2⟩, RO, RI, by simpa using hin, by simp⟩
        · rintro j m Hd ⟨rfl, hj, acc', accD', rs', g1, g2, g3, g4, g4', g5, g6⟩
          have hG1 := (hw1 Hd _ g2).1
          by_cases hlt1 : j < es.length
          · refine .inr ⟨w1.goes j Hd hlt1 hG1, fun Hn => ∃ acc' accD' rs', Ex F.T H1 Hn ∧ Sub (hide H4 (fun b => O b ∨ b = A)) (hide Hn (fun b => O b ∨ b = A)) ∧ AccOk F Hn (fun b => O b ∨ b = A) A acc' (accD ++ accD') ∧
              Rel F (M.with A) (wipeM st vs) (L2.wipe σ vs) Hn (fun b => O b ∨ b = A) ∧ Rel F (M.with A) (wipeM st1 vs1) (L2.wipe σ' vs1) Hn (fun b => O b ∨ b = A) ∧ lcGo p1 dt1 de (wipeM st1 vs1) (es.drop (j + 1)) (accD ++ accD').length = .ok rs' ∧ rs = accD' ++ rs', fun H' q => ⟨es.length - (j + 1), by omega, rfl, hlt1, q⟩, fun x1 H5 y1 => ?_⟩
            obtain ⟨e5, d1, hd1', rx1⟩ := (hw1 Hd _ g2).2 g4.dom j x1 H5 hlt1 (w1.yields j Hd x1 H5 hlt1 hG1 y1)
            have hdrop1 : es.drop j = d1 :: es.drop (j + 1) := by
              rw [List.drop_eq_getElem_cons hlt1]
              congr 1
              have hd1' : es[j]? = some d1 := hd1'
              rw [List.getElem?_eq_getElem hlt1] at hd1'
              exact Option.some.inj hd1'
            rw [hdrop1] at g5
            unfold lcGo at g5
            rw [force2_eq] at g5
            simp only [forceS_eq] at g5
            cases hs1 : setPat p1 d1 (wipeM st1 vs1) with
            | none => rw [hs1] at g5; cases g5
            | some st2 =>
            rw [hs1] at g5
            simp only at g5
            obtain ⟨σ2, r2, wq2, gq2⟩ := pat_ok p1 rx1 hs1 (g4'.ex e5)
            refine gq2 _ ⟨by rw [wq2 vs1 hp1, wipe_wipe], ?_⟩
            refine ⟨_, st2, _, r2, ?_⟩
            cases ht1 : dt1 st2 with
            | bad => rw [ht1] at g5; cases g5
            | exc c => rw [ht1] at g5; cases g5
            | ok bb =>
            rw [ht1] at g5
            intro x3 H6 e6 hx3
            obtain rfl : x3 = bb := hx3
            cases x3 with
            | false =>
              rw [if_neg (by decide)]
              have e56 := e5.trans e6
              exact ⟨acc', accD', rs', g1.trans e56, g2.trans (hide_ex e56), ⟨e56.ext _ _ g3.1 (fun ps z => nomatch z), (hide_ex e56).rpAll _ _ g3.2⟩, g4.ex e56, g4'.ex e56, g5, g6⟩
            | true =>
              rw [if_pos rfl]
              refine ⟨_, st2, _, r2.ex e6, ?_⟩
              simp only at g5
              cases he : de st2 with
              | bad => rw [he] at g5; cases g5
              | exc c => rw [he] at g5; cases g5
              | ok r =>
              rw [he] at g5
              simp only at g5
              by_cases kk : (r.keep && decide ((accD ++ accD').length < sizeLine)) = true
              · rw [if_pos kk] at g5
                have kk' := Bool.and_eq_true_iff.mp kk
                intro y3 H7 e7 ok7
                have e57 := (e5.trans e6).trans e7
                have hA7 : H7 A = some (.lst acc') := e57.ext _ _ g3.1 fun ps z => nomatch z
                have rr := ok7.rp (T := F.T) (r2.ex e6).dom kk'.1
                refine ⟨acc', hA7, by rw [g3.2.length]; exact of_decide_eq_true kk'.2, ?_⟩
                cases hr : lcGo p1 dt1 de (wipeM st1 vs1) (es.drop (j + 1)) ((accD ++ accD').length + 1) with
                | bad => rw [hr] at g5; cases g5
                | exc c => rw [hr] at g5; cases g5
                | ok rs'' =>
                rw [hr] at g5
                have g5 : Out.ok (r.d :: rs'') = Out.ok rs' := g5
                cases g5
                refine ⟨acc' ++ [y3], accD' ++ [r.d], rs'', exA _ _ (g1.trans e57) rfl ⟨_, hA7, rfl⟩, ?_, ⟨upd_same, ?_⟩, ?_, ?_, ?_, by rw [g6]; simp⟩
                · rw [hide_upd (.inr rfl)]
                  exact g2.trans (hide_ex e57)
                · rw [hide_upd (.inr rfl), ← List.append_assoc]
                  exact RpAll.append ((hide_ex e57).rpAll _ _ g3.2) (.cons rr .nil)
                · exact (g4.ex e57).updS (.inr rfl) frA hA7 rfl rfl
                · exact (g4'.ex e57).updS (.inr rfl) frA hA7 rfl rfl
                · rw [← List.append_assoc, List.length_append (as := accD ++ accD')]
                  exact hr
              · rw [if_neg kk] at g5
                cases g5
          · have : j = es.length := by omega
            subst this
            refine .inl ⟨w1.stops Hd hG1, ?_⟩
            rw [List.drop_length] at g5
            cases g5
            rw [List.append_nil] at g6
            subst g6
            exact ⟨acc', accD ++ rs, rest', g1, g3, g4, by rw [List.length_append]; exact hout, by rw [k5]; simp⟩
    · have : i = ds.length := by omega
      subst this
      refine .inl ⟨w.stops Hc hG, ?_⟩
      rw [List.drop_length] at k4
      cases k4
      rw [List.append_nil] at k5
      subst k5
      exact h _ Hc (e1.trans k1) ⟨A, rfl, (Fresh.of hA).back e1, acc, k2.1, k2.2⟩
theorem s_lc2 {elt iter iter1 : Expr} {ifs ifs1 : List Expr} {scope : Scope} {own : List (Str × Nat)} {vs1 : List Nat} {di di1 : DI} {p p1 : Pat} {dt dt1 : DT} {de : DE} (hc : X.calm = true) (hN : X.N.Nodup) (hi : PI X tg iter (TIx F W cv di)) (ok : BlkOk X.N X.env.scope scope own) (hv : ∀ i ∈ vs1, i ∈ own.map (·.2)) (hp : ∀ j ∈ p.slots, j ∈ own.map (·.2)) (hp1 : ∀ j ∈ p1.slots, j ∈ vs1)
    (hg : ∀ (s : Shared) (H : Hp) (C : Addr) (cl : List (Str × Addr)) (fp : List Addr), PG (X.blk s H scope (compEnvC scope cl C X.env) fp) tg (gPat F.K p)) (ht : ∀ (s : Shared) (H : Hp) (C : Addr) (cl : List (Str × Addr)) (fp : List Addr), PTs (X.blk s H scope (compEnvC scope cl C X.env) fp) ifs (TTx F Wb cv dt))
    (hi1 : ∀ (s : Shared) (H : Hp) (C : Addr) (cl : List (Str × Addr)) (fp : List Addr), PI (X.blk s H scope (compEnvC scope cl C X.env) fp) tg1 iter1 (TIx F Wb cv di1))
    (hg1 : ∀ (s : Shared) (H : Hp) (C : Addr) (cl : List (Str × Addr)) (fp : List Addr), PG (X.blk s H scope (compEnvC scope cl C X.env) fp) tg1 (gPat F.K p1)) (ht1 : ∀ (s : Shared) (H : Hp) (C : Addr) (cl : List (Str × Addr)) (fp : List Addr), PTs (X.blk s H scope (compEnvC scope cl C X.env) fp) ifs1 (TTx F Wb cv dt1))
    (he : ∀ (s : Shared) (H : Hp) (C : Addr) (cl : List (Str × Addr)) (fp : List Addr), PE (X.blk s H scope (compEnvC scope cl C X.env) fp) elt (TEx F Wb cv de)) (hs : ∀ x, foldedSetIterable iter X.env x = pure x) (hs1 : ∀ env x, foldedSetIterable iter1 env x = pure x) :
    PE X (.ListComp elt [⟨tg, iter, ifs, 0⟩, ⟨tg1, iter1, ifs1, 0⟩] scope pos) (TEx F W cv (dLc2 di p (own.map (·.2)) dt di1 p1 vs1 dt1 de)) :=
  pe_w (pe_lc2 hc hN hi ok hv hg ht hi1 hg1 ht1 he hs hs1) fun _ _ _ h => t_lc2 hp hp1 h
theorem s_setLc2 {ow : Bool} {j : Nat} {x : Str} {py spos : Pos} {elt iter iter1 : Expr} {ifs ifs1 : List Expr} {scope : Scope} {own : List (Str × Nat)} {vs1 : List Nat} {di di1 : DI} {p p1 : Pat} {dt dt1 : DT} {de : DE} (hc : X.calm = true) (hN : X.N.Nodup) (hj : X.N[j]? = some x) (hx : X.env.scope.names.lookup x = some .local)
    (hsw : swapsWith (.ListComp elt [⟨tg, iter, ifs, 0⟩, ⟨tg1, iter1, ifs1, 0⟩] scope pos) (some (.Name x py)) spos.line X.env = pure true)
    (hi : PI X tg iter (TIx F W cv di)) (ok : BlkOk X.N X.env.scope scope own) (hv : ∀ i ∈ vs1, i ∈ own.map (·.2)) (hp : ∀ j ∈ p.slots, j ∈ own.map (·.2)) (hp1 : ∀ j ∈ p1.slots, j ∈ vs1)
    (hg : ∀ (s : Shared) (H : Hp) (C : Addr) (cl : List (Str × Addr)) (fp : List Addr), PG (X.blk s H scope (compEnvC scope cl C X.env) fp) tg (gPat F.K p)) (ht : ∀ (s : Shared) (H : Hp) (C : Addr) (cl : List (Str × Addr)) (fp : List Addr), PTs (X.blk s H scope (compEnvC scope cl C X.env) fp) ifs (TTx F Wb cv dt))
    (hi1 : ∀ (s : Shared) (H : Hp) (C : Addr) (cl : List (Str × Addr)) (fp : List Addr), PI (X.blk s H scope (compEnvC scope cl C X.env) fp) tg1 iter1 (TIx F Wb cv di1))
    (hg1 : ∀ (s : Shared) (H : Hp) (C : Addr) (cl : List (Str × Addr)) (fp : List Addr), PG (X.blk s H scope (compEnvC scope cl C X.env) fp) tg1 (gPat F.K p1)) (ht1 : ∀ (s : Shared) (H : Hp) (C : Addr) (cl : List (Str × Addr)) (fp : List Addr), PTs (X.blk s H scope (compEnvC scope cl C X.env) fp) ifs1 (TTx F Wb cv dt1))
    (he : ∀ (s : Shared) (H : Hp) (C : Addr) (cl : List (Str × Addr)) (fp : List Addr), PE (X.blk s H scope (compEnvC scope cl C X.env) fp) elt (TEx F Wb cv de)) (hs : ∀ x, foldedSetIterable iter X.env x = pure x) (hs1 : ∀ env x, foldedSetIterable iter1 env x = pure x) :
    PS X (.Assign [.Name x py] (.ListComp elt [⟨tg, iter, ifs, 0⟩, ⟨tg1, iter1, ifs1, 0⟩] scope pos) spos) (TSx F W cv (dSet ow j (dLc2 di p (own.map (·.2)) dt di1 p1 vs1 dt1 de))) :=
  ps_w (ps_setLc2 hc hN hj hx hsw hi ok hv hg ht hi1 hg1 ht1 he hs hs1) fun D σ H h => t_lc2 hp hp1 (t_set h)
end
end Mini

set_option Elab.async false
set_option linter.all false
set_option maxRecDepth 100000
/-! Mini F: the same semantics with quick slots (what the kernel runs). -/
namespace Mini
open PySem L2 LamX
noncomputable section
/-- a slot: how it is read, set, wiped -/
structure Acc where
  i : Nat
  g : MSt → Option SV
  s : MSt → SV → MSt
  w : MSt → MSt
  hg : ∀ st, g st = (st[i]?).join
  hs : ∀ st v, s st v = st.set i (some v)
  hw : ∀ st, w st = st.set i none

def g0 (st : MSt) : Option SV := List.rec (motive := fun _ => Option SV) none (fun a0 r0 _ => a0) st
def s0 (st : MSt) (v : SV) : MSt := List.rec (motive := fun _ => MSt) st (fun a0 r0 _ => some v :: r0) st
def w0 (st : MSt) : MSt := List.rec (motive := fun _ => MSt) st (fun a0 r0 _ => none :: r0) st
theorem hg0 (st : MSt) : g0 st = (st[0]?).join := by rcases st with _ | ⟨_, _⟩ <;> rfl
theorem hs0 (st : MSt) (v : SV) : s0 st v = st.set 0 (some v) := by rcases st with _ | ⟨_, _⟩ <;> rfl
theorem hw0 (st : MSt) : w0 st = st.set 0 none := by rcases st with _ | ⟨_, _⟩ <;> rfl
def A0 : Acc := ⟨0, g0, s0, w0, hg0, hs0, hw0⟩
def g1 (st : MSt) : Option SV := List.rec (motive := fun _ => Option SV) none (fun a0 r0 _ => List.rec (motive := fun _ => Option SV) none (fun a1 r1 _ => a1) r0) st
def s1 (st : MSt) (v : SV) : MSt := List.rec (motive := fun _ => MSt) st (fun a0 r0 _ => List.rec (motive := fun _ => MSt) st (fun a1 r1 _ => a0 :: some v :: r1) r0) st
def w1 (st : MSt) : MSt := List.rec (motive := fun _ => MSt) st (fun a0 r0 _ => List.rec (motive := fun _ => MSt) st (fun a1 r1 _ => a0 :: none :: r1) r0) st
theorem hg1 (st : MSt) : g1 st = (st[1]?).join := by rcases st with _ | ⟨_, _ | ⟨_, _⟩⟩ <;> rfl
theorem hs1 (st : MSt) (v : SV) : s1 st v = st.set 1 (some v) := by rcases st with _ | ⟨_, _ | ⟨_, _⟩⟩ <;> rfl
theorem hw1 (st : MSt) : w1 st = st.set 1 none := by rcases st with _ | ⟨_, _ | ⟨_, _⟩⟩ <;> rfl
def A1 : Acc := ⟨1, g1, s1, w1, hg1, hs1, hw1⟩
def g2 (st : MSt) : Option SV := List.rec (motive := fun _ => Option SV) none (fun a0 r0 _ => List.rec (motive := fun _ => Option SV) none (fun a1 r1 _ => List.rec (motive := fun _ => Option SV) none (fun a2 r2 _ => a2) r1) r0) st
def s2 (st : MSt) (v : SV) : MSt := List.rec (motive := fun _ => MSt) st (fun a0 r0 _ => List.rec (motive := fun _ => MSt) st (fun a1 r1 _ => List.rec (motive := fun _ => MSt) st (fun a2 r2 _ => a0 :: a1 :: some v :: r2) r1) r0) st
def w2 (st : MSt) : MSt := List.rec (motive := fun _ => MSt) st (fun a0 r0 _ => List.rec (motive := fun _ => MSt) st (fun a1 r1 _ => List.rec (motive := fun _ => MSt) st (fun a2 r2 _ => a0 :: a1 :: none :: r2) r1) r0) st
theorem hg2 (st : MSt) : g2 st = (st[2]?).join := by rcases st with _ | ⟨_, _ | ⟨_, _ | ⟨_, _⟩⟩⟩ <;> rfl
theorem hs2 (st : MSt) (v : SV) : s2 st v = st.set 2 (some v) := by rcases st with _ | ⟨_, _ | ⟨_, _ | ⟨_, _⟩⟩⟩ <;> rfl
theorem hw2 (st : MSt) : w2 st = st.set 2 none := by rcases st with _ | ⟨_, _ | ⟨_, _ | ⟨_, _⟩⟩⟩ <;> rfl
def A2 : Acc := ⟨2, g2, s2, w2, hg2, hs2, hw2⟩
def g3 (st : MSt) : Option SV := List.rec (motive := fun _ => Option SV) none (fun a0 r0 _ => List.rec (motive := fun _ => Option SV) none (fun a1 r1 _ => List.rec (motive := fun _ => Option SV) none (fun a2 r2 _ => List.rec (motive := fun _ => Option SV) none (fun a3 r3 _ => a3) r2) r1) r0) st
def s3 (st : MSt) (v : SV) : MSt := List.rec (motive := fun _ => MSt) st (fun a0 r0 _ => List.rec (motive := fun _ => MSt) st (fun a1 r1 _ => List.rec (motive := fun _ => MSt) st (fun a2 r2 _ => List.rec (motive := fun _ => MSt) st (fun a3 r3 _ => a0 :: a1 :: a2 :: some v :: r3) r2) r1) r0) st
def w3 (st : MSt) : MSt := List.rec (motive := fun _ => MSt) st (fun a0 r0 _ => List.rec (motive := fun _ => MSt) st (fun a1 r1 _ => List.rec (motive := fun _ => MSt) st (fun a2 r2 _ => List.rec (motive := fun _ => MSt) st (fun a3 r3 _ => a0 :: a1 :: a2 :: none :: r3) r2) r1) r0) st
theorem hg3 (st : MSt) : g3 st = (st[3]?).join := by rcases st with _ | ⟨_, _ | ⟨_, _ | ⟨_, _ | ⟨_, _⟩⟩⟩⟩ <;> rfl
theorem hs3 (st : MSt) (v : SV) : s3 st v = st.set 3 (some v) := by rcases st with _ | ⟨_, _ | ⟨_, _ | ⟨_, _ | ⟨_, _⟩⟩⟩⟩ <;> rfl
theorem hw3 (st : MSt) : w3 st = st.set 3 none := by rcases st with _ | ⟨_, _ | ⟨_, _ | ⟨_, _ | ⟨_, _⟩⟩⟩⟩ <;> rfl
def A3 : Acc := ⟨3, g3, s3, w3, hg3, hs3, hw3⟩
def g4 (st : MSt) : Option SV := List.rec (motive := fun _ => Option SV) none (fun a0 r0 _ => List.rec (motive := fun _ => Option SV) none (fun a1 r1 _ => List.rec (motive := fun _ => Option SV) none (fun a2 r2 _ => List.rec (motive := fun _ => Option SV) none (fun a3 r3 _ => List.rec (motive := fun _ => Option SV) none (fun a4 r4 _ => a4) r3) r2) r1) r0) st
def s4 (st : MSt) (v : SV) : MSt := List.rec (motive := fun _ => MSt) st (fun a0 r0 _ => List.rec (motive := fun _ => MSt) st (fun a1 r1 _ => List.rec (motive := fun _ => MSt) st (fun a2 r2 _ => List.rec (motive := fun _ => MSt) st (fun a3 r3 _ => List.rec (motive := fun _ => MSt) st (fun a4 r4 _ => a0 :: a1 :: a2 :: a3 :: some v :: r4) r3) r2) r1) r0) st
def w4 (st : MSt) : MSt := List.rec (motive := fun _ => MSt) st (fun a0 r0 _ => List.rec (motive := fun _ => MSt) st (fun a1 r1 _ => List.rec (motive := fun _ => MSt) st (fun a2 r2 _ => List.rec (motive := fun _ => MSt) st (fun a3 r3 _ => List.rec (motive := fun _ => MSt) st (fun a4 r4 _ => a0 :: a1 :: a2 :: a3 :: none :: r4) r3) r2) r1) r0) st
theorem hg4 (st : MSt) : g4 st = (st[4]?).join := by rcases st with _ | ⟨_, _ | ⟨_, _ | ⟨_, _ | ⟨_, _ | ⟨_, _⟩⟩⟩⟩⟩ <;> rfl
theorem hs4 (st : MSt) (v : SV) : s4 st v = st.set 4 (some v) := by rcases st with _ | ⟨_, _ | ⟨_, _ | ⟨_, _ | ⟨_, _ | ⟨_, _⟩⟩⟩⟩⟩ <;> rfl
theorem hw4 (st : MSt) : w4 st = st.set 4 none := by rcases st with _ | ⟨_, _ | ⟨_, _ | ⟨_, _ | ⟨_, _ | ⟨_, _⟩⟩⟩⟩⟩ <;> rfl
def A4 : Acc := ⟨4, g4, s4, w4, hg4, hs4, hw4⟩
def g5 (st : MSt) : Option SV := List.rec (motive := fun _ => Option SV) none (fun a0 r0 _ => List.rec (motive := fun _ => Option SV) none (fun a1 r1 _ => List.rec (motive := fun _ => Option SV) none (fun a2 r2 _ => List.rec (motive := fun _ => Option SV) none (fun a3 r3 _ => List.rec (motive := fun _ => Option SV) none (fun a4 r4 _ => List.rec (motive := fun _ => Option SV) none (fun a5 r5 _ => a5) r4) r3) r2) r1) r0) st
def s5 (st : MSt) (v : SV) : MSt := List.rec (motive := fun _ => MSt) st (fun a0 r0 _ => List.rec (motive := fun _ => MSt) st (fun a1 r1 _ => List.rec (motive := fun _ => MSt) st (fun a2 r2 _ => List.rec (motive := fun _ => MSt) st (fun a3 r3 _ => List.rec (motive := fun _ => MSt) st (fun a4 r4 _ => List.rec (motive := fun _ => MSt) st (fun a5 r5 _ => a0 :: a1 :: a2 :: a3 :: a4 :: some v :: r5) r4) r3) r2) r1) r0) st
def w5 (st : MSt) : MSt := List.rec (motive := fun _ => MSt) st (fun a0 r0 _ => List.rec (motive := fun _ => MSt) st (fun a1 r1 _ => List.rec (motive := fun _ => MSt) st (fun a2 r2 _ => List.rec (motive := fun _ => MSt) st (fun a3 r3 _ => List.rec (motive := fun _ => MSt) st (fun a4 r4 _ => List.rec (motive := fun _ => MSt) st (fun a5 r5 _ => a0 :: a1 :: a2 :: a3 :: a4 :: none :: r5) r4) r3) r2) r1) r0) st
theorem hg5 (st : MSt) : g5 st = (st[5]?).join := by rcases st with _ | ⟨_, _ | ⟨_, _ | ⟨_, _ | ⟨_, _ | ⟨_, _ | ⟨_, _⟩⟩⟩⟩⟩⟩ <;> rfl
theorem hs5 (st : MSt) (v : SV) : s5 st v = st.set 5 (some v) := by rcases st with _ | ⟨_, _ | ⟨_, _ | ⟨_, _ | ⟨_, _ | ⟨_, _ | ⟨_, _⟩⟩⟩⟩⟩⟩ <;> rfl
theorem hw5 (st : MSt) : w5 st = st.set 5 none := by rcases st with _ | ⟨_, _ | ⟨_, _ | ⟨_, _ | ⟨_, _ | ⟨_, _ | ⟨_, _⟩⟩⟩⟩⟩⟩ <;> rfl
def A5 : Acc := ⟨5, g5, s5, w5, hg5, hs5, hw5⟩
def g6 (st : MSt) : Option SV := List.rec (motive := fun _ => Option SV) none (fun a0 r0 _ => List.rec (motive := fun _ => Option SV) none (fun a1 r1 _ => List.rec (motive := fun _ => Option SV) none (fun a2 r2 _ => List.rec (motive := fun _ => Option SV) none (fun a3 r3 _ => List.rec (motive := fun _ => Option SV) none (fun a4 r4 _ => List.rec (motive := fun _ => Option SV) none (fun a5 r5 _ => List.rec (motive := fun _ => Option SV) none (fun a6 r6 _ => a6) r5) r4) r3) r2) r1) r0) st
def s6 (st : MSt) (v : SV) : MSt := List.rec (motive := fun _ => MSt) st (fun a0 r0 _ => List.rec (motive := fun _ => MSt) st (fun a1 r1 _ => List.rec (motive := fun _ => MSt) st (fun a2 r2 _ => List.rec (motive := fun _ => MSt) st (fun a3 r3 _ => List.rec (motive := fun _ => MSt) st (fun a4 r4 _ => List.rec (motive := fun _ => MSt) st (fun a5 r5 _ => List.rec (motive := fun _ => MSt) st (fun a6 r6 _ => a0 :: a1 :: a2 :: a3 :: a4 :: a5 :: some v :: r6) r5) r4) r3) r2) r1) r0) st
def w6 (st : MSt) : MSt := List.rec (motive := fun _ => MSt) st (fun a0 r0 _ => List.rec (motive := fun _ => MSt) st (fun a1 r1 _ => List.rec (motive := fun _ => MSt) st (fun a2 r2 _ => List.rec (motive := fun _ => MSt) st (fun a3 r3 _ => List.rec (motive := fun _ => MSt) st (fun a4 r4 _ => List.rec (motive := fun _ => MSt) st (fun a5 r5 _ => List.rec (motive := fun _ => MSt) st (fun a6 r6 _ => a0 :: a1 :: a2 :: a3 :: a4 :: a5 :: none :: r6) r5) r4) r3) r2) r1) r0) st
theorem hg6 (st : MSt) : g6 st = (st[6]?).join := by rcases st with _ | ⟨_, _ | ⟨_, _ | ⟨_, _ | ⟨_, _ | ⟨_, _ | ⟨_, _ | ⟨_, _⟩⟩⟩⟩⟩⟩⟩ <;> rfl
theorem hs6 (st : MSt) (v : SV) : s6 st v = st.set 6 (some v) := by rcases st with _ | ⟨_, _ | ⟨_, _ | ⟨_, _ | ⟨_, _ | ⟨_, _ | ⟨_, _ | ⟨_, _⟩⟩⟩⟩⟩⟩⟩ <;> rfl
theorem hw6 (st : MSt) : w6 st = st.set 6 none := by rcases st with _ | ⟨_, _ | ⟨_, _ | ⟨_, _ | ⟨_, _ | ⟨_, _ | ⟨_, _ | ⟨_, _⟩⟩⟩⟩⟩⟩⟩ <;> rfl
def A6 : Acc := ⟨6, g6, s6, w6, hg6, hs6, hw6⟩
def g7 (st : MSt) : Option SV := List.rec (motive := fun _ => Option SV) none (fun a0 r0 _ => List.rec (motive := fun _ => Option SV) none (fun a1 r1 _ => List.rec (motive := fun _ => Option SV) none (fun a2 r2 _ => List.rec (motive := fun _ => Option SV) none (fun a3 r3 _ => List.rec (motive := fun _ => Option SV) none (fun a4 r4 _ => List.rec (motive := fun _ => Option SV) none (fun a5 r5 _ => List.rec (motive := fun _ => Option SV) none (fun a6 r6 _ => List.rec (motive := fun _ => Option SV) none (fun a7 r7 _ => a7) r6) r5) r4) r3) r2) r1) r0) st
def s7 (st : MSt) (v : SV) : MSt := List.rec (motive := fun _ => MSt) st (fun a0 r0 _ => List.rec (motive := fun _ => MSt) st (fun a1 r1 _ => List.rec (motive := fun _ => MSt) st (fun a2 r2 _ => List.rec (motive := fun _ => MSt) st (fun a3 r3 _ => List.rec (motive := fun _ => MSt) st (fun a4 r4 _ => List.rec (motive := fun _ => MSt) st (fun a5 r5 _ => List.rec (motive := fun _ => MSt) st (fun a6 r6 _ => List.rec (motive := fun _ => MSt) st (fun a7 r7 _ => a0 :: a1 :: a2 :: a3 :: a4 :: a5 :: a6 :: some v :: r7) r6) r5) r4) r3) r2) r1) r0) st
def w7 (st : MSt) : MSt := List.rec (motive := fun _ => MSt) st (fun a0 r0 _ => List.rec (motive := fun _ => MSt) st (fun a1 r1 _ => List.rec (motive := fun _ => MSt) st (fun a2 r2 _ => List.rec (motive := fun _ => MSt) st (fun a3 r3 _ => List.rec (motive := fun _ => MSt) st (fun a4 r4 _ => List.rec (motive := fun _ => MSt) st (fun a5 r5 _ => List.rec (motive := fun _ => MSt) st (fun a6 r6 _ => List.rec (motive := fun _ => MSt) st (fun a7 r7 _ => a0 :: a1 :: a2 :: a3 :: a4 :: a5 :: a6 :: none :: r7) r6) r5) r4) r3) r2) r1) r0) st
theorem hg7 (st : MSt) : g7 st = (st[7]?).join := by rcases st with _ | ⟨_, _ | ⟨_, _ | ⟨_, _ | ⟨_, _ | ⟨_, _ | ⟨_, _ | ⟨_, _ | ⟨_, _⟩⟩⟩⟩⟩⟩⟩⟩ <;> rfl
theorem hs7 (st : MSt) (v : SV) : s7 st v = st.set 7 (some v) := by rcases st with _ | ⟨_, _ | ⟨_, _ | ⟨_, _ | ⟨_, _ | ⟨_, _ | ⟨_, _ | ⟨_, _ | ⟨_, _⟩⟩⟩⟩⟩⟩⟩⟩ <;> rfl
theorem hw7 (st : MSt) : w7 st = st.set 7 none := by rcases st with _ | ⟨_, _ | ⟨_, _ | ⟨_, _ | ⟨_, _ | ⟨_, _ | ⟨_, _ | ⟨_, _ | ⟨_, _⟩⟩⟩⟩⟩⟩⟩⟩ <;> rfl
def A7 : Acc := ⟨7, g7, s7, w7, hg7, hs7, hw7⟩
def g8 (st : MSt) : Option SV := List.rec (motive := fun _ => Option SV) none (fun a0 r0 _ => List.rec (motive := fun _ => Option SV) none (fun a1 r1 _ => List.rec (motive := fun _ => Option SV) none (fun a2 r2 _ => List.rec (motive := fun _ => Option SV) none (fun a3 r3 _ => List.rec (motive := fun _ => Option SV) none (fun a4 r4 _ => List.rec (motive := fun _ => Option SV) none (fun a5 r5 _ => List.rec (motive := fun _ => Option SV) none (fun a6 r6 _ => List.rec (motive := fun _ => Option SV) none (fun a7 r7 _ => List.rec (motive := fun _ => Option SV) none (fun a8 r8 _ => a8) r7) r6) r5) r4) r3) r2) r1) r0) st
def s8 (st : MSt) (v : SV) : MSt := List.rec (motive := fun _ => MSt) st (fun a0 r0 _ => List.rec (motive := fun _ => MSt) st (fun a1 r1 _ => List.rec (motive := fun _ => MSt) st (fun a2 r2 _ => List.rec (motive := fun _ => MSt) st (fun a3 r3 _ => List.rec (motive := fun _ => MSt) st (fun a4 r4 _ => List.rec (motive := fun _ => MSt) st (fun a5 r5 _ => List.rec (motive := fun _ => MSt) st (fun a6 r6 _ => List.rec (motive := fun _ => MSt) st (fun a7 r7 _ => List.rec (motive := fun _ => MSt) st (fun a8 r8 _ => a0 :: a1 :: a2 :: a3 :: a4 :: a5 :: a6 :: a7 :: some v :: r8) r7) r6) r5) r4) r3) r2) r1) r0) st
def w8 (st : MSt) : MSt := List.rec (motive := fun _ => MSt) st (fun a0 r0 _ => List.rec (motive := fun _ => MSt) st (fun a1 r1 _ => List.rec (motive := fun _ => MSt) st (fun a2 r2 _ => List.rec (motive := fun _ => MSt) st (fun a3 r3 _ => List.rec (motive := fun _ => MSt) st (fun a4 r4 _ => List.rec (motive := fun _ => MSt) st (fun a5 r5 _ => List.rec (motive := fun _ => MSt) st (fun a6 r6 _ => List.rec (motive := fun _ => MSt) st (fun a7 r7 _ => List.rec (motive := fun _ => MSt) st (fun a8 r8 _ => a0 :: a1 :: a2 :: a3 :: a4 :: a5 :: a6 :: a7 :: none :: r8) r7) r6) r5) r4) r3) r2) r1) r0) st
theorem hg8 (st : MSt) : g8 st = (st[8]?).join := by rcases st with _ | ⟨_, _ | ⟨_, _ | ⟨_, _ | ⟨_, _ | ⟨_, _ | ⟨_, _ | ⟨_, _ | ⟨_, _ | ⟨_, _⟩⟩⟩⟩⟩⟩⟩⟩⟩ <;> rfl
theorem hs8 (st : MSt) (v : SV) : s8 st v = st.set 8 (some v) := by rcases st with _ | ⟨_, _ | ⟨_, _ | ⟨_, _ | ⟨_, _ | ⟨_, _ | ⟨_, _ | ⟨_, _ | ⟨_, _ | ⟨_, _⟩⟩⟩⟩⟩⟩⟩⟩⟩ <;> rfl
theorem hw8 (st : MSt) : w8 st = st.set 8 none := by rcases st with _ | ⟨_, _ | ⟨_, _ | ⟨_, _ | ⟨_, _ | ⟨_, _ | ⟨_, _ | ⟨_, _ | ⟨_, _ | ⟨_, _⟩⟩⟩⟩⟩⟩⟩⟩⟩ <;> rfl
def A8 : Acc := ⟨8, g8, s8, w8, hg8, hs8, hw8⟩
def g9 (st : MSt) : Option SV := List.rec (motive := fun _ => Option SV) none (fun a0 r0 _ => List.rec (motive := fun _ => Option SV) none (fun a1 r1 _ => List.rec (motive := fun _ => Option SV) none (fun a2 r2 _ => List.rec (motive := fun _ => Option SV) none (fun a3 r3 _ => List.rec (motive := fun _ => Option SV) none (fun a4 r4 _ => List.rec (motive := fun _ => Option SV) none (fun a5 r5 _ => List.rec (motive := fun _ => Option SV) none (fun a6 r6 _ => List.rec (motive := fun _ => Option SV) none (fun a7 r7 _ => List.rec (motive := fun _ => Option SV) none (fun a8 r8 _ => List.rec (motive := fun _ => Option SV) none (fun a9 r9 _ => a9) r8) r7) r6) r5) r4) r3) r2) r1) r0) st
def s9 (st : MSt) (v : SV) : MSt := List.rec (motive := fun _ => MSt) st (fun a0 r0 _ => List.rec (motive := fun _ => MSt) st (fun a1 r1 _ => List.rec (motive := fun _ => MSt) st (fun a2 r2 _ => List.rec (motive := fun _ => MSt) st (fun a3 r3 _ => List.rec (motive := fun _ => MSt) st (fun a4 r4 _ => List.rec (motive := fun _ => MSt) st (fun a5 r5 _ => List.rec (motive := fun _ => MSt) st (fun a6 r6 _ => List.rec (motive := fun _ => MSt) st (fun a7 r7 _ => List.rec (motive := fun _ => MSt) st (fun a8 r8 _ => List.rec (motive := fun _ => MSt) st (fun a9 r9 _ => a0 :: a1 :: a2 :: a3 :: a4 :: a5 :: a6 :: a7 :: a8 :: some v :: r9) r8) r7) r6) r5) r4) r3) r2) r1) r0) st
def w9 (st : MSt) : MSt := List.rec (motive := fun _ => MSt) st (fun a0 r0 _ => List.rec (motive := fun _ => MSt) st (fun a1 r1 _ => List.rec (motive := fun _ => MSt) st (fun a2 r2 _ => List.rec (motive := fun _ => MSt) st (fun a3 r3 _ => List.rec (motive := fun _ => MSt) st (fun a4 r4 _ => List.rec (motive := fun _ => MSt) st (fun a5 r5 _ => List.rec (motive := fun _ => MSt) st (fun a6 r6 _ => List.rec (motive := fun _ => MSt) st (fun a7 r7 _ => List.rec (motive := fun _ => MSt) st (fun a8 r8 _ => List.rec (motive := fun _ => MSt) st (fun a9 r9 _ => a0 :: a1 :: a2 :: a3 :: a4 :: a5 :: a6 :: a7 :: a8 :: none :: r9) r8) r7) r6) r5) r4) r3) r2) r1) r0) st
theorem hg9 (st : MSt) : g9 st = (st[9]?).join := by rcases st with _ | ⟨_, _ | ⟨_, _ | ⟨_, _ | ⟨_, _ | ⟨_, _ | ⟨_, _ | ⟨_, _ | ⟨_, _ | ⟨_, _ | ⟨_, _⟩⟩⟩⟩⟩⟩⟩⟩⟩⟩ <;> rfl
theorem hs9 (st : MSt) (v : SV) : s9 st v = st.set 9 (some v) := by rcases st with _ | ⟨_, _ | ⟨_, _ | ⟨_, _ | ⟨_, _ | ⟨_, _ | ⟨_, _ | ⟨_, _ | ⟨_, _ | ⟨_, _ | ⟨_, _⟩⟩⟩⟩⟩⟩⟩⟩⟩⟩ <;> rfl
theorem hw9 (st : MSt) : w9 st = st.set 9 none := by rcases st with _ | ⟨_, _ | ⟨_, _ | ⟨_, _ | ⟨_, _ | ⟨_, _ | ⟨_, _ | ⟨_, _ | ⟨_, _ | ⟨_, _ | ⟨_, _⟩⟩⟩⟩⟩⟩⟩⟩⟩⟩ <;> rfl
def A9 : Acc := ⟨9, g9, s9, w9, hg9, hs9, hw9⟩
def g10 (st : MSt) : Option SV := List.rec (motive := fun _ => Option SV) none (fun a0 r0 _ => List.rec (motive := fun _ => Option SV) none (fun a1 r1 _ => List.rec (motive := fun _ => Option SV) none (fun a2 r2 _ => List.rec (motive := fun _ => Option SV) none (fun a3 r3 _ => List.rec (motive := fun _ => Option SV) none (fun a4 r4 _ => List.rec (motive := fun _ => Option SV) none (fun a5 r5 _ => List.rec (motive := fun _ => Option SV) none (fun a6 r6 _ => List.rec (motive := fun _ => Option SV) none (fun a7 r7 _ => List.rec (motive := fun _ => Option SV) none (fun a8 r8 _ => List.rec (motive := fun _ => Option SV) none (fun a9 r9 _ => List.rec (motive := fun _ => Option SV) none (fun a10 r10 _ => a10) r9) r8) r7) r6) r5) r4) r3) r2) r1) r0) st
def s10 (st : MSt) (v : SV) : MSt := List.rec (motive := fun _ => MSt) st (fun a0 r0 _ => List.rec (motive := fun _ => MSt) st (fun a1 r1 _ => List.rec (motive := fun _ => MSt) st (fun a2 r2 _ => List.rec (motive := fun _ => MSt) st (fun a3 r3 _ => List.rec (motive := fun _ => MSt) st (fun a4 r4 _ => List.rec (motive := fun _ => MSt) st (fun a5 r5 _ => List.rec (motive := fun _ => MSt) st (fun a6 r6 _ => List.rec (motive := fun _ => MSt) st (fun a7 r7 _ => List.rec (motive := fun _ => MSt) st (fun a8 r8 _ => List.rec (motive := fun _ => MSt) st (fun a9 r9 _ => List.rec (motive := fun _ => MSt) st (fun a10 r10 _ => a0 :: a1 :: a2 :: a3 :: a4 :: a5 :: a6 :: a7 :: a8 :: a9 :: some v :: r10) r9) r8) r7) r6) r5) r4) r3) r2) r1) r0) st
def w10 (st : MSt) : MSt := List.rec (motive := fun _ => MSt) st (fun a0 r0 _ => List.rec (motive := fun _ => MSt) st (fun a1 r1 _ => List.rec (motive := fun _ => MSt) st (fun a2 r2 _ => List.rec (motive := fun _ => MSt) st (fun a3 r3 _ => List.rec (motive := fun _ => MSt) st (fun a4 r4 _ => List.rec (motive := fun _ => MSt) st (fun a5 r5 _ => List.rec (motive := fun _ => MSt) st (fun a6 r6 _ => List.rec (motive := fun _ => MSt) st (fun a7 r7 _ => List.rec (motive := fun _ => MSt) st (fun a8 r8 _ => List.rec (motive := fun _ => MSt) st (fun a9 r9 _ => List.rec (motive := fun _ => MSt) st (fun a10 r10 _ => a0 :: a1 :: a2 :: a3 :: a4 :: a5 :: a6 :: a7 :: a8 :: a9 :: none :: r10) r9) r8) r7) r6) r5) r4) r3) r2) r1) r0) st
theorem hg10 (st : MSt) : g10 st = (st[10]?).join := by rcases st with _ | ⟨_, _ | ⟨_, _ | ⟨_, _ | ⟨_, _ | ⟨_, _ | ⟨_, _ | ⟨_, _ | ⟨_, _ | ⟨_, _ | ⟨_, _ | ⟨_, _⟩⟩⟩⟩⟩⟩⟩⟩⟩⟩⟩ <;> rfl
theorem hs10 (st : MSt) (v : SV) : s10 st v = st.set 10 (some v) := by rcases st with _ | ⟨_, _ | ⟨_, _ | ⟨_, _ | ⟨_, _ | ⟨_, _ | ⟨_, _ | ⟨_, _ | ⟨_, _ | ⟨_, _ | ⟨_, _ | ⟨_, _⟩⟩⟩⟩⟩⟩⟩⟩⟩⟩⟩ <;> rfl
theorem hw10 (st : MSt) : w10 st = st.set 10 none := by rcases st with _ | ⟨_, _ | ⟨_, _ | ⟨_, _ | ⟨_, _ | ⟨_, _ | ⟨_, _ | ⟨_, _ | ⟨_, _ | ⟨_, _ | ⟨_, _ | ⟨_, _⟩⟩⟩⟩⟩⟩⟩⟩⟩⟩⟩ <;> rfl
def A10 : Acc := ⟨10, g10, s10, w10, hg10, hs10, hw10⟩
def g11 (st : MSt) : Option SV := List.rec (motive := fun _ => Option SV) none (fun a0 r0 _ => List.rec (motive := fun _ => Option SV) none (fun a1 r1 _ => List.rec (motive := fun _ => Option SV) none (fun a2 r2 _ => List.rec (motive := fun _ => Option SV) none (fun a3 r3 _ => List.rec (motive := fun _ => Option SV) none (fun a4 r4 _ => List.rec (motive := fun _ => Option SV) none (fun a5 r5 _ => List.rec (motive := fun _ => Option SV) none (fun a6 r6 _ => List.rec (motive := fun _ => Option SV) none (fun a7 r7 _ => List.rec (motive := fun _ => Option SV) none (fun a8 r8 _ => List.rec (motive := fun _ => Option SV) none (fun a9 r9 _ => List.rec (motive := fun _ => Option SV) none (fun a10 r10 _ => List.rec (motive := fun _ => Option SV) none (fun a11 r11 _ => a11) r10) r9) r8) r7) r6) r5) r4) r3) r2) r1) r0) st
def s11 (st : MSt) (v : SV) : MSt := List.rec (motive := fun _ => MSt) st (fun a0 r0 _ => List.rec (motive := fun _ => MSt) st (fun a1 r1 _ => List.rec (motive := fun _ => MSt) st (fun a2 r2 _ => List.rec (motive := fun _ => MSt) st (fun a3 r3 _ => List.rec (motive := fun _ => MSt) st (fun a4 r4 _ => List.rec (motive := fun _ => MSt) st (fun a5 r5 _ => List.rec (motive := fun _ => MSt) st (fun a6 r6 _ => List.rec (motive := fun _ => MSt) st (fun a7 r7 _ => List.rec (motive := fun _ => MSt) st (fun a8 r8 _ => List.rec (motive := fun _ => MSt) st (fun a9 r9 _ => List.rec (motive := fun _ => MSt) st (fun a10 r10 _ => List.rec (motive := fun _ => MSt) st (fun a11 r11 _ => a0 :: a1 :: a2 :: a3 :: a4 :: a5 :: a6 :: a7 :: a8 :: a9 :: a10 :: some v :: r11) r10) r9) r8) r7) r6) r5) r4) r3) r2) r1) r0) st
def w11 (st : MSt) : MSt := List.rec (motive := fun _ => MSt) st (fun a0 r0 _ => List.rec (motive := fun _ => MSt) st (fun a1 r1 _ => List.rec (motive := fun _ => MSt) st (fun a2 r2 _ => List.rec (motive := fun _ => MSt) st (fun a3 r3 _ => List.rec (motive := fun _ => MSt) st (fun a4 r4 _ => List.rec (motive := fun _ => MSt) st (fun a5 r5 _ => List.rec (motive := fun _ => MSt) st (fun a6 r6 _ => List.rec (motive := fun _ => MSt) st (fun a7 r7 _ => List.rec (motive := fun _ => MSt) st (fun a8 r8 _ => List.rec (motive := fun _ => MSt) st (fun a9 r9 _ => List.rec (motive := fun _ => MSt) st (fun a10 r10 _ => List.rec (motive := fun _ => MSt) st (fun a11 r11 _ => a0 :: a1 :: a2 :: a3 :: a4 :: a5 :: a6 :: a7 :: a8 :: a9 :: a10 :: none :: r11) r10) r9) r8) r7) r6) r5) r4) r3) r2) r1) r0) st
theorem hg11 (st : MSt) : g11 st = (st[11]?).join := by rcases st with _ | ⟨_, _ | ⟨_, _ | ⟨_, _ | ⟨_, _ | ⟨_, _ | ⟨_, _ | ⟨_, _ | ⟨_, _ | ⟨_, _ | ⟨_, _ | ⟨_, _ | ⟨_, _⟩⟩⟩⟩⟩⟩⟩⟩⟩⟩⟩⟩ <;> rfl
theorem hs11 (st : MSt) (v : SV) : s11 st v = st.set 11 (some v) := by rcases st with _ | ⟨_, _ | ⟨_, _ | ⟨_, _ | ⟨_, _ | ⟨_, _ | ⟨_, _ | ⟨_, _ | ⟨_, _ | ⟨_, _ | ⟨_, _ | ⟨_, _ | ⟨_, _⟩⟩⟩⟩⟩⟩⟩⟩⟩⟩⟩⟩ <;> rfl
theorem hw11 (st : MSt) : w11 st = st.set 11 none := by rcases st with _ | ⟨_, _ | ⟨_, _ | ⟨_, _ | ⟨_, _ | ⟨_, _ | ⟨_, _ | ⟨_, _ | ⟨_, _ | ⟨_, _ | ⟨_, _ | ⟨_, _ | ⟨_, _⟩⟩⟩⟩⟩⟩⟩⟩⟩⟩⟩⟩ <;> rfl
def A11 : Acc := ⟨11, g11, s11, w11, hg11, hs11, hw11⟩
def g12 (st : MSt) : Option SV := List.rec (motive := fun _ => Option SV) none (fun a0 r0 _ => List.rec (motive := fun _ => Option SV) none (fun a1 r1 _ => List.rec (motive := fun _ => Option SV) none (fun a2 r2 _ => List.rec (motive := fun _ => Option SV) none (fun a3 r3 _ => List.rec (motive := fun _ => Option SV) none (fun a4 r4 _ => List.rec (motive := fun _ => Option SV) none (fun a5 r5 _ => List.rec (motive := fun _ => Option SV) none (fun a6 r6 _ => List.rec (motive := fun _ => Option SV) none (fun a7 r7 _ => List.rec (motive := fun _ => Option SV) none (fun a8 r8 _ => List.rec (motive := fun _ => Option SV) none (fun a9 r9 _ => List.rec (motive := fun _ => Option SV) none (fun a10 r10 _ => List.rec (motive := fun _ => Option SV) none (fun a11 r11 _ => List.rec (motive := fun _ => Option SV) none (fun a12 r12 _ => a12) r11) r10) r9) r8) r7) r6) r5) r4) r3) r2) r1) r0) st
def s12 (st : MSt) (v : SV) : MSt := List.rec (motive := fun _ => MSt) st (fun a0 r0 _ => List.rec (motive := fun _ => MSt) st (fun a1 r1 _ => List.rec (motive := fun _ => MSt) st (fun a2 r2 _ => List.rec (motive := fun _ => MSt) st (fun a3 r3 _ => List.rec (motive := fun _ => MSt) st (fun a4 r4 _ => List.rec (motive := fun _ => MSt) st (fun a5 r5 _ => List.rec (motive := fun _ => MSt) st (fun a6 r6 _ => List.rec (motive := fun _ => MSt) st (fun a7 r7 _ => List.rec (motive := fun _ => MSt) st (fun a8 r8 _ => List.rec (motive := fun _ => MSt) st (fun a9 r9 _ => List.rec (motive := fun _ => MSt) st (fun a10 r10 _ => List.rec (motive := fun _ => MSt) st (fun a11 r11 _ => List.rec (motive := fun _ => MSt) st (fun a12 r12 _ => a0 :: a1 :: a2 :: a3 :: a4 :: a5 :: a6 :: a7 :: a8 :: a9 :: a10 :: a11 :: some v :: r12) r11) r10) r9) r8) r7) r6) r5) r4) r3) r2) r1) r0) st
def w12 (st : MSt) : MSt := List.rec (motive := fun _ => MSt) st (fun a0 r0 _ => List.rec (motive := fun _ => MSt) st (fun a1 r1 _ => List.rec (motive := fun _ => MSt) st (fun a2 r2 _ => List.rec (motive := fun _ => MSt) st (fun a3 r3 _ => List.rec (motive := fun _ => MSt) st (fun a4 r4 _ => List.rec (motive := fun _ => MSt) st (fun a5 r5 _ => List.rec (motive := fun _ => MSt) st (fun a6 r6 _ => List.rec (motive := fun _ => MSt) st (fun a7 r7 _ => List.rec (motive := fun _ => MSt) st (fun a8 r8 _ => List.rec (motive := fun _ => MSt) st (fun a9 r9 _ => List.rec (motive := fun _ => MSt) st (fun a10 r10 _ => List.rec (motive := fun _ => MSt) st (fun a11 r11 _ => List.rec (motive := fun _ => MSt) st (fun a12 r12 _ => a0 :: a1 :: a2 :: a3 :: a4 :: a5 :: a6 :: a7 :: a8 :: a9 :: a10 :: a11 :: none :: r12) r11) r10) r9) r8) r7) r6) r5) r4) r3) r2) r1) r0) st
theorem hg12 (st : MSt) : g12 st = (st[12]?).join := by rcases st with _ | ⟨_, _ | ⟨_, _ | ⟨_, _ | ⟨_, _ | ⟨_, _ | ⟨_, _ | ⟨_, _ | ⟨_, _ | ⟨_, _ | ⟨_, _ | ⟨_, _ | ⟨_, _ | ⟨_, _⟩⟩⟩⟩⟩⟩⟩⟩⟩⟩⟩⟩⟩ <;> rfl
theorem hs12 (st : MSt) (v : SV) : s12 st v = st.set 12 (some v) := by rcases st with _ | ⟨_, _ | ⟨_, _ | ⟨_, _ | ⟨_, _ | ⟨_, _ | ⟨_, _ | ⟨_, _ | ⟨_, _ | ⟨_, _ | ⟨_, _ | ⟨_, _ | ⟨_, _ | ⟨_, _⟩⟩⟩⟩⟩⟩⟩⟩⟩⟩⟩⟩⟩ <;> rfl
theorem hw12 (st : MSt) : w12 st = st.set 12 none := by rcases st with _ | ⟨_, _ | ⟨_, _ | ⟨_, _ | ⟨_, _ | ⟨_, _ | ⟨_, _ | ⟨_, _ | ⟨_, _ | ⟨_, _ | ⟨_, _ | ⟨_, _ | ⟨_, _ | ⟨_, _⟩⟩⟩⟩⟩⟩⟩⟩⟩⟩⟩⟩⟩ <;> rfl
def A12 : Acc := ⟨12, g12, s12, w12, hg12, hs12, hw12⟩
def g13 (st : MSt) : Option SV := List.rec (motive := fun _ => Option SV) none (fun a0 r0 _ => List.rec (motive := fun _ => Option SV) none (fun a1 r1 _ => List.rec (motive := fun _ => Option SV) none (fun a2 r2 _ => List.rec (motive := fun _ => Option SV) none (fun a3 r3 _ => List.rec (motive := fun _ => Option SV) none (fun a4 r4 _ => List.rec (motive := fun _ => Option SV) none (fun a5 r5 _ => List.rec (motive := fun _ => Option SV) none (fun a6 r6 _ => List.rec (motive := fun _ => Option SV) none (fun a7 r7 _ => List.rec (motive := fun _ => Option SV) none (fun a8 r8 _ => List.rec (motive := fun _ => Option SV) none (fun a9 r9 _ => List.rec (motive := fun _ => Option SV) none (fun a10 r10 _ => List.rec (motive := fun _ => Option SV) none (fun a11 r11 _ => List.rec (motive := fun _ => Option SV) none (fun a12 r12 _ => List.rec (motive := fun _ => Option SV) none (fun a13 r13 _ => a13) r12) r11) r10) r9) r8) r7) r6) r5) r4) r3) r2) r1) r0) st
def s13 (st : MSt) (v : SV) : MSt := List.rec (motive := fun _ => MSt) st (fun a0 r0 _ => List.rec (motive := fun _ => MSt) st (fun a1 r1 _ => List.rec (motive := fun _ => MSt) st (fun a2 r2 _ => List.rec (motive := fun _ => MSt) st (fun a3 r3 _ => List.rec (motive := fun _ => MSt) st (fun a4 r4 _ => List.rec (motive := fun _ => MSt) st (fun a5 r5 _ => List.rec (motive := fun _ => MSt) st (fun a6 r6 _ => List.rec (motive := fun _ => MSt) st (fun a7 r7 _ => List.rec (motive := fun _ => MSt) st (fun a8 r8 _ => List.rec (motive := fun _ => MSt) st (fun a9 r9 _ => List.rec (motive := fun _ => MSt) st (fun a10 r10 _ => List.rec (motive := fun _ => MSt) st (fun a11 r11 _ => List.rec (motive := fun _ => MSt) st (fun a12 r12 _ => List.rec (motive := fun _ => MSt) st (fun a13 r13 _ => a0 :: a1 :: a2 :: a3 :: a4 :: a5 :: a6 :: a7 :: a8 :: a9 :: a10 :: a11 :: a12 :: some v :: r13) r12) r11) r10) r9) r8) r7) r6) r5) r4) r3) r2) r1) r0) st
def w13 (st : MSt) : MSt := List.rec (motive := fun _ => MSt) st (fun a0 r0 _ => List.rec (motive := fun _ => MSt) st (fun a1 r1 _ => List.rec (motive := fun _ => MSt) st (fun a2 r2 _ => List.rec (motive := fun _ => MSt) st (fun a3 r3 _ => List.rec (motive := fun _ => MSt) st (fun a4 r4 _ => List.rec (motive := fun _ => MSt) st (fun a5 r5 _ => List.rec (motive := fun _ => MSt) st (fun a6 r6 _ => List.rec (motive := fun _ => MSt) st (fun a7 r7 _ => List.rec (motive := fun _ => MSt) st (fun a8 r8 _ => List.rec (motive := fun _ => MSt) st (fun a9 r9 _ => List.rec (motive := fun _ => MSt) st (fun a10 r10 _ => List.rec (motive := fun _ => MSt) st (fun a11 r11 _ => List.rec (motive := fun _ => MSt) st (fun a12 r12 _ => List.rec (motive := fun _ => MSt) st (fun a13 r13 _ => a0 :: a1 :: a2 :: a3 :: a4 :: a5 :: a6 :: a7 :: a8 :: a9 :: a10 :: a11 :: a12 :: none :: r13) r12) r11) r10) r9) r8) r7) r6) r5) r4) r3) r2) r1) r0) st
theorem hg13 (st : MSt) : g13 st = (st[13]?).join := by rcases st with _ | ⟨_, _ | ⟨_, _ | ⟨_, _ | ⟨_, _ | ⟨_, _ | ⟨_, _ | ⟨_, _ | ⟨_, _ | ⟨_, _ | ⟨_, _ | ⟨_, _ | ⟨_, _ | ⟨_, _ | ⟨_, _⟩⟩⟩⟩⟩⟩⟩⟩⟩⟩⟩⟩⟩⟩ <;> rfl
theorem hs13 (st : MSt) (v : SV) : s13 st v = st.set 13 (some v) := by rcases st with _ | ⟨_, _ | ⟨_, _ | ⟨_, _ | ⟨_, _ | ⟨_, _ | ⟨_, _ | ⟨_, _ | ⟨_, _ | ⟨_, _ | ⟨_, _ | ⟨_, _ | ⟨_, _ | ⟨_, _ | ⟨_, _⟩⟩⟩⟩⟩⟩⟩⟩⟩⟩⟩⟩⟩⟩ <;> rfl
theorem hw13 (st : MSt) : w13 st = st.set 13 none := by rcases st with _ | ⟨_, _ | ⟨_, _ | ⟨_, _ | ⟨_, _ | ⟨_, _ | ⟨_, _ | ⟨_, _ | ⟨_, _ | ⟨_, _ | ⟨_, _ | ⟨_, _ | ⟨_, _ | ⟨_, _ | ⟨_, _⟩⟩⟩⟩⟩⟩⟩⟩⟩⟩⟩⟩⟩⟩ <;> rfl
def A13 : Acc := ⟨13, g13, s13, w13, hg13, hs13, hw13⟩
def g14 (st : MSt) : Option SV := List.rec (motive := fun _ => Option SV) none (fun a0 r0 _ => List.rec (motive := fun _ => Option SV) none (fun a1 r1 _ => List.rec (motive := fun _ => Option SV) none (fun a2 r2 _ => List.rec (motive := fun _ => Option SV) none (fun a3 r3 _ => List.rec (motive := fun _ => Option SV) none (fun a4 r4 _ => List.rec (motive := fun _ => Option SV) none (fun a5 r5 _ => List.rec (motive := fun _ => Option SV) none (fun a6 r6 _ => List.rec (motive := fun _ => Option SV) none (fun a7 r7 _ => List.rec (motive := fun _ => Option SV) none (fun a8 r8 _ => List.rec (motive := fun _ => Option SV) none (fun a9 r9 _ => List.rec (motive := fun _ => Option SV) none (fun a10 r10 _ => List.rec (motive := fun _ => Option SV) none (fun a11 r11 _ => List.rec (motive := fun _ => Option SV) none (fun a12 r12 _ => List.rec (motive := fun _ => Option SV) none (fun a13 r13 _ => List.rec (motive := fun _ => Option SV) none (fun a14 r14 _ => a14) r13) r12) r11) r10) r9) r8) r7) r6) r5) r4) r3) r2) r1) r0) st
def s14 (st : MSt) (v : SV) : MSt := List.rec (motive := fun _ => MSt) st (fun a0 r0 _ => List.rec (motive := fun _ => MSt) st (fun a1 r1 _ => List.rec (motive := fun _ => MSt) st (fun a2 r2 _ => List.rec (motive := fun _ => MSt) st (fun a3 r3 _ => List.rec (motive := fun _ => MSt) st (fun a4 r4 _ => List.rec (motive := fun _ => MSt) st (fun a5 r5 _ => List.rec (motive := fun _ => MSt) st (fun a6 r6 _ => List.rec (motive := fun _ => MSt) st (fun a7 r7 _ => List.rec (motive := fun _ => MSt) st (fun a8 r8 _ => List.rec (motive := fun _ => MSt) st (fun a9 r9 _ => List.rec (motive := fun _ => MSt) st (fun a10 r10 _ => List.rec (motive := fun _ => MSt) st (fun a11 r11 _ => List.rec (motive := fun _ => MSt) st (fun a12 r12 _ => List.rec (motive := fun _ => MSt) st (fun a13 r13 _ => List.rec (motive := fun _ => MSt) st (fun a14 r14 _ => a0 :: a1 :: a2 :: a3 :: a4 :: a5 :: a6 :: a7 :: a8 :: a9 :: a10 :: a11 :: a12 :: a13 :: some v :: r14) r13) r12) r11) r10) r9) r8) r7) r6) r5) r4) r3) r2) r1) r0) st
def w14 (st : MSt) : MSt := List.rec (motive := fun _ => MSt) st (fun a0 r0 _ => List.rec (motive := fun _ => MSt) st (fun a1 r1 _ => List.rec (motive := fun _ => MSt) st (fun a2 r2 _ => List.rec (motive := fun _ => MSt) st (fun a3 r3 _ => List.rec (motive := fun _ => MSt) st (fun a4 r4 _ => List.rec (motive := fun _ => MSt) st (fun a5 r5 _ => List.rec (motive := fun _ => MSt) st (fun a6 r6 _ => List.rec (motive := fun _ => MSt) st (fun a7 r7 _ => List.rec (motive := fun _ => MSt) st (fun a8 r8 _ => List.rec (motive := fun _ => MSt) st (fun a9 r9 _ => List.rec (motive := fun _ => MSt) st (fun a10 r10 _ => List.rec (motive := fun _ => MSt) st (fun a11 r11 _ => List.rec (motive := fun _ => MSt) st (fun a12 r12 _ => List.rec (motive := fun _ => MSt) st (fun a13 r13 _ => List.rec (motive := fun _ => MSt) st (fun a14 r14 _ => a0 :: a1 :: a2 :: a3 :: a4 :: a5 :: a6 :: a7 :: a8 :: a9 :: a10 :: a11 :: a12 :: a13 :: none :: r14) r13) r12) r11) r10) r9) r8) r7) r6) r5) r4) r3) r2) r1) r0) st
theorem hg14 (st : MSt) : g14 st = (st[14]?).join := by rcases st with _ | ⟨_, _ | ⟨_, _ | ⟨_, _ | ⟨_, _ | ⟨_, _ | ⟨_, _ | ⟨_, _ | ⟨_, _ | ⟨_, _ | ⟨_, _ | ⟨_, _ | ⟨_, _ | ⟨_, _ | ⟨_, _ | ⟨_, _⟩⟩⟩⟩⟩⟩⟩⟩⟩⟩⟩⟩⟩⟩⟩ <;> rfl
theorem hs14 (st : MSt) (v : SV) : s14 st v = st.set 14 (some v) := by rcases st with _ | ⟨_, _ | ⟨_, _ | ⟨_, _ | ⟨_, _ | ⟨_, _ | ⟨_, _ | ⟨_, _ | ⟨_, _ | ⟨_, _ | ⟨_, _ | ⟨_, _ | ⟨_, _ | ⟨_, _ | ⟨_, _ | ⟨_, _⟩⟩⟩⟩⟩⟩⟩⟩⟩⟩⟩⟩⟩⟩⟩ <;> rfl
theorem hw14 (st : MSt) : w14 st = st.set 14 none := by rcases st with _ | ⟨_, _ | ⟨_, _ | ⟨_, _ | ⟨_, _ | ⟨_, _ | ⟨_, _ | ⟨_, _ | ⟨_, _ | ⟨_, _ | ⟨_, _ | ⟨_, _ | ⟨_, _ | ⟨_, _ | ⟨_, _ | ⟨_, _⟩⟩⟩⟩⟩⟩⟩⟩⟩⟩⟩⟩⟩⟩⟩ <;> rfl
def A14 : Acc := ⟨14, g14, s14, w14, hg14, hs14, hw14⟩
def g15 (st : MSt) : Option SV := List.rec (motive := fun _ => Option SV) none (fun a0 r0 _ => List.rec (motive := fun _ => Option SV) none (fun a1 r1 _ => List.rec (motive := fun _ => Option SV) none (fun a2 r2 _ => List.rec (motive := fun _ => Option SV) none (fun a3 r3 _ => List.rec (motive := fun _ => Option SV) none (fun a4 r4 _ => List.rec (motive := fun _ => Option SV) none (fun a5 r5 _ => List.rec (motive := fun _ => Option SV) none (fun a6 r6 _ => List.rec (motive := fun _ => Option SV) none (fun a7 r7 _ => List.rec (motive := fun _ => Option SV) none (fun a8 r8 _ => List.rec (motive := fun _ => Option SV) none (fun a9 r9 _ => List.rec (motive := fun _ => Option SV) none (fun a10 r10 _ => List.rec (motive := fun _ => Option SV) none (fun a11 r11 _ => List.rec (motive := fun _ => Option SV) none (fun a12 r12 _ => List.rec (motive := fun _ => Option SV) none (fun a13 r13 _ => List.rec (motive := fun _ => Option SV) none (fun a14 r14 _ => List.rec (motive := fun _ => Option SV) none (fun a15 r15 _ => a15) r14) r13) r12) r11) r10) r9) r8) r7) r6) r5) r4) r3) r2) r1) r0) st
def s15 (st : MSt) (v : SV) : MSt := List.rec (motive := fun _ => MSt) st (fun a0 r0 _ => List.rec (motive := fun _ => MSt) st (fun a1 r1 _ => List.rec (motive := fun _ => MSt) st (fun a2 r2 _ => List.rec (motive := fun _ => MSt) st (fun a3 r3 _ => List.rec (motive := fun _ => MSt) st (fun a4 r4 _ => List.rec (motive := fun _ => MSt) st (fun a5 r5 _ => List.rec (motive := fun _ => MSt) st (fun a6 r6 _ => List.rec (motive := fun _ => MSt) st (fun a7 r7 _ => List.rec (motive := fun _ => MSt) st (fun a8 r8 _ => List.rec (motive := fun _ => MSt) st (fun a9 r9 _ => List.rec (motive := fun _ => MSt) st (fun a10 r10 _ => List.rec (motive := fun _ => MSt) st (fun a11 r11 _ => List.rec (motive := fun _ => MSt) st (fun a12 r12 _ => List.rec (motive := fun _ => MSt) st (fun a13 r13 _ => List.rec (motive := fun _ => MSt) st (fun a14 r14 _ => List.rec (motive := fun _ => MSt) st (fun a15 r15 _ => a0 :: a1 :: a2 :: a3 :: a4 :: a5 :: a6 :: a7 :: a8 :: a9 :: a10 :: a11 :: a12 :: a13 :: a14 :: some v :: r15) r14) r13) r12) r11) r10) r9) r8) r7) r6) r5) r4) r3) r2) r1) r0) st
def w15 (st : MSt) : MSt := List.rec (motive := fun _ => MSt) st (fun a0 r0 _ => List.rec (motive := fun _ => MSt) st (fun a1 r1 _ => List.rec (motive := fun _ => MSt) st (fun a2 r2 _ => List.rec (motive := fun _ => MSt) st (fun a3 r3 _ => List.rec (motive := fun _ => MSt) st (fun a4 r4 _ => List.rec (motive := fun _ => MSt) st (fun a5 r5 _ => List.rec (motive := fun _ => MSt) st (fun a6 r6 _ => List.rec (motive := fun _ => MSt) st (fun a7 r7 _ => List.rec (motive := fun _ => MSt) st (fun a8 r8 _ => List.rec (motive := fun _ => MSt) st (fun a9 r9 _ => List.rec (motive := fun _ => MSt) st (fun a10 r10 _ => List.rec (motive := fun _ => MSt) st (fun a11 r11 _ => List.rec (motive := fun _ => MSt) st (fun a12 r12 _ => List.rec (motive := fun _ => MSt) st (fun a13 r13 _ => List.rec (motive := fun _ => MSt) st (fun a14 r14 _ => List.rec (motive := fun _ => MSt) st (fun a15 r15 _ => a0 :: a1 :: a2 :: a3 :: a4 :: a5 :: a6 :: a7 :: a8 :: a9 :: a10 :: a11 :: a12 :: a13 :: a14 :: none :: r15) r14) r13) r12) r11) r10) r9) r8) r7) r6) r5) r4) r3) r2) r1) r0) st
theorem hg15 (st : MSt) : g15 st = (st[15]?).join := by rcases st with _ | ⟨_, _ | ⟨_, _ | ⟨_, _ | ⟨_, _ | ⟨_, _ | ⟨_, _ | ⟨_, _ | ⟨_, _ | ⟨_, _ | ⟨_, _ | ⟨_, _ | ⟨_, _ | ⟨_, _ | ⟨_, _ | ⟨_, _ | ⟨_, _⟩⟩⟩⟩⟩⟩⟩⟩⟩⟩⟩⟩⟩⟩⟩⟩ <;> rfl
theorem hs15 (st : MSt) (v : SV) : s15 st v = st.set 15 (some v) := by rcases st with _ | ⟨_, _ | ⟨_, _ | ⟨_, _ | ⟨_, _ | ⟨_, _ | ⟨_, _ | ⟨_, _ | ⟨_, _ | ⟨_, _ | ⟨_, _ | ⟨_, _ | ⟨_, _ | ⟨_, _ | ⟨_, _ | ⟨_, _ | ⟨_, _⟩⟩⟩⟩⟩⟩⟩⟩⟩⟩⟩⟩⟩⟩⟩⟩ <;> rfl
theorem hw15 (st : MSt) : w15 st = st.set 15 none := by rcases st with _ | ⟨_, _ | ⟨_, _ | ⟨_, _ | ⟨_, _ | ⟨_, _ | ⟨_, _ | ⟨_, _ | ⟨_, _ | ⟨_, _ | ⟨_, _ | ⟨_, _ | ⟨_, _ | ⟨_, _ | ⟨_, _ | ⟨_, _ | ⟨_, _⟩⟩⟩⟩⟩⟩⟩⟩⟩⟩⟩⟩⟩⟩⟩⟩ <;> rfl
def A15 : Acc := ⟨15, g15, s15, w15, hg15, hs15, hw15⟩
def g16 (st : MSt) : Option SV := List.rec (motive := fun _ => Option SV) none (fun a0 r0 _ => List.rec (motive := fun _ => Option SV) none (fun a1 r1 _ => List.rec (motive := fun _ => Option SV) none (fun a2 r2 _ => List.rec (motive := fun _ => Option SV) none (fun a3 r3 _ => List.rec (motive := fun _ => Option SV) none (fun a4 r4 _ => List.rec (motive := fun _ => Option SV) none (fun a5 r5 _ => List.rec (motive := fun _ => Option SV) none (fun a6 r6 _ => List.rec (motive := fun _ => Option SV) none (fun a7 r7 _ => List.rec (motive := fun _ => Option SV) none (fun a8 r8 _ => List.rec (motive := fun _ => Option SV) none (fun a9 r9 _ => List.rec (motive := fun _ => Option SV) none (fun a10 r10 _ => List.rec (motive := fun _ => Option SV) none (fun a11 r11 _ => List.rec (motive := fun _ => Option SV) none (fun a12 r12 _ => List.rec (motive := fun _ => Option SV) none (fun a13 r13 _ => List.rec (motive := fun _ => Option SV) none (fun a14 r14 _ => List.rec (motive := fun _ => Option SV) none (fun a15 r15 _ => List.rec (motive := fun _ => Option SV) none (fun a16 r16 _ => a16) r15) r14) r13) r12) r11) r10) r9) r8) r7) r6) r5) r4) r3) r2) r1) r0) st
def s16 (st : MSt) (v : SV) : MSt := List.rec (motive := fun _ => MSt) st (fun a0 r0 _ => List.rec (motive := fun _ => MSt) st (fun a1 r1 _ => List.rec (motive := fun _ => MSt) st (fun a2 r2 _ => List.rec (motive := fun _ => MSt) st (fun a3 r3 _ => List.rec (motive := fun _ => MSt) st (fun a4 r4 _ => List.rec (motive := fun _ => MSt) st (fun a5 r5 _ => List.rec (motive := fun _ => MSt) st (fun a6 r6 _ => List.rec (motive := fun _ => MSt) st (fun a7 r7 _ => List.rec (motive := fun _ => MSt) st (fun a8 r8 _ => List.rec (motive := fun _ => MSt) st (fun a9 r9 _ => List.rec (motive := fun _ => MSt) st (fun a10 r10 _ => List.rec (motive := fun _ => MSt) st (fun a11 r11 _ => List.rec (motive := fun _ => MSt) st (fun a12 r12 _ => List.rec (motive := fun _ => MSt) st (fun a13 r13 _ => List.rec (motive := fun _ => MSt) st (fun a14 r14 _ => List.rec (motive := fun _ => MSt) st (fun a15 r15 _ => List.rec (motive := fun _ => MSt) st (fun a16 r16 _ => a0 :: a1 :: a2 :: a3 :: a4 :: a5 :: a6 :: a7 :: a8 :: a9 :: a10 :: a11 :: a12 :: a13 :: a14 :: a15 :: some v :: r16) r15) r14) r13) r12) r11) r10) r9) r8) r7) r6) r5) r4) r3) r2) r1) r0) st
def w16 (st : MSt) : MSt := List.rec (motive := fun _ => MSt) st (fun a0 r0 _ => List.rec (motive := fun _ => MSt) st (fun a1 r1 _ => List.rec (motive := fun _ => MSt) st (fun a2 r2 _ => List.rec (motive := fun _ => MSt) st (fun a3 r3 _ => List.rec (motive := fun _ => MSt) st (fun a4 r4 _ => List.rec (motive := fun _ => MSt) st (fun a5 r5 _ => List.rec (motive := fun _ => MSt) st (fun a6 r6 _ => List.rec (motive := fun _ => MSt) st (fun a7 r7 _ => List.rec (motive := fun _ => MSt) st (fun a8 r8 _ => List.rec (motive := fun _ => MSt) st (fun a9 r9 _ => List.rec (motive := fun _ => MSt) st (fun a10 r10 _ => List.rec (motive := fun _ => MSt) st (fun a11 r11 _ => List.rec (motive := fun _ => MSt) st (fun a12 r12 _ => List.rec (motive := fun _ => MSt) st (fun a13 r13 _ => List.rec (motive := fun _ => MSt) st (fun a14 r14 _ => List.rec (motive := fun _ => MSt) st (fun a15 r15 _ => List.rec (motive := fun _ => MSt) st (fun a16 r16 _ => a0 :: a1 :: a2 :: a3 :: a4 :: a5 :: a6 :: a7 :: a8 :: a9 :: a10 :: a11 :: a12 :: a13 :: a14 :: a15 :: none :: r16) r15) r14) r13) r12) r11) r10) r9) r8) r7) r6) r5) r4) r3) r2) r1) r0) st
theorem hg16 (st : MSt) : g16 st = (st[16]?).join := by rcases st with _ | ⟨_, _ | ⟨_, _ | ⟨_, _ | ⟨_, _ | ⟨_, _ | ⟨_, _ | ⟨_, _ | ⟨_, _ | ⟨_, _ | ⟨_, _ | ⟨_, _ | ⟨_, _ | ⟨_, _ | ⟨_, _ | ⟨_, _ | ⟨_, _ | ⟨_, _⟩⟩⟩⟩⟩⟩⟩⟩⟩⟩⟩⟩⟩⟩⟩⟩⟩ <;> rfl
theorem hs16 (st : MSt) (v : SV) : s16 st v = st.set 16 (some v) := by rcases st with _ | ⟨_, _ | ⟨_, _ | ⟨_, _ | ⟨_, _ | ⟨_, _ | ⟨_, _ | ⟨_, _ | ⟨_, _ | ⟨_, _ | ⟨_, _ | ⟨_, _ | ⟨_, _ | ⟨_, _ | ⟨_, _ | ⟨_, _ | ⟨_, _ | ⟨_, _⟩⟩⟩⟩⟩⟩⟩⟩⟩⟩⟩⟩⟩⟩⟩⟩⟩ <;> rfl
theorem hw16 (st : MSt) : w16 st = st.set 16 none := by rcases st with _ | ⟨_, _ | ⟨_, _ | ⟨_, _ | ⟨_, _ | ⟨_, _ | ⟨_, _ | ⟨_, _ | ⟨_, _ | ⟨_, _ | ⟨_, _ | ⟨_, _ | ⟨_, _ | ⟨_, _ | ⟨_, _ | ⟨_, _ | ⟨_, _ | ⟨_, _⟩⟩⟩⟩⟩⟩⟩⟩⟩⟩⟩⟩⟩⟩⟩⟩⟩ <;> rfl
def A16 : Acc := ⟨16, g16, s16, w16, hg16, hs16, hw16⟩
def g17 (st : MSt) : Option SV := List.rec (motive := fun _ => Option SV) none (fun a0 r0 _ => List.rec (motive := fun _ => Option SV) none (fun a1 r1 _ => List.rec (motive := fun _ => Option SV) none (fun a2 r2 _ => List.rec (motive := fun _ => Option SV) none (fun a3 r3 _ => List.rec (motive := fun _ => Option SV) none (fun a4 r4 _ => List.rec (motive := fun _ => Option SV) none (fun a5 r5 _ => List.rec (motive := fun _ => Option SV) none (fun a6 r6 _ => List.rec (motive := fun _ => Option SV) none (fun a7 r7 _ => List.rec (motive := fun _ => Option SV) none (fun a8 r8 _ => List.rec (motive := fun _ => Option SV) none (fun a9 r9 _ => List.rec (motive := fun _ => Option SV) none (fun a10 r10 _ => List.rec (motive := fun _ => Option SV) none (fun a11 r11 _ => List.rec (motive := fun _ => Option SV) none (fun a12 r12 _ => List.rec (motive := fun _ => Option SV) none (fun a13 r13 _ => List.rec (motive := fun _ => Option SV) none (fun a14 r14 _ => List.rec (motive := fun _ => Option SV) none (fun a15 r15 _ => List.rec (motive := fun _ => Option SV) none (fun a16 r16 _ => List.rec (motive := fun _ => Option SV) none (fun a17 r17 _ => a17) r16) r15) r14) r13) r12) r11) r10) r9) r8) r7) r6) r5) r4) r3) r2) r1) r0) st
def s17 (st : MSt) (v : SV) : MSt := List.rec (motive := fun _ => MSt) st (fun a0 r0 _ => List.rec (motive := fun _ => MSt) st (fun a1 r1 _ => List.rec (motive := fun _ => MSt) st (fun a2 r2 _ => List.rec (motive := fun _ => MSt) st (fun a3 r3 _ => List.rec (motive := fun _ => MSt) st (fun a4 r4 _ => List.rec (motive := fun _ => MSt) st (fun a5 r5 _ => List.rec (motive := fun _ => MSt) st (fun a6 r6 _ => List.rec (motive := fun _ => MSt) st (fun a7 r7 _ => List.rec (motive := fun _ => MSt) st (fun a8 r8 _ => List.rec (motive := fun _ => MSt) st (fun a9 r9 _ => List.rec (motive := fun _ => MSt) st (fun a10 r10 _ => List.rec (motive := fun _ => MSt) st (fun a11 r11 _ => List.rec (motive := fun _ => MSt) st (fun a12 r12 _ => List.rec (motive := fun _ => MSt) st (fun a13 r13 _ => List.rec (motive := fun _ => MSt) st (fun a14 r14 _ => List.rec (motive := fun _ => MSt) st (fun a15 r15 _ => List.rec (motive := fun _ => MSt) st (fun a16 r16 _ => List.rec (motive := fun _ => MSt) st (fun a17 r17 _ => a0 :: a1 :: a2 :: a3 :: a4 :: a5 :: a6 :: a7 :: a8 :: a9 :: a10 :: a11 :: a12 :: a13 :: a14 :: a15 :: a16 :: some v :: r17) r16) r15) r14) r13) r12) r11) r10) r9) r8) r7) r6) r5) r4) r3) r2) r1) r0) st
def w17 (st : MSt) : MSt := List.rec (motive := fun _ => MSt) st (fun a0 r0 _ => List.rec (motive := fun _ => MSt) st (fun a1 r1 _ => List.rec (motive := fun _ => MSt) st (fun a2 r2 _ => List.rec (motive := fun _ => MSt) st (fun a3 r3 _ => List.rec (motive := fun _ => MSt) st (fun a4 r4 _ => List.rec (motive := fun _ => MSt) st (fun a5 r5 _ => List.rec (motive := fun _ => MSt) st (fun a6 r6 _ => List.rec (motive := fun _ => MSt) st (fun a7 r7 _ => List.rec (motive := fun _ => MSt) st (fun a8 r8 _ => List.rec (motive := fun _ => MSt) st (fun a9 r9 _ => List.rec (motive := fun _ => MSt) st (fun a10 r10 _ => List.rec (motive := fun _ => MSt) st (fun a11 r11 _ => List.rec (motive := fun _ => MSt) st (fun a12 r12 _ => List.rec (motive := fun _ => MSt) st (fun a13 r13 _ => List.rec (motive := fun _ => MSt) st (fun a14 r14 _ => List.rec (motive := fun _ => MSt) st (fun a15 r15 _ => List.rec (motive := fun _ => MSt) st (fun a16 r16 _ => List.rec (motive := fun _ => MSt) st (fun a17 r17 _ => a0 :: a1 :: a2 :: a3 :: a4 :: a5 :: a6 :: a7 :: a8 :: a9 :: a10 :: a11 :: a12 :: a13 :: a14 :: a15 :: a16 :: none :: r17) r16) r15) r14) r13) r12) r11) r10) r9) r8) r7) r6) r5) r4) r3) r2) r1) r0) st
theorem hg17 (st : MSt) : g17 st = (st[17]?).join := by rcases st with _ | ⟨_, _ | ⟨_, _ | ⟨_, _ | ⟨_, _ | ⟨_, _ | ⟨_, _ | ⟨_, _ | ⟨_, _ | ⟨_, _ | ⟨_, _ | ⟨_, _ | ⟨_, _ | ⟨_, _ | ⟨_, _ | ⟨_, _ | ⟨_, _ | ⟨_, _ | ⟨_, _⟩⟩⟩⟩⟩⟩⟩⟩⟩⟩⟩⟩⟩⟩⟩⟩⟩⟩ <;> rfl
theorem hs17 (st : MSt) (v : SV) : s17 st v = st.set 17 (some v) := by rcases st with _ | ⟨_, _ | ⟨_, _ | ⟨_, _ | ⟨_, _ | ⟨_, _ | ⟨_, _ | ⟨_, _ | ⟨_, _ | ⟨_, _ | ⟨_, _ | ⟨_, _ | ⟨_, _ | ⟨_, _ | ⟨_, _ | ⟨_, _ | ⟨_, _ | ⟨_, _ | ⟨_, _⟩⟩⟩⟩⟩⟩⟩⟩⟩⟩⟩⟩⟩⟩⟩⟩⟩⟩ <;> rfl
theorem hw17 (st : MSt) : w17 st = st.set 17 none := by rcases st with _ | ⟨_, _ | ⟨_, _ | ⟨_, _ | ⟨_, _ | ⟨_, _ | ⟨_, _ | ⟨_, _ | ⟨_, _ | ⟨_, _ | ⟨_, _ | ⟨_, _ | ⟨_, _ | ⟨_, _ | ⟨_, _ | ⟨_, _ | ⟨_, _ | ⟨_, _ | ⟨_, _⟩⟩⟩⟩⟩⟩⟩⟩⟩⟩⟩⟩⟩⟩⟩⟩⟩⟩ <;> rfl
def A17 : Acc := ⟨17, g17, s17, w17, hg17, hs17, hw17⟩
def g18 (st : MSt) : Option SV := List.rec (motive := fun _ => Option SV) none (fun a0 r0 _ => List.rec (motive := fun _ => Option SV) none (fun a1 r1 _ => List.rec (motive := fun _ => Option SV) none (fun a2 r2 _ => List.rec (motive := fun _ => Option SV) none (fun a3 r3 _ => List.rec (motive := fun _ => Option SV) none (fun a4 r4 _ => List.rec (motive := fun _ => Option SV) none (fun a5 r5 _ => List.rec (motive := fun _ => Option SV) none (fun a6 r6 _ => List.rec (motive := fun _ => Option SV) none (fun a7 r7 _ => List.rec (motive := fun _ => Option SV) none (fun a8 r8 _ => List.rec (motive := fun _ => Option SV) none (fun a9 r9 _ => List.rec (motive := fun _ => Option SV) none (fun a10 r10 _ => List.rec (motive := fun _ => Option SV) none (fun a11 r11 _ => List.rec (motive := fun _ => Option SV) none (fun a12 r12 _ => List.rec (motive := fun _ => Option SV) none (fun a13 r13 _ => List.rec (motive := fun _ => Option SV) none (fun a14 r14 _ => List.rec (motive := fun _ => Option SV) none (fun a15 r15 _ => List.rec (motive := fun _ => Option SV) none (fun a16 r16 _ => List.rec (motive := fun _ => Option SV) none (fun a17 r17 _ => List.rec (motive := fun _ => Option SV) none (fun a18 r18 _ => a18) r17) r16) r15) r14) r13) r12) r11) r10) r9) r8) r7) r6) r5) r4) r3) r2) r1) r0) st
def s18 (st : MSt) (v : SV) : MSt := List.rec (motive := fun _ => MSt) st (fun a0 r0 _ => List.rec (motive := fun _ => MSt) st (fun a1 r1 _ => List.rec (motive := fun _ => MSt) st (fun a2 r2 _ => List.rec (motive := fun _ => MSt) st (fun a3 r3 _ => List.rec (motive := fun _ => MSt) st (fun a4 r4 _ => List.rec (motive := fun _ => MSt) st (fun a5 r5 _ => List.rec (motive := fun _ => MSt) st (fun a6 r6 _ => List.rec (motive := fun _ => MSt) st (fun a7 r7 _ => List.rec (motive := fun _ => MSt) st (fun a8 r8 _ => List.rec (motive := fun _ => MSt) st (fun a9 r9 _ => List.rec (motive := fun _ => MSt) st (fun a10 r10 _ => List.rec (motive := fun _ => MSt) st (fun a11 r11 _ => List.rec (motive := fun _ => MSt) st (fun a12 r12 _ => List.rec (motive := fun _ => MSt) st (fun a13 r13 _ => List.rec (motive := fun _ => MSt) st (fun a14 r14 _ => List.rec (motive := fun _ => MSt) st (fun a15 r15 _ => List.rec (motive := fun _ => MSt) st (fun a16 r16 _ => List.rec (motive := fun _ => MSt) st (fun a17 r17 _ => List.rec (motive := fun _ => MSt) st (fun a18 r18 _ => a0 :: a1 :: a2 :: a3 :: a4 :: a5 :: a6 :: a7 :: a8 :: a9 :: a10 :: a11 :: a12 :: a13 :: a14 :: a15 :: a16 :: a17 :: some v :: r18) r17) r16) r15) r14) r13) r12) r11) r10) r9) r8) r7) r6) r5) r4) r3) r2) r1) r0) st
def w18 (st : MSt) : MSt := List.rec (motive := fun _ => MSt) st (fun a0 r0 _ => List.rec (motive := fun _ => MSt) st (fun a1 r1 _ => List.rec (motive := fun _ => MSt) st (fun a2 r2 _ => List.rec (motive := fun _ => MSt) st (fun a3 r3 _ => List.rec (motive := fun _ => MSt) st (fun a4 r4 _ => List.rec (motive := fun _ => MSt) st (fun a5 r5 _ => List.rec (motive := fun _ => MSt) st (fun a6 r6 _ => List.rec (motive := fun _ => MSt) st (fun a7 r7 _ => List.rec (motive := fun _ => MSt) st (fun a8 r8 _ => List.rec (motive := fun _ => MSt) st (fun a9 r9 _ => List.rec (motive := fun _ => MSt) st (fun a10 r10 _ => List.rec (motive := fun _ => MSt) st (fun a11 r11 _ => List.rec (motive := fun _ => MSt) st (fun a12 r12 _ => List.rec (motive := fun _ => MSt) st (fun a13 r13 _ => List.rec (motive := fun _ => MSt) st (fun a14 r14 _ => List.rec (motive := fun _ => MSt) st (fun a15 r15 _ => List.rec (motive := fun _ => MSt) st (fun a16 r16 _ => List.rec (motive := fun _ => MSt) st (fun a17 r17 _ => List.rec (motive := fun _ => MSt) st (fun a18 r18 _ => a0 :: a1 :: a2 :: a3 :: a4 :: a5 :: a6 :: a7 :: a8 :: a9 :: a10 :: a11 :: a12 :: a13 :: a14 :: a15 :: a16 :: a17 :: none :: r18) r17) r16) r15) r14) r13) r12) r11) r10) r9) r8) r7) r6) r5) r4) r3) r2) r1) r0) st
theorem hg18 (st : MSt) : g18 st = (st[18]?).join := by rcases st with _ | ⟨_, _ | ⟨_, _ | ⟨_, _ | ⟨_, _ | ⟨_, _ | ⟨_, _ | ⟨_, _ | ⟨_, _ | ⟨_, _ | ⟨_, _ | ⟨_, _ | ⟨_, _ | ⟨_, _ | ⟨_, _ | ⟨_, _ | ⟨_, _ | ⟨_, _ | ⟨_, _ | ⟨_, _⟩⟩⟩⟩⟩⟩⟩⟩⟩⟩⟩⟩⟩⟩⟩⟩⟩⟩⟩ <;> rfl
theorem hs18 (st : MSt) (v : SV) : s18 st v = st.set 18 (some v) := by rcases st with _ | ⟨_, _ | ⟨_, _ | ⟨_, _ | ⟨_, _ | ⟨_, _ | ⟨_, _ | ⟨_, _ | ⟨_, _ | ⟨_, _ | ⟨_, _ | ⟨_, _ | ⟨_, _ | ⟨_, _ | ⟨_, _ | ⟨_, _ | ⟨_, _ | ⟨_, _ | ⟨_, _ | ⟨_, _⟩⟩⟩⟩⟩⟩⟩⟩⟩⟩⟩⟩⟩⟩⟩⟩⟩⟩⟩ <;> rfl
theorem hw18 (st : MSt) : w18 st = st.set 18 none := by rcases st with _ | ⟨_, _ | ⟨_, _ | ⟨_, _ | ⟨_, _ | ⟨_, _ | ⟨_, _ | ⟨_, _ | ⟨_, _ | ⟨_, _ | ⟨_, _ | ⟨_, _ | ⟨_, _ | ⟨_, _ | ⟨_, _ | ⟨_, _ | ⟨_, _ | ⟨_, _ | ⟨_, _ | ⟨_, _⟩⟩⟩⟩⟩⟩⟩⟩⟩⟩⟩⟩⟩⟩⟩⟩⟩⟩⟩ <;> rfl
def A18 : Acc := ⟨18, g18, s18, w18, hg18, hs18, hw18⟩
def g19 (st : MSt) : Option SV := List.rec (motive := fun _ => Option SV) none (fun a0 r0 _ => List.rec (motive := fun _ => Option SV) none (fun a1 r1 _ => List.rec (motive := fun _ => Option SV) none (fun a2 r2 _ => List.rec (motive := fun _ => Option SV) none (fun a3 r3 _ => List.rec (motive := fun _ => Option SV) none (fun a4 r4 _ => List.rec (motive := fun _ => Option SV) none (fun a5 r5 _ => List.rec (motive := fun _ => Option SV) none (fun a6 r6 _ => List.rec (motive := fun _ => Option SV) none (fun a7 r7 _ => List.rec (motive := fun _ => Option SV) none (fun a8 r8 _ => List.rec (motive := fun _ => Option SV) none (fun a9 r9 _ => List.rec (motive := fun _ => Option SV) none (fun a10 r10 _ => List.rec (motive := fun _ => Option SV) none (fun a11 r11 _ => List.rec (motive := fun _ => Option SV) none (fun a12 r12 _ => List.rec (motive := fun _ => Option SV) none (fun a13 r13 _ => List.rec (motive := fun _ => Option SV) none (fun a14 r14 _ => List.rec (motive := fun _ => Option SV) none (fun a15 r15 _ => List.rec (motive := fun _ => Option SV) none (fun a16 r16 _ => List.rec (motive := fun _ => Option SV) none (fun a17 r17 _ => List.rec (motive := fun _ => Option SV) none (fun a18 r18 _ => List.rec (motive := fun _ => Option SV) none (fun a19 r19 _ => a19) r18) r17) r16) r15) r14) r13) r12) r11) r10) r9) r8) r7) r6) r5) r4) r3) r2) r1) r0) st
def s19 (st : MSt) (v : SV) : MSt := List.rec (motive := fun _ => MSt) st (fun a0 r0 _ => List.rec (motive := fun _ => MSt) st (fun a1 r1 _ => List.rec (motive := fun _ => MSt) st (fun a2 r2 _ => List.rec (motive := fun _ => MSt) st (fun a3 r3 _ => List.rec (motive := fun _ => MSt) st (fun a4 r4 _ => List.rec (motive := fun _ => MSt) st (fun a5 r5 _ => List.rec (motive := fun _ => MSt) st (fun a6 r6 _ => List.rec (motive := fun _ => MSt) st (fun a7 r7 _ => List.rec (motive := fun _ => MSt) st (fun a8 r8 _ => List.rec (motive := fun _ => MSt) st (fun a9 r9 _ => List.rec (motive := fun _ => MSt) st (fun a10 r10 _ => List.rec (motive := fun _ => MSt) st (fun a11 r11 _ => List.rec (motive := fun _ => MSt) st (fun a12 r12 _ => List.rec (motive := fun _ => MSt) st (fun a13 r13 _ => List.rec (motive := fun _ => MSt) st (fun a14 r14 _ => List.rec (motive := fun _ => MSt) st (fun a15 r15 _ => List.rec (motive := fun _ => MSt) st (fun a16 r16 _ => List.rec (motive := fun _ => MSt) st (fun a17 r17 _ => List.rec (motive := fun _ => MSt) st (fun a18 r18 _ => List.rec (motive := fun _ => MSt) st (fun a19 r19 _ => a0 :: a1 :: a2 :: a3 :: a4 :: a5 :: a6 :: a7 :: a8 :: a9 :: a10 :: a11 :: a12 :: a13 :: a14 :: a15 :: a16 :: a17 :: a18 :: some v :: r19) r18) r17) r16) r15) r14) r13) r12) r11) r10) r9) r8) r7) r6) r5) r4) r3) r2) r1) r0) st
def w19 (st : MSt) : MSt := List.rec (motive := fun _ => MSt) st (fun a0 r0 _ => List.rec (motive := fun _ => MSt) st (fun a1 r1 _ => List.rec (motive := fun _ => MSt) st (fun a2 r2 _ => List.rec (motive := fun _ => MSt) st (fun a3 r3 _ => List.rec (motive := fun _ => MSt) st (fun a4 r4 _ => List.rec (motive := fun _ => MSt) st (fun a5 r5 _ => List.rec (motive := fun _ => MSt) st (fun a6 r6 _ => List.rec (motive := fun _ => MSt) st (fun a7 r7 _ => List.rec (motive := fun _ => MSt) st (fun a8 r8 _ => List.rec (motive := fun _ => MSt) st (fun a9 r9 _ => List.rec (motive := fun _ => MSt) st (fun a10 r10 _ => List.rec (motive := fun _ => MSt) st (fun a11 r11 _ => List.rec (motive := fun _ => MSt) st (fun a12 r12 _ => List.rec (motive := fun _ => MSt) st (fun a13 r13 _ => List.rec (motive := fun _ => MSt) st (fun a14 r14 _ => List.rec (motive := fun _ => MSt) st (fun a15 r15 _ => List.rec (motive := fun _ => MSt) st (fun a16 r16 _ => List.rec (motive := fun _ => MSt) st (fun a17 r17 _ => List.rec (motive := fun _ => MSt) st (fun a18 r18 _ => List.rec (motive := fun _ => MSt) st (fun a19 r19 _ => a0 :: a1 :: a2 :: a3 :: a4 :: a5 :: a6 :: a7 :: a8 :: a9 :: a10 :: a11 :: a12 :: a13 :: a14 :: a15 :: a16 :: a17 :: a18 :: none :: r19) r18) r17) r16) r15) r14) r13) r12) r11) r10) r9) r8) r7) r6) r5) r4) r3) r2) r1) r0) st
theorem hg19 (st : MSt) : g19 st = (st[19]?).join := by rcases st with _ | ⟨_, _ | ⟨_, _ | ⟨_, _ | ⟨_, _ | ⟨_, _ | ⟨_, _ | ⟨_, _ | ⟨_, _ | ⟨_, _ | ⟨_, _ | ⟨_, _ | ⟨_, _ | ⟨_, _ | ⟨_, _ | ⟨_, _ | ⟨_, _ | ⟨_, _ | ⟨_, _ | ⟨_, _ | ⟨_, _⟩⟩⟩⟩⟩⟩⟩⟩⟩⟩⟩⟩⟩⟩⟩⟩⟩⟩⟩⟩ <;> rfl
theorem hs19 (st : MSt) (v : SV) : s19 st v = st.set 19 (some v) := by rcases st with _ | ⟨_, _ | ⟨_, _ | ⟨_, _ | ⟨_, _ | ⟨_, _ | ⟨_, _ | ⟨_, _ | ⟨_, _ | ⟨_, _ | ⟨_, _ | ⟨_, _ | ⟨_, _ | ⟨_, _ | ⟨_, _ | ⟨_, _ | ⟨_, _ | ⟨_, _ | ⟨_, _ | ⟨_, _ | ⟨_, _⟩⟩⟩⟩⟩⟩⟩⟩⟩⟩⟩⟩⟩⟩⟩⟩⟩⟩⟩⟩ <;> rfl
theorem hw19 (st : MSt) : w19 st = st.set 19 none := by rcases st with _ | ⟨_, _ | ⟨_, _ | ⟨_, _ | ⟨_, _ | ⟨_, _ | ⟨_, _ | ⟨_, _ | ⟨_, _ | ⟨_, _ | ⟨_, _ | ⟨_, _ | ⟨_, _ | ⟨_, _ | ⟨_, _ | ⟨_, _ | ⟨_, _ | ⟨_, _ | ⟨_, _ | ⟨_, _ | ⟨_, _⟩⟩⟩⟩⟩⟩⟩⟩⟩⟩⟩⟩⟩⟩⟩⟩⟩⟩⟩⟩ <;> rfl
def A19 : Acc := ⟨19, g19, s19, w19, hg19, hs19, hw19⟩
def g20 (st : MSt) : Option SV := List.rec (motive := fun _ => Option SV) none (fun a0 r0 _ => List.rec (motive := fun _ => Option SV) none (fun a1 r1 _ => List.rec (motive := fun _ => Option SV) none (fun a2 r2 _ => List.rec (motive := fun _ => Option SV) none (fun a3 r3 _ => List.rec (motive := fun _ => Option SV) none (fun a4 r4 _ => List.rec (motive := fun _ => Option SV) none (fun a5 r5 _ => List.rec (motive := fun _ => Option SV) none (fun a6 r6 _ => List.rec (motive := fun _ => Option SV) none (fun a7 r7 _ => List.rec (motive := fun _ => Option SV) none (fun a8 r8 _ => List.rec (motive := fun _ => Option SV) none (fun a9 r9 _ => List.rec (motive := fun _ => Option SV) none (fun a10 r10 _ => List.rec (motive := fun _ => Option SV) none (fun a11 r11 _ => List.rec (motive := fun _ => Option SV) none (fun a12 r12 _ => List.rec (motive := fun _ => Option SV) none (fun a13 r13 _ => List.rec (motive := fun _ => Option SV) none (fun a14 r14 _ => List.rec (motive := fun _ => Option SV) none (fun a15 r15 _ => List.rec (motive := fun _ => Option SV) none (fun a16 r16 _ => List.rec (motive := fun _ => Option SV) none (fun a17 r17 _ => List.rec (motive := fun _ => Option SV) none (fun a18 r18 _ => List.rec (motive := fun _ => Option SV) none (fun a19 r19 _ => List.rec (motive := fun _ => Option SV) none (fun a20 r20 _ => a20) r19) r18) r17) r16) r15) r14) r13) r12) r11) r10) r9) r8) r7) r6) r5) r4) r3) r2) r1) r0) st
def s20 (st : MSt) (v : SV) : MSt := List.rec (motive := fun _ => MSt) st (fun a0 r0 _ => List.rec (motive := fun _ => MSt) st (fun a1 r1 _ => List.rec (motive := fun _ => MSt) st (fun a2 r2 _ => List.rec (motive := fun _ => MSt) st (fun a3 r3 _ => List.rec (motive := fun _ => MSt) st (fun a4 r4 _ => List.rec (motive := fun _ => MSt) st (fun a5 r5 _ => List.rec (motive := fun _ => MSt) st (fun a6 r6 _ => List.rec (motive := fun _ => MSt) st (fun a7 r7 _ => List.rec (motive := fun _ => MSt) st (fun a8 r8 _ => List.rec (motive := fun _ => MSt) st (fun a9 r9 _ => List.rec (motive := fun _ => MSt) st (fun a10 r10 _ => List.rec (motive := fun _ => MSt) st (fun a11 r11 _ => List.rec (motive := fun _ => MSt) st (fun a12 r12 _ => List.rec (motive := fun _ => MSt) st (fun a13 r13 _ => List.rec (motive := fun _ => MSt) st (fun a14 r14 _ => List.rec (motive := fun _ => MSt) st (fun a15 r15 _ => List.rec (motive := fun _ => MSt) st (fun a16 r16 _ => List.rec (motive := fun _ => MSt) st (fun a17 r17 _ => List.rec (motive := fun _ => MSt) st (fun a18 r18 _ => List.rec (motive := fun _ => MSt) st (fun a19 r19 _ => List.rec (motive := fun _ => MSt) st (fun a20 r20 _ => a0 :: a1 :: a2 :: a3 :: a4 :: a5 :: a6 :: a7 :: a8 :: a9 :: a10 :: a11 :: a12 :: a13 :: a14 :: a15 :: a16 :: a17 :: a18 :: a19 :: some v :: r20) r19) r18) r17) r16) r15) r14) r13) r12) r11) r10) r9) r8) r7) r6) r5) r4) r3) r2) r1) r0) st
def w20 (st : MSt) : MSt := List.rec (motive := fun _ => MSt) st (fun a0 r0 _ => List.rec (motive := fun _ => MSt) st (fun a1 r1 _ => List.rec (motive := fun _ => MSt) st (fun a2 r2 _ => List.rec (motive := fun _ => MSt) st (fun a3 r3 _ => List.rec (motive := fun _ => MSt) st (fun a4 r4 _ => List.rec (motive := fun _ => MSt) st (fun a5 r5 _ => List.rec (motive := fun _ => MSt) st (fun a6 r6 _ => List.rec (motive := fun _ => MSt) st (fun a7 r7 _ => List.rec (motive := fun _ => MSt) st (fun a8 r8 _ => List.rec (motive := fun _ => MSt) st (fun a9 r9 _ => List.rec (motive := fun _ => MSt) st (fun a10 r10 _ => List.rec (motive := fun _ => MSt) st (fun a11 r11 _ => List.rec (motive := fun _ => MSt) st (fun a12 r12 _ => List.rec (motive := fun _ => MSt) st (fun a13 r13 _ => List.rec (motive := fun _ => MSt) st (fun a14 r14 _ => List.rec (motive := fun _ => MSt) st (fun a15 r15 _ => List.rec (motive := fun _ => MSt) st (fun a16 r16 _ => List.rec (motive := fun _ => MSt) st (fun a17 r17 _ => List.rec (motive := fun _ => MSt) st (fun a18 r18 _ => List.rec (motive := fun _ => MSt) st (fun a19 r19 _ => List.rec (motive := fun _ => MSt) st (fun a20 r20 _ => a0 :: a1 :: a2 :: a3 :: a4 :: a5 :: a6 :: a7 :: a8 :: a9 :: a10 :: a11 :: a12 :: a13 :: a14 :: a15 :: a16 :: a17 :: a18 :: a19 :: none :: r20) r19) r18) r17) r16) r15) r14) r13) r12) r11) r10) r9) r8) r7) r6) r5) r4) r3) r2) r1) r0) st
theorem hg20 (st : MSt) : g20 st = (st[20]?).join := by rcases st with _ | ⟨_, _ | ⟨_, _ | ⟨_, _ | ⟨_, _ | ⟨_, _ | ⟨_, _ | ⟨_, _ | ⟨_, _ | ⟨_, _ | ⟨_, _ | ⟨_, _ | ⟨_, _ | ⟨_, _ | ⟨_, _ | ⟨_, _ | ⟨_, _ | ⟨_, _ | ⟨_, _ | ⟨_, _ | ⟨_, _ | ⟨_, _⟩⟩⟩⟩⟩⟩⟩⟩⟩⟩⟩⟩⟩⟩⟩⟩⟩⟩⟩⟩⟩ <;> rfl
theorem hs20 (st : MSt) (v : SV) : s20 st v = st.set 20 (some v) := by rcases st with _ | ⟨_, _ | ⟨_, _ | ⟨_, _ | ⟨_, _ | ⟨_, _ | ⟨_, _ | ⟨_, _ | ⟨_, _ | ⟨_, _ | ⟨_, _ | ⟨_, _ | ⟨_, _ | ⟨_, _ | ⟨_, _ | ⟨_, _ | ⟨_, _ | ⟨_, _ | ⟨_, _ | ⟨_, _ | ⟨_, _ | ⟨_, _⟩⟩⟩⟩⟩⟩⟩⟩⟩⟩⟩⟩⟩⟩⟩⟩⟩⟩⟩⟩⟩ <;> rfl
theorem hw20 (st : MSt) : w20 st = st.set 20 none := by rcases st with _ | ⟨_, _ | ⟨_, _ | ⟨_, _ | ⟨_, _ | ⟨_, _ | ⟨_, _ | ⟨_, _ | ⟨_, _ | ⟨_, _ | ⟨_, _ | ⟨_, _ | ⟨_, _ | ⟨_, _ | ⟨_, _ | ⟨_, _ | ⟨_, _ | ⟨_, _ | ⟨_, _ | ⟨_, _ | ⟨_, _ | ⟨_, _⟩⟩⟩⟩⟩⟩⟩⟩⟩⟩⟩⟩⟩⟩⟩⟩⟩⟩⟩⟩⟩ <;> rfl
def A20 : Acc := ⟨20, g20, s20, w20, hg20, hs20, hw20⟩
def g21 (st : MSt) : Option SV := List.rec (motive := fun _ => Option SV) none (fun a0 r0 _ => List.rec (motive := fun _ => Option SV) none (fun a1 r1 _ => List.rec (motive := fun _ => Option SV) none (fun a2 r2 _ => List.rec (motive := fun _ => Option SV) none (fun a3 r3 _ => List.rec (motive := fun _ => Option SV) none (fun a4 r4 _ => List.rec (motive := fun _ => Option SV) none (fun a5 r5 _ => List.rec (motive := fun _ => Option SV) none (fun a6 r6 _ => List.rec (motive := fun _ => Option SV) none (fun a7 r7 _ => List.rec (motive := fun _ => Option SV) none (fun a8 r8 _ => List.rec (motive := fun _ => Option SV) none (fun a9 r9 _ => List.rec (motive := fun _ => Option SV) none (fun a10 r10 _ => List.rec (motive := fun _ => Option SV) none (fun a11 r11 _ => List.rec (motive := fun _ => Option SV) none (fun a12 r12 _ => List.rec (motive := fun _ => Option SV) none (fun a13 r13 _ => List.rec (motive := fun _ => Option SV) none (fun a14 r14 _ => List.rec (motive := fun _ => Option SV) none (fun a15 r15 _ => List.rec (motive := fun _ => Option SV) none (fun a16 r16 _ => List.rec (motive := fun _ => Option SV) none (fun a17 r17 _ => List.rec (motive := fun _ => Option SV) none (fun a18 r18 _ => List.rec (motive := fun _ => Option SV) none (fun a19 r19 _ => List.rec (motive := fun _ => Option SV) none (fun a20 r20 _ => List.rec (motive := fun _ => Option SV) none (fun a21 r21 _ => a21) r20) r19) r18) r17) r16) r15) r14) r13) r12) r11) r10) r9) r8) r7) r6) r5) r4) r3) r2) r1) r0) st
def s21 (st : MSt) (v : SV) : MSt := List.rec (motive := fun _ => MSt) st (fun a0 r0 _ => List.rec (motive := fun _ => MSt) st (fun a1 r1 _ => List.rec (motive := fun _ => MSt) st (fun a2 r2 _ => List.rec (motive := fun _ => MSt) st (fun a3 r3 _ => List.rec (motive := fun _ => MSt) st (fun a4 r4 _ => List.rec (motive := fun _ => MSt) st (fun a5 r5 _ => List.rec (motive := fun _ => MSt) st (fun a6 r6 _ => List.rec (motive := fun _ => MSt) st (fun a7 r7 _ => List.rec (motive := fun _ => MSt) st (fun a8 r8 _ => List.rec (motive := fun _ => MSt) st (fun a9 r9 _ => List.rec (motive := fun _ => MSt) st (fun a10 r10 _ => List.rec (motive := fun _ => MSt) st (fun a11 r11 _ => List.rec (motive := fun _ => MSt) st (fun a12 r12 _ => List.rec (motive := fun _ => MSt) st (fun a13 r13 _ => List.rec (motive := fun _ => MSt) st (fun a14 r14 _ => List.rec (motive := fun _ => MSt) st (fun a15 r15 _ => List.rec (motive := fun _ => MSt) st (fun a16 r16 _ => List.rec (motive := fun _ => MSt) st (fun a17 r17 _ => List.rec (motive := fun _ => MSt) st (fun a18 r18 _ => List.rec (motive := fun _ => MSt) st (fun a19 r19 _ => List.rec (motive := fun _ => MSt) st (fun a20 r20 _ => List.rec (motive := fun _ => MSt) st (fun a21 r21 _ => a0 :: a1 :: a2 :: a3 :: a4 :: a5 :: a6 :: a7 :: a8 :: a9 :: a10 :: a11 :: a12 :: a13 :: a14 :: a15 :: a16 :: a17 :: a18 :: a19 :: a20 :: some v :: r21) r20) r19) r18) r17) r16) r15) r14) r13) r12) r11) r10) r9) r8) r7) r6) r5) r4) r3) r2) r1) r0) st
def w21 (st : MSt) : MSt := List.rec (motive := fun _ => MSt) st (fun a0 r0 _ => List.rec (motive := fun _ => MSt) st (fun a1 r1 _ => List.rec (motive := fun _ => MSt) st (fun a2 r2 _ => List.rec (motive := fun _ => MSt) st (fun a3 r3 _ => List.rec (motive := fun _ => MSt) st (fun a4 r4 _ => List.rec (motive := fun _ => MSt) st (fun a5 r5 _ => List.rec (motive := fun _ => MSt) st (fun a6 r6 _ => List.rec (motive := fun _ => MSt) st (fun a7 r7 _ => List.rec (motive := fun _ => MSt) st (fun a8 r8 _ => List.rec (motive := fun _ => MSt) st (fun a9 r9 _ => List.rec (motive := fun _ => MSt) st (fun a10 r10 _ => List.rec (motive := fun _ => MSt) st (fun a11 r11 _ => List.rec (motive := fun _ => MSt) st (fun a12 r12 _ => List.rec (motive := fun _ => MSt) st (fun a13 r13 _ => List.rec (motive := fun _ => MSt) st (fun a14 r14 _ => List.rec (motive := fun _ => MSt) st (fun a15 r15 _ => List.rec (motive := fun _ => MSt) st (fun a16 r16 _ => List.rec (motive := fun _ => MSt) st (fun a17 r17 _ => List.rec (motive := fun _ => MSt) st (fun a18 r18 _ => List.rec (motive := fun _ => MSt) st (fun a19 r19 _ => List.rec (motive := fun _ => MSt) st (fun a20 r20 _ => List.rec (motive := fun _ => MSt) st (fun a21 r21 _ => a0 :: a1 :: a2 :: a3 :: a4 :: a5 :: a6 :: a7 :: a8 :: a9 :: a10 :: a11 :: a12 :: a13 :: a14 :: a15 :: a16 :: a17 :: a18 :: a19 :: a20 :: none :: r21) r20) r19) r18) r17) r16) r15) r14) r13) r12) r11) r10) r9) r8) r7) r6) r5) r4) r3) r2) r1) r0) st
theorem hg21 (st : MSt) : g21 st = (st[21]?).join := by rcases st with _ | ⟨_, _ | ⟨_, _ | ⟨_, _ | ⟨_, _ | ⟨_, _ | ⟨_, _ | ⟨_, _ | ⟨_, _ | ⟨_, _ | ⟨_, _ | ⟨_, _ | ⟨_, _ | ⟨_, _ | ⟨_, _ | ⟨_, _ | ⟨_, _ | ⟨_, _ | ⟨_, _ | ⟨_, _ | ⟨_, _ | ⟨_, _ | ⟨_, _⟩⟩⟩⟩⟩⟩⟩⟩⟩⟩⟩⟩⟩⟩⟩⟩⟩⟩⟩⟩⟩⟩ <;> rfl
theorem hs21 (st : MSt) (v : SV) : s21 st v = st.set 21 (some v) := by rcases st with _ | ⟨_, _ | ⟨_, _ | ⟨_, _ | ⟨_, _ | ⟨_, _ | ⟨_, _ | ⟨_, _ | ⟨_, _ | ⟨_, _ | ⟨_, _ | ⟨_, _ | ⟨_, _ | ⟨_, _ | ⟨_, _ | ⟨_, _ | ⟨_, _ | ⟨_, _ | ⟨_, _ | ⟨_, _ | ⟨_, _ | ⟨_, _ | ⟨_, _⟩⟩⟩⟩⟩⟩⟩⟩⟩⟩⟩⟩⟩⟩⟩⟩⟩⟩⟩⟩⟩⟩ <;> rfl
theorem hw21 (st : MSt) : w21 st = st.set 21 none := by rcases st with _ | ⟨_, _ | ⟨_, _ | ⟨_, _ | ⟨_, _ | ⟨_, _ | ⟨_, _ | ⟨_, _ | ⟨_, _ | ⟨_, _ | ⟨_, _ | ⟨_, _ | ⟨_, _ | ⟨_, _ | ⟨_, _ | ⟨_, _ | ⟨_, _ | ⟨_, _ | ⟨_, _ | ⟨_, _ | ⟨_, _ | ⟨_, _ | ⟨_, _⟩⟩⟩⟩⟩⟩⟩⟩⟩⟩⟩⟩⟩⟩⟩⟩⟩⟩⟩⟩⟩⟩ <;> rfl
def A21 : Acc := ⟨21, g21, s21, w21, hg21, hs21, hw21⟩
def g22 (st : MSt) : Option SV := List.rec (motive := fun _ => Option SV) none (fun a0 r0 _ => List.rec (motive := fun _ => Option SV) none (fun a1 r1 _ => List.rec (motive := fun _ => Option SV) none (fun a2 r2 _ => List.rec (motive := fun _ => Option SV) none (fun a3 r3 _ => List.rec (motive := fun _ => Option SV) none (fun a4 r4 _ => List.rec (motive := fun _ => Option SV) none (fun a5 r5 _ => List.rec (motive := fun _ => Option SV) none (fun a6 r6 _ => List.rec (motive := fun _ => Option SV) none (fun a7 r7 _ => List.rec (motive := fun _ => Option SV) none (fun a8 r8 _ => List.rec (motive := fun _ => Option SV) none (fun a9 r9 _ => List.rec (motive := fun _ => Option SV) none (fun a10 r10 _ => List.rec (motive := fun _ => Option SV) none (fun a11 r11 _ => List.rec (motive := fun _ => Option SV) none (fun a12 r12 _ => List.rec (motive := fun _ => Option SV) none (fun a13 r13 _ => List.rec (motive := fun _ => Option SV) none (fun a14 r14 _ => List.rec (motive := fun _ => Option SV) none (fun a15 r15 _ => List.rec (motive := fun _ => Option SV) none (fun a16 r16 _ => List.rec (motive := fun _ => Option SV) none (fun a17 r17 _ => List.rec (motive := fun _ => Option SV) none (fun a18 r18 _ => List.rec (motive := fun _ => Option SV) none (fun a19 r19 _ => List.rec (motive := fun _ => Option SV) none (fun a20 r20 _ => List.rec (motive := fun _ => Option SV) none (fun a21 r21 _ => List.rec (motive := fun _ => Option SV) none (fun a22 r22 _ => a22) r21) r20) r19) r18) r17) r16) r15) r14) r13) r12) r11) r10) r9) r8) r7) r6) r5) r4) r3) r2) r1) r0) st
def s22 (st : MSt) (v : SV) : MSt := List.rec (motive := fun _ => MSt) st (fun a0 r0 _ => List.rec (motive := fun _ => MSt) st (fun a1 r1 _ => List.rec (motive := fun _ => MSt) st (fun a2 r2 _ => List.rec (motive := fun _ => MSt) st (fun a3 r3 _ => List.rec (motive := fun _ => MSt) st (fun a4 r4 _ => List.rec (motive := fun _ => MSt) st (fun a5 r5 _ => List.rec (motive := fun _ => MSt) st (fun a6 r6 _ => List.rec (motive := fun _ => MSt) st (fun a7 r7 _ => List.rec (motive := fun _ => MSt) st (fun a8 r8 _ => List.rec (motive := fun _ => MSt) st (fun a9 r9 _ => List.rec (motive := fun _ => MSt) st (fun a10 r10 _ => List.rec (motive := fun _ => MSt) st (fun a11 r11 _ => List.rec (motive := fun _ => MSt) st (fun a12 r12 _ => List.rec (motive := fun _ => MSt) st (fun a13 r13 _ => List.rec (motive := fun _ => MSt) st (fun a14 r14 _ => List.rec (motive := fun _ => MSt) st (fun a15 r15 _ => List.rec (motive := fun _ => MSt) st (fun a16 r16 _ => List.rec (motive := fun _ => MSt) st (fun a17 r17 _ => List.rec (motive := fun _ => MSt) st (fun a18 r18 _ => List.rec (motive := fun _ => MSt) st (fun a19 r19 _ => List.rec (motive := fun _ => MSt) st (fun a20 r20 _ => List.rec (motive := fun _ => MSt) st (fun a21 r21 _ => List.rec (motive := fun _ => MSt) st (fun a22 r22 _ => a0 :: a1 :: a2 :: a3 :: a4 :: a5 :: a6 :: a7 :: a8 :: a9 :: a10 :: a11 :: a12 :: a13 :: a14 :: a15 :: a16 :: a17 :: a18 :: a19 :: a20 :: a21 :: some v :: r22) r21) r20) r19) r18) r17) r16) r15) r14) r13) r12) r11) r10) r9) r8) r7) r6) r5) r4) r3) r2) r1) r0) st
def w22 (st : MSt) : MSt := List.rec (motive := fun _ => MSt) st (fun a0 r0 _ => List.rec (motive := fun _ => MSt) st (fun a1 r1 _ => List.rec (motive := fun _ => MSt) st (fun a2 r2 _ => List.rec (motive := fun _ => MSt) st (fun a3 r3 _ => List.rec (motive := fun _ => MSt) st (fun a4 r4 _ => List.rec (motive := fun _ => MSt) st (fun a5 r5 _ => List.rec (motive := fun _ => MSt) st (fun a6 r6 _ => List.rec (motive := fun _ => MSt) st (fun a7 r7 _ => List.rec (motive := fun _ => MSt) st (fun a8 r8 _ => List.rec (motive := fun _ => MSt) st (fun a9 r9 _ => List.rec (motive := fun _ => MSt) st (fun a10 r10 _ => List.rec (motive := fun _ => MSt) st (fun a11 r11 _ => List.rec (motive := fun _ => MSt) st (fun a12 r12 _ => List.rec (motive := fun _ => MSt) st (fun a13 r13 _ => List.rec (motive := fun _ => MSt) st (fun a14 r14 _ => List.rec (motive := fun _ => MSt) st (fun a15 r15 _ => List.rec (motive := fun _ => MSt) st (fun a16 r16 _ => List.rec (motive := fun _ => MSt) st (fun a17 r17 _ => List.rec (motive := fun _ => MSt) st (fun a18 r18 _ => List.rec (motive := fun _ => MSt) st (fun a19 r19 _ => List.rec (motive := fun _ => MSt) st (fun a20 r20 _ => List.rec (motive := fun _ => MSt) st (fun a21 r21 _ => List.rec (motive := fun _ => MSt) st (fun a22 r22 _ => a0 :: a1 :: a2 :: a3 :: a4 :: a5 :: a6 :: a7 :: a8 :: a9 :: a10 :: a11 :: a12 :: a13 :: a14 :: a15 :: a16 :: a17 :: a18 :: a19 :: a20 :: a21 :: none :: r22) r21) r20) r19) r18) r17) r16) r15) r14) r13) r12) r11) r10) r9) r8) r7) r6) r5) r4) r3) r2) r1) r0) st
theorem hg22 (st : MSt) : g22 st = (st[22]?).join := by rcases st with _ | ⟨_, _ | ⟨_, _ | ⟨_, _ | ⟨_, _ | ⟨_, _ | ⟨_, _ | ⟨_, _ | ⟨_, _ | ⟨_, _ | ⟨_, _ | ⟨_, _ | ⟨_, _ | ⟨_, _ | ⟨_, _ | ⟨_, _ | ⟨_, _ | ⟨_, _ | ⟨_, _ | ⟨_, _ | ⟨_, _ | ⟨_, _ | ⟨_, _ | ⟨_, _⟩⟩⟩⟩⟩⟩⟩⟩⟩⟩⟩⟩⟩⟩⟩⟩⟩⟩⟩⟩⟩⟩⟩ <;> rfl
theorem hs22 (st : MSt) (v : SV) : s22 st v = st.set 22 (some v) := by rcases st with _ | ⟨_, _ | ⟨_, _ | ⟨_, _ | ⟨_, _ | ⟨_, _ | ⟨_, _ | ⟨_, _ | ⟨_, _ | ⟨_, _ | ⟨_, _ | ⟨_, _ | ⟨_, _ | ⟨_, _ | ⟨_, _ | ⟨_, _ | ⟨_, _ | ⟨_, _ | ⟨_, _ | ⟨_, _ | ⟨_, _ | ⟨_, _ | ⟨_, _ | ⟨_, _⟩⟩⟩⟩⟩⟩⟩⟩⟩⟩⟩⟩⟩⟩⟩⟩⟩⟩⟩⟩⟩⟩⟩ <;> rfl
theorem hw22 (st : MSt) : w22 st = st.set 22 none := by rcases st with _ | ⟨_, _ | ⟨_, _ | ⟨_, _ | ⟨_, _ | ⟨_, _ | ⟨_, _ | ⟨_, _ | ⟨_, _ | ⟨_, _ | ⟨_, _ | ⟨_, _ | ⟨_, _ | ⟨_, _ | ⟨_, _ | ⟨_, _ | ⟨_, _ | ⟨_, _ | ⟨_, _ | ⟨_, _ | ⟨_, _ | ⟨_, _ | ⟨_, _ | ⟨_, _⟩⟩⟩⟩⟩⟩⟩⟩⟩⟩⟩⟩⟩⟩⟩⟩⟩⟩⟩⟩⟩⟩⟩ <;> rfl
def A22 : Acc := ⟨22, g22, s22, w22, hg22, hs22, hw22⟩
def g23 (st : MSt) : Option SV := List.rec (motive := fun _ => Option SV) none (fun a0 r0 _ => List.rec (motive := fun _ => Option SV) none (fun a1 r1 _ => List.rec (motive := fun _ => Option SV) none (fun a2 r2 _ => List.rec (motive := fun _ => Option SV) none (fun a3 r3 _ => List.rec (motive := fun _ => Option SV) none (fun a4 r4 _ => List.rec (motive := fun _ => Option SV) none (fun a5 r5 _ => List.rec (motive := fun _ => Option SV) none (fun a6 r6 _ => List.rec (motive := fun _ => Option SV) none (fun a7 r7 _ => List.rec (motive := fun _ => Option SV) none (fun a8 r8 _ => List.rec (motive := fun _ => Option SV) none (fun a9 r9 _ => List.rec (motive := fun _ => Option SV) none (fun a10 r10 _ => List.rec (motive := fun _ => Option SV) none (fun a11 r11 _ => List.rec (motive := fun _ => Option SV) none (fun a12 r12 _ => List.rec (motive := fun _ => Option SV) none (fun a13 r13 _ => List.rec (motive := fun _ => Option SV) none (fun a14 r14 _ => List.rec (motive := fun _ => Option SV) none (fun a15 r15 _ => List.rec (motive := fun _ => Option SV) none (fun a16 r16 _ => List.rec (motive := fun _ => Option SV) none (fun a17 r17 _ => List.rec (motive := fun _ => Option SV) none (fun a18 r18 _ => List.rec (motive := fun _ => Option SV) none (fun a19 r19 _ => List.rec (motive := fun _ => Option SV) none (fun a20 r20 _ => List.rec (motive := fun _ => Option SV) none (fun a21 r21 _ => List.rec (motive := fun _ => Option SV) none (fun a22 r22 _ => List.rec (motive := fun _ => Option SV) none (fun a23 r23 _ => a23) r22) r21) r20) r19) r18) r17) r16) r15) r14) r13) r12) r11) r10) r9) r8) r7) r6) r5) r4) r3) r2) r1) r0) st
def s23 (st : MSt) (v : SV) : MSt := List.rec (motive := fun _ => MSt) st (fun a0 r0 _ => List.rec (motive := fun _ => MSt) st (fun a1 r1 _ => List.rec (motive := fun _ => MSt) st (fun a2 r2 _ => List.rec (motive := fun _ => MSt) st (fun a3 r3 _ => List.rec (motive := fun _ => MSt) st (fun a4 r4 _ => List.rec (motive := fun _ => MSt) st (fun a5 r5 _ => List.rec (motive := fun _ => MSt) st (fun a6 r6 _ => List.rec (motive := fun _ => MSt) st (fun a7 r7 _ => List.rec (motive := fun _ => MSt) st (fun a8 r8 _ => List.rec (motive := fun _ => MSt) st (fun a9 r9 _ => List.rec (motive := fun _ => MSt) st (fun a10 r10 _ => List.rec (motive := fun _ => MSt) st (fun a11 r11 _ => List.rec (motive := fun _ => MSt) st (fun a12 r12 _ => List.rec (motive := fun _ => MSt) st (fun a13 r13 _ => List.rec (motive := fun _ => MSt) st (fun a14 r14 _ => List.rec (motive := fun _ => MSt) st (fun a15 r15 _ => List.rec (motive := fun _ => MSt) st (fun a16 r16 _ => List.rec (motive := fun _ => MSt) st (fun a17 r17 _ => List.rec (motive := fun _ => MSt) st (fun a18 r18 _ => List.rec (motive := fun _ => MSt) st (fun a19 r19 _ => List.rec (motive := fun _ => MSt) st (fun a20 r20 _ => List.rec (motive := fun _ => MSt) st (fun a21 r21 _ => List.rec (motive := fun _ => MSt) st (fun a22 r22 _ => List.rec (motive := fun _ => MSt) st (fun a23 r23 _ => a0 :: a1 :: a2 :: a3 :: a4 :: a5 :: a6 :: a7 :: a8 :: a9 :: a10 :: a11 :: a12 :: a13 :: a14 :: a15 :: a16 :: a17 :: a18 :: a19 :: a20 :: a21 :: a22 :: some v :: r23) r22) r21) r20) r19) r18) r17) r16) r15) r14) r13) r12) r11) r10) r9) r8) r7) r6) r5) r4) r3) r2) r1) r0) st
def w23 (st : MSt) : MSt := List.rec (motive := fun _ => MSt) st (fun a0 r0 _ => List.rec (motive := fun _ => MSt) st (fun a1 r1 _ => List.rec (motive := fun _ => MSt) st (fun a2 r2 _ => List.rec (motive := fun _ => MSt) st (fun a3 r3 _ => List.rec (motive := fun _ => MSt) st (fun a4 r4 _ => List.rec (motive := fun _ => MSt) st (fun a5 r5 _ => List.rec (motive := fun _ => MSt) st (fun a6 r6 _ => List.rec (motive := fun _ => MSt) st (fun a7 r7 _ => List.rec (motive := fun _ => MSt) st (fun a8 r8 _ => List.rec (motive := fun _ => MSt) st (fun a9 r9 _ => List.rec (motive := fun _ => MSt) st (fun a10 r10 _ => List.rec (motive := fun _ => MSt) st (fun a11 r11 _ => List.rec (motive := fun _ => MSt) st (fun a12 r12 _ => List.rec (motive := fun _ => MSt) st (fun a13 r13 _ => List.rec (motive := fun _ => MSt) st (fun a14 r14 _ => List.rec (motive := fun _ => MSt) st (fun a15 r15 _ => List.rec (motive := fun _ => MSt) st (fun a16 r16 _ => List.rec (motive := fun _ => MSt) st (fun a17 r17 _ => List.rec (motive := fun _ => MSt) st (fun a18 r18 _ => List.rec (motive := fun _ => MSt) st (fun a19 r19 _ => List.rec (motive := fun _ => MSt) st (fun a20 r20 _ => List.rec (motive := fun _ => MSt) st (fun a21 r21 _ => List.rec (motive := fun _ => MSt) st (fun a22 r22 _ => List.rec (motive := fun _ => MSt) st (fun a23 r23 _ => a0 :: a1 :: a2 :: a3 :: a4 :: a5 :: a6 :: a7 :: a8 :: a9 :: a10 :: a11 :: a12 :: a13 :: a14 :: a15 :: a16 :: a17 :: a18 :: a19 :: a20 :: a21 :: a22 :: none :: r23) r22) r21) r20) r19) r18) r17) r16) r15) r14) r13) r12) r11) r10) r9) r8) r7) r6) r5) r4) r3) r2) r1) r0) st
theorem hg23 (st : MSt) : g23 st = (st[23]?).join := by rcases st with _ | ⟨_, _ | ⟨_, _ | ⟨_, _ | ⟨_, _ | ⟨_, _ | ⟨_, _ | ⟨_, _ | ⟨_, _ | ⟨_, _ | ⟨_, _ | ⟨_, _ | ⟨_, _ | ⟨_, _ | ⟨_, _ | ⟨_, _ | ⟨_, _ | ⟨_, _ | ⟨_, _ | ⟨_, _ | ⟨_, _ | ⟨_, _ | ⟨_, _ | ⟨_, _ | ⟨_, _⟩⟩⟩⟩⟩⟩⟩⟩⟩⟩⟩⟩⟩⟩⟩⟩⟩⟩⟩⟩⟩⟩⟩⟩ <;> rfl
theorem hs23 (st : MSt) (v : SV) : s23 st v = st.set 23 (some v) := by rcases st with _ | ⟨_, _ | ⟨_, _ | ⟨_, _ | ⟨_, _ | ⟨_, _ | ⟨_, _ | ⟨_, _ | ⟨_, _ | ⟨_, _ | ⟨_, _ | ⟨_, _ | ⟨_, _ | ⟨_, _ | ⟨_, _ | ⟨_, _ | ⟨_, _ | ⟨_, _ | ⟨_, _ | ⟨_, _ | ⟨_, _ | ⟨_, _ | ⟨_, _ | ⟨_, _ | ⟨_, _⟩⟩⟩⟩⟩⟩⟩⟩⟩⟩⟩⟩⟩⟩⟩⟩⟩⟩⟩⟩⟩⟩⟩⟩ <;> rfl
theorem hw23 (st : MSt) : w23 st = st.set 23 none := by rcases st with _ | ⟨_, _ | ⟨_, _ | ⟨_, _ | ⟨_, _ | ⟨_, _ | ⟨_, _ | ⟨_, _ | ⟨_, _ | ⟨_, _ | ⟨_, _ | ⟨_, _ | ⟨_, _ | ⟨_, _ | ⟨_, _ | ⟨_, _ | ⟨_, _ | ⟨_, _ | ⟨_, _ | ⟨_, _ | ⟨_, _ | ⟨_, _ | ⟨_, _ | ⟨_, _ | ⟨_, _⟩⟩⟩⟩⟩⟩⟩⟩⟩⟩⟩⟩⟩⟩⟩⟩⟩⟩⟩⟩⟩⟩⟩⟩ <;> rfl
def A23 : Acc := ⟨23, g23, s23, w23, hg23, hs23, hw23⟩
def g24 (st : MSt) : Option SV := List.rec (motive := fun _ => Option SV) none (fun a0 r0 _ => List.rec (motive := fun _ => Option SV) none (fun a1 r1 _ => List.rec (motive := fun _ => Option SV) none (fun a2 r2 _ => List.rec (motive := fun _ => Option SV) none (fun a3 r3 _ => List.rec (motive := fun _ => Option SV) none (fun a4 r4 _ => List.rec (motive := fun _ => Option SV) none (fun a5 r5 _ => List.rec (motive := fun _ => Option SV) none (fun a6 r6 _ => List.rec (motive := fun _ => Option SV) none (fun a7 r7 _ => List.rec (motive := fun _ => Option SV) none (fun a8 r8 _ => List.rec (motive := fun _ => Option SV) none (fun a9 r9 _ => List.rec (motive := fun _ => Option SV) none (fun a10 r10 _ => List.rec (motive := fun _ => Option SV) none (fun a11 r11 _ => List.rec (motive := fun _ => Option SV) none (fun a12 r12 _ => List.rec (motive := fun _ => Option SV) none (fun a13 r13 _ => List.rec (motive := fun _ => Option SV) none (fun a14 r14 _ => List.rec (motive := fun _ => Option SV) none (fun a15 r15 _ => List.rec (motive := fun _ => Option SV) none (fun a16 r16 _ => List.rec (motive := fun _ => Option SV) none (fun a17 r17 _ => List.rec (motive := fun _ => Option SV) none (fun a18 r18 _ => List.rec (motive := fun _ => Option SV) none (fun a19 r19 _ => List.rec (motive := fun _ => Option SV) none (fun a20 r20 _ => List.rec (motive := fun _ => Option SV) none (fun a21 r21 _ => List.rec (motive := fun _ => Option SV) none (fun a22 r22 _ => List.rec (motive := fun _ => Option SV) none (fun a23 r23 _ => List.rec (motive := fun _ => Option SV) none (fun a24 r24 _ => a24) r23) r22) r21) r20) r19) r18) r17) r16) r15) r14) r13) r12) r11) r10) r9) r8) r7) r6) r5) r4) r3) r2) r1) r0) st
def s24 (st : MSt) (v : SV) : MSt := List.rec (motive := fun _ => MSt) st (fun a0 r0 _ => List.rec (motive := fun _ => MSt) st (fun a1 r1 _ => List.rec (motive := fun _ => MSt) st (fun a2 r2 _ => List.rec (motive := fun _ => MSt) st (fun a3 r3 _ => List.rec (motive := fun _ => MSt) st (fun a4 r4 _ => List.rec (motive := fun _ => MSt) st (fun a5 r5 _ => List.rec (motive := fun _ => MSt) st (fun a6 r6 _ => List.rec (motive := fun _ => MSt) st (fun a7 r7 _ => List.rec (motive := fun _ => MSt) st (fun a8 r8 _ => List.rec (motive := fun _ => MSt) st (fun a9 r9 _ => List.rec (motive := fun _ => MSt) st (fun a10 r10 _ => List.rec (motive := fun _ => MSt) st (fun a11 r11 _ => List.rec (motive := fun _ => MSt) st (fun a12 r12 _ => List.rec (motive := fun _ => MSt) st (fun a13 r13 _ => List.rec (motive := fun _ => MSt) st (fun a14 r14 _ => List.rec (motive := fun _ => MSt) st (fun a15 r15 _ => List.rec (motive := fun _ => MSt) st (fun a16 r16 _ => List.rec (motive := fun _ => MSt) st (fun a17 r17 _ => List.rec (motive := fun _ => MSt) st (fun a18 r18 _ => List.rec (motive := fun _ => MSt) st (fun a19 r19 _ => List.rec (motive := fun _ => MSt) st (fun a20 r20 _ => List.rec (motive := fun _ => MSt) st (fun a21 r21 _ => List.rec (motive := fun _ => MSt) st (fun a22 r22 _ => List.rec (motive := fun _ => MSt) st (fun a23 r23 _ => List.rec (motive := fun _ => MSt) st (fun a24 r24 _ => a0 :: a1 :: a2 :: a3 :: a4 :: a5 :: a6 :: a7 :: a8 :: a9 :: a10 :: a11 :: a12 :: a13 :: a14 :: a15 :: a16 :: a17 :: a18 :: a19 :: a20 :: a21 :: a22 :: a23 :: some v :: r24) r23) r22) r21) r20) r19) r18) r17) r16) r15) r14) r13) r12) r11) r10) r9) r8) r7) r6) r5) r4) r3) r2) r1) r0) st
def w24 (st : MSt) : MSt := List.rec (motive := fun _ => MSt) st (fun a0 r0 _ => List.rec (motive := fun _ => MSt) st (fun a1 r1 _ => List.rec (motive := fun _ => MSt) st (fun a2 r2 _ => List.rec (motive := fun _ => MSt) st (fun a3 r3 _ => List.rec (motive := fun _ => MSt) st (fun a4 r4 _ => List.rec (motive := fun _ => MSt) st (fun a5 r5 _ => List.rec (motive := fun _ => MSt) st (fun a6 r6 _ => List.rec (motive := fun _ => MSt) st (fun a7 r7 _ => List.rec (motive := fun _ => MSt) st (fun a8 r8 _ => List.rec (motive := fun _ => MSt) st (fun a9 r9 _ => List.rec (motive := fun _ => MSt) st (fun a10 r10 _ => List.rec (motive := fun _ => MSt) st (fun a11 r11 _ => List.rec (motive := fun _ => MSt) st (fun a12 r12 _ => List.rec (motive := fun _ => MSt) st (fun a13 r13 _ => List.rec (motive := fun _ => MSt) st (fun a14 r14 _ => List.rec (motive := fun _ => MSt) st (fun a15 r15 _ => List.rec (motive := fun _ => MSt) st (fun a16 r16 _ => List.rec (motive := fun _ => MSt) st (fun a17 r17 _ => List.rec (motive := fun _ => MSt) st (fun a18 r18 _ => List.rec (motive := fun _ => MSt) st (fun a19 r19 _ => List.rec (motive := fun _ => MSt) st (fun a20 r20 _ => List.rec (motive := fun _ => MSt) st (fun a21 r21 _ => List.rec (motive := fun _ => MSt) st (fun a22 r22 _ => List.rec (motive := fun _ => MSt) st (fun a23 r23 _ => List.rec (motive := fun _ => MSt) st (fun a24 r24 _ => a0 :: a1 :: a2 :: a3 :: a4 :: a5 :: a6 :: a7 :: a8 :: a9 :: a10 :: a11 :: a12 :: a13 :: a14 :: a15 :: a16 :: a17 :: a18 :: a19 :: a20 :: a21 :: a22 :: a23 :: none :: r24) r23) r22) r21) r20) r19) r18) r17) r16) r15) r14) r13) r12) r11) r10) r9) r8) r7) r6) r5) r4) r3) r2) r1) r0) st
theorem hg24 (st : MSt) : g24 st = (st[24]?).join := by rcases st with _ | ⟨_, _ | ⟨_, _ | ⟨_, _ | ⟨_, _ | ⟨_, _ | ⟨_, _ | ⟨_, _ | ⟨_, _ | ⟨_, _ | ⟨_, _ | ⟨_, _ | ⟨_, _ | ⟨_, _ | ⟨_, _ | ⟨_, _ | ⟨_, _ | ⟨_, _ | ⟨_, _ | ⟨_, _ | ⟨_, _ | ⟨_, _ | ⟨_, _ | ⟨_, _ | ⟨_, _ | ⟨_, _⟩⟩⟩⟩⟩⟩⟩⟩⟩⟩⟩⟩⟩⟩⟩⟩⟩⟩⟩⟩⟩⟩⟩⟩⟩ <;> rfl
theorem hs24 (st : MSt) (v : SV) : s24 st v = st.set 24 (some v) := by rcases st with _ | ⟨_, _ | ⟨_, _ | ⟨_, _ | ⟨_, _ | ⟨_, _ | ⟨_, _ | ⟨_, _ | ⟨_, _ | ⟨_, _ | ⟨_, _ | ⟨_, _ | ⟨_, _ | ⟨_, _ | ⟨_, _ | ⟨_, _ | ⟨_, _ | ⟨_, _ | ⟨_, _ | ⟨_, _ | ⟨_, _ | ⟨_, _ | ⟨_, _ | ⟨_, _ | ⟨_, _ | ⟨_, _⟩⟩⟩⟩⟩⟩⟩⟩⟩⟩⟩⟩⟩⟩⟩⟩⟩⟩⟩⟩⟩⟩⟩⟩⟩ <;> rfl
theorem hw24 (st : MSt) : w24 st = st.set 24 none := by rcases st with _ | ⟨_, _ | ⟨_, _ | ⟨_, _ | ⟨_, _ | ⟨_, _ | ⟨_, _ | ⟨_, _ | ⟨_, _ | ⟨_, _ | ⟨_, _ | ⟨_, _ | ⟨_, _ | ⟨_, _ | ⟨_, _ | ⟨_, _ | ⟨_, _ | ⟨_, _ | ⟨_, _ | ⟨_, _ | ⟨_, _ | ⟨_, _ | ⟨_, _ | ⟨_, _ | ⟨_, _ | ⟨_, _⟩⟩⟩⟩⟩⟩⟩⟩⟩⟩⟩⟩⟩⟩⟩⟩⟩⟩⟩⟩⟩⟩⟩⟩⟩ <;> rfl
def A24 : Acc := ⟨24, g24, s24, w24, hg24, hs24, hw24⟩
def g25 (st : MSt) : Option SV := List.rec (motive := fun _ => Option SV) none (fun a0 r0 _ => List.rec (motive := fun _ => Option SV) none (fun a1 r1 _ => List.rec (motive := fun _ => Option SV) none (fun a2 r2 _ => List.rec (motive := fun _ => Option SV) none (fun a3 r3 _ => List.rec (motive := fun _ => Option SV) none (fun a4 r4 _ => List.rec (motive := fun _ => Option SV) none (fun a5 r5 _ => List.rec (motive := fun _ => Option SV) none (fun a6 r6 _ => List.rec (motive := fun _ => Option SV) none (fun a7 r7 _ => List.rec (motive := fun _ => Option SV) none (fun a8 r8 _ => List.rec (motive := fun _ => Option SV) none (fun a9 r9 _ => List.rec (motive := fun _ => Option SV) none (fun a10 r10 _ => List.rec (motive := fun _ => Option SV) none (fun a11 r11 _ => List.rec (motive := fun _ => Option SV) none (fun a12 r12 _ => List.rec (motive := fun _ => Option SV) none (fun a13 r13 _ => List.rec (motive := fun _ => Option SV) none (fun a14 r14 _ => List.rec (motive := fun _ => Option SV) none (fun a15 r15 _ => List.rec (motive := fun _ => Option SV) none (fun a16 r16 _ => List.rec (motive := fun _ => Option SV) none (fun a17 r17 _ => List.rec (motive := fun _ => Option SV) none (fun a18 r18 _ => List.rec (motive := fun _ => Option SV) none (fun a19 r19 _ => List.rec (motive := fun _ => Option SV) none (fun a20 r20 _ => List.rec (motive := fun _ => Option SV) none (fun a21 r21 _ => List.rec (motive := fun _ => Option SV) none (fun a22 r22 _ => List.rec (motive := fun _ => Option SV) none (fun a23 r23 _ => List.rec (motive := fun _ => Option SV) none (fun a24 r24 _ => List.rec (motive := fun _ => Option SV) none (fun a25 r25 _ => a25) r24) r23) r22) r21) r20) r19) r18) r17) r16) r15) r14) r13) r12) r11) r10) r9) r8) r7) r6) r5) r4) r3) r2) r1) r0) st
def s25 (st : MSt) (v : SV) : MSt := List.rec (motive := fun _ => MSt) st (fun a0 r0 _ => List.rec (motive := fun _ => MSt) st (fun a1 r1 _ => List.rec (motive := fun _ => MSt) st (fun a2 r2 _ => List.rec (motive := fun _ => MSt) st (fun a3 r3 _ => List.rec (motive := fun _ => MSt) st (fun a4 r4 _ => List.rec (motive := fun _ => MSt) st (fun a5 r5 _ => List.rec (motive := fun _ => MSt) st (fun a6 r6 _ => List.rec (motive := fun _ => MSt) st (fun a7 r7 _ => List.rec (motive := fun _ => MSt) st (fun a8 r8 _ => List.rec (motive := fun _ => MSt) st (fun a9 r9 _ => List.rec (motive := fun _ => MSt) st (fun a10 r10 _ => List.rec (motive := fun _ => MSt) st (fun a11 r11 _ => List.rec (motive := fun _ => MSt) st (fun a12 r12 _ => List.rec (motive := fun _ => MSt) st (fun a13 r13 _ => List.rec (motive := fun _ => MSt) st (fun a14 r14 _ => List.rec (motive := fun _ => MSt) st (fun a15 r15 _ => List.rec (motive := fun _ => MSt) st (fun a16 r16 _ => List.rec (motive := fun _ => MSt) st (fun a17 r17 _ => List.rec (motive := fun _ => MSt) st (fun a18 r18 _ => List.rec (motive := fun _ => MSt) st (fun a19 r19 _ => List.rec (motive := fun _ => MSt) st (fun a20 r20 _ => List.rec (motive := fun _ => MSt) st (fun a21 r21 _ => List.rec (motive := fun _ => MSt) st (fun a22 r22 _ => List.rec (motive := fun _ => MSt) st (fun a23 r23 _ => List.rec (motive := fun _ => MSt) st (fun a24 r24 _ => List.rec (motive := fun _ => MSt) st (fun a25 r25 _ => a0 :: a1 :: a2 :: a3 :: a4 :: a5 :: a6 :: a7 :: a8 :: a9 :: a10 :: a11 :: a12 :: a13 :: a14 :: a15 :: a16 :: a17 :: a18 :: a19 :: a20 :: a21 :: a22 :: a23 :: a24 :: some v :: r25) r24) r23) r22) r21) r20) r19) r18) r17) r16) r15) r14) r13) r12) r11) r10) r9) r8) r7) r6) r5) r4) r3) r2) r1) r0) st
def w25 (st : MSt) : MSt := List.rec (motive := fun _ => MSt) st (fun a0 r0 _ => List.rec (motive := fun _ => MSt) st (fun a1 r1 _ => List.rec (motive := fun _ => MSt) st (fun a2 r2 _ => List.rec (motive := fun _ => MSt) st (fun a3 r3 _ => List.rec (motive := fun _ => MSt) st (fun a4 r4 _ => List.rec (motive := fun _ => MSt) st (fun a5 r5 _ => List.rec (motive := fun _ => MSt) st (fun a6 r6 _ => List.rec (motive := fun _ => MSt) st (fun a7 r7 _ => List.rec (motive := fun _ => MSt) st (fun a8 r8 _ => List.rec (motive := fun _ => MSt) st (fun a9 r9 _ => List.rec (motive := fun _ => MSt) st (fun a10 r10 _ => List.rec (motive := fun _ => MSt) st (fun a11 r11 _ => List.rec (motive := fun _ => MSt) st (fun a12 r12 _ => List.rec (motive := fun _ => MSt) st (fun a13 r13 _ => List.rec (motive := fun _ => MSt) st (fun a14 r14 _ => List.rec (motive := fun _ => MSt) st (fun a15 r15 _ => List.rec (motive := fun _ => MSt) st (fun a16 r16 _ => List.rec (motive := fun _ => MSt) st (fun a17 r17 _ => List.rec (motive := fun _ => MSt) st (fun a18 r18 _ => List.rec (motive := fun _ => MSt) st (fun a19 r19 _ => List.rec (motive := fun _ => MSt) st (fun a20 r20 _ => List.rec (motive := fun _ => MSt) st (fun a21 r21 _ => List.rec (motive := fun _ => MSt) st (fun a22 r22 _ => List.rec (motive := fun _ => MSt) st (fun a23 r23 _ => List.rec (motive := fun _ => MSt) st (fun a24 r24 _ => List.rec (motive := fun _ => MSt) st (fun a25 r25 _ => a0 :: a1 :: a2 :: a3 :: a4 :: a5 :: a6 :: a7 :: a8 :: a9 :: a10 :: a11 :: a12 :: a13 :: a14 :: a15 :: a16 :: a17 :: a18 :: a19 :: a20 :: a21 :: a22 :: a23 :: a24 :: none :: r25) r24) r23) r22) r21) r20) r19) r18) r17) r16) r15) r14) r13) r12) r11) r10) r9) r8) r7) r6) r5) r4) r3) r2) r1) r0) st
theorem hg25 (st : MSt) : g25 st = (st[25]?).join := by rcases st with _ | ⟨_, _ | ⟨_, _ | ⟨_, _ | ⟨_, _ | ⟨_, _ | ⟨_, _ | ⟨_, _ | ⟨_, _ | ⟨_, _ | ⟨_, _ | ⟨_, _ | ⟨_, _ | ⟨_, _ | ⟨_, _ | ⟨_, _ | ⟨_, _ | ⟨_, _ | ⟨_, _ | ⟨_, _ | ⟨_, _ | ⟨_, _ | ⟨_, _ | ⟨_, _ | ⟨_, _ | ⟨_, _ | ⟨_, _⟩⟩⟩⟩⟩⟩⟩⟩⟩⟩⟩⟩⟩⟩⟩⟩⟩⟩⟩⟩⟩⟩⟩⟩⟩⟩ <;> rfl
theorem hs25 (st : MSt) (v : SV) : s25 st v = st.set 25 (some v) := by rcases st with _ | ⟨_, _ | ⟨_, _ | ⟨_, _ | ⟨_, _ | ⟨_, _ | ⟨_, _ | ⟨_, _ | ⟨_, _ | ⟨_, _ | ⟨_, _ | ⟨_, _ | ⟨_, _ | ⟨_, _ | ⟨_, _ | ⟨_, _ | ⟨_, _ | ⟨_, _ | ⟨_, _ | ⟨_, _ | ⟨_, _ | ⟨_, _ | ⟨_, _ | ⟨_, _ | ⟨_, _ | ⟨_, _ | ⟨_, _⟩⟩⟩⟩⟩⟩⟩⟩⟩⟩⟩⟩⟩⟩⟩⟩⟩⟩⟩⟩⟩⟩⟩⟩⟩⟩ <;> rfl
theorem hw25 (st : MSt) : w25 st = st.set 25 none := by rcases st with _ | ⟨_, _ | ⟨_, _ | ⟨_, _ | ⟨_, _ | ⟨_, _ | ⟨_, _ | ⟨_, _ | ⟨_, _ | ⟨_, _ | ⟨_, _ | ⟨_, _ | ⟨_, _ | ⟨_, _ | ⟨_, _ | ⟨_, _ | ⟨_, _ | ⟨_, _ | ⟨_, _ | ⟨_, _ | ⟨_, _ | ⟨_, _ | ⟨_, _ | ⟨_, _ | ⟨_, _ | ⟨_, _ | ⟨_, _⟩⟩⟩⟩⟩⟩⟩⟩⟩⟩⟩⟩⟩⟩⟩⟩⟩⟩⟩⟩⟩⟩⟩⟩⟩⟩ <;> rfl
def A25 : Acc := ⟨25, g25, s25, w25, hg25, hs25, hw25⟩
theorem Acc.get {a : Acc} {st : MSt} {v : SV} (h : a.g st = some v) : st[a.i]? = some (some v) := by
  rw [a.hg] at h
  cases q : st[a.i]? with
  | none => rw [q] at h; cases h
  | some o => rw [q] at h; cases o <;> simp_all
theorem Acc.get' {a : Acc} {st : MSt} (o : Option SV) (h : a.g st = o) : st[a.i]? = some o ∨ (st[a.i]? = none ∧ o = none) := by
  rw [a.hg] at h
  cases q : st[a.i]? with
  | none => rw [q] at h; exact .inr ⟨rfl, h.symm⟩
  | some u => rw [q] at h; exact .inl (by rw [← h]; rfl)
/-- bind, by the recursor alone -/
def Out.bnd {α β : Type} (o : Out α) (f : α → Out β) : Out β := Out.rec (motive := fun _ => Out β) f (fun c => .exc c) .bad o
theorem Out.bnd_eq {α β : Type} (o : Out α) (f : α → Out β) : o.bnd f = o.bind f := by cases o <;> rfl
def dVarF (a : Acc) : DE := fun st => Option.rec (motive := fun _ => Out RV) .bad (fun v => SV.rec (motive := fun _ => Out RV) (fun d => .ok ⟨.fz, d⟩) (fun d => .ok ⟨.bor, d⟩) (fun _ => .bad) v) (a.g st)
theorem dVarF_eq (a : Acc) : dVarF a = dVar a.i := by
  funext st
  unfold dVarF dVar
  rw [a.hg]
  cases st[a.i]? with
  | none => rfl
  | some o => cases o with
    | none => rfl
    | some v => cases v <;> rfl
def dRetVF (a : Acc) : DS := fun st => match a.g st with
  | some (.fz d) => .ok (.rt ⟨.fz, d⟩)
  | some (.own d) => .ok (.rt ⟨.fr, d⟩)
  | _ => .bad
theorem dRetVF_eq (a : Acc) : dRetVF a = dRetV a.i := by
  funext st
  unfold dRetVF dRetV
  rw [a.hg]
  cases st[a.i]? with
  | none => rfl
  | some o => cases o with
    | none => rfl
    | some v => cases v <;> rfl
def dSeqF (p q : DS) : DS := fun st => (p st).bind fun f => match f with
  | .nx st1 => q st1
  | f => .ok f
theorem dSeqF_eq (p q : DS) : dSeqF p q = dSeq p q := by
  funext st
  unfold dSeqF dSeq
  congr 1
  funext f
  cases f with
  | nx st1 => show q st1 = forceS st1 q; rw [forceS_eq]
  | _ => rfl
def dSetF (own : Bool) (a : Acc) (de : DE) : DS := fun st => (de st).bind fun r => force3 r.d fun d => match keepAs own ⟨r.k, d⟩ with
  | some v => .ok (.nx (a.s st v))
  | none => .bad
theorem dSetF_eq (own : Bool) (a : Acc) (de : DE) : dSetF own a de = dSet own a.i de := by
  funext st
  unfold dSetF dSet
  congr 1
  funext r
  congr 1
  funext d
  cases keepAs own ⟨r.k, d⟩ with
  | none => rfl
  | some v => simp only [a.hs]
/-! ### patterns -/
inductive PatF where
  | one (a : Acc)
  | many (as : List Acc)
def PatF.pat : PatF → Pat
  | .one a => .one a.i
  | .many as => .many (as.map (·.i))
def setAllF {α : Type} : List Acc → List D → MSt → (MSt → Out α) → Out α
  | [], [], st, k => k st
  | a :: as, d :: ds, st, k => setAllF as ds (a.s st (.fz d)) k
  | _, _, _, _ => .bad
def setPatF {α : Type} : PatF → D → MSt → (MSt → Out α) → Out α
  | .one a, d, st, k => k (a.s st (.fz d))
  | .many as, .tup ds, st, k => setAllF as ds st k
  | .many _, _, _, _ => .bad
theorem setAllF_eq {α : Type} : ∀ (as : List Acc) (ds : List D) (st : MSt) (k : MSt → Out α), setAllF as ds st k = if as.length = ds.length then k (setAll (as.map (·.i)) ds st) else .bad
  | [], [], st, k => rfl
  | [], _ :: _, st, k => rfl
  | _ :: _, [], st, k => rfl
  | a :: as, d :: ds, st, k => by
    show setAllF as ds (a.s st (.fz d)) k = _
    rw [setAllF_eq as ds, a.hs]
    simp only [List.length_cons, Nat.add_right_cancel_iff]
    rfl
theorem setPatF_eq {α : Type} (p : PatF) (d : D) (st : MSt) (k : MSt → Out α) : setPatF p d st k = match setPat p.pat d st with | some st1 => k st1 | none => .bad := by
  cases p with
  | one a =>
    show k (a.s st (.fz d)) = k (st.set a.i (some (.fz d)))
    rw [a.hs]
  | many as =>
    cases d with
    | tup ds =>
      show setAllF as ds st k = match (if (as.map (·.i)).length = ds.length then some (setAll (as.map (·.i)) ds st) else none) with | some st1 => k st1 | none => .bad
      rw [setAllF_eq, List.length_map]
      by_cases h : as.length = ds.length
      · rw [if_pos h, if_pos h]
      · rw [if_neg h, if_neg h]
    | _ => rfl
def dAsgPF (p : PatF) (de : DE) : DS := fun st => (de st).bind fun r => if r.keep = true then force3 r.d fun d => setPatF p d st fun st1 => .ok (.nx st1) else .bad
theorem dAsgPF_eq (p : PatF) (de : DE) : dAsgPF p de = dAsgP p.pat de := by
  funext st
  unfold dAsgPF dAsgP
  congr 1
  funext r
  rw [force3_eq, setPatF_eq]
  all_goals rfl
def setManyF : List (Bool × Acc) → List RV → MSt → (MSt → Out Fl) → Out Fl
  | [], [], st, k => k st
  | (o, a) :: js, r :: rs, st, k => force3 r.d fun d => match keepAs o ⟨r.k, d⟩ with
    | some v => setManyF js rs (a.s st v) k
    | none => .bad
  | _, _, _, _ => .bad
def accN (js : List (Bool × Acc)) : List (Bool × Nat) := js.map fun p => (p.1, p.2.i)
theorem setManyF_eq : ∀ (js : List (Bool × Acc)) (rs : List RV) (st : MSt) (k : MSt → Out Fl), setManyF js rs st k = match setMany (accN js) rs st with | some st1 => k st1 | none => .bad
  | [], [], st, k => rfl
  | [], _ :: _, st, k => rfl
  | _ :: _, [], st, k => rfl
  | (o, a) :: js, r :: rs, st, k => by
    show (force3 r.d fun d => match keepAs o ⟨r.k, d⟩ with | some v => setManyF js rs (a.s st v) k | none => .bad) = match setMany ((o, a.i) :: accN js) (r :: rs) st with | some st1 => k st1 | none => .bad
    rw [force3_eq, setMany_cons]
    show (match keepAs o r with | some v => setManyF js rs (a.s st v) k | none => .bad) = _
    cases keepAs o r with
    | none => rfl
    | some v => simp only [a.hs, setManyF_eq js rs]
def dParF (js : List (Bool × Acc)) (da : DA) : DS := fun st => (da st).bind fun rs => setManyF js rs st fun st1 => .ok (.nx st1)
theorem dParF_eq (js : List (Bool × Acc)) (da : DA) : dParF js da = dPar (accN js) da := by
  funext st
  unfold dParF dPar
  congr 1
  funext rs
  rw [setManyF_eq]
  all_goals rfl
/-! ### loops -/
def forGoF (p : PatF) (body : DS) : List D → MSt → Out Fl
  | [], st => .ok (.nx st)
  | d :: ds, st => force2 d fun d => setPatF p d st fun st1 => match body st1 with
      | .ok (.nx st2) => forGoF p body ds st2
      | .ok (.ct st2) => forGoF p body ds st2
      | .ok (.bk st2) => .ok (.nx st2)
      | o => o
theorem forGoF_eq (p : PatF) (body : DS) : ∀ (ds : List D) (st : MSt), forGoF p body ds st = forGo p.pat body ds st
  | [], st => rfl
  | d :: ds, st => by
    unfold forGoF forGo
    rw [force2_eq, force2_eq, setPatF_eq]
    cases setPat p.pat d st with
    | none => rfl
    | some st1 =>
      simp only [forceS_eq]
      cases body st1 with
      | ok f => cases f <;> simp only [forGoF_eq p body ds]
      | exc c => rfl
      | bad => rfl
def dForF (di : DI) (p : PatF) (body : DS) : DS := fun st => (di st).bind fun q => if q.1 = true then forGoF p body q.2 st else .bad
theorem dForF_eq (di : DI) (p : PatF) (body : DS) : dForF di p body = dFor di p.pat body := by
  funext st
  unfold dForF dFor
  congr 1
  funext q
  rw [forGoF_eq]
def whGoF (dt : DT) (body : DS) : Nat → MSt → Out Fl
  | 0, _ => .bad
  | n + 1, st => (dt st).bind fun b => if b = true then (match body st with
      | .ok (.nx st2) => whGoF dt body n st2
      | .ok (.ct st2) => whGoF dt body n st2
      | .ok (.bk st2) => .ok (.nx st2)
      | o => o) else .ok (.nx st)
theorem whGoF_eq (dt : DT) (body : DS) : ∀ (n : Nat) (st : MSt), whGoF dt body n st = whGo dt body n st
  | 0, _ => rfl
  | n + 1, st => by
    unfold whGoF whGo
    congr 1
    funext b
    cases b with
    | false => rfl
    | true =>
      rw [if_pos rfl, if_pos rfl]
      simp only [forceS_eq]
      cases body st with
      | ok f => cases f <;> simp only [whGoF_eq dt body n]
      | exc c => rfl
      | bad => rfl
def dWhileF (fuel : Nat) (dt : DT) (body : DS) : DS := fun st => whGoF dt body fuel st
theorem dWhileF_eq (fuel : Nat) (dt : DT) (body : DS) : dWhileF fuel dt body = dWhile (fun _ => fuel) dt body := by
  funext st
  unfold dWhileF dWhile
  rw [whGoF_eq]
/-! ### comprehensions -/
def wipeF (st : MSt) : List Acc → MSt
  | [] => st
  | a :: as => a.w (wipeF st as)
theorem wipeF_eq (st : MSt) : ∀ as : List Acc, wipeF st as = wipeM st (as.map (·.i))
  | [] => rfl
  | a :: as => by
    show a.w (wipeF st as) = (wipeM st (as.map (·.i))).set a.i none
    rw [a.hw, wipeF_eq st as]
def lcGoF (p : PatF) (dt : DT) (de : DE) (st : MSt) : List D → Nat → Out (List D)
  | [], _ => .ok []
  | d :: ds, n => force2 d fun d => setPatF p d st fun st1 => match dt st1 with
      | .ok true => match de st1 with
        | .ok r => if r.keep && decide (n < sizeLine) then (lcGoF p dt de st ds (n + 1)).bind fun rest => .ok (r.d :: rest) else .bad
        | _ => .bad
      | .ok false => lcGoF p dt de st ds n
      | _ => .bad
theorem lcGoF_eq (p : PatF) (dt : DT) (de : DE) (st : MSt) : ∀ (ds : List D) (n : Nat), lcGoF p dt de st ds n = lcGo p.pat dt de st ds n
  | [], _ => rfl
  | d :: ds, n => by
    unfold lcGoF lcGo
    rw [force2_eq, force2_eq, setPatF_eq]
    cases setPat p.pat d st with
    | none => rfl
    | some st1 =>
      simp only [forceS_eq, lcGoF_eq p dt de st ds]
      all_goals rfl
def dLcF (di : DI) (p : PatF) (vs : List Acc) (dt : DT) (de : DE) : DE := fun st => (di st).bind fun q => match lcGoF p dt de (wipeF st vs) q.2 0 with
  | .ok ds => .ok ⟨.fr, .lst ds⟩
  | _ => .bad
theorem dLcF_eq (di : DI) (p : PatF) (vs : List Acc) (dt : DT) (de : DE) : dLcF di p vs dt de = dLc di p.pat (vs.map (·.i)) dt de := by
  funext st
  unfold dLcF dLc
  congr 1
  funext q
  rw [lcGoF_eq, wipeF_eq]
  all_goals rfl
def dcGoF (p : PatF) (dt : DT) (dk dv : DE) (st : MSt) : List D → List (D × D) → Out (List (D × D))
  | [], acc => .ok acc
  | d :: ds, acc => force2 d fun d => setPatF p d st fun st1 => match dt st1 with
      | .ok true => match dk st1 with
        | .ok k => match dv st1 with
          | .ok v => if ((dKey k.d).isSome && v.keep && decide (acc.length < sizeLine)) = true then force2 k.d fun kd => force2 v.d fun vd => dcGoF p dt dk dv st ds (putD acc kd vd) else .bad
          | _ => .bad
        | _ => .bad
      | .ok false => dcGoF p dt dk dv st ds acc
      | _ => .bad
theorem dcGoF_eq (p : PatF) (dt : DT) (dk dv : DE) (st : MSt) : ∀ (ds : List D) (acc : List (D × D)), dcGoF p dt dk dv st ds acc = dcGo p.pat dt dk dv st ds acc
  | [], _ => rfl
  | d :: ds, acc => by
    unfold dcGoF dcGo
    rw [force2_eq, setPatF_eq]
    cases setPat p.pat d st with
    | none => rfl
    | some st1 =>
      simp only [force2_eq, dcGoF_eq p dt dk dv st ds]
      all_goals rfl
def dDcF (di : DI) (p : PatF) (vs : List Acc) (dt : DT) (dk dv : DE) : DE := fun st => (di st).bind fun q => match dcGoF p dt dk dv (wipeF st vs) q.2 [] with
  | .ok kvs => .ok ⟨.fr, .dic kvs⟩
  | _ => .bad
theorem dDcF_eq (di : DI) (p : PatF) (vs : List Acc) (dt : DT) (dk dv : DE) : dDcF di p vs dt dk dv = dDc di p.pat (vs.map (·.i)) dt dk dv := by
  funext st
  unfold dDcF dDc
  congr 1
  funext q
  rw [dcGoF_eq, wipeF_eq]
  all_goals rfl
def lc2GoF (p : PatF) (dt : DT) (di1 : DI) (p1 : PatF) (vs1 : List Acc) (dt1 : DT) (de : DE) (st : MSt) : List D → Nat → Out (List D)
  | [], _ => .ok []
  | d :: ds, n => force2 d fun d => setPatF p d st fun st1 => match dt st1 with
      | .ok true => match di1 st1 with
        | .ok (true, es) => match lcGoF p1 dt1 de (wipeF st1 vs1) es n with
          | .ok rs => (lc2GoF p dt di1 p1 vs1 dt1 de st ds (n + rs.length)).bind fun rest => .ok (rs ++ rest)
          | _ => .bad
        | _ => .bad
      | .ok false => lc2GoF p dt di1 p1 vs1 dt1 de st ds n
      | _ => .bad
theorem lc2GoF_eq (p : PatF) (dt : DT) (di1 : DI) (p1 : PatF) (vs1 : List Acc) (dt1 : DT) (de : DE) (st : MSt) : ∀ (ds : List D) (n : Nat), lc2GoF p dt di1 p1 vs1 dt1 de st ds n = lc2Go p.pat dt di1 p1.pat (vs1.map (·.i)) dt1 de st ds n
  | [], _ => rfl
  | d :: ds, n => by
    unfold lc2GoF lc2Go
    rw [force2_eq, setPatF_eq]
    cases setPat p.pat d st with
    | none => rfl
    | some st1 =>
      simp only [lcGoF_eq, wipeF_eq, lc2GoF_eq p dt di1 p1 vs1 dt1 de st ds]
      all_goals rfl
def dLc2F (di : DI) (p : PatF) (vs : List Acc) (dt : DT) (di1 : DI) (p1 : PatF) (vs1 : List Acc) (dt1 : DT) (de : DE) : DE := fun st => (di st).bind fun q => match lc2GoF p dt di1 p1 vs1 dt1 de (wipeF st vs) q.2 0 with
  | .ok ds => .ok ⟨.fr, .lst ds⟩
  | _ => .bad
theorem dLc2F_eq (di : DI) (p : PatF) (vs : List Acc) (dt : DT) (di1 : DI) (p1 : PatF) (vs1 : List Acc) (dt1 : DT) (de : DE) : dLc2F di p vs dt di1 p1 vs1 dt1 de = dLc2 di p.pat (vs.map (·.i)) dt di1 p1.pat (vs1.map (·.i)) dt1 de := by
  funext st
  unfold dLc2F dLc2
  congr 1
  funext q
  rw [lc2GoF_eq, wipeF_eq]
  all_goals rfl
/-! ### owned lists -/
def dFrzF (a : Acc) (k : DS) : DS := fun st => match a.g st with
  | some (.own (.lst ds)) => k (a.s st (.fz (.lst ds)))
  | _ => k st
theorem dFrzF_eq (a : Acc) (k : DS) : dFrzF a k = dFrz a.i k := by
  funext st
  unfold dFrzF dFrz
  rw [a.hg]
  cases st[a.i]? with
  | none => rfl
  | some o => cases o with
    | none => rfl
    | some v => cases v with
      | own d => cases d <;> simp [a.hs]
      | _ => rfl
def ownF (st : MSt) (a : Acc) : Option (List D) := match a.g st with
  | some (.own (.lst ds)) => some ds
  | _ => none
theorem ownF_eq (st : MSt) (a : Acc) : ownF st a = ownL st a.i := by
  unfold ownF ownL
  rw [a.hg]
  cases st[a.i]? with
  | none => rfl
  | some o => cases o with
    | none => rfl
    | some v => cases v with
      | own d => cases d <;> rfl
      | _ => rfl
def putF (st : MSt) (a : Acc) (ds : List D) : Out Fl := forceL2 ds fun ds => .ok (.nx (a.s st (.own (.lst ds))))
theorem putF_eq (st : MSt) (a : Acc) (ds : List D) : putF st a ds = putL st a.i ds := by
  unfold putF putL
  rw [forceL2_eq, forceL2_eq, a.hs]
def dMutF (a : Acc) (da : DA) (f : List D → List RV → Option (List D)) : DS := fun st => match ownF st a with
  | some ds => (da st).bind fun rs => match f ds rs with
    | some ds' => putF st a ds'
    | none => .bad
  | none => .bad
theorem dMutF_eq (a : Acc) (da : DA) (f : List D → List RV → Option (List D)) : dMutF a da f = dMut a.i da f := by
  funext st
  unfold dMutF dMut
  simp only [ownF_eq, putF_eq]
  all_goals rfl
def popKF (st : MSt) (a : Acc) (ds : List D) (p : Option PatF) (d : D) : Out Fl := match p with
  | none => putF st a ds.dropLast
  | some p => forceL2 ds.dropLast fun ds1 => force2 d fun d => setPatF p d (a.s st (.own (.lst ds1))) fun st1 => .ok (.nx st1)
def popLF (st : MSt) (a : Acc) (ds : List D) (p : Option PatF) : Out Fl := match lastD ds with
  | some d => popKF st a ds p d
  | none => .bad
def dPopF (a : Acc) (p : Option PatF) : DS := fun st => match ownF st a with
  | some ds => popLF st a ds p
  | none => .bad
theorem dPopF_eq (a : Acc) (p : Option PatF) : dPopF a p = dPop a.i (p.map PatF.pat) := by
  funext st
  unfold dPopF dPop
  rw [ownF_eq]
  cases ownL st a.i with
  | none => rfl
  | some ds =>
    show popLF st a ds p = popL st a.i ds (p.map PatF.pat)
    unfold popLF popL
    cases lastD ds with
    | none => rfl
    | some d =>
      show popKF st a ds p d = popK st a.i ds (p.map PatF.pat) d
      cases p with
      | none => exact putF_eq st a _
      | some p =>
        unfold popKF popK
        simp only [forceL2_eq, force2_eq, setPatF_eq, a.hs, Option.map_some]
        all_goals rfl
def putKF (st : MSt) (a : Acc) (ds : List D) (r i : RV) : Out Fl := match i.d with
  | .int k => match ixN ds.length k with
    | some n => if r.keep = true then putF st a (ds.set n r.d) else .bad
    | none => .bad
  | _ => .bad
def dPutF (a : Acc) (di de : DE) : DS := fun st => match ownF st a with
  | some ds => (de st).bind fun r => (di st).bind fun i => putKF st a ds r i
  | none => .bad
theorem dPutF_eq (a : Acc) (di de : DE) : dPutF a di de = dPut a.i di de := by
  funext st
  unfold dPutF dPut
  have : ∀ ds r i, putKF st a ds r i = putK st a.i ds r i := fun ds r i => by
    unfold putKF putK
    simp only [putF_eq]
    all_goals rfl
  simp only [ownF_eq, this]
  all_goals rfl
def augKF (f : Int → Int → Int) (st : MSt) (a : Acc) (ds : List D) (i r : RV) : Out Fl := match i.d, r.d with
  | .int k, .int y => match ixN ds.length k with
    | some n => match ds[n]? with
      | some (.int x) => putF st a (ds.set n (.int (f x y)))
      | _ => .bad
    | none => .bad
  | _, _ => .bad
def dAugF (f : Int → Int → Int) (a : Acc) (di de : DE) : DS := fun st => match ownF st a with
  | some ds => (di st).bind fun i => if ixOk ds i = true then ((de st).bind fun r => augKF f st a ds i r) else .bad
  | none => .bad
theorem dAugF_eq (f : Int → Int → Int) (a : Acc) (di de : DE) : dAugF f a di de = dAugS f a.i di de := by
  funext st
  unfold dAugF dAugS
  have : ∀ ds i r, augKF f st a ds i r = augK f st a.i ds i r := fun ds i r => by
    unfold augKF augK
    simp only [putF_eq]
    all_goals rfl
  simp only [ownF_eq, this]
  all_goals rfl
/-! ### the rest by recursors -/
def ofO {α : Type} (o : Option α) : Out α := Option.rec (motive := fun _ => Out α) .bad (fun a => .ok a) o
theorem ofO_eq {α : Type} (o : Option α) : ofO o = Out.of o := by cases o <;> rfl
def dOpR (f : D → D → Option RV) (da db : DE) : DE := fun st => (da st).bnd fun r => (db st).bnd fun s => ofO (f r.d s.d)
theorem dOpR_eq (f : D → D → Option RV) (da db : DE) : dOpR f da db = dOp f da db := by
  funext st
  simp only [dOpR, dOp, Out.bnd_eq, ofO_eq]
def dTestR (da : DE) (tr : D → Option Bool) : DT := fun st => (da st).bnd fun r => ofO (tr r.d)
theorem dTestR_eq (da : DE) (tr : D → Option Bool) : dTestR da tr = dTest da tr := by
  funext st
  simp only [dTestR, dTest, Out.bnd_eq, ofO_eq]
def dAndR (t u : DT) : DT := fun st => (t st).bnd fun b => Bool.rec (motive := fun _ => Out Bool) (.ok false) (u st) b
theorem dAndR_eq (t u : DT) : dAndR t u = dAnd t u := by
  funext st
  simp only [dAndR, dAnd, Out.bnd_eq]
  congr 1
  funext b
  cases b <;> rfl
def dOrR (t u : DT) : DT := fun st => (t st).bnd fun b => Bool.rec (motive := fun _ => Out Bool) (u st) (.ok true) b
theorem dOrR_eq (t u : DT) : dOrR t u = dOr t u := by
  funext st
  simp only [dOrR, dOr, Out.bnd_eq]
  congr 1
  funext b
  cases b <;> rfl
def dNotR (t : DT) : DT := fun st => (t st).bnd fun b => .ok (Bool.rec (motive := fun _ => Bool) true false b)
theorem dNotR_eq (t : DT) : dNotR t = dNot t := by
  funext st
  simp only [dNotR, dNot, Out.bnd_eq]
  congr 1
  funext b
  cases b <;> rfl
def dIfR (t : DT) (da db : DE) : DE := fun st => (t st).bnd fun b => Bool.rec (motive := fun _ => Out RV) (db st) (da st) b
theorem dIfR_eq (t : DT) (da db : DE) : dIfR t da db = dIf t da db := by
  funext st
  simp only [dIfR, dIf, Out.bnd_eq]
  congr 1
  funext b
  cases b <;> rfl
def dIfSR (t : DT) (p q : DS) : DS := fun st => (t st).bnd fun b => Bool.rec (motive := fun _ => Out Fl) (q st) (p st) b
theorem dIfSR_eq (t : DT) (p q : DS) : dIfSR t p q = dIfS t p q := by
  funext st
  simp only [dIfSR, dIfS, Out.bnd_eq]
  congr 1
  funext b
  cases b <;> rfl
def dConsR (da : DE) (dr : DA) : DA := fun st => (da st).bnd fun r => (dr st).bnd fun rs => .ok (r :: rs)
theorem dConsR_eq (da : DE) (dr : DA) : dConsR da dr = dCons da dr := by
  funext st
  simp only [dConsR, dCons, Out.bnd_eq]
def dCBR (f : List D → Option RV) (da : DA) : DE := fun st => (da st).bnd fun rs => ofO (f (dataOf rs))
theorem dCBR_eq (f : List D → Option RV) (da : DA) : dCBR f da = dCB f da := by
  funext st
  simp only [dCBR, dCB, Out.bnd_eq, ofO_eq]
def dCallR (f : List D → Out RV) (da : DA) : DE := fun st => (da st).bnd fun rs => forceL2 (dataOf rs) fun ds => if keepAll rs = true then f ds else if noDicts rs = true then okRes (f ds) else .bad
theorem dCallR_eq (f : List D → Out RV) (da : DA) : dCallR f da = dCallB f da := by
  funext st
  simp only [dCallR, dCallB, Out.bnd_eq, forceL2_eq]
def Kd.retR (k : Kd) : Bool := Kd.rec (motive := fun _ => Bool) true true false k
def dRetR (de : DE) : DS := fun st => (de st).bnd fun r => Bool.rec (motive := fun _ => Out Fl) .bad (.ok (.rt r)) r.k.retR
theorem dRetR_eq (de : DE) : dRetR de = dRet de := by
  funext st
  simp only [dRetR, dRet, Out.bnd_eq]
  congr 1
  funext r
  obtain ⟨k, d⟩ := r
  cases k <;> rfl
def dExprR (de : DE) : DS := fun st => (de st).bnd fun _ => .ok (.nx st)
theorem dExprR_eq (de : DE) : dExprR de = dExpr de := by
  funext st
  simp only [dExprR, dExpr, Out.bnd_eq]
def dSeqR (p q : DS) : DS := fun st => (p st).bnd fun f => Fl.rec (motive := fun _ => Out Fl) q (fun r => .ok (.rt r)) (fun s => .ok (.bk s)) (fun s => .ok (.ct s)) f
theorem dSeqR_eq (p q : DS) : dSeqR p q = dSeqF p q := by
  funext st
  simp only [dSeqR, dSeqF, Out.bnd_eq]
  congr 1
  funext f
  cases f <;> rfl
def keepR (own : Bool) (k : Kd) (d : D) (kk : SV → Out Fl) : Out Fl := Kd.rec (motive := fun _ => Out Fl) (kk (.fz d)) (Bool.rec (motive := fun _ => Out Fl) (kk (.fz d)) (kk (.own d)) (own || !noDict d)) .bad k
def dSetR (own : Bool) (a : Acc) (de : DE) : DS := fun st => (de st).bnd fun r => force3 r.d fun d => keepR own r.k d fun v => .ok (.nx (a.s st v))
theorem dSetR_eq (own : Bool) (a : Acc) (de : DE) : dSetR own a de = dSetF own a de := by
  funext st
  simp only [dSetR, dSetF, Out.bnd_eq, force3_eq]
  congr 1
  funext r
  obtain ⟨k, d⟩ := r
  cases k with
  | fz => rfl
  | bor => rfl
  | fr =>
    show Bool.rec (motive := fun _ => Out Fl) (.ok (.nx (a.s st (.fz d)))) (.ok (.nx (a.s st (.own d)))) (own || !noDict d) = match keepAs own ⟨.fr, d⟩ with | some v => .ok (.nx (a.s st v)) | none => .bad
    unfold keepAs
    simp only
    cases (own || !noDict d) <;> rfl
/-- loops -/
def afterR (go : MSt → Out Fl) (o : Out Fl) : Out Fl := Out.rec (motive := fun _ => Out Fl) (fun f => Fl.rec (motive := fun _ => Out Fl) go (fun r => .ok (.rt r)) (fun s => .ok (.nx s)) go f) (fun c => .exc c) .bad o
def forGoR (p : PatF) (body : DS) (ds : List D) : MSt → Out Fl := List.rec (motive := fun _ => MSt → Out Fl) (fun st => .ok (.nx st)) (fun d _ ih st => force2 d fun d => setPatF p d st fun st1 => afterR ih (body st1)) ds
theorem forGoR_eq (p : PatF) (body : DS) : ∀ (ds : List D) (st : MSt), forGoR p body ds st = forGoF p body ds st
  | [], st => rfl
  | d :: ds, st => by
    show (force2 d fun d => setPatF p d st fun st1 => afterR (forGoR p body ds) (body st1)) = _
    unfold forGoF
    congr 1
    funext d
    congr 1
    funext st1
    unfold afterR
    cases body st1 with
    | ok f => cases f <;> first | rfl | exact forGoR_eq p body ds _
    | exc c => rfl
    | bad => rfl
def dForR (di : DI) (p : PatF) (body : DS) : DS := fun st => (di st).bnd fun q => Bool.rec (motive := fun _ => Out Fl) .bad (forGoR p body q.2 st) q.1
theorem dForR_eq (di : DI) (p : PatF) (body : DS) : dForR di p body = dForF di p body := by
  funext st
  simp only [dForR, dForF, Out.bnd_eq]
  congr 1
  funext q
  rw [forGoR_eq]
  cases q.1 <;> rfl
def whGoR (dt : DT) (body : DS) (n : Nat) : MSt → Out Fl := Nat.rec (motive := fun _ => MSt → Out Fl) (fun _ => .bad) (fun _ ih st => (dt st).bnd fun b => Bool.rec (motive := fun _ => Out Fl) (.ok (.nx st)) (afterR ih (body st)) b) n
theorem whGoR_eq (dt : DT) (body : DS) : ∀ (n : Nat) (st : MSt), whGoR dt body n st = whGoF dt body n st
  | 0, st => rfl
  | n + 1, st => by
    show ((dt st).bnd fun b => Bool.rec (motive := fun _ => Out Fl) (.ok (.nx st)) (afterR (whGoR dt body n) (body st)) b) = _
    unfold whGoF
    rw [Out.bnd_eq]
    congr 1
    funext b
    cases b with
    | false => rfl
    | true =>
      show afterR (whGoR dt body n) (body st) = if true = true then _ else _
      rw [if_pos rfl]
      unfold afterR
      cases body st with
      | ok f => cases f <;> first | rfl | exact whGoR_eq dt body n _
      | exc c => rfl
      | bad => rfl
def dWhileR (fuel : Nat) (dt : DT) (body : DS) : DS := fun st => whGoR dt body fuel st
theorem dWhileR_eq (fuel : Nat) (dt : DT) (body : DS) : dWhileR fuel dt body = dWhileF fuel dt body := by
  funext st
  unfold dWhileR dWhileF
  rw [whGoR_eq]
def RV.keepR (r : RV) : Bool := Kd.rec (motive := fun _ => Bool) true (noDict r.d) false r.k
theorem RV.keepR_eq (r : RV) : r.keepR = r.keep := by obtain ⟨k, d⟩ := r; cases k <;> rfl
def lcGoR (p : PatF) (dt : DT) (de : DE) (st : MSt) (ds : List D) : Out (List D) := List.rec (motive := fun _ => Out (List D)) (.ok []) (fun d _ ih => force2 d fun d => setPatF p d st fun st1 =>
  Out.rec (motive := fun _ => Out (List D)) (fun b => Bool.rec (motive := fun _ => Out (List D)) ih (Out.rec (motive := fun _ => Out (List D)) (fun r => Bool.rec (motive := fun _ => Out (List D)) .bad (ih.bnd fun rest => .ok (r.d :: rest)) r.keepR) (fun _ => .bad) .bad (de st1)) b) (fun _ => .bad) .bad (dt st1)) ds
/-- short enough that no list grows too long -/
theorem lcGoR_eq (p : PatF) (dt : DT) (de : DE) (st : MSt) : ∀ (ds : List D) (n : Nat), n + ds.length ≤ sizeLine → lcGoR p dt de st ds = lcGoF p dt de st ds n
  | [], _, _ => rfl
  | d :: ds, n, h => by
    have h1 : n < sizeLine := by simp at h; omega
    show (force2 d fun d => setPatF p d st fun st1 => Out.rec (motive := fun _ => Out (List D)) (fun b => Bool.rec (motive := fun _ => Out (List D)) (lcGoR p dt de st ds) (Out.rec (motive := fun _ => Out (List D)) (fun r => Bool.rec (motive := fun _ => Out (List D)) .bad ((lcGoR p dt de st ds).bnd fun rest => .ok (r.d :: rest)) r.keepR) (fun _ => .bad) .bad (de st1)) b) (fun _ => .bad) .bad (dt st1)) = _
    unfold lcGoF
    congr 1
    funext d
    congr 1
    funext st1
    cases dt st1 with
    | bad => rfl
    | exc c => rfl
    | ok b =>
      cases b with
      | false => exact lcGoR_eq p dt de st ds n (by simp at h; omega)
      | true =>
        cases de st1 with
        | bad => rfl
        | exc c => rfl
        | ok r =>
          show Bool.rec (motive := fun _ => Out (List D)) .bad ((lcGoR p dt de st ds).bnd fun rest => .ok (r.d :: rest)) r.keepR = if (r.keep && decide (n < sizeLine)) = true then (lcGoF p dt de st ds (n + 1)).bind fun rest => .ok (r.d :: rest) else .bad
          rw [RV.keepR_eq, decide_eq_true h1, Bool.and_true, Out.bnd_eq, lcGoR_eq p dt de st ds (n + 1) (by simp at h; omega)]
          cases r.keep <;> rfl
def Out.lift {α β : Type} (o : Out α) (f : α → β) : Out β := Out.rec (motive := fun _ => Out β) (fun a => .ok (f a)) (fun _ => .bad) .bad o
def dLcR (di : DI) (p : PatF) (vs : List Acc) (dt : DT) (de : DE) : DE := fun st => (di st).bnd fun q => if q.2.length ≤ 16777216 then (lcGoR p dt de (wipeF st vs) q.2).lift (fun ds => ⟨.fr, .lst ds⟩) else .bad
theorem tex_w {F : Fm} {W : WX} {cv : Str → Value} {de de' : DE} {σ : L2.St} {H : Hp} {Q : VK} (hw : ∀ st, de' st = .bad ∨ de' st = de st) (h : TEx F W cv de' σ H Q) : TEx F W cv de σ H Q := by
  obtain ⟨M, st, O, R, h⟩ := h
  refine ⟨M, st, O, R, ?_⟩
  rcases hw st with z | z
  · rw [z] at h; exact h.elim
  · rw [z] at h; exact h
theorem dLcR_w (di : DI) (p : PatF) (vs : List Acc) (dt : DT) (de : DE) (st : MSt) : dLcR di p vs dt de st = .bad ∨ dLcR di p vs dt de st = dLcF di p vs dt de st := by
  unfold dLcR dLcF
  rw [Out.bnd_eq]
  cases di st with
  | bad => exact .inl rfl
  | exc c => exact .inr rfl
  | ok q =>
    show (if q.2.length ≤ 16777216 then _ else _) = _ ∨ (if q.2.length ≤ 16777216 then _ else _) = _
    by_cases h : q.2.length ≤ 16777216
    · rw [if_pos h]
      refine .inr ?_
      rw [lcGoR_eq p dt de (wipeF st vs) q.2 0 (by rw [sizeLine_eq]; omega)]
      show _ = match lcGoF p dt de (wipeF st vs) q.2 0 with | .ok ds => Out.ok (⟨.fr, .lst ds⟩ : RV) | _ => .bad
      cases lcGoF p dt de (wipeF st vs) q.2 0 <;> rfl
    · rw [if_neg h]
      exact .inl rfl
/-- two whole numbers, else the long way -/
def int2 (k : Int → Int → Option RV) (fb : D → D → Option RV) (a b : D) : Option RV := D.casesOn (motive_1 := fun _ => Option RV) a (fb a b) (fun _ => fb a b) (fun i => D.casesOn (motive_1 := fun _ => Option RV) b (fb a b) (fun _ => fb a b) (fun j => k i j) (fun _ => fb a b) (fun _ => fb a b) (fun _ => fb a b) (fun _ => fb a b) (fun _ => fb a b)) (fun _ => fb a b) (fun _ => fb a b) (fun _ => fb a b) (fun _ => fb a b) (fun _ => fb a b)
theorem int2_eq {k : Int → Int → Option RV} {fb : D → D → Option RV} (h : ∀ i j, k i j = fb (.int i) (.int j)) (a b : D) : int2 k fb a b = fb a b := by
  cases a with
  | int i => cases b with
    | int j => exact h i j
    | _ => rfl
  | _ => rfl
def addR : D → D → Option RV := int2 (fun i j => some ⟨.fz, .int (i + j)⟩) addD
def subR : D → D → Option RV := int2 (fun i j => some ⟨.fz, .int (i - j)⟩) subD
def modR : D → D → Option RV := int2 (fun i j => Bool.rec (motive := fun _ => Option RV) none (some ⟨.fz, .int (i % j)⟩) (decide (0 < j))) modD
def eqR : D → D → Option RV := int2 (fun i j => some ⟨.fz, .bl (decide (i = j))⟩) (eqF false)
def neR : D → D → Option RV := int2 (fun i j => some ⟨.fz, .bl (!decide (i = j))⟩) (eqF true)
def ltR : D → D → Option RV := int2 (fun i j => some ⟨.fz, .bl (decide (i < j))⟩) ltD
def leR : D → D → Option RV := int2 (fun i j => some ⟨.fz, .bl (decide (i ≤ j))⟩) leD
def gtR : D → D → Option RV := int2 (fun i j => some ⟨.fz, .bl (decide (j < i))⟩) gtD
def geR : D → D → Option RV := int2 (fun i j => some ⟨.fz, .bl (decide (j ≤ i))⟩) geD
theorem addR_eq : addR = addD := by funext a b; exact int2_eq (fun i j => rfl) a b
theorem subR_eq : subR = subD := by funext a b; exact int2_eq (fun i j => rfl) a b
theorem modR_eq : modR = modD := by
  funext a b
  refine int2_eq (fun i j => ?_) a b
  show _ = if decide (0 < j) = true then some (rz (.int (i % j))) else none
  cases decide (0 < j) <;> rfl
theorem eqR_eq : eqR = eqF false := by funext a b; exact int2_eq (fun i j => rfl) a b
theorem neR_eq : neR = eqF true := by funext a b; exact int2_eq (fun i j => rfl) a b
theorem ltR_eq : ltR = ltD := by funext a b; exact int2_eq (fun i j => rfl) a b
theorem leR_eq : leR = leD := by funext a b; exact int2_eq (fun i j => rfl) a b
theorem gtR_eq : gtR = gtD := by funext a b; exact int2_eq (fun i j => rfl) a b
theorem geR_eq : geR = geD := by funext a b; exact int2_eq (fun i j => rfl) a b
end
end Mini

set_option Elab.async false
set_option linter.all false
set_option maxRecDepth 100000
/-! Mini 18: the rules, as the printed texts call them. -/
namespace Mini
open PySem L2 LamX PySem.Spec PyProof.Rows
/-- what every rule asks of a context -/
structure Ctx (X : Cx) (F : Fm) (W : WX) : Prop where
  K : X.K = F.K
  nd : X.N.Nodup
  calm : X.calm = true
  tk : Takes X W
  un : X.A.units + 200 < cLine
theorem Ctx.blk {X : Cx} {F : Fm} {W : WX} (c : Ctx X F W) {s : Shared} {H : Hp} {scope : Scope} {env : Env} {fp : List Addr} : Ctx (X.blk s H scope env fp) F Wb := ⟨c.K, c.nd, c.calm, takesWb, c.un⟩
def okN (x : Str) : Bool := !(x == ("__debug__" : Str)) && !(x == ("__classdict__" : Str)) && !(x == ("__name__" : Str))
theorem okN.db {x : Str} (h : okN x = true) : (x == ("__debug__" : Str)) = false := by
  have := Bool.and_eq_true_iff.mp (Bool.and_eq_true_iff.mp h).1
  simpa using this.1
theorem okN.cd {x : Str} (h : okN x = true) : (x == ("__classdict__" : Str)) = false := by
  have := Bool.and_eq_true_iff.mp (Bool.and_eq_true_iff.mp h).1
  simpa using this.2
theorem okN.nm {x : Str} (h : okN x = true) : x ≠ ("__name__" : Str) := by
  have := (Bool.and_eq_true_iff.mp h).2
  simpa using this
/-! ### names of a block -/
def visK : Option NameKind → Bool
  | some .local => true
  | some .cell => true
  | some .free => true
  | _ => false
theorem lookup_rel {env : Env} : ∀ {names : List (Str × NameKind)} {x : Str} {k : NameKind}, names.lookup x = some k →
    (names.map fun (n, k) => if (k == NameKind.free && env.scope.kind == .function && env.kindOf n == some .cell) then (n, NameKind.cell) else (n, k)).lookup x = some k ∨ (k = .free ∧ (names.map fun (n, k) => if (k == NameKind.free && env.scope.kind == .function && env.kindOf n == some .cell) then (n, NameKind.cell) else (n, k)).lookup x = some .cell)
  | [], _, _, h => by simp at h
  | (n, k') :: r, x, k, h => by
    have ih := @lookup_rel env r x k
    show List.lookup x ((if (k' == NameKind.free && env.scope.kind == .function && env.kindOf n == some .cell) = true then (n, NameKind.cell) else (n, k')) :: _) = _ ∨ (_ ∧ List.lookup x ((if (k' == NameKind.free && env.scope.kind == .function && env.kindOf n == some .cell) = true then (n, NameKind.cell) else (n, k')) :: _) = _)
    by_cases hx : (x == n) = true
    · have h : some k' = some k := by
        rw [List.lookup_cons, hx] at h
        exact h
      cases h
      by_cases hc : (k' == NameKind.free && env.scope.kind == .function && env.kindOf n == some .cell) = true
      · rw [if_pos hc, List.lookup_cons, hx]
        have := Bool.and_eq_true_iff.mp (Bool.and_eq_true_iff.mp hc).1
        have h1 := this.1
        refine .inr ⟨?_, rfl⟩
        cases k' <;> first | rfl | (cases h1; done)
      · rw [if_neg hc, List.lookup_cons, hx]
        exact .inl rfl
    · have hx : (x == n) = false := by simpa using hx
      have h : r.lookup x = some k := by
        rw [List.lookup_cons, hx] at h
        exact h
      by_cases hc : (k' == NameKind.free && env.scope.kind == .function && env.kindOf n == some .cell) = true
      · rw [if_pos hc, List.lookup_cons, hx]
        exact ih h
      · rw [if_neg hc, List.lookup_cons, hx]
        exact ih h
section
variable {X : Cx} {s : Shared} {H : Hp} {scope : Scope} {cl : List (Str × Addr)} {C : Addr} {env : Env} {fp : List Addr} {x : Str}
theorem vis_blk (h : visK (scope.names.lookup x) = true) : Vis (X.blk s H scope (compEnvC scope cl C env) fp).env.scope x := by
  cases q : scope.names.lookup x with
  | none => rw [q] at h; cases h
  | some k =>
    have := lookup_rel (env := env) q
    rw [q] at h
    rcases this with z | ⟨_, z⟩
    · cases k <;> first | exact .inl z | exact .inr (.inl z) | exact .inr (.inr z) | (cases h; done)
    · exact .inr (.inl z)
theorem gl_blk (h : scope.names.lookup x = some .globalImplicit) : Gl (X.blk s H scope (compEnvC scope cl C env) fp) x := by
  rcases lookup_rel (env := env) h with z | ⟨z, _⟩
  · exact z
  · cases z
def locK : Option NameKind → Bool
  | some .local => true
  | some .cell => true
  | _ => false
theorem loc_blk (h : locK (scope.names.lookup x) = true) : Loc (X.blk s H scope (compEnvC scope cl C env) fp).env.scope x := by
  cases q : scope.names.lookup x with
  | none => rw [q] at h; cases h
  | some k =>
    have := lookup_rel (env := env) q
    rw [q] at h
    rcases this with z | ⟨z, _⟩
    · cases k <;> first | exact .inl z | exact .inr z | (cases h; done)
    · subst z; cases h
theorem fn_blk (h : locK (scope.names.lookup x) = true) : (X.blk s H scope (compEnvC scope cl C env) fp).fn x = true ∨ (X.blk s H scope (compEnvC scope cl C env) fp).env.scope.names.lookup x = some .local := by
  cases q : scope.names.lookup x with
  | none => rw [q] at h; cases h
  | some k =>
    have := lookup_rel (env := env) q
    rw [q] at h
    rcases this with z | ⟨z, _⟩
    · cases k with
      | «local» => exact .inr z
      | cell =>
        refine .inl ?_
        show (scope.names.lookup x == some .cell) = true
        rw [q]
        rfl
      | _ => cases h
    · subst z; cases h
end
section
variable {F : Fm} {W : WX} {cv : Str → Value} {X : Cx} {e a b c d' tg : Expr} {es rest : List Expr} {pos p p1 p2 p3 : Pos} {x : Str} {j : Nat} {da db dc de : DE} {dl : DA} {dt du : DT}
/-! ### expressions -/
theorem x_var {A : Acc} (o : okN x = true) (hv : Vis X.env.scope x) (hN : X.N[A.i]? = some x := by rfl) : PE X (.Name x pos) (TEx F W cv (dVarF A)) := by rw [dVarF_eq]; exact s_var hN hv (okN.db o) (okN.cd o)
theorem x_int {i : Int} {k : Nat} : PE X (.Constant (.int i) k pos) (TEx F W cv (dLit (.int i))) := s_lit rfl pe_int
theorem x_str {i : Str} {k : Nat} : PE X (.Constant (.str i) k pos) (TEx F W cv (dLit (.str i))) := s_lit rfl pe_str
theorem x_bool {i : Bool} {k : Nat} : PE X (.Constant (.bool i) k pos) (TEx F W cv (dLit (.bl i))) := s_lit rfl pe_bl
theorem x_none {k : Nat} : PE X (.Constant .none k pos) (TEx F W cv (dLit .non)) := s_lit rfl pe_non
/-- a name of the top that is a whole number -/
def IntAt (mg : Str → Option Value) (x : Str) (i : Int) : Prop := ∃ t, mg x = some (.int i t)
theorem x_gint {i : Int} (o : okN x = true) (hg : Gl X x) (hm : IntAt X.mg x i) : PE X (.Name x pos) (TEx F W cv (dLit (.int i))) := by
  obtain ⟨t, hm⟩ := hm
  exact s_lit (d := .int i) rfl (pe_glob hg hm ⟨t, rfl⟩ (okN.db o))
theorem x_add (k : Ctx X F W) (ha : PE X a (TEx F W cv da)) (hb : PE X b (TEx F W cv db)) : PE X (.BinOp a .Add b pos) (TEx F W cv (dOpR addR da db)) := by rw [dOpR_eq, addR_eq]; exact s_op (by rw [← k.K]; exact op_addD) sim_addD ha hb
theorem x_sub (ha : PE X a (TEx F W cv da)) (hb : PE X b (TEx F W cv db)) : PE X (.BinOp a .Sub b pos) (TEx F W cv (dOpR subR da db)) := by rw [dOpR_eq, subR_eq]; exact s_op op_sub sim_subD ha hb
theorem x_mul (k : Ctx X F W) (ha : PE X a (TEx F W cv da)) (hb : PE X b (TEx F W cv db)) : PE X (.BinOp a .Mult b pos) (TEx F W cv (dOpR mulA da db)) := by rw [dOpR_eq]; exact s_op (by rw [← k.K]; exact op_mulA) sim_mulA ha hb
theorem x_fdiv (ha : PE X a (TEx F W cv da)) (hb : PE X b (TEx F W cv db)) : PE X (.BinOp a .FloorDiv b pos) (TEx F W cv (dOpR fdivD da db)) := by rw [dOpR_eq]; exact s_op op_fdivW sim_fdivD ha hb
theorem x_mod (ha : PE X a (TEx F W cv da)) (hb : PE X b (TEx F W cv db)) : PE X (.BinOp a .Mod b pos) (TEx F W cv (dOpR modR da db)) := by rw [dOpR_eq, modR_eq]; exact s_op op_mod sim_modD ha hb
theorem x_pow (ha : PE X a (TEx F W cv da)) (hb : PE X b (TEx F W cv db)) : PE X (.BinOp a .Pow b pos) (TEx F W cv (dOpR powD da db)) := by rw [dOpR_eq]; exact s_op op_pow sim_powD ha hb
theorem x_shl (ha : PE X a (TEx F W cv da)) (hb : PE X b (TEx F W cv db)) : PE X (.BinOp a .LShift b pos) (TEx F W cv (dOpR shlD da db)) := by rw [dOpR_eq]; exact s_op op_shl sim_shlD ha hb
theorem x_shr (ha : PE X a (TEx F W cv da)) (hb : PE X b (TEx F W cv db)) : PE X (.BinOp a .RShift b pos) (TEx F W cv (dOpR shrD da db)) := by rw [dOpR_eq]; exact s_op op_shr sim_shrD ha hb
theorem x_band (ha : PE X a (TEx F W cv da)) (hb : PE X b (TEx F W cv db)) : PE X (.BinOp a .BitAnd b pos) (TEx F W cv (dOpR andD da db)) := by rw [dOpR_eq]; exact s_op op_and sim_andD ha hb
theorem x_bor (ha : PE X a (TEx F W cv da)) (hb : PE X b (TEx F W cv db)) : PE X (.BinOp a .BitOr b pos) (TEx F W cv (dOpR orD da db)) := by rw [dOpR_eq]; exact s_op op_or sim_orD ha hb
/-- one comparison: its rule, and what it tells -/
structure CmpR (X : Cx) (F : Fm) (op : CmpOp) (f : D → D → Option RV) : Prop where
  ex : ∃ r, OpR X (compareOp op) r ∧ OpSim F.K F.T r f
theorem c_eq (k : Ctx X F W) : CmpR X F .Eq eqR := by rw [eqR_eq]; exact ⟨_, by rw [← k.K]; exact op_eqD (by have := k.un; omega), sim_eqF⟩
theorem c_ne (k : Ctx X F W) : CmpR X F .NotEq neR := by rw [neR_eq]; exact ⟨_, by rw [← k.K]; exact op_neD (by have := k.un; omega), sim_neF⟩
theorem c_lt (k : Ctx X F W) : CmpR X F .Lt ltR := by rw [ltR_eq]; exact ⟨_, op_lt, sim_ltI⟩
theorem c_le (k : Ctx X F W) : CmpR X F .LtE leR := by rw [leR_eq]; exact ⟨_, op_le, sim_leI⟩
theorem c_gt (k : Ctx X F W) : CmpR X F .Gt gtR := by rw [gtR_eq]; exact ⟨_, op_gt, sim_gtI⟩
theorem c_ge (k : Ctx X F W) : CmpR X F .GtE geR := by rw [geR_eq]; exact ⟨_, op_ge, sim_geI⟩
theorem c_is (k : Ctx X F W) : CmpR X F .Is (isD false) := ⟨_, op_isD, sim_is⟩
theorem c_isnot (k : Ctx X F W) : CmpR X F .IsNot (isD true) := ⟨_, op_isnotD, sim_isnot⟩
theorem c_in (k : Ctx X F W) : CmpR X F .In (inD false) := ⟨_, by rw [← k.K]; exact op_inA (by have := k.un; omega), sim_inA⟩
theorem c_notin (k : Ctx X F W) : CmpR X F .NotIn (inD true) := ⟨_, by rw [← k.K]; exact op_notInA (by have := k.un; omega), sim_notInA⟩
theorem x_cmp {op : CmpOp} {f : D → D → Option RV} (h : CmpR X F op f) (ha : PE X a (TEx F W cv da)) (hb : PE X b (TEx F W cv db)) (hm : behindInMarks op b = false := by rfl) : PE X (.Compare a [op] [b] pos) (TEx F W cv (dOpR f da db)) := by
  rw [dOpR_eq]
  obtain ⟨r, h1, h2⟩ := h.ex
  exact s_cmp h1 h2 ha hb hm
theorem x_chain {op op' : CmpOp} {f g : D → D → Option RV} (h : CmpR X F op f) (h' : CmpR X F op' g) (ha : PE X a (TEx F W cv da)) (hb : PE X b (TEx F W cv db)) (hc : PE X c (TEx F W cv dc)) (hm : lastMarks [op, op'] [b, c] = false := by rfl) : PE X (.Compare a [op, op'] [b, c] pos) (TEx F W cv (dChain f g da db dc)) := by
  obtain ⟨r, h1, h2⟩ := h.ex
  obtain ⟨r', h1', h2'⟩ := h'.ex
  exact s_chain h1 h1' h2 h2' ha hb hc hm
theorem t_testB {σ : L2.St} {H : Hp} {Q : Bool → Hp → Prop} (h : TTx F W cv (dTest da trB) σ H Q) : TEx F W cv da σ H fun x H1 => ∃ c, x = .bl c ∧ Q c H1 := by
  show Tx F W cv (okE F) da σ H _
  refine tx_bind (okA := okE F) (okC := okT) (f := fun (r : RV) st => Out.of (trB r.d)) h fun M st O ra x H1 R e1 R1 k1 h1 => ?_
  obtain ⟨b, q, h2⟩ := h1.of
  obtain ⟨k, d⟩ := ra
  cases d with
  | bl b' => cases q; exact ⟨b, (k1.vw (T := F.T)).bl, h2 b H1 (Ex.refl _) rfl⟩
  | _ => cases q
theorem y_cmp {op : CmpOp} {f : D → D → Option RV} (h : CmpR X F op f) (ha : PE X a (TEx F W cv da)) (hb : PE X b (TEx F W cv db)) (hm : behindInMarks op b = false := by rfl) : PT X (.Compare a [op] [b] pos) (TTx F W cv (dTestR (dOpR f da db) trB)) := by
  rw [dTestR_eq, dOpR_eq]
  obtain ⟨r, h1, h2⟩ := h.ex
  exact pt_w (pt_cmpR h1 ha hb hm) fun σ H Q h => t_op h2 (t_testB h)
theorem y_val (k : Ctx X F W) (ha : PE X a (TEx F W cv da)) (he : ∀ whole, isTrue a X.env whole = (do let v ← whole; standAt a.pos; holding [v] (truthy v)) := by intro _; rfl) : PT X a (TTx F W cv (dTestR da trD)) := by rw [dTestR_eq]; exact s_truth k.K ha he
theorem y_not (h : PT X a (TTx F W cv dt)) : PT X (.UnaryOp .Not a pos) (TTx F W cv (dNotR dt)) := by rw [dNotR_eq]; exact pt_w (pt_not h) fun _ _ _ h => t_not h
theorem pw_w {t t' : TT} (h : PW X e t) (w : ∀ σ H Q, t' σ H Q → t σ H Q) : PW X e t' := ⟨fun wh pins s σ H Q I q => h.run wh pins s σ H Q I (w σ H Q q)⟩
theorem y_and1 (h : PT X a (TTx F W cv dt)) : PW X (.BoolOp .And [a] pos) (TTx F W cv dt) := pw_and1 h
theorem y_or1 (h : PT X a (TTx F W cv dt)) : PW X (.BoolOp .Or [a] pos) (TTx F W cv dt) := pw_or1 h
theorem y_and (h : PT X a (TTx F W cv dt)) (h' : PW X (.BoolOp .And (b :: rest) pos) (TTx F W cv du)) : PW X (.BoolOp .And (a :: b :: rest) pos) (TTx F W cv (dAndR dt du)) := by rw [dAndR_eq]; exact pw_w (pw_and h h') fun _ _ _ h => t_and h
theorem y_or (h : PT X a (TTx F W cv dt)) (h' : PW X (.BoolOp .Or (b :: rest) pos) (TTx F W cv du)) : PW X (.BoolOp .Or (a :: b :: rest) pos) (TTx F W cv (dOrR dt du)) := by rw [dOrR_eq]; exact pw_w (pw_or h h') fun _ _ _ h => t_or h
theorem x_one {op} (h : PE X a (TEx F W cv da)) : PE X (.BoolOp op [a] pos) (TEx F W cv da) := pe_one h
theorem x_orV (k : Ctx X F W) (ha : PE X a (TEx F W cv da)) (hb : PE X (.BoolOp .Or (b :: rest) pos) (TEx F W cv db)) : PE X (.BoolOp .Or (a :: b :: rest) pos) (TEx F W cv (dOrV da db)) := s_orV k.K ha hb
theorem x_andV (k : Ctx X F W) (ha : PE X a (TEx F W cv da)) (hb : PE X (.BoolOp .And (b :: rest) pos) (TEx F W cv db)) : PE X (.BoolOp .And (a :: b :: rest) pos) (TEx F W cv (dAndV da db)) := s_andV k.K ha hb
theorem x_notV (k : Ctx X F W) (ha : PE X a (TEx F W cv da)) : PE X (.UnaryOp .Not a pos) (TEx F W cv (dNotV da)) := s_notV k.K ha
theorem x_neg (ha : PE X a (TEx F W cv da)) : PE X (.UnaryOp .USub a pos) (TEx F W cv (dNeg da)) := s_neg ha
theorem x_if (hc : PT X c (TTx F W cv dt)) (ha : PE X a (TEx F W cv da)) (hb : PE X b (TEx F W cv db)) : PE X (.IfExp c a b pos) (TEx F W cv (dIfR dt da db)) := by rw [dIfR_eq]; exact s_if hc ha hb
theorem x_ix (k : Ctx X F W) (ha : PE X a (TEx F W cv da)) (hb : PE X b (TEx F W cv db)) (hp : PlainIx b := by intro _ _; rfl) : PE X (.Subscript a b pos) (TEx F W cv (dOpR ixD da db)) := by rw [dOpR_eq]; exact s_ix (by rw [← k.K]; exact ix_seq) sim_ixD ha hb hp
theorem x_slice {dlo dhi : MSt → Out (Option Int)} {lo hi : Option Expr} (k : Ctx X F W) (ha : PE X a (TEx F W cv da)) (hl : PO X lo (TOx F W cv dlo)) (hh : PO X hi (TOx F W cv dhi)) : PE X (.Subscript a (.Slice lo hi none p2) pos) (TEx F W cv (dSl da dlo dhi)) := s_slice k.K ha hl hh
theorem x_rev {n : Nat} (k : Ctx X F W) (he : PE X e (TEx F W cv da)) : PE X (.Subscript e (.Slice none none (some (.UnaryOp .USub (.Constant (.int 1) n p1) p2)) p3) pos) (TEx F W cv (dRev da)) := s_rev k.K he
theorem x_nil : PA X [] (TAx F W cv dNil) := s_nil
theorem x_cons (ha : PE X e (TEx F W cv da)) (hr : PA X es (TAx F W cv dl)) (hs : starEach (e :: es) X.env = (false, eval e X.env) :: starEach es X.env := by rfl) : PA X (e :: es) (TAx F W cv (dConsR da dl)) := by rw [dConsR_eq]; exact s_cons ha hr hs
theorem x_zcons (ha : PE X e (TEx F W cv da)) (hr : PA X es (TZx F W cv dl)) (hs : starEach (e :: es) X.env = (false, eval e X.env) :: starEach es X.env := by rfl) : PA X (e :: es) (TZx F W cv (dConsR da dl)) := by rw [dConsR_eq]; exact z_cons ha hr hs
theorem x_lst (h : PA X es (TAx F W cv dl)) : PE X (.List es pos) (TEx F W cv (dDisp (fun ds => ⟨.fr, .lst ds⟩) dl)) := s_lst h
theorem x_tup {n : Nat} (h : PA X es (TAx F W cv dl)) : PE X (.Tuple es n pos) (TEx F W cv (dDisp (fun ds => ⟨.fz, .tup ds⟩) dl)) := s_tup h
/-! ### calls -/
theorem x_isi {n : String} (k : Ctx X F W) (o : okN x = true) (hn : n ∈ ["int", "bool", "tuple", "list", "str", "dict"]) (hg : Gl X "isinstance") (hm : X.mg "isinstance" = none) (ha : PE X a (TEx F W cv da)) (hg2 : Gl X x) (hm2 : X.mg x = none) (hv : bootBuiltins x = some (.type n))
    (he : starEach [a, .Name x p2] X.env = (false, eval a X.env) :: starEach [.Name x p2] X.env := by rfl) (he2 : starEach [.Name x p2] X.env = (false, eval (.Name x p2) X.env) :: starEach [] X.env := by rfl) (hpl : (backTo pos (starEach [.Name x p2] X.env)).any (·.1) = false := by rfl) :
    PE X (.Call (.Name "isinstance" p) [a, .Name x p2] [] pos) (TEx F W cv (dIsi n da)) := s_isi k.K hn hg hm ha hg2 hm2 hv (okN.nm o) (okN.db o) he he2 hpl
/-- a builtin's rule and what it tells -/
structure BltR (X : Cx) (F : Fm) (x : Str) (f : List D → Option RV) : Prop where
  ex : ∃ id r, bootBuiltins x = some (.builtin id) ∧ CallR X (.builtin id) r ∧ CallSim F.K F.T r f
structure TypR (X : Cx) (F : Fm) (x : Str) (f : List D → Option RV) : Prop where
  ex : ∃ id r, bootBuiltins x = some (.type id) ∧ CallR X (.type id) r ∧ CallSim F.K F.T r f
theorem boot_len' : bootBuiltins "len" = some (.builtin "len") := rfl
theorem b_len (k : Ctx X F W) : BltR X F "len" lenD := ⟨"len", _, boot_len', by rw [← k.K]; exact op_lenD, sim_lenD⟩
theorem b_all (k : Ctx X F W) : BltR X F "all" (onBls fun bs => bs.all id) := ⟨"all", _, boot_all, by rw [← k.K]; exact cr_all k.calm, sim_onBls⟩
theorem b_any (k : Ctx X F W) : BltR X F "any" (onBls fun bs => bs.any id) := ⟨"any", _, boot_any, by rw [← k.K]; exact cr_any k.calm, sim_onBls⟩
theorem b_sum (k : Ctx X F W) : BltR X F "sum" sumD := ⟨"sum", _, boot_sum, by rw [← k.K]; exact cr_sum k.calm, sim_sumD⟩
theorem b_max (k : Ctx X F W) : BltR X F "max" maxD := ⟨"max", _, boot_max, by rw [← k.K]; exact op_maxD k.calm, sim_maxD⟩
theorem b_min (k : Ctx X F W) : BltR X F "min" minD := ⟨"min", _, boot_min, by rw [← k.K]; exact op_minD k.calm, sim_minD⟩
theorem b_sorted (k : Ctx X F W) : BltR X F "sorted" sortD := ⟨"sorted", _, boot_sorted, by rw [← k.K]; exact op_sortD k.calm, sim_sortD⟩
theorem b_tuple (k : Ctx X F W) : TypR X F "tuple" tupleD := ⟨"tuple", _, boot_tuple, by rw [← k.K]; exact call_tuple_of, sim_tupleD⟩
theorem b_list (k : Ctx X F W) : TypR X F "list" listD := ⟨"list", _, boot_list, by rw [← k.K]; exact call_list_of, sim_listD⟩
theorem x_blt {f : List D → Option RV} (h : BltR X F x f) (o : okN x = true) (hg : Gl X x) (hm : X.mg x = none) (ha : PA X (e :: es) (TAx F W cv dl))
    (he : starEach (e :: es) X.env = (false, eval e X.env) :: starEach es X.env := by rfl) (hpl : (backTo pos (starEach es X.env)).any (·.1) = false := by rfl) : PE X (.Call (.Name x p) (e :: es) [] pos) (TEx F W cv (dCBR f dl)) := by
  rw [dCBR_eq]
  obtain ⟨id, r, h1, h2, h3⟩ := h.ex
  exact s_callB h2 h3 hg hm h1 ha (okN.nm o) (okN.db o) he hpl
theorem x_typ {f : List D → Option RV} (h : TypR X F x f) (o : okN x = true) (hg : Gl X x) (hm : X.mg x = none) (ha : PA X (e :: es) (TAx F W cv dl))
    (he : starEach (e :: es) X.env = (false, eval e X.env) :: starEach es X.env := by rfl) (hpl : (backTo pos (starEach es X.env)).any (·.1) = false := by rfl) : PE X (.Call (.Name x p) (e :: es) [] pos) (TEx F W cv (dCBR f dl)) := by
  rw [dCBR_eq]
  obtain ⟨id, r, h1, h2, h3⟩ := h.ex
  exact s_callTy h2 h3 hg hm h1 ha (okN.nm o) (okN.db o) he hpl
theorem dLenR_cons {n : Nat} {de : DE} {dr : DA} (h : dLen n dr) : dLen (n + 1) (dConsR de dr) := by rw [dConsR_eq]; exact dLen_cons h
theorem FnD.mono {P : Program} {w : World} {mg : Str → Option Value} {base : Heap} {k k' : Nat} {ps : List Str} {f : List D → Out RV} (h : FnD P w mg base F cv k x ps f) (hk : k ≤ k') : FnD P w mg base F cv k' x ps f := by
  obtain ⟨a, fd, h1, h2⟩ := h.ex
  exact ⟨a, fd, h1.mono hk, h2⟩
theorem x_call {k m : Nat} {ps : List Str} {f : List D → Out RV} (q : Ctx X F W) (o : okN x = true) (FN : FnD X.prog X.w X.mg X.base F cv k x ps f) (hr : Room m X.A) (hkm : k ≤ m) (hg : Gl X x) (hn : dLen ps.length dl) (ha : PA X (e :: es) (TAx F W cv dl))
    (he : starEach (e :: es) X.env = (false, eval e X.env) :: starEach es X.env := by rfl) (hpl : (backTo pos (starEach es X.env)).any (·.1) = false := by rfl) :
    PE X (.Call (.Name x p) (e :: es) [] pos) (TEx F W cv (dCallR f dl)) := by rw [dCallR_eq]; exact s_call q.K FN (hr.mono hkm) hg q.tk hn ha (okN.db o) he hpl
/-! ### what is walked -/
theorem i_val (k : Ctx X F W) (ha : PE X e (TEx F W cv da)) : PI X tg e (TIx F W cv (dIt da)) := s_it k.K ha
theorem i_rg1 (hg : Gl X "range") (hm : X.mg "range" = none) (ha : PA X [a] (TAx F W cv dl)) (hs : starEach [a] X.env = [(false, eval a X.env)] := by rfl) : PI X tg (.Call (.Name "range" p) [a] [] pos) (TIx F W cv (dRg rg1 dl)) := s_range1 hg hm ha hs
theorem i_rg2 (hg : Gl X "range") (hm : X.mg "range" = none) (ha : PA X [a, b] (TAx F W cv dl)) (hs : starEach [a, b] X.env = [(false, eval a X.env), (false, eval b X.env)] := by rfl) (hs2 : starEach [b] X.env = [(false, eval b X.env)] := by rfl) : PI X tg (.Call (.Name "range" p) [a, b] [] pos) (TIx F W cv (dRg rg2 dl)) := s_range2 hg hm ha hs hs2
theorem i_rg3 (hg : Gl X "range") (hm : X.mg "range" = none) (ha : PA X [a, b, c] (TAx F W cv dl)) (hs : starEach [a, b, c] X.env = (false, eval a X.env) :: starEach [b, c] X.env := by rfl) (hpl : (backTo pos (starEach [b, c] X.env)).any (·.1) = false := by rfl) : PI X tg (.Call (.Name "range" p) [a, b, c] [] pos) (TIx F W cv (dRg rg3 dl)) := s_range3 hg hm ha hs hpl
theorem i_zip {elts : List Expr} {kk : Nat} (k : Ctx X F W) (hg : Gl X "zip") (hm : X.mg "zip" = none) (ha : PA X [a, b] (TAx F W cv dl)) (hs : starEach [a, b] X.env = (false, eval a X.env) :: starEach [b] X.env := by rfl) (hpl : (backTo pos (starEach [b] X.env)).any (·.1) = false := by rfl) :
    PI X (.Tuple elts kk p2) (.Call (.Name "zip" p) [a, b] [] pos) (TIx F W cv (dZip dl)) := s_zip k.K hg hm ha hs hpl
theorem i_enum {elts : List Expr} {kk : Nat} (k : Ctx X F W) (hg : Gl X "enumerate") (hm : X.mg "enumerate" = none) (ha : PA X [a] (TAx F W cv dl)) (hs : starEach [a] X.env = [(false, eval a X.env)] := by rfl) :
    PI X (.Tuple elts kk p2) (.Call (.Name "enumerate" p) [a] [] pos) (TIx F W cv (dEnum dl)) := s_enum k.K hg hm ha hs
theorem r_1 (hg : Gl X "range") (hm : X.mg "range" = none) (ha : PA X [a] (TAx F W cv dl)) (hs : starEach [a] X.env = [(false, eval a X.env)] := by rfl) : PRn X (.Call (.Name "range" p) [a] [] pos) (TRn F W cv (dRn rg1 dl)) := s_rn1 hg hm ha hs
theorem r_2 (hg : Gl X "range") (hm : X.mg "range" = none) (ha : PA X [a, b] (TAx F W cv dl)) (hs : starEach [a, b] X.env = (false, eval a X.env) :: starEach [b] X.env := by rfl) (hpl : (backTo pos (starEach [b] X.env)).any (·.1) = false := by rfl) : PRn X (.Call (.Name "range" p) [a, b] [] pos) (TRn F W cv (dRn rg2 dl)) := s_rn2 hg hm ha hs hpl
theorem r_3 (hg : Gl X "range") (hm : X.mg "range" = none) (ha : PA X [a, b, c] (TAx F W cv dl)) (hs : starEach [a, b, c] X.env = (false, eval a X.env) :: starEach [b, c] X.env := by rfl) (hpl : (backTo pos (starEach [b, c] X.env)).any (·.1) = false := by rfl) : PRn X (.Call (.Name "range" p) [a, b, c] [] pos) (TRn F W cv (dRn rg3 dl)) := s_rn3 hg hm ha hs hpl
theorem x_lstRn {dr : MSt → Out (List D)} (k : Ctx X F W) (hg : Gl X "list") (hm : X.mg "list" = none) (he : PRn X e (TRn F W cv dr)) (na : starEach [e] X.env = (false, eval e X.env) :: starEach [] X.env := by rfl) (na2 : (backTo pos (starEach [] X.env)).any (·.1) = false := by rfl) : PE X (.Call (.Name "list" p) [e] [] pos) (TEx F W cv (dLstRn dr)) := s_lstRn k.calm hg hm he na na2
theorem x_tupRn {dr : MSt → Out (List D)} (k : Ctx X F W) (hg : Gl X "tuple") (hm : X.mg "tuple" = none) (he : PRn X e (TRn F W cv dr)) (na : starEach [e] X.env = (false, eval e X.env) :: starEach [] X.env := by rfl) (na2 : (backTo pos (starEach [] X.env)).any (·.1) = false := by rfl) : PE X (.Call (.Name "tuple" p) [e] [] pos) (TEx F W cv (dTupRn dr)) := s_tupRn k.calm hg hm he na na2
/-! ### targets -/
theorem g_one {A : Acc} (hN : X.N.Nodup) (hx : Loc X.env.scope x) (hf : X.fn x = true ∨ X.env.scope.names.lookup x = some .local) (hj : X.N[A.i]? = some x := by rfl) : PG X (.Name x pos) (gPat F.K (PatF.one A).pat) := pg_name hN hj hx hf
theorem g_nil : PGs X [] (gNames (([] : List Acc).map (·.i))) := pgs_nil
theorem g_cons {A : Acc} {As : List Acc} (hN : X.N.Nodup) (hx : Loc X.env.scope x) (hf : X.fn x = true ∨ X.env.scope.names.lookup x = some .local) (h2 : PGs X es (gNames (As.map (·.i)))) (hj : X.N[A.i]? = some x := by rfl)
    (hs : (assignEach (.Name x pos :: es) X.env).map (·.2) = assign (.Name x pos) X.env :: (assignEach es X.env).map (·.2) := by rfl) : PGs X (.Name x pos :: es) (gNames ((A :: As).map (·.i))) := pgs_cons (pg_name hN hj hx hf) h2 hs
theorem g_many {As : List Acc} {k : Nat} (q : Ctx X F W) (h : PGs X es (gNames (As.map (·.i)))) (hn : (assignEach es X.env).length = (As.map (·.i)).length := by rfl) (hst : (assignEach es X.env).findIdx? (·.1) = none := by rfl) : PG X (.Tuple es k pos) (gPat F.K (PatF.many As).pat) := by
  have := pg_tup (pos := pos) (k := k) q.calm h hn hst
  rw [q.K] at this
  exact this
end
end Mini

set_option Elab.async false
set_option linter.all false
set_option maxRecDepth 100000
/-! Mini 19: the rules of statements, of comprehensions and of defs, as the printed texts call them. -/
namespace Mini
open PySem L2 LamX PySem.Spec PyProof.Rows
section
variable {F : Fm} {W : WX} {cv : Str → Value} {X : Cx} {e a b c tg tg1 : Expr} {es rest : List Expr} {pos p p1 p2 p3 pt py cpos apos tpos : Pos} {x y z : Str} {i j l : Nat} {da db dc de di' : DE} {dl : DA} {dt du : DT} {s : Stmt} {ss sa sb : List Stmt} {d1 d2 : DS}
theorem tsx_w {d d' : DS} {Ke : Ends} {σ : L2.St} {H : Hp} (hw : ∀ st, d' st = .bad ∨ d' st = d st) (h : TSx F W cv d' Ke σ H) : TSx F W cv d Ke σ H := by
  obtain ⟨M, st, O, R, h⟩ := h
  refine ⟨M, st, O, R, ?_⟩
  rcases hw st with z | z
  · rw [z] at h; exact h.elim
  · rw [z] at h; exact h
theorem zs_nil : PSs X [] (TSx F W cv dNext) := s_pnil
theorem zs_cons (h1 : PS X s (TSx F W cv d1)) (h2 : PSs X ss (TSx F W cv d2)) : PSs X (s :: ss) (TSx F W cv (dSeqR d1 d2)) := by rw [dSeqR_eq, dSeqF_eq]; exact s_pcons h1 h2
theorem zs_one (h1 : PS X s (TSx F W cv d1)) : PSs X [s] (TSx F W cv d1) := s_pone h1
theorem z_if (hc : PT X c (TTx F W cv dt)) (ha : PSs X sa (TSx F W cv d1)) (hb : PSs X sb (TSx F W cv d2)) : PS X (.If c sa sb pos) (TSx F W cv (dIfSR dt d1 d2)) := by rw [dIfSR_eq]; exact s_ifS hc ha hb
theorem z_ret (he : PE X e (TEx F W cv de)) : PS X (.Return (some e) pos) (TSx F W cv (dRetR de)) := by rw [dRetR_eq]; exact s_ret he
theorem z_retV {A : Acc} (o : okN x = true) (hv : Vis X.env.scope x) (hN : X.N[A.i]? = some x := by rfl) : PS X (.Return (some (.Name x p)) pos) (TSx F W cv (dRetVF A)) := by rw [dRetVF_eq]; exact s_retV hN hv (okN.db o) (okN.cd o)
theorem z_expr (he : PE X e (TEx F W cv de)) (hs : swapsWith e none pos.line X.env = pure false := by rfl) : PS X (.Expr e pos) (TSx F W cv (dExprR de)) := by rw [dExprR_eq]; exact s_expr he hs
theorem z_set {own : Bool} {A : Acc} (k : Ctx X F W) (hx : Loc X.env.scope x) (hf : X.fn x = true ∨ X.env.scope.names.lookup x = some .local) (he : PE X e (TEx F W cv de)) (hj : X.N[A.i]? = some x := by rfl) (hs : swapsWith e (some (.Name x p)) pos.line X.env = pure false := by rfl) : PS X (.Assign [.Name x p] e pos) (TSx F W cv (dSetR own A de)) := by rw [dSetR_eq, dSetF_eq]; exact s_set k.nd hj hx hf he hs
theorem z_asgP {q : PatF} (he : PE X e (TEx F W cv de)) (hg : PG X tg (gPat F.K q.pat)) (hs : swapsWithSole [tg] e pos.line X.env = pure false := by rfl) (hw : swappedStores [tg] e X.env = pure none := by rfl) (h1 : (assignEach [tg] X.env).map (·.2) = [assign tg X.env] := by rfl) : PS X (.Assign [tg] e pos) (TSx F W cv (dAsgPF q de)) := by rw [dAsgPF_eq]; exact s_asgP he hg hs hw h1
theorem z_par {o1 o2 : Bool} {A B : Acc} {kt k2 pt2} (k : Ctx X F W) (hij : A.i ≠ B.i) (hx : X.env.scope.names.lookup x = some .local) (hy : X.env.scope.names.lookup y = some .local) (ha : PA X [a, b] (TZx F W cv dl))
    (hw : swappedStores [.Tuple [.Name x p, .Name y py] kt pt] (.Tuple [a, b] k2 pt2) X.env = pure (some [x, y])) (hi : X.N[A.i]? = some x := by rfl) (hj : X.N[B.i]? = some y := by rfl)
    (hs : swapsWithSole [.Tuple [.Name x p, .Name y py] kt pt] (.Tuple [a, b] k2 pt2) pos.line X.env = pure false := by rfl) :
    PS X (.Assign [.Tuple [.Name x p, .Name y py] kt pt] (.Tuple [a, b] k2 pt2) pos) (TSx F W cv (dParF [(o1, A), (o2, B)] dl)) := by rw [dParF_eq]; exact s_par k.calm k.nd hi hj hij hx hy ha hw hs
theorem z_par3 {o1 o2 o3 : Bool} {A B C : Acc} {kt k2 pt2} (k : Ctx X F W) (hij : A.i ≠ B.i) (hil : A.i ≠ C.i) (hjl : B.i ≠ C.i) (hx : X.env.scope.names.lookup x = some .local) (hy : X.env.scope.names.lookup y = some .local) (hz : X.env.scope.names.lookup z = some .local) (ha : PA X [a, b, c] (TZx F W cv dl))
    (hw : swappedStores [.Tuple [.Name x p, .Name y py, .Name z p3] kt pt] (.Tuple [a, b, c] k2 pt2) X.env = pure (some [x, y, z])) (hi : X.N[A.i]? = some x := by rfl) (hj : X.N[B.i]? = some y := by rfl) (hl : X.N[C.i]? = some z := by rfl)
    (hs : swapsWithSole [.Tuple [.Name x p, .Name y py, .Name z p3] kt pt] (.Tuple [a, b, c] k2 pt2) pos.line X.env = pure false := by rfl) :
    PS X (.Assign [.Tuple [.Name x p, .Name y py, .Name z p3] kt pt] (.Tuple [a, b, c] k2 pt2) pos) (TSx F W cv (dParF [(o1, A), (o2, B), (o3, C)] dl)) := by rw [dParF_eq]; exact s_par3 k.calm k.nd hi hj hl hij hil hjl hx hy hz ha hw hs
theorem z_parT {js : List (Bool × Acc)} {k : Nat} (q : Ctx X F W) (ha : PA X es (TZx F W cv dl)) (hg : PG X tg (gPat F.K (PatF.many (js.map (·.2))).pat)) (hw : swappedStores [tg] (.Tuple es k pt) X.env = pure none) (hl : fitsN js.length = true := by rfl) (hs : swapsWithSole [tg] (.Tuple es k pt) pos.line X.env = pure false := by rfl) (h1 : (assignEach [tg] X.env).map (·.2) = [assign tg X.env] := by rfl) :
    PS X (.Assign [tg] (.Tuple es k pt) pos) (TSx F W cv (dParF js dl)) := by
  rw [dParF_eq]
  refine s_parT (by unfold accN; rw [List.length_map]; exact hl) ha ?_ hs hw h1
  have e : gPat F.K (PatF.many (js.map (·.2))).pat = gTup F.K (accN js).length (gNames ((accN js).map (·.2))) := by
    show gTup F.K ((js.map (·.2)).map (·.i)).length (gNames ((js.map (·.2)).map (·.i))) = _
    unfold accN
    simp only [List.length_map, List.map_map]
    rfl
  rw [← e]
  exact hg
theorem z_for {di : DI} {q : PatF} {iter : Expr} (k : Ctx X F W) (hp : PassesOwn (model X.prog X.w) X.A X.env X.xe) (hi : PI X tg iter (TIx F W cv di)) (hg : PG X tg (gPat F.K q.pat)) (hb : PSs X sb (TSx F W cv d1)) (hs : ∀ x, foldedSetIterable iter X.env x = pure x := by intro _; rfl) : PS X (.For tg iter sb [] pos) (TSx F W cv (dForR di q d1)) := by rw [dForR_eq, dForF_eq]; exact s_for hp k.calm hi hg hb hs
theorem z_while {fuel : Nat} (hp : PassesOwn (model X.prog X.w) X.A X.env X.xe) (hc : PT X c (TTx F W cv dt)) (hb : PSs X sb (TSx F W cv d1)) : PS X (.While c sb [] pos) (TSx F W cv (dWhileR fuel dt d1)) := by rw [dWhileR_eq, dWhileF_eq]; exact s_while hp hc hb
theorem z_append {A : Acc} (k : Ctx X F W) (o : okN x = true) (hv : Vis X.env.scope x) (ha : PA X [e] (TAx F W cv dl)) (hN : X.N[A.i]? = some x := by rfl)
    (hbase : attributeBase (.Name x p) "append" X.env (eval (.Name x p) X.env) = eval (.Name x p) X.env := by rfl)
    (hfew : ((backTo cpos (starEach (e :: []) X.env)).all (fun x => !x.1) && (backToKw cpos (keywordEach [] X.env)).all (fun x => x.1.isSome) && decide ((e :: []).length + ([] : List Keyword).length + (if ([] : List Keyword).isEmpty then 0 else 1) < 30)) = true := by rfl)
    (hline : (apos.endLine == cpos.line) = true := by rfl) (hst : starEach (e :: []) X.env = (false, eval e X.env) :: starEach [] X.env := by rfl) (hplain : (backTo cpos (starEach [] X.env)).any (·.1) = false := by rfl)
    (hsw : swapsWith (.Call (.Attribute (.Name x p) "append" apos) [e] [] cpos) none pos.line X.env = pure false := by rfl) :
    PS X (.Expr (.Call (.Attribute (.Name x p) "append" apos) [e] [] cpos) pos) (TSx F W cv (dMutF A dl fApp)) := by rw [dMutF_eq]; exact s_append k.K hN hv (okN.db o) (okN.cd o) ha hbase hfew hline hst hplain hsw
theorem z_extend {A : Acc} (k : Ctx X F W) (o : okN x = true) (hv : Vis X.env.scope x) (ha : PA X [e] (TAx F W cv dl)) (hN : X.N[A.i]? = some x := by rfl)
    (hbase : attributeBase (.Name x p) "extend" X.env (eval (.Name x p) X.env) = eval (.Name x p) X.env := by rfl)
    (hfew : ((backTo cpos (starEach (e :: []) X.env)).all (fun x => !x.1) && (backToKw cpos (keywordEach [] X.env)).all (fun x => x.1.isSome) && decide ((e :: []).length + ([] : List Keyword).length + (if ([] : List Keyword).isEmpty then 0 else 1) < 30)) = true := by rfl)
    (hline : (apos.endLine == cpos.line) = true := by rfl) (hst : starEach (e :: []) X.env = (false, eval e X.env) :: starEach [] X.env := by rfl) (hplain : (backTo cpos (starEach [] X.env)).any (·.1) = false := by rfl)
    (hsw : swapsWith (.Call (.Attribute (.Name x p) "extend" apos) [e] [] cpos) none pos.line X.env = pure false := by rfl) :
    PS X (.Expr (.Call (.Attribute (.Name x p) "extend" apos) [e] [] cpos) pos) (TSx F W cv (dMutF A dl fExt)) := by rw [dMutF_eq]; exact s_extend k.K hN hv (okN.db o) (okN.cd o) ha hbase hfew hline hst hplain hsw
theorem z_popE {A : Acc} (k : Ctx X F W) (o : okN x = true) (hv : Vis X.env.scope x) (hN : X.N[A.i]? = some x := by rfl)
    (hbase : attributeBase (.Name x p) "pop" X.env (eval (.Name x p) X.env) = eval (.Name x p) X.env := by rfl) (hline : (apos.endLine == cpos.line) = true := by rfl)
    (hsw : swapsWith (.Call (.Attribute (.Name x p) "pop" apos) [] [] cpos) none pos.line X.env = pure false := by rfl) :
    PS X (.Expr (.Call (.Attribute (.Name x p) "pop" apos) [] [] cpos) pos) (TSx F W cv (dPopF A none)) := by rw [dPopF_eq]; exact s_popE k.K hN hv (okN.db o) (okN.cd o) hbase hline hsw
theorem z_popP {q : PatF} {A : Acc} (k : Ctx X F W) (o : okN x = true) (hv : Vis X.env.scope x) (hg : PG X tg (gPat F.K q.pat)) (hN : X.N[A.i]? = some x := by rfl)
    (hbase : attributeBase (.Name x p) "pop" X.env (eval (.Name x p) X.env) = eval (.Name x p) X.env := by rfl) (hline : (apos.endLine == cpos.line) = true := by rfl)
    (hs : swapsWithSole [tg] (.Call (.Attribute (.Name x p) "pop" apos) [] [] cpos) pos.line X.env = pure false := by rfl) (hw : swappedStores [tg] (.Call (.Attribute (.Name x p) "pop" apos) [] [] cpos) X.env = pure none := by rfl) (h1 : (assignEach [tg] X.env).map (·.2) = [assign tg X.env] := by rfl) :
    PS X (.Assign [tg] (.Call (.Attribute (.Name x p) "pop" apos) [] [] cpos) pos) (TSx F W cv (dPopF A (some q))) := by rw [dPopF_eq]; exact s_popP k.K hN hv (okN.db o) (okN.cd o) hbase hline hg hs hw h1
theorem z_put {ie : Expr} {A : Acc} (o : okN x = true) (hv : Vis X.env.scope x) (he : PE X e (TEx F W cv de)) (hi : PE X ie (TEx F W cv di')) (hN : X.N[A.i]? = some x := by rfl)
    (ha : ∀ v, assign (.Subscript (.Name x p) ie tpos) X.env v = (do
      let ov ← holding [v] (eval (.Name x p) X.env)
      let iv ← holding [v, ov] (eval ie X.env)
      standAt tpos
      holding [v, ov, iv] (setItem ov iv v)
      release [v, ov, iv] []) := by intro _; rfl)
    (hs : swapsWithSole [.Subscript (.Name x p) ie tpos] e pos.line X.env = pure false := by rfl) (hw : swappedStores [.Subscript (.Name x p) ie tpos] e X.env = pure none := by rfl) (h1 : (assignEach [.Subscript (.Name x p) ie tpos] X.env).map (·.2) = [assign (.Subscript (.Name x p) ie tpos) X.env] := by rfl) :
    PS X (.Assign [.Subscript (.Name x p) ie tpos] e pos) (TSx F W cv (dPutF A di' de)) := by rw [dPutF_eq]; exact s_put hN hv (okN.db o) (okN.cd o) he hi ha hs hw h1
theorem z_aug {ie : Expr} {A : Acc} (k : Ctx X F W) (o : okN x = true) (hv : Vis X.env.scope x) (he : PE X e (TEx F W cv de)) (hi : PE X ie (TEx F W cv di')) (hN : X.N[A.i]? = some x := by rfl)
    (ha : ∀ ov iv new, augStore ie ov iv new = (do holding [new, ov, iv] (setItem ov iv new); release [new, ov, iv] []; pure .next) := by intros; rfl) :
    PS X (.AugAssign (.Subscript (.Name x p) ie tpos) .Add e pos) (TSx F W cv (dAugF (fun i j => i + j) A di' de)) := by rw [dAugF_eq]; exact s_augS k.K ip_add hN hv (okN.db o) (okN.cd o) he hi ha
theorem z_augm {ie : Expr} {A : Acc} (k : Ctx X F W) (o : okN x = true) (hv : Vis X.env.scope x) (he : PE X e (TEx F W cv de)) (hi : PE X ie (TEx F W cv di')) (hN : X.N[A.i]? = some x := by rfl)
    (ha : ∀ ov iv new, augStore ie ov iv new = (do holding [new, ov, iv] (setItem ov iv new); release [new, ov, iv] []; pure .next) := by intros; rfl) :
    PS X (.AugAssign (.Subscript (.Name x p) ie tpos) .Sub e pos) (TSx F W cv (dAugF (fun i j => i - j) A di' de)) := by rw [dAugF_eq]; exact s_augS k.K ip_sub hN hv (okN.db o) (okN.cd o) he hi ha
theorem z_raise {m : Str} {n : Nat} (k : Ctx X F W) (o : okN x = true) (E : ExcD F.K X.mg cv x) (hg : Gl X x) : PS X (.Raise (some (.Call (.Name x p) [.Constant (.str m) n p2] [] p3)) none pos) (TSx F W cv (dRaise x)) := s_raise (by rw [k.K]; exact E) k.calm k.tk hg (okN.db o)
theorem z_frz {A : Acc} (h : PS X s (TSx F W cv d1)) : PS X s (TSx F W cv (dFrzF A d1)) := by rw [dFrzF_eq]; exact s_frz h
/-! ### comprehensions -/
theorem w_nil : PTs X [] (TTx F W cv dYes) := ptsx_nil
theorem w_one (h : PT X c (TTx F W cv dt)) : PTs X [c] (TTx F W cv dt) := pts_one h
def subN (js : List Nat) (own : List (Str × Nat)) : Bool := js.all fun j => (own.map (·.2)).contains j
theorem subN_of {js : List Nat} {own : List (Str × Nat)} (h : subN js own = true) : ∀ j ∈ js, j ∈ own.map (·.2) := fun j hj => by
  have := List.all_eq_true.mp h j hj
  simpa using this
theorem x_lc {elt iter : Expr} {ifs : List Expr} {scope : Scope} {own : List (Str × Nat)} {N0 : List Str} {sc0 : Scope} {di : DI} {q : PatF} {vs : List Acc} (k : Ctx X F W) (hi : PI X tg iter (TIx F W cv di)) (hN0 : X.N = N0) (hs0 : X.env.scope = sc0) (ok : blkC N0 sc0 scope own = true) (hvs : own.map (·.2) = vs.map (·.i)) (hp : subN q.pat.slots own = true)
    (hg : ∀ (s : Shared) (H : Hp) (C : Addr) (cl : List (Str × Addr)) (fp : List Addr), PG (X.blk s H scope (compEnvC scope cl C X.env) fp) tg (gPat F.K q.pat)) (ht : ∀ (s : Shared) (H : Hp) (C : Addr) (cl : List (Str × Addr)) (fp : List Addr), PTs (X.blk s H scope (compEnvC scope cl C X.env) fp) ifs (TTx F Wb cv dt))
    (he : ∀ (s : Shared) (H : Hp) (C : Addr) (cl : List (Str × Addr)) (fp : List Addr), PE (X.blk s H scope (compEnvC scope cl C X.env) fp) elt (TEx F Wb cv de)) (hs : ∀ x, foldedSetIterable iter X.env x = pure x := by intro _; rfl) :
    PE X (.ListComp elt [⟨tg, iter, ifs, 0⟩] scope pos) (TEx F W cv (dLcR di q vs dt de)) := by
  refine pe_w (t := TEx F W cv (dLcF di q vs dt de)) ?_ fun _ _ _ h => tex_w (dLcR_w di q vs dt de) h
  rw [dLcF_eq, ← hvs]
  exact s_lc k.K k.calm k.nd hi (blkOk_by (by rw [hN0, hs0]; exact ok)) (subN_of hp) hg ht he hs
theorem z_setLc {ow : Bool} {A : Acc} {elt iter : Expr} {ifs : List Expr} {scope : Scope} {own : List (Str × Nat)} {N0 : List Str} {sc0 : Scope} {di : DI} {q : PatF} {vs : List Acc} (k : Ctx X F W) (hx : X.env.scope.names.lookup x = some .local)
    (hsw : swapsWith (.ListComp elt [⟨tg, iter, ifs, 0⟩] scope pos) (some (.Name x py)) pt.line X.env = pure true) (hi : PI X tg iter (TIx F W cv di)) (hN0 : X.N = N0) (hs0 : X.env.scope = sc0) (ok : blkC N0 sc0 scope own = true) (hvs : own.map (·.2) = vs.map (·.i)) (hp : subN q.pat.slots own = true)
    (hg : ∀ (s : Shared) (H : Hp) (C : Addr) (cl : List (Str × Addr)) (fp : List Addr), PG (X.blk s H scope (compEnvC scope cl C X.env) fp) tg (gPat F.K q.pat)) (ht : ∀ (s : Shared) (H : Hp) (C : Addr) (cl : List (Str × Addr)) (fp : List Addr), PTs (X.blk s H scope (compEnvC scope cl C X.env) fp) ifs (TTx F Wb cv dt))
    (he : ∀ (s : Shared) (H : Hp) (C : Addr) (cl : List (Str × Addr)) (fp : List Addr), PE (X.blk s H scope (compEnvC scope cl C X.env) fp) elt (TEx F Wb cv de)) (hj : X.N[A.i]? = some x := by rfl) (hs : ∀ x, foldedSetIterable iter X.env x = pure x := by intro _; rfl) :
    PS X (.Assign [.Name x py] (.ListComp elt [⟨tg, iter, ifs, 0⟩] scope pos) pt) (TSx F W cv (dSetR ow A (dLcR di q vs dt de))) := by
  rw [dSetR_eq, dSetF_eq]
  refine ps_w (t := TSx F W cv (dSet ow A.i (dLcF di q vs dt de))) ?_ fun _ _ _ h => tsx_w (fun st => ?_) h
  · rw [dLcF_eq, ← hvs]
    exact s_setLc k.calm k.nd hj hx hsw hi (blkOk_by (by rw [hN0, hs0]; exact ok)) (subN_of hp) hg ht he hs
  · rcases dLcR_w di q vs dt de st with z | z
    · refine .inl ?_
      unfold dSet
      rw [z]
      rfl
    · refine .inr ?_
      unfold dSet
      rw [z]
theorem x_dc {kx vx iter : Expr} {ifs : List Expr} {scope : Scope} {own : List (Str × Nat)} {N0 : List Str} {sc0 : Scope} {di : DI} {q : PatF} {vs : List Acc} {dk dv : DE} (k : Ctx X F W) (hi : PI X tg iter (TIx F W cv di)) (hN0 : X.N = N0) (hs0 : X.env.scope = sc0) (ok : blkC N0 sc0 scope own = true) (hvs : own.map (·.2) = vs.map (·.i)) (hp : subN q.pat.slots own = true)
    (hg : ∀ (s : Shared) (H : Hp) (C : Addr) (cl : List (Str × Addr)) (fp : List Addr), PG (X.blk s H scope (compEnvC scope cl C X.env) fp) tg (gPat F.K q.pat)) (ht : ∀ (s : Shared) (H : Hp) (C : Addr) (cl : List (Str × Addr)) (fp : List Addr), PTs (X.blk s H scope (compEnvC scope cl C X.env) fp) ifs (TTx F Wb cv dt))
    (hk : ∀ (s : Shared) (H : Hp) (C : Addr) (cl : List (Str × Addr)) (fp : List Addr), PE (X.blk s H scope (compEnvC scope cl C X.env) fp) kx (TEx F Wb cv dk))
    (he : ∀ (s : Shared) (H : Hp) (C : Addr) (cl : List (Str × Addr)) (fp : List Addr), PE (X.blk s H scope (compEnvC scope cl C X.env) fp) vx (TEx F Wb cv dv)) (hs : ∀ x, foldedSetIterable iter X.env x = pure x := by intro _; rfl) :
    PE X (.DictComp kx vx [⟨tg, iter, ifs, 0⟩] scope pos) (TEx F W cv (dDcF di q vs dt dk dv)) := by rw [dDcF_eq, ← hvs]; exact s_dc k.calm k.nd hi (blkOk_by (by rw [hN0, hs0]; exact ok)) (subN_of hp) hg ht hk he hs
def subM (js ks : List Nat) : Bool := js.all fun j => ks.contains j
theorem subM_of {js ks : List Nat} (h : subM js ks = true) : ∀ j ∈ js, j ∈ ks := fun j hj => by
  have := List.all_eq_true.mp h j hj
  simpa using this
theorem x_lc2 {elt iter iter1 : Expr} {ifs ifs1 : List Expr} {scope : Scope} {own : List (Str × Nat)} {N0 : List Str} {sc0 : Scope} {di di1 : DI} {q q1 : PatF} {vs vs1 : List Acc} (k : Ctx X F W) (hi : PI X tg iter (TIx F W cv di)) (hN0 : X.N = N0) (hs0 : X.env.scope = sc0) (ok : blkC N0 sc0 scope own = true) (hv : subN (vs1.map (·.i)) own = true) (hvs : own.map (·.2) = vs.map (·.i)) (hp : subN q.pat.slots own = true) (hp1 : subM q1.pat.slots (vs1.map (·.i)) = true)
    (hg : ∀ (s : Shared) (H : Hp) (C : Addr) (cl : List (Str × Addr)) (fp : List Addr), PG (X.blk s H scope (compEnvC scope cl C X.env) fp) tg (gPat F.K q.pat)) (ht : ∀ (s : Shared) (H : Hp) (C : Addr) (cl : List (Str × Addr)) (fp : List Addr), PTs (X.blk s H scope (compEnvC scope cl C X.env) fp) ifs (TTx F Wb cv dt))
    (hi1 : ∀ (s : Shared) (H : Hp) (C : Addr) (cl : List (Str × Addr)) (fp : List Addr), PI (X.blk s H scope (compEnvC scope cl C X.env) fp) tg1 iter1 (TIx F Wb cv di1))
    (hg1 : ∀ (s : Shared) (H : Hp) (C : Addr) (cl : List (Str × Addr)) (fp : List Addr), PG (X.blk s H scope (compEnvC scope cl C X.env) fp) tg1 (gPat F.K q1.pat)) (ht1 : ∀ (s : Shared) (H : Hp) (C : Addr) (cl : List (Str × Addr)) (fp : List Addr), PTs (X.blk s H scope (compEnvC scope cl C X.env) fp) ifs1 (TTx F Wb cv du))
    (he : ∀ (s : Shared) (H : Hp) (C : Addr) (cl : List (Str × Addr)) (fp : List Addr), PE (X.blk s H scope (compEnvC scope cl C X.env) fp) elt (TEx F Wb cv de)) (hs : ∀ x, foldedSetIterable iter X.env x = pure x := by intro _; rfl) (hs1 : ∀ env x, foldedSetIterable iter1 env x = pure x := by intro _ _; rfl) :
    PE X (.ListComp elt [⟨tg, iter, ifs, 0⟩, ⟨tg1, iter1, ifs1, 0⟩] scope pos) (TEx F W cv (dLc2F di q vs dt di1 q1 vs1 du de)) := by rw [dLc2F_eq, ← hvs]; exact s_lc2 k.calm k.nd hi (blkOk_by (by rw [hN0, hs0]; exact ok)) (subN_of hv) (subN_of hp) (subM_of hp1) hg ht hi1 hg1 ht1 he hs hs1
theorem z_setLc2 {ow : Bool} {A : Acc} {elt iter iter1 : Expr} {ifs ifs1 : List Expr} {scope : Scope} {own : List (Str × Nat)} {N0 : List Str} {sc0 : Scope} {di di1 : DI} {q q1 : PatF} {vs vs1 : List Acc} (k : Ctx X F W) (hx : X.env.scope.names.lookup x = some .local)
    (hsw : swapsWith (.ListComp elt [⟨tg, iter, ifs, 0⟩, ⟨tg1, iter1, ifs1, 0⟩] scope pos) (some (.Name x py)) pt.line X.env = pure true) (hi : PI X tg iter (TIx F W cv di)) (hN0 : X.N = N0) (hs0 : X.env.scope = sc0) (ok : blkC N0 sc0 scope own = true) (hv : subN (vs1.map (·.i)) own = true) (hvs : own.map (·.2) = vs.map (·.i)) (hp : subN q.pat.slots own = true) (hp1 : subM q1.pat.slots (vs1.map (·.i)) = true)
    (hg : ∀ (s : Shared) (H : Hp) (C : Addr) (cl : List (Str × Addr)) (fp : List Addr), PG (X.blk s H scope (compEnvC scope cl C X.env) fp) tg (gPat F.K q.pat)) (ht : ∀ (s : Shared) (H : Hp) (C : Addr) (cl : List (Str × Addr)) (fp : List Addr), PTs (X.blk s H scope (compEnvC scope cl C X.env) fp) ifs (TTx F Wb cv dt))
    (hi1 : ∀ (s : Shared) (H : Hp) (C : Addr) (cl : List (Str × Addr)) (fp : List Addr), PI (X.blk s H scope (compEnvC scope cl C X.env) fp) tg1 iter1 (TIx F Wb cv di1))
    (hg1 : ∀ (s : Shared) (H : Hp) (C : Addr) (cl : List (Str × Addr)) (fp : List Addr), PG (X.blk s H scope (compEnvC scope cl C X.env) fp) tg1 (gPat F.K q1.pat)) (ht1 : ∀ (s : Shared) (H : Hp) (C : Addr) (cl : List (Str × Addr)) (fp : List Addr), PTs (X.blk s H scope (compEnvC scope cl C X.env) fp) ifs1 (TTx F Wb cv du))
    (he : ∀ (s : Shared) (H : Hp) (C : Addr) (cl : List (Str × Addr)) (fp : List Addr), PE (X.blk s H scope (compEnvC scope cl C X.env) fp) elt (TEx F Wb cv de)) (hj : X.N[A.i]? = some x := by rfl) (hs : ∀ x, foldedSetIterable iter X.env x = pure x := by intro _; rfl) (hs1 : ∀ env x, foldedSetIterable iter1 env x = pure x := by intro _ _; rfl) :
    PS X (.Assign [.Name x py] (.ListComp elt [⟨tg, iter, ifs, 0⟩, ⟨tg1, iter1, ifs1, 0⟩] scope pos) pt) (TSx F W cv (dSetR ow A (dLc2F di q vs dt di1 q1 vs1 du de))) := by rw [dSetR_eq, dSetF_eq, dLc2F_eq, ← hvs]; exact s_setLc2 k.calm k.nd hj hx hsw hi (blkOk_by (by rw [hN0, hs0]; exact ok)) (subN_of hv) (subN_of hp) (subM_of hp1) hg ht hi1 hg1 ht1 he hs hs1
end
/-! ### defs -/
section
variable {F : Fm} {cv : Str → Value} {P : Program} {w : World} {mg : Str → Option Value} {base : Heap} {x : Str} {st : Stmt} {N ps : List Str} {k : Nat} {body : DS}
/-- the def as the top has laid it -/
structure DefIn (K : PySem.W.Frag) (mg : Str → Option Value) (x : Str) (st : Stmt) : Prop where
  ex : ∃ f fd, Fun K x x st f fd ∧ mg x = some (.ref f)
theorem ctx_def {qual : Str} {sc : Scope} {f : Addr} {cdv : Value} {A : Around} {outer : List Env} {s : Shared} {H : Hp} {E : XK} (nd : N.Nodup) (hr : Room k (A.deeper (envOfC qual sc s.heap.objs.size f cdv))) :
    Ctx (cxOf (L2.CX P w) P w F.K mg base N qual sc f cdv A outer s H E) F (fun cls d _ H => E cls d H) := ⟨rfl, nd, rfl, takes_of rfl rfl rfl rfl, by
  have := hr.un
  show (A.deeper (envOfC qual sc s.heap.objs.size f cdv)).units + 200 < cLine
  omega⟩
theorem fnD (h : DefIn F.K mg x st) (S : FnScope N ps (defScope st))
    (hbind : ∀ (kV doc pm : Value) (an : Option Addr) (cdv ct : Value) (us : List Value), us.length = ps.length → bindArgs (PySem.W.fnOf x x (defArgs st) (defBody st) (defScope st) .none kV doc pm an cdv ct) ⟨us, []⟩ = pure (ps.zip us))
    (hb : ∀ (f : Addr) (cdv : Value) (A : Around) (outer : List Env) (s : Shared) (H : Hp) (E : XK), Room k (A.deeper (envOfC x (defScope st) s.heap.objs.size f cdv)) →
      Ctx (cxOf (L2.CX P w) P w F.K mg base N x (defScope st) f cdv A outer s H E) F (fun cls d _ H => E cls d H) →
      PassesOwn (model P w) (cxOf (L2.CX P w) P w F.K mg base N x (defScope st) f cdv A outer s H E).A (cxOf (L2.CX P w) P w F.K mg base N x (defScope st) f cdv A outer s H E).env (cxOf (L2.CX P w) P w F.K mg base N x (defScope st) f cdv A outer s H E).xe →
      PSs (cxOf (L2.CX P w) P w F.K mg base N x (defScope st) f cdv A outer s H E) (defBody st) (TSx F (fun cls d _ H => E cls d H) cv body)) : FnD P w mg base F cv (k + 1) x ps (runD N.length body) := by
  obtain ⟨f, fd, h1, h2⟩ := h.ex
  exact ⟨f, fd, okD h1 S fun cdv A outer s H E hr => hb f cdv A outer s H E hr (ctx_def S.nd hr) (passes_of (K := fun e s'' => L2.CX P w outer H s E e s'') rfl), h2, h1.kp, h1.binds hbind⟩
theorem FnD.weak {f g : List D → Out RV} (h : FnD P w mg base F cv k x ps f) (hw : ∀ ds, g ds = .bad ∨ g ds = f ds) : FnD P w mg base F cv k x ps g := by
  obtain ⟨a, fd, h1, h2⟩ := h.ex
  refine ⟨a, fd, h1.imp fun vs H Q E q => ?_, h2⟩
  obtain ⟨q1, O, ds, q2, q3, q4, q5⟩ := q
  refine ⟨q1, O, ds, q2, q3, q4, ?_⟩
  rcases hw ds with z | z
  · rw [z] at q5; exact q5.elim
  · rw [z] at q5; exact q5
theorem bad_body {X : Cx} {W : WX} {ss : List Stmt} : PSs X ss (TSx F W cv fun _ => .bad) := ⟨fun _ _ _ _ _ _ ⟨_, _, _, _, h⟩ => h.elim⟩
theorem locK_of {o : Option NameKind} (h : locK o = true) : o = some .local ∨ o = some .cell := by
  cases o with
  | none => cases h
  | some k => cases k <;> first | exact .inl rfl | exact .inr rfl | (cases h; done)
theorem vis_def {sc : Scope} {y : Str} (h : locK (sc.names.lookup y) = true) : Vis sc y := (locK_of h).elim .inl fun z => .inr (.inl z)
theorem loc_def {sc : Scope} {y : Str} (h : locK (sc.names.lookup y) = true) : Loc sc y := locK_of h
end
end Mini

set_option Elab.async false
set_option linter.all false
set_option maxRecDepth 100000
/-! Mini 20: the end: what the top has laid; the law. -/
namespace Mini
open PySem L2 LamX PySem.Spec PyProof.Rows
/-- the def of the text at st, as the written part has it -/
def DefAt (K : PySem.W.Frag) (x : Str) (st : Stmt) : Prop := ∃ (f : Addr) (oc : Value) (od : Option Addr) (kV doc pm : Value) (an : Option Addr) (cdv ct : Value) (osl : Array (Option Value)),
  PySem.W.nsIn K mainGlobals x = some (some (.ref f)) ∧ K.lookup f = some ⟨oc, od, .func (PySem.W.fnOf x x (defArgs st) (defBody st) (defScope st) .none kV doc pm an cdv ct), osl⟩ ∧ PySem.W.codeIn K cdv x = true ∧ PySem.W.keepIn K (.ref f) = true
theorem DefAt.mk {K : PySem.W.Frag} {x : Str} {st : Stmt} {f : Addr} {oc : Value} {od : Option Addr} {kV doc pm : Value} {an : Option Addr} {cdv ct : Value} {osl : Array (Option Value)} (a : PySem.W.nsIn K mainGlobals x = some (some (.ref f)))
    (l : K.lookup f = some ⟨oc, od, .func (PySem.W.fnOf x x (defArgs st) (defBody st) (defScope st) .none kV doc pm an cdv ct), osl⟩) (c : PySem.W.codeIn K cdv x = true) (k : PySem.W.keepIn K (.ref f) = true) : DefAt K x st := ⟨f, oc, od, kV, doc, pm, an, cdv, ct, osl, a, l, c, k⟩
theorem DefAt.defIn {K : PySem.W.Frag} {h : Heap} {mg : Str → Option Value} {x : Str} {st : Stmt} (d : DefAt K x st) (X : K.In h) (G : h.Ns mainGlobals mg) : DefIn K mg x st := by
  obtain ⟨f, oc, od, kV, doc, pm, an, cdv, ct, osl, h1, h2, h3, h4⟩ := d
  exact ⟨f, _, fun_mk h2 h3 h4, PySem.W.mg_of X G h1⟩
/-- a class of errors, below ValueError -/
def ExcAt (K : PySem.W.Frag) (x : Str) : Prop := ∃ C : Addr, PySem.W.nsIn K mainGlobals x = some (some (.ref C)) ∧ PySem.W.excIn K C [.type "ValueError", .type "Exception", .type "BaseException", .type "object"] "ValueError.__new__" = true ∧ PySem.W.keepIn K (.ref C) = true ∧ PySem.W.subIn K (.ref C) (.type "BaseException") = some true ∧ PySem.W.typeIn K (.ref C) = some (.type "type")
theorem ExcAt.mk {K : PySem.W.Frag} {x : Str} {C : Addr} (a : PySem.W.nsIn K mainGlobals x = some (some (.ref C))) (e : PySem.W.excIn K C [.type "ValueError", .type "Exception", .type "BaseException", .type "object"] "ValueError.__new__" = true) (k : PySem.W.keepIn K (.ref C) = true) (s : PySem.W.subIn K (.ref C) (.type "BaseException") = some true) (t : PySem.W.typeIn K (.ref C) = some (.type "type")) : ExcAt K x := ⟨C, a, e, k, s, t⟩
/-- the value of a class's name -/
def cvOf (mg : Str → Option Value) : Str → Value := fun c => (mg c).getD .none
theorem ExcAt.excD {K : PySem.W.Frag} {h : Heap} {mg : Str → Option Value} {x : Str} (d : ExcAt K x) (X : K.In h) (G : h.Ns mainGlobals mg) : ExcD K mg (cvOf mg) x := by
  obtain ⟨C, h1, h2, h3, h4, h5⟩ := d
  have m := PySem.W.mg_of X G h1
  exact ⟨C, _, _, _, _, by unfold cvOf; rw [m]; rfl, PySem.F.excBase_ValueError, h2, m, h3, h4, h5⟩
def IntIn (K : PySem.W.Frag) (x : Str) (i : Int) : Prop := ∃ t, PySem.W.nsIn K mainGlobals x = some (some (.int i t))
theorem IntIn.mk {K : PySem.W.Frag} {x : Str} {i : Int} {t : Tok} (a : PySem.W.nsIn K mainGlobals x = some (some (.int i t))) : IntIn K x i := ⟨t, a⟩
theorem IntIn.intAt {K : PySem.W.Frag} {h : Heap} {mg : Str → Option Value} {x : Str} {i : Int} (d : IntIn K x i) (X : K.In h) (G : h.Ns mainGlobals mg) : IntAt mg x i := by
  obtain ⟨t, h1⟩ := d
  exact ⟨t, PySem.W.mg_of X G h1⟩
/-- the law's promise -/
def spLaw (K : PySem.W.Frag) : Sp := fun vs H Q _ => ∃ (a : Addr) (ns : List Int), vs = [.ref a] ∧ ns.length ≤ 63 ∧ SqL K H a (ns.map V.int) ∧ ∀ H', Q (.bl true) H'
theorem hide_none (H : Hp) : hide H (fun _ => False) = H := by
  funext b
  unfold hide
  simp
theorem spLaw_imp {F : Fm} {cv : Str → Value} {d : List D → Out RV} (hT : F.T = []) (plain : ∀ ns : List Int, ns.length ≤ 63 → ∃ k, d [.scr ns] = .ok ⟨k, .bl true⟩) (vs : List V) (H : Hp) (Q : VK) (E : XK) (h : spLaw F.K vs H Q E) : spD F cv 1 d vs H Q E := by
  obtain ⟨a, ns, rfl, hl, hs, q⟩ := h
  obtain ⟨k, hk⟩ := plain ns hl
  refine ⟨rfl, fun _ => False, [.scr ns], fun _ z => z.elim, by rw [hT]; exact fun p hp => absurd hp (by simp), .cons (.scr (by rw [hide_none]; exact hs)) .nil, ?_⟩
  rw [hk]
  intro v H' _ r
  have := (r.vw (T := F.T)).bl
  subst this
  exact q H'
/-- the end of a law without tables -/
theorem law_end {F : Fm} {cv : Str → Value} {P : Program} {w : World} {mg : Str → Option Value} {h : Heap} {fa : Addr} {st : Stmt} {N : List Str} {k : Nat} {body : DS} (hT : F.T = []) (X : F.K.In h) (G : h.Ns mainGlobals mg) (hfa : mg "law" = some (.ref fa)) (da : DefAt F.K "law" st) (S : FnScope N ["script"] (defScope st))
    (hbind : ∀ (kV doc pm : Value) (an : Option Addr) (cdv ct : Value) (us : List Value), us.length = 1 → bindArgs (PySem.W.fnOf "law" "law" (defArgs st) (defBody st) (defScope st) .none kV doc pm an cdv ct) ⟨us, []⟩ = pure ((["script"] : List Str).zip us))
    (plain : ∀ ns : List Int, ns.length ≤ 63 → ∃ q, runD N.length body [.scr ns] = .ok ⟨q, .bl true⟩)
    (hb : ∀ (base : Heap) (f : Addr) (cdv : Value) (A : Around) (outer : List Env) (s : Shared) (H : Hp) (E : XK), Room k (A.deeper (envOfC "law" (defScope st) s.heap.objs.size f cdv)) →
      Ctx (cxOf (L2.CX P w) P w F.K mg base N "law" (defScope st) f cdv A outer s H E) F (fun cls d _ H => E cls d H) →
      PassesOwn (model P w) (cxOf (L2.CX P w) P w F.K mg base N "law" (defScope st) f cdv A outer s H E).A (cxOf (L2.CX P w) P w F.K mg base N "law" (defScope st) f cdv A outer s H E).env (cxOf (L2.CX P w) P w F.K mg base N "law" (defScope st) f cdv A outer s H E).xe →
      PSs (cxOf (L2.CX P w) P w F.K mg base N "law" (defScope st) f cdv A outer s H E) (defBody st) (TSx F (fun cls d _ H => E cls d H) cv body)) :
    ∃ fd : FuncData, (∀ (s : Shared) (u : Value), BindsTo s fd ⟨[u], []⟩ [("script", u)]) ∧ ∀ base : Heap, F.K.In base → base.Ns mainGlobals mg → FnOk P w F.K mg base (L2.CX P w) (k + 1) fa fd ["script"] (spLaw F.K) := by
  obtain ⟨f, oc, od, kV, doc, pm, an, cdv, ct, osl, h1, h2, h3, h4⟩ := da
  have e := hfa.symm.trans (PySem.W.mg_of X G h1)
  cases e
  have F1 : Fun F.K "law" "law" st fa _ := fun_mk h2 h3 h4
  refine ⟨_, fun s u => .of_eq (hbind kV doc pm an cdv ct [u] rfl), fun base _ _ => ?_⟩
  exact (okD F1 S fun cdv A outer s H E hr => hb base fa cdv A outer s H E hr (ctx_def S.nd hr) (passes_of (K := fun e s'' => L2.CX P w outer H s E e s'') rfl)).imp (spLaw_imp hT plain)
theorem noCX {P : Program} {w : World} {o : List Env} {H : Hp} {s s' : Shared} {e : Value} (h : L2.CX P w o H s (fun _ _ _ => False) e s') : False := by
  obtain ⟨_, _, _, _, _, _, _, _, _, _, _, _, z⟩ := h
  exact z
end Mini

set_option Elab.async false
set_option linter.all false
set_option maxRecDepth 100000
/-! Mini 21: dicts in slots. -/
namespace Mini
open PySem L2 LamX PySem.Spec PyProof.Rows
/-! ### an empty dict is of either kind -/
section
variable {X : Cx} {pins : List (Addr × Obj)} {σ : L2.St} {H : Hp} {s : Shared} {a : Addr}
theorem inv_toT (I : Inv X pins σ H s) (h : H a = some (.dK [])) : Inv X pins σ (upd H a (.dT [])) s := by
  obtain ⟨z, y, vs, kv, o, es, ep, e1, e2, e3, e4, e5, e6⟩ := I.hok a _ h
  cases kv
  refine I.write (x := a) (e := a) (t' := s.toks) (h' := s.heap) (by rw [h]; exact True.intro) (.inl rfl) (fun b v _ q => q) ⟨o, e1⟩ ?_
  refine ⟨z, y, [], .nil, o, es, ep, e1, e2, e3, ?_, List.nodup_nil⟩
  generalize es.toList = l at e5
  cases e5
  rfl
theorem inv_toK (I : Inv X pins σ H s) (h : H a = some (.dT [])) : Inv X pins σ (upd H a (.dK [])) s := by
  obtain ⟨z, y, xs, kv, o, es, ep, e1, e2, e3, e4, e6⟩ := I.hok a _ h
  cases kv
  have he : es = #[] := by
    apply Array.toList_inj.mp
    rw [e4]
    rfl
  subst he
  refine I.write (x := a) (e := a) (t' := s.toks) (h' := s.heap) (by rw [h]; exact True.intro) (.inl rfl) (fun b v _ q => q) ⟨o, e1⟩ ?_
  refine ⟨z, y, [], .nil, o, #[], ep, e1, e2, e3, ?_, .nil, List.nodup_nil⟩
  intro i hi
  simp at hi
end
/-! ### keys of a dict -/
def tupKeys : D → Option (List Key)
  | .tup ds => dKeys ds
  | _ => none
theorem tupKeys_some {d : D} {ks : List Key} (h : tupKeys d = some ks) : d = .tup (ks.map keyD) := by
  cases d with
  | tup ds => rw [dKeys_some (show dKeys ds = some ks from h)]
  | _ => cases h
/-- keys of one kind: as the first -/
def kindOk (kvs : List (D × D)) (k : D) : Bool := match kvs with
  | [] => (dKey k).isSome || (tupKeys k).isSome
  | (k', _) :: _ => match k' with
    | .tup _ => (tupKeys k).isSome
    | _ => (dKey k).isSome
abbrev tupK (ks : List Key) : D := .tup (ks.map keyD)
theorem keq_tupK (as bs : List Key) : keq (tupK as) (tupK bs) = decide (as = bs) := keqL_keyD as bs
theorem KvOk.kindK {K : PySem.W.Frag} {G : Hp} {r : List (Key × V)} {kvs : List (D × D)} {k : D} (h : KvOk keyD K G r kvs) (hk : kindOk kvs k = true) : (dKey k).isSome = true ∨ (r = [] ∧ kvs = [] ∧ (tupKeys k).isSome = true) := by
  cases h with
  | nil =>
    rcases Bool.or_eq_true_iff.mp hk with z | z
    · exact .inl z
    · exact .inr ⟨rfl, rfl, z⟩
  | cons hv t =>
    rename_i k' _ _ _ _
    cases k' <;> exact .inl hk
theorem KvOk.kindT {K : PySem.W.Frag} {G : Hp} {r : List (List Key × V)} {kvs : List (D × D)} {k : D} (h : KvOk tupK K G r kvs) (hk : kindOk kvs k = true) : (tupKeys k).isSome = true ∨ (r = [] ∧ kvs = [] ∧ (dKey k).isSome = true) := by
  cases h with
  | nil =>
    rcases Bool.or_eq_true_iff.mp hk with z | z
    · exact .inr ⟨rfl, rfl, z⟩
    · exact .inl z
  | cons hv t => exact .inl hk
/-- what a dict holds at a key: an empty one nothing -/
def DGetE (H : Hp) (a : Addr) (y : V) (o : Option V) : Prop := DGet H a y o ∨ (o = none ∧ ((∃ k, H a = some (.dT []) ∧ y = kV k) ∨ ∃ (ks : List Key) (b : Addr), H a = some (.dK []) ∧ y = .ref b ∧ H b = some (.tup (ks.map kV))))
section
variable {K : PySem.W.Frag} {T : List (Addr × Str)}
theorem key_val {H : Hp} {O : Zone} {y : V} {d : D} {k : Key} (v : Vw K H O y d) (e : dKey d = some k) : y = kV k := by
  rw [dKey_some e] at v
  rcases v with ⟨a, _, z⟩ | z
  · cases k <;> exact z.elim
  · exact dp_key z
theorem tup_val {H : Hp} {O : Zone} {y : V} {d : D} {ks : List Key} (v : Vw K H O y d) (e : tupKeys d = some ks) : ∃ b, y = .ref b ∧ H b = some (.tup (ks.map kV)) := by
  rw [tupKeys_some e] at v
  obtain ⟨b, xs, h1, h2, h3⟩ := v.tup
  rw [dp_keys h3] at h2
  exact ⟨b, h1, h2⟩
theorem dgetE {H : Hp} {O : Zone} {x y : V} {kvs : List (D × D)} {d : D} (v : Vw K H O x (.dic kvs)) (w : Vw K H O y d) (hk : kindOk kvs d = true) :
    ∃ a o, x = .ref a ∧ DGetE H a y o ∧ (∀ e, getK d kvs = some e → ∃ z, o = some z ∧ DGet H a y o ∧ Rp K (hide H O) z e) ∧ (getK d kvs = none → o = none) := by
  obtain ⟨a, rfl, h⟩ := v.dic
  rcases h with ⟨r, h1, h2⟩ | ⟨r, h1, h2⟩
  · rcases h2.kindK hk with z | ⟨rfl, rfl, z⟩
    · obtain ⟨k, e⟩ := Option.isSome_iff_exists.mp z
      have hy := key_val w e
      have g : DGet H a y (valV r k) := by rw [hy]; exact DGet.k h1
      have q := h2.get keq_keyD (k := k)
      rw [dKey_some e]
      exact ⟨a, valV r k, rfl, .inl g, fun e h => let ⟨v, g1, g2⟩ := q.1 e h; ⟨v, g1, g, g2⟩, q.2⟩
    · obtain ⟨ks, e⟩ := Option.isSome_iff_exists.mp z
      obtain ⟨b, hy, hb⟩ := tup_val w e
      exact ⟨a, none, rfl, .inr ⟨rfl, .inr ⟨ks, b, h1, hy, hb⟩⟩, fun e h => (by cases h), fun _ => rfl⟩
  · rcases KvOk.kindT h2 hk with z | ⟨rfl, rfl, z⟩
    · obtain ⟨ks, e⟩ := Option.isSome_iff_exists.mp z
      obtain ⟨b, hy, hb⟩ := tup_val w e
      have g : DGet H a y (valV r ks) := by rw [hy]; exact DGet.t h1 hb
      have q := KvOk.get keq_tupK (k := ks) h2
      rw [tupKeys_some e]
      exact ⟨a, valV r ks, rfl, .inl g, fun e h => let ⟨v, g1, g2⟩ := q.1 e h; ⟨v, g1, g, g2⟩, q.2⟩
    · obtain ⟨k, e⟩ := Option.isSome_iff_exists.mp z
      exact ⟨a, none, rfl, .inr ⟨rfl, .inl ⟨k, h1, key_val w e⟩⟩, fun e h => (by cases h), fun _ => rfl⟩
/-! ### k in d, d[k] -/
def rInDic (neg : Bool) : R2 := fun y x H Q => ∃ a o, x = .ref a ∧ DGetE H a y o ∧ Q (.bl (if neg then !o.isSome else o.isSome)) H
theorem upd_back {H : Hp} {a : Addr} {o u : HO} (h : H a = some o) : upd (upd H a u) a o = H := by
  funext b
  by_cases hb : b = a
  · rw [hb, upd_same, h]
  · rw [L2.upd_ne hb, L2.upd_ne hb]
theorem op_inDic {X : Cx} (hu : X.A.units + 1 < cLine) : OpR X (compareOp .In) (rInDic false) := by
  intro pins s σ H y x v u Q I ry rx ⟨a, o, ex, g, q⟩
  subst ex
  obtain rfl : u = Value.ref a := rx
  rcases g with g | ⟨rfl, ⟨k, h1, rfl⟩ | ⟨ks, b, h1, rfl, h2⟩⟩
  · exact d_in hu I g ry fun s3 I3 => ⟨.bl o.isSome, H, I3, rfl, q⟩
  · have I1 := inv_toK I h1
    refine d_in (o := none) hu I1 (DGet.k (kvs := []) upd_same) ry fun s3 I3 => ⟨.bl false, H, ?_, rfl, q⟩
    have I4 := inv_toT I3 upd_same
    rwa [upd_back h1] at I4
  · have I1 := inv_toT I h1
    have hb : upd H a (.dT []) b = some (.tup (ks.map kV)) := by rw [L2.upd_ne (fun z => by rw [z, h1] at h2; cases h2)]; exact h2
    refine d_in (o := none) hu I1 (DGet.t (kvs := []) upd_same hb) ry fun s3 I3 => ⟨.bl false, H, ?_, rfl, q⟩
    have I4 := inv_toK I3 upd_same
    rwa [upd_back h1] at I4
theorem op_notInDic {X : Cx} (hu : X.A.units + 1 < cLine) : OpR X (compareOp .NotIn) (rInDic true) := by
  intro pins s σ H y x v u Q I ry rx ⟨a, o, ex, g, q⟩
  subst ex
  obtain rfl : u = Value.ref a := rx
  rcases g with g | ⟨rfl, ⟨k, h1, rfl⟩ | ⟨ks, b, h1, rfl, h2⟩⟩
  · exact d_notIn hu I g ry fun s3 I3 => ⟨.bl (!o.isSome), H, I3, rfl, q⟩
  · have I1 := inv_toK I h1
    refine d_notIn (o := none) hu I1 (DGet.k (kvs := []) upd_same) ry fun s3 I3 => ⟨.bl true, H, ?_, rfl, q⟩
    have I4 := inv_toT I3 upd_same
    rwa [upd_back h1] at I4
  · have I1 := inv_toT I h1
    have hb : upd H a (.dT []) b = some (.tup (ks.map kV)) := by rw [L2.upd_ne (fun z => by rw [z, h1] at h2; cases h2)]; exact h2
    refine d_notIn (o := none) hu I1 (DGet.t (kvs := []) upd_same hb) ry fun s3 I3 => ⟨.bl true, H, ?_, rfl, q⟩
    have I4 := inv_toK I3 upd_same
    rwa [upd_back h1] at I4
def inDic (neg : Bool) (a b : D) : Option RV := match b with
  | .dic kvs => if kindOk kvs a = true then some (rz (.bl (if neg then !(getK a kvs).isSome else (getK a kvs).isSome))) else none
  | _ => none
theorem sim_inDic {neg : Bool} : OpSim K T (rInDic neg) (inDic neg) := by
  intro O H x y dx dy t Q hd v w q k
  unfold inDic at q
  split at q
  · rename_i kvs
    split at q
    · rename_i hk
      cases q
      obtain ⟨a, o, rfl, g, q1, q2⟩ := dgetE w v hk
      refine ⟨a, o, rfl, g, ?_⟩
      have ho : o.isSome = (getK dx kvs).isSome := by
        cases hg : getK dx kvs with
        | none => rw [q2 hg]; rfl
        | some e => obtain ⟨z, rfl, _⟩ := q1 e hg; rfl
      rw [ho]
      exact k _ H (Ex.refl H) (Rp.bl _)
    · cases q
  · cases q
def inX (neg : Bool) (a b : D) : Option RV := match inD neg a b with
  | some t => some t
  | none => inDic neg a b
def rIxDic : R2 := fun x y H Q => ∃ a v, x = .ref a ∧ DGet H a y (some v) ∧ Q v H
theorem ix_dic {X : Cx} (hu : X.A.units + 1 < cLine) : IxR X rIxDic := by
  intro value slice pins s σ H x y v u Q I rx ry ⟨a, z, ex, g, q⟩ hs
  subst ex
  obtain rfl : v = Value.ref a := rx
  have hT := dict_typeIs I g
  unfold subscriptTail
  refine wpAny_bind ?_
  rw [getitemInPython_of_ne hT.not_modules]
  refine wpAny_bind (wpAny_specialOf hT PySem.F.slot_dict_getitem.lookup ?_)
  have fin : wpAny (model X.prog X.w) X.A (subscripted slice false (.ref a) u) (fun r s₃ => wpAny (model X.prog X.w) X.A (letTemporaryGo value (.ref a) r >>= fun _ => pure r) (EP X pins σ Q) X.xe s₃) X.xe s := by
    rw [hs]
    exact wpAny_operating (d_getItem hu I g ry fun w' s3 I3 rw' => wpAny_bind (wpAny_letTemporaryGo (wpAny_pure ⟨z, H, I3, rw', q⟩)))
  first
    | exact wpAny_pure (wpAny_bind fin)
    | exact wpAny_bind (wpAny_pure (wpAny_bind fin))
    | exact wpAny_bind fin
def ixDic (a b : D) : Option RV := match a with
  | .dic kvs => if kindOk kvs b = true then (match getK b kvs with | some d => some (rz d) | none => none) else none
  | _ => none
theorem sim_ixDic : OpSim K T rIxDic ixDic := by
  intro O H x y dx dy t Q hd v w q k
  unfold ixDic at q
  split at q
  · rename_i kvs
    split at q
    · rename_i hk
      obtain ⟨a, o, rfl, g, q1, q2⟩ := dgetE v w hk
      split at q
      · rename_i d hg
        cases q
        obtain ⟨z, rfl, g', rp⟩ := q1 d hg
        exact ⟨a, z, rfl, g', k _ H (Ex.refl H) rp⟩
      · cases q
    · cases q
  · cases q
def ixX (a b : D) : Option RV := match ixD a b with
  | some t => some t
  | none => ixDic a b
end
end Mini

set_option Elab.async false
set_option linter.all false
set_option maxRecDepth 100000
/-! Mini 22: dicts in slots: stores, displays. -/
namespace Mini
open PySem L2 LamX PySem.Spec PyProof.Rows
def ownDic (st : MSt) (j : Nat) : Option (List (D × D)) := match st[j]? with
  | some (some (.own (.dic kvs))) => some kvs
  | _ => none
theorem ownDic_some {st : MSt} {j : Nat} {kvs : List (D × D)} (h : ownDic st j = some kvs) : st[j]? = some (some (.own (.dic kvs))) := by
  unfold ownDic at h
  split at h
  · cases h; assumption
  · cases h
def forceKV {α : Type} : List (D × D) → (List (D × D) → α) → α
  | [], k => k []
  | (a, b) :: r, k => force1 a fun a => force2 b fun b => forceKV r fun r => k ((a, b) :: r)
theorem forceKV_eq {α : Type} : ∀ (r : List (D × D)) (k : List (D × D) → α), forceKV r k = k r
  | [], k => rfl
  | (a, b) :: r, k => by
    show force1 a (fun a => force2 b fun b => forceKV r fun r => k ((a, b) :: r)) = _
    rw [force1_eq, force2_eq, forceKV_eq r]
def putKD (st : MSt) (j : Nat) (kvs : List (D × D)) (k v : RV) : Out Fl := if (kindOk kvs k.d && v.keep && decide (kvs.length < sizeLine)) = true then
    force1 k.d fun kd => force2 v.d fun vd => .ok (.nx (st.set j (some (.own (.dic (putD kvs kd vd)))))) else .bad
def dDPut (j : Nat) (dk dv : DE) : DS := fun st => match ownDic st j with
  | some kvs => (dv st).bind fun v => (dk st).bind fun k => putKD st j kvs k v
  | none => .bad
section
variable {F : Fm} {M : Dm} {W : WX} {cv : Str → Value} {X : Cx} {e a b c tg : Expr} {s s1 : Stmt} {ss : List Stmt} {pos p : Pos} {Ke : Ends} {σ : L2.St} {H H1 : Hp} {O O1 : Zone} {j : Nat} {x : Str}
theorem ps_re {t : TS} (h : PS X s t) : PS X s (fun Ke σ H => t Ke σ H ∨ ∃ a : Addr, (H a = some (.dK []) ∧ t Ke σ (upd H a (.dT []))) ∨ (H a = some (.dT []) ∧ t Ke σ (upd H a (.dK [])))) := by
  refine ⟨fun pins s σ H Ke I q => ?_⟩
  rcases q with q | ⟨a, ⟨e, q⟩ | ⟨e, q⟩⟩
  · exact h.run pins s σ H Ke I q
  · exact h.run pins s σ _ Ke (inv_toT I e) q
  · exact h.run pins s σ _ Ke (inv_toK I e) q
theorem Rel.ownDic {st : MSt} {kvs : List (D × D)} (R : Rel F M st σ H O) (h : ownDic st j = some kvs) : ∃ a, σ[j]? = some (some (.ref a)) ∧ O a ∧ OwnAt F.K H O a (.dic kvs) := by
  obtain ⟨y, hx, a, rfl, h1, _, _, h4⟩ := R.slot j _ (ownDic_some h)
  exact ⟨a, hx, h1, h4⟩
theorem set_get {st : MSt} {j : Nat} {v : Option SV} (h : st[j]? = some v) : st.set j v = st := by
  apply List.ext_getElem?
  intro i
  by_cases hi : j = i
  · subst hi
    rw [List.getElem?_set_self (by obtain ⟨h, _⟩ := List.getElem?_eq_some_iff.mp h; exact h), h]
  · rw [List.getElem?_set_ne hi]
/-- the store, the dict's kind being the key's -/
theorem put_core {dk dv : DE} {st : MSt} {kvs : List (D × D)} {kd vd : RV} {a : Addr} (R : Rel F M st σ H O) (hs : ownDic st j = some kvs) (hx : σ[j]? = some (some (.ref a))) (hO : O a)
    (hv : dv st = .ok vd) (hk : dk st = .ok kd) (hkeep : vd.keep = true) (hl : kvs.length < sizeLine)
    (at' : (∃ (r : List (Key × V)) (k : Key), H a = some (.dK r) ∧ KvOk keyD F.K (hide H O) r kvs ∧ dKey kd.d = some k) ∨ (∃ (r : List (List Key × V)) (k : List Key), H a = some (.dT r) ∧ KvOk tupK F.K (hide H O) r kvs ∧ tupKeys kd.d = some k))
    (h : FlP F M W cv H O Ke (.ok (.nx (st.set j (some (.own (.dic (putD kvs kd.d vd.d)))))))) : sDPut (tVar j) (TEx F W cv dk) (TEx F W cv dv) Ke σ H := by
  refine ⟨M, st, O, R, ?_⟩
  rw [hv]
  intro v H1 e1 k1
  have R1 := R.ex e1
  refine ⟨.ref a, hx, M, st, O, R1, ?_⟩
  rw [hk]
  intro w H2 e2 k2
  have e12 := e1.trans e2
  have R2 := R.ex e12
  have kv := k2.vw (T := F.T)
  have rv := (k1.ex e2).rp (T := F.T) R.dom hkeep
  rcases at' with ⟨r, k, g1, g2, g3⟩ | ⟨r, k, g1, g2, g3⟩
  · have hw := key_val kv g3
    have ha2 : H2 a = some (.dK r) := e12.ext _ _ g1 fun ps z => nomatch z
    have hlen : r.length < sizeLine := by rw [g2.length]; exact hl
    have q2 := (g2.mono (hide_ex e12)).put keq_keyD (k := k) rv
    rw [← dKey_some g3] at q2
    obtain ⟨R3, s3⟩ := R2.updOwn (d' := .dic (putD kvs kd.d vd.d)) (ownDic_some hs) hx (o := .dK (L2.putK r k v)) rfl (.inl ⟨_, upd_same, q2⟩)
    refine ⟨a, _, rfl, by rw [hw]; exact DPut.k ha2 hlen, h σ _ O R3 ((hide_ex e12).trans s3)⟩
  · obtain ⟨bb, hw, hb⟩ := tup_val kv g3
    have ha2 : H2 a = some (.dT r) := e12.ext _ _ g1 fun ps z => nomatch z
    have hlen : r.length < sizeLine := by rw [KvOk.length g2]; exact hl
    have q2 := KvOk.put keq_tupK (k := k) (g2.mono (hide_ex e12)) rv
    have ek : tupK k = kd.d := (tupKeys_some g3).symm
    rw [ek] at q2
    obtain ⟨R3, s3⟩ := R2.updOwn (d' := .dic (putD kvs kd.d vd.d)) (ownDic_some hs) hx (o := .dT (L2.putK r k v)) rfl (.inr ⟨_, upd_same, q2⟩)
    refine ⟨a, _, rfl, by rw [hw]; exact DPut.t ha2 hb hlen, h σ _ O R3 ((hide_ex e12).trans s3)⟩
theorem t_dput {dk dv : DE} (h : TSx F W cv (dDPut j dk dv) Ke σ H) : sDPut (tVar j) (TEx F W cv dk) (TEx F W cv dv) Ke σ H ∨ ∃ a : Addr, (H a = some (.dK []) ∧ sDPut (tVar j) (TEx F W cv dk) (TEx F W cv dv) Ke σ (upd H a (.dT []))) ∨ (H a = some (.dT []) ∧ sDPut (tVar j) (TEx F W cv dk) (TEx F W cv dv) Ke σ (upd H a (.dK []))) := by
  obtain ⟨M, st, O, R, h⟩ := h
  unfold dDPut at h
  cases q : ownDic st j with
  | none => rw [q] at h; exact h.elim
  | some kvs =>
    rw [q] at h
    obtain ⟨a, hx, hO, ha⟩ := R.ownDic q
    have h : FlP F M W cv H O Ke ((dv st).bind fun v => (dk st).bind fun k => putKD st j kvs k v) := h
    cases qv : dv st with
    | bad => rw [qv] at h; exact h.elim
    | exc c => rw [qv] at h; exact .inl ⟨M, st, O, R, by rw [qv]; exact fun H' e => h σ H' (R.ex0.trans e)⟩
    | ok vd =>
      rw [qv] at h
      have h : FlP F M W cv H O Ke ((dk st).bind fun k => putKD st j kvs k vd) := h
      cases qk : dk st with
      | bad => rw [qk] at h; exact h.elim
      | exc c =>
        rw [qk] at h
        refine .inl ⟨M, st, O, R, ?_⟩
        rw [qv]
        intro v H1 e1 k1
        refine ⟨.ref a, hx, M, st, O, R.ex e1, ?_⟩
        rw [qk]
        exact fun H' e => h σ H' ((R.ex e1).ex0.trans e)
      | ok kd =>
        rw [qk] at h
        have h : FlP F M W cv H O Ke (putKD st j kvs kd vd) := h
        unfold putKD at h
        by_cases hc : (kindOk kvs kd.d && vd.keep && decide (kvs.length < sizeLine)) = true
        · rw [if_pos hc, force1_eq, force2_eq] at h
          simp only [Bool.and_eq_true, decide_eq_true_eq] at hc
          obtain ⟨⟨c1, c2⟩, c3⟩ := hc
          rcases ha with ⟨r, h1, h2⟩ | ⟨r, h1, h2⟩
          · rcases h2.kindK c1 with z | ⟨rfl, rfl, z⟩
            · obtain ⟨k, e⟩ := Option.isSome_iff_exists.mp z
              exact .inl (put_core R q hx hO qv qk c2 c3 (.inl ⟨r, k, h1, h2, e⟩) h)
            · obtain ⟨k, e⟩ := Option.isSome_iff_exists.mp z
              obtain ⟨R2, s2⟩ := R.updOwn (d' := .dic []) (ownDic_some q) hx (o := .dT []) rfl (.inr ⟨[], upd_same, .nil⟩)
              rw [set_get (ownDic_some q)] at R2
              exact .inr ⟨a, .inl ⟨h1, put_core R2 q hx hO qv qk c2 c3 (.inr ⟨[], k, upd_same, .nil, e⟩) (FlP.sub h s2)⟩⟩
          · rcases KvOk.kindT h2 c1 with z | ⟨rfl, rfl, z⟩
            · obtain ⟨k, e⟩ := Option.isSome_iff_exists.mp z
              exact .inl (put_core R q hx hO qv qk c2 c3 (.inr ⟨r, k, h1, h2, e⟩) h)
            · obtain ⟨k, e⟩ := Option.isSome_iff_exists.mp z
              obtain ⟨R2, s2⟩ := R.updOwn (d' := .dic []) (ownDic_some q) hx (o := .dK []) rfl (.inl ⟨[], upd_same, .nil⟩)
              rw [set_get (ownDic_some q)] at R2
              exact .inr ⟨a, .inr ⟨h1, put_core R2 q hx hO qv qk c2 c3 (.inl ⟨[], k, upd_same, .nil, e⟩) (FlP.sub h s2)⟩⟩
        · rw [if_neg hc] at h
          exact h.elim
theorem s_dput {dk dv : DE} {k v : Expr} {pos' : Pos} (hu : X.A.units + 1 < cLine) (hN : X.N[j]? = some x) (hv : Vis X.env.scope x) (hd : (x == ("__debug__" : Str)) = false) (hcd : (x == ("__classdict__" : Str)) = false) (hk : PE X k (TEx F W cv dk)) (hw : PE X v (TEx F W cv dv))
    (hs : swapsWith v (some (.Subscript (.Name x p) k pos')) pos.line X.env = pure false) : PS X (.Assign [.Subscript (.Name x p) k pos'] v pos) (TSx F W cv (dDPut j dk dv)) :=
  ps_w (ps_re (ps_dput hu (pe_var hN hv hd hcd) hk hw hs)) fun D σ H h => t_dput h
/-! ### displays -/
def dDNew : DE := fun _ => .ok ⟨.fr, .dic []⟩
theorem s_dnew : PE X (.Dict [] [] pos) (TEx F W cv dDNew) := by
  refine pe_w pe_dnewK fun σ H Q ⟨M, st, O, R, h⟩ => ?_
  intro p hp
  exact h _ _ (Ex.new hp) ⟨p, rfl, Fresh.of hp, .inl ⟨[], upd_same, .nil⟩⟩
/-- {k: v}, the key a tuple -/
def tDisp1 (tk tv : TE) : TE := fun σ H Q => ∀ q, H q = none → tk σ (upd H q (.dT [])) fun x H1 => tv σ H1 fun y H2 => ∃ (ks : List Key) (b : Addr), H2 q = some (.dT []) ∧ x = .ref b ∧ H2 b = some (.tup (ks.map kV)) ∧ Q (.ref q) (upd H2 q (.dT [(ks, y)]))
theorem pe_disp1 {k v : Expr} {tk tv : TE} (hu : X.A.units + 1 < cLine) (hk : PE X k tk) (hv : PE X v tv) : PE X (.Dict [some k] [v] pos) (tDisp1 tk tv) := by
  refine ⟨fun pins s σ H Q I q => ?_⟩
  have hn := I.hok.fresh (Nat.le_refl s.heap.objs.size)
  have I1 := I.laid (a := s.heap.objs.size) (o := .dT []) (h' := s.heap.push { cls := .type "dict", data := .dict #[] }) (t' := s.toks) (fun _ _ q => Heap.get?_push_of_some _ q) (Nat.le_refl _) (dt_empty s.heap I.big)
  refine wpAny_Dict_any rfl rfl (fun z => nomatch z) (by show 1 ≤ 15; decide) (pairTrees_cons_walk (thn (hk.run pins _ σ _ _ I1 (q _ hn)) fun u s1 ⟨x, H1, I2, rx, q1⟩ => thn (hv.run pins s1 σ H1 _ I2 q1) fun w2 s2 ⟨y, H2, I3, ry, ks, b, g1, g2, g3, q2⟩ => pairTrees_nil_walk ?_))
  subst g2
  obtain rfl : u = Value.ref b := rx
  obtain ⟨z, hd, xs, rel, dd⟩ := dt_of I3.hok g1
  cases rel
  unfold storeAll
  rw [List.forIn_cons]
  refine wpAny_bind (wpAny_bind (wpAny_dictSet_heap (hsz := Nat.zero_le _) (knd := tupleKind (mixKind X.prog X.w)) (show _ < _ by omega) (key_of I3.hok g3) dd fun h' dd' hs => wpAny_pure ?_))
  show wpAny _ _ (forIn [] _ _) _ _ _
  rw [List.forIn_nil]
  refine wpAny_pure ⟨.ref s.heap.objs.size, _, ?_, rfl, q2⟩
  obtain ⟨ob, es, ep, hq, h2, h3, h4, _, h5⟩ := dd'
  refine d_write I3 (by rw [g1]; exact True.intro) hs ⟨ob, hq⟩ ⟨by rw [sizeLine_eq]; show 1 ≤ _; decide, hd, _, ?_, ob, es, ep, hq, h2, h3, h4, h5⟩
  have hne : b ≠ s.heap.objs.size := fun z => by rw [z, g1] at g3; cases g3
  exact .cons ⟨rfl, (L2.upd_ne hne).trans g3, ry⟩ .nil
def dDisp1 (dk dv : DE) : DE := fun st => (dk st).bind fun k => (dv st).bind fun v => if ((tupKeys k.d).isSome && v.keep) = true then .ok ⟨.fr, .dic [(k.d, v.d)]⟩ else .bad
theorem s_disp1 {k v : Expr} {dk dv : DE} (hu : X.A.units + 1 < cLine) (hk : PE X k (TEx F W cv dk)) (hv : PE X v (TEx F W cv dv)) : PE X (.Dict [some k] [v] pos) (TEx F W cv (dDisp1 dk dv)) := by
  refine pe_w (pe_disp1 hu hk hv) fun σ H Q ⟨M, st, O, R, h⟩ => ?_
  intro A hA
  have RA := R.with hA (o := .dT []) rfl
  have exA := Ex.new (T := F.T) (o := .dT []) hA
  refine ⟨_, st, _, RA, (OutP.bind h).mono (fun k _ h x H1 e1 k1 => ?_) fun c _ h H' e => h H' (exA.trans e)⟩
  refine ⟨_, st, _, RA.ex e1, (OutP.bind h).mono (fun v _ h y H2 e2 k2 => ?_) fun c _ h H' e => h H' ((exA.trans e1).trans e)⟩
  obtain ⟨hc, h⟩ := h.ite
  have hc' := Bool.and_eq_true_iff.mp hc
  obtain ⟨ks, e⟩ := Option.isSome_iff_exists.mp hc'.1
  obtain ⟨b, hx, hb⟩ := tup_val ((k1.ex e2).vw (T := F.T)) e
  have hA2 : H2 A = some (.dT []) := (e1.trans e2).ext _ _ upd_same fun ps z => nomatch z
  refine ⟨ks, b, hA2, hx, hb, ?_⟩
  have e02 := (exA.trans e1).trans e2
  have tb := tabs_upd (o := .dT [(ks, y)]) (e02.tabs R.tabs) hA2 rfl
  have e3 : Ex F.T H (upd H2 A (.dT [(ks, y)])) := ⟨fun b u q n => by
    rw [L2.upd_ne (fun z => by rw [z, hA] at q; cases q)]
    exact e02.ext b u q n, fun t => tabs_upd (e02.tabs t) hA2 rfl⟩
  refine h _ _ e3 ⟨A, rfl, Fresh.of hA, .inr ⟨[(ks, y)], upd_same, ?_⟩⟩
  rw [hide_upd (.inr rfl)]
  have rv := k2.rp (T := F.T) (RA.ex e1).dom hc'.2
  have ek : k.d = tupK ks := tupKeys_some e
  rw [ek]
  exact .cons rv .nil
end
end Mini

set_option Elab.async false
set_option linter.all false
set_option maxRecDepth 100000
/-! Mini 23: sorting: tuples with an empty one among them; what is collected first. -/
namespace Mini
open PySem PySem.W PySem.Calls PyProof.Rows PySem.SeqAt
section
variable {prog : Program} {w : World} {A : Around} {E : Value → Shared → Prop} {s : Shared}
theorem tup_lt_call {Q : Value → Shared → Prop} {l b : Addr} {xs ys : Array Value} {e r : Nat → Bool} (hl : s.heap.IsTuple l xs) (hb : s.heap.IsTuple b ys)
    (he : ∀ j (h1 : j < xs.size) (h2 : j < ys.size), EqAt A.in1 s xs[j] ys[j] (e j)) (hr : ∀ j (h1 : j < xs.size) (h2 : j < ys.size), e j = false → RcLt A.in1 s xs[j] ys[j] (r j))
    (h : Q (.bool (firstLt e r (decide (xs.size < ys.size)) (List.range (min xs.size ys.size)))) s) : wpAny (model prog w) A (call (.builtin "tuple.__lt__") [.ref l, .ref b]) Q E s := by
  obtain ⟨⟨cls, dd, data, sl⟩, ho, hc, n, hd⟩ := id hl
  obtain ⟨⟨cls2, dd2, data2, sl2⟩, ho2, hc2, n2, hd2⟩ := id hb
  simp only at hc hd hc2 hd2
  subst hc hd hc2 hd2
  exact call_meets F.slot_tuple_lt ⟨_, ho, rfl⟩ F.entry_tuple_lt (F.args_tuple_lt_2 _ _) (tuple_ltAt l b xs ys n n2 dd dd2 sl sl2 e r) ⟨ho, ho2, he, hr, h⟩
theorem oneLt_tups {f : Bool} {xs ys : List PyData} {a b : Value} {as bs : List Addr} {Q : Bool → Shared → Prop} (ra : Reads s.heap a (.tuple xs) as) (rb : Reads s.heap b (.tuple ys) bs) (h : alike (.tuple xs) (.tuple ys) = true)
    (hu : A.units + min (PyData.tuple xs).depth (PyData.tuple ys).depth < cLine) (hq : Q (dataLt (.tuple xs) (.tuple ys)) s) : wpAny (model prog w) A (oneLt' f a b) Q E s := by
  cases f with
  | false => exact oneLt_alike (fun z => nomatch z) ra rb h (fun z => nomatch z) hu hq
  | true =>
    have hal : alikeAll xs ys = true := by simpa [alike] using h
    cases ra with
    | @tuple l o vs n _ as₁ h1 h2 h3 h4 =>
      cases rb with
      | @tuple l' o' vs' n' _ bs₁ k1 k2 k3 k4 =>
        have n1 : vs.size = xs.length := by simpa using SeqAt.ReadsAll.length _ _ _ h4
        have n2 : vs'.size = ys.length := by simpa using SeqAt.ReadsAll.length _ _ _ k4
        rw [dataLt_tuple, ← firstLt_toks xs ys hal, ← n1, ← n2] at hq
        rw [oneLt'_eq]
        simp only [if_true]
        refine wpAny_bind (wpAny_cRoomFor (room_here hu) ?_)
        refine wpAny_bind (wpAny_callSpecialIfBound?_slot (T := "tuple") ⟨_, h1, h2⟩ F.slot_tuple_lt (tup_lt_call (e := pairEq xs ys) (r := fun j => dataLt (xs.getD j .none) (ys.getD j .none)) ⟨_, h1, h2, _, h3⟩ ⟨_, k1, k2, _, k3⟩ (fun j j1 j2 => ?_) (fun j j1 j2 hj => ?_) ?_))
        · have := eqAt_alikeAll xs ys A.in1 s vs.toList vs'.toList _ _ h4 k4 hal (room_in hu) j (by simpa using j1) (by simpa using j2)
          simpa using this
        · have := rcLt_alikeAll xs ys A.in1 s vs.toList vs'.toList _ _ h4 k4 hal (room_in hu) j (by simpa using j1) (by simpa using j2) hj
          simpa using this
        · exact wpAny_truthy_bool hq
/-- the firsts of tuples -/
def FirstOk (o : Option Value) (d : PyData) : Prop := (d = .tuple [] ∧ o = none) ∨ ((∃ x r, d = .tuple (x :: r)) ∧ o.isSome = true)
theorem firsts_tups {M : Model} : ∀ {vs : List Value} {ds : List PyData}, EachIs (fun v d => ∃ as, Reads s.heap v d as) vs ds → (∀ d ∈ ds, ∃ xs, d = .tuple xs) → ∃ fs : List (Option Value), EachIs FirstOk fs ds ∧ ∀ {Q : List (Option Value) → Shared → Prop}, Q fs s → wpAny M A (vs.mapM firstOfTuple') Q E s
  | _, _, .nil, _ => ⟨[], .nil, fun h => by rw [List.mapM_nil]; exact wpAny_pure h⟩
  | _, _, .cons (a := v) (as := vs) (b := d) ⟨as, r⟩ t, ht => by
    obtain ⟨fs, h1, h2⟩ := firsts_tups (M := M) t fun d hd => ht d (List.mem_cons_of_mem _ hd)
    obtain ⟨xs, rfl⟩ := ht d (List.mem_cons_self ..)
    cases r with
    | @tuple a o its n _ _ ho hc hd hr =>
      refine ⟨its[0]? :: fs, .cons ?_ h1, fun {Q} h => ?_⟩
      · have hl : its.toList.length = xs.length := SeqAt.ReadsAll.length _ _ _ hr
        cases xs with
        | nil =>
          refine .inl ⟨rfl, ?_⟩
          rw [← Array.getElem?_toList]
          exact List.getElem?_eq_none (by rw [hl]; exact Nat.zero_le _)
        | cons x r =>
          refine .inr ⟨⟨x, r, rfl⟩, ?_⟩
          rw [← Array.getElem?_toList, List.getElem?_eq_getElem (by rw [hl, List.length_cons]; exact Nat.succ_pos _)]
          rfl
      · rw [List.mapM_cons]
        refine wpAny_bind ?_
        rw [kas_first_eq]
        refine wpAny_bind (Looks.here (show Looks M s.heap (typeOf (.ref a)) o.cls from (Looks.ld ho).andThen .now) ?_)
        rw [hc, if_neg (by first | decide | simp)]
        refine wpAny_bind (listItems_at ho hd (wpAny_pure ?_))
        exact wpAny_bind (h2 (Q := fun bs s' => wpAny M A (pure (its[0]? :: bs)) Q E s') (wpAny_pure h))
theorem first_all {fs : List (Option Value)} {ds : List PyData} (h : EachIs FirstOk fs ds) (he : PyData.tuple [] ∈ ds) : fs.all (fun x => x.isSome) = false := by
  induction h with
  | nil => cases he
  | @cons o d os ds' h t ih =>
    rw [List.all_cons]
    rcases List.mem_cons.mp he with z | z
    · rcases h with ⟨_, h⟩ | ⟨⟨x, r, h⟩, _⟩
      · rw [h]; rfl
      · rw [← z] at h; cases h
    · rw [ih z, Bool.and_false]
/-- how tuples are compared, an empty one among them -/
def kindE : List PyData → SortKind
  | .tuple (_ :: _) :: _ => general'
  | _ => oneType'
theorem sorts_tups {vs : List Value} {ds : List PyData} (e : EachIs (fun v d => ∃ as, Reads s.heap v d as) vs ds) (hal : AllAlike ds) (ht : ∀ d ∈ ds, ∃ xs, d = .tuple xs) (he : PyData.tuple [] ∈ ds) (hu : ∀ d, d ∈ ds → A.units + d.depth < cLine) : SortsAt prog w A s (dataKind s.heap ds) vs := by
  have room : ∀ {d d' : PyData}, d ∈ ds → A.units + min d.depth d'.depth < cLine := fun {d d'} hd => Nat.lt_of_le_of_lt (Nat.add_le_add_left (Nat.min_le_left _ _) _) (hu d hd)
  refine ⟨fun v hv => ?_, kindE ds, ?_, fun h2 E Q hq => ?_⟩
  · obtain ⟨d, hd, as, r⟩ := e.left v hv
    exact ⟨_, dataKind_some hal hd r⟩
  · intro E x y a b Q ha hb hq
    obtain ⟨d, as, hd, ra, rfl⟩ := dataKind_inv ha
    obtain ⟨d', as', hd', rb, rfl⟩ := dataKind_inv hb
    obtain ⟨xs, rfl⟩ := ht d hd
    obtain ⟨ys, rfl⟩ := ht d' hd'
    have key : ∀ f, wpAny (model prog w) A (oneLt' f x y) Q E s := fun f => oneLt_tups ra rb (hal _ hd _ hd') (room hd) hq
    have kd : kindE ds = general' ∨ kindE ds = oneType' := by
      unfold kindE
      split
      · exact .inl rfl
      · exact .inr rfl
    rcases kd with z | z
    · rw [z]; exact key false
    · rw [z]; exact key true
  · rw [kat_kind_eq, List.mapM_toArray, map_eq_pure_bind]
    obtain ⟨fs, h1, h3⟩ := firsts_tups (M := model prog w) (A := A) (E := E) e ht
    refine wpAny_bind (wpAny_bind (h3 (wpAny_pure ?_)))
    have hall : (fs.toArray.all fun x => x.isSome) = false := by rw [List.all_toArray]; exact first_all h1 he
    rw [if_neg (by rw [hall]; exact Bool.false_ne_true)]
    cases h1 with
    | nil => cases he
    | @cons o d os ds' g t =>
      have e0 : ((o :: os).toArray[0]?.bind id) = o := by simp
      rw [e0]
      rcases g with ⟨rfl, rfl⟩ | ⟨⟨x, r, rfl⟩, g⟩
      · rw [if_neg (by simp), oneTypeOnly'_eq, List.mapM_toArray, map_eq_pure_bind]
        refine wpAny_bind (wpAny_bind (wpAny_bind (kas_mapM (r := Value.type "tuple") _ (fun v hv Q' hq => ?_) (wpAny_pure ?_))))
        · obtain ⟨d, hd, as, r⟩ := e.left v hv
          obtain ⟨xs, rfl⟩ := ht d hd
          exact (looks_reads r).here hq
        · have hl : 0 < vs.length := by omega
          obtain ⟨v, vr, rfl⟩ : ∃ v vr, vs = v :: vr := by
            match vs, hl with
            | v :: vr, _ => exact ⟨v, vr, rfl⟩
          have hall2 : ((List.map (fun _ => Value.type "tuple") (v :: vr)).toArray.all fun x => x == Value.type "tuple") = true := by
            simp only [List.all_toArray, List.all_map, List.all_eq_true]
            intro _ _
            exact beq_self_eq_true _
          have h0 : (List.map (fun _ => Value.type "tuple") (v :: vr)).toArray[0]? = some (Value.type "tuple") := by simp
          rw [h0]
          simp only [hall2, if_true]
          exact wpAny_pure (wpAny_pure hq)
      · rw [if_pos g]
        exact wpAny_pure hq
/-- data that can be sorted -/
def SortE (ds : List PyData) : Prop := Sortable ds ∨ ((∀ d ∈ ds, ∃ xs, d = .tuple xs) ∧ PyData.tuple [] ∈ ds)
theorem sorts_data {vs : List Value} {ds : List PyData} (e : EachIs (fun v d => ∃ as, Reads s.heap v d as) vs ds) (hal : AllAlike ds) (hk : SortE ds) (hu : ∀ d, d ∈ ds → A.units + d.depth < cLine) : SortsAt prog w A s (dataKind s.heap ds) vs :=
  hk.elim (fun k => SortsAt.data e hal k hu) fun k => sorts_tups e hal k.1 k.2 hu
/-- what a thing gives, collected -/
def Collects (prog : Program) (w : World) (A : Around) (s : Shared) (r : Value) (P : List Value → Prop) : Prop :=
  ∀ (E : Value → Shared → Prop) (R : List Value → Shared → Prop), (∀ (h' : Heap) (tk : Nat) (vs : List Value), (∀ b o, s.heap.get? b = some o → h'.get? b = some o) → P vs → R vs { s with heap := h', toks := tk }) → wpAny (model prog w) A (collect r) R E s
theorem collects_seq {l : Addr} {T : String} {o : Obj} {items : Array Value} {n : Nat} (hT : T = "list" ∨ T = "tuple") (ho : s.heap.get? l = some o) (hc : o.cls = .type T) (hd : o.data = .seq items n) (hsz : items.size ≤ sizeLine) : Collects prog w A s (.ref l) (fun vs => vs = items.toList) :=
  fun E R h => wpAny_collect_seq l hT ho hc hd (fun h' k => h h' s.toks _ k rfl) hsz
theorem sorted_gen {β : Type} {bs : List β} {enc : β → PyData} {R : Value → β → Prop} {r : Value} {P : List Value → Prop} {Q : Value → Shared → Prop} (hc : Collects prog w A.in1 s r P) (hP : ∀ vs, P vs → EachIs R vs bs ∧ EachIs (fun v b => ∃ as, Reads s.heap v (enc b) as) vs bs)
    (hal : AllAlike (bs.map enc)) (hk : SortE (bs.map enc)) (hL : bs.length ≤ sizeLine) (hu : ∀ b, b ∈ bs → A.units + 2 + (enc b).depth < cLine)
    (h : ∀ (h1 h' : Heap) (tk : Nat) (d : Addr) (out : List Value) (n : Nat), (∀ b o, s.heap.get? b = some o → h1.get? b = some o) → (∀ b o, h1.get? b = some o → h'.get? b = some o) → h1.objs.size ≤ d → h'.get? d = some (seqObj "list" out.toArray n) → out.length = bs.length → EachIs R out (bs.mergeSort (dataLe false enc)) → Q (.ref d) { s with heap := h', toks := tk }) :
    wpAny (model prog w) A (call (.builtin "sorted") [r]) Q E s := by
  refine call_function_entry kind_sorted plain_sorted entry_sorted (args_sorted1 _) ?_
  unfold Builtin.«sorted»
  refine wpAny_bind (m := checkCount "sorted" 1 1 _) (wpAny_pure ?_)
  refine wpAny_bind (hc _ _ fun h1 tk vs k1 hp => ?_)
  obtain ⟨e, er⟩ := hP vs hp
  have hl : vs.length ≤ sizeLine := by rw [e.length]; exact hL
  refine wpAny_bind (wpAny_newList ?_ hl)
  have hoL : (h1.push (seqObj "list" vs.toArray 0)).get? h1.objs.size = some (seqObj "list" vs.toArray 0) := Heap.get?_push_size _ rfl
  have k2 : ∀ b o, s.heap.get? b = some o → b ≠ h1.objs.size ∧ (h1.push (seqObj "list" vs.toArray 0)).get? b = some o := fun b o q => ⟨Nat.ne_of_lt (Heap.lt_size (k1 b o q)), Heap.get?_push_of_some _ (k1 b o q)⟩
  have er' : EachIs (fun v b => ∃ as, Reads (sortingHeap (h1.push (seqObj "list" vs.toArray 0)) h1.objs.size vs) v (enc b) as) vs bs := er.mono fun _ _ ⟨as, q⟩ => ⟨as, PyProof.Rows.Reads.keeps (fun b o q => sortingHeap_old (k2 b o q).1 (k2 b o q).2) q⟩
  have S := sorts_data (prog := prog) (w := w) (A := A.in1.in1) (s := { s with heap := sortingHeap (h1.push (seqObj "list" vs.toArray 0)) h1.objs.size vs, toks := tk }) (each_map (R := fun v d => ∃ as, Reads (sortingHeap (h1.push (seqObj "list" vs.toArray 0)) h1.objs.size vs) v d as) enc er') hal hk (bound_map hu)
  refine wpAny_bind (wpAny_holding (wpAny_call_entry slot_list_sort ⟨_, hoL, rfl⟩ entry_list_sort (list_sort_vals hoL S hl ⟨_, rfl, ?_⟩) (args_list_sort _)))
  obtain ⟨n, hn⟩ := sortedHeap_at (out := (sortVals (dataKind (sortingHeap (h1.push (seqObj "list" vs.toArray 0)) h1.objs.size vs) (bs.map enc)) false vs vs).toArray) hoL
  refine wpAny_pure ⟨_, rfl, h h1 _ _ _ _ n k1 (fun b o q => ?_) (Nat.le_refl _) hn (by rw [sortVals_length false rfl]; exact e.length) (sortVals_data false e er' hal)⟩
  have hb := Heap.lt_size q
  have q' := Heap.get?_push_of_some (seqObj "list" vs.toArray 0) q
  rw [sortedHeap_old (Nat.ne_of_lt hb) (Heap.lt_size q')]
  exact q'
end
end Mini

set_option Elab.async false
set_option linter.all false
set_option maxRecDepth 100000
/-! Mini 24: sorted. -/
namespace Mini
open PySem L2 LamX PySem.Spec PyProof.Rows PySem.W
/-! ### insertion -/
def insB {α : Type} (le : α → α → Bool) (a : α) : List α → List α
  | [] => [a]
  | b :: r => if le a b = true then a :: b :: r else b :: insB le a r
def isortB {α : Type} (le : α → α → Bool) : List α → List α
  | [] => []
  | a :: r => insB le a (isortB le r)
theorem insB_at {α : Type} {le : α → α → Bool} {a : α} {l2 : List α} (h2 : ∀ b, b ∈ l2 → le a b = true) : ∀ {l1 : List α}, (∀ b, b ∈ l1 → (!le a b) = true) → insB le a (l1 ++ l2) = l1 ++ a :: l2
  | [], _ => by
    cases l2 with
    | nil => rfl
    | cons c r =>
      show (if le a c = true then a :: c :: r else c :: insB le a r) = _
      rw [if_pos (h2 c (List.mem_cons_self ..))]
      rfl
  | b :: l1, h => by
    have hb : le a b = false := by simpa using h b (List.mem_cons_self ..)
    show (if le a b = true then _ else b :: insB le a (l1 ++ l2)) = _
    rw [if_neg (by rw [hb]; exact Bool.false_ne_true), insB_at h2 fun c hc => h c (List.mem_cons_of_mem _ hc)]
    rfl
theorem isortB_eq {α : Type} {le : α → α → Bool} (trans : ∀ a b c : α, le a b = true → le b c = true → le a c = true) (total : ∀ a b : α, (le a b || le b a) = true) : ∀ l : List α, l.mergeSort le = isortB le l
  | [] => by simp [isortB]
  | a :: l => by
    obtain ⟨l1, l2, h1, h2, h3⟩ := List.mergeSort_cons trans total a l
    have hs := List.pairwise_mergeSort trans total (a :: l)
    rw [h1] at hs
    rw [h1]
    show _ = insB le a (isortB le l)
    rw [← isortB_eq trans total l, h2]
    exact (insB_at (fun b hb => (List.pairwise_cons.mp (List.pairwise_append.mp hs).2.1).1 b hb) h3).symm
theorem insB_mem {α : Type} {le : α → α → Bool} {a x : α} : ∀ {l : List α}, x ∈ insB le a l → x = a ∨ x ∈ l
  | [], h => .inl (List.mem_singleton.mp h)
  | b :: r, h => by
    unfold insB at h
    split at h
    · exact List.mem_cons.mp h
    · rcases List.mem_cons.mp h with h | h
      · exact .inr (by rw [h]; exact List.mem_cons_self ..)
      · exact (insB_mem h).imp id (List.mem_cons_of_mem _)
theorem isortB_mem {α : Type} {le : α → α → Bool} {x : α} : ∀ {l : List α}, x ∈ isortB le l → x ∈ l
  | [], h => h
  | a :: r, h => by
    rcases insB_mem h with h | h
    · rw [h]; exact List.mem_cons_self ..
    · exact List.mem_cons_of_mem _ (isortB_mem h)
theorem insB_congr {α : Type} {le le' : α → α → Bool} {a : α} : ∀ {l : List α}, (∀ b, b ∈ l → le a b = le' a b) → insB le a l = insB le' a l
  | [], _ => rfl
  | b :: r, h => by
    show (if le a b = true then a :: b :: r else b :: insB le a r) = (if le' a b = true then a :: b :: r else b :: insB le' a r)
    rw [h b (List.mem_cons_self ..), insB_congr fun c hc => h c (List.mem_cons_of_mem _ hc)]
theorem isortB_congr {α : Type} {le le' : α → α → Bool} : ∀ {l : List α}, (∀ a, a ∈ l → ∀ b, b ∈ l → le a b = le' a b) → isortB le l = isortB le' l
  | [], _ => rfl
  | a :: r, h => by
    show insB le a (isortB le r) = insB le' a (isortB le' r)
    rw [isortB_congr fun x hx y hy => h x (List.mem_cons_of_mem _ hx) y (List.mem_cons_of_mem _ hy)]
    exact insB_congr fun b hb => h a (List.mem_cons_self ..) b (List.mem_cons_of_mem _ (isortB_mem hb))
/-! ### data of one shape -/
structure Homog (c : D → Bool) (eq lt : D → D → Bool) : Prop where
  al : ∀ d e, c d = true → c e = true → alike d.py e.py = true
  eq : ∀ d e, c d = true → c e = true → PyData.eqv d.py e.py = eq d e
  lt : ∀ d e, c d = true → c e = true → dataLt d.py e.py = lt d e
def isI : D → Bool
  | .int _ => true
  | _ => false
def eqI : D → D → Bool
  | .int a, .int b => decide (a = b)
  | _, _ => false
def ltI : D → D → Bool
  | .int a, .int b => decide (a < b)
  | _, _ => false
theorem isI_of {d : D} (h : isI d = true) : ∃ i, d = .int i := by cases d <;> first | exact ⟨_, rfl⟩ | cases h
theorem homog_int : Homog isI eqI ltI := by
  refine ⟨fun d e h h' => ?_, fun d e h h' => ?_, fun d e h h' => ?_⟩
  · obtain ⟨i, rfl⟩ := isI_of h
    obtain ⟨j, rfl⟩ := isI_of h'
    simp [D.py, alike]
  · obtain ⟨i, rfl⟩ := isI_of h
    obtain ⟨j, rfl⟩ := isI_of h'
    simp [D.py, PyData.eqv, eqI]
    rfl
  · obtain ⟨i, rfl⟩ := isI_of h
    obtain ⟨j, rfl⟩ := isI_of h'
    exact dataLt_int i j
def isS : D → Bool
  | .str _ => true
  | _ => false
def eqSt : D → D → Bool
  | .str a, .str b => a == b
  | _, _ => false
def ltSt : D → D → Bool
  | .str a, .str b => decide (a.cps.toList < b.cps.toList)
  | _, _ => false
theorem isS_of {d : D} (h : isS d = true) : ∃ i, d = .str i := by cases d <;> first | exact ⟨_, rfl⟩ | cases h
theorem homog_str : Homog isS eqSt ltSt := by
  refine ⟨fun d e h h' => ?_, fun d e h h' => ?_, fun d e h h' => ?_⟩
  · obtain ⟨i, rfl⟩ := isS_of h
    obtain ⟨j, rfl⟩ := isS_of h'
    simp [D.py, alike]
  · obtain ⟨i, rfl⟩ := isS_of h
    obtain ⟨j, rfl⟩ := isS_of h'
    simp [D.py, PyData.eqv, eqSt]
  · obtain ⟨i, rfl⟩ := isS_of h
    obtain ⟨j, rfl⟩ := isS_of h'
    exact dataLt_str i j
def allB (c : D → Bool) : List D → Bool
  | [] => true
  | d :: ds => c d && allB c ds
def eqA (eq : D → D → Bool) : List D → List D → Bool
  | [], [] => true
  | a :: as, b :: bs => eq a b && eqA eq as bs
  | _, _ => false
def ltA (eq lt : D → D → Bool) : List D → List D → Bool
  | [], [] => false
  | [], _ :: _ => true
  | _ :: _, [] => false
  | a :: as, b :: bs => if eq a b = true then ltA eq lt as bs else lt a b
def manyT (c : D → Bool) : D → Bool
  | .tup ds => allB c ds
  | _ => false
def eqT (eq : D → D → Bool) : D → D → Bool
  | .tup as, .tup bs => eqA eq as bs
  | _, _ => false
def ltT (eq lt : D → D → Bool) : D → D → Bool
  | .tup as, .tup bs => ltA eq lt as bs
  | _, _ => false
theorem manyT_of {c : D → Bool} {d : D} (h : manyT c d = true) : ∃ ds, d = .tup ds ∧ allB c ds = true := by cases d <;> first | exact ⟨_, rfl, h⟩ | cases h
theorem homog_all {c : D → Bool} {eq lt : D → D → Bool} (h : Homog c eq lt) : ∀ as bs : List D, allB c as = true → allB c bs = true →
    alikeAll (D.pyAll as) (D.pyAll bs) = true ∧ PyData.eqvAll (D.pyAll as) (D.pyAll bs) = eqA eq as bs ∧ PyProof.Rows.lexLt itemOrd (keyToksAll (D.pyAll as)) (keyToksAll (D.pyAll bs)) = ltA eq lt as bs
  | [], [], _, _ => ⟨by simp [D.pyAll, alikeAll], by simp [D.pyAll, PyData.eqvAll, eqA], by simp [D.pyAll, keyToksAll, ltA, lex_irrefl]⟩
  | [], b :: bs, _, _ => ⟨by simp [D.pyAll, alikeAll], by simp [D.pyAll, PyData.eqvAll, eqA], by
      simp only [D.pyAll, keyToksAll, ltA]
      rfl⟩
  | a :: as, [], _, _ => ⟨by simp [D.pyAll, alikeAll], by simp [D.pyAll, PyData.eqvAll, eqA], by
      simp only [D.pyAll, keyToksAll, ltA]
      rfl⟩
  | a :: as, b :: bs, h1, h2 => by
    have h1' := Bool.and_eq_true_iff.mp h1
    have h2' := Bool.and_eq_true_iff.mp h2
    obtain ⟨q1, q2, q3⟩ := homog_all h as bs h1'.2 h2'.2
    have al := h.al a b h1'.1 h2'.1
    have he := h.eq a b h1'.1 h2'.1
    refine ⟨?_, ?_, ?_⟩
    · show alikeAll (a.py :: D.pyAll as) (b.py :: D.pyAll bs) = true
      rw [alikeAll, al, q1]
      rfl
    · show PyData.eqvAll (a.py :: D.pyAll as) (b.py :: D.pyAll bs) = (eq a b && eqA eq as bs)
      rw [PyData.eqvAll, he, q2]
    · show PyProof.Rows.lexLt itemOrd (keyToksAll (a.py :: D.pyAll as)) (keyToksAll (b.py :: D.pyAll bs)) = (if eq a b = true then ltA eq lt as bs else lt a b)
      cases q : eq a b with
      | true => rw [dataLt_all_yes al (he.trans q), q3]; rfl
      | false => rw [dataLt_all_no al (he.trans q), h.lt a b h1'.1 h2'.1]; rfl
theorem homog_many {c : D → Bool} {eq lt : D → D → Bool} (h : Homog c eq lt) : Homog (manyT c) (eqT eq) (ltT eq lt) := by
  refine ⟨fun d e g g' => ?_, fun d e g g' => ?_, fun d e g g' => ?_⟩
  · obtain ⟨as, rfl, g⟩ := manyT_of g
    obtain ⟨bs, rfl, g'⟩ := manyT_of g'
    show alike (.tuple (D.pyAll as)) (.tuple (D.pyAll bs)) = true
    rw [alike]
    exact (homog_all h as bs g g').1
  · obtain ⟨as, rfl, g⟩ := manyT_of g
    obtain ⟨bs, rfl, g'⟩ := manyT_of g'
    show PyData.eqv (.tuple (D.pyAll as)) (.tuple (D.pyAll bs)) = _
    rw [PyData.eqv]
    exact (homog_all h as bs g g').2.1
  · obtain ⟨as, rfl, g⟩ := manyT_of g
    obtain ⟨bs, rfl, g'⟩ := manyT_of g'
    show dataLt (.tuple (D.pyAll as)) (.tuple (D.pyAll bs)) = _
    rw [dataLt_tuple]
    exact (homog_all h as bs g g').2.2
/-- rows of a length: each place of its own shape -/
structure Shp where
  c : D → Bool
  eq : D → D → Bool
  lt : D → D → Bool
def rowA : List Shp → List D → Bool
  | [], [] => true
  | s :: ss, d :: ds => s.c d && rowA ss ds
  | _, _ => false
def eqRow : List Shp → List D → List D → Bool
  | s :: ss, a :: as, b :: bs => s.eq a b && eqRow ss as bs
  | _, _, _ => true
def ltRow : List Shp → List D → List D → Bool
  | s :: ss, a :: as, b :: bs => if s.eq a b = true then ltRow ss as bs else s.lt a b
  | _, _, _ => false
theorem homog_rowA : ∀ (ss : List Shp) (as bs : List D), (∀ s ∈ ss, Homog s.c s.eq s.lt) → rowA ss as = true → rowA ss bs = true →
    alikeAll (D.pyAll as) (D.pyAll bs) = true ∧ PyData.eqvAll (D.pyAll as) (D.pyAll bs) = eqRow ss as bs ∧ PyProof.Rows.lexLt itemOrd (keyToksAll (D.pyAll as)) (keyToksAll (D.pyAll bs)) = ltRow ss as bs
  | [], [], [], _, _, _ => ⟨by simp [D.pyAll, alikeAll], by simp [D.pyAll, PyData.eqvAll, eqRow], by simp [D.pyAll, keyToksAll, ltRow, lex_irrefl]⟩
  | [], _ :: _, _, _, h, _ => by cases h
  | [], [], _ :: _, _, _, h => by cases h
  | _ :: _, [], _, _, h, _ => by cases h
  | _ :: _, _ :: _, [], _, _, h => by cases h
  | s :: ss, a :: as, b :: bs, hh, h1, h2 => by
    have h1' := Bool.and_eq_true_iff.mp h1
    have h2' := Bool.and_eq_true_iff.mp h2
    have h := hh s (List.mem_cons_self ..)
    obtain ⟨q1, q2, q3⟩ := homog_rowA ss as bs (fun s hs => hh s (List.mem_cons_of_mem _ hs)) h1'.2 h2'.2
    have al := h.al a b h1'.1 h2'.1
    have he := h.eq a b h1'.1 h2'.1
    refine ⟨?_, ?_, ?_⟩
    · show alikeAll (a.py :: D.pyAll as) (b.py :: D.pyAll bs) = true
      rw [alikeAll, al, q1]
      rfl
    · show PyData.eqvAll (a.py :: D.pyAll as) (b.py :: D.pyAll bs) = (s.eq a b && eqRow ss as bs)
      rw [PyData.eqvAll, he, q2]
    · show PyProof.Rows.lexLt itemOrd (keyToksAll (a.py :: D.pyAll as)) (keyToksAll (b.py :: D.pyAll bs)) = (if s.eq a b = true then ltRow ss as bs else s.lt a b)
      cases q : s.eq a b with
      | true => rw [dataLt_all_yes al (he.trans q), q3]; rfl
      | false => rw [dataLt_all_no al (he.trans q), h.lt a b h1'.1 h2'.1]; rfl
def rowT (ss : List Shp) : D → Bool
  | .tup ds => rowA ss ds
  | _ => false
def eqRT (ss : List Shp) : D → D → Bool
  | .tup as, .tup bs => eqRow ss as bs
  | _, _ => false
def ltRT (ss : List Shp) : D → D → Bool
  | .tup as, .tup bs => ltRow ss as bs
  | _, _ => false
theorem rowT_of {ss : List Shp} {d : D} (h : rowT ss d = true) : ∃ ds, d = .tup ds ∧ rowA ss ds = true := by cases d <;> first | exact ⟨_, rfl, h⟩ | cases h
theorem homog_row {ss : List Shp} (h : ∀ s ∈ ss, Homog s.c s.eq s.lt) : Homog (rowT ss) (eqRT ss) (ltRT ss) := by
  refine ⟨fun d e g g' => ?_, fun d e g g' => ?_, fun d e g g' => ?_⟩
  · obtain ⟨as, rfl, g⟩ := rowT_of g
    obtain ⟨bs, rfl, g'⟩ := rowT_of g'
    show alike (.tuple (D.pyAll as)) (.tuple (D.pyAll bs)) = true
    rw [alike]
    exact (homog_rowA ss as bs h g g').1
  · obtain ⟨as, rfl, g⟩ := rowT_of g
    obtain ⟨bs, rfl, g'⟩ := rowT_of g'
    show PyData.eqv (.tuple (D.pyAll as)) (.tuple (D.pyAll bs)) = _
    rw [PyData.eqv]
    exact (homog_rowA ss as bs h g g').2.1
  · obtain ⟨as, rfl, g⟩ := rowT_of g
    obtain ⟨bs, rfl, g'⟩ := rowT_of g'
    show dataLt (.tuple (D.pyAll as)) (.tuple (D.pyAll bs)) = _
    rw [dataLt_tuple]
    exact (homog_rowA ss as bs h g g').2.2
/-! ### sorted -/
theorem le_trans' : ∀ a b c : D, dataLe false D.py a b = true → dataLe false D.py b c = true → dataLe false D.py a c = true := fun a b c h h' => (sortLe_total (listOrd itemOrd) false (fun b : D => keyToks b.py)).trans a b c h h'
theorem le_total' : ∀ a b : D, (dataLe false D.py a b || dataLe false D.py b a) = true := fun a b => (Bool.or_eq_true _ _).mpr ((sortLe_total (listOrd itemOrd) false (fun b : D => keyToks b.py)).total a b)
def leOf (lt : D → D → Bool) (a b : D) : Bool := !lt b a
theorem Homog.sort {c : D → Bool} {eq lt : D → D → Bool} (h : Homog c eq lt) {ds : List D} (ha : allB c ds = true) : ds.mergeSort (dataLe false D.py) = isortB (leOf lt) ds := by
  rw [isortB_eq le_trans' le_total']
  have mem : ∀ {l : List D}, allB c l = true → ∀ a, a ∈ l → c a = true := by
    intro l
    induction l with
    | nil => intro _ a h; cases h
    | cons x l ih =>
      intro h a hm
      have h' := Bool.and_eq_true_iff.mp h
      rcases List.mem_cons.mp hm with e | e
      · rw [e]; exact h'.1
      · exact ih h'.2 a e
  exact isortB_congr fun a hm b hm' => by
    show (!dataLt b.py a.py) = !lt b a
    rw [h.lt b a (mem ha b hm') (mem ha a hm)]
end Mini

set_option Elab.async false
set_option linter.all false
set_option maxRecDepth 100000
/-! Mini 25: sorted, by values. -/
namespace Mini
open PySem L2 LamX PySem.Spec PyProof.Rows PySem.W
/-- what a value gives when it is collected -/
def Gives (K : PySem.W.Frag) (H : Hp) (a : Addr) (vs : List V) : Prop := SqL K H a vs ∨ SqT K H a vs ∨ ∃ (kvs : List (List Key × V)) (ad : List Addr), Rd H a (.dT kvs) ∧ IsKeys H kvs ad ∧ vs = ad.map V.ref
def Coll (K : PySem.W.Frag) (H : Hp) (a : Addr) : Prop := (∃ vs, SqL K H a vs) ∨ (∃ vs, SqT K H a vs) ∨ ∃ kvs : List (List Key × V), Rd H a (.dT kvs)
section
variable {X : Cx} {pins : List (Addr × Obj)} {σ : L2.St} {H : Hp} {s : Shared} {a : Addr}
theorem coll_ok (hc : X.calm = true) (I : L2.Inv X pins σ H s) (h : Coll X.K H a) : Collects X.prog X.w X.A.in1 s (.ref a) (fun us => ∃ vs, Gives X.K H a vs ∧ Vals vs us ∧ us.length ≤ sizeLine) := by
  rcases h with ⟨vs, h⟩ | ⟨vs, h⟩ | ⟨kvs, hd⟩
  · obtain ⟨its, rv, hl, hz⟩ := I.list h
    obtain ⟨o, ho, hc', n, hd⟩ := hl.isList
    exact fun E R k => collects_seq (.inl rfl) ho hc' hd (by rw [List.size_toArray, ← rv.length]; exact hz) E R fun h' tk us kp e => k h' tk us kp ⟨vs, .inl h, by rw [e]; exact rv, by rw [e]; show its.length ≤ _; rw [← rv.length]; exact hz⟩
  · obtain ⟨its, rv, ⟨o, ho, hc', n, hd⟩, hz⟩ := I.tuple h
    exact fun E R k => collects_seq (.inr rfl) ho hc' hd (by rw [List.size_toArray, ← rv.length]; exact hz) E R fun h' tk us kp e => k h' tk us kp ⟨vs, .inr (.inl h), by rw [e]; exact rv, by rw [e]; show its.length ≤ _; rw [← rv.length]; exact hz⟩
  · obtain ⟨z, hs, ks, pr, o, es, ep, ho, hx, hdt, he, hn⟩ := (show ObjOk X.prog X.w H s.heap a (.dT kvs) from hd.ok I.hok)
    have l1 : es.size = ks.length := size_of_entries he
    have l2 : kvs.length = ks.length := Paired.length pr
    refine fun E R k => kdu_collect (A := X.A.in1) (kdl_raw hs hx hdt) (I.ok.hd hc) ho (by omega) fun h' tk acc kp it => k h' tk _ kp ?_
    have ea : acc.toList = (ks.map fun x => x.2.1).map Value.ref := by
      have hl : acc.toList.length = ks.length := by rw [Array.length_toList, it.1]; exact l1
      rw [List.map_map]
      apply List.ext_getElem?
      intro j
      rw [List.getElem?_map]
      cases hj : acc.toList[j]? with
      | none =>
        have h1 := List.getElem?_eq_none_iff.mp hj
        rw [List.getElem?_eq_none (by omega)]
        rfl
      | some v =>
        obtain ⟨en, hen, hv⟩ := it.2 j v (by rw [← Array.getElem?_toList]; exact hj)
        have qe := entry_at he j
        rw [hen] at qe
        cases hb : ks[j]? with
        | none => rw [hb] at qe; cases qe
        | some b =>
          rw [hb] at qe
          cases qe
          rw [hv]
          rfl
    refine ⟨(ks.map fun x => x.2.1).map V.ref, .inr (.inr ⟨kvs, _, hd, isKeys_of pr, rfl⟩), by rw [ea]; exact vals_refs _, ?_⟩
    rw [ea, List.length_map, List.length_map]
    omega
end
def rSortG (K : PySem.W.Frag) : List V → Hp → VK → Prop := fun xs H Q => ∃ (a : Addr) (bs : List D) (R : V → D → Prop), xs = [.ref a] ∧ Coll K H a ∧ (∀ vs, Gives K H a vs → EachIs R vs bs) ∧ (∀ v b, R v b → Rp K H v b) ∧ AllAlike (bs.map D.py) ∧ SortE (bs.map D.py) ∧ (∀ b, b ∈ bs → b.py.depth ≤ 64) ∧
  ∀ out p, EachIs R out (bs.mergeSort (dataLe false D.py)) → H p = none → Q (.ref p) (upd H p (.lst out))
theorem each_vals {R : V → D → Prop} : ∀ {vs : List V} {us : List Value} {bs : List D}, Vals vs us → EachIs R vs bs → EachIs (fun u b => ∃ v, L2.RelV v u ∧ R v b) us bs
  | _, _, _, .nil, .nil => .nil
  | _, _, _, .cons r rs, .cons h t => .cons ⟨_, r, h⟩ (each_vals rs t)
theorem each_back {R : V → D → Prop} : ∀ {us : List Value} {bs : List D}, EachIs (fun u b => ∃ v, L2.RelV v u ∧ R v b) us bs → ∃ vs, Vals vs us ∧ EachIs R vs bs
  | _, _, .nil => ⟨[], .nil, .nil⟩
  | _, _, .cons ⟨v, r, h⟩ t => by
    obtain ⟨vs, h1, h2⟩ := each_back t
    exact ⟨v :: vs, .cons r h1, .cons h h2⟩
theorem op_sortG {X : Cx} (hc : X.calm = true) (hu : X.A.units + 70 < cLine) : CallR X (.builtin "sorted") (rSortG X.K) := by
  intro pins s σ H xs us Q I r h
  obtain ⟨a, bs, R, rfl, hco, hg, hR, hal, hk, hdep, q⟩ := h
  rw [Vals.ref1 r]
  have co := coll_ok hc I hco
  by_cases hlen : bs.length ≤ sizeLine
  · refine sorted_gen (R := fun u b => ∃ v, L2.RelV v u ∧ R v b) (enc := D.py) (bs := bs) co (fun us ⟨vs, g, rv, _⟩ => ?_) hal hk hlen (fun b hb => by have := hdep b hb; omega) fun h1 h' tk d out n k1 k2 hd hn hl he => ?_
    · have e := each_vals rv (hg vs g)
      exact ⟨e, e.mono fun u b ⟨v, r1, r2⟩ => Dp.reads I b.py v u (Rp.dp b v (hR v b r2)) r1⟩
    · obtain ⟨vs, rv, ev⟩ := each_back he
      have I1 : L2.Inv X pins σ H { s with heap := h1, toks := s.toks } := I.kept k1
      have I2 := I1.laid (t' := tk) (a := d) (o := .lst vs) k2 hd ⟨by rw [rv.length, hl]; exact hlen, out, n, rv, hn⟩
      exact ⟨.ref d, upd H d (.lst vs), I2, rfl, q vs d ev (I1.hok.fresh hd)⟩
  · exfalso
    rcases hco with ⟨vs, h⟩ | ⟨vs, h⟩ | ⟨kvs, h⟩
    · obtain ⟨its, rv, hl, hz⟩ := I.list h
      exact hlen (by rw [← (hg vs (.inl h)).length]; exact hz)
    · obtain ⟨its, rv, hl, hz⟩ := I.tuple h
      exact hlen (by rw [← (hg vs (.inr (.inl h))).length]; exact hz)
    · obtain ⟨z, hs, ks, pr, _⟩ := (show ObjOk X.prog X.w H s.heap a (.dT kvs) from h.ok I.hok)
      have e := hg _ (.inr (.inr ⟨kvs, _, h, isKeys_of pr, rfl⟩))
      have l2 : kvs.length = ks.length := Paired.length pr
      have := e.length
      rw [List.length_map, List.length_map] at this
      exact hlen (by omega)
end Mini

set_option Elab.async false
set_option linter.all false
set_option maxRecDepth 100000
/-! Mini 26: try .. except X as e; isinstance(e, C); xs.index(v), xs.count(v). -/
namespace Mini
open PySem L2 LamX PySem.Spec PyProof.Rows
section
variable {F : Fm} {M : Dm} {W : WX} {cv : Str → Value} {X : Cx} {e a b c tg : Expr} {s s1 : Stmt} {ss sa sb : List Stmt} {pos p p2 : Pos} {D : Ends} {σ : L2.St} {H H1 : Hp} {O O1 : Zone}
/-! ### statements that store nothing -/
def TSs (F : Fm) (W : WX) (cv : Str → Value) (dx : MSt → Out (Option RV)) : TS := fun D σ H => ∃ M st O, Rel F M st σ H O ∧
  OutP (dx st) (fun r => match r with | none => ∀ H', Ex F.T H H' → D.nx σ H' | some r => ∀ v H', RetOk F M v H' r → D.rt v H') (fun c => ∀ H', Ex F.T H H' → W (cv c) none σ H')
def dxE (de : DE) : MSt → Out (Option RV) := fun st => (de st).bind fun _ => .ok none
def dxR (de : DE) : MSt → Out (Option RV) := fun st => (de st).bind fun r => if r.k.retOk = true then .ok (some r) else .bad
def dxIf (dt : DT) (p q : MSt → Out (Option RV)) : MSt → Out (Option RV) := fun st => (dt st).bind fun b => if b = true then p st else q st
theorem v_expr {de : DE} (he : PE X e (TEx F W cv de)) (hs : swapsWith e none pos.line X.env = pure false := by rfl) : PS X (.Expr e pos) (TSs F W cv (dxE de)) := by
  refine ps_w (ps_expr he hs) fun D σ H h => ?_
  obtain ⟨M, st, O, R, h⟩ := h
  refine ⟨M, st, O, R, ?_⟩
  unfold dxE at h
  cases q : de st with
  | bad => rw [q] at h; exact h.elim
  | exc c => rw [q] at h; exact h
  | ok r =>
    rw [q] at h
    exact fun x H' e _ => h H' e
theorem v_one {dx : MSt → Out (Option RV)} (h : PS X s (TSs F W cv dx)) : PSs X [s] (TSs F W cv dx) := pss_one h
theorem v_if {dt : DT} {d1 d2 : MSt → Out (Option RV)} (hc : PT X c (TTx F W cv dt)) (ha : PSs X sa (TSs F W cv d1)) (hb : PSs X sb (TSs F W cv d2)) : PS X (.If c sa sb pos) (TSs F W cv (dxIf dt d1 d2)) := by
  refine ps_w (ps_if hc ha hb) fun D σ H h => ?_
  obtain ⟨M, st, O, R, h⟩ := h
  unfold dxIf at h
  refine ⟨M, st, O, R, ?_⟩
  cases q : dt st with
  | bad => rw [q] at h; exact h.elim
  | exc c => rw [q] at h; exact h
  | ok r =>
    rw [q] at h
    intro x H' e k1
    obtain rfl : x = r := k1
    have h2 : OutP (if x = true then d1 st else d2 st) (fun r => match r with | none => ∀ H', Ex F.T H H' → D.nx σ H' | some r => ∀ v H', RetOk F M v H' r → D.rt v H') (fun c => ∀ H', Ex F.T H H' → W (cv c) none σ H') := h
    have fin : ∀ d : MSt → Out (Option RV), OutP (d st) (fun r => match r with | none => ∀ H', Ex F.T H H' → D.nx σ H' | some r => ∀ v H', RetOk F M v H' r → D.rt v H') (fun c => ∀ H', Ex F.T H H' → W (cv c) none σ H') → TSs F W cv d D σ H' := fun d hd => by
      refine ⟨M, st, O, R.ex e, ?_⟩
      cases q2 : d st with
      | bad => rw [q2] at hd; exact hd.elim
      | exc c => rw [q2] at hd; exact fun H2 e2 => hd H2 (e.trans e2)
      | ok r =>
        rw [q2] at hd
        cases r with
        | none => exact fun H2 e2 => hd H2 (e.trans e2)
        | some r => exact hd
    cases x with
    | true => exact fin d1 h2
    | false => exact fin d2 h2
theorem v_ret {de : DE} (he : PE X e (TEx F W cv de)) : PS X (.Return (some e) pos) (TSs F W cv (dxR de)) := by
  refine ps_w (ps_ret he) fun D σ H h => ?_
  obtain ⟨M, st, O, R, h⟩ := h
  refine ⟨M, st, O, R, ?_⟩
  unfold dxR at h
  cases q : de st with
  | bad => rw [q] at h; exact h.elim
  | exc c => rw [q] at h; exact h
  | ok r =>
    rw [q] at h
    intro x H' e k1
    have h2 : OutP (if r.k.retOk = true then .ok (some r) else .bad) (fun r => match r with | none => ∀ H', Ex F.T H H' → D.nx σ H' | some r => ∀ v H', RetOk F M v H' r → D.rt v H') (fun c => ∀ H', Ex F.T H H' → W (cv c) none σ H') := h
    obtain ⟨hk, h3⟩ := OutP.ite h2
    refine h3 x H' (ret_ok (R.ex e) k1 R.ex0 ?_)
    obtain ⟨k, d⟩ := r
    cases k with
    | fz => exact .inl rfl
    | fr => exact .inr rfl
    | bor => cases hk
/-! ### the caught exception in a slot -/
def Fm.ex (F : Fm) (a : Addr) (c : Str) : Fm := ⟨F.K, F.T, fun v d => v = .ref a ∧ d = c⟩
theorem Rel.setExn {st : MSt} {i : Nat} {a : Addr} {c : Str} (R : Rel F M st σ H O) (hX : ∀ v d, ¬ F.Xn v d) : Rel (F.ex a c) M (st.set i (some (.exn c))) (σ.set i (some (.ref a))) H O := by
  refine ⟨R.sub, R.dom, R.tabs, R.ex0, by simp [R.len], fun j v h => ?_, fun j k d d' b h1 h2 h3 h4 => ?_⟩
  · by_cases hj : i = j
    · subst hj
      by_cases hl : i < st.length
      · rw [List.getElem?_set_self hl] at h
        cases h
        exact ⟨.ref a, by rw [List.getElem?_set_self (by rw [← R.len]; exact hl)], rfl, rfl⟩
      · rw [List.getElem?_eq_none (by simp; omega)] at h
        cases h
    · rw [List.getElem?_set_ne hj] at h
      obtain ⟨x, q1, q2⟩ := R.slot j v h
      refine ⟨x, by rw [List.getElem?_set_ne hj]; exact q1, ?_⟩
      cases v with
      | fz d => exact q2
      | own d => exact q2
      | exn d => exact (hX _ _ q2).elim
  · have nj : ∀ {m : Nat} {d : D}, (st.set i (some (SV.exn c)))[m]? = some (some (.own d)) → i ≠ m ∧ st[m]? = some (some (.own d)) := fun {m d} h => by
      by_cases hm : i = m
      · subst hm
        by_cases hl : i < st.length
        · rw [List.getElem?_set_self hl] at h
          cases h
        · rw [List.getElem?_eq_none (by simp; omega)] at h
          cases h
      · rw [List.getElem?_set_ne hm] at h
        exact ⟨hm, h⟩
    obtain ⟨n1, q1⟩ := nj h1
    obtain ⟨n2, q2⟩ := nj h2
    rw [List.getElem?_set_ne n1] at h3
    rw [List.getElem?_set_ne n2] at h4
    exact R.uniq j k d d' b q1 q2 h3 h4
/-! ### try -/
def dTry (rd : Str → Bool) (dx : MSt → Out (Option RV)) (A : Acc) (ds : DS) : DS := fun st => match dx st with
  | .ok none => .ok (.nx st)
  | .ok (some r) => .ok (.rt r)
  | .exc c => if rd c = true then (match ds (A.s st (.exn c)) with | .ok (.rt r) => .ok (.rt r) | _ => .bad) else .bad
  | .bad => .bad
theorem z_try {x n : Str} {A : Acc} {rd : Str → Bool} {dx : MSt → Out (Option RV)} {ds : DS} {body suite : List Stmt} {b₀ : Stmt} {np pos' : Pos} (k : Ctx X F W) (hX : ∀ v d, ¬ F.Xn v d) (hs : X.stack = X.env :: X.outer) (hf : X.env.frame = some X.env.locals) (hln : X.env.kindOf n = some .local) (hc : Names X x (cv x))
    (hex : ∀ c, rd c = true → PySem.W.exmOne X.K (cv c) (cv x) = some true)
    (hb : ∀ (W : WX) (pn : List (Addr × Obj)) (xe : Value → Shared → Prop), Ctx (X.tr pn xe) F W → PSs (X.tr pn xe) body (TSs F W cv dx))
    (hsu : ∀ (a : Addr) (oe : Obj) (c : Str) (pn : List (Addr × Obj)), rd c = true → Zc (cv c) none oe → (∃ vs, oe.data = .fields vs) → PSs (X.suite a ((a, oe) :: pn)) (b₀ :: suite) (TSx (F.ex a c) Wb cv ds)) (hi : X.N[A.i]? = some n := by rfl) :
    PS X (.Try body [.ExceptHandler (some (.Name x np)) (some n) (b₀ :: suite) pos'] [] [] pos) (TSx F W cv (dTry rd dx A ds)) := by
  refine ps_w (ps_try_as (tb := fun W => TSs F W cv dx) (ts := fun a cls d => fun D σ H => ∃ c, rd c = true ∧ cls = cv c ∧ d = none ∧ TSx (F.ex a c) Wb cv ds D σ H) (Wout := W) hs hf k.nd hi hln hc k.tk (fun W pn xe tk _ => hb W pn xe ⟨k.K, k.nd, k.calm, tk, k.un⟩) ?_) fun D σ H h => ?_
  · intro a oe cls d pn hz hv
    refine ⟨fun pins s σ H D I h => ?_⟩
    obtain ⟨c, hc, rfl, rfl, h⟩ := h
    exact (hsu a oe c pn hc hz hv).run pins s σ H D I h
  · obtain ⟨M, st, O, R, h⟩ := h
    refine ⟨M, st, O, R, ?_⟩
    unfold dTry at h
    cases q : dx st with
    | bad => rw [q] at h; exact h.elim
    | ok r =>
      rw [q] at h
      cases r with
      | none => exact fun H' e => h σ H' O (R.ex e) (hide_ex e)
      | some r => exact h
    | exc c =>
      rw [q] at h
      intro H' e
      by_cases hr : rd c = true
      · simp only [hr, if_true] at h
        refine ⟨true, hex c hr, fun _ a ha => ⟨c, hr, rfl, rfl, M, A.s st (.exn c), O, ?_, ?_⟩, fun z => nomatch z⟩
        · rw [A.hs]
          exact (R.ex e).setExn hX
        · cases q2 : ds (A.s st (.exn c)) with
          | bad => rw [q2] at h; exact h.elim
          | exc c => rw [q2] at h; exact h.elim
          | ok f =>
            rw [q2] at h
            cases f with
            | rt r => exact h
            | nx s => exact h.elim
            | bk s => exact h.elim
            | ct s => exact h.elim
      · simp only [hr] at h
        exact h.elim
/-! ### isinstance of what was caught -/
def dIsE (A : Acc) (tab : Str → Option Bool) : DE := fun st => match A.g st with
  | some (.exn c) => match tab c with
    | some b => .ok ⟨.fz, .bl b⟩
    | none => .bad
  | _ => .bad
theorem x_isE {A : Acc} {n C : Str} {tab : Str → Option Bool} {ad : Addr} {oe : Obj} {c : Str} {pn : List (Addr × Obj)} (hK : X.K = F.K) (hv : Vis X.env.scope n) (on : okN n = true) (oC : okN C = true) (hg : Gl X "isinstance") (hm : X.mg "isinstance" = none)
    (hgC : Gl X C) (hC : X.mg C = some (cv C)) (hex : ∃ D, cv c = .ref D ∧ ExcC X.K D) (hz : Zc (cv c) none oe) (hf : ∃ vs, oe.data = .fields vs) (ht : ∀ b, tab c = some b → PySem.W.kitOne X.K (cv c) (cv C) = some b) (hCr : ∃ E, cv C = .ref E)
    (hN : X.N[A.i]? = some n := by rfl)
    (he : starEach [.Name n p2, .Name C p] X.env = (false, eval (.Name n p2) X.env) :: starEach [.Name C p] X.env := by rfl) (he2 : starEach [.Name C p] X.env = (false, eval (.Name C p) X.env) :: starEach [] X.env := by rfl) (hpl : (backTo pos (starEach [.Name C p] X.env)).any (·.1) = false := by rfl) :
    PE (X.suite ad ((ad, oe) :: pn)) (.Call (.Name "isinstance" p3) [.Name n p2, .Name C p] [] pos) (TEx (F.ex ad c) W cv (dIsE A tab)) := by
  obtain ⟨Dd, hD, hE⟩ := hex
  obtain ⟨E, hEr⟩ := hCr
  have hz' : Zc (.ref Dd) none oe := hD ▸ hz
  refine pe_w (pe_callB (X := X.suite ad ((ad, oe) :: pn)) (id := "isinstance") (call_isE hE hz' hf) hg hm (by decide +kernel) (pa_cons (pe_var (i := A.i) hN hv (okN.db on) (okN.cd on)) (pa_cons (pe_glob (v := .ref E) hgC hC (by rw [hEr]; rfl) (okN.db oC)) pa_nil he2) he) (by decide) (by decide) he hpl) fun σ H Q h => ?_
  obtain ⟨M, st, O, R, h⟩ := h
  unfold dIsE at h
  cases q : A.g st with
  | none => rw [q] at h; exact h.elim
  | some v =>
    rw [q] at h
    cases v with
    | fz d => exact h.elim
    | own d => exact h.elim
    | exn c' =>
      obtain ⟨x, q1, q2, q3⟩ := R.slot _ _ (Acc.get q)
      subst q2
      subst q3
      cases q4 : tab c' with
      | none => simp only [q4] at h; exact h.elim
      | some b =>
        simp only [q4] at h
        refine ⟨.ref ad, q1, .ref E, .ref E, b, rfl, fun u r => r, ?_, h (.bl b) H (Ex.refl _) (Rp.bl _)⟩
        have := ht b q4
        rw [hD, hEr] at this
        exact this
end
end Mini

set_option Elab.async false
set_option linter.all false
set_option maxRecDepth 100000
/-! Mini 27: xs.index(v). -/
namespace Mini
open PySem L2 LamX PySem.Spec PyProof.Rows
def ixOf (d : D) : List D → Option Nat
  | [] => none
  | x :: xs => if eqS x d = true then some 0 else (ixOf d xs).map (· + 1)
def idxD (ds : List D) (ss : List D) : Option RV := match ss with
  | [d] => if (d.scal && allScal ds) = true then (ixOf d ds).map (fun j => ⟨.fz, .int (j : Nat)⟩) else none
  | _ => none
def dIdx (da : DE) (dl : DA) : DE := fun st => (da st).bind fun r => match r.d with
  | .lst ds => (dl st).bind fun rs => .of (idxD ds (dataOf rs))
  | _ => .bad
section
variable {F : Fm} {M : Dm} {W : WX} {cv : Str → Value} {X : Cx} {o e : Expr} {apos cpos : Pos} {σ : L2.St} {H H1 : Hp} {O O1 : Zone} {K : PySem.W.Frag}
theorem ix_v {G : Hp} {d : D} (s : d.scal = true) : ∀ {vs : List V} {ds : List D} {j : Nat}, RpAll K G vs ds → allScal ds = true → ixOf d ds = some j → ∃ z, vs[j]? = some z ∧ eqV z d.v = true ∧ ∀ (m : Nat) (z' : V), m < j → vs[m]? = some z' → eqV z' d.v = false
  | [], [], _, _, _, h => by cases h
  | [], _ :: _, _, h, _, _ => by cases h
  | _ :: _, [], _, h, _, _ => by cases h
  | v :: vs, e :: es, j, h, a, q => by
    cases h with
    | cons h1 h2 =>
      have a' := Bool.and_eq_true_iff.mp a
      have := h1.scalV a'.1
      subst this
      unfold ixOf at q
      by_cases he : eqS e d = true
      · rw [if_pos he] at q
        cases q
        exact ⟨e.v, rfl, by rw [eqS_v a'.1 s]; exact he, fun m z' hm => absurd hm (Nat.not_lt_zero m)⟩
      · rw [if_neg he] at q
        cases q2 : ixOf d es with
        | none => rw [q2] at q; cases q
        | some k =>
          rw [q2] at q
          cases q
          obtain ⟨z, z1, z2, z3⟩ := ix_v s h2 a'.2 q2
          refine ⟨z, z1, z2, fun m z' hm hz => ?_⟩
          cases m with
          | zero =>
            cases hz
            rw [eqS_v a'.1 s]
            simpa using he
          | succ m => exact z3 m z' (Nat.lt_of_succ_lt_succ hm) hz
theorem x_index {da : DE} {dl : DA} (hK : X.K = F.K) (ho : PE X o (TEx F W cv da)) (ha : PA X [e] (TAx F W cv dl))
    (hbase : attributeBase o "index" X.env (eval o X.env) = eval o X.env := by rfl)
    (hfew : ((backTo cpos (starEach (e :: []) X.env)).all (fun x => !x.1) && (backToKw cpos (keywordEach [] X.env)).all (fun x => x.1.isSome) && decide ((e :: []).length + ([] : List Keyword).length + (if ([] : List Keyword).isEmpty then 0 else 1) < 30)) = true := by rfl)
    (hline : (apos.endLine == cpos.line) = true := by rfl) (hst : starEach (e :: []) X.env = (false, eval e X.env) :: starEach [] X.env := by rfl) (hplain : (backTo cpos (starEach [] X.env)).any (·.1) = false := by rfl) :
    PE X (.Call (.Attribute o "index" apos) [e] [] cpos) (TEx F W cv (dIdx da dl)) := by
  refine pe_w (pe_bm PySem.F.plainAttrs_list PySem.F.slot_list_index PySem.F.type_list_index mt_index ho ha hbase hfew hline hst hplain) fun σ H Q h => ?_
  show Tx F W cv (okE F) da σ H _
  refine tx_bind (okA := okE F) (okC := okE F) (f := fun r st => match r.d with
    | .lst ds => (dl st).bind fun rs => .of (idxD ds (dataOf rs))
    | _ => .bad) h fun M st O r x H1 R e1 R1 k1 h1 => ?_
  obtain ⟨k, d⟩ := r
  cases d with
  | lst ds =>
    have v1 : Vw F.K H1 O x (.lst ds) := k1.vw (T := F.T)
    obtain ⟨a, xs, hx, hs, hr⟩ := v1.lst
    subst hx
    refine ⟨.inl ⟨rfl, xs, .inl (.inl hs)⟩, M, st, O, R1, ?_⟩
    have h1 : OutP ((dl st).bind fun rs => Out.of (idxD ds (dataOf rs))) (fun t => ∀ y H', Ex F.T H1 H' → okE F H H' O y t → Q y H') (fun c => ∀ H', Ex F.T H1 H' → W (cv c) none σ H') := h1
    cases ql : dl st with
    | bad => rw [ql] at h1; exact h1.elim
    | exc c => rw [ql] at h1; exact h1
    | ok rs =>
      rw [ql] at h1
      obtain ⟨t, q1, q2⟩ := OutP.of h1
      intro vs H2 e2 k2
      unfold idxD at q1
      split at q1
      · rename_i d' hd'
        cases rs with
        | nil => cases hd'
        | cons s rs =>
          cases rs with
          | cons _ _ => cases hd'
          | nil =>
            cases hd'
            cases k2 with
            | cons ks _ kn =>
              cases kn
              split at q1
              · rename_i hsc
                have hsc := Bool.and_eq_true_iff.mp hsc
                have hv := (ks.vw (T := F.T)).scalV hsc.1
                subst hv
                cases qi : ixOf s.d ds with
                | none => rw [qi] at q1; cases q1
                | some j =>
                  rw [qi] at q1
                  cases q1
                  have hs2 : H2 a = some (.lst xs) := e2.ext _ _ hs fun ps z => nomatch z
                  have hr2 := (hide_ex (O := O) e2).rpAll _ _ hr
                  obtain ⟨z, z1, z2, z3⟩ := ix_v hsc.1 hr2 hsc.2 qi
                  refine ⟨a, xs, s.d.v, j, z, rfl, rfl, .inl (.inl hs2), flat_v hsc.1, (any_v hsc.1 hr2 hsc.2).1, z1, z2, z3, q2 _ H2 e2 (Rp.int _)⟩
              · cases q1
      · cases q1
  | _ => exact h1.elim
end
end Mini

set_option Elab.async false
set_option linter.all false
set_option maxRecDepth 100000
/-! Mini 28: rules within an except suite; what the top says of the classes of errors. -/
namespace Mini
open PySem L2 LamX PySem.Spec PyProof.Rows
section
variable {F : Fm} {W : WX} {cv : Str → Value} {X : Cx} {a b e : Expr} {pos p : Pos} {x : Str} {da db de : DE}
theorem v_nil : PSs X [] (TSs F W cv (fun _ => .ok none)) := by
  refine pss_w pss_nil fun D σ H h => ?_
  obtain ⟨M, st, O, R, h⟩ := h
  exact h H (Ex.refl _)
theorem x_addS (k : X.K = F.K) (ha : PE X a (TEx F W cv da)) (hb : PE X b (TEx F W cv db)) : PE X (.BinOp a .Add b pos) (TEx F W cv (dOpR addR da db)) := by rw [dOpR_eq, addR_eq]; exact s_op (by rw [← k]; exact op_addD) sim_addD ha hb
theorem z_setS {own : Bool} {A : Acc} (nd : X.N.Nodup) (hx : Loc X.env.scope x) (hf : X.fn x = true ∨ X.env.scope.names.lookup x = some .local) (he : PE X e (TEx F W cv de)) (hj : X.N[A.i]? = some x := by rfl) (hs : swapsWith e (some (.Name x p)) pos.line X.env = pure false := by rfl) : PS X (.Assign [.Name x p] e pos) (TSx F W cv (dSetR own A de)) := by rw [dSetR_eq, dSetF_eq]; exact s_set nd hj hx hf he hs
end
section
variable {K : PySem.W.Frag} {h : Heap} {mg : Str → Option Value} {c C x : Str} {b0 : Bool}
/-- a class of the program's own -/
def OwnC (K : PySem.W.Frag) (x : Str) : Prop := ∃ C : Addr, PySem.W.nsIn K mainGlobals x = some (some (.ref C)) ∧ PySem.W.hasDictIn K C = true ∧ PySem.W.typeIn K (.ref C) = some (.type "type") ∧ PySem.W.subIn K (.ref C) (.type "BaseException") = some true
theorem OwnC.mk {C : Addr} (a : PySem.W.nsIn K mainGlobals x = some (some (.ref C))) (d : PySem.W.hasDictIn K C = true) (t : PySem.W.typeIn K (.ref C) = some (.type "type")) (s : PySem.W.subIn K (.ref C) (.type "BaseException") = some true) : OwnC K x := ⟨C, a, d, t, s⟩
theorem OwnC.at (d : OwnC K x) (X : K.In h) (G : h.Ns mainGlobals mg) : mg x = some (cvOf mg x) ∧ ∃ E, cvOf mg x = .ref E := by
  obtain ⟨C, h1, _⟩ := d
  have m := PySem.W.mg_of X G h1
  unfold cvOf
  rw [m]
  exact ⟨rfl, C, rfl⟩
def ExcCAt (K : PySem.W.Frag) (x : Str) : Prop := ∃ C : Addr, PySem.W.nsIn K mainGlobals x = some (some (.ref C)) ∧ ExcC K C
theorem ExcCAt.mk {C : Addr} (a : PySem.W.nsIn K mainGlobals x = some (some (.ref C))) (hg : PySem.W.findIn K (.ref C) "__getattribute__" = some (some (.builtin "BaseException.__getattribute__"))) (hk : PySem.W.findIn K (.ref C) "__getattr__" = some none) (hs : PySem.W.subIn K (.ref C) (.type "BaseException") = some true) (hd : PySem.W.hasDictIn K C = true)
    (ha : PySem.W.findIn K (.ref C) "__class__" = some (some (.builtin "object.__class__"))) (hn : PySem.W.specialIn K (.builtin "object.__class__") "__get__" = some (some (.builtin "getset_descriptor.__get__"))) (ht : PySem.W.takesIn K (.builtin "object.__class__") = some true) (hm : PySem.W.mroIn K C (.type "object") = some true) : ExcCAt K x := ⟨C, a, hg, hk, hs, hd, ha, hn, ht, hm⟩
theorem ExcCAt.at (d : ExcCAt K x) (X : K.In h) (G : h.Ns mainGlobals mg) : ∃ D, cvOf mg x = .ref D ∧ ExcC K D := by
  obtain ⟨C, h1, h2⟩ := d
  have m := PySem.W.mg_of X G h1
  unfold cvOf
  rw [m]
  exact ⟨C, rfl, h2⟩
/-- whether the one stands under the other -/
def PairAt (K : PySem.W.Frag) (c C : Str) (b : Bool) : Prop := ∃ D E : Addr, PySem.W.nsIn K mainGlobals c = some (some (.ref D)) ∧ PySem.W.nsIn K mainGlobals C = some (some (.ref E)) ∧ PySem.W.subIn K (.ref D) (.ref E) = some b ∧ PySem.W.subIn K (.ref D) (.ref D) = some true
theorem PairAt.mk {D E : Addr} (a : PySem.W.nsIn K mainGlobals c = some (some (.ref D))) (e : PySem.W.nsIn K mainGlobals C = some (some (.ref E))) (k : PySem.W.subIn K (.ref D) (.ref E) = some b0) (s : PySem.W.subIn K (.ref D) (.ref D) = some true) : PairAt K c C b0 := ⟨D, E, a, e, k, s⟩
theorem kitCls_own {D E : Addr} (hd : PySem.W.hasDictIn K E = true) (ht : PySem.W.typeIn K (.ref E) = some (.type "type")) (h : PySem.W.subIn K (.ref D) (.ref E) = some b0) : PySem.W.kitCls K (.ref D) (.ref E) = some b0 := by
  obtain ⟨cd, hc, _⟩ := PySem.W.any_some hd
  have e2 : ((PySem.W.clsIn K E).isSome && PySem.W.typeIn K (.ref E) == some (.type "type")) = true := by rw [hc, ht] <;> rfl
  show (if ((PySem.W.clsIn K E).isSome && PySem.W.typeIn K (.ref E) == some (.type "type")) = true then PySem.W.subIn K (.ref D) (.ref E) else none) = some b0
  rw [if_pos e2]
  exact h
theorem PairAt.at (d : PairAt K c C b0) (o : OwnC K C) (X : K.In h) (G : h.Ns mainGlobals mg) : PySem.W.kitOne K (cvOf mg c) (cvOf mg C) = some b0 := by
  obtain ⟨D, E, h1, h2, h3, h4⟩ := d
  obtain ⟨E', q1, q2, q3, _⟩ := o
  rw [h2] at q1
  cases q1
  unfold cvOf
  rw [PySem.W.mg_of X G h1, PySem.W.mg_of X G h2]
  show PySem.W.kitOne K (.ref D) (.ref E) = some b0
  unfold PySem.W.kitOne
  by_cases e : (Value.ref D == Value.ref E) = true
  · rw [if_pos e]
    have e' : D = E := Value.ref.inj (beq_iff_eq.mp e)
    subst e'
    rw [← h3, h4]
  · rw [if_neg e]
    exact kitCls_own q2 q3 h3
theorem PairAt.sub (d : PairAt K c C true) (o : OwnC K C) (X : K.In h) (G : h.Ns mainGlobals mg) : PySem.W.exmOne K (cvOf mg c) (cvOf mg C) = some true := by
  obtain ⟨D, E, h1, h2, h3, h4⟩ := d
  obtain ⟨E', q1, q2, q3, q4⟩ := o
  rw [h2] at q1
  cases q1
  unfold cvOf
  rw [PySem.W.mg_of X G h1, PySem.W.mg_of X G h2]
  exact PySem.W.exm_ref q4 q2 q3 h3
theorem tab_of {tab : Str → Option Bool} {q : Value → Prop} {k : Option Bool} (h : k = some b0) (ht : tab c = some b0) : ∀ b, tab c = some b → k = some b := fun b e => by
  rw [ht] at e
  cases e
  exact h
end
end Mini

set_option Elab.async false
set_option linter.all false
set_option maxRecDepth 100000
/-! Mini 29: sorted(set(xs)), xs a list of ints. -/
namespace Mini
open PySem L2 LamX PySem.Spec PyProof.Rows
abbrev emptyS (w : World) : Obj := { cls := .type "set", dict := none, data := .set #[] 0 (.fresh 0 0 (!w.params.followText "set-order")) }
section
variable {P : Program} {w : World} {A : Around} {E : Value → Shared → Prop} {s : Shared}
set_option maxHeartbeats 3200000 in
/-- set(xs): as the library has it for tuples, here for lists -/
theorem set_ofList {l : Addr} {its : Array Value} (ks : List Int) {Q : Value → Shared → Prop} (calm : A.handled = none) (isL : s.heap.IsList l its) (vals : IntsAre its.toList ks) (room : ks.length + 1 < scanBound)
    (fin : ∀ (g : Heap) (tk m : Nat), SetR w g s.heap.objs.size (fun j => decide (j ∈ ks)) m → m ≤ ks.length → (∀ b o, s.heap.get? b = some o → g.get? b = some o) → Q (.ref s.heap.objs.size) { s with heap := g, toks := tk }) :
    wpAny (model P w) A (call (.type "set") [.ref l]) Q E s := by
  have size_eq : its.size = ks.length := (Array.length_toList (xs := its)).symm.trans (IntsAre.length vals)
  obtain ⟨_, _, q1⟩ := F.called_set.mro
  have q2 := F.called_set.made; have q3 := F.called_set.sub
  refine wpAny_call (codeAny_of_tree ?_); show wpAny _ _ (callAny (.type "set") _) _ _ _
  refine wpAny_pure ⟨Code.quiet_builtin _ (by decide +kernel), codeAny_builtin F.entry_type_call ?_⟩; rw [Around.under_plain (weight_type_call_type "set" [.ref l] []) rfl]
  have q4 := F.called_set.notType; have q5 := F.called_set.canCreate; have q6 := F.typeCall_set_1 (.ref l)
  repeat (any_goals (first | assumption | wp_step))
  refine codeAny_mono (code_set_led1 (.ref l) (E := E) (Q₁ := fun v z => v = .ref s.heap.objs.size ∧ z = { s with heap := s.heap.push (emptyS w) }) ⟨rfl, rfl⟩) fun r z hz => ?_
  cases r with
  | error e => exact hz
  | ok fl =>
    cases fl with
    | ret v =>
      obtain ⟨rfl, rfl⟩ := hz
      have atS : (s.heap.push (emptyS w)).get? s.heap.objs.size = some (emptyS w) := Heap.get?_push_size _ rfl
      have tyS : Shared.TypeIs { s with heap := s.heap.push (emptyS w) } (.ref s.heap.objs.size) "set" := ⟨_, atS, rfl⟩
      have q7 := F.called_set.init.lookup; have q8 := F.called_set.init.bind (.ref s.heap.objs.size)
      repeat (any_goals (first | assumption | wp_step))
      refine codeAny_mono (codeAny_call_builtin (R := wants (fun v z => v = .none ∧ ∃ g tk m, z = { s with heap := g, toks := tk } ∧ SetR w g s.heap.objs.size (fun j => decide (j ∈ ks)) m ∧ m ≤ ks.length ∧ (∀ b o, s.heap.get? b = some o → g.get? b = some o)) E) F.called_set.init.plain F.entry_set_init (check_set_init_1 tyS ?_)) fun r z hz => ?_
      · obtain ⟨⟨c0, d0, x0, y0⟩, gl, e1, nl, e2⟩ := isL
        dsimp only at e1 e2; subst e1; subst e2
        have gl1 : (s.heap.push (emptyS w)).get? l = some { cls := .type "list", dict := d0, data := .seq its nl, slots := y0 } := Heap.get?_push_of_some _ gl
        have q9 := F.sub_list_set; have q10 := F.sub_list_frozenset; have q11 : (Value.type "list" == Value.type "dict") = false := by decide
        have isL1 : (s.heap.push (emptyS w)).IsList l its := ⟨_, gl1, rfl, nl, rfl⟩
        have below : l < s.heap.objs.size := Heap.lt_size gl
        unfold Builtin.«set.__init__» noKeywords Builtin.Frozenset.updateFrom; generalize hPI : pyIter = PI; wp_walk; subst hPI
        refine wpAny_pyIter_list isL1 (wpAny_bind (wpAny_runValue ?_))
        have calm3 : A.in1.in1.in1.handled = none := by simp [calm]
        have n1 : l ≠ (s.heap.push (emptyS w)).objs.size := by rw [Heap.size_push]; exact Nat.ne_of_lt (Nat.lt_succ_of_lt below)
        have n2 : s.heap.objs.size ∉ [(s.heap.push (emptyS w)).objs.size, l] := fun z => by
          rw [Heap.size_push] at z
          rcases List.mem_cons.mp z with e | z
          · exact absurd e (Nat.ne_of_lt (Nat.lt_succ_self _))
          · rcases List.mem_cons.mp z with e | z
            · exact absurd e.symm (Nat.ne_of_lt below)
            · cases z
        have each : ∀ (i : Nat) (v : Value), its[i]? = some v → ∃ k t, ks[i]? = some k ∧ v = .int k t := fun i v hv => by
          have hi : i < ks.length := by rw [← size_eq]; exact (Array.getElem?_eq_some_iff.mp hv).1
          obtain ⟨t, e⟩ := PyProof.Rows.IntsAre.int_at vals i v (by rw [Array.getElem?_toList]; exact hv)
          exact ⟨ks[i], t, List.getElem?_eq_getElem hi, by rw [e, List.getD_eq_getElem?_getD, List.getElem?_eq_getElem hi] <;> rfl⟩
        refine set_update_ints ((Walks.list calm3 _ l n1 its).toS) s.heap.objs.size n2 ks size_eq room each (its.size - 0) 0 _ (by omega) (Nat.zero_le _) ⟨⟨_, Heap.get?_push_size _ rfl, rfl, rfl⟩, (isL1.push _)⟩ ?start ?stop
        case start => exact ⟨0, Nat.le_refl 0, setR_new_at (Heap.get?_push_of_some _ atS)⟩
        case stop =>
          rintro ⟨g, g2, d2, tk, os2⟩ m mv hm isS
          obtain rfl : g2 = s.gens := mv.gens
          obtain rfl : d2 = s.drawn := mv.drawn
          obtain rfl : os2 = s.os := mv.os
          show wpAny _ _ _ _ _ _
          refine wpAny_pure ?_; show wpAny _ _ (ret Value.none) _ _ _
          rw [size_eq] at hm
          refine wpAny_pure ⟨rfl, g, tk, m, rfl, isS, hm, fun b o e => mv.heap b o ?_ (Heap.get?_push_of_some _ (Heap.get?_push_of_some _ e))⟩
          have lo := Heap.lt_size e
          rw [Heap.size_push]
          intro z
          rcases List.mem_cons.mp z with e | z
          · exact absurd e (Nat.ne_of_lt lo)
          · rcases List.mem_cons.mp z with e | z
            · exact absurd e (Nat.ne_of_lt (Nat.lt_succ_of_lt lo))
            · cases z
      · cases r with
        | error e => exact hz
        | ok fl =>
          cases fl with
          | ret v =>
            obtain ⟨rfl, g, tk, m, rfl, k1, k2, k3⟩ := hz
            repeat (any_goals (first | assumption | wp_step))
            exact fin _ _ _ k1 k2 k3
          | _ => exact hz.elim
    | _ => exact hz.elim
end
section
variable {X : Cx} {F : Fm} {W : WX} {cv : Str → Value} {a : Expr} {pos p p2 q : Pos}
def rSetI (K : PySem.W.Frag) (w : World) : List V → Hp → VK → Prop := fun xs H Q => ∃ (l : Addr) (ns : List Int), xs = [V.ref l] ∧ SqL K H l (ns.map V.int) ∧ ns.length < 64 ∧ ∀ c b, c ≤ ns.length → H b = none → Q (.ref b) (upd H b (SetO w b (fun j => decide (j ∈ ns)) c))
theorem cr_setI (hc : X.calm = true) : CallR X (.type "set") (rSetI X.K X.w) := by
  intro pins s σ H xs us Q I r h
  obtain ⟨l, ns, rfl, hq, hl, k⟩ := h
  rw [Vals.ref1 r]
  obtain ⟨its, rv, pl, _⟩ := I.list hq
  refine set_ofList (its := its.toArray) ns (I.ok.hd hc) pl.isList (by simpa using RZ.intsAre_vals rv) (by unfold scanBound; omega) fun g tk m R hm ext => ?_
  exact ⟨.ref _, upd H s.heap.objs.size (SetO X.w s.heap.objs.size (fun j => decide (j ∈ ns)) m), I.laid (t' := tk) ext (Nat.le_refl _) (setO_new R), rfl, k m _ hm (I.hok.fresh (Nat.le_refl _))⟩
end
end Mini

set_option Elab.async false
set_option linter.all false
set_option maxRecDepth 100000
/-! Mini 30: sorted(set(xs)). -/
namespace Mini
open PySem L2 LamX PySem.Spec PyProof.Rows
def ddI : List Int → List Int → List Int
  | acc, [] => acc
  | acc, x :: xs => ddI (if x ∈ acc then acc else acc ++ [x]) xs
def setI (ns : List Int) : List Int := sortI (ddI [] ns)
theorem ddI_mem : ∀ (xs acc : List Int) (x : Int), x ∈ ddI acc xs ↔ x ∈ acc ∨ x ∈ xs
  | [], acc, x => by simp [ddI]
  | y :: ys, acc, x => by
    unfold ddI
    rw [ddI_mem ys]
    by_cases h : y ∈ acc
    · rw [if_pos h, List.mem_cons]
      constructor
      · rintro (z | z)
        · exact .inl z
        · exact .inr (.inr z)
      · rintro (z | z | z)
        · exact .inl z
        · exact .inl (by rw [z]; exact h)
        · exact .inr z
    · simp [h, or_assoc]
theorem ddI_nodup : ∀ (xs acc : List Int), acc.Nodup → (ddI acc xs).Nodup
  | [], acc, h => by simpa [ddI] using h
  | y :: ys, acc, h => by
    unfold ddI
    refine ddI_nodup ys _ ?_
    by_cases hy : y ∈ acc
    · simpa [hy] using h
    · rw [if_neg hy, List.nodup_append]
      exact ⟨h, by simp, fun a ha b hb z => hy (by simp at hb; rw [← hb, ← z]; exact ha)⟩
theorem lt_uniq : ∀ {xs ys : List Int}, xs.Pairwise (· < ·) → ys.Pairwise (· < ·) → (∀ x, x ∈ xs ↔ x ∈ ys) → xs = ys
  | [], [], _, _, _ => rfl
  | [], y :: ys, _, _, h => by have := (h y).mpr (by simp); cases this
  | x :: xs, [], _, _, h => by have := (h x).mp (by simp); cases this
  | x :: xs, y :: ys, h1, h2, h => by
    have a1 := List.pairwise_cons.mp h1
    have a2 := List.pairwise_cons.mp h2
    have e : x = y := by
      rcases List.mem_cons.mp ((h x).mp (by simp)) with z | z
      · exact z
      · rcases List.mem_cons.mp ((h y).mpr (by simp)) with w | w
        · exact w.symm
        · have := a2.1 x z
          have := a1.1 y w
          omega
    subst e
    congr 1
    refine lt_uniq a1.2 a2.2 fun z => ?_
    have hz := h z
    simp only [List.mem_cons] at hz
    constructor
    · intro m
      rcases hz.mp (.inr m) with w | w
      · have := a1.1 z m; omega
      · exact w
    · intro m
      rcases hz.mpr (.inr m) with w | w
      · have := a2.1 z m; omega
      · exact w
theorem setI_lt (ns : List Int) : (setI ns).Pairwise (· < ·) := by
  have h1 := sortI_sorted (ddI [] ns)
  have h2 : (setI ns).Nodup := (sortI_perm _).nodup_iff.mpr (ddI_nodup ns [] .nil)
  exact (h1.and h2).imp fun ⟨h3, h4⟩ => by omega
theorem setI_mem (ns : List Int) (x : Int) : x ∈ setI ns ↔ x ∈ ns := by
  unfold setI
  rw [(sortI_perm _).mem_iff, ddI_mem]
  simp
def dSrtSet (da : DE) : DE := fun st => (da st).bind fun r => match listInts r.d with
  | some ns => if ns.length < 64 then .ok ⟨.fr, .lst ((setI ns).map D.int)⟩ else .bad
  | none => .bad
section
variable {X : Cx} {F : Fm} {W : WX} {cv : Str → Value} {a : Expr} {pos p p2 q : Pos} {da : DE}
theorem x_srtSet (k : Ctx X F W) (hg : Gl X "sorted") (hm : X.mg "sorted" = none) (hg2 : Gl X "set") (hm2 : X.mg "set" = none) (ha : PE X a (TEx F W cv da))
    (he : starEach [a] X.env = (false, eval a X.env) :: starEach [] X.env := by rfl) (hpl : (backTo q (starEach [] X.env)).any (·.1) = false := by rfl)
    (he2 : starEach [.Call (.Name "set" p2) [a] [] q] X.env = (false, eval (.Call (.Name "set" p2) [a] [] q) X.env) :: starEach [] X.env := by rfl) (hpl2 : (backTo pos (starEach [] X.env)).any (·.1) = false := by rfl) :
    PE X (.Call (.Name "sorted" p) [.Call (.Name "set" p2) [a] [] q] [] pos) (TEx F W cv (dSrtSet da)) := by
  refine pe_w (pe_callB (id := "sorted") (cr_sortedSet k.calm) hg hm (by decide +kernel) (pa_cons (pe_callTy (T := "set") (cr_setI k.calm) hg2 hm2 PyProof.Rows.boot_set (pa_cons ha pa_nil he) (by decide) (by decide) he hpl) pa_nil he2) (by decide) (by decide) he2 hpl2) fun σ H Q h => ?_
  show Tx F W cv (okE F) da σ H _
  refine tx_bind (okA := okE F) (okC := okE F) (f := fun r st => match listInts r.d with
    | some ns => if ns.length < 64 then .ok ⟨.fr, .lst ((setI ns).map D.int)⟩ else .bad
    | none => .bad) h fun M st O r x H1 R e1 R1 k1 h1 => ?_
  cases hl : listInts r.d with
  | none => simp only [hl] at h1; exact h1.elim
  | some ns =>
    simp only [hl] at h1
    obtain ⟨h64, h1⟩ := OutP.ite h1
    obtain ⟨l, rfl, hq⟩ := (k1.vw (T := F.T)).ints hl
    refine ⟨l, ns, rfl, by rw [k.K]; exact hq, h64, fun c b hc hb => ⟨b, _, c, rfl, upd_same, by omega, fun ns' p hp hm hl hn => ?_⟩⟩
    have e : ns' = setI ns := lt_uniq hp (setI_lt ns) fun x => by rw [setI_mem, hm]; simp
    subst e
    have hb' : p ≠ b := fun z => by rw [z, upd_same] at hn; cases hn
    have hp1 : H1 p = none := by rw [upd_ne hb'] at hn; exact hn
    refine h1 (.ref p) _ ((Ex.new hb).trans (Ex.new hn)) ⟨p, rfl, (Fresh.of hp1).back e1, _, upd_same, RpAll.ints⟩
end
end Mini

set_option Elab.async false
set_option linter.all false
set_option maxRecDepth 100000
/-! Mini 31: defs that are called within an except suite with what was caught; xs.count(v). -/
namespace Mini
open PySem L2 LamX PySem.Spec PyProof.Rows
/-! ### xs.count(v) -/
def rCntF (K : PySem.W.Frag) : V → List V → Hp → VK → Prop := fun x xs H Q => ∃ (a : Addr) (ys : List V) (y : V), x = .ref a ∧ xs = [y] ∧ SqL K H a ys ∧ flatV y = true ∧ ys.all flatV = true ∧ Q (.int ((ys.countP fun z => eqV z y : Nat) : Int)) H
theorem count_vals {y : V} : ∀ {ys : List V} {us : List Value}, Vals ys us → ys.all flatV = true → us.countP (eqU y) = ys.countP fun z => eqV z y
  | _, _, .nil, _ => rfl
  | _, _, .cons r rs, h => by
    rw [List.all_cons, Bool.and_eq_true] at h
    rw [List.countP_cons, List.countP_cons, count_vals rs h.2, eqU_of r h.1]
section
variable {X : Cx}
theorem mt_countF : MtR X "list.count" (rCntF X.K) := by
  intro pins s σ H x xs v us Q I rx rxs h
  obtain ⟨a, ys, y, rfl, rfl, hs, fy, fys, q⟩ := h
  cases rx
  obtain ⟨u, rfl, ru⟩ := rxs.one
  obtain ⟨its, rv, ⟨⟨c0, d0, x0, y0⟩, n, ho, e1, e2, e3⟩, hlen⟩ := I.list hs
  dsimp only at e1 e3; subst e1; subst e3
  refine call_meets PySem.F.slot_list_count ⟨_, ho, rfl⟩ PySem.F.entry_list_count (PySem.F.args_list_count_2 _ _) (SeqAt.list_countAt a its.toArray n d0 y0 u (eqU y)) ⟨ho, fun z hz => mem_eqAt ru fy rv fys z (by simpa using hz), ?_⟩
  have e := count_vals (y := y) rv fys
  refine ⟨.int ((ys.countP fun z => eqV z y : Nat) : Int), H, I.tok _, ⟨s.toks, ?_⟩, q⟩
  show Value.int ((its.toArray.toList.countP (eqU y) : Nat) : Int) s.toks = _
  rw [show its.toArray.toList = its by simp, e]
end
def cntOf (d : D) : List D → Nat
  | [] => 0
  | x :: xs => (if eqS x d = true then 1 else 0) + cntOf d xs
def cntD (ds : List D) (ss : List D) : Option RV := match ss with
  | [d] => if (d.scal && allScal ds) = true then some ⟨.fz, .int (cntOf d ds : Nat)⟩ else none
  | _ => none
def dCnt (da : DE) (dl : DA) : DE := fun st => (da st).bind fun r => match r.d with
  | .lst ds => (dl st).bind fun rs => .of (cntD ds (dataOf rs))
  | _ => .bad
theorem cnt_v {K : PySem.W.Frag} {G : Hp} {d : D} (s : d.scal = true) : ∀ {vs : List V} {ds : List D}, RpAll K G vs ds → allScal ds = true → (vs.countP fun z => eqV z d.v) = cntOf d ds
  | [], [], _, _ => rfl
  | [], _ :: _, h, _ => by cases h
  | _ :: _, [], h, _ => by cases h
  | v :: vs, e :: es, h, a => by
    cases h with
    | cons h1 h2 =>
      have a' := Bool.and_eq_true_iff.mp a
      have := h1.scalV a'.1
      subst this
      rw [List.countP_cons, cnt_v s h2 a'.2, eqS_v a'.1 s]
      show _ = (if eqS e d = true then 1 else 0) + cntOf d es
      omega
section
variable {F : Fm} {M : Dm} {W : WX} {cv : Str → Value} {X : Cx} {o e : Expr} {apos cpos : Pos} {K : PySem.W.Frag}
theorem x_count {da : DE} {dl : DA} (hK : X.K = F.K) (ho : PE X o (TEx F W cv da)) (ha : PA X [e] (TAx F W cv dl))
    (hbase : attributeBase o "count" X.env (eval o X.env) = eval o X.env := by rfl)
    (hfew : ((backTo cpos (starEach (e :: []) X.env)).all (fun x => !x.1) && (backToKw cpos (keywordEach [] X.env)).all (fun x => x.1.isSome) && decide ((e :: []).length + ([] : List Keyword).length + (if ([] : List Keyword).isEmpty then 0 else 1) < 30)) = true := by rfl)
    (hline : (apos.endLine == cpos.line) = true := by rfl) (hst : starEach (e :: []) X.env = (false, eval e X.env) :: starEach [] X.env := by rfl) (hplain : (backTo cpos (starEach [] X.env)).any (·.1) = false := by rfl) :
    PE X (.Call (.Attribute o "count" apos) [e] [] cpos) (TEx F W cv (dCnt da dl)) := by
  refine pe_w (pe_bm PySem.F.plainAttrs_list PySem.F.slot_list_count PySem.F.type_list_count mt_countF ho ha hbase hfew hline hst hplain) fun σ H Q h => ?_
  show Tx F W cv (okE F) da σ H _
  refine tx_bind (okA := okE F) (okC := okE F) (f := fun r st => match r.d with
    | .lst ds => (dl st).bind fun rs => .of (cntD ds (dataOf rs))
    | _ => .bad) h fun M st O r x H1 R e1 R1 k1 h1 => ?_
  obtain ⟨k, d⟩ := r
  cases d with
  | lst ds =>
    have v1 : Vw F.K H1 O x (.lst ds) := k1.vw (T := F.T)
    obtain ⟨a, xs, hx, hs, hr⟩ := v1.lst
    subst hx
    refine ⟨.inl ⟨rfl, xs, .inl (.inl hs)⟩, M, st, O, R1, ?_⟩
    have h1 : OutP ((dl st).bind fun rs => Out.of (cntD ds (dataOf rs))) (fun t => ∀ y H', Ex F.T H1 H' → okE F H H' O y t → Q y H') (fun c => ∀ H', Ex F.T H1 H' → W (cv c) none σ H') := h1
    cases ql : dl st with
    | bad => rw [ql] at h1; exact h1.elim
    | exc c => rw [ql] at h1; exact h1
    | ok rs =>
      rw [ql] at h1
      obtain ⟨t, q1, q2⟩ := OutP.of h1
      intro vs H2 e2 k2
      unfold cntD at q1
      split at q1
      · rename_i d' hd'
        cases rs with
        | nil => cases hd'
        | cons s rs =>
          cases rs with
          | cons _ _ => cases hd'
          | nil =>
            cases hd'
            cases k2 with
            | cons ks _ kn =>
              cases kn
              split at q1
              · rename_i hsc
                have hsc := Bool.and_eq_true_iff.mp hsc
                have hv := (ks.vw (T := F.T)).scalV hsc.1
                subst hv
                cases q1
                have hs2 : H2 a = some (.lst xs) := e2.ext _ _ hs fun ps z => nomatch z
                have hr2 := (hide_ex (O := O) e2).rpAll _ _ hr
                refine ⟨a, xs, s.d.v, rfl, rfl, .inl (.inl hs2), flat_v hsc.1, (any_v hsc.1 hr2 hsc.2).1, ?_⟩
                rw [cnt_v hsc.1 hr2 hsc.2]
                exact q2 _ H2 e2 (Rp.int _)
              · cases q1
      · cases q1
  | _ => exact h1.elim
end
end Mini

set_option Elab.async false
set_option linter.all false
set_option maxRecDepth 100000
/-! Mini 32: a def called with the caught exception, while it is handled. -/
namespace Mini
open PySem L2 LamX PySem.Spec PyProof.Rows L2H
/-- what such a def promises: p is the exception that is handled -/
structure FnW (P : Program) (w : World) (K : PySem.W.Frag) (mg : Str → Option Value) (base : Heap) (CX : CXT) (k : Nat) (f : Addr) (fd : FuncData) (ps : List Str) (sp : Addr × Obj → Sp) : Prop where
  len : ∀ p vs H Q E, sp p vs H Q E → vs.length = ps.length
  run : ∀ (A : Around) (outer : List Env) (s : Shared) (H : Hp) (args : Args) (us : List Value) (vs : List V) (Q : VK) (E : XK) (p : Addr × Obj), RoomH k A → PinOk outer H s p → Env0 P w K mg base A outer s H → BindsTo s fd args (ps.zip us) → Vals vs us → sp p vs H Q E → codeAny (model P w) A (.call (.ref f) args) (CR CX outer P w H s Q E) s
theorem fn_ofW {CX : CXT} {P : Program} {w : World} {K : PySem.W.Frag} {mg : Str → Option Value} {base : Heap} {k : Nat} {f : Addr} {name qual : Str} {params : Arguments} {body : List Stmt} {scope : Scope} {dV kV doc pm cdv ct oc : Value} {an od : Option Addr} {osl : Array (Option Value)} {N ps : List Str} {sp : Addr × Obj → Sp}
    (lk : K.lookup f = some ⟨oc, od, .func (PySem.W.fnOf name qual params body scope dV kV doc pm an cdv ct), osl⟩) (hcd : PySem.W.codeIn K cdv qual = true) (S : FnScope N ps scope) (len : ∀ p vs H Q E, sp p vs H Q E → vs.length = ps.length)
    (hbody : ∀ (A : Around) (outer : List Env) (s : Shared) (H : Hp) (vs : List V) (Q : VK) (E : XK) (p : Addr × Obj), RoomH k (A.deeper (envOfC qual scope s.heap.objs.size f cdv)) → sp p vs H Q E →
      ∃ t, PSs (cxH CX P w K mg base N qual scope f cdv A outer s H E p) body t ∧ t { nx := fun _ H' => Q .non H', rt := Q } (L2.start N vs) H) :
    FnW P w K mg base CX (k + 1) f (PySem.W.fnOf name qual params body scope dV kV doc pm an cdv ct) ps sp := by
  refine ⟨len, fun A outer s H args us vs Q E p room pin e0 bnd rel want => ?_⟩
  have KS : K.In s.heap := e0.mod.kin.keeps fun b o e => (e0.bs b o e).1
  have noL : s.heap.NoLimit := e0.mod.nolimit.keeps fun b o e => (e0.bs b o e).1
  have kinds : ∀ y ∈ ps.zip us, scope.names.lookup y.1 = some .local ∨ (scope.names.lookup y.1 = some .cell ∧ ((cellsFrom (s.heap.objs.size + 1) scope.names []).lookup y.1).isSome = true) := by
    rintro ⟨n, v⟩ hy
    exact (S.par n (List.of_mem_zip hy).1).imp id fun q => ⟨q, PySem.W.cellsFrom_some _ _ _ (.inl q)⟩
  refine codeAny_call_function room.depth (KS _ _ lk) rfl S.co S.gen rfl (PySem.W.codeRec_of KS hcd) (bnd _ _ _ _ (wpAny_newFunctionEnv_cells S.kind kinds fun env he s1 x => ?_)); subst he
  refine ⟨noL.keeps x.toInCall.keep, codeAny_func ?_⟩
  obtain ⟨t, ht, hq⟩ := hbody A outer s H vs Q E p (room.deeper _) want
  refine wpAny_mono (ht.run [] s1 (L2.start N vs) H _ (inv_startH S pin e0 (len _ _ _ _ _ want) rel x) hq) (fun fl z hz => ?_) fun e z hz => hz
  cases fl with
  | ret u => obtain ⟨v, σ', H', J, rv, q⟩ := hz; exact ⟨v, H', J.os, J.bare, J.base, J.hok, rv, q⟩
  | next => obtain ⟨σ', H', J, q⟩ := hz; exact ⟨V.non, H', J.os, J.bare, J.base, J.hok, rfl, q⟩
  | brk => obtain ⟨_, _, _, q⟩ := hz; exact q.elim
  | cont => obtain ⟨_, _, _, q⟩ := hz; exact q.elim
section
variable {X : Cx} {CX : CXT} {k : Nat} {f : Addr} {fd : FuncData} {ps : List Str} {sp : Addr × Obj → Sp} {E : L2.St → XK} {x : Str} {q pos : Pos} {e : Expr} {es : List Expr} {t : TA} {p : Addr × Obj}
theorem pe_callW (Fn : FnW X.prog X.w X.K X.mg X.base CX k f fd ps sp) (room : RoomH k X.A) (hp : p ∈ X.pn) (hg : Gl X x) (hm : X.mg x = some (.ref f)) (hk : PySem.W.keepIn X.K (.ref f) = true) (hb : L2.Binds X.K fd ps []) (hx : ∀ σ, PassesAt CX X σ (E σ))
    (ha : PA X (e :: es) t) (hdb : (x == ("__debug__" : Str)) = false) (he : starEach (e :: es) X.env = (false, eval e X.env) :: starEach es X.env) (hpl : (backTo pos (starEach es X.env)).any (·.1) = false) :
    PE X (.Call (.Name x q) (e :: es) [] pos) (tCallS (sp p) E t) := by
  refine ⟨fun pins s σ H Q I h => wpAny_Call_Name_kw (ld_glob I hg hm ?_ hdb)⟩
  refine PySem.W.callWith_K (h₀ := X.base) I.ok.mod.kin hk (thn (ha.run pos pins s σ H _ I h) fun us s1 ⟨vs, H1, I1, r, want⟩ => ⟨I1.kIn, ?_⟩) he hpl
  have hl : us.length = ps.length := r.length.symm.trans (Fn.len _ _ _ _ _ want)
  have bnd := hb s1 us I1.kIn (by rw [List.append_nil]; exact hl); rw [List.append_nil] at bnd
  have pin := I1.pin p (List.mem_append_left _ hp)
  refine wpAny_call (codeAny_mono (Fn.run X.A X.stack s1 H1 ⟨us, []⟩ us vs Q (E σ) p room ⟨pin.1, pin.2.1, fun hm => (List.mem_cons.mp (I1.stkSub p.1 hm)).elim pin.2.2.1 pin.2.2.2.1, pin.2.2.2.2⟩ I1.env0 bnd r want) fun r z hz => ?_)
  cases r with
  | error e => exact hx σ pins H1 s1 e z I1 hz
  | ok fl =>
    cases fl with
    | ret u => exact I1.after hz
    | next => exact hz.elim
    | brk => exact hz.elim
    | cont => exact hz.elim
end
end Mini

set_option Elab.async false
set_option linter.all false
set_option maxRecDepth 100000
/-! Mini 33: the rules where an exception is handled; a def that is called with it. -/
namespace Mini
open PySem L2 LamX PySem.Spec PyProof.Rows L2H
structure CtxS (X : Cx) (F : Fm) : Prop where
  K : X.K = F.K
  nd : X.N.Nodup
  un : X.A.units + 200 < cLine
section
variable {F : Fm} {W : WX} {cv : Str → Value} {X : Cx} {a b e o : Expr} {pos p p2 p3 cpos apos : Pos} {x : Str} {da db de : DE} {dl : DA}
theorem c_neS (k : CtxS X F) : CmpR X F .NotEq neR := by rw [neR_eq]; exact ⟨_, by rw [← k.K]; exact op_neD (by have := k.un; omega), sim_neF⟩
theorem c_eqS (k : CtxS X F) : CmpR X F .Eq eqR := by rw [eqR_eq]; exact ⟨_, by rw [← k.K]; exact op_eqD (by have := k.un; omega), sim_eqF⟩
theorem y_valS (k : CtxS X F) (ha : PE X a (TEx F W cv da)) (he : ∀ whole, isTrue a X.env whole = (do let v ← whole; standAt a.pos; holding [v] (truthy v)) := by intro _; rfl) : PT X a (TTx F W cv (dTestR da trD)) := by rw [dTestR_eq]; exact s_truth k.K ha he
theorem x_ixS (k : CtxS X F) (ha : PE X a (TEx F W cv da)) (hb : PE X b (TEx F W cv db)) (hp : PlainIx b := by intro _ _; rfl) : PE X (.Subscript a b pos) (TEx F W cv (dOpR ixD da db)) := by rw [dOpR_eq]; exact s_ix (by rw [← k.K]; exact ix_seq) sim_ixD ha hb hp
theorem z_extendS {A : Acc} (k : CtxS X F) (on : okN x = true) (hv : Vis X.env.scope x) (ha : PA X [e] (TAx F W cv dl)) (hN : X.N[A.i]? = some x := by rfl)
    (hbase : attributeBase (.Name x p) "extend" X.env (eval (.Name x p) X.env) = eval (.Name x p) X.env := by rfl)
    (hfew : ((backTo cpos (starEach (e :: []) X.env)).all (fun x => !x.1) && (backToKw cpos (keywordEach [] X.env)).all (fun x => x.1.isSome) && decide ((e :: []).length + ([] : List Keyword).length + (if ([] : List Keyword).isEmpty then 0 else 1) < 30)) = true := by rfl)
    (hline : (apos.endLine == cpos.line) = true := by rfl) (hst : starEach (e :: []) X.env = (false, eval e X.env) :: starEach [] X.env := by rfl) (hplain : (backTo cpos (starEach [] X.env)).any (·.1) = false := by rfl)
    (hsw : swapsWith (.Call (.Attribute (.Name x p) "extend" apos) [e] [] cpos) none pos.line X.env = pure false := by rfl) :
    PS X (.Expr (.Call (.Attribute (.Name x p) "extend" apos) [e] [] cpos) pos) (TSx F W cv (dMutF A dl fExt)) := by rw [dMutF_eq]; exact s_extend k.K hN hv (okN.db on) (okN.cd on) ha hbase hfew hline hst hplain hsw
/-! ### isinstance of what is handled -/
theorem call_isW {ad D : Addr} {oe : Obj} (hp : (ad, oe) ∈ X.pn) (C : ExcC X.K D) (hz : Zc (.ref D) none oe) (hf : ∃ vs, oe.data = .fields vs) : CallR X (.builtin "isinstance") (rIsE X.K D ad) := by
  intro pins s σ H xs us Q I r h
  obtain ⟨c, cv, b, rfl, hcv, e, q⟩ := h
  cases r with
  | cons rx rr =>
    cases rr with
    | cons rt rr =>
      cases rr
      cases rx
      obtain rfl := hcv _ rt
      have here := (I.pin (ad, oe) (List.mem_append_left _ hp)).1
      have J : PySem.W.InstAt s.heap ad oe D none := by
        obtain ⟨c0, d0, x0, y0⟩ := oe
        obtain ⟨vs, hv⟩ := hf
        obtain ⟨h1, h2⟩ := hz
        dsimp only at h1 h2 hv
        subst h1 h2 hv
        exact ⟨here, rfl, rfl, trivial⟩
      exact PySem.W.kia_one (PySem.W.handS_kitx_exc C.hg C.hk C.hs C.hd C.ha C.hn C.ht C.hm) I.kIn J e (fun z => nomatch z) fun tk => ⟨.bl b, H, I.kept (t' := tk) fun _ _ z => z, rfl, q⟩
theorem x_isW {A : Acc} {n C : Str} {tab : Str → Option Bool} {ad : Addr} {oe : Obj} {c : Str} {cl : V} {cval : Value} (hp : (ad, oe) ∈ X.pn) (hv : Vis X.env.scope n) (on : okN n = true) (hg : Gl X "isinstance") (hm : X.mg "isinstance" = none)
    (hC : PE X (.Name C p) (tC cl)) (hcl : ∀ u, RelV cl u → u = cval) (hex : ∃ D, cv c = .ref D ∧ ExcC X.K D) (hz : Zc (cv c) none oe) (hf : ∃ vs, oe.data = .fields vs) (ht : ∀ b, tab c = some b → PySem.W.kitOne X.K (cv c) cval = some b)
    (hN : X.N[A.i]? = some n := by rfl)
    (he : starEach [.Name n p2, .Name C p] X.env = (false, eval (.Name n p2) X.env) :: starEach [.Name C p] X.env := by rfl) (he2 : starEach [.Name C p] X.env = (false, eval (.Name C p) X.env) :: starEach [] X.env := by rfl) (hpl : (backTo pos (starEach [.Name C p] X.env)).any (·.1) = false := by rfl) :
    PE X (.Call (.Name "isinstance" p3) [.Name n p2, .Name C p] [] pos) (TEx (F.ex ad c) W cv (dIsE A tab)) := by
  obtain ⟨Dd, hD, hE⟩ := hex
  refine pe_w (pe_callB (id := "isinstance") (call_isW hp hE (hD ▸ hz) hf) hg hm (by decide +kernel) (pa_cons (pe_var (i := A.i) hN hv (okN.db on) (okN.cd on)) (pa_cons hC pa_nil he2) he) (by decide) (by decide) he hpl) fun σ H Q h => ?_
  obtain ⟨M, st, O, R, h⟩ := h
  unfold dIsE at h
  cases q : A.g st with
  | none => rw [q] at h; exact h.elim
  | some v =>
    rw [q] at h
    cases v with
    | fz d => exact h.elim
    | own d => exact h.elim
    | exn c' =>
      obtain ⟨x, q1, q2, q3⟩ := R.slot _ _ (Acc.get q)
      subst q2
      subst q3
      cases q4 : tab c' with
      | none => simp only [q4] at h; exact h.elim
      | some b =>
        simp only [q4] at h
        exact ⟨.ref ad, q1, cl, cval, b, rfl, hcl, hD ▸ ht b q4, h (.bl b) H (Ex.refl _) (Rp.bl _)⟩
/-- a class of the program's own, by its name -/
theorem x_cls {C : Str} {E : Addr} (oC : okN C = true) (hgC : Gl X C) (hC : X.mg C = some (.ref E)) : PE X (.Name C pos) (tC (.ref E)) := pe_glob hgC hC rfl (okN.db oC)
end
/-! ### the def -/
def runE (n : Nat) (body : DS) (c : Str) : Out RV := match body (some (.exn c) :: List.replicate (n - 1) none) with
  | .ok (.rt r) => .ok r
  | _ => .bad
def spE (F : Fm) (cv : Str → Value) (rd : Str → Bool) (f : Str → Out RV) : Addr × Obj → Sp := fun p vs H Q _ => vs = [.ref p.1] ∧ ∃ c O, rd c = true ∧ Zc (cv c) none p.2 ∧ (∃ us, p.2.data = .fields us) ∧ Dom H O ∧ Tabs F.T H ∧
  OutP (f c) (fun r => ∀ v H', Ex F.T H H' → ResOk F.K H H' O v r → Q v H') (fun _ => False)
structure FnE (P : Program) (w : World) (mg : Str → Option Value) (base : Heap) (F : Fm) (cv : Str → Value) (rd : Str → Bool) (k : Nat) (x : Str) (ps : List Str) (f : Str → Out RV) : Prop where
  ex : ∃ a fd, FnW P w F.K mg base C8.CX0 k a fd ps (spE F cv rd f) ∧ mg x = some (.ref a) ∧ PySem.W.keepIn F.K (.ref a) = true ∧ L2.Binds F.K fd ps []
section
variable {F : Fm} {cv : Str → Value} {P : Program} {w : World} {mg : Str → Option Value} {base : Heap} {x y : Str} {st : Stmt} {N : List Str} {k : Nat} {body : DS} {rd : Str → Bool}
theorem start_exn {a : Addr} {c : Str} {H : Hp} {O : Zone} {n : Nat} (hd : Dom H O) (ht : Tabs F.T H) : Rel (F.ex a c) ⟨O, H⟩ (some (.exn c) :: List.replicate n none) (some (V.ref a) :: List.replicate n none) H O := by
  refine ⟨fun _ z => z, hd, ht, Ex.refl H, by simp, fun i v e => ?_, fun i j d d' b e => ?_⟩
  · cases i with
    | zero => cases e; exact ⟨_, rfl, rfl, rfl⟩
    | succ i =>
      rw [List.getElem?_cons_succ] at e
      have := List.mem_of_getElem? e
      rw [List.mem_replicate] at this
      cases this.2
  · cases i with
    | zero => cases e
    | succ i =>
      rw [List.getElem?_cons_succ] at e
      have := List.mem_of_getElem? e
      rw [List.mem_replicate] at this
      cases this.2
theorem fnE (h : DefAt F.K x st) {hh : Heap} (KX : F.K.In hh) (G : hh.Ns mainGlobals mg) (S : FnScope N [y] (defScope st)) (hN : 1 ≤ N.length)
    (hbind : ∀ (kV doc pm : Value) (an : Option Addr) (cdv ct : Value) (us : List Value), us.length = ([y] : List Str).length → bindArgs (PySem.W.fnOf x x (defArgs st) (defBody st) (defScope st) .none kV doc pm an cdv ct) ⟨us, []⟩ = pure (([y] : List Str).zip us))
    (hb : ∀ (f : Addr) (cdv : Value) (A : Around) (outer : List Env) (s : Shared) (H : Hp) (E : XK) (p : Addr × Obj) (c : Str), RoomH k (A.deeper (envOfC x (defScope st) s.heap.objs.size f cdv)) → rd c = true → Zc (cv c) none p.2 → (∃ us, p.2.data = .fields us) →
      CtxS (cxH C8.CX0 P w F.K mg base N x (defScope st) f cdv A outer s H E p) (F.ex p.1 c) →
      PSs (cxH C8.CX0 P w F.K mg base N x (defScope st) f cdv A outer s H E p) (defBody st) (TSx (F.ex p.1 c) Wb cv body)) : FnE P w mg base F cv rd (k + 1) x [y] (runE N.length body) := by
  obtain ⟨f, oc, od, kV, doc, pm, an, cdv, ct, osl, h1, h2, h3, h4⟩ := h
  refine ⟨f, _, fn_ofW h2 h3 S (fun p vs H Q E q => by rw [q.1]; rfl) fun A outer s H vs Q E p room want => ?_, PySem.W.mg_of KX G h1, h4, (fun_mk h2 h3 h4).binds hbind⟩
  obtain ⟨rfl, c, O, w1, w2, w3, w4, w5, w6⟩ := want
  refine ⟨_, hb f cdv A outer s H E p c room w1 w2 w3 ⟨rfl, S.nd, by have := room.un; show (A.deeper (envOfC x (defScope st) s.heap.objs.size f cdv)).units + 200 < cLine; omega⟩, ⟨O, H⟩, _, O, start_exn w4 w5, ?_⟩
  unfold runE at w6
  cases q : body (some (.exn c) :: List.replicate (N.length - 1) none) with
  | bad => rw [q] at w6; exact w6.elim
  | exc c => rw [q] at w6; exact w6.elim
  | ok fl =>
    rw [q] at w6
    cases fl with
    | rt r => exact fun v H' q => w6 v H' q.1 q.2
    | nx st => exact w6.elim
    | bk st => exact w6.elim
    | ct st => exact w6.elim
end
end Mini

set_option Elab.async false
set_option linter.all false
set_option maxRecDepth 100000
/-! Mini 34: told(lambda: e): try: return deed() / except X as e: return .. -/
namespace Mini
open PySem L2 LamX PySem.Spec PyProof.Rows L2H
/-! ### a def called with what was caught -/
def dCallE (A : Acc) (f : Str → Out RV) : DE := fun st => match A.g st with
  | some (.exn c) => match f c with
    | .ok r => .ok r
    | _ => .bad
  | _ => .bad
section
variable {F : Fm} {W : WX} {cv : Str → Value} {X : Cx} {pos p p2 : Pos} {x : Str}
theorem x_callE {A : Acc} {n : Str} {rd : Str → Bool} {f : Str → Out RV} {k : Nat} {ps : List Str} {ad : Addr} {oe : Obj} {c : Str} (hK : X.K = F.K) (FE : FnE X.prog X.w X.mg X.base F cv rd k x ps f) (room : RoomH k X.A) (hp : (ad, oe) ∈ X.pn) (hc : rd c = true) (hz : Zc (cv c) none oe) (hf : ∃ vs, oe.data = .fields vs)
    (hg : Gl X x) (ox : okN x = true) (hv : Vis X.env.scope n) (on : okN n = true) (hN : X.N[A.i]? = some n := by rfl)
    (he : starEach [.Name n p2] X.env = (false, eval (.Name n p2) X.env) :: starEach [] X.env := by rfl) (hpl : (backTo pos (starEach [] X.env)).any (·.1) = false := by rfl) :
    PE X (.Call (.Name x p) [.Name n p2] [] pos) (TEx (F.ex ad c) W cv (dCallE A f)) := by
  obtain ⟨g, fd, h1, h2, h3, h4⟩ := FE.ex
  rw [← hK] at h1 h3 h4
  refine pe_w (pe_callW (p := (ad, oe)) (E := fun _ => C8.E0) h1 room hp hg h2 h3 h4 (fun σ pins H s e s' I z => z.elim) (pa_cons (pe_var (i := A.i) hN hv (okN.db on) (okN.cd on)) pa_nil he) (okN.db ox) he hpl) fun σ H Q h => ?_
  obtain ⟨M, st, O, R, h⟩ := h
  unfold dCallE at h
  cases q : A.g st with
  | none => rw [q] at h; exact h.elim
  | some v =>
    rw [q] at h
    cases v with
    | fz d => exact h.elim
    | own d => exact h.elim
    | exn c' =>
      obtain ⟨y, q1, q2, q3⟩ := R.slot _ _ (Acc.get q)
      subst q2
      subst q3
      refine ⟨.ref ad, q1, rfl, c', O, hc, hz, hf, R.dom, R.tabs, ?_⟩
      cases q4 : f c' with
      | ok r => simp only [q4] at h; exact h
      | exc d => simp only [q4] at h; exact h.elim
      | bad => simp only [q4] at h; exact h.elim
end
/-! ### told -/
/-- what the suite comes to -/
def suiteE (ds : DS) (c : Str) : Out RV := match ds [none, some (.exn c)] with
  | .ok (.rt r) => .ok r
  | _ => .bad
def dTold (rd : Str → Bool) (de : DE) (fs : Str → Out RV) : DE := fun st => match de st with
  | .ok r => .ok r
  | .exc c => if rd c = true then (match fs c with | .ok r => .ok r | _ => .bad) else .bad
  | .bad => .bad
/-- what is wished of an exception of the lambda -/
def wTold (F : Fm) (cv : Str → Value) (rd : Str → Bool) (fs : Str → Out RV) (Q : VK) : XK := fun cls d H => ∃ c, cls = cv c ∧ d = none ∧ rd c = true ∧ ∃ O, Dom H O ∧ Tabs F.T H ∧ OutP (fs c) (fun r => ∀ v H2, Ex F.T H H2 → ResOk F.K H H2 O v r → Q v H2) (fun _ => False)
def TToldM (F : Fm) (cv : Str → Value) (rd : Str → Bool) (fs : Str → Out RV) : (XK → Hp → VK → Prop) → Hp → VK → Prop := fun tl H Q => tl (wTold F cv rd fs Q) H Q
section
variable {F : Fm} {W : WX} {cv : Str → Value} {X : Cx} {rd : Str → Bool} {ds : DS}
theorem told_givesM {Ng : List Str} {x a n e q : Str} {sg : Scope} {g : Addr} {cdg : Value} {suite : List Stmt} {b₀ : Stmt} {p1 p2 p3 p4 p7 p8 : Pos} (hNg : Ng = [a, n]) (hnd : Ng.Nodup) (hln : sg.names.lookup n = some .local) (hge : sg.names.lookup e = some .globalImplicit) (hme : X.mg e = some (cv e)) (hde : (e == ("__debug__" : Str)) = false)
    (hex : ∀ c, rd c = true → PySem.W.exmOne X.K (cv c) (cv e) = some true)
    (hsu : ∀ (s : Shared) (H : Hp) (ad : Addr) (oe : Obj) (c : Str) (pn : List (Addr × Obj)), rd c = true → Zc (cv c) none oe → (∃ vs, oe.data = .fields vs) → PSs ((cxOf C8.CX0 X.prog X.w X.K X.mg X.base Ng x sg g cdg X.A X.stack s H C8.E0).nox.suite ad ((ad, oe) :: pn)) (b₀ :: suite) (TSx (F.ex ad c) Wb cv ds)) :
    GivesTo X Ng x sg g cdg [.Try [.Return (some (.Call (.Name a p1) [] [] p2)) p3] [.ExceptHandler (some (.Name e p4)) (some n) (b₀ :: suite) p7] [] [] p8] a q (TToldM F cv rd (suiteE ds)) := by
  intro f c' s H Q tl act hc h
  subst hNg
  refine ⟨_, pss_one (ps_try_as (X := (cxOf C8.CX0 X.prog X.w X.K X.mg X.base [a, n] x sg g cdg X.A X.stack s H C8.E0).nox) (c := cv e) (i := 1)
      (tb := fun W D σ H => ∃ Ech : XK, (∀ cls d σ' H', Ech cls d H' → W cls d σ' H') ∧ σ[0]? = some (some (.ref f)) ∧ H c' = some (CodeO c' q) ∧ tl Ech H D.rt)
      (ts := fun ad cls d => fun D σ H => (∃ σ0 : L2.St, σ = σ0.set 1 (some (.ref ad))) ∧ wTold F cv rd (suiteE ds) D.rt cls d H) (Wout := fun _ _ _ _ => False)
      rfl rfl hnd rfl hln ⟨hge, hde, .inl hme⟩ LamX.takes0 (fun W pn xe tk _ => ?_) (fun ad oe cls d pn hz hv => ?_)), ?_⟩
  · refine ⟨fun pins s' σ H' D I h' => ?_⟩
    obtain ⟨Ech, hW, h1, h2, h3⟩ := h'
    exact (pss_one (ps_ret (pos := p3) (act W pn xe Ech p1 p2 tk hW))).run pins s' σ H' D I ⟨h1, h2, h3⟩
  · refine ⟨fun pins s' σ H' D I h' => ?_⟩
    obtain ⟨⟨σ0, rfl⟩, c, rfl, rfl, hrd, O, hd, ht, ho⟩ := h'
    refine (hsu s H ad oe c pn hrd hz hv).run pins s' _ H' D I ?_
    have hlen : (σ0.set 1 (some (V.ref ad))).length = 2 := I.len
    rw [List.length_set] at hlen
    match σ0, hlen with
    | [u, v], _ =>
      refine ⟨⟨O, H'⟩, [none, some (.exn c)], O, ⟨fun _ z => z, hd, ht, Ex.refl H', rfl, fun i v e => ?_, fun i j d d' b e => ?_⟩, ?_⟩
      · match i, e with
        | 0, e => cases e
        | 1, e => cases e; exact ⟨_, rfl, rfl, rfl⟩
        | i + 2, e => simp at e
      · match i, e with
        | 0, e => cases e
        | 1, e => cases e
        | i + 2, e => simp at e
      · unfold suiteE at ho
        cases q : ds [none, some (.exn c)] with
        | bad => rw [q] at ho; exact ho.elim
        | exc c => rw [q] at ho; exact ho.elim
        | ok fl =>
          rw [q] at ho
          cases fl with
          | rt r => exact fun v H2 z => ho v H2 z.1 z.2
          | nx st => exact ho.elim
          | bk st => exact ho.elim
          | ct st => exact ho.elim
  · refine ⟨wTold F cv rd (suiteE ds) Q, fun cls d σ' H' z => ?_, rfl, hc, h⟩
    obtain ⟨c, rfl, rfl, hrd, z⟩ := z
    exact ⟨true, hex c hrd, fun _ ad _ => ⟨⟨σ', rfl⟩, c, rfl, rfl, hrd, z⟩, fun z => nomatch z⟩
theorem ctx_lam {A : Around} {outer : List Env} {s : Shared} {H : Hp} {E : XK} {scope : Scope} {f c' : Addr} {m : Nat} (c : Ctx X F W) (hr : Room m (A.deeper (lamEnv X scope s.heap.objs.size f c'))) :
    Ctx (lamCx X A outer s H E scope f c') F (fun cls d _ H => E cls d H) := ⟨c.K, c.nd, rfl, takes_of rfl rfl rfl rfl, by
  have := hr.un
  show (A.deeper (lamEnv X scope s.heap.objs.size f c')).units + 200 < cLine
  omega⟩
/-- the def told, as the top has laid it -/
structure ToldAt (K : PySem.W.Frag) (mg : Str → Option Value) (x a : Str) (st : Stmt) (g : Addr) (cdv : Value) : Prop where
  m : mg x = some (.ref g)
  ex : ∃ (oc : Value) (od : Option Addr) (kV doc pm : Value) (an : Option Addr) (ct : Value) (osl : Array (Option Value)), K.lookup g = some ⟨oc, od, .func (PySem.W.fnOf x x (defArgs st) (defBody st) (defScope st) .none kV doc pm an cdv ct), osl⟩ ∧ PySem.W.codeIn K cdv x = true ∧ PySem.W.keepIn K (.ref g) = true
/-- what a maker of lambdas knows: its code object and the table -/
structure Maker (F : Fm) (X : Cx) : Prop where
  ex : ∃ c P, TabB X.base X.mg c P ∧ X.env.code = .ref c ∧ (P, X.env.qual ++ "<lambda>") ∈ F.T ∧ ∀ p ∈ F.T, p.1 = P → p.2 = X.env.qual ++ "<lambda>"
theorem x_told {de : DE} {x a n e : Str} {st : Stmt} {g : Addr} {cdv : Value} {b₀ : Stmt} {suite : List Stmt} {p1 p2 p3 p4 p7 p8 p lpos pos : Pos} {params : Arguments} {body : Expr} {scope : Scope} {m m' : Nat} (c : Ctx X F W) (hg : Gl X x) (ox : okN x = true) (td : ToldAt F.K X.mg x a st g cdv)
    (hbd : defBody st = [.Try [.Return (some (.Call (.Name a p1) [] [] p2)) p3] [.ExceptHandler (some (.Name e p4)) (some n) (b₀ :: suite) p7] [] [] p8]) (S : FnScope [a, n] [a] (defScope st)) (hva : Vis (defScope st) a) (hln : (defScope st).names.lookup n = some .local) (hge : (defScope st).names.lookup e = some .globalImplicit)
    (hbind0 : ∀ (kV doc pm : Value) (an : Option Addr) (cdv ct : Value) (us : List Value), us.length = ([a] : List Str).length → bindArgs (PySem.W.fnOf x x (defArgs st) (defBody st) (defScope st) .none kV doc pm an cdv ct) ⟨us, []⟩ = pure (([a] : List Str).zip us))
    (oa : okN a = true) (oe : okN e = true) (hme : X.mg e = some (cv e)) (hex : ∀ c, rd c = true → PySem.W.exmOne F.K (cv c) (cv e) = some true)
    (hsu : ∀ (s : Shared) (H : Hp) (ad : Addr) (oe : Obj) (c : Str) (pn : List (Addr × Obj)), rd c = true → Zc (cv c) none oe → (∃ vs, oe.data = .fields vs) → PSs ((cxOf C8.CX0 X.prog X.w F.K X.mg X.base [a, n] x (defScope st) g cdv X.A X.stack s H C8.E0).nox.suite ad ((ad, oe) :: pn)) (b₀ :: suite) (TSx (F.ex ad c) Wb cv ds))
    (mk : Maker F X) (hr : Room m X.A) (hmm : m' + 2 ≤ m) {sc0 : Scope} (hsc : X.env.scope = sc0) (L : lamSB sc0 scope = true) (hdef : defaultsOf params X.env = ([], []))
    (hbind : ∀ (q : Str) (cl : List (Str × Addr)) (pm cv ctv : Value), bindArgs (PySem.W.kla_fn "<lambda>" q params body scope cl pm cv ctv) ⟨[], []⟩ = pure [])
    (hbody : ∀ (A : Around) (outer : List Env) (s : Shared) (H : Hp) (E : XK) (f c' : Addr), Room m' (A.deeper (lamEnv X scope s.heap.objs.size f c')) → PE (lamCx X A outer s H E scope f c') body (TEx F (fun cls d _ H => E cls d H) cv de)) :
    PE X (.Call (.Name x p) [.Lambda params body scope lpos] [] pos) (TEx F W cv (dTold rd de (suiteE ds))) := by
  obtain ⟨oc, od, kV, doc, pm, an, ct, osl, t1, t2, t3⟩ := td.ex
  obtain ⟨cc, P, mk1, mk2, mk3, mk4⟩ := mk.ex
  have hK := c.K
  have hG : GivesTo X [a, n] x (defScope st) g cdv (defBody st) a (X.env.qual ++ "<lambda>") (TToldM F cv rd (suiteE ds)) := by
    rw [hbd]
    refine told_givesM rfl S.nd hln hge hme (okN.db oe) (by rw [hK]; exact hex) ?_
    rw [hK]
    exact hsu
  refine pe_w (pe_lamcall (T := F.T) (k := m') (TT := TToldM F cv rd (suiteE ds)) (t := fun E => TEx F (fun cls d _ H => E cls d H) cv de) hg td.m (by rw [hK]; exact t3) (by rw [hK]; exact t1) (by rw [hK]; exact t2) (by rw [hK]; exact (fun_mk t1 t2 t3).binds hbind0) S rfl hva hG mk1 mk2 mk3 mk4 (hr.mono hmm) (lamS_by (by rw [hsc]; exact L)) hdef hbind hbody (okN.db ox) (okN.db oa) (okN.cd oa)) fun σ H Q h => ?_
  obtain ⟨M, st', O, R, h⟩ := h
  refine ⟨R.tabs, fun H1 e1 t => ?_⟩
  have ex : Ex F.T H H1 := ⟨e1, fun _ => t⟩
  refine ⟨M, st', O, R.ex ex, ?_⟩
  unfold dTold at h
  cases q : de st' with
  | bad => rw [q] at h; exact h.elim
  | ok r =>
    rw [q] at h
    exact fun x H' e k => h x H' (ex.trans e) (k.back ex)
  | exc c =>
    rw [q] at h
    intro H' e
    by_cases hrd : rd c = true
    · simp only [hrd, if_true] at h
      have R2 := (R.ex ex).ex e
      refine ⟨c, rfl, rfl, hrd, O, R2.dom, R2.tabs, ?_⟩
      cases q2 : suiteE ds c with
      | ok r =>
        rw [q2] at h
        exact fun v H2 e2 k => h v H2 ((ex.trans e).trans e2) (k.back (ex.trans e))
      | exc d => rw [q2] at h; exact h.elim
      | bad => rw [q2] at h; exact h.elim
    · simp only [hrd] at h
      exact h.elim
end
end Mini

set_option Elab.async false
set_option linter.all false
set_option maxRecDepth 100000
/-! Mini 35: defs that make lambdas; the end of a law with their tables. -/
namespace Mini
open PySem L2 LamX PySem.Spec PyProof.Rows L2H
/-- the def of the text at st, with its code object -/
def DefC (K : PySem.W.Frag) (x : Str) (st : Stmt) (f : Addr) (cdv : Value) : Prop := ∃ (oc : Value) (od : Option Addr) (kV doc pm : Value) (an : Option Addr) (ct : Value) (osl : Array (Option Value)),
  PySem.W.nsIn K mainGlobals x = some (some (.ref f)) ∧ K.lookup f = some ⟨oc, od, .func (PySem.W.fnOf x x (defArgs st) (defBody st) (defScope st) .none kV doc pm an cdv ct), osl⟩ ∧ PySem.W.codeIn K cdv x = true ∧ PySem.W.keepIn K (.ref f) = true
theorem DefC.mk {K : PySem.W.Frag} {x : Str} {st : Stmt} {f : Addr} {oc : Value} {od : Option Addr} {kV doc pm : Value} {an : Option Addr} {cdv ct : Value} {osl : Array (Option Value)} (a : PySem.W.nsIn K mainGlobals x = some (some (.ref f)))
    (l : K.lookup f = some ⟨oc, od, .func (PySem.W.fnOf x x (defArgs st) (defBody st) (defScope st) .none kV doc pm an cdv ct), osl⟩) (c : PySem.W.codeIn K cdv x = true) (k : PySem.W.keepIn K (.ref f) = true) : DefC K x st f cdv := ⟨oc, od, kV, doc, pm, an, ct, osl, a, l, c, k⟩
theorem DefC.told {K : PySem.W.Frag} {h : Heap} {mg : Str → Option Value} {x a : Str} {st : Stmt} {f : Addr} {cdv : Value} (d : DefC K x st f cdv) (X : K.In h) (G : h.Ns mainGlobals mg) : ToldAt K mg x a st f cdv := by
  obtain ⟨oc, od, kV, doc, pm, an, ct, osl, h1, h2, h3, h4⟩ := d
  exact ⟨PySem.W.mg_of X G h1, oc, od, kV, doc, pm, an, ct, osl, h2, h3, h4⟩
/-- a maker of lambdas, at the ground base -/
def MakerB (F : Fm) (mg : Str → Option Value) (base : Heap) (q : Str) (cdv : Value) : Prop := ∃ c P, cdv = .ref c ∧ TabB base mg c P ∧ (P, q) ∈ F.T ∧ ∀ p ∈ F.T, p.1 = P → p.2 = q
section
variable {F : Fm} {cv : Str → Value} {P : Program} {w : World} {mg : Str → Option Value} {base : Heap} {x : Str} {st : Stmt} {N ps : List Str} {k : Nat} {body : DS}
theorem MakerB.maker {q : Str} {cdv : Value} {X : Cx} (m : MakerB F mg base q cdv) (h1 : X.mg = mg) (h2 : X.base = base) (h3 : X.env.code = cdv) (h4 : X.env.qual ++ "<lambda>" = q) : Maker F X := by
  obtain ⟨c, P, e, t, m1, m2⟩ := m
  exact ⟨c, P, by rw [h1, h2]; exact t, by rw [h3, e], by rw [h4]; exact m1, by rw [h4]; exact m2⟩
/-- okD, the code object known -/
theorem okDc {f : Addr} {oc : Value} {od : Option Addr} {kV doc pm : Value} {an : Option Addr} {cdv ct : Value} {osl : Array (Option Value)} (lk : F.K.lookup f = some ⟨oc, od, .func (PySem.W.fnOf x x (defArgs st) (defBody st) (defScope st) .none kV doc pm an cdv ct), osl⟩) (hcd : PySem.W.codeIn F.K cdv x = true) (S : FnScope N ps (defScope st))
    (hb : ∀ (A : Around) (outer : List Env) (s : Shared) (H : Hp) (E : XK), Room k (A.deeper (envOfC x (defScope st) s.heap.objs.size f cdv)) → PSs (cxOf (L2.CX P w) P w F.K mg base N x (defScope st) f cdv A outer s H E) (defBody st) (TSx F (fun cls d _ H => E cls d H) cv body)) :
    FnOk P w F.K mg base (L2.CX P w) (k + 1) f (PySem.W.fnOf x x (defArgs st) (defBody st) (defScope st) .none kV doc pm an cdv ct) ps (spD F cv ps.length (runD N.length body)) := by
  refine fn_of lk hcd S (fun vs H Q E h => h.1) fun A outer s H vs Q E hr h => ?_
  obtain ⟨hl, O, ds, h1, h2, h3, h4⟩ := h
  refine ⟨_, hb A outer s H E hr, ⟨O, H⟩, _, O, start_rel (T := F.T) h1 h2 h3, ?_⟩
  unfold runD at h4
  rw [forceL2_eq, forceS_eq] at h4
  cases q : body (startM N.length ds) with
  | bad => rw [q] at h4; exact h4.elim
  | exc c => rw [q] at h4; exact fun σ' H' e => h4 H' e
  | ok fl =>
    rw [q] at h4
    cases fl with
    | nx st => exact fun σ' H' O' R _ => h4 .non H' R.ex0 .non
    | rt r => exact fun v H' q => h4 v H' q.1 q.2
    | bk st => exact h4.elim
    | ct st => exact h4.elim
theorem fnDc {f : Addr} {cdv : Value} {hh : Heap} (h : DefC F.K x st f cdv) (KX : F.K.In hh) (G : hh.Ns mainGlobals mg) (S : FnScope N ps (defScope st))
    (hbind : ∀ (kV doc pm : Value) (an : Option Addr) (cdv ct : Value) (us : List Value), us.length = ps.length → bindArgs (PySem.W.fnOf x x (defArgs st) (defBody st) (defScope st) .none kV doc pm an cdv ct) ⟨us, []⟩ = pure (ps.zip us))
    (hb : ∀ (A : Around) (outer : List Env) (s : Shared) (H : Hp) (E : XK), Room k (A.deeper (envOfC x (defScope st) s.heap.objs.size f cdv)) →
      Ctx (cxOf (L2.CX P w) P w F.K mg base N x (defScope st) f cdv A outer s H E) F (fun cls d _ H => E cls d H) →
      PassesOwn (model P w) (cxOf (L2.CX P w) P w F.K mg base N x (defScope st) f cdv A outer s H E).A (cxOf (L2.CX P w) P w F.K mg base N x (defScope st) f cdv A outer s H E).env (cxOf (L2.CX P w) P w F.K mg base N x (defScope st) f cdv A outer s H E).xe →
      PSs (cxOf (L2.CX P w) P w F.K mg base N x (defScope st) f cdv A outer s H E) (defBody st) (TSx F (fun cls d _ H => E cls d H) cv body)) : FnD P w mg base F cv (k + 1) x ps (runD N.length body) := by
  obtain ⟨oc, od, kV, doc, pm, an, ct, osl, h1, h2, h3, h4⟩ := h
  exact ⟨f, _, okDc h2 h3 S fun A outer s H E hr => hb A outer s H E hr (ctx_def S.nd hr) (passes_of (K := fun e s'' => L2.CX P w outer H s E e s'') rfl), PySem.W.mg_of KX G h1, h4, (fun_mk h2 h3 h4).binds hbind⟩
/-- the law's promise, its tables empty -/
theorem spLaw_T {F : Fm} {cv : Str → Value} {d : List D → Out RV} (plain : ∀ ns : List Int, ns.length ≤ 63 → ∃ k, d [.scr ns] = .ok ⟨k, .bl true⟩) {H : Hp} {a : Addr} {ns : List Int} {E : XK} (hT : ∀ p ∈ F.T, H p.1 = some (.tbl #[])) (hl : ns.length ≤ 63) (hs : SqL F.K H a (ns.map V.int)) : spD F cv 1 d [.ref a] H (fun v _ => v = .bl true) E := by
  obtain ⟨k, hk⟩ := plain ns hl
  refine ⟨rfl, fun _ => False, [.scr ns], fun _ z => z.elim, fun p hp => TabS.nil (hT p hp), .cons (.scr (by rw [hide_none]; exact hs)) .nil, ?_⟩
  rw [hk]
  exact fun v H' _ r => (r.vw (T := F.T)).bl
theorem law_endT {l : PySem.W.OpenLaw} {F : Fm} {cv : Str → Value} {w : World} {mg : Str → Option Value} {h : Heap} {fa : Addr} {cs : List (Addr × Addr)} {d : List D → Out RV} {kk : Nat} (hFT : ∀ p ∈ F.T, ∃ c, (c, p.1) ∈ cs)
    (hT : ∀ p ∈ cs, h.get? p.2 = some { cls := .none, data := .fields #[] }) (nT : ∀ p ∈ cs, F.K.lookup p.2 = none) (C : ∀ p ∈ cs, PySem.W.CodeHd h p.1 p.2) (plain : ∀ ns : List Int, ns.length ≤ 63 → ∃ q, d [.scr ns] = .ok ⟨q, .bl true⟩) (hfa : mg "law" = some (.ref fa))
    (fd : FuncData) (ok' : ∀ base : Heap, F.K.In base → base.Ns mainGlobals mg → (∀ p ∈ cs, TabB base mg p.1 p.2) → FnOk l.prog w F.K mg base (L2.CX l.prog w) kk fa fd ["script"] (spD F cv 1 d)) (hb : ∀ (s : Shared) (u : Value), BindsTo s fd ⟨[u], []⟩ [("script", u)]) :
    LawAtS l w F.K (L2.CX l.prog w) kk 63 "script" mg fa h := by
  refine ⟨fd, cs, spD F cv 1 d, hT, nT, C, hb, fun H a ns hl _ hH hS => spLaw_T plain (fun p hp => ?_) hl hS, ok'⟩
  obtain ⟨c, hc⟩ := hFT p hp
  exact hH _ hc
end
end Mini

set_option Elab.async false
set_option linter.all false
set_option maxRecDepth 100000
/-! Mini 36: the same, as the printed texts call it. -/
namespace Mini
open PySem L2 LamX PySem.Spec PyProof.Rows L2H
section
variable {F : Fm} {W : WX} {cv : Str → Value} {X : Cx} {pos p p2 p3 : Pos} {x : Str}
theorem x_isWo {A : Acc} {n C : Str} {tab : Str → Option Bool} {ad : Addr} {oe : Obj} {c : Str} (hp : (ad, oe) ∈ X.pn) (hv : Vis X.env.scope n) (on : okN n = true) (hg : Gl X "isinstance") (hm : X.mg "isinstance" = none)
    (oC : okN C = true) (hgC : Gl X C) (hmC : X.mg C = some (cv C)) (hCr : ∃ E, cv C = .ref E) (hex : ∃ D, cv c = .ref D ∧ ExcC X.K D) (hz : Zc (cv c) none oe) (hf : ∃ vs, oe.data = .fields vs) (ht : ∀ b, tab c = some b → PySem.W.kitOne X.K (cv c) (cv C) = some b)
    (hN : X.N[A.i]? = some n := by rfl)
    (he : starEach [.Name n p2, .Name C p] X.env = (false, eval (.Name n p2) X.env) :: starEach [.Name C p] X.env := by rfl) (he2 : starEach [.Name C p] X.env = (false, eval (.Name C p) X.env) :: starEach [] X.env := by rfl) (hpl : (backTo pos (starEach [.Name C p] X.env)).any (·.1) = false := by rfl) :
    PE X (.Call (.Name "isinstance" p3) [.Name n p2, .Name C p] [] pos) (TEx (F.ex ad c) W cv (dIsE A tab)) := by
  obtain ⟨E, hE⟩ := hCr
  exact x_isW (cl := .ref E) (cval := cv C) hp hv on hg hm (x_cls oC hgC (by rw [hmC, hE])) (fun u r => by rw [hE]; exact r) hex hz hf ht hN he he2 hpl
theorem x_isWv {A : Acc} {n : Str} {tab : Str → Option Bool} {ad : Addr} {oe : Obj} {c : Str} (hp : (ad, oe) ∈ X.pn) (hv : Vis X.env.scope n) (on : okN n = true) (hg : Gl X "isinstance") (hm : X.mg "isinstance" = none)
    (hgC : Gl X "ValueError") (hmC : X.mg "ValueError" = none) (hex : ∃ D, cv c = .ref D ∧ ExcC X.K D) (hz : Zc (cv c) none oe) (hf : ∃ vs, oe.data = .fields vs) (ht : ∀ b, tab c = some b → PySem.W.kitOne X.K (cv c) (.type "ValueError") = some b)
    (hN : X.N[A.i]? = some n := by rfl)
    (he : starEach [.Name n p2, .Name "ValueError" p] X.env = (false, eval (.Name n p2) X.env) :: starEach [.Name "ValueError" p] X.env := by rfl) (he2 : starEach [.Name "ValueError" p] X.env = (false, eval (.Name "ValueError" p) X.env) :: starEach [] X.env := by rfl) (hpl : (backTo pos (starEach [.Name "ValueError" p] X.env)).any (·.1) = false := by rfl) :
    PE X (.Call (.Name "isinstance" p3) [.Name n p2, .Name "ValueError" p] [] pos) (TEx (F.ex ad c) W cv (dIsE A tab)) :=
  x_isW (cl := .ty "ValueError") (cval := .type "ValueError") hp hv on hg hm (pe_bltn (v := .ty "ValueError") hgC hmC (by decide +kernel) rfl) (fun u r => r) hex hz hf ht hN he he2 hpl
theorem vis_lam {A : Around} {outer : List Env} {s : Shared} {H : Hp} {E : XK} {scope : Scope} {f c' : Addr} {y : Str} (h : visK (scope.names.lookup y) = true) : Vis (lamCx X A outer s H E scope f c').env.scope y := by
  show Vis scope y
  unfold Vis
  cases q : scope.names.lookup y with
  | none => rw [q] at h; cases h
  | some k =>
    rw [q] at h
    cases k <;> first | exact .inl rfl | exact .inr (.inl rfl) | exact .inr (.inr rfl) | (cases h; done)
theorem gl_lam {A : Around} {outer : List Env} {s : Shared} {H : Hp} {E : XK} {scope : Scope} {f c' : Addr} {y : Str} (h : scope.names.lookup y = some .globalImplicit) : Gl (lamCx X A outer s H E scope f c') y := h
theorem roomT {A : Around} {m : Nat} {env : Env} {v : Option Value} (hr : Room (m + 1) A) : RoomH m ((A.deeper env).mark v) := by
  have := roomH_of hr
  have := this.deeper env
  exact ⟨this.dp, this.un⟩
end
/-- ValueError of what is raised -/
def ValAt (K : PySem.W.Frag) (x : Str) : Prop := ∃ C : Addr, PySem.W.nsIn K mainGlobals x = some (some (.ref C)) ∧ PySem.W.subIn K (.ref C) (.type "ValueError") = some true
theorem ValAt.mk {K : PySem.W.Frag} {x : Str} {C : Addr} (a : PySem.W.nsIn K mainGlobals x = some (some (.ref C))) (s : PySem.W.subIn K (.ref C) (.type "ValueError") = some true) : ValAt K x := ⟨C, a, s⟩
theorem ValAt.at {K : PySem.W.Frag} {x : Str} {h : Heap} {mg : Str → Option Value} (d : ValAt K x) (X : K.In h) (G : h.Ns mainGlobals mg) : PySem.W.kitOne K (cvOf mg x) (.type "ValueError") = some true := by
  obtain ⟨C, h1, h2⟩ := d
  unfold cvOf
  rw [PySem.W.mg_of X G h1]
  show (if (Value.ref C == Value.type "ValueError") = true then some true else PySem.W.kitCls K (.ref C) (.type "ValueError")) = some true
  rw [if_neg (by simp)]
  show (if PySem.W.kitMeta "ValueError" = true then PySem.W.subIn K (.ref C) (.type "ValueError") else none) = some true
  rw [if_pos (by decide +kernel)]
  exact h2
/-- the except suite of a def -/
def hSuite : List Stmt → List Stmt
  | [.Try _ [.ExceptHandler _ _ su _] _ _ _] => su
  | _ => []
end Mini

set_option Elab.async false
set_option linter.all false
set_option maxRecDepth 100000
/-! Mini 37: a < b of tuples and the like. -/
namespace Mini
open PySem L2 LamX PySem.Spec PyProof.Rows
section
variable {F : Fm} {W : WX} {K : PySem.W.Frag} {T : List (Addr × Str)} {X : Cx}
def someD : D → Bool
  | .non => false
  | _ => true
def ltOk (a b : D) : Bool := noDict a && noDict b && PySem.W.alike a.py b.py && someD a && decide (min a.py.depth b.py.depth ≤ 64)
def ltV : D → D → Option RV := fun a b => if ltOk a b = true then some (rz (.bl (PySem.W.dataLt a.py b.py))) else none
def rLtD (K : PySem.W.Frag) : R2 := fun x y H Q => ∃ d e, Dp K H x d ∧ Dp K H y e ∧ PySem.W.alike d e = true ∧ d ≠ .none ∧ min d.depth e.depth ≤ 64 ∧ Q (.bl (PySem.W.dataLt d e)) H
theorem op_ltD (hu : X.A.units + 64 < cLine) : OpR X (compareOp .Lt) (rLtD X.K) := by
  intro pins s σ H x y v u Q I rx ry h
  obtain ⟨d, e, hd, he, al, nn, dp, q⟩ := h
  obtain ⟨as, r1⟩ := Dp.reads I d x v hd rx
  obtain ⟨bs, r2⟩ := Dp.reads I e y u he ry
  exact PySem.W.rcLt_alike d e _ s v u as bs r1 r2 al nn (by omega) _ _ _ _ ⟨.bl _, H, I, rfl, q⟩
theorem sim_ltD : OpSim K T (rLtD K) ltV := by
  intro O H x y dx dy t Q hd v w q k
  unfold ltV at q
  split at q
  · rename_i hs
    cases q
    unfold ltOk at hs
    simp only [Bool.and_eq_true, decide_eq_true_eq] at hs
    obtain ⟨⟨⟨⟨h1, h2⟩, h3⟩, h4⟩, h5⟩ := hs
    refine ⟨dx.py, dy.py, (v.rp h1).dp, (w.rp h2).dp, h3, ?_, h5, k _ H (Ex.refl H) (Rp.bl _)⟩
    intro e
    cases dx with
    | non => cases h4
    | _ => simp [D.py] at e
  · cases q
theorem c_ltV (k : Ctx X F W) : CmpR X F .Lt ltV := ⟨_, by rw [← k.K]; exact op_ltD (by have := k.un; omega), sim_ltD⟩
end
def lt2 (p q : Int × Int) : Bool := if p.1 = q.1 then decide (p.2 < q.2) else decide (p.1 < q.1)
def pD (p : Int × Int) : D := .tup [.int p.1, .int p.2]
theorem pD_alike (p q : Int × Int) : PySem.W.alike (pD p).py (pD q).py = true := by simp [pD, D.py, D.pyAll, PySem.W.alike, PySem.W.alikeAll]
theorem pD_lt (p q : Int × Int) : PySem.W.dataLt (pD p).py (pD q).py = lt2 p q := by
  have al : ∀ i j : Int, PySem.W.alike (.int i) (.int j) = true := fun i j => by simp [PySem.W.alike]
  simp only [pD, D.py, D.pyAll]
  rw [PySem.W.dataLt_tuple, PySem.W.dataLt_cons (al _ _), PySem.W.dataLt_cons (al _ _)]
  unfold lt2
  by_cases h1 : p.1 = q.1
  · by_cases h2 : p.2 = q.2
    · simp [h1, h2, PyData.eqv, PyProof.Rows.lex_irrefl]
    · simp [h1, h2, PyData.eqv, PySem.W.dataLt_int]
  · simp [h1, PyData.eqv, PySem.W.dataLt_int]
theorem pD_eqv (p q : Int × Int) : PyData.eqv (pD p).py (pD q).py = decide (p = q) := by
  obtain ⟨a, b⟩ := p
  obtain ⟨c, d⟩ := q
  simp [pD, D.py, D.pyAll, PyData.eqv, PyData.eqvAll]
  rfl
theorem ltV_pair (p q : Int × Int) : ltV (pD p) (pD q) = some ⟨.fz, .bl (lt2 p q)⟩ := by
  unfold ltV
  rw [if_pos, pD_lt]
  all_goals first | rfl | (unfold ltOk; rw [pD_alike]; rfl)
def ppD (p : (Int × Int) × (Int × Int)) : D := .tup [pD p.1, pD p.2]
def lt4 (p q : (Int × Int) × (Int × Int)) : Bool := if p.1 = q.1 then lt2 p.2 q.2 else lt2 p.1 q.1
theorem ltV_pairs (p q : (Int × Int) × (Int × Int)) : ltV (ppD p) (ppD q) = some ⟨.fz, .bl (lt4 p q)⟩ := by
  have al : PySem.W.alike (ppD p).py (ppD q).py = true := by simp [ppD, pD, D.py, D.pyAll, PySem.W.alike, PySem.W.alikeAll]
  unfold ltV
  rw [if_pos]
  · show some (rz (.bl (PySem.W.dataLt (.tuple [(pD p.1).py, (pD p.2).py]) (.tuple [(pD q.1).py, (pD q.2).py])))) = _
    rw [PySem.W.dataLt_tuple, PySem.W.dataLt_cons (pD_alike _ _), PySem.W.dataLt_cons (pD_alike _ _), pD_eqv, pD_eqv, pD_lt, pD_lt]
    unfold lt4
    by_cases h1 : p.1 = q.1
    · by_cases h2 : p.2 = q.2
      · simp [h1, h2, PyProof.Rows.lex_irrefl, lt2, rz]
      · simp [h1, h2, rz]
    · simp [h1, rz]
  · unfold ltOk
    rw [al]
    rfl
end Mini

set_option Elab.async false
set_option linter.all false
set_option maxRecDepth 100000
/-! Mini 38: sum of a tuple of ints. -/
namespace Mini
open PySem L2 LamX PySem.Spec PyProof.Rows
section
variable {prog : Program} {w : World} {A : Around} {E : Value → Shared → Prop} {s : Shared} {l : Addr} {xs : Array (Int × Tok)}
theorem sum_tupG {Q : Value → Shared → Prop} (hh : A.handled = none) (hl : s.heap.IsTuple l (intItems xs))
    (h : ∀ h' tk t', (∀ b o, s.heap.get? b = some o → h'.get? b = some o) → Q (.int (preSum (numAt xs) xs.size) t') { s with heap := h', toks := tk }) :
    wpAny (model prog w) A (call (.builtin "sum") [.ref l]) Q E s := by
  have hlt : l < s.heap.objs.size := by obtain ⟨_, e, _⟩ := hl; exact Heap.lt_size e
  have hsz : ∀ o, (s.heap.push o).objs.size = s.heap.objs.size + 1 := fun o => Heap.size_push ..
  refine call_sum_walkG (wpAny_pyIter_tuple hl ?_)
  refine ⟨s.heap.objs.size, [s.heap.objs.size, l], [s.heap.objs.size], _, _, _, numAt xs, rfl, Walks.tuple (A := A.in1) hh _ l (Nat.ne_of_lt hlt) (intItems xs), ⟨⟨_, Heap.get?_push_size _ rfl, rfl, rfl⟩, hl.push _⟩, fun c hc => ?_, (fun _ _ => intItems_at), fun h' tk t' hk => ?_⟩
  · show c < (s.heap.push _).objs.size
    rw [hsz]
    simp at hc
    rcases hc with rfl | rfl
    · exact Nat.lt_succ_self _
    · exact Nat.lt_succ_of_lt hlt
  · have := h h' tk t' fun b o e => by
      refine hk b o (fun hm => ?_) (Heap.get?_push_of_some _ e)
      simp at hm
      exact absurd (hm ▸ Heap.lt_size e) (Nat.lt_irrefl _)
    simpa [intItems] using this
end
section
variable {F : Fm} {W : WX} {K : PySem.W.Frag} {T : List (Addr × Str)} {X : Cx}
def rSumT (K : PySem.W.Frag) : List V → Hp → VK → Prop := fun vs H Q => ∃ (a : Addr) (ns : List Int), vs = [V.ref a] ∧ SqT K H a (ns.map V.int) ∧ Q (.int ns.sum) H
theorem cr_sumT (hc : X.calm = true) : CallR X (.builtin "sum") (rSumT X.K) := by
  intro pins s σ H vs us Q I r h
  obtain ⟨a, ns, rfl, hs, q⟩ := h
  obtain ⟨its, rv, hl, _⟩ := I.tuple hs
  rw [Vals.ref1 r]
  have hi := rv.ints
  obtain ⟨xs, e⟩ := hi.allInts.items
  have hn : numsOf (intItems xs).toList = ns := by rw [← e]; exact hi.numsOf
  rw [nums_intItems] at hn
  have hl' : s.heap.IsTuple a its.toArray := hl
  rw [e] at hl'
  refine sum_tupG (I.ok.hd hc) hl' fun h' tk t' hk => ?_
  rw [preSum_eq, List.take_of_length_le (by simp), hn]
  exact ⟨.int _, H, I.kept hk, ⟨_, rfl⟩, q⟩
def sumV : List D → Option RV
  | [.tup ds] => match intsD ds with | some ns => some (rz (.int ns.sum)) | none => none
  | ds => sumD ds
theorem sim_sumV : CallSim K T (fun xs H Q => rSum K xs H Q ∨ rSumT K xs H Q) sumV := by
  intro O H xs ds t Q hd v q k
  unfold sumV at q
  split at q
  · split at q
    · rename_i es ns hn
      cases q
      obtain ⟨x, rfl, u⟩ := v.one
      obtain ⟨a, ys, rfl, h1, h2⟩ := u.tup
      rw [intsD_some hn] at h2
      rw [h2.ints_inv] at h1
      exact .inr ⟨a, ns, rfl, SqT.of h1, k _ H (Ex.refl H) (Rp.int _)⟩
    · cases q
  · exact .inl (sim_sumD O H _ _ _ _ hd v q k)
theorem b_sumV (k : Ctx X F W) : BltR X F "sum" sumV := ⟨"sum", _, boot_sum, by rw [← k.K]; exact CallR.or (cr_sum k.calm) (cr_sumT k.calm), sim_sumV⟩
theorem sumV_tup (xs : List Int) : sumV [.tup (xs.map D.int)] = some ⟨.fz, .int xs.sum⟩ := by
  show (match intsD (xs.map D.int) with | some ns => some (rz (.int ns.sum)) | none => none) = _
  have : intsD (xs.map D.int) = some xs := by
    induction xs with
    | nil => rfl
    | cons x xs ih => simp [intsD, ih]
  rw [this]
end
end Mini

set_option Elab.async false
set_option linter.all false
set_option maxRecDepth 100000
/-! Mini C0: the semantics reckoned by simp. -/
namespace Mini
open PySem L2 LamX
section

@[simp] theorem A0_g (a0 : Option SV) (r : MSt) : A0.g (a0 :: r) = a0 := (rfl)
@[simp] theorem A0_s (a0 : Option SV) (r : MSt) (v : SV) : A0.s (a0 :: r) v = some v :: r := (rfl)
@[simp] theorem A0_w (a0 : Option SV) (r : MSt) : A0.w (a0 :: r) = none :: r := (rfl)
@[simp] theorem A1_g (a0 a1 : Option SV) (r : MSt) : A1.g (a0 :: a1 :: r) = a1 := (rfl)
@[simp] theorem A1_s (a0 a1 : Option SV) (r : MSt) (v : SV) : A1.s (a0 :: a1 :: r) v = a0 :: some v :: r := (rfl)
@[simp] theorem A1_w (a0 a1 : Option SV) (r : MSt) : A1.w (a0 :: a1 :: r) = a0 :: none :: r := (rfl)
@[simp] theorem A2_g (a0 a1 a2 : Option SV) (r : MSt) : A2.g (a0 :: a1 :: a2 :: r) = a2 := (rfl)
@[simp] theorem A2_s (a0 a1 a2 : Option SV) (r : MSt) (v : SV) : A2.s (a0 :: a1 :: a2 :: r) v = a0 :: a1 :: some v :: r := (rfl)
@[simp] theorem A2_w (a0 a1 a2 : Option SV) (r : MSt) : A2.w (a0 :: a1 :: a2 :: r) = a0 :: a1 :: none :: r := (rfl)
@[simp] theorem A3_g (a0 a1 a2 a3 : Option SV) (r : MSt) : A3.g (a0 :: a1 :: a2 :: a3 :: r) = a3 := (rfl)
@[simp] theorem A3_s (a0 a1 a2 a3 : Option SV) (r : MSt) (v : SV) : A3.s (a0 :: a1 :: a2 :: a3 :: r) v = a0 :: a1 :: a2 :: some v :: r := (rfl)
@[simp] theorem A3_w (a0 a1 a2 a3 : Option SV) (r : MSt) : A3.w (a0 :: a1 :: a2 :: a3 :: r) = a0 :: a1 :: a2 :: none :: r := (rfl)
@[simp] theorem A4_g (a0 a1 a2 a3 a4 : Option SV) (r : MSt) : A4.g (a0 :: a1 :: a2 :: a3 :: a4 :: r) = a4 := (rfl)
@[simp] theorem A4_s (a0 a1 a2 a3 a4 : Option SV) (r : MSt) (v : SV) : A4.s (a0 :: a1 :: a2 :: a3 :: a4 :: r) v = a0 :: a1 :: a2 :: a3 :: some v :: r := (rfl)
@[simp] theorem A4_w (a0 a1 a2 a3 a4 : Option SV) (r : MSt) : A4.w (a0 :: a1 :: a2 :: a3 :: a4 :: r) = a0 :: a1 :: a2 :: a3 :: none :: r := (rfl)
@[simp] theorem A5_g (a0 a1 a2 a3 a4 a5 : Option SV) (r : MSt) : A5.g (a0 :: a1 :: a2 :: a3 :: a4 :: a5 :: r) = a5 := (rfl)
@[simp] theorem A5_s (a0 a1 a2 a3 a4 a5 : Option SV) (r : MSt) (v : SV) : A5.s (a0 :: a1 :: a2 :: a3 :: a4 :: a5 :: r) v = a0 :: a1 :: a2 :: a3 :: a4 :: some v :: r := (rfl)
@[simp] theorem A5_w (a0 a1 a2 a3 a4 a5 : Option SV) (r : MSt) : A5.w (a0 :: a1 :: a2 :: a3 :: a4 :: a5 :: r) = a0 :: a1 :: a2 :: a3 :: a4 :: none :: r := (rfl)
@[simp] theorem A6_g (a0 a1 a2 a3 a4 a5 a6 : Option SV) (r : MSt) : A6.g (a0 :: a1 :: a2 :: a3 :: a4 :: a5 :: a6 :: r) = a6 := (rfl)
@[simp] theorem A6_s (a0 a1 a2 a3 a4 a5 a6 : Option SV) (r : MSt) (v : SV) : A6.s (a0 :: a1 :: a2 :: a3 :: a4 :: a5 :: a6 :: r) v = a0 :: a1 :: a2 :: a3 :: a4 :: a5 :: some v :: r := (rfl)
@[simp] theorem A6_w (a0 a1 a2 a3 a4 a5 a6 : Option SV) (r : MSt) : A6.w (a0 :: a1 :: a2 :: a3 :: a4 :: a5 :: a6 :: r) = a0 :: a1 :: a2 :: a3 :: a4 :: a5 :: none :: r := (rfl)
@[simp] theorem A7_g (a0 a1 a2 a3 a4 a5 a6 a7 : Option SV) (r : MSt) : A7.g (a0 :: a1 :: a2 :: a3 :: a4 :: a5 :: a6 :: a7 :: r) = a7 := (rfl)
@[simp] theorem A7_s (a0 a1 a2 a3 a4 a5 a6 a7 : Option SV) (r : MSt) (v : SV) : A7.s (a0 :: a1 :: a2 :: a3 :: a4 :: a5 :: a6 :: a7 :: r) v = a0 :: a1 :: a2 :: a3 :: a4 :: a5 :: a6 :: some v :: r := (rfl)
@[simp] theorem A7_w (a0 a1 a2 a3 a4 a5 a6 a7 : Option SV) (r : MSt) : A7.w (a0 :: a1 :: a2 :: a3 :: a4 :: a5 :: a6 :: a7 :: r) = a0 :: a1 :: a2 :: a3 :: a4 :: a5 :: a6 :: none :: r := (rfl)
@[simp] theorem A8_g (a0 a1 a2 a3 a4 a5 a6 a7 a8 : Option SV) (r : MSt) : A8.g (a0 :: a1 :: a2 :: a3 :: a4 :: a5 :: a6 :: a7 :: a8 :: r) = a8 := (rfl)
@[simp] theorem A8_s (a0 a1 a2 a3 a4 a5 a6 a7 a8 : Option SV) (r : MSt) (v : SV) : A8.s (a0 :: a1 :: a2 :: a3 :: a4 :: a5 :: a6 :: a7 :: a8 :: r) v = a0 :: a1 :: a2 :: a3 :: a4 :: a5 :: a6 :: a7 :: some v :: r := (rfl)
@[simp] theorem A8_w (a0 a1 a2 a3 a4 a5 a6 a7 a8 : Option SV) (r : MSt) : A8.w (a0 :: a1 :: a2 :: a3 :: a4 :: a5 :: a6 :: a7 :: a8 :: r) = a0 :: a1 :: a2 :: a3 :: a4 :: a5 :: a6 :: a7 :: none :: r := (rfl)
@[simp] theorem A9_g (a0 a1 a2 a3 a4 a5 a6 a7 a8 a9 : Option SV) (r : MSt) : A9.g (a0 :: a1 :: a2 :: a3 :: a4 :: a5 :: a6 :: a7 :: a8 :: a9 :: r) = a9 := (rfl)
@[simp] theorem A9_s (a0 a1 a2 a3 a4 a5 a6 a7 a8 a9 : Option SV) (r : MSt) (v : SV) : A9.s (a0 :: a1 :: a2 :: a3 :: a4 :: a5 :: a6 :: a7 :: a8 :: a9 :: r) v = a0 :: a1 :: a2 :: a3 :: a4 :: a5 :: a6 :: a7 :: a8 :: some v :: r := (rfl)
@[simp] theorem A9_w (a0 a1 a2 a3 a4 a5 a6 a7 a8 a9 : Option SV) (r : MSt) : A9.w (a0 :: a1 :: a2 :: a3 :: a4 :: a5 :: a6 :: a7 :: a8 :: a9 :: r) = a0 :: a1 :: a2 :: a3 :: a4 :: a5 :: a6 :: a7 :: a8 :: none :: r := (rfl)
@[simp] theorem A10_g (a0 a1 a2 a3 a4 a5 a6 a7 a8 a9 a10 : Option SV) (r : MSt) : A10.g (a0 :: a1 :: a2 :: a3 :: a4 :: a5 :: a6 :: a7 :: a8 :: a9 :: a10 :: r) = a10 := (rfl)
@[simp] theorem A10_s (a0 a1 a2 a3 a4 a5 a6 a7 a8 a9 a10 : Option SV) (r : MSt) (v : SV) : A10.s (a0 :: a1 :: a2 :: a3 :: a4 :: a5 :: a6 :: a7 :: a8 :: a9 :: a10 :: r) v = a0 :: a1 :: a2 :: a3 :: a4 :: a5 :: a6 :: a7 :: a8 :: a9 :: some v :: r := (rfl)
@[simp] theorem A10_w (a0 a1 a2 a3 a4 a5 a6 a7 a8 a9 a10 : Option SV) (r : MSt) : A10.w (a0 :: a1 :: a2 :: a3 :: a4 :: a5 :: a6 :: a7 :: a8 :: a9 :: a10 :: r) = a0 :: a1 :: a2 :: a3 :: a4 :: a5 :: a6 :: a7 :: a8 :: a9 :: none :: r := (rfl)
@[simp] theorem A11_g (a0 a1 a2 a3 a4 a5 a6 a7 a8 a9 a10 a11 : Option SV) (r : MSt) : A11.g (a0 :: a1 :: a2 :: a3 :: a4 :: a5 :: a6 :: a7 :: a8 :: a9 :: a10 :: a11 :: r) = a11 := (rfl)
@[simp] theorem A11_s (a0 a1 a2 a3 a4 a5 a6 a7 a8 a9 a10 a11 : Option SV) (r : MSt) (v : SV) : A11.s (a0 :: a1 :: a2 :: a3 :: a4 :: a5 :: a6 :: a7 :: a8 :: a9 :: a10 :: a11 :: r) v = a0 :: a1 :: a2 :: a3 :: a4 :: a5 :: a6 :: a7 :: a8 :: a9 :: a10 :: some v :: r := (rfl)
@[simp] theorem A11_w (a0 a1 a2 a3 a4 a5 a6 a7 a8 a9 a10 a11 : Option SV) (r : MSt) : A11.w (a0 :: a1 :: a2 :: a3 :: a4 :: a5 :: a6 :: a7 :: a8 :: a9 :: a10 :: a11 :: r) = a0 :: a1 :: a2 :: a3 :: a4 :: a5 :: a6 :: a7 :: a8 :: a9 :: a10 :: none :: r := (rfl)
@[simp] theorem A12_g (a0 a1 a2 a3 a4 a5 a6 a7 a8 a9 a10 a11 a12 : Option SV) (r : MSt) : A12.g (a0 :: a1 :: a2 :: a3 :: a4 :: a5 :: a6 :: a7 :: a8 :: a9 :: a10 :: a11 :: a12 :: r) = a12 := (rfl)
@[simp] theorem A12_s (a0 a1 a2 a3 a4 a5 a6 a7 a8 a9 a10 a11 a12 : Option SV) (r : MSt) (v : SV) : A12.s (a0 :: a1 :: a2 :: a3 :: a4 :: a5 :: a6 :: a7 :: a8 :: a9 :: a10 :: a11 :: a12 :: r) v = a0 :: a1 :: a2 :: a3 :: a4 :: a5 :: a6 :: a7 :: a8 :: a9 :: a10 :: a11 :: some v :: r := (rfl)
@[simp] theorem A12_w (a0 a1 a2 a3 a4 a5 a6 a7 a8 a9 a10 a11 a12 : Option SV) (r : MSt) : A12.w (a0 :: a1 :: a2 :: a3 :: a4 :: a5 :: a6 :: a7 :: a8 :: a9 :: a10 :: a11 :: a12 :: r) = a0 :: a1 :: a2 :: a3 :: a4 :: a5 :: a6 :: a7 :: a8 :: a9 :: a10 :: a11 :: none :: r := (rfl)
@[simp] theorem A13_g (a0 a1 a2 a3 a4 a5 a6 a7 a8 a9 a10 a11 a12 a13 : Option SV) (r : MSt) : A13.g (a0 :: a1 :: a2 :: a3 :: a4 :: a5 :: a6 :: a7 :: a8 :: a9 :: a10 :: a11 :: a12 :: a13 :: r) = a13 := (rfl)
@[simp] theorem A13_s (a0 a1 a2 a3 a4 a5 a6 a7 a8 a9 a10 a11 a12 a13 : Option SV) (r : MSt) (v : SV) : A13.s (a0 :: a1 :: a2 :: a3 :: a4 :: a5 :: a6 :: a7 :: a8 :: a9 :: a10 :: a11 :: a12 :: a13 :: r) v = a0 :: a1 :: a2 :: a3 :: a4 :: a5 :: a6 :: a7 :: a8 :: a9 :: a10 :: a11 :: a12 :: some v :: r := (rfl)
@[simp] theorem A13_w (a0 a1 a2 a3 a4 a5 a6 a7 a8 a9 a10 a11 a12 a13 : Option SV) (r : MSt) : A13.w (a0 :: a1 :: a2 :: a3 :: a4 :: a5 :: a6 :: a7 :: a8 :: a9 :: a10 :: a11 :: a12 :: a13 :: r) = a0 :: a1 :: a2 :: a3 :: a4 :: a5 :: a6 :: a7 :: a8 :: a9 :: a10 :: a11 :: a12 :: none :: r := (rfl)
@[simp] theorem A14_g (a0 a1 a2 a3 a4 a5 a6 a7 a8 a9 a10 a11 a12 a13 a14 : Option SV) (r : MSt) : A14.g (a0 :: a1 :: a2 :: a3 :: a4 :: a5 :: a6 :: a7 :: a8 :: a9 :: a10 :: a11 :: a12 :: a13 :: a14 :: r) = a14 := (rfl)
@[simp] theorem A14_s (a0 a1 a2 a3 a4 a5 a6 a7 a8 a9 a10 a11 a12 a13 a14 : Option SV) (r : MSt) (v : SV) : A14.s (a0 :: a1 :: a2 :: a3 :: a4 :: a5 :: a6 :: a7 :: a8 :: a9 :: a10 :: a11 :: a12 :: a13 :: a14 :: r) v = a0 :: a1 :: a2 :: a3 :: a4 :: a5 :: a6 :: a7 :: a8 :: a9 :: a10 :: a11 :: a12 :: a13 :: some v :: r := (rfl)
@[simp] theorem A14_w (a0 a1 a2 a3 a4 a5 a6 a7 a8 a9 a10 a11 a12 a13 a14 : Option SV) (r : MSt) : A14.w (a0 :: a1 :: a2 :: a3 :: a4 :: a5 :: a6 :: a7 :: a8 :: a9 :: a10 :: a11 :: a12 :: a13 :: a14 :: r) = a0 :: a1 :: a2 :: a3 :: a4 :: a5 :: a6 :: a7 :: a8 :: a9 :: a10 :: a11 :: a12 :: a13 :: none :: r := (rfl)
@[simp] theorem A15_g (a0 a1 a2 a3 a4 a5 a6 a7 a8 a9 a10 a11 a12 a13 a14 a15 : Option SV) (r : MSt) : A15.g (a0 :: a1 :: a2 :: a3 :: a4 :: a5 :: a6 :: a7 :: a8 :: a9 :: a10 :: a11 :: a12 :: a13 :: a14 :: a15 :: r) = a15 := (rfl)
@[simp] theorem A15_s (a0 a1 a2 a3 a4 a5 a6 a7 a8 a9 a10 a11 a12 a13 a14 a15 : Option SV) (r : MSt) (v : SV) : A15.s (a0 :: a1 :: a2 :: a3 :: a4 :: a5 :: a6 :: a7 :: a8 :: a9 :: a10 :: a11 :: a12 :: a13 :: a14 :: a15 :: r) v = a0 :: a1 :: a2 :: a3 :: a4 :: a5 :: a6 :: a7 :: a8 :: a9 :: a10 :: a11 :: a12 :: a13 :: a14 :: some v :: r := (rfl)
@[simp] theorem A15_w (a0 a1 a2 a3 a4 a5 a6 a7 a8 a9 a10 a11 a12 a13 a14 a15 : Option SV) (r : MSt) : A15.w (a0 :: a1 :: a2 :: a3 :: a4 :: a5 :: a6 :: a7 :: a8 :: a9 :: a10 :: a11 :: a12 :: a13 :: a14 :: a15 :: r) = a0 :: a1 :: a2 :: a3 :: a4 :: a5 :: a6 :: a7 :: a8 :: a9 :: a10 :: a11 :: a12 :: a13 :: a14 :: none :: r := (rfl)
@[simp] theorem A16_g (a0 a1 a2 a3 a4 a5 a6 a7 a8 a9 a10 a11 a12 a13 a14 a15 a16 : Option SV) (r : MSt) : A16.g (a0 :: a1 :: a2 :: a3 :: a4 :: a5 :: a6 :: a7 :: a8 :: a9 :: a10 :: a11 :: a12 :: a13 :: a14 :: a15 :: a16 :: r) = a16 := (rfl)
@[simp] theorem A16_s (a0 a1 a2 a3 a4 a5 a6 a7 a8 a9 a10 a11 a12 a13 a14 a15 a16 : Option SV) (r : MSt) (v : SV) : A16.s (a0 :: a1 :: a2 :: a3 :: a4 :: a5 :: a6 :: a7 :: a8 :: a9 :: a10 :: a11 :: a12 :: a13 :: a14 :: a15 :: a16 :: r) v = a0 :: a1 :: a2 :: a3 :: a4 :: a5 :: a6 :: a7 :: a8 :: a9 :: a10 :: a11 :: a12 :: a13 :: a14 :: a15 :: some v :: r := (rfl)
@[simp] theorem A16_w (a0 a1 a2 a3 a4 a5 a6 a7 a8 a9 a10 a11 a12 a13 a14 a15 a16 : Option SV) (r : MSt) : A16.w (a0 :: a1 :: a2 :: a3 :: a4 :: a5 :: a6 :: a7 :: a8 :: a9 :: a10 :: a11 :: a12 :: a13 :: a14 :: a15 :: a16 :: r) = a0 :: a1 :: a2 :: a3 :: a4 :: a5 :: a6 :: a7 :: a8 :: a9 :: a10 :: a11 :: a12 :: a13 :: a14 :: a15 :: none :: r := (rfl)
@[simp] theorem A17_g (a0 a1 a2 a3 a4 a5 a6 a7 a8 a9 a10 a11 a12 a13 a14 a15 a16 a17 : Option SV) (r : MSt) : A17.g (a0 :: a1 :: a2 :: a3 :: a4 :: a5 :: a6 :: a7 :: a8 :: a9 :: a10 :: a11 :: a12 :: a13 :: a14 :: a15 :: a16 :: a17 :: r) = a17 := (rfl)
@[simp] theorem A17_s (a0 a1 a2 a3 a4 a5 a6 a7 a8 a9 a10 a11 a12 a13 a14 a15 a16 a17 : Option SV) (r : MSt) (v : SV) : A17.s (a0 :: a1 :: a2 :: a3 :: a4 :: a5 :: a6 :: a7 :: a8 :: a9 :: a10 :: a11 :: a12 :: a13 :: a14 :: a15 :: a16 :: a17 :: r) v = a0 :: a1 :: a2 :: a3 :: a4 :: a5 :: a6 :: a7 :: a8 :: a9 :: a10 :: a11 :: a12 :: a13 :: a14 :: a15 :: a16 :: some v :: r := (rfl)
@[simp] theorem A17_w (a0 a1 a2 a3 a4 a5 a6 a7 a8 a9 a10 a11 a12 a13 a14 a15 a16 a17 : Option SV) (r : MSt) : A17.w (a0 :: a1 :: a2 :: a3 :: a4 :: a5 :: a6 :: a7 :: a8 :: a9 :: a10 :: a11 :: a12 :: a13 :: a14 :: a15 :: a16 :: a17 :: r) = a0 :: a1 :: a2 :: a3 :: a4 :: a5 :: a6 :: a7 :: a8 :: a9 :: a10 :: a11 :: a12 :: a13 :: a14 :: a15 :: a16 :: none :: r := (rfl)
@[simp] theorem A18_g (a0 a1 a2 a3 a4 a5 a6 a7 a8 a9 a10 a11 a12 a13 a14 a15 a16 a17 a18 : Option SV) (r : MSt) : A18.g (a0 :: a1 :: a2 :: a3 :: a4 :: a5 :: a6 :: a7 :: a8 :: a9 :: a10 :: a11 :: a12 :: a13 :: a14 :: a15 :: a16 :: a17 :: a18 :: r) = a18 := (rfl)
@[simp] theorem A18_s (a0 a1 a2 a3 a4 a5 a6 a7 a8 a9 a10 a11 a12 a13 a14 a15 a16 a17 a18 : Option SV) (r : MSt) (v : SV) : A18.s (a0 :: a1 :: a2 :: a3 :: a4 :: a5 :: a6 :: a7 :: a8 :: a9 :: a10 :: a11 :: a12 :: a13 :: a14 :: a15 :: a16 :: a17 :: a18 :: r) v = a0 :: a1 :: a2 :: a3 :: a4 :: a5 :: a6 :: a7 :: a8 :: a9 :: a10 :: a11 :: a12 :: a13 :: a14 :: a15 :: a16 :: a17 :: some v :: r := (rfl)
@[simp] theorem A18_w (a0 a1 a2 a3 a4 a5 a6 a7 a8 a9 a10 a11 a12 a13 a14 a15 a16 a17 a18 : Option SV) (r : MSt) : A18.w (a0 :: a1 :: a2 :: a3 :: a4 :: a5 :: a6 :: a7 :: a8 :: a9 :: a10 :: a11 :: a12 :: a13 :: a14 :: a15 :: a16 :: a17 :: a18 :: r) = a0 :: a1 :: a2 :: a3 :: a4 :: a5 :: a6 :: a7 :: a8 :: a9 :: a10 :: a11 :: a12 :: a13 :: a14 :: a15 :: a16 :: a17 :: none :: r := (rfl)
@[simp] theorem A19_g (a0 a1 a2 a3 a4 a5 a6 a7 a8 a9 a10 a11 a12 a13 a14 a15 a16 a17 a18 a19 : Option SV) (r : MSt) : A19.g (a0 :: a1 :: a2 :: a3 :: a4 :: a5 :: a6 :: a7 :: a8 :: a9 :: a10 :: a11 :: a12 :: a13 :: a14 :: a15 :: a16 :: a17 :: a18 :: a19 :: r) = a19 := (rfl)
@[simp] theorem A19_s (a0 a1 a2 a3 a4 a5 a6 a7 a8 a9 a10 a11 a12 a13 a14 a15 a16 a17 a18 a19 : Option SV) (r : MSt) (v : SV) : A19.s (a0 :: a1 :: a2 :: a3 :: a4 :: a5 :: a6 :: a7 :: a8 :: a9 :: a10 :: a11 :: a12 :: a13 :: a14 :: a15 :: a16 :: a17 :: a18 :: a19 :: r) v = a0 :: a1 :: a2 :: a3 :: a4 :: a5 :: a6 :: a7 :: a8 :: a9 :: a10 :: a11 :: a12 :: a13 :: a14 :: a15 :: a16 :: a17 :: a18 :: some v :: r := (rfl)
@[simp] theorem A19_w (a0 a1 a2 a3 a4 a5 a6 a7 a8 a9 a10 a11 a12 a13 a14 a15 a16 a17 a18 a19 : Option SV) (r : MSt) : A19.w (a0 :: a1 :: a2 :: a3 :: a4 :: a5 :: a6 :: a7 :: a8 :: a9 :: a10 :: a11 :: a12 :: a13 :: a14 :: a15 :: a16 :: a17 :: a18 :: a19 :: r) = a0 :: a1 :: a2 :: a3 :: a4 :: a5 :: a6 :: a7 :: a8 :: a9 :: a10 :: a11 :: a12 :: a13 :: a14 :: a15 :: a16 :: a17 :: a18 :: none :: r := (rfl)
@[simp] theorem A20_g (a0 a1 a2 a3 a4 a5 a6 a7 a8 a9 a10 a11 a12 a13 a14 a15 a16 a17 a18 a19 a20 : Option SV) (r : MSt) : A20.g (a0 :: a1 :: a2 :: a3 :: a4 :: a5 :: a6 :: a7 :: a8 :: a9 :: a10 :: a11 :: a12 :: a13 :: a14 :: a15 :: a16 :: a17 :: a18 :: a19 :: a20 :: r) = a20 := (rfl)
@[simp] theorem A20_s (a0 a1 a2 a3 a4 a5 a6 a7 a8 a9 a10 a11 a12 a13 a14 a15 a16 a17 a18 a19 a20 : Option SV) (r : MSt) (v : SV) : A20.s (a0 :: a1 :: a2 :: a3 :: a4 :: a5 :: a6 :: a7 :: a8 :: a9 :: a10 :: a11 :: a12 :: a13 :: a14 :: a15 :: a16 :: a17 :: a18 :: a19 :: a20 :: r) v = a0 :: a1 :: a2 :: a3 :: a4 :: a5 :: a6 :: a7 :: a8 :: a9 :: a10 :: a11 :: a12 :: a13 :: a14 :: a15 :: a16 :: a17 :: a18 :: a19 :: some v :: r := (rfl)
@[simp] theorem A20_w (a0 a1 a2 a3 a4 a5 a6 a7 a8 a9 a10 a11 a12 a13 a14 a15 a16 a17 a18 a19 a20 : Option SV) (r : MSt) : A20.w (a0 :: a1 :: a2 :: a3 :: a4 :: a5 :: a6 :: a7 :: a8 :: a9 :: a10 :: a11 :: a12 :: a13 :: a14 :: a15 :: a16 :: a17 :: a18 :: a19 :: a20 :: r) = a0 :: a1 :: a2 :: a3 :: a4 :: a5 :: a6 :: a7 :: a8 :: a9 :: a10 :: a11 :: a12 :: a13 :: a14 :: a15 :: a16 :: a17 :: a18 :: a19 :: none :: r := (rfl)
@[simp] theorem A21_g (a0 a1 a2 a3 a4 a5 a6 a7 a8 a9 a10 a11 a12 a13 a14 a15 a16 a17 a18 a19 a20 a21 : Option SV) (r : MSt) : A21.g (a0 :: a1 :: a2 :: a3 :: a4 :: a5 :: a6 :: a7 :: a8 :: a9 :: a10 :: a11 :: a12 :: a13 :: a14 :: a15 :: a16 :: a17 :: a18 :: a19 :: a20 :: a21 :: r) = a21 := (rfl)
@[simp] theorem A21_s (a0 a1 a2 a3 a4 a5 a6 a7 a8 a9 a10 a11 a12 a13 a14 a15 a16 a17 a18 a19 a20 a21 : Option SV) (r : MSt) (v : SV) : A21.s (a0 :: a1 :: a2 :: a3 :: a4 :: a5 :: a6 :: a7 :: a8 :: a9 :: a10 :: a11 :: a12 :: a13 :: a14 :: a15 :: a16 :: a17 :: a18 :: a19 :: a20 :: a21 :: r) v = a0 :: a1 :: a2 :: a3 :: a4 :: a5 :: a6 :: a7 :: a8 :: a9 :: a10 :: a11 :: a12 :: a13 :: a14 :: a15 :: a16 :: a17 :: a18 :: a19 :: a20 :: some v :: r := (rfl)
@[simp] theorem A21_w (a0 a1 a2 a3 a4 a5 a6 a7 a8 a9 a10 a11 a12 a13 a14 a15 a16 a17 a18 a19 a20 a21 : Option SV) (r : MSt) : A21.w (a0 :: a1 :: a2 :: a3 :: a4 :: a5 :: a6 :: a7 :: a8 :: a9 :: a10 :: a11 :: a12 :: a13 :: a14 :: a15 :: a16 :: a17 :: a18 :: a19 :: a20 :: a21 :: r) = a0 :: a1 :: a2 :: a3 :: a4 :: a5 :: a6 :: a7 :: a8 :: a9 :: a10 :: a11 :: a12 :: a13 :: a14 :: a15 :: a16 :: a17 :: a18 :: a19 :: a20 :: none :: r := (rfl)
@[simp] theorem A22_g (a0 a1 a2 a3 a4 a5 a6 a7 a8 a9 a10 a11 a12 a13 a14 a15 a16 a17 a18 a19 a20 a21 a22 : Option SV) (r : MSt) : A22.g (a0 :: a1 :: a2 :: a3 :: a4 :: a5 :: a6 :: a7 :: a8 :: a9 :: a10 :: a11 :: a12 :: a13 :: a14 :: a15 :: a16 :: a17 :: a18 :: a19 :: a20 :: a21 :: a22 :: r) = a22 := (rfl)
@[simp] theorem A22_s (a0 a1 a2 a3 a4 a5 a6 a7 a8 a9 a10 a11 a12 a13 a14 a15 a16 a17 a18 a19 a20 a21 a22 : Option SV) (r : MSt) (v : SV) : A22.s (a0 :: a1 :: a2 :: a3 :: a4 :: a5 :: a6 :: a7 :: a8 :: a9 :: a10 :: a11 :: a12 :: a13 :: a14 :: a15 :: a16 :: a17 :: a18 :: a19 :: a20 :: a21 :: a22 :: r) v = a0 :: a1 :: a2 :: a3 :: a4 :: a5 :: a6 :: a7 :: a8 :: a9 :: a10 :: a11 :: a12 :: a13 :: a14 :: a15 :: a16 :: a17 :: a18 :: a19 :: a20 :: a21 :: some v :: r := (rfl)
@[simp] theorem A22_w (a0 a1 a2 a3 a4 a5 a6 a7 a8 a9 a10 a11 a12 a13 a14 a15 a16 a17 a18 a19 a20 a21 a22 : Option SV) (r : MSt) : A22.w (a0 :: a1 :: a2 :: a3 :: a4 :: a5 :: a6 :: a7 :: a8 :: a9 :: a10 :: a11 :: a12 :: a13 :: a14 :: a15 :: a16 :: a17 :: a18 :: a19 :: a20 :: a21 :: a22 :: r) = a0 :: a1 :: a2 :: a3 :: a4 :: a5 :: a6 :: a7 :: a8 :: a9 :: a10 :: a11 :: a12 :: a13 :: a14 :: a15 :: a16 :: a17 :: a18 :: a19 :: a20 :: a21 :: none :: r := (rfl)
@[simp] theorem A23_g (a0 a1 a2 a3 a4 a5 a6 a7 a8 a9 a10 a11 a12 a13 a14 a15 a16 a17 a18 a19 a20 a21 a22 a23 : Option SV) (r : MSt) : A23.g (a0 :: a1 :: a2 :: a3 :: a4 :: a5 :: a6 :: a7 :: a8 :: a9 :: a10 :: a11 :: a12 :: a13 :: a14 :: a15 :: a16 :: a17 :: a18 :: a19 :: a20 :: a21 :: a22 :: a23 :: r) = a23 := (rfl)
@[simp] theorem A23_s (a0 a1 a2 a3 a4 a5 a6 a7 a8 a9 a10 a11 a12 a13 a14 a15 a16 a17 a18 a19 a20 a21 a22 a23 : Option SV) (r : MSt) (v : SV) : A23.s (a0 :: a1 :: a2 :: a3 :: a4 :: a5 :: a6 :: a7 :: a8 :: a9 :: a10 :: a11 :: a12 :: a13 :: a14 :: a15 :: a16 :: a17 :: a18 :: a19 :: a20 :: a21 :: a22 :: a23 :: r) v = a0 :: a1 :: a2 :: a3 :: a4 :: a5 :: a6 :: a7 :: a8 :: a9 :: a10 :: a11 :: a12 :: a13 :: a14 :: a15 :: a16 :: a17 :: a18 :: a19 :: a20 :: a21 :: a22 :: some v :: r := (rfl)
@[simp] theorem A23_w (a0 a1 a2 a3 a4 a5 a6 a7 a8 a9 a10 a11 a12 a13 a14 a15 a16 a17 a18 a19 a20 a21 a22 a23 : Option SV) (r : MSt) : A23.w (a0 :: a1 :: a2 :: a3 :: a4 :: a5 :: a6 :: a7 :: a8 :: a9 :: a10 :: a11 :: a12 :: a13 :: a14 :: a15 :: a16 :: a17 :: a18 :: a19 :: a20 :: a21 :: a22 :: a23 :: r) = a0 :: a1 :: a2 :: a3 :: a4 :: a5 :: a6 :: a7 :: a8 :: a9 :: a10 :: a11 :: a12 :: a13 :: a14 :: a15 :: a16 :: a17 :: a18 :: a19 :: a20 :: a21 :: a22 :: none :: r := (rfl)
@[simp] theorem A24_g (a0 a1 a2 a3 a4 a5 a6 a7 a8 a9 a10 a11 a12 a13 a14 a15 a16 a17 a18 a19 a20 a21 a22 a23 a24 : Option SV) (r : MSt) : A24.g (a0 :: a1 :: a2 :: a3 :: a4 :: a5 :: a6 :: a7 :: a8 :: a9 :: a10 :: a11 :: a12 :: a13 :: a14 :: a15 :: a16 :: a17 :: a18 :: a19 :: a20 :: a21 :: a22 :: a23 :: a24 :: r) = a24 := (rfl)
@[simp] theorem A24_s (a0 a1 a2 a3 a4 a5 a6 a7 a8 a9 a10 a11 a12 a13 a14 a15 a16 a17 a18 a19 a20 a21 a22 a23 a24 : Option SV) (r : MSt) (v : SV) : A24.s (a0 :: a1 :: a2 :: a3 :: a4 :: a5 :: a6 :: a7 :: a8 :: a9 :: a10 :: a11 :: a12 :: a13 :: a14 :: a15 :: a16 :: a17 :: a18 :: a19 :: a20 :: a21 :: a22 :: a23 :: a24 :: r) v = a0 :: a1 :: a2 :: a3 :: a4 :: a5 :: a6 :: a7 :: a8 :: a9 :: a10 :: a11 :: a12 :: a13 :: a14 :: a15 :: a16 :: a17 :: a18 :: a19 :: a20 :: a21 :: a22 :: a23 :: some v :: r := (rfl)
@[simp] theorem A24_w (a0 a1 a2 a3 a4 a5 a6 a7 a8 a9 a10 a11 a12 a13 a14 a15 a16 a17 a18 a19 a20 a21 a22 a23 a24 : Option SV) (r : MSt) : A24.w (a0 :: a1 :: a2 :: a3 :: a4 :: a5 :: a6 :: a7 :: a8 :: a9 :: a10 :: a11 :: a12 :: a13 :: a14 :: a15 :: a16 :: a17 :: a18 :: a19 :: a20 :: a21 :: a22 :: a23 :: a24 :: r) = a0 :: a1 :: a2 :: a3 :: a4 :: a5 :: a6 :: a7 :: a8 :: a9 :: a10 :: a11 :: a12 :: a13 :: a14 :: a15 :: a16 :: a17 :: a18 :: a19 :: a20 :: a21 :: a22 :: a23 :: none :: r := (rfl)
@[simp] theorem A25_g (a0 a1 a2 a3 a4 a5 a6 a7 a8 a9 a10 a11 a12 a13 a14 a15 a16 a17 a18 a19 a20 a21 a22 a23 a24 a25 : Option SV) (r : MSt) : A25.g (a0 :: a1 :: a2 :: a3 :: a4 :: a5 :: a6 :: a7 :: a8 :: a9 :: a10 :: a11 :: a12 :: a13 :: a14 :: a15 :: a16 :: a17 :: a18 :: a19 :: a20 :: a21 :: a22 :: a23 :: a24 :: a25 :: r) = a25 := (rfl)
@[simp] theorem A25_s (a0 a1 a2 a3 a4 a5 a6 a7 a8 a9 a10 a11 a12 a13 a14 a15 a16 a17 a18 a19 a20 a21 a22 a23 a24 a25 : Option SV) (r : MSt) (v : SV) : A25.s (a0 :: a1 :: a2 :: a3 :: a4 :: a5 :: a6 :: a7 :: a8 :: a9 :: a10 :: a11 :: a12 :: a13 :: a14 :: a15 :: a16 :: a17 :: a18 :: a19 :: a20 :: a21 :: a22 :: a23 :: a24 :: a25 :: r) v = a0 :: a1 :: a2 :: a3 :: a4 :: a5 :: a6 :: a7 :: a8 :: a9 :: a10 :: a11 :: a12 :: a13 :: a14 :: a15 :: a16 :: a17 :: a18 :: a19 :: a20 :: a21 :: a22 :: a23 :: a24 :: some v :: r := (rfl)
@[simp] theorem A25_w (a0 a1 a2 a3 a4 a5 a6 a7 a8 a9 a10 a11 a12 a13 a14 a15 a16 a17 a18 a19 a20 a21 a22 a23 a24 a25 : Option SV) (r : MSt) : A25.w (a0 :: a1 :: a2 :: a3 :: a4 :: a5 :: a6 :: a7 :: a8 :: a9 :: a10 :: a11 :: a12 :: a13 :: a14 :: a15 :: a16 :: a17 :: a18 :: a19 :: a20 :: a21 :: a22 :: a23 :: a24 :: a25 :: r) = a0 :: a1 :: a2 :: a3 :: a4 :: a5 :: a6 :: a7 :: a8 :: a9 :: a10 :: a11 :: a12 :: a13 :: a14 :: a15 :: a16 :: a17 :: a18 :: a19 :: a20 :: a21 :: a22 :: a23 :: a24 :: none :: r := (rfl)
end

section
variable {α β : Type}
@[simp] theorem bnd_ok (a : α) (f : α → Out β) : (Out.ok a).bnd f = f a := (rfl)
@[simp] theorem bnd_exc (c : Str) (f : α → Out β) : (Out.exc c : Out α).bnd f = .exc c := (rfl)
@[simp] theorem bnd_bad (f : α → Out β) : (Out.bad : Out α).bnd f = .bad := (rfl)
@[simp] theorem bind_ok (a : α) (f : α → Out β) : (Out.ok a).bind f = f a := (rfl)
@[simp] theorem bind_exc (c : Str) (f : α → Out β) : (Out.exc c : Out α).bind f = .exc c := (rfl)
@[simp] theorem bind_bad (f : α → Out β) : (Out.bad : Out α).bind f = .bad := (rfl)
@[simp] theorem ofO_some (a : α) : ofO (some a) = .ok a := (rfl)
@[simp] theorem ofO_none : ofO (none : Option α) = .bad := (rfl)
@[simp] theorem of_some (a : α) : Out.of (some a) = .ok a := (rfl)
@[simp] theorem of_none : Out.of (none : Option α) = .bad := (rfl)
@[simp] theorem lift_ok (a : α) (f : α → β) : (Out.ok a).lift f = .ok (f a) := (rfl)
@[simp] theorem boolRec_if (x y : α) (b : Bool) : (Bool.rec (motive := fun _ => α) x y b) = if b = true then y else x := by cases b <;> rfl
theorem bnd_ite (c : Prop) [Decidable c] (x y : Out α) (f : α → Out β) : (if c then x else y).bnd f = if c then x.bnd f else y.bnd f := by split <;> rfl
theorem lift_ite (c : Prop) [Decidable c] (x y : Out α) (f : α → β) : (if c then x else y).lift f = if c then x.lift f else y.lift f := by split <;> rfl
end
/-- what a def's body comes to -/
def finD : Out Fl → Out RV
  | .ok (.nx _) => .ok ⟨.fz, .non⟩
  | .ok (.rt r) => .ok r
  | .ok _ => .bad
  | .exc c => .exc c
  | .bad => .bad
theorem runD_fin (n : Nat) (body : DS) (ds : List D) : runD n body ds = finD (body (startM n ds)) := by
  unfold runD finD
  rw [forceL2_eq, forceS_eq]
  all_goals rfl
@[simp] theorem finD_nx (st : MSt) : finD (.ok (.nx st)) = .ok ⟨.fz, .non⟩ := (rfl)
@[simp] theorem finD_rt (r : RV) : finD (.ok (.rt r)) = .ok r := (rfl)
@[simp] theorem finD_exc (c : Str) : finD (.exc c) = .exc c := (rfl)
@[simp] theorem finD_bad : finD .bad = .bad := (rfl)
theorem finD_ite (c : Prop) [Decidable c] (x y : Out Fl) : finD (if c then x else y) = if c then finD x else finD y := by split <;> rfl
@[simp] theorem startM_nil (n : Nat) : startM n [] = List.replicate n none := by simp [startM]
@[simp] theorem startM_cons (n : Nat) (d : D) (ds : List D) : startM (n + 1) (d :: ds) = some (.fz d) :: startM n ds := by simp [startM]
@[simp] theorem fF2 {α : Type} (d : D) (k : D → α) : force2 d k = k d := force2_eq d k
@[simp] theorem fF3 {α : Type} (d : D) (k : D → α) : force3 d k = k d := force3_eq d k
@[simp] theorem fFL2 {α : Type} (d : List D) (k : List D → α) : forceL2 d k = k d := forceL2_eq d k
@[simp] theorem fFS {α : Type} (d : MSt) (k : MSt → α) : forceS d k = k d := forceS_eq d k
theorem dVarF_def (a : Acc) (st : MSt) : dVarF a st = match a.g st with | some (.fz d) => .ok ⟨.fz, d⟩ | some (.own d) => .ok ⟨.bor, d⟩ | _ => .bad := by
  unfold dVarF
  cases a.g st with
  | none => rfl
  | some v => cases v <;> rfl
@[simp] theorem dSeqR_def (p q : DS) (st : MSt) : dSeqR p q st = (p st).bnd fun f => match f with | .nx s => q s | f => .ok f := by
  unfold dSeqR
  congr 1
  funext f
  cases f <;> rfl
@[simp] theorem addR_int (i j : Int) : addR (.int i) (.int j) = some ⟨.fz, .int (i + j)⟩ := (rfl)
@[simp] theorem subR_int (i j : Int) : subR (.int i) (.int j) = some ⟨.fz, .int (i - j)⟩ := (rfl)
theorem modR_int' (i j : Int) : modR (.int i) (.int j) = if 0 < j then some ⟨.fz, .int (i % j)⟩ else none := by
  show (Bool.rec (motive := fun _ => Option RV) none (some ⟨.fz, .int (i % j)⟩) (decide (0 < j))) = _
  by_cases h : 0 < j <;> simp [h]
theorem modR_int {i j : Int} (h : 0 < j) : modR (.int i) (.int j) = some ⟨.fz, .int (i % j)⟩ := by rw [modR_int', if_pos h]
@[simp] theorem eqR_int (i j : Int) : eqR (.int i) (.int j) = some ⟨.fz, .bl (decide (i = j))⟩ := (rfl)
@[simp] theorem neR_int (i j : Int) : neR (.int i) (.int j) = some ⟨.fz, .bl (!decide (i = j))⟩ := (rfl)
@[simp] theorem ltR_int (i j : Int) : ltR (.int i) (.int j) = some ⟨.fz, .bl (decide (i < j))⟩ := (rfl)
@[simp] theorem leR_int (i j : Int) : leR (.int i) (.int j) = some ⟨.fz, .bl (decide (i ≤ j))⟩ := (rfl)
@[simp] theorem gtR_int (i j : Int) : gtR (.int i) (.int j) = some ⟨.fz, .bl (decide (j < i))⟩ := (rfl)
@[simp] theorem geR_int (i j : Int) : geR (.int i) (.int j) = some ⟨.fz, .bl (decide (j ≤ i))⟩ := (rfl)
@[simp] theorem dLit_def (d : D) (st : MSt) : dLit d st = .ok ⟨.fz, d⟩ := (rfl)
@[simp] theorem dNil_def (st : MSt) : dNil st = .ok [] := (rfl)
@[simp] theorem dYes_def (st : MSt) : dYes st = .ok true := (rfl)
@[simp] theorem dNext_def (st : MSt) : dNext st = .ok (.nx st) := (rfl)
@[simp] theorem dRaise_def (c : Str) (st : MSt) : dRaise c st = .exc c := (rfl)
@[simp] theorem dConsR_def (da : DE) (dr : DA) (st : MSt) : dConsR da dr st = (da st).bnd fun r => (dr st).bnd fun rs => .ok (r :: rs) := (rfl)
@[simp] theorem dOpR_def (f : D → D → Option RV) (da db : DE) (st : MSt) : dOpR f da db st = (da st).bnd fun r => (db st).bnd fun s => ofO (f r.d s.d) := (rfl)
@[simp] theorem dTestR_def (da : DE) (tr : D → Option Bool) (st : MSt) : dTestR da tr st = (da st).bnd fun r => ofO (tr r.d) := (rfl)
@[simp] theorem dAndR_def (t u : DT) (st : MSt) : dAndR t u st = (t st).bnd fun b => if b = true then u st else .ok false := by
  unfold dAndR
  congr 1
  funext b
  cases b <;> rfl
@[simp] theorem dOrR_def (t u : DT) (st : MSt) : dOrR t u st = (t st).bnd fun b => if b = true then .ok true else u st := by
  unfold dOrR
  congr 1
  funext b
  cases b <;> rfl
@[simp] theorem dNotR_def (t : DT) (st : MSt) : dNotR t st = (t st).bnd fun b => .ok (!b) := by
  unfold dNotR
  congr 1
  funext b
  cases b <;> rfl
@[simp] theorem dIfR_def (t : DT) (da db : DE) (st : MSt) : dIfR t da db st = (t st).bnd fun b => if b = true then da st else db st := by
  unfold dIfR
  congr 1
  funext b
  cases b <;> rfl
@[simp] theorem dIfSR_def (t : DT) (p q : DS) (st : MSt) : dIfSR t p q st = (t st).bnd fun b => if b = true then p st else q st := by
  unfold dIfSR
  congr 1
  funext b
  cases b <;> rfl
@[simp] theorem dCBR_def (f : List D → Option RV) (da : DA) (st : MSt) : dCBR f da st = (da st).bnd fun rs => ofO (f (dataOf rs)) := (rfl)
@[simp] theorem dCallR_def (f : List D → Out RV) (da : DA) (st : MSt) : dCallR f da st = (da st).bnd fun rs => if keepAll rs = true then f (dataOf rs) else if noDicts rs = true then okRes (f (dataOf rs)) else .bad := by
  unfold dCallR
  congr 1
  funext rs
  rw [forceL2_eq]
theorem dRetR_def' (de : DE) (st : MSt) : dRetR de st = (de st).bnd fun r => if r.k.retR = true then .ok (.rt r) else .bad := by
  unfold dRetR
  congr 1
  funext r
  cases r.k.retR <;> rfl
@[simp] theorem dRetR_def (de : DE) (st : MSt) : dRetR de st = (de st).bnd fun r => if r.k.retR = true then .ok (.rt r) else .bad := dRetR_def' de st
@[simp] theorem retR_fz : Kd.fz.retR = true := (rfl)
@[simp] theorem retR_fr : Kd.fr.retR = true := (rfl)
@[simp] theorem retR_bor : Kd.bor.retR = false := (rfl)
@[simp] theorem dExprR_def (de : DE) (st : MSt) : dExprR de st = (de st).bnd fun _ => .ok (.nx st) := (rfl)
@[simp] theorem dSetR_def (own : Bool) (a : Acc) (de : DE) (st : MSt) : dSetR own a de st = (de st).bnd fun r => match keepAs own r with | some v => .ok (.nx (a.s st v)) | none => .bad := by
  unfold dSetR
  congr 1
  funext r
  rw [force3_eq]
  obtain ⟨k, d⟩ := r
  cases k with
  | fz => rfl
  | bor => rfl
  | fr =>
    show (Bool.rec (motive := fun _ => Out Fl) (.ok (.nx (a.s st (.fz d)))) (.ok (.nx (a.s st (.own d)))) (own || !noDict d) : Out Fl) = match (if _ then _ else _ : Option SV) with | some v => .ok (.nx (a.s st v)) | none => .bad
    cases own <;> cases hd : noDict d <;> simp
end Mini

set_option Elab.async false
set_option linter.all false
set_option maxRecDepth 100000
/-! Mini C1: loops, lists. -/
namespace Mini
open PySem L2 LamX
def iL (xs : List Int) : List D := xs.map D.int
theorem iL_map (xs : List Int) : iL xs = xs.map D.int := (rfl)
@[simp] theorem iL_nil : iL [] = [] := (rfl)
theorem iL_cons (x : Int) (xs : List Int) : iL (x :: xs) = .int x :: iL xs := (rfl)
@[simp] theorem iL_length (xs : List Int) : (iL xs).length = xs.length := by simp [iL]
@[simp] theorem iL_tail (xs : List Int) : (iL xs).tail = iL xs.tail := by simp [iL]
@[simp] theorem iL_isEmpty (xs : List Int) : (iL xs).isEmpty = xs.isEmpty := by cases xs <;> rfl
theorem iL_append (xs ys : List Int) : iL xs ++ iL ys = iL (xs ++ ys) := by simp [iL]
theorem iL_replicate (n : Nat) (x : Int) : List.replicate n (D.int x) = iL (List.replicate n x) := by simp [iL]
theorem iL_inj {xs ys : List Int} (h : iL xs = iL ys) : xs = ys := by
  induction xs generalizing ys with
  | nil => cases ys with
    | nil => rfl
    | cons y ys => cases h
  | cons x xs ih => cases ys with
    | nil => cases h
    | cons y ys =>
      rw [iL_cons, iL_cons] at h
      injection h with h1 h2
      injection h1 with h1
      rw [h1, ih h2]
theorem setPatF_comm {α β : Type} (p : PatF) (d : D) (st : MSt) (k : MSt → Out α) (g : Out α → Out β) (hg : g .bad = .bad) : setPatF p d st (fun s => g (k s)) = g (setPatF p d st k) := by
  rw [setPatF_eq, setPatF_eq]
  cases setPat p.pat d st with
  | none => exact hg.symm
  | some s => rfl
@[simp] theorem setPatF_one {α : Type} (a : Acc) (d : D) (st : MSt) (k : MSt → Out α) : setPatF (.one a) d st k = k (a.s st (.fz d)) := (rfl)
@[simp] theorem setPatF_many {α : Type} (as : List Acc) (ds : List D) (st : MSt) (k : MSt → Out α) : setPatF (.many as) (.tup ds) st k = setAllF as ds st k := (rfl)
@[simp] theorem setAllF_nil {α : Type} (st : MSt) (k : MSt → Out α) : setAllF [] [] st k = k st := (rfl)
@[simp] theorem setAllF_cons {α : Type} (a : Acc) (as : List Acc) (d : D) (ds : List D) (st : MSt) (k : MSt → Out α) : setAllF (a :: as) (d :: ds) st k = setAllF as ds (a.s st (.fz d)) k := (rfl)
/-! ### for -/
@[simp] theorem afterR_nx (go : MSt → Out Fl) (s : MSt) : afterR go (.ok (.nx s)) = go s := (rfl)
@[simp] theorem afterR_ct (go : MSt → Out Fl) (s : MSt) : afterR go (.ok (.ct s)) = go s := (rfl)
@[simp] theorem afterR_rt (go : MSt → Out Fl) (r : RV) : afterR go (.ok (.rt r)) = .ok (.rt r) := (rfl)
@[simp] theorem afterR_bk (go : MSt → Out Fl) (s : MSt) : afterR go (.ok (.bk s)) = .ok (.nx s) := (rfl)
@[simp] theorem afterR_exc (go : MSt → Out Fl) (c : Str) : afterR go (.exc c) = .exc c := (rfl)
@[simp] theorem afterR_bad (go : MSt → Out Fl) : afterR go .bad = .bad := (rfl)
@[simp] theorem forGoR_nil (p : PatF) (body : DS) (st : MSt) : forGoR p body [] st = .ok (.nx st) := (rfl)
theorem forGoR_cons (p : PatF) (body : DS) (d : D) (ds : List D) (st : MSt) : forGoR p body (d :: ds) st = afterR (forGoR p body ds) (setPatF p d st body) := by
  show (force2 d fun d => setPatF p d st fun st1 => afterR (forGoR p body ds) (body st1)) = _
  rw [force2_eq]
  exact setPatF_comm p d st body _ rfl
@[simp] theorem dForR_def (di : DI) (p : PatF) (body : DS) (st : MSt) : dForR di p body st = (di st).bnd fun q => if q.1 = true then forGoR p body q.2 st else .bad := by
  unfold dForR
  congr 1
  funext q
  cases q.1 <;> rfl
/-- a loop without return -/
theorem for_run {σ α : Type} (p : PatF) (body : DS) (enc : α → D) (R : σ → MSt → Prop) (f : σ → α → σ) : ∀ (xs : List α) (step : ∀ x, x ∈ xs → ∀ s st, R s st → ∃ st', setPatF p (enc x) st body = .ok (.nx st') ∧ R (f s x) st') (s : σ) (st : MSt), R s st → ∃ st', forGoR p body (xs.map enc) st = .ok (.nx st') ∧ R (xs.foldl f s) st'
  | [], _, s, st, h => ⟨st, rfl, h⟩
  | x :: xs, step, s, st, h => by
    obtain ⟨st1, h1, h2⟩ := step x (by simp) s st h
    obtain ⟨st2, h3, h4⟩ := for_run p body enc R f xs (fun y hy => step y (by simp [hy])) (f s x) st1 h2
    exact ⟨st2, by rw [List.map_cons, forGoR_cons, h1, afterR_nx]; exact h3, h4⟩
/-- a loop that may return -/
def foldE {σ α β : Type} (f : σ → α → σ ⊕ β) : σ → List α → σ ⊕ β
  | s, [] => .inl s
  | s, x :: xs => match f s x with
    | .inl s' => foldE f s' xs
    | .inr r => .inr r
theorem for_ret {σ α β : Type} (p : PatF) (body : DS) (enc : α → D) (er : β → RV) (R : σ → MSt → Prop) (f : σ → α → σ ⊕ β) : ∀ (xs : List α) (step : ∀ x, x ∈ xs → ∀ s st, R s st → match f s x with | .inl s' => ∃ st', setPatF p (enc x) st body = .ok (.nx st') ∧ R s' st' | .inr b => setPatF p (enc x) st body = .ok (.rt (er b))) (s : σ) (st : MSt), R s st →
    match foldE f s xs with | .inl s' => ∃ st', forGoR p body (xs.map enc) st = .ok (.nx st') ∧ R s' st' | .inr b => forGoR p body (xs.map enc) st = .ok (.rt (er b))
  | [], _, s, st, h => ⟨st, rfl, h⟩
  | x :: xs, step, s, st, h => by
    have h0 := step x (by simp) s st h
    unfold foldE
    cases hf : f s x with
    | inl s' =>
      rw [hf] at h0
      obtain ⟨st1, h1, h2⟩ := h0
      have h3 := for_ret p body enc er R f xs (fun y hy => step y (by simp [hy])) s' st1 h2
      simp only [List.map_cons, forGoR_cons, h1, afterR_nx]
      exact h3
    | inr b =>
      rw [hf] at h0
      simp only [List.map_cons, forGoR_cons, h0, afterR_rt]
/-! ### while -/
@[simp] theorem dWhileR_def (n : Nat) (dt : DT) (body : DS) (st : MSt) : dWhileR n dt body st = whGoR dt body n st := (rfl)
theorem whGoR_zero (dt : DT) (body : DS) (st : MSt) : whGoR dt body 0 st = .bad := (rfl)
theorem whGoR_succ (dt : DT) (body : DS) (n : Nat) (st : MSt) : whGoR dt body (n + 1) st = (dt st).bnd fun b => if b = true then afterR (whGoR dt body n) (body st) else .ok (.nx st) := by
  show ((dt st).bnd fun b => Bool.rec (motive := fun _ => Out Fl) (.ok (.nx st)) (afterR (whGoR dt body n) (body st)) b) = _
  congr 1
  funext b
  cases b <;> rfl
/-- a while loop: f tells none at its end, the next state, or what is returned -/
def whE {σ β : Type} (f : σ → Option (σ ⊕ β)) : Nat → σ → Option (σ ⊕ β)
  | 0, _ => none
  | n + 1, s => match f s with
    | none => some (.inl s)
    | some (.inl s') => whE f n s'
    | some (.inr b) => some (.inr b)
theorem wh_ret {σ β : Type} (dt : DT) (body : DS) (er : β → RV) (R : σ → MSt → Prop) (f : σ → Option (σ ⊕ β))
    (step : ∀ s st, R s st → match f s with | none => dt st = .ok false | some (.inl s') => dt st = .ok true ∧ ∃ st', body st = .ok (.nx st') ∧ R s' st' | some (.inr b) => dt st = .ok true ∧ body st = .ok (.rt (er b))) : ∀ (n : Nat) (s : σ) (st : MSt), R s st →
    match whE f n s with | none => True | some (.inl s') => ∃ st', whGoR dt body n st = .ok (.nx st') ∧ R s' st' | some (.inr b) => whGoR dt body n st = .ok (.rt (er b))
  | 0, s, st, h => True.intro
  | n + 1, s, st, h => by
    have h0 := step s st h
    unfold whE
    cases hf : f s with
    | none =>
      rw [hf] at h0
      exact ⟨st, by rw [whGoR_succ, h0]; rfl, h⟩
    | some q =>
      cases q with
      | inl s' =>
        rw [hf] at h0
        obtain ⟨h1, st1, h2, h3⟩ := h0
        have h4 := wh_ret dt body er R f step n s' st1 h3
        simp only [whGoR_succ, h1, bnd_ok, if_true, h2, afterR_nx]
        exact h4
      | inr b =>
        rw [hf] at h0
        obtain ⟨h1, h2⟩ := h0
        simp only [whGoR_succ, h1, bnd_ok, if_true, h2, afterR_rt]
/-! ### list comprehensions -/
def lcStep (dt : DT) (de : DE) (st : MSt) : Out (Option D) := match dt st with
  | .ok true => match de st with
    | .ok r => if r.keep = true then .ok (some r.d) else .bad
    | _ => .bad
  | .ok false => .ok none
  | _ => .bad
theorem lcGoR_cons (p : PatF) (dt : DT) (de : DE) (st : MSt) (d : D) (ds : List D) : lcGoR p dt de st (d :: ds) = (setPatF p d st (lcStep dt de)).bnd fun o => match o with
    | some r => (lcGoR p dt de st ds).bnd fun rest => .ok (r :: rest)
    | none => lcGoR p dt de st ds := by
  show (force2 d fun d => setPatF p d st fun st1 => Out.rec (motive := fun _ => Out (List D)) (fun b => Bool.rec (motive := fun _ => Out (List D)) (lcGoR p dt de st ds) (Out.rec (motive := fun _ => Out (List D)) (fun r => Bool.rec (motive := fun _ => Out (List D)) .bad ((lcGoR p dt de st ds).bnd fun rest => .ok (r.d :: rest)) r.keepR) (fun _ => .bad) .bad (de st1)) b) (fun _ => .bad) .bad (dt st1)) = _
  rw [force2_eq, ← setPatF_comm p d st (lcStep dt de) (fun o => o.bnd fun o => match o with
    | some r => (lcGoR p dt de st ds).bnd fun rest => .ok (r :: rest)
    | none => lcGoR p dt de st ds) rfl]
  congr 1
  funext st1
  unfold lcStep
  cases dt st1 with
  | bad => rfl
  | exc c => rfl
  | ok b =>
    cases b with
    | false => rfl
    | true =>
      cases de st1 with
      | bad => rfl
      | exc c => rfl
      | ok r =>
        show Bool.rec (motive := fun _ => Out (List D)) .bad ((lcGoR p dt de st ds).bnd fun rest => .ok (r.d :: rest)) r.keepR = Out.bnd (if r.keep = true then .ok (some r.d) else .bad) _
        rw [RV.keepR_eq]
        cases r.keep <;> rfl
theorem lc_map {α : Type} (p : PatF) (dt : DT) (de : DE) (st : MSt) (enc : α → D) (e : α → D) : ∀ (xs : List α), (∀ x, x ∈ xs → setPatF p (enc x) st (lcStep dt de) = .ok (some (e x))) → lcGoR p dt de st (xs.map enc) = .ok (xs.map e)
  | [], _ => rfl
  | x :: xs, h => by
    rw [List.map_cons, lcGoR_cons, h x (by simp), bnd_ok]
    simp only
    rw [lc_map p dt de st enc e xs fun y hy => h y (by simp [hy])]
    rfl
theorem lc_iL (xs : List Int) (e : Int → D) {p : PatF} {dt : DT} {de : DE} {st : MSt} (h : ∀ x, x ∈ xs → setPatF p (.int x) st (lcStep dt de) = .ok (some (e x))) : lcGoR p dt de st (iL xs) = .ok (xs.map e) := lc_map p dt de st D.int e xs h
theorem lc_filter {α : Type} (p : PatF) (dt : DT) (de : DE) (st : MSt) (enc : α → D) (c : α → Bool) (e : α → D) : ∀ (xs : List α), (∀ x, x ∈ xs → setPatF p (enc x) st (lcStep dt de) = .ok (if c x = true then some (e x) else none)) → lcGoR p dt de st (xs.map enc) = .ok ((xs.filter c).map e)
  | [], _ => rfl
  | x :: xs, h => by
    rw [List.map_cons, lcGoR_cons, h x (by simp), bnd_ok]
    have ih := lc_filter p dt de st enc c e xs fun y hy => h y (by simp [hy])
    cases hc : c x with
    | true => simp [ih, hc]
    | false => simp [ih, hc]
def fitL (ds : List D) : Bool := decide (ds.length ≤ 16777216)
theorem fitL_of {ds : List D} (h : ds.length ≤ 100000) : fitL ds = true := by
  unfold fitL
  simp
  omega
@[simp] theorem dLcR_def (di : DI) (p : PatF) (vs : List Acc) (dt : DT) (de : DE) (st : MSt) : dLcR di p vs dt de st = (di st).bnd fun q => if fitL q.2 = true then (lcGoR p dt de (wipeF st vs) q.2).lift (fun ds => ⟨.fr, .lst ds⟩) else .bad := by
  unfold dLcR fitL
  simp only [decide_eq_true_eq]
@[simp] theorem wipeF_nil (st : MSt) : wipeF st [] = st := (rfl)
@[simp] theorem wipeF_cons (st : MSt) (a : Acc) (as : List Acc) : wipeF st (a :: as) = a.w (wipeF st as) := (rfl)
theorem lcf_iL (xs : List Int) (c : Int → Bool) (e : Int → D) {p : PatF} {dt : DT} {de : DE} {st : MSt} (h : ∀ x, x ∈ xs → setPatF p (.int x) st (lcStep dt de) = .ok (if c x = true then some (e x) else none)) : lcGoR p dt de st (iL xs) = .ok ((xs.filter c).map e) := lc_filter p dt de st D.int c e xs h
/-- comprehension of two clauses -/
theorem lc2_nil (p : PatF) (dt : DT) (di1 : DI) (p1 : PatF) (vs1 : List Acc) (dt1 : DT) (de : DE) (st : MSt) (n : Nat) : lc2GoF p dt di1 p1 vs1 dt1 de st [] n = .ok [] := by simp [lc2GoF]
/-! ### walks -/
@[simp] theorem dIt_def (da : DE) (st : MSt) : dIt da st = (da st).bnd fun r => match itemsD r.d with | some ds => .ok (r.keep, ds) | none => .bad := by
  unfold dIt
  rw [Out.bnd_eq]
  all_goals rfl
@[simp] theorem dRg_def (g : List D → Option (List D)) (da : DA) (st : MSt) : dRg g da st = (da st).bnd fun rs => match g (dataOf rs) with | some ds => .ok (true, ds) | none => .bad := by
  unfold dRg
  rw [Out.bnd_eq]
  all_goals rfl
@[simp] theorem itemsD_lst (ds : List D) : itemsD (.lst ds) = some ds := (rfl)
@[simp] theorem itemsD_tup (ds : List D) : itemsD (.tup ds) = some ds := (rfl)
@[simp] theorem keep_fz (d : D) : RV.keep ⟨.fz, d⟩ = true := (rfl)
@[simp] theorem keep_fr (d : D) : RV.keep ⟨.fr, d⟩ = noDict d := (rfl)
@[simp] theorem keep_bor (d : D) : RV.keep ⟨.bor, d⟩ = false := (rfl)
@[simp] theorem noDict_lst (ds : List D) : noDict (.lst ds) = true := (rfl)
@[simp] theorem noDict_tup (ds : List D) : noDict (.tup ds) = true := (rfl)
@[simp] theorem noDict_int (i : Int) : noDict (.int i) = true := (rfl)
@[simp] theorem noDict_bl (i : Bool) : noDict (.bl i) = true := (rfl)
@[simp] theorem noDict_str (i : Str) : noDict (.str i) = true := (rfl)
@[simp] theorem noDict_non : noDict .non = true := (rfl)
@[simp] theorem noDict_scr (ns : List Int) : noDict (.scr ns) = true := (rfl)
@[simp] theorem keepAll_nil : keepAll [] = true := (rfl)
@[simp] theorem keepAll_cons (r : RV) (rs : List RV) : keepAll (r :: rs) = (r.keep && keepAll rs) := (rfl)
@[simp] theorem noDicts_nil : noDicts [] = true := (rfl)
@[simp] theorem noDicts_cons (r : RV) (rs : List RV) : noDicts (r :: rs) = (noDict r.d && noDicts rs) := (rfl)
@[simp] theorem dataOf_nil : dataOf [] = [] := (rfl)
@[simp] theorem dataOf_cons (r : RV) (rs : List RV) : dataOf (r :: rs) = r.d :: dataOf rs := (rfl)
def uptoI (lo : Int) : Nat → List Int
  | 0 => []
  | n + 1 => lo :: uptoI (lo + 1) n
theorem upto_ints : ∀ (n : Nat) (lo : Int), upto lo n = iL (uptoI lo n)
  | 0, _ => rfl
  | n + 1, lo => by show D.int lo :: upto (lo + 1) n = D.int lo :: iL (uptoI (lo + 1) n); rw [upto_ints n]
theorem mem_uptoI : ∀ (n : Nat) (lo x : Int), x ∈ uptoI lo n ↔ lo ≤ x ∧ x < lo + n
  | 0, lo, x => by
    simp only [uptoI, List.not_mem_nil, false_iff]
    omega
  | n + 1, lo, x => by
    simp only [uptoI, List.mem_cons, mem_uptoI n]
    omega
theorem length_uptoI : ∀ (n : Nat) (lo : Int), (uptoI lo n).length = n
  | 0, _ => rfl
  | n + 1, lo => by simp [uptoI, length_uptoI n]
theorem in62_le {i : Int} (h : -1000000000000000 ≤ i) (h' : i ≤ 1000000000000000) : in62 i = true := by
  unfold in62
  simp
  omega
theorem rg1_int {j : Int} (h' : j ≤ 1000000000000000) (h : -1000000000000000 ≤ j) : rg1 [.int j] = some (iL (uptoI 0 j.toNat)) := by
  show (if in62 j = true then some (upto 0 j.toNat) else none) = _
  rw [if_pos (in62_le h h'), upto_ints]
theorem rg2_int {i j : Int} (h1 : -1000000000000000 ≤ i) (h1' : i ≤ 1000000000000000) (h : -1000000000000000 ≤ j) (h' : j ≤ 1000000000000000) : rg2 [.int i, .int j] = some (iL (uptoI i (j - i).toNat)) := by
  show (if (in62 i && in62 j) = true then some (upto i (j - i).toNat) else none) = _
  rw [if_pos (by rw [in62_le h h', in62_le h1 h1']; rfl), upto_ints]
/-! ### chains -/
def chK : Option RV → (Unit → Out RV) → Out RV
  | some ⟨_, .bl true⟩, k => k ()
  | some ⟨_, .bl false⟩, _ => .ok ⟨.fz, .bl false⟩
  | _, _ => .bad
@[simp] theorem chK_bl (kd : Kd) (b : Bool) (k : Unit → Out RV) : chK (some ⟨kd, .bl b⟩) k = if b = true then k () else .ok ⟨.fz, .bl false⟩ := by cases b <;> rfl
@[simp] theorem dChain_def (f g : D → D → Option RV) (da db dc : DE) (st : MSt) : dChain f g da db dc st = (da st).bnd fun r => (db st).bnd fun s => chK (f r.d s.d) fun _ => (dc st).bnd fun t => ofO (g s.d t.d) := by
  unfold dChain
  rw [Out.bnd_eq]
  congr 1
  funext r
  rw [Out.bnd_eq]
  congr 1
  funext s
  have e : ∀ t : D, ((dc st).bind fun t => Out.of (g s.d t.d)) = ((dc st).bnd fun t => ofO (g s.d t.d)) := fun _ => by
    rw [Out.bnd_eq]
    congr 1
    funext t
    cases g s.d t.d <;> rfl
  rcases f r.d s.d with _ | ⟨k, d⟩
  · rfl
  · cases d with
    | bl b => cases b with
      | true => exact e r.d
      | false => rfl
    | _ => rfl
@[simp] theorem dAndV_def (da db : DE) (st : MSt) : dAndV da db st = (da st).bnd fun r => match trD r.d with | some true => db st | some false => .ok r | none => .bad := by
  unfold dAndV
  rw [Out.bnd_eq]
  all_goals rfl
@[simp] theorem dOrV_def (da db : DE) (st : MSt) : dOrV da db st = (da st).bnd fun r => match trD r.d with | some true => .ok r | some false => db st | none => .bad := by
  unfold dOrV
  rw [Out.bnd_eq]
  all_goals rfl
@[simp] theorem dNotV_def (da : DE) (st : MSt) : dNotV da st = (da st).bnd fun r => match trD r.d with | some b => .ok (rz (.bl (!b))) | none => .bad := by
  unfold dNotV
  rw [Out.bnd_eq]
  all_goals rfl
@[simp] theorem trD_bl (b : Bool) : trD (.bl b) = some b := (rfl)
@[simp] theorem trB_bl (b : Bool) : trB (.bl b) = some b := (rfl)
@[simp] theorem dIsi_def (T : String) (da : DE) (st : MSt) : dIsi T da st = (da st).bnd fun r => .ok (rz (.bl (isTy T (tyName r.d)))) := by
  unfold dIsi
  rw [Out.bnd_eq]
@[simp] theorem isTy_int (i : Int) : isTy "int" (tyName (.int i)) = true := by simp [tyName, isTy]
@[simp] theorem isTy_int_b (b : Bool) : isTy "int" (tyName (.bl b)) = true := by simp [tyName, isTy]
@[simp] theorem isTy_int_non : isTy "int" (tyName .non) = false := by decide
@[simp] theorem isTy_int_str (s : Str) : isTy "int" (tyName (.str s)) = false := by simp [tyName, isTy]
@[simp] theorem isTy_int_lst (s : List D) : isTy "int" (tyName (.lst s)) = false := by simp [tyName, isTy]
@[simp] theorem isTy_int_tup (s : List D) : isTy "int" (tyName (.tup s)) = false := by simp [tyName, isTy]
@[simp] theorem isTy_bool_int (i : Int) : isTy "bool" (tyName (.int i)) = false := by simp [tyName, isTy]
@[simp] theorem isTy_bool_b (b : Bool) : isTy "bool" (tyName (.bl b)) = true := by simp [tyName, isTy]
@[simp] theorem isTy_tuple_tup (s : List D) : isTy "tuple" (tyName (.tup s)) = true := by simp [tyName, isTy]
theorem blsD_bls : ∀ (bs : List Bool), blsD (bs.map D.bl) = some bs
  | [] => rfl
  | b :: bs => by simp [blsD, blsD_bls bs]
theorem intsD_ints : ∀ (bs : List Int), intsD (iL bs) = some bs
  | [] => rfl
  | b :: bs => by
    have := intsD_ints bs
    rw [iL_cons]
    simp [intsD, this]
end Mini

set_option Elab.async false
set_option linter.all false
set_option maxRecDepth 100000
/-! Mini C2: builtins and operators on ints and lists of ints. -/
namespace Mini
open PySem L2 LamX
@[simp] theorem lenD_tup (xs : List D) : lenD [.tup xs] = some ⟨.fz, .int xs.length⟩ := (rfl)
@[simp] theorem lenD_lst (xs : List D) : lenD [.lst xs] = some ⟨.fz, .int xs.length⟩ := (rfl)
@[simp] theorem lenD_scr (xs : List Int) : lenD [.scr xs] = some ⟨.fz, .int xs.length⟩ := (rfl)
@[simp] theorem tupleD_lst (xs : List D) : tupleD [.lst xs] = some ⟨.fz, .tup xs⟩ := (rfl)
@[simp] theorem tupleD_tup (xs : List D) : tupleD [.tup xs] = some ⟨.fz, .tup xs⟩ := (rfl)
@[simp] theorem listD_lst (xs : List D) : listD [.lst xs] = some ⟨.fr, .lst xs⟩ := (rfl)
@[simp] theorem listD_tup (xs : List D) : listD [.tup xs] = some ⟨.fr, .lst xs⟩ := (rfl)
@[simp] theorem onBls_bls (g : List Bool → Bool) (bs : List Bool) : onBls g [.lst (bs.map D.bl)] = some ⟨.fz, .bl (g bs)⟩ := by
  unfold onBls
  simp only [blsD_bls]
theorem onBls_map {α : Type} (g : List Bool → Bool) (f : α → Bool) (xs : List α) : onBls g [.lst (xs.map fun x => D.bl (f x))] = some ⟨.fz, .bl (g (xs.map f))⟩ := by
  rw [← onBls_bls g (xs.map f), List.map_map]
  rfl
theorem maxD_ints (xs : List Int) : maxD [.lst (iL xs)] = (maxL xs).map fun m => ⟨.fz, .int m⟩ := by
  show (maxD1 [.lst (iL xs)]) = _
  unfold maxD1 onIntL listInts
  simp only [intsD_ints]
  cases maxL xs <;> rfl
theorem minD_ints (xs : List Int) : minD [.lst (iL xs)] = (minL xs).map fun m => ⟨.fz, .int m⟩ := by
  show (minD1 [.lst (iL xs)]) = _
  unfold minD1 onIntL listInts
  simp only [intsD_ints]
  cases minL xs <;> rfl
theorem sortD_ints (xs : List Int) : sortD [.lst (iL xs)] = some ⟨.fr, .lst (iL (sortI xs))⟩ := by
  unfold sortD sortL listInts
  simp only [intsD_ints]
  rfl
theorem isIL_iL : ∀ (xs : List Int), isIL (iL xs) = true
  | [] => rfl
  | x :: xs => isIL_iL xs
theorem eqIL_iL : ∀ (xs ys : List Int), eqIL (iL xs) (iL ys) = decide (xs = ys)
  | [], [] => rfl
  | [], _ :: _ => rfl
  | _ :: _, [] => rfl
  | x :: xs, y :: ys => by
    show (decide (x = y) && eqIL (iL xs) (iL ys)) = _
    rw [eqIL_iL xs ys]
    by_cases h : x = y <;> by_cases h' : xs = ys <;> simp [h, h']
theorem eqR_tup (xs ys : List Int) : eqR (.tup (iL xs)) (.tup (iL ys)) = some ⟨.fz, .bl (decide (xs = ys))⟩ := by
  show (if (isIL (iL xs) && isIL (iL ys)) = true then some (rz (.bl (eqIL (iL xs) (iL ys)))) else _) = _
  rw [isIL_iL, isIL_iL, eqIL_iL]
  rfl
theorem neR_tup (xs ys : List Int) : neR (.tup (iL xs)) (.tup (iL ys)) = some ⟨.fz, .bl (!decide (xs = ys))⟩ := by
  show (if (isIL (iL xs) && isIL (iL ys)) = true then some (rz (.bl (!eqIL (iL xs) (iL ys)))) else _) = _
  rw [isIL_iL, isIL_iL, eqIL_iL]
  rfl
theorem eqR_lst (xs ys : List Int) : eqR (.lst (iL xs)) (.lst (iL ys)) = some ⟨.fz, .bl (decide (xs = ys))⟩ := by
  show (if (isIL (iL xs) && isIL (iL ys)) = true then some (rz (.bl (eqIL (iL xs) (iL ys)))) else _) = _
  rw [isIL_iL, isIL_iL, eqIL_iL]
  rfl
theorem neR_lst (xs ys : List Int) : neR (.lst (iL xs)) (.lst (iL ys)) = some ⟨.fz, .bl (!decide (xs = ys))⟩ := by
  show (if (isIL (iL xs) && isIL (iL ys)) = true then some (rz (.bl (!eqIL (iL xs) (iL ys)))) else _) = _
  rw [isIL_iL, isIL_iL, eqIL_iL]
  rfl
theorem neR_bl (a b : Bool) : neR (.bl a) (.bl b) = some ⟨.fz, .bl (a != b)⟩ := by cases a <;> cases b <;> rfl
theorem eqR_bl (a b : Bool) : eqR (.bl a) (.bl b) = some ⟨.fz, .bl (a == b)⟩ := by cases a <;> cases b <;> rfl
theorem fits_le {n : Nat} (h : n ≤ 100000) : fitsN n = true := by
  unfold fitsN
  have : (100000 : Nat) ≤ sizeLine := by decide +kernel
  simp
  omega
theorem addR_lst {xs ys : List D} (h : xs.length + ys.length ≤ 100000) : addR (.lst xs) (.lst ys) = some ⟨.fr, .lst (xs ++ ys)⟩ := by
  show (if fitsN (xs.length + ys.length) = true then _ else _) = _
  rw [if_pos (fits_le h)]
theorem addR_tup {xs ys : List D} (h : xs.length + ys.length ≤ 100000) : addR (.tup xs) (.tup ys) = some ⟨.fz, .tup (xs ++ ys)⟩ := by
  show (if fitsN (xs.length + ys.length) = true then _ else _) = _
  rw [if_pos (fits_le h)]
theorem in64_le {i : Int} (h : -1000000000000000 ≤ i) (h' : i ≤ 1000000000000000) : in64 i = true := by
  unfold in64
  simp
  omega
theorem flat_rep {α : Type} (d : α) : ∀ n : Nat, (List.replicate n [d]).flatten = List.replicate n d
  | 0 => rfl
  | n + 1 => by simp [List.replicate_succ, flat_rep d n]
theorem mulA_rep {d : D} {k : Int} (h : 0 ≤ k) (h' : k ≤ 1000) : mulA (.lst [d]) (.int k) = some ⟨.fr, .lst (List.replicate k.toNat d)⟩ := by
  have e : mulD (.lst [d]) (.int k) = some ⟨.fr, .lst (List.replicate k.toNat d)⟩ := by
    show (if (in64 (k * 2) && fitsN ([d].length * k.toNat)) = true then some (⟨.fr, .lst (List.replicate k.toNat [d]).flatten⟩ : RV) else none) = _
    rw [in64_le (by omega) (by omega), fits_le (by simp; omega), flat_rep]
    rfl
  unfold mulA
  rw [e]
theorem mulA_repT {d : D} {k : Int} (h : 1 ≤ k) (h' : k ≤ 1000) : mulA (.tup [d]) (.int k) = some ⟨.fz, .tup (List.replicate k.toNat d)⟩ := by
  have e : mulD (.tup [d]) (.int k) = none := (rfl)
  unfold mulA
  rw [e]
  by_cases h1 : k = 1
  · subst h1
    rfl
  · have e1 : rep1 (.tup [d]) (.int k) = none := by
      show (if k = 1 then _ else _) = _
      rw [if_neg h1]
    rw [e1]
    show (if (![d].isEmpty && decide (2 ≤ k) && decide (k ≤ 1000) && decide ([d].length ≤ 1000)) = true then some (rz (.tup (List.replicate k.toNat [d]).flatten)) else none) = _
    rw [if_pos (by simp; omega), flat_rep]
theorem mulA_int {i j : Int} (h : -1000000000000000 ≤ j) (h' : j ≤ 1000000000000000) : mulA (.int i) (.int j) = some ⟨.fz, .int (i * j)⟩ := by
  have e : mulD (.int i) (.int j) = some ⟨.fz, .int (i * j)⟩ := by
    show (if (in64 i || in64 j) = true then some (rz (.int (i * j))) else none) = _
    rw [in64_le h h', Bool.or_true]
    rfl
  unfold mulA
  rw [e]
theorem mulA_int_l {i j : Int} (h : -1000000000000000 ≤ i) (h' : i ≤ 1000000000000000) : mulA (.int i) (.int j) = some ⟨.fz, .int (i * j)⟩ := by
  have e : mulD (.int i) (.int j) = some ⟨.fz, .int (i * j)⟩ := by
    show (if (in64 i || in64 j) = true then some (rz (.int (i * j))) else none) = _
    rw [in64_le h h', Bool.true_or]
    rfl
  unfold mulA
  rw [e]
theorem fdiv_int {i j : Int} (h : 0 < j) (h' : j ≤ 1000000000000000) : fdivD (.int i) (.int j) = some ⟨.fz, .int (i / j)⟩ := by
  show (if _ then _ else _) = _
  rw [if_pos (by simp; omega)]
theorem ixN_pos {n : Nat} {i : Int} (h : 0 ≤ i) (h' : i < n) : ixN n i = some i.toNat := by
  unfold ixN
  rw [if_pos h, if_pos h']
theorem atI_pos {α : Type} {xs : List α} {i : Int} (h : 0 ≤ i) (h' : i < xs.length) : atI xs i = xs[i.toNat]? := by
  unfold atI
  rw [ixN_pos h h']
  rfl
theorem ix_lst {xs : List D} {i : Int} {d : D} (h : 0 ≤ i) (hd : xs[i.toNat]? = some d) : ixD (.lst xs) (.int i) = some ⟨.fz, d⟩ := by
  show (atI xs i).map rz = _
  have hn := (List.getElem?_eq_some_iff.mp hd).1
  rw [atI_pos h (by omega), hd]
  rfl
theorem ix_tup {xs : List D} {i : Int} {d : D} (h : 0 ≤ i) (hd : xs[i.toNat]? = some d) : ixD (.tup xs) (.int i) = some ⟨.fz, d⟩ := by
  show (atI xs i).map rz = _
  have hn := (List.getElem?_eq_some_iff.mp hd).1
  rw [atI_pos h (by omega), hd]
  rfl
theorem get_iL (xs : List Int) (k : Nat) (h : k < xs.length) : (iL xs)[k]? = some (.int xs[k]) := by
  simp [iL, h]
theorem cut1 (xs : List D) : cutD xs (some 1) none = xs.tail := by
  unfold cutD
  have e : HT.sIx xs.length 0 (some 1) = min 1 xs.length := HT.sIx_nat xs.length 0 1
  rw [e, HT.sIx_none]
  cases xs with
  | nil => rfl
  | cons x xs => simp
@[simp] theorem dPart_none (st : MSt) : dPart none st = .ok none := (rfl)
theorem inS_ints (neg : Bool) (i : Int) (xs : List Int) : inD neg (.int i) (.tup (iL xs)) = some ⟨.fz, .bl (if neg then !decide (i ∈ xs) else decide (i ∈ xs))⟩ ∧ inD neg (.int i) (.lst (iL xs)) = some ⟨.fz, .bl (if neg then !decide (i ∈ xs) else decide (i ∈ xs))⟩ := by
  have e1 : ∀ xs : List Int, allScal (iL xs) = true := fun xs => by
    induction xs with
    | nil => rfl
    | cons x xs ih => exact ih
  have e2 : ∀ xs : List Int, anyS (.int i) (iL xs) = decide (i ∈ xs) := fun xs => by
    induction xs with
    | nil => rfl
    | cons x xs ih =>
      show ((x == i) || anyS (.int i) (iL xs)) = _
      rw [ih]
      by_cases h : x = i
      · simp [h]
      · have h2 : i ≠ x := fun z => h z.symm
        simp [h, h2]
  have e3 : D.scal (.int i) = true := (rfl)
  constructor
  · unfold inD
    have : inS neg (.int i) (.tup (iL xs)) = some ⟨.fz, .bl (if neg then !decide (i ∈ xs) else decide (i ∈ xs))⟩ := by
      show (if (D.scal (.int i) && allScal (iL xs)) = true then some (rz (.bl (if neg then !anyS (.int i) (iL xs) else anyS (.int i) (iL xs)))) else none) = _
      rw [e1, e2, e3]
      rfl
    rw [this]
  · unfold inD
    have : inS neg (.int i) (.lst (iL xs)) = some ⟨.fz, .bl (if neg then !decide (i ∈ xs) else decide (i ∈ xs))⟩ := by
      show (if (D.scal (.int i) && allScal (iL xs)) = true then some (rz (.bl (if neg then !anyS (.int i) (iL xs) else anyS (.int i) (iL xs)))) else none) = _
      rw [e1, e2, e3]
      rfl
    rw [this]
theorem in_tup (i : Int) (xs : List Int) : inD false (.int i) (.tup (iL xs)) = some ⟨.fz, .bl (decide (i ∈ xs))⟩ := (inS_ints false i xs).1
theorem notin_tup (i : Int) (xs : List Int) : inD true (.int i) (.tup (iL xs)) = some ⟨.fz, .bl (!decide (i ∈ xs))⟩ := (inS_ints true i xs).1
theorem in_lst (i : Int) (xs : List Int) : inD false (.int i) (.lst (iL xs)) = some ⟨.fz, .bl (decide (i ∈ xs))⟩ := (inS_ints false i xs).2
theorem notin_lst (i : Int) (xs : List Int) : inD true (.int i) (.lst (iL xs)) = some ⟨.fz, .bl (!decide (i ∈ xs))⟩ := (inS_ints true i xs).2
/-! dict comprehension with int keys, all of one value -/
def dedupI : List Int → List Int → List Int
  | acc, [] => acc
  | acc, x :: xs => dedupI (if x ∈ acc then acc else acc ++ [x]) xs
abbrev keyed (v : D) (ks : List Int) : List (D × D) := ks.map fun k => (.int k, v)
theorem hasK_keyed (v : D) (k : Int) : ∀ ks : List Int, hasK (.int k) (keyed v ks) = decide (k ∈ ks)
  | [] => rfl
  | x :: xs => by
    have ih := hasK_keyed v k xs
    simp only [keyed, List.map_cons, hasK] at ih ⊢
    rw [ih]
    have e : keq (.int x) (.int k) = decide (x = k) := (rfl)
    rw [e]
    by_cases h : x = k
    · simp [h]
    · have h2 : k ≠ x := fun z => h z.symm
      simp [h, h2]
theorem replK_keyed (v : D) (k : Int) : ∀ ks : List Int, replK (.int k) v (keyed v ks) = keyed v ks
  | [] => rfl
  | x :: xs => by
    have ih := replK_keyed v k xs
    simp only [keyed, List.map_cons, replK] at ih ⊢
    rw [ih]
    split <;> rfl
theorem putD_keyed (v : D) (k : Int) (ks : List Int) : putD (keyed v ks) (.int k) v = keyed v (if k ∈ ks then ks else ks ++ [k]) := by
  unfold putD
  rw [hasK_keyed, replK_keyed]
  by_cases h : k ∈ ks <;> simp [h]
theorem keyInts_keyed (v : D) : ∀ ks : List Int, keyInts (keyed v ks) = some ks
  | [] => rfl
  | x :: xs => by
    have ih := keyInts_keyed v xs
    simp only [keyed, List.map_cons, keyInts] at ih ⊢
    rw [ih]
    rfl
theorem dc_keyed {α : Type} (p : PatF) (dt : DT) (dk dv : DE) (st : MSt) (enc : α → D) (f : α → Int) (v : D) : ∀ (xs : List α) (acc : List Int), acc.length + xs.length ≤ 100000 →
    (∀ x, x ∈ xs → setPatF p (enc x) st (fun s => (dt s).bnd fun b => (dk s).bnd fun k => (dv s).bnd fun w => .ok (b, k, w)) = .ok (true, ⟨.fz, .int (f x)⟩, ⟨.fz, v⟩)) → dcGoF p dt dk dv st (xs.map enc) (keyed v acc) = .ok (keyed v (dedupI acc (xs.map f)))
  | [], acc, _, _ => by simp [dcGoF, dedupI]
  | x :: xs, acc, hl, h => by
    have h0 := h x (by simp)
    have sl : (100000 : Nat) ≤ sizeLine := by decide +kernel
    rw [List.map_cons]
    unfold dcGoF
    rw [force2_eq]
    rw [setPatF_eq] at h0 ⊢
    cases q : setPat p.pat (enc x) st with
    | none => rw [q] at h0; cases h0
    | some s =>
      rw [q] at h0
      simp only at h0 ⊢
      cases h1 : dt s with
      | bad => rw [h1] at h0; cases h0
      | exc c => rw [h1] at h0; cases h0
      | ok b =>
        rw [h1, bnd_ok] at h0
        cases h2 : dk s with
        | bad => rw [h2] at h0; cases h0
        | exc c => rw [h2] at h0; cases h0
        | ok k =>
          rw [h2, bnd_ok] at h0
          cases h3 : dv s with
          | bad => rw [h3] at h0; cases h0
          | exc c => rw [h3] at h0; cases h0
          | ok w =>
            rw [h3, bnd_ok] at h0
            cases h0
            have hk : (dKey (D.int (f x))).isSome = true := (rfl)
            have ha : (keyed v acc).length < sizeLine := by
              simp at hl ⊢
              omega
            simp only [hk, keep_fz, ha, decide_true, Bool.and_self, if_true, force2_eq, putD_keyed, List.map_cons, dedupI]
            refine dc_keyed p dt dk dv st enc f v xs _ ?_ fun y hy => h y (by simp [hy])
            split <;> simp at hl ⊢ <;> omega
@[simp] theorem dDcF_def (di : DI) (p : PatF) (vs : List Acc) (dt : DT) (dk dv : DE) (st : MSt) : dDcF di p vs dt dk dv st = (di st).bnd fun q => match dcGoF p dt dk dv (wipeF st vs) q.2 [] with
  | .ok kvs => .ok ⟨.fr, .dic kvs⟩
  | _ => .bad := by
  unfold dDcF
  rw [Out.bnd_eq]
  all_goals rfl
theorem sortD_keyed (v : D) (ks : List Int) (h : ks.length < 64) (h' : ks ≠ []) : sortD [.dic (keyed v ks)] = some ⟨.fr, .lst (iL (sortI ks))⟩ := by
  have e : sortL [.dic (keyed v ks)] = none := (rfl)
  unfold sortD
  rw [e]
  show (match keyInts (keyed v ks) with
    | some ks => if (decide (ks.length < 64) && !ks.isEmpty) = true then some (⟨.fr, .lst ((sortI ks).map D.int)⟩ : RV) else none
    | none => none) = _
  rw [keyInts_keyed]
  have : ks.isEmpty = false := by cases ks <;> simp_all
  simp [h, this, iL_map]
theorem length_dedupI : ∀ (xs acc : List Int), (dedupI acc xs).length ≤ acc.length + xs.length
  | [], acc => by simp [dedupI]
  | x :: xs, acc => by
    unfold dedupI
    have := length_dedupI xs (if x ∈ acc then acc else acc ++ [x])
    split at this <;> simp_all <;> omega
end Mini

set_option Elab.async false
set_option linter.all false
set_option maxRecDepth 100000
/-! Mini C3: loops in their place; owned lists. -/
namespace Mini
open PySem L2 LamX
theorem for_iL {σ : Type} (xs : List Int) (R : σ → MSt → Prop) (f : σ → Int → σ) (s : σ) {p : PatF} {body : DS} {st : MSt} (h : R s st) (step : ∀ x, x ∈ xs → ∀ s st, R s st → ∃ st', setPatF p (.int x) st body = .ok (.nx st') ∧ R (f s x) st') : ∃ st', forGoR p body (iL xs) st = .ok (.nx st') ∧ R (xs.foldl f s) st' :=
  for_run p body D.int R f xs step s st h
theorem for_k {σ : Type} (xs : List Int) (R : σ → MSt → Prop) (f : σ → Int → σ) (s : σ) {p : PatF} {body : DS} {st : MSt} {K : Fl → Out Fl} {Z : Out RV} (h : R s st) (step : ∀ x, x ∈ xs → ∀ s st, R s st → ∃ st', setPatF p (.int x) st body = .ok (.nx st') ∧ R (f s x) st')
    (post : ∀ st', R (xs.foldl f s) st' → finD ((Out.ok (Fl.nx st')).bnd K) = Z) : finD ((forGoR p body (iL xs) st).bnd K) = Z := by
  obtain ⟨st', h1, h2⟩ := for_iL xs R f s h step
  rw [h1]
  exact post st' h2
theorem for_find {α β : Type} (p : PatF) (body : DS) (enc : α → D) (er : β → RV) (R : MSt → Prop) (g : α → Option β) : ∀ (xs : List α) (step : ∀ x, x ∈ xs → ∀ st, R st → match g x with | none => ∃ st', setPatF p (enc x) st body = .ok (.nx st') ∧ R st' | some b => setPatF p (enc x) st body = .ok (.rt (er b))) (st : MSt), R st →
    match xs.findSome? g with | none => ∃ st', forGoR p body (xs.map enc) st = .ok (.nx st') ∧ R st' | some b => forGoR p body (xs.map enc) st = .ok (.rt (er b))
  | [], _, st, h => ⟨st, rfl, h⟩
  | x :: xs, step, st, h => by
    have h0 := step x (by simp) st h
    cases hg : g x with
    | none =>
      rw [hg] at h0
      obtain ⟨st1, h1, h2⟩ := h0
      have h3 := for_find p body enc er R g xs (fun y hy => step y (by simp [hy])) st1 h2
      simp only [List.findSome?_cons, hg, List.map_cons, forGoR_cons, h1, afterR_nx]
      exact h3
    | some b =>
      rw [hg] at h0
      simp only [List.findSome?_cons, hg, List.map_cons, forGoR_cons, h0, afterR_rt]
theorem find_k {β : Type} (xs : List Int) (R : MSt → Prop) (g : Int → Option β) (er : β → RV) {p : PatF} {body : DS} {st : MSt} {K : Fl → Out Fl} {Z : Out RV} (h : R st) (step : ∀ x, x ∈ xs → ∀ st, R st → match g x with | none => ∃ st', setPatF p (.int x) st body = .ok (.nx st') ∧ R st' | some b => setPatF p (.int x) st body = .ok (.rt (er b)))
    (post : match xs.findSome? g with | none => ∀ st', R st' → finD ((Out.ok (Fl.nx st')).bnd K) = Z | some b => finD ((Out.ok (Fl.rt (er b))).bnd K) = Z) : finD ((forGoR p body (iL xs) st).bnd K) = Z := by
  have h1 := for_find p body D.int er R g xs step st h
  cases e : xs.findSome? g with
  | none =>
    rw [e] at h1 post
    obtain ⟨st', h2, h3⟩ := h1
    rw [show iL xs = xs.map D.int from rfl, h2]
    exact post st' h3
  | some b =>
    rw [e] at h1 post
    simp only at h1 post
    rw [show iL xs = xs.map D.int from rfl, h1]
    exact post
theorem iL_set : ∀ (xs : List Int) (k : Nat) (x : Int), (iL xs).set k (.int x) = iL (xs.set k x)
  | [], _, _ => rfl
  | _ :: _, 0, _ => rfl
  | y :: ys, k + 1, x => by
    show D.int y :: (iL ys).set k (.int x) = D.int y :: iL (ys.set k x)
    rw [iL_set ys]
theorem set_modify {α : Type} (f : α → α) : ∀ (xs : List α) (k : Nat) (h : k < xs.length), xs.set k (f xs[k]) = xs.modify k f
  | [], _, h => by cases h
  | x :: xs, 0, _ => rfl
  | x :: xs, k + 1, h => by
    have := set_modify f xs k (by simpa using h)
    simp [this]
theorem aug_ints (f : Int → Int → Int) {a : Acc} {di de : DE} {st : MSt} {xs : List Int} {k y : Int} {k1 k2 : Kd} (ha : a.g st = some (.own (.lst (iL xs)))) (hi : di st = .ok ⟨k1, .int k⟩) (hy : de st = .ok ⟨k2, .int y⟩) (h0 : 0 ≤ k) (h1 : k < xs.length) :
    dAugF f a di de st = .ok (.nx (a.s st (.own (.lst (iL (xs.modify k.toNat fun x => f x y)))))) := by
  have ho : ownF st a = some (iL xs) := by
    unfold ownF
    rw [ha]
  have hk : k.toNat < xs.length := by omega
  have hx : ixN (iL xs).length k = some k.toNat := ixN_pos h0 (by simpa using h1)
  unfold dAugF
  rw [ho]
  simp only [hi, hy, bind_ok]
  have hok : ixOk (iL xs) ⟨k1, .int k⟩ = true := by
    show (atI (iL xs) k).isSome = true
    rw [atI_pos h0 (by simpa using h1), get_iL xs _ hk]
    rfl
  rw [hok]
  simp only [if_true]
  unfold augKF
  simp only [hx, get_iL xs _ hk, iL_set, putF, fFL2]
  rw [← set_modify (fun x => f x y) xs _ hk]
@[simp] theorem isD_non (neg : Bool) : isD neg .non .non = some ⟨.fz, .bl (!neg)⟩ := by cases neg <;> rfl
@[simp] theorem isD_tup (neg : Bool) (xs : List D) : isD neg (.tup xs) .non = some ⟨.fz, .bl neg⟩ := by cases neg <;> rfl
@[simp] theorem isD_lst (neg : Bool) (xs : List D) : isD neg (.lst xs) .non = some ⟨.fz, .bl neg⟩ := by cases neg <;> rfl
@[simp] theorem isD_int (neg : Bool) (xs : Int) : isD neg (.int xs) .non = some ⟨.fz, .bl neg⟩ := by cases neg <;> rfl
@[simp] theorem isD_bl (neg : Bool) (a b : Bool) : isD neg (.bl a) (.bl b) = some ⟨.fz, .bl (if neg then a != b else a == b)⟩ := by cases neg <;> cases a <;> cases b <;> rfl
/-- None or a tuple of ints -/
def optT : Option (List Int) → D
  | none => .non
  | some xs => .tup (iL xs)
theorem maxL_some {xs : List Int} (h : xs ≠ []) : ∃ m, maxL xs = some m := by
  cases e : maxL xs with
  | none => exact absurd (maxL_none e) h
  | some m => exact ⟨m, rfl⟩
theorem minL_some {xs : List Int} (h : xs ≠ []) : ∃ m, minL xs = some m := by
  cases xs with
  | nil => exact absurd rfl h
  | cons x xs =>
    unfold minL
    cases minL xs <;> exact ⟨_, rfl⟩
theorem map_int (f : Int → Int) (xs : List Int) : (xs.map fun x => D.int (f x)) = iL (xs.map f) := by simp [iL]
theorem emod_ix {n a : Int} (h : 0 < n) : 0 ≤ a % n ∧ a % n < n := ⟨Int.emod_nonneg a (by omega), Int.emod_lt_of_pos a h⟩
/-! ### long bodies, statement by statement -/
/-- goes on, with R -/
def Nx (R : MSt → Prop) (o : Out Fl) : Prop := ∃ st', o = .ok (.nx st') ∧ R st'
/-- a loop: what is so behind the items that were walked -/
theorem for_pre' {α : Type} {p : PatF} {body : DS} (enc : α → D) (xs : List α) (R : List α → MSt → Prop) (step : ∀ pre x post, xs = pre ++ x :: post → ∀ st, R pre st → Nx (R (pre ++ [x])) (setPatF p (enc x) st body)) : ∀ (post pre : List α) (st : MSt), xs = pre ++ post → R pre st → Nx (R xs) (forGoR p body (post.map enc) st)
  | [], pre, st, e, h => by
    rw [List.append_nil] at e
    subst e
    exact ⟨st, rfl, h⟩
  | x :: post, pre, st, e, h => by
    obtain ⟨st1, h1, h2⟩ := step pre x post e st h
    rw [List.map_cons]
    unfold Nx
    rw [forGoR_cons, h1, afterR_nx]
    exact for_pre' enc xs R step post (pre ++ [x]) st1 (by rw [e]; simp) h2
theorem for_pre {α : Type} {p : PatF} {body : DS} {st : MSt} (enc : α → D) (xs : List α) (R : List α → MSt → Prop) (h : R [] st) (step : ∀ pre x post, xs = pre ++ x :: post → ∀ st, R pre st → Nx (R (pre ++ [x])) (setPatF p (enc x) st body)) : Nx (R xs) (forGoR p body (xs.map enc) st) := for_pre' enc xs R step xs [] st rfl h
def Fin (Z : Out RV) (o : Out Fl) : Prop := finD o = Z
theorem Nx.seq {p q : DS} {st st' : MSt} {R : MSt → Prop} (h : p st = .ok (.nx st')) (k : Nx R (q st')) : Nx R (dSeqR p q st) := by
  unfold Nx
  rw [dSeqR_def, h]
  exact k
theorem Nx.seqs {p q : DS} {st : MSt} {R R' : MSt → Prop} (h : Nx R' (p st)) (k : ∀ st', R' st' → Nx R (q st')) : Nx R (dSeqR p q st) := by
  obtain ⟨st', h1, h2⟩ := h
  exact Nx.seq h1 (k st' h2)
theorem Nx.ifT {t : DT} {p q : DS} {st : MSt} {R : MSt → Prop} (h : t st = .ok true) (k : Nx R (p st)) : Nx R (dIfSR t p q st) := by
  unfold Nx
  rw [dIfSR_def, h]
  exact k
theorem Nx.ifF {t : DT} {p q : DS} {st : MSt} {R : MSt → Prop} (h : t st = .ok false) (k : Nx R (q st)) : Nx R (dIfSR t p q st) := by
  unfold Nx
  rw [dIfSR_def, h]
  exact k
theorem Nx.end {p : DS} {st st' : MSt} {R : MSt → Prop} (h : p st = .ok (.nx st')) (k : R st') : Nx R (p st) := ⟨st', h, k⟩
theorem Fin.run {n : Nat} {body : DS} {ds : List D} {Z : Out RV} (h : Fin Z (body (startM n ds))) : runD n body ds = Z := by
  rw [runD_fin]
  exact h
theorem Fin.seq {p q : DS} {st st' : MSt} {Z : Out RV} (h : p st = .ok (.nx st')) (k : Fin Z (q st')) : Fin Z (dSeqR p q st) := by
  unfold Fin
  rw [dSeqR_def, h]
  exact k
theorem Fin.seqs {p q : DS} {st : MSt} {Z : Out RV} {R : MSt → Prop} (h : ∃ st', p st = .ok (.nx st') ∧ R st') (k : ∀ st', R st' → Fin Z (q st')) : Fin Z (dSeqR p q st) := by
  obtain ⟨st', h1, h2⟩ := h
  exact Fin.seq h1 (k st' h2)
theorem Fin.for {di : DI} {p : PatF} {body q : DS} {st : MSt} {ds : List D} {Z : Out RV} {R : MSt → Prop} (h : di st = .ok (true, ds)) (hl : Nx R (forGoR p body ds st)) (k : ∀ st', R st' → Fin Z (q st')) : Fin Z (dSeqR (dForR di p body) q st) := by
  refine Fin.seqs (R := R) ?_ k
  rw [dForR_def, h]
  exact hl
theorem Nx.for {di : DI} {p : PatF} {body q : DS} {st : MSt} {ds : List D} {R R' : MSt → Prop} (h : di st = .ok (true, ds)) (hl : Nx R' (forGoR p body ds st)) (k : ∀ st', R' st' → Nx R (q st')) : Nx R (dSeqR (dForR di p body) q st) := by
  refine Nx.seqs (R' := R') ?_ k
  rw [dForR_def, h]
  exact hl
theorem Fin.rt {p : DS} {st : MSt} {r : RV} (h : p st = .ok (.rt r)) : Fin (.ok r) (p st) := by
  unfold Fin
  rw [h]
  rfl
theorem Fin.nx {p : DS} {st st' : MSt} (h : p st = .ok (.nx st')) : Fin (.ok ⟨.fz, .non⟩) (p st) := by
  unfold Fin
  rw [h]
  rfl
theorem Fin.seqR {p q : DS} {st : MSt} {r : RV} (h : p st = .ok (.rt r)) : Fin (.ok r) (dSeqR p q st) := by
  unfold Fin
  rw [dSeqR_def, h]
  rfl
theorem Fin.exc {p q : DS} {st : MSt} {c : Str} (h : p st = .exc c) : Fin (.exc c) (dSeqR p q st) := by
  unfold Fin
  rw [dSeqR_def, h]
  rfl
end Mini

set_option Elab.async false
set_option linter.all false
set_option maxRecDepth 100000
/-! Mini C4: words for bodies, statement by statement. -/
namespace Mini
open PySem L2 LamX
theorem seq_nx {p q : DS} {st st' : MSt} (h : p st = .ok (.nx st')) : dSeqR p q st = q st' := by rw [dSeqR_def, h]; rfl
theorem set_nx {own : Bool} {a : Acc} {de : DE} {st : MSt} {r : RV} {v : SV} (h : de st = .ok r) (hk : keepAs own r = some v) : dSetR own a de st = .ok (.nx (a.s st v)) := by rw [dSetR_def, h, bnd_ok, hk]
end Mini

set_option Elab.async false
set_option linter.all false
set_option maxRecDepth 100000
set_option maxHeartbeats 4000000
noncomputable section
namespace LawK
open PySem L2 LamX PySem.Spec PyProof.Rows Mini L2H
def top (i : Nat) : Stmt := PySem.Challenge.pw_wholerounds_k03_whole_struck.main.body.getD i (.Pass ⟨0, 0, 0, 0⟩)
theorem nm_MOST_BEATS : okN ("MOST_BEATS" : Str) = true := by decide +kernel
theorem nm_NoBack : okN ("NoBack" : Str) = true := by decide +kernel
theorem nm_NoEntries : okN ("NoEntries" : Str) = true := by decide +kernel
theorem nm_NoFigure : okN ("NoFigure" : Str) = true := by decide +kernel
theorem nm_NoName : okN ("NoName" : Str) = true := by decide +kernel
theorem nm_NoNumber : okN ("NoNumber" : Str) = true := by decide +kernel
theorem nm_NoParts : okN ("NoParts" : Str) = true := by decide +kernel
theorem nm_NoRhythm : okN ("NoRhythm" : Str) = true := by decide +kernel
theorem nm_NoRing : okN ("NoRing" : Str) = true := by decide +kernel
theorem nm_NoState : okN ("NoState" : Str) = true := by decide +kernel
theorem nm_NoText : okN ("NoText" : Str) = true := by decide +kernel
theorem nm_NoVoice : okN ("NoVoice" : Str) = true := by decide +kernel
theorem nm_NoVoices : okN ("NoVoices" : Str) = true := by decide +kernel
theorem nm_NotWhole : okN ("NotWhole" : Str) = true := by decide +kernel
theorem nm_RoundError : okN ("RoundError" : Str) = true := by decide +kernel
theorem nm_Taken : okN ("Taken" : Str) = true := by decide +kernel
theorem nm_TooGreat : okN ("TooGreat" : Str) = true := by decide +kernel
theorem nm_u_law_beats : okN ("_law_beats" : Str) = true := by decide +kernel
theorem nm_u_law_class : okN ("_law_class" : Str) = true := by decide +kernel
theorem nm_u_law_common : okN ("_law_common" : Str) = true := by decide +kernel
theorem nm_u_law_drawn_out : okN ("_law_drawn_out" : Str) = true := by decide +kernel
theorem nm_u_law_odd : okN ("_law_odd" : Str) = true := by decide +kernel
theorem nm_u_law_pick : okN ("_law_pick" : Str) = true := by decide +kernel
theorem nm_u_law_rhythm : okN ("_law_rhythm" : Str) = true := by decide +kernel
theorem nm_u_law_ring : okN ("_law_ring" : Str) = true := by decide +kernel
theorem nm_u_law_round : okN ("_law_round" : Str) = true := by decide +kernel
theorem nm_u_law_struck : okN ("_law_struck" : Str) = true := by decide +kernel
theorem nm_u_law_told : okN ("_law_told" : Str) = true := by decide +kernel
theorem nm_again : okN ("again" : Str) = true := by decide +kernel
theorem nm_all : okN ("all" : Str) = true := by decide +kernel
theorem nm_at : okN ("at" : Str) = true := by decide +kernel
theorem nm_beat : okN ("beat" : Str) = true := by decide +kernel
theorem nm_beats : okN ("beats" : Str) = true := by decide +kernel
theorem nm_bool : okN ("bool" : Str) = true := by decide +kernel
theorem nm_by : okN ("by" : Str) = true := by decide +kernel
theorem nm_cell : okN ("cell" : Str) = true := by decide +kernel
theorem nm_clash : okN ("clash" : Str) = true := by decide +kernel
theorem nm_deed : okN ("deed" : Str) = true := by decide +kernel
theorem nm_drawn : okN ("drawn" : Str) = true := by decide +kernel
theorem nm_due : okN ("due" : Str) = true := by decide +kernel
theorem nm_e : okN ("e" : Str) = true := by decide +kernel
theorem nm_entries : okN ("entries" : Str) = true := by decide +kernel
theorem nm_entry : okN ("entry" : Str) = true := by decide +kernel
theorem nm_found : okN ("found" : Str) = true := by decide +kernel
theorem nm_gap : okN ("gap" : Str) = true := by decide +kernel
theorem nm_here : okN ("here" : Str) = true := by decide +kernel
theorem nm_int : okN ("int" : Str) = true := by decide +kernel
theorem nm_is_number : okN ("is_number" : Str) = true := by decide +kernel
theorem nm_is_plain_whole : okN ("is_plain_whole" : Str) = true := by decide +kernel
theorem nm_is_rhythm_of : okN ("is_rhythm_of" : Str) = true := by decide +kernel
theorem nm_is_rising : okN ("is_rising" : Str) = true := by decide +kernel
theorem nm_is_same : okN ("is_same" : Str) = true := by decide +kernel
theorem nm_is_whole : okN ("is_whole" : Str) = true := by decide +kernel
theorem nm_k : okN ("k" : Str) = true := by decide +kernel
theorem nm_kinds : okN ("kinds" : Str) = true := by decide +kernel
theorem nm_least : okN ("least" : Str) = true := by decide +kernel
theorem nm_left : okN ("left" : Str) = true := by decide +kernel
theorem nm_len : okN ("len" : Str) = true := by decide +kernel
theorem nm_look_entries : okN ("look_entries" : Str) = true := by decide +kernel
theorem nm_look_rhythm : okN ("look_rhythm" : Str) = true := by decide +kernel
theorem nm_look_ring : okN ("look_ring" : Str) = true := by decide +kernel
theorem nm_made : okN ("made" : Str) = true := by decide +kernel
theorem nm_many : okN ("many" : Str) = true := by decide +kernel
theorem nm_max : okN ("max" : Str) = true := by decide +kernel
theorem nm_more : okN ("more" : Str) = true := by decide +kernel
theorem nm_most : okN ("most" : Str) = true := by decide +kernel
theorem nm_number : okN ("number" : Str) = true := by decide +kernel
theorem nm_numbers : okN ("numbers" : Str) = true := by decide +kernel
theorem nm_one : okN ("one" : Str) = true := by decide +kernel
theorem nm_other : okN ("other" : Str) = true := by decide +kernel
theorem nm_pairs : okN ("pairs" : Str) = true := by decide +kernel
theorem nm_plain_struck : okN ("plain_struck" : Str) = true := by decide +kernel
theorem nm_prime : okN ("prime" : Str) = true := by decide +kernel
theorem nm_rest : okN ("rest" : Str) = true := by decide +kernel
theorem nm_rhythm : okN ("rhythm" : Str) = true := by decide +kernel
theorem nm_ring : okN ("ring" : Str) = true := by decide +kernel
theorem nm_script : okN ("script" : Str) = true := by decide +kernel
theorem nm_some : okN ("some" : Str) = true := by decide +kernel
theorem nm_step : okN ("step" : Str) = true := by decide +kernel
theorem nm_struck : okN ("struck" : Str) = true := by decide +kernel
theorem nm_sum : okN ("sum" : Str) = true := by decide +kernel
theorem nm_sums : okN ("sums" : Str) = true := by decide +kernel
theorem nm_thing : okN ("thing" : Str) = true := by decide +kernel
theorem nm_things : okN ("things" : Str) = true := by decide +kernel
theorem nm_times : okN ("times" : Str) = true := by decide +kernel
theorem nm_told : okN ("told" : Str) = true := by decide +kernel
theorem nm_tuple : okN ("tuple" : Str) = true := by decide +kernel
theorem nm_units : okN ("units" : Str) = true := by decide +kernel
theorem nm_word : okN ("word" : Str) = true := by decide +kernel
abbrev s_is_number : Stmt := top 19
abbrev s_is_rising : Stmt := top 20
abbrev s_look_ring : Stmt := top 21
abbrev s_is_rhythm_of : Stmt := top 22
abbrev s_look_rhythm : Stmt := top 23
abbrev s_look_entries : Stmt := top 24
abbrev s_plain_struck : Stmt := top 25
abbrev s_struck : Stmt := top 26
abbrev s_is_plain_whole : Stmt := top 27
abbrev s_is_whole : Stmt := top 28
abbrev s_clash : Stmt := top 29
abbrev s_gap : Stmt := top 30
abbrev s_u_law_pick : Stmt := top 32
abbrev s_u_law_ring : Stmt := top 33
abbrev s_u_law_drawn_out : Stmt := top 34
abbrev s_u_law_common : Stmt := top 35
abbrev s_u_law_beats : Stmt := top 36
abbrev s_u_law_round : Stmt := top 37
abbrev s_u_law_rhythm : Stmt := top 38
abbrev s_u_law_struck : Stmt := top 39
abbrev s_u_law_odd : Stmt := top 40
abbrev s_u_law_class : Stmt := top 41
abbrev s_u_law_told : Stmt := top 42
abbrev s_law : Stmt := top 43
def rdX (c : Str) : Bool := c == ("NoEntries" : Str) || c == ("NoRhythm" : Str) || c == ("NoRing" : Str)
theorem rd_all {Q : Str → Prop} (h0 : Q ("NoEntries" : Str)) (h1 : Q ("NoRhythm" : Str)) (h2 : Q ("NoRing" : Str)) : ∀ c, rdX c = true → Q c := by
  intro c h
  simp only [rdX, Bool.or_eq_true, beq_iff_eq] at h
  rcases h with (rfl | rfl) | rfl
  · exact h0
  · exact h1
  · exact h2
def tab_NoBack (c : Str) : Option Bool := if rdX c = true then some (c == ("NoBack" : Str)) else none
def tab_NoEntries (c : Str) : Option Bool := if rdX c = true then some (c == ("NoEntries" : Str)) else none
def tab_NoFigure (c : Str) : Option Bool := if rdX c = true then some (c == ("NoFigure" : Str)) else none
def tab_NoName (c : Str) : Option Bool := if rdX c = true then some (c == ("NoName" : Str)) else none
def tab_NoNumber (c : Str) : Option Bool := if rdX c = true then some (c == ("NoNumber" : Str)) else none
def tab_NoParts (c : Str) : Option Bool := if rdX c = true then some (c == ("NoParts" : Str)) else none
def tab_NoRhythm (c : Str) : Option Bool := if rdX c = true then some (c == ("NoRhythm" : Str)) else none
def tab_NoRing (c : Str) : Option Bool := if rdX c = true then some (c == ("NoRing" : Str)) else none
def tab_NoState (c : Str) : Option Bool := if rdX c = true then some (c == ("NoState" : Str)) else none
def tab_NoText (c : Str) : Option Bool := if rdX c = true then some (c == ("NoText" : Str)) else none
def tab_NoVoice (c : Str) : Option Bool := if rdX c = true then some (c == ("NoVoice" : Str)) else none
def tab_NoVoices (c : Str) : Option Bool := if rdX c = true then some (c == ("NoVoices" : Str)) else none
def tab_NotWhole (c : Str) : Option Bool := if rdX c = true then some (c == ("NotWhole" : Str)) else none
def tab_Taken (c : Str) : Option Bool := if rdX c = true then some (c == ("Taken" : Str)) else none
def tab_TooGreat (c : Str) : Option Bool := if rdX c = true then some (c == ("TooGreat" : Str)) else none
def tabV (c : Str) : Option Bool := if rdX c = true then some true else none
structure Top (mg : Str → Option Value) (base : Heap) (F : Fm) (cv : Str → Value) (f_law : Addr) (k_law : Value) (f_u_law_told : Addr) (k_u_law_told : Value) : Prop where
  kx : F.K.In base
  gx : base.Ns mainGlobals mg
  d_is_number : DefIn F.K mg ("is_number" : Str) s_is_number
  d_is_rising : DefIn F.K mg ("is_rising" : Str) s_is_rising
  d_look_ring : DefIn F.K mg ("look_ring" : Str) s_look_ring
  d_is_rhythm_of : DefIn F.K mg ("is_rhythm_of" : Str) s_is_rhythm_of
  d_look_rhythm : DefIn F.K mg ("look_rhythm" : Str) s_look_rhythm
  d_look_entries : DefIn F.K mg ("look_entries" : Str) s_look_entries
  d_plain_struck : DefIn F.K mg ("plain_struck" : Str) s_plain_struck
  d_struck : DefIn F.K mg ("struck" : Str) s_struck
  d_is_plain_whole : DefIn F.K mg ("is_plain_whole" : Str) s_is_plain_whole
  d_is_whole : DefIn F.K mg ("is_whole" : Str) s_is_whole
  d_clash : DefIn F.K mg ("clash" : Str) s_clash
  d_gap : DefIn F.K mg ("gap" : Str) s_gap
  d_u_law_pick : DefIn F.K mg ("_law_pick" : Str) s_u_law_pick
  d_u_law_ring : DefIn F.K mg ("_law_ring" : Str) s_u_law_ring
  d_u_law_drawn_out : DefIn F.K mg ("_law_drawn_out" : Str) s_u_law_drawn_out
  d_u_law_common : DefIn F.K mg ("_law_common" : Str) s_u_law_common
  d_u_law_beats : DefIn F.K mg ("_law_beats" : Str) s_u_law_beats
  d_u_law_round : DefIn F.K mg ("_law_round" : Str) s_u_law_round
  d_u_law_rhythm : DefIn F.K mg ("_law_rhythm" : Str) s_u_law_rhythm
  d_u_law_struck : DefIn F.K mg ("_law_struck" : Str) s_u_law_struck
  d_u_law_odd : DefIn F.K mg ("_law_odd" : Str) s_u_law_odd
  d_u_law_class : DefAt F.K ("_law_class" : Str) s_u_law_class
  t_u_law_told : ToldAt F.K mg ("_law_told" : Str) ("deed" : Str) s_u_law_told f_u_law_told k_u_law_told
  d_law : DefC F.K ("law" : Str) s_law f_law k_law
  mk_law : MakerB F mg base ((("law" : Str) : Str) ++ ".<locals>." ++ "<lambda>") k_law
  n_ValueError : mg ("ValueError" : Str) = none
  n_all : mg ("all" : Str) = none
  n_bool : mg ("bool" : Str) = none
  n_enumerate : mg ("enumerate" : Str) = none
  n_int : mg ("int" : Str) = none
  n_isinstance : mg ("isinstance" : Str) = none
  n_len : mg ("len" : Str) = none
  n_max : mg ("max" : Str) = none
  n_range : mg ("range" : Str) = none
  n_set : mg ("set" : Str) = none
  n_sorted : mg ("sorted" : Str) = none
  n_sum : mg ("sum" : Str) = none
  n_tuple : mg ("tuple" : Str) = none
  n_zip : mg ("zip" : Str) = none
  i_MOST_BEATS : IntAt mg ("MOST_BEATS" : Str) 36
  e_NoEntries : ExcD F.K mg cv ("NoEntries" : Str)
  e_NoRhythm : ExcD F.K mg cv ("NoRhythm" : Str)
  e_NoRing : ExcD F.K mg cv ("NoRing" : Str)
  noX : ∀ v d, ¬ F.Xn v d
  m_NoBack : mg ("NoBack" : Str) = some (cv ("NoBack" : Str))
  m_NoEntries : mg ("NoEntries" : Str) = some (cv ("NoEntries" : Str))
  m_NoFigure : mg ("NoFigure" : Str) = some (cv ("NoFigure" : Str))
  m_NoName : mg ("NoName" : Str) = some (cv ("NoName" : Str))
  m_NoNumber : mg ("NoNumber" : Str) = some (cv ("NoNumber" : Str))
  m_NoParts : mg ("NoParts" : Str) = some (cv ("NoParts" : Str))
  m_NoRhythm : mg ("NoRhythm" : Str) = some (cv ("NoRhythm" : Str))
  m_NoRing : mg ("NoRing" : Str) = some (cv ("NoRing" : Str))
  m_NoState : mg ("NoState" : Str) = some (cv ("NoState" : Str))
  m_NoText : mg ("NoText" : Str) = some (cv ("NoText" : Str))
  m_NoVoice : mg ("NoVoice" : Str) = some (cv ("NoVoice" : Str))
  m_NoVoices : mg ("NoVoices" : Str) = some (cv ("NoVoices" : Str))
  m_NotWhole : mg ("NotWhole" : Str) = some (cv ("NotWhole" : Str))
  m_RoundError : mg ("RoundError" : Str) = some (cv ("RoundError" : Str))
  m_Taken : mg ("Taken" : Str) = some (cv ("Taken" : Str))
  m_TooGreat : mg ("TooGreat" : Str) = some (cv ("TooGreat" : Str))
  rx : ∀ c, rdX c = true → PySem.W.exmOne F.K (cv c) (cv ("RoundError" : Str)) = some true
  rk : ∀ c, rdX c = true → ∃ D, cv c = .ref D ∧ ExcC F.K D
  r_NoBack : ∃ E, cv ("NoBack" : Str) = .ref E
  p_NoBack : ∀ c, rdX c = true → ∀ b, tab_NoBack c = some b → PySem.W.kitOne F.K (cv c) (cv ("NoBack" : Str)) = some b
  r_NoEntries : ∃ E, cv ("NoEntries" : Str) = .ref E
  p_NoEntries : ∀ c, rdX c = true → ∀ b, tab_NoEntries c = some b → PySem.W.kitOne F.K (cv c) (cv ("NoEntries" : Str)) = some b
  r_NoFigure : ∃ E, cv ("NoFigure" : Str) = .ref E
  p_NoFigure : ∀ c, rdX c = true → ∀ b, tab_NoFigure c = some b → PySem.W.kitOne F.K (cv c) (cv ("NoFigure" : Str)) = some b
  r_NoName : ∃ E, cv ("NoName" : Str) = .ref E
  p_NoName : ∀ c, rdX c = true → ∀ b, tab_NoName c = some b → PySem.W.kitOne F.K (cv c) (cv ("NoName" : Str)) = some b
  r_NoNumber : ∃ E, cv ("NoNumber" : Str) = .ref E
  p_NoNumber : ∀ c, rdX c = true → ∀ b, tab_NoNumber c = some b → PySem.W.kitOne F.K (cv c) (cv ("NoNumber" : Str)) = some b
  r_NoParts : ∃ E, cv ("NoParts" : Str) = .ref E
  p_NoParts : ∀ c, rdX c = true → ∀ b, tab_NoParts c = some b → PySem.W.kitOne F.K (cv c) (cv ("NoParts" : Str)) = some b
  r_NoRhythm : ∃ E, cv ("NoRhythm" : Str) = .ref E
  p_NoRhythm : ∀ c, rdX c = true → ∀ b, tab_NoRhythm c = some b → PySem.W.kitOne F.K (cv c) (cv ("NoRhythm" : Str)) = some b
  r_NoRing : ∃ E, cv ("NoRing" : Str) = .ref E
  p_NoRing : ∀ c, rdX c = true → ∀ b, tab_NoRing c = some b → PySem.W.kitOne F.K (cv c) (cv ("NoRing" : Str)) = some b
  r_NoState : ∃ E, cv ("NoState" : Str) = .ref E
  p_NoState : ∀ c, rdX c = true → ∀ b, tab_NoState c = some b → PySem.W.kitOne F.K (cv c) (cv ("NoState" : Str)) = some b
  r_NoText : ∃ E, cv ("NoText" : Str) = .ref E
  p_NoText : ∀ c, rdX c = true → ∀ b, tab_NoText c = some b → PySem.W.kitOne F.K (cv c) (cv ("NoText" : Str)) = some b
  r_NoVoice : ∃ E, cv ("NoVoice" : Str) = .ref E
  p_NoVoice : ∀ c, rdX c = true → ∀ b, tab_NoVoice c = some b → PySem.W.kitOne F.K (cv c) (cv ("NoVoice" : Str)) = some b
  r_NoVoices : ∃ E, cv ("NoVoices" : Str) = .ref E
  p_NoVoices : ∀ c, rdX c = true → ∀ b, tab_NoVoices c = some b → PySem.W.kitOne F.K (cv c) (cv ("NoVoices" : Str)) = some b
  r_NotWhole : ∃ E, cv ("NotWhole" : Str) = .ref E
  p_NotWhole : ∀ c, rdX c = true → ∀ b, tab_NotWhole c = some b → PySem.W.kitOne F.K (cv c) (cv ("NotWhole" : Str)) = some b
  r_Taken : ∃ E, cv ("Taken" : Str) = .ref E
  p_Taken : ∀ c, rdX c = true → ∀ b, tab_Taken c = some b → PySem.W.kitOne F.K (cv c) (cv ("Taken" : Str)) = some b
  r_TooGreat : ∃ E, cv ("TooGreat" : Str) = .ref E
  p_TooGreat : ∀ c, rdX c = true → ∀ b, tab_TooGreat c = some b → PySem.W.kitOne F.K (cv c) (cv ("TooGreat" : Str)) = some b
  pv : ∀ c, rdX c = true → ∀ b, tabV c = some b → PySem.W.kitOne F.K (cv c) (.type "ValueError") = some b
section
variable {P : Program} {w : World} {mg : Str → Option Value} {base : Heap} {F : Fm} {cv : Str → Value} {f_law : Addr} {k_law : Value} {f_u_law_told : Addr} {k_u_law_told : Value}
theorem g_is_number_bool : (defScope s_is_number).names.lookup ("bool" : Str) = some .globalImplicit := by decide +kernel
theorem g_is_number_int : (defScope s_is_number).names.lookup ("int" : Str) = some .globalImplicit := by decide +kernel
theorem g_is_number_isinstance : (defScope s_is_number).names.lookup ("isinstance" : Str) = some .globalImplicit := by decide +kernel
theorem v_is_number_least : locK ((defScope s_is_number).names.lookup ("least" : Str)) = true := by decide +kernel
theorem v_is_number_most : locK ((defScope s_is_number).names.lookup ("most" : Str)) = true := by decide +kernel
theorem v_is_number_thing : locK ((defScope s_is_number).names.lookup ("thing" : Str)) = true := by decide +kernel
abbrev nn_is_number : List Str := [("thing" : Str), ("least" : Str), ("most" : Str)]
def b_is_number : DS :=
  dRetR (dAndV (dIsi "int" (dVarF A0)) (dAndV (dNotV (dIsi "bool" (dVarF A0))) (dChain leR leR (dVarF A1) (dVarF A0) (dVarF A2))))
def d_is_number : List D → Out RV := runD 3 b_is_number
theorem sc_is_number : FnScope nn_is_number [("thing" : Str), ("least" : Str), ("most" : Str)] (defScope s_is_number) := ⟨by decide +kernel, by decide +kernel, by decide +kernel, by decide +kernel, rfl, by decide +kernel, by decide +kernel⟩
theorem bd_is_number (T : Top mg base F cv f_law k_law f_u_law_told k_u_law_told) (f : Addr) (cdv : Value) (A : Around) (outer : List Env) (s : Shared) (H : Hp) (E : XK) (hr : Room 0 (A.deeper (envOfC ("is_number" : Str) (defScope s_is_number) s.heap.objs.size f cdv))) (c : Ctx (cxOf (L2.CX P w) P w F.K mg base nn_is_number ("is_number" : Str) (defScope s_is_number) f cdv A outer s H E) F (fun cls d _ H => E cls d H)) (po : PassesOwn (model P w) (cxOf (L2.CX P w) P w F.K mg base nn_is_number ("is_number" : Str) (defScope s_is_number) f cdv A outer s H E).A (cxOf (L2.CX P w) P w F.K mg base nn_is_number ("is_number" : Str) (defScope s_is_number) f cdv A outer s H E).env (cxOf (L2.CX P w) P w F.K mg base nn_is_number ("is_number" : Str) (defScope s_is_number) f cdv A outer s H E).xe) :
    PSs (cxOf (L2.CX P w) P w F.K mg base nn_is_number ("is_number" : Str) (defScope s_is_number) f cdv A outer s H E) (defBody s_is_number) (TSx F (fun cls d _ H => E cls d H) cv b_is_number) :=
  zs_one (z_ret (x_andV c (x_isi (n := "int") c nm_int (by decide) (g_is_number_isinstance) T.n_isinstance (x_var nm_thing (vis_def v_is_number_thing)) (g_is_number_int) T.n_int boot_int) (x_andV c (x_notV c (x_isi (n := "bool") c nm_bool (by decide) (g_is_number_isinstance) T.n_isinstance (x_var nm_thing (vis_def v_is_number_thing)) (g_is_number_bool) T.n_bool boot_bool)) (x_one (x_chain (c_le c) (c_le c) (x_var nm_least (vis_def v_is_number_least)) (x_var nm_thing (vis_def v_is_number_thing)) (x_var nm_most (vis_def v_is_number_most)))))))
theorem ok_is_number (T : Top mg base F cv f_law k_law f_u_law_told k_u_law_told) : FnD P w mg base F cv 1 ("is_number" : Str) [("thing" : Str), ("least" : Str), ("most" : Str)] d_is_number :=
  fnD (N := nn_is_number) (k := 0) (body := b_is_number) T.d_is_number sc_is_number (fun _ _ _ _ _ _ us hl => match us, hl with | [_, _, _], _ => rfl) (bd_is_number T)
theorem g_is_rising_all : (defScope s_is_rising).names.lookup ("all" : Str) = some .globalImplicit := by decide +kernel
theorem v_is_rising_things : locK ((defScope s_is_rising).names.lookup ("things" : Str)) = true := by decide +kernel
theorem g_is_rising_zip : (defScope s_is_rising).names.lookup ("zip" : Str) = some .globalImplicit := by decide +kernel
abbrev nn_is_rising : List Str := [("things" : Str), ("one" : Str), ("other" : Str)]
def b_is_rising : DS :=
  dRetR (dCBR (onBls fun bs => bs.all id) (dConsR (dLcR (dZip (dConsR (dVarF A0) (dConsR (dSl (dVarF A0) (dPart (some (dLit (.int 1)))) (dPart none)) (dNil)))) (.many [A1, A2]) [A1, A2] (dYes) (dOpR ltR (dVarF A1) (dVarF A2))) (dNil)))
def d_is_rising : List D → Out RV := runD 3 b_is_rising
theorem sc_is_rising : FnScope nn_is_rising [("things" : Str)] (defScope s_is_rising) := ⟨by decide +kernel, by decide +kernel, by decide +kernel, by decide +kernel, rfl, by decide +kernel, by decide +kernel⟩
theorem bd_is_rising (T : Top mg base F cv f_law k_law f_u_law_told k_u_law_told) (f : Addr) (cdv : Value) (A : Around) (outer : List Env) (s : Shared) (H : Hp) (E : XK) (hr : Room 0 (A.deeper (envOfC ("is_rising" : Str) (defScope s_is_rising) s.heap.objs.size f cdv))) (c : Ctx (cxOf (L2.CX P w) P w F.K mg base nn_is_rising ("is_rising" : Str) (defScope s_is_rising) f cdv A outer s H E) F (fun cls d _ H => E cls d H)) (po : PassesOwn (model P w) (cxOf (L2.CX P w) P w F.K mg base nn_is_rising ("is_rising" : Str) (defScope s_is_rising) f cdv A outer s H E).A (cxOf (L2.CX P w) P w F.K mg base nn_is_rising ("is_rising" : Str) (defScope s_is_rising) f cdv A outer s H E).env (cxOf (L2.CX P w) P w F.K mg base nn_is_rising ("is_rising" : Str) (defScope s_is_rising) f cdv A outer s H E).xe) :
    PSs (cxOf (L2.CX P w) P w F.K mg base nn_is_rising ("is_rising" : Str) (defScope s_is_rising) f cdv A outer s H E) (defBody s_is_rising) (TSx F (fun cls d _ H => E cls d H) cv b_is_rising) :=
  zs_one (z_ret (x_blt (b_all c) nm_all (g_is_rising_all) T.n_all (x_cons (x_lc c (own := [(("one" : Str), 1), (("other" : Str), 2)]) (i_zip c (g_is_rising_zip) T.n_zip (x_cons (x_var nm_things (vis_def v_is_rising_things)) (x_cons (x_slice c (x_var nm_things (vis_def v_is_rising_things)) (s_part (x_int)) (s_partN)) (x_nil)))) (N0 := nn_is_rising) (sc0 := defScope s_is_rising) rfl rfl (by decide +kernel) rfl (by decide +kernel) (fun _ _ _ _ _ => g_many (c.blk) (g_cons (c.blk).nd (loc_blk (by decide +kernel)) (fn_blk (by decide +kernel)) (g_cons (c.blk).nd (loc_blk (by decide +kernel)) (fn_blk (by decide +kernel)) (g_nil)))) (fun _ _ _ _ _ => w_nil) (fun _ _ _ _ _ => x_cmp (c_lt (c.blk)) (x_var nm_one (vis_blk (by decide +kernel))) (x_var nm_other (vis_blk (by decide +kernel))))) (x_nil))))
theorem ok_is_rising (T : Top mg base F cv f_law k_law f_u_law_told k_u_law_told) : FnD P w mg base F cv 1 ("is_rising" : Str) [("things" : Str)] d_is_rising :=
  fnD (N := nn_is_rising) (k := 0) (body := b_is_rising) T.d_is_rising sc_is_rising (fun _ _ _ _ _ _ us hl => match us, hl with | [_], _ => rfl) (bd_is_rising T)
theorem g_look_ring_MOST_BEATS : (defScope s_look_ring).names.lookup ("MOST_BEATS" : Str) = some .globalImplicit := by decide +kernel
theorem g_look_ring_NoRing : (defScope s_look_ring).names.lookup ("NoRing" : Str) = some .globalImplicit := by decide +kernel
theorem g_look_ring_is_number : (defScope s_look_ring).names.lookup ("is_number" : Str) = some .globalImplicit := by decide +kernel
theorem v_look_ring_ring : locK ((defScope s_look_ring).names.lookup ("ring" : Str)) = true := by decide +kernel
abbrev nn_look_ring : List Str := [("ring" : Str)]
def b_look_ring : DS :=
  dIfSR (dNotR (dTestR (dCallR d_is_number (dConsR (dVarF A0) (dConsR (dLit (.int 1)) (dConsR (dLit (.int 36)) (dNil))))) trD)) (dRaise ("NoRing" : Str)) (dNext)
def d_look_ring : List D → Out RV := runD 1 b_look_ring
theorem sc_look_ring : FnScope nn_look_ring [("ring" : Str)] (defScope s_look_ring) := ⟨by decide +kernel, by decide +kernel, by decide +kernel, by decide +kernel, rfl, by decide +kernel, by decide +kernel⟩
theorem bd_look_ring (T : Top mg base F cv f_law k_law f_u_law_told k_u_law_told) (f : Addr) (cdv : Value) (A : Around) (outer : List Env) (s : Shared) (H : Hp) (E : XK) (hr : Room 1 (A.deeper (envOfC ("look_ring" : Str) (defScope s_look_ring) s.heap.objs.size f cdv))) (c : Ctx (cxOf (L2.CX P w) P w F.K mg base nn_look_ring ("look_ring" : Str) (defScope s_look_ring) f cdv A outer s H E) F (fun cls d _ H => E cls d H)) (po : PassesOwn (model P w) (cxOf (L2.CX P w) P w F.K mg base nn_look_ring ("look_ring" : Str) (defScope s_look_ring) f cdv A outer s H E).A (cxOf (L2.CX P w) P w F.K mg base nn_look_ring ("look_ring" : Str) (defScope s_look_ring) f cdv A outer s H E).env (cxOf (L2.CX P w) P w F.K mg base nn_look_ring ("look_ring" : Str) (defScope s_look_ring) f cdv A outer s H E).xe) :
    PSs (cxOf (L2.CX P w) P w F.K mg base nn_look_ring ("look_ring" : Str) (defScope s_look_ring) f cdv A outer s H E) (defBody s_look_ring) (TSx F (fun cls d _ H => E cls d H) cv b_look_ring) :=
  zs_one (z_if (y_not (y_val c (x_call c nm_is_number (ok_is_number T) hr (by omega) (g_look_ring_is_number) (dLenR_cons (dLenR_cons (dLenR_cons (dLen_nil)))) (x_cons (x_var nm_ring (vis_def v_look_ring_ring)) (x_cons (x_int) (x_cons (x_gint nm_MOST_BEATS (g_look_ring_MOST_BEATS) T.i_MOST_BEATS) (x_nil)))))))
    (zs_one (z_raise c nm_NoRing T.e_NoRing (g_look_ring_NoRing)))
    (zs_nil))
theorem ok_look_ring (T : Top mg base F cv f_law k_law f_u_law_told k_u_law_told) : FnD P w mg base F cv 2 ("look_ring" : Str) [("ring" : Str)] d_look_ring :=
  fnD (N := nn_look_ring) (k := 1) (body := b_look_ring) T.d_look_ring sc_look_ring (fun _ _ _ _ _ _ us hl => match us, hl with | [_], _ => rfl) (bd_look_ring T)
theorem g_is_rhythm_of_all : (defScope s_is_rhythm_of).names.lookup ("all" : Str) = some .globalImplicit := by decide +kernel
theorem g_is_rhythm_of_is_rising : (defScope s_is_rhythm_of).names.lookup ("is_rising" : Str) = some .globalImplicit := by decide +kernel
theorem g_is_rhythm_of_isinstance : (defScope s_is_rhythm_of).names.lookup ("isinstance" : Str) = some .globalImplicit := by decide +kernel
theorem v_is_rhythm_of_thing : locK ((defScope s_is_rhythm_of).names.lookup ("thing" : Str)) = true := by decide +kernel
theorem g_is_rhythm_of_tuple : (defScope s_is_rhythm_of).names.lookup ("tuple" : Str) = some .globalImplicit := by decide +kernel
abbrev nn_is_rhythm_of : List Str := [("ring" : Str), ("thing" : Str), ("beat" : Str)]
def b_is_rhythm_of : DS :=
  dSeqR (dIfSR (dOrR (dNotR (dTestR (dIsi "tuple" (dVarF A1)) trD)) (dOrR (dTestR (dOpR eqR (dVarF A1) (dDisp (fun ds => ⟨.fz, .tup ds⟩) (dNil))) trB) (dNotR (dTestR (dCBR (onBls fun bs => bs.all id) (dConsR (dLcR (dIt (dVarF A1)) (.one A2) [A2] (dYes) (dCallR d_is_number (dConsR (dVarF A2) (dConsR (dLit (.int 0)) (dConsR (dOpR subR (dVarF A0) (dLit (.int 1))) (dNil)))))) (dNil))) trD)))) (dRetR (dLit (.bl false))) (dNext)) (dRetR (dCallR d_is_rising (dConsR (dVarF A1) (dNil))))
def d_is_rhythm_of : List D → Out RV := runD 3 b_is_rhythm_of
theorem sc_is_rhythm_of : FnScope nn_is_rhythm_of [("ring" : Str), ("thing" : Str)] (defScope s_is_rhythm_of) := ⟨by decide +kernel, by decide +kernel, by decide +kernel, by decide +kernel, rfl, by decide +kernel, by decide +kernel⟩
theorem bd_is_rhythm_of (T : Top mg base F cv f_law k_law f_u_law_told k_u_law_told) (f : Addr) (cdv : Value) (A : Around) (outer : List Env) (s : Shared) (H : Hp) (E : XK) (hr : Room 1 (A.deeper (envOfC ("is_rhythm_of" : Str) (defScope s_is_rhythm_of) s.heap.objs.size f cdv))) (c : Ctx (cxOf (L2.CX P w) P w F.K mg base nn_is_rhythm_of ("is_rhythm_of" : Str) (defScope s_is_rhythm_of) f cdv A outer s H E) F (fun cls d _ H => E cls d H)) (po : PassesOwn (model P w) (cxOf (L2.CX P w) P w F.K mg base nn_is_rhythm_of ("is_rhythm_of" : Str) (defScope s_is_rhythm_of) f cdv A outer s H E).A (cxOf (L2.CX P w) P w F.K mg base nn_is_rhythm_of ("is_rhythm_of" : Str) (defScope s_is_rhythm_of) f cdv A outer s H E).env (cxOf (L2.CX P w) P w F.K mg base nn_is_rhythm_of ("is_rhythm_of" : Str) (defScope s_is_rhythm_of) f cdv A outer s H E).xe) :
    PSs (cxOf (L2.CX P w) P w F.K mg base nn_is_rhythm_of ("is_rhythm_of" : Str) (defScope s_is_rhythm_of) f cdv A outer s H E) (defBody s_is_rhythm_of) (TSx F (fun cls d _ H => E cls d H) cv b_is_rhythm_of) :=
  zs_cons (z_if ((y_or (y_not (y_val c (x_isi (n := "tuple") c nm_tuple (by decide) (g_is_rhythm_of_isinstance) T.n_isinstance (x_var nm_thing (vis_def v_is_rhythm_of_thing)) (g_is_rhythm_of_tuple) T.n_tuple boot_tuple))) (y_or (y_cmp (c_eq c) (x_var nm_thing (vis_def v_is_rhythm_of_thing)) (x_tup (x_nil))) (y_or1 (y_not (y_val c (x_blt (b_all c) nm_all (g_is_rhythm_of_all) T.n_all (x_cons (x_lc c (own := [(("beat" : Str), 2)]) (i_val c (x_var nm_thing (vis_def v_is_rhythm_of_thing))) (N0 := nn_is_rhythm_of) (sc0 := defScope s_is_rhythm_of) rfl rfl (by decide +kernel) rfl (by decide +kernel) (fun _ _ _ _ _ => g_one (c.blk).nd (loc_blk (by decide +kernel)) (fn_blk (by decide +kernel))) (fun _ _ _ _ _ => w_nil) (fun _ _ _ _ _ => x_call (c.blk) nm_is_number (ok_is_number T) hr (by omega) (gl_blk (by decide +kernel)) (dLenR_cons (dLenR_cons (dLenR_cons (dLen_nil)))) (x_cons (x_var nm_beat (vis_blk (by decide +kernel))) (x_cons (x_int) (x_cons (x_sub (x_var nm_ring (vis_blk (by decide +kernel))) (x_int)) (x_nil)))))) (x_nil)))))))).pt)
    (zs_one (z_ret (x_bool)))
    (zs_nil))
    (zs_one (z_ret (x_call c nm_is_rising (ok_is_rising T) hr (by omega) (g_is_rhythm_of_is_rising) (dLenR_cons (dLen_nil)) (x_cons (x_var nm_thing (vis_def v_is_rhythm_of_thing)) (x_nil)))))
theorem ok_is_rhythm_of (T : Top mg base F cv f_law k_law f_u_law_told k_u_law_told) : FnD P w mg base F cv 2 ("is_rhythm_of" : Str) [("ring" : Str), ("thing" : Str)] d_is_rhythm_of :=
  fnD (N := nn_is_rhythm_of) (k := 1) (body := b_is_rhythm_of) T.d_is_rhythm_of sc_is_rhythm_of (fun _ _ _ _ _ _ us hl => match us, hl with | [_, _], _ => rfl) (bd_is_rhythm_of T)
theorem g_look_rhythm_NoRhythm : (defScope s_look_rhythm).names.lookup ("NoRhythm" : Str) = some .globalImplicit := by decide +kernel
theorem g_look_rhythm_is_rhythm_of : (defScope s_look_rhythm).names.lookup ("is_rhythm_of" : Str) = some .globalImplicit := by decide +kernel
theorem g_look_rhythm_look_ring : (defScope s_look_rhythm).names.lookup ("look_ring" : Str) = some .globalImplicit := by decide +kernel
theorem v_look_rhythm_rhythm : locK ((defScope s_look_rhythm).names.lookup ("rhythm" : Str)) = true := by decide +kernel
theorem v_look_rhythm_ring : locK ((defScope s_look_rhythm).names.lookup ("ring" : Str)) = true := by decide +kernel
abbrev nn_look_rhythm : List Str := [("ring" : Str), ("rhythm" : Str)]
def b_look_rhythm : DS :=
  dSeqR (dExprR (dCallR d_look_ring (dConsR (dVarF A0) (dNil)))) (dIfSR (dNotR (dTestR (dCallR d_is_rhythm_of (dConsR (dVarF A0) (dConsR (dVarF A1) (dNil)))) trD)) (dRaise ("NoRhythm" : Str)) (dNext))
def d_look_rhythm : List D → Out RV := runD 2 b_look_rhythm
theorem sc_look_rhythm : FnScope nn_look_rhythm [("ring" : Str), ("rhythm" : Str)] (defScope s_look_rhythm) := ⟨by decide +kernel, by decide +kernel, by decide +kernel, by decide +kernel, rfl, by decide +kernel, by decide +kernel⟩
theorem bd_look_rhythm (T : Top mg base F cv f_law k_law f_u_law_told k_u_law_told) (f : Addr) (cdv : Value) (A : Around) (outer : List Env) (s : Shared) (H : Hp) (E : XK) (hr : Room 2 (A.deeper (envOfC ("look_rhythm" : Str) (defScope s_look_rhythm) s.heap.objs.size f cdv))) (c : Ctx (cxOf (L2.CX P w) P w F.K mg base nn_look_rhythm ("look_rhythm" : Str) (defScope s_look_rhythm) f cdv A outer s H E) F (fun cls d _ H => E cls d H)) (po : PassesOwn (model P w) (cxOf (L2.CX P w) P w F.K mg base nn_look_rhythm ("look_rhythm" : Str) (defScope s_look_rhythm) f cdv A outer s H E).A (cxOf (L2.CX P w) P w F.K mg base nn_look_rhythm ("look_rhythm" : Str) (defScope s_look_rhythm) f cdv A outer s H E).env (cxOf (L2.CX P w) P w F.K mg base nn_look_rhythm ("look_rhythm" : Str) (defScope s_look_rhythm) f cdv A outer s H E).xe) :
    PSs (cxOf (L2.CX P w) P w F.K mg base nn_look_rhythm ("look_rhythm" : Str) (defScope s_look_rhythm) f cdv A outer s H E) (defBody s_look_rhythm) (TSx F (fun cls d _ H => E cls d H) cv b_look_rhythm) :=
  zs_cons (z_expr (x_call c nm_look_ring (ok_look_ring T) hr (by omega) (g_look_rhythm_look_ring) (dLenR_cons (dLen_nil)) (x_cons (x_var nm_ring (vis_def v_look_rhythm_ring)) (x_nil))))
    (zs_one (z_if (y_not (y_val c (x_call c nm_is_rhythm_of (ok_is_rhythm_of T) hr (by omega) (g_look_rhythm_is_rhythm_of) (dLenR_cons (dLenR_cons (dLen_nil))) (x_cons (x_var nm_ring (vis_def v_look_rhythm_ring)) (x_cons (x_var nm_rhythm (vis_def v_look_rhythm_rhythm)) (x_nil))))))
    (zs_one (z_raise c nm_NoRhythm T.e_NoRhythm (g_look_rhythm_NoRhythm)))
    (zs_nil)))
theorem ok_look_rhythm (T : Top mg base F cv f_law k_law f_u_law_told k_u_law_told) : FnD P w mg base F cv 3 ("look_rhythm" : Str) [("ring" : Str), ("rhythm" : Str)] d_look_rhythm :=
  fnD (N := nn_look_rhythm) (k := 2) (body := b_look_rhythm) T.d_look_rhythm sc_look_rhythm (fun _ _ _ _ _ _ us hl => match us, hl with | [_, _], _ => rfl) (bd_look_rhythm T)
theorem g_look_entries_NoEntries : (defScope s_look_entries).names.lookup ("NoEntries" : Str) = some .globalImplicit := by decide +kernel
theorem v_look_entries_entries : locK ((defScope s_look_entries).names.lookup ("entries" : Str)) = true := by decide +kernel
theorem g_look_entries_is_rhythm_of : (defScope s_look_entries).names.lookup ("is_rhythm_of" : Str) = some .globalImplicit := by decide +kernel
theorem g_look_entries_look_rhythm : (defScope s_look_entries).names.lookup ("look_rhythm" : Str) = some .globalImplicit := by decide +kernel
theorem v_look_entries_rhythm : locK ((defScope s_look_entries).names.lookup ("rhythm" : Str)) = true := by decide +kernel
theorem v_look_entries_ring : locK ((defScope s_look_entries).names.lookup ("ring" : Str)) = true := by decide +kernel
abbrev nn_look_entries : List Str := [("ring" : Str), ("rhythm" : Str), ("entries" : Str)]
def b_look_entries : DS :=
  dSeqR (dExprR (dCallR d_look_rhythm (dConsR (dVarF A0) (dConsR (dVarF A1) (dNil))))) (dIfSR (dNotR (dTestR (dCallR d_is_rhythm_of (dConsR (dVarF A0) (dConsR (dVarF A2) (dNil)))) trD)) (dRaise ("NoEntries" : Str)) (dNext))
def d_look_entries : List D → Out RV := runD 3 b_look_entries
theorem sc_look_entries : FnScope nn_look_entries [("ring" : Str), ("rhythm" : Str), ("entries" : Str)] (defScope s_look_entries) := ⟨by decide +kernel, by decide +kernel, by decide +kernel, by decide +kernel, rfl, by decide +kernel, by decide +kernel⟩
theorem bd_look_entries (T : Top mg base F cv f_law k_law f_u_law_told k_u_law_told) (f : Addr) (cdv : Value) (A : Around) (outer : List Env) (s : Shared) (H : Hp) (E : XK) (hr : Room 3 (A.deeper (envOfC ("look_entries" : Str) (defScope s_look_entries) s.heap.objs.size f cdv))) (c : Ctx (cxOf (L2.CX P w) P w F.K mg base nn_look_entries ("look_entries" : Str) (defScope s_look_entries) f cdv A outer s H E) F (fun cls d _ H => E cls d H)) (po : PassesOwn (model P w) (cxOf (L2.CX P w) P w F.K mg base nn_look_entries ("look_entries" : Str) (defScope s_look_entries) f cdv A outer s H E).A (cxOf (L2.CX P w) P w F.K mg base nn_look_entries ("look_entries" : Str) (defScope s_look_entries) f cdv A outer s H E).env (cxOf (L2.CX P w) P w F.K mg base nn_look_entries ("look_entries" : Str) (defScope s_look_entries) f cdv A outer s H E).xe) :
    PSs (cxOf (L2.CX P w) P w F.K mg base nn_look_entries ("look_entries" : Str) (defScope s_look_entries) f cdv A outer s H E) (defBody s_look_entries) (TSx F (fun cls d _ H => E cls d H) cv b_look_entries) :=
  zs_cons (z_expr (x_call c nm_look_rhythm (ok_look_rhythm T) hr (by omega) (g_look_entries_look_rhythm) (dLenR_cons (dLenR_cons (dLen_nil))) (x_cons (x_var nm_ring (vis_def v_look_entries_ring)) (x_cons (x_var nm_rhythm (vis_def v_look_entries_rhythm)) (x_nil)))))
    (zs_one (z_if (y_not (y_val c (x_call c nm_is_rhythm_of (ok_is_rhythm_of T) hr (by omega) (g_look_entries_is_rhythm_of) (dLenR_cons (dLenR_cons (dLen_nil))) (x_cons (x_var nm_ring (vis_def v_look_entries_ring)) (x_cons (x_var nm_entries (vis_def v_look_entries_entries)) (x_nil))))))
    (zs_one (z_raise c nm_NoEntries T.e_NoEntries (g_look_entries_NoEntries)))
    (zs_nil)))
theorem ok_look_entries (T : Top mg base F cv f_law k_law f_u_law_told k_u_law_told) : FnD P w mg base F cv 4 ("look_entries" : Str) [("ring" : Str), ("rhythm" : Str), ("entries" : Str)] d_look_entries :=
  fnD (N := nn_look_entries) (k := 3) (body := b_look_entries) T.d_look_entries sc_look_entries (fun _ _ _ _ _ _ us hl => match us, hl with | [_, _, _], _ => rfl) (bd_look_entries T)
theorem v_plain_struck_beat : locK ((defScope s_plain_struck).names.lookup ("beat" : Str)) = true := by decide +kernel
theorem v_plain_struck_entries : locK ((defScope s_plain_struck).names.lookup ("entries" : Str)) = true := by decide +kernel
theorem v_plain_struck_entry : locK ((defScope s_plain_struck).names.lookup ("entry" : Str)) = true := by decide +kernel
theorem v_plain_struck_made : locK ((defScope s_plain_struck).names.lookup ("made" : Str)) = true := by decide +kernel
theorem v_plain_struck_rhythm : locK ((defScope s_plain_struck).names.lookup ("rhythm" : Str)) = true := by decide +kernel
theorem v_plain_struck_ring : locK ((defScope s_plain_struck).names.lookup ("ring" : Str)) = true := by decide +kernel
abbrev nn_plain_struck : List Str := [("ring" : Str), ("rhythm" : Str), ("entries" : Str), ("made" : Str), ("beat" : Str), ("entry" : Str)]
def b_plain_struck : DS :=
  dSeqR (dSetR true A3 (dOpR mulA (dDisp (fun ds => ⟨.fr, .lst ds⟩) (dConsR (dLit (.int 0)) (dNil))) (dVarF A0))) (dSeqR (dForR (dIt (dVarF A1)) (.one A4) (dForR (dIt (dVarF A2)) (.one A5) (dAugF (fun i j => i + j) A3 (dOpR modR (dOpR addR (dVarF A4) (dVarF A5)) (dVarF A0)) (dLit (.int 1))))) (dRetVF A3))
def d_plain_struck : List D → Out RV := runD 6 b_plain_struck
theorem sc_plain_struck : FnScope nn_plain_struck [("ring" : Str), ("rhythm" : Str), ("entries" : Str)] (defScope s_plain_struck) := ⟨by decide +kernel, by decide +kernel, by decide +kernel, by decide +kernel, rfl, by decide +kernel, by decide +kernel⟩
theorem bd_plain_struck (T : Top mg base F cv f_law k_law f_u_law_told k_u_law_told) (f : Addr) (cdv : Value) (A : Around) (outer : List Env) (s : Shared) (H : Hp) (E : XK) (hr : Room 0 (A.deeper (envOfC ("plain_struck" : Str) (defScope s_plain_struck) s.heap.objs.size f cdv))) (c : Ctx (cxOf (L2.CX P w) P w F.K mg base nn_plain_struck ("plain_struck" : Str) (defScope s_plain_struck) f cdv A outer s H E) F (fun cls d _ H => E cls d H)) (po : PassesOwn (model P w) (cxOf (L2.CX P w) P w F.K mg base nn_plain_struck ("plain_struck" : Str) (defScope s_plain_struck) f cdv A outer s H E).A (cxOf (L2.CX P w) P w F.K mg base nn_plain_struck ("plain_struck" : Str) (defScope s_plain_struck) f cdv A outer s H E).env (cxOf (L2.CX P w) P w F.K mg base nn_plain_struck ("plain_struck" : Str) (defScope s_plain_struck) f cdv A outer s H E).xe) :
    PSs (cxOf (L2.CX P w) P w F.K mg base nn_plain_struck ("plain_struck" : Str) (defScope s_plain_struck) f cdv A outer s H E) (defBody s_plain_struck) (TSx F (fun cls d _ H => E cls d H) cv b_plain_struck) :=
  zs_cons (z_set c (loc_def v_plain_struck_made) (.inl rfl) (x_mul c (x_lst (x_cons (x_int) (x_nil))) (x_var nm_ring (vis_def v_plain_struck_ring))))
    (zs_cons (z_for c po (i_val c (x_var nm_rhythm (vis_def v_plain_struck_rhythm))) (g_one c.nd (loc_def v_plain_struck_beat) (.inl rfl))
    (zs_one (z_for c po (i_val c (x_var nm_entries (vis_def v_plain_struck_entries))) (g_one c.nd (loc_def v_plain_struck_entry) (.inl rfl))
    (zs_one (z_aug c nm_made (vis_def v_plain_struck_made) (x_int) (x_mod (x_add c (x_var nm_beat (vis_def v_plain_struck_beat)) (x_var nm_entry (vis_def v_plain_struck_entry))) (x_var nm_ring (vis_def v_plain_struck_ring))))))))
    (zs_one (z_retV nm_made (vis_def v_plain_struck_made))))
theorem ok_plain_struck (T : Top mg base F cv f_law k_law f_u_law_told k_u_law_told) : FnD P w mg base F cv 1 ("plain_struck" : Str) [("ring" : Str), ("rhythm" : Str), ("entries" : Str)] d_plain_struck :=
  fnD (N := nn_plain_struck) (k := 0) (body := b_plain_struck) T.d_plain_struck sc_plain_struck (fun _ _ _ _ _ _ us hl => match us, hl with | [_, _, _], _ => rfl) (bd_plain_struck T)
theorem v_struck_entries : locK ((defScope s_struck).names.lookup ("entries" : Str)) = true := by decide +kernel
theorem g_struck_look_entries : (defScope s_struck).names.lookup ("look_entries" : Str) = some .globalImplicit := by decide +kernel
theorem g_struck_plain_struck : (defScope s_struck).names.lookup ("plain_struck" : Str) = some .globalImplicit := by decide +kernel
theorem v_struck_rhythm : locK ((defScope s_struck).names.lookup ("rhythm" : Str)) = true := by decide +kernel
theorem v_struck_ring : locK ((defScope s_struck).names.lookup ("ring" : Str)) = true := by decide +kernel
theorem g_struck_tuple : (defScope s_struck).names.lookup ("tuple" : Str) = some .globalImplicit := by decide +kernel
abbrev nn_struck : List Str := [("ring" : Str), ("rhythm" : Str), ("entries" : Str)]
def b_struck : DS :=
  dSeqR (dExprR (dCallR d_look_entries (dConsR (dVarF A0) (dConsR (dVarF A1) (dConsR (dVarF A2) (dNil)))))) (dRetR (dCBR tupleD (dConsR (dCallR d_plain_struck (dConsR (dVarF A0) (dConsR (dVarF A1) (dConsR (dVarF A2) (dNil))))) (dNil))))
def d_struck : List D → Out RV := runD 3 b_struck
theorem sc_struck : FnScope nn_struck [("ring" : Str), ("rhythm" : Str), ("entries" : Str)] (defScope s_struck) := ⟨by decide +kernel, by decide +kernel, by decide +kernel, by decide +kernel, rfl, by decide +kernel, by decide +kernel⟩
theorem bd_struck (T : Top mg base F cv f_law k_law f_u_law_told k_u_law_told) (f : Addr) (cdv : Value) (A : Around) (outer : List Env) (s : Shared) (H : Hp) (E : XK) (hr : Room 4 (A.deeper (envOfC ("struck" : Str) (defScope s_struck) s.heap.objs.size f cdv))) (c : Ctx (cxOf (L2.CX P w) P w F.K mg base nn_struck ("struck" : Str) (defScope s_struck) f cdv A outer s H E) F (fun cls d _ H => E cls d H)) (po : PassesOwn (model P w) (cxOf (L2.CX P w) P w F.K mg base nn_struck ("struck" : Str) (defScope s_struck) f cdv A outer s H E).A (cxOf (L2.CX P w) P w F.K mg base nn_struck ("struck" : Str) (defScope s_struck) f cdv A outer s H E).env (cxOf (L2.CX P w) P w F.K mg base nn_struck ("struck" : Str) (defScope s_struck) f cdv A outer s H E).xe) :
    PSs (cxOf (L2.CX P w) P w F.K mg base nn_struck ("struck" : Str) (defScope s_struck) f cdv A outer s H E) (defBody s_struck) (TSx F (fun cls d _ H => E cls d H) cv b_struck) :=
  zs_cons (z_expr (x_call c nm_look_entries (ok_look_entries T) hr (by omega) (g_struck_look_entries) (dLenR_cons (dLenR_cons (dLenR_cons (dLen_nil)))) (x_cons (x_var nm_ring (vis_def v_struck_ring)) (x_cons (x_var nm_rhythm (vis_def v_struck_rhythm)) (x_cons (x_var nm_entries (vis_def v_struck_entries)) (x_nil))))))
    (zs_one (z_ret (x_typ (b_tuple c) nm_tuple (g_struck_tuple) T.n_tuple (x_cons (x_call c nm_plain_struck (ok_plain_struck T) hr (by omega) (g_struck_plain_struck) (dLenR_cons (dLenR_cons (dLenR_cons (dLen_nil)))) (x_cons (x_var nm_ring (vis_def v_struck_ring)) (x_cons (x_var nm_rhythm (vis_def v_struck_rhythm)) (x_cons (x_var nm_entries (vis_def v_struck_entries)) (x_nil))))) (x_nil)))))
theorem ok_struck (T : Top mg base F cv f_law k_law f_u_law_told k_u_law_told) : FnD P w mg base F cv 5 ("struck" : Str) [("ring" : Str), ("rhythm" : Str), ("entries" : Str)] d_struck :=
  fnD (N := nn_struck) (k := 4) (body := b_struck) T.d_struck sc_struck (fun _ _ _ _ _ _ us hl => match us, hl with | [_, _, _], _ => rfl) (bd_struck T)
theorem v_is_plain_whole_entries : locK ((defScope s_is_plain_whole).names.lookup ("entries" : Str)) = true := by decide +kernel
theorem g_is_plain_whole_plain_struck : (defScope s_is_plain_whole).names.lookup ("plain_struck" : Str) = some .globalImplicit := by decide +kernel
theorem v_is_plain_whole_rhythm : locK ((defScope s_is_plain_whole).names.lookup ("rhythm" : Str)) = true := by decide +kernel
theorem v_is_plain_whole_ring : locK ((defScope s_is_plain_whole).names.lookup ("ring" : Str)) = true := by decide +kernel
abbrev nn_is_plain_whole : List Str := [("ring" : Str), ("rhythm" : Str), ("entries" : Str)]
def b_is_plain_whole : DS :=
  dRetR (dOpR eqR (dCallR d_plain_struck (dConsR (dVarF A0) (dConsR (dVarF A1) (dConsR (dVarF A2) (dNil))))) (dOpR mulA (dDisp (fun ds => ⟨.fr, .lst ds⟩) (dConsR (dLit (.int 1)) (dNil))) (dVarF A0)))
def d_is_plain_whole : List D → Out RV := runD 3 b_is_plain_whole
theorem sc_is_plain_whole : FnScope nn_is_plain_whole [("ring" : Str), ("rhythm" : Str), ("entries" : Str)] (defScope s_is_plain_whole) := ⟨by decide +kernel, by decide +kernel, by decide +kernel, by decide +kernel, rfl, by decide +kernel, by decide +kernel⟩
theorem bd_is_plain_whole (T : Top mg base F cv f_law k_law f_u_law_told k_u_law_told) (f : Addr) (cdv : Value) (A : Around) (outer : List Env) (s : Shared) (H : Hp) (E : XK) (hr : Room 1 (A.deeper (envOfC ("is_plain_whole" : Str) (defScope s_is_plain_whole) s.heap.objs.size f cdv))) (c : Ctx (cxOf (L2.CX P w) P w F.K mg base nn_is_plain_whole ("is_plain_whole" : Str) (defScope s_is_plain_whole) f cdv A outer s H E) F (fun cls d _ H => E cls d H)) (po : PassesOwn (model P w) (cxOf (L2.CX P w) P w F.K mg base nn_is_plain_whole ("is_plain_whole" : Str) (defScope s_is_plain_whole) f cdv A outer s H E).A (cxOf (L2.CX P w) P w F.K mg base nn_is_plain_whole ("is_plain_whole" : Str) (defScope s_is_plain_whole) f cdv A outer s H E).env (cxOf (L2.CX P w) P w F.K mg base nn_is_plain_whole ("is_plain_whole" : Str) (defScope s_is_plain_whole) f cdv A outer s H E).xe) :
    PSs (cxOf (L2.CX P w) P w F.K mg base nn_is_plain_whole ("is_plain_whole" : Str) (defScope s_is_plain_whole) f cdv A outer s H E) (defBody s_is_plain_whole) (TSx F (fun cls d _ H => E cls d H) cv b_is_plain_whole) :=
  zs_one (z_ret (x_cmp (c_eq c) (x_call c nm_plain_struck (ok_plain_struck T) hr (by omega) (g_is_plain_whole_plain_struck) (dLenR_cons (dLenR_cons (dLenR_cons (dLen_nil)))) (x_cons (x_var nm_ring (vis_def v_is_plain_whole_ring)) (x_cons (x_var nm_rhythm (vis_def v_is_plain_whole_rhythm)) (x_cons (x_var nm_entries (vis_def v_is_plain_whole_entries)) (x_nil))))) (x_mul c (x_lst (x_cons (x_int) (x_nil))) (x_var nm_ring (vis_def v_is_plain_whole_ring)))))
theorem ok_is_plain_whole (T : Top mg base F cv f_law k_law f_u_law_told k_u_law_told) : FnD P w mg base F cv 2 ("is_plain_whole" : Str) [("ring" : Str), ("rhythm" : Str), ("entries" : Str)] d_is_plain_whole :=
  fnD (N := nn_is_plain_whole) (k := 1) (body := b_is_plain_whole) T.d_is_plain_whole sc_is_plain_whole (fun _ _ _ _ _ _ us hl => match us, hl with | [_, _, _], _ => rfl) (bd_is_plain_whole T)
theorem v_is_whole_entries : locK ((defScope s_is_whole).names.lookup ("entries" : Str)) = true := by decide +kernel
theorem g_is_whole_is_plain_whole : (defScope s_is_whole).names.lookup ("is_plain_whole" : Str) = some .globalImplicit := by decide +kernel
theorem g_is_whole_look_entries : (defScope s_is_whole).names.lookup ("look_entries" : Str) = some .globalImplicit := by decide +kernel
theorem v_is_whole_rhythm : locK ((defScope s_is_whole).names.lookup ("rhythm" : Str)) = true := by decide +kernel
theorem v_is_whole_ring : locK ((defScope s_is_whole).names.lookup ("ring" : Str)) = true := by decide +kernel
abbrev nn_is_whole : List Str := [("ring" : Str), ("rhythm" : Str), ("entries" : Str)]
def b_is_whole : DS :=
  dSeqR (dExprR (dCallR d_look_entries (dConsR (dVarF A0) (dConsR (dVarF A1) (dConsR (dVarF A2) (dNil)))))) (dRetR (dCallR d_is_plain_whole (dConsR (dVarF A0) (dConsR (dVarF A1) (dConsR (dVarF A2) (dNil))))))
def d_is_whole : List D → Out RV := runD 3 b_is_whole
theorem sc_is_whole : FnScope nn_is_whole [("ring" : Str), ("rhythm" : Str), ("entries" : Str)] (defScope s_is_whole) := ⟨by decide +kernel, by decide +kernel, by decide +kernel, by decide +kernel, rfl, by decide +kernel, by decide +kernel⟩
theorem bd_is_whole (T : Top mg base F cv f_law k_law f_u_law_told k_u_law_told) (f : Addr) (cdv : Value) (A : Around) (outer : List Env) (s : Shared) (H : Hp) (E : XK) (hr : Room 4 (A.deeper (envOfC ("is_whole" : Str) (defScope s_is_whole) s.heap.objs.size f cdv))) (c : Ctx (cxOf (L2.CX P w) P w F.K mg base nn_is_whole ("is_whole" : Str) (defScope s_is_whole) f cdv A outer s H E) F (fun cls d _ H => E cls d H)) (po : PassesOwn (model P w) (cxOf (L2.CX P w) P w F.K mg base nn_is_whole ("is_whole" : Str) (defScope s_is_whole) f cdv A outer s H E).A (cxOf (L2.CX P w) P w F.K mg base nn_is_whole ("is_whole" : Str) (defScope s_is_whole) f cdv A outer s H E).env (cxOf (L2.CX P w) P w F.K mg base nn_is_whole ("is_whole" : Str) (defScope s_is_whole) f cdv A outer s H E).xe) :
    PSs (cxOf (L2.CX P w) P w F.K mg base nn_is_whole ("is_whole" : Str) (defScope s_is_whole) f cdv A outer s H E) (defBody s_is_whole) (TSx F (fun cls d _ H => E cls d H) cv b_is_whole) :=
  zs_cons (z_expr (x_call c nm_look_entries (ok_look_entries T) hr (by omega) (g_is_whole_look_entries) (dLenR_cons (dLenR_cons (dLenR_cons (dLen_nil)))) (x_cons (x_var nm_ring (vis_def v_is_whole_ring)) (x_cons (x_var nm_rhythm (vis_def v_is_whole_rhythm)) (x_cons (x_var nm_entries (vis_def v_is_whole_entries)) (x_nil))))))
    (zs_one (z_ret (x_call c nm_is_plain_whole (ok_is_plain_whole T) hr (by omega) (g_is_whole_is_plain_whole) (dLenR_cons (dLenR_cons (dLenR_cons (dLen_nil)))) (x_cons (x_var nm_ring (vis_def v_is_whole_ring)) (x_cons (x_var nm_rhythm (vis_def v_is_whole_rhythm)) (x_cons (x_var nm_entries (vis_def v_is_whole_entries)) (x_nil)))))))
theorem ok_is_whole (T : Top mg base F cv f_law k_law f_u_law_told k_u_law_told) : FnD P w mg base F cv 5 ("is_whole" : Str) [("ring" : Str), ("rhythm" : Str), ("entries" : Str)] d_is_whole :=
  fnD (N := nn_is_whole) (k := 4) (body := b_is_whole) T.d_is_whole sc_is_whole (fun _ _ _ _ _ _ us hl => match us, hl with | [_, _, _], _ => rfl) (bd_is_whole T)
theorem l_clash_pairs : (defScope s_clash).names.lookup ("pairs" : Str) = some .local := by decide +kernel
theorem v_clash_at : locK ((defScope s_clash).names.lookup ("at" : Str)) = true := by decide +kernel
theorem v_clash_entries : locK ((defScope s_clash).names.lookup ("entries" : Str)) = true := by decide +kernel
theorem g_clash_enumerate : (defScope s_clash).names.lookup ("enumerate" : Str) = some .globalImplicit := by decide +kernel
theorem g_clash_look_entries : (defScope s_clash).names.lookup ("look_entries" : Str) = some .globalImplicit := by decide +kernel
theorem v_clash_one : locK ((defScope s_clash).names.lookup ("one" : Str)) = true := by decide +kernel
theorem v_clash_other : locK ((defScope s_clash).names.lookup ("other" : Str)) = true := by decide +kernel
theorem v_clash_pairs : locK ((defScope s_clash).names.lookup ("pairs" : Str)) = true := by decide +kernel
theorem v_clash_rhythm : locK ((defScope s_clash).names.lookup ("rhythm" : Str)) = true := by decide +kernel
theorem v_clash_ring : locK ((defScope s_clash).names.lookup ("ring" : Str)) = true := by decide +kernel
theorem g_clash_sum : (defScope s_clash).names.lookup ("sum" : Str) = some .globalImplicit := by decide +kernel
abbrev nn_clash : List Str := [("ring" : Str), ("rhythm" : Str), ("entries" : Str), ("pairs" : Str), ("at" : Str), ("one" : Str), ("other" : Str), ("beat" : Str), ("entry" : Str)]
def b_clash : DS :=
  dSeqR (dExprR (dCallR d_look_entries (dConsR (dVarF A0) (dConsR (dVarF A1) (dConsR (dVarF A2) (dNil)))))) (dSeqR (dSetR false A3 (dLc2F (dIt (dVarF A1)) (.one A7) [A7, A8] (dYes) (dIt (dVarF A2)) (.one A8) [A8] (dYes) (dDisp (fun ds => ⟨.fz, .tup ds⟩) (dConsR (dVarF A7) (dConsR (dVarF A8) (dNil)))))) (dSeqR (dForR (dEnum (dConsR (dVarF A3) (dNil))) (.many [A4, A5]) (dForR (dIt (dSl (dVarF A3) (dPart (some (dOpR addR (dVarF A4) (dLit (.int 1))))) (dPart none))) (.one A6) (dIfSR (dTestR (dOpR eqR (dOpR modR (dOpR subR (dCBR sumV (dConsR (dVarF A5) (dNil))) (dCBR sumV (dConsR (dVarF A6) (dNil)))) (dVarF A0)) (dLit (.int 0))) trB) (dRetR (dDisp (fun ds => ⟨.fz, .tup ds⟩) (dConsR (dVarF A5) (dConsR (dVarF A6) (dNil))))) (dNext)))) (dRetR (dLit .non))))
def d_clash : List D → Out RV := runD 9 b_clash
theorem sc_clash : FnScope nn_clash [("ring" : Str), ("rhythm" : Str), ("entries" : Str)] (defScope s_clash) := ⟨by decide +kernel, by decide +kernel, by decide +kernel, by decide +kernel, rfl, by decide +kernel, by decide +kernel⟩
theorem bd_clash (T : Top mg base F cv f_law k_law f_u_law_told k_u_law_told) (f : Addr) (cdv : Value) (A : Around) (outer : List Env) (s : Shared) (H : Hp) (E : XK) (hr : Room 4 (A.deeper (envOfC ("clash" : Str) (defScope s_clash) s.heap.objs.size f cdv))) (c : Ctx (cxOf (L2.CX P w) P w F.K mg base nn_clash ("clash" : Str) (defScope s_clash) f cdv A outer s H E) F (fun cls d _ H => E cls d H)) (po : PassesOwn (model P w) (cxOf (L2.CX P w) P w F.K mg base nn_clash ("clash" : Str) (defScope s_clash) f cdv A outer s H E).A (cxOf (L2.CX P w) P w F.K mg base nn_clash ("clash" : Str) (defScope s_clash) f cdv A outer s H E).env (cxOf (L2.CX P w) P w F.K mg base nn_clash ("clash" : Str) (defScope s_clash) f cdv A outer s H E).xe) :
    PSs (cxOf (L2.CX P w) P w F.K mg base nn_clash ("clash" : Str) (defScope s_clash) f cdv A outer s H E) (defBody s_clash) (TSx F (fun cls d _ H => E cls d H) cv b_clash) :=
  zs_cons (z_expr (x_call c nm_look_entries (ok_look_entries T) hr (by omega) (g_clash_look_entries) (dLenR_cons (dLenR_cons (dLenR_cons (dLen_nil)))) (x_cons (x_var nm_ring (vis_def v_clash_ring)) (x_cons (x_var nm_rhythm (vis_def v_clash_rhythm)) (x_cons (x_var nm_entries (vis_def v_clash_entries)) (x_nil))))))
    (zs_cons (z_setLc2 c l_clash_pairs (by rfl) (own := [(("beat" : Str), 7), (("entry" : Str), 8)]) (vs1 := [A8]) (i_val c (x_var nm_rhythm (vis_def v_clash_rhythm))) (N0 := nn_clash) (sc0 := defScope s_clash) rfl rfl (by decide +kernel) (by decide +kernel) rfl (by decide +kernel) (by decide +kernel) (fun _ _ _ _ _ => g_one (c.blk).nd (loc_blk (by decide +kernel)) (fn_blk (by decide +kernel))) (fun _ _ _ _ _ => w_nil) (fun _ _ _ _ _ => i_val (c.blk) (x_var nm_entries (vis_blk (by decide +kernel)))) (fun _ _ _ _ _ => g_one (c.blk).nd (loc_blk (by decide +kernel)) (fn_blk (by decide +kernel))) (fun _ _ _ _ _ => w_nil) (fun _ _ _ _ _ => x_tup (x_cons (x_var nm_beat (vis_blk (by decide +kernel))) (x_cons (x_var nm_entry (vis_blk (by decide +kernel))) (x_nil)))))
    (zs_cons (z_for c po (i_enum c (g_clash_enumerate) T.n_enumerate (x_cons (x_var nm_pairs (vis_def v_clash_pairs)) (x_nil))) (g_many c (g_cons c.nd (loc_def v_clash_at) (.inl rfl) (g_cons c.nd (loc_def v_clash_one) (.inl rfl) (g_nil))))
    (zs_one (z_for c po (i_val c (x_slice c (x_var nm_pairs (vis_def v_clash_pairs)) (s_part (x_add c (x_var nm_at (vis_def v_clash_at)) (x_int))) (s_partN))) (g_one c.nd (loc_def v_clash_other) (.inl rfl))
    (zs_one (z_if (y_cmp (c_eq c) (x_mod (x_sub (x_blt (b_sumV c) nm_sum (g_clash_sum) T.n_sum (x_cons (x_var nm_one (vis_def v_clash_one)) (x_nil))) (x_blt (b_sumV c) nm_sum (g_clash_sum) T.n_sum (x_cons (x_var nm_other (vis_def v_clash_other)) (x_nil)))) (x_var nm_ring (vis_def v_clash_ring))) (x_int))
    (zs_one (z_ret (x_tup (x_cons (x_var nm_one (vis_def v_clash_one)) (x_cons (x_var nm_other (vis_def v_clash_other)) (x_nil))))))
    (zs_nil))))))
    (zs_one (z_ret (x_none)))))
theorem ok_clash (T : Top mg base F cv f_law k_law f_u_law_told k_u_law_told) : FnD P w mg base F cv 5 ("clash" : Str) [("ring" : Str), ("rhythm" : Str), ("entries" : Str)] d_clash :=
  fnD (N := nn_clash) (k := 4) (body := b_clash) T.d_clash sc_clash (fun _ _ _ _ _ _ us hl => match us, hl with | [_, _, _], _ => rfl) (bd_clash T)
theorem v_gap_entries : locK ((defScope s_gap).names.lookup ("entries" : Str)) = true := by decide +kernel
theorem g_gap_look_entries : (defScope s_gap).names.lookup ("look_entries" : Str) = some .globalImplicit := by decide +kernel
theorem v_gap_made : locK ((defScope s_gap).names.lookup ("made" : Str)) = true := by decide +kernel
theorem g_gap_plain_struck : (defScope s_gap).names.lookup ("plain_struck" : Str) = some .globalImplicit := by decide +kernel
theorem v_gap_rhythm : locK ((defScope s_gap).names.lookup ("rhythm" : Str)) = true := by decide +kernel
theorem v_gap_ring : locK ((defScope s_gap).names.lookup ("ring" : Str)) = true := by decide +kernel
abbrev nn_gap : List Str := [("ring" : Str), ("rhythm" : Str), ("entries" : Str), ("made" : Str)]
def b_gap : DS :=
  dSeqR (dExprR (dCallR d_look_entries (dConsR (dVarF A0) (dConsR (dVarF A1) (dConsR (dVarF A2) (dNil)))))) (dSeqR (dSetR false A3 (dCallR d_plain_struck (dConsR (dVarF A0) (dConsR (dVarF A1) (dConsR (dVarF A2) (dNil)))))) (dRetR (dIfR (dTestR (dOpR (inD false) (dLit (.int 0)) (dVarF A3)) trB) (dIdx (dVarF A3) (dConsR (dLit (.int 0)) (dNil))) (dLit .non))))
def d_gap : List D → Out RV := runD 4 b_gap
theorem sc_gap : FnScope nn_gap [("ring" : Str), ("rhythm" : Str), ("entries" : Str)] (defScope s_gap) := ⟨by decide +kernel, by decide +kernel, by decide +kernel, by decide +kernel, rfl, by decide +kernel, by decide +kernel⟩
theorem bd_gap (T : Top mg base F cv f_law k_law f_u_law_told k_u_law_told) (f : Addr) (cdv : Value) (A : Around) (outer : List Env) (s : Shared) (H : Hp) (E : XK) (hr : Room 4 (A.deeper (envOfC ("gap" : Str) (defScope s_gap) s.heap.objs.size f cdv))) (c : Ctx (cxOf (L2.CX P w) P w F.K mg base nn_gap ("gap" : Str) (defScope s_gap) f cdv A outer s H E) F (fun cls d _ H => E cls d H)) (po : PassesOwn (model P w) (cxOf (L2.CX P w) P w F.K mg base nn_gap ("gap" : Str) (defScope s_gap) f cdv A outer s H E).A (cxOf (L2.CX P w) P w F.K mg base nn_gap ("gap" : Str) (defScope s_gap) f cdv A outer s H E).env (cxOf (L2.CX P w) P w F.K mg base nn_gap ("gap" : Str) (defScope s_gap) f cdv A outer s H E).xe) :
    PSs (cxOf (L2.CX P w) P w F.K mg base nn_gap ("gap" : Str) (defScope s_gap) f cdv A outer s H E) (defBody s_gap) (TSx F (fun cls d _ H => E cls d H) cv b_gap) :=
  zs_cons (z_expr (x_call c nm_look_entries (ok_look_entries T) hr (by omega) (g_gap_look_entries) (dLenR_cons (dLenR_cons (dLenR_cons (dLen_nil)))) (x_cons (x_var nm_ring (vis_def v_gap_ring)) (x_cons (x_var nm_rhythm (vis_def v_gap_rhythm)) (x_cons (x_var nm_entries (vis_def v_gap_entries)) (x_nil))))))
    (zs_cons (z_set c (loc_def v_gap_made) (.inl rfl) (x_call c nm_plain_struck (ok_plain_struck T) hr (by omega) (g_gap_plain_struck) (dLenR_cons (dLenR_cons (dLenR_cons (dLen_nil)))) (x_cons (x_var nm_ring (vis_def v_gap_ring)) (x_cons (x_var nm_rhythm (vis_def v_gap_rhythm)) (x_cons (x_var nm_entries (vis_def v_gap_entries)) (x_nil))))))
    (zs_one (z_ret (x_if (y_cmp (c_in c) (x_int) (x_var nm_made (vis_def v_gap_made))) (x_index c.K (x_var nm_made (vis_def v_gap_made)) (x_cons (x_int) (x_nil))) (x_none)))))
theorem ok_gap (T : Top mg base F cv f_law k_law f_u_law_told k_u_law_told) : FnD P w mg base F cv 5 ("gap" : Str) [("ring" : Str), ("rhythm" : Str), ("entries" : Str)] d_gap :=
  fnD (N := nn_gap) (k := 4) (body := b_gap) T.d_gap sc_gap (fun _ _ _ _ _ _ us hl => match us, hl with | [_, _, _], _ => rfl) (bd_gap T)
theorem l_u_law_pick_again : (defScope s_u_law_pick).names.lookup ("again" : Str) = some .local := by decide +kernel
theorem l_u_law_pick_rest : (defScope s_u_law_pick).names.lookup ("rest" : Str) = some .local := by decide +kernel
theorem v_u_law_pick_again : locK ((defScope s_u_law_pick).names.lookup ("again" : Str)) = true := by decide +kernel
theorem v_u_law_pick_cell : locK ((defScope s_u_law_pick).names.lookup ("cell" : Str)) = true := by decide +kernel
theorem v_u_law_pick_drawn : locK ((defScope s_u_law_pick).names.lookup ("drawn" : Str)) = true := by decide +kernel
theorem v_u_law_pick_k : locK ((defScope s_u_law_pick).names.lookup ("k" : Str)) = true := by decide +kernel
theorem g_u_law_pick_len : (defScope s_u_law_pick).names.lookup ("len" : Str) = some .globalImplicit := by decide +kernel
theorem v_u_law_pick_many : locK ((defScope s_u_law_pick).names.lookup ("many" : Str)) = true := by decide +kernel
theorem g_u_law_pick_max : (defScope s_u_law_pick).names.lookup ("max" : Str) = some .globalImplicit := by decide +kernel
theorem v_u_law_pick_rest : locK ((defScope s_u_law_pick).names.lookup ("rest" : Str)) = true := by decide +kernel
theorem v_u_law_pick_script : locK ((defScope s_u_law_pick).names.lookup ("script" : Str)) = true := by decide +kernel
abbrev nn_u_law_pick : List Str := [("script" : Str), ("k" : Str), ("many" : Str), ("cell" : Str), ("rest" : Str), ("again" : Str), ("drawn" : Str)]
def b_u_law_pick : DS :=
  dSeqR (dSetR false A3 (dIfR (dTestR (dOpR neR (dVarF A0) (dDisp (fun ds => ⟨.fr, .lst ds⟩) (dNil))) trB) (dOpR ixD (dVarF A0) (dOpR modR (dVarF A1) (dCBR lenD (dConsR (dVarF A0) (dNil))))) (dLit (.int 0)))) (dSeqR (dParF [(false, A4), (false, A5)] (dConsR (dOpR fdivD (dVarF A3) (dOpR powD (dLit (.int 10)) (dLit (.int 18)))) (dConsR (dOpR fdivD (dVarF A1) (dCBR maxD (dConsR (dCBR lenD (dConsR (dVarF A0) (dNil))) (dConsR (dLit (.int 1)) (dNil))))) (dNil)))) (dSeqR (dWhileR 100000 (dAndR (dTestR (dOpR gtR (dVarF A4) (dLit (.int 0))) trB) (dTestR (dOpR gtR (dVarF A5) (dLit (.int 0))) trB)) (dParF [(false, A4), (false, A5)] (dConsR (dOpR fdivD (dVarF A4) (dLit (.int 840))) (dConsR (dOpR subR (dVarF A5) (dLit (.int 1))) (dNil))))) (dSeqR (dIfSR (dTestR (dOpR gtR (dVarF A4) (dLit (.int 0))) trB) (dRetR (dOpR modR (dOpR modR (dVarF A4) (dLit (.int 840))) (dVarF A2))) (dNext)) (dSeqR (dSetR false A6 (dOpR modR (dOpR mulA (dOpR addR (dOpR mulA (dVarF A3) (dLit (.int 31))) (dOpR mulA (dLit (.int 6151)) (dOpR addR (dVarF A1) (dLit (.int 1))))) (dLit (.int 40692))) (dLit (.int 2147483399)))) (dRetR (dOpR modR (dOpR modR (dOpR addR (dOpR mulA (dVarF A6) (dVarF A6)) (dOpR fdivD (dVarF A6) (dLit (.int 31)))) (dLit (.int 2147483629))) (dVarF A2)))))))
def d_u_law_pick : List D → Out RV := runD 7 b_u_law_pick
theorem sc_u_law_pick : FnScope nn_u_law_pick [("script" : Str), ("k" : Str), ("many" : Str)] (defScope s_u_law_pick) := ⟨by decide +kernel, by decide +kernel, by decide +kernel, by decide +kernel, rfl, by decide +kernel, by decide +kernel⟩
theorem bd_u_law_pick (T : Top mg base F cv f_law k_law f_u_law_told k_u_law_told) (f : Addr) (cdv : Value) (A : Around) (outer : List Env) (s : Shared) (H : Hp) (E : XK) (hr : Room 0 (A.deeper (envOfC ("_law_pick" : Str) (defScope s_u_law_pick) s.heap.objs.size f cdv))) (c : Ctx (cxOf (L2.CX P w) P w F.K mg base nn_u_law_pick ("_law_pick" : Str) (defScope s_u_law_pick) f cdv A outer s H E) F (fun cls d _ H => E cls d H)) (po : PassesOwn (model P w) (cxOf (L2.CX P w) P w F.K mg base nn_u_law_pick ("_law_pick" : Str) (defScope s_u_law_pick) f cdv A outer s H E).A (cxOf (L2.CX P w) P w F.K mg base nn_u_law_pick ("_law_pick" : Str) (defScope s_u_law_pick) f cdv A outer s H E).env (cxOf (L2.CX P w) P w F.K mg base nn_u_law_pick ("_law_pick" : Str) (defScope s_u_law_pick) f cdv A outer s H E).xe) :
    PSs (cxOf (L2.CX P w) P w F.K mg base nn_u_law_pick ("_law_pick" : Str) (defScope s_u_law_pick) f cdv A outer s H E) (defBody s_u_law_pick) (TSx F (fun cls d _ H => E cls d H) cv b_u_law_pick) :=
  zs_cons (z_set c (loc_def v_u_law_pick_cell) (.inl rfl) (x_if (y_cmp (c_ne c) (x_var nm_script (vis_def v_u_law_pick_script)) (x_lst (x_nil))) (x_ix c (x_var nm_script (vis_def v_u_law_pick_script)) (x_mod (x_var nm_k (vis_def v_u_law_pick_k)) (x_blt (b_len c) nm_len (g_u_law_pick_len) T.n_len (x_cons (x_var nm_script (vis_def v_u_law_pick_script)) (x_nil))))) (x_int)))
    (zs_cons (z_par c (by decide) l_u_law_pick_rest l_u_law_pick_again (x_zcons (x_fdiv (x_var nm_cell (vis_def v_u_law_pick_cell)) (x_pow (x_int) (x_int))) (x_zcons (x_fdiv (x_var nm_k (vis_def v_u_law_pick_k)) (x_blt (b_max c) nm_max (g_u_law_pick_max) T.n_max (x_cons (x_blt (b_len c) nm_len (g_u_law_pick_len) T.n_len (x_cons (x_var nm_script (vis_def v_u_law_pick_script)) (x_nil))) (x_cons (x_int) (x_nil))))) (z_nil))) (by rfl))
    (zs_cons (z_while po ((y_and (y_cmp (c_gt c) (x_var nm_rest (vis_def v_u_law_pick_rest)) (x_int)) (y_and1 (y_cmp (c_gt c) (x_var nm_again (vis_def v_u_law_pick_again)) (x_int)))).pt) (zs_one (z_par c (by decide) l_u_law_pick_rest l_u_law_pick_again (x_zcons (x_fdiv (x_var nm_rest (vis_def v_u_law_pick_rest)) (x_int)) (x_zcons (x_sub (x_var nm_again (vis_def v_u_law_pick_again)) (x_int)) (z_nil))) (by rfl))))
    (zs_cons (z_if (y_cmp (c_gt c) (x_var nm_rest (vis_def v_u_law_pick_rest)) (x_int))
    (zs_one (z_ret (x_mod (x_mod (x_var nm_rest (vis_def v_u_law_pick_rest)) (x_int)) (x_var nm_many (vis_def v_u_law_pick_many)))))
    (zs_nil))
    (zs_cons (z_set c (loc_def v_u_law_pick_drawn) (.inl rfl) (x_mod (x_mul c (x_add c (x_mul c (x_var nm_cell (vis_def v_u_law_pick_cell)) (x_int)) (x_mul c (x_int) (x_add c (x_var nm_k (vis_def v_u_law_pick_k)) (x_int)))) (x_int)) (x_int)))
    (zs_one (z_ret (x_mod (x_mod (x_add c (x_mul c (x_var nm_drawn (vis_def v_u_law_pick_drawn)) (x_var nm_drawn (vis_def v_u_law_pick_drawn))) (x_fdiv (x_var nm_drawn (vis_def v_u_law_pick_drawn)) (x_int))) (x_int)) (x_var nm_many (vis_def v_u_law_pick_many)))))))))
theorem ok_u_law_pick (T : Top mg base F cv f_law k_law f_u_law_told k_u_law_told) : FnD P w mg base F cv 1 ("_law_pick" : Str) [("script" : Str), ("k" : Str), ("many" : Str)] d_u_law_pick :=
  fnD (N := nn_u_law_pick) (k := 0) (body := b_u_law_pick) T.d_u_law_pick sc_u_law_pick (fun _ _ _ _ _ _ us hl => match us, hl with | [_, _, _], _ => rfl) (bd_u_law_pick T)
theorem g_u_law_ring_u_law_pick : (defScope s_u_law_ring).names.lookup ("_law_pick" : Str) = some .globalImplicit := by decide +kernel
theorem v_u_law_ring_at : locK ((defScope s_u_law_ring).names.lookup ("at" : Str)) = true := by decide +kernel
theorem v_u_law_ring_script : locK ((defScope s_u_law_ring).names.lookup ("script" : Str)) = true := by decide +kernel
abbrev nn_u_law_ring : List Str := [("script" : Str), ("at" : Str)]
def b_u_law_ring : DS :=
  dRetR (dOpR ixD (dDisp (fun ds => ⟨.fr, .lst ds⟩) (dConsR (dLit (.int 1)) (dConsR (dLit (.int 2)) (dConsR (dLit (.int 3)) (dConsR (dLit (.int 4)) (dConsR (dLit (.int 5)) (dConsR (dLit (.int 6)) (dConsR (dLit (.int 8)) (dConsR (dLit (.int 9)) (dConsR (dLit (.int 10)) (dConsR (dLit (.int 12)) (dConsR (dLit (.int 12)) (dConsR (dLit (.int 16)) (dConsR (dLit (.int 18)) (dConsR (dLit (.int 20)) (dConsR (dLit (.int 24)) (dNil))))))))))))))))) (dCallR d_u_law_pick (dConsR (dVarF A0) (dConsR (dVarF A1) (dConsR (dLit (.int 15)) (dNil))))))
def d_u_law_ring : List D → Out RV := runD 2 b_u_law_ring
theorem sc_u_law_ring : FnScope nn_u_law_ring [("script" : Str), ("at" : Str)] (defScope s_u_law_ring) := ⟨by decide +kernel, by decide +kernel, by decide +kernel, by decide +kernel, rfl, by decide +kernel, by decide +kernel⟩
theorem bd_u_law_ring (T : Top mg base F cv f_law k_law f_u_law_told k_u_law_told) (f : Addr) (cdv : Value) (A : Around) (outer : List Env) (s : Shared) (H : Hp) (E : XK) (hr : Room 1 (A.deeper (envOfC ("_law_ring" : Str) (defScope s_u_law_ring) s.heap.objs.size f cdv))) (c : Ctx (cxOf (L2.CX P w) P w F.K mg base nn_u_law_ring ("_law_ring" : Str) (defScope s_u_law_ring) f cdv A outer s H E) F (fun cls d _ H => E cls d H)) (po : PassesOwn (model P w) (cxOf (L2.CX P w) P w F.K mg base nn_u_law_ring ("_law_ring" : Str) (defScope s_u_law_ring) f cdv A outer s H E).A (cxOf (L2.CX P w) P w F.K mg base nn_u_law_ring ("_law_ring" : Str) (defScope s_u_law_ring) f cdv A outer s H E).env (cxOf (L2.CX P w) P w F.K mg base nn_u_law_ring ("_law_ring" : Str) (defScope s_u_law_ring) f cdv A outer s H E).xe) :
    PSs (cxOf (L2.CX P w) P w F.K mg base nn_u_law_ring ("_law_ring" : Str) (defScope s_u_law_ring) f cdv A outer s H E) (defBody s_u_law_ring) (TSx F (fun cls d _ H => E cls d H) cv b_u_law_ring) :=
  zs_one (z_ret (x_ix c (x_lst (x_cons (x_int) (x_cons (x_int) (x_cons (x_int) (x_cons (x_int) (x_cons (x_int) (x_cons (x_int) (x_cons (x_int) (x_cons (x_int) (x_cons (x_int) (x_cons (x_int) (x_cons (x_int) (x_cons (x_int) (x_cons (x_int) (x_cons (x_int) (x_cons (x_int) (x_nil))))))))))))))))) (x_call c nm_u_law_pick (ok_u_law_pick T) hr (by omega) (g_u_law_ring_u_law_pick) (dLenR_cons (dLenR_cons (dLenR_cons (dLen_nil)))) (x_cons (x_var nm_script (vis_def v_u_law_ring_script)) (x_cons (x_var nm_at (vis_def v_u_law_ring_at)) (x_cons (x_int) (x_nil)))))))
theorem ok_u_law_ring (T : Top mg base F cv f_law k_law f_u_law_told k_u_law_told) : FnD P w mg base F cv 2 ("_law_ring" : Str) [("script" : Str), ("at" : Str)] d_u_law_ring :=
  fnD (N := nn_u_law_ring) (k := 1) (body := b_u_law_ring) T.d_u_law_ring sc_u_law_ring (fun _ _ _ _ _ _ us hl => match us, hl with | [_, _], _ => rfl) (bd_u_law_ring T)
theorem v_u_law_drawn_out_beats : locK ((defScope s_u_law_drawn_out).names.lookup ("beats" : Str)) = true := by decide +kernel
theorem v_u_law_drawn_out_k : locK ((defScope s_u_law_drawn_out).names.lookup ("k" : Str)) = true := by decide +kernel
theorem v_u_law_drawn_out_made : locK ((defScope s_u_law_drawn_out).names.lookup ("made" : Str)) = true := by decide +kernel
theorem v_u_law_drawn_out_many : locK ((defScope s_u_law_drawn_out).names.lookup ("many" : Str)) = true := by decide +kernel
theorem g_u_law_drawn_out_range : (defScope s_u_law_drawn_out).names.lookup ("range" : Str) = some .globalImplicit := by decide +kernel
abbrev nn_u_law_drawn_out : List Str := [("beats" : Str), ("step" : Str), ("many" : Str), ("made" : Str), ("k" : Str), ("beat" : Str)]
def b_u_law_drawn_out : DS :=
  dSeqR (dSetR true A3 (dDisp (fun ds => ⟨.fr, .lst ds⟩) (dNil))) (dSeqR (dForR (dRg rg1 (dConsR (dVarF A2) (dNil))) (.one A4) (dMutF A3 (dConsR (dLcR (dIt (dVarF A0)) (.one A5) [A5] (dYes) (dOpR addR (dVarF A5) (dOpR mulA (dVarF A4) (dVarF A1)))) (dNil)) fExt)) (dRetVF A3))
def d_u_law_drawn_out : List D → Out RV := runD 6 b_u_law_drawn_out
theorem sc_u_law_drawn_out : FnScope nn_u_law_drawn_out [("beats" : Str), ("step" : Str), ("many" : Str)] (defScope s_u_law_drawn_out) := ⟨by decide +kernel, by decide +kernel, by decide +kernel, by decide +kernel, rfl, by decide +kernel, by decide +kernel⟩
theorem bd_u_law_drawn_out (T : Top mg base F cv f_law k_law f_u_law_told k_u_law_told) (f : Addr) (cdv : Value) (A : Around) (outer : List Env) (s : Shared) (H : Hp) (E : XK) (hr : Room 0 (A.deeper (envOfC ("_law_drawn_out" : Str) (defScope s_u_law_drawn_out) s.heap.objs.size f cdv))) (c : Ctx (cxOf (L2.CX P w) P w F.K mg base nn_u_law_drawn_out ("_law_drawn_out" : Str) (defScope s_u_law_drawn_out) f cdv A outer s H E) F (fun cls d _ H => E cls d H)) (po : PassesOwn (model P w) (cxOf (L2.CX P w) P w F.K mg base nn_u_law_drawn_out ("_law_drawn_out" : Str) (defScope s_u_law_drawn_out) f cdv A outer s H E).A (cxOf (L2.CX P w) P w F.K mg base nn_u_law_drawn_out ("_law_drawn_out" : Str) (defScope s_u_law_drawn_out) f cdv A outer s H E).env (cxOf (L2.CX P w) P w F.K mg base nn_u_law_drawn_out ("_law_drawn_out" : Str) (defScope s_u_law_drawn_out) f cdv A outer s H E).xe) :
    PSs (cxOf (L2.CX P w) P w F.K mg base nn_u_law_drawn_out ("_law_drawn_out" : Str) (defScope s_u_law_drawn_out) f cdv A outer s H E) (defBody s_u_law_drawn_out) (TSx F (fun cls d _ H => E cls d H) cv b_u_law_drawn_out) :=
  zs_cons (z_set c (loc_def v_u_law_drawn_out_made) (.inl rfl) (x_lst (x_nil)))
    (zs_cons (z_for c po (i_rg1 (g_u_law_drawn_out_range) T.n_range (x_cons (x_var nm_many (vis_def v_u_law_drawn_out_many)) (x_nil))) (g_one c.nd (loc_def v_u_law_drawn_out_k) (.inl rfl))
    (zs_one (z_extend c nm_made (vis_def v_u_law_drawn_out_made) (x_cons (x_lc c (own := [(("beat" : Str), 5)]) (i_val c (x_var nm_beats (vis_def v_u_law_drawn_out_beats))) (N0 := nn_u_law_drawn_out) (sc0 := defScope s_u_law_drawn_out) rfl rfl (by decide +kernel) rfl (by decide +kernel) (fun _ _ _ _ _ => g_one (c.blk).nd (loc_blk (by decide +kernel)) (fn_blk (by decide +kernel))) (fun _ _ _ _ _ => w_nil) (fun _ _ _ _ _ => x_add (c.blk) (x_var nm_beat (vis_blk (by decide +kernel))) (x_mul (c.blk) (x_var nm_k (vis_blk (by decide +kernel))) (x_var nm_step (vis_blk (by decide +kernel)))))) (x_nil)))))
    (zs_one (z_retV nm_made (vis_def v_u_law_drawn_out_made))))
theorem ok_u_law_drawn_out (T : Top mg base F cv f_law k_law f_u_law_told k_u_law_told) : FnD P w mg base F cv 1 ("_law_drawn_out" : Str) [("beats" : Str), ("step" : Str), ("many" : Str)] d_u_law_drawn_out :=
  fnD (N := nn_u_law_drawn_out) (k := 0) (body := b_u_law_drawn_out) T.d_u_law_drawn_out sc_u_law_drawn_out (fun _ _ _ _ _ _ us hl => match us, hl with | [_, _, _], _ => rfl) (bd_u_law_drawn_out T)
theorem l_u_law_common_one : (defScope s_u_law_common).names.lookup ("one" : Str) = some .local := by decide +kernel
theorem l_u_law_common_other : (defScope s_u_law_common).names.lookup ("other" : Str) = some .local := by decide +kernel
theorem v_u_law_common_one : locK ((defScope s_u_law_common).names.lookup ("one" : Str)) = true := by decide +kernel
theorem v_u_law_common_other : locK ((defScope s_u_law_common).names.lookup ("other" : Str)) = true := by decide +kernel
abbrev nn_u_law_common : List Str := [("one" : Str), ("other" : Str)]
def b_u_law_common : DS :=
  dSeqR (dWhileR 1000 (dTestR (dOpR neR (dVarF A1) (dLit (.int 0))) trB) (dParF [(false, A0), (false, A1)] (dConsR (dVarF A1) (dConsR (dOpR modR (dVarF A0) (dVarF A1)) (dNil))))) (dRetVF A0)
def d_u_law_common : List D → Out RV := runD 2 b_u_law_common
theorem sc_u_law_common : FnScope nn_u_law_common [("one" : Str), ("other" : Str)] (defScope s_u_law_common) := ⟨by decide +kernel, by decide +kernel, by decide +kernel, by decide +kernel, rfl, by decide +kernel, by decide +kernel⟩
theorem bd_u_law_common (T : Top mg base F cv f_law k_law f_u_law_told k_u_law_told) (f : Addr) (cdv : Value) (A : Around) (outer : List Env) (s : Shared) (H : Hp) (E : XK) (hr : Room 0 (A.deeper (envOfC ("_law_common" : Str) (defScope s_u_law_common) s.heap.objs.size f cdv))) (c : Ctx (cxOf (L2.CX P w) P w F.K mg base nn_u_law_common ("_law_common" : Str) (defScope s_u_law_common) f cdv A outer s H E) F (fun cls d _ H => E cls d H)) (po : PassesOwn (model P w) (cxOf (L2.CX P w) P w F.K mg base nn_u_law_common ("_law_common" : Str) (defScope s_u_law_common) f cdv A outer s H E).A (cxOf (L2.CX P w) P w F.K mg base nn_u_law_common ("_law_common" : Str) (defScope s_u_law_common) f cdv A outer s H E).env (cxOf (L2.CX P w) P w F.K mg base nn_u_law_common ("_law_common" : Str) (defScope s_u_law_common) f cdv A outer s H E).xe) :
    PSs (cxOf (L2.CX P w) P w F.K mg base nn_u_law_common ("_law_common" : Str) (defScope s_u_law_common) f cdv A outer s H E) (defBody s_u_law_common) (TSx F (fun cls d _ H => E cls d H) cv b_u_law_common) :=
  zs_cons (z_while po (y_cmp (c_ne c) (x_var nm_other (vis_def v_u_law_common_other)) (x_int)) (zs_one (z_par c (by decide) l_u_law_common_one l_u_law_common_other (x_zcons (x_var nm_other (vis_def v_u_law_common_other)) (x_zcons (x_mod (x_var nm_one (vis_def v_u_law_common_one)) (x_var nm_other (vis_def v_u_law_common_other))) (z_nil))) (by rfl))))
    (zs_one (z_retV nm_one (vis_def v_u_law_common_one)))
theorem ok_u_law_common (T : Top mg base F cv f_law k_law f_u_law_told k_u_law_told) : FnD P w mg base F cv 1 ("_law_common" : Str) [("one" : Str), ("other" : Str)] d_u_law_common :=
  fnD (N := nn_u_law_common) (k := 0) (body := b_u_law_common) T.d_u_law_common sc_u_law_common (fun _ _ _ _ _ _ us hl => match us, hl with | [_, _], _ => rfl) (bd_u_law_common T)
theorem v_u_law_beats_numbers : locK ((defScope s_u_law_beats).names.lookup ("numbers" : Str)) = true := by decide +kernel
theorem g_u_law_beats_set : (defScope s_u_law_beats).names.lookup ("set" : Str) = some .globalImplicit := by decide +kernel
theorem g_u_law_beats_sorted : (defScope s_u_law_beats).names.lookup ("sorted" : Str) = some .globalImplicit := by decide +kernel
theorem g_u_law_beats_tuple : (defScope s_u_law_beats).names.lookup ("tuple" : Str) = some .globalImplicit := by decide +kernel
abbrev nn_u_law_beats : List Str := [("ring" : Str), ("numbers" : Str), ("number" : Str)]
def b_u_law_beats : DS :=
  dRetR (dCBR tupleD (dConsR (dSrtSet (dLcR (dIt (dVarF A1)) (.one A2) [A2] (dYes) (dOpR modR (dVarF A2) (dVarF A0)))) (dNil)))
def d_u_law_beats : List D → Out RV := runD 3 b_u_law_beats
theorem sc_u_law_beats : FnScope nn_u_law_beats [("ring" : Str), ("numbers" : Str)] (defScope s_u_law_beats) := ⟨by decide +kernel, by decide +kernel, by decide +kernel, by decide +kernel, rfl, by decide +kernel, by decide +kernel⟩
theorem bd_u_law_beats (T : Top mg base F cv f_law k_law f_u_law_told k_u_law_told) (f : Addr) (cdv : Value) (A : Around) (outer : List Env) (s : Shared) (H : Hp) (E : XK) (hr : Room 0 (A.deeper (envOfC ("_law_beats" : Str) (defScope s_u_law_beats) s.heap.objs.size f cdv))) (c : Ctx (cxOf (L2.CX P w) P w F.K mg base nn_u_law_beats ("_law_beats" : Str) (defScope s_u_law_beats) f cdv A outer s H E) F (fun cls d _ H => E cls d H)) (po : PassesOwn (model P w) (cxOf (L2.CX P w) P w F.K mg base nn_u_law_beats ("_law_beats" : Str) (defScope s_u_law_beats) f cdv A outer s H E).A (cxOf (L2.CX P w) P w F.K mg base nn_u_law_beats ("_law_beats" : Str) (defScope s_u_law_beats) f cdv A outer s H E).env (cxOf (L2.CX P w) P w F.K mg base nn_u_law_beats ("_law_beats" : Str) (defScope s_u_law_beats) f cdv A outer s H E).xe) :
    PSs (cxOf (L2.CX P w) P w F.K mg base nn_u_law_beats ("_law_beats" : Str) (defScope s_u_law_beats) f cdv A outer s H E) (defBody s_u_law_beats) (TSx F (fun cls d _ H => E cls d H) cv b_u_law_beats) :=
  zs_one (z_ret (x_typ (b_tuple c) nm_tuple (g_u_law_beats_tuple) T.n_tuple (x_cons (x_srtSet c (g_u_law_beats_sorted) T.n_sorted (g_u_law_beats_set) T.n_set (x_lc c (own := [(("number" : Str), 2)]) (i_val c (x_var nm_numbers (vis_def v_u_law_beats_numbers))) (N0 := nn_u_law_beats) (sc0 := defScope s_u_law_beats) rfl rfl (by decide +kernel) rfl (by decide +kernel) (fun _ _ _ _ _ => g_one (c.blk).nd (loc_blk (by decide +kernel)) (fn_blk (by decide +kernel))) (fun _ _ _ _ _ => w_nil) (fun _ _ _ _ _ => x_mod (x_var nm_number (vis_blk (by decide +kernel))) (x_var nm_ring (vis_blk (by decide +kernel)))))) (x_nil))))
theorem ok_u_law_beats (T : Top mg base F cv f_law k_law f_u_law_told k_u_law_told) : FnD P w mg base F cv 1 ("_law_beats" : Str) [("ring" : Str), ("numbers" : Str)] d_u_law_beats :=
  fnD (N := nn_u_law_beats) (k := 0) (body := b_u_law_beats) T.d_u_law_beats sc_u_law_beats (fun _ _ _ _ _ _ us hl => match us, hl with | [_, _], _ => rfl) (bd_u_law_beats T)
theorem l_u_law_round_rhythm : (defScope s_u_law_round).names.lookup ("rhythm" : Str) = some .local := by decide +kernel
theorem l_u_law_round_some : (defScope s_u_law_round).names.lookup ("some" : Str) = some .local := by decide +kernel
theorem l_u_law_round_units : (defScope s_u_law_round).names.lookup ("units" : Str) = some .local := by decide +kernel
theorem g_u_law_round_u_law_beats : (defScope s_u_law_round).names.lookup ("_law_beats" : Str) = some .globalImplicit := by decide +kernel
theorem g_u_law_round_u_law_drawn_out : (defScope s_u_law_round).names.lookup ("_law_drawn_out" : Str) = some .globalImplicit := by decide +kernel
theorem g_u_law_round_u_law_pick : (defScope s_u_law_round).names.lookup ("_law_pick" : Str) = some .globalImplicit := by decide +kernel
theorem v_u_law_round_at : locK ((defScope s_u_law_round).names.lookup ("at" : Str)) = true := by decide +kernel
theorem v_u_law_round_by : locK ((defScope s_u_law_round).names.lookup ("by" : Str)) = true := by decide +kernel
theorem v_u_law_round_entries : locK ((defScope s_u_law_round).names.lookup ("entries" : Str)) = true := by decide +kernel
theorem v_u_law_round_k : locK ((defScope s_u_law_round).names.lookup ("k" : Str)) = true := by decide +kernel
theorem v_u_law_round_left : locK ((defScope s_u_law_round).names.lookup ("left" : Str)) = true := by decide +kernel
theorem g_u_law_round_len : (defScope s_u_law_round).names.lookup ("len" : Str) = some .globalImplicit := by decide +kernel
theorem v_u_law_round_prime : locK ((defScope s_u_law_round).names.lookup ("prime" : Str)) = true := by decide +kernel
theorem g_u_law_round_range : (defScope s_u_law_round).names.lookup ("range" : Str) = some .globalImplicit := by decide +kernel
theorem v_u_law_round_rhythm : locK ((defScope s_u_law_round).names.lookup ("rhythm" : Str)) = true := by decide +kernel
theorem v_u_law_round_ring : locK ((defScope s_u_law_round).names.lookup ("ring" : Str)) = true := by decide +kernel
theorem v_u_law_round_script : locK ((defScope s_u_law_round).names.lookup ("script" : Str)) = true := by decide +kernel
theorem v_u_law_round_some : locK ((defScope s_u_law_round).names.lookup ("some" : Str)) = true := by decide +kernel
theorem v_u_law_round_step : locK ((defScope s_u_law_round).names.lookup ("step" : Str)) = true := by decide +kernel
theorem v_u_law_round_times : locK ((defScope s_u_law_round).names.lookup ("times" : Str)) = true := by decide +kernel
theorem v_u_law_round_units : locK ((defScope s_u_law_round).names.lookup ("units" : Str)) = true := by decide +kernel
abbrev nn_u_law_round : List Str := [("script" : Str), ("at" : Str), ("ring" : Str), ("rhythm" : Str), ("entries" : Str), ("step" : Str), ("left" : Str), ("k" : Str), ("some" : Str), ("prime" : Str), ("units" : Str), ("by" : Str), ("times" : Str), ("one" : Str), ("beat" : Str)]
def b_u_law_round : DS :=
  dSeqR (dParF [(false, A3), (false, A4), (false, A5), (false, A6), (false, A7)] (dConsR (dDisp (fun ds => ⟨.fr, .lst ds⟩) (dConsR (dLit (.int 0)) (dNil))) (dConsR (dDisp (fun ds => ⟨.fr, .lst ds⟩) (dConsR (dLit (.int 0)) (dNil))) (dConsR (dLit (.int 1)) (dConsR (dVarF A2) (dConsR (dLit (.int 0)) (dNil))))))) (dSeqR (dWhileR 100 (dTestR (dOpR gtR (dVarF A6) (dLit (.int 1))) trB) (dSeqR (dSetR false A8 (dLcR (dIt (dDisp (fun ds => ⟨.fz, .tup ds⟩) (dConsR (dLit (.int 2)) (dConsR (dLit (.int 3)) (dConsR (dLit (.int 5)) (dConsR (dLit (.int 7)) (dConsR (dLit (.int 11)) (dConsR (dLit (.int 13)) (dNil))))))))) (.one A9) [A9] (dTestR (dOpR eqR (dOpR modR (dVarF A6) (dVarF A9)) (dLit (.int 0))) trB) (dVarF A9))) (dSeqR (dSetR false A9 (dOpR ixD (dVarF A8) (dCallR d_u_law_pick (dConsR (dVarF A0) (dConsR (dOpR addR (dVarF A1) (dOpR mulA (dLit (.int 3)) (dVarF A7))) (dConsR (dCBR lenD (dConsR (dVarF A8) (dNil))) (dNil))))))) (dSeqR (dIfSR (dTestR (dOpR eqR (dCallR d_u_law_pick (dConsR (dVarF A0) (dConsR (dOpR addR (dOpR addR (dVarF A1) (dOpR mulA (dLit (.int 3)) (dVarF A7))) (dLit (.int 1))) (dConsR (dLit (.int 2)) (dNil))))) (dLit (.int 0))) trB) (dSetR false A3 (dCallR d_u_law_drawn_out (dConsR (dVarF A3) (dConsR (dVarF A5) (dConsR (dVarF A9) (dNil)))))) (dSetR false A4 (dCallR d_u_law_drawn_out (dConsR (dVarF A4) (dConsR (dVarF A5) (dConsR (dVarF A9) (dNil))))))) (dParF [(false, A5), (false, A6), (false, A7)] (dConsR (dOpR mulA (dVarF A5) (dVarF A9)) (dConsR (dOpR fdivD (dVarF A6) (dVarF A9)) (dConsR (dOpR addR (dVarF A7) (dLit (.int 1))) (dNil))))))))) (dSeqR (dSetR false A10 (dLcR (dRg rg2 (dConsR (dLit (.int 1)) (dConsR (dOpR addR (dVarF A2) (dLit (.int 1))) (dNil)))) (.one A13) [A13] (dTestR (dOpR eqR (dCallR d_u_law_common (dConsR (dVarF A13) (dConsR (dVarF A2) (dNil)))) (dLit (.int 1))) trB) (dVarF A13))) (dSeqR (dParF [(false, A11), (false, A12)] (dConsR (dCallR d_u_law_pick (dConsR (dVarF A0) (dConsR (dOpR addR (dVarF A1) (dLit (.int 30))) (dConsR (dVarF A2) (dNil))))) (dConsR (dOpR ixD (dVarF A10) (dCallR d_u_law_pick (dConsR (dVarF A0) (dConsR (dOpR addR (dVarF A1) (dLit (.int 31))) (dConsR (dCBR lenD (dConsR (dVarF A10) (dNil))) (dNil)))))) (dNil)))) (dSeqR (dSetR false A3 (dLcR (dIt (dVarF A3)) (.one A14) [A14] (dYes) (dOpR addR (dOpR mulA (dVarF A14) (dVarF A12)) (dVarF A11)))) (dRetR (dDisp (fun ds => ⟨.fz, .tup ds⟩) (dConsR (dCallR d_u_law_beats (dConsR (dVarF A2) (dConsR (dVarF A3) (dNil)))) (dConsR (dCallR d_u_law_beats (dConsR (dVarF A2) (dConsR (dLcR (dIt (dVarF A4)) (.one A14) [A14] (dYes) (dOpR mulA (dVarF A14) (dVarF A12))) (dNil)))) (dNil)))))))))
def d_u_law_round : List D → Out RV := runD 15 b_u_law_round
theorem sc_u_law_round : FnScope nn_u_law_round [("script" : Str), ("at" : Str), ("ring" : Str)] (defScope s_u_law_round) := ⟨by decide +kernel, by decide +kernel, by decide +kernel, by decide +kernel, rfl, by decide +kernel, by decide +kernel⟩
theorem bd_u_law_round (T : Top mg base F cv f_law k_law f_u_law_told k_u_law_told) (f : Addr) (cdv : Value) (A : Around) (outer : List Env) (s : Shared) (H : Hp) (E : XK) (hr : Room 1 (A.deeper (envOfC ("_law_round" : Str) (defScope s_u_law_round) s.heap.objs.size f cdv))) (c : Ctx (cxOf (L2.CX P w) P w F.K mg base nn_u_law_round ("_law_round" : Str) (defScope s_u_law_round) f cdv A outer s H E) F (fun cls d _ H => E cls d H)) (po : PassesOwn (model P w) (cxOf (L2.CX P w) P w F.K mg base nn_u_law_round ("_law_round" : Str) (defScope s_u_law_round) f cdv A outer s H E).A (cxOf (L2.CX P w) P w F.K mg base nn_u_law_round ("_law_round" : Str) (defScope s_u_law_round) f cdv A outer s H E).env (cxOf (L2.CX P w) P w F.K mg base nn_u_law_round ("_law_round" : Str) (defScope s_u_law_round) f cdv A outer s H E).xe) :
    PSs (cxOf (L2.CX P w) P w F.K mg base nn_u_law_round ("_law_round" : Str) (defScope s_u_law_round) f cdv A outer s H E) (defBody s_u_law_round) (TSx F (fun cls d _ H => E cls d H) cv b_u_law_round) :=
  zs_cons (z_parT (js := [(false, A3), (false, A4), (false, A5), (false, A6), (false, A7)]) c (x_zcons (x_lst (x_cons (x_int) (x_nil))) (x_zcons (x_lst (x_cons (x_int) (x_nil))) (x_zcons (x_int) (x_zcons (x_var nm_ring (vis_def v_u_law_round_ring)) (x_zcons (x_int) (z_nil)))))) (g_many c (g_cons c.nd (loc_def v_u_law_round_rhythm) (.inl rfl) (g_cons c.nd (loc_def v_u_law_round_entries) (.inl rfl) (g_cons c.nd (loc_def v_u_law_round_step) (.inl rfl) (g_cons c.nd (loc_def v_u_law_round_left) (.inl rfl) (g_cons c.nd (loc_def v_u_law_round_k) (.inl rfl) (g_nil))))))) (by rfl))
    (zs_cons (z_while po (y_cmp (c_gt c) (x_var nm_left (vis_def v_u_law_round_left)) (x_int)) (zs_cons (z_setLc c l_u_law_round_some (by rfl) (own := [(("prime" : Str), 9)]) (i_val c (x_tup (x_cons (x_int) (x_cons (x_int) (x_cons (x_int) (x_cons (x_int) (x_cons (x_int) (x_cons (x_int) (x_nil))))))))) (N0 := nn_u_law_round) (sc0 := defScope s_u_law_round) rfl rfl (by decide +kernel) rfl (by decide +kernel) (fun _ _ _ _ _ => g_one (c.blk).nd (loc_blk (by decide +kernel)) (fn_blk (by decide +kernel))) (fun _ _ _ _ _ => w_one (y_cmp (c_eq (c.blk)) (x_mod (x_var nm_left (vis_blk (by decide +kernel))) (x_var nm_prime (vis_blk (by decide +kernel)))) (x_int))) (fun _ _ _ _ _ => x_var nm_prime (vis_blk (by decide +kernel))))
    (zs_cons (z_set c (loc_def v_u_law_round_prime) (.inl rfl) (x_ix c (x_var nm_some (vis_def v_u_law_round_some)) (x_call c nm_u_law_pick (ok_u_law_pick T) hr (by omega) (g_u_law_round_u_law_pick) (dLenR_cons (dLenR_cons (dLenR_cons (dLen_nil)))) (x_cons (x_var nm_script (vis_def v_u_law_round_script)) (x_cons (x_add c (x_var nm_at (vis_def v_u_law_round_at)) (x_mul c (x_int) (x_var nm_k (vis_def v_u_law_round_k)))) (x_cons (x_blt (b_len c) nm_len (g_u_law_round_len) T.n_len (x_cons (x_var nm_some (vis_def v_u_law_round_some)) (x_nil))) (x_nil)))))))
    (zs_cons (z_if (y_cmp (c_eq c) (x_call c nm_u_law_pick (ok_u_law_pick T) hr (by omega) (g_u_law_round_u_law_pick) (dLenR_cons (dLenR_cons (dLenR_cons (dLen_nil)))) (x_cons (x_var nm_script (vis_def v_u_law_round_script)) (x_cons (x_add c (x_add c (x_var nm_at (vis_def v_u_law_round_at)) (x_mul c (x_int) (x_var nm_k (vis_def v_u_law_round_k)))) (x_int)) (x_cons (x_int) (x_nil))))) (x_int))
    (zs_one (z_set c (loc_def v_u_law_round_rhythm) (.inl rfl) (x_call c nm_u_law_drawn_out (ok_u_law_drawn_out T) hr (by omega) (g_u_law_round_u_law_drawn_out) (dLenR_cons (dLenR_cons (dLenR_cons (dLen_nil)))) (x_cons (x_var nm_rhythm (vis_def v_u_law_round_rhythm)) (x_cons (x_var nm_step (vis_def v_u_law_round_step)) (x_cons (x_var nm_prime (vis_def v_u_law_round_prime)) (x_nil)))))))
    (zs_one (z_set c (loc_def v_u_law_round_entries) (.inl rfl) (x_call c nm_u_law_drawn_out (ok_u_law_drawn_out T) hr (by omega) (g_u_law_round_u_law_drawn_out) (dLenR_cons (dLenR_cons (dLenR_cons (dLen_nil)))) (x_cons (x_var nm_entries (vis_def v_u_law_round_entries)) (x_cons (x_var nm_step (vis_def v_u_law_round_step)) (x_cons (x_var nm_prime (vis_def v_u_law_round_prime)) (x_nil))))))))
    (zs_one (z_parT (js := [(false, A5), (false, A6), (false, A7)]) c (x_zcons (x_mul c (x_var nm_step (vis_def v_u_law_round_step)) (x_var nm_prime (vis_def v_u_law_round_prime))) (x_zcons (x_fdiv (x_var nm_left (vis_def v_u_law_round_left)) (x_var nm_prime (vis_def v_u_law_round_prime))) (x_zcons (x_add c (x_var nm_k (vis_def v_u_law_round_k)) (x_int)) (z_nil)))) (g_many c (g_cons c.nd (loc_def v_u_law_round_step) (.inl rfl) (g_cons c.nd (loc_def v_u_law_round_left) (.inl rfl) (g_cons c.nd (loc_def v_u_law_round_k) (.inl rfl) (g_nil))))) (by rfl)))))))
    (zs_cons (z_setLc c l_u_law_round_units (by rfl) (own := [(("one" : Str), 13)]) (i_rg2 (g_u_law_round_range) T.n_range (x_cons (x_int) (x_cons (x_add c (x_var nm_ring (vis_def v_u_law_round_ring)) (x_int)) (x_nil)))) (N0 := nn_u_law_round) (sc0 := defScope s_u_law_round) rfl rfl (by decide +kernel) rfl (by decide +kernel) (fun _ _ _ _ _ => g_one (c.blk).nd (loc_blk (by decide +kernel)) (fn_blk (by decide +kernel))) (fun _ _ _ _ _ => w_one (y_cmp (c_eq (c.blk)) (x_call (c.blk) nm_u_law_common (ok_u_law_common T) hr (by omega) (gl_blk (by decide +kernel)) (dLenR_cons (dLenR_cons (dLen_nil))) (x_cons (x_var nm_one (vis_blk (by decide +kernel))) (x_cons (x_var nm_ring (vis_blk (by decide +kernel))) (x_nil)))) (x_int))) (fun _ _ _ _ _ => x_var nm_one (vis_blk (by decide +kernel))))
    (zs_cons (z_parT (js := [(false, A11), (false, A12)]) c (x_zcons (x_call c nm_u_law_pick (ok_u_law_pick T) hr (by omega) (g_u_law_round_u_law_pick) (dLenR_cons (dLenR_cons (dLenR_cons (dLen_nil)))) (x_cons (x_var nm_script (vis_def v_u_law_round_script)) (x_cons (x_add c (x_var nm_at (vis_def v_u_law_round_at)) (x_int)) (x_cons (x_var nm_ring (vis_def v_u_law_round_ring)) (x_nil))))) (x_zcons (x_ix c (x_var nm_units (vis_def v_u_law_round_units)) (x_call c nm_u_law_pick (ok_u_law_pick T) hr (by omega) (g_u_law_round_u_law_pick) (dLenR_cons (dLenR_cons (dLenR_cons (dLen_nil)))) (x_cons (x_var nm_script (vis_def v_u_law_round_script)) (x_cons (x_add c (x_var nm_at (vis_def v_u_law_round_at)) (x_int)) (x_cons (x_blt (b_len c) nm_len (g_u_law_round_len) T.n_len (x_cons (x_var nm_units (vis_def v_u_law_round_units)) (x_nil))) (x_nil)))))) (z_nil))) (g_many c (g_cons c.nd (loc_def v_u_law_round_by) (.inl rfl) (g_cons c.nd (loc_def v_u_law_round_times) (.inl rfl) (g_nil)))) (by rfl))
    (zs_cons (z_setLc c l_u_law_round_rhythm (by rfl) (own := [(("beat" : Str), 14)]) (i_val c (x_var nm_rhythm (vis_def v_u_law_round_rhythm))) (N0 := nn_u_law_round) (sc0 := defScope s_u_law_round) rfl rfl (by decide +kernel) rfl (by decide +kernel) (fun _ _ _ _ _ => g_one (c.blk).nd (loc_blk (by decide +kernel)) (fn_blk (by decide +kernel))) (fun _ _ _ _ _ => w_nil) (fun _ _ _ _ _ => x_add (c.blk) (x_mul (c.blk) (x_var nm_beat (vis_blk (by decide +kernel))) (x_var nm_times (vis_blk (by decide +kernel)))) (x_var nm_by (vis_blk (by decide +kernel)))))
    (zs_one (z_ret (x_tup (x_cons (x_call c nm_u_law_beats (ok_u_law_beats T) hr (by omega) (g_u_law_round_u_law_beats) (dLenR_cons (dLenR_cons (dLen_nil))) (x_cons (x_var nm_ring (vis_def v_u_law_round_ring)) (x_cons (x_var nm_rhythm (vis_def v_u_law_round_rhythm)) (x_nil)))) (x_cons (x_call c nm_u_law_beats (ok_u_law_beats T) hr (by omega) (g_u_law_round_u_law_beats) (dLenR_cons (dLenR_cons (dLen_nil))) (x_cons (x_var nm_ring (vis_def v_u_law_round_ring)) (x_cons (x_lc c (own := [(("beat" : Str), 14)]) (i_val c (x_var nm_entries (vis_def v_u_law_round_entries))) (N0 := nn_u_law_round) (sc0 := defScope s_u_law_round) rfl rfl (by decide +kernel) rfl (by decide +kernel) (fun _ _ _ _ _ => g_one (c.blk).nd (loc_blk (by decide +kernel)) (fn_blk (by decide +kernel))) (fun _ _ _ _ _ => w_nil) (fun _ _ _ _ _ => x_mul (c.blk) (x_var nm_beat (vis_blk (by decide +kernel))) (x_var nm_times (vis_blk (by decide +kernel))))) (x_nil)))) (x_nil))))))))))
theorem ok_u_law_round (T : Top mg base F cv f_law k_law f_u_law_told k_u_law_told) : FnD P w mg base F cv 2 ("_law_round" : Str) [("script" : Str), ("at" : Str), ("ring" : Str)] d_u_law_round :=
  fnD (N := nn_u_law_round) (k := 1) (body := b_u_law_round) T.d_u_law_round sc_u_law_round (fun _ _ _ _ _ _ us hl => match us, hl with | [_, _, _], _ => rfl) (bd_u_law_round T)
theorem l_u_law_rhythm_made : (defScope s_u_law_rhythm).names.lookup ("made" : Str) = some .local := by decide +kernel
theorem g_u_law_rhythm_u_law_pick : (defScope s_u_law_rhythm).names.lookup ("_law_pick" : Str) = some .globalImplicit := by decide +kernel
theorem g_u_law_rhythm_u_law_round : (defScope s_u_law_rhythm).names.lookup ("_law_round" : Str) = some .globalImplicit := by decide +kernel
theorem v_u_law_rhythm_at : locK ((defScope s_u_law_rhythm).names.lookup ("at" : Str)) = true := by decide +kernel
theorem v_u_law_rhythm_made : locK ((defScope s_u_law_rhythm).names.lookup ("made" : Str)) = true := by decide +kernel
theorem g_u_law_rhythm_range : (defScope s_u_law_rhythm).names.lookup ("range" : Str) = some .globalImplicit := by decide +kernel
theorem v_u_law_rhythm_ring : locK ((defScope s_u_law_rhythm).names.lookup ("ring" : Str)) = true := by decide +kernel
theorem v_u_law_rhythm_script : locK ((defScope s_u_law_rhythm).names.lookup ("script" : Str)) = true := by decide +kernel
theorem g_u_law_rhythm_tuple : (defScope s_u_law_rhythm).names.lookup ("tuple" : Str) = some .globalImplicit := by decide +kernel
abbrev nn_u_law_rhythm : List Str := [("script" : Str), ("at" : Str), ("ring" : Str), ("made" : Str), ("beat" : Str)]
def b_u_law_rhythm : DS :=
  dSeqR (dIfSR (dTestR (dOpR eqR (dCallR d_u_law_pick (dConsR (dVarF A0) (dConsR (dVarF A1) (dConsR (dLit (.int 2)) (dNil))))) (dLit (.int 0))) trB) (dRetR (dOpR ixD (dCallR d_u_law_round (dConsR (dVarF A0) (dConsR (dOpR addR (dVarF A1) (dLit (.int 1))) (dConsR (dVarF A2) (dNil))))) (dLit (.int 0)))) (dNext)) (dSeqR (dSetR false A3 (dLcR (dRg rg1 (dConsR (dVarF A2) (dNil))) (.one A4) [A4] (dTestR (dOpR eqR (dCallR d_u_law_pick (dConsR (dVarF A0) (dConsR (dOpR addR (dOpR addR (dVarF A1) (dLit (.int 40))) (dVarF A4)) (dConsR (dLit (.int 3)) (dNil))))) (dLit (.int 0))) trB) (dVarF A4))) (dRetR (dIfR (dTestR (dOpR neR (dVarF A3) (dDisp (fun ds => ⟨.fr, .lst ds⟩) (dNil))) trB) (dCBR tupleD (dConsR (dVarF A3) (dNil))) (dDisp (fun ds => ⟨.fz, .tup ds⟩) (dConsR (dCallR d_u_law_pick (dConsR (dVarF A0) (dConsR (dOpR addR (dVarF A1) (dLit (.int 70))) (dConsR (dVarF A2) (dNil))))) (dNil))))))
def d_u_law_rhythm : List D → Out RV := runD 5 b_u_law_rhythm
theorem sc_u_law_rhythm : FnScope nn_u_law_rhythm [("script" : Str), ("at" : Str), ("ring" : Str)] (defScope s_u_law_rhythm) := ⟨by decide +kernel, by decide +kernel, by decide +kernel, by decide +kernel, rfl, by decide +kernel, by decide +kernel⟩
theorem bd_u_law_rhythm (T : Top mg base F cv f_law k_law f_u_law_told k_u_law_told) (f : Addr) (cdv : Value) (A : Around) (outer : List Env) (s : Shared) (H : Hp) (E : XK) (hr : Room 2 (A.deeper (envOfC ("_law_rhythm" : Str) (defScope s_u_law_rhythm) s.heap.objs.size f cdv))) (c : Ctx (cxOf (L2.CX P w) P w F.K mg base nn_u_law_rhythm ("_law_rhythm" : Str) (defScope s_u_law_rhythm) f cdv A outer s H E) F (fun cls d _ H => E cls d H)) (po : PassesOwn (model P w) (cxOf (L2.CX P w) P w F.K mg base nn_u_law_rhythm ("_law_rhythm" : Str) (defScope s_u_law_rhythm) f cdv A outer s H E).A (cxOf (L2.CX P w) P w F.K mg base nn_u_law_rhythm ("_law_rhythm" : Str) (defScope s_u_law_rhythm) f cdv A outer s H E).env (cxOf (L2.CX P w) P w F.K mg base nn_u_law_rhythm ("_law_rhythm" : Str) (defScope s_u_law_rhythm) f cdv A outer s H E).xe) :
    PSs (cxOf (L2.CX P w) P w F.K mg base nn_u_law_rhythm ("_law_rhythm" : Str) (defScope s_u_law_rhythm) f cdv A outer s H E) (defBody s_u_law_rhythm) (TSx F (fun cls d _ H => E cls d H) cv b_u_law_rhythm) :=
  zs_cons (z_if (y_cmp (c_eq c) (x_call c nm_u_law_pick (ok_u_law_pick T) hr (by omega) (g_u_law_rhythm_u_law_pick) (dLenR_cons (dLenR_cons (dLenR_cons (dLen_nil)))) (x_cons (x_var nm_script (vis_def v_u_law_rhythm_script)) (x_cons (x_var nm_at (vis_def v_u_law_rhythm_at)) (x_cons (x_int) (x_nil))))) (x_int))
    (zs_one (z_ret (x_ix c (x_call c nm_u_law_round (ok_u_law_round T) hr (by omega) (g_u_law_rhythm_u_law_round) (dLenR_cons (dLenR_cons (dLenR_cons (dLen_nil)))) (x_cons (x_var nm_script (vis_def v_u_law_rhythm_script)) (x_cons (x_add c (x_var nm_at (vis_def v_u_law_rhythm_at)) (x_int)) (x_cons (x_var nm_ring (vis_def v_u_law_rhythm_ring)) (x_nil))))) (x_int))))
    (zs_nil))
    (zs_cons (z_setLc c l_u_law_rhythm_made (by rfl) (own := [(("beat" : Str), 4)]) (i_rg1 (g_u_law_rhythm_range) T.n_range (x_cons (x_var nm_ring (vis_def v_u_law_rhythm_ring)) (x_nil))) (N0 := nn_u_law_rhythm) (sc0 := defScope s_u_law_rhythm) rfl rfl (by decide +kernel) rfl (by decide +kernel) (fun _ _ _ _ _ => g_one (c.blk).nd (loc_blk (by decide +kernel)) (fn_blk (by decide +kernel))) (fun _ _ _ _ _ => w_one (y_cmp (c_eq (c.blk)) (x_call (c.blk) nm_u_law_pick (ok_u_law_pick T) hr (by omega) (gl_blk (by decide +kernel)) (dLenR_cons (dLenR_cons (dLenR_cons (dLen_nil)))) (x_cons (x_var nm_script (vis_blk (by decide +kernel))) (x_cons (x_add (c.blk) (x_add (c.blk) (x_var nm_at (vis_blk (by decide +kernel))) (x_int)) (x_var nm_beat (vis_blk (by decide +kernel)))) (x_cons (x_int) (x_nil))))) (x_int))) (fun _ _ _ _ _ => x_var nm_beat (vis_blk (by decide +kernel))))
    (zs_one (z_ret (x_if (y_cmp (c_ne c) (x_var nm_made (vis_def v_u_law_rhythm_made)) (x_lst (x_nil))) (x_typ (b_tuple c) nm_tuple (g_u_law_rhythm_tuple) T.n_tuple (x_cons (x_var nm_made (vis_def v_u_law_rhythm_made)) (x_nil))) (x_tup (x_cons (x_call c nm_u_law_pick (ok_u_law_pick T) hr (by omega) (g_u_law_rhythm_u_law_pick) (dLenR_cons (dLenR_cons (dLenR_cons (dLen_nil)))) (x_cons (x_var nm_script (vis_def v_u_law_rhythm_script)) (x_cons (x_add c (x_var nm_at (vis_def v_u_law_rhythm_at)) (x_int)) (x_cons (x_var nm_ring (vis_def v_u_law_rhythm_ring)) (x_nil))))) (x_nil)))))))
theorem ok_u_law_rhythm (T : Top mg base F cv f_law k_law f_u_law_told k_u_law_told) : FnD P w mg base F cv 3 ("_law_rhythm" : Str) [("script" : Str), ("at" : Str), ("ring" : Str)] d_u_law_rhythm :=
  fnD (N := nn_u_law_rhythm) (k := 2) (body := b_u_law_rhythm) T.d_u_law_rhythm sc_u_law_rhythm (fun _ _ _ _ _ _ us hl => match us, hl with | [_, _, _], _ => rfl) (bd_u_law_rhythm T)
theorem v_u_law_struck_beat : locK ((defScope s_u_law_struck).names.lookup ("beat" : Str)) = true := by decide +kernel
theorem v_u_law_struck_entries : locK ((defScope s_u_law_struck).names.lookup ("entries" : Str)) = true := by decide +kernel
theorem g_u_law_struck_range : (defScope s_u_law_struck).names.lookup ("range" : Str) = some .globalImplicit := by decide +kernel
theorem v_u_law_struck_rhythm : locK ((defScope s_u_law_struck).names.lookup ("rhythm" : Str)) = true := by decide +kernel
theorem v_u_law_struck_ring : locK ((defScope s_u_law_struck).names.lookup ("ring" : Str)) = true := by decide +kernel
theorem v_u_law_struck_sums : locK ((defScope s_u_law_struck).names.lookup ("sums" : Str)) = true := by decide +kernel
abbrev nn_u_law_struck : List Str := [("ring" : Str), ("rhythm" : Str), ("entries" : Str), ("sums" : Str), ("beat" : Str), ("entry" : Str)]
def b_u_law_struck : DS :=
  dSeqR (dSetR true A3 (dDisp (fun ds => ⟨.fr, .lst ds⟩) (dNil))) (dSeqR (dForR (dIt (dVarF A1)) (.one A4) (dMutF A3 (dConsR (dLcR (dIt (dVarF A2)) (.one A5) [A5] (dYes) (dOpR modR (dOpR addR (dVarF A4) (dVarF A5)) (dVarF A0))) (dNil)) fExt)) (dRetR (dLcR (dRg rg1 (dConsR (dVarF A0) (dNil))) (.one A4) [A4] (dYes) (dCnt (dVarF A3) (dConsR (dVarF A4) (dNil))))))
def d_u_law_struck : List D → Out RV := runD 6 b_u_law_struck
theorem sc_u_law_struck : FnScope nn_u_law_struck [("ring" : Str), ("rhythm" : Str), ("entries" : Str)] (defScope s_u_law_struck) := ⟨by decide +kernel, by decide +kernel, by decide +kernel, by decide +kernel, rfl, by decide +kernel, by decide +kernel⟩
theorem bd_u_law_struck (T : Top mg base F cv f_law k_law f_u_law_told k_u_law_told) (f : Addr) (cdv : Value) (A : Around) (outer : List Env) (s : Shared) (H : Hp) (E : XK) (hr : Room 0 (A.deeper (envOfC ("_law_struck" : Str) (defScope s_u_law_struck) s.heap.objs.size f cdv))) (c : Ctx (cxOf (L2.CX P w) P w F.K mg base nn_u_law_struck ("_law_struck" : Str) (defScope s_u_law_struck) f cdv A outer s H E) F (fun cls d _ H => E cls d H)) (po : PassesOwn (model P w) (cxOf (L2.CX P w) P w F.K mg base nn_u_law_struck ("_law_struck" : Str) (defScope s_u_law_struck) f cdv A outer s H E).A (cxOf (L2.CX P w) P w F.K mg base nn_u_law_struck ("_law_struck" : Str) (defScope s_u_law_struck) f cdv A outer s H E).env (cxOf (L2.CX P w) P w F.K mg base nn_u_law_struck ("_law_struck" : Str) (defScope s_u_law_struck) f cdv A outer s H E).xe) :
    PSs (cxOf (L2.CX P w) P w F.K mg base nn_u_law_struck ("_law_struck" : Str) (defScope s_u_law_struck) f cdv A outer s H E) (defBody s_u_law_struck) (TSx F (fun cls d _ H => E cls d H) cv b_u_law_struck) :=
  zs_cons (z_set c (loc_def v_u_law_struck_sums) (.inl rfl) (x_lst (x_nil)))
    (zs_cons (z_for c po (i_val c (x_var nm_rhythm (vis_def v_u_law_struck_rhythm))) (g_one c.nd (loc_def v_u_law_struck_beat) (.inl rfl))
    (zs_one (z_extend c nm_sums (vis_def v_u_law_struck_sums) (x_cons (x_lc c (own := [(("entry" : Str), 5)]) (i_val c (x_var nm_entries (vis_def v_u_law_struck_entries))) (N0 := nn_u_law_struck) (sc0 := defScope s_u_law_struck) rfl rfl (by decide +kernel) rfl (by decide +kernel) (fun _ _ _ _ _ => g_one (c.blk).nd (loc_blk (by decide +kernel)) (fn_blk (by decide +kernel))) (fun _ _ _ _ _ => w_nil) (fun _ _ _ _ _ => x_mod (x_add (c.blk) (x_var nm_beat (vis_blk (by decide +kernel))) (x_var nm_entry (vis_blk (by decide +kernel)))) (x_var nm_ring (vis_blk (by decide +kernel))))) (x_nil)))))
    (zs_one (z_ret (x_lc c (own := [(("beat" : Str), 4)]) (i_rg1 (g_u_law_struck_range) T.n_range (x_cons (x_var nm_ring (vis_def v_u_law_struck_ring)) (x_nil))) (N0 := nn_u_law_struck) (sc0 := defScope s_u_law_struck) rfl rfl (by decide +kernel) rfl (by decide +kernel) (fun _ _ _ _ _ => g_one (c.blk).nd (loc_blk (by decide +kernel)) (fn_blk (by decide +kernel))) (fun _ _ _ _ _ => w_nil) (fun _ _ _ _ _ => x_count (c.blk).K (x_var nm_sums (vis_blk (by decide +kernel))) (x_cons (x_var nm_beat (vis_blk (by decide +kernel))) (x_nil)))))))
theorem ok_u_law_struck (T : Top mg base F cv f_law k_law f_u_law_told k_u_law_told) : FnD P w mg base F cv 1 ("_law_struck" : Str) [("ring" : Str), ("rhythm" : Str), ("entries" : Str)] d_u_law_struck :=
  fnD (N := nn_u_law_struck) (k := 0) (body := b_u_law_struck) T.d_u_law_struck sc_u_law_struck (fun _ _ _ _ _ _ us hl => match us, hl with | [_, _, _], _ => rfl) (bd_u_law_struck T)
theorem g_u_law_odd_u_law_pick : (defScope s_u_law_odd).names.lookup ("_law_pick" : Str) = some .globalImplicit := by decide +kernel
theorem v_u_law_odd_at : locK ((defScope s_u_law_odd).names.lookup ("at" : Str)) = true := by decide +kernel
theorem v_u_law_odd_made : locK ((defScope s_u_law_odd).names.lookup ("made" : Str)) = true := by decide +kernel
theorem v_u_law_odd_script : locK ((defScope s_u_law_odd).names.lookup ("script" : Str)) = true := by decide +kernel
abbrev nn_u_law_odd : List Str := [("script" : Str), ("at" : Str), ("made" : Str)]
def b_u_law_odd : DS :=
  dSeqR (dSetR false A2 (dDisp (fun ds => ⟨.fr, .lst ds⟩) (dConsR (dLit .non) (dConsR (dLit (.bl true)) (dConsR (dLit (.str ("" : Str))) (dConsR (dLit (.str ("A" : Str))) (dConsR (dLit (.str ("5" : Str))) (dConsR (dDisp (fun ds => ⟨.fr, .lst ds⟩) (dConsR (dLit (.int 1)) (dNil))) (dConsR (dDisp (fun ds => ⟨.fz, .tup ds⟩) (dConsR (dLit .non) (dNil))) (dConsR (dOpR subR (dNeg (dLit (.int 1))) (dCallR d_u_law_pick (dConsR (dVarF A0) (dConsR (dVarF A1) (dConsR (dLit (.int 9)) (dNil)))))) (dConsR (dLit (.str ("abcdefghi" : Str))) (dNil)))))))))))) (dRetR (dOpR addR (dVarF A2) (dDisp (fun ds => ⟨.fr, .lst ds⟩) (dConsR (dDisp (fun ds => ⟨.fr, .lst ds⟩) (dConsR (dDisp (fun ds => ⟨.fr, .lst ds⟩) (dConsR (dLit (.str ("a" : Str))) (dNil))) (dNil))) (dConsR (dOpR powD (dLit (.int 10)) (dLit (.int 9))) (dConsR (dDisp (fun ds => ⟨.fz, .tup ds⟩) (dConsR (dLit (.str ("a" : Str))) (dNil))) (dNil)))))))
def d_u_law_odd : List D → Out RV := runD 3 b_u_law_odd
theorem sc_u_law_odd : FnScope nn_u_law_odd [("script" : Str), ("at" : Str)] (defScope s_u_law_odd) := ⟨by decide +kernel, by decide +kernel, by decide +kernel, by decide +kernel, rfl, by decide +kernel, by decide +kernel⟩
theorem bd_u_law_odd (T : Top mg base F cv f_law k_law f_u_law_told k_u_law_told) (f : Addr) (cdv : Value) (A : Around) (outer : List Env) (s : Shared) (H : Hp) (E : XK) (hr : Room 1 (A.deeper (envOfC ("_law_odd" : Str) (defScope s_u_law_odd) s.heap.objs.size f cdv))) (c : Ctx (cxOf (L2.CX P w) P w F.K mg base nn_u_law_odd ("_law_odd" : Str) (defScope s_u_law_odd) f cdv A outer s H E) F (fun cls d _ H => E cls d H)) (po : PassesOwn (model P w) (cxOf (L2.CX P w) P w F.K mg base nn_u_law_odd ("_law_odd" : Str) (defScope s_u_law_odd) f cdv A outer s H E).A (cxOf (L2.CX P w) P w F.K mg base nn_u_law_odd ("_law_odd" : Str) (defScope s_u_law_odd) f cdv A outer s H E).env (cxOf (L2.CX P w) P w F.K mg base nn_u_law_odd ("_law_odd" : Str) (defScope s_u_law_odd) f cdv A outer s H E).xe) :
    PSs (cxOf (L2.CX P w) P w F.K mg base nn_u_law_odd ("_law_odd" : Str) (defScope s_u_law_odd) f cdv A outer s H E) (defBody s_u_law_odd) (TSx F (fun cls d _ H => E cls d H) cv b_u_law_odd) :=
  zs_cons (z_set c (loc_def v_u_law_odd_made) (.inl rfl) (x_lst (x_cons (x_none) (x_cons (x_bool) (x_cons (x_str) (x_cons (x_str) (x_cons (x_str) (x_cons (x_lst (x_cons (x_int) (x_nil))) (x_cons (x_tup (x_cons (x_none) (x_nil))) (x_cons (x_sub (x_neg (x_int)) (x_call c nm_u_law_pick (ok_u_law_pick T) hr (by omega) (g_u_law_odd_u_law_pick) (dLenR_cons (dLenR_cons (dLenR_cons (dLen_nil)))) (x_cons (x_var nm_script (vis_def v_u_law_odd_script)) (x_cons (x_var nm_at (vis_def v_u_law_odd_at)) (x_cons (x_int) (x_nil)))))) (x_cons (x_str) (x_nil))))))))))))
    (zs_one (z_ret (x_add c (x_var nm_made (vis_def v_u_law_odd_made)) (x_lst (x_cons (x_lst (x_cons (x_lst (x_cons (x_str) (x_nil))) (x_nil))) (x_cons (x_pow (x_int) (x_int)) (x_cons (x_tup (x_cons (x_str) (x_nil))) (x_nil))))))))
theorem ok_u_law_odd (T : Top mg base F cv f_law k_law f_u_law_told k_u_law_told) : FnD P w mg base F cv 2 ("_law_odd" : Str) [("script" : Str), ("at" : Str)] d_u_law_odd :=
  fnD (N := nn_u_law_odd) (k := 1) (body := b_u_law_odd) T.d_u_law_odd sc_u_law_odd (fun _ _ _ _ _ _ us hl => match us, hl with | [_, _], _ => rfl) (bd_u_law_odd T)
theorem g_u_law_class_NoBack : (defScope s_u_law_class).names.lookup ("NoBack" : Str) = some .globalImplicit := by decide +kernel
theorem g_u_law_class_NoEntries : (defScope s_u_law_class).names.lookup ("NoEntries" : Str) = some .globalImplicit := by decide +kernel
theorem g_u_law_class_NoFigure : (defScope s_u_law_class).names.lookup ("NoFigure" : Str) = some .globalImplicit := by decide +kernel
theorem g_u_law_class_NoName : (defScope s_u_law_class).names.lookup ("NoName" : Str) = some .globalImplicit := by decide +kernel
theorem g_u_law_class_NoNumber : (defScope s_u_law_class).names.lookup ("NoNumber" : Str) = some .globalImplicit := by decide +kernel
theorem g_u_law_class_NoParts : (defScope s_u_law_class).names.lookup ("NoParts" : Str) = some .globalImplicit := by decide +kernel
theorem g_u_law_class_NoRhythm : (defScope s_u_law_class).names.lookup ("NoRhythm" : Str) = some .globalImplicit := by decide +kernel
theorem g_u_law_class_NoRing : (defScope s_u_law_class).names.lookup ("NoRing" : Str) = some .globalImplicit := by decide +kernel
theorem g_u_law_class_NoState : (defScope s_u_law_class).names.lookup ("NoState" : Str) = some .globalImplicit := by decide +kernel
theorem g_u_law_class_NoText : (defScope s_u_law_class).names.lookup ("NoText" : Str) = some .globalImplicit := by decide +kernel
theorem g_u_law_class_NoVoice : (defScope s_u_law_class).names.lookup ("NoVoice" : Str) = some .globalImplicit := by decide +kernel
theorem g_u_law_class_NoVoices : (defScope s_u_law_class).names.lookup ("NoVoices" : Str) = some .globalImplicit := by decide +kernel
theorem g_u_law_class_NotWhole : (defScope s_u_law_class).names.lookup ("NotWhole" : Str) = some .globalImplicit := by decide +kernel
theorem g_u_law_class_Taken : (defScope s_u_law_class).names.lookup ("Taken" : Str) = some .globalImplicit := by decide +kernel
theorem g_u_law_class_TooGreat : (defScope s_u_law_class).names.lookup ("TooGreat" : Str) = some .globalImplicit := by decide +kernel
theorem g_u_law_class_ValueError : (defScope s_u_law_class).names.lookup ("ValueError" : Str) = some .globalImplicit := by decide +kernel
theorem v_u_law_class_e : locK ((defScope s_u_law_class).names.lookup ("e" : Str)) = true := by decide +kernel
theorem g_u_law_class_isinstance : (defScope s_u_law_class).names.lookup ("isinstance" : Str) = some .globalImplicit := by decide +kernel
theorem v_u_law_class_kinds : locK ((defScope s_u_law_class).names.lookup ("kinds" : Str)) = true := by decide +kernel
theorem v_u_law_class_some : locK ((defScope s_u_law_class).names.lookup ("some" : Str)) = true := by decide +kernel
abbrev nn_u_law_class : List Str := [("e" : Str), ("kinds" : Str), ("some" : Str)]
def b_u_law_class : DS :=
  dSeqR (dSetR true A1 (dDisp (fun ds => ⟨.fr, .lst ds⟩) (dConsR (dIsE A0 tab_NoRing) (dConsR (dIsE A0 tab_NoRhythm) (dConsR (dIsE A0 tab_NoEntries) (dNil)))))) (dSeqR (dMutF A1 (dConsR (dDisp (fun ds => ⟨.fr, .lst ds⟩) (dConsR (dIsE A0 tab_NoNumber) (dConsR (dIsE A0 tab_NotWhole) (dConsR (dIsE A0 tab_NoFigure) (dNil))))) (dNil)) fExt) (dSeqR (dMutF A1 (dConsR (dDisp (fun ds => ⟨.fr, .lst ds⟩) (dConsR (dIsE A0 tab_NoState) (dConsR (dIsE A0 tab_NoVoice) (dConsR (dIsE A0 tab_NoVoices) (dNil))))) (dNil)) fExt) (dSeqR (dMutF A1 (dConsR (dDisp (fun ds => ⟨.fr, .lst ds⟩) (dConsR (dIsE A0 tab_NoParts) (dConsR (dIsE A0 tab_NoName) (dConsR (dIsE A0 tab_Taken) (dNil))))) (dNil)) fExt) (dSeqR (dMutF A1 (dConsR (dDisp (fun ds => ⟨.fr, .lst ds⟩) (dConsR (dIsE A0 tab_NoBack) (dConsR (dIsE A0 tab_NoText) (dConsR (dIsE A0 tab_TooGreat) (dNil))))) (dNil)) fExt) (dSeqR (dIfSR (dOrR (dTestR (dOpR neR (dCnt (dVarF A1) (dConsR (dLit (.bl true)) (dNil))) (dLit (.int 1))) trB) (dNotR (dTestR (dIsE A0 tabV) trD))) (dRetR (dLit (.str ("wrong" : Str)))) (dNext)) (dSeqR (dSetR true A2 (dDisp (fun ds => ⟨.fr, .lst ds⟩) (dConsR (dLit (.str ("NoRing" : Str))) (dConsR (dLit (.str ("NoRhythm" : Str))) (dConsR (dLit (.str ("NoEntries" : Str))) (dConsR (dLit (.str ("NoNumber" : Str))) (dConsR (dLit (.str ("NotWhole" : Str))) (dConsR (dLit (.str ("NoFigure" : Str))) (dConsR (dLit (.str ("NoState" : Str))) (dNil)))))))))) (dSeqR (dMutF A2 (dConsR (dDisp (fun ds => ⟨.fr, .lst ds⟩) (dConsR (dLit (.str ("NoVoice" : Str))) (dConsR (dLit (.str ("NoVoices" : Str))) (dConsR (dLit (.str ("NoParts" : Str))) (dConsR (dLit (.str ("NoName" : Str))) (dConsR (dLit (.str ("Taken" : Str))) (dConsR (dLit (.str ("NoBack" : Str))) (dConsR (dLit (.str ("NoText" : Str))) (dNil))))))))) (dNil)) fExt) (dSeqR (dMutF A2 (dConsR (dDisp (fun ds => ⟨.fr, .lst ds⟩) (dConsR (dLit (.str ("TooGreat" : Str))) (dNil))) (dNil)) fExt) (dRetR (dOpR ixD (dVarF A2) (dIdx (dVarF A1) (dConsR (dLit (.bl true)) (dNil)))))))))))))
def d_u_law_class : Str → Out RV := runE 3 b_u_law_class
theorem sc_u_law_class : FnScope nn_u_law_class [("e" : Str)] (defScope s_u_law_class) := ⟨by decide +kernel, by decide +kernel, by decide +kernel, by decide +kernel, rfl, by decide +kernel, by decide +kernel⟩
theorem ok_u_law_class (T : Top mg base F cv f_law k_law f_u_law_told k_u_law_told) : FnE P w mg base F cv rdX 1 ("_law_class" : Str) [("e" : Str)] d_u_law_class :=
  fnE (N := nn_u_law_class) (k := 0) (body := b_u_law_class) T.d_u_law_class T.kx T.gx sc_u_law_class (by decide) (fun _ _ _ _ _ _ us hl => match us, hl with | [_], _ => rfl) (fun f cdv A outer s H E pE cE room hrE hzE hvE c => zs_cons (z_setS c.nd (loc_def v_u_law_class_kinds) (.inl rfl) (x_lst (x_cons (x_isWo (List.mem_singleton.mpr rfl) (vis_def v_u_law_class_e) nm_e (g_u_law_class_isinstance) T.n_isinstance nm_NoRing (g_u_law_class_NoRing) T.m_NoRing T.r_NoRing (T.rk cE hrE) hzE hvE (T.p_NoRing cE hrE)) (x_cons (x_isWo (List.mem_singleton.mpr rfl) (vis_def v_u_law_class_e) nm_e (g_u_law_class_isinstance) T.n_isinstance nm_NoRhythm (g_u_law_class_NoRhythm) T.m_NoRhythm T.r_NoRhythm (T.rk cE hrE) hzE hvE (T.p_NoRhythm cE hrE)) (x_cons (x_isWo (List.mem_singleton.mpr rfl) (vis_def v_u_law_class_e) nm_e (g_u_law_class_isinstance) T.n_isinstance nm_NoEntries (g_u_law_class_NoEntries) T.m_NoEntries T.r_NoEntries (T.rk cE hrE) hzE hvE (T.p_NoEntries cE hrE)) (x_nil))))))
    (zs_cons (z_extendS c nm_kinds (vis_def v_u_law_class_kinds) (x_cons (x_lst (x_cons (x_isWo (List.mem_singleton.mpr rfl) (vis_def v_u_law_class_e) nm_e (g_u_law_class_isinstance) T.n_isinstance nm_NoNumber (g_u_law_class_NoNumber) T.m_NoNumber T.r_NoNumber (T.rk cE hrE) hzE hvE (T.p_NoNumber cE hrE)) (x_cons (x_isWo (List.mem_singleton.mpr rfl) (vis_def v_u_law_class_e) nm_e (g_u_law_class_isinstance) T.n_isinstance nm_NotWhole (g_u_law_class_NotWhole) T.m_NotWhole T.r_NotWhole (T.rk cE hrE) hzE hvE (T.p_NotWhole cE hrE)) (x_cons (x_isWo (List.mem_singleton.mpr rfl) (vis_def v_u_law_class_e) nm_e (g_u_law_class_isinstance) T.n_isinstance nm_NoFigure (g_u_law_class_NoFigure) T.m_NoFigure T.r_NoFigure (T.rk cE hrE) hzE hvE (T.p_NoFigure cE hrE)) (x_nil))))) (x_nil)))
    (zs_cons (z_extendS c nm_kinds (vis_def v_u_law_class_kinds) (x_cons (x_lst (x_cons (x_isWo (List.mem_singleton.mpr rfl) (vis_def v_u_law_class_e) nm_e (g_u_law_class_isinstance) T.n_isinstance nm_NoState (g_u_law_class_NoState) T.m_NoState T.r_NoState (T.rk cE hrE) hzE hvE (T.p_NoState cE hrE)) (x_cons (x_isWo (List.mem_singleton.mpr rfl) (vis_def v_u_law_class_e) nm_e (g_u_law_class_isinstance) T.n_isinstance nm_NoVoice (g_u_law_class_NoVoice) T.m_NoVoice T.r_NoVoice (T.rk cE hrE) hzE hvE (T.p_NoVoice cE hrE)) (x_cons (x_isWo (List.mem_singleton.mpr rfl) (vis_def v_u_law_class_e) nm_e (g_u_law_class_isinstance) T.n_isinstance nm_NoVoices (g_u_law_class_NoVoices) T.m_NoVoices T.r_NoVoices (T.rk cE hrE) hzE hvE (T.p_NoVoices cE hrE)) (x_nil))))) (x_nil)))
    (zs_cons (z_extendS c nm_kinds (vis_def v_u_law_class_kinds) (x_cons (x_lst (x_cons (x_isWo (List.mem_singleton.mpr rfl) (vis_def v_u_law_class_e) nm_e (g_u_law_class_isinstance) T.n_isinstance nm_NoParts (g_u_law_class_NoParts) T.m_NoParts T.r_NoParts (T.rk cE hrE) hzE hvE (T.p_NoParts cE hrE)) (x_cons (x_isWo (List.mem_singleton.mpr rfl) (vis_def v_u_law_class_e) nm_e (g_u_law_class_isinstance) T.n_isinstance nm_NoName (g_u_law_class_NoName) T.m_NoName T.r_NoName (T.rk cE hrE) hzE hvE (T.p_NoName cE hrE)) (x_cons (x_isWo (List.mem_singleton.mpr rfl) (vis_def v_u_law_class_e) nm_e (g_u_law_class_isinstance) T.n_isinstance nm_Taken (g_u_law_class_Taken) T.m_Taken T.r_Taken (T.rk cE hrE) hzE hvE (T.p_Taken cE hrE)) (x_nil))))) (x_nil)))
    (zs_cons (z_extendS c nm_kinds (vis_def v_u_law_class_kinds) (x_cons (x_lst (x_cons (x_isWo (List.mem_singleton.mpr rfl) (vis_def v_u_law_class_e) nm_e (g_u_law_class_isinstance) T.n_isinstance nm_NoBack (g_u_law_class_NoBack) T.m_NoBack T.r_NoBack (T.rk cE hrE) hzE hvE (T.p_NoBack cE hrE)) (x_cons (x_isWo (List.mem_singleton.mpr rfl) (vis_def v_u_law_class_e) nm_e (g_u_law_class_isinstance) T.n_isinstance nm_NoText (g_u_law_class_NoText) T.m_NoText T.r_NoText (T.rk cE hrE) hzE hvE (T.p_NoText cE hrE)) (x_cons (x_isWo (List.mem_singleton.mpr rfl) (vis_def v_u_law_class_e) nm_e (g_u_law_class_isinstance) T.n_isinstance nm_TooGreat (g_u_law_class_TooGreat) T.m_TooGreat T.r_TooGreat (T.rk cE hrE) hzE hvE (T.p_TooGreat cE hrE)) (x_nil))))) (x_nil)))
    (zs_cons (z_if ((y_or (y_cmp (c_neS c) (x_count c.K (x_var nm_kinds (vis_def v_u_law_class_kinds)) (x_cons (x_bool) (x_nil))) (x_int)) (y_or1 (y_not (y_valS c (x_isWv (List.mem_singleton.mpr rfl) (vis_def v_u_law_class_e) nm_e (g_u_law_class_isinstance) T.n_isinstance (g_u_law_class_ValueError) T.n_ValueError (T.rk cE hrE) hzE hvE (T.pv cE hrE)))))).pt)
    (zs_one (z_ret (x_str)))
    (zs_nil))
    (zs_cons (z_setS c.nd (loc_def v_u_law_class_some) (.inl rfl) (x_lst (x_cons (x_str) (x_cons (x_str) (x_cons (x_str) (x_cons (x_str) (x_cons (x_str) (x_cons (x_str) (x_cons (x_str) (x_nil))))))))))
    (zs_cons (z_extendS c nm_some (vis_def v_u_law_class_some) (x_cons (x_lst (x_cons (x_str) (x_cons (x_str) (x_cons (x_str) (x_cons (x_str) (x_cons (x_str) (x_cons (x_str) (x_cons (x_str) (x_nil))))))))) (x_nil)))
    (zs_cons (z_extendS c nm_some (vis_def v_u_law_class_some) (x_cons (x_lst (x_cons (x_str) (x_nil))) (x_nil)))
    (zs_one (z_ret (x_ixS c (x_var nm_some (vis_def v_u_law_class_some)) (x_index c.K (x_var nm_kinds (vis_def v_u_law_class_kinds)) (x_cons (x_bool) (x_nil)))))))))))))))
theorem l_u_law_told_e : (defScope s_u_law_told).names.lookup ("e" : Str) = some .local := by decide +kernel
theorem g_u_law_told_RoundError : (defScope s_u_law_told).names.lookup ("RoundError" : Str) = some .globalImplicit := by decide +kernel
theorem g_u_law_told_u_law_class : (defScope s_u_law_told).names.lookup ("_law_class" : Str) = some .globalImplicit := by decide +kernel
theorem v_u_law_told_deed : locK ((defScope s_u_law_told).names.lookup ("deed" : Str)) = true := by decide +kernel
theorem v_u_law_told_e : locK ((defScope s_u_law_told).names.lookup ("e" : Str)) = true := by decide +kernel
abbrev nn_u_law_told : List Str := [("deed" : Str), ("e" : Str)]
def b_u_law_told : DS :=
  dRetR (dDisp (fun ds => ⟨.fz, .tup ds⟩) (dConsR (dLit (.str ("refused" : Str))) (dConsR (dCallE A1 d_u_law_class) (dNil))))
theorem sc_u_law_told : FnScope nn_u_law_told [("deed" : Str)] (defScope s_u_law_told) := ⟨by decide +kernel, by decide +kernel, by decide +kernel, by decide +kernel, rfl, by decide +kernel, by decide +kernel⟩
theorem bind_u_law_told : ∀ (kV doc pm : Value) (an : Option Addr) (cdv ct : Value) (us : List Value), us.length = ([("deed" : Str)] : List Str).length → bindArgs (PySem.W.fnOf ("_law_told" : Str) ("_law_told" : Str) (defArgs s_u_law_told) (defBody s_u_law_told) (defScope s_u_law_told) .none kV doc pm an cdv ct) ⟨us, []⟩ = pure (([("deed" : Str)] : List Str).zip us) := fun _ _ _ _ _ _ us hl => match us, hl with | [_], _ => rfl
theorem su_u_law_told (T : Top mg base F cv f_law k_law f_u_law_told k_u_law_told) {A : Around} {outer : List Env} {s : Shared} {H : Hp} {g : Addr} {cdv : Value} {ad : Addr} {oe : Obj} {c : Str} {pn : List (Addr × Obj)} (hr : Room (1 + 1) A) (hrE : rdX c = true) (hzE : Zc (cv c) none oe) (hvE : ∃ vs, oe.data = .fields vs) :
    PSs ((cxOf C8.CX0 P w F.K mg base nn_u_law_told ("_law_told" : Str) (defScope s_u_law_told) g cdv A outer s H C8.E0).nox.suite ad ((ad, oe) :: pn)) (hSuite (defBody s_u_law_told)) (TSx (F.ex ad c) Wb cv b_u_law_told) :=
  zs_one (z_ret (x_tup (x_cons (x_str) (x_cons (x_callE rfl (ok_u_law_class T) (roomT hr) List.mem_cons_self hrE hzE hvE (g_u_law_told_u_law_class) nm_u_law_class (vis_def v_u_law_told_e) nm_e) (x_nil)))))
theorem g_law_u_law_odd : (defScope s_law).names.lookup ("_law_odd" : Str) = some .globalImplicit := by decide +kernel
theorem g_law_u_law_pick : (defScope s_law).names.lookup ("_law_pick" : Str) = some .globalImplicit := by decide +kernel
theorem g_law_u_law_rhythm : (defScope s_law).names.lookup ("_law_rhythm" : Str) = some .globalImplicit := by decide +kernel
theorem g_law_u_law_ring : (defScope s_law).names.lookup ("_law_ring" : Str) = some .globalImplicit := by decide +kernel
theorem g_law_u_law_round : (defScope s_law).names.lookup ("_law_round" : Str) = some .globalImplicit := by decide +kernel
theorem g_law_u_law_struck : (defScope s_law).names.lookup ("_law_struck" : Str) = some .globalImplicit := by decide +kernel
theorem g_law_u_law_told : (defScope s_law).names.lookup ("_law_told" : Str) = some .globalImplicit := by decide +kernel
theorem v_law_beat : locK ((defScope s_law).names.lookup ("beat" : Str)) = true := by decide +kernel
theorem g_law_clash : (defScope s_law).names.lookup ("clash" : Str) = some .globalImplicit := by decide +kernel
theorem v_law_due : locK ((defScope s_law).names.lookup ("due" : Str)) = true := by decide +kernel
theorem v_law_entries : locK ((defScope s_law).names.lookup ("entries" : Str)) = true := by decide +kernel
theorem v_law_entry : locK ((defScope s_law).names.lookup ("entry" : Str)) = true := by decide +kernel
theorem v_law_found : locK ((defScope s_law).names.lookup ("found" : Str)) = true := by decide +kernel
theorem g_law_gap : (defScope s_law).names.lookup ("gap" : Str) = some .globalImplicit := by decide +kernel
theorem v_law_here : locK ((defScope s_law).names.lookup ("here" : Str)) = true := by decide +kernel
theorem v_law_is_same : locK ((defScope s_law).names.lookup ("is_same" : Str)) = true := by decide +kernel
theorem g_law_is_whole : (defScope s_law).names.lookup ("is_whole" : Str) = some .globalImplicit := by decide +kernel
theorem g_law_len : (defScope s_law).names.lookup ("len" : Str) = some .globalImplicit := by decide +kernel
theorem v_law_more : locK ((defScope s_law).names.lookup ("more" : Str)) = true := by decide +kernel
theorem v_law_other : locK ((defScope s_law).names.lookup ("other" : Str)) = true := by decide +kernel
theorem v_law_rhythm : locK ((defScope s_law).names.lookup ("rhythm" : Str)) = true := by decide +kernel
theorem v_law_ring : locK ((defScope s_law).names.lookup ("ring" : Str)) = true := by decide +kernel
theorem v_law_script : locK ((defScope s_law).names.lookup ("script" : Str)) = true := by decide +kernel
theorem g_law_struck : (defScope s_law).names.lookup ("struck" : Str) = some .globalImplicit := by decide +kernel
theorem g_law_sum : (defScope s_law).names.lookup ("sum" : Str) = some .globalImplicit := by decide +kernel
theorem v_law_thing : locK ((defScope s_law).names.lookup ("thing" : Str)) = true := by decide +kernel
theorem v_law_told : locK ((defScope s_law).names.lookup ("told" : Str)) = true := by decide +kernel
theorem g_law_tuple : (defScope s_law).names.lookup ("tuple" : Str) = some .globalImplicit := by decide +kernel
abbrev nn_law : List Str := [("script" : Str), ("ring" : Str), ("rhythm" : Str), ("entries" : Str), ("due" : Str), ("found" : Str), ("beat" : Str), ("entry" : Str), ("other" : Str), ("more" : Str), ("here" : Str), ("is_same" : Str), ("thing" : Str), ("told" : Str), ("word" : Str)]
def b_law : DS :=
  dSeqR (dSetR false A1 (dCallR d_u_law_ring (dConsR (dVarF A0) (dConsR (dLit (.int 0)) (dNil))))) (dSeqR (dAsgPF (.many [A2, A3]) (dCallR d_u_law_round (dConsR (dVarF A0) (dConsR (dLit (.int 10)) (dConsR (dVarF A1) (dNil)))))) (dSeqR (dIfSR (dTestR (dOpR eqR (dCallR d_u_law_pick (dConsR (dVarF A0) (dConsR (dLit (.int 1)) (dConsR (dLit (.int 2)) (dNil))))) (dLit (.int 0))) trB) (dSetR false A3 (dCallR d_u_law_rhythm (dConsR (dVarF A0) (dConsR (dLit (.int 60)) (dConsR (dVarF A1) (dNil)))))) (dNext)) (dSeqR (dSetR false A4 (dCallR d_u_law_struck (dConsR (dVarF A1) (dConsR (dVarF A2) (dConsR (dVarF A3) (dNil)))))) (dSeqR (dIfSR (dOrR (dTestR (dOpR neR (dCallR d_struck (dConsR (dVarF A1) (dConsR (dVarF A2) (dConsR (dVarF A3) (dNil))))) (dCBR tupleD (dConsR (dVarF A4) (dNil)))) trB) (dTestR (dOpR neR (dCallR d_is_whole (dConsR (dVarF A1) (dConsR (dVarF A2) (dConsR (dVarF A3) (dNil))))) (dOpR eqR (dVarF A4) (dOpR mulA (dDisp (fun ds => ⟨.fr, .lst ds⟩) (dConsR (dLit (.int 1)) (dNil))) (dVarF A1)))) trB)) (dRetR (dLit (.bl false))) (dNext)) (dSeqR (dSetR false A5 (dLit .non)) (dSeqR (dForR (dIt (dVarF A2)) (.one A6) (dForR (dIt (dVarF A3)) (.one A7) (dForR (dIt (dVarF A2)) (.one A8) (dForR (dIt (dVarF A3)) (.one A9) (dSeqR (dSetR false A10 (dDisp (fun ds => ⟨.fz, .tup ds⟩) (dConsR (dDisp (fun ds => ⟨.fz, .tup ds⟩) (dConsR (dVarF A6) (dConsR (dVarF A7) (dNil)))) (dConsR (dDisp (fun ds => ⟨.fz, .tup ds⟩) (dConsR (dVarF A8) (dConsR (dVarF A9) (dNil)))) (dNil))))) (dSeqR (dSetR false A11 (dAndV (dOpR eqR (dOpR modR (dOpR subR (dOpR subR (dOpR addR (dVarF A6) (dVarF A7)) (dVarF A8)) (dVarF A9)) (dVarF A1)) (dLit (.int 0))) (dOpR ltV (dOpR ixD (dVarF A10) (dLit (.int 0))) (dOpR ixD (dVarF A10) (dLit (.int 1)))))) (dIfSR (dAndR (dTestR (dVarF A11) trD) (dOrR (dTestR (dOpR (isD false) (dVarF A5) (dLit .non)) trB) (dTestR (dOpR ltV (dVarF A10) (dVarF A5)) trB))) (dSetR false A5 (dVarF A10)) (dNext)))))))) (dSeqR (dIfSR (dOrR (dTestR (dOpR neR (dCallR d_clash (dConsR (dVarF A1) (dConsR (dVarF A2) (dConsR (dVarF A3) (dNil))))) (dVarF A5)) trB) (dTestR (dOpR neR (dCallR d_gap (dConsR (dVarF A1) (dConsR (dVarF A2) (dConsR (dVarF A3) (dNil))))) (dIfR (dTestR (dOpR (inD false) (dLit (.int 0)) (dVarF A4)) trB) (dIdx (dVarF A4) (dConsR (dLit (.int 0)) (dNil))) (dLit .non))) trB)) (dRetR (dLit (.bl false))) (dNext)) (dSeqR (dIfSR (dTestR (dOpR neR (dCallR d_is_whole (dConsR (dVarF A1) (dConsR (dVarF A2) (dConsR (dVarF A3) (dNil))))) (dAndV (dOpR (isD false) (dVarF A5) (dLit .non)) (dOpR (inD true) (dLit (.int 0)) (dVarF A4)))) trB) (dRetR (dLit (.bl false))) (dNext)) (dSeqR (dIfSR (dOrR (dTestR (dOpR neR (dCallR d_struck (dConsR (dVarF A1) (dConsR (dVarF A3) (dConsR (dVarF A2) (dNil))))) (dCBR tupleD (dConsR (dVarF A4) (dNil)))) trB) (dTestR (dOpR neR (dCBR sumV (dConsR (dVarF A4) (dNil))) (dOpR mulA (dCBR lenD (dConsR (dVarF A2) (dNil))) (dCBR lenD (dConsR (dVarF A3) (dNil))))) trB)) (dRetR (dLit (.bl false))) (dNext)) (dSeqR (dForR (dIt (dCallR d_u_law_odd (dConsR (dVarF A0) (dConsR (dLit (.int 200)) (dNil))))) (.one A12) (dSeqR (dSetR true A13 (dDisp (fun ds => ⟨.fr, .lst ds⟩) (dConsR (dTold rdX (dCallR d_struck (dConsR (dVarF A1) (dConsR (dVarF A2) (dConsR (dVarF A12) (dNil))))) (suiteE b_u_law_told)) (dNil)))) (dSeqR (dMutF A13 (dConsR (dTold rdX (dCallR d_is_whole (dConsR (dVarF A1) (dConsR (dVarF A12) (dConsR (dVarF A12) (dNil))))) (suiteE b_u_law_told)) (dNil)) fApp) (dSeqR (dMutF A13 (dConsR (dTold rdX (dCallR d_clash (dConsR (dVarF A12) (dConsR (dVarF A12) (dConsR (dVarF A12) (dNil))))) (suiteE b_u_law_told)) (dNil)) fApp) (dSeqR (dMutF A13 (dConsR (dTold rdX (dCallR d_gap (dConsR (dVarF A1) (dConsR (dVarF A2) (dConsR (dVarF A12) (dNil))))) (suiteE b_u_law_told)) (dNil)) fApp) (dIfSR (dTestR (dOpR neR (dVarF A13) (dLcR (dIt (dDisp (fun ds => ⟨.fz, .tup ds⟩) (dConsR (dLit (.str ("NoEntries" : Str))) (dConsR (dLit (.str ("NoRhythm" : Str))) (dConsR (dLit (.str ("NoRing" : Str))) (dConsR (dLit (.str ("NoEntries" : Str))) (dNil))))))) (.one A14) [A14] (dYes) (dDisp (fun ds => ⟨.fz, .tup ds⟩) (dConsR (dLit (.str ("refused" : Str))) (dConsR (dVarF A14) (dNil)))))) trB) (dRetR (dLit (.bl false))) (dNext))))))) (dRetR (dLit (.bl true)))))))))))))
def d_law : List D → Out RV := runD 15 b_law
theorem sc_law : FnScope nn_law [("script" : Str)] (defScope s_law) := ⟨by decide +kernel, by decide +kernel, by decide +kernel, by decide +kernel, rfl, by decide +kernel, by decide +kernel⟩
theorem bd_law (T : Top mg base F cv f_law k_law f_u_law_told k_u_law_told) (A : Around) (outer : List Env) (s : Shared) (H : Hp) (E : XK) (hr : Room 7 (A.deeper (envOfC ("law" : Str) (defScope s_law) s.heap.objs.size f_law k_law))) (c : Ctx (cxOf (L2.CX P w) P w F.K mg base nn_law ("law" : Str) (defScope s_law) f_law k_law A outer s H E) F (fun cls d _ H => E cls d H)) (po : PassesOwn (model P w) (cxOf (L2.CX P w) P w F.K mg base nn_law ("law" : Str) (defScope s_law) f_law k_law A outer s H E).A (cxOf (L2.CX P w) P w F.K mg base nn_law ("law" : Str) (defScope s_law) f_law k_law A outer s H E).env (cxOf (L2.CX P w) P w F.K mg base nn_law ("law" : Str) (defScope s_law) f_law k_law A outer s H E).xe) :
    PSs (cxOf (L2.CX P w) P w F.K mg base nn_law ("law" : Str) (defScope s_law) f_law k_law A outer s H E) (defBody s_law) (TSx F (fun cls d _ H => E cls d H) cv b_law) :=
  zs_cons (z_set c (loc_def v_law_ring) (.inl rfl) (x_call c nm_u_law_ring (ok_u_law_ring T) hr (by omega) (g_law_u_law_ring) (dLenR_cons (dLenR_cons (dLen_nil))) (x_cons (x_var nm_script (vis_def v_law_script)) (x_cons (x_int) (x_nil)))))
    (zs_cons (z_asgP (x_call c nm_u_law_round (ok_u_law_round T) hr (by omega) (g_law_u_law_round) (dLenR_cons (dLenR_cons (dLenR_cons (dLen_nil)))) (x_cons (x_var nm_script (vis_def v_law_script)) (x_cons (x_int) (x_cons (x_var nm_ring (vis_def v_law_ring)) (x_nil))))) (g_many c (g_cons c.nd (loc_def v_law_rhythm) (.inl rfl) (g_cons c.nd (loc_def v_law_entries) (.inl rfl) (g_nil)))))
    (zs_cons (z_if (y_cmp (c_eq c) (x_call c nm_u_law_pick (ok_u_law_pick T) hr (by omega) (g_law_u_law_pick) (dLenR_cons (dLenR_cons (dLenR_cons (dLen_nil)))) (x_cons (x_var nm_script (vis_def v_law_script)) (x_cons (x_int) (x_cons (x_int) (x_nil))))) (x_int))
    (zs_one (z_set c (loc_def v_law_entries) (.inl rfl) (x_call c nm_u_law_rhythm (ok_u_law_rhythm T) hr (by omega) (g_law_u_law_rhythm) (dLenR_cons (dLenR_cons (dLenR_cons (dLen_nil)))) (x_cons (x_var nm_script (vis_def v_law_script)) (x_cons (x_int) (x_cons (x_var nm_ring (vis_def v_law_ring)) (x_nil)))))))
    (zs_nil))
    (zs_cons (z_set c (loc_def v_law_due) (.inl rfl) (x_call c nm_u_law_struck (ok_u_law_struck T) hr (by omega) (g_law_u_law_struck) (dLenR_cons (dLenR_cons (dLenR_cons (dLen_nil)))) (x_cons (x_var nm_ring (vis_def v_law_ring)) (x_cons (x_var nm_rhythm (vis_def v_law_rhythm)) (x_cons (x_var nm_entries (vis_def v_law_entries)) (x_nil))))))
    (zs_cons (z_if ((y_or (y_cmp (c_ne c) (x_call c nm_struck (ok_struck T) hr (by omega) (g_law_struck) (dLenR_cons (dLenR_cons (dLenR_cons (dLen_nil)))) (x_cons (x_var nm_ring (vis_def v_law_ring)) (x_cons (x_var nm_rhythm (vis_def v_law_rhythm)) (x_cons (x_var nm_entries (vis_def v_law_entries)) (x_nil))))) (x_typ (b_tuple c) nm_tuple (g_law_tuple) T.n_tuple (x_cons (x_var nm_due (vis_def v_law_due)) (x_nil)))) (y_or1 (y_cmp (c_ne c) (x_call c nm_is_whole (ok_is_whole T) hr (by omega) (g_law_is_whole) (dLenR_cons (dLenR_cons (dLenR_cons (dLen_nil)))) (x_cons (x_var nm_ring (vis_def v_law_ring)) (x_cons (x_var nm_rhythm (vis_def v_law_rhythm)) (x_cons (x_var nm_entries (vis_def v_law_entries)) (x_nil))))) (x_cmp (c_eq c) (x_var nm_due (vis_def v_law_due)) (x_mul c (x_lst (x_cons (x_int) (x_nil))) (x_var nm_ring (vis_def v_law_ring))))))).pt)
    (zs_one (z_ret (x_bool)))
    (zs_nil))
    (zs_cons (z_set c (loc_def v_law_found) (.inl rfl) (x_none))
    (zs_cons (z_for c po (i_val c (x_var nm_rhythm (vis_def v_law_rhythm))) (g_one c.nd (loc_def v_law_beat) (.inl rfl))
    (zs_one (z_for c po (i_val c (x_var nm_entries (vis_def v_law_entries))) (g_one c.nd (loc_def v_law_entry) (.inl rfl))
    (zs_one (z_for c po (i_val c (x_var nm_rhythm (vis_def v_law_rhythm))) (g_one c.nd (loc_def v_law_other) (.inl rfl))
    (zs_one (z_for c po (i_val c (x_var nm_entries (vis_def v_law_entries))) (g_one c.nd (loc_def v_law_more) (.inl rfl))
    (zs_cons (z_set c (loc_def v_law_here) (.inl rfl) (x_tup (x_cons (x_tup (x_cons (x_var nm_beat (vis_def v_law_beat)) (x_cons (x_var nm_entry (vis_def v_law_entry)) (x_nil)))) (x_cons (x_tup (x_cons (x_var nm_other (vis_def v_law_other)) (x_cons (x_var nm_more (vis_def v_law_more)) (x_nil)))) (x_nil)))))
    (zs_cons (z_set c (loc_def v_law_is_same) (.inl rfl) (x_andV c (x_cmp (c_eq c) (x_mod (x_sub (x_sub (x_add c (x_var nm_beat (vis_def v_law_beat)) (x_var nm_entry (vis_def v_law_entry))) (x_var nm_other (vis_def v_law_other))) (x_var nm_more (vis_def v_law_more))) (x_var nm_ring (vis_def v_law_ring))) (x_int)) (x_one (x_cmp (c_ltV c) (x_ix c (x_var nm_here (vis_def v_law_here)) (x_int)) (x_ix c (x_var nm_here (vis_def v_law_here)) (x_int))))))
    (zs_one (z_if ((y_and (y_val c (x_var nm_is_same (vis_def v_law_is_same))) (y_and1 ((y_or (y_cmp (c_is c) (x_var nm_found (vis_def v_law_found)) (x_none)) (y_or1 (y_cmp (c_ltV c) (x_var nm_here (vis_def v_law_here)) (x_var nm_found (vis_def v_law_found))))).pt))).pt)
    (zs_one (z_set c (loc_def v_law_found) (.inl rfl) (x_var nm_here (vis_def v_law_here))))
    (zs_nil))))))))))))
    (zs_cons (z_if ((y_or (y_cmp (c_ne c) (x_call c nm_clash (ok_clash T) hr (by omega) (g_law_clash) (dLenR_cons (dLenR_cons (dLenR_cons (dLen_nil)))) (x_cons (x_var nm_ring (vis_def v_law_ring)) (x_cons (x_var nm_rhythm (vis_def v_law_rhythm)) (x_cons (x_var nm_entries (vis_def v_law_entries)) (x_nil))))) (x_var nm_found (vis_def v_law_found))) (y_or1 (y_cmp (c_ne c) (x_call c nm_gap (ok_gap T) hr (by omega) (g_law_gap) (dLenR_cons (dLenR_cons (dLenR_cons (dLen_nil)))) (x_cons (x_var nm_ring (vis_def v_law_ring)) (x_cons (x_var nm_rhythm (vis_def v_law_rhythm)) (x_cons (x_var nm_entries (vis_def v_law_entries)) (x_nil))))) (x_if (y_cmp (c_in c) (x_int) (x_var nm_due (vis_def v_law_due))) (x_index c.K (x_var nm_due (vis_def v_law_due)) (x_cons (x_int) (x_nil))) (x_none))))).pt)
    (zs_one (z_ret (x_bool)))
    (zs_nil))
    (zs_cons (z_if (y_cmp (c_ne c) (x_call c nm_is_whole (ok_is_whole T) hr (by omega) (g_law_is_whole) (dLenR_cons (dLenR_cons (dLenR_cons (dLen_nil)))) (x_cons (x_var nm_ring (vis_def v_law_ring)) (x_cons (x_var nm_rhythm (vis_def v_law_rhythm)) (x_cons (x_var nm_entries (vis_def v_law_entries)) (x_nil))))) (x_andV c (x_cmp (c_is c) (x_var nm_found (vis_def v_law_found)) (x_none)) (x_one (x_cmp (c_notin c) (x_int) (x_var nm_due (vis_def v_law_due))))))
    (zs_one (z_ret (x_bool)))
    (zs_nil))
    (zs_cons (z_if ((y_or (y_cmp (c_ne c) (x_call c nm_struck (ok_struck T) hr (by omega) (g_law_struck) (dLenR_cons (dLenR_cons (dLenR_cons (dLen_nil)))) (x_cons (x_var nm_ring (vis_def v_law_ring)) (x_cons (x_var nm_entries (vis_def v_law_entries)) (x_cons (x_var nm_rhythm (vis_def v_law_rhythm)) (x_nil))))) (x_typ (b_tuple c) nm_tuple (g_law_tuple) T.n_tuple (x_cons (x_var nm_due (vis_def v_law_due)) (x_nil)))) (y_or1 (y_cmp (c_ne c) (x_blt (b_sumV c) nm_sum (g_law_sum) T.n_sum (x_cons (x_var nm_due (vis_def v_law_due)) (x_nil))) (x_mul c (x_blt (b_len c) nm_len (g_law_len) T.n_len (x_cons (x_var nm_rhythm (vis_def v_law_rhythm)) (x_nil))) (x_blt (b_len c) nm_len (g_law_len) T.n_len (x_cons (x_var nm_entries (vis_def v_law_entries)) (x_nil))))))).pt)
    (zs_one (z_ret (x_bool)))
    (zs_nil))
    (zs_cons (z_for c po (i_val c (x_call c nm_u_law_odd (ok_u_law_odd T) hr (by omega) (g_law_u_law_odd) (dLenR_cons (dLenR_cons (dLen_nil))) (x_cons (x_var nm_script (vis_def v_law_script)) (x_cons (x_int) (x_nil))))) (g_one c.nd (loc_def v_law_thing) (.inl rfl))
    (zs_cons (z_set c (loc_def v_law_told) (.inl rfl) (x_lst (x_cons (x_told (m' := 5) c (g_law_u_law_told) nm_u_law_told T.t_u_law_told rfl sc_u_law_told (vis_def v_u_law_told_deed) l_u_law_told_e g_u_law_told_RoundError bind_u_law_told nm_deed nm_RoundError T.m_RoundError T.rx (fun s3 H3 ad oE cE pE hrE hzE hvE => su_u_law_told T (hr.mono (by omega)) hrE hzE hvE) (T.mk_law.maker rfl rfl rfl rfl) hr (by omega) (sc0 := defScope s_law) rfl (by decide +kernel) (by rfl) (fun _ _ _ _ _ => rfl) (fun A2 o2 s2 H2 E2 f2 c2 hr => have c := ctx_lam (A := A2) (outer := o2) (s := s2) (H := H2) (E := E2) (f := f2) (c' := c2) c hr; x_call c nm_struck (ok_struck T) hr (by omega) (gl_lam (by decide +kernel)) (dLenR_cons (dLenR_cons (dLenR_cons (dLen_nil)))) (x_cons (x_var nm_ring (vis_lam (by decide +kernel))) (x_cons (x_var nm_rhythm (vis_lam (by decide +kernel))) (x_cons (x_var nm_thing (vis_lam (by decide +kernel))) (x_nil)))))) (x_nil))))
    (zs_cons (z_append c nm_told (vis_def v_law_told) (x_cons (x_told (m' := 5) c (g_law_u_law_told) nm_u_law_told T.t_u_law_told rfl sc_u_law_told (vis_def v_u_law_told_deed) l_u_law_told_e g_u_law_told_RoundError bind_u_law_told nm_deed nm_RoundError T.m_RoundError T.rx (fun s3 H3 ad oE cE pE hrE hzE hvE => su_u_law_told T (hr.mono (by omega)) hrE hzE hvE) (T.mk_law.maker rfl rfl rfl rfl) hr (by omega) (sc0 := defScope s_law) rfl (by decide +kernel) (by rfl) (fun _ _ _ _ _ => rfl) (fun A2 o2 s2 H2 E2 f2 c2 hr => have c := ctx_lam (A := A2) (outer := o2) (s := s2) (H := H2) (E := E2) (f := f2) (c' := c2) c hr; x_call c nm_is_whole (ok_is_whole T) hr (by omega) (gl_lam (by decide +kernel)) (dLenR_cons (dLenR_cons (dLenR_cons (dLen_nil)))) (x_cons (x_var nm_ring (vis_lam (by decide +kernel))) (x_cons (x_var nm_thing (vis_lam (by decide +kernel))) (x_cons (x_var nm_thing (vis_lam (by decide +kernel))) (x_nil)))))) (x_nil)))
    (zs_cons (z_append c nm_told (vis_def v_law_told) (x_cons (x_told (m' := 5) c (g_law_u_law_told) nm_u_law_told T.t_u_law_told rfl sc_u_law_told (vis_def v_u_law_told_deed) l_u_law_told_e g_u_law_told_RoundError bind_u_law_told nm_deed nm_RoundError T.m_RoundError T.rx (fun s3 H3 ad oE cE pE hrE hzE hvE => su_u_law_told T (hr.mono (by omega)) hrE hzE hvE) (T.mk_law.maker rfl rfl rfl rfl) hr (by omega) (sc0 := defScope s_law) rfl (by decide +kernel) (by rfl) (fun _ _ _ _ _ => rfl) (fun A2 o2 s2 H2 E2 f2 c2 hr => have c := ctx_lam (A := A2) (outer := o2) (s := s2) (H := H2) (E := E2) (f := f2) (c' := c2) c hr; x_call c nm_clash (ok_clash T) hr (by omega) (gl_lam (by decide +kernel)) (dLenR_cons (dLenR_cons (dLenR_cons (dLen_nil)))) (x_cons (x_var nm_thing (vis_lam (by decide +kernel))) (x_cons (x_var nm_thing (vis_lam (by decide +kernel))) (x_cons (x_var nm_thing (vis_lam (by decide +kernel))) (x_nil)))))) (x_nil)))
    (zs_cons (z_append c nm_told (vis_def v_law_told) (x_cons (x_told (m' := 5) c (g_law_u_law_told) nm_u_law_told T.t_u_law_told rfl sc_u_law_told (vis_def v_u_law_told_deed) l_u_law_told_e g_u_law_told_RoundError bind_u_law_told nm_deed nm_RoundError T.m_RoundError T.rx (fun s3 H3 ad oE cE pE hrE hzE hvE => su_u_law_told T (hr.mono (by omega)) hrE hzE hvE) (T.mk_law.maker rfl rfl rfl rfl) hr (by omega) (sc0 := defScope s_law) rfl (by decide +kernel) (by rfl) (fun _ _ _ _ _ => rfl) (fun A2 o2 s2 H2 E2 f2 c2 hr => have c := ctx_lam (A := A2) (outer := o2) (s := s2) (H := H2) (E := E2) (f := f2) (c' := c2) c hr; x_call c nm_gap (ok_gap T) hr (by omega) (gl_lam (by decide +kernel)) (dLenR_cons (dLenR_cons (dLenR_cons (dLen_nil)))) (x_cons (x_var nm_ring (vis_lam (by decide +kernel))) (x_cons (x_var nm_rhythm (vis_lam (by decide +kernel))) (x_cons (x_var nm_thing (vis_lam (by decide +kernel))) (x_nil)))))) (x_nil)))
    (zs_one (z_if (y_cmp (c_ne c) (x_var nm_told (vis_def v_law_told)) (x_lc c (own := [(("word" : Str), 14)]) (i_val c (x_tup (x_cons (x_str) (x_cons (x_str) (x_cons (x_str) (x_cons (x_str) (x_nil))))))) (N0 := nn_law) (sc0 := defScope s_law) rfl rfl (by decide +kernel) rfl (by decide +kernel) (fun _ _ _ _ _ => g_one (c.blk).nd (loc_blk (by decide +kernel)) (fn_blk (by decide +kernel))) (fun _ _ _ _ _ => w_nil) (fun _ _ _ _ _ => x_tup (x_cons (x_str) (x_cons (x_var nm_word (vis_blk (by decide +kernel))) (x_nil))))))
    (zs_one (z_ret (x_bool)))
    (zs_nil))))))))
    (zs_one (z_ret (x_bool)))))))))))))
theorem ok_law (T : Top mg base F cv f_law k_law f_u_law_told k_u_law_told) : FnD P w mg base F cv 8 ("law" : Str) [("script" : Str)] d_law :=
  fnDc (N := nn_law) (k := 7) (body := b_law) T.d_law T.kx T.gx sc_law (fun _ _ _ _ _ _ us hl => match us, hl with | [_], _ => rfl) (bd_law T)
end
theorem all_mk {w : World} {K : PySem.W.Frag} {h : Heap} {mg : Str → Option Value} {fa : Addr} {f_law c_law p_law : Addr} {f_u_law_told : Addr} {k_u_law_told : Value} (plain : ∀ ns : List Int, ns.length ≤ 63 → ∃ q, d_law [.scr ns] = .ok ⟨q, .bl true⟩) (X : K.In h) (G : h.Ns mainGlobals mg) (hfa : mg "law" = some (.ref fa))
    (x_is_number : DefAt K ("is_number" : Str) s_is_number)
    (x_is_rising : DefAt K ("is_rising" : Str) s_is_rising)
    (x_look_ring : DefAt K ("look_ring" : Str) s_look_ring)
    (x_is_rhythm_of : DefAt K ("is_rhythm_of" : Str) s_is_rhythm_of)
    (x_look_rhythm : DefAt K ("look_rhythm" : Str) s_look_rhythm)
    (x_look_entries : DefAt K ("look_entries" : Str) s_look_entries)
    (x_plain_struck : DefAt K ("plain_struck" : Str) s_plain_struck)
    (x_struck : DefAt K ("struck" : Str) s_struck)
    (x_is_plain_whole : DefAt K ("is_plain_whole" : Str) s_is_plain_whole)
    (x_is_whole : DefAt K ("is_whole" : Str) s_is_whole)
    (x_clash : DefAt K ("clash" : Str) s_clash)
    (x_gap : DefAt K ("gap" : Str) s_gap)
    (x_u_law_pick : DefAt K ("_law_pick" : Str) s_u_law_pick)
    (x_u_law_ring : DefAt K ("_law_ring" : Str) s_u_law_ring)
    (x_u_law_drawn_out : DefAt K ("_law_drawn_out" : Str) s_u_law_drawn_out)
    (x_u_law_common : DefAt K ("_law_common" : Str) s_u_law_common)
    (x_u_law_beats : DefAt K ("_law_beats" : Str) s_u_law_beats)
    (x_u_law_round : DefAt K ("_law_round" : Str) s_u_law_round)
    (x_u_law_rhythm : DefAt K ("_law_rhythm" : Str) s_u_law_rhythm)
    (x_u_law_struck : DefAt K ("_law_struck" : Str) s_u_law_struck)
    (x_u_law_odd : DefAt K ("_law_odd" : Str) s_u_law_odd)
    (x_u_law_class : DefAt K ("_law_class" : Str) s_u_law_class)
    (x_u_law_told : DefC K ("_law_told" : Str) s_u_law_told f_u_law_told k_u_law_told)
    (x_law : DefC K ("law" : Str) s_law f_law (.ref c_law))
    (z_ValueError : PySem.W.nsIn K mainGlobals ("ValueError" : Str) = some none)
    (z_all : PySem.W.nsIn K mainGlobals ("all" : Str) = some none)
    (z_bool : PySem.W.nsIn K mainGlobals ("bool" : Str) = some none)
    (z_enumerate : PySem.W.nsIn K mainGlobals ("enumerate" : Str) = some none)
    (z_int : PySem.W.nsIn K mainGlobals ("int" : Str) = some none)
    (z_isinstance : PySem.W.nsIn K mainGlobals ("isinstance" : Str) = some none)
    (z_len : PySem.W.nsIn K mainGlobals ("len" : Str) = some none)
    (z_max : PySem.W.nsIn K mainGlobals ("max" : Str) = some none)
    (z_range : PySem.W.nsIn K mainGlobals ("range" : Str) = some none)
    (z_set : PySem.W.nsIn K mainGlobals ("set" : Str) = some none)
    (z_sorted : PySem.W.nsIn K mainGlobals ("sorted" : Str) = some none)
    (z_sum : PySem.W.nsIn K mainGlobals ("sum" : Str) = some none)
    (z_tuple : PySem.W.nsIn K mainGlobals ("tuple" : Str) = some none)
    (z_zip : PySem.W.nsIn K mainGlobals ("zip" : Str) = some none)
    (j_MOST_BEATS : IntIn K ("MOST_BEATS" : Str) 36)
    (y_NoEntries : ExcAt K ("NoEntries" : Str))
    (y_NoRhythm : ExcAt K ("NoRhythm" : Str))
    (y_NoRing : ExcAt K ("NoRing" : Str))
    (w_NoBack : OwnC K ("NoBack" : Str))
    (w_NoEntries : OwnC K ("NoEntries" : Str))
    (w_NoFigure : OwnC K ("NoFigure" : Str))
    (w_NoName : OwnC K ("NoName" : Str))
    (w_NoNumber : OwnC K ("NoNumber" : Str))
    (w_NoParts : OwnC K ("NoParts" : Str))
    (w_NoRhythm : OwnC K ("NoRhythm" : Str))
    (w_NoRing : OwnC K ("NoRing" : Str))
    (w_NoState : OwnC K ("NoState" : Str))
    (w_NoText : OwnC K ("NoText" : Str))
    (w_NoVoice : OwnC K ("NoVoice" : Str))
    (w_NoVoices : OwnC K ("NoVoices" : Str))
    (w_NotWhole : OwnC K ("NotWhole" : Str))
    (w_RoundError : OwnC K ("RoundError" : Str))
    (w_Taken : OwnC K ("Taken" : Str))
    (w_TooGreat : OwnC K ("TooGreat" : Str))
    (u_NoEntries : PairAt K ("NoEntries" : Str) ("RoundError" : Str) true)
    (k_NoEntries : ExcCAt K ("NoEntries" : Str))
    (u_NoRhythm : PairAt K ("NoRhythm" : Str) ("RoundError" : Str) true)
    (k_NoRhythm : ExcCAt K ("NoRhythm" : Str))
    (u_NoRing : PairAt K ("NoRing" : Str) ("RoundError" : Str) true)
    (k_NoRing : ExcCAt K ("NoRing" : Str))
    (q_NoEntries_NoBack : PairAt K ("NoEntries" : Str) ("NoBack" : Str) false)
    (q_NoRhythm_NoBack : PairAt K ("NoRhythm" : Str) ("NoBack" : Str) false)
    (q_NoRing_NoBack : PairAt K ("NoRing" : Str) ("NoBack" : Str) false)
    (q_NoEntries_NoEntries : PairAt K ("NoEntries" : Str) ("NoEntries" : Str) true)
    (q_NoRhythm_NoEntries : PairAt K ("NoRhythm" : Str) ("NoEntries" : Str) false)
    (q_NoRing_NoEntries : PairAt K ("NoRing" : Str) ("NoEntries" : Str) false)
    (q_NoEntries_NoFigure : PairAt K ("NoEntries" : Str) ("NoFigure" : Str) false)
    (q_NoRhythm_NoFigure : PairAt K ("NoRhythm" : Str) ("NoFigure" : Str) false)
    (q_NoRing_NoFigure : PairAt K ("NoRing" : Str) ("NoFigure" : Str) false)
    (q_NoEntries_NoName : PairAt K ("NoEntries" : Str) ("NoName" : Str) false)
    (q_NoRhythm_NoName : PairAt K ("NoRhythm" : Str) ("NoName" : Str) false)
    (q_NoRing_NoName : PairAt K ("NoRing" : Str) ("NoName" : Str) false)
    (q_NoEntries_NoNumber : PairAt K ("NoEntries" : Str) ("NoNumber" : Str) false)
    (q_NoRhythm_NoNumber : PairAt K ("NoRhythm" : Str) ("NoNumber" : Str) false)
    (q_NoRing_NoNumber : PairAt K ("NoRing" : Str) ("NoNumber" : Str) false)
    (q_NoEntries_NoParts : PairAt K ("NoEntries" : Str) ("NoParts" : Str) false)
    (q_NoRhythm_NoParts : PairAt K ("NoRhythm" : Str) ("NoParts" : Str) false)
    (q_NoRing_NoParts : PairAt K ("NoRing" : Str) ("NoParts" : Str) false)
    (q_NoEntries_NoRhythm : PairAt K ("NoEntries" : Str) ("NoRhythm" : Str) false)
    (q_NoRhythm_NoRhythm : PairAt K ("NoRhythm" : Str) ("NoRhythm" : Str) true)
    (q_NoRing_NoRhythm : PairAt K ("NoRing" : Str) ("NoRhythm" : Str) false)
    (q_NoEntries_NoRing : PairAt K ("NoEntries" : Str) ("NoRing" : Str) false)
    (q_NoRhythm_NoRing : PairAt K ("NoRhythm" : Str) ("NoRing" : Str) false)
    (q_NoRing_NoRing : PairAt K ("NoRing" : Str) ("NoRing" : Str) true)
    (q_NoEntries_NoState : PairAt K ("NoEntries" : Str) ("NoState" : Str) false)
    (q_NoRhythm_NoState : PairAt K ("NoRhythm" : Str) ("NoState" : Str) false)
    (q_NoRing_NoState : PairAt K ("NoRing" : Str) ("NoState" : Str) false)
    (q_NoEntries_NoText : PairAt K ("NoEntries" : Str) ("NoText" : Str) false)
    (q_NoRhythm_NoText : PairAt K ("NoRhythm" : Str) ("NoText" : Str) false)
    (q_NoRing_NoText : PairAt K ("NoRing" : Str) ("NoText" : Str) false)
    (q_NoEntries_NoVoice : PairAt K ("NoEntries" : Str) ("NoVoice" : Str) false)
    (q_NoRhythm_NoVoice : PairAt K ("NoRhythm" : Str) ("NoVoice" : Str) false)
    (q_NoRing_NoVoice : PairAt K ("NoRing" : Str) ("NoVoice" : Str) false)
    (q_NoEntries_NoVoices : PairAt K ("NoEntries" : Str) ("NoVoices" : Str) false)
    (q_NoRhythm_NoVoices : PairAt K ("NoRhythm" : Str) ("NoVoices" : Str) false)
    (q_NoRing_NoVoices : PairAt K ("NoRing" : Str) ("NoVoices" : Str) false)
    (q_NoEntries_NotWhole : PairAt K ("NoEntries" : Str) ("NotWhole" : Str) false)
    (q_NoRhythm_NotWhole : PairAt K ("NoRhythm" : Str) ("NotWhole" : Str) false)
    (q_NoRing_NotWhole : PairAt K ("NoRing" : Str) ("NotWhole" : Str) false)
    (q_NoEntries_Taken : PairAt K ("NoEntries" : Str) ("Taken" : Str) false)
    (q_NoRhythm_Taken : PairAt K ("NoRhythm" : Str) ("Taken" : Str) false)
    (q_NoRing_Taken : PairAt K ("NoRing" : Str) ("Taken" : Str) false)
    (q_NoEntries_TooGreat : PairAt K ("NoEntries" : Str) ("TooGreat" : Str) false)
    (q_NoRhythm_TooGreat : PairAt K ("NoRhythm" : Str) ("TooGreat" : Str) false)
    (q_NoRing_TooGreat : PairAt K ("NoRing" : Str) ("TooGreat" : Str) false)
    (v_NoEntries : ValAt K ("NoEntries" : Str))
    (v_NoRhythm : ValAt K ("NoRhythm" : Str))
    (v_NoRing : ValAt K ("NoRing" : Str))
    (hN : ([p_law] : List Addr).Nodup) (hT8 : ∀ P ∈ ([p_law] : List Addr), h.get? P = some (PySem.W.tabObj #[]))
    (n_law : K.lookup p_law = none) (h_law : PySem.W.codeHdIn K c_law p_law = true)
    : LamX.LawAtS PySem.Challenge.rw_wholerounds_k03_whole_struck w K (L2.CX PySem.Challenge.pw_wholerounds_k03_whole_struck w) 8 63 "script" mg fa h := by
  have hU_law : ∀ p ∈ (⟨K, [(p_law, ((("law" : Str) : Str) ++ ".<locals>." ++ "<lambda>"))], fun _ _ => False⟩ : Fm).T, p.1 = p_law → p.2 = ((("law" : Str) : Str) ++ ".<locals>." ++ "<lambda>") := by
    simp at hN ⊢
    try (intros; simp_all)
  have hT : ∀ p ∈ ([(c_law, p_law)] : List (Addr × Addr)), h.get? p.2 = some { cls := .none, data := .fields #[] } := fun p hp => hT8 p.2 (by simp at hp ⊢; first | (rcases hp with rfl; simp) | (rcases hp with rfl | rfl <;> simp) | (rcases hp with rfl | rfl | rfl <;> simp))
  have nT : ∀ p ∈ ([(c_law, p_law)] : List (Addr × Addr)), K.lookup p.2 = none := fun p hp => by
    simp at hp
    first | (rcases hp with rfl; assumption) | (rcases hp with rfl <;> assumption)
  have C : ∀ p ∈ ([(c_law, p_law)] : List (Addr × Addr)), PySem.W.codeHdIn K p.1 p.2 = true := fun p hp => by
    simp at hp
    first | (rcases hp with rfl; assumption) | (rcases hp with rfl <;> assumption)
  obtain ⟨oc, od, kV, doc, pm, an, ct, osl, h1, h2, h3, h4⟩ := id x_law
  have e := hfa.symm.trans (PySem.W.mg_of X G h1)
  cases e
  refine law_endT (l := PySem.Challenge.rw_wholerounds_k03_whole_struck) (F := ⟨K, [(p_law, ((("law" : Str) : Str) ++ ".<locals>." ++ "<lambda>"))], fun _ _ => False⟩) (cv := cvOf mg) (cs := [(c_law, p_law)]) (d := d_law) (fun p hp => ?_) hT nT (fun p hp => PySem.W.codeHd_of_K X (C p hp)) plain hfa (PySem.W.fnOf "law" "law" (defArgs s_law) (defBody s_law) (defScope s_law) .none kV doc pm an (.ref c_law) ct) (fun base KB GB TB => ?_) (fun s u => .of_eq rfl)
  · simp at hp ⊢
    first | (rcases hp with rfl; simp) | (rcases hp with rfl | rfl <;> simp) | (rcases hp with rfl | rfl | rfl <;> simp)
  · have T : Top mg base ⟨K, [(p_law, ((("law" : Str) : Str) ++ ".<locals>." ++ "<lambda>"))], fun _ _ => False⟩ (cvOf mg) fa (.ref c_law) f_u_law_told k_u_law_told :=
      { kx := KB,
        gx := GB,
        d_is_number := x_is_number.defIn X G,
        d_is_rising := x_is_rising.defIn X G,
        d_look_ring := x_look_ring.defIn X G,
        d_is_rhythm_of := x_is_rhythm_of.defIn X G,
        d_look_rhythm := x_look_rhythm.defIn X G,
        d_look_entries := x_look_entries.defIn X G,
        d_plain_struck := x_plain_struck.defIn X G,
        d_struck := x_struck.defIn X G,
        d_is_plain_whole := x_is_plain_whole.defIn X G,
        d_is_whole := x_is_whole.defIn X G,
        d_clash := x_clash.defIn X G,
        d_gap := x_gap.defIn X G,
        d_u_law_pick := x_u_law_pick.defIn X G,
        d_u_law_ring := x_u_law_ring.defIn X G,
        d_u_law_drawn_out := x_u_law_drawn_out.defIn X G,
        d_u_law_common := x_u_law_common.defIn X G,
        d_u_law_beats := x_u_law_beats.defIn X G,
        d_u_law_round := x_u_law_round.defIn X G,
        d_u_law_rhythm := x_u_law_rhythm.defIn X G,
        d_u_law_struck := x_u_law_struck.defIn X G,
        d_u_law_odd := x_u_law_odd.defIn X G,
        d_u_law_class := x_u_law_class,
        t_u_law_told := x_u_law_told.told X G,
        d_law := x_law,
        mk_law := ⟨c_law, p_law, rfl, TB (c_law, p_law) (by simp), by simp, hU_law⟩,
        n_ValueError := PySem.W.mg_none_of X G z_ValueError,
        n_all := PySem.W.mg_none_of X G z_all,
        n_bool := PySem.W.mg_none_of X G z_bool,
        n_enumerate := PySem.W.mg_none_of X G z_enumerate,
        n_int := PySem.W.mg_none_of X G z_int,
        n_isinstance := PySem.W.mg_none_of X G z_isinstance,
        n_len := PySem.W.mg_none_of X G z_len,
        n_max := PySem.W.mg_none_of X G z_max,
        n_range := PySem.W.mg_none_of X G z_range,
        n_set := PySem.W.mg_none_of X G z_set,
        n_sorted := PySem.W.mg_none_of X G z_sorted,
        n_sum := PySem.W.mg_none_of X G z_sum,
        n_tuple := PySem.W.mg_none_of X G z_tuple,
        n_zip := PySem.W.mg_none_of X G z_zip,
        i_MOST_BEATS := j_MOST_BEATS.intAt X G,
        e_NoEntries := y_NoEntries.excD X G,
        e_NoRhythm := y_NoRhythm.excD X G,
        e_NoRing := y_NoRing.excD X G,
        noX := fun _ _ h => h,
        m_NoBack := (w_NoBack.at X G).1,
        m_NoEntries := (w_NoEntries.at X G).1,
        m_NoFigure := (w_NoFigure.at X G).1,
        m_NoName := (w_NoName.at X G).1,
        m_NoNumber := (w_NoNumber.at X G).1,
        m_NoParts := (w_NoParts.at X G).1,
        m_NoRhythm := (w_NoRhythm.at X G).1,
        m_NoRing := (w_NoRing.at X G).1,
        m_NoState := (w_NoState.at X G).1,
        m_NoText := (w_NoText.at X G).1,
        m_NoVoice := (w_NoVoice.at X G).1,
        m_NoVoices := (w_NoVoices.at X G).1,
        m_NotWhole := (w_NotWhole.at X G).1,
        m_RoundError := (w_RoundError.at X G).1,
        m_Taken := (w_Taken.at X G).1,
        m_TooGreat := (w_TooGreat.at X G).1,
        rx := rd_all (u_NoEntries.sub w_RoundError X G) (u_NoRhythm.sub w_RoundError X G) (u_NoRing.sub w_RoundError X G),
        rk := rd_all (k_NoEntries.at X G) (k_NoRhythm.at X G) (k_NoRing.at X G),
        r_NoBack := (w_NoBack.at X G).2,
        p_NoBack := rd_all (tab_of (q := fun _ => True) (q_NoEntries_NoBack.at w_NoBack X G) (by decide +kernel)) (tab_of (q := fun _ => True) (q_NoRhythm_NoBack.at w_NoBack X G) (by decide +kernel)) (tab_of (q := fun _ => True) (q_NoRing_NoBack.at w_NoBack X G) (by decide +kernel)),
        r_NoEntries := (w_NoEntries.at X G).2,
        p_NoEntries := rd_all (tab_of (q := fun _ => True) (q_NoEntries_NoEntries.at w_NoEntries X G) (by decide +kernel)) (tab_of (q := fun _ => True) (q_NoRhythm_NoEntries.at w_NoEntries X G) (by decide +kernel)) (tab_of (q := fun _ => True) (q_NoRing_NoEntries.at w_NoEntries X G) (by decide +kernel)),
        r_NoFigure := (w_NoFigure.at X G).2,
        p_NoFigure := rd_all (tab_of (q := fun _ => True) (q_NoEntries_NoFigure.at w_NoFigure X G) (by decide +kernel)) (tab_of (q := fun _ => True) (q_NoRhythm_NoFigure.at w_NoFigure X G) (by decide +kernel)) (tab_of (q := fun _ => True) (q_NoRing_NoFigure.at w_NoFigure X G) (by decide +kernel)),
        r_NoName := (w_NoName.at X G).2,
        p_NoName := rd_all (tab_of (q := fun _ => True) (q_NoEntries_NoName.at w_NoName X G) (by decide +kernel)) (tab_of (q := fun _ => True) (q_NoRhythm_NoName.at w_NoName X G) (by decide +kernel)) (tab_of (q := fun _ => True) (q_NoRing_NoName.at w_NoName X G) (by decide +kernel)),
        r_NoNumber := (w_NoNumber.at X G).2,
        p_NoNumber := rd_all (tab_of (q := fun _ => True) (q_NoEntries_NoNumber.at w_NoNumber X G) (by decide +kernel)) (tab_of (q := fun _ => True) (q_NoRhythm_NoNumber.at w_NoNumber X G) (by decide +kernel)) (tab_of (q := fun _ => True) (q_NoRing_NoNumber.at w_NoNumber X G) (by decide +kernel)),
        r_NoParts := (w_NoParts.at X G).2,
        p_NoParts := rd_all (tab_of (q := fun _ => True) (q_NoEntries_NoParts.at w_NoParts X G) (by decide +kernel)) (tab_of (q := fun _ => True) (q_NoRhythm_NoParts.at w_NoParts X G) (by decide +kernel)) (tab_of (q := fun _ => True) (q_NoRing_NoParts.at w_NoParts X G) (by decide +kernel)),
        r_NoRhythm := (w_NoRhythm.at X G).2,
        p_NoRhythm := rd_all (tab_of (q := fun _ => True) (q_NoEntries_NoRhythm.at w_NoRhythm X G) (by decide +kernel)) (tab_of (q := fun _ => True) (q_NoRhythm_NoRhythm.at w_NoRhythm X G) (by decide +kernel)) (tab_of (q := fun _ => True) (q_NoRing_NoRhythm.at w_NoRhythm X G) (by decide +kernel)),
        r_NoRing := (w_NoRing.at X G).2,
        p_NoRing := rd_all (tab_of (q := fun _ => True) (q_NoEntries_NoRing.at w_NoRing X G) (by decide +kernel)) (tab_of (q := fun _ => True) (q_NoRhythm_NoRing.at w_NoRing X G) (by decide +kernel)) (tab_of (q := fun _ => True) (q_NoRing_NoRing.at w_NoRing X G) (by decide +kernel)),
        r_NoState := (w_NoState.at X G).2,
        p_NoState := rd_all (tab_of (q := fun _ => True) (q_NoEntries_NoState.at w_NoState X G) (by decide +kernel)) (tab_of (q := fun _ => True) (q_NoRhythm_NoState.at w_NoState X G) (by decide +kernel)) (tab_of (q := fun _ => True) (q_NoRing_NoState.at w_NoState X G) (by decide +kernel)),
        r_NoText := (w_NoText.at X G).2,
        p_NoText := rd_all (tab_of (q := fun _ => True) (q_NoEntries_NoText.at w_NoText X G) (by decide +kernel)) (tab_of (q := fun _ => True) (q_NoRhythm_NoText.at w_NoText X G) (by decide +kernel)) (tab_of (q := fun _ => True) (q_NoRing_NoText.at w_NoText X G) (by decide +kernel)),
        r_NoVoice := (w_NoVoice.at X G).2,
        p_NoVoice := rd_all (tab_of (q := fun _ => True) (q_NoEntries_NoVoice.at w_NoVoice X G) (by decide +kernel)) (tab_of (q := fun _ => True) (q_NoRhythm_NoVoice.at w_NoVoice X G) (by decide +kernel)) (tab_of (q := fun _ => True) (q_NoRing_NoVoice.at w_NoVoice X G) (by decide +kernel)),
        r_NoVoices := (w_NoVoices.at X G).2,
        p_NoVoices := rd_all (tab_of (q := fun _ => True) (q_NoEntries_NoVoices.at w_NoVoices X G) (by decide +kernel)) (tab_of (q := fun _ => True) (q_NoRhythm_NoVoices.at w_NoVoices X G) (by decide +kernel)) (tab_of (q := fun _ => True) (q_NoRing_NoVoices.at w_NoVoices X G) (by decide +kernel)),
        r_NotWhole := (w_NotWhole.at X G).2,
        p_NotWhole := rd_all (tab_of (q := fun _ => True) (q_NoEntries_NotWhole.at w_NotWhole X G) (by decide +kernel)) (tab_of (q := fun _ => True) (q_NoRhythm_NotWhole.at w_NotWhole X G) (by decide +kernel)) (tab_of (q := fun _ => True) (q_NoRing_NotWhole.at w_NotWhole X G) (by decide +kernel)),
        r_Taken := (w_Taken.at X G).2,
        p_Taken := rd_all (tab_of (q := fun _ => True) (q_NoEntries_Taken.at w_Taken X G) (by decide +kernel)) (tab_of (q := fun _ => True) (q_NoRhythm_Taken.at w_Taken X G) (by decide +kernel)) (tab_of (q := fun _ => True) (q_NoRing_Taken.at w_Taken X G) (by decide +kernel)),
        r_TooGreat := (w_TooGreat.at X G).2,
        p_TooGreat := rd_all (tab_of (q := fun _ => True) (q_NoEntries_TooGreat.at w_TooGreat X G) (by decide +kernel)) (tab_of (q := fun _ => True) (q_NoRhythm_TooGreat.at w_TooGreat X G) (by decide +kernel)) (tab_of (q := fun _ => True) (q_NoRing_TooGreat.at w_TooGreat X G) (by decide +kernel)),
        pv := rd_all (tab_of (q := fun _ => True) (v_NoEntries.at X G) (by decide +kernel)) (tab_of (q := fun _ => True) (v_NoRhythm.at X G) (by decide +kernel)) (tab_of (q := fun _ => True) (v_NoRing.at X G) (by decide +kernel)) }
    exact okDc h2 h3 sc_law fun A outer s H E hr => bd_law T A outer s H E hr (ctx_def sc_law.nd hr) (passes_of (K := fun e s'' => L2.CX PySem.Challenge.pw_wholerounds_k03_whole_struck w outer H s E e s'') rfl)
end LawK
end

set_option Elab.async false
set_option linter.all false
set_option maxRecDepth 100000
namespace LawK
open PySem Mini
def isNum : D → Int → Int → Bool
  | .int i, a, b => decide (a ≤ i) && decide (i ≤ b)
  | _, _, _ => false
theorem c_is_number (d : D) (a b : Int) : d_is_number [d, .int a, .int b] = .ok ⟨.fz, .bl (isNum d a b)⟩ := by
  cases d with
  | int i => 
    simp [d_is_number, runD_fin, b_is_number, dVarF_def, isNum]
    by_cases h : a ≤ i <;> simp [h]
  | bl c => simp [d_is_number, runD_fin, b_is_number, dVarF_def, isNum]
  | _ => simp [d_is_number, runD_fin, b_is_number, dVarF_def, isNum, isTy, tyName]
def risingB : List Int → Bool
  | a :: b :: r => decide (a < b) && risingB (b :: r)
  | _ => true
theorem zipD_ints : ∀ (xs ys : List Int), zipD (iL xs) (iL ys) = (xs.zip ys).map fun p => .tup [.int p.1, .int p.2]
  | [], _ => by simp [zipD]
  | _ :: _, [] => by simp [zipD]
  | x :: xs, y :: ys => by
    have := zipD_ints xs ys
    simp [zipD, iL_cons] at this ⊢
    exact this
theorem rising_zip : ∀ (xs : List Int), ((xs.zip xs.tail).map fun p => decide (p.1 < p.2)).all id = risingB xs
  | [] => rfl
  | [_] => rfl
  | a :: b :: r => by
    have := rising_zip (b :: r)
    simp [risingB] at this ⊢
    rw [← this]
theorem c_is_rising (xs : List Int) (h : xs.length ≤ 100000) : d_is_rising [.tup (iL xs)] = .ok ⟨.fz, .bl (risingB xs)⟩ := by
  have hl : fitL ((xs.zip xs.tail).map fun p => D.tup [.int p.1, .int p.2]) = true := fitL_of (by simp; omega)
  have hm : lcGoR (.many [A1, A2]) dYes (dOpR ltR (dVarF A1) (dVarF A2)) [some (.fz (.tup (iL xs))), none, none] ((xs.zip xs.tail).map fun p => .tup [.int p.1, .int p.2]) = .ok ((xs.zip xs.tail).map fun p => .bl (decide (p.1 < p.2))) := by
    refine lc_map _ _ _ _ _ _ _ fun p hp => ?_
    simp [lcStep, dVarF_def]
  simp [d_is_rising, runD_fin, b_is_rising, dVarF_def, dZip, dSl, slD, dPart, cut1, zipD_ints, hl, hm, onBls_map]
  simpa using rising_zip xs
theorem c_look_ring {n : Int} (h : 1 ≤ n) (h' : n ≤ 36) : d_look_ring [.int n] = .ok ⟨.fz, .non⟩ := by
  simp [d_look_ring, runD_fin, b_look_ring, dVarF_def, c_is_number, isNum, h, h']
def beatB (n b : Int) : Bool := decide (0 ≤ b) && decide (b ≤ n - 1)
def isRh (n : Int) (xs : List Int) : Bool := !xs.isEmpty && (xs.all (beatB n) && risingB xs)
theorem c_is_rhythm_of (n : Int) (xs : List Int) (h : xs.length ≤ 100000) : d_is_rhythm_of [.int n, .tup (iL xs)] = .ok ⟨.fz, .bl (isRh n xs)⟩ := by
  have e0 : eqR (.tup (iL xs)) (.tup []) = some ⟨.fz, .bl (decide (xs = []))⟩ := eqR_tup xs []
  have hl : fitL (iL xs) = true := fitL_of (by simpa using h)
  simp [d_is_rhythm_of, runD_fin, b_is_rhythm_of, dVarF_def, c_is_rising, h, e0, hl, dDisp, fits_le, isRh]
  rw [lc_iL xs fun x => .bl (beatB n x)]
  · by_cases h1 : xs = []
    · subst h1
      simp [onBls_map]
    · cases h2 : xs.all (beatB n) <;> simp [onBls_map, h1, h2, dVarF_def, c_is_rising, h]
  · intro x hx
    simp [lcStep, dVarF_def, c_is_number, isNum, beatB]
/-- a good ring, a good rhythm -/
structure Rh (n : Int) (xs : List Int) : Prop where
  lo : 1 ≤ n
  hi : n ≤ 36
  ok : isRh n xs = true
theorem rising_all {n : Int} : ∀ {xs : List Int}, xs.all (beatB n) = true → risingB xs = true → ∀ {m : Int}, (∀ x ∈ xs.head?, m ≤ x) → (xs.length : Int) + m ≤ max n m
  | [], _, _, m, _ => by simp; omega
  | [a], h1, _, m, h => by
    have h2 : beatB n a = true := by simpa using h1
    have h3 := h a (by simp)
    unfold beatB at h2
    simp at h2
    simp
    omega
  | a :: b :: r, h1, h2, m, h => by
    have h3 := h a (by simp)
    have h4 : a < b ∧ risingB (b :: r) = true := by simpa [risingB] using h2
    have h5 : beatB n a = true ∧ (b :: r).all (beatB n) = true := by simpa using h1
    have h6 : beatB n b = true := by
      have := h5.2
      simp at this
      exact this.1
    unfold beatB at h6
    simp at h6
    have := rising_all (xs := b :: r) h5.2 h4.2 (m := m + 1) (by intro x hx; simp at hx; omega)
    simp at this ⊢
    omega
theorem Rh.len {n : Int} {xs : List Int} (h : Rh n xs) : (xs.length : Int) ≤ n := by
  have h1 := h.ok
  unfold isRh at h1
  simp only [Bool.and_eq_true] at h1
  have h2 := rising_all h1.2.1 h1.2.2 (m := 0) (by
    intro x hx
    cases xs with
    | nil => cases hx
    | cons a r =>
      simp at hx
      subst hx
      have := h1.2.1
      simp [beatB] at this
      omega)
  have := h.lo
  omega
theorem Rh.ne {n : Int} {xs : List Int} (h : Rh n xs) : xs ≠ [] := by
  have h1 := h.ok
  unfold isRh at h1
  intro e
  rw [e] at h1
  cases h1
theorem Rh.mem {n : Int} {xs : List Int} (h : Rh n xs) {x : Int} (hx : x ∈ xs) : 0 ≤ x ∧ x < n := by
  have h1 := h.ok
  unfold isRh at h1
  simp only [Bool.and_eq_true, List.all_eq_true] at h1
  have := h1.2.1 x hx
  unfold beatB at this
  simp at this
  omega
theorem Rh.short {n : Int} {xs : List Int} (h : Rh n xs) : xs.length ≤ 36 := by
  have := h.len
  have := h.hi
  omega
theorem Rh.pos {n : Int} {xs : List Int} (h : Rh n xs) : 0 < n := by
  have := h.lo
  omega
theorem c_look_rhythm {n : Int} {xs : List Int} (h : Rh n xs) : d_look_rhythm [.int n, .tup (iL xs)] = .ok ⟨.fz, .non⟩ := by
  have := h.short
  simp [d_look_rhythm, runD_fin, b_look_rhythm, dVarF_def, c_look_ring h.lo h.hi, c_is_rhythm_of n xs (by omega), h.ok]
/-! ### beats_of -/
def beatsI (n : Int) (xs : List Int) : List Int := sortI (dedupI [] (xs.map (· % n)))
theorem dedup_ne : ∀ (xs acc : List Int), acc ≠ [] ∨ xs ≠ [] → dedupI acc xs ≠ []
  | [], acc, h => by simpa [dedupI] using h
  | x :: xs, acc, _ => by
    unfold dedupI
    refine dedup_ne xs _ (.inl ?_)
    split
    · rename_i h
      intro e
      rw [e] at h
      cases h
    · simp
end LawK

set_option Elab.async false
set_option linter.all false
set_option maxRecDepth 100000
namespace LawK
open PySem Mini
theorem c_look_entries {n : Int} {xs ys : List Int} (h : Rh n xs) (h' : Rh n ys) : d_look_entries [.int n, .tup (iL xs), .tup (iL ys)] = .ok ⟨.fz, .non⟩ := by
  have := h'.short
  simp [d_look_entries, runD_fin, b_look_entries, dVarF_def, c_look_rhythm h, c_is_rhythm_of n ys (by omega), h'.ok]
end LawK

set_option Elab.async false
set_option linter.all false
set_option maxRecDepth 100000
namespace LawK
open PySem Mini
/-! ### struck -/
def struckI (n : Int) (R T : List Int) : List Int := R.foldl (fun m b => T.foldl (fun m e => m.modify ((b + e) % n).toNat (· + 1)) m) (List.replicate n.toNat 0)
theorem fold_len {α : Type} (f : List Int → α → List Int) (h : ∀ m a, (f m a).length = m.length) : ∀ (xs : List α) (m : List Int), (xs.foldl f m).length = m.length
  | [], m => rfl
  | x :: xs, m => by rw [List.foldl_cons, fold_len f h xs, h]
theorem c_plain_struck {n : Int} {R T : List Int} (h0 : 0 < n) (h1 : n ≤ 1000) : d_plain_struck [.int n, .tup (iL R), .tup (iL T)] = .ok ⟨.fr, .lst (iL (struckI n R T))⟩ := by
  simp [d_plain_struck, runD_fin, b_plain_struck, dVarF_def, dDisp, fits_le, mulA_rep (Int.le_of_lt h0) h1, keepAs, iL_replicate]
  refine for_k R (fun m st => m.length = n.toNat ∧ ∃ a b, st = [some (.fz (.int n)), some (.fz (.tup (iL R))), some (.fz (.tup (iL T))), some (.own (.lst (iL m))), a, b]) (fun m b => T.foldl (fun m e => m.modify ((b + e) % n).toNat (· + 1)) m) (List.replicate n.toNat 0) ⟨by simp, _, _, rfl⟩ ?_ ?_
  · rintro b hb m st ⟨hm, x, y, rfl⟩
    simp [dVarF_def]
    refine for_iL T (fun m st => m.length = n.toNat ∧ ∃ b', st = [some (.fz (.int n)), some (.fz (.tup (iL R))), some (.fz (.tup (iL T))), some (.own (.lst (iL m))), some (.fz (.int b)), b']) (fun m e => m.modify ((b + e) % n).toNat (· + 1)) m ⟨hm, _, rfl⟩ ?_ |>.imp fun st' h => ⟨h.1, ?_⟩
    · rintro e he m st ⟨hm, y, rfl⟩
      obtain ⟨i1, i2⟩ := emod_ix (a := b + e) h0
      have := aug_ints (fun i j => i + j) (a := A3) (di := dOpR modR (dOpR addR (dVarF A4) (dVarF A5)) (dVarF A0)) (de := dLit (.int 1)) (st := [some (.fz (.int n)), some (.fz (.tup (iL R))), some (.fz (.tup (iL T))), some (.own (.lst (iL m))), some (.fz (.int b)), some (.fz (.int e))]) (xs := m) (k := (b + e) % n) (y := 1) (k1 := .fz) (k2 := .fz) rfl (by simp [dVarF_def, modR_int h0]) rfl i1 (by omega)
      simp [this, hm]
    · obtain ⟨q1, b', rfl⟩ := h.2
      exact ⟨q1, _, _, rfl⟩
  · rintro st ⟨hm, a, b, rfl⟩
    simp [dRetVF, struckI]
theorem struckI_len (n : Int) (R T : List Int) : (struckI n R T).length = n.toNat := by
  unfold struckI
  rw [fold_len _ (fun m b => fold_len _ (fun m e => by simp) T m)]
  simp
theorem c_struck {n : Int} {R T : List Int} (h : Rh n R) (h' : Rh n T) : d_struck [.int n, .tup (iL R), .tup (iL T)] = .ok ⟨.fz, .tup (iL (struckI n R T))⟩ := by
  have := h.hi
  simp [d_struck, runD_fin, b_struck, dVarF_def, c_look_entries h h', c_plain_struck h.pos (by omega)]
end LawK

set_option Elab.async false
set_option linter.all false
set_option maxRecDepth 100000
namespace Mini
open PySem L2
theorem pyAll_ints : ∀ ns : List Int, D.pyAll (ns.map D.int) = ns.map PyData.int
  | [] => rfl
  | n :: ns => by
    show PyData.int n :: D.pyAll (ns.map D.int) = _
    rw [pyAll_ints ns]
    rfl
theorem shaped_scr (ns : List Int) : shaped (.scr ns) = true := by
  obtain ⟨h1, h2⟩ := isIL_lay (isIL_iL ns)
  rw [iL_map, pyAll_ints] at h1 h2
  unfold shaped SeqAt.shaped
  have e1 : (D.scr ns).py.canLay0 = true := h1
  have e2 : (D.scr ns).py.depth ≤ 64 := by
    show PyData.depthAll (ns.map PyData.int) + 1 ≤ 64
    omega
  simp [e1, e2]
theorem ne_scr (ns : List Int) : neR (.scr ns) (.lst []) = some ⟨.fz, .bl (!ns.isEmpty)⟩ := by
  show (if (shaped (.scr ns) && shaped (.lst [])) = true then some (rz (.bl (!eqD (.scr ns) (.lst [])))) else none) = _
  rw [shaped_scr ns, show shaped (.lst []) = true from by decide]
  cases ns with
  | nil => rfl
  | cons n ns => rfl
theorem ix_scr {xs : List Int} {i : Int} (h : 0 ≤ i) (h' : i < xs.length) : ∃ c, ixD (.scr xs) (.int i) = some ⟨.fz, .int c⟩ := by
  show ∃ c, (atI xs i).map (fun n => rz (.int n)) = _
  have hn : i.toNat < xs.length := by omega
  rw [atI_pos h h', List.getElem?_eq_getElem hn]
  exact ⟨_, rfl⟩
theorem pow18 : powD (.int 10) (.int 18) = some ⟨.fz, .int 1000000000000000000⟩ := rfl
theorem fdiv18 (i : Int) : fdivD (.int i) (.int 1000000000000000000) = some ⟨.fz, .int (i / 1000000000000000000)⟩ := rfl
end Mini

set_option Elab.async false
set_option linter.all false
set_option maxRecDepth 100000
namespace LawK
open PySem Mini
theorem rising_of : ∀ {xs : List Int}, xs.Pairwise (· < ·) → risingB xs = true
  | [], _ => rfl
  | [_], _ => rfl
  | a :: b :: r, h => by
    have h1 := List.pairwise_cons.mp h
    simp [risingB, h1.1 b (by simp), rising_of h1.2]
theorem rising_lt : ∀ {xs : List Int}, risingB xs = true → xs.Pairwise (· < ·)
  | [], _ => .nil
  | [_], _ => by simp
  | a :: b :: r, h => by
    have h1 : a < b ∧ risingB (b :: r) = true := by simpa [risingB] using h
    have h2 := rising_lt h1.2
    refine List.pairwise_cons.mpr ⟨fun x hx => ?_, h2⟩
    rcases List.mem_cons.mp hx with rfl | hx
    · exact h1.1
    · have := (List.pairwise_cons.mp h2).1 x hx
      omega
theorem sort_lt {xs : List Int} (h : xs.Nodup) : (sortI xs).Pairwise (· < ·) := by
  have h1 := sortI_sorted xs
  have h2 : (sortI xs).Nodup := (sortI_perm xs).nodup_iff.mpr h
  exact (h1.and h2).imp fun ⟨h3, h4⟩ => by omega
theorem sort_rh {n : Int} {xs : List Int} (hn : 1 ≤ n) (hn' : n ≤ 36) (h : xs.Nodup) (hne : xs ≠ []) (hb : ∀ x ∈ xs, 0 ≤ x ∧ x < n) : Rh n (sortI xs) := by
  refine ⟨hn, hn', ?_⟩
  have p := sortI_perm xs
  have e : (sortI xs) ≠ [] := fun z => hne (by rw [z] at p; exact p.symm.eq_nil)
  unfold isRh
  rw [rising_of (sort_lt h)]
  have e1 : (sortI xs).isEmpty = false := by cases q : sortI xs <;> simp_all
  have e2 : (sortI xs).all (beatB n) = true := by
    rw [List.all_eq_true]
    intro x hx
    have := hb x (p.mem_iff.mp hx)
    unfold beatB
    simp
    omega
  rw [e1, e2]
  rfl
theorem head_min {xs : List Int} (h : xs.Pairwise (· < ·)) (h0 : (0 : Int) ∈ xs) (hb : ∀ x ∈ xs, 0 ≤ x) : xs.head? = some 0 := by
  cases xs with
  | nil => cases h0
  | cons a r =>
    have h1 := (List.pairwise_cons.mp h).1
    rcases List.mem_cons.mp h0 with e | e
    · rw [← e]; rfl
    · have h2 := h1 0 e
      have h3 := hb a (by simp)
      omega
end LawK

set_option Elab.async false
set_option linter.all false
set_option maxRecDepth 100000
namespace LawK
open PySem Mini
/-! ### beats_of as a set -/
theorem mem_dedup : ∀ (xs acc : List Int) (x : Int), x ∈ dedupI acc xs ↔ x ∈ acc ∨ x ∈ xs
  | [], acc, x => by simp [dedupI]
  | y :: ys, acc, x => by
    unfold dedupI
    rw [mem_dedup ys]
    by_cases h : y ∈ acc
    · simp only [h, if_true, List.mem_cons]
      constructor
      · rintro (z | z)
        · exact .inl z
        · exact .inr (.inr z)
      · rintro (z | z | z)
        · exact .inl z
        · exact .inl (z ▸ h)
        · exact .inr z
    · simp [h, or_assoc]
theorem nodup_dedup : ∀ (xs acc : List Int), acc.Nodup → (dedupI acc xs).Nodup
  | [], acc, h => by simpa [dedupI] using h
  | y :: ys, acc, h => by
    unfold dedupI
    refine nodup_dedup ys _ ?_
    by_cases hy : y ∈ acc
    · simpa [hy] using h
    · simp only [hy, if_false]
      rw [List.nodup_append]
      refine ⟨h, by simp, ?_⟩
      intro a ha b hb
      simp at hb
      subst hb
      exact fun z => hy (z ▸ ha)
theorem mem_beats {n : Int} {xs : List Int} {x : Int} : x ∈ beatsI n xs ↔ ∃ y ∈ xs, y % n = x := by
  unfold beatsI
  rw [(sortI_perm _).mem_iff, mem_dedup]
  simp
theorem beats_lt (n : Int) (xs : List Int) : (beatsI n xs).Pairwise (· < ·) := sort_lt (nodup_dedup _ _ .nil)
theorem lt_ext : ∀ {xs ys : List Int}, xs.Pairwise (· < ·) → ys.Pairwise (· < ·) → (∀ x, x ∈ xs ↔ x ∈ ys) → xs = ys
  | [], [], _, _, _ => rfl
  | [], y :: ys, _, _, h => by have := (h y).mpr (by simp); cases this
  | x :: xs, [], _, _, h => by have := (h x).mp (by simp); cases this
  | x :: xs, y :: ys, h1, h2, h => by
    have a1 := List.pairwise_cons.mp h1
    have a2 := List.pairwise_cons.mp h2
    have e : x = y := by
      rcases List.mem_cons.mp ((h x).mp (by simp)) with z | z
      · exact z
      · rcases List.mem_cons.mp ((h y).mpr (by simp)) with w | w
        · exact w.symm
        · have := a2.1 x z
          have := a1.1 y w
          omega
    subst e
    congr 1
    refine lt_ext a1.2 a2.2 fun z => ?_
    have := h z
    simp only [List.mem_cons] at this
    constructor
    · intro hz
      rcases this.mp (.inr hz) with w | w
      · have := a1.1 z hz
        omega
      · exact w
    · intro hz
      rcases this.mpr (.inr hz) with w | w
      · have := a2.1 z hz
        omega
      · exact w
theorem beats_rh {n : Int} {xs : List Int} (h1 : 1 ≤ n) (h2 : n ≤ 36) (h : xs ≠ []) : Rh n (beatsI n xs) := by
  refine sort_rh h1 h2 (nodup_dedup _ _ .nil) (dedup_ne _ _ (.inr (by simpa using h))) fun x hx => ?_
  rw [mem_dedup] at hx
  simp at hx
  obtain ⟨y, _, rfl⟩ := hx
  exact emod_ix (by omega)
theorem beats_shift {n a b : Int} (R : List Int) : beatsI n ((beatsI n (R.map (· + a))).map (· + b)) = beatsI n (R.map (· + (a + b))) := by
  refine lt_ext (beats_lt _ _) (beats_lt _ _) fun x => ?_
  rw [mem_beats, mem_beats]
  constructor
  · rintro ⟨y, hy, rfl⟩
    obtain ⟨z, hz, rfl⟩ := List.mem_map.mp hy
    obtain ⟨w, hw, rfl⟩ := mem_beats.mp hz
    obtain ⟨u, hu, rfl⟩ := List.mem_map.mp hw
    refine ⟨u + (a + b), List.mem_map.mpr ⟨u, hu, rfl⟩, ?_⟩
    rw [← Int.add_assoc, Int.emod_add_emod]
  · rintro ⟨y, hy, rfl⟩
    obtain ⟨u, hu, rfl⟩ := List.mem_map.mp hy
    refine ⟨(u + a) % n + b, List.mem_map.mpr ⟨(u + a) % n, mem_beats.mpr ⟨u + a, List.mem_map.mpr ⟨u, hu, rfl⟩, rfl⟩, rfl⟩, ?_⟩
    rw [← Int.add_assoc, Int.emod_add_emod]
theorem Rh.lt {n : Int} {xs : List Int} (h : Rh n xs) : xs.Pairwise (· < ·) := by
  have h1 := h.ok
  unfold isRh at h1
  simp only [Bool.and_eq_true] at h1
  exact rising_lt h1.2.2
theorem beats_same {n : Int} {R : List Int} (h : Rh n R) : beatsI n R = R := by
  refine lt_ext (beats_lt _ _) h.lt fun x => ?_
  rw [mem_beats]
  constructor
  · rintro ⟨y, hy, rfl⟩
    have := h.mem hy
    rw [Int.emod_eq_of_lt this.1 this.2]
    exact hy
  · intro hx
    have := h.mem hx
    exact ⟨x, hx, Int.emod_eq_of_lt this.1 this.2⟩
/-- as many beats, shifted -/
theorem beats_len {n b : Int} {R : List Int} (h : Rh n R) : (beatsI n (R.map (· + b))).length = R.length := by
  have h1 : (R.map fun x => (x + b) % n).Nodup := by
    rw [List.nodup_iff_pairwise_ne, List.pairwise_map]
    refine h.lt.imp_of_mem fun {x y} hx hy hlt => ?_
    intro e
    have a := h.mem hx
    have c := h.mem hy
    have e2 : ((y + b) - (x + b)) % n = 0 := Int.emod_eq_emod_iff_emod_sub_eq_zero.mp e.symm
    have e3 : (y - x) % n = 0 := by
      rw [show y - x = (y + b) - (x + b) by omega]
      exact e2
    rw [Int.emod_eq_of_lt (by omega) (by omega)] at e3
    omega
  have h2 : ∀ (xs acc : List Int), (acc ++ xs).Nodup → dedupI acc xs = acc ++ xs := by
    intro xs
    induction xs with
    | nil => intro acc _; simp [dedupI]
    | cons x xs ih =>
      intro acc hn
      unfold dedupI
      have hx : x ∉ acc := fun hx => by
        rw [List.nodup_append] at hn
        exact hn.2.2 x hx x (by simp) rfl
      rw [if_neg hx, ih (acc ++ [x]) (by simpa using hn)]
      simp
  unfold beatsI
  rw [(sortI_perm _).length_eq, List.map_map]
  have e : (R.map ((fun x => x % n) ∘ fun x => x + b)) = R.map fun x => (x + b) % n := rfl
  rw [e, h2 _ [] (by simpa using h1)]
  simp
end LawK

set_option Elab.async false
set_option linter.all false
set_option maxRecDepth 100000
namespace LawK
open PySem Mini
theorem pick_while (x0 x1 x2 x3 x6 : Option SV) : ∀ (f : Nat) (rest turn : Int), turn < f → ∃ r t, whGoR (dAndR (dTestR (dOpR gtR (dVarF A4) (dLit (.int 0))) trB) (dTestR (dOpR gtR (dVarF A5) (dLit (.int 0))) trB)) (dParF [(false, A4), (false, A5)] (dConsR (dOpR fdivD (dVarF A4) (dLit (.int 840))) (dConsR (dOpR subR (dVarF A5) (dLit (.int 1))) (dNil)))) (f + 1) [x0, x1, x2, x3, some (.fz (.int rest)), some (.fz (.int turn)), x6] = .ok (.nx [x0, x1, x2, x3, some (.fz (.int r)), some (.fz (.int t)), x6])
  | f, rest, turn, h => by
    rw [whGoR_succ]
    by_cases h1 : 0 < rest
    · by_cases h2 : 0 < turn
      · cases f with
        | zero => omega
        | succ f =>
          simp [dVarF_def, h1, h2, fdiv_int, keepAs, dParF, setManyF]
          exact pick_while x0 x1 x2 x3 x6 f _ _ (by omega)
      · simp [dVarF_def, h1, h2]
    · simp [dVarF_def, h1]
theorem c_pick {ns : List Int} {k many : Int} (h1 : 0 ≤ k) (h2 : k ≤ 10000) (h3 : 1 ≤ many) (hl : ns.length ≤ 63) : ∃ v, 0 ≤ v ∧ v < many ∧ d_u_law_pick [.scr ns, .int k, .int many] = .ok ⟨.fz, .int v⟩ := by
  have m0 : 0 < many := by omega
  have hc : ∃ c, (dIfR (dTestR (dOpR neR (dVarF A0) (dDisp (fun ds => ⟨.fr, .lst ds⟩) (dNil))) trB) (dOpR ixD (dVarF A0) (dOpR modR (dVarF A1) (dCBR lenD (dConsR (dVarF A0) (dNil))))) (dLit (.int 0))) [some (.fz (.scr ns)), some (.fz (.int k)), some (.fz (.int many)), none, none, none, none] = .ok ⟨.fz, .int c⟩ := by
    cases hns : ns with
    | nil => exact ⟨0, by simp [dVarF_def, dDisp, fits_le, ne_scr]⟩
    | cons n ns' =>
      rw [← hns]
      have hp : (0 : Int) < ns.length := by rw [hns]; simp
      have hpe : ns.isEmpty = false := by rw [hns]; rfl
      obtain ⟨j1, j2⟩ := emod_ix (a := k) hp
      obtain ⟨c, hc⟩ := ix_scr j1 j2
      exact ⟨c, by simp [dVarF_def, dDisp, fits_le, ne_scr, hpe, modR_int hp, hc]⟩
  obtain ⟨c, hc⟩ := hc
  have hm : ∃ q, 1 ≤ q ∧ q ≤ 63 ∧ maxD [.int ns.length, .int 1] = some ⟨.fz, .int q⟩ := by
    refine ⟨max2 ns.length 1, ?_, ?_, rfl⟩
    · unfold max2; split <;> omega
    · unfold max2; split <;> omega
  obtain ⟨q, q1, q2, hq⟩ := hm
  have d0 : 0 ≤ k / q := Int.ediv_nonneg h1 (by omega)
  have d1 : k / q ≤ k := Int.ediv_le_self _ h1
  obtain ⟨r, t, hw⟩ := pick_while (some (.fz (.scr ns))) (some (.fz (.int k))) (some (.fz (.int many))) (some (.fz (.int c))) none 99999 (c / 1000000000000000000) (k / q) (by omega)
  have a1 : ∀ i : Int, mulA (.int i) (.int 31) = some ⟨.fz, .int (i * 31)⟩ := fun i => mulA_int (by omega) (by omega)
  have a2 : mulA (.int 6151) (.int (k + 1)) = some ⟨.fz, .int (6151 * (k + 1))⟩ := mulA_int (by omega) (by omega)
  have a3 : ∀ i : Int, mulA (.int i) (.int 40692) = some ⟨.fz, .int (i * 40692)⟩ := fun i => mulA_int (by omega) (by omega)
  have a4 : ∀ i : Int, mulA (.int (i % 2147483399)) (.int (i % 2147483399)) = some ⟨.fz, .int ((i % 2147483399) * (i % 2147483399))⟩ := fun i => mulA_int (by omega) (by omega)
  by_cases hr : 0 < r
  · refine ⟨r % 840 % many, Int.emod_nonneg _ (by omega), Int.emod_lt_of_pos _ m0, Fin.run ?_⟩
    unfold b_u_law_pick
    refine Fin.seq (st' := [some (.fz (.scr ns)), some (.fz (.int k)), some (.fz (.int many)), some (.fz (.int c)), none, none, none]) (by rw [dSetR_def]; simp only [startM_cons, startM_nil]; rw [show (List.replicate 4 none : MSt) = [none, none, none, none] from rfl, hc]; rfl) ?_
    refine Fin.seq (st' := [some (.fz (.scr ns)), some (.fz (.int k)), some (.fz (.int many)), some (.fz (.int c)), some (.fz (.int (c / 1000000000000000000))), some (.fz (.int (k / q))), none]) (by simp [dVarF_def, pow18, fdiv18, hq, fdiv_int (by omega : 0 < q) (by omega), dParF, setManyF, keepAs]) ?_
    refine Fin.seq (st' := [some (.fz (.scr ns)), some (.fz (.int k)), some (.fz (.int many)), some (.fz (.int c)), some (.fz (.int r)), some (.fz (.int t)), none]) hw ?_
    exact Fin.seqR (by simp [dVarF_def, hr, modR_int m0, modR_int])
  · refine ⟨(((c * 31 + 6151 * (k + 1)) * 40692 % 2147483399 * ((c * 31 + 6151 * (k + 1)) * 40692 % 2147483399) + (c * 31 + 6151 * (k + 1)) * 40692 % 2147483399 / 31) % 2147483629) % many, Int.emod_nonneg _ (by omega), Int.emod_lt_of_pos _ m0, Fin.run ?_⟩
    unfold b_u_law_pick
    refine Fin.seq (st' := [some (.fz (.scr ns)), some (.fz (.int k)), some (.fz (.int many)), some (.fz (.int c)), none, none, none]) (by rw [dSetR_def]; simp only [startM_cons, startM_nil]; rw [show (List.replicate 4 none : MSt) = [none, none, none, none] from rfl, hc]; rfl) ?_
    refine Fin.seq (st' := [some (.fz (.scr ns)), some (.fz (.int k)), some (.fz (.int many)), some (.fz (.int c)), some (.fz (.int (c / 1000000000000000000))), some (.fz (.int (k / q))), none]) (by simp [dVarF_def, pow18, fdiv18, hq, fdiv_int (by omega : 0 < q) (by omega), dParF, setManyF, keepAs]) ?_
    refine Fin.seq (st' := [some (.fz (.scr ns)), some (.fz (.int k)), some (.fz (.int many)), some (.fz (.int c)), some (.fz (.int r)), some (.fz (.int t)), none]) hw ?_
    refine Fin.seq (st' := [some (.fz (.scr ns)), some (.fz (.int k)), some (.fz (.int many)), some (.fz (.int c)), some (.fz (.int r)), some (.fz (.int t)), none]) (by simp [dVarF_def, hr]) ?_
    refine Fin.seq (st' := [some (.fz (.scr ns)), some (.fz (.int k)), some (.fz (.int many)), some (.fz (.int c)), some (.fz (.int r)), some (.fz (.int t)), some (.fz (.int ((c * 31 + 6151 * (k + 1)) * 40692 % 2147483399)))]) (by simp [dVarF_def, a1, a2, a3, modR_int, keepAs]) ?_
    exact Fin.rt (by simp [dVarF_def, a4, modR_int, modR_int m0, fdiv_int])
end LawK

set_option Elab.async false
set_option linter.all false
set_option maxRecDepth 100000
namespace LawK
open PySem Mini
/-- the law's own beats -/
theorem ints_of_list {ns : List Int} : listInts (.lst (iL ns)) = some ns := by
  show intsD (iL ns) = some ns
  exact intsD_ints ns
theorem c_lbeats {n : Int} {xs : List Int} (hn : 0 < n) (hl : xs.length < 64) (d : D) (hd : itemsD d = some (iL xs)) : d_u_law_beats [.int n, d] = .ok ⟨.fz, .tup (iL (setI (xs.map (· % n))))⟩ := by
  have hf : fitL (iL xs) = true := fitL_of (by simp; omega)
  have hs : ∀ x1, dSrtSet (dLcR (dIt (dVarF A1)) (.one A2) [A2] (dYes) (dOpR modR (dVarF A2) (dVarF A0))) [some (.fz (.int n)), some (.fz d), x1] = .ok ⟨.fr, .lst (iL (setI (xs.map (· % n))))⟩ := by
    intro x1
    unfold dSrtSet
    simp [dVarF_def, hd, hf]
    rw [lc_iL xs fun x => .int (x % n)]
    · rw [map_int (· % n)]
      simp [ints_of_list, hl]
      rfl
    · intro x hx
      simp [lcStep, dVarF_def, modR_int hn]
  simp [d_u_law_beats, runD_fin, b_u_law_beats, hs]
theorem setI_beats {n : Int} {xs ys : List Int} (h : ∀ x, (∃ y ∈ xs, y % n = x) ↔ ∃ y ∈ ys, y % n = x) : setI (xs.map (· % n)) = beatsI n ys := by
  refine lt_ext (setI_lt _) (beats_lt _ _) fun x => ?_
  rw [setI_mem, mem_beats, ← h x]
  simp
end LawK

set_option Elab.async false
set_option linter.all false
set_option maxRecDepth 100000
namespace LawK
open PySem Mini
theorem mut_app {a : Acc} {dl : DA} {st : MSt} {ds : List D} {r : RV} (ha : a.g st = some (.own (.lst ds))) (hl : dl st = .ok [r]) (hk : r.keep = true) (hs : ds.length ≤ 100000) : dMutF a dl fApp st = .ok (.nx (a.s st (.own (.lst (ds ++ [r.d]))))) := by
  have ho : ownF st a = some ds := by
    unfold ownF
    rw [ha]
  have sl : (100000 : Nat) < sizeLine := by decide +kernel
  have hd : decide (ds.length < sizeLine) = true := decide_eq_true (by omega)
  unfold dMutF
  rw [ho]
  simp only [hl, bind_ok, fApp, hk, hd, Bool.and_self, if_true, putF, fFL2]
end LawK

set_option Elab.async false
set_option linter.all false
set_option maxRecDepth 100000
namespace LawK
open PySem Mini
/-! ### the laws' own rounds -/
theorem mut_ext {a : Acc} {dl : DA} {st : MSt} {ds es : List D} {k : Kd} (ha : a.g st = some (.own (.lst ds))) (hl : dl st = .ok [⟨k, .lst es⟩]) (hs : ds.length + es.length ≤ 100000) : dMutF a dl fExt st = .ok (.nx (a.s st (.own (.lst (ds ++ es))))) := by
  have ho : ownF st a = some ds := by
    unfold ownF
    rw [ha]
  have sl : (100000 : Nat) < sizeLine := by decide +kernel
  have hd : ds.length + es.length ≤ sizeLine := by omega
  unfold dMutF
  rw [ho]
  simp only [hl, bind_ok, fExt, hd, if_true, putF, fFL2]
def outI (xs : List Int) (step : Int) (ks : List Int) : List Int := ks.flatMap fun k => xs.map (· + k * step)
theorem outI_len (xs : List Int) (step : Int) : ∀ ks : List Int, (outI xs step ks).length = xs.length * ks.length
  | [] => by simp [outI]
  | k :: ks => by
    have := outI_len xs step ks
    unfold outI at this ⊢
    rw [List.flatMap_cons, List.length_append, this, List.length_map, List.length_cons, Nat.mul_succ]
    omega
theorem c_drawn_out {xs : List Int} {step many : Int} {d : D} (hd : d = .lst (iL xs)) (s0 : -100000 ≤ step) (s1 : step ≤ 100000) (m0 : 0 ≤ many) (m1 : many ≤ 100) (hl : xs.length ≤ 100) : d_u_law_drawn_out [d, .int step, .int many] = .ok ⟨.fr, .lst (iL (outI xs step (uptoI 0 many.toNat)))⟩ := by
  subst hd
  have er : rg1 [.int many] = some (iL (uptoI 0 many.toNat)) := rg1_int (by omega) (by omega)
  have hf : fitL (iL xs) = true := fitL_of (by simp; omega)
  refine Fin.run ?_
  unfold b_u_law_drawn_out
  refine Fin.seq (st' := [some (.fz (.lst (iL xs))), some (.fz (.int step)), some (.fz (.int many)), some (.own (.lst (iL []))), none, none]) (by simp [dDisp, fits_le, keepAs]) ?_
  refine Fin.for (ds := iL (uptoI 0 many.toNat)) (R := fun st => ∃ x4 x5, st = [some (.fz (.lst (iL xs))), some (.fz (.int step)), some (.fz (.int many)), some (.own (.lst (iL (outI xs step (uptoI 0 many.toNat))))), x4, x5]) (by simp [dVarF_def, er]) ?_ ?_
  · refine for_pre D.int (uptoI 0 many.toNat) (fun pre st => ∃ x4 x5, st = [some (.fz (.lst (iL xs))), some (.fz (.int step)), some (.fz (.int many)), some (.own (.lst (iL (outI xs step pre)))), x4, x5]) ⟨_, _, rfl⟩ ?_
    rintro pre k post e st ⟨x4, x5, rfl⟩
    have hp : pre.length + 1 ≤ 100 := by
      have := congrArg List.length e
      rw [length_uptoI, List.length_append, List.length_cons] at this
      omega
    have hb : (outI xs step pre).length ≤ 10000 := by
      rw [outI_len]
      exact Nat.le_trans (Nat.mul_le_mul hl (by omega : pre.length ≤ 100)) (by decide)
    have hlc : ∀ x3, lcGoR (.one A5) dYes (dOpR addR (dVarF A5) (dOpR mulA (dVarF A4) (dVarF A1))) [some (.fz (.lst (iL xs))), some (.fz (.int step)), some (.fz (.int many)), x3, some (.fz (.int k)), none] (iL xs) = .ok (iL (xs.map (· + k * step))) := by
      intro x3
      rw [lc_iL xs (fun x => .int (x + k * step)), map_int (· + k * step)]
      intro x hx
      simp [lcStep, dVarF_def, mulA_int (i := k) (by omega : -1000000000000000 ≤ step) (by omega)]
    refine Exists.intro [some (.fz (.lst (iL xs))), some (.fz (.int step)), some (.fz (.int many)), some (.own (.lst (iL (outI xs step (pre ++ [k]))))), some (.fz (.int k)), x5] (And.intro ?_ ⟨_, _, rfl⟩)
    rw [setPatF_one, A4_s]
    rw [mut_ext (a := A3) (ds := iL (outI xs step pre)) (es := iL (xs.map (· + k * step))) (k := .fr) rfl (by simp [dVarF_def, hf, hlc]) (by simp; omega), A3_s, iL_append]
    simp [outI]
  · rintro st ⟨x4, x5, rfl⟩
    exact Fin.rt (by simp [dRetVF])
theorem common_while : ∀ (f : Nat) (a b : Int), 0 ≤ b → b < f → ∃ g, whGoR (dTestR (dOpR neR (dVarF A1) (dLit (.int 0))) trB) (dParF [(false, A0), (false, A1)] (dConsR (dVarF A1) (dConsR (dOpR modR (dVarF A0) (dVarF A1)) (dNil)))) (f + 1) [some (.fz (.int a)), some (.fz (.int b))] = .ok (.nx [some (.fz (.int g)), some (.fz (.int 0))])
  | f, a, b, h0, h1 => by
    rw [whGoR_succ]
    by_cases hb : b = 0
    · subst hb
      exact ⟨a, by simp [dVarF_def]⟩
    · cases f with
      | zero => omega
      | succ f =>
        have hp : 0 < b := by omega
        obtain ⟨e1, e2⟩ := emod_ix (a := a) hp
        obtain ⟨g, hg⟩ := common_while f b (a % b) e1 (by omega)
        exact ⟨g, by simp [dVarF_def, hb, modR_int hp, dParF, setManyF, keepAs]; exact hg⟩
theorem c_common {a b : Int} (h0 : 0 ≤ b) (h1 : b < 999) : ∃ g, d_u_law_common [.int a, .int b] = .ok ⟨.fz, .int g⟩ := by
  obtain ⟨g, hg⟩ := common_while 999 a b h0 (by omega)
  exact ⟨g, by simp [d_u_law_common, runD_fin, b_u_law_common, hg, dRetVF]⟩
theorem c_common1 {b : Int} (h0 : 1 ≤ b) : d_u_law_common [.int 1, .int b] = .ok ⟨.fz, .int 1⟩ := by
  have hp : 0 < b := by omega
  have hb : ¬ b = 0 := by omega
  simp only [d_u_law_common, runD_fin, b_u_law_common, startM_cons, startM_nil, dSeqR_def, dWhileR_def]
  rw [show (1000 : Nat) = 997 + 1 + 1 + 1 from rfl, whGoR_succ]
  by_cases h1 : b = 1
  · subst h1
    simp [dVarF_def, modR_int, dParF, setManyF, keepAs, whGoR_succ, dRetVF]
  · have e : (1 : Int) % b = 1 := Int.emod_eq_of_lt (by omega) (by omega)
    simp [dVarF_def, hb, modR_int hp, e, dParF, setManyF, keepAs, whGoR_succ, modR_int, dRetVF]
end LawK

set_option Elab.async false
set_option linter.all false
set_option maxRecDepth 100000
namespace LawK
open PySem Mini
def primesL (l : Int) : List Int := [2, 3, 5, 7, 11, 13].filter fun p => decide (l % p = 0)
/-- the ring has small primes alone -/
def Smooth (n : Int) : Prop := ∀ l s : Int, 2 ≤ l → l * s = n → primesL l ≠ []
theorem lc_sub {p : PatF} {dt : DT} {de : DE} {st : MSt} : ∀ (xs : List Int), (∀ x, x ∈ xs → setPatF p (.int x) st (lcStep dt de) = .ok (some (.int x)) ∨ setPatF p (.int x) st (lcStep dt de) = .ok none) → ∃ ys : List Int, ys.Sublist xs ∧ lcGoR p dt de st (iL xs) = .ok (iL ys) ∧ ∀ x ∈ xs, setPatF p (.int x) st (lcStep dt de) = .ok (some (.int x)) → x ∈ ys
  | [], _ => ⟨[], .slnil, rfl, by simp⟩
  | x :: xs, h => by
    obtain ⟨ys, h1, h2, h3⟩ := lc_sub xs fun z hz => h z (by simp [hz])
    rcases h x (by simp) with e | e
    · refine ⟨x :: ys, h1.cons_cons x, ?_, ?_⟩
      · rw [iL_cons, lcGoR_cons, e, bnd_ok]
        simp only
        rw [h2]
        rfl
      · intro z hz q
        rcases List.mem_cons.mp hz with rfl | hz
        · simp
        · simp [h3 z hz q]
    · refine ⟨ys, h1.cons x, ?_, ?_⟩
      · rw [iL_cons, lcGoR_cons, e, bnd_ok]
        exact h2
      · intro z hz q
        rcases List.mem_cons.mp hz with rfl | hz
        · rw [e] at q; cases q
        · exact h3 z hz q
theorem primes_mem {l p : Int} (h : p ∈ primesL l) : 2 ≤ p ∧ p ≤ 13 ∧ l % p = 0 := by
  unfold primesL at h
  rw [List.mem_filter] at h
  obtain ⟨h1, h2⟩ := h
  simp at h1 h2
  rcases h1 with rfl | rfl | rfl | rfl | rfl | rfl <;> exact ⟨by omega, by omega, h2⟩
structure RoundI (n : Int) (rh en : List Int) (step left k : Int) : Prop where
  l1 : 1 ≤ left
  s1 : 1 ≤ step
  ls : left * step = n
  len : (rh.length : Int) * en.length = step
  k0 : 0 ≤ k
  k1 : k ≤ step
theorem RoundI.lens {n : Int} {rh en : List Int} {step left k : Int} (h : RoundI n rh en step left k) (hn : n ≤ 36) : step ≤ 36 ∧ 1 ≤ rh.length ∧ 1 ≤ en.length ∧ rh.length ≤ 36 ∧ en.length ≤ 36 := by
  have a1 := h.l1
  have a2 := h.s1
  have a3 := h.ls
  have a4 := h.len
  have b1 : step ≤ 36 := by
    have : 1 * step ≤ left * step := Int.mul_le_mul_of_nonneg_right a1 (by omega)
    omega
  have c1 : 1 ≤ rh.length := by
    rcases Nat.eq_zero_or_pos rh.length with z | z
    · rw [z] at a4; simp at a4; omega
    · exact z
  have c2 : 1 ≤ en.length := by
    rcases Nat.eq_zero_or_pos en.length with z | z
    · rw [z] at a4; simp at a4; omega
    · exact z
  have d1 : (rh.length : Int) * 1 ≤ rh.length * en.length := Int.mul_le_mul_of_nonneg_left (by omega) (by omega)
  have d2 : (1 : Int) * en.length ≤ rh.length * en.length := Int.mul_le_mul_of_nonneg_right (by omega) (by omega)
  refine ⟨b1, c1, c2, by omega, by omega⟩
theorem RoundI.next {n : Int} {rh en rh' en' : List Int} {step left k p : Int} (h : RoundI n rh en step left k) (hp : 2 ≤ p) (hd : left % p = 0) (h2 : 2 ≤ left) (hl : (rh'.length : Int) * en'.length = step * p) : RoundI n rh' en' (step * p) (left / p) (k + 1) ∧ left / p < left := by
  have a1 := h.l1
  have a2 := h.s1
  have a3 := h.ls
  have e : left / p * p = left := Int.ediv_mul_cancel (Int.dvd_of_emod_eq_zero hd)
  have q0 : 1 ≤ left / p := by
    rcases Int.lt_or_le (left / p) 1 with z | z
    · have : left / p * p ≤ 0 * p := Int.mul_le_mul_of_nonneg_right (by omega) (by omega)
      omega
    · exact z
  have q1 : left / p * 2 ≤ left / p * p := Int.mul_le_mul_of_nonneg_left hp (by omega)
  have q2 : step * 2 ≤ step * p := Int.mul_le_mul_of_nonneg_left hp (by omega)
  refine ⟨⟨q0, by omega, ?_, hl, by have := h.k0; omega, by have := h.k1; omega⟩, by omega⟩
  rw [← a3, Int.mul_comm step p, ← Int.mul_assoc, e]
theorem round_while {ns : List Int} {at_ n : Int} (hl : ns.length ≤ 63) (a0 : 0 ≤ at_) (a1 : at_ ≤ 1000) (n1 : n ≤ 36) (sm : Smooth n) : ∀ (f : Nat) (rh en : List Int) (step left k : Int) (x8 x9 : Option SV), RoundI n rh en step left k → left ≤ f → ∃ rh' en' step' k' y8 y9, RoundI n rh' en' step' 1 k' ∧
    whGoR (dTestR (dOpR gtR (dVarF A6) (dLit (.int 1))) trB) (dSeqR (dSetR false A8 (dLcR (dIt (dDisp (fun ds => ⟨.fz, .tup ds⟩) (dConsR (dLit (.int 2)) (dConsR (dLit (.int 3)) (dConsR (dLit (.int 5)) (dConsR (dLit (.int 7)) (dConsR (dLit (.int 11)) (dConsR (dLit (.int 13)) (dNil))))))))) (.one A9) [A9] (dTestR (dOpR eqR (dOpR modR (dVarF A6) (dVarF A9)) (dLit (.int 0))) trB) (dVarF A9))) (dSeqR (dSetR false A9 (dOpR ixD (dVarF A8) (dCallR d_u_law_pick (dConsR (dVarF A0) (dConsR (dOpR addR (dVarF A1) (dOpR mulA (dLit (.int 3)) (dVarF A7))) (dConsR (dCBR lenD (dConsR (dVarF A8) (dNil))) (dNil))))))) (dSeqR (dIfSR (dTestR (dOpR eqR (dCallR d_u_law_pick (dConsR (dVarF A0) (dConsR (dOpR addR (dOpR addR (dVarF A1) (dOpR mulA (dLit (.int 3)) (dVarF A7))) (dLit (.int 1))) (dConsR (dLit (.int 2)) (dNil))))) (dLit (.int 0))) trB) (dSetR false A3 (dCallR d_u_law_drawn_out (dConsR (dVarF A3) (dConsR (dVarF A5) (dConsR (dVarF A9) (dNil)))))) (dSetR false A4 (dCallR d_u_law_drawn_out (dConsR (dVarF A4) (dConsR (dVarF A5) (dConsR (dVarF A9) (dNil))))))) (dParF [(false, A5), (false, A6), (false, A7)] (dConsR (dOpR mulA (dVarF A5) (dVarF A9)) (dConsR (dOpR fdivD (dVarF A6) (dVarF A9)) (dConsR (dOpR addR (dVarF A7) (dLit (.int 1))) (dNil)))))))) (f + 1) [some (.fz (.scr ns)), some (.fz (.int at_)), some (.fz (.int n)), some (.fz (.lst (iL rh))), some (.fz (.lst (iL en))), some (.fz (.int step)), some (.fz (.int left)), some (.fz (.int k)), x8, x9, none, none, none, none, none] = .ok (.nx [some (.fz (.scr ns)), some (.fz (.int at_)), some (.fz (.int n)), some (.fz (.lst (iL rh'))), some (.fz (.lst (iL en'))), some (.fz (.int step')), some (.fz (.int 1)), some (.fz (.int k')), y8, y9, none, none, none, none, none])
  | f, rh, en, step, left, k, x8, x9, h, hf => by
    rw [whGoR_succ]
    by_cases h2 : 1 < left
    · obtain ⟨b1, b2, b3, b4, b5⟩ := h.lens n1
      have c0 := h.k0
      have c1 := h.k1
      have hne := sm left step (by omega) h.ls
      have hpl : 0 < (primesL left).length := List.length_pos_iff.mpr hne
      have hpm : (primesL left).length ≤ 6 := List.length_filter_le _ _
      have m3 : mulA (.int 3) (.int k) = some ⟨.fz, .int (3 * k)⟩ := mulA_int (by omega) (by omega)
      obtain ⟨w, w0, w1, hw⟩ := c_pick (ns := ns) (k := at_ + 3 * k) (many := ((primesL left).length : Int)) (by omega) (by omega) (by omega) hl
      obtain ⟨u, u0, u1, hu⟩ := c_pick (ns := ns) (k := at_ + 3 * k + 1) (many := 2) (by omega) (by omega) (by omega) hl
      have hwl : w.toNat < (primesL left).length := by omega
      have hix : ixD (.lst (iL (primesL left))) (.int w) = some ⟨.fz, .int (primesL left)[w.toNat]⟩ := ix_lst w0 (get_iL _ _ hwl)
      obtain ⟨p2, p13, pd⟩ := primes_mem (List.getElem_mem hwl)
      generalize (primesL left)[w.toNat] = p at *
      have hlc : lcGoR (.one A9) (dTestR (dOpR eqR (dOpR modR (dVarF A6) (dVarF A9)) (dLit (.int 0))) trB) (dVarF A9) [some (.fz (.scr ns)), some (.fz (.int at_)), some (.fz (.int n)), some (.fz (.lst (iL rh))), some (.fz (.lst (iL en))), some (.fz (.int step)), some (.fz (.int left)), some (.fz (.int k)), x8, none, none, none, none, none, none] (iL [2, 3, 5, 7, 11, 13]) = .ok (iL (primesL left)) := by
        rw [lcf_iL [2, 3, 5, 7, 11, 13] (fun p => decide (left % p = 0)) D.int]
        · rfl
        · intro x hx
          have hx0 : 0 < x := by simp at hx; omega
          by_cases q : left % x = 0 <;> simp [lcStep, dVarF_def, modR_int hx0, q]
      have hf6 : fitL (iL [2, 3, 5, 7, 11, 13]) = true := fitL_of (by simp)
      have m4 : mulA (.int step) (.int p) = some ⟨.fz, .int (step * p)⟩ := mulA_int (by omega) (by omega)
      have ol : ∀ xs : List Int, ((outI xs step (uptoI 0 p.toNat)).length : Int) = xs.length * p := fun xs => by
        rw [outI_len, length_uptoI, Int.natCast_mul, Int.toNat_of_nonneg (by omega)]
      have hlen := h.len
      have st8 : (dSetR false A8 (dLcR (dIt (dDisp (fun ds => ⟨.fz, .tup ds⟩) (dConsR (dLit (.int 2)) (dConsR (dLit (.int 3)) (dConsR (dLit (.int 5)) (dConsR (dLit (.int 7)) (dConsR (dLit (.int 11)) (dConsR (dLit (.int 13)) (dNil))))))))) (.one A9) [A9] (dTestR (dOpR eqR (dOpR modR (dVarF A6) (dVarF A9)) (dLit (.int 0))) trB) (dVarF A9))) [some (.fz (.scr ns)), some (.fz (.int at_)), some (.fz (.int n)), some (.fz (.lst (iL rh))), some (.fz (.lst (iL en))), some (.fz (.int step)), some (.fz (.int left)), some (.fz (.int k)), x8, x9, none, none, none, none, none] = .ok (.nx [some (.fz (.scr ns)), some (.fz (.int at_)), some (.fz (.int n)), some (.fz (.lst (iL rh))), some (.fz (.lst (iL en))), some (.fz (.int step)), some (.fz (.int left)), some (.fz (.int k)), some (.fz (.lst (iL (primesL left)))), x9, none, none, none, none, none]) := by
        have e6 : ([.int 2, .int 3, .int 5, .int 7, .int 11, .int 13] : List D) = iL [2, 3, 5, 7, 11, 13] := rfl
        simp [dVarF_def, dDisp, fits_le, keepAs]
        rw [e6, hf6]
        simp [hlc, keepAs]
      have step_of : ∀ (rh2 en2 : List Int), (rh2.length : Int) * en2.length = step * p → ((dSeqR (dSetR false A8 (dLcR (dIt (dDisp (fun ds => ⟨.fz, .tup ds⟩) (dConsR (dLit (.int 2)) (dConsR (dLit (.int 3)) (dConsR (dLit (.int 5)) (dConsR (dLit (.int 7)) (dConsR (dLit (.int 11)) (dConsR (dLit (.int 13)) (dNil))))))))) (.one A9) [A9] (dTestR (dOpR eqR (dOpR modR (dVarF A6) (dVarF A9)) (dLit (.int 0))) trB) (dVarF A9))) (dSeqR (dSetR false A9 (dOpR ixD (dVarF A8) (dCallR d_u_law_pick (dConsR (dVarF A0) (dConsR (dOpR addR (dVarF A1) (dOpR mulA (dLit (.int 3)) (dVarF A7))) (dConsR (dCBR lenD (dConsR (dVarF A8) (dNil))) (dNil))))))) (dSeqR (dIfSR (dTestR (dOpR eqR (dCallR d_u_law_pick (dConsR (dVarF A0) (dConsR (dOpR addR (dOpR addR (dVarF A1) (dOpR mulA (dLit (.int 3)) (dVarF A7))) (dLit (.int 1))) (dConsR (dLit (.int 2)) (dNil))))) (dLit (.int 0))) trB) (dSetR false A3 (dCallR d_u_law_drawn_out (dConsR (dVarF A3) (dConsR (dVarF A5) (dConsR (dVarF A9) (dNil)))))) (dSetR false A4 (dCallR d_u_law_drawn_out (dConsR (dVarF A4) (dConsR (dVarF A5) (dConsR (dVarF A9) (dNil))))))) (dParF [(false, A5), (false, A6), (false, A7)] (dConsR (dOpR mulA (dVarF A5) (dVarF A9)) (dConsR (dOpR fdivD (dVarF A6) (dVarF A9)) (dConsR (dOpR addR (dVarF A7) (dLit (.int 1))) (dNil)))))))) : DS) [some (.fz (.scr ns)), some (.fz (.int at_)), some (.fz (.int n)), some (.fz (.lst (iL rh))), some (.fz (.lst (iL en))), some (.fz (.int step)), some (.fz (.int left)), some (.fz (.int k)), x8, x9, none, none, none, none, none] = .ok (.nx [some (.fz (.scr ns)), some (.fz (.int at_)), some (.fz (.int n)), some (.fz (.lst (iL rh2))), some (.fz (.lst (iL en2))), some (.fz (.int (step * p))), some (.fz (.int (left / p))), some (.fz (.int (k + 1))), some (.fz (.lst (iL (primesL left)))), some (.fz (.int p)), none, none, none, none, none]) → ∃ rh' en' step' k' y8 y9, RoundI n rh' en' step' 1 k' ∧ (((dTestR (dOpR gtR (dVarF A6) (dLit (.int 1))) trB) [some (.fz (.scr ns)), some (.fz (.int at_)), some (.fz (.int n)), some (.fz (.lst (iL rh))), some (.fz (.lst (iL en))), some (.fz (.int step)), some (.fz (.int left)), some (.fz (.int k)), x8, x9, none, none, none, none, none]).bnd fun b => if b = true then afterR (whGoR (dTestR (dOpR gtR (dVarF A6) (dLit (.int 1))) trB) (dSeqR (dSetR false A8 (dLcR (dIt (dDisp (fun ds => ⟨.fz, .tup ds⟩) (dConsR (dLit (.int 2)) (dConsR (dLit (.int 3)) (dConsR (dLit (.int 5)) (dConsR (dLit (.int 7)) (dConsR (dLit (.int 11)) (dConsR (dLit (.int 13)) (dNil))))))))) (.one A9) [A9] (dTestR (dOpR eqR (dOpR modR (dVarF A6) (dVarF A9)) (dLit (.int 0))) trB) (dVarF A9))) (dSeqR (dSetR false A9 (dOpR ixD (dVarF A8) (dCallR d_u_law_pick (dConsR (dVarF A0) (dConsR (dOpR addR (dVarF A1) (dOpR mulA (dLit (.int 3)) (dVarF A7))) (dConsR (dCBR lenD (dConsR (dVarF A8) (dNil))) (dNil))))))) (dSeqR (dIfSR (dTestR (dOpR eqR (dCallR d_u_law_pick (dConsR (dVarF A0) (dConsR (dOpR addR (dOpR addR (dVarF A1) (dOpR mulA (dLit (.int 3)) (dVarF A7))) (dLit (.int 1))) (dConsR (dLit (.int 2)) (dNil))))) (dLit (.int 0))) trB) (dSetR false A3 (dCallR d_u_law_drawn_out (dConsR (dVarF A3) (dConsR (dVarF A5) (dConsR (dVarF A9) (dNil)))))) (dSetR false A4 (dCallR d_u_law_drawn_out (dConsR (dVarF A4) (dConsR (dVarF A5) (dConsR (dVarF A9) (dNil))))))) (dParF [(false, A5), (false, A6), (false, A7)] (dConsR (dOpR mulA (dVarF A5) (dVarF A9)) (dConsR (dOpR fdivD (dVarF A6) (dVarF A9)) (dConsR (dOpR addR (dVarF A7) (dLit (.int 1))) (dNil)))))))) f) ((dSeqR (dSetR false A8 (dLcR (dIt (dDisp (fun ds => ⟨.fz, .tup ds⟩) (dConsR (dLit (.int 2)) (dConsR (dLit (.int 3)) (dConsR (dLit (.int 5)) (dConsR (dLit (.int 7)) (dConsR (dLit (.int 11)) (dConsR (dLit (.int 13)) (dNil))))))))) (.one A9) [A9] (dTestR (dOpR eqR (dOpR modR (dVarF A6) (dVarF A9)) (dLit (.int 0))) trB) (dVarF A9))) (dSeqR (dSetR false A9 (dOpR ixD (dVarF A8) (dCallR d_u_law_pick (dConsR (dVarF A0) (dConsR (dOpR addR (dVarF A1) (dOpR mulA (dLit (.int 3)) (dVarF A7))) (dConsR (dCBR lenD (dConsR (dVarF A8) (dNil))) (dNil))))))) (dSeqR (dIfSR (dTestR (dOpR eqR (dCallR d_u_law_pick (dConsR (dVarF A0) (dConsR (dOpR addR (dOpR addR (dVarF A1) (dOpR mulA (dLit (.int 3)) (dVarF A7))) (dLit (.int 1))) (dConsR (dLit (.int 2)) (dNil))))) (dLit (.int 0))) trB) (dSetR false A3 (dCallR d_u_law_drawn_out (dConsR (dVarF A3) (dConsR (dVarF A5) (dConsR (dVarF A9) (dNil)))))) (dSetR false A4 (dCallR d_u_law_drawn_out (dConsR (dVarF A4) (dConsR (dVarF A5) (dConsR (dVarF A9) (dNil))))))) (dParF [(false, A5), (false, A6), (false, A7)] (dConsR (dOpR mulA (dVarF A5) (dVarF A9)) (dConsR (dOpR fdivD (dVarF A6) (dVarF A9)) (dConsR (dOpR addR (dVarF A7) (dLit (.int 1))) (dNil)))))))) [some (.fz (.scr ns)), some (.fz (.int at_)), some (.fz (.int n)), some (.fz (.lst (iL rh))), some (.fz (.lst (iL en))), some (.fz (.int step)), some (.fz (.int left)), some (.fz (.int k)), x8, x9, none, none, none, none, none]) else .ok (.nx [some (.fz (.scr ns)), some (.fz (.int at_)), some (.fz (.int n)), some (.fz (.lst (iL rh))), some (.fz (.lst (iL en))), some (.fz (.int step)), some (.fz (.int left)), some (.fz (.int k)), x8, x9, none, none, none, none, none])) = .ok (.nx [some (.fz (.scr ns)), some (.fz (.int at_)), some (.fz (.int n)), some (.fz (.lst (iL rh'))), some (.fz (.lst (iL en'))), some (.fz (.int step')), some (.fz (.int 1)), some (.fz (.int k')), y8, y9, none, none, none, none, none]) := by
        intro rh2 en2 hl2 hb
        cases f with
        | zero => omega
        | succ f =>
          obtain ⟨n1', n2'⟩ := h.next (rh' := rh2) (en' := en2) p2 pd (by omega) hl2
          obtain ⟨rh', en', step', k', y8, y9, r1, r2⟩ := round_while hl a0 a1 n1 sm f rh2 en2 (step * p) (left / p) (k + 1) (some (.fz (.lst (iL (primesL left))))) (some (.fz (.int p))) n1' (by omega)
          refine ⟨rh', en', step', k', y8, y9, r1, ?_⟩
          have ht : (dTestR (dOpR gtR (dVarF A6) (dLit (.int 1))) trB) [some (.fz (.scr ns)), some (.fz (.int at_)), some (.fz (.int n)), some (.fz (.lst (iL rh))), some (.fz (.lst (iL en))), some (.fz (.int step)), some (.fz (.int left)), some (.fz (.int k)), x8, x9, none, none, none, none, none] = .ok true := by simp [dVarF_def, h2]
          rw [ht, bnd_ok, if_pos rfl, hb, afterR_nx]
          exact r2
      by_cases hu0 : u = 0
      · refine step_of (outI rh step (uptoI 0 p.toNat)) en ?_ ?_
        · rw [ol, ← hlen, Int.mul_right_comm]
        · rw [dSeqR_def, st8, bnd_ok]
          simp [dVarF_def, m3, hw, hix, keepAs, hu, hu0, c_drawn_out (xs := rh) rfl (by omega : -100000 ≤ step) (by omega) (by omega : 0 ≤ p) (by omega) (by omega), dParF, setManyF, m4, fdiv_int (by omega : 0 < p) (by omega)]
      · refine step_of rh (outI en step (uptoI 0 p.toNat)) ?_ ?_
        · rw [ol, ← hlen, Int.mul_assoc]
        · rw [dSeqR_def, st8, bnd_ok]
          simp [dVarF_def, m3, hw, hix, keepAs, hu, hu0, c_drawn_out (xs := en) rfl (by omega : -100000 ≤ step) (by omega) (by omega : 0 ≤ p) (by omega) (by omega), dParF, setManyF, m4, fdiv_int (by omega : 0 < p) (by omega)]
    · have e : left = 1 := by have := h.l1; omega
      subst e
      exact ⟨rh, en, step, k, x8, x9, h, by simp [dVarF_def]⟩
end LawK

set_option Elab.async false
set_option linter.all false
set_option maxRecDepth 100000
namespace LawK
open PySem Mini
def ringsL : List Int := [1, 2, 3, 4, 5, 6, 8, 9, 10, 12, 12, 16, 18, 20, 24]
theorem smooth_ring {n : Int} (h : n ∈ ringsL) : Smooth n := by
  have h1 : 1 ≤ n ∧ n ≤ 24 := by
    simp [ringsL] at h
    omega
  have h2 : ∀ l ∈ uptoI 2 23, l = 17 ∨ l = 19 ∨ l = 23 ∨ primesL l ≠ [] := by decide +kernel
  intro l s hl e
  have s1 : 1 ≤ s := by
    rcases Int.lt_or_le s 1 with z | z
    · have : l * s ≤ l * 0 := Int.mul_le_mul_of_nonneg_left (by omega) (by omega)
      omega
    · exact z
  have l1 : l ≤ 24 := by
    have : l * 1 ≤ l * s := Int.mul_le_mul_of_nonneg_left s1 (by omega)
    omega
  rcases h2 l ((mem_uptoI _ _ _).mpr (by omega)) with rfl | rfl | rfl | z
  · simp [ringsL] at h
    omega
  · simp [ringsL] at h
    omega
  · simp [ringsL] at h
    omega
  · exact z
theorem c_lring {ns : List Int} {at_ : Int} (h1 : 0 ≤ at_) (h2 : at_ ≤ 10000) (hl : ns.length ≤ 63) : ∃ n, n ∈ ringsL ∧ d_u_law_ring [.scr ns, .int at_] = .ok ⟨.fz, .int n⟩ := by
  obtain ⟨v, v0, v1, hv⟩ := c_pick (ns := ns) (k := at_) (many := 15) h1 h2 (by omega) hl
  have hlt : v.toNat < ringsL.length := by simp [ringsL]; omega
  have hix : ixD (.lst (iL ringsL)) (.int v) = some ⟨.fz, .int ringsL[v.toNat]⟩ := ix_lst v0 (get_iL _ _ hlt)
  refine ⟨ringsL[v.toNat], List.getElem_mem hlt, Fin.run (Fin.rt ?_)⟩
  have e : ([.int 1, .int 2, .int 3, .int 4, .int 5, .int 6, .int 8, .int 9, .int 10, .int 12, .int 12, .int 16, .int 18, .int 20, .int 24] : List D) = iL ringsL := rfl
  simp [b_u_law_ring, dVarF_def, dDisp, fits_le, hv]
  rw [e, hix]
  simp
theorem ring_bounds {n : Int} (h : n ∈ ringsL) : 1 ≤ n ∧ n ≤ 24 := by
  simp [ringsL] at h
  omega
theorem c_round {ns : List Int} {at_ n : Int} (hl : ns.length ≤ 63) (a0 : 0 ≤ at_) (a1 : at_ ≤ 900) (hn : n ∈ ringsL) :
    ∃ R T, Rh n R ∧ Rh n T ∧ d_u_law_round [.scr ns, .int at_, .int n] = .ok ⟨.fz, .tup [.tup (iL R), .tup (iL T)]⟩ := by
  obtain ⟨n0, n24⟩ := ring_bounds hn
  obtain ⟨rh, en, step, k, y8, y9, hI, hw⟩ := round_while (ns := ns) (at_ := at_) hl a0 (by omega) (by omega) (smooth_ring hn) 99 [0] [0] 1 n 0 none none ⟨n0, by omega, by omega, by simp, by omega, by omega⟩ (by omega)
  obtain ⟨_, b2, b3, b4, b5⟩ := hI.lens (by omega)
  have er : rg2 [.int 1, .int (n + 1)] = some (iL (uptoI 1 n.toNat)) := by
    rw [rg2_int (by omega) (by omega) (by omega) (by omega), show (n + 1 - 1).toNat = n.toNat by omega]
  have hfu : fitL (iL (uptoI 1 n.toNat)) = true := fitL_of (by rw [iL_length, length_uptoI]; omega)
  obtain ⟨us, u1, u2, u3⟩ := lc_sub (p := .one A13) (dt := dTestR (dOpR eqR (dCallR d_u_law_common (dConsR (dVarF A13) (dConsR (dVarF A2) (dNil)))) (dLit (.int 1))) trB) (de := dVarF A13) (st := [some (.fz (.scr ns)), some (.fz (.int at_)), some (.fz (.int n)), some (.fz (.lst (iL rh))), some (.fz (.lst (iL en))), some (.fz (.int step)), some (.fz (.int 1)), some (.fz (.int k)), y8, y9, none, none, none, none, none]) (uptoI 1 n.toNat) (by
    intro x hx
    obtain ⟨g, hg⟩ := c_common (a := x) (b := n) (by omega) (by omega)
    by_cases q : g = 1
    · exact .inl (by simp [lcStep, dVarF_def, hg, q])
    · exact .inr (by simp [lcStep, dVarF_def, hg, q]))
  have one : (1 : Int) ∈ us := u3 1 ((mem_uptoI _ _ _).mpr (by omega)) (by simp [lcStep, dVarF_def, c_common1 n0])
  have ul : 1 ≤ us.length := List.length_pos_iff.mpr fun z => by rw [z] at one; cases one
  have ul2 : us.length ≤ 24 := by
    have := u1.length_le
    rw [length_uptoI] at this
    omega
  obtain ⟨b, b0, b1, hb⟩ := c_pick (ns := ns) (k := at_ + 30) (many := n) (by omega) (by omega) n0 hl
  obtain ⟨w, w0, w1, hww⟩ := c_pick (ns := ns) (k := at_ + 31) (many := (us.length : Int)) (by omega) (by omega) (by omega) hl
  have hwl : w.toNat < us.length := by omega
  have hix : ixD (.lst (iL us)) (.int w) = some ⟨.fz, .int us[w.toNat]⟩ := ix_lst w0 (get_iL _ _ hwl)
  have ht := (mem_uptoI _ _ _).mp (u1.subset (List.getElem_mem hwl))
  generalize us[w.toNat] = t at *
  have hfr : fitL (iL rh) = true := fitL_of (by simp; omega)
  have hfe : fitL (iL en) = true := fitL_of (by simp; omega)
  have hr1 := c_lbeats (n := n) (xs := rh.map (· * t + b)) (by omega) (by simp; omega) (.lst (iL (rh.map (· * t + b)))) rfl
  have he1 := c_lbeats (n := n) (xs := en.map (· * t)) (by omega) (by simp; omega) (.lst (iL (en.map (· * t)))) rfl
  rw [setI_beats (xs := rh.map (· * t + b)) (ys := rh.map (· * t + b)) (fun x => Iff.rfl)] at hr1
  rw [setI_beats (xs := en.map (· * t)) (ys := en.map (· * t)) (fun x => Iff.rfl)] at he1
  refine ⟨beatsI n (rh.map (· * t + b)), beatsI n (en.map (· * t)), beats_rh n0 (by omega) (fun z => by simp at z; rw [z] at b2; simp at b2), beats_rh n0 (by omega) (fun z => by simp at z; rw [z] at b3; simp at b3), Fin.run ?_⟩
  have mt : ∀ x : Int, mulA (.int x) (.int t) = some ⟨.fz, .int (x * t)⟩ := fun x => mulA_int (by omega) (by omega)
  have l1 : lcGoR (.one A14) dYes (dOpR addR (dOpR mulA (dVarF A14) (dVarF A12)) (dVarF A11)) [some (.fz (.scr ns)), some (.fz (.int at_)), some (.fz (.int n)), some (.fz (.lst (iL rh))), some (.fz (.lst (iL en))), some (.fz (.int step)), some (.fz (.int 1)), some (.fz (.int k)), y8, y9, some (.fz (.lst (iL us))), some (.fz (.int b)), some (.fz (.int t)), none, none] (iL rh) = .ok (iL (rh.map (· * t + b))) := by
    rw [lc_iL rh (fun x => .int (x * t + b)), map_int (· * t + b)]
    intro x hx
    simp [lcStep, dVarF_def, mt]
  have l2 : lcGoR (.one A14) dYes (dOpR mulA (dVarF A14) (dVarF A12)) [some (.fz (.scr ns)), some (.fz (.int at_)), some (.fz (.int n)), some (.fz (.lst (iL (rh.map (· * t + b))))), some (.fz (.lst (iL en))), some (.fz (.int step)), some (.fz (.int 1)), some (.fz (.int k)), y8, y9, some (.fz (.lst (iL us))), some (.fz (.int b)), some (.fz (.int t)), none, none] (iL en) = .ok (iL (en.map (· * t))) := by
    rw [lc_iL en (fun x => .int (x * t)), map_int (· * t)]
    intro x hx
    simp [lcStep, dVarF_def, mt]
  unfold b_u_law_round
  refine Fin.seq (st' := [some (.fz (.scr ns)), some (.fz (.int at_)), some (.fz (.int n)), some (.fz (.lst (iL [0]))), some (.fz (.lst (iL [0]))), some (.fz (.int 1)), some (.fz (.int n)), some (.fz (.int 0)), none, none, none, none, none, none, none]) (by simp [dVarF_def, dDisp, fits_le, dParF, setManyF, keepAs, iL_map]) ?_
  refine Fin.seq (st' := [some (.fz (.scr ns)), some (.fz (.int at_)), some (.fz (.int n)), some (.fz (.lst (iL rh))), some (.fz (.lst (iL en))), some (.fz (.int step)), some (.fz (.int 1)), some (.fz (.int k)), y8, y9, none, none, none, none, none]) hw ?_
  refine Fin.seq (st' := [some (.fz (.scr ns)), some (.fz (.int at_)), some (.fz (.int n)), some (.fz (.lst (iL rh))), some (.fz (.lst (iL en))), some (.fz (.int step)), some (.fz (.int 1)), some (.fz (.int k)), y8, y9, some (.fz (.lst (iL us))), none, none, none, none]) (by simp [dVarF_def, er, hfu, u2, keepAs]) ?_
  refine Fin.seq (st' := [some (.fz (.scr ns)), some (.fz (.int at_)), some (.fz (.int n)), some (.fz (.lst (iL rh))), some (.fz (.lst (iL en))), some (.fz (.int step)), some (.fz (.int 1)), some (.fz (.int k)), y8, y9, some (.fz (.lst (iL us))), some (.fz (.int b)), some (.fz (.int t)), none, none]) (by simp [dVarF_def, hb, hww, hix, dParF, setManyF, keepAs]) ?_
  refine Fin.seq (st' := [some (.fz (.scr ns)), some (.fz (.int at_)), some (.fz (.int n)), some (.fz (.lst (iL (rh.map (· * t + b))))), some (.fz (.lst (iL en))), some (.fz (.int step)), some (.fz (.int 1)), some (.fz (.int k)), y8, y9, some (.fz (.lst (iL us))), some (.fz (.int b)), some (.fz (.int t)), none, none]) (by simp [dVarF_def, hfr, l1, keepAs]) ?_
  exact Fin.rt (by simp [dVarF_def, hfe, l2, hr1, he1, dDisp, fits_le])
theorem upto_lt : ∀ (m : Nat) (lo : Int), (uptoI lo m).Pairwise (· < ·)
  | 0, _ => .nil
  | m + 1, lo => List.pairwise_cons.mpr ⟨fun x hx => by have := (mem_uptoI _ _ _).mp hx; omega, upto_lt m (lo + 1)⟩
theorem c_lrhythm {ns : List Int} {at_ n : Int} (hl : ns.length ≤ 63) (a0 : 0 ≤ at_) (a1 : at_ ≤ 800) (hn : n ∈ ringsL) : ∃ R, Rh n R ∧ d_u_law_rhythm [.scr ns, .int at_, .int n] = .ok ⟨.fz, .tup (iL R)⟩ := by
  obtain ⟨n0, n24⟩ := ring_bounds hn
  obtain ⟨v, v0, v1, hv⟩ := c_pick (ns := ns) (k := at_) (many := 2) (by omega) (by omega) (by omega) hl
  by_cases z : v = 0
  · obtain ⟨R, T, hR, hT, e⟩ := c_round (ns := ns) (at_ := at_ + 1) hl (by omega) (by omega) hn
    refine ⟨R, hR, Fin.run (Fin.seqR ?_)⟩
    have hix : ixD (.tup [.tup (iL R), .tup (iL T)]) (.int 0) = some ⟨.fz, .tup (iL R)⟩ := ix_tup (by omega) rfl
    simp [dVarF_def, hv, z, e, hix]
  · have er : rg1 [.int n] = some (iL (uptoI 0 n.toNat)) := rg1_int (by omega) (by omega)
    have hfu : fitL (iL (uptoI 0 n.toNat)) = true := fitL_of (by rw [iL_length, length_uptoI]; omega)
    obtain ⟨ys, y1, y2, _⟩ := lc_sub (p := .one A4) (dt := dTestR (dOpR eqR (dCallR d_u_law_pick (dConsR (dVarF A0) (dConsR (dOpR addR (dOpR addR (dVarF A1) (dLit (.int 40))) (dVarF A4)) (dConsR (dLit (.int 3)) (dNil))))) (dLit (.int 0))) trB) (de := dVarF A4) (st := [some (.fz (.scr ns)), some (.fz (.int at_)), some (.fz (.int n)), none, none]) (uptoI 0 n.toNat) (by
      intro x hx
      have hx' := (mem_uptoI _ _ _).mp hx
      obtain ⟨g, _, _, hg⟩ := c_pick (ns := ns) (k := at_ + 40 + x) (many := 3) (by omega) (by omega) (by omega) hl
      by_cases q : g = 0
      · exact .inl (by simp [lcStep, dVarF_def, hg, q])
      · exact .inr (by simp [lcStep, dVarF_def, hg, q]))
    obtain ⟨b, b0, b1, hb⟩ := c_pick (ns := ns) (k := at_ + 70) (many := n) (by omega) (by omega) n0 hl
    have e0 : neR (.lst (iL ys)) (.lst []) = some ⟨.fz, .bl (!decide (ys = []))⟩ := neR_lst ys []
    by_cases q : ys = []
    · refine ⟨[b], ⟨n0, by omega, by simp [isRh, beatB, risingB]; omega⟩, Fin.run ?_⟩
      unfold b_u_law_rhythm
      refine Fin.seq (st' := [some (.fz (.scr ns)), some (.fz (.int at_)), some (.fz (.int n)), none, none]) (by simp [dVarF_def, hv, z]) ?_
      refine Fin.seq (st' := [some (.fz (.scr ns)), some (.fz (.int at_)), some (.fz (.int n)), some (.fz (.lst (iL ys))), none]) (by simp [dVarF_def, er, hfu, y2, keepAs]) ?_
      have e00 : neR (.lst []) (.lst []) = some ⟨.fz, .bl false⟩ := neR_lst [] []
      exact Fin.rt (by simp [dVarF_def, dDisp, fits_le, e00, q, hb, iL_map])
    · refine ⟨ys, ?_, Fin.run ?_⟩
      · have hsub : ∀ x ∈ ys, 0 ≤ x ∧ x < n := fun x hx => by
          have := (mem_uptoI _ _ _).mp (y1.subset hx)
          omega
        have hlt : ys.Pairwise (· < ·) := List.Pairwise.sublist y1 (upto_lt _ _)
        refine ⟨n0, by omega, ?_⟩
        unfold isRh
        rw [rising_of hlt]
        have e1 : ys.isEmpty = false := by cases ys <;> simp_all
        have e2 : ys.all (beatB n) = true := by
          rw [List.all_eq_true]
          intro x hx
          have := hsub x hx
          simp [beatB]
          omega
        rw [e1, e2]
        rfl
      · unfold b_u_law_rhythm
        refine Fin.seq (st' := [some (.fz (.scr ns)), some (.fz (.int at_)), some (.fz (.int n)), none, none]) (by simp [dVarF_def, hv, z]) ?_
        refine Fin.seq (st' := [some (.fz (.scr ns)), some (.fz (.int at_)), some (.fz (.int n)), some (.fz (.lst (iL ys))), none]) (by simp [dVarF_def, er, hfu, y2, keepAs]) ?_
        exact Fin.rt (by simp [dVarF_def, dDisp, fits_le, e0, q])
end LawK

set_option Elab.async false
set_option linter.all false
set_option maxRecDepth 100000
namespace Mini
open PySem L2
theorem lc2_flat {a : Acc} {dt : DT} {di1 : DI} {p1 : PatF} {vs1 : List Acc} {dt1 : DT} {de : DE} {st : MSt} (g : Int → List Int) : ∀ (xs : List Int) (n : Nat), n + (xs.flatMap g).length ≤ 100000 →
    (∀ x, x ∈ xs → dt (a.s st (.fz (.int x))) = .ok true ∧ ∃ es : List D, es.length ≤ 100000 ∧ di1 (a.s st (.fz (.int x))) = .ok (true, es) ∧ lcGoR p1 dt1 de (wipeF (a.s st (.fz (.int x))) vs1) es = .ok (iL (g x))) →
    lc2GoF (.one a) dt di1 p1 vs1 dt1 de st (iL xs) n = .ok (iL (xs.flatMap g))
  | [], _, _, _ => by simp [lc2GoF]
  | x :: xs, n, hn, h => by
    obtain ⟨h1, es, h2, h3, h4⟩ := h x (by simp)
    have sl : (200000 : Nat) ≤ sizeLine := by decide +kernel
    have hl : n ≤ 100000 := by omega
    have e := lcGoR_eq p1 dt1 de (wipeF (a.s st (.fz (.int x))) vs1) es n (by omega)
    rw [h4] at e
    have ih := lc2_flat (a := a) (dt := dt) (di1 := di1) (p1 := p1) (vs1 := vs1) (dt1 := dt1) (de := de) (st := st) g xs (n + (iL (g x)).length) (by simp at hn ⊢; omega) fun y hy => h y (by simp [hy])
    rw [iL_cons]
    unfold lc2GoF
    rw [force2_eq, setPatF_one]
    simp only [h1, h3, ← e, ih, bind_ok, iL_append, List.flatMap_cons]
@[simp] theorem dLc2F_def (di : DI) (p : PatF) (vs : List Acc) (dt : DT) (di1 : DI) (p1 : PatF) (vs1 : List Acc) (dt1 : DT) (de : DE) (st : MSt) : dLc2F di p vs dt di1 p1 vs1 dt1 de st = (di st).bnd fun q => match lc2GoF p dt di1 p1 vs1 dt1 de (wipeF st vs) q.2 0 with
  | .ok ds => .ok ⟨.fr, .lst ds⟩
  | _ => .bad := by
  unfold dLc2F
  rw [Out.bnd_eq]
  all_goals rfl
theorem rg3_step {n g : Int} (h1 : 1 ≤ n) (h2 : n ≤ 36) (h3 : 1 ≤ g) (h4 : g ≤ 36) (h5 : g % n = 0) : rg3 [.int 0, .int g, .int n] = some (iL ((uptoI 0 (g / n).toNat).map (· * n))) := by
  have chk : ∀ n ∈ uptoI 1 36, ∀ g ∈ uptoI 1 36, g % n = 0 → okC 0 g n = true ∧ cntC 0 g n = (g / n).toNat := by decide +kernel
  obtain ⟨c1, c2⟩ := chk n ((mem_uptoI _ _ _).mpr (by omega)) g ((mem_uptoI _ _ _).mpr (by omega)) h5
  show (if okC 0 g n = true then some (uptoC 0 n (cntC 0 g n)) else none) = _
  rw [if_pos c1, c2]
  have e : ∀ (m : Nat) (k : Int), uptoC (k * n) n m = iL ((uptoI k m).map (· * n)) := by
    intro m
    induction m with
    | zero => intro k; rfl
    | succ m ih =>
      intro k
      show D.int (k * n) :: uptoC (k * n + n) n m = D.int (k * n) :: iL ((uptoI (k + 1) m).map (· * n))
      rw [← ih (k + 1), show (k + 1) * n = k * n + n by rw [Int.add_mul, Int.one_mul]]
  have := e (g / n).toNat 0
  rw [Int.zero_mul] at this
  rw [this]
end Mini

set_option Elab.async false
set_option linter.all false
set_option maxRecDepth 100000
namespace LawK
open PySem Mini
/-! ### how often a beat is struck, counted by entries -/
theorem mod_get (f : Int → Int) : ∀ (m : List Int) (i j : Nat), (m.modify i f)[j]? = if i = j then m[j]?.map f else m[j]? := fun m i j => by
  rw [List.getElem?_modify]
  by_cases h : i = j
  · simp [h]
  · simp [h]
theorem fold_count (b : Nat) : ∀ (L : List Nat) (m : List Int) (x : Int), m[b]? = some x → (L.foldl (fun m i => m.modify i (· + 1)) m)[b]? = some (x + L.count b)
  | [], m, x, h => by simpa using h
  | i :: L, m, x, h => by
    rw [List.foldl_cons]
    by_cases hi : i = b
    · rw [fold_count b L _ (x + 1) (by rw [mod_get, if_pos hi, h]; rfl), List.count_cons, if_pos (by simpa using hi)]
      congr 1
      omega
    · rw [fold_count b L _ x (by rw [mod_get, if_neg hi, h]), List.count_cons, if_neg (by simpa using hi)]
      simp
def sumsN (n : Int) (R T : List Int) : List Nat := R.flatMap fun r => T.map fun e => ((r + e) % n).toNat
theorem struck_sums (n : Int) : ∀ (R T : List Int) (m : List Int), R.foldl (fun m b => T.foldl (fun m e => m.modify ((b + e) % n).toNat (· + 1)) m) m = (sumsN n R T).foldl (fun m i => m.modify i (· + 1)) m
  | [], T, m => rfl
  | r :: R, T, m => by
    have e : sumsN n (r :: R) T = (T.map fun e => ((r + e) % n).toNat) ++ sumsN n R T := rfl
    rw [List.foldl_cons, struck_sums n R T, e, List.foldl_append, List.foldl_map]
/-- of two ways to count pairs -/
theorem swap_count (p : Int → Int → Bool) : ∀ (R T : List Int), (R.map fun r => T.countP (p r)).sum = (T.map fun e => R.countP fun r => p r e).sum
  | [], T => by
    have : ∀ T : List Int, (T.map fun e => ([] : List Int).countP fun r => p r e).sum = 0 := fun T => by
      induction T with
      | nil => rfl
      | cons t T ih => simpa using ih
    rw [this]
    rfl
  | r :: R, T => by
    rw [List.map_cons, List.sum_cons, swap_count p R T]
    induction T with
    | nil => rfl
    | cons t T ih =>
      simp only [List.map_cons, List.sum_cons, List.countP_cons] at ih ⊢
      omega
theorem countP_uniq {R : List Int} (h : R.Pairwise (· < ·)) (x : Int) : (R.countP fun r => decide (r = x)) = if x ∈ R then 1 else 0 := by
  induction R with
  | nil => rfl
  | cons a R ih =>
    have h' := List.pairwise_cons.mp h
    rw [List.countP_cons, ih h'.2]
    by_cases ha : a = x
    · subst ha
      have : a ∉ R := fun z => by have := h'.1 a z; omega
      simp [this]
    · have ha' : ¬ x = a := fun z => ha z.symm
      simp [ha, ha']
def cntS (n : Int) (R T : List Int) (b : Int) : Int := ((T.filter fun e => decide ((b - e) % n ∈ R)).length : Nat)
theorem mod_iff {n r e b : Int} (hn : 0 < n) (h0 : 0 ≤ r) (h1 : r < n) (b0 : 0 ≤ b) (b1 : b < n) : (r + e) % n = b ↔ r = (b - e) % n := by
  constructor
  · intro h
    rw [← h, Int.emod_sub_emod, show r + e - e = r by omega, Int.emod_eq_of_lt h0 h1]
  · intro h
    rw [h, Int.emod_add_emod, show b - e + e = b by omega, Int.emod_eq_of_lt b0 b1]
theorem sums_count {n b : Int} {R T : List Int} (h : Rh n R) (b0 : 0 ≤ b) (b1 : b < n) : ((sumsN n R T).count b.toNat : Int) = cntS n R T b := by
  have hn := h.pos
  have e1 : ∀ R : List Int, (∀ r ∈ R, 0 ≤ r ∧ r < n) → (sumsN n R T).count b.toNat = (R.map fun r => T.countP fun e => decide (r = (b - e) % n)).sum := by
    intro R hR
    induction R with
    | nil => rfl
    | cons r R ih =>
      have e : sumsN n (r :: R) T = (T.map fun e => ((r + e) % n).toNat) ++ sumsN n R T := rfl
      rw [e, List.count_append, ih fun x hx => hR x (by simp [hx]), List.map_cons, List.sum_cons]
      congr 1
      have hr := hR r (by simp)
      rw [List.count_eq_countP, List.countP_map]
      refine List.countP_congr fun x hx => ?_
      have := mod_iff (e := x) hn hr.1 hr.2 b0 b1
      have m0 := emod_ix (a := r + x) hn
      simp only [Function.comp, beq_iff_eq, decide_eq_true_eq]
      rw [← this]
      omega
  rw [e1 R fun r hr => h.mem hr, swap_count]
  unfold cntS
  congr 1
  have : ∀ T : List Int, (T.map fun e => R.countP fun r => decide (r = (b - e) % n)).sum = (T.filter fun e => decide ((b - e) % n ∈ R)).length := fun T => by
    induction T with
    | nil => rfl
    | cons t T ih =>
      rw [List.map_cons, List.sum_cons, ih, countP_uniq h.lt, List.filter_cons]
      by_cases hm : (b - t) % n ∈ R <;> simp [hm]
      omega
  exact this T
theorem struck_cnt {n : Int} {R T : List Int} (h : Rh n R) : struckI n R T = (uptoI 0 n.toNat).map (cntS n R T) := by
  refine List.ext_getElem? fun j => ?_
  by_cases hj : j < n.toNat
  · unfold struckI
    rw [struck_sums, fold_count j _ _ 0 (by rw [List.getElem?_replicate, if_pos hj])]
    have hu : ∀ (k : Nat) (lo : Int) (j : Nat), j < k → (uptoI lo k)[j]? = some (lo + j) := by
      intro k
      induction k with
      | zero => intro lo j h; omega
      | succ k ih =>
        intro lo j h
        cases j with
        | zero => simp [uptoI]
        | succ j =>
          have := ih (lo + 1) j (by omega)
          simp only [uptoI, List.getElem?_cons_succ, this]
          congr 1
          omega
    rw [List.getElem?_map, hu _ _ _ hj]
    have := sums_count (T := T) h (b := (j : Int)) (by omega) (by omega)
    rw [Int.toNat_natCast] at this
    simp [this]
  · rw [List.getElem?_eq_none (by rw [struckI_len]; omega), List.getElem?_eq_none (by rw [List.length_map, length_uptoI]; omega)]
theorem cntS_mod {n : Int} (R T : List Int) (b : Int) : cntS n R T (b % n) = cntS n R T b := by
  unfold cntS
  congr 2
  refine List.filter_congr fun x _ => ?_
  rw [Int.emod_sub_emod]
/-- round after round -/
theorem upto_add : ∀ (a b : Nat) (lo : Int), uptoI lo (a + b) = uptoI lo a ++ uptoI (lo + a) b
  | 0, b, lo => by simp [uptoI]
  | a + 1, b, lo => by
    rw [Nat.succ_add]
    show lo :: uptoI (lo + 1) (a + b) = lo :: (uptoI (lo + 1) a ++ _)
    rw [upto_add a b]
    congr 3
    push_cast
    omega
theorem rounds_map {n : Nat} (f : Int → Int) (hf : ∀ b, f (b % (n : Int)) = f b) : ∀ (k : Nat) (lo : Int), (lo % (n : Int) = 0) → (uptoI lo (n * k)).map f = (List.replicate k ((uptoI 0 n).map f)).flatten
  | 0, lo, _ => by simp [uptoI]
  | k + 1, lo, h => by
    have e : ∀ (m : Nat) (lo lo' : Int), lo % (n : Int) = lo' % (n : Int) → (uptoI lo m).map f = (uptoI lo' m).map f := by
      intro m
      induction m with
      | zero => intros; rfl
      | succ m ih =>
        intro lo lo' h
        show f lo :: _ = f lo' :: _
        rw [← hf lo, h, hf lo', ih (lo + 1) (lo' + 1) (by rw [Int.add_emod, h, ← Int.add_emod])]
    rw [show n * (k + 1) = n + n * k by rw [Nat.mul_succ]; omega, upto_add, List.map_append, List.replicate_succ, List.flatten_cons, rounds_map f hf k (lo + n) (by simp [h]), e n lo 0 (by rw [h]; simp)]
end LawK

set_option Elab.async false
set_option linter.all false
set_option maxRecDepth 100000
namespace LawK
open PySem Mini
/-! ### refusals -/
theorem r_look_ring {d : D} (h : isNum d 1 36 = false) : d_look_ring [d] = .exc ("NoRing" : Str) := by
  simp [d_look_ring, runD_fin, b_look_ring, dVarF_def, c_is_number, h]
/-- what is no rhythm of a ring -/
def NoRh (n : Int) (d : D) : Prop := d_is_rhythm_of [.int n, d] = .ok ⟨.fz, .bl false⟩
theorem norh_of {n : Int} {d : D} (h : isTy "tuple" (tyName d) = false) : NoRh n d := by
  simp [NoRh, d_is_rhythm_of, runD_fin, b_is_rhythm_of, dVarF_def, h]
theorem norh_tup {n : Int} {xs : List Int} (hl : xs.length ≤ 100000) (h : isRh n xs = false) : NoRh n (.tup (iL xs)) := by
  unfold NoRh
  rw [c_is_rhythm_of n xs hl, h]
theorem norh_bl {n : Int} {b : Bool} : NoRh n (.tup [.bl b]) := by
  have e0 : eqR (.tup [.bl b]) (.tup []) = some ⟨.fz, .bl false⟩ := by cases b <;> rfl
  have hl : fitL [.bl b] = true := fitL_of (by simp)
  unfold NoRh
  simp [d_is_rhythm_of, runD_fin, b_is_rhythm_of, dVarF_def, e0, hl, dDisp, fits_le]
  rw [lcGoR_cons]
  simp [lcStep, dVarF_def, c_is_number, isNum, onBls, blsD, lcGoR]
theorem r_look_rhythm1 {d e : D} (h : isNum d 1 36 = false) : d_look_rhythm [d, e] = .exc ("NoRing" : Str) := by
  simp [d_look_rhythm, runD_fin, b_look_rhythm, dVarF_def, r_look_ring h]
theorem r_look_rhythm2 {n : Int} {e : D} (h1 : 1 ≤ n) (h2 : n ≤ 36) (h : NoRh n e) : d_look_rhythm [.int n, e] = .exc ("NoRhythm" : Str) := by
  unfold NoRh at h
  simp [d_look_rhythm, runD_fin, b_look_rhythm, dVarF_def, c_look_ring h1 h2, h]
end LawK

set_option Elab.async false
set_option linter.all false
set_option maxRecDepth 100000
namespace LawK
open PySem Mini
theorem r_look_entries1 {d e f : D} (h : isNum d 1 36 = false) : d_look_entries [d, e, f] = .exc ("NoRing" : Str) := by
  simp [d_look_entries, runD_fin, b_look_entries, dVarF_def, r_look_rhythm1 h]
theorem r_look_entries2 {n : Int} {e f : D} (h1 : 1 ≤ n) (h2 : n ≤ 36) (h : NoRh n e) : d_look_entries [.int n, e, f] = .exc ("NoRhythm" : Str) := by
  simp [d_look_entries, runD_fin, b_look_entries, dVarF_def, r_look_rhythm2 h1 h2 h]
theorem r_look_entries3 {n : Int} {R : List Int} {f : D} (hR : Rh n R) (h : NoRh n f) : d_look_entries [.int n, .tup (iL R), f] = .exc ("NoEntries" : Str) := by
  unfold NoRh at h
  simp [d_look_entries, runD_fin, b_look_entries, dVarF_def, c_look_rhythm hR, h]
end LawK

set_option Elab.async false
set_option linter.all false
set_option maxRecDepth 100000
namespace LawK
open PySem Mini
/-! ### things that are none -/
/-! shapes -/
theorem pyAll_append : ∀ (xs ys : List D), D.pyAll (xs ++ ys) = D.pyAll xs ++ D.pyAll ys
  | [], ys => rfl
  | x :: xs, ys => by
    show x.py :: D.pyAll (xs ++ ys) = x.py :: (D.pyAll xs ++ D.pyAll ys)
    rw [pyAll_append xs ys]
theorem ne_shape {xs : List D} (hs : shaped (.tup xs) = true) (hn : isIL xs = false) (hx : xs ≠ []) : eqR (.tup xs) (.tup []) = some ⟨.fz, .bl false⟩ := by
  show (if (isIL xs && isIL []) = true then _ else eqV' false (.tup xs) (.tup [])) = _
  rw [hn, if_neg (by simp)]
  show (if (shaped (.tup xs) && shaped (.tup [])) = true then some (rz (.bl (eqD (.tup xs) (.tup [])))) else none) = _
  rw [hs, show shaped (.tup []) = true from by decide]
  cases xs with
  | nil => exact absurd rfl hx
  | cons x xs => rfl
def oddD (v : Int) : List D := [.non, .bl true, .str ("" : Str), .str ("A" : Str), .str ("5" : Str), .lst [.int 1], .tup [.non], .int (-1 - v), .str ("abcdefghi" : Str), .lst [.lst [.str ("a" : Str)]], .int 1000000000, .tup [.str ("a" : Str)]]
theorem pow9 : powD (.int 10) (.int 9) = some ⟨.fz, .int 1000000000⟩ := rfl
theorem c_odd {ns : List Int} {at_ : Int} (h1 : 0 ≤ at_) (h2 : at_ ≤ 10000) (hl : ns.length ≤ 63) : ∃ v, 0 ≤ v ∧ v < 9 ∧ d_u_law_odd [.scr ns, .int at_] = .ok ⟨.fr, .lst (oddD v)⟩ := by
  obtain ⟨v, v0, v1, hv⟩ := c_pick (ns := ns) (k := at_) (many := 9) h1 h2 (by omega) hl
  refine ⟨v, v0, v1, Fin.run ?_⟩
  unfold b_u_law_odd
  refine Fin.seq (st' := [some (.fz (.scr ns)), some (.fz (.int at_)), some (.fz (.lst [.non, .bl true, .str ("" : Str), .str ("A" : Str), .str ("5" : Str), .lst [.int 1], .tup [.non], .int (-1 - v), .str ("abcdefghi" : Str)]))]) (by simp [dVarF_def, dDisp, fits_le, hv, dNeg, keepAs]) ?_
  exact Fin.rt (by simp [dVarF_def, dDisp, fits_le, pow9, addR_lst, oddD])
theorem norh_one {n : Int} {d : D} (h : isNum d 0 (n - 1) = false) (e0 : eqR (.tup [d]) (.tup []) = some ⟨.fz, .bl false⟩) : NoRh n (.tup [d]) := by
  have hl : fitL [d] = true := fitL_of (by simp)
  unfold NoRh
  simp [d_is_rhythm_of, runD_fin, b_is_rhythm_of, dVarF_def, e0, hl, dDisp, fits_le]
  rw [lcGoR_cons]
  simp [lcStep, dVarF_def, c_is_number, h, onBls, blsD, lcGoR]
theorem norh_gen {n : Int} {xs : List D} (hl : xs.length ≤ 100000) (e0 : eqR (.tup xs) (.tup []) = some ⟨.fz, .bl false⟩) (h : (xs.map fun d => isNum d 0 (n - 1)).all id = false) : NoRh n (.tup xs) := by
  have hf : fitL xs = true := fitL_of hl
  have e : ∀ st1 : MSt, st1 = [some (.fz (.int n)), some (.fz (.tup xs)), none] → lcGoR (.one A2) dYes (dCallR d_is_number (dConsR (dVarF A2) (dConsR (dLit (.int 0)) (dConsR (dOpR subR (dVarF A0) (dLit (.int 1))) (dNil))))) st1 xs = .ok (xs.map fun d => .bl (isNum d 0 (n - 1))) := by
    rintro st1 rfl
    have := lc_map (.one A2) dYes (dCallR d_is_number (dConsR (dVarF A2) (dConsR (dLit (.int 0)) (dConsR (dOpR subR (dVarF A0) (dLit (.int 1))) (dNil))))) [some (.fz (.int n)), some (.fz (.tup xs)), none] (id : D → D) (fun d => .bl (isNum d 0 (n - 1))) xs (by
      intro d _
      simp [lcStep, dVarF_def, c_is_number])
    rw [List.map_id] at this
    exact this
  have h' : xs.all (fun d => isNum d 0 (n - 1)) = false := by
    rw [← h, List.all_map]
    rfl
  unfold NoRh
  simp [d_is_rhythm_of, runD_fin, b_is_rhythm_of, dVarF_def, e0, hf, dDisp, fits_le, e _ rfl, onBls_map, h']
theorem odd_none {n v : Int} (n0 : 1 ≤ n) (n1 : n ≤ 36) (v0 : 0 ≤ v) : ∀ d ∈ oddD v, isNum d 1 36 = false ∧ isNum d 0 1000 = false ∧ NoRh n d := by
  have e1 : ¬ 1 ≤ -1 - v := by omega
  have e2 : ¬ 0 ≤ -1 - v := by omega
  intro d hd
  simp only [oddD, List.mem_cons, List.not_mem_nil, or_false] at hd
  rcases hd with rfl | rfl | rfl | rfl | rfl | rfl | rfl | rfl | rfl | rfl | rfl | rfl
  · exact ⟨rfl, rfl, norh_of (by simp [tyName, isTy])⟩
  · exact ⟨rfl, rfl, norh_of (by simp [tyName, isTy])⟩
  · exact ⟨rfl, rfl, norh_of (by simp [tyName, isTy])⟩
  · exact ⟨rfl, rfl, norh_of (by simp [tyName, isTy])⟩
  · exact ⟨rfl, rfl, norh_of (by simp [tyName, isTy])⟩
  · exact ⟨rfl, rfl, norh_of (by simp [tyName, isTy])⟩
  · exact ⟨rfl, rfl, norh_one rfl rfl⟩
  · exact ⟨by simp [isNum]; omega, by simp [isNum]; omega, norh_of (by simp [tyName, isTy])⟩
  · exact ⟨rfl, rfl, norh_of (by simp [tyName, isTy])⟩
  · exact ⟨rfl, rfl, norh_of (by simp [tyName, isTy])⟩
  · exact ⟨by simp [isNum], by simp [isNum], norh_of (by simp [tyName, isTy])⟩
  · exact ⟨rfl, rfl, norh_one rfl (ne_shape (by decide +kernel) rfl (by simp))⟩
end LawK

set_option Elab.async false
set_option linter.all false
set_option maxRecDepth 100000
namespace LawK
open PySem Mini
/-! ### told -/
abbrev refD (x : Str) : D := .tup [.str ("refused" : Str), .str x]
theorem fs_NoRing : suiteE b_u_law_told ("NoRing" : Str) = .ok ⟨.fz, refD ("NoRing" : Str)⟩ := rfl
theorem fs_NoRhythm : suiteE b_u_law_told ("NoRhythm" : Str) = .ok ⟨.fz, refD ("NoRhythm" : Str)⟩ := rfl
theorem fs_NoEntries : suiteE b_u_law_told ("NoEntries" : Str) = .ok ⟨.fz, refD ("NoEntries" : Str)⟩ := rfl
theorem ne_self {xs : List D} (hs : shaped (.lst xs) = true) (hn : isIL xs = false) (hq : eqD (.lst xs) (.lst xs) = true) : neR (.lst xs) (.lst xs) = some ⟨.fz, .bl false⟩ := by
  show (if (isIL xs && isIL xs) = true then _ else eqV' true (.lst xs) (.lst xs)) = _
  rw [hn, if_neg (by simp)]
  show (if (shaped (.lst xs) && shaped (.lst xs)) = true then some (rz (.bl (!eqD (.lst xs) (.lst xs)))) else none) = _
  rw [hs, hq]
  rfl
theorem eq_self {xs : List D} (hs : shaped (.lst xs) = true) (hn : isIL xs = false) (hq : eqD (.lst xs) (.lst xs) = true) : eqR (.lst xs) (.lst xs) = some ⟨.fz, .bl true⟩ := by
  show (if (isIL xs && isIL xs) = true then _ else eqV' false (.lst xs) (.lst xs)) = _
  rw [hn, if_neg (by simp)]
  show (if (shaped (.lst xs) && shaped (.lst xs)) = true then some (rz (.bl (eqD (.lst xs) (.lst xs)))) else none) = _
  rw [hs, hq]
  rfl
theorem told_exc {de : DE} {st : MSt} {x : Str} {r : RV} (h : de st = .exc x) (hx : rdX x = true) (hf : suiteE b_u_law_told x = .ok r) : dTold rdX de (suiteE b_u_law_told) st = .ok r := by
  unfold dTold
  rw [h]
  simp only [hx, if_true, hf]
theorem told_ok {de : DE} {st : MSt} {r : RV} {fs : Str → Out RV} (h : de st = .ok r) : dTold rdX de fs st = .ok r := by
  unfold dTold
  rw [h]
end LawK

set_option Elab.async false
set_option linter.all false
set_option maxRecDepth 100000
namespace LawK
open PySem Mini
theorem eqv_ints : ∀ ns : List Int, PyData.eqvAll (D.pyAll (iL ns)) (D.pyAll (iL ns)) = true
  | [] => rfl
  | n :: ns => by
    show ((n == n) && PyData.eqvAll (D.pyAll (iL ns)) (D.pyAll (iL ns))) = true
    rw [eqv_ints ns]
    simp
/-- a thing that is no more than a tuple of ints, or a refusal told -/
inductive Flat : D → Prop
  | nums (ns : List Int) : Flat (.tup (iL ns))
  | refd (a b : Str) (h : (D.tup [.str a, .str b]).py.canLay0 = true) : Flat (.tup [.str a, .str b])
theorem Flat.lay {d : D} (h : Flat d) : d.py.canLay0 = true ∧ d.py.depth ≤ 1 ∧ PyData.eqv d.py d.py = true := by
  cases h with
  | nums ns =>
    obtain ⟨q1, q2⟩ := isIL_lay (isIL_iL ns)
    exact ⟨q1, by show PyData.depthAll (D.pyAll (iL ns)) + 1 ≤ 1; omega, eqv_ints ns⟩
  | refd a b hab =>
    refine ⟨hab, Nat.le_refl 1, ?_⟩
    show ((a == a) && ((b == b) && true)) = true
    simp
theorem lay_all : ∀ {ds : List D}, (∀ d ∈ ds, Flat d) → PyData.canLayAll0 (D.pyAll ds) = true ∧ PyData.depthAll (D.pyAll ds) ≤ 1 ∧ PyData.eqvAll (D.pyAll ds) (D.pyAll ds) = true
  | [], _ => ⟨rfl, by decide, rfl⟩
  | d :: ds, h => by
    obtain ⟨a1, a2, a3⟩ := (h d (by simp)).lay
    obtain ⟨b1, b2, b3⟩ := lay_all (ds := ds) fun e he => h e (by simp [he])
    refine ⟨?_, ?_, ?_⟩
    · show (d.py.canLay0 && PyData.canLayAll0 (D.pyAll ds)) = true
      rw [a1, b1]
      rfl
    · show max d.py.depth (PyData.depthAll (D.pyAll ds)) ≤ 1
      omega
    · show (PyData.eqv d.py d.py && PyData.eqvAll (D.pyAll ds) (D.pyAll ds)) = true
      rw [a3, b3]
      rfl
theorem ne_flats {d : D} {ds : List D} (h : ∀ e ∈ d :: ds, Flat e) : neR (.lst (d :: ds)) (.lst (d :: ds)) = some ⟨.fz, .bl false⟩ := by
  obtain ⟨b1, b2, b3⟩ := lay_all h
  refine ne_self ?_ ?_ b3
  · have a1 : (D.lst (d :: ds)).py.canLay0 = true := b1
    have a2 : (D.lst (d :: ds)).py.depth ≤ 64 := by
      show PyData.depthAll (D.pyAll (d :: ds)) + 1 ≤ 64
      omega
    unfold shaped SeqAt.shaped
    simp [a1, a2]
  · cases h d (by simp) <;> rfl
theorem ne_flat {d : D} (h : Flat d) : neR d d = some ⟨.fz, .bl false⟩ := by
  obtain ⟨a1, a2, a3⟩ := h.lay
  cases h with
  | nums ns => rw [neR_tup]; simp
  | refd a b hab =>
    show eqV' true (.tup [.str a, .str b]) (.tup [.str a, .str b]) = _
    have hs : shaped (.tup [.str a, .str b]) = true := by
      unfold shaped SeqAt.shaped
      simp [a1]
      omega
    show (if (shaped _ && shaped _) = true then some (rz (.bl (!eqD (.tup [.str a, .str b]) (.tup [.str a, .str b])))) else none) = _
    rw [hs]
    unfold eqD
    rw [a3]
    rfl
/-- a loop that keeps a thing -/
theorem for_inv {p : PatF} {body : DS} (R : MSt → Prop) : ∀ (ds : List D) (st : MSt), R st → (∀ d ∈ ds, ∀ st, R st → Nx R (setPatF p d st body)) → Nx R (forGoR p body ds st)
  | [], st, h, _ => ⟨st, rfl, h⟩
  | d :: ds, st, h, s => by
    have := for_pre (p := p) (body := body) (st := st) (id : D → D) (d :: ds) (fun _ => R) h (fun pre x post e st hr => s x (by rw [e]; simp) st hr)
    rw [List.map_id] at this
    exact this
end LawK

set_option Elab.async false
set_option linter.all false
set_option maxRecDepth 100000
namespace LawK
open PySem Mini
/-! ### the law's own count of what is struck -/
def sumsI (n : Int) (R T : List Int) : List Int := R.flatMap fun r => T.map fun e => (r + e) % n
theorem sumsI_len (n : Int) (T : List Int) : ∀ R : List Int, (sumsI n R T).length = R.length * T.length
  | [] => by simp [sumsI]
  | r :: R => by
    have := sumsI_len n T R
    unfold sumsI at this ⊢
    rw [List.flatMap_cons, List.length_append, this, List.length_map, List.length_cons, Nat.add_mul, Nat.one_mul, Nat.add_comm]
theorem sumsN_eq (n : Int) (T : List Int) : ∀ R : List Int, sumsN n R T = (sumsI n R T).map Int.toNat
  | [] => rfl
  | r :: R => by
    have := sumsN_eq n T R
    unfold sumsN sumsI at this ⊢
    rw [List.flatMap_cons, List.flatMap_cons, this, List.map_append, List.map_map]
    rfl
theorem count_nat : ∀ (xs : List Int) (j : Nat), (∀ x ∈ xs, 0 ≤ x) → (xs.map Int.toNat).count j = xs.count (j : Int)
  | [], j, _ => rfl
  | x :: xs, j, h => by
    have ih := count_nat xs j fun y hy => h y (by simp [hy])
    have hx := h x (by simp)
    rw [List.map_cons, List.count_cons, List.count_cons, ih]
    by_cases q : x = (j : Int)
    · subst q
      simp
    · have : ¬ x.toNat = j := by omega
      simp [q, this]
theorem sumsI_nn {n : Int} {R T : List Int} (hn : 0 < n) : ∀ x ∈ sumsI n R T, 0 ≤ x := by
  intro x hx
  unfold sumsI at hx
  simp only [List.mem_flatMap, List.mem_map] at hx
  obtain ⟨r, _, e, _, rfl⟩ := hx
  exact Int.emod_nonneg _ (by omega)
theorem upto_get : ∀ (k : Nat) (lo : Int) (j : Nat), j < k → (uptoI lo k)[j]? = some (lo + j)
  | 0, lo, j, h => by omega
  | k + 1, lo, 0, h => by simp [uptoI]
  | k + 1, lo, j + 1, h => by
    have := upto_get k (lo + 1) j (by omega)
    simp only [uptoI, List.getElem?_cons_succ, this]
    congr 1
    omega
theorem struck_count {n : Int} (R T : List Int) (hn : 0 < n) : struckI n R T = (uptoI 0 n.toNat).map fun b => ((sumsI n R T).count b : Int) := by
  refine List.ext_getElem? fun j => ?_
  by_cases hj : j < n.toNat
  · rw [List.getElem?_map, upto_get _ _ _ hj]
    unfold struckI
    rw [struck_sums, fold_count j _ _ 0 (by rw [List.getElem?_replicate, if_pos hj]), sumsN_eq, count_nat _ _ (sumsI_nn hn)]
    simp
  · rw [List.getElem?_eq_none (by rw [struckI_len]; omega), List.getElem?_eq_none (by rw [List.length_map, length_uptoI]; omega)]
theorem cntOf_int (b : Int) : ∀ xs : List Int, allScal (iL xs) = true ∧ cntOf (.int b) (iL xs) = xs.count b
  | [] => ⟨rfl, rfl⟩
  | x :: xs => by
    obtain ⟨h1, h2⟩ := cntOf_int b xs
    refine ⟨h1, ?_⟩
    have e : eqS (.int x) (.int b) = decide (x = b) := rfl
    rw [iL_cons, List.count_cons, ← h2]
    show (if eqS (.int x) (.int b) = true then 1 else 0) + cntOf (.int b) (iL xs) = _
    rw [e]
    by_cases q : x = b <;> simp [q]
    omega
theorem cnt_int {da : DE} {dl : DA} {st : MSt} {xs : List Int} {b : Int} {k k1 : Kd} (h1 : da st = .ok ⟨k, .lst (iL xs)⟩) (h2 : dl st = .ok [⟨k1, .int b⟩]) : dCnt da dl st = .ok ⟨.fz, .int (xs.count b : Int)⟩ := by
  obtain ⟨e1, e2⟩ := cntOf_int b xs
  unfold dCnt
  rw [h1]
  simp only [bind_ok]
  rw [h2]
  simp only [bind_ok]
  show Out.of (if (true && allScal (iL xs)) = true then some (⟨.fz, .int (cntOf (.int b) (iL xs) : Nat)⟩ : RV) else none) = _
  rw [e1, e2]
  rfl
theorem c_lstruck {n : Int} {R T : List Int} (h : Rh n R) (h' : Rh n T) : d_u_law_struck [.int n, .tup (iL R), .tup (iL T)] = .ok ⟨.fr, .lst (iL (struckI n R T))⟩ := by
  have hlo := h.lo
  have hhi := h.hi
  have hs := h.short
  have hs' := h'.short
  have er : rg1 [.int n] = some (iL (uptoI 0 n.toNat)) := rg1_int (by omega) (by omega)
  have hf : fitL (iL R) = true := fitL_of (by simp; omega)
  have hf' : fitL (iL T) = true := fitL_of (by simp; omega)
  have hfu : fitL (iL (uptoI 0 n.toNat)) = true := fitL_of (by rw [iL_length, length_uptoI]; omega)
  refine Fin.run ?_
  unfold b_u_law_struck
  refine Fin.seq (st' := [some (.fz (.int n)), some (.fz (.tup (iL R))), some (.fz (.tup (iL T))), some (.own (.lst (iL []))), none, none]) (by simp [dDisp, fits_le, keepAs]) ?_
  refine Fin.for (ds := iL R) (R := fun st => ∃ x4 x5, st = [some (.fz (.int n)), some (.fz (.tup (iL R))), some (.fz (.tup (iL T))), some (.own (.lst (iL (sumsI n R T)))), x4, x5]) (by simp [dVarF_def, hf]) ?_ ?_
  · refine for_pre D.int R (fun pre st => ∃ x4 x5, st = [some (.fz (.int n)), some (.fz (.tup (iL R))), some (.fz (.tup (iL T))), some (.own (.lst (iL (sumsI n pre T)))), x4, x5]) ⟨_, _, rfl⟩ ?_
    rintro pre k post e st ⟨x4, x5, rfl⟩
    have hp : pre.length ≤ 64 := by
      have := congrArg List.length e
      rw [List.length_append, List.length_cons] at this
      omega
    have hb : (sumsI n pre T).length ≤ 10000 := by
      rw [sumsI_len]
      exact Nat.le_trans (Nat.mul_le_mul hp (by omega : T.length ≤ 64)) (by decide)
    have hlc : ∀ x3, lcGoR (.one A5) dYes (dOpR modR (dOpR addR (dVarF A4) (dVarF A5)) (dVarF A0)) [some (.fz (.int n)), some (.fz (.tup (iL R))), some (.fz (.tup (iL T))), x3, some (.fz (.int k)), none] (iL T) = .ok (iL (T.map fun e => (k + e) % n)) := by
      intro x3
      rw [lc_iL T (fun x => .int ((k + x) % n)), map_int (fun e => (k + e) % n)]
      intro x hx
      simp [lcStep, dVarF_def, modR_int h.pos]
    refine Exists.intro [some (.fz (.int n)), some (.fz (.tup (iL R))), some (.fz (.tup (iL T))), some (.own (.lst (iL (sumsI n (pre ++ [k]) T)))), some (.fz (.int k)), x5] (And.intro ?_ ⟨_, _, rfl⟩)
    rw [setPatF_one, A4_s]
    rw [mut_ext (a := A3) (ds := iL (sumsI n pre T)) (es := iL (T.map fun e => (k + e) % n)) (k := .fr) rfl (by simp [dVarF_def, hf', hlc]) (by simp; omega), A3_s, iL_append]
    simp [sumsI]
  · rintro st ⟨x4, x5, rfl⟩
    refine Fin.rt ?_
    simp [dVarF_def, er, hfu]
    rw [lc_iL (uptoI 0 n.toNat) (fun b => .int ((sumsI n R T).count b : Int))]
    · rw [struck_count R T h.pos, map_int fun b => ((sumsI n R T).count b : Int)]
      simp
    · intro b hb
      simp [lcStep]
      rw [cnt_int (k := .bor) (k1 := .fz) (xs := sumsI n R T) (b := b) (by simp [dVarF_def]) (by simp [dVarF_def])]
      simp
end LawK

set_option Elab.async false
set_option linter.all false
set_option maxRecDepth 100000
namespace LawK
open PySem Mini
/-! ### is_whole, gap -/
def wholeI (n : Int) (R T : List Int) : Bool := decide (struckI n R T = List.replicate n.toNat 1)
theorem mul_ones {n : Int} (h0 : 0 ≤ n) (h1 : n ≤ 1000) : mulA (.lst [.int 1]) (.int n) = some ⟨.fr, .lst (iL (List.replicate n.toNat 1))⟩ := by
  rw [mulA_rep h0 h1]
  simp [iL]
theorem c_is_whole {n : Int} {R T : List Int} (h : Rh n R) (h' : Rh n T) : d_is_whole [.int n, .tup (iL R), .tup (iL T)] = .ok ⟨.fz, .bl (wholeI n R T)⟩ := by
  have hlo := h.lo
  have hhi := h.hi
  simp [d_is_whole, runD_fin, b_is_whole, dVarF_def, c_look_entries h h', d_is_plain_whole, b_is_plain_whole, c_plain_struck h.pos (by omega : n ≤ 1000), dDisp, fits_le, mul_ones (by omega : 0 ≤ n) (by omega), eqR_lst, wholeI]
end LawK

set_option Elab.async false
set_option linter.all false
set_option maxRecDepth 100000
namespace LawK
open PySem Mini
theorem anyS_int (b : Int) : ∀ xs : List Int, anyS (.int b) (iL xs) = decide (b ∈ xs)
  | [] => by simp [anyS, iL]
  | x :: xs => by
    have ih := anyS_int b xs
    show (decide (x = b) || anyS (.int b) (iL xs)) = _
    rw [ih]
    by_cases q : x = b
    · simp [q]
    · have : ¬ b = x := fun z => q z.symm
      simp [q, this]
theorem in_ints (neg : Bool) (b : Int) (xs : List Int) : inD neg (.int b) (.lst (iL xs)) = some ⟨.fz, .bl (if neg = true then !decide (b ∈ xs) else decide (b ∈ xs))⟩ := by
  have h := (cntOf_int b xs).1
  unfold inD inS
  simp [seqD, h, anyS_int, D.scal, rz]
def ixI (b : Int) (xs : List Int) : D := if b ∈ xs then .int (xs.idxOf b : Nat) else .non
theorem ixOf_int (b : Int) : ∀ xs : List Int, b ∈ xs → ixOf (.int b) (iL xs) = some (xs.idxOf b)
  | [], h => by cases h
  | x :: xs, h => by
    show (if decide (x = b) = true then some 0 else (ixOf (.int b) (iL xs)).map (· + 1)) = _
    by_cases q : x = b
    · simp [q]
    · have : b ∈ xs := by
        rcases List.mem_cons.mp h with rfl | z
        · exact absurd rfl q
        · exact z
      rw [ixOf_int b xs this]
      have q' : (x == b) = false := by simpa using q
      simp [q, List.idxOf_cons, q']
theorem idx_int {da : DE} {dl : DA} {st : MSt} {xs : List Int} {b : Int} {k k1 : Kd} (h1 : da st = .ok ⟨k, .lst (iL xs)⟩) (h2 : dl st = .ok [⟨k1, .int b⟩]) (hm : b ∈ xs) : dIdx da dl st = .ok ⟨.fz, .int (xs.idxOf b : Nat)⟩ := by
  have e1 := (cntOf_int b xs).1
  unfold dIdx
  rw [h1]
  simp only [bind_ok]
  rw [h2]
  simp only [bind_ok]
  show Out.of (if (true && allScal (iL xs)) = true then (ixOf (.int b) (iL xs)).map (fun j => (⟨.fz, .int (j : Nat)⟩ : RV)) else none) = _
  rw [e1, ixOf_int b xs hm]
  rfl
theorem c_gap {n : Int} {R T : List Int} (h : Rh n R) (h' : Rh n T) : d_gap [.int n, .tup (iL R), .tup (iL T)] = .ok ⟨.fz, ixI 0 (struckI n R T)⟩ := by
  have hhi := h.hi
  by_cases q : (0 : Int) ∈ struckI n R T
  · have e := idx_int (da := dVarF A3) (dl := dConsR (dLit (.int 0)) (dNil)) (st := [some (.fz (.int n)), some (.fz (.tup (iL R))), some (.fz (.tup (iL T))), some (.fz (.lst (iL (struckI n R T))))]) (k := .fz) (k1 := .fz) (by simp [dVarF_def]) (by simp) q
    simp [d_gap, runD_fin, b_gap, dVarF_def, c_look_entries h h', c_plain_struck h.pos (by omega : n ≤ 1000), keepAs, in_ints, q, e, ixI]
  · simp [d_gap, runD_fin, b_gap, dVarF_def, c_look_entries h h', c_plain_struck h.pos (by omega : n ≤ 1000), keepAs, in_ints, q, ixI]
end LawK

set_option Elab.async false
set_option linter.all false
set_option maxRecDepth 100000
namespace Mini
open PySem L2
theorem lc2_flatD {a : Acc} {dt : DT} {di1 : DI} {p1 : PatF} {vs1 : List Acc} {dt1 : DT} {de : DE} {st : MSt} (g : Int → List D) : ∀ (xs : List Int) (n : Nat), n + (xs.flatMap g).length ≤ 100000 →
    (∀ x, x ∈ xs → dt (a.s st (.fz (.int x))) = .ok true ∧ ∃ es : List D, es.length ≤ 100000 ∧ di1 (a.s st (.fz (.int x))) = .ok (true, es) ∧ lcGoR p1 dt1 de (wipeF (a.s st (.fz (.int x))) vs1) es = .ok (g x)) →
    lc2GoF (.one a) dt di1 p1 vs1 dt1 de st (iL xs) n = .ok (xs.flatMap g)
  | [], _, _, _ => by simp [lc2GoF]
  | x :: xs, n, hn, h => by
    obtain ⟨h1, es, h2, h3, h4⟩ := h x (by simp)
    have sl : (200000 : Nat) ≤ sizeLine := by decide +kernel
    have hl : n ≤ 100000 := by omega
    have e := lcGoR_eq p1 dt1 de (wipeF (a.s st (.fz (.int x))) vs1) es n (by omega)
    rw [h4] at e
    have ih := lc2_flatD (a := a) (dt := dt) (di1 := di1) (p1 := p1) (vs1 := vs1) (dt1 := dt1) (de := de) (st := st) g xs (n + (g x).length) (by simp at hn ⊢; omega) fun y hy => h y (by simp [hy])
    rw [iL_cons]
    unfold lc2GoF
    rw [force2_eq, setPatF_one]
    simp only [h1, h3, ← e, ih, bind_ok, List.flatMap_cons]
end Mini

set_option Elab.async false
set_option linter.all false
set_option maxRecDepth 100000
namespace LawK
open PySem Mini
def pairsI (R T : List Int) : List (Int × Int) := R.flatMap fun r => T.map fun e => (r, e)
def sameB (n : Int) (p q : Int × Int) : Bool := decide ((p.1 + p.2 - (q.1 + q.2)) % n = 0)
/-- the first pair with a later one alike, and that -/
def clashI (n : Int) : List (Int × Int) → Option ((Int × Int) × (Int × Int))
  | [] => none
  | p :: ps => match ps.find? (sameB n p) with
    | some q => some (p, q)
    | none => clashI n ps
theorem clash_ix (n : Int) : ∀ (P : List (Int × Int)) (k : Nat) (Q : List (Int × Int)), Q.drop k = P → (P.zipIdx k).findSome? (fun z => ((Q.drop (z.2 + 1)).find? (sameB n z.1)).map fun q => (z.1, q)) = clashI n P
  | [], k, Q, h => rfl
  | p :: ps, k, Q, h => by
    have e : Q.drop (k + 1) = ps := by
      rw [← List.drop_drop, h]
      rfl
    have ih := clash_ix n ps (k + 1) Q e
    rw [List.zipIdx_cons, List.findSome?_cons, e]
    unfold clashI
    cases q : ps.find? (sameB n p) with
    | some r => simp
    | none => simpa using ih
end LawK


set_option Elab.async false
set_option linter.all false
set_option maxRecDepth 100000
namespace LawK
open PySem Mini
/-! ### the law's own first clash -/
theorem lt2_irr (p : Int × Int) : lt2 p p = false := by simp [lt2]
theorem lt2_trans {p q r : Int × Int} (h : lt2 p q = true) (h' : lt2 q r = true) : lt2 p r = true := by
  unfold lt2 at *
  split at h <;> split at h' <;> split <;> simp_all <;> omega
theorem lt2_asymm {p q : Int × Int} (h : lt2 p q = true) : lt2 q p = false := by
  cases e : lt2 q p with
  | false => rfl
  | true => have := lt2_trans h e; rw [lt2_irr] at this; cases this
abbrev PP := (Int × Int) × (Int × Int)
theorem lt4_irr (p : PP) : lt4 p p = false := by simp [lt4, lt2_irr]
theorem lt4_trans {p q r : PP} (h : lt4 p q = true) (h' : lt4 q r = true) : lt4 p r = true := by
  unfold lt4 at *
  by_cases a : p.1 = q.1
  · rw [if_pos a] at h
    by_cases b : q.1 = r.1
    · rw [if_pos b] at h'
      rw [if_pos (a.trans b)]
      exact lt2_trans h h'
    · rw [if_neg b] at h'
      rw [a, if_neg b]
      exact h'
  · rw [if_neg a] at h
    by_cases b : q.1 = r.1
    · rw [← b, if_neg a]
      exact h
    · rw [if_neg b] at h'
      have := lt2_trans h h'
      by_cases c : p.1 = r.1
      · rw [c, lt2_irr] at this
        cases this
      · rw [if_neg c]
        exact this
theorem lt4_asymm {p q : PP} (h : lt4 p q = true) : lt4 q p = false := by
  cases e : lt4 q p with
  | false => rfl
  | true => have := lt4_trans h e; rw [lt4_irr] at this; cases this
def condB (n : Int) (z : PP) : Bool := sameB n z.1 z.2 && lt2 z.1 z.2
def stepF (n : Int) (f : Option PP) (z : PP) : Option PP := if condB n z = true ∧ (∀ w, f = some w → lt4 z w = true) then some z else f
theorem stepF_none (n : Int) (z : PP) : stepF n none z = if condB n z = true then some z else none := by
  unfold stepF
  by_cases h : condB n z = true <;> simp [h]
theorem fold_stays (n : Int) (w : PP) : ∀ L : List PP, (∀ z ∈ L, lt4 w z = true) → L.foldl (stepF n) (some w) = some w
  | [], _ => rfl
  | z :: L, h => by
    have h1 := lt4_asymm (h z (by simp))
    have e : stepF n (some w) z = some w := by
      unfold stepF
      rw [if_neg]
      rintro ⟨_, q⟩
      rw [q w rfl] at h1
      cases h1
    rw [List.foldl_cons, e]
    exact fold_stays n w L fun z hz => h z (by simp [hz])
theorem fold_first (n : Int) : ∀ L : List PP, L.Pairwise (fun z w => lt4 z w = true) → L.foldl (stepF n) none = L.find? (condB n)
  | [], _ => rfl
  | z :: L, h => by
    obtain ⟨h1, h2⟩ := List.pairwise_cons.mp h
    rw [List.foldl_cons, stepF_none, List.find?_cons]
    cases e : condB n z with
    | true => simpa using fold_stays n z L h1
    | false => simpa using fold_first n L h2
theorem pairs_lt {R T : List Int} (hR : R.Pairwise (· < ·)) (hT : T.Pairwise (· < ·)) : (pairsI R T).Pairwise (fun p q => lt2 p q = true) := by
  unfold pairsI
  rw [List.pairwise_flatMap]
  refine ⟨fun r _ => ?_, ?_⟩
  · rw [List.pairwise_map]
    exact hT.imp fun h => by simp [lt2, h]
  · refine hR.imp fun {a b} h => ?_
    intro x hx y hy
    obtain ⟨e, _, rfl⟩ := List.mem_map.mp hx
    obtain ⟨e', _, rfl⟩ := List.mem_map.mp hy
    have : ¬ a = b := by omega
    simp [lt2, this, h]
def quads (P : List (Int × Int)) : List PP := P.flatMap fun p => P.map fun q => (p, q)
theorem quads_lt {P : List (Int × Int)} (h : P.Pairwise (fun p q => lt2 p q = true)) : (quads P).Pairwise (fun z w => lt4 z w = true) := by
  unfold quads
  rw [List.pairwise_flatMap]
  refine ⟨fun p _ => ?_, ?_⟩
  · rw [List.pairwise_map]
    exact h.imp fun h => by simp [lt4, h]
  · refine h.imp fun {a b} h => ?_
    intro x hx y hy
    obtain ⟨e, _, rfl⟩ := List.mem_map.mp hx
    obtain ⟨e', _, rfl⟩ := List.mem_map.mp hy
    have : ¬ a = b := fun z => by rw [z, lt2_irr] at h; cases h
    simp [lt4, this, h]
theorem find_flat {α β : Type} (f : α → List β) (p : β → Bool) : ∀ L : List α, (L.flatMap f).find? p = L.findSome? fun a => (f a).find? p
  | [] => rfl
  | a :: L => by
    rw [List.flatMap_cons, List.find?_append, List.findSome?_cons, find_flat f p L]
    cases (f a).find? p <;> rfl
theorem clash_quads (n : Int) : ∀ (P Q : List (Int × Int)), (∀ p ∈ P, ∀ q ∈ Q, lt2 q p = true) → P.Pairwise (fun p q => lt2 p q = true) → (P.findSome? fun p => ((Q ++ P).map fun q => (p, q)).find? (condB n)) = clashI n P
  | [], _, _, _ => rfl
  | p :: P, Q, h0, h => by
    obtain ⟨h1, h2⟩ := List.pairwise_cons.mp h
    have e : ((Q ++ p :: P).map fun q => (p, q)).find? (condB n) = (P.find? (sameB n p)).map fun q => (p, q) := by
      rw [List.map_append, List.find?_append, List.map_cons, List.find?_cons]
      have e1 : (Q.map fun q => (p, q)).find? (condB n) = none := by
        rw [List.find?_eq_none]
        intro z hz
        obtain ⟨q, hq, rfl⟩ := List.mem_map.mp hz
        simp [condB, lt2_asymm (h0 p (by simp) q hq)]
      have e2 : condB n (p, p) = false := by simp [condB, lt2_irr]
      rw [e1, e2]
      simp only [Option.none_or]
      rw [List.find?_map]
      congr 1
      clear h0 h2 h e1 e2
      induction P with
      | nil => rfl
      | cons q P ih =>
        rw [List.find?_cons, List.find?_cons, ih fun z hz => h1 z (by simp [hz])]
        have : (condB n ∘ fun q => (p, q)) q = sameB n p q := by simp [condB, h1 q (by simp)]
        rw [this]
    rw [List.findSome?_cons, e]
    unfold clashI
    cases P.find? (sameB n p) with
    | some q => rfl
    | none =>
      have := clash_quads n P (Q ++ [p]) (fun a ha b hb => by
        rcases List.mem_append.mp hb with hb | hb
        · exact h0 a (by simp [ha]) b hb
        · simp at hb; subst hb; exact h1 a ha) h2
      simpa using this
/-- four loops -/
def foundI (n : Int) (R T : List Int) : Option PP := R.foldl (fun s r => T.foldl (fun s e => R.foldl (fun s o => T.foldl (fun s m => stepF n s ((r, e), (o, m))) s) s) s) none
theorem foldl_flat {α β σ : Type} (f : α → List β) (g : σ → β → σ) : ∀ (L : List α) (s : σ), (L.flatMap f).foldl g s = L.foldl (fun s a => (f a).foldl g s) s
  | [], s => rfl
  | a :: L, s => by rw [List.flatMap_cons, List.foldl_append, foldl_flat f g L, List.foldl_cons]
theorem found_quads (n : Int) (R T : List Int) : foundI n R T = (quads (pairsI R T)).foldl (stepF n) none := by
  unfold quads foundI
  rw [foldl_flat]
  unfold pairsI
  rw [foldl_flat]
  congr 1
  funext s r
  rw [List.foldl_map]
  congr 1
  funext s e
  rw [List.foldl_map, foldl_flat]
  congr 1
  funext s o
  rw [List.foldl_map]
theorem found_clash {n : Int} {R T : List Int} (hR : R.Pairwise (· < ·)) (hT : T.Pairwise (· < ·)) : foundI n R T = clashI n (pairsI R T) := by
  have h := pairs_lt hR hT
  rw [found_quads, fold_first n _ (quads_lt h)]
  unfold quads
  rw [find_flat]
  simpa using clash_quads n (pairsI R T) [] (by simp) h
/-! whole just without both -/
theorem clash_none (n : Int) : ∀ P : List (Int × Int), clashI n P = none ↔ (P.map fun p => (p.1 + p.2) % n).Nodup
  | [] => by simp [clashI]
  | p :: P => by
    rw [List.map_cons, List.nodup_cons, ← clash_none n P]
    have e0 : clashI n (p :: P) = match P.find? (sameB n p) with
      | some q => some (p, q)
      | none => clashI n P := rfl
    rw [e0]
    cases e : P.find? (sameB n p) with
    | some q =>
      simp only [reduceCtorEq, false_iff]
      rintro ⟨h, _⟩
      refine h (List.mem_map.mpr ⟨q, List.mem_of_find?_eq_some e, ?_⟩)
      have := List.find?_some e
      simp only [sameB, decide_eq_true_eq] at this
      exact (Int.emod_eq_emod_iff_emod_sub_eq_zero.mpr this).symm
    | none =>
      simp only
      constructor
      · intro h
        refine ⟨?_, h⟩
        intro hm
        obtain ⟨q, hq, hs⟩ := List.mem_map.mp hm
        rw [List.find?_eq_none] at e
        refine e q hq ?_
        simp only [sameB, decide_eq_true_eq]
        exact Int.emod_eq_emod_iff_emod_sub_eq_zero.mp hs.symm
      · exact fun h => h.2
theorem pairs_sums (n : Int) (R T : List Int) : ((pairsI R T).map fun p => (p.1 + p.2) % n) = sumsI n R T := by
  unfold pairsI sumsI
  rw [List.map_flatMap]
  congr 1
  funext r
  rw [List.map_map]
  rfl
theorem sums_in {n : Int} {R T : List Int} (hn : 0 < n) {x : Int} (hx : x ∈ sumsI n R T) : 0 ≤ x ∧ x < n := by
  unfold sumsI at hx
  simp only [List.mem_flatMap, List.mem_map] at hx
  obtain ⟨r, _, e, _, rfl⟩ := hx
  exact emod_ix hn
theorem map_rep {α : Type} (f : α → Int) (c : Int) : ∀ L : List α, L.map f = List.replicate L.length c ↔ ∀ x ∈ L, f x = c
  | [] => by simp
  | x :: L => by
    rw [List.map_cons, List.length_cons, List.replicate_succ, List.cons.injEq, map_rep f c L]
    simp
theorem whole_iff {n : Int} {R T : List Int} (hn : 0 < n) : struckI n R T = List.replicate n.toNat 1 ↔ clashI n (pairsI R T) = none ∧ (0 : Int) ∉ struckI n R T := by
  rw [clash_none, pairs_sums, struck_count R T hn]
  have e := map_rep (fun b => ((sumsI n R T).count b : Int)) 1 (uptoI 0 n.toNat)
  rw [length_uptoI] at e
  rw [e, List.nodup_iff_count]
  simp only [List.mem_map, mem_uptoI, not_exists, not_and]
  constructor
  · intro h
    refine ⟨fun a => ?_, fun b hb => ?_⟩
    · by_cases ha : a ∈ sumsI n R T
      · have := sums_in hn ha
        have := h a (by omega)
        omega
      · rw [List.count_eq_zero_of_not_mem ha]
        omega
    · have := h b hb
      omega
  · rintro ⟨h1, h2⟩ b hb
    have := h1 b
    have := h2 b hb
    omega
theorem sum_counts (n : Int) : ∀ (S : List Int), (∀ x ∈ S, 0 ≤ x ∧ x < n) → ((uptoI 0 n.toNat).map fun b => (S.count b : Int)).sum = S.length
  | [], _ => by
    have : ∀ L : List Int, (L.map fun b => (([] : List Int).count b : Int)).sum = 0 := fun L => by
      induction L with
      | nil => rfl
      | cons x L ih => simpa using ih
    simpa using this _
  | x :: S, h => by
    have ih := sum_counts n S fun y hy => h y (by simp [hy])
    have e : ∀ L : List Int, (L.map fun b => ((x :: S).count b : Int)).sum = (L.map fun b => (S.count b : Int)).sum + (L.count x : Int) := fun L => by
      induction L with
      | nil => rfl
      | cons y L ih =>
        rw [List.map_cons, List.sum_cons, ih, List.map_cons, List.sum_cons, List.count_cons, List.count_cons]
        by_cases q : x = y
        · subst q
          simp only [beq_self_eq_true, if_true]
          omega
        · have q1 : (x == y) = false := by simpa using q
          have q2 : (y == x) = false := by simpa using fun z : y = x => q z.symm
          rw [q1, q2]
          simp only [Bool.false_eq_true, if_false]
          omega
    rw [e, ih, List.length_cons]
    have hx := h x (by simp)
    have : (uptoI 0 n.toNat).count x = 1 := by
      have nd : (uptoI 0 n.toNat).Nodup := (upto_lt n.toNat 0).imp fun h => by omega
      have h1 := List.nodup_iff_count.mp nd x
      have h2 : 0 < (uptoI 0 n.toNat).count x := List.count_pos_iff.mpr ((mem_uptoI _ _ _).mpr (by omega))
      omega
    omega
theorem sum_struck {n : Int} {R T : List Int} (hn : 0 < n) : (struckI n R T).sum = (R.length : Int) * T.length := by
  rw [struck_count R T hn, sum_counts n _ fun x hx => sums_in hn hx, sumsI_len]
  push_cast
  rfl
theorem count_swap (n b : Int) : ∀ (R T : List Int), (sumsI n R T).count b = (sumsI n T R).count b := by
  intro R T
  have e : ∀ R T : List Int, (sumsI n R T).count b = (R.map fun r => T.countP fun e => decide ((r + e) % n = b)).sum := by
    intro R T
    induction R with
    | nil => rfl
    | cons r R ih =>
      have h : sumsI n (r :: R) T = (T.map fun e => (r + e) % n) ++ sumsI n R T := rfl
      rw [h, List.count_append, ih, List.map_cons, List.sum_cons]
      congr 1
      rw [List.count_eq_countP, List.countP_map]
      refine List.countP_congr fun x _ => ?_
      simp
  rw [e, e, swap_count]
  congr 2
  funext x
  refine List.countP_congr fun y _ => ?_
  rw [Int.add_comm]
theorem struck_swap {n : Int} {R T : List Int} (hn : 0 < n) : struckI n T R = struckI n R T := by
  rw [struck_count R T hn, struck_count T R hn]
  congr 1
  funext b
  rw [count_swap]
end LawK

set_option Elab.async false
set_option linter.all false
set_option maxRecDepth 100000
namespace LawK
open PySem Mini
def optPP : Option ((Int × Int) × (Int × Int)) → D
  | none => .non
  | some z => ppD z
theorem pairs_len (R T : List Int) : (pairsI R T).length = R.length * T.length := by
  unfold pairsI
  induction R with
  | nil => simp
  | cons r R ih => rw [List.flatMap_cons, List.length_append, ih, List.length_map, List.length_cons, Nat.add_mul, Nat.one_mul, Nat.add_comm]
theorem enum_zip : ∀ (P : List (Int × Int)) (k : Nat), enumD k (P.map pD) = (P.zipIdx k).map fun z => D.tup [.int (z.2 : Int), pD z.1]
  | [], k => rfl
  | p :: ps, k => by
    rw [List.map_cons, List.zipIdx_cons, List.map_cons]
    show D.tup [.int (k : Int), pD p] :: enumD ((k : Int) + 1) (ps.map pD) = _
    have := enum_zip ps (k + 1)
    rw [show ((k : Int) + 1) = ((k + 1 : Nat) : Int) by omega, this]
theorem cut_from (xs : List D) (i : Nat) : cutD xs (some ((i : Int) + 1)) none = xs.drop (i + 1) := by
  unfold cutD
  have e : HT.sIx xs.length 0 (some ((i : Int) + 1)) = min (i + 1) xs.length := by
    show (if ((i : Int) + 1) < 0 then (((i : Int) + 1) + (xs.length : Int)).toNat else min ((i : Int) + 1).toNat xs.length) = _
    rw [if_neg (by omega)]
    congr 1
  rw [e, HT.sIx_none, List.take_of_length_le (by simp)]
  by_cases h : i + 1 ≤ xs.length
  · rw [Nat.min_eq_left h]
  · rw [Nat.min_eq_right (by omega), List.drop_of_length_le (Nat.le_refl _), List.drop_of_length_le (by omega)]
theorem sum_pD (p : Int × Int) : sumV [pD p] = some ⟨.fz, .int (p.1 + p.2)⟩ := by
  have := sumV_tup [p.1, p.2]
  simpa [pD] using this
theorem c_clash {n : Int} {R T : List Int} (h : Rh n R) (h' : Rh n T) : d_clash [.int n, .tup (iL R), .tup (iL T)] = .ok ⟨.fz, optPP (clashI n (pairsI R T))⟩ := by
  have hhi := h.hi
  have hs := h.short
  have hs' := h'.short
  have hfR : fitL (iL R) = true := fitL_of (by simp; omega)
  have hfT : fitL (iL T) = true := fitL_of (by simp; omega)
  have hpl : (pairsI R T).length ≤ 10000 := by
    rw [pairs_len]
    exact Nat.le_trans (Nat.mul_le_mul hs hs') (by decide)
  have hl2 : lc2GoF (.one A7) dYes (dIt (dVarF A2)) (.one A8) [A8] dYes (dDisp (fun ds => ⟨.fz, .tup ds⟩) (dConsR (dVarF A7) (dConsR (dVarF A8) dNil))) [some (.fz (.int n)), some (.fz (.tup (iL R))), some (.fz (.tup (iL T))), none, none, none, none, none, none] (iL R) 0 = .ok ((pairsI R T).map pD) := by
    have e : (pairsI R T).map pD = R.flatMap fun r => T.map fun e => pD (r, e) := by
      unfold pairsI
      rw [List.map_flatMap]
      congr 1
      funext r
      rw [List.map_map]
      rfl
    rw [e]
    refine lc2_flatD (fun r => T.map fun e => pD (r, e)) R 0 ?_ ?_
    · rw [← e]
      simp
      omega
    · intro x hx
      refine ⟨rfl, iL T, by simp; omega, by simp [dVarF_def], ?_⟩
      rw [lc_iL T (fun e => pD (x, e))]
      intro y hy
      simp [lcStep, dVarF_def, dDisp, fits_le, pD]
  refine Fin.run ?_
  unfold b_clash
  simp only [startM_cons, startM_nil]
  refine Fin.seq (by simp [dVarF_def, keepAs, dDisp, fits_le, dParF, setManyF, dRetVF, dAsgPF, c_look_entries h h']; first | done | exact rfl) ?_
  refine Fin.seq (st' := [some (.fz (.int n)), some (.fz (.tup (iL R))), some (.fz (.tup (iL T))), some (.fz (.lst ((pairsI R T).map pD))), none, none, none, none, none]) (by simp [dVarF_def, keepAs, dLc2F, hfR, hl2]) ?_
  unfold Mini.Fin
  simp [dVarF_def, dEnum, keep_fz]
  rw [show enumD 0 ((pairsI R T).map pD) = _ from enum_zip (pairsI R T) 0]
  have hloop := for_find (.many [A4, A5]) (dForR (dIt (dSl (dVarF A3) (dPart (some (dOpR addR (dVarF A4) (dLit (.int 1))))) (dPart none))) (.one A6) (dIfSR (dTestR (dOpR eqR (dOpR modR (dOpR subR (dCBR sumV (dConsR (dVarF A5) (dNil))) (dCBR sumV (dConsR (dVarF A6) (dNil)))) (dVarF A0)) (dLit (.int 0))) trB) (dRetR (dDisp (fun ds => ⟨.fz, .tup ds⟩) (dConsR (dVarF A5) (dConsR (dVarF A6) (dNil))))) (dNext))) (fun z : (Int × Int) × Nat => D.tup [.int (z.2 : Int), pD z.1]) (fun b : PP => (⟨.fz, ppD b⟩ : RV)) (fun st => ∃ x4 x5 x6, st = [some (.fz (.int n)), some (.fz (.tup (iL R))), some (.fz (.tup (iL T))), some (.fz (.lst ((pairsI R T).map pD))), x4, x5, x6, none, none]) (fun z => (((pairsI R T).drop (z.2 + 1)).find? (sameB n z.1)).map fun q => (z.1, q)) ((pairsI R T).zipIdx 0) ?_ [some (.fz (.int n)), some (.fz (.tup (iL R))), some (.fz (.tup (iL T))), some (.fz (.lst ((pairsI R T).map pD))), none, none, none, none, none] ⟨_, _, _, rfl⟩
  · rw [clash_ix n (pairsI R T) 0 (pairsI R T) rfl] at hloop
    cases e : clashI n (pairsI R T) with
    | none =>
      rw [e] at hloop
      obtain ⟨st', h1, x4, x5, x6, rfl⟩ := hloop
      rw [h1]
      simp [optPP]
    | some z =>
      rw [e] at hloop
      simp only at hloop
      rw [hloop]
      simp [optPP]
  · rintro ⟨p, i⟩ hz st ⟨x4, x5, x6, rfl⟩
    have hin := for_find (.one A6) (dIfSR (dTestR (dOpR eqR (dOpR modR (dOpR subR (dCBR sumV (dConsR (dVarF A5) (dNil))) (dCBR sumV (dConsR (dVarF A6) (dNil)))) (dVarF A0)) (dLit (.int 0))) trB) (dRetR (dDisp (fun ds => ⟨.fz, .tup ds⟩) (dConsR (dVarF A5) (dConsR (dVarF A6) (dNil))))) (dNext)) pD (fun b : PP => (⟨.fz, ppD b⟩ : RV)) (fun st => ∃ x6, st = [some (.fz (.int n)), some (.fz (.tup (iL R))), some (.fz (.tup (iL T))), some (.fz (.lst ((pairsI R T).map pD))), some (.fz (.int (i : Int))), some (.fz (pD p)), x6, none, none]) (fun q => if sameB n p q = true then some (p, q) else none) ((pairsI R T).drop (i + 1)) ?_ [some (.fz (.int n)), some (.fz (.tup (iL R))), some (.fz (.tup (iL T))), some (.fz (.lst ((pairsI R T).map pD))), some (.fz (.int (i : Int))), some (.fz (pD p)), x6, none, none] ⟨_, rfl⟩
    · have e : ((pairsI R T).drop (i + 1)).findSome? (fun q => if sameB n p q = true then some (p, q) else none) = (((pairsI R T).drop (i + 1)).find? (sameB n p)).map fun q => (p, q) := by
        generalize (pairsI R T).drop (i + 1) = L
        induction L with
        | nil => rfl
        | cons q L ih =>
          rw [List.findSome?_cons, List.find?_cons, ih]
          cases sameB n p q <;> rfl
      rw [e] at hin
      have hd : itemsD (.lst (cutD ((pairsI R T).map pD) (some ((i : Int) + 1)) none)) = some (((pairsI R T).drop (i + 1)).map pD) := by
        rw [itemsD_lst, cut_from, List.map_drop]
      simp only at hin ⊢
      cases e2 : ((pairsI R T).drop (i + 1)).find? (sameB n p) with
      | none =>
        rw [e2] at hin
        obtain ⟨st', h1, x6', rfl⟩ := hin
        refine ⟨[some (.fz (.int n)), some (.fz (.tup (iL R))), some (.fz (.tup (iL T))), some (.fz (.lst ((pairsI R T).map pD))), some (.fz (.int (i : Int))), some (.fz (pD p)), x6', none, none], ?_, _, _, _, rfl⟩
        simp [dVarF_def, dSl, slD, dPart, cut_from, ← List.map_drop]
        simpa using h1
      | some q =>
        rw [e2] at hin
        simp only [Option.map_some] at hin ⊢
        simp [dVarF_def, dSl, slD, dPart, cut_from, ← List.map_drop]
        simpa using hin
    · rintro q hq st ⟨x6', rfl⟩
      by_cases hc : sameB n p q = true
      · have hc' : (p.1 + p.2 - (q.1 + q.2)) % n = 0 := by simpa [sameB] using hc
        simp [hc, dVarF_def, sum_pD, modR_int h.pos, hc', dDisp, fits_le, ppD]
      · have hc' : ¬ (p.1 + p.2 - (q.1 + q.2)) % n = 0 := by simpa [sameB] using hc
        simp [hc, dVarF_def, sum_pD, modR_int h.pos, hc', dDisp, fits_le, ppD]
end LawK

set_option Elab.async false
set_option linter.all false
set_option maxRecDepth 100000
namespace LawK
open PySem Mini
theorem eqv_pp (z : PP) : PyData.eqv (ppD z).py (ppD z).py = true := by
  obtain ⟨⟨a, b⟩, ⟨c, d⟩⟩ := z
  simp [ppD, pD, D.py, D.pyAll, PyData.eqv, PyData.eqvAll]
theorem ne_pp (z : PP) : neR (ppD z) (ppD z) = some ⟨.fz, .bl false⟩ := by
  have a1 : (ppD z).py.canLay0 = true := by
    obtain ⟨⟨a, b⟩, ⟨c, d⟩⟩ := z
    simp [ppD, pD, D.py, D.pyAll, PyData.canLay0, PyData.canLayAll0]
  have hs : shaped (ppD z) = true := by
    unfold shaped SeqAt.shaped
    have a2 : (ppD z).py.depth ≤ 64 := by
      simp [ppD, pD, D.py, D.pyAll, PyData.depth, PyData.depthAll]
    have a3 : noDict (ppD z) = true := rfl
    simp [a1, a2, a3]
  show (if (shaped (ppD z) && shaped (ppD z)) = true then some (rz (.bl (!eqD (ppD z) (ppD z)))) else none) = _
  rw [hs]
  unfold eqD
  rw [eqv_pp]
  rfl
theorem ne_opt (o : Option PP) : neR (optPP o) (optPP o) = some ⟨.fz, .bl false⟩ := by
  cases o with
  | none => rfl
  | some z => exact ne_pp z
theorem ne_ix (b : Int) (xs : List Int) : neR (ixI b xs) (ixI b xs) = some ⟨.fz, .bl false⟩ := by
  unfold ixI
  split
  · simp
  · rfl
theorem is_opt (o : Option PP) : isD false (optPP o) .non = some ⟨.fz, .bl (decide (o = none))⟩ := by
  cases o with
  | none => simp [optPP]
  | some z => simp [optPP, ppD]
/-- one walk of the four loops -/
theorem found_step {n : Int} (hn : 0 < n) {x0 x2 x3 x4 x10 x11 x12 x13 x14 : Option SV} (r e o m : Int) (f : Option PP) : ∃ y10 y11, (dSeqR (dSetR false A10 (dDisp (fun ds => ⟨.fz, .tup ds⟩) (dConsR (dDisp (fun ds => ⟨.fz, .tup ds⟩) (dConsR (dVarF A6) (dConsR (dVarF A7) (dNil)))) (dConsR (dDisp (fun ds => ⟨.fz, .tup ds⟩) (dConsR (dVarF A8) (dConsR (dVarF A9) (dNil)))) (dNil))))) (dSeqR (dSetR false A11 (dAndV (dOpR eqR (dOpR modR (dOpR subR (dOpR subR (dOpR addR (dVarF A6) (dVarF A7)) (dVarF A8)) (dVarF A9)) (dVarF A1)) (dLit (.int 0))) (dOpR ltV (dOpR ixD (dVarF A10) (dLit (.int 0))) (dOpR ixD (dVarF A10) (dLit (.int 1)))))) (dIfSR (dAndR (dTestR (dVarF A11) trD) (dOrR (dTestR (dOpR (isD false) (dVarF A5) (dLit .non)) trB) (dTestR (dOpR ltV (dVarF A10) (dVarF A5)) trB))) (dSetR false A5 (dVarF A10)) (dNext)))) [x0, some (.fz (.int n)), x2, x3, x4, some (.fz (optPP f)), some (.fz (.int r)), some (.fz (.int e)), some (.fz (.int o)), some (.fz (.int m)), x10, x11, x12, x13, x14] = .ok (.nx [x0, some (.fz (.int n)), x2, x3, x4, some (.fz (optPP (stepF n f ((r, e), (o, m))))), some (.fz (.int r)), some (.fz (.int e)), some (.fz (.int o)), some (.fz (.int m)), y10, y11, x12, x13, x14]) := by
  have e1 : (.tup [.tup [.int r, .int e], .tup [.int o, .int m]] : D) = ppD ((r, e), (o, m)) := rfl
  have i0 : ixD (ppD ((r, e), (o, m))) (.int 0) = some ⟨.fz, pD (r, e)⟩ := ix_tup (by omega) rfl
  have i1 : ixD (ppD ((r, e), (o, m))) (.int 1) = some ⟨.fz, pD (o, m)⟩ := ix_tup (by omega) rfl
  have es : (r + e - o - m) % n = (r + e - (o + m)) % n := by rw [show r + e - o - m = r + e - (o + m) by omega]
  have ec : condB n ((r, e), (o, m)) = (decide ((r + e - o - m) % n = 0) && lt2 (r, e) (o, m)) := by rw [es]; rfl
  refine ⟨some (.fz (ppD ((r, e), (o, m)))), some (.fz (.bl (condB n ((r, e), (o, m))))), ?_⟩
  have hand : dAndV (dOpR eqR (dOpR modR (dOpR subR (dOpR subR (dOpR addR (dVarF A6) (dVarF A7)) (dVarF A8)) (dVarF A9)) (dVarF A1)) (dLit (.int 0))) (dOpR ltV (dOpR ixD (dVarF A10) (dLit (.int 0))) (dOpR ixD (dVarF A10) (dLit (.int 1)))) [x0, some (.fz (.int n)), x2, x3, x4, some (.fz (optPP f)), some (.fz (.int r)), some (.fz (.int e)), some (.fz (.int o)), some (.fz (.int m)), some (.fz (ppD ((r, e), (o, m)))), x11, x12, x13, x14] = .ok ⟨.fz, .bl (condB n ((r, e), (o, m)))⟩ := by
    rw [ec]
    by_cases q : (r + e - o - m) % n = 0
    · simp [dVarF_def, modR_int hn, q, i0, i1, ltV_pair]
    · simp [dVarF_def, modR_int hn, q]
  have hl : ∀ w, ltV (ppD ((r, e), (o, m))) (ppD w) = some ⟨.fz, .bl (lt4 ((r, e), (o, m)) w)⟩ := fun w => ltV_pairs _ w
  rw [seq_nx (st' := [x0, some (.fz (.int n)), x2, x3, x4, some (.fz (optPP f)), some (.fz (.int r)), some (.fz (.int e)), some (.fz (.int o)), some (.fz (.int m)), some (.fz (ppD ((r, e), (o, m)))), x11, x12, x13, x14]) (by simp [dVarF_def, dDisp, fits_le, keepAs, e1]), seq_nx (set_nx hand rfl), A11_s]
  cases hc : condB n ((r, e), (o, m)) with
  | false => simp [stepF, hc, dVarF_def, trD]
  | true =>
    cases f with
    | none => simp [is_opt, stepF, hc, optPP, dVarF_def, trD, keepAs]
    | some w =>
      by_cases q : lt4 ((r, e), (o, m)) w = true
      · simp [stepF, hc, optPP, q, hl, dVarF_def, trD, keepAs, is_opt, show isD false (ppD w) .non = some ⟨.fz, .bl false⟩ from isD_tup _ _]
      · simp [stepF, hc, optPP, q, hl, dVarF_def, trD, keepAs, is_opt, show isD false (ppD w) .non = some ⟨.fz, .bl false⟩ from isD_tup _ _]
theorem plain (ns : List Int) (hl : ns.length ≤ 63) : ∃ q, d_law [.scr ns] = .ok ⟨q, .bl true⟩ := by
  obtain ⟨n, hn, hr⟩ := c_lring (ns := ns) (at_ := 0) (by omega) (by omega) hl
  obtain ⟨R, T0, hR, hT0, hrd⟩ := c_round (ns := ns) (at_ := 10) hl (by omega) (by omega) hn
  obtain ⟨u, u0, u1, hu⟩ := c_pick (ns := ns) (k := 1) (many := 2) (by omega) (by omega) (by omega) hl
  obtain ⟨T1, hT1, hrh⟩ := c_lrhythm (ns := ns) (at_ := 60) hl (by omega) (by omega) hn
  obtain ⟨v, v0, v1, ho⟩ := c_odd (ns := ns) (at_ := 200) (by omega) (by omega) hl
  have n0 := hR.lo
  have n1 := hR.hi
  have hp := hR.pos
  have rE : rdX ("NoEntries" : Str) = true := by decide +kernel
  have rR : rdX ("NoRing" : Str) = true := by decide +kernel
  have rH : rdX ("NoRhythm" : Str) = true := by decide +kernel
  refine ⟨.fz, Fin.run ?_⟩
  unfold b_law
  simp only [startM_cons, startM_nil, List.replicate]
  refine Fin.seq (by simp [dVarF_def, keepAs, dDisp, fits_le, dParF, setManyF, dRetVF, dAsgPF, hr]; first | done | exact rfl) ?_
  refine Fin.seq (by simp [dVarF_def, keepAs, dDisp, fits_le, dParF, setManyF, dRetVF, dAsgPF, hrd]; first | done | exact rfl) ?_
  refine Fin.seqs (R := fun st => ∃ T, Rh n T ∧ st = [some (.fz (.scr ns)), some (.fz (.int n)), some (.fz (.tup (iL R))), some (.fz (.tup (iL T))), none, none, none, none, none, none, none, none, none, none, none]) ?_ ?_
  · by_cases z : u = 0
    · exact ⟨_, by simp [dVarF_def, hu, z, hrh, keepAs], T1, hT1, rfl⟩
    · exact ⟨_, by simp [dVarF_def, hu, z, keepAs], T0, hT0, rfl⟩
  clear hrd hrh hT0 hT1
  clear T0 T1
  rintro st ⟨T, hT, rfl⟩
  have hw : decide (struckI n R T = List.replicate n.toNat 1) = wholeI n R T := rfl
  have hs := hR.short
  have hs' := hT.short
  refine Fin.seq (by simp [dVarF_def, keepAs, dDisp, fits_le, dParF, setManyF, dRetVF, dAsgPF, c_lstruck hR hT]; first | done | exact rfl) ?_
  refine Fin.seq (by simp [dVarF_def, keepAs, dDisp, fits_le, dParF, setManyF, dRetVF, dAsgPF, c_struck hR hT, c_is_whole hR hT, neR_tup, mul_ones (by omega : 0 ≤ n) (by omega), eqR_lst, neR_bl, hw]; first | done | exact rfl) ?_
  refine Fin.seq (by simp [dVarF_def, keepAs, dDisp, fits_le, dParF, setManyF, dRetVF, dAsgPF]; first | done | exact rfl) ?_
  refine Fin.for (ds := iL R) (R := fun st => ∃ x6 x7 x8 x9 x10 x11, st = [some (.fz (.scr ns)), some (.fz (.int n)), some (.fz (.tup (iL R))), some (.fz (.tup (iL T))), some (.fz (.lst (iL (struckI n R T)))), some (.fz (optPP (foundI n R T))), x6, x7, x8, x9, x10, x11, none, none, none]) (by simp [dVarF_def]) ?_ ?_
  · refine for_iL R (fun f st => ∃ x6 x7 x8 x9 x10 x11, st = [some (.fz (.scr ns)), some (.fz (.int n)), some (.fz (.tup (iL R))), some (.fz (.tup (iL T))), some (.fz (.lst (iL (struckI n R T)))), some (.fz (optPP f)), x6, x7, x8, x9, x10, x11, none, none, none]) (fun s r => T.foldl (fun s e => R.foldl (fun s o => T.foldl (fun s m => stepF n s ((r, e), (o, m))) s) s) s) none ⟨_, _, _, _, _, _, rfl⟩ ?_
    rintro r hr1 f st ⟨x6, x7, x8, x9, x10, x11, rfl⟩
    simp only [setPatF_one, A6_s, dForR_def, dIt_def, dVarF_def, A3_g, bnd_ok, itemsD_tup, keep_fz, if_true]
    obtain ⟨st', h1, h2⟩ := for_iL (p := .one A7) (body := dForR (dIt (dVarF A2)) (.one A8) (dForR (dIt (dVarF A3)) (.one A9) (dSeqR (dSetR false A10 (dDisp (fun ds => ⟨.fz, .tup ds⟩) (dConsR (dDisp (fun ds => ⟨.fz, .tup ds⟩) (dConsR (dVarF A6) (dConsR (dVarF A7) (dNil)))) (dConsR (dDisp (fun ds => ⟨.fz, .tup ds⟩) (dConsR (dVarF A8) (dConsR (dVarF A9) (dNil)))) (dNil))))) (dSeqR (dSetR false A11 (dAndV (dOpR eqR (dOpR modR (dOpR subR (dOpR subR (dOpR addR (dVarF A6) (dVarF A7)) (dVarF A8)) (dVarF A9)) (dVarF A1)) (dLit (.int 0))) (dOpR ltV (dOpR ixD (dVarF A10) (dLit (.int 0))) (dOpR ixD (dVarF A10) (dLit (.int 1)))))) (dIfSR (dAndR (dTestR (dVarF A11) trD) (dOrR (dTestR (dOpR (isD false) (dVarF A5) (dLit .non)) trB) (dTestR (dOpR ltV (dVarF A10) (dVarF A5)) trB))) (dSetR false A5 (dVarF A10)) (dNext)))))) T (fun f st => ∃ x7 x8 x9 x10 x11, st = [some (.fz (.scr ns)), some (.fz (.int n)), some (.fz (.tup (iL R))), some (.fz (.tup (iL T))), some (.fz (.lst (iL (struckI n R T)))), some (.fz (optPP f)), some (.fz (.int r)), x7, x8, x9, x10, x11, none, none, none]) (fun s e => R.foldl (fun s o => T.foldl (fun s m => stepF n s ((r, e), (o, m))) s) s) f (st := [some (.fz (.scr ns)), some (.fz (.int n)), some (.fz (.tup (iL R))), some (.fz (.tup (iL T))), some (.fz (.lst (iL (struckI n R T)))), some (.fz (optPP f)), some (.fz (.int r)), x7, x8, x9, x10, x11, none, none, none]) ⟨_, _, _, _, _, rfl⟩ (by
      rintro e he f st ⟨x7, x8, x9, x10, x11, rfl⟩
      simp only [setPatF_one, A7_s, dForR_def, dIt_def, dVarF_def, A2_g, bnd_ok, itemsD_tup, keep_fz, if_true]
      obtain ⟨st', h1, h2⟩ := for_iL (p := .one A8) (body := dForR (dIt (dVarF A3)) (.one A9) (dSeqR (dSetR false A10 (dDisp (fun ds => ⟨.fz, .tup ds⟩) (dConsR (dDisp (fun ds => ⟨.fz, .tup ds⟩) (dConsR (dVarF A6) (dConsR (dVarF A7) (dNil)))) (dConsR (dDisp (fun ds => ⟨.fz, .tup ds⟩) (dConsR (dVarF A8) (dConsR (dVarF A9) (dNil)))) (dNil))))) (dSeqR (dSetR false A11 (dAndV (dOpR eqR (dOpR modR (dOpR subR (dOpR subR (dOpR addR (dVarF A6) (dVarF A7)) (dVarF A8)) (dVarF A9)) (dVarF A1)) (dLit (.int 0))) (dOpR ltV (dOpR ixD (dVarF A10) (dLit (.int 0))) (dOpR ixD (dVarF A10) (dLit (.int 1)))))) (dIfSR (dAndR (dTestR (dVarF A11) trD) (dOrR (dTestR (dOpR (isD false) (dVarF A5) (dLit .non)) trB) (dTestR (dOpR ltV (dVarF A10) (dVarF A5)) trB))) (dSetR false A5 (dVarF A10)) (dNext))))) R (fun f st => ∃ x8 x9 x10 x11, st = [some (.fz (.scr ns)), some (.fz (.int n)), some (.fz (.tup (iL R))), some (.fz (.tup (iL T))), some (.fz (.lst (iL (struckI n R T)))), some (.fz (optPP f)), some (.fz (.int r)), some (.fz (.int e)), x8, x9, x10, x11, none, none, none]) (fun s o => T.foldl (fun s m => stepF n s ((r, e), (o, m))) s) f (st := [some (.fz (.scr ns)), some (.fz (.int n)), some (.fz (.tup (iL R))), some (.fz (.tup (iL T))), some (.fz (.lst (iL (struckI n R T)))), some (.fz (optPP f)), some (.fz (.int r)), some (.fz (.int e)), x8, x9, x10, x11, none, none, none]) ⟨_, _, _, _, rfl⟩ (by
        rintro o ho1 f st ⟨x8, x9, x10, x11, rfl⟩
        simp only [setPatF_one, A8_s, dForR_def, dIt_def, dVarF_def, A3_g, bnd_ok, itemsD_tup, keep_fz, if_true]
        obtain ⟨st', h1, h2⟩ := for_iL (p := .one A9) (body := (dSeqR (dSetR false A10 (dDisp (fun ds => ⟨.fz, .tup ds⟩) (dConsR (dDisp (fun ds => ⟨.fz, .tup ds⟩) (dConsR (dVarF A6) (dConsR (dVarF A7) (dNil)))) (dConsR (dDisp (fun ds => ⟨.fz, .tup ds⟩) (dConsR (dVarF A8) (dConsR (dVarF A9) (dNil)))) (dNil))))) (dSeqR (dSetR false A11 (dAndV (dOpR eqR (dOpR modR (dOpR subR (dOpR subR (dOpR addR (dVarF A6) (dVarF A7)) (dVarF A8)) (dVarF A9)) (dVarF A1)) (dLit (.int 0))) (dOpR ltV (dOpR ixD (dVarF A10) (dLit (.int 0))) (dOpR ixD (dVarF A10) (dLit (.int 1)))))) (dIfSR (dAndR (dTestR (dVarF A11) trD) (dOrR (dTestR (dOpR (isD false) (dVarF A5) (dLit .non)) trB) (dTestR (dOpR ltV (dVarF A10) (dVarF A5)) trB))) (dSetR false A5 (dVarF A10)) (dNext))))) T (fun f st => ∃ x9 x10 x11, st = [some (.fz (.scr ns)), some (.fz (.int n)), some (.fz (.tup (iL R))), some (.fz (.tup (iL T))), some (.fz (.lst (iL (struckI n R T)))), some (.fz (optPP f)), some (.fz (.int r)), some (.fz (.int e)), some (.fz (.int o)), x9, x10, x11, none, none, none]) (fun s m => stepF n s ((r, e), (o, m))) f (st := [some (.fz (.scr ns)), some (.fz (.int n)), some (.fz (.tup (iL R))), some (.fz (.tup (iL T))), some (.fz (.lst (iL (struckI n R T)))), some (.fz (optPP f)), some (.fz (.int r)), some (.fz (.int e)), some (.fz (.int o)), x9, x10, x11, none, none, none]) ⟨_, _, _, rfl⟩ (by
          rintro m hm f st ⟨x9, x10, x11, rfl⟩
          obtain ⟨y10, y11, h1⟩ := found_step hp (x0 := some (.fz (.scr ns))) (x2 := some (.fz (.tup (iL R)))) (x3 := some (.fz (.tup (iL T)))) (x4 := some (.fz (.lst (iL (struckI n R T))))) (x10 := x10) (x11 := x11) (x12 := none) (x13 := none) (x14 := none) r e o m f
          exact ⟨_, h1, _, _, _, rfl⟩)
        obtain ⟨x9, x10, x11, rfl⟩ := h2
        exact ⟨_, h1, _, _, _, _, rfl⟩)
      obtain ⟨x8, x9, x10, x11, rfl⟩ := h2
      exact ⟨_, h1, _, _, _, _, _, rfl⟩)
    obtain ⟨x7, x8, x9, x10, x11, rfl⟩ := h2
    exact ⟨_, h1, _, _, _, _, _, _, rfl⟩
  rintro st ⟨x6, x7, x8, x9, x10, x11, rfl⟩
  rw [found_clash hR.lt hT.lt]
  have hidx : (dIfR (dTestR (dOpR (inD false) (dLit (.int 0)) (dVarF A4)) trB) (dIdx (dVarF A4) (dConsR (dLit (.int 0)) (dNil))) (dLit .non)) [some (.fz (.scr ns)), some (.fz (.int n)), some (.fz (.tup (iL R))), some (.fz (.tup (iL T))), some (.fz (.lst (iL (struckI n R T)))), some (.fz (optPP (clashI n (pairsI R T)))), x6, x7, x8, x9, x10, x11, none, none, none] = .ok ⟨.fz, ixI 0 (struckI n R T)⟩ := by
    by_cases q : (0 : Int) ∈ struckI n R T
    · have e := idx_int (da := dVarF A4) (dl := dConsR (dLit (.int 0)) (dNil)) (st := [some (.fz (.scr ns)), some (.fz (.int n)), some (.fz (.tup (iL R))), some (.fz (.tup (iL T))), some (.fz (.lst (iL (struckI n R T)))), some (.fz (optPP (clashI n (pairsI R T)))), x6, x7, x8, x9, x10, x11, none, none, none]) (k := .fz) (k1 := .fz) (by simp [dVarF_def]) (by simp) q
      simp [dVarF_def, in_ints, q, e, ixI]
    · simp [dVarF_def, in_ints, q, ixI]
  refine Fin.seq (st' := [some (.fz (.scr ns)), some (.fz (.int n)), some (.fz (.tup (iL R))), some (.fz (.tup (iL T))), some (.fz (.lst (iL (struckI n R T)))), some (.fz (optPP (clashI n (pairsI R T)))), x6, x7, x8, x9, x10, x11, none, none, none]) (by
    rw [dIfSR_def, dOrR_def, dTestR_def, dTestR_def, dOpR_def, dOpR_def, hidx]
    simp [dVarF_def, c_clash hR hT, c_gap hR hT, ne_opt, ne_ix]) ?_
  have hwh : wholeI n R T = (decide (clashI n (pairsI R T) = none) && !decide ((0 : Int) ∈ struckI n R T)) := by
    unfold wholeI
    have := whole_iff (R := R) (T := T) hp
    by_cases a : clashI n (pairsI R T) = none <;> by_cases b : (0 : Int) ∈ struckI n R T <;> simp [a, b, this]
  refine Fin.seq (st' := [some (.fz (.scr ns)), some (.fz (.int n)), some (.fz (.tup (iL R))), some (.fz (.tup (iL T))), some (.fz (.lst (iL (struckI n R T)))), some (.fz (optPP (clashI n (pairsI R T)))), x6, x7, x8, x9, x10, x11, none, none, none]) (by
    by_cases a : clashI n (pairsI R T) = none <;> by_cases b : (0 : Int) ∈ struckI n R T <;> simp [dVarF_def, c_is_whole hR hT, hwh, a, b, is_opt, in_ints, neR_bl]) ?_
  have hsum : sumV [.lst (iL (struckI n R T))] = some ⟨.fz, .int ((R.length : Int) * T.length)⟩ := by
    show sumD [.lst (iL (struckI n R T))] = _
    unfold sumD onIntL
    simp only [ints_of_list]
    rw [sum_struck hp]
    rfl
  have hmul : mulA (.int (R.length : Int)) (.int (T.length : Int)) = some ⟨.fz, .int ((R.length : Int) * T.length)⟩ := mulA_int (by omega) (by omega)
  refine Fin.seq (by simp [dVarF_def, keepAs, dDisp, fits_le, dParF, setManyF, dRetVF, dAsgPF, c_struck hT hR, struck_swap (R := R) (T := T) hp, neR_tup, hsum, hmul]; first | done | exact rfl) ?_
  refine Fin.for (ds := oddD v) (R := fun st => ∃ x12 x13, st = [some (.fz (.scr ns)), some (.fz (.int n)), some (.fz (.tup (iL R))), some (.fz (.tup (iL T))), some (.fz (.lst (iL (struckI n R T)))), some (.fz (optPP (clashI n (pairsI R T)))), x6, x7, x8, x9, x10, x11, x12, x13, none]) (by simp [dVarF_def, ho]) ?_ ?_
  · refine for_inv _ _ _ ⟨none, none, rfl⟩ ?_
    rintro d hd st ⟨x12, x13, rfl⟩
    obtain ⟨q1, q2, q3⟩ := odd_none n0 n1 v0 d hd
    have t1 : d_struck [.int n, .tup (iL R), d] = .exc ("NoEntries" : Str) := by simp [d_struck, runD_fin, b_struck, dVarF_def, r_look_entries3 hR q3]
    have t2 : d_is_whole [.int n, d, d] = .exc ("NoRhythm" : Str) := by simp [d_is_whole, runD_fin, b_is_whole, dVarF_def, r_look_entries2 n0 n1 q3]
    have t3 : d_clash [d, d, d] = .exc ("NoRing" : Str) := by simp [d_clash, runD_fin, b_clash, dVarF_def, r_look_entries1 q1]
    have t4 : d_gap [.int n, .tup (iL R), d] = .exc ("NoEntries" : Str) := by simp [d_gap, runD_fin, b_gap, dVarF_def, r_look_entries3 hR q3]
    rw [setPatF_one, A12_s]
    refine Nx.seq (st' := [some (.fz (.scr ns)), some (.fz (.int n)), some (.fz (.tup (iL R))), some (.fz (.tup (iL T))), some (.fz (.lst (iL (struckI n R T)))), some (.fz (optPP (clashI n (pairsI R T)))), x6, x7, x8, x9, x10, x11, some (.fz d), some (.own (.lst [refD ("NoEntries" : Str)])), none]) (by simp [dVarF_def, dTold, t1, rE, fs_NoEntries, dDisp, fits_le, keepAs]) ?_
    refine Nx.seq (st' := [some (.fz (.scr ns)), some (.fz (.int n)), some (.fz (.tup (iL R))), some (.fz (.tup (iL T))), some (.fz (.lst (iL (struckI n R T)))), some (.fz (optPP (clashI n (pairsI R T)))), x6, x7, x8, x9, x10, x11, some (.fz d), some (.own (.lst [refD ("NoEntries" : Str), refD ("NoRhythm" : Str)])), none]) (mut_app (a := A13) (ds := [refD ("NoEntries" : Str)]) (r := ⟨.fz, refD ("NoRhythm" : Str)⟩) rfl (by simp [dVarF_def, dTold, t2, rH, fs_NoRhythm]) rfl (by simp)) ?_
    refine Nx.seq (st' := [some (.fz (.scr ns)), some (.fz (.int n)), some (.fz (.tup (iL R))), some (.fz (.tup (iL T))), some (.fz (.lst (iL (struckI n R T)))), some (.fz (optPP (clashI n (pairsI R T)))), x6, x7, x8, x9, x10, x11, some (.fz d), some (.own (.lst [refD ("NoEntries" : Str), refD ("NoRhythm" : Str), refD ("NoRing" : Str)])), none]) (mut_app (a := A13) (ds := [refD ("NoEntries" : Str), refD ("NoRhythm" : Str)]) (r := ⟨.fz, refD ("NoRing" : Str)⟩) rfl (by simp [dVarF_def, dTold, t3, rR, fs_NoRing]) rfl (by simp)) ?_
    refine Nx.seq (st' := [some (.fz (.scr ns)), some (.fz (.int n)), some (.fz (.tup (iL R))), some (.fz (.tup (iL T))), some (.fz (.lst (iL (struckI n R T)))), some (.fz (optPP (clashI n (pairsI R T)))), x6, x7, x8, x9, x10, x11, some (.fz d), some (.own (.lst [refD ("NoEntries" : Str), refD ("NoRhythm" : Str), refD ("NoRing" : Str), refD ("NoEntries" : Str)])), none]) (mut_app (a := A13) (ds := [refD ("NoEntries" : Str), refD ("NoRhythm" : Str), refD ("NoRing" : Str)]) (r := ⟨.fz, refD ("NoEntries" : Str)⟩) rfl (by simp [dVarF_def, dTold, t4, rE, fs_NoEntries]) rfl (by simp)) ?_
    have hlc : lcGoR (.one A14) dYes (dDisp (fun ds => ⟨.fz, .tup ds⟩) (dConsR (dLit (.str ("refused" : Str))) (dConsR (dVarF A14) (dNil)))) [some (.fz (.scr ns)), some (.fz (.int n)), some (.fz (.tup (iL R))), some (.fz (.tup (iL T))), some (.fz (.lst (iL (struckI n R T)))), some (.fz (optPP (clashI n (pairsI R T)))), x6, x7, x8, x9, x10, x11, some (.fz d), some (.own (.lst [refD ("NoEntries" : Str), refD ("NoRhythm" : Str), refD ("NoRing" : Str), refD ("NoEntries" : Str)])), none] [.str ("NoEntries" : Str), .str ("NoRhythm" : Str), .str ("NoRing" : Str), .str ("NoEntries" : Str)] = .ok [refD ("NoEntries" : Str), refD ("NoRhythm" : Str), refD ("NoRing" : Str), refD ("NoEntries" : Str)] := by
      have := lc_map (.one A14) dYes (dDisp (fun ds => ⟨.fz, .tup ds⟩) (dConsR (dLit (.str ("refused" : Str))) (dConsR (dVarF A14) (dNil)))) [some (.fz (.scr ns)), some (.fz (.int n)), some (.fz (.tup (iL R))), some (.fz (.tup (iL T))), some (.fz (.lst (iL (struckI n R T)))), some (.fz (optPP (clashI n (pairsI R T)))), x6, x7, x8, x9, x10, x11, some (.fz d), some (.own (.lst [refD ("NoEntries" : Str), refD ("NoRhythm" : Str), refD ("NoRing" : Str), refD ("NoEntries" : Str)])), none] (fun x : Str => D.str x) (fun x => refD x) [("NoEntries" : Str), ("NoRhythm" : Str), ("NoRing" : Str), ("NoEntries" : Str)] (by
        intro x hx
        simp [lcStep, dVarF_def, dDisp, fits_le])
      exact this
    have hne : neR (.lst [refD ("NoEntries" : Str), refD ("NoRhythm" : Str), refD ("NoRing" : Str), refD ("NoEntries" : Str)]) (.lst [refD ("NoEntries" : Str), refD ("NoRhythm" : Str), refD ("NoRing" : Str), refD ("NoEntries" : Str)]) = some ⟨.fz, .bl false⟩ := ne_self (by decide +kernel) rfl (by decide +kernel)
    exact Exists.intro [some (.fz (.scr ns)), some (.fz (.int n)), some (.fz (.tup (iL R))), some (.fz (.tup (iL T))), some (.fz (.lst (iL (struckI n R T)))), some (.fz (optPP (clashI n (pairsI R T)))), x6, x7, x8, x9, x10, x11, some (.fz d), some (.own (.lst [refD ("NoEntries" : Str), refD ("NoRhythm" : Str), refD ("NoRing" : Str), refD ("NoEntries" : Str)])), none] (And.intro (by simp [dVarF_def, dDisp, fits_le, fitL, hlc, hne]) ⟨_, _, rfl⟩)
  · rintro st ⟨x12, x13, rfl⟩
    refine Fin.rt (by simp [dVarF_def, keepAs, dDisp, fits_le, dParF, setManyF, dRetVF, dAsgPF]; first | done | exact rfl)
end LawK

open PySem PySem.W PyProof.Rows in
theorem PySem.Challenge.cw_wholerounds_k03_whole_struck_holds : PySem.Challenge.rw_wholerounds_k03_whole_struck.Holds := by
  w_on; o_law; k_head; (case hw => w_witness2)
  k_fill
  refine LamX.walk_ofTs (l := PySem.Challenge.rw_wholerounds_k03_whole_struck) (n := 63) (k := 8) (x := "script") (CX := fun w => L2.CX PySem.Challenge.pw_wholerounds_k03_whole_struck w) rfl (by decide) rfl ⟨rfl, by decide, by decide⟩ (fun w h Y => PySem.W.km_in_of Y) ?F (fun _ _ _ _ _ h => Mini.noCX h)
  case F =>
    intro w mg fa h Y KX G hmg
    have hT8 := PySem.W.km_tabs_of Y
    refine' LawK.all_mk LawK.plain KX G hmg ?x_is_number ?x_is_rising ?x_look_ring ?x_is_rhythm_of ?x_look_rhythm ?x_look_entries ?x_plain_struck ?x_struck ?x_is_plain_whole ?x_is_whole ?x_clash ?x_gap ?x_u_law_pick ?x_u_law_ring ?x_u_law_drawn_out ?x_u_law_common ?x_u_law_beats ?x_u_law_round ?x_u_law_rhythm ?x_u_law_struck ?x_u_law_odd ?x_u_law_class ?x_u_law_told ?x_law ?z_ValueError ?z_all ?z_bool ?z_enumerate ?z_int ?z_isinstance ?z_len ?z_max ?z_range ?z_set ?z_sorted ?z_sum ?z_tuple ?z_zip ?j_MOST_BEATS ?y_NoEntries ?y_NoRhythm ?y_NoRing ?w_NoBack ?w_NoEntries ?w_NoFigure ?w_NoName ?w_NoNumber ?w_NoParts ?w_NoRhythm ?w_NoRing ?w_NoState ?w_NoText ?w_NoVoice ?w_NoVoices ?w_NotWhole ?w_RoundError ?w_Taken ?w_TooGreat ?u_NoEntries ?k_NoEntries ?u_NoRhythm ?k_NoRhythm ?u_NoRing ?k_NoRing ?q_NoEntries_NoBack ?q_NoRhythm_NoBack ?q_NoRing_NoBack ?q_NoEntries_NoEntries ?q_NoRhythm_NoEntries ?q_NoRing_NoEntries ?q_NoEntries_NoFigure ?q_NoRhythm_NoFigure ?q_NoRing_NoFigure ?q_NoEntries_NoName ?q_NoRhythm_NoName ?q_NoRing_NoName ?q_NoEntries_NoNumber ?q_NoRhythm_NoNumber ?q_NoRing_NoNumber ?q_NoEntries_NoParts ?q_NoRhythm_NoParts ?q_NoRing_NoParts ?q_NoEntries_NoRhythm ?q_NoRhythm_NoRhythm ?q_NoRing_NoRhythm ?q_NoEntries_NoRing ?q_NoRhythm_NoRing ?q_NoRing_NoRing ?q_NoEntries_NoState ?q_NoRhythm_NoState ?q_NoRing_NoState ?q_NoEntries_NoText ?q_NoRhythm_NoText ?q_NoRing_NoText ?q_NoEntries_NoVoice ?q_NoRhythm_NoVoice ?q_NoRing_NoVoice ?q_NoEntries_NoVoices ?q_NoRhythm_NoVoices ?q_NoRing_NoVoices ?q_NoEntries_NotWhole ?q_NoRhythm_NotWhole ?q_NoRing_NotWhole ?q_NoEntries_Taken ?q_NoRhythm_Taken ?q_NoRing_Taken ?q_NoEntries_TooGreat ?q_NoRhythm_TooGreat ?q_NoRing_TooGreat ?v_NoEntries ?v_NoRhythm ?v_NoRing ?hN hT8 ?n_law ?h_law
    (case x_is_number => (refine' Mini.DefAt.mk ?a ?l ?c ?k; (case a => k_is); (case l => k_is); (case c => k_is); (case k => k_is)))
    (case x_is_rising => (refine' Mini.DefAt.mk ?a ?l ?c ?k; (case a => k_is); (case l => k_is); (case c => k_is); (case k => k_is)))
    (case x_look_ring => (refine' Mini.DefAt.mk ?a ?l ?c ?k; (case a => k_is); (case l => k_is); (case c => k_is); (case k => k_is)))
    (case x_is_rhythm_of => (refine' Mini.DefAt.mk ?a ?l ?c ?k; (case a => k_is); (case l => k_is); (case c => k_is); (case k => k_is)))
    (case x_look_rhythm => (refine' Mini.DefAt.mk ?a ?l ?c ?k; (case a => k_is); (case l => k_is); (case c => k_is); (case k => k_is)))
    (case x_look_entries => (refine' Mini.DefAt.mk ?a ?l ?c ?k; (case a => k_is); (case l => k_is); (case c => k_is); (case k => k_is)))
    (case x_plain_struck => (refine' Mini.DefAt.mk ?a ?l ?c ?k; (case a => k_is); (case l => k_is); (case c => k_is); (case k => k_is)))
    (case x_struck => (refine' Mini.DefAt.mk ?a ?l ?c ?k; (case a => k_is); (case l => k_is); (case c => k_is); (case k => k_is)))
    (case x_is_plain_whole => (refine' Mini.DefAt.mk ?a ?l ?c ?k; (case a => k_is); (case l => k_is); (case c => k_is); (case k => k_is)))
    (case x_is_whole => (refine' Mini.DefAt.mk ?a ?l ?c ?k; (case a => k_is); (case l => k_is); (case c => k_is); (case k => k_is)))
    (case x_clash => (refine' Mini.DefAt.mk ?a ?l ?c ?k; (case a => k_is); (case l => k_is); (case c => k_is); (case k => k_is)))
    (case x_gap => (refine' Mini.DefAt.mk ?a ?l ?c ?k; (case a => k_is); (case l => k_is); (case c => k_is); (case k => k_is)))
    (case x_u_law_pick => (refine' Mini.DefAt.mk ?a ?l ?c ?k; (case a => k_is); (case l => k_is); (case c => k_is); (case k => k_is)))
    (case x_u_law_ring => (refine' Mini.DefAt.mk ?a ?l ?c ?k; (case a => k_is); (case l => k_is); (case c => k_is); (case k => k_is)))
    (case x_u_law_drawn_out => (refine' Mini.DefAt.mk ?a ?l ?c ?k; (case a => k_is); (case l => k_is); (case c => k_is); (case k => k_is)))
    (case x_u_law_common => (refine' Mini.DefAt.mk ?a ?l ?c ?k; (case a => k_is); (case l => k_is); (case c => k_is); (case k => k_is)))
    (case x_u_law_beats => (refine' Mini.DefAt.mk ?a ?l ?c ?k; (case a => k_is); (case l => k_is); (case c => k_is); (case k => k_is)))
    (case x_u_law_round => (refine' Mini.DefAt.mk ?a ?l ?c ?k; (case a => k_is); (case l => k_is); (case c => k_is); (case k => k_is)))
    (case x_u_law_rhythm => (refine' Mini.DefAt.mk ?a ?l ?c ?k; (case a => k_is); (case l => k_is); (case c => k_is); (case k => k_is)))
    (case x_u_law_struck => (refine' Mini.DefAt.mk ?a ?l ?c ?k; (case a => k_is); (case l => k_is); (case c => k_is); (case k => k_is)))
    (case x_u_law_odd => (refine' Mini.DefAt.mk ?a ?l ?c ?k; (case a => k_is); (case l => k_is); (case c => k_is); (case k => k_is)))
    (case x_u_law_class => (refine' Mini.DefAt.mk ?a ?l ?c ?k; (case a => k_is); (case l => k_is); (case c => k_is); (case k => k_is)))
    (case x_u_law_told => (refine' Mini.DefC.mk ?a ?l ?c ?k; (case a => k_is); (case l => k_is); (case c => k_is); (case k => k_is)))
    (case x_law => (refine' Mini.DefC.mk ?a ?l ?c ?k; (case a => k_is); (case l => k_is); (case c => k_is); (case k => k_is)))
    (case z_ValueError => k_is)
    (case z_all => k_is)
    (case z_bool => k_is)
    (case z_enumerate => k_is)
    (case z_int => k_is)
    (case z_isinstance => k_is)
    (case z_len => k_is)
    (case z_max => k_is)
    (case z_range => k_is)
    (case z_set => k_is)
    (case z_sorted => k_is)
    (case z_sum => k_is)
    (case z_tuple => k_is)
    (case z_zip => k_is)
    (case j_MOST_BEATS => (refine' Mini.IntIn.mk ?a; (case a => k_is)))
    (case y_NoEntries => (refine' Mini.ExcAt.mk ?a ?x ?k ?s ?t; (case a => k_is); (case x => k_exc); (case k => k_is); (case s => k_is); (case t => k_is)))
    (case y_NoRhythm => (refine' Mini.ExcAt.mk ?a ?x ?k ?s ?t; (case a => k_is); (case x => k_exc); (case k => k_is); (case s => k_is); (case t => k_is)))
    (case y_NoRing => (refine' Mini.ExcAt.mk ?a ?x ?k ?s ?t; (case a => k_is); (case x => k_exc); (case k => k_is); (case s => k_is); (case t => k_is)))
    (case w_NoBack => (refine' Mini.OwnC.mk ?a ?d ?t ?s; (case a => k_is); (case d => k_is); (case t => k_is); (case s => k_is)))
    (case w_NoEntries => (refine' Mini.OwnC.mk ?a ?d ?t ?s; (case a => k_is); (case d => k_is); (case t => k_is); (case s => k_is)))
    (case w_NoFigure => (refine' Mini.OwnC.mk ?a ?d ?t ?s; (case a => k_is); (case d => k_is); (case t => k_is); (case s => k_is)))
    (case w_NoName => (refine' Mini.OwnC.mk ?a ?d ?t ?s; (case a => k_is); (case d => k_is); (case t => k_is); (case s => k_is)))
    (case w_NoNumber => (refine' Mini.OwnC.mk ?a ?d ?t ?s; (case a => k_is); (case d => k_is); (case t => k_is); (case s => k_is)))
    (case w_NoParts => (refine' Mini.OwnC.mk ?a ?d ?t ?s; (case a => k_is); (case d => k_is); (case t => k_is); (case s => k_is)))
    (case w_NoRhythm => (refine' Mini.OwnC.mk ?a ?d ?t ?s; (case a => k_is); (case d => k_is); (case t => k_is); (case s => k_is)))
    (case w_NoRing => (refine' Mini.OwnC.mk ?a ?d ?t ?s; (case a => k_is); (case d => k_is); (case t => k_is); (case s => k_is)))
    (case w_NoState => (refine' Mini.OwnC.mk ?a ?d ?t ?s; (case a => k_is); (case d => k_is); (case t => k_is); (case s => k_is)))
    (case w_NoText => (refine' Mini.OwnC.mk ?a ?d ?t ?s; (case a => k_is); (case d => k_is); (case t => k_is); (case s => k_is)))
    (case w_NoVoice => (refine' Mini.OwnC.mk ?a ?d ?t ?s; (case a => k_is); (case d => k_is); (case t => k_is); (case s => k_is)))
    (case w_NoVoices => (refine' Mini.OwnC.mk ?a ?d ?t ?s; (case a => k_is); (case d => k_is); (case t => k_is); (case s => k_is)))
    (case w_NotWhole => (refine' Mini.OwnC.mk ?a ?d ?t ?s; (case a => k_is); (case d => k_is); (case t => k_is); (case s => k_is)))
    (case w_RoundError => (refine' Mini.OwnC.mk ?a ?d ?t ?s; (case a => k_is); (case d => k_is); (case t => k_is); (case s => k_is)))
    (case w_Taken => (refine' Mini.OwnC.mk ?a ?d ?t ?s; (case a => k_is); (case d => k_is); (case t => k_is); (case s => k_is)))
    (case w_TooGreat => (refine' Mini.OwnC.mk ?a ?d ?t ?s; (case a => k_is); (case d => k_is); (case t => k_is); (case s => k_is)))
    (case u_NoEntries => (refine' Mini.PairAt.mk ?a ?e ?k ?s; (case a => k_is); (case e => k_is); (case k => k_is); (case s => k_is)))
    (case k_NoEntries => (refine' Mini.ExcCAt.mk ?a ?g ?k ?s ?d ?c ?n ?t ?m; (case a => k_is); (case g => k_is); (case k => k_is); (case s => k_is); (case d => k_is); (case c => k_is); (case n => k_is); (case t => k_is); (case m => k_is)))
    (case u_NoRhythm => (refine' Mini.PairAt.mk ?a ?e ?k ?s; (case a => k_is); (case e => k_is); (case k => k_is); (case s => k_is)))
    (case k_NoRhythm => (refine' Mini.ExcCAt.mk ?a ?g ?k ?s ?d ?c ?n ?t ?m; (case a => k_is); (case g => k_is); (case k => k_is); (case s => k_is); (case d => k_is); (case c => k_is); (case n => k_is); (case t => k_is); (case m => k_is)))
    (case u_NoRing => (refine' Mini.PairAt.mk ?a ?e ?k ?s; (case a => k_is); (case e => k_is); (case k => k_is); (case s => k_is)))
    (case k_NoRing => (refine' Mini.ExcCAt.mk ?a ?g ?k ?s ?d ?c ?n ?t ?m; (case a => k_is); (case g => k_is); (case k => k_is); (case s => k_is); (case d => k_is); (case c => k_is); (case n => k_is); (case t => k_is); (case m => k_is)))
    (case q_NoEntries_NoBack => (refine' Mini.PairAt.mk ?a ?e ?k ?s; (case a => k_is); (case e => k_is); (case k => k_is); (case s => k_is)))
    (case q_NoRhythm_NoBack => (refine' Mini.PairAt.mk ?a ?e ?k ?s; (case a => k_is); (case e => k_is); (case k => k_is); (case s => k_is)))
    (case q_NoRing_NoBack => (refine' Mini.PairAt.mk ?a ?e ?k ?s; (case a => k_is); (case e => k_is); (case k => k_is); (case s => k_is)))
    (case q_NoEntries_NoEntries => (refine' Mini.PairAt.mk ?a ?e ?k ?s; (case a => k_is); (case e => k_is); (case k => k_is); (case s => k_is)))
    (case q_NoRhythm_NoEntries => (refine' Mini.PairAt.mk ?a ?e ?k ?s; (case a => k_is); (case e => k_is); (case k => k_is); (case s => k_is)))
    (case q_NoRing_NoEntries => (refine' Mini.PairAt.mk ?a ?e ?k ?s; (case a => k_is); (case e => k_is); (case k => k_is); (case s => k_is)))
    (case q_NoEntries_NoFigure => (refine' Mini.PairAt.mk ?a ?e ?k ?s; (case a => k_is); (case e => k_is); (case k => k_is); (case s => k_is)))
    (case q_NoRhythm_NoFigure => (refine' Mini.PairAt.mk ?a ?e ?k ?s; (case a => k_is); (case e => k_is); (case k => k_is); (case s => k_is)))
    (case q_NoRing_NoFigure => (refine' Mini.PairAt.mk ?a ?e ?k ?s; (case a => k_is); (case e => k_is); (case k => k_is); (case s => k_is)))
    (case q_NoEntries_NoName => (refine' Mini.PairAt.mk ?a ?e ?k ?s; (case a => k_is); (case e => k_is); (case k => k_is); (case s => k_is)))
    (case q_NoRhythm_NoName => (refine' Mini.PairAt.mk ?a ?e ?k ?s; (case a => k_is); (case e => k_is); (case k => k_is); (case s => k_is)))
    (case q_NoRing_NoName => (refine' Mini.PairAt.mk ?a ?e ?k ?s; (case a => k_is); (case e => k_is); (case k => k_is); (case s => k_is)))
    (case q_NoEntries_NoNumber => (refine' Mini.PairAt.mk ?a ?e ?k ?s; (case a => k_is); (case e => k_is); (case k => k_is); (case s => k_is)))
    (case q_NoRhythm_NoNumber => (refine' Mini.PairAt.mk ?a ?e ?k ?s; (case a => k_is); (case e => k_is); (case k => k_is); (case s => k_is)))
    (case q_NoRing_NoNumber => (refine' Mini.PairAt.mk ?a ?e ?k ?s; (case a => k_is); (case e => k_is); (case k => k_is); (case s => k_is)))
    (case q_NoEntries_NoParts => (refine' Mini.PairAt.mk ?a ?e ?k ?s; (case a => k_is); (case e => k_is); (case k => k_is); (case s => k_is)))
    (case q_NoRhythm_NoParts => (refine' Mini.PairAt.mk ?a ?e ?k ?s; (case a => k_is); (case e => k_is); (case k => k_is); (case s => k_is)))
    (case q_NoRing_NoParts => (refine' Mini.PairAt.mk ?a ?e ?k ?s; (case a => k_is); (case e => k_is); (case k => k_is); (case s => k_is)))
    (case q_NoEntries_NoRhythm => (refine' Mini.PairAt.mk ?a ?e ?k ?s; (case a => k_is); (case e => k_is); (case k => k_is); (case s => k_is)))
    (case q_NoRhythm_NoRhythm => (refine' Mini.PairAt.mk ?a ?e ?k ?s; (case a => k_is); (case e => k_is); (case k => k_is); (case s => k_is)))
    (case q_NoRing_NoRhythm => (refine' Mini.PairAt.mk ?a ?e ?k ?s; (case a => k_is); (case e => k_is); (case k => k_is); (case s => k_is)))
    (case q_NoEntries_NoRing => (refine' Mini.PairAt.mk ?a ?e ?k ?s; (case a => k_is); (case e => k_is); (case k => k_is); (case s => k_is)))
    (case q_NoRhythm_NoRing => (refine' Mini.PairAt.mk ?a ?e ?k ?s; (case a => k_is); (case e => k_is); (case k => k_is); (case s => k_is)))
    (case q_NoRing_NoRing => (refine' Mini.PairAt.mk ?a ?e ?k ?s; (case a => k_is); (case e => k_is); (case k => k_is); (case s => k_is)))
    (case q_NoEntries_NoState => (refine' Mini.PairAt.mk ?a ?e ?k ?s; (case a => k_is); (case e => k_is); (case k => k_is); (case s => k_is)))
    (case q_NoRhythm_NoState => (refine' Mini.PairAt.mk ?a ?e ?k ?s; (case a => k_is); (case e => k_is); (case k => k_is); (case s => k_is)))
    (case q_NoRing_NoState => (refine' Mini.PairAt.mk ?a ?e ?k ?s; (case a => k_is); (case e => k_is); (case k => k_is); (case s => k_is)))
    (case q_NoEntries_NoText => (refine' Mini.PairAt.mk ?a ?e ?k ?s; (case a => k_is); (case e => k_is); (case k => k_is); (case s => k_is)))
    (case q_NoRhythm_NoText => (refine' Mini.PairAt.mk ?a ?e ?k ?s; (case a => k_is); (case e => k_is); (case k => k_is); (case s => k_is)))
    (case q_NoRing_NoText => (refine' Mini.PairAt.mk ?a ?e ?k ?s; (case a => k_is); (case e => k_is); (case k => k_is); (case s => k_is)))
    (case q_NoEntries_NoVoice => (refine' Mini.PairAt.mk ?a ?e ?k ?s; (case a => k_is); (case e => k_is); (case k => k_is); (case s => k_is)))
    (case q_NoRhythm_NoVoice => (refine' Mini.PairAt.mk ?a ?e ?k ?s; (case a => k_is); (case e => k_is); (case k => k_is); (case s => k_is)))
    (case q_NoRing_NoVoice => (refine' Mini.PairAt.mk ?a ?e ?k ?s; (case a => k_is); (case e => k_is); (case k => k_is); (case s => k_is)))
    (case q_NoEntries_NoVoices => (refine' Mini.PairAt.mk ?a ?e ?k ?s; (case a => k_is); (case e => k_is); (case k => k_is); (case s => k_is)))
    (case q_NoRhythm_NoVoices => (refine' Mini.PairAt.mk ?a ?e ?k ?s; (case a => k_is); (case e => k_is); (case k => k_is); (case s => k_is)))
    (case q_NoRing_NoVoices => (refine' Mini.PairAt.mk ?a ?e ?k ?s; (case a => k_is); (case e => k_is); (case k => k_is); (case s => k_is)))
    (case q_NoEntries_NotWhole => (refine' Mini.PairAt.mk ?a ?e ?k ?s; (case a => k_is); (case e => k_is); (case k => k_is); (case s => k_is)))
    (case q_NoRhythm_NotWhole => (refine' Mini.PairAt.mk ?a ?e ?k ?s; (case a => k_is); (case e => k_is); (case k => k_is); (case s => k_is)))
    (case q_NoRing_NotWhole => (refine' Mini.PairAt.mk ?a ?e ?k ?s; (case a => k_is); (case e => k_is); (case k => k_is); (case s => k_is)))
    (case q_NoEntries_Taken => (refine' Mini.PairAt.mk ?a ?e ?k ?s; (case a => k_is); (case e => k_is); (case k => k_is); (case s => k_is)))
    (case q_NoRhythm_Taken => (refine' Mini.PairAt.mk ?a ?e ?k ?s; (case a => k_is); (case e => k_is); (case k => k_is); (case s => k_is)))
    (case q_NoRing_Taken => (refine' Mini.PairAt.mk ?a ?e ?k ?s; (case a => k_is); (case e => k_is); (case k => k_is); (case s => k_is)))
    (case q_NoEntries_TooGreat => (refine' Mini.PairAt.mk ?a ?e ?k ?s; (case a => k_is); (case e => k_is); (case k => k_is); (case s => k_is)))
    (case q_NoRhythm_TooGreat => (refine' Mini.PairAt.mk ?a ?e ?k ?s; (case a => k_is); (case e => k_is); (case k => k_is); (case s => k_is)))
    (case q_NoRing_TooGreat => (refine' Mini.PairAt.mk ?a ?e ?k ?s; (case a => k_is); (case e => k_is); (case k => k_is); (case s => k_is)))
    (case v_NoEntries => (refine' Mini.ValAt.mk ?a ?s; (case a => k_is); (case s => k_is)))
    (case v_NoRhythm => (refine' Mini.ValAt.mk ?a ?s; (case a => k_is); (case s => k_is)))
    (case v_NoRing => (refine' Mini.ValAt.mk ?a ?s; (case a => k_is); (case s => k_is)))
    (case hN => decide)
    (case n_law => (first | kernel_rfl | k_is | rfl))
    (case h_law => (first | kernel_rfl | k_is | rfl))

