import PyProof.Rows.All
import Wide.All
import OpenK.AllK
import Wide.FinOn
import HandS.ForMost
import HandS.Wide
import HandS.TupAny
import HandS.TupMul
import HandS.Style
import HandS.IsInst
import HandS.Conv
import HandS.Rev
import HandS.Zip
import KE.GoesNew
import HandS.More
import HandS.Deep
import HandS.SortInts
import HandS.Small
import KE.KDictPairs
import HandS.SetFor
import HandS.Strs
import KE.DataMinMax
import KE.KStateDown
import HandS.Base
import HandS.Call
import HandS.Ends
import HandS.Words
import HandS.WordsExc
import HandS.Defaults
import HandS.Head0
import HandS.Head1
import HandS.Head2
import HandS.HeadEnd
import HandS.HeadHook1
import HandS.HeadHook2
import PySem.Challenge.RW_shuffletold_k26_shares_of_two_parts
set_option Elab.async false
set_option linter.all false
set_option maxRecDepth 100000
set_option maxHeartbeats 0
/-! Tr: data by value, a small store for what changes; semantic functions; rules that lead from them to the hand layer's judgements -/
namespace Tr
open PySem PySem.Spec PyProof.Rows L2

/-! ### data and store -/
inductive D where
  | non | bl (b : Bool) | int (i : Int) | str (x : Str) | tup (ds : List D) | ktp (ds : List D) | lst (ds : List D) | scr (ds : List D)
  | dk (ks : List Key) (ds : List D) | dt (ks : List (List Key)) (ds : List D) | ref (l : Nat) | ty (n : String)
inductive O where
  | lst (ds : List D) | dk (ks : List Key) (ds : List D) | dt (ks : List (List Key)) (ds : List D) | ins (C : Addr) (ns : List Str) (ds : List D)
abbrev Env := List (Option D)
abbrev Sto := List O
abbrev Ev := Env → Sto → Option (D × Sto)
abbrev Tv := Env → Sto → Option (Bool × Sto)
abbrev Lv := Env → Sto → Option (List D × Sto)
inductive Out where
  | nx (e : Env) | rt (d : D) | bk (e : Env) | ct (e : Env)
abbrev Sv := Env → Sto → Option (Out × Sto)
abbrev Fn := List D → Sto → Option (D × Sto)

/-! ### how data lies in the hand layer's heap -/
def KTup (K : PySem.W.Frag) (a : Addr) (xs : List V) : Prop := ∃ (o : Obj) (its : Array Value) (n : Nat), K.lookup a = some o ∧ o.cls = .type "tuple" ∧ o.data = .seq its n ∧ its.size ≤ sizeLine ∧ Vals xs its.toList
def KLst (K : PySem.W.Frag) (a : Addr) (xs : List V) : Prop := ∃ (o : Obj) (its : Array Value) (n : Nat), K.lookup a = some o ∧ o.cls = .type "list" ∧ o.dict = none ∧ o.data = .seq its n ∧ its.size ≤ sizeLine ∧ Vals xs its.toList
def TupAt (K : PySem.W.Frag) (A r : List Addr) (H : Hp) (a : Addr) (xs : List V) : Prop := a ∉ r ∧ a ∉ A ∧ H a = some (.tup xs)
def ScrAt (K : PySem.W.Frag) (A r : List Addr) (H : Hp) (a : Addr) (xs : List V) : Prop := (a ∉ r ∧ a ∉ A ∧ Rd H a (.lst xs)) ∨ KLst K a xs
mutual
inductive Rl (K : PySem.W.Frag) (A r : List Addr) (H : Hp) : V → D → Prop
  | non : Rl K A r H .non .non
  | bl (b : Bool) : Rl K A r H (.bl b) (.bl b)
  | int (i : Int) : Rl K A r H (.int i) (.int i)
  | str (x : Str) : Rl K A r H (.str x) (.str x)
  | ty (n : String) : Rl K A r H (.ty n) (.ty n)
  | tup {a vs ds} (h : TupAt K A r H a vs) (hs : RlL K A r H vs ds) : Rl K A r H (.ref a) (.tup ds)
  | ktp {a vs ds} (h : KTup K a vs) (hs : RlL K A r H vs ds) : Rl K A r H (.ref a) (.ktp ds)
  | lst {a vs ds} (ha : a ∉ r) (hA : a ∉ A) (h : H a = some (.lst vs)) (hs : RlL K A r H vs ds) : Rl K A r H (.ref a) (.lst ds)
  | scr {a vs ds} (h : ScrAt K A r H a vs) (hs : RlL K A r H vs ds) : Rl K A r H (.ref a) (.scr ds)
  | dk {a kvs ds} (ha : a ∉ r) (hA : a ∉ A) (h : H a = some (.dK kvs)) (hs : RlL K A r H (kvs.map (·.2)) ds) : Rl K A r H (.ref a) (.dk (kvs.map (·.1)) ds)
  | dt {a kvs ds} (ha : a ∉ r) (hA : a ∉ A) (h : H a = some (.dT kvs)) (hs : RlL K A r H (kvs.map (·.2)) ds) : Rl K A r H (.ref a) (.dt (kvs.map (·.1)) ds)
  | ref {a l} (h : r[l]? = some a) : Rl K A r H (.ref a) (.ref l)
inductive RlL (K : PySem.W.Frag) (A r : List Addr) (H : Hp) : List V → List D → Prop
  | nil : RlL K A r H [] []
  | cons {v d vs ds} (h : Rl K A r H v d) (hs : RlL K A r H vs ds) : RlL K A r H (v :: vs) (d :: ds)
end
def RO (K : PySem.W.Frag) (A r : List Addr) (H : Hp) (a : Addr) : O → Prop
  | .lst ds => ∃ vs, H a = some (.lst vs) ∧ RlL K A r H vs ds
  | .dk ks ds => ∃ kvs, H a = some (.dK kvs) ∧ kvs.map (·.1) = ks ∧ RlL K A r H (kvs.map (·.2)) ds
  | .dt ks ds => ∃ kvs, H a = some (.dT kvs) ∧ kvs.map (·.1) = ks ∧ RlL K A r H (kvs.map (·.2)) ds
  | .ins C ns ds => ∃ dx fs, H a = some (.ins C dx fs) ∧ fs.map (·.1) = ns ∧ RlL K A r H (fs.map (·.2)) ds
structure SR (K : PySem.W.Frag) (A r : List Addr) (H : Hp) (S : Sto) : Prop where
  len : r.length = S.length
  nd : r.Nodup
  av : ∀ a, a ∈ A → (∃ u, H a = some u) ∧ a ∉ r
  obj : ∀ (l : Nat) a o, r[l]? = some a → S[l]? = some o → RO K A r H a o
/-- what an evaluation leaves: the store's addresses grow by new ones, what is not in the store stays -/
structure Evo (r : List Addr) (H : Hp) (r' : List Addr) (H' : Hp) : Prop where
  pre : ∃ n, r' = r ++ n
  new : ∀ a, a ∈ r' → a ∉ r → H a = none
  keep : ∀ a o, H a = some o → a ∉ r → H' a = some o
inductive RE (K : PySem.W.Frag) (A r : List Addr) (H : Hp) : L2.St → Env → Prop
  | nil : RE K A r H [] []
  | no {v s e} (t : RE K A r H s e) : RE K A r H (v :: s) (none :: e)
  | so {v d s e} (h : Rl K A r H v d) (t : RE K A r H s e) : RE K A r H (some v :: s) (some d :: e)

section
variable {K : PySem.W.Frag} {A r r' r'' : List Addr} {H H' H'' : Hp} {S : Sto}
theorem Evo.refl : Evo r H r H := ⟨⟨[], by simp⟩, fun _ h n => absurd h n, fun _ _ h _ => h⟩
theorem Evo.sub (e : Evo r H r' H') {a : Addr} (h : a ∈ r) : a ∈ r' := by
  obtain ⟨n, rfl⟩ := e.pre
  exact List.mem_append_left _ h
theorem Evo.out (e : Evo r H r' H') {a : Addr} {o : HO} (h : H a = some o) (n : a ∉ r) : a ∉ r' := fun m => by
  have := e.new a m n
  rw [h] at this
  cases this
theorem Evo.get (e : Evo r H r' H') {l : Nat} {a : Addr} (h : r[l]? = some a) : r'[l]? = some a := by
  obtain ⟨n, rfl⟩ := e.pre
  rw [List.getElem?_append_left (List.getElem?_eq_some_iff.mp h).1]
  exact h
theorem Evo.trans (e : Evo r H r' H') (f : Evo r' H' r'' H'') : Evo r H r'' H'' where
  pre := by
    obtain ⟨n, rfl⟩ := e.pre
    obtain ⟨m, rfl⟩ := f.pre
    exact ⟨n ++ m, by rw [List.append_assoc]⟩
  new := fun a h n => by
    by_cases ha : a ∈ r'
    · exact e.new a ha n
    · have h1 := f.new a h ha
      cases q : H a with
      | none => rfl
      | some o =>
        rw [e.keep a o q n] at h1
        cases h1
  keep := fun a o h n => f.keep a o (e.keep a o h n) (e.out h n)
theorem TupAt.mono (e : Evo r H r' H') {a : Addr} {xs : List V} (h : TupAt K A r H a xs) : TupAt K A r' H' a xs := by
  obtain ⟨n, nA, h⟩ := h
  exact ⟨e.out h n, nA, e.keep _ _ h n⟩
theorem ScrAt.mono (e : Evo r H r' H') {a : Addr} {xs : List V} (h : ScrAt K A r H a xs) : ScrAt K A r' H' a xs := by
  rcases h with ⟨n, nA, h | ⟨o, h⟩⟩ | h
  · exact .inl ⟨e.out h n, nA, .inl (e.keep _ _ h n)⟩
  · exact .inl ⟨e.out h n, nA, .inr ⟨o, e.keep _ _ h n⟩⟩
  · exact .inr h
theorem TupAt.sq {a : Addr} {xs : List V} (h : TupAt K A r H a xs) : SqT K H a xs := by
  obtain ⟨_, _, h⟩ := h
  exact .inl (.inl h)
theorem KTup.sq {a : Addr} {xs : List V} (h : KTup K a xs) : SqT K H a xs := .inr h
theorem ScrAt.sq {a : Addr} {xs : List V} (h : ScrAt K A r H a xs) : SqL K H a xs := by
  rcases h with ⟨_, _, h⟩ | h
  · exact .inl h
  · exact .inr h
mutual
theorem Rl.mono (e : Evo r H r' H') : ∀ {v d}, Rl K A r H v d → Rl K A r' H' v d
  | _, _, .non => .non
  | _, _, .bl b => .bl b
  | _, _, .int i => .int i
  | _, _, .str x => .str x
  | _, _, .ty n => .ty n
  | _, _, .tup h hs => .tup (h.mono e) (RlL.mono e hs)
  | _, _, .ktp h hs => .ktp h (RlL.mono e hs)
  | _, _, .lst ha hA h hs => .lst (e.out h ha) hA (e.keep _ _ h ha) (RlL.mono e hs)
  | _, _, .scr h hs => .scr (h.mono e) (RlL.mono e hs)
  | _, _, .dk ha hA h hs => .dk (e.out h ha) hA (e.keep _ _ h ha) (RlL.mono e hs)
  | _, _, .dt ha hA h hs => .dt (e.out h ha) hA (e.keep _ _ h ha) (RlL.mono e hs)
  | _, _, .ref h => .ref (e.get h)
theorem RlL.mono (e : Evo r H r' H') : ∀ {vs ds}, RlL K A r H vs ds → RlL K A r' H' vs ds
  | _, _, .nil => .nil
  | _, _, .cons h hs => .cons (Rl.mono e h) (RlL.mono e hs)
end
theorem RE.mono (e : Evo r H r' H') : ∀ {s n}, RE K A r H s n → RE K A r' H' s n
  | _, _, .nil => .nil
  | _, _, .no t => .no (RE.mono e t)
  | _, _, .so h t => .so (h.mono e) (RE.mono e t)
theorem RlL.length : ∀ {vs ds}, RlL K A r H vs ds → vs.length = ds.length
  | _, _, .nil => rfl
  | _, _, .cons _ hs => congrArg (· + 1) (RlL.length hs)
theorem RlL.get : ∀ {vs ds} {i : Nat} {d}, RlL K A r H vs ds → ds[i]? = some d → ∃ v, vs[i]? = some v ∧ Rl K A r H v d
  | _, _, _, _, .nil, e => by simp at e
  | _, _, 0, _, .cons h _, e => by
    simp at e
    subst e
    exact ⟨_, rfl, h⟩
  | _, _, i + 1, d, .cons _ t, e => by
    obtain ⟨v, h1, h2⟩ := RlL.get (i := i) (d := d) t (by simpa using e)
    exact ⟨v, by simpa using h1, h2⟩
theorem RlL.getV : ∀ {vs ds} {i : Nat} {v}, RlL K A r H vs ds → vs[i]? = some v → ∃ d, ds[i]? = some d ∧ Rl K A r H v d
  | _, _, _, _, .nil, e => by simp at e
  | _, _, 0, _, .cons h _, e => by
    simp at e
    subst e
    exact ⟨_, rfl, h⟩
  | _, _, i + 1, d, .cons _ t, e => by
    obtain ⟨v, h1, h2⟩ := RlL.getV (i := i) (v := d) t (by simpa using e)
    exact ⟨v, by simpa using h1, h2⟩
theorem RlL.append : ∀ {vs ds ws es}, RlL K A r H vs ds → RlL K A r H ws es → RlL K A r H (vs ++ ws) (ds ++ es)
  | _, _, _, _, .nil, s => s
  | _, _, _, _, .cons h t, s => .cons h (RlL.append t s)
theorem RlL.take : ∀ {vs ds} (n : Nat), RlL K A r H vs ds → RlL K A r H (vs.take n) (ds.take n)
  | _, _, 0, _ => .nil
  | _, _, _ + 1, .nil => .nil
  | _, _, n + 1, .cons h t => .cons h (RlL.take n t)
theorem RlL.drop : ∀ {vs ds} (n : Nat), RlL K A r H vs ds → RlL K A r H (vs.drop n) (ds.drop n)
  | _, _, 0, h => h
  | _, _, _ + 1, .nil => .nil
  | _, _, n + 1, .cons _ t => RlL.drop n t
theorem RlL.set {v d} (h : Rl K A r H v d) : ∀ {vs ds} (i : Nat), RlL K A r H vs ds → RlL K A r H (vs.set i v) (ds.set i d)
  | _, _, _, .nil => .nil
  | _, _, 0, .cons _ t => .cons h t
  | _, _, i + 1, .cons q t => .cons q (RlL.set h i t)
theorem RlL.reverse {vs ds} (h : RlL K A r H vs ds) : RlL K A r H vs.reverse ds.reverse := by
  induction vs generalizing ds with
  | nil =>
    cases h
    exact .nil
  | cons v vs ih =>
    cases h with
    | cons h t =>
      rw [List.reverse_cons, List.reverse_cons]
      exact (ih t).append (.cons h .nil)
theorem RlL.eraseIdx : ∀ {vs ds} (i : Nat), RlL K A r H vs ds → RlL K A r H (vs.eraseIdx i) (ds.eraseIdx i)
  | _, _, _, .nil => .nil
  | _, _, 0, .cons _ t => t
  | _, _, i + 1, .cons h t => .cons h (RlL.eraseIdx i t)
theorem RlL.ints : ∀ {vs} {ns : List Int}, RlL K A r H vs (ns.map D.int) → vs = ns.map V.int
  | _, [], .nil => rfl
  | _, n :: ns, .cons h t => by
    cases h
    rw [RlL.ints t]
    rfl
theorem RlL.bls : ∀ {vs} {ns : List Bool}, RlL K A r H vs (ns.map D.bl) → vs = ns.map V.bl
  | _, [], .nil => rfl
  | _, n :: ns, .cons h t => by
    cases h
    rw [RlL.bls t]
    rfl
theorem RlL.strs : ∀ {vs} {ns : List Str}, RlL K A r H vs (ns.map D.str) → vs = ns.map V.str
  | _, [], .nil => rfl
  | _, n :: ns, .cons h t => by
    cases h
    rw [RlL.strs t]
    rfl
theorem RlL.of_ints : ∀ (ns : List Int), RlL K A r H (ns.map V.int) (ns.map D.int)
  | [] => .nil
  | n :: ns => .cons (.int n) (RlL.of_ints ns)
theorem RlL.of_strs : ∀ (ns : List Str), RlL K A r H (ns.map V.str) (ns.map D.str)
  | [] => .nil
  | n :: ns => .cons (.str n) (RlL.of_strs ns)
theorem RE.length : ∀ {s n}, RE K A r H s n → s.length = n.length
  | _, _, .nil => rfl
  | _, _, .no t => congrArg (· + 1) (RE.length t)
  | _, _, .so _ t => congrArg (· + 1) (RE.length t)
theorem RE.get : ∀ {s n} {i : Nat} {d}, RE K A r H s n → n[i]? = some (some d) → ∃ v, s[i]? = some (some v) ∧ Rl K A r H v d
  | _, _, _, _, .nil, e => by simp at e
  | _, _, 0, _, .no _, e => by simp at e
  | _, _, 0, _, .so h _, e => by
    simp at e
    subst e
    exact ⟨_, rfl, h⟩
  | _, _, i + 1, d, .no t, e => by
    obtain ⟨v, h1, h2⟩ := RE.get (i := i) (d := d) t (by simpa using e)
    exact ⟨v, by simpa using h1, h2⟩
  | _, _, i + 1, d, .so _ t, e => by
    obtain ⟨v, h1, h2⟩ := RE.get (i := i) (d := d) t (by simpa using e)
    exact ⟨v, by simpa using h1, h2⟩
theorem RE.set {v d} (h : Rl K A r H v d) : ∀ {s n} (i : Nat), RE K A r H s n → RE K A r H (s.set i (some v)) (n.set i (some d))
  | _, _, _, .nil => .nil
  | _, _, 0, .no t => .so h t
  | _, _, 0, .so _ t => .so h t
  | _, _, i + 1, .no t => .no (RE.set h i t)
  | _, _, i + 1, .so q t => .so q (RE.set h i t)
theorem RE.unset : ∀ {s n} {v : Option V} (i : Nat), RE K A r H s n → RE K A r H (s.set i v) (n.set i none)
  | _, _, _, _, .nil => .nil
  | _, _, _, 0, .no t => .no t
  | _, _, _, 0, .so _ t => .no t
  | _, _, _, i + 1, .no t => .no (RE.unset i t)
  | _, _, _, i + 1, .so q t => .so q (RE.unset i t)

/-! ### the store -/
theorem RO.tracked {a : Addr} {o : O} (h : RO K A r H a o) : ∃ u, H a = some u := by
  cases o with
  | lst ds => obtain ⟨vs, h, _⟩ := h; exact ⟨_, h⟩
  | dk ks ds => obtain ⟨vs, h, _⟩ := h; exact ⟨_, h⟩
  | dt ks ds => obtain ⟨vs, h, _⟩ := h; exact ⟨_, h⟩
  | ins C ns ds => obtain ⟨dx, fs, h, _⟩ := h; exact ⟨_, h⟩
theorem SR.tracked (s : SR K A r H S) {a : Addr} (h : a ∈ r) : ∃ u, H a = some u := by
  obtain ⟨l, hl, e⟩ := List.mem_iff_getElem.mp h
  have h1 : r[l]? = some a := by rw [List.getElem?_eq_getElem hl, e]
  have hl2 : l < S.length := by rw [← s.len]; exact hl
  exact (s.obj l a S[l] h1 (List.getElem?_eq_getElem hl2)).tracked
theorem SR.notin (s : SR K A r H S) {a : Addr} (h : H a = none) : a ∉ r := fun m => by
  obtain ⟨u, e⟩ := s.tracked m
  rw [h] at e
  cases e
/-- fresh behind an evaluation was fresh ahead of it -/
theorem Evo.back (e : Evo r H r' H') (s : SR K A r' H' S) {a : Addr} (h : H' a = none) : H a = none := by
  cases q : H a with
  | none => rfl
  | some o =>
    by_cases m : a ∈ r
    · obtain ⟨u, z⟩ := s.tracked (e.sub m)
      rw [h] at z
      cases z
    · rw [e.keep a o q m] at h
      cases h
theorem RO.mono (e : Evo r H r' H') {a : Addr} (k : H' a = H a) {o : O} (h : RO K A r H a o) : RO K A r' H' a o := by
  cases o with
  | lst ds => obtain ⟨vs, h, t⟩ := h; exact ⟨vs, by rw [k, h], t.mono e⟩
  | dk ks ds => obtain ⟨vs, h, z, t⟩ := h; exact ⟨vs, by rw [k, h], z, t.mono e⟩
  | dt ks ds => obtain ⟨vs, h, z, t⟩ := h; exact ⟨vs, by rw [k, h], z, t.mono e⟩
  | ins C ns ds => obtain ⟨dx, fs, h, z, t⟩ := h; exact ⟨dx, fs, by rw [k, h], z, t.mono e⟩
theorem Evo.fresh {p : Addr} {o : HO} (h : H p = none) : Evo r H r (upd H p o) := ⟨⟨[], by simp⟩, fun _ m n => absurd m n, fun a u e _ => by rw [upd_ne (ne_of_none e h)]; exact e⟩
theorem Evo.push {p : Addr} {o : HO} (h : H p = none) : Evo r H (r ++ [p]) (upd H p o) := ⟨⟨[p], rfl⟩, fun a m n => by
    rcases List.mem_append.mp m with m | m
    · exact absurd m n
    · rw [List.mem_singleton.mp m]
      exact h, fun a u e _ => by rw [upd_ne (ne_of_none e h)]; exact e⟩
theorem Evo.write {p : Addr} {o : HO} (h : p ∈ r) : Evo r H r (upd H p o) := ⟨⟨[], by simp⟩, fun _ m n => absurd m n, fun a u e n => by rw [upd_ne (fun z => n (by rw [z]; exact h))]; exact e⟩
theorem SR.fresh (s : SR K A r H S) {p : Addr} {o : HO} (h : H p = none) : SR K A r (upd H p o) S :=
  ⟨s.len, s.nd, fun a m => ⟨by
    obtain ⟨⟨u, e⟩, _⟩ := s.av a m
    exact ⟨u, by rw [upd_ne (ne_of_none e h)]; exact e⟩, (s.av a m).2⟩, fun l a u e1 e2 => (s.obj l a u e1 e2).mono (.fresh h) (upd_ne (fun z => s.notin h (by rw [← z]; exact List.mem_of_getElem? e1)))⟩
theorem SR.push (s : SR K A r H S) {p : Addr} {o : HO} {u : O} (h : H p = none) (new : RO K A (r ++ [p]) (upd H p o) p u) : SR K A (r ++ [p]) (upd H p o) (S ++ [u]) where
  len := by rw [List.length_append, List.length_append, s.len]; rfl
  nd := by
    rw [List.nodup_append]
    exact ⟨s.nd, (by simp), fun a ha b hb => by
      rw [List.mem_singleton.mp hb]
      exact fun z => s.notin h (by rw [← z]; exact ha)⟩
  av := fun a m => by
    obtain ⟨⟨u, e⟩, n⟩ := s.av a m
    exact ⟨⟨u, by rw [upd_ne (ne_of_none e h)]; exact e⟩, fun z => (List.mem_append.mp z).elim n fun z => ne_of_none e h (List.mem_singleton.mp z)⟩
  obj := fun l a q e1 e2 => by
    by_cases hl : l < r.length
    · rw [List.getElem?_append_left hl] at e1
      rw [List.getElem?_append_left (by rw [← s.len]; exact hl)] at e2
      exact (s.obj l a q e1 e2).mono (.push h) (upd_ne (fun z => s.notin h (by rw [← z]; exact List.mem_of_getElem? e1)))
    · rw [List.getElem?_append_right (by omega)] at e1
      rw [List.getElem?_append_right (by rw [← s.len]; omega)] at e2
      have z : l - r.length = 0 := by
        have := (List.getElem?_eq_some_iff.mp e1).1
        simp at this
        omega
      rw [z] at e1
      rw [← s.len, z] at e2
      simp at e1 e2
      subst e1 e2
      exact new
theorem SR.write (s : SR K A r H S) {l : Nat} {p : Addr} {o : HO} {u : O} (h : r[l]? = some p) (new : RO K A r (upd H p o) p u) : SR K A r (upd H p o) (S.set l u) where
  len := by rw [List.length_set]; exact s.len
  nd := s.nd
  av := fun a m => by
    obtain ⟨⟨u, e⟩, n⟩ := s.av a m
    exact ⟨⟨u, by rw [upd_ne (fun z => n (by rw [z]; exact List.mem_of_getElem? h))]; exact e⟩, n⟩
  obj := fun k a q e1 e2 => by
    by_cases hk : k = l
    · subst hk
      rw [h] at e1
      cases e1
      have hl : k < S.length := by rw [← s.len]; exact (List.getElem?_eq_some_iff.mp h).1
      rw [List.getElem?_set_self hl] at e2
      cases e2
      exact new
    · rw [List.getElem?_set_ne (Ne.symm hk)] at e2
      have ne : a ≠ p := fun z => by
        subst z
        exact hk (nodup_get s.nd e1 h)
      exact (s.obj k a q e1 e2).mono (.write (List.mem_of_getElem? h)) (upd_ne ne)
where
  nodup_get {l : List Addr} (hN : l.Nodup) {i j : Nat} {x : Addr} (a : l[i]? = some x) (b : l[j]? = some x) : i = j := by
    obtain ⟨h1, e1⟩ := List.getElem?_eq_some_iff.mp a
    obtain ⟨h2, e2⟩ := List.getElem?_eq_some_iff.mp b
    exact (List.getElem_inj hN).mp (e1.trans e2.symm)
/-! ### what is kept away from -/
theorem SR.notav (s : SR K A r H S) {p : Addr} (h : H p = none) : p ∉ A := fun m => by
  obtain ⟨⟨u, e⟩, _⟩ := s.av p m
  rw [h] at e
  cases e
mutual
theorem Rl.av {p : Addr} (hp : H p = none) : ∀ {v d}, Rl K A r H v d → Rl K (p :: A) r H v d
  | _, _, .non => .non
  | _, _, .bl b => .bl b
  | _, _, .int i => .int i
  | _, _, .str x => .str x
  | _, _, .ty n => .ty n
  | _, _, .tup ⟨a, b, c⟩ hs => .tup ⟨a, by simp [b, ne_of_none c hp], c⟩ (RlL.av hp hs)
  | _, _, .ktp h hs => .ktp h (RlL.av hp hs)
  | _, _, .lst ha hA h hs => .lst ha (by simp [hA, ne_of_none h hp]) h (RlL.av hp hs)
  | _, _, .scr h hs => .scr (h.elim (fun ⟨a, b, c⟩ => .inl ⟨a, by
      rcases c with c | ⟨o, c⟩
      · simp [b, ne_of_none c hp]
      · simp [b, ne_of_none c hp], c⟩) .inr) (RlL.av hp hs)
  | _, _, .dk ha hA h hs => .dk ha (by simp [hA, ne_of_none h hp]) h (RlL.av hp hs)
  | _, _, .dt ha hA h hs => .dt ha (by simp [hA, ne_of_none h hp]) h (RlL.av hp hs)
  | _, _, .ref h => .ref h
theorem RlL.av {p : Addr} (hp : H p = none) : ∀ {vs ds}, RlL K A r H vs ds → RlL K (p :: A) r H vs ds
  | _, _, .nil => .nil
  | _, _, .cons h hs => .cons (Rl.av hp h) (RlL.av hp hs)
end
mutual
/-- other lists of what is kept away from and of the store's addresses, under which no more is shut out -/
theorem Rl.re {A' : List Addr} (h1 : ∀ a, a ∉ r → a ∉ A → a ∉ r' ∧ a ∉ A') (h2 : ∀ (l : Nat) a, r[l]? = some a → r'[l]? = some a) : ∀ {v d}, Rl K A r H v d → Rl K A' r' H v d
  | _, _, .non => .non
  | _, _, .bl b => .bl b
  | _, _, .int i => .int i
  | _, _, .str x => .str x
  | _, _, .ty n => .ty n
  | _, _, .tup ⟨a, b, c⟩ hs => .tup ⟨(h1 _ a b).1, (h1 _ a b).2, c⟩ (RlL.re h1 h2 hs)
  | _, _, .ktp h hs => .ktp h (RlL.re h1 h2 hs)
  | _, _, .lst ha hA h hs => .lst (h1 _ ha hA).1 (h1 _ ha hA).2 h (RlL.re h1 h2 hs)
  | _, _, .scr h hs => .scr (h.elim (fun ⟨a, b, c⟩ => .inl ⟨(h1 _ a b).1, (h1 _ a b).2, c⟩) .inr) (RlL.re h1 h2 hs)
  | _, _, .dk ha hA h hs => .dk (h1 _ ha hA).1 (h1 _ ha hA).2 h (RlL.re h1 h2 hs)
  | _, _, .dt ha hA h hs => .dt (h1 _ ha hA).1 (h1 _ ha hA).2 h (RlL.re h1 h2 hs)
  | _, _, .ref h => .ref (h2 _ _ h)
theorem RlL.re {A' : List Addr} (h1 : ∀ a, a ∉ r → a ∉ A → a ∉ r' ∧ a ∉ A') (h2 : ∀ (l : Nat) a, r[l]? = some a → r'[l]? = some a) : ∀ {vs ds}, RlL K A r H vs ds → RlL K A' r' H vs ds
  | _, _, .nil => .nil
  | _, _, .cons h hs => .cons (Rl.re h1 h2 h) (RlL.re h1 h2 hs)
end
theorem RO.re {A' : List Addr} (h1 : ∀ a, a ∉ r → a ∉ A → a ∉ r' ∧ a ∉ A') (h2 : ∀ (l : Nat) a, r[l]? = some a → r'[l]? = some a) {a : Addr} {o : O} (h : RO K A r H a o) : RO K A' r' H a o := by
  cases o with
  | lst ds => obtain ⟨vs, h, t⟩ := h; exact ⟨vs, h, t.re h1 h2⟩
  | dk ks ds => obtain ⟨vs, h, z, t⟩ := h; exact ⟨vs, h, z, t.re h1 h2⟩
  | dt ks ds => obtain ⟨vs, h, z, t⟩ := h; exact ⟨vs, h, z, t.re h1 h2⟩
  | ins C ns ds => obtain ⟨dx, fs, h, z, t⟩ := h; exact ⟨dx, fs, h, z, t.re h1 h2⟩
theorem RE.re {A' : List Addr} (h1 : ∀ a, a ∉ r → a ∉ A → a ∉ r' ∧ a ∉ A') (h2 : ∀ (l : Nat) a, r[l]? = some a → r'[l]? = some a) : ∀ {s n}, RE K A r H s n → RE K A' r' H s n
  | _, _, .nil => .nil
  | _, _, .no t => .no (RE.re h1 h2 t)
  | _, _, .so h t => .so (h.re h1 h2) (RE.re h1 h2 t)
theorem drop1 {p : Addr} : ∀ a, a ∉ r → a ∉ p :: A → a ∉ r ∧ a ∉ A := fun _ h n => ⟨h, fun m => n (List.mem_cons_of_mem _ m)⟩
theorem move1 {p : Addr} : ∀ a, a ∉ r → a ∉ p :: A → a ∉ r ++ [p] ∧ a ∉ A := fun _ h n => ⟨fun z => (List.mem_append.mp z).elim h fun z => n (by rw [List.mem_singleton.mp z]; exact List.mem_cons_self), fun m => n (List.mem_cons_of_mem _ m)⟩
theorem getApp {p : Addr} : ∀ (l : Nat) a, r[l]? = some a → (r ++ [p])[l]? = some a := fun l a h => by
  rw [List.getElem?_append_left (List.getElem?_eq_some_iff.mp h).1]
  exact h
theorem SR.drop {p : Addr} (s : SR K (p :: A) r H S) : SR K A r H S := ⟨s.len, s.nd, fun a m => s.av a (List.mem_cons_of_mem _ m), fun l a o e1 e2 => (s.obj l a o e1 e2).re drop1 fun _ _ h => h⟩
theorem RO.holdO {p : Addr} (hp : H p = none) {a : Addr} {o : O} (h : RO K A r H a o) : RO K (p :: A) r H a o := by
  cases o with
  | lst ds => obtain ⟨vs, h, t⟩ := h; exact ⟨vs, h, t.av hp⟩
  | dk ks ds => obtain ⟨vs, h, z, t⟩ := h; exact ⟨vs, h, z, t.av hp⟩
  | dt ks ds => obtain ⟨vs, h, z, t⟩ := h; exact ⟨vs, h, z, t.av hp⟩
  | ins C ns ds => obtain ⟨dx, fs, h, z, t⟩ := h; exact ⟨dx, fs, h, z, t.av hp⟩
theorem RE.holdE {p : Addr} (hp : H p = none) : ∀ {s n}, RE K A r H s n → RE K (p :: A) r H s n
  | _, _, .nil => .nil
  | _, _, .no t => .no (RE.holdE hp t)
  | _, _, .so h t => .so (h.av hp) (RE.holdE hp t)
theorem SR.hold (s : SR K A r H S) {p : Addr} {o : HO} (h : H p = none) : SR K (p :: A) r (upd H p o) S :=
  ⟨s.len, s.nd, fun a m => by
    rcases List.mem_cons.mp m with e | m
    · rw [e]
      exact ⟨⟨o, upd_same⟩, s.notin h⟩
    · obtain ⟨⟨u, e⟩, n⟩ := s.av a m
      exact ⟨⟨u, by rw [upd_ne (ne_of_none e h)]; exact e⟩, n⟩, fun l a u e1 e2 => by
    have q := s.obj l a u e1 e2
    have q2 : RO K (p :: A) r H a u := RO.holdO h q
    exact q2.mono (.fresh h) (upd_ne (fun z => s.notin h (by rw [← z]; exact List.mem_of_getElem? e1)))⟩
/-- a list that is kept away from joins the store -/
theorem SR.join {p : Addr} {vs : List V} {ds : List D} (s : SR K (p :: A) r H S) (h : H p = some (.lst vs)) (l : RlL K (p :: A) r H vs ds) (hA : p ∉ A) : SR K A (r ++ [p]) H (S ++ [.lst ds]) where
  len := by rw [List.length_append, List.length_append, s.len]; rfl
  nd := by
    rw [List.nodup_append]
    exact ⟨s.nd, by simp, fun a ha b hb => by
      rw [List.mem_singleton.mp hb]
      exact fun z => (s.av p List.mem_cons_self).2 (by rw [← z]; exact ha)⟩
  av := fun a m => by
    obtain ⟨u, n⟩ := s.av a (List.mem_cons_of_mem _ m)
    exact ⟨u, fun z => (List.mem_append.mp z).elim n fun z => hA (by rw [← List.mem_singleton.mp z]; exact m)⟩
  obj := fun i a q e1 e2 => by
    by_cases hl : i < r.length
    · rw [List.getElem?_append_left hl] at e1
      rw [List.getElem?_append_left (by rw [← s.len]; exact hl)] at e2
      exact (s.obj i a q e1 e2).re move1 getApp
    · rw [List.getElem?_append_right (by omega)] at e1
      rw [List.getElem?_append_right (by rw [← s.len]; omega)] at e2
      have z : i - r.length = 0 := by
        have := (List.getElem?_eq_some_iff.mp e1).1
        simp at this
        omega
      rw [z] at e1
      rw [← s.len, z] at e2
      simp at e1 e2
      subst e1 e2
      exact ⟨vs, h, l.re move1 getApp⟩
theorem Evo.join {p : Addr} (e : Evo r H r' H') (h : H p = none) : Evo r H (r' ++ [p]) H' := by
  obtain ⟨n, rfl⟩ := e.pre
  exact ⟨⟨n ++ [p], by rw [List.append_assoc]⟩, fun a m q => (List.mem_append.mp m).elim (fun m => e.new a m q) fun m => by rw [List.mem_singleton.mp m]; exact h, e.keep⟩
end
end Tr
namespace Tr
open PySem PySem.Spec PyProof.Rows L2

/-! ### the readings of semantic functions -/
def rdE (K : PySem.W.Frag) (f : Ev) : TE := fun σ H Q => ∃ A r S e d S', SR K A r H S ∧ RE K A r H σ e ∧ f e S = some (d, S') ∧ ∀ v r' H', Evo r H r' H' → SR K A r' H' S' → Rl K A r' H' v d → Q v H'
/-- a new list, in no other's hands -/
def rdF (K : PySem.W.Frag) (f : Lv) : TE := fun σ H Q => ∃ A r S e ds S', SR K A r H S ∧ RE K A r H σ e ∧ f e S = some (ds, S') ∧
  ∀ p vs r' H', Evo r H r' H' → SR K (p :: A) r' H' S' → H p = none → p ∉ A → H' p = some (.lst vs) → RlL K (p :: A) r' H' vs ds → Q (.ref p) H'
def rdT (K : PySem.W.Frag) (f : Tv) : TT := fun σ H Q => ∃ A r S e b S', SR K A r H S ∧ RE K A r H σ e ∧ f e S = some (b, S') ∧ ∀ r' H', Evo r H r' H' → SR K A r' H' S' → Q b H'
def rdA (K : PySem.W.Frag) (f : Lv) : TA := fun σ H Q => ∃ A r S e ds S', SR K A r H S ∧ RE K A r H σ e ∧ f e S = some (ds, S') ∧ ∀ vs r' H', Evo r H r' H' → SR K A r' H' S' → RlL K A r' H' vs ds → Q vs H'
def EndsOk (K : PySem.W.Frag) (A r : List Addr) (H : Hp) (S' : Sto) (out : Out) (D : Ends) : Prop :=
  match out with
  | .nx e => ∀ σ r' H', Evo r H r' H' → SR K A r' H' S' → RE K A r' H' σ e → D.nx σ H'
  | .rt d => ∀ v r' H', Evo r H r' H' → SR K A r' H' S' → Rl K A r' H' v d → D.rt v H'
  | .bk e => ∀ σ r' H', Evo r H r' H' → SR K A r' H' S' → RE K A r' H' σ e → D.bk σ H'
  | .ct e => ∀ σ r' H', Evo r H r' H' → SR K A r' H' S' → RE K A r' H' σ e → D.ct σ H'
def rdS (K : PySem.W.Frag) (f : Sv) : TS := fun D σ H => ∃ A r S e out S', SR K A r H S ∧ RE K A r H σ e ∧ f e S = some (out, S') ∧ EndsOk K A r H S' out D
theorem EndsOk.evo {K : PySem.W.Frag} {A r r' : List Addr} {H H' : Hp} {S' : Sto} {out : Out} {D : Ends} (h : EndsOk K A r H S' out D) (e : Evo r H r' H') : EndsOk K A r' H' S' out D := by
  cases out with
  | nx _ => exact fun σ r2 H2 e2 s q => h σ r2 H2 (e.trans e2) s q
  | rt _ => exact fun σ r2 H2 e2 s q => h σ r2 H2 (e.trans e2) s q
  | bk _ => exact fun σ r2 H2 e2 s q => h σ r2 H2 (e.trans e2) s q
  | ct _ => exact fun σ r2 H2 e2 s q => h σ r2 H2 (e.trans e2) s q

section
variable {X : Cx}
theorem _root_.L2.PE.imp {e : Expr} {t t' : TE} (h : PE X e t) (i : ∀ σ H Q, t' σ H Q → t σ H Q) : PE X e t' := ⟨fun pins s σ H Q I q => h.run pins s σ H Q I (i σ H Q q)⟩
theorem _root_.L2.PT.imp {e : Expr} {t t' : TT} (h : PT X e t) (i : ∀ σ H Q, t' σ H Q → t σ H Q) : PT X e t' := ⟨fun pins s σ H Q I q => h.run pins s σ H Q I (i σ H Q q)⟩
theorem _root_.L2.PW.imp {e : Expr} {t t' : TT} (h : PW X e t) (i : ∀ σ H Q, t' σ H Q → t σ H Q) : PW X e t' := ⟨fun w pins s σ H Q I q => h.run w pins s σ H Q I (i σ H Q q)⟩
theorem _root_.L2.PA.imp {e : List Expr} {t t' : TA} (h : PA X e t) (i : ∀ σ H Q, t' σ H Q → t σ H Q) : PA X e t' := ⟨fun pos pins s σ H Q I q => h.run pos pins s σ H Q I (i σ H Q q)⟩
theorem _root_.L2.PS.imp {e : Stmt} {t t' : TS} (h : PS X e t) (i : ∀ D σ H, t' D σ H → t D σ H) : PS X e t' := ⟨fun pins s σ H D I q => h.run pins s σ H D I (i D σ H q)⟩
theorem _root_.L2.PSs.imp {e : List Stmt} {t t' : TS} (h : PSs X e t) (i : ∀ D σ H, t' D σ H → t D σ H) : PSs X e t' := ⟨fun pins s σ H D I q => h.run pins s σ H D I (i D σ H q)⟩
end

/-! ### expressions -/
def eVar (i : Nat) : Ev := fun e S => match e[i]? with
  | some (some d) => some (d, S)
  | _ => none
def eC (d : D) : Ev := fun _ S => some (d, S)
def eOp (h : D → D → Option D) (f g : Ev) : Ev := fun e S => match f e S with
  | some (x, S1) => match g e S1 with
    | some (y, S2) => match h x y with
      | some z => some (z, S2)
      | none => none
    | none => none
  | none => none
def eUn (h : D → Option D) (f : Ev) : Ev := fun e S => match f e S with
  | some (x, S1) => match h x with
    | some z => some (z, S1)
    | none => none
  | none => none
/-- an operation that may ask the store -/
def eOpS (h : D → D → Sto → Option (D × Sto)) (f g : Ev) : Ev := fun e S => match f e S with
  | some (x, S1) => match g e S1 with
    | some (y, S2) => h x y S2
    | none => none
  | none => none
def aNil : Lv := fun _ S => some ([], S)
def aCons (f : Ev) (g : Lv) : Lv := fun e S => match f e S with
  | some (x, S1) => match g e S1 with
    | some (xs, S2) => some (x :: xs, S2)
    | none => none
  | none => none
def eTup (f : Lv) : Ev := fun e S => match f e S with
  | some (xs, S1) => if xs.length ≤ 1000 then some (.tup xs, S1) else none
  | none => none
def fLst (f : Lv) : Lv := fun e S => match f e S with
  | some (xs, S1) => if xs.length ≤ 1000 then some (xs, S1) else none
  | none => none
/-- a new list as data -/
def eF (f : Lv) : Ev := fun e S => match f e S with
  | some (xs, S1) => some (.lst xs, S1)
  | none => none
/-- a new list, laid into the store -/
def eA (f : Lv) : Ev := fun e S => match f e S with
  | some (xs, S1) => some (.ref S1.length, S1 ++ [.lst xs])
  | none => none

/-- an operation on values does what h says of data -/
def OpD (K : PySem.W.Frag) (t : R2) (h : D → D → Option D) : Prop := ∀ A r H S x y dx dy dz, SR K A r H S → Rl K A r H x dx → Rl K A r H y dy → h dx dy = some dz →
  ∀ Q : VK, (∀ v r' H', Evo r H r' H' → SR K A r' H' S → Rl K A r' H' v dz → Q v H') → t x y H Q
def OpDS (K : PySem.W.Frag) (t : R2) (h : D → D → Sto → Option (D × Sto)) : Prop := ∀ A r H S x y dx dy dz S', SR K A r H S → Rl K A r H x dx → Rl K A r H y dy → h dx dy S = some (dz, S') →
  ∀ Q : VK, (∀ v r' H', Evo r H r' H' → SR K A r' H' S' → Rl K A r' H' v dz → Q v H') → t x y H Q
def UnD (K : PySem.W.Frag) (t : V → Hp → VK → Prop) (h : D → Option D) : Prop := ∀ A r H S x dx dz, SR K A r H S → Rl K A r H x dx → h dx = some dz →
  ∀ Q : VK, (∀ v r' H', Evo r H r' H' → SR K A r' H' S → Rl K A r' H' v dz → Q v H') → t x H Q
/-- a call on values -/
def ClD (K : PySem.W.Frag) (t : List V → Hp → VK → Prop) (h : List D → Sto → Option (D × Sto)) : Prop := ∀ A r H S xs ds dz S', SR K A r H S → RlL K A r H xs ds → h ds S = some (dz, S') →
  ∀ Q : VK, (∀ v r' H', Evo r H r' H' → SR K A r' H' S' → Rl K A r' H' v dz → Q v H') → t xs H Q
/-- .. that gives a new list -/
def ClF (K : PySem.W.Frag) (t : List V → Hp → VK → Prop) (h : List D → Sto → Option (List D × Sto)) : Prop := ∀ A r H S xs ds dz S', SR K A r H S → RlL K A r H xs ds → h ds S = some (dz, S') →
  ∀ Q : VK, (∀ p vs r' H', Evo r H r' H' → SR K (p :: A) r' H' S' → H p = none → p ∉ A → H' p = some (.lst vs) → RlL K (p :: A) r' H' vs dz → Q (.ref p) H') → t xs H Q
def eCall (h : List D → Sto → Option (D × Sto)) (f : Lv) : Ev := fun e S => match f e S with
  | some (xs, S1) => h xs S1
  | none => none
def fCall (h : List D → Sto → Option (List D × Sto)) (f : Lv) : Lv := fun e S => match f e S with
  | some (xs, S1) => h xs S1
  | none => none

section
variable {K : PySem.W.Frag} {f g k : Ev} {ta tb : TE} {h : D → D → Option D}
theorem rd_var {i : Nat} {σ : L2.St} {H : Hp} {Q : VK} (q : rdE K (eVar i) σ H Q) : tVar i σ H Q := by
  obtain ⟨A, r, S, e, d, S', s, re, ef, q⟩ := q
  unfold eVar at ef
  split at ef
  · rename_i d' he
    cases ef
    obtain ⟨v, hv, rl⟩ := re.get he
    exact ⟨v, hv, q v r H .refl s rl⟩
  · cases ef
theorem rd_c {v : V} {d : D} (hv : ∀ A r H, Rl K A r H v d) {σ : L2.St} {H : Hp} {Q : VK} (q : rdE K (eC d) σ H Q) : tC v σ H Q := by
  obtain ⟨A, r, S, e, d', S', s, re, ef, q⟩ := q
  cases ef
  exact q v r H .refl s (hv A r H)
theorem rd_op {t : R2} (hr : OpD K t h) {σ : L2.St} {H : Hp} {Q : VK} (q : rdE K (eOp h f g) σ H Q) : tOp t (rdE K f) (rdE K g) σ H Q := by
  obtain ⟨A, r, S, e, d, S', s, re, ef, q⟩ := q
  unfold eOp at ef
  split at ef
  · rename_i x S1 e1
    split at ef
    · rename_i y S2 e2
      split at ef
      · rename_i z e3
        cases ef
        refine ⟨A, r, S, e, x, S1, s, re, e1, fun v1 r1 H1 o1 s1 l1 => ?_⟩
        refine ⟨A, r1, S1, e, y, S', s1, re.mono o1, e2, fun v2 r2 H2 o2 s2 l2 => ?_⟩
        exact hr A r2 H2 S' v1 v2 x y d s2 (l1.mono o2) l2 e3 Q fun v r3 H3 o3 s3 l3 => q v r3 H3 ((o1.trans o2).trans o3) s3 l3
      · cases ef
    · cases ef
  · cases ef
theorem rd_opS {t : R2} {h : D → D → Sto → Option (D × Sto)} (hr : OpDS K t h) {σ : L2.St} {H : Hp} {Q : VK} (q : rdE K (eOpS h f g) σ H Q) : tOp t (rdE K f) (rdE K g) σ H Q := by
  obtain ⟨A, r, S, e, d, S', s, re, ef, q⟩ := q
  unfold eOpS at ef
  split at ef
  · rename_i x S1 e1
    split at ef
    · rename_i y S2 e2
      refine ⟨A, r, S, e, x, S1, s, re, e1, fun v1 r1 H1 o1 s1 l1 => ?_⟩
      refine ⟨A, r1, S1, e, y, S2, s1, re.mono o1, e2, fun v2 r2 H2 o2 s2 l2 => ?_⟩
      exact hr A r2 H2 S2 v1 v2 x y d S' s2 (l1.mono o2) l2 ef Q fun v r3 H3 o3 s3 l3 => q v r3 H3 ((o1.trans o2).trans o3) s3 l3
    · cases ef
  · cases ef
theorem rd_un {t : V → Hp → VK → Prop} {h : D → Option D} (hr : UnD K t h) {σ : L2.St} {H : Hp} {Q : VK} (q : rdE K (eUn h f) σ H Q) : tUn t (rdE K f) σ H Q := by
  obtain ⟨A, r, S, e, d, S', s, re, ef, q⟩ := q
  unfold eUn at ef
  split at ef
  · rename_i x S1 e1
    split at ef
    · rename_i z e3
      cases ef
      refine ⟨A, r, S, e, x, S', s, re, e1, fun v1 r1 H1 o1 s1 l1 => ?_⟩
      exact hr A r1 H1 S' v1 x d s1 l1 e3 Q fun v r3 H3 o3 s3 l3 => q v r3 H3 (o1.trans o3) s3 l3
    · cases ef
  · cases ef
theorem rd_nil {σ : L2.St} {H : Hp} {Q : List V → Hp → Prop} (q : rdA K aNil σ H Q) : tNil σ H Q := by
  obtain ⟨A, r, S, e, d, S', s, re, ef, q⟩ := q
  cases ef
  exact q [] r H .refl s .nil
theorem rd_cons {l : Lv} {σ : L2.St} {H : Hp} {Q : List V → Hp → Prop} (q : rdA K (aCons f l) σ H Q) : tCons (rdE K f) (rdA K l) σ H Q := by
  obtain ⟨A, r, S, e, d, S', s, re, ef, q⟩ := q
  unfold aCons at ef
  split at ef
  · rename_i x S1 e1
    split at ef
    · rename_i xs S2 e2
      cases ef
      refine ⟨A, r, S, e, x, S1, s, re, e1, fun v1 r1 H1 o1 s1 l1 => ?_⟩
      refine ⟨A, r1, S1, e, xs, S', s1, re.mono o1, e2, fun v2 r2 H2 o2 s2 l2 => ?_⟩
      exact q _ r2 H2 (o1.trans o2) s2 (.cons (l1.mono o2) l2)
    · cases ef
  · cases ef
theorem sz1000 {n : Nat} (h : n ≤ 1000) : n ≤ sizeLine := Nat.le_trans h (by decide)
theorem rd_tup {l : Lv} {σ : L2.St} {H : Hp} {Q : VK} (q : rdE K (eTup l) σ H Q) : tTup (rdA K l) σ H Q := by
  obtain ⟨A, r, S, e, d, S', s, re, ef, q⟩ := q
  unfold eTup at ef
  split at ef
  · rename_i xs S1 e1
    split at ef
    · rename_i hz
      cases ef
      refine ⟨A, r, S, e, xs, S', s, re, e1, fun vs r1 H1 o1 s1 l1 => ⟨by rw [l1.length]; exact sz1000 hz, fun p hp => ?_⟩⟩
      exact q _ r1 _ (o1.trans (.fresh hp)) (s1.fresh hp) (.tup ⟨s1.notin hp, s1.notav hp, upd_same⟩ (l1.mono (.fresh hp)))
    · cases ef
  · cases ef
/-- a list just made: all that rdF promises -/
theorem new_list {A r r1 : List Addr} {H H1 : Hp} {S : Sto} {vs : List V} {ds : List D} {p : Addr} (o1 : Evo r H r1 H1) (s1 : SR K A r1 H1 S) (l1 : RlL K A r1 H1 vs ds) (hp : H1 p = none) :
    Evo r H r1 (upd H1 p (.lst vs)) ∧ SR K (p :: A) r1 (upd H1 p (.lst vs)) S ∧ H p = none ∧ p ∉ A ∧ (upd H1 p (.lst vs)) p = some (.lst vs) ∧ RlL K (p :: A) r1 (upd H1 p (.lst vs)) vs ds :=
  ⟨o1.trans (.fresh hp), s1.hold hp, o1.back s1 hp, s1.notav hp, upd_same, (l1.av hp).mono (.fresh hp)⟩
theorem rd_lst {l : Lv} {σ : L2.St} {H : Hp} {Q : VK} (q : rdF K (fLst l) σ H Q) : tLst (rdA K l) σ H Q := by
  obtain ⟨A, r, S, e, d, S', s, re, ef, q⟩ := q
  unfold fLst at ef
  split at ef
  · rename_i xs S1 e1
    split at ef
    · rename_i hz
      cases ef
      refine ⟨A, r, S, e, d, S', s, re, e1, fun vs r1 H1 o1 s1 l1 => ⟨by rw [l1.length]; exact sz1000 hz, fun p hp => ?_⟩⟩
      obtain ⟨z1, z2, z3, z4, z5, z6⟩ := new_list o1 s1 l1 hp
      exact q p vs r1 _ z1 z2 z3 z4 z5 z6
    · cases ef
  · cases ef
/-- a new list as data -/
theorem rd_eF {l : Lv} {σ : L2.St} {H : Hp} {Q : VK} (q : rdE K (eF l) σ H Q) : rdF K l σ H Q := by
  obtain ⟨A, r, S, e, d, S', s, re, ef, q⟩ := q
  unfold eF at ef
  split at ef
  · rename_i xs S1 e1
    cases ef
    exact ⟨A, r, S, e, xs, S', s, re, e1, fun p vs r1 H1 o1 s1 hn hA e2 l1 => q _ r1 H1 o1 s1.drop (.lst (s1.av p List.mem_cons_self).2 hA e2 (l1.re drop1 fun _ _ h => h))⟩
  · cases ef
/-- a new list, into the store -/
theorem rd_eA {l : Lv} {σ : L2.St} {H : Hp} {Q : VK} (q : rdE K (eA l) σ H Q) : rdF K l σ H Q := by
  obtain ⟨A, r, S, e, d, S', s, re, ef, q⟩ := q
  unfold eA at ef
  split at ef
  · rename_i xs S1 e1
    cases ef
    refine ⟨A, r, S, e, xs, S1, s, re, e1, fun p vs r1 H1 o1 s1 hn hA e2 l1 => q _ (r1 ++ [p]) H1 (o1.join hn) (s1.join e2 l1 hA) (.ref ?_)⟩
    rw [← s1.len]
    simp
  · cases ef
theorem rd_call {t : List V → Hp → VK → Prop} {h : List D → Sto → Option (D × Sto)} (hr : ClD K t h) {l : Lv} {σ : L2.St} {H : Hp} {Q : VK} (q : rdE K (eCall h l) σ H Q) : rdA K l σ H fun vs H1 => t vs H1 Q := by
  obtain ⟨A, r, S, e, d, S', s, re, ef, q⟩ := q
  unfold eCall at ef
  split at ef
  · rename_i xs S1 e1
    exact ⟨A, r, S, e, xs, S1, s, re, e1, fun vs r1 H1 o1 s1 l1 => hr A r1 H1 S1 vs xs d S' s1 l1 ef Q fun v r2 H2 o2 s2 l2 => q v r2 H2 (o1.trans o2) s2 l2⟩
  · cases ef
theorem rd_callF {t : List V → Hp → VK → Prop} {h : List D → Sto → Option (List D × Sto)} (hr : ClF K t h) {l : Lv} {σ : L2.St} {H : Hp} {Q : VK} (q : rdF K (fCall h l) σ H Q) : rdA K l σ H fun vs H1 => t vs H1 Q := by
  obtain ⟨A, r, S, e, d, S', s, re, ef, q⟩ := q
  unfold fCall at ef
  split at ef
  · rename_i xs S1 e1
    exact ⟨A, r, S, e, xs, S1, s, re, e1, fun vs r1 H1 o1 s1 l1 => hr A r1 H1 S1 vs xs d S' s1 l1 ef Q fun p v r2 H2 o2 s2 h1 h2 h3 l2 => q p v r2 H2 (o1.trans o2) s2 (o1.back s1 h1) h2 h3 l2⟩
  · cases ef
end

/-! ### tests -/
def tV (f : Ev) : Tv := fun e S => match f e S with
  | some (.bl b, S1) => some (b, S1)
  | _ => none
def tAn (f g : Tv) : Tv := fun e S => match f e S with
  | some (true, S1) => g e S1
  | some (false, S1) => some (false, S1)
  | none => none
def tOr' (f g : Tv) : Tv := fun e S => match f e S with
  | some (false, S1) => g e S1
  | some (true, S1) => some (true, S1)
  | none => none
def tNo (f : Tv) : Tv := fun e S => match f e S with
  | some (b, S1) => some (!b, S1)
  | none => none
def eIf (c : Tv) (f g : Ev) : Ev := fun e S => match c e S with
  | some (true, S1) => f e S1
  | some (false, S1) => g e S1
  | none => none
def eAnd (f g : Ev) : Ev := fun e S => match f e S with
  | some (.bl true, S1) => g e S1
  | some (.bl false, S1) => some (.bl false, S1)
  | _ => none
def eOr (f g : Ev) : Ev := fun e S => match f e S with
  | some (.bl false, S1) => g e S1
  | some (.bl true, S1) => some (.bl true, S1)
  | _ => none
def eNot (f : Ev) : Ev := fun e S => match f e S with
  | some (.bl b, S1) => some (.bl (!b), S1)
  | _ => none
/-- a op b op' c -/
def eChain (h h' : D → D → Option D) (f g k : Ev) : Ev := fun e S => match f e S with
  | some (x, S1) => match g e S1 with
    | some (y, S2) => match h x y with
      | some (.bl true) => match k e S2 with
        | some (z, S3) => match h' y z with
          | some w => some (w, S3)
          | none => none
        | none => none
      | some (.bl false) => some (.bl false, S2)
      | _ => none
    | none => none
  | none => none
section
variable {K : PySem.W.Frag} {f g k : Ev} {c c' : Tv} {σ : L2.St} {H : Hp}
theorem rd_tV {Q : Bool → Hp → Prop} (q : rdT K (tV f) σ H Q) : rdE K f σ H fun x H1 => ∃ b, x = .bl b ∧ Q b H1 := by
  obtain ⟨A, r, S, e, b, S', s, re, ef, q⟩ := q
  unfold tV at ef
  split at ef
  · rename_i b' S1 e1
    cases ef
    refine ⟨A, r, S, e, .bl b, S', s, re, e1, fun v r1 H1 o1 s1 l1 => ?_⟩
    cases l1
    exact ⟨b, rfl, q r1 H1 o1 s1⟩
  · cases ef
theorem rd_tAn {Q : Bool → Hp → Prop} (q : rdT K (tAn c c') σ H Q) : tAnd (rdT K c) (rdT K c') σ H Q := by
  obtain ⟨A, r, S, e, b, S', s, re, ef, q⟩ := q
  unfold tAn at ef
  split at ef
  · rename_i S1 e1
    refine ⟨A, r, S, e, true, S1, s, re, e1, fun r1 H1 o1 s1 => ?_⟩
    refine iteT ?_
    exact ⟨A, r1, S1, e, b, S', s1, re.mono o1, ef, fun r2 H2 o2 s2 => q r2 H2 (o1.trans o2) s2⟩
  · rename_i S1 e1
    cases ef
    refine ⟨A, r, S, e, false, S', s, re, e1, fun r1 H1 o1 s1 => ?_⟩
    refine iteF ?_
    exact q r1 H1 o1 s1
  · cases ef
theorem rd_tOr {Q : Bool → Hp → Prop} (q : rdT K (tOr' c c') σ H Q) : tOr (rdT K c) (rdT K c') σ H Q := by
  obtain ⟨A, r, S, e, b, S', s, re, ef, q⟩ := q
  unfold tOr' at ef
  split at ef
  · rename_i S1 e1
    refine ⟨A, r, S, e, false, S1, s, re, e1, fun r1 H1 o1 s1 => ?_⟩
    refine iteF ?_
    exact ⟨A, r1, S1, e, b, S', s1, re.mono o1, ef, fun r2 H2 o2 s2 => q r2 H2 (o1.trans o2) s2⟩
  · rename_i S1 e1
    cases ef
    refine ⟨A, r, S, e, true, S', s, re, e1, fun r1 H1 o1 s1 => ?_⟩
    refine iteT ?_
    exact q r1 H1 o1 s1
  · cases ef
theorem rd_tNo {Q : Bool → Hp → Prop} (q : rdT K (tNo c) σ H Q) : tNot (rdT K c) σ H Q := by
  obtain ⟨A, r, S, e, b, S', s, re, ef, q⟩ := q
  unfold tNo at ef
  split at ef
  · rename_i b' S1 e1
    cases ef
    exact ⟨A, r, S, e, b', S', s, re, e1, fun r1 H1 o1 s1 => q r1 H1 o1 s1⟩
  · cases ef
theorem rd_if {Q : VK} (q : rdE K (eIf c f g) σ H Q) : tIf (rdT K c) (rdE K f) (rdE K g) σ H Q := by
  obtain ⟨A, r, S, e, d, S', s, re, ef, q⟩ := q
  unfold eIf at ef
  split at ef
  · rename_i S1 e1
    refine ⟨A, r, S, e, true, S1, s, re, e1, fun r1 H1 o1 s1 => ?_⟩
    refine iteT ?_
    exact ⟨A, r1, S1, e, d, S', s1, re.mono o1, ef, fun v r2 H2 o2 s2 l2 => q v r2 H2 (o1.trans o2) s2 l2⟩
  · rename_i S1 e1
    refine ⟨A, r, S, e, false, S1, s, re, e1, fun r1 H1 o1 s1 => ?_⟩
    refine iteF ?_
    exact ⟨A, r1, S1, e, d, S', s1, re.mono o1, ef, fun v r2 H2 o2 s2 l2 => q v r2 H2 (o1.trans o2) s2 l2⟩
  · cases ef
theorem rd_and {Q : VK} (q : rdE K (eAnd f g) σ H Q) : tAndV (rdE K f) (rdE K g) σ H Q := by
  obtain ⟨A, r, S, e, d, S', s, re, ef, q⟩ := q
  unfold eAnd at ef
  split at ef
  · rename_i S1 e1
    refine ⟨A, r, S, e, _, S1, s, re, e1, fun v r1 H1 o1 s1 l1 => ?_⟩
    cases l1
    refine ⟨true, rfl, ?_⟩
    refine iteT ?_
    exact ⟨A, r1, S1, e, d, S', s1, re.mono o1, ef, fun v r2 H2 o2 s2 l2 => q v r2 H2 (o1.trans o2) s2 l2⟩
  · rename_i S1 e1
    cases ef
    refine ⟨A, r, S, e, _, S', s, re, e1, fun v r1 H1 o1 s1 l1 => ?_⟩
    cases l1
    refine ⟨false, rfl, ?_⟩
    refine iteF ?_
    exact q _ r1 H1 o1 s1 (.bl false)
  · cases ef
theorem rd_or {Q : VK} (q : rdE K (eOr f g) σ H Q) : tOrV (rdE K f) (rdE K g) σ H Q := by
  obtain ⟨A, r, S, e, d, S', s, re, ef, q⟩ := q
  unfold eOr at ef
  split at ef
  · rename_i S1 e1
    refine ⟨A, r, S, e, _, S1, s, re, e1, fun v r1 H1 o1 s1 l1 => ?_⟩
    cases l1
    refine ⟨false, rfl, ?_⟩
    refine iteF ?_
    exact ⟨A, r1, S1, e, d, S', s1, re.mono o1, ef, fun v r2 H2 o2 s2 l2 => q v r2 H2 (o1.trans o2) s2 l2⟩
  · rename_i S1 e1
    cases ef
    refine ⟨A, r, S, e, _, S', s, re, e1, fun v r1 H1 o1 s1 l1 => ?_⟩
    cases l1
    refine ⟨true, rfl, ?_⟩
    refine iteT ?_
    exact q _ r1 H1 o1 s1 (.bl true)
  · cases ef
theorem rd_not {Q : VK} (q : rdE K (eNot f) σ H Q) : tNotV (rdE K f) σ H Q := by
  obtain ⟨A, r, S, e, d, S', s, re, ef, q⟩ := q
  unfold eNot at ef
  split at ef
  · rename_i b S1 e1
    cases ef
    refine ⟨A, r, S, e, _, S', s, re, e1, fun v r1 H1 o1 s1 l1 => ?_⟩
    cases l1
    exact ⟨b, rfl, q _ r1 H1 o1 s1 (.bl _)⟩
  · cases ef
theorem rd_chain {t t' : R2} {h h' : D → D → Option D} (hr : OpD K t h) (hr' : OpD K t' h') {Q : VK} (q : rdE K (eChain h h' f g k) σ H Q) : tChain t t' (rdE K f) (rdE K g) (rdE K k) σ H Q := by
  obtain ⟨A, r, S, e, d, S', s, re, ef, q⟩ := q
  unfold eChain at ef
  split at ef
  · rename_i x S1 e1
    split at ef
    · rename_i y S2 e2
      refine ⟨A, r, S, e, x, S1, s, re, e1, fun v1 r1 H1 o1 s1 l1 => ?_⟩
      refine ⟨A, r1, S1, e, y, S2, s1, re.mono o1, e2, fun v2 r2 H2 o2 s2 l2 => ?_⟩
      split at ef
      · rename_i e3
        refine hr A r2 H2 S2 v1 v2 x y _ s2 (l1.mono o2) l2 e3 _ fun v r3 H3 o3 s3 l3 => ?_
        cases l3
        refine ⟨true, rfl, ?_⟩
        refine iteT ?_
        split at ef
        · rename_i z S3 e4
          split at ef
          · rename_i w e5
            cases ef
            refine ⟨A, r3, S2, e, z, S', s3, re.mono ((o1.trans o2).trans o3), e4, fun v4 r4 H4 o4 s4 l4 => ?_⟩
            exact hr' A r4 H4 S' v2 v4 y z d s4 ((l2.mono o3).mono o4) l4 e5 Q fun v5 r5 H5 o5 s5 l5 => q v5 r5 H5 ((((o1.trans o2).trans o3).trans o4).trans o5) s5 l5
          · cases ef
        · cases ef
      · rename_i e3
        cases ef
        refine hr A r2 H2 S' v1 v2 x y _ s2 (l1.mono o2) l2 e3 _ fun v r3 H3 o3 s3 l3 => ?_
        cases l3
        refine ⟨false, rfl, ?_⟩
        refine iteF ?_
        exact q _ r3 H3 ((o1.trans o2).trans o3) s3 (.bl false)
      · cases ef
    · cases ef
  · cases ef
end

/-! ### the rules: expressions -/
section
variable {X : Cx} {K : PySem.W.Frag} {a b d : Expr} {f g k : Ev} {c c' : Tv} {l : Lv} {h : D → D → Option D} {pos : Pos} {es : List Expr}
theorem x_var (i : Nat) {x : Str} {pos : Pos} (hN : X.N[i]? = some x := by rfl) (hv : Vis X.env.scope x := by first | exact Or.inl rfl | exact Or.inr (Or.inl rfl) | exact Or.inr (Or.inr rfl)) (hd : (x == ("__debug__" : Str)) = false := by decide)
    (hcd : (x == ("__classdict__" : Str)) = false := by decide) : PE X (.Name x pos) (rdE K (eVar i)) := (pe_var hN hv hd hcd).imp fun _ _ _ q => rd_var q
theorem x_int {i j pos} : PE X (.Constant (.int i) j pos) (rdE K (eC (.int i))) := pe_int.imp fun _ _ _ q => rd_c (fun _ _ _ => .int i) q
theorem x_bl {b j pos} : PE X (.Constant (.bool b) j pos) (rdE K (eC (.bl b))) := pe_bl.imp fun _ _ _ q => rd_c (fun _ _ _ => .bl b) q
theorem x_non {j pos} : PE X (.Constant .none j pos) (rdE K (eC .non)) := pe_non.imp fun _ _ _ q => rd_c (fun _ _ _ => .non) q
theorem x_str {x j pos} : PE X (.Constant (.str x) j pos) (rdE K (eC (.str x))) := pe_str.imp fun _ _ _ q => rd_c (fun _ _ _ => .str x) q
theorem x_op {op : Operator} {t : R2} (ho : OpR X (binaryOp op) t) (hr : OpD K t h) (ha : PE X a (rdE K f)) (hb : PE X b (rdE K g)) : PE X (.BinOp a op b pos) (rdE K (eOp h f g)) := (pe_op ho ha hb).imp fun _ _ _ q => rd_op hr q
theorem x_opS {op : Operator} {t : R2} {h : D → D → Sto → Option (D × Sto)} (ho : OpR X (binaryOp op) t) (hr : OpDS K t h) (ha : PE X a (rdE K f)) (hb : PE X b (rdE K g)) : PE X (.BinOp a op b pos) (rdE K (eOpS h f g)) := (pe_op ho ha hb).imp fun _ _ _ q => rd_opS hr q
theorem x_un {op : UnaryOp} {t : V → Hp → VK → Prop} {h : D → Option D} (ho : UnR X (unaryOp op) t) (hr : UnD K t h) (ha : PE X a (rdE K f)) : PE X (.UnaryOp op a pos) (rdE K (eUn h f)) := (pe_un ho ha).imp fun _ _ _ q => rd_un hr q
theorem x_cmp {op : CmpOp} {t : R2} (ho : OpR X (compareOp op) t) (hr : OpD K t h) (ha : PE X a (rdE K f)) (hb : PE X b (rdE K g)) (hm : behindInMarks op b = false := by first | exact nomark _ | with_unfolding_all rfl) : PE X (.Compare a [op] [b] pos) (rdE K (eOp h f g)) := (pe_cmpR ho ha hb hm).imp fun _ _ _ q => rd_op hr q
theorem x_cmpS {op : CmpOp} {t : R2} {h : D → D → Sto → Option (D × Sto)} (ho : OpR X (compareOp op) t) (hr : OpDS K t h) (ha : PE X a (rdE K f)) (hb : PE X b (rdE K g)) (hm : behindInMarks op b = false := by first | exact nomark _ | with_unfolding_all rfl) : PE X (.Compare a [op] [b] pos) (rdE K (eOpS h f g)) := (pe_cmpR ho ha hb hm).imp fun _ _ _ q => rd_opS hr q
theorem c_cmp {op : CmpOp} {t : R2} (ho : OpR X (compareOp op) t) (hr : OpD K t h) (ha : PE X a (rdE K f)) (hb : PE X b (rdE K g)) (hm : behindInMarks op b = false := by first | exact nomark _ | with_unfolding_all rfl) : PT X (.Compare a [op] [b] pos) (rdT K (tV (eOp h f g))) := (pt_cmpR ho ha hb hm).imp fun _ _ _ q => rd_op hr (rd_tV q)
theorem c_cmpS {op : CmpOp} {t : R2} {h : D → D → Sto → Option (D × Sto)} (ho : OpR X (compareOp op) t) (hr : OpDS K t h) (ha : PE X a (rdE K f)) (hb : PE X b (rdE K g)) (hm : behindInMarks op b = false := by first | exact nomark _ | with_unfolding_all rfl) : PT X (.Compare a [op] [b] pos) (rdT K (tV (eOpS h f g))) := (pt_cmpR ho ha hb hm).imp fun _ _ _ q => rd_opS hr (rd_tV q)
theorem x_chain {op op' : CmpOp} {t t' : R2} {h' : D → D → Option D} (ho : OpR X (compareOp op) t) (hr : OpD K t h) (ho' : OpR X (compareOp op') t') (hr' : OpD K t' h') (ha : PE X a (rdE K f)) (hb : PE X b (rdE K g)) (hc : PE X d (rdE K k))
    (hm : lastMarks [op, op'] [b, d] = false := by with_unfolding_all rfl) : PE X (.Compare a [op, op'] [b, d] pos) (rdE K (eChain h h' f g k)) := (pe_chain ho ho' ha hb hc hm).imp fun _ _ _ q => rd_chain hr hr' q
theorem c_chain {op op' : CmpOp} {t t' : R2} {h' : D → D → Option D} (ho : OpR X (compareOp op) t) (hr : OpD K t h) (ho' : OpR X (compareOp op') t') (hr' : OpD K t' h') (ha : PE X a (rdE K f)) (hb : PE X b (rdE K g)) (hc : PE X d (rdE K k))
    (hm : lastMarks [op, op'] [b, d] = false := by with_unfolding_all rfl) : PT X (.Compare a [op, op'] [b, d] pos) (rdT K (tV (eChain h h' f g k))) := (pt_chain ho ho' ha hb hc hm).imp fun _ _ _ q => rd_chain hr hr' (rd_tV q)
theorem c_val (ha : PE X a (rdE K f)) (he : ∀ whole, isTrue a X.env whole = (do let v ← whole; standAt a.pos; holding [v] (truthy v)) := by intro _; rfl) : PT X a (rdT K (tV f)) := (pt_val ha he).imp fun _ _ _ q => rd_tV q
theorem c_not (ha : PT X a (rdT K c)) : PT X (.UnaryOp .Not a pos) (rdT K (tNo c)) := (pt_not ha).imp fun _ _ _ q => rd_tNo q
theorem w_and1 (ha : PT X a (rdT K c)) : PW X (.BoolOp .And [a] pos) (rdT K c) := pw_and1 ha
theorem w_or1 (ha : PT X a (rdT K c)) : PW X (.BoolOp .Or [a] pos) (rdT K c) := pw_or1 ha
theorem w_and (ha : PT X a (rdT K c)) (hb : PW X (.BoolOp .And (b :: es) pos) (rdT K c')) : PW X (.BoolOp .And (a :: b :: es) pos) (rdT K (tAn c c')) := (pw_and ha hb).imp fun _ _ _ q => rd_tAn q
theorem w_or (ha : PT X a (rdT K c)) (hb : PW X (.BoolOp .Or (b :: es) pos) (rdT K c')) : PW X (.BoolOp .Or (a :: b :: es) pos) (rdT K (tOr' c c')) := (pw_or ha hb).imp fun _ _ _ q => rd_tOr q
theorem x_and (ha : PE X a (rdE K f)) (hb : PE X (.BoolOp .And (b :: es) pos) (rdE K g)) : PE X (.BoolOp .And (a :: b :: es) pos) (rdE K (eAnd f g)) := (pe_and ha hb).imp fun _ _ _ q => rd_and q
theorem x_or (ha : PE X a (rdE K f)) (hb : PE X (.BoolOp .Or (b :: es) pos) (rdE K g)) : PE X (.BoolOp .Or (a :: b :: es) pos) (rdE K (eOr f g)) := (pe_or ha hb).imp fun _ _ _ q => rd_or q
theorem x_not (ha : PE X a (rdE K f)) : PE X (.UnaryOp .Not a pos) (rdE K (eNot f)) := (pe_not ha).imp fun _ _ _ q => rd_not q
theorem x_if {e : Expr} (hc : PT X e (rdT K c)) (ha : PE X a (rdE K f)) (hb : PE X b (rdE K g)) : PE X (.IfExp e a b pos) (rdE K (eIf c f g)) := (pe_ifExp hc ha hb).imp fun _ _ _ q => rd_if q
theorem l_nil : PA X [] (rdA K aNil) := pa_nil.imp fun _ _ _ q => rd_nil q
theorem l_cons (ha : PE X a (rdE K f)) (hb : PA X es (rdA K l)) (hs : starEach (a :: es) X.env = (false, eval a X.env) :: starEach es X.env := by rfl) : PA X (a :: es) (rdA K (aCons f l)) := (pa_cons ha hb hs).imp fun _ _ _ q => rd_cons q
theorem x_tup {x1} (ha : PA X es (rdA K l)) : PE X (.Tuple es x1 pos) (rdE K (eTup l)) := (pe_tup ha).imp fun _ _ _ q => rd_tup q
theorem f_lst (ha : PA X es (rdA K l)) : PE X (.List es pos) (rdF K (fLst l)) := (pe_lst ha).imp fun _ _ _ q => rd_lst q
theorem x_F (ha : PE X a (rdF K l)) : PE X a (rdE K (eF l)) := ha.imp fun _ _ _ q => rd_eF q
theorem x_A (ha : PE X a (rdF K l)) : PE X a (rdE K (eA l)) := ha.imp fun _ _ _ q => rd_eA q
end
end Tr
namespace Tr
open PySem PySem.Spec PyProof.Rows L2

/-! ### statements -/
def sNx : Sv := fun e S => some (.nx e, S)
def sSeq (f g : Sv) : Sv := fun e S => match f e S with
  | some (.nx e1, S1) => g e1 S1
  | q => q
def sSet (i : Nat) (f : Ev) : Sv := fun e S => match f e S with
  | some (d, S1) => some (.nx (e.set i (some d)), S1)
  | none => none
def sDrop (f : Ev) : Sv := fun e S => match f e S with
  | some (_, S1) => some (.nx e, S1)
  | none => none
def sRet (f : Ev) : Sv := fun e S => match f e S with
  | some (d, S1) => some (.rt d, S1)
  | none => none
def sRetN : Sv := fun _ S => some (.rt .non, S)
def sIf (c : Tv) (f g : Sv) : Sv := fun e S => match c e S with
  | some (true, S1) => f e S1
  | some (false, S1) => g e S1
  | none => none
def sBk : Sv := fun e S => some (.bk e, S)
def sCt : Sv := fun e S => some (.ct e, S)
def sNever : Sv := fun _ _ => none
section
variable {K : PySem.W.Frag} {f g : Sv} {x : Ev} {c : Tv} {D : Ends} {σ : L2.St} {H : Hp}
theorem rd_nx (q : rdS K sNx D σ H) : tNext D σ H := by
  obtain ⟨A, r, S, e, d, S', s, re, ef, q⟩ := q
  cases ef
  exact q σ r H .refl s re
theorem rd_bk (q : rdS K sBk D σ H) : tBreak D σ H := by
  obtain ⟨A, r, S, e, d, S', s, re, ef, q⟩ := q
  cases ef
  exact q σ r H .refl s re
theorem rd_ct (q : rdS K sCt D σ H) : tCont D σ H := by
  obtain ⟨A, r, S, e, d, S', s, re, ef, q⟩ := q
  cases ef
  exact q σ r H .refl s re
theorem rd_never (q : rdS K sNever D σ H) : tNever D σ H := by
  obtain ⟨A, r, S, e, d, S', s, re, ef, q⟩ := q
  cases ef
theorem rd_seq (q : rdS K (sSeq f g) D σ H) : tSeq (rdS K f) (rdS K g) D σ H := by
  obtain ⟨A, r, S, e, out, S', s, re, ef, q⟩ := q
  unfold sSeq at ef
  split at ef
  · rename_i e1 S1 h1
    exact ⟨A, r, S, e, .nx e1, S1, s, re, h1, fun σ1 r1 H1 o1 s1 re1 => ⟨A, r1, S1, e1, out, S', s1, re1, ef, q.evo o1⟩⟩
  · rename_i hn
    refine ⟨A, r, S, e, out, S', s, re, ef, ?_⟩
    cases out with
    | nx e1 => exact absurd ef (hn e1 S')
    | rt d => exact q
    | bk d => exact q
    | ct d => exact q
theorem rd_ret (q : rdS K (sRet x) D σ H) : tRet (rdE K x) D σ H := by
  obtain ⟨A, r, S, e, out, S', s, re, ef, q⟩ := q
  unfold sRet at ef
  split at ef
  · rename_i d S1 h1
    cases ef
    exact ⟨A, r, S, e, d, S', s, re, h1, q⟩
  · cases ef
theorem rd_retN (q : rdS K sRetN D σ H) : tRetN D σ H := by
  obtain ⟨A, r, S, e, out, S', s, re, ef, q⟩ := q
  cases ef
  exact q _ r H .refl s .non
theorem rd_drop (q : rdS K (sDrop x) D σ H) : tDrop (rdE K x) D σ H := by
  obtain ⟨A, r, S, e, out, S', s, re, ef, q⟩ := q
  unfold sDrop at ef
  split at ef
  · rename_i d S1 h1
    cases ef
    exact ⟨A, r, S, e, d, S', s, re, h1, fun v r1 H1 o1 s1 l1 => q σ r1 H1 o1 s1 (re.mono o1)⟩
  · cases ef
theorem rd_set {i : Nat} (q : rdS K (sSet i x) D σ H) : tAsg (rdE K x) (gName i) D σ H := by
  obtain ⟨A, r, S, e, out, S', s, re, ef, q⟩ := q
  unfold sSet at ef
  split at ef
  · rename_i d S1 h1
    cases ef
    exact ⟨A, r, S, e, d, S', s, re, h1, fun v r1 H1 o1 s1 l1 => q _ r1 H1 o1 s1 ((re.mono o1).set l1 i)⟩
  · cases ef
theorem rd_ifS (q : rdS K (sIf c f g) D σ H) : tIfS (rdT K c) (rdS K f) (rdS K g) D σ H := by
  obtain ⟨A, r, S, e, out, S', s, re, ef, q⟩ := q
  unfold sIf at ef
  split at ef
  · rename_i S1 h1
    exact ⟨A, r, S, e, true, S1, s, re, h1, fun r1 H1 o1 s1 => iteT ⟨A, r1, S1, e, out, S', s1, re.mono o1, ef, q.evo o1⟩⟩
  · rename_i S1 h1
    exact ⟨A, r, S, e, false, S1, s, re, h1, fun r1 H1 o1 s1 => iteF ⟨A, r1, S1, e, out, S', s1, re.mono o1, ef, q.evo o1⟩⟩
  · cases ef
end
section
variable {X : Cx} {K : PySem.W.Frag} {st : Stmt} {rest : List Stmt} {f g : Sv} {x : Ev} {c : Tv} {e : Expr} {pos : Pos}
theorem b_nil : PSs X [] (rdS K sNx) := pss_nil.imp fun _ _ _ q => rd_nx q
theorem b_cons (h1 : PS X st (rdS K f)) (h2 : PSs X rest (rdS K g)) : PSs X (st :: rest) (rdS K (sSeq f g)) := (pss_cons h1 h2).imp fun _ _ _ q => rd_seq q
theorem b_one (h1 : PS X st (rdS K f)) : PSs X [st] (rdS K f) := pss_one h1
theorem s_pass : PS X (.Pass pos) (rdS K sNx) := ps_pass.imp fun _ _ _ q => rd_nx q
theorem s_break : PS X (.Break pos) (rdS K sBk) := ps_break.imp fun _ _ _ q => rd_bk q
theorem s_continue : PS X (.Continue pos) (rdS K sCt) := ps_continue.imp fun _ _ _ q => rd_ct q
theorem s_never : PS X st (rdS K sNever) := ps_never.imp fun _ _ _ q => rd_never q
theorem s_expr (he : PE X e (rdE K x)) (hs : swapsWith e none pos.line X.env = pure false := by rfl) : PS X (.Expr e pos) (rdS K (sDrop x)) := (ps_expr he hs).imp fun _ _ _ q => rd_drop q
theorem s_ret (he : PE X e (rdE K x)) : PS X (.Return (some e) pos) (rdS K (sRet x)) := (ps_ret he).imp fun _ _ _ q => rd_ret q
theorem s_retN : PS X (.Return none pos) (rdS K sRetN) := ps_retN.imp fun _ _ _ q => rd_retN q
theorem s_if {c' : Expr} {a b : List Stmt} (hc : PT X c' (rdT K c)) (ha : PSs X a (rdS K f)) (hb : PSs X b (rdS K g)) : PS X (.If c' a b pos) (rdS K (sIf c f g)) := (ps_if hc ha hb).imp fun _ _ _ q => rd_ifS q
theorem s_set {i : Nat} {y : Str} {pos' : Pos} (hN : X.N.Nodup) (hi : X.N[i]? = some y) (hx : Loc X.env.scope y) (he : PE X e (rdE K x)) (hs : swapsWith e (some (.Name y pos')) pos.line X.env = pure false := by rfl) (hf : X.fn y = true ∨ X.env.scope.names.lookup y = some .local := by first | exact .inl rfl | exact .inr rfl | assumption) :
    PS X (.Assign [.Name y pos'] e pos) (rdS K (sSet i x)) := (ps_set hN hi hx he hs hf).imp fun _ _ _ q => rd_set q
end

/-! ### targets -/
abbrev Gv := D → Env → Sto → Option (Env × Sto)
abbrev Gs := List D → Env → Sto → Option (Env × Sto)
/-- a target that stores into the slots of w alone -/
def rdG (K : PySem.W.Frag) (w : List Nat) (g : Gv) : TG := fun v σ H Q => ∃ A r S e d e' S', SR K A r H S ∧ RE K A r H σ e ∧ Rl K A r H v d ∧ g d e S = some (e', S') ∧
  ∀ σ' r' H', Evo r H r' H' → SR K A r' H' S' → RE K A r' H' σ' e' → wipe σ' w = wipe σ w → Q σ' H'
def rdGs (K : PySem.W.Frag) (w : List Nat) (g : Gs) : TGs := fun vs σ H Q => ∃ A r S e ds e' S', SR K A r H S ∧ RE K A r H σ e ∧ RlL K A r H vs ds ∧ g ds e S = some (e', S') ∧
  ∀ σ' r' H', Evo r H r' H' → SR K A r' H' S' → RE K A r' H' σ' e' → wipe σ' w = wipe σ w → Q σ' H'
def gNm (i : Nat) : Gv := fun d e S => some (e.set i (some d), S)
def gNl : Gs := fun ds e S => match ds with
  | [] => some (e, S)
  | _ => none
def gCn (g : Gv) (gs : Gs) : Gs := fun ds e S => match ds with
  | d :: r => match g d e S with
    | some (e1, S1) => gs r e1 S1
    | none => none
  | [] => none
def gTp (n : Nat) (gs : Gs) : Gv := fun d e S => match d with
  | .tup ds => if ds.length = n then gs ds e S else none
  | .ktp ds => if ds.length = n then gs ds e S else none
  | _ => none
theorem wipe_set {i : Nat} {v : Option V} : ∀ {w : List Nat} {σ : L2.St}, i ∈ w → wipe (σ.set i v) w = wipe σ w
  | [], _, h => by simp at h
  | j :: w, σ, h => by
    unfold wipe
    by_cases e : i = j
    · subst e
      clear h
      have key : ∀ (w : List Nat) (σ : L2.St), (wipe (σ.set i v) w).set i none = (wipe σ w).set i none := by
        intro w
        induction w with
        | nil => intro σ; show (σ.set i v).set i none = σ.set i none; rw [List.set_set]
        | cons j w ih =>
          intro σ
          show ((wipe (σ.set i v) w).set j none).set i none = ((wipe σ w).set j none).set i none
          by_cases z : i = j
          · subst z
            rw [ih]
          · rw [List.set_comm _ _ (Ne.symm z), ih, List.set_comm _ _ z]
      exact key w σ
    · have h' : i ∈ w := by
        rcases List.mem_cons.mp h with z | z
        · exact absurd z e
        · exact z
      rw [wipe_set h']
theorem wipe_idem (σ : L2.St) (w : List Nat) : wipe (wipe σ w) w = wipe σ w := by
  have key : ∀ (u w : List Nat), (∀ i ∈ u, i ∈ w) → wipe (wipe σ u) w = wipe σ w := by
    intro u
    induction u with
    | nil => intro w _; rfl
    | cons i u ih =>
      intro w h
      show wipe ((wipe σ u).set i none) w = wipe σ w
      rw [wipe_set (h i List.mem_cons_self)]
      exact ih w fun j hj => h j (List.mem_cons_of_mem _ hj)
  exact key w w fun _ h => h
section
variable {K : PySem.W.Frag} {w : List Nat} {g : Gv} {gs : Gs} {σ : L2.St} {H : Hp} {Q : L2.St → Hp → Prop}
theorem rd_gNm {i : Nat} (hi : i ∈ w) {v : V} (q : rdG K w (gNm i) v σ H Q) : gName i v σ H Q := by
  obtain ⟨A, r, S, e, d, e', S', s, re, l, ef, q⟩ := q
  cases ef
  exact q _ r H .refl s (re.set l i) (wipe_set hi)
theorem rd_gNl {vs : List V} (q : rdGs K w gNl vs σ H Q) : gNil vs σ H Q := by
  obtain ⟨A, r, S, e, d, e', S', s, re, l, ef, q⟩ := q
  cases l with
  | nil =>
    cases ef
    exact ⟨rfl, q _ r H .refl s re rfl⟩
  | cons _ _ => cases ef
theorem rd_gCn {vs : List V} (q : rdGs K w (gCn g gs) vs σ H Q) : gCons (rdG K w g) (rdGs K w gs) vs σ H Q := by
  obtain ⟨A, r, S, e, d, e', S', s, re, l, ef, q⟩ := q
  cases l with
  | nil => cases ef
  | cons h t =>
    unfold gCn at ef
    simp only at ef
    split at ef
    · rename_i e1 S1 h1
      exact ⟨_, _, rfl, A, r, S, e, _, e1, S1, s, re, h, h1, fun σ1 r1 H1 o1 s1 re1 w1 => ⟨A, r1, S1, e1, _, e', S', s1, re1, t.mono o1, ef, fun σ2 r2 H2 o2 s2 re2 w2 => q σ2 r2 H2 (o1.trans o2) s2 re2 (w2.trans w1)⟩⟩
    · cases ef
theorem rd_gTp {n : Nat} {v : V} (q : rdG K w (gTp n gs) v σ H Q) : gTup K n (rdGs K w gs) v σ H Q := by
  obtain ⟨A, r, S, e, d, e', S', s, re, l, ef, q⟩ := q
  unfold gTp at ef
  split at ef
  · rename_i ds
    split at ef
    · rename_i hl
      cases l with
      | tup h hs =>
        rename_i a vs
        exact ⟨a, vs, rfl, h.sq, by rw [hs.length]; exact hl, A, r, S, e, ds, e', S', s, re, hs, ef, q⟩
    · cases ef
  · rename_i ds
    split at ef
    · rename_i hl
      cases l with
      | ktp h hs =>
        rename_i a vs
        exact ⟨a, vs, rfl, h.sq, by rw [hs.length]; exact hl, A, r, S, e, ds, e', S', s, re, hs, ef, q⟩
    · cases ef
  · cases ef
end
theorem _root_.L2.PG.imp {X : Cx} {e : Expr} {t t' : TG} (h : PG X e t) (i : ∀ v σ H Q, t' v σ H Q → t v σ H Q) : PG X e t' := ⟨fun pins s σ H v u Q I r q => h.run pins s σ H v u Q I r (i v σ H Q q)⟩
theorem _root_.L2.PGs.imp {X : Cx} {e : List Expr} {t t' : TGs} (h : PGs X e t) (i : ∀ v σ H Q, t' v σ H Q → t v σ H Q) : PGs X e t' := ⟨fun pins s σ H v u Q I r q => h.run pins s σ H v u Q I r (i v σ H Q q)⟩
section
variable {X : Cx} {K : PySem.W.Frag} {w : List Nat} {g : Gv} {gs : Gs} {pos : Pos}
theorem g_name {i : Nat} {x : Str} (hN : X.N.Nodup) (hi : X.N[i]? = some x) (hx : Loc X.env.scope x) (hw : i ∈ w := by simp) (hf : X.fn x = true ∨ X.env.scope.names.lookup x = some .local := by first | exact .inl rfl | exact .inr rfl | assumption) : PG X (.Name x pos) (rdG K w (gNm i)) :=
  (pg_name hN hi hx hf).imp fun _ _ _ _ q => rd_gNm hw q
theorem g_nil : PGs X [] (rdGs K w gNl) := pgs_nil.imp fun _ _ _ _ q => rd_gNl q
theorem g_cons {e : Expr} {es : List Expr} (h1 : PG X e (rdG K w g)) (h2 : PGs X es (rdGs K w gs)) (hs : (assignEach (e :: es) X.env).map (·.2) = assign e X.env :: (assignEach es X.env).map (·.2) := by rfl) : PGs X (e :: es) (rdGs K w (gCn g gs)) :=
  (pgs_cons h1 h2 hs).imp fun _ _ _ _ q => rd_gCn q
theorem g_tup {es : List Expr} {k n : Nat} (hK : X.K = K) (hc : X.calm = true) (h : PGs X es (rdGs K w gs)) (hn : (assignEach es X.env).length = n := by rfl) (hst : (assignEach es X.env).findIdx? (·.1) = none := by rfl) : PG X (.Tuple es k pos) (rdG K w (gTp n gs)) := by
  subst hK
  exact (pg_tup hc h hn hst).imp fun _ _ _ _ q => rd_gTp q
/-- target = value -/
def sAsg (f : Ev) (g : Gv) : Sv := fun e S => match f e S with
  | some (d, S1) => match g d e S1 with
    | some (e1, S2) => some (.nx e1, S2)
    | none => none
  | none => none
theorem rd_asg {f : Ev} {D : Ends} {σ : L2.St} {H : Hp} (q : rdS K (sAsg f g) D σ H) : tAsg (rdE K f) (rdG K w g) D σ H := by
  obtain ⟨A, r, S, e, out, S', s, re, ef, q⟩ := q
  unfold sAsg at ef
  split at ef
  · rename_i d S1 h1
    split at ef
    · rename_i e1 S2 h2
      cases ef
      exact ⟨A, r, S, e, d, S1, s, re, h1, fun v r1 H1 o1 s1 l1 => ⟨A, r1, S1, e, d, e1, S', s1, re.mono o1, l1, h2, fun σ2 r2 H2 o2 s2 re2 _ => q σ2 r2 H2 (o1.trans o2) s2 re2⟩⟩
    · cases ef
  · cases ef
theorem s_asg (w : List Nat) {f : Ev} {tg e : Expr} (he : PE X e (rdE K f)) (hg : PG X tg (rdG K w g)) (hs : swapsWithSole [tg] e pos.line X.env = pure false := by rfl) (hw : swappedStores [tg] e X.env = pure none := by rfl)
    (h1 : (assignEach [tg] X.env).map (·.2) = [assign tg X.env] := by rfl) : PS X (.Assign [tg] e pos) (rdS K (sAsg f g)) := (ps_asg he hg hs hw h1).imp fun _ _ _ q => rd_asg q
/-- a, b = x, y of plain names -/
def sPar (i j : Nat) (f g : Ev) : Sv := fun e S => match f e S with
  | some (x, S1) => match g e S1 with
    | some (y, S2) => some (.nx ((e.set i (some x)).set j (some y)), S2)
    | none => none
  | none => none
theorem rd_par {i j : Nat} {f g : Ev} {D : Ends} {σ : L2.St} {H : Hp} (q : rdS K (sPar i j f g) D σ H) : tPar i j (rdA K (aCons f (aCons g aNil))) D σ H := by
  obtain ⟨A, r, S, e, out, S', s, re, ef, q⟩ := q
  unfold sPar at ef
  split at ef
  · rename_i x S1 h1
    split at ef
    · rename_i y S2 h2
      cases ef
      refine ⟨A, r, S, e, [x, y], S', s, re, ?_, fun vs r1 H1 o1 s1 l1 => ?_⟩
      · unfold aCons
        simp only [h1]
        show (match (match g e S1 with | some (x, S1) => (match aNil e S1 with | some (xs, S2) => some (x :: xs, S2) | none => none) | none => none) with | some (xs, S2) => some (x :: xs, S2) | none => none) = _
        rw [h2]
        rfl
      · cases l1 with
        | cons a t =>
          cases t with
          | cons b t =>
            cases t
            exact ⟨_, _, rfl, q _ r1 H1 o1 s1 (((re.mono o1).set a i).set b j)⟩
    · cases ef
  · cases ef
theorem s_par {i j : Nat} {f g : Ev} {x y : Str} {a b : Expr} {px py pt : Pos} {kt k2 pt2} (hc : X.calm = true) (hN : X.N.Nodup) (hi : X.N[i]? = some x) (hj : X.N[j]? = some y) (hij : i ≠ j)
    (hx : X.env.scope.names.lookup x = some .local) (hy : X.env.scope.names.lookup y = some .local) (ha : PE X a (rdE K f)) (hb : PE X b (rdE K g))
    (hw : swappedStores [.Tuple [.Name x px, .Name y py] kt pt] (.Tuple [a, b] k2 pt2) X.env = pure (some [x, y]) := by rfl)
    (hs : swapsWithSole [.Tuple [.Name x px, .Name y py] kt pt] (.Tuple [a, b] k2 pt2) pos.line X.env = pure false := by rfl)
    (hs1 : starEach [a, b] X.env = (false, eval a X.env) :: starEach [b] X.env := by rfl) (hs2 : starEach [b] X.env = (false, eval b X.env) :: starEach [] X.env := by rfl) :
    PS X (.Assign [.Tuple [.Name x px, .Name y py] kt pt] (.Tuple [a, b] k2 pt2) pos) (rdS K (sPar i j f g)) := (ps_par hc hN hi hj hij hx hy (l_cons ha (l_cons hb l_nil hs2) hs1) hw hs).imp fun _ _ _ q => rd_par q
/-- name op= value -/
def sAug (i : Nat) (h : D → D → Option D) (f : Ev) : Sv := fun e S => match e[i]? with
  | some (some x) => match f e S with
    | some (y, S1) => match h x y with
      | some z => some (.nx (e.set i (some z)), S1)
      | none => none
    | none => none
  | _ => none
theorem rd_aug {i : Nat} {h : D → D → Option D} {t : TIp} (hr : OpD K t h) {f : Ev} {D : Ends} {σ : L2.St} {H : Hp} (q : rdS K (sAug i h f) D σ H) : tAug i (rdE K f) t D σ H := by
  obtain ⟨A, r, S, e, out, S', s, re, ef, q⟩ := q
  unfold sAug at ef
  split at ef
  · rename_i x hx
    split at ef
    · rename_i y S1 h1
      split at ef
      · rename_i z h2
        cases ef
        obtain ⟨v, hv, l⟩ := re.get hx
        exact ⟨v, hv, A, r, S, e, y, S', s, re, h1, fun u r1 H1 o1 s1 l1 => hr A r1 H1 S' v u x y z s1 (l.mono o1) l1 h2 _ fun v2 r2 H2 o2 s2 l2 => q _ r2 H2 (o1.trans o2) s2 ((re.mono (o1.trans o2)).set l2 i)⟩
      · cases ef
    · cases ef
  · cases ef
theorem s_aug {i : Nat} {x : Str} {e : Expr} {f : Ev} {op : Operator} {h : D → D → Option D} {ti : TIp} {pos' : Pos} (ho : PIp X op ti) (hr : OpD K ti h) (hN : X.N.Nodup) (hi : X.N[i]? = some x) (hx : Loc X.env.scope x) (he : PE X e (rdE K f)) (hf : X.fn x = true ∨ X.env.scope.names.lookup x = some .local := by first | exact .inl rfl | exact .inr rfl | assumption) :
    PS X (.AugAssign (.Name x pos') op e pos) (rdS K (sAug i h f)) := (ps_aug hN hi hx he ho hf).imp fun _ _ _ q => rd_aug hr q
end

/-! ### while -/
/-- so many turns at most -/
def whN (c : Tv) (b : Sv) : Nat → Sv
  | 0, _, _ => none
  | n + 1, e, S => match c e S with
    | some (false, S1) => some (.nx e, S1)
    | some (true, S1) => match b e S1 with
      | some (.nx e2, S2) => whN c b n e2 S2
      | some (.ct e2, S2) => whN c b n e2 S2
      | some (.bk e2, S2) => some (.nx e2, S2)
      | some (.rt d, S2) => some (.rt d, S2)
      | none => none
    | none => none
theorem whN_mono {c : Tv} {b : Sv} : ∀ {n m : Nat} {e : Env} {S : Sto} {q : Out × Sto}, n ≤ m → whN c b n e S = some q → whN c b m e S = some q
  | 0, _, _, _, _, _, h => by cases h
  | n + 1, 0, _, _, _, l, _ => by omega
  | n + 1, m + 1, e, S, q, l, h => by
    unfold whN at h ⊢
    split at h
    · exact h
    · split at h
      · exact whN_mono (by omega) h
      · exact whN_mono (by omega) h
      · exact h
      · exact h
      · cases h
    · cases h
open Classical in
noncomputable def sWh (c : Tv) (b : Sv) : Sv := fun e S => match whN c b 3000 e S with
  | some q => some q
  | none => if h : ∃ n, (whN c b n e S).isSome then whN c b h.choose e S else none
theorem sWh_to {c : Tv} {b : Sv} {e : Env} {S : Sto} {q : Out × Sto} (h : sWh c b e S = some q) : ∃ n, whN c b n e S = some q := by
  unfold sWh at h
  split at h
  · rename_i q' h1
    exact ⟨3000, by rw [h1, h]⟩
  · split at h
    · exact ⟨_, h⟩
    · cases h
theorem sWh_of {c : Tv} {b : Sv} {n : Nat} {e : Env} {S : Sto} {q : Out × Sto} (h : whN c b n e S = some q) : sWh c b e S = some q := by
  have go : ∀ m q', whN c b m e S = some q' → q' = q := fun m q' h' => by
    have h1 := whN_mono (Nat.le_max_left m n) h'
    have h2 := whN_mono (Nat.le_max_right m n) h
    rw [h1] at h2
    exact Option.some.inj h2
  cases h0 : sWh c b e S with
  | some q' =>
    obtain ⟨m, hm⟩ := sWh_to h0
    rw [go m q' hm]
  | none =>
    unfold sWh at h0
    split at h0
    · cases h0
    · split at h0
      · rename_i hx
        have := hx.choose_spec
        rw [h0] at this
        cases this
      · rename_i hx
        exact absurd ⟨n, by rw [h]; rfl⟩ hx
theorem rd_while {K : PySem.W.Frag} {c : Tv} {b : Sv} {D : Ends} {σ : L2.St} {H : Hp} (q : rdS K (sWh c b) D σ H) : tWhile (rdT K c) (rdS K b) D σ H := by
  obtain ⟨A, r0, S0, e0, out, S', s0, re0, ef0, q⟩ := q
  obtain ⟨n0, ef0⟩ := sWh_to ef0
  refine ⟨fun m σ H1 => ∃ r e S, Evo r0 H r H1 ∧ SR K A r H1 S ∧ RE K A r H1 σ e ∧ whN c b m e S = some (out, S'), ⟨n0, r0, e0, S0, .refl, s0, re0, ef0⟩, fun m σ H1 ⟨r, e, S, o, s, re, ef⟩ => ?_⟩
  cases m with
  | zero => cases ef
  | succ m =>
    unfold whN at ef
    split at ef
    · rename_i S1 h1
      cases ef
      exact ⟨A, r, S, e, false, S', s, re, h1, fun r1 H2 o1 s1 => iteF (q σ r1 H2 (o.trans o1) s1 (re.mono o1))⟩
    · rename_i S1 h1
      refine ⟨A, r, S, e, true, S1, s, re, h1, fun r1 H2 o1 s1 => iteT ⟨fun σ' H' => ∃ r e S, Evo r0 H r H' ∧ SR K A r H' S ∧ RE K A r H' σ' e ∧ whN c b m e S = some (out, S'), fun σ' H' h => ⟨m, Nat.lt_succ_self m, h⟩, ?_⟩⟩
      have oo := o.trans o1
      split at ef
      · rename_i e2 S2 h2
        exact ⟨A, r1, S1, e, _, S2, s1, re.mono o1, h2, fun σ2 r2 H3 o2 s2 re2 => ⟨r2, e2, S2, oo.trans o2, s2, re2, ef⟩⟩
      · rename_i e2 S2 h2
        exact ⟨A, r1, S1, e, _, S2, s1, re.mono o1, h2, fun σ2 r2 H3 o2 s2 re2 => ⟨r2, e2, S2, oo.trans o2, s2, re2, ef⟩⟩
      · rename_i e2 S2 h2
        cases ef
        exact ⟨A, r1, S1, e, _, S', s1, re.mono o1, h2, fun σ2 r2 H3 o2 s2 re2 => q σ2 r2 H3 (oo.trans o2) s2 re2⟩
      · rename_i d S2 h2
        cases ef
        exact ⟨A, r1, S1, e, _, S', s1, re.mono o1, h2, fun v r2 H3 o2 s2 l2 => q v r2 H3 (oo.trans o2) s2 l2⟩
      · cases ef
    · cases ef
theorem s_while {X : Cx} {K : PySem.W.Frag} {c : Tv} {b : Sv} {ce : Expr} {body : List Stmt} {pos : Pos} (hp : PassesOwn (model X.prog X.w) X.A X.env X.xe) (hc : PT X ce (rdT K c)) (hb : PSs X body (rdS K b)) : PS X (.While ce body [] pos) (rdS K (sWh c b)) :=
  (ps_while hp hc hb).imp fun _ _ _ q => rd_while q

/-! ### what is walked -/
abbrev Src := Sto → Option (List D)
abbrev Iv := Env → Sto → Option (Src × Sto)
def JOk (K : PySem.W.Frag) (A r0 : List Addr) (H0 : Hp) (J : It) (src : Src) : Prop := ∀ A', (A' = A ∨ ∃ p, H0 p = none ∧ A' = p :: A) → ∀ r H S i, Evo r0 H0 r H → SR K A' r H S → ∀ ds, src S = some ds →
  (∀ d, ds[i]? = some d → J.go i H ∧ ∀ x H', J.yld i H x H' → Evo r H r H' ∧ SR K A' r H' S ∧ Rl K A' r H' x d) ∧ (i = ds.length → J.stop i H)
def rdI (K : PySem.W.Frag) (f : Iv) : TI := fun σ H R => ∃ A r S e src S', SR K A r H S ∧ RE K A r H σ e ∧ f e S = some (src, S') ∧ ∀ J r' H', Evo r H r' H' → SR K A r' H' S' → JOk K A r' H' J src → R J H'
def forGo (src : Src) (g : Gv) (b : Sv) : Nat → Nat → Sv
  | 0, i, e, S => match src S with
    | none => none
    | some ds => match ds[i]? with
      | none => if i = ds.length then some (.nx e, S) else none
      | some _ => none
  | n + 1, i, e, S => match src S with
    | none => none
    | some ds => match ds[i]? with
      | none => if i = ds.length then some (.nx e, S) else none
      | some d => match g d e S with
        | none => none
        | some (e1, S1) => match b e1 S1 with
          | some (.nx e2, S2) => forGo src g b n (i + 1) e2 S2
          | some (.ct e2, S2) => forGo src g b n (i + 1) e2 S2
          | some (.bk e2, S2) => some (.nx e2, S2)
          | some (.rt d, S2) => some (.rt d, S2)
          | none => none
def sFor (f : Iv) (g : Gv) (b : Sv) : Sv := fun e S => match f e S with
  | some (src, S1) => match src S1 with
    | some ds => forGo src g b ds.length 0 e S1
    | none => none
  | none => none
theorem forGo_eq (src : Src) (g : Gv) (b : Sv) (n i : Nat) (e : Env) (S : Sto) : forGo src g b n i e S = match src S with
    | none => none
    | some ds => match ds[i]? with
      | none => if i = ds.length then some (.nx e, S) else none
      | some d => match n with
        | 0 => none
        | n + 1 => match g d e S with
          | none => none
          | some (e1, S1) => match b e1 S1 with
            | some (.nx e2, S2) => forGo src g b n (i + 1) e2 S2
            | some (.ct e2, S2) => forGo src g b n (i + 1) e2 S2
            | some (.bk e2, S2) => some (.nx e2, S2)
            | some (.rt d, S2) => some (.rt d, S2)
            | none => none := by
  cases n <;> rfl
theorem rd_for {K : PySem.W.Frag} {w : List Nat} {f : Iv} {g : Gv} {b : Sv} {D : Ends} {σ : L2.St} {H : Hp} (q : rdS K (sFor f g b) D σ H) : tFor (rdI K f) (rdG K w g) (rdS K b) D σ H := by
  obtain ⟨A, r, S, e, out, S', s, re, ef, q⟩ := q
  unfold sFor at ef
  split at ef
  · rename_i src S1 h1
    split at ef
    · rename_i ds0 h2
      refine ⟨A, r, S, e, src, S1, s, re, h1, fun J r1 H1 o1 s1 jk => ?_⟩
      refine ⟨fun i m σ H2 => ∃ r2 e S, Evo r1 H1 r2 H2 ∧ SR K A r2 H2 S ∧ RE K A r2 H2 σ e ∧ forGo src g b m i e S = some (out, S'), ⟨ds0.length, r1, e, S1, .refl, s1, re.mono o1, ef⟩, fun i m σ H2 ⟨r2, e, S, o2, s2, re2, ef⟩ => ?_⟩
      rw [forGo_eq] at ef
      split at ef
      · cases ef
      · rename_i ds hds
        obtain ⟨jg, js⟩ := jk A (.inl rfl) r2 H2 S i o2 s2 ds hds
        split at ef
        · rename_i hi
          split at ef
          · rename_i hz
            cases ef
            exact .inl ⟨js hz, q σ r2 H2 (o1.trans o2) s2 re2⟩
          · cases ef
        · rename_i d hi
          obtain ⟨j1, j2⟩ := jg d hi
          refine .inr ⟨j1, ?_⟩
          split at ef
          · cases ef
          · rename_i m _
            refine ⟨fun σ' H' => ∃ r2 e S, Evo r1 H1 r2 H' ∧ SR K A r2 H' S ∧ RE K A r2 H' σ' e ∧ forGo src g b m (i + 1) e S = some (out, S'), fun σ' H' h => ⟨m, Nat.lt_succ_self m, h⟩, fun x H3 hy => ?_⟩
            obtain ⟨o3, s3, l3⟩ := j2 x H3 hy
            split at ef
            · cases ef
            · rename_i e1 S2 hg
              refine ⟨A, r2, S, e, d, e1, S2, s3, re2.mono o3, l3, hg, fun σ4 r4 H4 o4 s4 re4 _ => ?_⟩
              have oo := o2.trans (o3.trans o4)
              split at ef
              · rename_i e2 S3 h3
                exact ⟨A, r4, S2, e1, _, S3, s4, re4, h3, fun σ5 r5 H5 o5 s5 re5 => ⟨r5, e2, S3, oo.trans o5, s5, re5, ef⟩⟩
              · rename_i e2 S3 h3
                exact ⟨A, r4, S2, e1, _, S3, s4, re4, h3, fun σ5 r5 H5 o5 s5 re5 => ⟨r5, e2, S3, oo.trans o5, s5, re5, ef⟩⟩
              · rename_i e2 S3 h3
                cases ef
                exact ⟨A, r4, S2, e1, _, S', s4, re4, h3, fun σ5 r5 H5 o5 s5 re5 => q σ5 r5 H5 ((o1.trans oo).trans o5) s5 re5⟩
              · rename_i d' S3 h3
                cases ef
                exact ⟨A, r4, S2, e1, _, S', s4, re4, h3, fun v r5 H5 o5 s5 l5 => q v r5 H5 ((o1.trans oo).trans o5) s5 l5⟩
              · cases ef
    · cases ef
  · cases ef
theorem s_for (w : List Nat) {X : Cx} {K : PySem.W.Frag} {f : Iv} {g : Gv} {b : Sv} {tg iter : Expr} {body : List Stmt} {pos : Pos} (hp : PassesOwn (model X.prog X.w) X.A X.env X.xe) (hc : X.calm = true) (hi : PI X tg iter (rdI K f)) (hg : PG X tg (rdG K w g)) (hb : PSs X body (rdS K b))
    (hs : ∀ x, foldedSetIterable iter X.env x = pure x := by intro _; rfl) : PS X (.For tg iter body [] pos) (rdS K (sFor f g b)) := (ps_for hp hc hi hg hb hs).imp fun _ _ _ q => rd_for q

/-! ### comprehensions -/
def wipeE (e : Env) : List Nat → Env
  | [] => e
  | v :: vs => (wipeE e vs).set v none
theorem RE.wipe {K : PySem.W.Frag} {A r : List Addr} {H : Hp} {σ : L2.St} {e : Env} (h : RE K A r H σ e) : ∀ vs : List Nat, RE K A r H (wipe σ vs) (wipeE e vs)
  | [] => h
  | v :: vs => RE.unset v (RE.wipe h vs)
def lcGo (src : Src) (g : Gv) (c : Tv) (x : Ev) (e : Env) : Nat → Nat → Sto → Option (List D × Sto)
  | 0, i, S => match src S with
    | none => none
    | some ds => match ds[i]? with
      | none => if i = ds.length then some ([], S) else none
      | some _ => none
  | n + 1, i, S => match src S with
    | none => none
    | some ds => match ds[i]? with
      | none => if i = ds.length then some ([], S) else none
      | some d => match g d e S with
        | none => none
        | some (e1, S1) => match c e1 S1 with
          | some (true, S2) => match x e1 S2 with
            | some (y, S3) => match lcGo src g c x e n (i + 1) S3 with
              | some (ys, S4) => some (y :: ys, S4)
              | none => none
            | none => none
          | some (false, S2) => lcGo src g c x e n (i + 1) S2
          | none => none
theorem lcGo_eq (src : Src) (g : Gv) (c : Tv) (x : Ev) (e : Env) (n i : Nat) (S : Sto) : lcGo src g c x e n i S = match src S with
    | none => none
    | some ds => match ds[i]? with
      | none => if i = ds.length then some ([], S) else none
      | some d => match n with
        | 0 => none
        | n + 1 => match g d e S with
          | none => none
          | some (e1, S1) => match c e1 S1 with
            | some (true, S2) => match x e1 S2 with
              | some (y, S3) => match lcGo src g c x e n (i + 1) S3 with
                | some (ys, S4) => some (y :: ys, S4)
                | none => none
              | none => none
            | some (false, S2) => lcGo src g c x e n (i + 1) S2
            | none => none := by
  cases n <;> rfl
def fLc (vs : List Nat) (f : Iv) (g : Gv) (c : Tv) (x : Ev) : Lv := fun e S => match f e S with
  | some (src, S1) => match src S1 with
    | some ds => match lcGo src g c x (wipeE e vs) ds.length 0 S1 with
      | some (ys, S2) => if ys.length ≤ 1000000 then some (ys, S2) else none
      | none => none
    | none => none
  | none => none
def tYe : Tv := fun _ S => some (true, S)
theorem rd_ye {K : PySem.W.Frag} {σ : L2.St} {H : Hp} {Q : Bool → Hp → Prop} (q : rdT K tYe σ H Q) : tYes σ H Q := by
  obtain ⟨A, r, S, e, b, S', s, re, ef, q⟩ := q
  cases ef
  exact q r H .refl s
/-- an object that is kept away from changes -/
theorem SR.aside {K : PySem.W.Frag} {A r : List Addr} {H : Hp} {S : Sto} {p : Addr} {o : HO} (s : SR K (p :: A) r H S) : SR K (p :: A) r (upd H p o) S ∧ (∀ {vs ds}, RlL K (p :: A) r H vs ds → RlL K (p :: A) r (upd H p o) vs ds) := by
  have hp := s.av p List.mem_cons_self
  have k : ∀ a u, H a = some u → a ∉ p :: A → (upd H p o) a = some u := fun a u e n => by
    rw [upd_ne (fun z => n (by rw [z]; exact List.mem_cons_self))]
    exact e
  have kt : ∀ {a xs}, TupAt K (p :: A) r H a xs → TupAt K (p :: A) r (upd H p o) a xs := fun {a xs} ⟨x, y, z⟩ => ⟨x, y, k _ _ z y⟩
  have ks : ∀ {a xs}, ScrAt K (p :: A) r H a xs → ScrAt K (p :: A) r (upd H p o) a xs := fun {a xs} h => h.elim (fun ⟨x, y, z⟩ => .inl ⟨x, y, z.elim (fun z => .inl (k _ _ z y)) fun ⟨b, z⟩ => .inr ⟨b, k _ _ z y⟩⟩) .inr
  have both : ∀ (n : Nat), (∀ {v d}, sizeOf d ≤ n → Rl K (p :: A) r H v d → Rl K (p :: A) r (upd H p o) v d) ∧ (∀ {vs ds}, sizeOf ds ≤ n → RlL K (p :: A) r H vs ds → RlL K (p :: A) r (upd H p o) vs ds) := by
    intro n
    induction n with
    | zero =>
      refine ⟨fun {v d} h _ => ?_, fun {vs ds} h _ => ?_⟩
      · cases d <;> simp at h
      · cases ds <;> simp at h
    | succ n ih =>
      refine ⟨fun {v d} h l => ?_, fun {vs ds} h l => ?_⟩
      · cases l with
        | non => exact .non
        | bl b => exact .bl b
        | int b => exact .int b
        | str b => exact .str b
        | ty b => exact .ty b
        | tup a b => exact .tup (kt a) (ih.2 (by simp at h; omega) b)
        | ktp a b => exact .ktp a (ih.2 (by simp at h; omega) b)
        | lst a1 a2 a b => exact .lst a1 a2 (k _ _ a a2) (ih.2 (by simp at h; omega) b)
        | scr a b => exact .scr (ks a) (ih.2 (by simp at h; omega) b)
        | dk a1 a2 a b => exact .dk a1 a2 (k _ _ a a2) (ih.2 (by simp at h; omega) b)
        | dt a1 a2 a b => exact .dt a1 a2 (k _ _ a a2) (ih.2 (by simp at h; omega) b)
        | ref a => exact .ref a
      · cases l with
        | nil => exact .nil
        | cons a b => exact .cons (ih.1 (by simp at h; omega) a) (ih.2 (by simp at h; omega) b)
  have kl : ∀ {vs ds}, RlL K (p :: A) r H vs ds → RlL K (p :: A) r (upd H p o) vs ds := fun {vs ds} h => (both (sizeOf ds)).2 (Nat.le_refl _) h
  refine ⟨⟨s.len, s.nd, fun a m => ⟨?_, (s.av a m).2⟩, fun l a u e1 e2 => ?_⟩, kl⟩
  · by_cases z : a = p
    · rw [z]
      exact ⟨o, upd_same⟩
    · obtain ⟨⟨v, e⟩, _⟩ := s.av a m
      exact ⟨v, by rw [upd_ne z]; exact e⟩
  · have ne : a ≠ p := fun z => hp.2 (by rw [← z]; exact List.mem_of_getElem? e1)
    have q := s.obj l a u e1 e2
    cases u with
    | lst ds => obtain ⟨vs, h, t⟩ := q; exact ⟨vs, by rw [upd_ne ne]; exact h, kl t⟩
    | dk ks ds => obtain ⟨vs, h, z, t⟩ := q; exact ⟨vs, by rw [upd_ne ne]; exact h, z, kl t⟩
    | dt ks ds => obtain ⟨vs, h, z, t⟩ := q; exact ⟨vs, by rw [upd_ne ne]; exact h, z, kl t⟩
    | ins C ns ds => obtain ⟨dx, fs, h, z, t⟩ := q; exact ⟨dx, fs, by rw [upd_ne ne]; exact h, z, kl t⟩
theorem rd_lc {K : PySem.W.Frag} {vs : List Nat} {f : Iv} {g : Gv} {c : Tv} {x : Ev} {σ : L2.St} {H : Hp} {Q : VK} (q : rdF K (fLc vs f g c x) σ H Q) : tLc (rdI K f) (rdG K vs g) (rdT K c) (rdE K x) vs σ H Q := by
  obtain ⟨A, r, S, e, total, S', s, re, ef, q⟩ := q
  unfold fLc at ef
  split at ef
  · rename_i src S1 h1
    split at ef
    · rename_i ds0 h2
      split at ef
      · rename_i ys S2 h3
        split at ef
        · rename_i hz
          cases ef
          refine ⟨A, r, S, e, src, S1, s, re, h1, fun J r1 H1 o1 s1 jk L hL => ?_⟩
          have nL : L ∉ A := s1.notav hL
          refine ⟨fun i m H2 => ∃ r2 S accV accD rest, Evo r1 H1 r2 H2 ∧ SR K (L :: A) r2 H2 S ∧ H2 L = some (.lst accV) ∧ RlL K (L :: A) r2 H2 accV accD ∧ lcGo src g c x (wipeE e vs) m i S = some (rest, S') ∧ accD ++ rest = total,
            ⟨ds0.length, r1, S1, [], [], total, .fresh hL, s1.hold hL, upd_same, .nil, h3, rfl⟩, fun i m H2 ⟨r2, S, accV, accD, rest, o2, s2, eL, la, ef, et⟩ => ?_⟩
          have re2 : RE K (L :: A) r2 H2 (wipe σ vs) (wipeE e vs) := (((re.mono o1).holdE hL).mono o2).wipe vs
          rw [lcGo_eq] at ef
          split at ef
          · cases ef
          · rename_i ds hds
            obtain ⟨jg, js⟩ := jk (L :: A) (.inr ⟨L, hL, rfl⟩) r2 H2 S i o2 s2 ds hds
            split at ef
            · rename_i hi
              split at ef
              · rename_i hzz
                cases ef
                rw [List.append_nil] at et
                subst et
                exact .inl ⟨js hzz, q L accV r2 H2 (o1.trans o2) s2 (o1.back s1 hL) nL eL la⟩
              · cases ef
            · rename_i d hi
              obtain ⟨j1, j2⟩ := jg d hi
              refine .inr ⟨j1, ?_⟩
              split at ef
              · cases ef
              · rename_i m _
                refine ⟨fun H' => ∃ r2 S accV accD rest, Evo r1 H1 r2 H' ∧ SR K (L :: A) r2 H' S ∧ H' L = some (.lst accV) ∧ RlL K (L :: A) r2 H' accV accD ∧ lcGo src g c x (wipeE e vs) m (i + 1) S = some (rest, S') ∧ accD ++ rest = total,
                  fun H' h => ⟨m, Nat.lt_succ_self m, h⟩, fun v H3 hy => ?_⟩
                obtain ⟨o3, s3, l3⟩ := j2 v H3 hy
                have nr : ∀ {r'}, SR K (L :: A) r' H3 S → L ∉ r' := fun h => (h.av L List.mem_cons_self).2
                split at ef
                · cases ef
                · rename_i e1 S3 hg
                  refine ⟨L :: A, r2, S, wipeE e vs, d, e1, S3, s3, re2.mono o3, l3, hg, fun σ4 r4 H4 o4 s4 re4 w4 => ⟨by rw [w4, wipe_idem], ?_⟩⟩
                  have eL4 : H4 L = some (.lst accV) := o4.keep _ _ (o3.keep _ _ eL (s2.av L List.mem_cons_self).2) (s3.av L List.mem_cons_self).2
                  have la4 := (la.mono o3).mono o4
                  split at ef
                  · rename_i S5 h5
                    refine ⟨L :: A, r4, S3, e1, true, S5, s4, re4, h5, fun r5 H5 o5 s5 => iteT ?_⟩
                    split at ef
                    · rename_i y S6 h6
                      split at ef
                      · rename_i ys' S7 h7
                        cases ef
                        refine ⟨L :: A, r5, S5, e1, y, S6, s5, re4.mono o5, h6, fun v6 r6 H6 o6 s6 l6 => ?_⟩
                        have eL6 : H6 L = some (.lst accV) := o6.keep _ _ (o5.keep _ _ eL4 (s4.av L List.mem_cons_self).2) (s5.av L List.mem_cons_self).2
                        have la6 := (la4.mono o5).mono o6
                        have all := s6.aside (o := .lst (accV ++ [v6]))
                        have og : Evo r1 H1 r6 H6 := (((o2.trans o3).trans o4).trans o5).trans o6
                        refine ⟨accV, eL6, ?_, r6, S6, accV ++ [v6], accD ++ [y], ys', ⟨og.pre, og.new, fun a u ha hn => ?_⟩, all.1, upd_same, all.2 (la6.append (.cons l6 .nil)), h7, by rw [List.append_assoc]; exact et⟩
                        · have z1 : accD.length + (y :: ys').length ≤ 1000000 := by rw [← List.length_append, et]; exact hz
                          have z2 : accV.length = accD.length := la6.length
                          have z3 : sizeLine = 16777216 := sizeLine_eq
                          simp at z1
                          omega
                        · rw [upd_ne (ne_of_none ha hL)]
                          exact og.keep a u ha hn
                      · cases ef
                    · cases ef
                  · rename_i S5 h5
                    refine ⟨L :: A, r4, S3, e1, false, S5, s4, re4, h5, fun r5 H5 o5 s5 => iteF ?_⟩
                    exact ⟨r5, S5, accV, accD, rest, (((o2.trans o3).trans o4).trans o5), s5, o5.keep _ _ eL4 (s4.av L List.mem_cons_self).2, la4.mono o5, ef, et⟩
                  · cases ef
        · cases ef
      · cases ef
    · cases ef
  · cases ef
section
variable {X : Cx} {K : PySem.W.Frag} {f : Iv} {g : Gv} {c : Tv} {x : Ev}
theorem _root_.L2.PTs.imp {e : List Expr} {t t' : TT} (h : PTs X e t) (i : ∀ σ H Q, t' σ H Q → t σ H Q) : PTs X e t' := ⟨fun pins s σ H Q I q => h.run pins s σ H Q I (i σ H Q q)⟩
theorem i_nil : PTs X [] (rdT K tYe) := pts_nil.imp fun _ _ _ q => rd_ye q
theorem i_one {ce : Expr} (h : PT X ce (rdT K c)) : PTs X [ce] (rdT K c) := pts_one h
theorem f_lc {elt tg iter : Expr} {ifs : List Expr} {scope : Scope} {pos : Pos} (own : List (Str × Nat)) {vs : List Nat} (hvs : own.map (·.2) = vs) (hc : X.calm = true) (hN : X.N.Nodup) (ok : BlkOk X.N X.env.scope scope own) (hi : PI X tg iter (rdI K f))
    (hg : ∀ (s : Shared) (H : Hp) (C : Addr) (cl : List (Str × Addr)) (fp : List Addr), PG (X.blk s H scope (compEnvC scope cl C X.env) fp) tg (rdG K vs g)) (ht : ∀ (s : Shared) (H : Hp) (C : Addr) (cl : List (Str × Addr)) (fp : List Addr), PTs (X.blk s H scope (compEnvC scope cl C X.env) fp) ifs (rdT K c))
    (he : ∀ (s : Shared) (H : Hp) (C : Addr) (cl : List (Str × Addr)) (fp : List Addr), PE (X.blk s H scope (compEnvC scope cl C X.env) fp) elt (rdE K x)) (hs : ∀ x, foldedSetIterable iter X.env x = pure x := by intro _; rfl) :
    PE X (.ListComp elt [⟨tg, iter, ifs, 0⟩] scope pos) (rdF K (fLc vs f g c x)) := by
  subst hvs
  exact (pe_lc hc hN hi ok hg ht he hs).imp fun _ _ _ q => rd_lc q
end
end Tr
namespace Tr
open PySem PySem.Spec PyProof.Rows L2

/-! ### defs -/
mutual
inductive Cl (n : Nat) : D → Prop
  | non : Cl n .non
  | bl (b : Bool) : Cl n (.bl b)
  | int (i : Int) : Cl n (.int i)
  | str (x : Str) : Cl n (.str x)
  | ty (x : String) : Cl n (.ty x)
  | tup {ds} (h : ClL n ds) : Cl n (.tup ds)
  | ktp {ds} (h : ClL n ds) : Cl n (.ktp ds)
  | lst {ds} (h : ClL n ds) : Cl n (.lst ds)
  | scr {ds} (h : ClL n ds) : Cl n (.scr ds)
  | dk {ks ds} (h : ClL n ds) : Cl n (.dk ks ds)
  | dt {ks ds} (h : ClL n ds) : Cl n (.dt ks ds)
  | ref {l} (h : l < n) : Cl n (.ref l)
inductive ClL (n : Nat) : List D → Prop
  | nil : ClL n []
  | cons {d ds} (h : Cl n d) (t : ClL n ds) : ClL n (d :: ds)
end
def ClO (n : Nat) : O → Prop
  | .lst ds => ClL n ds
  | .dk _ ds => ClL n ds
  | .dt _ ds => ClL n ds
  | .ins _ _ ds => ClL n ds
/-- what stood in the store stands, or is closed -/
def OldOk (S S1 : Sto) : Prop := ∀ (l : Nat) o, l < S.length → S1[l]? = some o → S[l]? = some o ∨ ClO S.length o
section
variable {K : PySem.W.Frag} {A r r1 : List Addr} {H H1 : Hp} {S S1 : Sto}
mutual
theorem Rl.cl : ∀ {v d}, Rl K A r H v d → Cl r.length d
  | _, _, .non => .non
  | _, _, .bl b => .bl b
  | _, _, .int b => .int b
  | _, _, .str b => .str b
  | _, _, .ty b => .ty b
  | _, _, .tup _ t => .tup (RlL.cl t)
  | _, _, .ktp _ t => .ktp (RlL.cl t)
  | _, _, .lst _ _ _ t => .lst (RlL.cl t)
  | _, _, .scr _ t => .scr (RlL.cl t)
  | _, _, .dk _ _ _ t => .dk (RlL.cl t)
  | _, _, .dt _ _ _ t => .dt (RlL.cl t)
  | _, _, .ref h => .ref (List.getElem?_eq_some_iff.mp h).1
theorem RlL.cl : ∀ {vs ds}, RlL K A r H vs ds → ClL r.length ds
  | _, _, .nil => .nil
  | _, _, .cons h t => .cons (Rl.cl h) (RlL.cl t)
end
theorem RO.cl {a : Addr} {o : O} (h : RO K A r H a o) : ClO r.length o := by
  cases o with
  | lst ds => obtain ⟨_, _, t⟩ := h; exact t.cl
  | dk ks ds => obtain ⟨_, _, _, t⟩ := h; exact t.cl
  | dt ks ds => obtain ⟨_, _, _, t⟩ := h; exact t.cl
  | ins C ns ds => obtain ⟨_, _, _, _, t⟩ := h; exact t.cl
mutual
/-- closed data, where the store is cut -/
theorem Rl.cut {A' : List Addr} (h1 : ∀ a, a ∉ r1 → a ∉ A → a ∉ r ∧ a ∉ A') (h2 : ∀ (l : Nat) a, l < r.length → r1[l]? = some a → r[l]? = some a) : ∀ {v d}, Rl K A r1 H v d → Cl r.length d → Rl K A' r H v d
  | _, _, .non, _ => .non
  | _, _, .bl b, _ => .bl b
  | _, _, .int b, _ => .int b
  | _, _, .str b, _ => .str b
  | _, _, .ty b, _ => .ty b
  | _, _, .tup ⟨a, b, d⟩ t, .tup c => .tup ⟨(h1 _ a b).1, (h1 _ a b).2, d⟩ (RlL.cut h1 h2 t c)
  | _, _, .ktp h t, .ktp c => .ktp h (RlL.cut h1 h2 t c)
  | _, _, .lst a b h t, .lst c => .lst (h1 _ a b).1 (h1 _ a b).2 h (RlL.cut h1 h2 t c)
  | _, _, .scr h t, .scr c => .scr (h.elim (fun ⟨a, b, c⟩ => .inl ⟨(h1 _ a b).1, (h1 _ a b).2, c⟩) .inr) (RlL.cut h1 h2 t c)
  | _, _, .dk a b h t, .dk c => .dk (h1 _ a b).1 (h1 _ a b).2 h (RlL.cut h1 h2 t c)
  | _, _, .dt a b h t, .dt c => .dt (h1 _ a b).1 (h1 _ a b).2 h (RlL.cut h1 h2 t c)
  | _, _, .ref h, .ref c => .ref (h2 _ _ c h)
theorem RlL.cut {A' : List Addr} (h1 : ∀ a, a ∉ r1 → a ∉ A → a ∉ r ∧ a ∉ A') (h2 : ∀ (l : Nat) a, l < r.length → r1[l]? = some a → r[l]? = some a) : ∀ {vs ds}, RlL K A r1 H vs ds → ClL r.length ds → RlL K A' r H vs ds
  | _, _, .nil, _ => .nil
  | _, _, .cons h t, .cons c d => .cons (Rl.cut h1 h2 h c) (RlL.cut h1 h2 t d)
end
theorem RO.cut {A' : List Addr} (h1 : ∀ a, a ∉ r1 → a ∉ A → a ∉ r ∧ a ∉ A') (h2 : ∀ (l : Nat) a, l < r.length → r1[l]? = some a → r[l]? = some a) {a : Addr} {o : O} (h : RO K A r1 H a o) (c : ClO r.length o) : RO K A' r H a o := by
  cases o with
  | lst ds => obtain ⟨vs, h, t⟩ := h; exact ⟨vs, h, t.cut h1 h2 c⟩
  | dk ks ds => obtain ⟨vs, h, z, t⟩ := h; exact ⟨vs, h, z, t.cut h1 h2 c⟩
  | dt ks ds => obtain ⟨vs, h, z, t⟩ := h; exact ⟨vs, h, z, t.cut h1 h2 c⟩
  | ins C ns ds => obtain ⟨dx, fs, h, z, t⟩ := h; exact ⟨dx, fs, h, z, t.cut h1 h2 c⟩
/-- behind a call the store is cut to what it was long -/
theorem Evo.cutE (e : Evo r H r1 H1) : Evo r H r H1 := ⟨⟨[], by simp⟩, fun _ m n => absurd m n, e.keep⟩
theorem cut_r (e : Evo r H r1 H1) : ∀ (l : Nat) a, l < r.length → r1[l]? = some a → r[l]? = some a := fun l a h q => by
  obtain ⟨n, rfl⟩ := e.pre
  rw [List.getElem?_append_left h] at q
  exact q
theorem SR.cutS {A' : List Addr} (s : SR K A r H S) (e : Evo r H r1 H1) (s1 : SR K A r1 H1 S1) (ok : OldOk S S1) (h1 : ∀ a, a ∉ r1 → a ∉ A → a ∉ r ∧ a ∉ A') (hav : ∀ a, a ∈ A' → (∃ u, H1 a = some u) ∧ a ∉ r) : SR K A' r H1 (S1.take S.length) where
  len := by
    have := s1.len
    obtain ⟨n, rfl⟩ := e.pre
    rw [List.length_append] at this
    have := s.len
    rw [List.length_take]
    omega
  nd := s.nd
  av := hav
  obj := fun l a o e1 e2 => by
    have hl : l < r.length := (List.getElem?_eq_some_iff.mp e1).1
    have hl2 : l < S.length := by rw [← s.len]; exact hl
    rw [List.getElem?_take_of_lt hl2] at e2
    refine (s1.obj l a o (e.get e1) e2).cut h1 (cut_r e) ?_
    rcases ok l o hl2 e2 with q | q
    · exact (s.obj l a o e1 q).cl
    · rw [s.len]
      exact q
theorem cut_same (e : Evo r H r1 H1) : ∀ a, a ∉ r1 → a ∉ A → a ∉ r ∧ a ∉ A := fun a h n => ⟨fun m => h (e.sub m), n⟩
end
open Classical in
/-- the end of a def: its value as data, the store cut -/
noncomputable def finA (S : Sto) (d : D) (S1 : Sto) : Option (D × Sto) := if OldOk S S1 then
  (match d with
    | .ref l => if l < S.length then some (.ref l, S1.take S.length) else match S1[l]? with
      | some (.lst ds) => if ClL S.length ds then some (.lst ds, S1.take S.length) else none
      | some (.dk ks ds) => if ClL S.length ds then some (.dk ks ds, S1.take S.length) else none
      | some (.dt ks ds) => if ClL S.length ds then some (.dt ks ds, S1.take S.length) else none
      | _ => none
    | d => if Cl S.length d then some (d, S1.take S.length) else none) else none
open Classical in
/-- the end of a def that hands back a new list -/
noncomputable def finF (S : Sto) (d : D) (S1 : Sto) : Option (List D × Sto) := if OldOk S S1 then
  (match d with
    | .ref l => if l < S.length then none else match S1[l]? with
      | some (.lst ds) => if ClL S.length ds then some (ds, S1.take S.length) else none
      | _ => none
    | _ => none) else none
mutual
/-- closed, to be reckoned -/
def clB (n : Nat) : D → Bool
  | .tup ds => clLB n ds
  | .ktp ds => clLB n ds
  | .lst ds => clLB n ds
  | .scr ds => clLB n ds
  | .dk _ ds => clLB n ds
  | .dt _ ds => clLB n ds
  | .ref l => Nat.blt l n
  | _ => true
def clLB (n : Nat) : List D → Bool
  | [] => true
  | d :: ds => clB n d && clLB n ds
end
mutual
theorem clB_ok {n : Nat} : ∀ {d}, clB n d = true → Cl n d
  | .non, _ => .non
  | .bl b, _ => .bl b
  | .int i, _ => .int i
  | .str x, _ => .str x
  | .ty x, _ => .ty x
  | .tup ds, h => .tup (clLB_ok h)
  | .ktp ds, h => .ktp (clLB_ok h)
  | .lst ds, h => .lst (clLB_ok h)
  | .scr ds, h => .scr (clLB_ok h)
  | .dk _ ds, h => .dk (clLB_ok h)
  | .dt _ ds, h => .dt (clLB_ok h)
  | .ref l, h => .ref (Nat.blt_eq.mp h)
theorem clLB_ok {n : Nat} : ∀ {ds}, clLB n ds = true → ClL n ds
  | [], _ => .nil
  | d :: ds, h => by
    have h := Bool.and_eq_true_iff.mp h
    exact .cons (clB_ok h.1) (clLB_ok h.2)
end
def clOB (n : Nat) : O → Bool
  | .lst ds => clLB n ds
  | .dk _ ds => clLB n ds
  | .dt _ ds => clLB n ds
  | .ins _ _ ds => clLB n ds
theorem clOB_ok {n : Nat} {o : O} (h : clOB n o = true) : ClO n o := by
  cases o <;> exact clLB_ok h
def oldB (S S1 : Sto) : Bool := (S1.take S.length).all (clOB S.length)
theorem oldB_ok {S S1 : Sto} (h : oldB S S1 = true) : OldOk S S1 := fun l o hl e => by
  refine .inr (clOB_ok (List.all_eq_true.mp h o (List.mem_of_getElem? (i := l) ?_)))
  rw [List.getElem?_take_of_lt hl]
  exact e
def finAb (S : Sto) (d : D) (S1 : Sto) : Option (D × Sto) := if oldB S S1 then
  (match d with
    | .ref l => if l < S.length then some (.ref l, S1.take S.length) else match S1[l]? with
      | some (.lst ds) => if clLB S.length ds then some (.lst ds, S1.take S.length) else none
      | some (.dk ks ds) => if clLB S.length ds then some (.dk ks ds, S1.take S.length) else none
      | some (.dt ks ds) => if clLB S.length ds then some (.dt ks ds, S1.take S.length) else none
      | _ => none
    | d => if clB S.length d then some (d, S1.take S.length) else none) else none
def finFb (S : Sto) (d : D) (S1 : Sto) : Option (List D × Sto) := if oldB S S1 then
  (match d with
    | .ref l => if l < S.length then none else match S1[l]? with
      | some (.lst ds) => if clLB S.length ds then some (ds, S1.take S.length) else none
      | _ => none
    | _ => none) else none
theorem finAb_ok {S S1 : Sto} {d : D} {q : D × Sto} (h : finAb S d S1 = some q) : finA S d S1 = some q := by
  unfold finAb at h
  split at h
  · rename_i ho
    unfold finA
    rw [if_pos (oldB_ok ho)]
    cases d with
    | ref l =>
      simp only at h
      split at h
      · rename_i hl
        simp only [hl, if_true]
        exact h
      · rename_i hl
        simp only [hl, if_false]
        split at h
        · rename_i ds e
          split at h
          · rename_i hc
            rw [if_pos (clLB_ok hc)]
            exact h
          · cases h
        · rename_i ks ds e
          split at h
          · rename_i hc
            rw [if_pos (clLB_ok hc)]
            exact h
          · cases h
        · rename_i ks ds e
          split at h
          · rename_i hc
            rw [if_pos (clLB_ok hc)]
            exact h
          · cases h
        · cases h
    | _ =>
      simp only at h
      split at h
      · rename_i hc
        simp only [if_pos (clB_ok hc)]
        exact h
      · cases h
  · cases h
theorem finFb_ok {S S1 : Sto} {d : D} {q : List D × Sto} (h : finFb S d S1 = some q) : finF S d S1 = some q := by
  unfold finFb at h
  split at h
  · rename_i ho
    unfold finF
    rw [if_pos (oldB_ok ho)]
    cases d with
    | ref l =>
      simp only at h
      split at h
      · cases h
      · rename_i hl
        simp only [hl, if_false]
        split at h
        · rename_i ds e
          split at h
          · rename_i hc
            rw [if_pos (clLB_ok hc)]
            exact h
          · cases h
        · cases h
    | _ => cases h
  · cases h
def finB (_ : Sto) (d : D) (S1 : Sto) : Option (D × Sto) := some (d, S1)
def runB (np n : Nat) (b : Sv) (ds : List D) (S : Sto) : Option (D × Sto) := if ds.length = np then
  (match b (ds.map some ++ List.replicate (n - np) none) S with
    | some (.rt d, S1) => some (d, S1)
    | some (.nx _, S1) => some (.non, S1)
    | _ => none) else none
noncomputable def runA (np n : Nat) (b : Sv) : Fn := fun ds S => match runB np n b ds S with
  | some (d, S1) => match finAb S d S1 with
    | some q => some q
    | none => finA S d S1
  | none => none
noncomputable def runF (np n : Nat) (b : Sv) (ds : List D) (S : Sto) : Option (List D × Sto) := match runB np n b ds S with
  | some (d, S1) => match finFb S d S1 with
    | some q => some q
    | none => finF S d S1
  | none => none
/-- the end of a run -/
theorem runA_to {np n : Nat} {b : Sv} {ds : List D} {S S' : Sto} {d : D} (h : runA np n b ds S = some (d, S')) : ∃ d1 S1, runB np n b ds S = some (d1, S1) ∧ finA S d1 S1 = some (d, S') := by
  unfold runA at h
  split at h
  · rename_i d1 S1 h1
    refine ⟨d1, S1, h1, ?_⟩
    split at h
    · rename_i q hq
      cases h
      exact finAb_ok hq
    · exact h
  · cases h
theorem runF_to {np n : Nat} {b : Sv} {ds : List D} {S S' : Sto} {d : List D} (h : runF np n b ds S = some (d, S')) : ∃ d1 S1, runB np n b ds S = some (d1, S1) ∧ finF S d1 S1 = some (d, S') := by
  unfold runF at h
  split at h
  · rename_i d1 S1 h1
    refine ⟨d1, S1, h1, ?_⟩
    split at h
    · rename_i q hq
      cases h
      exact finFb_ok hq
    · exact h
  · cases h
theorem runA_of {np n : Nat} {b : Sv} {ds : List D} {S S' S1 : Sto} {d d1 : D} (h : runB np n b ds S = some (d1, S1)) (h2 : finA S d1 S1 = some (d, S')) : runA np n b ds S = some (d, S') := by
  unfold runA
  rw [h]
  simp only
  split
  · rename_i q hq
    rw [← h2, finAb_ok hq]
  · exact h2
theorem runF_of {np n : Nat} {b : Sv} {ds : List D} {S S' S1 : Sto} {d1 : D} {d : List D} (h : runB np n b ds S = some (d1, S1)) (h2 : finF S d1 S1 = some (d, S')) : runF np n b ds S = some (d, S') := by
  unfold runF
  rw [h]
  simp only
  split
  · rename_i q hq
    rw [← h2, finFb_ok hq]
  · exact h2
/-- what a def promises -/
def cv (K : PySem.W.Frag) (m : Fn) : Sp := fun vs H Q _ => ∃ A r S ds d S', SR K A r H S ∧ RlL K A r H vs ds ∧ m ds S = some (d, S') ∧ ∀ v r' H', Evo r H r' H' → SR K A r' H' S' → Rl K A r' H' v d → Q v H'
def cvF (K : PySem.W.Frag) (m : List D → Sto → Option (List D × Sto)) : Sp := fun vs H Q _ => ∃ A r S ds d S', SR K A r H S ∧ RlL K A r H vs ds ∧ m ds S = some (d, S') ∧
  ∀ p vs r' H', Evo r H r' H' → SR K (p :: A) r' H' S' → H p = none → p ∉ A → H' p = some (.lst vs) → RlL K (p :: A) r' H' vs d → Q (.ref p) H'
section
variable {K : PySem.W.Frag}
theorem cv_call {m : Fn} {E : XK} : ClD K (fun vs H Q => cv K m (vs ++ []) H Q E) m := fun A r H S xs ds dz S' s l h Q q => by
  show cv K m (xs ++ []) H Q E
  rw [List.append_nil]
  exact ⟨A, r, S, ds, dz, S', s, l, h, q⟩
theorem cvF_call {m : List D → Sto → Option (List D × Sto)} {E : XK} : ClF K (fun vs H Q => cvF K m (vs ++ []) H Q E) m := fun A r H S xs ds dz S' s l h Q q => by
  show cvF K m (xs ++ []) H Q E
  rw [List.append_nil]
  exact ⟨A, r, S, ds, dz, S', s, l, h, q⟩
theorem runB_len {np n : Nat} {b : Sv} {ds : List D} {S : Sto} {q : D × Sto} (h : runB np n b ds S = some q) : ds.length = np := by
  unfold runB at h
  split at h
  · assumption
  · cases h
theorem start_re {A r : List Addr} {H : Hp} : ∀ {vs : List V} {ds : List D} (n : Nat), RlL K A r H vs ds → RE K A r H (vs.map some ++ List.replicate n none) (ds.map some ++ List.replicate n none)
  | _, _, n, .nil => by
    show RE K A r H (List.replicate n none) (List.replicate n none)
    induction n with
    | zero => exact .nil
    | succ n ih => exact .no ih
  | _, _, n, .cons h t => .so h (start_re n t)
theorem body_run {n np : Nat} {N : List Str} {b : Sv} {A r : List Addr} {H : Hp} {S : Sto} {vs : List V} {ds : List D} {d : D} {S1 : Sto} {Q : VK} (hn : N.length = n) (s : SR K A r H S) (l : RlL K A r H vs ds) (h : runB np n b ds S = some (d, S1))
    (q : ∀ v r' H', Evo r H r' H' → SR K A r' H' S1 → Rl K A r' H' v d → Q v H') : rdS K b { nx := fun _ H' => Q .non H', rt := Q } (L2.start N vs) H := by
  have hl := runB_len h
  unfold runB at h
  rw [if_pos hl] at h
  have re : RE K A r H (L2.start N vs) (ds.map some ++ List.replicate (n - np) none) := by
    have e : N.length - vs.length = n - np := by rw [hn, l.length, hl]
    unfold L2.start
    rw [e]
    exact start_re _ l
  split at h
  · rename_i d1 S2 h1
    cases h
    exact ⟨A, r, S, _, _, S1, s, re, h1, q⟩
  · rename_i e1 S2 h1
    cases h
    exact ⟨A, r, S, _, _, S1, s, re, h1, fun σ r' H' o s' _ => q .non r' H' o s' .non⟩
  · cases h
theorem finA_ok {A r r1 : List Addr} {H H1 : Hp} {S S1 S' : Sto} {d d' : D} {v : V} (h : finA S d S1 = some (d', S')) (s : SR K A r H S) (e : Evo r H r1 H1) (s1 : SR K A r1 H1 S1) (l : Rl K A r1 H1 v d) : Evo r H r H1 ∧ SR K A r H1 S' ∧ Rl K A r H1 v d' := by
  unfold finA at h
  split at h
  · rename_i ok
    have hS : SR K A r H1 (S1.take S.length) := s.cutS e s1 ok (cut_same e) fun a m => ⟨(s1.av a m).1, (s.av a m).2⟩
    split at h
    · rename_i l0
      split at h
      · rename_i hl
        cases h
        exact ⟨e.cutE, hS, l.cut (cut_same e) (cut_r e) (.ref (by rw [s.len]; exact hl))⟩
      · rename_i hl
        cases l with
        | ref hr =>
          rename_i a
          have na : a ∉ r := fun m => by
            obtain ⟨i, hi, ei⟩ := List.mem_iff_getElem.mp m
            have h1 : r1[i]? = some a := e.get (by rw [List.getElem?_eq_getElem hi, ei])
            have := SR.write.nodup_get s1.nd h1 hr
            rw [s.len] at hi
            omega
          have nA : a ∉ A := fun m => (s1.av a m).2 (List.mem_of_getElem? hr)
          split at h
          · rename_i ds hds
            split at h
            · rename_i c
              cases h
              obtain ⟨vs, hv, t⟩ := s1.obj _ _ _ hr hds
              exact ⟨e.cutE, hS, .lst na nA hv (t.cut (cut_same e) (cut_r e) (by rw [s.len]; exact c))⟩
            · cases h
          · rename_i ks ds hds
            split at h
            · rename_i c
              cases h
              obtain ⟨vs, hv, hk, t⟩ := s1.obj _ _ _ hr hds
              subst hk
              exact ⟨e.cutE, hS, .dk na nA hv (t.cut (cut_same e) (cut_r e) (by rw [s.len]; exact c))⟩
            · cases h
          · rename_i ks ds hds
            split at h
            · rename_i c
              cases h
              obtain ⟨vs, hv, hk, t⟩ := s1.obj _ _ _ hr hds
              subst hk
              exact ⟨e.cutE, hS, .dt na nA hv (t.cut (cut_same e) (cut_r e) (by rw [s.len]; exact c))⟩
            · cases h
          · cases h
    · split at h
      · rename_i c
        cases h
        exact ⟨e.cutE, hS, l.cut (cut_same e) (cut_r e) (by rw [s.len]; exact c)⟩
      · cases h
  · cases h
theorem finF_ok {A r r1 : List Addr} {H H1 : Hp} {S S1 S' : Sto} {d : D} {ds : List D} {v : V} (h : finF S d S1 = some (ds, S')) (s : SR K A r H S) (e : Evo r H r1 H1) (s1 : SR K A r1 H1 S1) (l : Rl K A r1 H1 v d) :
    ∃ p vs, v = .ref p ∧ Evo r H r H1 ∧ SR K (p :: A) r H1 S' ∧ H p = none ∧ p ∉ A ∧ H1 p = some (.lst vs) ∧ RlL K (p :: A) r H1 vs ds := by
  unfold finF at h
  split at h
  · rename_i ok
    split at h
    · rename_i l0
      split at h
      · cases h
      · rename_i hl
        cases l with
        | ref hr =>
          rename_i a
          have ma : a ∈ r1 := List.mem_of_getElem? hr
          have na : a ∉ r := fun m => by
            obtain ⟨i, hi, ei⟩ := List.mem_iff_getElem.mp m
            have h1 : r1[i]? = some a := e.get (by rw [List.getElem?_eq_getElem hi, ei])
            have := SR.write.nodup_get s1.nd h1 hr
            rw [s.len] at hi
            omega
          have nA : a ∉ A := fun m => (s1.av a m).2 ma
          have cs : ∀ b, b ∉ r1 → b ∉ A → b ∉ r ∧ b ∉ a :: A := fun b h n => ⟨fun m => h (e.sub m), fun m => (List.mem_cons.mp m).elim (fun z => h (by rw [z]; exact ma)) n⟩
          split at h
          · rename_i ds' hds
            split at h
            · rename_i c
              cases h
              obtain ⟨vs, hv, t⟩ := s1.obj _ _ _ hr hds
              refine ⟨a, vs, rfl, e.cutE, s.cutS e s1 ok cs fun b m => ?_, e.new a ma na, nA, hv, t.cut cs (cut_r e) (by rw [s.len]; exact c)⟩
              rcases List.mem_cons.mp m with z | m
              · rw [z]
                exact ⟨⟨_, hv⟩, na⟩
              · exact ⟨(s1.av b m).1, (s.av b m).2⟩
            · cases h
          · cases h
    · cases h
  · cases h
end
section
variable {P : Program} {w : World} {K : PySem.W.Frag} {mg : Str → Option Value} {base : Heap} {x qual : Str} {st : Stmt} {f : Addr} {fd : FuncData} {N ps : List Str} {k np n : Nat} {b : Sv}
/-- a def's body, wherever it is called -/
def BodyOk (P : Program) (w : World) (K : PySem.W.Frag) (mg : Str → Option Value) (base : Heap) (k : Nat) (qual : Str) (st : Stmt) (f : Addr) (N : List Str) (b : Sv) : Prop :=
  ∀ (cdv : Value) (A : Around) (outer : List PySem.Env) (s : Shared) (H : Hp) (E : XK), Room k (A.deeper (envOfC qual (defScope st) s.heap.objs.size f cdv)) →
    PSs (cxOf CX0 P w K mg base N qual (defScope st) f cdv A outer s H E).nox (defBody st) (rdS K b)
theorem ok_B (F : Fun K x qual st f fd) (S : FnScope N ps (defScope st)) (hp : ps.length = np) (hn : N.length = n) (hb : BodyOk P w K mg base k qual st f N b) : FnOk P w K mg base CX0 (k + 1) f fd ps (cv K (runB np n b)) := by
  refine F.ok S (fun vs H Q E h => ?_) fun cdv A outer s H vs Q E hr h => ⟨_, hb cdv A outer s H E hr, ?_⟩
  · obtain ⟨A, r, S, ds, d, S', s, l, h, q⟩ := h
    rw [l.length, runB_len h, hp]
  · obtain ⟨A, r, S, ds, d, S', s, l, h, q⟩ := h
    exact body_run hn s l h q
theorem ok_A (F : Fun K x qual st f fd) (S : FnScope N ps (defScope st)) (hp : ps.length = np) (hn : N.length = n) (hb : BodyOk P w K mg base k qual st f N b) : FnOk P w K mg base CX0 (k + 1) f fd ps (cv K (runA np n b)) := by
  refine (ok_B F S hp hn hb).imp fun vs H Q E h => ?_
  obtain ⟨A, r, S, ds, d, S', s, l, h, q⟩ := h
  obtain ⟨d1, S1, h1, h⟩ := runA_to h
  · refine ⟨A, r, S, ds, d1, S1, s, l, h1, fun v r' H' o s' l' => ?_⟩
    obtain ⟨z1, z2, z3⟩ := finA_ok h s o s' l'
    exact q v r H' z1 z2 z3
theorem ok_F (F : Fun K x qual st f fd) (S : FnScope N ps (defScope st)) (hp : ps.length = np) (hn : N.length = n) (hb : BodyOk P w K mg base k qual st f N b) : FnOk P w K mg base CX0 (k + 1) f fd ps (cvF K (runF np n b)) := by
  refine (ok_B F S hp hn hb).imp fun vs H Q E h => ?_
  obtain ⟨A, r, S, ds, d, S', s, l, h, q⟩ := h
  obtain ⟨d1, S1, h1, h⟩ := runF_to h
  · refine ⟨A, r, S, ds, d1, S1, s, l, h1, fun v r' H' o s' l' => ?_⟩
    obtain ⟨p, vs', e, z1, z2, z3, z4, z5, z6⟩ := finF_ok h s o s' l'
    subst e
    exact q p vs' r H' z1 z2 z3 z4 z5 z6
end
section
variable {X : Cx} {K : PySem.W.Frag} {k : Nat} {f : Addr} {fd : FuncData} {ps : List Str} {x : Str} {p pos : Pos} {e : Expr} {es : List Expr} {l : Lv}
/-- f(..) -/
theorem x_call {m : Fn} (F : FnOk X.prog X.w X.K X.mg X.base CX0 k f fd ps (cv K m)) (hr : Room k X.A) (hg : Gl X x) (hm : X.mg x = some (.ref f)) (hk : PySem.W.keepIn X.K (.ref f) = true) (hb : Binds X.K fd ps [])
    (ha : PA X (e :: es) (rdA K l)) (hdb : (x == ("__debug__" : Str)) = false := by decide) (he : starEach (e :: es) X.env = (false, eval e X.env) :: starEach es X.env := by rfl) (hpl : (backTo pos (starEach es X.env)).any (·.1) = false := by rfl) :
    PE X (.Call (.Name x p) (e :: es) [] pos) (rdE K (eCall m l)) := (pe_call F hr hg hm hk hb .nil pass0 ha hdb he hpl).imp fun _ _ _ q => rd_call cv_call q
theorem f_call {m : List D → Sto → Option (List D × Sto)} (F : FnOk X.prog X.w X.K X.mg X.base CX0 k f fd ps (cvF K m)) (hr : Room k X.A) (hg : Gl X x) (hm : X.mg x = some (.ref f)) (hk : PySem.W.keepIn X.K (.ref f) = true) (hb : Binds X.K fd ps [])
    (ha : PA X (e :: es) (rdA K l)) (hdb : (x == ("__debug__" : Str)) = false := by decide) (he : starEach (e :: es) X.env = (false, eval e X.env) :: starEach es X.env := by rfl) (hpl : (backTo pos (starEach es X.env)).any (·.1) = false := by rfl) :
    PE X (.Call (.Name x p) (e :: es) [] pos) (rdF K (fCall m l)) := (pe_call F hr hg hm hk hb .nil pass0 ha hdb he hpl).imp fun _ _ _ q => rd_callF cvF_call q
/-- a call of a built-in, of a built-in class -/
theorem x_blt {t : List V → Hp → VK → Prop} {h : List D → Sto → Option (D × Sto)} {id : String} (hc : CallR X (.builtin id) t) (hr : ClD K t h) (hg : Gl X x) (hm : X.mg x = none) (hv : bootBuiltins x = some (.builtin id)) (ha : PA X (e :: es) (rdA K l))
    (hn : x ≠ "__name__" := by decide) (hdb : (x == ("__debug__" : Str)) = false := by decide) (he : starEach (e :: es) X.env = (false, eval e X.env) :: starEach es X.env := by rfl) (hpl : (backTo pos (starEach es X.env)).any (·.1) = false := by rfl) :
    PE X (.Call (.Name x p) (e :: es) [] pos) (rdE K (eCall h l)) := (pe_callB hc hg hm hv ha hn hdb he hpl).imp fun _ _ _ q => rd_call hr q
theorem f_blt {t : List V → Hp → VK → Prop} {h : List D → Sto → Option (List D × Sto)} {id : String} (hc : CallR X (.builtin id) t) (hr : ClF K t h) (hg : Gl X x) (hm : X.mg x = none) (hv : bootBuiltins x = some (.builtin id)) (ha : PA X (e :: es) (rdA K l))
    (hn : x ≠ "__name__" := by decide) (hdb : (x == ("__debug__" : Str)) = false := by decide) (he : starEach (e :: es) X.env = (false, eval e X.env) :: starEach es X.env := by rfl) (hpl : (backTo pos (starEach es X.env)).any (·.1) = false := by rfl) :
    PE X (.Call (.Name x p) (e :: es) [] pos) (rdF K (fCall h l)) := (pe_callB hc hg hm hv ha hn hdb he hpl).imp fun _ _ _ q => rd_callF hr q
theorem x_ty {t : List V → Hp → VK → Prop} {h : List D → Sto → Option (D × Sto)} {T : String} (hc : CallR X (.type T) t) (hr : ClD K t h) (hg : Gl X x) (hm : X.mg x = none) (hv : bootBuiltins x = some (.type T)) (ha : PA X (e :: es) (rdA K l))
    (hn : x ≠ "__name__" := by decide) (hdb : (x == ("__debug__" : Str)) = false := by decide) (he : starEach (e :: es) X.env = (false, eval e X.env) :: starEach es X.env := by rfl) (hpl : (backTo pos (starEach es X.env)).any (·.1) = false := by rfl) :
    PE X (.Call (.Name x p) (e :: es) [] pos) (rdE K (eCall h l)) := (pe_callTy hc hg hm hv ha hn hdb he hpl).imp fun _ _ _ q => rd_call hr q
theorem f_ty {t : List V → Hp → VK → Prop} {h : List D → Sto → Option (List D × Sto)} {T : String} (hc : CallR X (.type T) t) (hr : ClF K t h) (hg : Gl X x) (hm : X.mg x = none) (hv : bootBuiltins x = some (.type T)) (ha : PA X (e :: es) (rdA K l))
    (hn : x ≠ "__name__" := by decide) (hdb : (x == ("__debug__" : Str)) = false := by decide) (he : starEach (e :: es) X.env = (false, eval e X.env) :: starEach es X.env := by rfl) (hpl : (backTo pos (starEach es X.env)).any (·.1) = false := by rfl) :
    PE X (.Call (.Name x p) (e :: es) [] pos) (rdF K (fCall h l)) := (pe_callTy hc hg hm hv ha hn hdb he hpl).imp fun _ _ _ q => rd_callF hr q
end
end Tr
namespace Tr
open PySem PySem.Spec PyProof.Rows L2

/-! ### operations on data -/
theorem OpD.or {K : PySem.W.Frag} {t t' : R2} {h h' : D → D → Option D} (a : OpD K t h) (b : OpD K t' h') : OpD K (fun x y H Q => t x y H Q ∨ t' x y H Q) (fun x y => match h x y with
    | some z => some z
    | none => h' x y) := fun A r H S x y dx dy dz s lx ly e Q q => by
  simp only at e
  split at e
  · rename_i z hz
    cases e
    exact .inl (a A r H S x y dx dy dz s lx ly hz Q q)
  · exact .inr (b A r H S x y dx dy dz s lx ly e Q q)
/-- ints to data -/
def h2 (C : Int → Int → Bool) (f : Int → Int → D) : D → D → Option D := fun x y => match x, y with
  | .int i, .int j => if C i j = true then some (f i j) else none
  | _, _ => none
theorem o_I {K : PySem.W.Frag} {C : Int → Int → Prop} {B : Int → Int → Bool} {g : Int → Int → V} {f : Int → Int → D} (hC : ∀ i j, B i j = true → C i j) (hg : ∀ A r H i j, Rl K A r H (g i j) (f i j)) : OpD K (rI C g) (h2 B f) := fun A r H S x y dx dy dz s lx ly e Q q => by
  unfold h2 at e
  split at e
  · split at e
    · rename_i hc
      cases e
      cases lx
      cases ly
      exact ⟨_, _, rfl, rfl, hC _ _ hc, q _ r H .refl s (hg A r H _ _)⟩
    · cases e
  · cases e
theorem o_I0 {K : PySem.W.Frag} {g : Int → Int → V} {f : Int → Int → D} (hg : ∀ A r H i j, Rl K A r H (g i j) (f i j)) : OpD K (rI0 g) (h2 (fun _ _ => true) f) := fun A r H S x y dx dy dz s lx ly e Q q => by
  unfold h2 at e
  split at e
  · rw [if_pos rfl] at e
    cases e
    cases lx
    cases ly
    exact ⟨_, _, rfl, rfl, q _ r H .refl s (hg A r H _ _)⟩
  · cases e
def hAddI := h2 (fun _ _ => true) fun i j => .int (i + j)
def hSub := h2 (fun _ _ => true) fun i j => .int (i - j)
def hMulI := h2 (fun i j => decide (i.natAbs.log2 + j.natAbs.log2 < 1000000)) fun i j => .int (i * j)
def hDiv := h2 (fun _ j => decide (0 < j) && decide (j.natAbs.log2 < 9000)) fun i j => .int (i / j)
def hMod := h2 (fun _ j => decide (0 < j)) fun i j => .int (i % j)
def hPow := h2 (fun i j => decide (0 ≤ j) && decide (((i.natAbs.log2 + 1 : Nat) : Int) * j ≤ 100000000)) fun i j => .int (i ^ j.toNat)
def hLtI := h2 (fun _ _ => true) fun i j => .bl (decide (i < j))
def hLeI := h2 (fun _ _ => true) fun i j => .bl (decide (i ≤ j))
def hGtI := h2 (fun _ _ => true) fun i j => .bl (decide (j < i))
def hGeI := h2 (fun _ _ => true) fun i j => .bl (decide (j ≤ i))
section
variable {X : Cx} {K : PySem.W.Frag}
theorem o_addI : OpD K (rI0 fun i j => .int (i + j)) hAddI := o_I0 fun _ _ _ _ _ => .int _
theorem o_sub : OpD K (rI0 fun i j => .int (i - j)) hSub := o_I0 fun _ _ _ _ _ => .int _
theorem o_mulI : OpD K (rI CMulW fun i j => .int (i * j)) hMulI := o_I (fun i j h => (show CMulW i j from of_decide_eq_true (p := i.natAbs.log2 + j.natAbs.log2 < 1000000) h)) fun _ _ _ _ _ => .int _
theorem o_div : OpD K (rI CDivW fun i j => .int (i / j)) hDiv := o_I (fun _ _ h => by
  rw [Bool.and_eq_true] at h
  exact ⟨of_decide_eq_true h.1, of_decide_eq_true h.2⟩) fun _ _ _ _ _ => .int _
theorem o_mod : OpD K (rI (fun _ j => 0 < j) fun i j => .int (i % j)) hMod := o_I (fun _ _ h => of_decide_eq_true h) fun _ _ _ _ _ => .int _
def CPowW (i j : Int) : Prop := 0 ≤ j ∧ ((i.natAbs.log2 + 1 : Nat) : Int) * j ≤ 100000000
theorem op_powW : OpR X (binaryOp .Pow) (rI CPowW fun i j => .int (i ^ j.toNat)) := opI fun i j _ _ _ _ _ hc q => by
  refine pow_int hc.1 ?_ q
  have b : Builtin.Int.intBits i ≤ i.natAbs.log2 + 1 := by
    unfold Builtin.Int.intBits
    split <;> omega
  have h1 : ((Builtin.Int.intBits i : Nat) : Int) * j ≤ ((i.natAbs.log2 + 1 : Nat) : Int) * j := Int.mul_le_mul_of_nonneg_right (by omega) hc.1
  have h2 := hc.2
  have h3 : (2 : Int) ^ 27 = 134217728 := by decide
  rw [h3]
  omega
theorem o_pow : OpD K (rI CPowW fun i j => .int (i ^ j.toNat)) hPow := o_I (fun _ _ h => by
  rw [Bool.and_eq_true] at h
  exact ⟨of_decide_eq_true h.1, of_decide_eq_true h.2⟩) fun _ _ _ _ _ => .int _
theorem o_ltI : OpD K (rI0 fun i j => .bl (decide (i < j))) hLtI := o_I0 fun _ _ _ _ _ => .bl _
theorem o_leI : OpD K (rI0 fun i j => .bl (decide (i ≤ j))) hLeI := o_I0 fun _ _ _ _ _ => .bl _
theorem o_gtI : OpD K (rI0 fun i j => .bl (decide (j < i))) hGtI := o_I0 fun _ _ _ _ _ => .bl _
theorem o_geI : OpD K (rI0 fun i j => .bl (decide (j ≤ i))) hGeI := o_I0 fun _ _ _ _ _ => .bl _
def uNeg : D → Option D := fun x => match x with
  | .int i => some (.int (-i))
  | _ => none
theorem u_neg : UnD K (rU fun i => .int (-i)) uNeg := fun A r H S x dx dz s l e Q q => by
  unfold uNeg at e
  split at e
  · cases e
    cases l
    exact ⟨_, rfl, q _ r H .refl s (.int _)⟩
  · cases e
/-- texts put together -/
def hAddS : D → D → Option D := fun x y => match x, y with
  | .str i, .str j => if i.length + j.length ≤ 1000000 then some (.str (i ++ j)) else none
  | _, _ => none
theorem o_addS : OpD K (fun x y H Q => ∃ i j, x = .str i ∧ y = .str j ∧ i.length + j.length ≤ sizeLine ∧ Q (.str (i ++ j)) H) hAddS := fun A r H S x y dx dy dz s lx ly e Q q => by
  unfold hAddS at e
  split at e
  · split at e
    · rename_i hz
      cases e
      cases lx
      cases ly
      exact ⟨_, _, rfl, rfl, Nat.le_trans hz (by decide), q _ r H .refl s (.str _)⟩
    · cases e
  · cases e
def hAddT : D → D → Option D := fun x y => match x, y with
  | .tup i, .tup j => if i.length + j.length ≤ 1000000 then some (.tup (i ++ j)) else none
  | _, _ => none
theorem o_addT : OpD K (rCatA K) hAddT := fun A r H S x y dx dy dz s lx ly e Q q => by
  unfold hAddT at e
  split at e
  · rename_i di dj
    split at e
    · rename_i hz
      cases e
      cases lx with
      | tup hx tx =>
        rename_i a xs
        cases ly with
        | tup hy ty =>
          rename_i b ys
          refine ⟨a, b, xs, ys, rfl, rfl, hx.sq, hy.sq, by rw [tx.length, ty.length]; exact Nat.le_trans hz (by decide), ?_, ?_, ?_⟩
          · intro z
            subst z
            cases tx
            exact q _ r H .refl s (.tup hy ty)
          · intro _ z
            subst z
            cases ty
            rw [List.append_nil] at q
            exact q _ r H .refl s (.tup hx tx)
          · intro _ _ p hp
            exact q _ r _ (.fresh hp) (s.fresh hp) (.tup ⟨s.notin hp, s.notav hp, upd_same⟩ ((tx.append ty).mono (.fresh hp)))
    · cases e
  · cases e
def hAdd : D → D → Option D := fun x y => match hAddI x y with
  | some z => some z
  | none => match hAddS x y with
    | some z => some z
    | none => hAddT x y
abbrev rAddAll (K : PySem.W.Frag) : R2 := fun x y H Q => (rI0 fun i j => .int (i + j)) x y H Q ∨ ((∃ i j, x = .str i ∧ y = .str j ∧ i.length + j.length ≤ sizeLine ∧ Q (.str (i ++ j)) H) ∨ rCatA K x y H Q)
theorem op_addAll : OpR X (binaryOp .Add) (rAddAll X.K) := op_add.or (op_add_str.or op_catA)
theorem o_add : OpD K (rAddAll K) hAdd := o_addI.or (o_addS.or o_addT)

/-! ### sequences -/
def seqOf (S : Sto) : D → Option (List D)
  | .tup ds => some ds
  | .ktp ds => some ds
  | .lst ds => some ds
  | .scr ds => some ds
  | .ref l => match S[l]? with
    | some (.lst ds) => some ds
    | _ => none
  | _ => none
theorem seq_ok {A r : List Addr} {H : Hp} {S : Sto} {x : V} {d : D} {ds : List D} (s : SR K A r H S) (l : Rl K A r H x d) (h : seqOf S d = some ds) : ∃ a vs, x = .ref a ∧ (SqL K H a vs ∨ SqT K H a vs) ∧ RlL K A r H vs ds := by
  cases l with
  | tup a b =>
    cases h
    exact ⟨_, _, rfl, .inr a.sq, b⟩
  | ktp a b =>
    cases h
    exact ⟨_, _, rfl, .inr a.sq, b⟩
  | lst _ _ a b =>
    cases h
    exact ⟨_, _, rfl, .inl (.of a), b⟩
  | scr a b =>
    cases h
    exact ⟨_, _, rfl, .inl a.sq, b⟩
  | ref a =>
    unfold seqOf at h
    simp only at h
    split at h
    · rename_i es he
      cases h
      obtain ⟨vs, e, t⟩ := s.obj _ _ _ a he
      exact ⟨_, _, rfl, .inl (.of e), t⟩
    · cases h
  | _ => cases h
theorem atI_rl {A r : List Addr} {H : Hp} {vs : List V} {ds : List D} {i : Int} {d : D} (t : RlL K A r H vs ds) (h : atI ds i = some d) : ∃ v, atI vs i = some v ∧ Rl K A r H v d := by
  unfold atI at h ⊢
  rw [t.length]
  cases e : ixN ds.length i with
  | none =>
    rw [e] at h
    cases h
  | some j =>
    rw [e] at h
    exact t.get h
/-- x[i] of a list, a tuple, a text -/
def hIx : D → D → Sto → Option (D × Sto) := fun x y S => match y with
  | .int i => match x with
    | .str z => if z.length ≤ 1000000 then (atI z.cps.toList i).map fun c => (.str ⟨#[c]⟩, S) else none
    | x => match seqOf S x with
      | some ds => (atI ds i).map fun d => (d, S)
      | none => none
  | _ => none
theorem o_ix : OpDS K (rIx K) hIx := fun A r H S x y dx dy dz S' s lx ly e Q q => by
  unfold hIx at e
  split at e
  · rename_i i
    cases ly
    split at e
    · rename_i z
      cases lx
      split at e
      · rename_i hz
        cases h : atI z.cps.toList i with
        | none =>
          rw [h] at e
          cases e
        | some c =>
          rw [h] at e
          cases e
          exact .inr (.inr ⟨z, i, c, rfl, rfl, Nat.le_trans hz (by decide), h, q _ r H .refl s (.str _)⟩)
      · cases e
    · split at e
      · rename_i ds hds
        cases h : atI ds i with
        | none =>
          rw [h] at e
          cases e
        | some c =>
          rw [h] at e
          cases e
          obtain ⟨a, vs, rfl, hs, t⟩ := seq_ok s lx hds
          obtain ⟨v, hv, l⟩ := atI_rl t h
          rcases hs with hs | hs
          · exact .inl ⟨a, vs, i, v, rfl, rfl, hs, hv, q v r H .refl s l⟩
          · exact .inr (.inl ⟨a, vs, i, v, rfl, rfl, hs, hv, q v r H .refl s l⟩)
      · cases e
  · cases e
theorem x_ix {a b : Expr} {f g : Ev} {pos : Pos} (hK : X.K = K) (ha : PE X a (rdE K f)) (hb : PE X b (rdE K g)) (hs : PlainIx b := by intro _ _; rfl) : PE X (.Subscript a b pos) (rdE K (eOpS hIx f g)) := by
  subst hK
  exact (pe_ix ix_seq ha hb hs).imp fun _ _ _ q => rd_opS o_ix q

/-! ### equality -/
mutual
def py : D → Option PyData
  | .non => some .none
  | .bl b => some (.bool b)
  | .int i => some (.int i)
  | .str x => some (.str x)
  | .tup ds => (pyL ds).map .tuple
  | .ktp ds => (pyL ds).map .tuple
  | .lst ds => (pyL ds).map .list
  | .scr ds => (pyL ds).map .list
  | _ => none
def pyL : List D → Option (List PyData)
  | [] => some []
  | d :: ds => match py d, pyL ds with
    | some p, some ps => some (p :: ps)
    | _, _ => none
end
def pyT (S : Sto) (d : D) : Option PyData := match d with
  | .ref l => match S[l]? with
    | some (.lst ds) => (pyL ds).map .list
    | _ => none
  | d => py d
mutual
theorem py_ok {A r : List Addr} {H : Hp} : ∀ {x : V} {d : D} {p : PyData}, Rl K A r H x d → py d = some p → Dp K H x p
  | _, _, _, .non, h => by
    cases h
    exact .non
  | _, _, _, .bl b, h => by
    cases h
    exact .bl b
  | _, _, _, .int b, h => by
    cases h
    exact .int b
  | _, _, _, .str b, h => by
    cases h
    exact .str b
  | _, _, _, .ty b, h => by cases h
  | _, .tup ds, _, .tup a b, h => by
    unfold py at h
    cases e : pyL ds with
    | none =>
      rw [e] at h
      cases h
    | some ps =>
      rw [e] at h
      cases h
      exact .tup a.sq (pyL_ok b e)
  | _, .ktp ds, _, .ktp a b, h => by
    unfold py at h
    cases e : pyL ds with
    | none =>
      rw [e] at h
      cases h
    | some ps =>
      rw [e] at h
      cases h
      exact .tup a.sq (pyL_ok b e)
  | _, .lst ds, _, .lst _ _ a b, h => by
    unfold py at h
    cases e : pyL ds with
    | none =>
      rw [e] at h
      cases h
    | some ps =>
      rw [e] at h
      cases h
      exact .lst (.of a) (pyL_ok b e)
  | _, .scr ds, _, .scr a b, h => by
    unfold py at h
    cases e : pyL ds with
    | none =>
      rw [e] at h
      cases h
    | some ps =>
      rw [e] at h
      cases h
      exact .lst a.sq (pyL_ok b e)
  | _, _, _, .dk _ _ _ _, h => by cases h
  | _, _, _, .dt _ _ _ _, h => by cases h
  | _, _, _, .ref _, h => by cases h
theorem pyL_ok {A r : List Addr} {H : Hp} : ∀ {xs : List V} {ds : List D} {ps : List PyData}, RlL K A r H xs ds → pyL ds = some ps → DpAll K H xs ps
  | _, _, _, .nil, h => by
    cases h
    exact .nil
  | _, d :: ds, _, .cons a b, h => by
    unfold pyL at h
    split at h
    · rename_i p ps e1 e2
      cases h
      exact .cons (py_ok a e1) (pyL_ok b e2)
    · cases h
end
theorem pyT_ok {A r : List Addr} {H : Hp} {S : Sto} {x : V} {d : D} {p : PyData} (s : SR K A r H S) (l : Rl K A r H x d) (h : pyT S d = some p) : Dp K H x p := by
  unfold pyT at h
  split at h
  · split at h
    · rename_i ds hds
      cases e : pyL ds with
      | none =>
        rw [e] at h
        cases h
      | some ps =>
        rw [e] at h
        cases h
        cases l with
        | ref a =>
          obtain ⟨vs, z, t⟩ := s.obj _ _ _ a hds
          exact .lst (.of z) (pyL_ok t e)
    · cases h
  · exact py_ok l h
def scV : D → Option V
  | .non => some .non
  | .bl b => some (.bl b)
  | .int i => some (.int i)
  | .str x => some (.str x)
  | _ => none
theorem scV_ok {A r : List Addr} {H : Hp} {x v : V} {d : D} (l : Rl K A r H x d) (h : scV d = some v) : x = v := by
  cases l <;> first | (cases h; rfl) | cases h
/-- a == b of data -/
def eqv (S : Sto) (x y : D) : Option Bool := match scV x, scV y with
  | some v, some w => if scal v w = true then some (decide (v = w)) else none
  | _, _ => match pyT S x, pyT S y with
    | some p, some q => if SeqAt.shaped p && SeqAt.shaped q then some (PyData.eqv p q) else none
    | _, _ => none
def hEq : D → D → Sto → Option (D × Sto) := fun x y S => (eqv S x y).map fun b => (.bl b, S)
def hNe : D → D → Sto → Option (D × Sto) := fun x y S => (eqv S x y).map fun b => (.bl (!b), S)
theorem o_eqG {g : Bool → Bool} (t1 t2 : R2) (h1 : ∀ x y H Q, scal x y = true → Q (.bl (g (decide (x = y)))) H → t1 x y H Q) (h2 : ∀ x y H (Q : VK) d e, Dp K H x d → Dp K H y e → SeqAt.shaped d = true → SeqAt.shaped e = true → Q (.bl (g (PyData.eqv d e))) H → t2 x y H Q) :
    OpDS K (fun x y H Q => t1 x y H Q ∨ t2 x y H Q) (fun x y S => (eqv S x y).map fun b => (.bl (g b), S)) := fun A r H S x y dx dy dz S' s lx ly e Q q => by
  simp only at e
  cases h : eqv S dx dy with
  | none =>
    rw [h] at e
    cases e
  | some b =>
    rw [h] at e
    cases e
    unfold eqv at h
    split at h
    · rename_i v w hv hw
      have e1 := scV_ok lx hv
      have e2 := scV_ok ly hw
      subst e1 e2
      split at h
      · rename_i hs
        cases h
        exact .inl (h1 _ _ _ _ hs (q _ r H .refl s (.bl _)))
      · cases h
    · split at h
      · rename_i p p' hp hq
        split at h
        · rename_i hs
          cases h
          rw [Bool.and_eq_true] at hs
          exact .inr (h2 _ _ _ _ p p' (pyT_ok s lx hp) (pyT_ok s ly hq) hs.1 hs.2 (q _ r H .refl s (.bl _)))
        · cases h
      · cases h
theorem o_eq : OpDS K (fun x y H Q => rEq x y H Q ∨ rEqD K x y H Q) hEq := o_eqG (g := id) rEq (rEqD K) (fun _ _ _ _ a b => ⟨a, b⟩) fun _ _ _ _ d e a b c d' q => ⟨d, e, a, b, c, d', q⟩
theorem o_ne : OpDS K (fun x y H Q => rNe x y H Q ∨ rNeD K x y H Q) hNe := o_eqG (g := not) rNe (rNeD K) (fun _ _ _ _ a b => ⟨a, b⟩) fun _ _ _ _ d e a b c d' q => ⟨d, e, a, b, c, d', q⟩
theorem op_eqA (hu : X.A.units + 64 < cLine) : OpR X (compareOp .Eq) (fun x y H Q => rEq x y H Q ∨ rEqD X.K x y H Q) := op_eq.or (op_eqD hu)
theorem op_neA (hu : X.A.units + 64 < cLine) : OpR X (compareOp .NotEq) (fun x y H Q => rNe x y H Q ∨ rNeD X.K x y H Q) := op_ne.or (op_neD hu)
/-! ### is -/
def hIs : D → D → Option D := fun x y => match y with
  | .non => match x with
    | .non => some (.bl true)
    | _ => some (.bl false)
  | .bl b => match x with
    | .bl c => some (.bl (decide (c = b)))
    | _ => none
  | _ => none
def hNis : D → D → Option D := fun x y => match hIs x y with
  | some (.bl b) => some (.bl (!b))
  | _ => none
def isNon : D → Bool
  | .non => true
  | _ => false
theorem non_iff {A r : List Addr} {H : Hp} {x : V} {d : D} (l : Rl K A r H x d) : (decide (x = .non)) = isNon d := by
  cases l <;> simp [isNon]
theorem o_is : OpD K (fun x y H Q => (y = .non ∧ Q (.bl (decide (x = .non))) H) ∨ rIsB x y H Q) hIs := fun A r H S x y dx dy dz s lx ly e Q q => by
  unfold hIs at e
  split at e
  · cases ly
    refine .inl ⟨rfl, ?_⟩
    rw [non_iff lx]
    split at e
    · cases e
      exact q _ r H .refl s (.bl _)
    · cases e
      rename_i hn
      have : isNon dx = false := by
        cases dx <;> first | rfl | exact absurd rfl hn
      rw [this]
      exact q _ r H .refl s (.bl _)
  · cases ly
    split at e
    · cases e
      cases lx
      exact .inr ⟨_, _, rfl, rfl, q _ r H .refl s (.bl _)⟩
    · cases e
  · cases e
theorem o_nis : OpD K (fun x y H Q => (y = .non ∧ Q (.bl (!decide (x = .non))) H) ∨ rNotB x y H Q) hNis := fun A r H S x y dx dy dz s lx ly e Q q => by
  unfold hNis at e
  split at e
  · rename_i b hb
    cases e
    unfold hIs at hb
    split at hb
    · cases ly
      refine .inl ⟨rfl, ?_⟩
      rw [non_iff lx]
      split at hb
      · cases hb
        exact q _ r H .refl s (.bl _)
      · cases hb
        rename_i hn
        have : isNon dx = false := by
          cases dx <;> first | rfl | exact absurd rfl hn
        rw [this]
        exact q _ r H .refl s (.bl _)
    · cases ly
      split at hb
      · cases hb
        cases lx
        exact .inr ⟨_, _, rfl, rfl, q _ r H .refl s (.bl _)⟩
      · cases hb
    · cases hb
  · cases e
theorem op_isA : OpR X (compareOp .Is) (fun x y H Q => (y = .non ∧ Q (.bl (decide (x = .non))) H) ∨ rIsB x y H Q) := op_isN.or op_isBl
theorem op_nisA : OpR X (compareOp .IsNot) (fun x y H Q => (y = .non ∧ Q (.bl (!decide (x = .non))) H) ∨ rNotB x y H Q) := op_notN.or op_notBl
end
end Tr
namespace Tr
open PySem PySem.Spec PyProof.Rows L2

/-! ### what is walked -/
theorem PI.or {X : Cx} {tg it : Expr} {w w' : TI} (h : PI X tg it w) (h' : PI X tg it w') : PI X tg it (fun σ H R => w σ H R ∨ w' σ H R) := ⟨fun pins s σ H R I q => q.elim (h.run pins s σ H R I) (h'.run pins s σ H R I)⟩
theorem _root_.L2.PI.imp {X : Cx} {tg it : Expr} {t t' : TI} (h : PI X tg it t) (i : ∀ σ H Q, t' σ H Q → t σ H Q) : PI X tg it t' := ⟨fun pins s σ H Q I q => h.run pins s σ H Q I (i σ H Q q)⟩
section
variable {K : PySem.W.Frag} {A r : List Addr} {H : Hp} {S : Sto}
/-- a thing that may also be kept away from one address more -/
theorem more_av {A' : List Addr} (h : A' = A ∨ ∃ p, H p = none ∧ A' = p :: A) {v : V} {d : D} (l : Rl K A r H v d) : Rl K A' r H v d := by
  rcases h with rfl | ⟨p, hp, rfl⟩
  · exact l
  · exact l.av hp
theorem jok_tup {a : Addr} {ds : List D} (l : Rl K A r H (.ref a) (.tup ds)) : JOk K A r H (Itt K a) (fun _ => some ds) := fun A' hA r2 H2 S i o s ds' e => by
  cases e
  have l2 := (more_av hA l).mono o
  cases l2 with
  | tup h t =>
    rename_i vs
    refine ⟨fun d hd => ?_, fun hi => ⟨vs, h.sq, by rw [t.length, hi]; exact Nat.le_refl _⟩⟩
    obtain ⟨v, hv, lv⟩ := t.get hd
    refine ⟨⟨vs, v, h.sq, hv⟩, fun x H' y => ?_⟩
    obtain ⟨rfl, y⟩ := y
    have : x = v := Option.some.inj ((y vs h.sq).symm.trans hv)
    subst this
    exact ⟨.refl, s, lv⟩
theorem jok_ktp {a : Addr} {ds : List D} (l : Rl K A r H (.ref a) (.ktp ds)) : JOk K A r H (Itt K a) (fun _ => some ds) := fun A' hA r2 H2 S i o s ds' e => by
  cases e
  have l2 := (more_av hA l).mono o
  cases l2 with
  | ktp h t =>
    rename_i vs
    refine ⟨fun d hd => ?_, fun hi => ⟨vs, h.sq, by rw [t.length, hi]; exact Nat.le_refl _⟩⟩
    obtain ⟨v, hv, lv⟩ := t.get hd
    refine ⟨⟨vs, v, h.sq, hv⟩, fun x H' y => ?_⟩
    obtain ⟨rfl, y⟩ := y
    have : x = v := Option.some.inj ((y vs h.sq).symm.trans hv)
    subst this
    exact ⟨.refl, s, lv⟩
theorem jok_lst {a : Addr} {ds : List D} (l : Rl K A r H (.ref a) (.lst ds)) : JOk K A r H (Itl K a) (fun _ => some ds) := fun A' hA r2 H2 S i o s ds' e => by
  cases e
  have l2 := (more_av hA l).mono o
  cases l2 with
  | lst _ _ h t =>
    rename_i vs _ _
    refine ⟨fun d hd => ?_, fun hi => ⟨vs, .of h, by rw [t.length, hi]; exact Nat.le_refl _⟩⟩
    obtain ⟨v, hv, lv⟩ := t.get hd
    refine ⟨⟨vs, v, .of h, hv⟩, fun x H' y => ?_⟩
    obtain ⟨rfl, y⟩ := y
    have : x = v := Option.some.inj ((y vs (.of h)).symm.trans hv)
    subst this
    exact ⟨.refl, s, lv⟩
theorem jok_scr {a : Addr} {ds : List D} (l : Rl K A r H (.ref a) (.scr ds)) : JOk K A r H (Itl K a) (fun _ => some ds) := fun A' hA r2 H2 S i o s ds' e => by
  cases e
  have l2 := (more_av hA l).mono o
  cases l2 with
  | scr h t =>
    rename_i vs
    refine ⟨fun d hd => ?_, fun hi => ⟨vs, h.sq, by rw [t.length, hi]; exact Nat.le_refl _⟩⟩
    obtain ⟨v, hv, lv⟩ := t.get hd
    refine ⟨⟨vs, v, h.sq, hv⟩, fun x H' y => ?_⟩
    obtain ⟨rfl, y⟩ := y
    have : x = v := Option.some.inj ((y vs h.sq).symm.trans hv)
    subst this
    exact ⟨.refl, s, lv⟩
def refSrc (l : Nat) : Src := fun S => match S[l]? with
  | some (.lst ds) => some ds
  | _ => none
theorem jok_ref {a : Addr} {l : Nat} (hl : r[l]? = some a) : JOk K A r H (Itl K a) (refSrc l) := fun A' hA r2 H2 S i o s ds e => by
  unfold refSrc at e
  split at e
  · rename_i ds' hds
    cases e
    obtain ⟨vs, h, t⟩ := s.obj _ _ _ (o.get hl) hds
    refine ⟨fun d hd => ?_, fun hi => ⟨vs, .of h, by rw [t.length, hi]; exact Nat.le_refl _⟩⟩
    obtain ⟨v, hv, lv⟩ := t.get hd
    refine ⟨⟨vs, v, .of h, hv⟩, fun x H' y => ?_⟩
    obtain ⟨rfl, y⟩ := y
    have : x = v := Option.some.inj ((y vs (.of h)).symm.trans hv)
    subst this
    exact ⟨.refl, s, lv⟩
  · cases e
def chars (x : Str) : List D := x.cps.toList.map fun c => .str ⟨#[c]⟩
theorem jok_str {x : Str} : JOk K A r H (Its x) (fun _ => some (chars x)) := fun A' hA r2 H2 S i o s ds e => by
  cases e
  refine ⟨fun d hd => ?_, fun hi => by unfold chars at hi; rw [List.length_map, Array.length_toList] at hi; exact Nat.le_of_eq hi.symm⟩
  unfold chars at hd
  rw [List.getElem?_map, Array.getElem?_toList] at hd
  cases hc : x.cps[i]? with
  | none =>
    rw [hc] at hd
    cases hd
  | some c =>
    rw [hc] at hd
    cases hd
    refine ⟨(Array.getElem?_eq_some_iff.mp hc).1, fun v H' y => ?_⟩
    obtain ⟨rfl, c', h1, rfl⟩ := y
    rw [hc] at h1
    cases h1
    exact ⟨.refl, s, .str _⟩
def rngD (lo : Int) (n : Nat) : List D := (List.range n).map fun i => D.int (lo + (i : Nat))
theorem jok_rng {lo : Int} {n : Nat} : JOk K A r H (Itr lo n) (fun _ => some (rngD lo n)) := fun A' hA r2 H2 S i o s ds e => by
  cases e
  refine ⟨fun d hd => ?_, fun hi => by unfold rngD at hi; rw [List.length_map, List.length_range] at hi; exact Nat.le_of_eq hi.symm⟩
  unfold rngD at hd
  rw [List.getElem?_map] at hd
  cases hc : (List.range n)[i]? with
  | none =>
    rw [hc] at hd
    cases hd
  | some c =>
    rw [hc] at hd
    cases hd
    obtain ⟨h1, h2⟩ := List.getElem?_eq_some_iff.mp hc
    rw [List.length_range] at h1
    rw [List.getElem_range] at h2
    subst h2
    refine ⟨h1, fun v H' y => ?_⟩
    obtain ⟨rfl, rfl⟩ := y
    exact ⟨.refl, s, .int _⟩
def rngC (lo c : Int) (n : Nat) : List D := (List.range n).map fun i => D.int (lo + (i : Nat) * c)
theorem jok_rngC {lo c : Int} {n : Nat} : JOk K A r H (Itc lo c n) (fun _ => some (rngC lo c n)) := fun A' hA r2 H2 S i o s ds e => by
  cases e
  refine ⟨fun d hd => ?_, fun hi => by unfold rngC at hi; rw [List.length_map, List.length_range] at hi; exact Nat.le_of_eq hi.symm⟩
  unfold rngC at hd
  rw [List.getElem?_map] at hd
  cases hc : (List.range n)[i]? with
  | none =>
    rw [hc] at hd
    cases hd
  | some c =>
    rw [hc] at hd
    cases hd
    obtain ⟨h1, h2⟩ := List.getElem?_eq_some_iff.mp hc
    rw [List.length_range] at h1
    rw [List.getElem_range] at h2
    subst h2
    refine ⟨h1, fun v H' y => ?_⟩
    obtain ⟨rfl, rfl⟩ := y
    exact ⟨.refl, s, .int _⟩
end
/-- the source that a value is -/
def srcOf : D → Option Src
  | .tup ds => some fun _ => some ds
  | .ktp ds => some fun _ => some ds
  | .lst ds => some fun _ => some ds
  | .scr ds => some fun _ => some ds
  | .ref l => some (refSrc l)
  | .str x => some fun _ => some (chars x)
  | _ => none
def iSq (f : Ev) : Iv := fun e S => match f e S with
  | some (d, S1) => match srcOf d with
    | some src => match src S1 with
      | some _ => some (src, S1)
      | none => none
    | none => none
  | none => none
/-- a value is walked -/
theorem walk_v {X : Cx} {A r : List Addr} {pins : List (Addr × Obj)} {σ : L2.St} {H : Hp} {s : Shared} {S : Sto} {v : V} {u : Value} {d : D} {src : Src} {ds : List D} {tg : Expr} {R : It → Hp → Prop} {E : Value → Shared → Prop} (I : Inv X pins σ H s) (rv : RelV v u) (sr : SR X.K A r H S) (l : Rl X.K A r H v d)
    (h : srcOf d = some src) (hds : src S = some ds) (q : ∀ J, JOk X.K A r H J src → R J H) : wpAny (model X.prog X.w) X.A (pyIter u) (PIE X pins σ tg R) E s := by
  have wl : ∀ a : Addr, v = .ref a → (∃ xs, SqL X.K H a xs) → R (Itl X.K a) H → wpAny (model X.prog X.w) X.A (pyIter u) (PIE X pins σ tg R) E s := fun a ev ⟨xs, hq⟩ q => by
    subst ev
    cases rv
    obtain ⟨its, _, p, _⟩ := I.list hq
    refine wpAny_pyIter_list p.isList ?_
    refine ⟨s.heap.objs.size, [s.heap.objs.size], _, _, H, rfl, I.kept (t' := s.toks) fun b o e => Heap.get?_push_of_some _ e, turn_list a _, ⟨_, Heap.get?_push_size _ rfl, rfl, rfl⟩, fun b hb => ?_, q⟩
    rw [List.mem_singleton.mp hb]
    exact I.fpOk (Nat.le_refl _) (I.hok.fresh (Nat.le_refl _))
  have wt : ∀ a : Addr, v = .ref a → (∃ xs, SqT X.K H a xs) → R (Itt X.K a) H → wpAny (model X.prog X.w) X.A (pyIter u) (PIE X pins σ tg R) E s := fun a ev ⟨xs, hq⟩ q => by
    subst ev
    cases rv
    obtain ⟨its, _, p, _⟩ := I.tuple hq
    refine wpAny_pyIter_tuple (show s.heap.IsTuple a its.toArray from p) ?_
    refine ⟨s.heap.objs.size, [s.heap.objs.size], _, _, H, rfl, I.kept (t' := s.toks) fun b o e => Heap.get?_push_of_some _ e, turn_tuple a _, ⟨_, Heap.get?_push_size _ rfl, rfl, rfl⟩, fun b hb => ?_, q⟩
    rw [List.mem_singleton.mp hb]
    exact I.fpOk (Nat.le_refl _) (I.hok.fresh (Nat.le_refl _))
  cases l with
  | tup a b =>
    cases h
    exact wt _ rfl ⟨_, a.sq⟩ (q _ (jok_tup (.tup a b)))
  | ktp a b =>
    cases h
    exact wt _ rfl ⟨_, a.sq⟩ (q _ (jok_ktp (.ktp a b)))
  | lst z1 z2 a b =>
    cases h
    exact wl _ rfl ⟨_, .of a⟩ (q _ (jok_lst (.lst z1 z2 a b)))
  | scr a b =>
    cases h
    exact wl _ rfl ⟨_, a.sq⟩ (q _ (jok_scr (.scr a b)))
  | ref a =>
    cases h
    unfold refSrc at hds
    split at hds
    · rename_i ds' hd
      obtain ⟨vs, z, t⟩ := sr.obj _ _ _ a hd
      exact wl _ rfl ⟨_, .of z⟩ (q _ (jok_ref a))
    · cases hds
  | str x =>
    cases h
    obtain ⟨t, rfl⟩ := rv
    cases ha : x.cps.all (· < 128)
    · exact wpAny_pyIter_wide ha (pi_one (tk := s.toks) I _ (turn_str _ x t "str_iterator" (.inr rfl)) ⟨_, Heap.get?_push_size _ rfl, rfl, rfl⟩ (q _ jok_str))
    · exact wpAny_pyIter_ascii ha (pi_one (tk := s.toks) I _ (turn_str _ x t "str_ascii_iterator" (.inl rfl)) ⟨_, Heap.get?_push_size _ rfl, rfl, rfl⟩ (q _ jok_str))
  | _ => cases h
theorem w_sq {X : Cx} {K : PySem.W.Frag} {tg e : Expr} {f : Ev} (hK : X.K = K) (he : PE X e (rdE K f)) : PI X tg e (rdI K (iSq f)) := by
  subst hK
  refine ⟨fun pins s σ H R I h => ?_⟩
  obtain ⟨A, r, S, e', src, S', sr, re, ef, q⟩ := h
  unfold iSq at ef
  split at ef
  · rename_i d S1 h1
    split at ef
    · rename_i src' h2
      split at ef
      · rename_i ds h3
        cases ef
        refine thn (he.run pins s σ H (fun v H1 => ∃ r1, Evo r H r1 H1 ∧ SR X.K A r1 H1 S' ∧ Rl X.K A r1 H1 v d) I ⟨A, r, S, e', d, S', sr, re, h1, fun v r1 H1 o1 s1 l1 => ⟨r1, o1, s1, l1⟩⟩) fun u s1 ⟨v, H1, I1, rv, r1, o1, sr1, l1⟩ => ?_
        exact walk_v I1 rv sr1 l1 h2 h3 fun J hJ => q J r1 H1 o1 sr1 hJ
      · cases ef
    · cases ef
  · cases ef
/-! ### ranges -/
def bnd (i : Int) : Bool := decide (-(2 ^ 62) ≤ i) && decide (i < 2 ^ 62)
def iR1 (f : Ev) : Iv := fun e S => match f e S with
  | some (.int j, S1) => if bnd j = true then some (fun _ => some (rngD 0 j.toNat), S1) else none
  | _ => none
def iR2 (f g : Ev) : Iv := fun e S => match f e S with
  | some (.int i, S1) => match g e S1 with
    | some (.int j, S2) => if bnd i = true ∧ bnd j = true then some (fun _ => some (rngD i (j - i).toNat), S2) else none
    | _ => none
  | _ => none
/-- range(a, b, -1) -/
def iR3 (f g : Ev) : Iv := fun e S => match f e S with
  | some (.int i, S1) => match g e S1 with
    | some (.int j, S2) => if bnd i = true ∧ bnd j = true then some (fun _ => some (rngC i (-1) (i - j).toNat), S2) else none
    | _ => none
  | _ => none
theorem bnd_of {i : Int} (h : bnd i = true) : -(2 ^ 62) ≤ i ∧ i < 2 ^ 62 := by
  unfold bnd at h
  rw [Bool.and_eq_true] at h
  exact ⟨of_decide_eq_true h.1, of_decide_eq_true h.2⟩
section
variable {X : Cx} {K : PySem.W.Frag} {tg a b : Expr} {f g : Ev} {p pos : Pos}
theorem w_r1 (hg : Gl X "range") (hm : X.mg "range" = none) (ha : PE X a (rdE K f)) (hs : starEach [a] X.env = [(false, eval a X.env)] := by rfl) : PI X tg (.Call (.Name "range" p) [a] [] pos) (rdI K (iR1 f)) := by
  refine (pi_range1 hg hm (l_cons ha l_nil (by rw [hs]; rfl)) hs).imp fun σ H R h => ?_
  obtain ⟨A, r, S, e', src, S', sr, re, ef, q⟩ := h
  unfold iR1 at ef
  split at ef
  · rename_i j S1 h1
    split at ef
    · rename_i hb
      cases ef
      refine ⟨A, r, S, e', [.int j], S', sr, re, by unfold aCons; rw [h1]; rfl, fun vs r1 H1 o1 s1 l1 => ?_⟩
      cases l1 with
      | cons l t =>
        cases t
        cases l
        exact ⟨j, rfl, (bnd_of hb).1, (bnd_of hb).2, q _ r1 H1 o1 s1 jok_rng⟩
    · cases ef
  · cases ef
theorem two_args {A r : List Addr} {H : Hp} {σ : L2.St} {S S1 S2 : Sto} {e : Env} {x y : D} (h1 : f e S = some (x, S1)) (h2 : g e S1 = some (y, S2)) : aCons f (aCons g aNil) e S = some ([x, y], S2) := by
  simp only [aCons, h1, h2, aNil]
theorem w_r2 (hg : Gl X "range") (hm : X.mg "range" = none) (ha : PE X a (rdE K f)) (hb : PE X b (rdE K g)) (hs : starEach [a, b] X.env = [(false, eval a X.env), (false, eval b X.env)] := by rfl) (hs2 : starEach [b] X.env = [(false, eval b X.env)] := by rfl) : PI X tg (.Call (.Name "range" p) [a, b] [] pos) (rdI K (iR2 f g)) := by
  refine (pi_range2 hg hm (l_cons ha (l_cons hb l_nil (by rw [hs2]; rfl)) (by rw [hs, hs2])) hs hs2).imp fun σ H R h => ?_
  obtain ⟨A, r, S, e', src, S', sr, re, ef, q⟩ := h
  unfold iR2 at ef
  split at ef
  · rename_i i S1 h1
    split at ef
    · rename_i j S2 h2
      split at ef
      · rename_i hb
        cases ef
        refine ⟨A, r, S, e', [.int i, .int j], S', sr, re, two_args (A := A) (r := r) (H := H) (σ := σ) h1 h2, fun vs r1 H1 o1 s1 l1 => ?_⟩
        cases l1 with
        | cons l t =>
          cases t with
          | cons l' t =>
            cases t
            cases l
            cases l'
            exact ⟨i, j, rfl, ⟨(bnd_of hb.1).1, (bnd_of hb.1).2, (bnd_of hb.2).1, (bnd_of hb.2).2⟩, q _ r1 H1 o1 s1 jok_rng⟩
      · cases ef
    · cases ef
  · cases ef
/-- range(a, b, -1) -/
theorem w_r3 {k1 k2 : Nat} {p1 p2 : Pos} (hg : Gl X "range") (hm : X.mg "range" = none) (ha : PE X a (rdE K f)) (hb : PE X b (rdE K g))
    (hs : starEach [a, b, .UnaryOp .USub (.Constant (.int 1) k1 p1) p2] X.env = (false, eval a X.env) :: starEach [b, .UnaryOp .USub (.Constant (.int 1) k1 p1) p2] X.env := by rfl)
    (hs2 : starEach [b, .UnaryOp .USub (.Constant (.int 1) k1 p1) p2] X.env = (false, eval b X.env) :: starEach [.UnaryOp .USub (.Constant (.int 1) k1 p1) p2] X.env := by rfl)
    (hs3 : starEach [.UnaryOp .USub (.Constant (.int 1) k1 p1) p2] X.env = (false, eval (.UnaryOp .USub (.Constant (.int 1) k1 p1) p2) X.env) :: starEach [] X.env := by rfl)
    (hpl : (backTo pos (starEach [b, .UnaryOp .USub (.Constant (.int 1) k1 p1) p2] X.env)).any (·.1) = false := by rfl) : PI X tg (.Call (.Name "range" p) [a, b, .UnaryOp .USub (.Constant (.int 1) k1 p1) p2] [] pos) (rdI K (iR3 f g)) := by
  refine (pi_range3 hg hm (l_cons ha (l_cons hb (l_cons (x_un un_neg u_neg x_int) l_nil hs3) hs2) hs) hs hpl).imp fun σ H R h => ?_
  obtain ⟨A, r, S, e', src, S', sr, re, ef, q⟩ := h
  unfold iR3 at ef
  split at ef
  · rename_i i S1 h1
    split at ef
    · rename_i j S2 h2
      split at ef
      · rename_i hb
        cases ef
        refine ⟨A, r, S, e', [.int i, .int j, .int (-1)], S', sr, re, ?_, fun vs r1 H1 o1 s1 l1 => ?_⟩
        · simp only [aCons, h1, h2, aNil, eUn, eC, uNeg]
        cases l1 with
        | cons l t =>
          cases t with
          | cons l' t =>
            cases t with
            | cons l'' t =>
              cases t
              cases l
              cases l'
              cases l''
              exact ⟨i, j, -1, _, rfl, RgC.neg (bnd_of hb.1).1 (bnd_of hb.1).2 (bnd_of hb.2).1 (bnd_of hb.2).2, q _ r1 H1 o1 s1 jok_rngC⟩
      · cases ef
    · cases ef
  · cases ef
end

/-! ### enumerate, zip: of a list, a tuple, a text -/
inductive SK where
  | l (a : Addr) | t (a : Addr) | s (x : Str)
def SK.cont (K : PySem.W.Frag) (H : Hp) : SK → List V → Prop
  | .l a, vs => SqL K H a vs
  | .t a, vs => SqT K H a vs
  | .s x, vs => vs = x.cps.toList.map fun c => V.str ⟨#[c]⟩
def SK.st (it : Addr) (tk : Tok) (i : Nat) (h : Heap) : SK → Prop
  | .l a => h.IsListIter it a i
  | .t a => h.IsTupleIter it a i
  | .s x => h.IsStrIter it (strIterType x) x tk i
def SK.rel (k : SK) (u : Value) (tk : Tok) : Prop := match k with
  | .l a => u = .ref a
  | .t a => u = .ref a
  | .s x => u = .str x tk
theorem SK.inj {X : Cx} {pins : List (Addr × Obj)} {σ : L2.St} {H : Hp} {s : Shared} (I : Inv X pins σ H s) {k : SK} {xs ys : List V} (a : k.cont X.K H xs) (b : k.cont X.K H ys) : xs = ys := by
  cases k with
  | l _ => exact I.list_inj a b
  | t _ => exact I.tuple_inj a b
  | s _ =>
    have a' : xs = _ := a
    have b' : ys = _ := b
    rw [a', b']
/-- an iterator of a thing: what it draws, while the thing stands -/
theorem SK.draws {X : Cx} {pins : List (Addr × Obj)} {σ : L2.St} {H : Hp} {s : Shared} (I : Inv X pins σ H s) (hc : X.calm = true) {k : SK} {vs : List V} (c : k.cont X.K H vs) {it : Addr} {tk : Tok} {i0 : Nat} (h0 : k.st it tk i0 s.heap) :
    ∃ (fp : List Addr) (P : Nat → Value → Prop) (St : Nat → Heap → Prop), Draws X.prog X.w X.A.in1 it fp vs.length P St ∧ St i0 s.heap ∧ (∀ i h, St i h → k.st it tk i h) ∧ (∀ i u, P i u → ∃ x, vs[i]? = some x ∧ RelV x u) ∧ it ∈ fp ∧
      ∀ b ∈ fp, b ≠ it → (∃ u, H b = some u) ∨ ∃ o, X.base.get? b = some o := by
  have hh : X.A.in1.handled = none := I.ok.hd hc
  cases k with
  | l a =>
    obtain ⟨its, rv, p, hz⟩ := I.list c
    obtain ⟨o, ho, hcl, _⟩ := p.isList
    have h0' : s.heap.IsListIter it a i0 := h0
    have ne : a ≠ it := fun z => by
      obtain ⟨o', ho', hc', _⟩ := h0'
      rw [z, ho'] at ho
      cases ho
      rw [hc'] at hcl
      exact absurd hcl (by decide +kernel)
    have D := Draws.list (prog := X.prog) (w := X.w) hh it a ne its.toArray
    rw [List.size_toArray, ← rv.length] at D
    refine ⟨_, _, _, D, ⟨h0', p.isList⟩, fun i h st => st.1, fun i u hu => ?_, by simp, fun b hb hn => ?_⟩
    · have hu' : its[i]? = some u := by simpa using hu
      have hi : i < vs.length := by
        rw [rv.length]
        exact (List.getElem?_eq_some_iff.mp hu').1
      obtain ⟨u2, h2, r2⟩ := rv.get (List.getElem?_eq_getElem hi)
      rw [hu'] at h2
      cases h2
      exact ⟨_, List.getElem?_eq_getElem hi, r2⟩
    · have : b = a := by
        rcases List.mem_cons.mp hb with z | z
        · exact absurd z hn
        · exact List.mem_singleton.mp z
      subst this
      have c' : SqL X.K H b vs := c
      rcases c' with (q | ⟨_, q⟩) | ⟨o2, _, _, hk, _⟩
      · exact .inl ⟨_, q⟩
      · exact .inl ⟨_, q⟩
      · exact .inr ⟨o2, I.ok.mod.kin b o2 hk⟩
  | t a =>
    obtain ⟨its, rv, p, hz⟩ := I.tuple c
    have pt : s.heap.IsTuple a its.toArray := p
    obtain ⟨o, ho, hcl, _⟩ := id pt
    have h0' : s.heap.IsTupleIter it a i0 := h0
    have ne : a ≠ it := fun z => by
      obtain ⟨o', ho', hc', _⟩ := h0'
      rw [z, ho'] at ho
      cases ho
      rw [hc'] at hcl
      exact absurd hcl (by decide +kernel)
    have D := Draws.tuple (prog := X.prog) (w := X.w) hh it a ne its.toArray
    rw [List.size_toArray, ← rv.length] at D
    refine ⟨_, _, _, D, ⟨h0', pt⟩, fun i h st => st.1, fun i u hu => ?_, by simp, fun b hb hn => ?_⟩
    · have hu' : its[i]? = some u := by simpa using hu
      have hi : i < vs.length := by
        rw [rv.length]
        exact (List.getElem?_eq_some_iff.mp hu').1
      obtain ⟨u2, h2, r2⟩ := rv.get (List.getElem?_eq_getElem hi)
      rw [hu'] at h2
      cases h2
      exact ⟨_, List.getElem?_eq_getElem hi, r2⟩
    · have : b = a := by
        rcases List.mem_cons.mp hb with z | z
        · exact absurd z hn
        · exact List.mem_singleton.mp z
      subst this
      have c' : SqT X.K H b vs := c
      rcases c' with (q | ⟨_, q⟩) | ⟨o2, _, _, hk, _⟩
      · exact .inl ⟨_, q⟩
      · exact .inl ⟨_, q⟩
      · exact .inr ⟨o2, I.ok.mod.kin b o2 hk⟩
  | s x =>
    have c' : vs = _ := c
    subst c'
    have h0' : s.heap.IsStrIter it (strIterType x) x tk i0 := h0
    have D := Draws.text (prog := X.prog) (w := X.w) hh it x tk
    have el : (x.cps.toList.map fun c => V.str ⟨#[c]⟩).length = x.cps.size := by simp
    rw [← el] at D
    refine ⟨_, _, _, D, h0', fun i h st => st, fun i u hu => ?_, by simp, fun b hb hn => ?_⟩
    · obtain ⟨c, t, h1, h2⟩ := hu
      refine ⟨.str ⟨#[c]⟩, ?_, t, h2⟩
      rw [List.getElem?_map, Array.getElem?_toList, h1]
      rfl
    · exact absurd (List.mem_singleton.mp hb) hn
/-- a cell of a walk is none of what is walked -/
theorem fp_out {X : Cx} {pins : List (Addr × Obj)} {σ : L2.St} {H : Hp} {s : Shared} {b : Addr} (I : Inv X pins σ H s) (f : FpOk X pins H b) : ¬ ((∃ u, H b = some u) ∨ ∃ o, X.base.get? b = some o) := fun h => by
  obtain ⟨f0, _, _, f3, _, _⟩ := f
  rcases h with ⟨u, q⟩ | ⟨o, q⟩
  · rw [f0] at q
    cases q
  · rcases f3 with z | z
    · exact I.ok.noex b o q z
    · exact absurd (Nat.lt_of_lt_of_le (Heap.lt_size q) (Nat.le_trans I.ok.bsz z)) (Nat.lt_irrefl _)
theorem SK.begins {X : Cx} {pins : List (Addr × Obj)} {σ : L2.St} {H : Hp} {s : Shared} (I : Inv X pins σ H s) {k : SK} {vs : List V} (c : k.cont X.K H vs) {u : Value} {tk : Tok} (hu : k.rel u tk) :
    ∃ (o : Obj) (Hc : Heap → Prop), Begins u o Hc ∧ Hc s.heap ∧ (∀ h it, h.get? it = some o → k.st it tk 0 h) ∧ o.cls ≠ .type "list" ∧ o.cls ≠ .type "tuple" := by
  cases k with
  | l a =>
    cases (show u = Value.ref a from hu)
    obtain ⟨its, rv, p, hz⟩ := I.list c
    exact ⟨_, _, begins_list a its.toArray, p.isList, fun h it e => ⟨_, e, rfl, rfl⟩, (by show Value.type "list_iterator" ≠ .type "list"; decide +kernel), (by show Value.type "list_iterator" ≠ .type "tuple"; decide +kernel)⟩
  | t a =>
    cases (show u = Value.ref a from hu)
    obtain ⟨its, rv, p, hz⟩ := I.tuple c
    exact ⟨_, _, begins_tuple a its.toArray, p, fun h it e => ⟨_, e, rfl, rfl⟩, (by show Value.type "tuple_iterator" ≠ .type "list"; decide +kernel), (by show Value.type "tuple_iterator" ≠ .type "tuple"; decide +kernel)⟩
  | s x =>
    cases (show u = Value.str x tk from hu)
    refine ⟨_, _, begins_text x tk, trivial, fun h it e => ⟨_, e, rfl, rfl⟩, ?_, ?_⟩
    · show Value.type (strIterType x) ≠ .type "list"
      unfold strIterType
      split <;> decide +kernel
    · show Value.type (strIterType x) ≠ .type "tuple"
      unfold strIterType
      split <;> decide +kernel
def ItE (K : PySem.W.Frag) (k : SK) : It :=
  ⟨fun i H => ∃ (xs : List V) (x : V), k.cont K H xs ∧ xs[i]? = some x, fun i H v H' => ∃ T x, v = .ref T ∧ H T = none ∧ H' = upd H T (.tup [.int (i : Nat), x]) ∧ ∀ xs, k.cont K H xs → xs[i]? = some x, fun i H => ∃ xs : List V, k.cont K H xs ∧ xs.length ≤ i⟩
/-- what both walks do behind next: a new pair stands at T -/
theorem new_pair {X : Cx} {pins : List (Addr × Obj)} {σ : L2.St} {H : Hp} {s : Shared} {T : Addr} {x y : V} {u v : Value} {h' : Heap} {tk : Nat} {ch : List Addr} (I : Inv X pins σ H s) (hT : s.heap.objs.size ≤ T) (k : ∀ b o, b ∉ ch → s.heap.get? b = some o → h'.get? b = some o) (hf : ∀ b ∈ ch, FpOk X pins H b)
    (ht : h'.IsTuple T #[u, v]) (rx : RelV x u) (ry : RelV y v) : Inv X pins σ (upd H T (.tup [x, y])) { s with heap := h', toks := tk } :=
  I.turnedNew (ch := ch) k hf hT ⟨by show 2 ≤ sizeLine; decide, [u, v], .cons rx (.cons ry .nil), ht⟩
theorem enum_end_of {prog : Program} {w : World} {A : Around} {E : Value → Shared → Prop} {s : Shared} {e it : Addr} {i : Int} {old : Value} {Q : Option Value → Shared → Prop} (he : IsEnum s.heap e it i old)
    (hd : ∀ (Q' : Value → Shared → Prop) (E' : Value → Shared → Prop), (∀ h' x, Heap.ExtBut it s.heap h' → (∃ o, h'.get? x = some o ∧ o.cls = .type "StopIteration") → E' (.ref x) { s with heap := h' }) → wpAny (model prog w) A.in1 (Builtin.SmallTypes.nextOf (.ref it)) Q' E' s)
    (hQ : ∀ h', Heap.ExtBut it s.heap h' → Q none { s with heap := h' }) : wpAny (model prog w) A (pyNext (.ref e)) Q E s := by
  have hT : s.TypeIs (.ref e) "enumerate" := ⟨_, he, rfl⟩
  unfold pyNext
  refine wpAny_bind (wpAny_attempt (wpAny_callSpecial?_slot (name := Str.ofString "__next__") hT PySem.F.slot_enumerate_next (wpAny_call_entry PySem.F.slot_enumerate_next hT PySem.F.entry_enumerate_next ?_ (PySem.F.args_enumerate_next_1 _))))
  show wpAny _ _ (field (.ref e) 2 >>= _) _ _ _
  refine wpAny_bind (wpAny_field he rfl (x := .ref it) rfl ?_)
  refine wpAny_bind (hd _ _ fun h' x he' hx' => ?_)
  obtain ⟨o, ho, hc⟩ := hx'
  exact wpAny_bind (wpAny_isInstance (T := "StopIteration") (b := true) ⟨o, ho, hc⟩ isSubtype_stop (wpAny_pure (hQ _ he')))
theorem text_end {prog : Program} {w : World} {A : Around} {s : Shared} {it : Addr} {x : Str} {t : Tok} {i : Nat} (hh : A.handled = none) (hit : s.heap.IsStrIter it (strIterType x) x t i) (hx : x.cps[i]? = none) (Q' : Value → Shared → Prop) (E' : Value → Shared → Prop)
    (hE : ∀ h' x, Heap.ExtBut it s.heap h' → (∃ o, h'.get? x = some o ∧ o.cls = .type "StopIteration") → E' (.ref x) { s with heap := h' }) : wpAny (model prog w) A (Builtin.SmallTypes.nextOf (.ref it)) Q' E' s := by
  cases ha : x.cps.all (· < 128)
  · simp only [strIterType, ha, Bool.false_eq_true, if_false] at hit
    exact wpAny_nextOf_wide_end hh hit hx hE
  · simp only [strIterType, ha, if_true] at hit
    exact wpAny_nextOf_ascii_end hh hit hx hE
theorem turn_enumK {P : Program} {w : World} {K : PySem.W.Frag} {elts : List Expr} {kk : Nat} {tpos : Pos} (k : SK) (tk : Tok) (e it : Addr) (hne : e ≠ it) :
    Turn P w K (.Tuple elts kk tpos) (ItE K k) [e, it] e (fun i h => (∃ old, IsEnum h e it ((i : Nat) : Int) old) ∧ k.st it tk i h) where
  mem := by simp
  obj := fun i h st b hb => by
    obtain ⟨⟨old, he⟩, hi⟩ := st
    rcases List.mem_cons.mp hb with z | z
    · rw [z]
      exact ⟨_, he, fun v q => nomatch q⟩
    · rw [List.mem_singleton.mp z]
      cases k with
      | l a => obtain ⟨o, ho, hc, hd⟩ := hi; exact ⟨o, ho, fun v q => by rw [hd] at q; cases q⟩
      | t a => obtain ⟨o, ho, hc, hd⟩ := hi; exact ⟨o, ho, fun v q => by rw [hd] at q; cases q⟩
      | s a => obtain ⟨o, ho, hc, hd⟩ := hi; exact ⟨o, ho, fun v q => by rw [hd] at q; cases q⟩
  keep := fun i h h' st kp => by
    obtain ⟨⟨old, he⟩, hi⟩ := st
    refine ⟨⟨old, kp e (by simp) _ he⟩, ?_⟩
    cases k with
    | l a => obtain ⟨o, ho, r⟩ := hi; exact ⟨o, kp it (by simp) o ho, r⟩
    | t a => obtain ⟨o, ho, r⟩ := hi; exact ⟨o, kp it (by simp) o ho, r⟩
    | s a => obtain ⟨o, ho, r⟩ := hi; exact ⟨o, kp it (by simp) o ho, r⟩
  item := by
    intro X hP hw hK hc i pins s σ H E I hf st hg
    subst hP hw hK
    obtain ⟨⟨old, he⟩, hit⟩ := st
    obtain ⟨xs, x, hq, hx⟩ := hg
    obtain ⟨fp, Pp, St, D, st0, back, val, mem, oth⟩ := SK.draws I hc hq hit
    have hef : e ∉ fp := fun z => fp_out I (hf e (by simp)) (oth e z hne)
    have hi : i < xs.length := (List.getElem?_eq_some_iff.mp hx).1
    have W := WalksT.enumFrom (A := X.A) 0 D e hne hef mem
    have he0 : IsEnum s.heap e it (0 + (i : Int)) old := by rw [Int.zero_add]; exact he
    refine W.item i s _ _ hi ⟨⟨old, he0⟩, st0⟩ fun T vals h' tk' hP hnew hT hm hk => ⟨_, rfl, ?_⟩
    refine W.go elts kk tpos i T { s with heap := h', toks := tk' } _ _ hm fun h'' st'' hk' => ?_
    obtain ⟨t, u, hPu, ev⟩ := hP
    subst ev
    obtain ⟨x', hx', rx⟩ := val i u hPu
    rw [hx] at hx'
    cases hx'
    have hT2 : h''.IsTuple T #[.int (0 + (i : Int)) t, u] := hT.at fun o q => hk' T o (W.apart i T h' hm) q
    obtain ⟨⟨old2, he2⟩, st2⟩ := st''
    have k2 : ∀ b o, b ∉ [e, it] → s.heap.get? b = some o → h''.get? b = some o := fun b o hb q => hk' b o hb (hk b o hb q)
    have I1 := new_pair (tk := tk') (x := .int (i : Nat)) (y := x) I hnew k2 hf hT2 ⟨t, by rw [Int.zero_add]⟩ rx
    refine ⟨.ref T, _, I1, rfl, ⟨T, x, rfl, I.hok.fresh hnew, rfl, fun ys hy => by rw [SK.inj I hy hq]; exact hx⟩, ⟨⟨old2, by rw [Int.zero_add] at he2; exact he2⟩, back _ _ st2⟩, fun b hb => ?_⟩
    have hlt : b < s.heap.objs.size := by
      rcases List.mem_cons.mp hb with z | z
      · rw [z]
        exact Heap.lt_size he
      · rw [List.mem_singleton.mp z]
        obtain ⟨_, q⟩ := D.live _ _ st0
        exact Heap.lt_size q
    rw [upd_ne (Nat.ne_of_lt (Nat.lt_of_lt_of_le hlt hnew))]
    exact (hf b hb).1
  done := by
    intro X hP hw hK hc i pins s σ H E I hf st hg
    subst hP hw hK
    obtain ⟨⟨old, he⟩, hit⟩ := st
    obtain ⟨xs, hq, hx⟩ := hg
    have hit0 := hit
    -- the iterator stands behind the last one or further: the draws begin there
    obtain ⟨f0, f1, f2, f3, f4, f5⟩ := hf it (by simp)
    have fin : ∀ h', Heap.ExtBut it s.heap h' → (none : Option Value) = none ∧ Inv X pins σ H { s with heap := h' } := fun h' eb => ⟨rfl, I.turned (t' := s.toks) (fun b o hb q => eb b o hb q) f0 f1 f3 f4 f5⟩
    cases k with
    | l a =>
      obtain ⟨its, rv, p, hz⟩ := I.list hq
      have hl := rv.length
      exact wpAny_pyNext_enum_end (I.ok.hd hc) he hit p.isList (by simp; omega) fun h' eb => fin h' eb
    | t a =>
      obtain ⟨its, rv, p, hz⟩ := I.tuple hq
      have hl := rv.length
      exact enum_end_of he (fun Q' E' hE => wpAny_nextOf_tuple_end (show X.A.in1.handled = none from I.ok.hd hc) hit p (by simp; omega) hE) fun h' eb => fin h' eb
    | s z =>
      have hq' : xs = _ := hq
      subst hq'
      have hn : z.cps[i]? = none := by
        rw [Array.getElem?_eq_none_iff]
        simpa using hx
      exact enum_end_of he (text_end (show X.A.in1.handled = none from I.ok.hd hc) hit hn) fun h' eb => fin h' eb
  self := fun A i s Q E st h => let ⟨⟨_, he⟩, _⟩ := st; wpAny_pyIter_enum he h
/-- the kind of a thing that is walked -/
theorem kind_of {K : PySem.W.Frag} {A r : List Addr} {H : Hp} {v : V} {d : D} {src : Src} {u : Value} (l : Rl K A r H v d) (h : srcOf d = some src) (rv : RelV v u) :
    ∃ (k : SK) (tk : Tok), k.rel u tk ∧ ∀ A', (A' = A ∨ ∃ p, H p = none ∧ A' = p :: A) → ∀ r2 H2 S2, Evo r H r2 H2 → SR K A' r2 H2 S2 → ∀ ds, src S2 = some ds → ∃ vs, k.cont K H2 vs ∧ RlL K A' r2 H2 vs ds := by
  cases l with
  | tup a b =>
    cases h
    cases rv
    rename_i ad _ _
    refine ⟨.t ad, 0, rfl, fun A' hA r2 H2 S2 o s ds e => ?_⟩
    cases e
    have l2 := (more_av hA (.tup a b)).mono o
    cases l2 with
    | tup h t => exact ⟨_, h.sq, t⟩
  | ktp a b =>
    cases h
    cases rv
    rename_i ad _ _
    refine ⟨.t ad, 0, rfl, fun A' hA r2 H2 S2 o s ds e => ?_⟩
    cases e
    have l2 := (more_av hA (.ktp a b)).mono o
    cases l2 with
    | ktp h t => exact ⟨_, h.sq, t⟩
  | lst z1 z2 a b =>
    cases h
    cases rv
    rename_i ad _ _
    refine ⟨.l ad, 0, rfl, fun A' hA r2 H2 S2 o s ds e => ?_⟩
    cases e
    have l2 := (more_av hA (.lst z1 z2 a b)).mono o
    cases l2 with
    | lst _ _ h t => exact ⟨_, .of h, t⟩
  | scr a b =>
    cases h
    cases rv
    rename_i ad _ _
    refine ⟨.l ad, 0, rfl, fun A' hA r2 H2 S2 o s ds e => ?_⟩
    cases e
    have l2 := (more_av hA (.scr a b)).mono o
    cases l2 with
    | scr h t => exact ⟨_, h.sq, t⟩
  | ref a =>
    cases h
    cases rv
    rename_i ad l
    refine ⟨.l ad, 0, rfl, fun A' hA r2 H2 S2 o s ds e => ?_⟩
    unfold refSrc at e
    split at e
    · rename_i ds' hds
      cases e
      obtain ⟨vs, h, t⟩ := s.obj _ _ _ (o.get a) hds
      exact ⟨vs, .of h, t⟩
    · cases e
  | str x =>
    cases h
    obtain ⟨tk, rfl⟩ := rv
    refine ⟨.s x, tk, rfl, fun A' hA r2 H2 S2 o s ds e => ?_⟩
    cases e
    refine ⟨_, rfl, ?_⟩
    unfold chars
    generalize x.cps.toList = cs
    induction cs with
    | nil => exact .nil
    | cons c cs ih => exact .cons (.str _) ih
  | _ => cases h
def enD (ds : List D) : List D := ds.mapIdx fun i d => .tup [.int (i : Nat), d]
def enSrc (src : Src) : Src := fun S => (src S).map enD
def iEn (f : Ev) : Iv := fun e S => match f e S with
  | some (d, S1) => match srcOf d with
    | some src => match src S1 with
      | some _ => some (enSrc src, S1)
      | none => none
    | none => none
  | none => none
theorem pair_rl {K : PySem.W.Frag} {A r : List Addr} {H : Hp} {S : Sto} {T : Addr} {x y : V} {d e : D} (s : SR K A r H S) (hT : H T = none) (lx : Rl K A r H x d) (ly : Rl K A r H y e) : Evo r H r (upd H T (.tup [x, y])) ∧ SR K A r (upd H T (.tup [x, y])) S ∧ Rl K A r (upd H T (.tup [x, y])) (.ref T) (.tup [d, e]) :=
  ⟨.fresh hT, s.fresh hT, .tup ⟨s.notin hT, s.notav hT, upd_same⟩ (.cons (lx.mono (.fresh hT)) (.cons (ly.mono (.fresh hT)) .nil))⟩
theorem jok_en {K : PySem.W.Frag} {A r : List Addr} {H : Hp} {k : SK} {src : Src} (h : ∀ A', (A' = A ∨ ∃ p, H p = none ∧ A' = p :: A) → ∀ r2 H2 S2, Evo r H r2 H2 → SR K A' r2 H2 S2 → ∀ ds, src S2 = some ds → ∃ vs, k.cont K H2 vs ∧ RlL K A' r2 H2 vs ds) : JOk K A r H (ItE K k) (enSrc src) := fun A' hA r2 H2 S i o s ds e => by
  unfold enSrc at e
  cases q : src S with
  | none =>
    rw [q] at e
    cases e
  | some es =>
    rw [q] at e
    cases e
    obtain ⟨vs, hc, t⟩ := h A' hA r2 H2 S o s es q
    refine ⟨fun d hd => ?_, fun hi => ⟨vs, hc, by unfold enD at hi; rw [List.length_mapIdx] at hi; rw [t.length, hi]; exact Nat.le_refl _⟩⟩
    unfold enD at hd
    rw [List.getElem?_mapIdx] at hd
    cases q2 : es[i]? with
    | none =>
      rw [q2] at hd
      cases hd
    | some d' =>
      rw [q2] at hd
      cases hd
      obtain ⟨v, hv, lv⟩ := t.get q2
      refine ⟨⟨vs, v, hc, hv⟩, fun x H' y => ?_⟩
      obtain ⟨T, z, rfl, hT, rfl, hz⟩ := y
      have : z = v := Option.some.inj ((hz vs hc).symm.trans hv)
      subst this
      exact pair_rl s hT (.int _) lv
set_option maxHeartbeats 1000000 in
theorem meets_enum1 {v : Value} {o : Obj} {Hc : Heap → Prop} (B : Begins v o Hc) :
    Meets (Builtin.«enumerate.__new__» ⟨[.type "enumerate", v], []⟩) (fun _ R s => Hc s.heap ∧
      R (.ok (.ret (.ref (s.heap.push o).objs.size))) { s with heap := (s.heap.push o).push { cls := .type "enumerate", data := .fields #[.none, .bool false, .ref s.heap.objs.size, rawInt 0, .none, .none] } }) :=
  .of_wp fun prog w A R s h => by
    obtain ⟨hp, g, d, tk, os⟩ := s
    obtain ⟨h1, h⟩ := h
    have hsub := sub_enumerate
    have q1 : ∀ {A' : Around} {E : Value → Shared → Prop} {Q : Value → Shared → Prop}, Q (.ref hp.objs.size) ⟨hp.push o, g, d, tk, os⟩ → wpAny (model prog w) A' (pyIter v) Q E ⟨hp, g, d, tk, os⟩ := fun q => B.iter prog w _ _ ⟨hp, g, d, tk, os⟩ _ h1 q
    wp_walk using q1
    refine wpAny_stack_any fun st => wpAny_pure ?_
    split
    · rename_i c _ _ _ _ _
      cases (c == Value.type "enumerate")
      · wp_walk using q1
        exact ⟨_, rfl, h⟩
      · wp_walk using q1
        exact ⟨_, rfl, h⟩
    · wp_walk using q1
      exact ⟨_, rfl, h⟩
theorem enum_begins1 {prog : Program} {w : World} {A : Around} {E : Value → Shared → Prop} {s : Shared} {v : Value} {o : Obj} {Hc : Heap → Prop} {Q : Value → Shared → Prop} (B : Begins v o Hc) (h1 : Hc s.heap)
    (h : ∀ h', IsEnum h' (s.heap.objs.size + 1) s.heap.objs.size 0 .none → h'.get? s.heap.objs.size = some o → (∀ b o, s.heap.get? b = some o → h'.get? b = some o) → Q (.ref (s.heap.objs.size + 1)) { s with heap := h' }) :
    wpAny (model prog w) A (call (.type "enumerate") [v]) Q E s := by
  refine callType_new PySem.F.called_enumerate (by decide) (PySem.F.typeCall_enumerate_1 _) (PySem.F.newCall_enumerate_1 _) (fun obj => PySem.F.args_object_init_2 obj _) PySem.F.entry_enumerate_new (meets_enum1 B) ⟨h1, ?_⟩
  have hz : (s.heap.push o).objs.size = s.heap.objs.size + 1 := Heap.size_push ..
  show _ ∧ _
  rw [hz]
  have he : IsEnum ((s.heap.push o).push { cls := .type "enumerate", data := .fields #[.none, .bool false, .ref s.heap.objs.size, rawInt 0, .none, .none] }) (s.heap.objs.size + 1) s.heap.objs.size 0 .none := by
    have := Heap.get?_push_size (s.heap.push o) (o := { cls := .type "enumerate", data := .fields #[.none, .bool false, .ref s.heap.objs.size, rawInt 0, .none, .none] }) rfl
    rw [hz] at this
    exact this
  exact ⟨⟨_, he, rfl⟩, h _ he (Heap.get?_push_of_some _ (Heap.get?_push_size _ B.free)) fun b o x => Heap.get?_push_of_some _ (Heap.get?_push_of_some _ x)⟩
theorem w_enum {X : Cx} {K : PySem.W.Frag} {e : Expr} {f : Ev} {p pos tpos : Pos} {elts : List Expr} {kk : Nat} (hK : X.K = K) (hg : Gl X "enumerate") (hm : X.mg "enumerate" = none) (he : PE X e (rdE K f)) (hs : starEach [e] X.env = [(false, eval e X.env)] := by rfl) :
    PI X (.Tuple elts kk tpos) (.Call (.Name "enumerate" p) [e] [] pos) (rdI K (iEn f)) := by
  subst hK
  refine ⟨fun pins s σ H R I h => ?_⟩
  obtain ⟨A, r, S, e', src, S', sr, re, ef, q⟩ := h
  unfold iEn at ef
  split at ef
  · rename_i d S1 h1
    split at ef
    · rename_i src' h2
      split at ef
      · rename_i ds h3
        cases ef
        refine Call_ (ld_blt I hg hm boot_enumerate (PyProof.Rows.callWith_type1 (thn ((l_cons he l_nil (by rw [hs]; rfl)).run pos pins s σ H (fun vs H1 => ∃ v r1, vs = [v] ∧ Evo r H r1 H1 ∧ SR X.K A r1 H1 S' ∧ Rl X.K A r1 H1 v d) I ?_) fun us s1 ⟨vs, H1, I1, rv, v, r1, ev, o1, sr1, l1⟩ => ?_) hs rfl))
        · refine ⟨A, r, S, e', [d], S', sr, re, by simp only [aCons, h1, aNil], fun vs r1 H1 o1 s1 l1 => ?_⟩
          cases l1 with
          | cons l t =>
            cases t
            exact ⟨_, r1, rfl, o1, s1, l⟩
        · subst ev
          obtain ⟨u, rfl, ru⟩ := vals1 rv
          obtain ⟨k, tk, hk, hall⟩ := kind_of l1 h2 ru
          obtain ⟨vs0, hc0, _⟩ := hall A (.inl rfl) r1 H1 S' .refl sr1 ds h3
          obtain ⟨ob, Hc, B, hH, hst, n1, n2⟩ := SK.begins I1 hc0 hk
          refine enum_begins1 B hH fun h' hE hI hkp => wpAny_pyIter_enum hE ?_
          have I2 : Inv X pins σ H1 { s1 with heap := h' } := I1.kept (t' := s1.toks) hkp
          refine ⟨s1.heap.objs.size + 1, [s1.heap.objs.size + 1, s1.heap.objs.size], _, _, H1, rfl, I2, turn_enumK k tk (s1.heap.objs.size + 1) s1.heap.objs.size (Nat.succ_ne_self _), ⟨⟨.none, hE⟩, hst h' _ hI⟩, fun b hb => ?_, q _ r1 H1 o1 sr1 (jok_en hall)⟩
          have hle : s1.heap.objs.size ≤ b := by
            rcases List.mem_cons.mp hb with z | z
            · rw [z]
              exact Nat.le_succ _
            · rw [List.mem_singleton.mp z]
              exact Nat.le_refl _
          exact I1.fpOk hle (I1.hok.fresh hle)
      · cases ef
    · cases ef
  · cases ef
/-! ### zip -/
def ItZ (K : PySem.W.Frag) (k1 k2 : SK) : It :=
  ⟨fun i H => ∃ (xs ys : List V) (x y : V), k1.cont K H xs ∧ k2.cont K H ys ∧ xs[i]? = some x ∧ ys[i]? = some y,
    fun i H v H' => ∃ T x y, v = .ref T ∧ H T = none ∧ H' = upd H T (.tup [x, y]) ∧ (∀ xs, k1.cont K H xs → xs[i]? = some x) ∧ ∀ ys, k2.cont K H ys → ys[i]? = some y,
    fun i H => ∃ xs ys : List V, k1.cont K H xs ∧ k2.cont K H ys ∧ i ≤ xs.length ∧ i ≤ ys.length ∧ (i = xs.length ∨ i = ys.length)⟩
theorem SK.keepSt {k : SK} {it : Addr} {tk : Tok} {i : Nat} {h h' : Heap} (kp : ∀ o, h.get? it = some o → h'.get? it = some o) (st : k.st it tk i h) : k.st it tk i h' := by
  cases k with
  | l a => obtain ⟨o, ho, r⟩ := st; exact ⟨o, kp o ho, r⟩
  | t a => obtain ⟨o, ho, r⟩ := st; exact ⟨o, kp o ho, r⟩
  | s a => obtain ⟨o, ho, r⟩ := st; exact ⟨o, kp o ho, r⟩
theorem SK.objSt {k : SK} {it : Addr} {tk : Tok} {i : Nat} {h : Heap} (st : k.st it tk i h) : ∃ o vs, h.get? it = some o ∧ o.data = .fields vs ∧ o.cls ≠ .type "list" ∧ o.cls ≠ .type "tuple" := by
  cases k with
  | l a => obtain ⟨o, ho, hc, hd⟩ := st; exact ⟨o, _, ho, hd, by rw [hc]; decide +kernel, by rw [hc]; decide +kernel⟩
  | t a => obtain ⟨o, ho, hc, hd⟩ := st; exact ⟨o, _, ho, hd, by rw [hc]; decide +kernel, by rw [hc]; decide +kernel⟩
  | s a =>
    obtain ⟨o, ho, hc, hd⟩ := st
    refine ⟨o, _, ho, hd, ?_, ?_⟩
    · rw [hc]
      unfold strIterType
      split <;> decide +kernel
    · rw [hc]
      unfold strIterType
      split <;> decide +kernel
theorem turn_zipK {P : Program} {w : World} {K : PySem.W.Frag} {elts : List Expr} {kk : Nat} {tpos : Pos} (k1 k2 : SK) (t1 t2 : Tok) (z TI TO i1 i2 : Addr) (n1 : TI ≠ z) (n2 : TO ≠ z) (n3 : TI ≠ TO) (n4 : TI ≠ i1) (n5 : TI ≠ i2) (n6 : z ≠ i1) (n7 : z ≠ i2) (n8 : TO ≠ i1) (n9 : TO ≠ i2) (n10 : i1 ≠ i2) :
    Turn P w K (.Tuple elts kk tpos) (ItZ K k1 k2) [z, TI, TO, i1, i2] z (fun i h => IsZip h z TI TO .none ∧ IsTupOf2 h TI (.ref i1) (.ref i2) ∧ (∃ a1 a2, IsTupOf2 h TO a1 a2) ∧ k1.st i1 t1 i h ∧ k2.st i2 t2 i h) where
  mem := by simp
  obj := fun i h st b hb => by
    obtain ⟨hz, hTI, ⟨a1, a2, hTO⟩, s1, s2⟩ := st
    have e : b = z ∨ b = TI ∨ b = TO ∨ b = i1 ∨ b = i2 := by simpa using hb
    rcases e with q | q | q | q | q
    · rw [q]; exact ⟨_, hz, fun v q => nomatch q⟩
    · rw [q]; exact ⟨_, hTI, fun v q => nomatch q⟩
    · rw [q]; exact ⟨_, hTO, fun v q => nomatch q⟩
    · rw [q]
      obtain ⟨o, vs, ho, hd, _⟩ := SK.objSt s1
      exact ⟨o, ho, fun v q => by rw [hd] at q; cases q⟩
    · rw [q]
      obtain ⟨o, vs, ho, hd, _⟩ := SK.objSt s2
      exact ⟨o, ho, fun v q => by rw [hd] at q; cases q⟩
  keep := fun i h h' st kp => by
    obtain ⟨hz, hTI, ⟨a1, a2, hTO⟩, s1, s2⟩ := st
    exact ⟨kp z (by simp) _ hz, kp TI (by simp) _ hTI, ⟨a1, a2, kp TO (by simp) _ hTO⟩, SK.keepSt (fun o e => kp i1 (by simp) o e) s1, SK.keepSt (fun o e => kp i2 (by simp) o e) s2⟩
  item := by
    intro X hP hw hK hc i pins s σ H E I hf st hg
    subst hP hw hK
    obtain ⟨hz, hTI, ⟨a1, a2, hTO⟩, st1, st2⟩ := st
    obtain ⟨xs, ys, x, y, hqx, hqy, hx, hy⟩ := hg
    obtain ⟨fp1, P1, St1, D1, s01, b1, v1, m1, oth1⟩ := SK.draws I hc hqx st1
    obtain ⟨fp2, P2, St2, D2, s02, b2, v2, m2, oth2⟩ := SK.draws I hc hqy st2
    have hl1 : i < xs.length := (List.getElem?_eq_some_iff.mp hx).1
    have hl2 : i < ys.length := (List.getElem?_eq_some_iff.mp hy).1
    have own : ∀ (b it : Addr) (fp : List Addr), b ∈ [z, TI, TO, i1, i2] → (∀ b ∈ fp, b ≠ it → (∃ u, H b = some u) ∨ ∃ o, X.base.get? b = some o) → b ≠ it → b ∉ fp := fun b it fp hb oth ne m => fp_out I (hf b hb) (oth b m ne)
    have sep : ZipSep2 z TI TO i1 i2 fp1 fp2 :=
      { TIz := n1, TOz := n2, TITO := n3, TIi1 := n4, mem1 := m1, zf1 := own z i1 fp1 (by simp) oth1 n6, Tf1 := own TO i1 fp1 (by simp) oth1 n8, TIi2 := n5, mem2 := m2, zf2 := own z i2 fp2 (by simp) oth2 n7, Tf2 := own TO i2 fp2 (by simp) oth2 n9,
        sep1_2 := own i1 i2 fp2 (by simp) oth2 n10, sep2_1 := own i2 i1 fp1 (by simp) oth1 (Ne.symm n10) }
    have W := WalksT.zipD2 (A := X.A) sep D1 D2
    refine W.item i s _ _ (by omega) ⟨hz, hTI, ⟨a1, a2, hTO⟩, s01, s02⟩ fun T vals h' tk' hP hnew hT hm hk => ⟨_, rfl, ?_⟩
    refine W.go elts kk tpos i T { s with heap := h', toks := tk' } _ _ hm fun h'' st'' hk' => ?_
    obtain ⟨u1, u2, hP1, hP2, ev⟩ := hP
    subst ev
    obtain ⟨x', hx', rx⟩ := v1 i u1 hP1
    obtain ⟨y', hy', ry⟩ := v2 i u2 hP2
    rw [hx] at hx'
    rw [hy] at hy'
    cases hx'
    cases hy'
    have hT2 : h''.IsTuple T #[u1, u2] := hT.at fun o q => hk' T o (W.apart i T h' hm) q
    obtain ⟨c1, c2, ⟨c3, c4, c5⟩, c6, c7⟩ := st''
    have k2 : ∀ b o, b ∉ [z, TO, i1, i2] → s.heap.get? b = some o → h''.get? b = some o := fun b o hb q => hk' b o hb (hk b o hb q)
    have I1 := new_pair (tk := tk') (x := x) (y := y) I hnew k2 (fun b hb => hf b (by
      have e : b = z ∨ b = TO ∨ b = i1 ∨ b = i2 := by simpa using hb
      rcases e with q | q | q | q <;> simp [q])) hT2 rx ry
    refine ⟨.ref T, _, I1, rfl, ⟨T, x, y, rfl, I.hok.fresh hnew, rfl, fun zs hz' => by rw [SK.inj I hz' hqx]; exact hx, fun zs hz' => by rw [SK.inj I hz' hqy]; exact hy⟩, ⟨c1, c2, ⟨c3, c4, c5⟩, b1 _ _ c6, b2 _ _ c7⟩, fun b hb => ?_⟩
    have hlt : b < s.heap.objs.size := by
      have e : b = z ∨ b = TI ∨ b = TO ∨ b = i1 ∨ b = i2 := by simpa using hb
      rcases e with q | q | q | q | q
      · rw [q]; exact Heap.lt_size hz
      · rw [q]; exact Heap.lt_size hTI
      · rw [q]; exact Heap.lt_size hTO
      · rw [q]
        obtain ⟨o, _, ho, _⟩ := SK.objSt st1
        exact Heap.lt_size ho
      · rw [q]
        obtain ⟨o, _, ho, _⟩ := SK.objSt st2
        exact Heap.lt_size ho
    rw [upd_ne (Nat.ne_of_lt (Nat.lt_of_lt_of_le hlt hnew))]
    exact (hf b hb).1
  done := by
    intro X hP hw hK hc i pins s σ H E I hf st hg
    subst hP hw hK
    obtain ⟨hz, hTI, ⟨a1, a2, hTO⟩, st1, st2⟩ := st
    obtain ⟨xs, ys, hqx, hqy, hi1, hi2, hend⟩ := hg
    obtain ⟨fp1, P1, St1, D1, s01, b1, v1, m1, oth1⟩ := SK.draws I hc hqx st1
    obtain ⟨fp2, P2, St2, D2, s02, b2, v2, m2, oth2⟩ := SK.draws I hc hqy st2
    have own : ∀ (b it : Addr) (fp : List Addr), b ∈ [z, TI, TO, i1, i2] → (∀ b ∈ fp, b ≠ it → (∃ u, H b = some u) ∨ ∃ o, X.base.get? b = some o) → b ≠ it → b ∉ fp := fun b it fp hb oth ne m => fp_out I (hf b hb) (oth b m ne)
    have sep : ZipSep2 z TI TO i1 i2 fp1 fp2 :=
      { TIz := n1, TOz := n2, TITO := n3, TIi1 := n4, mem1 := m1, zf1 := own z i1 fp1 (by simp) oth1 n6, Tf1 := own TO i1 fp1 (by simp) oth1 n8, TIi2 := n5, mem2 := m2, zf2 := own z i2 fp2 (by simp) oth2 n7, Tf2 := own TO i2 fp2 (by simp) oth2 n9,
        sep1_2 := own i1 i2 fp2 (by simp) oth2 n10, sep2_1 := own i2 i1 fp1 (by simp) oth1 (Ne.symm n10) }
    refine wpAny_pyNext_zipD2_end (A := X.A) sep D1 D2 hz hTI hTO s01 s02 hi1 hi2 hend fun h' tk hk => ⟨rfl, ?_⟩
    exact I.turnedL (ch := [z, TO, i1, i2]) (fun b o hb q => hk b o (fun e => hb (by simp [e])) (fun e => hb (by simp [e])) (fun e => hb (by simp [e])) (fun e => hb (by simp [e])) q) fun b hb => hf b (by
      have e : b = z ∨ b = TO ∨ b = i1 ∨ b = i2 := by simpa using hb
      rcases e with q | q | q | q <;> simp [q])
  self := fun A i s Q E st h => let ⟨hz, _⟩ := st; wpAny_pyIter_zip hz h
def zpD (xs ys : List D) : List D := (xs.zip ys).map fun p => .tup [p.1, p.2]
def zpSrc (a b : Src) : Src := fun S => match a S, b S with
  | some xs, some ys => some (zpD xs ys)
  | _, _ => none
def iZp (f g : Ev) : Iv := fun e S => match f e S with
  | some (d, S1) => match g e S1 with
    | some (d2, S2) => match srcOf d, srcOf d2 with
      | some a, some b => match a S2, b S2 with
        | some _, some _ => some (zpSrc a b, S2)
        | _, _ => none
      | _, _ => none
    | none => none
  | none => none
theorem jok_zp {K : PySem.W.Frag} {A r : List Addr} {H : Hp} {k1 k2 : SK} {a b : Src} (h1 : ∀ A', (A' = A ∨ ∃ p, H p = none ∧ A' = p :: A) → ∀ r2 H2 S2, Evo r H r2 H2 → SR K A' r2 H2 S2 → ∀ ds, a S2 = some ds → ∃ vs, k1.cont K H2 vs ∧ RlL K A' r2 H2 vs ds)
    (h2 : ∀ A', (A' = A ∨ ∃ p, H p = none ∧ A' = p :: A) → ∀ r2 H2 S2, Evo r H r2 H2 → SR K A' r2 H2 S2 → ∀ ds, b S2 = some ds → ∃ vs, k2.cont K H2 vs ∧ RlL K A' r2 H2 vs ds) : JOk K A r H (ItZ K k1 k2) (zpSrc a b) := fun A' hA r2 H2 S i o s ds e => by
  unfold zpSrc at e
  split at e
  · rename_i xs ys qa qb
    cases e
    obtain ⟨vs, hc, t⟩ := h1 A' hA r2 H2 S o s xs qa
    obtain ⟨ws, hd, u⟩ := h2 A' hA r2 H2 S o s ys qb
    refine ⟨fun d hdd => ?_, fun hi => ⟨vs, ws, hc, hd, ?_⟩⟩
    · unfold zpD at hdd
      rw [List.getElem?_map] at hdd
      cases q2 : (xs.zip ys)[i]? with
      | none =>
        rw [q2] at hdd
        cases hdd
      | some p =>
        rw [q2] at hdd
        cases hdd
        obtain ⟨z1, z2⟩ := List.getElem?_zip_eq_some.mp q2
        obtain ⟨v, hv, lv⟩ := t.get z1
        obtain ⟨w, hw, lw⟩ := u.get z2
        refine ⟨⟨vs, ws, v, w, hc, hd, hv, hw⟩, fun x H' y => ?_⟩
        obtain ⟨T, v', w', rfl, hT, rfl, hz, hz'⟩ := y
        have e1 : v' = v := Option.some.inj ((hz vs hc).symm.trans hv)
        have e2 : w' = w := Option.some.inj ((hz' ws hd).symm.trans hw)
        subst e1 e2
        exact pair_rl s hT lv lw
    · unfold zpD at hi
      rw [List.length_map, List.length_zip] at hi
      rw [t.length, u.length]
      omega
  · cases e
theorem w_zip {X : Cx} {K : PySem.W.Frag} {e e2 : Expr} {f g : Ev} {p pos tpos : Pos} {elts : List Expr} {kk : Nat} (hK : X.K = K) (hg : Gl X "zip") (hm : X.mg "zip" = none) (he : PE X e (rdE K f)) (he2 : PE X e2 (rdE K g))
    (hs : starEach [e, e2] X.env = (false, eval e X.env) :: starEach [e2] X.env := by rfl) (hs2 : starEach [e2] X.env = (false, eval e2 X.env) :: starEach [] X.env := by rfl) (hpl : (backTo pos (starEach [e2] X.env)).any (·.1) = false := by rfl) :
    PI X (.Tuple elts kk tpos) (.Call (.Name "zip" p) [e, e2] [] pos) (rdI K (iZp f g)) := by
  subst hK
  refine ⟨fun pins s σ H R I h => ?_⟩
  obtain ⟨A, r, S, e', src, S', sr, re, ef, q⟩ := h
  unfold iZp at ef
  split at ef
  · rename_i d S1 h1
    split at ef
    · rename_i d2 S2 h2
      split at ef
      · rename_i a b ha hb
        split at ef
        · rename_i ds1 ds2 hda hdb
          cases ef
          refine Call_ (ld_blt I hg hm PyProof.Rows.boot_zip (PyProof.Rows.callWith_type1 (thn ((l_cons he (l_cons he2 l_nil hs2) hs).run pos pins s σ H (fun vs H1 => ∃ v v2 r1, vs = [v, v2] ∧ Evo r H r1 H1 ∧ SR X.K A r1 H1 S' ∧ Rl X.K A r1 H1 v d ∧ Rl X.K A r1 H1 v2 d2) I ?_) fun us s1 ⟨vs, H1, I1, rv, v, v2, r1, ev, o1, sr1, l1, l2⟩ => ?_) hs hpl))
          · refine ⟨A, r, S, e', [d, d2], S', sr, re, by simp only [aCons, h1, h2, aNil], fun vs r1 H1 o1 s1 l1 => ?_⟩
            cases l1 with
            | cons l t =>
              cases t with
              | cons l' t =>
                cases t
                exact ⟨_, _, r1, rfl, o1, s1, l, l'⟩
          · subst ev
            obtain ⟨u, u2, rfl, ru, ru2⟩ := vals2 rv
            obtain ⟨k1, t1, hk1, all1⟩ := kind_of l1 ha ru
            obtain ⟨k2, t2, hk2, all2⟩ := kind_of l2 hb ru2
            obtain ⟨vs1, hc1, _⟩ := all1 A (.inl rfl) r1 H1 S' .refl sr1 ds1 hda
            obtain ⟨vs2, hc2, _⟩ := all2 A (.inl rfl) r1 H1 S' .refl sr1 ds2 hdb
            obtain ⟨ob1, Hc1, B1, hH1, hst1, _⟩ := SK.begins I1 hc1 hk1
            obtain ⟨ob2, Hc2, B2, hH2, hst2, _⟩ := SK.begins I1 hc2 hk2
            refine zip_begins2 B1 B2 hH1 hH2 fun h' hz hTI hTO g1 g2 hsz hkp => wpAny_pyIter_zip hz ?_
            have I2 : Inv X pins σ H1 { s1 with heap := h' } := I1.kept (t' := s1.toks) hkp
            have ne : ∀ (i j : Nat), i ≠ j → (s1.heap.objs.size + i : Nat) ≠ s1.heap.objs.size + j := fun i j h z => h (Nat.add_left_cancel z)
            refine ⟨s1.heap.objs.size + 4, [s1.heap.objs.size + 4, s1.heap.objs.size + 2, s1.heap.objs.size + 3, s1.heap.objs.size + 0, s1.heap.objs.size + 1], _, _, H1, rfl, I2,
              turn_zipK k1 k2 t1 t2 (s1.heap.objs.size + 4) (s1.heap.objs.size + 2) (s1.heap.objs.size + 3) (s1.heap.objs.size + 0) (s1.heap.objs.size + 1) (ne _ _ (by decide)) (ne _ _ (by decide)) (ne _ _ (by decide)) (ne _ _ (by decide)) (ne _ _ (by decide)) (ne _ _ (by decide)) (ne _ _ (by decide)) (ne _ _ (by decide)) (ne _ _ (by decide)) (ne _ _ (by decide)),
              ⟨hz, hTI, ⟨_, _, hTO⟩, hst1 h' _ g1, hst2 h' _ g2⟩, fun b hb => ?_, q _ r1 H1 o1 sr1 (jok_zp all1 all2)⟩
            have hle : s1.heap.objs.size ≤ b := by
              have e : b = s1.heap.objs.size + 4 ∨ b = s1.heap.objs.size + 2 ∨ b = s1.heap.objs.size + 3 ∨ b = s1.heap.objs.size + 0 ∨ b = s1.heap.objs.size + 1 := by simpa using hb
              rcases e with q | q | q | q | q <;> (rw [q]; exact Nat.le_add_right _ _)
            exact I1.fpOk hle (I1.hok.fresh hle)
        · cases ef
      · cases ef
    · cases ef
  · cases ef
end Tr
namespace Tr
open PySem PySem.Spec PyProof.Rows L2

/-! ### slices -/
abbrev Ov := Env → Sto → Option (Option Int × Sto)
def oNo : Ov := fun _ S => some (none, S)
def oSo (f : Ev) : Ov := fun e S => match f e S with
  | some (.int i, S1) => some (some i, S1)
  | _ => none
def rdO (K : PySem.W.Frag) (f : Ov) : TO := fun σ H Q => ∃ A r S e o S', SR K A r H S ∧ RE K A r H σ e ∧ f e S = some (o, S') ∧ ∀ r' H', Evo r H r' H' → SR K A r' H' S' → Q o H'
theorem _root_.L2.PO.imp {X : Cx} {e : Option Expr} {t t' : TO} (h : PO X e t) (i : ∀ σ H Q, t' σ H Q → t σ H Q) : PO X e t' := ⟨fun pins s σ H Q I q => h.run pins s σ H Q I (i σ H Q q)⟩
def cut {α : Type} (xs : List α) (lo hi : Option Int) : List α := (xs.drop (HT.sIx xs.length 0 lo)).take (HT.sIx xs.length xs.length hi - HT.sIx xs.length 0 lo)
/-- x[lo:hi] as data -/
def sliced (lo hi : Option Int) (S : Sto) : D → Option D
  | .str z => if z.length ≤ 1000000 then some (.str (cutS z lo hi)) else none
  | .tup ds => some (.tup (cut ds lo hi))
  | .lst ds => some (.lst (cut ds lo hi))
  | .scr ds => some (.lst (cut ds lo hi))
  | .ref l => match S[l]? with
    | some (.lst ds) => some (.lst (cut ds lo hi))
    | _ => none
  | _ => none
def eSl (f : Ev) (a b : Ov) : Ev := fun e S => match f e S with
  | some (x, S1) => match a e S1 with
    | some (lo, S2) => match b e S2 with
      | some (hi, S3) => match sliced lo hi S3 x with
        | some d => some (d, S3)
        | none => none
      | none => none
    | none => none
  | none => none
section
variable {X : Cx} {K : PySem.W.Frag}
theorem p_no : PO X none (rdO K oNo) := po_none.imp fun σ H Q h => by
  obtain ⟨A, r, S, e, o, S', s, re, ef, q⟩ := h
  cases ef
  exact q r H .refl s
theorem p_so {e : Expr} {f : Ev} (h : PE X e (rdE K f)) : PO X (some e) (rdO K (oSo f)) := (po_some h).imp fun σ H Q h => by
  obtain ⟨A, r, S, e, o, S', s, re, ef, q⟩ := h
  unfold oSo at ef
  split at ef
  · rename_i i S1 h1
    cases ef
    refine ⟨A, r, S, e, _, S', s, re, h1, fun v r1 H1 o1 s1 l1 => ?_⟩
    cases l1
    exact ⟨i, rfl, q r1 H1 o1 s1⟩
  · cases ef
theorem cut_rl {A r : List Addr} {H : Hp} {vs : List V} {ds : List D} (t : RlL K A r H vs ds) (lo hi : Option Int) : RlL K A r H (cutV vs lo hi) (cut ds lo hi) := by
  unfold cutV cut
  rw [t.length]
  exact (t.drop _).take _
theorem cut_whole {ds : List D} {lo hi : Option Int} (h : HT.sIx ds.length 0 lo = 0 ∧ HT.sIx ds.length ds.length hi = ds.length) : cut ds lo hi = ds := by
  unfold cut
  rw [h.1, h.2, List.drop_zero, Nat.sub_zero, List.take_length]
abbrev rSlAll (K : PySem.W.Frag) : V → Option Int → Option Int → Hp → VK → Prop := fun x lo hi H Q => rSlL K x lo hi H Q ∨ (rSlA K x lo hi H Q ∨ rSlS x lo hi H Q)
theorem x_sl {a : Expr} {lo hi : Option Expr} {p2 pos : Pos} {f : Ev} {u v : Ov} (hK : X.K = K) (ha : PE X a (rdE K f)) (hl : PO X lo (rdO K u)) (hh : PO X hi (rdO K v)) : PE X (.Subscript a (.Slice lo hi none p2) pos) (rdE K (eSl f u v)) := by
  subst hK
  refine (pe_slice (sl_list.or (sl_tupA.or sl_str)) ha hl hh).imp fun σ H Q h => ?_
  obtain ⟨A, r, S, e, o, S', s, re, ef, q⟩ := h
  unfold eSl at ef
  split at ef
  · rename_i x S1 h1
    split at ef
    · rename_i l S2 h2
      split at ef
      · rename_i h S3 h3
        split at ef
        · rename_i d h4
          cases ef
          refine ⟨A, r, S, e, x, S1, s, re, h1, fun v r1 H1 o1 s1 l1 => ?_⟩
          refine ⟨A, r1, S1, e, l, S2, s1, re.mono o1, h2, fun r2 H2 o2 s2 => ?_⟩
          refine ⟨A, r2, S2, e, h, S', s2, re.mono (o1.trans o2), h3, fun r3 H3 o3 s3 => ?_⟩
          have l3 := (l1.mono o2).mono o3
          have oo := (o1.trans o2).trans o3
          cases l3 with
          | str z =>
            unfold sliced at h4
            simp only at h4
            split at h4
            · rename_i hz
              cases h4
              exact .inr (.inr ⟨z, rfl, Nat.le_trans hz (by decide), q _ r3 H3 oo s3 (.str _)⟩)
            · cases h4
          | tup a b =>
            cases h4
            rename_i ad vs ds
            refine .inr (.inl ⟨ad, vs, rfl, a.sq, fun hw => ?_, fun _ p hp => ?_⟩)
            · rw [b.length] at hw
              rw [cut_whole hw] at q
              exact q _ r3 H3 oo s3 (.tup a b)
            · exact q _ r3 _ (oo.trans (.fresh hp)) (s3.fresh hp) (.tup ⟨s3.notin hp, s3.notav hp, upd_same⟩ ((cut_rl b l h).mono (.fresh hp)))
          | lst z1 z2 a b =>
            cases h4
            exact .inl ⟨_, _, rfl, .of a, fun p hp => q _ r3 _ (oo.trans (.fresh hp)) (s3.fresh hp) (.lst (s3.notin hp) (s3.notav hp) upd_same ((cut_rl b l h).mono (.fresh hp)))⟩
          | scr a b =>
            cases h4
            exact .inl ⟨_, _, rfl, a.sq, fun p hp => q _ r3 _ (oo.trans (.fresh hp)) (s3.fresh hp) (.lst (s3.notin hp) (s3.notav hp) upd_same ((cut_rl b l h).mono (.fresh hp)))⟩
          | ref a =>
            unfold sliced at h4
            simp only at h4
            split at h4
            · rename_i ds hds
              cases h4
              obtain ⟨vs, z, t⟩ := s3.obj _ _ _ a hds
              exact .inl ⟨_, _, rfl, .of z, fun p hp => q _ r3 _ (oo.trans (.fresh hp)) (s3.fresh hp) (.lst (s3.notin hp) (s3.notav hp) upd_same ((cut_rl t l h).mono (.fresh hp)))⟩
            · cases h4
          | _ => cases h4
        · cases ef
      · cases ef
    · cases ef
  · cases ef

/-! ### calls of what is built in -/
/-- len -/
def kLen : List D → Sto → Option (D × Sto) := fun ds S => match ds with
  | [.str z] => if z.length ≤ 1000000 then some (.int z.length, S) else none
  | [d] => match seqOf S d with
    | some xs => some (.int xs.length, S)
    | none => none
  | _ => none
theorem one_rl {A r : List Addr} {H : Hp} {vs : List V} {d : D} (t : RlL K A r H vs [d]) : ∃ v, vs = [v] ∧ Rl K A r H v d := by
  cases t with
  | cons l t =>
    cases t
    exact ⟨_, rfl, l⟩
theorem two_rl {A r : List Addr} {H : Hp} {vs : List V} {d e : D} (t : RlL K A r H vs [d, e]) : ∃ v w, vs = [v, w] ∧ Rl K A r H v d ∧ Rl K A r H w e := by
  cases t with
  | cons l t =>
    cases t with
    | cons l' t =>
      cases t
      exact ⟨_, _, rfl, l, l'⟩
theorem k_len : ClD K (fun xs H Q => ∃ x n, xs = [x] ∧ LenV K x H n ∧ Q (.int n) H) kLen := fun A r H S xs ds dz S' s t e Q q => by
  unfold kLen at e
  split at e
  · rename_i z
    obtain ⟨v, rfl, l⟩ := one_rl t
    cases l
    split at e
    · rename_i hz
      cases e
      exact ⟨_, _, rfl, ⟨Nat.le_trans hz (by decide), rfl⟩, q _ r H .refl s (.int _)⟩
    · cases e
  · rename_i d _
    obtain ⟨v, rfl, l⟩ := one_rl t
    split at e
    · rename_i ys hys
      cases e
      obtain ⟨a, vs, rfl, hs, u⟩ := seq_ok s l hys
      refine ⟨_, vs.length, rfl, hs.elim (fun z => .inl ⟨vs, z, rfl⟩) fun z => .inr ⟨vs, z, rfl⟩, ?_⟩
      rw [u.length]
      exact q _ r H .refl s (.int _)
    · cases e
  · cases e
/-- tuple(x) -/
def kTup : List D → Sto → Option (D × Sto) := fun ds S => match ds with
  | [.ktp ds] => some (.ktp ds, S)
  | [d] => match seqOf S d with
    | some xs => some (.tup xs, S)
    | none => none
  | _ => none
theorem k_tup : ClD K (fun xs H Q => ∃ p ys, xs = [.ref p] ∧ ((SqL K H p ys ∧ ∀ l, H l = none → Q (.ref l) (upd H l (.tup ys))) ∨ (SqT K H p ys ∧ Q (.ref p) H))) kTup := fun A r H S xs ds dz S' s t e Q q => by
  unfold kTup at e
  split at e
  · obtain ⟨v, rfl, l⟩ := one_rl t
    cases e
    cases l with
    | ktp a b => exact ⟨_, _, rfl, .inr ⟨a.sq, q _ r H .refl s (.ktp a b)⟩⟩
  · rename_i d hne
    obtain ⟨v, rfl, l⟩ := one_rl t
    split at e
    · rename_i ys hys
      cases e
      have new : ∀ {vs : List V}, RlL K A r H vs ys → ∀ p, H p = none → Q (.ref p) (upd H p (.tup vs)) := fun u p hp => q _ r _ (.fresh hp) (s.fresh hp) (.tup ⟨s.notin hp, s.notav hp, upd_same⟩ (u.mono (.fresh hp)))
      cases l with
      | tup a b =>
        cases hys
        exact ⟨_, _, rfl, .inr ⟨a.sq, q _ r H .refl s (.tup a b)⟩⟩
      | ktp a b => exact absurd rfl (hne _)
      | lst _ _ a b =>
        cases hys
        exact ⟨_, _, rfl, .inl ⟨.of a, new b⟩⟩
      | scr a b =>
        cases hys
        exact ⟨_, _, rfl, .inl ⟨a.sq, new b⟩⟩
      | ref a =>
        unfold seqOf at hys
        simp only at hys
        split at hys
        · rename_i es he
          cases hys
          obtain ⟨vs, z, u⟩ := s.obj _ _ _ a he
          exact ⟨_, _, rfl, .inl ⟨.of z, new u⟩⟩
        · cases hys
      | _ => cases hys
    · cases e
  · cases e
/-- list(x) -/
def kLst : List D → Sto → Option (List D × Sto) := fun ds S => match ds with
  | [d] => match seqOf S d with
    | some xs => some (xs, S)
    | none => none
  | _ => none
theorem k_lst : ClF K (fun xs H Q => ∃ p ys, xs = [.ref p] ∧ (SqL K H p ys ∨ SqT K H p ys) ∧ ∀ l, H l = none → Q (.ref l) (upd H l (.lst ys))) kLst := fun A r H S xs ds dz S' s t e Q q => by
  unfold kLst at e
  split at e
  · rename_i d
    obtain ⟨v, rfl, l⟩ := one_rl t
    split at e
    · rename_i ys hys
      cases e
      obtain ⟨a, vs, rfl, hs, u⟩ := seq_ok s l hys
      refine ⟨_, _, rfl, hs, fun p hp => ?_⟩
      obtain ⟨z1, z2, z3, z4, z5, z6⟩ := new_list .refl s u hp
      exact q p vs r _ z1 z2 z3 z4 z5 z6
    · cases e
  · cases e
/-- ints of data -/
def intsOf : List D → Option (List Int)
  | [] => some []
  | .int i :: ds => (intsOf ds).map (i :: ·)
  | _ => none
theorem intsOf_eq : ∀ {ds : List D} {ns : List Int}, intsOf ds = some ns → ds = ns.map D.int
  | [], _, h => by
    cases h
    rfl
  | .int i :: ds, _, h => by
    unfold intsOf at h
    cases e : intsOf ds with
    | none =>
      rw [e] at h
      cases h
    | some ns =>
      rw [e] at h
      cases h
      rw [intsOf_eq e]
      rfl
def bolsOf : List D → Option (List Bool)
  | [] => some []
  | .bl i :: ds => (bolsOf ds).map (i :: ·)
  | _ => none
theorem bolsOf_eq : ∀ {ds : List D} {ns : List Bool}, bolsOf ds = some ns → ds = ns.map D.bl
  | [], _, h => by
    cases h
    rfl
  | .bl i :: ds, _, h => by
    unfold bolsOf at h
    cases e : bolsOf ds with
    | none =>
      rw [e] at h
      cases h
    | some ns =>
      rw [e] at h
      cases h
      rw [bolsOf_eq e]
      rfl
/-- the list that a value is (no tuple) -/
def lstOf (S : Sto) : D → Option (List D)
  | .lst ds => some ds
  | .scr ds => some ds
  | .ref l => match S[l]? with
    | some (.lst ds) => some ds
    | _ => none
  | _ => none
theorem lst_ok {A r : List Addr} {H : Hp} {S : Sto} {x : V} {d : D} {ds : List D} (s : SR K A r H S) (l : Rl K A r H x d) (h : lstOf S d = some ds) : ∃ a vs, x = .ref a ∧ SqL K H a vs ∧ RlL K A r H vs ds := by
  cases l with
  | lst _ _ a b =>
    cases h
    exact ⟨_, _, rfl, .of a, b⟩
  | scr a b =>
    cases h
    exact ⟨_, _, rfl, a.sq, b⟩
  | ref a =>
    unfold lstOf at h
    simp only at h
    split at h
    · rename_i es he
      cases h
      obtain ⟨vs, e, t⟩ := s.obj _ _ _ a he
      exact ⟨_, _, rfl, .of e, t⟩
    · cases h
  | _ => cases h
def kSum : List D → Sto → Option (D × Sto) := fun ds S => match ds with
  | [d] => match lstOf S d with
    | some xs => match intsOf xs with
      | some ns => some (.int ns.sum, S)
      | none => none
    | none => none
  | _ => none
theorem k_sum : ClD K (rSum K) kSum := fun A r H S xs ds dz S' s t e Q q => by
  unfold kSum at e
  split at e
  · rename_i d
    obtain ⟨v, rfl, l⟩ := one_rl t
    split at e
    · rename_i ys hys
      split at e
      · rename_i ns hns
        cases e
        obtain ⟨a, vs, rfl, hs, u⟩ := lst_ok s l hys
        rw [intsOf_eq hns] at u
        rw [u.ints] at hs
        exact ⟨a, ns, rfl, hs, q _ r H .refl s (.int _)⟩
      · cases e
    · cases e
  · cases e
/-- the greatest, the least of some ints -/
def mxI : List Int → Option Int
  | [] => none
  | x :: xs => some (xs.foldl max x)
def mnI : List Int → Option Int
  | [] => none
  | x :: xs => some (xs.foldl min x)
theorem mx_foldl : ∀ (xs : List Int) (x : Int), x ≤ xs.foldl max x ∧ (∀ y ∈ xs, y ≤ xs.foldl max x) ∧ (xs.foldl max x = x ∨ xs.foldl max x ∈ xs)
  | [], x => ⟨Int.le_refl _, fun _ h => by simp at h, .inl rfl⟩
  | y :: ys, x => by
    obtain ⟨h1, h2, h3⟩ := mx_foldl ys (max x y)
    show x ≤ ys.foldl max (max x y) ∧ _
    refine ⟨Int.le_trans (Int.le_max_left _ _) h1, fun z hz => ?_, ?_⟩
    · rcases List.mem_cons.mp hz with e | hz
      · rw [e]
        exact Int.le_trans (Int.le_max_right _ _) h1
      · exact h2 z hz
    · rcases h3 with e | e
      · show ys.foldl max (max x y) = x ∨ ys.foldl max (max x y) ∈ y :: ys
        rw [e]
        by_cases c : x ≤ y
        · rw [Int.max_eq_right c]
          exact .inr List.mem_cons_self
        · rw [Int.max_eq_left (by omega)]
          exact .inl rfl
      · exact .inr (List.mem_cons_of_mem _ e)
theorem mn_foldl : ∀ (xs : List Int) (x : Int), xs.foldl min x ≤ x ∧ (∀ y ∈ xs, xs.foldl min x ≤ y) ∧ (xs.foldl min x = x ∨ xs.foldl min x ∈ xs)
  | [], x => ⟨Int.le_refl _, fun _ h => by simp at h, .inl rfl⟩
  | y :: ys, x => by
    obtain ⟨h1, h2, h3⟩ := mn_foldl ys (min x y)
    show ys.foldl min (min x y) ≤ x ∧ _
    refine ⟨Int.le_trans h1 (Int.min_le_left _ _), fun z hz => ?_, ?_⟩
    · rcases List.mem_cons.mp hz with e | hz
      · rw [e]
        exact Int.le_trans h1 (Int.min_le_right _ _)
      · exact h2 z hz
    · rcases h3 with e | e
      · show ys.foldl min (min x y) = x ∨ ys.foldl min (min x y) ∈ y :: ys
        rw [e]
        by_cases c : x ≤ y
        · rw [Int.min_eq_left c]
          exact .inl rfl
        · rw [Int.min_eq_right (by omega)]
          exact .inr List.mem_cons_self
      · exact .inr (List.mem_cons_of_mem _ e)
theorem mxI_eq {ns : List Int} {m k : Int} (h : mxI ns = some m) (hm : k ∈ ns) (hle : ∀ y, y ∈ ns → y ≤ k) : k = m := by
  cases ns with
  | nil => cases h
  | cons x xs =>
    have h' : xs.foldl max x = m := Option.some.inj h
    subst h'
    obtain ⟨h1, h2, h3⟩ := mx_foldl xs x
    refine Int.le_antisymm ?_ ?_
    · rcases List.mem_cons.mp hm with e | e
      · rw [e]
        exact h1
      · exact h2 k e
    · rcases h3 with e | e
      · rw [e]
        exact hle x List.mem_cons_self
      · exact hle _ (List.mem_cons_of_mem _ e)
theorem mnI_eq {ns : List Int} {m k : Int} (h : mnI ns = some m) (hm : k ∈ ns) (hle : ∀ y, y ∈ ns → k ≤ y) : k = m := by
  cases ns with
  | nil => cases h
  | cons x xs =>
    have h' : xs.foldl min x = m := Option.some.inj h
    subst h'
    obtain ⟨h1, h2, h3⟩ := mn_foldl xs x
    refine Int.le_antisymm ?_ ?_
    · rcases h3 with e | e
      · rw [e]
        exact hle x List.mem_cons_self
      · exact hle _ (List.mem_cons_of_mem _ e)
    · rcases List.mem_cons.mp hm with e | e
      · rw [e]
        exact h1
      · exact h2 k e
def kMax : List D → Sto → Option (D × Sto) := fun ds S => match ds with
  | [.int i, .int j] => some (.int (if j > i then j else i), S)
  | [d] => match lstOf S d with
    | some xs => match intsOf xs with
      | some ns => match mxI ns with
        | some m => some (.int m, S)
        | none => none
      | none => none
    | none => none
  | _ => none
abbrev rMaxAll (K : PySem.W.Frag) : List V → Hp → VK → Prop := fun xs H Q => (∃ i j, xs = [.int i, .int j] ∧ Q (.int (if j > i then j else i)) H) ∨ rMax K xs H Q
theorem k_max : ClD K (rMaxAll K) kMax := fun A r H S xs ds dz S' s t e Q q => by
  unfold kMax at e
  split at e
  · rename_i i j
    obtain ⟨v, w, rfl, l, l'⟩ := two_rl t
    cases l
    cases l'
    cases e
    exact .inl ⟨i, j, rfl, q _ r H .refl s (.int _)⟩
  · rename_i d
    obtain ⟨v, rfl, l⟩ := one_rl t
    split at e
    · rename_i ys hys
      split at e
      · rename_i ns hns
        split at e
        · rename_i m hm
          cases e
          obtain ⟨a, vs, rfl, hs, u⟩ := lst_ok s l hys
          rw [intsOf_eq hns] at u
          rw [u.ints] at hs
          refine .inr ⟨a, ns, rfl, hs, ?_, fun k hk hle => ?_⟩
          · cases ns with
            | nil => cases hm
            | cons x xs => simp
          · rw [mxI_eq hm hk hle]
            exact q _ r H .refl s (.int _)
        · cases e
      · cases e
    · cases e
  · cases e
def kMin : List D → Sto → Option (D × Sto) := fun ds S => match ds with
  | [.int i, .int j] => some (.int (if j < i then j else i), S)
  | [d] => match lstOf S d with
    | some xs => match intsOf xs with
      | some ns => match mnI ns with
        | some m => some (.int m, S)
        | none => none
      | none => none
    | none => none
  | _ => none
abbrev rMinAll (K : PySem.W.Frag) : List V → Hp → VK → Prop := fun xs H Q => (∃ i j, xs = [.int i, .int j] ∧ Q (.int (if j < i then j else i)) H) ∨ rMin K xs H Q
theorem k_min : ClD K (rMinAll K) kMin := fun A r H S xs ds dz S' s t e Q q => by
  unfold kMin at e
  split at e
  · rename_i i j
    obtain ⟨v, w, rfl, l, l'⟩ := two_rl t
    cases l
    cases l'
    cases e
    exact .inl ⟨i, j, rfl, q _ r H .refl s (.int _)⟩
  · rename_i d
    obtain ⟨v, rfl, l⟩ := one_rl t
    split at e
    · rename_i ys hys
      split at e
      · rename_i ns hns
        split at e
        · rename_i m hm
          cases e
          obtain ⟨a, vs, rfl, hs, u⟩ := lst_ok s l hys
          rw [intsOf_eq hns] at u
          rw [u.ints] at hs
          refine .inr ⟨a, ns, rfl, hs, ?_, fun k hk hle => ?_⟩
          · cases ns with
            | nil => cases hm
            | cons x xs => simp
          · rw [mnI_eq hm hk hle]
            exact q _ r H .refl s (.int _)
        · cases e
      · cases e
    · cases e
  · cases e
theorem c_max (hc : X.calm = true) : CallR X (.builtin "max") (rMaxAll X.K) := (call_max2 hc).or (cr_max hc)
theorem c_min (hc : X.calm = true) : CallR X (.builtin "min") (rMinAll X.K) := (call_min2 hc).or (cr_min hc)
def kAll : List D → Sto → Option (D × Sto) := fun ds S => match ds with
  | [d] => match lstOf S d with
    | some xs => match bolsOf xs with
      | some ns => some (.bl (ns.all id), S)
      | none => none
    | none => none
  | _ => none
def kAny : List D → Sto → Option (D × Sto) := fun ds S => match ds with
  | [d] => match lstOf S d with
    | some xs => match bolsOf xs with
      | some ns => some (.bl (ns.any id), S)
      | none => none
    | none => none
  | _ => none
theorem k_all : ClD K (rAll K) kAll := fun A r H S xs ds dz S' s t e Q q => by
  unfold kAll at e
  split at e
  · rename_i d
    obtain ⟨v, rfl, l⟩ := one_rl t
    split at e
    · rename_i ys hys
      split at e
      · rename_i ns hns
        cases e
        obtain ⟨a, vs, rfl, hs, u⟩ := lst_ok s l hys
        rw [bolsOf_eq hns] at u
        rw [u.bls] at hs
        exact ⟨a, ns, rfl, hs, q _ r H .refl s (.bl _)⟩
      · cases e
    · cases e
  · cases e
theorem k_any : ClD K (rAny K) kAny := fun A r H S xs ds dz S' s t e Q q => by
  unfold kAny at e
  split at e
  · rename_i d
    obtain ⟨v, rfl, l⟩ := one_rl t
    split at e
    · rename_i ys hys
      split at e
      · rename_i ns hns
        cases e
        obtain ⟨a, vs, rfl, hs, u⟩ := lst_ok s l hys
        rw [bolsOf_eq hns] at u
        rw [u.bls] at hs
        exact ⟨a, ns, rfl, hs, q _ r H .refl s (.bl _)⟩
      · cases e
    · cases e
  · cases e
def kAbs : List D → Sto → Option (D × Sto) := fun ds S => match ds with
  | [.int i] => some (.int (if i < 0 then -i else i), S)
  | _ => none
theorem k_abs : ClD K (fun xs H Q => ∃ i, xs = [.int i] ∧ Q (.int (if i < 0 then -i else i)) H) kAbs := fun A r H S xs ds dz S' s t e Q q => by
  unfold kAbs at e
  split at e
  · obtain ⟨v, rfl, l⟩ := one_rl t
    cases l
    cases e
    exact ⟨_, rfl, q _ r H .refl s (.int _)⟩
  · cases e
def kInt : List D → Sto → Option (D × Sto) := fun ds S => match ds with
  | [.int i] => some (.int i, S)
  | [.bl k] => some (.int (if k then 1 else 0), S)
  | _ => none
theorem k_int : ClD K (fun xs H Q => (∃ i, xs = [.int i] ∧ Q (.int i) H) ∨ ∃ k, xs = [.bl k] ∧ Q (.int (if k then 1 else 0)) H) kInt := fun A r H S xs ds dz S' s t e Q q => by
  unfold kInt at e
  split at e
  · obtain ⟨v, rfl, l⟩ := one_rl t
    cases l
    cases e
    exact .inl ⟨_, rfl, q _ r H .refl s (.int _)⟩
  · obtain ⟨v, rfl, l⟩ := one_rl t
    cases l
    cases e
    exact .inr ⟨_, rfl, q _ r H .refl s (.int _)⟩
  · cases e
end
end Tr
namespace Tr
open PySem PySem.Spec PyProof.Rows L2

/-! ### methods of built-in types -/
def isTy (T : String) (S : Sto) : D → Bool
  | .str _ => T == "str"
  | .int _ => T == "int"
  | .lst _ => T == "list"
  | .scr _ => T == "list"
  | .dk _ _ => T == "dict"
  | .dt _ _ => T == "dict"
  | .ref l => match S[l]? with
    | some (.lst _) => T == "list"
    | some (.dk _ _) => T == "dict"
    | some (.dt _ _) => T == "dict"
    | _ => false
  | _ => false
section
variable {K : PySem.W.Frag}
theorem isTy_ok {T : String} {A r : List Addr} {H : Hp} {S : Sto} {x : V} {d : D} (s : SR K A r H S) (l : Rl K A r H x d) (h : isTy T S d = true) : tyV K T x H := by
  cases l with
  | non => cases h
  | bl b => cases h
  | int i => exact eq_of_beq h
  | str x => exact eq_of_beq h
  | ty n => cases h
  | tup _ _ => cases h
  | ktp _ _ => cases h
  | lst ha hA hh hs => exact .inl ⟨eq_of_beq h, _, SqL.of hh⟩
  | scr hh hs => exact .inl ⟨eq_of_beq h, _, hh.sq⟩
  | dk ha hA hh hs => exact .inr (.inr (.inl ⟨eq_of_beq h, .inl ⟨_, hh⟩⟩))
  | dt ha hA hh hs => exact .inr (.inr (.inl ⟨eq_of_beq h, .inr ⟨_, hh⟩⟩))
  | @ref a l hr =>
    simp only [isTy] at h
    split at h
    · rename_i ds e
      obtain ⟨vs, hv, _⟩ := s.obj _ _ _ hr e
      exact .inl ⟨eq_of_beq h, _, SqL.of hv⟩
    · rename_i ks ds e
      obtain ⟨vs, hv, _⟩ := s.obj _ _ _ hr e
      exact .inr (.inr (.inl ⟨eq_of_beq h, .inl ⟨_, hv⟩⟩))
    · rename_i ks ds e
      obtain ⟨vs, hv, _⟩ := s.obj _ _ _ hr e
      exact .inr (.inr (.inl ⟨eq_of_beq h, .inr ⟨_, hv⟩⟩))
    · cases h
/-- a method by values -/
abbrev Mh := D → List D → Sto → Option (D × Sto)
abbrev MhF := D → List D → Sto → Option (List D × Sto)
def MeD (K : PySem.W.Frag) (t : V → List V → Hp → VK → Prop) (h : Mh) : Prop := ∀ A r H S x xs dx ds dz S', SR K A r H S → Rl K A r H x dx → RlL K A r H xs ds → h dx ds S = some (dz, S') →
  ∀ Q : VK, (∀ v r' H', Evo r H r' H' → SR K A r' H' S' → Rl K A r' H' v dz → Q v H') → t x xs H Q
def MeF (K : PySem.W.Frag) (t : V → List V → Hp → VK → Prop) (h : MhF) : Prop := ∀ A r H S x xs dx ds dz S', SR K A r H S → Rl K A r H x dx → RlL K A r H xs ds → h dx ds S = some (dz, S') →
  ∀ Q : VK, (∀ p vs r' H', Evo r H r' H' → SR K (p :: A) r' H' S' → H p = none → p ∉ A → H' p = some (.lst vs) → RlL K (p :: A) r' H' vs dz → Q (.ref p) H') → t x xs H Q
def eMe (T : String) (h : Mh) (f : Ev) (l : Lv) : Ev := fun e S => match f e S with
  | some (d, S1) => if isTy T S1 d then (match l e S1 with
    | some (ds, S2) => h d ds S2
    | none => none) else none
  | none => none
def fMe (T : String) (h : MhF) (f : Ev) (l : Lv) : Lv := fun e S => match f e S with
  | some (d, S1) => if isTy T S1 d then (match l e S1 with
    | some (ds, S2) => h d ds S2
    | none => none) else none
  | none => none
variable {T : String} {t : V → List V → Hp → VK → Prop} {h : Mh} {hF : MhF} {f : Ev} {l : Lv} {σ : L2.St} {H : Hp} {Q : VK}
theorem rd_me (hr : MeD K t h) (q : rdE K (eMe T h f l) σ H Q) : rdE K f σ H fun x H1 => tyV K T x H1 ∧ rdA K l σ H1 fun xs H2 => t x xs H2 Q := by
  obtain ⟨A, r, S, e, d, S', s, re, ev, q⟩ := q
  unfold eMe at ev
  split at ev
  · rename_i dx S1 e1
    split at ev
    · rename_i ty
      split at ev
      · rename_i ds S2 e2
        refine ⟨A, r, S, e, dx, S1, s, re, e1, fun v r1 H1 o1 s1 l1 => ⟨isTy_ok s1 l1 ty, A, r1, S1, e, ds, S2, s1, re.mono o1, e2, fun vs r2 H2 o2 s2 l2 => ?_⟩⟩
        exact hr A r2 H2 S2 v vs dx ds d S' s2 (l1.mono o2) l2 ev Q fun w r3 H3 o3 s3 l3 => q w r3 H3 ((o1.trans o2).trans o3) s3 l3
      · cases ev
    · cases ev
  · cases ev
theorem rd_meF (hr : MeF K t hF) (q : rdF K (fMe T hF f l) σ H Q) : rdE K f σ H fun x H1 => tyV K T x H1 ∧ rdA K l σ H1 fun xs H2 => t x xs H2 Q := by
  obtain ⟨A, r, S, e, d, S', s, re, ev, q⟩ := q
  unfold fMe at ev
  split at ev
  · rename_i dx S1 e1
    split at ev
    · rename_i ty
      split at ev
      · rename_i ds S2 e2
        refine ⟨A, r, S, e, dx, S1, s, re, e1, fun v r1 H1 o1 s1 l1 => ⟨isTy_ok s1 l1 ty, A, r1, S1, e, ds, S2, s1, re.mono o1, e2, fun vs r2 H2 o2 s2 l2 => ?_⟩⟩
        exact hr A r2 H2 S2 v vs dx ds d S' s2 (l1.mono o2) l2 ev Q fun p w r3 H3 o3 s3 h3 n3 => q p w r3 H3 ((o1.trans o2).trans o3) s3 ((o1.trans o2).back s2 h3) n3
      · cases ev
    · cases ev
  · cases ev
variable {X : Cx} {o e : Expr} {es : List Expr} {name : Str} {apos cpos : Pos} {id : String}
theorem x_me (pa : PlainAttrs T) (slot : Slot T name id) (hty : typeOf (.builtin id) = pure (.type "method_descriptor")) (hm : MtR X id t) (hr : MeD K t h) (hK : X.K = K) (ho : PE X o (rdE K f)) (ha : PA X (e :: es) (rdA K l))
    (hbase : attributeBase o name X.env (eval o X.env) = eval o X.env := by rfl)
    (hfew : ((backTo cpos (starEach (e :: es) X.env)).all (fun x => !x.1) && (backToKw cpos (keywordEach [] X.env)).all (fun x => x.1.isSome)
      && decide ((e :: es).length + ([] : List Keyword).length + (if ([] : List Keyword).isEmpty then 0 else 1) < 30)) = true := by rfl)
    (hline : (apos.endLine == cpos.line) = true := by rfl) (hs : starEach (e :: es) X.env = (false, eval e X.env) :: starEach es X.env := by rfl) (hplain : (backTo cpos (starEach es X.env)).any (·.1) = false := by rfl) :
    PE X (.Call (.Attribute o name apos) (e :: es) [] cpos) (rdE K (eMe T h f l)) := by
  subst hK
  exact (pe_bm pa slot hty hm ho ha hbase hfew hline hs hplain).imp fun _ _ _ q => rd_me hr q
theorem x_me0 (pa : PlainAttrs T) (slot : Slot T name id) (hty : typeOf (.builtin id) = pure (.type "method_descriptor")) (hm : MtR X id t) (hr : MeD K t h) (hK : X.K = K) (ho : PE X o (rdE K f))
    (hbase : attributeBase o name X.env (eval o X.env) = eval o X.env := by rfl) (hline : (apos.endLine == cpos.line) = true := by rfl) :
    PE X (.Call (.Attribute o name apos) [] [] cpos) (rdE K (eMe T h f aNil)) := by
  subst hK
  refine (pe_bm0 pa slot hty hm ho hbase hline).imp fun σ H Q q => ?_
  obtain ⟨A, r, S, e, d, S', s, re, e1, q⟩ := rd_me hr q
  exact ⟨A, r, S, e, d, S', s, re, e1, fun v r' H' o s' l => ⟨(q v r' H' o s' l).1, rd_nil (q v r' H' o s' l).2⟩⟩
theorem f_me (pa : PlainAttrs T) (slot : Slot T name id) (hty : typeOf (.builtin id) = pure (.type "method_descriptor")) (hm : MtR X id t) (hr : MeF K t hF) (hK : X.K = K) (ho : PE X o (rdE K f)) (ha : PA X (e :: es) (rdA K l))
    (hbase : attributeBase o name X.env (eval o X.env) = eval o X.env := by rfl)
    (hfew : ((backTo cpos (starEach (e :: es) X.env)).all (fun x => !x.1) && (backToKw cpos (keywordEach [] X.env)).all (fun x => x.1.isSome)
      && decide ((e :: es).length + ([] : List Keyword).length + (if ([] : List Keyword).isEmpty then 0 else 1) < 30)) = true := by rfl)
    (hline : (apos.endLine == cpos.line) = true := by rfl) (hs : starEach (e :: es) X.env = (false, eval e X.env) :: starEach es X.env := by rfl) (hplain : (backTo cpos (starEach es X.env)).any (·.1) = false := by rfl) :
    PE X (.Call (.Attribute o name apos) (e :: es) [] cpos) (rdF K (fMe T hF f l)) := by
  subst hK
  exact (pe_bm pa slot hty hm ho ha hbase hfew hline hs hplain).imp fun _ _ _ q => rd_meF hr q
theorem f_me0 (pa : PlainAttrs T) (slot : Slot T name id) (hty : typeOf (.builtin id) = pure (.type "method_descriptor")) (hm : MtR X id t) (hr : MeF K t hF) (hK : X.K = K) (ho : PE X o (rdE K f))
    (hbase : attributeBase o name X.env (eval o X.env) = eval o X.env := by rfl) (hline : (apos.endLine == cpos.line) = true := by rfl) :
    PE X (.Call (.Attribute o name apos) [] [] cpos) (rdF K (fMe T hF f aNil)) := by
  subst hK
  refine (pe_bm0 pa slot hty hm ho hbase hline).imp fun σ H Q q => ?_
  obtain ⟨A, r, S, e, d, S', s, re, e1, q⟩ := rd_meF hr q
  exact ⟨A, r, S, e, d, S', s, re, e1, fun v r' H' o s' l => ⟨(q v r' H' o s' l).1, rd_nil (q v r' H' o s' l).2⟩⟩
end

/-! ### lists of the store -/
/-- the store's list at l -/
def stL (S : Sto) (l : Nat) : Option (List D) := match S[l]? with
  | some (.lst ds) => some ds
  | _ => none
section
variable {K : PySem.W.Frag} {A r : List Addr} {H : Hp} {S : Sto}
theorem stL_ok (s : SR K A r H S) {l : Nat} {a : Addr} (hr : r[l]? = some a) {ds : List D} (h : stL S l = some ds) : ∃ vs, H a = some (.lst vs) ∧ RlL K A r H vs ds := by
  unfold stL at h
  split at h
  · rename_i e
    cases h
    exact s.obj _ _ _ hr e
  · cases h
theorem SR.setL (s : SR K A r H S) {l : Nat} {a : Addr} (hr : r[l]? = some a) {vs : List V} {ds : List D} (t : RlL K A r H vs ds) : Evo r H r (upd H a (.lst vs)) ∧ SR K A r (upd H a (.lst vs)) (S.set l (.lst ds)) := by
  have e : Evo r H r (upd H a (.lst vs)) := .write (List.mem_of_getElem? hr)
  exact ⟨e, s.write hr ⟨vs, upd_same, t.mono e⟩⟩
def hApp : Mh := fun x ds S => match x, ds with
  | .ref l, [y] => match stL S l with
    | some xs => if xs.length < 1000000 then some (.non, S.set l (.lst (xs ++ [y]))) else none
    | none => none
  | _, _ => none
theorem szM {n : Nat} (h : n ≤ 1000000) : n ≤ sizeLine := Nat.le_trans h (by decide)
theorem m_app : MeD K rAppend hApp := fun A r H S x xs dx ds dz S' s lx lxs e Q q => by
  unfold hApp at e
  split at e
  · rename_i l y
    cases lx with
    | @ref a _ hr =>
    cases lxs with
    | cons ly t =>
    cases t
    split at e
    · rename_i zs hz
      split at e
      · rename_i hl
        cases e
        obtain ⟨vs, hv, lv⟩ := stL_ok s hr hz
        obtain ⟨e1, s1⟩ := s.setL hr (lv.append (.cons ly .nil))
        refine ⟨a, vs, _, rfl, rfl, hv, ?_, q _ r _ e1 s1 .non⟩
        rw [lv.length]
        exact Nat.lt_of_lt_of_le hl (by decide)
      · cases e
    · cases e
  · cases e
/-- what stands in a list that is not the script -/
def lstV (S : Sto) : D → Option (List D)
  | .lst ds => some ds
  | .ref l => stL S l
  | _ => none
theorem lstV_ok (s : SR K A r H S) {x : V} {d : D} (l : Rl K A r H x d) {ds : List D} (h : lstV S d = some ds) : ∃ a vs, x = .ref a ∧ H a = some (.lst vs) ∧ RlL K A r H vs ds := by
  unfold lstV at h
  split at h
  · cases h
    cases l with
    | lst ha hA hh hs => exact ⟨_, _, rfl, hh, hs⟩
  · cases l with
    | @ref a _ hr =>
      obtain ⟨vs, h1, h2⟩ := stL_ok s hr h
      exact ⟨a, vs, rfl, h1, h2⟩
  · cases h
def hExt : Mh := fun x ds S => match x, ds with
  | .ref l, [y] => match stL S l, lstV S y with
    | some xs, some ys => if xs.length + ys.length ≤ 1000000 then some (.non, S.set l (.lst (xs ++ ys))) else none
    | _, _ => none
  | _, _ => none
theorem m_ext : MeD K rExtend hExt := fun A r H S x xs dx ds dz S' s lx lxs e Q q => by
  unfold hExt at e
  split at e
  · rename_i l y
    cases lx with
    | @ref a _ hr =>
    cases lxs with
    | cons ly t =>
    cases t
    split at e
    · rename_i zs ys hz hy
      split at e
      · rename_i hl
        cases e
        obtain ⟨vs, hv, lv⟩ := stL_ok s hr hz
        obtain ⟨b, ws, rfl, hw, lw⟩ := lstV_ok s ly hy
        obtain ⟨e1, s1⟩ := s.setL hr (lv.append lw)
        refine ⟨a, b, vs, ws, rfl, rfl, hv, hw, ?_, q _ r _ e1 s1 .non⟩
        rw [lv.length, lw.length]
        exact szM hl
      · cases e
    · cases e
  · cases e
def hPop : Mh := fun x ds S => match x, ds with
  | .ref l, [] => match stL S l with
    | some xs => match xs[xs.length - 1]? with
      | some y => some (y, S.set l (.lst xs.dropLast))
      | none => none
    | none => none
  | _, _ => none
theorem RlL.dropLast {vs : List V} {ds : List D} (h : RlL K A r H vs ds) : RlL K A r H vs.dropLast ds.dropLast := by
  rw [List.dropLast_eq_take, List.dropLast_eq_take, h.length]
  exact h.take _
theorem m_pop : MeD K rPop hPop := fun A r H S x xs dx ds dz S' s lx lxs e Q q => by
  unfold hPop at e
  split at e
  · rename_i l
    cases lx with
    | @ref a _ hr =>
    cases lxs
    split at e
    · rename_i zs hz
      split at e
      · rename_i y hy
        cases e
        obtain ⟨vs, hv, lv⟩ := stL_ok s hr hz
        obtain ⟨w, hw, lw⟩ := lv.get hy
        obtain ⟨e1, s1⟩ := s.setL hr lv.dropLast
        exact ⟨a, vs, w, rfl, rfl, hv, by rw [lv.length]; exact hw, q _ r _ e1 s1 (lw.mono e1)⟩
      · cases e
    · cases e
  · cases e
def hPopAt : Mh := fun x ds S => match x, ds with
  | .ref l, [.int i] => match stL S l with
    | some xs => if -(2 ^ 63) ≤ i ∧ i < 2 ^ 63 then (match seqIndex? i xs.length with
      | some k => match xs[k]? with
        | some y => some (y, S.set l (.lst (xs.eraseIdx k)))
        | none => none
      | none => none) else none
    | none => none
  | _, _ => none
theorem m_popAt : MeD K rPopAt hPopAt := fun A r H S x xs dx ds dz S' s lx lxs e Q q => by
  unfold hPopAt at e
  split at e
  · rename_i l i
    cases lx with
    | @ref a _ hr =>
    cases lxs with
    | cons ly t =>
    cases t
    cases ly
    split at e
    · rename_i zs hz
      split at e
      · rename_i hi
        split at e
        · rename_i k hk
          split at e
          · rename_i y hy
            cases e
            obtain ⟨vs, hv, lv⟩ := stL_ok s hr hz
            obtain ⟨w, hw, lw⟩ := lv.get hy
            obtain ⟨e1, s1⟩ := s.setL hr (lv.eraseIdx k)
            exact ⟨a, vs, i, k, w, rfl, rfl, hv, hi.1, hi.2, by rw [lv.length]; exact hk, hw, q _ r _ e1 s1 (lw.mono e1)⟩
          · cases e
        · cases e
      · cases e
    · cases e
  · cases e
def hRvs : Mh := fun x ds S => match x, ds with
  | .ref l, [] => match stL S l with
    | some xs => some (.non, S.set l (.lst xs.reverse))
    | none => none
  | _, _ => none
theorem m_rvs : MeD K rReverse hRvs := fun A r H S x xs dx ds dz S' s lx lxs e Q q => by
  unfold hRvs at e
  split at e
  · rename_i l
    cases lx with
    | @ref a _ hr =>
    cases lxs
    split at e
    · rename_i zs hz
      cases e
      obtain ⟨vs, hv, lv⟩ := stL_ok s hr hz
      obtain ⟨e1, s1⟩ := s.setL hr lv.reverse
      exact ⟨a, vs, rfl, rfl, hv, q _ r _ e1 s1 .non⟩
    · cases e
  · cases e

/-! ### xs[i] = v -/
def hSetL (o i v : D) (S : Sto) : Option Sto := match o, i with
  | .ref l, .int k => match stL S l with
    | some xs => match ixN xs.length k with
      | some j => some (S.set l (.lst (xs.set j v)))
      | none => none
    | none => none
  | _, _ => none
/-- a store by values -/
def StD (K : PySem.W.Frag) (t : TSet) (h : D → D → D → Sto → Option Sto) : Prop := ∀ A r H S o i v d1 d2 d3 S', SR K A r H S → Rl K A r H o d1 → Rl K A r H i d2 → Rl K A r H v d3 → h d1 d2 d3 S = some S' →
  ∀ Q : Hp → Prop, (∀ r' H', Evo r H r' H' → SR K A r' H' S' → Q H') → t o i v H Q
theorem t_setL : StD K rSetL hSetL := fun A r H S o i v d1 d2 d3 S' s l1 l2 l3 e Q q => by
  unfold hSetL at e
  split at e
  · rename_i l k
    cases l1 with
    | @ref a _ hr =>
    cases l2
    split at e
    · rename_i zs hz
      split at e
      · rename_i j hj
        cases e
        obtain ⟨vs, hv, lv⟩ := stL_ok s hr hz
        obtain ⟨e1, s1⟩ := s.setL hr (RlL.set l3 j lv)
        exact ⟨a, vs, k, j, rfl, rfl, hv, by rw [lv.length]; exact hj, q r _ e1 s1⟩
      · cases e
    · cases e
  · cases e
/-- o[i] = e -/
def sSub (h : D → D → D → Sto → Option Sto) (f g x : Ev) : Sv := fun e S => match x e S with
  | some (v, S1) => match f e S1 with
    | some (o, S2) => match g e S2 with
      | some (i, S3) => match h o i v S3 with
        | some S4 => some (.nx e, S4)
        | none => none
      | none => none
    | none => none
  | none => none
theorem rd_sub {t : TSet} {h : D → D → D → Sto → Option Sto} (hr : StD K t h) {f g x : Ev} {D : Ends} {σ : L2.St} {H : Hp} (q : rdS K (sSub h f g x) D σ H) : tAsg (rdE K x) (gSub (rdE K f) (rdE K g) t) D σ H := by
  obtain ⟨A, r, S, e, out, S', s, re, ev, q⟩ := q
  unfold sSub at ev
  split at ev
  · rename_i dv S1 e1
    split at ev
    · rename_i d2 S2 e2
      split at ev
      · rename_i d3 S3 e3
        split at ev
        · rename_i S4 e4
          cases ev
          refine ⟨A, r, S, e, dv, S1, s, re, e1, fun v r1 H1 o1 s1 l1 => ⟨A, r1, S1, e, d2, S2, s1, re.mono o1, e2, fun v2 r2 H2 o2 s2 l2 => ⟨A, r2, S2, e, d3, S3, s2, (re.mono o1).mono o2, e3, fun v3 r3 H3 o3 s3 l3 => ?_⟩⟩⟩
          refine hr A r3 H3 S3 v2 v3 v d2 d3 dv S' s3 (l2.mono o3) l3 ((l1.mono o2).mono o3) e4 _ fun r4 H4 o4 s4 => ?_
          exact q σ r4 H4 (((o1.trans o2).trans o3).trans o4) s4 ((((re.mono o1).mono o2).mono o3).mono o4)
        · cases ev
      · cases ev
    · cases ev
  · cases ev
variable {X : Cx} {pos : Pos}
theorem s_sub {t : TSet} {h : D → D → D → Sto → Option Sto} {o i v : Expr} {f g x : Ev} {p2 : Pos} (hs : PSet X t) (hr : StD K t h) (hv : PE X v (rdE K x)) (ho : PE X o (rdE K f)) (hi : PE X i (rdE K g))
    (ha : ∀ v, assign (.Subscript o i p2) X.env v = (do
      let ov ← holding [v] (eval o X.env)
      let iv ← holding [v, ov] (eval i X.env)
      standAt p2
      holding [v, ov, iv] (setItem ov iv v)
      release [v, ov, iv] []) := by intro _; rfl) (hsw : swapsWithSole [.Subscript o i p2] v pos.line X.env = pure false := by rfl) (hw : swappedStores [.Subscript o i p2] v X.env = pure none := by rfl)
    (h1 : (assignEach [.Subscript o i p2] X.env).map (·.2) = [assign (.Subscript o i p2) X.env] := by rfl) : PS X (.Assign [.Subscript o i p2] v pos) (rdS K (sSub h f g x)) :=
  (ps_asg hv (pg_sub ho hi hs ha) hsw hw h1).imp fun _ _ _ q => rd_sub hr q
end
end Tr
namespace Tr
open PySem PySem.Spec PyProof.Rows L2

/-! ### the built-in names -/
theorem bo_len : bootBuiltins "len" = some (.builtin "len") := by decide +kernel
theorem bo_abs : bootBuiltins "abs" = some (.builtin "abs") := by decide +kernel
theorem bo_int : bootBuiltins "int" = some (.type "int") := by decide +kernel
theorem bo_str : bootBuiltins "str" = some (.type "str") := by decide +kernel
theorem bo_bool : bootBuiltins "bool" = some (.type "bool") := by decide +kernel
theorem bo_tuple : bootBuiltins "tuple" = some (.type "tuple") := by decide +kernel
theorem bo_list : bootBuiltins "list" = some (.type "list") := by decide +kernel
theorem bo_dict : bootBuiltins "dict" = some (.type "dict") := by decide +kernel
theorem bo_set : bootBuiltins "set" = some (.type "set") := by decide +kernel
theorem bo_sum : bootBuiltins "sum" = some (.builtin "sum") := by decide +kernel
theorem bo_max : bootBuiltins "max" = some (.builtin "max") := by decide +kernel
theorem bo_min : bootBuiltins "min" = some (.builtin "min") := by decide +kernel
theorem bo_all : bootBuiltins "all" = some (.builtin "all") := by decide +kernel
theorem bo_any : bootBuiltins "any" = some (.builtin "any") := by decide +kernel
theorem bo_sorted : bootBuiltins "sorted" = some (.builtin "sorted") := by decide +kernel
theorem bo_isinstance : bootBuiltins "isinstance" = some (.builtin "isinstance") := by decide +kernel
section
variable {X : Cx} {K : PySem.W.Frag}
theorem b_never {sts : List Stmt} : PSs X sts (rdS K sNever) := pss_never.imp fun _ _ _ q => rd_never q
theorem never_A {vs : List V} {H : Hp} {Q : VK} {E : XK} {sp : Sp} (h : cv K (fun _ _ => none) vs H Q E) : sp vs H Q E := by
  obtain ⟨_, _, _, _, _, _, _, _, z, _⟩ := h
  cases z
theorem never_F {vs : List V} {H : Hp} {Q : VK} {E : XK} {sp : Sp} (h : cvF K (fun _ _ => none) vs H Q E) : sp vs H Q E := by
  obtain ⟨_, _, _, _, _, _, _, _, z, _⟩ := h
  cases z
theorem x_and1 {op} {a : Expr} {f : Ev} {pos : Pos} (h : PE X a (rdE K f)) : PE X (.BoolOp op [a] pos) (rdE K f) := pe_one h
theorem x_or1 {op} {a : Expr} {f : Ev} {pos : Pos} (h : PE X a (rdE K f)) : PE X (.BoolOp op [a] pos) (rdE K f) := pe_one h
/-- a built-in class by its name -/
theorem x_tyc {x : Str} {n : String} {pos : Pos} (hg : Gl X x) (hm : X.mg x = none) (hv : bootBuiltins x = some (.type n)) (hn : x ≠ "__name__" := by decide) (hd : (x == ("__debug__" : Str)) = false := by decide) : PE X (.Name x pos) (rdE K (eC (.ty n))) :=
  (pe_bltn (v := .ty n) hg hm hv rfl hn hd).imp fun _ _ _ q => rd_c (fun _ _ _ => .ty n) q
/-- a name of the module that stands for data -/
def ConstAt (K : PySem.W.Frag) (mg : Str → Option Value) (x : Str) (d : D) : Prop := ∃ u v, mg x = some u ∧ RelV v u ∧ ∀ A r H, Rl K A r H v d
theorem x_const {x : Str} {d : D} {pos : Pos} (c : ConstAt K X.mg x d) (hg : Gl X x := by rfl) (hd : (x == ("__debug__" : Str)) = false := by decide) : PE X (.Name x pos) (rdE K (eC d)) := by
  obtain ⟨u, v, h1, h2, h3⟩ := c
  exact (pe_glob hg h1 h2 hd).imp fun _ _ _ q => rd_c h3 q

/-! ### isinstance -/
def tyN (S : Sto) : D → Option String
  | .non => some "NoneType"
  | .bl _ => some "bool"
  | .int _ => some "int"
  | .str _ => some "str"
  | .tup _ => some "tuple"
  | .ktp _ => some "tuple"
  | .lst _ => some "list"
  | .scr _ => some "list"
  | .dk _ _ => some "dict"
  | .dt _ _ => some "dict"
  | .ref l => match S[l]? with
    | some (.lst _) => some "list"
    | some (.dk _ _) => some "dict"
    | some (.dt _ _) => some "dict"
    | _ => none
  | .ty _ => none
theorem tyN_ok {A r : List Addr} {H : Hp} {S : Sto} {x : V} {d : D} {n : String} (s : SR K A r H S) (l : Rl K A r H x d) (h : tyN S d = some n) : TyX K H x (.type n) := by
  cases l with
  | non => cases h; exact .base .non
  | bl b => cases h; exact .base (.bl _)
  | int i => cases h; exact .base (.int _)
  | str x => cases h; exact .base (.str _)
  | ty n => cases h
  | tup hh hs =>
    cases h
    exact .base (.tup hh.2.2)
  | ktp hh hs =>
    cases h
    obtain ⟨o, its, n, h1, h2, _⟩ := hh
    exact .kTuple h1 h2
  | lst ha hA hh hs => cases h; exact .base (.lst hh)
  | scr hh hs =>
    cases h
    rcases hh with ⟨_, _, hh | ⟨o, hh⟩⟩ | ⟨o, its, n, h1, h2, _⟩
    · exact .base (.lst hh)
    · exact .base (.frz hh)
    · exact .kList h1 h2
  | dk ha hA hh hs => cases h; exact .base (.dK hh)
  | dt ha hA hh hs => cases h; exact .base (.dT hh)
  | @ref a l hr =>
    simp only [tyN] at h
    split at h
    · rename_i ds e
      cases h
      obtain ⟨vs, hv, _⟩ := s.obj _ _ _ hr e
      exact .base (.lst hv)
    · rename_i ks ds e
      cases h
      obtain ⟨vs, hv, _⟩ := s.obj _ _ _ hr e
      exact .base (.dK hv)
    · rename_i ks ds e
      cases h
      obtain ⟨vs, hv, _⟩ := s.obj _ _ _ hr e
      exact .base (.dT hv)
    · cases h
def kIsi : List D → Sto → Option (D × Sto) := fun ds S => match ds with
  | [x, .ty T] => match tyN S x with
    | some a => (kitB a T).map fun b => (.bl b, S)
    | none => none
  | _ => none
theorem k_isi : ClD K (rIsi K) kIsi := fun A r H S xs ds dz S' s t e Q q => by
  unfold kIsi at e
  split at e
  · rename_i x T
    obtain ⟨v, w, rfl, l1, l2⟩ := two_rl t
    cases l2
    split at e
    · rename_i a ha
      cases hb : kitB a T with
      | none => rw [hb] at e; cases e
      | some b =>
        rw [hb] at e
        cases e
        exact ⟨v, _, _, _, b, rfl, .ty T, tyN_ok s l1 ha, kit_ty hb, q _ r H .refl s (.bl b)⟩
    · cases e
  · cases e

/-! ### new lists of two values -/
def OpF (K : PySem.W.Frag) (t : R2) (h : D → D → Sto → Option (List D × Sto)) : Prop := ∀ A r H S x y dx dy dz S', SR K A r H S → Rl K A r H x dx → Rl K A r H y dy → h dx dy S = some (dz, S') →
  ∀ Q : VK, (∀ p vs r' H', Evo r H r' H' → SR K (p :: A) r' H' S' → H p = none → p ∉ A → H' p = some (.lst vs) → RlL K (p :: A) r' H' vs dz → Q (.ref p) H') → t x y H Q
def fOp (h : D → D → Sto → Option (List D × Sto)) (f g : Ev) : Lv := fun e S => match f e S with
  | some (x, S1) => match g e S1 with
    | some (y, S2) => h x y S2
    | none => none
  | none => none
theorem rd_opF {t : R2} {h : D → D → Sto → Option (List D × Sto)} (hr : OpF K t h) {f g : Ev} {σ : L2.St} {H : Hp} {Q : VK} (q : rdF K (fOp h f g) σ H Q) : tOp t (rdE K f) (rdE K g) σ H Q := by
  obtain ⟨A, r, S, e, d, S', s, re, ev, q⟩ := q
  unfold fOp at ev
  split at ev
  · rename_i d1 S1 e1
    split at ev
    · rename_i d2 S2 e2
      refine ⟨A, r, S, e, d1, S1, s, re, e1, fun v r1 H1 o1 s1 l1 => ⟨A, r1, S1, e, d2, S2, s1, re.mono o1, e2, fun v2 r2 H2 o2 s2 l2 => ?_⟩⟩
      exact hr A r2 H2 S2 v v2 d1 d2 d S' s2 (l1.mono o2) l2 ev Q fun p w r3 H3 o3 s3 h3 n3 => q p w r3 H3 ((o1.trans o2).trans o3) s3 ((o1.trans o2).back s2 h3) n3
    · cases ev
  · cases ev
theorem f_op {a b : Expr} {pos : Pos} {op : Operator} {t : R2} {h : D → D → Sto → Option (List D × Sto)} {f g : Ev} (ho : OpR X (binaryOp op) t) (hr : OpF K t h) (ha : PE X a (rdE K f)) (hb : PE X b (rdE K g)) : PE X (.BinOp a op b pos) (rdF K (fOp h f g)) := (pe_op ho ha hb).imp fun _ _ _ q => rd_opF hr q
/-- the new list at p -/
theorem fresh_F {A r : List Addr} {H : Hp} {S : Sto} {vs : List V} {ds : List D} {Q : VK} (s : SR K A r H S) (l : RlL K A r H vs ds) (q : ∀ p vs r' H', Evo r H r' H' → SR K (p :: A) r' H' S → H p = none → p ∉ A → H' p = some (.lst vs) → RlL K (p :: A) r' H' vs ds → Q (.ref p) H') :
    ∀ p, H p = none → Q (.ref p) (upd H p (.lst vs)) := fun p hp => q p vs r _ (.fresh hp) (s.hold hp) hp (s.notav hp) upd_same ((l.av hp).mono (.fresh hp))
def hCat : D → D → Sto → Option (List D × Sto) := fun x y S => match lstV S x, lstV S y with
  | some xs, some ys => if xs.length + ys.length ≤ 1000000 then some (xs ++ ys, S) else none
  | _, _ => none
theorem o_cat : OpF K rCat hCat := fun A r H S x y dx dy dz S' s lx ly e Q q => by
  unfold hCat at e
  split at e
  · rename_i xs ys h1 h2
    split at e
    · rename_i hl
      cases e
      obtain ⟨a, vs, rfl, ha, la⟩ := lstV_ok s lx h1
      obtain ⟨b, ws, rfl, hb, lb⟩ := lstV_ok s ly h2
      exact ⟨a, b, vs, ws, rfl, rfl, ha, hb, by rw [la.length, lb.length]; exact szM hl, fresh_F s (la.append lb) q⟩
    · cases e
  · cases e
theorem RlL.rep {A r : List Addr} {H : Hp} {vs : List V} {ds : List D} (l : RlL K A r H vs ds) : ∀ k : Nat, RlL K A r H (List.replicate k vs).flatten (List.replicate k ds).flatten
  | 0 => .nil
  | k + 1 => by
    rw [List.replicate_succ, List.replicate_succ, List.flatten_cons, List.flatten_cons]
    exact l.append (RlL.rep l k)
def hRepL : D → D → Sto → Option (List D × Sto) := fun x y S => match lstV S x, y with
  | some xs, .int k => if -(2 ^ 63) ≤ k ∧ k < 2 ^ 63 ∧ xs.length * k.toNat ≤ 1000000 then some ((List.replicate k.toNat xs).flatten, S) else none
  | _, _ => none
theorem o_repL : OpF K rRep hRepL := fun A r H S x y dx dy dz S' s lx ly e Q q => by
  unfold hRepL at e
  split at e
  · rename_i xs k h1
    split at e
    · rename_i hl
      cases e
      cases ly
      obtain ⟨a, vs, rfl, ha, la⟩ := lstV_ok s lx h1
      exact ⟨a, k, vs, rfl, rfl, ha, hl.1, hl.2.1, by rw [la.length]; exact szM hl.2.2, fresh_F s (la.rep k.toNat) q⟩
    · cases e
  · cases e

/-! ### in, flat items -/
def scL : List D → Option (List V)
  | [] => some []
  | d :: ds => match scV d, scL ds with
    | some v, some vs => some (v :: vs)
    | _, _ => none
theorem scV_flat {d : D} {v : V} (h : scV d = some v) : flatV v = true := by
  cases d <;> first | (cases h; rfl) | cases h
theorem scL_ok {A r : List Addr} {H : Hp} : ∀ {vs ws : List V} {ds : List D}, RlL K A r H vs ds → scL ds = some ws → vs = ws ∧ ws.all flatV = true
  | _, _, _, .nil, h => by
    cases h
    exact ⟨rfl, rfl⟩
  | _, _, _, .cons (d := d) l t, h => by
    unfold scL at h
    split at h
    · rename_i v vs h1 h2
      cases h
      obtain ⟨e1, e2⟩ := scL_ok t h2
      subst e1
      rw [scV_ok l h1]
      exact ⟨rfl, by rw [List.all_cons, scV_flat h1, e2]; rfl⟩
    · cases h
def inD (S : Sto) (x y : D) : Option Bool := match scV x, seqOf S y with
  | some v, some ds => (scL ds).map fun vs => inV v vs
  | _, _ => none
def hIn : D → D → Sto → Option (D × Sto) := fun x y S => (inD S x y).map fun b => (.bl b, S)
def hNin : D → D → Sto → Option (D × Sto) := fun x y S => (inD S x y).map fun b => (.bl (!b), S)
theorem o_inG {neg : Bool} : OpDS K (rIn K neg) (fun x y S => (inD S x y).map fun b => (.bl (if neg then !b else b), S)) := fun A r H S x y dx dy dz S' s lx ly e Q q => by
  cases h : inD S dx dy with
  | none =>
    simp only [h] at e
    cases e
  | some b =>
    simp only [h] at e
    cases e
    unfold inD at h
    split at h
    · rename_i v ds h1 h2
      obtain ⟨a, vs, rfl, hq, l⟩ := seq_ok s ly h2
      cases h3 : scL ds with
      | none => rw [h3] at h; cases h
      | some ws =>
        rw [h3] at h
        cases h
        obtain ⟨e1, e2⟩ := scL_ok l h3
        subst e1
        refine ⟨a, vs, rfl, hq, ?_, e2, ?_⟩
        · rw [scV_ok lx h1]
          exact scV_flat h1
        · rw [scV_ok lx h1]
          exact q _ r H .refl s (.bl _)
    · cases h
theorem o_in : OpDS K (rIn K false) hIn := o_inG
theorem o_nin : OpDS K (rIn K true) hNin := o_inG
theorem op_inA (hu : X.A.units + 64 < cLine) : OpR X (compareOp .In) (rIn X.K false) := op_in_seq
theorem op_ninA (hu : X.A.units + 64 < cLine) : OpR X (compareOp .NotIn) (rIn X.K true) := op_notIn_seq

/-! ### index, insert -/
def ixOf (y : V) : List V → Option Nat
  | [] => none
  | z :: zs => if eqV z y = true then some 0 else (ixOf y zs).map (· + 1)
theorem ixOf_ok {y : V} : ∀ {zs : List V} {j : Nat}, ixOf y zs = some j → ∃ z, zs[j]? = some z ∧ eqV z y = true ∧ ∀ (m : Nat) z', m < j → zs[m]? = some z' → eqV z' y = false
  | [], j, h => by cases h
  | z :: zs, j, h => by
    unfold ixOf at h
    split at h
    · cases h
      exact ⟨z, rfl, by assumption, fun m z' hm => absurd hm (Nat.not_lt_zero _)⟩
    · rename_i hz
      cases h2 : ixOf y zs with
      | none => rw [h2] at h; cases h
      | some k =>
        rw [h2] at h
        cases h
        obtain ⟨w, h3, h4, h5⟩ := ixOf_ok h2
        refine ⟨w, by simpa using h3, h4, fun m z' hm hz' => ?_⟩
        cases m with
        | zero =>
          simp at hz'
          subst hz'
          exact Bool.eq_false_iff.mpr hz
        | succ m => exact h5 m z' (Nat.lt_of_succ_lt_succ hm) (by simpa using hz')
def hIdx : Mh := fun x ds S => match lstOf S x, ds with
  | some ys, [y] => match scV y, scL ys with
    | some v, some vs => (ixOf v vs).map fun j => (.int (j : Nat), S)
    | _, _ => none
  | _, _ => none
theorem m_idx : MeD K (rIndex K) hIdx := fun A r H S x xs dx ds dz S' s lx lxs e Q q => by
  unfold hIdx at e
  split at e
  · rename_i ys y h1
    obtain ⟨w, rfl, ly⟩ := one_rl lxs
    obtain ⟨a, vs, rfl, hq, l⟩ := lst_ok s lx h1
    split at e
    · rename_i v ws h2 h3
      obtain ⟨e1, e2⟩ := scL_ok l h3
      subst e1
      have e3 := scV_ok ly h2
      subst e3
      cases h4 : ixOf w vs with
      | none => rw [h4] at e; cases e
      | some j =>
        rw [h4] at e
        cases e
        obtain ⟨z, h5, h6, h7⟩ := ixOf_ok h4
        exact ⟨a, vs, w, j, z, rfl, rfl, hq, scV_flat h2, e2, h5, h6, h7, q _ r H .refl s (.int _)⟩
    · cases e
  · cases e
def hIns : Mh := fun x ds S => match x, ds with
  | .ref l, [.int i, y] => match stL S l with
    | some xs => if xs.length < 1000000 ∧ 0 ≤ i ∧ i < 2 ^ 63 then some (.non, S.set l (.lst (xs.take i.toNat ++ [y] ++ xs.drop i.toNat))) else none
    | none => none
  | _, _ => none
theorem m_ins : MeD K (fun x vs H Q => ∃ (l : Addr) (xs : List V) (i : Int) (y : V), x = .ref l ∧ vs = [.int i, y] ∧ H l = some (.lst xs) ∧ xs.length < sizeLine ∧ 0 ≤ i ∧ i < 2 ^ 63 ∧
    Q .non (upd H l (.lst (xs.take i.toNat ++ [y] ++ xs.drop i.toNat)))) hIns := fun A r H S x xs dx ds dz S' s lx lxs e Q q => by
  unfold hIns at e
  split at e
  · rename_i l i y
    cases lx with
    | @ref a _ hr =>
    obtain ⟨v, w, rfl, l1, l2⟩ := two_rl lxs
    cases l1
    split at e
    · rename_i zs hz
      split at e
      · rename_i hl
        cases e
        obtain ⟨vs, hv, lv⟩ := stL_ok s hr hz
        obtain ⟨e1, s1⟩ := s.setL hr (((lv.take i.toNat).append (.cons l2 .nil)).append (lv.drop i.toNat))
        refine ⟨a, vs, i, w, rfl, rfl, hv, ?_, hl.2.1, hl.2.2, q _ r _ e1 s1 .non⟩
        rw [lv.length]
        exact Nat.lt_of_lt_of_le hl.1 (by decide)
      · cases e
    · cases e
  · cases e

/-! ### sorted -/
def insI (x : Int) : List Int → List Int
  | [] => [x]
  | y :: ys => if x ≤ y then x :: y :: ys else y :: insI x ys
def srtI : List Int → List Int
  | [] => []
  | x :: xs => insI x (srtI xs)
theorem insI_perm (x : Int) : ∀ ys, (insI x ys).Perm (x :: ys)
  | [] => .refl _
  | y :: ys => by
    unfold insI
    split
    · exact .refl _
    · exact ((insI_perm x ys).cons y).trans (.swap x y ys)
theorem srtI_perm : ∀ xs, (srtI xs).Perm xs
  | [] => .refl _
  | x :: xs => (insI_perm x _).trans ((srtI_perm xs).cons x)
theorem insI_sorted {x : Int} : ∀ {ys : List Int}, ys.Pairwise (· ≤ ·) → (insI x ys).Pairwise (· ≤ ·)
  | [], _ => by simp [insI]
  | y :: ys, h => by
    obtain ⟨h1, h2⟩ := List.pairwise_cons.mp h
    unfold insI
    split
    · rename_i hx
      refine List.pairwise_cons.mpr ⟨fun z hz => ?_, h⟩
      rcases List.mem_cons.mp hz with e | hz
      · rw [e]; exact hx
      · exact Int.le_trans hx (h1 z hz)
    · rename_i hx
      refine List.pairwise_cons.mpr ⟨fun z hz => ?_, insI_sorted h2⟩
      rcases List.mem_cons.mp ((insI_perm x ys).mem_iff.mp hz) with e | hz
      · rw [e]; omega
      · exact h1 z hz
theorem srtI_sorted : ∀ xs, (srtI xs).Pairwise (· ≤ ·)
  | [] => .nil
  | _ :: xs => insI_sorted (srtI_sorted xs)
theorem sorted_uniq : ∀ {xs ys : List Int}, xs.Perm ys → xs.Pairwise (· ≤ ·) → ys.Pairwise (· ≤ ·) → xs = ys
  | [], ys, p, _, _ => (List.nil_perm.mp p).symm
  | x :: xs, [], p, _, _ => by
    have := p.length_eq
    cases this
  | x :: xs, y :: ys, p, h, k => by
    obtain ⟨h1, h2⟩ := List.pairwise_cons.mp h
    obtain ⟨k1, k2⟩ := List.pairwise_cons.mp k
    have e : x = y := by
      have m1 : x ∈ y :: ys := p.mem_iff.mp List.mem_cons_self
      have m2 : y ∈ x :: xs := p.mem_iff.mpr List.mem_cons_self
      rcases List.mem_cons.mp m1 with e | m1
      · exact e
      · rcases List.mem_cons.mp m2 with e | m2
        · exact e.symm
        · exact Int.le_antisymm (h1 y m2) (k1 x m1)
    subst e
    rw [sorted_uniq (p.cons_inv) h2 k2]
def kSrt : List D → Sto → Option (List D × Sto) := fun ds S => match ds with
  | [x] => match lstOf S x with
    | some ys => (intsOf ys).map fun ns => ((srtI ns).map D.int, S)
    | none => none
  | _ => none
theorem k_srt : ClF K (rSortedI K) kSrt := fun A r H S xs ds dz S' s t e Q q => by
  unfold kSrt at e
  split at e
  · obtain ⟨v, rfl, l⟩ := one_rl t
    split at e
    · rename_i ys h1
      obtain ⟨a, vs, rfl, hq, l2⟩ := lst_ok s l h1
      cases h2 : intsOf ys with
      | none => rw [h2] at e; cases e
      | some ns =>
        rw [h2] at e
        cases e
        have e1 := intsOf_eq h2
        subst e1
        have e2 := l2.ints
        subst e2
        refine ⟨a, ns, rfl, hq, fun ns' p hp hs hn => ?_⟩
        have e3 : ns' = srtI ns := sorted_uniq (hp.trans (srtI_perm ns).symm) hs (srtI_sorted ns)
        subst e3
        exact fresh_F s (RlL.of_ints _) q p hn
    · cases e
  · cases e

/-! ### y = [comprehension] -/
section
variable {f : Iv} {g : Gv} {c : Tv} {x : Ev} {elt tg iter : Expr} {ifs : List Expr} {scope : Scope} {pos py spos : Pos} {y : Str} {i : Nat}
theorem s_setLcF (own : List (Str × Nat)) {vs : List Nat} (hvs : own.map (·.2) = vs) (hc : X.calm = true) (hN : X.N.Nodup) (hy : X.N[i]? = some y) (hyl : X.env.scope.names.lookup y = some .local)
    (hsw : swapsWith (.ListComp elt [⟨tg, iter, ifs, 0⟩] scope pos) (some (.Name y py)) spos.line X.env = pure true) (ok : BlkOk X.N X.env.scope scope own) (hi : PI X tg iter (rdI K f))
    (hg : ∀ (s : Shared) (H : Hp) (C : Addr) (cl : List (Str × Addr)) (fp : List Addr), PG (X.blk s H scope (compEnvC scope cl C X.env) fp) tg (rdG K vs g)) (ht : ∀ (s : Shared) (H : Hp) (C : Addr) (cl : List (Str × Addr)) (fp : List Addr), PTs (X.blk s H scope (compEnvC scope cl C X.env) fp) ifs (rdT K c))
    (he : ∀ (s : Shared) (H : Hp) (C : Addr) (cl : List (Str × Addr)) (fp : List Addr), PE (X.blk s H scope (compEnvC scope cl C X.env) fp) elt (rdE K x)) (hs : ∀ x, foldedSetIterable iter X.env x = pure x := by intro _; rfl) :
    PS X (.Assign [.Name y py] (.ListComp elt [⟨tg, iter, ifs, 0⟩] scope pos) spos) (rdS K (sSet i (eF (fLc vs f g c x)))) := by
  subst hvs
  refine (ps_setLc hc hN hy hyl hsw hi ok hg ht he hs).imp fun D σ H q => ?_
  have q2 := rd_set q
  exact rd_lc (rd_eF q2)
theorem s_setLcA (own : List (Str × Nat)) {vs : List Nat} (hvs : own.map (·.2) = vs) (hc : X.calm = true) (hN : X.N.Nodup) (hy : X.N[i]? = some y) (hyl : X.env.scope.names.lookup y = some .local)
    (hsw : swapsWith (.ListComp elt [⟨tg, iter, ifs, 0⟩] scope pos) (some (.Name y py)) spos.line X.env = pure true) (ok : BlkOk X.N X.env.scope scope own) (hi : PI X tg iter (rdI K f))
    (hg : ∀ (s : Shared) (H : Hp) (C : Addr) (cl : List (Str × Addr)) (fp : List Addr), PG (X.blk s H scope (compEnvC scope cl C X.env) fp) tg (rdG K vs g)) (ht : ∀ (s : Shared) (H : Hp) (C : Addr) (cl : List (Str × Addr)) (fp : List Addr), PTs (X.blk s H scope (compEnvC scope cl C X.env) fp) ifs (rdT K c))
    (he : ∀ (s : Shared) (H : Hp) (C : Addr) (cl : List (Str × Addr)) (fp : List Addr), PE (X.blk s H scope (compEnvC scope cl C X.env) fp) elt (rdE K x)) (hs : ∀ x, foldedSetIterable iter X.env x = pure x := by intro _; rfl) :
    PS X (.Assign [.Name y py] (.ListComp elt [⟨tg, iter, ifs, 0⟩] scope pos) spos) (rdS K (sSet i (eA (fLc vs f g c x)))) := by
  subst hvs
  refine (ps_setLc hc hN hy hyl hsw hi ok hg ht he hs).imp fun D σ H q => ?_
  have q2 := rd_set q
  exact rd_lc (rd_eA q2)
end
end
end Tr
namespace Tr
open PySem PySem.Spec PyProof.Rows L2

/-! ### dicts: keys and values apart -/
def keyOf : D → Option L2.Key
  | .int i => some (.inl i)
  | .str x => some (.inr x)
  | _ => none
def keysOf : List D → Option (List L2.Key)
  | [] => some []
  | d :: ds => match keyOf d, keysOf ds with
    | some k, some ks => some (k :: ks)
    | _, _ => none
def keyTOf : D → Option (List L2.Key)
  | .tup ds => keysOf ds
  | _ => none
section
variable {κ : Type} [DecidableEq κ]
def lk : List κ → List D → κ → Option D
  | k' :: ks, d :: ds, k => if k' = k then some d else lk ks ds k
  | _, _, _ => none
def rpl : List κ → List D → κ → D → List D
  | k' :: ks, d :: ds, k, v => (if k' = k then v else d) :: rpl ks ds k v
  | _, ds, _, _ => ds
def pkD (ks : List κ) (ds : List D) (k : κ) (v : D) : List κ × List D := if k ∈ ks then (ks, rpl ks ds k v) else (ks ++ [k], ds ++ [v])
def mrgD (ps : List (κ × D)) (ks : List κ) (ds : List D) : List κ × List D := ps.foldl (fun z p => pkD z.1 z.2 p.1 p.2) (ks, ds)
end
section
variable {κ : Type} [DecidableEq κ] {K : PySem.W.Frag} {A r : List Addr} {H : Hp} {S : Sto}
theorem lk_ok : ∀ {kvs : List (κ × V)} {ds : List D} {k : κ}, RlL K A r H (kvs.map (·.2)) ds → (∀ d, lk (kvs.map (·.1)) ds k = some d → ∃ v, valV kvs k = some v ∧ Rl K A r H v d) ∧ (lk (kvs.map (·.1)) ds k = none → valV kvs k = none)
  | [], _, _, .nil => ⟨fun d h => by simp [lk] at h, fun _ => rfl⟩
  | (k', v) :: kvs, _, k, .cons (d := d) h t => by
    obtain ⟨i1, i2⟩ := lk_ok (k := k) t
    constructor
    · intro d' h'
      simp only [List.map_cons, lk] at h'
      split at h'
      · rename_i e
        cases h'
        exact ⟨v, valV_pos e, h⟩
      · rename_i e
        obtain ⟨w, h1, h2⟩ := i1 d' h'
        exact ⟨w, by rw [valV_neg e]; exact h1, h2⟩
    · intro h'
      simp only [List.map_cons, lk] at h'
      split at h'
      · cases h'
      · rename_i e
        rw [valV_neg e]
        exact i2 h'
theorem rpl_ok {k : κ} {v : V} {d : D} (l : Rl K A r H v d) : ∀ {kvs : List (κ × V)} {ds : List D}, RlL K A r H (kvs.map (·.2)) ds → RlL K A r H ((kvs.map (fun kv => if kv.1 = k then (kv.1, v) else kv)).map (·.2)) (rpl (kvs.map (·.1)) ds k d)
  | [], _, .nil => .nil
  | (k', w) :: kvs, _, .cons h t => by
    simp only [List.map_cons, rpl]
    refine .cons ?_ (rpl_ok l t)
    by_cases e : k' = k
    · simp only [e, if_true]
      exact l
    · simp only [e, if_false]
      exact h
theorem rpl_keys {k : κ} {v : V} : ∀ {kvs : List (κ × V)}, (kvs.map (fun kv => if kv.1 = k then (kv.1, v) else kv)).map (·.1) = kvs.map (·.1)
  | [] => rfl
  | (k', w) :: kvs => by
    simp only [List.map_cons]
    rw [rpl_keys]
    by_cases e : k' = k <;> simp [e]
theorem pk_ok {k : κ} {v : V} {d : D} (l : Rl K A r H v d) {kvs : List (κ × V)} {ds : List D} (t : RlL K A r H (kvs.map (·.2)) ds) : (putK kvs k v).map (·.1) = (pkD (kvs.map (·.1)) ds k d).1 ∧ RlL K A r H ((putK kvs k v).map (·.2)) (pkD (kvs.map (·.1)) ds k d).2 := by
  unfold putK pkD
  by_cases e : k ∈ kvs.map (·.1)
  · have e2 : (kvs.any fun kv => decide (kv.1 = k)) = true := by
      obtain ⟨p, h1, h2⟩ := List.mem_map.mp e
      exact List.any_eq_true.mpr ⟨p, h1, decide_eq_true h2⟩
    rw [if_pos e2, if_pos e]
    exact ⟨rpl_keys, rpl_ok l t⟩
  · have e2 : ¬ (kvs.any fun kv => decide (kv.1 = k)) = true := fun h => by
      obtain ⟨p, h1, h2⟩ := List.any_eq_true.mp h
      exact e (List.mem_map.mpr ⟨p, h1, of_decide_eq_true h2⟩)
    rw [if_neg e2, if_neg e]
    exact ⟨by simp, by rw [List.map_append]; exact t.append (.cons l .nil)⟩
theorem mrg_ok : ∀ {more : List (κ × V)} {ps : List (κ × D)} {kvs : List (κ × V)} {ds : List D}, more.map (·.1) = ps.map (·.1) → RlL K A r H (more.map (·.2)) (ps.map (·.2)) → RlL K A r H (kvs.map (·.2)) ds →
    (more.foldl (fun acc kv => putK acc kv.1 kv.2) kvs).map (·.1) = (mrgD ps (kvs.map (·.1)) ds).1 ∧ RlL K A r H ((more.foldl (fun acc kv => putK acc kv.1 kv.2) kvs).map (·.2)) (mrgD ps (kvs.map (·.1)) ds).2
  | [], [], kvs, ds, _, _, t => ⟨rfl, t⟩
  | [], p :: ps, _, _, e, _, _ => by cases e
  | m :: more, [], _, _, e, _, _ => by cases e
  | m :: more, p :: ps, kvs, ds, e, .cons h t', t => by
    simp only [List.map_cons, List.cons.injEq] at e
    obtain ⟨e1, e2⟩ := e
    obtain ⟨i1, i2⟩ := pk_ok (k := m.1) h t
    have := mrg_ok e2 t' i2
    rw [i1] at this
    simp only [List.foldl_cons, mrgD] at this ⊢
    rw [← e1]
    exact this
/-! ### what is a dict -/
def dkOf (S : Sto) : D → Option (List L2.Key × List D)
  | .dk ks ds => some (ks, ds)
  | .ref l => match S[l]? with
    | some (.dk ks ds) => some (ks, ds)
    | _ => none
  | _ => none
def dtOf (S : Sto) : D → Option (List (List L2.Key) × List D)
  | .dt ks ds => some (ks, ds)
  | .ref l => match S[l]? with
    | some (.dt ks ds) => some (ks, ds)
    | _ => none
  | _ => none
theorem dkOf_ok (s : SR K A r H S) {x : V} {d : D} (l : Rl K A r H x d) {ks ds} (h : dkOf S d = some (ks, ds)) : ∃ a kvs, x = .ref a ∧ H a = some (.dK kvs) ∧ kvs.map (·.1) = ks ∧ RlL K A r H (kvs.map (·.2)) ds := by
  unfold dkOf at h
  split at h
  · cases h
    cases l with
    | dk ha hA hh hs => exact ⟨_, _, rfl, hh, rfl, hs⟩
  · rename_i l'
    split at h
    · rename_i e
      cases h
      cases l with
      | ref hr =>
        obtain ⟨kvs, h1, h2, h3⟩ := s.obj _ _ _ hr e
        exact ⟨_, kvs, rfl, h1, h2, h3⟩
    · cases h
  · cases h
theorem dtOf_ok (s : SR K A r H S) {x : V} {d : D} (l : Rl K A r H x d) {ks ds} (h : dtOf S d = some (ks, ds)) : ∃ a kvs, x = .ref a ∧ H a = some (.dT kvs) ∧ kvs.map (·.1) = ks ∧ RlL K A r H (kvs.map (·.2)) ds := by
  unfold dtOf at h
  split at h
  · cases h
    cases l with
    | dt ha hA hh hs => exact ⟨_, _, rfl, hh, rfl, hs⟩
  · rename_i l'
    split at h
    · rename_i e
      cases h
      cases l with
      | ref hr =>
        obtain ⟨kvs, h1, h2, h3⟩ := s.obj _ _ _ hr e
        exact ⟨_, kvs, rfl, h1, h2, h3⟩
    · cases h
  · cases h
theorem keyOf_ok {x : V} {d : D} {k : L2.Key} (l : Rl K A r H x d) (h : keyOf d = some k) : x = kV k := by
  unfold keyOf at h
  split at h <;> first | (cases h; cases l; rfl) | cases h
theorem keysOf_ok : ∀ {vs : List V} {ds : List D} {ks : List L2.Key}, RlL K A r H vs ds → keysOf ds = some ks → vs = ks.map kV
  | _, _, _, .nil, h => by
    cases h
    rfl
  | _, _, _, .cons l t, h => by
    unfold keysOf at h
    split at h
    · rename_i k ks h1 h2
      cases h
      rw [keyOf_ok l h1, keysOf_ok t h2]
      rfl
    · cases h
theorem keyTOf_ok {x : V} {d : D} {k : List L2.Key} (l : Rl K A r H x d) (h : keyTOf d = some k) : ∃ b, x = .ref b ∧ H b = some (.tup (k.map kV)) := by
  unfold keyTOf at h
  split at h
  · cases l with
    | tup a t =>
      have := keysOf_ok t h
      subst this
      exact ⟨_, rfl, a.2.2⟩
  · cases h
/-- d[y], by data: none where it fails to be said -/
def getD (S : Sto) (x y : D) : Option (Option D) := match dkOf S x, keyOf y with
  | some (ks, ds), some k => some (lk ks ds k)
  | _, _ => match dtOf S x, keyTOf y with
    | some (ks, ds), some k => some (lk ks ds k)
    | _, _ => none
def IsDD (S : Sto) (x : D) : Bool := (dkOf S x).isSome || (dtOf S x).isSome
theorem isDD_ok (s : SR K A r H S) {x : V} {d : D} (l : Rl K A r H x d) (h : IsDD S d = true) : ∃ a, x = .ref a ∧ IsD H a := by
  unfold IsDD at h
  cases h1 : dkOf S d with
  | some p =>
    obtain ⟨a, kvs, e, h2, _⟩ := dkOf_ok s l (ks := p.1) (ds := p.2) h1
    exact ⟨a, e, .inl ⟨_, .inl h2⟩⟩
  | none =>
    rw [h1] at h
    cases h2 : dtOf S d with
    | some p =>
      obtain ⟨a, kvs, e, h3, _⟩ := dtOf_ok s l (ks := p.1) (ds := p.2) h2
      exact ⟨a, e, .inr ⟨_, .inl h3⟩⟩
    | none =>
      rw [h2] at h
      cases h
def OptR (K : PySem.W.Frag) (A r : List Addr) (H : Hp) (ov : Option V) : Option D → Prop
  | some dv => ∃ v, ov = some v ∧ Rl K A r H v dv
  | none => ov = none
theorem getD_ok (s : SR K A r H S) {x y : V} {d e : D} (l : Rl K A r H x d) (l2 : Rl K A r H y e) {o : Option D} (h : getD S d e = some o) : ∃ a ov, x = .ref a ∧ IsD H a ∧ DGet H a y ov ∧ OptR K A r H ov o := by
  unfold getD at h
  split at h
  · rename_i ks ds k h1 h2
    cases h
    obtain ⟨a, kvs, rfl, ha, e1, t⟩ := dkOf_ok s l h1
    subst e1
    obtain ⟨i1, i2⟩ := lk_ok (k := k) t
    refine ⟨a, valV kvs k, rfl, .inl ⟨_, .inl ha⟩, .inl ⟨kvs, k, .inl ha, keyOf_ok l2 h2, rfl⟩, ?_⟩
    cases e2 : lk (kvs.map (·.1)) ds k with
    | some dv => exact i1 dv e2
    | none => exact i2 e2
  · split at h
    · rename_i ks ds k h1 h2
      cases h
      obtain ⟨a, kvs, rfl, ha, e1, t⟩ := dtOf_ok s l h1
      subst e1
      obtain ⟨i1, i2⟩ := lk_ok (k := k) t
      obtain ⟨b, rfl, hb⟩ := keyTOf_ok l2 h2
      refine ⟨a, valV kvs k, rfl, .inr ⟨_, .inl ha⟩, .inr ⟨kvs, k, b, .inl ha, rfl, hb, rfl⟩, ?_⟩
      cases e2 : lk (kvs.map (·.1)) ds k with
      | some dv => exact i1 dv e2
      | none => exact i2 e2
    · cases h
def hDix : D → D → Sto → Option (D × Sto) := fun x y S => match getD S x y with
  | some (some v) => some (v, S)
  | _ => none
variable {X : Cx} {f g k : Ev} {σ : L2.St} {Q : VK}
theorem hu1 {n : Nat} (h : n + 64 < cLine) : n + 1 < cLine := by omega
theorem x_dix {o i : Expr} {pos : Pos} (hK : X.K = K) (hu : X.A.units + 64 < cLine) (ho : PE X o (rdE K f)) (hi : PE X i (rdE K g)) (hs : NoSl i := by intro _ _; rfl) : PE X (.Subscript o i pos) (rdE K (eOpS hDix f g)) := by
  refine (pe_dget (hu1 hu) ho hi hs).imp fun σ H Q q => ?_
  obtain ⟨A, r, S, e, d, S', s, re, ev, q⟩ := q
  unfold eOpS at ev
  split at ev
  · rename_i d1 S1 e1
    split at ev
    · rename_i d2 S2 e2
      refine ⟨A, r, S, e, d1, S1, s, re, e1, fun v r1 H1 o1 s1 l1 => ⟨A, r1, S1, e, d2, S2, s1, re.mono o1, e2, fun v2 r2 H2 o2 s2 l2 => ?_⟩⟩
      unfold hDix at ev
      split at ev
      · rename_i dv h1
        cases ev
        obtain ⟨a, ov, ea, _, g1, w, ew, lw⟩ := getD_ok s2 (l1.mono o2) l2 h1
        subst ew
        exact ⟨a, w, ea, g1, q w r2 H2 (o1.trans o2) s2 lw⟩
      · cases ev
    · cases ev
  · cases ev
/-- d.get(y), d.get(y, z) -/
def eGet1 (f g : Ev) : Ev := fun e S => match f e S with
  | some (x, S1) => if IsDD S1 x then (match g e S1 with
    | some (y, S2) => match getD S2 x y with
      | some (some v) => some (v, S2)
      | some none => some (.non, S2)
      | none => none
    | none => none) else none
  | none => none
def eGet2 (f g k : Ev) : Ev := fun e S => match f e S with
  | some (x, S1) => if IsDD S1 x then (match g e S1 with
    | some (y, S2) => match k e S2 with
      | some (z, S3) => match getD S3 x y with
        | some (some v) => some (v, S3)
        | some none => some (z, S3)
        | none => none
      | none => none
    | none => none) else none
  | none => none
theorem x_get1 {o y : Expr} {apos cpos : Pos} (hu : X.A.units + 64 < cLine) (ho : PE X o (rdE K f)) (hi : PE X y (rdE K g)) (m : M1 X o "get" apos y cpos := by exact ⟨rfl, rfl, rfl, rfl⟩) : PE X (.Call (.Attribute o "get" apos) [y] [] cpos) (rdE K (eGet1 f g)) := by
  refine (pe_dget1 (hu1 hu) ho hi m).imp fun σ H Q q => ?_
  obtain ⟨A, r, S, e, d, S', s, re, ev, q⟩ := q
  unfold eGet1 at ev
  split at ev
  · rename_i d1 S1 e1
    split at ev
    · rename_i hd
      split at ev
      · rename_i d2 S2 e2
        refine ⟨A, r, S, e, d1, S1, s, re, e1, fun v r1 H1 o1 s1 l1 => ?_⟩
        obtain ⟨a, rfl, isd⟩ := isDD_ok s1 l1 hd
        refine ⟨a, rfl, isd, A, r1, S1, e, d2, S2, s1, re.mono o1, e2, fun v2 r2 H2 o2 s2 l2 => ?_⟩
        split at ev
        · rename_i dv h1
          cases ev
          obtain ⟨b, ov, ea, _, g1, w, ew, lw⟩ := getD_ok s2 (l1.mono o2) l2 h1
          cases ea
          subst ew
          exact ⟨_, g1, q w r2 H2 (o1.trans o2) s2 lw⟩
        · rename_i h1
          cases ev
          obtain ⟨b, ov, ea, _, g1, ew⟩ := getD_ok s2 (l1.mono o2) l2 h1
          cases ea
          have ew : ov = none := ew
          subst ew
          exact ⟨_, g1, q .non r2 H2 (o1.trans o2) s2 .non⟩
        · cases ev
      · cases ev
    · cases ev
  · cases ev
theorem x_get2 {o y z : Expr} {apos cpos : Pos} (hu : X.A.units + 64 < cLine) (ho : PE X o (rdE K f)) (hi : PE X y (rdE K g)) (hz : PE X z (rdE K k)) (m : M2 X o "get" apos y z cpos := by exact ⟨rfl, rfl, rfl, rfl⟩) : PE X (.Call (.Attribute o "get" apos) [y, z] [] cpos) (rdE K (eGet2 f g k)) := by
  refine (pe_dget2 (hu1 hu) ho hi hz m).imp fun σ H Q q => ?_
  obtain ⟨A, r, S, e, d, S', s, re, ev, q⟩ := q
  unfold eGet2 at ev
  split at ev
  · rename_i d1 S1 e1
    split at ev
    · rename_i hd
      split at ev
      · rename_i d2 S2 e2
        split at ev
        · rename_i d3 S3 e3
          refine ⟨A, r, S, e, d1, S1, s, re, e1, fun v r1 H1 o1 s1 l1 => ?_⟩
          obtain ⟨a, rfl, isd⟩ := isDD_ok s1 l1 hd
          refine ⟨a, rfl, isd, A, r1, S1, e, d2, S2, s1, re.mono o1, e2, fun v2 r2 H2 o2 s2 l2 => ?_⟩
          refine ⟨A, r2, S2, e, d3, S3, s2, (re.mono o1).mono o2, e3, fun v3 r3 H3 o3 s3 l3 => ?_⟩
          split at ev
          · rename_i dv h1
            cases ev
            obtain ⟨b, ov, ea, _, g1, w, ew, lw⟩ := getD_ok s3 ((l1.mono o2).mono o3) (l2.mono o3) h1
            cases ea
            subst ew
            exact ⟨_, g1, q w r3 H3 ((o1.trans o2).trans o3) s3 lw⟩
          · rename_i h1
            cases ev
            obtain ⟨b, ov, ea, _, g1, ew⟩ := getD_ok s3 ((l1.mono o2).mono o3) (l2.mono o3) h1
            cases ea
            have ew : ov = none := ew
            subst ew
            exact ⟨_, g1, q v3 r3 H3 ((o1.trans o2).trans o3) s3 l3⟩
          · cases ev
        · cases ev
      · cases ev
    · cases ev
  · cases ev
/-- y in d -/
def hInD : D → D → Sto → Option (D × Sto) := fun y x S => (getD S x y).map fun o => (.bl o.isSome, S)
def hNinD : D → D → Sto → Option (D × Sto) := fun y x S => (getD S x y).map fun o => (.bl (!o.isSome), S)
theorem rd_inD {b : Bool} {q0 : rdE K (eOpS (fun y x S => (getD S x y).map fun o => (.bl (if b then !o.isSome else o.isSome), S)) f g) σ H Q} :
    rdE K f σ H fun y H1 => rdE K g σ H1 fun x H2 => ∃ a o, x = .ref a ∧ DGet H2 a y o ∧ Q (.bl (if b then !o.isSome else o.isSome)) H2 := by
  obtain ⟨A, r, S, e, d, S', s, re, ev, q⟩ := q0
  unfold eOpS at ev
  split at ev
  · rename_i d1 S1 e1
    split at ev
    · rename_i d2 S2 e2
      refine ⟨A, r, S, e, d1, S1, s, re, e1, fun v r1 H1 o1 s1 l1 => ⟨A, r1, S1, e, d2, S2, s1, re.mono o1, e2, fun v2 r2 H2 o2 s2 l2 => ?_⟩⟩
      cases h1 : getD S2 d2 d1 with
      | none =>
        simp only [h1] at ev
        cases ev
      | some o =>
        simp only [h1] at ev
        cases ev
        obtain ⟨a, ov, ea, _, g1, hm⟩ := getD_ok s2 l2 (l1.mono o2) h1
        have eo : ov.isSome = o.isSome := by
          cases o with
          | some z =>
            obtain ⟨w, ew, _⟩ := hm
            rw [ew]
            rfl
          | none =>
            have hm : ov = none := hm
            rw [hm]
            rfl
        refine ⟨a, ov, ea, g1, ?_⟩
        rw [eo]
        exact q _ r2 H2 (o1.trans o2) s2 (.bl _)
    · cases ev
  · cases ev
theorem x_inD {i o : Expr} {pos : Pos} (hu : X.A.units + 64 < cLine) (hi : PE X i (rdE K f)) (ho : PE X o (rdE K g)) (hm : behindInMarks .In o = false := by rfl) : PE X (.Compare i [.In] [o] pos) (rdE K (eOpS hInD f g)) :=
  (pe_cmp (pc_din (hu1 hu) hi ho) hm).imp fun _ _ _ q => rd_inD (b := false) (q0 := q)
theorem x_ninD {i o : Expr} {pos : Pos} (hu : X.A.units + 64 < cLine) (hi : PE X i (rdE K f)) (ho : PE X o (rdE K g)) (hm : behindInMarks .NotIn o = false := by rfl) : PE X (.Compare i [.NotIn] [o] pos) (rdE K (eOpS hNinD f g)) :=
  (pe_cmp (pc_dnotin (hu1 hu) hi ho) hm).imp fun _ _ _ q => rd_inD (b := true) (q0 := q)
/-- d[y] = v -/
def hSetD (o i v : D) (S : Sto) : Option Sto := match o with
  | .ref l => match S[l]? with
    | some (.dk ks ds) => match keyOf i with
      | some k => if ks.length < 1000000 then some (S.set l (.dk (pkD ks ds k v).1 (pkD ks ds k v).2)) else none
      | none => none
    | some (.dt ks ds) => match keyTOf i with
      | some k => if ks.length < 1000000 then some (S.set l (.dt (pkD ks ds k v).1 (pkD ks ds k v).2)) else none
      | none => none
    | _ => none
  | _ => none
theorem set_dictA (hu : X.A.units + 64 < cLine) : PSet X rSetD := set_dict (hu1 hu)
theorem t_setD : StD K rSetD hSetD := fun A r H S o i v d1 d2 d3 S' s l1 l2 l3 e Q q => by
  unfold hSetD at e
  split at e
  · rename_i l
    cases l1 with
    | @ref a _ hr =>
    split at e
    · rename_i ks ds z1
      split at e
      · rename_i k z2
        split at e
        · rename_i hl
          cases e
          obtain ⟨kvs, h1, h2, h3⟩ := s.obj _ _ _ hr z1
          subst h2
          obtain ⟨i1, i2⟩ := pk_ok (k := k) l3 h3
          have eo : Evo r H r (upd H a (.dK (putK kvs k v))) := .write (List.mem_of_getElem? hr)
          refine ⟨a, _, rfl, .inl ⟨kvs, k, h1, keyOf_ok l2 z2, ?_, rfl⟩, q r _ eo (s.write hr ⟨_, upd_same, i1, i2.mono eo⟩)⟩
          rw [List.length_map] at hl
          exact Nat.lt_of_lt_of_le hl (by decide)
        · cases e
      · cases e
    · rename_i ks ds z1
      split at e
      · rename_i k z2
        split at e
        · rename_i hl
          cases e
          obtain ⟨kvs, h1, h2, h3⟩ := s.obj _ _ _ hr z1
          subst h2
          obtain ⟨i1, i2⟩ := pk_ok (k := k) l3 h3
          obtain ⟨b, rfl, hb⟩ := keyTOf_ok l2 z2
          have eo : Evo r H r (upd H a (.dT (putK kvs k v))) := .write (List.mem_of_getElem? hr)
          refine ⟨a, _, rfl, .inr ⟨kvs, k, b, h1, rfl, hb, ?_, rfl⟩, q r _ eo (s.write hr ⟨_, upd_same, i1, i2.mono eo⟩)⟩
          rw [List.length_map] at hl
          exact Nat.lt_of_lt_of_le hl (by decide)
        · cases e
      · cases e
    · cases e
  · cases e
end
end Tr
namespace Tr
open PySem PySem.Spec PyProof.Rows L2

/-! ### dict(xs), xs a list of pairs whose first is a tuple of ints and texts -/
def mergeT (kvs more : List (List L2.Key × V)) : List (List L2.Key × V) := more.foldl (fun acc kv => putK acc kv.1 kv.2) kvs
theorem KT_merge {H : Hp} : ∀ {more : List (List L2.Key × V)} {rs : List (List L2.Key × Addr × Value)} {kvs : List (List L2.Key × V)} {vs : List (List L2.Key × Addr × Value)}, KT H more rs → KT H kvs vs → KT H (mergeT kvs more) (storedAllH vs rs)
  | _, _, _, _, .nil, k => k
  | _, _, _, _, .cons h t, k => by
    obtain ⟨h1, h2, h3⟩ := h
    have k2 := k.put _ h2 h3
    have this := KT_merge t k2
    show KT H (mergeT (putK _ _ _) _) (storedAllH (storedH _ _ _ _) _)
    rw [← h1]
    exact this
theorem putK_len {κ : Type} [DecidableEq κ] (kvs : List (κ × V)) (k : κ) (v : V) : (putK kvs k v).length ≤ kvs.length + 1 := by
  unfold putK
  split <;> simp
theorem mergeT_len : ∀ (more kvs : List (List L2.Key × V)), (mergeT kvs more).length ≤ kvs.length + more.length
  | [], kvs => Nat.le_refl _
  | m :: more, kvs => by
    have h1 := mergeT_len more (putK kvs m.1 m.2)
    have h2 := putK_len kvs m.1 m.2
    show (mergeT (putK kvs m.1 m.2) more).length ≤ _
    rw [List.length_cons]
    omega
section
variable {X : Cx}
theorem pairs_T {pins : List (Addr × Obj)} {σ : L2.St} {H : Hp} {s : Shared} (I : Inv X pins σ H s) : ∀ {ps : List Addr} {kvs : List (List L2.Key × V)}, Paired (fun p kv => ∃ b, SqT X.K H p [.ref b, kv.2] ∧ H b = some (.tup (kv.1.map kV))) ps kvs →
    ∃ prs : List (List L2.Key × Addr × Value), KT H kvs prs ∧ prs.length = ps.length ∧ ∀ (j : Nat) q, prs[j]? = some q → ∃ p : Addr, ps[j]? = some p ∧ IsTup s.heap p #[.ref q.2.1, q.2.2]
  | _, _, .nil => ⟨[], .nil, rfl, fun j q e => by simp at e⟩
  | _, _, .cons (a := p) (b := kv) h t => by
    obtain ⟨prs, rl, hl, hp⟩ := pairs_T I t
    obtain ⟨b, hq, hb⟩ := h
    obtain ⟨its, rv, ht, _⟩ := I.tuple hq
    obtain ⟨u, y, ei, ru, ry⟩ := vals2 rv
    subst ei
    cases ru
    refine ⟨(kv.1, b, y) :: prs, .cons ⟨rfl, hb, ry⟩ rl, by rw [List.length_cons, List.length_cons, hl], fun j q e => ?_⟩
    cases j with
    | zero =>
      have e' : (kv.1, b, y) = q := Option.some.inj e
      subst e'
      exact ⟨p, rfl, ht⟩
    | succ j =>
      obtain ⟨p', e1, e2⟩ := hp j q (by simpa using e)
      exact ⟨p', by simpa using e1, e2⟩
theorem kt_keys {H : Hp} {h : Heap} (ok : HOk X.prog X.w H h) : ∀ {kvs : List (List L2.Key × V)} {prs : List (List L2.Key × Addr × Value)}, KT H kvs prs → ∀ x ∈ prs, (tupleKind (mixKind X.prog X.w)).is h x.1 x.2.1
  | _, _, .nil, x, hx => nomatch hx
  | _, _, .cons hq t, x, hx => by
    rcases List.mem_cons.mp hx with e | hx
    · subst e
      exact key_of ok (by rw [← hq.1]; exact hq.2.1)
    · exact kt_keys ok t x hx
theorem call_dictPT (hc : X.calm = true) (hu : X.A.units + 64 < cLine) : CallR X (.type "dict") (fun xs H Q => ∃ (a : Addr) (ps : List Addr) (kvs : List (List L2.Key × V)), xs = [.ref a] ∧ SqL X.K H a (ps.map V.ref) ∧
    Paired (fun p kv => ∃ b, SqT X.K H p [.ref b, kv.2] ∧ H b = some (.tup (kv.1.map kV))) ps kvs ∧ ∀ p, H p = none → Q (.ref p) (upd H p (.dT (mergeT [] kvs)))) := by
  intro pins s σ H xs us Q I rl q
  obtain ⟨a, ps, kvs, ex, hq, hp, q⟩ := q
  subst ex
  obtain ⟨u, eu, rx⟩ := vals1 rl
  subst eu
  cases rx
  obtain ⟨its, rv, ⟨o, n, ho, hcl, hd, hdat⟩, hz⟩ := I.list hq
  have ei := refs_at rv
  subst ei
  rw [List.length_map] at hz
  obtain ⟨prs, rel, hl, hpr⟩ := pairs_T I hp
  have hm : (s.heap.objs.size == sysModules) = false := beq_eq_false_iff_ne.mpr (Nat.ne_of_gt I.big)
  have hks := kt_keys I.hok rel
  have hlen : (mergeT [] kvs).length ≤ sizeLine := by
    refine Nat.le_trans (mergeT_len kvs []) ?_
    rw [List.length_nil, Nat.zero_add, Paired.length rel, hl]
    exact hz
  refine call_dict_pairsH (knd := tupleKind (mixKind X.prog X.w)) (ps := prs) (PairArg.list a _ (fun j => ps.getD j 0) (prs.map fun q => (Value.ref q.2.1, q.2.2))) (I.ok.hd hc) ?_ ⟨⟨o, n, ho, hcl, hd, hdat⟩, ?_, fun j k v hj => ?_⟩ ⟨?_, fun i key v hr => ?_⟩ (fun h' hk x hx => ?_) ?_ fun h' tk hd' hk => ?_
  · show X.A.in1.in1.units < cLine
    have e : X.A.in1.in1.units = X.A.units + 2 := rfl
    omega
  · simp [hl]
  · rw [List.getElem?_map] at hj
    cases e : prs[j]? with
    | none => rw [e] at hj; cases hj
    | some x =>
      rw [e] at hj
      cases hj
      obtain ⟨p, e1, e2⟩ := hpr j x e
      have e3 : ps.getD j 0 = p := by rw [List.getD_eq_getElem?_getD, e1]; rfl
      refine ⟨by simp [e1, e3], .inl ?_⟩
      show s.heap.IsTuple (ps.getD j 0) #[.ref x.2.1, x.2.2]
      rw [e3]
      exact e2
  · simp
  · rw [show PairRel (prs.map fun q => (Value.ref q.2.1, q.2.2)) i key v = ((prs.map fun q => (Value.ref q.2.1, q.2.2))[i]? = some (key, v)) from rfl, List.getElem?_map] at hr
    cases e : prs[i]? with
    | none => rw [e] at hr; cases hr
    | some x =>
      rw [e] at hr
      cases hr
      exact ⟨x.1, x.2.1, rfl, rfl⟩
  · obtain ⟨o', its', m', h1, h2, h3, h4⟩ := hks x hx
    exact ⟨o', its', m', hk _ _ (Nat.ne_of_lt (Heap.lt_size h1)) (by simp) h1, h2, h3, h4⟩
  · rw [List.length_map, hl]
    exact hz
  · have k : ∀ b o, s.heap.get? b = some o → h'.get? b = some o := fun b o e => hk b o (by simp) e
    obtain ⟨o2, es, ep, g1, g2, g3, g4, g5, g6⟩ := hd'
    have rel2 : KT (upd H s.heap.objs.size (.dT (mergeT [] kvs))) (mergeT [] kvs) (storedAllH [] prs) := (KT_merge rel .nil).keeps fun b ys e => by
      rw [upd_ne (ne_of_none e (I.hok.fresh (Nat.le_refl _)))]
      exact e
    exact ⟨.ref s.heap.objs.size, upd H s.heap.objs.size (.dT (mergeT [] kvs)), I.laid (t' := tk) k (Nat.le_refl _) (show ObjOk X.prog X.w _ _ _ (.dT (mergeT [] kvs)) from ⟨hlen, hm, _, rel2, o2, es, ep, g1, g2, g3, g4, g6⟩), rfl, q _ (I.hok.fresh (Nat.le_refl _))⟩
end

/-! ### new objects -/
abbrev Nv := Env → Sto → Option (O × Sto)
def rdN (K : PySem.W.Frag) (f : Nv) : TE := fun σ H Q => ∃ A r S e o S', SR K A r H S ∧ RE K A r H σ e ∧ f e S = some (o, S') ∧
  ∀ p r' H', Evo r H r' H' → SR K (p :: A) r' H' S' → H p = none → p ∉ A → RO K (p :: A) r' H' p o → Q (.ref p) H'
def eN (f : Nv) : Ev := fun e S => match f e S with
  | some (.lst ds, S1) => some (.lst ds, S1)
  | some (.dk ks ds, S1) => some (.dk ks ds, S1)
  | some (.dt ks ds, S1) => some (.dt ks ds, S1)
  | _ => none
def eNa (f : Nv) : Ev := fun e S => match f e S with
  | some (o, S1) => some (.ref S1.length, S1 ++ [o])
  | none => none
section
variable {K : PySem.W.Frag} {A r : List Addr} {H : Hp} {S : Sto} {σ : L2.St} {Q : VK} {f : Nv} {X : Cx}
theorem rd_eN (q : rdE K (eN f) σ H Q) : rdN K f σ H Q := by
  obtain ⟨A, r, S, e, d, S', s, re, ev, q⟩ := q
  unfold eN at ev
  split at ev
  · rename_i ds S1 e1
    cases ev
    refine ⟨A, r, S, e, _, _, s, re, e1, fun p r1 H1 o s1 hp nA hR => ?_⟩
    obtain ⟨vs, h1, l1⟩ := hR
    have nr := (s1.av p List.mem_cons_self).2
    exact q _ r1 H1 o s1.drop (.lst nr nA h1 (l1.re drop1 fun _ _ h => h))
  · rename_i ks ds S1 e1
    cases ev
    refine ⟨A, r, S, e, _, _, s, re, e1, fun p r1 H1 o s1 hp nA hR => ?_⟩
    obtain ⟨kvs, h1, h2, l1⟩ := hR
    subst h2
    have nr := (s1.av p List.mem_cons_self).2
    exact q _ r1 H1 o s1.drop (.dk nr nA h1 (l1.re drop1 fun _ _ h => h))
  · rename_i ks ds S1 e1
    cases ev
    refine ⟨A, r, S, e, _, _, s, re, e1, fun p r1 H1 o s1 hp nA hR => ?_⟩
    obtain ⟨kvs, h1, h2, l1⟩ := hR
    subst h2
    have nr := (s1.av p List.mem_cons_self).2
    exact q _ r1 H1 o s1.drop (.dt nr nA h1 (l1.re drop1 fun _ _ h => h))
  · cases ev
/-- an object that is kept away from joins the store -/
theorem SR.joinO {p : Addr} {u : O} (s : SR K (p :: A) r H S) (h : RO K (p :: A) r H p u) (hA : p ∉ A) : SR K A (r ++ [p]) H (S ++ [u]) where
  len := by rw [List.length_append, List.length_append, s.len]; rfl
  nd := by
    rw [List.nodup_append]
    exact ⟨s.nd, by simp, fun a ha b hb => by
      rw [List.mem_singleton.mp hb]
      exact fun z => (s.av p List.mem_cons_self).2 (by rw [← z]; exact ha)⟩
  av := fun a m => by
    obtain ⟨u, n⟩ := s.av a (List.mem_cons_of_mem _ m)
    exact ⟨u, fun z => (List.mem_append.mp z).elim n fun z => hA (by rw [← List.mem_singleton.mp z]; exact m)⟩
  obj := fun i a q e1 e2 => by
    by_cases hl : i < r.length
    · rw [List.getElem?_append_left hl] at e1
      rw [List.getElem?_append_left (by rw [← s.len]; exact hl)] at e2
      exact (s.obj i a q e1 e2).re move1 getApp
    · rw [List.getElem?_append_right (by omega)] at e1
      rw [List.getElem?_append_right (by rw [← s.len]; omega)] at e2
      have z : i - r.length = 0 := by
        have := (List.getElem?_eq_some_iff.mp e1).1
        simp at this
        omega
      rw [z] at e1
      rw [← s.len, z] at e2
      simp at e1 e2
      subst e1 e2
      exact h.re move1 getApp
theorem rd_eNa (q : rdE K (eNa f) σ H Q) : rdN K f σ H Q := by
  obtain ⟨A, r, S, e, d, S', s, re, ev, q⟩ := q
  unfold eNa at ev
  split at ev
  · rename_i o S1 e1
    cases ev
    refine ⟨A, r, S, e, o, S1, s, re, e1, fun p r1 H1 oo s1 hp nA hR => ?_⟩
    refine q _ (r1 ++ [p]) H1 (oo.join hp) (s1.joinO hR nA) (.ref ?_)
    rw [← s1.len, List.getElem?_append_right (Nat.le_refl _), Nat.sub_self]
    rfl
  · cases ev
theorem x_N {a : Expr} (ha : PE X a (rdN K f)) : PE X a (rdE K (eN f)) := ha.imp fun _ _ _ q => rd_eN q
theorem x_Na {a : Expr} (ha : PE X a (rdN K f)) : PE X a (rdE K (eNa f)) := ha.imp fun _ _ _ q => rd_eNa q
/-- a new object laid at p -/
theorem laid_N {ho : HO} {o : O} (s : SR K A r H S) (h : ∀ p, H p = none → RO K (p :: A) r (upd H p ho) p o) (q : ∀ p r' H', Evo r H r' H' → SR K (p :: A) r' H' S → H p = none → p ∉ A → RO K (p :: A) r' H' p o → Q (.ref p) H') : ∀ p, H p = none → Q (.ref p) (upd H p ho) :=
  fun p hp => q p r _ (.fresh hp) (s.hold hp) hp (s.notav hp) (h p hp)
def nNewK : Nv := fun _ S => some (.dk [] [], S)
def nNewT : Nv := fun _ S => some (.dt [] [], S)
theorem n_newK {pos : Pos} : PE X (.Dict [] [] pos) (rdN K nNewK) := pe_dnewK.imp fun σ H Q h => by
  obtain ⟨A, r, S, e, o, S', s, re, ev, q⟩ := h
  cases ev
  exact laid_N (o := .dk [] []) s (fun p hp => ⟨[], upd_same, rfl, .nil⟩) q
theorem n_newT {pos : Pos} : PE X (.Dict [] [] pos) (rdN K nNewT) := pe_dnewT.imp fun σ H Q h => by
  obtain ⟨A, r, S, e, o, S', s, re, ev, q⟩ := h
  cases ev
  exact laid_N (o := .dt [] []) s (fun p hp => ⟨[], upd_same, rfl, .nil⟩) q
/-! ### {k: v, ..} -/
def evPs : List (Ev × Ev) → Env → Sto → Option (List (D × D) × Sto)
  | [], _, S => some ([], S)
  | (f, g) :: ps, e, S => match f e S with
    | some (k, S1) => match g e S1 with
      | some (v, S2) => match evPs ps e S2 with
        | some (r, S3) => some ((k, v) :: r, S3)
        | none => none
      | none => none
    | none => none
theorem rd_pairs : ∀ {ps : List (Ev × Ev)} {A r : List Addr} {H : Hp} {S S' : Sto} {e : Env} {ds : List (D × D)} {Qp : List (V × V) → Hp → Prop}, SR K A r H S → RE K A r H σ e → evPs ps e S = some (ds, S') →
    (∀ vs r' H', Evo r H r' H' → SR K A r' H' S' → RlL K A r' H' (vs.map (·.1)) (ds.map (·.1)) → RlL K A r' H' (vs.map (·.2)) (ds.map (·.2)) → Qp vs H') → tPairs (ps.map fun p => (rdE K p.1, rdE K p.2)) σ H Qp
  | [], A, r, H, S, S', e, ds, Qp, s, re, ev, q => by
    cases ev
    exact q [] r H .refl s .nil .nil
  | (f, g) :: ps, A, r, H, S, S', e, ds, Qp, s, re, ev, q => by
    unfold evPs at ev
    split at ev
    · rename_i k S1 e1
      split at ev
      · rename_i v S2 e2
        split at ev
        · rename_i rs S3 e3
          cases ev
          refine ⟨A, r, S, e, k, S1, s, re, e1, fun x r1 H1 o1 s1 l1 => ⟨A, r1, S1, e, v, S2, s1, re.mono o1, e2, fun y r2 H2 o2 s2 l2 => ?_⟩⟩
          refine rd_pairs s2 ((re.mono o1).mono o2) e3 fun vs r3 H3 o3 s3 t1 t2 => ?_
          exact q ((x, y) :: vs) r3 H3 ((o1.trans o2).trans o3) s3 (.cons ((l1.mono o2).mono o3) t1) (.cons (l2.mono o3) t2)
        · cases ev
      · cases ev
    · cases ev
def kprs : List (D × D) → Option (List (L2.Key × D))
  | [] => some []
  | p :: ps => match keyOf p.1, kprs ps with
    | some k, some r => some ((k, p.2) :: r)
    | _, _ => none
theorem kprs_ok : ∀ {ds : List (D × D)} {ks : List (L2.Key × D)} {vs : List (V × V)}, kprs ds = some ks → RlL K A r H (vs.map (·.1)) (ds.map (·.1)) → RlL K A r H (vs.map (·.2)) (ds.map (·.2)) →
    ∃ kvs : List (L2.Key × V), vs = kvs.map (fun kv => (kV kv.1, kv.2)) ∧ kvs.map (·.1) = ks.map (·.1) ∧ RlL K A r H (kvs.map (·.2)) (ks.map (·.2)) ∧ kvs.length = ds.length
  | [], _, [], h, _, _ => by
    cases h
    exact ⟨[], rfl, rfl, .nil, rfl⟩
  | [], _, v :: vs, h, t, _ => by cases t
  | d :: ds, _, [], h, t, _ => by cases t
  | d :: ds, ks, v :: vs, h, .cons t1 t2, .cons t3 t4 => by
    unfold kprs at h
    split at h
    · rename_i k rs h1 h2
      cases h
      obtain ⟨kvs, e1, e2, e3, e4⟩ := kprs_ok h2 t2 t4
      refine ⟨(k, v.2) :: kvs, ?_, ?_, .cons t3 e3, by simp [e4]⟩
      · rw [e1, List.map_cons]
        have := keyOf_ok t1 h1
        rw [← this]
      · simp [e2]
    · cases h
def nDisp (ps : List (Ev × Ev)) : Nv := fun e S => match evPs ps e S with
  | some (ds, S1) => match kprs ds with
    | some ks => some (.dk (mrgD ks [] []).1 (mrgD ks [] []).2, S1)
    | none => none
  | none => none
theorem evPs_len : ∀ {ps : List (Ev × Ev)} {e : Env} {S S' : Sto} {ds : List (D × D)}, evPs ps e S = some (ds, S') → ds.length = ps.length
  | [], e, S, S', ds, h => by cases h; rfl
  | (f, g) :: ps, e, S, S', ds, h => by
    unfold evPs at h
    split at h
    · split at h
      · split at h
        · rename_i e3
          cases h
          simp [evPs_len e3]
        · cases h
      · cases h
    · cases h
theorem n_disp {ps : List (Ev × Ev)} {keys : List (Option Expr)} {values : List Expr} {pos : Pos} (h : PPs X pos keys values (ps.map fun p => (rdE K p.1, rdE K p.2))) (h15 : ps.length ≤ 15) (hall : keys.all (·.isSome) = true) (hl : keys.length = values.length) (h0 : keys ≠ [])
    (hk : keys.length ≤ 15) : PE X (.Dict keys values pos) (rdN K (nDisp ps)) := (pe_disp h hall hl h0 hk).imp fun σ H Q z => by
  obtain ⟨A, r, S, e, o, S', s, re, ev, q⟩ := z
  unfold nDisp at ev
  split at ev
  · rename_i ds S1 e1
    split at ev
    · rename_i ks hks
      cases ev
      intro p hp
      have nA := s.notav hp
      refine rd_pairs (A := p :: A) (s.hold hp) ((re.holdE hp).mono (.fresh hp)) e1 fun vs r1 H1 o1 s1 t1 t2 => ?_
      obtain ⟨kvs, ev, ek, t3, el⟩ := kprs_ok hks t1 t2
      have nr : p ∉ r := s.notin hp
      refine ⟨o1.keep _ _ upd_same nr, kvs, ev, by rw [el, evPs_len e1]; exact h15, ?_⟩
      obtain ⟨m1, m2⟩ := mrg_ok (kvs := []) (ds := []) ek t3 .nil
      obtain ⟨a1, a2⟩ := s1.aside (p := p) (o := .dK (mergeK [] kvs))
      have nr1 : p ∉ r1 := (s1.av p List.mem_cons_self).2
      refine q p r1 _ ⟨o1.pre, fun a ha hn => ?_, fun a u ha hn => ?_⟩ a1 hp nA ⟨mergeK [] kvs, upd_same, m1, a2 m2⟩
      · have := o1.new a ha hn
        by_cases e : a = p
        · rw [e]; exact hp
        · rw [upd_ne e] at this
          exact this
      · have e : a ≠ p := ne_of_none ha hp
        rw [upd_ne e]
        exact o1.keep a u (by rw [upd_ne e]; exact ha) hn
    · cases ev
  · cases ev
/-! ### dict(pairs) -/
def prsOf : List D → Option (List (D × D))
  | [] => some []
  | .tup [k, v] :: ds => (prsOf ds).map ((k, v) :: ·)
  | _ => none
def tprs : List (D × D) → Option (List (List L2.Key × D))
  | [] => some []
  | p :: ps => match keyTOf p.1, tprs ps with
    | some k, some r => some ((k, p.2) :: r)
    | _, _ => none
def nPrT (f : Ev) : Nv := fun e S => match f e S with
  | some (d, S1) => match lstOf S1 d with
    | some ds => match prsOf ds with
      | some ps => match tprs ps with
        | some ks => some (.dt (mrgD ks [] []).1 (mrgD ks [] []).2, S1)
        | none => none
      | none => none
    | none => none
  | none => none
theorem prsT_ok : ∀ {ds : List D} {ps : List (D × D)} {ks : List (List L2.Key × D)} {vs : List V}, prsOf ds = some ps → tprs ps = some ks → RlL K A r H vs ds →
    ∃ (as : List Addr) (kvs : List (List L2.Key × V)), vs = as.map V.ref ∧ Paired (fun p kv => ∃ b, SqT K H p [.ref b, kv.2] ∧ H b = some (.tup (kv.1.map kV))) as kvs ∧ kvs.map (·.1) = ks.map (·.1) ∧ RlL K A r H (kvs.map (·.2)) (ks.map (·.2))
  | [], _, _, _, h1, h2, .nil => by
    cases h1
    cases h2
    exact ⟨[], [], rfl, .nil, rfl, .nil⟩
  | d :: ds, ps, ks, v :: vs, h1, h2, .cons l t => by
    unfold prsOf at h1
    split at h1
    · rename_i e
      cases e
    · rename_i k w ds' e
      cases e
      cases h3 : prsOf ds with
      | none => rw [h3] at h1; cases h1
      | some ps' =>
        rw [h3] at h1
        cases h1
        unfold tprs at h2
        simp only at h2
        split at h2
        · rename_i kk rs h4 h5
          cases h2
          obtain ⟨as, kvs, e1, e2, e3, e4⟩ := prsT_ok h3 h5 t
          cases l with
          | tup ha hs =>
            rename_i ad ws
            obtain ⟨x, y, rfl, lx, ly⟩ := two_rl hs
            obtain ⟨b, rfl, hb⟩ := keyTOf_ok lx h4
            exact ⟨ad :: as, (kk, y) :: kvs, by rw [e1]; rfl, .cons ⟨b, ha.sq, hb⟩ e2, by simp [e3], .cons ly e4⟩
        · cases h2
    · cases h1
theorem n_prT {e : Expr} {f : Ev} {p pos : Pos} (hK : X.K = K) (hc : X.calm = true) (hu : X.A.units + 64 < cLine) (hg : Gl X "dict") (hm : X.mg "dict" = none) (ha : PE X e (rdE K f)) (hn : ("dict" : Str) ≠ "__name__" := by decide) (hdb : (("dict" : Str) == ("__debug__" : Str)) = false := by decide)
    (he : starEach (e :: []) X.env = (false, eval e X.env) :: starEach [] X.env := by rfl) (hpl : (backTo pos (starEach [] X.env)).any (·.1) = false := by rfl) : PE X (.Call (.Name "dict" p) [e] [] pos) (rdN K (nPrT f)) := by
  subst hK
  refine (pe_callTy (call_dictPT hc hu) hg hm bo_dict (pa_cons ha pa_nil he) hn hdb he hpl).imp fun σ H Q z => ?_
  obtain ⟨A, r, S, e, o, S', s, re, ev, q⟩ := z
  unfold nPrT at ev
  split at ev
  · rename_i d S1 e1
    split at ev
    · rename_i ds h1
      split at ev
      · rename_i ps h2
        split at ev
        · rename_i ks h3
          cases ev
          refine ⟨A, r, S, e, d, _, s, re, e1, fun v r1 H1 o1 s1 l1 => ?_⟩
          obtain ⟨a, vs, rfl, hq, lv⟩ := lst_ok s1 l1 h1
          obtain ⟨as, kvs, ev, e2, e3, e4⟩ := prsT_ok h2 h3 lv
          subst ev
          obtain ⟨m1, m2⟩ := mrg_ok (kvs := []) (ds := []) e3 e4 .nil
          refine ⟨a, as, kvs, rfl, hq, e2, fun p hp => ?_⟩
          have hp0 := o1.back s1 hp
          refine q p r1 _ (o1.trans (.fresh hp)) (s1.hold hp) hp0 (s1.notav hp) ⟨mergeT [] kvs, upd_same, m1, (m2.av hp).mono (.fresh hp)⟩
        · cases ev
      · cases ev
    · cases ev
  · cases ev
end
end Tr
namespace Tr
open PySem PySem.Spec PyProof.Rows L2
section
variable {P : Program} {w : World} {A : Around} {E : Value → Shared → Prop} {s : Shared}
abbrev set0 (w : World) : Obj := { cls := .type "set", dict := none, data := .set #[] 0 (.fresh 0 0 (!w.params.followText "set-order")) }
set_option maxHeartbeats 3200000 in
/-- set(xs), xs a list of ints: the set's table is told, so that it may be walked -/
theorem set_of_list {l : Addr} {items : Array Value} (ns : List Int) {Q : Value → Shared → Prop} (hh : A.handled = none) (hl : s.heap.IsList l items) (hit : IntsAre items.toList ns) (hb : ns.length + 1 < scanBound)
    (h : ∀ (h' : Heap) (tk c : Nat), SetR w h' s.heap.objs.size (fun j => decide (j ∈ ns)) c → c ≤ ns.length → (∀ b o, s.heap.get? b = some o → h'.get? b = some o) → Q (.ref s.heap.objs.size) { s with heap := h', toks := tk }) :
    wpAny (model P w) A (call (.type "set") [.ref l]) Q E s := by
  have hn : items.size = ns.length := by
    rw [← IntsAre.length hit, Array.length_toList]
  have k0 : ∀ b o, s.heap.get? b = some o → (s.heap.push (set0 w)).get? b = some o := fun b o e => Heap.get?_push_of_some _ e
  obtain ⟨c, tl, hmro⟩ := F.called_set.mro
  have f1 := F.called_set.made
  have f2 := F.called_set.sub
  have f3 := F.called_set.notType
  have f4 := F.called_set.canCreate
  have f5 := F.typeCall_set_1 (.ref l)
  refine wpAny_call (codeAny_of_tree (wpAny_pure ⟨Code.quiet_builtin _ (by decide +kernel), codeAny_builtin F.entry_type_call ?_⟩))
  rw [Around.under_plain (weight_type_call_type "set" [.ref l] []) rfl]
  repeat (any_goals (first | assumption | wp_step))
  refine codeAny_mono (code_set_led1 (.ref l) (E := E) (Q₁ := fun obj s₁ => obj = .ref s.heap.objs.size ∧ s₁ = { s with heap := s.heap.push (set0 w) }) ⟨rfl, rfl⟩) fun r s₁ hr => ?_
  cases r with
  | error e => exact hr
  | ok fl =>
    cases fl with
    | ret obj =>
      obtain ⟨rfl, rfl⟩ := hr
      have hS : (s.heap.push (set0 w)).get? s.heap.objs.size = some (set0 w) := Heap.get?_push_size _ rfl
      have hT : Shared.TypeIs { s with heap := s.heap.push (set0 w) } (.ref s.heap.objs.size) "set" := ⟨_, hS, rfl⟩
      have g1 := F.called_set.init.lookup
      have g2 := F.called_set.init.bind (.ref s.heap.objs.size)
      repeat (any_goals (first | assumption | wp_step))
      refine codeAny_mono (codeAny_call_builtin (R := wants (fun r s₂ => r = .none ∧ ∃ h' tk c, s₂ = { s with heap := h', toks := tk } ∧ SetR w h' s.heap.objs.size (fun j => decide (j ∈ ns)) c ∧ c ≤ ns.length ∧
          (∀ b o, s.heap.get? b = some o → h'.get? b = some o)) E) F.called_set.init.plain F.entry_set_init (check_set_init_1 hT ?_)) fun r₂ s₂ hr₂ => ?_
      · obtain ⟨⟨ocls, odict, odata, oslots⟩, hol, hcl, nl, hdl⟩ := hl
        simp only at hcl hdl
        subst hcl; subst hdl
        have hl1 : (s.heap.push (set0 w)).IsList l items := ⟨_, k0 _ _ hol, rfl, nl, rfl⟩
        have hol' := k0 _ _ hol
        have e1 := F.sub_list_set
        have e2 := F.sub_list_frozenset
        have e3 : (Value.type "list" == Value.type "dict") = false := by decide
        have hlS : l < s.heap.objs.size := Heap.lt_size hol
        have hz : (s.heap.push (set0 w)).objs.size = s.heap.objs.size + 1 := Heap.size_push ..
        unfold Builtin.«set.__init__» noKeywords Builtin.Frozenset.updateFrom
        generalize hPI : pyIter = PI
        wp_walk
        subst hPI
        refine wpAny_pyIter_list hl1 (wpAny_bind (wpAny_runValue ?_))
        refine set_update_ints ((Walks.list (by simp [hh]) _ l (by rw [hz]; exact Nat.ne_of_lt (Nat.lt_succ_of_lt hlS)) items).toS) s.heap.objs.size (by rw [hz]; simp only [List.mem_cons, List.not_mem_nil, or_false, not_or]; exact ⟨Nat.ne_of_lt (Nat.lt_succ_self _), Nat.ne_of_gt hlS⟩) ns hn hb (fun i v hv => ?_) (items.size - 0) 0 _ (by omega) (Nat.zero_le _)
          ⟨⟨_, Heap.get?_push_size _ rfl, rfl, rfl⟩, (hl1.push _)⟩ ⟨0, Nat.le_refl 0, setR_new_at (Heap.get?_push_of_some _ hS)⟩ fun s' c' hm hc' hS' => ?_
        · have hi : i < ns.length := by rw [← hn]; exact (Array.getElem?_eq_some_iff.mp hv).1
          obtain ⟨t, e⟩ := PyProof.Rows.IntsAre.int_at hit i v (by rw [Array.getElem?_toList]; exact hv)
          refine ⟨ns[i], t, List.getElem?_eq_getElem hi, ?_⟩
          rw [e, List.getD_eq_getElem?_getD, List.getElem?_eq_getElem hi] <;> rfl
        · obtain ⟨h', g2, d', tk', os'⟩ := s'
          have eg : g2 = s.gens := hm.gens
          have ed : d' = s.drawn := hm.drawn
          have eo : os' = s.os := hm.os
          subst eg; subst ed; subst eo
          rw [hn] at hc'
          refine wpAny_pure (wpAny_pure ⟨rfl, h', tk', c', rfl, hS', hc', fun b o e => ?_⟩)
          have hb0 : b < s.heap.objs.size := Heap.lt_size e
          exact hm.heap b o (by rw [hz]; simp only [List.mem_cons, List.not_mem_nil, or_false, not_or]; exact ⟨Nat.ne_of_lt hb0, Nat.ne_of_lt (Nat.lt_succ_of_lt hb0)⟩) (Heap.get?_push_of_some _ (k0 _ _ e))
      · cases r₂ with
        | error e => exact hr₂
        | ok fl₂ =>
          cases fl₂ with
          | ret r =>
            obtain ⟨rfl, h', tk, c', rfl, hS', hc', hk'⟩ := hr₂
            repeat (any_goals (first | assumption | wp_step))
            exact h _ _ _ hS' hc' hk'
          | _ => exact hr₂.elim
    | _ => exact hr.elim
end
/-! ### sorted(set(xs)) -/
def insU (x : Int) : List Int → List Int
  | [] => [x]
  | y :: ys => if x < y then x :: y :: ys else if x = y then y :: ys else y :: insU x ys
def srtU : List Int → List Int
  | [] => []
  | x :: xs => insU x (srtU xs)
theorem insU_mem {x k : Int} : ∀ {ys : List Int}, k ∈ insU x ys ↔ k = x ∨ k ∈ ys
  | [] => by simp [insU]
  | y :: ys => by
    unfold insU
    split
    · simp
    · split
      · rename_i h
        subst h
        simp
      · simp only [List.mem_cons, insU_mem (ys := ys)]
        constructor
        · rintro (h | h | h) <;> simp [h]
        · rintro (h | h | h) <;> simp [h]
theorem srtU_mem {k : Int} : ∀ {xs : List Int}, k ∈ srtU xs ↔ k ∈ xs
  | [] => by simp [srtU]
  | x :: xs => by
    unfold srtU
    rw [insU_mem, srtU_mem, List.mem_cons]
theorem insU_sorted {x : Int} : ∀ {ys : List Int}, ys.Pairwise (· < ·) → (insU x ys).Pairwise (· < ·)
  | [], _ => by simp [insU]
  | y :: ys, h => by
    obtain ⟨h1, h2⟩ := List.pairwise_cons.mp h
    unfold insU
    split
    · rename_i hx
      refine List.pairwise_cons.mpr ⟨fun z hz => ?_, h⟩
      rcases List.mem_cons.mp hz with e | hz
      · rw [e]; exact hx
      · exact Int.lt_trans hx (h1 z hz)
    · split
      · exact h
      · refine List.pairwise_cons.mpr ⟨fun z hz => ?_, insU_sorted h2⟩
        rcases insU_mem.mp hz with e | hz
        · rw [e]; omega
        · exact h1 z hz
theorem srtU_sorted : ∀ xs, (srtU xs).Pairwise (· < ·)
  | [] => .nil
  | _ :: xs => insU_sorted (srtU_sorted xs)
theorem strict_uniq : ∀ {xs ys : List Int}, xs.Pairwise (· < ·) → ys.Pairwise (· < ·) → (∀ k, k ∈ xs ↔ k ∈ ys) → xs = ys
  | [], [], _, _, _ => rfl
  | [], y :: ys, _, _, h => absurd ((h y).mpr List.mem_cons_self) (by simp)
  | x :: xs, [], _, _, h => absurd ((h x).mp List.mem_cons_self) (by simp)
  | x :: xs, y :: ys, p, q, h => by
    obtain ⟨p1, p2⟩ := List.pairwise_cons.mp p
    obtain ⟨q1, q2⟩ := List.pairwise_cons.mp q
    have e : x = y := by
      rcases List.mem_cons.mp ((h x).mp List.mem_cons_self) with e | m1
      · exact e
      · rcases List.mem_cons.mp ((h y).mpr List.mem_cons_self) with e | m2
        · exact e.symm
        · have := q1 x m1
          have := p1 y m2
          omega
    subst e
    rw [strict_uniq p2 q2 fun k => ?_]
    constructor
    · intro m
      rcases List.mem_cons.mp ((h k).mp (List.mem_cons_of_mem _ m)) with e | m2
      · have := p1 k m
        omega
      · exact m2
    · intro m
      rcases List.mem_cons.mp ((h k).mpr (List.mem_cons_of_mem _ m)) with e | m2
      · have := q1 k m
        omega
      · exact m2
def fSrtSet (f : Ev) : Lv := fun e S => match f e S with
  | some (d, S1) => match lstOf S1 d with
    | some ys => match intsOf ys with
      | some ns => if ns.length < 64 then some ((srtU ns).map D.int, S1) else none
      | none => none
    | none => none
  | none => none
section
variable {X : Cx} {K : PySem.W.Frag}
theorem f_srtSet {a : Expr} {f : Ev} {p p2 q pos : Pos} (hK : X.K = K) (hc : X.calm = true) (hg : Gl X "sorted") (hm : X.mg "sorted" = none) (hg2 : Gl X "set") (hm2 : X.mg "set" = none) (ha : PE X a (rdE K f))
    (na : starEach [a] X.env = (false, eval a X.env) :: starEach [] X.env := by rfl) : PE X (.Call (.Name "sorted" p) [.Call (.Name "set" p2) [a] [] q] [] pos) (rdF K (fSrtSet f)) := by
  subst hK
  refine ⟨fun pins s σ H Q I h => ?_⟩
  obtain ⟨A, r, S, e, ds, S', sr, re, ev, h⟩ := h
  unfold fSrtSet at ev
  split at ev
  · rename_i d S1 e1
    split at ev
    · rename_i ys h1
      split at ev
      · rename_i ns h2
        split at ev
        · rename_i h64
          cases ev
          refine Call_ (ld_blt I hg hm bo_sorted ?_)
          refine PyProof.Rows.callWith_builtin1 (PyProof.Rows.args_cons ?_ rfl) rfl rfl
          refine Call_ (ld_blt I hg2 hm2 bo_set ?_)
          refine PyProof.Rows.callWith_type1 (PyProof.Rows.args_cons (thn (ha.run pins s σ H (fun x H1 => ∃ r1, Evo r H r1 H1 ∧ SR X.K A r1 H1 S' ∧ Rl X.K A r1 H1 x d) I ⟨A, r, S, e, d, _, sr, re, e1, fun x r1 H1 o1 s1 l1 => ⟨r1, o1, s1, l1⟩⟩) fun v s1 ⟨x, H1, I1, rx, r1, o1, sr1, l1⟩ => PyProof.Rows.args_nil ?_) na) na rfl
          obtain ⟨b, vs, rfl, hq, lv⟩ := lst_ok sr1 l1 h1
          have e2 := intsOf_eq h2
          subst e2
          have e3 := lv.ints
          subst e3
          cases rx
          obtain ⟨its, rv, pl, hz⟩ := I1.list hq
          refine set_of_list ns (I1.ok.hd hc) pl.isList (by simpa using rv.ints) (by unfold scanBound; omega) fun h' tk c R hcn k => ?_
          refine PyProof.Rows.args_nil ?_
          have I2 : Inv X pins σ H1 { s1 with heap := h', toks := tk } := I1.kept fun b o e => k b o e
          refine sorted_set R (I2.ok.hd hc) (by omega) fun s' p out c2 ns2 k2 g o hp hg3 hi hs hm3 hl => ?_
          have en : ns2 = srtU ns := strict_uniq hs (srtU_sorted ns) fun k => by rw [hm3, srtU_mem, decide_eq_true_eq]
          have hlen : (ns2.map V.int).length ≤ sizeLine := by rw [List.length_map, hl, sizeLine_eq]; omega
          have hn : H1 p = none := I2.hok.fresh hp
          have J : Inv X pins σ (upd H1 p (.lst (ns2.map V.int))) { ({ s1 with heap := h', toks := tk } : Shared) with heap := s'.heap, gens := s'.gens, drawn := s'.drawn, toks := s'.toks } :=
            I2.call (ch := []) (Un.laid k2 hp hn) (I2.hok.laid k2 hp ⟨hlen, out.toList, c2, vals_of_ints hi, hg3⟩) (by rw [g]; exact I2.bare) (fun _ z => nomatch z)
          have es : s' = { s1 with heap := s'.heap, gens := s'.gens, drawn := s'.drawn, toks := s'.toks } := by
            cases s'
            cases s1
            cases o
            rfl
          rw [es]
          subst en
          refine ⟨.ref p, _, J, rfl, h p _ r1 _ (o1.trans (.fresh hn)) (sr1.hold hn) (o1.back sr1 hn) (sr1.notav hn) upd_same (((RlL.of_ints _).av hn).mono (.fresh hn))⟩
        · cases ev
      · cases ev
    · cases ev
  · cases ev
end
end Tr
namespace Tr
open PySem PySem.Spec PyProof.Rows L2
section
variable {X : Cx} {K : PySem.W.Frag} {f g : Ev}
theorem c_inD {i o : Expr} {pos : Pos} (hu : X.A.units + 64 < cLine) (hi : PE X i (rdE K f)) (ho : PE X o (rdE K g)) (hm : behindInMarks .In o = false := by rfl) : PT X (.Compare i [.In] [o] pos) (rdT K (tV (eOpS hInD f g))) :=
  (pt_cmp (pc_din (hu1 hu) hi ho) hm).imp fun _ _ _ q => rd_inD (b := false) (q0 := rd_tV q)
theorem c_ninD {i o : Expr} {pos : Pos} (hu : X.A.units + 64 < cLine) (hi : PE X i (rdE K f)) (ho : PE X o (rdE K g)) (hm : behindInMarks .NotIn o = false := by rfl) : PT X (.Compare i [.NotIn] [o] pos) (rdT K (tV (eOpS hNinD f g))) :=
  (pt_cmp (pc_dnotin (hu1 hu) hi ho) hm).imp fun _ _ _ q => rd_inD (b := true) (q0 := rd_tV q)
end
end Tr
namespace Tr
open PySem PySem.Spec PyProof.Rows L2
section
variable {prog : Program} {w : World} {A : Around} {E : Value → Shared → Prop} {s : Shared} {l : Addr} {its : List Value} {ns : List Int} {Q : Value → Shared → Prop}
theorem kept_T {h' : Heap} (hk : ∀ b o, b ∉ [s.heap.objs.size] → (s.heap.push { cls := .type "tuple_iterator", data := .fields #[.ref l, .int 0 0] }).get? b = some o → h'.get? b = some o) :
    ∀ b o, s.heap.get? b = some o → h'.get? b = some o := fun b o e => hk b o (fun m => by
  rw [List.mem_singleton.mp m] at e
  exact Nat.lt_irrefl _ (Heap.lt_size e)) (Heap.get?_push_of_some _ e)
theorem walk_T {Q : Value → Shared → Prop} {vs : Array Value} (hh : A.handled = none) (hl : s.heap.IsTuple l vs)
    (h : ∀ s₂ : Shared, s₂ = { s with heap := s.heap.push { cls := .type "tuple_iterator", data := .fields #[.ref l, .int 0 0] } } →
      Walks prog w A s.heap.objs.size [s.heap.objs.size, l] [s.heap.objs.size] vs.size (fun i v => vs[i]? = some v) (fun i h => h.IsTupleIter s.heap.objs.size l i ∧ h.IsTuple l vs) →
      (s₂.heap.IsTupleIter s.heap.objs.size l 0 ∧ s₂.heap.IsTuple l vs) → (∀ b ∈ [s.heap.objs.size, l], b < s₂.heap.objs.size) → Q (.ref s.heap.objs.size) s₂) : wpAny (model prog w) A (pyIter (.ref l)) Q E s := by
  have hlt : l < s.heap.objs.size := by obtain ⟨_, e, _⟩ := hl; exact Heap.lt_size e
  refine wpAny_pyIter_tuple hl (h _ rfl (Walks.tuple (A := A) hh _ l (Nat.ne_of_lt hlt) vs) ⟨⟨_, Heap.get?_push_size _ rfl, rfl, rfl⟩, hl.push _⟩ fun b hb => ?_)
  show b < (s.heap.push _).objs.size
  rw [Heap.size_push]
  rcases List.mem_cons.mp hb with rfl | hb
  · exact Nat.lt_succ_self _
  · rw [List.mem_singleton.mp hb]
    exact Nat.lt_succ_of_lt hlt
theorem max_rawT (hh : A.handled = none) (hl : s.heap.IsTuple l its.toArray) (hi : IntsAre its ns) (hne : 0 < ns.length)
    (h : ∀ h' tk M t', (∀ b o, s.heap.get? b = some o → h'.get? b = some o) → M ∈ ns → (∀ a, a ∈ ns → a ≤ M) → Q (.int M t') { s with heap := h', toks := tk }) : wpAny (model prog w) A (call (.builtin "max") [.ref l]) Q E s := by
  obtain ⟨xs, e⟩ := hi.allInts.items
  have hn : numsOf (intItems xs).toList = ns := by rw [← e]; exact hi.numsOf
  rw [nums_intItems] at hn
  subst hn
  rw [e] at hl
  have hsz : 0 < xs.size := by simpa using hne
  refine call_max_walk (walk_T hh hl fun s₂ e W st hfp => ?_)
  subst e
  refine ⟨_, _, _, _, _, _, _, rfl, W, st, hfp, by simpa [intItems] using hsz, CmpOf.ints_gt (numAt xs) (fun _ _ => intItems_at), fun v h' tk hP hk => ?_⟩
  have hv : (intItems xs)[argBest (fun i j => decide (numAt xs i > numAt xs j)) (xs.size - 1)]? = some v := by simpa [intItems] using hP
  obtain ⟨t, rfl⟩ := intItems_at hv
  obtain ⟨h1, h2⟩ := argBest_gt (numAt xs) (xs.size - 1)
  refine h h' tk _ t (kept_T hk) ?_ fun a ha => ?_
  · rw [numAt_eq]; exact PySem.getD_mem (by rw [List.length_map, Array.length_toList]; omega)
  · obtain ⟨j, hj, rfl⟩ := mem_getD ha
    rw [List.length_map, Array.length_toList] at hj
    rw [← numAt_eq]; exact h2 j (by omega)
theorem min_rawT (hh : A.handled = none) (hl : s.heap.IsTuple l its.toArray) (hi : IntsAre its ns) (hne : 0 < ns.length)
    (h : ∀ h' tk M t', (∀ b o, s.heap.get? b = some o → h'.get? b = some o) → M ∈ ns → (∀ a, a ∈ ns → M ≤ a) → Q (.int M t') { s with heap := h', toks := tk }) : wpAny (model prog w) A (call (.builtin "min") [.ref l]) Q E s := by
  obtain ⟨xs, e⟩ := hi.allInts.items
  have hn : numsOf (intItems xs).toList = ns := by rw [← e]; exact hi.numsOf
  rw [nums_intItems] at hn
  subst hn
  rw [e] at hl
  have hsz : 0 < xs.size := by simpa using hne
  refine call_min_walk (walk_T hh hl fun s₂ e W st hfp => ?_)
  subst e
  refine ⟨_, _, _, _, _, _, _, rfl, W, st, hfp, by simpa [intItems] using hsz, CmpOf.ints_lt (numAt xs) (fun _ _ => intItems_at), fun v h' tk hP hk => ?_⟩
  have hv : (intItems xs)[argBest (fun i j => decide (numAt xs i < numAt xs j)) (xs.size - 1)]? = some v := by simpa [intItems] using hP
  obtain ⟨t, rfl⟩ := intItems_at hv
  obtain ⟨h1, h2⟩ := argBest_lt (numAt xs) (xs.size - 1)
  refine h h' tk _ t (kept_T hk) ?_ fun a ha => ?_
  · rw [numAt_eq]; exact PySem.getD_mem (by rw [List.length_map, Array.length_toList]; omega)
  · obtain ⟨j, hj, rfl⟩ := mem_getD ha
    rw [List.length_map, Array.length_toList] at hj
    rw [← numAt_eq]; exact h2 j (by omega)
theorem sum_rawT (hh : A.handled = none) (hl : s.heap.IsTuple l its.toArray) (hi : IntsAre its ns)
    (h : ∀ h' tk t', (∀ b o, s.heap.get? b = some o → h'.get? b = some o) → Q (.int ns.sum t') { s with heap := h', toks := tk }) : wpAny (model prog w) A (call (.builtin "sum") [.ref l]) Q E s := by
  obtain ⟨xs, e⟩ := hi.allInts.items
  have hn : numsOf (intItems xs).toList = ns := by rw [← e]; exact hi.numsOf
  rw [nums_intItems] at hn
  rw [e] at hl
  refine call_sum_walkG (walk_T hh hl fun s₂ e W st hfp => ?_)
  subst e
  refine ⟨_, _, _, _, _, _, numAt xs, rfl, W, st, hfp, (fun _ _ => intItems_at), fun h' tk t' hk => ?_⟩
  have := h h' tk t' (kept_T hk)
  rw [show (intItems xs).size = xs.size by simp [intItems], preSum_eq, List.take_of_length_le (by simp), hn]
  exact this
end
section
variable {X : Cx} {K : PySem.W.Frag}
def rMaxT (K : PySem.W.Frag) : List V → Hp → VK → Prop := fun vs H Q => ∃ (a : Addr) (ns : List Int), vs = [V.ref a] ∧ SqT K H a (ns.map V.int) ∧ 0 < ns.length ∧ ∀ m, m ∈ ns → (∀ y, y ∈ ns → y ≤ m) → Q (.int m) H
def rMinT (K : PySem.W.Frag) : List V → Hp → VK → Prop := fun vs H Q => ∃ (a : Addr) (ns : List Int), vs = [V.ref a] ∧ SqT K H a (ns.map V.int) ∧ 0 < ns.length ∧ ∀ m, m ∈ ns → (∀ y, y ∈ ns → m ≤ y) → Q (.int m) H
def rSumT (K : PySem.W.Frag) : List V → Hp → VK → Prop := fun vs H Q => ∃ (a : Addr) (ns : List Int), vs = [V.ref a] ∧ SqT K H a (ns.map V.int) ∧ Q (.int ns.sum) H
theorem cr_maxT (hc : X.calm = true) : CallR X (.builtin "max") (rMaxT X.K) := by
  intro pins s σ H vs us Q I r h
  obtain ⟨a, ns, rfl, hs, hne, q⟩ := h
  obtain ⟨its, rv, hl, _⟩ := I.tuple hs
  rw [Vals.ref1 r]
  exact max_rawT (I.ok.hd hc) (show s.heap.IsTuple a its.toArray from hl) rv.ints hne fun h' tk m t' hk h1 h2 => ⟨.int _, H, I.kept hk, ⟨_, rfl⟩, q m h1 h2⟩
theorem cr_minT (hc : X.calm = true) : CallR X (.builtin "min") (rMinT X.K) := by
  intro pins s σ H vs us Q I r h
  obtain ⟨a, ns, rfl, hs, hne, q⟩ := h
  obtain ⟨its, rv, hl, _⟩ := I.tuple hs
  rw [Vals.ref1 r]
  exact min_rawT (I.ok.hd hc) (show s.heap.IsTuple a its.toArray from hl) rv.ints hne fun h' tk m t' hk h1 h2 => ⟨.int _, H, I.kept hk, ⟨_, rfl⟩, q m h1 h2⟩
theorem cr_sumT (hc : X.calm = true) : CallR X (.builtin "sum") (rSumT X.K) := by
  intro pins s σ H vs us Q I r h
  obtain ⟨a, ns, rfl, hs, q⟩ := h
  obtain ⟨its, rv, hl, _⟩ := I.tuple hs
  rw [Vals.ref1 r]
  exact sum_rawT (I.ok.hd hc) (show s.heap.IsTuple a its.toArray from hl) rv.ints fun h' tk t' hk => ⟨.int _, H, I.kept hk, ⟨_, rfl⟩, q⟩
/-- what stands in a tuple -/
def tupOf : D → Option (List D)
  | .tup ds => some ds
  | .ktp ds => some ds
  | _ => none
theorem tupOf_ok {A r : List Addr} {H : Hp} {x : V} {d : D} {ds : List D} (l : Rl K A r H x d) (h : tupOf d = some ds) : ∃ a vs, x = .ref a ∧ SqT K H a vs ∧ RlL K A r H vs ds := by
  unfold tupOf at h
  split at h
  · cases h
    cases l with
    | tup a b => exact ⟨_, _, rfl, a.sq, b⟩
  · cases h
    cases l with
    | ktp a b => exact ⟨_, _, rfl, a.sq, b⟩
  · cases h
def tupInts (d : D) : Option (List Int) := match tupOf d with
  | some ds => intsOf ds
  | none => none
theorem tupInts_ok {A r : List Addr} {H : Hp} {x : V} {d : D} {ns : List Int} (l : Rl K A r H x d) (h : tupInts d = some ns) : ∃ a, x = .ref a ∧ SqT K H a (ns.map V.int) := by
  unfold tupInts at h
  split at h
  · rename_i ds h1
    obtain ⟨a, vs, rfl, hq, t⟩ := tupOf_ok l h1
    have := intsOf_eq h
    subst this
    rw [t.ints] at hq
    exact ⟨a, rfl, hq⟩
  · cases h
def kMaxA : List D → Sto → Option (D × Sto) := fun ds S => match ds with
  | [d] => match tupInts d with
    | some ns => (mxI ns).map fun m => (.int m, S)
    | none => kMax [d] S
  | ds => kMax ds S
def kMinA : List D → Sto → Option (D × Sto) := fun ds S => match ds with
  | [d] => match tupInts d with
    | some ns => (mnI ns).map fun m => (.int m, S)
    | none => kMin [d] S
  | ds => kMin ds S
def kSumA : List D → Sto → Option (D × Sto) := fun ds S => match ds with
  | [d] => match tupInts d with
    | some ns => some (.int ns.sum, S)
    | none => kSum [d] S
  | ds => kSum ds S
theorem k_maxA : ClD K (fun xs H Q => rMaxAll K xs H Q ∨ rMaxT K xs H Q) kMaxA := fun A r H S xs ds dz S' s t e Q q => by
  unfold kMaxA at e
  split at e
  · obtain ⟨v, rfl, l⟩ := one_rl t
    split at e
    · rename_i ns h1
      obtain ⟨a, rfl, hq⟩ := tupInts_ok l h1
      cases h2 : mxI ns with
      | none => rw [h2] at e; cases e
      | some m =>
        rw [h2] at e
        cases e
        refine .inr ⟨a, ns, rfl, hq, ?_, fun k hk hle => ?_⟩
        · cases ns with
          | nil => cases h2
          | cons x xs => simp
        · rw [mxI_eq h2 hk hle]
          exact q _ r H .refl s (.int _)
    · exact .inl (k_max A r H S _ _ dz S' s t e Q q)
  · exact .inl (k_max A r H S _ _ dz S' s t e Q q)
theorem k_minA : ClD K (fun xs H Q => rMinAll K xs H Q ∨ rMinT K xs H Q) kMinA := fun A r H S xs ds dz S' s t e Q q => by
  unfold kMinA at e
  split at e
  · obtain ⟨v, rfl, l⟩ := one_rl t
    split at e
    · rename_i ns h1
      obtain ⟨a, rfl, hq⟩ := tupInts_ok l h1
      cases h2 : mnI ns with
      | none => rw [h2] at e; cases e
      | some m =>
        rw [h2] at e
        cases e
        refine .inr ⟨a, ns, rfl, hq, ?_, fun k hk hle => ?_⟩
        · cases ns with
          | nil => cases h2
          | cons x xs => simp
        · rw [mnI_eq h2 hk hle]
          exact q _ r H .refl s (.int _)
    · exact .inl (k_min A r H S _ _ dz S' s t e Q q)
  · exact .inl (k_min A r H S _ _ dz S' s t e Q q)
theorem k_sumA : ClD K (fun xs H Q => rSum K xs H Q ∨ rSumT K xs H Q) kSumA := fun A r H S xs ds dz S' s t e Q q => by
  unfold kSumA at e
  split at e
  · obtain ⟨v, rfl, l⟩ := one_rl t
    split at e
    · rename_i ns h1
      obtain ⟨a, rfl, hq⟩ := tupInts_ok l h1
      cases e
      exact .inr ⟨a, ns, rfl, hq, q _ r H .refl s (.int _)⟩
    · exact .inl (k_sum A r H S _ _ dz S' s t e Q q)
  · exact .inl (k_sum A r H S _ _ dz S' s t e Q q)
theorem c_maxA (hc : X.calm = true) : CallR X (.builtin "max") (fun xs H Q => rMaxAll X.K xs H Q ∨ rMaxT X.K xs H Q) := (c_max hc).or (cr_maxT hc)
theorem c_minA (hc : X.calm = true) : CallR X (.builtin "min") (fun xs H Q => rMinAll X.K xs H Q ∨ rMinT X.K xs H Q) := (c_min hc).or (cr_minT hc)
theorem c_sumA (hc : X.calm = true) : CallR X (.builtin "sum") (fun xs H Q => rSum X.K xs H Q ∨ rSumT X.K xs H Q) := (cr_sum hc).or (cr_sumT hc)
end
end Tr
namespace Tr
open PySem PySem.Spec PyProof.Rows L2
/-! ### plain lemmas of loops -/
theorem forGo_inv (P : Nat → Env → Sto → Prop) {src : Src} {g : Gv} {b : Sv} {ds : List D} (hsrc : ∀ S, src S = some ds)
    (hs : ∀ i d e S, ds[i]? = some d → P i e S → ∃ e1 S1 e2 S2, g d e S = some (e1, S1) ∧ (b e1 S1 = some (.nx e2, S2) ∨ b e1 S1 = some (.ct e2, S2)) ∧ P (i + 1) e2 S2) :
    ∀ (n i : Nat) (e : Env) (S : Sto), n + i = ds.length → P i e S → ∃ e' S', forGo src g b n i e S = some (.nx e', S') ∧ P ds.length e' S'
  | 0, i, e, S, hn, h => by
    have hi : i = ds.length := by omega
    subst hi
    refine ⟨e, S, ?_, h⟩
    unfold forGo
    rw [hsrc]
    simp
  | n + 1, i, e, S, hn, h => by
    have hi : i < ds.length := by omega
    obtain ⟨e1, S1, e2, S2, h1, h2, h3⟩ := hs i ds[i] e S (List.getElem?_eq_getElem hi) h
    obtain ⟨e', S', h4, h5⟩ := forGo_inv P hsrc hs n (i + 1) e2 S2 (by omega) h3
    refine ⟨e', S', ?_, h5⟩
    unfold forGo
    rw [hsrc]
    simp only [List.getElem?_eq_getElem hi]
    rw [h1]
    simp only
    rcases h2 with h2 | h2 <;> rw [h2] <;> exact h4
theorem for_inv (P : Nat → Env → Sto → Prop) {f : Iv} {src : Src} {g : Gv} {b : Sv} {e : Env} {S S1 : Sto} {ds : List D} (hf : f e S = some (src, S1)) (hsrc : ∀ S, src S = some ds) (h0 : P 0 e S1)
    (hs : ∀ i d e S, ds[i]? = some d → P i e S → ∃ e1 S1 e2 S2, g d e S = some (e1, S1) ∧ (b e1 S1 = some (.nx e2, S2) ∨ b e1 S1 = some (.ct e2, S2)) ∧ P (i + 1) e2 S2) :
    ∃ e' S', sFor f g b e S = some (.nx e', S') ∧ P ds.length e' S' := by
  unfold sFor
  rw [hf]
  simp only
  rw [hsrc]
  exact forGo_inv P hsrc hs ds.length 0 e S1 rfl h0
theorem lcGo_pure {src : Src} {g : Gv} {c : Tv} {x : Ev} {e : Env} {S : Sto} {ds : List D} (hsrc : ∀ S, src S = some ds) (p : D → Bool) (y : D → D)
    (hb : ∀ d ∈ ds, ∃ e1, g d e S = some (e1, S) ∧ c e1 S = some (p d, S) ∧ (p d = true → x e1 S = some (y d, S))) :
    ∀ (n i : Nat), n + i = ds.length → lcGo src g c x e n i S = some (((ds.drop i).filter p).map y, S)
  | 0, i, hn => by
    have hi : i = ds.length := by omega
    subst hi
    unfold lcGo
    rw [hsrc]
    simp
  | n + 1, i, hn => by
    have hi : i < ds.length := by omega
    obtain ⟨e1, h1, h2, h3⟩ := hb ds[i] (List.getElem_mem hi)
    have ih := lcGo_pure hsrc p y hb n (i + 1) (by omega)
    unfold lcGo
    rw [hsrc]
    simp only [List.getElem?_eq_getElem hi]
    rw [h1]
    simp only
    rw [h2, List.drop_eq_getElem_cons hi]
    cases hp : p ds[i] with
    | true =>
      simp only
      rw [h3 hp]
      simp only
      rw [ih, List.filter_cons_of_pos hp, List.map_cons]
    | false =>
      simp only
      rw [ih, List.filter_cons_of_neg (by rw [hp]; decide)]
theorem lc_pure {vs : List Nat} {f : Iv} {src : Src} {g : Gv} {c : Tv} {x : Ev} {e : Env} {S S1 : Sto} {ds : List D} (hf : f e S = some (src, S1)) (hsrc : ∀ S, src S = some ds) (p : D → Bool) (y : D → D)
    (hb : ∀ d ∈ ds, ∃ e1, g d (wipeE e vs) S1 = some (e1, S1) ∧ c e1 S1 = some (p d, S1) ∧ (p d = true → x e1 S1 = some (y d, S1))) (hl : ds.length ≤ 1000000) : fLc vs f g c x e S = some ((ds.filter p).map y, S1) := by
  unfold fLc
  rw [hf]
  simp only
  rw [hsrc]
  simp only
  rw [lcGo_pure hsrc p y hb ds.length 0 rfl]
  simp only [List.drop_zero]
  rw [if_pos (Nat.le_trans (by rw [List.length_map]; exact List.length_filter_le _ _) hl)]
theorem log2_lt {i : Int} {n : Nat} (h0 : 0 < n) (h : i.natAbs < 2 ^ n) : i.natAbs.log2 < n := by
  by_cases hz : i.natAbs = 0
  · rw [hz]
    exact h0
  · exact (Nat.log2_lt hz).mpr h
theorem mulI_of {i j : Int} {p q : Nat} (hp : 0 < p) (hq : 0 < q) (h1 : i.natAbs < 2 ^ p) (h2 : j.natAbs < 2 ^ q) (h : p + q ≤ 1000000) : hMulI (.int i) (.int j) = some (.int (i * j)) := by
  have a := log2_lt hp h1
  have b := log2_lt hq h2
  unfold hMulI Tr.h2
  simp only
  rw [if_pos (decide_eq_true (by omega))]
theorem addI_of {i j : Int} : hAdd (.int i) (.int j) = some (.int (i + j)) := rfl
theorem subI_of {i j : Int} : hSub (.int i) (.int j) = some (.int (i - j)) := rfl
theorem modI_of {i j : Int} (h : 0 < j) : hMod (.int i) (.int j) = some (.int (i % j)) := by
  unfold hMod Tr.h2
  simp only
  rw [if_pos (decide_eq_true h)]
theorem divI_of {i j : Int} (h : 0 < j) (h2 : j.natAbs.log2 < 9000) : hDiv (.int i) (.int j) = some (.int (i / j)) := by
  unfold hDiv Tr.h2
  simp only
  rw [if_pos (by rw [decide_eq_true h, decide_eq_true h2]; rfl)]
theorem gtI_of {i j : Int} : hGtI (.int i) (.int j) = some (.bl (decide (j < i))) := rfl
theorem ltI_of {i j : Int} : hLtI (.int i) (.int j) = some (.bl (decide (i < j))) := rfl
/-! ### a value, step by step -/
section
variable {e e1 : Env} {S S1 S2 S3 : Sto} {f g : Ev} {x y z : D} {b : Bool} {c c' : Tv}
theorem v_tV (h1 : f e S = some (.bl b, S1)) : tV f e S = some (b, S1) := by
  unfold tV
  rw [h1]
theorem v_c : eC x e S = some (x, S) := rfl
theorem v_var {i : Nat} (h : e[i]? = some (some x)) : eVar i e S = some (x, S) := by
  unfold eVar
  rw [h]
theorem v_op {h : D → D → Option D} (h1 : f e S = some (x, S1)) (h2 : g e S1 = some (y, S2)) (h3 : h x y = some z) : eOp h f g e S = some (z, S2) := by
  unfold eOp
  rw [h1]
  simp only
  rw [h2]
  simp only
  rw [h3]
theorem v_opS {h : D → D → Sto → Option (D × Sto)} {r : Option (D × Sto)} (h1 : f e S = some (x, S1)) (h2 : g e S1 = some (y, S2)) (h3 : h x y S2 = r) : eOpS h f g e S = r := by
  unfold eOpS
  rw [h1]
  simp only
  rw [h2]
  exact h3
theorem v_call1 {k : List D → Sto → Option (D × Sto)} {r : Option (D × Sto)} (h1 : f e S = some (x, S1)) (h : k [x] S1 = r) : eCall k (aCons f aNil) e S = r := by
  unfold eCall aCons aNil
  rw [h1]
  exact h
theorem v_call2 {k : List D → Sto → Option (D × Sto)} {r : Option (D × Sto)} (h1 : f e S = some (x, S1)) (h2 : g e S1 = some (y, S2)) (h : k [x, y] S2 = r) : eCall k (aCons f (aCons g aNil)) e S = r := by
  unfold eCall aCons aNil
  rw [h1]
  simp only
  rw [h2]
  exact h
theorem v_call3 {h : Ev} {k : List D → Sto → Option (D × Sto)} {r : Option (D × Sto)} (h1 : f e S = some (x, S1)) (h2 : g e S1 = some (y, S2)) (h3 : h e S2 = some (z, S3)) (hk : k [x, y, z] S3 = r) : eCall k (aCons f (aCons g (aCons h aNil))) e S = r := by
  unfold eCall aCons aNil
  rw [h1]
  simp only
  rw [h2]
  simp only
  rw [h3]
  exact hk
theorem v_T2 (h1 : f e S = some (x, S1)) (h2 : g e S1 = some (y, S2)) : eTup (aCons f (aCons g aNil)) e S = some (.tup [x, y], S2) := by
  unfold eTup aCons aNil
  rw [h1]
  simp only
  rw [h2]
  simp
theorem v_ifFp {f : Sv} (h1 : c e S = some (false, S)) : sIf c f sNx e S = some (.nx e, S) := by
  unfold sIf
  rw [h1]
  rfl
theorem v_tst {h : D → D → Sto → Option (D × Sto)} (h1 : f e S = some (x, S)) (h2 : g e S = some (y, S)) (h3 : h x y S = some (.bl b, S)) : tV (eOpS h f g) e S = some (b, S) := v_tV (v_opS h1 h2 h3)
theorem v_asg3 {i j k : Nat} (h1 : f e S = some (.tup [x, y, z], S1)) : sAsg f (gTp 3 (gCn (gNm i) (gCn (gNm j) (gCn (gNm k) gNl)))) e S = some (.nx (((e.set i (some x)).set j (some y)).set k (some z)), S1) := by
  unfold sAsg
  rw [h1]
  rfl
theorem v_orT (h1 : c e S = some (true, S1)) : tOr' c c' e S = some (true, S1) := by
  unfold tOr'
  rw [h1]
theorem v_orF (h1 : c e S = some (false, S)) (h2 : c' e S = some (b, S)) : tOr' c c' e S = some (b, S) := by
  unfold tOr'
  rw [h1]
  exact h2
theorem v_anF (h1 : c e S = some (false, S1)) : tAn c c' e S = some (false, S1) := by
  unfold tAn
  rw [h1]
theorem v_anT (h1 : c e S = some (true, S)) (h2 : c' e S = some (b, S)) : tAn c c' e S = some (b, S) := by
  unfold tAn
  rw [h1]
  exact h2
theorem v_andT (h1 : f e S = some (.bl true, S)) (h2 : g e S = some (.bl b, S)) : eAnd f g e S = some (.bl b, S) := by
  unfold eAnd
  rw [h1]
  simp only
  rw [h2]
theorem v_F {l : Lv} {ds : List D} (h1 : l e S = some (ds, S1)) : eF l e S = some (.lst ds, S1) := by
  unfold eF
  rw [h1]
theorem clLB_all {n : Nat} : ∀ {ds : List D}, (∀ x ∈ ds, clB n x = true) → clLB n ds = true
  | [], _ => rfl
  | d :: ds, h => by
    unfold clLB
    rw [h d List.mem_cons_self, clLB_all fun x hx => h x (List.mem_cons_of_mem _ hx)]
    rfl
theorem v_run {np n : Nat} {b : Sv} {ds : List D} (hl : ds.length = np) (h : b (ds.map some ++ List.replicate (n - np) none) S = some (.rt x, S1)) : runB np n b ds S = some (x, S1) := by
  unfold runB
  rw [if_pos hl, h]
theorem v_me {T : String} {h : Mh} {l : Lv} {ds : List D} {r : Option (D × Sto)} (h1 : f e S = some (x, S1)) (ty : isTy T S1 x = true) (h2 : l e S1 = some (ds, S2)) (h3 : h x ds S2 = r) : eMe T h f l e S = r := by
  unfold eMe
  rw [h1]
  simp only
  rw [if_pos ty, h2]
  exact h3
theorem v_drop (h1 : f e S = some (x, S1)) : sDrop f e S = some (.nx e, S1) := by
  unfold sDrop
  rw [h1]
theorem v_cons1 (h1 : f e S = some (x, S1)) : aCons f aNil e S = some ([x], S1) := by
  unfold aCons aNil
  rw [h1]
theorem ext_of {l : Nat} {xs ys : List D} (h1 : stL S l = some xs) (h2 : lstV S y = some ys) (h3 : xs.length + ys.length ≤ 1000000) : hExt (.ref l) [y] S = some (.non, S.set l (.lst (xs ++ ys))) := by
  unfold hExt
  simp only [h1, h2]
  rw [if_pos h3]
theorem fin_ref {l : Nat} {ds : List D} (ho : oldB S S1 = true) (hl : ¬ l < S.length) (e1 : S1[l]? = some (.lst ds)) (hc : clLB S.length ds = true) (ht : S1.take S.length = S2) : finAb S (.ref l) S1 = some (.lst ds, S2) := by
  unfold finAb
  rw [if_pos ho]
  simp only
  rw [if_neg hl, e1]
  simp only
  rw [if_pos hc, ht]
theorem v_un {h : D → Option D} (h1 : f e S = some (x, S1)) (h2 : h x = some y) : eUn h f e S = some (y, S1) := by
  unfold eUn
  rw [h1]
  simp only
  rw [h2]
theorem v_no (h1 : c e S = some (b, S1)) : tNo c e S = some (!b, S1) := by
  unfold tNo
  rw [h1]
theorem v_L2 (h1 : f e S = some (x, S1)) (h2 : g e S1 = some (y, S2)) : fLst (aCons f (aCons g aNil)) e S = some ([x, y], S2) := by
  unfold fLst aCons aNil
  rw [h1]
  simp only
  rw [h2]
  simp
theorem v_call4 {h k : Ev} {u : D} {S4 : Sto} {m : List D → Sto → Option (D × Sto)} {r : Option (D × Sto)} (h1 : f e S = some (x, S1)) (h2 : g e S1 = some (y, S2)) (h3 : h e S2 = some (z, S3)) (h4 : k e S3 = some (u, S4)) (hk : m [x, y, z, u] S4 = r) : eCall m (aCons f (aCons g (aCons h (aCons k aNil)))) e S = r := by
  unfold eCall aCons aNil
  rw [h1]
  simp only
  rw [h2]
  simp only
  rw [h3]
  simp only
  rw [h4]
  exact hk
theorem v_opF {h : D → D → Sto → Option (List D × Sto)} {r : Option (List D × Sto)} (h1 : f e S = some (x, S1)) (h2 : g e S1 = some (y, S2)) (h3 : h x y S2 = r) : fOp h f g e S = r := by
  unfold fOp
  rw [h1]
  simp only
  rw [h2]
  exact h3
theorem cat_of {xs ys : List D} (h3 : xs.length + ys.length ≤ 1000000) : hCat (.lst xs) (.lst ys) S = some (xs ++ ys, S) := by
  show (if xs.length + ys.length ≤ 1000000 then some (xs ++ ys, S) else none) = _
  rw [if_pos h3]
theorem ix_lst {xs : List D} {i : Int} (h : L2.atI xs i = some x) : hIx (.lst xs) (.int i) S = some (x, S) := by
  simp [hIx, seqOf, h]
theorem ix_scr {xs : List D} {i : Int} (h : L2.atI xs i = some x) : hIx (.scr xs) (.int i) S = some (x, S) := by
  simp [hIx, seqOf, h]
theorem v_fA {m : List D → Sto → Option (List D × Sto)} {l : Lv} {ds es : List D} (h1 : l e S = some (ds, S1)) (h2 : m ds S1 = some (es, S2)) : eA (fCall m l) e S = some (.ref S2.length, S2 ++ [.lst es]) := by
  unfold eA fCall
  rw [h1]
  simp only
  rw [h2]
theorem v_cons2 (h1 : f e S = some (x, S1)) (h2 : g e S1 = some (y, S2)) : aCons f (aCons g aNil) e S = some ([x, y], S2) := by
  unfold aCons aNil
  rw [h1]
  simp only
  rw [h2]
theorem v_seqR {f g : Sv} (h1 : f e S = some (.rt x, S1)) : sSeq f g e S = some (.rt x, S1) := by
  unfold sSeq
  rw [h1]
theorem v_seq {f g : Sv} {r : Option (Out × Sto)} (h1 : f e S = some (.nx e1, S1)) (h2 : g e1 S1 = r) : sSeq f g e S = r := by
  unfold sSeq
  rw [h1]
  exact h2
theorem v_set {i : Nat} (h1 : f e S = some (x, S1)) : sSet i f e S = some (.nx (e.set i (some x)), S1) := by
  unfold sSet
  rw [h1]
theorem v_ret (h1 : f e S = some (x, S1)) : sRet f e S = some (.rt x, S1) := by
  unfold sRet
  rw [h1]
theorem v_A2 (h1 : f e S = some (x, S1)) (h2 : g e S1 = some (y, S2)) : eA (fLst (aCons f (aCons g aNil))) e S = some (.ref S2.length, S2 ++ [.lst [x, y]]) := by
  unfold eA fLst aCons aNil
  rw [h1]
  simp only
  rw [h2]
  simp
theorem v_ifT {f g : Sv} {r : Option (Out × Sto)} (h1 : c e S = some (true, S1)) (h2 : f e S1 = r) : sIf c f g e S = r := by
  unfold sIf
  rw [h1]
  exact h2
theorem v_ifF {f g : Sv} {r : Option (Out × Sto)} (h1 : c e S = some (false, S1)) (h2 : g e S1 = r) : sIf c f g e S = r := by
  unfold sIf
  rw [h1]
  exact h2
end
end Tr
namespace K26
open PySem PySem.Spec PyProof.Rows L2 Tr
def topS (i : Nat) : Stmt := PySem.Challenge.pw_shuffletold_k26_shares_of_two_parts.main.body.getD i (.Pass ⟨0, 0, 0, 0⟩)
abbrev s_lowest : Stmt := topS 1
abbrev N_lowest : List Str := ["over", "under", "great", "small"]
theorem sc_lowest : FnScope N_lowest ["over", "under"] (defScope s_lowest) := ⟨rfl, rfl, rfl, by decide +kernel, rfl, by decide +kernel, by decide +kernel⟩
abbrev s_times : Stmt := topS 2
abbrev N_times : List Str := ["one", "other"]
theorem sc_times : FnScope N_times ["one", "other"] (defScope s_times) := ⟨rfl, rfl, rfl, by decide +kernel, rfl, by decide +kernel, by decide +kernel⟩
abbrev s_one_share : Stmt := topS 4
abbrev N_one_share : List Str := ["kind", "many", "part"]
theorem sc_one_share : FnScope N_one_share ["kind", "many", "part"] (defScope s_one_share) := ⟨rfl, rfl, rfl, by decide +kernel, rfl, by decide +kernel, by decide +kernel⟩
abbrev s_both_rises : Stmt := topS 5
abbrev N_both_rises : List Str := ["one", "other"]
theorem sc_both_rises : FnScope N_both_rises ["one", "other"] (defScope s_both_rises) := ⟨rfl, rfl, rfl, by decide +kernel, rfl, by decide +kernel, by decide +kernel⟩
abbrev s_both_crossed : Stmt := topS 6
abbrev N_both_crossed : List Str := ["one", "other"]
theorem sc_both_crossed : FnScope N_both_crossed ["one", "other"] (defScope s_both_crossed) := ⟨rfl, rfl, rfl, by decide +kernel, rfl, by decide +kernel, by decide +kernel⟩
abbrev s_both_share : Stmt := topS 7
abbrev N_both_share : List Str := ["kind", "many", "one", "other"]
theorem sc_both_share : FnScope N_both_share ["kind", "many", "one", "other"] (defScope s_both_share) := ⟨rfl, rfl, rfl, by decide +kernel, rfl, by decide +kernel, by decide +kernel⟩
abbrev s__law_pot : Stmt := topS 9
abbrev N__law_pot : List Str := ["_law_script", "_law_k", "_law_cell", "_law_number", "_law_mixed"]
theorem sc__law_pot : FnScope N__law_pot ["_law_script", "_law_k"] (defScope s__law_pot) := ⟨rfl, rfl, rfl, by decide +kernel, rfl, by decide +kernel, by decide +kernel⟩
abbrev s__law_next : Stmt := topS 10
abbrev N__law_next : List Str := ["_law_pot_here", "_law_many", "_law_digit"]
theorem sc__law_next : FnScope N__law_next ["_law_pot_here", "_law_many"] (defScope s__law_next) := ⟨rfl, rfl, rfl, by decide +kernel, rfl, by decide +kernel, by decide +kernel⟩
abbrev s__law_of : Stmt := topS 11
abbrev N__law_of : List Str := ["_law_pot_here", "_law_some"]
theorem sc__law_of : FnScope N__law_of ["_law_pot_here", "_law_some"] (defScope s__law_of) := ⟨rfl, rfl, rfl, by decide +kernel, rfl, by decide +kernel, by decide +kernel⟩
abbrev s__law_same : Stmt := topS 12
abbrev N__law_same : List Str := ["_law_one", "_law_two", "_law_a", "_law_b"]
theorem sc__law_same : FnScope N__law_same ["_law_one", "_law_two"] (defScope s__law_same) := ⟨rfl, rfl, rfl, by decide +kernel, rfl, by decide +kernel, by decide +kernel⟩
abbrev s__law_low : Stmt := topS 13
abbrev N__law_low : List Str := ["_law_over", "_law_under", "_law_rest", "_law_by"]
theorem sc__law_low : FnScope N__law_low ["_law_over", "_law_under"] (defScope s__law_low) := ⟨rfl, rfl, rfl, by decide +kernel, rfl, by decide +kernel, by decide +kernel⟩
abbrev s__law_all : Stmt := topS 14
abbrev N__law_all : List Str := ["_law_many", "_law_found", "_law_k", "_law_longer", "_law_one", "_law_at"]
theorem sc__law_all : FnScope N__law_all ["_law_many"] (defScope s__law_all) := ⟨rfl, rfl, rfl, by decide +kernel, rfl, by decide +kernel, by decide +kernel⟩
abbrev s__law_parts : Stmt := topS 15
abbrev N__law_parts : List Str := ["_law_kind", "_law_many", "_law_k", "_law_found", "_law_j"]
theorem sc__law_parts : FnScope N__law_parts ["_law_kind", "_law_many"] (defScope s__law_parts) := ⟨rfl, rfl, rfl, by decide +kernel, rfl, by decide +kernel, by decide +kernel⟩
abbrev s__law_round : Stmt := topS 16
abbrev N__law_round : List Str := ["_law_order", "_law_number", "_law_found", "_law_onward"]
theorem sc__law_round : FnScope N__law_round ["_law_order", "_law_number"] (defScope s__law_round) := ⟨rfl, rfl, rfl, by decide +kernel, rfl, by decide +kernel, by decide +kernel⟩
abbrev s__law_has : Stmt := topS 17
abbrev N__law_has : List Str := ["_law_kind", "_law_part", "_law_order", "_law_k"]
theorem sc__law_has : FnScope N__law_has ["_law_kind", "_law_part", "_law_order"] (defScope s__law_has) := ⟨rfl, rfl, rfl, by decide +kernel, rfl, by decide +kernel, by decide +kernel⟩
abbrev s__law_pair_share : Stmt := topS 18
abbrev N__law_pair_share : List Str := ["_law_orders", "_law_had", "_law_one", "_law_other", "_law_at"]
theorem sc__law_pair_share : FnScope N__law_pair_share ["_law_orders", "_law_had", "_law_one", "_law_other"] (defScope s__law_pair_share) := ⟨rfl, rfl, rfl, by decide +kernel, rfl, by decide +kernel, by decide +kernel⟩
abbrev s__law_all_pairs_right : Stmt := topS 19
abbrev N__law_all_pairs_right : List Str := ["_law_kind", "_law_many", "_law_orders", "_law_some", "_law_had", "_law_part", "_law_order", "_law_one", "_law_other", "_law_due"]
theorem sc__law_all_pairs_right : FnScope N__law_all_pairs_right ["_law_kind", "_law_many"] (defScope s__law_all_pairs_right) := ⟨rfl, rfl, rfl, by decide +kernel, rfl, by decide +kernel, by decide +kernel⟩
abbrev s__law_few : Stmt := topS 20
abbrev N__law_few : List Str := ["_law_kind", "_law_one", "_law_other", "_law_touched", "_law_k"]
theorem sc__law_few : FnScope N__law_few ["_law_kind", "_law_one", "_law_other"] (defScope s__law_few) := ⟨rfl, rfl, rfl, by decide +kernel, rfl, by decide +kernel, by decide +kernel⟩
abbrev s__law_far_due : Stmt := topS 21
abbrev N__law_far_due : List Str := ["_law_kind", "_law_many", "_law_one", "_law_other", "_law_few_here", "_law_first", "_law_second", "_law_orders", "_law_had", "_law_part", "_law_order", "_law_under"]
theorem sc__law_far_due : FnScope N__law_far_due ["_law_kind", "_law_many", "_law_one", "_law_other"] (defScope s__law_far_due) := ⟨rfl, rfl, rfl, by decide +kernel, rfl, by decide +kernel, by decide +kernel⟩
abbrev s_law : Stmt := topS 22
abbrev N_law : List Str := ["_law_script", "_law_k", "_law_pot_here", "_law_many", "_law_far", "_law_kind", "_law_some", "_law_turn", "_law_one", "_law_near", "_law_other", "_law_due"]
theorem sc_law : FnScope N_law ["_law_script"] (defScope s_law) := ⟨rfl, rfl, rfl, by decide +kernel, rfl, by decide +kernel, by decide +kernel⟩
structure Cx0 (K : PySem.W.Frag) (mg : Str → Option Value) where
  f_lowest : Addr
  fd_lowest : FuncData
  F_lowest : Fun K "lowest" "lowest" s_lowest f_lowest fd_lowest
  g_lowest : mg "lowest" = some (.ref f_lowest)
  f_times : Addr
  fd_times : FuncData
  F_times : Fun K "times" "times" s_times f_times fd_times
  g_times : mg "times" = some (.ref f_times)
  f_one_share : Addr
  fd_one_share : FuncData
  F_one_share : Fun K "one_share" "one_share" s_one_share f_one_share fd_one_share
  g_one_share : mg "one_share" = some (.ref f_one_share)
  f_both_rises : Addr
  fd_both_rises : FuncData
  F_both_rises : Fun K "both_rises" "both_rises" s_both_rises f_both_rises fd_both_rises
  g_both_rises : mg "both_rises" = some (.ref f_both_rises)
  f_both_crossed : Addr
  fd_both_crossed : FuncData
  F_both_crossed : Fun K "both_crossed" "both_crossed" s_both_crossed f_both_crossed fd_both_crossed
  g_both_crossed : mg "both_crossed" = some (.ref f_both_crossed)
  f_both_share : Addr
  fd_both_share : FuncData
  F_both_share : Fun K "both_share" "both_share" s_both_share f_both_share fd_both_share
  g_both_share : mg "both_share" = some (.ref f_both_share)
  f__law_pot : Addr
  fd__law_pot : FuncData
  F__law_pot : Fun K "_law_pot" "_law_pot" s__law_pot f__law_pot fd__law_pot
  g__law_pot : mg "_law_pot" = some (.ref f__law_pot)
  f__law_next : Addr
  fd__law_next : FuncData
  F__law_next : Fun K "_law_next" "_law_next" s__law_next f__law_next fd__law_next
  g__law_next : mg "_law_next" = some (.ref f__law_next)
  f__law_of : Addr
  fd__law_of : FuncData
  F__law_of : Fun K "_law_of" "_law_of" s__law_of f__law_of fd__law_of
  g__law_of : mg "_law_of" = some (.ref f__law_of)
  f__law_same : Addr
  fd__law_same : FuncData
  F__law_same : Fun K "_law_same" "_law_same" s__law_same f__law_same fd__law_same
  g__law_same : mg "_law_same" = some (.ref f__law_same)
  f__law_low : Addr
  fd__law_low : FuncData
  F__law_low : Fun K "_law_low" "_law_low" s__law_low f__law_low fd__law_low
  g__law_low : mg "_law_low" = some (.ref f__law_low)
  f__law_all : Addr
  fd__law_all : FuncData
  F__law_all : Fun K "_law_all" "_law_all" s__law_all f__law_all fd__law_all
  g__law_all : mg "_law_all" = some (.ref f__law_all)
  f__law_parts : Addr
  fd__law_parts : FuncData
  F__law_parts : Fun K "_law_parts" "_law_parts" s__law_parts f__law_parts fd__law_parts
  g__law_parts : mg "_law_parts" = some (.ref f__law_parts)
  f__law_round : Addr
  fd__law_round : FuncData
  F__law_round : Fun K "_law_round" "_law_round" s__law_round f__law_round fd__law_round
  g__law_round : mg "_law_round" = some (.ref f__law_round)
  f__law_has : Addr
  fd__law_has : FuncData
  F__law_has : Fun K "_law_has" "_law_has" s__law_has f__law_has fd__law_has
  g__law_has : mg "_law_has" = some (.ref f__law_has)
  f__law_pair_share : Addr
  fd__law_pair_share : FuncData
  F__law_pair_share : Fun K "_law_pair_share" "_law_pair_share" s__law_pair_share f__law_pair_share fd__law_pair_share
  g__law_pair_share : mg "_law_pair_share" = some (.ref f__law_pair_share)
  f__law_all_pairs_right : Addr
  fd__law_all_pairs_right : FuncData
  F__law_all_pairs_right : Fun K "_law_all_pairs_right" "_law_all_pairs_right" s__law_all_pairs_right f__law_all_pairs_right fd__law_all_pairs_right
  g__law_all_pairs_right : mg "_law_all_pairs_right" = some (.ref f__law_all_pairs_right)
  f__law_few : Addr
  fd__law_few : FuncData
  F__law_few : Fun K "_law_few" "_law_few" s__law_few f__law_few fd__law_few
  g__law_few : mg "_law_few" = some (.ref f__law_few)
  f__law_far_due : Addr
  fd__law_far_due : FuncData
  F__law_far_due : Fun K "_law_far_due" "_law_far_due" s__law_far_due f__law_far_due fd__law_far_due
  g__law_far_due : mg "_law_far_due" = some (.ref f__law_far_due)
  f_law : Addr
  fd_law : FuncData
  F_law : Fun K "law" "law" s_law f_law fd_law
  g_law : mg "law" = some (.ref f_law)
  b_abs : mg "abs" = none
  b_all : mg "all" = none
  b_bool : mg "bool" = none
  b_dict : mg "dict" = none
  b_int : mg "int" = none
  b_isinstance : mg "isinstance" = none
  b_len : mg "len" = none
  b_list : mg "list" = none
  b_max : mg "max" = none
  b_min : mg "min" = none
  b_range : mg "range" = none
  b_set : mg "set" = none
  b_sorted : mg "sorted" = none
  b_str : mg "str" = none
  b_tuple : mg "tuple" = none
  b_zip : mg "zip" = none
variable {P : Program} {w : World} {K : PySem.W.Frag} {mg : Str → Option Value} {base : Heap}
theorem bd_lowest (C : Cx0 K mg) : Binds K C.fd_lowest ["over", "under"] [] := C.F_lowest.binds fun _ _ _ _ _ _ us hl => match us, hl with | [_, _], _ => rfl
theorem bd_times (C : Cx0 K mg) : Binds K C.fd_times ["one", "other"] [] := C.F_times.binds fun _ _ _ _ _ _ us hl => match us, hl with | [_, _], _ => rfl
theorem bd_one_share (C : Cx0 K mg) : Binds K C.fd_one_share ["kind", "many", "part"] [] := C.F_one_share.binds fun _ _ _ _ _ _ us hl => match us, hl with | [_, _, _], _ => rfl
theorem bd_both_rises (C : Cx0 K mg) : Binds K C.fd_both_rises ["one", "other"] [] := C.F_both_rises.binds fun _ _ _ _ _ _ us hl => match us, hl with | [_, _], _ => rfl
theorem bd_both_crossed (C : Cx0 K mg) : Binds K C.fd_both_crossed ["one", "other"] [] := C.F_both_crossed.binds fun _ _ _ _ _ _ us hl => match us, hl with | [_, _], _ => rfl
theorem bd_both_share (C : Cx0 K mg) : Binds K C.fd_both_share ["kind", "many", "one", "other"] [] := C.F_both_share.binds fun _ _ _ _ _ _ us hl => match us, hl with | [_, _, _, _], _ => rfl
theorem bd__law_pot (C : Cx0 K mg) : Binds K C.fd__law_pot ["_law_script", "_law_k"] [] := C.F__law_pot.binds fun _ _ _ _ _ _ us hl => match us, hl with | [_, _], _ => rfl
theorem bd__law_next (C : Cx0 K mg) : Binds K C.fd__law_next ["_law_pot_here", "_law_many"] [] := C.F__law_next.binds fun _ _ _ _ _ _ us hl => match us, hl with | [_, _], _ => rfl
theorem bd__law_of (C : Cx0 K mg) : Binds K C.fd__law_of ["_law_pot_here", "_law_some"] [] := C.F__law_of.binds fun _ _ _ _ _ _ us hl => match us, hl with | [_, _], _ => rfl
theorem bd__law_same (C : Cx0 K mg) : Binds K C.fd__law_same ["_law_one", "_law_two"] [] := C.F__law_same.binds fun _ _ _ _ _ _ us hl => match us, hl with | [_, _], _ => rfl
theorem bd__law_low (C : Cx0 K mg) : Binds K C.fd__law_low ["_law_over", "_law_under"] [] := C.F__law_low.binds fun _ _ _ _ _ _ us hl => match us, hl with | [_, _], _ => rfl
theorem bd__law_all (C : Cx0 K mg) : Binds K C.fd__law_all ["_law_many"] [] := C.F__law_all.binds fun _ _ _ _ _ _ us hl => match us, hl with | [_], _ => rfl
theorem bd__law_parts (C : Cx0 K mg) : Binds K C.fd__law_parts ["_law_kind", "_law_many"] [] := C.F__law_parts.binds fun _ _ _ _ _ _ us hl => match us, hl with | [_, _], _ => rfl
theorem bd__law_round (C : Cx0 K mg) : Binds K C.fd__law_round ["_law_order", "_law_number"] [] := C.F__law_round.binds fun _ _ _ _ _ _ us hl => match us, hl with | [_, _], _ => rfl
theorem bd__law_has (C : Cx0 K mg) : Binds K C.fd__law_has ["_law_kind", "_law_part", "_law_order"] [] := C.F__law_has.binds fun _ _ _ _ _ _ us hl => match us, hl with | [_, _, _], _ => rfl
theorem bd__law_pair_share (C : Cx0 K mg) : Binds K C.fd__law_pair_share ["_law_orders", "_law_had", "_law_one", "_law_other"] [] := C.F__law_pair_share.binds fun _ _ _ _ _ _ us hl => match us, hl with | [_, _, _, _], _ => rfl
theorem bd__law_all_pairs_right (C : Cx0 K mg) : Binds K C.fd__law_all_pairs_right ["_law_kind", "_law_many"] [] := C.F__law_all_pairs_right.binds fun _ _ _ _ _ _ us hl => match us, hl with | [_, _], _ => rfl
theorem bd__law_few (C : Cx0 K mg) : Binds K C.fd__law_few ["_law_kind", "_law_one", "_law_other"] [] := C.F__law_few.binds fun _ _ _ _ _ _ us hl => match us, hl with | [_, _, _], _ => rfl
theorem bd__law_far_due (C : Cx0 K mg) : Binds K C.fd__law_far_due ["_law_kind", "_law_many", "_law_one", "_law_other"] [] := C.F__law_far_due.binds fun _ _ _ _ _ _ us hl => match us, hl with | [_, _, _, _], _ => rfl
theorem bd_law (C : Cx0 K mg) : Binds K C.fd_law ["_law_script"] [] := C.F_law.binds fun _ _ _ _ _ _ us hl => match us, hl with | [_], _ => rfl
noncomputable def m_lowest : Fn := runA 2 4 (sSeq (sPar 2 3 (eCall kAbs (aCons (eVar 0) aNil)) (eCall kAbs (aCons (eVar 1) aNil)))
  (sSeq (sWh (tV (eOp hGtI (eVar 3) (eC (.int 0))))
  (sPar 2 3 (eVar 3) (eOp hMod (eVar 2) (eVar 3))))
  (sSeq (sIf (tV (eOp hLtI (eVar 1) (eC (.int 0))))
  (sSet 2 (eUn uNeg (eVar 2)))
  sNx)
  (sRet (eTup (aCons (eOp hDiv (eVar 0) (eVar 2)) (aCons (eOp hDiv (eVar 1) (eVar 2)) aNil)))))))
theorem ok_lowest (C : Cx0 K mg) : FnOk P w K mg base CX0 1 C.f_lowest C.fd_lowest ["over", "under"] (cv K m_lowest) :=
  ok_A C.F_lowest sc_lowest rfl rfl fun cdv A outer s H E hr => (b_cons (s_par (i := 2) (j := 3) rfl sc_lowest.nd rfl rfl (by decide) rfl rfl (x_blt call_abs k_abs (by rfl) C.b_abs bo_abs (l_cons (x_var 0) l_nil)) (x_blt call_abs k_abs (by rfl) C.b_abs bo_abs (l_cons (x_var 1) l_nil)) (by rfl))
  (b_cons (s_while PassesOwn.never (c_cmp op_gt o_gtI (x_var 3) x_int)
  (b_one (s_par (i := 2) (j := 3) rfl sc_lowest.nd rfl rfl (by decide) rfl rfl (x_var 3) (x_op op_mod o_mod (x_var 2) (x_var 3)) (by rfl))))
  (b_cons (s_if (c_cmp op_lt o_ltI (x_var 1) x_int)
  (b_one (s_set (i := 2) sc_lowest.nd rfl (by first | exact Or.inl rfl | exact Or.inr rfl) (x_un un_neg u_neg (x_var 2))))
  b_nil)
  (b_one (s_ret (x_tup (l_cons (x_op op_fdivW o_div (x_var 0) (x_var 2)) (l_cons (x_op op_fdivW o_div (x_var 1) (x_var 2)) l_nil))))))))
noncomputable def m_one_share : Fn := runA 3 3 (sSeq (sIf (tV (eOpS hEq (eVar 0) (eC (.str ("rounds" : Str)))))
  (sRet (eTup (aCons (eC (.int 1)) (aCons (eOp hSub (eVar 1) (eOpS hIx (eVar 2) (eC (.int 0)))) aNil))))
  sNx)
  (sSeq (sIf (tV (eOpS hEq (eVar 0) (eC (.str ("stays" : Str)))))
  (sRet (eTup (aCons (eC (.int 1)) (aCons (eVar 1) aNil))))
  sNx)
  (sSeq (sIf (tV (eOpS hEq (eVar 0) (eC (.str ("highs" : Str)))))
  (sRet (eTup (aCons (eC (.int 1)) (aCons (eOp hAdd (eOpS hIx (eVar 2) (eC (.int 0))) (eC (.int 1))) aNil))))
  sNx)
  (sRet (eTup (aCons (eC (.int 1)) (aCons (eC (.int 2)) aNil)))))))
theorem ok_one_share (C : Cx0 K mg) : FnOk P w K mg base CX0 1 C.f_one_share C.fd_one_share ["kind", "many", "part"] (cv K m_one_share) :=
  ok_A C.F_one_share sc_one_share rfl rfl fun cdv A outer s H E hr => (b_cons (s_if (c_cmpS (op_eqA hr.units) o_eq (x_var 0) x_str)
  (b_one (s_ret (x_tup (l_cons x_int (l_cons (x_op op_sub o_sub (x_var 1) (x_ix rfl (x_var 2) x_int)) l_nil)))))
  b_nil)
  (b_cons (s_if (c_cmpS (op_eqA hr.units) o_eq (x_var 0) x_str)
  (b_one (s_ret (x_tup (l_cons x_int (l_cons (x_var 1) l_nil)))))
  b_nil)
  (b_cons (s_if (c_cmpS (op_eqA hr.units) o_eq (x_var 0) x_str)
  (b_one (s_ret (x_tup (l_cons x_int (l_cons (x_op op_addAll o_add (x_ix rfl (x_var 2) x_int) x_int) l_nil)))))
  b_nil)
  (b_one (s_ret (x_tup (l_cons x_int (l_cons x_int l_nil))))))))
noncomputable def m_both_rises : Fn := runA 2 2 (sSeq (sIf (tV (eOpS hEq (eCall kAbs (aCons (eOp hSub (eOpS hIx (eVar 0) (eC (.int 0))) (eOpS hIx (eVar 1) (eC (.int 0)))) aNil)) (eC (.int 1))))
  (sRet (eTup (aCons (eC (.int 1)) (aCons (eC (.int 6)) aNil))))
  sNx)
  (sRet (eTup (aCons (eC (.int 1)) (aCons (eC (.int 4)) aNil)))))
theorem ok_both_rises (C : Cx0 K mg) : FnOk P w K mg base CX0 1 C.f_both_rises C.fd_both_rises ["one", "other"] (cv K m_both_rises) :=
  ok_A C.F_both_rises sc_both_rises rfl rfl fun cdv A outer s H E hr => (b_cons (s_if (c_cmpS (op_eqA hr.units) o_eq (x_blt call_abs k_abs (by rfl) C.b_abs bo_abs (l_cons (x_op op_sub o_sub (x_ix rfl (x_var 0) x_int) (x_ix rfl (x_var 1) x_int)) l_nil)) x_int)
  (b_one (s_ret (x_tup (l_cons x_int (l_cons x_int l_nil)))))
  b_nil)
  (b_one (s_ret (x_tup (l_cons x_int (l_cons x_int l_nil))))))
noncomputable def m_both_crossed : Fn := runA 2 2 (sSeq (sIf (tOr' (tV (eOpS hEq (eOpS hIx (eVar 0) (eC (.int 0))) (eOpS hIx (eVar 1) (eC (.int 0))))) (tV (eOpS hEq (eOpS hIx (eVar 0) (eC (.int 1))) (eOpS hIx (eVar 1) (eC (.int 1))))))
  (sRet (eTup (aCons (eC (.int 1)) (aCons (eC (.int 3)) aNil))))
  sNx)
  (sSeq (sIf (tOr' (tV (eOpS hEq (eOpS hIx (eVar 0) (eC (.int 1))) (eOpS hIx (eVar 1) (eC (.int 0))))) (tV (eOpS hEq (eOpS hIx (eVar 0) (eC (.int 0))) (eOpS hIx (eVar 1) (eC (.int 1))))))
  (sRet (eTup (aCons (eC (.int 1)) (aCons (eC (.int 6)) aNil))))
  sNx)
  (sRet (eTup (aCons (eC (.int 1)) (aCons (eC (.int 4)) aNil))))))
theorem ok_both_crossed (C : Cx0 K mg) : FnOk P w K mg base CX0 1 C.f_both_crossed C.fd_both_crossed ["one", "other"] (cv K m_both_crossed) :=
  ok_A C.F_both_crossed sc_both_crossed rfl rfl fun cdv A outer s H E hr => (b_cons (s_if (w_or (c_cmpS (op_eqA hr.units) o_eq (x_ix rfl (x_var 0) x_int) (x_ix rfl (x_var 1) x_int)) (w_or1 (c_cmpS (op_eqA hr.units) o_eq (x_ix rfl (x_var 0) x_int) (x_ix rfl (x_var 1) x_int)))).pt
  (b_one (s_ret (x_tup (l_cons x_int (l_cons x_int l_nil)))))
  b_nil)
  (b_cons (s_if (w_or (c_cmpS (op_eqA hr.units) o_eq (x_ix rfl (x_var 0) x_int) (x_ix rfl (x_var 1) x_int)) (w_or1 (c_cmpS (op_eqA hr.units) o_eq (x_ix rfl (x_var 0) x_int) (x_ix rfl (x_var 1) x_int)))).pt
  (b_one (s_ret (x_tup (l_cons x_int (l_cons x_int l_nil)))))
  b_nil)
  (b_one (s_ret (x_tup (l_cons x_int (l_cons x_int l_nil)))))))
noncomputable def m__law_pot : List D → Sto → Option (List D × Sto) := runF 2 5 (sSeq (sSet 2 (eC (.int 0)))
  (sSeq (sIf (tV (eOp hLtI (eVar 1) (eCall kLen (aCons (eVar 0) aNil))))
  (sSet 2 (eOpS hIx (eVar 0) (eVar 1)))
  sNx)
  (sSeq (sSet 3 (eOp hAdd (eOp hMulI (eC (.int 2)) (eOp hMod (eCall kAbs (aCons (eVar 2) aNil)) (eOp hPow (eOp hPow (eC (.int 10)) (eC (.int 60))) (eC (.int 15))))) (eCall kInt (aCons (eOp hLtI (eVar 2) (eC (.int 0))) aNil))))
  (sSeq (sSet 4 (eOp hMod (eOp hPow (eOp hAdd (eOp hAdd (eVar 3) (eOp hMulI (eC (.int 7919)) (eVar 1))) (eC (.int 13))) (eC (.int 3))) (eC (.int 18446744073709551557))))
  (sRet (eA (fLst (aCons (eOp hMulI (eVar 3) (eCall kInt (aCons (eOp hGeI (eVar 3) (eOp hMulI (eC (.int 2)) (eOp hPow (eC (.int 10)) (eC (.int 18))))) aNil))) (aCons (eVar 4) aNil)))))))))
theorem ok__law_pot (C : Cx0 K mg) : FnOk P w K mg base CX0 1 C.f__law_pot C.fd__law_pot ["_law_script", "_law_k"] (cvF K m__law_pot) :=
  ok_F C.F__law_pot sc__law_pot rfl rfl fun cdv A outer s H E hr => (b_cons (s_set (i := 2) sc__law_pot.nd rfl (by first | exact Or.inl rfl | exact Or.inr rfl) x_int)
  (b_cons (s_if (c_cmp op_lt o_ltI (x_var 1) (x_blt call_len k_len (by rfl) C.b_len bo_len (l_cons (x_var 0) l_nil)))
  (b_one (s_set (i := 2) sc__law_pot.nd rfl (by first | exact Or.inl rfl | exact Or.inr rfl) (x_ix rfl (x_var 0) (x_var 1))))
  b_nil)
  (b_cons (s_set (i := 3) sc__law_pot.nd rfl (by first | exact Or.inl rfl | exact Or.inr rfl) (x_op op_addAll o_add (x_op op_mulW o_mulI x_int (x_op op_mod o_mod (x_blt call_abs k_abs (by rfl) C.b_abs bo_abs (l_cons (x_var 2) l_nil)) (x_op op_powW o_pow (x_op op_powW o_pow x_int x_int) x_int))) (x_ty call_int1 k_int (by rfl) C.b_int bo_int (l_cons (x_cmp op_lt o_ltI (x_var 2) x_int) l_nil))))
  (b_cons (s_set (i := 4) sc__law_pot.nd rfl (by first | exact Or.inl rfl | exact Or.inr rfl) (x_op op_mod o_mod (x_op op_powW o_pow (x_op op_addAll o_add (x_op op_addAll o_add (x_var 3) (x_op op_mulW o_mulI x_int (x_var 1))) x_int) x_int) x_int))
  (b_one (s_ret (x_A (f_lst (l_cons (x_op op_mulW o_mulI (x_var 3) (x_ty call_int1 k_int (by rfl) C.b_int bo_int (l_cons (x_cmp op_ge o_geI (x_var 3) (x_op op_mulW o_mulI x_int (x_op op_powW o_pow x_int x_int))) l_nil))) (l_cons (x_var 4) l_nil))))))))))
noncomputable def m__law_next : Fn := runA 2 3 (sSeq (sIf (tV (eOp hGtI (eOpS hIx (eVar 0) (eC (.int 0))) (eC (.int 0))))
  (sSeq (sSet 2 (eOp hMod (eOpS hIx (eVar 0) (eC (.int 0))) (eVar 1)))
  (sSeq (sSub hSetL (eVar 0) (eC (.int 0)) (eOp hDiv (eOpS hIx (eVar 0) (eC (.int 0))) (eVar 1)))
  (sRet (eVar 2))))
  sNx)
  (sSeq (sSub hSetL (eVar 0) (eC (.int 1)) (eOp hMod (eOp hAdd (eOp hMulI (eOpS hIx (eVar 0) (eC (.int 1))) (eC (.int 6364136223846793005))) (eC (.int 1442695040888963407))) (eC (.int 18446744073709551557))))
  (sRet (eOp hMod (eOp hDiv (eOp hMod (eOp hMulI (eOpS hIx (eVar 0) (eC (.int 1))) (eOpS hIx (eVar 0) (eC (.int 1)))) (eC (.int 2305843009213693951))) (eC (.int 4099))) (eVar 1)))))
theorem ok__law_next (C : Cx0 K mg) : FnOk P w K mg base CX0 1 C.f__law_next C.fd__law_next ["_law_pot_here", "_law_many"] (cv K m__law_next) :=
  ok_A C.F__law_next sc__law_next rfl rfl fun cdv A outer s H E hr => (b_cons (s_if (c_cmp op_gt o_gtI (x_ix rfl (x_var 0) x_int) x_int)
  (b_cons (s_set (i := 2) sc__law_next.nd rfl (by first | exact Or.inl rfl | exact Or.inr rfl) (x_op op_mod o_mod (x_ix rfl (x_var 0) x_int) (x_var 1)))
  (b_cons (s_sub set_list t_setL (x_op op_fdivW o_div (x_ix rfl (x_var 0) x_int) (x_var 1)) (x_var 0) x_int)
  (b_one (s_ret (x_var 2)))))
  b_nil)
  (b_cons (s_sub set_list t_setL (x_op op_mod o_mod (x_op op_addAll o_add (x_op op_mulW o_mulI (x_ix rfl (x_var 0) x_int) x_int) x_int) x_int) (x_var 0) x_int)
  (b_one (s_ret (x_op op_mod o_mod (x_op op_fdivW o_div (x_op op_mod o_mod (x_op op_mulW o_mulI (x_ix rfl (x_var 0) x_int) (x_ix rfl (x_var 0) x_int)) x_int) x_int) (x_var 1))))))
noncomputable def m__law_low : Fn := runA 2 4 (sSeq (sPar 2 3 (eCall kAbs (aCons (eVar 0) aNil)) (eVar 1))
  (sSeq (sWh (tV (eOp hGtI (eVar 2) (eC (.int 0))))
  (sPar 3 2 (eVar 2) (eOp hMod (eVar 3) (eVar 2))))
  (sRet (eTup (aCons (eOp hDiv (eVar 0) (eVar 3)) (aCons (eOp hDiv (eVar 1) (eVar 3)) aNil))))))
theorem ok__law_low (C : Cx0 K mg) : FnOk P w K mg base CX0 1 C.f__law_low C.fd__law_low ["_law_over", "_law_under"] (cv K m__law_low) :=
  ok_A C.F__law_low sc__law_low rfl rfl fun cdv A outer s H E hr => (b_cons (s_par (i := 2) (j := 3) rfl sc__law_low.nd rfl rfl (by decide) rfl rfl (x_blt call_abs k_abs (by rfl) C.b_abs bo_abs (l_cons (x_var 0) l_nil)) (x_var 1) (by rfl))
  (b_cons (s_while PassesOwn.never (c_cmp op_gt o_gtI (x_var 2) x_int)
  (b_one (s_par (i := 3) (j := 2) rfl sc__law_low.nd rfl rfl (by decide) rfl rfl (x_var 2) (x_op op_mod o_mod (x_var 3) (x_var 2)) (by rfl))))
  (b_one (s_ret (x_tup (l_cons (x_op op_fdivW o_div (x_var 0) (x_var 3)) (l_cons (x_op op_fdivW o_div (x_var 1) (x_var 3)) l_nil)))))))
noncomputable def m__law_all : Fn := runA 1 6 (sSeq (sSet 1 (eF (fLst (aCons (eTup aNil) aNil))))
  (sSeq (sFor (iR1 (eVar 0)) (gNm 2)
  (sSeq (sSet 3 (eA (fLst aNil)))
  (sSeq (sFor (iSq (eVar 1)) (gNm 4)
  (sDrop (eMe "list" hExt (eVar 3) (aCons (eF (fLc [5] (iR1 (eOp hAdd (eVar 2) (eC (.int 1)))) (gNm 5) tYe (eOp hAdd (eOp hAdd (eSl (eVar 4) oNo (oSo (eVar 5))) (eTup (aCons (eVar 2) aNil))) (eSl (eVar 4) (oSo (eVar 5)) oNo)))) aNil))))
  (sSet 1 (eVar 3)))))
  (sRet (eVar 1))))
theorem ok__law_all (C : Cx0 K mg) : FnOk P w K mg base CX0 1 C.f__law_all C.fd__law_all ["_law_many"] (cv K m__law_all) :=
  ok_A C.F__law_all sc__law_all rfl rfl fun cdv A outer s H E hr => (b_cons (s_set (i := 1) sc__law_all.nd rfl (by first | exact Or.inl rfl | exact Or.inr rfl) (x_F (f_lst (l_cons (x_tup l_nil) l_nil))))
  (b_cons (s_for [2] PassesOwn.never rfl (w_r1 (by rfl) C.b_range (x_var 0)) (g_name (i := 2) sc__law_all.nd rfl (by first | exact Or.inl rfl | exact Or.inr rfl))
  (b_cons (s_set (i := 3) sc__law_all.nd rfl (by first | exact Or.inl rfl | exact Or.inr rfl) (x_A (f_lst l_nil)))
  (b_cons (s_for [4] PassesOwn.never rfl (w_sq rfl (x_var 1)) (g_name (i := 4) sc__law_all.nd rfl (by first | exact Or.inl rfl | exact Or.inr rfl))
  (b_one (s_expr (x_me PySem.F.plainAttrs_list PySem.F.slot_list_extend PySem.F.type_list_extend mt_extend m_ext rfl (x_var 3) (l_cons (x_F (f_lc [(("_law_at" : Str), 5)] rfl rfl sc__law_all.nd (blkOk_by (N := N__law_all) (sc := defScope s__law_all) (by decide +kernel)) (w_r1 (by rfl) C.b_range (x_op op_addAll o_add (x_var 2) x_int)) (fun s H C1 cl fp => (g_name (i := 5) sc__law_all.nd rfl (by first | exact Or.inl rfl | exact Or.inr rfl))) (fun s H C1 cl fp => i_nil) (fun s H C1 cl fp => (x_op op_addAll o_add (x_op op_addAll o_add (x_sl rfl (x_var 4) p_no (p_so (x_var 5))) (x_tup (l_cons (x_var 2) l_nil))) (x_sl rfl (x_var 4) (p_so (x_var 5)) p_no))))) l_nil)))))
  (b_one (s_set (i := 1) sc__law_all.nd rfl (by first | exact Or.inl rfl | exact Or.inr rfl) (x_var 3))))))
  (b_one (s_ret (x_var 1)))))
noncomputable def m__law_parts : Fn := runA 2 5 (sSeq (sIf (tV (eOpS hNe (eVar 0) (eC (.str ("crossed" : Str)))))
  (sRet (eF (fLc [2] (iR1 (eVar 1)) (gNm 2) (tOr' (tV (eOpS hNe (eVar 0) (eC (.str ("rises" : Str))))) (tV (eOp hLtI (eOp hAdd (eVar 2) (eC (.int 1))) (eVar 1)))) (eTup (aCons (eVar 2) aNil)))))
  sNx)
  (sSeq (sSet 3 (eA (fLst aNil)))
  (sSeq (sFor (iR1 (eVar 1)) (gNm 2)
  (sDrop (eMe "list" hExt (eVar 3) (aCons (eF (fLc [4] (iR2 (eOp hAdd (eVar 2) (eC (.int 1))) (eVar 1)) (gNm 4) tYe (eTup (aCons (eVar 2) (aCons (eVar 4) aNil))))) aNil))))
  (sRet (eVar 3)))))
theorem ok__law_parts (C : Cx0 K mg) : FnOk P w K mg base CX0 1 C.f__law_parts C.fd__law_parts ["_law_kind", "_law_many"] (cv K m__law_parts) :=
  ok_A C.F__law_parts sc__law_parts rfl rfl fun cdv A outer s H E hr => (b_cons (s_if (c_cmpS (op_neA hr.units) o_ne (x_var 0) x_str)
  (b_one (s_ret (x_F (f_lc [(("_law_k" : Str), 2)] rfl rfl sc__law_parts.nd (blkOk_by (N := N__law_parts) (sc := defScope s__law_parts) (by decide +kernel)) (w_r1 (by rfl) C.b_range (x_var 1)) (fun s H C1 cl fp => (g_name (i := 2) sc__law_parts.nd rfl (by first | exact Or.inl rfl | exact Or.inr rfl))) (fun s H C1 cl fp => (i_one (w_or (c_cmpS (op_neA hr.units) o_ne (x_var 0) x_str) (w_or1 (c_cmp op_lt o_ltI (x_op op_addAll o_add (x_var 2) x_int) (x_var 1)))).pt)) (fun s H C1 cl fp => (x_tup (l_cons (x_var 2) l_nil)))))))
  b_nil)
  (b_cons (s_set (i := 3) sc__law_parts.nd rfl (by first | exact Or.inl rfl | exact Or.inr rfl) (x_A (f_lst l_nil)))
  (b_cons (s_for [2] PassesOwn.never rfl (w_r1 (by rfl) C.b_range (x_var 1)) (g_name (i := 2) sc__law_parts.nd rfl (by first | exact Or.inl rfl | exact Or.inr rfl))
  (b_one (s_expr (x_me PySem.F.plainAttrs_list PySem.F.slot_list_extend PySem.F.type_list_extend mt_extend m_ext rfl (x_var 3) (l_cons (x_F (f_lc [(("_law_j" : Str), 4)] rfl rfl sc__law_parts.nd (blkOk_by (N := N__law_parts) (sc := defScope s__law_parts) (by decide +kernel)) (w_r2 (by rfl) C.b_range (x_op op_addAll o_add (x_var 2) x_int) (x_var 1)) (fun s H C1 cl fp => (g_name (i := 4) sc__law_parts.nd rfl (by first | exact Or.inl rfl | exact Or.inr rfl))) (fun s H C1 cl fp => i_nil) (fun s H C1 cl fp => (x_tup (l_cons (x_var 2) (l_cons (x_var 4) l_nil)))))) l_nil)))))
  (b_one (s_ret (x_var 3))))))
noncomputable def m__law_round : Fn := runA 2 4 (sSeq (sPar 2 3 (eA (fLst (aCons (eVar 1) aNil))) (eOpS hIx (eVar 0) (eVar 1)))
  (sSeq (sWh (tV (eOpS hNe (eVar 3) (eVar 1)))
  (sSeq (sDrop (eMe "list" hApp (eVar 2) (aCons (eVar 3) aNil)))
  (sSet 3 (eOpS hIx (eVar 0) (eVar 3)))))
  (sRet (eVar 2))))
theorem ok__law_round (C : Cx0 K mg) : FnOk P w K mg base CX0 1 C.f__law_round C.fd__law_round ["_law_order", "_law_number"] (cv K m__law_round) :=
  ok_A C.F__law_round sc__law_round rfl rfl fun cdv A outer s H E hr => (b_cons (s_par (i := 2) (j := 3) rfl sc__law_round.nd rfl rfl (by decide) rfl rfl (x_A (f_lst (l_cons (x_var 1) l_nil))) (x_ix rfl (x_var 0) (x_var 1)) (by rfl))
  (b_cons (s_while PassesOwn.never (c_cmpS (op_neA hr.units) o_ne (x_var 3) (x_var 1))
  (b_cons (s_expr (x_me PySem.F.plainAttrs_list PySem.F.slot_list_append PySem.F.type_list_append mt_append m_app rfl (x_var 2) (l_cons (x_var 3) l_nil)))
  (b_one (s_set (i := 3) sc__law_round.nd rfl (by first | exact Or.inl rfl | exact Or.inr rfl) (x_ix rfl (x_var 0) (x_var 3))))))
  (b_one (s_ret (x_var 2)))))
noncomputable def m__law_few : Fn := runA 3 5 (sSeq (sSet 3 (eF (fSrtSet (eF (fOp hCat (eF (fCall kLst (aCons (eVar 1) aNil))) (eF (fCall kLst (aCons (eVar 2) aNil))))))))
  (sSeq (sIf (tV (eOpS hEq (eVar 0) (eC (.str ("rises" : Str)))))
  (sSet 3 (eF (fSrtSet (eF (fLst (aCons (eOpS hIx (eVar 1) (eC (.int 0))) (aCons (eOp hAdd (eOpS hIx (eVar 1) (eC (.int 0))) (eC (.int 1))) (aCons (eOpS hIx (eVar 2) (eC (.int 0))) (aCons (eOp hAdd (eOpS hIx (eVar 2) (eC (.int 0))) (eC (.int 1))) aNil)))))))))
  sNx)
  (sRet (eTup (aCons (eCall kLen (aCons (eVar 3) aNil)) (aCons (eCall kTup (aCons (eF (fLc [4] (iSq (eVar 1)) (gNm 4) tYe (eMe "list" hIdx (eVar 3) (aCons (eVar 4) aNil)))) aNil)) (aCons (eCall kTup (aCons (eF (fLc [4] (iSq (eVar 2)) (gNm 4) tYe (eMe "list" hIdx (eVar 3) (aCons (eVar 4) aNil)))) aNil)) aNil)))))))
theorem ok__law_few (C : Cx0 K mg) : FnOk P w K mg base CX0 1 C.f__law_few C.fd__law_few ["_law_kind", "_law_one", "_law_other"] (cv K m__law_few) :=
  ok_A C.F__law_few sc__law_few rfl rfl fun cdv A outer s H E hr => (b_cons (s_set (i := 3) sc__law_few.nd rfl (by first | exact Or.inl rfl | exact Or.inr rfl) (x_F (f_srtSet rfl rfl (by rfl) C.b_sorted (by rfl) C.b_set (x_F (f_op op_cat o_cat (x_F (f_ty call_list_of k_lst (by rfl) C.b_list bo_list (l_cons (x_var 1) l_nil))) (x_F (f_ty call_list_of k_lst (by rfl) C.b_list bo_list (l_cons (x_var 2) l_nil))))))))
  (b_cons (s_if (c_cmpS (op_eqA hr.units) o_eq (x_var 0) x_str)
  (b_one (s_set (i := 3) sc__law_few.nd rfl (by first | exact Or.inl rfl | exact Or.inr rfl) (x_F (f_srtSet rfl rfl (by rfl) C.b_sorted (by rfl) C.b_set (x_F (f_lst (l_cons (x_ix rfl (x_var 1) x_int) (l_cons (x_op op_addAll o_add (x_ix rfl (x_var 1) x_int) x_int) (l_cons (x_ix rfl (x_var 2) x_int) (l_cons (x_op op_addAll o_add (x_ix rfl (x_var 2) x_int) x_int) l_nil))))))))))
  b_nil)
  (b_one (s_ret (x_tup (l_cons (x_blt call_len k_len (by rfl) C.b_len bo_len (l_cons (x_var 3) l_nil)) (l_cons (x_ty call_tuple_of k_tup (by rfl) C.b_tuple bo_tuple (l_cons (x_F (f_lc [(("_law_k" : Str), 4)] rfl rfl sc__law_few.nd (blkOk_by (N := N__law_few) (sc := defScope s__law_few) (by decide +kernel)) (w_sq rfl (x_var 1)) (fun s H C1 cl fp => (g_name (i := 4) sc__law_few.nd rfl (by first | exact Or.inl rfl | exact Or.inr rfl))) (fun s H C1 cl fp => i_nil) (fun s H C1 cl fp => (x_me PySem.F.plainAttrs_list PySem.F.slot_list_index PySem.F.type_list_index mt_index m_idx rfl (x_var 3) (l_cons (x_var 4) l_nil))))) l_nil)) (l_cons (x_ty call_tuple_of k_tup (by rfl) C.b_tuple bo_tuple (l_cons (x_F (f_lc [(("_law_k" : Str), 4)] rfl rfl sc__law_few.nd (blkOk_by (N := N__law_few) (sc := defScope s__law_few) (by decide +kernel)) (w_sq rfl (x_var 2)) (fun s H C1 cl fp => (g_name (i := 4) sc__law_few.nd rfl (by first | exact Or.inl rfl | exact Or.inr rfl))) (fun s H C1 cl fp => i_nil) (fun s H C1 cl fp => (x_me PySem.F.plainAttrs_list PySem.F.slot_list_index PySem.F.type_list_index mt_index m_idx rfl (x_var 3) (l_cons (x_var 4) l_nil))))) l_nil)) l_nil))))))))
noncomputable def m_times : Fn := runA 2 2 (sRet (eCall m_lowest (aCons (eOp hMulI (eOpS hIx (eVar 0) (eC (.int 0))) (eOpS hIx (eVar 1) (eC (.int 0)))) (aCons (eOp hMulI (eOpS hIx (eVar 0) (eC (.int 1))) (eOpS hIx (eVar 1) (eC (.int 1)))) aNil))))
theorem ok_times (C : Cx0 K mg) : FnOk P w K mg base CX0 2 C.f_times C.fd_times ["one", "other"] (cv K m_times) :=
  ok_A C.F_times sc_times rfl rfl fun cdv A outer s H E hr => (b_one (s_ret (x_call (ok_lowest C) (hr.mono (by decide)) (by rfl) C.g_lowest C.F_lowest.kp (bd_lowest C) (l_cons (x_op op_mulW o_mulI (x_ix rfl (x_var 0) x_int) (x_ix rfl (x_var 1) x_int)) (l_cons (x_op op_mulW o_mulI (x_ix rfl (x_var 0) x_int) (x_ix rfl (x_var 1) x_int)) l_nil)))))
noncomputable def m__law_of : Fn := runA 2 2 (sRet (eOpS hIx (eVar 1) (eCall m__law_next (aCons (eVar 0) (aCons (eCall kLen (aCons (eVar 1) aNil)) aNil)))))
theorem ok__law_of (C : Cx0 K mg) : FnOk P w K mg base CX0 2 C.f__law_of C.fd__law_of ["_law_pot_here", "_law_some"] (cv K m__law_of) :=
  ok_A C.F__law_of sc__law_of rfl rfl fun cdv A outer s H E hr => (b_one (s_ret (x_ix rfl (x_var 1) (x_call (ok__law_next C) (hr.mono (by decide)) (by rfl) C.g__law_next C.F__law_next.kp (bd__law_next C) (l_cons (x_var 0) (l_cons (x_blt call_len k_len (by rfl) C.b_len bo_len (l_cons (x_var 1) l_nil)) l_nil))))))
noncomputable def m__law_has : Fn := runA 3 4 (sSeq (sSet 3 (eOpS hIx (eVar 1) (eC (.int 0))))
  (sSeq (sIf (tV (eOpS hEq (eVar 0) (eC (.str ("rounds" : Str)))))
  (sRet (eOpS hEq (eCall kMaxA (aCons (eCall m__law_round (aCons (eVar 2) (aCons (eVar 3) aNil))) aNil)) (eVar 3)))
  sNx)
  (sSeq (sIf (tV (eOpS hEq (eVar 0) (eC (.str ("stays" : Str)))))
  (sRet (eOpS hEq (eOpS hIx (eVar 2) (eVar 3)) (eVar 3)))
  sNx)
  (sSeq (sIf (tV (eOpS hEq (eVar 0) (eC (.str ("rises" : Str)))))
  (sRet (eOp hLtI (eOpS hIx (eVar 2) (eVar 3)) (eOpS hIx (eVar 2) (eOp hAdd (eVar 3) (eC (.int 1))))))
  sNx)
  (sSeq (sIf (tV (eOpS hEq (eVar 0) (eC (.str ("highs" : Str)))))
  (sRet (eOpS hEq (eOpS hIx (eVar 2) (eVar 3)) (eCall kMaxA (aCons (eSl (eVar 2) oNo (oSo (eOp hAdd (eVar 3) (eC (.int 1))))) aNil))))
  sNx)
  (sRet (eOp hGtI (eOpS hIx (eVar 2) (eVar 3)) (eOpS hIx (eVar 2) (eOpS hIx (eVar 1) (eC (.int 1)))))))))))
theorem ok__law_has (C : Cx0 K mg) : FnOk P w K mg base CX0 2 C.f__law_has C.fd__law_has ["_law_kind", "_law_part", "_law_order"] (cv K m__law_has) :=
  ok_A C.F__law_has sc__law_has rfl rfl fun cdv A outer s H E hr => (b_cons (s_set (i := 3) sc__law_has.nd rfl (by first | exact Or.inl rfl | exact Or.inr rfl) (x_ix rfl (x_var 1) x_int))
  (b_cons (s_if (c_cmpS (op_eqA hr.units) o_eq (x_var 0) x_str)
  (b_one (s_ret (x_cmpS (op_eqA hr.units) o_eq (x_blt (c_maxA rfl) k_maxA (by rfl) C.b_max bo_max (l_cons (x_call (ok__law_round C) (hr.mono (by decide)) (by rfl) C.g__law_round C.F__law_round.kp (bd__law_round C) (l_cons (x_var 2) (l_cons (x_var 3) l_nil))) l_nil)) (x_var 3))))
  b_nil)
  (b_cons (s_if (c_cmpS (op_eqA hr.units) o_eq (x_var 0) x_str)
  (b_one (s_ret (x_cmpS (op_eqA hr.units) o_eq (x_ix rfl (x_var 2) (x_var 3)) (x_var 3))))
  b_nil)
  (b_cons (s_if (c_cmpS (op_eqA hr.units) o_eq (x_var 0) x_str)
  (b_one (s_ret (x_cmp op_lt o_ltI (x_ix rfl (x_var 2) (x_var 3)) (x_ix rfl (x_var 2) (x_op op_addAll o_add (x_var 3) x_int)))))
  b_nil)
  (b_cons (s_if (c_cmpS (op_eqA hr.units) o_eq (x_var 0) x_str)
  (b_one (s_ret (x_cmpS (op_eqA hr.units) o_eq (x_ix rfl (x_var 2) (x_var 3)) (x_blt (c_maxA rfl) k_maxA (by rfl) C.b_max bo_max (l_cons (x_sl rfl (x_var 2) p_no (p_so (x_op op_addAll o_add (x_var 3) x_int))) l_nil)))))
  b_nil)
  (b_one (s_ret (x_cmp op_gt o_gtI (x_ix rfl (x_var 2) (x_var 3)) (x_ix rfl (x_var 2) (x_ix rfl (x_var 1) x_int))))))))))
noncomputable def m__law_pair_share : Fn := runA 4 5 (sRet (eCall m__law_low (aCons (eCall kLen (aCons (eF (fLc [4] (iR1 (eCall kLen (aCons (eVar 0) aNil))) (gNm 4) (tAn (tV (eOpS hIx (eOpS hDix (eVar 1) (eVar 2)) (eVar 4))) (tV (eOpS hIx (eOpS hDix (eVar 1) (eVar 3)) (eVar 4)))) (eVar 4))) aNil)) (aCons (eCall kLen (aCons (eVar 0) aNil)) aNil))))
theorem ok__law_pair_share (C : Cx0 K mg) : FnOk P w K mg base CX0 2 C.f__law_pair_share C.fd__law_pair_share ["_law_orders", "_law_had", "_law_one", "_law_other"] (cv K m__law_pair_share) :=
  ok_A C.F__law_pair_share sc__law_pair_share rfl rfl fun cdv A outer s H E hr => (b_one (s_ret (x_call (ok__law_low C) (hr.mono (by decide)) (by rfl) C.g__law_low C.F__law_low.kp (bd__law_low C) (l_cons (x_blt call_len k_len (by rfl) C.b_len bo_len (l_cons (x_F (f_lc [(("_law_at" : Str), 4)] rfl rfl sc__law_pair_share.nd (blkOk_by (N := N__law_pair_share) (sc := defScope s__law_pair_share) (by decide +kernel)) (w_r1 (by rfl) C.b_range (x_blt call_len k_len (by rfl) C.b_len bo_len (l_cons (x_var 0) l_nil))) (fun s H C1 cl fp => (g_name (i := 4) sc__law_pair_share.nd rfl (by first | exact Or.inl rfl | exact Or.inr rfl))) (fun s H C1 cl fp => (i_one (w_and (c_val (x_ix rfl (x_dix rfl hr.units (x_var 1) (x_var 2)) (x_var 4))) (w_and1 (c_val (x_ix rfl (x_dix rfl hr.units (x_var 1) (x_var 3)) (x_var 4))))).pt)) (fun s H C1 cl fp => (x_var 4)))) l_nil)) (l_cons (x_blt call_len k_len (by rfl) C.b_len bo_len (l_cons (x_var 0) l_nil)) l_nil)))))
noncomputable def m_both_share : Fn := runA 4 4 (sSeq (sIf (tV (eOpS hEq (eVar 2) (eVar 3)))
  (sRet (eCall m_one_share (aCons (eVar 0) (aCons (eVar 1) (aCons (eVar 2) aNil)))))
  sNx)
  (sSeq (sIf (tV (eOpS hEq (eVar 0) (eC (.str ("stays" : Str)))))
  (sRet (eCall m_lowest (aCons (eC (.int 1)) (aCons (eOp hMulI (eVar 1) (eOp hSub (eVar 1) (eC (.int 1)))) aNil))))
  sNx)
  (sSeq (sIf (tV (eOpS hEq (eVar 0) (eC (.str ("rises" : Str)))))
  (sRet (eCall m_both_rises (aCons (eVar 2) (aCons (eVar 3) aNil))))
  sNx)
  (sSeq (sIf (tV (eOpS hEq (eVar 0) (eC (.str ("crossed" : Str)))))
  (sRet (eCall m_both_crossed (aCons (eVar 2) (aCons (eVar 3) aNil))))
  sNx)
  (sRet (eCall m_times (aCons (eCall m_one_share (aCons (eVar 0) (aCons (eVar 1) (aCons (eVar 2) aNil)))) (aCons (eCall m_one_share (aCons (eVar 0) (aCons (eVar 1) (aCons (eVar 3) aNil)))) aNil))))))))
theorem ok_both_share (C : Cx0 K mg) : FnOk P w K mg base CX0 3 C.f_both_share C.fd_both_share ["kind", "many", "one", "other"] (cv K m_both_share) :=
  ok_A C.F_both_share sc_both_share rfl rfl fun cdv A outer s H E hr => (b_cons (s_if (c_cmpS (op_eqA hr.units) o_eq (x_var 2) (x_var 3))
  (b_one (s_ret (x_call (ok_one_share C) (hr.mono (by decide)) (by rfl) C.g_one_share C.F_one_share.kp (bd_one_share C) (l_cons (x_var 0) (l_cons (x_var 1) (l_cons (x_var 2) l_nil))))))
  b_nil)
  (b_cons (s_if (c_cmpS (op_eqA hr.units) o_eq (x_var 0) x_str)
  (b_one (s_ret (x_call (ok_lowest C) (hr.mono (by decide)) (by rfl) C.g_lowest C.F_lowest.kp (bd_lowest C) (l_cons x_int (l_cons (x_op op_mulW o_mulI (x_var 1) (x_op op_sub o_sub (x_var 1) x_int)) l_nil)))))
  b_nil)
  (b_cons (s_if (c_cmpS (op_eqA hr.units) o_eq (x_var 0) x_str)
  (b_one (s_ret (x_call (ok_both_rises C) (hr.mono (by decide)) (by rfl) C.g_both_rises C.F_both_rises.kp (bd_both_rises C) (l_cons (x_var 2) (l_cons (x_var 3) l_nil)))))
  b_nil)
  (b_cons (s_if (c_cmpS (op_eqA hr.units) o_eq (x_var 0) x_str)
  (b_one (s_ret (x_call (ok_both_crossed C) (hr.mono (by decide)) (by rfl) C.g_both_crossed C.F_both_crossed.kp (bd_both_crossed C) (l_cons (x_var 2) (l_cons (x_var 3) l_nil)))))
  b_nil)
  (b_one (s_ret (x_call (ok_times C) (hr.mono (by decide)) (by rfl) C.g_times C.F_times.kp (bd_times C) (l_cons (x_call (ok_one_share C) (hr.mono (by decide)) (by rfl) C.g_one_share C.F_one_share.kp (bd_one_share C) (l_cons (x_var 0) (l_cons (x_var 1) (l_cons (x_var 2) l_nil)))) (l_cons (x_call (ok_one_share C) (hr.mono (by decide)) (by rfl) C.g_one_share C.F_one_share.kp (bd_one_share C) (l_cons (x_var 0) (l_cons (x_var 1) (l_cons (x_var 3) l_nil)))) l_nil)))))))))
noncomputable def m__law_far_due : Fn := runA 4 12 (sSeq (sIf (tV (eOpS hIn (eVar 0) (eTup (aCons (eC (.str ("rises" : Str))) (aCons (eC (.str ("crossed" : Str))) aNil)))))
  (sSeq (sAsg (eCall m__law_few (aCons (eVar 0) (aCons (eVar 2) (aCons (eVar 3) aNil)))) (gTp 3 (gCn (gNm 4) (gCn (gNm 5) (gCn (gNm 6) gNl)))))
  (sSeq (sSet 7 (eCall m__law_all (aCons (eVar 4) aNil)))
  (sSeq (sSet 8 (eN (nPrT (eF (fLc [9] (iSq (eTup (aCons (eVar 5) (aCons (eVar 6) aNil)))) (gNm 9) tYe (eTup (aCons (eVar 9) (aCons (eF (fLc [10] (iSq (eVar 7)) (gNm 10) tYe (eCall m__law_has (aCons (eVar 0) (aCons (eVar 9) (aCons (eVar 10) aNil)))))) aNil))))))))
  (sRet (eCall m__law_pair_share (aCons (eVar 7) (aCons (eVar 8) (aCons (eVar 5) (aCons (eVar 6) aNil)))))))))
  sNx)
  (sSeq (sSet 11 (eOpS hDix (eN (nDisp [((eC (.str ("rounds" : Str))), (eF (fLst (aCons (eOp hSub (eVar 1) (eOpS hIx (eVar 2) (eC (.int 0)))) (aCons (eOp hSub (eVar 1) (eOpS hIx (eVar 3) (eC (.int 0)))) aNil))))), ((eC (.str ("highs" : Str))), (eF (fLst (aCons (eOp hAdd (eOpS hIx (eVar 2) (eC (.int 0))) (eC (.int 1))) (aCons (eOp hAdd (eOpS hIx (eVar 3) (eC (.int 0))) (eC (.int 1))) aNil))))), ((eC (.str ("stays" : Str))), (eF (fLst (aCons (eVar 1) (aCons (eOp hSub (eVar 1) (eC (.int 1))) aNil)))))])) (eVar 0)))
  (sSeq (sIf (tV (eOpS hEq (eVar 2) (eVar 3)))
  (sRet (eTup (aCons (eC (.int 1)) (aCons (eOpS hIx (eVar 11) (eC (.int 0))) aNil))))
  sNx)
  (sRet (eTup (aCons (eC (.int 1)) (aCons (eOp hMulI (eOpS hIx (eVar 11) (eC (.int 0))) (eOpS hIx (eVar 11) (eC (.int 1)))) aNil)))))))
theorem ok__law_far_due (C : Cx0 K mg) : FnOk P w K mg base CX0 3 C.f__law_far_due C.fd__law_far_due ["_law_kind", "_law_many", "_law_one", "_law_other"] (cv K m__law_far_due) :=
  ok_A C.F__law_far_due sc__law_far_due rfl rfl fun cdv A outer s H E hr => (b_cons (s_if (c_cmpS (op_inA hr.units) o_in (x_var 0) (x_tup (l_cons x_str (l_cons x_str l_nil))))
  (b_cons (s_asg [4, 5, 6] (x_call (ok__law_few C) (hr.mono (by decide)) (by rfl) C.g__law_few C.F__law_few.kp (bd__law_few C) (l_cons (x_var 0) (l_cons (x_var 2) (l_cons (x_var 3) l_nil)))) (g_tup rfl rfl (g_cons (g_name (i := 4) sc__law_far_due.nd rfl (by first | exact Or.inl rfl | exact Or.inr rfl)) (g_cons (g_name (i := 5) sc__law_far_due.nd rfl (by first | exact Or.inl rfl | exact Or.inr rfl)) (g_cons (g_name (i := 6) sc__law_far_due.nd rfl (by first | exact Or.inl rfl | exact Or.inr rfl)) g_nil)))))
  (b_cons (s_set (i := 7) sc__law_far_due.nd rfl (by first | exact Or.inl rfl | exact Or.inr rfl) (x_call (ok__law_all C) (hr.mono (by decide)) (by rfl) C.g__law_all C.F__law_all.kp (bd__law_all C) (l_cons (x_var 4) l_nil)))
  (b_cons (s_set (i := 8) sc__law_far_due.nd rfl (by first | exact Or.inl rfl | exact Or.inr rfl) (x_N (n_prT rfl rfl hr.units (by rfl) C.b_dict (x_F (f_lc [(("_law_part" : Str), 9)] rfl rfl sc__law_far_due.nd (blkOk_by (N := N__law_far_due) (sc := defScope s__law_far_due) (by decide +kernel)) (w_sq rfl (x_tup (l_cons (x_var 5) (l_cons (x_var 6) l_nil)))) (fun s H C1 cl fp => (g_name (i := 9) sc__law_far_due.nd rfl (by first | exact Or.inl rfl | exact Or.inr rfl))) (fun s H C1 cl fp => i_nil) (fun s H C1 cl fp => (x_tup (l_cons (x_var 9) (l_cons (x_F (f_lc [(("_law_order" : Str), 10)] rfl rfl sc__law_far_due.nd (by dsimp only [cxOf, Cx.blk, compEnvC]; exact blkOk_by (N := N__law_far_due) (by kernel_rfl)) (w_sq rfl (x_var 7)) (fun s H C1 cl fp => (g_name (i := 10) sc__law_far_due.nd rfl (by first | exact Or.inl rfl | exact Or.inr rfl))) (fun s H C1 cl fp => i_nil) (fun s H C1 cl fp => (x_call (ok__law_has C) (hr.mono (by decide)) (by rfl) C.g__law_has C.F__law_has.kp (bd__law_has C) (l_cons (x_var 0) (l_cons (x_var 9) (l_cons (x_var 10) l_nil))))))) l_nil)))))))))
  (b_one (s_ret (x_call (ok__law_pair_share C) (hr.mono (by decide)) (by rfl) C.g__law_pair_share C.F__law_pair_share.kp (bd__law_pair_share C) (l_cons (x_var 7) (l_cons (x_var 8) (l_cons (x_var 5) (l_cons (x_var 6) l_nil))))))))))
  b_nil)
  (b_cons (s_set (i := 11) sc__law_far_due.nd rfl (by first | exact Or.inl rfl | exact Or.inr rfl) (x_dix rfl hr.units (x_N (n_disp (ps := [((eC (.str ("rounds" : Str))), (eF (fLst (aCons (eOp hSub (eVar 1) (eOpS hIx (eVar 2) (eC (.int 0)))) (aCons (eOp hSub (eVar 1) (eOpS hIx (eVar 3) (eC (.int 0)))) aNil))))), ((eC (.str ("highs" : Str))), (eF (fLst (aCons (eOp hAdd (eOpS hIx (eVar 2) (eC (.int 0))) (eC (.int 1))) (aCons (eOp hAdd (eOpS hIx (eVar 3) (eC (.int 0))) (eC (.int 1))) aNil))))), ((eC (.str ("stays" : Str))), (eF (fLst (aCons (eVar 1) (aCons (eOp hSub (eVar 1) (eC (.int 1))) aNil)))))]) (pps_cons x_str (x_F (f_lst (l_cons (x_op op_sub o_sub (x_var 1) (x_ix rfl (x_var 2) x_int)) (l_cons (x_op op_sub o_sub (x_var 1) (x_ix rfl (x_var 3) x_int)) l_nil)))) (pps_cons x_str (x_F (f_lst (l_cons (x_op op_addAll o_add (x_ix rfl (x_var 2) x_int) x_int) (l_cons (x_op op_addAll o_add (x_ix rfl (x_var 3) x_int) x_int) l_nil)))) (pps_cons x_str (x_F (f_lst (l_cons (x_var 1) (l_cons (x_op op_sub o_sub (x_var 1) x_int) l_nil)))) pps_nil))) (by decide) rfl rfl (by simp) (by decide))) (x_var 0)))
  (b_cons (s_if (c_cmpS (op_eqA hr.units) o_eq (x_var 2) (x_var 3))
  (b_one (s_ret (x_tup (l_cons x_int (l_cons (x_ix rfl (x_var 11) x_int) l_nil)))))
  b_nil)
  (b_one (s_ret (x_tup (l_cons x_int (l_cons (x_op op_mulW o_mulI (x_ix rfl (x_var 11) x_int) (x_ix rfl (x_var 11) x_int)) l_nil))))))))
noncomputable def m__law_same : Nat → Fn
  | 0 => fun _ _ => none
  | nn + 1 => runA 2 4 (sSeq (sIf (tAn (tV (eCall kIsi (aCons (eVar 0) (aCons (eC (.ty "tuple")) aNil)))) (tV (eCall kIsi (aCons (eVar 1) (aCons (eC (.ty "tuple")) aNil)))))
  (sRet (eAnd (eOpS hEq (eCall kLen (aCons (eVar 0) aNil)) (eCall kLen (aCons (eVar 1) aNil))) (eCall kAll (aCons (eF (fLc [2, 3] (iZp (eVar 0) (eVar 1)) (gTp 2 (gCn (gNm 2) (gCn (gNm 3) gNl))) tYe (eCall (m__law_same nn) (aCons (eVar 2) (aCons (eVar 3) aNil))))) aNil))))
  sNx)
  (sSeq (sIf (tAn (tV (eCall kIsi (aCons (eVar 0) (aCons (eC (.ty "str")) aNil)))) (tV (eCall kIsi (aCons (eVar 1) (aCons (eC (.ty "str")) aNil)))))
  (sRet (eOpS hEq (eVar 0) (eVar 1)))
  sNx)
  (sSeq (sIf (tAn (tV (eCall kIsi (aCons (eVar 0) (aCons (eC (.ty "int")) aNil)))) (tV (eCall kIsi (aCons (eVar 1) (aCons (eC (.ty "int")) aNil)))))
  (sRet (eAnd (eOpS hEq (eCall kIsi (aCons (eVar 0) (aCons (eC (.ty "bool")) aNil))) (eCall kIsi (aCons (eVar 1) (aCons (eC (.ty "bool")) aNil)))) (eOpS hEq (eVar 0) (eVar 1))))
  sNx)
  (sRet (eAnd (eOp hIs (eVar 0) (eC .non)) (eOp hIs (eVar 1) (eC .non)))))))
theorem ok__law_same (C : Cx0 K mg) : ∀ nn, FnOk P w K mg base CX0 (nn + 1) C.f__law_same C.fd__law_same ["_law_one", "_law_two"] (cv K (m__law_same nn))
  | 0 => (ok_A C.F__law_same sc__law_same (np := 2) (n := 4) (k := 0) (b := sNever) rfl rfl fun cdv A outer s H E hr => b_never).imp fun vs H Q E h => never_A h
  | nn + 1 => by
    have IH := ok__law_same C nn
    have z : nn + 1 + 1 = (nn + 1) + 1 := by omega
    rw [z]
    exact ok_A C.F__law_same sc__law_same rfl rfl fun cdv A outer s H E hr => (b_cons (s_if (w_and (c_val (x_blt call_isi k_isi (by rfl) C.b_isinstance bo_isinstance (l_cons (x_var 0) (l_cons (x_tyc (by rfl) C.b_tuple bo_tuple) l_nil)))) (w_and1 (c_val (x_blt call_isi k_isi (by rfl) C.b_isinstance bo_isinstance (l_cons (x_var 1) (l_cons (x_tyc (by rfl) C.b_tuple bo_tuple) l_nil)))))).pt
  (b_one (s_ret (x_and (x_cmpS (op_eqA hr.units) o_eq (x_blt call_len k_len (by rfl) C.b_len bo_len (l_cons (x_var 0) l_nil)) (x_blt call_len k_len (by rfl) C.b_len bo_len (l_cons (x_var 1) l_nil))) (x_and1 (x_blt (cr_all rfl) k_all (by rfl) C.b_all bo_all (l_cons (x_F (f_lc [(("_law_a" : Str), 2), (("_law_b" : Str), 3)] rfl rfl sc__law_same.nd (blkOk_by (N := N__law_same) (sc := defScope s__law_same) (by decide +kernel)) (w_zip rfl (by rfl) C.b_zip (x_var 0) (x_var 1)) (fun s H C1 cl fp => (g_tup rfl rfl (g_cons (g_name (i := 2) sc__law_same.nd rfl (by first | exact Or.inl rfl | exact Or.inr rfl)) (g_cons (g_name (i := 3) sc__law_same.nd rfl (by first | exact Or.inl rfl | exact Or.inr rfl)) g_nil)))) (fun s H C1 cl fp => i_nil) (fun s H C1 cl fp => (x_call (IH) (hr.mono (by omega)) (by rfl) C.g__law_same C.F__law_same.kp (bd__law_same C) (l_cons (x_var 2) (l_cons (x_var 3) l_nil)))))) l_nil))))))
  b_nil)
  (b_cons (s_if (w_and (c_val (x_blt call_isi k_isi (by rfl) C.b_isinstance bo_isinstance (l_cons (x_var 0) (l_cons (x_tyc (by rfl) C.b_str bo_str) l_nil)))) (w_and1 (c_val (x_blt call_isi k_isi (by rfl) C.b_isinstance bo_isinstance (l_cons (x_var 1) (l_cons (x_tyc (by rfl) C.b_str bo_str) l_nil)))))).pt
  (b_one (s_ret (x_cmpS (op_eqA hr.units) o_eq (x_var 0) (x_var 1))))
  b_nil)
  (b_cons (s_if (w_and (c_val (x_blt call_isi k_isi (by rfl) C.b_isinstance bo_isinstance (l_cons (x_var 0) (l_cons (x_tyc (by rfl) C.b_int bo_int) l_nil)))) (w_and1 (c_val (x_blt call_isi k_isi (by rfl) C.b_isinstance bo_isinstance (l_cons (x_var 1) (l_cons (x_tyc (by rfl) C.b_int bo_int) l_nil)))))).pt
  (b_one (s_ret (x_and (x_cmpS (op_eqA hr.units) o_eq (x_blt call_isi k_isi (by rfl) C.b_isinstance bo_isinstance (l_cons (x_var 0) (l_cons (x_tyc (by rfl) C.b_bool bo_bool) l_nil))) (x_blt call_isi k_isi (by rfl) C.b_isinstance bo_isinstance (l_cons (x_var 1) (l_cons (x_tyc (by rfl) C.b_bool bo_bool) l_nil)))) (x_and1 (x_cmpS (op_eqA hr.units) o_eq (x_var 0) (x_var 1))))))
  b_nil)
  (b_one (s_ret (x_and (x_cmp op_isA o_is (x_var 0) x_non) (x_and1 (x_cmp op_isA o_is (x_var 1) x_non))))))))
noncomputable def m__law_all_pairs_right : Fn := runA 2 10 (sSeq (sSet 2 (eCall m__law_all (aCons (eVar 1) aNil)))
  (sSeq (sSet 3 (eCall m__law_parts (aCons (eVar 0) (aCons (eVar 1) aNil))))
  (sSeq (sSet 4 (eN (nPrT (eF (fLc [5] (iSq (eVar 3)) (gNm 5) tYe (eTup (aCons (eVar 5) (aCons (eF (fLc [6] (iSq (eVar 2)) (gNm 6) tYe (eCall m__law_has (aCons (eVar 0) (aCons (eVar 5) (aCons (eVar 6) aNil)))))) aNil))))))))
  (sSeq (sFor (iSq (eVar 3)) (gNm 7)
  (sFor (iSq (eVar 3)) (gNm 8)
  (sSeq (sSet 9 (eCall m__law_pair_share (aCons (eVar 2) (aCons (eVar 4) (aCons (eVar 7) (aCons (eVar 8) aNil))))))
  (sIf (tNo (tV (eCall (m__law_same 70) (aCons (eCall m_both_share (aCons (eVar 0) (aCons (eVar 1) (aCons (eVar 7) (aCons (eVar 8) aNil))))) (aCons (eVar 9) aNil)))))
  (sRet (eC (.bl false)))
  sNx))))
  (sRet (eC (.bl true)))))))
theorem ok__law_all_pairs_right (C : Cx0 K mg) : FnOk P w K mg base CX0 72 C.f__law_all_pairs_right C.fd__law_all_pairs_right ["_law_kind", "_law_many"] (cv K m__law_all_pairs_right) :=
  ok_A C.F__law_all_pairs_right sc__law_all_pairs_right rfl rfl fun cdv A outer s H E hr => (b_cons (s_set (i := 2) sc__law_all_pairs_right.nd rfl (by first | exact Or.inl rfl | exact Or.inr rfl) (x_call (ok__law_all C) (hr.mono (by decide)) (by rfl) C.g__law_all C.F__law_all.kp (bd__law_all C) (l_cons (x_var 1) l_nil)))
  (b_cons (s_set (i := 3) sc__law_all_pairs_right.nd rfl (by first | exact Or.inl rfl | exact Or.inr rfl) (x_call (ok__law_parts C) (hr.mono (by decide)) (by rfl) C.g__law_parts C.F__law_parts.kp (bd__law_parts C) (l_cons (x_var 0) (l_cons (x_var 1) l_nil))))
  (b_cons (s_set (i := 4) sc__law_all_pairs_right.nd rfl (by first | exact Or.inl rfl | exact Or.inr rfl) (x_N (n_prT rfl rfl hr.units (by rfl) C.b_dict (x_F (f_lc [(("_law_part" : Str), 5)] rfl rfl sc__law_all_pairs_right.nd (blkOk_by (N := N__law_all_pairs_right) (sc := defScope s__law_all_pairs_right) (by decide +kernel)) (w_sq rfl (x_var 3)) (fun s H C1 cl fp => (g_name (i := 5) sc__law_all_pairs_right.nd rfl (by first | exact Or.inl rfl | exact Or.inr rfl))) (fun s H C1 cl fp => i_nil) (fun s H C1 cl fp => (x_tup (l_cons (x_var 5) (l_cons (x_F (f_lc [(("_law_order" : Str), 6)] rfl rfl sc__law_all_pairs_right.nd (by dsimp only [cxOf, Cx.blk, compEnvC]; exact blkOk_by (N := N__law_all_pairs_right) (by kernel_rfl)) (w_sq rfl (x_var 2)) (fun s H C1 cl fp => (g_name (i := 6) sc__law_all_pairs_right.nd rfl (by first | exact Or.inl rfl | exact Or.inr rfl))) (fun s H C1 cl fp => i_nil) (fun s H C1 cl fp => (x_call (ok__law_has C) (hr.mono (by decide)) (by rfl) C.g__law_has C.F__law_has.kp (bd__law_has C) (l_cons (x_var 0) (l_cons (x_var 5) (l_cons (x_var 6) l_nil))))))) l_nil)))))))))
  (b_cons (s_for [7] PassesOwn.never rfl (w_sq rfl (x_var 3)) (g_name (i := 7) sc__law_all_pairs_right.nd rfl (by first | exact Or.inl rfl | exact Or.inr rfl))
  (b_one (s_for [8] PassesOwn.never rfl (w_sq rfl (x_var 3)) (g_name (i := 8) sc__law_all_pairs_right.nd rfl (by first | exact Or.inl rfl | exact Or.inr rfl))
  (b_cons (s_set (i := 9) sc__law_all_pairs_right.nd rfl (by first | exact Or.inl rfl | exact Or.inr rfl) (x_call (ok__law_pair_share C) (hr.mono (by decide)) (by rfl) C.g__law_pair_share C.F__law_pair_share.kp (bd__law_pair_share C) (l_cons (x_var 2) (l_cons (x_var 4) (l_cons (x_var 7) (l_cons (x_var 8) l_nil))))))
  (b_one (s_if (c_not (c_val (x_call (ok__law_same C _) (hr.mono (by omega)) (by rfl) C.g__law_same C.F__law_same.kp (bd__law_same C) (l_cons (x_call (ok_both_share C) (hr.mono (by decide)) (by rfl) C.g_both_share C.F_both_share.kp (bd_both_share C) (l_cons (x_var 0) (l_cons (x_var 1) (l_cons (x_var 7) (l_cons (x_var 8) l_nil))))) (l_cons (x_var 9) l_nil)))))
  (b_one (s_ret x_bl))
  b_nil))))))
  (b_one (s_ret x_bl))))))
noncomputable def m_law : Fn := runA 1 12 (sSeq (sFor (iR1 (eCall kMaxA (aCons (eC (.int 1)) (aCons (eCall kMinA (aCons (eCall kLen (aCons (eVar 0) aNil)) (aCons (eC (.int 2)) aNil))) aNil)))) (gNm 1)
  (sSeq (sSet 2 (eA (fCall m__law_pot (aCons (eVar 0) (aCons (eVar 1) aNil)))))
  (sSeq (sSet 3 (eCall m__law_of (aCons (eVar 2) (aCons (eF (fLst (aCons (eC (.int 1)) (aCons (eC (.int 2)) (aCons (eC (.int 3)) (aCons (eC (.int 4)) (aCons (eC (.int 5)) (aCons (eC (.int 5)) (aCons (eC (.int 4)) aNil))))))))) aNil))))
  (sSeq (sSet 4 (eOp hAdd (eC (.int 2)) (eCall m__law_next (aCons (eVar 2) (aCons (eC (.int 59)) aNil)))))
  (sFor (iSq (eF (fLst (aCons (eC (.str ("rounds" : Str))) (aCons (eC (.str ("stays" : Str))) (aCons (eC (.str ("rises" : Str))) (aCons (eC (.str ("highs" : Str))) (aCons (eC (.str ("crossed" : Str))) aNil)))))))) (gNm 5)
  (sSeq (sIf (tNo (tV (eCall m__law_all_pairs_right (aCons (eVar 5) (aCons (eVar 3) aNil)))))
  (sRet (eC (.bl false)))
  sNx)
  (sSeq (sSet 6 (eCall m__law_parts (aCons (eVar 5) (aCons (eVar 4) aNil))))
  (sFor (iR1 (eC (.int 8))) (gNm 7)
  (sSeq (sSet 8 (eOpS hIx (eVar 6) (eCall m__law_next (aCons (eVar 2) (aCons (eCall kLen (aCons (eVar 6) aNil)) aNil)))))
  (sSeq (sSet 9 (eF (fLc [10] (iSq (eVar 6)) (gNm 10) (tOr' (tV (eOpS hEq (eOpS hIx (eVar 10) (eC (.int 0))) (eOpS hIx (eVar 8) (eC (.int 0))))) (tV (eOpS hEq (eOpS hIx (eVar 10) (eUn uNeg (eC (.int 1)))) (eOpS hIx (eVar 8) (eUn uNeg (eC (.int 1))))))) (eVar 10))))
  (sSeq (sSet 9 (eF (fOp hCat (eVar 9) (eF (fLc [10] (iSq (eVar 6)) (gNm 10) (tV (eOp hLtI (eCall kAbs (aCons (eOp hSub (eOpS hIx (eVar 10) (eC (.int 0))) (eOpS hIx (eVar 8) (eUn uNeg (eC (.int 1))))) aNil)) (eC (.int 2)))) (eVar 10))))))
  (sSeq (sSet 10 (eCall m__law_of (aCons (eVar 2) (aCons (eCall m__law_of (aCons (eVar 2) (aCons (eF (fLst (aCons (eVar 9) (aCons (eVar 6) aNil)))) aNil))) aNil))))
  (sSeq (sSet 11 (eCall m__law_far_due (aCons (eVar 5) (aCons (eVar 4) (aCons (eVar 8) (aCons (eVar 10) aNil))))))
  (sIf (tOr' (tNo (tV (eCall (m__law_same 70) (aCons (eCall m_both_share (aCons (eVar 5) (aCons (eVar 4) (aCons (eVar 8) (aCons (eVar 10) aNil))))) (aCons (eVar 11) aNil))))) (tV (eOpS hNe (eCall m_both_share (aCons (eVar 5) (aCons (eVar 4) (aCons (eVar 10) (aCons (eVar 8) aNil))))) (eVar 11))))
  (sRet (eC (.bl false)))
  sNx))))))))))))))
  (sRet (eC (.bl true))))
theorem ok_law (C : Cx0 K mg) : FnOk P w K mg base CX0 73 C.f_law C.fd_law ["_law_script"] (cv K m_law) :=
  ok_A C.F_law sc_law rfl rfl fun cdv A outer s H E hr => (b_cons (s_for [1] PassesOwn.never rfl (w_r1 (by rfl) C.b_range (x_blt (c_maxA rfl) k_maxA (by rfl) C.b_max bo_max (l_cons x_int (l_cons (x_blt (c_minA rfl) k_minA (by rfl) C.b_min bo_min (l_cons (x_blt call_len k_len (by rfl) C.b_len bo_len (l_cons (x_var 0) l_nil)) (l_cons x_int l_nil))) l_nil)))) (g_name (i := 1) sc_law.nd rfl (by first | exact Or.inl rfl | exact Or.inr rfl))
  (b_cons (s_set (i := 2) sc_law.nd rfl (by first | exact Or.inl rfl | exact Or.inr rfl) (x_A (f_call (ok__law_pot C) (hr.mono (by decide)) (by rfl) C.g__law_pot C.F__law_pot.kp (bd__law_pot C) (l_cons (x_var 0) (l_cons (x_var 1) l_nil)))))
  (b_cons (s_set (i := 3) sc_law.nd rfl (by first | exact Or.inl rfl | exact Or.inr rfl) (x_call (ok__law_of C) (hr.mono (by decide)) (by rfl) C.g__law_of C.F__law_of.kp (bd__law_of C) (l_cons (x_var 2) (l_cons (x_F (f_lst (l_cons x_int (l_cons x_int (l_cons x_int (l_cons x_int (l_cons x_int (l_cons x_int (l_cons x_int l_nil))))))))) l_nil))))
  (b_cons (s_set (i := 4) sc_law.nd rfl (by first | exact Or.inl rfl | exact Or.inr rfl) (x_op op_addAll o_add x_int (x_call (ok__law_next C) (hr.mono (by decide)) (by rfl) C.g__law_next C.F__law_next.kp (bd__law_next C) (l_cons (x_var 2) (l_cons x_int l_nil)))))
  (b_one (s_for [5] PassesOwn.never rfl (w_sq rfl (x_F (f_lst (l_cons x_str (l_cons x_str (l_cons x_str (l_cons x_str (l_cons x_str l_nil)))))))) (g_name (i := 5) sc_law.nd rfl (by first | exact Or.inl rfl | exact Or.inr rfl))
  (b_cons (s_if (c_not (c_val (x_call (ok__law_all_pairs_right C) (hr.mono (by decide)) (by rfl) C.g__law_all_pairs_right C.F__law_all_pairs_right.kp (bd__law_all_pairs_right C) (l_cons (x_var 5) (l_cons (x_var 3) l_nil)))))
  (b_one (s_ret x_bl))
  b_nil)
  (b_cons (s_set (i := 6) sc_law.nd rfl (by first | exact Or.inl rfl | exact Or.inr rfl) (x_call (ok__law_parts C) (hr.mono (by decide)) (by rfl) C.g__law_parts C.F__law_parts.kp (bd__law_parts C) (l_cons (x_var 5) (l_cons (x_var 4) l_nil))))
  (b_one (s_for [7] PassesOwn.never rfl (w_r1 (by rfl) C.b_range x_int) (g_name (i := 7) sc_law.nd rfl (by first | exact Or.inl rfl | exact Or.inr rfl))
  (b_cons (s_set (i := 8) sc_law.nd rfl (by first | exact Or.inl rfl | exact Or.inr rfl) (x_ix rfl (x_var 6) (x_call (ok__law_next C) (hr.mono (by decide)) (by rfl) C.g__law_next C.F__law_next.kp (bd__law_next C) (l_cons (x_var 2) (l_cons (x_blt call_len k_len (by rfl) C.b_len bo_len (l_cons (x_var 6) l_nil)) l_nil)))))
  (b_cons (s_setLcF (i := 9) [(("_law_other" : Str), 10)] rfl rfl sc_law.nd rfl rfl (sw_true rfl rfl rfl (by decide +kernel)) (blkOk_by (N := N_law) (sc := defScope s_law) (by decide +kernel)) (w_sq rfl (x_var 6)) (fun s H C1 cl fp => (g_name (i := 10) sc_law.nd rfl (by first | exact Or.inl rfl | exact Or.inr rfl))) (fun s H C1 cl fp => (i_one (w_or (c_cmpS (op_eqA hr.units) o_eq (x_ix rfl (x_var 10) x_int) (x_ix rfl (x_var 8) x_int)) (w_or1 (c_cmpS (op_eqA hr.units) o_eq (x_ix rfl (x_var 10) (x_un un_neg u_neg x_int)) (x_ix rfl (x_var 8) (x_un un_neg u_neg x_int))))).pt)) (fun s H C1 cl fp => (x_var 10)))
  (b_cons (s_set (i := 9) sc_law.nd rfl (by first | exact Or.inl rfl | exact Or.inr rfl) (x_F (f_op op_cat o_cat (x_var 9) (x_F (f_lc [(("_law_other" : Str), 10)] rfl rfl sc_law.nd (blkOk_by (N := N_law) (sc := defScope s_law) (by decide +kernel)) (w_sq rfl (x_var 6)) (fun s H C1 cl fp => (g_name (i := 10) sc_law.nd rfl (by first | exact Or.inl rfl | exact Or.inr rfl))) (fun s H C1 cl fp => (i_one (c_cmp op_lt o_ltI (x_blt call_abs k_abs (by rfl) C.b_abs bo_abs (l_cons (x_op op_sub o_sub (x_ix rfl (x_var 10) x_int) (x_ix rfl (x_var 8) (x_un un_neg u_neg x_int))) l_nil)) x_int))) (fun s H C1 cl fp => (x_var 10)))))))
  (b_cons (s_set (i := 10) sc_law.nd rfl (by first | exact Or.inl rfl | exact Or.inr rfl) (x_call (ok__law_of C) (hr.mono (by decide)) (by rfl) C.g__law_of C.F__law_of.kp (bd__law_of C) (l_cons (x_var 2) (l_cons (x_call (ok__law_of C) (hr.mono (by decide)) (by rfl) C.g__law_of C.F__law_of.kp (bd__law_of C) (l_cons (x_var 2) (l_cons (x_F (f_lst (l_cons (x_var 9) (l_cons (x_var 6) l_nil)))) l_nil))) l_nil))))
  (b_cons (s_set (i := 11) sc_law.nd rfl (by first | exact Or.inl rfl | exact Or.inr rfl) (x_call (ok__law_far_due C) (hr.mono (by decide)) (by rfl) C.g__law_far_due C.F__law_far_due.kp (bd__law_far_due C) (l_cons (x_var 5) (l_cons (x_var 4) (l_cons (x_var 8) (l_cons (x_var 10) l_nil))))))
  (b_one (s_if (w_or (c_not (c_val (x_call (ok__law_same C _) (hr.mono (by omega)) (by rfl) C.g__law_same C.F__law_same.kp (bd__law_same C) (l_cons (x_call (ok_both_share C) (hr.mono (by decide)) (by rfl) C.g_both_share C.F_both_share.kp (bd_both_share C) (l_cons (x_var 5) (l_cons (x_var 4) (l_cons (x_var 8) (l_cons (x_var 10) l_nil))))) (l_cons (x_var 11) l_nil))))) (w_or1 (c_cmpS (op_neA hr.units) o_ne (x_call (ok_both_share C) (hr.mono (by decide)) (by rfl) C.g_both_share C.F_both_share.kp (bd_both_share C) (l_cons (x_var 5) (l_cons (x_var 4) (l_cons (x_var 10) (l_cons (x_var 8) l_nil))))) (x_var 11)))).pt
  (b_one (s_ret x_bl))
  b_nil)))))))))))))))))
  (b_one (s_ret x_bl)))
end K26
namespace K26
open PySem PySem.Spec PyProof.Rows L2 Tr
abbrev PotOk (a b : Int) : Prop := 0 ≤ a ∧ 0 ≤ b ∧ b < 2 ^ 64
theorem take_self {α : Type} (l : List α) : l.take l.length = l := List.take_length
theorem fin_val {S : Sto} {d : D} (ho : oldB S S = true) (h : clB S.length d = true) (hr : ∀ l, d ≠ .ref l) : finAb S d S = some (d, S) := by
  unfold finAb
  rw [if_pos ho]
  cases d with
  | ref l => exact absurd rfl (hr l)
  | _ => simp only [h, if_true, List.take_length]
def fstI : D → Int
  | .tup (.int i :: _) => i
  | _ => 0
def lstI : D → Int
  | .tup [.int i] => i
  | .tup [.int _, .int j] => j
  | _ => 0
/-- a part of one place, of two -/
def P1 (n : Int) (d : D) : Prop := ∃ k, d = .tup [.int k] ∧ 0 ≤ k ∧ k < n
def P2 (n : Int) (d : D) : Prop := ∃ k j, d = .tup [.int k, .int j] ∧ 0 ≤ k ∧ k < j ∧ j < n


theorem natAbs_lt {x B : Int} {q : Nat} (h0 : 0 ≤ x) (h : x < B) (hB : B ≤ (2 : Int) ^ q) : x.natAbs < 2 ^ q := by
  have h1 : (x.natAbs : Int) = x := Int.natAbs_of_nonneg h0
  have h2 : ((x.natAbs : Nat) : Int) < ((2 ^ q : Nat) : Int) := by
    rw [h1]
    have : ((2 ^ q : Nat) : Int) = (2 : Int) ^ q := by simp
    rw [this]
    omega
  exact Int.ofNat_lt.mp h2
theorem pow3_of {i : Int} {p : Nat} (a : i.natAbs.log2 < p) (h2 : p ≤ 1000000) : hPow (.int i) (.int 3) = some (.int (i ^ 3)) := by
  unfold hPow Tr.h2
  simp only
  rw [if_pos (by
    rw [Bool.and_eq_true]
    refine ⟨by decide, decide_eq_true ?_⟩
    omega)]
  rfl
theorem mulI_lg {i j : Int} {p q : Nat} (a : i.natAbs.log2 < p) (b : j.natAbs.log2 < q) (h : p + q ≤ 1000000) : hMulI (.int i) (.int j) = some (.int (i * j)) := by
  unfold hMulI Tr.h2
  simp only
  rw [if_pos (decide_eq_true (by omega))]
def P60 : Int := 10 ^ 60
def P18 : Int := 10 ^ 18
def M900 : Int := P60 ^ 15
def BB : Int := 2 * M900 + 10000
theorem BB_eq : BB = 2 * M900 + 10000 := rfl
theorem pw1 : hPow (.int 10) (.int 60) = some (.int P60) := by kernel_rfl
theorem pw2 : hPow (.int P60) (.int 15) = some (.int M900) := by kernel_rfl
theorem pw3 : hPow (.int 10) (.int 18) = some (.int P18) := by kernel_rfl
theorem M900_pos : 0 < M900 := by decide +kernel
theorem M900_le : BB ≤ (2 : Int) ^ 2998 := by decide +kernel
theorem P18_lg : P18.natAbs.log2 < 64 := by decide +kernel
theorem lgM {x : Int} (h0 : 0 ≤ x) (h : x < BB) : x.natAbs.log2 < 3000 := Nat.lt_trans (log2_lt (n := 2998) (by decide) (natAbs_lt h0 h M900_le)) (by decide)
theorem lgS {x : Int} (h0 : 0 ≤ x) (h : x < 100000) : x.natAbs.log2 < 20 := log2_lt (by decide) (by omega)
/-- what is made of a cell -/
theorem pot_cell (S : Sto) (c k : Int) (hk : 0 ≤ k ∧ k ≤ 1) : ∃ a b, PotOk a b ∧ ∀ z : D, (sSeq (sSet 3 (eOp hAdd (eOp hMulI (eC (.int 2)) (eOp hMod (eCall kAbs (aCons (eVar 2) aNil)) (eOp hPow (eOp hPow (eC (.int 10)) (eC (.int 60))) (eC (.int 15))))) (eCall kInt (aCons (eOp hLtI (eVar 2) (eC (.int 0))) aNil))))
  (sSeq (sSet 4 (eOp hMod (eOp hPow (eOp hAdd (eOp hAdd (eVar 3) (eOp hMulI (eC (.int 7919)) (eVar 1))) (eC (.int 13))) (eC (.int 3))) (eC (.int 18446744073709551557))))
  (sRet (eA (fLst (aCons (eOp hMulI (eVar 3) (eCall kInt (aCons (eOp hGeI (eVar 3) (eOp hMulI (eC (.int 2)) (eOp hPow (eC (.int 10)) (eC (.int 18))))) aNil))) (aCons (eVar 4) aNil))))))) [some z, some (.int k), some (.int c), none, none] S = some (.rt (.ref S.length), S ++ [.lst [.int a, .int b]]) := by
  have hx : 0 ≤ (if c < 0 then -c else c) % M900 ∧ (if c < 0 then -c else c) % M900 < M900 := ⟨Int.emod_nonneg _ (by have := M900_pos; omega), Int.emod_lt_of_pos _ M900_pos⟩
  have m0 := modI_of (i := if c < 0 then -c else c) M900_pos
  generalize (if c < 0 then -c else c) % M900 = x at hx m0
  have m1 := mulI_lg (i := 2) (j := x) (lgS (by decide) (by decide)) (lgM hx.1 (by have := M900_pos; have := BB_eq; omega)) (by decide)
  have hy : ∃ u : Int, 0 ≤ u ∧ u ≤ 1 ∧ (if decide (c < 0) = true then (1 : Int) else 0) = u := by
    by_cases h : c < 0
    · exact ⟨1, by decide, by decide, by simp [h]⟩
    · exact ⟨0, by decide, by decide, by simp [h]⟩
  obtain ⟨u, u1, u2, hu⟩ := hy
  have hn : 0 ≤ 2 * x + u ∧ 2 * x + u < 2 * M900 + 1 := by omega
  generalize hnn : 2 * x + u = n at hn
  have m2 := mulI_lg (i := 7919) (j := k) (lgS (by decide) (by decide)) (lgS hk.1 (by omega)) (by decide)
  have p3 := pow3_of (i := n + 7919 * k + 13) (lgM (by omega) (by have := BB_eq; omega)) (by decide)
  have m3 := modI_of (i := (n + 7919 * k + 13) ^ 3) (j := 18446744073709551557) (by decide)
  have hb : 0 ≤ (n + 7919 * k + 13) ^ 3 % 18446744073709551557 ∧ (n + 7919 * k + 13) ^ 3 % 18446744073709551557 < 18446744073709551557 := ⟨Int.emod_nonneg _ (by decide), Int.emod_lt_of_pos _ (by decide)⟩
  generalize (n + 7919 * k + 13) ^ 3 % 18446744073709551557 = b at hb m3
  have m4 := mulI_lg (i := 2) (j := P18) (lgS (by decide) (by decide)) P18_lg (by decide)
  have hw : ∃ v : Int, 0 ≤ v ∧ v ≤ 1 ∧ (if decide (2 * P18 ≤ n) = true then (1 : Int) else 0) = v := by
    by_cases h : (2 * P18) ≤ n
    · exact ⟨1, by decide, by decide, by simp only [h]; rfl⟩
    · exact ⟨0, by decide, by decide, by simp only [h]; rfl⟩
  obtain ⟨v, v1, v2, hv⟩ := hw
  have m5 := mulI_lg (i := n) (j := v) (lgM hn.1 (by have := BB_eq; omega)) (lgS v1 (by omega)) (by decide)
  refine ⟨n * v, b, ⟨Int.mul_nonneg hn.1 v1, hb.1, by omega⟩, fun z => ?_⟩
  have ka : kAbs [.int c] S = some (.int (if c < 0 then -c else c), S) := rfl
  have ki1 : kInt [.bl (decide (c < 0))] S = some (.int u, S) := by rw [← hu]; rfl
  have ki2 : kInt [.bl (decide (2 * P18 ≤ n))] S = some (.int v, S) := by rw [← hv]; rfl
  have ge : hGeI (.int n) (.int (2 * P18)) = some (.bl (decide (2 * P18 ≤ n))) := rfl
  refine v_seq (v_set (v_op (v_op v_c (v_op (v_call1 (v_var rfl) ka) (v_op (v_op v_c v_c pw1) v_c pw2) m0) m1) (v_call1 (v_op (v_var rfl) v_c ltI_of) ki1) addI_of)) ?_
  rw [hnn]
  refine v_seq (v_set (v_op (v_op (v_op (v_op (v_var rfl) (v_op v_c (v_var rfl) m2) addI_of) v_c addI_of) v_c p3) v_c m3)) ?_
  exact v_ret (v_A2 (v_op (v_var rfl) (v_call1 (v_op (v_var rfl) (v_op v_c (v_op v_c v_c pw3) m4) ge) ki2) m5) (v_var rfl))
theorem eq1 (k j : Int) (S : Sto) : hEq (.tup [.int k]) (.tup [.int j]) S = some (.bl (decide (k = j)), S) := by
  unfold hEq eqv
  simp [scV, pyT, py, pyL, SeqAt.shaped, PyData.eqv]
  exact ⟨⟨⟨rfl, Nat.le_of_ble_eq_true rfl⟩, rfl, Nat.le_of_ble_eq_true rfl⟩, by by_cases h : k = j <;> simp [PyData.eqvAll, PyData.eqv, h]⟩
theorem eq2 (k j k' j' : Int) (S : Sto) : hEq (.tup [.int k, .int j]) (.tup [.int k', .int j']) S = some (.bl (decide (k = k' ∧ j = j')), S) := by
  unfold hEq eqv
  simp [scV, pyT, py, pyL, SeqAt.shaped, PyData.eqv]
  exact ⟨⟨⟨rfl, Nat.le_of_ble_eq_true rfl⟩, rfl, Nat.le_of_ble_eq_true rfl⟩, by by_cases h : k = k' <;> by_cases h2 : j = j' <;> simp [PyData.eqvAll, PyData.eqv, h, h2]⟩
theorem ne2 (k j k' j' : Int) (S : Sto) : hNe (.tup [.int k, .int j]) (.tup [.int k', .int j']) S = some (.bl (!decide (k = k' ∧ j = j')), S) := by
  unfold hNe eqv
  simp [scV, pyT, py, pyL, SeqAt.shaped, PyData.eqv]
  exact ⟨⟨⟨rfl, Nat.le_of_ble_eq_true rfl⟩, rfl, Nat.le_of_ble_eq_true rfl⟩, by by_cases h : k = k' <;> by_cases h2 : j = j' <;> simp [PyData.eqvAll, PyData.eqv, h, h2]⟩
theorem eqi (k j : Int) (S : Sto) : hEq (.int k) (.int j) S = some (.bl (decide (k = j)), S) := by
  unfold hEq eqv
  simp [scV, scal]
theorem lowest1 (S : Sto) (hS : oldB S S = true) (N : Int) (h : 1 ≤ N) (h2 : N < 2 ^ 60) : m_lowest [.int 1, .int N] S = some (.tup [.int 1, .int N], S) := by
  have ka : kAbs [.int N] S = some (.int N, S) := by
    have : ¬ N < 0 := by omega
    simp [kAbs, this]
  have lgN : N.natAbs.log2 < 9000 := Nat.lt_trans (log2_lt (n := 60) (by decide) (by omega)) (by decide)
  have d1 : hDiv (.int 1) (.int 1) = some (.int 1) := by kernel_rfl
  have d2 : hDiv (.int N) (.int 1) = some (.int N) := by
    have := divI_of (i := N) (j := 1) (by decide) (by decide)
    rw [this, Int.ediv_one]
  unfold m_lowest
  have loop : sWh (tV (eOp hGtI (eVar 3) (eC (.int 0)))) (sPar 2 3 (eVar 3) (eOp hMod (eVar 2) (eVar 3))) [some (.int 1), some (.int N), some (.int 1), some (.int N)] S = some (.nx [some (.int 1), some (.int N), some (.int 1), some (.int 0)], S) := by
    by_cases h1 : N = 1
    · subst h1
      exact sWh_of (n := 2) (by kernel_rfl)
    · have m1 : hMod (.int 1) (.int N) = some (.int 1) := by
        rw [modI_of (by omega), Int.emod_eq_of_lt (by decide) (by omega)]
      have m2 : hMod (.int N) (.int 1) = some (.int 0) := by
        rw [modI_of (by decide), Int.emod_one]
      have c1 : decide ((0 : Int) < N) = true := decide_eq_true (by omega)
      refine sWh_of (n := 3) ?_
      simp [whN, tV, eOp, eVar, eC, hGtI, Tr.h2, c1, sPar, m1, m2, aCons, aNil]
  refine runA_of (S1 := S) (d1 := .tup [.int 1, .int N]) ?_ (finAb_ok (fin_val hS rfl (fun l z => by cases z)))
  have c2 : decide (N < 0) = false := decide_eq_false (by omega)
  show (match (sSeq _ _ [some (.int 1), some (.int N), none, none] S) with | some (.rt d, S1) => some (d, S1) | some (.nx _, S1) => some (.non, S1) | _ => none) = _
  rw [v_seq (e1 := [some (.int 1), some (.int N), some (.int 1), some (.int N)]) (S1 := S) (by simp [sPar, eCall, aCons, aNil, eVar, ka]; simp [kAbs]; omega) (v_seq loop (v_seq (v_ifF (v_tV (v_op (v_var rfl) v_c (by rw [ltI_of, c2]))) rfl) (v_ret (x := .tup [.int 1, .int N]) (S1 := S) (by simp [eTup, aCons, aNil, eOp, eVar, d1, d2]))))]
/-! ### the store's shape 1 -/
theorem next1 (a b m : Int) (h : PotOk a b) (hm : 0 < m) (hm2 : m < 2 ^ 60) : ∃ d a' b', m__law_next [(.ref 0), .int m] [.lst [.int a, .int b]] = some (.int d, [.lst [.int a', .int b']]) ∧ 0 ≤ d ∧ d < m ∧ PotOk a' b' := by
  obtain ⟨ha, hb, hb2⟩ := h
  unfold m__law_next
  by_cases ca : 0 < a
  · refine ⟨a % m, a / m, b, ?_, Int.emod_nonneg _ (by omega), Int.emod_lt_of_pos _ hm, Int.ediv_nonneg ha (by omega), hb, hb2⟩
    apply runA_of (S1 := [.lst [.int (a / m), .int b]]) (d1 := .int (a % m)) _ (finAb_ok rfl)
    have d1 := divI_of (i := a) hm (Nat.lt_trans (log2_lt (n := 60) (by decide) (by omega)) (by decide))
    have m1 := modI_of (i := a) hm
    simp [runB, sSeq, sSet, sIf, sRet, sSub, tV, eOp, eOpS, eVar, eC, hIx, seqOf, hGtI, Tr.h2, ca, m1, d1, hSetL, stL, L2.atI, L2.ixN]
  · have hb' : 0 ≤ (b * 6364136223846793005 + 1442695040888963407) % 18446744073709551557 ∧ (b * 6364136223846793005 + 1442695040888963407) % 18446744073709551557 < 18446744073709551557 := ⟨Int.emod_nonneg _ (by decide), Int.emod_lt_of_pos _ (by decide)⟩
    have x1 := mulI_of (i := b) (j := 6364136223846793005) (p := 65) (q := 64) (by decide) (by decide) (by omega) (by decide) (by decide)
    have x2 := modI_of (i := b * 6364136223846793005 + 1442695040888963407) (j := 18446744073709551557) (by decide)
    generalize (b * 6364136223846793005 + 1442695040888963407) % 18446744073709551557 = c at hb' x2
    have x3 := mulI_of (i := c) (j := c) (p := 65) (q := 65) (by decide) (by decide) (by omega) (by omega) (by decide)
    have x4 := modI_of (i := c * c) (j := 2305843009213693951) (by decide)
    have x5 := divI_of (i := c * c % 2305843009213693951) (j := 4099) (by decide) (by decide)
    have x6 := modI_of (i := c * c % 2305843009213693951 / 4099) hm
    refine ⟨c * c % 2305843009213693951 / 4099 % m, a, c, ?_, Int.emod_nonneg _ (by omega), Int.emod_lt_of_pos _ hm, ha, hb'.1, by omega⟩
    apply runA_of (S1 := [.lst [.int a, .int c]]) (d1 := .int (c * c % 2305843009213693951 / 4099 % m)) _ (finAb_ok rfl)
    simp [runB, sSeq, sSet, sIf, sRet, sSub, sNx, tV, eOp, eOpS, eVar, eC, hIx, seqOf, hGtI, Tr.h2, ca, x1, x2, x3, x4, x5, x6, addI_of, hSetL, stL, L2.atI, L2.ixN]
theorem of1 (a b : Int) (xs : List D) (h : PotOk a b) (hne : xs ≠ []) (hl : xs.length ≤ 1000000) (hc : ∀ x ∈ xs, clB 1 x = true ∧ ∀ l, x ≠ .ref l) : ∃ x a' b', m__law_of [(.ref 0), .lst xs] [.lst [.int a, .int b]] = some (x, [.lst [.int a', .int b']]) ∧ x ∈ xs ∧ PotOk a' b' := by
  have hp : 0 < xs.length := List.length_pos_iff.mpr hne
  obtain ⟨d, a', b', h1, h2, h3, h4⟩ := next1 a b (xs.length : Int) h (by omega) (by omega)
  have hd : d.toNat < xs.length := by omega
  refine ⟨xs[d.toNat], a', b', ?_, List.getElem_mem hd, h4⟩
  obtain ⟨c1, c2⟩ := hc _ (List.getElem_mem hd)
  unfold m__law_of
  have hx : L2.atI xs d = some xs[d.toNat] := by
    unfold L2.atI L2.ixN
    rw [if_pos h2, if_pos h3]
    exact List.getElem?_eq_getElem hd
  refine runA_of (S1 := [.lst [.int a', .int b']]) (d1 := xs[d.toNat]) (v_run rfl (v_ret (v_opS (v_var rfl) (v_call2 (v_var rfl) (v_call1 (v_var rfl) rfl) h1) ?_))) (finAb_ok (fin_val (S := [.lst [.int a', .int b']]) rfl c1 c2))
  exact ix_lst hx


/-! ### the store's shape 2 -/
theorem next2 (p q : Int) (a b m : Int) (h : PotOk a b) (hm : 0 < m) (hm2 : m < 2 ^ 60) : ∃ d a' b', m__law_next [(.ref 1), .int m] [.lst [.int p, .int q], .lst [.int a, .int b]] = some (.int d, [.lst [.int p, .int q], .lst [.int a', .int b']]) ∧ 0 ≤ d ∧ d < m ∧ PotOk a' b' := by
  obtain ⟨ha, hb, hb2⟩ := h
  unfold m__law_next
  by_cases ca : 0 < a
  · refine ⟨a % m, a / m, b, ?_, Int.emod_nonneg _ (by omega), Int.emod_lt_of_pos _ hm, Int.ediv_nonneg ha (by omega), hb, hb2⟩
    apply runA_of (S1 := [.lst [.int p, .int q], .lst [.int (a / m), .int b]]) (d1 := .int (a % m)) _ (finAb_ok rfl)
    have d1 := divI_of (i := a) hm (Nat.lt_trans (log2_lt (n := 60) (by decide) (by omega)) (by decide))
    have m1 := modI_of (i := a) hm
    simp [runB, sSeq, sSet, sIf, sRet, sSub, tV, eOp, eOpS, eVar, eC, hIx, seqOf, hGtI, Tr.h2, ca, m1, d1, hSetL, stL, L2.atI, L2.ixN]
  · have hb' : 0 ≤ (b * 6364136223846793005 + 1442695040888963407) % 18446744073709551557 ∧ (b * 6364136223846793005 + 1442695040888963407) % 18446744073709551557 < 18446744073709551557 := ⟨Int.emod_nonneg _ (by decide), Int.emod_lt_of_pos _ (by decide)⟩
    have x1 := mulI_of (i := b) (j := 6364136223846793005) (p := 65) (q := 64) (by decide) (by decide) (by omega) (by decide) (by decide)
    have x2 := modI_of (i := b * 6364136223846793005 + 1442695040888963407) (j := 18446744073709551557) (by decide)
    generalize (b * 6364136223846793005 + 1442695040888963407) % 18446744073709551557 = c at hb' x2
    have x3 := mulI_of (i := c) (j := c) (p := 65) (q := 65) (by decide) (by decide) (by omega) (by omega) (by decide)
    have x4 := modI_of (i := c * c) (j := 2305843009213693951) (by decide)
    have x5 := divI_of (i := c * c % 2305843009213693951) (j := 4099) (by decide) (by decide)
    have x6 := modI_of (i := c * c % 2305843009213693951 / 4099) hm
    refine ⟨c * c % 2305843009213693951 / 4099 % m, a, c, ?_, Int.emod_nonneg _ (by omega), Int.emod_lt_of_pos _ hm, ha, hb'.1, by omega⟩
    apply runA_of (S1 := [.lst [.int p, .int q], .lst [.int a, .int c]]) (d1 := .int (c * c % 2305843009213693951 / 4099 % m)) _ (finAb_ok rfl)
    simp [runB, sSeq, sSet, sIf, sRet, sSub, sNx, tV, eOp, eOpS, eVar, eC, hIx, seqOf, hGtI, Tr.h2, ca, x1, x2, x3, x4, x5, x6, addI_of, hSetL, stL, L2.atI, L2.ixN]
theorem of2 (p q : Int) (a b : Int) (xs : List D) (h : PotOk a b) (hne : xs ≠ []) (hl : xs.length ≤ 1000000) (hc : ∀ x ∈ xs, clB 2 x = true ∧ ∀ l, x ≠ .ref l) : ∃ x a' b', m__law_of [(.ref 1), .lst xs] [.lst [.int p, .int q], .lst [.int a, .int b]] = some (x, [.lst [.int p, .int q], .lst [.int a', .int b']]) ∧ x ∈ xs ∧ PotOk a' b' := by
  have hp : 0 < xs.length := List.length_pos_iff.mpr hne
  obtain ⟨d, a', b', h1, h2, h3, h4⟩ := next2 p q a b (xs.length : Int) h (by omega) (by omega)
  have hd : d.toNat < xs.length := by omega
  refine ⟨xs[d.toNat], a', b', ?_, List.getElem_mem hd, h4⟩
  obtain ⟨c1, c2⟩ := hc _ (List.getElem_mem hd)
  unfold m__law_of
  have hx : L2.atI xs d = some xs[d.toNat] := by
    unfold L2.atI L2.ixN
    rw [if_pos h2, if_pos h3]
    exact List.getElem?_eq_getElem hd
  refine runA_of (S1 := [.lst [.int p, .int q], .lst [.int a', .int b']]) (d1 := xs[d.toNat]) (v_run rfl (v_ret (v_opS (v_var rfl) (v_call2 (v_var rfl) (v_call1 (v_var rfl) rfl) h1) ?_))) (finAb_ok (fin_val (S := [.lst [.int p, .int q], .lst [.int a', .int b']]) rfl c1 c2))
  exact ix_lst hx

theorem one_rounds1 (a b n k : Int) : m_one_share [.str ("rounds" : Str), .int n, .tup [.int k]] [.lst [.int a, .int b]] = some (.tup [.int 1, .int (n - k)], [.lst [.int a, .int b]]) := by kernel_rfl
theorem times_rounds1 (a b u v : Int) (hu : 1 ≤ u) (hu2 : u < 2 ^ 20) (hv : 1 ≤ v) (hv2 : v < 2 ^ 20) (h : 1 ≤ u * v) (h2 : u * v < 2 ^ 60) : m_times [.tup [.int 1, .int u], .tup [.int 1, .int v]] [.lst [.int a, .int b]] = some (.tup [.int 1, .int (u * v)], [.lst [.int a, .int b]]) := by
  have m1 : hMulI (.int 1) (.int 1) = some (.int 1) := by kernel_rfl
  have m2 := mulI_lg (i := u) (j := v) (log2_lt (n := 20) (by decide) (by omega)) (log2_lt (n := 20) (by decide) (by omega)) (by decide)
  unfold m_times
  refine runA_of (S1 := [.lst [.int a, .int b]]) (d1 := .tup [.int 1, .int (u * v)]) ?_ (finAb_ok rfl)
  show (match (sRet _ [some (.tup [.int 1, .int u]), some (.tup [.int 1, .int v])] [.lst [.int a, .int b]]) with | some (.rt d, S1) => some (d, S1) | some (.nx _, S1) => some (.non, S1) | _ => none) = _
  rw [v_ret (v_call2 (v_op (v_opS (v_var rfl) v_c rfl) (v_opS (v_var rfl) v_c rfl) m1) (v_op (v_opS (v_var rfl) v_c rfl) (v_opS (v_var rfl) v_c rfl) m2) (lowest1 _ rfl _ h h2))]
theorem both_rounds1 (a b n k j : Int) (hn : 2 ≤ n) (hn2 : n ≤ 60) (hk : 0 ≤ k ∧ k < n) (hj : 0 ≤ j ∧ j < n) : m_both_share [.str ("rounds" : Str), .int n, .tup [.int k], .tup [.int j]] [.lst [.int a, .int b]] = some (.tup [.int 1, .int (if k = j then n - k else (n - k) * (n - j))], [.lst [.int a, .int b]]) := by
  have hu : 1 ≤ n - k ∧ n - k < 100 := by omega
  have hv : 1 ≤ n - j ∧ n - j < 100 := by omega
  have hp : 1 ≤ (n - k) * (n - j) ∧ (n - k) * (n - j) < 2 ^ 60 := by
    have h1 := Int.mul_le_mul hu.1 hv.1 (by decide) (by omega)
    have h2 := Int.mul_le_mul (Int.le_of_lt hu.2) (Int.le_of_lt hv.2) (by omega) (by decide)
    omega
  unfold m_both_share
  refine runA_of (S1 := [.lst [.int a, .int b]]) (d1 := .tup [.int 1, .int (if k = j then n - k else (n - k) * (n - j))]) ?_ (finAb_ok rfl)
  show (match (sSeq _ _ [some (.str ("rounds" : Str)), some (.int n), some (.tup [.int k]), some (.tup [.int j])] [.lst [.int a, .int b]]) with | some (.rt d, S1) => some (d, S1) | some (.nx _, S1) => some (.non, S1) | _ => none) = _
  by_cases e : k = j
  · rw [if_pos e, v_seqR (v_ifT (v_tst (v_var rfl) (v_var rfl) (by rw [eq1, decide_eq_true e])) (v_ret (v_call3 (v_var rfl) (v_var rfl) (v_var rfl) (one_rounds1 a b n k))))]
  · rw [if_neg e, v_seq (v_ifFp (v_tst (v_var rfl) (v_var rfl) (by rw [eq1, decide_eq_false e]))) (v_seq (v_ifFp (v_tst (v_var rfl) v_c (by kernel_rfl))) (v_seq (v_ifFp (v_tst (v_var rfl) v_c (by kernel_rfl))) (v_seq (v_ifFp (v_tst (v_var rfl) v_c (by kernel_rfl))) (v_ret (v_call2 (v_call3 (v_var rfl) (v_var rfl) (v_var rfl) (one_rounds1 a b n k)) (v_call3 (v_var rfl) (v_var rfl) (v_var rfl) (one_rounds1 a b n j)) (times_rounds1 a b _ _ hu.1 (by omega) hv.1 (by omega) hp.1 hp.2))))))]
theorem far_rounds1 (a b n k j : Int) (hn : 2 ≤ n) (hn2 : n ≤ 60) (hk : 0 ≤ k ∧ k < n) (hj : 0 ≤ j ∧ j < n) : m__law_far_due [.str ("rounds" : Str), .int n, .tup [.int k], .tup [.int j]] [.lst [.int a, .int b]] = some (.tup [.int 1, .int (if k = j then n - k else (n - k) * (n - j))], [.lst [.int a, .int b]]) := by
  have hu : 1 ≤ n - k ∧ n - k < 100 := by omega
  have hv : 1 ≤ n - j ∧ n - j < 100 := by omega
  have m2 := mulI_lg (i := n - k) (j := n - j) (log2_lt (n := 20) (by decide) (by omega)) (log2_lt (n := 20) (by decide) (by omega)) (by decide)
  unfold m__law_far_due
  refine runA_of (S1 := [.lst [.int a, .int b]]) (d1 := .tup [.int 1, .int (if k = j then n - k else (n - k) * (n - j))]) ?_ (finAb_ok rfl)
  show (match (sSeq _ _ [some (.str ("rounds" : Str)), some (.int n), some (.tup [.int k]), some (.tup [.int j]), none, none, none, none, none, none, none, none] [.lst [.int a, .int b]]) with | some (.rt d, S1) => some (d, S1) | some (.nx _, S1) => some (.non, S1) | _ => none) = _
  have hx : (eOpS hDix (eN (nDisp [((eC (.str ("rounds" : Str))), (eF (fLst (aCons (eOp hSub (eVar 1) (eOpS hIx (eVar 2) (eC (.int 0)))) (aCons (eOp hSub (eVar 1) (eOpS hIx (eVar 3) (eC (.int 0)))) aNil))))), ((eC (.str ("highs" : Str))), (eF (fLst (aCons (eOp hAdd (eOpS hIx (eVar 2) (eC (.int 0))) (eC (.int 1))) (aCons (eOp hAdd (eOpS hIx (eVar 3) (eC (.int 0))) (eC (.int 1))) aNil))))), ((eC (.str ("stays" : Str))), (eF (fLst (aCons (eVar 1) (aCons (eOp hSub (eVar 1) (eC (.int 1))) aNil)))))])) (eVar 0)) [some (.str ("rounds" : Str)), some (.int n), some (.tup [.int k]), some (.tup [.int j]), none, none, none, none, none, none, none, none] [.lst [.int a, .int b]] = some (.lst [.int (n - k), .int (n - j)], [.lst [.int a, .int b]]) := by kernel_rfl
  rw [v_seq (v_ifFp (by kernel_rfl)) (v_seq (v_set hx) rfl)]
  by_cases e : k = j
  · rw [if_pos e, v_seqR (v_ifT (v_tst (v_var rfl) (v_var rfl) (by rw [eq1, decide_eq_true e])) (v_ret (v_T2 v_c (v_opS (v_var rfl) v_c rfl))))]
  · rw [if_neg e, v_seq (v_ifFp (v_tst (v_var rfl) (v_var rfl) (by rw [eq1, decide_eq_false e]))) (v_ret (v_T2 v_c (v_op (v_opS (v_var rfl) v_c rfl) (v_opS (v_var rfl) v_c rfl) m2)))]
theorem one_highs1 (a b n k : Int) : m_one_share [.str ("highs" : Str), .int n, .tup [.int k]] [.lst [.int a, .int b]] = some (.tup [.int 1, .int (k + 1)], [.lst [.int a, .int b]]) := by kernel_rfl
theorem times_highs1 (a b u v : Int) (hu : 1 ≤ u) (hu2 : u < 2 ^ 20) (hv : 1 ≤ v) (hv2 : v < 2 ^ 20) (h : 1 ≤ u * v) (h2 : u * v < 2 ^ 60) : m_times [.tup [.int 1, .int u], .tup [.int 1, .int v]] [.lst [.int a, .int b]] = some (.tup [.int 1, .int (u * v)], [.lst [.int a, .int b]]) := by
  have m1 : hMulI (.int 1) (.int 1) = some (.int 1) := by kernel_rfl
  have m2 := mulI_lg (i := u) (j := v) (log2_lt (n := 20) (by decide) (by omega)) (log2_lt (n := 20) (by decide) (by omega)) (by decide)
  unfold m_times
  refine runA_of (S1 := [.lst [.int a, .int b]]) (d1 := .tup [.int 1, .int (u * v)]) ?_ (finAb_ok rfl)
  show (match (sRet _ [some (.tup [.int 1, .int u]), some (.tup [.int 1, .int v])] [.lst [.int a, .int b]]) with | some (.rt d, S1) => some (d, S1) | some (.nx _, S1) => some (.non, S1) | _ => none) = _
  rw [v_ret (v_call2 (v_op (v_opS (v_var rfl) v_c rfl) (v_opS (v_var rfl) v_c rfl) m1) (v_op (v_opS (v_var rfl) v_c rfl) (v_opS (v_var rfl) v_c rfl) m2) (lowest1 _ rfl _ h h2))]
theorem both_highs1 (a b n k j : Int) (hn : 2 ≤ n) (hn2 : n ≤ 60) (hk : 0 ≤ k ∧ k < n) (hj : 0 ≤ j ∧ j < n) : m_both_share [.str ("highs" : Str), .int n, .tup [.int k], .tup [.int j]] [.lst [.int a, .int b]] = some (.tup [.int 1, .int (if k = j then k + 1 else (k + 1) * (j + 1))], [.lst [.int a, .int b]]) := by
  have hu : 1 ≤ k + 1 ∧ k + 1 < 100 := by omega
  have hv : 1 ≤ j + 1 ∧ j + 1 < 100 := by omega
  have hp : 1 ≤ (k + 1) * (j + 1) ∧ (k + 1) * (j + 1) < 2 ^ 60 := by
    have h1 := Int.mul_le_mul hu.1 hv.1 (by decide) (by omega)
    have h2 := Int.mul_le_mul (Int.le_of_lt hu.2) (Int.le_of_lt hv.2) (by omega) (by decide)
    omega
  unfold m_both_share
  refine runA_of (S1 := [.lst [.int a, .int b]]) (d1 := .tup [.int 1, .int (if k = j then k + 1 else (k + 1) * (j + 1))]) ?_ (finAb_ok rfl)
  show (match (sSeq _ _ [some (.str ("highs" : Str)), some (.int n), some (.tup [.int k]), some (.tup [.int j])] [.lst [.int a, .int b]]) with | some (.rt d, S1) => some (d, S1) | some (.nx _, S1) => some (.non, S1) | _ => none) = _
  by_cases e : k = j
  · rw [if_pos e, v_seqR (v_ifT (v_tst (v_var rfl) (v_var rfl) (by rw [eq1, decide_eq_true e])) (v_ret (v_call3 (v_var rfl) (v_var rfl) (v_var rfl) (one_highs1 a b n k))))]
  · rw [if_neg e, v_seq (v_ifFp (v_tst (v_var rfl) (v_var rfl) (by rw [eq1, decide_eq_false e]))) (v_seq (v_ifFp (v_tst (v_var rfl) v_c (by kernel_rfl))) (v_seq (v_ifFp (v_tst (v_var rfl) v_c (by kernel_rfl))) (v_seq (v_ifFp (v_tst (v_var rfl) v_c (by kernel_rfl))) (v_ret (v_call2 (v_call3 (v_var rfl) (v_var rfl) (v_var rfl) (one_highs1 a b n k)) (v_call3 (v_var rfl) (v_var rfl) (v_var rfl) (one_highs1 a b n j)) (times_highs1 a b _ _ hu.1 (by omega) hv.1 (by omega) hp.1 hp.2))))))]
theorem far_highs1 (a b n k j : Int) (hn : 2 ≤ n) (hn2 : n ≤ 60) (hk : 0 ≤ k ∧ k < n) (hj : 0 ≤ j ∧ j < n) : m__law_far_due [.str ("highs" : Str), .int n, .tup [.int k], .tup [.int j]] [.lst [.int a, .int b]] = some (.tup [.int 1, .int (if k = j then k + 1 else (k + 1) * (j + 1))], [.lst [.int a, .int b]]) := by
  have hu : 1 ≤ k + 1 ∧ k + 1 < 100 := by omega
  have hv : 1 ≤ j + 1 ∧ j + 1 < 100 := by omega
  have m2 := mulI_lg (i := k + 1) (j := j + 1) (log2_lt (n := 20) (by decide) (by omega)) (log2_lt (n := 20) (by decide) (by omega)) (by decide)
  unfold m__law_far_due
  refine runA_of (S1 := [.lst [.int a, .int b]]) (d1 := .tup [.int 1, .int (if k = j then k + 1 else (k + 1) * (j + 1))]) ?_ (finAb_ok rfl)
  show (match (sSeq _ _ [some (.str ("highs" : Str)), some (.int n), some (.tup [.int k]), some (.tup [.int j]), none, none, none, none, none, none, none, none] [.lst [.int a, .int b]]) with | some (.rt d, S1) => some (d, S1) | some (.nx _, S1) => some (.non, S1) | _ => none) = _
  have hx : (eOpS hDix (eN (nDisp [((eC (.str ("rounds" : Str))), (eF (fLst (aCons (eOp hSub (eVar 1) (eOpS hIx (eVar 2) (eC (.int 0)))) (aCons (eOp hSub (eVar 1) (eOpS hIx (eVar 3) (eC (.int 0)))) aNil))))), ((eC (.str ("highs" : Str))), (eF (fLst (aCons (eOp hAdd (eOpS hIx (eVar 2) (eC (.int 0))) (eC (.int 1))) (aCons (eOp hAdd (eOpS hIx (eVar 3) (eC (.int 0))) (eC (.int 1))) aNil))))), ((eC (.str ("stays" : Str))), (eF (fLst (aCons (eVar 1) (aCons (eOp hSub (eVar 1) (eC (.int 1))) aNil)))))])) (eVar 0)) [some (.str ("highs" : Str)), some (.int n), some (.tup [.int k]), some (.tup [.int j]), none, none, none, none, none, none, none, none] [.lst [.int a, .int b]] = some (.lst [.int (k + 1), .int (j + 1)], [.lst [.int a, .int b]]) := by kernel_rfl
  rw [v_seq (v_ifFp (by kernel_rfl)) (v_seq (v_set hx) rfl)]
  by_cases e : k = j
  · rw [if_pos e, v_seqR (v_ifT (v_tst (v_var rfl) (v_var rfl) (by rw [eq1, decide_eq_true e])) (v_ret (v_T2 v_c (v_opS (v_var rfl) v_c rfl))))]
  · rw [if_neg e, v_seq (v_ifFp (v_tst (v_var rfl) (v_var rfl) (by rw [eq1, decide_eq_false e]))) (v_ret (v_T2 v_c (v_op (v_opS (v_var rfl) v_c rfl) (v_opS (v_var rfl) v_c rfl) m2)))]
theorem one_stays1 (a b n k : Int) : m_one_share [.str ("stays" : Str), .int n, .tup [.int k]] [.lst [.int a, .int b]] = some (.tup [.int 1, .int (n)], [.lst [.int a, .int b]]) := by kernel_rfl
theorem both_stays1 (a b n k j : Int) (hn : 2 ≤ n) (hn2 : n ≤ 60) (hk : 0 ≤ k ∧ k < n) (hj : 0 ≤ j ∧ j < n) : m_both_share [.str ("stays" : Str), .int n, .tup [.int k], .tup [.int j]] [.lst [.int a, .int b]] = some (.tup [.int 1, .int (if k = j then n else n * (n - 1))], [.lst [.int a, .int b]]) := by
  have hu : 1 ≤ n ∧ n < 100 := by omega
  have hv : 1 ≤ n - 1 ∧ n - 1 < 100 := by omega
  have hp : 1 ≤ (n) * (n - 1) ∧ (n) * (n - 1) < 2 ^ 60 := by
    have h1 := Int.mul_le_mul hu.1 hv.1 (by decide) (by omega)
    have h2 := Int.mul_le_mul (Int.le_of_lt hu.2) (Int.le_of_lt hv.2) (by omega) (by decide)
    omega
  have m2 := mulI_lg (i := n) (j := n - 1) (log2_lt (n := 20) (by decide) (by omega)) (log2_lt (n := 20) (by decide) (by omega)) (by decide)
  unfold m_both_share
  refine runA_of (S1 := [.lst [.int a, .int b]]) (d1 := .tup [.int 1, .int (if k = j then n else n * (n - 1))]) ?_ (finAb_ok rfl)
  show (match (sSeq _ _ [some (.str ("stays" : Str)), some (.int n), some (.tup [.int k]), some (.tup [.int j])] [.lst [.int a, .int b]]) with | some (.rt d, S1) => some (d, S1) | some (.nx _, S1) => some (.non, S1) | _ => none) = _
  by_cases e : k = j
  · rw [if_pos e, v_seqR (v_ifT (v_tst (v_var rfl) (v_var rfl) (by rw [eq1, decide_eq_true e])) (v_ret (v_call3 (v_var rfl) (v_var rfl) (v_var rfl) (one_stays1 a b n k))))]
  · rw [if_neg e, v_seq (v_ifFp (v_tst (v_var rfl) (v_var rfl) (by rw [eq1, decide_eq_false e]))) (v_seqR (v_ifT (v_tst (v_var rfl) v_c (by kernel_rfl)) (v_ret (v_call2 v_c (v_op (v_var rfl) (v_op (v_var rfl) v_c subI_of) m2) (lowest1 _ rfl _ hp.1 hp.2)))))]
theorem far_stays1 (a b n k j : Int) (hn : 2 ≤ n) (hn2 : n ≤ 60) (hk : 0 ≤ k ∧ k < n) (hj : 0 ≤ j ∧ j < n) : m__law_far_due [.str ("stays" : Str), .int n, .tup [.int k], .tup [.int j]] [.lst [.int a, .int b]] = some (.tup [.int 1, .int (if k = j then n else n * (n - 1))], [.lst [.int a, .int b]]) := by
  have hu : 1 ≤ n ∧ n < 100 := by omega
  have hv : 1 ≤ n - 1 ∧ n - 1 < 100 := by omega
  have m2 := mulI_lg (i := n) (j := n - 1) (log2_lt (n := 20) (by decide) (by omega)) (log2_lt (n := 20) (by decide) (by omega)) (by decide)
  unfold m__law_far_due
  refine runA_of (S1 := [.lst [.int a, .int b]]) (d1 := .tup [.int 1, .int (if k = j then n else n * (n - 1))]) ?_ (finAb_ok rfl)
  show (match (sSeq _ _ [some (.str ("stays" : Str)), some (.int n), some (.tup [.int k]), some (.tup [.int j]), none, none, none, none, none, none, none, none] [.lst [.int a, .int b]]) with | some (.rt d, S1) => some (d, S1) | some (.nx _, S1) => some (.non, S1) | _ => none) = _
  have hx : (eOpS hDix (eN (nDisp [((eC (.str ("rounds" : Str))), (eF (fLst (aCons (eOp hSub (eVar 1) (eOpS hIx (eVar 2) (eC (.int 0)))) (aCons (eOp hSub (eVar 1) (eOpS hIx (eVar 3) (eC (.int 0)))) aNil))))), ((eC (.str ("highs" : Str))), (eF (fLst (aCons (eOp hAdd (eOpS hIx (eVar 2) (eC (.int 0))) (eC (.int 1))) (aCons (eOp hAdd (eOpS hIx (eVar 3) (eC (.int 0))) (eC (.int 1))) aNil))))), ((eC (.str ("stays" : Str))), (eF (fLst (aCons (eVar 1) (aCons (eOp hSub (eVar 1) (eC (.int 1))) aNil)))))])) (eVar 0)) [some (.str ("stays" : Str)), some (.int n), some (.tup [.int k]), some (.tup [.int j]), none, none, none, none, none, none, none, none] [.lst [.int a, .int b]] = some (.lst [.int (n), .int (n - 1)], [.lst [.int a, .int b]]) := by kernel_rfl
  rw [v_seq (v_ifFp (by kernel_rfl)) (v_seq (v_set hx) rfl)]
  by_cases e : k = j
  · rw [if_pos e, v_seqR (v_ifT (v_tst (v_var rfl) (v_var rfl) (by rw [eq1, decide_eq_true e])) (v_ret (v_T2 v_c (v_opS (v_var rfl) v_c rfl))))]
  · rw [if_neg e, v_seq (v_ifFp (v_tst (v_var rfl) (v_var rfl) (by rw [eq1, decide_eq_false e]))) (v_ret (v_T2 v_c (v_op (v_opS (v_var rfl) v_c rfl) (v_opS (v_var rfl) v_c rfl) m2)))]
theorem one_rounds2 (p q a b n k : Int) : m_one_share [.str ("rounds" : Str), .int n, .tup [.int k]] [.lst [.int p, .int q], .lst [.int a, .int b]] = some (.tup [.int 1, .int (n - k)], [.lst [.int p, .int q], .lst [.int a, .int b]]) := by kernel_rfl
theorem times_rounds2 (p q a b u v : Int) (hu : 1 ≤ u) (hu2 : u < 2 ^ 20) (hv : 1 ≤ v) (hv2 : v < 2 ^ 20) (h : 1 ≤ u * v) (h2 : u * v < 2 ^ 60) : m_times [.tup [.int 1, .int u], .tup [.int 1, .int v]] [.lst [.int p, .int q], .lst [.int a, .int b]] = some (.tup [.int 1, .int (u * v)], [.lst [.int p, .int q], .lst [.int a, .int b]]) := by
  have m1 : hMulI (.int 1) (.int 1) = some (.int 1) := by kernel_rfl
  have m2 := mulI_lg (i := u) (j := v) (log2_lt (n := 20) (by decide) (by omega)) (log2_lt (n := 20) (by decide) (by omega)) (by decide)
  unfold m_times
  refine runA_of (S1 := [.lst [.int p, .int q], .lst [.int a, .int b]]) (d1 := .tup [.int 1, .int (u * v)]) ?_ (finAb_ok rfl)
  show (match (sRet _ [some (.tup [.int 1, .int u]), some (.tup [.int 1, .int v])] [.lst [.int p, .int q], .lst [.int a, .int b]]) with | some (.rt d, S1) => some (d, S1) | some (.nx _, S1) => some (.non, S1) | _ => none) = _
  rw [v_ret (v_call2 (v_op (v_opS (v_var rfl) v_c rfl) (v_opS (v_var rfl) v_c rfl) m1) (v_op (v_opS (v_var rfl) v_c rfl) (v_opS (v_var rfl) v_c rfl) m2) (lowest1 _ rfl _ h h2))]
theorem both_rounds2 (p q a b n k j : Int) (hn : 2 ≤ n) (hn2 : n ≤ 60) (hk : 0 ≤ k ∧ k < n) (hj : 0 ≤ j ∧ j < n) : m_both_share [.str ("rounds" : Str), .int n, .tup [.int k], .tup [.int j]] [.lst [.int p, .int q], .lst [.int a, .int b]] = some (.tup [.int 1, .int (if k = j then n - k else (n - k) * (n - j))], [.lst [.int p, .int q], .lst [.int a, .int b]]) := by
  have hu : 1 ≤ n - k ∧ n - k < 100 := by omega
  have hv : 1 ≤ n - j ∧ n - j < 100 := by omega
  have hp : 1 ≤ (n - k) * (n - j) ∧ (n - k) * (n - j) < 2 ^ 60 := by
    have h1 := Int.mul_le_mul hu.1 hv.1 (by decide) (by omega)
    have h2 := Int.mul_le_mul (Int.le_of_lt hu.2) (Int.le_of_lt hv.2) (by omega) (by decide)
    omega
  unfold m_both_share
  refine runA_of (S1 := [.lst [.int p, .int q], .lst [.int a, .int b]]) (d1 := .tup [.int 1, .int (if k = j then n - k else (n - k) * (n - j))]) ?_ (finAb_ok rfl)
  show (match (sSeq _ _ [some (.str ("rounds" : Str)), some (.int n), some (.tup [.int k]), some (.tup [.int j])] [.lst [.int p, .int q], .lst [.int a, .int b]]) with | some (.rt d, S1) => some (d, S1) | some (.nx _, S1) => some (.non, S1) | _ => none) = _
  by_cases e : k = j
  · rw [if_pos e, v_seqR (v_ifT (v_tst (v_var rfl) (v_var rfl) (by rw [eq1, decide_eq_true e])) (v_ret (v_call3 (v_var rfl) (v_var rfl) (v_var rfl) (one_rounds2 p q a b n k))))]
  · rw [if_neg e, v_seq (v_ifFp (v_tst (v_var rfl) (v_var rfl) (by rw [eq1, decide_eq_false e]))) (v_seq (v_ifFp (v_tst (v_var rfl) v_c (by kernel_rfl))) (v_seq (v_ifFp (v_tst (v_var rfl) v_c (by kernel_rfl))) (v_seq (v_ifFp (v_tst (v_var rfl) v_c (by kernel_rfl))) (v_ret (v_call2 (v_call3 (v_var rfl) (v_var rfl) (v_var rfl) (one_rounds2 p q a b n k)) (v_call3 (v_var rfl) (v_var rfl) (v_var rfl) (one_rounds2 p q a b n j)) (times_rounds2 p q a b _ _ hu.1 (by omega) hv.1 (by omega) hp.1 hp.2))))))]
theorem far_rounds2 (p q a b n k j : Int) (hn : 2 ≤ n) (hn2 : n ≤ 60) (hk : 0 ≤ k ∧ k < n) (hj : 0 ≤ j ∧ j < n) : m__law_far_due [.str ("rounds" : Str), .int n, .tup [.int k], .tup [.int j]] [.lst [.int p, .int q], .lst [.int a, .int b]] = some (.tup [.int 1, .int (if k = j then n - k else (n - k) * (n - j))], [.lst [.int p, .int q], .lst [.int a, .int b]]) := by
  have hu : 1 ≤ n - k ∧ n - k < 100 := by omega
  have hv : 1 ≤ n - j ∧ n - j < 100 := by omega
  have m2 := mulI_lg (i := n - k) (j := n - j) (log2_lt (n := 20) (by decide) (by omega)) (log2_lt (n := 20) (by decide) (by omega)) (by decide)
  unfold m__law_far_due
  refine runA_of (S1 := [.lst [.int p, .int q], .lst [.int a, .int b]]) (d1 := .tup [.int 1, .int (if k = j then n - k else (n - k) * (n - j))]) ?_ (finAb_ok rfl)
  show (match (sSeq _ _ [some (.str ("rounds" : Str)), some (.int n), some (.tup [.int k]), some (.tup [.int j]), none, none, none, none, none, none, none, none] [.lst [.int p, .int q], .lst [.int a, .int b]]) with | some (.rt d, S1) => some (d, S1) | some (.nx _, S1) => some (.non, S1) | _ => none) = _
  have hx : (eOpS hDix (eN (nDisp [((eC (.str ("rounds" : Str))), (eF (fLst (aCons (eOp hSub (eVar 1) (eOpS hIx (eVar 2) (eC (.int 0)))) (aCons (eOp hSub (eVar 1) (eOpS hIx (eVar 3) (eC (.int 0)))) aNil))))), ((eC (.str ("highs" : Str))), (eF (fLst (aCons (eOp hAdd (eOpS hIx (eVar 2) (eC (.int 0))) (eC (.int 1))) (aCons (eOp hAdd (eOpS hIx (eVar 3) (eC (.int 0))) (eC (.int 1))) aNil))))), ((eC (.str ("stays" : Str))), (eF (fLst (aCons (eVar 1) (aCons (eOp hSub (eVar 1) (eC (.int 1))) aNil)))))])) (eVar 0)) [some (.str ("rounds" : Str)), some (.int n), some (.tup [.int k]), some (.tup [.int j]), none, none, none, none, none, none, none, none] [.lst [.int p, .int q], .lst [.int a, .int b]] = some (.lst [.int (n - k), .int (n - j)], [.lst [.int p, .int q], .lst [.int a, .int b]]) := by kernel_rfl
  rw [v_seq (v_ifFp (by kernel_rfl)) (v_seq (v_set hx) rfl)]
  by_cases e : k = j
  · rw [if_pos e, v_seqR (v_ifT (v_tst (v_var rfl) (v_var rfl) (by rw [eq1, decide_eq_true e])) (v_ret (v_T2 v_c (v_opS (v_var rfl) v_c rfl))))]
  · rw [if_neg e, v_seq (v_ifFp (v_tst (v_var rfl) (v_var rfl) (by rw [eq1, decide_eq_false e]))) (v_ret (v_T2 v_c (v_op (v_opS (v_var rfl) v_c rfl) (v_opS (v_var rfl) v_c rfl) m2)))]
theorem one_highs2 (p q a b n k : Int) : m_one_share [.str ("highs" : Str), .int n, .tup [.int k]] [.lst [.int p, .int q], .lst [.int a, .int b]] = some (.tup [.int 1, .int (k + 1)], [.lst [.int p, .int q], .lst [.int a, .int b]]) := by kernel_rfl
theorem times_highs2 (p q a b u v : Int) (hu : 1 ≤ u) (hu2 : u < 2 ^ 20) (hv : 1 ≤ v) (hv2 : v < 2 ^ 20) (h : 1 ≤ u * v) (h2 : u * v < 2 ^ 60) : m_times [.tup [.int 1, .int u], .tup [.int 1, .int v]] [.lst [.int p, .int q], .lst [.int a, .int b]] = some (.tup [.int 1, .int (u * v)], [.lst [.int p, .int q], .lst [.int a, .int b]]) := by
  have m1 : hMulI (.int 1) (.int 1) = some (.int 1) := by kernel_rfl
  have m2 := mulI_lg (i := u) (j := v) (log2_lt (n := 20) (by decide) (by omega)) (log2_lt (n := 20) (by decide) (by omega)) (by decide)
  unfold m_times
  refine runA_of (S1 := [.lst [.int p, .int q], .lst [.int a, .int b]]) (d1 := .tup [.int 1, .int (u * v)]) ?_ (finAb_ok rfl)
  show (match (sRet _ [some (.tup [.int 1, .int u]), some (.tup [.int 1, .int v])] [.lst [.int p, .int q], .lst [.int a, .int b]]) with | some (.rt d, S1) => some (d, S1) | some (.nx _, S1) => some (.non, S1) | _ => none) = _
  rw [v_ret (v_call2 (v_op (v_opS (v_var rfl) v_c rfl) (v_opS (v_var rfl) v_c rfl) m1) (v_op (v_opS (v_var rfl) v_c rfl) (v_opS (v_var rfl) v_c rfl) m2) (lowest1 _ rfl _ h h2))]
theorem both_highs2 (p q a b n k j : Int) (hn : 2 ≤ n) (hn2 : n ≤ 60) (hk : 0 ≤ k ∧ k < n) (hj : 0 ≤ j ∧ j < n) : m_both_share [.str ("highs" : Str), .int n, .tup [.int k], .tup [.int j]] [.lst [.int p, .int q], .lst [.int a, .int b]] = some (.tup [.int 1, .int (if k = j then k + 1 else (k + 1) * (j + 1))], [.lst [.int p, .int q], .lst [.int a, .int b]]) := by
  have hu : 1 ≤ k + 1 ∧ k + 1 < 100 := by omega
  have hv : 1 ≤ j + 1 ∧ j + 1 < 100 := by omega
  have hp : 1 ≤ (k + 1) * (j + 1) ∧ (k + 1) * (j + 1) < 2 ^ 60 := by
    have h1 := Int.mul_le_mul hu.1 hv.1 (by decide) (by omega)
    have h2 := Int.mul_le_mul (Int.le_of_lt hu.2) (Int.le_of_lt hv.2) (by omega) (by decide)
    omega
  unfold m_both_share
  refine runA_of (S1 := [.lst [.int p, .int q], .lst [.int a, .int b]]) (d1 := .tup [.int 1, .int (if k = j then k + 1 else (k + 1) * (j + 1))]) ?_ (finAb_ok rfl)
  show (match (sSeq _ _ [some (.str ("highs" : Str)), some (.int n), some (.tup [.int k]), some (.tup [.int j])] [.lst [.int p, .int q], .lst [.int a, .int b]]) with | some (.rt d, S1) => some (d, S1) | some (.nx _, S1) => some (.non, S1) | _ => none) = _
  by_cases e : k = j
  · rw [if_pos e, v_seqR (v_ifT (v_tst (v_var rfl) (v_var rfl) (by rw [eq1, decide_eq_true e])) (v_ret (v_call3 (v_var rfl) (v_var rfl) (v_var rfl) (one_highs2 p q a b n k))))]
  · rw [if_neg e, v_seq (v_ifFp (v_tst (v_var rfl) (v_var rfl) (by rw [eq1, decide_eq_false e]))) (v_seq (v_ifFp (v_tst (v_var rfl) v_c (by kernel_rfl))) (v_seq (v_ifFp (v_tst (v_var rfl) v_c (by kernel_rfl))) (v_seq (v_ifFp (v_tst (v_var rfl) v_c (by kernel_rfl))) (v_ret (v_call2 (v_call3 (v_var rfl) (v_var rfl) (v_var rfl) (one_highs2 p q a b n k)) (v_call3 (v_var rfl) (v_var rfl) (v_var rfl) (one_highs2 p q a b n j)) (times_highs2 p q a b _ _ hu.1 (by omega) hv.1 (by omega) hp.1 hp.2))))))]
theorem far_highs2 (p q a b n k j : Int) (hn : 2 ≤ n) (hn2 : n ≤ 60) (hk : 0 ≤ k ∧ k < n) (hj : 0 ≤ j ∧ j < n) : m__law_far_due [.str ("highs" : Str), .int n, .tup [.int k], .tup [.int j]] [.lst [.int p, .int q], .lst [.int a, .int b]] = some (.tup [.int 1, .int (if k = j then k + 1 else (k + 1) * (j + 1))], [.lst [.int p, .int q], .lst [.int a, .int b]]) := by
  have hu : 1 ≤ k + 1 ∧ k + 1 < 100 := by omega
  have hv : 1 ≤ j + 1 ∧ j + 1 < 100 := by omega
  have m2 := mulI_lg (i := k + 1) (j := j + 1) (log2_lt (n := 20) (by decide) (by omega)) (log2_lt (n := 20) (by decide) (by omega)) (by decide)
  unfold m__law_far_due
  refine runA_of (S1 := [.lst [.int p, .int q], .lst [.int a, .int b]]) (d1 := .tup [.int 1, .int (if k = j then k + 1 else (k + 1) * (j + 1))]) ?_ (finAb_ok rfl)
  show (match (sSeq _ _ [some (.str ("highs" : Str)), some (.int n), some (.tup [.int k]), some (.tup [.int j]), none, none, none, none, none, none, none, none] [.lst [.int p, .int q], .lst [.int a, .int b]]) with | some (.rt d, S1) => some (d, S1) | some (.nx _, S1) => some (.non, S1) | _ => none) = _
  have hx : (eOpS hDix (eN (nDisp [((eC (.str ("rounds" : Str))), (eF (fLst (aCons (eOp hSub (eVar 1) (eOpS hIx (eVar 2) (eC (.int 0)))) (aCons (eOp hSub (eVar 1) (eOpS hIx (eVar 3) (eC (.int 0)))) aNil))))), ((eC (.str ("highs" : Str))), (eF (fLst (aCons (eOp hAdd (eOpS hIx (eVar 2) (eC (.int 0))) (eC (.int 1))) (aCons (eOp hAdd (eOpS hIx (eVar 3) (eC (.int 0))) (eC (.int 1))) aNil))))), ((eC (.str ("stays" : Str))), (eF (fLst (aCons (eVar 1) (aCons (eOp hSub (eVar 1) (eC (.int 1))) aNil)))))])) (eVar 0)) [some (.str ("highs" : Str)), some (.int n), some (.tup [.int k]), some (.tup [.int j]), none, none, none, none, none, none, none, none] [.lst [.int p, .int q], .lst [.int a, .int b]] = some (.lst [.int (k + 1), .int (j + 1)], [.lst [.int p, .int q], .lst [.int a, .int b]]) := by kernel_rfl
  rw [v_seq (v_ifFp (by kernel_rfl)) (v_seq (v_set hx) rfl)]
  by_cases e : k = j
  · rw [if_pos e, v_seqR (v_ifT (v_tst (v_var rfl) (v_var rfl) (by rw [eq1, decide_eq_true e])) (v_ret (v_T2 v_c (v_opS (v_var rfl) v_c rfl))))]
  · rw [if_neg e, v_seq (v_ifFp (v_tst (v_var rfl) (v_var rfl) (by rw [eq1, decide_eq_false e]))) (v_ret (v_T2 v_c (v_op (v_opS (v_var rfl) v_c rfl) (v_opS (v_var rfl) v_c rfl) m2)))]
theorem one_stays2 (p q a b n k : Int) : m_one_share [.str ("stays" : Str), .int n, .tup [.int k]] [.lst [.int p, .int q], .lst [.int a, .int b]] = some (.tup [.int 1, .int (n)], [.lst [.int p, .int q], .lst [.int a, .int b]]) := by kernel_rfl
theorem both_stays2 (p q a b n k j : Int) (hn : 2 ≤ n) (hn2 : n ≤ 60) (hk : 0 ≤ k ∧ k < n) (hj : 0 ≤ j ∧ j < n) : m_both_share [.str ("stays" : Str), .int n, .tup [.int k], .tup [.int j]] [.lst [.int p, .int q], .lst [.int a, .int b]] = some (.tup [.int 1, .int (if k = j then n else n * (n - 1))], [.lst [.int p, .int q], .lst [.int a, .int b]]) := by
  have hu : 1 ≤ n ∧ n < 100 := by omega
  have hv : 1 ≤ n - 1 ∧ n - 1 < 100 := by omega
  have hp : 1 ≤ (n) * (n - 1) ∧ (n) * (n - 1) < 2 ^ 60 := by
    have h1 := Int.mul_le_mul hu.1 hv.1 (by decide) (by omega)
    have h2 := Int.mul_le_mul (Int.le_of_lt hu.2) (Int.le_of_lt hv.2) (by omega) (by decide)
    omega
  have m2 := mulI_lg (i := n) (j := n - 1) (log2_lt (n := 20) (by decide) (by omega)) (log2_lt (n := 20) (by decide) (by omega)) (by decide)
  unfold m_both_share
  refine runA_of (S1 := [.lst [.int p, .int q], .lst [.int a, .int b]]) (d1 := .tup [.int 1, .int (if k = j then n else n * (n - 1))]) ?_ (finAb_ok rfl)
  show (match (sSeq _ _ [some (.str ("stays" : Str)), some (.int n), some (.tup [.int k]), some (.tup [.int j])] [.lst [.int p, .int q], .lst [.int a, .int b]]) with | some (.rt d, S1) => some (d, S1) | some (.nx _, S1) => some (.non, S1) | _ => none) = _
  by_cases e : k = j
  · rw [if_pos e, v_seqR (v_ifT (v_tst (v_var rfl) (v_var rfl) (by rw [eq1, decide_eq_true e])) (v_ret (v_call3 (v_var rfl) (v_var rfl) (v_var rfl) (one_stays2 p q a b n k))))]
  · rw [if_neg e, v_seq (v_ifFp (v_tst (v_var rfl) (v_var rfl) (by rw [eq1, decide_eq_false e]))) (v_seqR (v_ifT (v_tst (v_var rfl) v_c (by kernel_rfl)) (v_ret (v_call2 v_c (v_op (v_var rfl) (v_op (v_var rfl) v_c subI_of) m2) (lowest1 _ rfl _ hp.1 hp.2)))))]
theorem far_stays2 (p q a b n k j : Int) (hn : 2 ≤ n) (hn2 : n ≤ 60) (hk : 0 ≤ k ∧ k < n) (hj : 0 ≤ j ∧ j < n) : m__law_far_due [.str ("stays" : Str), .int n, .tup [.int k], .tup [.int j]] [.lst [.int p, .int q], .lst [.int a, .int b]] = some (.tup [.int 1, .int (if k = j then n else n * (n - 1))], [.lst [.int p, .int q], .lst [.int a, .int b]]) := by
  have hu : 1 ≤ n ∧ n < 100 := by omega
  have hv : 1 ≤ n - 1 ∧ n - 1 < 100 := by omega
  have m2 := mulI_lg (i := n) (j := n - 1) (log2_lt (n := 20) (by decide) (by omega)) (log2_lt (n := 20) (by decide) (by omega)) (by decide)
  unfold m__law_far_due
  refine runA_of (S1 := [.lst [.int p, .int q], .lst [.int a, .int b]]) (d1 := .tup [.int 1, .int (if k = j then n else n * (n - 1))]) ?_ (finAb_ok rfl)
  show (match (sSeq _ _ [some (.str ("stays" : Str)), some (.int n), some (.tup [.int k]), some (.tup [.int j]), none, none, none, none, none, none, none, none] [.lst [.int p, .int q], .lst [.int a, .int b]]) with | some (.rt d, S1) => some (d, S1) | some (.nx _, S1) => some (.non, S1) | _ => none) = _
  have hx : (eOpS hDix (eN (nDisp [((eC (.str ("rounds" : Str))), (eF (fLst (aCons (eOp hSub (eVar 1) (eOpS hIx (eVar 2) (eC (.int 0)))) (aCons (eOp hSub (eVar 1) (eOpS hIx (eVar 3) (eC (.int 0)))) aNil))))), ((eC (.str ("highs" : Str))), (eF (fLst (aCons (eOp hAdd (eOpS hIx (eVar 2) (eC (.int 0))) (eC (.int 1))) (aCons (eOp hAdd (eOpS hIx (eVar 3) (eC (.int 0))) (eC (.int 1))) aNil))))), ((eC (.str ("stays" : Str))), (eF (fLst (aCons (eVar 1) (aCons (eOp hSub (eVar 1) (eC (.int 1))) aNil)))))])) (eVar 0)) [some (.str ("stays" : Str)), some (.int n), some (.tup [.int k]), some (.tup [.int j]), none, none, none, none, none, none, none, none] [.lst [.int p, .int q], .lst [.int a, .int b]] = some (.lst [.int (n), .int (n - 1)], [.lst [.int p, .int q], .lst [.int a, .int b]]) := by kernel_rfl
  rw [v_seq (v_ifFp (by kernel_rfl)) (v_seq (v_set hx) rfl)]
  by_cases e : k = j
  · rw [if_pos e, v_seqR (v_ifT (v_tst (v_var rfl) (v_var rfl) (by rw [eq1, decide_eq_true e])) (v_ret (v_T2 v_c (v_opS (v_var rfl) v_c rfl))))]
  · rw [if_neg e, v_seq (v_ifFp (v_tst (v_var rfl) (v_var rfl) (by rw [eq1, decide_eq_false e]))) (v_ret (v_T2 v_c (v_op (v_opS (v_var rfl) v_c rfl) (v_opS (v_var rfl) v_c rfl) m2)))]
abbrev TAIL : Sv := sRet (eTup (aCons (eCall kLen (aCons (eVar 3) aNil)) (aCons (eCall kTup (aCons (eF (fLc [4] (iSq (eVar 1)) (gNm 4) tYe (eMe "list" hIdx (eVar 3) (aCons (eVar 4) aNil)))) aNil)) (aCons (eCall kTup (aCons (eF (fLc [4] (iSq (eVar 2)) (gNm 4) tYe (eMe "list" hIdx (eVar 3) (aCons (eVar 4) aNil)))) aNil)) aNil))))
theorem few1 (z : D) (ts : List D) (k j a c : Int) (S : Sto) (i1 : hIdx (.lst ts) [.int k] S = some (.int a, S)) (i2 : hIdx (.lst ts) [.int j] S = some (.int c, S)) :
    TAIL [some z, some (.tup [.int k]), some (.tup [.int j]), some (.lst ts), none] S = some (.rt (.tup [.int ts.length, .tup [.int a], .tup [.int c]]), S) := by
  simp [TAIL, sRet, eTup, aCons, aNil, eCall, eVar, kLen, seqOf, Tr.kTup, eF, fLc, iSq, srcOf, lcGo, wipeE, gNm, tYe, eMe, isTy, i1, i2]
theorem few2 (z : D) (ts : List D) (k k2 j j2 a a2 c c2 : Int) (S : Sto) (i1 : hIdx (.lst ts) [.int k] S = some (.int a, S)) (i2 : hIdx (.lst ts) [.int k2] S = some (.int a2, S)) (i3 : hIdx (.lst ts) [.int j] S = some (.int c, S)) (i4 : hIdx (.lst ts) [.int j2] S = some (.int c2, S)) :
    TAIL [some z, some (.tup [.int k, .int k2]), some (.tup [.int j, .int j2]), some (.lst ts), none] S = some (.rt (.tup [.int ts.length, .tup [.int a, .int a2], .tup [.int c, .int c2]]), S) := by
  simp [TAIL, sRet, eTup, aCons, aNil, eCall, eVar, kLen, seqOf, Tr.kTup, eF, fLc, iSq, srcOf, lcGo, wipeE, gNm, tYe, eMe, isTy, i1, i2, i3, i4]
theorem idx_int (S : Sto) (k : Int) : ∀ ts : List Int, hIdx (.lst (ts.map D.int)) [.int k] S = (ixOf (V.int k) (ts.map V.int)).map fun j => (.int (j : Nat), S) := by
  intro ts
  have : ∀ ts : List Int, scL (ts.map D.int) = some (ts.map V.int) := fun ts => by
    induction ts with
    | nil => rfl
    | cons x xs ih => simp only [List.map_cons, scL, scV, ih]
  simp only [hIdx, lstOf, scV, this]
theorem eqVi (i j : Int) : eqV (V.int i) (V.int j) = decide (i = j) := by
  by_cases h : i = j
  · subst h; simp [eqV]
  · simp [eqV, h]
def ixI (y : Int) : List Int → Option Nat
  | [] => none
  | z :: zs => if z = y then some 0 else (ixI y zs).map (· + 1)
theorem ix_ixI (y : Int) : ∀ ts : List Int, ixOf (V.int y) (ts.map V.int) = ixI y ts
  | [] => rfl
  | z :: zs => by
    simp only [List.map_cons, ixOf, ixI, eqVi, ix_ixI y zs, decide_eq_true_eq]
theorem idxI {S : Sto} {k : Int} {ts : List Int} {j : Nat} (h : ixI k ts = some j) : hIdx (.lst (ts.map D.int)) [.int k] S = some (.int j, S) := by
  rw [idx_int, ix_ixI, h]
  rfl
theorem fewR1 (a b k j : Int) (ts : List Int) (hT : srtU [k, k + 1, j, j + 1] = ts) (x y : Nat) (h1 : ixI k ts = some x) (h2 : ixI j ts = some y) : m__law_few [.str ("rises" : Str), .tup [.int k], .tup [.int j]] [.lst [.int a, .int b]] = some (.tup [.int ts.length, .tup [.int x], .tup [.int y]], [.lst [.int a, .int b]]) := by
  subst hT
  unfold m__law_few
  refine runA_of (S1 := [.lst [.int a, .int b]]) (d1 := .tup [.int (List.length _), .tup [.int x], .tup [.int y]]) ?_ (finAb_ok rfl)
  show (match (sSeq _ _ [some (.str ("rises" : Str)), some (.tup [.int k]), some (.tup [.int j]), none, none] [.lst [.int a, .int b]]) with | some (.rt d, S1) => some (d, S1) | some (.nx _, S1) => some (.non, S1) | _ => none) = _
  have r := few1 (.str ("rises" : Str)) ((srtU [k, k + 1, j, j + 1]).map D.int) k j x y [.lst [.int a, .int b]] (idxI h1) (idxI h2)
  rw [List.length_map] at r
  rw [v_seq (e1 := [some (.str ("rises" : Str)), some (.tup [.int k]), some (.tup [.int j]), some (.lst ((srtU [k, j]).map D.int)), none]) (S1 := [.lst [.int a, .int b]]) (by kernel_rfl) (v_seq (e1 := [some (.str ("rises" : Str)), some (.tup [.int k]), some (.tup [.int j]), some (.lst ((srtU [k, k + 1, j, j + 1]).map D.int)), none]) (S1 := [.lst [.int a, .int b]]) (by kernel_rfl) r)]
theorem fewC1 (a b k k2 j j2 : Int) (ts : List Int) (hT : srtU [k, k2, j, j2] = ts) (x x2 y y2 : Nat) (h1 : ixI k ts = some x) (h2 : ixI k2 ts = some x2) (h3 : ixI j ts = some y) (h4 : ixI j2 ts = some y2) : m__law_few [.str ("crossed" : Str), .tup [.int k, .int k2], .tup [.int j, .int j2]] [.lst [.int a, .int b]] = some (.tup [.int ts.length, .tup [.int x, .int x2], .tup [.int y, .int y2]], [.lst [.int a, .int b]]) := by
  subst hT
  unfold m__law_few
  refine runA_of (S1 := [.lst [.int a, .int b]]) (d1 := .tup [.int (List.length _), .tup [.int x, .int x2], .tup [.int y, .int y2]]) ?_ (finAb_ok rfl)
  show (match (sSeq _ _ [some (.str ("crossed" : Str)), some (.tup [.int k, .int k2]), some (.tup [.int j, .int j2]), none, none] [.lst [.int a, .int b]]) with | some (.rt d, S1) => some (d, S1) | some (.nx _, S1) => some (.non, S1) | _ => none) = _
  have r := few2 (.str ("crossed" : Str)) ((srtU [k, k2, j, j2]).map D.int) k k2 j j2 x x2 y y2 [.lst [.int a, .int b]] (idxI h1) (idxI h2) (idxI h3) (idxI h4)
  rw [List.length_map] at r
  rw [v_seq (e1 := [some (.str ("crossed" : Str)), some (.tup [.int k, .int k2]), some (.tup [.int j, .int j2]), some (.lst ((srtU [k, k2, j, j2]).map D.int)), none]) (S1 := [.lst [.int a, .int b]]) (by kernel_rfl) (v_seq (e1 := [some (.str ("crossed" : Str)), some (.tup [.int k, .int k2]), some (.tup [.int j, .int j2]), some (.lst ((srtU [k, k2, j, j2]).map D.int)), none]) (S1 := [.lst [.int a, .int b]]) (by kernel_rfl) r)]
theorem farR_200_1 (a b n : Int) (one other : D) (hf : m__law_few [.str ("rises" : Str), one, other] [.lst [.int a, .int b]] = some (.tup [.int 2, .tup [.int 0], .tup [.int 0]], [.lst [.int a, .int b]])) : m__law_far_due [.str ("rises" : Str), .int n, one, other] [.lst [.int a, .int b]] = some (.tup [.int 1, .int 2], [.lst [.int a, .int b]]) := by
  unfold m__law_far_due
  refine runA_of (S1 := [.lst [.int a, .int b]]) (d1 := .tup [.int 1, .int 2]) ?_ (finAb_ok rfl)
  show (match (sSeq _ _ [some (.str ("rises" : Str)), some (.int n), some one, some other, none, none, none, none, none, none, none, none] [.lst [.int a, .int b]]) with | some (.rt d, S1) => some (d, S1) | some (.nx _, S1) => some (.non, S1) | _ => none) = _
  rw [v_seqR (x := .tup [.int 1, .int 2]) (S1 := [.lst [.int a, .int b]]) (v_ifT (S1 := [.lst [.int a, .int b]]) (by kernel_rfl) (v_seq (e1 := [some (.str ("rises" : Str)), some (.int n), some one, some other, some (.int 2), some (.tup [.int 0]), some (.tup [.int 0]), none, none, none, none, none]) (S1 := [.lst [.int a, .int b]]) (v_asg3 (v_call3 (v_var rfl) (v_var rfl) (v_var rfl) hf)) (by kernel_rfl)))]
theorem farR_301_1 (a b n : Int) (one other : D) (hf : m__law_few [.str ("rises" : Str), one, other] [.lst [.int a, .int b]] = some (.tup [.int 3, .tup [.int 0], .tup [.int 1]], [.lst [.int a, .int b]])) : m__law_far_due [.str ("rises" : Str), .int n, one, other] [.lst [.int a, .int b]] = some (.tup [.int 1, .int 6], [.lst [.int a, .int b]]) := by
  unfold m__law_far_due
  refine runA_of (S1 := [.lst [.int a, .int b]]) (d1 := .tup [.int 1, .int 6]) ?_ (finAb_ok rfl)
  show (match (sSeq _ _ [some (.str ("rises" : Str)), some (.int n), some one, some other, none, none, none, none, none, none, none, none] [.lst [.int a, .int b]]) with | some (.rt d, S1) => some (d, S1) | some (.nx _, S1) => some (.non, S1) | _ => none) = _
  rw [v_seqR (x := .tup [.int 1, .int 6]) (S1 := [.lst [.int a, .int b]]) (v_ifT (S1 := [.lst [.int a, .int b]]) (by kernel_rfl) (v_seq (e1 := [some (.str ("rises" : Str)), some (.int n), some one, some other, some (.int 3), some (.tup [.int 0]), some (.tup [.int 1]), none, none, none, none, none]) (S1 := [.lst [.int a, .int b]]) (v_asg3 (v_call3 (v_var rfl) (v_var rfl) (v_var rfl) hf)) (by kernel_rfl)))]
theorem farR_310_1 (a b n : Int) (one other : D) (hf : m__law_few [.str ("rises" : Str), one, other] [.lst [.int a, .int b]] = some (.tup [.int 3, .tup [.int 1], .tup [.int 0]], [.lst [.int a, .int b]])) : m__law_far_due [.str ("rises" : Str), .int n, one, other] [.lst [.int a, .int b]] = some (.tup [.int 1, .int 6], [.lst [.int a, .int b]]) := by
  unfold m__law_far_due
  refine runA_of (S1 := [.lst [.int a, .int b]]) (d1 := .tup [.int 1, .int 6]) ?_ (finAb_ok rfl)
  show (match (sSeq _ _ [some (.str ("rises" : Str)), some (.int n), some one, some other, none, none, none, none, none, none, none, none] [.lst [.int a, .int b]]) with | some (.rt d, S1) => some (d, S1) | some (.nx _, S1) => some (.non, S1) | _ => none) = _
  rw [v_seqR (x := .tup [.int 1, .int 6]) (S1 := [.lst [.int a, .int b]]) (v_ifT (S1 := [.lst [.int a, .int b]]) (by kernel_rfl) (v_seq (e1 := [some (.str ("rises" : Str)), some (.int n), some one, some other, some (.int 3), some (.tup [.int 1]), some (.tup [.int 0]), none, none, none, none, none]) (S1 := [.lst [.int a, .int b]]) (v_asg3 (v_call3 (v_var rfl) (v_var rfl) (v_var rfl) hf)) (by kernel_rfl)))]
theorem farR_402_1 (a b n : Int) (one other : D) (hf : m__law_few [.str ("rises" : Str), one, other] [.lst [.int a, .int b]] = some (.tup [.int 4, .tup [.int 0], .tup [.int 2]], [.lst [.int a, .int b]])) : m__law_far_due [.str ("rises" : Str), .int n, one, other] [.lst [.int a, .int b]] = some (.tup [.int 1, .int 4], [.lst [.int a, .int b]]) := by
  unfold m__law_far_due
  refine runA_of (S1 := [.lst [.int a, .int b]]) (d1 := .tup [.int 1, .int 4]) ?_ (finAb_ok rfl)
  show (match (sSeq _ _ [some (.str ("rises" : Str)), some (.int n), some one, some other, none, none, none, none, none, none, none, none] [.lst [.int a, .int b]]) with | some (.rt d, S1) => some (d, S1) | some (.nx _, S1) => some (.non, S1) | _ => none) = _
  rw [v_seqR (x := .tup [.int 1, .int 4]) (S1 := [.lst [.int a, .int b]]) (v_ifT (S1 := [.lst [.int a, .int b]]) (by kernel_rfl) (v_seq (e1 := [some (.str ("rises" : Str)), some (.int n), some one, some other, some (.int 4), some (.tup [.int 0]), some (.tup [.int 2]), none, none, none, none, none]) (S1 := [.lst [.int a, .int b]]) (v_asg3 (v_call3 (v_var rfl) (v_var rfl) (v_var rfl) hf)) (by kernel_rfl)))]
theorem farR_420_1 (a b n : Int) (one other : D) (hf : m__law_few [.str ("rises" : Str), one, other] [.lst [.int a, .int b]] = some (.tup [.int 4, .tup [.int 2], .tup [.int 0]], [.lst [.int a, .int b]])) : m__law_far_due [.str ("rises" : Str), .int n, one, other] [.lst [.int a, .int b]] = some (.tup [.int 1, .int 4], [.lst [.int a, .int b]]) := by
  unfold m__law_far_due
  refine runA_of (S1 := [.lst [.int a, .int b]]) (d1 := .tup [.int 1, .int 4]) ?_ (finAb_ok rfl)
  show (match (sSeq _ _ [some (.str ("rises" : Str)), some (.int n), some one, some other, none, none, none, none, none, none, none, none] [.lst [.int a, .int b]]) with | some (.rt d, S1) => some (d, S1) | some (.nx _, S1) => some (.non, S1) | _ => none) = _
  rw [v_seqR (x := .tup [.int 1, .int 4]) (S1 := [.lst [.int a, .int b]]) (v_ifT (S1 := [.lst [.int a, .int b]]) (by kernel_rfl) (v_seq (e1 := [some (.str ("rises" : Str)), some (.int n), some one, some other, some (.int 4), some (.tup [.int 2]), some (.tup [.int 0]), none, none, none, none, none]) (S1 := [.lst [.int a, .int b]]) (v_asg3 (v_call3 (v_var rfl) (v_var rfl) (v_var rfl) hf)) (by kernel_rfl)))]
theorem fewR2 (p q a b k j : Int) (ts : List Int) (hT : srtU [k, k + 1, j, j + 1] = ts) (x y : Nat) (h1 : ixI k ts = some x) (h2 : ixI j ts = some y) : m__law_few [.str ("rises" : Str), .tup [.int k], .tup [.int j]] [.lst [.int p, .int q], .lst [.int a, .int b]] = some (.tup [.int ts.length, .tup [.int x], .tup [.int y]], [.lst [.int p, .int q], .lst [.int a, .int b]]) := by
  subst hT
  unfold m__law_few
  refine runA_of (S1 := [.lst [.int p, .int q], .lst [.int a, .int b]]) (d1 := .tup [.int (List.length _), .tup [.int x], .tup [.int y]]) ?_ (finAb_ok rfl)
  show (match (sSeq _ _ [some (.str ("rises" : Str)), some (.tup [.int k]), some (.tup [.int j]), none, none] [.lst [.int p, .int q], .lst [.int a, .int b]]) with | some (.rt d, S1) => some (d, S1) | some (.nx _, S1) => some (.non, S1) | _ => none) = _
  have r := few1 (.str ("rises" : Str)) ((srtU [k, k + 1, j, j + 1]).map D.int) k j x y [.lst [.int p, .int q], .lst [.int a, .int b]] (idxI h1) (idxI h2)
  rw [List.length_map] at r
  rw [v_seq (e1 := [some (.str ("rises" : Str)), some (.tup [.int k]), some (.tup [.int j]), some (.lst ((srtU [k, j]).map D.int)), none]) (S1 := [.lst [.int p, .int q], .lst [.int a, .int b]]) (by kernel_rfl) (v_seq (e1 := [some (.str ("rises" : Str)), some (.tup [.int k]), some (.tup [.int j]), some (.lst ((srtU [k, k + 1, j, j + 1]).map D.int)), none]) (S1 := [.lst [.int p, .int q], .lst [.int a, .int b]]) (by kernel_rfl) r)]
theorem fewC2 (p q a b k k2 j j2 : Int) (ts : List Int) (hT : srtU [k, k2, j, j2] = ts) (x x2 y y2 : Nat) (h1 : ixI k ts = some x) (h2 : ixI k2 ts = some x2) (h3 : ixI j ts = some y) (h4 : ixI j2 ts = some y2) : m__law_few [.str ("crossed" : Str), .tup [.int k, .int k2], .tup [.int j, .int j2]] [.lst [.int p, .int q], .lst [.int a, .int b]] = some (.tup [.int ts.length, .tup [.int x, .int x2], .tup [.int y, .int y2]], [.lst [.int p, .int q], .lst [.int a, .int b]]) := by
  subst hT
  unfold m__law_few
  refine runA_of (S1 := [.lst [.int p, .int q], .lst [.int a, .int b]]) (d1 := .tup [.int (List.length _), .tup [.int x, .int x2], .tup [.int y, .int y2]]) ?_ (finAb_ok rfl)
  show (match (sSeq _ _ [some (.str ("crossed" : Str)), some (.tup [.int k, .int k2]), some (.tup [.int j, .int j2]), none, none] [.lst [.int p, .int q], .lst [.int a, .int b]]) with | some (.rt d, S1) => some (d, S1) | some (.nx _, S1) => some (.non, S1) | _ => none) = _
  have r := few2 (.str ("crossed" : Str)) ((srtU [k, k2, j, j2]).map D.int) k k2 j j2 x x2 y y2 [.lst [.int p, .int q], .lst [.int a, .int b]] (idxI h1) (idxI h2) (idxI h3) (idxI h4)
  rw [List.length_map] at r
  rw [v_seq (e1 := [some (.str ("crossed" : Str)), some (.tup [.int k, .int k2]), some (.tup [.int j, .int j2]), some (.lst ((srtU [k, k2, j, j2]).map D.int)), none]) (S1 := [.lst [.int p, .int q], .lst [.int a, .int b]]) (by kernel_rfl) (v_seq (e1 := [some (.str ("crossed" : Str)), some (.tup [.int k, .int k2]), some (.tup [.int j, .int j2]), some (.lst ((srtU [k, k2, j, j2]).map D.int)), none]) (S1 := [.lst [.int p, .int q], .lst [.int a, .int b]]) (by kernel_rfl) r)]
theorem farR_200_2 (p q a b n : Int) (one other : D) (hf : m__law_few [.str ("rises" : Str), one, other] [.lst [.int p, .int q], .lst [.int a, .int b]] = some (.tup [.int 2, .tup [.int 0], .tup [.int 0]], [.lst [.int p, .int q], .lst [.int a, .int b]])) : m__law_far_due [.str ("rises" : Str), .int n, one, other] [.lst [.int p, .int q], .lst [.int a, .int b]] = some (.tup [.int 1, .int 2], [.lst [.int p, .int q], .lst [.int a, .int b]]) := by
  unfold m__law_far_due
  refine runA_of (S1 := [.lst [.int p, .int q], .lst [.int a, .int b]]) (d1 := .tup [.int 1, .int 2]) ?_ (finAb_ok rfl)
  show (match (sSeq _ _ [some (.str ("rises" : Str)), some (.int n), some one, some other, none, none, none, none, none, none, none, none] [.lst [.int p, .int q], .lst [.int a, .int b]]) with | some (.rt d, S1) => some (d, S1) | some (.nx _, S1) => some (.non, S1) | _ => none) = _
  rw [v_seqR (x := .tup [.int 1, .int 2]) (S1 := [.lst [.int p, .int q], .lst [.int a, .int b]]) (v_ifT (S1 := [.lst [.int p, .int q], .lst [.int a, .int b]]) (by kernel_rfl) (v_seq (e1 := [some (.str ("rises" : Str)), some (.int n), some one, some other, some (.int 2), some (.tup [.int 0]), some (.tup [.int 0]), none, none, none, none, none]) (S1 := [.lst [.int p, .int q], .lst [.int a, .int b]]) (v_asg3 (v_call3 (v_var rfl) (v_var rfl) (v_var rfl) hf)) (by kernel_rfl)))]
theorem farR_301_2 (p q a b n : Int) (one other : D) (hf : m__law_few [.str ("rises" : Str), one, other] [.lst [.int p, .int q], .lst [.int a, .int b]] = some (.tup [.int 3, .tup [.int 0], .tup [.int 1]], [.lst [.int p, .int q], .lst [.int a, .int b]])) : m__law_far_due [.str ("rises" : Str), .int n, one, other] [.lst [.int p, .int q], .lst [.int a, .int b]] = some (.tup [.int 1, .int 6], [.lst [.int p, .int q], .lst [.int a, .int b]]) := by
  unfold m__law_far_due
  refine runA_of (S1 := [.lst [.int p, .int q], .lst [.int a, .int b]]) (d1 := .tup [.int 1, .int 6]) ?_ (finAb_ok rfl)
  show (match (sSeq _ _ [some (.str ("rises" : Str)), some (.int n), some one, some other, none, none, none, none, none, none, none, none] [.lst [.int p, .int q], .lst [.int a, .int b]]) with | some (.rt d, S1) => some (d, S1) | some (.nx _, S1) => some (.non, S1) | _ => none) = _
  rw [v_seqR (x := .tup [.int 1, .int 6]) (S1 := [.lst [.int p, .int q], .lst [.int a, .int b]]) (v_ifT (S1 := [.lst [.int p, .int q], .lst [.int a, .int b]]) (by kernel_rfl) (v_seq (e1 := [some (.str ("rises" : Str)), some (.int n), some one, some other, some (.int 3), some (.tup [.int 0]), some (.tup [.int 1]), none, none, none, none, none]) (S1 := [.lst [.int p, .int q], .lst [.int a, .int b]]) (v_asg3 (v_call3 (v_var rfl) (v_var rfl) (v_var rfl) hf)) (by kernel_rfl)))]
theorem farR_310_2 (p q a b n : Int) (one other : D) (hf : m__law_few [.str ("rises" : Str), one, other] [.lst [.int p, .int q], .lst [.int a, .int b]] = some (.tup [.int 3, .tup [.int 1], .tup [.int 0]], [.lst [.int p, .int q], .lst [.int a, .int b]])) : m__law_far_due [.str ("rises" : Str), .int n, one, other] [.lst [.int p, .int q], .lst [.int a, .int b]] = some (.tup [.int 1, .int 6], [.lst [.int p, .int q], .lst [.int a, .int b]]) := by
  unfold m__law_far_due
  refine runA_of (S1 := [.lst [.int p, .int q], .lst [.int a, .int b]]) (d1 := .tup [.int 1, .int 6]) ?_ (finAb_ok rfl)
  show (match (sSeq _ _ [some (.str ("rises" : Str)), some (.int n), some one, some other, none, none, none, none, none, none, none, none] [.lst [.int p, .int q], .lst [.int a, .int b]]) with | some (.rt d, S1) => some (d, S1) | some (.nx _, S1) => some (.non, S1) | _ => none) = _
  rw [v_seqR (x := .tup [.int 1, .int 6]) (S1 := [.lst [.int p, .int q], .lst [.int a, .int b]]) (v_ifT (S1 := [.lst [.int p, .int q], .lst [.int a, .int b]]) (by kernel_rfl) (v_seq (e1 := [some (.str ("rises" : Str)), some (.int n), some one, some other, some (.int 3), some (.tup [.int 1]), some (.tup [.int 0]), none, none, none, none, none]) (S1 := [.lst [.int p, .int q], .lst [.int a, .int b]]) (v_asg3 (v_call3 (v_var rfl) (v_var rfl) (v_var rfl) hf)) (by kernel_rfl)))]
theorem farR_402_2 (p q a b n : Int) (one other : D) (hf : m__law_few [.str ("rises" : Str), one, other] [.lst [.int p, .int q], .lst [.int a, .int b]] = some (.tup [.int 4, .tup [.int 0], .tup [.int 2]], [.lst [.int p, .int q], .lst [.int a, .int b]])) : m__law_far_due [.str ("rises" : Str), .int n, one, other] [.lst [.int p, .int q], .lst [.int a, .int b]] = some (.tup [.int 1, .int 4], [.lst [.int p, .int q], .lst [.int a, .int b]]) := by
  unfold m__law_far_due
  refine runA_of (S1 := [.lst [.int p, .int q], .lst [.int a, .int b]]) (d1 := .tup [.int 1, .int 4]) ?_ (finAb_ok rfl)
  show (match (sSeq _ _ [some (.str ("rises" : Str)), some (.int n), some one, some other, none, none, none, none, none, none, none, none] [.lst [.int p, .int q], .lst [.int a, .int b]]) with | some (.rt d, S1) => some (d, S1) | some (.nx _, S1) => some (.non, S1) | _ => none) = _
  rw [v_seqR (x := .tup [.int 1, .int 4]) (S1 := [.lst [.int p, .int q], .lst [.int a, .int b]]) (v_ifT (S1 := [.lst [.int p, .int q], .lst [.int a, .int b]]) (by kernel_rfl) (v_seq (e1 := [some (.str ("rises" : Str)), some (.int n), some one, some other, some (.int 4), some (.tup [.int 0]), some (.tup [.int 2]), none, none, none, none, none]) (S1 := [.lst [.int p, .int q], .lst [.int a, .int b]]) (v_asg3 (v_call3 (v_var rfl) (v_var rfl) (v_var rfl) hf)) (by kernel_rfl)))]
theorem farR_420_2 (p q a b n : Int) (one other : D) (hf : m__law_few [.str ("rises" : Str), one, other] [.lst [.int p, .int q], .lst [.int a, .int b]] = some (.tup [.int 4, .tup [.int 2], .tup [.int 0]], [.lst [.int p, .int q], .lst [.int a, .int b]])) : m__law_far_due [.str ("rises" : Str), .int n, one, other] [.lst [.int p, .int q], .lst [.int a, .int b]] = some (.tup [.int 1, .int 4], [.lst [.int p, .int q], .lst [.int a, .int b]]) := by
  unfold m__law_far_due
  refine runA_of (S1 := [.lst [.int p, .int q], .lst [.int a, .int b]]) (d1 := .tup [.int 1, .int 4]) ?_ (finAb_ok rfl)
  show (match (sSeq _ _ [some (.str ("rises" : Str)), some (.int n), some one, some other, none, none, none, none, none, none, none, none] [.lst [.int p, .int q], .lst [.int a, .int b]]) with | some (.rt d, S1) => some (d, S1) | some (.nx _, S1) => some (.non, S1) | _ => none) = _
  rw [v_seqR (x := .tup [.int 1, .int 4]) (S1 := [.lst [.int p, .int q], .lst [.int a, .int b]]) (v_ifT (S1 := [.lst [.int p, .int q], .lst [.int a, .int b]]) (by kernel_rfl) (v_seq (e1 := [some (.str ("rises" : Str)), some (.int n), some one, some other, some (.int 4), some (.tup [.int 2]), some (.tup [.int 0]), none, none, none, none, none]) (S1 := [.lst [.int p, .int q], .lst [.int a, .int b]]) (v_asg3 (v_call3 (v_var rfl) (v_var rfl) (v_var rfl) hf)) (by kernel_rfl)))]
theorem insU_nil (x : Int) : insU x [] = [x] := rfl
theorem insU_lt {x y : Int} {ys : List Int} (h : x < y) : insU x (y :: ys) = x :: y :: ys := by
  unfold insU
  rw [if_pos h]
theorem insU_eq {x y : Int} {ys : List Int} (h : x = y) : insU x (y :: ys) = y :: ys := by
  unfold insU
  rw [if_neg (by omega), if_pos h]
theorem insU_gt {x y : Int} {ys : List Int} (h : y < x) : insU x (y :: ys) = y :: insU x ys := by
  rw [insU, if_neg (by omega), if_neg (by omega)]
theorem ixI_pos {y z : Int} {zs : List Int} (h : z = y) : ixI y (z :: zs) = some 0 := by
  unfold ixI
  rw [if_pos h]
theorem ixI_neg {y z : Int} {zs : List Int} (h : z ≠ y) : ixI y (z :: zs) = (ixI y zs).map (· + 1) := by
  rw [ixI, if_neg h]
def rv (k j : Int) : Int := if k = j then 2 else if (if k - j < 0 then -(k - j) else k - j) = 1 then 6 else 4
def cv (k k2 j j2 : Int) : Int := if k = j ∧ k2 = j2 then 2 else if k = j ∨ k2 = j2 then 3 else if k2 = j ∨ k = j2 then 6 else 4
theorem rv_comm (k j : Int) : rv k j = rv j k := by
  unfold rv
  repeat' split
  all_goals omega
theorem cv_comm (k k2 j j2 : Int) : cv k k2 j j2 = cv j j2 k k2 := by
  unfold cv
  repeat' split
  all_goals omega
theorem rises2_1 (a b k j : Int) (h : k ≠ j) : m_both_rises [.tup [.int k], .tup [.int j]] [.lst [.int a, .int b]] = some (.tup [.int 1, .int (rv k j)], [.lst [.int a, .int b]]) := by
  unfold m_both_rises
  have r : rv k j = if (if k - j < 0 then -(k - j) else k - j) = 1 then 6 else 4 := by
    unfold rv
    rw [if_neg h]
  rw [r]
  have ka : kAbs [.int (k - j)] [.lst [.int a, .int b]] = some (.int (if k - j < 0 then -(k - j) else k - j), [.lst [.int a, .int b]]) := rfl
  refine runA_of (S1 := [.lst [.int a, .int b]]) (d1 := .tup [.int 1, .int (if (if k - j < 0 then -(k - j) else k - j) = 1 then 6 else 4)]) ?_ (finAb_ok rfl)
  show (match (sSeq _ _ [some (.tup [.int k]), some (.tup [.int j])] [.lst [.int a, .int b]]) with | some (.rt d, S1) => some (d, S1) | some (.nx _, S1) => some (.non, S1) | _ => none) = _
  by_cases e : (if k - j < 0 then -(k - j) else k - j) = 1
  · rw [if_pos e, v_seqR (v_ifT (v_tst (v_call1 (v_op (v_opS (v_var rfl) v_c rfl) (v_opS (v_var rfl) v_c rfl) subI_of) ka) v_c (by rw [eqi, decide_eq_true e])) (v_ret (v_T2 v_c v_c)))]
  · rw [if_neg e, v_seq (v_ifFp (v_tst (v_call1 (v_op (v_opS (v_var rfl) v_c rfl) (v_opS (v_var rfl) v_c rfl) subI_of) ka) v_c (by rw [eqi, decide_eq_false e]))) (v_ret (v_T2 v_c v_c))]
theorem one_rises1 (a b n k : Int) : m_one_share [.str ("rises" : Str), .int n, .tup [.int k]] [.lst [.int a, .int b]] = some (.tup [.int 1, .int 2], [.lst [.int a, .int b]]) := by kernel_rfl
theorem one_crossed1 (a b n k k2 : Int) : m_one_share [.str ("crossed" : Str), .int n, .tup [.int k, .int k2]] [.lst [.int a, .int b]] = some (.tup [.int 1, .int 2], [.lst [.int a, .int b]]) := by kernel_rfl
theorem both_rises1 (a b n k j : Int) : m_both_share [.str ("rises" : Str), .int n, .tup [.int k], .tup [.int j]] [.lst [.int a, .int b]] = some (.tup [.int 1, .int (rv k j)], [.lst [.int a, .int b]]) := by
  unfold m_both_share
  refine runA_of (S1 := [.lst [.int a, .int b]]) (d1 := .tup [.int 1, .int (rv k j)]) ?_ (finAb_ok rfl)
  show (match (sSeq _ _ [some (.str ("rises" : Str)), some (.int n), some (.tup [.int k]), some (.tup [.int j])] [.lst [.int a, .int b]]) with | some (.rt d, S1) => some (d, S1) | some (.nx _, S1) => some (.non, S1) | _ => none) = _
  by_cases e : k = j
  · have r : rv k j = 2 := by unfold rv; rw [if_pos e]
    rw [r, v_seqR (v_ifT (v_tst (v_var rfl) (v_var rfl) (by rw [eq1, decide_eq_true e])) (v_ret (v_call3 (v_var rfl) (v_var rfl) (v_var rfl) (one_rises1 a b n k))))]
  · rw [v_seq (v_ifFp (v_tst (v_var rfl) (v_var rfl) (by rw [eq1, decide_eq_false e]))) (v_seq (v_ifFp (v_tst (v_var rfl) v_c (by kernel_rfl))) (v_seqR (v_ifT (v_tst (v_var rfl) v_c (by kernel_rfl)) (v_ret (v_call2 (v_var rfl) (v_var rfl) (rises2_1 a b k j e))))))]
theorem far_rises1 (a b n k j : Int) : m__law_far_due [.str ("rises" : Str), .int n, .tup [.int k], .tup [.int j]] [.lst [.int a, .int b]] = some (.tup [.int 1, .int (rv k j)], [.lst [.int a, .int b]]) := by
  have h : k = j ∨ j = k + 1 ∨ k = j + 1 ∨ k + 1 < j ∨ j + 1 < k := by omega
  rcases h with h | h | h | h | h
  · have r : rv k j = 2 := by unfold rv; rw [if_pos h]
    rw [r]
    subst h
    exact farR_200_1 a b n _ _ (fewR1 a b k k [k, k + 1] (by simp only [srtU]; (repeat (first | rw [insU_nil] | rw [insU_lt (by omega)] | rw [insU_eq (by omega)] | rw [insU_gt (by omega)]))) 0 0 (by (repeat (first | rw [ixI_pos (by omega)] | rw [ixI_neg (by omega)])); try rfl) (by (repeat (first | rw [ixI_pos (by omega)] | rw [ixI_neg (by omega)])); try rfl))
  · have r : rv k j = 6 := by unfold rv; (repeat (first | rw [if_pos (by omega)] | rw [if_neg (by omega)]))
    rw [r]
    subst h
    exact farR_301_1 a b n _ _ (fewR1 a b k (k + 1) [k, k + 1, k + 1 + 1] (by simp only [srtU]; (repeat (first | rw [insU_nil] | rw [insU_lt (by omega)] | rw [insU_eq (by omega)] | rw [insU_gt (by omega)]))) 0 1 (by (repeat (first | rw [ixI_pos (by omega)] | rw [ixI_neg (by omega)])); try rfl) (by (repeat (first | rw [ixI_pos (by omega)] | rw [ixI_neg (by omega)])); try rfl))
  · have r : rv k j = 6 := by unfold rv; (repeat (first | rw [if_pos (by omega)] | rw [if_neg (by omega)]))
    rw [r]
    subst h
    exact farR_310_1 a b n _ _ (fewR1 a b (j + 1) j [j, j + 1, j + 1 + 1] (by simp only [srtU]; (repeat (first | rw [insU_nil] | rw [insU_lt (by omega)] | rw [insU_eq (by omega)] | rw [insU_gt (by omega)]))) 1 0 (by (repeat (first | rw [ixI_pos (by omega)] | rw [ixI_neg (by omega)])); try rfl) (by (repeat (first | rw [ixI_pos (by omega)] | rw [ixI_neg (by omega)])); try rfl))
  · have r : rv k j = 4 := by unfold rv; (repeat (first | rw [if_pos (by omega)] | rw [if_neg (by omega)]))
    rw [r]
    exact farR_402_1 a b n _ _ (fewR1 a b k j [k, k + 1, j, j + 1] (by simp only [srtU]; (repeat (first | rw [insU_nil] | rw [insU_lt (by omega)] | rw [insU_eq (by omega)] | rw [insU_gt (by omega)]))) 0 2 (by (repeat (first | rw [ixI_pos (by omega)] | rw [ixI_neg (by omega)])); try rfl) (by (repeat (first | rw [ixI_pos (by omega)] | rw [ixI_neg (by omega)])); try rfl))
  · have r : rv k j = 4 := by unfold rv; (repeat (first | rw [if_pos (by omega)] | rw [if_neg (by omega)]))
    rw [r]
    exact farR_420_1 a b n _ _ (fewR1 a b k j [j, j + 1, k, k + 1] (by simp only [srtU]; (repeat (first | rw [insU_nil] | rw [insU_lt (by omega)] | rw [insU_eq (by omega)] | rw [insU_gt (by omega)]))) 2 0 (by (repeat (first | rw [ixI_pos (by omega)] | rw [ixI_neg (by omega)])); try rfl) (by (repeat (first | rw [ixI_pos (by omega)] | rw [ixI_neg (by omega)])); try rfl))
theorem rises2_2 (p q a b k j : Int) (h : k ≠ j) : m_both_rises [.tup [.int k], .tup [.int j]] [.lst [.int p, .int q], .lst [.int a, .int b]] = some (.tup [.int 1, .int (rv k j)], [.lst [.int p, .int q], .lst [.int a, .int b]]) := by
  unfold m_both_rises
  have r : rv k j = if (if k - j < 0 then -(k - j) else k - j) = 1 then 6 else 4 := by
    unfold rv
    rw [if_neg h]
  rw [r]
  have ka : kAbs [.int (k - j)] [.lst [.int p, .int q], .lst [.int a, .int b]] = some (.int (if k - j < 0 then -(k - j) else k - j), [.lst [.int p, .int q], .lst [.int a, .int b]]) := rfl
  refine runA_of (S1 := [.lst [.int p, .int q], .lst [.int a, .int b]]) (d1 := .tup [.int 1, .int (if (if k - j < 0 then -(k - j) else k - j) = 1 then 6 else 4)]) ?_ (finAb_ok rfl)
  show (match (sSeq _ _ [some (.tup [.int k]), some (.tup [.int j])] [.lst [.int p, .int q], .lst [.int a, .int b]]) with | some (.rt d, S1) => some (d, S1) | some (.nx _, S1) => some (.non, S1) | _ => none) = _
  by_cases e : (if k - j < 0 then -(k - j) else k - j) = 1
  · rw [if_pos e, v_seqR (v_ifT (v_tst (v_call1 (v_op (v_opS (v_var rfl) v_c rfl) (v_opS (v_var rfl) v_c rfl) subI_of) ka) v_c (by rw [eqi, decide_eq_true e])) (v_ret (v_T2 v_c v_c)))]
  · rw [if_neg e, v_seq (v_ifFp (v_tst (v_call1 (v_op (v_opS (v_var rfl) v_c rfl) (v_opS (v_var rfl) v_c rfl) subI_of) ka) v_c (by rw [eqi, decide_eq_false e]))) (v_ret (v_T2 v_c v_c))]
theorem one_rises2 (p q a b n k : Int) : m_one_share [.str ("rises" : Str), .int n, .tup [.int k]] [.lst [.int p, .int q], .lst [.int a, .int b]] = some (.tup [.int 1, .int 2], [.lst [.int p, .int q], .lst [.int a, .int b]]) := by kernel_rfl
theorem one_crossed2 (p q a b n k k2 : Int) : m_one_share [.str ("crossed" : Str), .int n, .tup [.int k, .int k2]] [.lst [.int p, .int q], .lst [.int a, .int b]] = some (.tup [.int 1, .int 2], [.lst [.int p, .int q], .lst [.int a, .int b]]) := by kernel_rfl
theorem both_rises2 (p q a b n k j : Int) : m_both_share [.str ("rises" : Str), .int n, .tup [.int k], .tup [.int j]] [.lst [.int p, .int q], .lst [.int a, .int b]] = some (.tup [.int 1, .int (rv k j)], [.lst [.int p, .int q], .lst [.int a, .int b]]) := by
  unfold m_both_share
  refine runA_of (S1 := [.lst [.int p, .int q], .lst [.int a, .int b]]) (d1 := .tup [.int 1, .int (rv k j)]) ?_ (finAb_ok rfl)
  show (match (sSeq _ _ [some (.str ("rises" : Str)), some (.int n), some (.tup [.int k]), some (.tup [.int j])] [.lst [.int p, .int q], .lst [.int a, .int b]]) with | some (.rt d, S1) => some (d, S1) | some (.nx _, S1) => some (.non, S1) | _ => none) = _
  by_cases e : k = j
  · have r : rv k j = 2 := by unfold rv; rw [if_pos e]
    rw [r, v_seqR (v_ifT (v_tst (v_var rfl) (v_var rfl) (by rw [eq1, decide_eq_true e])) (v_ret (v_call3 (v_var rfl) (v_var rfl) (v_var rfl) (one_rises2 p q a b n k))))]
  · rw [v_seq (v_ifFp (v_tst (v_var rfl) (v_var rfl) (by rw [eq1, decide_eq_false e]))) (v_seq (v_ifFp (v_tst (v_var rfl) v_c (by kernel_rfl))) (v_seqR (v_ifT (v_tst (v_var rfl) v_c (by kernel_rfl)) (v_ret (v_call2 (v_var rfl) (v_var rfl) (rises2_2 p q a b k j e))))))]
theorem far_rises2 (p q a b n k j : Int) : m__law_far_due [.str ("rises" : Str), .int n, .tup [.int k], .tup [.int j]] [.lst [.int p, .int q], .lst [.int a, .int b]] = some (.tup [.int 1, .int (rv k j)], [.lst [.int p, .int q], .lst [.int a, .int b]]) := by
  have h : k = j ∨ j = k + 1 ∨ k = j + 1 ∨ k + 1 < j ∨ j + 1 < k := by omega
  rcases h with h | h | h | h | h
  · have r : rv k j = 2 := by unfold rv; rw [if_pos h]
    rw [r]
    subst h
    exact farR_200_2 p q a b n _ _ (fewR2 p q a b k k [k, k + 1] (by simp only [srtU]; (repeat (first | rw [insU_nil] | rw [insU_lt (by omega)] | rw [insU_eq (by omega)] | rw [insU_gt (by omega)]))) 0 0 (by (repeat (first | rw [ixI_pos (by omega)] | rw [ixI_neg (by omega)])); try rfl) (by (repeat (first | rw [ixI_pos (by omega)] | rw [ixI_neg (by omega)])); try rfl))
  · have r : rv k j = 6 := by unfold rv; (repeat (first | rw [if_pos (by omega)] | rw [if_neg (by omega)]))
    rw [r]
    subst h
    exact farR_301_2 p q a b n _ _ (fewR2 p q a b k (k + 1) [k, k + 1, k + 1 + 1] (by simp only [srtU]; (repeat (first | rw [insU_nil] | rw [insU_lt (by omega)] | rw [insU_eq (by omega)] | rw [insU_gt (by omega)]))) 0 1 (by (repeat (first | rw [ixI_pos (by omega)] | rw [ixI_neg (by omega)])); try rfl) (by (repeat (first | rw [ixI_pos (by omega)] | rw [ixI_neg (by omega)])); try rfl))
  · have r : rv k j = 6 := by unfold rv; (repeat (first | rw [if_pos (by omega)] | rw [if_neg (by omega)]))
    rw [r]
    subst h
    exact farR_310_2 p q a b n _ _ (fewR2 p q a b (j + 1) j [j, j + 1, j + 1 + 1] (by simp only [srtU]; (repeat (first | rw [insU_nil] | rw [insU_lt (by omega)] | rw [insU_eq (by omega)] | rw [insU_gt (by omega)]))) 1 0 (by (repeat (first | rw [ixI_pos (by omega)] | rw [ixI_neg (by omega)])); try rfl) (by (repeat (first | rw [ixI_pos (by omega)] | rw [ixI_neg (by omega)])); try rfl))
  · have r : rv k j = 4 := by unfold rv; (repeat (first | rw [if_pos (by omega)] | rw [if_neg (by omega)]))
    rw [r]
    exact farR_402_2 p q a b n _ _ (fewR2 p q a b k j [k, k + 1, j, j + 1] (by simp only [srtU]; (repeat (first | rw [insU_nil] | rw [insU_lt (by omega)] | rw [insU_eq (by omega)] | rw [insU_gt (by omega)]))) 0 2 (by (repeat (first | rw [ixI_pos (by omega)] | rw [ixI_neg (by omega)])); try rfl) (by (repeat (first | rw [ixI_pos (by omega)] | rw [ixI_neg (by omega)])); try rfl))
  · have r : rv k j = 4 := by unfold rv; (repeat (first | rw [if_pos (by omega)] | rw [if_neg (by omega)]))
    rw [r]
    exact farR_420_2 p q a b n _ _ (fewR2 p q a b k j [j, j + 1, k, k + 1] (by simp only [srtU]; (repeat (first | rw [insU_nil] | rw [insU_lt (by omega)] | rw [insU_eq (by omega)] | rw [insU_gt (by omega)]))) 2 0 (by (repeat (first | rw [ixI_pos (by omega)] | rw [ixI_neg (by omega)])); try rfl) (by (repeat (first | rw [ixI_pos (by omega)] | rw [ixI_neg (by omega)])); try rfl))
theorem farC_20101_1 (a b n : Int) (one other : D) (hf : m__law_few [.str ("crossed" : Str), one, other] [.lst [.int a, .int b]] = some (.tup [.int 2, .tup [.int 0, .int 1], .tup [.int 0, .int 1]], [.lst [.int a, .int b]])) : m__law_far_due [.str ("crossed" : Str), .int n, one, other] [.lst [.int a, .int b]] = some (.tup [.int 1, .int 2], [.lst [.int a, .int b]]) := by
  unfold m__law_far_due
  refine runA_of (S1 := [.lst [.int a, .int b]]) (d1 := .tup [.int 1, .int 2]) ?_ (finAb_ok rfl)
  show (match (sSeq _ _ [some (.str ("crossed" : Str)), some (.int n), some one, some other, none, none, none, none, none, none, none, none] [.lst [.int a, .int b]]) with | some (.rt d, S1) => some (d, S1) | some (.nx _, S1) => some (.non, S1) | _ => none) = _
  rw [v_seqR (x := .tup [.int 1, .int 2]) (S1 := [.lst [.int a, .int b]]) (v_ifT (S1 := [.lst [.int a, .int b]]) (by kernel_rfl) (v_seq (e1 := [some (.str ("crossed" : Str)), some (.int n), some one, some other, some (.int 2), some (.tup [.int 0, .int 1]), some (.tup [.int 0, .int 1]), none, none, none, none, none]) (S1 := [.lst [.int a, .int b]]) (v_asg3 (v_call3 (v_var rfl) (v_var rfl) (v_var rfl) hf)) (by kernel_rfl)))]
theorem farC_30102_1 (a b n : Int) (one other : D) (hf : m__law_few [.str ("crossed" : Str), one, other] [.lst [.int a, .int b]] = some (.tup [.int 3, .tup [.int 0, .int 1], .tup [.int 0, .int 2]], [.lst [.int a, .int b]])) : m__law_far_due [.str ("crossed" : Str), .int n, one, other] [.lst [.int a, .int b]] = some (.tup [.int 1, .int 3], [.lst [.int a, .int b]]) := by
  unfold m__law_far_due
  refine runA_of (S1 := [.lst [.int a, .int b]]) (d1 := .tup [.int 1, .int 3]) ?_ (finAb_ok rfl)
  show (match (sSeq _ _ [some (.str ("crossed" : Str)), some (.int n), some one, some other, none, none, none, none, none, none, none, none] [.lst [.int a, .int b]]) with | some (.rt d, S1) => some (d, S1) | some (.nx _, S1) => some (.non, S1) | _ => none) = _
  rw [v_seqR (x := .tup [.int 1, .int 3]) (S1 := [.lst [.int a, .int b]]) (v_ifT (S1 := [.lst [.int a, .int b]]) (by kernel_rfl) (v_seq (e1 := [some (.str ("crossed" : Str)), some (.int n), some one, some other, some (.int 3), some (.tup [.int 0, .int 1]), some (.tup [.int 0, .int 2]), none, none, none, none, none]) (S1 := [.lst [.int a, .int b]]) (v_asg3 (v_call3 (v_var rfl) (v_var rfl) (v_var rfl) hf)) (by kernel_rfl)))]
theorem farC_30201_1 (a b n : Int) (one other : D) (hf : m__law_few [.str ("crossed" : Str), one, other] [.lst [.int a, .int b]] = some (.tup [.int 3, .tup [.int 0, .int 2], .tup [.int 0, .int 1]], [.lst [.int a, .int b]])) : m__law_far_due [.str ("crossed" : Str), .int n, one, other] [.lst [.int a, .int b]] = some (.tup [.int 1, .int 3], [.lst [.int a, .int b]]) := by
  unfold m__law_far_due
  refine runA_of (S1 := [.lst [.int a, .int b]]) (d1 := .tup [.int 1, .int 3]) ?_ (finAb_ok rfl)
  show (match (sSeq _ _ [some (.str ("crossed" : Str)), some (.int n), some one, some other, none, none, none, none, none, none, none, none] [.lst [.int a, .int b]]) with | some (.rt d, S1) => some (d, S1) | some (.nx _, S1) => some (.non, S1) | _ => none) = _
  rw [v_seqR (x := .tup [.int 1, .int 3]) (S1 := [.lst [.int a, .int b]]) (v_ifT (S1 := [.lst [.int a, .int b]]) (by kernel_rfl) (v_seq (e1 := [some (.str ("crossed" : Str)), some (.int n), some one, some other, some (.int 3), some (.tup [.int 0, .int 2]), some (.tup [.int 0, .int 1]), none, none, none, none, none]) (S1 := [.lst [.int a, .int b]]) (v_asg3 (v_call3 (v_var rfl) (v_var rfl) (v_var rfl) hf)) (by kernel_rfl)))]
theorem farC_30212_1 (a b n : Int) (one other : D) (hf : m__law_few [.str ("crossed" : Str), one, other] [.lst [.int a, .int b]] = some (.tup [.int 3, .tup [.int 0, .int 2], .tup [.int 1, .int 2]], [.lst [.int a, .int b]])) : m__law_far_due [.str ("crossed" : Str), .int n, one, other] [.lst [.int a, .int b]] = some (.tup [.int 1, .int 3], [.lst [.int a, .int b]]) := by
  unfold m__law_far_due
  refine runA_of (S1 := [.lst [.int a, .int b]]) (d1 := .tup [.int 1, .int 3]) ?_ (finAb_ok rfl)
  show (match (sSeq _ _ [some (.str ("crossed" : Str)), some (.int n), some one, some other, none, none, none, none, none, none, none, none] [.lst [.int a, .int b]]) with | some (.rt d, S1) => some (d, S1) | some (.nx _, S1) => some (.non, S1) | _ => none) = _
  rw [v_seqR (x := .tup [.int 1, .int 3]) (S1 := [.lst [.int a, .int b]]) (v_ifT (S1 := [.lst [.int a, .int b]]) (by kernel_rfl) (v_seq (e1 := [some (.str ("crossed" : Str)), some (.int n), some one, some other, some (.int 3), some (.tup [.int 0, .int 2]), some (.tup [.int 1, .int 2]), none, none, none, none, none]) (S1 := [.lst [.int a, .int b]]) (v_asg3 (v_call3 (v_var rfl) (v_var rfl) (v_var rfl) hf)) (by kernel_rfl)))]
theorem farC_31202_1 (a b n : Int) (one other : D) (hf : m__law_few [.str ("crossed" : Str), one, other] [.lst [.int a, .int b]] = some (.tup [.int 3, .tup [.int 1, .int 2], .tup [.int 0, .int 2]], [.lst [.int a, .int b]])) : m__law_far_due [.str ("crossed" : Str), .int n, one, other] [.lst [.int a, .int b]] = some (.tup [.int 1, .int 3], [.lst [.int a, .int b]]) := by
  unfold m__law_far_due
  refine runA_of (S1 := [.lst [.int a, .int b]]) (d1 := .tup [.int 1, .int 3]) ?_ (finAb_ok rfl)
  show (match (sSeq _ _ [some (.str ("crossed" : Str)), some (.int n), some one, some other, none, none, none, none, none, none, none, none] [.lst [.int a, .int b]]) with | some (.rt d, S1) => some (d, S1) | some (.nx _, S1) => some (.non, S1) | _ => none) = _
  rw [v_seqR (x := .tup [.int 1, .int 3]) (S1 := [.lst [.int a, .int b]]) (v_ifT (S1 := [.lst [.int a, .int b]]) (by kernel_rfl) (v_seq (e1 := [some (.str ("crossed" : Str)), some (.int n), some one, some other, some (.int 3), some (.tup [.int 1, .int 2]), some (.tup [.int 0, .int 2]), none, none, none, none, none]) (S1 := [.lst [.int a, .int b]]) (v_asg3 (v_call3 (v_var rfl) (v_var rfl) (v_var rfl) hf)) (by kernel_rfl)))]
theorem farC_30112_1 (a b n : Int) (one other : D) (hf : m__law_few [.str ("crossed" : Str), one, other] [.lst [.int a, .int b]] = some (.tup [.int 3, .tup [.int 0, .int 1], .tup [.int 1, .int 2]], [.lst [.int a, .int b]])) : m__law_far_due [.str ("crossed" : Str), .int n, one, other] [.lst [.int a, .int b]] = some (.tup [.int 1, .int 6], [.lst [.int a, .int b]]) := by
  unfold m__law_far_due
  refine runA_of (S1 := [.lst [.int a, .int b]]) (d1 := .tup [.int 1, .int 6]) ?_ (finAb_ok rfl)
  show (match (sSeq _ _ [some (.str ("crossed" : Str)), some (.int n), some one, some other, none, none, none, none, none, none, none, none] [.lst [.int a, .int b]]) with | some (.rt d, S1) => some (d, S1) | some (.nx _, S1) => some (.non, S1) | _ => none) = _
  rw [v_seqR (x := .tup [.int 1, .int 6]) (S1 := [.lst [.int a, .int b]]) (v_ifT (S1 := [.lst [.int a, .int b]]) (by kernel_rfl) (v_seq (e1 := [some (.str ("crossed" : Str)), some (.int n), some one, some other, some (.int 3), some (.tup [.int 0, .int 1]), some (.tup [.int 1, .int 2]), none, none, none, none, none]) (S1 := [.lst [.int a, .int b]]) (v_asg3 (v_call3 (v_var rfl) (v_var rfl) (v_var rfl) hf)) (by kernel_rfl)))]
theorem farC_31201_1 (a b n : Int) (one other : D) (hf : m__law_few [.str ("crossed" : Str), one, other] [.lst [.int a, .int b]] = some (.tup [.int 3, .tup [.int 1, .int 2], .tup [.int 0, .int 1]], [.lst [.int a, .int b]])) : m__law_far_due [.str ("crossed" : Str), .int n, one, other] [.lst [.int a, .int b]] = some (.tup [.int 1, .int 6], [.lst [.int a, .int b]]) := by
  unfold m__law_far_due
  refine runA_of (S1 := [.lst [.int a, .int b]]) (d1 := .tup [.int 1, .int 6]) ?_ (finAb_ok rfl)
  show (match (sSeq _ _ [some (.str ("crossed" : Str)), some (.int n), some one, some other, none, none, none, none, none, none, none, none] [.lst [.int a, .int b]]) with | some (.rt d, S1) => some (d, S1) | some (.nx _, S1) => some (.non, S1) | _ => none) = _
  rw [v_seqR (x := .tup [.int 1, .int 6]) (S1 := [.lst [.int a, .int b]]) (v_ifT (S1 := [.lst [.int a, .int b]]) (by kernel_rfl) (v_seq (e1 := [some (.str ("crossed" : Str)), some (.int n), some one, some other, some (.int 3), some (.tup [.int 1, .int 2]), some (.tup [.int 0, .int 1]), none, none, none, none, none]) (S1 := [.lst [.int a, .int b]]) (v_asg3 (v_call3 (v_var rfl) (v_var rfl) (v_var rfl) hf)) (by kernel_rfl)))]
theorem farC_40123_1 (a b n : Int) (one other : D) (hf : m__law_few [.str ("crossed" : Str), one, other] [.lst [.int a, .int b]] = some (.tup [.int 4, .tup [.int 0, .int 1], .tup [.int 2, .int 3]], [.lst [.int a, .int b]])) : m__law_far_due [.str ("crossed" : Str), .int n, one, other] [.lst [.int a, .int b]] = some (.tup [.int 1, .int 4], [.lst [.int a, .int b]]) := by
  unfold m__law_far_due
  refine runA_of (S1 := [.lst [.int a, .int b]]) (d1 := .tup [.int 1, .int 4]) ?_ (finAb_ok rfl)
  show (match (sSeq _ _ [some (.str ("crossed" : Str)), some (.int n), some one, some other, none, none, none, none, none, none, none, none] [.lst [.int a, .int b]]) with | some (.rt d, S1) => some (d, S1) | some (.nx _, S1) => some (.non, S1) | _ => none) = _
  rw [v_seqR (x := .tup [.int 1, .int 4]) (S1 := [.lst [.int a, .int b]]) (v_ifT (S1 := [.lst [.int a, .int b]]) (by kernel_rfl) (v_seq (e1 := [some (.str ("crossed" : Str)), some (.int n), some one, some other, some (.int 4), some (.tup [.int 0, .int 1]), some (.tup [.int 2, .int 3]), none, none, none, none, none]) (S1 := [.lst [.int a, .int b]]) (v_asg3 (v_call3 (v_var rfl) (v_var rfl) (v_var rfl) hf)) (by kernel_rfl)))]
theorem farC_42301_1 (a b n : Int) (one other : D) (hf : m__law_few [.str ("crossed" : Str), one, other] [.lst [.int a, .int b]] = some (.tup [.int 4, .tup [.int 2, .int 3], .tup [.int 0, .int 1]], [.lst [.int a, .int b]])) : m__law_far_due [.str ("crossed" : Str), .int n, one, other] [.lst [.int a, .int b]] = some (.tup [.int 1, .int 4], [.lst [.int a, .int b]]) := by
  unfold m__law_far_due
  refine runA_of (S1 := [.lst [.int a, .int b]]) (d1 := .tup [.int 1, .int 4]) ?_ (finAb_ok rfl)
  show (match (sSeq _ _ [some (.str ("crossed" : Str)), some (.int n), some one, some other, none, none, none, none, none, none, none, none] [.lst [.int a, .int b]]) with | some (.rt d, S1) => some (d, S1) | some (.nx _, S1) => some (.non, S1) | _ => none) = _
  rw [v_seqR (x := .tup [.int 1, .int 4]) (S1 := [.lst [.int a, .int b]]) (v_ifT (S1 := [.lst [.int a, .int b]]) (by kernel_rfl) (v_seq (e1 := [some (.str ("crossed" : Str)), some (.int n), some one, some other, some (.int 4), some (.tup [.int 2, .int 3]), some (.tup [.int 0, .int 1]), none, none, none, none, none]) (S1 := [.lst [.int a, .int b]]) (v_asg3 (v_call3 (v_var rfl) (v_var rfl) (v_var rfl) hf)) (by kernel_rfl)))]
theorem farC_40213_1 (a b n : Int) (one other : D) (hf : m__law_few [.str ("crossed" : Str), one, other] [.lst [.int a, .int b]] = some (.tup [.int 4, .tup [.int 0, .int 2], .tup [.int 1, .int 3]], [.lst [.int a, .int b]])) : m__law_far_due [.str ("crossed" : Str), .int n, one, other] [.lst [.int a, .int b]] = some (.tup [.int 1, .int 4], [.lst [.int a, .int b]]) := by
  unfold m__law_far_due
  refine runA_of (S1 := [.lst [.int a, .int b]]) (d1 := .tup [.int 1, .int 4]) ?_ (finAb_ok rfl)
  show (match (sSeq _ _ [some (.str ("crossed" : Str)), some (.int n), some one, some other, none, none, none, none, none, none, none, none] [.lst [.int a, .int b]]) with | some (.rt d, S1) => some (d, S1) | some (.nx _, S1) => some (.non, S1) | _ => none) = _
  rw [v_seqR (x := .tup [.int 1, .int 4]) (S1 := [.lst [.int a, .int b]]) (v_ifT (S1 := [.lst [.int a, .int b]]) (by kernel_rfl) (v_seq (e1 := [some (.str ("crossed" : Str)), some (.int n), some one, some other, some (.int 4), some (.tup [.int 0, .int 2]), some (.tup [.int 1, .int 3]), none, none, none, none, none]) (S1 := [.lst [.int a, .int b]]) (v_asg3 (v_call3 (v_var rfl) (v_var rfl) (v_var rfl) hf)) (by kernel_rfl)))]
theorem farC_41302_1 (a b n : Int) (one other : D) (hf : m__law_few [.str ("crossed" : Str), one, other] [.lst [.int a, .int b]] = some (.tup [.int 4, .tup [.int 1, .int 3], .tup [.int 0, .int 2]], [.lst [.int a, .int b]])) : m__law_far_due [.str ("crossed" : Str), .int n, one, other] [.lst [.int a, .int b]] = some (.tup [.int 1, .int 4], [.lst [.int a, .int b]]) := by
  unfold m__law_far_due
  refine runA_of (S1 := [.lst [.int a, .int b]]) (d1 := .tup [.int 1, .int 4]) ?_ (finAb_ok rfl)
  show (match (sSeq _ _ [some (.str ("crossed" : Str)), some (.int n), some one, some other, none, none, none, none, none, none, none, none] [.lst [.int a, .int b]]) with | some (.rt d, S1) => some (d, S1) | some (.nx _, S1) => some (.non, S1) | _ => none) = _
  rw [v_seqR (x := .tup [.int 1, .int 4]) (S1 := [.lst [.int a, .int b]]) (v_ifT (S1 := [.lst [.int a, .int b]]) (by kernel_rfl) (v_seq (e1 := [some (.str ("crossed" : Str)), some (.int n), some one, some other, some (.int 4), some (.tup [.int 1, .int 3]), some (.tup [.int 0, .int 2]), none, none, none, none, none]) (S1 := [.lst [.int a, .int b]]) (v_asg3 (v_call3 (v_var rfl) (v_var rfl) (v_var rfl) hf)) (by kernel_rfl)))]
theorem farC_40312_1 (a b n : Int) (one other : D) (hf : m__law_few [.str ("crossed" : Str), one, other] [.lst [.int a, .int b]] = some (.tup [.int 4, .tup [.int 0, .int 3], .tup [.int 1, .int 2]], [.lst [.int a, .int b]])) : m__law_far_due [.str ("crossed" : Str), .int n, one, other] [.lst [.int a, .int b]] = some (.tup [.int 1, .int 4], [.lst [.int a, .int b]]) := by
  unfold m__law_far_due
  refine runA_of (S1 := [.lst [.int a, .int b]]) (d1 := .tup [.int 1, .int 4]) ?_ (finAb_ok rfl)
  show (match (sSeq _ _ [some (.str ("crossed" : Str)), some (.int n), some one, some other, none, none, none, none, none, none, none, none] [.lst [.int a, .int b]]) with | some (.rt d, S1) => some (d, S1) | some (.nx _, S1) => some (.non, S1) | _ => none) = _
  rw [v_seqR (x := .tup [.int 1, .int 4]) (S1 := [.lst [.int a, .int b]]) (v_ifT (S1 := [.lst [.int a, .int b]]) (by kernel_rfl) (v_seq (e1 := [some (.str ("crossed" : Str)), some (.int n), some one, some other, some (.int 4), some (.tup [.int 0, .int 3]), some (.tup [.int 1, .int 2]), none, none, none, none, none]) (S1 := [.lst [.int a, .int b]]) (v_asg3 (v_call3 (v_var rfl) (v_var rfl) (v_var rfl) hf)) (by kernel_rfl)))]
theorem farC_41203_1 (a b n : Int) (one other : D) (hf : m__law_few [.str ("crossed" : Str), one, other] [.lst [.int a, .int b]] = some (.tup [.int 4, .tup [.int 1, .int 2], .tup [.int 0, .int 3]], [.lst [.int a, .int b]])) : m__law_far_due [.str ("crossed" : Str), .int n, one, other] [.lst [.int a, .int b]] = some (.tup [.int 1, .int 4], [.lst [.int a, .int b]]) := by
  unfold m__law_far_due
  refine runA_of (S1 := [.lst [.int a, .int b]]) (d1 := .tup [.int 1, .int 4]) ?_ (finAb_ok rfl)
  show (match (sSeq _ _ [some (.str ("crossed" : Str)), some (.int n), some one, some other, none, none, none, none, none, none, none, none] [.lst [.int a, .int b]]) with | some (.rt d, S1) => some (d, S1) | some (.nx _, S1) => some (.non, S1) | _ => none) = _
  rw [v_seqR (x := .tup [.int 1, .int 4]) (S1 := [.lst [.int a, .int b]]) (v_ifT (S1 := [.lst [.int a, .int b]]) (by kernel_rfl) (v_seq (e1 := [some (.str ("crossed" : Str)), some (.int n), some one, some other, some (.int 4), some (.tup [.int 1, .int 2]), some (.tup [.int 0, .int 3]), none, none, none, none, none]) (S1 := [.lst [.int a, .int b]]) (v_asg3 (v_call3 (v_var rfl) (v_var rfl) (v_var rfl) hf)) (by kernel_rfl)))]
theorem crossed2_1 (a b k k2 j j2 : Int) (h : ¬ (k = j ∧ k2 = j2)) : m_both_crossed [.tup [.int k, .int k2], .tup [.int j, .int j2]] [.lst [.int a, .int b]] = some (.tup [.int 1, .int (cv k k2 j j2)], [.lst [.int a, .int b]]) := by
  unfold m_both_crossed
  refine runA_of (S1 := [.lst [.int a, .int b]]) (d1 := .tup [.int 1, .int (cv k k2 j j2)]) ?_ (finAb_ok rfl)
  show (match (sSeq _ _ [some (.tup [.int k, .int k2]), some (.tup [.int j, .int j2])] [.lst [.int a, .int b]]) with | some (.rt d, S1) => some (d, S1) | some (.nx _, S1) => some (.non, S1) | _ => none) = _
  unfold cv
  rw [if_neg h]
  by_cases c1 : k = j
  · rw [if_pos (Or.inl c1), v_seqR (v_ifT (v_orT (v_tst (v_opS (v_var rfl) v_c rfl) (v_opS (v_var rfl) v_c rfl) (by rw [eqi, decide_eq_true c1]))) (v_ret (v_T2 v_c v_c)))]
  by_cases c2 : k2 = j2
  · rw [if_pos (Or.inr c2), v_seqR (v_ifT (v_orF (v_tst (v_opS (v_var rfl) v_c rfl) (v_opS (v_var rfl) v_c rfl) (by rw [eqi, decide_eq_false c1])) (v_tst (v_opS (v_var rfl) v_c rfl) (v_opS (v_var rfl) v_c rfl) (by rw [eqi, decide_eq_true c2]))) (v_ret (v_T2 v_c v_c)))]
  rw [if_neg (by omega), v_seq (v_ifFp (v_orF (v_tst (v_opS (v_var rfl) v_c rfl) (v_opS (v_var rfl) v_c rfl) (by rw [eqi, decide_eq_false c1])) (v_tst (v_opS (v_var rfl) v_c rfl) (v_opS (v_var rfl) v_c rfl) (by rw [eqi, decide_eq_false c2])))) rfl]
  by_cases c3 : k2 = j
  · rw [if_pos (Or.inl c3), v_seqR (v_ifT (v_orT (v_tst (v_opS (v_var rfl) v_c rfl) (v_opS (v_var rfl) v_c rfl) (by rw [eqi, decide_eq_true c3]))) (v_ret (v_T2 v_c v_c)))]
  by_cases c4 : k = j2
  · rw [if_pos (Or.inr c4), v_seqR (v_ifT (v_orF (v_tst (v_opS (v_var rfl) v_c rfl) (v_opS (v_var rfl) v_c rfl) (by rw [eqi, decide_eq_false c3])) (v_tst (v_opS (v_var rfl) v_c rfl) (v_opS (v_var rfl) v_c rfl) (by rw [eqi, decide_eq_true c4]))) (v_ret (v_T2 v_c v_c)))]
  rw [if_neg (by omega), v_seq (v_ifFp (v_orF (v_tst (v_opS (v_var rfl) v_c rfl) (v_opS (v_var rfl) v_c rfl) (by rw [eqi, decide_eq_false c3])) (v_tst (v_opS (v_var rfl) v_c rfl) (v_opS (v_var rfl) v_c rfl) (by rw [eqi, decide_eq_false c4])))) (v_ret (v_T2 v_c v_c))]
theorem both_crossed1 (a b n k k2 j j2 : Int) : m_both_share [.str ("crossed" : Str), .int n, .tup [.int k, .int k2], .tup [.int j, .int j2]] [.lst [.int a, .int b]] = some (.tup [.int 1, .int (cv k k2 j j2)], [.lst [.int a, .int b]]) := by
  unfold m_both_share
  refine runA_of (S1 := [.lst [.int a, .int b]]) (d1 := .tup [.int 1, .int (cv k k2 j j2)]) ?_ (finAb_ok rfl)
  show (match (sSeq _ _ [some (.str ("crossed" : Str)), some (.int n), some (.tup [.int k, .int k2]), some (.tup [.int j, .int j2])] [.lst [.int a, .int b]]) with | some (.rt d, S1) => some (d, S1) | some (.nx _, S1) => some (.non, S1) | _ => none) = _
  by_cases e : k = j ∧ k2 = j2
  · have r : cv k k2 j j2 = 2 := by unfold cv; rw [if_pos e]
    rw [r, v_seqR (v_ifT (v_tst (v_var rfl) (v_var rfl) (by rw [eq2, decide_eq_true e])) (v_ret (v_call3 (v_var rfl) (v_var rfl) (v_var rfl) (one_crossed1 a b n k k2))))]
  · rw [v_seq (v_ifFp (v_tst (v_var rfl) (v_var rfl) (by rw [eq2, decide_eq_false e]))) (v_seq (v_ifFp (v_tst (v_var rfl) v_c (by kernel_rfl))) (v_seq (v_ifFp (v_tst (v_var rfl) v_c (by kernel_rfl))) (v_seqR (v_ifT (v_tst (v_var rfl) v_c (by kernel_rfl)) (v_ret (v_call2 (v_var rfl) (v_var rfl) (crossed2_1 a b k k2 j j2 e)))))))]
theorem far_crossed1 (a b n k k2 j j2 : Int) (h1 : k < k2) (h2 : j < j2) : m__law_far_due [.str ("crossed" : Str), .int n, .tup [.int k, .int k2], .tup [.int j, .int j2]] [.lst [.int a, .int b]] = some (.tup [.int 1, .int (cv k k2 j j2)], [.lst [.int a, .int b]]) := by
  have h : (k = j ∧ k2 = j2) ∨ (k = j ∧ k2 < j2) ∨ (k = j ∧ j2 < k2) ∨ (k2 = j2 ∧ k < j) ∨ (k2 = j2 ∧ j < k) ∨ (k2 = j ∧ k < k2) ∨ (k = j2 ∧ k < k2) ∨ (k2 < j ∧ k < k2) ∨ (j2 < k ∧ k < k2) ∨ (k < j ∧ j < k2 ∧ k2 < j2) ∨ (j < k ∧ k < j2 ∧ j2 < k2) ∨ (k < j ∧ j2 < k2) ∨ (j < k ∧ k2 < j2) := by omega
  rcases h with ⟨z0, z1⟩ | ⟨z0, z1⟩ | ⟨z0, z1⟩ | ⟨z0, z1⟩ | ⟨z0, z1⟩ | ⟨z0, z1⟩ | ⟨z0, z1⟩ | ⟨z0, z1⟩ | ⟨z0, z1⟩ | ⟨z0, z1, z2⟩ | ⟨z0, z1, z2⟩ | ⟨z0, z1⟩ | ⟨z0, z1⟩
  · have r : cv k k2 j j2 = 2 := by
      unfold cv
      (repeat (first | rw [if_pos (by omega)] | rw [if_neg (by omega)]))
    rw [r]
    subst z0
    subst z1
    exact farC_20101_1 a b n _ _ (fewC1 a b k k2 k k2 [k, k2] (by simp only [srtU]; (repeat (first | rw [insU_nil] | rw [insU_lt (by omega)] | rw [insU_eq (by omega)] | rw [insU_gt (by omega)]))) 0 1 0 1 (by (repeat (first | rw [ixI_pos (by omega)] | rw [ixI_neg (by omega)])); try rfl) (by (repeat (first | rw [ixI_pos (by omega)] | rw [ixI_neg (by omega)])); try rfl) (by (repeat (first | rw [ixI_pos (by omega)] | rw [ixI_neg (by omega)])); try rfl) (by (repeat (first | rw [ixI_pos (by omega)] | rw [ixI_neg (by omega)])); try rfl))
  · have r : cv k k2 j j2 = 3 := by
      unfold cv
      (repeat (first | rw [if_pos (by omega)] | rw [if_neg (by omega)]))
    rw [r]
    subst z0
    exact farC_30102_1 a b n _ _ (fewC1 a b k k2 k j2 [k, k2, j2] (by simp only [srtU]; (repeat (first | rw [insU_nil] | rw [insU_lt (by omega)] | rw [insU_eq (by omega)] | rw [insU_gt (by omega)]))) 0 1 0 2 (by (repeat (first | rw [ixI_pos (by omega)] | rw [ixI_neg (by omega)])); try rfl) (by (repeat (first | rw [ixI_pos (by omega)] | rw [ixI_neg (by omega)])); try rfl) (by (repeat (first | rw [ixI_pos (by omega)] | rw [ixI_neg (by omega)])); try rfl) (by (repeat (first | rw [ixI_pos (by omega)] | rw [ixI_neg (by omega)])); try rfl))
  · have r : cv k k2 j j2 = 3 := by
      unfold cv
      (repeat (first | rw [if_pos (by omega)] | rw [if_neg (by omega)]))
    rw [r]
    subst z0
    exact farC_30201_1 a b n _ _ (fewC1 a b k k2 k j2 [k, j2, k2] (by simp only [srtU]; (repeat (first | rw [insU_nil] | rw [insU_lt (by omega)] | rw [insU_eq (by omega)] | rw [insU_gt (by omega)]))) 0 2 0 1 (by (repeat (first | rw [ixI_pos (by omega)] | rw [ixI_neg (by omega)])); try rfl) (by (repeat (first | rw [ixI_pos (by omega)] | rw [ixI_neg (by omega)])); try rfl) (by (repeat (first | rw [ixI_pos (by omega)] | rw [ixI_neg (by omega)])); try rfl) (by (repeat (first | rw [ixI_pos (by omega)] | rw [ixI_neg (by omega)])); try rfl))
  · have r : cv k k2 j j2 = 3 := by
      unfold cv
      (repeat (first | rw [if_pos (by omega)] | rw [if_neg (by omega)]))
    rw [r]
    subst z0
    exact farC_30212_1 a b n _ _ (fewC1 a b k k2 j k2 [k, j, k2] (by simp only [srtU]; (repeat (first | rw [insU_nil] | rw [insU_lt (by omega)] | rw [insU_eq (by omega)] | rw [insU_gt (by omega)]))) 0 2 1 2 (by (repeat (first | rw [ixI_pos (by omega)] | rw [ixI_neg (by omega)])); try rfl) (by (repeat (first | rw [ixI_pos (by omega)] | rw [ixI_neg (by omega)])); try rfl) (by (repeat (first | rw [ixI_pos (by omega)] | rw [ixI_neg (by omega)])); try rfl) (by (repeat (first | rw [ixI_pos (by omega)] | rw [ixI_neg (by omega)])); try rfl))
  · have r : cv k k2 j j2 = 3 := by
      unfold cv
      (repeat (first | rw [if_pos (by omega)] | rw [if_neg (by omega)]))
    rw [r]
    subst z0
    exact farC_31202_1 a b n _ _ (fewC1 a b k k2 j k2 [j, k, k2] (by simp only [srtU]; (repeat (first | rw [insU_nil] | rw [insU_lt (by omega)] | rw [insU_eq (by omega)] | rw [insU_gt (by omega)]))) 1 2 0 2 (by (repeat (first | rw [ixI_pos (by omega)] | rw [ixI_neg (by omega)])); try rfl) (by (repeat (first | rw [ixI_pos (by omega)] | rw [ixI_neg (by omega)])); try rfl) (by (repeat (first | rw [ixI_pos (by omega)] | rw [ixI_neg (by omega)])); try rfl) (by (repeat (first | rw [ixI_pos (by omega)] | rw [ixI_neg (by omega)])); try rfl))
  · have r : cv k k2 j j2 = 6 := by
      unfold cv
      (repeat (first | rw [if_pos (by omega)] | rw [if_neg (by omega)]))
    rw [r]
    subst z0
    exact farC_30112_1 a b n _ _ (fewC1 a b k k2 k2 j2 [k, k2, j2] (by simp only [srtU]; (repeat (first | rw [insU_nil] | rw [insU_lt (by omega)] | rw [insU_eq (by omega)] | rw [insU_gt (by omega)]))) 0 1 1 2 (by (repeat (first | rw [ixI_pos (by omega)] | rw [ixI_neg (by omega)])); try rfl) (by (repeat (first | rw [ixI_pos (by omega)] | rw [ixI_neg (by omega)])); try rfl) (by (repeat (first | rw [ixI_pos (by omega)] | rw [ixI_neg (by omega)])); try rfl) (by (repeat (first | rw [ixI_pos (by omega)] | rw [ixI_neg (by omega)])); try rfl))
  · have r : cv k k2 j j2 = 6 := by
      unfold cv
      (repeat (first | rw [if_pos (by omega)] | rw [if_neg (by omega)]))
    rw [r]
    subst z0
    exact farC_31201_1 a b n _ _ (fewC1 a b k k2 j k [j, k, k2] (by simp only [srtU]; (repeat (first | rw [insU_nil] | rw [insU_lt (by omega)] | rw [insU_eq (by omega)] | rw [insU_gt (by omega)]))) 1 2 0 1 (by (repeat (first | rw [ixI_pos (by omega)] | rw [ixI_neg (by omega)])); try rfl) (by (repeat (first | rw [ixI_pos (by omega)] | rw [ixI_neg (by omega)])); try rfl) (by (repeat (first | rw [ixI_pos (by omega)] | rw [ixI_neg (by omega)])); try rfl) (by (repeat (first | rw [ixI_pos (by omega)] | rw [ixI_neg (by omega)])); try rfl))
  · have r : cv k k2 j j2 = 4 := by
      unfold cv
      (repeat (first | rw [if_pos (by omega)] | rw [if_neg (by omega)]))
    rw [r]
    exact farC_40123_1 a b n _ _ (fewC1 a b k k2 j j2 [k, k2, j, j2] (by simp only [srtU]; (repeat (first | rw [insU_nil] | rw [insU_lt (by omega)] | rw [insU_eq (by omega)] | rw [insU_gt (by omega)]))) 0 1 2 3 (by (repeat (first | rw [ixI_pos (by omega)] | rw [ixI_neg (by omega)])); try rfl) (by (repeat (first | rw [ixI_pos (by omega)] | rw [ixI_neg (by omega)])); try rfl) (by (repeat (first | rw [ixI_pos (by omega)] | rw [ixI_neg (by omega)])); try rfl) (by (repeat (first | rw [ixI_pos (by omega)] | rw [ixI_neg (by omega)])); try rfl))
  · have r : cv k k2 j j2 = 4 := by
      unfold cv
      (repeat (first | rw [if_pos (by omega)] | rw [if_neg (by omega)]))
    rw [r]
    exact farC_42301_1 a b n _ _ (fewC1 a b k k2 j j2 [j, j2, k, k2] (by simp only [srtU]; (repeat (first | rw [insU_nil] | rw [insU_lt (by omega)] | rw [insU_eq (by omega)] | rw [insU_gt (by omega)]))) 2 3 0 1 (by (repeat (first | rw [ixI_pos (by omega)] | rw [ixI_neg (by omega)])); try rfl) (by (repeat (first | rw [ixI_pos (by omega)] | rw [ixI_neg (by omega)])); try rfl) (by (repeat (first | rw [ixI_pos (by omega)] | rw [ixI_neg (by omega)])); try rfl) (by (repeat (first | rw [ixI_pos (by omega)] | rw [ixI_neg (by omega)])); try rfl))
  · have r : cv k k2 j j2 = 4 := by
      unfold cv
      (repeat (first | rw [if_pos (by omega)] | rw [if_neg (by omega)]))
    rw [r]
    exact farC_40213_1 a b n _ _ (fewC1 a b k k2 j j2 [k, j, k2, j2] (by simp only [srtU]; (repeat (first | rw [insU_nil] | rw [insU_lt (by omega)] | rw [insU_eq (by omega)] | rw [insU_gt (by omega)]))) 0 2 1 3 (by (repeat (first | rw [ixI_pos (by omega)] | rw [ixI_neg (by omega)])); try rfl) (by (repeat (first | rw [ixI_pos (by omega)] | rw [ixI_neg (by omega)])); try rfl) (by (repeat (first | rw [ixI_pos (by omega)] | rw [ixI_neg (by omega)])); try rfl) (by (repeat (first | rw [ixI_pos (by omega)] | rw [ixI_neg (by omega)])); try rfl))
  · have r : cv k k2 j j2 = 4 := by
      unfold cv
      (repeat (first | rw [if_pos (by omega)] | rw [if_neg (by omega)]))
    rw [r]
    exact farC_41302_1 a b n _ _ (fewC1 a b k k2 j j2 [j, k, j2, k2] (by simp only [srtU]; (repeat (first | rw [insU_nil] | rw [insU_lt (by omega)] | rw [insU_eq (by omega)] | rw [insU_gt (by omega)]))) 1 3 0 2 (by (repeat (first | rw [ixI_pos (by omega)] | rw [ixI_neg (by omega)])); try rfl) (by (repeat (first | rw [ixI_pos (by omega)] | rw [ixI_neg (by omega)])); try rfl) (by (repeat (first | rw [ixI_pos (by omega)] | rw [ixI_neg (by omega)])); try rfl) (by (repeat (first | rw [ixI_pos (by omega)] | rw [ixI_neg (by omega)])); try rfl))
  · have r : cv k k2 j j2 = 4 := by
      unfold cv
      (repeat (first | rw [if_pos (by omega)] | rw [if_neg (by omega)]))
    rw [r]
    exact farC_40312_1 a b n _ _ (fewC1 a b k k2 j j2 [k, j, j2, k2] (by simp only [srtU]; (repeat (first | rw [insU_nil] | rw [insU_lt (by omega)] | rw [insU_eq (by omega)] | rw [insU_gt (by omega)]))) 0 3 1 2 (by (repeat (first | rw [ixI_pos (by omega)] | rw [ixI_neg (by omega)])); try rfl) (by (repeat (first | rw [ixI_pos (by omega)] | rw [ixI_neg (by omega)])); try rfl) (by (repeat (first | rw [ixI_pos (by omega)] | rw [ixI_neg (by omega)])); try rfl) (by (repeat (first | rw [ixI_pos (by omega)] | rw [ixI_neg (by omega)])); try rfl))
  · have r : cv k k2 j j2 = 4 := by
      unfold cv
      (repeat (first | rw [if_pos (by omega)] | rw [if_neg (by omega)]))
    rw [r]
    exact farC_41203_1 a b n _ _ (fewC1 a b k k2 j j2 [j, k, k2, j2] (by simp only [srtU]; (repeat (first | rw [insU_nil] | rw [insU_lt (by omega)] | rw [insU_eq (by omega)] | rw [insU_gt (by omega)]))) 1 2 0 3 (by (repeat (first | rw [ixI_pos (by omega)] | rw [ixI_neg (by omega)])); try rfl) (by (repeat (first | rw [ixI_pos (by omega)] | rw [ixI_neg (by omega)])); try rfl) (by (repeat (first | rw [ixI_pos (by omega)] | rw [ixI_neg (by omega)])); try rfl) (by (repeat (first | rw [ixI_pos (by omega)] | rw [ixI_neg (by omega)])); try rfl))
theorem farC_20101_2 (p q a b n : Int) (one other : D) (hf : m__law_few [.str ("crossed" : Str), one, other] [.lst [.int p, .int q], .lst [.int a, .int b]] = some (.tup [.int 2, .tup [.int 0, .int 1], .tup [.int 0, .int 1]], [.lst [.int p, .int q], .lst [.int a, .int b]])) : m__law_far_due [.str ("crossed" : Str), .int n, one, other] [.lst [.int p, .int q], .lst [.int a, .int b]] = some (.tup [.int 1, .int 2], [.lst [.int p, .int q], .lst [.int a, .int b]]) := by
  unfold m__law_far_due
  refine runA_of (S1 := [.lst [.int p, .int q], .lst [.int a, .int b]]) (d1 := .tup [.int 1, .int 2]) ?_ (finAb_ok rfl)
  show (match (sSeq _ _ [some (.str ("crossed" : Str)), some (.int n), some one, some other, none, none, none, none, none, none, none, none] [.lst [.int p, .int q], .lst [.int a, .int b]]) with | some (.rt d, S1) => some (d, S1) | some (.nx _, S1) => some (.non, S1) | _ => none) = _
  rw [v_seqR (x := .tup [.int 1, .int 2]) (S1 := [.lst [.int p, .int q], .lst [.int a, .int b]]) (v_ifT (S1 := [.lst [.int p, .int q], .lst [.int a, .int b]]) (by kernel_rfl) (v_seq (e1 := [some (.str ("crossed" : Str)), some (.int n), some one, some other, some (.int 2), some (.tup [.int 0, .int 1]), some (.tup [.int 0, .int 1]), none, none, none, none, none]) (S1 := [.lst [.int p, .int q], .lst [.int a, .int b]]) (v_asg3 (v_call3 (v_var rfl) (v_var rfl) (v_var rfl) hf)) (by kernel_rfl)))]
theorem farC_30102_2 (p q a b n : Int) (one other : D) (hf : m__law_few [.str ("crossed" : Str), one, other] [.lst [.int p, .int q], .lst [.int a, .int b]] = some (.tup [.int 3, .tup [.int 0, .int 1], .tup [.int 0, .int 2]], [.lst [.int p, .int q], .lst [.int a, .int b]])) : m__law_far_due [.str ("crossed" : Str), .int n, one, other] [.lst [.int p, .int q], .lst [.int a, .int b]] = some (.tup [.int 1, .int 3], [.lst [.int p, .int q], .lst [.int a, .int b]]) := by
  unfold m__law_far_due
  refine runA_of (S1 := [.lst [.int p, .int q], .lst [.int a, .int b]]) (d1 := .tup [.int 1, .int 3]) ?_ (finAb_ok rfl)
  show (match (sSeq _ _ [some (.str ("crossed" : Str)), some (.int n), some one, some other, none, none, none, none, none, none, none, none] [.lst [.int p, .int q], .lst [.int a, .int b]]) with | some (.rt d, S1) => some (d, S1) | some (.nx _, S1) => some (.non, S1) | _ => none) = _
  rw [v_seqR (x := .tup [.int 1, .int 3]) (S1 := [.lst [.int p, .int q], .lst [.int a, .int b]]) (v_ifT (S1 := [.lst [.int p, .int q], .lst [.int a, .int b]]) (by kernel_rfl) (v_seq (e1 := [some (.str ("crossed" : Str)), some (.int n), some one, some other, some (.int 3), some (.tup [.int 0, .int 1]), some (.tup [.int 0, .int 2]), none, none, none, none, none]) (S1 := [.lst [.int p, .int q], .lst [.int a, .int b]]) (v_asg3 (v_call3 (v_var rfl) (v_var rfl) (v_var rfl) hf)) (by kernel_rfl)))]
theorem farC_30201_2 (p q a b n : Int) (one other : D) (hf : m__law_few [.str ("crossed" : Str), one, other] [.lst [.int p, .int q], .lst [.int a, .int b]] = some (.tup [.int 3, .tup [.int 0, .int 2], .tup [.int 0, .int 1]], [.lst [.int p, .int q], .lst [.int a, .int b]])) : m__law_far_due [.str ("crossed" : Str), .int n, one, other] [.lst [.int p, .int q], .lst [.int a, .int b]] = some (.tup [.int 1, .int 3], [.lst [.int p, .int q], .lst [.int a, .int b]]) := by
  unfold m__law_far_due
  refine runA_of (S1 := [.lst [.int p, .int q], .lst [.int a, .int b]]) (d1 := .tup [.int 1, .int 3]) ?_ (finAb_ok rfl)
  show (match (sSeq _ _ [some (.str ("crossed" : Str)), some (.int n), some one, some other, none, none, none, none, none, none, none, none] [.lst [.int p, .int q], .lst [.int a, .int b]]) with | some (.rt d, S1) => some (d, S1) | some (.nx _, S1) => some (.non, S1) | _ => none) = _
  rw [v_seqR (x := .tup [.int 1, .int 3]) (S1 := [.lst [.int p, .int q], .lst [.int a, .int b]]) (v_ifT (S1 := [.lst [.int p, .int q], .lst [.int a, .int b]]) (by kernel_rfl) (v_seq (e1 := [some (.str ("crossed" : Str)), some (.int n), some one, some other, some (.int 3), some (.tup [.int 0, .int 2]), some (.tup [.int 0, .int 1]), none, none, none, none, none]) (S1 := [.lst [.int p, .int q], .lst [.int a, .int b]]) (v_asg3 (v_call3 (v_var rfl) (v_var rfl) (v_var rfl) hf)) (by kernel_rfl)))]
theorem farC_30212_2 (p q a b n : Int) (one other : D) (hf : m__law_few [.str ("crossed" : Str), one, other] [.lst [.int p, .int q], .lst [.int a, .int b]] = some (.tup [.int 3, .tup [.int 0, .int 2], .tup [.int 1, .int 2]], [.lst [.int p, .int q], .lst [.int a, .int b]])) : m__law_far_due [.str ("crossed" : Str), .int n, one, other] [.lst [.int p, .int q], .lst [.int a, .int b]] = some (.tup [.int 1, .int 3], [.lst [.int p, .int q], .lst [.int a, .int b]]) := by
  unfold m__law_far_due
  refine runA_of (S1 := [.lst [.int p, .int q], .lst [.int a, .int b]]) (d1 := .tup [.int 1, .int 3]) ?_ (finAb_ok rfl)
  show (match (sSeq _ _ [some (.str ("crossed" : Str)), some (.int n), some one, some other, none, none, none, none, none, none, none, none] [.lst [.int p, .int q], .lst [.int a, .int b]]) with | some (.rt d, S1) => some (d, S1) | some (.nx _, S1) => some (.non, S1) | _ => none) = _
  rw [v_seqR (x := .tup [.int 1, .int 3]) (S1 := [.lst [.int p, .int q], .lst [.int a, .int b]]) (v_ifT (S1 := [.lst [.int p, .int q], .lst [.int a, .int b]]) (by kernel_rfl) (v_seq (e1 := [some (.str ("crossed" : Str)), some (.int n), some one, some other, some (.int 3), some (.tup [.int 0, .int 2]), some (.tup [.int 1, .int 2]), none, none, none, none, none]) (S1 := [.lst [.int p, .int q], .lst [.int a, .int b]]) (v_asg3 (v_call3 (v_var rfl) (v_var rfl) (v_var rfl) hf)) (by kernel_rfl)))]
theorem farC_31202_2 (p q a b n : Int) (one other : D) (hf : m__law_few [.str ("crossed" : Str), one, other] [.lst [.int p, .int q], .lst [.int a, .int b]] = some (.tup [.int 3, .tup [.int 1, .int 2], .tup [.int 0, .int 2]], [.lst [.int p, .int q], .lst [.int a, .int b]])) : m__law_far_due [.str ("crossed" : Str), .int n, one, other] [.lst [.int p, .int q], .lst [.int a, .int b]] = some (.tup [.int 1, .int 3], [.lst [.int p, .int q], .lst [.int a, .int b]]) := by
  unfold m__law_far_due
  refine runA_of (S1 := [.lst [.int p, .int q], .lst [.int a, .int b]]) (d1 := .tup [.int 1, .int 3]) ?_ (finAb_ok rfl)
  show (match (sSeq _ _ [some (.str ("crossed" : Str)), some (.int n), some one, some other, none, none, none, none, none, none, none, none] [.lst [.int p, .int q], .lst [.int a, .int b]]) with | some (.rt d, S1) => some (d, S1) | some (.nx _, S1) => some (.non, S1) | _ => none) = _
  rw [v_seqR (x := .tup [.int 1, .int 3]) (S1 := [.lst [.int p, .int q], .lst [.int a, .int b]]) (v_ifT (S1 := [.lst [.int p, .int q], .lst [.int a, .int b]]) (by kernel_rfl) (v_seq (e1 := [some (.str ("crossed" : Str)), some (.int n), some one, some other, some (.int 3), some (.tup [.int 1, .int 2]), some (.tup [.int 0, .int 2]), none, none, none, none, none]) (S1 := [.lst [.int p, .int q], .lst [.int a, .int b]]) (v_asg3 (v_call3 (v_var rfl) (v_var rfl) (v_var rfl) hf)) (by kernel_rfl)))]
theorem farC_30112_2 (p q a b n : Int) (one other : D) (hf : m__law_few [.str ("crossed" : Str), one, other] [.lst [.int p, .int q], .lst [.int a, .int b]] = some (.tup [.int 3, .tup [.int 0, .int 1], .tup [.int 1, .int 2]], [.lst [.int p, .int q], .lst [.int a, .int b]])) : m__law_far_due [.str ("crossed" : Str), .int n, one, other] [.lst [.int p, .int q], .lst [.int a, .int b]] = some (.tup [.int 1, .int 6], [.lst [.int p, .int q], .lst [.int a, .int b]]) := by
  unfold m__law_far_due
  refine runA_of (S1 := [.lst [.int p, .int q], .lst [.int a, .int b]]) (d1 := .tup [.int 1, .int 6]) ?_ (finAb_ok rfl)
  show (match (sSeq _ _ [some (.str ("crossed" : Str)), some (.int n), some one, some other, none, none, none, none, none, none, none, none] [.lst [.int p, .int q], .lst [.int a, .int b]]) with | some (.rt d, S1) => some (d, S1) | some (.nx _, S1) => some (.non, S1) | _ => none) = _
  rw [v_seqR (x := .tup [.int 1, .int 6]) (S1 := [.lst [.int p, .int q], .lst [.int a, .int b]]) (v_ifT (S1 := [.lst [.int p, .int q], .lst [.int a, .int b]]) (by kernel_rfl) (v_seq (e1 := [some (.str ("crossed" : Str)), some (.int n), some one, some other, some (.int 3), some (.tup [.int 0, .int 1]), some (.tup [.int 1, .int 2]), none, none, none, none, none]) (S1 := [.lst [.int p, .int q], .lst [.int a, .int b]]) (v_asg3 (v_call3 (v_var rfl) (v_var rfl) (v_var rfl) hf)) (by kernel_rfl)))]
theorem farC_31201_2 (p q a b n : Int) (one other : D) (hf : m__law_few [.str ("crossed" : Str), one, other] [.lst [.int p, .int q], .lst [.int a, .int b]] = some (.tup [.int 3, .tup [.int 1, .int 2], .tup [.int 0, .int 1]], [.lst [.int p, .int q], .lst [.int a, .int b]])) : m__law_far_due [.str ("crossed" : Str), .int n, one, other] [.lst [.int p, .int q], .lst [.int a, .int b]] = some (.tup [.int 1, .int 6], [.lst [.int p, .int q], .lst [.int a, .int b]]) := by
  unfold m__law_far_due
  refine runA_of (S1 := [.lst [.int p, .int q], .lst [.int a, .int b]]) (d1 := .tup [.int 1, .int 6]) ?_ (finAb_ok rfl)
  show (match (sSeq _ _ [some (.str ("crossed" : Str)), some (.int n), some one, some other, none, none, none, none, none, none, none, none] [.lst [.int p, .int q], .lst [.int a, .int b]]) with | some (.rt d, S1) => some (d, S1) | some (.nx _, S1) => some (.non, S1) | _ => none) = _
  rw [v_seqR (x := .tup [.int 1, .int 6]) (S1 := [.lst [.int p, .int q], .lst [.int a, .int b]]) (v_ifT (S1 := [.lst [.int p, .int q], .lst [.int a, .int b]]) (by kernel_rfl) (v_seq (e1 := [some (.str ("crossed" : Str)), some (.int n), some one, some other, some (.int 3), some (.tup [.int 1, .int 2]), some (.tup [.int 0, .int 1]), none, none, none, none, none]) (S1 := [.lst [.int p, .int q], .lst [.int a, .int b]]) (v_asg3 (v_call3 (v_var rfl) (v_var rfl) (v_var rfl) hf)) (by kernel_rfl)))]
theorem farC_40123_2 (p q a b n : Int) (one other : D) (hf : m__law_few [.str ("crossed" : Str), one, other] [.lst [.int p, .int q], .lst [.int a, .int b]] = some (.tup [.int 4, .tup [.int 0, .int 1], .tup [.int 2, .int 3]], [.lst [.int p, .int q], .lst [.int a, .int b]])) : m__law_far_due [.str ("crossed" : Str), .int n, one, other] [.lst [.int p, .int q], .lst [.int a, .int b]] = some (.tup [.int 1, .int 4], [.lst [.int p, .int q], .lst [.int a, .int b]]) := by
  unfold m__law_far_due
  refine runA_of (S1 := [.lst [.int p, .int q], .lst [.int a, .int b]]) (d1 := .tup [.int 1, .int 4]) ?_ (finAb_ok rfl)
  show (match (sSeq _ _ [some (.str ("crossed" : Str)), some (.int n), some one, some other, none, none, none, none, none, none, none, none] [.lst [.int p, .int q], .lst [.int a, .int b]]) with | some (.rt d, S1) => some (d, S1) | some (.nx _, S1) => some (.non, S1) | _ => none) = _
  rw [v_seqR (x := .tup [.int 1, .int 4]) (S1 := [.lst [.int p, .int q], .lst [.int a, .int b]]) (v_ifT (S1 := [.lst [.int p, .int q], .lst [.int a, .int b]]) (by kernel_rfl) (v_seq (e1 := [some (.str ("crossed" : Str)), some (.int n), some one, some other, some (.int 4), some (.tup [.int 0, .int 1]), some (.tup [.int 2, .int 3]), none, none, none, none, none]) (S1 := [.lst [.int p, .int q], .lst [.int a, .int b]]) (v_asg3 (v_call3 (v_var rfl) (v_var rfl) (v_var rfl) hf)) (by kernel_rfl)))]
theorem farC_42301_2 (p q a b n : Int) (one other : D) (hf : m__law_few [.str ("crossed" : Str), one, other] [.lst [.int p, .int q], .lst [.int a, .int b]] = some (.tup [.int 4, .tup [.int 2, .int 3], .tup [.int 0, .int 1]], [.lst [.int p, .int q], .lst [.int a, .int b]])) : m__law_far_due [.str ("crossed" : Str), .int n, one, other] [.lst [.int p, .int q], .lst [.int a, .int b]] = some (.tup [.int 1, .int 4], [.lst [.int p, .int q], .lst [.int a, .int b]]) := by
  unfold m__law_far_due
  refine runA_of (S1 := [.lst [.int p, .int q], .lst [.int a, .int b]]) (d1 := .tup [.int 1, .int 4]) ?_ (finAb_ok rfl)
  show (match (sSeq _ _ [some (.str ("crossed" : Str)), some (.int n), some one, some other, none, none, none, none, none, none, none, none] [.lst [.int p, .int q], .lst [.int a, .int b]]) with | some (.rt d, S1) => some (d, S1) | some (.nx _, S1) => some (.non, S1) | _ => none) = _
  rw [v_seqR (x := .tup [.int 1, .int 4]) (S1 := [.lst [.int p, .int q], .lst [.int a, .int b]]) (v_ifT (S1 := [.lst [.int p, .int q], .lst [.int a, .int b]]) (by kernel_rfl) (v_seq (e1 := [some (.str ("crossed" : Str)), some (.int n), some one, some other, some (.int 4), some (.tup [.int 2, .int 3]), some (.tup [.int 0, .int 1]), none, none, none, none, none]) (S1 := [.lst [.int p, .int q], .lst [.int a, .int b]]) (v_asg3 (v_call3 (v_var rfl) (v_var rfl) (v_var rfl) hf)) (by kernel_rfl)))]
theorem farC_40213_2 (p q a b n : Int) (one other : D) (hf : m__law_few [.str ("crossed" : Str), one, other] [.lst [.int p, .int q], .lst [.int a, .int b]] = some (.tup [.int 4, .tup [.int 0, .int 2], .tup [.int 1, .int 3]], [.lst [.int p, .int q], .lst [.int a, .int b]])) : m__law_far_due [.str ("crossed" : Str), .int n, one, other] [.lst [.int p, .int q], .lst [.int a, .int b]] = some (.tup [.int 1, .int 4], [.lst [.int p, .int q], .lst [.int a, .int b]]) := by
  unfold m__law_far_due
  refine runA_of (S1 := [.lst [.int p, .int q], .lst [.int a, .int b]]) (d1 := .tup [.int 1, .int 4]) ?_ (finAb_ok rfl)
  show (match (sSeq _ _ [some (.str ("crossed" : Str)), some (.int n), some one, some other, none, none, none, none, none, none, none, none] [.lst [.int p, .int q], .lst [.int a, .int b]]) with | some (.rt d, S1) => some (d, S1) | some (.nx _, S1) => some (.non, S1) | _ => none) = _
  rw [v_seqR (x := .tup [.int 1, .int 4]) (S1 := [.lst [.int p, .int q], .lst [.int a, .int b]]) (v_ifT (S1 := [.lst [.int p, .int q], .lst [.int a, .int b]]) (by kernel_rfl) (v_seq (e1 := [some (.str ("crossed" : Str)), some (.int n), some one, some other, some (.int 4), some (.tup [.int 0, .int 2]), some (.tup [.int 1, .int 3]), none, none, none, none, none]) (S1 := [.lst [.int p, .int q], .lst [.int a, .int b]]) (v_asg3 (v_call3 (v_var rfl) (v_var rfl) (v_var rfl) hf)) (by kernel_rfl)))]
theorem farC_41302_2 (p q a b n : Int) (one other : D) (hf : m__law_few [.str ("crossed" : Str), one, other] [.lst [.int p, .int q], .lst [.int a, .int b]] = some (.tup [.int 4, .tup [.int 1, .int 3], .tup [.int 0, .int 2]], [.lst [.int p, .int q], .lst [.int a, .int b]])) : m__law_far_due [.str ("crossed" : Str), .int n, one, other] [.lst [.int p, .int q], .lst [.int a, .int b]] = some (.tup [.int 1, .int 4], [.lst [.int p, .int q], .lst [.int a, .int b]]) := by
  unfold m__law_far_due
  refine runA_of (S1 := [.lst [.int p, .int q], .lst [.int a, .int b]]) (d1 := .tup [.int 1, .int 4]) ?_ (finAb_ok rfl)
  show (match (sSeq _ _ [some (.str ("crossed" : Str)), some (.int n), some one, some other, none, none, none, none, none, none, none, none] [.lst [.int p, .int q], .lst [.int a, .int b]]) with | some (.rt d, S1) => some (d, S1) | some (.nx _, S1) => some (.non, S1) | _ => none) = _
  rw [v_seqR (x := .tup [.int 1, .int 4]) (S1 := [.lst [.int p, .int q], .lst [.int a, .int b]]) (v_ifT (S1 := [.lst [.int p, .int q], .lst [.int a, .int b]]) (by kernel_rfl) (v_seq (e1 := [some (.str ("crossed" : Str)), some (.int n), some one, some other, some (.int 4), some (.tup [.int 1, .int 3]), some (.tup [.int 0, .int 2]), none, none, none, none, none]) (S1 := [.lst [.int p, .int q], .lst [.int a, .int b]]) (v_asg3 (v_call3 (v_var rfl) (v_var rfl) (v_var rfl) hf)) (by kernel_rfl)))]
theorem farC_40312_2 (p q a b n : Int) (one other : D) (hf : m__law_few [.str ("crossed" : Str), one, other] [.lst [.int p, .int q], .lst [.int a, .int b]] = some (.tup [.int 4, .tup [.int 0, .int 3], .tup [.int 1, .int 2]], [.lst [.int p, .int q], .lst [.int a, .int b]])) : m__law_far_due [.str ("crossed" : Str), .int n, one, other] [.lst [.int p, .int q], .lst [.int a, .int b]] = some (.tup [.int 1, .int 4], [.lst [.int p, .int q], .lst [.int a, .int b]]) := by
  unfold m__law_far_due
  refine runA_of (S1 := [.lst [.int p, .int q], .lst [.int a, .int b]]) (d1 := .tup [.int 1, .int 4]) ?_ (finAb_ok rfl)
  show (match (sSeq _ _ [some (.str ("crossed" : Str)), some (.int n), some one, some other, none, none, none, none, none, none, none, none] [.lst [.int p, .int q], .lst [.int a, .int b]]) with | some (.rt d, S1) => some (d, S1) | some (.nx _, S1) => some (.non, S1) | _ => none) = _
  rw [v_seqR (x := .tup [.int 1, .int 4]) (S1 := [.lst [.int p, .int q], .lst [.int a, .int b]]) (v_ifT (S1 := [.lst [.int p, .int q], .lst [.int a, .int b]]) (by kernel_rfl) (v_seq (e1 := [some (.str ("crossed" : Str)), some (.int n), some one, some other, some (.int 4), some (.tup [.int 0, .int 3]), some (.tup [.int 1, .int 2]), none, none, none, none, none]) (S1 := [.lst [.int p, .int q], .lst [.int a, .int b]]) (v_asg3 (v_call3 (v_var rfl) (v_var rfl) (v_var rfl) hf)) (by kernel_rfl)))]
theorem farC_41203_2 (p q a b n : Int) (one other : D) (hf : m__law_few [.str ("crossed" : Str), one, other] [.lst [.int p, .int q], .lst [.int a, .int b]] = some (.tup [.int 4, .tup [.int 1, .int 2], .tup [.int 0, .int 3]], [.lst [.int p, .int q], .lst [.int a, .int b]])) : m__law_far_due [.str ("crossed" : Str), .int n, one, other] [.lst [.int p, .int q], .lst [.int a, .int b]] = some (.tup [.int 1, .int 4], [.lst [.int p, .int q], .lst [.int a, .int b]]) := by
  unfold m__law_far_due
  refine runA_of (S1 := [.lst [.int p, .int q], .lst [.int a, .int b]]) (d1 := .tup [.int 1, .int 4]) ?_ (finAb_ok rfl)
  show (match (sSeq _ _ [some (.str ("crossed" : Str)), some (.int n), some one, some other, none, none, none, none, none, none, none, none] [.lst [.int p, .int q], .lst [.int a, .int b]]) with | some (.rt d, S1) => some (d, S1) | some (.nx _, S1) => some (.non, S1) | _ => none) = _
  rw [v_seqR (x := .tup [.int 1, .int 4]) (S1 := [.lst [.int p, .int q], .lst [.int a, .int b]]) (v_ifT (S1 := [.lst [.int p, .int q], .lst [.int a, .int b]]) (by kernel_rfl) (v_seq (e1 := [some (.str ("crossed" : Str)), some (.int n), some one, some other, some (.int 4), some (.tup [.int 1, .int 2]), some (.tup [.int 0, .int 3]), none, none, none, none, none]) (S1 := [.lst [.int p, .int q], .lst [.int a, .int b]]) (v_asg3 (v_call3 (v_var rfl) (v_var rfl) (v_var rfl) hf)) (by kernel_rfl)))]
theorem crossed2_2 (p q a b k k2 j j2 : Int) (h : ¬ (k = j ∧ k2 = j2)) : m_both_crossed [.tup [.int k, .int k2], .tup [.int j, .int j2]] [.lst [.int p, .int q], .lst [.int a, .int b]] = some (.tup [.int 1, .int (cv k k2 j j2)], [.lst [.int p, .int q], .lst [.int a, .int b]]) := by
  unfold m_both_crossed
  refine runA_of (S1 := [.lst [.int p, .int q], .lst [.int a, .int b]]) (d1 := .tup [.int 1, .int (cv k k2 j j2)]) ?_ (finAb_ok rfl)
  show (match (sSeq _ _ [some (.tup [.int k, .int k2]), some (.tup [.int j, .int j2])] [.lst [.int p, .int q], .lst [.int a, .int b]]) with | some (.rt d, S1) => some (d, S1) | some (.nx _, S1) => some (.non, S1) | _ => none) = _
  unfold cv
  rw [if_neg h]
  by_cases c1 : k = j
  · rw [if_pos (Or.inl c1), v_seqR (v_ifT (v_orT (v_tst (v_opS (v_var rfl) v_c rfl) (v_opS (v_var rfl) v_c rfl) (by rw [eqi, decide_eq_true c1]))) (v_ret (v_T2 v_c v_c)))]
  by_cases c2 : k2 = j2
  · rw [if_pos (Or.inr c2), v_seqR (v_ifT (v_orF (v_tst (v_opS (v_var rfl) v_c rfl) (v_opS (v_var rfl) v_c rfl) (by rw [eqi, decide_eq_false c1])) (v_tst (v_opS (v_var rfl) v_c rfl) (v_opS (v_var rfl) v_c rfl) (by rw [eqi, decide_eq_true c2]))) (v_ret (v_T2 v_c v_c)))]
  rw [if_neg (by omega), v_seq (v_ifFp (v_orF (v_tst (v_opS (v_var rfl) v_c rfl) (v_opS (v_var rfl) v_c rfl) (by rw [eqi, decide_eq_false c1])) (v_tst (v_opS (v_var rfl) v_c rfl) (v_opS (v_var rfl) v_c rfl) (by rw [eqi, decide_eq_false c2])))) rfl]
  by_cases c3 : k2 = j
  · rw [if_pos (Or.inl c3), v_seqR (v_ifT (v_orT (v_tst (v_opS (v_var rfl) v_c rfl) (v_opS (v_var rfl) v_c rfl) (by rw [eqi, decide_eq_true c3]))) (v_ret (v_T2 v_c v_c)))]
  by_cases c4 : k = j2
  · rw [if_pos (Or.inr c4), v_seqR (v_ifT (v_orF (v_tst (v_opS (v_var rfl) v_c rfl) (v_opS (v_var rfl) v_c rfl) (by rw [eqi, decide_eq_false c3])) (v_tst (v_opS (v_var rfl) v_c rfl) (v_opS (v_var rfl) v_c rfl) (by rw [eqi, decide_eq_true c4]))) (v_ret (v_T2 v_c v_c)))]
  rw [if_neg (by omega), v_seq (v_ifFp (v_orF (v_tst (v_opS (v_var rfl) v_c rfl) (v_opS (v_var rfl) v_c rfl) (by rw [eqi, decide_eq_false c3])) (v_tst (v_opS (v_var rfl) v_c rfl) (v_opS (v_var rfl) v_c rfl) (by rw [eqi, decide_eq_false c4])))) (v_ret (v_T2 v_c v_c))]
theorem both_crossed2 (p q a b n k k2 j j2 : Int) : m_both_share [.str ("crossed" : Str), .int n, .tup [.int k, .int k2], .tup [.int j, .int j2]] [.lst [.int p, .int q], .lst [.int a, .int b]] = some (.tup [.int 1, .int (cv k k2 j j2)], [.lst [.int p, .int q], .lst [.int a, .int b]]) := by
  unfold m_both_share
  refine runA_of (S1 := [.lst [.int p, .int q], .lst [.int a, .int b]]) (d1 := .tup [.int 1, .int (cv k k2 j j2)]) ?_ (finAb_ok rfl)
  show (match (sSeq _ _ [some (.str ("crossed" : Str)), some (.int n), some (.tup [.int k, .int k2]), some (.tup [.int j, .int j2])] [.lst [.int p, .int q], .lst [.int a, .int b]]) with | some (.rt d, S1) => some (d, S1) | some (.nx _, S1) => some (.non, S1) | _ => none) = _
  by_cases e : k = j ∧ k2 = j2
  · have r : cv k k2 j j2 = 2 := by unfold cv; rw [if_pos e]
    rw [r, v_seqR (v_ifT (v_tst (v_var rfl) (v_var rfl) (by rw [eq2, decide_eq_true e])) (v_ret (v_call3 (v_var rfl) (v_var rfl) (v_var rfl) (one_crossed2 p q a b n k k2))))]
  · rw [v_seq (v_ifFp (v_tst (v_var rfl) (v_var rfl) (by rw [eq2, decide_eq_false e]))) (v_seq (v_ifFp (v_tst (v_var rfl) v_c (by kernel_rfl))) (v_seq (v_ifFp (v_tst (v_var rfl) v_c (by kernel_rfl))) (v_seqR (v_ifT (v_tst (v_var rfl) v_c (by kernel_rfl)) (v_ret (v_call2 (v_var rfl) (v_var rfl) (crossed2_2 p q a b k k2 j j2 e)))))))]
theorem far_crossed2 (p q a b n k k2 j j2 : Int) (h1 : k < k2) (h2 : j < j2) : m__law_far_due [.str ("crossed" : Str), .int n, .tup [.int k, .int k2], .tup [.int j, .int j2]] [.lst [.int p, .int q], .lst [.int a, .int b]] = some (.tup [.int 1, .int (cv k k2 j j2)], [.lst [.int p, .int q], .lst [.int a, .int b]]) := by
  have h : (k = j ∧ k2 = j2) ∨ (k = j ∧ k2 < j2) ∨ (k = j ∧ j2 < k2) ∨ (k2 = j2 ∧ k < j) ∨ (k2 = j2 ∧ j < k) ∨ (k2 = j ∧ k < k2) ∨ (k = j2 ∧ k < k2) ∨ (k2 < j ∧ k < k2) ∨ (j2 < k ∧ k < k2) ∨ (k < j ∧ j < k2 ∧ k2 < j2) ∨ (j < k ∧ k < j2 ∧ j2 < k2) ∨ (k < j ∧ j2 < k2) ∨ (j < k ∧ k2 < j2) := by omega
  rcases h with ⟨z0, z1⟩ | ⟨z0, z1⟩ | ⟨z0, z1⟩ | ⟨z0, z1⟩ | ⟨z0, z1⟩ | ⟨z0, z1⟩ | ⟨z0, z1⟩ | ⟨z0, z1⟩ | ⟨z0, z1⟩ | ⟨z0, z1, z2⟩ | ⟨z0, z1, z2⟩ | ⟨z0, z1⟩ | ⟨z0, z1⟩
  · have r : cv k k2 j j2 = 2 := by
      unfold cv
      (repeat (first | rw [if_pos (by omega)] | rw [if_neg (by omega)]))
    rw [r]
    subst z0
    subst z1
    exact farC_20101_2 p q a b n _ _ (fewC2 p q a b k k2 k k2 [k, k2] (by simp only [srtU]; (repeat (first | rw [insU_nil] | rw [insU_lt (by omega)] | rw [insU_eq (by omega)] | rw [insU_gt (by omega)]))) 0 1 0 1 (by (repeat (first | rw [ixI_pos (by omega)] | rw [ixI_neg (by omega)])); try rfl) (by (repeat (first | rw [ixI_pos (by omega)] | rw [ixI_neg (by omega)])); try rfl) (by (repeat (first | rw [ixI_pos (by omega)] | rw [ixI_neg (by omega)])); try rfl) (by (repeat (first | rw [ixI_pos (by omega)] | rw [ixI_neg (by omega)])); try rfl))
  · have r : cv k k2 j j2 = 3 := by
      unfold cv
      (repeat (first | rw [if_pos (by omega)] | rw [if_neg (by omega)]))
    rw [r]
    subst z0
    exact farC_30102_2 p q a b n _ _ (fewC2 p q a b k k2 k j2 [k, k2, j2] (by simp only [srtU]; (repeat (first | rw [insU_nil] | rw [insU_lt (by omega)] | rw [insU_eq (by omega)] | rw [insU_gt (by omega)]))) 0 1 0 2 (by (repeat (first | rw [ixI_pos (by omega)] | rw [ixI_neg (by omega)])); try rfl) (by (repeat (first | rw [ixI_pos (by omega)] | rw [ixI_neg (by omega)])); try rfl) (by (repeat (first | rw [ixI_pos (by omega)] | rw [ixI_neg (by omega)])); try rfl) (by (repeat (first | rw [ixI_pos (by omega)] | rw [ixI_neg (by omega)])); try rfl))
  · have r : cv k k2 j j2 = 3 := by
      unfold cv
      (repeat (first | rw [if_pos (by omega)] | rw [if_neg (by omega)]))
    rw [r]
    subst z0
    exact farC_30201_2 p q a b n _ _ (fewC2 p q a b k k2 k j2 [k, j2, k2] (by simp only [srtU]; (repeat (first | rw [insU_nil] | rw [insU_lt (by omega)] | rw [insU_eq (by omega)] | rw [insU_gt (by omega)]))) 0 2 0 1 (by (repeat (first | rw [ixI_pos (by omega)] | rw [ixI_neg (by omega)])); try rfl) (by (repeat (first | rw [ixI_pos (by omega)] | rw [ixI_neg (by omega)])); try rfl) (by (repeat (first | rw [ixI_pos (by omega)] | rw [ixI_neg (by omega)])); try rfl) (by (repeat (first | rw [ixI_pos (by omega)] | rw [ixI_neg (by omega)])); try rfl))
  · have r : cv k k2 j j2 = 3 := by
      unfold cv
      (repeat (first | rw [if_pos (by omega)] | rw [if_neg (by omega)]))
    rw [r]
    subst z0
    exact farC_30212_2 p q a b n _ _ (fewC2 p q a b k k2 j k2 [k, j, k2] (by simp only [srtU]; (repeat (first | rw [insU_nil] | rw [insU_lt (by omega)] | rw [insU_eq (by omega)] | rw [insU_gt (by omega)]))) 0 2 1 2 (by (repeat (first | rw [ixI_pos (by omega)] | rw [ixI_neg (by omega)])); try rfl) (by (repeat (first | rw [ixI_pos (by omega)] | rw [ixI_neg (by omega)])); try rfl) (by (repeat (first | rw [ixI_pos (by omega)] | rw [ixI_neg (by omega)])); try rfl) (by (repeat (first | rw [ixI_pos (by omega)] | rw [ixI_neg (by omega)])); try rfl))
  · have r : cv k k2 j j2 = 3 := by
      unfold cv
      (repeat (first | rw [if_pos (by omega)] | rw [if_neg (by omega)]))
    rw [r]
    subst z0
    exact farC_31202_2 p q a b n _ _ (fewC2 p q a b k k2 j k2 [j, k, k2] (by simp only [srtU]; (repeat (first | rw [insU_nil] | rw [insU_lt (by omega)] | rw [insU_eq (by omega)] | rw [insU_gt (by omega)]))) 1 2 0 2 (by (repeat (first | rw [ixI_pos (by omega)] | rw [ixI_neg (by omega)])); try rfl) (by (repeat (first | rw [ixI_pos (by omega)] | rw [ixI_neg (by omega)])); try rfl) (by (repeat (first | rw [ixI_pos (by omega)] | rw [ixI_neg (by omega)])); try rfl) (by (repeat (first | rw [ixI_pos (by omega)] | rw [ixI_neg (by omega)])); try rfl))
  · have r : cv k k2 j j2 = 6 := by
      unfold cv
      (repeat (first | rw [if_pos (by omega)] | rw [if_neg (by omega)]))
    rw [r]
    subst z0
    exact farC_30112_2 p q a b n _ _ (fewC2 p q a b k k2 k2 j2 [k, k2, j2] (by simp only [srtU]; (repeat (first | rw [insU_nil] | rw [insU_lt (by omega)] | rw [insU_eq (by omega)] | rw [insU_gt (by omega)]))) 0 1 1 2 (by (repeat (first | rw [ixI_pos (by omega)] | rw [ixI_neg (by omega)])); try rfl) (by (repeat (first | rw [ixI_pos (by omega)] | rw [ixI_neg (by omega)])); try rfl) (by (repeat (first | rw [ixI_pos (by omega)] | rw [ixI_neg (by omega)])); try rfl) (by (repeat (first | rw [ixI_pos (by omega)] | rw [ixI_neg (by omega)])); try rfl))
  · have r : cv k k2 j j2 = 6 := by
      unfold cv
      (repeat (first | rw [if_pos (by omega)] | rw [if_neg (by omega)]))
    rw [r]
    subst z0
    exact farC_31201_2 p q a b n _ _ (fewC2 p q a b k k2 j k [j, k, k2] (by simp only [srtU]; (repeat (first | rw [insU_nil] | rw [insU_lt (by omega)] | rw [insU_eq (by omega)] | rw [insU_gt (by omega)]))) 1 2 0 1 (by (repeat (first | rw [ixI_pos (by omega)] | rw [ixI_neg (by omega)])); try rfl) (by (repeat (first | rw [ixI_pos (by omega)] | rw [ixI_neg (by omega)])); try rfl) (by (repeat (first | rw [ixI_pos (by omega)] | rw [ixI_neg (by omega)])); try rfl) (by (repeat (first | rw [ixI_pos (by omega)] | rw [ixI_neg (by omega)])); try rfl))
  · have r : cv k k2 j j2 = 4 := by
      unfold cv
      (repeat (first | rw [if_pos (by omega)] | rw [if_neg (by omega)]))
    rw [r]
    exact farC_40123_2 p q a b n _ _ (fewC2 p q a b k k2 j j2 [k, k2, j, j2] (by simp only [srtU]; (repeat (first | rw [insU_nil] | rw [insU_lt (by omega)] | rw [insU_eq (by omega)] | rw [insU_gt (by omega)]))) 0 1 2 3 (by (repeat (first | rw [ixI_pos (by omega)] | rw [ixI_neg (by omega)])); try rfl) (by (repeat (first | rw [ixI_pos (by omega)] | rw [ixI_neg (by omega)])); try rfl) (by (repeat (first | rw [ixI_pos (by omega)] | rw [ixI_neg (by omega)])); try rfl) (by (repeat (first | rw [ixI_pos (by omega)] | rw [ixI_neg (by omega)])); try rfl))
  · have r : cv k k2 j j2 = 4 := by
      unfold cv
      (repeat (first | rw [if_pos (by omega)] | rw [if_neg (by omega)]))
    rw [r]
    exact farC_42301_2 p q a b n _ _ (fewC2 p q a b k k2 j j2 [j, j2, k, k2] (by simp only [srtU]; (repeat (first | rw [insU_nil] | rw [insU_lt (by omega)] | rw [insU_eq (by omega)] | rw [insU_gt (by omega)]))) 2 3 0 1 (by (repeat (first | rw [ixI_pos (by omega)] | rw [ixI_neg (by omega)])); try rfl) (by (repeat (first | rw [ixI_pos (by omega)] | rw [ixI_neg (by omega)])); try rfl) (by (repeat (first | rw [ixI_pos (by omega)] | rw [ixI_neg (by omega)])); try rfl) (by (repeat (first | rw [ixI_pos (by omega)] | rw [ixI_neg (by omega)])); try rfl))
  · have r : cv k k2 j j2 = 4 := by
      unfold cv
      (repeat (first | rw [if_pos (by omega)] | rw [if_neg (by omega)]))
    rw [r]
    exact farC_40213_2 p q a b n _ _ (fewC2 p q a b k k2 j j2 [k, j, k2, j2] (by simp only [srtU]; (repeat (first | rw [insU_nil] | rw [insU_lt (by omega)] | rw [insU_eq (by omega)] | rw [insU_gt (by omega)]))) 0 2 1 3 (by (repeat (first | rw [ixI_pos (by omega)] | rw [ixI_neg (by omega)])); try rfl) (by (repeat (first | rw [ixI_pos (by omega)] | rw [ixI_neg (by omega)])); try rfl) (by (repeat (first | rw [ixI_pos (by omega)] | rw [ixI_neg (by omega)])); try rfl) (by (repeat (first | rw [ixI_pos (by omega)] | rw [ixI_neg (by omega)])); try rfl))
  · have r : cv k k2 j j2 = 4 := by
      unfold cv
      (repeat (first | rw [if_pos (by omega)] | rw [if_neg (by omega)]))
    rw [r]
    exact farC_41302_2 p q a b n _ _ (fewC2 p q a b k k2 j j2 [j, k, j2, k2] (by simp only [srtU]; (repeat (first | rw [insU_nil] | rw [insU_lt (by omega)] | rw [insU_eq (by omega)] | rw [insU_gt (by omega)]))) 1 3 0 2 (by (repeat (first | rw [ixI_pos (by omega)] | rw [ixI_neg (by omega)])); try rfl) (by (repeat (first | rw [ixI_pos (by omega)] | rw [ixI_neg (by omega)])); try rfl) (by (repeat (first | rw [ixI_pos (by omega)] | rw [ixI_neg (by omega)])); try rfl) (by (repeat (first | rw [ixI_pos (by omega)] | rw [ixI_neg (by omega)])); try rfl))
  · have r : cv k k2 j j2 = 4 := by
      unfold cv
      (repeat (first | rw [if_pos (by omega)] | rw [if_neg (by omega)]))
    rw [r]
    exact farC_40312_2 p q a b n _ _ (fewC2 p q a b k k2 j j2 [k, j, j2, k2] (by simp only [srtU]; (repeat (first | rw [insU_nil] | rw [insU_lt (by omega)] | rw [insU_eq (by omega)] | rw [insU_gt (by omega)]))) 0 3 1 2 (by (repeat (first | rw [ixI_pos (by omega)] | rw [ixI_neg (by omega)])); try rfl) (by (repeat (first | rw [ixI_pos (by omega)] | rw [ixI_neg (by omega)])); try rfl) (by (repeat (first | rw [ixI_pos (by omega)] | rw [ixI_neg (by omega)])); try rfl) (by (repeat (first | rw [ixI_pos (by omega)] | rw [ixI_neg (by omega)])); try rfl))
  · have r : cv k k2 j j2 = 4 := by
      unfold cv
      (repeat (first | rw [if_pos (by omega)] | rw [if_neg (by omega)]))
    rw [r]
    exact farC_41203_2 p q a b n _ _ (fewC2 p q a b k k2 j j2 [j, k, k2, j2] (by simp only [srtU]; (repeat (first | rw [insU_nil] | rw [insU_lt (by omega)] | rw [insU_eq (by omega)] | rw [insU_gt (by omega)]))) 1 2 0 3 (by (repeat (first | rw [ixI_pos (by omega)] | rw [ixI_neg (by omega)])); try rfl) (by (repeat (first | rw [ixI_pos (by omega)] | rw [ixI_neg (by omega)])); try rfl) (by (repeat (first | rw [ixI_pos (by omega)] | rw [ixI_neg (by omega)])); try rfl) (by (repeat (first | rw [ixI_pos (by omega)] | rw [ixI_neg (by omega)])); try rfl))
theorem same_i1 (a b x : Int) (nn : Nat) : m__law_same (nn + 1) [.int x, .int x] [.lst [.int a, .int b]] = some (.bl true, [.lst [.int a, .int b]]) := by
  unfold m__law_same
  refine runA_of (S1 := [.lst [.int a, .int b]]) (d1 := .bl true) ?_ (finAb_ok rfl)
  have e : hEq (.int x) (.int x) [.lst [.int a, .int b]] = some (.bl true, [.lst [.int a, .int b]]) := by rw [eqi, decide_eq_true rfl]
  exact v_run rfl (v_seq (v_ifFp (v_anF (v_tV (v_call2 (v_var rfl) v_c (by kernel_rfl))))) (v_seq (v_ifFp (v_anF (v_tV (v_call2 (v_var rfl) v_c (by kernel_rfl))))) (v_seqR (v_ifT (v_anT (v_tV (v_call2 (S2 := [.lst [.int a, .int b]]) (v_var rfl) v_c (by kernel_rfl))) (v_tV (v_call2 (S2 := [.lst [.int a, .int b]]) (v_var rfl) v_c (by kernel_rfl)))) (v_ret (v_andT (v_opS (S2 := [.lst [.int a, .int b]]) (r := some (.bl true, [.lst [.int a, .int b]])) (v_call2 (S2 := [.lst [.int a, .int b]]) (r := some (.bl false, [.lst [.int a, .int b]])) (v_var rfl) v_c (by kernel_rfl)) (v_call2 (S2 := [.lst [.int a, .int b]]) (r := some (.bl false, [.lst [.int a, .int b]])) (v_var rfl) v_c (by kernel_rfl)) (by kernel_rfl)) (v_opS (v_var rfl) (v_var rfl) e)))))))
theorem same_t1 (a b x y : Int) : m__law_same 70 [.tup [.int x, .int y], .tup [.int x, .int y]] [.lst [.int a, .int b]] = some (.bl true, [.lst [.int a, .int b]]) := by
  have i1 := same_i1 a b x 68
  have i2 := same_i1 a b y 68
  show m__law_same (69 + 1) _ _ = _
  unfold m__law_same
  refine runA_of (S1 := [.lst [.int a, .int b]]) (d1 := .bl true) ?_ (finAb_ok rfl)
  have lc : eF (fLc [2, 3] (iZp (eVar 0) (eVar 1)) (gTp 2 (gCn (gNm 2) (gCn (gNm 3) gNl))) tYe (eCall (m__law_same 69) (aCons (eVar 2) (aCons (eVar 3) aNil)))) [some (.tup [.int x, .int y]), some (.tup [.int x, .int y]), none, none] [.lst [.int a, .int b]] = some (.lst [.bl true, .bl true], [.lst [.int a, .int b]]) := by
    simp [eF, fLc, iZp, eVar, srcOf, zpSrc, zpD, lcGo, wipeE, gTp, gCn, gNm, gNl, tYe, eCall, aCons, aNil, i1, i2]
  exact v_run rfl (v_seqR (v_ifT (v_anT (v_tV (v_call2 (S2 := [.lst [.int a, .int b]]) (v_var rfl) v_c (by kernel_rfl))) (v_tV (v_call2 (S2 := [.lst [.int a, .int b]]) (v_var rfl) v_c (by kernel_rfl)))) (v_ret (v_andT (v_opS (S2 := [.lst [.int a, .int b]]) (r := some (.bl true, [.lst [.int a, .int b]])) (v_call1 (S1 := [.lst [.int a, .int b]]) (r := some (.int 2, [.lst [.int a, .int b]])) (v_var rfl) (by kernel_rfl)) (v_call1 (S1 := [.lst [.int a, .int b]]) (r := some (.int 2, [.lst [.int a, .int b]])) (v_var rfl) (by kernel_rfl)) (by kernel_rfl)) (v_call1 lc (by kernel_rfl))))))
theorem parts_rounds1 (a b n : Int) (hn : 2 ≤ n) (hn2 : n ≤ 60) : ∃ xs : List D, m__law_parts [.str ("rounds" : Str), .int n] [.lst [.int a, .int b]] = some (.lst xs, [.lst [.int a, .int b]]) ∧ xs ≠ [] ∧ xs.length ≤ 10000 ∧ ∀ x ∈ xs, P1 (n) x := by
  have hpp : ∀ d ∈ rngD 0 n.toNat, ∃ i : Int, d = .int i ∧ 0 ≤ i ∧ i < n := fun d hd => by
    unfold rngD at hd
    obtain ⟨i, hi, rfl⟩ := List.mem_map.mp hd
    have := List.mem_range.mp hi
    exact ⟨_, rfl, by omega, by omega⟩
  have hlen : (rngD 0 n.toNat).length = n.toNat := by simp [rngD]
  have hb : bnd n = true := by unfold bnd; rw [decide_eq_true (by omega), decide_eq_true (by omega)]; rfl
  have lc := lc_pure (vs := [2]) (f := iR1 (eVar 1)) (src := fun _ => some (rngD 0 n.toNat)) (g := gNm 2) (c := tOr' (tV (eOpS hNe (eVar 0) (eC (.str ("rises" : Str))))) (tV (eOp hLtI (eOp hAdd (eVar 2) (eC (.int 1))) (eVar 1)))) (x := eTup (aCons (eVar 2) aNil)) (e := [some (.str ("rounds" : Str)), some (.int n), none, none, none]) (S := [.lst [.int a, .int b]]) (S1 := [.lst [.int a, .int b]])
    (by simp [iR1, eVar, hb]) (fun _ => rfl) (fun d => match d with | .int i => (fun _ => true) (D.tup [D.int i]) | _ => false) (fun d => .tup [d])
    (fun d hd => by
      obtain ⟨i, rfl, h0, h1⟩ := hpp d hd
      refine ⟨[some (.str ("rounds" : Str)), some (.int n), some (.int i), none, none], rfl, v_orT (v_tst (v_var rfl) v_c (by kernel_rfl)), fun _ => ?_⟩
      simp [eTup, aCons, aNil, eVar]) (by rw [hlen]; omega)
  refine ⟨((rngD 0 n.toNat).filter (fun d => match d with | .int i => (fun _ => true) (D.tup [D.int i]) | _ => false)).map (fun d => D.tup [d]), ?_, ?_, ?_, ?_⟩
  · unfold m__law_parts
    refine runA_of (S1 := [.lst [.int a, .int b]]) (d1 := .lst _) ?_ (finAb_ok (fin_val rfl ?_ (fun l z => by cases z)))
    · show (match (sSeq _ _ [some (.str ("rounds" : Str)), some (.int n), none, none, none] [.lst [.int a, .int b]]) with | some (.rt d, S1) => some (d, S1) | some (.nx _, S1) => some (.non, S1) | _ => none) = _
      rw [v_seqR (v_ifT (v_tst (v_var rfl) v_c (by kernel_rfl)) (v_ret (v_F lc)))]
    · exact clLB_all fun x hx => by
        obtain ⟨y, hy, rfl⟩ := List.mem_map.mp hx
        obtain ⟨i, rfl, _⟩ := hpp y (List.mem_filter.mp hy |>.1)
        rfl
  · intro z
    have m0 : D.int 0 ∈ rngD 0 n.toNat := List.mem_map.mpr ⟨0, List.mem_range.mpr (by omega), rfl⟩
    have m1 : D.tup [.int 0] ∈ ((rngD 0 n.toNat).filter (fun d => match d with | .int i => (fun _ => true) (D.tup [D.int i]) | _ => false)).map (fun d => D.tup [d]) := List.mem_map.mpr ⟨.int 0, List.mem_filter.mpr ⟨m0, by first | rfl | exact decide_eq_true (by show (0:Int) + 1 < n; omega)⟩, rfl⟩
    rw [z] at m1
    cases m1
  · rw [List.length_map]
    exact Nat.le_trans (List.length_filter_le _ _) (by rw [hlen]; omega)
  · intro x hx
    obtain ⟨y, hy, rfl⟩ := List.mem_map.mp hx
    obtain ⟨h1, h2⟩ := List.mem_filter.mp hy
    obtain ⟨i, rfl, h3, h4⟩ := hpp y h1
    refine ⟨i, rfl, h3, ?_⟩
    first
      | exact h4
      | (have h5 : decide (i + 1 < n) = true := h2
         have := of_decide_eq_true h5
         omega)
theorem parts_stays1 (a b n : Int) (hn : 2 ≤ n) (hn2 : n ≤ 60) : ∃ xs : List D, m__law_parts [.str ("stays" : Str), .int n] [.lst [.int a, .int b]] = some (.lst xs, [.lst [.int a, .int b]]) ∧ xs ≠ [] ∧ xs.length ≤ 10000 ∧ ∀ x ∈ xs, P1 (n) x := by
  have hpp : ∀ d ∈ rngD 0 n.toNat, ∃ i : Int, d = .int i ∧ 0 ≤ i ∧ i < n := fun d hd => by
    unfold rngD at hd
    obtain ⟨i, hi, rfl⟩ := List.mem_map.mp hd
    have := List.mem_range.mp hi
    exact ⟨_, rfl, by omega, by omega⟩
  have hlen : (rngD 0 n.toNat).length = n.toNat := by simp [rngD]
  have hb : bnd n = true := by unfold bnd; rw [decide_eq_true (by omega), decide_eq_true (by omega)]; rfl
  have lc := lc_pure (vs := [2]) (f := iR1 (eVar 1)) (src := fun _ => some (rngD 0 n.toNat)) (g := gNm 2) (c := tOr' (tV (eOpS hNe (eVar 0) (eC (.str ("rises" : Str))))) (tV (eOp hLtI (eOp hAdd (eVar 2) (eC (.int 1))) (eVar 1)))) (x := eTup (aCons (eVar 2) aNil)) (e := [some (.str ("stays" : Str)), some (.int n), none, none, none]) (S := [.lst [.int a, .int b]]) (S1 := [.lst [.int a, .int b]])
    (by simp [iR1, eVar, hb]) (fun _ => rfl) (fun d => match d with | .int i => (fun _ => true) (D.tup [D.int i]) | _ => false) (fun d => .tup [d])
    (fun d hd => by
      obtain ⟨i, rfl, h0, h1⟩ := hpp d hd
      refine ⟨[some (.str ("stays" : Str)), some (.int n), some (.int i), none, none], rfl, v_orT (v_tst (v_var rfl) v_c (by kernel_rfl)), fun _ => ?_⟩
      simp [eTup, aCons, aNil, eVar]) (by rw [hlen]; omega)
  refine ⟨((rngD 0 n.toNat).filter (fun d => match d with | .int i => (fun _ => true) (D.tup [D.int i]) | _ => false)).map (fun d => D.tup [d]), ?_, ?_, ?_, ?_⟩
  · unfold m__law_parts
    refine runA_of (S1 := [.lst [.int a, .int b]]) (d1 := .lst _) ?_ (finAb_ok (fin_val rfl ?_ (fun l z => by cases z)))
    · show (match (sSeq _ _ [some (.str ("stays" : Str)), some (.int n), none, none, none] [.lst [.int a, .int b]]) with | some (.rt d, S1) => some (d, S1) | some (.nx _, S1) => some (.non, S1) | _ => none) = _
      rw [v_seqR (v_ifT (v_tst (v_var rfl) v_c (by kernel_rfl)) (v_ret (v_F lc)))]
    · exact clLB_all fun x hx => by
        obtain ⟨y, hy, rfl⟩ := List.mem_map.mp hx
        obtain ⟨i, rfl, _⟩ := hpp y (List.mem_filter.mp hy |>.1)
        rfl
  · intro z
    have m0 : D.int 0 ∈ rngD 0 n.toNat := List.mem_map.mpr ⟨0, List.mem_range.mpr (by omega), rfl⟩
    have m1 : D.tup [.int 0] ∈ ((rngD 0 n.toNat).filter (fun d => match d with | .int i => (fun _ => true) (D.tup [D.int i]) | _ => false)).map (fun d => D.tup [d]) := List.mem_map.mpr ⟨.int 0, List.mem_filter.mpr ⟨m0, by first | rfl | exact decide_eq_true (by show (0:Int) + 1 < n; omega)⟩, rfl⟩
    rw [z] at m1
    cases m1
  · rw [List.length_map]
    exact Nat.le_trans (List.length_filter_le _ _) (by rw [hlen]; omega)
  · intro x hx
    obtain ⟨y, hy, rfl⟩ := List.mem_map.mp hx
    obtain ⟨h1, h2⟩ := List.mem_filter.mp hy
    obtain ⟨i, rfl, h3, h4⟩ := hpp y h1
    refine ⟨i, rfl, h3, ?_⟩
    first
      | exact h4
      | (have h5 : decide (i + 1 < n) = true := h2
         have := of_decide_eq_true h5
         omega)
theorem parts_highs1 (a b n : Int) (hn : 2 ≤ n) (hn2 : n ≤ 60) : ∃ xs : List D, m__law_parts [.str ("highs" : Str), .int n] [.lst [.int a, .int b]] = some (.lst xs, [.lst [.int a, .int b]]) ∧ xs ≠ [] ∧ xs.length ≤ 10000 ∧ ∀ x ∈ xs, P1 (n) x := by
  have hpp : ∀ d ∈ rngD 0 n.toNat, ∃ i : Int, d = .int i ∧ 0 ≤ i ∧ i < n := fun d hd => by
    unfold rngD at hd
    obtain ⟨i, hi, rfl⟩ := List.mem_map.mp hd
    have := List.mem_range.mp hi
    exact ⟨_, rfl, by omega, by omega⟩
  have hlen : (rngD 0 n.toNat).length = n.toNat := by simp [rngD]
  have hb : bnd n = true := by unfold bnd; rw [decide_eq_true (by omega), decide_eq_true (by omega)]; rfl
  have lc := lc_pure (vs := [2]) (f := iR1 (eVar 1)) (src := fun _ => some (rngD 0 n.toNat)) (g := gNm 2) (c := tOr' (tV (eOpS hNe (eVar 0) (eC (.str ("rises" : Str))))) (tV (eOp hLtI (eOp hAdd (eVar 2) (eC (.int 1))) (eVar 1)))) (x := eTup (aCons (eVar 2) aNil)) (e := [some (.str ("highs" : Str)), some (.int n), none, none, none]) (S := [.lst [.int a, .int b]]) (S1 := [.lst [.int a, .int b]])
    (by simp [iR1, eVar, hb]) (fun _ => rfl) (fun d => match d with | .int i => (fun _ => true) (D.tup [D.int i]) | _ => false) (fun d => .tup [d])
    (fun d hd => by
      obtain ⟨i, rfl, h0, h1⟩ := hpp d hd
      refine ⟨[some (.str ("highs" : Str)), some (.int n), some (.int i), none, none], rfl, v_orT (v_tst (v_var rfl) v_c (by kernel_rfl)), fun _ => ?_⟩
      simp [eTup, aCons, aNil, eVar]) (by rw [hlen]; omega)
  refine ⟨((rngD 0 n.toNat).filter (fun d => match d with | .int i => (fun _ => true) (D.tup [D.int i]) | _ => false)).map (fun d => D.tup [d]), ?_, ?_, ?_, ?_⟩
  · unfold m__law_parts
    refine runA_of (S1 := [.lst [.int a, .int b]]) (d1 := .lst _) ?_ (finAb_ok (fin_val rfl ?_ (fun l z => by cases z)))
    · show (match (sSeq _ _ [some (.str ("highs" : Str)), some (.int n), none, none, none] [.lst [.int a, .int b]]) with | some (.rt d, S1) => some (d, S1) | some (.nx _, S1) => some (.non, S1) | _ => none) = _
      rw [v_seqR (v_ifT (v_tst (v_var rfl) v_c (by kernel_rfl)) (v_ret (v_F lc)))]
    · exact clLB_all fun x hx => by
        obtain ⟨y, hy, rfl⟩ := List.mem_map.mp hx
        obtain ⟨i, rfl, _⟩ := hpp y (List.mem_filter.mp hy |>.1)
        rfl
  · intro z
    have m0 : D.int 0 ∈ rngD 0 n.toNat := List.mem_map.mpr ⟨0, List.mem_range.mpr (by omega), rfl⟩
    have m1 : D.tup [.int 0] ∈ ((rngD 0 n.toNat).filter (fun d => match d with | .int i => (fun _ => true) (D.tup [D.int i]) | _ => false)).map (fun d => D.tup [d]) := List.mem_map.mpr ⟨.int 0, List.mem_filter.mpr ⟨m0, by first | rfl | exact decide_eq_true (by show (0:Int) + 1 < n; omega)⟩, rfl⟩
    rw [z] at m1
    cases m1
  · rw [List.length_map]
    exact Nat.le_trans (List.length_filter_le _ _) (by rw [hlen]; omega)
  · intro x hx
    obtain ⟨y, hy, rfl⟩ := List.mem_map.mp hx
    obtain ⟨h1, h2⟩ := List.mem_filter.mp hy
    obtain ⟨i, rfl, h3, h4⟩ := hpp y h1
    refine ⟨i, rfl, h3, ?_⟩
    first
      | exact h4
      | (have h5 : decide (i + 1 < n) = true := h2
         have := of_decide_eq_true h5
         omega)
theorem parts_rises1 (a b n : Int) (hn : 2 ≤ n) (hn2 : n ≤ 60) : ∃ xs : List D, m__law_parts [.str ("rises" : Str), .int n] [.lst [.int a, .int b]] = some (.lst xs, [.lst [.int a, .int b]]) ∧ xs ≠ [] ∧ xs.length ≤ 10000 ∧ ∀ x ∈ xs, P1 (n - 1) x := by
  have hpp : ∀ d ∈ rngD 0 n.toNat, ∃ i : Int, d = .int i ∧ 0 ≤ i ∧ i < n := fun d hd => by
    unfold rngD at hd
    obtain ⟨i, hi, rfl⟩ := List.mem_map.mp hd
    have := List.mem_range.mp hi
    exact ⟨_, rfl, by omega, by omega⟩
  have hlen : (rngD 0 n.toNat).length = n.toNat := by simp [rngD]
  have hb : bnd n = true := by unfold bnd; rw [decide_eq_true (by omega), decide_eq_true (by omega)]; rfl
  have lc := lc_pure (vs := [2]) (f := iR1 (eVar 1)) (src := fun _ => some (rngD 0 n.toNat)) (g := gNm 2) (c := tOr' (tV (eOpS hNe (eVar 0) (eC (.str ("rises" : Str))))) (tV (eOp hLtI (eOp hAdd (eVar 2) (eC (.int 1))) (eVar 1)))) (x := eTup (aCons (eVar 2) aNil)) (e := [some (.str ("rises" : Str)), some (.int n), none, none, none]) (S := [.lst [.int a, .int b]]) (S1 := [.lst [.int a, .int b]])
    (by simp [iR1, eVar, hb]) (fun _ => rfl) (fun d => match d with | .int i => (fun d => decide (fstI d + 1 < n)) (D.tup [D.int i]) | _ => false) (fun d => .tup [d])
    (fun d hd => by
      obtain ⟨i, rfl, h0, h1⟩ := hpp d hd
      refine ⟨[some (.str ("rises" : Str)), some (.int n), some (.int i), none, none], rfl, v_orF (v_tst (v_var rfl) v_c (by kernel_rfl)) (v_tV (v_op (v_op (v_var rfl) v_c addI_of) (v_var rfl) ltI_of)), fun _ => ?_⟩
      simp [eTup, aCons, aNil, eVar]) (by rw [hlen]; omega)
  refine ⟨((rngD 0 n.toNat).filter (fun d => match d with | .int i => (fun d => decide (fstI d + 1 < n)) (D.tup [D.int i]) | _ => false)).map (fun d => D.tup [d]), ?_, ?_, ?_, ?_⟩
  · unfold m__law_parts
    refine runA_of (S1 := [.lst [.int a, .int b]]) (d1 := .lst _) ?_ (finAb_ok (fin_val rfl ?_ (fun l z => by cases z)))
    · show (match (sSeq _ _ [some (.str ("rises" : Str)), some (.int n), none, none, none] [.lst [.int a, .int b]]) with | some (.rt d, S1) => some (d, S1) | some (.nx _, S1) => some (.non, S1) | _ => none) = _
      rw [v_seqR (v_ifT (v_tst (v_var rfl) v_c (by kernel_rfl)) (v_ret (v_F lc)))]
    · exact clLB_all fun x hx => by
        obtain ⟨y, hy, rfl⟩ := List.mem_map.mp hx
        obtain ⟨i, rfl, _⟩ := hpp y (List.mem_filter.mp hy |>.1)
        rfl
  · intro z
    have m0 : D.int 0 ∈ rngD 0 n.toNat := List.mem_map.mpr ⟨0, List.mem_range.mpr (by omega), rfl⟩
    have m1 : D.tup [.int 0] ∈ ((rngD 0 n.toNat).filter (fun d => match d with | .int i => (fun d => decide (fstI d + 1 < n)) (D.tup [D.int i]) | _ => false)).map (fun d => D.tup [d]) := List.mem_map.mpr ⟨.int 0, List.mem_filter.mpr ⟨m0, by first | rfl | exact decide_eq_true (by show (0:Int) + 1 < n; omega)⟩, rfl⟩
    rw [z] at m1
    cases m1
  · rw [List.length_map]
    exact Nat.le_trans (List.length_filter_le _ _) (by rw [hlen]; omega)
  · intro x hx
    obtain ⟨y, hy, rfl⟩ := List.mem_map.mp hx
    obtain ⟨h1, h2⟩ := List.mem_filter.mp hy
    obtain ⟨i, rfl, h3, h4⟩ := hpp y h1
    refine ⟨i, rfl, h3, ?_⟩
    first
      | exact h4
      | (have h5 : decide (i + 1 < n) = true := h2
         have := of_decide_eq_true h5
         omega)
theorem same_i2 (p q a b x : Int) (nn : Nat) : m__law_same (nn + 1) [.int x, .int x] [.lst [.int p, .int q], .lst [.int a, .int b]] = some (.bl true, [.lst [.int p, .int q], .lst [.int a, .int b]]) := by
  unfold m__law_same
  refine runA_of (S1 := [.lst [.int p, .int q], .lst [.int a, .int b]]) (d1 := .bl true) ?_ (finAb_ok rfl)
  have e : hEq (.int x) (.int x) [.lst [.int p, .int q], .lst [.int a, .int b]] = some (.bl true, [.lst [.int p, .int q], .lst [.int a, .int b]]) := by rw [eqi, decide_eq_true rfl]
  exact v_run rfl (v_seq (v_ifFp (v_anF (v_tV (v_call2 (v_var rfl) v_c (by kernel_rfl))))) (v_seq (v_ifFp (v_anF (v_tV (v_call2 (v_var rfl) v_c (by kernel_rfl))))) (v_seqR (v_ifT (v_anT (v_tV (v_call2 (S2 := [.lst [.int p, .int q], .lst [.int a, .int b]]) (v_var rfl) v_c (by kernel_rfl))) (v_tV (v_call2 (S2 := [.lst [.int p, .int q], .lst [.int a, .int b]]) (v_var rfl) v_c (by kernel_rfl)))) (v_ret (v_andT (v_opS (S2 := [.lst [.int p, .int q], .lst [.int a, .int b]]) (r := some (.bl true, [.lst [.int p, .int q], .lst [.int a, .int b]])) (v_call2 (S2 := [.lst [.int p, .int q], .lst [.int a, .int b]]) (r := some (.bl false, [.lst [.int p, .int q], .lst [.int a, .int b]])) (v_var rfl) v_c (by kernel_rfl)) (v_call2 (S2 := [.lst [.int p, .int q], .lst [.int a, .int b]]) (r := some (.bl false, [.lst [.int p, .int q], .lst [.int a, .int b]])) (v_var rfl) v_c (by kernel_rfl)) (by kernel_rfl)) (v_opS (v_var rfl) (v_var rfl) e)))))))
theorem same_t2 (p q a b x y : Int) : m__law_same 70 [.tup [.int x, .int y], .tup [.int x, .int y]] [.lst [.int p, .int q], .lst [.int a, .int b]] = some (.bl true, [.lst [.int p, .int q], .lst [.int a, .int b]]) := by
  have i1 := same_i2 p q a b x 68
  have i2 := same_i2 p q a b y 68
  show m__law_same (69 + 1) _ _ = _
  unfold m__law_same
  refine runA_of (S1 := [.lst [.int p, .int q], .lst [.int a, .int b]]) (d1 := .bl true) ?_ (finAb_ok rfl)
  have lc : eF (fLc [2, 3] (iZp (eVar 0) (eVar 1)) (gTp 2 (gCn (gNm 2) (gCn (gNm 3) gNl))) tYe (eCall (m__law_same 69) (aCons (eVar 2) (aCons (eVar 3) aNil)))) [some (.tup [.int x, .int y]), some (.tup [.int x, .int y]), none, none] [.lst [.int p, .int q], .lst [.int a, .int b]] = some (.lst [.bl true, .bl true], [.lst [.int p, .int q], .lst [.int a, .int b]]) := by
    simp [eF, fLc, iZp, eVar, srcOf, zpSrc, zpD, lcGo, wipeE, gTp, gCn, gNm, gNl, tYe, eCall, aCons, aNil, i1, i2]
  exact v_run rfl (v_seqR (v_ifT (v_anT (v_tV (v_call2 (S2 := [.lst [.int p, .int q], .lst [.int a, .int b]]) (v_var rfl) v_c (by kernel_rfl))) (v_tV (v_call2 (S2 := [.lst [.int p, .int q], .lst [.int a, .int b]]) (v_var rfl) v_c (by kernel_rfl)))) (v_ret (v_andT (v_opS (S2 := [.lst [.int p, .int q], .lst [.int a, .int b]]) (r := some (.bl true, [.lst [.int p, .int q], .lst [.int a, .int b]])) (v_call1 (S1 := [.lst [.int p, .int q], .lst [.int a, .int b]]) (r := some (.int 2, [.lst [.int p, .int q], .lst [.int a, .int b]])) (v_var rfl) (by kernel_rfl)) (v_call1 (S1 := [.lst [.int p, .int q], .lst [.int a, .int b]]) (r := some (.int 2, [.lst [.int p, .int q], .lst [.int a, .int b]])) (v_var rfl) (by kernel_rfl)) (by kernel_rfl)) (v_call1 lc (by kernel_rfl))))))
theorem parts_rounds2 (p q a b n : Int) (hn : 2 ≤ n) (hn2 : n ≤ 60) : ∃ xs : List D, m__law_parts [.str ("rounds" : Str), .int n] [.lst [.int p, .int q], .lst [.int a, .int b]] = some (.lst xs, [.lst [.int p, .int q], .lst [.int a, .int b]]) ∧ xs ≠ [] ∧ xs.length ≤ 10000 ∧ ∀ x ∈ xs, P1 (n) x := by
  have hpp : ∀ d ∈ rngD 0 n.toNat, ∃ i : Int, d = .int i ∧ 0 ≤ i ∧ i < n := fun d hd => by
    unfold rngD at hd
    obtain ⟨i, hi, rfl⟩ := List.mem_map.mp hd
    have := List.mem_range.mp hi
    exact ⟨_, rfl, by omega, by omega⟩
  have hlen : (rngD 0 n.toNat).length = n.toNat := by simp [rngD]
  have hb : bnd n = true := by unfold bnd; rw [decide_eq_true (by omega), decide_eq_true (by omega)]; rfl
  have lc := lc_pure (vs := [2]) (f := iR1 (eVar 1)) (src := fun _ => some (rngD 0 n.toNat)) (g := gNm 2) (c := tOr' (tV (eOpS hNe (eVar 0) (eC (.str ("rises" : Str))))) (tV (eOp hLtI (eOp hAdd (eVar 2) (eC (.int 1))) (eVar 1)))) (x := eTup (aCons (eVar 2) aNil)) (e := [some (.str ("rounds" : Str)), some (.int n), none, none, none]) (S := [.lst [.int p, .int q], .lst [.int a, .int b]]) (S1 := [.lst [.int p, .int q], .lst [.int a, .int b]])
    (by simp [iR1, eVar, hb]) (fun _ => rfl) (fun d => match d with | .int i => (fun _ => true) (D.tup [D.int i]) | _ => false) (fun d => .tup [d])
    (fun d hd => by
      obtain ⟨i, rfl, h0, h1⟩ := hpp d hd
      refine ⟨[some (.str ("rounds" : Str)), some (.int n), some (.int i), none, none], rfl, v_orT (v_tst (v_var rfl) v_c (by kernel_rfl)), fun _ => ?_⟩
      simp [eTup, aCons, aNil, eVar]) (by rw [hlen]; omega)
  refine ⟨((rngD 0 n.toNat).filter (fun d => match d with | .int i => (fun _ => true) (D.tup [D.int i]) | _ => false)).map (fun d => D.tup [d]), ?_, ?_, ?_, ?_⟩
  · unfold m__law_parts
    refine runA_of (S1 := [.lst [.int p, .int q], .lst [.int a, .int b]]) (d1 := .lst _) ?_ (finAb_ok (fin_val rfl ?_ (fun l z => by cases z)))
    · show (match (sSeq _ _ [some (.str ("rounds" : Str)), some (.int n), none, none, none] [.lst [.int p, .int q], .lst [.int a, .int b]]) with | some (.rt d, S1) => some (d, S1) | some (.nx _, S1) => some (.non, S1) | _ => none) = _
      rw [v_seqR (v_ifT (v_tst (v_var rfl) v_c (by kernel_rfl)) (v_ret (v_F lc)))]
    · exact clLB_all fun x hx => by
        obtain ⟨y, hy, rfl⟩ := List.mem_map.mp hx
        obtain ⟨i, rfl, _⟩ := hpp y (List.mem_filter.mp hy |>.1)
        rfl
  · intro z
    have m0 : D.int 0 ∈ rngD 0 n.toNat := List.mem_map.mpr ⟨0, List.mem_range.mpr (by omega), rfl⟩
    have m1 : D.tup [.int 0] ∈ ((rngD 0 n.toNat).filter (fun d => match d with | .int i => (fun _ => true) (D.tup [D.int i]) | _ => false)).map (fun d => D.tup [d]) := List.mem_map.mpr ⟨.int 0, List.mem_filter.mpr ⟨m0, by first | rfl | exact decide_eq_true (by show (0:Int) + 1 < n; omega)⟩, rfl⟩
    rw [z] at m1
    cases m1
  · rw [List.length_map]
    exact Nat.le_trans (List.length_filter_le _ _) (by rw [hlen]; omega)
  · intro x hx
    obtain ⟨y, hy, rfl⟩ := List.mem_map.mp hx
    obtain ⟨h1, h2⟩ := List.mem_filter.mp hy
    obtain ⟨i, rfl, h3, h4⟩ := hpp y h1
    refine ⟨i, rfl, h3, ?_⟩
    first
      | exact h4
      | (have h5 : decide (i + 1 < n) = true := h2
         have := of_decide_eq_true h5
         omega)
theorem parts_stays2 (p q a b n : Int) (hn : 2 ≤ n) (hn2 : n ≤ 60) : ∃ xs : List D, m__law_parts [.str ("stays" : Str), .int n] [.lst [.int p, .int q], .lst [.int a, .int b]] = some (.lst xs, [.lst [.int p, .int q], .lst [.int a, .int b]]) ∧ xs ≠ [] ∧ xs.length ≤ 10000 ∧ ∀ x ∈ xs, P1 (n) x := by
  have hpp : ∀ d ∈ rngD 0 n.toNat, ∃ i : Int, d = .int i ∧ 0 ≤ i ∧ i < n := fun d hd => by
    unfold rngD at hd
    obtain ⟨i, hi, rfl⟩ := List.mem_map.mp hd
    have := List.mem_range.mp hi
    exact ⟨_, rfl, by omega, by omega⟩
  have hlen : (rngD 0 n.toNat).length = n.toNat := by simp [rngD]
  have hb : bnd n = true := by unfold bnd; rw [decide_eq_true (by omega), decide_eq_true (by omega)]; rfl
  have lc := lc_pure (vs := [2]) (f := iR1 (eVar 1)) (src := fun _ => some (rngD 0 n.toNat)) (g := gNm 2) (c := tOr' (tV (eOpS hNe (eVar 0) (eC (.str ("rises" : Str))))) (tV (eOp hLtI (eOp hAdd (eVar 2) (eC (.int 1))) (eVar 1)))) (x := eTup (aCons (eVar 2) aNil)) (e := [some (.str ("stays" : Str)), some (.int n), none, none, none]) (S := [.lst [.int p, .int q], .lst [.int a, .int b]]) (S1 := [.lst [.int p, .int q], .lst [.int a, .int b]])
    (by simp [iR1, eVar, hb]) (fun _ => rfl) (fun d => match d with | .int i => (fun _ => true) (D.tup [D.int i]) | _ => false) (fun d => .tup [d])
    (fun d hd => by
      obtain ⟨i, rfl, h0, h1⟩ := hpp d hd
      refine ⟨[some (.str ("stays" : Str)), some (.int n), some (.int i), none, none], rfl, v_orT (v_tst (v_var rfl) v_c (by kernel_rfl)), fun _ => ?_⟩
      simp [eTup, aCons, aNil, eVar]) (by rw [hlen]; omega)
  refine ⟨((rngD 0 n.toNat).filter (fun d => match d with | .int i => (fun _ => true) (D.tup [D.int i]) | _ => false)).map (fun d => D.tup [d]), ?_, ?_, ?_, ?_⟩
  · unfold m__law_parts
    refine runA_of (S1 := [.lst [.int p, .int q], .lst [.int a, .int b]]) (d1 := .lst _) ?_ (finAb_ok (fin_val rfl ?_ (fun l z => by cases z)))
    · show (match (sSeq _ _ [some (.str ("stays" : Str)), some (.int n), none, none, none] [.lst [.int p, .int q], .lst [.int a, .int b]]) with | some (.rt d, S1) => some (d, S1) | some (.nx _, S1) => some (.non, S1) | _ => none) = _
      rw [v_seqR (v_ifT (v_tst (v_var rfl) v_c (by kernel_rfl)) (v_ret (v_F lc)))]
    · exact clLB_all fun x hx => by
        obtain ⟨y, hy, rfl⟩ := List.mem_map.mp hx
        obtain ⟨i, rfl, _⟩ := hpp y (List.mem_filter.mp hy |>.1)
        rfl
  · intro z
    have m0 : D.int 0 ∈ rngD 0 n.toNat := List.mem_map.mpr ⟨0, List.mem_range.mpr (by omega), rfl⟩
    have m1 : D.tup [.int 0] ∈ ((rngD 0 n.toNat).filter (fun d => match d with | .int i => (fun _ => true) (D.tup [D.int i]) | _ => false)).map (fun d => D.tup [d]) := List.mem_map.mpr ⟨.int 0, List.mem_filter.mpr ⟨m0, by first | rfl | exact decide_eq_true (by show (0:Int) + 1 < n; omega)⟩, rfl⟩
    rw [z] at m1
    cases m1
  · rw [List.length_map]
    exact Nat.le_trans (List.length_filter_le _ _) (by rw [hlen]; omega)
  · intro x hx
    obtain ⟨y, hy, rfl⟩ := List.mem_map.mp hx
    obtain ⟨h1, h2⟩ := List.mem_filter.mp hy
    obtain ⟨i, rfl, h3, h4⟩ := hpp y h1
    refine ⟨i, rfl, h3, ?_⟩
    first
      | exact h4
      | (have h5 : decide (i + 1 < n) = true := h2
         have := of_decide_eq_true h5
         omega)
theorem parts_highs2 (p q a b n : Int) (hn : 2 ≤ n) (hn2 : n ≤ 60) : ∃ xs : List D, m__law_parts [.str ("highs" : Str), .int n] [.lst [.int p, .int q], .lst [.int a, .int b]] = some (.lst xs, [.lst [.int p, .int q], .lst [.int a, .int b]]) ∧ xs ≠ [] ∧ xs.length ≤ 10000 ∧ ∀ x ∈ xs, P1 (n) x := by
  have hpp : ∀ d ∈ rngD 0 n.toNat, ∃ i : Int, d = .int i ∧ 0 ≤ i ∧ i < n := fun d hd => by
    unfold rngD at hd
    obtain ⟨i, hi, rfl⟩ := List.mem_map.mp hd
    have := List.mem_range.mp hi
    exact ⟨_, rfl, by omega, by omega⟩
  have hlen : (rngD 0 n.toNat).length = n.toNat := by simp [rngD]
  have hb : bnd n = true := by unfold bnd; rw [decide_eq_true (by omega), decide_eq_true (by omega)]; rfl
  have lc := lc_pure (vs := [2]) (f := iR1 (eVar 1)) (src := fun _ => some (rngD 0 n.toNat)) (g := gNm 2) (c := tOr' (tV (eOpS hNe (eVar 0) (eC (.str ("rises" : Str))))) (tV (eOp hLtI (eOp hAdd (eVar 2) (eC (.int 1))) (eVar 1)))) (x := eTup (aCons (eVar 2) aNil)) (e := [some (.str ("highs" : Str)), some (.int n), none, none, none]) (S := [.lst [.int p, .int q], .lst [.int a, .int b]]) (S1 := [.lst [.int p, .int q], .lst [.int a, .int b]])
    (by simp [iR1, eVar, hb]) (fun _ => rfl) (fun d => match d with | .int i => (fun _ => true) (D.tup [D.int i]) | _ => false) (fun d => .tup [d])
    (fun d hd => by
      obtain ⟨i, rfl, h0, h1⟩ := hpp d hd
      refine ⟨[some (.str ("highs" : Str)), some (.int n), some (.int i), none, none], rfl, v_orT (v_tst (v_var rfl) v_c (by kernel_rfl)), fun _ => ?_⟩
      simp [eTup, aCons, aNil, eVar]) (by rw [hlen]; omega)
  refine ⟨((rngD 0 n.toNat).filter (fun d => match d with | .int i => (fun _ => true) (D.tup [D.int i]) | _ => false)).map (fun d => D.tup [d]), ?_, ?_, ?_, ?_⟩
  · unfold m__law_parts
    refine runA_of (S1 := [.lst [.int p, .int q], .lst [.int a, .int b]]) (d1 := .lst _) ?_ (finAb_ok (fin_val rfl ?_ (fun l z => by cases z)))
    · show (match (sSeq _ _ [some (.str ("highs" : Str)), some (.int n), none, none, none] [.lst [.int p, .int q], .lst [.int a, .int b]]) with | some (.rt d, S1) => some (d, S1) | some (.nx _, S1) => some (.non, S1) | _ => none) = _
      rw [v_seqR (v_ifT (v_tst (v_var rfl) v_c (by kernel_rfl)) (v_ret (v_F lc)))]
    · exact clLB_all fun x hx => by
        obtain ⟨y, hy, rfl⟩ := List.mem_map.mp hx
        obtain ⟨i, rfl, _⟩ := hpp y (List.mem_filter.mp hy |>.1)
        rfl
  · intro z
    have m0 : D.int 0 ∈ rngD 0 n.toNat := List.mem_map.mpr ⟨0, List.mem_range.mpr (by omega), rfl⟩
    have m1 : D.tup [.int 0] ∈ ((rngD 0 n.toNat).filter (fun d => match d with | .int i => (fun _ => true) (D.tup [D.int i]) | _ => false)).map (fun d => D.tup [d]) := List.mem_map.mpr ⟨.int 0, List.mem_filter.mpr ⟨m0, by first | rfl | exact decide_eq_true (by show (0:Int) + 1 < n; omega)⟩, rfl⟩
    rw [z] at m1
    cases m1
  · rw [List.length_map]
    exact Nat.le_trans (List.length_filter_le _ _) (by rw [hlen]; omega)
  · intro x hx
    obtain ⟨y, hy, rfl⟩ := List.mem_map.mp hx
    obtain ⟨h1, h2⟩ := List.mem_filter.mp hy
    obtain ⟨i, rfl, h3, h4⟩ := hpp y h1
    refine ⟨i, rfl, h3, ?_⟩
    first
      | exact h4
      | (have h5 : decide (i + 1 < n) = true := h2
         have := of_decide_eq_true h5
         omega)
theorem parts_rises2 (p q a b n : Int) (hn : 2 ≤ n) (hn2 : n ≤ 60) : ∃ xs : List D, m__law_parts [.str ("rises" : Str), .int n] [.lst [.int p, .int q], .lst [.int a, .int b]] = some (.lst xs, [.lst [.int p, .int q], .lst [.int a, .int b]]) ∧ xs ≠ [] ∧ xs.length ≤ 10000 ∧ ∀ x ∈ xs, P1 (n - 1) x := by
  have hpp : ∀ d ∈ rngD 0 n.toNat, ∃ i : Int, d = .int i ∧ 0 ≤ i ∧ i < n := fun d hd => by
    unfold rngD at hd
    obtain ⟨i, hi, rfl⟩ := List.mem_map.mp hd
    have := List.mem_range.mp hi
    exact ⟨_, rfl, by omega, by omega⟩
  have hlen : (rngD 0 n.toNat).length = n.toNat := by simp [rngD]
  have hb : bnd n = true := by unfold bnd; rw [decide_eq_true (by omega), decide_eq_true (by omega)]; rfl
  have lc := lc_pure (vs := [2]) (f := iR1 (eVar 1)) (src := fun _ => some (rngD 0 n.toNat)) (g := gNm 2) (c := tOr' (tV (eOpS hNe (eVar 0) (eC (.str ("rises" : Str))))) (tV (eOp hLtI (eOp hAdd (eVar 2) (eC (.int 1))) (eVar 1)))) (x := eTup (aCons (eVar 2) aNil)) (e := [some (.str ("rises" : Str)), some (.int n), none, none, none]) (S := [.lst [.int p, .int q], .lst [.int a, .int b]]) (S1 := [.lst [.int p, .int q], .lst [.int a, .int b]])
    (by simp [iR1, eVar, hb]) (fun _ => rfl) (fun d => match d with | .int i => (fun d => decide (fstI d + 1 < n)) (D.tup [D.int i]) | _ => false) (fun d => .tup [d])
    (fun d hd => by
      obtain ⟨i, rfl, h0, h1⟩ := hpp d hd
      refine ⟨[some (.str ("rises" : Str)), some (.int n), some (.int i), none, none], rfl, v_orF (v_tst (v_var rfl) v_c (by kernel_rfl)) (v_tV (v_op (v_op (v_var rfl) v_c addI_of) (v_var rfl) ltI_of)), fun _ => ?_⟩
      simp [eTup, aCons, aNil, eVar]) (by rw [hlen]; omega)
  refine ⟨((rngD 0 n.toNat).filter (fun d => match d with | .int i => (fun d => decide (fstI d + 1 < n)) (D.tup [D.int i]) | _ => false)).map (fun d => D.tup [d]), ?_, ?_, ?_, ?_⟩
  · unfold m__law_parts
    refine runA_of (S1 := [.lst [.int p, .int q], .lst [.int a, .int b]]) (d1 := .lst _) ?_ (finAb_ok (fin_val rfl ?_ (fun l z => by cases z)))
    · show (match (sSeq _ _ [some (.str ("rises" : Str)), some (.int n), none, none, none] [.lst [.int p, .int q], .lst [.int a, .int b]]) with | some (.rt d, S1) => some (d, S1) | some (.nx _, S1) => some (.non, S1) | _ => none) = _
      rw [v_seqR (v_ifT (v_tst (v_var rfl) v_c (by kernel_rfl)) (v_ret (v_F lc)))]
    · exact clLB_all fun x hx => by
        obtain ⟨y, hy, rfl⟩ := List.mem_map.mp hx
        obtain ⟨i, rfl, _⟩ := hpp y (List.mem_filter.mp hy |>.1)
        rfl
  · intro z
    have m0 : D.int 0 ∈ rngD 0 n.toNat := List.mem_map.mpr ⟨0, List.mem_range.mpr (by omega), rfl⟩
    have m1 : D.tup [.int 0] ∈ ((rngD 0 n.toNat).filter (fun d => match d with | .int i => (fun d => decide (fstI d + 1 < n)) (D.tup [D.int i]) | _ => false)).map (fun d => D.tup [d]) := List.mem_map.mpr ⟨.int 0, List.mem_filter.mpr ⟨m0, by first | rfl | exact decide_eq_true (by show (0:Int) + 1 < n; omega)⟩, rfl⟩
    rw [z] at m1
    cases m1
  · rw [List.length_map]
    exact Nat.le_trans (List.length_filter_le _ _) (by rw [hlen]; omega)
  · intro x hx
    obtain ⟨y, hy, rfl⟩ := List.mem_map.mp hx
    obtain ⟨h1, h2⟩ := List.mem_filter.mp hy
    obtain ⟨i, rfl, h3, h4⟩ := hpp y h1
    refine ⟨i, rfl, h3, ?_⟩
    first
      | exact h4
      | (have h5 : decide (i + 1 < n) = true := h2
         have := of_decide_eq_true h5
         omega)
theorem parts_crossed1 (a b n : Int) (hn : 2 ≤ n) (hn2 : n ≤ 60) : ∃ xs : List D, m__law_parts [.str ("crossed" : Str), .int n] [.lst [.int a, .int b]] = some (.lst xs, [.lst [.int a, .int b]]) ∧ xs ≠ [] ∧ xs.length ≤ 10000 ∧ ∀ x ∈ xs, P2 n x := by
  have hlen : (rngD 0 n.toNat).length = n.toNat := by simp [rngD]
  have hb : bnd n = true := by unfold bnd; rw [decide_eq_true (by omega), decide_eq_true (by omega)]; rfl
  obtain ⟨e', S', hf, w, ys, rfl, rfl, h1, h2, h3⟩ := for_inv (fun i e S' => ∃ (w : Option D) (ys : List D), e = [some (.str ("crossed" : Str)), some (.int n), w, some (.ref 1), none] ∧ S' = [.lst [.int a, .int b], .lst ys] ∧ (∀ y ∈ ys, P2 n y) ∧ ys.length ≤ i * 60 ∧ (1 ≤ i → ys ≠ []))
    (f := iR1 (eVar 1)) (src := fun _ => some (rngD 0 n.toNat)) (g := gNm 2) (b := sDrop (eMe "list" hExt (eVar 3) (aCons (eF (fLc [4] (iR2 (eOp hAdd (eVar 2) (eC (.int 1))) (eVar 1)) (gNm 4) tYe (eTup (aCons (eVar 2) (aCons (eVar 4) aNil))))) aNil)))
    (e := [some (.str ("crossed" : Str)), some (.int n), none, some (.ref 1), none]) (S := [.lst [.int a, .int b], .lst []]) (S1 := [.lst [.int a, .int b], .lst []]) (ds := rngD 0 n.toNat)
    (by simp [iR1, eVar, hb]) (fun _ => rfl) ⟨none, [], rfl, rfl, fun y hy => by (cases hy), Nat.le_of_eq (by simp), fun z => by omega⟩ (by
      rintro i dd e S' hd ⟨w, ys, rfl, rfl, h1, h2, h3⟩
      have hi : i < n.toNat := by rw [← hlen]; exact (List.getElem?_eq_some_iff.mp hd).1
      have ed : dd = .int (i : Nat) := by
        have := (List.getElem?_eq_some_iff.mp hd).2
        rw [← this]
        simp [rngD]
      subst ed
      have hl2 : (rngD ((i : Nat) + 1) (n - ((i : Nat) + 1)).toNat).length = (n - ((i : Nat) + 1)).toNat := by simp [rngD]
      have hpp : ∀ d ∈ rngD ((i : Nat) + 1) (n - ((i : Nat) + 1)).toNat, ∃ j : Int, d = .int j ∧ (i : Int) < j ∧ j < n := fun d hd => by
        unfold rngD at hd
        obtain ⟨m, hm, rfl⟩ := List.mem_map.mp hd
        have := List.mem_range.mp hm
        exact ⟨_, rfl, by omega, by omega⟩
      have hb2 : bnd ((i : Nat) + 1 : Int) = true := by unfold bnd; rw [decide_eq_true (by omega), decide_eq_true (by omega)]; rfl
      have lc := lc_pure (vs := [4]) (f := iR2 (eOp hAdd (eVar 2) (eC (.int 1))) (eVar 1)) (src := fun _ => some (rngD ((i : Nat) + 1) (n - ((i : Nat) + 1)).toNat)) (g := gNm 4) (c := tYe) (x := eTup (aCons (eVar 2) (aCons (eVar 4) aNil)))
        (e := [some (.str ("crossed" : Str)), some (.int n), some (.int (i : Nat)), some (.ref 1), none]) (S := [.lst [.int a, .int b], .lst ys]) (S1 := [.lst [.int a, .int b], .lst ys])
        (by simp [iR2, eOp, eVar, eC, addI_of, hb, hb2]) (fun _ => rfl) (fun _ => true) (fun d => .tup [.int (i : Nat), d])
        (fun d hd => ⟨[some (.str ("crossed" : Str)), some (.int n), some (.int (i : Nat)), some (.ref 1), some d], rfl, rfl, fun _ => by simp [eTup, aCons, aNil, eVar]⟩) (by rw [hl2]; omega)
      generalize hz : ((rngD ((i : Nat) + 1) (n - ((i : Nat) + 1)).toNat).filter fun _ => true).map (fun d => D.tup [.int (i : Nat), d]) = zs at lc
      have hzl : zs.length ≤ 60 := by
        rw [← hz, List.length_map]
        exact Nat.le_trans (List.length_filter_le _ _) (by rw [hl2]; omega)
      have hzp : ∀ z ∈ zs, P2 n z := fun z hz' => by
        rw [← hz] at hz'
        obtain ⟨y, hy, rfl⟩ := List.mem_map.mp hz'
        obtain ⟨j, rfl, j1, j2⟩ := hpp y (List.mem_filter.mp hy).1
        exact ⟨_, _, rfl, by omega, j1, j2⟩
      have hz0 : i = 0 → zs ≠ [] := fun h0 z => by
        rw [z] at hz
        have := congrArg List.length hz
        rw [List.length_map, List.filter_eq_self.mpr (fun _ _ => rfl), hl2] at this
        have h9 : (n - ((i : Nat) + 1)).toNat = 0 := this
        omega
      refine ⟨[some (.str ("crossed" : Str)), some (.int n), some (.int (i : Nat)), some (.ref 1), none], [.lst [.int a, .int b], .lst ys], [some (.str ("crossed" : Str)), some (.int n), some (.int (i : Nat)), some (.ref 1), none], [.lst [.int a, .int b], .lst (ys ++ zs)], rfl, .inl ?_, some (.int (i : Nat)), ys ++ zs, rfl, rfl, fun y hy => (List.mem_append.mp hy).elim (h1 y) (hzp y), ?_, fun _ z => ?_⟩
      · have hsz : ys.length + zs.length ≤ 1000000 := by
          have : i * 60 ≤ 60 * 60 := Nat.mul_le_mul (by omega) (Nat.le_refl _)
          omega
        exact v_drop (v_me (v_var rfl) rfl (v_cons1 (v_F lc)) (ext_of rfl rfl hsz))
      · rw [List.length_append, Nat.succ_mul]
        omega
      · obtain ⟨z1, z2⟩ := List.append_eq_nil_iff.mp z
        by_cases h0 : i = 0
        · exact hz0 h0 z2
        · exact h3 (by omega) z1)
  rw [hlen] at h2 h3
  refine ⟨ys, ?_, h3 (by omega), by have : n.toNat * 60 ≤ 60 * 60 := Nat.mul_le_mul (by omega) (Nat.le_refl _); omega, h1⟩
  have hcl : clLB 1 ys = true := clLB_all fun x hx => by
    obtain ⟨k, j, rfl, _⟩ := h1 x hx
    rfl
  unfold m__law_parts
  refine runA_of (S1 := [.lst [.int a, .int b], .lst ys]) (d1 := .ref 1) (v_run rfl (v_seq (v_ifFp (v_tst (v_var rfl) v_c (by kernel_rfl))) (v_seq (e1 := [some (.str ("crossed" : Str)), some (.int n), none, some (.ref 1), none]) (S1 := [.lst [.int a, .int b], .lst []]) (by kernel_rfl) (v_seq hf (v_ret (v_var rfl)))))) (finAb_ok ?_)
  exact fin_ref rfl (Nat.lt_irrefl _) rfl hcl rfl
theorem parts_crossed2 (p q a b n : Int) (hn : 2 ≤ n) (hn2 : n ≤ 60) : ∃ xs : List D, m__law_parts [.str ("crossed" : Str), .int n] [.lst [.int p, .int q], .lst [.int a, .int b]] = some (.lst xs, [.lst [.int p, .int q], .lst [.int a, .int b]]) ∧ xs ≠ [] ∧ xs.length ≤ 10000 ∧ ∀ x ∈ xs, P2 n x := by
  have hlen : (rngD 0 n.toNat).length = n.toNat := by simp [rngD]
  have hb : bnd n = true := by unfold bnd; rw [decide_eq_true (by omega), decide_eq_true (by omega)]; rfl
  obtain ⟨e', S', hf, w, ys, rfl, rfl, h1, h2, h3⟩ := for_inv (fun i e S' => ∃ (w : Option D) (ys : List D), e = [some (.str ("crossed" : Str)), some (.int n), w, some (.ref 2), none] ∧ S' = [.lst [.int p, .int q], .lst [.int a, .int b], .lst ys] ∧ (∀ y ∈ ys, P2 n y) ∧ ys.length ≤ i * 60 ∧ (1 ≤ i → ys ≠ []))
    (f := iR1 (eVar 1)) (src := fun _ => some (rngD 0 n.toNat)) (g := gNm 2) (b := sDrop (eMe "list" hExt (eVar 3) (aCons (eF (fLc [4] (iR2 (eOp hAdd (eVar 2) (eC (.int 1))) (eVar 1)) (gNm 4) tYe (eTup (aCons (eVar 2) (aCons (eVar 4) aNil))))) aNil)))
    (e := [some (.str ("crossed" : Str)), some (.int n), none, some (.ref 2), none]) (S := [.lst [.int p, .int q], .lst [.int a, .int b], .lst []]) (S1 := [.lst [.int p, .int q], .lst [.int a, .int b], .lst []]) (ds := rngD 0 n.toNat)
    (by simp [iR1, eVar, hb]) (fun _ => rfl) ⟨none, [], rfl, rfl, fun y hy => by (cases hy), Nat.le_of_eq (by simp), fun z => by omega⟩ (by
      rintro i dd e S' hd ⟨w, ys, rfl, rfl, h1, h2, h3⟩
      have hi : i < n.toNat := by rw [← hlen]; exact (List.getElem?_eq_some_iff.mp hd).1
      have ed : dd = .int (i : Nat) := by
        have := (List.getElem?_eq_some_iff.mp hd).2
        rw [← this]
        simp [rngD]
      subst ed
      have hl2 : (rngD ((i : Nat) + 1) (n - ((i : Nat) + 1)).toNat).length = (n - ((i : Nat) + 1)).toNat := by simp [rngD]
      have hpp : ∀ d ∈ rngD ((i : Nat) + 1) (n - ((i : Nat) + 1)).toNat, ∃ j : Int, d = .int j ∧ (i : Int) < j ∧ j < n := fun d hd => by
        unfold rngD at hd
        obtain ⟨m, hm, rfl⟩ := List.mem_map.mp hd
        have := List.mem_range.mp hm
        exact ⟨_, rfl, by omega, by omega⟩
      have hb2 : bnd ((i : Nat) + 1 : Int) = true := by unfold bnd; rw [decide_eq_true (by omega), decide_eq_true (by omega)]; rfl
      have lc := lc_pure (vs := [4]) (f := iR2 (eOp hAdd (eVar 2) (eC (.int 1))) (eVar 1)) (src := fun _ => some (rngD ((i : Nat) + 1) (n - ((i : Nat) + 1)).toNat)) (g := gNm 4) (c := tYe) (x := eTup (aCons (eVar 2) (aCons (eVar 4) aNil)))
        (e := [some (.str ("crossed" : Str)), some (.int n), some (.int (i : Nat)), some (.ref 2), none]) (S := [.lst [.int p, .int q], .lst [.int a, .int b], .lst ys]) (S1 := [.lst [.int p, .int q], .lst [.int a, .int b], .lst ys])
        (by simp [iR2, eOp, eVar, eC, addI_of, hb, hb2]) (fun _ => rfl) (fun _ => true) (fun d => .tup [.int (i : Nat), d])
        (fun d hd => ⟨[some (.str ("crossed" : Str)), some (.int n), some (.int (i : Nat)), some (.ref 2), some d], rfl, rfl, fun _ => by simp [eTup, aCons, aNil, eVar]⟩) (by rw [hl2]; omega)
      generalize hz : ((rngD ((i : Nat) + 1) (n - ((i : Nat) + 1)).toNat).filter fun _ => true).map (fun d => D.tup [.int (i : Nat), d]) = zs at lc
      have hzl : zs.length ≤ 60 := by
        rw [← hz, List.length_map]
        exact Nat.le_trans (List.length_filter_le _ _) (by rw [hl2]; omega)
      have hzp : ∀ z ∈ zs, P2 n z := fun z hz' => by
        rw [← hz] at hz'
        obtain ⟨y, hy, rfl⟩ := List.mem_map.mp hz'
        obtain ⟨j, rfl, j1, j2⟩ := hpp y (List.mem_filter.mp hy).1
        exact ⟨_, _, rfl, by omega, j1, j2⟩
      have hz0 : i = 0 → zs ≠ [] := fun h0 z => by
        rw [z] at hz
        have := congrArg List.length hz
        rw [List.length_map, List.filter_eq_self.mpr (fun _ _ => rfl), hl2] at this
        have h9 : (n - ((i : Nat) + 1)).toNat = 0 := this
        omega
      refine ⟨[some (.str ("crossed" : Str)), some (.int n), some (.int (i : Nat)), some (.ref 2), none], [.lst [.int p, .int q], .lst [.int a, .int b], .lst ys], [some (.str ("crossed" : Str)), some (.int n), some (.int (i : Nat)), some (.ref 2), none], [.lst [.int p, .int q], .lst [.int a, .int b], .lst (ys ++ zs)], rfl, .inl ?_, some (.int (i : Nat)), ys ++ zs, rfl, rfl, fun y hy => (List.mem_append.mp hy).elim (h1 y) (hzp y), ?_, fun _ z => ?_⟩
      · have hsz : ys.length + zs.length ≤ 1000000 := by
          have : i * 60 ≤ 60 * 60 := Nat.mul_le_mul (by omega) (Nat.le_refl _)
          omega
        exact v_drop (v_me (v_var rfl) rfl (v_cons1 (v_F lc)) (ext_of rfl rfl hsz))
      · rw [List.length_append, Nat.succ_mul]
        omega
      · obtain ⟨z1, z2⟩ := List.append_eq_nil_iff.mp z
        by_cases h0 : i = 0
        · exact hz0 h0 z2
        · exact h3 (by omega) z1)
  rw [hlen] at h2 h3
  refine ⟨ys, ?_, h3 (by omega), by have : n.toNat * 60 ≤ 60 * 60 := Nat.mul_le_mul (by omega) (Nat.le_refl _); omega, h1⟩
  have hcl : clLB 2 ys = true := clLB_all fun x hx => by
    obtain ⟨k, j, rfl, _⟩ := h1 x hx
    rfl
  unfold m__law_parts
  refine runA_of (S1 := [.lst [.int p, .int q], .lst [.int a, .int b], .lst ys]) (d1 := .ref 2) (v_run rfl (v_seq (v_ifFp (v_tst (v_var rfl) v_c (by kernel_rfl))) (v_seq (e1 := [some (.str ("crossed" : Str)), some (.int n), none, some (.ref 2), none]) (S1 := [.lst [.int p, .int q], .lst [.int a, .int b], .lst []]) (by kernel_rfl) (v_seq hf (v_ret (v_var rfl)))))) (finAb_ok ?_)
  exact fin_ref rfl (Nat.lt_irrefl _) rfl hcl rfl
noncomputable abbrev TURN : Sv := (sSeq (sSet 8 (eOpS hIx (eVar 6) (eCall m__law_next (aCons (eVar 2) (aCons (eCall kLen (aCons (eVar 6) aNil)) aNil)))))
  (sSeq (sSet 9 (eF (fLc [10] (iSq (eVar 6)) (gNm 10) (tOr' (tV (eOpS hEq (eOpS hIx (eVar 10) (eC (.int 0))) (eOpS hIx (eVar 8) (eC (.int 0))))) (tV (eOpS hEq (eOpS hIx (eVar 10) (eUn uNeg (eC (.int 1)))) (eOpS hIx (eVar 8) (eUn uNeg (eC (.int 1))))))) (eVar 10))))
  (sSeq (sSet 9 (eF (fOp hCat (eVar 9) (eF (fLc [10] (iSq (eVar 6)) (gNm 10) (tV (eOp hLtI (eCall kAbs (aCons (eOp hSub (eOpS hIx (eVar 10) (eC (.int 0))) (eOpS hIx (eVar 8) (eUn uNeg (eC (.int 1))))) aNil)) (eC (.int 2)))) (eVar 10))))))
  (sSeq (sSet 10 (eCall m__law_of (aCons (eVar 2) (aCons (eCall m__law_of (aCons (eVar 2) (aCons (eF (fLst (aCons (eVar 9) (aCons (eVar 6) aNil)))) aNil))) aNil))))
  (sSeq (sSet 11 (eCall m__law_far_due (aCons (eVar 5) (aCons (eVar 4) (aCons (eVar 8) (aCons (eVar 10) aNil))))))
  (sIf (tOr' (tNo (tV (eCall (m__law_same 70) (aCons (eCall m_both_share (aCons (eVar 5) (aCons (eVar 4) (aCons (eVar 8) (aCons (eVar 10) aNil))))) (aCons (eVar 11) aNil))))) (tV (eOpS hNe (eCall m_both_share (aCons (eVar 5) (aCons (eVar 4) (aCons (eVar 10) (aCons (eVar 8) aNil))))) (eVar 11))))
  (sRet (eC (.bl false)))
  sNx))))))
noncomputable abbrev KIND : Sv := (sSeq (sIf (tNo (tV (eCall m__law_all_pairs_right (aCons (eVar 5) (aCons (eVar 3) aNil)))))
  (sRet (eC (.bl false)))
  sNx)
  (sSeq (sSet 6 (eCall m__law_parts (aCons (eVar 5) (aCons (eVar 4) aNil))))
  (sFor (iR1 (eC (.int 8))) (gNm 7)
  TURN)))
noncomputable abbrev BODY : Sv := (sSeq (sSet 2 (eA (fCall m__law_pot (aCons (eVar 0) (aCons (eVar 1) aNil)))))
  (sSeq (sSet 3 (eCall m__law_of (aCons (eVar 2) (aCons (eF (fLst (aCons (eC (.int 1)) (aCons (eC (.int 2)) (aCons (eC (.int 3)) (aCons (eC (.int 4)) (aCons (eC (.int 5)) (aCons (eC (.int 5)) (aCons (eC (.int 4)) aNil))))))))) aNil))))
  (sSeq (sSet 4 (eOp hAdd (eC (.int 2)) (eCall m__law_next (aCons (eVar 2) (aCons (eC (.int 59)) aNil)))))
  (sFor (iSq (eF (fLst (aCons (eC (.str ("rounds" : Str))) (aCons (eC (.str ("stays" : Str))) (aCons (eC (.str ("rises" : Str))) (aCons (eC (.str ("highs" : Str))) (aCons (eC (.str ("crossed" : Str))) aNil)))))))) (gNm 5)
  KIND))))
def fI (d : D) : Int := match hIx d (.int 0) [] with
  | some (.int i, _) => i
  | _ => 0
def lI (d : D) : Int := match hIx d (.int (-1)) [] with
  | some (.int i, _) => i
  | _ => 0
theorem one1 (a b : Int) (xs : List D) (e : Tr.Env) (h : PotOk a b) (h2 : e[2]? = some (some (.ref 0))) (h6 : e[6]? = some (some (.lst xs))) (hne : xs ≠ []) (hl : xs.length ≤ 10000) : ∃ x a' b', eOpS hIx (eVar 6) (eCall m__law_next (aCons (eVar 2) (aCons (eCall kLen (aCons (eVar 6) aNil)) aNil))) e [.lst [.int a, .int b]] = some (x, [.lst [.int a', .int b']]) ∧ x ∈ xs ∧ PotOk a' b' := by
  have hp : 0 < xs.length := List.length_pos_iff.mpr hne
  obtain ⟨d, a', b', h1, h2', h3, h4⟩ := next1 a b (xs.length : Int) h (by omega) (by omega)
  have hd : d.toNat < xs.length := by omega
  have hx : L2.atI xs d = some xs[d.toNat] := by
    unfold L2.atI L2.ixN
    rw [if_pos h2', if_pos h3]
    exact List.getElem?_eq_getElem hd
  refine ⟨xs[d.toNat], a', b', v_opS (v_var h6) (v_call2 (v_var h2) (v_call1 (v_var h6) rfl) h1) ?_, List.getElem_mem hd, h4⟩
  exact ix_lst hx
theorem turn1 (ks : Str) (PK : D → Prop) (n : Int) (xs : List D) (hx : xs ≠ []) (hl : xs.length ≤ 10000) (hP : ∀ x ∈ xs, PK x)
    (hk : ∀ x, PK x → ∃ i l, (∀ S, hIx x (.int 0) S = some (.int i, S)) ∧ (∀ S, hIx x (.int (-1)) S = some (.int l, S)) ∧ clB 1 x = true ∧ ∀ l, x ≠ .ref l)
    (hf : ∀ a b x y, PK x → PK y → ∃ v : Int, m__law_far_due [.str ks, .int n, x, y] [.lst [.int a, .int b]] = some (.tup [.int 1, .int v], [.lst [.int a, .int b]]) ∧ m_both_share [.str ks, .int n, x, y] [.lst [.int a, .int b]] = some (.tup [.int 1, .int v], [.lst [.int a, .int b]]) ∧ m_both_share [.str ks, .int n, y, x] [.lst [.int a, .int b]] = some (.tup [.int 1, .int v], [.lst [.int a, .int b]]))
    (a b : Int) (h : PotOk a b) (z0 z1 z3 : D) (w7 w8 w9 w10 w11 : Option D) : ∃ a' b' v8 v9 v10 v11, TURN [some z0, some z1, some (.ref 0), some z3, some (.int n), some (.str ks), some (.lst xs), w7, w8, w9, w10, w11] [.lst [.int a, .int b]] = some (.nx [some z0, some z1, some (.ref 0), some z3, some (.int n), some (.str ks), some (.lst xs), w7, some v8, some v9, some v10, some v11], [.lst [.int a', .int b']]) ∧ PotOk a' b' := by
  obtain ⟨one, a1, b1, q1, m1, h1⟩ := one1 a b xs [some z0, some z1, some (.ref 0), some z3, some (.int n), some (.str ks), some (.lst xs), w7, w8, w9, w10, w11] h rfl rfl hx hl
  clear h
  obtain ⟨i1, l1, g1, g2, c1, r1⟩ := hk one (hP one m1)
  have f0 : ∀ d ∈ xs, ∃ i l, (∀ S, hIx d (.int 0) S = some (.int i, S)) ∧ (∀ S, hIx d (.int (-1)) S = some (.int l, S)) := fun d hd => by
    obtain ⟨i, l, u1, u2, _⟩ := hk d (hP d hd)
    exact ⟨i, l, u1, u2⟩
  have neg : uNeg (.int 1) = some (.int (-1)) := rfl
  have i0 : ∀ S, hIx one (.int 0) S = some (.int i1, S) := g1
  -- near1
  have lc1 := lc_pure (vs := [10]) (f := iSq (eVar 6)) (src := fun _ => some xs) (g := gNm 10) (c := (tOr' (tV (eOpS hEq (eOpS hIx (eVar 10) (eC (.int 0))) (eOpS hIx (eVar 8) (eC (.int 0))))) (tV (eOpS hEq (eOpS hIx (eVar 10) (eUn uNeg (eC (.int 1)))) (eOpS hIx (eVar 8) (eUn uNeg (eC (.int 1)))))))) (x := eVar 10)
    (e := [some z0, some z1, some (.ref 0), some z3, some (.int n), some (.str ks), some (.lst xs), w7, some one, w9, w10, w11]) (S := [.lst [.int a1, .int b1]]) (S1 := [.lst [.int a1, .int b1]]) (by simp [iSq, eVar, srcOf]) (fun _ => rfl) (fun d => decide (fI d = i1) || decide (lI d = l1)) id
    (fun d hd => by
      obtain ⟨i, l, u1, u2⟩ := f0 d hd
      have ei : fI d = i := by unfold fI; rw [u1]
      have el : lI d = l := by unfold lI; rw [u2]
      refine ⟨[some z0, some z1, some (.ref 0), some z3, some (.int n), some (.str ks), some (.lst xs), w7, some one, w9, some d, w11], rfl, ?_, fun _ => v_var rfl⟩
      rw [ei, el]
      have t1 : tV (eOpS hEq (eOpS hIx (eVar 10) (eC (.int 0))) (eOpS hIx (eVar 8) (eC (.int 0)))) [some z0, some z1, some (.ref 0), some z3, some (.int n), some (.str ks), some (.lst xs), w7, some one, w9, some d, w11] [.lst [.int a1, .int b1]] = some (decide (i = i1), [.lst [.int a1, .int b1]]) := v_tst (v_opS (v_var rfl) v_c (u1 _)) (v_opS (v_var rfl) v_c (g1 _)) (eqi _ _ _)
      have t2 : tV (eOpS hEq (eOpS hIx (eVar 10) (eUn uNeg (eC (.int 1)))) (eOpS hIx (eVar 8) (eUn uNeg (eC (.int 1))))) [some z0, some z1, some (.ref 0), some z3, some (.int n), some (.str ks), some (.lst xs), w7, some one, w9, some d, w11] [.lst [.int a1, .int b1]] = some (decide (l = l1), [.lst [.int a1, .int b1]]) := v_tst (v_opS (v_var rfl) (v_un v_c neg) (u2 _)) (v_opS (v_var rfl) (v_un v_c neg) (g2 _)) (eqi _ _ _)
      by_cases hc : i = i1
      · rw [decide_eq_true hc] at t1 ⊢
        exact v_orT t1
      · rw [decide_eq_false hc] at t1 ⊢
        exact v_orF t1 t2) (by omega)
  rw [List.map_id] at lc1
  have mone : one ∈ xs.filter (fun d => decide (fI d = i1) || decide (lI d = l1)) := List.mem_filter.mpr ⟨m1, by
    have ei : fI one = i1 := by unfold fI; rw [g1]
    rw [ei, decide_eq_true rfl]; rfl⟩
  have sub1 : ∀ d ∈ xs.filter (fun d => decide (fI d = i1) || decide (lI d = l1)), d ∈ xs := fun d hd => (List.mem_filter.mp hd).1
  have len1 : (xs.filter (fun d => decide (fI d = i1) || decide (lI d = l1))).length ≤ 10000 := Nat.le_trans (List.length_filter_le _ _) hl
  generalize xs.filter (fun d => decide (fI d = i1) || decide (lI d = l1)) = near1 at lc1 mone sub1 len1
  have lc2 := lc_pure (vs := [10]) (f := iSq (eVar 6)) (src := fun _ => some xs) (g := gNm 10) (c := (tV (eOp hLtI (eCall kAbs (aCons (eOp hSub (eOpS hIx (eVar 10) (eC (.int 0))) (eOpS hIx (eVar 8) (eUn uNeg (eC (.int 1))))) aNil)) (eC (.int 2))))) (x := eVar 10)
    (e := [some z0, some z1, some (.ref 0), some z3, some (.int n), some (.str ks), some (.lst xs), w7, some one, some (.lst near1), w10, w11]) (S := [.lst [.int a1, .int b1]]) (S1 := [.lst [.int a1, .int b1]]) (by simp [iSq, eVar, srcOf]) (fun _ => rfl) (fun d => decide ((if fI d - l1 < 0 then -(fI d - l1) else fI d - l1) < 2)) id
    (fun d hd => by
      obtain ⟨i, l, u1, u2⟩ := f0 d hd
      have ei : fI d = i := by unfold fI; rw [u1]
      refine ⟨[some z0, some z1, some (.ref 0), some z3, some (.int n), some (.str ks), some (.lst xs), w7, some one, some (.lst near1), some d, w11], rfl, ?_, fun _ => v_var rfl⟩
      rw [ei]
      exact v_tV (v_op (v_call1 (v_op (v_opS (v_var rfl) v_c (u1 _)) (v_opS (v_var rfl) (v_un v_c neg) (g2 _)) subI_of) rfl) v_c ltI_of)) (by omega)
  rw [List.map_id] at lc2
  have sub2 : ∀ d ∈ xs.filter (fun d => decide ((if fI d - l1 < 0 then -(fI d - l1) else fI d - l1) < 2)), d ∈ xs := fun d hd => (List.mem_filter.mp hd).1
  have len2 : (xs.filter (fun d => decide ((if fI d - l1 < 0 then -(fI d - l1) else fI d - l1) < 2))).length ≤ 10000 := Nat.le_trans (List.length_filter_le _ _) hl
  generalize xs.filter (fun d => decide ((if fI d - l1 < 0 then -(fI d - l1) else fI d - l1) < 2)) = near2 at lc2 sub2 len2
  obtain ⟨near, hnear⟩ : ∃ near, near = near1 ++ near2 := ⟨_, rfl⟩
  have subn : ∀ d ∈ near, d ∈ xs := fun d hd => by
    rw [hnear] at hd
    exact (List.mem_append.mp hd).elim (sub1 d) (sub2 d)
  have nen : near ≠ [] := fun z => by
    have : one ∈ near := by rw [hnear]; exact List.mem_append_left _ mone
    rw [z] at this
    cases this
  have lenn : near.length ≤ 1000000 := by rw [hnear, List.length_append]; omega
  have cl : ∀ ys : List D, (∀ d ∈ ys, d ∈ xs) → clLB 1 ys = true := fun ys hy => clLB_all fun d hd => (by
    obtain ⟨_, _, _, _, c, _⟩ := hk d (hP d (hy d hd))
    exact c)
  obtain ⟨lst, a2, b2, q2, m2, h2⟩ := of1 a1 b1 [.lst near, .lst xs] h1 (by simp) (by simp) (fun x hx => by
    rcases List.mem_cons.mp hx with rfl | hx
    · exact ⟨cl near subn, fun l z => by cases z⟩
    · rw [List.mem_singleton.mp hx]
      exact ⟨cl xs fun _ hd => hd, fun l z => by cases z⟩)
  obtain ⟨ys, rfl, hy, hyn, hyl⟩ : ∃ ys, lst = .lst ys ∧ (∀ d ∈ ys, d ∈ xs) ∧ ys ≠ [] ∧ ys.length ≤ 1000000 := by
    rcases List.mem_cons.mp m2 with rfl | hx'
    · exact ⟨near, rfl, subn, nen, lenn⟩
    · exact ⟨xs, List.mem_singleton.mp hx', fun _ hd => hd, hx, by omega⟩
  obtain ⟨other, a3, b3, q3, m3, h3⟩ := of1 a2 b2 ys h2 hyn hyl (fun x hx => by
    obtain ⟨_, _, _, _, c, r⟩ := hk x (hP x (hy x hx))
    exact ⟨c, r⟩)
  obtain ⟨v, k1, k2, k3⟩ := hf a3 b3 one other (hP one m1) (hP other (hy other m3))
  have hn2 : hNe (.tup [.int 1, .int v]) (.tup [.int 1, .int v]) [.lst [.int a3, .int b3]] = some (.bl false, [.lst [.int a3, .int b3]]) := by
    rw [ne2, decide_eq_true ⟨rfl, rfl⟩]
    rfl
  refine ⟨a3, b3, one, .lst near, other, .tup [.int 1, .int v], ?_, h3⟩
  refine v_seq (v_set q1) (v_seq (v_set (v_F lc1)) (v_seq (v_set (v_F (v_opF (v_var rfl) (v_F lc2) (cat_of (by omega))))) ?_))
  rw [← hnear]
  refine v_seq (v_set (v_call2 (v_var rfl) (v_call2 (v_var rfl) (v_F (v_L2 (v_var rfl) (v_var rfl))) q2) q3)) (v_seq (v_set (v_call4 (v_var rfl) (v_var rfl) (v_var rfl) (v_var rfl) k1)) (v_ifFp (v_orF (v_no (b := true) (v_tV (v_call2 (v_call4 (v_var rfl) (v_var rfl) (v_var rfl) (v_var rfl) k2) (v_var rfl) (same_t1 _ _ _ _)))) (v_tst (v_call4 (v_var rfl) (v_var rfl) (v_var rfl) (v_var rfl) k3) (v_var rfl) hn2))))
theorem one2 (p q : Int) (a b : Int) (xs : List D) (e : Tr.Env) (h : PotOk a b) (h2 : e[2]? = some (some (.ref 1))) (h6 : e[6]? = some (some (.lst xs))) (hne : xs ≠ []) (hl : xs.length ≤ 10000) : ∃ x a' b', eOpS hIx (eVar 6) (eCall m__law_next (aCons (eVar 2) (aCons (eCall kLen (aCons (eVar 6) aNil)) aNil))) e [.lst [.int p, .int q], .lst [.int a, .int b]] = some (x, [.lst [.int p, .int q], .lst [.int a', .int b']]) ∧ x ∈ xs ∧ PotOk a' b' := by
  have hp : 0 < xs.length := List.length_pos_iff.mpr hne
  obtain ⟨d, a', b', h1, h2', h3, h4⟩ := next2 p q a b (xs.length : Int) h (by omega) (by omega)
  have hd : d.toNat < xs.length := by omega
  have hx : L2.atI xs d = some xs[d.toNat] := by
    unfold L2.atI L2.ixN
    rw [if_pos h2', if_pos h3]
    exact List.getElem?_eq_getElem hd
  refine ⟨xs[d.toNat], a', b', v_opS (v_var h6) (v_call2 (v_var h2) (v_call1 (v_var h6) rfl) h1) ?_, List.getElem_mem hd, h4⟩
  exact ix_lst hx
theorem turn2 (p q : Int) (ks : Str) (PK : D → Prop) (n : Int) (xs : List D) (hx : xs ≠ []) (hl : xs.length ≤ 10000) (hP : ∀ x ∈ xs, PK x)
    (hk : ∀ x, PK x → ∃ i l, (∀ S, hIx x (.int 0) S = some (.int i, S)) ∧ (∀ S, hIx x (.int (-1)) S = some (.int l, S)) ∧ clB 2 x = true ∧ ∀ l, x ≠ .ref l)
    (hf : ∀ a b x y, PK x → PK y → ∃ v : Int, m__law_far_due [.str ks, .int n, x, y] [.lst [.int p, .int q], .lst [.int a, .int b]] = some (.tup [.int 1, .int v], [.lst [.int p, .int q], .lst [.int a, .int b]]) ∧ m_both_share [.str ks, .int n, x, y] [.lst [.int p, .int q], .lst [.int a, .int b]] = some (.tup [.int 1, .int v], [.lst [.int p, .int q], .lst [.int a, .int b]]) ∧ m_both_share [.str ks, .int n, y, x] [.lst [.int p, .int q], .lst [.int a, .int b]] = some (.tup [.int 1, .int v], [.lst [.int p, .int q], .lst [.int a, .int b]]))
    (a b : Int) (h : PotOk a b) (z0 z1 z3 : D) (w7 w8 w9 w10 w11 : Option D) : ∃ a' b' v8 v9 v10 v11, TURN [some z0, some z1, some (.ref 1), some z3, some (.int n), some (.str ks), some (.lst xs), w7, w8, w9, w10, w11] [.lst [.int p, .int q], .lst [.int a, .int b]] = some (.nx [some z0, some z1, some (.ref 1), some z3, some (.int n), some (.str ks), some (.lst xs), w7, some v8, some v9, some v10, some v11], [.lst [.int p, .int q], .lst [.int a', .int b']]) ∧ PotOk a' b' := by
  obtain ⟨one, a1, b1, q1, m1, h1⟩ := one2 p q a b xs [some z0, some z1, some (.ref 1), some z3, some (.int n), some (.str ks), some (.lst xs), w7, w8, w9, w10, w11] h rfl rfl hx hl
  clear h
  obtain ⟨i1, l1, g1, g2, c1, r1⟩ := hk one (hP one m1)
  have f0 : ∀ d ∈ xs, ∃ i l, (∀ S, hIx d (.int 0) S = some (.int i, S)) ∧ (∀ S, hIx d (.int (-1)) S = some (.int l, S)) := fun d hd => by
    obtain ⟨i, l, u1, u2, _⟩ := hk d (hP d hd)
    exact ⟨i, l, u1, u2⟩
  have neg : uNeg (.int 1) = some (.int (-1)) := rfl
  have i0 : ∀ S, hIx one (.int 0) S = some (.int i1, S) := g1
  -- near1
  have lc1 := lc_pure (vs := [10]) (f := iSq (eVar 6)) (src := fun _ => some xs) (g := gNm 10) (c := (tOr' (tV (eOpS hEq (eOpS hIx (eVar 10) (eC (.int 0))) (eOpS hIx (eVar 8) (eC (.int 0))))) (tV (eOpS hEq (eOpS hIx (eVar 10) (eUn uNeg (eC (.int 1)))) (eOpS hIx (eVar 8) (eUn uNeg (eC (.int 1)))))))) (x := eVar 10)
    (e := [some z0, some z1, some (.ref 1), some z3, some (.int n), some (.str ks), some (.lst xs), w7, some one, w9, w10, w11]) (S := [.lst [.int p, .int q], .lst [.int a1, .int b1]]) (S1 := [.lst [.int p, .int q], .lst [.int a1, .int b1]]) (by simp [iSq, eVar, srcOf]) (fun _ => rfl) (fun d => decide (fI d = i1) || decide (lI d = l1)) id
    (fun d hd => by
      obtain ⟨i, l, u1, u2⟩ := f0 d hd
      have ei : fI d = i := by unfold fI; rw [u1]
      have el : lI d = l := by unfold lI; rw [u2]
      refine ⟨[some z0, some z1, some (.ref 1), some z3, some (.int n), some (.str ks), some (.lst xs), w7, some one, w9, some d, w11], rfl, ?_, fun _ => v_var rfl⟩
      rw [ei, el]
      have t1 : tV (eOpS hEq (eOpS hIx (eVar 10) (eC (.int 0))) (eOpS hIx (eVar 8) (eC (.int 0)))) [some z0, some z1, some (.ref 1), some z3, some (.int n), some (.str ks), some (.lst xs), w7, some one, w9, some d, w11] [.lst [.int p, .int q], .lst [.int a1, .int b1]] = some (decide (i = i1), [.lst [.int p, .int q], .lst [.int a1, .int b1]]) := v_tst (v_opS (v_var rfl) v_c (u1 _)) (v_opS (v_var rfl) v_c (g1 _)) (eqi _ _ _)
      have t2 : tV (eOpS hEq (eOpS hIx (eVar 10) (eUn uNeg (eC (.int 1)))) (eOpS hIx (eVar 8) (eUn uNeg (eC (.int 1))))) [some z0, some z1, some (.ref 1), some z3, some (.int n), some (.str ks), some (.lst xs), w7, some one, w9, some d, w11] [.lst [.int p, .int q], .lst [.int a1, .int b1]] = some (decide (l = l1), [.lst [.int p, .int q], .lst [.int a1, .int b1]]) := v_tst (v_opS (v_var rfl) (v_un v_c neg) (u2 _)) (v_opS (v_var rfl) (v_un v_c neg) (g2 _)) (eqi _ _ _)
      by_cases hc : i = i1
      · rw [decide_eq_true hc] at t1 ⊢
        exact v_orT t1
      · rw [decide_eq_false hc] at t1 ⊢
        exact v_orF t1 t2) (by omega)
  rw [List.map_id] at lc1
  have mone : one ∈ xs.filter (fun d => decide (fI d = i1) || decide (lI d = l1)) := List.mem_filter.mpr ⟨m1, by
    have ei : fI one = i1 := by unfold fI; rw [g1]
    rw [ei, decide_eq_true rfl]; rfl⟩
  have sub1 : ∀ d ∈ xs.filter (fun d => decide (fI d = i1) || decide (lI d = l1)), d ∈ xs := fun d hd => (List.mem_filter.mp hd).1
  have len1 : (xs.filter (fun d => decide (fI d = i1) || decide (lI d = l1))).length ≤ 10000 := Nat.le_trans (List.length_filter_le _ _) hl
  generalize xs.filter (fun d => decide (fI d = i1) || decide (lI d = l1)) = near1 at lc1 mone sub1 len1
  have lc2 := lc_pure (vs := [10]) (f := iSq (eVar 6)) (src := fun _ => some xs) (g := gNm 10) (c := (tV (eOp hLtI (eCall kAbs (aCons (eOp hSub (eOpS hIx (eVar 10) (eC (.int 0))) (eOpS hIx (eVar 8) (eUn uNeg (eC (.int 1))))) aNil)) (eC (.int 2))))) (x := eVar 10)
    (e := [some z0, some z1, some (.ref 1), some z3, some (.int n), some (.str ks), some (.lst xs), w7, some one, some (.lst near1), w10, w11]) (S := [.lst [.int p, .int q], .lst [.int a1, .int b1]]) (S1 := [.lst [.int p, .int q], .lst [.int a1, .int b1]]) (by simp [iSq, eVar, srcOf]) (fun _ => rfl) (fun d => decide ((if fI d - l1 < 0 then -(fI d - l1) else fI d - l1) < 2)) id
    (fun d hd => by
      obtain ⟨i, l, u1, u2⟩ := f0 d hd
      have ei : fI d = i := by unfold fI; rw [u1]
      refine ⟨[some z0, some z1, some (.ref 1), some z3, some (.int n), some (.str ks), some (.lst xs), w7, some one, some (.lst near1), some d, w11], rfl, ?_, fun _ => v_var rfl⟩
      rw [ei]
      exact v_tV (v_op (v_call1 (v_op (v_opS (v_var rfl) v_c (u1 _)) (v_opS (v_var rfl) (v_un v_c neg) (g2 _)) subI_of) rfl) v_c ltI_of)) (by omega)
  rw [List.map_id] at lc2
  have sub2 : ∀ d ∈ xs.filter (fun d => decide ((if fI d - l1 < 0 then -(fI d - l1) else fI d - l1) < 2)), d ∈ xs := fun d hd => (List.mem_filter.mp hd).1
  have len2 : (xs.filter (fun d => decide ((if fI d - l1 < 0 then -(fI d - l1) else fI d - l1) < 2))).length ≤ 10000 := Nat.le_trans (List.length_filter_le _ _) hl
  generalize xs.filter (fun d => decide ((if fI d - l1 < 0 then -(fI d - l1) else fI d - l1) < 2)) = near2 at lc2 sub2 len2
  obtain ⟨near, hnear⟩ : ∃ near, near = near1 ++ near2 := ⟨_, rfl⟩
  have subn : ∀ d ∈ near, d ∈ xs := fun d hd => by
    rw [hnear] at hd
    exact (List.mem_append.mp hd).elim (sub1 d) (sub2 d)
  have nen : near ≠ [] := fun z => by
    have : one ∈ near := by rw [hnear]; exact List.mem_append_left _ mone
    rw [z] at this
    cases this
  have lenn : near.length ≤ 1000000 := by rw [hnear, List.length_append]; omega
  have cl : ∀ ys : List D, (∀ d ∈ ys, d ∈ xs) → clLB 2 ys = true := fun ys hy => clLB_all fun d hd => (by
    obtain ⟨_, _, _, _, c, _⟩ := hk d (hP d (hy d hd))
    exact c)
  obtain ⟨lst, a2, b2, q2, m2, h2⟩ := of2 p q a1 b1 [.lst near, .lst xs] h1 (by simp) (by simp) (fun x hx => by
    rcases List.mem_cons.mp hx with rfl | hx
    · exact ⟨cl near subn, fun l z => by cases z⟩
    · rw [List.mem_singleton.mp hx]
      exact ⟨cl xs fun _ hd => hd, fun l z => by cases z⟩)
  obtain ⟨ys, rfl, hy, hyn, hyl⟩ : ∃ ys, lst = .lst ys ∧ (∀ d ∈ ys, d ∈ xs) ∧ ys ≠ [] ∧ ys.length ≤ 1000000 := by
    rcases List.mem_cons.mp m2 with rfl | hx'
    · exact ⟨near, rfl, subn, nen, lenn⟩
    · exact ⟨xs, List.mem_singleton.mp hx', fun _ hd => hd, hx, by omega⟩
  obtain ⟨other, a3, b3, q3, m3, h3⟩ := of2 p q a2 b2 ys h2 hyn hyl (fun x hx => by
    obtain ⟨_, _, _, _, c, r⟩ := hk x (hP x (hy x hx))
    exact ⟨c, r⟩)
  obtain ⟨v, k1, k2, k3⟩ := hf a3 b3 one other (hP one m1) (hP other (hy other m3))
  have hn2 : hNe (.tup [.int 1, .int v]) (.tup [.int 1, .int v]) [.lst [.int p, .int q], .lst [.int a3, .int b3]] = some (.bl false, [.lst [.int p, .int q], .lst [.int a3, .int b3]]) := by
    rw [ne2, decide_eq_true ⟨rfl, rfl⟩]
    rfl
  refine ⟨a3, b3, one, .lst near, other, .tup [.int 1, .int v], ?_, h3⟩
  refine v_seq (v_set q1) (v_seq (v_set (v_F lc1)) (v_seq (v_set (v_F (v_opF (v_var rfl) (v_F lc2) (cat_of (by omega))))) ?_))
  rw [← hnear]
  refine v_seq (v_set (v_call2 (v_var rfl) (v_call2 (v_var rfl) (v_F (v_L2 (v_var rfl) (v_var rfl))) q2) q3)) (v_seq (v_set (v_call4 (v_var rfl) (v_var rfl) (v_var rfl) (v_var rfl) k1)) (v_ifFp (v_orF (v_no (b := true) (v_tV (v_call2 (v_call4 (v_var rfl) (v_var rfl) (v_var rfl) (v_var rfl) k2) (v_var rfl) (same_t2 p q _ _ _ _)))) (v_tst (v_call4 (v_var rfl) (v_var rfl) (v_var rfl) (v_var rfl) k3) (v_var rfl) hn2))))
theorem ap_rounds_1_1 (a b : Int) : m__law_all_pairs_right [.str ("rounds" : Str), .int 1] [.lst [.int a, .int b]] = some (.bl true, [.lst [.int a, .int b]]) := by kernel_rfl
theorem ap_rounds_2_1 (a b : Int) : m__law_all_pairs_right [.str ("rounds" : Str), .int 2] [.lst [.int a, .int b]] = some (.bl true, [.lst [.int a, .int b]]) := by kernel_rfl
theorem ap_rounds_3_1 (a b : Int) : m__law_all_pairs_right [.str ("rounds" : Str), .int 3] [.lst [.int a, .int b]] = some (.bl true, [.lst [.int a, .int b]]) := by kernel_rfl
theorem ap_rounds_4_1 (a b : Int) : m__law_all_pairs_right [.str ("rounds" : Str), .int 4] [.lst [.int a, .int b]] = some (.bl true, [.lst [.int a, .int b]]) := by kernel_rfl
theorem ap_rounds_5_1 (a b : Int) : m__law_all_pairs_right [.str ("rounds" : Str), .int 5] [.lst [.int a, .int b]] = some (.bl true, [.lst [.int a, .int b]]) := by kernel_rfl
theorem ap_stays_1_1 (a b : Int) : m__law_all_pairs_right [.str ("stays" : Str), .int 1] [.lst [.int a, .int b]] = some (.bl true, [.lst [.int a, .int b]]) := by kernel_rfl
theorem ap_stays_2_1 (a b : Int) : m__law_all_pairs_right [.str ("stays" : Str), .int 2] [.lst [.int a, .int b]] = some (.bl true, [.lst [.int a, .int b]]) := by kernel_rfl
theorem ap_stays_3_1 (a b : Int) : m__law_all_pairs_right [.str ("stays" : Str), .int 3] [.lst [.int a, .int b]] = some (.bl true, [.lst [.int a, .int b]]) := by kernel_rfl
theorem ap_stays_4_1 (a b : Int) : m__law_all_pairs_right [.str ("stays" : Str), .int 4] [.lst [.int a, .int b]] = some (.bl true, [.lst [.int a, .int b]]) := by kernel_rfl
theorem ap_stays_5_1 (a b : Int) : m__law_all_pairs_right [.str ("stays" : Str), .int 5] [.lst [.int a, .int b]] = some (.bl true, [.lst [.int a, .int b]]) := by kernel_rfl
theorem ap_rises_1_1 (a b : Int) : m__law_all_pairs_right [.str ("rises" : Str), .int 1] [.lst [.int a, .int b]] = some (.bl true, [.lst [.int a, .int b]]) := by kernel_rfl
theorem ap_rises_2_1 (a b : Int) : m__law_all_pairs_right [.str ("rises" : Str), .int 2] [.lst [.int a, .int b]] = some (.bl true, [.lst [.int a, .int b]]) := by kernel_rfl
theorem ap_rises_3_1 (a b : Int) : m__law_all_pairs_right [.str ("rises" : Str), .int 3] [.lst [.int a, .int b]] = some (.bl true, [.lst [.int a, .int b]]) := by kernel_rfl
theorem ap_rises_4_1 (a b : Int) : m__law_all_pairs_right [.str ("rises" : Str), .int 4] [.lst [.int a, .int b]] = some (.bl true, [.lst [.int a, .int b]]) := by kernel_rfl
theorem ap_rises_5_1 (a b : Int) : m__law_all_pairs_right [.str ("rises" : Str), .int 5] [.lst [.int a, .int b]] = some (.bl true, [.lst [.int a, .int b]]) := by kernel_rfl
theorem ap_highs_1_1 (a b : Int) : m__law_all_pairs_right [.str ("highs" : Str), .int 1] [.lst [.int a, .int b]] = some (.bl true, [.lst [.int a, .int b]]) := by kernel_rfl
theorem ap_highs_2_1 (a b : Int) : m__law_all_pairs_right [.str ("highs" : Str), .int 2] [.lst [.int a, .int b]] = some (.bl true, [.lst [.int a, .int b]]) := by kernel_rfl
theorem ap_highs_3_1 (a b : Int) : m__law_all_pairs_right [.str ("highs" : Str), .int 3] [.lst [.int a, .int b]] = some (.bl true, [.lst [.int a, .int b]]) := by kernel_rfl
theorem ap_highs_4_1 (a b : Int) : m__law_all_pairs_right [.str ("highs" : Str), .int 4] [.lst [.int a, .int b]] = some (.bl true, [.lst [.int a, .int b]]) := by kernel_rfl
theorem ap_highs_5_1 (a b : Int) : m__law_all_pairs_right [.str ("highs" : Str), .int 5] [.lst [.int a, .int b]] = some (.bl true, [.lst [.int a, .int b]]) := by kernel_rfl
theorem ap_crossed_1_1 (a b : Int) : m__law_all_pairs_right [.str ("crossed" : Str), .int 1] [.lst [.int a, .int b]] = some (.bl true, [.lst [.int a, .int b]]) := by kernel_rfl
theorem ap_crossed_2_1 (a b : Int) : m__law_all_pairs_right [.str ("crossed" : Str), .int 2] [.lst [.int a, .int b]] = some (.bl true, [.lst [.int a, .int b]]) := by kernel_rfl
theorem ap_crossed_3_1 (a b : Int) : m__law_all_pairs_right [.str ("crossed" : Str), .int 3] [.lst [.int a, .int b]] = some (.bl true, [.lst [.int a, .int b]]) := by kernel_rfl
theorem ap_crossed_4_1 (a b : Int) : m__law_all_pairs_right [.str ("crossed" : Str), .int 4] [.lst [.int a, .int b]] = some (.bl true, [.lst [.int a, .int b]]) := by kernel_rfl
theorem ap_crossed_5_1 (a b : Int) : m__law_all_pairs_right [.str ("crossed" : Str), .int 5] [.lst [.int a, .int b]] = some (.bl true, [.lst [.int a, .int b]]) := by kernel_rfl
theorem ap_rounds_1_2 (p q a b : Int) : m__law_all_pairs_right [.str ("rounds" : Str), .int 1] [.lst [.int p, .int q], .lst [.int a, .int b]] = some (.bl true, [.lst [.int p, .int q], .lst [.int a, .int b]]) := by kernel_rfl
theorem ap_rounds_2_2 (p q a b : Int) : m__law_all_pairs_right [.str ("rounds" : Str), .int 2] [.lst [.int p, .int q], .lst [.int a, .int b]] = some (.bl true, [.lst [.int p, .int q], .lst [.int a, .int b]]) := by kernel_rfl
theorem ap_rounds_3_2 (p q a b : Int) : m__law_all_pairs_right [.str ("rounds" : Str), .int 3] [.lst [.int p, .int q], .lst [.int a, .int b]] = some (.bl true, [.lst [.int p, .int q], .lst [.int a, .int b]]) := by kernel_rfl
theorem ap_rounds_4_2 (p q a b : Int) : m__law_all_pairs_right [.str ("rounds" : Str), .int 4] [.lst [.int p, .int q], .lst [.int a, .int b]] = some (.bl true, [.lst [.int p, .int q], .lst [.int a, .int b]]) := by kernel_rfl
theorem ap_rounds_5_2 (p q a b : Int) : m__law_all_pairs_right [.str ("rounds" : Str), .int 5] [.lst [.int p, .int q], .lst [.int a, .int b]] = some (.bl true, [.lst [.int p, .int q], .lst [.int a, .int b]]) := by kernel_rfl
theorem ap_stays_1_2 (p q a b : Int) : m__law_all_pairs_right [.str ("stays" : Str), .int 1] [.lst [.int p, .int q], .lst [.int a, .int b]] = some (.bl true, [.lst [.int p, .int q], .lst [.int a, .int b]]) := by kernel_rfl
theorem ap_stays_2_2 (p q a b : Int) : m__law_all_pairs_right [.str ("stays" : Str), .int 2] [.lst [.int p, .int q], .lst [.int a, .int b]] = some (.bl true, [.lst [.int p, .int q], .lst [.int a, .int b]]) := by kernel_rfl
theorem ap_stays_3_2 (p q a b : Int) : m__law_all_pairs_right [.str ("stays" : Str), .int 3] [.lst [.int p, .int q], .lst [.int a, .int b]] = some (.bl true, [.lst [.int p, .int q], .lst [.int a, .int b]]) := by kernel_rfl
theorem ap_stays_4_2 (p q a b : Int) : m__law_all_pairs_right [.str ("stays" : Str), .int 4] [.lst [.int p, .int q], .lst [.int a, .int b]] = some (.bl true, [.lst [.int p, .int q], .lst [.int a, .int b]]) := by kernel_rfl
theorem ap_stays_5_2 (p q a b : Int) : m__law_all_pairs_right [.str ("stays" : Str), .int 5] [.lst [.int p, .int q], .lst [.int a, .int b]] = some (.bl true, [.lst [.int p, .int q], .lst [.int a, .int b]]) := by kernel_rfl
theorem ap_rises_1_2 (p q a b : Int) : m__law_all_pairs_right [.str ("rises" : Str), .int 1] [.lst [.int p, .int q], .lst [.int a, .int b]] = some (.bl true, [.lst [.int p, .int q], .lst [.int a, .int b]]) := by kernel_rfl
theorem ap_rises_2_2 (p q a b : Int) : m__law_all_pairs_right [.str ("rises" : Str), .int 2] [.lst [.int p, .int q], .lst [.int a, .int b]] = some (.bl true, [.lst [.int p, .int q], .lst [.int a, .int b]]) := by kernel_rfl
theorem ap_rises_3_2 (p q a b : Int) : m__law_all_pairs_right [.str ("rises" : Str), .int 3] [.lst [.int p, .int q], .lst [.int a, .int b]] = some (.bl true, [.lst [.int p, .int q], .lst [.int a, .int b]]) := by kernel_rfl
theorem ap_rises_4_2 (p q a b : Int) : m__law_all_pairs_right [.str ("rises" : Str), .int 4] [.lst [.int p, .int q], .lst [.int a, .int b]] = some (.bl true, [.lst [.int p, .int q], .lst [.int a, .int b]]) := by kernel_rfl
theorem ap_rises_5_2 (p q a b : Int) : m__law_all_pairs_right [.str ("rises" : Str), .int 5] [.lst [.int p, .int q], .lst [.int a, .int b]] = some (.bl true, [.lst [.int p, .int q], .lst [.int a, .int b]]) := by kernel_rfl
theorem ap_highs_1_2 (p q a b : Int) : m__law_all_pairs_right [.str ("highs" : Str), .int 1] [.lst [.int p, .int q], .lst [.int a, .int b]] = some (.bl true, [.lst [.int p, .int q], .lst [.int a, .int b]]) := by kernel_rfl
theorem ap_highs_2_2 (p q a b : Int) : m__law_all_pairs_right [.str ("highs" : Str), .int 2] [.lst [.int p, .int q], .lst [.int a, .int b]] = some (.bl true, [.lst [.int p, .int q], .lst [.int a, .int b]]) := by kernel_rfl
theorem ap_highs_3_2 (p q a b : Int) : m__law_all_pairs_right [.str ("highs" : Str), .int 3] [.lst [.int p, .int q], .lst [.int a, .int b]] = some (.bl true, [.lst [.int p, .int q], .lst [.int a, .int b]]) := by kernel_rfl
theorem ap_highs_4_2 (p q a b : Int) : m__law_all_pairs_right [.str ("highs" : Str), .int 4] [.lst [.int p, .int q], .lst [.int a, .int b]] = some (.bl true, [.lst [.int p, .int q], .lst [.int a, .int b]]) := by kernel_rfl
theorem ap_highs_5_2 (p q a b : Int) : m__law_all_pairs_right [.str ("highs" : Str), .int 5] [.lst [.int p, .int q], .lst [.int a, .int b]] = some (.bl true, [.lst [.int p, .int q], .lst [.int a, .int b]]) := by kernel_rfl
theorem ap_crossed_1_2 (p q a b : Int) : m__law_all_pairs_right [.str ("crossed" : Str), .int 1] [.lst [.int p, .int q], .lst [.int a, .int b]] = some (.bl true, [.lst [.int p, .int q], .lst [.int a, .int b]]) := by kernel_rfl
theorem ap_crossed_2_2 (p q a b : Int) : m__law_all_pairs_right [.str ("crossed" : Str), .int 2] [.lst [.int p, .int q], .lst [.int a, .int b]] = some (.bl true, [.lst [.int p, .int q], .lst [.int a, .int b]]) := by kernel_rfl
theorem ap_crossed_3_2 (p q a b : Int) : m__law_all_pairs_right [.str ("crossed" : Str), .int 3] [.lst [.int p, .int q], .lst [.int a, .int b]] = some (.bl true, [.lst [.int p, .int q], .lst [.int a, .int b]]) := by kernel_rfl
theorem ap_crossed_4_2 (p q a b : Int) : m__law_all_pairs_right [.str ("crossed" : Str), .int 4] [.lst [.int p, .int q], .lst [.int a, .int b]] = some (.bl true, [.lst [.int p, .int q], .lst [.int a, .int b]]) := by kernel_rfl
theorem ap_crossed_5_2 (p q a b : Int) : m__law_all_pairs_right [.str ("crossed" : Str), .int 5] [.lst [.int p, .int q], .lst [.int a, .int b]] = some (.bl true, [.lst [.int p, .int q], .lst [.int a, .int b]]) := by kernel_rfl
def ManyOk (z : D) : Prop := z = .int 1 ∨ z = .int 2 ∨ z = .int 3 ∨ z = .int 4 ∨ z = .int 5
theorem kind_rounds1 (a b n : Int) (h : PotOk a b) (hn : 2 ≤ n) (hn2 : n ≤ 60) (z0 z1 z3 : D) (hz : ManyOk z3) (w6 w7 w8 w9 w10 w11 : Option D) : ∃ a' b' v6 v7 v8 v9 v10 v11, KIND [some z0, some z1, some (.ref 0), some z3, some (.int n), some (.str ("rounds" : Str)), w6, w7, w8, w9, w10, w11] [.lst [.int a, .int b]] = some (.nx [some z0, some z1, some (.ref 0), some z3, some (.int n), some (.str ("rounds" : Str)), v6, v7, v8, v9, v10, v11], [.lst [.int a', .int b']]) ∧ PotOk a' b' := by
  obtain ⟨xs, q1, hx, hl, hP⟩ := parts_rounds1 a b n hn hn2
  have ap : m__law_all_pairs_right [.str ("rounds" : Str), z3] [.lst [.int a, .int b]] = some (.bl true, [.lst [.int a, .int b]]) := by
    rcases hz with rfl | rfl | rfl | rfl | rfl
    · exact ap_rounds_1_1 a b
    · exact ap_rounds_2_1 a b
    · exact ap_rounds_3_1 a b
    · exact ap_rounds_4_1 a b
    · exact ap_rounds_5_1 a b
  have tn := turn1 ("rounds" : Str) (P1 (n)) n xs hx hl hP (fun x hx => by
      obtain ⟨k, rfl, _⟩ := hx
      exact ⟨k, k, fun _ => rfl, fun _ => rfl, rfl, fun l z => by cases z⟩)
    (fun a b x y hx hy => by
      obtain ⟨k, rfl, k0, k1⟩ := hx
      obtain ⟨j, rfl, j0, j1⟩ := hy
      have e : (if k = j then n - k else (n - k) * (n - j)) = (if j = k then n - j else (n - j) * (n - k)) := by
        by_cases c : k = j
        · subst c; rfl
        · rw [if_neg c, if_neg (fun z => c z.symm)]; exact Int.mul_comm _ _
      exact ⟨_, far_rounds1 a b n k j hn hn2 ⟨k0, k1⟩ ⟨j0, j1⟩, both_rounds1 a b n k j hn hn2 ⟨k0, k1⟩ ⟨j0, j1⟩, by rw [e]; exact both_rounds1 a b n j k hn hn2 ⟨j0, j1⟩ ⟨k0, k1⟩⟩)
  obtain ⟨e', S', hf, a', b', v7, v8, v9, v10, v11, rfl, rfl, hp⟩ := for_inv (fun _ e S' => ∃ a' b' v7 v8 v9 v10 v11, e = [some z0, some z1, some (.ref 0), some z3, some (.int n), some (.str ("rounds" : Str)), some (.lst xs), v7, v8, v9, v10, v11] ∧ S' = [.lst [.int a', .int b']] ∧ PotOk a' b')
    (f := iR1 (eC (.int 8))) (src := fun _ => some (rngD 0 8)) (g := gNm 7) (b := TURN) (e := [some z0, some z1, some (.ref 0), some z3, some (.int n), some (.str ("rounds" : Str)), some (.lst xs), w7, w8, w9, w10, w11]) (S := [.lst [.int a, .int b]]) (S1 := [.lst [.int a, .int b]]) (ds := rngD 0 8)
    rfl (fun _ => rfl) ⟨a, b, w7, w8, w9, w10, w11, rfl, rfl, h⟩ (by
      rintro i dd e S' hd ⟨a1, b1, v7, v8, v9, v10, v11, rfl, rfl, h1⟩
      obtain ⟨a2, b2, u8, u9, u10, u11, q, h2⟩ := tn a1 b1 h1 z0 z1 z3 (some dd) v8 v9 v10 v11
      exact ⟨_, _, _, _, rfl, .inl q, a2, b2, some dd, some u8, some u9, some u10, some u11, rfl, rfl, h2⟩)
  refine ⟨a', b', some (.lst xs), v7, v8, v9, v10, v11, ?_, hp⟩
  exact v_seq (v_ifFp (v_no (b := true) (v_tV (v_call2 (v_var rfl) (v_var rfl) ap)))) (v_seq (v_set (v_call2 (v_var rfl) (v_var rfl) q1)) hf)
theorem kind_stays1 (a b n : Int) (h : PotOk a b) (hn : 2 ≤ n) (hn2 : n ≤ 60) (z0 z1 z3 : D) (hz : ManyOk z3) (w6 w7 w8 w9 w10 w11 : Option D) : ∃ a' b' v6 v7 v8 v9 v10 v11, KIND [some z0, some z1, some (.ref 0), some z3, some (.int n), some (.str ("stays" : Str)), w6, w7, w8, w9, w10, w11] [.lst [.int a, .int b]] = some (.nx [some z0, some z1, some (.ref 0), some z3, some (.int n), some (.str ("stays" : Str)), v6, v7, v8, v9, v10, v11], [.lst [.int a', .int b']]) ∧ PotOk a' b' := by
  obtain ⟨xs, q1, hx, hl, hP⟩ := parts_stays1 a b n hn hn2
  have ap : m__law_all_pairs_right [.str ("stays" : Str), z3] [.lst [.int a, .int b]] = some (.bl true, [.lst [.int a, .int b]]) := by
    rcases hz with rfl | rfl | rfl | rfl | rfl
    · exact ap_stays_1_1 a b
    · exact ap_stays_2_1 a b
    · exact ap_stays_3_1 a b
    · exact ap_stays_4_1 a b
    · exact ap_stays_5_1 a b
  have tn := turn1 ("stays" : Str) (P1 (n)) n xs hx hl hP (fun x hx => by
      obtain ⟨k, rfl, _⟩ := hx
      exact ⟨k, k, fun _ => rfl, fun _ => rfl, rfl, fun l z => by cases z⟩)
    (fun a b x y hx hy => by
      obtain ⟨k, rfl, k0, k1⟩ := hx
      obtain ⟨j, rfl, j0, j1⟩ := hy
      have e : (if k = j then n else (n) * (n - 1)) = (if j = k then n else n * (n - 1)) := by
        by_cases c : k = j
        · subst c; rfl
        · rw [if_neg c, if_neg (fun z => c z.symm)]
      exact ⟨_, far_stays1 a b n k j hn hn2 ⟨k0, k1⟩ ⟨j0, j1⟩, both_stays1 a b n k j hn hn2 ⟨k0, k1⟩ ⟨j0, j1⟩, by rw [e]; exact both_stays1 a b n j k hn hn2 ⟨j0, j1⟩ ⟨k0, k1⟩⟩)
  obtain ⟨e', S', hf, a', b', v7, v8, v9, v10, v11, rfl, rfl, hp⟩ := for_inv (fun _ e S' => ∃ a' b' v7 v8 v9 v10 v11, e = [some z0, some z1, some (.ref 0), some z3, some (.int n), some (.str ("stays" : Str)), some (.lst xs), v7, v8, v9, v10, v11] ∧ S' = [.lst [.int a', .int b']] ∧ PotOk a' b')
    (f := iR1 (eC (.int 8))) (src := fun _ => some (rngD 0 8)) (g := gNm 7) (b := TURN) (e := [some z0, some z1, some (.ref 0), some z3, some (.int n), some (.str ("stays" : Str)), some (.lst xs), w7, w8, w9, w10, w11]) (S := [.lst [.int a, .int b]]) (S1 := [.lst [.int a, .int b]]) (ds := rngD 0 8)
    rfl (fun _ => rfl) ⟨a, b, w7, w8, w9, w10, w11, rfl, rfl, h⟩ (by
      rintro i dd e S' hd ⟨a1, b1, v7, v8, v9, v10, v11, rfl, rfl, h1⟩
      obtain ⟨a2, b2, u8, u9, u10, u11, q, h2⟩ := tn a1 b1 h1 z0 z1 z3 (some dd) v8 v9 v10 v11
      exact ⟨_, _, _, _, rfl, .inl q, a2, b2, some dd, some u8, some u9, some u10, some u11, rfl, rfl, h2⟩)
  refine ⟨a', b', some (.lst xs), v7, v8, v9, v10, v11, ?_, hp⟩
  exact v_seq (v_ifFp (v_no (b := true) (v_tV (v_call2 (v_var rfl) (v_var rfl) ap)))) (v_seq (v_set (v_call2 (v_var rfl) (v_var rfl) q1)) hf)
theorem kind_rises1 (a b n : Int) (h : PotOk a b) (hn : 2 ≤ n) (hn2 : n ≤ 60) (z0 z1 z3 : D) (hz : ManyOk z3) (w6 w7 w8 w9 w10 w11 : Option D) : ∃ a' b' v6 v7 v8 v9 v10 v11, KIND [some z0, some z1, some (.ref 0), some z3, some (.int n), some (.str ("rises" : Str)), w6, w7, w8, w9, w10, w11] [.lst [.int a, .int b]] = some (.nx [some z0, some z1, some (.ref 0), some z3, some (.int n), some (.str ("rises" : Str)), v6, v7, v8, v9, v10, v11], [.lst [.int a', .int b']]) ∧ PotOk a' b' := by
  obtain ⟨xs, q1, hx, hl, hP⟩ := parts_rises1 a b n hn hn2
  have ap : m__law_all_pairs_right [.str ("rises" : Str), z3] [.lst [.int a, .int b]] = some (.bl true, [.lst [.int a, .int b]]) := by
    rcases hz with rfl | rfl | rfl | rfl | rfl
    · exact ap_rises_1_1 a b
    · exact ap_rises_2_1 a b
    · exact ap_rises_3_1 a b
    · exact ap_rises_4_1 a b
    · exact ap_rises_5_1 a b
  have tn := turn1 ("rises" : Str) (P1 (n - 1)) n xs hx hl hP (fun x hx => by
      obtain ⟨k, rfl, _⟩ := hx
      exact ⟨k, k, fun _ => rfl, fun _ => rfl, rfl, fun l z => by cases z⟩)
    (fun a b x y hx hy => by
      obtain ⟨k, rfl, _, h1⟩ := hx
      obtain ⟨j, rfl, _, h2⟩ := hy
      exact ⟨rv k j, far_rises1 a b n k j, both_rises1 a b n k j, by rw [rv_comm]; exact both_rises1 a b n j k⟩)
  obtain ⟨e', S', hf, a', b', v7, v8, v9, v10, v11, rfl, rfl, hp⟩ := for_inv (fun _ e S' => ∃ a' b' v7 v8 v9 v10 v11, e = [some z0, some z1, some (.ref 0), some z3, some (.int n), some (.str ("rises" : Str)), some (.lst xs), v7, v8, v9, v10, v11] ∧ S' = [.lst [.int a', .int b']] ∧ PotOk a' b')
    (f := iR1 (eC (.int 8))) (src := fun _ => some (rngD 0 8)) (g := gNm 7) (b := TURN) (e := [some z0, some z1, some (.ref 0), some z3, some (.int n), some (.str ("rises" : Str)), some (.lst xs), w7, w8, w9, w10, w11]) (S := [.lst [.int a, .int b]]) (S1 := [.lst [.int a, .int b]]) (ds := rngD 0 8)
    rfl (fun _ => rfl) ⟨a, b, w7, w8, w9, w10, w11, rfl, rfl, h⟩ (by
      rintro i dd e S' hd ⟨a1, b1, v7, v8, v9, v10, v11, rfl, rfl, h1⟩
      obtain ⟨a2, b2, u8, u9, u10, u11, q, h2⟩ := tn a1 b1 h1 z0 z1 z3 (some dd) v8 v9 v10 v11
      exact ⟨_, _, _, _, rfl, .inl q, a2, b2, some dd, some u8, some u9, some u10, some u11, rfl, rfl, h2⟩)
  refine ⟨a', b', some (.lst xs), v7, v8, v9, v10, v11, ?_, hp⟩
  exact v_seq (v_ifFp (v_no (b := true) (v_tV (v_call2 (v_var rfl) (v_var rfl) ap)))) (v_seq (v_set (v_call2 (v_var rfl) (v_var rfl) q1)) hf)
theorem kind_highs1 (a b n : Int) (h : PotOk a b) (hn : 2 ≤ n) (hn2 : n ≤ 60) (z0 z1 z3 : D) (hz : ManyOk z3) (w6 w7 w8 w9 w10 w11 : Option D) : ∃ a' b' v6 v7 v8 v9 v10 v11, KIND [some z0, some z1, some (.ref 0), some z3, some (.int n), some (.str ("highs" : Str)), w6, w7, w8, w9, w10, w11] [.lst [.int a, .int b]] = some (.nx [some z0, some z1, some (.ref 0), some z3, some (.int n), some (.str ("highs" : Str)), v6, v7, v8, v9, v10, v11], [.lst [.int a', .int b']]) ∧ PotOk a' b' := by
  obtain ⟨xs, q1, hx, hl, hP⟩ := parts_highs1 a b n hn hn2
  have ap : m__law_all_pairs_right [.str ("highs" : Str), z3] [.lst [.int a, .int b]] = some (.bl true, [.lst [.int a, .int b]]) := by
    rcases hz with rfl | rfl | rfl | rfl | rfl
    · exact ap_highs_1_1 a b
    · exact ap_highs_2_1 a b
    · exact ap_highs_3_1 a b
    · exact ap_highs_4_1 a b
    · exact ap_highs_5_1 a b
  have tn := turn1 ("highs" : Str) (P1 (n)) n xs hx hl hP (fun x hx => by
      obtain ⟨k, rfl, _⟩ := hx
      exact ⟨k, k, fun _ => rfl, fun _ => rfl, rfl, fun l z => by cases z⟩)
    (fun a b x y hx hy => by
      obtain ⟨k, rfl, k0, k1⟩ := hx
      obtain ⟨j, rfl, j0, j1⟩ := hy
      have e : (if k = j then k + 1 else (k + 1) * (j + 1)) = (if j = k then j + 1 else (j + 1) * (k + 1)) := by
        by_cases c : k = j
        · subst c; rfl
        · rw [if_neg c, if_neg (fun z => c z.symm)]; exact Int.mul_comm _ _
      exact ⟨_, far_highs1 a b n k j hn hn2 ⟨k0, k1⟩ ⟨j0, j1⟩, both_highs1 a b n k j hn hn2 ⟨k0, k1⟩ ⟨j0, j1⟩, by rw [e]; exact both_highs1 a b n j k hn hn2 ⟨j0, j1⟩ ⟨k0, k1⟩⟩)
  obtain ⟨e', S', hf, a', b', v7, v8, v9, v10, v11, rfl, rfl, hp⟩ := for_inv (fun _ e S' => ∃ a' b' v7 v8 v9 v10 v11, e = [some z0, some z1, some (.ref 0), some z3, some (.int n), some (.str ("highs" : Str)), some (.lst xs), v7, v8, v9, v10, v11] ∧ S' = [.lst [.int a', .int b']] ∧ PotOk a' b')
    (f := iR1 (eC (.int 8))) (src := fun _ => some (rngD 0 8)) (g := gNm 7) (b := TURN) (e := [some z0, some z1, some (.ref 0), some z3, some (.int n), some (.str ("highs" : Str)), some (.lst xs), w7, w8, w9, w10, w11]) (S := [.lst [.int a, .int b]]) (S1 := [.lst [.int a, .int b]]) (ds := rngD 0 8)
    rfl (fun _ => rfl) ⟨a, b, w7, w8, w9, w10, w11, rfl, rfl, h⟩ (by
      rintro i dd e S' hd ⟨a1, b1, v7, v8, v9, v10, v11, rfl, rfl, h1⟩
      obtain ⟨a2, b2, u8, u9, u10, u11, q, h2⟩ := tn a1 b1 h1 z0 z1 z3 (some dd) v8 v9 v10 v11
      exact ⟨_, _, _, _, rfl, .inl q, a2, b2, some dd, some u8, some u9, some u10, some u11, rfl, rfl, h2⟩)
  refine ⟨a', b', some (.lst xs), v7, v8, v9, v10, v11, ?_, hp⟩
  exact v_seq (v_ifFp (v_no (b := true) (v_tV (v_call2 (v_var rfl) (v_var rfl) ap)))) (v_seq (v_set (v_call2 (v_var rfl) (v_var rfl) q1)) hf)
theorem kind_crossed1 (a b n : Int) (h : PotOk a b) (hn : 2 ≤ n) (hn2 : n ≤ 60) (z0 z1 z3 : D) (hz : ManyOk z3) (w6 w7 w8 w9 w10 w11 : Option D) : ∃ a' b' v6 v7 v8 v9 v10 v11, KIND [some z0, some z1, some (.ref 0), some z3, some (.int n), some (.str ("crossed" : Str)), w6, w7, w8, w9, w10, w11] [.lst [.int a, .int b]] = some (.nx [some z0, some z1, some (.ref 0), some z3, some (.int n), some (.str ("crossed" : Str)), v6, v7, v8, v9, v10, v11], [.lst [.int a', .int b']]) ∧ PotOk a' b' := by
  obtain ⟨xs, q1, hx, hl, hP⟩ := parts_crossed1 a b n hn hn2
  have ap : m__law_all_pairs_right [.str ("crossed" : Str), z3] [.lst [.int a, .int b]] = some (.bl true, [.lst [.int a, .int b]]) := by
    rcases hz with rfl | rfl | rfl | rfl | rfl
    · exact ap_crossed_1_1 a b
    · exact ap_crossed_2_1 a b
    · exact ap_crossed_3_1 a b
    · exact ap_crossed_4_1 a b
    · exact ap_crossed_5_1 a b
  have tn := turn1 ("crossed" : Str) (P2 n) n xs hx hl hP (fun x hx => by
      obtain ⟨k, j, rfl, _⟩ := hx
      exact ⟨k, j, fun _ => rfl, fun _ => rfl, rfl, fun l z => by cases z⟩)
    (fun a b x y hx hy => by
      obtain ⟨k, k2, rfl, _, h1, _⟩ := hx
      obtain ⟨j, j2, rfl, _, h2, _⟩ := hy
      exact ⟨cv k k2 j j2, far_crossed1 a b n k k2 j j2 h1 h2, both_crossed1 a b n k k2 j j2, by rw [cv_comm]; exact both_crossed1 a b n j j2 k k2⟩)
  obtain ⟨e', S', hf, a', b', v7, v8, v9, v10, v11, rfl, rfl, hp⟩ := for_inv (fun _ e S' => ∃ a' b' v7 v8 v9 v10 v11, e = [some z0, some z1, some (.ref 0), some z3, some (.int n), some (.str ("crossed" : Str)), some (.lst xs), v7, v8, v9, v10, v11] ∧ S' = [.lst [.int a', .int b']] ∧ PotOk a' b')
    (f := iR1 (eC (.int 8))) (src := fun _ => some (rngD 0 8)) (g := gNm 7) (b := TURN) (e := [some z0, some z1, some (.ref 0), some z3, some (.int n), some (.str ("crossed" : Str)), some (.lst xs), w7, w8, w9, w10, w11]) (S := [.lst [.int a, .int b]]) (S1 := [.lst [.int a, .int b]]) (ds := rngD 0 8)
    rfl (fun _ => rfl) ⟨a, b, w7, w8, w9, w10, w11, rfl, rfl, h⟩ (by
      rintro i dd e S' hd ⟨a1, b1, v7, v8, v9, v10, v11, rfl, rfl, h1⟩
      obtain ⟨a2, b2, u8, u9, u10, u11, q, h2⟩ := tn a1 b1 h1 z0 z1 z3 (some dd) v8 v9 v10 v11
      exact ⟨_, _, _, _, rfl, .inl q, a2, b2, some dd, some u8, some u9, some u10, some u11, rfl, rfl, h2⟩)
  refine ⟨a', b', some (.lst xs), v7, v8, v9, v10, v11, ?_, hp⟩
  exact v_seq (v_ifFp (v_no (b := true) (v_tV (v_call2 (v_var rfl) (v_var rfl) ap)))) (v_seq (v_set (v_call2 (v_var rfl) (v_var rfl) q1)) hf)
theorem kinds1 (a b n : Int) (h : PotOk a b) (hn : 2 ≤ n) (hn2 : n ≤ 60) (z0 z1 z3 : D) (hz : ManyOk z3) (w5 w6 w7 w8 w9 w10 w11 : Option D) : ∃ a' b' v5 v6 v7 v8 v9 v10 v11, sFor (iSq (eF (fLst (aCons (eC (.str ("rounds" : Str))) (aCons (eC (.str ("stays" : Str))) (aCons (eC (.str ("rises" : Str))) (aCons (eC (.str ("highs" : Str))) (aCons (eC (.str ("crossed" : Str))) aNil)))))))) (gNm 5) KIND [some z0, some z1, some (.ref 0), some z3, some (.int n), w5, w6, w7, w8, w9, w10, w11] [.lst [.int a, .int b]] = some (.nx [some z0, some z1, some (.ref 0), some z3, some (.int n), v5, v6, v7, v8, v9, v10, v11], [.lst [.int a', .int b']]) ∧ PotOk a' b' := by
  obtain ⟨e', S', hf, a', b', v5, v6, v7, v8, v9, v10, v11, rfl, rfl, hp⟩ := for_inv (fun _ e S' => ∃ a' b' v5 v6 v7 v8 v9 v10 v11, e = [some z0, some z1, some (.ref 0), some z3, some (.int n), v5, v6, v7, v8, v9, v10, v11] ∧ S' = [.lst [.int a', .int b']] ∧ PotOk a' b')
    (f := iSq (eF (fLst (aCons (eC (.str ("rounds" : Str))) (aCons (eC (.str ("stays" : Str))) (aCons (eC (.str ("rises" : Str))) (aCons (eC (.str ("highs" : Str))) (aCons (eC (.str ("crossed" : Str))) aNil)))))))) (src := fun _ => some [.str ("rounds" : Str), .str ("stays" : Str), .str ("rises" : Str), .str ("highs" : Str), .str ("crossed" : Str)]) (g := gNm 5) (b := KIND) (e := [some z0, some z1, some (.ref 0), some z3, some (.int n), w5, w6, w7, w8, w9, w10, w11]) (S := [.lst [.int a, .int b]]) (S1 := [.lst [.int a, .int b]]) (ds := [.str ("rounds" : Str), .str ("stays" : Str), .str ("rises" : Str), .str ("highs" : Str), .str ("crossed" : Str)])
    (by kernel_rfl) (fun _ => rfl) ⟨a, b, w5, w6, w7, w8, w9, w10, w11, rfl, rfl, h⟩ (by
      rintro i dd e S' hd ⟨a1, b1, v5, v6, v7, v8, v9, v10, v11, rfl, rfl, h1⟩
      match i, hd with
      | 0, hd =>
        have hd : D.str ("rounds" : Str) = dd := Option.some.inj hd
        subst hd
        obtain ⟨a2, b2, u6, u7, u8, u9, u10, u11, q, h2⟩ := kind_rounds1 a1 b1 n h1 hn hn2 z0 z1 z3 hz v6 v7 v8 v9 v10 v11
        exact ⟨_, _, _, _, rfl, .inl q, a2, b2, _, u6, u7, u8, u9, u10, u11, rfl, rfl, h2⟩
      | 1, hd =>
        have hd : D.str ("stays" : Str) = dd := Option.some.inj hd
        subst hd
        obtain ⟨a2, b2, u6, u7, u8, u9, u10, u11, q, h2⟩ := kind_stays1 a1 b1 n h1 hn hn2 z0 z1 z3 hz v6 v7 v8 v9 v10 v11
        exact ⟨_, _, _, _, rfl, .inl q, a2, b2, _, u6, u7, u8, u9, u10, u11, rfl, rfl, h2⟩
      | 2, hd =>
        have hd : D.str ("rises" : Str) = dd := Option.some.inj hd
        subst hd
        obtain ⟨a2, b2, u6, u7, u8, u9, u10, u11, q, h2⟩ := kind_rises1 a1 b1 n h1 hn hn2 z0 z1 z3 hz v6 v7 v8 v9 v10 v11
        exact ⟨_, _, _, _, rfl, .inl q, a2, b2, _, u6, u7, u8, u9, u10, u11, rfl, rfl, h2⟩
      | 3, hd =>
        have hd : D.str ("highs" : Str) = dd := Option.some.inj hd
        subst hd
        obtain ⟨a2, b2, u6, u7, u8, u9, u10, u11, q, h2⟩ := kind_highs1 a1 b1 n h1 hn hn2 z0 z1 z3 hz v6 v7 v8 v9 v10 v11
        exact ⟨_, _, _, _, rfl, .inl q, a2, b2, _, u6, u7, u8, u9, u10, u11, rfl, rfl, h2⟩
      | 4, hd =>
        have hd : D.str ("crossed" : Str) = dd := Option.some.inj hd
        subst hd
        obtain ⟨a2, b2, u6, u7, u8, u9, u10, u11, q, h2⟩ := kind_crossed1 a1 b1 n h1 hn hn2 z0 z1 z3 hz v6 v7 v8 v9 v10 v11
        exact ⟨_, _, _, _, rfl, .inl q, a2, b2, _, u6, u7, u8, u9, u10, u11, rfl, rfl, h2⟩
      | i + 5, hd => simp at hd)
  exact ⟨a', b', v5, v6, v7, v8, v9, v10, v11, hf, hp⟩
theorem kind_rounds2 (p q : Int) (a b n : Int) (h : PotOk a b) (hn : 2 ≤ n) (hn2 : n ≤ 60) (z0 z1 z3 : D) (hz : ManyOk z3) (w6 w7 w8 w9 w10 w11 : Option D) : ∃ a' b' v6 v7 v8 v9 v10 v11, KIND [some z0, some z1, some (.ref 1), some z3, some (.int n), some (.str ("rounds" : Str)), w6, w7, w8, w9, w10, w11] [.lst [.int p, .int q], .lst [.int a, .int b]] = some (.nx [some z0, some z1, some (.ref 1), some z3, some (.int n), some (.str ("rounds" : Str)), v6, v7, v8, v9, v10, v11], [.lst [.int p, .int q], .lst [.int a', .int b']]) ∧ PotOk a' b' := by
  obtain ⟨xs, q1, hx, hl, hP⟩ := parts_rounds2 p q a b n hn hn2
  have ap : m__law_all_pairs_right [.str ("rounds" : Str), z3] [.lst [.int p, .int q], .lst [.int a, .int b]] = some (.bl true, [.lst [.int p, .int q], .lst [.int a, .int b]]) := by
    rcases hz with rfl | rfl | rfl | rfl | rfl
    · exact ap_rounds_1_2 p q a b
    · exact ap_rounds_2_2 p q a b
    · exact ap_rounds_3_2 p q a b
    · exact ap_rounds_4_2 p q a b
    · exact ap_rounds_5_2 p q a b
  have tn := turn2 p q ("rounds" : Str) (P1 (n)) n xs hx hl hP (fun x hx => by
      obtain ⟨k, rfl, _⟩ := hx
      exact ⟨k, k, fun _ => rfl, fun _ => rfl, rfl, fun l z => by cases z⟩)
    (fun a b x y hx hy => by
      obtain ⟨k, rfl, k0, k1⟩ := hx
      obtain ⟨j, rfl, j0, j1⟩ := hy
      have e : (if k = j then n - k else (n - k) * (n - j)) = (if j = k then n - j else (n - j) * (n - k)) := by
        by_cases c : k = j
        · subst c; rfl
        · rw [if_neg c, if_neg (fun z => c z.symm)]; exact Int.mul_comm _ _
      exact ⟨_, far_rounds2 p q a b n k j hn hn2 ⟨k0, k1⟩ ⟨j0, j1⟩, both_rounds2 p q a b n k j hn hn2 ⟨k0, k1⟩ ⟨j0, j1⟩, by rw [e]; exact both_rounds2 p q a b n j k hn hn2 ⟨j0, j1⟩ ⟨k0, k1⟩⟩)
  obtain ⟨e', S', hf, a', b', v7, v8, v9, v10, v11, rfl, rfl, hp⟩ := for_inv (fun _ e S' => ∃ a' b' v7 v8 v9 v10 v11, e = [some z0, some z1, some (.ref 1), some z3, some (.int n), some (.str ("rounds" : Str)), some (.lst xs), v7, v8, v9, v10, v11] ∧ S' = [.lst [.int p, .int q], .lst [.int a', .int b']] ∧ PotOk a' b')
    (f := iR1 (eC (.int 8))) (src := fun _ => some (rngD 0 8)) (g := gNm 7) (b := TURN) (e := [some z0, some z1, some (.ref 1), some z3, some (.int n), some (.str ("rounds" : Str)), some (.lst xs), w7, w8, w9, w10, w11]) (S := [.lst [.int p, .int q], .lst [.int a, .int b]]) (S1 := [.lst [.int p, .int q], .lst [.int a, .int b]]) (ds := rngD 0 8)
    rfl (fun _ => rfl) ⟨a, b, w7, w8, w9, w10, w11, rfl, rfl, h⟩ (by
      rintro i dd e S' hd ⟨a1, b1, v7, v8, v9, v10, v11, rfl, rfl, h1⟩
      obtain ⟨a2, b2, u8, u9, u10, u11, q, h2⟩ := tn a1 b1 h1 z0 z1 z3 (some dd) v8 v9 v10 v11
      exact ⟨_, _, _, _, rfl, .inl q, a2, b2, some dd, some u8, some u9, some u10, some u11, rfl, rfl, h2⟩)
  refine ⟨a', b', some (.lst xs), v7, v8, v9, v10, v11, ?_, hp⟩
  exact v_seq (v_ifFp (v_no (b := true) (v_tV (v_call2 (v_var rfl) (v_var rfl) ap)))) (v_seq (v_set (v_call2 (v_var rfl) (v_var rfl) q1)) hf)
theorem kind_stays2 (p q : Int) (a b n : Int) (h : PotOk a b) (hn : 2 ≤ n) (hn2 : n ≤ 60) (z0 z1 z3 : D) (hz : ManyOk z3) (w6 w7 w8 w9 w10 w11 : Option D) : ∃ a' b' v6 v7 v8 v9 v10 v11, KIND [some z0, some z1, some (.ref 1), some z3, some (.int n), some (.str ("stays" : Str)), w6, w7, w8, w9, w10, w11] [.lst [.int p, .int q], .lst [.int a, .int b]] = some (.nx [some z0, some z1, some (.ref 1), some z3, some (.int n), some (.str ("stays" : Str)), v6, v7, v8, v9, v10, v11], [.lst [.int p, .int q], .lst [.int a', .int b']]) ∧ PotOk a' b' := by
  obtain ⟨xs, q1, hx, hl, hP⟩ := parts_stays2 p q a b n hn hn2
  have ap : m__law_all_pairs_right [.str ("stays" : Str), z3] [.lst [.int p, .int q], .lst [.int a, .int b]] = some (.bl true, [.lst [.int p, .int q], .lst [.int a, .int b]]) := by
    rcases hz with rfl | rfl | rfl | rfl | rfl
    · exact ap_stays_1_2 p q a b
    · exact ap_stays_2_2 p q a b
    · exact ap_stays_3_2 p q a b
    · exact ap_stays_4_2 p q a b
    · exact ap_stays_5_2 p q a b
  have tn := turn2 p q ("stays" : Str) (P1 (n)) n xs hx hl hP (fun x hx => by
      obtain ⟨k, rfl, _⟩ := hx
      exact ⟨k, k, fun _ => rfl, fun _ => rfl, rfl, fun l z => by cases z⟩)
    (fun a b x y hx hy => by
      obtain ⟨k, rfl, k0, k1⟩ := hx
      obtain ⟨j, rfl, j0, j1⟩ := hy
      have e : (if k = j then n else (n) * (n - 1)) = (if j = k then n else n * (n - 1)) := by
        by_cases c : k = j
        · subst c; rfl
        · rw [if_neg c, if_neg (fun z => c z.symm)]
      exact ⟨_, far_stays2 p q a b n k j hn hn2 ⟨k0, k1⟩ ⟨j0, j1⟩, both_stays2 p q a b n k j hn hn2 ⟨k0, k1⟩ ⟨j0, j1⟩, by rw [e]; exact both_stays2 p q a b n j k hn hn2 ⟨j0, j1⟩ ⟨k0, k1⟩⟩)
  obtain ⟨e', S', hf, a', b', v7, v8, v9, v10, v11, rfl, rfl, hp⟩ := for_inv (fun _ e S' => ∃ a' b' v7 v8 v9 v10 v11, e = [some z0, some z1, some (.ref 1), some z3, some (.int n), some (.str ("stays" : Str)), some (.lst xs), v7, v8, v9, v10, v11] ∧ S' = [.lst [.int p, .int q], .lst [.int a', .int b']] ∧ PotOk a' b')
    (f := iR1 (eC (.int 8))) (src := fun _ => some (rngD 0 8)) (g := gNm 7) (b := TURN) (e := [some z0, some z1, some (.ref 1), some z3, some (.int n), some (.str ("stays" : Str)), some (.lst xs), w7, w8, w9, w10, w11]) (S := [.lst [.int p, .int q], .lst [.int a, .int b]]) (S1 := [.lst [.int p, .int q], .lst [.int a, .int b]]) (ds := rngD 0 8)
    rfl (fun _ => rfl) ⟨a, b, w7, w8, w9, w10, w11, rfl, rfl, h⟩ (by
      rintro i dd e S' hd ⟨a1, b1, v7, v8, v9, v10, v11, rfl, rfl, h1⟩
      obtain ⟨a2, b2, u8, u9, u10, u11, q, h2⟩ := tn a1 b1 h1 z0 z1 z3 (some dd) v8 v9 v10 v11
      exact ⟨_, _, _, _, rfl, .inl q, a2, b2, some dd, some u8, some u9, some u10, some u11, rfl, rfl, h2⟩)
  refine ⟨a', b', some (.lst xs), v7, v8, v9, v10, v11, ?_, hp⟩
  exact v_seq (v_ifFp (v_no (b := true) (v_tV (v_call2 (v_var rfl) (v_var rfl) ap)))) (v_seq (v_set (v_call2 (v_var rfl) (v_var rfl) q1)) hf)
theorem kind_rises2 (p q : Int) (a b n : Int) (h : PotOk a b) (hn : 2 ≤ n) (hn2 : n ≤ 60) (z0 z1 z3 : D) (hz : ManyOk z3) (w6 w7 w8 w9 w10 w11 : Option D) : ∃ a' b' v6 v7 v8 v9 v10 v11, KIND [some z0, some z1, some (.ref 1), some z3, some (.int n), some (.str ("rises" : Str)), w6, w7, w8, w9, w10, w11] [.lst [.int p, .int q], .lst [.int a, .int b]] = some (.nx [some z0, some z1, some (.ref 1), some z3, some (.int n), some (.str ("rises" : Str)), v6, v7, v8, v9, v10, v11], [.lst [.int p, .int q], .lst [.int a', .int b']]) ∧ PotOk a' b' := by
  obtain ⟨xs, q1, hx, hl, hP⟩ := parts_rises2 p q a b n hn hn2
  have ap : m__law_all_pairs_right [.str ("rises" : Str), z3] [.lst [.int p, .int q], .lst [.int a, .int b]] = some (.bl true, [.lst [.int p, .int q], .lst [.int a, .int b]]) := by
    rcases hz with rfl | rfl | rfl | rfl | rfl
    · exact ap_rises_1_2 p q a b
    · exact ap_rises_2_2 p q a b
    · exact ap_rises_3_2 p q a b
    · exact ap_rises_4_2 p q a b
    · exact ap_rises_5_2 p q a b
  have tn := turn2 p q ("rises" : Str) (P1 (n - 1)) n xs hx hl hP (fun x hx => by
      obtain ⟨k, rfl, _⟩ := hx
      exact ⟨k, k, fun _ => rfl, fun _ => rfl, rfl, fun l z => by cases z⟩)
    (fun a b x y hx hy => by
      obtain ⟨k, rfl, _, h1⟩ := hx
      obtain ⟨j, rfl, _, h2⟩ := hy
      exact ⟨rv k j, far_rises2 p q a b n k j, both_rises2 p q a b n k j, by rw [rv_comm]; exact both_rises2 p q a b n j k⟩)
  obtain ⟨e', S', hf, a', b', v7, v8, v9, v10, v11, rfl, rfl, hp⟩ := for_inv (fun _ e S' => ∃ a' b' v7 v8 v9 v10 v11, e = [some z0, some z1, some (.ref 1), some z3, some (.int n), some (.str ("rises" : Str)), some (.lst xs), v7, v8, v9, v10, v11] ∧ S' = [.lst [.int p, .int q], .lst [.int a', .int b']] ∧ PotOk a' b')
    (f := iR1 (eC (.int 8))) (src := fun _ => some (rngD 0 8)) (g := gNm 7) (b := TURN) (e := [some z0, some z1, some (.ref 1), some z3, some (.int n), some (.str ("rises" : Str)), some (.lst xs), w7, w8, w9, w10, w11]) (S := [.lst [.int p, .int q], .lst [.int a, .int b]]) (S1 := [.lst [.int p, .int q], .lst [.int a, .int b]]) (ds := rngD 0 8)
    rfl (fun _ => rfl) ⟨a, b, w7, w8, w9, w10, w11, rfl, rfl, h⟩ (by
      rintro i dd e S' hd ⟨a1, b1, v7, v8, v9, v10, v11, rfl, rfl, h1⟩
      obtain ⟨a2, b2, u8, u9, u10, u11, q, h2⟩ := tn a1 b1 h1 z0 z1 z3 (some dd) v8 v9 v10 v11
      exact ⟨_, _, _, _, rfl, .inl q, a2, b2, some dd, some u8, some u9, some u10, some u11, rfl, rfl, h2⟩)
  refine ⟨a', b', some (.lst xs), v7, v8, v9, v10, v11, ?_, hp⟩
  exact v_seq (v_ifFp (v_no (b := true) (v_tV (v_call2 (v_var rfl) (v_var rfl) ap)))) (v_seq (v_set (v_call2 (v_var rfl) (v_var rfl) q1)) hf)
theorem kind_highs2 (p q : Int) (a b n : Int) (h : PotOk a b) (hn : 2 ≤ n) (hn2 : n ≤ 60) (z0 z1 z3 : D) (hz : ManyOk z3) (w6 w7 w8 w9 w10 w11 : Option D) : ∃ a' b' v6 v7 v8 v9 v10 v11, KIND [some z0, some z1, some (.ref 1), some z3, some (.int n), some (.str ("highs" : Str)), w6, w7, w8, w9, w10, w11] [.lst [.int p, .int q], .lst [.int a, .int b]] = some (.nx [some z0, some z1, some (.ref 1), some z3, some (.int n), some (.str ("highs" : Str)), v6, v7, v8, v9, v10, v11], [.lst [.int p, .int q], .lst [.int a', .int b']]) ∧ PotOk a' b' := by
  obtain ⟨xs, q1, hx, hl, hP⟩ := parts_highs2 p q a b n hn hn2
  have ap : m__law_all_pairs_right [.str ("highs" : Str), z3] [.lst [.int p, .int q], .lst [.int a, .int b]] = some (.bl true, [.lst [.int p, .int q], .lst [.int a, .int b]]) := by
    rcases hz with rfl | rfl | rfl | rfl | rfl
    · exact ap_highs_1_2 p q a b
    · exact ap_highs_2_2 p q a b
    · exact ap_highs_3_2 p q a b
    · exact ap_highs_4_2 p q a b
    · exact ap_highs_5_2 p q a b
  have tn := turn2 p q ("highs" : Str) (P1 (n)) n xs hx hl hP (fun x hx => by
      obtain ⟨k, rfl, _⟩ := hx
      exact ⟨k, k, fun _ => rfl, fun _ => rfl, rfl, fun l z => by cases z⟩)
    (fun a b x y hx hy => by
      obtain ⟨k, rfl, k0, k1⟩ := hx
      obtain ⟨j, rfl, j0, j1⟩ := hy
      have e : (if k = j then k + 1 else (k + 1) * (j + 1)) = (if j = k then j + 1 else (j + 1) * (k + 1)) := by
        by_cases c : k = j
        · subst c; rfl
        · rw [if_neg c, if_neg (fun z => c z.symm)]; exact Int.mul_comm _ _
      exact ⟨_, far_highs2 p q a b n k j hn hn2 ⟨k0, k1⟩ ⟨j0, j1⟩, both_highs2 p q a b n k j hn hn2 ⟨k0, k1⟩ ⟨j0, j1⟩, by rw [e]; exact both_highs2 p q a b n j k hn hn2 ⟨j0, j1⟩ ⟨k0, k1⟩⟩)
  obtain ⟨e', S', hf, a', b', v7, v8, v9, v10, v11, rfl, rfl, hp⟩ := for_inv (fun _ e S' => ∃ a' b' v7 v8 v9 v10 v11, e = [some z0, some z1, some (.ref 1), some z3, some (.int n), some (.str ("highs" : Str)), some (.lst xs), v7, v8, v9, v10, v11] ∧ S' = [.lst [.int p, .int q], .lst [.int a', .int b']] ∧ PotOk a' b')
    (f := iR1 (eC (.int 8))) (src := fun _ => some (rngD 0 8)) (g := gNm 7) (b := TURN) (e := [some z0, some z1, some (.ref 1), some z3, some (.int n), some (.str ("highs" : Str)), some (.lst xs), w7, w8, w9, w10, w11]) (S := [.lst [.int p, .int q], .lst [.int a, .int b]]) (S1 := [.lst [.int p, .int q], .lst [.int a, .int b]]) (ds := rngD 0 8)
    rfl (fun _ => rfl) ⟨a, b, w7, w8, w9, w10, w11, rfl, rfl, h⟩ (by
      rintro i dd e S' hd ⟨a1, b1, v7, v8, v9, v10, v11, rfl, rfl, h1⟩
      obtain ⟨a2, b2, u8, u9, u10, u11, q, h2⟩ := tn a1 b1 h1 z0 z1 z3 (some dd) v8 v9 v10 v11
      exact ⟨_, _, _, _, rfl, .inl q, a2, b2, some dd, some u8, some u9, some u10, some u11, rfl, rfl, h2⟩)
  refine ⟨a', b', some (.lst xs), v7, v8, v9, v10, v11, ?_, hp⟩
  exact v_seq (v_ifFp (v_no (b := true) (v_tV (v_call2 (v_var rfl) (v_var rfl) ap)))) (v_seq (v_set (v_call2 (v_var rfl) (v_var rfl) q1)) hf)
theorem kind_crossed2 (p q : Int) (a b n : Int) (h : PotOk a b) (hn : 2 ≤ n) (hn2 : n ≤ 60) (z0 z1 z3 : D) (hz : ManyOk z3) (w6 w7 w8 w9 w10 w11 : Option D) : ∃ a' b' v6 v7 v8 v9 v10 v11, KIND [some z0, some z1, some (.ref 1), some z3, some (.int n), some (.str ("crossed" : Str)), w6, w7, w8, w9, w10, w11] [.lst [.int p, .int q], .lst [.int a, .int b]] = some (.nx [some z0, some z1, some (.ref 1), some z3, some (.int n), some (.str ("crossed" : Str)), v6, v7, v8, v9, v10, v11], [.lst [.int p, .int q], .lst [.int a', .int b']]) ∧ PotOk a' b' := by
  obtain ⟨xs, q1, hx, hl, hP⟩ := parts_crossed2 p q a b n hn hn2
  have ap : m__law_all_pairs_right [.str ("crossed" : Str), z3] [.lst [.int p, .int q], .lst [.int a, .int b]] = some (.bl true, [.lst [.int p, .int q], .lst [.int a, .int b]]) := by
    rcases hz with rfl | rfl | rfl | rfl | rfl
    · exact ap_crossed_1_2 p q a b
    · exact ap_crossed_2_2 p q a b
    · exact ap_crossed_3_2 p q a b
    · exact ap_crossed_4_2 p q a b
    · exact ap_crossed_5_2 p q a b
  have tn := turn2 p q ("crossed" : Str) (P2 n) n xs hx hl hP (fun x hx => by
      obtain ⟨k, j, rfl, _⟩ := hx
      exact ⟨k, j, fun _ => rfl, fun _ => rfl, rfl, fun l z => by cases z⟩)
    (fun a b x y hx hy => by
      obtain ⟨k, k2, rfl, _, h1, _⟩ := hx
      obtain ⟨j, j2, rfl, _, h2, _⟩ := hy
      exact ⟨cv k k2 j j2, far_crossed2 p q a b n k k2 j j2 h1 h2, both_crossed2 p q a b n k k2 j j2, by rw [cv_comm]; exact both_crossed2 p q a b n j j2 k k2⟩)
  obtain ⟨e', S', hf, a', b', v7, v8, v9, v10, v11, rfl, rfl, hp⟩ := for_inv (fun _ e S' => ∃ a' b' v7 v8 v9 v10 v11, e = [some z0, some z1, some (.ref 1), some z3, some (.int n), some (.str ("crossed" : Str)), some (.lst xs), v7, v8, v9, v10, v11] ∧ S' = [.lst [.int p, .int q], .lst [.int a', .int b']] ∧ PotOk a' b')
    (f := iR1 (eC (.int 8))) (src := fun _ => some (rngD 0 8)) (g := gNm 7) (b := TURN) (e := [some z0, some z1, some (.ref 1), some z3, some (.int n), some (.str ("crossed" : Str)), some (.lst xs), w7, w8, w9, w10, w11]) (S := [.lst [.int p, .int q], .lst [.int a, .int b]]) (S1 := [.lst [.int p, .int q], .lst [.int a, .int b]]) (ds := rngD 0 8)
    rfl (fun _ => rfl) ⟨a, b, w7, w8, w9, w10, w11, rfl, rfl, h⟩ (by
      rintro i dd e S' hd ⟨a1, b1, v7, v8, v9, v10, v11, rfl, rfl, h1⟩
      obtain ⟨a2, b2, u8, u9, u10, u11, q, h2⟩ := tn a1 b1 h1 z0 z1 z3 (some dd) v8 v9 v10 v11
      exact ⟨_, _, _, _, rfl, .inl q, a2, b2, some dd, some u8, some u9, some u10, some u11, rfl, rfl, h2⟩)
  refine ⟨a', b', some (.lst xs), v7, v8, v9, v10, v11, ?_, hp⟩
  exact v_seq (v_ifFp (v_no (b := true) (v_tV (v_call2 (v_var rfl) (v_var rfl) ap)))) (v_seq (v_set (v_call2 (v_var rfl) (v_var rfl) q1)) hf)
theorem kinds2 (p q : Int) (a b n : Int) (h : PotOk a b) (hn : 2 ≤ n) (hn2 : n ≤ 60) (z0 z1 z3 : D) (hz : ManyOk z3) (w5 w6 w7 w8 w9 w10 w11 : Option D) : ∃ a' b' v5 v6 v7 v8 v9 v10 v11, sFor (iSq (eF (fLst (aCons (eC (.str ("rounds" : Str))) (aCons (eC (.str ("stays" : Str))) (aCons (eC (.str ("rises" : Str))) (aCons (eC (.str ("highs" : Str))) (aCons (eC (.str ("crossed" : Str))) aNil)))))))) (gNm 5) KIND [some z0, some z1, some (.ref 1), some z3, some (.int n), w5, w6, w7, w8, w9, w10, w11] [.lst [.int p, .int q], .lst [.int a, .int b]] = some (.nx [some z0, some z1, some (.ref 1), some z3, some (.int n), v5, v6, v7, v8, v9, v10, v11], [.lst [.int p, .int q], .lst [.int a', .int b']]) ∧ PotOk a' b' := by
  obtain ⟨e', S', hf, a', b', v5, v6, v7, v8, v9, v10, v11, rfl, rfl, hp⟩ := for_inv (fun _ e S' => ∃ a' b' v5 v6 v7 v8 v9 v10 v11, e = [some z0, some z1, some (.ref 1), some z3, some (.int n), v5, v6, v7, v8, v9, v10, v11] ∧ S' = [.lst [.int p, .int q], .lst [.int a', .int b']] ∧ PotOk a' b')
    (f := iSq (eF (fLst (aCons (eC (.str ("rounds" : Str))) (aCons (eC (.str ("stays" : Str))) (aCons (eC (.str ("rises" : Str))) (aCons (eC (.str ("highs" : Str))) (aCons (eC (.str ("crossed" : Str))) aNil)))))))) (src := fun _ => some [.str ("rounds" : Str), .str ("stays" : Str), .str ("rises" : Str), .str ("highs" : Str), .str ("crossed" : Str)]) (g := gNm 5) (b := KIND) (e := [some z0, some z1, some (.ref 1), some z3, some (.int n), w5, w6, w7, w8, w9, w10, w11]) (S := [.lst [.int p, .int q], .lst [.int a, .int b]]) (S1 := [.lst [.int p, .int q], .lst [.int a, .int b]]) (ds := [.str ("rounds" : Str), .str ("stays" : Str), .str ("rises" : Str), .str ("highs" : Str), .str ("crossed" : Str)])
    (by kernel_rfl) (fun _ => rfl) ⟨a, b, w5, w6, w7, w8, w9, w10, w11, rfl, rfl, h⟩ (by
      rintro i dd e S' hd ⟨a1, b1, v5, v6, v7, v8, v9, v10, v11, rfl, rfl, h1⟩
      match i, hd with
      | 0, hd =>
        have hd : D.str ("rounds" : Str) = dd := Option.some.inj hd
        subst hd
        obtain ⟨a2, b2, u6, u7, u8, u9, u10, u11, q, h2⟩ := kind_rounds2 p q a1 b1 n h1 hn hn2 z0 z1 z3 hz v6 v7 v8 v9 v10 v11
        exact ⟨_, _, _, _, rfl, .inl q, a2, b2, _, u6, u7, u8, u9, u10, u11, rfl, rfl, h2⟩
      | 1, hd =>
        have hd : D.str ("stays" : Str) = dd := Option.some.inj hd
        subst hd
        obtain ⟨a2, b2, u6, u7, u8, u9, u10, u11, q, h2⟩ := kind_stays2 p q a1 b1 n h1 hn hn2 z0 z1 z3 hz v6 v7 v8 v9 v10 v11
        exact ⟨_, _, _, _, rfl, .inl q, a2, b2, _, u6, u7, u8, u9, u10, u11, rfl, rfl, h2⟩
      | 2, hd =>
        have hd : D.str ("rises" : Str) = dd := Option.some.inj hd
        subst hd
        obtain ⟨a2, b2, u6, u7, u8, u9, u10, u11, q, h2⟩ := kind_rises2 p q a1 b1 n h1 hn hn2 z0 z1 z3 hz v6 v7 v8 v9 v10 v11
        exact ⟨_, _, _, _, rfl, .inl q, a2, b2, _, u6, u7, u8, u9, u10, u11, rfl, rfl, h2⟩
      | 3, hd =>
        have hd : D.str ("highs" : Str) = dd := Option.some.inj hd
        subst hd
        obtain ⟨a2, b2, u6, u7, u8, u9, u10, u11, q, h2⟩ := kind_highs2 p q a1 b1 n h1 hn hn2 z0 z1 z3 hz v6 v7 v8 v9 v10 v11
        exact ⟨_, _, _, _, rfl, .inl q, a2, b2, _, u6, u7, u8, u9, u10, u11, rfl, rfl, h2⟩
      | 4, hd =>
        have hd : D.str ("crossed" : Str) = dd := Option.some.inj hd
        subst hd
        obtain ⟨a2, b2, u6, u7, u8, u9, u10, u11, q, h2⟩ := kind_crossed2 p q a1 b1 n h1 hn hn2 z0 z1 z3 hz v6 v7 v8 v9 v10 v11
        exact ⟨_, _, _, _, rfl, .inl q, a2, b2, _, u6, u7, u8, u9, u10, u11, rfl, rfl, h2⟩
      | i + 5, hd => simp at hd)
  exact ⟨a', b', v5, v6, v7, v8, v9, v10, v11, hf, hp⟩
theorem pot1 (ns : List Int) : ∃ a b, PotOk a b ∧ m__law_pot [.scr (ns.map D.int), .int 0] [] = some ([.int a, .int b], []) := by
  have hl : kLen [.scr (ns.map D.int)] [] = some (.int ns.length, []) := by
    show some (D.int (ns.map D.int).length, _) = _
    rw [List.length_map]
  by_cases hk : (0 : Int) < ns.length
  · have hk2 : 0 < ns.length := by omega
    obtain ⟨a, b, hp, hc⟩ := pot_cell [] ns[0] 0 ⟨by decide, by decide⟩
    have hx : L2.atI (ns.map D.int) 0 = some (.int ns[0]) := by
      unfold L2.atI L2.ixN
      rw [if_pos (by decide), if_pos (by rw [List.length_map]; exact hk)]
      show (ns.map D.int)[0]? = _
      rw [List.getElem?_map, List.getElem?_eq_getElem hk2]
      rfl
    refine ⟨a, b, hp, runF_of (S1 := [.lst [.int a, .int b]]) (d1 := .ref 0) (v_run rfl (v_seq (v_set v_c) (v_seq (v_ifT (v_tV (v_op (v_var rfl) (v_call1 (v_var rfl) hl) (by rw [ltI_of, decide_eq_true hk]))) (v_set (v_opS (v_var rfl) (v_var rfl) (ix_scr hx)))) (hc (.scr (ns.map D.int)))))) (finFb_ok rfl)⟩
  · obtain ⟨a, b, hp, hc⟩ := pot_cell [] 0 0 ⟨by decide, by decide⟩
    exact ⟨a, b, hp, runF_of (S1 := [.lst [.int a, .int b]]) (d1 := .ref 0) (v_run rfl (v_seq (v_set v_c) (v_seq (v_ifF (S1 := []) (v_tV (v_op (v_var rfl) (v_call1 (v_var rfl) hl) (by rw [ltI_of, decide_eq_false hk]))) rfl) (hc (.scr (ns.map D.int)))))) (finFb_ok rfl)⟩
theorem body1 (ns : List Int) (w2 w3 w4 w5 w6 w7 w8 w9 w10 w11 : Option D) : ∃ a' b' v3 v4 v5 v6 v7 v8 v9 v10 v11, BODY [some (.scr (ns.map D.int)), some (.int 0), w2, w3, w4, w5, w6, w7, w8, w9, w10, w11] [] = some (.nx [some (.scr (ns.map D.int)), some (.int 0), some (.ref 0), v3, v4, v5, v6, v7, v8, v9, v10, v11], [.lst [.int a', .int b']]) ∧ PotOk a' b' := by
  obtain ⟨a, b, h, q1⟩ := pot1 ns
  obtain ⟨x, a1, b1, q2, m, h1⟩ := of1 a b [.int 1, .int 2, .int 3, .int 4, .int 5, .int 5, .int 4] h (by simp) (by simp) (fun x hx => by
    simp only [List.mem_cons, List.not_mem_nil, or_false] at hx
    rcases hx with rfl | rfl | rfl | rfl | rfl | rfl | rfl <;> exact ⟨rfl, fun l z => by cases z⟩)
  have hz : ManyOk x := by
    simp only [List.mem_cons, List.not_mem_nil, or_false] at m
    unfold ManyOk
    rcases m with rfl | rfl | rfl | rfl | rfl | rfl | rfl <;> simp
  obtain ⟨d, a2, b2, q3, d0, d1, h2⟩ := next1 a1 b1 59 h1 (by decide) (by decide)
  obtain ⟨a', b', v5, v6, v7, v8, v9, v10, v11, q4, hp⟩ := kinds1 a2 b2 (2 + d) h2 (by omega) (by omega) (.scr (ns.map D.int)) (.int 0) x hz w5 w6 w7 w8 w9 w10 w11
  refine ⟨a', b', some x, some (.int (2 + d)), v5, v6, v7, v8, v9, v10, v11, ?_, hp⟩
  have l7 : fLst (aCons (eC (.int 1)) (aCons (eC (.int 2)) (aCons (eC (.int 3)) (aCons (eC (.int 4)) (aCons (eC (.int 5)) (aCons (eC (.int 5)) (aCons (eC (.int 4)) aNil))))))) [some (.scr (ns.map D.int)), some (.int 0), some (.ref 0), w3, w4, w5, w6, w7, w8, w9, w10, w11] [.lst [.int a, .int b]] = some ([.int 1, .int 2, .int 3, .int 4, .int 5, .int 5, .int 4], [.lst [.int a, .int b]]) := by kernel_rfl
  exact v_seq (v_set (v_fA (v_cons2 (v_var rfl) (v_var rfl)) q1)) (v_seq (v_set (v_call2 (v_var rfl) (v_F l7) q2)) (v_seq (v_set (v_op v_c (v_call2 (v_var rfl) v_c q3) addI_of)) q4))
theorem pot2 (p q : Int) (ns : List Int) : ∃ a b, PotOk a b ∧ m__law_pot [.scr (ns.map D.int), .int 1] [.lst [.int p, .int q]] = some ([.int a, .int b], [.lst [.int p, .int q]]) := by
  have hl : kLen [.scr (ns.map D.int)] [.lst [.int p, .int q]] = some (.int ns.length, [.lst [.int p, .int q]]) := by
    show some (D.int (ns.map D.int).length, _) = _
    rw [List.length_map]
  by_cases hk : (1 : Int) < ns.length
  · have hk2 : 1 < ns.length := by omega
    obtain ⟨a, b, hp, hc⟩ := pot_cell [.lst [.int p, .int q]] ns[1] 1 ⟨by decide, by decide⟩
    have hx : L2.atI (ns.map D.int) 1 = some (.int ns[1]) := by
      unfold L2.atI L2.ixN
      rw [if_pos (by decide), if_pos (by rw [List.length_map]; exact hk)]
      show (ns.map D.int)[1]? = _
      rw [List.getElem?_map, List.getElem?_eq_getElem hk2]
      rfl
    refine ⟨a, b, hp, runF_of (S1 := [.lst [.int p, .int q], .lst [.int a, .int b]]) (d1 := .ref 1) (v_run rfl (v_seq (v_set v_c) (v_seq (v_ifT (v_tV (v_op (v_var rfl) (v_call1 (v_var rfl) hl) (by rw [ltI_of, decide_eq_true hk]))) (v_set (v_opS (v_var rfl) (v_var rfl) (ix_scr hx)))) (hc (.scr (ns.map D.int)))))) (finFb_ok rfl)⟩
  · obtain ⟨a, b, hp, hc⟩ := pot_cell [.lst [.int p, .int q]] 0 1 ⟨by decide, by decide⟩
    exact ⟨a, b, hp, runF_of (S1 := [.lst [.int p, .int q], .lst [.int a, .int b]]) (d1 := .ref 1) (v_run rfl (v_seq (v_set v_c) (v_seq (v_ifF (S1 := [.lst [.int p, .int q]]) (v_tV (v_op (v_var rfl) (v_call1 (v_var rfl) hl) (by rw [ltI_of, decide_eq_false hk]))) rfl) (hc (.scr (ns.map D.int)))))) (finFb_ok rfl)⟩
theorem body2 (p q : Int) (ns : List Int) (w2 w3 w4 w5 w6 w7 w8 w9 w10 w11 : Option D) : ∃ a' b' v3 v4 v5 v6 v7 v8 v9 v10 v11, BODY [some (.scr (ns.map D.int)), some (.int 1), some (.ref 0), w3, w4, w5, w6, w7, w8, w9, w10, w11] [.lst [.int p, .int q]] = some (.nx [some (.scr (ns.map D.int)), some (.int 1), some (.ref 1), v3, v4, v5, v6, v7, v8, v9, v10, v11], [.lst [.int p, .int q], .lst [.int a', .int b']]) ∧ PotOk a' b' := by
  obtain ⟨a, b, h, q1⟩ := pot2 p q ns
  obtain ⟨x, a1, b1, q2, m, h1⟩ := of2 p q a b [.int 1, .int 2, .int 3, .int 4, .int 5, .int 5, .int 4] h (by simp) (by simp) (fun x hx => by
    simp only [List.mem_cons, List.not_mem_nil, or_false] at hx
    rcases hx with rfl | rfl | rfl | rfl | rfl | rfl | rfl <;> exact ⟨rfl, fun l z => by cases z⟩)
  have hz : ManyOk x := by
    simp only [List.mem_cons, List.not_mem_nil, or_false] at m
    unfold ManyOk
    rcases m with rfl | rfl | rfl | rfl | rfl | rfl | rfl <;> simp
  obtain ⟨d, a2, b2, q3, d0, d1, h2⟩ := next2 p q a1 b1 59 h1 (by decide) (by decide)
  obtain ⟨a', b', v5, v6, v7, v8, v9, v10, v11, q4, hp⟩ := kinds2 p q a2 b2 (2 + d) h2 (by omega) (by omega) (.scr (ns.map D.int)) (.int 1) x hz w5 w6 w7 w8 w9 w10 w11
  refine ⟨a', b', some x, some (.int (2 + d)), v5, v6, v7, v8, v9, v10, v11, ?_, hp⟩
  have l7 : fLst (aCons (eC (.int 1)) (aCons (eC (.int 2)) (aCons (eC (.int 3)) (aCons (eC (.int 4)) (aCons (eC (.int 5)) (aCons (eC (.int 5)) (aCons (eC (.int 4)) aNil))))))) [some (.scr (ns.map D.int)), some (.int 1), some (.ref 1), w3, w4, w5, w6, w7, w8, w9, w10, w11] [.lst [.int p, .int q], .lst [.int a, .int b]] = some ([.int 1, .int 2, .int 3, .int 4, .int 5, .int 5, .int 4], [.lst [.int p, .int q], .lst [.int a, .int b]]) := by kernel_rfl
  exact v_seq (v_set (v_fA (v_cons2 (v_var rfl) (v_var rfl)) q1)) (v_seq (v_set (v_call2 (v_var rfl) (v_F l7) q2)) (v_seq (v_set (v_op v_c (v_call2 (v_var rfl) v_c q3) addI_of)) q4))
theorem law_true (ns : List Int) : m_law [.scr (ns.map D.int)] [] = some (.bl true, []) := by
  have hl : kLen [.scr (ns.map D.int)] [] = some (.int ns.length, []) := by
    show some (D.int (ns.map D.int).length, _) = _
    rw [List.length_map]
  obtain ⟨N, hN, hv⟩ : ∃ N : Int, (N = 1 ∨ N = 2) ∧ ∀ e : Tr.Env, e[0]? = some (some (.scr (ns.map D.int))) → eCall kMaxA (aCons (eC (.int 1)) (aCons (eCall kMinA (aCons (eCall kLen (aCons (eVar 0) aNil)) (aCons (eC (.int 2)) aNil))) aNil)) e [] = some (.int N, []) := by
    refine ⟨if (if (2 : Int) < ns.length then 2 else (ns.length : Int)) > 1 then (if (2 : Int) < ns.length then 2 else (ns.length : Int)) else 1, ?_, fun e h0 => v_call2 v_c (v_call2 (v_call1 (v_var h0) hl) v_c rfl) rfl⟩
    split <;> split <;> omega
  have hb : bnd N = true := by
    unfold bnd
    rw [decide_eq_true (by omega), decide_eq_true (by omega)]
    rfl
  have hlen : (rngD 0 N.toNat).length = N.toNat := by simp [rngD]
  obtain ⟨e', S', hf, _⟩ := for_inv (fun i e S => match i with
      | 0 => e = [some (.scr (ns.map D.int)), none, none, none, none, none, none, none, none, none, none, none] ∧ S = []
      | 1 => ∃ a b v3 v4 v5 v6 v7 v8 v9 v10 v11, e = [some (.scr (ns.map D.int)), some (.int 0), some (.ref 0), v3, v4, v5, v6, v7, v8, v9, v10, v11] ∧ S = [.lst [.int a, .int b]]
      | _ => True) (f := iR1 (eCall kMaxA (aCons (eC (.int 1)) (aCons (eCall kMinA (aCons (eCall kLen (aCons (eVar 0) aNil)) (aCons (eC (.int 2)) aNil))) aNil)))) (src := fun _ => some (rngD 0 N.toNat)) (g := gNm 1) (b := BODY)
    (e := [some (.scr (ns.map D.int)), none, none, none, none, none, none, none, none, none, none, none]) (S := []) (S1 := []) (ds := rngD 0 N.toNat)
    (by unfold iR1; rw [hv _ rfl]; simp only [hb, if_true]) (fun _ => rfl) ⟨rfl, rfl⟩ (fun i dd e S hd hP => by
      have hi : i < N.toNat := by rw [← hlen]; exact (List.getElem?_eq_some_iff.mp hd).1
      have ed : dd = .int (i : Nat) := by
        have := (List.getElem?_eq_some_iff.mp hd).2
        rw [← this]
        simp [rngD]
      match i, hi, ed, hP with
      | 0, _, ed, hP =>
        obtain ⟨rfl, rfl⟩ := hP
        subst ed
        obtain ⟨a, b, v3, v4, v5, v6, v7, v8, v9, v10, v11, q, _⟩ := body1 ns none none none none none none none none none none
        exact ⟨_, _, _, _, rfl, .inl q, a, b, v3, v4, v5, v6, v7, v8, v9, v10, v11, rfl, rfl⟩
      | 1, _, ed, hP =>
        obtain ⟨a, b, v3, v4, v5, v6, v7, v8, v9, v10, v11, rfl, rfl⟩ := hP
        subst ed
        obtain ⟨a', b', u3, u4, u5, u6, u7, u8, u9, u10, u11, q, _⟩ := body2 a b ns none v3 v4 v5 v6 v7 v8 v9 v10 v11
        exact ⟨_, _, _, _, rfl, .inl q, trivial⟩
      | i + 2, hi, _, _ => omega)
  unfold m_law
  exact runA_of (S1 := S') (d1 := .bl true) (v_run rfl (v_seq hf (v_ret v_c))) (finAb_ok rfl)
end K26
namespace K26
open PySem PySem.Spec PyProof.Rows L2 Tr
theorem toFun {K : PySem.W.Frag} {x : Str} {st : Stmt} {f : Addr} {fd : FuncData} (F : FunD K x x (defArgs st) (defBody st) (defScope st) [] [] f fd) : Fun K x x st f fd := by
  obtain ⟨oc, od, dV, kV, doc, pm, an, cdv, ct, osl, rfl, lk, hcd, hD, hK⟩ := F.ex
  rcases hD with ⟨_, rfl⟩ | ⟨e, _⟩
  · exact ⟨⟨oc, od, kV, doc, pm, an, cdv, ct, osl, rfl, lk, hcd⟩, F.kp⟩
  · exact absurd rfl e
def d_lowest : He.DefD := ⟨("lowest", none), "lowest", "lowest", defArgs s_lowest, defBody s_lowest, defScope s_lowest, [], []⟩
def d_times : He.DefD := ⟨("times", none), "times", "times", defArgs s_times, defBody s_times, defScope s_times, [], []⟩
def d_one_share : He.DefD := ⟨("one_share", none), "one_share", "one_share", defArgs s_one_share, defBody s_one_share, defScope s_one_share, [], []⟩
def d_both_rises : He.DefD := ⟨("both_rises", none), "both_rises", "both_rises", defArgs s_both_rises, defBody s_both_rises, defScope s_both_rises, [], []⟩
def d_both_crossed : He.DefD := ⟨("both_crossed", none), "both_crossed", "both_crossed", defArgs s_both_crossed, defBody s_both_crossed, defScope s_both_crossed, [], []⟩
def d_both_share : He.DefD := ⟨("both_share", none), "both_share", "both_share", defArgs s_both_share, defBody s_both_share, defScope s_both_share, [], []⟩
def d__law_pot : He.DefD := ⟨("_law_pot", none), "_law_pot", "_law_pot", defArgs s__law_pot, defBody s__law_pot, defScope s__law_pot, [], []⟩
def d__law_next : He.DefD := ⟨("_law_next", none), "_law_next", "_law_next", defArgs s__law_next, defBody s__law_next, defScope s__law_next, [], []⟩
def d__law_of : He.DefD := ⟨("_law_of", none), "_law_of", "_law_of", defArgs s__law_of, defBody s__law_of, defScope s__law_of, [], []⟩
def d__law_same : He.DefD := ⟨("_law_same", none), "_law_same", "_law_same", defArgs s__law_same, defBody s__law_same, defScope s__law_same, [], []⟩
def d__law_low : He.DefD := ⟨("_law_low", none), "_law_low", "_law_low", defArgs s__law_low, defBody s__law_low, defScope s__law_low, [], []⟩
def d__law_all : He.DefD := ⟨("_law_all", none), "_law_all", "_law_all", defArgs s__law_all, defBody s__law_all, defScope s__law_all, [], []⟩
def d__law_parts : He.DefD := ⟨("_law_parts", none), "_law_parts", "_law_parts", defArgs s__law_parts, defBody s__law_parts, defScope s__law_parts, [], []⟩
def d__law_round : He.DefD := ⟨("_law_round", none), "_law_round", "_law_round", defArgs s__law_round, defBody s__law_round, defScope s__law_round, [], []⟩
def d__law_has : He.DefD := ⟨("_law_has", none), "_law_has", "_law_has", defArgs s__law_has, defBody s__law_has, defScope s__law_has, [], []⟩
def d__law_pair_share : He.DefD := ⟨("_law_pair_share", none), "_law_pair_share", "_law_pair_share", defArgs s__law_pair_share, defBody s__law_pair_share, defScope s__law_pair_share, [], []⟩
def d__law_all_pairs_right : He.DefD := ⟨("_law_all_pairs_right", none), "_law_all_pairs_right", "_law_all_pairs_right", defArgs s__law_all_pairs_right, defBody s__law_all_pairs_right, defScope s__law_all_pairs_right, [], []⟩
def d__law_few : He.DefD := ⟨("_law_few", none), "_law_few", "_law_few", defArgs s__law_few, defBody s__law_few, defScope s__law_few, [], []⟩
def d__law_far_due : He.DefD := ⟨("_law_far_due", none), "_law_far_due", "_law_far_due", defArgs s__law_far_due, defBody s__law_far_due, defScope s__law_far_due, [], []⟩
def d_law : He.DefD := ⟨("law", none), "law", "law", defArgs s_law, defBody s_law, defScope s_law, [], []⟩
def fn : List He.DefD := [d_lowest, d_times, d_one_share, d_both_rises, d_both_crossed, d_both_share, d__law_pot, d__law_next, d__law_of, d__law_same, d__law_low, d__law_all, d__law_parts, d__law_round, d__law_has, d__law_pair_share, d__law_all_pairs_right, d__law_few, d__law_far_due, d_law]
def fa : List He.Fa := [.glo "lowest", .glo "times", .glo "one_share", .glo "both_rises", .glo "both_crossed", .glo "both_share", .glo "_law_pot", .glo "_law_next", .glo "_law_of", .glo "_law_same", .glo "_law_low", .glo "_law_all", .glo "_law_parts", .glo "_law_round", .glo "_law_has", .glo "_law_pair_share", .glo "_law_all_pairs_right", .glo "_law_few", .glo "_law_far_due", .glo "law", .free "abs", .free "all", .free "bool", .free "dict", .free "int", .free "isinstance", .free "len", .free "list", .free "max", .free "min", .free "range", .free "set", .free "sorted", .free "str", .free "tuple", .free "zip"]
abbrev R : PySem.W.OpenRow := PySem.W.OpenLaw.row PySem.Challenge.rw_shuffletold_k26_shares_of_two_parts
abbrev hk : PySem.W.Hook := He.hookD 4 fa fn
def ob (s : PySem.W.SharedT) : He.AlD := He.obsDG 4 fa fn (HandSHeadRun.getT s)
theorem ob_eq (s : PySem.W.SharedT) : ob s = hk.obs s.abs := He.obsDG_eq (HandSHeadRun.getT_eq s)
def names : List PySem.Str := ["lowest", "times", "one_share", "both_rises", "both_crossed", "both_share", "_law_pot", "_law_next", "_law_of", "_law_same", "_law_low", "_law_all", "_law_parts", "_law_round", "_law_has", "_law_pair_share", "_law_all_pairs_right", "_law_few", "_law_far_due"]
theorem run (w : World) : HandSHeadRun.RunEq R (PySem.W.view R.prog [22]) hk ob 4000 names w := by
  intro os
  kernel_rfl
theorem facts {K : PySem.W.Frag} {h : Heap} {mg : Str → Option Value} (X : K.In h) (G : h.Ns mainGlobals mg) (c : He.SaysD fa fn K) : ∃ C : Cx0 K mg, C.f_law = He.ga K "law" := by
  obtain ⟨fd0, F0⟩ := c.def_ 0 (d := d_lowest) rfl
  obtain ⟨fd1, F1⟩ := c.def_ 1 (d := d_times) rfl
  obtain ⟨fd2, F2⟩ := c.def_ 2 (d := d_one_share) rfl
  obtain ⟨fd3, F3⟩ := c.def_ 3 (d := d_both_rises) rfl
  obtain ⟨fd4, F4⟩ := c.def_ 4 (d := d_both_crossed) rfl
  obtain ⟨fd5, F5⟩ := c.def_ 5 (d := d_both_share) rfl
  obtain ⟨fd6, F6⟩ := c.def_ 6 (d := d__law_pot) rfl
  obtain ⟨fd7, F7⟩ := c.def_ 7 (d := d__law_next) rfl
  obtain ⟨fd8, F8⟩ := c.def_ 8 (d := d__law_of) rfl
  obtain ⟨fd9, F9⟩ := c.def_ 9 (d := d__law_same) rfl
  obtain ⟨fd10, F10⟩ := c.def_ 10 (d := d__law_low) rfl
  obtain ⟨fd11, F11⟩ := c.def_ 11 (d := d__law_all) rfl
  obtain ⟨fd12, F12⟩ := c.def_ 12 (d := d__law_parts) rfl
  obtain ⟨fd13, F13⟩ := c.def_ 13 (d := d__law_round) rfl
  obtain ⟨fd14, F14⟩ := c.def_ 14 (d := d__law_has) rfl
  obtain ⟨fd15, F15⟩ := c.def_ 15 (d := d__law_pair_share) rfl
  obtain ⟨fd16, F16⟩ := c.def_ 16 (d := d__law_all_pairs_right) rfl
  obtain ⟨fd17, F17⟩ := c.def_ 17 (d := d__law_few) rfl
  obtain ⟨fd18, F18⟩ := c.def_ 18 (d := d__law_far_due) rfl
  obtain ⟨fd19, F19⟩ := c.def_ 19 (d := d_law) rfl
  exact ⟨{ f_lowest := _,
                fd_lowest := fd0,
                F_lowest := toFun F0,
                g_lowest := (He.glo_ok X G (c.fact 0 (f := .glo "lowest") rfl)),
                f_times := _,
                fd_times := fd1,
                F_times := toFun F1,
                g_times := (He.glo_ok X G (c.fact 1 (f := .glo "times") rfl)),
                f_one_share := _,
                fd_one_share := fd2,
                F_one_share := toFun F2,
                g_one_share := (He.glo_ok X G (c.fact 2 (f := .glo "one_share") rfl)),
                f_both_rises := _,
                fd_both_rises := fd3,
                F_both_rises := toFun F3,
                g_both_rises := (He.glo_ok X G (c.fact 3 (f := .glo "both_rises") rfl)),
                f_both_crossed := _,
                fd_both_crossed := fd4,
                F_both_crossed := toFun F4,
                g_both_crossed := (He.glo_ok X G (c.fact 4 (f := .glo "both_crossed") rfl)),
                f_both_share := _,
                fd_both_share := fd5,
                F_both_share := toFun F5,
                g_both_share := (He.glo_ok X G (c.fact 5 (f := .glo "both_share") rfl)),
                f__law_pot := _,
                fd__law_pot := fd6,
                F__law_pot := toFun F6,
                g__law_pot := (He.glo_ok X G (c.fact 6 (f := .glo "_law_pot") rfl)),
                f__law_next := _,
                fd__law_next := fd7,
                F__law_next := toFun F7,
                g__law_next := (He.glo_ok X G (c.fact 7 (f := .glo "_law_next") rfl)),
                f__law_of := _,
                fd__law_of := fd8,
                F__law_of := toFun F8,
                g__law_of := (He.glo_ok X G (c.fact 8 (f := .glo "_law_of") rfl)),
                f__law_same := _,
                fd__law_same := fd9,
                F__law_same := toFun F9,
                g__law_same := (He.glo_ok X G (c.fact 9 (f := .glo "_law_same") rfl)),
                f__law_low := _,
                fd__law_low := fd10,
                F__law_low := toFun F10,
                g__law_low := (He.glo_ok X G (c.fact 10 (f := .glo "_law_low") rfl)),
                f__law_all := _,
                fd__law_all := fd11,
                F__law_all := toFun F11,
                g__law_all := (He.glo_ok X G (c.fact 11 (f := .glo "_law_all") rfl)),
                f__law_parts := _,
                fd__law_parts := fd12,
                F__law_parts := toFun F12,
                g__law_parts := (He.glo_ok X G (c.fact 12 (f := .glo "_law_parts") rfl)),
                f__law_round := _,
                fd__law_round := fd13,
                F__law_round := toFun F13,
                g__law_round := (He.glo_ok X G (c.fact 13 (f := .glo "_law_round") rfl)),
                f__law_has := _,
                fd__law_has := fd14,
                F__law_has := toFun F14,
                g__law_has := (He.glo_ok X G (c.fact 14 (f := .glo "_law_has") rfl)),
                f__law_pair_share := _,
                fd__law_pair_share := fd15,
                F__law_pair_share := toFun F15,
                g__law_pair_share := (He.glo_ok X G (c.fact 15 (f := .glo "_law_pair_share") rfl)),
                f__law_all_pairs_right := _,
                fd__law_all_pairs_right := fd16,
                F__law_all_pairs_right := toFun F16,
                g__law_all_pairs_right := (He.glo_ok X G (c.fact 16 (f := .glo "_law_all_pairs_right") rfl)),
                f__law_few := _,
                fd__law_few := fd17,
                F__law_few := toFun F17,
                g__law_few := (He.glo_ok X G (c.fact 17 (f := .glo "_law_few") rfl)),
                f__law_far_due := _,
                fd__law_far_due := fd18,
                F__law_far_due := toFun F18,
                g__law_far_due := (He.glo_ok X G (c.fact 18 (f := .glo "_law_far_due") rfl)),
                f_law := _,
                fd_law := fd19,
                F_law := toFun F19,
                g_law := (He.glo_ok X G (c.fact 19 (f := .glo "law") rfl)),
                b_abs := He.free_ok X G (c.fact 20 (f := .free "abs") rfl),
                b_all := He.free_ok X G (c.fact 21 (f := .free "all") rfl),
                b_bool := He.free_ok X G (c.fact 22 (f := .free "bool") rfl),
                b_dict := He.free_ok X G (c.fact 23 (f := .free "dict") rfl),
                b_int := He.free_ok X G (c.fact 24 (f := .free "int") rfl),
                b_isinstance := He.free_ok X G (c.fact 25 (f := .free "isinstance") rfl),
                b_len := He.free_ok X G (c.fact 26 (f := .free "len") rfl),
                b_list := He.free_ok X G (c.fact 27 (f := .free "list") rfl),
                b_max := He.free_ok X G (c.fact 28 (f := .free "max") rfl),
                b_min := He.free_ok X G (c.fact 29 (f := .free "min") rfl),
                b_range := He.free_ok X G (c.fact 30 (f := .free "range") rfl),
                b_set := He.free_ok X G (c.fact 31 (f := .free "set") rfl),
                b_sorted := He.free_ok X G (c.fact 32 (f := .free "sorted") rfl),
                b_str := He.free_ok X G (c.fact 33 (f := .free "str") rfl),
                b_tuple := He.free_ok X G (c.fact 34 (f := .free "tuple") rfl),
                b_zip := He.free_ok X G (c.fact 35 (f := .free "zip") rfl) }, rfl⟩
theorem law_sp {K : PySem.W.Frag} (H : Hp) (a : Addr) (ns : List Int) (h : SqL K H a (ns.map V.int)) : Tr.cv K m_law [.ref a] H (fun v _ => v = .bl true) fun _ _ _ => False := by
  have sc : ScrAt K [] [] H a (ns.map V.int) := by
    rcases h with h | ⟨o, its, n, hk, hc, hd, hs, hz, r⟩
    · exact .inl ⟨by simp, by simp, h⟩
    · exact .inr ⟨o, its, n, hk, hc, hd, hs, hz, r⟩
  refine ⟨[], [], [], [.scr (ns.map D.int)], .bl true, [], ⟨rfl, List.nodup_nil, fun a m => (by cases m), fun l a o e => by simp at e⟩, .cons (.scr sc (RlL.of_ints ns)) .nil, law_true ns, fun v r' H' _ _ l => ?_⟩
  cases l
  rfl
theorem law_bd {K : PySem.W.Frag} {mg : Str → Option Value} (C : Cx0 K mg) (s : Shared) (v : Value) : BindsTo s C.fd_law ⟨[v], []⟩ [("_law_script", v)] := by
  obtain ⟨oc, od, kV, doc, pm, an, cdv, ct, osl, e, lk, hcd⟩ := C.F_law.ex
  rw [e]
  exact .of_eq rfl
end K26
open PySem PySem.W PySem.Calls PyProof.Rows
theorem PySem.Challenge.cw_shuffletold_k26_shares_of_two_parts_holds : PySem.Challenge.rw_shuffletold_k26_shares_of_two_parts.Holds := by
  w_on; o_law
  refine HandSHeadRun.head_any (r := OpenLaw.row PySem.Challenge.rw_shuffletold_k26_shares_of_two_parts) (q := view (OpenLaw.row PySem.Challenge.rw_shuffletold_k26_shares_of_two_parts).prog [22]) (H := K26.hk) (ob := K26.ob) (M := 4000) (loose := K26.names) (d := HandSHeadRun.topDef (OpenLaw.row PySem.Challenge.rw_shuffletold_k26_shares_of_two_parts).prog 22) (kwd := []) K26.ob_eq
    (by kernel_rfl) (fun s => by kernel_rfl) K26.run (by kernel_rfl) (by kernel_rfl) (by kernel_rfl) (by rfl) (by first | assumption | decide +kernel) (by decide +kernel) ⟨rfl, rfl, rfl, rfl, rfl, by decide +kernel⟩ ?hw ?hc
  case hw => w_witness2
  case hc =>
    refine L2.walk_ofE (l := PySem.Challenge.rw_shuffletold_k26_shares_of_two_parts) (n := 63) (k := 73) (x := "_law_script") (CX := L2.CX0) rfl (by decide) (by kernel_rfl) ⟨rfl, by decide, by decide⟩ ?F (fun _ _ _ _ z => z)
    intro w mg fa h Y G hmg0
    obtain ⟨K, KX, c⟩ := Y
    have hmg : mg ("law" : PySem.Str) = some (.ref fa) := by
      have e : (HandSHeadRun.topDef (OpenLaw.row PySem.Challenge.rw_shuffletold_k26_shares_of_two_parts).prog 22).name = ("law" : PySem.Str) := by kernel_rfl
      rw [← e]
      exact hmg0
    obtain ⟨C, hC⟩ := K26.facts KX G c
    have e := hmg.symm.trans C.g_law
    cases e
    exact ⟨K, C.fd_law, Tr.cv K K26.m_law, KX, K26.law_bd C, fun H a ns hl _ hS => K26.law_sp H a ns hS, fun base _ _ => K26.ok_law C⟩
