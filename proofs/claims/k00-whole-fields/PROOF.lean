import PyProof.Rows.All
import Wide.All
import OpenK.AllK
import Wide.FinOn
import HandS.ForMost
import HandS.ForExc
import HandS.Flow
import HandS.Deep
import HandS.IsInst
import HandS.CallSlots
import HandS.Defaults
import HandS.Wide
import HandS.Lambda
import HandS.Zip
import HandS.ExcIs
import HandS.TryOnly
import HandS.HeadHook4
import HandS.Head0
import HandS.Head1
import HandS.Head2
import HandS.HeadEnd
import HandS.HeadWalk
import PySem.Challenge.RW_polerooms_k00_whole_fields
set_option autoImplicit false
set_option Elab.async false
set_option linter.all false
set_option maxRecDepth 100000
set_option maxHeartbeats 4000000
/-! PV1: pure values, results, denotations; the relation to the abstract heap. -/
namespace PV
open PySem PySem.Spec PyProof.Rows L2

/-- values without addresses: tuples and lists that never change again are data; ref n is the n-th list of the store -/
inductive D where
  | non | bl (b : Bool) | int (i : Int) | str (x : Str) | tup (xs : List D) | lst (xs : List D) | scr (ns : List Int) | ref (n : Nat) | fn (i : Nat)
instance : Inhabited D := ⟨.non⟩
abbrev Sto := List (List D)
structure Exn where
  cls : Nat
  arg : Option (Str × D) := none
inductive R (α : Type) where
  | ok (a : α) (S : Sto) | er (x : Exn) (S : Sto) | no
def R.bind {α β : Type} (r : R α) (f : α → Sto → R β) : R β := match r with
  | .ok a S => f a S
  | .er x S => .er x S
  | .no => .no
/-- a slot of a frame: unknown, a value, a list of the frame's own that may still change, the exception that is handled -/
inductive Sl where
  | u | v (d : D) | o (xs : List D) | p
instance : Inhabited Sl := ⟨.u⟩
abbrev Env := List Sl
abbrev ME := Env → Sto → R D
abbrev MA := Env → Sto → R (List D)
abbrev MT := Env → Sto → R Bool
inductive RS where
  | nx (e : Env) (S : Sto) | bk (e : Env) (S : Sto) | ct (e : Env) (S : Sto) | rt (d : D) (S : Sto) | er (x : Exn) (e : Env) (S : Sto) | no
abbrev MS := Env → Sto → RS

/-! ### the relation -/
/-- what has been laid down: the frozen part of the heap, the places of the store's lists -/
structure Gw where
  Fz : Hp
  φ : List Addr
/-- addresses of the defs and of the exception classes -/
structure Cn where
  K : PySem.W.Frag
  fa : Nat → Addr
  ca : Nat → Addr
  xa : Addr := 0
  T : List (Addr × Str) := []
  base : Option (Gw × Hp) := none
  cod : Option (Addr × Str) := none
mutual
inductive RelD (C : Cn) (W : Gw) : V → D → Prop
  | non : RelD C W .non .non
  | bl (b : Bool) : RelD C W (.bl b) (.bl b)
  | int (i : Int) : RelD C W (.int i) (.int i)
  | str (x : Str) : RelD C W (.str x) (.str x)
  | tup {a : Addr} {vs : List V} {ds : List D} : W.Fz a = some (.tup vs) → RelDs C W vs ds → RelD C W (.ref a) (.tup ds)
  | lst {a : Addr} {vs : List V} {ds : List D} : W.Fz a = some (.lst vs) → RelDs C W vs ds → RelD C W (.ref a) (.lst ds)
  | scr {a : Addr} {ns : List Int} : SqL C.K W.Fz a (ns.map V.int) → RelD C W (.ref a) (.scr ns)
  | ref {a : Addr} {n : Nat} : W.φ[n]? = some a → RelD C W (.ref a) (.ref n)
  | fn (i : Nat) : RelD C W (.ref (C.fa i)) (.fn i)
inductive RelDs (C : Cn) (W : Gw) : List V → List D → Prop
  | nil : RelDs C W [] []
  | cons {v : V} {vs : List V} {d : D} {ds : List D} : RelD C W v d → RelDs C W vs ds → RelDs C W (v :: vs) (d :: ds)
end
structure Le (W W' : Gw) : Prop where
  fz : ∀ a o, W.Fz a = some o → W'.Fz a = some o
  ph : ∃ t, W'.φ = W.φ ++ t
theorem Le.refl (W : Gw) : Le W W := ⟨fun _ _ h => h, [], by simp⟩
theorem Le.trans {W W1 W2 : Gw} (a : Le W W1) (b : Le W1 W2) : Le W W2 := ⟨fun c o h => b.fz c o (a.fz c o h), by
  obtain ⟨t, e⟩ := a.ph
  obtain ⟨u, e'⟩ := b.ph
  exact ⟨t ++ u, by rw [e', e, List.append_assoc]⟩⟩
theorem Le.get {W W' : Gw} (l : Le W W') {n : Nat} {a : Addr} (h : W.φ[n]? = some a) : W'.φ[n]? = some a := by
  obtain ⟨t, e⟩ := l.ph
  rw [e, List.getElem?_append_left (List.getElem?_eq_some_iff.mp h).1, h]
theorem sqL_le {K : PySem.W.Frag} {H H' : Hp} (h : ∀ a o, H a = some o → H' a = some o) {a : Addr} {xs : List V} (q : SqL K H a xs) : SqL K H' a xs := by
  rcases q with (q | ⟨o, q⟩) | q
  · exact .inl (.inl (h _ _ q))
  · exact .inl (.inr ⟨o, h _ _ q⟩)
  · exact .inr q
mutual
theorem RelD.le {C : Cn} {W W' : Gw} (l : Le W W') : ∀ {v : V} {d : D}, RelD C W v d → RelD C W' v d
  | _, _, .non => .non
  | _, _, .bl b => .bl b
  | _, _, .int i => .int i
  | _, _, .str x => .str x
  | _, _, .tup h r => .tup (l.fz _ _ h) (RelDs.le l r)
  | _, _, .lst h r => .lst (l.fz _ _ h) (RelDs.le l r)
  | _, _, .scr h => .scr (sqL_le l.fz h)
  | _, _, .ref h => .ref (l.get h)
  | _, _, .fn i => .fn i
theorem RelDs.le {C : Cn} {W W' : Gw} (l : Le W W') : ∀ {vs : List V} {ds : List D}, RelDs C W vs ds → RelDs C W' vs ds
  | _, _, .nil => .nil
  | _, _, .cons r t => .cons (RelD.le l r) (RelDs.le l t)
end
section
variable {C : Cn} {W : Gw}
theorem RelDs.length : ∀ {vs : List V} {ds : List D}, RelDs C W vs ds → vs.length = ds.length
  | _, _, .nil => rfl
  | _, _, .cons _ t => by simp [RelDs.length t]
theorem RelDs.get : ∀ {vs : List V} {ds : List D} {i : Nat} {d : D}, RelDs C W vs ds → ds[i]? = some d → ∃ v, vs[i]? = some v ∧ RelD C W v d
  | _, _, _, _, .nil, e => by simp at e
  | _, _, 0, _, .cons r _, e => by
    simp at e
    subst e
    exact ⟨_, rfl, r⟩
  | _, _, i + 1, _, .cons _ t, e => by
    obtain ⟨v, h1, h2⟩ := RelDs.get (i := i) t (by simpa using e)
    exact ⟨v, by simpa using h1, h2⟩
theorem RelDs.getV : ∀ {vs : List V} {ds : List D} {i : Nat} {v : V}, RelDs C W vs ds → vs[i]? = some v → ∃ d, ds[i]? = some d ∧ RelD C W v d
  | _, _, _, _, .nil, e => by simp at e
  | _, _, 0, _, .cons r _, e => by
    simp at e
    subst e
    exact ⟨_, rfl, r⟩
  | _, _, i + 1, _, .cons _ t, e => by
    obtain ⟨v, h1, h2⟩ := RelDs.getV (i := i) t (by simpa using e)
    exact ⟨v, by simpa using h1, h2⟩
theorem RelDs.append : ∀ {vs ws : List V} {ds es : List D}, RelDs C W vs ds → RelDs C W ws es → RelDs C W (vs ++ ws) (ds ++ es)
  | _, _, _, _, .nil, s => s
  | _, _, _, _, .cons r t, s => .cons r (RelDs.append t s)
theorem RelDs.one {v : V} {d : D} (r : RelD C W v d) : RelDs C W [v] [d] := .cons r .nil
theorem RelDs.set : ∀ {vs : List V} {ds : List D} (i : Nat) {v : V} {d : D}, RelDs C W vs ds → RelD C W v d → RelDs C W (vs.set i v) (ds.set i d)
  | _, _, _, _, _, .nil, _ => .nil
  | _, _, 0, _, _, .cons _ t, r => .cons r t
  | _, _, i + 1, _, _, .cons q t, r => .cons q (RelDs.set i t r)
theorem RelDs.take : ∀ {vs : List V} {ds : List D} (n : Nat), RelDs C W vs ds → RelDs C W (vs.take n) (ds.take n)
  | _, _, 0, _ => .nil
  | _, _, _ + 1, .nil => .nil
  | _, _, n + 1, .cons r t => .cons r (RelDs.take n t)
theorem RelDs.drop : ∀ {vs : List V} {ds : List D} (n : Nat), RelDs C W vs ds → RelDs C W (vs.drop n) (ds.drop n)
  | _, _, 0, r => r
  | _, _, _ + 1, .nil => .nil
  | _, _, n + 1, .cons _ t => RelDs.drop n t
theorem RelDs.dropLast {vs : List V} {ds : List D} (h : RelDs C W vs ds) : RelDs C W vs.dropLast ds.dropLast := by
  rw [List.dropLast_eq_take, List.dropLast_eq_take, h.length]
  exact h.take _
theorem RelDs.rep {vs : List V} {ds : List D} (h : RelDs C W vs ds) : ∀ k : Nat, RelDs C W (List.replicate k vs).flatten (List.replicate k ds).flatten
  | 0 => .nil
  | k + 1 => by
    rw [List.replicate_succ, List.replicate_succ, List.flatten_cons, List.flatten_cons]
    exact h.append (RelDs.rep h k)
theorem RelDs.cons_inv {vs : List V} {d : D} {ds : List D} (h : RelDs C W vs (d :: ds)) : ∃ v r, vs = v :: r ∧ RelD C W v d ∧ RelDs C W r ds := by
  cases h with
  | cons r t => exact ⟨_, _, rfl, r, t⟩
theorem RelDs.ints : ∀ (ns : List Int), RelDs C W (ns.map V.int) (ns.map D.int)
  | [] => .nil
  | n :: ns => .cons (.int n) (RelDs.ints ns)
theorem RelDs.ints_inv : ∀ {ns : List Int} {vs : List V}, RelDs C W vs (ns.map D.int) → vs = ns.map V.int
  | [], _, .nil => rfl
  | _ :: ns, _, .cons (.int _) t => by rw [List.map_cons, RelDs.ints_inv (ns := ns) t]
theorem RelDs.bls_inv : ∀ {bs : List Bool} {vs : List V}, RelDs C W vs (bs.map D.bl) → vs = bs.map V.bl
  | [], _, .nil => rfl
  | _ :: ns, _, .cons (.bl _) t => by rw [List.map_cons, RelDs.bls_inv (bs := ns) t]
theorem RelDs.strs_inv : ∀ {bs : List Str} {vs : List V}, RelDs C W vs (bs.map D.str) → vs = bs.map V.str
  | [], _, .nil => rfl
  | _ :: ns, _, .cons (.str _) t => by rw [List.map_cons, RelDs.strs_inv (bs := ns) t]
end

/-- nothing stands at a, but perhaps a table of code objects -/
def Fr (H : Hp) (a : Addr) : Prop := ∀ o, H a = some o → ∃ ps, o = .tbl ps
theorem Fr.of {H : Hp} {a : Addr} (h : H a = none) : Fr H a := fun o e => by
  rw [h] at e
  cases e
theorem Fr.lst {H : Hp} {a : Addr} {vs : List V} (h : Fr H a) (e : H a = some (.lst vs)) : False := by
  obtain ⟨ps, q⟩ := h _ e
  cases q
/-- what is kept -/
structure Step (W : Gw) (H : Hp) (W' : Gw) (H' : Hp) : Prop where
  le : Le W W'
  same : ∀ a o, H a = some o → a ∉ W.φ → (∀ ps, o ≠ .tbl ps) → H' a = some o
  fzn : ∀ a o, W'.Fz a = some o → W.Fz a = some o ∨ Fr H a
  phn : ∀ a, a ∈ W'.φ → a ∈ W.φ ∨ Fr H a
theorem Step.refl (W : Gw) (H : Hp) : Step W H W H := ⟨Le.refl W, fun _ _ h _ _ => h, fun _ _ h => .inl h, fun _ h => .inl h⟩
/-- the state of things: the frozen part lies in the heap, the store's lists stand at their places -/
structure WOk (C : Cn) (W : Gw) (S : Sto) (H : Hp) : Prop where
  fz : ∀ a o, W.Fz a = some o → H a = some o
  len : W.φ.length = S.length
  nd : W.φ.Nodup
  st : ∀ (n : Nat) (a : Addr), W.φ[n]? = some a → W.Fz a = none ∧ ∃ (vs : List V) (xs : List D), H a = some (.lst vs) ∧ S[n]? = some xs ∧ RelDs C W vs xs
  tabs : LamX.Tabs C.T H
  nt : ∀ a ps, W.Fz a ≠ some (.tbl ps)
  base : ∀ b, C.base = some b → Step b.1 b.2 W H
  cod : ∀ p, C.cod = some p → H p.1 = some (LamX.CodeO p.1 p.2)
/-- a list is written: the tables stand -/
theorem tabs_lst {T : List (Addr × Str)} {H : Hp} {a : Addr} {vs us : List V} (t : LamX.Tabs T H) (h : H a = some (.lst vs)) : LamX.Tabs T (upd H a (.lst us)) := fun p hp => by
  obtain ⟨ps, h1, h2, h3⟩ := t p hp
  refine ⟨ps, ?_, h2, fun pos cv hc => ?_⟩
  · rw [upd_ne (ne_of h1 h fun z => nomatch z)]
    exact h1
  · obtain ⟨c, e1, e2⟩ := h3 pos cv hc
    refine ⟨c, e1, ?_⟩
    rw [upd_ne (ne_of e2 h fun z => nomatch z)]
    exact e2
section
variable {C : Cn} {W W1 W2 : Gw} {S S1 S2 : Sto} {H H1 H2 : Hp}
theorem WOk.tracked (k : WOk C W S H) {a : Addr} (h : a ∈ W.φ) : ∃ vs, H a = some (.lst vs) := by
  obtain ⟨n, hn, e⟩ := List.mem_iff_getElem.mp h
  obtain ⟨_, vs, _, q, _⟩ := k.st n a (by rw [List.getElem?_eq_getElem hn, e])
  exact ⟨_, q⟩
theorem Step.back (s : Step W H W1 H1) (k1 : WOk C W1 S1 H1) {a : Addr} (h : Fr H1 a) : Fr H a := fun o q => by
  by_cases hp : a ∈ W.φ
  · obtain ⟨t, e⟩ := s.le.ph
    obtain ⟨u, e'⟩ := k1.tracked (a := a) (by rw [e]; exact List.mem_append_left _ hp)
    exact (h.lst e').elim
  · by_cases ho : ∃ ps, o = .tbl ps
    · exact ho
    · exact h o (s.same a o q hp fun ps z => ho ⟨ps, z⟩)
theorem Step.trans (s : Step W H W1 H1) (k1 : WOk C W1 S1 H1) (s2 : Step W1 H1 W2 H2) : Step W H W2 H2 := by
  refine ⟨s.le.trans s2.le, fun a o h n ht => ?_, fun a o h => ?_, fun a h => ?_⟩
  · refine s2.same a o (s.same a o h n ht) (fun z => ?_) ht
    rcases s.phn a z with q | q
    · exact n q
    · obtain ⟨ps, e⟩ := q o h
      exact ht ps e
  · rcases s2.fzn a o h with q | q
    · exact s.fzn a o q
    · exact .inr (s.back k1 q)
  · rcases s2.phn a h with q | q
    · exact s.phn a q
    · exact .inr (s.back k1 q)
theorem WOk.frb (k : WOk C W S H) {a : Addr} (h : Fr H a) : ∀ b, C.base = some b → Fr b.2 a := fun b hb => (k.base b hb).back k h
/-- something untracked is laid and frozen -/
def Gw.fr (W : Gw) (a : Addr) (o : HO) : Gw := ⟨upd W.Fz a o, W.φ⟩
theorem Le.fr (W : Gw) {a : Addr} (o : HO) (h : W.Fz a = none) : Le W (W.fr a o) := ⟨fun b u e => by
  show upd W.Fz a o b = some u
  rw [upd_ne (ne_of_none e h)]
  exact e, [], by simp [Gw.fr]⟩
theorem WOk.noFz (k : WOk C W S H) {a : Addr} (h : H a = none) : W.Fz a = none := by
  cases q : W.Fz a with
  | none => rfl
  | some o =>
    have := k.fz a o q
    rw [h] at this
    cases this
theorem WOk.noPh (k : WOk C W S H) {a : Addr} (h : H a = none) : a ∉ W.φ := fun z => by
  obtain ⟨o, e⟩ := k.tracked z
  rw [h] at e
  cases e
/-- the heap grows, what is new is not of ours -/
theorem WOk.grow (k : WOk C W S H) (h : ∀ a o, H a = some o → H1 a = some o) : WOk C W S H1 :=
  ⟨fun a o e => h a o (k.fz a o e), k.len, k.nd, fun n a e => by
    obtain ⟨h1, vs, xs, h2, h3, h4⟩ := k.st n a e
    exact ⟨h1, vs, xs, h _ _ h2, h3, h4⟩, k.tabs.ext h, k.nt, fun b hb => (k.base b hb).trans k ⟨Le.refl W, fun a o e _ _ => h a o e, fun _ _ e => .inl e, fun _ e => .inl e⟩, fun p hp => h _ _ (k.cod p hp)⟩
theorem Step.grow (W : Gw) (h : ∀ a o, H a = some o → H1 a = some o) : Step W H W H1 := ⟨Le.refl W, fun a o e _ _ => h a o e, fun _ _ e => .inl e, fun _ e => .inl e⟩
theorem grow_upd {a : Addr} {o : HO} (h : H a = none) : ∀ b u, H b = some u → upd H a o b = some u := fun b u e => by
  rw [upd_ne (ne_of_none e h)]
  exact e
theorem Step.frz {a : Addr} {o : HO} (s : Step W H W1 H1) (h0 : Fr H a) (hf : W1.Fz a = none) : Step W H (W1.fr a o) H1 := by
  refine ⟨s.le.trans (Le.fr W1 o hf), s.same, fun b u e => ?_, s.phn⟩
  by_cases hb : b = a
  · subst hb
    exact .inr h0
  · have e1 : upd W1.Fz a o b = some u := e
    rw [upd_ne hb] at e1
    exact s.fzn b u e1
/-- freezing what stands -/
theorem WOk.frz (k : WOk C W S H) {a : Addr} {o : HO} (h : H a = some o) (hf : W.Fz a = none) (hp : a ∉ W.φ) (hr : ∀ b, C.base = some b → Fr b.2 a) (hn : ∀ ps, o ≠ .tbl ps := by intro _ z; cases z) : WOk C (W.fr a o) S H := by
  refine ⟨fun b u e => ?_, k.len, k.nd, fun n b e => ?_, k.tabs, fun b ps e => ?_, fun b hb => (k.base b hb).frz (hr b hb) hf, k.cod⟩
  · by_cases hb : b = a
    · subst hb
      have : upd W.Fz b o b = some u := e
      rw [upd_same] at this
      cases this
      exact h
    · have e1 : upd W.Fz a o b = some u := e
      rw [upd_ne hb] at e1
      exact k.fz b u e1
  · obtain ⟨h1, vs, xs, h2, h3, h4⟩ := k.st n b e
    have hb : b ≠ a := fun z => hp (z ▸ List.mem_of_getElem? e)
    refine ⟨?_, vs, xs, h2, h3, h4.le (Le.fr W o hf)⟩
    show upd W.Fz a o b = none
    rw [upd_ne hb]
    exact h1
  · have e1 : upd W.Fz a o b = some (.tbl ps) := e
    by_cases hb : b = a
    · subst hb
      rw [upd_same] at e1
      exact hn ps (Option.some.inj e1)
    · rw [upd_ne hb] at e1
      exact k.nt b ps e1
/-- a new list of the store -/
def Gw.st (W : Gw) (a : Addr) : Gw := ⟨W.Fz, W.φ ++ [a]⟩
theorem Le.st (W : Gw) (a : Addr) : Le W (W.st a) := ⟨fun _ _ e => e, [a], rfl⟩
theorem Step.new {a : Addr} (s : Step W H W1 H1) (h0 : Fr H a) : Step W H (W1.st a) H1 := by
  refine ⟨s.le.trans (Le.st W1 a), s.same, s.fzn, fun b h => ?_⟩
  rcases List.mem_append.mp h with q | q
  · exact s.phn b q
  · have : b = a := by simpa using q
    subst this
    exact .inr h0
theorem WOk.new (k : WOk C W S H) {a : Addr} {vs : List V} {xs : List D} (h : H a = some (.lst vs)) (hf : W.Fz a = none) (hp : a ∉ W.φ) (hr : ∀ b, C.base = some b → Fr b.2 a) (r : RelDs C W vs xs) : WOk C (W.st a) (S ++ [xs]) H := by
  refine ⟨k.fz, by simp [Gw.st, k.len], ?_, fun n b e => ?_, k.tabs, k.nt, fun b hb => (k.base b hb).new (hr b hb), k.cod⟩
  · show (W.φ ++ [a]).Nodup
    rw [List.nodup_append]
    exact ⟨k.nd, by simp, fun b hb c hc => by
      have : c = a := by simpa using hc
      subst this
      exact fun z => hp (z ▸ hb)⟩
  · have e1 : (W.φ ++ [a])[n]? = some b := e
    by_cases hn : n < W.φ.length
    · rw [List.getElem?_append_left hn] at e1
      obtain ⟨h1, us, ys, h2, h3, h4⟩ := k.st n b e1
      exact ⟨h1, us, ys, h2, by rw [List.getElem?_append_left (by rw [← k.len]; exact hn)]; exact h3, h4.le (Le.st W a)⟩
    · rw [List.getElem?_append_right (by omega)] at e1
      have hn2 : n - W.φ.length = 0 := by
        have := (List.getElem?_eq_some_iff.mp e1).1
        simp at this
        omega
      rw [hn2] at e1
      have : b = a := by simpa using e1.symm
      subst this
      refine ⟨hf, vs, xs, h, ?_, r.le (Le.st W _)⟩
      have hl := k.len
      rw [List.getElem?_append_right (by omega), show n - S.length = 0 by omega]
      rfl
theorem Step.put {n : Nat} {a : Addr} {o : HO} (hn : W.φ[n]? = some a) : Step W H W (upd H a o) :=
  ⟨Le.refl W, fun b u e h _ => by
    have hne : b ≠ a := fun z => h (by rw [z]; exact List.mem_of_getElem? hn)
    rw [upd_ne hne]
    exact e, fun _ _ h => .inl h, fun _ h => .inl h⟩
/-- a list of the store is written -/
theorem WOk.put (k : WOk C W S H) {n : Nat} {a : Addr} {vs : List V} {xs : List D} (hn : W.φ[n]? = some a) (r : RelDs C W vs xs) : WOk C W (S.set n xs) (upd H a (.lst vs)) := by
  have hfa := (k.st n a hn).1
  refine ⟨fun b u e => ?_, by simp [k.len], k.nd, fun m b e => ?_, ?_, k.nt, fun b hb => (k.base b hb).trans k (Step.put hn), fun p hp => ?_⟩
  · rw [upd_ne (ne_of_none e hfa)]
    exact k.fz b u e
  · obtain ⟨h1, us, ys, h2, h3, h4⟩ := k.st m b e
    by_cases hm : m = n
    · subst hm
      rw [hn] at e
      cases e
      exact ⟨h1, vs, xs, upd_same, List.getElem?_set_self (List.getElem?_eq_some_iff.mp h3).1, r⟩
    · have hb : b ≠ a := fun z => by
        subst z
        obtain ⟨l1, e1⟩ := List.getElem?_eq_some_iff.mp e
        obtain ⟨l2, e2⟩ := List.getElem?_eq_some_iff.mp hn
        exact hm ((List.getElem_inj k.nd).mp (e1.trans e2.symm))
      exact ⟨h1, us, ys, by rw [upd_ne hb]; exact h2, by rw [List.getElem?_set_ne (Ne.symm hm)]; exact h3, h4⟩
  · obtain ⟨_, us, _, h2, _⟩ := k.st n a hn
    exact tabs_lst k.tabs h2
  · obtain ⟨_, us, _, h2, _⟩ := k.st n a hn
    have h3 := k.cod p hp
    rw [upd_ne (ne_of h3 h2 fun z => nomatch z)]
    exact h3
theorem Step.ownW {a : Addr} {o : HO} (s : Step W H W1 H1) (h0 : Fr H a) : Step W H W1 (upd H1 a o) := by
  refine ⟨s.le, fun b u hb hn ht => ?_, s.fzn, s.phn⟩
  have hne : b ≠ a := fun z => by
    subst z
    obtain ⟨ps, e⟩ := h0 u hb
    exact ht ps e
  rw [upd_ne hne]
  exact s.same b u hb hn ht
/-- a list that is neither frozen nor the store's is written -/
theorem WOk.own (k : WOk C W S H) {a : Addr} {vs us : List V} (h : H a = some (.lst vs)) (hf : W.Fz a = none) (hp : a ∉ W.φ) (hr : ∀ b, C.base = some b → Fr b.2 a) : WOk C W S (upd H a (.lst us)) := by
  refine ⟨fun b o hb => ?_, k.len, k.nd, fun n b hb => ?_, tabs_lst k.tabs h, k.nt, fun b hb => (k.base b hb).ownW (hr b hb), fun p hp => ?_⟩
  · rw [upd_ne (ne_of_none hb hf)]
    exact k.fz b o hb
  · obtain ⟨z1, us, ys, z2, z3, z4⟩ := k.st n b hb
    have hne : b ≠ a := fun z => hp (by rw [← z]; exact List.mem_of_getElem? hb)
    exact ⟨z1, us, ys, by rw [upd_ne hne]; exact z2, z3, z4⟩
  · have h3 := k.cod p hp
    rw [upd_ne (ne_of h3 h fun z => nomatch z)]
    exact h3
end

/-! ### frames -/
structure EnvOk (C : Cn) (H0 : Hp) (W : Gw) (H : Hp) (σ : L2.St) (env : Env) : Prop where
  len : env.length = σ.length
  val : ∀ (i : Nat) (d : D), env[i]? = some (.v d) → ∃ v, σ[i]? = some (some v) ∧ RelD C W v d
  own : ∀ (i : Nat) (xs : List D), env[i]? = some (.o xs) → ∃ a vs, σ[i]? = some (some (.ref a)) ∧ H a = some (.lst vs) ∧ Fr H0 a ∧ W.Fz a = none ∧ a ∉ W.φ ∧ RelDs C W vs xs
  dis : ∀ (i j : Nat) (xs ys : List D) (a : Addr), env[i]? = some (.o xs) → env[j]? = some (.o ys) → σ[i]? = some (some (.ref a)) → σ[j]? = some (some (.ref a)) → i = j
  exq : ∀ (i : Nat), env[i]? = some .p → σ[i]? = some (some (.ref C.xa))
section
variable {C : Cn} {H0 : Hp} {W W1 : Gw} {S S1 : Sto} {H H1 : Hp} {σ : L2.St} {env : Env}
theorem EnvOk.step (e : EnvOk C H0 W H σ env) (s : Step W H W1 H1) : EnvOk C H0 W1 H1 σ env := by
  refine ⟨e.len, fun i d h => ?_, fun i xs h => ?_, e.dis, e.exq⟩
  · obtain ⟨v, h1, h2⟩ := e.val i d h
    exact ⟨v, h1, h2.le s.le⟩
  · obtain ⟨a, vs, h1, h2, h0, h3, h4, h5⟩ := e.own i xs h
    refine ⟨a, vs, h1, s.same a _ h2 h4 (fun _ z => nomatch z), h0, ?_, fun z => ?_, h5.le s.le⟩
    · cases q : W1.Fz a with
      | none => rfl
      | some o =>
        rcases s.fzn a o q with z | z
        · rw [h3] at z
          cases z
        · exact (z.lst h2).elim
    · rcases s.phn a z with q | q
      · exact h4 q
      · exact q.lst h2
theorem env_set {α : Type} [Inhabited α] {l : List α} {i j : Nat} {x y : α} (h : (l.set i x)[j]? = some y) : (j = i ∧ y = x ∧ i < l.length) ∨ (j ≠ i ∧ l[j]? = some y) := by
  by_cases hj : j = i
  · subst hj
    have hl := (List.getElem?_eq_some_iff.mp h).1
    rw [List.length_set] at hl
    rw [List.getElem?_set_self hl] at h
    exact .inl ⟨rfl, (Option.some.inj h).symm, hl⟩
  · rw [List.getElem?_set_ne (Ne.symm hj)] at h
    exact .inr ⟨hj, h⟩
/-- a value is stored -/
theorem EnvOk.setV (e : EnvOk C H0 W H σ env) (i : Nat) {v : V} {d : D} (r : RelD C W v d) : EnvOk C H0 W H (σ.set i (some v)) (env.set i (.v d)) := by
  refine ⟨by simp [e.len], fun j d' h => ?_, fun j xs h => ?_, fun j k xs ys a h1 h2 h3 h4 => ?_, fun j h => ?_⟩
  · rcases env_set h with ⟨rfl, q, hl⟩ | ⟨hj, q⟩
    · cases q
      exact ⟨v, List.getElem?_set_self (by rw [← e.len]; exact hl), r⟩
    · rw [List.getElem?_set_ne (Ne.symm hj)]
      exact e.val j d' q
  · rcases env_set h with ⟨_, q, _⟩ | ⟨hj, q⟩
    · cases q
    · rw [List.getElem?_set_ne (Ne.symm hj)]
      exact e.own j xs q
  · rcases env_set h1 with ⟨_, q, _⟩ | ⟨hj, q1⟩
    · cases q
    · rcases env_set h2 with ⟨_, q, _⟩ | ⟨hk, q2⟩
      · cases q
      · rw [List.getElem?_set_ne (Ne.symm hj)] at h3
        rw [List.getElem?_set_ne (Ne.symm hk)] at h4
        exact e.dis j k xs ys a q1 q2 h3 h4
  · rcases env_set h with ⟨_, q, _⟩ | ⟨hj, q⟩
    · cases q
    · rw [List.getElem?_set_ne (Ne.symm hj)]
      exact e.exq j q
/-- a slot is forgotten -/
theorem EnvOk.forget (e : EnvOk C H0 W H σ env) (i : Nat) (x : Option V) : EnvOk C H0 W H (σ.set i x) (env.set i .u) := by
  refine ⟨by simp [e.len], fun j d' h => ?_, fun j xs h => ?_, fun j k xs ys a h1 h2 h3 h4 => ?_, fun j h => ?_⟩
  · rcases env_set h with ⟨_, q, _⟩ | ⟨hj, q⟩
    · cases q
    · rw [List.getElem?_set_ne (Ne.symm hj)]
      exact e.val j d' q
  · rcases env_set h with ⟨_, q, _⟩ | ⟨hj, q⟩
    · cases q
    · rw [List.getElem?_set_ne (Ne.symm hj)]
      exact e.own j xs q
  · rcases env_set h1 with ⟨_, q, _⟩ | ⟨hj, q1⟩
    · cases q
    · rcases env_set h2 with ⟨_, q, _⟩ | ⟨hk, q2⟩
      · cases q
      · rw [List.getElem?_set_ne (Ne.symm hj)] at h3
        rw [List.getElem?_set_ne (Ne.symm hk)] at h4
        exact e.dis j k xs ys a q1 q2 h3 h4
  · rcases env_set h with ⟨_, q, _⟩ | ⟨hj, q⟩
    · cases q
    · rw [List.getElem?_set_ne (Ne.symm hj)]
      exact e.exq j q
/-- a new own list -/
theorem EnvOk.setO (e : EnvOk C H0 W H σ env) (i : Nat) {a : Addr} {vs : List V} {xs : List D} (hn : ∀ (j : Nat) (ys : List D), env[j]? = some (.o ys) → σ[j]? ≠ some (some (V.ref a))) (h2 : H a = some (.lst vs)) (h0 : Fr H0 a) (h3 : W.Fz a = none) (h4 : a ∉ W.φ) (r : RelDs C W vs xs) :
    EnvOk C H0 W H (σ.set i (some (.ref a))) (env.set i (.o xs)) := by
  refine ⟨by simp [e.len], fun j d' h => ?_, fun j ys h => ?_, fun j k us ys b h1 h2' h3' h4' => ?_, fun j h => ?_⟩
  · rcases env_set h with ⟨_, q, _⟩ | ⟨hj, q⟩
    · cases q
    · rw [List.getElem?_set_ne (Ne.symm hj)]
      exact e.val j d' q
  · rcases env_set h with ⟨rfl, q, hl⟩ | ⟨hj, q⟩
    · cases q
      exact ⟨a, vs, List.getElem?_set_self (by rw [← e.len]; exact hl), h2, h0, h3, h4, r⟩
    · rw [List.getElem?_set_ne (Ne.symm hj)]
      exact e.own j ys q
  · rcases env_set h1 with ⟨rfl, q, hl⟩ | ⟨hj, q1⟩
    · rcases env_set h2' with ⟨rfl, q', _⟩ | ⟨hk, q2⟩
      · rfl
      · rw [List.getElem?_set_self (by rw [← e.len]; exact hl)] at h3'
        rw [List.getElem?_set_ne (Ne.symm hk)] at h4'
        cases h3'
        exact absurd h4' (hn k ys q2)
    · rcases env_set h2' with ⟨rfl, q', hl⟩ | ⟨hk, q2⟩
      · rw [List.getElem?_set_self (by rw [← e.len]; exact hl)] at h4'
        rw [List.getElem?_set_ne (Ne.symm hj)] at h3'
        cases h4'
        exact absurd h3' (hn j us q1)
      · rw [List.getElem?_set_ne (Ne.symm hj)] at h3'
        rw [List.getElem?_set_ne (Ne.symm hk)] at h4'
        exact e.dis j k us ys b q1 q2 h3' h4'
  · rcases env_set h with ⟨_, q, _⟩ | ⟨hj, q⟩
    · cases q
    · rw [List.getElem?_set_ne (Ne.symm hj)]
      exact e.exq j q
/-- the own list of slot i is written -/
theorem EnvOk.put (e : EnvOk C H0 W H σ env) {i : Nat} {a : Addr} {us : List D} {vs : List V} {xs : List D} (hi : env[i]? = some (.o us)) (hs : σ[i]? = some (some (.ref a))) (r : RelDs C W vs xs) :
    EnvOk C H0 W (upd H a (.lst vs)) σ (env.set i (.o xs)) := by
  refine ⟨by simp [e.len], fun j d' h => ?_, fun j ys h => ?_, fun j k us' ys b h1 h2' h3' h4' => ?_, fun j h => ?_⟩
  · rcases env_set h with ⟨_, q, _⟩ | ⟨hj, q⟩
    · cases q
    · exact e.val j d' q
  · rcases env_set h with ⟨rfl, q, hl⟩ | ⟨hj, q⟩
    · cases q
      obtain ⟨a', vs', h1, h2, h0, h3, h4, h5⟩ := e.own j us hi
      rw [hs] at h1
      cases h1
      exact ⟨a, vs, hs, upd_same, h0, h3, h4, r⟩
    · obtain ⟨a', vs', h1, h2, h0, h3, h4, h5⟩ := e.own j ys q
      have hne : a' ≠ a := fun z => by
        subst z
        exact hj (e.dis j i ys us a' q hi h1 hs)
      exact ⟨a', vs', h1, by rw [upd_ne hne]; exact h2, h0, h3, h4, h5⟩
  · have g1 : ∃ z, env[j]? = some (.o z) := by
      rcases env_set h1 with ⟨rfl, _, _⟩ | ⟨_, q⟩
      · exact ⟨_, hi⟩
      · exact ⟨_, q⟩
    have g2 : ∃ z, env[k]? = some (.o z) := by
      rcases env_set h2' with ⟨rfl, _, _⟩ | ⟨_, q⟩
      · exact ⟨_, hi⟩
      · exact ⟨_, q⟩
    obtain ⟨z1, q1⟩ := g1
    obtain ⟨z2, q2⟩ := g2
    exact e.dis j k z1 z2 b q1 q2 h3' h4'
  · rcases env_set h with ⟨_, q, _⟩ | ⟨hj, q⟩
    · cases q
    · exact e.exq j q
/-- .. is frozen -/
theorem EnvOk.frz (e : EnvOk C H0 W H σ env) {i : Nat} {us : List D} (hi : env[i]? = some (.o us)) : ∃ a vs, H a = some (.lst vs) ∧ Fr H0 a ∧ W.Fz a = none ∧ a ∉ W.φ ∧ EnvOk C H0 (W.fr a (.lst vs)) H σ (env.set i (.v (.lst us))) := by
  obtain ⟨a, vs, h1, h2, h0, h3, h4, h5⟩ := e.own i us hi
  have l := Le.fr W (.lst vs) h3
  refine ⟨a, vs, h2, h0, h3, h4, by simp [e.len], fun j d' h => ?_, fun j ys h => ?_, fun j k us' ys b g1 g2 g3 g4 => ?_, fun j h => ?_⟩
  · rcases env_set h with ⟨rfl, q, hl⟩ | ⟨hj, q⟩
    · cases q
      refine ⟨_, h1, .lst ?_ (h5.le l)⟩
      show upd W.Fz a (.lst vs) a = _
      exact upd_same
    · obtain ⟨v, q1, q2⟩ := e.val j d' q
      exact ⟨v, q1, q2.le l⟩
  · rcases env_set h with ⟨_, q, _⟩ | ⟨hj, q⟩
    · cases q
    · obtain ⟨a', vs', k1, k2, k0, k3, k4, k5⟩ := e.own j ys q
      have hne : a' ≠ a := fun z => by
        subst z
        exact hj (e.dis j i ys us a' q hi k1 h1)
      refine ⟨a', vs', k1, k2, k0, ?_, k4, k5.le l⟩
      show upd W.Fz a (.lst vs) a' = none
      rw [upd_ne hne]
      exact k3
  · rcases env_set g1 with ⟨_, q, _⟩ | ⟨_, q1⟩
    · cases q
    · rcases env_set g2 with ⟨_, q, _⟩ | ⟨_, q2⟩
      · cases q
      · exact e.dis j k us' ys b q1 q2 g3 g4
  · rcases env_set h with ⟨_, q, _⟩ | ⟨hj, q⟩
    · cases q
    · exact e.exq j q
end
end PV

set_option autoImplicit false
set_option Elab.async false
set_option linter.all false
set_option maxRecDepth 100000
set_option maxHeartbeats 4000000
/-! PV2: readings by denotations; the rules of expressions. -/
namespace PV
open PySem PySem.Spec PyProof.Rows L2

def RelX (C : Cn) (W : Gw) (H : Hp) (x : Exn) (cls : Value) (dx : Option Addr) : Prop :=
  cls = .ref (C.ca x.cls) ∧ match x.arg with
    | none => dx = none
    | some (f, d) => ∃ e v, dx = some e ∧ H e = some (.xd [(f, v)]) ∧ RelD C W v d

/-- behind r: what is wanted holds -/
def Aft {α β : Type} (C : Cn) (Wx : WX) (Rel : Gw → β → α → Prop) (W : Gw) (H : Hp) (σ : L2.St) (r : R α) (Q : β → Hp → Prop) : Prop :=
  match r with
  | .ok a S' => ∀ W' H' b, Step W H W' H' → WOk C W' S' H' → Rel W' b a → Q b H'
  | .er x S' => ∀ W' H' cls dx, Step W H W' H' → WOk C W' S' H' → RelX C W' H' x cls dx → Wx cls dx σ H'
  | .no => False
section
variable {α β γ δ : Type} {C : Cn} {Wx : WX} {Rel : Gw → β → α → Prop} {Rel2 : Gw → δ → γ → Prop} {W W1 : Gw} {S S1 : Sto} {H H1 : Hp} {σ : L2.St}
theorem Aft.imp {r : R α} {Q Q' : β → Hp → Prop} (h : Aft C Wx Rel W H σ r Q) (q : ∀ b H', Q b H' → Q' b H') : Aft C Wx Rel W H σ r Q' := by
  cases r with
  | ok a S' => exact fun W' H' b s k r => q _ _ (h W' H' b s k r)
  | er x S' => exact h
  | no => exact h
theorem Aft.step {r : R α} {Q : β → Hp → Prop} (h : Aft C Wx Rel W H σ r Q) (s : Step W H W1 H1) (k : WOk C W1 S1 H1) : Aft C Wx Rel W1 H1 σ r Q := by
  cases r with
  | ok a S' => exact fun W' H' b s' k' r => h W' H' b (s.trans k s') k' r
  | er x S' => exact fun W' H' c d s' k' r => h W' H' c d (s.trans k s') k' r
  | no => exact h
/-- one after the other -/
theorem Aft.bind {r : R α} {f : α → Sto → R γ} {Q : δ → Hp → Prop} (h : Aft C Wx Rel2 W H σ (r.bind f) Q) :
    Aft C Wx Rel W H σ r fun b H1 => ∃ W1 S1 a, Step W H W1 H1 ∧ WOk C W1 S1 H1 ∧ Rel W1 b a ∧ Aft C Wx Rel2 W1 H1 σ (f a S1) Q := by
  cases r with
  | ok a S' =>
    have h' : Aft C Wx Rel2 W H σ (f a S') Q := h
    exact fun W' H' b s k r => ⟨W', S', a, s, k, r, h'.step s k⟩
  | er x S' => exact h
  | no => exact h
/-- what the store alone gives -/
theorem Aft.ok {a : α} {Q : β → Hp → Prop} (h : Aft C Wx Rel W H σ (.ok a S) Q) (k : WOk C W S H) {b : β} (r : Rel W b a) : Q b H := h W H b (Step.refl W H) k r
end

/-- a reading by a denotation -/
def tG {α β : Type} (C : Cn) (Wx : WX) (Rel : Gw → β → α → Prop) (m : Env → Sto → R α) : L2.St → Hp → (β → Hp → Prop) → Prop := fun σ H Q =>
  ∃ H0 W env S, EnvOk C H0 W H σ env ∧ WOk C W S H ∧ Aft C Wx Rel W H σ (m env S) Q
abbrev tE (C : Cn) (Wx : WX) (m : ME) : TE := tG C Wx (RelD C) m
abbrev tA (C : Cn) (Wx : WX) (m : MA) : TA := tG C Wx (RelDs C) m
abbrev tT (C : Cn) (Wx : WX) (m : MT) : TT := tG C Wx (fun _ (b c : Bool) => b = c) m
theorem tG.imp {α β : Type} {C : Cn} {Wx : WX} {Rel : Gw → β → α → Prop} {m : Env → Sto → R α} {σ : L2.St} {H : Hp} {Q Q' : β → Hp → Prop} (h : tG C Wx Rel m σ H Q) (q : ∀ b H', Q b H' → Q' b H') : tG C Wx Rel m σ H Q' := by
  obtain ⟨H0, W, env, S, e, k, h⟩ := h
  exact ⟨H0, W, env, S, e, k, h.imp q⟩
/-- m, then what follows -/
theorem tG.seq {α β γ δ : Type} {C : Cn} {Wx : WX} {Rel : Gw → β → α → Prop} {Rel2 : Gw → δ → γ → Prop} {m : Env → Sto → R α} {f : Env → α → Sto → R γ} {σ : L2.St} {H : Hp} {Q : δ → Hp → Prop}
    (h : tG C Wx Rel2 (fun env S => (m env S).bind fun a S1 => f env a S1) σ H Q) :
    tG C Wx Rel m σ H fun b H1 => ∃ H0 W1 env S1 a, EnvOk C H0 W1 H1 σ env ∧ WOk C W1 S1 H1 ∧ Rel W1 b a ∧ Aft C Wx Rel2 W1 H1 σ (f env a S1) Q := by
  obtain ⟨H0, W, env, S, e, k, h⟩ := h
  exact ⟨H0, W, env, S, e, k, h.bind.imp fun b H1 ⟨W1, S1, a, s, k1, r, q⟩ => ⟨H0, W1, env, S1, a, e.step s, k1, r, q⟩⟩

section
variable {X : Cx}
theorem _root_.L2.PE.imp {e : Expr} {t t' : TE} (h : PE X e t) (i : ∀ σ H Q, t' σ H Q → t σ H Q) : PE X e t' := ⟨fun pins s σ H Q I q => h.run pins s σ H Q I (i _ _ _ q)⟩
theorem _root_.L2.PT.imp {e : Expr} {t t' : TT} (h : PT X e t) (i : ∀ σ H Q, t' σ H Q → t σ H Q) : PT X e t' := ⟨fun pins s σ H Q I q => h.run pins s σ H Q I (i _ _ _ q)⟩
theorem _root_.L2.PW.imp {e : Expr} {t t' : TT} (h : PW X e t) (i : ∀ σ H Q, t' σ H Q → t σ H Q) : PW X e t' := ⟨fun wh pins s σ H Q I q => h.run wh pins s σ H Q I (i _ _ _ q)⟩
theorem _root_.L2.PA.imp {es : List Expr} {t t' : TA} (h : PA X es t) (i : ∀ σ H Q, t' σ H Q → t σ H Q) : PA X es t' := ⟨fun pos pins s σ H Q I q => h.run pos pins s σ H Q I (i _ _ _ q)⟩
theorem _root_.L2.PS.imp {st : Stmt} {t t' : TS} (h : PS X st t) (i : ∀ D σ H, t' D σ H → t D σ H) : PS X st t' := ⟨fun pins s σ H D I q => h.run pins s σ H D I (i _ _ _ q)⟩
theorem _root_.L2.PSs.imp {st : List Stmt} {t t' : TS} (h : PSs X st t) (i : ∀ D σ H, t' D σ H → t D σ H) : PSs X st t' := ⟨fun pins s σ H D I q => h.run pins s σ H D I (i _ _ _ q)⟩
end

/-! ### denotations -/
def eVar (i : Nat) : ME := fun env S => match env[i]? with
  | some (.v d) => .ok d S
  | _ => .no
def eC (d : D) : ME := fun _ S => .ok d S
def eUn (g : D → Sto → R D) (ma : ME) : ME := fun env S => (ma env S).bind fun d S1 => g d S1
def eOp (g : D → D → Sto → R D) (ma mb : ME) : ME := fun env S => (ma env S).bind fun d S1 => (mb env S1).bind fun e S2 => g d e S2
def aNil : MA := fun _ S => .ok [] S
def aCons (ma : ME) (mr : MA) : MA := fun env S => (ma env S).bind fun d S1 => (mr env S1).bind fun ds S2 => .ok (d :: ds) S2
def eCal (g : List D → Sto → R D) (ma : MA) : ME := fun env S => (ma env S).bind fun ds S1 => g ds S1
def asB (d : D) (S : Sto) : R Bool := match d with
  | .bl b => .ok b S
  | _ => .no
def cE (m : ME) : MT := fun env S => (m env S).bind asB
def eAnd (ma mb : ME) : ME := fun env S => (ma env S).bind fun d S1 => match d with
  | .bl true => mb env S1
  | .bl false => .ok (.bl false) S1
  | _ => .no
def eOr (ma mb : ME) : ME := fun env S => (ma env S).bind fun d S1 => match d with
  | .bl true => .ok (.bl true) S1
  | .bl false => mb env S1
  | _ => .no
def notD (d : D) (S : Sto) : R D := match d with
  | .bl b => .ok (.bl (!b)) S
  | _ => .no
def eNot (ma : ME) : ME := fun env S => (ma env S).bind notD
def cAnd (ma mb : MT) : MT := fun env S => (ma env S).bind fun b S1 => if b = true then mb env S1 else .ok false S1
def cOr (ma mb : MT) : MT := fun env S => (ma env S).bind fun b S1 => if b = true then .ok true S1 else mb env S1
def cNot (ma : MT) : MT := fun env S => (ma env S).bind fun b S1 => .ok (!b) S1
def eIf (mt : MT) (ma mb : ME) : ME := fun env S => (mt env S).bind fun b S1 => if b = true then ma env S1 else mb env S1
def eChain (g g' : D → D → Sto → R D) (ma mb mc : ME) : ME := fun env S => (ma env S).bind fun d S1 => (mb env S1).bind fun e S2 => (g d e S2).bind fun r S3 => match r with
  | .bl true => (mc env S3).bind fun f S4 => g' e f S4
  | .bl false => .ok (.bl false) S3
  | _ => .no
/-- truth of a value -/
def truth (d : D) (S : Sto) : R Bool := match d with
  | .non => .ok false S
  | .bl b => .ok b S
  | .int i => .ok (i != 0) S
  | .str x => if x.length ≤ sizeLine then .ok ((x.length : Int) != 0) S else .no
  | .tup xs => .ok (!xs.isEmpty) S
  | .lst xs => .ok (!xs.isEmpty) S
  | _ => .no
def cTru (m : ME) : MT := fun env S => (m env S).bind truth

section
variable {X : Cx} {C : Cn} {Wx : WX} {pos : Pos}
theorem se_var {i : Nat} {x : Str} (hN : X.N[i]? = some x) (hv : Vis X.env.scope x) (hd : (x == ("__debug__" : Str)) = false := by decide) (hcd : (x == ("__classdict__" : Str)) = false := by decide) : PE X (.Name x pos) (tE C Wx (eVar i)) :=
  (pe_var hN hv hd hcd).imp fun σ H Q ⟨H0, W, env, S, e, k, h⟩ => by
    unfold eVar at h
    cases q : env[i]? with
    | none =>
      rw [q] at h
      exact h.elim
    | some sl =>
      rw [q] at h
      cases sl with
      | v d =>
        obtain ⟨v, h1, h2⟩ := e.val i d q
        exact ⟨v, h1, Aft.ok h k h2⟩
      | u => exact h.elim
      | p => exact h.elim
      | o xs => exact h.elim
theorem se_const {e : Expr} {v : V} {d : D} (h : PE X e (tC v)) (r : ∀ W, RelD C W v d) : PE X e (tE C Wx (eC d)) := h.imp fun σ H Q ⟨H0, W, env, S, e, k, h⟩ => Aft.ok h k (r W)
theorem se_int {i : Int} {j : Nat} : PE X (.Constant (.int i) j pos) (tE C Wx (eC (.int i))) := se_const pe_int fun _ => .int i
theorem se_bl {b : Bool} {j : Nat} : PE X (.Constant (.bool b) j pos) (tE C Wx (eC (.bl b))) := se_const pe_bl fun _ => .bl b
theorem se_non {j : Nat} : PE X (.Constant .none j pos) (tE C Wx (eC .non)) := se_const pe_non fun _ => .non
theorem se_str {x : Str} {j : Nat} : PE X (.Constant (.str x) j pos) (tE C Wx (eC (.str x))) := se_const pe_str fun _ => .str x
/-- a module's int -/
theorem se_globI {x : Str} {i : Int} (hg : Gl X x) (hm : ∃ t, X.mg x = some (.int i t)) (hd : (x == ("__debug__" : Str)) = false := by decide) : PE X (.Name x pos) (tE C Wx (eC (.int i))) := by
  obtain ⟨t, hm⟩ := hm
  exact se_const (pe_glob hg hm (v := .int i) ⟨t, rfl⟩ hd) fun _ => .int i
/-- a def as a value -/
theorem se_globF {x : Str} {i : Nat} (hg : Gl X x) (hm : X.mg x = some (.ref (C.fa i))) (hd : (x == ("__debug__" : Str)) = false := by decide) : PE X (.Name x pos) (tE C Wx (eC (.fn i))) :=
  se_const (pe_glob hg hm (v := .ref (C.fa i)) rfl hd) fun _ => .fn i

/-- a rule of two values and its function -/
def OpC (C : Cn) (r : R2) (g : D → D → Sto → R D) : Prop := ∀ (Wx : WX) (W : Gw) (S : Sto) (H : Hp) (σ : L2.St) (x y : V) (d e : D) (Q : VK), WOk C W S H → RelD C W x d → RelD C W y e → Aft C Wx (RelD C) W H σ (g d e S) Q → r x y H Q
theorem OpC.or {r r' : R2} {g g' : D → D → Sto → R D} (h : OpC C r g) (h' : OpC C r' g') (c : D → D → Bool) : OpC C (fun x y H Q => r x y H Q ∨ r' x y H Q) (fun d e S => if c d e = true then g d e S else g' d e S) := fun Wx W S H σ x y d e Q k rx ry a => by
  by_cases q : c d e = true
  · simp only [q, if_true] at a
    exact .inl (h Wx W S H σ x y d e Q k rx ry a)
  · simp only [q] at a
    exact .inr (h' Wx W S H σ x y d e Q k rx ry a)
def UnC (C : Cn) (r : V → Hp → VK → Prop) (g : D → Sto → R D) : Prop := ∀ (Wx : WX) (W : Gw) (S : Sto) (H : Hp) (σ : L2.St) (x : V) (d : D) (Q : VK), WOk C W S H → RelD C W x d → Aft C Wx (RelD C) W H σ (g d S) Q → r x H Q
def CalC (C : Cn) (r : List V → Hp → VK → Prop) (g : List D → Sto → R D) : Prop := ∀ (Wx : WX) (W : Gw) (S : Sto) (H : Hp) (σ : L2.St) (xs : List V) (ds : List D) (Q : VK), WOk C W S H → RelDs C W xs ds → Aft C Wx (RelD C) W H σ (g ds S) Q → r xs H Q
variable {a b c : Expr} {ma mb mc : ME}
theorem t_op {r : R2} {g : D → D → Sto → R D} (hc : OpC C r g) {σ : L2.St} {H : Hp} {Q : VK} (h : tE C Wx (eOp g ma mb) σ H Q) : tOp r (tE C Wx ma) (tE C Wx mb) σ H Q :=
  (tG.seq (f := fun env d S1 => (mb env S1).bind fun e S2 => g d e S2) h).imp fun x H1 ⟨H0, W1, env, S1, d, e1, k1, r1, a1⟩ =>
    ⟨H0, W1, env, S1, e1, k1, a1.bind.imp fun y H2 ⟨W2, S2, e, s2, k2, r2, a2⟩ => hc Wx W2 S2 H2 σ x y d e Q k2 (r1.le s2.le) r2 a2⟩
theorem se_op {op : Operator} {r : R2} {g : D → D → Sto → R D} (ho : OpR X (binaryOp op) r) (hc : OpC C r g) (ha : PE X a (tE C Wx ma)) (hb : PE X b (tE C Wx mb)) : PE X (.BinOp a op b pos) (tE C Wx (eOp g ma mb)) :=
  (pe_op ho ha hb).imp fun _ _ _ h => t_op hc h
theorem se_cmp {op : CmpOp} {r : R2} {g : D → D → Sto → R D} (ho : OpR X (compareOp op) r) (hc : OpC C r g) (ha : PE X a (tE C Wx ma)) (hb : PE X b (tE C Wx mb)) (hm : behindInMarks op b = false) : PE X (.Compare a [op] [b] pos) (tE C Wx (eOp g ma mb)) :=
  (pe_cmpR ho ha hb hm).imp fun _ _ _ h => t_op hc h
/-- from a value's reading to a test's -/
theorem t_test {t : TE} {m : ME} (i : ∀ σ H Q, tE C Wx m σ H Q → t σ H Q) {σ : L2.St} {H : Hp} {Q : Bool → Hp → Prop} (h : tT C Wx (cE m) σ H Q) : t σ H fun x H' => ∃ k, x = .bl k ∧ Q k H' := by
  refine i _ _ _ ((tG.seq (f := fun _ d S1 => asB d S1) h).imp fun x H1 ⟨H0, W1, env, S1, d, e1, k1, r1, a1⟩ => ?_)
  cases d with
  | bl b =>
    cases r1
    exact ⟨b, rfl, Aft.ok a1 k1 rfl⟩
  | _ => exact a1.elim
theorem st_cmp {op : CmpOp} {r : R2} {g : D → D → Sto → R D} (ho : OpR X (compareOp op) r) (hc : OpC C r g) (ha : PE X a (tE C Wx ma)) (hb : PE X b (tE C Wx mb)) (hm : behindInMarks op b = false) : PT X (.Compare a [op] [b] pos) (tT C Wx (cE (eOp g ma mb))) :=
  (pt_cmpR ho ha hb hm).imp fun _ _ _ h => t_test (fun _ _ _ h => t_op hc h) h
theorem t_chain {r r' : R2} {g g' : D → D → Sto → R D} (hc : OpC C r g) (hc' : OpC C r' g') {σ : L2.St} {H : Hp} {Q : VK} (h : tE C Wx (eChain g g' ma mb mc) σ H Q) : tChain r r' (tE C Wx ma) (tE C Wx mb) (tE C Wx mc) σ H Q := by
  refine (tG.seq (f := fun env d S1 => (mb env S1).bind fun e S2 => (g d e S2).bind fun r S3 => match r with
    | .bl true => (mc env S3).bind fun f S4 => g' e f S4
    | .bl false => .ok (.bl false) S3
    | _ => .no) h).imp fun x H1 ⟨H0, W1, env, S1, d, e1, k1, r1, a1⟩ => ?_
  refine ⟨H0, W1, env, S1, e1, k1, a1.bind.imp fun y H2 ⟨W2, S2, e, s2, k2, r2, a2⟩ => ?_⟩
  refine hc Wx W2 S2 H2 σ x y d e _ k2 (r1.le s2.le) r2 (a2.bind.imp fun z H3 ⟨W3, S3, q, s3, k3, r3, a3⟩ => ?_)
  cases q with
  | bl b =>
    cases r3
    cases b with
    | true => exact ⟨true, rfl, iteT ⟨H0, W3, env, S3, (e1.step s2).step s3, k3, a3.bind.imp fun u H4 ⟨W4, S4, f, s4, k4, r4, a4⟩ => hc' Wx W4 S4 H4 σ y u e f Q k4 ((r2.le s3.le).le s4.le) r4 a4⟩⟩
    | false => exact ⟨false, rfl, iteF (Aft.ok a3 k3 (.bl false))⟩
  | _ => exact a3.elim
end
end PV

set_option autoImplicit false
set_option Elab.async false
set_option linter.all false
set_option maxRecDepth 100000
set_option maxHeartbeats 4000000
/-! PV3: tests, displays, fresh lists, operators, built-ins. -/
namespace PV
open PySem PySem.Spec PyProof.Rows L2

/-! ### tests, and, or, not, if -/
section
variable {X : Cx} {C : Cn} {Wx : WX} {pos : Pos} {a b c : Expr} {ma mb mc : ME} {ta tb : MT} {rest : List Expr}
theorem se_chain {op op' : CmpOp} {r r' : R2} {g g' : D → D → Sto → R D} (ho : OpR X (compareOp op) r) (ho' : OpR X (compareOp op') r') (hc : OpC C r g) (hc' : OpC C r' g') (ha : PE X a (tE C Wx ma)) (hb : PE X b (tE C Wx mb)) (hcc : PE X c (tE C Wx mc))
    (hm : lastMarks [op, op'] [b, c] = false := by with_unfolding_all rfl) : PE X (.Compare a [op, op'] [b, c] pos) (tE C Wx (eChain g g' ma mb mc)) := (pe_chain ho ho' ha hb hcc hm).imp fun _ _ _ h => t_chain hc hc' h
theorem st_chain {op op' : CmpOp} {r r' : R2} {g g' : D → D → Sto → R D} (ho : OpR X (compareOp op) r) (ho' : OpR X (compareOp op') r') (hc : OpC C r g) (hc' : OpC C r' g') (ha : PE X a (tE C Wx ma)) (hb : PE X b (tE C Wx mb)) (hcc : PE X c (tE C Wx mc))
    (hm : lastMarks [op, op'] [b, c] = false := by with_unfolding_all rfl) : PT X (.Compare a [op, op'] [b, c] pos) (tT C Wx (cE (eChain g g' ma mb mc))) := (pt_chain ho ho' ha hb hcc hm).imp fun _ _ _ h => t_test (fun _ _ _ h => t_chain hc hc' h) h
/-- a value that is a bool, as a test -/
theorem st_val (h : PE X a (tE C Wx ma)) (he : ∀ whole, isTrue a X.env whole = (do let v ← whole; standAt a.pos; holding [v] (truthy v)) := by intro _; rfl) : PT X a (tT C Wx (cE ma)) :=
  (pt_val h he).imp fun _ _ _ h => t_test (fun _ _ _ h => h) h
/-- the truth of any value -/
theorem st_tru (h : PE X a (tE C Wx ma)) (he : ∀ whole, isTrue a X.env whole = (do let v ← whole; standAt a.pos; holding [v] (truthy v)) := by intro _; rfl) : PT X a (tT C Wx (cTru ma)) :=
  (pt_truth h he).imp fun σ H Q h => (tG.seq (f := fun _ d S1 => truth d S1) h).imp fun x H1 ⟨H0, W1, env, S1, d, e1, k1, r1, a1⟩ => by
    cases d with
    | non => cases r1; exact ⟨false, rfl, Aft.ok a1 k1 rfl⟩
    | bl b => cases r1; exact ⟨b, rfl, Aft.ok a1 k1 rfl⟩
    | int i => cases r1; exact ⟨_, rfl, Aft.ok a1 k1 rfl⟩
    | str z =>
      cases r1
      simp only [truth] at a1
      split at a1
      · rename_i hz
        exact ⟨_, ⟨hz, rfl⟩, Aft.ok a1 k1 rfl⟩
      · exact a1.elim
    | tup xs =>
      cases r1 with
      | tup hf hr =>
        refine ⟨_, .inr (.inl ⟨_, SqT.of (k1.fz _ _ hf), rfl⟩), Aft.ok a1 k1 ?_⟩
        cases hr <;> rfl
    | lst xs =>
      cases r1 with
      | lst hf hr =>
        refine ⟨_, .inl ⟨_, SqL.of (k1.fz _ _ hf), rfl⟩, Aft.ok a1 k1 ?_⟩
        cases hr <;> rfl
    | _ => exact a1.elim
theorem st_and1 (ha : PT X a (tT C Wx ta)) : PW X (.BoolOp .And [a] pos) (tT C Wx ta) := pw_and1 ha
theorem st_or1 (ha : PT X a (tT C Wx ta)) : PW X (.BoolOp .Or [a] pos) (tT C Wx ta) := pw_or1 ha
theorem st_and (ha : PT X a (tT C Wx ta)) (hb : PW X (.BoolOp .And (b :: rest) pos) (tT C Wx tb)) : PW X (.BoolOp .And (a :: b :: rest) pos) (tT C Wx (cAnd ta tb)) :=
  (pw_and ha hb).imp fun σ H Q h => (tG.seq (f := fun env b S1 => if b = true then tb env S1 else .ok false S1) h).imp fun x H1 ⟨H0, W1, env, S1, d, e1, k1, r1, a1⟩ => by
    subst r1
    cases x with
    | true => exact iteT ⟨H0, W1, env, S1, e1, k1, a1⟩
    | false => exact iteF (Aft.ok a1 k1 rfl)
theorem st_or (ha : PT X a (tT C Wx ta)) (hb : PW X (.BoolOp .Or (b :: rest) pos) (tT C Wx tb)) : PW X (.BoolOp .Or (a :: b :: rest) pos) (tT C Wx (cOr ta tb)) :=
  (pw_or ha hb).imp fun σ H Q h => (tG.seq (f := fun env b S1 => if b = true then .ok true S1 else tb env S1) h).imp fun x H1 ⟨H0, W1, env, S1, d, e1, k1, r1, a1⟩ => by
    subst r1
    cases x with
    | true => exact iteT (Aft.ok a1 k1 rfl)
    | false => exact iteF ⟨H0, W1, env, S1, e1, k1, a1⟩
theorem st_not (ha : PT X a (tT C Wx ta)) : PT X (.UnaryOp .Not a pos) (tT C Wx (cNot ta)) :=
  (pt_not ha).imp fun σ H Q h => (tG.seq (f := fun _ b S1 => .ok (!b) S1) h).imp fun x H1 ⟨H0, W1, env, S1, d, e1, k1, r1, a1⟩ => by
    subst r1
    exact Aft.ok a1 k1 rfl
theorem se_one {op : BoolOp} (h : PE X a (tE C Wx ma)) : PE X (.BoolOp op [a] pos) (tE C Wx ma) := pe_one h
theorem se_and (ha : PE X a (tE C Wx ma)) (hb : PE X (.BoolOp .And (b :: rest) pos) (tE C Wx mb)) : PE X (.BoolOp .And (a :: b :: rest) pos) (tE C Wx (eAnd ma mb)) :=
  (pe_and ha hb).imp fun σ H Q h => (tG.seq (f := fun env d S1 => match d with
  | .bl true => mb env S1
  | .bl false => .ok (.bl false) S1
  | _ => .no) h).imp fun x H1 ⟨H0, W1, env, S1, d, e1, k1, r1, a1⟩ => by
    cases d with
    | bl b =>
      cases r1
      cases b with
      | true => exact ⟨true, rfl, iteT ⟨H0, W1, env, S1, e1, k1, a1⟩⟩
      | false => exact ⟨false, rfl, iteF (Aft.ok a1 k1 (.bl false))⟩
    | _ => exact a1.elim
theorem se_or (ha : PE X a (tE C Wx ma)) (hb : PE X (.BoolOp .Or (b :: rest) pos) (tE C Wx mb)) : PE X (.BoolOp .Or (a :: b :: rest) pos) (tE C Wx (eOr ma mb)) :=
  (pe_or ha hb).imp fun σ H Q h => (tG.seq (f := fun env d S1 => match d with
  | .bl true => .ok (.bl true) S1
  | .bl false => mb env S1
  | _ => .no) h).imp fun x H1 ⟨H0, W1, env, S1, d, e1, k1, r1, a1⟩ => by
    cases d with
    | bl b =>
      cases r1
      cases b with
      | true => exact ⟨true, rfl, iteT (Aft.ok a1 k1 (.bl true))⟩
      | false => exact ⟨false, rfl, iteF ⟨H0, W1, env, S1, e1, k1, a1⟩⟩
    | _ => exact a1.elim
theorem se_not (ha : PE X a (tE C Wx ma)) : PE X (.UnaryOp .Not a pos) (tE C Wx (eNot ma)) :=
  (pe_not ha).imp fun σ H Q h => (tG.seq (f := fun _ d S1 => notD d S1) h).imp fun x H1 ⟨H0, W1, env, S1, d, e1, k1, r1, a1⟩ => by
    cases d with
    | bl b =>
      cases r1
      exact ⟨b, rfl, Aft.ok a1 k1 (.bl _)⟩
    | _ => exact a1.elim
/-- not of a test, as a value -/
def eNotT (m : ME) : ME := fun env S => (m env S).bind fun d S1 => (truth d S1).bind fun b S2 => .ok (.bl (!b)) S2
theorem se_if (hc : PT X c (tT C Wx ta)) (ha : PE X a (tE C Wx ma)) (hb : PE X b (tE C Wx mb)) : PE X (.IfExp c a b pos) (tE C Wx (eIf ta ma mb)) :=
  (pe_ifExp hc ha hb).imp fun σ H Q h => (tG.seq (f := fun env b S1 => if b = true then ma env S1 else mb env S1) h).imp fun x H1 ⟨H0, W1, env, S1, d, e1, k1, r1, a1⟩ => by
    subst r1
    cases x with
    | true => exact iteT ⟨H0, W1, env, S1, e1, k1, a1⟩
    | false => exact iteF ⟨H0, W1, env, S1, e1, k1, a1⟩
end

/-! ### laying down -/
section
variable {C : Cn} {W : Gw} {S : Sto} {H : Hp}
theorem lay_tup (k : WOk C W S H) {p : Addr} (hp : H p = none) {vs : List V} {ds : List D} (r : RelDs C W vs ds) :
    Step W H (W.fr p (.tup vs)) (upd H p (.tup vs)) ∧ WOk C (W.fr p (.tup vs)) S (upd H p (.tup vs)) ∧ RelD C (W.fr p (.tup vs)) (.ref p) (.tup ds) := by
  have g := grow_upd (o := .tup vs) hp
  refine ⟨(Step.grow W g).frz (.of hp) (k.noFz hp), (k.grow g).frz upd_same (k.noFz hp) (k.noPh hp) (k.frb (.of hp)), .tup ?_ (r.le (Le.fr W _ (k.noFz hp)))⟩
  show upd W.Fz p (.tup vs) p = _
  exact upd_same
theorem lay_lst (k : WOk C W S H) {p : Addr} (hp : H p = none) {vs : List V} {ds : List D} (r : RelDs C W vs ds) :
    Step W H (W.fr p (.lst vs)) (upd H p (.lst vs)) ∧ WOk C (W.fr p (.lst vs)) S (upd H p (.lst vs)) ∧ RelD C (W.fr p (.lst vs)) (.ref p) (.lst ds) := by
  have g := grow_upd (o := .lst vs) hp
  refine ⟨(Step.grow W g).frz (.of hp) (k.noFz hp), (k.grow g).frz upd_same (k.noFz hp) (k.noPh hp) (k.frb (.of hp)), .lst ?_ (r.le (Le.fr W _ (k.noFz hp)))⟩
  show upd W.Fz p (.lst vs) p = _
  exact upd_same
end

/-- behind r, that makes a list: a fresh one -/
def AftF (C : Cn) (Wx : WX) (W : Gw) (H : Hp) (σ : L2.St) (r : R (List D)) (Q : VK) : Prop :=
  match r with
  | .ok xs S' => ∀ W' H' a vs, Step W H W' H' → WOk C W' S' H' → H' a = some (.lst vs) → W'.Fz a = none → a ∉ W'.φ → Fr H a → RelDs C W' vs xs → Q (.ref a) H'
  | .er x S' => ∀ W' H' cls dx, Step W H W' H' → WOk C W' S' H' → RelX C W' H' x cls dx → Wx cls dx σ H'
  | .no => False
section
variable {C : Cn} {Wx : WX} {W W1 : Gw} {S S1 : Sto} {H H1 : Hp} {σ : L2.St}
theorem AftF.imp {r : R (List D)} {Q Q' : VK} (h : AftF C Wx W H σ r Q) (q : ∀ b H', Q b H' → Q' b H') : AftF C Wx W H σ r Q' := by
  cases r with
  | ok a S' => exact fun W' H' a vs s k h1 h2 h3 h4 h5 => q _ _ (h W' H' a vs s k h1 h2 h3 h4 h5)
  | er x S' => exact h
  | no => exact h
theorem AftF.step {r : R (List D)} {Q : VK} (h : AftF C Wx W H σ r Q) (s : Step W H W1 H1) (k : WOk C W1 S1 H1) : AftF C Wx W1 H1 σ r Q := by
  cases r with
  | ok a S' => exact fun W' H' a vs s' k' h1 h2 h3 h4 h5 => h W' H' a vs (s.trans k s') k' h1 h2 h3 (s.back k h4) h5
  | er x S' => exact fun W' H' c d s' k' r => h W' H' c d (s.trans k s') k' r
  | no => exact h
theorem AftF.bind {α β : Type} {Rel : Gw → β → α → Prop} {r : R α} {f : α → Sto → R (List D)} {Q : VK} (h : AftF C Wx W H σ (r.bind f) Q) :
    Aft C Wx Rel W H σ r fun b H1 => ∃ W1 S1 a, Step W H W1 H1 ∧ WOk C W1 S1 H1 ∧ Rel W1 b a ∧ AftF C Wx W1 H1 σ (f a S1) Q := by
  cases r with
  | ok a S' =>
    have h' : AftF C Wx W H σ (f a S') Q := h
    exact fun W' H' b s k r => ⟨W', S', a, s, k, r, h'.step s k⟩
  | er x S' => exact h
  | no => exact h
theorem AftF.new {xs : List D} {Q : VK} (h : AftF C Wx W H σ (.ok xs S) Q) (k : WOk C W S H) {vs : List V} (r : RelDs C W vs xs) : ∀ p, H p = none → Q (.ref p) (upd H p (.lst vs)) := fun p hp => by
  have g := grow_upd (o := .lst vs) hp
  exact h W _ p vs (Step.grow W g) (k.grow g) upd_same (k.noFz hp) (k.noPh hp) (.of hp) r
end
def tF (C : Cn) (Wx : WX) (m : MA) : TE := fun σ H Q => ∃ H0 W env S, EnvOk C H0 W H σ env ∧ WOk C W S H ∧ AftF C Wx W H σ (m env S) Q
theorem tF.seq {α β : Type} {C : Cn} {Wx : WX} {Rel : Gw → β → α → Prop} {m : Env → Sto → R α} {f : Env → α → Sto → R (List D)} {σ : L2.St} {H : Hp} {Q : VK}
    (h : tF C Wx (fun env S => (m env S).bind fun a S1 => f env a S1) σ H Q) :
    tG C Wx Rel m σ H fun b H1 => ∃ H0 W1 env S1 a, EnvOk C H0 W1 H1 σ env ∧ WOk C W1 S1 H1 ∧ Rel W1 b a ∧ AftF C Wx W1 H1 σ (f env a S1) Q := by
  obtain ⟨H0, W, env, S, e, k, h⟩ := h
  exact ⟨H0, W, env, S, e, k, h.bind.imp fun b H1 ⟨W1, S1, a, s, k1, r, q⟩ => ⟨H0, W1, env, S1, a, e.step s, k1, r, q⟩⟩
/-- a fresh list, frozen at once -/
def eL (m : MA) : ME := fun env S => (m env S).bind fun xs S1 => .ok (.lst xs) S1
/-- a fresh list, laid into the store -/
def eR (m : MA) : ME := fun env S => (m env S).bind fun xs S1 => .ok (.ref S1.length) (S1 ++ [xs])
section
variable {X : Cx} {C : Cn} {Wx : WX} {pos : Pos} {a b : Expr} {ma mb : ME} {m : MA} {es : List Expr}
theorem se_frz (h : PE X a (tF C Wx m)) : PE X a (tE C Wx (eL m)) := h.imp fun σ H Q ⟨H0, W, env, S, e, k, h⟩ => ⟨H0, W, env, S, e, k, by
  unfold eL at h
  cases q : m env S with
  | ok xs S' =>
    rw [q] at h
    have h' : Aft C Wx (RelD C) W H σ (.ok (.lst xs) S') Q := h
    refine fun W' H' p vs s k' h1 h2 h3 h4 r => h' (W'.fr p (.lst vs)) H' (.ref p) (s.frz h4 h2) (k'.frz h1 h2 h3 (k.frb h4)) (.lst ?_ (r.le (Le.fr W' _ h2)))
    show upd W'.Fz p (.lst vs) p = _
    exact upd_same
  | er x S' =>
    rw [q] at h
    exact h
  | no =>
    rw [q] at h
    exact h⟩
theorem se_ref (h : PE X a (tF C Wx m)) : PE X a (tE C Wx (eR m)) := h.imp fun σ H Q ⟨H0, W, env, S, e, k, h⟩ => ⟨H0, W, env, S, e, k, by
  unfold eR at h
  cases q : m env S with
  | ok xs S' =>
    rw [q] at h
    have h' : Aft C Wx (RelD C) W H σ (.ok (.ref S'.length) (S' ++ [xs])) Q := h
    refine fun W' H' p vs s k' h1 h2 h3 h4 r => h' (W'.st p) H' (.ref p) (s.new h4) (k'.new h1 h2 h3 (k.frb h4) r) (.ref ?_)
    show (W'.φ ++ [p])[S'.length]? = some p
    have hl := k'.len
    rw [List.getElem?_append_right (by omega), show S'.length - W'.φ.length = 0 by omega]
    rfl
  | er x S' =>
    rw [q] at h
    exact h
  | no =>
    rw [q] at h
    exact h⟩
/-! ### arguments, displays -/
theorem sa_nil : PA X [] (tA C Wx aNil) := pa_nil.imp fun σ H Q ⟨H0, W, env, S, e, k, h⟩ => Aft.ok h k .nil
theorem sa_cons {mr : MA} (ha : PE X a (tE C Wx ma)) (hr : PA X es (tA C Wx mr)) (hs : starEach (a :: es) X.env = (false, eval a X.env) :: starEach es X.env := by rfl) : PA X (a :: es) (tA C Wx (aCons ma mr)) :=
  (pa_cons ha hr hs).imp fun σ H Q h => (tG.seq (f := fun env d S1 => (mr env S1).bind fun ds S2 => .ok (d :: ds) S2) h).imp fun x H1 ⟨H0, W1, env, S1, d, e1, k1, r1, a1⟩ =>
    ⟨H0, W1, env, S1, e1, k1, a1.bind.imp fun xs H2 ⟨W2, S2, ds, s2, k2, r2, a2⟩ => Aft.ok a2 k2 (.cons (r1.le s2.le) r2)⟩
def kTup (ds : List D) (S : Sto) : R D := if ds.length ≤ sizeLine then .ok (.tup ds) S else .no
def eTup (m : MA) : ME := fun env S => (m env S).bind kTup
theorem se_tup {x1 : _} (h : PA X es (tA C Wx m)) : PE X (.Tuple es x1 pos) (tE C Wx (eTup m)) :=
  (pe_tup h).imp fun σ H Q h => (tG.seq (f := fun _ ds S1 => kTup ds S1) h).imp fun xs H1 ⟨H0, W1, env, S1, ds, e1, k1, r1, a1⟩ => by
    simp only [kTup] at a1
    split at a1
    · rename_i hz
      refine ⟨by rw [r1.length]; exact hz, fun p hp => ?_⟩
      obtain ⟨s, k, r⟩ := lay_tup k1 hp r1
      exact a1 _ _ _ s k r
    · exact a1.elim
def kLst (ds : List D) (S : Sto) : R (List D) := if ds.length ≤ sizeLine then .ok ds S else .no
def fLst (m : MA) : MA := fun env S => (m env S).bind kLst
theorem sf_lst (h : PA X es (tA C Wx m)) : PE X (.List es pos) (tF C Wx (fLst m)) :=
  (pe_lst h).imp fun σ H Q h => (tF.seq (f := fun _ ds S1 => kLst ds S1) h).imp fun xs H1 ⟨H0, W1, env, S1, ds, e1, k1, r1, a1⟩ => by
    simp only [kLst] at a1
    split at a1
    · rename_i hz
      exact ⟨by rw [r1.length]; exact hz, a1.new k1 r1⟩
    · exact a1.elim
end
end PV

set_option autoImplicit false
set_option Elab.async false
set_option linter.all false
set_option maxRecDepth 100000
set_option maxHeartbeats 4000000
/-! PV4: operators and built-ins on data. -/
namespace PV
open PySem PySem.Spec PyProof.Rows L2

/-! ### data for == -/
mutual
def toP : D → PyData
  | .non => .none
  | .bl b => .bool b
  | .int i => .int i
  | .str x => .str x
  | .tup xs => .tuple (toPs xs)
  | .lst xs => .list (toPs xs)
  | .scr _ => .none
  | .ref _ => .none
  | .fn _ => .none
def toPs : List D → List PyData
  | [] => []
  | x :: xs => toP x :: toPs xs
end
mutual
/-- data of depth at most n -/
def good : Nat → D → Bool
  | _, .non => true
  | _, .bl _ => true
  | _, .int _ => true
  | _, .str x => PySem.PyData.strOk x
  | n + 1, .tup xs => goods n xs
  | n + 1, .lst xs => goods n xs
  | _, _ => false
def goods : Nat → List D → Bool
  | _, [] => true
  | n, x :: xs => good n x && goods n xs
end
section
variable {C : Cn} {W : Gw} {S : Sto} {H : Hp}
mutual
theorem dp_of (k : ∀ a o, W.Fz a = some o → H a = some o) : ∀ (n : Nat) {v : V} {d : D}, good n d = true → RelD C W v d → Dp C.K H v (toP d)
  | _, _, _, _, .non => by rw [toP]; exact .non
  | _, _, _, _, .bl b => by rw [toP]; exact .bl b
  | _, _, _, _, .int i => by rw [toP]; exact .int i
  | _, _, _, _, .str x => by rw [toP]; exact .str x
  | n + 1, _, _, g, .tup h r => by
    rw [toP]
    rw [good] at g
    exact .tup (SqT.of (k _ _ h)) (dps_of k n g r)
  | n + 1, _, _, g, .lst h r => by
    rw [toP]
    rw [good] at g
    exact .lst (SqL.of (k _ _ h)) (dps_of k n g r)
  | 0, _, _, g, .tup h r => by simp [good] at g
  | 0, _, _, g, .lst h r => by simp [good] at g
  | _, _, _, g, .scr _ => by simp [good] at g
  | _, _, _, g, .ref _ => by simp [good] at g
  | _, _, _, g, .fn _ => by simp [good] at g
theorem dps_of (k : ∀ a o, W.Fz a = some o → H a = some o) : ∀ (n : Nat) {vs : List V} {ds : List D}, goods n ds = true → RelDs C W vs ds → DpAll C.K H vs (toPs ds)
  | _, _, _, _, .nil => by rw [toPs]; exact .nil
  | n, _, _, g, .cons r t => by
    rw [toPs]
    rw [goods, Bool.and_eq_true] at g
    exact .cons (dp_of k n g.1 r) (dps_of k n g.2 t)
end
mutual
theorem lay_of : ∀ (n : Nat) (d : D), good n d = true → (toP d).canLay0 = true ∧ (toP d).depth ≤ n
  | _, .non, _ => by simp [toP, PyData.canLay0, PyData.depth]
  | _, .bl _, _ => by simp [toP, PyData.canLay0, PyData.depth]
  | _, .int _, _ => by simp [toP, PyData.canLay0, PyData.depth]
  | _, .str x, g => by
    rw [good] at g
    simp [toP, PyData.canLay0, PyData.depth]
    exact g
  | n + 1, .tup xs, g => by
    rw [good] at g
    obtain ⟨h1, h2⟩ := lays_of n xs g
    simp [toP, PyData.canLay0, PyData.depth]
    exact ⟨h1, h2⟩
  | n + 1, .lst xs, g => by
    rw [good] at g
    obtain ⟨h1, h2⟩ := lays_of n xs g
    simp [toP, PyData.canLay0, PyData.depth]
    exact ⟨h1, h2⟩
  | 0, .tup _, g => by simp [good] at g
  | 0, .lst _, g => by simp [good] at g
  | _, .scr _, g => by simp [good] at g
  | _, .ref _, g => by simp [good] at g
  | _, .fn _, g => by simp [good] at g
theorem lays_of : ∀ (n : Nat) (ds : List D), goods n ds = true → PyData.canLayAll0 (toPs ds) = true ∧ PyData.depthAll (toPs ds) ≤ n
  | _, [], _ => by simp [toPs, PyData.canLayAll0, PyData.depthAll]
  | n, x :: xs, g => by
    rw [goods, Bool.and_eq_true] at g
    obtain ⟨h1, h2⟩ := lay_of n x g.1
    obtain ⟨h3, h4⟩ := lays_of n xs g.2
    simp [toPs, PyData.canLayAll0, PyData.depthAll, h1, h3]
    omega
end
theorem shaped_of {n : Nat} {d : D} (g : good n d = true) (h : n ≤ 64) : SeqAt.shaped (toP d) = true := by
  obtain ⟨h1, h2⟩ := lay_of n d g
  unfold SeqAt.shaped
  rw [h1]
  exact Bool.and_eq_true_iff.mpr ⟨rfl, decide_eq_true (by omega)⟩
end
/-- equality as Python has it -/
def deq (d e : D) : Bool := PyData.eqv (toP d) (toP e)
def gEq (d e : D) (S : Sto) : R D := if (good 60 d && good 60 e) = true then .ok (.bl (deq d e)) S else .no
def gNe (d e : D) (S : Sto) : R D := if (good 60 d && good 60 e) = true then .ok (.bl (!deq d e)) S else .no
theorem toPs_map : ∀ ds : List D, toPs ds = ds.map toP
  | [] => by rw [toPs]; rfl
  | d :: ds => by rw [toPs, toPs_map ds]; rfl
def flatD : D → Bool
  | .non => true
  | .bl _ => true
  | .int _ => true
  | .str _ => true
  | _ => false
theorem flat_of {C : Cn} {W : Gw} {v : V} {d : D} (r : RelD C W v d) (f : flatD d = true) : flatV v = true := by cases r <;> first | rfl | simp [flatD] at f
theorem flats_of {C : Cn} {W : Gw} : ∀ {vs : List V} {ds : List D}, RelDs C W vs ds → ds.all flatD = true → vs.all flatV = true
  | _, _, .nil, _ => rfl
  | _, _, .cons r t, f => by
    rw [List.all_cons, Bool.and_eq_true] at f
    rw [List.all_cons, flat_of r f.1, flats_of t f.2]
    rfl
theorem eqV_of {C : Cn} {W : Gw} {v u : V} {d e : D} (r : RelD C W v d) (q : RelD C W u e) (f : flatD d = true) (g : flatD e = true) : eqV v u = deq d e := by
  cases r <;> first | (simp [flatD] at f; done) | (cases q <;> first | (simp [flatD] at g; done) | simp [eqV, deq, toP, PyData.eqv])
theorem anyV_of {C : Cn} {W : Gw} {u : V} {e : D} (q : RelD C W u e) (g : flatD e = true) : ∀ {vs : List V} {ds : List D}, RelDs C W vs ds → ds.all flatD = true → (vs.any fun y => eqV y u) = ds.any fun z => deq z e
  | _, _, .nil, _ => rfl
  | _, _, .cons r t, f => by
    rw [List.all_cons, Bool.and_eq_true] at f
    rw [List.any_cons, List.any_cons, eqV_of r q f.1 g, anyV_of q g t f.2]
def inD (d e : D) : Option Bool := match e with
  | .lst ds => if (good 59 d && goods 59 ds) = true then some (ds.any fun z => deq z d) else none
  | .tup ds => if (flatD d && ds.all flatD) = true then some (ds.any fun z => deq z d) else none
  | _ => none
def gIn (d e : D) (S : Sto) : R D := match inD d e with
  | some b => .ok (.bl b) S
  | none => .no
def gNotIn (d e : D) (S : Sto) : R D := match inD d e with
  | some b => .ok (.bl (!b)) S
  | none => .no

/-! ### ints -/
def mulOk (i j : Int) : Bool := decide (i.natAbs < 2 ^ 64) || decide (j.natAbs < 2 ^ 64) || decide (i.natAbs.log2 + j.natAbs.log2 < 1000000)
def gAdd (d e : D) (S : Sto) : R D := match d, e with
  | .int i, .int j => .ok (.int (i + j)) S
  | .str x, .str y => if x.length + y.length ≤ sizeLine then .ok (.str (x ++ y)) S else .no
  | .lst xs, .lst ys => if xs.length + ys.length ≤ sizeLine then .ok (.lst (xs ++ ys)) S else .no
  | .tup xs, .tup ys => if xs ≠ [] ∧ xs.length + ys.length ≤ sizeLine then .ok (.tup (xs ++ ys)) S else .no
  | _, _ => .no
def gDif (d e : D) (S : Sto) : R D := match d, e with
  | .int i, .int j => .ok (.int (i - j)) S
  | _, _ => .no
def gMul (d e : D) (S : Sto) : R D := match d, e with
  | .int i, .int j => if mulOk i j = true then .ok (.int (i * j)) S else .no
  | .lst xs, .int k => if -(2 ^ 63) ≤ k ∧ k < 2 ^ 63 ∧ xs.length * k.toNat ≤ sizeLine then .ok (.lst (List.replicate k.toNat xs).flatten) S else .no
  | _, _ => .no
def divOk (j : Int) : Bool := decide (0 < j) && (decide (j < 1073741824) || decide (j.natAbs.log2 < 9000))
def gDiv (d e : D) (S : Sto) : R D := match d, e with
  | .int i, .int j => if divOk j = true then .ok (.int (i / j)) S else .no
  | _, _ => .no
def gMod (d e : D) (S : Sto) : R D := match d, e with
  | .int i, .int j => if 0 < j then .ok (.int (i % j)) S else .no
  | _, _ => .no
def gPow (d e : D) (S : Sto) : R D := match d, e with
  | .int i, .int j => if 0 ≤ j ∧ j ≤ 1000000 ∧ i.natAbs < 2 ^ 64 then .ok (.int (i ^ j.toNat)) S else .no
  | _, _ => .no
def gNeg (d : D) (S : Sto) : R D := match d with
  | .int i => .ok (.int (-i)) S
  | _ => .no
def gCmp (p : Int → Int → Bool) (d e : D) (S : Sto) : R D := match d, e with
  | .int i, .int j => .ok (.bl (p i j)) S
  | _, _ => .no
abbrev gLt := gCmp fun i j => decide (i < j)
abbrev gLe := gCmp fun i j => decide (i ≤ j)
abbrev gGt := gCmp fun i j => decide (j < i)
abbrev gGe := gCmp fun i j => decide (j ≤ i)
def isNon : D → Bool
  | .non => true
  | _ => false
def gIsN (d e : D) (S : Sto) : R D := match e with
  | .non => .ok (.bl (isNon d)) S
  | _ => .no
def gNotN (d e : D) (S : Sto) : R D := match e with
  | .non => .ok (.bl (!isNon d)) S
  | _ => .no
/-! ### items -/
def gIx (d e : D) (S : Sto) : R D := match d, e with
  | .lst xs, .int i => (match atI xs i with
    | some z => .ok z S
    | none => .no)
  | .tup xs, .int i => (match atI xs i with
    | some z => .ok z S
    | none => .no)
  | .scr ns, .int i => (match atI ns i with
    | some z => .ok (.int z) S
    | none => .no)
  | .str x, .int i => if x.length ≤ sizeLine then (match atI x.cps.toList i with
    | some c => .ok (.str ⟨#[c]⟩) S
    | none => .no) else .no
  | .ref n, .int i => (match S[n]? with
    | some xs => (match atI xs i with
      | some z => .ok z S
      | none => .no)
    | none => .no)
  | _, _ => .no

section
variable {X : Cx} {C : Cn} {Wx : WX}
theorem pure_ok {W : Gw} {S : Sto} {H : Hp} {σ : L2.St} {Q : VK} {v : V} {d : D} (k : WOk C W S H) (a : Aft C Wx (RelD C) W H σ (.ok d S) Q) (r : RelD C W v d) : Q v H := Aft.ok a k r
theorem oc_add {K : PySem.W.Frag} : OpC C (fun x y H Q => rI0 (fun i j => .int (i + j)) x y H Q ∨ (∃ i j, x = .str i ∧ y = .str j ∧ i.length + j.length ≤ sizeLine ∧ Q (.str (i ++ j)) H) ∨ rCat x y H Q ∨ rCatT K x y H Q) gAdd := by
  intro Wx W S H σ x y d e Q k rx ry a
  cases rx with
  | int i => cases ry with
    | int j => exact .inl ⟨i, j, rfl, rfl, Aft.ok a k (.int _)⟩
    | _ => exact a.elim
  | str i => cases ry with
    | str j =>
      simp only [gAdd] at a
      split at a
      · rename_i hz
        exact .inr (.inl ⟨i, j, rfl, rfl, hz, Aft.ok a k (.str _)⟩)
      · exact a.elim
    | _ => exact a.elim
  | lst h r => cases ry with
    | lst h' r' =>
      simp only [gAdd] at a
      split at a
      · rename_i hz
        refine .inr (.inr (.inl ⟨_, _, _, _, rfl, rfl, k.fz _ _ h, k.fz _ _ h', by rw [r.length, r'.length]; exact hz, fun p hp => ?_⟩))
        obtain ⟨s, k', q⟩ := lay_lst k hp (r.append r')
        exact a _ _ _ s k' q
      · exact a.elim
    | _ => exact a.elim
  | tup h r => cases ry with
    | tup h' r' =>
      simp only [gAdd] at a
      split at a
      · rename_i hz
        refine .inr (.inr (.inr ⟨_, _, _, _, rfl, rfl, SqT.of (k.fz _ _ h), SqT.of (k.fz _ _ h'), fun z => ?_, by rw [r.length, r'.length]; exact hz.2, fun z => ?_, fun _ p hp => ?_⟩))
        · subst z
          cases r
          exact hz.1 rfl
        · subst z
          cases r'
          rw [List.append_nil] at a
          exact Aft.ok a k (.tup h r)
        · obtain ⟨s, k', q⟩ := lay_tup k hp (r.append r')
          exact a _ _ _ s k' q
      · exact a.elim
    | _ => exact a.elim
  | _ => exact a.elim
theorem or_add : OpR X (binaryOp .Add) (fun x y H Q => rI0 (fun i j => .int (i + j)) x y H Q ∨ (∃ i j, x = .str i ∧ y = .str j ∧ i.length + j.length ≤ sizeLine ∧ Q (.str (i ++ j)) H) ∨ rCat x y H Q ∨ rCatT X.K x y H Q) := op_add.or (op_add_str.or (op_cat.or op_catT))
theorem oc_sub : OpC C (rI0 fun i j => .int (i - j)) gDif := by
  intro Wx W S H σ x y d e Q k rx ry a
  cases rx with
  | int i => cases ry with
    | int j => exact ⟨i, j, rfl, rfl, Aft.ok a k (.int _)⟩
    | _ => exact a.elim
  | _ => exact a.elim
theorem oc_mul : OpC C (fun x y H Q => rI CMul (fun i j => .int (i * j)) x y H Q ∨ rI CMulW (fun i j => .int (i * j)) x y H Q ∨ rRep x y H Q) gMul := by
  intro Wx W S H σ x y d e Q k rx ry a
  cases rx with
  | int i => cases ry with
    | int j =>
      simp only [gMul] at a
      split at a
      · rename_i hz
        simp only [mulOk, Bool.or_eq_true, decide_eq_true_eq] at hz
        rcases hz with (hz | hz) | hz
        · exact .inl ⟨i, j, rfl, rfl, .inl (by omega), Aft.ok a k (.int _)⟩
        · exact .inl ⟨i, j, rfl, rfl, .inr (by omega), Aft.ok a k (.int _)⟩
        · exact .inr (.inl ⟨i, j, rfl, rfl, hz, Aft.ok a k (.int _)⟩)
      · exact a.elim
    | _ => exact a.elim
  | lst h r => cases ry with
    | int j =>
      simp only [gMul] at a
      split at a
      · rename_i hz
        refine .inr (.inr ⟨_, j, _, rfl, rfl, k.fz _ _ h, hz.1, hz.2.1, by rw [r.length]; exact hz.2.2, fun p hp => ?_⟩)
        obtain ⟨s, k', q⟩ := lay_lst k hp (r.rep j.toNat)
        exact a _ _ _ s k' q
      · exact a.elim
    | _ => exact a.elim
  | _ => exact a.elim
theorem or_mul : OpR X (binaryOp .Mult) (fun x y H Q => rI CMul (fun i j => .int (i * j)) x y H Q ∨ rI CMulW (fun i j => .int (i * j)) x y H Q ∨ rRep x y H Q) := op_mul.or (op_mulW.or op_rep)
theorem oc_div : OpC C (fun x y H Q => rI CDiv (fun i j => .int (i / j)) x y H Q ∨ rI CDivW (fun i j => .int (i / j)) x y H Q) gDiv := by
  intro Wx W S H σ x y d e Q k rx ry a
  cases rx with
  | int i => cases ry with
    | int j =>
      simp only [gDiv] at a
      split at a
      · rename_i hz
        simp only [divOk, Bool.and_eq_true, Bool.or_eq_true, decide_eq_true_eq] at hz
        rcases hz with ⟨h0, hz | hz⟩
        · exact .inl ⟨i, j, rfl, rfl, ⟨h0, hz⟩, Aft.ok a k (.int _)⟩
        · exact .inr ⟨i, j, rfl, rfl, ⟨h0, hz⟩, Aft.ok a k (.int _)⟩
      · exact a.elim
    | _ => exact a.elim
  | _ => exact a.elim
theorem or_div : OpR X (binaryOp .FloorDiv) (fun x y H Q => rI CDiv (fun i j => .int (i / j)) x y H Q ∨ rI CDivW (fun i j => .int (i / j)) x y H Q) := op_fdiv.or op_fdivW
theorem oc_mod : OpC C (rI (fun _ j => 0 < j) fun i j => .int (i % j)) gMod := by
  intro Wx W S H σ x y d e Q k rx ry a
  cases rx with
  | int i => cases ry with
    | int j =>
      simp only [gMod] at a
      split at a
      · rename_i hz
        exact ⟨i, j, rfl, rfl, hz, Aft.ok a k (.int _)⟩
      · exact a.elim
    | _ => exact a.elim
  | _ => exact a.elim
theorem oc_pow : OpC C (rI CPow fun i j => .int (i ^ j.toNat)) gPow := by
  intro Wx W S H σ x y d e Q k rx ry a
  cases rx with
  | int i => cases ry with
    | int j =>
      simp only [gPow] at a
      split at a
      · rename_i hz
        exact ⟨i, j, rfl, rfl, hz, Aft.ok a k (.int _)⟩
      · exact a.elim
    | _ => exact a.elim
  | _ => exact a.elim
theorem oc_cmp {p : Int → Int → Bool} : OpC C (rI0 fun i j => .bl (p i j)) (gCmp p) := by
  intro Wx W S H σ x y d e Q k rx ry a
  cases rx with
  | int i => cases ry with
    | int j => exact ⟨i, j, rfl, rfl, Aft.ok a k (.bl _)⟩
    | _ => exact a.elim
  | _ => exact a.elim
theorem oc_isN : OpC C (fun x y H Q => y = .non ∧ Q (.bl (decide (x = .non))) H) gIsN := by
  intro Wx W S H σ x y d e Q k rx ry a
  cases ry with
  | non =>
    refine ⟨rfl, ?_⟩
    have hb : decide (x = V.non) = isNon d := by cases rx <;> simp [isNon]
    rw [hb]
    exact Aft.ok a k (.bl _)
  | _ => exact a.elim
theorem oc_notN : OpC C (fun x y H Q => y = .non ∧ Q (.bl (!decide (x = .non))) H) gNotN := by
  intro Wx W S H σ x y d e Q k rx ry a
  cases ry with
  | non =>
    refine ⟨rfl, ?_⟩
    have hb : decide (x = V.non) = isNon d := by cases rx <;> simp [isNon]
    rw [hb]
    exact Aft.ok a k (.bl _)
  | _ => exact a.elim
theorem oc_eq : OpC C (rEqD C.K) gEq := by
  intro Wx W S H σ x y d e Q k rx ry a
  simp only [gEq] at a
  split at a
  · rename_i hz
    rw [Bool.and_eq_true] at hz
    exact ⟨_, _, dp_of k.fz 60 hz.1 rx, dp_of k.fz 60 hz.2 ry, shaped_of hz.1 (by decide), shaped_of hz.2 (by decide), Aft.ok a k (.bl _)⟩
  · exact a.elim
theorem oc_ne : OpC C (rNeD C.K) gNe := by
  intro Wx W S H σ x y d e Q k rx ry a
  simp only [gNe] at a
  split at a
  · rename_i hz
    rw [Bool.and_eq_true] at hz
    exact ⟨_, _, dp_of k.fz 60 hz.1 rx, dp_of k.fz 60 hz.2 ry, shaped_of hz.1 (by decide), shaped_of hz.2 (by decide), Aft.ok a k (.bl _)⟩
  · exact a.elim
theorem inD_ok {W : Gw} {S : Sto} {H : Hp} {x y : V} {d e : D} {b : Bool} (k : WOk C W S H) (rx : RelD C W x d) (ry : RelD C W y e) (h : inD d e = some b) (G : Bool → Prop) (g : G b) :
    (∃ p q, Dp C.K H x p ∧ Dp C.K H y (.list q) ∧ SeqAt.shaped p = true ∧ SeqAt.shaped (.list q) = true ∧ G (q.any fun z => PyData.eqv z p)) ∨
    (∃ p xs, y = .ref p ∧ (SqL C.K H p xs ∨ SqT C.K H p xs) ∧ flatV x = true ∧ xs.all flatV = true ∧ G (inV x xs)) := by
  cases ry with
  | @lst al vl ds hf r =>
    simp only [inD] at h
    split at h
    · rename_i hz
      cases h
      rw [Bool.and_eq_true] at hz
      have hg : good 60 (.lst ds) = true := by rw [good]; exact hz.2
      refine .inl ⟨toP d, toPs ds, dp_of k.fz 59 hz.1 rx, ?_, shaped_of hz.1 (by decide), ?_, ?_⟩
      · exact .lst (SqL.of (k.fz _ _ hf)) (dps_of k.fz 59 hz.2 r)
      · have := shaped_of hg (by decide)
        rw [toP] at this
        exact this
      · rw [toPs_map, List.any_map]
        exact g
    · cases h
  | tup hf r =>
    simp only [inD] at h
    split at h
    · rename_i hz
      cases h
      rw [Bool.and_eq_true] at hz
      refine .inr ⟨_, _, rfl, .inr (SqT.of (k.fz _ _ hf)), flat_of rx hz.1, flats_of r hz.2, ?_⟩
      unfold inV
      rw [anyV_of rx hz.1 r hz.2]
      exact g
    · cases h
  | _ => cases h
theorem oc_in : OpC C (fun x y H Q => rInD C.K x y H Q ∨ rIn C.K false x y H Q) gIn := by
  intro Wx W S H σ x y d e Q k rx ry a
  simp only [gIn] at a
  split at a
  · rename_i b hb
    exact inD_ok k rx ry hb (fun b => Q (.bl b) H) (Aft.ok a k (.bl _))
  · exact a.elim
theorem oc_notIn : OpC C (fun x y H Q => rNotInD C.K x y H Q ∨ rIn C.K true x y H Q) gNotIn := by
  intro Wx W S H σ x y d e Q k rx ry a
  simp only [gNotIn] at a
  split at a
  · rename_i b hb
    exact inD_ok k rx ry hb (fun b => Q (.bl (!b)) H) (Aft.ok a k (.bl _))
  · exact a.elim
theorem atI_rel {W : Gw} {vs : List V} {ds : List D} {i : Int} {z : D} (r : RelDs C W vs ds) (h : atI ds i = some z) : ∃ v, atI vs i = some v ∧ RelD C W v z := by
  unfold atI at h ⊢
  rw [r.length]
  cases q : ixN ds.length i with
  | none =>
    rw [q] at h
    cases h
  | some j =>
    rw [q] at h
    exact r.get h
theorem atI_map {α β : Type} (f : α → β) {xs : List α} {i : Int} {z : α} (h : atI xs i = some z) : atI (xs.map f) i = some (f z) := by
  unfold atI at h ⊢
  rw [List.length_map]
  cases q : ixN xs.length i with
  | none =>
    rw [q] at h
    cases h
  | some j =>
    rw [q] at h
    simp only [Option.bind_some] at h ⊢
    rw [List.getElem?_map, h]
    rfl
theorem oc_ix : OpC C (rIx C.K) gIx := by
  intro Wx W S H σ x y d e Q k rx ry a
  cases ry with
  | int i => cases rx with
    | lst hf r =>
      simp only [gIx] at a
      split at a
      · rename_i z hz
        obtain ⟨v, h1, h2⟩ := atI_rel r hz
        exact .inl ⟨_, _, i, v, rfl, rfl, SqL.of (k.fz _ _ hf), h1, Aft.ok a k h2⟩
      · exact a.elim
    | tup hf r =>
      simp only [gIx] at a
      split at a
      · rename_i z hz
        obtain ⟨v, h1, h2⟩ := atI_rel r hz
        exact .inr (.inl ⟨_, _, i, v, rfl, rfl, SqT.of (k.fz _ _ hf), h1, Aft.ok a k h2⟩)
      · exact a.elim
    | scr hf =>
      simp only [gIx] at a
      split at a
      · rename_i z hz
        exact .inl ⟨_, _, i, .int z, rfl, rfl, sqL_le k.fz hf, atI_map V.int hz, Aft.ok a k (.int z)⟩
      · exact a.elim
    | str z =>
      simp only [gIx] at a
      split at a
      · rename_i hl
        split at a
        · rename_i c hc
          exact .inr (.inr ⟨z, i, c, rfl, rfl, hl, hc, Aft.ok a k (.str _)⟩)
        · exact a.elim
      · exact a.elim
    | ref hn =>
      simp only [gIx] at a
      split at a
      · rename_i xs hxs
        split at a
        · rename_i z hz
          obtain ⟨_, vs, ys, h1, h2, h3⟩ := k.st _ _ hn
          rw [hxs] at h2
          cases h2
          obtain ⟨v, g1, g2⟩ := atI_rel h3 hz
          exact .inl ⟨_, _, i, v, rfl, rfl, SqL.of h1, g1, Aft.ok a k g2⟩
        · exact a.elim
      · exact a.elim
    | _ => exact a.elim
  | _ => cases rx <;> exact a.elim
variable {a b : Expr} {ma mb : ME} {pos : Pos}
theorem se_ix (hK : X.K = C.K) (ha : PE X a (tE C Wx ma)) (hb : PE X b (tE C Wx mb)) (hs : PlainIx b := by exact fun _ _ => rfl) : PE X (.Subscript a b pos) (tE C Wx (eOp gIx ma mb)) :=
  (pe_ix (hK ▸ ix_seq) ha hb hs).imp fun _ _ _ h => t_op oc_ix h
theorem uc_neg : UnC C (rU fun i => .int (-i)) gNeg := by
  intro Wx W S H σ x d Q k rx a
  cases rx with
  | int i => exact ⟨i, rfl, Aft.ok a k (.int _)⟩
  | _ => exact a.elim
theorem se_un {op : UnaryOp} {r : V → Hp → VK → Prop} {g : D → Sto → R D} (ho : UnR X (unaryOp op) r) (hc : UnC C r g) (ha : PE X a (tE C Wx ma)) : PE X (.UnaryOp op a pos) (tE C Wx (eUn g ma)) :=
  (pe_un ho ha).imp fun σ H Q h => (tG.seq (f := fun _ d S1 => g d S1) h).imp fun x H1 ⟨H0, W1, env, S1, d, e1, k1, r1, a1⟩ => hc Wx W1 S1 H1 σ x d Q k1 r1 a1
end
end PV

set_option autoImplicit false
set_option Elab.async false
set_option linter.all false
set_option maxRecDepth 100000
set_option maxHeartbeats 4000000
/-! PV5: calls of built-ins, isinstance, slices, items of own lists. -/
namespace PV
open PySem PySem.Spec PyProof.Rows L2

section
variable {X : Cx} {C : Cn} {Wx : WX} {pos p : Pos} {e : Expr} {es : List Expr} {m : MA} {x : Str}
theorem t_cal {r : List V → Hp → VK → Prop} {g : List D → Sto → R D} (hcc : CalC C r g) {σ : L2.St} {H : Hp} {Q : VK} (h : tE C Wx (eCal g m) σ H Q) : tCB r (tA C Wx m) σ H Q :=
  (tG.seq (f := fun _ ds S1 => g ds S1) h).imp fun xs H1 ⟨H0, W1, env, S1, ds, e1, k1, r1, a1⟩ => hcc Wx W1 S1 H1 σ xs ds Q k1 r1 a1
theorem se_calB {id : String} {r : List V → Hp → VK → Prop} {g : List D → Sto → R D} (hc : CallR X (.builtin id) r) (hcc : CalC C r g) (hg : Gl X x) (hm : X.mg x = none) (hv : bootBuiltins x = some (.builtin id)) (ha : PA X (e :: es) (tA C Wx m))
    (hn : x ≠ "__name__" := by decide) (hdb : (x == ("__debug__" : Str)) = false := by decide)
    (he : starEach (e :: es) X.env = (false, eval e X.env) :: starEach es X.env := by rfl) (hpl : (backTo pos (starEach es X.env)).any (·.1) = false := by rfl) : PE X (.Call (.Name x p) (e :: es) [] pos) (tE C Wx (eCal g m)) := (pe_callB hc hg hm hv ha hn hdb he hpl).imp fun _ _ _ h => t_cal hcc h
theorem se_calTy {T : String} {r : List V → Hp → VK → Prop} {g : List D → Sto → R D} (hc : CallR X (.type T) r) (hcc : CalC C r g) (hg : Gl X x) (hm : X.mg x = none) (hv : bootBuiltins x = some (.type T)) (ha : PA X (e :: es) (tA C Wx m))
    (hn : x ≠ "__name__" := by decide) (hdb : (x == ("__debug__" : Str)) = false := by decide)
    (he : starEach (e :: es) X.env = (false, eval e X.env) :: starEach es X.env := by rfl) (hpl : (backTo pos (starEach es X.env)).any (·.1) = false := by rfl) : PE X (.Call (.Name x p) (e :: es) [] pos) (tE C Wx (eCal g m)) := (pe_callTy hc hg hm hv ha hn hdb he hpl).imp fun _ _ _ h => t_cal hcc h
/-- .. that makes a new list -/
def CalF (C : Cn) (r : List V → Hp → VK → Prop) (g : List D → Sto → R (List D)) : Prop := ∀ (Wx : WX) (W : Gw) (S : Sto) (H : Hp) (σ : L2.St) (xs : List V) (ds : List D) (Q : VK), WOk C W S H → RelDs C W xs ds → AftF C Wx W H σ (g ds S) Q → r xs H Q
def fCal (g : List D → Sto → R (List D)) (ma : MA) : MA := fun env S => (ma env S).bind fun ds S1 => g ds S1
theorem t_calF {r : List V → Hp → VK → Prop} {g : List D → Sto → R (List D)} (hcc : CalF C r g) {σ : L2.St} {H : Hp} {Q : VK} (h : tF C Wx (fCal g m) σ H Q) : tCB r (tA C Wx m) σ H Q :=
  (tF.seq (f := fun _ ds S1 => g ds S1) h).imp fun xs H1 ⟨H0, W1, env, S1, ds, e1, k1, r1, a1⟩ => hcc Wx W1 S1 H1 σ xs ds Q k1 r1 a1
theorem sf_calTy {T : String} {r : List V → Hp → VK → Prop} {g : List D → Sto → R (List D)} (hc : CallR X (.type T) r) (hcc : CalF C r g) (hg : Gl X x) (hm : X.mg x = none) (hv : bootBuiltins x = some (.type T)) (ha : PA X (e :: es) (tA C Wx m))
    (hn : x ≠ "__name__" := by decide) (hdb : (x == ("__debug__" : Str)) = false := by decide)
    (he : starEach (e :: es) X.env = (false, eval e X.env) :: starEach es X.env := by rfl) (hpl : (backTo pos (starEach es X.env)).any (·.1) = false := by rfl) : PE X (.Call (.Name x p) (e :: es) [] pos) (tF C Wx (fCal g m)) := (pe_callTy hc hg hm hv ha hn hdb he hpl).imp fun _ _ _ h => t_calF hcc h
theorem sf_calB {id : String} {r : List V → Hp → VK → Prop} {g : List D → Sto → R (List D)} (hc : CallR X (.builtin id) r) (hcc : CalF C r g) (hg : Gl X x) (hm : X.mg x = none) (hv : bootBuiltins x = some (.builtin id)) (ha : PA X (e :: es) (tA C Wx m))
    (hn : x ≠ "__name__" := by decide) (hdb : (x == ("__debug__" : Str)) = false := by decide)
    (he : starEach (e :: es) X.env = (false, eval e X.env) :: starEach es X.env := by rfl) (hpl : (backTo pos (starEach es X.env)).any (·.1) = false := by rfl) : PE X (.Call (.Name x p) (e :: es) [] pos) (tF C Wx (fCal g m)) := (pe_callB hc hg hm hv ha hn hdb he hpl).imp fun _ _ _ h => t_calF hcc h
end

/-! ### what a sequence holds -/
def items (d : D) (S : Sto) : Option (List D) := match d with
  | .lst xs => some xs
  | .tup xs => some xs
  | .scr ns => some (ns.map D.int)
  | .ref n => S[n]?
  | _ => none
theorem items_ok {C : Cn} {W : Gw} {S : Sto} {H : Hp} {v : V} {d : D} {xs : List D} (k : WOk C W S H) (r : RelD C W v d) (h : items d S = some xs) :
    ∃ a vs, v = .ref a ∧ (SqL C.K H a vs ∨ SqT C.K H a vs) ∧ RelDs C W vs xs := by
  cases r with
  | lst hf q => cases h; exact ⟨_, _, rfl, .inl (SqL.of (k.fz _ _ hf)), q⟩
  | tup hf q => cases h; exact ⟨_, _, rfl, .inr (SqT.of (k.fz _ _ hf)), q⟩
  | scr hf => cases h; exact ⟨_, _, rfl, .inl (sqL_le k.fz hf), RelDs.ints _⟩
  | ref hn =>
    obtain ⟨_, vs, ys, h1, h2, h3⟩ := k.st _ _ hn
    have h' : S[_]? = some xs := h
    rw [h2] at h'
    cases h'
    exact ⟨_, _, rfl, .inl (SqL.of h1), h3⟩
  | _ => cases h
def gLen (ds : List D) (S : Sto) : R D := match ds with
  | [.str x] => if x.length ≤ sizeLine then .ok (.int x.length) S else .no
  | [d] => (match items d S with
    | some xs => .ok (.int xs.length) S
    | none => .no)
  | _ => .no
theorem cc_len {C : Cn} : CalC C (fun xs H Q => ∃ x n, xs = [x] ∧ LenV C.K x H n ∧ Q (.int n) H) gLen := by
  intro Wx W S H σ xs ds Q k r a
  match ds, r with
  | [], _ => exact a.elim
  | _ :: _ :: _, _ => exact (show False by unfold gLen at a; split at a <;> first | exact a.elim | simp_all).elim
  | [d], .cons r .nil =>
    cases d with
    | str x =>
      cases r
      simp only [gLen] at a
      split at a
      · rename_i hz
        exact ⟨_, _, rfl, ⟨hz, rfl⟩, Aft.ok a k (.int _)⟩
      · exact a.elim
    | _ =>
      simp only [gLen] at a
      split at a
      · rename_i ys hy
        obtain ⟨p, vs, rfl, h1, h2⟩ := items_ok k r hy
        rw [← h2.length] at a
        rcases h1 with h1 | h1
        · exact ⟨_, _, rfl, .inl ⟨_, h1, rfl⟩, Aft.ok a k (.int _)⟩
        · exact ⟨_, _, rfl, .inr ⟨_, h1, rfl⟩, Aft.ok a k (.int _)⟩
      · exact a.elim
def gList (ds : List D) (S : Sto) : R (List D) := match ds with
  | [d] => (match items d S with
    | some xs => .ok xs S
    | none => .no)
  | _ => .no
theorem cf_list {C : Cn} : CalF C (fun xs H Q => ∃ p ys, xs = [.ref p] ∧ (SqL C.K H p ys ∨ SqT C.K H p ys) ∧ ∀ l, H l = none → Q (.ref l) (upd H l (.lst ys))) gList := by
  intro Wx W S H σ xs ds Q k r a
  match ds, r with
  | [], _ => exact a.elim
  | _ :: _ :: _, _ => exact a.elim
  | [d], .cons r .nil =>
    simp only [gList] at a
    split at a
    · rename_i ys hy
      obtain ⟨p, vs, rfl, h1, h2⟩ := items_ok k r hy
      exact ⟨p, vs, rfl, h1, a.new k h2⟩
    · exact a.elim
def gTuple (ds : List D) (S : Sto) : R D := match ds with
  | [.tup xs] => .ok (.tup xs) S
  | [.lst xs] => .ok (.tup xs) S
  | _ => .no
theorem cc_tuple {C : Cn} : CalC C (fun xs H Q => ∃ p ys, xs = [.ref p] ∧ ((SqL C.K H p ys ∧ ∀ l, H l = none → Q (.ref l) (upd H l (.tup ys))) ∨ (SqT C.K H p ys ∧ Q (.ref p) H))) gTuple := by
  intro Wx W S H σ xs ds Q k r a
  match ds, r with
  | [], _ => exact a.elim
  | _ :: _ :: _, _ => exact (show False by unfold gTuple at a; split at a <;> first | exact a.elim | simp_all).elim
  | [d], .cons r .nil =>
    cases r with
    | tup hf q => exact ⟨_, _, rfl, .inr ⟨SqT.of (k.fz _ _ hf), Aft.ok a k (.tup hf q)⟩⟩
    | lst hf q =>
      refine ⟨_, _, rfl, .inl ⟨SqL.of (k.fz _ _ hf), fun l hl => ?_⟩⟩
      obtain ⟨s, k', q'⟩ := lay_tup k hl q
      exact a _ _ _ s k' q'
    | _ => exact a.elim
def gAbs (ds : List D) (S : Sto) : R D := match ds with
  | [.int i] => .ok (.int (if i < 0 then -i else i)) S
  | _ => .no
theorem cc_abs {C : Cn} : CalC C (fun xs H Q => ∃ i, xs = [.int i] ∧ Q (.int (if i < 0 then -i else i)) H) gAbs := by
  intro Wx W S H σ xs ds Q k r a
  match ds, r with
  | [], _ => exact a.elim
  | _ :: _ :: _, _ => exact (show False by unfold gAbs at a; split at a <;> first | exact a.elim | simp_all).elim
  | [d], .cons r .nil =>
    cases r with
    | int i => exact ⟨i, rfl, Aft.ok a k (.int _)⟩
    | _ => exact a.elim
def gInt (ds : List D) (S : Sto) : R D := match ds with
  | [.int i] => .ok (.int i) S
  | [.bl b] => .ok (.int (if b = true then 1 else 0)) S
  | _ => .no
theorem cc_int {C : Cn} : CalC C (fun xs H Q => (∃ i, xs = [.int i] ∧ Q (.int i) H) ∨ ∃ k, xs = [.bl k] ∧ Q (.int (if k then 1 else 0)) H) gInt := by
  intro Wx W S H σ xs ds Q k r a
  match ds, r with
  | [], _ => exact a.elim
  | _ :: _ :: _, _ => exact (show False by unfold gInt at a; split at a <;> first | exact a.elim | simp_all).elim
  | [d], .cons r .nil =>
    cases r with
    | int i => exact .inl ⟨i, rfl, Aft.ok a k (.int _)⟩
    | bl b => exact .inr ⟨b, rfl, Aft.ok a k (.int _)⟩
    | _ => exact a.elim

/-! ### any, all of ints and bools -/
def truV : V → Bool
  | .bl b => b
  | .int i => i != 0
  | _ => false
def ibV : V → Bool
  | .bl _ => true
  | .int _ => true
  | _ => false
theorem truth_ib {prog : Program} {w : World} {A : Around} {xs : List V} {its : List Value} (r : Vals xs its) (f : xs.all ibV = true) : TruthOf prog w A (fun i v => its.toArray[i]? = some v) (fun i => (xs.map truV).getD i false) := fun i v s Q E hv hq => by
  have hv' : its[i]? = some v := by simpa using hv
  have hl := r.length
  cases q : xs[i]? with
  | none =>
    have h1 := r.none_of q
    rw [h1] at hv'
    cases hv'
  | some y =>
    obtain ⟨u, h1, h2⟩ := r.get q
    rw [hv'] at h1
    cases h1
    have hg : (xs.map truV).getD i false = truV y := by
      rw [List.getD_eq_getElem?_getD, List.getElem?_map, q]
      rfl
    have hq' : Q ((xs.map truV).getD i false) s := hq
    rw [hg] at hq'
    have hy := List.all_eq_true.mp f y (List.mem_of_getElem? q)
    cases y with
    | bl b =>
      cases h2
      exact wpAny_truthy_bool hq'
    | int j =>
      obtain ⟨t, rfl⟩ := h2
      exact PyProof.Rows.truthy_int hq'
    | _ => cases hy
def rAnyT (K : PySem.W.Frag) : List V → Hp → VK → Prop := fun vs H Q => ∃ (a : Addr) (xs : List V), vs = [V.ref a] ∧ SqL K H a xs ∧ xs.all ibV = true ∧ Q (.bl (xs.any truV)) H
def rAllT (K : PySem.W.Frag) : List V → Hp → VK → Prop := fun vs H Q => ∃ (a : Addr) (xs : List V), vs = [V.ref a] ∧ SqL K H a xs ∧ xs.all ibV = true ∧ Q (.bl (xs.all truV)) H
section
variable {X : Cx}
theorem cr_anyT (hc : X.calm = true) : CallR X (.builtin "any") (rAnyT X.K) := by
  intro pins s σ H vs us Q I r h
  obtain ⟨a, xs, rfl, hs, hf, q⟩ := h
  obtain ⟨its, rv, hl, hz⟩ := I.list hs
  rw [Vals.ref1 r]
  refine call_any_walk (iter_any hl.isList fun s₂ e2 st hne => ?_)
  subst e2
  refine ⟨_, _, _, _, _, _, _, rfl, Walks.list (A := X.A.in1) (I.ok.hd hc) _ a hne its.toArray, st, truth_ib rv hf, fun h' tk hk => ⟨.bl _, H, I.kept fun b o eo => hk b o (fun hmem => ?_) (Heap.get?_push_of_some _ eo), ?_, q⟩⟩
  · rcases List.mem_cons.mp hmem with e1 | hm2
    · exact absurd (e1 ▸ Heap.lt_size eo) (Nat.lt_irrefl _)
    · cases hm2
  · show Value.bool _ = Value.bool _
    have e1 := any_range (xs.map truV)
    rw [List.length_map, rv.length, List.any_map] at e1
    rw [List.size_toArray, e1]
    rfl
theorem cr_allT (hc : X.calm = true) : CallR X (.builtin "all") (rAllT X.K) := by
  intro pins s σ H vs us Q I r h
  obtain ⟨a, xs, rfl, hs, hf, q⟩ := h
  obtain ⟨its, rv, hl, hz⟩ := I.list hs
  rw [Vals.ref1 r]
  refine call_all_walk (iter_any hl.isList fun s₂ e2 st hne => ?_)
  subst e2
  refine ⟨_, _, _, _, _, _, _, rfl, Walks.list (A := X.A.in1) (I.ok.hd hc) _ a hne its.toArray, st, truth_ib rv hf, fun h' tk hk => ⟨.bl _, H, I.kept fun b o eo => hk b o (fun hmem => ?_) (Heap.get?_push_of_some _ eo), ?_, q⟩⟩
  · rcases List.mem_cons.mp hmem with e1 | hm2
    · exact absurd (e1 ▸ Heap.lt_size eo) (Nat.lt_irrefl _)
    · cases hm2
  · show Value.bool _ = Value.bool _
    have e1 := all_range (xs.map truV)
    rw [List.length_map, rv.length, List.all_map] at e1
    rw [List.size_toArray, e1]
    rfl
end
def truD : D → Bool
  | .bl b => b
  | .int i => i != 0
  | _ => false
def ibD : D → Bool
  | .bl _ => true
  | .int _ => true
  | _ => false
theorem ib_of {C : Cn} {W : Gw} {v : V} {d : D} (r : RelD C W v d) (f : ibD d = true) : ibV v = true ∧ truV v = truD d := by cases r <;> first | exact ⟨rfl, rfl⟩ | cases f
theorem ibs_of {C : Cn} {W : Gw} : ∀ {vs : List V} {ds : List D}, RelDs C W vs ds → ds.all ibD = true → vs.all ibV = true ∧ vs.any truV = ds.any truD ∧ vs.all truV = ds.all truD
  | _, _, .nil, _ => ⟨rfl, rfl, rfl⟩
  | _, _, .cons r t, f => by
    rw [List.all_cons, Bool.and_eq_true] at f
    obtain ⟨h1, h2⟩ := ib_of r f.1
    obtain ⟨h3, h4, h5⟩ := ibs_of t f.2
    refine ⟨?_, ?_, ?_⟩
    · rw [List.all_cons, h1, h3]; rfl
    · rw [List.any_cons, List.any_cons, h2, h4]
    · rw [List.all_cons, List.all_cons, h2, h5]
def gAny (ds : List D) (S : Sto) : R D := match ds with
  | [.lst xs] => if xs.all ibD = true then .ok (.bl (xs.any truD)) S else .no
  | _ => .no
def gAll (ds : List D) (S : Sto) : R D := match ds with
  | [.lst xs] => if xs.all ibD = true then .ok (.bl (xs.all truD)) S else .no
  | _ => .no
theorem cc_any {C : Cn} : CalC C (rAnyT C.K) gAny := by
  intro Wx W S H σ xs ds Q k r a
  match ds, r with
  | [], _ => exact a.elim
  | _ :: _ :: _, _ => exact (show False by unfold gAny at a; split at a <;> first | exact a.elim | simp_all).elim
  | [d], .cons r .nil =>
    cases r with
    | lst hf q =>
      simp only [gAny] at a
      split at a
      · rename_i hz
        obtain ⟨h1, h2, h3⟩ := ibs_of q hz
        exact ⟨_, _, rfl, SqL.of (k.fz _ _ hf), h1, by rw [h2]; exact Aft.ok a k (.bl _)⟩
      · exact a.elim
    | _ => exact a.elim
theorem cc_all {C : Cn} : CalC C (rAllT C.K) gAll := by
  intro Wx W S H σ xs ds Q k r a
  match ds, r with
  | [], _ => exact a.elim
  | _ :: _ :: _, _ => exact (show False by unfold gAll at a; split at a <;> first | exact a.elim | simp_all).elim
  | [d], .cons r .nil =>
    cases r with
    | lst hf q =>
      simp only [gAll] at a
      split at a
      · rename_i hz
        obtain ⟨h1, h2, h3⟩ := ibs_of q hz
        exact ⟨_, _, rfl, SqL.of (k.fz _ _ hf), h1, by rw [h3]; exact Aft.ok a k (.bl _)⟩
      · exact a.elim
    | _ => exact a.elim

/-! ### isinstance of data and a built-in class -/
def tyD : D → Option String
  | .non => some "NoneType"
  | .bl _ => some "bool"
  | .int _ => some "int"
  | .str _ => some "str"
  | .tup _ => some "tuple"
  | .lst _ => some "list"
  | _ => none
theorem ty_of {K : PySem.W.Frag} {C : Cn} {W : Gw} {S : Sto} {H : Hp} {v : V} {d : D} {t : String} (k : WOk C W S H) (r : RelD C W v d) (h : tyD d = some t) : TyX K H v (.type t) := by
  cases r with
  | non => cases h; exact .base .non
  | bl b => cases h; exact .base (.bl b)
  | int i => cases h; exact .base (.int i)
  | str x => cases h; exact .base (.str x)
  | tup hf _ => cases h; exact .base (.tup (k.fz _ _ hf))
  | lst hf _ => cases h; exact .base (.lst (k.fz _ _ hf))
  | _ => cases h
inductive Cl where
  | int | bool | str | tuple | list
def Cl.name : Cl → String
  | .int => "int"
  | .bool => "bool"
  | .str => "str"
  | .tuple => "tuple"
  | .list => "list"
def isCl (c : Cl) (d : D) : Option Bool := match d with
  | .non => some false
  | .bl _ => some (match c with
    | .int => true
    | .bool => true
    | _ => false)
  | .int _ => some (match c with
    | .int => true
    | _ => false)
  | .str _ => some (match c with
    | .str => true
    | _ => false)
  | .tup _ => some (match c with
    | .tuple => true
    | _ => false)
  | .lst _ => some (match c with
    | .list => true
    | _ => false)
  | _ => none
theorem isCl_ok {c : Cl} {d : D} {b : Bool} (h : isCl c d = some b) : ∃ t, tyD d = some t ∧ kitB t c.name = some b := by
  cases d with
  | non => cases h; exact ⟨_, rfl, by cases c <;> decide +kernel⟩
  | bl _ => cases h; exact ⟨_, rfl, by cases c <;> decide +kernel⟩
  | int _ => cases h; exact ⟨_, rfl, by cases c <;> decide +kernel⟩
  | str _ => cases h; exact ⟨_, rfl, by cases c <;> decide +kernel⟩
  | tup _ => cases h; exact ⟨_, rfl, by cases c <;> decide +kernel⟩
  | lst _ => cases h; exact ⟨_, rfl, by cases c <;> decide +kernel⟩
  | _ => cases h
def kIsi (c : Cl) (d : D) (S : Sto) : R D := match isCl c d with
  | some b => .ok (.bl b) S
  | none => .no
def eIsi (c : Cl) (m : ME) : ME := fun env S => (m env S).bind fun d S1 => kIsi c d S1
theorem se_isi {X : Cx} {C : Cn} {Wx : WX} {pos p q : Pos} {e : Expr} {m : ME} (c : Cl) {x : Str} (hg : Gl X "isinstance") (hm : X.mg "isinstance" = none) (hx : Gl X x) (hmx : X.mg x = none) (hv : bootBuiltins x = some (.type c.name)) (he : PE X e (tE C Wx m))
    (hn : x ≠ "__name__" := by decide) (hd : (x == ("__debug__" : Str)) = false := by decide) (hs : starEach [e, .Name x q] X.env = [(false, eval e X.env), (false, eval (.Name x q) X.env)] := by rfl) (hs2 : starEach [.Name x q] X.env = [(false, eval (.Name x q) X.env)] := by rfl) :
    PE X (.Call (.Name "isinstance" p) [e, .Name x q] [] pos) (tE C Wx (eIsi c m)) :=
  (pe_callB call_isi hg hm (by decide +kernel) (pa_cons he (pa_cons (pe_bltn hx hmx hv (show RelV (.ty c.name) (.type c.name) from rfl) hn hd) pa_nil (by rw [hs2]; rfl)) (by rw [hs, hs2])) (he := by rw [hs, hs2]) (hpl := by rw [hs2]; rfl)).imp fun σ H Q h =>
    (tG.seq (f := fun _ d S1 => kIsi c d S1) h).imp fun x H1 ⟨H0, W1, env, S1, d, e1, k1, r1, a1⟩ => by
      simp only [kIsi] at a1
      split at a1
      · rename_i b hb
        obtain ⟨t, h1, h2⟩ := isCl_ok hb
        exact ⟨x, .ty c.name, _, _, b, rfl, .ty _, ty_of k1 r1 h1, kit_ty h2, Aft.ok a1 k1 (.bl b)⟩
      · exact a1.elim
end PV

set_option autoImplicit false
set_option Elab.async false
set_option linter.all false
set_option maxRecDepth 100000
set_option maxHeartbeats 4000000
/-! PV6: slices, items of own lists, calls of defs, what loops walk, list comprehensions. -/
namespace PV
open PySem PySem.Spec PyProof.Rows L2

/-! ### slices of lists -/
def optE (m : Option ME) : Env → Sto → R (Option Int) := fun env S => match m with
  | none => .ok none S
  | some m => (m env S).bind fun d S1 => match d with
    | .int i => .ok (some i) S1
    | _ => .no
abbrev tO (C : Cn) (Wx : WX) (m : Option ME) : TO := tG C Wx (fun _ (a b : Option Int) => a = b) (optE m)
def cutD (xs : List D) (lo hi : Option Int) : List D := (xs.drop (HT.sIx xs.length 0 lo)).take (HT.sIx xs.length xs.length hi - HT.sIx xs.length 0 lo)
theorem cut_rel {C : Cn} {W : Gw} {vs : List V} {ds : List D} (r : RelDs C W vs ds) (lo hi : Option Int) : RelDs C W (cutV vs lo hi) (cutD ds lo hi) := by
  unfold cutV cutD
  rw [r.length]
  exact (r.drop _).take _
def seqL (d : D) (S : Sto) : Option (List D) := match d with
  | .lst xs => some xs
  | .scr ns => some (ns.map D.int)
  | .ref n => S[n]?
  | _ => none
theorem seqL_ok {C : Cn} {W : Gw} {S : Sto} {H : Hp} {v : V} {d : D} {xs : List D} (k : WOk C W S H) (r : RelD C W v d) (h : seqL d S = some xs) :
    ∃ a vs, v = .ref a ∧ SqL C.K H a vs ∧ RelDs C W vs xs := by
  cases r with
  | lst hf q => cases h; exact ⟨_, _, rfl, SqL.of (k.fz _ _ hf), q⟩
  | scr hf => cases h; exact ⟨_, _, rfl, sqL_le k.fz hf, RelDs.ints _⟩
  | ref hn =>
    obtain ⟨_, vs, ys, h1, h2, h3⟩ := k.st _ _ hn
    have h' : S[_]? = some xs := h
    rw [h2] at h'
    cases h'
    exact ⟨_, _, rfl, SqL.of h1, h3⟩
  | _ => cases h
def kSl (d : D) (l h : Option Int) (S : Sto) : R (List D) := match seqL d S with
  | some xs => .ok (cutD xs l h) S
  | none => .no
def fSl (ms : ME) (lo hi : Option ME) : MA := fun env S => (ms env S).bind fun d S1 => (optE lo env S1).bind fun l S2 => (optE hi env S2).bind fun h S3 => kSl d l h S3
section
variable {X : Cx} {C : Cn} {Wx : WX} {pos p2 : Pos} {e : Expr} {lo hi : Option Expr} {ms : ME} {ml mh : Option ME}
theorem so_none : PO X none (tO C Wx none) := ⟨fun pins s σ H Q I h => po_none.run pins s σ H Q I (by
  obtain ⟨H0, W, env, S, e, k, h⟩ := h
  exact Aft.ok h k rfl)⟩
theorem so_some {m : ME} (h : PE X e (tE C Wx m)) : PO X (some e) (tO C Wx (some m)) := ⟨fun pins s σ H Q I q => (po_some h).run pins s σ H Q I ((tG.seq (f := fun _ d S1 => match d with
    | D.int i => R.ok (some i) S1
    | _ => R.no) q).imp fun x H1 ⟨H0, W1, env, S1, d, e1, k1, r1, a1⟩ => by
  cases d with
  | int i =>
    cases r1
    exact ⟨i, rfl, Aft.ok a1 k1 rfl⟩
  | _ => exact a1.elim)⟩
theorem sf_sl (hK : X.K = C.K) (he : PE X e (tE C Wx ms)) (hl : PO X lo (tO C Wx ml)) (hh : PO X hi (tO C Wx mh)) : PE X (.Subscript e (.Slice lo hi none p2) pos) (tF C Wx (fSl ms ml mh)) :=
  (pe_slice (hK ▸ sl_list) he hl hh).imp fun σ H Q h => (tF.seq (f := fun env d S1 => (optE ml env S1).bind fun l S2 => (optE mh env S2).bind fun h S3 => kSl d l h S3) h).imp fun x H1 ⟨H0, W1, env, S1, d, e1, k1, r1, a1⟩ =>
    ⟨H0, W1, env, S1, e1, k1, a1.bind.imp fun l H2 ⟨W2, S2, l', s2, k2, r2, a2⟩ => ⟨H0, W2, env, S2, e1.step s2, k2, a2.bind.imp fun u H3 ⟨W3, S3, u', s3, k3, r3, a3⟩ => by
      subst r2 r3
      simp only [kSl] at a3
      split at a3
      · rename_i xs hx
        obtain ⟨a, vs, rfl, h1, h2⟩ := seqL_ok k3 ((r1.le s2.le).le s3.le) hx
        exact ⟨a, vs, rfl, h1, a3.new k3 (cut_rel h2 l u)⟩
      · exact a3.elim⟩⟩
end

/-! ### own lists, read -/
theorem Step.own {W W1 : Gw} {H H1 : Hp} (s : Step W H W1 H1) {a : Addr} {vs : List V} (h1 : H a = some (.lst vs)) (h2 : W.Fz a = none) (h3 : a ∉ W.φ) : H1 a = some (.lst vs) ∧ W1.Fz a = none ∧ a ∉ W1.φ := by
  refine ⟨s.same a _ h1 h3 (fun _ z => nomatch z), ?_, fun z => ?_⟩
  · cases q : W1.Fz a with
    | none => rfl
    | some u =>
      rcases s.fzn a u q with z | z
      · rw [h2] at z
        cases z
      · exact (z.lst h1).elim
  · rcases s.phn a z with q | q
    · exact h3 q
    · exact q.lst h1
def ownAt (env : Env) (i : Nat) : Option (List D) := match env[i]? with
  | some (.o xs) => some xs
  | _ => none
theorem ownAt_ok {env : Env} {i : Nat} {xs : List D} (h : ownAt env i = some xs) : env[i]? = some (.o xs) := by
  unfold ownAt at h
  cases q : env[i]? with
  | none =>
    rw [q] at h
    cases h
  | some sl =>
    rw [q] at h
    cases sl with
    | o ys => cases h; rfl
    | _ => cases h
def eIxO (i : Nat) (mb : ME) : ME := fun env S => match ownAt env i with
  | some xs => (mb env S).bind fun e S1 => gIx (.lst xs) e S1
  | none => .no
def eLenO (i : Nat) : ME := fun env S => match ownAt env i with
  | some xs => .ok (.int xs.length) S
  | none => .no
section
variable {X : Cx} {C : Cn} {Wx : WX} {pos p q : Pos} {b : Expr} {mb : ME} {i : Nat} {x : Str}
theorem se_ixO (hN : X.N[i]? = some x) (hv : Vis X.env.scope x) (hb : PE X b (tE C Wx mb)) (hs : PlainIx b := by exact fun _ _ => rfl) (hd : (x == ("__debug__" : Str)) = false := by decide) (hcd : (x == ("__classdict__" : Str)) = false := by decide) :
    PE X (.Subscript (.Name x p) b pos) (tE C Wx (eIxO i mb)) :=
  (pe_ix ix_list (pe_var hN hv hd hcd) hb hs).imp fun σ H Q ⟨H0, W, env, S, e, k, h⟩ => by
    simp only [eIxO] at h
    split at h
    · rename_i xs hx
      obtain ⟨a, vs, h1, h2, h0, h3, h4, h5⟩ := e.own i xs (ownAt_ok hx)
      refine ⟨_, h1, H0, W, env, S, e, k, h.bind.imp fun y H1 ⟨W1, S1, d, s1, k1, r1, a1⟩ => ?_⟩
      obtain ⟨g1, _, _⟩ := s1.own h2 h3 h4
      cases r1 with
      | int j =>
        simp only [gIx] at a1
        split at a1
        · rename_i z hz
          obtain ⟨v, q1, q2⟩ := atI_rel (h5.le s1.le) hz
          exact ⟨a, vs, j, v, rfl, rfl, SqL.of g1, q1, Aft.ok a1 k1 q2⟩
        · exact a1.elim
      | _ => exact a1.elim
    · exact h.elim
theorem se_lenO (hN : X.N[i]? = some x) (hv : Vis X.env.scope x) (hg : Gl X "len") (hm : X.mg "len" = none) (hd : (x == ("__debug__" : Str)) = false := by decide) (hcd : (x == ("__classdict__" : Str)) = false := by decide)
    (hs : starEach [.Name x q] X.env = [(false, eval (.Name x q) X.env)] := by rfl) : PE X (.Call (.Name "len" p) [.Name x q] [] pos) (tE C Wx (eLenO i)) :=
  (pe_callB call_len hg hm (by decide +kernel) (pa_cons (pe_var hN hv hd hcd) pa_nil (by rw [hs]; rfl)) (he := by rw [hs]; rfl) (hpl := by rfl)).imp fun σ H Q ⟨H0, W, env, S, e, k, h⟩ => by
    simp only [eLenO] at h
    split at h
    · rename_i xs hx
      obtain ⟨a, vs, h1, h2, h0, h3, h4, h5⟩ := e.own i xs (ownAt_ok hx)
      rw [← h5.length] at h
      exact ⟨_, h1, _, _, rfl, .inl ⟨vs, SqL.of h2, rfl⟩, Aft.ok h k (.int _)⟩
    · exact h.elim
end

/-! ### defs and their calls -/
/-- a def's promise: it does what g says -/
def spF (C : Cn) (n : Nat) (g : List D → Sto → R D) : Sp := fun vs H Q E => vs.length = n ∧ ∃ W S ds, WOk C W S H ∧ RelDs C W vs ds ∧ Aft C (fun c d _ H' => E c d H') (RelD C) W H [] (g ds S) Q
/-- the def named x does what g says, k calls deep at most -/
def Dk (P : Program) (w : World) (K : PySem.W.Frag) (mg : Str → Option Value) (base : Heap) (C : Cn) (x : Str) (n k : Nat) (g : List D → Sto → R D) : Prop :=
  ∃ f fd ps, FnOk P w K mg base (L2.CX P w) k f fd ps (spF C n g) ∧ mg x = some (.ref f) ∧ PySem.W.keepIn K (.ref f) = true ∧ Binds K fd ps []
def kCall (n : Nat) (g : List D → Sto → R D) (ds : List D) (S : Sto) : R D := if ds.length = n then g ds S else .no
def eCall (n : Nat) (g : List D → Sto → R D) (m : MA) : ME := fun env S => (m env S).bind fun ds S1 => kCall n g ds S1
theorem Aft.wish {α β : Type} {C : Cn} {Wx Wx' : WX} {Rel : Gw → β → α → Prop} {W : Gw} {H : Hp} {σ σ' : L2.St} {r : R α} {Q : β → Hp → Prop} (h : Aft C Wx Rel W H σ r Q) (i : ∀ c d H', Wx c d σ H' → Wx' c d σ' H') : Aft C Wx' Rel W H σ' r Q := by
  cases r with
  | ok a S' => exact h
  | er x S' => exact fun W' H' c d s k r => i _ _ _ (h W' H' c d s k r)
  | no => exact h
section
variable {X : Cx} {C : Cn} {Wx : WX} {pos p : Pos} {e : Expr} {es : List Expr} {m : MA} {x : Str} {n k : Nat} {g : List D → Sto → R D}
theorem se_call (tk : Takes X Wx) (F : Dk X.prog X.w X.K X.mg X.base C x n k g) (hr : Room k X.A) (hg : Gl X x) (ha : PA X (e :: es) (tA C Wx m)) (hdb : (x == ("__debug__" : Str)) = false := by decide)
    (he : starEach (e :: es) X.env = (false, eval e X.env) :: starEach es X.env := by rfl) (hpl : (backTo pos (starEach es X.env)).any (·.1) = false := by rfl) : PE X (.Call (.Name x p) (e :: es) [] pos) (tE C Wx (eCall n g m)) := by
  obtain ⟨f, fd, ps, F, hm, hk, hb⟩ := F
  exact (pe_callS F hr hg hm hk hb (fun σ => passAt tk σ) ha hdb he hpl).imp fun σ H Q h => (tG.seq (f := fun _ ds S1 => kCall n g ds S1) h).imp fun xs H1 ⟨H0, W1, env, S1, ds, e1, k1, r1, a1⟩ => by
    simp only [kCall] at a1
    split at a1
    · rename_i hn
      exact ⟨by rw [r1.length]; exact hn, W1, S1, ds, k1, r1, a1.wish fun _ _ _ h => h⟩
    · exact a1.elim
end

/-! ### what a loop walks -/
/-- the iterator J gives out ds, one by one -/
def Walks (C : Cn) (W : Gw) (J : It) (ds : List D) : Prop := ∀ (i : Nat) (W2 : Gw) (S2 : Sto) (H2 : Hp), Le W W2 → WOk C W2 S2 H2 →
  (∀ d, ds[i]? = some d → J.go i H2 ∧ ∀ x H3, J.yld i H2 x H3 → ∃ W3, Step W2 H2 W3 H3 ∧ WOk C W3 S2 H3 ∧ RelD C W3 x d) ∧ (ds.length ≤ i → J.stop i H2)
def AftI (C : Cn) (Wx : WX) (W : Gw) (H : Hp) (σ : L2.St) (r : R (List D)) (Q : It → Hp → Prop) : Prop :=
  match r with
  | .ok ds S' => ∀ W' H' J, Step W H W' H' → WOk C W' S' H' → Walks C W' J ds → Q J H'
  | .er x S' => ∀ W' H' cls dx, Step W H W' H' → WOk C W' S' H' → RelX C W' H' x cls dx → Wx cls dx σ H'
  | .no => False
def tI (C : Cn) (Wx : WX) (m : MA) : TI := fun σ H Q => ∃ H0 W env S, EnvOk C H0 W H σ env ∧ WOk C W S H ∧ AftI C Wx W H σ (m env S) Q
theorem _root_.L2.PI.imp {X : Cx} {tg it : Expr} {t t' : TI} (h : PI X tg it t) (i : ∀ σ H Q, t' σ H Q → t σ H Q) : PI X tg it t' := ⟨fun pins s σ H Q I q => h.run pins s σ H Q I (i _ _ _ q)⟩
theorem AftI.imp {C : Cn} {Wx : WX} {W : Gw} {H : Hp} {σ : L2.St} {r : R (List D)} {Q Q' : It → Hp → Prop} (h : AftI C Wx W H σ r Q) (q : ∀ b H', Q b H' → Q' b H') : AftI C Wx W H σ r Q' := by
  cases r with
  | ok a S' => exact fun W' H' J s k h1 => q _ _ (h W' H' J s k h1)
  | er x S' => exact h
  | no => exact h
theorem tI.imp {C : Cn} {Wx : WX} {m : MA} {σ : L2.St} {H : Hp} {Q Q' : It → Hp → Prop} (h : tI C Wx m σ H Q) (q : ∀ b H', Q b H' → Q' b H') : tI C Wx m σ H Q' := by
  obtain ⟨H0, W, env, S, e, k, h⟩ := h
  exact ⟨H0, W, env, S, e, k, h.imp q⟩
theorem AftI.step {C : Cn} {Wx : WX} {W W1 : Gw} {S1 : Sto} {H H1 : Hp} {σ : L2.St} {r : R (List D)} {Q : It → Hp → Prop} (h : AftI C Wx W H σ r Q) (s : Step W H W1 H1) (k : WOk C W1 S1 H1) : AftI C Wx W1 H1 σ r Q := by
  cases r with
  | ok a S' => exact fun W' H' J s' k' h1 => h W' H' J (s.trans k s') k' h1
  | er x S' => exact fun W' H' c d s' k' r => h W' H' c d (s.trans k s') k' r
  | no => exact h
theorem tI.seq {α β : Type} {C : Cn} {Wx : WX} {Rel : Gw → β → α → Prop} {m : Env → Sto → R α} {f : Env → α → Sto → R (List D)} {σ : L2.St} {H : Hp} {Q : It → Hp → Prop}
    (h : tI C Wx (fun env S => (m env S).bind fun a S1 => f env a S1) σ H Q) :
    tG C Wx Rel m σ H fun b H1 => ∃ H0 W1 env S1 a, EnvOk C H0 W1 H1 σ env ∧ WOk C W1 S1 H1 ∧ Rel W1 b a ∧ AftI C Wx W1 H1 σ (f env a S1) Q := by
  obtain ⟨H0, W, env, S, e, k, h⟩ := h
  refine ⟨H0, W, env, S, e, k, ?_⟩
  dsimp only at h
  cases q : m env S with
  | ok a S' =>
    rw [q] at h
    have h' : AftI C Wx W H σ (f env a S') Q := h
    exact fun W' H' b s k r => ⟨H0, W', env, S', a, e.step s, k, r, h'.step s k⟩
  | er x S' =>
    rw [q] at h
    exact h
  | no =>
    rw [q] at h
    exact h.elim
theorem AftI.ok {C : Cn} {Wx : WX} {W : Gw} {S : Sto} {H : Hp} {σ : L2.St} {ds : List D} {Q : It → Hp → Prop} (h : AftI C Wx W H σ (.ok ds S) Q) (k : WOk C W S H) {J : It} (r : Walks C W J ds) : Q J H := h W H J (Step.refl W H) k r
section
variable {X : Cx} {C : Cn} {Wx : WX} {pos p tpos : Pos} {tg : Expr} {e e2 : Expr} {me me2 : ME}
theorem walks_list {W : Gw} {S : Sto} {H : Hp} {a : Addr} {vs : List V} {ds : List D} (hf : W.Fz a = some (.lst vs)) (r : RelDs C W vs ds) : Walks C W (Itl C.K a) ds := fun i W2 S2 H2 l k => by
  have hs : SqL C.K H2 a vs := SqL.of (k.fz _ _ (l.fz _ _ hf))
  refine ⟨fun d hd => ?_, fun hn => ⟨vs, hs, by rw [r.length]; exact hn⟩⟩
  obtain ⟨v, h1, h2⟩ := r.get hd
  refine ⟨⟨vs, v, hs, h1⟩, fun x H3 hy => ?_⟩
  obtain ⟨rfl, q⟩ := hy
  have := q vs hs
  rw [h1] at this
  cases this
  exact ⟨W2, Step.refl _ _, k, h2.le l⟩
theorem walks_tup {W : Gw} {S : Sto} {H : Hp} {a : Addr} {vs : List V} {ds : List D} (hf : W.Fz a = some (.tup vs)) (r : RelDs C W vs ds) : Walks C W (Itt C.K a) ds := fun i W2 S2 H2 l k => by
  have hs : SqT C.K H2 a vs := SqT.of (k.fz _ _ (l.fz _ _ hf))
  refine ⟨fun d hd => ?_, fun hn => ⟨vs, hs, by rw [r.length]; exact hn⟩⟩
  obtain ⟨v, h1, h2⟩ := r.get hd
  refine ⟨⟨vs, v, hs, h1⟩, fun x H3 hy => ?_⟩
  obtain ⟨rfl, q⟩ := hy
  have := q vs hs
  rw [h1] at this
  cases this
  exact ⟨W2, Step.refl _ _, k, h2.le l⟩
/-- a list -/
def kItL (d : D) (S : Sto) : R (List D) := match d with
  | .lst xs => .ok xs S
  | _ => .no
def kItT (d : D) (S : Sto) : R (List D) := match d with
  | .tup xs => .ok xs S
  | _ => .no
def iLst (m : ME) : MA := fun env S => (m env S).bind kItL
def iTpl (m : ME) : MA := fun env S => (m env S).bind kItT
theorem si_list (hK : X.K = C.K) (h : PE X e (tE C Wx me)) : PI X tg e (tI C Wx (iLst me)) :=
  (pi_list h).imp fun σ H Q q => (tI.seq (f := fun _ d S1 => kItL d S1) q).imp fun x H1 ⟨H0, W1, env, S1, d, e1, k1, r1, a1⟩ => by
    cases r1 with
    | lst hf r => exact ⟨_, rfl, ⟨_, SqL.of (k1.fz _ _ hf)⟩, by rw [hK]; exact AftI.ok a1 k1 (walks_list (S := S1) (H := H1) hf r)⟩
    | _ => exact a1.elim
theorem si_tup (hK : X.K = C.K) (h : PE X e (tE C Wx me)) : PI X tg e (tI C Wx (iTpl me)) :=
  (pi_tup h).imp fun σ H Q q => (tI.seq (f := fun _ d S1 => kItT d S1) q).imp fun x H1 ⟨H0, W1, env, S1, d, e1, k1, r1, a1⟩ => by
    cases r1 with
    | tup hf r => exact ⟨_, rfl, ⟨_, SqT.of (k1.fz _ _ hf)⟩, by rw [hK]; exact AftI.ok a1 k1 (walks_tup (S := S1) (H := H1) hf r)⟩
    | _ => exact a1.elim
/-- lo, lo + 1, .. -/
def rangeD (lo : Int) (n : Nat) : List D := (List.range n).map fun i => D.int (lo + (i : Nat))
theorem walks_range {W : Gw} (lo : Int) (n : Nat) : Walks C W (Itr lo n) (rangeD lo n) := fun i W2 S2 H2 l k => by
  refine ⟨fun d hd => ?_, fun hn => by
    have h1 : n ≤ i := by simpa [rangeD] using hn
    exact h1⟩
  unfold rangeD at hd
  rw [List.getElem?_map] at hd
  obtain ⟨j, hj, rfl⟩ := Option.map_eq_some_iff.mp hd
  obtain ⟨h1, h2⟩ := List.getElem?_eq_some_iff.mp hj
  rw [List.getElem_range] at h2
  subst h2
  rw [List.length_range] at h1
  exact ⟨h1, fun x H3 ⟨e1, e2⟩ => by
    subst e1 e2
    exact ⟨W2, Step.refl _ _, k, .int _⟩⟩
def inR (i : Int) : Bool := decide (-(2 ^ 62) ≤ i) && decide (i < 2 ^ 62)
theorem inR_ok {i : Int} (h : inR i = true) : -(2 ^ 62) ≤ i ∧ i < 2 ^ 62 := by
  unfold inR at h
  rw [Bool.and_eq_true] at h
  exact ⟨of_decide_eq_true h.1, of_decide_eq_true h.2⟩
def kR1 (d : D) (S : Sto) : R (List D) := match d with
  | .int j => if inR j = true then .ok (rangeD 0 j.toNat) S else .no
  | _ => .no
def kR2 (d e : D) (S : Sto) : R (List D) := match d, e with
  | .int i, .int j => if (inR i && inR j) = true then .ok (rangeD i (j - i).toNat) S else .no
  | _, _ => .no
def kR3 (d e : D) (S : Sto) : R (List D) := match d, e with
  | .int i, .int j => if (inR i && inR j) = true then .ok ((List.range (i - j).toNat).map fun t => D.int (i + (t : Nat) * (-1))) S else .no
  | _, _ => .no
def iR1 (m : ME) : MA := fun env S => (m env S).bind kR1
def iR2 (m m' : ME) : MA := fun env S => (m env S).bind fun d S1 => (m' env S1).bind fun e S2 => kR2 d e S2
/-- downward, by ones -/
def iR3 (m m' : ME) : MA := fun env S => (m env S).bind fun d S1 => (m' env S1).bind fun e S2 => kR3 d e S2
theorem si_range1 (hg : Gl X "range") (hm : X.mg "range" = none) (h : PE X e (tE C Wx me)) (hs : starEach [e] X.env = [(false, eval e X.env)] := by rfl) : PI X tg (.Call (.Name "range" p) [e] [] pos) (tI C Wx (iR1 me)) :=
  (pi_range1 hg hm (pa_cons h pa_nil (by rw [hs]; rfl)) hs).imp fun σ H Q q => (tI.seq (f := fun _ d S1 => kR1 d S1) q).imp fun x H1 ⟨H0, W1, env, S1, d, e1, k1, r1, a1⟩ => by
    cases r1 with
    | int j =>
      simp only [kR1] at a1
      split at a1
      · rename_i hz
        obtain ⟨z1, z2⟩ := inR_ok hz
        exact ⟨j, rfl, z1, z2, AftI.ok a1 k1 (walks_range 0 _)⟩
      · exact a1.elim
    | _ => exact a1.elim
theorem AftI.bind {α β : Type} {C : Cn} {Wx : WX} {Rel : Gw → β → α → Prop} {W : Gw} {H : Hp} {σ : L2.St} {r : R α} {f : α → Sto → R (List D)} {Q : It → Hp → Prop} (h : AftI C Wx W H σ (r.bind f) Q) :
    Aft C Wx Rel W H σ r fun b H1 => ∃ W1 S1 a, Step W H W1 H1 ∧ WOk C W1 S1 H1 ∧ Rel W1 b a ∧ AftI C Wx W1 H1 σ (f a S1) Q := by
  cases r with
  | ok a S' =>
    have h' : AftI C Wx W H σ (f a S') Q := h
    exact fun W' H' b s k r => ⟨W', S', a, s, k, r, h'.step s k⟩
  | er x S' => exact h
  | no => exact h.elim
theorem si_range2 (hg : Gl X "range") (hm : X.mg "range" = none) (h : PE X e (tE C Wx me)) (h' : PE X e2 (tE C Wx me2)) (hs : starEach [e, e2] X.env = [(false, eval e X.env), (false, eval e2 X.env)] := by rfl) (hs2 : starEach [e2] X.env = [(false, eval e2 X.env)] := by rfl) :
    PI X tg (.Call (.Name "range" p) [e, e2] [] pos) (tI C Wx (iR2 me me2)) :=
  (pi_range2 hg hm (pa_cons h (pa_cons h' pa_nil (by rw [hs2]; rfl)) (by rw [hs, hs2])) hs hs2).imp fun σ H Q q => (tI.seq (f := fun env d S1 => (me2 env S1).bind fun e S2 => kR2 d e S2) q).imp fun x H1 ⟨H0, W1, env, S1, d, e1, k1, r1, a1⟩ =>
    ⟨H0, W1, env, S1, e1, k1, a1.bind.imp fun y H2 ⟨W2, S2, d2, s2, k2, r2, a2⟩ => by
      cases r1 with
      | int i => cases r2 with
        | int j =>
          simp only [kR2] at a2
          split at a2
          · rename_i hz
            rw [Bool.and_eq_true] at hz
            obtain ⟨z1, z2⟩ := inR_ok hz.1
            obtain ⟨z3, z4⟩ := inR_ok hz.2
            exact ⟨i, j, rfl, ⟨z1, z2, z3, z4⟩, AftI.ok a2 k2 (walks_range i _)⟩
          · exact a2.elim
        | _ => exact a2.elim
      | _ => exact a2.elim⟩
theorem walks_rangeC {W : Gw} (lo c : Int) (n : Nat) : Walks C W (Itc lo c n) ((List.range n).map fun t => D.int (lo + (t : Nat) * c)) := fun i W2 S2 H2 l k => by
  refine ⟨fun d hd => ?_, fun hn => by
    have h1 : n ≤ i := by simpa using hn
    exact h1⟩
  rw [List.getElem?_map] at hd
  obtain ⟨j, hj, rfl⟩ := Option.map_eq_some_iff.mp hd
  obtain ⟨h1, h2⟩ := List.getElem?_eq_some_iff.mp hj
  rw [List.getElem_range] at h2
  subst h2
  rw [List.length_range] at h1
  exact ⟨h1, fun x H3 ⟨e1, e2⟩ => by
    subst e1 e2
    exact ⟨W2, Step.refl _ _, k, .int _⟩⟩
theorem si_range3 {q1 q2 : Pos} {j : Nat} (hg : Gl X "range") (hm : X.mg "range" = none) (h : PE X e (tE C Wx me)) (h' : PE X e2 (tE C Wx me2)) (hs : starEach [e, e2, .UnaryOp .USub (.Constant (.int 1) j q1) q2] X.env = [(false, eval e X.env), (false, eval e2 X.env), (false, eval (.UnaryOp .USub (.Constant (.int 1) j q1) q2) X.env)] := by rfl)
    (hs2 : starEach [e2, .UnaryOp .USub (.Constant (.int 1) j q1) q2] X.env = [(false, eval e2 X.env), (false, eval (.UnaryOp .USub (.Constant (.int 1) j q1) q2) X.env)] := by rfl) :
    PI X tg (.Call (.Name "range" p) [e, e2, .UnaryOp .USub (.Constant (.int 1) j q1) q2] [] pos) (tI C Wx (iR3 me me2)) :=
  (pi_range3 hg hm (pa_cons h (pa_cons h' (pa_cons (pe_un un_neg pe_int) pa_nil (by rfl)) (by rw [hs2]; rfl)) (by rw [hs, hs2])) (hs := by rw [hs, hs2]) (hpl := by rw [hs2]; rfl)).imp fun σ H Q q => (tI.seq (f := fun env d S1 => (me2 env S1).bind fun e S2 => kR3 d e S2) q).imp fun x H1 ⟨H0, W1, env, S1, d, e1, k1, r1, a1⟩ =>
    ⟨H0, W1, env, S1, e1, k1, a1.bind.imp fun y H2 ⟨W2, S2, d2, s2, k2, r2, a2⟩ => by
      cases r1 with
      | int i => cases r2 with
        | int j =>
          simp only [kR3] at a2
          split at a2
          · rename_i hz
            rw [Bool.and_eq_true] at hz
            obtain ⟨z1, z2⟩ := inR_ok hz.1
            obtain ⟨z3, z4⟩ := inR_ok hz.2
            exact ⟨1, rfl, i, j, -1, _, rfl, RgC.neg z1 z2 z3 z4, AftI.ok a2 k2 (walks_rangeC i (-1) _)⟩
          · exact a2.elim
        | _ => exact a2.elim
      | _ => exact a2.elim⟩
end
end PV

set_option autoImplicit false
set_option Elab.async false
set_option linter.all false
set_option maxRecDepth 100000
set_option maxHeartbeats 4000000
/-! PV7: zip, enumerate, reversed; targets; list comprehensions. -/
namespace PV
open PySem PySem.Spec PyProof.Rows L2 RZ

def kZip (d e : D) (S : Sto) : R (List D) := match d, e with
  | .lst xs, .lst ys => .ok (List.zipWith (fun x y => D.tup [x, y]) xs ys) S
  | .tup xs, .tup ys => .ok (List.zipWith (fun x y => D.tup [x, y]) xs ys) S
  | _, _ => .no
def iZp (m m' : ME) : MA := fun env S => (m env S).bind fun d S1 => (m' env S1).bind fun e S2 => kZip d e S2
def kEnum (d : D) (S : Sto) : R (List D) := match d with
  | .lst xs => .ok (xs.mapIdx fun i x => D.tup [.int (i : Nat), x]) S
  | _ => .no
def iEn (m : ME) : MA := fun env S => (m env S).bind kEnum
def kRev (d : D) (S : Sto) : R (List D) := match d with
  | .lst xs => .ok xs.reverse S
  | _ => .no
def iRv (m : ME) : MA := fun env S => (m env S).bind kRev
section
variable {X : Cx} {C : Cn} {Wx : WX} {pos p tpos : Pos} {tg : Expr} {e e2 : Expr} {me me2 : ME} {elts : List Expr} {kk : Nat}
theorem pair_new {W : Gw} {S : Sto} {H : Hp} {x y : V} {d e : D} (k : WOk C W S H) (r : RelD C W x d) (q : RelD C W y e) {T : Addr} (hT : H T = none) :
    ∃ W3, Step W H W3 (upd H T (.tup [x, y])) ∧ WOk C W3 S (upd H T (.tup [x, y])) ∧ RelD C W3 (.ref T) (.tup [d, e]) :=
  ⟨_, lay_tup k hT (.cons r (.cons q .nil))⟩
theorem walks_zip {W : Gw} {a b : Addr} {vs us : List V} {ds es : List D} (hf : W.Fz a = some (.lst vs)) (hf' : W.Fz b = some (.lst us)) (r : RelDs C W vs ds) (q : RelDs C W us es) :
    Walks C W (Itz C.K a b) (List.zipWith (fun x y => D.tup [x, y]) ds es) := fun i W2 S2 H2 l k => by
  have h1 : SqL C.K H2 a vs := SqL.of (k.fz _ _ (l.fz _ _ hf))
  have h2 : SqL C.K H2 b us := SqL.of (k.fz _ _ (l.fz _ _ hf'))
  refine ⟨fun d hd => ?_, fun hn => ⟨vs, us, h1, h2, ?_⟩⟩
  · rw [List.getElem?_zipWith] at hd
    split at hd
    · rename_i x y hx hy
      cases hd
      obtain ⟨v, q1, q2⟩ := r.get hx
      obtain ⟨u, q3, q4⟩ := q.get hy
      refine ⟨⟨vs, us, v, u, h1, h2, q1, q3⟩, fun z H3 ⟨T, x', y', ez, hT, eH, g1, g2⟩ => ?_⟩
      have e1 := g1 vs h1
      have e2 := g2 us h2
      rw [q1] at e1
      rw [q3] at e2
      cases e1
      cases e2
      subst ez eH
      exact pair_new k (q2.le l) (q4.le l) hT
    · cases hd
  · have hl := r.length
    have hl' := q.length
    rw [List.length_zipWith] at hn
    omega
theorem walks_zipT {W : Gw} {a b : Addr} {vs us : List V} {ds es : List D} (hf : W.Fz a = some (.tup vs)) (hf' : W.Fz b = some (.tup us)) (r : RelDs C W vs ds) (q : RelDs C W us es) :
    Walks C W (ItzT C.K a b) (List.zipWith (fun x y => D.tup [x, y]) ds es) := fun i W2 S2 H2 l k => by
  have h1 : SqT C.K H2 a vs := SqT.of (k.fz _ _ (l.fz _ _ hf))
  have h2 : SqT C.K H2 b us := SqT.of (k.fz _ _ (l.fz _ _ hf'))
  refine ⟨fun d hd => ?_, fun hn => ⟨vs, us, h1, h2, ?_⟩⟩
  · rw [List.getElem?_zipWith] at hd
    split at hd
    · rename_i x y hx hy
      cases hd
      obtain ⟨v, q1, q2⟩ := r.get hx
      obtain ⟨u, q3, q4⟩ := q.get hy
      refine ⟨⟨vs, us, v, u, h1, h2, q1, q3⟩, fun z H3 ⟨T, x', y', ez, hT, eH, g1, g2⟩ => ?_⟩
      have e1 := g1 vs h1
      have e2 := g2 us h2
      rw [q1] at e1
      rw [q3] at e2
      cases e1
      cases e2
      subst ez eH
      exact pair_new k (q2.le l) (q4.le l) hT
    · cases hd
  · have hl := r.length
    have hl' := q.length
    rw [List.length_zipWith] at hn
    omega
theorem si_zip (hK : X.K = C.K) (hg : Gl X "zip") (hm : X.mg "zip" = none) (h : PE X e (tE C Wx me)) (h' : PE X e2 (tE C Wx me2)) (hs : starEach [e, e2] X.env = (false, eval e X.env) :: starEach [e2] X.env := by rfl) (hs2 : starEach [e2] X.env = [(false, eval e2 X.env)] := by rfl) :
    PI X (.Tuple elts kk tpos) (.Call (.Name "zip" p) [e, e2] [] pos) (tI C Wx (iZp me me2)) :=
  (pi_zipA hg hm (pa_cons h (pa_cons h' pa_nil (by rw [hs2]; rfl)) hs) hs (by rw [hs2]; rfl)).imp fun σ H Q q => (tI.seq (f := fun env d S1 => (me2 env S1).bind fun e S2 => kZip d e S2) q).imp fun x H1 ⟨H0, W1, env, S1, d, e1, k1, r1, a1⟩ =>
    ⟨H0, W1, env, S1, e1, k1, a1.bind.imp fun y H2 ⟨W2, S2, d2, s2, k2, r2, a2⟩ => by
      have r1 := r1.le s2.le
      cases r1 with
      | lst hf r => cases r2 with
        | lst hf' r' => exact ⟨_, _, _, _, rfl, .inl ⟨SqL.of (k2.fz _ _ hf), SqL.of (k2.fz _ _ hf'), by rw [hK]; exact AftI.ok a2 k2 (walks_zip hf hf' r r')⟩⟩
        | _ => exact a2.elim
      | tup hf r => cases r2 with
        | tup hf' r' => exact ⟨_, _, _, _, rfl, .inr ⟨SqT.of (k2.fz _ _ hf), SqT.of (k2.fz _ _ hf'), by rw [hK]; exact AftI.ok a2 k2 (walks_zipT hf hf' r r')⟩⟩
        | _ => exact a2.elim
      | _ => exact a2.elim⟩
theorem walks_enum {W : Gw} {a : Addr} {vs : List V} {ds : List D} (hf : W.Fz a = some (.lst vs)) (r : RelDs C W vs ds) : Walks C W (Ite C.K a) (ds.mapIdx fun i x => D.tup [.int (i : Nat), x]) := fun i W2 S2 H2 l k => by
  have h1 : SqL C.K H2 a vs := SqL.of (k.fz _ _ (l.fz _ _ hf))
  refine ⟨fun d hd => ?_, fun hn => ⟨vs, h1, by rw [r.length]; simpa using hn⟩⟩
  rw [List.getElem?_mapIdx] at hd
  obtain ⟨x, hx, rfl⟩ := Option.map_eq_some_iff.mp hd
  obtain ⟨v, q1, q2⟩ := r.get hx
  refine ⟨⟨vs, v, h1, q1⟩, fun z H3 ⟨T, x', ez, hT, eH, g1⟩ => ?_⟩
  have e1 := g1 vs h1
  rw [q1] at e1
  cases e1
  subst ez eH
  exact pair_new k (.int _) (q2.le l) hT
theorem si_enum (hK : X.K = C.K) (hg : Gl X "enumerate") (hm : X.mg "enumerate" = none) (h : PE X e (tE C Wx me)) (hs : starEach [e] X.env = [(false, eval e X.env)] := by rfl) :
    PI X (.Tuple elts kk tpos) (.Call (.Name "enumerate" p) [e] [] pos) (tI C Wx (iEn me)) :=
  (pi_enum hg hm (pa_cons h pa_nil (by rw [hs]; rfl)) hs).imp fun σ H Q q => (tI.seq (f := fun _ d S1 => kEnum d S1) q).imp fun x H1 ⟨H0, W1, env, S1, d, e1, k1, r1, a1⟩ => by
    cases r1 with
    | lst hf r => exact ⟨_, _, rfl, SqL.of (k1.fz _ _ hf), by rw [hK]; exact AftI.ok a1 k1 (walks_enum hf r)⟩
    | _ => exact a1.elim
theorem walks_rev {W : Gw} {a : Addr} {vs : List V} {ds : List D} (hf : W.Fz a = some (.lst vs)) (r : RelDs C W vs ds) : Walks C W (Itv C.K a vs.length) ds.reverse := fun i W2 S2 H2 l k => by
  have h1 : SqL C.K H2 a vs := SqL.of (k.fz _ _ (l.fz _ _ hf))
  have hl := r.length
  refine ⟨fun d hd => ?_, fun hn => by
    have h2 : vs.length ≤ i := by rw [hl]; simpa using hn
    exact h2⟩
  have hi : i < ds.length := by simpa using (List.getElem?_eq_some_iff.mp hd).1
  rw [List.getElem?_reverse hi] at hd
  obtain ⟨v, q1, q2⟩ := r.get hd
  rw [← hl] at q1
  refine ⟨⟨by omega, vs, v, h1, q1⟩, fun x H3 ⟨eH, g1⟩ => ?_⟩
  have e1 := g1 vs h1
  rw [q1] at e1
  cases e1
  subst eH
  exact ⟨W2, Step.refl _ _, k, q2.le l⟩
theorem si_rev (hK : X.K = C.K) (hg : Gl X "reversed") (hm : X.mg "reversed" = none) (h : PE X e (tE C Wx me)) (hs : starEach [e] X.env = [(false, eval e X.env)] := by rfl) : PI X tg (.Call (.Name "reversed" p) [e] [] pos) (tI C Wx (iRv me)) :=
  (pi_reversed hg hm (pa_cons h pa_nil (by rw [hs]; rfl)) hs).imp fun σ H Q q => (tI.seq (f := fun _ d S1 => kRev d S1) q).imp fun x H1 ⟨H0, W1, env, S1, d, e1, k1, r1, a1⟩ => by
    cases r1 with
    | lst hf r => exact ⟨_, _, rfl, SqL.of (k1.fz _ _ hf), by rw [hK]; exact AftI.ok a1 k1 (walks_rev hf r)⟩
    | _ => exact a1.elim
end

/-! ### a list or a tuple, as it comes -/
def kIt (d : D) (S : Sto) : R (List D) := match d with
  | .lst xs => .ok xs S
  | .tup xs => .ok xs S
  | _ => .no
def iSeq (m : ME) : MA := fun env S => (m env S).bind kIt
section
variable {X : Cx} {C : Cn} {Wx : WX} {tg : Expr} {e : Expr} {me : ME}
theorem si_seq (hK : X.K = C.K) (h : PE X e (tE C Wx me)) : PI X tg e (tI C Wx (iSeq me)) := by
  refine ⟨fun pins s σ H Q I q => ?_⟩
  refine thn (h.run pins s σ H _ I (tI.seq (f := fun _ d S1 => kIt d S1) q)) fun v s1 ⟨x, H1, I1, rv, H0, W1, env, S1, d, e1, k1, r1, a1⟩ => ?_
  have fp : ∀ b ∈ [s1.heap.objs.size], FpOk X pins H1 b := fun b hb => by
    rw [List.mem_singleton.mp hb]
    exact I1.fpOk (Nat.le_refl _) (I1.hok.fresh (Nat.le_refl _))
  cases r1 with
  | lst hf r =>
    cases rv
    obtain ⟨its, _, p, _⟩ := I1.list (SqL.of (k1.fz _ _ hf))
    exact wpAny_pyIter_list p.isList ⟨_, [_], _, _, H1, rfl, I1.kept (t' := s1.toks) fun b o e => Heap.get?_push_of_some _ e, turn_list _ _, ⟨_, Heap.get?_push_size _ rfl, rfl, rfl⟩, fp, by rw [hK]; exact AftI.ok a1 k1 (walks_list (S := S1) (H := H1) hf r)⟩
  | tup hf r =>
    cases rv
    obtain ⟨its, _, p, _⟩ := I1.tuple (SqT.of (k1.fz _ _ hf))
    exact wpAny_pyIter_tuple (show s1.heap.IsTuple _ its.toArray from p) ⟨_, [_], _, _, H1, rfl, I1.kept (t' := s1.toks) fun b o e => Heap.get?_push_of_some _ e, turn_tuple _ _, ⟨_, Heap.get?_push_size _ rfl, rfl, rfl⟩, fp, by rw [hK]; exact AftI.ok a1 k1 (walks_tup (S := S1) (H := H1) hf r)⟩
  | _ => exact a1.elim
end

/-! ### targets -/
inductive Tg where
  | n (i : Nat) | t (is : List Nat)
def Tg.slots : Tg → List Nat
  | .n i => [i]
  | .t is => is
def setAll (σ : L2.St) : List Nat → List V → L2.St
  | i :: is, v :: vs => setAll (σ.set i (some v)) is vs
  | _, _ => σ
def setEnv (env : Env) : List Nat → List D → Env
  | i :: is, d :: ds => setEnv (env.set i (.v d)) is ds
  | _, _ => env
def tTgs (is : List Nat) : TGs := fun vs σ H Q => vs.length = is.length ∧ Q (setAll σ is vs) H
def tTg (K : PySem.W.Frag) : Tg → TG
  | .n i => gName i
  | .t is => fun v σ H Q => ∃ a vs, v = .ref a ∧ SqT K H a vs ∧ vs.length = is.length ∧ Q (setAll σ is vs) H
def tgE (tg : Tg) (d : D) (env : Env) : Option Env := match tg with
  | .n i => some (env.set i (.v d))
  | .t is => (match d with
    | .tup ds => if ds.length = is.length then some (setEnv env is ds) else none
    | _ => none)
theorem setAll_ok {C : Cn} {H0 : Hp} {W : Gw} {H : Hp} : ∀ {is : List Nat} {vs : List V} {ds : List D} {σ : L2.St} {env : Env}, RelDs C W vs ds → EnvOk C H0 W H σ env → EnvOk C H0 W H (setAll σ is vs) (setEnv env is ds)
  | [], _, _, _, _, _, e => by unfold setAll setEnv; exact e
  | _ :: _, _, _, _, _, .nil, e => by unfold setAll setEnv; exact e
  | i :: is, _, _, σ, env, .cons r t, e => by
    unfold setAll setEnv
    exact setAll_ok t (e.setV i r)
theorem wipe_set_mem {i : Nat} {x : Option V} : ∀ {vs : List Nat} {σ : L2.St}, i ∈ vs → wipe (σ.set i x) vs = wipe σ vs
  | [], _, h => by cases h
  | v :: vs, σ, h => by
    unfold wipe
    by_cases hm : i ∈ vs
    · rw [wipe_set_mem hm]
    · have e : i = v := by
        rcases List.mem_cons.mp h with z | z
        · exact z
        · exact absurd z hm
      subst e
      have h2 : wipe (σ.set i x) vs = (wipe σ vs).set i x := by
        clear h
        induction vs with
        | nil => rfl
        | cons u us ih =>
          unfold wipe
          have hne : i ≠ u := fun z => hm (by rw [z]; exact List.mem_cons_self)
          rw [ih fun z => hm (List.mem_cons_of_mem _ z), List.set_comm _ _ hne]
      rw [h2, List.set_set]
theorem wipe_setAll {vs : List Nat} : ∀ {is : List Nat} {us : List V} {σ : L2.St}, (∀ i ∈ is, i ∈ vs) → wipe (setAll σ is us) vs = wipe σ vs
  | [], _, _, _ => by unfold setAll; rfl
  | _ :: _, [], _, _ => by unfold setAll; rfl
  | i :: is, u :: us, σ, h => by
    unfold setAll
    rw [wipe_setAll fun j hj => h j (List.mem_cons_of_mem _ hj), wipe_set_mem (h i List.mem_cons_self)]
def wipeE (env : Env) : List Nat → Env
  | [] => env
  | v :: vs => (wipeE env vs).set v .u
theorem wipe_env {C : Cn} {H0 : Hp} {W : Gw} {H : Hp} {σ : L2.St} {env : Env} (e : EnvOk C H0 W H σ env) : ∀ vs : List Nat, EnvOk C H0 W H (wipe σ vs) (wipeE env vs)
  | [] => e
  | v :: vs => by
    unfold wipe wipeE
    exact (wipe_env e vs).forget v none
theorem wipe_wipe (σ : L2.St) (vs : List Nat) : wipe (wipe σ vs) vs = wipe σ vs := by
  have key : ∀ (us : List Nat) (τ : L2.St), (∀ i ∈ us, i < τ.length → τ[i]? = some none) → wipe τ us = τ := by
    intro us
    induction us with
    | nil => intro τ _; rfl
    | cons u us ih =>
      intro τ h
      unfold wipe
      rw [ih τ fun i hi => h i (List.mem_cons_of_mem _ hi)]
      apply List.ext_getElem?
      intro j
      by_cases hj : j = u
      · subst hj
        by_cases hl : j < τ.length
        · rw [List.getElem?_set_self hl, h j List.mem_cons_self hl]
        · rw [List.getElem?_eq_none (by simpa using hl), List.getElem?_eq_none (by simpa using hl)]
      · rw [List.getElem?_set_ne (Ne.symm hj)]
  refine key vs _ fun i hi hl => ?_
  cases q : (wipe σ vs)[i]? with
  | none =>
    rw [List.getElem?_eq_none_iff] at q
    omega
  | some o =>
    cases o with
    | none => rfl
    | some x => exact absurd hi (wipe_some q).2
section
variable {X : Cx} {C : Cn} {pos : Pos} {k : Nat}
theorem sg_name {i : Nat} {x : Str} (hN : X.N.Nodup) (hi : X.N[i]? = some x) (hx : Loc X.env.scope x) (hf : X.fn x = true ∨ X.env.scope.names.lookup x = some .local) : PG X (.Name x pos) (tTg X.K (.n i)) := pg_name hN hi hx hf
theorem sgs_nil : PGs X [] (tTgs []) := ⟨fun pins s σ H vs us Q I r h => pgs_nil.run pins s σ H vs us Q I r (by
  obtain ⟨h1, h2⟩ := h
  have e : vs = [] := List.length_eq_zero_iff.mp h1
  subst e
  exact ⟨rfl, h2⟩)⟩
theorem sgs_cons {e : Expr} {es : List Expr} {i : Nat} {is : List Nat} (h1 : PG X e (tTg X.K (.n i))) (h2 : PGs X es (tTgs is))
    (hs : (assignEach (e :: es) X.env).map (·.2) = assign e X.env :: (assignEach es X.env).map (·.2) := by rfl) : PGs X (e :: es) (tTgs (i :: is)) := ⟨fun pins s σ H vs us Q I r h => (pgs_cons h1 h2 hs).run pins s σ H vs us Q I r (by
  obtain ⟨h1, h2⟩ := h
  cases vs with
  | nil => cases h1
  | cons v vs => exact ⟨v, vs, rfl, Nat.succ.inj h1, by unfold setAll at h2; exact h2⟩)⟩
theorem sg_tup {es : List Expr} {is : List Nat} (hc : X.calm = true) (h : PGs X es (tTgs is)) (hn : (assignEach es X.env).length = is.length := by rfl) (hst : (assignEach es X.env).findIdx? (·.1) = none := by rfl) : PG X (.Tuple es k pos) (tTg X.K (.t is)) :=
  ⟨fun pins s σ H v u Q I r hw => (pg_tup hc h hn hst).run pins s σ H v u Q I r (by
    obtain ⟨a, vs, e, h1, h2, h3⟩ := hw
    exact ⟨a, vs, e, h1, h2, h2, h3⟩)⟩
/-- the reading of a target, from data -/
theorem tg_ok {K : PySem.W.Frag} (hK : K = C.K) {tg : Tg} {d : D} {v : V} {H0 : Hp} {W : Gw} {S : Sto} {H : Hp} {σ : L2.St} {env env1 : Env} {Q : L2.St → Hp → Prop} (r : RelD C W v d) (e : EnvOk C H0 W H σ env) (k : WOk C W S H) (h : tgE tg d env = some env1)
    (q : ∀ σ1, EnvOk C H0 W H σ1 env1 → (∀ vs : List Nat, (∀ i ∈ tg.slots, i ∈ vs) → wipe σ1 vs = wipe σ vs) → Q σ1 H) : tTg K tg v σ H Q := by
  cases tg with
  | n i =>
    cases h
    exact q _ (e.setV i r) fun vs hv => wipe_set_mem (hv i List.mem_cons_self)
  | t is =>
    unfold tgE at h
    cases r with
    | tup hf rr =>
      simp only at h
      split at h
      · rename_i hl
        cases h
        exact ⟨_, _, rfl, SqT.of (k.fz _ _ hf), by rw [rr.length]; exact hl, q _ (setAll_ok rr e) fun vs hv => wipe_setAll hv⟩
      · cases h
    | _ => cases h
end

/-! ### list comprehensions -/
def compL (tg : Tg) (vs : List Nat) (mt : MT) (me : ME) (env : Env) : List D → Sto → R (List D)
  | [], S => .ok [] S
  | d :: ds, S => match tgE tg d (wipeE env vs) with
    | none => .no
    | some env1 => (match mt env1 S with
      | .ok true S1 => (match me env1 S1 with
        | .ok y S2 => (compL tg vs mt me env ds S2).bind fun ys S3 => .ok (y :: ys) S3
        | _ => .no)
      | .ok false S1 => compL tg vs mt me env ds S1
      | _ => .no)
def kComp (tg : Tg) (vs : List Nat) (mt : MT) (me : ME) (env : Env) (ds : List D) (S : Sto) : R (List D) := if ds.length ≤ sizeLine then compL tg vs mt me env ds S else .no
def fComp (mi : MA) (tg : Tg) (vs : List Nat) (mt : MT) (me : ME) : MA := fun env S => (mi env S).bind fun ds S1 => kComp tg vs mt me env ds S1
def cYes : MT := fun _ S => .ok true S
abbrev Wno : WX := fun _ _ _ _ => False
def pre (xs : List D) (r : R (List D)) : R (List D) := match r with
  | .ok ys S => .ok (xs ++ ys) S
  | .er x S => .er x S
  | .no => .no
theorem pre_bind (xs : List D) (y : D) (r : R (List D)) : pre xs (r.bind fun ys S3 => .ok (y :: ys) S3) = pre (xs ++ [y]) r := by
  cases r with
  | ok ys S => simp [pre, R.bind]
  | er x S => rfl
  | no => rfl
theorem pre_nil (r : R (List D)) : pre [] r = r := by cases r <;> rfl
/-- no exception comes out of a comprehension -/
theorem compL_ne (tg : Tg) (vs : List Nat) (mt : MT) (me : ME) (env : Env) : ∀ (ds : List D) (S : Sto) (x : Exn) (S' : Sto), compL tg vs mt me env ds S ≠ .er x S'
  | [], S, x, S', h => by cases h
  | d :: ds, S, x, S', h => by
    unfold compL at h
    split at h
    · cases h
    · split at h
      · split at h
        · rename_i y S2 _
          cases q : compL tg vs mt me env ds S2 with
          | ok a b =>
            rw [q] at h
            cases h
          | er a b => exact compL_ne tg vs mt me env ds S2 a b q
          | no =>
            rw [q] at h
            cases h
        · cases h
      · exact compL_ne tg vs mt me env ds _ x S' h
      · cases h
theorem t_lc {K : PySem.W.Frag} {C : Cn} {Wx : WX} (hK : K = C.K) {mi : MA} {tg : Tg} {vs : List Nat} {mt : MT} {me : ME} (hv : ∀ i ∈ tg.slots, i ∈ vs) {σ : L2.St} {H : Hp} {Q : VK} (h : tF C Wx (fComp mi tg vs mt me) σ H Q) :
    tLc (tI C Wx mi) (tTg K tg) (tT C Wno mt) (tE C Wno me) vs σ H Q := by
  obtain ⟨H0, W, env, S, en, k, h⟩ := h
  refine ⟨H0, W, env, S, en, k, ?_⟩
  unfold fComp at h
  cases q : mi env S with
  | er x S' =>
    rw [q] at h
    exact h
  | no =>
    rw [q] at h
    exact h.elim
  | ok ds S' =>
    rw [q] at h
    have h' : AftF C Wx W H σ (kComp tg vs mt me env ds S') Q := h
    simp only [kComp] at h'
    split at h'
    rename_i hz
    case isFalse => exact h'.elim
    intro W1 H1 J s1 k1 wk L hD
    have h1 := h'.step s1 k1
    have e1 := en.step s1
    refine ⟨fun i m H2 => m = ds.length - i ∧ i ≤ ds.length ∧ ∃ (W2 : Gw) (S2 : Sto) (acc : List V) (xs : List D), Step W1 H1 W2 H2 ∧ WOk C W2 S2 H2 ∧ H2 L = some (.lst acc) ∧ W2.Fz L = none ∧ L ∉ W2.φ ∧ RelDs C W2 acc xs ∧ acc.length ≤ i ∧
        AftF C Wx W1 H1 σ (pre xs (compL tg vs mt me env (ds.drop i) S2)) Q, ⟨_, rfl, Nat.zero_le _, W1, S', [], [], ?_, ?_, upd_same, k1.noFz hD, k1.noPh hD, .nil, Nat.le_refl _, ?_⟩, ?_⟩
    · exact Step.grow W1 (grow_upd hD)
    · exact k1.grow (grow_upd hD)
    · rw [pre_nil]
      exact h1
    · rintro i m H2 ⟨rfl, hi, W2, S2, acc, xs, s2, k2, g1, g2, g3, rr, hl, af⟩
      obtain ⟨wa, wb⟩ := wk i W2 S2 H2 s2.le k2
      by_cases hlt : i < ds.length
      · refine .inr ?_
        have hd : ds[i]? = some ds[i] := List.getElem?_eq_getElem hlt
        obtain ⟨go, wy⟩ := wa _ hd
        refine ⟨go, fun H' => ∃ (W2 : Gw) (S2 : Sto) (acc : List V) (xs : List D), Step W1 H1 W2 H' ∧ WOk C W2 S2 H' ∧ H' L = some (.lst acc) ∧ W2.Fz L = none ∧ L ∉ W2.φ ∧ RelDs C W2 acc xs ∧ acc.length ≤ i + 1 ∧
          AftF C Wx W1 H1 σ (pre xs (compL tg vs mt me env (ds.drop (i + 1)) S2)) Q, fun H' hn => ⟨_, by omega, rfl, by omega, hn⟩, fun x H3 hy => ?_⟩
        obtain ⟨W3, s3, k3, rx⟩ := wy x H3 hy
        rw [List.drop_eq_getElem_cons hlt] at af
        unfold compL at af
        have s13 := s2.trans k2 s3
        obtain ⟨g1, g2, g3⟩ := s3.own g1 g2 g3
        have ew := wipe_env (e1.step s13) vs
        cases qt : tgE tg ds[i] (wipeE env vs) with
        | none =>
          rw [qt] at af
          exact af.elim
        | some env1 =>
          rw [qt] at af
          refine tg_ok hK rx ew k3 qt fun σ1 eσ ww => ⟨(ww vs hv).trans (wipe_wipe σ vs), H0, W3, env1, S2, eσ, k3, ?_⟩
          cases qm : mt env1 S2 with
          | er x S9 =>
            simp only [qm] at af
            exact af.elim
          | no =>
            simp only [qm] at af
            exact af.elim
          | ok b S3 =>
            intro W4 H4 b' s4 k4 eb
            have eb : b' = b := eb
            subst eb
            have s14 := s13.trans k3 s4
            obtain ⟨g1, g2, g3⟩ := s4.own g1 g2 g3
            cases b' with
            | false =>
              simp only [qm] at af
              exact iteF ⟨W4, S3, acc, xs, s14, k4, g1, g2, g3, (rr.le s3.le).le s4.le, by omega, af⟩
            | true =>
              simp only [qm] at af
              refine iteT ⟨H0, W4, env1, S3, eσ.step s4, k4, ?_⟩
              cases qe : me env1 S3 with
              | er x S9 =>
                simp only [qe] at af
                exact af.elim
              | no =>
                simp only [qe] at af
                exact af.elim
              | ok y S4 =>
                simp only [qe] at af
                rw [pre_bind] at af
                intro W5 H5 v s5 k5 rv
                have s15 := s14.trans k4 s5
                obtain ⟨g1, g2, g3⟩ := s5.own g1 g2 g3
                exact ⟨acc, g1, by omega, W5, S4, acc ++ [v], xs ++ [y], s15.ownW (.of hD), k5.own g1 g2 g3 (k1.frb (.of hD)), upd_same, g2, g3, (((rr.le s3.le).le s4.le).le s5.le).append (.one rv), by simp; omega, af⟩
      · refine .inl ⟨wb (by omega), ?_⟩
        rw [List.drop_of_length_le (by omega)] at af
        unfold compL at af
        simp only [pre, List.append_nil] at af
        exact af W2 H2 L acc s2 k2 g1 g2 g3 (.of hD) rr
section
variable {X : Cx} {C : Cn} {Wx : WX} {elt tg iter : Expr} {ifs : List Expr} {scope : Scope} {own : List (Str × Nat)} {pos : Pos} {mi : MA} {t : Tg} {mt : MT} {me : ME}
theorem st_ifs0 : PTs X [] (tT C Wx cYes) := ⟨fun pins s σ H Q I h => pts_nil.run pins s σ H Q I (by
  obtain ⟨H0, W, env, S, e, k, h⟩ := h
  exact Aft.ok h k rfl)⟩
theorem st_ifs1 {c : Expr} (h : PT X c (tT C Wx mt)) : PTs X [c] (tT C Wx mt) := pts_one h
theorem sf_comp (hK : X.K = C.K) (hc : X.calm = true) (hN : X.N.Nodup) (hi : PI X tg iter (tI C Wx mi)) (ok : blkC X.N X.env.scope scope own = true)
    (hg : ∀ (s : Shared) (H : Hp) (A : Addr) (cl : List (Str × Addr)) (fp : List Addr), PG (X.blk s H scope (compEnvC scope cl A X.env) fp) tg (tTg X.K t))
    (ht : ∀ (s : Shared) (H : Hp) (A : Addr) (cl : List (Str × Addr)) (fp : List Addr), PTs (X.blk s H scope (compEnvC scope cl A X.env) fp) ifs (tT C Wno mt))
    (he : ∀ (s : Shared) (H : Hp) (A : Addr) (cl : List (Str × Addr)) (fp : List Addr), PE (X.blk s H scope (compEnvC scope cl A X.env) fp) elt (tE C Wno me))
    (hv : ∀ i ∈ t.slots, i ∈ own.map (·.2) := by decide) (hs : ∀ x, foldedSetIterable iter X.env x = pure x := by intro _; rfl) :
    PE X (.ListComp elt [⟨tg, iter, ifs, 0⟩] scope pos) (tF C Wx (fComp mi t (own.map (·.2)) mt me)) :=
  (pe_lc hc hN hi (blkOk_by ok) hg ht he hs).imp fun _ _ _ h => t_lc hK hv h
end
end PV

set_option autoImplicit false
set_option Elab.async false
set_option linter.all false
set_option maxRecDepth 100000
set_option maxHeartbeats 4000000
/-! PV8: statements. -/
namespace PV
open PySem PySem.Spec PyProof.Rows L2 RZ

def R.toS {α : Type} (r : R α) (env : Env) (f : α → Sto → RS) : RS := match r with
  | .ok a S => f a S
  | .er x S => .er x env S
  | .no => .no
/-- behind a statement; H0, W0: the def's entry -/
def AftS (C : Cn) (Wx : WX) (W0 : Gw) (H0 : Hp) (W : Gw) (r : RS) (E : Ends) : Prop :=
  match r with
  | .nx e S => ∀ W' σ' H', Step W0 H0 W' H' → Le W W' → WOk C W' S H' → EnvOk C H0 W' H' σ' e → E.nx σ' H'
  | .bk e S => ∀ W' σ' H', Step W0 H0 W' H' → Le W W' → WOk C W' S H' → EnvOk C H0 W' H' σ' e → E.bk σ' H'
  | .ct e S => ∀ W' σ' H', Step W0 H0 W' H' → Le W W' → WOk C W' S H' → EnvOk C H0 W' H' σ' e → E.ct σ' H'
  | .rt d S => ∀ W' H' v, Step W0 H0 W' H' → WOk C W' S H' → RelD C W' v d → E.rt v H'
  | .er x e S => ∀ W' σ' H' cls dx, Step W0 H0 W' H' → Le W W' → WOk C W' S H' → EnvOk C H0 W' H' σ' e → RelX C W' H' x cls dx → Wx cls dx σ' H'
  | .no => False
def tS (C : Cn) (Wx : WX) (m : MS) : TS := fun E σ H => ∃ H0 W0 W env S, Step W0 H0 W H ∧ EnvOk C H0 W H σ env ∧ WOk C W S H ∧ AftS C Wx W0 H0 W (m env S) E
section
variable {α β : Type} {C : Cn} {Wx : WX} {W0 W W1 : Gw} {H0 H H1 : Hp} {S S1 : Sto} {σ : L2.St} {env : Env}
theorem AftS.le {r : RS} {E : Ends} (h : AftS C Wx W0 H0 W r E) (l : Le W W1) : AftS C Wx W0 H0 W1 r E := by
  cases r with
  | nx e S => exact fun W' σ' H' s l' => h W' σ' H' s (l.trans l')
  | bk e S => exact fun W' σ' H' s l' => h W' σ' H' s (l.trans l')
  | ct e S => exact fun W' σ' H' s l' => h W' σ' H' s (l.trans l')
  | rt d S => exact h
  | er x e S => exact fun W' σ' H' c d s l' => h W' σ' H' c d s (l.trans l')
  | no => exact h
/-- what is wanted at once -/
theorem AftS.now {E : Ends} {e : Env} (h : AftS C Wx W0 H0 W (.nx e S) E) (s : Step W0 H0 W H) (k : WOk C W S H) (en : EnvOk C H0 W H σ e) : E.nx σ H := h W σ H s (Le.refl W) k en
/-- an expression, then what follows -/
theorem tS.seqE {Rel : Gw → β → α → Prop} {m : Env → Sto → R α} {f : Env → α → Sto → RS} {E : Ends} (h : tS C Wx (fun env S => (m env S).toS env (f env)) E σ H) :
    tG C Wx Rel m σ H fun b H1 => ∃ H0 W0 W1 env S1 a, Step W0 H0 W1 H1 ∧ EnvOk C H0 W1 H1 σ env ∧ WOk C W1 S1 H1 ∧ Rel W1 b a ∧ AftS C Wx W0 H0 W1 (f env a S1) E := by
  obtain ⟨H0, W0, W, env, S, s, e, k, h⟩ := h
  refine ⟨H0, W, env, S, e, k, ?_⟩
  dsimp only at h
  cases q : m env S with
  | ok a S' =>
    rw [q] at h
    have h' : AftS C Wx W0 H0 W (f env a S') E := h
    exact fun W' H' b s' k' r => ⟨H0, W0, W', env, S', a, s.trans k s', e.step s', k', r, h'.le s'.le⟩
  | er x S' =>
    rw [q] at h
    have h' : AftS C Wx W0 H0 W (.er x env S') E := h
    exact fun W' H' cls dx s' k' r => h' W' σ H' cls dx (s.trans k s') s'.le k' (e.step s') r
  | no =>
    rw [q] at h
    exact h.elim
/-- a step within an expression's reading -/
theorem AftS.bind {Rel : Gw → β → α → Prop} {r : R α} {f : α → Sto → RS} {E : Ends} (h : AftS C Wx W0 H0 W (r.toS env f) E) (s : Step W0 H0 W H) (e : EnvOk C H0 W H σ env) (k : WOk C W S H) :
    Aft C Wx Rel W H σ r fun b H1 => ∃ W1 S1 a, Step W0 H0 W1 H1 ∧ Step W H W1 H1 ∧ EnvOk C H0 W1 H1 σ env ∧ WOk C W1 S1 H1 ∧ Rel W1 b a ∧ AftS C Wx W0 H0 W1 (f a S1) E := by
  cases r with
  | ok a S' =>
    have h' : AftS C Wx W0 H0 W (f a S') E := h
    exact fun W' H' b s' k' r => ⟨W', S', a, s.trans k s', s', e.step s', k', r, h'.le s'.le⟩
  | er x S' =>
    have h' : AftS C Wx W0 H0 W (.er x env S') E := h
    exact fun W' H' cls dx s' k' r => h' W' σ H' cls dx (s.trans k s') s'.le k' (e.step s') r
  | no => exact h
end

/-! ### slots' contents -/
/-- what is stored: a value, or a fresh list of the frame's own -/
def RelSl (C : Cn) (Hs : Hp) (W : Gw) (H : Hp) (v : V) : Sl → Prop
  | .v d => RelD C W v d
  | .o xs => ∃ a vs, v = .ref a ∧ H a = some (.lst vs) ∧ W.Fz a = none ∧ a ∉ W.φ ∧ Fr Hs a ∧ RelDs C W vs xs
  | .u => False
  | .p => False
def AftU (C : Cn) (Wx : WX) (W : Gw) (H : Hp) (σ : L2.St) (r : R Sl) (Q : VK) : Prop :=
  match r with
  | .ok sl S' => ∀ W' H' v, Step W H W' H' → WOk C W' S' H' → RelSl C H W' H' v sl → Q v H'
  | .er x S' => ∀ W' H' cls dx, Step W H W' H' → WOk C W' S' H' → RelX C W' H' x cls dx → Wx cls dx σ H'
  | .no => False
abbrev MU := Env → Sto → R Sl
def tU (C : Cn) (Wx : WX) (m : MU) : TE := fun σ H Q => ∃ H0 W env S, EnvOk C H0 W H σ env ∧ WOk C W S H ∧ AftU C Wx W H σ (m env S) Q
def uV (m : ME) : MU := fun env S => (m env S).bind fun d S1 => .ok (.v d) S1
def uO (m : MA) : MU := fun env S => (m env S).bind fun xs S1 => .ok (.o xs) S1
theorem t_uV {C : Cn} {Wx : WX} {m : ME} {σ : L2.St} {H : Hp} {Q : VK} (h : tU C Wx (uV m) σ H Q) : tE C Wx m σ H Q := by
  obtain ⟨H0, W, env, S, e, k, h⟩ := h
  refine ⟨H0, W, env, S, e, k, ?_⟩
  unfold uV at h
  cases q : m env S with
  | ok d S' =>
    rw [q] at h
    exact h
  | er x S' =>
    rw [q] at h
    exact h
  | no =>
    rw [q] at h
    exact h
theorem t_uO {C : Cn} {Wx : WX} {m : MA} {σ : L2.St} {H : Hp} {Q : VK} (h : tU C Wx (uO m) σ H Q) : tF C Wx m σ H Q := by
  obtain ⟨H0, W, env, S, e, k, h⟩ := h
  refine ⟨H0, W, env, S, e, k, ?_⟩
  unfold uO at h
  cases q : m env S with
  | ok xs S' =>
    rw [q] at h
    have h' : AftU C Wx W H σ (.ok (.o xs) S') Q := h
    exact fun W' H' a vs s k h1 h2 h3 h4 h5 => h' W' H' (.ref a) s k ⟨a, vs, rfl, h1, h2, h3, h4, h5⟩
  | er x S' =>
    rw [q] at h
    exact h
  | no =>
    rw [q] at h
    exact h
section
variable {X : Cx} {C : Cn} {Wx : WX} {e : Expr}
theorem su_v {m : ME} (h : PE X e (tE C Wx m)) : PE X e (tU C Wx (uV m)) := h.imp fun _ _ _ h => t_uV h
theorem su_o {m : MA} (h : PE X e (tF C Wx m)) : PE X e (tU C Wx (uO m)) := h.imp fun _ _ _ h => t_uO h
end
section
variable {C : Cn} {Wx : WX} {W0 W W1 : Gw} {H0 H H1 : Hp} {S S1 : Sto} {σ : L2.St} {env : Env}
/-- the own lists of a frame were there ahead -/
theorem EnvOk.notNew (e : EnvOk C H0 W H σ env) {a : Addr} (h : Fr H a) : ∀ (j : Nat) (ys : List D), env[j]? = some (.o ys) → σ[j]? ≠ some (some (V.ref a)) := fun j ys hj hs => by
  obtain ⟨b, vs, h1, h2, _⟩ := e.own j ys hj
  rw [hs] at h1
  cases h1
  exact h.lst h2
theorem Step.none0 (s : Step W0 H0 W H) (k : WOk C W S H) {a : Addr} (h : Fr H a) : Fr H0 a := s.back k h
/-- a slot is set; e stood at Hs -/
theorem EnvOk.setU {Ws : Gw} {Ss : Sto} {Hs : Hp} (es : EnvOk C H0 Ws Hs σ env) (s0 : Step W0 H0 Ws Hs) (ks : WOk C Ws Ss Hs) (e : EnvOk C H0 W H σ env) (i : Nat) {v : V} {sl : Sl} (r : RelSl C Hs W H v sl) : EnvOk C H0 W H (σ.set i (some v)) (env.set i sl) := by
  cases sl with
  | v d => exact e.setV i r
  | o xs =>
    obtain ⟨a, vs, rfl, h1, h2, h3, h4, h5⟩ := r
    exact e.setO i (es.notNew h4) h1 (s0.none0 ks h4) h2 h3 h5
  | u => exact r.elim
  | p => exact r.elim
theorem tS.seqU {m : MU} {f : Env → Sl → Sto → RS} {E : Ends} (h : tS C Wx (fun env S => (m env S).toS env (f env)) E σ H) :
    tU C Wx m σ H fun v H1 => ∃ H0 W0 W1 env S1 sl Ws Ss Hs, Step W0 H0 W1 H1 ∧ EnvOk C H0 W1 H1 σ env ∧ WOk C W1 S1 H1 ∧ RelSl C Hs W1 H1 v sl ∧ EnvOk C H0 Ws Hs σ env ∧ Step W0 H0 Ws Hs ∧ WOk C Ws Ss Hs ∧ AftS C Wx W0 H0 W1 (f env sl S1) E := by
  obtain ⟨H0, W0, W, env, S, s, e, k, h⟩ := h
  refine ⟨H0, W, env, S, e, k, ?_⟩
  dsimp only at h
  cases q : m env S with
  | ok sl S' =>
    rw [q] at h
    have h' : AftS C Wx W0 H0 W (f env sl S') E := h
    exact fun W' H' v s' k' r => ⟨H0, W0, W', env, S', sl, W, S, H, s.trans k s', e.step s', k', r, e, s, k, h'.le s'.le⟩
  | er x S' =>
    rw [q] at h
    have h' : AftS C Wx W0 H0 W (.er x env S') E := h
    exact fun W' H' cls dx s' k' r => h' W' σ H' cls dx (s.trans k s') s'.le k' (e.step s') r
  | no =>
    rw [q] at h
    exact h.elim
end

/-! ### denotations of statements -/
def sSkip : MS := fun env S => .nx env S
def sSeq (a b : MS) : MS := fun env S => match a env S with
  | .nx e S1 => b e S1
  | r => r
def sSet (i : Nat) (m : MU) : MS := fun env S => (m env S).toS env fun sl S1 => .nx (env.set i sl) S1
def sExpr (m : ME) : MS := fun env S => (m env S).toS env fun _ S1 => .nx env S1
def sRet (m : ME) : MS := fun env S => (m env S).toS env fun d S1 => .rt d S1
def sRetN : MS := fun _ S => .rt .non S
def sIf (c : MT) (a b : MS) : MS := fun env S => (c env S).toS env fun t S1 => if t = true then a env S1 else b env S1
def sFrz (i : Nat) (m : MS) : MS := fun env S => match ownAt env i with
  | some xs => m (env.set i (.v (.lst xs))) S
  | none => .no
def sApp (i : Nat) (m : ME) : MS := fun env S => match ownAt env i with
  | some xs => (m env S).toS env fun d S1 => if xs.length < sizeLine then .nx (env.set i (.o (xs ++ [d]))) S1 else .no
  | none => .no
def sPop (i j : Nat) : MS := fun env S => match ownAt env j with
  | some xs => (match xs[xs.length - 1]? with
    | some d => .nx ((env.set j (.o xs.dropLast)).set i (.v d)) S
    | none => .no)
  | none => .no
/-- x[k] = e of an own list -/
def kPutO (env : Env) (i : Nat) (xs : List D) (d k : D) (S : Sto) : RS := match k with
  | .int z => (match ixN xs.length z with
    | some j => .nx (env.set i (.o (xs.set j d))) S
    | none => .no)
  | _ => .no
def sPutO (i : Nat) (mk me : ME) : MS := fun env S => match ownAt env i with
  | some xs => (me env S).toS env fun d S1 => (mk env S1).toS env fun k S2 => kPutO env i xs d k S2
  | none => .no
/-- o[k] = e of a list of the store -/
def kPutR (env : Env) (d o k : D) (S : Sto) : RS := match o, k with
  | .ref n, .int z => (match S[n]? with
    | some xs => (match ixN xs.length z with
      | some j => .nx env (S.set n (xs.set j d))
      | none => .no)
    | none => .no)
  | _, _ => .no
def sPutR (mo mk me : ME) : MS := fun env S => (me env S).toS env fun d S1 => (mo env S1).toS env fun o S2 => (mk env S2).toS env fun k S3 => kPutR env d o k S3
def sPar (i j : Nat) (m m' : MU) : MS := fun env S => (m env S).toS env fun a S1 => (m' env S1).toS env fun b S2 => .nx ((env.set i a).set j b) S2
def loopEnd (r : RS) (k : Env → Sto → RS) : RS := match r with
  | .nx e S => k e S
  | .ct e S => k e S
  | .bk e S => .nx e S
  | r => r
def whileL (c : MT) (b : MS) : Nat → Env → Sto → RS
  | 0, _, _ => .no
  | n + 1, env, S => (c env S).toS env fun t S1 => if t = true then loopEnd (b env S1) (whileL c b n) else .nx env S1
def sWhile (n : Nat) (c : MT) (b : MS) : MS := fun env S => whileL c b n env S
def forL (tg : Tg) (b : MS) : List D → Env → Sto → RS
  | [], env, S => .nx env S
  | d :: ds, env, S => match tgE tg d env with
    | some env1 => loopEnd (b env1 S) (forL tg b ds)
    | none => .no
def sFor (mi : MA) (tg : Tg) (b : MS) : MS := fun env S => (mi env S).toS env fun ds S1 => forL tg b ds env S1

section
variable {X : Cx} {C : Cn} {Wx : WX} {pos : Pos} {st : Stmt} {rest : List Stmt}
theorem ss_nil : PSs X [] (tS C Wx sSkip) := pss_nil.imp fun E σ H ⟨H0, W0, W, env, S, s, e, k, h⟩ => h.now s k e
theorem t_seq {a b : MS} {E : Ends} {σ : L2.St} {H : Hp} (h : tS C Wx (sSeq a b) E σ H) : tSeq (tS C Wx a) (tS C Wx b) E σ H := by
  obtain ⟨H0, W0, W, env, S, s, e, k, h⟩ := h
  refine ⟨H0, W0, W, env, S, s, e, k, ?_⟩
  unfold sSeq at h
  cases q : a env S with
  | nx e1 S1 =>
    rw [q] at h
    have h' : AftS C Wx W0 H0 W (b e1 S1) E := h
    exact fun W' σ' H' s' l' k' e' => ⟨H0, W0, W', e1, S1, s', e', k', h'.le l'⟩
  | bk e1 S1 => rw [q] at h; exact h
  | ct e1 S1 => rw [q] at h; exact h
  | rt d S1 => rw [q] at h; exact h
  | er x e1 S1 => rw [q] at h; exact h
  | no => rw [q] at h; exact h
theorem ss_cons {a b : MS} (h1 : PS X st (tS C Wx a)) (h2 : PSs X rest (tS C Wx b)) : PSs X (st :: rest) (tS C Wx (sSeq a b)) := (pss_cons h1 h2).imp fun _ _ _ h => t_seq h
theorem ss_one {a : MS} (h1 : PS X st (tS C Wx a)) : PSs X [st] (tS C Wx a) := pss_one h1
theorem noBase (hB : C.base = none) (a : Addr) : ∀ b, C.base = some b → Fr b.2 a := fun b hb => by
  rw [hB] at hb
  cases hb
theorem ss_frz {sts : List Stmt} {i : Nat} {m : MS} (hB : C.base = none) (h : PSs X sts (tS C Wx m)) : PSs X sts (tS C Wx (sFrz i m)) := h.imp fun E σ H ⟨H0, W0, W, env, S, s, e, k, h⟩ => by
  unfold sFrz at h
  split at h
  · rename_i xs hx
    obtain ⟨a, vs, h1, h0, h2, h3, e'⟩ := e.frz (ownAt_ok hx)
    exact ⟨H0, W0, _, _, S, s.frz h0 h2, e', k.frz h1 h2 h3 (noBase hB _), h.le (Le.fr W _ h2)⟩
  · exact h.elim
theorem s1_frz {i : Nat} {m : MS} (hB : C.base = none) (h : PS X st (tS C Wx m)) : PS X st (tS C Wx (sFrz i m)) := h.imp fun E σ H ⟨H0, W0, W, env, S, s, e, k, h⟩ => by
  unfold sFrz at h
  split at h
  · rename_i xs hx
    obtain ⟨a, vs, h1, h0, h2, h3, e'⟩ := e.frz (ownAt_ok hx)
    exact ⟨H0, W0, _, _, S, s.frz h0 h2, e', k.frz h1 h2 h3 (noBase hB _), h.le (Le.fr W _ h2)⟩
  · exact h.elim
theorem s1_pass : PS X (.Pass pos) (tS C Wx sSkip) := ps_pass.imp fun E σ H ⟨H0, W0, W, env, S, s, e, k, h⟩ => h.now s k e
theorem t_asg {i : Nat} {m : MU} {E : Ends} {σ : L2.St} {H : Hp} (h : tS C Wx (sSet i m) E σ H) : tAsg (tU C Wx m) (gName i) E σ H := by
  have h2 := tS.seqU (f := fun env sl S1 => .nx (env.set i sl) S1) h
  obtain ⟨H0, W, env, S, e, k, h3⟩ := h2
  refine ⟨H0, W, env, S, e, k, ?_⟩
  cases q : m env S with
  | ok sl S' =>
    rw [q] at h3
    intro W' H' v s' k' r
    obtain ⟨H0, W0, W1, env, S1, sl, Ws, Ss, Hs, s, e, k, r, es, ss, ks, a⟩ := h3 W' H' v s' k' r
    exact a.now s k (es.setU ss ks e i r)
  | er x S' => rw [q] at h3; exact h3
  | no => rw [q] at h3; exact h3
theorem s1_set {i : Nat} {x : Str} {e : Expr} {m : MU} {pos' : Pos} (hN : X.N.Nodup) (hi : X.N[i]? = some x) (hx : Loc X.env.scope x) (he : PE X e (tU C Wx m)) (hf : X.fn x = true ∨ X.env.scope.names.lookup x = some .local)
    (hs : swapsWith e (some (.Name x pos')) pos.line X.env = pure false := by rfl) : PS X (.Assign [.Name x pos'] e pos) (tS C Wx (sSet i m)) := (ps_set hN hi hx he hs hf).imp fun _ _ _ h => t_asg h
/-- name = [.. for ..] on one line -/
theorem s1_setLc {i : Nat} {y : Str} {py : Pos} {elt tg iter : Expr} {ifs : List Expr} {scope : Scope} {own : List (Str × Nat)} {pos spos : Pos} {mi : MA} {t : Tg} {mt : MT} {me : ME} {m : MU} (hm : ∀ {σ : L2.St} {H : Hp} {Q : VK}, tU C Wx m σ H Q → tF C Wx (fComp mi t (own.map (·.2)) mt me) σ H Q)
    (hK : X.K = C.K) (hc : X.calm = true) (hN : X.N.Nodup) (hy : X.N[i]? = some y) (hyl : X.env.scope.names.lookup y = some .local)
    (hsw : swapsWith (.ListComp elt [⟨tg, iter, ifs, 0⟩] scope pos) (some (.Name y py)) spos.line X.env = pure true) (hi : PI X tg iter (tI C Wx mi)) (ok : blkC X.N X.env.scope scope own = true)
    (hg : ∀ (s : Shared) (H : Hp) (A : Addr) (cl : List (Str × Addr)) (fp : List Addr), PG (X.blk s H scope (compEnvC scope cl A X.env) fp) tg (tTg X.K t))
    (ht : ∀ (s : Shared) (H : Hp) (A : Addr) (cl : List (Str × Addr)) (fp : List Addr), PTs (X.blk s H scope (compEnvC scope cl A X.env) fp) ifs (tT C Wno mt))
    (he : ∀ (s : Shared) (H : Hp) (A : Addr) (cl : List (Str × Addr)) (fp : List Addr), PE (X.blk s H scope (compEnvC scope cl A X.env) fp) elt (tE C Wno me))
    (hv : ∀ j ∈ t.slots, j ∈ own.map (·.2) := by decide) (hs : ∀ x, foldedSetIterable iter X.env x = pure x := by intro _; rfl) :
    PS X (.Assign [.Name y py] (.ListComp elt [⟨tg, iter, ifs, 0⟩] scope pos) spos) (tS C Wx (sSet i m)) :=
  (ps_setLc hc hN hy hyl hsw hi (blkOk_by ok) hg ht he hs).imp fun _ _ _ h => by
    have h2 := t_asg h
    exact t_lc hK hv (hm h2)
theorem s1_expr {e : Expr} {m : ME} (he : PE X e (tE C Wx m)) (hs : swapsWith e none pos.line X.env = pure false := by rfl) : PS X (.Expr e pos) (tS C Wx (sExpr m)) :=
  (ps_expr he hs).imp fun E σ H h => (tS.seqE (f := fun env _ S1 => .nx env S1) h).imp fun v H1 ⟨H0, W0, W1, env, S1, d, s, e, k, r, a⟩ => a.now s k e
theorem s1_ret {e : Expr} {m : ME} (he : PE X e (tE C Wx m)) : PS X (.Return (some e) pos) (tS C Wx (sRet m)) :=
  (ps_ret he).imp fun E σ H h => (tS.seqE (f := fun _ d S1 => .rt d S1) h).imp fun v H1 ⟨H0, W0, W1, env, S1, d, s, e, k, r, a⟩ => a W1 H1 v s k r
theorem s1_retN : PS X (.Return none pos) (tS C Wx sRetN) := ps_retN.imp fun E σ H ⟨H0, W0, W, env, S, s, e, k, h⟩ => h W H .non s k .non
theorem s1_if {c : Expr} {a b : List Stmt} {mc : MT} {ma mb : MS} (hc : PT X c (tT C Wx mc)) (ha : PSs X a (tS C Wx ma)) (hb : PSs X b (tS C Wx mb)) : PS X (.If c a b pos) (tS C Wx (sIf mc ma mb)) :=
  (ps_if hc ha hb).imp fun E σ H h => (tS.seqE (f := fun env t S1 => if t = true then ma env S1 else mb env S1) h).imp fun v H1 ⟨H0, W0, W1, env, S1, d, s, e, k, r, a⟩ => by
    subst r
    cases v with
    | true => exact iteT ⟨H0, W0, W1, env, S1, s, e, k, a⟩
    | false => exact iteF ⟨H0, W0, W1, env, S1, s, e, k, a⟩
/-- the own list of slot i is written -/
theorem own_put {W0 W : Gw} {H0 H : Hp} {S : Sto} {σ : L2.St} {env : Env} {i : Nat} {xs : List D} (hB : C.base = none) (s : Step W0 H0 W H) (e : EnvOk C H0 W H σ env) (k : WOk C W S H) (hx : env[i]? = some (.o xs)) :
    ∃ a vs, σ[i]? = some (some (.ref a)) ∧ H a = some (.lst vs) ∧ RelDs C W vs xs ∧ ∀ us ys, RelDs C W us ys → Step W0 H0 W (upd H a (.lst us)) ∧ WOk C W S (upd H a (.lst us)) ∧ EnvOk C H0 W (upd H a (.lst us)) σ (env.set i (.o ys)) := by
  obtain ⟨a, vs, h1, h2, h0, h3, h4, h5⟩ := e.own i xs hx
  exact ⟨a, vs, h1, h2, h5, fun us ys r => ⟨s.ownW h0, k.own h2 h3 h4 (noBase hB _), e.put hx h1 r⟩⟩
theorem s1_app (hB : C.base = none) {i : Nat} {x : Str} {e : Expr} {m : ME} {p1 p2 p3 : Pos} (hN : X.N[i]? = some x) (hv : Vis X.env.scope x) (he : PE X e (tE C Wx m))
    (hm : PE X (.Call (.Attribute (.Name x p1) "append" p2) [e] [] p3) (tBM X.K "list" rAppend (tVar i) (tCons (tE C Wx m) tNil)))
    (hs : swapsWith (.Call (.Attribute (.Name x p1) "append" p2) [e] [] p3) none pos.line X.env = pure false := by rfl) : PS X (.Expr (.Call (.Attribute (.Name x p1) "append" p2) [e] [] p3) pos) (tS C Wx (sApp i m)) :=
  (ps_expr hm hs).imp fun E σ H h => by
    obtain ⟨H0, W0, W, env, S, s, en, k, h⟩ := h
    simp only [sApp] at h
    split at h
    · rename_i xs hx
      obtain ⟨a, vs, h1, h2, h0, h3, h4, h5⟩ := en.own i xs (ownAt_ok hx)
      refine ⟨_, h1, .inl ⟨rfl, _, SqL.of h2⟩, H0, W, env, S, en, k, (AftS.bind h s en k).imp fun v H1 ⟨W1, S1, d, s1, sw, e1, k1, r, af⟩ => ?_⟩
      split at af
      · rename_i hz
        obtain ⟨a', vs', g1, g2, g3, g4⟩ := own_put hB s1 e1 k1 (ownAt_ok hx)
        rw [h1] at g1
        cases g1
        obtain ⟨q1, q2, q3⟩ := g4 (vs' ++ [v]) (xs ++ [d]) (g3.append (.one r))
        exact ⟨a, vs', v, rfl, rfl, g2, by rw [g3.length]; exact hz, af.now q1 q2 q3⟩
      · exact af.elim
    · exact h.elim
theorem s1_pop (hB : C.base = none) {i j : Nat} {x y : Str} {p1 p2 p3 p4 : Pos} (hN : X.N.Nodup) (hi : X.N[i]? = some x) (hx : Loc X.env.scope x) (hf : X.fn x = true ∨ X.env.scope.names.lookup x = some .local)
    (hm : PE X (.Call (.Attribute (.Name y p1) "pop" p2) [] [] p3) (tBM0 X.K "list" rPop (tVar j)))
    (hs : swapsWith (.Call (.Attribute (.Name y p1) "pop" p2) [] [] p3) (some (.Name x p4)) pos.line X.env = pure false := by rfl) : PS X (.Assign [.Name x p4] (.Call (.Attribute (.Name y p1) "pop" p2) [] [] p3) pos) (tS C Wx (sPop i j)) :=
  (ps_set hN hi hx hm hs hf).imp fun E σ H h => by
    obtain ⟨H0, W0, W, env, S, s, en, k, h⟩ := h
    simp only [sPop] at h
    split at h
    · rename_i xs hx
      split at h
      · rename_i d hd
        obtain ⟨a, vs, g1, g2, g3, g4⟩ := own_put hB s en k (ownAt_ok hx)
        obtain ⟨v, h1, h2⟩ := g3.get hd
        obtain ⟨q1, q2, q3⟩ := g4 vs.dropLast xs.dropLast g3.dropLast
        refine ⟨_, g1, .inl ⟨rfl, _, SqL.of g2⟩, a, vs, v, rfl, rfl, g2, by rw [g3.length]; exact h1, ?_⟩
        exact h.now q1 q2 (q3.setV i h2)
      · exact h.elim
    · exact h.elim
theorem s1_putO (hB : C.base = none) {i : Nat} {x : Str} {e b : Expr} {mk me : ME} {p1 p2 : Pos} (hN : X.N[i]? = some x) (hv : Vis X.env.scope x) (hb : PE X b (tE C Wx mk)) (he : PE X e (tE C Wx me))
    (ho : PE X (.Name x p1) (tVar i)) (hs : swapsWithSole [.Subscript (.Name x p1) b p2] e pos.line X.env = pure false := by rfl) (hw : swappedStores [.Subscript (.Name x p1) b p2] e X.env = pure none := by rfl)
    (hg : PG X (.Subscript (.Name x p1) b p2) (gSub (tVar i) (tE C Wx mk) rSetL)) :
    PS X (.Assign [.Subscript (.Name x p1) b p2] e pos) (tS C Wx (sPutO i mk me)) :=
  (ps_asg he hg hs hw).imp fun E σ H h => by
    obtain ⟨H0, W0, W, env, S, s, en, k, h⟩ := h
    simp only [sPutO] at h
    split at h
    · rename_i xs hx
      refine ⟨H0, W, env, S, en, k, (AftS.bind h s en k).imp fun v H1 ⟨W1, S1, d, s1, sw, e1, k1, r, af⟩ => ?_⟩
      obtain ⟨a, vs, h1, h2, h0, h3, h4, h5⟩ := e1.own i xs (ownAt_ok hx)
      refine ⟨_, h1, H0, W1, env, S1, e1, k1, (AftS.bind af s1 e1 k1).imp fun u H2 ⟨W2, S2, z, s2, sw2, e2, k2, r2, af2⟩ => ?_⟩
      cases r2 with
      | int z =>
        simp only [kPutO] at af2
        split at af2
        · rename_i j hj
          obtain ⟨a', vs', g1, g2, g3, g4⟩ := own_put hB s2 e2 k2 (ownAt_ok hx)
          rw [h1] at g1
          cases g1
          obtain ⟨q1, q2, q3⟩ := g4 (vs'.set j v) (xs.set j d) (g3.set j (r.le sw2.le))
          exact ⟨a, vs', z, j, rfl, rfl, g2, by rw [g3.length]; exact hj, af2.now q1 q2 q3⟩
        · exact af2.elim
      | _ => exact af2.elim
    · exact h.elim
theorem s1_putR {o e b : Expr} {mo mk me : ME} {p2 : Pos} (ho : PE X o (tE C Wx mo)) (hb : PE X b (tE C Wx mk)) (he : PE X e (tE C Wx me))
    (hs : swapsWithSole [.Subscript o b p2] e pos.line X.env = pure false := by rfl) (hw : swappedStores [.Subscript o b p2] e X.env = pure none := by rfl)
    (hg : PG X (.Subscript o b p2) (gSub (tE C Wx mo) (tE C Wx mk) rSetL)) : PS X (.Assign [.Subscript o b p2] e pos) (tS C Wx (sPutR mo mk me)) :=
  (ps_asg he hg hs hw).imp fun E σ H h => (tS.seqE (f := fun env d S1 => (mo env S1).toS env fun o S2 => (mk env S2).toS env fun k S3 => kPutR env d o k S3) h).imp fun v H1 ⟨H0, W0, W1, env, S1, d, s1, e1, k1, r, af⟩ =>
    ⟨H0, W1, env, S1, e1, k1, (AftS.bind af s1 e1 k1).imp fun u H2 ⟨W2, S2, z, s2, sw2, e2, k2, r2, af2⟩ => ⟨H0, W2, env, S2, e2, k2, (AftS.bind af2 s2 e2 k2).imp fun w H3 ⟨W3, S3, y, s3, sw3, e3, k3, r3, af3⟩ => by
      have r2 := r2.le sw3.le
      cases r2 with
      | ref hn => cases r3 with
        | int t =>
          simp only [kPutR] at af3
          split at af3
          · rename_i xs hxs
            split at af3
            · rename_i j hj
              obtain ⟨_, vs, ys, g1, g2, g3⟩ := k3.st _ _ hn
              rw [hxs] at g2
              cases g2
              have rv := (r.le sw2.le).le sw3.le
              have st := Step.put (H := H3) (o := .lst (vs.set j v)) hn
              exact ⟨_, vs, t, j, rfl, rfl, g1, by rw [g3.length]; exact hj, af3.now (s3.trans k3 st) (k3.put hn (g3.set j rv)) (e3.step st)⟩
            · exact af3.elim
          · exact af3.elim
        | _ => exact af3.elim
      | _ => cases r3 <;> exact af3.elim⟩⟩
/-- a, b = x, y -/
theorem t_par {i j : Nat} {m m' : MU} (hij : i ≠ j) {E : Ends} {σ : L2.St} {H : Hp} (h : tS C Wx (sPar i j m m') E σ H) : tPar i j (tCons (tU C Wx m) (tCons (tU C Wx m') tNil)) E σ H := by
  obtain ⟨H0, W0, W, env, S, s, en, k, h⟩ := h
  refine ⟨H0, W, env, S, en, k, ?_⟩
  simp only [sPar] at h
  cases q : m env S with
  | no => rw [q] at h; exact h.elim
  | er x S' =>
    rw [q] at h
    have h' : AftS C Wx W0 H0 W (.er x env S') E := h
    exact fun W' H' cls dx s' k' r => h' W' σ H' cls dx (s.trans k s') s'.le k' (en.step s') r
  | ok sl S1 =>
    rw [q] at h
    intro W1 H1 v sw1 k1 r1
    have s1 := s.trans k sw1
    have e1 := en.step sw1
    have h' : AftS C Wx W0 H0 W1 ((m' env S1).toS env fun b S2 => .nx ((env.set i sl).set j b) S2) E := AftS.le (show AftS C Wx W0 H0 W ((m' env S1).toS env fun b S2 => .nx ((env.set i sl).set j b) S2) E from h) sw1.le
    refine ⟨H0, W1, env, S1, e1, k1, ?_⟩
    cases q2 : m' env S1 with
    | no => rw [q2] at h'; exact h'.elim
    | er x S' =>
      rw [q2] at h'
      have h2 : AftS C Wx W0 H0 W1 (.er x env S') E := h'
      exact fun W' H' cls dx s' k' r => h2 W' σ H' cls dx (s1.trans k1 s') s'.le k' (e1.step s') r
    | ok sl' S2 =>
      rw [q2] at h'
      have h2 : AftS C Wx W0 H0 W1 (.nx ((env.set i sl).set j sl') S2) E := h'
      intro W2 H2 u sw2 k2 r2
      have s2 := s1.trans k1 sw2
      have e2 := e1.step sw2
      -- the first one as it stands now
      have r1' : RelSl C H W2 H2 v sl := by
        cases sl with
        | v d => exact RelD.le sw2.le r1
        | o xs =>
          obtain ⟨a, vs, ea, g1, g2, g3, g4, g5⟩ := r1
          obtain ⟨z1, z2, z3⟩ := sw2.own g1 g2 g3
          exact ⟨a, vs, ea, z1, z2, z3, g4, g5.le sw2.le⟩
        | u => exact r1.elim
        | p => exact r1.elim
      have ea := en.setU s k e2 i r1'
      have eb : EnvOk C H0 W2 H2 ((σ.set i (some v)).set j (some u)) ((env.set i sl).set j sl') := by
        cases sl' with
        | v d => exact ea.setV j r2
        | o xs =>
          obtain ⟨a, vs, rfl, g1, g2, g3, g4, g5⟩ := r2
          refine ea.setO j (fun n ys hn hs => ?_) g1 (s1.none0 k1 g4) g2 g3 g5
          obtain ⟨b, us, z1, z2, _, _, _, _⟩ := ea.own n ys hn
          rw [hs] at z1
          cases z1
          rcases env_set hn with ⟨rfl, q3, hl⟩ | ⟨hne, q3⟩
          · rw [List.getElem?_set_self (by rw [← en.len]; exact hl)] at hs
            cases hs
            cases sl with
            | o xs' =>
              obtain ⟨a', vs', ea', y1, _⟩ := r1
              cases ea'
              exact (g4.lst y1).elim
            | v d => cases q3
            | u => cases q3
            | p => cases q3
          · rw [List.getElem?_set_ne (Ne.symm hne)] at hs
            obtain ⟨b, us, z1, z3, _⟩ := e1.own n ys q3
            rw [hs] at z1
            cases z1
            exact (g4.lst z3).elim
        | u => exact r2.elim
        | p => exact r2.elim
      exact ⟨v, u, rfl, (h2.le sw2.le).now s2 k2 eb⟩
end
end PV

set_option autoImplicit false
set_option Elab.async false
set_option linter.all false
set_option maxRecDepth 100000
set_option maxHeartbeats 4000000
/-! PV9: loops, raise, try, defs. -/
namespace PV
open PySem PySem.Spec PyProof.Rows L2 RZ

section
variable {X : Cx} {C : Cn} {Wx : WX} {pos : Pos}
/-- behind a loop's body -/
theorem loop_end {W0 W : Gw} {H0 : Hp} {r : RS} {k : Env → Sto → RS} {E : Ends} (h : AftS C Wx W0 H0 W (loopEnd r k) E) (N : L2.St → Hp → Prop)
    (hN : ∀ e S W' σ' H', Step W0 H0 W' H' → Le W W' → WOk C W' S H' → EnvOk C H0 W' H' σ' e → AftS C Wx W0 H0 W (k e S) E → N σ' H') : AftS C Wx W0 H0 W r { E with nx := N, ct := N, bk := E.nx } := by
  cases r with
  | nx e S => exact fun W' σ' H' s l k' e' => hN e S W' σ' H' s l k' e' h
  | ct e S => exact fun W' σ' H' s l k' e' => hN e S W' σ' H' s l k' e' h
  | bk e S => exact h
  | rt d S => exact h
  | er x e S => exact h
  | no => exact h
theorem s1_while {c : Expr} {body : List Stmt} {mc : MT} {mb : MS} {n : Nat} (hp : PassesOwn (model X.prog X.w) X.A X.env X.xe) (hc : PT X c (tT C Wx mc)) (hb : PSs X body (tS C Wx mb)) : PS X (.While c body [] pos) (tS C Wx (sWhile n mc mb)) :=
  (ps_while hp hc hb).imp fun E σ H ⟨H0, W0, W, env, S, s, e, k, h⟩ => by
    refine ⟨fun n σ H => ∃ W env S, Step W0 H0 W H ∧ EnvOk C H0 W H σ env ∧ WOk C W S H ∧ AftS C Wx W0 H0 W (whileL mc mb n env S) E, ⟨n, W, env, S, s, e, k, h⟩, ?_⟩
    rintro n σ H ⟨W, env, S, s, e, k, h⟩
    cases n with
    | zero => exact h.elim
    | succ n =>
      unfold whileL at h
      refine ⟨H0, W, env, S, e, k, (AftS.bind h s e k).imp fun b H1 ⟨W1, S1, t, s1, sw, e1, k1, r, a⟩ => ?_⟩
      subst r
      cases b with
      | true =>
        simp only [if_true] at a
        refine iteT ⟨fun σ' H' => ∃ W env S, Step W0 H0 W H' ∧ EnvOk C H0 W H' σ' env ∧ WOk C W S H' ∧ AftS C Wx W0 H0 W (whileL mc mb n env S) E, fun σ' H' h => ⟨n, Nat.lt_succ_self n, h⟩, H0, W0, W1, env, S1, s1, e1, k1, ?_⟩
        exact loop_end a _ fun e S W' σ' H' s l k' e' h => ⟨W', e, S, s, e', k', h.le l⟩
      | false => exact iteF (AftS.now a s1 k1 e1)
theorem s1_for {tg iter : Expr} {body : List Stmt} {mi : MA} {t : Tg} {mb : MS} (hK : X.K = C.K) (hp : PassesOwn (model X.prog X.w) X.A X.env X.xe) (hc : X.calm = true) (hi : PI X tg iter (tI C Wx mi)) (hg : PG X tg (tTg X.K t)) (hb : PSs X body (tS C Wx mb)) (hs : ∀ x, foldedSetIterable iter X.env x = pure x := by intro _; rfl) :
    PS X (.For tg iter body [] pos) (tS C Wx (sFor mi t mb)) :=
  (ps_for hp hc hi hg hb hs).imp fun E σ H ⟨H0, W0, W, env, S, s, e, k, h⟩ => by
    refine ⟨H0, W, env, S, e, k, ?_⟩
    simp only [sFor] at h
    cases q : mi env S with
    | no => rw [q] at h; exact h.elim
    | er x S' =>
      rw [q] at h
      have h' : AftS C Wx W0 H0 W (.er x env S') E := h
      exact fun W' H' cls dx s' k' r => h' W' σ H' cls dx (s.trans k s') s'.le k' (e.step s') r
    | ok ds S' =>
      rw [q] at h
      have h0 : AftS C Wx W0 H0 W (forL t mb ds env S') E := h
      intro W1 H1 J sw k1 wk
      refine ⟨fun i m σ H => m = ds.length - i ∧ i ≤ ds.length ∧ ∃ W env S, Le W1 W ∧ Step W0 H0 W H ∧ EnvOk C H0 W H σ env ∧ WOk C W S H ∧ AftS C Wx W0 H0 W (forL t mb (ds.drop i) env S) E, ⟨_, rfl, Nat.zero_le _, W1, env, S', Le.refl _, s.trans k sw, e.step sw, k1, h0.le sw.le⟩, ?_⟩
      rintro i m σ H ⟨rfl, hi, W, env, S, l, s, e, k, a⟩
      obtain ⟨wa, wb⟩ := wk i W S H l k
      by_cases hlt : i < ds.length
      · refine .inr ?_
        have hd : ds[i]? = some ds[i] := List.getElem?_eq_getElem hlt
        obtain ⟨go, wy⟩ := wa _ hd
        refine ⟨go, fun σ' H' => ∃ W env S, Le W1 W ∧ Step W0 H0 W H' ∧ EnvOk C H0 W H' σ' env ∧ WOk C W S H' ∧ AftS C Wx W0 H0 W (forL t mb (ds.drop (i + 1)) env S) E, fun σ' H' hn => ⟨_, by omega, rfl, by omega, hn⟩, fun x H3 hy => ?_⟩
        obtain ⟨W3, s3, k3, rx⟩ := wy x H3 hy
        rw [List.drop_eq_getElem_cons hlt] at a
        unfold forL at a
        split at a
        · rename_i env1 hq
          refine tg_ok hK rx (e.step s3) k3 hq fun σ1 e1 _ => ⟨H0, W0, W3, env1, S, s.trans k s3, e1, k3, ?_⟩
          exact loop_end (a.le s3.le) _ fun e S W' σ' H' s l' k' e' h => ⟨W', e, S, (l.trans s3.le).trans l', s, e', k', h.le l'⟩
        · exact a.elim
      · refine .inl ⟨wb (by omega), ?_⟩
        rw [List.drop_of_length_le (by omega)] at a
        unfold forL at a
        exact a.now s k e
/-! ### raise -/
def sRaise (c : Nat) : MS := fun env S => .er ⟨c, none⟩ env S
theorem s1_raise {e : Expr} {c : Nat} (hc : X.calm = true) (tk : Takes X Wx) (hm : PMk X e (fun _ H Q => Q (.ref (C.ca c)) none H)) : PS X (.Raise (some e) none pos) (tS C Wx (sRaise c)) :=
  (ps_raise hc tk hm).imp fun E σ H ⟨H0, W0, W, env, S, s, en, k, h⟩ => h W σ H _ _ s (Le.refl W) k en ⟨rfl, rfl⟩

/-! ### what a context has pinned does not matter to data -/
/-- another pinned object, base, code object -/
abbrev Cn.pin (C : Cn) (a : Addr) (b : Option (Gw × Hp)) (c : Option (Addr × Str)) : Cn := { C with xa := a, base := b, cod := c }
mutual
theorem relC {C : Cn} {W : Gw} {a : Addr} {b : Option (Gw × Hp)} {c : Option (Addr × Str)} : ∀ {v : V} {d : D}, RelD C W v d → RelD (C.pin a b c) W v d
  | _, _, .non => .non
  | _, _, .bl b => .bl b
  | _, _, .int i => .int i
  | _, _, .str x => .str x
  | _, _, .tup h r => .tup h (relCs r)
  | _, _, .lst h r => .lst h (relCs r)
  | _, _, .scr h => .scr h
  | _, _, .ref h => .ref h
  | _, _, .fn i => .fn (C := C.pin a b c) i
theorem relCs {C : Cn} {W : Gw} {a : Addr} {b : Option (Gw × Hp)} {c : Option (Addr × Str)} : ∀ {vs : List V} {ds : List D}, RelDs C W vs ds → RelDs (C.pin a b c) W vs ds
  | _, _, .nil => .nil
  | _, _, .cons r t => .cons (relC r) (relCs t)
end
mutual
theorem relB {C : Cn} {W : Gw} {a : Addr} {b : Option (Gw × Hp)} {c : Option (Addr × Str)} : ∀ {v : V} {d : D}, RelD (C.pin a b c) W v d → RelD C W v d
  | _, _, .non => .non
  | _, _, .bl b => .bl b
  | _, _, .int i => .int i
  | _, _, .str x => .str x
  | _, _, .tup h r => .tup h (relBs r)
  | _, _, .lst h r => .lst h (relBs r)
  | _, _, .scr h => .scr h
  | _, _, .ref h => .ref h
  | _, _, .fn i => .fn (C := C) i
theorem relBs {C : Cn} {W : Gw} {a : Addr} {b : Option (Gw × Hp)} {c : Option (Addr × Str)} : ∀ {vs : List V} {ds : List D}, RelDs (C.pin a b c) W vs ds → RelDs C W vs ds
  | _, _, .nil => .nil
  | _, _, .cons r t => .cons (relB r) (relBs t)
end
theorem wokC {W : Gw} {S : Sto} {H : Hp} {a : Addr} {b : Option (Gw × Hp)} {c : Option (Addr × Str)} (k : WOk C W S H) (h1 : ∀ z, b = some z → Step z.1 z.2 W H) (h2 : ∀ p, c = some p → H p.1 = some (LamX.CodeO p.1 p.2)) : WOk (C.pin a b c) W S H :=
  ⟨k.fz, k.len, k.nd, fun n x h => by
    obtain ⟨g1, vs, xs, g2, g3, g4⟩ := k.st n x h
    exact ⟨g1, vs, xs, g2, g3, relCs g4⟩, k.tabs, k.nt, h1, h2⟩
theorem wokB {W : Gw} {S : Sto} {H : Hp} {a : Addr} {b : Option (Gw × Hp)} {c : Option (Addr × Str)} (k : WOk (C.pin a b c) W S H) (h1 : ∀ z, C.base = some z → Step z.1 z.2 W H) (h2 : ∀ p, C.cod = some p → H p.1 = some (LamX.CodeO p.1 p.2)) : WOk C W S H :=
  ⟨k.fz, k.len, k.nd, fun n x h => by
    obtain ⟨g1, vs, xs, g2, g3, g4⟩ := k.st n x h
    exact ⟨g1, vs, xs, g2, g3, relBs g4⟩, k.tabs, k.nt, h1, h2⟩
theorem envC {H0 : Hp} {W : Gw} {H : Hp} {σ : L2.St} {env : Env} {a : Addr} {b : Option (Gw × Hp)} {c : Option (Addr × Str)} (e : EnvOk C H0 W H σ env) (hn : ∀ i : Nat, env[i]? = some .p → σ[i]? = some (some (.ref a))) : EnvOk (C.pin a b c) H0 W H σ env := ⟨e.len, fun i d h => by
  obtain ⟨v, h1, h2⟩ := e.val i d h
  exact ⟨v, h1, relC h2⟩, fun i xs h => by
  obtain ⟨x, vs, h1, h2, h0, h3, h4, h5⟩ := e.own i xs h
  exact ⟨x, vs, h1, h2, h0, h3, h4, relCs h5⟩, e.dis, hn⟩
theorem envB {H0 : Hp} {W : Gw} {H : Hp} {σ : L2.St} {env : Env} {a : Addr} {b : Option (Gw × Hp)} {c : Option (Addr × Str)} (e : EnvOk (C.pin a b c) H0 W H σ env) (hn : ∀ i : Nat, env[i]? = some .p → σ[i]? = some (some (.ref C.xa))) : EnvOk C H0 W H σ env := ⟨e.len, fun i d h => by
  obtain ⟨v, h1, h2⟩ := e.val i d h
  exact ⟨v, h1, relB h2⟩, fun i xs h => by
  obtain ⟨x, vs, h1, h2, h0, h3, h4, h5⟩ := e.own i xs h
  exact ⟨x, vs, h1, h2, h0, h3, h4, relBs h5⟩, e.dis, hn⟩
/-- no slot is pinned any more -/
def unP (env : Env) : Env := env.map fun s => match s with
  | .p => .u
  | s => s
theorem unP_get {env : Env} {i : Nat} {s : Sl} (h : (unP env)[i]? = some s) : s ≠ .p ∧ (s = .u ∨ env[i]? = some s) := by
  unfold unP at h
  rw [List.getElem?_map] at h
  obtain ⟨t, h1, h2⟩ := Option.map_eq_some_iff.mp h
  cases t with
  | p => subst h2; exact ⟨(fun z => nomatch z), .inl rfl⟩
  | u => subst h2; exact ⟨(fun z => nomatch z), .inl rfl⟩
  | v d => subst h2; exact ⟨(fun z => nomatch z), .inr h1⟩
  | o xs => subst h2; exact ⟨(fun z => nomatch z), .inr h1⟩
theorem env_unP {H0 : Hp} {W : Gw} {H : Hp} {σ : L2.St} {env : Env} (e : EnvOk C H0 W H σ env) : EnvOk C H0 W H σ (unP env) := by
  have key : ∀ {i : Nat} {s : Sl}, (unP env)[i]? = some s → s ≠ .u → env[i]? = some s := fun h hn => (unP_get h).2.resolve_left hn
  exact ⟨by unfold unP; rw [List.length_map]; exact e.len, fun i d h => e.val i d (key h (fun z => nomatch z)), fun i xs h => e.own i xs (key h (fun z => nomatch z)),
    fun i j xs ys a h1 h2 h3 h4 => e.dis i j xs ys a (key h1 (fun z => nomatch z)) (key h2 (fun z => nomatch z)) h3 h4, fun i h => absurd rfl (unP_get h).1⟩
end

/-! ### defs -/
/-- what a def's body is given -/
structure InF (X : Cx) (C : Cn) (Wx : WX) (k : Nat) : Prop where
  tk : Takes X Wx
  po : PassesOwn (model X.prog X.w) X.A X.env X.xe
  room : Room k X.A
  calm : X.calm = true
  hK : X.K = C.K
  fr : X.stack = X.env :: X.outer
  fl : X.env.frame = some X.env.locals
  hB : C.base = none
def runF (m : MS) (slots : Nat) (ds : List D) (S : Sto) : R D := match m (ds.map Sl.v ++ List.replicate (slots - ds.length) .u) S with
  | .rt d S => .ok d S
  | .nx _ S => .ok .non S
  | .er x _ S => .er x S
  | _ => .no
theorem start_ok {C : Cn} {W : Gw} {S : Sto} {H : Hp} {N : List Str} {vs : List V} {ds : List D} (k : WOk C W S H) (r : RelDs C W vs ds) (hl : vs.length ≤ N.length) : EnvOk C H W H (L2.start N vs) (ds.map Sl.v ++ List.replicate (N.length - ds.length) .u) := by
  have e1 := r.length
  have key : ∀ (i : Nat) (sl : Sl), (ds.map Sl.v ++ List.replicate (N.length - ds.length) Sl.u)[i]? = some sl → (∃ d, sl = .v d ∧ ds[i]? = some d) ∨ sl = .u := fun i sl h => by
    by_cases hi : i < ds.length
    · rw [List.getElem?_append_left (by simpa using hi), List.getElem?_map] at h
      obtain ⟨d, h1, h2⟩ := Option.map_eq_some_iff.mp h
      exact .inl ⟨d, h2.symm, h1⟩
    · rw [List.getElem?_append_right (by simp; omega)] at h
      have := List.mem_of_getElem? h
      exact .inr (List.mem_replicate.mp this).2
  refine ⟨by unfold L2.start; simp [e1], fun i d h => ?_, fun i xs h => ?_, fun i j xs ys a h => ?_, fun i h => ?_⟩
  · rcases key i _ h with ⟨d', h1, h2⟩ | h1
    · cases h1
      obtain ⟨v, h3, h4⟩ := r.get h2
      refine ⟨v, ?_, h4⟩
      unfold L2.start
      rw [List.getElem?_append_left (by simpa using (List.getElem?_eq_some_iff.mp h3).1), List.getElem?_map, h3]
      rfl
    · cases h1
  · rcases key i _ h with ⟨d', h1, h2⟩ | h1 <;> cases h1
  · rcases key i _ h with ⟨d', h1, h2⟩ | h1 <;> cases h1
  · rcases key i _ h with ⟨d', h1, h2⟩ | h1 <;> cases h1
section
variable {P : Program} {w : World} {K : PySem.W.Frag} {mg : Str → Option Value} {base : Heap} {x qual y : Str} {params : Arguments} {body : List Stmt} {scope : Scope} {f : Addr} {fd : FuncData} {N ps : List Str} {k : Nat} {C : Cn} {m : MS}
/-- THE RULE for a def: its body by a denotation -/
theorem fn_ok (hK : K = C.K) (hB : C.base = none) (F : FunD K x qual params body scope [] [] f fd) (Sc : FnScope N ps scope) (hl : ps.length ≤ N.length)
    (hbody : ∀ (cdv : Value) (A : Around) (outer : List PySem.Env) (s : Shared) (H : Hp) (E : XK), InF (cxOf (L2.CX P w) P w K mg base N qual scope f cdv A outer s H E) C (fun c d _ H => E c d H) k →
      PSs (cxOf (L2.CX P w) P w K mg base N qual scope f cdv A outer s H E) body (tS C (fun c d _ H => E c d H) m)) : FnOk P w K mg base (L2.CX P w) (k + 1) f fd ps (spF C ps.length (runF m N.length)) := by
  refine F.ok Sc (fun vs H Q E h => h.1) fun cdv A outer s H vs Q E hr h => ?_
  refine ⟨_, hbody cdv A outer s H E ⟨takes_of rfl rfl rfl rfl, passes_of rfl, hr, rfl, hK, rfl, rfl, hB⟩, ?_⟩
  obtain ⟨hn, W, S, ds, kw, r, a⟩ := h
  refine ⟨H, W, W, _, S, Step.refl W H, start_ok kw r (by omega), kw, ?_⟩
  unfold runF at a
  cases q : m (ds.map Sl.v ++ List.replicate (N.length - ds.length) Sl.u) S with
  | nx e S1 =>
    rw [q] at a
    exact fun W' σ' H' s' l' k' e' => a W' H' .non s' k' .non
  | rt d S1 =>
    rw [q] at a
    exact fun W' H' v s' k' r' => a W' H' v s' k' r'
  | er x e S1 =>
    rw [q] at a
    exact fun W' σ' H' c d s' l' k' e' r' => a W' H' c d s' k' r'
  | bk e S1 => rw [q] at a; exact a.elim
  | ct e S1 => rw [q] at a; exact a.elim
  | no => rw [q] at a; exact a.elim
theorem dk_ok (hK : K = C.K) (hB : C.base = none) (F : FunD K x qual params body scope [] [] f fd) (hm : mg y = some (.ref f)) (Sc : FnScope N ps scope) (hl : ps.length ≤ N.length)
    (hb : ∀ (kV doc pm : Value) (an : Option Addr) (cdv ct : Value) (us : List Value), us.length = ps.length → bindArgs (PySem.W.fnOf x qual params body scope .none kV doc pm an cdv ct) ⟨us, []⟩ = pure (ps.zip us))
    (hbody : ∀ (cdv : Value) (A : Around) (outer : List PySem.Env) (s : Shared) (H : Hp) (E : XK), InF (cxOf (L2.CX P w) P w K mg base N qual scope f cdv A outer s H E) C (fun c d _ H => E c d H) k →
      PSs (cxOf (L2.CX P w) P w K mg base N qual scope f cdv A outer s H E) body (tS C (fun c d _ H => E c d H) m)) : Dk P w K mg base C y ps.length (k + 1) (runF m N.length) :=
  ⟨f, fd, ps, fn_ok hK hB F Sc hl hbody, hm, F.kp, F.bindsN hb⟩
theorem dk_of {n sl : Nat} (hK : K = C.K) (hB : C.base = none) (F : FunD K x qual params body scope [] [] f fd) (hm : mg y = some (.ref f)) (Sc : FnScope N ps scope) (hl : ps.length ≤ N.length)
    (hb : ∀ (kV doc pm : Value) (an : Option Addr) (cdv ct : Value) (us : List Value), us.length = ps.length → bindArgs (PySem.W.fnOf x qual params body scope .none kV doc pm an cdv ct) ⟨us, []⟩ = pure (ps.zip us)) (hn : ps.length = n) (hs : N.length = sl)
    (hbody : ∀ (cdv : Value) (A : Around) (outer : List PySem.Env) (s : Shared) (H : Hp) (E : XK), InF (cxOf (L2.CX P w) P w K mg base N qual scope f cdv A outer s H E) C (fun c d _ H => E c d H) k →
      PSs (cxOf (L2.CX P w) P w K mg base N qual scope f cdv A outer s H E) body (tS C (fun c d _ H => E c d H) m)) : Dk P w K mg base C y n (k + 1) (runF m sl) := by
  subst hn
  subst hs
  exact dk_ok hK hB F hm Sc hl hb hbody
end
end PV

set_option autoImplicit false
set_option Elab.async false
set_option linter.all false
set_option maxRecDepth 100000
set_option maxHeartbeats 4000000
/-! PVA: try .. except X as e; lambdas handed to a def. -/
namespace PV
open PySem PySem.Spec PyProof.Rows L2 RZ

def suiteEnd (i : Nat) (r : RS) : RS := match r with
  | .nx e S => .nx ((unP e).set i .u) S
  | .bk e S => .bk ((unP e).set i .u) S
  | .ct e S => .ct ((unP e).set i .u) S
  | .rt d S => .rt d S
  | _ => .no
def sTryAs (mb : MS) (catches : Nat → Option Bool) (i : Nat) (ms : Exn → MS) : MS := fun env S => match mb env S with
  | .er x e S1 => (match catches x.cls with
    | some true => suiteEnd i (ms x ((unP e).set i .p) S1)
    | some false => .er x e S1
    | none => .no)
  | r => r
/-- a test of the exception that is held -/
def eIsE (i : Nat) (b : Option Bool) : ME := fun env S => match env[i]?, b with
  | some .p, some b => .ok (.bl b) S
  | _, _ => .no
section
variable {X : Cx} {C : Cn} {Wx : WX} {pos : Pos}
theorem env_setP {C : Cn} {H0 : Hp} {W : Gw} {H : Hp} {σ : L2.St} {env : Env} {i : Nat} {a : Addr} (e : EnvOk C H0 W H σ env) : EnvOk (C.pin a C.base C.cod) H0 W H (σ.set i (some (.ref a))) ((unP env).set i .p) := by
  have e1 := (env_unP e).forget i (some (.ref a))
  have e2 : EnvOk (C.pin a C.base C.cod) H0 W H (σ.set i (some (.ref a))) ((unP env).set i .u) := envC e1 fun j h => by
    rcases env_set h with ⟨_, q, _⟩ | ⟨_, q⟩
    · cases q
    · exact absurd rfl (unP_get q).1
  refine ⟨by simpa using e2.len, fun j d h => e2.val j d ?_, fun j xs h => e2.own j xs ?_, fun j k xs ys b h1 h2 h3 h4 => e2.dis j k xs ys b ?_ ?_ h3 h4, fun j h => ?_⟩
  · rcases env_set h with ⟨_, q, _⟩ | ⟨hj, q⟩
    · cases q
    · rw [List.getElem?_set_ne (Ne.symm hj)]; exact q
  · rcases env_set h with ⟨_, q, _⟩ | ⟨hj, q⟩
    · cases q
    · rw [List.getElem?_set_ne (Ne.symm hj)]; exact q
  · rcases env_set h1 with ⟨_, q, _⟩ | ⟨hj, q⟩
    · cases q
    · rw [List.getElem?_set_ne (Ne.symm hj)]; exact q
  · rcases env_set h2 with ⟨_, q, _⟩ | ⟨hj, q⟩
    · cases q
    · rw [List.getElem?_set_ne (Ne.symm hj)]; exact q
  · rcases env_set h with ⟨rfl, _, hl⟩ | ⟨_, q⟩
    · have h1 := e.len
      have h2 : j < env.length := by simpa [unP] using hl
      rw [List.getElem?_set_self (by omega)]
    · exact absurd rfl (unP_get q).1
theorem suite_end {C : Cn} {Wx : WX} {W0 W : Gw} {H0 : Hp} {a : Addr} {i : Nat} {r : RS} {E : Ends} (h : AftS C Wx W0 H0 W (suiteEnd i r) E) :
    AftS (C.pin a C.base C.cod) Wno W0 H0 W r { nx := fun σ' H' => E.nx (σ'.set i none) H', rt := E.rt, bk := fun σ' H' => E.bk (σ'.set i none) H', ct := fun σ' H' => E.ct (σ'.set i none) H' } := by
  have back : ∀ {W' : Gw} {σ' : L2.St} {H' : Hp} {e : Env}, EnvOk (C.pin a C.base C.cod) H0 W' H' σ' e → EnvOk C H0 W' H' (σ'.set i none) ((unP e).set i .u) := fun e' =>
    (envB (env_unP e') fun j h => absurd rfl (unP_get h).1).forget i none
  cases r with
  | nx e S => exact fun W' σ' H' s l k e' => h W' _ H' s l (wokB k k.base k.cod) (back e')
  | bk e S => exact fun W' σ' H' s l k e' => h W' _ H' s l (wokB k k.base k.cod) (back e')
  | ct e S => exact fun W' σ' H' s l k e' => h W' _ H' s l (wokB k k.base k.cod) (back e')
  | rt d S => exact fun W' H' v s k r => h W' H' v s (wokB k k.base k.cod) (relB r)
  | er x e S => exact h.elim
  | no => exact h.elim
theorem s1_tryAs {n x : Str} {cv : Value} {i : Nat} {body suite : List Stmt} {b₀ : Stmt} {np pos' : Pos} {mb : MS} {catches : Nat → Option Bool} {ms : Exn → MS} (hs : X.stack = X.env :: X.outer) (hf : X.env.frame = some X.env.locals) (hN : X.N.Nodup) (hi : X.N[i]? = some n)
    (hln : X.env.kindOf n = some .local) (hc : Names X x cv) (hct : ∀ c b, catches c = some b → PySem.W.exmOne X.K (.ref (C.ca c)) cv = some b) (tk : Takes X Wx)
    (hb : ∀ (W : WX) (pn : List (Addr × Obj)) (xe : Value → Shared → Prop), Takes (X.tr pn xe) W → PassesOwn (model X.prog X.w) X.A X.env xe → PSs (X.tr pn xe) body (tS C W mb))
    (hsu : ∀ (a : Addr) (oe : Obj) (d : Option Addr) (pn : List (Addr × Obj)) (x : Exn), Zc (.ref (C.ca x.cls)) d oe → (∃ vs, oe.data = .fields vs) → (x.arg = none → d = none) → PSs (X.suite a ((a, oe) :: pn)) (b₀ :: suite) (tS (C.pin a C.base C.cod) Wno (ms x))) :
    PS X (.Try body [.ExceptHandler (some (.Name x np)) (some n) (b₀ :: suite) pos'] [] [] pos) (tS C Wx (sTryAs mb catches i ms)) := by
  refine (ps_try_as (tb := fun W => tS C W mb) (ts := fun a cls d E σ H => ∃ x : Exn, cls = .ref (C.ca x.cls) ∧ (x.arg = none → d = none) ∧ tS (C.pin a C.base C.cod) Wno (ms x) E σ H) (i := i) (Wout := Wx) hs hf hN hi hln hc tk hb (fun a oe cls d pn hz hd => ?_)).imp fun E σ H h => ?_
  · refine ⟨fun pins s σ H E I ⟨x, e1, e2, q⟩ => ?_⟩
    subst e1
    exact (hsu a oe d pn x hz hd e2).run pins s σ H E I q
  · obtain ⟨H0, W0, W, env, S, s, e, k, h⟩ := h
    refine ⟨H0, W0, W, env, S, s, e, k, ?_⟩
    unfold sTryAs at h
    cases q : mb env S with
    | nx e1 S1 => rw [q] at h; exact h
    | bk e1 S1 => rw [q] at h; exact h
    | ct e1 S1 => rw [q] at h; exact h
    | rt d S1 => rw [q] at h; exact h
    | no => rw [q] at h; exact h
    | er x e1 S1 =>
      rw [q] at h
      dsimp only at h
      intro W' σ' H' cls dx s' l' k' e' r'
      obtain ⟨rc, ra⟩ := r'
      subst rc
      have ra' : x.arg = none → dx = none := fun z => by
        rw [z] at ra
        exact ra
      cases qc : catches x.cls with
      | none => rw [qc] at h; exact h.elim
      | some b =>
        rw [qc] at h
        refine ⟨b, hct _ _ qc, fun hb a ha => ?_, fun hb => ?_⟩
        · subst hb
          dsimp only at h
          exact ⟨x, rfl, ra', H0, W0, W', _, S1, s', env_setP e', wokC k' k'.base k'.cod, suite_end (h.le l')⟩
        · subst hb
          exact h W' σ' H' _ dx s' l' k' e' ⟨rfl, ra⟩
end
end PV

set_option autoImplicit false
set_option Elab.async false
set_option linter.all false
set_option maxRecDepth 100000
set_option maxHeartbeats 4000000
/-! PVB: isinstance of the held exception; lambdas handed to a def. -/
namespace PV
open PySem PySem.Spec PyProof.Rows L2 RZ LamX

section
variable {X : Cx} {C : Cn} {pos p q q2 : Pos}
theorem se_isE {a A Y : Addr} {oe : Obj} {pn : List (Addr × Obj)} {i : Nat} {n y : Str} {b : Option Bool} {Wx : WX} (hx : C.xa = a) (hC : ExcC X.K A) (hz : Zc (.ref A) none oe) (hf : ∃ vs, oe.data = .fields vs)
    (hk : ∀ z, b = some z → PySem.W.kitOne X.K (.ref A) (.ref Y) = some z) (hg : Gl (X.suite a ((a, oe) :: pn)) "isinstance") (hm : X.mg "isinstance" = none) (hN : X.N[i]? = some n) (hv : Vis X.env.scope n) (hgy : Gl (X.suite a ((a, oe) :: pn)) y) (hmy : X.mg y = some (.ref Y))
    (hd : (n == ("__debug__" : Str)) = false := by decide) (hcd : (n == ("__classdict__" : Str)) = false := by decide) (hdy : (y == ("__debug__" : Str)) = false := by decide) :
    PE (X.suite a ((a, oe) :: pn)) (.Call (.Name "isinstance" p) [.Name n q, .Name y q2] [] pos) (tE C Wx (eIsE i b)) :=
  (pe_callB (X := X.suite a ((a, oe) :: pn)) (call_isE hC hz hf) hg hm (by decide +kernel) (pa_cons (pe_var (i := i) hN hv hd hcd) (pa_cons (pe_glob (v := .ref Y) hgy hmy rfl hdy) pa_nil (by rfl)) (by rfl)) (he := by rfl) (hpl := by rfl)).imp fun σ H Q ⟨H0, W, env, S, e, k, h⟩ => by
    unfold eIsE at h
    split at h
    · rename_i z hi h'
      have h1 := e.exq i hi
      rw [hx] at h1
      exact ⟨_, h1, _, _, z, rfl, fun u r => r, hk z rfl, Aft.ok h k (.bl z)⟩
    · exact h.elim
end

/-! ### x(lambda: body) -/
/-- the call of what was handed: th says what it does -/
def eAct (i : Nat) (th : Sto → R D) : ME := fun env S => match env[i]? with
  | some .p => th S
  | _ => .no
def eLam (g : (Sto → R D) → Sto → R D) (me : ME) : ME := fun env S => g (me env) S
/-- a def whose one argument is called: its body by a denotation of the thing handed -/
def runG (m : (Sto → R D) → MS) (slots : Nat) (th : Sto → R D) (S : Sto) : R D := match m th (.p :: List.replicate (slots - 1) .u) S with
  | .rt d S => .ok d S
  | .nx _ S => .ok .non S
  | .er x _ S => .er x S
  | _ => .no
section
variable {X : Cx} {pins : List (Addr × Obj)} {σ : L2.St} {H : Hp} {s : Shared}
/-- a() in the def that got the lambda; what it raises is wished for at the slots there -/
theorem pe_actS {CXg : CXT} {Eg : XK} {Ng : List Str} {qg : Str} {sg : Scope} {g f c' : Addr} {cdg pm ctv : Value} {params : Arguments} {body : Expr} {scope : Scope} {k i : Nat} {a : Str} {pn : List (Addr × Obj)} {xe : Value → Shared → Prop} {E : L2.St → XK} {tb : XK → TE} {p1 p2 : Pos}
    (I : Inv X pins σ H s) (L : LamS X.env.scope scope) (hf : s.heap.get? f = some (PySem.W.kla_obj "<lambda>" (X.env.qual ++ "<lambda>") params body scope (cloFrom X.env.cells scope.names []) pm c' ctv)) (hfn : H f = none) (hfr : f ∉ frs X.stack)
    (hbind : bindArgs (PySem.W.kla_fn "<lambda>" (X.env.qual ++ "<lambda>") params body scope (cloFrom X.env.cells scope.names []) pm (.ref c') ctv) ⟨[], []⟩ = pure [])
    (hx : ∀ σZ, PassesAt (L2.CX X.prog X.w) ((cxOf CXg X.prog X.w X.K X.mg X.base Ng qg sg g cdg X.A X.stack s H Eg).tr pn xe) σZ (E σZ)) (hr : Room (k + 1) (X.A.deeper (envOfC qg sg s.heap.objs.size g cdg)))
    (hbody : ∀ (A : Around) (outer : List PySem.Env) (s : Shared) (H : Hp) (EE : XK), Room k (A.deeper (lamEnv X scope s.heap.objs.size f c')) → PE (lamCx X A outer s H EE scope f c') body (tb EE))
    (hN : Ng[i]? = some a) (hv : Vis sg a) (hd : (a == ("__debug__" : Str)) = false := by decide) (hcd : (a == ("__classdict__" : Str)) = false := by decide) :
    PE ((cxOf CXg X.prog X.w X.K X.mg X.base Ng qg sg g cdg X.A X.stack s H Eg).tr pn xe) (.Call (.Name a p1) [] [] p2)
      (fun σZ HZ Q => σZ[i]? = some (some (.ref f)) ∧ HZ c' = some (CodeO c' (X.env.qual ++ "<lambda>")) ∧ tb (E σZ) σ HZ Q) := by
  refine ⟨fun pinsZ sZ σZ HZ Q IZ ⟨hs, hc, ht⟩ => ?_⟩
  refine wpAny_Call_Name_kw (thn ((pe_var (pos := p1) (i := i) hN hv hd hcd).run pinsZ sZ σZ HZ (fun v H1 => v = .ref f ∧ H1 = HZ) IZ ⟨.ref f, hs, rfl, rfl⟩) fun u s1 ⟨v, H1, I1, r1, ev, eH⟩ => ?_)
  subst ev
  subst eH
  obtain rfl : u = Value.ref f := r1
  have of1 := I1.base.keep f _ hf hfn hfr (fun z => nomatch (show f ∈ ([] : List Addr) from z))
  refine PySem.W.callWith_F0 ⟨_, _, _, _, of1⟩ ?_
  have un : Un (frs X.stack) [] H H1 s.heap s1.heap := I1.base
  obtain ⟨⟨oc, vs, t, hoc, hdc, hvc⟩, _, _⟩ := I1.hok c' _ hc
  have rc : codeAny (model X.prog X.w) (X.A.deeper (envOfC qg sg s.heap.objs.size g cdg)) (.call (.ref f) ⟨[], []⟩) (CR (L2.CX X.prog X.w) (envOfC qg sg s.heap.objs.size g cdg :: X.stack) X.prog X.w H1 s1 Q (E σZ)) s1 := by
    refine PySem.W.kla_callFunE hr.depth of1 rfl L.co L.gen rfl ⟨c', oc, vs, t, rfl, hoc, hdc, hvc⟩ ?_
    rw [hbind]
    refine wpAny_pure (wpAny_newFunctionEnv (fun y hy => (L.own y hy).2) (fun y hy => absurd hy (by simp)) (fun h₁ hns hsb => ⟨I1.nolimit.fresh _ hsb, ?_⟩) L.kind)
    show codeAny _ _ (.expr body (lamEnv X scope s1.heap.objs.size f c')) _ _
    have kp := fun b o (e : s1.heap.get? b = some o) => hsb.extBut b o (Nat.ne_of_lt (Heap.lt_size e)) (Heap.get?_push_of_some _ e)
    have J := lam_start2 (E := E σZ) (f := f) (c' := c') (tk := s1.toks + ([] : List (Str × Value)).length) I L I1.env0 hr.hd un hns kp
    refine PySem.W.kla_codeExpr (wpAny_mono ((hbody _ _ s1 H1 (E σZ) (hr.deeper _)).run [] _ _ H1 Q J ht) (fun v s' ⟨w', H', J', rv, q⟩ => ⟨w', H', J'.os, J'.bare, J'.base, J'.hok, rv, q⟩) fun e s' hq => hq)
  refine wpAny_call (codeAny_mono rc fun r s' hq => ?_)
  cases r with
  | error e => exact hx σZ pinsZ H1 s1 e s' I1 hq
  | ok fl =>
    cases fl with
    | ret u => exact I1.after hq
    | next => exact False.elim hq
    | brk => exact False.elim hq
    | cont => exact False.elim hq
end
/-- the def x, that calls its one argument (named a) -/
structure Lk (P : Program) (w : World) (K : PySem.W.Frag) (mg : Str → Option Value) (base : Heap) (C : Cn) (x : Str) (k : Nat) (m : (Sto → R D) → MS) (n : Nat) : Prop where
  ex : ∃ (g : Addr) (pg : Arguments) (bg : List Stmt) (sg : Scope) (dV kV doc pm cdv ct oc : Value) (an od : Option Addr) (osl : Array (Option Value)) (Ng : List Str) (a : Str),
    mg x = some (.ref g) ∧ PySem.W.keepIn K (.ref g) = true ∧ K.lookup g = some ⟨oc, od, .func (PySem.W.fnOf x x pg bg sg dV kV doc pm an cdv ct), osl⟩ ∧ PySem.W.codeIn K cdv x = true ∧
    L2.Binds K (PySem.W.fnOf x x pg bg sg dV kV doc pm an cdv ct) [a] [] ∧ FnScope Ng [a] sg ∧ Ng.length = n ∧ Ng[0]? = some a ∧ Vis sg a ∧ ((a == ("__debug__" : Str)) = false ∧ (a == ("__classdict__" : Str)) = false) ∧
    ∀ (A : Around) (outer : List PySem.Env) (s : Shared) (H : Hp) (E : XK) (f c' : Addr) (q : Str) (b : Gw × Hp) (th : Sto → R D),
      (∀ (W : WX) (pn : List (Addr × Obj)) (xe : Value → Shared → Prop) (p1 p2 : Pos), Takes ((cxOf (L2.CX P w) P w K mg base Ng x sg g cdv A outer s H E).tr pn xe) W →
        PE ((cxOf (L2.CX P w) P w K mg base Ng x sg g cdv A outer s H E).tr pn xe) (.Call (.Name a p1) [] [] p2) (tE (C.pin f (some b) (some (c', q))) W (eAct 0 th))) →
      InF (cxOf (L2.CX P w) P w K mg base Ng x sg g cdv A outer s H E) { C with base := none } (fun c d _ H => E c d H) k →
      PSs (cxOf (L2.CX P w) P w K mg base Ng x sg g cdv A outer s H E) bg (tS (C.pin f (some b) (some (c', q))) (fun c d _ H => E c d H) (m th))
section
variable {X : Cx} {C : Cn} {Wx : WX}
theorem ext_ok {W : Gw} {S : Sto} {H H1 : Hp} (k : WOk C W S H) (e : ExtN H H1) (t : Tabs C.T H1) : Step W H W H1 ∧ WOk C W S H1 := by
  have st : Step W H W H1 := ⟨Le.refl W, fun a o h _ hn => e a o h hn, fun _ _ h => .inl h, fun _ h => .inl h⟩
  refine ⟨st, ⟨fun a o h => e a o (k.fz a o h) fun ps z => k.nt a ps (z ▸ h), k.len, k.nd, fun n a h => ?_, t, k.nt, fun b hb => (k.base b hb).trans k st, fun p hp => e _ _ (k.cod p hp) fun ps => codeO_ne ps⟩⟩
  obtain ⟨h1, vs, xs, h2, h3, h4⟩ := k.st n a h
  exact ⟨h1, vs, xs, e _ _ h2 (fun _ z => nomatch z), h3, h4⟩
theorem Step.code {W W1 : Gw} {H H1 : Hp} {S : Sto} {c : Addr} {q : Str} (s : Step W H W1 H1) (k : WOk C W S H) (h : H c = some (CodeO c q)) : H1 c = some (CodeO c q) := by
  refine s.same c _ h (fun z => ?_) (fun ps => codeO_ne ps)
  obtain ⟨vs, e⟩ := k.tracked z
  rw [h] at e
  unfold CodeO at e
  cases e
theorem startG {C : Cn} {W : Gw} {H : Hp} {N : List Str} {f : Addr} (hx : C.xa = f) (hl : 1 ≤ N.length) : EnvOk C H W H (L2.start N [.ref f]) (Sl.p :: List.replicate (N.length - 1) .u) := by
  have key : ∀ (i : Nat) (sl : Sl), (Sl.p :: List.replicate (N.length - 1) Sl.u)[i]? = some sl → (i = 0 ∧ sl = .p) ∨ sl = .u := fun i sl h => by
    cases i with
    | zero => exact .inl ⟨rfl, (Option.some.inj h).symm⟩
    | succ i =>
      rw [List.getElem?_cons_succ] at h
      exact .inr (List.mem_replicate.mp (List.mem_of_getElem? h)).2
  refine ⟨by unfold L2.start; simp [Nat.add_comm], fun i d h => ?_, fun i xs h => ?_, fun i j xs ys a h => ?_, fun i h => ?_⟩
  · rcases key i _ h with ⟨_, z⟩ | z <;> cases z
  · rcases key i _ h with ⟨_, z⟩ | z <;> cases z
  · rcases key i _ h with ⟨_, z⟩ | z <;> cases z
  · rcases key i _ h with ⟨z, _⟩ | z
    · subst z
      rw [hx]
      rfl
    · cases z
theorem se_lam {x : Str} {c P : Addr} {k n : Nat} {m : (Sto → R D) → MS} {params : Arguments} {body : Expr} {scope : Scope} {me : ME} {p lpos pos : Pos} (hB : C.base = none) (hK : X.K = C.K) (tk : Takes X Wx) (F : Lk X.prog X.w X.K X.mg X.base C x (k + 1) m n) (hg : Gl X x)
    (TB : TabB X.base X.mg c P) (hcode : X.env.code = .ref c) (hmT : (P, X.env.qual ++ "<lambda>") ∈ C.T) (hu : ∀ p ∈ C.T, p.1 = P → p.2 = X.env.qual ++ "<lambda>") (hr : Room (k + 2) X.A) (L : LamS X.env.scope scope) (hdef : defaultsOf params X.env = ([], []))
    (hbind : ∀ (q : Str) (cl : List (Str × Addr)) (pm cv ctv : Value), bindArgs (PySem.W.kla_fn "<lambda>" q params body scope cl pm cv ctv) ⟨[], []⟩ = pure [])
    (hbody : ∀ (A : Around) (outer : List PySem.Env) (s : Shared) (H : Hp) (E : XK) (f c' : Addr), Room k (A.deeper (lamEnv X scope s.heap.objs.size f c')) → Takes (lamCx X A outer s H E scope f c') (fun c d _ H => E c d H) → PE (lamCx X A outer s H E scope f c') body (tE C (fun c d _ H => E c d H) me))
    (hdb : (x == ("__debug__" : Str)) = false := by decide) : PE X (.Call (.Name x p) [.Lambda params body scope lpos] [] pos) (tE C Wx (eLam (runG m n) me)) := by
  obtain ⟨g, pg, bg, sg, dV, kV, doc, pm, cdv, ct, oc, an, od, osl, Ng, a, hm, hk, lk, hcg, hb, Sg, hn, hNg, hva, ⟨had, hac⟩, hG⟩ := F.ex
  refine ⟨fun pins s σ H Q I ⟨H0, W, env, S, en, kw, h⟩ => ?_⟩
  refine wpAny_Call_Name_kw (ld_glob I hg hm ?_ hdb)
  refine PySem.W.callWith_K (h₀ := X.base) I.ok.mod.kin hk ?_ (by rfl) (by rfl)
  show wpAny _ _ (spliced ((false, eval (.Lambda params body scope lpos) X.env) :: backTo pos (starEach [] X.env))) _ _ s
  refine Calls.spliced_cons (lam_make2 I TB hcode hmT hu kw.tabs hdef (L.has I.ok) fun f c' pm' ctv H1 s' I1 eN T1 hf hfn hfr hco => Calls.spliced_nil ⟨I1.kIn, ?_⟩)
  obtain ⟨st1, k1⟩ := ext_ok kw eN T1
  have e1 := en.step st1
  have h1 : Aft C Wx (RelD C) W H1 σ (runG m n (me env) S) Q := Aft.step h st1 k1
  refine wpAny_call (codeAny_mono (R := CR (L2.CX X.prog X.w) X.stack X.prog X.w H1 s' Q (WE Wx σ)) (run_ofS (N := Ng) (ps := [a]) (us := [.ref f]) (vs := [.ref f]) lk hcg Sg hr I1.env0 (hb s' [.ref f] I1.kIn rfl) (.cons rfl .nil) rfl fun hr' => ?_) fun r s2 hq => ?_)
  · refine ⟨_, hG X.A X.stack s' H1 (WE Wx σ) f c' (X.env.qual ++ "<lambda>") (W, H1) (me env) (fun Wz pn xe p1 p2 tz => ?_) ⟨takes_of rfl rfl rfl rfl, passes_of rfl, hr', rfl, hK, rfl, rfl, rfl⟩, ?_⟩
    · refine (pe_actS (i := 0) (E := WE Wz) (tb := fun EE => tE C (fun c d _ H => EE c d H) me) I1 L hf hfn hfr (hbind _ _ _ _ _) (fun σZ => passAt tz σZ) hr' (fun A outer s H EE hr2 => hbody A outer s H EE f c' hr2 (takes_of rfl rfl rfl rfl)) hNg hva had hac).imp fun σZ HZ QZ hZ => ?_
      obtain ⟨Hz0, Wz1, envz, Sz, ez, kz, hz⟩ := hZ
      unfold eAct at hz
      split at hz
      · rename_i hp
        have hb' : Step W H1 Wz1 HZ := kz.base (W, H1) rfl
        have kz' : WOk C Wz1 Sz HZ := wokB kz (fun b hb => by rw [hB] at hb; cases hb) (fun q hq => hb'.code k1 (k1.cod q hq) |> fun z => z)
        refine ⟨ez.exq 0 hp, kz.cod (c', _) rfl, H0, Wz1, env, Sz, e1.step hb', kz', ?_⟩
        cases q : me env Sz with
        | ok d S' =>
          rw [q] at hz
          exact fun W' H' v s k r => hz W' H' v s (wokC k (fun z hz => by cases hz; exact hb'.trans kz' s) (fun pp hpp => by cases hpp; exact s.code kz' (kz.cod (c', _) rfl))) (relC r)
        | er x S' =>
          rw [q] at hz
          exact fun W' H' cls dx s k r => hz W' H' cls dx s (wokC k (fun z hz => by cases hz; exact hb'.trans kz' s) (fun pp hpp => by cases hpp; exact s.code kz' (kz.cod (c', _) rfl))) (by
            obtain ⟨r1, r2⟩ := r
            refine ⟨r1, ?_⟩
            cases qa : x.arg with
            | none => rw [qa] at r2; exact r2
            | some fd =>
              rw [qa] at r2
              obtain ⟨e, v, z1, z2, z3⟩ := r2
              exact ⟨e, v, z1, z2, relC z3⟩)
        | no =>
          rw [q] at hz
          exact hz.elim
      · exact hz.elim
    · have hl : 1 ≤ Ng.length := (List.getElem?_eq_some_iff.mp hNg).1
      refine ⟨H1, W, W, _, S, Step.refl W H1, startG rfl hl, wokC k1 (fun z hz => by cases hz; exact Step.refl _ _) (fun pp hpp => by cases hpp; exact hco), ?_⟩
      unfold runG at h1
      rw [← hn] at h1
      have wb : ∀ {W' : Gw} {S' : Sto} {H' : Hp}, WOk (C.pin f (some (W, H1)) (some (c', X.env.qual ++ "<lambda>"))) W' S' H' → WOk C W' S' H' := fun k => wokB k (fun b hb => by rw [hB] at hb; cases hb) (fun q hq => (k.base (W, H1) rfl).code k1 (k1.cod q hq))
      cases q : m (me env) (Sl.p :: List.replicate (Ng.length - 1) .u) S with
      | nx e S1 =>
        rw [q] at h1
        exact fun W' σ' H' s' l' k' e' => h1 W' H' .non s' (wb k') .non
      | rt d S1 =>
        rw [q] at h1
        exact fun W' H' v s' k' r' => h1 W' H' v s' (wb k') (relB r')
      | er x e S1 =>
        rw [q] at h1
        exact fun W' σ' H' c d s' l' k' e' r' => h1 W' H' c d s' (wb k') (by
          obtain ⟨r1, r2⟩ := r'
          refine ⟨r1, ?_⟩
          cases qa : x.arg with
          | none => rw [qa] at r2; exact r2
          | some fd =>
            rw [qa] at r2
            obtain ⟨e, v, z1, z2, z3⟩ := r2
            exact ⟨e, v, z1, z2, relB z3⟩)
      | bk e S1 => rw [q] at h1; exact h1.elim
      | ct e S1 => rw [q] at h1; exact h1.elim
      | no => rw [q] at h1; exact h1.elim
  · cases r with
    | error e => exact passAt tk σ pins H1 s' e s2 I1 hq
    | ok fl =>
      cases fl with
      | ret u => exact I1.after hq
      | next => exact False.elim hq
      | brk => exact False.elim hq
      | cont => exact False.elim hq
end
end PV

set_option autoImplicit false
set_option Elab.async false
set_option linter.all false
set_option maxRecDepth 100000
set_option maxHeartbeats 4000000
/-! PVC: the rules in short. -/
namespace PV
open PySem PySem.Spec PyProof.Rows L2 RZ LamX

theorem t_frz {C : Cn} {Wx : WX} {m : MA} {σ : L2.St} {H : Hp} {Q : VK} (h : tE C Wx (eL m) σ H Q) : tF C Wx m σ H Q := by
  obtain ⟨H0, W, env, S, e, k, h⟩ := h
  refine ⟨H0, W, env, S, e, k, ?_⟩
  unfold eL at h
  cases q : m env S with
  | ok xs S' =>
    rw [q] at h
    have h' : Aft C Wx (RelD C) W H σ (.ok (.lst xs) S') Q := h
    refine fun W' H' p vs s k' h1 h2 h3 h4 r => h' (W'.fr p (.lst vs)) H' (.ref p) (s.frz h4 h2) (k'.frz h1 h2 h3 (k.frb h4)) (.lst ?_ (r.le (Le.fr W' _ h2)))
    show upd W'.Fz p (.lst vs) p = _
    exact upd_same
  | er x S' =>
    rw [q] at h
    exact h
  | no =>
    rw [q] at h
    exact h
theorem hu65 {k : Nat} {A : Around} (r : Room k A) : A.units + 65 < cLine := by have := r.un; omega
section
variable {X : Cx} {C : Cn} {Wx : WX} {pos p q p1 p2 p3 p4 : Pos} {x y : Str} {b e : Expr} {mb me mk mo m : ME}
theorem vv (i : Nat) (hN : X.N[i]? = some x := by rfl) (hv : Vis X.env.scope x := by first | exact Or.inl rfl | exact Or.inr (Or.inl rfl) | exact Or.inr (Or.inr rfl)) (hd : (x == ("__debug__" : Str)) = false := by decide)
    (hcd : (x == ("__classdict__" : Str)) = false := by decide) : PE X (.Name x pos) (tE C Wx (eVar i)) := se_var hN hv hd hcd
theorem sgn (i : Nat) (hN : X.N.Nodup) (hi : X.N[i]? = some x := by rfl) (hx : Loc X.env.scope x := by first | exact .inl rfl | exact .inr rfl) (hf : X.fn x = true ∨ X.env.scope.names.lookup x = some .local := by first | exact .inl rfl | exact .inr rfl) :
    PG X (.Name x pos) (tTg X.K (.n i)) := sg_name hN hi hx hf
theorem ixO (i : Nat) (hb : PE X b (tE C Wx mb)) (hN : X.N[i]? = some x := by rfl) (hv : Vis X.env.scope x := by first | exact Or.inl rfl | exact Or.inr (Or.inl rfl) | exact Or.inr (Or.inr rfl)) (hs : PlainIx b := by exact fun _ _ => rfl)
    (hd : (x == ("__debug__" : Str)) = false := by decide) (hcd : (x == ("__classdict__" : Str)) = false := by decide) : PE X (.Subscript (.Name x p) b pos) (tE C Wx (eIxO i mb)) := se_ixO hN hv hb hs hd hcd
theorem lenO (i : Nat) (hg : Gl X "len") (hm : X.mg "len" = none) (hN : X.N[i]? = some x := by rfl) (hv : Vis X.env.scope x := by first | exact Or.inl rfl | exact Or.inr (Or.inl rfl) | exact Or.inr (Or.inr rfl)) (hd : (x == ("__debug__" : Str)) = false := by decide)
    (hcd : (x == ("__classdict__" : Str)) = false := by decide) (hs : starEach [.Name x q] X.env = [(false, eval (.Name x q) X.env)] := by rfl) : PE X (.Call (.Name "len" p) [.Name x q] [] pos) (tE C Wx (eLenO i)) := se_lenO hN hv hg hm hd hcd hs
theorem sets (i : Nat) {m : MU} (hN : X.N.Nodup) (he : PE X e (tU C Wx m)) (hi : X.N[i]? = some x := by rfl) (hx : Loc X.env.scope x := by first | exact .inl rfl | exact .inr rfl) (hf : X.fn x = true ∨ X.env.scope.names.lookup x = some .local := by first | exact .inl rfl | exact .inr rfl)
    (hs : swapsWith e (some (.Name x p)) pos.line X.env = pure false := by rfl) : PS X (.Assign [.Name x p] e pos) (tS C Wx (sSet i m)) := s1_set hN hi hx he hf hs
theorem app (i : Nat) (hB : C.base = none) (he : PE X e (tE C Wx m)) (hN : X.N[i]? = some x := by rfl) (hv : Vis X.env.scope x := by first | exact Or.inl rfl | exact Or.inr (Or.inl rfl) | exact Or.inr (Or.inr rfl)) (hd : (x == ("__debug__" : Str)) = false := by decide)
    (hcd : (x == ("__classdict__" : Str)) = false := by decide) (hbase : attributeBase (.Name x p1) "append" X.env (eval (.Name x p1) X.env) = eval (.Name x p1) X.env := by rfl)
    (hfew : ((backTo p3 (starEach (e :: []) X.env)).all (fun x => !x.1) && (backToKw p3 (keywordEach [] X.env)).all (fun x => x.1.isSome)
      && decide ((e :: []).length + ([] : List Keyword).length + (if ([] : List Keyword).isEmpty then 0 else 1) < 30)) = true := by rfl)
    (hline : (p2.endLine == p3.line) = true := by rfl) (hst : starEach (e :: []) X.env = (false, eval e X.env) :: starEach [] X.env := by rfl) (hpl : (backTo p3 (starEach [] X.env)).any (·.1) = false := by rfl)
    (hs : swapsWith (.Call (.Attribute (.Name x p1) "append" p2) [e] [] p3) none pos.line X.env = pure false := by rfl) : PS X (.Expr (.Call (.Attribute (.Name x p1) "append" p2) [e] [] p3) pos) (tS C Wx (sApp i m)) :=
  s1_app hB hN hv he (pe_bm PySem.F.plainAttrs_list PySem.F.slot_list_append PySem.F.type_list_append mt_append (pe_var hN hv hd hcd) (pa_cons he pa_nil hst) hbase hfew hline hst hpl) hs
theorem pop (i j : Nat) (hB : C.base = none) (hN : X.N.Nodup) (hi : X.N[i]? = some x := by rfl) (hj : X.N[j]? = some y := by rfl) (hx : Loc X.env.scope x := by first | exact .inl rfl | exact .inr rfl) (hf : X.fn x = true ∨ X.env.scope.names.lookup x = some .local := by first | exact .inl rfl | exact .inr rfl)
    (hv : Vis X.env.scope y := by first | exact Or.inl rfl | exact Or.inr (Or.inl rfl) | exact Or.inr (Or.inr rfl)) (hd : (y == ("__debug__" : Str)) = false := by decide) (hcd : (y == ("__classdict__" : Str)) = false := by decide)
    (hbase : attributeBase (.Name y p1) "pop" X.env (eval (.Name y p1) X.env) = eval (.Name y p1) X.env := by rfl) (hline : (p2.endLine == p3.line) = true := by rfl)
    (hs : swapsWith (.Call (.Attribute (.Name y p1) "pop" p2) [] [] p3) (some (.Name x p4)) pos.line X.env = pure false := by rfl) : PS X (.Assign [.Name x p4] (.Call (.Attribute (.Name y p1) "pop" p2) [] [] p3) pos) (tS C Wx (sPop i j)) :=
  s1_pop hB hN hi hx hf (pe_bm0 PySem.F.plainAttrs_list PySem.F.slot_list_pop PySem.F.type_list_pop mt_pop (pe_var hj hv hd hcd) hbase hline) hs
theorem putO (i : Nat) {e : Expr} (hB : C.base = none) (hb : PE X b (tE C Wx mk)) (he : PE X e (tE C Wx me)) (hN : X.N[i]? = some x := by rfl) (hv : Vis X.env.scope x := by first | exact Or.inl rfl | exact Or.inr (Or.inl rfl) | exact Or.inr (Or.inr rfl))
    (hd : (x == ("__debug__" : Str)) = false := by decide) (hcd : (x == ("__classdict__" : Str)) = false := by decide)
    (hs : swapsWithSole [.Subscript (.Name x p1) b p2] e pos.line X.env = pure false := by rfl) (hw : swappedStores [.Subscript (.Name x p1) b p2] e X.env = pure none := by rfl)
    (ha : ∀ v, assign (.Subscript (.Name x p1) b p2) X.env v = (do
      let z ← holding [v] (eval (.Name x p1) X.env)
      let u ← holding [v, z] (eval b X.env)
      standAt p2
      holding [v, z, u] (setItem z u v)
      release [v, z, u] []) := by intro _; rfl) : PS X (.Assign [.Subscript (.Name x p1) b p2] e pos) (tS C Wx (sPutO i mk me)) :=
  s1_putO hB hN hv hb he (pe_var hN hv hd hcd) hs hw (pg_sub (pe_var hN hv hd hcd) hb set_list ha)
theorem putR {o e : Expr} (ho : PE X o (tE C Wx mo)) (hb : PE X b (tE C Wx mk)) (he : PE X e (tE C Wx me))
    (hs : swapsWithSole [.Subscript o b p2] e pos.line X.env = pure false := by rfl) (hw : swappedStores [.Subscript o b p2] e X.env = pure none := by rfl)
    (ha : ∀ v, assign (.Subscript o b p2) X.env v = (do
      let z ← holding [v] (eval o X.env)
      let u ← holding [v, z] (eval b X.env)
      standAt p2
      holding [v, z, u] (setItem z u v)
      release [v, z, u] []) := by intro _; rfl) : PS X (.Assign [.Subscript o b p2] e pos) (tS C Wx (sPutR mo mk me)) :=
  s1_putR ho hb he hs hw (pg_sub ho hb set_list ha)
theorem par (i j : Nat) {a b : Expr} {m m' : MU} {px py pt pt2 : Pos} {kt k2 : _} (hc : X.calm = true) (hN : X.N.Nodup) (ha : PE X a (tU C Wx m)) (hb : PE X b (tU C Wx m')) (hi : X.N[i]? = some x := by rfl) (hj : X.N[j]? = some y := by rfl) (hij : i ≠ j := by decide)
    (hx : X.env.scope.names.lookup x = some .local := by rfl) (hy : X.env.scope.names.lookup y = some .local := by rfl)
    (hw : swappedStores [.Tuple [.Name x px, .Name y py] kt pt] (.Tuple [a, b] k2 pt2) X.env = pure (some [x, y]) := by rfl) (hs : swapsWithSole [.Tuple [.Name x px, .Name y py] kt pt] (.Tuple [a, b] k2 pt2) pos.line X.env = pure false := by rfl)
    (hs1 : starEach [a, b] X.env = (false, eval a X.env) :: starEach [b] X.env := by rfl) (hs2 : starEach [b] X.env = (false, eval b X.env) :: starEach [] X.env := by rfl) :
    PS X (.Assign [.Tuple [.Name x px, .Name y py] kt pt] (.Tuple [a, b] k2 pt2) pos) (tS C Wx (sPar i j m m')) :=
  (ps_par hc hN hi hj hij hx hy (pa_cons ha (pa_cons hb pa_nil hs2) hs1) hw hs).imp fun _ _ _ h => t_par hij h
/-- a, b = e: the value's items -/
def sAsgT (is : List Nat) (m : ME) : MS := fun env S => (m env S).toS env fun d S1 => match tgE (.t is) d env with
  | some env1 => .nx env1 S1
  | none => .no
theorem asgT {es : List Expr} {kk : _} {tp : Pos} {e : Expr} {is : List Nat} (hK : X.K = C.K) (hg : PG X (.Tuple es kk tp) (tTg X.K (.t is))) (he : PE X e (tE C Wx me)) (hs : swapsWithSole [.Tuple es kk tp] e pos.line X.env = pure false := by rfl) (hw : swappedStores [.Tuple es kk tp] e X.env = pure none := by rfl) :
    PS X (.Assign [.Tuple es kk tp] e pos) (tS C Wx (sAsgT is me)) :=
  (ps_asg he hg hs hw).imp fun E σ H h => (tS.seqE (f := fun env d S1 => match tgE (.t is) d env with
    | some env1 => .nx env1 S1
    | none => .no) h).imp fun v H1 ⟨H0, W0, W1, env, S1, d, s, en, k, r, a⟩ => by
    split at a
    · rename_i env1 hq
      exact tg_ok hK r en k hq fun σ1 e1 _ => a.now s k e1
    · exact a.elim
end
section
variable {P : Program} {w : World} {K : PySem.W.Frag} {mg : Str → Option Value} {base : Heap} {x qual y : Str} {params : Arguments} {body : List Stmt} {scope : Scope} {f : Addr} {fd : FuncData} {N ps : List Str} {k : Nat} {C : Cn} {m : MS}
/-- a def that says nothing (no fuel) -/
theorem dk_no {n : Nat} (F : FunD K x qual params body scope [] [] f fd) (hm : mg y = some (.ref f)) (hn : ps.length = n)
    (hb : ∀ (kV doc pm : Value) (an : Option Addr) (cdv ct : Value) (us : List Value), us.length = ps.length → bindArgs (PySem.W.fnOf x qual params body scope .none kV doc pm an cdv ct) ⟨us, []⟩ = pure (ps.zip us)) : Dk P w K mg base C y n k (fun _ _ => .no) := by
  subst hn
  refine ⟨f, fd, ps, ⟨fun vs H Q E h => h.1, fun A outer s H args us vs Q E _ _ _ _ h => ?_⟩, hm, F.kp, F.bindsN hb⟩
  obtain ⟨_, W, S, ds, _, _, a⟩ := h
  exact a.elim
theorem Dk.up {n j : Nat} {g : List D → Sto → R D} (F : Dk P w K mg base C y n j g) (h : j ≤ k) : Dk P w K mg base C y n k g := by
  obtain ⟨f, fd, ps, F, a⟩ := F
  exact ⟨f, fd, ps, F.mono h, a⟩
/-- a def that makes lambdas: where its code object lies is known -/
theorem fn_okL {d : Str × Option Str} (hf : f = He.fAd K d) (hK : K = C.K) (hB : C.base = none) (F : FunD K x qual params body scope [] [] f fd) (Sc : FnScope N ps scope) (hl : ps.length ≤ N.length)
    (hbody : ∀ (A : Around) (outer : List PySem.Env) (s : Shared) (H : Hp) (E : XK), InF (cxOf (L2.CX P w) P w K mg base N qual scope f (.ref (He.cT K d).1) A outer s H E) C (fun c d _ H => E c d H) k →
      PSs (cxOf (L2.CX P w) P w K mg base N qual scope f (.ref (He.cT K d).1) A outer s H E) body (tS C (fun c d _ H => E c d H) m)) : FnOk P w K mg base (L2.CX P w) (k + 1) f fd ps (spF C ps.length (runF m N.length)) := by
  obtain ⟨oc, od, dV, kV, doc, pm, an, cdv, ct, osl, rfl, lk, hcd, _, _⟩ := F.ex
  obtain ⟨c, rfl⟩ := He.codeIn_ref hcd
  have hc : (He.cT K d).1 = c := by
    show He.codeOf K d = c
    rw [hf] at lk
    exact He.codeOf_eq lk rfl
  rw [hc] at hbody
  refine fn_of lk hcd Sc (fun vs H Q E h => h.1) fun A outer s H vs Q E hr h => ?_
  refine ⟨_, hbody A outer s H E ⟨takes_of rfl rfl rfl rfl, passes_of rfl, hr, rfl, hK, rfl, rfl, hB⟩, ?_⟩
  obtain ⟨hn, W, S, ds, kw, r, a⟩ := h
  refine ⟨H, W, W, _, S, Step.refl W H, start_ok kw r (by omega), kw, ?_⟩
  unfold runF at a
  cases q : m (ds.map Sl.v ++ List.replicate (N.length - ds.length) Sl.u) S with
  | nx e S1 =>
    rw [q] at a
    exact fun W' σ' H' s' l' k' e' => a W' H' .non s' k' .non
  | rt d S1 =>
    rw [q] at a
    exact fun W' H' v s' k' r' => a W' H' v s' k' r'
  | er x e S1 =>
    rw [q] at a
    exact fun W' σ' H' c d s' l' k' e' r' => a W' H' c d s' k' r'
  | bk e S1 => rw [q] at a; exact a.elim
  | ct e S1 => rw [q] at a; exact a.elim
  | no => rw [q] at a; exact a.elim
theorem dk_ofL {n sl : Nat} {d : Str × Option Str} (hf : f = He.fAd K d) (hK : K = C.K) (hB : C.base = none) (F : FunD K x qual params body scope [] [] f fd) (hm : mg y = some (.ref f)) (Sc : FnScope N ps scope) (hl : ps.length ≤ N.length)
    (hb : ∀ (kV doc pm : Value) (an : Option Addr) (cdv ct : Value) (us : List Value), us.length = ps.length → bindArgs (PySem.W.fnOf x qual params body scope .none kV doc pm an cdv ct) ⟨us, []⟩ = pure (ps.zip us)) (hn : ps.length = n) (hs : N.length = sl)
    (hbody : ∀ (A : Around) (outer : List PySem.Env) (s : Shared) (H : Hp) (E : XK), InF (cxOf (L2.CX P w) P w K mg base N qual scope f (.ref (He.cT K d).1) A outer s H E) C (fun c d _ H => E c d H) k →
      PSs (cxOf (L2.CX P w) P w K mg base N qual scope f (.ref (He.cT K d).1) A outer s H E) body (tS C (fun c d _ H => E c d H) m)) : Dk P w K mg base C y n (k + 1) (runF m sl) := by
  subst hn
  subst hs
  exact ⟨f, fd, ps, fn_okL hf hK hB F Sc hl hbody, hm, F.kp, F.bindsN hb⟩
/-- the same, the function object named -/
theorem fk_ofL {n sl : Nat} {d : Str × Option Str} (hf : f = He.fAd K d) (hK : K = C.K) (hB : C.base = none) (F : FunD K x qual params body scope [] [] f fd) (Sc : FnScope N ps scope) (hl : ps.length ≤ N.length) (hn : ps.length = n) (hs : N.length = sl)
    (hbody : ∀ (A : Around) (outer : List PySem.Env) (s : Shared) (H : Hp) (E : XK), InF (cxOf (L2.CX P w) P w K mg base N qual scope f (.ref (He.cT K d).1) A outer s H E) C (fun c d _ H => E c d H) k →
      PSs (cxOf (L2.CX P w) P w K mg base N qual scope f (.ref (He.cT K d).1) A outer s H E) body (tS C (fun c d _ H => E c d H) m)) : FnOk P w K mg base (L2.CX P w) (k + 1) f fd ps (spF C n (runF m sl)) := by
  subst hn
  subst hs
  exact fn_okL hf hK hB F Sc hl hbody
theorem fk_of {n sl : Nat} (hK : K = C.K) (hB : C.base = none) (F : FunD K x qual params body scope [] [] f fd) (Sc : FnScope N ps scope) (hl : ps.length ≤ N.length) (hn : ps.length = n) (hs : N.length = sl)
    (hbody : ∀ (cdv : Value) (A : Around) (outer : List PySem.Env) (s : Shared) (H : Hp) (E : XK), InF (cxOf (L2.CX P w) P w K mg base N qual scope f cdv A outer s H E) C (fun c d _ H => E c d H) k →
      PSs (cxOf (L2.CX P w) P w K mg base N qual scope f cdv A outer s H E) body (tS C (fun c d _ H => E c d H) m)) : FnOk P w K mg base (L2.CX P w) (k + 1) f fd ps (spF C n (runF m sl)) := by
  subst hn
  subst hs
  exact fn_ok hK hB F Sc hl hbody
/-- a def that calls its one argument -/
theorem lk_of {n : Nat} {a : Str} {mm : (Sto → R D) → MS} (F : FunD K x x params body scope [] [] f fd) (hm : mg x = some (.ref f)) (Sc : FnScope N [a] scope)
    (hb : ∀ (kV doc pm : Value) (an : Option Addr) (cdv ct : Value) (us : List Value), us.length = [a].length → bindArgs (PySem.W.fnOf x x params body scope .none kV doc pm an cdv ct) ⟨us, []⟩ = pure ([a].zip us)) (hn : N.length = n) (h0 : N[0]? = some a) (hv : Vis scope a)
    (hd : (a == ("__debug__" : Str)) = false) (hcd : (a == ("__classdict__" : Str)) = false)
    (hbody : ∀ (cdv : Value) (A : Around) (outer : List PySem.Env) (s : Shared) (H : Hp) (E : XK) (z c' : Addr) (q : Str) (b : Gw × Hp) (th : Sto → R D),
      (∀ (W : WX) (pn : List (Addr × Obj)) (xe : Value → Shared → Prop) (p1 p2 : Pos), Takes ((cxOf (L2.CX P w) P w K mg base N x scope f cdv A outer s H E).tr pn xe) W →
        PE ((cxOf (L2.CX P w) P w K mg base N x scope f cdv A outer s H E).tr pn xe) (.Call (.Name a p1) [] [] p2) (tE (C.pin z (some b) (some (c', q))) W (eAct 0 th))) →
      InF (cxOf (L2.CX P w) P w K mg base N x scope f cdv A outer s H E) { C with base := none } (fun c d _ H => E c d H) k →
      PSs (cxOf (L2.CX P w) P w K mg base N x scope f cdv A outer s H E) body (tS (C.pin z (some b) (some (c', q))) (fun c d _ H => E c d H) (mm th))) : Lk P w K mg base C x k mm n := by
  have bd := F.bindsN hb
  obtain ⟨oc, od, dV, kV, doc, pm, an, cdv, ct, osl, rfl, lk, hcd', hdv, _⟩ := F.ex
  exact ⟨f, params, body, scope, dV, kV, doc, pm, cdv, ct, oc, an, od, osl, N, a, hm, F.kp, lk, hcd', bd, Sc, hn, h0, hv, ⟨hd, hcd⟩, fun A outer s H E z c' q b th act I => hbody cdv A outer s H E z c' q b th act I⟩
end
section
variable {X : Cx} {C : Cn} {pos p q q2 : Pos}
/-- isinstance(e, Y) in the suite of an exception without fields -/
theorem se_isX {a A Y : Addr} {oe : Obj} {d : Option Addr} {pn : List (Addr × Obj)} {i : Nat} {n y : Str} {x : Exn} {b : Option Bool} {Wx : WX} (hx : C.xa = a) (hC : ∀ z, b = some z → ExcC X.K A) (hz : Zc (.ref A) d oe) (hd' : x.arg = none → d = none) (hf : ∃ vs, oe.data = .fields vs)
    (hk : ∀ z, b = some z → PySem.W.kitOne X.K (.ref A) (.ref Y) = some z) (hg : Gl (X.suite a ((a, oe) :: pn)) "isinstance") (hm : X.mg "isinstance" = none) (hN : X.N[i]? = some n) (hv : Vis X.env.scope n) (hgy : Gl (X.suite a ((a, oe) :: pn)) y) (hmy : X.mg y = some (.ref Y))
    (hd : (n == ("__debug__" : Str)) = false := by decide) (hcd : (n == ("__classdict__" : Str)) = false := by decide) (hdy : (y == ("__debug__" : Str)) = false := by decide) :
    PE (X.suite a ((a, oe) :: pn)) (.Call (.Name "isinstance" p) [.Name n q, .Name y q2] [] pos) (tE C Wx (eIsE i (if x.arg.isNone = true then b else none))) := by
  have no : PE (X.suite a ((a, oe) :: pn)) (.Call (.Name "isinstance" p) [.Name n q, .Name y q2] [] pos) (tE C Wx (eIsE i none)) := ⟨fun pins s σ H Q I ⟨H0, W, env, S, e, k, h⟩ => by
    unfold eIsE at h
    split at h
    · rename_i h1 h2 h3
      cases h3
    · exact h.elim⟩
  cases qa : x.arg with
  | some z => exact no
  | none =>
    have e := hd' qa
    subst e
    cases b with
    | none => exact no
    | some z => exact se_isE (b := some z) hx (hC z rfl) hz hf hk hg hm hN hv hgy hmy hd hcd hdy
end
/-- the law's promise, from what the law's denotation gives -/
theorem sp_law {C : Cn} {g : List D → Sto → R D} {cs : List (Addr × Addr)} {ns : List Int} {a : Addr} {H : Hp} (hB : C.base = none) (hc : C.cod = none) (hT : ∀ p ∈ C.T, H p.1 = some (.tbl #[])) (hS : SqL C.K H a (ns.map V.int)) (h : ∃ S', g [.scr ns] [] = .ok (.bl true) S') :
    spF C 1 g [.ref a] H (fun v _ => v = .bl true) fun _ _ _ => False := by
  obtain ⟨S', h⟩ := h
  refine ⟨rfl, ⟨fun b => if b = a then (match H a with
    | some (.tbl _) => none
    | o => o) else none, []⟩, [], [.scr ns], ⟨fun b o e => ?_, rfl, List.nodup_nil, fun n b e => (by simp at e), fun p hp => TabS.nil (hT p hp), fun b ps e => ?_, fun b e => (by rw [hB] at e; cases e), fun p e => (by rw [hc] at e; cases e)⟩, .cons (.scr ?_) .nil, ?_⟩
  · by_cases hb : b = a
    · subst hb
      simp only [if_true] at e
      split at e
      · cases e
      · exact e
    · simp only [if_neg hb] at e
      cases e
  · by_cases hb : b = a
    · subst hb
      simp only [if_true] at e
      split at e
      · cases e
      · rename_i o hn
        exact hn _ e
    · simp only [if_neg hb] at e
      cases e
  · rcases hS with (q | ⟨o, q⟩) | q
    · exact .inl (.inl (by simp only [if_true, q]))
    · exact .inl (.inr ⟨o, by simp only [if_true, q]⟩)
    · exact .inr q
  · rw [h]
    intro W' H' v s k r
    cases r
    rfl
/-- a Bool for what isinstance asks of an exception class -/
def excCB (K : PySem.W.Frag) (A : Addr) : Bool :=
  decide (PySem.W.findIn K (.ref A) "__getattribute__" = some (some (.builtin "BaseException.__getattribute__"))) && (decide (PySem.W.findIn K (.ref A) "__getattr__" = some none) && (decide (PySem.W.subIn K (.ref A) (.type "BaseException") = some true) && (PySem.W.hasDictIn K A &&
    (decide (PySem.W.findIn K (.ref A) "__class__" = some (some (.builtin "object.__class__"))) && (decide (PySem.W.specialIn K (.builtin "object.__class__") "__get__" = some (some (.builtin "getset_descriptor.__get__"))) && (decide (PySem.W.takesIn K (.builtin "object.__class__") = some true) && decide (PySem.W.mroIn K A (.type "object") = some true)))))))
theorem excCB_ok {K : PySem.W.Frag} {A : Addr} (h : excCB K A = true) : ExcC K A := by
  unfold excCB at h
  simp only [Bool.and_eq_true, decide_eq_true_eq] at h
  obtain ⟨h1, h2, h3, h4, h5, h6, h7, h8⟩ := h
  exact ⟨h1, h2, h3, h4, h5, h6, h7, h8⟩
section
end
end PV

set_option autoImplicit false
set_option Elab.async false
set_option linter.all false
set_option maxRecDepth 100000
set_option maxHeartbeats 4000000
/-! printed by gen.py for law_k00_whole_fields -/
namespace PV.K00
open PySem PySem.Spec PyProof.Rows L2 RZ LamX PV
def top (i : Nat) : Stmt := PySem.Challenge.pw_polerooms_k00_whole_fields.main.body.getD i (.Pass ⟨0, 0, 0, 0⟩)
def frees : List Str := ["isinstance", "int", "bool", "tuple", "len", "range", "all", "list", "any", "abs", "str", "zip", "enumerate"]
def excs : List Str := ["PoleError", "InvalidField", "InvalidNumber"]
def fns : List Str := ["is_whole", "need_whole", "is_tuple_of", "power_of", "is_prime", "digits_of", "rest_by", "has_small_divisor", "is_modulus", "is_field", "need_field", "size_in", "field_size", "least_modulus", "is_element", "_law_cup", "_law_roll", "_law_some", "_law_sort", "_law_like", "_law_to", "_law_divides", "_law_monic", "_law_is_split", "_law_error", "law"]
def xtab : List (List Bool) := [[true, false, false], [true, true, false], [true, false, true]]
def xsub (a b : Nat) : Option Bool := (xtab[a]?).bind fun r => r[b]?
def wf : Nat := 1000000
def recf : Nat := 20
/-- is_whole(value, low, high); slots: 0 value 1 low 2 high -/
def m_is_whole_0 : MS := sRet (eAnd (eIsi .int (eVar 0)) (eAnd (eNot (eIsi .bool (eVar 0))) (eChain gLe gLe (eVar 1) (eVar 0) (eVar 2))))
def m_is_whole : MS := m_is_whole_0
def f_is_whole : List D → Sto → R D := runF m_is_whole 3
/-- need_whole(value, low, high); slots: 0 value 1 low 2 high -/
def m_need_whole_0 : MS := sIf (cNot (cTru (eCall 3 f_is_whole (aCons (eVar 0) (aCons (eVar 1) (aCons (eVar 2) (aNil))))))) (sRaise 2) (sSkip)
def m_need_whole : MS := m_need_whole_0
def f_need_whole : List D → Sto → R D := runF m_need_whole 3
/-- is_tuple_of(value, low, high); slots: 0 value 1 low 2 high -/
def m_is_tuple_of_0 : MS := sRet (eAnd (eIsi .tuple (eVar 0)) (eChain gLe gLe (eVar 1) (eCal gLen (aCons (eVar 0) (aNil))) (eVar 2)))
def m_is_tuple_of : MS := m_is_tuple_of_0
def f_is_tuple_of : List D → Sto → R D := runF m_is_tuple_of 3
/-- power_of(base, many); slots: 0 base 1 many 2 found 3 turn -/
def m_power_of_1b : MS := sSet 2 (uV (eOp gMul (eVar 2) (eVar 0)))
def m_power_of_1 : MS := sFor (iR1 (eVar 1)) (.n 3) (m_power_of_1b)
def m_power_of : MS := sSeq (sSet 2 (uV (eC (.int 1)))) (sSeq (m_power_of_1) (sRet (eVar 2)))
def f_power_of : List D → Sto → R D := runF m_power_of 4
/-- is_prime(number); slots: 0 number 1 small -/
def m_is_prime_0 : MS := sRet (eAnd (eOp gGt (eVar 0) (eC (.int 1))) (eCal gAll (aCons (eL (fComp (iR2 (eC (.int 2)) (eVar 0)) (.n 1) [1] (cYes) (eOp gGt (eOp gMod (eVar 0) (eVar 1)) (eC (.int 0))))) (aNil))))
def m_is_prime : MS := m_is_prime_0
def f_is_prime : List D → Sto → R D := runF m_is_prime 2
/-- digits_of(number, base, many); slots: 0 number 1 base 2 many 3 found 4 turn -/
def m_digits_of_1b : MS := sSeq (sApp 3 (eOp gMod (eVar 0) (eVar 1))) (sSet 0 (uV (eOp gDiv (eVar 0) (eVar 1))))
def m_digits_of_1 : MS := sFor (iR1 (eVar 2)) (.n 4) (m_digits_of_1b)
def m_digits_of : MS := sSeq (sSet 3 (uO (fLst (aNil)))) (sSeq (m_digits_of_1) (sFrz 3 (sRet (eVar 3))))
def f_digits_of : List D → Sto → R D := runF m_digits_of 5
/-- rest_by(digits, modulus, p); slots: 0 digits 1 modulus 2 p 3 left 4 degree 5 lead 6 at 7 place -/
def m_rest_by_0 : MS := sPar 3 4 (uO (fCal gList (aCons (eVar 0) (aNil)))) (uV (eOp gDif (eCal gLen (aCons (eVar 1) (aNil))) (eC (.int 1))))
def m_rest_by_1_1_0 : MS := sSet 7 (uV (eOp gAdd (eOp gDif (eLenO 3) (eVar 4)) (eVar 6)))
def m_rest_by_1_1_1 : MS := sPutO 3 (eVar 7) (eOp gMod (eOp gDif (eIxO 3 (eVar 7)) (eOp gMul (eVar 5) (eOp gIx (eVar 1) (eVar 6)))) (eVar 2))
def m_rest_by_1_1b : MS := sSeq (m_rest_by_1_1_0) (m_rest_by_1_1_1)
def m_rest_by_1_1 : MS := sFor (iR1 (eVar 4)) (.n 6) (m_rest_by_1_1b)
def m_rest_by_1b : MS := sSeq (sPop 5 3) (m_rest_by_1_1)
def m_rest_by_1t : MT := cE (eOp gGt (eLenO 3) (eVar 4))
def m_rest_by_2 : MS := sRet (eOp gAdd (eVar 3) (eOp gMul (eL (fLst (aCons (eC (.int 0)) (aNil)))) (eOp gDif (eVar 4) (eCal gLen (aCons (eVar 3) (aNil))))))
def m_rest_by : MS := sSeq (m_rest_by_0) (sSeq (sWhile wf (m_rest_by_1t) (m_rest_by_1b)) (sFrz 3 (m_rest_by_2)))
def f_rest_by : List D → Sto → R D := runF m_rest_by 8
/-- has_small_divisor(modulus, p); slots: 0 modulus 1 p 2 degree 3 small 4 number 5 divisor -/
def m_has_small_divisor_0 : MS := sSet 2 (uV (eOp gDif (eCal gLen (aCons (eVar 0) (aNil))) (eC (.int 1))))
def m_has_small_divisor_1_0_0 : MS := sSet 5 (uV (eOp gAdd (eCall 3 f_digits_of (aCons (eVar 4) (aCons (eVar 1) (aCons (eVar 3) (aNil))))) (eL (fLst (aCons (eC (.int 1)) (aNil))))))
def m_has_small_divisor_1_0_1 : MS := sIf (cNot (cTru (eCal gAny (aCons (eCall 3 f_rest_by (aCons (eVar 0) (aCons (eVar 5) (aCons (eVar 1) (aNil))))) (aNil))))) (sRet (eC (.bl true))) (sSkip)
def m_has_small_divisor_1_0b : MS := sSeq (m_has_small_divisor_1_0_0) (m_has_small_divisor_1_0_1)
def m_has_small_divisor_1_0 : MS := sFor (iR1 (eCall 2 f_power_of (aCons (eVar 1) (aCons (eVar 3) (aNil))))) (.n 4) (m_has_small_divisor_1_0b)
def m_has_small_divisor_1b : MS := m_has_small_divisor_1_0
def m_has_small_divisor_1 : MS := sFor (iR2 (eC (.int 1)) (eOp gAdd (eOp gDiv (eVar 2) (eC (.int 2))) (eC (.int 1)))) (.n 3) (m_has_small_divisor_1b)
def m_has_small_divisor : MS := sSeq (m_has_small_divisor_0) (sSeq (m_has_small_divisor_1) (sRet (eC (.bl false))))
def f_has_small_divisor : List D → Sto → R D := runF m_has_small_divisor 6
/-- is_modulus(value, p); slots: 0 value 1 p 2 item -/
def m_is_modulus_0 : MS := sIf (cOr (cNot (cTru (eCall 3 f_is_tuple_of (aCons (eVar 0) (aCons (eC (.int 2)) (aCons (eC (.int 6)) (aNil))))))) (cOr (cNot (cTru (eCal gAll (aCons (eL (fComp (iSeq (eVar 0)) (.n 2) [2] (cYes) (eCall 3 f_is_whole (aCons (eVar 2) (aCons (eC (.int 0)) (aCons (eOp gDif (eVar 1) (eC (.int 1))) (aNil))))))) (aNil))))) (cE (eOp gNe (eOp gIx (eVar 0) (eUn gNeg (eC (.int 1)))) (eC (.int 1)))))) (sRet (eC (.bl false))) (sSkip)
def m_is_modulus_1 : MS := sIf (cOr (cE (eOp gGt (eCall 2 f_power_of (aCons (eVar 1) (aCons (eOp gDif (eCal gLen (aCons (eVar 0) (aNil))) (eC (.int 1))) (aNil)))) (eC (.int 32)))) (cAnd (cE (eOp gEq (eCal gLen (aCons (eVar 0) (aNil))) (eC (.int 2)))) (cE (eOp gNe (eVar 0) (eTup (aCons (eC (.int 0)) (aCons (eC (.int 1)) (aNil)))))))) (sRet (eC (.bl false))) (sSkip)
def m_is_modulus_2 : MS := sRet (eNot (eCall 2 f_has_small_divisor (aCons (eVar 0) (aCons (eVar 1) (aNil)))))
def m_is_modulus : MS := sSeq (m_is_modulus_0) (sSeq (m_is_modulus_1) (m_is_modulus_2))
def f_is_modulus : List D → Sto → R D := runF m_is_modulus 3
/-- is_field(value); slots: 0 value -/
def m_is_field_0 : MS := sIf (cOr (cNot (cTru (eCall 3 f_is_tuple_of (aCons (eVar 0) (aCons (eC (.int 2)) (aCons (eC (.int 2)) (aNil))))))) (cOr (cNot (cTru (eCall 3 f_is_whole (aCons (eOp gIx (eVar 0) (eC (.int 0))) (aCons (eC (.int 2)) (aCons (eC (.int 32)) (aNil))))))) (cNot (cTru (eCall 1 f_is_prime (aCons (eOp gIx (eVar 0) (eC (.int 0))) (aNil))))))) (sRet (eC (.bl false))) (sSkip)
def m_is_field_1 : MS := sRet (eCall 2 f_is_modulus (aCons (eOp gIx (eVar 0) (eC (.int 1))) (aCons (eOp gIx (eVar 0) (eC (.int 0))) (aNil))))
def m_is_field : MS := sSeq (m_is_field_0) (m_is_field_1)
def f_is_field : List D → Sto → R D := runF m_is_field 1
/-- need_field(value); slots: 0 value -/
def m_need_field_0 : MS := sIf (cNot (cTru (eCall 1 f_is_field (aCons (eVar 0) (aNil))))) (sRaise 1) (sSkip)
def m_need_field : MS := m_need_field_0
def f_need_field : List D → Sto → R D := runF m_need_field 1
/-- size_in(field); slots: 0 field -/
def m_size_in_0 : MS := sRet (eCall 2 f_power_of (aCons (eOp gIx (eVar 0) (eC (.int 0))) (aCons (eOp gDif (eCal gLen (aCons (eOp gIx (eVar 0) (eC (.int 1))) (aNil))) (eC (.int 1))) (aNil))))
def m_size_in : MS := m_size_in_0
def f_size_in : List D → Sto → R D := runF m_size_in 1
/-- field_size(field); slots: 0 field -/
def m_field_size_0 : MS := sExpr (eCall 1 f_need_field (aCons (eVar 0) (aNil)))
def m_field_size_1 : MS := sRet (eCall 1 f_size_in (aCons (eVar 0) (aNil)))
def m_field_size : MS := sSeq (m_field_size_0) (m_field_size_1)
def f_field_size : List D → Sto → R D := runF m_field_size 1
/-- least_modulus(p, degree); slots: 0 p 1 degree 2 number 3 modulus -/
def m_least_modulus_0 : MS := sExpr (eCall 3 f_need_whole (aCons (eVar 0) (aCons (eC (.int 2)) (aCons (eC (.int 32)) (aNil)))))
def m_least_modulus_1 : MS := sIf (cOr (cNot (cTru (eCall 1 f_is_prime (aCons (eVar 0) (aNil))))) (cOr (cNot (cTru (eCall 3 f_is_whole (aCons (eVar 1) (aCons (eC (.int 1)) (aCons (eC (.int 5)) (aNil))))))) (cE (eOp gGt (eCall 2 f_power_of (aCons (eVar 0) (aCons (eVar 1) (aNil)))) (eC (.int 32)))))) (sRaise 2) (sSkip)
def m_least_modulus_2_0 : MS := sSet 3 (uV (eCal gTuple (aCons (eOp gAdd (eCall 3 f_digits_of (aCons (eVar 2) (aCons (eVar 0) (aCons (eVar 1) (aNil))))) (eL (fLst (aCons (eC (.int 1)) (aNil))))) (aNil))))
def m_least_modulus_2_1 : MS := sIf (cTru (eCall 2 f_is_modulus (aCons (eVar 3) (aCons (eVar 0) (aNil))))) (sRet (eVar 3)) (sSkip)
def m_least_modulus_2b : MS := sSeq (m_least_modulus_2_0) (m_least_modulus_2_1)
def m_least_modulus_2 : MS := sFor (iR1 (eCall 2 f_power_of (aCons (eVar 0) (aCons (eVar 1) (aNil))))) (.n 2) (m_least_modulus_2b)
def m_least_modulus : MS := sSeq (m_least_modulus_0) (sSeq (m_least_modulus_1) (sSeq (m_least_modulus_2) (sRet (eC .non))))
def f_least_modulus : List D → Sto → R D := runF m_least_modulus 4
/-- is_element(field, value); slots: 0 field 1 value -/
def m_is_element_0 : MS := sExpr (eCall 1 f_need_field (aCons (eVar 0) (aNil)))
def m_is_element_1 : MS := sRet (eCall 3 f_is_whole (aCons (eVar 1) (aCons (eC (.int 0)) (aCons (eOp gDif (eCall 1 f_size_in (aCons (eVar 0) (aNil))) (eC (.int 1))) (aNil)))))
def m_is_element : MS := sSeq (m_is_element_0) (m_is_element_1)
def f_is_element : List D → Sto → R D := runF m_is_element 2
/-- _law_cup(script); slots: 0 script 1 cell -/
def m__law_cup_0 : MS := sSet 1 (uV (eCal gAbs (aCons (eOp gIx (eOp gAdd (eL (fCal gList (aCons (eVar 0) (aNil)))) (eL (fLst (aCons (eC (.int 0)) (aNil))))) (eC (.int 0))) (aNil))))
def m__law_cup_1 : MS := sRet (eR (fLst (aCons (eIf (cE (eOp gGe (eVar 1) (eOp gPow (eC (.int 10)) (eC (.int 18))))) (eOp gDiv (eVar 1) (eC (.int 79))) (eC (.int 0))) (aCons (eOp gAdd (eOp gMod (eCal gInt (aCons (eOp gAdd (eOp gMul (eVar 1) (eC (.int 307))) (eC (.int 4409))) (aNil))) (eC (.int 2073333181))) (eC (.int 173))) (aNil)))))
def m__law_cup : MS := sSeq (m__law_cup_0) (m__law_cup_1)
def f__law_cup : List D → Sto → R D := runF m__law_cup 2
/-- _law_roll(cup, many); slots: 0 cup 1 many 2 found 3 deep -/
def m__law_roll_0_0 : MS := sSet 2 (uV (eOp gMod (eCal gInt (aCons (eOp gIx (eVar 0) (eC (.int 0))) (aNil))) (eVar 1)))
def m__law_roll_0_1 : MS := sPutR (eVar 0) (eC (.int 0)) (eOp gDiv (eOp gIx (eVar 0) (eC (.int 0))) (eVar 1))
def m__law_roll_0 : MS := sIf (cE (eOp gGt (eOp gIx (eVar 0) (eC (.int 0))) (eC (.int 0)))) (sSeq (m__law_roll_0_0) (sSeq (m__law_roll_0_1) (sRet (eVar 2)))) (sSkip)
def m__law_roll_1 : MS := sPutR (eVar 0) (eC (.int 1)) (eOp gMod (eCal gInt (aCons (eOp gAdd (eOp gMul (eOp gIx (eVar 0) (eC (.int 1))) (eC (.int 30893))) (eC (.int 8111))) (aNil))) (eC (.int 2147483543)))
def m__law_roll_2 : MS := sSet 3 (uV (eOp gMod (eCal gInt (aCons (eOp gMul (eOp gIx (eVar 0) (eC (.int 1))) (eOp gAdd (eOp gIx (eVar 0) (eC (.int 1))) (eC (.int 241)))) (aNil))) (eC (.int 2147483587))))
def m__law_roll_3 : MS := sRet (eOp gMod (eCal gInt (aCons (eOp gDiv (eVar 3) (eC (.int 827))) (aNil))) (eVar 1))
def m__law_roll : MS := sSeq (m__law_roll_0) (sSeq (m__law_roll_1) (sSeq (m__law_roll_2) (m__law_roll_3)))
def f__law_roll : List D → Sto → R D := runF m__law_roll 4
/-- _law_some(cup, things); slots: 0 cup 1 things -/
def m__law_some_0 : MS := sRet (eOp gIx (eVar 1) (eCall 2 f__law_roll (aCons (eVar 0) (aCons (eCal gLen (aCons (eVar 1) (aNil))) (aNil)))))
def m__law_some : MS := m__law_some_0
def f__law_some : List D → Sto → R D := runF m__law_some 2
/-- _law_sort(value); slots: 0 value -/
def m__law_sort_0_0 : MS := sRet (eIf (cE (eOp gIsN (eVar 0) (eC .non))) (eC (.int 0)) (eC (.int 1)))
def m__law_sort_0 : MS := sIf (cOr (cE (eOp gIsN (eVar 0) (eC .non))) (cTru (eIsi .bool (eVar 0)))) (m__law_sort_0_0) (sSkip)
def m__law_sort_1_0 : MS := sRet (eIf (cTru (eIsi .int (eVar 0))) (eC (.int 2)) (eC (.int 3)))
def m__law_sort_1 : MS := sIf (cOr (cTru (eIsi .int (eVar 0))) (cTru (eIsi .str (eVar 0)))) (m__law_sort_1_0) (sSkip)
def m__law_sort_2 : MS := sRet (eIf (cTru (eIsi .tuple (eVar 0))) (eC (.int 4)) (eIf (cTru (eIsi .list (eVar 0))) (eC (.int 5)) (eC (.int 6))))
def m__law_sort : MS := sSeq (m__law_sort_0) (sSeq (m__law_sort_1) (m__law_sort_2))
def f__law_sort : List D → Sto → R D := runF m__law_sort 1
/-- _law_like(one, other); slots: 0 one 1 other 2 sort 3 first 4 second -/
def m__law_like (fr : List D → Sto → R D) : MS := sSeq (sSet 2 (uV (eCall 1 f__law_sort (aCons (eVar 1) (aNil))))) (sSeq (sIf (cOr (cE (eOp gNe (eCall 1 f__law_sort (aCons (eVar 0) (aNil))) (eVar 2))) (cE (eOp gEq (eVar 2) (eC (.int 6))))) (sRet (eC (.bl false))) (sSkip)) (sSeq (sIf (cE (eOp gIn (eVar 2) (eTup (aCons (eC (.int 4)) (aCons (eC (.int 5)) (aNil)))))) (sRet (eAnd (eOp gEq (eCal gLen (aCons (eVar 0) (aNil))) (eCal gLen (aCons (eVar 1) (aNil)))) (eOp gEq (eL (fComp (iZp (eVar 0) (eVar 1)) (.t [3, 4]) [3, 4] (cNot (cTru (eCall 2 fr (aCons (eVar 3) (aCons (eVar 4) (aNil)))))) (eC (.int 1)))) (eL (fLst (aNil)))))) (sSkip)) (sRet (eOp gEq (eVar 0) (eVar 1)))))
def f__law_like : Nat → List D → Sto → R D
  | 0 => fun _ _ => .no
  | n + 1 => runF (m__law_like (f__law_like n)) 5
/-- _law_to(base, many); slots: 0 base 1 many 2 found 3 turn -/
def m__law_to_1b : MS := sSet 2 (uV (eOp gMul (eVar 2) (eVar 0)))
def m__law_to_1 : MS := sFor (iR1 (eVar 1)) (.n 3) (m__law_to_1b)
def m__law_to : MS := sSeq (sSet 2 (uV (eC (.int 1)))) (sSeq (m__law_to_1) (sRet (eVar 2)))
def f__law_to : List D → Sto → R D := runF m__law_to 4
/-- _law_divides(divisor, modulus, p); slots: 0 divisor 1 modulus 2 p 3 left 4 lead 5 start 6 item 7 at -/
def m__law_divides_0 : MS := sSet 3 (uV (eL (fCal gList (aCons (eVar 1) (aNil)))))
def m__law_divides_1_0 : MS := sAsgT [4, 5] (eTup (aCons (eOp gIx (eVar 3) (eUn gNeg (eC (.int 1)))) (aCons (eOp gDif (eCal gLen (aCons (eVar 3) (aNil))) (eCal gLen (aCons (eVar 0) (aNil)))) (aNil))))
def m__law_divides_1_1 : MS := sSet 3 (uV (eL (fSl (eL (fComp (iEn (eVar 3)) (.t [7, 6]) [7, 6] (cYes) (eIf (cE (eOp gGe (eVar 7) (eVar 5))) (eOp gMod (eCal gInt (aCons (eOp gDif (eVar 6) (eOp gMul (eVar 4) (eOp gIx (eVar 0) (eOp gDif (eVar 7) (eVar 5))))) (aNil))) (eVar 2)) (eVar 6)))) none (some (eUn gNeg (eC (.int 1)))))))
def m__law_divides_1b : MS := sSeq (m__law_divides_1_0) (m__law_divides_1_1)
def m__law_divides_1t : MT := cE (eOp gGe (eCal gLen (aCons (eVar 3) (aNil))) (eCal gLen (aCons (eVar 0) (aNil))))
def m__law_divides_1 : MS := sWhile wf (m__law_divides_1t) (m__law_divides_1b)
def m__law_divides_2 : MS := sRet (eOp gEq (eL (fComp (iSeq (eVar 3)) (.n 6) [6] (cE (eOp gNe (eVar 6) (eC (.int 0)))) (eVar 6))) (eL (fLst (aNil))))
def m__law_divides : MS := sSeq (m__law_divides_0) (sSeq (m__law_divides_1) (m__law_divides_2))
def f__law_divides : List D → Sto → R D := runF m__law_divides 8
/-- _law_monic(p, degree); slots: 0 p 1 degree 2 number 3 at -/
def m__law_monic_0 : MS := sRet (eL (fComp (iR1 (eCall 2 f__law_to (aCons (eVar 0) (aCons (eVar 1) (aNil))))) (.n 2) [2] (cYes) (eCal gTuple (aCons (eOp gAdd (eL (fComp (iR1 (eVar 1)) (.n 3) [3] (cYes) (eOp gMod (eCal gInt (aCons (eOp gDiv (eVar 2) (eCall 2 f__law_to (aCons (eVar 0) (aCons (eVar 3) (aNil))))) (aNil))) (eVar 0)))) (eL (fLst (aCons (eC (.int 1)) (aNil))))) (aNil)))))
def m__law_monic : MS := m__law_monic_0
def f__law_monic : List D → Sto → R D := runF m__law_monic 4
/-- _law_is_split(modulus, p); slots: 0 modulus 1 p 2 degree 3 one -/
def m__law_is_split_0_0 : MS := sIf (cE (eOp gNe (eL (fComp (iSeq (eCall 2 f__law_monic (aCons (eVar 1) (aCons (eVar 2) (aNil))))) (.n 3) [3] (cTru (eCall 3 f__law_divides (aCons (eVar 3) (aCons (eVar 0) (aCons (eVar 1) (aNil)))))) (eVar 3))) (eL (fLst (aNil))))) (sRet (eC (.bl true))) (sSkip)
def m__law_is_split_0b : MS := m__law_is_split_0_0
def m__law_is_split_0 : MS := sFor (iR2 (eC (.int 1)) (eOp gAdd (eCal gInt (aCons (eOp gDiv (eOp gDif (eCal gLen (aCons (eVar 0) (aNil))) (eC (.int 1))) (eC (.int 2))) (aNil))) (eC (.int 1)))) (.n 2) (m__law_is_split_0b)
def m__law_is_split : MS := sSeq (m__law_is_split_0) (sRet (eC (.bl false)))
def f__law_is_split : List D → Sto → R D := runF m__law_is_split 4
/-- _law_error(call); slots: 0 call 1 e -/
def m__law_error (th : Sto → R D) : MS := sSeq (sTryAs (sExpr (eAct 0 th)) (fun z => xsub z 0) 1 (fun x => sRet (eOp gAdd (eIf (cTru (eIsE 1 (if x.arg.isNone = true then xsub x.cls 1 else none))) (eC (.str "field")) (eC (.str ""))) (eIf (cTru (eIsE 1 (if x.arg.isNone = true then xsub x.cls 2 else none))) (eC (.str "number")) (eC (.str "")))))) (sRet (eC (.str "none")))
/-- law(script); slots: 0 script 1 cup 2 primes 3 p 4 degree 5 good 6 field 7 size 8 due 9 asked 10 odds 11 value 12 odd 13 words 14 many 15 one 16 low -/
def m_law_0 : MS := sSet 1 (uV (eCall 1 f__law_cup (aCons (eVar 0) (aNil))))
def m_law_1 : MS := sSet 2 (uV (eL (fComp (iR2 (eC (.int 2)) (eC (.int 33))) (.n 3) [3] (cE (eOp gEq (eL (fComp (iR2 (eC (.int 2)) (eVar 3)) (.n 16) [16] (cE (eOp gEq (eOp gMod (eCal gInt (aCons (eVar 3) (aNil))) (eVar 16)) (eC (.int 0)))) (eVar 16))) (eL (fLst (aNil))))) (eVar 3))))
def m_law_2_0_0 : MS := sSet 5 (uV (eL (fComp (iSeq (eCall 2 f__law_monic (aCons (eVar 3) (aCons (eVar 4) (aNil))))) (.n 15) [15] (cNot (cTru (eCall 2 f__law_is_split (aCons (eVar 15) (aCons (eVar 3) (aNil)))))) (eVar 15))))
def m_law_2_0_1 : MS := sSet 5 (uV (eIf (cE (eOp gEq (eVar 4) (eC (.int 1)))) (eL (fLst (aCons (eTup (aCons (eC (.int 0)) (aCons (eC (.int 1)) (aNil)))) (aNil)))) (eVar 5)))
def m_law_2_0_2 : MS := sIf (cE (eOp gNe (eL (fComp (iSeq (eCall 2 f__law_monic (aCons (eVar 3) (aCons (eVar 4) (aNil))))) (.n 15) [15] (cNot (cTru (eCall 2 (f__law_like recf) (aCons (eCall 1 f_is_field (aCons (eTup (aCons (eVar 3) (aCons (eVar 15) (aNil)))) (aNil))) (aCons (eOp gIn (eVar 15) (eVar 5)) (aNil)))))) (eVar 15))) (eL (fLst (aNil))))) (sRet (eC (.bl false))) (sSkip)
def m_law_2_0_3 : MS := sSet 6 (uV (eTup (aCons (eVar 3) (aCons (eCall 2 f__law_some (aCons (eVar 1) (aCons (eVar 5) (aNil)))) (aNil)))))
def m_law_2_0_4 : MS := sSet 7 (uV (eCall 2 f__law_to (aCons (eVar 3) (aCons (eVar 4) (aNil)))))
def m_law_2_0_5 : MS := sSet 8 (uV (eL (fLst (aCons (eVar 7) (aCons (eOp gIx (eVar 5) (eC (.int 0))) (aCons (eC (.bl true)) (aCons (eC (.bl true)) (aCons (eC (.bl false)) (aCons (eC (.bl false)) (aCons (eC (.bl false)) (aNil)))))))))))
def m_law_2_0_6 : MS := sSet 9 (uV (eL (fComp (iSeq (eTup (aCons (eC (.int 0)) (aCons (eOp gDif (eVar 7) (eC (.int 1))) (aCons (eVar 7) (aCons (eUn gNeg (eC (.int 1))) (aCons (eC (.bl true)) (aNil)))))))) (.n 11) [11] (cYes) (eCall 2 f_is_element (aCons (eVar 6) (aCons (eVar 11) (aNil)))))))
def m_law_2_0_7 : MS := sIf (cNot (cTru (eCall 2 (f__law_like recf) (aCons (eOp gAdd (eL (fLst (aCons (eCall 1 f_field_size (aCons (eVar 6) (aNil))) (aCons (eCall 2 f_least_modulus (aCons (eVar 3) (aCons (eVar 4) (aNil)))) (aNil))))) (eVar 9)) (aCons (eVar 8) (aNil)))))) (sRet (eC (.bl false))) (sSkip)
def m_law_2_0b : MS := sSeq (m_law_2_0_0) (sSeq (m_law_2_0_1) (sSeq (m_law_2_0_2) (sSeq (m_law_2_0_3) (sSeq (m_law_2_0_4) (sSeq (m_law_2_0_5) (sSeq (m_law_2_0_6) (m_law_2_0_7)))))))
def m_law_2_0 : MS := sFor (iSeq (eL (fComp (iR2 (eC (.int 1)) (eC (.int 6))) (.n 14) [14] (cE (eOp gLe (eCall 2 f__law_to (aCons (eVar 3) (aCons (eVar 14) (aNil)))) (eC (.int 32)))) (eVar 14)))) (.n 4) (m_law_2_0b)
def m_law_2b : MS := m_law_2_0
def m_law_3 : MS := sSet 6 (uV (eTup (aCons (eC (.int 5)) (aCons (eTup (aCons (eC (.int 2)) (aCons (eC (.int 0)) (aCons (eC (.int 1)) (aNil))))) (aNil)))))
def m_law_4 : MS := sSet 10 (uV (eL (fLst (aCons (eTup (aCons (eC (.int 4)) (aCons (eTup (aCons (eC (.int 0)) (aCons (eC (.int 1)) (aNil)))) (aNil)))) (aCons (eTup (aCons (eC (.int 1)) (aCons (eTup (aCons (eC (.int 0)) (aCons (eC (.int 1)) (aNil)))) (aNil)))) (aCons (eTup (aCons (eC (.int 0)) (aCons (eTup (aCons (eC (.int 0)) (aCons (eC (.int 1)) (aNil)))) (aNil)))) (aCons (eTup (aCons (eUn gNeg (eC (.int 2))) (aCons (eTup (aCons (eC (.int 0)) (aCons (eC (.int 1)) (aNil)))) (aNil)))) (aCons (eTup (aCons (eC (.int 37)) (aCons (eTup (aCons (eC (.int 0)) (aCons (eC (.int 1)) (aNil)))) (aNil)))) (aCons (eTup (aCons (eC (.int 9)) (aCons (eTup (aCons (eC (.int 0)) (aCons (eC (.int 1)) (aNil)))) (aNil)))) (aCons (eTup (aCons (eC (.bl true)) (aCons (eTup (aCons (eC (.int 0)) (aCons (eC (.int 1)) (aNil)))) (aNil)))) (aCons (eTup (aCons (eC (.int 2)) (aCons (eTup (aCons (eC (.int 1)) (aCons (eC (.int 1)) (aNil)))) (aNil)))) (aNil))))))))))))
def m_law_5 : MS := sSet 10 (uV (eOp gAdd (eVar 10) (eL (fLst (aCons (eTup (aCons (eC (.int 3)) (aCons (eTup (aCons (eC (.int 0)) (aCons (eC (.int 2)) (aNil)))) (aNil)))) (aCons (eTup (aCons (eC (.int 2)) (aCons (eTup (aCons (eC (.int 1)) (aCons (eC (.int 1)) (aCons (eC (.int 1)) (aCons (eTup (aNil)) (aNil)))))) (aNil)))) (aCons (eTup (aCons (eC (.int 2)) (aCons (eTup (aCons (eC (.int 0)) (aCons (eC (.int 0)) (aCons (eC (.int 1)) (aNil))))) (aNil)))) (aCons (eTup (aCons (eC (.int 2)) (aCons (eTup (aCons (eC (.int 1)) (aCons (eC (.int 0)) (aCons (eC (.int 1)) (aNil))))) (aNil)))) (aCons (eTup (aCons (eC (.int 3)) (aCons (eTup (aCons (eC (.int 0)) (aCons (eC (.int 1)) (aCons (eC (.int 1)) (aNil))))) (aNil)))) (aNil))))))))))
def m_law_6 : MS := sSet 10 (uV (eOp gAdd (eVar 10) (eL (fLst (aCons (eTup (aCons (eC (.int 2)) (aCons (eTup (aCons (eC (.int 1)) (aCons (eC (.int 0)) (aCons (eC (.int 0)) (aCons (eC (.int 0)) (aCons (eC (.int 0)) (aCons (eC (.int 1)) (aCons (eC (.int 1)) (aNil))))))))) (aNil)))) (aCons (eTup (aCons (eC (.int 2)) (aCons (eTup (aCons (eC (.int 1)) (aCons (eC (.int 1)) (aCons (eC (.int 0)) (aCons (eC (.int 0)) (aCons (eC (.int 0)) (aCons (eC (.int 0)) (aCons (eC (.int 1)) (aNil))))))))) (aNil)))) (aCons (eTup (aCons (eC (.int 3)) (aCons (eTup (aCons (eC (.int 1)) (aCons (eC (.int 0)) (aCons (eC (.int 0)) (aCons (eC (.int 2)) (aCons (eC (.int 1)) (aNil))))))) (aNil)))) (aCons (eTup (aCons (eC (.int 5)) (aCons (eTup (aCons (eC (.int 1)) (aCons (eC (.int 1)) (aCons (eC (.int 0)) (aCons (eC (.int 1)) (aNil)))))) (aNil)))) (aNil)))))))))
def m_law_7 : MS := sSet 10 (uV (eOp gAdd (eVar 10) (eL (fLst (aCons (eTup (aCons (eC (.int 7)) (aCons (eTup (aCons (eC (.int 1)) (aCons (eC (.int 0)) (aCons (eC (.int 1)) (aNil))))) (aNil)))) (aNil))))))
def m_law_8 : MS := sSet 10 (uV (eOp gAdd (eVar 10) (eL (fLst (aCons (eTup (aCons (eC (.int 2)) (aCons (eTup (aCons (eC (.int 1)) (aCons (eC (.int 1)) (aCons (eC (.int 3)) (aNil))))) (aNil)))) (aCons (eTup (aCons (eC (.int 2)) (aCons (eTup (aCons (eC (.int 3)) (aCons (eC (.int 1)) (aCons (eC (.int 1)) (aNil))))) (aNil)))) (aCons (eTup (aCons (eC (.int 3)) (aCons (eTup (aCons (eC (.int 2)) (aCons (eUn gNeg (eC (.int 1))) (aCons (eC (.int 1)) (aNil))))) (aNil)))) (aCons (eTup (aCons (eC (.int 3)) (aCons (eTup (aCons (eC (.int 2)) (aCons (eC (.int 2)) (aCons (eC (.int 2)) (aNil))))) (aNil)))) (aCons (eTup (aCons (eC (.int 2)) (aCons (eTup (aCons (eC (.bl true)) (aCons (eC (.int 1)) (aCons (eC (.int 1)) (aNil))))) (aNil)))) (aCons (eTup (aCons (eC (.int 2)) (aCons (eTup (aCons (eC (.int 1)) (aCons (eC (.int 1)) (aCons (eC (.bl true)) (aNil))))) (aNil)))) (aNil)))))))))))
def m_law_9 : MS := sSet 10 (uV (eOp gAdd (eVar 10) (eL (fLst (aCons (eTup (aCons (eC (.int 2)) (aCons (eL (fLst (aCons (eC (.int 1)) (aCons (eC (.int 1)) (aCons (eC (.int 1)) (aNil)))))) (aNil)))) (aNil))))))
def m_law_10 : MS := sSet 10 (uV (eOp gAdd (eVar 10) (eL (fLst (aCons (eL (fLst (aCons (eC (.int 2)) (aCons (eTup (aCons (eC (.int 1)) (aCons (eC (.int 1)) (aCons (eC (.int 1)) (aNil))))) (aNil))))) (aCons (eTup (aCons (eC (.int 2)) (aCons (eTup (aCons (eC (.int 1)) (aCons (eC (.int 1)) (aCons (eC (.int 1)) (aNil))))) (aCons (eC (.int 0)) (aNil))))) (aCons (eTup (aCons (eC (.int 2)) (aNil))) (aCons (eTup (aNil)) (aCons (eC .non) (aCons (eC (.bl true)) (aCons (eC (.int 2)) (aCons (eC (.int 4)) (aCons (eC (.str "field")) (aCons (eTup (aCons (eC (.int 2)) (aCons (eTup (aNil)) (aNil)))) (aCons (eTup (aCons (eC (.int 2)) (aCons (eTup (aCons (eC (.int 1)) (aNil))) (aNil)))) (aCons (eTup (aCons (eC (.int 2)) (aCons (eC .non) (aNil)))) (aNil)))))))))))))))))
def m_law_11 : MS := sSet 10 (uV (eOp gAdd (eVar 10) (eL (fLst (aCons (eTup (aCons (eC (.str "2")) (aCons (eTup (aCons (eC (.int 0)) (aCons (eC (.int 1)) (aNil)))) (aNil)))) (aCons (eTup (aCons (eC .non) (aCons (eTup (aCons (eC (.int 0)) (aCons (eC (.int 1)) (aNil)))) (aNil)))) (aNil)))))))
def m_law_12 : MS := sSet 10 (uV (eOp gAdd (eVar 10) (eL (fLst (aCons (eTup (aCons (eOp gAdd (eOp gPow (eC (.int 10)) (eC (.int 64))) (eC (.int 57))) (aCons (eTup (aCons (eC (.int 0)) (aCons (eC (.int 1)) (aNil)))) (aNil)))) (aCons (eTup (aCons (eC (.int 2)) (aCons (eTup (aCons (eC (.int 0)) (aCons (eOp gAdd (eOp gPow (eC (.int 10)) (eC (.int 64))) (eC (.int 1))) (aNil)))) (aNil)))) (aNil)))))))
def m_law_13 : MS := sIf (cE (eOp gNe (eL (fComp (iSeq (eVar 10)) (.n 12) [12] (cNot (cTru (eCall 2 (f__law_like recf) (aCons (eCall 1 f_is_field (aCons (eVar 12) (aNil))) (aCons (eC (.bl false)) (aNil)))))) (eVar 12))) (eL (fLst (aNil))))) (sRet (eC (.bl false))) (sSkip)
def m_law_14_0 : MS := sIf (cNot (cTru (eCall 2 (f__law_like recf) (aCons (eCall 2 f_is_element (aCons (eVar 6) (aCons (eVar 11) (aNil)))) (aCons (eC (.bl false)) (aNil)))))) (sRet (eC (.bl false))) (sSkip)
def m_law_14b : MS := m_law_14_0
def m_law_14 : MS := sFor (iSeq (eTup (aCons (eC (.int 25)) (aCons (eOp gPow (eC (.int 10)) (eC (.int 64))) (aCons (eUn gNeg (eOp gPow (eC (.int 10)) (eC (.int 64)))) (aCons (eC .non) (aCons (eC (.bl false)) (aCons (eC (.str "0")) (aCons (eTup (aNil)) (aCons (eTup (aCons (eC (.int 0)) (aNil))) (aCons (eL (fLst (aCons (eC (.int 0)) (aNil)))) (aNil)))))))))))) (.n 11) (m_law_14b)
def m_law_15 : MS := sSet 12 (uV (eCall 2 f__law_some (aCons (eVar 1) (aCons (eVar 10) (aNil)))))
def m_law_16 : MS := sSet 13 (uV (eL (fLst (aCons (eLam (runG m__law_error 2) (eCall 1 f_field_size (aCons (eVar 12) (aNil)))) (aNil)))))
def m_law_17 : MS := sSet 13 (uV (eOp gAdd (eVar 13) (eL (fLst (aCons (eLam (runG m__law_error 2) (eCall 2 f_is_element (aCons (eVar 12) (aCons (eC (.int 0)) (aNil))))) (aNil))))))
def m_law_18 : MS := sSet 13 (uV (eOp gAdd (eVar 13) (eL (fLst (aCons (eLam (runG m__law_error 2) (eCall 2 f_least_modulus (aCons (eC (.int 4)) (aCons (eC (.int 1)) (aNil))))) (aNil))))))
def m_law_19 : MS := sSet 13 (uV (eOp gAdd (eVar 13) (eL (fComp (iSeq (eTup (aCons (eTup (aCons (eC (.int 2)) (aCons (eC (.int 6)) (aNil)))) (aCons (eTup (aCons (eC (.int 2)) (aCons (eC (.int 0)) (aNil)))) (aCons (eTup (aCons (eC (.int 2)) (aCons (eUn gNeg (eC (.int 1))) (aNil)))) (aCons (eTup (aCons (eC (.int 3)) (aCons (eC (.int 4)) (aNil)))) (aCons (eTup (aCons (eC (.int 7)) (aCons (eC (.int 2)) (aNil)))) (aCons (eTup (aCons (eC (.int 37)) (aCons (eC (.int 1)) (aNil)))) (aNil))))))))) (.t [3, 14]) [3, 14] (cYes) (eLam (runG m__law_error 2) (eCall 2 f_least_modulus (aCons (eVar 3) (aCons (eVar 14) (aNil)))))))))
def m_law_20 : MS := sSet 10 (uV (eTup (aCons (eTup (aCons (eC (.bl true)) (aCons (eC (.int 1)) (aNil)))) (aCons (eTup (aCons (eC (.int 2)) (aCons (eC (.bl true)) (aNil)))) (aCons (eTup (aCons (eC .non) (aCons (eC (.int 1)) (aNil)))) (aCons (eTup (aCons (eC (.int 2)) (aCons (eC .non) (aNil)))) (aCons (eTup (aCons (eC (.int 1)) (aCons (eC (.int 1)) (aNil)))) (aCons (eTup (aCons (eC (.int 0)) (aCons (eC (.int 1)) (aNil)))) (aNil)))))))))
def m_law_21 : MS := sSet 13 (uV (eOp gAdd (eVar 13) (eL (fComp (iSeq (eVar 10)) (.t [3, 14]) [3, 14] (cYes) (eLam (runG m__law_error 2) (eCall 2 f_least_modulus (aCons (eVar 3) (aCons (eVar 14) (aNil)))))))))
def m_law_22 : MS := sRet (eAnd (eOp gEq (eVar 13) (eOp gAdd (eL (fLst (aCons (eC (.str "field")) (aCons (eC (.str "field")) (aNil))))) (eOp gMul (eL (fLst (aCons (eC (.str "number")) (aNil)))) (eC (.int 13))))) (eOp gEq (eCall 2 f_least_modulus (aCons (eC (.int 31)) (aCons (eC (.int 1)) (aNil)))) (eTup (aCons (eC (.int 0)) (aCons (eC (.int 1)) (aNil))))))
def m_law : MS := sSeq (m_law_0) (sSeq (m_law_1) (sSeq (sFor (iSeq (eVar 2)) (.n 3) (m_law_2b)) (sSeq (m_law_3) (sSeq (m_law_4) (sSeq (m_law_5) (sSeq (m_law_6) (sSeq (m_law_7) (sSeq (m_law_8) (sSeq (m_law_9) (sSeq (m_law_10) (sSeq (m_law_11) (sSeq (m_law_12) (sSeq (m_law_13) (sSeq (m_law_14) (sSeq (m_law_15) (sSeq (m_law_16) (sSeq (m_law_17) (sSeq (m_law_18) (sSeq (m_law_19) (sSeq (m_law_20) (sSeq (m_law_21) (m_law_22))))))))))))))))))))))
def f_law : List D → Sto → R D := runF m_law 17
abbrev cn (K : PySem.W.Frag) : Cn := { K := K, fa := fun i => He.ga K (fns.getD i ""), ca := fun i => He.ga K (excs.getD i ""), T := [((He.cT K ("law", none)).2, (("law" : Str) ++ (".<locals>." : Str)) ++ ("<lambda>" : Str))] }
structure Tx (K : PySem.W.Frag) (mg : Str → Option Value) : Prop where
  fr : ∀ (i : Nat) {x : Str}, frees[i]? = some x → mg x = none
  i_FIELD_SIZE : ∃ t, mg "FIELD_SIZE" = some (.int 32 t)
  xgl : ∀ (i : Nat) {x : Str}, excs[i]? = some x → mg x = some (.ref (He.ga K x))
  xex : ∀ (i : Nat) {x : Str}, excs[i]? = some x → PySem.W.excIn K (He.ga K x) He.veBase "ValueError.__new__" = true ∧ PySem.W.keepIn K (.ref (He.ga K x)) = true ∧ PySem.W.subIn K (.ref (He.ga K x)) (.type "BaseException") = some true ∧ PySem.W.typeIn K (.ref (He.ga K x)) = some (.type "type")
  xc : ∀ (i j : Nat) (b : Bool), xsub i j = some b → ExcC K ((cn K).ca i)
  xm0 : ∀ (i j : Nat) (b : Bool), xsub i j = some b → PySem.W.exmOne K (.ref ((cn K).ca i)) (.ref ((cn K).ca j)) = some b
  xk0 : ∀ (i j : Nat) (b : Bool), xsub i j = some b → PySem.W.kitOne K (.ref ((cn K).ca i)) (.ref ((cn K).ca j)) = some b
section
variable {P : Program} {w : World} {K : PySem.W.Frag} {mg : Str → Option Value} {base : Heap}
theorem Tx.mk_ {X : Cx} (T : Tx K mg) (hX : X.K = K) (hmg : X.mg = mg) (i : Nat) {x m : Str} {j : Nat} {p p2 pos : Pos} (h : excs[i]? = some x) (hg : Gl X x) (hdb : (x == ("__debug__" : Str)) = false) : PMk X (.Call (.Name x p) [.Constant (.str m) j p2] [] pos) (fun _ H Q => Q (.ref ((cn K).ca i)) none H) := by
  obtain ⟨h1, h2, h3, h4⟩ := T.xex i h
  have e : (cn K).ca i = He.ga K x := by show He.ga K (excs.getD i "") = _; rw [List.getD_eq_getElem?_getD, h]; rfl
  rw [e]; subst hX; subst hmg
  exact pmk_own PySem.F.excBase_ValueError h1 (T.xgl i h) h2 (raises_own h3 h4) hg hdb
theorem sc_is_whole : FnScope ["value", "low", "high"] ["value", "low", "high"] (defScope (top 6)) := ⟨rfl, rfl, rfl, by decide +kernel, rfl, by decide +kernel, by decide +kernel⟩
theorem sc_need_whole : FnScope ["value", "low", "high"] ["value", "low", "high"] (defScope (top 7)) := ⟨rfl, rfl, rfl, by decide +kernel, rfl, by decide +kernel, by decide +kernel⟩
theorem sc_is_tuple_of : FnScope ["value", "low", "high"] ["value", "low", "high"] (defScope (top 8)) := ⟨rfl, rfl, rfl, by decide +kernel, rfl, by decide +kernel, by decide +kernel⟩
theorem sc_power_of : FnScope ["base", "many", "found", "turn"] ["base", "many"] (defScope (top 9)) := ⟨rfl, rfl, rfl, by decide +kernel, rfl, by decide +kernel, by decide +kernel⟩
theorem sc_is_prime : FnScope ["number", "small"] ["number"] (defScope (top 10)) := ⟨rfl, rfl, rfl, by decide +kernel, rfl, by decide +kernel, by decide +kernel⟩
theorem sc_digits_of : FnScope ["number", "base", "many", "found", "turn"] ["number", "base", "many"] (defScope (top 11)) := ⟨rfl, rfl, rfl, by decide +kernel, rfl, by decide +kernel, by decide +kernel⟩
theorem sc_rest_by : FnScope ["digits", "modulus", "p", "left", "degree", "lead", "at", "place"] ["digits", "modulus", "p"] (defScope (top 12)) := ⟨rfl, rfl, rfl, by decide +kernel, rfl, by decide +kernel, by decide +kernel⟩
theorem sc_has_small_divisor : FnScope ["modulus", "p", "degree", "small", "number", "divisor"] ["modulus", "p"] (defScope (top 13)) := ⟨rfl, rfl, rfl, by decide +kernel, rfl, by decide +kernel, by decide +kernel⟩
theorem sc_is_modulus : FnScope ["value", "p", "item"] ["value", "p"] (defScope (top 14)) := ⟨rfl, rfl, rfl, by decide +kernel, rfl, by decide +kernel, by decide +kernel⟩
theorem sc_is_field : FnScope ["value"] ["value"] (defScope (top 15)) := ⟨rfl, rfl, rfl, by decide +kernel, rfl, by decide +kernel, by decide +kernel⟩
theorem sc_need_field : FnScope ["value"] ["value"] (defScope (top 16)) := ⟨rfl, rfl, rfl, by decide +kernel, rfl, by decide +kernel, by decide +kernel⟩
theorem sc_size_in : FnScope ["field"] ["field"] (defScope (top 17)) := ⟨rfl, rfl, rfl, by decide +kernel, rfl, by decide +kernel, by decide +kernel⟩
theorem sc_field_size : FnScope ["field"] ["field"] (defScope (top 18)) := ⟨rfl, rfl, rfl, by decide +kernel, rfl, by decide +kernel, by decide +kernel⟩
theorem sc_least_modulus : FnScope ["p", "degree", "number", "modulus"] ["p", "degree"] (defScope (top 19)) := ⟨rfl, rfl, rfl, by decide +kernel, rfl, by decide +kernel, by decide +kernel⟩
theorem sc_is_element : FnScope ["field", "value"] ["field", "value"] (defScope (top 20)) := ⟨rfl, rfl, rfl, by decide +kernel, rfl, by decide +kernel, by decide +kernel⟩
theorem sc__law_cup : FnScope ["script", "cell"] ["script"] (defScope (top 22)) := ⟨rfl, rfl, rfl, by decide +kernel, rfl, by decide +kernel, by decide +kernel⟩
theorem sc__law_roll : FnScope ["cup", "many", "found", "deep"] ["cup", "many"] (defScope (top 23)) := ⟨rfl, rfl, rfl, by decide +kernel, rfl, by decide +kernel, by decide +kernel⟩
theorem sc__law_some : FnScope ["cup", "things"] ["cup", "things"] (defScope (top 24)) := ⟨rfl, rfl, rfl, by decide +kernel, rfl, by decide +kernel, by decide +kernel⟩
theorem sc__law_sort : FnScope ["value"] ["value"] (defScope (top 25)) := ⟨rfl, rfl, rfl, by decide +kernel, rfl, by decide +kernel, by decide +kernel⟩
theorem sc__law_like : FnScope ["one", "other", "sort", "first", "second"] ["one", "other"] (defScope (top 26)) := ⟨rfl, rfl, rfl, by decide +kernel, rfl, by decide +kernel, by decide +kernel⟩
theorem sc__law_to : FnScope ["base", "many", "found", "turn"] ["base", "many"] (defScope (top 27)) := ⟨rfl, rfl, rfl, by decide +kernel, rfl, by decide +kernel, by decide +kernel⟩
theorem sc__law_divides : FnScope ["divisor", "modulus", "p", "left", "lead", "start", "item", "at"] ["divisor", "modulus", "p"] (defScope (top 28)) := ⟨rfl, rfl, rfl, by decide +kernel, rfl, by decide +kernel, by decide +kernel⟩
theorem sc__law_monic : FnScope ["p", "degree", "number", "at"] ["p", "degree"] (defScope (top 29)) := ⟨rfl, rfl, rfl, by decide +kernel, rfl, by decide +kernel, by decide +kernel⟩
theorem sc__law_is_split : FnScope ["modulus", "p", "degree", "one"] ["modulus", "p"] (defScope (top 30)) := ⟨rfl, rfl, rfl, by decide +kernel, rfl, by decide +kernel, by decide +kernel⟩
theorem sc__law_error : FnScope ["call", "e"] ["call"] (defScope (top 31)) := ⟨rfl, rfl, rfl, by decide +kernel, rfl, by decide +kernel, by decide +kernel⟩
theorem sc_law : FnScope ["script", "cup", "primes", "p", "degree", "good", "field", "size", "due", "asked", "odds", "value", "odd", "words", "many", "one", "low"] ["script"] (defScope (top 32)) := ⟨rfl, rfl, rfl, by decide +kernel, rfl, by decide +kernel, by decide +kernel⟩
end
end PV.K00
namespace PV.K00
open PySem PySem.Spec PyProof.Rows L2 RZ LamX PV
section
variable {P : Program} {w : World} {K : PySem.W.Frag} {mg : Str → Option Value} {base : Heap}
theorem ok_is_whole {f : Addr} {fd : FuncData} (T : Tx K mg) (F : FunD K "is_whole" "is_whole" (defArgs (top 6)) (defBody (top 6)) (defScope (top 6)) [] [] f fd) (hm : mg "is_whole" = some (.ref f)) : Dk P w K mg base (cn K) "is_whole" 3 1 f_is_whole := by
  refine dk_of (N := ["value", "low", "high"]) (ps := ["value", "low", "high"]) (m := m_is_whole) (k := 0) rfl rfl F hm sc_is_whole (by decide) (fun _ _ _ _ _ _ us hl => match us, hl with | [_, _, _], _ => rfl) rfl rfl fun cdv A outer s H E I => ?_
  exact ss_one (s1_ret (se_and (se_isi .int (by rfl) (T.fr 0 rfl) (by rfl) (T.fr 1 rfl) (by decide +kernel) (vv 0)) (se_and (se_not (se_isi .bool (by rfl) (T.fr 0 rfl) (by rfl) (T.fr 2 rfl) (by decide +kernel) (vv 0))) (se_one (se_chain op_le op_le oc_cmp oc_cmp (vv 1) (vv 0) (vv 2))))))
theorem ok_need_whole {f : Addr} {fd : FuncData} (T : Tx K mg) (F : FunD K "need_whole" "need_whole" (defArgs (top 7)) (defBody (top 7)) (defScope (top 7)) [] [] f fd) (hm : mg "need_whole" = some (.ref f)) (D_is_whole : Dk P w K mg base (cn K) "is_whole" 3 1 f_is_whole) : Dk P w K mg base (cn K) "need_whole" 3 2 f_need_whole := by
  refine dk_of (N := ["value", "low", "high"]) (ps := ["value", "low", "high"]) (m := m_need_whole) (k := 1) rfl rfl F hm sc_need_whole (by decide) (fun _ _ _ _ _ _ us hl => match us, hl with | [_, _, _], _ => rfl) rfl rfl fun cdv A outer s H E I => ?_
  exact ss_one (s1_if (st_not (st_tru (se_call (by exact I.tk) (by exact D_is_whole) (by exact Room.mono I.room (by first | decide | omega)) (by rfl) (sa_cons (vv 0) (sa_cons (vv 1) (sa_cons (vv 2) (sa_nil))))))) (ss_one (s1_raise I.calm I.tk (T.mk_ rfl rfl 2 (by rfl) (by rfl) (by decide)))) (ss_nil))
theorem ok_is_tuple_of {f : Addr} {fd : FuncData} (T : Tx K mg) (F : FunD K "is_tuple_of" "is_tuple_of" (defArgs (top 8)) (defBody (top 8)) (defScope (top 8)) [] [] f fd) (hm : mg "is_tuple_of" = some (.ref f)) : Dk P w K mg base (cn K) "is_tuple_of" 3 1 f_is_tuple_of := by
  refine dk_of (N := ["value", "low", "high"]) (ps := ["value", "low", "high"]) (m := m_is_tuple_of) (k := 0) rfl rfl F hm sc_is_tuple_of (by decide) (fun _ _ _ _ _ _ us hl => match us, hl with | [_, _, _], _ => rfl) rfl rfl fun cdv A outer s H E I => ?_
  exact ss_one (s1_ret (se_and (se_isi .tuple (by rfl) (T.fr 0 rfl) (by rfl) (T.fr 3 rfl) (by decide +kernel) (vv 0)) (se_one (se_chain op_le op_le oc_cmp oc_cmp (vv 1) (se_calB call_len cc_len (by rfl) (T.fr 4 rfl) (by decide +kernel) (sa_cons (vv 0) (sa_nil))) (vv 2)))))
theorem ok_power_of {f : Addr} {fd : FuncData} (T : Tx K mg) (F : FunD K "power_of" "power_of" (defArgs (top 9)) (defBody (top 9)) (defScope (top 9)) [] [] f fd) (hm : mg "power_of" = some (.ref f)) : Dk P w K mg base (cn K) "power_of" 2 1 f_power_of := by
  refine dk_of (N := ["base", "many", "found", "turn"]) (ps := ["base", "many"]) (m := m_power_of) (k := 0) rfl rfl F hm sc_power_of (by decide) (fun _ _ _ _ _ _ us hl => match us, hl with | [_, _], _ => rfl) rfl rfl fun cdv A outer s H E I => ?_
  exact ss_cons (sets 2 sc_power_of.nd (su_v (se_int))) (ss_cons (s1_for rfl I.po I.calm (si_range1 (by rfl) (T.fr 5 rfl) (vv 1)) (sgn 3 sc_power_of.nd) (ss_one (sets 2 sc_power_of.nd (su_v (se_op or_mul oc_mul (vv 2) (vv 0)))))) (ss_one (s1_ret (vv 2))))
theorem ok_is_prime {f : Addr} {fd : FuncData} (T : Tx K mg) (F : FunD K "is_prime" "is_prime" (defArgs (top 10)) (defBody (top 10)) (defScope (top 10)) [] [] f fd) (hm : mg "is_prime" = some (.ref f)) : Dk P w K mg base (cn K) "is_prime" 1 1 f_is_prime := by
  refine dk_of (N := ["number", "small"]) (ps := ["number"]) (m := m_is_prime) (k := 0) rfl rfl F hm sc_is_prime (by decide) (fun _ _ _ _ _ _ us hl => match us, hl with | [_], _ => rfl) rfl rfl fun cdv A outer s H E I => ?_
  exact ss_one (s1_ret (se_and (se_cmp op_gt oc_cmp (vv 0) (se_int) (nomark _)) (se_one (se_calB (cr_allT (by exact I.calm)) cc_all (by rfl) (T.fr 6 rfl) (by decide +kernel) (sa_cons (se_frz (sf_comp (own := [("small", 1)]) rfl I.calm sc_is_prime.nd (si_range2 (by rfl) (T.fr 5 rfl) (se_int) (vv 0)) (by kernel_rfl) (fun _ _ _ _ _ => sgn 1 sc_is_prime.nd) (fun _ _ _ _ _ => st_ifs0) (fun _ _ _ _ _ => se_cmp op_gt oc_cmp (se_op op_mod oc_mod (vv 0) (vv 1)) (se_int) (nomark _)))) (sa_nil))))))
theorem ok_digits_of {f : Addr} {fd : FuncData} (T : Tx K mg) (F : FunD K "digits_of" "digits_of" (defArgs (top 11)) (defBody (top 11)) (defScope (top 11)) [] [] f fd) (hm : mg "digits_of" = some (.ref f)) : Dk P w K mg base (cn K) "digits_of" 3 1 f_digits_of := by
  refine dk_of (N := ["number", "base", "many", "found", "turn"]) (ps := ["number", "base", "many"]) (m := m_digits_of) (k := 0) rfl rfl F hm sc_digits_of (by decide) (fun _ _ _ _ _ _ us hl => match us, hl with | [_, _, _], _ => rfl) rfl rfl fun cdv A outer s H E I => ?_
  exact ss_cons (sets 3 sc_digits_of.nd (su_o (sf_lst (sa_nil)))) (ss_cons (s1_for rfl I.po I.calm (si_range1 (by rfl) (T.fr 5 rfl) (vv 2)) (sgn 4 sc_digits_of.nd) (ss_cons (app 3 I.hB (se_op op_mod oc_mod (vv 0) (vv 1))) (ss_one (sets 0 sc_digits_of.nd (su_v (se_op or_div oc_div (vv 0) (vv 1))))))) (ss_frz I.hB (ss_one (s1_ret (vv 3)))))
theorem ok_rest_by {f : Addr} {fd : FuncData} (T : Tx K mg) (F : FunD K "rest_by" "rest_by" (defArgs (top 12)) (defBody (top 12)) (defScope (top 12)) [] [] f fd) (hm : mg "rest_by" = some (.ref f)) : Dk P w K mg base (cn K) "rest_by" 3 1 f_rest_by := by
  refine dk_of (N := ["digits", "modulus", "p", "left", "degree", "lead", "at", "place"]) (ps := ["digits", "modulus", "p"]) (m := m_rest_by) (k := 0) rfl rfl F hm sc_rest_by (by decide) (fun _ _ _ _ _ _ us hl => match us, hl with | [_, _, _], _ => rfl) rfl rfl fun cdv A outer s H E I => ?_
  exact ss_cons (par 3 4 I.calm sc_rest_by.nd (su_o (sf_calTy call_list_of cf_list (by rfl) (T.fr 7 rfl) (by decide +kernel) (sa_cons (vv 0) (sa_nil)))) (su_v (se_op op_sub oc_sub (se_calB call_len cc_len (by rfl) (T.fr 4 rfl) (by decide +kernel) (sa_cons (vv 1) (sa_nil))) (se_int)))) (ss_cons (s1_while I.po (st_cmp op_gt oc_cmp (lenO 3 (by rfl) (T.fr 4 rfl)) (vv 4) (nomark _)) (ss_cons (pop 5 3 I.hB sc_rest_by.nd) (ss_one (s1_for rfl I.po I.calm (si_range1 (by rfl) (T.fr 5 rfl) (vv 4)) (sgn 6 sc_rest_by.nd) (ss_cons (sets 7 sc_rest_by.nd (su_v (se_op or_add oc_add (se_op op_sub oc_sub (lenO 3 (by rfl) (T.fr 4 rfl)) (vv 4)) (vv 6)))) (ss_one (putO 3 I.hB (vv 7) (se_op op_mod oc_mod (se_op op_sub oc_sub (ixO 3 (vv 7)) (se_op or_mul oc_mul (vv 5) (se_ix rfl (vv 1) (vv 6)))) (vv 2))))))))) (ss_frz I.hB (ss_one (s1_ret (se_op or_add oc_add (vv 3) (se_op or_mul oc_mul (se_frz (sf_lst (sa_cons (se_int) (sa_nil)))) (se_op op_sub oc_sub (vv 4) (se_calB call_len cc_len (by rfl) (T.fr 4 rfl) (by decide +kernel) (sa_cons (vv 3) (sa_nil))))))))))
theorem ok_has_small_divisor {f : Addr} {fd : FuncData} (T : Tx K mg) (F : FunD K "has_small_divisor" "has_small_divisor" (defArgs (top 13)) (defBody (top 13)) (defScope (top 13)) [] [] f fd) (hm : mg "has_small_divisor" = some (.ref f)) (D_power_of : Dk P w K mg base (cn K) "power_of" 2 1 f_power_of) (D_digits_of : Dk P w K mg base (cn K) "digits_of" 3 1 f_digits_of) (D_rest_by : Dk P w K mg base (cn K) "rest_by" 3 1 f_rest_by) : Dk P w K mg base (cn K) "has_small_divisor" 2 2 f_has_small_divisor := by
  refine dk_of (N := ["modulus", "p", "degree", "small", "number", "divisor"]) (ps := ["modulus", "p"]) (m := m_has_small_divisor) (k := 1) rfl rfl F hm sc_has_small_divisor (by decide) (fun _ _ _ _ _ _ us hl => match us, hl with | [_, _], _ => rfl) rfl rfl fun cdv A outer s H E I => ?_
  exact ss_cons (sets 2 sc_has_small_divisor.nd (su_v (se_op op_sub oc_sub (se_calB call_len cc_len (by rfl) (T.fr 4 rfl) (by decide +kernel) (sa_cons (vv 0) (sa_nil))) (se_int)))) (ss_cons (s1_for rfl I.po I.calm (si_range2 (by rfl) (T.fr 5 rfl) (se_int) (se_op or_add oc_add (se_op or_div oc_div (vv 2) (se_int)) (se_int))) (sgn 3 sc_has_small_divisor.nd) (ss_one (s1_for rfl I.po I.calm (si_range1 (by rfl) (T.fr 5 rfl) (se_call (by exact I.tk) (by exact D_power_of) (by exact Room.mono I.room (by first | decide | omega)) (by rfl) (sa_cons (vv 1) (sa_cons (vv 3) (sa_nil))))) (sgn 4 sc_has_small_divisor.nd) (ss_cons (sets 5 sc_has_small_divisor.nd (su_v (se_op or_add oc_add (se_call (by exact I.tk) (by exact D_digits_of) (by exact Room.mono I.room (by first | decide | omega)) (by rfl) (sa_cons (vv 4) (sa_cons (vv 1) (sa_cons (vv 3) (sa_nil))))) (se_frz (sf_lst (sa_cons (se_int) (sa_nil))))))) (ss_one (s1_if (st_not (st_tru (se_calB (cr_anyT (by exact I.calm)) cc_any (by rfl) (T.fr 8 rfl) (by decide +kernel) (sa_cons (se_call (by exact I.tk) (by exact D_rest_by) (by exact Room.mono I.room (by first | decide | omega)) (by rfl) (sa_cons (vv 0) (sa_cons (vv 5) (sa_cons (vv 1) (sa_nil))))) (sa_nil))))) (ss_one (s1_ret (se_bl))) (ss_nil))))))) (ss_one (s1_ret (se_bl))))
theorem ok_is_modulus {f : Addr} {fd : FuncData} (T : Tx K mg) (F : FunD K "is_modulus" "is_modulus" (defArgs (top 14)) (defBody (top 14)) (defScope (top 14)) [] [] f fd) (hm : mg "is_modulus" = some (.ref f)) (D_has_small_divisor : Dk P w K mg base (cn K) "has_small_divisor" 2 2 f_has_small_divisor) (D_is_tuple_of : Dk P w K mg base (cn K) "is_tuple_of" 3 1 f_is_tuple_of) (D_power_of : Dk P w K mg base (cn K) "power_of" 2 1 f_power_of) (D_is_whole : Dk P w K mg base (cn K) "is_whole" 3 1 f_is_whole) : Dk P w K mg base (cn K) "is_modulus" 2 3 f_is_modulus := by
  refine dk_of (N := ["value", "p", "item"]) (ps := ["value", "p"]) (m := m_is_modulus) (k := 2) rfl rfl F hm sc_is_modulus (by decide) (fun _ _ _ _ _ _ us hl => match us, hl with | [_, _], _ => rfl) rfl rfl fun cdv A outer s H E I => ?_
  exact ss_cons (s1_if ((st_or (st_not (st_tru (se_call (by exact I.tk) (by exact D_is_tuple_of) (by exact Room.mono I.room (by first | decide | omega)) (by rfl) (sa_cons (vv 0) (sa_cons (se_int) (sa_cons (se_int) (sa_nil))))))) (st_or (st_not (st_tru (se_calB (cr_allT (by exact I.calm)) cc_all (by rfl) (T.fr 6 rfl) (by decide +kernel) (sa_cons (se_frz (sf_comp (own := [("item", 2)]) rfl I.calm sc_is_modulus.nd (si_seq rfl (vv 0)) (by kernel_rfl) (fun _ _ _ _ _ => sgn 2 sc_is_modulus.nd) (fun _ _ _ _ _ => st_ifs0) (fun _ _ _ _ _ => se_call (by exact L2.takes0) (by exact D_is_whole) (by exact Room.mono I.room (by first | decide | omega)) (by rfl) (sa_cons (vv 2) (sa_cons (se_int) (sa_cons (se_op op_sub oc_sub (vv 1) (se_int)) (sa_nil))))))) (sa_nil))))) (st_or1 (st_cmp (op_neD (by exact Room.units I.room)) oc_ne (se_ix rfl (vv 0) (se_un un_neg uc_neg (se_int))) (se_int) (nomark _))))).pt) (ss_one (s1_ret (se_bl))) (ss_nil)) (ss_cons (s1_if ((st_or (st_cmp op_gt oc_cmp (se_call (by exact I.tk) (by exact D_power_of) (by exact Room.mono I.room (by first | decide | omega)) (by rfl) (sa_cons (vv 1) (sa_cons (se_op op_sub oc_sub (se_calB call_len cc_len (by rfl) (T.fr 4 rfl) (by decide +kernel) (sa_cons (vv 0) (sa_nil))) (se_int)) (sa_nil)))) (se_globI (by rfl) T.i_FIELD_SIZE) (nomark _)) (st_or1 ((st_and (st_cmp (op_eqD (by exact Room.units I.room)) oc_eq (se_calB call_len cc_len (by rfl) (T.fr 4 rfl) (by decide +kernel) (sa_cons (vv 0) (sa_nil))) (se_int) (nomark _)) (st_and1 (st_cmp (op_neD (by exact Room.units I.room)) oc_ne (vv 0) (se_tup (sa_cons (se_int) (sa_cons (se_int) (sa_nil)))) (nomark _)))).pt))).pt) (ss_one (s1_ret (se_bl))) (ss_nil)) (ss_one (s1_ret (se_not (se_call (by exact I.tk) (by exact D_has_small_divisor) (by exact Room.mono I.room (by first | decide | omega)) (by rfl) (sa_cons (vv 0) (sa_cons (vv 1) (sa_nil))))))))
theorem ok_is_field {f : Addr} {fd : FuncData} (T : Tx K mg) (F : FunD K "is_field" "is_field" (defArgs (top 15)) (defBody (top 15)) (defScope (top 15)) [] [] f fd) (hm : mg "is_field" = some (.ref f)) (D_is_modulus : Dk P w K mg base (cn K) "is_modulus" 2 3 f_is_modulus) (D_is_tuple_of : Dk P w K mg base (cn K) "is_tuple_of" 3 1 f_is_tuple_of) (D_is_whole : Dk P w K mg base (cn K) "is_whole" 3 1 f_is_whole) (D_is_prime : Dk P w K mg base (cn K) "is_prime" 1 1 f_is_prime) : Dk P w K mg base (cn K) "is_field" 1 4 f_is_field := by
  refine dk_of (N := ["value"]) (ps := ["value"]) (m := m_is_field) (k := 3) rfl rfl F hm sc_is_field (by decide) (fun _ _ _ _ _ _ us hl => match us, hl with | [_], _ => rfl) rfl rfl fun cdv A outer s H E I => ?_
  exact ss_cons (s1_if ((st_or (st_not (st_tru (se_call (by exact I.tk) (by exact D_is_tuple_of) (by exact Room.mono I.room (by first | decide | omega)) (by rfl) (sa_cons (vv 0) (sa_cons (se_int) (sa_cons (se_int) (sa_nil))))))) (st_or (st_not (st_tru (se_call (by exact I.tk) (by exact D_is_whole) (by exact Room.mono I.room (by first | decide | omega)) (by rfl) (sa_cons (se_ix rfl (vv 0) (se_int)) (sa_cons (se_int) (sa_cons (se_globI (by rfl) T.i_FIELD_SIZE) (sa_nil))))))) (st_or1 (st_not (st_tru (se_call (by exact I.tk) (by exact D_is_prime) (by exact Room.mono I.room (by first | decide | omega)) (by rfl) (sa_cons (se_ix rfl (vv 0) (se_int)) (sa_nil)))))))).pt) (ss_one (s1_ret (se_bl))) (ss_nil)) (ss_one (s1_ret (se_call (by exact I.tk) (by exact D_is_modulus) (by exact Room.mono I.room (by first | decide | omega)) (by rfl) (sa_cons (se_ix rfl (vv 0) (se_int)) (sa_cons (se_ix rfl (vv 0) (se_int)) (sa_nil))))))
theorem ok_need_field {f : Addr} {fd : FuncData} (T : Tx K mg) (F : FunD K "need_field" "need_field" (defArgs (top 16)) (defBody (top 16)) (defScope (top 16)) [] [] f fd) (hm : mg "need_field" = some (.ref f)) (D_is_field : Dk P w K mg base (cn K) "is_field" 1 4 f_is_field) : Dk P w K mg base (cn K) "need_field" 1 5 f_need_field := by
  refine dk_of (N := ["value"]) (ps := ["value"]) (m := m_need_field) (k := 4) rfl rfl F hm sc_need_field (by decide) (fun _ _ _ _ _ _ us hl => match us, hl with | [_], _ => rfl) rfl rfl fun cdv A outer s H E I => ?_
  exact ss_one (s1_if (st_not (st_tru (se_call (by exact I.tk) (by exact D_is_field) (by exact Room.mono I.room (by first | decide | omega)) (by rfl) (sa_cons (vv 0) (sa_nil))))) (ss_one (s1_raise I.calm I.tk (T.mk_ rfl rfl 1 (by rfl) (by rfl) (by decide)))) (ss_nil))
theorem ok_size_in {f : Addr} {fd : FuncData} (T : Tx K mg) (F : FunD K "size_in" "size_in" (defArgs (top 17)) (defBody (top 17)) (defScope (top 17)) [] [] f fd) (hm : mg "size_in" = some (.ref f)) (D_power_of : Dk P w K mg base (cn K) "power_of" 2 1 f_power_of) : Dk P w K mg base (cn K) "size_in" 1 2 f_size_in := by
  refine dk_of (N := ["field"]) (ps := ["field"]) (m := m_size_in) (k := 1) rfl rfl F hm sc_size_in (by decide) (fun _ _ _ _ _ _ us hl => match us, hl with | [_], _ => rfl) rfl rfl fun cdv A outer s H E I => ?_
  exact ss_one (s1_ret (se_call (by exact I.tk) (by exact D_power_of) (by exact Room.mono I.room (by first | decide | omega)) (by rfl) (sa_cons (se_ix rfl (vv 0) (se_int)) (sa_cons (se_op op_sub oc_sub (se_calB call_len cc_len (by rfl) (T.fr 4 rfl) (by decide +kernel) (sa_cons (se_ix rfl (vv 0) (se_int)) (sa_nil))) (se_int)) (sa_nil)))))
theorem ok_field_size {f : Addr} {fd : FuncData} (T : Tx K mg) (F : FunD K "field_size" "field_size" (defArgs (top 18)) (defBody (top 18)) (defScope (top 18)) [] [] f fd) (hm : mg "field_size" = some (.ref f)) (D_need_field : Dk P w K mg base (cn K) "need_field" 1 5 f_need_field) (D_size_in : Dk P w K mg base (cn K) "size_in" 1 2 f_size_in) : Dk P w K mg base (cn K) "field_size" 1 6 f_field_size := by
  refine dk_of (N := ["field"]) (ps := ["field"]) (m := m_field_size) (k := 5) rfl rfl F hm sc_field_size (by decide) (fun _ _ _ _ _ _ us hl => match us, hl with | [_], _ => rfl) rfl rfl fun cdv A outer s H E I => ?_
  exact ss_cons (s1_expr (se_call (by exact I.tk) (by exact D_need_field) (by exact Room.mono I.room (by first | decide | omega)) (by rfl) (sa_cons (vv 0) (sa_nil)))) (ss_one (s1_ret (se_call (by exact I.tk) (by exact D_size_in) (by exact Room.mono I.room (by first | decide | omega)) (by rfl) (sa_cons (vv 0) (sa_nil)))))
theorem ok_least_modulus {f : Addr} {fd : FuncData} (T : Tx K mg) (F : FunD K "least_modulus" "least_modulus" (defArgs (top 19)) (defBody (top 19)) (defScope (top 19)) [] [] f fd) (hm : mg "least_modulus" = some (.ref f)) (D_need_whole : Dk P w K mg base (cn K) "need_whole" 3 2 f_need_whole) (D_power_of : Dk P w K mg base (cn K) "power_of" 2 1 f_power_of) (D_is_modulus : Dk P w K mg base (cn K) "is_modulus" 2 3 f_is_modulus) (D_is_prime : Dk P w K mg base (cn K) "is_prime" 1 1 f_is_prime) (D_is_whole : Dk P w K mg base (cn K) "is_whole" 3 1 f_is_whole) (D_digits_of : Dk P w K mg base (cn K) "digits_of" 3 1 f_digits_of) : Dk P w K mg base (cn K) "least_modulus" 2 4 f_least_modulus := by
  refine dk_of (N := ["p", "degree", "number", "modulus"]) (ps := ["p", "degree"]) (m := m_least_modulus) (k := 3) rfl rfl F hm sc_least_modulus (by decide) (fun _ _ _ _ _ _ us hl => match us, hl with | [_, _], _ => rfl) rfl rfl fun cdv A outer s H E I => ?_
  exact ss_cons (s1_expr (se_call (by exact I.tk) (by exact D_need_whole) (by exact Room.mono I.room (by first | decide | omega)) (by rfl) (sa_cons (vv 0) (sa_cons (se_int) (sa_cons (se_globI (by rfl) T.i_FIELD_SIZE) (sa_nil)))))) (ss_cons (s1_if ((st_or (st_not (st_tru (se_call (by exact I.tk) (by exact D_is_prime) (by exact Room.mono I.room (by first | decide | omega)) (by rfl) (sa_cons (vv 0) (sa_nil))))) (st_or (st_not (st_tru (se_call (by exact I.tk) (by exact D_is_whole) (by exact Room.mono I.room (by first | decide | omega)) (by rfl) (sa_cons (vv 1) (sa_cons (se_int) (sa_cons (se_int) (sa_nil))))))) (st_or1 (st_cmp op_gt oc_cmp (se_call (by exact I.tk) (by exact D_power_of) (by exact Room.mono I.room (by first | decide | omega)) (by rfl) (sa_cons (vv 0) (sa_cons (vv 1) (sa_nil)))) (se_globI (by rfl) T.i_FIELD_SIZE) (nomark _))))).pt) (ss_one (s1_raise I.calm I.tk (T.mk_ rfl rfl 2 (by rfl) (by rfl) (by decide)))) (ss_nil)) (ss_cons (s1_for rfl I.po I.calm (si_range1 (by rfl) (T.fr 5 rfl) (se_call (by exact I.tk) (by exact D_power_of) (by exact Room.mono I.room (by first | decide | omega)) (by rfl) (sa_cons (vv 0) (sa_cons (vv 1) (sa_nil))))) (sgn 2 sc_least_modulus.nd) (ss_cons (sets 3 sc_least_modulus.nd (su_v (se_calTy call_tuple_of cc_tuple (by rfl) (T.fr 3 rfl) (by decide +kernel) (sa_cons (se_op or_add oc_add (se_call (by exact I.tk) (by exact D_digits_of) (by exact Room.mono I.room (by first | decide | omega)) (by rfl) (sa_cons (vv 2) (sa_cons (vv 0) (sa_cons (vv 1) (sa_nil))))) (se_frz (sf_lst (sa_cons (se_int) (sa_nil))))) (sa_nil))))) (ss_one (s1_if (st_tru (se_call (by exact I.tk) (by exact D_is_modulus) (by exact Room.mono I.room (by first | decide | omega)) (by rfl) (sa_cons (vv 3) (sa_cons (vv 0) (sa_nil))))) (ss_one (s1_ret (vv 3))) (ss_nil))))) (ss_one (s1_ret (se_non)))))
theorem ok_is_element {f : Addr} {fd : FuncData} (T : Tx K mg) (F : FunD K "is_element" "is_element" (defArgs (top 20)) (defBody (top 20)) (defScope (top 20)) [] [] f fd) (hm : mg "is_element" = some (.ref f)) (D_need_field : Dk P w K mg base (cn K) "need_field" 1 5 f_need_field) (D_is_whole : Dk P w K mg base (cn K) "is_whole" 3 1 f_is_whole) (D_size_in : Dk P w K mg base (cn K) "size_in" 1 2 f_size_in) : Dk P w K mg base (cn K) "is_element" 2 6 f_is_element := by
  refine dk_of (N := ["field", "value"]) (ps := ["field", "value"]) (m := m_is_element) (k := 5) rfl rfl F hm sc_is_element (by decide) (fun _ _ _ _ _ _ us hl => match us, hl with | [_, _], _ => rfl) rfl rfl fun cdv A outer s H E I => ?_
  exact ss_cons (s1_expr (se_call (by exact I.tk) (by exact D_need_field) (by exact Room.mono I.room (by first | decide | omega)) (by rfl) (sa_cons (vv 0) (sa_nil)))) (ss_one (s1_ret (se_call (by exact I.tk) (by exact D_is_whole) (by exact Room.mono I.room (by first | decide | omega)) (by rfl) (sa_cons (vv 1) (sa_cons (se_int) (sa_cons (se_op op_sub oc_sub (se_call (by exact I.tk) (by exact D_size_in) (by exact Room.mono I.room (by first | decide | omega)) (by rfl) (sa_cons (vv 0) (sa_nil))) (se_int)) (sa_nil)))))))
theorem ok__law_cup {f : Addr} {fd : FuncData} (T : Tx K mg) (F : FunD K "_law_cup" "_law_cup" (defArgs (top 22)) (defBody (top 22)) (defScope (top 22)) [] [] f fd) (hm : mg "_law_cup" = some (.ref f)) : Dk P w K mg base (cn K) "_law_cup" 1 1 f__law_cup := by
  refine dk_of (N := ["script", "cell"]) (ps := ["script"]) (m := m__law_cup) (k := 0) rfl rfl F hm sc__law_cup (by decide) (fun _ _ _ _ _ _ us hl => match us, hl with | [_], _ => rfl) rfl rfl fun cdv A outer s H E I => ?_
  exact ss_cons (sets 1 sc__law_cup.nd (su_v (se_calB call_abs cc_abs (by rfl) (T.fr 9 rfl) (by decide +kernel) (sa_cons (se_ix rfl (se_op or_add oc_add (se_frz (sf_calTy call_list_of cf_list (by rfl) (T.fr 7 rfl) (by decide +kernel) (sa_cons (vv 0) (sa_nil)))) (se_frz (sf_lst (sa_cons (se_int) (sa_nil))))) (se_int)) (sa_nil))))) (ss_one (s1_ret (se_ref (sf_lst (sa_cons (se_if (st_cmp op_ge oc_cmp (vv 1) (se_op op_pow oc_pow (se_int) (se_int)) (nomark _)) (se_op or_div oc_div (vv 1) (se_int)) (se_int)) (sa_cons (se_op or_add oc_add (se_op op_mod oc_mod (se_calTy call_int1 cc_int (by rfl) (T.fr 1 rfl) (by decide +kernel) (sa_cons (se_op or_add oc_add (se_op or_mul oc_mul (vv 1) (se_int)) (se_int)) (sa_nil))) (se_int)) (se_int)) (sa_nil)))))))
theorem ok__law_roll {f : Addr} {fd : FuncData} (T : Tx K mg) (F : FunD K "_law_roll" "_law_roll" (defArgs (top 23)) (defBody (top 23)) (defScope (top 23)) [] [] f fd) (hm : mg "_law_roll" = some (.ref f)) : Dk P w K mg base (cn K) "_law_roll" 2 1 f__law_roll := by
  refine dk_of (N := ["cup", "many", "found", "deep"]) (ps := ["cup", "many"]) (m := m__law_roll) (k := 0) rfl rfl F hm sc__law_roll (by decide) (fun _ _ _ _ _ _ us hl => match us, hl with | [_, _], _ => rfl) rfl rfl fun cdv A outer s H E I => ?_
  exact ss_cons (s1_if (st_cmp op_gt oc_cmp (se_ix rfl (vv 0) (se_int)) (se_int) (nomark _)) (ss_cons (sets 2 sc__law_roll.nd (su_v (se_op op_mod oc_mod (se_calTy call_int1 cc_int (by rfl) (T.fr 1 rfl) (by decide +kernel) (sa_cons (se_ix rfl (vv 0) (se_int)) (sa_nil))) (vv 1)))) (ss_cons (putR (vv 0) (se_int) (se_op or_div oc_div (se_ix rfl (vv 0) (se_int)) (vv 1))) (ss_one (s1_ret (vv 2))))) (ss_nil)) (ss_cons (putR (vv 0) (se_int) (se_op op_mod oc_mod (se_calTy call_int1 cc_int (by rfl) (T.fr 1 rfl) (by decide +kernel) (sa_cons (se_op or_add oc_add (se_op or_mul oc_mul (se_ix rfl (vv 0) (se_int)) (se_int)) (se_int)) (sa_nil))) (se_int))) (ss_cons (sets 3 sc__law_roll.nd (su_v (se_op op_mod oc_mod (se_calTy call_int1 cc_int (by rfl) (T.fr 1 rfl) (by decide +kernel) (sa_cons (se_op or_mul oc_mul (se_ix rfl (vv 0) (se_int)) (se_op or_add oc_add (se_ix rfl (vv 0) (se_int)) (se_int))) (sa_nil))) (se_int)))) (ss_one (s1_ret (se_op op_mod oc_mod (se_calTy call_int1 cc_int (by rfl) (T.fr 1 rfl) (by decide +kernel) (sa_cons (se_op or_div oc_div (vv 3) (se_int)) (sa_nil))) (vv 1))))))
theorem ok__law_some {f : Addr} {fd : FuncData} (T : Tx K mg) (F : FunD K "_law_some" "_law_some" (defArgs (top 24)) (defBody (top 24)) (defScope (top 24)) [] [] f fd) (hm : mg "_law_some" = some (.ref f)) (D__law_roll : Dk P w K mg base (cn K) "_law_roll" 2 1 f__law_roll) : Dk P w K mg base (cn K) "_law_some" 2 2 f__law_some := by
  refine dk_of (N := ["cup", "things"]) (ps := ["cup", "things"]) (m := m__law_some) (k := 1) rfl rfl F hm sc__law_some (by decide) (fun _ _ _ _ _ _ us hl => match us, hl with | [_, _], _ => rfl) rfl rfl fun cdv A outer s H E I => ?_
  exact ss_one (s1_ret (se_ix rfl (vv 1) (se_call (by exact I.tk) (by exact D__law_roll) (by exact Room.mono I.room (by first | decide | omega)) (by rfl) (sa_cons (vv 0) (sa_cons (se_calB call_len cc_len (by rfl) (T.fr 4 rfl) (by decide +kernel) (sa_cons (vv 1) (sa_nil))) (sa_nil))))))
theorem ok__law_sort {f : Addr} {fd : FuncData} (T : Tx K mg) (F : FunD K "_law_sort" "_law_sort" (defArgs (top 25)) (defBody (top 25)) (defScope (top 25)) [] [] f fd) (hm : mg "_law_sort" = some (.ref f)) : Dk P w K mg base (cn K) "_law_sort" 1 1 f__law_sort := by
  refine dk_of (N := ["value"]) (ps := ["value"]) (m := m__law_sort) (k := 0) rfl rfl F hm sc__law_sort (by decide) (fun _ _ _ _ _ _ us hl => match us, hl with | [_], _ => rfl) rfl rfl fun cdv A outer s H E I => ?_
  exact ss_cons (s1_if ((st_or (st_cmp op_isN oc_isN (vv 0) (se_non) (nomark _)) (st_or1 (st_tru (se_isi .bool (by rfl) (T.fr 0 rfl) (by rfl) (T.fr 2 rfl) (by decide +kernel) (vv 0))))).pt) (ss_one (s1_ret (se_if (st_cmp op_isN oc_isN (vv 0) (se_non) (nomark _)) (se_int) (se_int)))) (ss_nil)) (ss_cons (s1_if ((st_or (st_tru (se_isi .int (by rfl) (T.fr 0 rfl) (by rfl) (T.fr 1 rfl) (by decide +kernel) (vv 0))) (st_or1 (st_tru (se_isi .str (by rfl) (T.fr 0 rfl) (by rfl) (T.fr 10 rfl) (by decide +kernel) (vv 0))))).pt) (ss_one (s1_ret (se_if (st_tru (se_isi .int (by rfl) (T.fr 0 rfl) (by rfl) (T.fr 1 rfl) (by decide +kernel) (vv 0))) (se_int) (se_int)))) (ss_nil)) (ss_one (s1_ret (se_if (st_tru (se_isi .tuple (by rfl) (T.fr 0 rfl) (by rfl) (T.fr 3 rfl) (by decide +kernel) (vv 0))) (se_int) (se_if (st_tru (se_isi .list (by rfl) (T.fr 0 rfl) (by rfl) (T.fr 7 rfl) (by decide +kernel) (vv 0))) (se_int) (se_int))))))
theorem ok__law_like {f : Addr} {fd : FuncData} (T : Tx K mg) (F : FunD K "_law_like" "_law_like" (defArgs (top 26)) (defBody (top 26)) (defScope (top 26)) [] [] f fd) (hm : mg "_law_like" = some (.ref f)) (D__law_sort : Dk P w K mg base (cn K) "_law_sort" 1 1 f__law_sort) : ∀ n, Dk P w K mg base (cn K) "_law_like" 2 (2 + n) (f__law_like n)
  | 0 => dk_no F hm (ps := ["one", "other"]) rfl (fun _ _ _ _ _ _ us hl => match us, hl with | [_, _], _ => rfl)
  | n + 1 => by
    have R : Dk P w K mg base (cn K) "_law_like" 2 (2 + n) (f__law_like n) := ok__law_like T F hm D__law_sort n
    refine dk_of (N := ["one", "other", "sort", "first", "second"]) (ps := ["one", "other"]) (m := m__law_like (f__law_like n)) (k := 2 + n) rfl rfl F hm sc__law_like (by decide) (fun _ _ _ _ _ _ us hl => match us, hl with | [_, _], _ => rfl) rfl rfl fun cdv A outer s H E I => ?_
    exact ss_cons (sets 2 sc__law_like.nd (su_v (se_call (by exact I.tk) (by exact D__law_sort) (by exact Room.mono I.room (by first | decide | omega)) (by rfl) (sa_cons (vv 1) (sa_nil))))) (ss_cons (s1_if ((st_or (st_cmp (op_neD (by exact Room.units I.room)) oc_ne (se_call (by exact I.tk) (by exact D__law_sort) (by exact Room.mono I.room (by first | decide | omega)) (by rfl) (sa_cons (vv 0) (sa_nil))) (vv 2) (nomark _)) (st_or1 (st_cmp (op_eqD (by exact Room.units I.room)) oc_eq (vv 2) (se_int) (nomark _)))).pt) (ss_one (s1_ret (se_bl))) (ss_nil)) (ss_cons (s1_if (st_cmp ((op_inD (by exact hu65 I.room)).or op_in_seq) oc_in (vv 2) (se_tup (sa_cons (se_int) (sa_cons (se_int) (sa_nil)))) (by rfl)) (ss_one (s1_ret (se_and (se_cmp (op_eqD (by exact Room.units I.room)) oc_eq (se_calB call_len cc_len (by rfl) (T.fr 4 rfl) (by decide +kernel) (sa_cons (vv 0) (sa_nil))) (se_calB call_len cc_len (by rfl) (T.fr 4 rfl) (by decide +kernel) (sa_cons (vv 1) (sa_nil))) (nomark _)) (se_one (se_cmp (op_eqD (by exact Room.units I.room)) oc_eq (se_frz (sf_comp (own := [("first", 3), ("second", 4)]) rfl I.calm sc__law_like.nd (si_zip rfl (by rfl) (T.fr 11 rfl) (vv 0) (vv 1)) (by kernel_rfl) (fun _ _ _ _ _ => sg_tup I.calm (sgs_cons (sgn 3 sc__law_like.nd) (sgs_cons (sgn 4 sc__law_like.nd) (sgs_nil)))) (fun _ _ _ _ _ => st_ifs1 (st_not (st_tru (se_call (by exact L2.takes0) (by exact R) (by exact I.room) (by rfl) (sa_cons (vv 3) (sa_cons (vv 4) (sa_nil))))))) (fun _ _ _ _ _ => se_int))) (se_frz (sf_lst (sa_nil))) (nomark _)))))) (ss_nil)) (ss_one (s1_ret (se_cmp (op_eqD (by exact Room.units I.room)) oc_eq (vv 0) (vv 1) (nomark _))))))
theorem ok__law_to {f : Addr} {fd : FuncData} (T : Tx K mg) (F : FunD K "_law_to" "_law_to" (defArgs (top 27)) (defBody (top 27)) (defScope (top 27)) [] [] f fd) (hm : mg "_law_to" = some (.ref f)) : Dk P w K mg base (cn K) "_law_to" 2 1 f__law_to := by
  refine dk_of (N := ["base", "many", "found", "turn"]) (ps := ["base", "many"]) (m := m__law_to) (k := 0) rfl rfl F hm sc__law_to (by decide) (fun _ _ _ _ _ _ us hl => match us, hl with | [_, _], _ => rfl) rfl rfl fun cdv A outer s H E I => ?_
  exact ss_cons (sets 2 sc__law_to.nd (su_v (se_int))) (ss_cons (s1_for rfl I.po I.calm (si_range1 (by rfl) (T.fr 5 rfl) (vv 1)) (sgn 3 sc__law_to.nd) (ss_one (sets 2 sc__law_to.nd (su_v (se_op or_mul oc_mul (vv 2) (vv 0)))))) (ss_one (s1_ret (vv 2))))
theorem ok__law_divides {f : Addr} {fd : FuncData} (T : Tx K mg) (F : FunD K "_law_divides" "_law_divides" (defArgs (top 28)) (defBody (top 28)) (defScope (top 28)) [] [] f fd) (hm : mg "_law_divides" = some (.ref f)) : Dk P w K mg base (cn K) "_law_divides" 3 1 f__law_divides := by
  refine dk_of (N := ["divisor", "modulus", "p", "left", "lead", "start", "item", "at"]) (ps := ["divisor", "modulus", "p"]) (m := m__law_divides) (k := 0) rfl rfl F hm sc__law_divides (by decide) (fun _ _ _ _ _ _ us hl => match us, hl with | [_, _, _], _ => rfl) rfl rfl fun cdv A outer s H E I => ?_
  exact ss_cons (sets 3 sc__law_divides.nd (su_v (se_frz (sf_calTy call_list_of cf_list (by rfl) (T.fr 7 rfl) (by decide +kernel) (sa_cons (vv 1) (sa_nil)))))) (ss_cons (s1_while I.po (st_cmp op_ge oc_cmp (se_calB call_len cc_len (by rfl) (T.fr 4 rfl) (by decide +kernel) (sa_cons (vv 3) (sa_nil))) (se_calB call_len cc_len (by rfl) (T.fr 4 rfl) (by decide +kernel) (sa_cons (vv 0) (sa_nil))) (nomark _)) (ss_cons (asgT rfl (sg_tup I.calm (sgs_cons (sgn 4 sc__law_divides.nd) (sgs_cons (sgn 5 sc__law_divides.nd) (sgs_nil)))) (se_tup (sa_cons (se_ix rfl (vv 3) (se_un un_neg uc_neg (se_int))) (sa_cons (se_op op_sub oc_sub (se_calB call_len cc_len (by rfl) (T.fr 4 rfl) (by decide +kernel) (sa_cons (vv 3) (sa_nil))) (se_calB call_len cc_len (by rfl) (T.fr 4 rfl) (by decide +kernel) (sa_cons (vv 0) (sa_nil)))) (sa_nil))))) (ss_one (sets 3 sc__law_divides.nd (su_v (se_frz (sf_sl rfl (se_frz (sf_comp (own := [("at", 7), ("item", 6)]) rfl I.calm sc__law_divides.nd (si_enum rfl (by rfl) (T.fr 12 rfl) (vv 3)) (by kernel_rfl) (fun _ _ _ _ _ => sg_tup I.calm (sgs_cons (sgn 7 sc__law_divides.nd) (sgs_cons (sgn 6 sc__law_divides.nd) (sgs_nil)))) (fun _ _ _ _ _ => st_ifs0) (fun _ _ _ _ _ => se_if (st_cmp op_ge oc_cmp (vv 7) (vv 5) (nomark _)) (se_op op_mod oc_mod (se_calTy call_int1 cc_int (by rfl) (T.fr 1 rfl) (by decide +kernel) (sa_cons (se_op op_sub oc_sub (vv 6) (se_op or_mul oc_mul (vv 4) (se_ix rfl (vv 0) (se_op op_sub oc_sub (vv 7) (vv 5))))) (sa_nil))) (vv 2)) (vv 6)))) so_none (so_some (se_un un_neg uc_neg (se_int)))))))))) (ss_one (s1_ret (se_cmp (op_eqD (by exact Room.units I.room)) oc_eq (se_frz (sf_comp (own := [("item", 6)]) rfl I.calm sc__law_divides.nd (si_seq rfl (vv 3)) (by kernel_rfl) (fun _ _ _ _ _ => sgn 6 sc__law_divides.nd) (fun _ _ _ _ _ => st_ifs1 (st_cmp (op_neD (by exact Room.units I.room)) oc_ne (vv 6) (se_int) (nomark _))) (fun _ _ _ _ _ => vv 6))) (se_frz (sf_lst (sa_nil))) (nomark _)))))
theorem ok__law_monic {f : Addr} {fd : FuncData} (T : Tx K mg) (F : FunD K "_law_monic" "_law_monic" (defArgs (top 29)) (defBody (top 29)) (defScope (top 29)) [] [] f fd) (hm : mg "_law_monic" = some (.ref f)) (D__law_to : Dk P w K mg base (cn K) "_law_to" 2 1 f__law_to) : Dk P w K mg base (cn K) "_law_monic" 2 2 f__law_monic := by
  refine dk_of (N := ["p", "degree", "number", "at"]) (ps := ["p", "degree"]) (m := m__law_monic) (k := 1) rfl rfl F hm sc__law_monic (by decide) (fun _ _ _ _ _ _ us hl => match us, hl with | [_, _], _ => rfl) rfl rfl fun cdv A outer s H E I => ?_
  exact ss_one (s1_ret (se_frz (sf_comp (own := [("number", 2)]) rfl I.calm sc__law_monic.nd (si_range1 (by rfl) (T.fr 5 rfl) (se_call (by exact I.tk) (by exact D__law_to) (by exact Room.mono I.room (by first | decide | omega)) (by rfl) (sa_cons (vv 0) (sa_cons (vv 1) (sa_nil))))) (by kernel_rfl) (fun _ _ _ _ _ => sgn 2 sc__law_monic.nd) (fun _ _ _ _ _ => st_ifs0) (fun _ _ _ _ _ => se_calTy call_tuple_of cc_tuple (by rfl) (T.fr 3 rfl) (by decide +kernel) (sa_cons (se_op or_add oc_add (se_frz (sf_comp (own := [("at", 3)]) rfl I.calm sc__law_monic.nd (si_range1 (by rfl) (T.fr 5 rfl) (vv 1)) (by kernel_rfl) (fun _ _ _ _ _ => sgn 3 sc__law_monic.nd) (fun _ _ _ _ _ => st_ifs0) (fun _ _ _ _ _ => se_op op_mod oc_mod (se_calTy call_int1 cc_int (by rfl) (T.fr 1 rfl) (by decide +kernel) (sa_cons (se_op or_div oc_div (vv 2) (se_call (by exact L2.takes0) (by exact D__law_to) (by exact Room.mono I.room (by first | decide | omega)) (by rfl) (sa_cons (vv 0) (sa_cons (vv 3) (sa_nil))))) (sa_nil))) (vv 0)))) (se_frz (sf_lst (sa_cons (se_int) (sa_nil))))) (sa_nil))))))
theorem ok__law_is_split {f : Addr} {fd : FuncData} (T : Tx K mg) (F : FunD K "_law_is_split" "_law_is_split" (defArgs (top 30)) (defBody (top 30)) (defScope (top 30)) [] [] f fd) (hm : mg "_law_is_split" = some (.ref f)) (D__law_monic : Dk P w K mg base (cn K) "_law_monic" 2 2 f__law_monic) (D__law_divides : Dk P w K mg base (cn K) "_law_divides" 3 1 f__law_divides) : Dk P w K mg base (cn K) "_law_is_split" 2 3 f__law_is_split := by
  refine dk_of (N := ["modulus", "p", "degree", "one"]) (ps := ["modulus", "p"]) (m := m__law_is_split) (k := 2) rfl rfl F hm sc__law_is_split (by decide) (fun _ _ _ _ _ _ us hl => match us, hl with | [_, _], _ => rfl) rfl rfl fun cdv A outer s H E I => ?_
  exact ss_cons (s1_for rfl I.po I.calm (si_range2 (by rfl) (T.fr 5 rfl) (se_int) (se_op or_add oc_add (se_calTy call_int1 cc_int (by rfl) (T.fr 1 rfl) (by decide +kernel) (sa_cons (se_op or_div oc_div (se_op op_sub oc_sub (se_calB call_len cc_len (by rfl) (T.fr 4 rfl) (by decide +kernel) (sa_cons (vv 0) (sa_nil))) (se_int)) (se_int)) (sa_nil))) (se_int))) (sgn 2 sc__law_is_split.nd) (ss_one (s1_if (st_cmp (op_neD (by exact Room.units I.room)) oc_ne (se_frz (sf_comp (own := [("one", 3)]) rfl I.calm sc__law_is_split.nd (si_seq rfl (se_call (by exact I.tk) (by exact D__law_monic) (by exact Room.mono I.room (by first | decide | omega)) (by rfl) (sa_cons (vv 1) (sa_cons (vv 2) (sa_nil))))) (by kernel_rfl) (fun _ _ _ _ _ => sgn 3 sc__law_is_split.nd) (fun _ _ _ _ _ => st_ifs1 (st_tru (se_call (by exact L2.takes0) (by exact D__law_divides) (by exact Room.mono I.room (by first | decide | omega)) (by rfl) (sa_cons (vv 3) (sa_cons (vv 0) (sa_cons (vv 1) (sa_nil))))))) (fun _ _ _ _ _ => vv 3))) (se_frz (sf_lst (sa_nil))) (nomark _)) (ss_one (s1_ret (se_bl))) (ss_nil)))) (ss_one (s1_ret (se_bl)))
theorem ok__law_error {f : Addr} {fd : FuncData} (T : Tx K mg) (F : FunD K "_law_error" "_law_error" (defArgs (top 31)) (defBody (top 31)) (defScope (top 31)) [] [] f fd) (hm : mg "_law_error" = some (.ref f)) : ∀ k, Lk P w K mg base (cn K) "_law_error" (k + 1) m__law_error 2 := fun k => by
  refine lk_of (N := ["call", "e"]) (mm := m__law_error) F hm sc__law_error (fun _ _ _ _ _ _ us hl => match us, hl with | [_], _ => rfl) rfl rfl (by first | exact Or.inl rfl | exact Or.inr (Or.inl rfl)) (by decide) (by decide) fun cdv A outer s H E z c q b th act I => ?_
  exact ss_cons (s1_tryAs I.fr I.fl sc__law_error.nd rfl rfl ⟨by rfl, by decide, .inl (T.xgl 0 rfl)⟩ (fun z b h => T.xm0 z 0 b h) (by exact I.tk) (fun W pn xe tk po => ss_one (s1_expr (act _ _ _ _ _ (by exact tk)))) (fun a oe d pn x hz hf hd => ss_one (s1_ret (se_op or_add oc_add (se_if (st_tru (se_isX rfl (fun z h => T.xc x.cls 1 z h) hz hd hf (fun z h => T.xk0 x.cls 1 z h) (by rfl) (T.fr 0 rfl) (by rfl) (by first | exact Or.inl rfl | exact Or.inr (Or.inl rfl)) (by rfl) (T.xgl 1 rfl))) (se_str) (se_str)) (se_if (st_tru (se_isX rfl (fun z h => T.xc x.cls 2 z h) hz hd hf (fun z h => T.xk0 x.cls 2 z h) (by rfl) (T.fr 0 rfl) (by rfl) (by first | exact Or.inl rfl | exact Or.inr (Or.inl rfl)) (by rfl) (T.xgl 2 rfl))) (se_str) (se_str)))))) (ss_one (s1_ret (se_str)))
theorem okF_law {fd : FuncData} (T : Tx K mg) (F : FunD K "law" "law" (defArgs (top 32)) (defBody (top 32)) (defScope (top 32)) [] [] (He.fAd K ("law", none)) fd) (D__law_cup : Dk P w K mg base (cn K) "_law_cup" 1 1 f__law_cup) (D__law_some : Dk P w K mg base (cn K) "_law_some" 2 2 f__law_some) (L__law_error : ∀ k, Lk P w K mg base (cn K) "_law_error" (k + 1) m__law_error 2) (D__law_to : Dk P w K mg base (cn K) "_law_to" 2 1 f__law_to) (D__law_like : ∀ n, n ≤ recf → Dk P w K mg base (cn K) "_law_like" 2 (2 + n) (f__law_like n)) (D_least_modulus : Dk P w K mg base (cn K) "least_modulus" 2 4 f_least_modulus) (D_is_element : Dk P w K mg base (cn K) "is_element" 2 6 f_is_element) (D_field_size : Dk P w K mg base (cn K) "field_size" 1 6 f_field_size) (D__law_monic : Dk P w K mg base (cn K) "_law_monic" 2 2 f__law_monic) (D__law_is_split : Dk P w K mg base (cn K) "_law_is_split" 2 3 f__law_is_split) (D_is_field : Dk P w K mg base (cn K) "is_field" 1 4 f_is_field) (TB_law : TabB base mg (He.cT K ("law", none)).1 (He.cT K ("law", none)).2) (tu_law : ∀ p ∈ (cn K).T, p.1 = (He.cT K ("law", none)).2 → p.2 = (("law" : Str) ++ (".<locals>." : Str)) ++ ("<lambda>" : Str)) : FnOk P w K mg base (L2.CX P w) 23 (He.fAd K ("law", none)) fd ["script"] (spF (cn K) 1 f_law) := by
  refine fk_ofL (d := ("law", none)) (N := ["script", "cup", "primes", "p", "degree", "good", "field", "size", "due", "asked", "odds", "value", "odd", "words", "many", "one", "low"]) (ps := ["script"]) (m := m_law) (k := 22) rfl rfl rfl F sc_law (by decide) rfl rfl fun A outer s H E I => ?_
  exact ss_cons (sets 1 sc_law.nd (su_v (se_call (by exact I.tk) (by exact D__law_cup) (by exact Room.mono I.room (by first | decide | omega)) (by rfl) (sa_cons (vv 0) (sa_nil))))) (ss_cons (s1_setLc (own := [("p", 3)]) (fun h => t_frz (t_uV h)) rfl I.calm sc_law.nd rfl rfl (sw_true rfl rfl rfl (by kernel_rfl)) (si_range2 (by rfl) (T.fr 5 rfl) (se_int) (se_int)) (by kernel_rfl) (fun _ _ _ _ _ => sgn 3 sc_law.nd) (fun _ _ _ _ _ => st_ifs1 (st_cmp (op_eqD (by exact Room.units I.room)) oc_eq (se_frz (sf_comp (own := [("low", 16)]) rfl I.calm sc_law.nd (si_range2 (by rfl) (T.fr 5 rfl) (se_int) (vv 3)) (by kernel_rfl) (fun _ _ _ _ _ => sgn 16 sc_law.nd) (fun _ _ _ _ _ => st_ifs1 (st_cmp (op_eqD (by exact Room.units I.room)) oc_eq (se_op op_mod oc_mod (se_calTy call_int1 cc_int (by rfl) (T.fr 1 rfl) (by decide +kernel) (sa_cons (vv 3) (sa_nil))) (vv 16)) (se_int) (nomark _))) (fun _ _ _ _ _ => vv 16))) (se_frz (sf_lst (sa_nil))) (nomark _))) (fun _ _ _ _ _ => vv 3)) (ss_cons (s1_for rfl I.po I.calm (si_seq rfl (vv 2)) (sgn 3 sc_law.nd) (ss_one (s1_for rfl I.po I.calm (si_seq rfl (se_frz (sf_comp (own := [("many", 14)]) rfl I.calm sc_law.nd (si_range2 (by rfl) (T.fr 5 rfl) (se_int) (se_int)) (by kernel_rfl) (fun _ _ _ _ _ => sgn 14 sc_law.nd) (fun _ _ _ _ _ => st_ifs1 (st_cmp op_le oc_cmp (se_call (by exact L2.takes0) (by exact D__law_to) (by exact Room.mono I.room (by first | decide | omega)) (by rfl) (sa_cons (vv 3) (sa_cons (vv 14) (sa_nil)))) (se_int) (nomark _))) (fun _ _ _ _ _ => vv 14)))) (sgn 4 sc_law.nd) (ss_cons (sets 5 sc_law.nd (su_v (se_frz (sf_comp (own := [("one", 15)]) rfl I.calm sc_law.nd (si_seq rfl (se_call (by exact I.tk) (by exact D__law_monic) (by exact Room.mono I.room (by first | decide | omega)) (by rfl) (sa_cons (vv 3) (sa_cons (vv 4) (sa_nil))))) (by kernel_rfl) (fun _ _ _ _ _ => sgn 15 sc_law.nd) (fun _ _ _ _ _ => st_ifs1 (st_not (st_tru (se_call (by exact L2.takes0) (by exact D__law_is_split) (by exact Room.mono I.room (by first | decide | omega)) (by rfl) (sa_cons (vv 15) (sa_cons (vv 3) (sa_nil))))))) (fun _ _ _ _ _ => vv 15))))) (ss_cons (sets 5 sc_law.nd (su_v (se_if (st_cmp (op_eqD (by exact Room.units I.room)) oc_eq (vv 4) (se_int) (nomark _)) (se_frz (sf_lst (sa_cons (se_tup (sa_cons (se_int) (sa_cons (se_int) (sa_nil)))) (sa_nil)))) (vv 5)))) (ss_cons (s1_if (st_cmp (op_neD (by exact Room.units I.room)) oc_ne (se_frz (sf_comp (own := [("one", 15)]) rfl I.calm sc_law.nd (si_seq rfl (se_call (by exact I.tk) (by exact D__law_monic) (by exact Room.mono I.room (by first | decide | omega)) (by rfl) (sa_cons (vv 3) (sa_cons (vv 4) (sa_nil))))) (by kernel_rfl) (fun _ _ _ _ _ => sgn 15 sc_law.nd) (fun _ _ _ _ _ => st_ifs1 (st_not (st_tru (se_call (by exact L2.takes0) (by exact (D__law_like recf (Nat.le_refl _))) (by exact Room.mono I.room (by first | decide | omega)) (by rfl) (sa_cons (se_call (by exact L2.takes0) (by exact D_is_field) (by exact Room.mono I.room (by first | decide | omega)) (by rfl) (sa_cons (se_tup (sa_cons (vv 3) (sa_cons (vv 15) (sa_nil)))) (sa_nil))) (sa_cons (se_cmp ((op_inD (by exact hu65 I.room)).or op_in_seq) oc_in (vv 15) (vv 5) (by rfl)) (sa_nil))))))) (fun _ _ _ _ _ => vv 15))) (se_frz (sf_lst (sa_nil))) (nomark _)) (ss_one (s1_ret (se_bl))) (ss_nil)) (ss_cons (sets 6 sc_law.nd (su_v (se_tup (sa_cons (vv 3) (sa_cons (se_call (by exact I.tk) (by exact D__law_some) (by exact Room.mono I.room (by first | decide | omega)) (by rfl) (sa_cons (vv 1) (sa_cons (vv 5) (sa_nil)))) (sa_nil)))))) (ss_cons (sets 7 sc_law.nd (su_v (se_call (by exact I.tk) (by exact D__law_to) (by exact Room.mono I.room (by first | decide | omega)) (by rfl) (sa_cons (vv 3) (sa_cons (vv 4) (sa_nil)))))) (ss_cons (sets 8 sc_law.nd (su_v (se_frz (sf_lst (sa_cons (vv 7) (sa_cons (se_ix rfl (vv 5) (se_int)) (sa_cons (se_bl) (sa_cons (se_bl) (sa_cons (se_bl) (sa_cons (se_bl) (sa_cons (se_bl) (sa_nil)))))))))))) (ss_cons (s1_setLc (own := [("value", 11)]) (fun h => t_frz (t_uV h)) rfl I.calm sc_law.nd rfl rfl (sw_true rfl rfl rfl (by kernel_rfl)) (si_seq rfl (se_tup (sa_cons (se_int) (sa_cons (se_op op_sub oc_sub (vv 7) (se_int)) (sa_cons (vv 7) (sa_cons (se_un un_neg uc_neg (se_int)) (sa_cons (se_bl) (sa_nil)))))))) (by kernel_rfl) (fun _ _ _ _ _ => sgn 11 sc_law.nd) (fun _ _ _ _ _ => st_ifs0) (fun _ _ _ _ _ => se_call (by exact L2.takes0) (by exact D_is_element) (by exact Room.mono I.room (by first | decide | omega)) (by rfl) (sa_cons (vv 6) (sa_cons (vv 11) (sa_nil))))) (ss_one (s1_if (st_not (st_tru (se_call (by exact I.tk) (by exact (D__law_like recf (Nat.le_refl _))) (by exact Room.mono I.room (by first | decide | omega)) (by rfl) (sa_cons (se_op or_add oc_add (se_frz (sf_lst (sa_cons (se_call (by exact I.tk) (by exact D_field_size) (by exact Room.mono I.room (by first | decide | omega)) (by rfl) (sa_cons (vv 6) (sa_nil))) (sa_cons (se_call (by exact I.tk) (by exact D_least_modulus) (by exact Room.mono I.room (by first | decide | omega)) (by rfl) (sa_cons (vv 3) (sa_cons (vv 4) (sa_nil)))) (sa_nil))))) (vv 9)) (sa_cons (vv 8) (sa_nil)))))) (ss_one (s1_ret (se_bl))) (ss_nil))))))))))))) (ss_cons (sets 6 sc_law.nd (su_v (se_tup (sa_cons (se_int) (sa_cons (se_tup (sa_cons (se_int) (sa_cons (se_int) (sa_cons (se_int) (sa_nil))))) (sa_nil)))))) (ss_cons (sets 10 sc_law.nd (su_v (se_frz (sf_lst (sa_cons (se_tup (sa_cons (se_int) (sa_cons (se_tup (sa_cons (se_int) (sa_cons (se_int) (sa_nil)))) (sa_nil)))) (sa_cons (se_tup (sa_cons (se_int) (sa_cons (se_tup (sa_cons (se_int) (sa_cons (se_int) (sa_nil)))) (sa_nil)))) (sa_cons (se_tup (sa_cons (se_int) (sa_cons (se_tup (sa_cons (se_int) (sa_cons (se_int) (sa_nil)))) (sa_nil)))) (sa_cons (se_tup (sa_cons (se_un un_neg uc_neg (se_int)) (sa_cons (se_tup (sa_cons (se_int) (sa_cons (se_int) (sa_nil)))) (sa_nil)))) (sa_cons (se_tup (sa_cons (se_int) (sa_cons (se_tup (sa_cons (se_int) (sa_cons (se_int) (sa_nil)))) (sa_nil)))) (sa_cons (se_tup (sa_cons (se_int) (sa_cons (se_tup (sa_cons (se_int) (sa_cons (se_int) (sa_nil)))) (sa_nil)))) (sa_cons (se_tup (sa_cons (se_bl) (sa_cons (se_tup (sa_cons (se_int) (sa_cons (se_int) (sa_nil)))) (sa_nil)))) (sa_cons (se_tup (sa_cons (se_int) (sa_cons (se_tup (sa_cons (se_int) (sa_cons (se_int) (sa_nil)))) (sa_nil)))) (sa_nil))))))))))))) (ss_cons (sets 10 sc_law.nd (su_v (se_op or_add oc_add (vv 10) (se_frz (sf_lst (sa_cons (se_tup (sa_cons (se_int) (sa_cons (se_tup (sa_cons (se_int) (sa_cons (se_int) (sa_nil)))) (sa_nil)))) (sa_cons (se_tup (sa_cons (se_int) (sa_cons (se_tup (sa_cons (se_int) (sa_cons (se_int) (sa_cons (se_int) (sa_cons (se_tup (sa_nil)) (sa_nil)))))) (sa_nil)))) (sa_cons (se_tup (sa_cons (se_int) (sa_cons (se_tup (sa_cons (se_int) (sa_cons (se_int) (sa_cons (se_int) (sa_nil))))) (sa_nil)))) (sa_cons (se_tup (sa_cons (se_int) (sa_cons (se_tup (sa_cons (se_int) (sa_cons (se_int) (sa_cons (se_int) (sa_nil))))) (sa_nil)))) (sa_cons (se_tup (sa_cons (se_int) (sa_cons (se_tup (sa_cons (se_int) (sa_cons (se_int) (sa_cons (se_int) (sa_nil))))) (sa_nil)))) (sa_nil))))))))))) (ss_cons (sets 10 sc_law.nd (su_v (se_op or_add oc_add (vv 10) (se_frz (sf_lst (sa_cons (se_tup (sa_cons (se_int) (sa_cons (se_tup (sa_cons (se_int) (sa_cons (se_int) (sa_cons (se_int) (sa_cons (se_int) (sa_cons (se_int) (sa_cons (se_int) (sa_cons (se_int) (sa_nil))))))))) (sa_nil)))) (sa_cons (se_tup (sa_cons (se_int) (sa_cons (se_tup (sa_cons (se_int) (sa_cons (se_int) (sa_cons (se_int) (sa_cons (se_int) (sa_cons (se_int) (sa_cons (se_int) (sa_cons (se_int) (sa_nil))))))))) (sa_nil)))) (sa_cons (se_tup (sa_cons (se_int) (sa_cons (se_tup (sa_cons (se_int) (sa_cons (se_int) (sa_cons (se_int) (sa_cons (se_int) (sa_cons (se_int) (sa_nil))))))) (sa_nil)))) (sa_cons (se_tup (sa_cons (se_int) (sa_cons (se_tup (sa_cons (se_int) (sa_cons (se_int) (sa_cons (se_int) (sa_cons (se_int) (sa_nil)))))) (sa_nil)))) (sa_nil)))))))))) (ss_cons (sets 10 sc_law.nd (su_v (se_op or_add oc_add (vv 10) (se_frz (sf_lst (sa_cons (se_tup (sa_cons (se_int) (sa_cons (se_tup (sa_cons (se_int) (sa_cons (se_int) (sa_cons (se_int) (sa_nil))))) (sa_nil)))) (sa_nil))))))) (ss_cons (sets 10 sc_law.nd (su_v (se_op or_add oc_add (vv 10) (se_frz (sf_lst (sa_cons (se_tup (sa_cons (se_int) (sa_cons (se_tup (sa_cons (se_int) (sa_cons (se_int) (sa_cons (se_int) (sa_nil))))) (sa_nil)))) (sa_cons (se_tup (sa_cons (se_int) (sa_cons (se_tup (sa_cons (se_int) (sa_cons (se_int) (sa_cons (se_int) (sa_nil))))) (sa_nil)))) (sa_cons (se_tup (sa_cons (se_int) (sa_cons (se_tup (sa_cons (se_int) (sa_cons (se_un un_neg uc_neg (se_int)) (sa_cons (se_int) (sa_nil))))) (sa_nil)))) (sa_cons (se_tup (sa_cons (se_int) (sa_cons (se_tup (sa_cons (se_int) (sa_cons (se_int) (sa_cons (se_int) (sa_nil))))) (sa_nil)))) (sa_cons (se_tup (sa_cons (se_int) (sa_cons (se_tup (sa_cons (se_bl) (sa_cons (se_int) (sa_cons (se_int) (sa_nil))))) (sa_nil)))) (sa_cons (se_tup (sa_cons (se_int) (sa_cons (se_tup (sa_cons (se_int) (sa_cons (se_int) (sa_cons (se_bl) (sa_nil))))) (sa_nil)))) (sa_nil)))))))))))) (ss_cons (sets 10 sc_law.nd (su_v (se_op or_add oc_add (vv 10) (se_frz (sf_lst (sa_cons (se_tup (sa_cons (se_int) (sa_cons (se_frz (sf_lst (sa_cons (se_int) (sa_cons (se_int) (sa_cons (se_int) (sa_nil)))))) (sa_nil)))) (sa_nil))))))) (ss_cons (sets 10 sc_law.nd (su_v (se_op or_add oc_add (vv 10) (se_frz (sf_lst (sa_cons (se_frz (sf_lst (sa_cons (se_int) (sa_cons (se_tup (sa_cons (se_int) (sa_cons (se_int) (sa_cons (se_int) (sa_nil))))) (sa_nil))))) (sa_cons (se_tup (sa_cons (se_int) (sa_cons (se_tup (sa_cons (se_int) (sa_cons (se_int) (sa_cons (se_int) (sa_nil))))) (sa_cons (se_int) (sa_nil))))) (sa_cons (se_tup (sa_cons (se_int) (sa_nil))) (sa_cons (se_tup (sa_nil)) (sa_cons (se_non) (sa_cons (se_bl) (sa_cons (se_int) (sa_cons (se_int) (sa_cons (se_str) (sa_cons (se_tup (sa_cons (se_int) (sa_cons (se_tup (sa_nil)) (sa_nil)))) (sa_cons (se_tup (sa_cons (se_int) (sa_cons (se_tup (sa_cons (se_int) (sa_nil))) (sa_nil)))) (sa_cons (se_tup (sa_cons (se_int) (sa_cons (se_non) (sa_nil)))) (sa_nil)))))))))))))))))) (ss_cons (sets 10 sc_law.nd (su_v (se_op or_add oc_add (vv 10) (se_frz (sf_lst (sa_cons (se_tup (sa_cons (se_str) (sa_cons (se_tup (sa_cons (se_int) (sa_cons (se_int) (sa_nil)))) (sa_nil)))) (sa_cons (se_tup (sa_cons (se_non) (sa_cons (se_tup (sa_cons (se_int) (sa_cons (se_int) (sa_nil)))) (sa_nil)))) (sa_nil)))))))) (ss_cons (sets 10 sc_law.nd (su_v (se_op or_add oc_add (vv 10) (se_frz (sf_lst (sa_cons (se_tup (sa_cons (se_op or_add oc_add (se_op op_pow oc_pow (se_int) (se_int)) (se_int)) (sa_cons (se_tup (sa_cons (se_int) (sa_cons (se_int) (sa_nil)))) (sa_nil)))) (sa_cons (se_tup (sa_cons (se_int) (sa_cons (se_tup (sa_cons (se_int) (sa_cons (se_op or_add oc_add (se_op op_pow oc_pow (se_int) (se_int)) (se_int)) (sa_nil)))) (sa_nil)))) (sa_nil)))))))) (ss_cons (s1_if (st_cmp (op_neD (by exact Room.units I.room)) oc_ne (se_frz (sf_comp (own := [("odd", 12)]) rfl I.calm sc_law.nd (si_seq rfl (vv 10)) (by kernel_rfl) (fun _ _ _ _ _ => sgn 12 sc_law.nd) (fun _ _ _ _ _ => st_ifs1 (st_not (st_tru (se_call (by exact L2.takes0) (by exact (D__law_like recf (Nat.le_refl _))) (by exact Room.mono I.room (by first | decide | omega)) (by rfl) (sa_cons (se_call (by exact L2.takes0) (by exact D_is_field) (by exact Room.mono I.room (by first | decide | omega)) (by rfl) (sa_cons (vv 12) (sa_nil))) (sa_cons (se_bl) (sa_nil))))))) (fun _ _ _ _ _ => vv 12))) (se_frz (sf_lst (sa_nil))) (nomark _)) (ss_one (s1_ret (se_bl))) (ss_nil)) (ss_cons (s1_for rfl I.po I.calm (si_seq rfl (se_tup (sa_cons (se_int) (sa_cons (se_op op_pow oc_pow (se_int) (se_int)) (sa_cons (se_un un_neg uc_neg (se_op op_pow oc_pow (se_int) (se_int))) (sa_cons (se_non) (sa_cons (se_bl) (sa_cons (se_str) (sa_cons (se_tup (sa_nil)) (sa_cons (se_tup (sa_cons (se_int) (sa_nil))) (sa_cons (se_frz (sf_lst (sa_cons (se_int) (sa_nil)))) (sa_nil)))))))))))) (sgn 11 sc_law.nd) (ss_one (s1_if (st_not (st_tru (se_call (by exact I.tk) (by exact (D__law_like recf (Nat.le_refl _))) (by exact Room.mono I.room (by first | decide | omega)) (by rfl) (sa_cons (se_call (by exact I.tk) (by exact D_is_element) (by exact Room.mono I.room (by first | decide | omega)) (by rfl) (sa_cons (vv 6) (sa_cons (vv 11) (sa_nil)))) (sa_cons (se_bl) (sa_nil)))))) (ss_one (s1_ret (se_bl))) (ss_nil)))) (ss_cons (sets 12 sc_law.nd (su_v (se_call (by exact I.tk) (by exact D__law_some) (by exact Room.mono I.room (by first | decide | omega)) (by rfl) (sa_cons (vv 1) (sa_cons (vv 10) (sa_nil)))))) (ss_cons (sets 13 sc_law.nd (su_v (se_frz (sf_lst (sa_cons (se_lam rfl rfl (by exact I.tk) (by exact L__law_error 6) (by rfl) TB_law rfl (by exact List.mem_of_getElem? (i := 0) rfl) (by exact tu_law) (by exact Room.mono I.room (by decide)) (lamS_by (by kernel_rfl)) rfl (fun _ _ _ _ _ => rfl) (fun A outer s H E f c rl tkl => se_call (by exact tkl) (by exact D_field_size) (by exact Room.mono rl (by first | decide | omega)) (by rfl) (sa_cons (vv 12) (sa_nil)))) (sa_nil)))))) (ss_cons (sets 13 sc_law.nd (su_v (se_op or_add oc_add (vv 13) (se_frz (sf_lst (sa_cons (se_lam rfl rfl (by exact I.tk) (by exact L__law_error 6) (by rfl) TB_law rfl (by exact List.mem_of_getElem? (i := 0) rfl) (by exact tu_law) (by exact Room.mono I.room (by decide)) (lamS_by (by kernel_rfl)) rfl (fun _ _ _ _ _ => rfl) (fun A outer s H E f c rl tkl => se_call (by exact tkl) (by exact D_is_element) (by exact Room.mono rl (by first | decide | omega)) (by rfl) (sa_cons (vv 12) (sa_cons (se_int) (sa_nil))))) (sa_nil))))))) (ss_cons (sets 13 sc_law.nd (su_v (se_op or_add oc_add (vv 13) (se_frz (sf_lst (sa_cons (se_lam rfl rfl (by exact I.tk) (by exact L__law_error 6) (by rfl) TB_law rfl (by exact List.mem_of_getElem? (i := 0) rfl) (by exact tu_law) (by exact Room.mono I.room (by decide)) (lamS_by (by kernel_rfl)) rfl (fun _ _ _ _ _ => rfl) (fun A outer s H E f c rl tkl => se_call (by exact tkl) (by exact D_least_modulus) (by exact Room.mono rl (by first | decide | omega)) (by rfl) (sa_cons (se_int) (sa_cons (se_int) (sa_nil))))) (sa_nil))))))) (ss_cons (sets 13 sc_law.nd (su_v (se_op or_add oc_add (vv 13) (se_frz (sf_comp (own := [("p", 3), ("many", 14)]) rfl I.calm sc_law.nd (si_seq rfl (se_tup (sa_cons (se_tup (sa_cons (se_int) (sa_cons (se_int) (sa_nil)))) (sa_cons (se_tup (sa_cons (se_int) (sa_cons (se_int) (sa_nil)))) (sa_cons (se_tup (sa_cons (se_int) (sa_cons (se_un un_neg uc_neg (se_int)) (sa_nil)))) (sa_cons (se_tup (sa_cons (se_int) (sa_cons (se_int) (sa_nil)))) (sa_cons (se_tup (sa_cons (se_int) (sa_cons (se_int) (sa_nil)))) (sa_cons (se_tup (sa_cons (se_int) (sa_cons (se_int) (sa_nil)))) (sa_nil))))))))) (by kernel_rfl) (fun _ _ _ _ _ => sg_tup I.calm (sgs_cons (sgn 3 sc_law.nd) (sgs_cons (sgn 14 sc_law.nd) (sgs_nil)))) (fun _ _ _ _ _ => st_ifs0) (fun _ _ _ _ _ => se_lam rfl rfl (by exact L2.takes0) (by exact L__law_error 6) (by rfl) TB_law rfl (by exact List.mem_of_getElem? (i := 0) rfl) (by exact tu_law) (by exact Room.mono I.room (by decide)) (lamS_by (by kernel_rfl)) rfl (fun _ _ _ _ _ => rfl) (fun A outer s H E f c rl tkl => se_call (by exact tkl) (by exact D_least_modulus) (by exact Room.mono rl (by first | decide | omega)) (by rfl) (sa_cons (vv 3) (sa_cons (vv 14) (sa_nil)))))))))) (ss_cons (sets 10 sc_law.nd (su_v (se_tup (sa_cons (se_tup (sa_cons (se_bl) (sa_cons (se_int) (sa_nil)))) (sa_cons (se_tup (sa_cons (se_int) (sa_cons (se_bl) (sa_nil)))) (sa_cons (se_tup (sa_cons (se_non) (sa_cons (se_int) (sa_nil)))) (sa_cons (se_tup (sa_cons (se_int) (sa_cons (se_non) (sa_nil)))) (sa_cons (se_tup (sa_cons (se_int) (sa_cons (se_int) (sa_nil)))) (sa_cons (se_tup (sa_cons (se_int) (sa_cons (se_int) (sa_nil)))) (sa_nil)))))))))) (ss_cons (sets 13 sc_law.nd (su_v (se_op or_add oc_add (vv 13) (se_frz (sf_comp (own := [("p", 3), ("many", 14)]) rfl I.calm sc_law.nd (si_seq rfl (vv 10)) (by kernel_rfl) (fun _ _ _ _ _ => sg_tup I.calm (sgs_cons (sgn 3 sc_law.nd) (sgs_cons (sgn 14 sc_law.nd) (sgs_nil)))) (fun _ _ _ _ _ => st_ifs0) (fun _ _ _ _ _ => se_lam rfl rfl (by exact L2.takes0) (by exact L__law_error 6) (by rfl) TB_law rfl (by exact List.mem_of_getElem? (i := 0) rfl) (by exact tu_law) (by exact Room.mono I.room (by decide)) (lamS_by (by kernel_rfl)) rfl (fun _ _ _ _ _ => rfl) (fun A outer s H E f c rl tkl => se_call (by exact tkl) (by exact D_least_modulus) (by exact Room.mono rl (by first | decide | omega)) (by rfl) (sa_cons (vv 3) (sa_cons (vv 14) (sa_nil)))))))))) (ss_one (s1_ret (se_and (se_cmp (op_eqD (by exact Room.units I.room)) oc_eq (vv 13) (se_op or_add oc_add (se_frz (sf_lst (sa_cons (se_str) (sa_cons (se_str) (sa_nil))))) (se_op or_mul oc_mul (se_frz (sf_lst (sa_cons (se_str) (sa_nil)))) (se_int))) (nomark _)) (se_one (se_cmp (op_eqD (by exact Room.units I.room)) oc_eq (se_call (by exact I.tk) (by exact D_least_modulus) (by exact Room.mono I.room (by first | decide | omega)) (by rfl) (sa_cons (se_int) (sa_cons (se_int) (sa_nil)))) (se_tup (sa_cons (se_int) (sa_cons (se_int) (sa_nil)))) (nomark _)))))))))))))))))))))))))))
end
end PV.K00

set_option autoImplicit false
set_option Elab.async false
set_option linter.all false
set_option maxRecDepth 100000
set_option maxHeartbeats 0
namespace PV.K00
open PySem PySem.Spec PyProof.Rows L2 RZ LamX PV
def gints : List He.Fa := [.int "FIELD_SIZE" 32]
def fa : List He.Fa := frees.map He.Fa.free ++ (excs.map He.Fa.glo ++ (fns.map He.Fa.glo ++ (excs.map He.Fa.exc ++ gints)))
def dd (n : Str) (i : Nat) : He.DefD := ⟨(n, none), n, n, defArgs (top i), defBody (top i), defScope (top i), [], []⟩
def fnl : List He.DefD := [dd "is_whole" 6, dd "need_whole" 7, dd "is_tuple_of" 8, dd "power_of" 9, dd "is_prime" 10, dd "digits_of" 11, dd "rest_by" 12, dd "has_small_divisor" 13, dd "is_modulus" 14, dd "is_field" 15, dd "need_field" 16, dd "size_in" 17, dd "field_size" 18, dd "least_modulus" 19, dd "is_element" 20, dd "_law_cup" 22, dd "_law_roll" 23, dd "_law_some" 24, dd "_law_sort" 25, dd "_law_like" 26, dd "_law_to" 27, dd "_law_divides" 28, dd "_law_monic" 29, dd "_law_is_split" 30, dd "_law_error" 31, dd "law" 32]
def tf : List He.Defn := [("law", none)]
def pairsB (K : PySem.W.Frag) (i j : Nat) : Bool := decide (PySem.W.exmOne K (.ref ((cn K).ca i)) (.ref ((cn K).ca j)) = xsub i j) && (decide (PySem.W.kitOne K (.ref ((cn K).ca i)) (.ref ((cn K).ca j)) = xsub i j) && excCB K ((cn K).ca i))
def exb (K : PySem.W.Frag) : Bool := (List.range excs.length).all fun i => (List.range excs.length).all fun j => pairsB K i j
theorem xsub_lt {i j : Nat} {b : Bool} (h : xsub i j = some b) : i < excs.length ∧ j < excs.length := by
  have key : ∀ i, i < excs.length → ∀ r, xtab[i]? = some r → r.length = excs.length := by decide +kernel
  have hl : xtab.length = excs.length := by decide +kernel
  unfold xsub at h
  obtain ⟨r, h1, h2⟩ := Option.bind_eq_some_iff.mp h
  have hi := (List.getElem?_eq_some_iff.mp h1).1
  have hj := (List.getElem?_eq_some_iff.mp h2).1
  have hr := key i (by omega) r h1
  exact ⟨by omega, by omega⟩
theorem exb_at {K : PySem.W.Frag} (e : exb K = true) {i j : Nat} (hi : i < excs.length) (hj : j < excs.length) : PySem.W.exmOne K (.ref ((cn K).ca i)) (.ref ((cn K).ca j)) = xsub i j ∧ PySem.W.kitOne K (.ref ((cn K).ca i)) (.ref ((cn K).ca j)) = xsub i j ∧ ExcC K ((cn K).ca i) := by
  have h1 := List.all_eq_true.mp (List.all_eq_true.mp e i (List.mem_range.mpr hi)) j (List.mem_range.mpr hj)
  unfold pairsB at h1
  simp only [Bool.and_eq_true, decide_eq_true_eq] at h1
  exact ⟨h1.1, h1.2.1, excCB_ok h1.2.2⟩
theorem tx_of {K : PySem.W.Frag} {h : Heap} {mg : Str → Option Value} (X : K.In h) (G : h.Ns mainGlobals mg) (c : He.SaysD fa fnl K) (e : exb K = true) : Tx K mg where
  fr := fun i x h => He.free_ok X G (c.facts (List.mem_append_left _ (List.mem_map_of_mem (List.mem_of_getElem? h))))
  i_FIELD_SIZE := He.int_ok X G (c.facts (List.mem_append_right _ (List.mem_append_right _ (List.mem_append_right _ (List.mem_append_right _ (List.mem_of_getElem? (i := 0) rfl))))))
  xgl := fun i x h => He.glo_ok X G (c.facts (List.mem_append_right _ (List.mem_append_left _ (List.mem_map_of_mem (List.mem_of_getElem? h)))))
  xex := fun i x h => He.exc_ok (c.facts (List.mem_append_right _ (List.mem_append_right _ (List.mem_append_right _ (List.mem_append_left _ (List.mem_map_of_mem (List.mem_of_getElem? h)))))))
  xc := fun i j b h => (exb_at e (xsub_lt h).1 (xsub_lt h).2).2.2
  xm0 := fun i j b h => (exb_at e (xsub_lt h).1 (xsub_lt h).2).1.trans h
  xk0 := fun i j b h => (exb_at e (xsub_lt h).1 (xsub_lt h).2).2.1.trans h
theorem glo_of {K : PySem.W.Frag} {h : Heap} {mg : Str → Option Value} (X : K.In h) (G : h.Ns mainGlobals mg) (c : He.SaysD fa fnl K) (i : Nat) {x : Str} (hx : fns[i]? = some x) : mg x = some (.ref (He.fAd K (x, none))) :=
  He.glo_ok X G (c.facts (List.mem_append_right _ (List.mem_append_right _ (List.mem_append_left _ (List.mem_map_of_mem (List.mem_of_getElem? hx))))))
theorem law_fn {P : Program} {w : World} {K : PySem.W.Frag} {h : Heap} {mg : Str → Option Value} (X : K.In h) (G : h.Ns mainGlobals mg) (c : He.SaysD fa fnl K) (e : exb K = true) :
    ∃ fd : FuncData, (∀ (s : Shared) (u : Value), BindsTo s fd ⟨[u], []⟩ [("script", u)]) ∧ ∀ base : Heap, K.In base → base.Ns mainGlobals mg → (∀ p ∈ tf.map (He.cT K), TabB base mg p.1 p.2) → FnOk P w K mg base (L2.CX P w) 23 (He.fAd K ("law", none)) fd ["script"] (spF (cn K) 1 f_law) := by
  have T := tx_of X G c e
  obtain ⟨fd_is_whole, F_is_whole⟩ := c.def_ 0 (d := dd "is_whole" 6) rfl
  obtain ⟨fd_need_whole, F_need_whole⟩ := c.def_ 1 (d := dd "need_whole" 7) rfl
  obtain ⟨fd_is_tuple_of, F_is_tuple_of⟩ := c.def_ 2 (d := dd "is_tuple_of" 8) rfl
  obtain ⟨fd_power_of, F_power_of⟩ := c.def_ 3 (d := dd "power_of" 9) rfl
  obtain ⟨fd_is_prime, F_is_prime⟩ := c.def_ 4 (d := dd "is_prime" 10) rfl
  obtain ⟨fd_digits_of, F_digits_of⟩ := c.def_ 5 (d := dd "digits_of" 11) rfl
  obtain ⟨fd_rest_by, F_rest_by⟩ := c.def_ 6 (d := dd "rest_by" 12) rfl
  obtain ⟨fd_has_small_divisor, F_has_small_divisor⟩ := c.def_ 7 (d := dd "has_small_divisor" 13) rfl
  obtain ⟨fd_is_modulus, F_is_modulus⟩ := c.def_ 8 (d := dd "is_modulus" 14) rfl
  obtain ⟨fd_is_field, F_is_field⟩ := c.def_ 9 (d := dd "is_field" 15) rfl
  obtain ⟨fd_need_field, F_need_field⟩ := c.def_ 10 (d := dd "need_field" 16) rfl
  obtain ⟨fd_size_in, F_size_in⟩ := c.def_ 11 (d := dd "size_in" 17) rfl
  obtain ⟨fd_field_size, F_field_size⟩ := c.def_ 12 (d := dd "field_size" 18) rfl
  obtain ⟨fd_least_modulus, F_least_modulus⟩ := c.def_ 13 (d := dd "least_modulus" 19) rfl
  obtain ⟨fd_is_element, F_is_element⟩ := c.def_ 14 (d := dd "is_element" 20) rfl
  obtain ⟨fd__law_cup, F__law_cup⟩ := c.def_ 15 (d := dd "_law_cup" 22) rfl
  obtain ⟨fd__law_roll, F__law_roll⟩ := c.def_ 16 (d := dd "_law_roll" 23) rfl
  obtain ⟨fd__law_some, F__law_some⟩ := c.def_ 17 (d := dd "_law_some" 24) rfl
  obtain ⟨fd__law_sort, F__law_sort⟩ := c.def_ 18 (d := dd "_law_sort" 25) rfl
  obtain ⟨fd__law_like, F__law_like⟩ := c.def_ 19 (d := dd "_law_like" 26) rfl
  obtain ⟨fd__law_to, F__law_to⟩ := c.def_ 20 (d := dd "_law_to" 27) rfl
  obtain ⟨fd__law_divides, F__law_divides⟩ := c.def_ 21 (d := dd "_law_divides" 28) rfl
  obtain ⟨fd__law_monic, F__law_monic⟩ := c.def_ 22 (d := dd "_law_monic" 29) rfl
  obtain ⟨fd__law_is_split, F__law_is_split⟩ := c.def_ 23 (d := dd "_law_is_split" 30) rfl
  obtain ⟨fd__law_error, F__law_error⟩ := c.def_ 24 (d := dd "_law_error" 31) rfl
  obtain ⟨fd_law, F_law⟩ := c.def_ 25 (d := dd "law" 32) rfl
  refine ⟨fd_law, fun s u => ?_, fun base KB GB TB => ?_⟩
  · exact FunD.bindsA (ps := ["script"]) F_law (fun _ _ _ _ _ _ us hl => match us, hl with | [_], _ => rfl) s [u] rfl
  have D_is_whole := ok_is_whole (P := P) (w := w) (base := base) T F_is_whole (glo_of X G c 0 rfl) 
  have D_need_whole := ok_need_whole (P := P) (w := w) (base := base) T F_need_whole (glo_of X G c 1 rfl) D_is_whole
  have D_is_tuple_of := ok_is_tuple_of (P := P) (w := w) (base := base) T F_is_tuple_of (glo_of X G c 2 rfl) 
  have D_power_of := ok_power_of (P := P) (w := w) (base := base) T F_power_of (glo_of X G c 3 rfl) 
  have D_is_prime := ok_is_prime (P := P) (w := w) (base := base) T F_is_prime (glo_of X G c 4 rfl) 
  have D_digits_of := ok_digits_of (P := P) (w := w) (base := base) T F_digits_of (glo_of X G c 5 rfl) 
  have D_rest_by := ok_rest_by (P := P) (w := w) (base := base) T F_rest_by (glo_of X G c 6 rfl) 
  have D_has_small_divisor := ok_has_small_divisor (P := P) (w := w) (base := base) T F_has_small_divisor (glo_of X G c 7 rfl) D_power_of D_digits_of D_rest_by
  have D_is_modulus := ok_is_modulus (P := P) (w := w) (base := base) T F_is_modulus (glo_of X G c 8 rfl) D_has_small_divisor D_is_tuple_of D_power_of D_is_whole
  have D_is_field := ok_is_field (P := P) (w := w) (base := base) T F_is_field (glo_of X G c 9 rfl) D_is_modulus D_is_tuple_of D_is_whole D_is_prime
  have D_need_field := ok_need_field (P := P) (w := w) (base := base) T F_need_field (glo_of X G c 10 rfl) D_is_field
  have D_size_in := ok_size_in (P := P) (w := w) (base := base) T F_size_in (glo_of X G c 11 rfl) D_power_of
  have D_field_size := ok_field_size (P := P) (w := w) (base := base) T F_field_size (glo_of X G c 12 rfl) D_need_field D_size_in
  have D_least_modulus := ok_least_modulus (P := P) (w := w) (base := base) T F_least_modulus (glo_of X G c 13 rfl) D_need_whole D_power_of D_is_modulus D_is_prime D_is_whole D_digits_of
  have D_is_element := ok_is_element (P := P) (w := w) (base := base) T F_is_element (glo_of X G c 14 rfl) D_need_field D_is_whole D_size_in
  have D__law_cup := ok__law_cup (P := P) (w := w) (base := base) T F__law_cup (glo_of X G c 15 rfl) 
  have D__law_roll := ok__law_roll (P := P) (w := w) (base := base) T F__law_roll (glo_of X G c 16 rfl) 
  have D__law_some := ok__law_some (P := P) (w := w) (base := base) T F__law_some (glo_of X G c 17 rfl) D__law_roll
  have D__law_sort := ok__law_sort (P := P) (w := w) (base := base) T F__law_sort (glo_of X G c 18 rfl) 
  have D__law_like := ok__law_like (P := P) (w := w) (base := base) T F__law_like (glo_of X G c 19 rfl) D__law_sort
  have D__law_to := ok__law_to (P := P) (w := w) (base := base) T F__law_to (glo_of X G c 20 rfl) 
  have D__law_divides := ok__law_divides (P := P) (w := w) (base := base) T F__law_divides (glo_of X G c 21 rfl) 
  have D__law_monic := ok__law_monic (P := P) (w := w) (base := base) T F__law_monic (glo_of X G c 22 rfl) D__law_to
  have D__law_is_split := ok__law_is_split (P := P) (w := w) (base := base) T F__law_is_split (glo_of X G c 23 rfl) D__law_monic D__law_divides
  have L__law_error := ok__law_error (P := P) (w := w) (base := base) T F__law_error (glo_of X G c 24 rfl) 
  exact okF_law T F_law D__law_cup D__law_some L__law_error D__law_to (fun n _ => D__law_like n) D_least_modulus D_is_element D_field_size D__law_monic D__law_is_split D_is_field (TB _ (List.mem_map_of_mem (List.mem_of_getElem? (i := 0) rfl))) (by intro p hp _; rw [List.mem_singleton.mp hp])
def loose0 : List Str := ["PoleError", "InvalidField", "InvalidNumber", "FIELD_SIZE", "is_whole", "need_whole", "is_tuple_of", "power_of", "is_prime", "digits_of", "rest_by", "has_small_divisor", "is_modulus", "is_field", "need_field", "size_in", "field_size", "least_modulus", "is_element", "_law_cup", "_law_roll", "_law_some", "_law_sort", "_law_like", "_law_to", "_law_divides", "_law_monic", "_law_is_split", "_law_error"]
def loose : List Str := loose0
abbrev Rr : PySem.W.OpenRow := PySem.W.OpenLaw.row PySem.Challenge.rw_polerooms_k00_whole_fields
abbrev hk : PySem.W.Hook := He.hookX 5 fa fnl [] tf exb
def ob (s : PySem.W.SharedT) : He.AlX := He.obsX 5 fa fnl [] tf exb (HandSHeadRun.getT s)
theorem ob_eq (s : PySem.W.SharedT) : ob s = hk.obs s.abs := He.obsX_eq (HandSHeadRun.getT_eq s)
theorem run (w : World) : HandSHeadRun.RunEq Rr (PySem.W.view Rr.prog [32]) hk ob 6000 loose w := by
  intro os
  kernel_rfl
end PV.K00

set_option autoImplicit false
set_option Elab.async false
set_option linter.all false
set_option maxRecDepth 100000
set_option maxHeartbeats 4000000
namespace PV.K00
open PV PySem L2
theorem atI0 {α : Type} (x y : α) : atI [x, y] 0 = some x := rfl
theorem atI1 {α : Type} (x y : α) : atI [x, y] 1 = some y := rfl
theorem ixN0 : ixN 2 0 = some 0 := rfl
theorem ixN1 : ixN 2 1 = some 1 := rfl
theorem roll_ok (a b m : Int) (ha : 0 ≤ a) (hb : 0 ≤ b) (hb2 : b < 4294967296) (hm : 0 < m) (hm2 : m < 1073741824) :
    ∃ r a' b', f__law_roll [.ref 0, .int m] [[.int a, .int b]] = .ok (.int r) [[.int a', .int b']] ∧ 0 ≤ r ∧ r < m ∧ 0 ≤ a' ∧ 0 ≤ b' ∧ b' < 4294967296 := by
  by_cases h : 0 < a
  · refine ⟨a % m, a / m, b, ?_, Int.emod_nonneg _ (by omega), Int.emod_lt_of_pos _ hm, Int.ediv_nonneg ha (by omega), hb, hb2⟩
    simp [f__law_roll, m__law_roll_0_0, m__law_roll_0_1, m__law_roll_0, m__law_roll_1, m__law_roll_2, m__law_roll_3, m__law_roll, runF, sSeq, sIf, sSet, sRet, sRetN, sSkip, sExpr, sFrz, sApp, sPop, sPutO, kPutO, sPutR, kPutR, sPar, sAsgT, sFor, forL, loopEnd, tgE, setEnv, ownAt, R.toS, R.bind, eVar, eC, eOp, eUn, eNot, notD, eAnd, eOr, eIf, eChain, eL, eR, eTup, kTup, fLst, kLst, fCal, fComp, kComp, compL, cYes, cE, cTru, truth, cAnd, cOr, cNot, asB, eCal, aCons, aNil, eCall, kCall, eIxO, eLenO, gIx, gCmp, gInt, gAbs, gLen, items, gList, gMod, gDiv, divOk, gMul, mulOk, gAdd, gDif, gPow, gNeg, gIsN, gNotN, isNon, eIsi, kIsi, isCl, uV, uO, iSeq, kIt, iR1, iR2, kR1, kR2, inR, wipeE, h, hm, hm2, atI0, ixN0]
  · have ha0 : a = 0 := by omega
    subst ha0
    have hc : 0 ≤ (b * 30893 + 8111) % 2147483543 ∧ (b * 30893 + 8111) % 2147483543 < 2147483543 := by omega
    refine ⟨((b * 30893 + 8111) % 2147483543 * ((b * 30893 + 8111) % 2147483543 + 241)) % 2147483587 / 827 % m, 0, (b * 30893 + 8111) % 2147483543, ?_, Int.emod_nonneg _ (by omega), Int.emod_lt_of_pos _ hm, by omega, hc.1, by omega⟩
    generalize hq : (b * 30893 + 8111) % 2147483543 = q at hc
    have h1 : q.natAbs < 18446744073709551616 := by omega
    simp [f__law_roll, m__law_roll_0_0, m__law_roll_0_1, m__law_roll_0, m__law_roll_1, m__law_roll_2, m__law_roll_3, m__law_roll, runF, sSeq, sIf, sSet, sRet, sRetN, sSkip, sExpr, sFrz, sApp, sPop, sPutO, kPutO, sPutR, kPutR, sPar, sAsgT, sFor, forL, loopEnd, tgE, setEnv, ownAt, R.toS, R.bind, eVar, eC, eOp, eUn, eNot, notD, eAnd, eOr, eIf, eChain, eL, eR, eTup, kTup, fLst, kLst, fCal, fComp, kComp, compL, cYes, cE, cTru, truth, cAnd, cOr, cNot, asB, eCal, aCons, aNil, eCall, kCall, eIxO, eLenO, gIx, gCmp, gInt, gAbs, gLen, items, gList, gMod, gDiv, divOk, gMul, mulOk, gAdd, gDif, gPow, gNeg, gIsN, gNotN, isNon, eIsi, kIsi, isCl, uV, uO, iSeq, kIt, iR1, iR2, kR1, kR2, inR, wipeE, hm, atI0, atI1, ixN0, ixN1, hq, h1]
theorem some_ok (a b : Int) (xs : List D) (ha : 0 ≤ a) (hb : 0 ≤ b) (hb2 : b < 4294967296) (hx : 0 < xs.length) (hx2 : xs.length < 1073741824) :
    ∃ d a' b', f__law_some [.ref 0, .lst xs] [[.int a, .int b]] = .ok d [[.int a', .int b']] ∧ d ∈ xs ∧ 0 ≤ a' ∧ 0 ≤ b' ∧ b' < 4294967296 := by
  obtain ⟨r, a', b', h, h1, h2, h3, h4, h5⟩ := roll_ok a b xs.length ha hb hb2 (by omega) (by omega)
  have hr : r.toNat < xs.length := by omega
  refine ⟨xs[r.toNat], a', b', ?_, List.getElem_mem hr, h3, h4, h5⟩
  have hi : atI xs r = some xs[r.toNat] := by
    unfold atI ixN
    rw [if_pos h1, if_pos h2]
    simp [hr]
  simp [f__law_some, m__law_some_0, m__law_some, runF, sSeq, sIf, sSet, sRet, sRetN, sSkip, sExpr, sFrz, sApp, sPop, sPutO, kPutO, sPutR, kPutR, sPar, sAsgT, sFor, forL, loopEnd, tgE, setEnv, ownAt, R.toS, R.bind, eVar, eC, eOp, eUn, eNot, notD, eAnd, eOr, eIf, eChain, eL, eR, eTup, kTup, fLst, kLst, fCal, fComp, kComp, compL, cYes, cE, cTru, truth, cAnd, cOr, cNot, asB, eCal, aCons, aNil, eCall, kCall, eIxO, eLenO, gIx, gCmp, gInt, gAbs, gLen, items, gList, gMod, gDiv, divOk, gMul, mulOk, gAdd, gDif, gPow, gNeg, gIsN, gNotN, isNon, eIsi, kIsi, isCl, uV, uO, iSeq, kIt, iR1, iR2, kR1, kR2, inR, wipeE, h, hi]
theorem cup_ok (ns : List Int) (hl : ns.length ≤ 63) : ∃ a b : Int, f__law_cup [.scr ns] [] = .ok (.ref 0) [[.int a, .int b]] ∧ 0 ≤ a ∧ 0 ≤ b ∧ b < 4294967296 := by
  have hs : ns.length + 1 ≤ sizeLine := by rw [sizeLine_eq]; omega
  have hs1 : 1 ≤ sizeLine := by rw [sizeLine_eq]; decide
  have hs2 : 2 ≤ sizeLine := by rw [sizeLine_eq]; decide
  obtain ⟨z, hz⟩ : ∃ z, atI (ns.map D.int ++ [D.int 0]) 0 = some (.int z) := by
    cases ns with
    | nil => exact ⟨0, rfl⟩
    | cons n t => exact ⟨n, atI_nat (j := 0) (by simp)⟩
  have hc0 : ∃ c : Int, (if z < 0 then -z else z) = c ∧ 0 ≤ c := ⟨_, rfl, by split <;> omega⟩
  obtain ⟨c, hc, hc0⟩ := hc0
  refine ⟨if 1000000000000000000 ≤ c then c / 79 else 0, (c * 307 + 4409) % 2073333181 + 173, ?_, ?_, by omega, by omega⟩
  · by_cases hb : 1000000000000000000 ≤ c <;> simp [f__law_cup, m__law_cup_0, m__law_cup_1, m__law_cup, runF, sSeq, sIf, sSet, sRet, sRetN, sSkip, sExpr, sFrz, sApp, sPop, sPutO, kPutO, sPutR, kPutR, sPar, sAsgT, sFor, forL, loopEnd, tgE, setEnv, ownAt, R.toS, R.bind, eVar, eC, eOp, eUn, eNot, notD, eAnd, eOr, eIf, eChain, eL, eR, eTup, kTup, fLst, kLst, fCal, fComp, kComp, compL, cYes, cE, cTru, truth, cAnd, cOr, cNot, asB, eCal, aCons, aNil, eCall, kCall, eIxO, eLenO, gIx, gCmp, gInt, gAbs, gLen, items, gList, gMod, gDiv, divOk, gMul, mulOk, gAdd, gDif, gPow, gNeg, gIsN, gNotN, isNon, eIsi, kIsi, isCl, uV, uO, iSeq, kIt, iR1, iR2, kR1, kR2, inR, wipeE, hs, hs1, hs2, hz, hc, hb]
  · split
    · omega
    · omega
end PV.K00
namespace PV.K00
open PV PySem L2
/-! ### loops -/
theorem forL_inv {tg : Tg} {b : MS} {Inv : Env → Sto → Prop} : ∀ (ds : List D), (∀ d ∈ ds, ∀ env S, Inv env S → ∃ env1, tgE tg d env = some env1 ∧ ∃ e' S', b env1 S = .nx e' S' ∧ Inv e' S') → ∀ env S, Inv env S → ∃ e' S', forL tg b ds env S = .nx e' S' ∧ Inv e' S'
  | [], _, env, S, i => ⟨env, S, rfl, i⟩
  | d :: ds, h, env, S, i => by
    obtain ⟨env1, h1, e', S', h2, i'⟩ := h d List.mem_cons_self env S i
    obtain ⟨e2, S2, h3, i2⟩ := forL_inv ds (fun d hd => h d (List.mem_cons_of_mem _ hd)) e' S' i'
    exact ⟨e2, S2, by unfold forL; rw [h1]; simp only [h2, loopEnd]; exact h3, i2⟩
/-- what is kept of a frame -/
def nrm (r : RS) : Option (Sl × Sl × Sl × Sl × Nat × Sto) := match r with
  | .nx (a :: b :: c :: d :: t) S => some (a, b, c, d, t.length, S)
  | _ => none
theorem nrm_ok {r : RS} {a b c d : Sl} {n : Nat} {S : Sto} (h : nrm r = some (a, b, c, d, n, S)) : ∃ t, r = .nx (a :: b :: c :: d :: t) S ∧ t.length = n := by
  unfold nrm at h
  split at h
  · cases h
    exact ⟨_, rfl, rfl⟩
  · cases h
theorem len13 {α : Type} : ∀ {t : List α}, t.length = 13 → ∃ x1 x2 x3 x4 x5 x6 x7 x8 x9 x10 x11 x12 x13, t = [x1, x2, x3, x4, x5, x6, x7, x8, x9, x10, x11, x12, x13]
  | [x1, x2, x3, x4, x5, x6, x7, x8, x9, x10, x11, x12, x13], _ => ⟨x1, x2, x3, x4, x5, x6, x7, x8, x9, x10, x11, x12, x13, rfl⟩
theorem seq_assoc (a b c : MS) : sSeq (sSeq a b) c = sSeq a (sSeq b c) := by
  funext env S
  unfold sSeq
  cases a env S <;> rfl
theorem seq_nx {a b : MS} {env e : Env} {S S1 : Sto} (h : a env S = .nx e S1) : sSeq a b env S = b e S1 := by
  unfold sSeq
  rw [h]
def primesD : List D := [2, 3, 5, 7, 11, 13, 17, 19, 23, 29, 31].map fun (n : Int) => D.int n
def degsD (p : Int) : List D := if p = 2 then [.int 1, .int 2, .int 3, .int 4, .int 5] else if p = 3 then [.int 1, .int 2, .int 3] else if p = 5 then [.int 1, .int 2] else [.int 1]
/-- the list of moduli that the law finds, by evaluation -/
def goodD (p d : Int) : List D := match f__law_monic [.int p, .int d] [] with
  | .ok (.lst xs) _ => if d = 1 then [.tup [.int 0, .int 1]] else xs.filter fun x => match f__law_is_split [x, .int p] [] with
    | .ok (.bl b) _ => !b
    | _ => false
  | _ => []
abbrev env3 (s : Sl) (x0 x1 x2 x3 x4 x5 x6 x7 x8 x9 x10 x11 x12 x13 : Sl) : Env := [s, .v (.ref 0), .v (.lst primesD), x0, x1, x2, x3, x4, x5, x6, x7, x8, x9, x10, x11, x12, x13]
def s012 : MS := sSeq m_law_2_0_0 (sSeq m_law_2_0_1 m_law_2_0_2)
def s4567 : MS := sSeq m_law_2_0_4 (sSeq m_law_2_0_5 (sSeq m_law_2_0_6 m_law_2_0_7))
theorem A_2_1 (s x2 x3 x4 x5 x6 x7 x8 x9 x10 x11 x12 x13 : Sl) (S : Sto) : s012 (env3 s (.v (.int 2)) (.v (.int 1)) x2 x3 x4 x5 x6 x7 x8 x9 x10 x11 x12 x13) S = .nx (env3 s (.v (.int 2)) (.v (.int 1)) (.v (.lst (goodD 2 1))) x3 x4 x5 x6 x7 x8 x9 x10 x11 x12 x13) S := by kernel_rfl
theorem B_2_1 (s x4 x5 x6 x7 x8 x9 x10 x11 x12 x13 : Sl) (S : Sto) : (goodD 2 1).map (fun g => nrm (s4567 (env3 s (.v (.int 2)) (.v (.int 1)) (.v (.lst (goodD 2 1))) (.v (.tup [.int 2, g])) x4 x5 x6 x7 x8 x9 x10 x11 x12 x13) S)) = List.replicate (goodD 2 1).length (some (s, .v (.ref 0), .v (.lst primesD), .v (.int 2), 13, S)) := by kernel_rfl
theorem C_2_1 : 0 < (goodD 2 1).length ∧ (goodD 2 1).length < 1000 := by decide +kernel
theorem A_2_2 (s x2 x3 x4 x5 x6 x7 x8 x9 x10 x11 x12 x13 : Sl) (S : Sto) : s012 (env3 s (.v (.int 2)) (.v (.int 2)) x2 x3 x4 x5 x6 x7 x8 x9 x10 x11 x12 x13) S = .nx (env3 s (.v (.int 2)) (.v (.int 2)) (.v (.lst (goodD 2 2))) x3 x4 x5 x6 x7 x8 x9 x10 x11 x12 x13) S := by kernel_rfl
theorem B_2_2 (s x4 x5 x6 x7 x8 x9 x10 x11 x12 x13 : Sl) (S : Sto) : (goodD 2 2).map (fun g => nrm (s4567 (env3 s (.v (.int 2)) (.v (.int 2)) (.v (.lst (goodD 2 2))) (.v (.tup [.int 2, g])) x4 x5 x6 x7 x8 x9 x10 x11 x12 x13) S)) = List.replicate (goodD 2 2).length (some (s, .v (.ref 0), .v (.lst primesD), .v (.int 2), 13, S)) := by kernel_rfl
theorem C_2_2 : 0 < (goodD 2 2).length ∧ (goodD 2 2).length < 1000 := by decide +kernel
theorem A_2_3 (s x2 x3 x4 x5 x6 x7 x8 x9 x10 x11 x12 x13 : Sl) (S : Sto) : s012 (env3 s (.v (.int 2)) (.v (.int 3)) x2 x3 x4 x5 x6 x7 x8 x9 x10 x11 x12 x13) S = .nx (env3 s (.v (.int 2)) (.v (.int 3)) (.v (.lst (goodD 2 3))) x3 x4 x5 x6 x7 x8 x9 x10 x11 x12 x13) S := by kernel_rfl
theorem B_2_3 (s x4 x5 x6 x7 x8 x9 x10 x11 x12 x13 : Sl) (S : Sto) : (goodD 2 3).map (fun g => nrm (s4567 (env3 s (.v (.int 2)) (.v (.int 3)) (.v (.lst (goodD 2 3))) (.v (.tup [.int 2, g])) x4 x5 x6 x7 x8 x9 x10 x11 x12 x13) S)) = List.replicate (goodD 2 3).length (some (s, .v (.ref 0), .v (.lst primesD), .v (.int 2), 13, S)) := by kernel_rfl
theorem C_2_3 : 0 < (goodD 2 3).length ∧ (goodD 2 3).length < 1000 := by decide +kernel
theorem A_2_4 (s x2 x3 x4 x5 x6 x7 x8 x9 x10 x11 x12 x13 : Sl) (S : Sto) : s012 (env3 s (.v (.int 2)) (.v (.int 4)) x2 x3 x4 x5 x6 x7 x8 x9 x10 x11 x12 x13) S = .nx (env3 s (.v (.int 2)) (.v (.int 4)) (.v (.lst (goodD 2 4))) x3 x4 x5 x6 x7 x8 x9 x10 x11 x12 x13) S := by kernel_rfl
theorem B_2_4 (s x4 x5 x6 x7 x8 x9 x10 x11 x12 x13 : Sl) (S : Sto) : (goodD 2 4).map (fun g => nrm (s4567 (env3 s (.v (.int 2)) (.v (.int 4)) (.v (.lst (goodD 2 4))) (.v (.tup [.int 2, g])) x4 x5 x6 x7 x8 x9 x10 x11 x12 x13) S)) = List.replicate (goodD 2 4).length (some (s, .v (.ref 0), .v (.lst primesD), .v (.int 2), 13, S)) := by kernel_rfl
theorem C_2_4 : 0 < (goodD 2 4).length ∧ (goodD 2 4).length < 1000 := by decide +kernel
theorem A_2_5 (s x2 x3 x4 x5 x6 x7 x8 x9 x10 x11 x12 x13 : Sl) (S : Sto) : s012 (env3 s (.v (.int 2)) (.v (.int 5)) x2 x3 x4 x5 x6 x7 x8 x9 x10 x11 x12 x13) S = .nx (env3 s (.v (.int 2)) (.v (.int 5)) (.v (.lst (goodD 2 5))) x3 x4 x5 x6 x7 x8 x9 x10 x11 x12 x13) S := by kernel_rfl
theorem B_2_5 (s x4 x5 x6 x7 x8 x9 x10 x11 x12 x13 : Sl) (S : Sto) : (goodD 2 5).map (fun g => nrm (s4567 (env3 s (.v (.int 2)) (.v (.int 5)) (.v (.lst (goodD 2 5))) (.v (.tup [.int 2, g])) x4 x5 x6 x7 x8 x9 x10 x11 x12 x13) S)) = List.replicate (goodD 2 5).length (some (s, .v (.ref 0), .v (.lst primesD), .v (.int 2), 13, S)) := by kernel_rfl
theorem C_2_5 : 0 < (goodD 2 5).length ∧ (goodD 2 5).length < 1000 := by decide +kernel
theorem A_3_1 (s x2 x3 x4 x5 x6 x7 x8 x9 x10 x11 x12 x13 : Sl) (S : Sto) : s012 (env3 s (.v (.int 3)) (.v (.int 1)) x2 x3 x4 x5 x6 x7 x8 x9 x10 x11 x12 x13) S = .nx (env3 s (.v (.int 3)) (.v (.int 1)) (.v (.lst (goodD 3 1))) x3 x4 x5 x6 x7 x8 x9 x10 x11 x12 x13) S := by kernel_rfl
theorem B_3_1 (s x4 x5 x6 x7 x8 x9 x10 x11 x12 x13 : Sl) (S : Sto) : (goodD 3 1).map (fun g => nrm (s4567 (env3 s (.v (.int 3)) (.v (.int 1)) (.v (.lst (goodD 3 1))) (.v (.tup [.int 3, g])) x4 x5 x6 x7 x8 x9 x10 x11 x12 x13) S)) = List.replicate (goodD 3 1).length (some (s, .v (.ref 0), .v (.lst primesD), .v (.int 3), 13, S)) := by kernel_rfl
theorem C_3_1 : 0 < (goodD 3 1).length ∧ (goodD 3 1).length < 1000 := by decide +kernel
theorem A_3_2 (s x2 x3 x4 x5 x6 x7 x8 x9 x10 x11 x12 x13 : Sl) (S : Sto) : s012 (env3 s (.v (.int 3)) (.v (.int 2)) x2 x3 x4 x5 x6 x7 x8 x9 x10 x11 x12 x13) S = .nx (env3 s (.v (.int 3)) (.v (.int 2)) (.v (.lst (goodD 3 2))) x3 x4 x5 x6 x7 x8 x9 x10 x11 x12 x13) S := by kernel_rfl
theorem B_3_2 (s x4 x5 x6 x7 x8 x9 x10 x11 x12 x13 : Sl) (S : Sto) : (goodD 3 2).map (fun g => nrm (s4567 (env3 s (.v (.int 3)) (.v (.int 2)) (.v (.lst (goodD 3 2))) (.v (.tup [.int 3, g])) x4 x5 x6 x7 x8 x9 x10 x11 x12 x13) S)) = List.replicate (goodD 3 2).length (some (s, .v (.ref 0), .v (.lst primesD), .v (.int 3), 13, S)) := by kernel_rfl
theorem C_3_2 : 0 < (goodD 3 2).length ∧ (goodD 3 2).length < 1000 := by decide +kernel
theorem A_3_3 (s x2 x3 x4 x5 x6 x7 x8 x9 x10 x11 x12 x13 : Sl) (S : Sto) : s012 (env3 s (.v (.int 3)) (.v (.int 3)) x2 x3 x4 x5 x6 x7 x8 x9 x10 x11 x12 x13) S = .nx (env3 s (.v (.int 3)) (.v (.int 3)) (.v (.lst (goodD 3 3))) x3 x4 x5 x6 x7 x8 x9 x10 x11 x12 x13) S := by kernel_rfl
theorem B_3_3 (s x4 x5 x6 x7 x8 x9 x10 x11 x12 x13 : Sl) (S : Sto) : (goodD 3 3).map (fun g => nrm (s4567 (env3 s (.v (.int 3)) (.v (.int 3)) (.v (.lst (goodD 3 3))) (.v (.tup [.int 3, g])) x4 x5 x6 x7 x8 x9 x10 x11 x12 x13) S)) = List.replicate (goodD 3 3).length (some (s, .v (.ref 0), .v (.lst primesD), .v (.int 3), 13, S)) := by kernel_rfl
theorem C_3_3 : 0 < (goodD 3 3).length ∧ (goodD 3 3).length < 1000 := by decide +kernel
theorem A_5_1 (s x2 x3 x4 x5 x6 x7 x8 x9 x10 x11 x12 x13 : Sl) (S : Sto) : s012 (env3 s (.v (.int 5)) (.v (.int 1)) x2 x3 x4 x5 x6 x7 x8 x9 x10 x11 x12 x13) S = .nx (env3 s (.v (.int 5)) (.v (.int 1)) (.v (.lst (goodD 5 1))) x3 x4 x5 x6 x7 x8 x9 x10 x11 x12 x13) S := by kernel_rfl
theorem B_5_1 (s x4 x5 x6 x7 x8 x9 x10 x11 x12 x13 : Sl) (S : Sto) : (goodD 5 1).map (fun g => nrm (s4567 (env3 s (.v (.int 5)) (.v (.int 1)) (.v (.lst (goodD 5 1))) (.v (.tup [.int 5, g])) x4 x5 x6 x7 x8 x9 x10 x11 x12 x13) S)) = List.replicate (goodD 5 1).length (some (s, .v (.ref 0), .v (.lst primesD), .v (.int 5), 13, S)) := by kernel_rfl
theorem C_5_1 : 0 < (goodD 5 1).length ∧ (goodD 5 1).length < 1000 := by decide +kernel
theorem A_5_2 (s x2 x3 x4 x5 x6 x7 x8 x9 x10 x11 x12 x13 : Sl) (S : Sto) : s012 (env3 s (.v (.int 5)) (.v (.int 2)) x2 x3 x4 x5 x6 x7 x8 x9 x10 x11 x12 x13) S = .nx (env3 s (.v (.int 5)) (.v (.int 2)) (.v (.lst (goodD 5 2))) x3 x4 x5 x6 x7 x8 x9 x10 x11 x12 x13) S := by kernel_rfl
theorem B_5_2 (s x4 x5 x6 x7 x8 x9 x10 x11 x12 x13 : Sl) (S : Sto) : (goodD 5 2).map (fun g => nrm (s4567 (env3 s (.v (.int 5)) (.v (.int 2)) (.v (.lst (goodD 5 2))) (.v (.tup [.int 5, g])) x4 x5 x6 x7 x8 x9 x10 x11 x12 x13) S)) = List.replicate (goodD 5 2).length (some (s, .v (.ref 0), .v (.lst primesD), .v (.int 5), 13, S)) := by kernel_rfl
theorem C_5_2 : 0 < (goodD 5 2).length ∧ (goodD 5 2).length < 1000 := by decide +kernel
theorem A_7_1 (s x2 x3 x4 x5 x6 x7 x8 x9 x10 x11 x12 x13 : Sl) (S : Sto) : s012 (env3 s (.v (.int 7)) (.v (.int 1)) x2 x3 x4 x5 x6 x7 x8 x9 x10 x11 x12 x13) S = .nx (env3 s (.v (.int 7)) (.v (.int 1)) (.v (.lst (goodD 7 1))) x3 x4 x5 x6 x7 x8 x9 x10 x11 x12 x13) S := by kernel_rfl
theorem B_7_1 (s x4 x5 x6 x7 x8 x9 x10 x11 x12 x13 : Sl) (S : Sto) : (goodD 7 1).map (fun g => nrm (s4567 (env3 s (.v (.int 7)) (.v (.int 1)) (.v (.lst (goodD 7 1))) (.v (.tup [.int 7, g])) x4 x5 x6 x7 x8 x9 x10 x11 x12 x13) S)) = List.replicate (goodD 7 1).length (some (s, .v (.ref 0), .v (.lst primesD), .v (.int 7), 13, S)) := by kernel_rfl
theorem C_7_1 : 0 < (goodD 7 1).length ∧ (goodD 7 1).length < 1000 := by decide +kernel
theorem A_11_1 (s x2 x3 x4 x5 x6 x7 x8 x9 x10 x11 x12 x13 : Sl) (S : Sto) : s012 (env3 s (.v (.int 11)) (.v (.int 1)) x2 x3 x4 x5 x6 x7 x8 x9 x10 x11 x12 x13) S = .nx (env3 s (.v (.int 11)) (.v (.int 1)) (.v (.lst (goodD 11 1))) x3 x4 x5 x6 x7 x8 x9 x10 x11 x12 x13) S := by kernel_rfl
theorem B_11_1 (s x4 x5 x6 x7 x8 x9 x10 x11 x12 x13 : Sl) (S : Sto) : (goodD 11 1).map (fun g => nrm (s4567 (env3 s (.v (.int 11)) (.v (.int 1)) (.v (.lst (goodD 11 1))) (.v (.tup [.int 11, g])) x4 x5 x6 x7 x8 x9 x10 x11 x12 x13) S)) = List.replicate (goodD 11 1).length (some (s, .v (.ref 0), .v (.lst primesD), .v (.int 11), 13, S)) := by kernel_rfl
theorem C_11_1 : 0 < (goodD 11 1).length ∧ (goodD 11 1).length < 1000 := by decide +kernel
theorem A_13_1 (s x2 x3 x4 x5 x6 x7 x8 x9 x10 x11 x12 x13 : Sl) (S : Sto) : s012 (env3 s (.v (.int 13)) (.v (.int 1)) x2 x3 x4 x5 x6 x7 x8 x9 x10 x11 x12 x13) S = .nx (env3 s (.v (.int 13)) (.v (.int 1)) (.v (.lst (goodD 13 1))) x3 x4 x5 x6 x7 x8 x9 x10 x11 x12 x13) S := by kernel_rfl
theorem B_13_1 (s x4 x5 x6 x7 x8 x9 x10 x11 x12 x13 : Sl) (S : Sto) : (goodD 13 1).map (fun g => nrm (s4567 (env3 s (.v (.int 13)) (.v (.int 1)) (.v (.lst (goodD 13 1))) (.v (.tup [.int 13, g])) x4 x5 x6 x7 x8 x9 x10 x11 x12 x13) S)) = List.replicate (goodD 13 1).length (some (s, .v (.ref 0), .v (.lst primesD), .v (.int 13), 13, S)) := by kernel_rfl
theorem C_13_1 : 0 < (goodD 13 1).length ∧ (goodD 13 1).length < 1000 := by decide +kernel
theorem A_17_1 (s x2 x3 x4 x5 x6 x7 x8 x9 x10 x11 x12 x13 : Sl) (S : Sto) : s012 (env3 s (.v (.int 17)) (.v (.int 1)) x2 x3 x4 x5 x6 x7 x8 x9 x10 x11 x12 x13) S = .nx (env3 s (.v (.int 17)) (.v (.int 1)) (.v (.lst (goodD 17 1))) x3 x4 x5 x6 x7 x8 x9 x10 x11 x12 x13) S := by kernel_rfl
theorem B_17_1 (s x4 x5 x6 x7 x8 x9 x10 x11 x12 x13 : Sl) (S : Sto) : (goodD 17 1).map (fun g => nrm (s4567 (env3 s (.v (.int 17)) (.v (.int 1)) (.v (.lst (goodD 17 1))) (.v (.tup [.int 17, g])) x4 x5 x6 x7 x8 x9 x10 x11 x12 x13) S)) = List.replicate (goodD 17 1).length (some (s, .v (.ref 0), .v (.lst primesD), .v (.int 17), 13, S)) := by kernel_rfl
theorem C_17_1 : 0 < (goodD 17 1).length ∧ (goodD 17 1).length < 1000 := by decide +kernel
theorem A_19_1 (s x2 x3 x4 x5 x6 x7 x8 x9 x10 x11 x12 x13 : Sl) (S : Sto) : s012 (env3 s (.v (.int 19)) (.v (.int 1)) x2 x3 x4 x5 x6 x7 x8 x9 x10 x11 x12 x13) S = .nx (env3 s (.v (.int 19)) (.v (.int 1)) (.v (.lst (goodD 19 1))) x3 x4 x5 x6 x7 x8 x9 x10 x11 x12 x13) S := by kernel_rfl
theorem B_19_1 (s x4 x5 x6 x7 x8 x9 x10 x11 x12 x13 : Sl) (S : Sto) : (goodD 19 1).map (fun g => nrm (s4567 (env3 s (.v (.int 19)) (.v (.int 1)) (.v (.lst (goodD 19 1))) (.v (.tup [.int 19, g])) x4 x5 x6 x7 x8 x9 x10 x11 x12 x13) S)) = List.replicate (goodD 19 1).length (some (s, .v (.ref 0), .v (.lst primesD), .v (.int 19), 13, S)) := by kernel_rfl
theorem C_19_1 : 0 < (goodD 19 1).length ∧ (goodD 19 1).length < 1000 := by decide +kernel
theorem A_23_1 (s x2 x3 x4 x5 x6 x7 x8 x9 x10 x11 x12 x13 : Sl) (S : Sto) : s012 (env3 s (.v (.int 23)) (.v (.int 1)) x2 x3 x4 x5 x6 x7 x8 x9 x10 x11 x12 x13) S = .nx (env3 s (.v (.int 23)) (.v (.int 1)) (.v (.lst (goodD 23 1))) x3 x4 x5 x6 x7 x8 x9 x10 x11 x12 x13) S := by kernel_rfl
theorem B_23_1 (s x4 x5 x6 x7 x8 x9 x10 x11 x12 x13 : Sl) (S : Sto) : (goodD 23 1).map (fun g => nrm (s4567 (env3 s (.v (.int 23)) (.v (.int 1)) (.v (.lst (goodD 23 1))) (.v (.tup [.int 23, g])) x4 x5 x6 x7 x8 x9 x10 x11 x12 x13) S)) = List.replicate (goodD 23 1).length (some (s, .v (.ref 0), .v (.lst primesD), .v (.int 23), 13, S)) := by kernel_rfl
theorem C_23_1 : 0 < (goodD 23 1).length ∧ (goodD 23 1).length < 1000 := by decide +kernel
theorem A_29_1 (s x2 x3 x4 x5 x6 x7 x8 x9 x10 x11 x12 x13 : Sl) (S : Sto) : s012 (env3 s (.v (.int 29)) (.v (.int 1)) x2 x3 x4 x5 x6 x7 x8 x9 x10 x11 x12 x13) S = .nx (env3 s (.v (.int 29)) (.v (.int 1)) (.v (.lst (goodD 29 1))) x3 x4 x5 x6 x7 x8 x9 x10 x11 x12 x13) S := by kernel_rfl
theorem B_29_1 (s x4 x5 x6 x7 x8 x9 x10 x11 x12 x13 : Sl) (S : Sto) : (goodD 29 1).map (fun g => nrm (s4567 (env3 s (.v (.int 29)) (.v (.int 1)) (.v (.lst (goodD 29 1))) (.v (.tup [.int 29, g])) x4 x5 x6 x7 x8 x9 x10 x11 x12 x13) S)) = List.replicate (goodD 29 1).length (some (s, .v (.ref 0), .v (.lst primesD), .v (.int 29), 13, S)) := by kernel_rfl
theorem C_29_1 : 0 < (goodD 29 1).length ∧ (goodD 29 1).length < 1000 := by decide +kernel
theorem A_31_1 (s x2 x3 x4 x5 x6 x7 x8 x9 x10 x11 x12 x13 : Sl) (S : Sto) : s012 (env3 s (.v (.int 31)) (.v (.int 1)) x2 x3 x4 x5 x6 x7 x8 x9 x10 x11 x12 x13) S = .nx (env3 s (.v (.int 31)) (.v (.int 1)) (.v (.lst (goodD 31 1))) x3 x4 x5 x6 x7 x8 x9 x10 x11 x12 x13) S := by kernel_rfl
theorem B_31_1 (s x4 x5 x6 x7 x8 x9 x10 x11 x12 x13 : Sl) (S : Sto) : (goodD 31 1).map (fun g => nrm (s4567 (env3 s (.v (.int 31)) (.v (.int 1)) (.v (.lst (goodD 31 1))) (.v (.tup [.int 31, g])) x4 x5 x6 x7 x8 x9 x10 x11 x12 x13) S)) = List.replicate (goodD 31 1).length (some (s, .v (.ref 0), .v (.lst primesD), .v (.int 31), 13, S)) := by kernel_rfl
theorem C_31_1 : 0 < (goodD 31 1).length ∧ (goodD 31 1).length < 1000 := by decide +kernel
def Bnd (a b : Int) : Prop := 0 ≤ a ∧ 0 ≤ b ∧ b < 4294967296
/-- the frame within the loop over the degrees -/
def InvP (s : Sl) (p : Int) (env : Env) (S : Sto) : Prop := ∃ t a b, env = s :: .v (.ref 0) :: .v (.lst primesD) :: .v (.int p) :: t ∧ t.length = 13 ∧ S = [[.int a, .int b]] ∧ Bnd a b
theorem inner_of {p d : Int} (A : ∀ (s x2 x3 x4 x5 x6 x7 x8 x9 x10 x11 x12 x13 : Sl) (S : Sto), s012 (env3 s (.v (.int p)) (.v (.int d)) x2 x3 x4 x5 x6 x7 x8 x9 x10 x11 x12 x13) S = .nx (env3 s (.v (.int p)) (.v (.int d)) (.v (.lst (goodD p d))) x3 x4 x5 x6 x7 x8 x9 x10 x11 x12 x13) S)
    (B : ∀ (s x4 x5 x6 x7 x8 x9 x10 x11 x12 x13 : Sl) (S : Sto), (goodD p d).map (fun g => nrm (s4567 (env3 s (.v (.int p)) (.v (.int d)) (.v (.lst (goodD p d))) (.v (.tup [.int p, g])) x4 x5 x6 x7 x8 x9 x10 x11 x12 x13) S)) = List.replicate (goodD p d).length (some (s, .v (.ref 0), .v (.lst primesD), .v (.int p), 13, S)))
    (C : 0 < (goodD p d).length ∧ (goodD p d).length < 1000) (s : Sl) (env : Env) (S : Sto) (i : InvP s p env S) : ∃ env1, tgE (.n 4) (.int d) env = some env1 ∧ ∃ e' S', m_law_2_0b env1 S = .nx e' S' ∧ InvP s p e' S' := by
  obtain ⟨t, a, b, rfl, ht, rfl, ha, hb, hb2⟩ := i
  obtain ⟨x1, x2, x3, x4, x5, x6, x7, x8, x9, x10, x11, x12, x13, rfl⟩ := len13 ht
  refine ⟨_, rfl, ?_⟩
  show ∃ e' S', m_law_2_0b (env3 s (.v (.int p)) (.v (.int d)) x2 x3 x4 x5 x6 x7 x8 x9 x10 x11 x12 x13) [[.int a, .int b]] = .nx e' S' ∧ InvP s p e' S'
  have e0 : m_law_2_0b = sSeq s012 (sSeq m_law_2_0_3 s4567) := by
    unfold m_law_2_0b s012 s4567
    rw [seq_assoc, seq_assoc]
  obtain ⟨g, a', b', h1, hg, ha', hb', hb2'⟩ := some_ok a b (goodD p d) ha hb hb2 C.1 (by have := C.2; omega)
  have e3 : m_law_2_0_3 (env3 s (.v (.int p)) (.v (.int d)) (.v (.lst (goodD p d))) x3 x4 x5 x6 x7 x8 x9 x10 x11 x12 x13) [[.int a, .int b]] = .nx (env3 s (.v (.int p)) (.v (.int d)) (.v (.lst (goodD p d))) (.v (.tup [.int p, g])) x4 x5 x6 x7 x8 x9 x10 x11 x12 x13) [[.int a', .int b']] := by
    have hs2 : 2 ≤ sizeLine := by rw [sizeLine_eq]; decide
    simp [m_law_2_0_3, runF, sSeq, sIf, sSet, sRet, sRetN, sSkip, sExpr, sFrz, sApp, sPop, sPutO, kPutO, sPutR, kPutR, sPar, sAsgT, sFor, forL, loopEnd, tgE, setEnv, ownAt, R.toS, R.bind, eVar, eC, eOp, eUn, eNot, notD, eAnd, eOr, eIf, eChain, eL, eR, eTup, kTup, fLst, kLst, fCal, fComp, kComp, compL, cYes, cE, cTru, truth, cAnd, cOr, cNot, asB, eCal, aCons, aNil, eCall, kCall, eIxO, eLenO, gIx, gCmp, gInt, gAbs, gLen, items, gList, gMod, gDiv, divOk, gMul, mulOk, gAdd, gDif, gPow, gNeg, gIsN, gNotN, isNon, eIsi, kIsi, isCl, uV, uO, iSeq, kIt, iR1, iR2, kR1, kR2, inR, wipeE, h1, hs2]
  rw [e0, seq_nx (A _ _ _ _ _ _ _ _ _ _ _ _ _ _), seq_nx e3]
  obtain ⟨k, hk, e⟩ := List.mem_iff_getElem.mp hg
  have hB := B s x4 x5 x6 x7 x8 x9 x10 x11 x12 x13 [[.int a', .int b']]
  have h2 := congrArg (fun l => l[k]?) hB
  simp only [List.getElem?_map, List.getElem?_eq_getElem hk, e, Option.map_some, List.getElem?_replicate, hk, if_true] at h2
  obtain ⟨t, h3, h4⟩ := nrm_ok (Option.some.inj h2)
  exact ⟨_, _, h3, t, a', b', rfl, h4, rfl, ha', hb', hb2'⟩
theorem E_2 (s x1 x2 x3 x4 x5 x6 x7 x8 x9 x10 x11 x12 x13 : Sl) (S : Sto) : m_law_2b (env3 s (.v (.int 2)) x1 x2 x3 x4 x5 x6 x7 x8 x9 x10 x11 x12 x13) S = forL (.n 4) m_law_2_0b (degsD 2) (env3 s (.v (.int 2)) x1 x2 x3 x4 x5 x6 x7 x8 x9 x10 x11 x12 x13) S := by kernel_rfl
theorem F_2 (s : Sl) : ∀ d ∈ degsD 2, ∀ env S, InvP s 2 env S → ∃ env1, tgE (.n 4) d env = some env1 ∧ ∃ e2 S2, m_law_2_0b env1 S = .nx e2 S2 ∧ InvP s 2 e2 S2 := by
  intro d hd
  have hd2 : d ∈ ([.int 1, .int 2, .int 3, .int 4, .int 5] : List D) := hd
  simp only [List.mem_cons, List.not_mem_nil, or_false] at hd2
  rcases hd2 with rfl | rfl | rfl | rfl | rfl
  · exact fun env S i => inner_of A_2_1 B_2_1 C_2_1 s env S i
  · exact fun env S i => inner_of A_2_2 B_2_2 C_2_2 s env S i
  · exact fun env S i => inner_of A_2_3 B_2_3 C_2_3 s env S i
  · exact fun env S i => inner_of A_2_4 B_2_4 C_2_4 s env S i
  · exact fun env S i => inner_of A_2_5 B_2_5 C_2_5 s env S i
theorem E_3 (s x1 x2 x3 x4 x5 x6 x7 x8 x9 x10 x11 x12 x13 : Sl) (S : Sto) : m_law_2b (env3 s (.v (.int 3)) x1 x2 x3 x4 x5 x6 x7 x8 x9 x10 x11 x12 x13) S = forL (.n 4) m_law_2_0b (degsD 3) (env3 s (.v (.int 3)) x1 x2 x3 x4 x5 x6 x7 x8 x9 x10 x11 x12 x13) S := by kernel_rfl
theorem F_3 (s : Sl) : ∀ d ∈ degsD 3, ∀ env S, InvP s 3 env S → ∃ env1, tgE (.n 4) d env = some env1 ∧ ∃ e2 S2, m_law_2_0b env1 S = .nx e2 S2 ∧ InvP s 3 e2 S2 := by
  intro d hd
  have hd2 : d ∈ ([.int 1, .int 2, .int 3] : List D) := hd
  simp only [List.mem_cons, List.not_mem_nil, or_false] at hd2
  rcases hd2 with rfl | rfl | rfl
  · exact fun env S i => inner_of A_3_1 B_3_1 C_3_1 s env S i
  · exact fun env S i => inner_of A_3_2 B_3_2 C_3_2 s env S i
  · exact fun env S i => inner_of A_3_3 B_3_3 C_3_3 s env S i
theorem E_5 (s x1 x2 x3 x4 x5 x6 x7 x8 x9 x10 x11 x12 x13 : Sl) (S : Sto) : m_law_2b (env3 s (.v (.int 5)) x1 x2 x3 x4 x5 x6 x7 x8 x9 x10 x11 x12 x13) S = forL (.n 4) m_law_2_0b (degsD 5) (env3 s (.v (.int 5)) x1 x2 x3 x4 x5 x6 x7 x8 x9 x10 x11 x12 x13) S := by kernel_rfl
theorem F_5 (s : Sl) : ∀ d ∈ degsD 5, ∀ env S, InvP s 5 env S → ∃ env1, tgE (.n 4) d env = some env1 ∧ ∃ e2 S2, m_law_2_0b env1 S = .nx e2 S2 ∧ InvP s 5 e2 S2 := by
  intro d hd
  have hd2 : d ∈ ([.int 1, .int 2] : List D) := hd
  simp only [List.mem_cons, List.not_mem_nil, or_false] at hd2
  rcases hd2 with rfl | rfl
  · exact fun env S i => inner_of A_5_1 B_5_1 C_5_1 s env S i
  · exact fun env S i => inner_of A_5_2 B_5_2 C_5_2 s env S i
theorem E_7 (s x1 x2 x3 x4 x5 x6 x7 x8 x9 x10 x11 x12 x13 : Sl) (S : Sto) : m_law_2b (env3 s (.v (.int 7)) x1 x2 x3 x4 x5 x6 x7 x8 x9 x10 x11 x12 x13) S = forL (.n 4) m_law_2_0b (degsD 7) (env3 s (.v (.int 7)) x1 x2 x3 x4 x5 x6 x7 x8 x9 x10 x11 x12 x13) S := by kernel_rfl
theorem F_7 (s : Sl) : ∀ d ∈ degsD 7, ∀ env S, InvP s 7 env S → ∃ env1, tgE (.n 4) d env = some env1 ∧ ∃ e2 S2, m_law_2_0b env1 S = .nx e2 S2 ∧ InvP s 7 e2 S2 := by
  intro d hd
  have hd2 : d ∈ ([.int 1] : List D) := hd
  simp only [List.mem_cons, List.not_mem_nil, or_false] at hd2
  subst hd2
  · exact fun env S i => inner_of A_7_1 B_7_1 C_7_1 s env S i
theorem E_11 (s x1 x2 x3 x4 x5 x6 x7 x8 x9 x10 x11 x12 x13 : Sl) (S : Sto) : m_law_2b (env3 s (.v (.int 11)) x1 x2 x3 x4 x5 x6 x7 x8 x9 x10 x11 x12 x13) S = forL (.n 4) m_law_2_0b (degsD 11) (env3 s (.v (.int 11)) x1 x2 x3 x4 x5 x6 x7 x8 x9 x10 x11 x12 x13) S := by kernel_rfl
theorem F_11 (s : Sl) : ∀ d ∈ degsD 11, ∀ env S, InvP s 11 env S → ∃ env1, tgE (.n 4) d env = some env1 ∧ ∃ e2 S2, m_law_2_0b env1 S = .nx e2 S2 ∧ InvP s 11 e2 S2 := by
  intro d hd
  have hd2 : d ∈ ([.int 1] : List D) := hd
  simp only [List.mem_cons, List.not_mem_nil, or_false] at hd2
  subst hd2
  · exact fun env S i => inner_of A_11_1 B_11_1 C_11_1 s env S i
theorem E_13 (s x1 x2 x3 x4 x5 x6 x7 x8 x9 x10 x11 x12 x13 : Sl) (S : Sto) : m_law_2b (env3 s (.v (.int 13)) x1 x2 x3 x4 x5 x6 x7 x8 x9 x10 x11 x12 x13) S = forL (.n 4) m_law_2_0b (degsD 13) (env3 s (.v (.int 13)) x1 x2 x3 x4 x5 x6 x7 x8 x9 x10 x11 x12 x13) S := by kernel_rfl
theorem F_13 (s : Sl) : ∀ d ∈ degsD 13, ∀ env S, InvP s 13 env S → ∃ env1, tgE (.n 4) d env = some env1 ∧ ∃ e2 S2, m_law_2_0b env1 S = .nx e2 S2 ∧ InvP s 13 e2 S2 := by
  intro d hd
  have hd2 : d ∈ ([.int 1] : List D) := hd
  simp only [List.mem_cons, List.not_mem_nil, or_false] at hd2
  subst hd2
  · exact fun env S i => inner_of A_13_1 B_13_1 C_13_1 s env S i
theorem E_17 (s x1 x2 x3 x4 x5 x6 x7 x8 x9 x10 x11 x12 x13 : Sl) (S : Sto) : m_law_2b (env3 s (.v (.int 17)) x1 x2 x3 x4 x5 x6 x7 x8 x9 x10 x11 x12 x13) S = forL (.n 4) m_law_2_0b (degsD 17) (env3 s (.v (.int 17)) x1 x2 x3 x4 x5 x6 x7 x8 x9 x10 x11 x12 x13) S := by kernel_rfl
theorem F_17 (s : Sl) : ∀ d ∈ degsD 17, ∀ env S, InvP s 17 env S → ∃ env1, tgE (.n 4) d env = some env1 ∧ ∃ e2 S2, m_law_2_0b env1 S = .nx e2 S2 ∧ InvP s 17 e2 S2 := by
  intro d hd
  have hd2 : d ∈ ([.int 1] : List D) := hd
  simp only [List.mem_cons, List.not_mem_nil, or_false] at hd2
  subst hd2
  · exact fun env S i => inner_of A_17_1 B_17_1 C_17_1 s env S i
theorem E_19 (s x1 x2 x3 x4 x5 x6 x7 x8 x9 x10 x11 x12 x13 : Sl) (S : Sto) : m_law_2b (env3 s (.v (.int 19)) x1 x2 x3 x4 x5 x6 x7 x8 x9 x10 x11 x12 x13) S = forL (.n 4) m_law_2_0b (degsD 19) (env3 s (.v (.int 19)) x1 x2 x3 x4 x5 x6 x7 x8 x9 x10 x11 x12 x13) S := by kernel_rfl
theorem F_19 (s : Sl) : ∀ d ∈ degsD 19, ∀ env S, InvP s 19 env S → ∃ env1, tgE (.n 4) d env = some env1 ∧ ∃ e2 S2, m_law_2_0b env1 S = .nx e2 S2 ∧ InvP s 19 e2 S2 := by
  intro d hd
  have hd2 : d ∈ ([.int 1] : List D) := hd
  simp only [List.mem_cons, List.not_mem_nil, or_false] at hd2
  subst hd2
  · exact fun env S i => inner_of A_19_1 B_19_1 C_19_1 s env S i
theorem E_23 (s x1 x2 x3 x4 x5 x6 x7 x8 x9 x10 x11 x12 x13 : Sl) (S : Sto) : m_law_2b (env3 s (.v (.int 23)) x1 x2 x3 x4 x5 x6 x7 x8 x9 x10 x11 x12 x13) S = forL (.n 4) m_law_2_0b (degsD 23) (env3 s (.v (.int 23)) x1 x2 x3 x4 x5 x6 x7 x8 x9 x10 x11 x12 x13) S := by kernel_rfl
theorem F_23 (s : Sl) : ∀ d ∈ degsD 23, ∀ env S, InvP s 23 env S → ∃ env1, tgE (.n 4) d env = some env1 ∧ ∃ e2 S2, m_law_2_0b env1 S = .nx e2 S2 ∧ InvP s 23 e2 S2 := by
  intro d hd
  have hd2 : d ∈ ([.int 1] : List D) := hd
  simp only [List.mem_cons, List.not_mem_nil, or_false] at hd2
  subst hd2
  · exact fun env S i => inner_of A_23_1 B_23_1 C_23_1 s env S i
theorem E_29 (s x1 x2 x3 x4 x5 x6 x7 x8 x9 x10 x11 x12 x13 : Sl) (S : Sto) : m_law_2b (env3 s (.v (.int 29)) x1 x2 x3 x4 x5 x6 x7 x8 x9 x10 x11 x12 x13) S = forL (.n 4) m_law_2_0b (degsD 29) (env3 s (.v (.int 29)) x1 x2 x3 x4 x5 x6 x7 x8 x9 x10 x11 x12 x13) S := by kernel_rfl
theorem F_29 (s : Sl) : ∀ d ∈ degsD 29, ∀ env S, InvP s 29 env S → ∃ env1, tgE (.n 4) d env = some env1 ∧ ∃ e2 S2, m_law_2_0b env1 S = .nx e2 S2 ∧ InvP s 29 e2 S2 := by
  intro d hd
  have hd2 : d ∈ ([.int 1] : List D) := hd
  simp only [List.mem_cons, List.not_mem_nil, or_false] at hd2
  subst hd2
  · exact fun env S i => inner_of A_29_1 B_29_1 C_29_1 s env S i
theorem E_31 (s x1 x2 x3 x4 x5 x6 x7 x8 x9 x10 x11 x12 x13 : Sl) (S : Sto) : m_law_2b (env3 s (.v (.int 31)) x1 x2 x3 x4 x5 x6 x7 x8 x9 x10 x11 x12 x13) S = forL (.n 4) m_law_2_0b (degsD 31) (env3 s (.v (.int 31)) x1 x2 x3 x4 x5 x6 x7 x8 x9 x10 x11 x12 x13) S := by kernel_rfl
theorem F_31 (s : Sl) : ∀ d ∈ degsD 31, ∀ env S, InvP s 31 env S → ∃ env1, tgE (.n 4) d env = some env1 ∧ ∃ e2 S2, m_law_2_0b env1 S = .nx e2 S2 ∧ InvP s 31 e2 S2 := by
  intro d hd
  have hd2 : d ∈ ([.int 1] : List D) := hd
  simp only [List.mem_cons, List.not_mem_nil, or_false] at hd2
  subst hd2
  · exact fun env S i => inner_of A_31_1 B_31_1 C_31_1 s env S i
end PV.K00

set_option autoImplicit false
set_option Elab.async false
set_option linter.all false
set_option maxRecDepth 100000
set_option maxHeartbeats 4000000
namespace PV.K00
open PV PySem L2
/-- the frame within the loop over the primes -/
def InvQ (s : Sl) (env : Env) (S : Sto) : Prop := ∃ t a b, env = s :: .v (.ref 0) :: .v (.lst primesD) :: t ∧ t.length = 14 ∧ S = [[.int a, .int b]] ∧ Bnd a b
theorem outer_of {s : Sl} {p : Int} (E : ∀ (x1 x2 x3 x4 x5 x6 x7 x8 x9 x10 x11 x12 x13 : Sl) (S : Sto), m_law_2b (env3 s (.v (.int p)) x1 x2 x3 x4 x5 x6 x7 x8 x9 x10 x11 x12 x13) S = forL (.n 4) m_law_2_0b (degsD p) (env3 s (.v (.int p)) x1 x2 x3 x4 x5 x6 x7 x8 x9 x10 x11 x12 x13) S)
    (F : ∀ d ∈ degsD p, ∀ env S, InvP s p env S → ∃ env1, tgE (.n 4) d env = some env1 ∧ ∃ e2 S2, m_law_2_0b env1 S = .nx e2 S2 ∧ InvP s p e2 S2) (env : Env) (S : Sto) (i : InvQ s env S) : ∃ env1, tgE (.n 3) (.int p) env = some env1 ∧ ∃ e2 S2, m_law_2b env1 S = .nx e2 S2 ∧ InvQ s e2 S2 := by
  obtain ⟨t, a, b, rfl, ht, rfl, hB⟩ := i
  obtain ⟨y, t, rfl⟩ : ∃ y t', t = y :: t' := by
    cases t with
    | nil => cases ht
    | cons y t => exact ⟨y, t, rfl⟩
  have ht2 : t.length = 13 := by simpa using ht
  refine ⟨_, rfl, ?_⟩
  show ∃ e2 S2, m_law_2b (s :: .v (.ref 0) :: .v (.lst primesD) :: .v (.int p) :: t) [[.int a, .int b]] = .nx e2 S2 ∧ InvQ s e2 S2
  obtain ⟨x1, x2, x3, x4, x5, x6, x7, x8, x9, x10, x11, x12, x13, rfl⟩ := len13 ht2
  obtain ⟨e', S', h1, t', a', b', rfl, ht', rfl, hB'⟩ := forL_inv (degsD p) F (env3 s (.v (.int p)) x1 x2 x3 x4 x5 x6 x7 x8 x9 x10 x11 x12 x13) [[.int a, .int b]] ⟨_, a, b, rfl, ht2, rfl, hB⟩
  exact ⟨_, _, (E _ _ _ _ _ _ _ _ _ _ _ _ _ _).trans h1, .v (.int p) :: t', a', b', rfl, by simp [ht'], rfl, hB'⟩
theorem primes_ok (s : Sl) : ∀ d ∈ primesD, ∀ env S, InvQ s env S → ∃ env1, tgE (.n 3) d env = some env1 ∧ ∃ e2 S2, m_law_2b env1 S = .nx e2 S2 ∧ InvQ s e2 S2 := by
  intro d hd
  have hd2 : d ∈ ([.int 2, .int 3, .int 5, .int 7, .int 11, .int 13, .int 17, .int 19, .int 23, .int 29, .int 31] : List D) := hd
  simp only [List.mem_cons, List.not_mem_nil, or_false] at hd2
  rcases hd2 with rfl | rfl | rfl | rfl | rfl | rfl | rfl | rfl | rfl | rfl | rfl
  · exact fun env S i => outer_of (E_2 s) (F_2 s) env S i
  · exact fun env S i => outer_of (E_3 s) (F_3 s) env S i
  · exact fun env S i => outer_of (E_5 s) (F_5 s) env S i
  · exact fun env S i => outer_of (E_7 s) (F_7 s) env S i
  · exact fun env S i => outer_of (E_11 s) (F_11 s) env S i
  · exact fun env S i => outer_of (E_13 s) (F_13 s) env S i
  · exact fun env S i => outer_of (E_17 s) (F_17 s) env S i
  · exact fun env S i => outer_of (E_19 s) (F_19 s) env S i
  · exact fun env S i => outer_of (E_23 s) (F_23 s) env S i
  · exact fun env S i => outer_of (E_29 s) (F_29 s) env S i
  · exact fun env S i => outer_of (E_31 s) (F_31 s) env S i
def s3to14 : MS := sSeq (m_law_3) (sSeq (m_law_4) (sSeq (m_law_5) (sSeq (m_law_6) (sSeq (m_law_7) (sSeq (m_law_8) (sSeq (m_law_9) (sSeq (m_law_10) (sSeq (m_law_11) (sSeq (m_law_12) (sSeq (m_law_13) (m_law_14)))))))))))
def s16to22 : MS := sSeq (m_law_16) (sSeq (m_law_17) (sSeq (m_law_18) (sSeq (m_law_19) (sSeq (m_law_20) (sSeq (m_law_21) (m_law_22))))))
def oddsD : List D := match s3to14 (List.replicate 17 .u) [] with
  | .nx env _ => match (env[10]? : Option Sl) with
    | some (.v (.lst xs)) => xs
    | _ => []
  | _ => []
abbrev fieldV : Sl := .v (.tup [.int 5, .tup [.int 2, .int 0, .int 1]])
abbrev valueV : Sl := .v (.lst [.int 0])
theorem T_1 (s : Sl) (S : Sto) : m_law_1 (s :: .v (.ref 0) :: List.replicate 15 .u) S = .nx (env3 s .u .u .u .u .u .u .u .u .u .u .u .u .u .u) S := by kernel_rfl
theorem T_3 (s x0 x1 x2 x3 x4 x5 x6 x7 x8 x9 x10 x11 x12 x13 : Sl) (S : Sto) : s3to14 (env3 s x0 x1 x2 x3 x4 x5 x6 x7 x8 x9 x10 x11 x12 x13) S = .nx (env3 s x0 x1 x2 fieldV x4 x5 x6 (.v (.lst oddsD)) valueV x9 x10 x11 x12 x13) S := by kernel_rfl
theorem T_16 (s x0 x1 x2 x4 x5 x6 x10 x11 x12 x13 : Sl) (S : Sto) : oddsD.map (fun odd => s16to22 (env3 s x0 x1 x2 fieldV x4 x5 x6 (.v (.lst oddsD)) valueV (.v odd) x10 x11 x12 x13) S) = List.replicate oddsD.length (.rt (.bl true) S) := by kernel_rfl
theorem T_n : 0 < oddsD.length ∧ oddsD.length < 1000 := by decide +kernel
theorem law_true (ns : List Int) (h : ns.length ≤ 63) (hb : ∀ z ∈ ns, PySem.Builtin.Int.intBits z ≤ 1048576) : ∃ S', f_law [.scr ns] [] = .ok (.bl true) S' := by
  obtain ⟨a, b, hcup, ha, hb0, hb2⟩ := cup_ok ns h
  obtain ⟨e1, S1, hfor, t, a1, b1, rfl, ht, rfl, hB1⟩ := forL_inv primesD (primes_ok (.v (.scr ns))) (env3 (.v (.scr ns)) .u .u .u .u .u .u .u .u .u .u .u .u .u .u) [[.int a, .int b]] ⟨_, a, b, rfl, rfl, rfl, ha, hb0, hb2⟩
  obtain ⟨x0, t, rfl⟩ : ∃ y t', t = y :: t' := by
    cases t with
    | nil => cases ht
    | cons y t => exact ⟨y, t, rfl⟩
  obtain ⟨x1, x2, x3, x4, x5, x6, x7, x8, x9, x10, x11, x12, x13, rfl⟩ := len13 (t := t) (by simpa using ht)
  obtain ⟨odd, a2, b2, hs, ho, hB2⟩ := some_ok a1 b1 oddsD hB1.1 hB1.2.1 hB1.2.2 T_n.1 (by have := T_n.2; omega)
  have h0 : m_law_0 (.v (.scr ns) :: List.replicate 16 .u) [] = .nx (.v (.scr ns) :: .v (.ref 0) :: List.replicate 15 .u) [[.int a, .int b]] := by
    simp [m_law_0, runF, sSeq, sIf, sSet, sRet, sRetN, sSkip, sExpr, sFrz, sApp, sPop, sPutO, kPutO, sPutR, kPutR, sPar, sAsgT, sFor, forL, loopEnd, tgE, setEnv, ownAt, R.toS, R.bind, eVar, eC, eOp, eUn, eNot, notD, eAnd, eOr, eIf, eChain, eL, eR, eTup, kTup, fLst, kLst, fCal, fComp, kComp, compL, cYes, cE, cTru, truth, cAnd, cOr, cNot, asB, eCal, aCons, aNil, eCall, kCall, eIxO, eLenO, gIx, gCmp, gInt, gAbs, gLen, items, gList, gMod, gDiv, divOk, gMul, mulOk, gAdd, gDif, gPow, gNeg, gIsN, gNotN, isNon, eIsi, kIsi, isCl, uV, uO, iSeq, kIt, iR1, iR2, kR1, kR2, inR, wipeE, hcup, List.replicate]
  have h2 : sFor (iSeq (eVar 2)) (.n 3) (m_law_2b) (env3 (.v (.scr ns)) .u .u .u .u .u .u .u .u .u .u .u .u .u .u) [[.int a, .int b]] = .nx (env3 (.v (.scr ns)) x0 x1 x2 x3 x4 x5 x6 x7 x8 x9 x10 x11 x12 x13) [[.int a1, .int b1]] := by
    rw [← hfor]
    rfl
  have h15 : m_law_15 (env3 (.v (.scr ns)) x0 x1 x2 fieldV x4 x5 x6 (.v (.lst oddsD)) valueV x9 x10 x11 x12 x13) [[.int a1, .int b1]] = .nx (env3 (.v (.scr ns)) x0 x1 x2 fieldV x4 x5 x6 (.v (.lst oddsD)) valueV (.v odd) x10 x11 x12 x13) [[.int a2, .int b2]] := by
    simp [m_law_15, runF, sSeq, sIf, sSet, sRet, sRetN, sSkip, sExpr, sFrz, sApp, sPop, sPutO, kPutO, sPutR, kPutR, sPar, sAsgT, sFor, forL, loopEnd, tgE, setEnv, ownAt, R.toS, R.bind, eVar, eC, eOp, eUn, eNot, notD, eAnd, eOr, eIf, eChain, eL, eR, eTup, kTup, fLst, kLst, fCal, fComp, kComp, compL, cYes, cE, cTru, truth, cAnd, cOr, cNot, asB, eCal, aCons, aNil, eCall, kCall, eIxO, eLenO, gIx, gCmp, gInt, gAbs, gLen, items, gList, gMod, gDiv, divOk, gMul, mulOk, gAdd, gDif, gPow, gNeg, gIsN, gNotN, isNon, eIsi, kIsi, isCl, uV, uO, iSeq, kIt, iR1, iR2, kR1, kR2, inR, wipeE, hs]
  have h16 : s16to22 (env3 (.v (.scr ns)) x0 x1 x2 fieldV x4 x5 x6 (.v (.lst oddsD)) valueV (.v odd) x10 x11 x12 x13) [[.int a2, .int b2]] = .rt (.bl true) [[.int a2, .int b2]] := by
    obtain ⟨k, hk, e⟩ := List.mem_iff_getElem.mp ho
    have hB := T_16 (.v (.scr ns)) x0 x1 x2 x4 x5 x6 x10 x11 x12 x13 [[.int a2, .int b2]]
    have h3 := congrArg (fun l => l[k]?) hB
    simp only [List.getElem?_map, List.getElem?_eq_getElem hk, e, Option.map_some, List.getElem?_replicate, hk, if_true] at h3
    exact Option.some.inj h3
  have eL : m_law = sSeq m_law_0 (sSeq m_law_1 (sSeq (sFor (iSeq (eVar 2)) (.n 3) (m_law_2b)) (sSeq s3to14 (sSeq m_law_15 s16to22)))) := by
    unfold m_law s3to14 s16to22
    simp only [seq_assoc]
  have hM : m_law (.v (.scr ns) :: List.replicate 16 .u) [] = .rt (.bl true) [[.int a2, .int b2]] := by
    rw [eL, seq_nx h0, seq_nx (T_1 _ _), seq_nx h2, seq_nx (T_3 _ _ _ _ _ _ _ _ _ _ _ _ _ _ _ _), seq_nx h15, h16]
  refine ⟨[[.int a2, .int b2]], ?_⟩
  show (match m_law (.v (.scr ns) :: List.replicate 16 .u) [] with
    | .rt d S => R.ok d S
    | .nx _ S => .ok .non S
    | .er x _ S => .er x S
    | _ => .no) = _
  rw [hM]
end PV.K00

set_option autoImplicit false
set_option Elab.async false
set_option linter.all false
set_option maxRecDepth 100000
set_option maxHeartbeats 0
open PySem PySem.W PySem.Calls PyProof.Rows
theorem PySem.Challenge.cw_polerooms_k00_whole_fields_holds : PySem.Challenge.rw_polerooms_k00_whole_fields.Holds := by
  w_on; o_law
  refine HandSHeadRun.head_any (r := OpenLaw.row PySem.Challenge.rw_polerooms_k00_whole_fields) (q := view (OpenLaw.row PySem.Challenge.rw_polerooms_k00_whole_fields).prog [32]) (H := PV.K00.hk) (ob := PV.K00.ob) (M := 6000) (loose := PV.K00.loose) (d := HandSHeadRun.topDef (OpenLaw.row PySem.Challenge.rw_polerooms_k00_whole_fields).prog 32) (kwd := []) PV.K00.ob_eq
    (by kernel_rfl) (fun s => by kernel_rfl) PV.K00.run (by kernel_rfl) (by kernel_rfl) (by kernel_rfl) (by rfl) (by first | assumption | decide +kernel) (by decide +kernel) ⟨rfl, rfl, rfl, rfl, rfl, by decide +kernel⟩ ?hw ?hc
  case hw => w_witness2
  case hc =>
    refine LamX.walk_ofTsE (l := PySem.Challenge.rw_polerooms_k00_whole_fields) (n := 63) (k := 23) (x := "script") (CX := fun w => L2.CX PySem.Challenge.rw_polerooms_k00_whole_fields.prog w) rfl (by decide) (by kernel_rfl) ⟨rfl, by decide, by decide⟩ ?F (fun w H s e s2 z => by obtain ⟨_, _, _, _, _, _, _, _, _, _, _, _, q⟩ := z; exact q)
    intro w mg fa h Y G hmg0
    obtain ⟨K, KX, c⟩ := Y
    have cd := c.t.d
    have hmg := PV.K00.glo_of KX G cd 25 (x := "law") rfl
    have e : (HandSHeadRun.topDef (OpenLaw.row PySem.Challenge.rw_polerooms_k00_whole_fields).prog 32).name = ("law" : PySem.Str) := by kernel_rfl
    rw [e] at hmg0
    rw [hmg0] at hmg
    cases hmg
    obtain ⟨fd, hb, hF⟩ := PV.K00.law_fn (P := PySem.Challenge.rw_polerooms_k00_whole_fields.prog) (w := w) KX G cd c.more
    refine ⟨K, KX, fd, PV.K00.tf.map (He.cT K), PV.spF (PV.K00.cn K) 1 PV.K00.f_law, ?_, ?_, ?_, hb, ?_, hF⟩
    · intro p hp
      obtain ⟨d, hd, rfl⟩ := List.mem_map.mp hp
      exact c.empty d hd
    · intro p hp
      obtain ⟨d, hd, rfl⟩ := List.mem_map.mp hp
      exact c.out d hd
    · intro p hp
      obtain ⟨d, hd, rfl⟩ := List.mem_map.mp hp
      exact PySem.W.codeHd_of_K KX (c.hd d hd)
    · intro H a ns hl hbits hT hS
      refine PV.sp_law (C := PV.K00.cn K) (cs := []) rfl rfl (fun p hp => ?_) hS (PV.K00.law_true ns hl hbits)
      have key : (PV.K00.cn K).T.map (·.1) = (PV.K00.tf.map (He.cT K)).map (·.2) := rfl
      have h1 : p.1 ∈ (PV.K00.tf.map (He.cT K)).map (·.2) := by rw [← key]; exact List.mem_map_of_mem hp
      obtain ⟨q, hq, e⟩ := List.mem_map.mp h1
      rw [← e]
      exact hT q hq

