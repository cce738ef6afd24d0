import PyProof.Rows.All
import Wide.All
import OpenK.AllK
import Wide.FinOn
import HandS.ForMost
import HandS.ForExc
import HandS.CallSlots
import HandS.Lambda
import HandS.TupAny
import HandS.Deep
import HandS.IsInst
import HandS.Flow
import HandS.OwnEq
import PyProof.InstNe
import KE.GoesEnum
import HandS.MakeKw
import HandS.HeadEnd
import HandS.HeadHook4
import HandS.ExcInit
import HandS.TryMany
import KE.KExcSuper
import HandS.ExcField
import KE.KExcIs
import HandS.ExcIs
import HandS.CallRecv
import HandS.HeadWalk
import HandS.More
import HandS.Conv
import HandS.Head2
import HandS.Star
import HandS.Zip
import KE.GoesZip
import KE.GoesMore
import HandS.Strs
import HandS.Property
import HandS.ClsMeth
import HandS.Style
import HandS.Text
import PySem.Challenge.RW_betweenlooks_k20_histories_cut_and_writt
set_option Elab.async false
set_option linter.all false
set_option maxRecDepth 100000
set_option maxHeartbeats 1000000
namespace BL
open PySem L2

/-! ### plain data -/
inductive T where
  | non | bl (b : Bool) | int (i : Int) | str (x : Str)
  | tup (ts : List T) | lst (ts : List T)
  | dk (ks : List Key) (ts : List T)
  | obj (c : Nat) (ns : List Str) (ts : List T)
  | ftp (ts : List T)
  | cls (c : Nat)
instance : Inhabited T := ⟨.non⟩
/-- a value: plain data, or an object that may be changed -/
inductive D where
  | t (x : T) | loc (n : Nat)
instance : Inhabited D := ⟨.t .non⟩
/-- what stands at a location -/
inductive O where
  | lst (ds : List D) | dk (kvs : List (Key × D)) | ins (c : Nat) (fs : List (Str × D)) | flst (ts : List T)
abbrev Hs := List O
inductive Re where
  | ok (d : D) (G : Hs) | exc (c : Nat) (ns : List Str) (ds : List D) (G : Hs) | stuck
abbrev Ev := List (Option D)
inductive Rs where
  | nx (r : Ev) (G : Hs) | rt (d : D) (G : Hs) | bk (r : Ev) (G : Hs) | ct (r : Ev) (G : Hs) | exc (c : Nat) (ns : List Str) (ds : List D) (r : Ev) (G : Hs) | stuck

/-! ### what stands for what -/
structure Gm0 where
  K : PySem.W.Frag
  ca : Nat → Addr
/-- tb: tables of code objects; rv: lists that are being filled by comprehensions -/
structure Gm extends Gm0 where
  tb : List (Addr × Str)
  rv : List Addr

/-- every sign is a sign of Unicode -/
abbrev okS (x : Str) : Prop := PyData.strOk x = true
/-- a list that none of the located ones is: one of the heap, or a written one -/
def Rl (K : PySem.W.Frag) (B : Addr → Prop) (H : Hp) (a : Addr) (xs : List V) : Prop := (Rd H a (.lst xs) ∧ ¬ B a) ∨
  ∃ (o : Obj) (its : Array Value) (n : Nat), K.lookup a = some o ∧ o.cls = .type "list" ∧ o.dict = none ∧ o.data = .seq its n ∧ its.size ≤ sizeLine ∧ Vals xs its.toList
theorem Rl.sq {K : PySem.W.Frag} {B : Addr → Prop} {H : Hp} {a : Addr} {xs : List V} (h : Rl K B H a xs) : SqL K H a xs := h.imp (·.1) id
theorem Rl.here {K : PySem.W.Frag} {B : Addr → Prop} {H : Hp} {a : Addr} {xs : List V} (h : H a = some (.lst xs)) (nb : ¬ B a) : Rl K B H a xs := .inl ⟨.inl h, nb⟩
theorem Rl.fewer {K : PySem.W.Frag} {B B' : Addr → Prop} {H : Hp} {a : Addr} {xs : List V} (hb : B' a → B a) (h : Rl K B H a xs) : Rl K B' H a xs := h.imp (fun z => ⟨z.1, fun q => z.2 (hb q)⟩) id
theorem Rl.mv {K : PySem.W.Frag} {B B' : Addr → Prop} {H H' : Hp} (kp : ∀ a o, H a = some o → ¬ B a → (∀ ps, o ≠ .tbl ps) → H' a = some o ∧ ¬ B' a) {a : Addr} {xs : List V} (h : Rl K B H a xs) : Rl K B' H' a xs := by
  rcases h with ⟨h | ⟨ob, h⟩, nb⟩ | h
  · obtain ⟨h1, h2⟩ := kp _ _ h nb (by simp)
    exact .inl ⟨.inl h1, h2⟩
  · obtain ⟨h1, h2⟩ := kp _ _ h nb (by simp)
    exact .inl ⟨.inr ⟨ob, h1⟩, h2⟩
  · exact .inr h
mutual
def Rp (g : Gm0) (B : Addr → Prop) (H : Hp) : T → V → Prop
  | .non, v => v = .non
  | .bl b, v => v = .bl b
  | .int i, v => v = .int i
  | .str x, v => v = .str x ∧ okS x
  | .tup ts, v => ∃ a xs, v = .ref a ∧ SqT g.K H a xs ∧ Rps g B H ts xs
  | .lst ts, v => ∃ a xs, v = .ref a ∧ Rl g.K B H a xs ∧ Rps g B H ts xs
  | .dk ks ts, v => ∃ a xs, v = .ref a ∧ H a = some (.dK (ks.zip xs)) ∧ xs.length = ks.length ∧ ¬ B a ∧ Rps g B H ts xs
  | .obj c ns ts, v => ∃ a dx xs, v = .ref a ∧ H a = some (.ins (g.ca c) dx (ns.zip xs)) ∧ xs.length = ns.length ∧ ¬ B a ∧ Rps g B H ts xs
  | .ftp ts, v => ∃ a ob xs, v = .ref a ∧ H a = some (.frz ob (.tup xs)) ∧ ob.dict = none ∧ ¬ B a ∧ Rps g B H ts xs
  | .cls c, v => v = .ref (g.ca c)
def Rps (g : Gm0) (B : Addr → Prop) (H : Hp) : List T → List V → Prop
  | [], xs => xs = []
  | t :: ts, xs => ∃ v vs, xs = v :: vs ∧ Rp g B H t v ∧ Rps g B H ts vs
end

/-- the addresses of the located objects -/
def Bd (m : Nat → Addr) (n : Nat) (a : Addr) : Prop := ∃ i, i < n ∧ m i = a
/-- .. and of the lists that are being filled -/
def Bv (g : Gm) (m : Nat → Addr) (n : Nat) (a : Addr) : Prop := Bd m n a ∨ a ∈ g.rv
/-- n: how many locations there are; b: those below b may be named -/
def RpD (g : Gm) (m : Nat → Addr) (n b : Nat) (H : Hp) : D → V → Prop
  | .t x, v => Rp g.toGm0 (Bv g m n) H x v
  | .loc i, v => i < b ∧ v = .ref (m i)
def RpDs (g : Gm) (m : Nat → Addr) (n b : Nat) (H : Hp) : List D → List V → Prop
  | [], xs => xs = []
  | d :: ds, xs => ∃ v vs, xs = v :: vs ∧ RpD g m n b H d v ∧ RpDs g m n b H ds vs
def OR (g : Gm) (m : Nat → Addr) (n i : Nat) (H : Hp) : O → Prop
  | .lst ds => ∃ xs, H (m i) = some (.lst xs) ∧ RpDs g m n i H ds xs
  | .dk kvs => ∃ xs, H (m i) = some (.dK ((kvs.map (·.1)).zip xs)) ∧ RpDs g m n i H (kvs.map (·.2)) xs
  | .ins c fs => ∃ dx xs, H (m i) = some (.ins (g.ca c) dx ((fs.map (·.1)).zip xs)) ∧ RpDs g m n i H (fs.map (·.2)) xs
  | .flst ts => ∃ ob xs, H (m i) = some (.frz ob (.lst xs)) ∧ Rps g.toGm0 (Bv g m n) H ts xs
def szOk : HO → Prop
  | .lst xs => xs.length ≤ sizeLine
  | .tup xs => xs.length ≤ sizeLine
  | .dK kvs => kvs.length ≤ sizeLine
  | .dT kvs => kvs.length ≤ sizeLine
  | .frz _ u => szOk u
  | _ => True
/-- what a display or a comprehension fills -/
def fillO : HO → Bool
  | .lst _ => true
  | .dK _ => true
  | _ => false
structure SR (g : Gm) (m : Nat → Addr) (H : Hp) (G : Hs) : Prop where
  ob : ∀ i o, G[i]? = some o → OR g m G.length i H o
  inj : ∀ i j, i < G.length → j < G.length → m i = m j → i = j
  sz : ∀ a o, H a = some o → szOk o
  tb : LamX.Tabs g.tb H
  rv : ∀ a, a ∈ g.rv → (∃ o, H a = some o ∧ fillO o = true) ∧ ¬ Bd m G.length a
structure Ex (m : Nat → Addr) (n : Nat) (H : Hp) (m' : Nat → Addr) (n' : Nat) (H' : Hp) : Prop where
  le : n ≤ n'
  ag : ∀ i, i < n → m' i = m i
  fr : ∀ i, n ≤ i → i < n' → ∀ o, H (m' i) = some o → ∃ ps, o = .tbl ps
  kp : ∀ a o, H a = some o → ¬ Bd m n a → (∀ ps, o ≠ .tbl ps) → H' a = some o
/-- slots -/
def Sl (g : Gm) (m : Nat → Addr) (n : Nat) (H : Hp) (σ : St) (r : Ev) : Prop :=
  σ.length = r.length ∧ ∀ (i : Nat) (d : D), r[i]? = some (some d) → ∃ v, σ[i]? = some (some v) ∧ RpD g m n n H d v

/-! ### small facts -/
section
variable {g : Gm} {m m' : Nat → Addr} {n n' b b' : Nat} {H H' H2 : Hp} {G G' : Hs}
theorem SR.at_ (s : SR g m H G) {i : Nat} (h : i < G.length) : ∃ o, H (m i) = some o ∧ (∀ xs, o ≠ .tup xs) ∧ (∀ ob xs, o ≠ .frz ob (.tup xs)) ∧ (∀ ps, o ≠ .tbl ps) ∧ (∀ f, o ≠ .ext f) := by
  have e := List.getElem?_eq_getElem h
  have q := s.ob i _ e
  cases hq : G[i] with
  | lst ds => rw [hq] at q; obtain ⟨xs, q, _⟩ := q; exact ⟨_, q, by simp⟩
  | dk kvs => rw [hq] at q; obtain ⟨xs, q, _⟩ := q; exact ⟨_, q, by simp⟩
  | ins c fs => rw [hq] at q; obtain ⟨dx, xs, q, _⟩ := q; exact ⟨_, q, by simp⟩
  | flst ts => rw [hq] at q; obtain ⟨ob, xs, q, _⟩ := q; exact ⟨_, q, by simp⟩
theorem SR.bdSome (s : SR g m H G) {a : Addr} (h : Bd m G.length a) : H a ≠ none := by
  obtain ⟨i, hi, rfl⟩ := h
  obtain ⟨o, e, _⟩ := s.at_ hi
  rw [e]; simp
theorem SR.notBd (s : SR g m H G) {a : Addr} (h : H a = none) : ¬ Bv g m G.length a := fun q => q.elim (fun q => s.bdSome q h) fun q => by
  obtain ⟨⟨o, e, _⟩, _⟩ := s.rv a q
  rw [h] at e; cases e
theorem SR.tupNot (s : SR g m H G) {a : Addr} {xs : List V} (h : Rd H a (.tup xs)) : ¬ Bd m G.length a := by
  rintro ⟨i, hi, rfl⟩
  obtain ⟨o, e, h1, h2, _⟩ := s.at_ hi
  rcases h with h | ⟨ob, h⟩
  · rw [e] at h; exact h1 _ (Option.some.inj h)
  · rw [e] at h; exact h2 _ _ (Option.some.inj h)
theorem Ex.bd (x : Ex m n H m' n' H') {a : Addr} {o : HO} (h : H a = some o) (hb : ¬ Bd m n a) (ht : ∀ ps, o ≠ .tbl ps) : ¬ Bd m' n' a := by
  rintro ⟨i, hi, rfl⟩
  by_cases q : i < n
  · exact hb ⟨i, q, (x.ag i q).symm⟩
  · obtain ⟨ps, e⟩ := x.fr i (Nat.le_of_not_lt q) hi _ h
    exact ht ps e
theorem Ex.refl : Ex m n H m n H := ⟨Nat.le_refl _, fun _ _ => rfl, fun i h1 h2 => absurd h2 (Nat.not_lt.mpr h1), fun _ _ h _ _ => h⟩
theorem Ex.trans {m2 : Nat → Addr} {n2 : Nat} (a : Ex m n H m' G'.length H') (s : SR g m' H' G') (c : Ex m' G'.length H' m2 n2 H2) : Ex m n H m2 n2 H2 where
  le := Nat.le_trans a.le c.le
  ag := fun i h => (c.ag i (Nat.lt_of_lt_of_le h a.le)).trans (a.ag i h)
  fr := fun i h1 h2 o e => by
    by_cases q : i < G'.length
    · rw [c.ag i q] at e; exact a.fr i h1 q o e
    · by_cases ht : ∃ ps, o = .tbl ps
      · exact ht
      · have hb : ¬ Bd m n (m2 i) := fun ⟨j, hj, ej⟩ => by
          obtain ⟨o', e', _, _, nt, _⟩ := s.at_ (Nat.lt_of_lt_of_le hj a.le)
          rw [a.ag j hj, ej] at e'
          obtain ⟨ps, e2⟩ := c.fr i (Nat.le_of_not_lt q) h2 _ e'
          exact nt ps e2
        exact c.fr i (Nat.le_of_not_lt q) h2 o (a.kp _ _ e hb fun ps q => ht ⟨ps, q⟩)
  kp := fun x o h hb ht => c.kp x o (a.kp x o h hb ht) (a.bd h hb ht) ht
theorem Ex.rd (x : Ex m n H m' n' H') {a : Addr} {u : HO} (h : Rd H a u) (hb : ¬ Bd m n a) (hu : ∀ ps, u ≠ .tbl ps) : Rd H' a u ∧ ¬ Bd m' n' a := by
  rcases h with h | ⟨ob, h⟩
  · exact ⟨.inl (x.kp _ _ h hb hu), x.bd h hb hu⟩
  · exact ⟨.inr ⟨ob, x.kp _ _ h hb (by simp)⟩, x.bd h hb (by simp)⟩
theorem SqT.ex (x : Ex m G.length H m' n' H') (s : SR g m H G) {K : PySem.W.Frag} {a : Addr} {xs : List V} (h : SqT K H a xs) : SqT K H' a xs := by
  rcases h with h | h
  · exact .inl (x.rd h (s.tupNot h) (by simp)).1
  · exact .inr h
theorem Ex.bv (x : Ex m n H m' n' H') {a : Addr} {o : HO} (h : H a = some o) (hb : ¬ Bv g m n a) (ht : ∀ ps, o ≠ .tbl ps) : ¬ Bv g m' n' a := fun q => q.elim (x.bd h (fun z => hb (.inl z)) ht) fun z => hb (.inr z)
mutual
theorem Rp.ex (x : Ex m G.length H m' n' H') (s : SR g m H G) : ∀ (t : T) (v : V), Rp g.toGm0 (Bv g m G.length) H t v → Rp g.toGm0 (Bv g m' n') H' t v
  | .non, v, h => h
  | .bl b, v, h => h
  | .int i, v, h => h
  | .str y, v, h => h
  | .tup ts, v, ⟨a, xs, e, h, r⟩ => ⟨a, xs, e, SqT.ex x s h, Rps.ex x s ts xs r⟩
  | .lst ts, v, ⟨a, xs, e, h, r⟩ => ⟨a, xs, e, Rl.mv (fun a o h nb ht => ⟨x.kp _ _ h (fun z => nb (.inl z)) ht, x.bv h nb ht⟩) h, Rps.ex x s ts xs r⟩
  | .dk ks ts, v, ⟨a, xs, e, h, l, nb, r⟩ => ⟨a, xs, e, x.kp _ _ h (fun z => nb (.inl z)) (by simp), l, x.bv h nb (by simp), Rps.ex x s ts xs r⟩
  | .obj c ns ts, v, ⟨a, dx, xs, e, h, l, nb, r⟩ => ⟨a, dx, xs, e, x.kp _ _ h (fun z => nb (.inl z)) (by simp), l, x.bv h nb (by simp), Rps.ex x s ts xs r⟩
  | .ftp ts, v, ⟨a, ob, xs, e, h, l, nb, r⟩ => ⟨a, ob, xs, e, x.kp _ _ h (fun z => nb (.inl z)) (by simp), l, x.bv h nb (by simp), Rps.ex x s ts xs r⟩
  | .cls c, v, h => h
theorem Rps.ex (x : Ex m G.length H m' n' H') (s : SR g m H G) : ∀ (ts : List T) (vs : List V), Rps g.toGm0 (Bv g m G.length) H ts vs → Rps g.toGm0 (Bv g m' n') H' ts vs
  | [], vs, h => h
  | t :: ts, vs, ⟨v, ws, e, h, r⟩ => ⟨v, ws, e, Rp.ex x s t v h, Rps.ex x s ts ws r⟩
end
theorem RpD.ex (x : Ex m G.length H m' n' H') (s : SR g m H G) (hb : b ≤ b') (hg : b ≤ G.length) : ∀ {d : D} {v : V}, RpD g m G.length b H d v → RpD g m' n' b' H' d v
  | .t t, v, h => Rp.ex x s t v h
  | .loc i, v, ⟨h, e⟩ => ⟨Nat.lt_of_lt_of_le h hb, by rw [x.ag i (Nat.lt_of_lt_of_le h hg)]; exact e⟩
theorem RpDs.ex (x : Ex m G.length H m' n' H') (s : SR g m H G) (hb : b ≤ b') (hg : b ≤ G.length) : ∀ {ds : List D} {vs : List V}, RpDs g m G.length b H ds vs → RpDs g m' n' b' H' ds vs
  | [], vs, h => h
  | d :: ds, vs, ⟨v, ws, e, h, r⟩ => ⟨v, ws, e, RpD.ex x s hb hg h, RpDs.ex x s hb hg r⟩
theorem Sl.ex (x : Ex m G.length H m' n' H') (s : SR g m H G) {σ : St} {r : Ev} (h : Sl g m G.length H σ r) : Sl g m' n' H' σ r :=
  ⟨h.1, fun i d e => by
    obtain ⟨v, e1, q⟩ := h.2 i d e
    exact ⟨v, e1, RpD.ex x s x.le (Nat.le_refl _) q⟩⟩
mutual
/-- fewer located objects -/
theorem Rp.fewer {B B' : Addr → Prop} (hb : ∀ a, B' a → B a) : ∀ (t : T) (v : V), Rp g.toGm0 B H t v → Rp g.toGm0 B' H t v
  | .non, v, h => h
  | .bl b, v, h => h
  | .int i, v, h => h
  | .str y, v, h => h
  | .tup ts, v, ⟨a, xs, e, h, r⟩ => ⟨a, xs, e, h, Rps.fewer hb ts xs r⟩
  | .lst ts, v, ⟨a, xs, e, h, r⟩ => ⟨a, xs, e, h.fewer (hb _), Rps.fewer hb ts xs r⟩
  | .dk ks ts, v, ⟨a, xs, e, h, l, nb, r⟩ => ⟨a, xs, e, h, l, fun q => nb (hb _ q), Rps.fewer hb ts xs r⟩
  | .obj c ns ts, v, ⟨a, dx, xs, e, h, l, nb, r⟩ => ⟨a, dx, xs, e, h, l, fun q => nb (hb _ q), Rps.fewer hb ts xs r⟩
  | .ftp ts, v, ⟨a, ob, xs, e, h, l, nb, r⟩ => ⟨a, ob, xs, e, h, l, fun q => nb (hb _ q), Rps.fewer hb ts xs r⟩
  | .cls c, v, h => h
theorem Rps.fewer {B B' : Addr → Prop} (hb : ∀ a, B' a → B a) : ∀ (ts : List T) (vs : List V), Rps g.toGm0 B H ts vs → Rps g.toGm0 B' H ts vs
  | [], vs, h => h
  | t :: ts, vs, ⟨v, ws, e, h, r⟩ => ⟨v, ws, e, Rp.fewer hb t v h, Rps.fewer hb ts ws r⟩
end
theorem Bd.mono (h : n ≤ n') {a : Addr} : Bd m n a → Bd m n' a := fun ⟨i, hi, e⟩ => ⟨i, Nat.lt_of_lt_of_le hi h, e⟩
theorem Bv.mono (h : n ≤ n') {a : Addr} : Bv g m n a → Bv g m n' a := fun q => q.elim (fun z => .inl (Bd.mono h z)) .inr
theorem RpD.pop (h : n ≤ n') : ∀ {d : D} {v : V}, RpD g m n' b H d v → RpD g m n b H d v
  | .t t, v, q => Rp.fewer (fun _ => Bv.mono h) t v q
  | .loc i, v, q => q
theorem RpDs.pop (h : n ≤ n') : ∀ {d : List D} {v : List V}, RpDs g m n' b H d v → RpDs g m n b H d v
  | [], vs, h => h
  | d :: ds, vs, ⟨v, ws, e, q, r⟩ => ⟨v, ws, e, RpD.pop h q, RpDs.pop h r⟩
/-- the younger locations forgotten -/
theorem SR.pop (s : SR g m H G) (k : Nat) : SR g m H (G.take k) := by
  have hl : (G.take k).length ≤ G.length := by rw [List.length_take]; exact Nat.min_le_right _ _
  refine ⟨fun i o e => ?_, fun i j h1 h2 => s.inj i j (Nat.lt_of_lt_of_le h1 hl) (Nat.lt_of_lt_of_le h2 hl), s.sz, s.tb, fun a ha => ⟨(s.rv a ha).1, fun q => (s.rv a ha).2 (Bd.mono hl q)⟩⟩
  rw [List.getElem?_take] at e
  split at e
  · have q := s.ob i o e
    cases o with
    | lst ds => obtain ⟨xs, e, r⟩ := q; exact ⟨xs, e, RpDs.pop hl r⟩
    | dk kvs => obtain ⟨xs, e, r⟩ := q; exact ⟨xs, e, RpDs.pop hl r⟩
    | ins c fs => obtain ⟨dx, xs, e, r⟩ := q; exact ⟨dx, xs, e, RpDs.pop hl r⟩
    | flst ts => obtain ⟨ob, xs, e, r⟩ := q; exact ⟨ob, xs, e, Rps.fewer (fun _ => Bv.mono hl) _ _ r⟩
  · cases e
/-! ### moved to another heap, other places -/
mutual
theorem Rp.mv {g : Gm0} {B B' : Addr → Prop} (kp : ∀ a o, H a = some o → ¬ B a → (∀ ps, o ≠ .tbl ps) → H' a = some o ∧ ¬ B' a) (kt : ∀ a xs, SqT g.K H a xs → SqT g.K H' a xs) : ∀ (t : T) (v : V), Rp g B H t v → Rp g B' H' t v
  | .non, v, h => h
  | .bl b, v, h => h
  | .int i, v, h => h
  | .str y, v, h => h
  | .tup ts, v, ⟨a, xs, e, h, r⟩ => ⟨a, xs, e, kt _ _ h, Rps.mv kp kt ts xs r⟩
  | .lst ts, v, ⟨a, xs, e, h, r⟩ => ⟨a, xs, e, Rl.mv kp h, Rps.mv kp kt ts xs r⟩
  | .dk ks ts, v, ⟨a, xs, e, h, l, nb, r⟩ => ⟨a, xs, e, (kp _ _ h nb (by simp)).1, l, (kp _ _ h nb (by simp)).2, Rps.mv kp kt ts xs r⟩
  | .obj c ns ts, v, ⟨a, dx, xs, e, h, l, nb, r⟩ => ⟨a, dx, xs, e, (kp _ _ h nb (by simp)).1, l, (kp _ _ h nb (by simp)).2, Rps.mv kp kt ts xs r⟩
  | .ftp ts, v, ⟨a, ob, xs, e, h, l, nb, r⟩ => ⟨a, ob, xs, e, (kp _ _ h nb (by simp)).1, l, (kp _ _ h nb (by simp)).2, Rps.mv kp kt ts xs r⟩
  | .cls c, v, h => h
theorem Rps.mv {g : Gm0} {B B' : Addr → Prop} (kp : ∀ a o, H a = some o → ¬ B a → (∀ ps, o ≠ .tbl ps) → H' a = some o ∧ ¬ B' a) (kt : ∀ a xs, SqT g.K H a xs → SqT g.K H' a xs) : ∀ (ts : List T) (vs : List V), Rps g B H ts vs → Rps g B' H' ts vs
  | [], vs, h => h
  | t :: ts, vs, ⟨v, ws, e, h, r⟩ => ⟨v, ws, e, Rp.mv kp kt t v h, Rps.mv kp kt ts ws r⟩
end
abbrev Gm.rvd (g : Gm) (rv : List Addr) : Gm := ⟨g.toGm0, g.tb, rv⟩
/-- what the values' new places must be -/
structure Mv (g : Gm) (m : Nat → Addr) (n : Nat) (H : Hp) (g' : Gm) (m' : Nat → Addr) (n' : Nat) (H' : Hp) : Prop where
  g0 : g'.toGm0 = g.toGm0
  kp : ∀ a o, H a = some o → ¬ Bv g m n a → (∀ ps, o ≠ .tbl ps) → H' a = some o ∧ ¬ Bv g' m' n' a
  kt : ∀ a xs, SqT g.K H a xs → SqT g.K H' a xs
  ag : ∀ i, i < n → m' i = m i
theorem RpD.mv {g' : Gm} (x : Mv g m n H g' m' n' H') (hb : b ≤ b') (hg : b ≤ n) : ∀ {d : D} {v : V}, RpD g m n b H d v → RpD g' m' n' b' H' d v
  | .t t, v, h => by show Rp g'.toGm0 _ _ _ _; rw [x.g0]; exact Rp.mv x.kp x.kt t v h
  | .loc i, v, ⟨h, e⟩ => ⟨Nat.lt_of_lt_of_le h hb, by rw [x.ag i (Nat.lt_of_lt_of_le h hg)]; exact e⟩
theorem RpDs.mv {g' : Gm} (x : Mv g m n H g' m' n' H') (hb : b ≤ b') (hg : b ≤ n) : ∀ {ds : List D} {vs : List V}, RpDs g m n b H ds vs → RpDs g' m' n' b' H' ds vs
  | [], vs, h => h
  | d :: ds, vs, ⟨v, ws, e, h, r⟩ => ⟨v, ws, e, RpD.mv x hb hg h, RpDs.mv x hb hg r⟩
theorem OR.mv {g' : Gm} (x : Mv g m n H g' m' n' H') {i : Nat} (hi : i < n) (hs : H' (m i) = H (m i)) : ∀ {o : O}, OR g m n i H o → OR g' m' n' i H' o := by
  intro o q
  have hm := x.ag i hi
  have hc : g'.ca = g.ca := by rw [x.g0]
  cases o with
  | lst ds => obtain ⟨xs, e, r⟩ := q; exact ⟨xs, by rw [hm, hs]; exact e, RpDs.mv x (Nat.le_refl _) (Nat.le_of_lt hi) r⟩
  | dk kvs => obtain ⟨xs, e, r⟩ := q; exact ⟨xs, by rw [hm, hs]; exact e, RpDs.mv x (Nat.le_refl _) (Nat.le_of_lt hi) r⟩
  | ins c fs => obtain ⟨dx, xs, e, r⟩ := q; exact ⟨dx, xs, by rw [hm, hs, hc]; exact e, RpDs.mv x (Nat.le_refl _) (Nat.le_of_lt hi) r⟩
  | flst ts => obtain ⟨ob, xs, e, r⟩ := q; exact ⟨ob, xs, by rw [hm, hs]; exact e, by rw [x.g0]; exact Rps.mv x.kp x.kt _ _ r⟩
theorem Sl.mv {g' : Gm} (x : Mv g m n H g' m' n' H') (hn : n ≤ n') {σ : St} {r : Ev} (h : Sl g m n H σ r) : Sl g' m' n' H' σ r :=
  ⟨h.1, fun i d e => by
    obtain ⟨v, e1, q⟩ := h.2 i d e
    exact ⟨v, e1, RpD.mv x hn (Nat.le_refl _) q⟩⟩
/-- fewer or other lists are being filled: those that are new were not there -/
theorem Ex.mv (x : Ex m G.length H m' n' H') (s : SR g m H G) {rv : List Addr} (hr : ∀ a, a ∈ rv → a ∈ g.rv ∨ H a = none) : Mv g m G.length H (g.rvd rv) m' n' H' where
  g0 := rfl
  kp := fun a o h nb ht => ⟨x.kp a o h (fun z => nb (.inl z)) ht, fun q => by
    rcases q with q | q
    · exact x.bd h (fun z => nb (.inl z)) ht q
    · rcases hr a q with z | z
      · exact nb (.inr z)
      · rw [h] at z; cases z⟩
  kt := fun a xs h => SqT.ex x s h
  ag := x.ag
/-- .. where the lists that are being filled may have been filled further -/
structure Exr (g : Gm) (m : Nat → Addr) (n : Nat) (H : Hp) (m' : Nat → Addr) (n' : Nat) (H' : Hp) : Prop where
  le : n ≤ n'
  ag : ∀ i, i < n → m' i = m i
  fr : ∀ i, n ≤ i → i < n' → ∀ o, H (m' i) = some o → ∃ ps, o = .tbl ps
  kp : ∀ a o, H a = some o → ¬ Bd m n a → a ∉ g.rv → (∀ ps, o ≠ .tbl ps) → H' a = some o
theorem Ex.r (x : Ex m n H m' n' H') : Exr g m n H m' n' H' := ⟨x.le, x.ag, x.fr, fun a o h nb _ ht => x.kp a o h nb ht⟩
theorem Exr.bd (x : Exr g m n H m' n' H') {a : Addr} {o : HO} (h : H a = some o) (hb : ¬ Bd m n a) (ht : ∀ ps, o ≠ .tbl ps) : ¬ Bd m' n' a := by
  rintro ⟨i, hi, rfl⟩
  by_cases q : i < n
  · exact hb ⟨i, q, (x.ag i q).symm⟩
  · obtain ⟨ps, e⟩ := x.fr i (Nat.le_of_not_lt q) hi _ h
    exact ht ps e
theorem Exr.mv (x : Exr g m G.length H m' n' H') (s : SR g m H G) {rv : List Addr} (hr : ∀ a, a ∈ rv → a ∈ g.rv ∨ H a = none) : Mv g m G.length H (g.rvd rv) m' n' H' where
  g0 := rfl
  kp := fun a o h nb ht => ⟨x.kp a o h (fun z => nb (.inl z)) (fun z => nb (.inr z)) ht, fun q => by
    rcases q with q | q
    · exact x.bd h (fun z => nb (.inl z)) ht q
    · rcases hr a q with z | z
      · exact nb (.inr z)
      · rw [h] at z; cases z⟩
  kt := fun a xs h => by
    rcases h with h | h
    · refine .inl ?_
      have nr : a ∉ g.rv := fun z => by
        obtain ⟨⟨o, e, hf⟩, _⟩ := s.rv a z
        rcases h with h | ⟨ob, h⟩
        · rw [h] at e; cases e; cases hf
        · rw [h] at e; cases e; cases hf
      have nb := s.tupNot h
      rcases h with h | ⟨ob, h⟩
      · exact .inl (x.kp _ _ h nb nr (by simp))
      · exact .inr ⟨ob, x.kp _ _ h nb nr (by simp)⟩
    · exact .inr h
  ag := x.ag
theorem Exr.trans {m2 : Nat → Addr} {n2 : Nat} (a : Exr g m n H m' G'.length H') (s : SR g m' H' G') (c : Ex m' G'.length H' m2 n2 H2) : Exr g m n H m2 n2 H2 where
  le := Nat.le_trans a.le c.le
  ag := fun i h => (c.ag i (Nat.lt_of_lt_of_le h a.le)).trans (a.ag i h)
  fr := fun i h1 h2 o e => by
    by_cases q : i < G'.length
    · rw [c.ag i q] at e; exact a.fr i h1 q o e
    · by_cases ht : ∃ ps, o = .tbl ps
      · exact ht
      · have hb : ¬ Bd m n (m2 i) := fun ⟨j, hj, ej⟩ => by
          obtain ⟨o', e', _, _, nt, _⟩ := s.at_ (Nat.lt_of_lt_of_le hj a.le)
          rw [a.ag j hj, ej] at e'
          obtain ⟨ps, e2⟩ := c.fr i (Nat.le_of_not_lt q) h2 _ e'
          exact nt ps e2
        have hr : m2 i ∉ g.rv := fun z => by
          obtain ⟨⟨o', e', hf⟩, _⟩ := s.rv _ z
          obtain ⟨ps, e2⟩ := c.fr i (Nat.le_of_not_lt q) h2 _ e'
          rw [e2] at hf; cases hf
        exact c.fr i (Nat.le_of_not_lt q) h2 o (a.kp _ _ e hb hr fun ps q => ht ⟨ps, q⟩)
  kp := fun x o h hb hr ht => c.kp x o (a.kp x o h hb hr ht) (a.bd h hb ht) ht
theorem Exr.fill {Da : Addr} {o : HO} (x : Exr g m n H m' n' H') (hr : Da ∈ g.rv) : Exr g m n H m' n' (upd H' Da o) where
  le := x.le
  ag := x.ag
  fr := x.fr
  kp := fun a u h nb na ht => by rw [upd_ne (fun q => na (by rw [q]; exact hr))]; exact x.kp a u h nb na ht
theorem SR.less (s : SR g m H G) {rv : List Addr} (hr : ∀ a, a ∈ rv → a ∈ g.rv) : SR (g.rvd rv) m H G := by
  have x : Mv g m G.length H (g.rvd rv) m G.length H := Ex.mv Ex.refl s fun a h => .inl (hr a h)
  exact ⟨fun i o e => OR.mv x ((List.getElem?_eq_some_iff.mp e).1) rfl (s.ob i o e), s.inj, s.sz, s.tb, fun a ha => s.rv a (hr a ha)⟩
/-! ### lengths and places -/
theorem Rps.length {B : Addr → Prop} : ∀ {ts : List T} {vs : List V}, Rps g.toGm0 B H ts vs → ts.length = vs.length
  | [], vs, h => by cases h; rfl
  | t :: ts, vs, ⟨v, ws, e, h, r⟩ => by subst e; simp [Rps.length r]
theorem RpDs.length : ∀ {ts : List D} {vs : List V}, RpDs g m n b H ts vs → ts.length = vs.length
  | [], vs, h => by cases h; rfl
  | t :: ts, vs, ⟨v, ws, e, h, r⟩ => by subst e; simp [RpDs.length r]
theorem Rps.get {B : Addr → Prop} : ∀ {ts : List T} {vs : List V} {i : Nat} {t : T}, Rps g.toGm0 B H ts vs → ts[i]? = some t → ∃ v, vs[i]? = some v ∧ Rp g.toGm0 B H t v
  | [], vs, i, t, h, e => by simp at e
  | t :: ts, vs, 0, _, ⟨v, ws, e, h, r⟩, q => by subst e; simp at q; subst q; exact ⟨v, rfl, h⟩
  | t :: ts, vs, i + 1, _, ⟨v, ws, e, h, r⟩, q => by subst e; simp at q; obtain ⟨v', a, b⟩ := Rps.get r q; exact ⟨v', by simpa using a, b⟩
theorem RpDs.get : ∀ {ts : List D} {vs : List V} {i : Nat} {t : D}, RpDs g m n b H ts vs → ts[i]? = some t → ∃ v, vs[i]? = some v ∧ RpD g m n b H t v
  | [], vs, i, t, h, e => by simp at e
  | t :: ts, vs, 0, _, ⟨v, ws, e, h, r⟩, q => by subst e; simp at q; subst q; exact ⟨v, rfl, h⟩
  | t :: ts, vs, i + 1, _, ⟨v, ws, e, h, r⟩, q => by subst e; simp at q; obtain ⟨v', a, b⟩ := RpDs.get r q; exact ⟨v', by simpa using a, b⟩
theorem RpDs.ofT : ∀ {ts : List T} {vs : List V}, Rps g.toGm0 (Bv g m n) H ts vs → RpDs g m n b H (ts.map D.t) vs
  | [], vs, h => h
  | t :: ts, vs, ⟨v, ws, e, h, r⟩ => ⟨v, ws, e, h, RpDs.ofT r⟩
theorem RpDs.append : ∀ {ds es : List D} {vs ws : List V}, RpDs g m n b H ds vs → RpDs g m n b H es ws → RpDs g m n b H (ds ++ es) (vs ++ ws)
  | [], es, vs, ws, h, k => by cases h; exact k
  | d :: ds, es, vs, ws, ⟨v, us, e, h, r⟩, k => ⟨v, us ++ ws, by rw [e]; rfl, h, RpDs.append r k⟩
theorem Rps.append {B : Addr → Prop} : ∀ {ds es : List T} {vs ws : List V}, Rps g.toGm0 B H ds vs → Rps g.toGm0 B H es ws → Rps g.toGm0 B H (ds ++ es) (vs ++ ws)
  | [], es, vs, ws, h, k => by cases h; exact k
  | d :: ds, es, vs, ws, ⟨v, us, e, h, r⟩, k => ⟨v, us ++ ws, by rw [e]; rfl, h, Rps.append r k⟩
theorem Rps.take {B : Addr → Prop} : ∀ {ts : List T} {vs : List V} (k : Nat), Rps g.toGm0 B H ts vs → Rps g.toGm0 B H (ts.take k) (vs.take k)
  | _, _, 0, _ => by simp [Rps]
  | [], vs, k + 1, h => by cases h; simp [Rps]
  | t :: ts, vs, k + 1, ⟨v, ws, e, h, r⟩ => ⟨v, ws.take k, by rw [e]; rfl, h, Rps.take k r⟩
theorem Rps.drop {B : Addr → Prop} : ∀ {ts : List T} {vs : List V} (k : Nat), Rps g.toGm0 B H ts vs → Rps g.toGm0 B H (ts.drop k) (vs.drop k)
  | _, _, 0, h => by simpa using h
  | [], vs, k + 1, h => by cases h; simp [Rps]
  | t :: ts, vs, k + 1, ⟨v, ws, e, h, r⟩ => by subst e; simpa using Rps.drop k r
end
end BL

set_option Elab.async false
set_option linter.all false
set_option maxRecDepth 100000
set_option maxHeartbeats 1000000
namespace BL
open PySem L2

section
variable {g : Gm} {m m' : Nat → Addr} {n n' b b' : Nat} {H H' H2 : Hp} {G G' : Hs}
/-! ### a new object that is plain data -/
theorem Ex.new {p : Addr} {o : HO} (h : H p = none) : Ex m n H m n (upd H p o) where
  le := Nat.le_refl _
  ag := fun _ _ => rfl
  fr := fun i h1 h2 => absurd h2 (Nat.not_lt.mpr h1)
  kp := fun a u e _ _ => by rw [upd_ne (ne_of_none e h)]; exact e
theorem OR.ex (x : Ex m G.length H m' n' H') (s : SR g m H G) {i : Nat} (hi : i < G.length) (hs : H' (m i) = H (m i)) : ∀ {o : O}, OR g m G.length i H o → OR g m' n' i H' o := by
  intro o q
  have hm := x.ag i hi
  cases o with
  | lst ds => obtain ⟨xs, e, r⟩ := q; exact ⟨xs, by rw [hm, hs]; exact e, RpDs.ex x s (Nat.le_refl _) (Nat.le_of_lt hi) r⟩
  | dk kvs => obtain ⟨xs, e, r⟩ := q; exact ⟨xs, by rw [hm, hs]; exact e, RpDs.ex x s (Nat.le_refl _) (Nat.le_of_lt hi) r⟩
  | ins c fs => obtain ⟨dx, xs, e, r⟩ := q; exact ⟨dx, xs, by rw [hm, hs]; exact e, RpDs.ex x s (Nat.le_refl _) (Nat.le_of_lt hi) r⟩
  | flst ts => obtain ⟨ob, xs, e, r⟩ := q; exact ⟨ob, xs, by rw [hm, hs]; exact e, Rps.ex x s _ _ r⟩
theorem getLt {α : Type} {l : List α} {i : Nat} {o : α} (e : l[i]? = some o) : i < l.length := (List.getElem?_eq_some_iff.mp e).1
theorem Tabs.new {T : List (Addr × Str)} {p : Addr} {o : HO} (t : LamX.Tabs T H) (h : H p = none) : LamX.Tabs T (upd H p o) :=
  t.ext fun b u e => by rw [upd_ne (ne_of_none e h)]; exact e
theorem SR.new (s : SR g m H G) {p : Addr} {o : HO} (h : H p = none) (hz : szOk o) : SR g m (upd H p o) G := by
  refine ⟨fun i ob e => ?_, s.inj, fun a u e => ?_, Tabs.new s.tb h, fun a ha => ?_⟩
  · have hi := getLt e
    obtain ⟨u, eu, _⟩ := s.at_ hi
    exact OR.ex (Ex.new h) s hi (upd_ne (ne_of_none eu h)) (s.ob i ob e)
  · by_cases q : a = p
    · subst q; rw [upd_same] at e; cases e; exact hz
    · rw [upd_ne q] at e; exact s.sz a u e
  · obtain ⟨⟨u, e, hf⟩, nb⟩ := s.rv a ha
    exact ⟨⟨u, by rw [upd_ne (ne_of_none e h)]; exact e, hf⟩, nb⟩
/-! ### a new located object -/
def mAt (m : Nat → Addr) (n : Nat) (p : Addr) : Nat → Addr := fun i => if i = n then p else m i
theorem mAt_same : mAt m n p n = p := if_pos rfl
theorem mAt_lt {i : Nat} {p : Addr} (h : i < n) : mAt m n p i = m i := if_neg (Nat.ne_of_lt h)
theorem Ex.loc {p : Addr} {o : HO} (h : H p = none) : Ex m n H (mAt m n p) (n + 1) (upd H p o) where
  le := Nat.le_succ _
  ag := fun i hi => mAt_lt hi
  fr := fun i h1 h2 => by
    have : i = n := by omega
    subst this; rw [mAt_same, h]; intro o e; cases e
  kp := fun a u e _ _ => by rw [upd_ne (ne_of_none e h)]; exact e
theorem SR.loc (s : SR g m H G) {p : Addr} {o : HO} {ob : O} (h : H p = none) (hz : szOk o) (ho : OR g (mAt m G.length p) (G.length + 1) G.length (upd H p o) ob) : SR g (mAt m G.length p) (upd H p o) (G ++ [ob]) := by
  have hl : (G ++ [ob]).length = G.length + 1 := by simp
  refine ⟨fun i u e => ?_, fun i j h1 h2 e => ?_, fun a u e => ?_, Tabs.new s.tb h, fun a ha => ?_⟩
  · rw [hl]
    by_cases hi : i < G.length
    · rw [List.getElem?_append_left hi] at e
      obtain ⟨w, ew, _⟩ := s.at_ hi
      exact OR.ex (Ex.loc h) s hi (upd_ne (ne_of_none ew h)) (s.ob i u e)
    · have h2 := getLt e
      have : i = G.length := by omega
      subst this
      simp at e
      subst e
      exact ho
  · rw [hl] at h1 h2
    by_cases hi : i < G.length
    · by_cases hj : j < G.length
      · rw [mAt_lt hi, mAt_lt hj] at e; exact s.inj i j hi hj e
      · have : j = G.length := by omega
        subst this
        rw [mAt_lt hi, mAt_same] at e
        obtain ⟨w, ew, _⟩ := s.at_ hi
        rw [e, h] at ew; cases ew
    · have : i = G.length := by omega
      subst this
      by_cases hj : j < G.length
      · rw [mAt_lt hj, mAt_same] at e
        obtain ⟨w, ew, _⟩ := s.at_ hj
        rw [← e, h] at ew; cases ew
      · omega
  · by_cases q : a = p
    · subst q; rw [upd_same] at e; cases e; exact hz
    · rw [upd_ne q] at e; exact s.sz a u e
  · obtain ⟨⟨u, e, hf⟩, nb⟩ := s.rv a ha
    refine ⟨⟨u, by rw [upd_ne (ne_of_none e h)]; exact e, hf⟩, ?_⟩
    rw [hl]
    exact (Ex.loc (o := o) h).bd e nb (fun ps q => by rw [q] at hf; cases hf)
/-! ### a located object is written -/
theorem Ex.write (s : SR g m H G) {i : Nat} {o : HO} (hi : i < G.length) : Ex m G.length H m G.length (upd H (m i) o) where
  le := Nat.le_refl _
  ag := fun _ _ => rfl
  fr := fun i h1 h2 => absurd h2 (Nat.not_lt.mpr h1)
  kp := fun a u e nb _ => by rw [upd_ne (fun q => nb ⟨i, hi, q.symm⟩)]; exact e
theorem Tabs.write (s : SR g m H G) {i : Nat} {o : HO} (hi : i < G.length) : LamX.Tabs g.tb (upd H (m i) o) := fun p hp => by
  obtain ⟨ps, h1, h2, h3⟩ := s.tb p hp
  obtain ⟨w, ew, _, _, nt, ne⟩ := s.at_ hi
  refine ⟨ps, ?_, h2, fun pos cv hc => ?_⟩
  · rw [upd_ne]
    · exact h1
    · intro q; rw [← q, h1] at ew; exact nt ps (Option.some.inj ew).symm
  · obtain ⟨c, e1, e2⟩ := h3 pos cv hc
    refine ⟨c, e1, ?_⟩
    rw [upd_ne]
    · exact e2
    · intro q; rw [← q, e2] at ew; exact ne _ (Option.some.inj ew).symm
theorem SR.write (s : SR g m H G) {i : Nat} {o : HO} {ob : O} (hi : i < G.length) (hz : szOk o) (ho : OR g m G.length i (upd H (m i) o) ob) : SR g m (upd H (m i) o) (G.set i ob) := by
  have hl : (G.set i ob).length = G.length := by simp
  refine ⟨fun j u e => ?_, fun j k h1 h2 e => ?_, fun a u e => ?_, Tabs.write s hi, fun a ha => ?_⟩
  · rw [hl]
    by_cases q : j = i
    · subst q
      rw [List.getElem?_set_self hi] at e
      cases e
      exact ho
    · rw [List.getElem?_set_ne (Ne.symm q)] at e
      have hj := getLt e
      exact OR.ex (Ex.write s hi) s hj (upd_ne (fun z => q (s.inj j i hj hi z))) (s.ob j u e)
  · rw [hl] at h1 h2; exact s.inj j k h1 h2 e
  · by_cases q : a = m i
    · subst q; rw [upd_same] at e; cases e; exact hz
    · rw [upd_ne q] at e; exact s.sz a u e
  · obtain ⟨⟨u, e, hf⟩, nb⟩ := s.rv a ha
    refine ⟨⟨u, by rw [upd_ne (fun q => nb ⟨i, hi, q.symm⟩)]; exact e, hf⟩, ?_⟩
    rw [hl]; exact nb
end

/-! ### the judgement of an expression -/
abbrev De := Ev → Hs → Re
abbrev Dst := Ev → Hs → Rs
def PostE (g : Gm) (W : WX) (m : Nat → Addr) (n : Nat) (H : Hp) (σ : St) (Q : VK) : Re → Prop
  | .ok x G' => ∀ v m' H', Ex m n H m' G'.length H' → SR g m' H' G' → RpD g m' G'.length G'.length H' x v → Q v H'
  | .exc c ns ds G' => ∀ da m' H' xs, Ex m n H m' G'.length H' → SR g m' H' G' → H' da = some (.xd (ns.zip xs)) → ¬ Bd m' G'.length da → RpDs g m' G'.length G'.length H' ds xs → W (.ref (g.ca c)) (some da) σ H'
  | .stuck => False
def tI (g : Gm) (W : WX) (d : De) : TE := fun σ H Q => ∃ m r G, SR g m H G ∧ Sl g m G.length H σ r ∧ PostE g W m G.length H σ Q (d r G)
structure Zb where
  P : Program
  w : World
  K : PySem.W.Frag
  mg : Str → Option Value
  base : Heap
  ca : Nat → Addr
  tb : List (Addr × Str)
def Zb.g (Z : Zb) : Gm := ⟨⟨Z.K, Z.ca⟩, Z.tb, []⟩
structure Zc extends Zb where
  rv : List Addr
  N : List Str
  sc : Scope
  fn : Str → Bool
  k : Nat
  cq : Option (Addr × Str) := none
def Zc.g (Z : Zc) : Gm := ⟨⟨Z.K, Z.ca⟩, Z.tb, Z.rv⟩
structure Ok (Z : Zc) (X : Cx) (W : WX) : Prop where
  P : X.prog = Z.P
  w : X.w = Z.w
  K : X.K = Z.K
  mg : X.mg = Z.mg
  base : X.base = Z.base
  N : X.N = Z.N
  sc : X.env.scope = Z.sc
  fn : X.fn = Z.fn
  nd : X.N.Nodup
  calm : X.calm = true
  tk : Takes X W
  po : PassesOwn (model X.prog X.w) X.A X.env X.xe
  rm : Room Z.k X.A
  cq : ∀ c q, Z.cq = some (c, q) → X.env.code = .ref c ∧ X.env.qual = q
def PD (Z : Zc) (e : Expr) (d : De) : Prop := ∀ X W, Ok Z X W → PE X e (tI Z.g W d)

theorem peI {X : Cx} {e : Expr} {t t' : TE} (h : PE X e t) (k : ∀ σ H Q, t' σ H Q → t σ H Q) : PE X e t' := ⟨fun pins s σ H Q I z => h.run pins s σ H Q I (k σ H Q z)⟩
theorem ptI {X : Cx} {e : Expr} {t t' : TT} (h : PT X e t) (k : ∀ σ H Q, t' σ H Q → t σ H Q) : PT X e t' := ⟨fun pins s σ H Q I z => h.run pins s σ H Q I (k σ H Q z)⟩
theorem psI {X : Cx} {e : Stmt} {t t' : TS} (h : PS X e t) (k : ∀ D σ H, t' D σ H → t D σ H) : PS X e t' := ⟨fun pins s σ H Q I z => h.run pins s σ H Q I (k Q σ H z)⟩
theorem pssI {X : Cx} {e : List Stmt} {t t' : TS} (h : PSs X e t) (k : ∀ D σ H, t' D σ H → t D σ H) : PSs X e t' := ⟨fun pins s σ H Q I z => h.run pins s σ H Q I (k Q σ H z)⟩
theorem paI {X : Cx} {e : List Expr} {t t' : TA} (h : PA X e t) (k : ∀ σ H Q, t' σ H Q → t σ H Q) : PA X e t' := ⟨fun pos pins s σ H Q I z => h.run pos pins s σ H Q I (k σ H Q z)⟩

def Re.bind : Re → (D → Hs → Re) → Re
  | .ok d G, k => k d G
  | .exc c ns ds G, _ => .exc c ns ds G
  | .stuck, _ => .stuck
@[simp] theorem bind_ok {d : D} {G : Hs} {k : D → Hs → Re} : (Re.ok d G).bind k = k d G := rfl
@[simp] theorem bind_exc {c : Nat} {ns : List Str} {ds : List D} {G : Hs} {k : D → Hs → Re} : (Re.exc c ns ds G).bind k = .exc c ns ds G := rfl
@[simp] theorem bind_stuck {k : D → Hs → Re} : Re.stuck.bind k = .stuck := rfl

section
variable {g : Gm} {W : WX} {m m1 : Nat → Addr} {n : Nat} {H H1 : Hp} {G G1 : Hs} {σ : St} {Q Q' : VK} {r : Ev}
theorem PostE.trans (x : Ex m n H m1 G1.length H1) (s : SR g m1 H1 G1) {q : Re} (p : PostE g W m n H σ Q q) : PostE g W m1 G1.length H1 σ Q q := by
  cases q with
  | ok d G' => exact fun v m' H' x' s' r => p v m' H' (x.trans s x') s' r
  | exc c ns ds G' => exact fun da m' H' xs x' s' h nb r => p da m' H' xs (x.trans s x') s' h nb r
  | stuck => exact p
theorem tI_bind {d : De} {k : D → Hs → Re} {R : VK} (s : SR g m H G) (sl : Sl g m G.length H σ r) (p : PostE g W m G.length H σ Q ((d r G).bind k))
    (next : ∀ x G1 v m1 H1, d r G = .ok x G1 → Ex m G.length H m1 G1.length H1 → SR g m1 H1 G1 → Sl g m1 G1.length H1 σ r → RpD g m1 G1.length G1.length H1 x v → PostE g W m1 G1.length H1 σ Q (k x G1) → R v H1) : tI g W d σ H R := by
  refine ⟨m, r, G, s, sl, ?_⟩
  cases e : d r G with
  | ok x G1 =>
    rw [e] at p
    intro v m1 H1 x1 s1 rv
    exact next x G1 v m1 H1 e x1 s1 (Sl.ex x1 s sl) rv (PostE.trans x1 s1 p)
  | exc c ns ds G' => rw [e] at p; exact p
  | stuck => rw [e] at p; exact p
theorem PostE.ok (s : SR g m H G) (p : PostE g W m G.length H σ Q (.ok d G)) {v : V} (rv : RpD g m G.length G.length H d v) : Q v H := p v m H Ex.refl s rv
end

/-! ### names and constants -/
def dVar (i : Nat) : De := fun r G => match r[i]? with
  | some (some d) => .ok d G
  | _ => .stuck
def dC (t : T) : De := fun _ G => .ok (.t t) G
def flatT : T → Bool
  | .non => true | .bl _ => true | .int _ => true | .str _ => true | _ => false
section
variable {Z : Zc} {pos : Pos}
theorem pd_var {i : Nat} {x : Str} (hN : Z.N[i]? = some x := by rfl) (hv : Vis Z.sc x := by first | exact Or.inl rfl | exact Or.inr (Or.inl rfl) | exact Or.inr (Or.inr rfl))
    (hd : (x == ("__debug__" : Str)) = false := by decide) (hcd : (x == ("__classdict__" : Str)) = false := by decide) : PD Z (.Name x pos) (dVar i) := fun X W ok => by
  refine peI (pe_var (i := i) (by rw [ok.N]; exact hN) (by rw [ok.sc]; exact hv) hd hcd) fun σ H Q h => ?_
  obtain ⟨m, r, G, s, sl, p⟩ := h
  unfold dVar at p
  cases e : r[i]? with
  | none => rw [e] at p; exact p.elim
  | some o =>
    cases o with
    | none => rw [e] at p; exact p.elim
    | some d =>
      rw [e] at p
      obtain ⟨v, e1, rv⟩ := sl.2 i d e
      exact ⟨v, e1, p.ok s rv⟩
theorem pd_cst {c : Const} {j : Nat} {v : V} {t : T} (h : ∀ X : Cx, PE X (.Constant c j pos) (tC v)) (hr : ∀ g B H, Rp g B H t v) : PD Z (.Constant c j pos) (dC t) := fun X W ok =>
  peI (h X) fun σ H Q ⟨m, r, G, s, sl, p⟩ => PostE.ok (d := .t t) s p (hr _ _ _)
theorem pd_int {i : Int} {j : Nat} : PD Z (.Constant (.int i) j pos) (dC (.int i)) := pd_cst (fun _ => pe_int) fun _ _ _ => rfl
theorem pd_bl {i : Bool} {j : Nat} : PD Z (.Constant (.bool i) j pos) (dC (.bl i)) := pd_cst (fun _ => pe_bl) fun _ _ _ => rfl
theorem pd_str {i : Str} {j : Nat} (h : okS i := by decide +kernel) : PD Z (.Constant (.str i) j pos) (dC (.str i)) := pd_cst (fun _ => pe_str) fun _ _ _ => ⟨rfl, h⟩
theorem pd_non {j : Nat} : PD Z (.Constant .none j pos) (dC .non) := pd_cst (fun _ => pe_non) fun _ _ _ => rfl
/-- a module's constant that is flat -/
theorem pd_glob {x : Str} {v : V} {u : Value} {t : T} (hg : Z.sc.names.lookup x = some .globalImplicit) (hm : Z.mg x = some u) (hu : RelV v u) (hr : ∀ g B H, Rp g B H t v) (hd : (x == ("__debug__" : Str)) = false := by decide) : PD Z (.Name x pos) (dC t) := fun X W ok => by
  refine peI (pe_glob (v := v) (u := u) (show X.env.scope.names.lookup x = _ by rw [ok.sc]; exact hg) (by rw [ok.mg]; exact hm) hu hd) fun σ H Q ⟨m, r, G, s, sl, p⟩ => PostE.ok (d := .t t) s p (hr _ _ _)
/-! ### two values and an operation -/
def dBin (f : D → D → Hs → Re) (a b : De) : De := fun r G => (a r G).bind fun x G1 => (b r G1).bind fun y G2 => f x y G2
/-- what the operation's rule asks follows from what the operation gives -/
def OpA (g : Gm) (q : R2) (f : D → D → Hs → Re) : Prop := ∀ (W : WX) (m : Nat → Addr) (H : Hp) (G : Hs) (σ : St) (Q : VK) (x y : D) (v u : V), SR g m H G → RpD g m G.length G.length H x v → RpD g m G.length G.length H y u → PostE g W m G.length H σ Q (f x y G) → q v u H Q
theorem tI_bin {W : WX} {q : R2} {f : D → D → Hs → Re} {a b : De} (ha : OpA Z.g q f) {σ : St} {H : Hp} {Q : VK} (h : tI Z.g W (dBin f a b) σ H Q) : tOp q (tI Z.g W a) (tI Z.g W b) σ H Q := by
  obtain ⟨m, r, G, s, sl, p⟩ := h
  refine tI_bind s sl p fun x G1 v m1 H1 e x1 s1 sl1 rv p1 => ?_
  refine tI_bind s1 sl1 p1 fun y G2 u m2 H2 e2 x2 s2 sl2 ru p2 => ?_
  exact ha W m2 H2 G2 σ Q x y v u s2 (RpD.ex x2 s1 x2.le (Nat.le_refl _) rv) ru p2
theorem pd_bin {op : Operator} {f : D → D → Hs → Re} {a b : Expr} {da db : De} (q : Cx → R2) (ho : ∀ X W, Ok Z X W → OpR X (binaryOp op) (q X)) (hq : ∀ X W, Ok Z X W → OpA Z.g (q X) f) (ha : PD Z a da) (hb : PD Z b db) : PD Z (.BinOp a op b pos) (dBin f da db) :=
  fun X W ok => peI (pe_op (ho X W ok) (ha X W ok) (hb X W ok)) fun _ _ _ h => tI_bin (hq X W ok) h
theorem pd_cmp {op : CmpOp} {f : D → D → Hs → Re} {a b : Expr} {da db : De} (q : Cx → R2) (ho : ∀ X W, Ok Z X W → OpR X (compareOp op) (q X)) (hq : ∀ X W, Ok Z X W → OpA Z.g (q X) f) (ha : PD Z a da) (hb : PD Z b db) (hm : behindInMarks op b = false) : PD Z (.Compare a [op] [b] pos) (dBin f da db) :=
  fun X W ok => peI (pe_cmpR (ho X W ok) (ha X W ok) (hb X W ok) hm) fun _ _ _ h => tI_bin (hq X W ok) h
theorem OpA.or {g : Gm} {q q' : R2} {f : D → D → Hs → Re} (h : ∀ (W : WX) (m : Nat → Addr) (H : Hp) (G : Hs) (σ : St) (Q : VK) (x y : D) (v u : V), SR g m H G → RpD g m G.length G.length H x v → RpD g m G.length G.length H y u → PostE g W m G.length H σ Q (f x y G) → q v u H Q ∨ q' v u H Q) : OpA g (fun x y H Q => q x y H Q ∨ q' x y H Q) f := h
end
end BL

set_option Elab.async false
set_option linter.all false
set_option maxRecDepth 100000
set_option maxHeartbeats 1000000
namespace BL
open PySem L2

/-! ### arithmetic -/
def fAdd : D → D → Hs → Re
  | .t (.int i), .t (.int j), G => .ok (.t (.int (i + j))) G
  | .t (.str x), .t (.str y), G => if x.length + y.length ≤ sizeLine then .ok (.t (.str (x ++ y))) G else .stuck
  | .t (.tup xs), .t (.tup ys), G => if xs.length + ys.length ≤ sizeLine then .ok (.t (.tup (xs ++ ys))) G else .stuck
  | .t (.lst xs), .t (.lst ys), G => if xs.length + ys.length ≤ sizeLine then .ok (.t (.lst (xs ++ ys))) G else .stuck
  | _, _, _ => .stuck
def fSub : D → D → Hs → Re
  | .t (.int i), .t (.int j), G => .ok (.t (.int (i - j))) G
  | _, _, _ => .stuck
def mulOk (i j : Int) : Bool := decide (-(2 ^ 64) < i ∧ i < 2 ^ 64) || decide (-(2 ^ 64) < j ∧ j < 2 ^ 64)
def fMul : D → D → Hs → Re
  | .t (.int i), .t (.int j), G => if mulOk i j = true then .ok (.t (.int (i * j))) G else .stuck
  | _, _, _ => .stuck
def fDiv : D → D → Hs → Re
  | .t (.int i), .t (.int j), G => if 0 < j ∧ j < 1073741824 then .ok (.t (.int (i / j))) G else .stuck
  | _, _, _ => .stuck
def fMod : D → D → Hs → Re
  | .t (.int i), .t (.int j), G => if 0 < j then .ok (.t (.int (i % j))) G else .stuck
  | _, _, _ => .stuck
def fPow : D → D → Hs → Re
  | .t (.int i), .t (.int j), G => if 0 ≤ j ∧ j ≤ 1000000 ∧ i.natAbs < 2 ^ 64 then .ok (.t (.int (i ^ j.toNat))) G else .stuck
  | _, _, _ => .stuck
/-! ### comparisons of ints -/
def fCmp (p : Int → Int → Bool) : D → D → Hs → Re
  | .t (.int i), .t (.int j), G => .ok (.t (.bl (p i j))) G
  | _, _, _ => .stuck
abbrev fLt := fCmp fun i j => decide (i < j)
abbrev fLe := fCmp fun i j => decide (i ≤ j)
abbrev fGt := fCmp fun i j => decide (j < i)
abbrev fGe := fCmp fun i j => decide (j ≤ i)
/-- a fact that is there or not: x is None -/
def fIsN (neg : Bool) : D → D → Hs → Re
  | .t .non, .t .non, G => .ok (.t (.bl (!neg))) G
  | _, .t .non, G => .ok (.t (.bl neg)) G
  | _, _, _ => .stuck

theorem okS_app {x y : Str} (hx : okS x) (hy : okS y) : okS (x ++ y) := by
  show PyData.strOk (x ++ y) = true
  unfold okS PyData.strOk at *
  show ((x ++ y).cps.all fun c => decide (c < 0x110000)) = true
  have : (x ++ y).cps = x.cps ++ y.cps := rfl
  rw [this, Array.all_append, hx, hy]; rfl

/-- list + list, written lists too -/
def rCatK (K : PySem.W.Frag) : R2 := fun x y H Q => ∃ l b xs zs, x = .ref l ∧ y = .ref b ∧ SqL K H l xs ∧ SqL K H b zs ∧ xs.length + zs.length ≤ sizeLine ∧ ∀ p, H p = none → Q (.ref p) (upd H p (.lst (xs ++ zs)))
open PyProof.Rows in
theorem op_catK {X : Cx} : OpR X (binaryOp .Add) (rCatK X.K) := by
  intro pins s σ H x y v u Q I rx ry h
  obtain ⟨l, b, xs, zs, rfl, rfl, hH, hB, hz, q⟩ := h
  cases rx
  cases ry
  obtain ⟨vs, r1, ⟨⟨c1, d1, t1, l1⟩, n1, e1, ec1, ed1, et1⟩, _⟩ := I.list hH
  obtain ⟨ws, r2, ⟨⟨c2, d2, t2, l2⟩, n2, e2, ec2, ed2, et2⟩, _⟩ := I.list hB
  simp only at ec1 ed1 et1 ec2 ed2 et2
  subst ec1 ed1 et1 ec2 ed2 et2
  have hl : (xs ++ zs).length ≤ sizeLine := by rw [List.length_append]; exact hz
  have hw : vs.toArray.size + ws.toArray.size ≤ sizeLine := by rw [List.size_toArray, List.size_toArray, ← r1.length, ← r2.length]; exact hz
  refine concat_meets ⟨_, e1, rfl⟩ ⟨_, e2, rfl⟩ noFill_list_add seq_list_add PySem.F.slot_list_add PySem.F.entry_list_add (PySem.F.args_list_add_2 _ _) (list_addW l b vs.toArray ws.toArray n1 n2 none none l1 l2 hw) ⟨e1, e2, ?_⟩
  have ea : vs.toArray ++ ws.toArray = (vs ++ ws).toArray := by simp
  rw [ea]
  exact ⟨.ref _, _, I.lnew (t' := s.toks) (r1.append r2) hl, rfl, q _ I.fresh⟩
section
variable {g : Gm}
theorem a_add (K : PySem.W.Frag) (hK : K = g.K) : OpA g (fun x y H Q => (rI0 fun i j => .int (i + j)) x y H Q ∨ (∃ i j, x = .str i ∧ y = .str j ∧ i.length + j.length ≤ sizeLine ∧ Q (.str (i ++ j)) H) ∨ rCatA K x y H Q ∨ rCatK K x y H Q) fAdd := by
  subst hK
  intro W m H G σ Q x y v u s rx ry p
  unfold fAdd at p
  split at p
  · cases rx; cases ry
    exact .inl ⟨_, _, rfl, rfl, PostE.ok s p rfl⟩
  · split at p
    · rename_i h
      obtain ⟨e, hx⟩ := rx
      obtain ⟨e', hy⟩ := ry
      subst e; subst e'
      exact .inr (.inl ⟨_, _, rfl, rfl, h, PostE.ok s p ⟨rfl, okS_app hx hy⟩⟩)
    · exact p.elim
  · split at p
    · rename_i xs ys h
      obtain ⟨a, vs, e, hv, r1⟩ := rx
      obtain ⟨b, us, e', hu, r2⟩ := ry
      subst e; subst e'
      have l1 := r1.length
      have l2 := r2.length
      refine .inr (.inr (.inl ⟨a, b, vs, us, rfl, rfl, hv, hu, by omega, fun z => ?_, fun z z' => ?_, fun z z' q hq => ?_⟩))
      · subst z
        have : xs = [] := List.eq_nil_of_length_eq_zero (by simpa using l1)
        subst this
        exact PostE.ok s p ⟨b, us, rfl, hu, by simpa using r2⟩
      · subst z'
        have : ys = [] := List.eq_nil_of_length_eq_zero (by simpa using l2)
        subst this
        exact PostE.ok s p ⟨a, vs, rfl, hv, by simpa using r1⟩
      · have hz : szOk (HO.tup (vs ++ us)) := by show (vs ++ us).length ≤ sizeLine; rw [List.length_append]; omega
        exact p _ _ _ (Ex.new hq) (s.new hq hz) ⟨q, _, rfl, .inl (.inl upd_same), Rps.append (Rps.ex (Ex.new hq) s _ _ r1) (Rps.ex (Ex.new hq) s _ _ r2)⟩
    · exact p.elim
  · split at p
    · rename_i xs ys h
      obtain ⟨a, vs, e, hv, r1⟩ := rx
      obtain ⟨b, us, e', hu, r2⟩ := ry
      subst e; subst e'
      have l1 := r1.length
      have l2 := r2.length
      refine .inr (.inr (.inr ⟨a, b, vs, us, rfl, rfl, hv.sq, hu.sq, by omega, fun q hq => ?_⟩))
      have hz : szOk (HO.lst (vs ++ us)) := by show (vs ++ us).length ≤ sizeLine; rw [List.length_append]; omega
      exact p _ _ _ (Ex.new hq) (s.new hq hz) ⟨q, _, rfl, .here upd_same (s.notBd hq), Rps.append (Rps.ex (Ex.new hq) s _ _ r1) (Rps.ex (Ex.new hq) s _ _ r2)⟩
    · exact p.elim
  · exact p.elim
theorem a_sub : OpA g (rI0 fun i j => .int (i - j)) fSub := by
  intro W m H G σ Q x y v u s rx ry p
  unfold fSub at p
  split at p
  · cases rx; cases ry; exact ⟨_, _, rfl, rfl, PostE.ok s p rfl⟩
  · exact p.elim
theorem a_mul : OpA g (rI CMul fun i j => .int (i * j)) fMul := by
  intro W m H G σ Q x y v u s rx ry p
  unfold fMul at p
  split at p
  · split at p
    · rename_i h
      cases rx; cases ry
      refine ⟨_, _, rfl, rfl, ?_, PostE.ok s p rfl⟩
      unfold mulOk at h
      rcases Bool.or_eq_true_iff.mp h with h | h
      · exact .inl (of_decide_eq_true h)
      · exact .inr (of_decide_eq_true h)
    · exact p.elim
  · exact p.elim
theorem a_div : OpA g (rI CDiv fun i j => .int (i / j)) fDiv := by
  intro W m H G σ Q x y v u s rx ry p
  unfold fDiv at p
  split at p
  · split at p
    · rename_i h; cases rx; cases ry; exact ⟨_, _, rfl, rfl, h, PostE.ok s p rfl⟩
    · exact p.elim
  · exact p.elim
theorem a_mod : OpA g (rI (fun _ j => 0 < j) fun i j => .int (i % j)) fMod := by
  intro W m H G σ Q x y v u s rx ry p
  unfold fMod at p
  split at p
  · split at p
    · rename_i h; cases rx; cases ry; exact ⟨_, _, rfl, rfl, h, PostE.ok s p rfl⟩
    · exact p.elim
  · exact p.elim
theorem a_pow : OpA g (rI CPow fun i j => .int (i ^ j.toNat)) fPow := by
  intro W m H G σ Q x y v u s rx ry p
  unfold fPow at p
  split at p
  · split at p
    · rename_i h; cases rx; cases ry; exact ⟨_, _, rfl, rfl, h, PostE.ok s p rfl⟩
    · exact p.elim
  · exact p.elim
theorem a_cmp {q : Int → Int → Bool} : OpA g (rI0 fun i j => .bl (q i j)) (fCmp q) := by
  intro W m H G σ Q x y v u s rx ry p
  unfold fCmp at p
  split at p
  · cases rx; cases ry; exact ⟨_, _, rfl, rfl, PostE.ok s p rfl⟩
  · exact p.elim
theorem Rp.nonIff {B : Addr → Prop} {H : Hp} : ∀ {t : T}, Rp g.toGm0 B H t .non → t = .non
  | .non, _ => rfl
  | .bl _, h => by cases h
  | .int _, h => by cases h
  | .str _, h => by cases h.1
  | .tup _, ⟨_, _, h, _⟩ => by cases h
  | .lst _, ⟨_, _, h, _⟩ => by cases h
  | .dk _ _, ⟨_, _, h, _⟩ => by cases h
  | .obj _ _ _, ⟨_, _, _, h, _⟩ => by cases h
  | .ftp _, ⟨_, _, _, h, _⟩ => by cases h
  | .cls _, h => by cases h
theorem RpD.nonIff {m : Nat → Addr} {n b : Nat} {H : Hp} {d : D} (h : RpD g m n b H d .non) : d = .t .non := by
  cases d with
  | t t => rw [Rp.nonIff h]
  | loc i => cases h.2
theorem a_isN : OpA g (fun x y H Q => y = .non ∧ Q (.bl (decide (x = .non))) H) (fIsN false) := by
  intro W m H G σ Q x y v u s rx ry p
  unfold fIsN at p
  split at p
  · cases rx; cases ry; exact ⟨rfl, PostE.ok s p rfl⟩
  · rename_i hne
    cases ry
    refine ⟨rfl, PostE.ok s p ?_⟩
    have : v ≠ .non := fun e => by subst e; exact hne (RpD.nonIff rx)
    show V.bl _ = V.bl false
    rw [decide_eq_false this]
  · exact p.elim
theorem a_notN : OpA g (fun x y H Q => y = .non ∧ Q (.bl (!decide (x = .non))) H) (fIsN true) := by
  intro W m H G σ Q x y v u s rx ry p
  unfold fIsN at p
  split at p
  · cases rx; cases ry; exact ⟨rfl, PostE.ok s p rfl⟩
  · rename_i hne
    cases ry
    refine ⟨rfl, PostE.ok s p ?_⟩
    have : v ≠ .non := fun e => by subst e; exact hne (RpD.nonIff rx)
    show V.bl _ = V.bl true
    rw [decide_eq_false this]; rfl
  · exact p.elim
end
section
variable {Z : Zc} {a b : Expr} {da db : De} {pos : Pos}
theorem Ok.Kg {X : Cx} {W : WX} (ok : Ok Z X W) : X.K = Z.g.K := ok.K
theorem pd_add (ha : PD Z a da) (hb : PD Z b db) : PD Z (.BinOp a .Add b pos) (dBin fAdd da db) :=
  pd_bin (fun X => _) (fun X W ok => OpR.or op_add (OpR.or op_add_str (OpR.or op_catA op_catK))) (fun X W ok => a_add X.K ok.Kg) ha hb
theorem pd_sub (ha : PD Z a da) (hb : PD Z b db) : PD Z (.BinOp a .Sub b pos) (dBin fSub da db) := pd_bin (fun _ => _) (fun _ _ _ => op_sub) (fun _ _ _ => a_sub) ha hb
theorem pd_mul (ha : PD Z a da) (hb : PD Z b db) : PD Z (.BinOp a .Mult b pos) (dBin fMul da db) := pd_bin (fun _ => _) (fun _ _ _ => op_mul) (fun _ _ _ => a_mul) ha hb
theorem pd_div (ha : PD Z a da) (hb : PD Z b db) : PD Z (.BinOp a .FloorDiv b pos) (dBin fDiv da db) := pd_bin (fun _ => _) (fun _ _ _ => op_fdiv) (fun _ _ _ => a_div) ha hb
theorem pd_mod (ha : PD Z a da) (hb : PD Z b db) : PD Z (.BinOp a .Mod b pos) (dBin fMod da db) := pd_bin (fun _ => _) (fun _ _ _ => op_mod) (fun _ _ _ => a_mod) ha hb
theorem pd_pow (ha : PD Z a da) (hb : PD Z b db) : PD Z (.BinOp a .Pow b pos) (dBin fPow da db) := pd_bin (fun _ => _) (fun _ _ _ => op_pow) (fun _ _ _ => a_pow) ha hb
theorem pd_lt (ha : PD Z a da) (hb : PD Z b db) : PD Z (.Compare a [.Lt] [b] pos) (dBin fLt da db) := pd_cmp (fun _ => _) (fun _ _ _ => op_lt) (fun _ _ _ => a_cmp) ha hb (nomark _)
theorem pd_le (ha : PD Z a da) (hb : PD Z b db) : PD Z (.Compare a [.LtE] [b] pos) (dBin fLe da db) := pd_cmp (fun _ => _) (fun _ _ _ => op_le) (fun _ _ _ => a_cmp) ha hb (nomark _)
theorem pd_gt (ha : PD Z a da) (hb : PD Z b db) : PD Z (.Compare a [.Gt] [b] pos) (dBin fGt da db) := pd_cmp (fun _ => _) (fun _ _ _ => op_gt) (fun _ _ _ => a_cmp) ha hb (nomark _)
theorem pd_ge (ha : PD Z a da) (hb : PD Z b db) : PD Z (.Compare a [.GtE] [b] pos) (dBin fGe da db) := pd_cmp (fun _ => _) (fun _ _ _ => op_ge) (fun _ _ _ => a_cmp) ha hb (nomark _)
theorem pd_isN (ha : PD Z a da) (hb : PD Z b db) : PD Z (.Compare a [.Is] [b] pos) (dBin (fIsN false) da db) := pd_cmp (fun _ => _) (fun _ _ _ => op_isN) (fun _ _ _ => a_isN) ha hb (nomark _)
theorem pd_notN (ha : PD Z a da) (hb : PD Z b db) : PD Z (.Compare a [.IsNot] [b] pos) (dBin (fIsN true) da db) := pd_cmp (fun _ => _) (fun _ _ _ => op_notN) (fun _ _ _ => a_notN) ha hb (nomark _)
end
end BL

set_option Elab.async false
set_option linter.all false
set_option maxRecDepth 100000
set_option maxHeartbeats 1000000
namespace BL
open PySem L2

/-- a global name of the def -/
def GlS (Z : Zc) (x : Str) : Prop := Z.sc.names.lookup x = some NameKind.globalImplicit
/-! ### arguments -/
def dArgs : List De → (List D → Hs → Re) → De
  | [], k, _, G => k [] G
  | a :: as, k, r, G => (a r G).bind fun x G1 => dArgs as (fun xs G2 => k (x :: xs) G2) r G1
def tCs : List TE → TA
  | [] => tNil
  | t :: ts => tCons t (tCs ts)
def PDA (Z : Zc) (es : List Expr) (das : List De) : Prop := ∀ X W, Ok Z X W → PA X es (tCs (das.map (tI Z.g W)))
section
variable {Z : Zc} {e : Expr} {es : List Expr} {d : De} {das : List De}
theorem pda_nil : PDA Z [] [] := fun X W ok => pa_nil
theorem pda_cons (h : PD Z e d) (hs : PDA Z es das) (he : ∀ env, starEach (e :: es) env = (false, eval e env) :: starEach es env := by intro _; rfl) : PDA Z (e :: es) (d :: das) := fun X W ok => pa_cons (h X W ok) (hs X W ok) (he _)
end
section
variable {g : Gm} {W : WX}
theorem tA_of : ∀ {das : List De} {m : Nat → Addr} {H : Hp} {G : Hs} {σ : St} {r : Ev} {Q : VK} {k : List D → Hs → Re} {R : List V → Hp → Prop}, SR g m H G → Sl g m G.length H σ r → PostE g W m G.length H σ Q (dArgs das k r G) →
    (∀ ds G1 vs m1 H1, Ex m G.length H m1 G1.length H1 → SR g m1 H1 G1 → Sl g m1 G1.length H1 σ r → RpDs g m1 G1.length G1.length H1 ds vs → ds.length = das.length → PostE g W m1 G1.length H1 σ Q (k ds G1) → R vs H1) → tCs (das.map (tI g W)) σ H R
  | [], m, H, G, σ, r, Q, k, R, s, sl, p, next => next [] G [] m H Ex.refl s sl rfl rfl p
  | d :: das, m, H, G, σ, r, Q, k, R, s, sl, p, next => by
    refine tI_bind s sl p fun x G1 v m1 H1 e x1 s1 sl1 rv p1 => ?_
    refine tA_of s1 sl1 p1 fun ds G2 vs m2 H2 x2 s2 sl2 rs hl p2 => ?_
    exact next (x :: ds) G2 (v :: vs) m2 H2 (x1.trans s1 x2) s2 sl2 ⟨v, vs, rfl, RpD.ex x2 s1 x2.le (Nat.le_refl _) rv, rs⟩ (by simp [hl]) p2
end
/-- a call of something known, by values -/
def CaA (g : Gm) (q : List V → Hp → VK → Prop) (f : List D → Hs → Re) : Prop := ∀ (W : WX) (m : Nat → Addr) (H : Hp) (G : Hs) (σ : St) (Q : VK) (ds : List D) (vs : List V), SR g m H G → RpDs g m G.length G.length H ds vs → PostE g W m G.length H σ Q (f ds G) → q vs H Q
section
variable {Z : Zc} {x : Str} {id T : String} {e o : Expr} {es : List Expr} {d : De} {das : List De} {f : List D → Hs → Re} {p pos : Pos}
theorem pd_callB (q : Cx → List V → Hp → VK → Prop) (hc : ∀ X W, Ok Z X W → CallR X (.builtin id) (q X)) (hq : ∀ X W, Ok Z X W → CaA Z.g (q X) f) (hg : GlS Z x) (hm : Z.mg x = none) (hv : bootBuiltins x = some (.builtin id))
    (ha : PDA Z (e :: es) das) (he : ∀ env, starEach (e :: es) env = (false, eval e env) :: starEach es env) (hpl : ∀ env, (backTo pos (starEach es env)).any (·.1) = false)
    (hn : x ≠ "__name__") (hdb : (x == ("__debug__" : Str)) = false) : PD Z (.Call (.Name x p) (e :: es) [] pos) (dArgs das f) := fun X W ok => by
  refine peI (pe_callB (hc X W ok) (show X.env.scope.names.lookup x = _ by rw [ok.sc]; exact hg) (by rw [ok.mg]; exact hm) hv (ha X W ok) hn hdb (he _) (hpl _)) fun σ H Q h => ?_
  obtain ⟨m, r, G, s, sl, p⟩ := h
  exact tA_of s sl p fun ds G1 vs m1 H1 x1 s1 sl1 rs _ p1 => hq X W ok W m1 H1 G1 σ Q ds vs s1 rs p1
theorem pd_callTy (q : Cx → List V → Hp → VK → Prop) (hc : ∀ X W, Ok Z X W → CallR X (.type T) (q X)) (hq : ∀ X W, Ok Z X W → CaA Z.g (q X) f) (hg : GlS Z x) (hm : Z.mg x = none) (hv : bootBuiltins x = some (.type T))
    (ha : PDA Z (e :: es) das) (he : ∀ env, starEach (e :: es) env = (false, eval e env) :: starEach es env) (hpl : ∀ env, (backTo pos (starEach es env)).any (·.1) = false)
    (hn : x ≠ "__name__") (hdb : (x == ("__debug__" : Str)) = false) : PD Z (.Call (.Name x p) (e :: es) [] pos) (dArgs das f) := fun X W ok => by
  refine peI (pe_callTy (hc X W ok) (show X.env.scope.names.lookup x = _ by rw [ok.sc]; exact hg) (by rw [ok.mg]; exact hm) hv (ha X W ok) hn hdb (he _) (hpl _)) fun σ H Q h => ?_
  obtain ⟨m, r, G, s, sl, p⟩ := h
  exact tA_of s sl p fun ds G1 vs m1 H1 x1 s1 sl1 rs _ p1 => hq X W ok W m1 H1 G1 σ Q ds vs s1 rs p1
end
/-! ### what is read as a list, as a tuple -/
def asL (G : Hs) : D → Option (List D)
  | .t (.lst ts) => some (ts.map D.t)
  | .loc i => match G[i]? with
    | some (.lst ds) => some ds
    | some (.flst ts) => some (ts.map D.t)
    | _ => none
  | _ => none
def asT : D → Option (List D)
  | .t (.tup ts) => some (ts.map D.t)
  | .t (.ftp ts) => some (ts.map D.t)
  | _ => none
def asS (G : Hs) (d : D) : Option (List D) := match asT d with
  | some ds => some ds
  | none => asL G d
/-- all plain -/
def plain : List D → Option (List T)
  | [] => some []
  | .t x :: ds => match plain ds with
    | some ts => some (x :: ts)
    | none => none
  | .loc _ :: _ => none
@[simp] theorem plain_map (ts : List T) : plain (ts.map D.t) = some ts := by
  induction ts with
  | nil => rfl
  | cons t ts ih => show (match plain (ts.map D.t) with | some us => some (t :: us) | none => none) = _; rw [ih]
theorem plain_some : ∀ {ds : List D} {ts : List T}, plain ds = some ts → ds = ts.map D.t
  | [], ts, h => by cases h; rfl
  | .t x :: ds, ts, h => by
    unfold plain at h
    split at h
    · rename_i us e
      cases h
      rw [plain_some e]; rfl
    · cases h
  | .loc _ :: _, _, h => by cases h
section
variable {g : Gm} {m : Nat → Addr} {n b : Nat} {H : Hp} {G : Hs}
theorem RpDs.toT : ∀ {ts : List T} {vs : List V}, RpDs g m n b H (ts.map D.t) vs → Rps g.toGm0 (Bv g m n) H ts vs
  | [], vs, h => h
  | t :: ts, vs, ⟨v, ws, e, h, r⟩ => ⟨v, ws, e, h, RpDs.toT r⟩
theorem RpDs.up (h : b ≤ b') : ∀ {ds : List D} {vs : List V}, RpDs g m n b H ds vs → RpDs g m n b' H ds vs
  | [], vs, q => q
  | .t x :: ds, vs, ⟨v, ws, e, q, r⟩ => ⟨v, ws, e, q, RpDs.up h r⟩
  | .loc i :: ds, vs, ⟨v, ws, e, q, r⟩ => ⟨v, ws, e, ⟨Nat.lt_of_lt_of_le q.1 h, q.2⟩, RpDs.up h r⟩
theorem asL_rp (s : SR g m H G) {d : D} {v : V} {ds : List D} (rd : RpD g m G.length G.length H d v) (e : asL G d = some ds) : ∃ a xs, v = .ref a ∧ SqL g.K H a xs ∧ RpDs g m G.length G.length H ds xs := by
  cases d with
  | t t =>
    cases t with
    | lst ts =>
      cases e
      obtain ⟨a, xs, rfl, h, r⟩ := rd
      exact ⟨a, xs, rfl, h.sq, RpDs.ofT r⟩
    | _ => cases e
  | loc i =>
    obtain ⟨hi, rfl⟩ := rd
    cases q : G[i]? with
    | none => simp [asL, q] at e
    | some o =>
      cases o with
      | lst ds' =>
        simp [asL, q] at e
        subst e
        obtain ⟨xs, h, r⟩ := s.ob i _ q
        exact ⟨_, xs, rfl, .inl (.inl h), RpDs.up (Nat.le_of_lt hi) r⟩
      | flst ts =>
        simp [asL, q] at e
        subst e
        obtain ⟨ob, xs, h, r⟩ := s.ob i _ q
        exact ⟨_, xs, rfl, .inl (.inr ⟨ob, h⟩), RpDs.ofT r⟩
      | dk kvs => simp [asL, q] at e
      | ins c fs => simp [asL, q] at e
theorem asT_rp {d : D} {v : V} {ds : List D} (rd : RpD g m n b H d v) (e : asT d = some ds) : ∃ a xs, v = .ref a ∧ SqT g.K H a xs ∧ RpDs g m n b H ds xs := by
  cases d with
  | t t =>
    cases t with
    | tup ts =>
      cases e
      obtain ⟨a, xs, rfl, h, r⟩ := rd
      exact ⟨a, xs, rfl, h, RpDs.ofT r⟩
    | ftp ts =>
      cases e
      obtain ⟨a, ob, xs, rfl, h, _, _, r⟩ := rd
      exact ⟨a, xs, rfl, .inl (.inr ⟨ob, h⟩), RpDs.ofT r⟩
    | _ => cases e
  | loc i => cases e
theorem asS_rp (s : SR g m H G) {d : D} {v : V} {ds : List D} (rd : RpD g m G.length G.length H d v) (e : asS G d = some ds) : ∃ a xs, v = .ref a ∧ (SqL g.K H a xs ∨ SqT g.K H a xs) ∧ RpDs g m G.length G.length H ds xs := by
  unfold asS at e
  cases q : asT d with
  | some es =>
    rw [q] at e; cases e
    obtain ⟨a, xs, e1, h, r⟩ := asT_rp rd q
    exact ⟨a, xs, e1, .inr h, r⟩
  | none =>
    rw [q] at e
    obtain ⟨a, xs, e1, h, r⟩ := asL_rp s rd e
    exact ⟨a, xs, e1, .inl h, r⟩
theorem SR.szL (s : SR g m H G) {K : PySem.W.Frag} {a : Addr} {xs : List V} (h : SqL K H a xs) : xs.length ≤ sizeLine := by
  rcases h with (h | ⟨ob, h⟩) | ⟨o, its, n, _, _, _, _, hz, r⟩
  · exact s.sz _ _ h
  · exact s.sz _ _ h
  · rw [r.length]; simpa using hz
theorem SR.szT (s : SR g m H G) {K : PySem.W.Frag} {a : Addr} {xs : List V} (h : SqT K H a xs) : xs.length ≤ sizeLine := by
  rcases h with (h | ⟨ob, h⟩) | ⟨o, its, n, _, _, _, hz, r⟩
  · exact s.sz _ _ h
  · exact s.sz _ _ h
  · rw [r.length]; simpa using hz
end
/-! ### len, int, tuple, list, min, abs -/
def fLen : List D → Hs → Re
  | [.t (.str x)], G => if x.length ≤ sizeLine then .ok (.t (.int x.length)) G else .stuck
  | [d], G => match asS G d with
    | some ds => .ok (.t (.int ds.length)) G
    | none => .stuck
  | _, _ => .stuck
def fInt : List D → Hs → Re
  | [.t (.int i)], G => .ok (.t (.int i)) G
  | [.t (.bl b)], G => .ok (.t (.int (if b then 1 else 0))) G
  | _, _ => .stuck
def fMin : List D → Hs → Re
  | [.t (.int i), .t (.int j)], G => .ok (.t (.int (if j < i then j else i))) G
  | _, _ => .stuck
def fAbs : List D → Hs → Re
  | [.t (.int i)], G => .ok (.t (.int (if i < 0 then -i else i))) G
  | _, _ => .stuck
/-- tuple(x), list(x) as plain data -/
def fTup : List D → Hs → Re
  | [d], G => match asS G d with
    | some ds => match plain ds with
      | some ts => .ok (.t (.tup ts)) G
      | none => .stuck
    | none => .stuck
  | _, _ => .stuck
def fLst : List D → Hs → Re
  | [d], G => match asS G d with
    | some ds => match plain ds with
      | some ts => .ok (.t (.lst ts)) G
      | none => .stuck
    | none => .stuck
  | _, _ => .stuck
/-- list(x), one that may be changed -/
def fLstL : List D → Hs → Re
  | [d], G => match asS G d with
    | some ds => .ok (.loc G.length) (G ++ [.lst ds])
    | none => .stuck
  | _, _ => .stuck
def boolsT : List D → Option (List Bool)
  | [] => some []
  | .t (.bl b) :: ds => match boolsT ds with
    | some bs => some (b :: bs)
    | none => none
  | _ => none
def fAll : List D → Hs → Re
  | [d], G => match asL G d with
    | some ds => match boolsT ds with
      | some bs => .ok (.t (.bl (bs.all id))) G
      | none => .stuck
    | none => .stuck
  | _, _ => .stuck
def fAny : List D → Hs → Re
  | [d], G => match asL G d with
    | some ds => match boolsT ds with
      | some bs => .ok (.t (.bl (bs.any id))) G
      | none => .stuck
    | none => .stuck
  | _, _ => .stuck
section
variable {g : Gm}
theorem rpds1 {m : Nat → Addr} {n b : Nat} {H : Hp} {d : D} {vs : List V} (h : RpDs g m n b H [d] vs) : ∃ v, vs = [v] ∧ RpD g m n b H d v := by
  obtain ⟨v, ws, e, r, q⟩ := h
  cases q
  exact ⟨v, e, r⟩
theorem rpds2 {m : Nat → Addr} {n b : Nat} {H : Hp} {d d' : D} {vs : List V} (h : RpDs g m n b H [d, d'] vs) : ∃ v u, vs = [v, u] ∧ RpD g m n b H d v ∧ RpD g m n b H d' u := by
  obtain ⟨v, ws, e, r, q⟩ := h
  obtain ⟨u, rfl, r'⟩ := rpds1 q
  exact ⟨v, u, e, r, r'⟩
theorem c_len (K : PySem.W.Frag) (hK : K = g.K) : CaA g (fun xs H Q => ∃ x n, xs = [x] ∧ LenV K x H n ∧ Q (.int n) H) fLen := by
  subst hK
  intro W m H G σ Q ds vs s rs p
  unfold fLen at p
  split at p
  · split at p
    · rename_i h
      obtain ⟨v, rfl, e, _⟩ := rpds1 rs
      subst e
      exact ⟨_, _, rfl, ⟨h, rfl⟩, PostE.ok s p rfl⟩
    · exact p.elim
  · split at p
    · rename_i ds' e
      obtain ⟨v, rfl, r⟩ := rpds1 rs
      obtain ⟨a, xs, rfl, h, r'⟩ := asS_rp s r e
      have hl := r'.length
      rcases h with h | h
      · exact ⟨_, _, rfl, .inl ⟨xs, h, rfl⟩, PostE.ok s p (by rw [hl]; rfl)⟩
      · exact ⟨_, _, rfl, .inr ⟨xs, h, rfl⟩, PostE.ok s p (by rw [hl]; rfl)⟩
    · exact p.elim
  · exact p.elim
theorem c_int : CaA g (fun xs H Q => (∃ i, xs = [.int i] ∧ Q (.int i) H) ∨ ∃ k, xs = [.bl k] ∧ Q (.int (if k then 1 else 0)) H) fInt := by
  intro W m H G σ Q ds vs s rs p
  unfold fInt at p
  split at p
  · obtain ⟨v, rfl, e⟩ := rpds1 rs
    cases e
    exact .inl ⟨_, rfl, PostE.ok s p rfl⟩
  · obtain ⟨v, rfl, e⟩ := rpds1 rs
    cases e
    exact .inr ⟨_, rfl, PostE.ok s p rfl⟩
  · exact p.elim
theorem c_min : CaA g (fun xs H Q => ∃ i j, xs = [.int i, .int j] ∧ Q (.int (if j < i then j else i)) H) fMin := by
  intro W m H G σ Q ds vs s rs p
  unfold fMin at p
  split at p
  · obtain ⟨v, u, rfl, e, e'⟩ := rpds2 rs
    cases e; cases e'
    exact ⟨_, _, rfl, PostE.ok s p rfl⟩
  · exact p.elim
theorem c_abs : CaA g (fun xs H Q => ∃ i, xs = [.int i] ∧ Q (.int (if i < 0 then -i else i)) H) fAbs := by
  intro W m H G σ Q ds vs s rs p
  unfold fAbs at p
  split at p
  · obtain ⟨v, rfl, e⟩ := rpds1 rs
    cases e
    exact ⟨_, rfl, PostE.ok s p rfl⟩
  · exact p.elim
theorem c_tup (K : PySem.W.Frag) (hK : K = g.K) : CaA g (fun xs H Q => ∃ p ys, xs = [.ref p] ∧ ((SqL K H p ys ∧ ∀ l, H l = none → Q (.ref l) (upd H l (.tup ys))) ∨ (SqT K H p ys ∧ Q (.ref p) H))) fTup := by
  subst hK
  intro W m H G σ Q ds vs s rs p
  unfold fTup at p
  split at p
  · split at p
    · split at p
      · rename_i ds' e _ ts e2
        obtain ⟨v, rfl, r⟩ := rpds1 rs
        obtain ⟨a, xs, rfl, h, r'⟩ := asS_rp s r e
        have h2 := plain_some e2
        subst h2
        rcases h with h | h
        · refine ⟨a, xs, rfl, .inl ⟨h, fun l hl => ?_⟩⟩
          exact p _ _ _ (Ex.new hl) (s.new hl (s.szL h)) ⟨l, xs, rfl, .inl (.inl upd_same), Rps.ex (Ex.new hl) s _ _ r'.toT⟩
        · exact ⟨a, xs, rfl, .inr ⟨h, PostE.ok s p ⟨a, xs, rfl, h, r'.toT⟩⟩⟩
      · exact p.elim
    · exact p.elim
  · exact p.elim
theorem c_lst (K : PySem.W.Frag) (hK : K = g.K) : CaA g (fun xs H Q => ∃ p ys, xs = [.ref p] ∧ (SqL K H p ys ∨ SqT K H p ys) ∧ ∀ l, H l = none → Q (.ref l) (upd H l (.lst ys))) fLst := by
  subst hK
  intro W m H G σ Q ds vs s rs p
  unfold fLst at p
  split at p
  · split at p
    · split at p
      · rename_i ds' e _ ts e2
        obtain ⟨v, rfl, r⟩ := rpds1 rs
        obtain ⟨a, xs, rfl, h, r'⟩ := asS_rp s r e
        have h2 := plain_some e2
        subst h2
        have hz : xs.length ≤ sizeLine := by
          rcases h with h | h
          · exact s.szL h
          · exact s.szT h
        refine ⟨a, xs, rfl, h, fun l hl => ?_⟩
        exact p _ _ _ (Ex.new hl) (s.new hl hz) ⟨l, xs, rfl, .here upd_same (s.notBd hl), Rps.ex (Ex.new hl) s _ _ r'.toT⟩
      · exact p.elim
    · exact p.elim
  · exact p.elim
theorem newL (s : SR g m H G) {l : Addr} {xs : List V} {ds : List D} (hl : H l = none) (hz : xs.length ≤ sizeLine) (r : RpDs g m G.length G.length H ds xs) :
    Ex m G.length H (mAt m G.length l) (G ++ [O.lst ds]).length (upd H l (.lst xs)) ∧ SR g (mAt m G.length l) (upd H l (.lst xs)) (G ++ [.lst ds]) ∧ RpD g (mAt m G.length l) (G ++ [O.lst ds]).length (G ++ [O.lst ds]).length (upd H l (.lst xs)) (.loc G.length) (.ref l) := by
  have e : (G ++ [O.lst ds]).length = G.length + 1 := by simp
  rw [e]
  refine ⟨Ex.loc hl, s.loc hl hz ⟨xs, by rw [mAt_same]; exact upd_same, RpDs.ex (Ex.loc hl) s (Nat.le_refl _) (Nat.le_refl _) r⟩, Nat.lt_succ_self _, by rw [mAt_same]⟩
theorem c_lstL (K : PySem.W.Frag) (hK : K = g.K) : CaA g (fun xs H Q => ∃ p ys, xs = [.ref p] ∧ (SqL K H p ys ∨ SqT K H p ys) ∧ ∀ l, H l = none → Q (.ref l) (upd H l (.lst ys))) fLstL := by
  subst hK
  intro W m H G σ Q ds vs s rs p
  unfold fLstL at p
  split at p
  · split at p
    · rename_i ds' e
      obtain ⟨v, rfl, r⟩ := rpds1 rs
      obtain ⟨a, xs, rfl, h, r'⟩ := asS_rp s r e
      have hz : xs.length ≤ sizeLine := by
        rcases h with h | h
        · exact s.szL h
        · exact s.szT h
      refine ⟨a, xs, rfl, h, fun l hl => ?_⟩
      obtain ⟨q1, q2, q3⟩ := newL s hl hz r'
      exact p _ _ _ q1 q2 q3
    · exact p.elim
  · exact p.elim
theorem bools_rp {m : Nat → Addr} {n b : Nat} {H : Hp} : ∀ {ds : List D} {bs : List Bool} {vs : List V}, boolsT ds = some bs → RpDs g m n b H ds vs → vs = bs.map V.bl
  | [], bs, vs, e, r => by cases e; exact r
  | .t (.bl k) :: ds, bs, vs, e, ⟨v, ws, e1, h, r⟩ => by
    unfold boolsT at e
    split at e
    · rename_i bs' e2
      cases e
      rw [e1, bools_rp e2 r, show v = .bl k from h]; rfl
    · cases e
  | .t .non :: _, _, _, e, _ => by cases e
  | .t (.int _) :: _, _, _, e, _ => by cases e
  | .t (.str _) :: _, _, _, e, _ => by cases e
  | .t (.tup _) :: _, _, _, e, _ => by cases e
  | .t (.lst _) :: _, _, _, e, _ => by cases e
  | .t (.dk _ _) :: _, _, _, e, _ => by cases e
  | .t (.obj _ _ _) :: _, _, _, e, _ => by cases e
  | .t (.ftp _) :: _, _, _, e, _ => by cases e
  | .t (.cls _) :: _, _, _, e, _ => by cases e
  | .loc _ :: _, _, _, e, _ => by cases e
theorem c_all (K : PySem.W.Frag) (hK : K = g.K) : CaA g (rAll K) fAll := by
  subst hK
  intro W m H G σ Q ds vs s rs p
  unfold fAll at p
  split at p
  · split at p
    · split at p
      · rename_i ds' e _ bs e2
        obtain ⟨v, rfl, r⟩ := rpds1 rs
        obtain ⟨a, xs, rfl, h, r'⟩ := asL_rp s r e
        rw [bools_rp e2 r'] at h
        exact ⟨a, bs, rfl, h, PostE.ok s p rfl⟩
      · exact p.elim
    · exact p.elim
  · exact p.elim
theorem c_any (K : PySem.W.Frag) (hK : K = g.K) : CaA g (rAny K) fAny := by
  subst hK
  intro W m H G σ Q ds vs s rs p
  unfold fAny at p
  split at p
  · split at p
    · split at p
      · rename_i ds' e _ bs e2
        obtain ⟨v, rfl, r⟩ := rpds1 rs
        obtain ⟨a, xs, rfl, h, r'⟩ := asL_rp s r e
        rw [bools_rp e2 r'] at h
        exact ⟨a, bs, rfl, h, PostE.ok s p rfl⟩
      · exact p.elim
    · exact p.elim
  · exact p.elim
end
section
variable {Z : Zc} {e e' : Expr} {d d' : De} {p pos : Pos}
theorem pd_len (hm : Z.mg "len" = none) (h : PD Z e d) (hg : GlS Z "len" := by rfl) (he : ∀ env, starEach [e] env = (false, eval e env) :: starEach [] env := by intro _; rfl) : PD Z (.Call (.Name "len" p) [e] [] pos) (dArgs [d] fLen) :=
  pd_callB (fun X => _) (fun _ _ _ => call_len) (fun X W ok => c_len X.K ok.Kg) hg hm (by decide +kernel) (pda_cons h pda_nil he) he (fun _ => rfl) (by decide) (by decide)
theorem pd_intf (hm : Z.mg "int" = none) (h : PD Z e d) (hg : GlS Z "int" := by rfl) (he : ∀ env, starEach [e] env = (false, eval e env) :: starEach [] env := by intro _; rfl) : PD Z (.Call (.Name "int" p) [e] [] pos) (dArgs [d] fInt) :=
  pd_callTy (fun X => _) (fun _ _ _ => call_int1) (fun X W ok => c_int) hg hm (by decide +kernel) (pda_cons h pda_nil he) he (fun _ => rfl) (by decide) (by decide)
theorem pd_min (hm : Z.mg "min" = none) (h : PD Z e d) (h' : PD Z e' d') (hg : GlS Z "min" := by rfl) (he : ∀ env, starEach [e, e'] env = (false, eval e env) :: starEach [e'] env := by intro _; rfl) (he' : ∀ env, starEach [e'] env = (false, eval e' env) :: starEach [] env := by intro _; rfl)
    (hpl : ∀ env, (backTo pos (starEach [e'] env)).any (·.1) = false := by intro _; rfl) : PD Z (.Call (.Name "min" p) [e, e'] [] pos) (dArgs [d, d'] fMin) :=
  pd_callB (fun X => _) (fun _ _ ok => call_min2 ok.calm) (fun X W ok => c_min) hg hm (by decide +kernel) (pda_cons h (pda_cons h' pda_nil he') he) he hpl (by decide) (by decide)
theorem pd_abs (hm : Z.mg "abs" = none) (h : PD Z e d) (hg : GlS Z "abs" := by rfl) (he : ∀ env, starEach [e] env = (false, eval e env) :: starEach [] env := by intro _; rfl) : PD Z (.Call (.Name "abs" p) [e] [] pos) (dArgs [d] fAbs) :=
  pd_callB (fun X => _) (fun _ _ _ => call_abs) (fun X W ok => c_abs) hg hm (by decide +kernel) (pda_cons h pda_nil he) he (fun _ => rfl) (by decide) (by decide)
theorem pd_tup (hm : Z.mg "tuple" = none) (h : PD Z e d) (hg : GlS Z "tuple" := by rfl) (he : ∀ env, starEach [e] env = (false, eval e env) :: starEach [] env := by intro _; rfl) : PD Z (.Call (.Name "tuple" p) [e] [] pos) (dArgs [d] fTup) :=
  pd_callTy (fun X => _) (fun _ _ _ => call_tuple_of) (fun X W ok => c_tup X.K ok.Kg) hg hm (by decide +kernel) (pda_cons h pda_nil he) he (fun _ => rfl) (by decide) (by decide)
theorem pd_lst (hm : Z.mg "list" = none) (h : PD Z e d) (hg : GlS Z "list" := by rfl) (he : ∀ env, starEach [e] env = (false, eval e env) :: starEach [] env := by intro _; rfl) : PD Z (.Call (.Name "list" p) [e] [] pos) (dArgs [d] fLst) :=
  pd_callTy (fun X => _) (fun _ _ _ => call_list_of) (fun X W ok => c_lst X.K ok.Kg) hg hm (by decide +kernel) (pda_cons h pda_nil he) he (fun _ => rfl) (by decide) (by decide)
theorem pd_lstL (hm : Z.mg "list" = none) (h : PD Z e d) (hg : GlS Z "list" := by rfl) (he : ∀ env, starEach [e] env = (false, eval e env) :: starEach [] env := by intro _; rfl) : PD Z (.Call (.Name "list" p) [e] [] pos) (dArgs [d] fLstL) :=
  pd_callTy (fun X => _) (fun _ _ _ => call_list_of) (fun X W ok => c_lstL X.K ok.Kg) hg hm (by decide +kernel) (pda_cons h pda_nil he) he (fun _ => rfl) (by decide) (by decide)
theorem pd_all (hm : Z.mg "all" = none) (h : PD Z e d) (hg : GlS Z "all" := by rfl) (he : ∀ env, starEach [e] env = (false, eval e env) :: starEach [] env := by intro _; rfl) : PD Z (.Call (.Name "all" p) [e] [] pos) (dArgs [d] fAll) :=
  pd_callB (fun X => _) (fun _ _ ok => cr_all ok.calm) (fun X W ok => c_all X.K ok.Kg) hg hm (by decide +kernel) (pda_cons h pda_nil he) he (fun _ => rfl) (by decide) (by decide)
theorem pd_any (hm : Z.mg "any" = none) (h : PD Z e d) (hg : GlS Z "any" := by rfl) (he : ∀ env, starEach [e] env = (false, eval e env) :: starEach [] env := by intro _; rfl) : PD Z (.Call (.Name "any" p) [e] [] pos) (dArgs [d] fAny) :=
  pd_callB (fun X => _) (fun _ _ ok => cr_any ok.calm) (fun X W ok => c_any X.K ok.Kg) hg hm (by decide +kernel) (pda_cons h pda_nil he) he (fun _ => rfl) (by decide) (by decide)
end
end BL

set_option Elab.async false
set_option linter.all false
set_option maxRecDepth 100000
set_option maxHeartbeats 1000000
namespace BL
open PySem L2

/-! ### == of plain data -/
mutual
def cmpT : T → Bool
  | .non => true | .bl _ => true | .int _ => true | .str _ => true
  | .tup ts => cmpTs ts | .lst ts => cmpTs ts
  | .dk _ _ => false | .obj _ _ _ => false | .ftp ts => cmpTs ts | .cls _ => false
def cmpTs : List T → Bool
  | [] => true
  | t :: ts => cmpT t && cmpTs ts
end
mutual
def toP : T → PyData
  | .non => .none | .bl b => .bool b | .int i => .int i | .str x => .str x
  | .tup ts => .tuple (toPs ts) | .lst ts => .list (toPs ts)
  | .dk _ _ => .none | .obj _ _ _ => .none | .ftp ts => .tuple (toPs ts) | .cls _ => .none
def toPs : List T → List PyData
  | [] => []
  | t :: ts => toP t :: toPs ts
end
mutual
def dep : T → Nat
  | .tup ts => deps ts + 1 | .lst ts => deps ts + 1 | .ftp ts => deps ts + 1
  | _ => 0
def deps : List T → Nat
  | [] => 0
  | t :: ts => max (dep t) (deps ts)
end
mutual
theorem dep_P : ∀ t : T, cmpT t = true → (toP t).depth = dep t
  | .non, _ => rfl
  | .bl _, _ => rfl
  | .int _, _ => rfl
  | .str _, _ => rfl
  | .tup ts, h => by simp only [toP, dep, PyData.depth]; rw [deps_P ts (by simpa [cmpT] using h)]
  | .lst ts, h => by simp only [toP, dep, PyData.depth]; rw [deps_P ts (by simpa [cmpT] using h)]
  | .dk _ _, h => by simp [cmpT] at h
  | .obj _ _ _, h => by simp [cmpT] at h
  | .ftp ts, h => by simp only [toP, dep, PyData.depth]; rw [deps_P ts (by simpa [cmpT] using h)]
  | .cls _, h => by simp [cmpT] at h
theorem deps_P : ∀ ts : List T, cmpTs ts = true → PyData.depthAll (toPs ts) = deps ts
  | [], _ => rfl
  | t :: ts, h => by
    simp only [cmpTs, Bool.and_eq_true] at h
    simp only [toPs, deps, PyData.depthAll]; rw [dep_P t h.1, deps_P ts h.2]
end
section
variable {g : Gm} {B : Addr → Prop} {H : Hp}
mutual
theorem Rp.dp : ∀ (t : T) (v : V), cmpT t = true → Rp g.toGm0 B H t v → Dp g.K H v (toP t) ∧ (toP t).canLay0 = true
  | .non, v, _, h => by cases h; exact ⟨.non, rfl⟩
  | .bl b, v, _, h => by cases h; exact ⟨.bl b, rfl⟩
  | .int i, v, _, h => by cases h; exact ⟨.int i, rfl⟩
  | .str x, v, _, ⟨h, o⟩ => by subst h; exact ⟨.str x, o⟩
  | .tup ts, v, c, ⟨a, xs, e, h, r⟩ => by
    subst e
    have q := Rps.dp ts xs (by simpa [cmpT] using c) r
    exact ⟨.tup h q.1, q.2⟩
  | .lst ts, v, c, ⟨a, xs, e, h, r⟩ => by
    subst e
    have q := Rps.dp ts xs (by simpa [cmpT] using c) r
    exact ⟨.lst h.sq q.1, q.2⟩
  | .dk _ _, v, c, _ => by simp [cmpT] at c
  | .obj _ _ _, v, c, _ => by simp [cmpT] at c
  | .ftp ts, v, c, ⟨a, ob, xs, e, h, _, _, r⟩ => by
    subst e
    have q := Rps.dp ts xs (by simpa [cmpT] using c) r
    exact ⟨.tup (.inl (.inr ⟨ob, h⟩)) q.1, q.2⟩
  | .cls _, v, c, _ => by simp [cmpT] at c
theorem Rps.dp : ∀ (ts : List T) (vs : List V), cmpTs ts = true → Rps g.toGm0 B H ts vs → DpAll g.K H vs (toPs ts) ∧ PyData.canLayAll0 (toPs ts) = true
  | [], vs, _, h => by cases h; exact ⟨.nil, rfl⟩
  | t :: ts, vs, c, ⟨v, ws, e, h, r⟩ => by
    subst e
    simp only [cmpTs, Bool.and_eq_true] at c
    have q1 := Rp.dp t v c.1 h
    have q2 := Rps.dp ts ws c.2 r
    exact ⟨.cons q1.1 q2.1, by simp only [toPs, PyData.canLayAll0, q1.2, q2.2, Bool.and_self]⟩
end
end
/-- a value as plain data (a located list as it stands) -/
def asD (G : Hs) : D → Option T
  | .t x => some x
  | .loc i => match G[i]? with
    | some (.lst ds) => (plain ds).map T.lst
    | some (.flst ts) => some (.lst ts)
    | _ => none
def teq (a b : T) : Bool := PyData.eqv (toP a) (toP b)
def eqOk (a b : T) : Bool := cmpT a && cmpT b && decide (min (dep a) (dep b) ≤ 64)
def fEq (neg : Bool) (x y : D) (G : Hs) : Re := match asD G x, asD G y with
  | some a, some b => if eqOk a b = true then .ok (.t (.bl (if neg then !teq a b else teq a b))) G else .stuck
  | _, _ => .stuck
/-- what the rule of == asks of two values -/
def rEqN (K : PySem.W.Frag) (neg : Bool) : R2 := fun x y H Q => ∃ d e, Dp K H x d ∧ Dp K H y e ∧ d.canLay0 = true ∧ e.canLay0 = true ∧ min d.depth e.depth ≤ 64 ∧ Q (.bl (if neg then !PyData.eqv d e else PyData.eqv d e)) H
theorem op_eqN {X : Cx} (hu : X.A.units + 64 < cLine) : OpR X (compareOp .Eq) (rEqN X.K false) := by
  intro pins s σ H x y v u Q I rx ry h
  obtain ⟨d, e, hd, he, c1, c2, hm, q⟩ := h
  obtain ⟨as, r1⟩ := Dp.reads I d x v hd rx
  obtain ⟨bs, r2⟩ := Dp.reads I e y u he ry
  exact SeqAt.compareEq_reads r1 r2 c1 c2 (by omega) ⟨.bl _, H, I, rfl, q⟩
theorem op_neN {X : Cx} (hu : X.A.units + 64 < cLine) : OpR X (compareOp .NotEq) (rEqN X.K true) := by
  intro pins s σ H x y v u Q I rx ry h
  obtain ⟨d, e, hd, he, c1, c2, hm, q⟩ := h
  obtain ⟨as, r1⟩ := Dp.reads I d x v hd rx
  obtain ⟨bs, r2⟩ := Dp.reads I e y u he ry
  exact SeqAt.compareNe_reads r1 r2 c1 c2 (by omega) ⟨.bl _, H, I, rfl, q⟩
section
variable {g : Gm} {m : Nat → Addr} {H : Hp} {G : Hs}
/-- as plain data, wherever it lies: no place is named -/
theorem asD_dp (s : SR g m H G) {d : D} {v : V} {t : T} (r : RpD g m G.length G.length H d v) (e : asD G d = some t) (c : cmpT t = true) : Dp g.K H v (toP t) ∧ (toP t).canLay0 = true := by
  cases d with
  | t x => cases e; exact Rp.dp t v c r
  | loc i =>
    obtain ⟨hi, rfl⟩ := r
    cases q : G[i]? with
    | none => simp [asD, q] at e
    | some o =>
      cases o with
      | lst ds =>
        simp [asD, q] at e
        obtain ⟨ts, e1, rfl⟩ := e
        have := plain_some e1
        subst this
        obtain ⟨xs, h, r⟩ := s.ob i _ q
        have q := Rps.dp ts xs (by simpa [cmpT] using c) r.toT
        exact ⟨.lst (.inl (.inl h)) q.1, q.2⟩
      | flst ts =>
        simp [asD, q] at e
        subst e
        obtain ⟨ob, xs, h, r⟩ := s.ob i _ q
        have q := Rps.dp ts xs (by simpa [cmpT] using c) r
        exact ⟨.lst (.inl (.inr ⟨ob, h⟩)) q.1, q.2⟩
      | dk kvs => simp [asD, q] at e
      | ins c fs => simp [asD, q] at e
theorem a_eq {neg : Bool} (K : PySem.W.Frag) (hK : K = g.K) : OpA g (rEqN K neg) (fEq neg) := by
  subst hK
  intro W m H G σ Q x y v u s rx ry p
  unfold fEq at p
  split at p
  · rename_i a b ea eb
    split at p
    · rename_i h
      simp only [eqOk, Bool.and_eq_true, decide_eq_true_eq] at h
      have qa := asD_dp s rx ea h.1.1
      have qb := asD_dp s ry eb h.1.2
      refine ⟨_, _, qa.1, qb.1, qa.2, qb.2, ?_, PostE.ok s p rfl⟩
      rw [dep_P a h.1.1, dep_P b h.1.2]; exact h.2
    · exact p.elim
  · exact p.elim
end
section
variable {Z : Zc} {a b : Expr} {da db : De} {pos : Pos}
theorem Ok.u64 {X : Cx} {W : WX} (ok : Ok Z X W) : X.A.units + 64 < cLine := ok.rm.units
theorem pd_eq (ha : PD Z a da) (hb : PD Z b db) : PD Z (.Compare a [.Eq] [b] pos) (dBin (fEq false) da db) := pd_cmp (fun X => rEqN X.K false) (fun _ _ ok => op_eqN ok.u64) (fun _ _ ok => a_eq _ ok.Kg) ha hb (nomark _)
theorem pd_ne (ha : PD Z a da) (hb : PD Z b db) : PD Z (.Compare a [.NotEq] [b] pos) (dBin (fEq true) da db) := pd_cmp (fun X => rEqN X.K true) (fun _ _ ok => op_neN ok.u64) (fun _ _ ok => a_eq _ ok.Kg) ha hb (nomark _)
end
/-! ### x in xs -/
def flatTs : List T → Bool
  | [] => true
  | t :: ts => flatT t && flatTs ts
def fIn (neg : Bool) : D → D → Hs → Re
  | .t (.str u), .t (.str z), G => if u.cps.size = 1 then .ok (.t (.bl (if neg then !decide (u.cps[0]! ∈ z.cps.toList) else decide (u.cps[0]! ∈ z.cps.toList)))) G else .stuck
  | .t x, y, G => match asS G y with
    | some ds => match plain ds with
      | some ts => if flatT x = true ∧ flatTs ts = true then .ok (.t (.bl (if neg then !ts.any (fun t => teq t x) else ts.any (fun t => teq t x)))) G else .stuck
      | none => .stuck
    | none => .stuck
  | _, _, _ => .stuck
section
variable {g : Gm} {B : Addr → Prop} {H : Hp}
theorem Rp.flat : ∀ {t : T} {v : V}, flatT t = true → Rp g.toGm0 B H t v → flatV v = true
  | .non, v, _, h => by cases h; rfl
  | .bl _, v, _, h => by cases h; rfl
  | .int _, v, _, h => by cases h; rfl
  | .str _, v, _, ⟨h, _⟩ => by cases h; rfl
theorem teq_flat : ∀ {t u : T} {v w : V}, flatT t = true → flatT u = true → Rp g.toGm0 B H t v → Rp g.toGm0 B H u w → eqV v w = teq t u := by
  intro t u v w ft fu ht hu
  cases t <;> (try (simp [flatT] at ft; done)) <;> cases u <;> (try (simp [flatT] at fu; done))
  all_goals
    first
    | (obtain ⟨e1, _⟩ := ht; obtain ⟨e2, _⟩ := hu; subst e1; subst e2; rfl)
    | (obtain ⟨e1, _⟩ := ht; have e2 : w = _ := hu; subst e1; subst e2; rfl)
    | (have e1 : v = _ := ht; obtain ⟨e2, _⟩ := hu; subst e1; subst e2; rfl)
    | (have e1 : v = _ := ht; have e2 : w = _ := hu; subst e1; subst e2; rfl)
theorem Rps.flatAll : ∀ {ts : List T} {vs : List V}, flatTs ts = true → Rps g.toGm0 B H ts vs → vs.all flatV = true
  | [], vs, _, h => by cases h; rfl
  | t :: ts, vs, f, ⟨v, ws, e, h, r⟩ => by
    subst e
    simp only [flatTs, Bool.and_eq_true] at f
    simp only [List.all_cons, Bool.and_eq_true]
    exact ⟨Rp.flat f.1 h, Rps.flatAll f.2 r⟩
theorem Rps.anyEq {x : T} {w : V} (fx : flatT x = true) (hx : Rp g.toGm0 B H x w) : ∀ {ts : List T} {vs : List V}, flatTs ts = true → Rps g.toGm0 B H ts vs → (vs.any fun y => eqV y w) = ts.any (fun t => teq t x)
  | [], vs, _, h => by cases h; rfl
  | t :: ts, vs, f, ⟨v, ws, e, h, r⟩ => by
    subst e
    simp only [flatTs, Bool.and_eq_true] at f
    simp only [List.any_cons]
    rw [teq_flat f.1 fx h hx, Rps.anyEq fx hx f.2 r]
end
theorem one_sign {u : Str} (h : u.cps.size = 1) : u = ⟨#[u.cps[0]!]⟩ := by
  obtain ⟨⟨l⟩⟩ := u
  match l, h with
  | [c], _ => rfl
theorem fin_in {neg : Bool} {x y : D} {G : Hs} {r : Re} (e : fIn neg x y G = r) (hr : r ≠ .stuck) :
    (∃ u z, x = .t (.str u) ∧ y = .t (.str z) ∧ u.cps.size = 1 ∧ r = .ok (.t (.bl (if neg then !decide (u.cps[0]! ∈ z.cps.toList) else decide (u.cps[0]! ∈ z.cps.toList)))) G) ∨
    (∃ t ts, x = .t t ∧ asS G y = some (ts.map D.t) ∧ flatT t = true ∧ flatTs ts = true ∧ r = .ok (.t (.bl (if neg then !ts.any (fun u => teq u t) else ts.any (fun u => teq u t)))) G) := by
  unfold fIn at e
  split at e
  · split at e
    · exact .inl ⟨_, _, rfl, rfl, by assumption, e.symm⟩
    · exact absurd e.symm hr
  · split at e
    · split at e
      · split at e
        · rename_i ds e1 _ ts e2 h
          have := plain_some e2
          subst this
          exact .inr ⟨_, ts, rfl, e1, h.1, h.2, e.symm⟩
        · exact absurd e.symm hr
      · exact absurd e.symm hr
    · exact absurd e.symm hr
  · exact absurd e.symm hr
def rInN (K : PySem.W.Frag) (neg : Bool) : R2 := fun x y H Q => (∃ (c : Nat) (z : Str), x = .str ⟨#[c]⟩ ∧ y = .str z ∧ Q (.bl (if neg then !decide (c ∈ z.cps.toList) else decide (c ∈ z.cps.toList))) H) ∨ rIn K neg x y H Q
theorem a_in {g : Gm} {neg : Bool} (K : PySem.W.Frag) (hK : K = g.K) : OpA g (rInN K neg) (fIn neg) := by
  subst hK
  intro W m H G σ Q x y v u s rx ry p
  have hr : fIn neg x y G ≠ .stuck := fun e => by rw [e] at p; exact p
  rcases fin_in rfl hr with ⟨a, z, rfl, rfl, h1, e⟩ | ⟨t, ts, rfl, h1, h2, h3, e⟩
  · rw [e] at p
    obtain ⟨e1, _⟩ := rx
    obtain ⟨e2, _⟩ := ry
    subst e1; subst e2
    exact .inl ⟨_, z, by rw [← one_sign h1], rfl, PostE.ok s p rfl⟩
  · rw [e] at p
    obtain ⟨a, xs, rfl, hq, r⟩ := asS_rp s ry h1
    refine .inr ⟨a, xs, rfl, hq, Rp.flat h2 rx, Rps.flatAll h3 r.toT, ?_⟩
    have : inV v xs = ts.any (fun u => teq u t) := Rps.anyEq h2 rx h3 r.toT
    rw [this]
    exact PostE.ok s p rfl
section
variable {Z : Zc} {a b : Expr} {da db : De} {pos : Pos}
theorem pd_in (ha : PD Z a da) (hb : PD Z b db) (hm : behindInMarks .In b = false := by rfl) : PD Z (.Compare a [.In] [b] pos) (dBin (fIn false) da db) :=
  pd_cmp (fun X => rInN X.K false) (fun X _ ok => OpR.or op_in_sign op_in_seq) (fun _ _ ok => a_in _ ok.Kg) ha hb hm
theorem pd_notIn (ha : PD Z a da) (hb : PD Z b db) (hm : behindInMarks .NotIn b = false := by rfl) : PD Z (.Compare a [.NotIn] [b] pos) (dBin (fIn true) da db) :=
  pd_cmp (fun X => rInN X.K true) (fun X _ ok => OpR.or op_notIn_sign op_notIn_seq) (fun _ _ ok => a_in _ ok.Kg) ha hb hm
end
end BL

set_option Elab.async false
set_option linter.all false
set_option maxRecDepth 100000
set_option maxHeartbeats 1000000
namespace BL
open PySem L2

/-! ### x[i] -/
def fIx : D → D → Hs → Re
  | .t (.str z), .t (.int i), G => if z.length ≤ sizeLine then (match atI z.cps.toList i with
    | some c => .ok (.t (.str ⟨#[c]⟩)) G
    | none => .stuck) else .stuck
  | x, .t (.int i), G => match asS G x with
    | some ds => (match atI ds i with
      | some d => .ok d G
      | none => .stuck)
    | none => .stuck
  | _, _, _ => .stuck
theorem fix_in {x y : D} {G : Hs} (h : fIx x y G ≠ .stuck) :
    (∃ z i c, x = .t (.str z) ∧ y = .t (.int i) ∧ z.length ≤ sizeLine ∧ atI z.cps.toList i = some c ∧ fIx x y G = .ok (.t (.str ⟨#[c]⟩)) G) ∨
    (∃ i ds d, y = .t (.int i) ∧ asS G x = some ds ∧ atI ds i = some d ∧ fIx x y G = .ok d G) := by
  revert h
  unfold fIx
  intro h
  split at h
  · split at h
    · split at h
      · rename_i hz _ c e
        refine .inl ⟨_, _, c, rfl, rfl, hz, e, ?_⟩
        rw [if_pos hz]
      · exact absurd rfl h
    · exact absurd rfl h
  · rename_i hn
    split at h
    · split at h
      · rename_i ds e _ d e2
        exact .inr ⟨_, ds, d, rfl, e, e2, rfl⟩
      · exact absurd rfl h
    · exact absurd rfl h
  · exact absurd rfl h
section
variable {g : Gm} {m : Nat → Addr} {n b : Nat} {H : Hp} {G : Hs}
theorem RpDs.atI {ds : List D} {vs : List V} {i : Int} {d : D} (r : RpDs g m n b H ds vs) (e : L2.atI ds i = some d) : ∃ v, L2.atI vs i = some v ∧ RpD g m n b H d v := by
  unfold L2.atI at *
  rw [← r.length]
  cases q : ixN ds.length i with
  | none => rw [q] at e; cases e
  | some j =>
    rw [q] at e
    exact r.get e
theorem okS_one {z : Str} {i : Int} {c : Nat} (h : okS z) (e : L2.atI z.cps.toList i = some c) : okS ⟨#[c]⟩ := by
  obtain ⟨j, _, e2, _⟩ := atI_get e
  have hc : c ∈ z.cps.toList := List.mem_of_getElem? e2
  show ((#[c] : Array Nat).all fun c => decide (c < 0x110000)) = true
  have : (z.cps.all fun c => decide (c < 0x110000)) = true := h
  rw [Array.all_eq_true'] at this
  have := this c (Array.mem_def.mpr hc)
  simpa using this
theorem a_ix (K : PySem.W.Frag) (hK : K = g.K) : OpA g (rIx K) fIx := by
  subst hK
  intro W m H G σ Q x y v u s rx ry p
  have hr : fIx x y G ≠ .stuck := fun e => by rw [e] at p; exact p
  rcases fix_in hr with ⟨z, i, c, rfl, rfl, hz, e, q⟩ | ⟨i, ds, d, rfl, e, e2, q⟩
  · rw [q] at p
    obtain ⟨e1, ho⟩ := rx
    cases ry
    subst e1
    exact .inr (.inr ⟨z, i, c, rfl, rfl, hz, e, PostE.ok s p ⟨rfl, okS_one ho e⟩⟩)
  · rw [q] at p
    cases ry
    obtain ⟨a, xs, rfl, h, r⟩ := asS_rp s rx e
    obtain ⟨w, e3, rw'⟩ := r.atI e2
    rcases h with h | h
    · exact .inl ⟨a, xs, i, w, rfl, rfl, h, e3, PostE.ok s p rw'⟩
    · exact .inr (.inl ⟨a, xs, i, w, rfl, rfl, h, e3, PostE.ok s p rw'⟩)
end
section
variable {Z : Zc} {a b o : Expr} {da db do_ : De} {pos p2 : Pos}
theorem pd_ix (ha : PD Z a da) (hb : PD Z b db) (hs : PlainIx b := by intro _ _; rfl) : PD Z (.Subscript a b pos) (dBin fIx da db) := fun X W ok =>
  peI (pe_ix ix_seq (ha X W ok) (hb X W ok) hs) fun _ _ _ h => tI_bin (a_ix _ ok.Kg) h
end
/-! ### slices -/
def cutA {α : Type} (xs : List α) (lo hi : Option Int) : List α := (xs.drop (HT.sIx xs.length 0 lo)).take (HT.sIx xs.length xs.length hi - HT.sIx xs.length 0 lo)
def fSl (x : D) (lo hi : Option Int) (G : Hs) : Re := match x with
  | .t (.str z) => if z.length ≤ sizeLine then .ok (.t (.str (cutS z lo hi))) G else .stuck
  | .t (.tup ts) => .ok (.t (.tup (cutA ts lo hi))) G
  | .t (.ftp ts) => .ok (.t (.tup (cutA ts lo hi))) G
  | x => match asL G x with
    | some ds => (match plain ds with
      | some ts => .ok (.t (.lst (cutA ts lo hi))) G
      | none => .stuck)
    | none => .stuck
abbrev Dop := Option De
def dSl (a : De) (lo hi : Dop) : De := fun r G => (a r G).bind fun x G1 => match lo with
  | none => (match hi with
    | none => fSl x none none G1
    | some h => (h r G1).bind fun y G2 => match y with | .t (.int j) => fSl x none (some j) G2 | _ => .stuck)
  | some l => (l r G1).bind fun w G2 => match w with
    | .t (.int i) => (match hi with
      | none => fSl x (some i) none G2
      | some h => (h r G2).bind fun y G3 => match y with | .t (.int j) => fSl x (some i) (some j) G3 | _ => .stuck)
    | _ => .stuck
theorem okS_cut {z : Str} {lo hi : Option Int} (h : okS z) : okS (cutS z lo hi) := by
  have hz : (z.cps.all fun c => decide (c < 0x110000)) = true := h
  rw [Array.all_eq_true'] at hz
  show ((cutS z lo hi).cps.all fun c => decide (c < 0x110000)) = true
  rw [Array.all_eq_true']
  intro c hc
  apply hz
  rw [Array.mem_def] at hc ⊢
  exact List.mem_of_mem_drop (List.mem_of_mem_take hc)
def rSlN (K : PySem.W.Frag) : V → Option Int → Option Int → Hp → VK → Prop := fun x lo hi H Q => rSlS x lo hi H Q ∨ rSlA K x lo hi H Q ∨ rSlL K x lo hi H Q
theorem a_sl {g : Gm} (K : PySem.W.Frag) (hK : K = g.K) {W : WX} {m : Nat → Addr} {H : Hp} {G : Hs} {σ : St} {Q : VK} {x : D} {v : V} {lo hi : Option Int} (s : SR g m H G) (rx : RpD g m G.length G.length H x v) (p : PostE g W m G.length H σ Q (fSl x lo hi G)) : rSlN K v lo hi H Q := by
  subst hK
  unfold fSl at p
  split at p
  · split at p
    · rename_i h
      obtain ⟨e, ho⟩ := rx
      subst e
      exact .inl ⟨_, rfl, h, PostE.ok s p ⟨rfl, okS_cut ho⟩⟩
    · exact p.elim
  · rename_i ts
    obtain ⟨a, xs, rfl, h, r⟩ := rx
    have hl := r.length
    refine .inr (.inl ⟨a, xs, rfl, h, fun ⟨h1, h2⟩ => ?_, fun hn q hq => ?_⟩)
    · have : cutA ts lo hi = ts := by unfold cutA; rw [hl, h1, h2]; simp [← hl]
      rw [this] at p
      exact PostE.ok s p ⟨a, xs, rfl, h, r⟩
    · have hz : (cutV xs lo hi).length ≤ sizeLine := Nat.le_trans (cutV_length _ _ _) (s.szT h)
      refine p _ _ _ (Ex.new hq) (s.new hq hz) ⟨q, _, rfl, .inl (.inl upd_same), ?_⟩
      have := Rps.take (HT.sIx xs.length xs.length hi - HT.sIx xs.length 0 lo) (Rps.drop (HT.sIx xs.length 0 lo) r)
      have e : cutA ts lo hi = (ts.drop (HT.sIx xs.length 0 lo)).take (HT.sIx xs.length xs.length hi - HT.sIx xs.length 0 lo) := by unfold cutA; rw [hl]
      rw [e]
      exact Rps.ex (Ex.new hq) s _ _ this
  · rename_i ts
    obtain ⟨a, ob, xs, rfl, h0, _, _, r⟩ := rx
    have h : SqT g.K H a xs := .inl (.inr ⟨ob, h0⟩)
    have hl := r.length
    refine .inr (.inl ⟨a, xs, rfl, h, fun ⟨h1, h2⟩ => ?_, fun hn q hq => ?_⟩)
    · have : cutA ts lo hi = ts := by unfold cutA; rw [hl, h1, h2]; simp [← hl]
      rw [this] at p
      exact PostE.ok s p ⟨a, xs, rfl, h, r⟩
    · have hz : (cutV xs lo hi).length ≤ sizeLine := Nat.le_trans (cutV_length _ _ _) (s.szT h)
      refine p _ _ _ (Ex.new hq) (s.new hq hz) ⟨q, _, rfl, .inl (.inl upd_same), ?_⟩
      have := Rps.take (HT.sIx xs.length xs.length hi - HT.sIx xs.length 0 lo) (Rps.drop (HT.sIx xs.length 0 lo) r)
      have e : cutA ts lo hi = (ts.drop (HT.sIx xs.length 0 lo)).take (HT.sIx xs.length xs.length hi - HT.sIx xs.length 0 lo) := by unfold cutA; rw [hl]
      rw [e]
      exact Rps.ex (Ex.new hq) s _ _ this
  · split at p
    · split at p
      · rename_i ds e _ ts e2
        obtain ⟨a, xs, rfl, h, r⟩ := asL_rp s rx e
        have := plain_some e2
        subst this
        have r := r.toT
        have hl := r.length
        refine .inr (.inr ⟨a, xs, rfl, h, fun q hq => ?_⟩)
        have hz : (cutV xs lo hi).length ≤ sizeLine := Nat.le_trans (cutV_length _ _ _) (s.szL h)
        refine p _ _ _ (Ex.new hq) (s.new hq hz) ⟨q, _, rfl, .here upd_same (s.notBd hq), ?_⟩
        have := Rps.take (HT.sIx xs.length xs.length hi - HT.sIx xs.length 0 lo) (Rps.drop (HT.sIx xs.length 0 lo) r)
        have e : cutA ts lo hi = (ts.drop (HT.sIx xs.length 0 lo)).take (HT.sIx xs.length xs.length hi - HT.sIx xs.length 0 lo) := by unfold cutA; rw [hl]
        rw [e]
        exact Rps.ex (Ex.new hq) s _ _ this
      · exact p.elim
    · exact p.elim
section
variable {Z : Zc} {a l u : Expr} {da dl du : De} {pos p2 : Pos}
theorem tI_sl {W : WX} {X : Cx} (hK : X.K = Z.g.K) {da : De} {lo hi : Dop} {σ : St} {H : Hp} {Q : VK} (h : tI Z.g W (dSl da lo hi) σ H Q) :
    tSl (rSlN X.K) (tI Z.g W da) (match lo with | none => tNoPart | some l => tPart (tI Z.g W l)) (match hi with | none => tNoPart | some l => tPart (tI Z.g W l)) σ H Q := by
  obtain ⟨m, r, G, s, sl, p⟩ := h
  refine tI_bind s sl p fun x G1 v m1 H1 e x1 s1 sl1 rv p1 => ?_
  cases lo with
  | none =>
    cases hi with
    | none => exact a_sl _ hK s1 rv p1
    | some hi =>
      refine tI_bind s1 sl1 p1 fun y G2 u m2 H2 e2 x2 s2 sl2 ru p2 => ?_
      split at p2
      · cases ru
        exact ⟨_, rfl, a_sl _ hK s2 (RpD.ex x2 s1 x2.le (Nat.le_refl _) rv) p2⟩
      · exact p2.elim
  | some lo =>
    refine tI_bind s1 sl1 p1 fun y G2 u m2 H2 e2 x2 s2 sl2 ru p2 => ?_
    split at p2
    · cases ru
      refine ⟨_, rfl, ?_⟩
      cases hi with
      | none => exact a_sl _ hK s2 (RpD.ex x2 s1 x2.le (Nat.le_refl _) rv) p2
      | some hi =>
        refine tI_bind s2 sl2 p2 fun y G3 u m3 H3 e3 x3 s3 sl3 ru p3 => ?_
        split at p3
        · cases ru
          exact ⟨_, rfl, a_sl _ hK s3 (RpD.ex x3 s2 x3.le (Nat.le_refl _) (RpD.ex x2 s1 x2.le (Nat.le_refl _) rv)) p3⟩
        · exact p3.elim
    · exact p2.elim
theorem sl_any {X : Cx} : SlR X (rSlN X.K) := SlR.or sl_str (SlR.or sl_tupA sl_list)
theorem pd_slLU (ha : PD Z a da) (hl : PD Z l dl) (hu : PD Z u du) : PD Z (.Subscript a (.Slice (some l) (some u) none p2) pos) (dSl da (some dl) (some du)) := fun X W ok =>
  peI (pe_slice sl_any (ha X W ok) (po_some (hl X W ok)) (po_some (hu X W ok))) fun _ _ _ h => tI_sl (lo := some dl) (hi := some du) ok.Kg h
theorem pd_slL (ha : PD Z a da) (hl : PD Z l dl) : PD Z (.Subscript a (.Slice (some l) none none p2) pos) (dSl da (some dl) none) := fun X W ok =>
  peI (pe_slice sl_any (ha X W ok) (po_some (hl X W ok)) po_none) fun _ _ _ h => tI_sl (lo := some dl) (hi := none) ok.Kg h
theorem pd_slU (ha : PD Z a da) (hu : PD Z u du) : PD Z (.Subscript a (.Slice none (some u) none p2) pos) (dSl da none (some du)) := fun X W ok =>
  peI (pe_slice sl_any (ha X W ok) po_none (po_some (hu X W ok))) fun _ _ _ h => tI_sl (lo := none) (hi := some du) ok.Kg h
theorem pd_sl (ha : PD Z a da) : PD Z (.Subscript a (.Slice none none none p2) pos) (dSl da none none) := fun X W ok =>
  peI (pe_slice sl_any (ha X W ok) po_none po_none) fun _ _ _ h => tI_sl (lo := none) (hi := none) ok.Kg h
end
/-! ### displays -/
def fTupD : List D → Hs → Re := fun ds G => match plain ds with
  | some ts => if ts.length ≤ sizeLine then .ok (.t (.tup ts)) G else .stuck
  | none => .stuck
def fLstD : List D → Hs → Re := fun ds G => match plain ds with
  | some ts => if ts.length ≤ sizeLine then .ok (.t (.lst ts)) G else .stuck
  | none => .stuck
def fLstDL : List D → Hs → Re := fun ds G => if ds.length ≤ sizeLine then .ok (.loc G.length) (G ++ [.lst ds]) else .stuck
section
variable {Z : Zc} {es : List Expr} {das : List De} {pos : Pos} {x1 : Nat}
theorem pd_tupD (h : PDA Z es das) : PD Z (.Tuple es x1 pos) (dArgs das fTupD) := fun X W ok => by
  refine peI (pe_tup (h X W ok)) fun σ H Q h => ?_
  obtain ⟨m, r, G, s, sl, p⟩ := h
  refine tA_of s sl p fun ds G1 vs m1 H1 x1 s1 sl1 rs _ p1 => ?_
  unfold fTupD at p1
  split at p1
  · rename_i ts e
    have := plain_some e
    subst this
    split at p1
    · rename_i hz
      have r := rs.toT
      have hz' : vs.length ≤ sizeLine := by rw [← r.length]; exact hz
      exact ⟨hz', fun q hq => p1 _ _ _ (Ex.new hq) (s1.new hq hz') ⟨q, _, rfl, .inl (.inl upd_same), Rps.ex (Ex.new hq) s1 _ _ r⟩⟩
    · exact p1.elim
  · exact p1.elim
theorem pd_lstD (h : PDA Z es das) : PD Z (.List es pos) (dArgs das fLstD) := fun X W ok => by
  refine peI (pe_lst (h X W ok)) fun σ H Q h => ?_
  obtain ⟨m, r, G, s, sl, p⟩ := h
  refine tA_of s sl p fun ds G1 vs m1 H1 x1 s1 sl1 rs _ p1 => ?_
  unfold fLstD at p1
  split at p1
  · rename_i ts e
    have := plain_some e
    subst this
    split at p1
    · rename_i hz
      have r := rs.toT
      have hz' : vs.length ≤ sizeLine := by rw [← r.length]; exact hz
      exact ⟨hz', fun q hq => p1 _ _ _ (Ex.new hq) (s1.new hq hz') ⟨q, _, rfl, .here upd_same (s1.notBd hq), Rps.ex (Ex.new hq) s1 _ _ r⟩⟩
    · exact p1.elim
  · exact p1.elim
theorem pd_lstDL (h : PDA Z es das) : PD Z (.List es pos) (dArgs das fLstDL) := fun X W ok => by
  refine peI (pe_lst (h X W ok)) fun σ H Q h => ?_
  obtain ⟨m, r, G, s, sl, p⟩ := h
  refine tA_of s sl p fun ds G1 vs m1 H1 x1 s1 sl1 rs _ p1 => ?_
  unfold fLstDL at p1
  split at p1
  · rename_i hz
    have hz' : vs.length ≤ sizeLine := by rw [← rs.length]; exact hz
    refine ⟨hz', fun q hq => ?_⟩
    obtain ⟨q1, q2, q3⟩ := newL s1 hq hz' rs
    exact p1 _ _ _ q1 q2 q3
  · exact p1.elim
end
end BL

set_option Elab.async false
set_option linter.all false
set_option maxRecDepth 100000
set_option maxHeartbeats 1000000
namespace BL
open PySem L2

/-! ### truth -/
def truth (G : Hs) : D → Option Bool
  | .t .non => some false
  | .t (.bl b) => some b
  | .t (.int i) => some (i != 0)
  | .t (.str x) => if x.length ≤ sizeLine then some ((x.length : Int) != 0) else none
  | .t (.tup ts) => some (!ts.isEmpty)
  | .t (.lst ts) => some (!ts.isEmpty)
  | .t (.dk ks _) => some (!ks.isEmpty)
  | .t (.obj _ _ _) => none
  | .t (.ftp ts) => some (!ts.isEmpty)
  | .t (.cls _) => none
  | .loc i => match G[i]? with
    | some (.lst ds) => some (!ds.isEmpty)
    | some (.flst ts) => some (!ts.isEmpty)
    | some (.dk kvs) => some (!kvs.isEmpty)
    | _ => none
theorem isEmpty_len {α β : Type} {xs : List α} {ys : List β} (h : xs.length = ys.length) : xs.isEmpty = ys.isEmpty := by
  cases xs <;> cases ys <;> simp at h ⊢
theorem zip_empty {α β : Type} {xs : List α} {ys : List β} (h : ys.length = xs.length) : (xs.zip ys).isEmpty = xs.isEmpty := by
  cases xs <;> cases ys <;> simp at h ⊢
section
variable {g : Gm} {m : Nat → Addr} {H : Hp} {G : Hs}
theorem truth_rp (s : SR g m H G) {d : D} {v : V} {k : Bool} (r : RpD g m G.length G.length H d v) (e : truth G d = some k) : TruV g.K v H k := by
  cases d with
  | t x =>
    cases x with
    | non => cases r; cases e; rfl
    | bl b => cases r; cases e; rfl
    | int i => cases r; cases e; rfl
    | str z =>
      obtain ⟨r, _⟩ := r
      subst r
      simp only [truth] at e
      split at e
      · cases e; exact ⟨by assumption, rfl⟩
      · cases e
    | tup ts =>
      obtain ⟨a, xs, rfl, h, r⟩ := r
      cases e
      exact .inr (.inl ⟨xs, h, by rw [isEmpty_len r.length]⟩)
    | lst ts =>
      obtain ⟨a, xs, rfl, h, r⟩ := r
      cases e
      exact .inl ⟨xs, h.sq, by rw [isEmpty_len r.length]⟩
    | dk ks ts =>
      obtain ⟨a, xs, rfl, h, l, nb, r⟩ := r
      cases e
      exact .inr (.inr ⟨_, h, by rw [zip_empty l]⟩)
    | obj c ns ts => cases e
    | ftp ts =>
      obtain ⟨a, ob, xs, rfl, h, _, _, r⟩ := r
      cases e
      exact .inr (.inl ⟨xs, .inl (.inr ⟨ob, h⟩), by rw [isEmpty_len r.length]⟩)
    | cls c => cases e
  | loc i =>
    obtain ⟨hi, rfl⟩ := r
    cases q : G[i]? with
    | none => simp [truth, q] at e
    | some o =>
      cases o with
      | lst ds =>
        simp [truth, q] at e
        obtain ⟨xs, h, r⟩ := s.ob i _ q
        exact .inl ⟨xs, .inl (.inl h), by rw [← isEmpty_len r.length, e]; simp⟩
      | flst ts =>
        simp [truth, q] at e
        obtain ⟨ob, xs, h, r⟩ := s.ob i _ q
        exact .inl ⟨xs, .inl (.inr ⟨ob, h⟩), by rw [← isEmpty_len r.length, e]; simp⟩
      | dk kvs =>
        simp [truth, q] at e
        obtain ⟨xs, h, r⟩ := s.ob i _ q
        have hl := r.length
        exact .inr (.inr ⟨_, h, by rw [zip_empty (by simpa using hl.symm), ← isEmpty_len (show kvs.length = (kvs.map (·.1)).length by simp), e]; simp⟩)
      | ins c fs => simp [truth, q] at e
end
def dT (d : De) : De := fun r G => (d r G).bind fun x G1 => match truth G1 x with
  | some b => .ok (.t (.bl b)) G1
  | none => .stuck
def tT (g : Gm) (W : WX) (d : De) : TT := fun σ H Q => ∃ m r G, SR g m H G ∧ Sl g m G.length H σ r ∧ PostE g W m G.length H σ (fun v H' => ∀ b, v = .bl b → Q b H') (dT d r G)
def PDT (Z : Zc) (e : Expr) (d : De) : Prop := ∀ X W, Ok Z X W → PT X e (tT Z.g W d)
def PDW (Z : Zc) (e : Expr) (d : De) : Prop := ∀ X W, Ok Z X W → PW X e (tT Z.g W d)
theorem pwI {X : Cx} {e : Expr} {t t' : TT} (h : PW X e t) (k : ∀ σ H Q, t' σ H Q → t σ H Q) : PW X e t' := ⟨fun wh pins s σ H Q I z => h.run wh pins s σ H Q I (k σ H Q z)⟩
/-- the test's answer b is known behind the expression -/
theorem tT_of {g : Gm} {W : WX} {d : De} {σ : St} {H : Hp} {Q : Bool → Hp → Prop} {R : VK} (h : tT g W d σ H Q)
    (next : ∀ m r G x G1 v m1 H1 b, SR g m H G → Sl g m G.length H σ r → d r G = .ok x G1 → Ex m G.length H m1 G1.length H1 → SR g m1 H1 G1 → RpD g m1 G1.length G1.length H1 x v → truth G1 x = some b → Q b H1 → R v H1) : tI g W d σ H R := by
  obtain ⟨m, r, G, s, sl, p⟩ := h
  refine tI_bind s sl p fun x G1 v m1 H1 e x1 s1 sl1 rv p1 => ?_
  cases q : truth G1 x with
  | none => rw [q] at p1; exact p1.elim
  | some b =>
    rw [q] at p1
    exact next m r G x G1 v m1 H1 b s sl e x1 s1 rv q (PostE.ok (d := .t (.bl b)) s1 p1 (v := .bl b) rfl b rfl)
section
variable {Z : Zc} {a b c : Expr} {rest : List Expr} {da db dc : De} {pos : Pos}
theorem pdt_truth (h : PD Z a da) (he : ∀ env whole, isTrue a env whole = (do let v ← whole; standAt a.pos; holding [v] (truthy v)) := by intro _ _; rfl) : PDT Z a da := fun X W ok => by
  refine ptI (pt_truth (h X W ok) (he _)) fun σ H Q h => ?_
  exact tT_of h fun m r G x G1 v m1 H1 b s sl e x1 s1 rv q hq => ⟨b, by rw [ok.Kg]; exact truth_rp s1 rv q, hq⟩
/-- a comparison as a test: it gives a bool -/
def IsB (f : D → D → Hs → Re) : Prop := ∀ x y G d G', f x y G = .ok d G' → ∃ b, d = .t (.bl b)
theorem tT_bin {g : Gm} {W : WX} {f : D → D → Hs → Re} (hb : IsB f) {σ : St} {H : Hp} {Q : Bool → Hp → Prop} (h : tT g W (dBin f da db) σ H Q) : tI g W (dBin f da db) σ H (fun v H' => ∃ k, v = .bl k ∧ Q k H') := by
  refine tT_of h fun m r G x G1 v m1 H1 b s sl e x1 s1 rv q hq => ?_
  have : ∃ k, x = .t (.bl k) := by
    unfold dBin at e
    cases ea : da r G with
    | ok y G2 =>
      rw [ea] at e
      cases eb : db r G2 with
      | ok z G3 =>
        simp only [bind_ok] at e
        rw [eb] at e
        exact hb _ _ _ _ _ e
      | exc _ _ _ _ => simp only [bind_ok] at e; rw [eb] at e; cases e
      | stuck => simp only [bind_ok] at e; rw [eb] at e; cases e
    | exc _ _ _ _ => rw [ea] at e; cases e
    | stuck => rw [ea] at e; cases e
  obtain ⟨k, rfl⟩ := this
  cases q
  exact ⟨b, rv, hq⟩
theorem pdt_cmp {op : CmpOp} {f : D → D → Hs → Re} (q : Cx → R2) (ho : ∀ X W, Ok Z X W → OpR X (compareOp op) (q X)) (hq : ∀ X W, Ok Z X W → OpA Z.g (q X) f) (hf : IsB f) (ha : PD Z a da) (hb : PD Z b db) (hm : behindInMarks op b = false) : PDT Z (.Compare a [op] [b] pos) (dBin f da db) :=
  fun X W ok => ptI (pt_cmpR (ho X W ok) (ha X W ok) (hb X W ok) hm) fun _ _ _ h => tI_bin (hq X W ok) (tT_bin hf h)
theorem isB_cmp {p : Int → Int → Bool} : IsB (fCmp p) := by
  intro x y G d G' e
  unfold fCmp at e
  split at e
  · cases e; exact ⟨_, rfl⟩
  · cases e
theorem isB_isN {p : Bool} : IsB (fIsN p) := by
  intro x y G d G' e
  unfold fIsN at e
  split at e
  · cases e; exact ⟨_, rfl⟩
  · cases e; exact ⟨_, rfl⟩
  · cases e
theorem isB_eq {p : Bool} : IsB (fEq p) := by
  intro x y G d G' e
  unfold fEq at e
  split at e
  · split at e
    · cases e; exact ⟨_, rfl⟩
    · cases e
  · cases e
theorem isB_in {p : Bool} : IsB (fIn p) := by
  intro x y G d G' e
  rcases fin_in e (by simp) with ⟨_, _, _, _, _, q⟩ | ⟨_, _, _, _, _, _, q⟩
  · cases q; exact ⟨_, rfl⟩
  · cases q; exact ⟨_, rfl⟩
theorem pdt_lt (ha : PD Z a da) (hb : PD Z b db) : PDT Z (.Compare a [.Lt] [b] pos) (dBin fLt da db) := pdt_cmp (fun _ => _) (fun _ _ _ => op_lt) (fun _ _ _ => a_cmp) isB_cmp ha hb (nomark _)
theorem pdt_le (ha : PD Z a da) (hb : PD Z b db) : PDT Z (.Compare a [.LtE] [b] pos) (dBin fLe da db) := pdt_cmp (fun _ => _) (fun _ _ _ => op_le) (fun _ _ _ => a_cmp) isB_cmp ha hb (nomark _)
theorem pdt_gt (ha : PD Z a da) (hb : PD Z b db) : PDT Z (.Compare a [.Gt] [b] pos) (dBin fGt da db) := pdt_cmp (fun _ => _) (fun _ _ _ => op_gt) (fun _ _ _ => a_cmp) isB_cmp ha hb (nomark _)
theorem pdt_ge (ha : PD Z a da) (hb : PD Z b db) : PDT Z (.Compare a [.GtE] [b] pos) (dBin fGe da db) := pdt_cmp (fun _ => _) (fun _ _ _ => op_ge) (fun _ _ _ => a_cmp) isB_cmp ha hb (nomark _)
theorem pdt_isN (ha : PD Z a da) (hb : PD Z b db) : PDT Z (.Compare a [.Is] [b] pos) (dBin (fIsN false) da db) := pdt_cmp (fun _ => _) (fun _ _ _ => op_isN) (fun _ _ _ => a_isN) isB_isN ha hb (nomark _)
theorem pdt_notN (ha : PD Z a da) (hb : PD Z b db) : PDT Z (.Compare a [.IsNot] [b] pos) (dBin (fIsN true) da db) := pdt_cmp (fun _ => _) (fun _ _ _ => op_notN) (fun _ _ _ => a_notN) isB_isN ha hb (nomark _)
theorem pdt_eq (ha : PD Z a da) (hb : PD Z b db) : PDT Z (.Compare a [.Eq] [b] pos) (dBin (fEq false) da db) := pdt_cmp (fun X => rEqN X.K false) (fun _ _ ok => op_eqN ok.u64) (fun _ _ ok => a_eq _ ok.Kg) isB_eq ha hb (nomark _)
theorem pdt_ne (ha : PD Z a da) (hb : PD Z b db) : PDT Z (.Compare a [.NotEq] [b] pos) (dBin (fEq true) da db) := pdt_cmp (fun X => rEqN X.K true) (fun _ _ ok => op_neN ok.u64) (fun _ _ ok => a_eq _ ok.Kg) isB_eq ha hb (nomark _)
theorem pdt_in (ha : PD Z a da) (hb : PD Z b db) (hm : behindInMarks .In b = false := by rfl) : PDT Z (.Compare a [.In] [b] pos) (dBin (fIn false) da db) :=
  pdt_cmp (fun X => rInN X.K false) (fun X _ ok => OpR.or op_in_sign op_in_seq) (fun _ _ ok => a_in _ ok.Kg) isB_in ha hb hm
theorem pdt_notIn (ha : PD Z a da) (hb : PD Z b db) (hm : behindInMarks .NotIn b = false := by rfl) : PDT Z (.Compare a [.NotIn] [b] pos) (dBin (fIn true) da db) :=
  pdt_cmp (fun X => rInN X.K true) (fun X _ ok => OpR.or op_notIn_sign op_notIn_seq) (fun _ _ ok => a_in _ ok.Kg) isB_in ha hb hm
/-! ### not, and, or, a if c else b -/
def dNot (d : De) : De := fun r G => (dT d r G).bind fun x G1 => match x with
  | .t (.bl b) => .ok (.t (.bl (!b))) G1
  | _ => .stuck
def dAnd (a b : De) : De := fun r G => (a r G).bind fun x G1 => match truth G1 x with
  | some true => b r G1
  | some false => .ok x G1
  | none => .stuck
def dOr (a b : De) : De := fun r G => (a r G).bind fun x G1 => match truth G1 x with
  | some true => .ok x G1
  | some false => b r G1
  | none => .stuck
def dIte (c a b : De) : De := fun r G => (dT c r G).bind fun x G1 => match x with
  | .t (.bl true) => a r G1
  | .t (.bl false) => b r G1
  | _ => .stuck
/-- behind a test -/
theorem tT_bind {g : Gm} {W : WX} {d : De} {k : D → Hs → Re} {m : Nat → Addr} {H : Hp} {G : Hs} {σ : St} {r : Ev} {Q : VK} {R : Bool → Hp → Prop} (s : SR g m H G) (sl : Sl g m G.length H σ r) (p : PostE g W m G.length H σ Q ((dT d r G).bind k))
    (next : ∀ b G1 m1 H1, dT d r G = .ok (.t (.bl b)) G1 → Ex m G.length H m1 G1.length H1 → SR g m1 H1 G1 → Sl g m1 G1.length H1 σ r → PostE g W m1 G1.length H1 σ Q (k (.t (.bl b)) G1) → R b H1) : tT g W d σ H R := by
  refine ⟨m, r, G, s, sl, ?_⟩
  cases e : dT d r G with
  | ok x G1 =>
    rw [e] at p
    intro v m1 H1 x1 s1 rv b eb
    subst eb
    have : x = .t (.bl b) := by
      unfold dT at e
      cases e2 : d r G with
      | ok y G2 =>
        rw [e2] at e
        simp only [bind_ok] at e
        split at e
        · cases e; cases rv; rfl
        · cases e
      | exc _ _ _ _ => rw [e2] at e; cases e
      | stuck => rw [e2] at e; cases e
    subst this
    exact next b G1 m1 H1 e x1 s1 (Sl.ex x1 s sl) (PostE.trans x1 s1 p)
  | exc c ns ds G' => rw [e] at p; exact p
  | stuck => rw [e] at p; exact p
theorem pd_not (h : PD Z a da) : PD Z (.UnaryOp .Not a pos) (dNot da) := fun X W ok => by
  refine peI (pe_notT (h X W ok)) fun σ H Q h => ?_
  obtain ⟨m, r, G, s, sl, p⟩ := h
  have : tT Z.g W da σ H (fun b H1 => Q (.bl (!b)) H1) := tT_bind s sl p fun b G1 m1 H1 e x1 s1 sl1 p1 => PostE.ok (d := .t (.bl (!b))) s1 p1 rfl
  exact tT_of this fun m r G x G1 v m1 H1 b s sl e x1 s1 rv q hq => ⟨b, by rw [ok.Kg]; exact truth_rp s1 rv q, hq⟩
theorem truth_bl {G : Hs} {b : Bool} : truth G (.t (.bl b)) = some b := rfl
theorem pdt_not (h : PDT Z a da) : PDT Z (.UnaryOp .Not a pos) (dNot da) := fun X W ok => by
  refine ptI (pt_not (h X W ok)) fun σ H Q h => ?_
  obtain ⟨m, r, G, s, sl, p⟩ := h
  have p' : PostE Z.g W m G.length H σ (fun v H' => ∀ b, v = .bl b → Q b H') ((dT da r G).bind fun x G1 => match x with | .t (.bl b) => .ok (.t (.bl (!b))) G1 | _ => .stuck) := by
    unfold dT dNot at p
    cases e : dT da r G with
    | ok x G1 =>
      rw [e] at p
      cases x with
      | t t =>
        cases t with
        | bl b => exact p
        | _ => exact p
      | loc i => exact p
    | exc _ _ _ _ => rw [e] at p; exact p
    | stuck => rw [e] at p; exact p
  exact tT_bind s sl p' fun b G1 m1 H1 e x1 s1 sl1 p1 => PostE.ok (d := .t (.bl (!b))) s1 p1 (v := .bl (!b)) rfl _ rfl
theorem pd_one {op : BoolOp} (h : PD Z a da) : PD Z (.BoolOp op [a] pos) da := fun X W ok => pe_one (h X W ok)
theorem pd_and (ha : PD Z a da) (hb : PD Z (.BoolOp .And (b :: rest) pos) db) : PD Z (.BoolOp .And (a :: b :: rest) pos) (dAnd da db) := fun X W ok => by
  refine peI (pe_andT (ha X W ok) (hb X W ok)) fun σ H Q h => ?_
  obtain ⟨m, r, G, s, sl, p⟩ := h
  refine tI_bind s sl p fun x G1 v m1 H1 e x1 s1 sl1 rv p1 => ?_
  cases q : truth G1 x with
  | none => rw [q] at p1; exact p1.elim
  | some k =>
    rw [q] at p1
    refine ⟨k, by rw [ok.Kg]; exact truth_rp s1 rv q, ?_⟩
    cases k with
    | true => exact ⟨m1, r, G1, s1, sl1, p1⟩
    | false => exact PostE.ok s1 p1 rv
theorem pd_or (ha : PD Z a da) (hb : PD Z (.BoolOp .Or (b :: rest) pos) db) : PD Z (.BoolOp .Or (a :: b :: rest) pos) (dOr da db) := fun X W ok => by
  refine peI (pe_orT (ha X W ok) (hb X W ok)) fun σ H Q h => ?_
  obtain ⟨m, r, G, s, sl, p⟩ := h
  refine tI_bind s sl p fun x G1 v m1 H1 e x1 s1 sl1 rv p1 => ?_
  cases q : truth G1 x with
  | none => rw [q] at p1; exact p1.elim
  | some k =>
    rw [q] at p1
    refine ⟨k, by rw [ok.Kg]; exact truth_rp s1 rv q, ?_⟩
    cases k with
    | true => exact PostE.ok s1 p1 rv
    | false => exact ⟨m1, r, G1, s1, sl1, p1⟩
theorem pd_ite (hc : PDT Z c dc) (ha : PD Z a da) (hb : PD Z b db) : PD Z (.IfExp c a b pos) (dIte dc da db) := fun X W ok => by
  refine peI (pe_ifExp (hc X W ok) (ha X W ok) (hb X W ok)) fun σ H Q h => ?_
  obtain ⟨m, r, G, s, sl, p⟩ := h
  refine tT_bind s sl p fun k G1 m1 H1 e x1 s1 sl1 p1 => ?_
  cases k with
  | true => exact ⟨m1, r, G1, s1, sl1, p1⟩
  | false => exact ⟨m1, r, G1, s1, sl1, p1⟩
theorem dT_and {r : Ev} {G : Hs} : dT (dAnd da db) r G = (dT da r G).bind fun x G1 => match x with
    | .t (.bl true) => dT db r G1
    | .t (.bl false) => .ok (.t (.bl false)) G1
    | _ => .stuck := by
  unfold dT dAnd
  cases da r G with
  | ok x G1 =>
    simp only [bind_ok]
    cases q : truth G1 x with
    | none => rfl
    | some k =>
      cases k with
      | true => rfl
      | false => simp only [bind_ok]; rw [q]
  | exc _ _ _ _ => rfl
  | stuck => rfl
theorem dT_or {r : Ev} {G : Hs} : dT (dOr da db) r G = (dT da r G).bind fun x G1 => match x with
    | .t (.bl true) => .ok (.t (.bl true)) G1
    | .t (.bl false) => dT db r G1
    | _ => .stuck := by
  unfold dT dOr
  cases da r G with
  | ok x G1 =>
    simp only [bind_ok]
    cases q : truth G1 x with
    | none => rfl
    | some k =>
      cases k with
      | true => simp only [bind_ok]; rw [q]
      | false => rfl
  | exc _ _ _ _ => rfl
  | stuck => rfl
theorem pdw_and1 (h : PDT Z a da) : PDW Z (.BoolOp .And [a] pos) da := fun X W ok => pw_and1 (h X W ok)
theorem pdw_or1 (h : PDT Z a da) : PDW Z (.BoolOp .Or [a] pos) da := fun X W ok => pw_or1 (h X W ok)
theorem pdw_and (ha : PDT Z a da) (hb : PDW Z (.BoolOp .And (b :: rest) pos) db) : PDW Z (.BoolOp .And (a :: b :: rest) pos) (dAnd da db) := fun X W ok => by
  refine pwI (pw_and (ha X W ok) (hb X W ok)) fun σ H Q h => ?_
  obtain ⟨m, r, G, s, sl, p⟩ := h
  rw [dT_and] at p
  refine tT_bind s sl p fun k G1 m1 H1 e x1 s1 sl1 p1 => ?_
  cases k with
  | true => exact ⟨m1, r, G1, s1, sl1, p1⟩
  | false => exact PostE.ok (d := .t (.bl false)) s1 p1 (v := .bl false) rfl _ rfl
theorem pdw_or (ha : PDT Z a da) (hb : PDW Z (.BoolOp .Or (b :: rest) pos) db) : PDW Z (.BoolOp .Or (a :: b :: rest) pos) (dOr da db) := fun X W ok => by
  refine pwI (pw_or (ha X W ok) (hb X W ok)) fun σ H Q h => ?_
  obtain ⟨m, r, G, s, sl, p⟩ := h
  rw [dT_or] at p
  refine tT_bind s sl p fun k G1 m1 H1 e x1 s1 sl1 p1 => ?_
  cases k with
  | true => exact PostE.ok (d := .t (.bl true)) s1 p1 (v := .bl true) rfl _ rfl
  | false => exact ⟨m1, r, G1, s1, sl1, p1⟩
theorem pdt_w (h : PDW Z a da) : PDT Z a da := fun X W ok => (h X W ok).pt
/-! ### a op b op' c -/
def dChain (f f' : D → D → Hs → Re) (a b c : De) : De := fun r G => (a r G).bind fun x G1 => (b r G1).bind fun y G2 => (f x y G2).bind fun z G3 => match z with
  | .t (.bl true) => (c r G3).bind fun w G4 => f' y w G4
  | .t (.bl false) => .ok (.t (.bl false)) G3
  | _ => .stuck
theorem tI_chain {g : Gm} {W : WX} {q q' : R2} {f f' : D → D → Hs → Re} (hq : OpA g q f) (hq' : OpA g q' f') {σ : St} {H : Hp} {Q : VK} (h : tI g W (dChain f f' da db dc) σ H Q) : tChain q q' (tI g W da) (tI g W db) (tI g W dc) σ H Q := by
  obtain ⟨m, r, G, s, sl, p⟩ := h
  refine tI_bind s sl p fun x G1 v m1 H1 e x1 s1 sl1 rv p1 => ?_
  refine tI_bind s1 sl1 p1 fun y G2 u m2 H2 e2 x2 s2 sl2 ru p2 => ?_
  refine hq W m2 H2 G2 σ _ x y v u s2 (RpD.ex x2 s1 x2.le (Nat.le_refl _) rv) ru ?_
  cases ez : f x y G2 with
  | stuck => rw [ez] at p2; exact p2
  | exc _ _ _ _ => rw [ez] at p2; exact p2
  | ok z G3 =>
    rw [ez] at p2
    simp only [bind_ok] at p2
    intro t m3 H3 x3 s3 rz
    have p3 := PostE.trans x3 s3 p2
    split at p3
    · cases rz
      refine ⟨true, rfl, ?_⟩
      refine tI_bind s3 (Sl.ex x3 s2 sl2) p3 fun w' G4 t' m4 H4 e4 x4 s4 sl4 rt p4 => ?_
      exact hq' W m4 H4 G4 σ Q y w' u t' s4 (RpD.ex x4 s3 x4.le (Nat.le_refl _) (RpD.ex x3 s2 x3.le (Nat.le_refl _) ru)) rt p4
    · cases rz
      exact ⟨false, rfl, PostE.ok (d := .t (.bl false)) s3 p3 rfl⟩
    · exact p3.elim
theorem pd_chain {op op' : CmpOp} {f f' : D → D → Hs → Re} (q q' : Cx → R2) (ho : ∀ X W, Ok Z X W → OpR X (compareOp op) (q X)) (hq : ∀ X W, Ok Z X W → OpA Z.g (q X) f) (ho' : ∀ X W, Ok Z X W → OpR X (compareOp op') (q' X)) (hq' : ∀ X W, Ok Z X W → OpA Z.g (q' X) f')
    (ha : PD Z a da) (hb : PD Z b db) (hc : PD Z c dc) (hm : lastMarks [op, op'] [b, c] = false := by rfl) : PD Z (.Compare a [op, op'] [b, c] pos) (dChain f f' da db dc) := fun X W ok =>
  peI (pe_chain (ho X W ok) (ho' X W ok) (ha X W ok) (hb X W ok) (hc X W ok) hm) fun _ _ _ h => tI_chain (hq X W ok) (hq' X W ok) h
theorem pdt_chain {op op' : CmpOp} {f f' : D → D → Hs → Re} (q q' : Cx → R2) (ho : ∀ X W, Ok Z X W → OpR X (compareOp op) (q X)) (hq : ∀ X W, Ok Z X W → OpA Z.g (q X) f) (ho' : ∀ X W, Ok Z X W → OpR X (compareOp op') (q' X)) (hq' : ∀ X W, Ok Z X W → OpA Z.g (q' X) f') (hf' : IsB f')
    (ha : PD Z a da) (hb : PD Z b db) (hc : PD Z c dc) (hm : lastMarks [op, op'] [b, c] = false := by rfl) : PDT Z (.Compare a [op, op'] [b, c] pos) (dChain f f' da db dc) := fun X W ok => by
  refine ptI (pt_chain (ho X W ok) (ho' X W ok) (ha X W ok) (hb X W ok) (hc X W ok) hm) fun σ H Q h => tI_chain (hq X W ok) (hq' X W ok) ?_
  refine tT_of h fun m r G x G1 v m1 H1 b s sl e x1 s1 rv qq hq => ?_
  have : ∃ k, x = .t (.bl k) := by
    unfold dChain at e
    cases ea : da r G with
    | stuck => rw [ea] at e; cases e
    | exc _ _ _ _ => rw [ea] at e; cases e
    | ok y G2 =>
      rw [ea] at e; simp only [bind_ok] at e
      cases eb : db r G2 with
      | stuck => rw [eb] at e; cases e
      | exc _ _ _ _ => rw [eb] at e; cases e
      | ok z G3 =>
        rw [eb] at e; simp only [bind_ok] at e
        cases ef : f y z G3 with
        | stuck => rw [ef] at e; cases e
        | exc _ _ _ _ => rw [ef] at e; cases e
        | ok t G4 =>
          rw [ef] at e; simp only [bind_ok] at e
          split at e
          · cases ec : dc r G4 with
            | stuck => rw [ec] at e; cases e
            | exc _ _ _ _ => rw [ec] at e; cases e
            | ok w G5 => rw [ec] at e; simp only [bind_ok] at e; exact hf' _ _ _ _ _ e
          · cases e; exact ⟨_, rfl⟩
          · cases e
  obtain ⟨k, rfl⟩ := this
  cases qq
  exact ⟨b, rv, hq⟩
theorem pd_leLe (ha : PD Z a da) (hb : PD Z b db) (hc : PD Z c dc) (hm : lastMarks [.LtE, .LtE] [b, c] = false := by rfl) : PD Z (.Compare a [.LtE, .LtE] [b, c] pos) (dChain fLe fLe da db dc) :=
  pd_chain (fun _ => _) (fun _ => _) (fun _ _ _ => op_le) (fun _ _ _ => a_cmp) (fun _ _ _ => op_le) (fun _ _ _ => a_cmp) ha hb hc hm
theorem pdt_leLe (ha : PD Z a da) (hb : PD Z b db) (hc : PD Z c dc) (hm : lastMarks [.LtE, .LtE] [b, c] = false := by rfl) : PDT Z (.Compare a [.LtE, .LtE] [b, c] pos) (dChain fLe fLe da db dc) :=
  pdt_chain (fun _ => _) (fun _ => _) (fun _ _ _ => op_le) (fun _ _ _ => a_cmp) (fun _ _ _ => op_le) (fun _ _ _ => a_cmp) isB_cmp ha hb hc hm
theorem pd_leLt (ha : PD Z a da) (hb : PD Z b db) (hc : PD Z c dc) (hm : lastMarks [.LtE, .Lt] [b, c] = false := by rfl) : PD Z (.Compare a [.LtE, .Lt] [b, c] pos) (dChain fLe fLt da db dc) :=
  pd_chain (fun _ => _) (fun _ => _) (fun _ _ _ => op_le) (fun _ _ _ => a_cmp) (fun _ _ _ => op_lt) (fun _ _ _ => a_cmp) ha hb hc hm
end
end BL

set_option Elab.async false
set_option linter.all false
set_option maxRecDepth 100000
set_option maxHeartbeats 1000000
namespace BL
open PySem L2

/-! ### statements -/
def PostS (g : Gm) (W : WX) (m : Nat → Addr) (n : Nat) (H : Hp) (E : Ends) : Rs → Prop
  | .nx r G' => ∀ σ' m' H', Ex m n H m' G'.length H' → SR g m' H' G' → Sl g m' G'.length H' σ' r → E.nx σ' H'
  | .rt d G' => ∀ v m' H', Ex m n H m' G'.length H' → SR g m' H' G' → RpD g m' G'.length G'.length H' d v → E.rt v H'
  | .bk r G' => ∀ σ' m' H', Ex m n H m' G'.length H' → SR g m' H' G' → Sl g m' G'.length H' σ' r → E.bk σ' H'
  | .ct r G' => ∀ σ' m' H', Ex m n H m' G'.length H' → SR g m' H' G' → Sl g m' G'.length H' σ' r → E.ct σ' H'
  | .exc c ns ds r G' => ∀ σ' da m' H' xs, Ex m n H m' G'.length H' → SR g m' H' G' → Sl g m' G'.length H' σ' r → H' da = some (.xd (ns.zip xs)) → ¬ Bd m' G'.length da → RpDs g m' G'.length G'.length H' ds xs → W (.ref (g.ca c)) (some da) σ' H'
  | .stuck => False
def tS (g : Gm) (W : WX) (d : Dst) : TS := fun E σ H => ∃ m r G, SR g m H G ∧ Sl g m G.length H σ r ∧ PostS g W m G.length H E (d r G)
def PSD (Z : Zc) (st : Stmt) (d : Dst) : Prop := ∀ X W, Ok Z X W → PS X st (tS Z.g W d)
def PSDs (Z : Zc) (st : List Stmt) (d : Dst) : Prop := ∀ X W, Ok Z X W → PSs X st (tS Z.g W d)
/-- an expression, then a statement's end -/
def Re.thn (r : Ev) : Re → (D → Hs → Rs) → Rs
  | .ok d G, k => k d G
  | .exc c ns ds G, _ => .exc c ns ds r G
  | .stuck, _ => .stuck
@[simp] theorem thn_ok {r : Ev} {d : D} {G : Hs} {k : D → Hs → Rs} : (Re.ok d G).thn r k = k d G := rfl
@[simp] theorem thn_exc {r : Ev} {c : Nat} {ns : List Str} {ds : List D} {G : Hs} {k : D → Hs → Rs} : (Re.exc c ns ds G).thn r k = .exc c ns ds r G := rfl
@[simp] theorem thn_stuck {r : Ev} {k : D → Hs → Rs} : Re.stuck.thn r k = .stuck := rfl
section
variable {g : Gm} {W : WX} {m m1 : Nat → Addr} {n : Nat} {H H1 : Hp} {G G1 : Hs} {σ : St} {E : Ends} {r : Ev}
theorem PostS.trans (x : Ex m n H m1 G1.length H1) (s : SR g m1 H1 G1) {q : Rs} (p : PostS g W m n H E q) : PostS g W m1 G1.length H1 E q := by
  cases q with
  | nx r G' => exact fun σ' m' H' x' s' r => p σ' m' H' (x.trans s x') s' r
  | rt d G' => exact fun v m' H' x' s' r => p v m' H' (x.trans s x') s' r
  | bk r G' => exact fun σ' m' H' x' s' r => p σ' m' H' (x.trans s x') s' r
  | ct r G' => exact fun σ' m' H' x' s' r => p σ' m' H' (x.trans s x') s' r
  | exc c ns ds r G' => exact fun σ' da m' H' xs x' s' sl h nb r => p σ' da m' H' xs (x.trans s x') s' sl h nb r
  | stuck => exact p
theorem tS_bind {d : De} {k : D → Hs → Rs} {R : VK} (s : SR g m H G) (sl : Sl g m G.length H σ r) (p : PostS g W m G.length H E ((d r G).thn r k))
    (next : ∀ x G1 v m1 H1, d r G = .ok x G1 → Ex m G.length H m1 G1.length H1 → SR g m1 H1 G1 → Sl g m1 G1.length H1 σ r → RpD g m1 G1.length G1.length H1 x v → PostS g W m1 G1.length H1 E (k x G1) → R v H1) : tI g W d σ H R := by
  refine ⟨m, r, G, s, sl, ?_⟩
  cases e : d r G with
  | ok x G1 =>
    rw [e] at p
    intro v m1 H1 x1 s1 rv
    exact next x G1 v m1 H1 e x1 s1 (Sl.ex x1 s sl) rv (PostS.trans x1 s1 p)
  | exc c ns ds G' =>
    rw [e] at p
    intro da m' H' xs x1 s1 h nb rs
    exact p σ da m' H' xs x1 s1 (Sl.ex x1 s sl) h nb rs
  | stuck => rw [e] at p; exact p
theorem tST_bind {d : De} {k : D → Hs → Rs} {R : Bool → Hp → Prop} (s : SR g m H G) (sl : Sl g m G.length H σ r) (p : PostS g W m G.length H E ((dT d r G).thn r k))
    (next : ∀ b G1 m1 H1, dT d r G = .ok (.t (.bl b)) G1 → Ex m G.length H m1 G1.length H1 → SR g m1 H1 G1 → Sl g m1 G1.length H1 σ r → PostS g W m1 G1.length H1 E (k (.t (.bl b)) G1) → R b H1) : tT g W d σ H R := by
  refine ⟨m, r, G, s, sl, ?_⟩
  cases e : dT d r G with
  | ok x G1 =>
    rw [e] at p
    intro v m1 H1 x1 s1 rv b eb
    subst eb
    have : x = .t (.bl b) := by
      unfold dT at e
      cases e2 : d r G with
      | ok y G2 =>
        rw [e2] at e
        simp only [bind_ok] at e
        split at e
        · cases e; cases rv; rfl
        · cases e
      | exc _ _ _ _ => rw [e2] at e; cases e
      | stuck => rw [e2] at e; cases e
    subst this
    exact next b G1 m1 H1 e x1 s1 (Sl.ex x1 s sl) (PostS.trans x1 s1 p)
  | exc c ns ds G' =>
    rw [e] at p
    intro da m' H' xs x1 s1 h nb rs
    exact p σ da m' H' xs x1 s1 (Sl.ex x1 s sl) h nb rs
  | stuck => rw [e] at p; exact p
theorem PostS.nx' (s : SR g m H G) (sl : Sl g m G.length H σ r) (p : PostS g W m G.length H E (.nx r G)) : E.nx σ H := p σ m H Ex.refl s sl
theorem Sl.set {n : Nat} (sl : Sl g m n H σ r) {i : Nat} {d : D} {v : V} (rv : RpD g m n n H d v) : Sl g m n H (σ.set i (some v)) (r.set i (some d)) := by
  refine ⟨by simp [sl.1], fun j d' e => ?_⟩
  by_cases q : i = j
  · subst q
    have hi : i < r.length := by have := getLt e; simpa using this
    rw [List.getElem?_set_self hi] at e
    cases e
    exact ⟨v, by rw [List.getElem?_set_self (by rw [sl.1]; exact hi)], rv⟩
  · rw [List.getElem?_set_ne q] at e
    obtain ⟨w, e1, q1⟩ := sl.2 j d' e
    exact ⟨w, by rw [List.getElem?_set_ne q]; exact e1, q1⟩
end
def dNext : Dst := fun r G => .nx r G
def dSeq (a b : Dst) : Dst := fun r G => match a r G with
  | .nx r' G' => b r' G'
  | q => q
def dSet (i : Nat) (d : De) : Dst := fun r G => (d r G).thn r fun x G1 => .nx (r.set i (some x)) G1
def dRet (d : De) : Dst := fun r G => (d r G).thn r fun x G1 => .rt x G1
def dRetN : Dst := fun _ G => .rt (.t .non) G
def dDrop (d : De) : Dst := fun r G => (d r G).thn r fun _ G1 => .nx r G1
def dIf (c : De) (a b : Dst) : Dst := fun r G => (dT c r G).thn r fun x G1 => match x with
  | .t (.bl true) => a r G1
  | .t (.bl false) => b r G1
  | _ => .stuck
def dStuck : Dst := fun _ _ => .stuck
section
variable {Z : Zc} {st : Stmt} {rest a b : List Stmt} {t u : Dst} {e c : Expr} {d dc : De} {pos pos' : Pos}
theorem psd_nil : PSDs Z [] dNext := fun X W ok => pssI pss_nil fun D σ H ⟨m, r, G, s, sl, p⟩ => PostS.nx' s sl p
theorem psd_cons (h1 : PSD Z st t) (h2 : PSDs Z rest u) : PSDs Z (st :: rest) (dSeq t u) := fun X W ok => by
  refine pssI (pss_cons (h1 X W ok) (h2 X W ok)) fun D σ H ⟨m, r, G, s, sl, p⟩ => ?_
  refine ⟨m, r, G, s, sl, ?_⟩
  unfold dSeq at p
  cases e : t r G with
  | nx r' G' =>
    rw [e] at p
    exact fun σ' m' H' x' s' sl' => ⟨m', r', G', s', sl', PostS.trans x' s' p⟩
  | rt d G' => rw [e] at p; exact p
  | bk r' G' => rw [e] at p; exact p
  | ct r' G' => rw [e] at p; exact p
  | exc c ns ds r' G' => rw [e] at p; exact p
  | stuck => rw [e] at p; exact p
theorem psd_one (h1 : PSD Z st t) : PSDs Z [st] t := fun X W ok => pss_one (h1 X W ok)
theorem psd_pass : PSD Z (.Pass pos) dNext := fun X W ok => psI ps_pass fun D σ H ⟨m, r, G, s, sl, p⟩ => PostS.nx' s sl p
theorem psd_break : PSD Z (.Break pos) (fun r G => .bk r G) := fun X W ok => psI ps_break fun D σ H ⟨m, r, G, s, sl, p⟩ => p σ m H Ex.refl s sl
theorem psd_continue : PSD Z (.Continue pos) (fun r G => .ct r G) := fun X W ok => psI ps_continue fun D σ H ⟨m, r, G, s, sl, p⟩ => p σ m H Ex.refl s sl
/-- a statement that is never reached -/
theorem psd_never : PSD Z st dStuck := fun X W ok => psI ps_never fun D σ H ⟨m, r, G, s, sl, p⟩ => p
theorem psds_never : PSDs Z rest dStuck := fun X W ok => pssI pss_never fun D σ H ⟨m, r, G, s, sl, p⟩ => p
theorem psd_expr (h : PD Z e d) (hs : ∀ env, swapsWith e none pos.line env = pure false := by intro _; rfl) : PSD Z (.Expr e pos) (dDrop d) := fun X W ok => by
  refine psI (ps_expr (h X W ok) (hs _)) fun D σ H ⟨m, r, G, s, sl, p⟩ => ?_
  exact tS_bind s sl p fun x G1 v m1 H1 e x1 s1 sl1 rv p1 => PostS.nx' s1 sl1 p1
theorem psd_ret (h : PD Z e d) : PSD Z (.Return (some e) pos) (dRet d) := fun X W ok => by
  refine psI (ps_ret (h X W ok)) fun D σ H ⟨m, r, G, s, sl, p⟩ => ?_
  exact tS_bind s sl p fun x G1 v m1 H1 e x1 s1 sl1 rv p1 => p1 v m1 H1 Ex.refl s1 rv
theorem psd_retN : PSD Z (.Return none pos) dRetN := fun X W ok => psI ps_retN fun D σ H ⟨m, r, G, s, sl, p⟩ => p .non m H Ex.refl s rfl
theorem psd_if (hc : PDT Z c dc) (ha : PSDs Z a t) (hb : PSDs Z b u) : PSD Z (.If c a b pos) (dIf dc t u) := fun X W ok => by
  refine psI (ps_if (hc X W ok) (ha X W ok) (hb X W ok)) fun D σ H ⟨m, r, G, s, sl, p⟩ => ?_
  refine tST_bind s sl p fun k G1 m1 H1 e x1 s1 sl1 p1 => ?_
  cases k with
  | true => exact ⟨m1, r, G1, s1, sl1, p1⟩
  | false => exact ⟨m1, r, G1, s1, sl1, p1⟩
theorem psd_set {i : Nat} {x : Str} (h : PD Z e d) (hi : Z.N[i]? = some x := by rfl) (hx : Loc Z.sc x := by first | exact Or.inl rfl | exact Or.inr rfl)
    (hf : Z.fn x = true ∨ Z.sc.names.lookup x = some .local := by first | exact .inl rfl | exact .inr rfl)
    (hs : ∀ env : Env, env.scope = Z.sc → swapsWith e (some (.Name x pos')) pos.line env = pure false := by intro _ _; rfl) : PSD Z (.Assign [.Name x pos'] e pos) (dSet i d) := fun X W ok => by
  refine psI (ps_set (i := i) ok.nd (by rw [ok.N]; exact hi) (by rw [ok.sc]; exact hx) (h X W ok) (hs _ ok.sc) (by rw [ok.fn, ok.sc]; exact hf)) fun D σ H ⟨m, r, G, s, sl, p⟩ => ?_
  exact tS_bind s sl p fun x G1 v m1 H1 e x1 s1 sl1 rv p1 => p1 _ m1 H1 Ex.refl s1 (sl1.set rv)
/-! ### two names at once -/
def dPar (i j : Nat) (a b : De) : Dst := fun r G => (a r G).thn r fun x G1 => (b r G1).thn r fun y G2 => .nx ((r.set i (some x)).set j (some y)) G2
end
end BL

set_option Elab.async false
set_option linter.all false
set_option maxRecDepth 100000
set_option maxHeartbeats 1000000
namespace BL
open PySem L2

/-! ### what is walked: items that are values or pairs of values -/
inductive Im where
  | one (d : D) | two (a b : D)
/-- what a walk leaves as it is: the located list, if it is one -/
abbrev Kp := Option (Nat × O)
inductive Ri where
  | ok (its : List Im) (kp : Kp) (G : Hs) | exc (c : Nat) (ns : List Str) (ds : List D) (G : Hs) | stuck
abbrev Di := Ev → Hs → Ri
def kpOk (kp : Kp) (G : Hs) : Prop := ∀ i o, kp = some (i, o) → G[i]? = some o
def ImR (g : Gm) (m : Nat → Addr) (n : Nat) (H : Hp) : Im → V → Prop
  | .one d, v => RpD g m n n H d v
  | .two a b, v => ∃ p x y, v = .ref p ∧ H p = some (.tup [x, y]) ∧ RpD g m n n H a x ∧ RpD g m n n H b y
/-- J gives the items, as long as what is walked stands -/
def Wk (g : Gm) (m : Nat → Addr) (n : Nat) (H : Hp) (J : It) (its : List Im) (kp : Kp) : Prop :=
  ∀ rv i m2 H2 G2, (∀ a, a ∈ rv → a ∈ g.rv ∨ H a = none) → SR (g.rvd rv) m2 H2 G2 → Exr g m n H m2 G2.length H2 → kpOk kp G2 →
    (i = its.length → J.stop i H2) ∧ (∀ im, its[i]? = some im → J.go i H2 ∧ ∀ x H3, J.yld i H2 x H3 → Ex m2 G2.length H2 m2 G2.length H3 ∧ SR (g.rvd rv) m2 H3 G2 ∧ ImR (g.rvd rv) m2 G2.length H3 im x)
def PostI (g : Gm) (W : WX) (m : Nat → Addr) (n : Nat) (H : Hp) (σ : St) (R : It → Hp → Prop) : Ri → Prop
  | .ok its kp G' => ∀ J m' H', Ex m n H m' G'.length H' → SR g m' H' G' → kpOk kp G' → its.length ≤ sizeLine → Wk g m' G'.length H' J its kp → R J H'
  | .exc c ns ds G' => ∀ da m' H' xs, Ex m n H m' G'.length H' → SR g m' H' G' → H' da = some (.xd (ns.zip xs)) → ¬ Bd m' G'.length da → RpDs g m' G'.length G'.length H' ds xs → W (.ref (g.ca c)) (some da) σ H'
  | .stuck => False
def tII (g : Gm) (W : WX) (d : Di) : TI := fun σ H R => ∃ m r G, SR g m H G ∧ Sl g m G.length H σ r ∧ PostI g W m G.length H σ R (d r G)
def PDI (Z : Zc) (tg e : Expr) (d : Di) : Prop := ∀ X W, Ok Z X W → PI X tg e (tII Z.g W d)
theorem piI {X : Cx} {tg e : Expr} {t t' : TI} (h : PI X tg e t) (k : ∀ σ H R, t' σ H R → t σ H R) : PI X tg e t' := ⟨fun pins s σ H R I z => h.run pins s σ H R I (k σ H R z)⟩
def Re.itr : Re → (D → Hs → Ri) → Ri
  | .ok d G, k => k d G
  | .exc c ns ds G, _ => .exc c ns ds G
  | .stuck, _ => .stuck
@[simp] theorem itr_ok {d : D} {G : Hs} {k : D → Hs → Ri} : (Re.ok d G).itr k = k d G := rfl
@[simp] theorem itr_exc {c : Nat} {ns : List Str} {ds : List D} {G : Hs} {k : D → Hs → Ri} : (Re.exc c ns ds G).itr k = .exc c ns ds G := rfl
@[simp] theorem itr_stuck {k : D → Hs → Ri} : Re.stuck.itr k = .stuck := rfl
section
variable {g : Gm} {W : WX} {m m1 : Nat → Addr} {n : Nat} {H H1 : Hp} {G G1 : Hs} {σ : St} {R : It → Hp → Prop} {r : Ev}
theorem PostI.trans (x : Ex m n H m1 G1.length H1) (s : SR g m1 H1 G1) {q : Ri} (p : PostI g W m n H σ R q) : PostI g W m1 G1.length H1 σ R q := by
  cases q with
  | ok its kp G' => exact fun J m' H' x' s' k z w => p J m' H' (x.trans s x') s' k z w
  | exc c ns ds G' => exact fun da m' H' xs x' s' h nb r => p da m' H' xs (x.trans s x') s' h nb r
  | stuck => exact p
theorem tII_bind {d : De} {k : D → Hs → Ri} {Q : VK} (s : SR g m H G) (sl : Sl g m G.length H σ r) (p : PostI g W m G.length H σ R ((d r G).itr k))
    (next : ∀ x G1 v m1 H1, d r G = .ok x G1 → Ex m G.length H m1 G1.length H1 → SR g m1 H1 G1 → Sl g m1 G1.length H1 σ r → RpD g m1 G1.length G1.length H1 x v → PostI g W m1 G1.length H1 σ R (k x G1) → Q v H1) : tI g W d σ H Q := by
  refine ⟨m, r, G, s, sl, ?_⟩
  cases e : d r G with
  | ok x G1 =>
    rw [e] at p
    intro v m1 H1 x1 s1 rv
    exact next x G1 v m1 H1 e x1 s1 (Sl.ex x1 s sl) rv (PostI.trans x1 s1 p)
  | exc c ns ds G' => rw [e] at p; exact p
  | stuck => rw [e] at p; exact p
end
/-! ### lists and tuples -/
def kpOf (G : Hs) : D → Kp
  | .loc i => match G[i]? with
    | some o => some (i, o)
    | none => none
  | _ => none
def iL (d : De) : Di := fun r G => (d r G).itr fun x G1 => match asL G1 x with
  | some ds => .ok (ds.map Im.one) (kpOf G1 x) G1
  | none => .stuck
def iT (d : De) : Di := fun r G => (d r G).itr fun x G1 => match asT x with
  | some ds => .ok (ds.map Im.one) none G1
  | none => .stuck
theorem kpOf_ok {G : Hs} {x : D} : kpOk (kpOf G x) G := by
  intro i o e
  cases x with
  | t t => cases e
  | loc j =>
    cases q : G[j]? with
    | none => simp [kpOf, q] at e
    | some o' =>
      simp [kpOf, q] at e
      obtain ⟨rfl, rfl⟩ := e
      exact q
theorem asL_kp {G G2 : Hs} {x : D} {ds : List D} (e : asL G x = some ds) (k : kpOk (kpOf G x) G2) : asL G2 x = some ds := by
  cases x with
  | t t => cases t <;> exact e
  | loc j =>
    cases q : G[j]? with
    | none => simp [asL, q] at e
    | some o =>
      have := k j o (by simp [kpOf, q])
      simp only [asL, q] at e
      simp only [asL, this]
      exact e
section
variable {g : Gm} {m : Nat → Addr} {n : Nat} {H : Hp} {G : Hs}
theorem wk_list (s : SR g m H G) {x : D} {a : Addr} {ds : List D} (rx : RpD g m G.length G.length H x (.ref a)) (e : asL G x = some ds) : Wk g m G.length H (Itl g.K a) (ds.map Im.one) (kpOf G x) := by
  intro rv i m2 H2 G2 hrv s2 x2 k2
  obtain ⟨a', xs, ea, h, r⟩ := asL_rp s2 (RpD.mv (Exr.mv x2 s hrv) x2.le (Nat.le_refl _) rx) (asL_kp e k2)
  cases ea
  refine ⟨fun hi => ⟨xs, h, by have hi := Nat.le_of_eq hi.symm; rw [← r.length]; simpa using hi⟩, fun im hi => ?_⟩
  rw [List.getElem?_map] at hi
  cases hd : ds[i]? with
  | none => rw [hd] at hi; cases hi
  | some d =>
    rw [hd] at hi
    cases hi
    obtain ⟨v, ev, rv⟩ := r.get hd
    refine ⟨⟨xs, v, h, ev⟩, fun y H3 ⟨e3, q⟩ => ?_⟩
    subst e3
    have := q xs h
    rw [ev] at this
    cases this
    exact ⟨Ex.refl, s2, rv⟩
theorem wk_tup (s : SR g m H G) {x : D} {a : Addr} {ds : List D} (rx : RpD g m G.length G.length H x (.ref a)) (e : asT x = some ds) : Wk g m G.length H (Itt g.K a) (ds.map Im.one) none := by
  intro rv i m2 H2 G2 hrv s2 x2 k2
  obtain ⟨a', xs, ea, h, r⟩ := asT_rp (RpD.mv (Exr.mv x2 s hrv) x2.le (Nat.le_refl _) rx) e
  cases ea
  refine ⟨fun hi => ⟨xs, h, by have hi := Nat.le_of_eq hi.symm; rw [← r.length]; simpa using hi⟩, fun im hi => ?_⟩
  rw [List.getElem?_map] at hi
  cases hd : ds[i]? with
  | none => rw [hd] at hi; cases hi
  | some d =>
    rw [hd] at hi
    cases hi
    obtain ⟨v, ev, rv⟩ := r.get hd
    refine ⟨⟨xs, v, h, ev⟩, fun y H3 ⟨e3, q⟩ => ?_⟩
    subst e3
    have := q xs h
    rw [ev] at this
    cases this
    exact ⟨Ex.refl, s2, rv⟩
end
section
variable {Z : Zc} {tg e a b : Expr} {d da db : De} {p pos : Pos}
theorem pdi_list (h : PD Z e d) : PDI Z tg e (iL d) := fun X W ok => by
  refine piI (pi_list (h X W ok)) fun σ H R ⟨m, r, G, s, sl, p⟩ => ?_
  refine tII_bind s sl p fun x G1 v m1 H1 e x1 s1 sl1 rv p1 => ?_
  cases q : asL G1 x with
  | none => rw [q] at p1; exact p1.elim
  | some ds =>
    rw [q] at p1
    obtain ⟨a, xs, rfl, h, r'⟩ := asL_rp s1 rv q
    rw [ok.Kg]
    exact ⟨a, rfl, ⟨xs, h⟩, p1 _ m1 H1 Ex.refl s1 kpOf_ok (by rw [List.length_map, r'.length]; exact s1.szL h) (wk_list s1 rv q)⟩
theorem pdi_tup (h : PD Z e d) : PDI Z tg e (iT d) := fun X W ok => by
  refine piI (pi_tup (h X W ok)) fun σ H R ⟨m, r, G, s, sl, p⟩ => ?_
  refine tII_bind s sl p fun x G1 v m1 H1 e x1 s1 sl1 rv p1 => ?_
  cases q : asT x with
  | none => rw [q] at p1; exact p1.elim
  | some ds =>
    rw [q] at p1
    obtain ⟨a, xs, rfl, h, r'⟩ := asT_rp rv q
    rw [ok.Kg]
    exact ⟨a, rfl, ⟨xs, h⟩, p1 _ m1 H1 Ex.refl s1 (fun _ _ z => nomatch z) (by rw [List.length_map, r'.length]; exact s1.szT h) (wk_tup s1 rv q)⟩
/-! ### a list or a tuple, by the value: the walk of either -/
/-- two rules for one walk -/
theorem PI.or {X : Cx} {t u : TI} (h1 : PI X tg e t) (h2 : PI X tg e u) : PI X tg e (fun σ H R => t σ H R ∨ u σ H R) := ⟨fun pins s σ H R I z => z.elim (h1.run pins s σ H R I) (h2.run pins s σ H R I)⟩
def iS (d : De) : Di := fun r G => (d r G).itr fun x G1 => match asT x with
  | some ds => .ok (ds.map Im.one) none G1
  | none => match asL G1 x with
    | some ds => .ok (ds.map Im.one) (kpOf G1 x) G1
    | none => .stuck
theorem pdi_seq (h : PD Z e d) : PDI Z tg e (iS d) := fun X W ok => by
  refine piI (PI.or (pi_tup (h X W ok)) (pi_list (h X W ok))) fun σ H R ⟨m, r, G, s, sl, p⟩ => ?_
  unfold iS at p
  cases ex : d r G with
  | stuck => rw [ex] at p; exact p.elim
  | exc c ns ds G' =>
    rw [ex] at p
    exact .inl ⟨m, r, G, s, sl, by rw [ex]; exact p⟩
  | ok x G1 =>
    rw [ex] at p
    simp only [itr_ok] at p
    cases q : asT x with
    | some ds =>
      rw [q] at p
      refine .inl ⟨m, r, G, s, sl, ?_⟩
      rw [ex]
      intro v m1 H1 x1 s1 rv
      obtain ⟨a, xs, rfl, h, r'⟩ := asT_rp rv q
      rw [ok.Kg]
      exact ⟨a, rfl, ⟨xs, h⟩, p _ m1 H1 x1 s1 (fun _ _ z => nomatch z) (by rw [List.length_map, r'.length]; exact s1.szT h) (wk_tup s1 rv q)⟩
    | none =>
      rw [q] at p
      simp only at p
      refine .inr ⟨m, r, G, s, sl, ?_⟩
      rw [ex]
      intro v m1 H1 x1 s1 rv
      cases q2 : asL G1 x with
      | none => rw [q2] at p; exact p.elim
      | some ds =>
        rw [q2] at p
        obtain ⟨a, xs, rfl, h, r'⟩ := asL_rp s1 rv q2
        rw [ok.Kg]
        exact ⟨a, rfl, ⟨xs, h⟩, p _ m1 H1 x1 s1 kpOf_ok (by rw [List.length_map, r'.length]; exact s1.szL h) (wk_list s1 rv q2)⟩
/-! ### ranges -/
def intIms (lo : Int) (n : Nat) : List Im := (List.range n).map fun i : Nat => Im.one (.t (.int (lo + (i : Int))))
def iR1 (d : De) : Di := fun r G => (d r G).itr fun x G1 => match x with
  | .t (.int j) => if -(2 ^ 62) ≤ j ∧ j ≤ 16777216 then .ok (intIms 0 j.toNat) none G1 else .stuck
  | _ => .stuck
def iR2 (a b : De) : Di := fun r G => (a r G).itr fun x G1 => (b r G1).itr fun y G2 => match x, y with
  | .t (.int i), .t (.int j) => if -(2 ^ 62) ≤ i ∧ i < 2 ^ 62 ∧ -(2 ^ 62) ≤ j ∧ j < 2 ^ 62 ∧ j - i ≤ 16777216 then .ok (intIms i (j - i).toNat) none G2 else .stuck
  | _, _ => .stuck
theorem wk_range {g : Gm} {m : Nat → Addr} {n : Nat} {H : Hp} {lo : Int} {k : Nat} : Wk g m n H (Itr lo k) (intIms lo k) none := by
  intro rv i m2 H2 G2 hrv s2 x2 k2
  refine ⟨fun hi => show k ≤ i by have hi := Nat.le_of_eq hi.symm; simpa [intIms] using hi, fun im hi => ?_⟩
  have hk : i < k := by have := getLt hi; simpa [intIms] using this
  refine ⟨hk, fun y H3 ⟨e3, ey⟩ => ?_⟩
  subst e3; subst ey
  have : im = .one (.t (.int (lo + i))) := by
    simp only [intIms, List.getElem?_map, List.getElem?_range hk] at hi
    exact (Option.some.inj hi).symm
  subst this
  exact ⟨Ex.refl, s2, rfl⟩
theorem pdi_range1 (hm : Z.mg "range" = none) (h : PD Z a da) (hg : GlS Z "range" := by rfl) (hs : ∀ env, starEach [a] env = [(false, eval a env)] := by intro _; rfl) : PDI Z tg (.Call (.Name "range" p) [a] [] pos) (iR1 da) := fun X W ok => by
  refine piI (pi_range1 (ta := tCons (tI Z.g W da) tNil) (show X.env.scope.names.lookup _ = _ by rw [ok.sc]; exact hg) (by rw [ok.mg]; exact hm) (pa_cons (h X W ok) pa_nil (hs _)) (hs _)) fun σ H R ⟨m, r, G, s, sl, p⟩ => ?_
  refine tII_bind s sl p fun x G1 v m1 H1 e x1 s1 sl1 rv p1 => ?_
  split at p1
  · split at p1
    · rename_i j hj
      cases rv
      exact ⟨j, rfl, hj.1, by have := hj.2; omega, p1 _ m1 H1 Ex.refl s1 (fun _ _ z => nomatch z) (by have := hj.2; simp only [intIms, List.length_map, List.length_range]; show j.toNat ≤ 16777216; omega) wk_range⟩
    · exact p1.elim
  · exact p1.elim
theorem pdi_range2 (hm : Z.mg "range" = none) (h : PD Z a da) (h' : PD Z b db) (hg : GlS Z "range" := by rfl) (hs : ∀ env, starEach [a, b] env = [(false, eval a env), (false, eval b env)] := by intro _; rfl) (hs2 : ∀ env, starEach [b] env = [(false, eval b env)] := by intro _; rfl) :
    PDI Z tg (.Call (.Name "range" p) [a, b] [] pos) (iR2 da db) := fun X W ok => by
  refine piI (pi_range2 (ta := tCons (tI Z.g W da) (tCons (tI Z.g W db) tNil)) (show X.env.scope.names.lookup _ = _ by rw [ok.sc]; exact hg) (by rw [ok.mg]; exact hm) (pa_cons (h X W ok) (pa_cons (h' X W ok) pa_nil (hs2 _)) (by rw [hs, hs2])) (hs _) (hs2 _)) fun σ H R ⟨m, r, G, s, sl, p⟩ => ?_
  refine tII_bind s sl p fun x G1 v m1 H1 e x1 s1 sl1 rv p1 => ?_
  refine tII_bind s1 sl1 p1 fun y G2 u m2 H2 e2 x2 s2 sl2 ru p2 => ?_
  split at p2
  · split at p2
    · rename_i i j hj
      cases rv; cases ru
      exact ⟨i, j, rfl, ⟨hj.1, hj.2.1, hj.2.2.1, hj.2.2.2.1⟩, p2 _ m2 H2 Ex.refl s2 (fun _ _ z => nomatch z) (by have := hj.2.2.2.2; simp only [intIms, List.length_map, List.length_range]; show (j - i).toNat ≤ 16777216; omega) wk_range⟩
    · exact p2.elim
  · exact p2.elim
/-! ### a text, sign by sign -/
def iStr' (d : De) : Di := fun r G => (d r G).itr fun x G1 => match x with
  | .t (.str z) => if z.length ≤ sizeLine then .ok (z.cps.toList.map fun c => Im.one (.t (.str ⟨#[c]⟩))) none G1 else .stuck
  | _ => .stuck
theorem wk_str {g : Gm} {m : Nat → Addr} {n : Nat} {H : Hp} {z : Str} (ho : okS z) : Wk g m n H (Its z) (z.cps.toList.map fun c => Im.one (.t (.str ⟨#[c]⟩))) none := by
  intro rv i m2 H2 G2 hrv s2 x2 k2
  refine ⟨fun hi => show z.cps.size ≤ i by have hi := Nat.le_of_eq hi.symm; simpa using hi, fun im hi => ?_⟩
  have hk : i < z.cps.size := by have := getLt hi; simpa using this
  refine ⟨hk, fun y H3 ⟨e3, c, ec, ey⟩ => ?_⟩
  subst e3; subst ey
  have : im = .one (.t (.str ⟨#[c]⟩)) := by
    rw [List.getElem?_map, Array.getElem?_toList, ec] at hi
    exact (Option.some.inj hi).symm
  subst this
  refine ⟨Ex.refl, s2, rfl, ?_⟩
  refine okS_one (i := (i : Int)) ho (atI_nat ?_)
  rw [Array.getElem?_toList]; exact ec
theorem pdi_str (h : PD Z e d) : PDI Z tg e (iStr' d) := fun X W ok => by
  refine piI (pi_str (h X W ok)) fun σ H R ⟨m, r, G, s, sl, p⟩ => ?_
  refine tII_bind s sl p fun x G1 v m1 H1 e x1 s1 sl1 rv p1 => ?_
  split at p1
  · split at p1
    · rename_i hz
      obtain ⟨rv, ho⟩ := rv
      subst rv
      exact ⟨_, rfl, p1 _ m1 H1 Ex.refl s1 (fun _ _ z => nomatch z) (by rw [List.length_map, Array.length_toList]; exact hz) (wk_str ho)⟩
    · exact p1.elim
  · exact p1.elim
end
end BL

set_option Elab.async false
set_option linter.all false
set_option maxRecDepth 100000
set_option maxHeartbeats 1000000
namespace BL
open PySem L2

/-! ### targets -/
abbrev Tg := Im → Ev → Option Ev
def PDG (Z : Zc) (target : Expr) (is : List Nat) (td : Tg) : Prop := ∃ gt : TG, (∀ X W, Ok Z X W → PG X target gt) ∧
  ∀ (g : Gm) (m : Nat → Addr) (n : Nat) (H : Hp) (σ : St) (r r' : Ev) (im : Im) (v : V) (Q : St → Hp → Prop), g.K = Z.K → Sl g m n H σ r → ImR g m n H im v → td im r = some r' →
    (∀ σ', σ'.length = σ.length → (∀ j, j ∉ is → σ'[j]? = σ[j]?) → Sl g m n H σ' r' → Q σ' H) → gt v σ H Q
def gN (i : Nat) : Tg := fun im r => match im with
  | .one d => some (r.set i (some d))
  | .two (.t a) (.t b) => some (r.set i (some (.t (.tup [a, b]))))
  | _ => none
def gNN (i j : Nat) : Tg := fun im r => match im with
  | .two a b => some ((r.set i (some a)).set j (some b))
  | .one (.t (.tup [a, b])) => some ((r.set i (some (.t a))).set j (some (.t b)))
  | _ => none
section
variable {Z : Zc} {pos px py : Pos} {kt : Nat}
theorem pdg_name {i : Nat} {x : Str} (hi : Z.N[i]? = some x := by rfl) (hx : Loc Z.sc x := by first | exact Or.inl rfl | exact Or.inr rfl)
    (hf : Z.fn x = true ∨ Z.sc.names.lookup x = some .local := by first | exact .inl rfl | exact .inr rfl) : PDG Z (.Name x pos) [i] (gN i) := by
  refine ⟨gName i, fun X W ok => pg_name (i := i) ok.nd (by rw [ok.N]; exact hi) (by rw [ok.sc]; exact hx) (by rw [ok.fn, ok.sc]; exact hf), ?_⟩
  intro g m n H σ r r' im v Q hK sl ri e k
  unfold gN at e
  have fin : ∀ d, RpD g m n n H d v → r' = r.set i (some d) → Q (σ.set i (some v)) H := fun d rv er => by
    subst er
    refine k _ (by simp) (fun j hj => ?_) (sl.set rv)
    rw [List.getElem?_set_ne]
    intro q; exact hj (by simp [q])
  split at e
  · cases e; exact fin _ ri rfl
  · cases e
    obtain ⟨p, x, y, rfl, h, ra, rb⟩ := ri
    exact fin (.t (.tup [_, _])) ⟨p, [x, y], rfl, .inl (.inl h), x, [y], rfl, ra, y, [], rfl, rb, rfl⟩ rfl
  · cases e
theorem pdg_two {i j : Nat} {x y : Str} (hi : Z.N[i]? = some x := by rfl) (hx : Loc Z.sc x := by first | exact Or.inl rfl | exact Or.inr rfl) (hf : Z.fn x = true ∨ Z.sc.names.lookup x = some .local := by first | exact .inl rfl | exact .inr rfl)
    (hj : Z.N[j]? = some y := by rfl) (hy : Loc Z.sc y := by first | exact Or.inl rfl | exact Or.inr rfl) (hf' : Z.fn y = true ∨ Z.sc.names.lookup y = some .local := by first | exact .inl rfl | exact .inr rfl) : PDG Z (.Tuple [.Name x px, .Name y py] kt pos) [i, j] (gNN i j) := by
  refine ⟨gTup Z.K 2 (gCons (gName i) (gCons (gName j) gNil)), fun X W ok => ok.K ▸ pg_tup (n := 2) ok.calm (pgs_cons (pg_name (i := i) ok.nd (by rw [ok.N]; exact hi) (by rw [ok.sc]; exact hx) (by rw [ok.fn, ok.sc]; exact hf)) (pgs_cons (pg_name (i := j) ok.nd (by rw [ok.N]; exact hj) (by rw [ok.sc]; exact hy) (by rw [ok.fn, ok.sc]; exact hf')) pgs_nil)), ?_⟩
  intro g m n H σ r r' im v Q hK sl ri e k
  unfold gNN at e
  have fin : ∀ a b p xa xb, v = .ref p → SqT Z.K H p [xa, xb] → RpD g m n n H a xa → RpD g m n n H b xb → r' = (r.set i (some a)).set j (some b) → gTup Z.K 2 (gCons (gName i) (gCons (gName j) gNil)) v σ H Q := fun a b p xa xb ev hq ra rb er => by
    subst er
    refine ⟨p, [xa, xb], ev, hq, rfl, xa, [xb], rfl, xb, [], rfl, rfl, ?_⟩
    refine k _ (by simp) (fun l hl => ?_) ((sl.set ra).set rb)
    simp at hl
    rw [List.getElem?_set_ne (Ne.symm hl.2), List.getElem?_set_ne (Ne.symm hl.1)]
  split at e
  · cases e
    obtain ⟨p, x, y, rfl, h, ra, rb⟩ := ri
    exact fin _ _ p x y rfl (.inl (.inl h)) ra rb rfl
  · cases e
    obtain ⟨p, xs, rfl, h, r1⟩ := ri
    obtain ⟨x, xs', rfl, ra, y, xs'', rfl, rb, r2⟩ := r1
    cases r2
    exact fin (.t _) (.t _) p x y rfl (by rw [← hK]; exact h) ra rb rfl
  · cases e
end
/-! ### for -/
open Classical in
noncomputable def forLoop (td : Tg) (body : Dst) (kp : Kp) : List Im → Ev → Hs → Rs
  | [], r, G => if kpOk kp G then .nx r G else .stuck
  | im :: its, r, G => if kpOk kp G then (match td im r with
    | some r1 => (match body r1 G with
      | .nx r2 G2 => forLoop td body kp its r2 G2
      | .ct r2 G2 => forLoop td body kp its r2 G2
      | .bk r2 G2 => .nx r2 G2
      | q => q)
    | none => .stuck) else .stuck
noncomputable def dFor (di : Di) (td : Tg) (body : Dst) : Dst := fun r G => match di r G with
  | .ok its kp G1 => forLoop td body kp its r G1
  | .exc c ns ds G1 => .exc c ns ds r G1
  | .stuck => .stuck
section
variable {Z : Zc} {tg it c : Expr} {is : List Nat} {body : List Stmt} {di : Di} {td : Tg} {db : Dst} {dc : De} {pos : Pos}
theorem psd_for (hi : PDI Z tg it di) (hg : PDG Z tg is td) (hb : PSDs Z body db) (hs : ∀ env x, foldedSetIterable it env x = pure x := by intro _ _; rfl) : PSD Z (.For tg it body [] pos) (dFor di td db) := fun X W ok => by
  obtain ⟨gt, hgt, hg⟩ := hg
  refine psI (ps_for ok.po ok.calm (hi X W ok) (hgt X W ok) (hb X W ok) (hs _)) fun D σ H ⟨m, r, G, s, sl, p⟩ => ?_
  refine ⟨m, r, G, s, sl, ?_⟩
  unfold dFor at p
  cases e : di r G with
  | stuck => rw [e] at p; exact p
  | exc c ns ds G1 =>
    rw [e] at p
    exact fun da m' H' xs x1 s1 h nb rs => p σ da m' H' xs x1 s1 (Sl.ex x1 s sl) h nb rs
  | ok its kp G1 =>
    rw [e] at p
    intro J m1 H1 x1 s1 hk _ hw
    refine ⟨fun i mm σ' H' => ∃ m2 r2 G2, SR Z.g m2 H' G2 ∧ Sl Z.g m2 G2.length H' σ' r2 ∧ Ex m1 G1.length H1 m2 G2.length H' ∧ i ≤ its.length ∧ mm = its.length - i ∧ PostS Z.g W m2 G2.length H' D (forLoop td db kp (its.drop i) r2 G2),
      ⟨its.length, m1, r, G1, s1, Sl.ex x1 s sl, Ex.refl, Nat.zero_le _, rfl, PostS.trans x1 s1 (by simpa using p)⟩, ?_⟩
    rintro i mm σ' H' ⟨m2, r2, G2, s2, sl2, x2, hil, hmm, p2⟩
    by_cases hi : i < its.length
    · right
      have hd : its.drop i = its[i] :: its.drop (i + 1) := List.drop_eq_getElem_cons hi
      rw [hd] at p2
      unfold forLoop at p2
      split at p2
      · rename_i hk2
        obtain ⟨hgo, hy⟩ := (hw Z.g.rv i m2 H' G2 (fun _ z => .inl z) s2 x2.r hk2).2 its[i] (List.getElem?_eq_getElem hi)
        refine ⟨hgo, fun σ3 H3 => ∃ m3 r3 G3, SR Z.g m3 H3 G3 ∧ Sl Z.g m3 G3.length H3 σ3 r3 ∧ Ex m1 G1.length H1 m3 G3.length H3 ∧ PostS Z.g W m3 G3.length H3 D (forLoop td db kp (its.drop (i + 1)) r3 G3), ?_, ?_⟩
        · rintro σ3 H3 ⟨m3, r3, G3, s3, sl3, x3, p3⟩
          exact ⟨its.length - (i + 1), by omega, m3, r3, G3, s3, sl3, x3, hi, rfl, p3⟩
        · intro x H3 hyl
          obtain ⟨x3, s3, ri⟩ := hy x H3 hyl
          cases et : td its[i] r2 with
          | none => rw [et] at p2; exact p2.elim
          | some r3 =>
            rw [et] at p2
            refine hg Z.g m2 G2.length H3 σ' r2 r3 its[i] x _ rfl (Sl.ex x3 s2 sl2) ri et fun σ3 _ _ sl3 => ?_
            refine ⟨m2, r3, G2, s3, sl3, ?_⟩
            have p3 := PostS.trans x3 s3 p2
            simp only at p3
            cases eb : db r3 G2 with
            | nx r4 G4 => rw [eb] at p3; exact fun σ4 m4 H4 x4 s4 sl4 => ⟨m4, r4, G4, s4, sl4, (x2.trans s2 x3).trans s3 x4, PostS.trans x4 s4 p3⟩
            | ct r4 G4 => rw [eb] at p3; exact fun σ4 m4 H4 x4 s4 sl4 => ⟨m4, r4, G4, s4, sl4, (x2.trans s2 x3).trans s3 x4, PostS.trans x4 s4 p3⟩
            | bk r4 G4 => rw [eb] at p3; exact p3
            | rt d G4 => rw [eb] at p3; exact p3
            | exc _ _ _ _ _ => rw [eb] at p3; exact p3
            | stuck => rw [eb] at p3; exact p3
      · exact p2.elim
    · left
      have hl : its.length ≤ i := Nat.le_of_not_lt hi
      rw [List.drop_of_length_le hl] at p2
      unfold forLoop at p2
      split at p2
      · rename_i hk2
        exact ⟨(hw Z.g.rv i m2 H' G2 (fun _ z => .inl z) s2 x2.r hk2).1 (Nat.le_antisymm hil hl), PostS.nx' s2 sl2 p2⟩
      · exact p2.elim
/-! ### while -/
def whileLoop (c : De) (body : Dst) : Nat → Ev → Hs → Rs
  | 0, _, _ => .stuck
  | n + 1, r, G => (dT c r G).thn r fun x G1 => match x with
    | .t (.bl true) => (match body r G1 with
      | .nx r2 G2 => whileLoop c body n r2 G2
      | .ct r2 G2 => whileLoop c body n r2 G2
      | .bk r2 G2 => .nx r2 G2
      | q => q)
    | .t (.bl false) => .nx r G1
    | _ => .stuck
open Classical in
noncomputable def dWhile (c : De) (body : Dst) : Dst := fun r G => if h : ∃ n, whileLoop c body n r G ≠ .stuck then whileLoop c body (Classical.choose h) r G else .stuck
theorem psd_while (hc : PDT Z c dc) (hb : PSDs Z body db) : PSD Z (.While c body [] pos) (dWhile dc db) := fun X W ok => by
  refine psI (ps_while ok.po (hc X W ok) (hb X W ok)) fun D σ H ⟨m, r, G, s, sl, p⟩ => ?_
  unfold dWhile at p
  split at p
  · rename_i h
    refine ⟨fun n σ' H' => ∃ m2 r2 G2, SR Z.g m2 H' G2 ∧ Sl Z.g m2 G2.length H' σ' r2 ∧ PostS Z.g W m2 G2.length H' D (whileLoop dc db n r2 G2), ⟨_, m, r, G, s, sl, p⟩, ?_⟩
    rintro n σ' H' ⟨m2, r2, G2, s2, sl2, p2⟩
    cases n with
    | zero => exact p2.elim
    | succ n =>
      refine tST_bind s2 sl2 p2 fun k G3 m3 H3 e x3 s3 sl3 p3 => ?_
      cases k with
      | false => exact PostS.nx' s3 sl3 p3
      | true =>
        refine ⟨fun σ4 H4 => ∃ m4 r4 G4, SR Z.g m4 H4 G4 ∧ Sl Z.g m4 G4.length H4 σ4 r4 ∧ PostS Z.g W m4 G4.length H4 D (whileLoop dc db n r4 G4), ?_, m3, r2, G3, s3, sl3, ?_⟩
        · rintro σ4 H4 ⟨m4, r4, G4, s4, sl4, p4⟩
          exact ⟨n, Nat.lt_succ_self _, m4, r4, G4, s4, sl4, p4⟩
        · simp only at p3
          cases eb : db r2 G3 with
          | nx r4 G4 => rw [eb] at p3; exact fun σ4 m4 H4 x4 s4 sl4 => ⟨m4, r4, G4, s4, sl4, PostS.trans x4 s4 p3⟩
          | ct r4 G4 => rw [eb] at p3; exact fun σ4 m4 H4 x4 s4 sl4 => ⟨m4, r4, G4, s4, sl4, PostS.trans x4 s4 p3⟩
          | bk r4 G4 => rw [eb] at p3; exact p3
          | rt d G4 => rw [eb] at p3; exact p3
          | exc _ _ _ _ _ => rw [eb] at p3; exact p3
          | stuck => rw [eb] at p3; exact p3
  · exact p.elim
end
end BL

set_option Elab.async false
set_option linter.all false
set_option maxRecDepth 100000
set_option maxHeartbeats 1000000
namespace BL
open PySem L2

/-! ### list comprehensions -/
inductive Rc where
  | ok (ds : List D) (G : Hs) | stuck
def wipeE (r : Ev) : List Nat → Ev
  | [] => r
  | v :: vs => (wipeE r vs).set v none
open Classical in
noncomputable def compLoop (td : Tg) (tt elt : De) (kp : Kp) (r : Ev) : List Im → List D → Hs → Rc
  | [], acc, G => if kpOk kp G then .ok acc G else .stuck
  | im :: its, acc, G => if kpOk kp G then (match td im r with
    | some r1 => (match dT tt r1 G with
      | .ok (.t (.bl true)) G2 => (match elt r1 G2 with
        | .ok d G3 => compLoop td tt elt kp r its (acc ++ [d]) G3
        | _ => .stuck)
      | .ok (.t (.bl false)) G2 => compLoop td tt elt kp r its acc G2
      | _ => .stuck)
    | none => .stuck) else .stuck
noncomputable def compRun (own : List Nat) (di : Di) (td : Tg) (tt elt : De) (k : List D → Hs → Re) : De := fun r G => match di r G with
  | .ok its kp G1 => (match compLoop td tt elt kp (wipeE r own) its [] G1 with
    | .ok ds G2 => k ds G2
    | .stuck => .stuck)
  | .exc c ns ds G1 => .exc c ns ds G1
  | .stuck => .stuck
def kLst : List D → Hs → Re := fun ds G => match plain ds with
  | some ts => .ok (.t (.lst ts)) G
  | none => .stuck
def kLstL : List D → Hs → Re := fun ds G => .ok (.loc G.length) (G ++ [.lst ds])
/-- what may be made of the list that a comprehension has filled at Da -/
def FinL (g : Gm) (k : List D → Hs → Re) : Prop := ∀ (W : WX) (m m2 : Nat → Addr) (n : Nat) (H H2 : Hp) (G2 : Hs) (σ : St) (Q : VK) (Da : Addr) (ds : List D) (xs : List V), H Da = none → Da ∉ g.rv → Ex m n H m2 G2.length H2 → SR (g.rvd (Da :: g.rv)) m2 H2 G2 → H2 Da = some (.lst xs) →
  RpDs (g.rvd (Da :: g.rv)) m2 G2.length G2.length H2 ds xs → PostE g W m n H σ Q (k ds G2) → Q (.ref Da) H2
theorem RpDs.less {g : Gm} {m : Nat → Addr} {H : Hp} {G : Hs} (s : SR g m H G) {rv : List Addr} (hr : ∀ a, a ∈ rv → a ∈ g.rv) {ds : List D} {xs : List V} (r : RpDs g m G.length G.length H ds xs) : RpDs (g.rvd rv) m G.length G.length H ds xs :=
  RpDs.mv (Ex.mv Ex.refl s fun a h => .inl (hr a h)) (Nat.le_refl _) (Nat.le_refl _) r
theorem fin_lst {g : Gm} : FinL g kLst := by
  intro W m m2 n H H2 G2 σ Q Da ds xs hn hnr x s hD rs p
  unfold kLst at p
  split at p
  · rename_i ts e
    have := plain_some e
    subst this
    have s' : SR g m2 H2 G2 := s.less fun a h => List.mem_cons_of_mem _ h
    have rs' : RpDs g m2 G2.length G2.length H2 (ts.map D.t) xs := RpDs.less s (fun a h => List.mem_cons_of_mem _ h) rs
    refine p _ m2 H2 x s' ⟨Da, xs, rfl, .here hD ?_, rs'.toT⟩
    rintro (q | q)
    · exact (s.rv Da (List.mem_cons_self)).2 q
    · exact hnr q
  · exact p.elim
theorem fin_lstL {g : Gm} : FinL g kLstL := by
  intro W m m2 n H H2 G2 σ Q Da ds xs hn hnr x s hD rs p
  have hl : (G2 ++ [O.lst ds]).length = G2.length + 1 := by simp
  have nb := (s.rv Da (List.mem_cons_self)).2
  have mv : Mv (g.rvd (Da :: g.rv)) m2 G2.length H2 g (mAt m2 G2.length Da) (G2.length + 1) H2 := ⟨rfl, fun a o h nb ht => ⟨h, fun q => by
    rcases q with ⟨i, hi, e⟩ | q
    · by_cases h2 : i < G2.length
      · rw [mAt_lt h2] at e; exact nb (.inl ⟨i, h2, e⟩)
      · have : i = G2.length := by omega
        subst this
        rw [mAt_same] at e
        subst e
        exact nb (.inr List.mem_cons_self)
    · exact nb (.inr (List.mem_cons_of_mem _ q))⟩, fun _ _ h => h, fun i hi => mAt_lt hi⟩
  refine p (.ref Da) (mAt m2 G2.length Da) H2 ?_ ?_ ⟨by rw [hl]; exact Nat.lt_succ_self _, by rw [mAt_same]⟩
  · rw [hl]
    exact ⟨Nat.le_succ_of_le x.le, fun i hi => (mAt_lt (Nat.lt_of_lt_of_le hi x.le)).trans (x.ag i hi), fun i h1 h2 => by
      by_cases q : i < G2.length
      · rw [mAt_lt q]; exact x.fr i h1 q
      · have : i = G2.length := by omega
        subst this
        rw [mAt_same, hn]; exact (fun o e => nomatch e), x.kp⟩
  · refine ⟨fun i u e => ?_, fun i j h1 h2 e => ?_, s.sz, s.tb, fun a ha => ?_⟩
    · rw [hl]
      by_cases hi : i < G2.length
      · rw [List.getElem?_append_left hi] at e
        exact OR.mv mv hi rfl (s.ob i u e)
      · have h2 := getLt e
        have : i = G2.length := by omega
        subst this
        simp at e
        subst e
        exact ⟨xs, by rw [mAt_same]; exact hD, RpDs.mv mv (Nat.le_refl _) (Nat.le_refl _) rs⟩
    · rw [hl] at h1 h2
      by_cases hi : i < G2.length
      · by_cases hj : j < G2.length
        · rw [mAt_lt hi, mAt_lt hj] at e; exact s.inj i j hi hj e
        · have : j = G2.length := by omega
          subst this
          rw [mAt_lt hi, mAt_same] at e
          exact (nb ⟨i, hi, e⟩).elim
      · have : i = G2.length := by omega
        subst this
        by_cases hj : j < G2.length
        · rw [mAt_lt hj, mAt_same] at e
          exact (nb ⟨j, hj, e.symm⟩).elim
        · omega
    · obtain ⟨h1, h2⟩ := s.rv a (List.mem_cons_of_mem _ ha)
      refine ⟨h1, ?_⟩
      rw [hl]
      rintro ⟨i, hi, e⟩
      by_cases q : i < G2.length
      · rw [mAt_lt q] at e; exact h2 ⟨i, q, e⟩
      · have : i = G2.length := by omega
        subst this
        rw [mAt_same] at e
        subst e
        exact hnr ha
/-! ### the context of a comprehension's block -/
def Zc.blk (Z : Zc) (scope : Scope) (rv : List Addr) : Zc := { Z with sc := relS scope Z.sc, fn := fun x => scope.names.lookup x == some .cell, rv := rv }
theorem Ok.blk {Z : Zc} {X : Cx} {W : WX} (ok : Ok Z X W) (s : Shared) (H : Hp) (scope : Scope) (cl : List (Str × Addr)) (C : Addr) (fp : List Addr) (rv : List Addr) : Ok (Z.blk scope rv) (X.blk s H scope (compEnvC scope cl C X.env) fp) (fun _ _ _ _ => False) where
  P := ok.P
  w := ok.w
  K := ok.K
  mg := ok.mg
  base := ok.base
  N := ok.N
  sc := by show relS scope X.env.scope = relS scope Z.sc; rw [ok.sc]
  fn := rfl
  nd := ok.nd
  calm := ok.calm
  tk := LamX.takes0
  po := PassesOwn.never
  rm := ok.rm
  cq := ok.cq
theorem wipeE_len (r : Ev) : ∀ vs : List Nat, (wipeE r vs).length = r.length
  | [] => rfl
  | v :: vs => by unfold wipeE; rw [List.length_set, wipeE_len r vs]
theorem wipeE_some {r : Ev} {i : Nat} {x : D} : ∀ {vs : List Nat}, (wipeE r vs)[i]? = some (some x) → r[i]? = some (some x) ∧ i ∉ vs
  | [], h => ⟨h, by simp⟩
  | v :: vs, h => by
    unfold wipeE at h
    by_cases q : v = i
    · subst q
      have hv : v < (wipeE r vs).length := by have := getLt h; simpa using this
      rw [List.getElem?_set_self hv] at h; cases h
    · rw [List.getElem?_set_ne q] at h
      obtain ⟨a, b⟩ := wipeE_some h
      exact ⟨a, by simp [Ne.symm q, b]⟩
theorem Sl.wipe {g : Gm} {m : Nat → Addr} {n : Nat} {H : Hp} {σ : St} {r : Ev} (h : Sl g m n H σ r) (vs : List Nat) : Sl g m n H (L2.wipe σ vs) (wipeE r vs) :=
  ⟨by rw [wipe_length, wipeE_len]; exact h.1, fun i d e => by
    obtain ⟨a, b⟩ := wipeE_some e
    obtain ⟨v, e1, q⟩ := h.2 i d a
    exact ⟨v, by rw [wipe_out b]; exact e1, q⟩⟩
theorem wipe_same {σ σ' : St} (vs is : List Nat) (hl : σ'.length = σ.length) (h : ∀ j, j ∉ is → σ'[j]? = σ[j]?) (hs : ∀ i, i ∈ is → i ∈ vs) : L2.wipe σ' vs = L2.wipe σ vs := by
  apply List.ext_getElem?
  intro i
  by_cases q : i ∈ vs
  · have : ∀ τ : St, (L2.wipe τ vs)[i]? = if i < τ.length then some none else none := by
      intro τ
      by_cases hi : i < τ.length
      · rw [if_pos hi]
        have hw : i < (L2.wipe τ vs).length := by rw [wipe_length]; exact hi
        cases e : (L2.wipe τ vs)[i]? with
        | none => rw [List.getElem?_eq_none_iff] at e; omega
        | some o =>
          cases o with
          | none => rfl
          | some v => exact ((wipe_some e).2 q).elim
      · rw [if_neg hi, List.getElem?_eq_none_iff, wipe_length]; omega
    rw [this, this, hl]
  · rw [wipe_out q, wipe_out q]
    exact h i fun z => q (hs i z)
theorem wipe_idem {σ : St} (vs : List Nat) : L2.wipe (L2.wipe σ vs) vs = L2.wipe σ vs := by
  apply List.ext_getElem?
  intro i
  by_cases q : i ∈ vs
  · have : ∀ τ : St, (L2.wipe τ vs)[i]? = if i < τ.length then some none else none := by
      intro τ
      by_cases hi : i < τ.length
      · rw [if_pos hi]
        have hw : i < (L2.wipe τ vs).length := by rw [wipe_length]; exact hi
        cases e : (L2.wipe τ vs)[i]? with
        | none => rw [List.getElem?_eq_none_iff] at e; omega
        | some o =>
          cases o with
          | none => rfl
          | some v => exact ((wipe_some e).2 q).elim
      · rw [if_neg hi, List.getElem?_eq_none_iff, wipe_length]; omega
    rw [this, this, wipe_length]
  · rw [wipe_out q]
/-! ### the rule -/
def PDTs (Z : Zc) (ifs : List Expr) (d : De) : Prop := ∀ X W, Ok Z X W → PTs X ifs (tT Z.g W d)
theorem ptsI {X : Cx} {e : List Expr} {t t' : TT} (h : PTs X e t) (k : ∀ σ H Q, t' σ H Q → t σ H Q) : PTs X e t' := ⟨fun pins s σ H Q I z => h.run pins s σ H Q I (k σ H Q z)⟩
abbrev dYes : De := dC (.bl true)
section
variable {Z : Zc} {c : Expr} {dc : De}
theorem pdts_nil : PDTs Z [] dYes := fun X W ok => ptsI pts_nil fun σ H Q ⟨m, r, G, s, sl, p⟩ => PostE.ok (d := .t (.bl true)) s p (v := .bl true) rfl true rfl
theorem pdts_one (h : PDT Z c dc) : PDTs Z [c] dc := fun X W ok => pts_one (h X W ok)
end
def CompPost (g : Gm) (W : WX) (m : Nat → Addr) (n : Nat) (H : Hp) (σ : St) (Q : VK) (k : List D → Hs → Re) : Rc → Prop
  | .ok ds G => PostE g W m n H σ Q (k ds G)
  | .stuck => False
/-- a list or dict is laid to be filled -/
theorem SR.begin {g : Gm} {m : Nat → Addr} {H : Hp} {G : Hs} (s : SR g m H G) {Da : Addr} {o : HO} (hf : fillO o = true) (hz : szOk o) (h : H Da = none) : SR (g.rvd (Da :: g.rv)) m (upd H Da o) G ∧ Mv g m G.length H (g.rvd (Da :: g.rv)) m G.length (upd H Da o) := by
  have x : Ex m G.length H m G.length (upd H Da o) := Ex.new h
  have mv : Mv g m G.length H (g.rvd (Da :: g.rv)) m G.length (upd H Da o) := Ex.mv x s fun a ha => by
    rcases List.mem_cons.mp ha with rfl | q
    · exact .inr h
    · exact .inl q
  have s1 := s.new (o := o) h hz
  refine ⟨⟨fun i o e => ?_, s.inj, s1.sz, s1.tb, fun a ha => ?_⟩, mv⟩
  · obtain ⟨u, eu, _⟩ := s.at_ (getLt e)
    exact OR.mv mv (getLt e) (upd_ne (ne_of_none eu h)) (s.ob i o e)
  · rcases List.mem_cons.mp ha with rfl | q
    · exact ⟨⟨_, upd_same, hf⟩, fun z => s.bdSome z h⟩
    · exact s1.rv a q
/-- .. is filled further -/
theorem SR.grow {g : Gm} {m : Nat → Addr} {H : Hp} {G : Hs} (s : SR g m H G) {Da : Addr} {o o' : HO} (hD : H Da = some o) (hr : Da ∈ g.rv) (hf : fillO o' = true) (hz : szOk o') : SR g m (upd H Da o') G ∧ Mv g m G.length H g m G.length (upd H Da o') := by
  obtain ⟨⟨o1, e1, hf1⟩, nb⟩ := s.rv Da hr
  rw [hD] at e1
  cases e1
  have mv : Mv g m G.length H g m G.length (upd H Da o') := ⟨rfl, fun a o h nb ht => ⟨by rw [upd_ne (fun q => nb (.inr (by rw [q]; exact hr)))]; exact h, nb⟩, fun a zs h => by
    rcases h with (h | ⟨ob, h⟩) | h
    · refine .inl (.inl ?_)
      rw [upd_ne (fun q => by rw [q, hD] at h; cases h; cases hf1)]; exact h
    · refine .inl (.inr ⟨ob, ?_⟩)
      rw [upd_ne (fun q => by rw [q, hD] at h; cases h; cases hf1)]; exact h
    · exact .inr h, fun _ _ => rfl⟩
  refine ⟨⟨fun i o e => OR.mv mv (getLt e) (upd_ne (fun q => nb ⟨i, getLt e, q⟩)) (s.ob i o e), s.inj, fun a o e => ?_, ?_, fun a ha => ?_⟩, mv⟩
  · by_cases q : a = Da
    · subst q; rw [upd_same] at e; cases e; exact hz
    · rw [upd_ne q] at e; exact s.sz a o e
  · intro p hp
    obtain ⟨ps, h1, h2, h3⟩ := s.tb p hp
    refine ⟨ps, by rw [upd_ne (fun q => by rw [q, hD] at h1; cases h1; cases hf1)]; exact h1, h2, fun pos cv hc => ?_⟩
    obtain ⟨c, e1, e2⟩ := h3 pos cv hc
    exact ⟨c, e1, by rw [upd_ne (fun q => by rw [q, hD] at e2; cases e2; cases hf1)]; exact e2⟩
  · obtain ⟨⟨o2, e, hf2⟩, nb'⟩ := s.rv a ha
    refine ⟨?_, nb'⟩
    by_cases q : a = Da
    · subst q; exact ⟨o', upd_same, hf⟩
    · exact ⟨o2, by rw [upd_ne q]; exact e, hf2⟩
theorem Ex.grow {m m' : Nat → Addr} {n n' : Nat} {H H' : Hp} {Da : Addr} {o : HO} (x : Ex m n H m' n' H') (hn : H Da = none) : Ex m n H m' n' (upd H' Da o) where
  le := x.le
  ag := x.ag
  fr := x.fr
  kp := fun a o h nb ht => by rw [upd_ne (ne_of_none h hn)]; exact x.kp a o h nb ht
section
variable {Z : Zc} {elt tg iter : Expr} {ifs : List Expr} {scope : Scope} {own : List (Str × Nat)} {is : List Nat} {pos : Pos} {di : Di} {td : Tg} {dt de : De} {k : List D → Hs → Re}
theorem PE.some {ι : Type} {X : Cx} {e : Expr} {t : ι → TE} (h : ∀ i, PE X e (t i)) : PE X e (fun σ H Q => ∃ i, t i σ H Q) := ⟨fun pins s σ H Q I ⟨i, z⟩ => (h i).run pins s σ H Q I z⟩
theorem PTs.some {ι : Type} {X : Cx} {e : List Expr} {t : ι → TT} (h : ∀ i, PTs X e (t i)) : PTs X e (fun σ H Q => ∃ i, t i σ H Q) := ⟨fun pins s σ H Q I ⟨i, z⟩ => (h i).run pins s σ H Q I z⟩
/-- the reading of a comprehension, from what the loop over the items gives -/
theorem tLc_of {W : WX} (fin : FinL Z.g k) {gt : TG}
    (hg : ∀ (g : Gm) (m : Nat → Addr) (n : Nat) (H : Hp) (σ : St) (r r' : Ev) (im : Im) (v : V) (Q : St → Hp → Prop), g.K = Z.K → Sl g m n H σ r → ImR g m n H im v → td im r = some r' →
      (∀ σ', σ'.length = σ.length → (∀ j, j ∉ is → σ'[j]? = σ[j]?) → Sl g m n H σ' r' → Q σ' H) → gt v σ H Q)
    {vs : List Nat} (his : ∀ i, i ∈ is → i ∈ vs) {σ : St} {H : Hp} {Q : VK} (h : tI Z.g W (compRun vs di td dt de k) σ H Q) :
    tLc (tII Z.g W di) gt (fun σ H Q => ∃ rv, tT (Z.g.rvd rv) (fun _ _ _ _ => False) dt σ H Q) (fun σ H Q => ∃ rv, tI (Z.g.rvd rv) (fun _ _ _ _ => False) de σ H Q) vs σ H Q := by
  obtain ⟨m, r, G, s, sl, p⟩ := h
  refine ⟨m, r, G, s, sl, ?_⟩
  unfold compRun at p
  cases e : di r G with
  | stuck => rw [e] at p; exact p
  | exc c ns ds G1 => rw [e] at p; exact p
  | ok its kp G1 =>
    rw [e] at p
    intro J m1 H1 x1 s1 hk hsz hw Da hDa
    have hnr : Da ∉ Z.g.rv := fun q => by
      obtain ⟨⟨xs, z, _⟩, _⟩ := s1.rv Da q
      rw [hDa] at z; cases z
    obtain ⟨s1', mv1⟩ := s1.begin (o := .lst []) rfl (Nat.zero_le _) hDa
    have p1 : CompPost Z.g W m1 G1.length H1 σ Q k (compLoop td dt de kp (wipeE r vs) its [] G1) := by
      simp only at p
      cases ec : compLoop td dt de kp (wipeE r vs) its [] G1 with
      | stuck => rw [ec] at p; exact p
      | ok ds G2 => rw [ec] at p; exact PostE.trans x1 s1 p
    have sl1 : Sl (Z.g.rvd (Da :: Z.g.rv)) m1 G1.length (upd H1 Da (.lst [])) (wipe σ vs) (wipeE r vs) := Sl.mv mv1 (Nat.le_refl _) ((Sl.ex x1 s sl).wipe vs)
    refine ⟨fun i mm H' => ∃ m2 G2 acc xs, SR (Z.g.rvd (Da :: Z.g.rv)) m2 H' G2 ∧ Sl (Z.g.rvd (Da :: Z.g.rv)) m2 G2.length H' (wipe σ vs) (wipeE r vs) ∧ Ex m1 G1.length H1 m2 G2.length H' ∧ H' Da = some (.lst xs) ∧ RpDs (Z.g.rvd (Da :: Z.g.rv)) m2 G2.length G2.length H' acc xs ∧ acc.length ≤ i ∧
        i ≤ its.length ∧ mm = its.length - i ∧ CompPost Z.g W m1 G1.length H1 σ Q k (compLoop td dt de kp (wipeE r vs) (its.drop i) acc G2),
      ⟨its.length, m1, G1, [], [], s1', sl1, Ex.new hDa, upd_same, rfl, Nat.le_refl _, Nat.zero_le _, rfl, by simpa using p1⟩, ?_⟩
    rintro i mm H' ⟨m2, G2, acc, xs, s2, sl2, x2, hD, rs, hai, hil, hmm, p2⟩
    have hrv : ∀ a, a ∈ Da :: Z.g.rv → a ∈ Z.g.rv ∨ H1 a = none := fun a ha => by
      rcases List.mem_cons.mp ha with rfl | q
      · exact .inr hDa
      · exact .inl q
    by_cases hi : i < its.length
    · right
      have hd : its.drop i = its[i] :: its.drop (i + 1) := List.drop_eq_getElem_cons hi
      rw [hd] at p2
      unfold compLoop at p2
      split at p2
      · rename_i hk2
        obtain ⟨hgo, hy⟩ := (hw (Da :: Z.g.rv) i m2 H' G2 hrv s2 x2.r hk2).2 its[i] (List.getElem?_eq_getElem hi)
        refine ⟨hgo, fun H3 => ∃ m3 G3 acc' xs', SR (Z.g.rvd (Da :: Z.g.rv)) m3 H3 G3 ∧ Sl (Z.g.rvd (Da :: Z.g.rv)) m3 G3.length H3 (wipe σ vs) (wipeE r vs) ∧ Ex m1 G1.length H1 m3 G3.length H3 ∧ H3 Da = some (.lst xs') ∧ RpDs (Z.g.rvd (Da :: Z.g.rv)) m3 G3.length G3.length H3 acc' xs' ∧ acc'.length ≤ i + 1 ∧
            CompPost Z.g W m1 G1.length H1 σ Q k (compLoop td dt de kp (wipeE r vs) (its.drop (i + 1)) acc' G3), ?_, ?_⟩
        · rintro H3 ⟨m3, G3, acc', xs', s3, sl3, x3, hD3, rs3, ha3, p3⟩
          exact ⟨its.length - (i + 1), by omega, m3, G3, acc', xs', s3, sl3, x3, hD3, rs3, ha3, hi, rfl, p3⟩
        · intro x H3 hyl
          obtain ⟨x3, s3, ri⟩ := hy x H3 hyl
          cases et : td its[i] (wipeE r vs) with
          | none => rw [et] at p2; exact p2.elim
          | some r3 =>
            rw [et] at p2
            simp only at p2
            refine hg _ m2 G2.length H3 (wipe σ vs) (wipeE r vs) r3 its[i] x _ rfl (Sl.ex x3 s2 sl2) ri et fun σ3 hl3 ho3 sl3 => ?_
            refine ⟨by rw [wipe_same vs is hl3 ho3 his, wipe_idem], Da :: Z.g.rv, m2, r3, G2, s3, sl3, ?_⟩
            have hD3 : H3 Da = some (.lst xs) := x3.kp _ _ hD (fun z => (s2.rv Da List.mem_cons_self).2 z) (by simp)
            have sl3' : Sl (Z.g.rvd (Da :: Z.g.rv)) m2 G2.length H3 (wipe σ vs) (wipeE r vs) := Sl.ex x3 s2 sl2
            have rs3 : RpDs (Z.g.rvd (Da :: Z.g.rv)) m2 G2.length G2.length H3 acc xs := RpDs.ex x3 s2 x3.le (Nat.le_refl _) rs
            cases eT : dT dt r3 G2 with
            | stuck => rw [eT] at p2; exact p2.elim
            | exc _ _ _ _ => rw [eT] at p2; exact p2.elim
            | ok b G4 =>
              rw [eT] at p2
              intro v m4 H4 x4 s4 rv b' eb
              subst eb
              have hD4 : H4 Da = some (.lst xs) := x4.kp _ _ hD3 (fun z => (s3.rv Da List.mem_cons_self).2 z) (by simp)
              have sl4 := Sl.ex x4 s3 sl3
              have sl4' := Sl.ex x4 s3 sl3'
              have rs4 := RpDs.ex x4 s3 x4.le (Nat.le_refl _) rs3
              split at p2
              · rename_i q
                cases q
                cases rv
                refine ⟨Da :: Z.g.rv, m4, r3, G4, s4, sl4, ?_⟩
                cases eE : de r3 G4 with
                | stuck => rw [eE] at p2; exact p2.elim
                | exc _ _ _ _ => rw [eE] at p2; exact p2.elim
                | ok d G5 =>
                  rw [eE] at p2
                  simp only at p2
                  intro y m5 H5 x5 s5 ry
                  have hD5 : H5 Da = some (.lst xs) := x5.kp _ _ hD4 (fun z => (s4.rv Da List.mem_cons_self).2 z) (by simp)
                  have hz : xs.length < sizeLine := by
                    rw [← rs.length]; omega
                  have hz' : (xs ++ [y]).length ≤ sizeLine := by rw [List.length_append]; exact hz
                  obtain ⟨s6, mv6⟩ := s5.grow (o' := .lst (xs ++ [y])) hD5 List.mem_cons_self rfl hz'
                  refine ⟨xs, hD5, hz, m5, G5, acc ++ [d], xs ++ [y], s6, Sl.mv mv6 (Nat.le_refl _) (Sl.ex x5 s4 sl4'), ?_, upd_same, ?_, ?_, p2⟩
                  · exact Ex.grow (((x2.trans s2 x3).trans s3 x4).trans s4 x5) hDa
                  · exact RpDs.append (RpDs.mv mv6 (Nat.le_refl _) (Nat.le_refl _) (RpDs.ex x5 s4 x5.le (Nat.le_refl _) rs4)) ⟨y, [], rfl, RpD.mv mv6 (Nat.le_refl _) (Nat.le_refl _) ry, rfl⟩
                  · rw [List.length_append]; exact Nat.succ_le_succ hai
              · rename_i q
                cases q
                cases rv
                exact ⟨m4, G4, acc, xs, s4, sl4', (x2.trans s2 x3).trans s3 x4, hD4, rs4, Nat.le_succ_of_le hai, p2⟩
              · exact p2.elim
      · exact p2.elim
    · left
      have hl : its.length ≤ i := Nat.le_of_not_lt hi
      rw [List.drop_of_length_le hl] at p2
      unfold compLoop at p2
      split at p2
      · rename_i hk2
        exact ⟨(hw (Da :: Z.g.rv) i m2 H' G2 hrv s2 x2.r hk2).1 (Nat.le_antisymm hil hl), fin W m1 m2 G1.length H1 H' G2 σ Q Da acc xs hDa hnr x2 s2 hD rs p2⟩
      · exact p2.elim
theorem pd_lc (fin : ∀ g, FinL g k) (hi : PDI Z tg iter di) (hb : BlkOk Z.N Z.sc scope own) (hg : PDG (Z.blk scope []) tg is td) (his : ∀ i, i ∈ is → i ∈ own.map (·.2)) (ht : ∀ rv, PDTs (Z.blk scope rv) ifs dt) (he : ∀ rv, PD (Z.blk scope rv) elt de)
    (hs : ∀ env x, foldedSetIterable iter env x = pure x := by intro _ _; rfl) : PD Z (.ListComp elt [⟨tg, iter, ifs, 0⟩] scope pos) (compRun (own.map (·.2)) di td dt de k) := fun X W ok => by
  obtain ⟨gt, hgt, hg⟩ := hg
  refine peI (pe_lc (own := own) (g := gt) ok.calm ok.nd (hi X W ok) (by rw [ok.N, ok.sc]; exact hb) (fun s H C cl fp => hgt _ _ (ok.blk s H scope cl C fp []))
    (fun s H C cl fp => PTs.some fun rv => ht rv _ _ (ok.blk s H scope cl C fp rv)) (fun s H C cl fp => PE.some fun rv => he rv _ _ (ok.blk s H scope cl C fp rv)) (hs _)) fun σ H Q h => ?_
  exact tLc_of (Z := Z) (fin _) hg his h
theorem psd_setLc {i : Nat} {y : Str} {py spos : Pos} (fin : ∀ g, FinL g k) (hi : PDI Z tg iter di) (hb : BlkOk Z.N Z.sc scope own) (hg : PDG (Z.blk scope []) tg is td) (his : ∀ i, i ∈ is → i ∈ own.map (·.2)) (ht : ∀ rv, PDTs (Z.blk scope rv) ifs dt) (he : ∀ rv, PD (Z.blk scope rv) elt de)
    (hy : Z.N[i]? = some y := by rfl) (hyl : Z.sc.names.lookup y = some .local := by rfl) (hsk : Z.sc.kind = .function := by rfl) (hl : (py.line == pos.line) = true := by rfl) (hna : (scope.names.any fun (n, k) => n == y && (k == .local || k == .cell)) = false := by decide +kernel)
    (hs : ∀ env x, foldedSetIterable iter env x = pure x := by intro _ _; rfl) : PSD Z (.Assign [.Name y py] (.ListComp elt [⟨tg, iter, ifs, 0⟩] scope pos) spos) (dSet i (compRun (own.map (·.2)) di td dt de k)) := fun X W ok => by
  obtain ⟨gt, hgt, hg⟩ := hg
  refine psI (ps_setLc (i := i) (own := own) (g := gt) ok.calm ok.nd (by rw [ok.N]; exact hy) (by rw [ok.sc]; exact hyl) (sw_true (by rw [ok.sc]; exact hsk) (by rw [ok.sc]; exact hyl) hl hna) (hi X W ok) (by rw [ok.N, ok.sc]; exact hb) (fun s H C cl fp => hgt _ _ (ok.blk s H scope cl C fp []))
    (fun s H C cl fp => PTs.some fun rv => ht rv _ _ (ok.blk s H scope cl C fp rv)) (fun s H C cl fp => PE.some fun rv => he rv _ _ (ok.blk s H scope cl C fp rv)) (hs _)) fun D σ H ⟨m, r, G, s, sl, p⟩ => ?_
  have : tI Z.g W (compRun (own.map (·.2)) di td dt de k) σ H (fun v H1 => D.nx (σ.set i (some v)) H1) := tS_bind s sl p fun x G1 v m1 H1 e x1 s1 sl1 rv p1 => p1 _ m1 H1 Ex.refl s1 (sl1.set rv)
  exact tLc_of (Z := Z) (fin _) hg his this
end
end BL

set_option Elab.async false
set_option linter.all false
set_option maxRecDepth 100000
set_option maxHeartbeats 1000000
namespace BL
open PySem L2

/-! ### what a def gives, by plain data -/
abbrev Fd := List D → Hs → Re
def PostF (g : Gm) (m : Nat → Addr) (n : Nat) (H : Hp) (Q : VK) (E : XK) : Re → Prop
  | .ok x G' => ∀ v m' H', Ex m n H m' G'.length H' → SR g m' H' G' → RpD g m' G'.length G'.length H' x v → Q v H'
  | .exc c ns ds G' => ∀ da m' H' xs, Ex m n H m' G'.length H' → SR g m' H' G' → H' da = some (.xd (ns.zip xs)) → ¬ Bd m' G'.length da → RpDs g m' G'.length G'.length H' ds xs → E (.ref (g.ca c)) (some da) H'
  | .stuck => False
theorem PostF.eq {g : Gm} {W : WX} {m : Nat → Addr} {n : Nat} {H : Hp} {σ : St} {Q : VK} {q : Re} (p : PostE g W m n H σ Q q) : PostF g m n H Q (fun c d H' => W c d σ H') q := by
  cases q with
  | ok d G => exact p
  | exc c ns ds G => exact p
  | stuck => exact p
/-- the promise of a def that gives F -/
def spD (g : Gm) (np : Nat) (F : Fd) : Sp := fun vs H Q E => vs.length = np ∧ ∃ rv m G ds, SR (g.rvd rv) m H G ∧ RpDs (g.rvd rv) m G.length G.length H ds vs ∧ PostF (g.rvd rv) m G.length H Q E (F ds G)
/-- a def that stands at f -/
structure FnD (Z : Zb) (k : Nat) (f : Addr) (fd : FuncData) (ps : List Str) (F : Fd) : Prop where
  ok : FnOk Z.P Z.w Z.K Z.mg Z.base (L2.CX Z.P Z.w) k f fd ps (spD Z.g ps.length F)
  kp : PySem.W.keepIn Z.K (.ref f) = true
theorem FnD.mono {Z : Zb} {k k' : Nat} {f : Addr} {fd : FuncData} {ps : List Str} {F : Fd} (h : FnD Z k f fd ps F) (hk : k ≤ k') : FnD Z k' f fd ps F := ⟨h.ok.mono hk, h.kp⟩
/-- default values: plain data that is written -/
def Dfl (g : Gm0) (ts : List T) (vs : List V) : Prop := ∀ B H, Rps g B H ts vs
theorem dfl_nil {g : Gm0} : Dfl g [] [] := fun _ _ => rfl
section
variable {Z : Zc} {x : Str} {e : Expr} {es : List Expr} {das : List De} {F : Fd} {k : Nat} {f : Addr} {fd : FuncData} {ps : List Str} {dts : List T} {dvs : List V} {dus : List Value} {p pos : Pos}
theorem sp_of {X : Cx} {W : WX} (ok : Ok Z X W) {m : Nat → Addr} {H : Hp} {G : Hs} {σ : St} {Q : VK} {ds : List D} {vs : List V} {n : Nat} (hn : ds.length + dts.length = n) (hd : Dfl Z.g.toGm0 dts dvs) (s : SR Z.g m H G) (rs : RpDs Z.g m G.length G.length H ds vs)
    (p : PostE Z.g W m G.length H σ Q (F (ds ++ dts.map D.t) G)) : spD Z.g n F (vs ++ dvs) H Q (fun c d H' => W c d σ H') := by
  have rd : RpDs Z.g m G.length G.length H (dts.map D.t) dvs := RpDs.ofT (hd _ _)
  refine ⟨?_, Z.g.rv, m, G, ds ++ dts.map D.t, s, RpDs.append rs rd, PostF.eq p⟩
  rw [List.length_append, ← rs.length, ← rd.length, List.length_map]; exact hn
theorem pd_call (h : FnD Z.toZb k f fd ps F) (hk : k ≤ Z.k) (hm : Z.mg x = some (.ref f)) (hb : Binds Z.K fd ps dus) (hv : Vals dvs dus) (hd : Dfl Z.g.toGm0 dts dvs) (ha : PDA Z (e :: es) das) (hn : das.length + dts.length = ps.length) (hg : GlS Z x := by rfl)
    (hdb : (x == ("__debug__" : Str)) = false := by decide) (he : ∀ env, starEach (e :: es) env = (false, eval e env) :: starEach es env := by intro _; rfl) (hpl : ∀ env, (backTo pos (starEach es env)).any (·.1) = false := by intro _; rfl) :
    PD Z (.Call (.Name x p) (e :: es) [] pos) (dArgs das fun ds G => F (ds ++ dts.map D.t) G) := fun X W ok => by
  refine peI (pe_callSD (X := X) (CX := L2.CX X.prog X.w) (k := k) (f := f) (fd := fd) (ps := ps) (sp := spD Z.g ps.length F) (dvs := dvs) (ds := dus) (E := fun σ c d H' => W c d σ H') (by rw [ok.P, ok.w, ok.K, ok.mg, ok.base]; exact h.ok) (ok.rm.mono hk) (show X.env.scope.names.lookup x = _ by rw [ok.sc]; exact hg) (by rw [ok.mg]; exact hm) (by rw [ok.K]; exact h.kp) (by rw [ok.K]; exact hb) hv (fun σ => passAt ok.tk σ) (ha X W ok) hdb (he _) (hpl _)) fun σ H Q ⟨m, r, G, s, sl, p⟩ => ?_
  refine tA_of s sl p fun ds G1 vs m1 H1 x1 s1 sl1 rs hl p1 => ?_
  exact sp_of ok (by rw [hl]; exact hn) hd s1 rs p1
end
/-! ### a def by its body -/
def startE (n : Nat) (ds : List D) : Ev := ds.map some ++ List.replicate (n - ds.length) none
/-- a value as plain data, what it names looked up -/
def frz (G : Hs) : D → Option T
  | .t x => some x
  | .loc i => match G[i]? with
    | some (.lst ds) => (plain ds).map T.lst
    | some (.dk kvs) => (plain (kvs.map (·.2))).map (T.dk (kvs.map (·.1)))
    | some (.ins c fs) => (plain (fs.map (·.2))).map (T.obj c (fs.map (·.1)))
    | _ => none
def popD (n : Nat) (d : D) (G : Hs) : Option D := match d with
  | .t x => some (.t x)
  | .loc i => if i < n then some (.loc i) else (frz G (.loc i)).map D.t
def popDs (n : Nat) : List D → Hs → Option (List D)
  | [], _ => some []
  | d :: ds, G => match popD n d G, popDs n ds G with
    | some e, some es => some (e :: es)
    | _, _ => none
/-- what a body's end gives: the locations that the body made are forgotten -/
def endPop (n : Nat) : Rs → Re
  | .rt d G => (match popD n d G with
    | some e => .ok e (G.take n)
    | none => .stuck)
  | .nx _ G => .ok (.t .non) (G.take n)
  | .exc c ns ds _ G => (match popDs n ds G with
    | some es => .exc c ns es (G.take n)
    | none => .stuck)
  | _ => .stuck
/-- .. are kept -/
def endKeep : Rs → Re
  | .rt d G => .ok d G
  | .nx _ G => .ok (.t .non) G
  | .exc c ns ds _ G => .exc c ns ds G
  | _ => .stuck
def runPop (n : Nat) (b : Dst) : Fd := fun ds G => endPop G.length (b (startE n ds) G)
def runKeep (n : Nat) (b : Dst) : Fd := fun ds G => endKeep (b (startE n ds) G)
section
variable {g : Gm} {m : Nat → Addr} {H : Hp} {G : Hs}
theorem frz_rp (s : SR g m H G) {n i : Nat} {t : T} {v : V} (hn : n ≤ i) (r : RpD g m G.length G.length H (.loc i) v) (e : frz G (.loc i) = some t) : Rp g.toGm0 (Bv g m n) H t v := by
  obtain ⟨hi, rfl⟩ := r
  have nb : ¬ Bv g m n (m i) := fun q => by
    rcases q with ⟨j, hj, ej⟩ | q
    · have := s.inj j i (by omega) hi ej
      omega
    · exact (s.rv _ q).2 ⟨i, hi, rfl⟩
  have mo : ∀ a, Bv g m n a → Bv g m G.length a := fun a q => q.elim (fun z => .inl (Bd.mono (by omega) z)) .inr
  cases q : G[i]? with
  | none => simp [frz, q] at e
  | some o =>
    cases o with
    | lst ds =>
      simp [frz, q] at e
      obtain ⟨ts, e1, rfl⟩ := e
      have := plain_some e1
      subst this
      obtain ⟨xs, h, r⟩ := s.ob i _ q
      exact ⟨_, xs, rfl, .here h nb, Rps.fewer mo _ _ r.toT⟩
    | dk kvs =>
      simp [frz, q] at e
      obtain ⟨ts, e1, rfl⟩ := e
      have := plain_some e1
      obtain ⟨xs, h, r⟩ := s.ob i _ q
      rw [this] at r
      have hl := r.length
      have hl2 : ts.length = kvs.length := by have := congrArg List.length this; simpa using this.symm
      refine ⟨_, xs, rfl, h, by rw [← hl]; simp [hl2], nb, Rps.fewer mo _ _ r.toT⟩
    | ins c fs =>
      simp [frz, q] at e
      obtain ⟨ts, e1, rfl⟩ := e
      have := plain_some e1
      obtain ⟨dx, xs, h, r⟩ := s.ob i _ q
      rw [this] at r
      have hl := r.length
      have hl2 : ts.length = fs.length := by have := congrArg List.length this; simpa using this.symm
      refine ⟨_, dx, xs, rfl, h, by rw [← hl]; simp [hl2], nb, Rps.fewer mo _ _ r.toT⟩
    | flst ts => simp [frz, q] at e
theorem popD_rp (s : SR g m H G) {n : Nat} (hn : n ≤ G.length) {d e : D} {v : V} (r : RpD g m G.length G.length H d v) (h : popD n d G = some e) : RpD g m n n H e v := by
  cases d with
  | t x => cases h; exact RpD.pop hn r
  | loc i =>
    simp only [popD] at h
    split at h
    · cases h; exact ⟨by assumption, r.2⟩
    · rename_i hi
      cases q : frz G (.loc i) with
      | none => rw [q] at h; cases h
      | some t => rw [q] at h; cases h; exact frz_rp s (Nat.le_of_not_lt hi) r q
theorem popDs_rp (s : SR g m H G) {n : Nat} (hn : n ≤ G.length) : ∀ {ds es : List D} {vs : List V}, RpDs g m G.length G.length H ds vs → popDs n ds G = some es → RpDs g m n n H es vs
  | [], es, vs, r, h => by cases h; exact r
  | d :: ds, es, vs, ⟨v, ws, e, rd, r⟩, h => by
    unfold popDs at h
    split at h
    · rename_i e1 es1 q1 q2
      cases h
      exact ⟨v, ws, e, popD_rp s hn rd q1, popDs_rp s hn r q2⟩
    · cases h
theorem take_len {n : Nat} (hn : n ≤ G.length) : (G.take n).length = n := by rw [List.length_take]; exact Nat.min_eq_left hn
theorem Ex.popped {m0 : Nat → Addr} {n : Nat} {H0 : Hp} (x : Ex m0 n H0 m G.length H) : Ex m0 n H0 m n H := ⟨Nat.le_refl _, x.ag, fun i h1 h2 => absurd h2 (Nat.not_lt.mpr h1), x.kp⟩
end
/-- a def's own context -/
def Zc.dfn (Z : Zc) (N : List Str) (sc : Scope) (k : Nat) (rv : List Addr) : Zc := { Z with N := N, sc := sc, fn := fun _ => true, k := k, rv := rv, cq := none }
section
variable {Z : Zc} {x qual : Str} {st : Stmt} {f : Addr} {fd : FuncData} {N ps : List Str} {k : Nat} {db : Dst}
theorem Ok.dfn {cdv : Value} {A : Around} {outer : List Env} {s : Shared} {H : Hp} {E : XK} (S : FnScope N ps (defScope st)) (hr : Room k (A.deeper (PyProof.Rows.envOfC qual (defScope st) s.heap.objs.size f cdv))) (rv : List Addr) :
    Ok (Z.dfn N (defScope st) k rv) (cxOf (L2.CX Z.P Z.w) Z.P Z.w Z.K Z.mg Z.base N qual (defScope st) f cdv A outer s H E) (fun cls d _ H => E cls d H) where
  P := rfl
  w := rfl
  K := rfl
  mg := rfl
  base := rfl
  N := rfl
  sc := rfl
  fn := rfl
  nd := S.nd
  calm := rfl
  tk := takes_of rfl rfl rfl rfl
  po := passes_of rfl
  rm := hr
  cq := fun c q h => nomatch h
theorem start_sl {g : Gm} {m : Nat → Addr} {n : Nat} {H : Hp} {ds : List D} {vs : List V} (r : RpDs g m n n H ds vs) : Sl g m n H (L2.start N vs) (startE N.length ds) := by
  have hl := r.length
  refine ⟨by simp [L2.start, startE, hl], fun i d e => ?_⟩
  unfold startE at e
  by_cases hi : i < ds.length
  · rw [List.getElem?_append_left (by simpa using hi), List.getElem?_map] at e
    cases hd : ds[i]? with
    | none => rw [hd] at e; cases e
    | some d' =>
      rw [hd] at e
      cases e
      obtain ⟨v, ev, rv⟩ := r.get hd
      refine ⟨v, ?_, rv⟩
      unfold L2.start
      rw [List.getElem?_append_left (by rw [List.length_map, ← hl]; exact hi), List.getElem?_map, ev]
      rfl
  · rw [List.getElem?_append_right (by simpa using Nat.le_of_not_lt hi), List.getElem?_replicate] at e
    split at e
    · cases e
    · cases e
theorem fn_pop (Fn : Fun Z.K x qual st f fd) (S : FnScope N ps (defScope st)) (hb : ∀ rv, PSDs (Z.dfn N (defScope st) k rv) (defBody st) db) : FnD Z.toZb (k + 1) f fd ps (runPop N.length db) := by
  refine ⟨Fn.okX S (fun vs H Q E h => h.1) (fun cdv A outer s H vs Q E hr h => ?_), Fn.kp⟩
  obtain ⟨hl, rv, m, G, ds, s0, rs, p⟩ := h
  refine ⟨_, hb rv _ _ (Ok.dfn (Z := Z) S hr rv), m, _, G, s0, start_sl (N := N) rs, ?_⟩
  show PostS (Z.g.rvd rv) _ m G.length H _ (db (startE N.length ds) G)
  unfold runPop at p
  cases e : db (startE N.length ds) G with
  | rt d G' =>
    rw [e] at p
    simp only [endPop] at p
    intro v m' H' x' s' rv'
    cases q : popD G.length d G' with
    | none => rw [q] at p; exact p.elim
    | some d' =>
      rw [q] at p
      refine p v m' H' ?_ (s'.pop _) ?_
      · rw [take_len x'.le]; exact x'.popped
      · rw [take_len x'.le]; exact popD_rp s' x'.le rv' q
  | nx r G' =>
    rw [e] at p
    intro σ' m' H' x' s' sl'
    refine p .non m' H' ?_ (s'.pop _) rfl
    rw [take_len x'.le]; exact x'.popped
  | exc c ns es r G' =>
    rw [e] at p
    simp only [endPop] at p
    intro σ' da m' H' xs x' s' sl' h nb rs'
    cases q : popDs G.length es G' with
    | none => rw [q] at p; exact p.elim
    | some es' =>
      rw [q] at p
      refine p da m' H' xs ?_ (s'.pop _) h ?_ ?_
      · rw [take_len x'.le]; exact x'.popped
      · rw [take_len x'.le]; exact fun z => nb (Bd.mono x'.le z)
      · rw [take_len x'.le]; exact popDs_rp s' x'.le rs' q
  | bk r G' => rw [e] at p; exact p.elim
  | ct r G' => rw [e] at p; exact p.elim
  | stuck => rw [e] at p; exact p.elim
theorem fn_keep (Fn : Fun Z.K x qual st f fd) (S : FnScope N ps (defScope st)) (hb : ∀ rv, PSDs (Z.dfn N (defScope st) k rv) (defBody st) db) : FnD Z.toZb (k + 1) f fd ps (runKeep N.length db) := by
  refine ⟨Fn.okX S (fun vs H Q E h => h.1) (fun cdv A outer s H vs Q E hr h => ?_), Fn.kp⟩
  obtain ⟨hl, rv, m, G, ds, s0, rs, p⟩ := h
  refine ⟨_, hb rv _ _ (Ok.dfn (Z := Z) S hr rv), m, _, G, s0, start_sl (N := N) rs, ?_⟩
  show PostS (Z.g.rvd rv) _ m G.length H _ (db (startE N.length ds) G)
  unfold runKeep at p
  cases e : db (startE N.length ds) G with
  | rt d G' => rw [e] at p; exact p
  | nx r G' => rw [e] at p; exact fun σ' m' H' x' s' sl' => p .non m' H' x' s' rfl
  | exc c ns es r G' => rw [e] at p; exact fun σ' da m' H' xs x' s' sl' h nb rs' => p da m' H' xs x' s' h nb rs'
  | bk r G' => rw [e] at p; exact p.elim
  | ct r G' => rw [e] at p; exact p.elim
  | stuck => rw [e] at p; exact p.elim
end
end BL

set_option Elab.async false
set_option linter.all false
set_option maxRecDepth 100000
set_option maxHeartbeats 1000000
namespace BL
open PySem L2

/-! ### o.f -/
def zipLk {α : Type} (f : Str) : List Str → List α → Option α
  | n :: ns, x :: xs => if n = f then some x else zipLk f ns xs
  | _, _ => none
/-- the class and the attribute -/
def fFld (cs : List Nat) (f : Str) : D → Hs → Re := fun x G => match x with
  | .t (.obj c ns ts) => if cs.contains c = true then (match zipLk f ns ts with
    | some t => .ok (.t t) G
    | none => .stuck) else .stuck
  | .loc i => (match G[i]? with
    | some (.ins c fs) => if cs.contains c = true then (match zipLk f (fs.map (·.1)) (fs.map (·.2)) with
      | some d => .ok d G
      | none => .stuck) else .stuck
    | _ => .stuck)
  | _ => .stuck
def dUn (f : D → Hs → Re) (a : De) : De := fun r G => (a r G).bind f
theorem beq_str (a b : Str) : (a == b) = decide (a = b) := by
  by_cases h : a = b
  · subst h; simp
  · rw [decide_eq_false h]; exact beq_eq_false_iff_ne.mpr h
theorem zipLk_lookup {f : Str} : ∀ {ns : List Str} {xs : List V} {g : Gm0} {B : Addr → Prop} {H : Hp} {ts : List T} {t : T}, Rps g B H ts xs → zipLk f ns ts = some t → ∃ v, (ns.zip xs).lookup f = some v ∧ Rp g B H t v
  | [], xs, g, B, H, ts, t, r, e => by cases ts <;> cases e
  | n :: ns, xs, g, B, H, [], t, r, e => by cases e
  | n :: ns, xs, g, B, H, u :: ts, t, ⟨v, ws, ex, h, r⟩, e => by
    subst ex
    unfold zipLk at e
    rw [List.zip_cons_cons, List.lookup_cons]
    split at e
    · rename_i q
      cases e
      subst q
      exact ⟨v, by simp, h⟩
    · rename_i q
      rw [show (f == n) = false from beq_eq_false_iff_ne.mpr (Ne.symm q)]
      exact zipLk_lookup r e
theorem zipLkD_lookup {f : Str} {g : Gm} {m : Nat → Addr} {n0 b : Nat} {H : Hp} : ∀ {ns : List Str} {xs : List V} {ts : List D} {t : D}, RpDs g m n0 b H ts xs → zipLk f ns ts = some t → ∃ v, (ns.zip xs).lookup f = some v ∧ RpD g m n0 b H t v
  | [], xs, ts, t, r, e => by cases ts <;> cases e
  | n :: ns, xs, [], t, r, e => by cases e
  | n :: ns, xs, u :: ts, t, ⟨v, ws, ex, h, r⟩, e => by
    subst ex
    unfold zipLk at e
    rw [List.zip_cons_cons, List.lookup_cons]
    split at e
    · rename_i q
      cases e
      subst q
      exact ⟨v, by simp, h⟩
    · rename_i q
      rw [show (f == n) = false from beq_eq_false_iff_ne.mpr (Ne.symm q)]
      exact zipLkD_lookup r e
theorem fld_rp {g : Gm} {m : Nat → Addr} {H : Hp} {G : Hs} {cs : List Nat} {f : Str} (s : SR g m H G) {x : D} {v : V} {d : D} {G' : Hs} (r : RpD g m G.length G.length H x v) (e : fFld cs f x G = .ok d G') :
    G' = G ∧ ∃ a c dx fs u, v = .ref a ∧ H a = some (.ins (g.ca c) dx fs) ∧ c ∈ cs ∧ fs.lookup f = some u ∧ RpD g m G.length G.length H d u := by
  unfold fFld at e
  split at e
  · rename_i c ns ts
    split at e
    · rename_i hc
      obtain ⟨a, dx, xs, rfl, h, l, nb, r⟩ := r
      cases q : zipLk f ns ts with
      | none => rw [q] at e; cases e
      | some t =>
        rw [q] at e
        cases e
        obtain ⟨u, e1, ru⟩ := zipLk_lookup r q
        exact ⟨rfl, a, c, dx, _, u, rfl, h, by simpa using hc, e1, ru⟩
    · cases e
  · rename_i i
    obtain ⟨hi, rfl⟩ := r
    cases q : G[i]? with
    | none => rw [q] at e; cases e
    | some o =>
      rw [q] at e
      cases o with
      | ins c fs =>
        simp only at e
        split at e
        · rename_i hc
          obtain ⟨dx, xs, h, r⟩ := s.ob i _ q
          cases q2 : zipLk f (fs.map (·.1)) (fs.map (·.2)) with
          | none => rw [q2] at e; cases e
          | some t =>
            rw [q2] at e
            cases e
            obtain ⟨u, e1, ru⟩ := zipLkD_lookup r q2
            refine ⟨rfl, _, c, dx, _, u, rfl, h, by simpa using hc, e1, ?_⟩
            cases d with
            | t t => exact ru
            | loc j => exact ⟨Nat.lt_trans ru.1 hi, ru.2⟩
        · cases e
      | lst _ => cases e
      | dk _ => cases e
      | flst _ => cases e
  · cases e
section
variable {Z : Zc} {o : Expr} {d : De} {f : Str} {cs : List Nat} {pos pos' : Pos}
theorem pd_fld (h : PD Z o d) (hc : ∀ c, c ∈ cs → Cls Z.K (Z.ca c) ∧ NoAttr Z.K (Z.ca c) f) (hb : ∀ env, attributeBase o f env (eval o env) = eval o env := by intro _; rfl) : PD Z (.Attribute o f pos) (dUn (fFld cs f) d) := fun X W ok => by
  refine peI (pe_fld (h X W ok) (hb _)) fun σ H Q ⟨m, r, G, s, sl, p⟩ => ?_
  refine tI_bind s sl p fun x G1 v m1 H1 e x1 s1 sl1 rv p1 => ?_
  cases q : fFld cs f x G1 with
  | stuck => rw [q] at p1; exact p1.elim
  | exc _ _ _ _ =>
    exfalso
    unfold fFld at q
    split at q <;> (repeat (split at q)) <;> cases q
  | ok d' G2 =>
    rw [q] at p1
    obtain ⟨rfl, a, c, dx, fs, u, rfl, h2, h3, h4, h5⟩ := fld_rp s1 rv q
    obtain ⟨k1, k2⟩ := hc c h3
    exact ⟨a, _, dx, fs, u, rfl, h2, by rw [ok.K]; exact k1, by rw [ok.K]; exact k2, h4, PostE.ok s1 p1 h5⟩
end
/-! ### self.f = e -/
def setF {α : Type} (f : Str) (x : α) : List (Str × α) → List (Str × α)
  | [] => [(f, x)]
  | (n, y) :: r => if n = f then (n, x) :: r else (n, y) :: setF f x r
def okIn (n : Nat) : D → Bool
  | .t _ => true
  | .loc i => decide (i < n)
def dSetF (cs : List Nat) (f : Str) (o e : De) : Dst := fun r G => (e r G).thn r fun y G1 => (o r G1).thn r fun x G2 => match x with
  | .loc i => (match G2[i]? with
    | some (.ins c fs) => if cs.contains c = true ∧ okIn i y = true ∧ fs.length < 999 then .nx r (G2.set i (.ins c (setF f y fs))) else .stuck
    | _ => .stuck)
  | _ => .stuck
theorem setF_put {f : Str} {g : Gm} {m : Nat → Addr} {n0 b : Nat} {H : Hp} {y : D} {u : V} (ru : RpD g m n0 b H y u) : ∀ {fs : List (Str × D)} {xs : List V}, RpDs g m n0 b H (fs.map (·.2)) xs → ∃ ys, putF f u ((fs.map (·.1)).zip xs) = ((setF f y fs).map (·.1)).zip ys ∧ RpDs g m n0 b H ((setF f y fs).map (·.2)) ys
  | [], xs, r => by cases r; exact ⟨[u], rfl, u, [], rfl, ru, rfl⟩
  | (n, d) :: fs, xs, ⟨v, ws, e, h, r⟩ => by
    subst e
    have hz : ((((n, d) :: fs).map (·.1)).zip (v :: ws)) = (n, v) :: ((fs.map (·.1)).zip ws) := rfl
    rw [hz]
    unfold setF
    by_cases q : n = f
    · subst q
      rw [if_pos rfl]
      refine ⟨u :: ws, ?_, u, ws, rfl, ru, r⟩
      show (if n = n then _ else _) = _
      rw [if_pos rfl]; rfl
    · rw [if_neg q]
      obtain ⟨ys, e1, r1⟩ := setF_put ru r
      refine ⟨v :: ys, ?_, v, ys, rfl, h, r1⟩
      show (if n = f then _ else _) = _
      rw [if_neg q, e1]; rfl
theorem okIn_rp {g : Gm} {m : Nat → Addr} {n b i : Nat} {H : Hp} {y : D} {u : V} (h : okIn i y = true) (r : RpD g m n b H y u) : RpD g m n i H y u := by
  cases y with
  | t t => exact r
  | loc j => exact ⟨of_decide_eq_true h, r.2⟩
section
variable {Z : Zc} {o e : Expr} {do_ de : De} {f : Str} {cs : List Nat} {pos pos' : Pos}
theorem psd_fld (ho : PD Z o do_) (he : PD Z e de) (hc : ∀ c, c ∈ cs → Cls Z.K (Z.ca c) ∧ NoAttr Z.K (Z.ca c) f) (hs : ∀ env, swapsWith e (some (.Attribute o f pos')) pos.line env = pure false := by intro _; rfl) : PSD Z (.Assign [.Attribute o f pos'] e pos) (dSetF cs f do_ de) := fun X W ok => by
  refine psI (ps_fld (ho X W ok) (he X W ok) (hs _)) fun D σ H ⟨m, r, G, s, sl, p⟩ => ?_
  refine tS_bind s sl p fun y G1 u m1 H1 e1 x1 s1 sl1 ru p1 => ?_
  refine tS_bind s1 sl1 p1 fun x G2 v m2 H2 e2 x2 s2 sl2 rv p2 => ?_
  cases x with
  | t t => exact p2.elim
  | loc i =>
    obtain ⟨hi, rfl⟩ := rv
    simp only at p2
    cases q : G2[i]? with
    | none => rw [q] at p2; exact p2.elim
    | some ob =>
      rw [q] at p2
      cases ob with
      | ins c fs =>
        simp only at p2
        split at p2
        · rename_i hk
          obtain ⟨dx, xs, h, rs⟩ := s2.ob i _ q
          obtain ⟨k1, k2⟩ := hc c (by simpa using hk.1)
          have hl := rs.length
          have ru2 := okIn_rp hk.2.1 (RpD.ex x2 s1 x2.le (Nat.le_refl _) ru)
          obtain ⟨ys, ey, ry⟩ := setF_put (f := f) ru2 rs
          refine ⟨m2 i, _, dx, _, rfl, h, by rw [ok.K]; exact k1, by rw [ok.K]; exact k2, ?_, ?_⟩
          · have h3 := hk.2.2
            have : ((fs.map (·.1)).zip xs).length ≤ fs.length := by rw [List.length_zip, List.length_map]; exact Nat.min_le_left _ _
            omega
          · rw [ey]
            have xw : Ex m2 G2.length H2 m2 G2.length (upd H2 (m2 i) (.ins (Z.g.ca c) dx (((setF f y fs).map (·.1)).zip ys))) := Ex.write s2 hi
            refine p2 σ m2 _ ?_ (s2.write hi trivial ⟨dx, ys, upd_same, RpDs.ex xw s2 (Nat.le_refl _) (Nat.le_of_lt hi) ry⟩) ?_
            · rw [List.length_set]; exact xw
            · rw [List.length_set]; exact Sl.ex xw s2 sl2
        · exact p2.elim
      | lst _ => exact p2.elim
      | dk _ => exact p2.elim
      | flst _ => exact p2.elim
end
end BL

set_option Elab.async false
set_option linter.all false
set_option maxRecDepth 100000
set_option maxHeartbeats 1000000
namespace BL
open PySem L2

/-! ### o.m(..) -/
/-- how a method's call is read by the machine -/
def MethEval (pl : Env → Sem Bool) (o : Expr) (m : Str) (ap : Pos) (as : List Expr) (ps : Pos) : Prop := ∀ env, eval (.Call (.Attribute o m ap) as [] ps) env = (eval o env >>= fun ov => standAt ap.atName >>= fun _ => holding [ov] (getMethod ov m (pl env)) >>= fun q => callWith ps q.1 q.2 (backTo ps (starEach as env)) (backToKw ps (keywordEach [] env)))
/-- the receiver is an object of the class number c -/
def isObj' (c : Nat) (G : Hs) : D → Bool
  | .t (.obj c' ns _) => decide (c' = c)
  | .loc i => match G[i]? with
    | some (.ins c' _) => decide (c' = c)
    | _ => false
  | _ => false
def noFld (m : Str) (G : Hs) : D → Bool
  | .t (.obj _ ns _) => !(ns.contains m)
  | .loc i => match G[i]? with
    | some (.ins _ fs) => !((fs.map (·.1)).contains m)
    | _ => false
  | _ => false
theorem lookup_none {m : Str} : ∀ {ns : List Str} {xs : List V}, ns.contains m = false → (ns.zip xs).lookup m = none
  | [], xs, _ => by simp
  | n :: ns, [], _ => by simp
  | n :: ns, x :: xs, h => by
    rw [List.contains_cons, Bool.or_eq_false_iff] at h
    rw [List.zip_cons_cons, List.lookup_cons, h.1]
    exact lookup_none h.2
theorem obj_rp {g : Gm} {mm : Nat → Addr} {H : Hp} {G : Hs} {c : Nat} {m : Str} (s : SR g mm H G) {x : D} {v : V} (r : RpD g mm G.length G.length H x v) (h1 : isObj' c G x = true) (h2 : noFld m G x = true) : ∃ a dx fs, v = .ref a ∧ H a = some (.ins (g.ca c) dx fs) ∧ fs.lookup m = none := by
  cases x with
  | t t =>
    cases t with
    | obj c' ns ts =>
      simp only [isObj', decide_eq_true_eq] at h1
      subst h1
      obtain ⟨a, dx, xs, rfl, h, l, nb, r⟩ := r
      exact ⟨a, dx, _, rfl, h, lookup_none (by simpa [noFld] using h2)⟩
    | _ => cases h1
  | loc i =>
    obtain ⟨hi, rfl⟩ := r
    cases q : G[i]? with
    | none => simp [isObj', q] at h1
    | some o =>
      cases o with
      | ins c' fs =>
        simp [isObj', q] at h1
        subst h1
        obtain ⟨dx, xs, h, r⟩ := s.ob i _ q
        refine ⟨_, dx, _, rfl, h, lookup_none ?_⟩
        simp only [noFld, q] at h2
        simpa using h2
      | lst _ => simp [isObj', q] at h1
      | dk _ => simp [isObj', q] at h1
      | flst _ => simp [isObj', q] at h1
def dMeth (c : Nat) (m : Str) (o : De) (das : List De) (F : Fd) (dts : List T) : De := fun r G => (o r G).bind fun x G1 => if isObj' c G1 x = true ∧ noFld m G1 x = true then dArgs das (fun ds G2 => F (x :: (ds ++ dts.map D.t)) G2) r G1 else .stuck
section
variable {Z : Zc} {o e : Expr} {es : List Expr} {do_ : De} {das : List De} {F : Fd} {k c : Nat} {f : Addr} {fd : FuncData} {ps : List Str} {m : Str} {dts : List T} {dvs : List V} {dus : List Value} {pos apos : Pos} {pl : Env → Sem Bool}
theorem pd_meth (ho : PD Z o do_) (hc : Cls Z.K (Z.ca c)) (hm : Meth Z.K (Z.ca c) m f) (h : FnD Z.toZb k f fd ps F) (hk : k ≤ Z.k) (hb : Binds Z.K fd ps dus) (hv : Vals dvs dus) (hd : Dfl Z.g.toGm0 dts dvs) (ha : PDA Z (e :: es) das) (hn : das.length + dts.length + 1 = ps.length)
    (he : ∀ env, starEach (e :: es) env = (false, eval e env) :: starEach es env := by intro _; rfl) (hpl : ∀ env, (backTo pos (starEach es env)).any (·.1) = false := by intro _; rfl) (ht : MethEval pl o m apos (e :: es) pos := by intro _; rfl) :
    PD Z (.Call (.Attribute o m apos) (e :: es) [] pos) (dMeth c m do_ das F dts) := fun X W ok => by
  refine ⟨fun pins s σ H Q I h0 => ?_⟩
  obtain ⟨mm, r, G, s0, sl, p⟩ := h0
  have hF : FnOk X.prog X.w X.K X.mg X.base (L2.CX X.prog X.w) k f fd ps (spD Z.g ps.length F) := by rw [ok.P, ok.w, ok.K, ok.mg, ok.base]; exact h.ok
  have main : tI Z.g W do_ σ H fun x H1 => ∃ a dx fs, x = V.ref a ∧ H1 a = some (.ins (Z.ca c) dx fs) ∧ fs.lookup m = none ∧ (tCs (das.map (tI Z.g W))) σ H1 fun vs H2 => spD Z.g ps.length F (x :: (vs ++ dvs)) H2 Q (fun cl d H' => W cl d σ H') := by
    refine tI_bind s0 sl p fun x G1 v m1 H1 e1 x1 s1 sl1 rv p1 => ?_
    split at p1
    · rename_i hk2
      obtain ⟨a, dx, fs, rfl, h2, h3⟩ := obj_rp s1 rv hk2.1 hk2.2
      refine ⟨a, dx, fs, rfl, h2, h3, ?_⟩
      refine tA_of s1 sl1 p1 fun ds G2 vs m2 H2 x2 s2 sl2 rs hl p2 => ?_
      have rd : RpDs Z.g m2 G2.length G2.length H2 (dts.map D.t) dvs := RpDs.ofT (hd _ _)
      have rv2 := RpD.ex x2 s1 x2.le (Nat.le_refl _) rv
      refine ⟨?_, Z.g.rv, m2, G2, x :: (ds ++ dts.map D.t), s2, ⟨_, _, rfl, rv2, RpDs.append rs rd⟩, PostF.eq p2⟩
      rw [List.length_cons, List.length_append, ← rs.length, ← rd.length, List.length_map, hl]; exact hn
    · exact p1.elim
  refine PySem.W.methodCall_KW (pl := pl X.env) (thn ((ho X W ok).run pins s σ H _ I main) fun u s1 hq => ?_) (ht _)
  obtain ⟨x, H1, I1, rx, a, dx, fs, ex, ea, lk, q⟩ := hq
  subst ex
  obtain rfl : u = Value.ref a := rx
  have hM : Meth X.K (Z.ca c) m f := by rw [ok.K]; exact hm
  refine getmeth_ok I1 ea (by rw [ok.K]; exact hc) hM lk ?_
  refine PySem.W.callWith_K (first := [.ref a]) (h₀ := X.base) I.ok.mod.kin hM.kp (thn ((ha X W ok).run pos pins s1 σ H1 _ I1 q) fun us s2 hw => ?_) (he _) (hpl _)
  obtain ⟨vs, H2, I2, r2, q2⟩ := hw
  refine ⟨I2.kIn, ?_⟩
  have hB : Binds X.K fd ps dus := by rw [ok.K]; exact hb
  exact run_fnSD (E := fun σ cl d H' => W cl d σ H') (us := .ref a :: us) (vs := .ref a :: vs) hF (ok.rm.mono hk) hB hv (passAt ok.tk σ) I2 (.cons rfl r2) q2
theorem pd_meth0 (ho : PD Z o do_) (hc : Cls Z.K (Z.ca c)) (hm : Meth Z.K (Z.ca c) m f) (h : FnD Z.toZb k f fd ps F) (hk : k ≤ Z.k) (hb : Binds Z.K fd ps dus) (hv : Vals dvs dus) (hd : Dfl Z.g.toGm0 dts dvs) (hn : dts.length + 1 = ps.length)
    (ht : MethEval pl o m apos [] pos := by intro _; rfl) :
    PD Z (.Call (.Attribute o m apos) [] [] pos) (dMeth c m do_ [] F dts) := fun X W ok => by
  refine ⟨fun pins s σ H Q I h0 => ?_⟩
  obtain ⟨mm, r, G, s0, sl, p⟩ := h0
  have hF : FnOk X.prog X.w X.K X.mg X.base (L2.CX X.prog X.w) k f fd ps (spD Z.g ps.length F) := by rw [ok.P, ok.w, ok.K, ok.mg, ok.base]; exact h.ok
  have main : tI Z.g W do_ σ H fun x H1 => ∃ a dx fs, x = V.ref a ∧ H1 a = some (.ins (Z.ca c) dx fs) ∧ fs.lookup m = none ∧ spD Z.g ps.length F (x :: ([] ++ dvs)) H1 Q (fun cl d H' => W cl d σ H') := by
    refine tI_bind s0 sl p fun x G1 v m1 H1 e1 x1 s1 sl1 rv p1 => ?_
    split at p1
    · rename_i hk2
      obtain ⟨a, dx, fs, rfl, h2, h3⟩ := obj_rp s1 rv hk2.1 hk2.2
      have rd : RpDs Z.g m1 G1.length G1.length H1 (dts.map D.t) dvs := RpDs.ofT (hd _ _)
      refine ⟨a, dx, fs, rfl, h2, h3, ?_, Z.g.rv, m1, G1, x :: dts.map D.t, s1, ⟨_, _, rfl, rv, rd⟩, PostF.eq p1⟩
      rw [List.length_cons, List.nil_append, ← rd.length, List.length_map]; exact hn
    · exact p1.elim
  refine PySem.W.methodCall_KW (pl := pl X.env) (thn ((ho X W ok).run pins s σ H _ I main) fun u s1 hq => ?_) (ht _)
  obtain ⟨x, H1, I1, rx, a, dx, fs, ex, ea, lk, q⟩ := hq
  subst ex
  obtain rfl : u = Value.ref a := rx
  have hM : Meth X.K (Z.ca c) m f := by rw [ok.K]; exact hm
  refine getmeth_ok I1 ea (by rw [ok.K]; exact hc) hM lk ?_
  have hB : Binds X.K fd ps dus := by rw [ok.K]; exact hb
  exact PySem.W.callWith_K0 I1.kIn hM.kp (run_fnSD (E := fun σ cl d H' => W cl d σ H') (us := [.ref a]) (vs := [.ref a]) hF (ok.rm.mono hk) hB hv (passAt ok.tk σ) I1 (.cons rfl .nil) q)
end
/-! ### C(..) -/
/-- a new object, its __init__ run, and then plain data -/
def dMake (c : Nat) (das : List De) (F : Fd) (dts : List T) : De := dArgs das fun ds G => match F (.loc G.length :: (ds ++ dts.map D.t)) (G ++ [.ins c []]) with
  | .ok (.t .non) G' => (match popD G.length (.loc G.length) G' with
    | some e => .ok e (G'.take G.length)
    | none => .stuck)
  | .exc c' ns es G' => (match popDs G.length es G' with
    | some es' => .exc c' ns es' (G'.take G.length)
    | none => .stuck)
  | _ => .stuck
section
variable {Z : Zc} {e : Expr} {es : List Expr} {das : List De} {F : Fd} {k c : Nat} {f : Addr} {fd : FuncData} {ps : List Str} {x : Str} {dts : List T} {dvs : List V} {dus : List Value} {pos p : Pos}
/-- a new instance stands at x0, its dict at dx -/
theorem SR.made {g : Gm} {m : Nat → Addr} {H : Hp} {G : Hs} (s : SR g m H G) {x0 dx : Addr} (h1 : H x0 = none) (h2 : H dx = none) (hne : dx ≠ x0) :
    Ex m G.length H (mAt m G.length x0) (G ++ [O.ins c []]).length (upd (upd H dx (.own x0)) x0 (.ins (g.ca c) dx [])) ∧ SR g (mAt m G.length x0) (upd (upd H dx (.own x0)) x0 (.ins (g.ca c) dx [])) (G ++ [.ins c []]) := by
  have s1 := s.new (o := .own x0) h2 trivial
  have x1 : Ex m G.length H m G.length (upd H dx (.own x0)) := Ex.new h2
  have h3 : upd H dx (.own x0) x0 = none := by rw [upd_ne (Ne.symm hne)]; exact h1
  have hl : (G ++ [O.ins c []]).length = G.length + 1 := by simp
  refine ⟨?_, s1.loc h3 trivial ⟨dx, [], by rw [mAt_same]; exact upd_same, rfl⟩⟩
  rw [hl]
  exact x1.trans s1 (Ex.loc h3)
theorem make_sp {X : Cx} {W : WX} (ok : Ok Z X W) {m : Nat → Addr} {H : Hp} {G : Hs} {σ : St} {Q : VK} {ds : List D} {vs : List V} {n : Nat} (hn : ds.length + dts.length + 1 = n) (hd : Dfl Z.g.toGm0 dts dvs) (s : SR Z.g m H G) (rs : RpDs Z.g m G.length G.length H ds vs)
    (p : PostE Z.g W m G.length H σ Q (match F (.loc G.length :: (ds ++ dts.map D.t)) (G ++ [.ins c []]) with
      | .ok (.t .non) G' => (match popD G.length (.loc G.length) G' with
        | some e => .ok e (G'.take G.length)
        | none => .stuck)
      | .exc c' ns es G' => (match popDs G.length es G' with
        | some es' => .exc c' ns es' (G'.take G.length)
        | none => .stuck)
      | _ => .stuck)) (x0 dx : Addr) (h1 : H x0 = none) (h2 : H dx = none) (hne : dx ≠ x0) :
    spD Z.g n F (.ref x0 :: (vs ++ dvs)) (upd (upd H dx (.own x0)) x0 (.ins (Z.g.ca c) dx [])) (fun v H2 => v = .non ∧ Q (.ref x0) H2) (fun cl d H' => W cl d σ H') := by
  obtain ⟨x1, s1⟩ := s.made (c := c) h1 h2 hne
  have rd : RpDs Z.g m G.length G.length H (dts.map D.t) dvs := RpDs.ofT (hd _ _)
  have hl : (G ++ [O.ins c []]).length = G.length + 1 := by simp
  have rs1 := RpDs.ex x1 s x1.le (Nat.le_refl _) (RpDs.append rs rd)
  refine ⟨?_, Z.g.rv, _, _, .loc G.length :: (ds ++ dts.map D.t), s1, ⟨_, _, rfl, ⟨by rw [hl]; exact Nat.lt_succ_self _, by rw [mAt_same]⟩, rs1⟩, ?_⟩
  · rw [List.length_cons, List.length_append, ← rs.length, ← rd.length, List.length_map]; exact hn
  · cases eF : F (.loc G.length :: (ds ++ dts.map D.t)) (G ++ [.ins c []]) with
    | stuck => rw [eF] at p; exact p.elim
    | exc c' ns es G' =>
      rw [eF] at p
      simp only at p
      intro da m' H' xs x' s' h nb rs'
      cases q : popDs G.length es G' with
      | none => rw [q] at p; exact p.elim
      | some es' =>
        rw [q] at p
        have hle : G.length ≤ G'.length := Nat.le_trans (by rw [hl]; exact Nat.le_succ _) x'.le
        refine p da m' H' xs ?_ (s'.pop _) h ?_ ?_
        · rw [take_len hle]; exact (x1.trans s1 x').popped
        · rw [take_len hle]; exact fun z => nb (Bd.mono hle z)
        · rw [take_len hle]; exact popDs_rp s' hle rs' q
    | ok d G' =>
      rw [eF] at p
      intro v m' H' x' s' rv
      have hd : d = .t .non := by
        cases d with
        | t t => cases t <;> first | rfl | exact p.elim
        | loc i => exact p.elim
      subst hd
      simp only at p
      refine ⟨rv, ?_⟩
      cases q : popD G.length (.loc G.length) G' with
      | none => rw [q] at p; exact p.elim
      | some e' =>
        rw [q] at p
        have hlt : G.length < G'.length := Nat.lt_of_lt_of_le (by rw [hl]; exact Nat.lt_succ_self _) x'.le
        have hle : G.length ≤ G'.length := Nat.le_of_lt hlt
        have rself : RpD Z.g m' G'.length G'.length H' (.loc G.length) (.ref x0) := ⟨hlt, by rw [x'.ag _ (by rw [hl]; exact Nat.lt_succ_self _), mAt_same]⟩
        refine p (.ref x0) m' H' ?_ (s'.pop _) ?_
        · rw [take_len hle]; exact (x1.trans s1 x').popped
        · rw [take_len hle]; exact popD_rp s' hle rself q
theorem run_makeSD {X : Cx} {CX : CXT} {C : Addr} {sp : Sp} {E : XK} {pins : List (Addr × Obj)} {σ : St} {H : Hp} {s : Shared} {Q : VK} {us : List Value} {vs : List V} (M : Mk X.K C f) (F : FnOk X.prog X.w X.K X.mg X.base CX k f fd ps sp) (hr : Room (k + 1) X.A) (hb : Binds X.K fd ps dus) (hd : Vals dvs dus) (hx : PassesAt CX X σ E) (I : Inv X pins σ H s) (r : Vals vs us)
    (h : ∀ x0 dx, H x0 = none → H dx = none → dx ≠ x0 → sp (.ref x0 :: (vs ++ dvs)) (upd (upd H dx (.own x0)) x0 (.ins C dx [])) (fun v H2 => v = .non ∧ Q (.ref x0) H2) E) : wpAny (model X.prog X.w) X.A (call (.ref C) us) (EP X pins σ Q) X.xe s := by
  have g1 := h (s.heap.objs.size + 1) s.heap.objs.size (I.hok.fresh (Nat.le_succ _)) (I.hok.fresh (Nat.le_refl _)) (Nat.ne_of_lt (Nat.lt_succ_self _))
  have J := Inv.made (C := C) I
  have rr : Vals (V.ref (s.heap.objs.size + 1) :: (vs ++ dvs)) (Value.ref (s.heap.objs.size + 1) :: (us ++ dus)) := .cons rfl (r.append hd)
  have len2 : (Value.ref (s.heap.objs.size + 1) :: us ++ dus).length = ps.length := ((F.len _ _ _ _ g1).symm.trans rr.length).symm
  refine wpAny_call (make_map (f := f) I.kIn M.makes M.init (beq_iff_eq.mp M.fn) (codeAny_mono (F.run _ X.stack _ _ ⟨.ref (s.heap.objs.size + 1) :: us, []⟩ (.ref (s.heap.objs.size + 1) :: (us ++ dus)) _ _ E (hr.make C us []) (J.env0.make C us []) (hb _ (.ref (s.heap.objs.size + 1) :: us) J.kIn len2) rr g1) fun q s' hq => ?_))
  cases q with
  | error er => exact hx pins _ _ er s' J hq
  | ok fl =>
    cases fl with
    | ret u =>
      obtain ⟨v, H', J3, rv, ev, q3⟩ := J.after hq
      subst ev
      exact ⟨rv, .ref (s.heap.objs.size + 1), H', J3, rfl, q3⟩
    | next => exact hq.elim
    | brk => exact hq.elim
    | cont => exact hq.elim
theorem pd_make (hM : Mk Z.K (Z.ca c) f) (h : FnD Z.toZb k f fd ps F) (hk : k + 1 ≤ Z.k) (hm : Z.mg x = some (.ref (Z.ca c))) (hb : Binds Z.K fd ps dus) (hv : Vals dvs dus) (hd : Dfl Z.g.toGm0 dts dvs) (ha : PDA Z (e :: es) das) (hn : das.length + dts.length + 1 = ps.length) (hg : GlS Z x := by rfl)
    (hdb : (x == ("__debug__" : Str)) = false := by decide) (he : ∀ env, starEach (e :: es) env = (false, eval e env) :: starEach es env := by intro _; rfl) (hpl : ∀ env, (backTo pos (starEach es env)).any (·.1) = false := by intro _; rfl) :
    PD Z (.Call (.Name x p) (e :: es) [] pos) (dMake c das F dts) := fun X W ok => by
  refine ⟨fun pins s σ H Q I h0 => ?_⟩
  obtain ⟨mm, r, G, s0, sl, p⟩ := h0
  have hF : FnOk X.prog X.w X.K X.mg X.base (L2.CX X.prog X.w) k f fd ps (spD Z.g ps.length F) := by rw [ok.P, ok.w, ok.K, ok.mg, ok.base]; exact h.ok
  have hM' : Mk X.K (Z.ca c) f := by rw [ok.K]; exact hM
  have main := tA_of (R := fun vs H1 => ∀ x0 dx, H1 x0 = none → H1 dx = none → dx ≠ x0 → spD Z.g ps.length F (.ref x0 :: (vs ++ dvs)) (upd (upd H1 dx (.own x0)) x0 (.ins (Z.ca c) dx [])) (fun v H2 => v = .non ∧ Q (.ref x0) H2) (fun cl d H' => W cl d σ H')) s0 sl p fun ds G1 vs m1 H1 x1 s1 sl1 rs hl p1 => make_sp ok (by rw [hl]; exact hn) hd s1 rs p1
  refine wpAny_Call_Name_kw (ld_glob I (show X.env.scope.names.lookup x = _ by rw [ok.sc]; exact hg) (by rw [ok.mg]; exact hm) ?_ hdb)
  refine PySem.W.callWith_K (h₀ := X.base) I.ok.mod.kin hM'.kp (thn ((ha X W ok).run pos pins s σ H _ I main) fun us s1 hq => ?_) (he _) (hpl _)
  obtain ⟨vs, H1, I1, r1, q⟩ := hq
  have hB : Binds X.K fd ps dus := by rw [ok.K]; exact hb
  exact ⟨I1.kIn, run_makeSD hM' hF (ok.rm.mono hk) hB hv (passAt ok.tk σ) I1 r1 q⟩
end
end BL

set_option Elab.async false
set_option linter.all false
set_option maxRecDepth 100000
set_option maxHeartbeats 1000000
namespace BL
open PySem L2

def keyOf : D → Option Key
  | .t (.int i) => some (.inl i)
  | .t (.str x) => some (.inr x)
  | _ => none
def getA {α : Type} : List (Key × α) → Key → Option α
  | [], _ => none
  | (k', v) :: r, k => if k' = k then some v else getA r k
def hasA {α : Type} : List (Key × α) → Key → Bool
  | [], _ => false
  | (k', _) :: r, k => decide (k' = k) || hasA r k
def modA {α : Type} (k : Key) (v : α) : List (Key × α) → List (Key × α)
  | [] => []
  | (k', u) :: r => (k', if k' = k then v else u) :: modA k v r
def putA {α : Type} (kvs : List (Key × α)) (k : Key) (v : α) : List (Key × α) := if hasA kvs k = true then modA k v kvs else kvs ++ [(k, v)]
section
variable {g : Gm} {m : Nat → Addr} {n b : Nat} {H : Hp}
theorem keyOf_rp {d : D} {v : V} {k : Key} (r : RpD g m n b H d v) (e : keyOf d = some k) : v = kV k := by
  cases d with
  | loc i => cases e
  | t t =>
    cases t with
    | int i => cases e; exact r
    | str x => cases e; exact r.1
    | _ => cases e
theorem getA_val : ∀ {kvs : List (Key × D)} {xs : List V} {k : Key}, RpDs g m n b H (kvs.map (·.2)) xs → (∀ d, getA kvs k = some d → ∃ v, valV ((kvs.map (·.1)).zip xs) k = some v ∧ RpD g m n b H d v) ∧ (getA kvs k = none → valV ((kvs.map (·.1)).zip xs) k = none)
  | [], xs, k, r => by cases r; exact ⟨fun d e => (nomatch e), fun _ => rfl⟩
  | (k', d) :: kvs, xs, k, ⟨v, ws, e, h, r⟩ => by
    subst e
    have hz : ((((k', d) :: kvs).map (·.1)).zip (v :: ws)) = (k', v) :: ((kvs.map (·.1)).zip ws) := rfl
    rw [hz]
    unfold getA
    by_cases q : k' = k
    · rw [if_pos q]
      rw [valV_pos (p := (k', v)) q]
      exact ⟨fun d' e => by cases e; exact ⟨v, rfl, h⟩, fun e => nomatch e⟩
    · rw [if_neg q]
      rw [valV_neg (p := (k', v)) q]
      exact getA_val r
theorem hasA_any : ∀ {kvs : List (Key × D)} {xs : List V} {k : Key}, (kvs.map (·.2)).length = xs.length → (((kvs.map (·.1)).zip xs).any fun kv => decide (kv.1 = k)) = hasA kvs k
  | [], xs, k, h => rfl
  | (k', d) :: kvs, [], k, h => by simp at h
  | (k', d) :: kvs, v :: ws, k, h => by
    have hz : ((((k', d) :: kvs).map (·.1)).zip (v :: ws)) = (k', v) :: ((kvs.map (·.1)).zip ws) := rfl
    rw [hz, List.any_cons, hasA_any (by simpa using h)]; rfl
theorem modA_map {y : D} {u : V} (ru : RpD g m n b H y u) {k : Key} : ∀ {kvs : List (Key × D)} {xs : List V}, RpDs g m n b H (kvs.map (·.2)) xs →
    ∃ ys, ((kvs.map (·.1)).zip xs).map (fun kv => if kv.1 = k then (kv.1, u) else kv) = ((modA k y kvs).map (·.1)).zip ys ∧ RpDs g m n b H ((modA k y kvs).map (·.2)) ys
  | [], xs, r => by cases r; exact ⟨[], rfl, rfl⟩
  | (k', d) :: kvs, xs, ⟨v, ws, e, h, r⟩ => by
    subst e
    obtain ⟨ys, e1, r1⟩ := modA_map ru (k := k) r
    have hz : ((((k', d) :: kvs).map (·.1)).zip (v :: ws)) = (k', v) :: ((kvs.map (·.1)).zip ws) := rfl
    rw [hz, List.map_cons, e1]
    by_cases q : k' = k
    · refine ⟨u :: ys, ?_, u, ys, rfl, ?_, r1⟩
      · simp [modA, q]
      · simp only [if_pos q]; exact ru
    · refine ⟨v :: ys, ?_, v, ys, rfl, ?_, r1⟩
      · simp [modA, q]
      · simp only [if_neg q]; exact h
theorem putA_put {y : D} {u : V} (ru : RpD g m n b H y u) {k : Key} {kvs : List (Key × D)} {xs : List V} (r : RpDs g m n b H (kvs.map (·.2)) xs) :
    ∃ ys, putK ((kvs.map (·.1)).zip xs) k u = ((putA kvs k y).map (·.1)).zip ys ∧ RpDs g m n b H ((putA kvs k y).map (·.2)) ys := by
  have hl := r.length
  unfold putK putA
  rw [hasA_any hl]
  split
  · exact modA_map ru r
  · refine ⟨xs ++ [u], ?_, ?_⟩
    · rw [List.map_append, List.zip_append (by simpa using hl)]; rfl
    · rw [List.map_append]; exact RpDs.append r ⟨u, [], rfl, ru, rfl⟩
end
/-! ### d[k] -/
def dkOf (G : Hs) : D → Option (List (Key × D))
  | .t (.dk ks ts) => some (ks.zip (ts.map D.t))
  | .loc i => match G[i]? with
    | some (.dk kvs) => some kvs
    | _ => none
  | _ => none
theorem zipF {α β : Type} : ∀ {ks : List α} {ts : List β}, ks.length = ts.length → (ks.zip ts).map (·.1) = ks ∧ (ks.zip ts).map (·.2) = ts
  | [], [], _ => ⟨rfl, rfl⟩
  | k :: ks, t :: ts, h => by
    obtain ⟨a, b⟩ := zipF (ks := ks) (ts := ts) (by simpa using h)
    exact ⟨by simp [a], by simp [b]⟩
theorem dkOf_rp {g : Gm} {m : Nat → Addr} {H : Hp} {G : Hs} (s : SR g m H G) {d : D} {v : V} {kvs : List (Key × D)} (r : RpD g m G.length G.length H d v) (e : dkOf G d = some kvs) : ∃ a xs, v = .ref a ∧ H a = some (.dK ((kvs.map (·.1)).zip xs)) ∧ RpDs g m G.length G.length H (kvs.map (·.2)) xs := by
  cases d with
  | t t =>
    cases t with
    | dk ks ts =>
      cases e
      obtain ⟨a, xs, rfl, h, l, nb, r⟩ := r
      have hl : ks.length = (ts.map D.t).length := by rw [List.length_map, r.length, l]
      obtain ⟨e1, e2⟩ := zipF hl
      exact ⟨a, xs, rfl, by rw [e1]; exact h, by rw [e2]; exact RpDs.ofT r⟩
    | _ => cases e
  | loc i =>
    obtain ⟨hi, rfl⟩ := r
    cases q : G[i]? with
    | none => simp [dkOf, q] at e
    | some o =>
      cases o with
      | dk kvs' =>
        simp [dkOf, q] at e
        subst e
        obtain ⟨xs, h, r⟩ := s.ob i _ q
        exact ⟨_, xs, rfl, h, RpDs.up (Nat.le_of_lt hi) r⟩
      | lst _ => simp [dkOf, q] at e
      | ins _ _ => simp [dkOf, q] at e
      | flst _ => simp [dkOf, q] at e
def fGet : D → D → Hs → Re := fun x y G => match dkOf G x, keyOf y with
  | some kvs, some k => (match getA kvs k with
    | some d => .ok d G
    | none => .stuck)
  | _, _ => .stuck
def fDin (neg : Bool) : D → D → Hs → Re := fun y x G => match dkOf G x, keyOf y with
  | some kvs, some k => .ok (.t (.bl (if neg then !(getA kvs k).isSome else (getA kvs k).isSome))) G
  | _, _ => .stuck
section
variable {Z : Zc} {o i e : Expr} {do_ di de : De} {pos pos' : Pos}
theorem Ok.u1 {X : Cx} {W : WX} (ok : Ok Z X W) : X.A.units + 1 < cLine := hu_of ok.rm
theorem pd_dget (ho : PD Z o do_) (hi : PD Z i di) (hs : NoSl i := by intro _ _; rfl) : PD Z (.Subscript o i pos) (dBin fGet do_ di) := fun X W ok => by
  refine peI (pe_dget ok.u1 (ho X W ok) (hi X W ok) hs) fun σ H Q h => ?_
  refine tI_bin (q := fun x y H2 Q => ∃ a v, x = .ref a ∧ DGet H2 a y (some v) ∧ Q v H2) ?_ h
  intro W m H G σ Q x y v u s rx ry p
  unfold fGet at p
  split at p
  · rename_i kvs k ek eq
    obtain ⟨a, xs, rfl, hd, rs⟩ := dkOf_rp s rx ek
    have hk := keyOf_rp ry eq
    subst hk
    cases q : getA kvs k with
    | none => rw [q] at p; exact p.elim
    | some d =>
      rw [q] at p
      obtain ⟨w, ew, rw'⟩ := (getA_val (k := k) rs).1 d q
      exact ⟨a, w, rfl, by rw [← ew]; exact DGet.k hd, PostE.ok s p rw'⟩
  · exact p.elim
def rDin (neg : Bool) : R2 := fun y x H2 Q => ∃ a o, x = .ref a ∧ DGet H2 a y o ∧ Q (.bl (if neg then !o.isSome else o.isSome)) H2
theorem a_din {g : Gm} {neg : Bool} : OpA g (rDin neg) (fDin neg) := by
  intro W m H G σ Q y x u v s ry rx p
  unfold fDin at p
  split at p
  · rename_i kvs k ek eq
    obtain ⟨a, xs, rfl, hd, rs⟩ := dkOf_rp s rx ek
    have hk := keyOf_rp ry eq
    subst hk
    refine ⟨a, _, rfl, DGet.k hd, ?_⟩
    have : (valV ((kvs.map (·.1)).zip xs) k).isSome = (getA kvs k).isSome := by
      cases q : getA kvs k with
      | none => rw [(getA_val (k := k) rs).2 q]; rfl
      | some d =>
        obtain ⟨w, ew, _⟩ := (getA_val (k := k) rs).1 d q
        rw [ew]; rfl
    rw [this]
    exact PostE.ok s p rfl
  · exact p.elim
theorem pdt_pc {X : Cx} {W : WX} {op : CmpOp} {f : D → D → Hs → Re} {a b : Expr} {da db : De} (hpc : PC X op a b (tOp q (tI Z.g W da) (tI Z.g W db))) (hq : OpA Z.g q f) (hm : behindInMarks op b = false) : PE X (.Compare a [op] [b] pos) (tI Z.g W (dBin f da db)) :=
  peI (pe_cmp hpc hm) fun _ _ _ h => tI_bin hq h
theorem isB_din {p : Bool} : IsB (fDin p) := by
  intro x y G d G' e
  unfold fDin at e
  split at e
  · cases e; exact ⟨_, rfl⟩
  · cases e
theorem pdt_din (hi : PD Z i di) (ho : PD Z o do_) (hm : behindInMarks .In o = false := by rfl) : PDT Z (.Compare i [.In] [o] pos) (dBin (fDin false) di do_) := fun X W ok =>
  ptI (pt_cmp (pc_din ok.u1 (hi X W ok) (ho X W ok)) hm) fun σ H Q h => tI_bin a_din (tT_bin isB_din h)
theorem pdt_dnotin (hi : PD Z i di) (ho : PD Z o do_) (hm : behindInMarks .NotIn o = false := by rfl) : PDT Z (.Compare i [.NotIn] [o] pos) (dBin (fDin true) di do_) := fun X W ok =>
  ptI (pt_cmp (pc_dnotin ok.u1 (hi X W ok) (ho X W ok)) hm) fun σ H Q h => tI_bin a_din (tT_bin isB_din h)
/-! ### d[k] = e -/
def dPut (o i e : De) : Dst := fun r G => (e r G).thn r fun y G1 => (o r G1).thn r fun x G2 => (i r G2).thn r fun z G3 => match x, keyOf z with
  | .loc j, some k => (match G3[j]? with
    | some (.dk kvs) => if okIn j y = true ∧ kvs.length < 16777215 then .nx r (G3.set j (.dk (putA kvs k y))) else .stuck
    | _ => .stuck)
  | _, _ => .stuck
theorem putA_len {α : Type} {kvs : List (Key × α)} {k : Key} {v : α} : (putA kvs k v).length ≤ kvs.length + 1 := by
  have hm : ∀ l : List (Key × α), (modA k v l).length = l.length := by
    intro l
    induction l with
    | nil => rfl
    | cons p l ih => obtain ⟨a, b⟩ := p; simp [modA, ih]
  unfold putA
  split
  · rw [hm]; exact Nat.le_succ _
  · simp
theorem psd_dput (ho : PD Z o do_) (hi : PD Z i di) (he : PD Z e de) (hs : ∀ env, swapsWith e (some (.Subscript o i pos')) pos.line env = pure false := by intro _; rfl) : PSD Z (.Assign [.Subscript o i pos'] e pos) (dPut do_ di de) := fun X W ok => by
  refine psI (ps_dput ok.u1 (ho X W ok) (hi X W ok) (he X W ok) (hs _)) fun D σ H ⟨m, r, G, s, sl, p⟩ => ?_
  refine tS_bind s sl p fun y G1 u m1 H1 e1 x1 s1 sl1 ru p1 => ?_
  refine tS_bind s1 sl1 p1 fun x G2 v m2 H2 e2 x2 s2 sl2 rv p2 => ?_
  refine tS_bind s2 sl2 p2 fun z G3 t m3 H3 e3 x3 s3 sl3 rz p3 => ?_
  split at p3
  · rename_i j k hk
    have hkv := keyOf_rp rz hk
    subst hkv
    have rv3 := RpD.ex x3 s2 x3.le (Nat.le_refl _) rv
    obtain ⟨hj, rfl⟩ := rv3
    cases q : G3[j]? with
    | none => rw [q] at p3; exact p3.elim
    | some ob =>
      rw [q] at p3
      cases ob with
      | dk kvs =>
        simp only at p3
        split at p3
        · rename_i hok
          obtain ⟨xs, hd, rs⟩ := s3.ob j _ q
          have ru3 := okIn_rp hok.1 (RpD.ex x3 s2 x3.le (Nat.le_refl _) (RpD.ex x2 s1 x2.le (Nat.le_refl _) ru))
          obtain ⟨ys, ey, ry⟩ := putA_put (k := k) ru3 rs
          have hz : ((kvs.map (·.1)).zip xs).length ≤ kvs.length := by rw [List.length_zip, List.length_map]; exact Nat.min_le_left _ _
          have hzl : ((kvs.map (·.1)).zip xs).length < sizeLine := Nat.lt_of_le_of_lt hz (Nat.lt_of_lt_of_le hok.2 (by decide))
          refine ⟨m3 j, _, rfl, DPut.k hd hzl, ?_⟩
          rw [ey]
          have hz2 : szOk (HO.dK (((putA kvs k y).map (·.1)).zip ys)) := by
            show (((putA kvs k y).map (·.1)).zip ys).length ≤ sizeLine
            rw [List.length_zip, List.length_map]
            have := putA_len (kvs := kvs) (k := k) (v := y)
            have h2 : kvs.length < 16777215 := hok.2
            have h3 : min (putA kvs k y).length ys.length ≤ (putA kvs k y).length := Nat.min_le_left _ _
            show _ ≤ 16777216
            omega
          have xw : Ex m3 G3.length H3 m3 G3.length (upd H3 (m3 j) (.dK (((putA kvs k y).map (·.1)).zip ys))) := Ex.write s3 hj
          refine p3 σ m3 _ ?_ (s3.write hj hz2 ⟨ys, upd_same, RpDs.ex xw s3 (Nat.le_refl _) (Nat.le_of_lt hj) ry⟩) ?_
          · rw [List.length_set]; exact xw
          · rw [List.length_set]; exact Sl.ex xw s3 sl3
        · exact p3.elim
      | lst _ => exact p3.elim
      | ins _ _ => exact p3.elim
      | flst _ => exact p3.elim
  · exact p3.elim
end
end BL

set_option Elab.async false
set_option linter.all false
set_option maxRecDepth 100000
set_option maxHeartbeats 1000000
namespace BL
open PySem L2

/-! ### methods of built-in types -/
/-- the receiver's kind, and what its rule asks -/
def MtA (g : Gm) (K : PySem.W.Frag) (T : String) (q : V → List V → Hp → VK → Prop) (f : D → List D → Hs → Re) (ty : Hs → D → Bool) : Prop :=
  (∀ (m : Nat → Addr) (H : Hp) (G : Hs) (x : D) (v : V), SR g m H G → RpD g m G.length G.length H x v → ty G x = true → tyV K T v H) ∧
  ∀ (W : WX) (m : Nat → Addr) (H : Hp) (G : Hs) (σ : St) (Q : VK) (x : D) (ds : List D) (v : V) (vs : List V), SR g m H G → RpD g m G.length G.length H x v → RpDs g m G.length G.length H ds vs → PostE g W m G.length H σ Q (f x ds G) → q v vs H Q
def dBm (ty : Hs → D → Bool) (f : D → List D → Hs → Re) (o : De) (das : List De) : De := fun r G => (o r G).bind fun x G1 => if ty G1 x = true then dArgs das (fun ds G2 => f x ds G2) r G1 else .stuck
section
variable {Z : Zc} {o e : Expr} {es : List Expr} {do_ : De} {das : List De} {name : Str} {T id : String} {f : D → List D → Hs → Re} {ty : Hs → D → Bool} {apos cpos : Pos} {q : Cx → V → List V → Hp → VK → Prop}
theorem pd_bm (pa : PlainAttrs T) (slot : Slot T name id) (hty : typeOf (.builtin id) = pure (.type "method_descriptor")) (hm : ∀ X W, Ok Z X W → MtR X id (q X)) (hq : ∀ X W, Ok Z X W → MtA Z.g X.K T (q X) f ty) (ho : PD Z o do_) (ha : PDA Z (e :: es) das)
    (hbase : ∀ env, attributeBase o name env (eval o env) = eval o env := by intro _; rfl)
    (hfew : ∀ env : Env, ((backTo cpos (starEach (e :: es) env)).all (fun x => !x.1) && (backToKw cpos (keywordEach [] env)).all (fun x => x.1.isSome) && decide ((e :: es).length + ([] : List Keyword).length + (if ([] : List Keyword).isEmpty then 0 else 1) < 30)) = true := by intro _; rfl)
    (hline : (apos.endLine == cpos.line) = true := by rfl) (hs : ∀ env, starEach (e :: es) env = (false, eval e env) :: starEach es env := by intro _; rfl) (hplain : ∀ env, (backTo cpos (starEach es env)).any (·.1) = false := by intro _; rfl) :
    PD Z (.Call (.Attribute o name apos) (e :: es) [] cpos) (dBm ty f do_ das) := fun X W ok => by
  refine peI (pe_bm pa slot hty (hm X W ok) (ho X W ok) (ha X W ok) (hbase _) (hfew _) hline (hs _) (hplain _)) fun σ H Q ⟨m, r, G, s, sl, p⟩ => ?_
  refine tI_bind s sl p fun x G1 v m1 H1 e1 x1 s1 sl1 rv p1 => ?_
  split at p1
  · rename_i hk
    refine ⟨(hq X W ok).1 m1 H1 G1 x v s1 rv hk, ?_⟩
    refine tA_of s1 sl1 p1 fun ds G2 vs m2 H2 x2 s2 sl2 rs hl p2 => ?_
    exact (hq X W ok).2 W m2 H2 G2 σ Q x ds v vs s2 (RpD.ex x2 s1 x2.le (Nat.le_refl _) rv) rs p2
  · exact p1.elim
theorem pd_bm0 (pa : PlainAttrs T) (slot : Slot T name id) (hty : typeOf (.builtin id) = pure (.type "method_descriptor")) (hm : ∀ X W, Ok Z X W → MtR X id (q X)) (hq : ∀ X W, Ok Z X W → MtA Z.g X.K T (q X) f ty) (ho : PD Z o do_)
    (hbase : ∀ env, attributeBase o name env (eval o env) = eval o env := by intro _; rfl) (hline : (apos.endLine == cpos.line) = true := by rfl) :
    PD Z (.Call (.Attribute o name apos) [] [] cpos) (dBm ty f do_ []) := fun X W ok => by
  refine peI (pe_bm0 pa slot hty (hm X W ok) (ho X W ok) (hbase _) hline) fun σ H Q ⟨m, r, G, s, sl, p⟩ => ?_
  refine tI_bind s sl p fun x G1 v m1 H1 e1 x1 s1 sl1 rv p1 => ?_
  split at p1
  · rename_i hk
    exact ⟨(hq X W ok).1 m1 H1 G1 x v s1 rv hk, (hq X W ok).2 W m1 H1 G1 σ Q x [] v [] s1 rv rfl p1⟩
  · exact p1.elim
end
def isL (G : Hs) (x : D) : Bool := (asL G x).isSome
def isS : Hs → D → Bool := fun _ x => match x with
  | .t (.str _) => true
  | _ => false
theorem isL_ty {g : Gm} {K : PySem.W.Frag} (hK : K = g.K) (m : Nat → Addr) (H : Hp) (G : Hs) (x : D) (v : V) (s : SR g m H G) (r : RpD g m G.length G.length H x v) (h : isL G x = true) : tyV K "list" v H := by
  subst hK
  unfold isL at h
  cases q : asL G x with
  | none => rw [q] at h; cases h
  | some ds =>
    obtain ⟨a, xs, rfl, hq, _⟩ := asL_rp s r q
    exact .inl ⟨rfl, xs, hq⟩
theorem isS_ty {g : Gm} {K : PySem.W.Frag} (m : Nat → Addr) (H : Hp) (G : Hs) (x : D) (v : V) (s : SR g m H G) (r : RpD g m G.length G.length H x v) (h : isS G x = true) : tyV K "str" v H := by
  cases x with
  | loc i => cases h
  | t t =>
    cases t with
    | str z => obtain ⟨e, _⟩ := r; subst e; rfl
    | _ => cases h
/-! ### xs.append(e), xs.clear() -/
def fApp : D → List D → Hs → Re := fun x ds G => match x, ds with
  | .loc i, [y] => (match G[i]? with
    | some (.lst es) => if okIn i y = true ∧ es.length < 16777216 then .ok (.t .non) (G.set i (.lst (es ++ [y]))) else .stuck
    | _ => .stuck)
  | _, _ => .stuck
def fClear : D → List D → Hs → Re := fun x ds G => match x, ds with
  | .loc i, [] => (match G[i]? with
    | some (.lst es) => .ok (.t .non) (G.set i (.lst []))
    | _ => .stuck)
  | _, _ => .stuck
theorem wrL {g : Gm} {m : Nat → Addr} {H : Hp} {G : Hs} (s : SR g m H G) {i : Nat} {es : List D} {ys : List V} (hi : i < G.length) (hz : ys.length ≤ sizeLine) (r : RpDs g m G.length i H es ys) :
    Ex m G.length H m (G.set i (.lst es)).length (upd H (m i) (.lst ys)) ∧ SR g m (upd H (m i) (.lst ys)) (G.set i (.lst es)) := by
  have xw : Ex m G.length H m G.length (upd H (m i) (.lst ys)) := Ex.write s hi
  rw [List.length_set]
  exact ⟨xw, s.write hi hz ⟨ys, upd_same, RpDs.ex xw s (Nat.le_refl _) (Nat.le_of_lt hi) r⟩⟩
theorem a_app {g : Gm} (K : PySem.W.Frag) (hK : K = g.K) : MtA g K "list" rAppend fApp isL := by
  refine ⟨isL_ty hK, ?_⟩
  intro W m H G σ Q x ds v vs s rx rs p
  unfold fApp at p
  split at p
  · rename_i i y
    obtain ⟨hi, rfl⟩ := rx
    obtain ⟨u, rfl, ru⟩ := rpds1 rs
    cases q : G[i]? with
    | none => rw [q] at p; exact p.elim
    | some o =>
      rw [q] at p
      cases o with
      | lst es =>
        simp only at p
        split at p
        · rename_i hk
          obtain ⟨xs, h, r⟩ := s.ob i _ q
          have hl := r.length
          have hz : xs.length < sizeLine := by rw [← hl]; exact hk.2
          refine ⟨m i, xs, u, rfl, rfl, h, hz, ?_⟩
          obtain ⟨x1, s1⟩ := wrL s hi (es := es ++ [y]) (ys := xs ++ [u]) (by rw [List.length_append]; exact hz) (RpDs.append r ⟨u, [], rfl, okIn_rp hk.1 ru, rfl⟩)
          exact p .non m _ x1 s1 rfl
        · exact p.elim
      | dk _ => exact p.elim
      | ins _ _ => exact p.elim
      | flst _ => exact p.elim
  · exact p.elim
theorem a_clear {g : Gm} (K : PySem.W.Frag) (hK : K = g.K) : MtA g K "list" rClear fClear isL := by
  refine ⟨isL_ty hK, ?_⟩
  intro W m H G σ Q x ds v vs s rx rs p
  unfold fClear at p
  split at p
  · rename_i i
    obtain ⟨hi, rfl⟩ := rx
    cases rs
    cases q : G[i]? with
    | none => rw [q] at p; exact p.elim
    | some o =>
      rw [q] at p
      cases o with
      | lst es =>
        obtain ⟨xs, h, r⟩ := s.ob i _ q
        refine ⟨m i, xs, rfl, rfl, h, ?_⟩
        obtain ⟨x1, s1⟩ := wrL s hi (es := []) (ys := []) (Nat.zero_le _) rfl
        exact p .non m _ x1 s1 rfl
      | dk _ => exact p.elim
      | ins _ _ => exact p.elim
      | flst _ => exact p.elim
  · exact p.elim
section
variable {Z : Zc} {o e i : Expr} {do_ de di : De} {apos cpos pos p : Pos}
theorem pd_append (ho : PD Z o do_) (he : PD Z e de) (hbase : ∀ env, attributeBase o "append" env (eval o env) = eval o env := by intro _; rfl)
    (hline : (apos.endLine == cpos.line) = true := by rfl) (hs : ∀ env, starEach [e] env = (false, eval e env) :: starEach [] env := by intro _; rfl) : PD Z (.Call (.Attribute o "append" apos) [e] [] cpos) (dBm isL fApp do_ [de]) :=
  pd_bm (q := fun _ => rAppend) PySem.F.plainAttrs_list PySem.F.slot_list_append PySem.F.type_list_append (fun _ _ _ => mt_append) (fun X W ok => a_app _ ok.Kg) ho (pda_cons he pda_nil hs) hbase (fun env => by rw [hs]; rfl) hline hs (fun _ => rfl)
theorem pd_clear (ho : PD Z o do_) (hbase : ∀ env, attributeBase o "clear" env (eval o env) = eval o env := by intro _; rfl) (hline : (apos.endLine == cpos.line) = true := by rfl) : PD Z (.Call (.Attribute o "clear" apos) [] [] cpos) (dBm isL fClear do_ []) :=
  pd_bm0 (q := fun _ => rClear) PySem.F.plainAttrs_list PySem.F.slot_list_clear PySem.F.type_list_clear (fun _ _ _ => mt_clear) (fun X W ok => a_clear _ ok.Kg) ho hbase hline
end
/-! ### sep.join(xs) -/
def strsT : List D → Option (List Str)
  | [] => some []
  | .t (.str x) :: ds => match strsT ds with
    | some xs => some (x :: xs)
    | none => none
  | _ => none
def fJoin : D → List D → Hs → Re := fun x ds G => match x, ds with
  | .t (.str a), [y] => (match asS G y with
    | some es => (match strsT es with
      | some ys => if (ys.map (·.length)).sum + ys.length * a.length ≤ 16777216 then .ok (.t (.str (Txt.join a ys))) G else .stuck
      | none => .stuck)
    | none => .stuck)
  | _, _ => .stuck
theorem strs_rp {g : Gm} {m : Nat → Addr} {n b : Nat} {H : Hp} : ∀ {ds : List D} {ys : List Str} {vs : List V}, strsT ds = some ys → RpDs g m n b H ds vs → vs = ys.map V.str ∧ ∀ y ∈ ys, okS y
  | [], ys, vs, e, r => by cases e; exact ⟨r, by simp⟩
  | .t (.str k) :: ds, ys, vs, e, ⟨v, ws, e1, h, r⟩ => by
    unfold strsT at e
    split at e
    · rename_i bs' e2
      cases e
      obtain ⟨h1, h2⟩ := strs_rp e2 r
      refine ⟨by rw [e1, h1, show v = .str k from h.1]; rfl, ?_⟩
      intro y hy
      rcases List.mem_cons.mp hy with rfl | hy
      · exact h.2
      · exact h2 y hy
    · cases e
  | .t .non :: _, _, _, e, _ => by cases e
  | .t (.bl _) :: _, _, _, e, _ => by cases e
  | .t (.int _) :: _, _, _, e, _ => by cases e
  | .t (.tup _) :: _, _, _, e, _ => by cases e
  | .t (.ftp _) :: _, _, _, e, _ => by cases e
  | .t (.cls _) :: _, _, _, e, _ => by cases e
  | .t (.lst _) :: _, _, _, e, _ => by cases e
  | .t (.dk _ _) :: _, _, _, e, _ => by cases e
  | .t (.obj _ _ _) :: _, _, _, e, _ => by cases e
  | .loc _ :: _, _, _, e, _ => by cases e
theorem okS_mem {x : Str} : okS x ↔ ∀ c ∈ x.cps.toList, c < 0x110000 := by
  unfold okS PyData.strOk
  rw [Array.all_eq_true']
  constructor
  · intro h c hc
    exact of_decide_eq_true (h c (Array.mem_def.mpr hc))
  · intro h c hc
    exact decide_eq_true (h c (Array.mem_def.mp hc))
theorem okS_join {a : Str} (ha : okS a) {ys : List Str} (hy : ∀ y ∈ ys, okS y) : okS (Txt.join a ys) := by
  rw [okS_mem] at ha ⊢
  have hy' : ∀ y ∈ ys, ∀ c ∈ y.cps.toList, c < 0x110000 := fun y hm => okS_mem.mp (hy y hm)
  rw [TL.join_eq]
  have e : (Str.join a ys).cps.toList = TL.joinL (TL.tl a) (ys.map TL.tl) := TL.tl_join a ys
  rw [e]
  have gen : ∀ ps : List (List Nat), (∀ p ∈ ps, ∀ c ∈ p, c < 0x110000) → ∀ c ∈ TL.joinL (TL.tl a) ps, c < 0x110000 := by
    intro ps
    induction ps with
    | nil => intro _ c hc; simp [TL.joinL] at hc
    | cons p ps ih =>
      intro h c hc
      cases ps with
      | nil => exact h p (by simp) c (by simpa [TL.joinL] using hc)
      | cons q ps =>
        rw [TL.joinL] at hc
        rcases List.mem_append.mp hc with hc | hc
        · exact h p (by simp) c hc
        · rcases List.mem_append.mp hc with hc | hc
          · exact ha c hc
          · exact ih (fun p' hp' => h p' (List.mem_cons_of_mem _ hp')) c hc
  refine gen _ ?_
  intro p hp c hc
  obtain ⟨y, hm, rfl⟩ := List.mem_map.mp hp
  exact hy' y hm c hc
theorem a_join {g : Gm} (K : PySem.W.Frag) (hK : K = g.K) : MtA g K "str" (fun x xs H Q => ∃ a p, ∃ ys : List Str, x = .str a ∧ xs = [.ref p] ∧ (SqL K H p (ys.map V.str) ∨ SqT K H p (ys.map V.str)) ∧ (ys.map (·.length)).sum + ys.length * a.length ≤ 16777216 ∧ Q (.str (Txt.join a ys)) H) fJoin isS := by
  refine ⟨isS_ty, ?_⟩
  subst hK
  intro W m H G σ Q x ds v vs s rx rs p
  unfold fJoin at p
  split at p
  · rename_i a y
    obtain ⟨ex, ha⟩ := rx
    subst ex
    obtain ⟨u, rfl, ru⟩ := rpds1 rs
    split at p
    · rename_i es e1
      split at p
      · rename_i ys e2
        split at p
        · rename_i hz
          obtain ⟨q, xs, rfl, hq, r⟩ := asS_rp s ru e1
          obtain ⟨h1, h2⟩ := strs_rp e2 r
          rw [h1] at hq
          exact ⟨a, q, ys, rfl, rfl, hq, hz, PostE.ok s p ⟨rfl, okS_join ha h2⟩⟩
        · exact p.elim
      · exact p.elim
    · exact p.elim
  · exact p.elim
section
variable {Z : Zc} {o e i : Expr} {do_ de di : De} {apos cpos pos p : Pos}
theorem pd_join (ho : PD Z o do_) (he : PD Z e de) (hbase : ∀ env, attributeBase o "join" env (eval o env) = eval o env := by intro _; rfl)
    (hline : (apos.endLine == cpos.line) = true := by rfl) (hs : ∀ env, starEach [e] env = (false, eval e env) :: starEach [] env := by intro _; rfl) : PD Z (.Call (.Attribute o "join" apos) [e] [] cpos) (dBm isS fJoin do_ [de]) :=
  pd_bm (q := fun X => _) PySem.F.plainAttrs_str PySem.F.slot_str_join PySem.F.type_str_join (fun _ _ _ => mt_join) (fun X W ok => a_join _ ok.Kg) ho (pda_cons he pda_nil hs) hbase (fun env => by rw [hs]; rfl) hline hs (fun _ => rfl)
/-! ### xs[i] = e -/
def dSetL (o i e : De) : Dst := fun r G => (e r G).thn r fun y G1 => (o r G1).thn r fun x G2 => (i r G2).thn r fun z G3 => match x, z with
  | .loc j, .t (.int k) => (match G3[j]? with
    | some (.lst es) => (match ixN es.length k with
      | some n => if okIn j y = true then .nx r (G3.set j (.lst (es.set n y))) else .stuck
      | none => .stuck)
    | _ => .stuck)
  | _, _ => .stuck
theorem RpDs.set {g : Gm} {m : Nat → Addr} {n b : Nat} {H : Hp} {y : D} {u : V} (ru : RpD g m n b H y u) : ∀ {ds : List D} {vs : List V} (k : Nat), RpDs g m n b H ds vs → RpDs g m n b H (ds.set k y) (vs.set k u)
  | [], vs, k, r => by cases r; simp [RpDs]
  | d :: ds, vs, 0, ⟨v, ws, e, h, r⟩ => ⟨u, ws, by rw [e]; rfl, ru, r⟩
  | d :: ds, vs, k + 1, ⟨v, ws, e, h, r⟩ => ⟨v, ws.set k u, by rw [e]; rfl, h, RpDs.set ru k r⟩
theorem psd_setL {pos' : Pos} (ho : PD Z o do_) (hi : PD Z i di) (he : PD Z e de) (hs : ∀ env, swapsWithSole [.Subscript o i pos'] e pos.line env = pure false := by intro _; rfl) (hw : ∀ env, swappedStores [.Subscript o i pos'] e env = pure none := by intro _; rfl)
    (ha : ∀ (env : Env) (v : Value), assign (.Subscript o i pos') env v = (holding [v] (eval o env) >>= fun ov => holding [v, ov] (eval i env) >>= fun iv => standAt pos' >>= fun _ => holding [v, ov, iv] (setItem ov iv v) >>= fun _ => release [v, ov, iv] []) := by intro _ _; rfl) :
    PSD Z (.Assign [.Subscript o i pos'] e pos) (dSetL do_ di de) := fun X W ok => by
  refine psI (ps_asg (he X W ok) (pg_sub (ho X W ok) (hi X W ok) set_list (ha _)) (hs _) (hw _)) fun D σ H ⟨m, r, G, s, sl, p⟩ => ?_
  refine tS_bind s sl p fun y G1 u m1 H1 e1 x1 s1 sl1 ru p1 => ?_
  refine tS_bind s1 sl1 p1 fun x G2 v m2 H2 e2 x2 s2 sl2 rv p2 => ?_
  refine tS_bind s2 sl2 p2 fun z G3 t m3 H3 e3 x3 s3 sl3 rz p3 => ?_
  split at p3
  · rename_i j k
    have rv3 := RpD.ex x3 s2 x3.le (Nat.le_refl _) rv
    obtain ⟨hj, rfl⟩ := rv3
    cases rz
    cases q : G3[j]? with
    | none => rw [q] at p3; exact p3.elim
    | some ob =>
      rw [q] at p3
      cases ob with
      | lst es =>
        simp only at p3
        split at p3
        · rename_i n hn
          split at p3
          · rename_i hok
            obtain ⟨xs, hd, rs⟩ := s3.ob j _ q
            have hl := rs.length
            have ru3 := okIn_rp hok (RpD.ex x3 s2 x3.le (Nat.le_refl _) (RpD.ex x2 s1 x2.le (Nat.le_refl _) ru))
            refine ⟨m3 j, xs, k, n, rfl, rfl, hd, by rw [← hl]; exact hn, ?_⟩
            have hz : (xs.set n u).length ≤ sizeLine := by rw [List.length_set]; exact s3.sz _ _ hd
            obtain ⟨xw, sw⟩ := wrL s3 hj (es := es.set n y) hz (RpDs.set ru3 n rs)
            exact p3 σ m3 _ xw sw (Sl.ex xw s3 sl3)
          · exact p3.elim
        · exact p3.elim
      | dk _ => exact p3.elim
      | ins _ _ => exact p3.elim
      | flst _ => exact p3.elim
  · exact p3.elim
/-! ### a, b = e1, e2 -/
theorem psd_par {a b : Expr} {da db : De} {i j : Nat} {x y : Str} {px py pt : Pos} {kt k2 : Nat} {pt2 : Pos} (ha : PD Z a da) (hb : PD Z b db) (hi : Z.N[i]? = some x := by rfl) (hj : Z.N[j]? = some y := by rfl) (hij : i ≠ j := by decide)
    (hx : Z.sc.names.lookup x = some .local := by rfl) (hy : Z.sc.names.lookup y = some .local := by rfl)
    (he : ∀ env, starEach [a, b] env = (false, eval a env) :: starEach [b] env := by intro _; rfl) (he2 : ∀ env, starEach [b] env = (false, eval b env) :: starEach [] env := by intro _; rfl)
    (hw : ∀ env : Env, env.scope = Z.sc → swappedStores [.Tuple [.Name x px, .Name y py] kt pt] (.Tuple [a, b] k2 pt2) env = pure (some [x, y]) := by intro env h; cases env; cases h; rfl)
    (hs : ∀ env, swapsWithSole [.Tuple [.Name x px, .Name y py] kt pt] (.Tuple [a, b] k2 pt2) pos.line env = pure false := by intro _; rfl) :
    PSD Z (.Assign [.Tuple [.Name x px, .Name y py] kt pt] (.Tuple [a, b] k2 pt2) pos) (dPar i j da db) := fun X W ok => by
  refine psI (ps_par ok.calm ok.nd (by rw [ok.N]; exact hi) (by rw [ok.N]; exact hj) hij (by rw [ok.sc]; exact hx) (by rw [ok.sc]; exact hy) (pa_cons (ha X W ok) (pa_cons (hb X W ok) pa_nil (he2 _)) (he _)) (hw _ ok.sc) (hs _)) fun D σ H ⟨m, r, G, s, sl, p⟩ => ?_
  refine tS_bind s sl p fun u G1 v m1 H1 e1 x1 s1 sl1 ru p1 => ?_
  refine tS_bind s1 sl1 p1 fun z G2 t m2 H2 e2 x2 s2 sl2 rz p2 => ?_
  exact ⟨v, t, rfl, p2 _ m2 H2 Ex.refl s2 ((sl2.set (RpD.ex x2 s1 x2.le (Nat.le_refl _) ru)).set rz)⟩
end
end BL

set_option Elab.async false
set_option linter.all false
set_option maxRecDepth 100000
set_option maxHeartbeats 1000000
namespace BL
open PySem L2

/-! ### kinds of values; isinstance -/
inductive Kd where
  | non | bl | int | str | tup | lst | dk | obj (c : Nat)
def kind (G : Hs) : D → Option Kd
  | .t .non => some .non
  | .t (.bl _) => some .bl
  | .t (.int _) => some .int
  | .t (.str _) => some .str
  | .t (.tup _) => some .tup
  | .t (.lst _) => some .lst
  | .t (.dk _ _) => some .dk
  | .t (.obj c _ _) => some (.obj c)
  | .t (.ftp _) => some .tup
  | .t (.cls _) => none
  | .loc i => match G[i]? with
    | some (.lst _) => some .lst
    | some (.flst _) => some .lst
    | some (.dk _) => some .dk
    | some (.ins c _) => some (.obj c)
    | none => none
/-- what must be known of a class, to ask what its objects are -/
structure InsF (K : PySem.W.Frag) (C : Addr) : Prop where
  cl : Cls K C
  ha : PySem.W.findIn K (.ref C) "__class__" = some (some (.builtin "object.__class__"))
  hn : PySem.W.specialIn K (.builtin "object.__class__") "__get__" = some (some (.builtin "getset_descriptor.__get__"))
  htk : PySem.W.takesIn K (.builtin "object.__class__") = some true
  hm : PySem.W.mroIn K C (.type "object") = some true
def kdV (g : Gm) : Kd → Value
  | .non => .type "NoneType" | .bl => .type "bool" | .int => .type "int" | .str => .type "str" | .tup => .type "tuple" | .lst => .type "list" | .dk => .type "dict"
  | .obj c => .ref (g.ca c)
def kdOk (g : Gm) : Kd → Prop
  | .obj c => InsF g.K (g.ca c)
  | _ => True
theorem kind_ty {g : Gm} {m : Nat → Addr} {H : Hp} {G : Hs} (s : SR g m H G) {x : D} {v : V} {k : Kd} (r : RpD g m G.length G.length H x v) (e : kind G x = some k) (hk : kdOk g k) : TyX g.K H v (kdV g k) := by
  cases x with
  | t t =>
    cases t with
    | non => cases e; cases r; exact .base .non
    | bl b => cases e; cases r; exact .base (.bl b)
    | int i => cases e; cases r; exact .base (.int i)
    | str z => cases e; obtain ⟨r, _⟩ := r; subst r; exact .base (.str z)
    | tup ts =>
      cases e
      obtain ⟨a, xs, rfl, h, _⟩ := r
      rcases h with (h | ⟨ob, h⟩) | ⟨o, its, n, h1, h2, _⟩
      · exact .base (.tup h)
      · exact .fTuple h
      · exact .kTuple h1 h2
    | lst ts =>
      cases e
      obtain ⟨a, xs, rfl, h, _⟩ := r
      rcases h with ⟨h | ⟨ob, h⟩, _⟩ | ⟨o, its, n, h1, h2, _⟩
      · exact .base (.lst h)
      · exact .base (.frz h)
      · exact .kList h1 h2
    | dk ks ts => cases e; obtain ⟨a, xs, rfl, h, _⟩ := r; exact .base (.dK h)
    | obj c ns ts => cases e; obtain ⟨a, dx, xs, rfl, h, _⟩ := r; exact .base (.ins h hk.cl hk.ha hk.hn hk.htk hk.hm)
    | ftp ts => cases e; obtain ⟨a, ob, xs, rfl, h, _⟩ := r; exact .fTuple h
    | cls c => cases e
  | loc i =>
    obtain ⟨hi, rfl⟩ := r
    cases q : G[i]? with
    | none => simp [kind, q] at e
    | some o =>
      have ob := s.ob i _ q
      cases o with
      | lst ds => simp [kind, q] at e; subst e; obtain ⟨xs, h, _⟩ := ob; exact .base (.lst h)
      | flst ts => simp [kind, q] at e; subst e; obtain ⟨o', xs, h, _⟩ := ob; exact .base (.frz h)
      | dk kvs => simp [kind, q] at e; subst e; obtain ⟨xs, h, _⟩ := ob; exact .base (.dK h)
      | ins c fs => simp [kind, q] at e; subst e; obtain ⟨dx, xs, h, _⟩ := ob; exact .base (.ins h hk.cl hk.ha hk.hn hk.htk hk.hm)
/-- the test of a kind -/
def fIsi (t : Kd → Option Bool) : D → Hs → Re := fun x G => match kind G x with
  | some k => (match t k with
    | some b => .ok (.t (.bl b)) G
    | none => .stuck)
  | none => .stuck
/-- the answers are those of the class u -/
def IsiOk (g : Gm) (u : Value) (t : Kd → Option Bool) : Prop := ∀ k b, t k = some b → kdOk g k ∧ PySem.W.kitOne g.K (kdV g k) u = some b
def isInt : Kd → Option Bool
  | .int => some true | .bl => some true | .obj _ => none | _ => some false
def isBool : Kd → Option Bool
  | .bl => some true | .obj _ => none | _ => some false
def isStr : Kd → Option Bool
  | .str => some true | .obj _ => none | _ => some false
def isTup : Kd → Option Bool
  | .tup => some true | .obj _ => none | _ => some false
def isLst : Kd → Option Bool
  | .lst => some true | .obj _ => none | _ => some false
def isRow : Kd → Option Bool
  | .lst => some true | .tup => some true | .obj _ => none | _ => some false
/-- an own class; the classes os are others -/
def isOwn (c : Nat) (os : List Nat) : Kd → Option Bool
  | .obj c' => if c' = c then some true else if os.contains c' = true then some false else none
  | _ => some false
theorem isi_int {g : Gm} : IsiOk g (.type "int") isInt := by
  intro k b e
  cases k <;> first | (cases e; exact ⟨trivial, kit_ty (by decide +kernel)⟩) | cases e
theorem isi_bool {g : Gm} : IsiOk g (.type "bool") isBool := by
  intro k b e
  cases k <;> first | (cases e; exact ⟨trivial, kit_ty (by decide +kernel)⟩) | cases e
theorem isi_str {g : Gm} : IsiOk g (.type "str") isStr := by
  intro k b e
  cases k <;> first | (cases e; exact ⟨trivial, kit_ty (by decide +kernel)⟩) | cases e
theorem isi_tup {g : Gm} : IsiOk g (.type "tuple") isTup := by
  intro k b e
  cases k <;> first | (cases e; exact ⟨trivial, kit_ty (by decide +kernel)⟩) | cases e
theorem isi_lst {g : Gm} : IsiOk g (.type "list") isLst := by
  intro k b e
  cases k <;> first | (cases e; exact ⟨trivial, kit_ty (by decide +kernel)⟩) | cases e
section
variable {Z : Zc} {e : Expr} {d : De} {x n : Str} {p p2 pos : Pos} {t : Kd → Option Bool}
theorem isi_of {W : WX} {u : Value} {c : V} {q : VK} (hu : ClsV c u) (ht : IsiOk Z.g u t) {σ : St} {H : Hp} {Q : VK} (h : tI Z.g W (dUn (fIsi t) d) σ H Q) : tCons (tI Z.g W d) (tCons (tC c) tNil) σ H fun vs H1 => rIsi Z.K vs H1 Q := by
  obtain ⟨m, r, G, s, sl, p⟩ := h
  refine tI_bind s sl p fun y G1 v m1 H1 e1 x1 s1 sl1 rv p1 => ?_
  unfold fIsi at p1
  split at p1
  · rename_i k ek
    split at p1
    · rename_i b eb
      obtain ⟨h1, h2⟩ := ht k b eb
      exact ⟨v, c, _, u, b, rfl, hu, kind_ty s1 rv ek h1, h2, PostE.ok s1 p1 rfl⟩
    · exact p1.elim
  · exact p1.elim
theorem pd_isiB {tn : String} (hm : Z.mg "isinstance" = none) (hmn : Z.mg n = none) (hv : bootBuiltins n = some (.type tn)) (ht : IsiOk Z.g (.type tn) t) (h : PD Z e d) (hg : GlS Z "isinstance" := by rfl) (hgn : GlS Z n := by rfl) (hn : n ≠ "__name__" := by decide) (hdb : (n == ("__debug__" : Str)) = false := by decide)
    (he : ∀ env, starEach [e, .Name n p2] env = (false, eval e env) :: starEach [.Name n p2] env := by intro _; rfl) (hpl : ∀ env, (backTo pos (starEach [.Name n p2] env)).any (·.1) = false := by intro _; rfl) :
    PD Z (.Call (.Name "isinstance" p) [e, .Name n p2] [] pos) (dUn (fIsi t) d) := fun X W ok => by
  refine peI (pe_callB call_isi (show X.env.scope.names.lookup _ = _ by rw [ok.sc]; exact hg) (by rw [ok.mg]; exact hm) (by decide +kernel) (pa_cons (h X W ok) (pa_cons (pe_bltn (v := .ty tn) (show X.env.scope.names.lookup _ = _ by rw [ok.sc]; exact hgn) (by rw [ok.mg]; exact hmn) hv rfl hn hdb) pa_nil) (he _)) (by decide) (by decide) (he _) (hpl _)) fun σ H Q h => ?_
  rw [show X.K = Z.K from ok.K]
  exact isi_of (q := Q) (.ty tn) ht h
theorem pd_isiC {c : Nat} (hm : Z.mg "isinstance" = none) (hmn : Z.mg n = some (.ref (Z.ca c))) (ht : IsiOk Z.g (.ref (Z.ca c)) t) (h : PD Z e d) (hg : GlS Z "isinstance" := by rfl) (hgn : GlS Z n := by rfl) (hdb : (n == ("__debug__" : Str)) = false := by decide)
    (he : ∀ env, starEach [e, .Name n p2] env = (false, eval e env) :: starEach [.Name n p2] env := by intro _; rfl) (hpl : ∀ env, (backTo pos (starEach [.Name n p2] env)).any (·.1) = false := by intro _; rfl) :
    PD Z (.Call (.Name "isinstance" p) [e, .Name n p2] [] pos) (dUn (fIsi t) d) := fun X W ok => by
  refine peI (pe_callB call_isi (show X.env.scope.names.lookup _ = _ by rw [ok.sc]; exact hg) (by rw [ok.mg]; exact hm) (by decide +kernel) (pa_cons (h X W ok) (pa_cons (pe_glob (v := .ref (Z.ca c)) (show X.env.scope.names.lookup _ = _ by rw [ok.sc]; exact hgn) (by rw [ok.mg]; exact hmn) rfl hdb) pa_nil) (he _)) (by decide) (by decide) (he _) (hpl _)) fun σ H Q h => ?_
  rw [show X.K = Z.K from ok.K]
  exact isi_of (q := Q) (.own _) ht h
end
end BL

set_option Elab.async false
set_option linter.all false
set_option maxRecDepth 100000
set_option maxHeartbeats 1000000
namespace BL
open PySem L2

/-! ### == and != of objects by their class's own __eq__ -/
section
variable {prog : Program} {w : World} {A : Around} {E : Value → Shared → Prop} {s : Shared} {K : PySem.W.Frag} {x C f : Addr} {ox : Obj} {od : Option Obj} {b tb : Value}
open PySem.W in
theorem special_bi {M : Model} {name : Str} {id : String} {args : List Value} {Q : Option Value → Shared → Prop} (X : K.In s.heap) (I : InstAt s.heap x ox C od) (hs : findIn K (.ref C) name = some (some (.builtin id))) (hb : ∀ v, bindSpecial (.builtin id) v = pure (.builtin id, [v]))
    (h : wpAny M A (call (.builtin id) (.ref x :: args)) (fun v => Q (some v)) E s) : wpAny M A (callSpecialIfBound? (.ref x) name args) Q E s := by
  simp only [callSpecialIfBound?, bindSpecialIfBound?]
  refine wpAny_holding (wpAny_bind (wpAny_bind (wpAny_bind (I.type.here ((looks_findIn X hs).here ?_)))))
  simp only [hb]
  refine wpAny_bind (wpAny_askSetting (wpAny_ite ?_))
  have last : wpAny M A (call (.builtin id) ([.ref x] ++ args) >>= fun v => pure (some v)) Q E s := wpAny_bind (wpAny_mono h (fun v s' q => wpAny_pure q) fun _ _ q => q)
  split
  · exact wpAny_bind (wpAny_pure (wpAny_pure last))
  · exact wpAny_tryCatch (wpAny_bind (wpAny_pure (wpAny_pure last)))
open PySem.W in
/-- x != b, by __eq__ turned round -/
theorem ne_inst {Q : Value → Shared → Prop} (hu : A.units + 1 < cLine) (X : K.In s.heap) (I : InstAt s.heap x ox C od) (hb : Looks (model prog w) s.heap (typeOf b) tb) (hn : notFirst K C tb = true)
    (hne : findIn K (.ref C) "__ne__" = some (some (.builtin "object.__ne__"))) (hs : findIn K (.ref C) "__eq__" = some (some (.ref f))) (hf : isFn K (.ref f) = true) (hm : mroIn K C (.type "object") = some true)
    (h : wpAny (model prog w) A.in1 (call (.ref f) [.ref x, b]) (fun v s' => ∃ r, v = .bool r ∧ Q (.bool (!r)) s') E s) : wpAny (model prog w) A (richCompare .NotEq (.ref x) b) Q E s := by
  have one : wpAny (model prog w) A (tryCompare (.ref x) (cmpInfo .NotEq).2.1 b) (fun r s' => ∃ v, r = some v ∧ Q v s') E s := by
    unfold tryCompare
    refine wpAny_bind (special_bi X I hne F.cmp_object.ne.bind (wpAny_call (codeAny_call_builtin F.cmp_object.ne.plain F.cmpEntry_ne (PySem.W.check_slot F.cmpKind_ne F.cmpSplit_ne (I.type.andThen (looks_mroIn X hm)) (F.cmpArgs_ne _ _) ?_))))
    unfold Builtin.«object.__ne__»
    refine wpAny_bind (m := slotArgs "__ne__" 1 _) (wpAny_pure ?_)
    refine wpAny_bind (wpAny_cRoomFor hu ?_)
    refine wpAny_bind (ifBound_K X I hs hf (wpAny_mono h (fun v s' hv => ?_) fun _ _ e => e))
    obtain ⟨r, rfl, q⟩ := hv
    refine wpAny_bind (m := truthy (.bool r)) (wpAny_truthy_bool (wpAny_pure ?_))
    exact wpAny_pure ⟨_, rfl, q⟩
  unfold richCompare
  simp only [oneThing_ref]
  refine wpAny_holding (wpAny_bind (wpAny_cRoomFor (Nat.lt_of_succ_lt hu) ?_))
  refine wpAny_bind (I.type.here (wpAny_bind (hb.here ?_)))
  split
  · rename_i q
    have e : subIn K tb (.ref C) = some false := by
      rcases Bool.or_eq_true_iff.mp hn with e | e
      · rw [beq_iff_eq.mp e] at q; simp at q
      · exact beq_iff_eq.mp e
    refine wpAny_bind ((looks_subIn X e).here ?_)
    simp only [Bool.false_eq_true, if_false]
    refine wpAny_bind (wpAny_mono one (fun r s' z => ?_) fun _ _ e => e)
    obtain ⟨v, rfl, hq⟩ := z
    exact wpAny_pure hq
  · refine wpAny_bind (wpAny_pure ?_)
    simp only [Bool.false_eq_true, if_false]
    refine wpAny_bind (wpAny_mono one (fun r s' z => ?_) fun _ _ e => e)
    obtain ⟨v, rfl, hq⟩ := z
    exact wpAny_pure hq
end
/-- x == y, x != y: x an object of the class at C -/
def rEqO (K : PySem.W.Frag) (C : Addr) (neg : Bool) (sp : Sp) : R2 := fun x y H Q => ∃ a dx fs t, x = .ref a ∧ H a = some (.ins C dx fs) ∧ TyX K H y t ∧ PySem.W.notFirst K C t = true ∧ sp [x, y] H (fun v H' => ∃ b, v = .bl b ∧ Q (.bl (if neg then !b else b)) H') E0
section
variable {X : Cx} {k : Nat} {f C : Addr} {fd : FuncData} {ps : List Str} {sp : Sp}
theorem run_eq {A : Around} {pins : List (Addr × Obj)} {σ : St} {H : Hp} {s : Shared} {a : Addr} {y : V} {u : Value} {R : V → Hp → Prop} {Q' : Value → Shared → Prop} (F : FnOk X.prog X.w X.K X.mg X.base (L2.CX X.prog X.w) k f fd ps sp) (hr : Room k A) (hfr : A.frames = X.A.frames) (hb : Binds X.K fd ps []) (I : Inv X pins σ H s) (ry : RelV y u)
    (h : sp [.ref a, y] H R E0) (hQ : ∀ v' v H' s', Inv X pins σ H' s' → RelV v v' → R v H' → Q' v' s') : wpAny (model X.prog X.w) A (call (.ref f) [.ref a, u]) Q' X.xe s := by
  have e0 : Env0 X.prog X.w X.K X.mg X.base A X.stack s H := by
    have e := I.env0
    exact ⟨by rw [hfr]; exact e.frames, e.mod, e.bs, e.bsz, e.funs, e.frf, e.hok, e.bare⟩
  have hl := F.len _ _ _ _ h
  have r2 : Vals [V.ref a, y] [Value.ref a, u] := .cons rfl (.cons ry .nil)
  refine wpAny_call (codeAny_mono (F.run A X.stack s H ⟨[.ref a, u], []⟩ [.ref a, u] [.ref a, y] R E0 hr e0 (by
    have := hb s [.ref a, u] I.kIn (by simpa using hl)
    simpa using this) r2 h) fun r s' hq => ?_)
  cases r with
  | error e => exact passL pins σ H s e s' I hq
  | ok fl =>
    cases fl with
    | ret v' =>
      obtain ⟨v, H', I', rv, q⟩ := I.after hq
      exact hQ v' v H' s' I' rv q
    | next => exact hq.elim
    | brk => exact hq.elim
    | cont => exact hq.elim
theorem op_eqO (F : FnOk X.prog X.w X.K X.mg X.base (L2.CX X.prog X.w) k f fd ps sp) (hr : Room k X.A) (hb : Binds X.K fd ps []) (hs : PySem.W.findIn X.K (.ref C) "__eq__" = some (some (.ref f))) (hf : PySem.W.isFn X.K (.ref f) = true) : OpR X (compareOp .Eq) (rEqO X.K C false sp) := by
  intro pins s σ H x y v u Q I rx ry h
  obtain ⟨a, dx, fs, t, rfl, ha, ty, hn, h⟩ := h
  cases rx
  obtain ⟨mA, J, _⟩ := ins_get I.hok ha
  obtain ⟨od, J, _⟩ := J.look
  obtain ⟨P, KX, hP, _⟩ := kit_of I ry ty
  obtain ⟨m, hF⟩ := I.fr
  refine PySem.W.cmp_K (op := .Eq) (tb := t) hr.units0 hF I.ok.mod.kin J (KX.ty _ _ I.kIn hP) hn hs hf ?_
  refine run_eq F hr rfl hb I ry h fun v' v H' s' I' rv ⟨b, eb, q⟩ => ?_
  subst eb
  cases rv
  exact ⟨.bl b, H', I', rfl, q⟩
theorem op_neO (F : FnOk X.prog X.w X.K X.mg X.base (L2.CX X.prog X.w) k f fd ps sp) (hr : Room (k + 1) X.A) (hb : Binds X.K fd ps []) (hs : PySem.W.findIn X.K (.ref C) "__eq__" = some (some (.ref f))) (hf : PySem.W.isFn X.K (.ref f) = true)
    (hne : PySem.W.findIn X.K (.ref C) "__ne__" = some (some (.builtin "object.__ne__"))) (hm : PySem.W.mroIn X.K C (.type "object") = some true) : OpR X (compareOp .NotEq) (rEqO X.K C true sp) := by
  intro pins s σ H x y v u Q I rx ry h
  obtain ⟨a, dx, fs, t, rfl, ha, ty, hn, h⟩ := h
  cases rx
  obtain ⟨mA, J, _⟩ := ins_get I.hok ha
  obtain ⟨od, J, _⟩ := J.look
  obtain ⟨P, KX, hP, _⟩ := kit_of I ry ty
  refine ne_inst (b := u) (tb := t) (hu_of hr) I.kIn J (KX.ty _ _ I.kIn hP) hn hne hs hf hm ?_
  refine run_eq F hr.in1 rfl hb I ry h fun v' v H' s' I' rv ⟨b, eb, q⟩ => ?_
  subst eb
  cases rv
  exact ⟨b, rfl, .bl (!b), H', I', rfl, q⟩
end
/-- what must be known of a class with an own __eq__ -/
structure EqF (K : PySem.W.Frag) (C f : Addr) : Prop where
  hs : PySem.W.findIn K (.ref C) "__eq__" = some (some (.ref f))
  hf : PySem.W.isFn K (.ref f) = true
  hne : PySem.W.findIn K (.ref C) "__ne__" = some (some (.builtin "object.__ne__"))
  hm : PySem.W.mroIn K C (.type "object") = some true
/-- the other one's kinds: none of them is a class below -/
def okKd (c : Nat) (oth : List Nat) : Option Kd → Bool
  | some (.obj c') => decide (c' = c) || oth.contains c'
  | some _ => true
  | none => false
def flipB (neg : Bool) : Re → Re
  | .ok (.t (.bl b)) G' => .ok (.t (.bl (if neg then !b else b))) G'
  | _ => .stuck
def fEqO (c : Nat) (oth : List Nat) (neg : Bool) (F : Fd) : D → D → Hs → Re := fun x y G => if (isObj' c G x && okKd c oth (kind G y)) = true then flipB neg (F [x, y] G) else .stuck
theorem notFirst_ty {K : PySem.W.Frag} {C : Addr} {n : String} (h : (fastBuiltinMro n).map (fun l => l.all fun v => match v with | .type _ => true | _ => false) = some true) : PySem.W.notFirst K C (.type n) = true := by
  unfold PySem.W.notFirst
  have : PySem.W.subIn K (.type n) (.ref C) = some false := by
    show (fastBuiltinMro n).map (·.contains (.ref C)) = some false
    cases q : fastBuiltinMro n with
    | none => rw [q] at h; cases h
    | some l =>
      rw [q] at h
      have h1 : (l.all fun v => match v with | .type _ => true | _ => false) = true := Option.some.inj h
      show some (l.contains (.ref C)) = some false
      congr 1
      rw [List.all_eq_true] at h1
      rw [Bool.eq_false_iff]
      intro hc
      have := h1 (.ref C) (by simpa using hc)
      simp at this
  rw [this]; simp
section
variable {Z : Zc} {a b : Expr} {da db : De} {c k : Nat} {oth : List Nat} {f : Addr} {fd : FuncData} {ps : List Str} {F : Fd} {pos : Pos}
theorem a_eqO {neg : Bool} (hi : ∀ c', c' = c ∨ c' ∈ oth → InsF Z.K (Z.ca c')) (ho : ∀ c', c' ∈ oth → PySem.W.notFirst Z.K (Z.ca c) (.ref (Z.ca c')) = true) (hn : 2 = ps.length) : OpA Z.g (rEqO Z.K (Z.ca c) neg (spD Z.g ps.length F)) (fEqO c oth neg F) := by
  intro W m H G σ Q x y v u s rx ry p
  unfold fEqO at p
  split at p
  · rename_i hxk
    obtain ⟨hx, hk⟩ := Bool.and_eq_true_iff.mp hxk
    cases ek : kind G y with
    | none => rw [ek] at hk; cases hk
    | some kd =>
    rw [ek] at hk
    have hko : kdOk Z.g kd := by
      cases kd with
      | obj c' =>
        simp only [okKd, Bool.or_eq_true, decide_eq_true_eq] at hk
        exact hi c' (hk.imp id (by simp))
      | _ => trivial
    have ty := kind_ty s ry ek hko
    obtain ⟨A0, dx, fs, rfl, h1⟩ : ∃ a dx fs, v = .ref a ∧ H a = some (.ins (Z.ca c) dx fs) := by
      cases x with
      | t t =>
        cases t with
        | obj c' ns ts =>
          simp only [isObj', decide_eq_true_eq] at hx
          subst hx
          obtain ⟨a, dx, xs, rfl, h, _⟩ := rx
          exact ⟨a, dx, _, rfl, h⟩
        | _ => cases hx
      | loc i =>
        obtain ⟨hi', rfl⟩ := rx
        cases q : G[i]? with
        | none => simp [isObj', q] at hx
        | some o =>
          cases o with
          | ins c' fs =>
            simp [isObj', q] at hx
            subst hx
            obtain ⟨dx, xs, h, r⟩ := s.ob i _ q
            exact ⟨_, dx, _, rfl, h⟩
          | lst _ => simp [isObj', q] at hx
          | dk _ => simp [isObj', q] at hx
          | flst _ => simp [isObj', q] at hx
    refine ⟨A0, dx, fs, kdV Z.g kd, rfl, h1, ty, ?_, ?_⟩
    · cases kd with
      | obj c' =>
        simp only [okKd, Bool.or_eq_true, decide_eq_true_eq] at hk
        rcases hk with rfl | hk
        · unfold PySem.W.notFirst; simp [kdV]; exact .inl rfl
        · exact ho c' (by simpa using hk)
      | _ => exact notFirst_ty (by decide +kernel)
    · refine ⟨hn, Z.g.rv, m, G, [x, y], s, ⟨_, _, rfl, rx, _, _, rfl, ry, rfl⟩, ?_⟩
      cases e : F [x, y] G with
      | stuck => rw [e] at p; exact p.elim
      | exc _ _ _ _ => rw [e] at p; exact p.elim
      | ok d G' =>
        rw [e] at p
        intro v' m' H' x' s' rv'
        have : ∃ b, d = .t (.bl b) := by
          cases d with
          | t t => cases t <;> first | exact ⟨_, rfl⟩ | exact p.elim
          | loc i => exact p.elim
        obtain ⟨b, rfl⟩ := this
        exact ⟨b, rv', p _ m' H' x' s' rfl⟩
  · exact p.elim
theorem flipB_ok {neg : Bool} {r : Re} {d : D} {G' : Hs} (e : flipB neg r = .ok d G') : ∃ b, d = .t (.bl b) := by
  unfold flipB at e
  split at e
  · cases e; exact ⟨_, rfl⟩
  · cases e
theorem isB_eqO {neg : Bool} : IsB (fEqO c oth neg F) := by
  intro x y G d G' e
  unfold fEqO at e
  split at e
  · exact flipB_ok e
  · cases e
theorem opO {X : Cx} {W : WX} (ok : Ok Z X W) (h : FnD Z.toZb k f fd ps F) (hk : k + 1 ≤ Z.k) (hb : Binds Z.K fd ps []) (hE : EqF Z.K (Z.ca c) f) :
    OpR X (compareOp .Eq) (rEqO Z.K (Z.ca c) false (spD Z.g ps.length F)) ∧ OpR X (compareOp .NotEq) (rEqO Z.K (Z.ca c) true (spD Z.g ps.length F)) := by
  have hF : FnOk X.prog X.w X.K X.mg X.base (L2.CX X.prog X.w) k f fd ps (spD Z.g ps.length F) := by rw [ok.P, ok.w, ok.K, ok.mg, ok.base]; exact h.ok
  have hB : Binds X.K fd ps [] := by rw [ok.K]; exact hb
  have r1 : Room (k + 1) X.A := ok.rm.mono hk
  constructor
  · have := op_eqO (C := Z.ca c) hF (r1.mono (Nat.le_succ _)) hB (by rw [ok.K]; exact hE.hs) (by rw [ok.K]; exact hE.hf)
    rw [ok.K] at this; exact this
  · have := op_neO (C := Z.ca c) hF r1 hB (by rw [ok.K]; exact hE.hs) (by rw [ok.K]; exact hE.hf) (by rw [ok.K]; exact hE.hne) (by rw [ok.K]; exact hE.hm)
    rw [ok.K] at this; exact this
theorem pd_eqO (h : FnD Z.toZb k f fd ps F) (hk : k + 1 ≤ Z.k) (hb : Binds Z.K fd ps []) (hE : EqF Z.K (Z.ca c) f) (hi : ∀ c', c' = c ∨ c' ∈ oth → InsF Z.K (Z.ca c')) (ho : ∀ c', c' ∈ oth → PySem.W.notFirst Z.K (Z.ca c) (.ref (Z.ca c')) = true) (hn : 2 = ps.length) (ha : PD Z a da) (hb' : PD Z b db) :
    PD Z (.Compare a [.Eq] [b] pos) (dBin (fEqO c oth false F) da db) := pd_cmp (fun _ => _) (fun X W ok => (opO ok h hk hb hE).1) (fun _ _ _ => a_eqO hi ho hn) ha hb' (nomark _)
theorem pdt_eqO (h : FnD Z.toZb k f fd ps F) (hk : k + 1 ≤ Z.k) (hb : Binds Z.K fd ps []) (hE : EqF Z.K (Z.ca c) f) (hi : ∀ c', c' = c ∨ c' ∈ oth → InsF Z.K (Z.ca c')) (ho : ∀ c', c' ∈ oth → PySem.W.notFirst Z.K (Z.ca c) (.ref (Z.ca c')) = true) (hn : 2 = ps.length) (ha : PD Z a da) (hb' : PD Z b db) :
    PDT Z (.Compare a [.Eq] [b] pos) (dBin (fEqO c oth false F) da db) := pdt_cmp (fun _ => _) (fun X W ok => (opO ok h hk hb hE).1) (fun _ _ _ => a_eqO hi ho hn) isB_eqO ha hb' (nomark _)
theorem pd_neO (h : FnD Z.toZb k f fd ps F) (hk : k + 1 ≤ Z.k) (hb : Binds Z.K fd ps []) (hE : EqF Z.K (Z.ca c) f) (hi : ∀ c', c' = c ∨ c' ∈ oth → InsF Z.K (Z.ca c')) (ho : ∀ c', c' ∈ oth → PySem.W.notFirst Z.K (Z.ca c) (.ref (Z.ca c')) = true) (hn : 2 = ps.length) (ha : PD Z a da) (hb' : PD Z b db) :
    PD Z (.Compare a [.NotEq] [b] pos) (dBin (fEqO c oth true F) da db) := pd_cmp (fun _ => _) (fun X W ok => (opO ok h hk hb hE).2) (fun _ _ _ => a_eqO hi ho hn) ha hb' (nomark _)
theorem pdt_neO (h : FnD Z.toZb k f fd ps F) (hk : k + 1 ≤ Z.k) (hb : Binds Z.K fd ps []) (hE : EqF Z.K (Z.ca c) f) (hi : ∀ c', c' = c ∨ c' ∈ oth → InsF Z.K (Z.ca c')) (ho : ∀ c', c' ∈ oth → PySem.W.notFirst Z.K (Z.ca c) (.ref (Z.ca c')) = true) (hn : 2 = ps.length) (ha : PD Z a da) (hb' : PD Z b db) :
    PDT Z (.Compare a [.NotEq] [b] pos) (dBin (fEqO c oth true F) da db) := pdt_cmp (fun _ => _) (fun X W ok => (opO ok h hk hb hE).2) (fun _ _ _ => a_eqO hi ho hn) isB_eqO ha hb' (nomark _)
end
end BL

set_option Elab.async false
set_option linter.all false
set_option maxRecDepth 100000
set_option maxHeartbeats 1000000
namespace BL
open PySem L2

/-! ### enumerate of a tuple -/
theorem enum_newT (t : Addr) (vs : Array Value) :
    Meets (Builtin.«enumerate.__new__» ⟨[.type "enumerate", .ref t], []⟩) (fun _ R s => s.heap.IsTuple t vs ∧
      R (.ok (.ret (.ref (s.heap.push { cls := .type "tuple_iterator", data := .fields #[.ref t, .int 0 0] }).objs.size)))
        { s with heap := (s.heap.push { cls := .type "tuple_iterator", data := .fields #[.ref t, .int 0 0] }).push { cls := .type "enumerate", data := .fields #[.none, .bool false, .ref s.heap.objs.size, rawInt 0, .none, .none] } }) :=
  .of_wp fun prog w A R s h => by
    obtain ⟨hp, g, d, tk, os⟩ := s
    obtain ⟨h1, h⟩ := h
    have hsub := sub_enumerate
    have B := begins_tuple t vs
    have q1 : ∀ {A' : Around} {E : Value → Shared → Prop} {Q : Value → Shared → Prop}, Q (.ref hp.objs.size) ⟨hp.push { cls := .type "tuple_iterator", data := .fields #[.ref t, .int 0 0] }, g, d, tk, os⟩ → wpAny (model prog w) A' (pyIter (.ref t)) Q E ⟨hp, g, d, tk, os⟩ :=
      fun q => B.iter prog w _ _ ⟨hp, g, d, tk, os⟩ _ h1 q
    wp_walk using q1
    refine wpAny_stack_any fun st => wpAny_pure ?_
    split
    · rename_i c _ _ _ _ _
      cases (c == Value.type "enumerate")
      · wp_walk using q1
        exact ⟨_, rfl, h⟩
      · wp_walk using q1
        exact ⟨_, rfl, h⟩
    · wp_walk using q1
      exact ⟨_, rfl, h⟩
section
variable {prog : Program} {w : World} {A : Around} {E : Value → Shared → Prop} {s : Shared}
theorem call_enumT {t : Addr} {vs : Array Value} {Q : Value → Shared → Prop} (hT : s.heap.IsTuple t vs)
    (h : ∀ h', IsEnum h' (s.heap.objs.size + 1) s.heap.objs.size 0 .none → h'.IsTupleIter s.heap.objs.size t 0 →
      (∀ b o, s.heap.get? b = some o → h'.get? b = some o) → Q (.ref (s.heap.objs.size + 1)) { s with heap := h' }) :
    wpAny (model prog w) A (call (.type "enumerate") [.ref t]) Q E s := by
  refine callType_new F.called_enumerate (by decide) (F.typeCall_enumerate_1 _) (F.newCall_enumerate_1 _) (fun obj => F.args_object_init_2 obj _) F.entry_enumerate_new
    (enum_newT t vs) ⟨hT, ?_⟩
  have hz : (s.heap.push { cls := .type "tuple_iterator", data := .fields #[.ref t, .int 0 0] }).objs.size = s.heap.objs.size + 1 := Heap.size_push ..
  show _ ∧ _
  rw [hz]
  have he : IsEnum ((s.heap.push { cls := .type "tuple_iterator", data := .fields #[.ref t, .int 0 0] }).push
      { cls := .type "enumerate", data := .fields #[.none, .bool false, .ref s.heap.objs.size, rawInt 0, .none, .none] }) (s.heap.objs.size + 1) s.heap.objs.size 0 .none := by
    have := Heap.get?_push_size (s.heap.push { cls := .type "tuple_iterator", data := .fields #[.ref t, .int 0 0] })
      (o := { cls := .type "enumerate", data := .fields #[.none, .bool false, .ref s.heap.objs.size, rawInt 0, .none, .none] }) rfl
    rw [hz] at this; exact this
  exact ⟨⟨_, he, rfl⟩, h _ he ⟨_, Heap.get?_push_of_some _ (Heap.get?_push_size _ rfl), rfl, rfl⟩ fun b o x => Heap.get?_push_of_some _ (Heap.get?_push_of_some _ x)⟩
theorem next_enumT_end {e it t : Addr} {vs : Array Value} {i : Nat} {j : Int} {old : Value} {Q : Option Value → Shared → Prop} (hh : A.handled = none) (he : IsEnum s.heap e it j old) (hit : s.heap.IsTupleIter it t i) (hT : s.heap.IsTuple t vs) (hx : vs.size ≤ i)
    (hQ : ∀ h', Heap.ExtBut it s.heap h' → Q none { s with heap := h' }) : wpAny (model prog w) A (pyNext (.ref e)) Q E s := by
  have hY : s.TypeIs (.ref e) "enumerate" := ⟨_, he, rfl⟩
  unfold pyNext
  refine wpAny_bind (wpAny_attempt (wpAny_callSpecial?_slot (name := Str.ofString "__next__") hY F.slot_enumerate_next
    (wpAny_call_entry F.slot_enumerate_next hY F.entry_enumerate_next ?_ (F.args_enumerate_next_1 _))))
  show wpAny _ _ (field (.ref e) 2 >>= _) _ _ _
  refine wpAny_bind (wpAny_field he rfl (x := .ref it) rfl ?_)
  refine wpAny_bind (wpAny_nextOf_tuple_end (A := A.in1) hh hit hT (by simp [hx]) fun h' x he' hx' => ?_)
  obtain ⟨o, ho, hc⟩ := hx'
  refine wpAny_bind (wpAny_isInstance (T := "StopIteration") (b := true) ⟨o, ho, hc⟩ isSubtype_stop ?_)
  exact wpAny_pure (hQ _ he')
end
/-- the tuple at a, each item in a new pair -/
def IteT (K : PySem.W.Frag) (a : Addr) : It where
  go := fun i H => ∃ (xs : List V) (x : V), SqT K H a xs ∧ xs[i]? = some x
  yld := fun i H v H' => ∃ T x, v = .ref T ∧ H T = none ∧ H' = upd H T (.tup [.int (i : Nat), x]) ∧ ∀ xs, SqT K H a xs → xs[i]? = some x
  stop := fun i H => ∃ xs : List V, SqT K H a xs ∧ xs.length ≤ i
theorem turn_enumT {P : Program} {w : World} {K : PySem.W.Frag} {elts : List Expr} {kk : Nat} {tpos : Pos} (a e it : Addr) :
    Turn P w K (.Tuple elts kk tpos) (IteT K a) [e, it] e (fun i h => (∃ old, IsEnum h e it ((i : Nat) : Int) old) ∧ h.IsTupleIter it a i ∧ e ≠ it) where
  mem := by simp
  obj := fun i h st b hb => by
    obtain ⟨⟨old, he⟩, ⟨o, ho, hc, hd⟩, _⟩ := st
    have e' : b = e ∨ b = it := by simpa using hb
    rcases e' with z | z
    · rw [z]; exact ⟨_, he, fun v q => nomatch q⟩
    · rw [z]; exact ⟨o, ho, fun v q => by rw [hd] at q; cases q⟩
  keep := fun i h h' st k => let ⟨⟨old, he⟩, hi, hne⟩ := st; ⟨⟨old, k e (by simp) _ he⟩, hi.at fun o q => k it (by simp) o q, hne⟩
  item := by
    intro X hP hw hK hc i pins s σ H E I hf st hg
    subst hP hw hK
    obtain ⟨⟨old, he⟩, hit, hne⟩ := st
    obtain ⟨xs, x, hq, hx⟩ := hg
    obtain ⟨its, rv, p, hz⟩ := I.tuple hq
    obtain ⟨u, hu, ru⟩ := rv.get hx
    have hT : s.heap.IsTuple a its.toArray := p
    have hel : e < s.heap.objs.size := Heap.lt_size he
    have hil : it < s.heap.objs.size := by obtain ⟨_, q, _⟩ := hit; exact Heap.lt_size q
    have hai : a ≠ it := by
      intro q
      obtain ⟨o1, g1, c1, _⟩ := hT
      obtain ⟨o2, g2, c2, _⟩ := hit
      rw [q, g2] at g1
      cases g1
      rw [c1] at c2
      exact absurd (Value.type.inj c2) (by decide)
    have hae : e ≠ a := by
      intro q
      obtain ⟨o1, g1, c1, _⟩ := hT
      have he' : s.heap.get? e = some _ := he
      rw [← q, he'] at g1
      cases g1
      exact absurd (Value.type.inj c1) (by decide)
    have Dr := Draws.tuple (prog := X.prog) (w := X.w) (A := X.A.in1) (show X.A.in1.handled = none from I.ok.hd hc) it a hai its.toArray
    refine wpAny_pyNext_enum_itemD Dr he ⟨hit, hT⟩ (by have := getLt hu; simpa using this) hne (by simp [hne, hae]) fun y h' tk hy ho hst hT' hsz hk => ?_
    have ey : y = u := by simpa [hu] using hy.symm
    subst ey
    refine ⟨_, rfl, wpAny_letOwnedTupleGo_enum (s := { s with heap := h', toks := tk + 1 }) ho fun h'' he' sb => ?_⟩
    have hT2 : h''.get? s.heap.objs.size = some { cls := .type "tuple", data := .seq #[.int i tk, y] } := (sb.2 _ (Nat.ne_of_gt hel)).trans hT'
    have new : ObjOk X.prog X.w (upd H s.heap.objs.size (.tup [.int (i : Nat), x])) h'' s.heap.objs.size (.tup [.int (i : Nat), x]) :=
      ⟨by show 2 ≤ sizeLine; decide, [.int i tk, y], .cons ⟨_, rfl⟩ (.cons ru .nil), ⟨_, hT2, rfl, _, rfl⟩⟩
    have I1 : Inv X pins σ (upd H s.heap.objs.size (.tup [.int (i : Nat), x])) { s with heap := h'', toks := tk + 1 } :=
      I.turnedNew (ch := [e, it]) (fun b ob hb q => (sb.2 b (fun z => hb (by simp [z]))).trans (hk b ob (fun z => hb (by simp [z])) (fun z => hb (by simp [z])) q)) hf (Nat.le_refl _) new
    refine ⟨.ref s.heap.objs.size, _, I1, rfl, ⟨_, x, rfl, I.hok.fresh (Nat.le_refl _), rfl, fun ys hy => by rw [I.tuple_inj hy hq]; exact hx⟩, ⟨⟨y, ?_⟩, hst.1.at fun o q => (sb.2 it (Ne.symm hne)).trans q, hne⟩, fun b hb => ?_⟩
    · have e1 : ((i + 1 : Nat) : Int) = (i : Int) + 1 := by omega
      rw [e1]; exact he'
    · have hb' : b < s.heap.objs.size := by
        have e' : b = e ∨ b = it := by simpa using hb
        rcases e' with z | z
        · rw [z]; exact hel
        · rw [z]; exact hil
      rw [upd_ne (Nat.ne_of_lt hb')]
      exact (hf b hb).1
  done := by
    intro X hP hw hK hc i pins s σ H E I hf st hg
    subst hP hw hK
    obtain ⟨⟨old, he⟩, hit, hne⟩ := st
    obtain ⟨xs, hq, hx⟩ := hg
    obtain ⟨its, rv, p, hz⟩ := I.tuple hq
    have hT : s.heap.IsTuple a its.toArray := p
    obtain ⟨f0, f1, f2, f3, f4, f5⟩ := hf it (by simp)
    have hl := rv.length
    exact next_enumT_end (I.ok.hd hc) he hit hT (by simp; omega) fun h' eb => ⟨rfl, I.turned (t' := s.toks) (fun b o hb q => eb b o hb q) f0 f1 f3 f4 f5⟩
  self := fun A i s Q E st h => let ⟨⟨_, he⟩, _⟩ := st; wpAny_pyIter_enum he h
def iEnumT (K : PySem.W.Frag) (ta : TA) : TI := fun σ H R => ta σ H fun vs H1 => ∃ a xs, vs = [.ref a] ∧ SqT K H1 a xs ∧ R (IteT K a) H1
open PySem.Spec PyProof.Rows in
theorem pi_enumT {X : Cx} {e : Expr} {ta : TA} {p pos tpos : Pos} {elts : List Expr} {kk : Nat} (hg : Gl X "enumerate") (hm : X.mg "enumerate" = none) (ha : PA X [e] ta) (hs : starEach [e] X.env = [(false, eval e X.env)] := by rfl) :
    PI X (.Tuple elts kk tpos) (.Call (.Name "enumerate" p) [e] [] pos) (iEnumT X.K ta) := by
  refine ⟨fun pins s σ H R I h => ?_⟩
  refine Call_ (ld_blt I hg hm boot_enumerate (PyProof.Rows.callWith_type1 (thn (ha.run pos pins s σ H _ I h) fun us s1 ⟨vs, H1, I1, r1, q1⟩ => ?_) hs rfl))
  obtain ⟨a, xs, ex, hq, q⟩ := q1
  subst ex
  cases r1 with
  | cons r rr =>
    cases rr
    cases r
    obtain ⟨its, rv, p', hz⟩ := I1.tuple hq
    have hT : s1.heap.IsTuple a its.toArray := p'
    refine call_enumT hT fun h' he hit hk => wpAny_pyIter_enum he ?_
    have I2 : Inv X pins σ H1 { s1 with heap := h' } := I1.kept (t' := s1.toks) hk
    refine ⟨s1.heap.objs.size + 1, [s1.heap.objs.size + 1, s1.heap.objs.size], _, _, H1, rfl, I2, turn_enumT a (s1.heap.objs.size + 1) s1.heap.objs.size, ⟨⟨.none, he⟩, hit, Nat.succ_ne_self _⟩, fun b hb => ?_, q⟩
    have e' : b = s1.heap.objs.size + 1 ∨ b = s1.heap.objs.size := by simpa using hb
    have hle : s1.heap.objs.size ≤ b := by
      rcases e' with z | z
      · rw [z]; exact Nat.le_add_right _ _
      · rw [z]; exact Nat.le_refl _
    exact I1.fpOk hle (I1.hok.fresh hle)
/-! ### enumerate, a list or a tuple -/
def enumIms (ds : List D) : List Im := (List.range ds.length).zipWith (fun i d => Im.two (.t (.int (i : Nat))) d) ds
theorem enumIms_len {ds : List D} : (enumIms ds).length = ds.length := by simp [enumIms]
theorem enumIms_get {ds : List D} {i : Nat} {im : Im} (h : (enumIms ds)[i]? = some im) : ∃ d, ds[i]? = some d ∧ im = .two (.t (.int (i : Nat))) d := by
  have hi := getLt h
  rw [enumIms_len] at hi
  simp only [enumIms, List.getElem?_zipWith, List.getElem?_range hi] at h
  rw [List.getElem?_eq_getElem hi] at h ⊢
  exact ⟨_, rfl, (Option.some.inj h).symm⟩
section
variable {g : Gm} {m : Nat → Addr} {n : Nat} {H : Hp} {G : Hs}
theorem pair_new {rv : List Addr} {m2 : Nat → Addr} {H2 : Hp} {G2 : Hs} {T : Addr} {a b : D} {x y : V} (s2 : SR (g.rvd rv) m2 H2 G2) (hT : H2 T = none) (ra : RpD (g.rvd rv) m2 G2.length G2.length H2 a x) (rb : RpD (g.rvd rv) m2 G2.length G2.length H2 b y) :
    Ex m2 G2.length H2 m2 G2.length (upd H2 T (.tup [x, y])) ∧ SR (g.rvd rv) m2 (upd H2 T (.tup [x, y])) G2 ∧ ImR (g.rvd rv) m2 G2.length (upd H2 T (.tup [x, y])) (.two a b) (.ref T) := by
  have e : Ex m2 G2.length H2 m2 G2.length (upd H2 T (.tup [x, y])) := Ex.new hT
  have s3 : SR (g.rvd rv) m2 (upd H2 T (.tup [x, y])) G2 := s2.new hT (by show 2 ≤ sizeLine; decide)
  refine ⟨e, s3, T, x, y, rfl, upd_same, ?_, ?_⟩
  · exact RpD.mv (Ex.mv e s2 (rv := rv) fun a h => .inl h) (Nat.le_refl _) (Nat.le_refl _) ra
  · exact RpD.mv (Ex.mv e s2 (rv := rv) fun a h => .inl h) (Nat.le_refl _) (Nat.le_refl _) rb
theorem wk_enumL (s : SR g m H G) {x : D} {a : Addr} {ds : List D} (rx : RpD g m G.length G.length H x (.ref a)) (e : asL G x = some ds) : Wk g m G.length H (Ite g.K a) (enumIms ds) (kpOf G x) := by
  intro rv i m2 H2 G2 hrv s2 x2 k2
  obtain ⟨a', xs, ea, h, r⟩ := asL_rp s2 (RpD.mv (Exr.mv x2 s hrv) x2.le (Nat.le_refl _) rx) (asL_kp e k2)
  cases ea
  refine ⟨fun hi => ⟨xs, h, by have hi := Nat.le_of_eq hi.symm; rw [← r.length]; rw [enumIms_len] at hi; exact hi⟩, fun im hi => ?_⟩
  obtain ⟨d, hd, rfl⟩ := enumIms_get hi
  obtain ⟨v, ev, rv⟩ := r.get hd
  refine ⟨⟨xs, v, h, ev⟩, fun y H3 ⟨T, z, ey, hT, e3, q⟩ => ?_⟩
  have := q xs h
  rw [ev] at this
  cases this
  subst ey; subst e3
  exact pair_new s2 hT rfl rv
theorem wk_enumT (s : SR g m H G) {x : D} {a : Addr} {ds : List D} (rx : RpD g m G.length G.length H x (.ref a)) (e : asT x = some ds) : Wk g m G.length H (IteT g.K a) (enumIms ds) none := by
  intro rv i m2 H2 G2 hrv s2 x2 k2
  obtain ⟨a', xs, ea, h, r⟩ := asT_rp (RpD.mv (Exr.mv x2 s hrv) x2.le (Nat.le_refl _) rx) e
  cases ea
  refine ⟨fun hi => ⟨xs, h, by have hi := Nat.le_of_eq hi.symm; rw [← r.length]; rw [enumIms_len] at hi; exact hi⟩, fun im hi => ?_⟩
  obtain ⟨d, hd, rfl⟩ := enumIms_get hi
  obtain ⟨v, ev, rv⟩ := r.get hd
  refine ⟨⟨xs, v, h, ev⟩, fun y H3 ⟨T, z, ey, hT, e3, q⟩ => ?_⟩
  have := q xs h
  rw [ev] at this
  cases this
  subst ey; subst e3
  exact pair_new s2 hT rfl rv
end
end BL

set_option Elab.async false
set_option linter.all false
set_option maxRecDepth 100000
set_option maxHeartbeats 1000000
namespace BL
open PySem L2

/-! ### enumerate -/
def iEn (d : De) : Di := fun r G => (d r G).itr fun x G1 => match asT x with
  | some ds => .ok (enumIms ds) none G1
  | none => match asL G1 x with
    | some ds => .ok (enumIms ds) (kpOf G1 x) G1
    | none => .stuck
section
variable {Z : Zc} {e : Expr} {d : De} {p pos tpos : Pos} {elts : List Expr} {kk : Nat}
theorem pdi_enum (hm : Z.mg "enumerate" = none) (h : PD Z e d) (hg : GlS Z "enumerate" := by rfl) (hs : ∀ env, starEach [e] env = [(false, eval e env)] := by intro _; rfl) :
    PDI Z (.Tuple elts kk tpos) (.Call (.Name "enumerate" p) [e] [] pos) (iEn d) := fun X W ok => by
  have hg' : Gl X "enumerate" := by
    show X.env.scope.names.lookup _ = _
    rw [ok.sc]; exact hg
  have hm' : X.mg "enumerate" = none := by rw [ok.mg]; exact hm
  have ha : PA X [e] (tCons (tI Z.g W d) tNil) := pa_cons (h X W ok) pa_nil (hs _)
  refine piI (PI.or (pi_enumT hg' hm' ha (hs _)) (pi_enum hg' hm' ha (hs _))) fun σ H R ⟨m, r, G, s, sl, p⟩ => ?_
  unfold iEn at p
  cases ex : d r G with
  | stuck => rw [ex] at p; exact p.elim
  | exc c ns ds G' =>
    rw [ex] at p
    exact .inl ⟨m, r, G, s, sl, by rw [ex]; exact p⟩
  | ok x G1 =>
    rw [ex] at p
    simp only [itr_ok] at p
    cases q : asT x with
    | some ds =>
      rw [q] at p
      refine .inl ⟨m, r, G, s, sl, ?_⟩
      rw [ex]
      intro v m1 H1 x1 s1 rv
      obtain ⟨a, xs, rfl, h, r'⟩ := asT_rp rv q
      rw [ok.Kg]
      exact ⟨a, xs, rfl, h, p _ m1 H1 x1 s1 (fun _ _ z => nomatch z) (by rw [enumIms_len, r'.length]; exact s1.szT h) (wk_enumT s1 rv q)⟩
    | none =>
      rw [q] at p
      simp only at p
      refine .inr ⟨m, r, G, s, sl, ?_⟩
      rw [ex]
      intro v m1 H1 x1 s1 rv
      cases q2 : asL G1 x with
      | none => rw [q2] at p; exact p.elim
      | some ds =>
        rw [q2] at p
        obtain ⟨a, xs, rfl, h, r'⟩ := asL_rp s1 rv q2
        rw [ok.Kg]
        exact ⟨a, xs, rfl, h, p _ m1 H1 x1 s1 kpOf_ok (by rw [enumIms_len, r'.length]; exact s1.szL h) (wk_enumL s1 rv q2)⟩
end
/-! ### isinstance with two classes -/
theorem isi_own {g : Gm} {c : Nat} {os : List Nat} (hi : ∀ c', c' = c ∨ c' ∈ os → InsF g.K (g.ca c'))
    (hty : ∀ n, n ∈ ["NoneType", "bool", "int", "str", "tuple", "list", "dict"] → PySem.W.kitOne g.K (.type n) (.ref (g.ca c)) = some false) (hc : PySem.W.kitOne g.K (.ref (g.ca c)) (.ref (g.ca c)) = some true) (ho : ∀ c', c' ∈ os → PySem.W.kitOne g.K (.ref (g.ca c')) (.ref (g.ca c)) = some false) : IsiOk g (.ref (g.ca c)) (isOwn c os) := by
  intro k b e
  cases k with
  | obj c' =>
    simp only [isOwn] at e
    split at e
    · rename_i q
      cases e
      subst q
      exact ⟨hi _ (.inl rfl), hc⟩
    · split at e
      · rename_i q
        cases e
        have q' : c' ∈ os := by simpa using q
        exact ⟨hi _ (.inr q'), ho _ q'⟩
      · cases e
  | _ => cases e; exact ⟨trivial, hty _ (by simp)⟩
/-- the tests of two classes, one after the other -/
def isOr (t u : Kd → Option Bool) : Kd → Option Bool := fun k => match t k with
  | some true => some true
  | some false => u k
  | none => none
section
variable {Z : Zc} {e : Expr} {d : De} {n n2 : Str} {p p2 p3 p4 pos : Pos} {kk : Nat} {t t2 : Kd → Option Bool}
theorem pd_isi2 {tn tn2 : String} (hm : Z.mg "isinstance" = none) (hmn : Z.mg n = none) (hmn2 : Z.mg n2 = none) (hv : bootBuiltins n = some (.type tn)) (hv2 : bootBuiltins n2 = some (.type tn2)) (ht : IsiOk Z.g (.type tn) t) (ht2 : IsiOk Z.g (.type tn2) t2) (h : PD Z e d) (hg : GlS Z "isinstance" := by rfl) (hgn : GlS Z n := by rfl) (hgn2 : GlS Z n2 := by rfl)
    (hn : n ≠ "__name__" := by decide) (hdb : (n == ("__debug__" : Str)) = false := by decide) (hn2 : n2 ≠ "__name__" := by decide) (hdb2 : (n2 == ("__debug__" : Str)) = false := by decide)
    (he : ∀ env, starEach [e, .Tuple [.Name n p2, .Name n2 p3] kk p4] env = (false, eval e env) :: starEach [.Tuple [.Name n p2, .Name n2 p3] kk p4] env := by intro _; rfl) (hpl : ∀ env, (backTo pos (starEach [.Tuple [.Name n p2, .Name n2 p3] kk p4] env)).any (·.1) = false := by intro _; rfl) :
    PD Z (.Call (.Name "isinstance" p) [e, .Tuple [.Name n p2, .Name n2 p3] kk p4] [] pos) (dUn (fIsi (isOr t t2)) d) := fun X W ok => by
  have b1 : PE X (.Name n p2) (tC (.ty tn)) := pe_bltn (v := .ty tn) (show X.env.scope.names.lookup _ = _ by rw [ok.sc]; exact hgn) (by rw [ok.mg]; exact hmn) hv rfl hn hdb
  have b2 : PE X (.Name n2 p3) (tC (.ty tn2)) := pe_bltn (v := .ty tn2) (show X.env.scope.names.lookup _ = _ by rw [ok.sc]; exact hgn2) (by rw [ok.mg]; exact hmn2) hv2 rfl hn2 hdb2
  refine peI (pe_callB call_isiT (show X.env.scope.names.lookup _ = _ by rw [ok.sc]; exact hg) (by rw [ok.mg]; exact hm) (by decide +kernel) (pa_cons (h X W ok) (pa_cons (pe_tup (pa_cons b1 (pa_cons b2 pa_nil))) pa_nil) (he _)) (by decide) (by decide) (he _) (hpl _)) fun σ H Q h => ?_
  rw [show X.K = Z.K from ok.K]
  obtain ⟨m, r, G, s, sl, p⟩ := h
  refine tI_bind s sl p fun y G1 v m1 H1 e1 x1 s1 sl1 rv p1 => ?_
  refine ⟨by show 2 ≤ sizeLine; decide, fun tp htp => ?_⟩
  have x2 : Ex m1 G1.length H1 m1 G1.length (upd H1 tp (.tup [.ty tn, .ty tn2])) := Ex.new htp
  have s2 := s1.new (o := .tup [.ty tn, .ty tn2]) htp (by show 2 ≤ sizeLine; decide)
  have rv2 := RpD.ex x2 s1 x2.le (Nat.le_refl _) rv
  unfold fIsi at p1
  split at p1
  · rename_i k ek
    split at p1
    · rename_i b eb
      unfold isOr at eb
      refine ⟨v, tp, [.ty tn, .ty tn2], kdV Z.g k, [.type tn, .type tn2], b, rfl, upd_same, .cons (.ty _) (.cons (.ty _) .nil), ?_, ?_, PostE.ok s2 (PostE.trans x2 s2 p1) rfl⟩
      · refine kind_ty s2 rv2 ek ?_
        split at eb
        · rename_i q; exact (ht k true q).1
        · rename_i q; exact (ht k false q).1
        · cases eb
      · split at eb
        · rename_i q
          cases eb
          exact kitAny_cons (ht k true q).2 (fun z => nomatch z) fun _ => rfl
        · rename_i q
          exact kitAny_cons (ht k false q).2 (fun _ => kitAny_cons (ht2 k b eb).2 (fun z => by rw [z]; exact kitAny_nil) fun z => z) fun z => nomatch z
        · cases eb
    · exact p1.elim
  · exact p1.elim
end
/-! ### len of an object by its class's own __len__ -/
section
open PySem.W
variable {prog : Program} {w : World} {A : Around} {E : Value → Shared → Prop} {s : Shared} {K : PySem.W.Frag} {x C f : Addr} {ox : Obj} {od : Option Obj}
theorem special_fn {M : Model} {name : Str} {args : List Value} {Q : Option Value → Shared → Prop} (X : K.In s.heap) (I : InstAt s.heap x ox C od) (hs : findIn K (.ref C) name = some (some (.ref f))) (hf : isFn K (.ref f) = true)
    (h : wpAny M A (call (.ref f) (.ref x :: args)) (fun v => Q (some v)) E s) : wpAny M A (callSpecial? (.ref x) name args) Q E s := by
  unfold callSpecial? specialOf
  refine wpAny_bind (wpAny_bind (I.type.here ((looks_findIn X hs).here ?_)))
  refine wpAny_holding (wpAny_bind ((bind_fn X _ (beq_iff_eq.mp hf)).here ?_))
  first
    | exact wpAny_bind (wpAny_mono h (fun v s' h' => wpAny_pure h') fun _ _ h' => h')
    | exact wpAny_pure (wpAny_bind (wpAny_mono h (fun v s' h' => wpAny_pure h') fun _ _ h' => h'))
theorem len_inst {Q : Value → Shared → Prop} (X : K.In s.heap) (I : InstAt s.heap x ox C od) (hs : findIn K (.ref C) "__len__" = some (some (.ref f))) (hf : isFn K (.ref f) = true)
    (h : wpAny (model prog w) A.in1 (call (.ref f) [.ref x]) (fun r s' => ∃ n u, r = .int n u ∧ 0 ≤ n ∧ n < 2 ^ 63 ∧ Q (.int n s'.toks) { s' with toks := s'.toks + 1 }) E s) :
    wpAny (model prog w) A (call (.builtin "len") [.ref x]) Q E s := by
  refine Calls.call_function_entry kind_len plain_len entry_len (args_len1 _) ?_
  unfold Builtin.«len»
  refine wpAny_bind (m := oneArg "len" _) (wpAny_pure ?_)
  refine wpAny_bind (special_fn X I hs hf (wpAny_mono h (fun r s' hr => ?_) fun _ _ y => y))
  obtain ⟨n, u, rfl, h0, h1, hq⟩ := hr
  refine wpAny_bind (wpAny_holding (wpAny_pure ?_))
  refine wpAny_bind (wpAny_letGo ?_)
  show wpAny _ _ (if n < 0 then _ else _) _ _ _
  rw [if_neg (by omega)]
  show wpAny _ _ (if n ≥ 2 ^ 63 then _ else _) _ _ _
  rw [if_neg (by omega)]
  exact wpAny_bind (wpAny_mkInt (wpAny_pure ⟨_, rfl, hq⟩))
end
theorem run_one {X : Cx} {k : Nat} {f : Addr} {fd : FuncData} {ps : List Str} {sp : Sp} {A : Around} {pins : List (Addr × Obj)} {σ : St} {H : Hp} {s : Shared} {vs : List V} {us : List Value} {R : V → Hp → Prop} {Q' : Value → Shared → Prop} (F : FnOk X.prog X.w X.K X.mg X.base (L2.CX X.prog X.w) k f fd ps sp) (hr : Room k A) (hfr : A.frames = X.A.frames) (hb : Binds X.K fd ps []) (I : Inv X pins σ H s) (r2 : Vals vs us)
    (h : sp vs H R E0) (hQ : ∀ v' v H' s', Inv X pins σ H' s' → RelV v v' → R v H' → Q' v' s') : wpAny (model X.prog X.w) A (call (.ref f) us) Q' X.xe s := by
  have e0 : Env0 X.prog X.w X.K X.mg X.base A X.stack s H := by
    have e := I.env0
    exact ⟨by rw [hfr]; exact e.frames, e.mod, e.bs, e.bsz, e.funs, e.frf, e.hok, e.bare⟩
  have hl : us.length = ps.length := (F.len _ _ _ _ h ▸ r2.length).symm
  refine wpAny_call (codeAny_mono (F.run A X.stack s H ⟨us, []⟩ us vs R E0 hr e0 (by
    have := hb s us I.kIn (by simpa using hl)
    simpa using this) r2 h) fun r s' hq => ?_)
  cases r with
  | error e => exact passL pins σ H s e s' I hq
  | ok fl =>
    cases fl with
    | ret v' =>
      obtain ⟨v, H', I', rv, q⟩ := I.after hq
      exact hQ v' v H' s' I' rv q
    | next => exact hq.elim
    | brk => exact hq.elim
    | cont => exact hq.elim
/-- what must be known of a class with an own __len__ -/
structure LenF (K : PySem.W.Frag) (C f : Addr) : Prop where
  hs : PySem.W.findIn K (.ref C) "__len__" = some (some (.ref f))
  hf : PySem.W.isFn K (.ref f) = true
def rLenO (K : PySem.W.Frag) (C : Addr) (sp : Sp) : List V → Hp → VK → Prop := fun xs H Q => ∃ a dx fs, xs = [.ref a] ∧ H a = some (.ins C dx fs) ∧ sp [.ref a] H (fun v H' => ∃ n : Int, v = .int n ∧ 0 ≤ n ∧ n < 2 ^ 63 ∧ Q (.int n) H') E0
theorem cr_lenO {X : Cx} {k : Nat} {f C : Addr} {fd : FuncData} {ps : List Str} {sp : Sp} (F : FnOk X.prog X.w X.K X.mg X.base (L2.CX X.prog X.w) k f fd ps sp) (hr : Room (k + 1) X.A) (hb : Binds X.K fd ps []) (hL : LenF X.K C f) : CallR X (.builtin "len") (rLenO X.K C sp) := by
  intro pins s σ H xs us Q I rs h
  obtain ⟨a, dx, fs, rfl, ha, h⟩ := h
  cases rs with
  | cons r rr =>
    cases rr
    cases r
    obtain ⟨mA, J, _⟩ := ins_get I.hok ha
    obtain ⟨od, J, _⟩ := J.look
    refine len_inst I.kIn J hL.hs hL.hf ?_
    refine run_one (vs := [V.ref a]) F hr.in1 rfl hb I (.cons rfl .nil) h fun v' v H' s' I' rv ⟨n, ev, h0, h1, q⟩ => ?_
    subst ev
    obtain ⟨u, rfl⟩ := rv
    exact ⟨n, u, rfl, h0, h1, .int n, H', I'.tok _, ⟨_, rfl⟩, q⟩
/-- len of an object: what __len__ gives -/
def okLen : Re → Re
  | .ok (.t (.int n)) G' => if 0 ≤ n ∧ n < 2 ^ 63 then .ok (.t (.int n)) G' else .stuck
  | _ => .stuck
def fLenO (c : Nat) (F : Fd) : List D → Hs → Re
  | [x], G => if isObj' c G x = true then okLen (F [x] G) else .stuck
  | _, _ => .stuck
theorem isObj_rp {g : Gm} {m : Nat → Addr} {H : Hp} {G : Hs} (s : SR g m H G) {x : D} {v : V} {c : Nat} (rx : RpD g m G.length G.length H x v) (hx : isObj' c G x = true) : ∃ a dx fs, v = .ref a ∧ H a = some (.ins (g.ca c) dx fs) := by
  cases x with
  | t t =>
    cases t with
    | obj c' ns ts =>
      simp only [isObj', decide_eq_true_eq] at hx
      subst hx
      obtain ⟨a, dx, xs, rfl, h, _⟩ := rx
      exact ⟨a, dx, _, rfl, h⟩
    | _ => cases hx
  | loc i =>
    obtain ⟨hi', rfl⟩ := rx
    cases q : G[i]? with
    | none => simp [isObj', q] at hx
    | some o =>
      cases o with
      | ins c' fs =>
        simp [isObj', q] at hx
        subst hx
        obtain ⟨dx, xs, h, r⟩ := s.ob i _ q
        exact ⟨_, dx, _, rfl, h⟩
      | lst _ => simp [isObj', q] at hx
      | dk _ => simp [isObj', q] at hx
      | flst _ => simp [isObj', q] at hx
section
variable {Z : Zc} {e : Expr} {d : De} {c k : Nat} {f : Addr} {fd : FuncData} {ps : List Str} {F : Fd} {p pos : Pos}
theorem a_lenO (hn : 1 = ps.length) : CaA Z.g (rLenO Z.K (Z.ca c) (spD Z.g ps.length F)) (fLenO c F) := by
  intro W m H G σ Q ds vs s rs p
  unfold fLenO at p
  split at p
  · rename_i x
    obtain ⟨v, ws, rfl, rx, r0⟩ := rs
    cases r0
    split at p
    · rename_i hx
      obtain ⟨a, dx, fs, rfl, ha⟩ := isObj_rp s rx hx
      refine ⟨a, dx, fs, rfl, ha, hn, Z.g.rv, m, _, [x], s, ⟨_, _, rfl, rx, rfl⟩, ?_⟩
      cases e : F [x] G with
      | stuck => rw [e] at p; exact p.elim
      | exc _ _ _ _ => rw [e] at p; exact p.elim
      | ok d G' =>
        rw [e] at p
        intro v' m' H' x' s' rv'
        unfold okLen at p
        split at p
        · rename_i n G'' q
          cases q
          split at p
          · rename_i h2
            exact ⟨n, rv', h2.1, h2.2, p _ m' H' x' s' rfl⟩
          · exact p.elim
        · exact p.elim
    · exact p.elim
  · exact p.elim
theorem pd_lenO (h : FnD Z.toZb k f fd ps F) (hk : k + 1 ≤ Z.k) (hb : Binds Z.K fd ps []) (hL : LenF Z.K (Z.ca c) f) (hn : 1 = ps.length) (hm : Z.mg "len" = none) (ha : PD Z e d) (hg : GlS Z "len" := by rfl) (he : ∀ env, starEach [e] env = (false, eval e env) :: starEach [] env := by intro _; rfl) :
    PD Z (.Call (.Name "len" p) [e] [] pos) (dArgs [d] (fLenO c F)) :=
  pd_callB (fun X => _) (fun X W ok => cr_lenO (C := Z.ca c) (show FnOk X.prog X.w X.K X.mg X.base (L2.CX X.prog X.w) k f fd ps (spD Z.g ps.length F) by rw [ok.P, ok.w, ok.K, ok.mg, ok.base]; exact h.ok) (ok.rm.mono hk) (by rw [ok.K]; exact hb) (by rw [ok.K]; exact hL)) (fun X W ok => by rw [show X.K = Z.K from ok.K]; exact a_lenO hn) hg hm (by decide +kernel) (pda_cons ha pda_nil he) he (fun _ => rfl) (by decide) (by decide)
end
end BL

set_option Elab.async false
set_option linter.all false
set_option maxRecDepth 100000
set_option maxHeartbeats 1000000
namespace BL
open PySem L2

def Zc.wv (Z : Zc) (rv : List Addr) : Zc := { Z with rv := rv }
theorem Ok.wv {Z : Zc} {X : Cx} {W : WX} (ok : Ok Z X W) (rv : List Addr) : Ok (Z.wv rv) X W := ⟨ok.P, ok.w, ok.K, ok.mg, ok.base, ok.N, ok.sc, ok.fn, ok.nd, ok.calm, ok.tk, ok.po, ok.rm, ok.cq⟩
/-- what was being filled becomes a located object -/
theorem SR.adopt {g : Gm} {m m2 : Nat → Addr} {n : Nat} {H H2 : Hp} {G2 : Hs} {Da : Addr} {ob : O} (hn : H Da = none) (hnr : Da ∉ g.rv) (x : Ex m n H m2 G2.length H2) (s : SR (g.rvd (Da :: g.rv)) m2 H2 G2)
    (ho : ∀ mv : Mv (g.rvd (Da :: g.rv)) m2 G2.length H2 g (mAt m2 G2.length Da) (G2.length + 1) H2, OR g (mAt m2 G2.length Da) (G2.length + 1) G2.length H2 ob) :
    Ex m n H (mAt m2 G2.length Da) (G2 ++ [ob]).length H2 ∧ SR g (mAt m2 G2.length Da) H2 (G2 ++ [ob]) := by
  have hl : (G2 ++ [ob]).length = G2.length + 1 := by simp
  have nb := (s.rv Da (List.mem_cons_self)).2
  have mv : Mv (g.rvd (Da :: g.rv)) m2 G2.length H2 g (mAt m2 G2.length Da) (G2.length + 1) H2 := ⟨rfl, fun a o h nb ht => ⟨h, fun q => by
    rcases q with ⟨i, hi, e⟩ | q
    · by_cases h2 : i < G2.length
      · rw [mAt_lt h2] at e; exact nb (.inl ⟨i, h2, e⟩)
      · have : i = G2.length := by omega
        subst this
        rw [mAt_same] at e
        subst e
        exact nb (.inr List.mem_cons_self)
    · exact nb (.inr (List.mem_cons_of_mem _ q))⟩, fun _ _ h => h, fun i hi => mAt_lt hi⟩
  refine ⟨?_, ?_⟩
  · rw [hl]
    exact ⟨Nat.le_succ_of_le x.le, fun i hi => (mAt_lt (Nat.lt_of_lt_of_le hi x.le)).trans (x.ag i hi), fun i h1 h2 => by
      by_cases q : i < G2.length
      · rw [mAt_lt q]; exact x.fr i h1 q
      · have : i = G2.length := by omega
        subst this
        rw [mAt_same, hn]; exact (fun o e => nomatch e), x.kp⟩
  · refine ⟨fun i u e => ?_, fun i j h1 h2 e => ?_, s.sz, s.tb, fun a ha => ?_⟩
    · rw [hl]
      by_cases hi : i < G2.length
      · rw [List.getElem?_append_left hi] at e
        exact OR.mv mv hi rfl (s.ob i u e)
      · have h2 := getLt e
        have : i = G2.length := by omega
        subst this
        simp at e
        subst e
        exact ho mv
    · rw [hl] at h1 h2
      by_cases hi : i < G2.length
      · by_cases hj : j < G2.length
        · rw [mAt_lt hi, mAt_lt hj] at e; exact s.inj i j hi hj e
        · have : j = G2.length := by omega
          subst this
          rw [mAt_lt hi, mAt_same] at e
          exact (nb ⟨i, hi, e⟩).elim
      · have : i = G2.length := by omega
        subst this
        by_cases hj : j < G2.length
        · rw [mAt_lt hj, mAt_same] at e
          exact (nb ⟨j, hj, e.symm⟩).elim
        · omega
    · obtain ⟨h1, h2⟩ := s.rv a (List.mem_cons_of_mem _ ha)
      refine ⟨h1, ?_⟩
      rw [hl]
      rintro ⟨i, hi, e⟩
      by_cases q : i < G2.length
      · rw [mAt_lt q] at e; exact h2 ⟨i, q, e⟩
      · have : i = G2.length := by omega
        subst this
        rw [mAt_same] at e
        subst e
        exact hnr ha
/-! ### {k: v, ..}, the keys texts that are written -/
def mergeA (kvs more : List (Key × D)) : List (Key × D) := more.foldl (fun acc kv => putA acc kv.1 kv.2) kvs
theorem mergeA_rp {g : Gm} {m : Nat → Addr} {n b : Nat} {H : Hp} : ∀ {more : List (Key × D)} {ys : List V} {kvs : List (Key × D)} {xs : List V}, RpDs g m n b H (more.map (·.2)) ys → RpDs g m n b H (kvs.map (·.2)) xs →
    ∃ zs, mergeK ((kvs.map (·.1)).zip xs) ((more.map (·.1)).zip ys) = ((mergeA kvs more).map (·.1)).zip zs ∧ RpDs g m n b H ((mergeA kvs more).map (·.2)) zs
  | [], ys, kvs, xs, r, r2 => by cases r; exact ⟨xs, rfl, r2⟩
  | (k, d) :: more, ys, kvs, xs, ⟨v, ws, e, h, r⟩, r2 => by
    subst e
    obtain ⟨us, e1, r1⟩ := putA_put (k := k) h r2
    obtain ⟨zs, e2, r3⟩ := mergeA_rp r r1
    refine ⟨zs, ?_, r3⟩
    rw [← e1] at e2
    exact e2
def dDisp (ks : List Str) (das : List De) : De := dArgs das fun ds G => .ok (.loc G.length) (G ++ [.dk (mergeA [] ((ks.map Sum.inr).zip ds))])
def tX (g : Gm) (W : WX) (d : De) : TE := fun σ H Q => ∃ rv, tI (g.rvd rv) W d σ H Q
/-- the pairs of a display: its keys are texts -/
def PPz (Z : Zc) (pos : Pos) (keys : List (Option Expr)) (vals : List Expr) (ks : List Str) (das : List De) : Prop := ∀ X W, Ok Z X W → PPs X pos keys vals ((ks.map fun k => tC (.str k)).zip (das.map (tX Z.g W))) ∧ ks.length = das.length
section
variable {Z : Zc} {pos kp : Pos} {j : Nat} {k : Str} {v : Expr} {keys : List (Option Expr)} {vals : List Expr} {ks : List Str} {d : De} {das : List De}
theorem ppz_nil : PPz Z pos [] [] [] [] := fun X W ok => ⟨pps_nil, rfl⟩
theorem ppz_cons (hv : ∀ rv, PD (Z.wv rv) v d) (h : PPz Z pos keys vals ks das) : PPz Z pos (some (.Constant (.str k) j kp) :: keys) (v :: vals) (k :: ks) (d :: das) := fun X W ok => ⟨pps_cons pe_str (PE.some fun rv => hv rv X W (ok.wv rv)) (h X W ok).1, by simp [(h X W ok).2]⟩
end
theorem Ex.mvv {g : Gm} {m : Nat → Addr} {H : Hp} {n : Nat} {rv : List Addr} (hr : ∀ a, a ∈ rv → a ∈ g.rv) : Mv g m n H (g.rvd rv) m n H :=
  ⟨rfl, fun a o h nb _ => ⟨h, fun q => nb (q.elim .inl fun z => .inr (hr a z))⟩, fun _ _ h => h, fun _ _ => rfl⟩
theorem pairs_of {g : Gm} {W : WX} {Da : Addr} {m0 : Nat → Addr} {n0 : Nat} {H0 : Hp} {σ : St} {r : Ev} {Q : VK} : ∀ {das : List De} {ks : List Str} {m : Nat → Addr} {H : Hp} {G : Hs} {k : List D → Hs → Re} {R : List (V × V) → Hp → Prop}, ks.length = das.length →
    SR (g.rvd (Da :: g.rv)) m H G → Sl (g.rvd (Da :: g.rv)) m G.length H σ r → Ex m0 n0 H0 m G.length H → PostE g W m0 n0 H0 σ Q (dArgs das k r G) →
    (∀ ds G1 vs m1 H1, Ex m0 n0 H0 m1 G1.length H1 → Ex m G.length H m1 G1.length H1 → SR (g.rvd (Da :: g.rv)) m1 H1 G1 → RpDs (g.rvd (Da :: g.rv)) m1 G1.length G1.length H1 ds vs → ds.length = das.length → PostE g W m0 n0 H0 σ Q (k ds G1) → R ((ks.map V.str).zip vs) H1) →
    tPairs ((ks.map fun k => tC (.str k)).zip (das.map (tX g W))) σ H R
  | [], [], m, H, G, k, R, hl, s, sl, x0, p, next => next [] G [] m H x0 Ex.refl s rfl rfl p
  | d :: das, k0 :: ks, m, H, G, k, R, hl, s, sl, x0, p, next => by
    refine (⟨Da :: g.rv, m, r, G, s, sl, ?_⟩ : tX g W d σ H _)
    unfold dArgs at p
    cases e : d r G with
    | stuck => rw [e] at p; exact p
    | exc c ns ds G' =>
      rw [e] at p
      intro da m' H' xs x' s' h nb rs
      have s2 : SR g m' H' G' := s'.less (rv := g.rv) fun a ha => List.mem_cons_of_mem _ ha
      exact p da m' H' xs (x0.trans s x') s2 h nb (RpDs.less s' (rv := g.rv) (fun a ha => List.mem_cons_of_mem _ ha) rs)
    | ok y G1 =>
      rw [e] at p
      intro v m1 H1 x1 s1 rv
      refine pairs_of (das := das) (ks := ks) (by simpa using hl) s1 (Sl.ex x1 s sl) (x0.trans s x1) p fun ds G2 vs m2 H2 x02 x2 s2 rs hl2 p2 => ?_
      exact next (y :: ds) G2 (v :: vs) m2 H2 x02 (x1.trans s1 x2) s2 ⟨v, vs, rfl, RpD.ex x2 s1 x2.le (Nat.le_refl _) rv, rs⟩ (by simp [hl2]) p2
section
variable {Z : Zc} {pos : Pos} {keys : List (Option Expr)} {vals : List Expr} {ks : List Str} {das : List De}
theorem kvs_map {ks : List Str} {vs : List V} : (ks.map V.str).zip vs = (((ks.map Sum.inr : List Key)).zip vs).map (fun kv => (kV kv.1, kv.2)) := by
  induction ks generalizing vs with
  | nil => rfl
  | cons k ks ih =>
    cases vs with
    | nil => rfl
    | cons v vs => simp only [List.map_cons, List.zip_cons_cons, ih]; rfl
theorem pd_disp (h : PPz Z pos keys vals ks das) (hall : keys.all (·.isSome) = true := by rfl) (hl : keys.length = vals.length := by rfl) (h0 : keys ≠ [] := by simp) (h15 : keys.length ≤ 15 := by decide) (hk : ks.length ≤ 15 := by decide) : PD Z (.Dict keys vals pos) (dDisp ks das) := fun X W ok => by
  obtain ⟨hp, hlen⟩ := h X W ok
  refine peI (pe_disp hp hall hl h0 h15) fun σ H Q h => ?_
  obtain ⟨m, r, G, s, sl, p⟩ := h
  intro Da hDa
  have hnr : Da ∉ Z.g.rv := fun q => by
    obtain ⟨⟨xs, z, _⟩, _⟩ := s.rv Da q
    rw [hDa] at z; cases z
  obtain ⟨s1, mv1⟩ := s.begin (o := .dK []) rfl (Nat.zero_le _) hDa
  refine pairs_of hlen s1 (Sl.mv mv1 (Nat.le_refl _) sl) (Ex.new hDa) p fun ds G1 vs m1 H1 x1 x2 s2 rs hl2 p1 => ?_
  have hD : H1 Da = some (.dK []) := x2.kp _ _ upd_same (s1.rv Da List.mem_cons_self).2 (by simp)
  have hvl : vs.length = ks.length := by rw [← rs.length, hl2, hlen]
  refine ⟨hD, ((ks.map Sum.inr : List Key)).zip vs, kvs_map, by rw [List.length_zip, List.length_map, hvl, Nat.min_self]; exact hk, ?_⟩
  have hdl : ((ks.map Sum.inr : List Key)).length = ds.length := by rw [List.length_map, hlen, hl2]
  obtain ⟨e1, e2⟩ := zipF hdl
  obtain ⟨zs, e3, r3⟩ := mergeA_rp (more := ((ks.map Sum.inr : List Key)).zip ds) (kvs := []) (xs := []) (by rw [e2]; exact rs) rfl
  rw [e1] at e3
  have e3' : mergeK [] (((ks.map Sum.inr : List Key)).zip vs) = ((mergeA [] (((ks.map Sum.inr : List Key)).zip ds)).map (·.1)).zip zs := e3
  have hz : (mergeK [] (((ks.map Sum.inr : List Key)).zip vs)).length ≤ sizeLine := by
    refine Nat.le_trans (length_mergeK _ _) ?_
    rw [List.length_zip, List.length_map, hvl, Nat.min_self, List.length_nil, Nat.zero_add]
    exact Nat.le_trans hk (by decide)
  obtain ⟨s3, mv3⟩ := s2.grow (o' := .dK (mergeK [] (((ks.map Sum.inr : List Key)).zip vs))) hD List.mem_cons_self rfl hz
  obtain ⟨x4, s4⟩ := SR.adopt (ob := .dk (mergeA [] (((ks.map Sum.inr : List Key)).zip ds))) hDa hnr (Ex.grow (o := .dK (mergeK [] (((ks.map Sum.inr : List Key)).zip vs))) x1 hDa) s3 fun mv4 => ⟨zs, by rw [mAt_same, upd_same, e3'], RpDs.mv mv4 (Nat.le_refl _) (Nat.le_refl _) (RpDs.mv mv3 (Nat.le_refl _) (Nat.le_refl _) r3)⟩
  refine p1 _ _ _ x4 s4 ⟨by simp, by rw [mAt_same]⟩
end
end BL

set_option Elab.async false
set_option linter.all false
set_option maxRecDepth 100000
set_option maxHeartbeats 1000000
namespace BL
open PySem L2

/-! ### C(e, .., k = v, ..): the keywords right behind the values, in the order of the parameters -/
def PDK (Z : Zc) (kws : List Keyword) (dks : List De) : Prop := ∀ X W, Ok Z X W → PK X kws (tCs (dks.map (tI Z.g W)))
section
variable {Z : Zc} {e : Expr} {es : List Expr} {kws : List Keyword} {das dks : List De} {d : De} {F : Fd} {k c : Nat} {f : Addr} {fd : FuncData} {ps ks : List Str} {x : Str} {nm : Option Str} {dts : List T} {dvs : List V} {pos p kpos : Pos} {g : List Value → List Value → List Value}
theorem pdk_nil : PDK Z [] [] := fun _ _ _ => pk_nil
theorem pdk_cons (h : PD Z e d) (hs : PDK Z kws dks) : PDK Z (⟨nm, e, kpos⟩ :: kws) (d :: dks) := fun X W ok => pk_cons (h X W ok) (hs X W ok)
theorem dArgs_app {r : Ev} : ∀ {das dks : List De} {k : List D → Hs → Re} {G : Hs}, dArgs (das ++ dks) k r G = dArgs das (fun ds G1 => dArgs dks (fun es G2 => k (ds ++ es) G2) r G1) r G
  | [], dks, k, G => rfl
  | d :: das, dks, k, G => by
    show (d r G).bind _ = (d r G).bind _
    congr 1
    funext x G1
    exact dArgs_app
theorem run_makeKD {X : Cx} {CX : CXT} {C : Addr} {sp : Sp} {E : XK} {n : Nat} {gV : List V → List V → List V} {pins : List (Addr × Obj)} {σ : St} {H : Hp} {s : Shared} {Q : VK} {us ws : List Value} {vs zs : List V} (M : Mk X.K C f) (F : FnOk X.prog X.w X.K X.mg X.base CX k f fd ps sp) (hr : Room (k + 1) X.A) (hb : KBn X.K fd ps (n + 1) ks g gV)
    (hx : PassesAt CX X σ E) (I : Inv X pins σ H s) (r : Vals vs us) (rz : Vals zs ws) (l1 : vs.length = n) (l2 : zs.length = ks.length)
    (h : ∀ x dx, H x = none → H dx = none → dx ≠ x → sp (gV (.ref x :: vs) zs) (upd (upd H dx (.own x)) x (.ins C dx [])) (fun v H2 => v = .non ∧ Q (.ref x) H2) E) :
    wpAny (model X.prog X.w) X.A (call (.ref C) us (ks.zip ws)) (EP X pins σ Q) X.xe s := by
  have g1 := h (s.heap.objs.size + 1) s.heap.objs.size (I.hok.fresh (Nat.le_succ _)) (I.hok.fresh (Nat.le_refl _)) (Nat.ne_of_lt (Nat.lt_succ_self _))
  have J := Inv.made (C := C) I
  have q1 : Vals (V.ref (s.heap.objs.size + 1) :: vs) (Value.ref (s.heap.objs.size + 1) :: us) := .cons rfl r
  have l3 : (Value.ref (s.heap.objs.size + 1) :: us).length = n + 1 := by rw [← q1.length, List.length_cons, l1]
  refine wpAny_call (make_map (f := f) I.kIn M.makes M.init (beq_iff_eq.mp M.fn) (codeAny_mono (F.run _ X.stack _ _ ⟨Value.ref (s.heap.objs.size + 1) :: us, ks.zip ws⟩ (g (Value.ref (s.heap.objs.size + 1) :: us) ws) _ _ E (hr.make C us (ks.zip ws))
    (J.env0.make C us (ks.zip ws)) (hb.to _ _ ws J.kIn l3 (rz.length.symm.trans l2)) (hb.rel q1 rz) g1) fun q s' hq => ?_))
  cases q with
  | error er => exact hx pins _ _ er s' J hq
  | ok fl =>
    cases fl with
    | ret u =>
      obtain ⟨v, H', J3, rv, ev, q3⟩ := J.after hq
      subst ev
      exact ⟨rv, .ref (s.heap.objs.size + 1), H', J3, rfl, q3⟩
    | next => exact hq.elim
    | brk => exact hq.elim
    | cont => exact hq.elim
theorem pd_makeK (hM : Mk Z.K (Z.ca c) f) (h : FnD Z.toZb k f fd ps F) (hk : k + 1 ≤ Z.k) (hm : Z.mg x = some (.ref (Z.ca c))) (hb : KBn Z.K fd ps (das.length + 1) ks g (fun vs zs => vs ++ zs ++ dvs)) (hd : Dfl Z.g.toGm0 dts dvs) (ha : PDA Z (e :: es) das) (hkw : PDK Z kws dks) (hkl : dks.length = ks.length) (hn : das.length + dks.length + dts.length + 1 = ps.length) (hg : GlS Z x := by rfl)
    (hall : ∀ env, (backToKw pos (keywordEach kws env)).all (·.1.isSome) = true := by intro _; rfl) (hks : ∀ env, (backToKw pos (keywordEach kws env)).filterMap (·.1) = ks := by intro _; rfl)
    (hdb : (x == ("__debug__" : Str)) = false := by decide) (he : ∀ env, starEach (e :: es) env = (false, eval e env) :: starEach es env := by intro _; rfl)
    (hpl : ∀ env, ((backTo pos (starEach (e :: es) env)).any (·.1) || (backToKw pos (keywordEach kws env)).any (·.1.isNone)) = false := by intro _; rfl) :
    PD Z (.Call (.Name x p) (e :: es) kws pos) (dMake c (das ++ dks) F dts) := fun X W ok => by
  refine ⟨fun pins s σ H Q I h0 => ?_⟩
  obtain ⟨mm, r, G, s0, sl, p⟩ := h0
  have hF : FnOk X.prog X.w X.K X.mg X.base (L2.CX X.prog X.w) k f fd ps (spD Z.g ps.length F) := by rw [ok.P, ok.w, ok.K, ok.mg, ok.base]; exact h.ok
  have hM' : Mk X.K (Z.ca c) f := by rw [ok.K]; exact hM
  have hB : KBn X.K fd ps (das.length + 1) ks g (fun vs zs => vs ++ zs ++ dvs) := by rw [ok.K]; exact hb
  unfold dMake at p
  rw [dArgs_app] at p
  have main := tA_of (R := fun vs H1 => vs.length = das.length ∧ (tCs (dks.map (tI Z.g W))) σ H1 fun zs H2 => zs.length = ks.length ∧ ∀ x0 dx, H2 x0 = none → H2 dx = none → dx ≠ x0 → spD Z.g ps.length F (.ref x0 :: vs ++ zs ++ dvs) (upd (upd H2 dx (.own x0)) x0 (.ins (Z.ca c) dx [])) (fun v H2 => v = .non ∧ Q (.ref x0) H2) (fun cl d H' => W cl d σ H')) s0 sl p fun ds G1 vs m1 H1 x1 s1 sl1 rs hl p1 => ⟨by rw [← rs.length, hl], tA_of s1 sl1 p1 fun es G2 zs m2 H2 x2 s2 sl2 rz hl2 p2 => by
    refine ⟨by rw [← rz.length, hl2, hkl], ?_⟩
    have := make_sp (vs := vs ++ zs) ok (n := ps.length) (by rw [List.length_append, hl, hl2]; exact hn) hd s2 (RpDs.append (RpDs.ex x2 s1 x2.le (Nat.le_refl _) rs) rz) p2
    simpa [Zc.g] using this⟩
  refine wpAny_Call_Name_kw (ld_glob I (show X.env.scope.names.lookup x = _ by rw [ok.sc]; exact hg) (by rw [ok.mg]; exact hm) ?_ hdb)
  refine PySem.W.callWith_KW (h₀ := X.base) I.ok.mod.kin hM'.kp (hall _) (thn ((ha X W ok).run pos pins s σ H _ I main) fun us s1 hq => ?_) (hpl _) (he _)
  obtain ⟨vs, H1, I1, r1, l1, q⟩ := hq
  refine thn ((hkw X W ok).run pos pins s1 σ H1 _ I1 q) fun ws s2 ⟨zs, H2, I2, rz, l2, q2⟩ => ⟨I2.kIn, ?_⟩
  rw [hks]
  exact run_makeKD hM' hF (ok.rm.mono hk) hB (passAt ok.tk σ) I2 r1 rz l1 l2 q2
end
/-! ### o[i], a dict or a row, by the value -/
def fItem : D → D → Hs → Re := fun x y G => match dkOf G x with
  | some _ => fGet x y G
  | none => fIx x y G
theorem PE.or {X : Cx} {e : Expr} {t u : TE} (h1 : PE X e t) (h2 : PE X e u) : PE X e (fun σ H Q => t σ H Q ∨ u σ H Q) := ⟨fun pins s σ H Q I z => z.elim (h1.run pins s σ H Q I) (h2.run pins s σ H Q I)⟩
theorem PT.or {X : Cx} {e : Expr} {t u : TT} (h1 : PT X e t) (h2 : PT X e u) : PT X e (fun σ H Q => t σ H Q ∨ u σ H Q) := ⟨fun pins s σ H Q I z => z.elim (h1.run pins s σ H Q I) (h2.run pins s σ H Q I)⟩
/-- what a choice by the values gives, by either rule -/
theorem tI_choose {g : Gm} {W : WX} {da db : De} {f1 f2 : D → D → Hs → Re} {c : D → D → Hs → Bool} {σ : St} {H : Hp} {Q : VK} (h : tI g W (dBin (fun x y G => if c x y G = true then f1 x y G else f2 x y G) da db) σ H Q) : tI g W (dBin f1 da db) σ H Q ∨ tI g W (dBin f2 da db) σ H Q := by
  obtain ⟨m, r, G, s, sl, p⟩ := h
  unfold dBin at p
  cases e1 : da r G with
  | stuck => rw [e1] at p; exact p.elim
  | exc c ns ds G' => exact .inl ⟨m, r, G, s, sl, by unfold dBin; rw [e1] at p ⊢; exact p⟩
  | ok x G1 =>
    rw [e1] at p
    simp only [bind_ok] at p
    cases e2 : db r G1 with
    | stuck => rw [e2] at p; exact p.elim
    | exc c ns ds G' => exact .inl ⟨m, r, G, s, sl, by unfold dBin; rw [e1]; simp only [bind_ok]; rw [e2] at p ⊢; exact p⟩
    | ok y G2 =>
      rw [e2] at p
      simp only [bind_ok] at p
      split at p
      · exact .inl ⟨m, r, G, s, sl, by unfold dBin; rw [e1]; simp only [bind_ok]; rw [e2]; exact p⟩
      · exact .inr ⟨m, r, G, s, sl, by unfold dBin; rw [e1]; simp only [bind_ok]; rw [e2]; exact p⟩
theorem fItem_eq : fItem = fun x y G => if (dkOf G x).isSome = true then fGet x y G else fIx x y G := by
  funext x y G
  unfold fItem
  cases dkOf G x <;> rfl
section
variable {Z : Zc} {o i : Expr} {do_ di : De} {pos : Pos}
theorem pd_item (ho : PD Z o do_) (hi : PD Z i di) (hs : NoSl i := by intro _ _; rfl) : PD Z (.Subscript o i pos) (dBin fItem do_ di) := fun X W ok => by
  refine peI (PE.or (pd_dget ho hi hs X W ok) (pd_ix ho hi hs X W ok)) fun σ H Q h => ?_
  rw [fItem_eq] at h
  exact tI_choose (c := fun x _ G => (dkOf G x).isSome) h
end
end BL

set_option Elab.async false
set_option linter.all false
set_option maxRecDepth 100000
set_option maxHeartbeats 1000000
namespace BL
open PySem L2

section
variable {Z : Zc} {x qual : Str} {st : Stmt} {f : Addr} {fd : FuncData} {N ps : List Str} {k : Nat} {db : Dst} {dvs : List V} {kws : List (Str × V)}
/-- a def as the head tells it -/
abbrev FnE (K : PySem.W.Frag) (x qual : Str) (st : Stmt) (dvs : List V) (f : Addr) (fd : FuncData) : Prop := FunD K x qual (defArgs st) (defBody st) (defScope st) dvs [] f fd
theorem fnd_pop (Fn : FnE Z.K x qual st dvs f fd) (S : FnScope N ps (defScope st)) (hb : ∀ rv, PSDs (Z.dfn N (defScope st) k rv) (defBody st) db) : FnD Z.toZb (k + 1) f fd ps (runPop N.length db) := by
  refine ⟨Fn.ok (CX := L2.CX Z.P Z.w) S (fun vs H Q E h => h.1) (fun cdv A outer s H vs Q E hr h => ?_), Fn.kp⟩
  obtain ⟨hl, rv, m, G, ds, s0, rs, p⟩ := h
  refine ⟨_, hb rv _ _ (Ok.dfn (Z := Z) S hr rv), m, _, G, s0, start_sl (N := N) rs, ?_⟩
  show PostS (Z.g.rvd rv) _ m G.length H _ (db (startE N.length ds) G)
  unfold runPop at p
  cases e : db (startE N.length ds) G with
  | rt d G' =>
    rw [e] at p
    simp only [endPop] at p
    intro v m' H' x' s' rv'
    cases q : popD G.length d G' with
    | none => rw [q] at p; exact p.elim
    | some d' =>
      rw [q] at p
      refine p v m' H' ?_ (s'.pop _) ?_
      · rw [take_len x'.le]; exact x'.popped
      · rw [take_len x'.le]; exact popD_rp s' x'.le rv' q
  | nx r G' =>
    rw [e] at p
    intro σ' m' H' x' s' sl'
    refine p .non m' H' ?_ (s'.pop _) rfl
    rw [take_len x'.le]; exact x'.popped
  | exc c ns es r G' =>
    rw [e] at p
    simp only [endPop] at p
    intro σ' da m' H' xs x' s' sl' h nb rs'
    cases q : popDs G.length es G' with
    | none => rw [q] at p; exact p.elim
    | some es' =>
      rw [q] at p
      refine p da m' H' xs ?_ (s'.pop _) h ?_ ?_
      · rw [take_len x'.le]; exact x'.popped
      · rw [take_len x'.le]; exact fun z => nb (Bd.mono x'.le z)
      · rw [take_len x'.le]; exact popDs_rp s' x'.le rs' q
  | bk r G' => rw [e] at p; exact p.elim
  | ct r G' => rw [e] at p; exact p.elim
  | stuck => rw [e] at p; exact p.elim
theorem fnd_keep (Fn : FnE Z.K x qual st dvs f fd) (S : FnScope N ps (defScope st)) (hb : ∀ rv, PSDs (Z.dfn N (defScope st) k rv) (defBody st) db) : FnD Z.toZb (k + 1) f fd ps (runKeep N.length db) := by
  refine ⟨Fn.ok (CX := L2.CX Z.P Z.w) S (fun vs H Q E h => h.1) (fun cdv A outer s H vs Q E hr h => ?_), Fn.kp⟩
  obtain ⟨hl, rv, m, G, ds, s0, rs, p⟩ := h
  refine ⟨_, hb rv _ _ (Ok.dfn (Z := Z) S hr rv), m, _, G, s0, start_sl (N := N) rs, ?_⟩
  show PostS (Z.g.rvd rv) _ m G.length H _ (db (startE N.length ds) G)
  unfold runKeep at p
  cases e : db (startE N.length ds) G with
  | rt d G' => rw [e] at p; exact p
  | nx r G' => rw [e] at p; exact fun σ' m' H' x' s' sl' => p .non m' H' x' s' rfl
  | exc c ns es r G' => rw [e] at p; exact fun σ' da m' H' xs x' s' sl' h nb rs' => p da m' H' xs x' s' h nb rs'
  | bk r G' => rw [e] at p; exact p.elim
  | ct r G' => rw [e] at p; exact p.elim
  | stuck => rw [e] at p; exact p.elim
end
/-! ### a law's end -/
/-- the script, as it is handed in -/
def scr (ns : List Int) : D := .t (.lst (ns.map T.int))
def spL (K : PySem.W.Frag) (n : Nat) : Sp := fun vs H Q _ => ∃ (a : Addr) (ns : List Int), vs = [.ref a] ∧ ns.length ≤ n ∧ Only H ∧ SqL K H a (ns.map V.int) ∧ ∀ H', Q (.bl true) H'
theorem rps_ints {g : Gm0} {B : Addr → Prop} {H : Hp} : ∀ {ns : List Int}, Rps g B H (ns.map T.int) (ns.map V.int)
  | [] => rfl
  | n :: ns => ⟨_, _, rfl, rfl, rps_ints⟩
theorem law_ok {Z : Zb} {k n : Nat} {f : Addr} {fd : FuncData} {x : Str} {F : Fd} (h : FnD Z k f fd [x] F) (hn : n ≤ sizeLine) (htb : Z.tb = []) (hF : ∀ ns : List Int, ns.length ≤ n → ∃ G, F [scr ns] [] = .ok (.t (.bl true)) G) : FnOk Z.P Z.w Z.K Z.mg Z.base L2.CX0 k f fd [x] (spL Z.K n) where
  len := fun vs H Q E ⟨a, ns, e, _⟩ => by subst e; rfl
  run := fun A outer s H args us vs Q E hr e0 hb hv ⟨a, ns, e, hl, hO, hS, q⟩ => by
    subst e
    obtain ⟨G, hG⟩ := hF ns hl
    refine codeAny_mono (h.ok.run A outer s H args us _ Q E0 hr e0 hb hv ⟨rfl, [], fun _ => 0, [], [scr ns], ⟨fun i o z => by simp at z, fun i j z => absurd z (Nat.not_lt_zero _), fun b o z => ?_, ?_, fun b z => (by cases z)⟩, ⟨_, _, rfl, ⟨a, ns.map V.int, rfl, ?_, rps_ints⟩, rfl⟩, ?_⟩) ?_
    · rcases hO b with hb' | ⟨ob, xs, hb'⟩
      · rw [hb'] at z; cases z
      · rw [hb'] at z
        cases z
        obtain ⟨_, q⟩ := e0.hok b _ hb'
        exact q.1
    · show LamX.Tabs Z.tb H
      rw [htb]
      intro p hp
      cases hp
    · rcases hS with hS | hS
      · exact .inl ⟨hS, fun z => by
          rcases z with ⟨i, hi, _⟩ | z
          · exact absurd hi (Nat.not_lt_zero _)
          · cases z⟩
      · exact .inr hS
    · rw [hG]
      intro v m' H' _ _ rv
      cases rv
      exact q H'
    · intro r s' hq
      cases r with
      | error e =>
        obtain ⟨_, _, _, _, _, _, _, _, _, _, _, _, z⟩ := hq
        exact z.elim
      | ok fl => cases fl <;> exact hq
end BL

set_option Elab.async false
set_option linter.all false
set_option maxRecDepth 100000
set_option maxHeartbeats 1000000
namespace BL
open PySem L2

/-! ### a, b = .. through a pair -/
def dTwo (i j : Nat) (d : De) : Dst := fun r G => (d r G).thn r fun x G1 => match asT x with
  | some [a, b] => .nx ((r.set i (some a)).set j (some b)) G1
  | _ => .stuck
section
variable {Z : Zc} {a b e : Expr} {da db d : De} {i j : Nat} {x y : Str} {px py pt pos pt2 : Pos} {kt k2 : Nat}
theorem two_pg {X : Cx} {W : WX} (ok : Ok Z X W) (hi : Z.N[i]? = some x) (hx : Loc Z.sc x) (hf : Z.fn x = true ∨ Z.sc.names.lookup x = some .local) (hj : Z.N[j]? = some y) (hy : Loc Z.sc y) (hf' : Z.fn y = true ∨ Z.sc.names.lookup y = some .local) :
    PG X (.Tuple [.Name x px, .Name y py] kt pt) (gTup Z.K 2 (gCons (gName i) (gCons (gName j) gNil))) :=
  ok.K ▸ pg_tup (n := 2) ok.calm (pgs_cons (pg_name (i := i) ok.nd (by rw [ok.N]; exact hi) (by rw [ok.sc]; exact hx) (by rw [ok.fn, ok.sc]; exact hf)) (pgs_cons (pg_name (i := j) ok.nd (by rw [ok.N]; exact hj) (by rw [ok.sc]; exact hy) (by rw [ok.fn, ok.sc]; exact hf')) pgs_nil))
theorem psd_par2 (ha : PD Z a da) (hb : PD Z b db) (hi : Z.N[i]? = some x := by rfl) (hj : Z.N[j]? = some y := by rfl)
    (hx : Loc Z.sc x := by first | exact Or.inl rfl | exact Or.inr rfl) (hf : Z.fn x = true ∨ Z.sc.names.lookup x = some .local := by first | exact .inl rfl | exact .inr rfl)
    (hy : Loc Z.sc y := by first | exact Or.inl rfl | exact Or.inr rfl) (hf' : Z.fn y = true ∨ Z.sc.names.lookup y = some .local := by first | exact .inl rfl | exact .inr rfl)
    (he : ∀ env, starEach [a, b] env = (false, eval a env) :: starEach [b] env := by intro _; rfl) (he2 : ∀ env, starEach [b] env = (false, eval b env) :: starEach [] env := by intro _; rfl)
    (hw : ∀ env : Env, env.scope = Z.sc → swappedStores [.Tuple [.Name x px, .Name y py] kt pt] (.Tuple [a, b] k2 pt2) env = pure none := by intro env h; cases env; cases h; rfl)
    (hs : ∀ env, swapsWithSole [.Tuple [.Name x px, .Name y py] kt pt] (.Tuple [a, b] k2 pt2) pos.line env = pure false := by intro _; rfl) (h1 : ∀ env, (assignEach [.Tuple [.Name x px, .Name y py] kt pt] env).map (·.2) = [assign (.Tuple [.Name x px, .Name y py] kt pt) env] := by intro _; rfl) :
    PSD Z (.Assign [.Tuple [.Name x px, .Name y py] kt pt] (.Tuple [a, b] k2 pt2) pos) (dPar i j da db) := fun X W ok => by
  refine psI (ps_asg (pe_tup (pa_cons (ha X W ok) (pa_cons (hb X W ok) pa_nil (he2 _)) (he _))) (two_pg ok hi hx hf hj hy hf') (hs _) (hw _ ok.sc) (h1 _)) fun D σ H ⟨m, r, G, s, sl, p⟩ => ?_
  refine tS_bind s sl p fun u G1 v m1 H1 e1 x1 s1 sl1 ru p1 => ?_
  refine tS_bind s1 sl1 p1 fun z G2 t m2 H2 e2 x2 s2 sl2 rz p2 => ?_
  refine ⟨by show 2 ≤ sizeLine; decide, fun tp htp => ?_⟩
  have x3 : Ex m2 G2.length H2 m2 G2.length (upd H2 tp (.tup [v, t])) := Ex.new htp
  have s3 := s2.new (o := .tup [v, t]) htp (by show 2 ≤ sizeLine; decide)
  refine ⟨tp, [v, t], rfl, .inl (.inl upd_same), rfl, v, [t], rfl, t, [], rfl, rfl, ?_⟩
  exact p2 _ m2 _ x3 s3 (((Sl.ex x3 s2 sl2).set (RpD.ex x3 s2 x3.le (Nat.le_refl _) (RpD.ex x2 s1 x2.le (Nat.le_refl _) ru))).set (RpD.ex x3 s2 x3.le (Nat.le_refl _) rz))
theorem psd_two (he : PD Z e d) (hi : Z.N[i]? = some x := by rfl) (hj : Z.N[j]? = some y := by rfl)
    (hx : Loc Z.sc x := by first | exact Or.inl rfl | exact Or.inr rfl) (hf : Z.fn x = true ∨ Z.sc.names.lookup x = some .local := by first | exact .inl rfl | exact .inr rfl)
    (hy : Loc Z.sc y := by first | exact Or.inl rfl | exact Or.inr rfl) (hf' : Z.fn y = true ∨ Z.sc.names.lookup y = some .local := by first | exact .inl rfl | exact .inr rfl)
    (hw : ∀ env : Env, env.scope = Z.sc → swappedStores [.Tuple [.Name x px, .Name y py] kt pt] e env = pure none := by intro env h; cases env; cases h; rfl)
    (hs : ∀ env, swapsWithSole [.Tuple [.Name x px, .Name y py] kt pt] e pos.line env = pure false := by intro _; rfl) (h1 : ∀ env, (assignEach [.Tuple [.Name x px, .Name y py] kt pt] env).map (·.2) = [assign (.Tuple [.Name x px, .Name y py] kt pt) env] := by intro _; rfl) :
    PSD Z (.Assign [.Tuple [.Name x px, .Name y py] kt pt] e pos) (dTwo i j d) := fun X W ok => by
  refine psI (ps_asg (he X W ok) (two_pg ok hi hx hf hj hy hf') (hs _) (hw _ ok.sc) (h1 _)) fun D σ H ⟨m, r, G, s, sl, p⟩ => ?_
  refine tS_bind s sl p fun u G1 v m1 H1 e1 x1 s1 sl1 ru p1 => ?_
  split at p1
  · rename_i a b q
    obtain ⟨t, xs, rfl, h, r1⟩ := asT_rp ru q
    obtain ⟨z1, zs, rfl, ra, z2, zs2, rfl, rb, r2⟩ := r1
    cases r2
    exact ⟨t, [z1, z2], rfl, h, rfl, z1, [z2], rfl, z2, [], rfl, rfl, p1 _ m1 H1 Ex.refl s1 ((sl1.set ra).set rb)⟩
  · exact p1.elim
end
/-! ### a callee, all in one -/
structure Ca (b : Zb) (k : Nat) (f : Addr) (ps : List Str) (F : Fd) (dts : List T) : Prop where
  ex : ∃ fd dvs dus, FnD b k f fd ps F ∧ Binds b.K fd ps dus ∧ Vals dvs dus ∧ Dfl b.g.toGm0 dts dvs
/-- .. called with keywords right behind the values -/
structure CaK (b : Zb) (k n : Nat) (f : Addr) (ps ks : List Str) (F : Fd) (dts : List T) : Prop where
  ex : ∃ fd dvs g, FnD b k f fd ps F ∧ KBn b.K fd ps n ks g (fun vs zs => vs ++ zs ++ dvs) ∧ Dfl b.g.toGm0 dts dvs
theorem Ca.mono {b : Zb} {k k' : Nat} {f : Addr} {ps : List Str} {F : Fd} {dts : List T} (h : Ca b k f ps F dts) (hk : k ≤ k') : Ca b k' f ps F dts := by
  obtain ⟨fd, dvs, dus, h1, h2⟩ := h.ex
  exact ⟨fd, dvs, dus, h1.mono hk, h2⟩
/-- f(e, ..) -/
def dCall (das : List De) (F : Fd) (dts : List T) : De := dArgs das fun ds G => F (ds ++ dts.map D.t) G
section
variable {Z : Zc} {x m : Str} {a b o e : Expr} {es : List Expr} {kws : List Keyword} {da db do_ d : De} {das dks : List De} {F : Fd} {k c : Nat} {f : Addr} {ps ks : List Str} {dts : List T} {p pos apos : Pos} {oth : List Nat} {pl : Env → Sem Bool}
theorem pd_callC (h : Ca Z.toZb k f ps F dts) (hk : k ≤ Z.k) (hm : Z.mg x = some (.ref f)) (ha : PDA Z (e :: es) das) (hn : das.length + dts.length = ps.length) (hg : GlS Z x := by rfl)
    (hdb : (x == ("__debug__" : Str)) = false := by decide) (he : ∀ env, starEach (e :: es) env = (false, eval e env) :: starEach es env := by intro _; rfl) (hpl : ∀ env, (backTo pos (starEach es env)).any (·.1) = false := by intro _; rfl) :
    PD Z (.Call (.Name x p) (e :: es) [] pos) (dCall das F dts) := by
  obtain ⟨fd, dvs, dus, h1, h2, h3, h4⟩ := h.ex
  exact pd_call h1 hk hm h2 h3 h4 ha hn hg hdb he hpl
theorem pd_methC (ho : PD Z o do_) (hc : Cls Z.K (Z.ca c)) (hm : Meth Z.K (Z.ca c) m f) (h : Ca Z.toZb k f ps F dts) (hk : k ≤ Z.k) (ha : PDA Z (e :: es) das) (hn : das.length + dts.length + 1 = ps.length)
    (he : ∀ env, starEach (e :: es) env = (false, eval e env) :: starEach es env := by intro _; rfl) (hpl : ∀ env, (backTo pos (starEach es env)).any (·.1) = false := by intro _; rfl) (ht : MethEval pl o m apos (e :: es) pos := by intro _; rfl) :
    PD Z (.Call (.Attribute o m apos) (e :: es) [] pos) (dMeth c m do_ das F dts) := by
  obtain ⟨fd, dvs, dus, h1, h2, h3, h4⟩ := h.ex
  exact pd_meth ho hc hm h1 hk h2 h3 h4 ha hn he hpl ht
theorem pd_meth0C (ho : PD Z o do_) (hc : Cls Z.K (Z.ca c)) (hm : Meth Z.K (Z.ca c) m f) (h : Ca Z.toZb k f ps F dts) (hk : k ≤ Z.k) (hn : dts.length + 1 = ps.length) (ht : MethEval pl o m apos [] pos := by intro _; rfl) :
    PD Z (.Call (.Attribute o m apos) [] [] pos) (dMeth c m do_ [] F dts) := by
  obtain ⟨fd, dvs, dus, h1, h2, h3, h4⟩ := h.ex
  exact pd_meth0 ho hc hm h1 hk h2 h3 h4 hn ht
theorem pd_makeC (hM : Mk Z.K (Z.ca c) f) (h : Ca Z.toZb k f ps F dts) (hk : k + 1 ≤ Z.k) (hm : Z.mg x = some (.ref (Z.ca c))) (ha : PDA Z (e :: es) das) (hn : das.length + dts.length + 1 = ps.length) (hg : GlS Z x := by rfl)
    (hdb : (x == ("__debug__" : Str)) = false := by decide) (he : ∀ env, starEach (e :: es) env = (false, eval e env) :: starEach es env := by intro _; rfl) (hpl : ∀ env, (backTo pos (starEach es env)).any (·.1) = false := by intro _; rfl) :
    PD Z (.Call (.Name x p) (e :: es) [] pos) (dMake c das F dts) := by
  obtain ⟨fd, dvs, dus, h1, h2, h3, h4⟩ := h.ex
  exact pd_make hM h1 hk hm h2 h3 h4 ha hn hg hdb he hpl
theorem pd_makeKC {n : Nat} (hM : Mk Z.K (Z.ca c) f) (h : CaK Z.toZb k n f ps ks F dts) (hnn : n = das.length + 1) (hk : k + 1 ≤ Z.k) (hm : Z.mg x = some (.ref (Z.ca c))) (ha : PDA Z (e :: es) das) (hkw : PDK Z kws dks) (hkl : dks.length = ks.length) (hn : das.length + dks.length + dts.length + 1 = ps.length) (hg : GlS Z x := by rfl)
    (hall : ∀ env, (backToKw pos (keywordEach kws env)).all (·.1.isSome) = true := by intro _; rfl) (hks : ∀ env, (backToKw pos (keywordEach kws env)).filterMap (·.1) = ks := by intro _; rfl)
    (hdb : (x == ("__debug__" : Str)) = false := by decide) (he : ∀ env, starEach (e :: es) env = (false, eval e env) :: starEach es env := by intro _; rfl)
    (hpl : ∀ env, ((backTo pos (starEach (e :: es) env)).any (·.1) || (backToKw pos (keywordEach kws env)).any (·.1.isNone)) = false := by intro _; rfl) :
    PD Z (.Call (.Name x p) (e :: es) kws pos) (dMake c (das ++ dks) F dts) := by
  obtain ⟨fd, dvs, g, h1, h2, h3⟩ := h.ex
  subst hnn
  exact pd_makeK hM h1 hk hm h2 h3 ha hkw hkl hn hg hall hks hdb he hpl
/-- what == of a class with an own __eq__ asks -/
structure EqA (b : Zb) (k : Nat) (c : Nat) (oth : List Nat) (f : Addr) (ps : List Str) (F : Fd) : Prop where
  ca : Ca b k f ps F []
  eq : EqF b.K (b.ca c) f
  hi : ∀ c', c' = c ∨ c' ∈ oth → InsF b.K (b.ca c')
  ho : ∀ c', c' ∈ oth → PySem.W.notFirst b.K (b.ca c) (.ref (b.ca c')) = true
  hn : 2 = ps.length
theorem EqA.ex {b : Zb} {ps : List Str} (h : EqA b k c oth f ps F) : ∃ fd, FnD b k f fd ps F ∧ Binds b.K fd ps [] := by
  obtain ⟨fd, dvs, dus, h1, h2, h3, h4⟩ := h.ca.ex
  have := h4 (fun _ => False) (fun _ => none)
  cases dvs with
  | nil => cases h3; exact ⟨fd, h1, h2⟩
  | cons v vs => cases this
theorem pd_eqC (h : EqA Z.toZb k c oth f ps F) (hk : k + 1 ≤ Z.k) (ha : PD Z a da) (hb : PD Z b db) : PD Z (.Compare a [.Eq] [b] pos) (dBin (fEqO c oth false F) da db) := by
  obtain ⟨fd, h1, h2⟩ := h.ex
  exact pd_eqO h1 hk h2 h.eq h.hi h.ho h.hn ha hb
theorem pdt_eqC (h : EqA Z.toZb k c oth f ps F) (hk : k + 1 ≤ Z.k) (ha : PD Z a da) (hb : PD Z b db) : PDT Z (.Compare a [.Eq] [b] pos) (dBin (fEqO c oth false F) da db) := by
  obtain ⟨fd, h1, h2⟩ := h.ex
  exact pdt_eqO h1 hk h2 h.eq h.hi h.ho h.hn ha hb
theorem pd_neC (h : EqA Z.toZb k c oth f ps F) (hk : k + 1 ≤ Z.k) (ha : PD Z a da) (hb : PD Z b db) : PD Z (.Compare a [.NotEq] [b] pos) (dBin (fEqO c oth true F) da db) := by
  obtain ⟨fd, h1, h2⟩ := h.ex
  exact pd_neO h1 hk h2 h.eq h.hi h.ho h.hn ha hb
theorem pdt_neC (h : EqA Z.toZb k c oth f ps F) (hk : k + 1 ≤ Z.k) (ha : PD Z a da) (hb : PD Z b db) : PDT Z (.Compare a [.NotEq] [b] pos) (dBin (fEqO c oth true F) da db) := by
  obtain ⟨fd, h1, h2⟩ := h.ex
  exact pdt_neO h1 hk h2 h.eq h.hi h.ho h.hn ha hb
structure LenA (b : Zb) (k : Nat) (c : Nat) (f : Addr) (ps : List Str) (F : Fd) : Prop where
  ca : Ca b k f ps F []
  len : LenF b.K (b.ca c) f
  hn : 1 = ps.length
theorem pd_lenC (h : LenA Z.toZb k c f ps F) (hk : k + 1 ≤ Z.k) (hm : Z.mg "len" = none) (ha : PD Z e d) (hg : GlS Z "len" := by rfl) (he : ∀ env, starEach [e] env = (false, eval e env) :: starEach [] env := by intro _; rfl) :
    PD Z (.Call (.Name "len" p) [e] [] pos) (dArgs [d] (fLenO c F)) := by
  obtain ⟨fd, dvs, dus, h1, h2, h3, h4⟩ := h.ca.ex
  have := h4 (fun _ => False) (fun _ => none)
  cases dvs with
  | nil => cases h3; exact pd_lenO h1 hk h2 h.len h.hn hm ha hg he
  | cons v vs => cases this
/-! ### constants of the module -/
theorem pd_gI {i : Int} (h : ∃ t, Z.mg x = some (.int i t)) (hg : Z.sc.names.lookup x = some .globalImplicit := by rfl) (hd : (x == ("__debug__" : Str)) = false := by decide) : PD Z (.Name x p) (dC (.int i)) := by
  obtain ⟨t, h⟩ := h
  exact pd_glob (v := .int i) hg h ⟨t, rfl⟩ (fun _ _ _ => rfl) hd
theorem pd_gS {z : Str} (h : ∃ t, Z.mg x = some (.str z t)) (ho : okS z := by decide +kernel) (hg : Z.sc.names.lookup x = some .globalImplicit := by rfl) (hd : (x == ("__debug__" : Str)) = false := by decide) : PD Z (.Name x p) (dC (.str z)) := by
  obtain ⟨t, h⟩ := h
  exact pd_glob (v := .str z) hg h ⟨t, rfl⟩ (fun _ _ _ => ⟨rfl, ho⟩) hd
end
/-! ### how a def is found -/
section
variable {b : Zb} {x qual : Str} {st : Stmt} {f : Addr} {N ps : List Str} {k : Nat} {db : Dst} {F : Fd}
def Zb.dfn (b : Zb) (N : List Str) (sc : Scope) (k : Nat) (rv : List Addr) : Zc := { b with N := N, sc := sc, fn := fun _ => true, k := k, rv := rv }
def Zb.z (b : Zb) : Zc := { b with N := [], sc := default, fn := fun _ => true, k := 0, rv := [] }
theorem ca_pop (Fn : ∃ fd, FnE b.K x qual st [] f fd) (S : FnScope N ps (defScope st)) (hb : ∀ rv, PSDs (b.dfn N (defScope st) k rv) (defBody st) db)
    (hbind : ∀ (kV doc pm : Value) (an : Option Addr) (cdv ct : Value) (us : List Value), us.length = ps.length → bindArgs (PySem.W.fnOf x qual (defArgs st) (defBody st) (defScope st) .none kV doc pm an cdv ct) ⟨us, []⟩ = pure (ps.zip us)) : Ca b (k + 1) f ps (runPop N.length db) [] := by
  obtain ⟨fd, Fn⟩ := Fn
  exact ⟨fd, [], [], fnd_pop (Z := b.z) Fn S hb, Fn.bindsN hbind, .nil, dfl_nil⟩
theorem ca_keep (Fn : ∃ fd, FnE b.K x qual st [] f fd) (S : FnScope N ps (defScope st)) (hb : ∀ rv, PSDs (b.dfn N (defScope st) k rv) (defBody st) db)
    (hbind : ∀ (kV doc pm : Value) (an : Option Addr) (cdv ct : Value) (us : List Value), us.length = ps.length → bindArgs (PySem.W.fnOf x qual (defArgs st) (defBody st) (defScope st) .none kV doc pm an cdv ct) ⟨us, []⟩ = pure (ps.zip us)) : Ca b (k + 1) f ps (runKeep N.length db) [] := by
  obtain ⟨fd, Fn⟩ := Fn
  exact ⟨fd, [], [], fnd_keep (Z := b.z) Fn S hb, Fn.bindsN hbind, .nil, dfl_nil⟩
variable {dvs : List V} {dts : List T}
/-- a def with defaults, called with n values -/
theorem ca_dfl (Fn : ∃ fd, FnE b.K x qual st dvs f fd) (hF : ∀ fd, FnE b.K x qual st dvs f fd → FnD b k f fd ps F) (n j : Nat) (hd : dvs ≠ []) (hn : n + (dvs.length - j) = ps.length) (hdf : Dfl b.g.toGm0 dts (dvs.drop j))
    (h : ∀ (T : Addr) (kV doc pm : Value) (an : Option Addr) (cdv ct : Value) (us its : List Value), us.length = n → its.length = dvs.length →
      ∃ k, bindArgs (PySem.W.fnOf x qual (defArgs st) (defBody st) (defScope st) (.ref T) kV doc pm an cdv ct) ⟨us, []⟩ = seqItems? (.ref T) >>= k ∧ k (some its.toArray) = pure (ps.zip (us ++ its.drop j))) : Ca b k f ps F dts := by
  obtain ⟨fd, Fn⟩ := Fn
  obtain ⟨ds, h1, h2⟩ := Fn.binds1 n j hd hn h
  exact ⟨fd, _, ds, hF fd Fn, h2, h1, hdf⟩
/-- .. with n values and keywords right behind them -/
theorem ca_kw (Fn : ∃ fd, FnE b.K x qual st dvs f fd) (hF : ∀ fd, FnE b.K x qual st dvs f fd → FnD b k f fd ps F) (n j : Nat) (ks : List Str) (hd : dvs ≠ []) (hdf : Dfl b.g.toGm0 dts (dvs.drop j))
    (h : ∀ (T : Addr) (kV doc pm : Value) (an : Option Addr) (cdv ct : Value) (us its ws : List Value), us.length = n → its.length = dvs.length → ws.length = ks.length →
      ∃ k, bindArgs (PySem.W.fnOf x qual (defArgs st) (defBody st) (defScope st) (.ref T) kV doc pm an cdv ct) ⟨us, ks.zip ws⟩ = seqItems? (.ref T) >>= k ∧ k (some its.toArray) = pure (ps.zip (us ++ ws ++ its.drop j))) : CaK b k n f ps ks F dts := by
  obtain ⟨fd, Fn⟩ := Fn
  obtain ⟨its, h1⟩ := Fn.kbindsD n ks (fun vs ds zs => vs ++ zs ++ ds.drop j) hd (fun r1 r2 r3 => (r1.append r3).append (r2.drop j)) h
  exact ⟨fd, dvs.drop j, _, hF fd Fn, h1, hdf⟩
theorem hF_pop (S : FnScope N ps (defScope st)) (hb : ∀ rv, PSDs (b.dfn N (defScope st) k rv) (defBody st) db) : ∀ fd, FnE b.K x qual st dvs f fd → FnD b (k + 1) f fd ps (runPop N.length db) := fun fd Fn => fnd_pop (Z := b.z) Fn S hb
theorem hF_keep (S : FnScope N ps (defScope st)) (hb : ∀ rv, PSDs (b.dfn N (defScope st) k rv) (defBody st) db) : ∀ fd, FnE b.K x qual st dvs f fd → FnD b (k + 1) f fd ps (runKeep N.length db) := fun fd Fn => fnd_keep (Z := b.z) Fn S hb
end
end BL

set_option Elab.async false
set_option linter.all false
set_option maxRecDepth 100000
set_option maxHeartbeats 1000000
namespace BL
open PySem L2

/-! ### facts of classes, as the head may find them -/
def insB (K : PySem.W.Frag) (C : Addr) : Bool := He.eqO (PySem.W.findIn K (.ref C) "__class__") (some (some (.builtin "object.__class__"))) && (He.eqO (PySem.W.specialIn K (.builtin "object.__class__") "__get__") (some (some (.builtin "getset_descriptor.__get__"))) &&
  (decide (PySem.W.takesIn K (.builtin "object.__class__") = some true) && decide (PySem.W.mroIn K C (.type "object") = some true)))
theorem insB_ok {K : PySem.W.Frag} {C : Addr} (hc : Cls K C) (h : insB K C = true) : InsF K C := by
  obtain ⟨h1, h⟩ := He.ba h
  obtain ⟨h2, h⟩ := He.ba h
  obtain ⟨h3, h4⟩ := He.ba h
  exact ⟨hc, He.eqO_ok h1, He.eqO_ok h2, of_decide_eq_true h3, of_decide_eq_true h4⟩
def eqB (K : PySem.W.Frag) (C f : Addr) : Bool := He.eqO (PySem.W.findIn K (.ref C) "__eq__") (some (some (.ref f))) && (PySem.W.isFn K (.ref f) && (He.eqO (PySem.W.findIn K (.ref C) "__ne__") (some (some (.builtin "object.__ne__"))) && decide (PySem.W.mroIn K C (.type "object") = some true)))
theorem eqB_ok {K : PySem.W.Frag} {C f : Addr} (h : eqB K C f = true) : EqF K C f := by
  obtain ⟨h1, h⟩ := He.ba h
  obtain ⟨h2, h⟩ := He.ba h
  obtain ⟨h3, h4⟩ := He.ba h
  exact ⟨He.eqO_ok h1, h2, He.eqO_ok h3, of_decide_eq_true h4⟩
def lenB (K : PySem.W.Frag) (C f : Addr) : Bool := He.eqO (PySem.W.findIn K (.ref C) "__len__") (some (some (.ref f))) && PySem.W.isFn K (.ref f)
theorem lenB_ok {K : PySem.W.Frag} {C f : Addr} (h : lenB K C f = true) : LenF K C f := by
  obtain ⟨h1, h2⟩ := He.ba h
  exact ⟨He.eqO_ok h1, h2⟩
/-- C against the built-in types, itself and the others os -/
def kitB' (K : PySem.W.Frag) (C : Addr) (os : List Addr) : Bool := (["NoneType", "bool", "int", "str", "tuple", "list", "dict"].all fun n => decide (PySem.W.kitOne K (.type n) (.ref C) = some false)) && (decide (PySem.W.kitOne K (.ref C) (.ref C) = some true) && os.all fun c => decide (PySem.W.kitOne K (.ref c) (.ref C) = some false))
theorem kitB_ok {g : Gm} {c : Nat} {os : List Nat} (hi : ∀ c', c' = c ∨ c' ∈ os → InsF g.K (g.ca c')) (h : kitB' g.K (g.ca c) (os.map g.ca) = true) : IsiOk g (.ref (g.ca c)) (isOwn c os) := by
  obtain ⟨h1, h⟩ := He.ba h
  obtain ⟨h2, h3⟩ := He.ba h
  rw [List.all_eq_true] at h1 h3
  exact isi_own hi (fun n hn => of_decide_eq_true (h1 n hn)) (of_decide_eq_true h2) fun c' hc => of_decide_eq_true (h3 (g.ca c') (List.mem_map.mpr ⟨c', hc, rfl⟩))
def firstB (K : PySem.W.Frag) (C : Addr) (os : List Addr) : Bool := os.all fun c => PySem.W.notFirst K C (.ref c)
theorem firstB_ok {K : PySem.W.Frag} {C : Addr} {ca : Nat → Addr} {os : List Nat} (h : firstB K C (os.map ca) = true) : ∀ c', c' ∈ os → PySem.W.notFirst K C (.ref (ca c')) = true := fun c' hc => by
  have := (List.all_eq_true.mp h) (ca c') (List.mem_map.mpr ⟨c', hc, rfl⟩)
  exact this
end BL

set_option Elab.async false
set_option linter.all false
set_option maxRecDepth 100000
set_option maxHeartbeats 1000000
namespace BL
open PySem L2

/-! ### what a denotation gives, read backwards -/
abbrev XP := Nat → List Str → List D → Hs → Prop
@[irreducible] def Wp : Re → (D → Hs → Prop) → XP → Prop
  | .ok d G, Q, _ => Q d G
  | .exc c ns ds G, _, E => E c ns ds G
  | .stuck, _, _ => False
abbrev NP := Ev → Hs → Prop
abbrev TP := D → Hs → Prop
@[irreducible] def Ws : Rs → NP → TP → NP → NP → XP → Prop
  | .nx r G, n, _, _, _, _ => n r G
  | .rt d G, _, t, _, _, _ => t d G
  | .bk r G, _, _, b, _, _ => b r G
  | .ct r G, _, _, _, c, _ => c r G
  | .exc c ns ds _ G, _, _, _, _, x => x c ns ds G
  | .stuck, _, _, _, _, _ => False
/-- by a truth -/
@[irreducible] def Wt : Option Bool → Prop → Prop → Prop
  | some true, A, _ => A
  | some false, _, B => B
  | none, _, _ => False
theorem wt_some {b : Bool} {A B : Prop} : Wt (some b) A B = ((b = true → A) ∧ (b = false → B)) := by
  with_unfolding_all
  cases b
  · exact propext ⟨fun h => ⟨fun z => (nomatch z), fun _ => h⟩, fun h => h.2 rfl⟩
  · exact propext ⟨fun h => ⟨fun _ => h, fun z => (nomatch z)⟩, fun h => h.1 rfl⟩
section
variable {Q Q' : D → Hs → Prop} {E E' : XP} {N N' : NP} {R R' : TP} {B B' C C' : NP} {X X' : XP} {d : D} {G : Hs} {r : Ev}
@[simp] theorem wp_ok : Wp (.ok d G) Q E = Q d G := by
  with_unfolding_all exact rfl
@[simp] theorem wp_exc {c : Nat} {ns : List Str} {ds : List D} : Wp (.exc c ns ds G) Q E = E c ns ds G := by
  with_unfolding_all exact rfl
@[simp] theorem wp_stuck : Wp .stuck Q E = False := by
  with_unfolding_all exact rfl
@[simp] theorem ws_nx : Ws (.nx r G) N R B C X = N r G := by
  with_unfolding_all exact rfl
@[simp] theorem ws_rt : Ws (.rt d G) N R B C X = R d G := by
  with_unfolding_all exact rfl
@[simp] theorem ws_bk : Ws (.bk r G) N R B C X = B r G := by
  with_unfolding_all exact rfl
@[simp] theorem ws_ct : Ws (.ct r G) N R B C X = C r G := by
  with_unfolding_all exact rfl
@[simp] theorem ws_stuck : Ws .stuck N R B C X = False := by
  with_unfolding_all exact rfl
theorem Wp.mono {e : Re} (h : Wp e Q E) (k : ∀ x G, Q x G → Q' x G) (k' : ∀ c ns ds G, E c ns ds G → E' c ns ds G) : Wp e Q' E' := by
  with_unfolding_all
  cases e with
  | ok d G => exact k _ _ h
  | exc c ns ds G => exact k' _ _ _ _ h
  | stuck => exact h
theorem Wp.then {e : Re} (h : Wp e Q (fun _ _ _ _ => False)) (k : ∀ x G, Q x G → Q' x G) : Wp e Q' E' := by
  with_unfolding_all exact h.mono k fun _ _ _ _ z => z.elim
theorem Wp.of {e : Re} (h : e = .ok d G) (k : Q d G) : Wp e Q E := by
  with_unfolding_all
  rw [h]; exact k
theorem Wp.ex {e : Re} (h : Wp e Q (fun _ _ _ _ => False)) : ∃ x G, e = .ok x G ∧ Q x G := by
  with_unfolding_all
  cases e with
  | ok d G => exact ⟨_, _, rfl, h⟩
  | exc c ns ds G => exact h.elim
  | stuck => exact h.elim
theorem Ws.mono {s : Rs} (h : Ws s N R B C X) (h1 : ∀ r G, N r G → N' r G) (h2 : ∀ d G, R d G → R' d G) (h3 : ∀ r G, B r G → B' r G) (h4 : ∀ r G, C r G → C' r G) (h5 : ∀ c ns ds G, X c ns ds G → X' c ns ds G) : Ws s N' R' B' C' X' := by
  with_unfolding_all
  cases s with
  | nx r G => exact h1 _ _ h
  | rt d G => exact h2 _ _ h
  | bk r G => exact h3 _ _ h
  | ct r G => exact h4 _ _ h
  | exc c ns ds r G => exact h5 _ _ _ _ h
  | stuck => exact h
theorem wp_bind {e : Re} {k : D → Hs → Re} : Wp (e.bind k) Q E = Wp e (fun x G1 => Wp (k x G1) Q E) E := by
  with_unfolding_all
  cases e <;> rfl
theorem ws_thn {e : Re} {k : D → Hs → Rs} : Ws (e.thn r k) N R B C X = Wp e (fun x G1 => Ws (k x G1) N R B C X) X := by
  with_unfolding_all
  cases e <;> rfl
theorem ws_seq {a b : Dst} : Ws (dSeq a b r G) N R B C X = Ws (a r G) (fun r1 G1 => Ws (b r1 G1) N R B C X) R B C X := by
  with_unfolding_all
  unfold dSeq
  cases a r G <;> rfl
theorem ws_next : Ws (dNext r G) N R B C X = N r G := by
  with_unfolding_all exact rfl
theorem ws_never : Ws (dStuck r G) N R B C X = False := by
  with_unfolding_all exact rfl
theorem ws_set {i : Nat} {a : De} : Ws (dSet i a r G) N R B C X = Wp (a r G) (fun x G1 => N (r.set i (some x)) G1) X := by
  with_unfolding_all exact ws_thn
theorem ws_ret {a : De} : Ws (dRet a r G) N R B C X = Wp (a r G) R X := by
  with_unfolding_all exact ws_thn
theorem ws_retN : Ws (dRetN r G) N R B C X = R (.t .non) G := by
  with_unfolding_all exact rfl
theorem ws_drop {a : De} : Ws (dDrop a r G) N R B C X = Wp (a r G) (fun _ G1 => N r G1) X := by
  with_unfolding_all exact ws_thn
theorem wp_T {a : De} : Wp (dT a r G) Q E = Wp (a r G) (fun x G1 => Wt (truth G1 x) (Q (.t (.bl true)) G1) (Q (.t (.bl false)) G1)) E := by
  with_unfolding_all
  unfold dT
  rw [wp_bind]
  congr 1
  funext x G1
  cases truth G1 x with
  | none => rfl
  | some t => cases t <;> rfl
theorem ws_if {c : De} {a b : Dst} : Ws (dIf c a b r G) N R B C X = Wp (c r G) (fun x G1 => Wt (truth G1 x) (Ws (a r G1) N R B C X) (Ws (b r G1) N R B C X)) X := by
  with_unfolding_all
  unfold dIf
  rw [ws_thn, wp_T]
theorem wp_var {i : Nat} : Wp (dVar i r G) Q E = Wp (match r[i]? with | some (some d) => .ok d G | _ => .stuck) Q E := by
  with_unfolding_all exact rfl
theorem wp_C {t : T} : Wp (dC t r G) Q E = Q (.t t) G := by
  with_unfolding_all exact rfl
theorem wp_bin {f : D → D → Hs → Re} {a b : De} : Wp (dBin f a b r G) Q E = Wp (a r G) (fun x G1 => Wp (b r G1) (fun y G2 => Wp (f x y G2) Q E) E) E := by
  with_unfolding_all
  unfold dBin; simp only [wp_bind]
theorem wp_un {f : D → Hs → Re} {a : De} : Wp (dUn f a r G) Q E = Wp (a r G) (fun x G1 => Wp (f x G1) Q E) E := by
  with_unfolding_all
  unfold dUn; rw [wp_bind]
theorem wp_args0 {k : List D → Hs → Re} : Wp (dArgs [] k r G) Q E = Wp (k [] G) Q E := by
  with_unfolding_all exact rfl
theorem wp_args {a : De} {as : List De} {k : List D → Hs → Re} : Wp (dArgs (a :: as) k r G) Q E = Wp (a r G) (fun x G1 => Wp (dArgs as (fun xs G2 => k (x :: xs) G2) r G1) Q E) E := by
  with_unfolding_all exact wp_bind
theorem wp_call {as : List De} {F : Fd} {dts : List T} : Wp (dCall as F dts r G) Q E = Wp (dArgs as (fun ds G1 => F (ds ++ dts.map D.t) G1) r G) Q E := by
  with_unfolding_all exact rfl
theorem wp_not {a : De} : Wp (dNot a r G) Q E = Wp (a r G) (fun x G1 => Wt (truth G1 x) (Q (.t (.bl false)) G1) (Q (.t (.bl true)) G1)) E := by
  with_unfolding_all
  unfold dNot; rw [wp_bind, wp_T]; rfl
theorem wp_and {a b : De} : Wp (dAnd a b r G) Q E = Wp (a r G) (fun x G1 => Wt (truth G1 x) (Wp (b r G1) Q E) (Q x G1)) E := by
  with_unfolding_all
  unfold dAnd
  rw [wp_bind]
  congr 1
  funext x G1
  cases truth G1 x with
  | none => rfl
  | some t => cases t <;> rfl
theorem wp_or {a b : De} : Wp (dOr a b r G) Q E = Wp (a r G) (fun x G1 => Wt (truth G1 x) (Q x G1) (Wp (b r G1) Q E)) E := by
  with_unfolding_all
  unfold dOr
  rw [wp_bind]
  congr 1
  funext x G1
  cases truth G1 x with
  | none => rfl
  | some t => cases t <;> rfl
theorem wp_ite {c a b : De} : Wp (dIte c a b r G) Q E = Wp (c r G) (fun x G1 => Wt (truth G1 x) (Wp (a r G1) Q E) (Wp (b r G1) Q E)) E := by
  with_unfolding_all
  unfold dIte
  rw [wp_bind, wp_T]
theorem wp_pop {n : Nat} {b : Dst} {ds : List D} : Wp (runPop n b ds G) Q E = Ws (b (startE n ds) G) (fun _ G' => Q (.t .non) (G'.take G.length)) (fun x G' => ∃ e, popD G.length x G' = some e ∧ Q e (G'.take G.length)) (fun _ _ => False) (fun _ _ => False) (fun c ns es G' => ∃ es', popDs G.length es G' = some es' ∧ E c ns es' (G'.take G.length)) := by
  with_unfolding_all
  unfold runPop
  cases e : b (startE n ds) G with
  | rt x G' => simp only [endPop, ws_rt]; cases q : popD (List.length G) x G' <;> simp
  | exc c ns es r G' => simp only [endPop, Ws]; cases q : popDs (List.length G) es G' <;> simp
  | _ => rfl
theorem wp_keep {n : Nat} {b : Dst} {ds : List D} : Wp (runKeep n b ds G) Q E = Ws (b (startE n ds) G) (fun _ G' => Q (.t .non) G') Q (fun _ _ => False) (fun _ _ => False) E := by
  with_unfolding_all
  unfold runKeep
  cases e : b (startE n ds) G <;> rfl
theorem ws_par {i j : Nat} {a b : De} : Ws (dPar i j a b r G) N R B C X = Wp (a r G) (fun x G1 => Wp (b r G1) (fun y G2 => N ((r.set i (some x)).set j (some y)) G2) X) X := by
  with_unfolding_all
  unfold dPar; simp only [ws_thn]; rfl
end
/-! ### loops -/
@[irreducible] def Wi : Ri → (List Im → Kp → Hs → Prop) → XP → Prop
  | .ok its kp G, Q, _ => Q its kp G
  | .exc c ns ds G, _, E => E c ns ds G
  | .stuck, _, _ => False
section
variable {E : XP} {N : NP} {R : TP} {B C : NP} {X : XP} {G : Hs} {r : Ev}
theorem wi_itr {e : Re} {k : D → Hs → Ri} {Q : List Im → Kp → Hs → Prop} : Wi (e.itr k) Q E = Wp e (fun x G1 => Wi (k x G1) Q E) E := by
  with_unfolding_all
  cases e <;> rfl
theorem ws_for {di : Di} {td : Tg} {b : Dst} : Ws (dFor di td b r G) N R B C X = Wi (di r G) (fun its kp G1 => Ws (forLoop td b kp its r G1) N R B C X) X := by
  with_unfolding_all
  unfold dFor; cases di r G <;> rfl
/-- a for by its invariant: I i r G ahead of the i-th item -/
theorem ws_loop {td : Tg} {b : Dst} {kp : Kp} {its : List Im} (I : Nat → Ev → Hs → Prop) (h0 : I 0 r G) (hk : ∀ i r G, I i r G → kpOk kp G)
    (hs : ∀ i r G im, its[i]? = some im → I i r G → ∃ r1, td im r = some r1 ∧ Ws (b r1 G) (I (i + 1)) R N (I (i + 1)) X) (he : ∀ r G, I its.length r G → N r G) : Ws (forLoop td b kp its r G) N R B C X := by
  with_unfolding_all
  have main : ∀ (l : List Im) (i : Nat) (r : Ev) (G : Hs), its.drop i = l → i + l.length = its.length → I i r G → Ws (forLoop td b kp l r G) N R B C X := by
    intro l
    induction l with
    | nil =>
      intro i r G _ hl hI
      unfold forLoop
      rw [if_pos (hk i r G hI)]
      have : i = its.length := by simpa using hl
      subst this
      exact he r G hI
    | cons im l ih =>
      intro i r G hd hl hI
      unfold forLoop
      rw [if_pos (hk i r G hI)]
      have hi : its[i]? = some im := by
        have := congrArg (fun l : List Im => l[0]?) hd
        simpa using this
      obtain ⟨r1, e1, h1⟩ := hs i r G im hi hI
      rw [e1]
      have hd' : its.drop (i + 1) = l := by
        have := congrArg List.tail hd
        simpa using this
      have hl' : i + 1 + l.length = its.length := by rw [← hl, List.length_cons]; omega
      simp only
      cases eb : b r1 G with
      | nx r2 G2 => rw [eb] at h1; exact ih (i + 1) r2 G2 hd' hl' h1
      | ct r2 G2 => rw [eb] at h1; exact ih (i + 1) r2 G2 hd' hl' h1
      | bk r2 G2 => rw [eb] at h1; exact h1
      | rt d G2 => rw [eb] at h1; exact h1
      | exc c ns ds r2 G2 => rw [eb] at h1; exact h1
      | stuck => rw [eb] at h1; exact h1
  exact main its 0 r G rfl (by simp) h0
theorem wp_comp {Q : D → Hs → Prop} {own : List Nat} {di : Di} {td : Tg} {tt elt : De} {k : List D → Hs → Re} : Wp (compRun own di td tt elt k r G) Q E = Wi (di r G) (fun its kp G1 => match compLoop td tt elt kp (wipeE r own) its [] G1 with
    | .ok ds G2 => Wp (k ds G2) Q E
    | .stuck => False) E := by
  with_unfolding_all
  unfold compRun
  cases di r G with
  | ok its kp G1 => simp only [Wi]; cases compLoop td tt elt kp (wipeE r own) its [] G1 <;> rfl
  | exc c ns ds G1 => rfl
  | stuck => rfl
/-- a comprehension without tests, by its invariant -/
theorem comp_loop {td : Tg} {elt : De} {kp : Kp} {its : List Im} (I : Nat → List D → Hs → Prop) {K : List D → Hs → Prop} (h0 : I 0 [] G) (hk : ∀ i acc G, I i acc G → kpOk kp G)
    (hs : ∀ i acc G im, its[i]? = some im → I i acc G → ∃ r1, td im r = some r1 ∧ Wp (elt r1 G) (fun d G' => I (i + 1) (acc ++ [d]) G') (fun _ _ _ _ => False)) (he : ∀ acc G, I its.length acc G → K acc G) :
    match compLoop td dYes elt kp r its [] G with
    | .ok ds G2 => K ds G2
    | .stuck => False := by
  with_unfolding_all
  have main : ∀ (l : List Im) (i : Nat) (acc : List D) (G : Hs), its.drop i = l → i + l.length = its.length → I i acc G → match compLoop td dYes elt kp r l acc G with
    | .ok ds G2 => K ds G2
    | .stuck => False := by
    intro l
    induction l with
    | nil =>
      intro i acc G _ hl hI
      unfold compLoop
      rw [if_pos (hk i acc G hI)]
      have : i = its.length := by simpa using hl
      subst this
      exact he acc G hI
    | cons im l ih =>
      intro i acc G hd hl hI
      unfold compLoop
      rw [if_pos (hk i acc G hI)]
      have hi : its[i]? = some im := by
        have := congrArg (fun l : List Im => l[0]?) hd
        simpa using this
      obtain ⟨r1, e1, h1⟩ := hs i acc G im hi hI
      rw [e1]
      have hd' : its.drop (i + 1) = l := by
        have := congrArg List.tail hd
        simpa using this
      have hl' : i + 1 + l.length = its.length := by rw [← hl, List.length_cons]; omega
      have ey : dT dYes r1 G = .ok (.t (.bl true)) G := rfl
      simp only [ey]
      cases eb : elt r1 G with
      | ok d G3 => rw [eb] at h1; exact ih (i + 1) _ G3 hd' hl' h1
      | exc c ns ds G2 => rw [eb] at h1; exact h1
      | stuck => rw [eb] at h1; exact h1
  exact main its 0 [] G rfl (by simp) h0
end
end BL

set_option Elab.async false
set_option linter.all false
set_option maxRecDepth 100000
set_option maxHeartbeats 1000000
namespace BL
open PySem L2

/-! ### steps: each read backwards, to be applied -/
section
variable {Q : D → Hs → Prop} {E : XP} {N : NP} {R : TP} {B C : NP} {X : XP} {d x y z : D} {G : Hs} {r : Ev}
theorem s_seq {a b : Dst} (h : Ws (a r G) (fun r1 G1 => Ws (b r1 G1) N R B C X) R B C X) : Ws (dSeq a b r G) N R B C X := by rw [ws_seq]; with_unfolding_all exact h
theorem s_next (h : N r G) : Ws (dNext r G) N R B C X := by with_unfolding_all exact h
theorem s_set {i : Nat} {a : De} (h : Wp (a r G) (fun x G1 => N (r.set i (some x)) G1) X) : Ws (dSet i a r G) N R B C X := by rw [ws_set]; with_unfolding_all exact h
theorem s_ret {a : De} (h : Wp (a r G) R X) : Ws (dRet a r G) N R B C X := by rw [ws_ret]; with_unfolding_all exact h
theorem s_retN (h : R (.t .non) G) : Ws (dRetN r G) N R B C X := by with_unfolding_all exact h
theorem s_drop {a : De} (h : Wp (a r G) (fun _ G1 => N r G1) X) : Ws (dDrop a r G) N R B C X := by rw [ws_drop]; with_unfolding_all exact h
theorem s_if {c : De} {a b : Dst} (h : Wp (c r G) (fun x G1 => Wt (truth G1 x) (Ws (a r G1) N R B C X) (Ws (b r G1) N R B C X)) X) : Ws (dIf c a b r G) N R B C X := by rw [ws_if]; with_unfolding_all exact h
theorem s_par {i j : Nat} {a b : De} (h : Wp (a r G) (fun x G1 => Wp (b r G1) (fun y G2 => N ((r.set i (some x)).set j (some y)) G2) X) X) : Ws (dPar i j a b r G) N R B C X := by rw [ws_par]; with_unfolding_all exact h
/-- .. the slots as they are then -/
theorem s_set' {i : Nat} {a : De} {f : D → Ev} (hf : ∀ x, r.set i (some x) = f x) (h : Wp (a r G) (fun x G1 => N (f x) G1) X) : Ws (dSet i a r G) N R B C X := by with_unfolding_all exact s_set (by simp only [hf]; exact h)
theorem s_par' {i j : Nat} {a b : De} {f : D → D → Ev} (hf : ∀ x y, (r.set i (some x)).set j (some y) = f x y) (h : Wp (a r G) (fun x G1 => Wp (b r G1) (fun y G2 => N (f x y) G2) X) X) : Ws (dPar i j a b r G) N R B C X := by with_unfolding_all exact s_par (by simp only [hf]; exact h)
theorem s_stuck (h : False) : Ws (dStuck r G) N R B C X := by with_unfolding_all exact h
/-- x[z] = y at a dict -/
def PutP (x z y : D) (G : Hs) (K : Hs → Prop) : Prop := ∃ j k kvs, x = .loc j ∧ keyOf z = some k ∧ G[j]? = some (.dk kvs) ∧ okIn j y = true ∧ kvs.length < 16777215 ∧ K (G.set j (.dk (putA kvs k y)))
theorem putP {j : Nat} {k : Key} {kvs : List (Key × D)} {K : Hs → Prop} (h : G[j]? = some (.dk kvs)) (h1 : keyOf z = some k) (h2 : okIn j y = true) (h3 : kvs.length < 16777215) (hk : K (G.set j (.dk (putA kvs k y)))) : PutP (.loc j) z y G K := ⟨j, k, kvs, rfl, h1, h, h2, h3, hk⟩
theorem s_put {o i e : De} (h : Wp (e r G) (fun y G1 => Wp (o r G1) (fun x G2 => Wp (i r G2) (fun z G3 => PutP x z y G3 (fun G4 => N r G4)) X) X) X) : Ws (dPut o i e r G) N R B C X := by
  unfold dPut
  rw [ws_thn]
  refine h.mono (fun y G1 h => ?_) fun _ _ _ _ z => z
  rw [ws_thn]
  refine h.mono (fun x G2 h => ?_) fun _ _ _ _ z => z
  rw [ws_thn]
  refine h.mono (fun z G3 h => ?_) fun _ _ _ _ z => z
  obtain ⟨j, k, kvs, rfl, h1, h2, h3, h4, h5⟩ := h
  simp only [h1, h2, h3, h4, and_self, if_true]
  with_unfolding_all exact h5
/-- x.f = y -/
def SetFP (cs : List Nat) (f : Str) (x y : D) (G : Hs) (K : Hs → Prop) : Prop := ∃ i c fs, x = .loc i ∧ G[i]? = some (.ins c fs) ∧ cs.contains c = true ∧ okIn i y = true ∧ fs.length < 999 ∧ K (G.set i (.ins c (setF f y fs)))
theorem setFP {cs : List Nat} {f : Str} {i c : Nat} {fs : List (Str × D)} {K : Hs → Prop} (h : G[i]? = some (.ins c fs)) (h1 : cs.contains c = true) (h2 : okIn i y = true) (h3 : fs.length < 999) (hk : K (G.set i (.ins c (setF f y fs)))) : SetFP cs f (.loc i) y G K := ⟨i, c, fs, rfl, h, h1, h2, h3, hk⟩
theorem s_setF {cs : List Nat} {f : Str} {o e : De} (h : Wp (e r G) (fun y G1 => Wp (o r G1) (fun x G2 => SetFP cs f x y G2 (fun G3 => N r G3)) X) X) : Ws (dSetF cs f o e r G) N R B C X := by
  unfold dSetF
  rw [ws_thn]
  refine h.mono (fun y G1 h => ?_) fun _ _ _ _ z => z
  rw [ws_thn]
  refine h.mono (fun x G2 h => ?_) fun _ _ _ _ z => z
  obtain ⟨j, c, fs, rfl, h2, h1, h3, h4, h5⟩ := h
  simp only [h1, h2, h3, h4, and_self, if_true]
  with_unfolding_all exact h5
/-- x[z] = y at a list -/
def SetLP (x z y : D) (G : Hs) (K : Hs → Prop) : Prop := ∃ j k es n, x = .loc j ∧ z = .t (.int k) ∧ G[j]? = some (.lst es) ∧ ixN es.length k = some n ∧ okIn j y = true ∧ K (G.set j (.lst (es.set n y)))
theorem s_setL {o i e : De} (h : Wp (e r G) (fun y G1 => Wp (o r G1) (fun x G2 => Wp (i r G2) (fun z G3 => SetLP x z y G3 (fun G4 => N r G4)) X) X) X) : Ws (dSetL o i e r G) N R B C X := by
  unfold dSetL
  rw [ws_thn]
  refine h.mono (fun y G1 h => ?_) fun _ _ _ _ z => z
  rw [ws_thn]
  refine h.mono (fun x G2 h => ?_) fun _ _ _ _ z => z
  rw [ws_thn]
  refine h.mono (fun z G3 h => ?_) fun _ _ _ _ z => z
  obtain ⟨j, k, es, n, rfl, rfl, h1, h2, h3, h5⟩ := h
  simp only [h1, h2, h3, if_true]
  with_unfolding_all exact h5
theorem s_for {di : Di} {td : Tg} {b : Dst} (h : Wi (di r G) (fun its kp G1 => Ws (forLoop td b kp its r G1) N R B C X) X) : Ws (dFor di td b r G) N R B C X := by rw [ws_for]; with_unfolding_all exact h
theorem s_cut (P : NP) {s : Rs} (h : Ws s P R B C X) (k : ∀ r G, P r G → N r G) : Ws s N R B C X := by with_unfolding_all exact h.mono k (fun _ _ z => z) (fun _ _ z => z) (fun _ _ z => z) (fun _ _ _ _ z => z)
theorem e_cut (P : D → Hs → Prop) {e : Re} (h : Wp e P E) (k : ∀ x G, P x G → Q x G) : Wp e Q E := by with_unfolding_all exact h.mono k fun _ _ _ _ z => z
/-! ### expressions -/
theorem e_var {i : Nat} (h : r[i]? = some (some d)) (k : Q d G) : Wp (dVar i r G) Q E := by unfold dVar; rw [h]; with_unfolding_all exact k
theorem e_C {t : T} (k : Q (.t t) G) : Wp (dC t r G) Q E := by with_unfolding_all exact k
theorem e_bin {f : D → D → Hs → Re} {a b : De} (h : Wp (a r G) (fun x G1 => Wp (b r G1) (fun y G2 => Wp (f x y G2) Q E) E) E) : Wp (dBin f a b r G) Q E := by rw [wp_bin]; with_unfolding_all exact h
theorem e_un {f : D → Hs → Re} {a : De} (h : Wp (a r G) (fun x G1 => Wp (f x G1) Q E) E) : Wp (dUn f a r G) Q E := by rw [wp_un]; with_unfolding_all exact h
theorem e_not {a : De} (h : Wp (a r G) (fun x G1 => Wt (truth G1 x) (Q (.t (.bl false)) G1) (Q (.t (.bl true)) G1)) E) : Wp (dNot a r G) Q E := by rw [wp_not]; with_unfolding_all exact h
theorem e_and {a b : De} (h : Wp (a r G) (fun x G1 => Wt (truth G1 x) (Wp (b r G1) Q E) (Q x G1)) E) : Wp (dAnd a b r G) Q E := by rw [wp_and]; with_unfolding_all exact h
theorem e_or {a b : De} (h : Wp (a r G) (fun x G1 => Wt (truth G1 x) (Q x G1) (Wp (b r G1) Q E)) E) : Wp (dOr a b r G) Q E := by rw [wp_or]; with_unfolding_all exact h
theorem e_ite {c a b : De} (h : Wp (c r G) (fun x G1 => Wt (truth G1 x) (Wp (a r G1) Q E) (Wp (b r G1) Q E)) E) : Wp (dIte c a b r G) Q E := by rw [wp_ite]; with_unfolding_all exact h
theorem e_call1 {a : De} {F : Fd} (h : Wp (a r G) (fun x G1 => Wp (F [x] G1) Q E) E) : Wp (dCall [a] F [] r G) Q E := by
  rw [wp_call, wp_args]; with_unfolding_all exact h
theorem e_call2 {a b : De} {F : Fd} (h : Wp (a r G) (fun x G1 => Wp (b r G1) (fun y G2 => Wp (F [x, y] G2) Q E) E) E) : Wp (dCall [a, b] F [] r G) Q E := by
  rw [wp_call, wp_args]
  refine h.mono (fun x G1 h => ?_) fun _ _ _ _ z => z
  rw [wp_args]; with_unfolding_all exact h
theorem e_call3 {a b c : De} {F : Fd} (h : Wp (a r G) (fun x G1 => Wp (b r G1) (fun y G2 => Wp (c r G2) (fun z G3 => Wp (F [x, y, z] G3) Q E) E) E) E) : Wp (dCall [a, b, c] F [] r G) Q E := by
  rw [wp_call, wp_args]
  refine h.mono (fun x G1 h => ?_) fun _ _ _ _ z => z
  rw [wp_args]
  refine h.mono (fun x G1 h => ?_) fun _ _ _ _ z => z
  rw [wp_args]; with_unfolding_all exact h
theorem e_call4 {a b c e : De} {F : Fd} (h : Wp (a r G) (fun x G1 => Wp (b r G1) (fun y G2 => Wp (c r G2) (fun z G3 => Wp (e r G3) (fun w G4 => Wp (F [x, y, z, w] G4) Q E) E) E) E) E) : Wp (dCall [a, b, c, e] F [] r G) Q E := by
  rw [wp_call, wp_args]
  refine h.mono (fun x G1 h => ?_) fun _ _ _ _ z => z
  rw [wp_args]
  refine h.mono (fun x G1 h => ?_) fun _ _ _ _ z => z
  rw [wp_args]
  refine h.mono (fun x G1 h => ?_) fun _ _ _ _ z => z
  rw [wp_args]; with_unfolding_all exact h
theorem e_args0 {k : List D → Hs → Re} (h : Wp (k [] G) Q E) : Wp (dArgs [] k r G) Q E := by with_unfolding_all exact h
theorem e_args1 {a : De} {k : List D → Hs → Re} (h : Wp (a r G) (fun x G1 => Wp (k [x] G1) Q E) E) : Wp (dArgs [a] k r G) Q E := by
  rw [wp_args]; with_unfolding_all exact h
theorem e_args2 {a b : De} {k : List D → Hs → Re} (h : Wp (a r G) (fun x G1 => Wp (b r G1) (fun y G2 => Wp (k [x, y] G2) Q E) E) E) : Wp (dArgs [a, b] k r G) Q E := by
  rw [wp_args]
  refine h.mono (fun x G1 h => ?_) fun _ _ _ _ z => z
  rw [wp_args]; with_unfolding_all exact h
theorem e_args3 {a b c : De} {k : List D → Hs → Re} (h : Wp (a r G) (fun x G1 => Wp (b r G1) (fun y G2 => Wp (c r G2) (fun z G3 => Wp (k [x, y, z] G3) Q E) E) E) E) : Wp (dArgs [a, b, c] k r G) Q E := by
  rw [wp_args]
  refine h.mono (fun x G1 h => ?_) fun _ _ _ _ z => z
  rw [wp_args]
  refine h.mono (fun x G1 h => ?_) fun _ _ _ _ z => z
  rw [wp_args]; with_unfolding_all exact h
theorem e_args4 {a b c e : De} {k : List D → Hs → Re} (h : Wp (a r G) (fun x G1 => Wp (b r G1) (fun y G2 => Wp (c r G2) (fun z G3 => Wp (e r G3) (fun w G4 => Wp (k [x, y, z, w] G4) Q E) E) E) E) E) : Wp (dArgs [a, b, c, e] k r G) Q E := by
  rw [wp_args]
  refine h.mono (fun x G1 h => ?_) fun _ _ _ _ z => z
  rw [wp_args]
  refine h.mono (fun x G1 h => ?_) fun _ _ _ _ z => z
  rw [wp_args]
  refine h.mono (fun x G1 h => ?_) fun _ _ _ _ z => z
  rw [wp_args]; with_unfolding_all exact h
theorem e_argsC {a : De} {as : List De} {k : List D → Hs → Re} (h : Wp (a r G) (fun x G1 => Wp (dArgs as (fun xs G2 => k (x :: xs) G2) r G1) Q E) E) : Wp (dArgs (a :: as) k r G) Q E := by rw [wp_args]; with_unfolding_all exact h
/-- a < b < c -/
theorem e_chain {f f' : D → D → Hs → Re} {a b c : De} (h : Wp (a r G) (fun x G1 => Wp (b r G1) (fun y G2 => Wp (f x y G2) (fun z G3 => Wt (match z with | .t (.bl t) => some t | _ => none) (Wp (c r G3) (fun w G4 => Wp (f' y w G4) Q E) E) (Q (.t (.bl false)) G3)) E) E) E) : Wp (dChain f f' a b c r G) Q E := by
  unfold dChain
  rw [wp_bind]
  refine h.mono (fun x G1 h => ?_) fun _ _ _ _ z => z
  rw [wp_bind]
  refine h.mono (fun y G2 h => ?_) fun _ _ _ _ z => z
  rw [wp_bind]
  refine h.mono (fun z G3 h => ?_) fun _ _ _ _ z => z
  split at h
  · next t =>
    cases t with
    | true => show Wp ((c r G3).bind _) Q E; rw [wp_bind]; with_unfolding_all exact h
    | false => with_unfolding_all exact h
  · exact False.elim (by with_unfolding_all exact h)
theorem e_sl0 {a h : De} (k : Wp (a r G) (fun x G1 => Wp (h r G1) (fun y G2 => Wp (match y with | .t (.int j) => fSl x none (some j) G2 | _ => .stuck) Q E) E) E) : Wp (dSl a none (some h) r G) Q E := by
  unfold dSl
  rw [wp_bind]
  refine k.mono (fun x G1 k => ?_) fun _ _ _ _ z => z
  show Wp ((h r G1).bind _) Q E
  rw [wp_bind]
  with_unfolding_all exact k
theorem e_sl1 {a l : De} (k : Wp (a r G) (fun x G1 => Wp (l r G1) (fun y G2 => Wp (match y with | .t (.int j) => fSl x (some j) none G2 | _ => .stuck) Q E) E) E) : Wp (dSl a (some l) none r G) Q E := by
  unfold dSl
  rw [wp_bind]
  refine k.mono (fun x G1 k => ?_) fun _ _ _ _ z => z
  show Wp ((l r G1).bind _) Q E
  rw [wp_bind]
  refine k.mono (fun y G2 k => ?_) fun _ _ _ _ z => z
  with_unfolding_all exact k
theorem e_bm {ty : Hs → D → Bool} {f : D → List D → Hs → Re} {o : De} {das : List De} (h : Wp (o r G) (fun x G1 => ty G1 x = true ∧ Wp (dArgs das (fun ds G2 => f x ds G2) r G1) Q E) E) : Wp (dBm ty f o das r G) Q E := by
  unfold dBm
  rw [wp_bind]
  refine h.mono (fun x G1 h => ?_) fun _ _ _ _ z => z
  rw [if_pos h.1]
  with_unfolding_all exact h.2
theorem e_meth {c : Nat} {m : Str} {o : De} {das : List De} {F : Fd} {dts : List T} (h : Wp (o r G) (fun x G1 => (isObj' c G1 x = true ∧ noFld m G1 x = true) ∧ Wp (dArgs das (fun ds G2 => F (x :: (ds ++ dts.map D.t)) G2) r G1) Q E) E) : Wp (dMeth c m o das F dts r G) Q E := by
  unfold dMeth
  rw [wp_bind]
  refine h.mono (fun x G1 h => ?_) fun _ _ _ _ z => z
  rw [if_pos h.1]
  with_unfolding_all exact h.2
/-- C(..): the made object stands behind the others -/
def mkEnd (n : Nat) : Re → Re
  | .ok (.t .non) G' => (match popD n (.loc n) G' with
    | some e => .ok e (G'.take n)
    | none => .stuck)
  | .exc c' ns es G' => (match popDs n es G' with
    | some es' => .exc c' ns es' (G'.take n)
    | none => .stuck)
  | _ => .stuck
theorem e_make {c : Nat} {das : List De} {F : Fd} {dts : List T} (h : Wp (dArgs das (fun ds G => mkEnd G.length (F (.loc G.length :: (ds ++ dts.map D.t)) (G ++ [.ins c []]))) r G) Q E) : Wp (dMake c das F dts r G) Q E := by with_unfolding_all exact h
theorem e_mk {n : Nat} {e : Re} (h : Wp e (fun x G' => x = .t .non ∧ ∃ y, popD n (.loc n) G' = some y ∧ Q y (G'.take n)) (fun c ns es G' => ∃ es', popDs n es G' = some es' ∧ E c ns es' (G'.take n))) : Wp (mkEnd n e) Q E := by
  cases e with
  | ok x G' =>
    rw [wp_ok] at h
    obtain ⟨rfl, y, h1, h2⟩ := h
    simp only [mkEnd, h1]
    with_unfolding_all exact h2
  | exc c ns es G' =>
    rw [wp_exc] at h
    obtain ⟨es', h1, h2⟩ := h
    simp only [mkEnd, h1]
    with_unfolding_all exact h2
  | stuck => with_unfolding_all exact h
theorem e_disp {ks : List Str} {das : List De} (h : Wp (dArgs das (fun ds G => .ok (.loc G.length) (G ++ [.dk (mergeA [] ((ks.map Sum.inr).zip ds))])) r G) Q E) : Wp (dDisp ks das r G) Q E := by with_unfolding_all exact h
theorem e_ok (h : Q d G) : Wp (.ok d G) Q E := by with_unfolding_all exact h
/-! ### truths -/
theorem t_T {A B : Prop} (h : A) : Wt (truth G (.t (.bl true))) A B := by with_unfolding_all exact h
theorem t_F {A B : Prop} (h : B) : Wt (truth G (.t (.bl false))) A B := by with_unfolding_all exact h
theorem t_dec {A B : Prop} {p : Prop} {_ : Decidable p} (h1 : p → A) (h2 : ¬ p → B) : Wt (truth G (.t (.bl (decide p)))) A B := by
  by_cases h : p
  · rw [decide_eq_true h]; with_unfolding_all exact h1 h
  · rw [decide_eq_false h]; with_unfolding_all exact h2 h
theorem t_ndec {A B : Prop} {p : Prop} {_ : Decidable p} (h1 : ¬ p → A) (h2 : p → B) : Wt (truth G (.t (.bl (!decide p)))) A B := by
  by_cases h : p
  · rw [decide_eq_true h]; with_unfolding_all exact h2 h
  · rw [decide_eq_false h]; with_unfolding_all exact h1 h
theorem t_bl {A B : Prop} {b : Bool} (h1 : b = true → A) (h2 : b = false → B) : Wt (truth G (.t (.bl b))) A B := by
  cases b
  · with_unfolding_all exact h2 rfl
  · with_unfolding_all exact h1 rfl
theorem t_sdec {A B : Prop} {p : Prop} {_ : Decidable p} (h1 : p → A) (h2 : ¬ p → B) : Wt (some (decide p)) A B := by
  by_cases h : p
  · rw [decide_eq_true h]; with_unfolding_all exact h1 h
  · rw [decide_eq_false h]; with_unfolding_all exact h2 h
/-! ### operators on plain data -/
theorem f_addI {i j : Int} (h : Q (.t (.int (i + j))) G) : Wp (fAdd (.t (.int i)) (.t (.int j)) G) Q E := by with_unfolding_all exact h
theorem f_addS {i j : Str} (hl : i.length + j.length ≤ sizeLine) (h : Q (.t (.str (i ++ j))) G) : Wp (fAdd (.t (.str i)) (.t (.str j)) G) Q E := by
  simp only [fAdd, hl, if_true]; with_unfolding_all exact h
theorem f_addT {i j : List T} (hl : i.length + j.length ≤ sizeLine) (h : Q (.t (.tup (i ++ j))) G) : Wp (fAdd (.t (.tup i)) (.t (.tup j)) G) Q E := by
  simp only [fAdd, hl, if_true]; with_unfolding_all exact h
theorem f_addL {i j : List T} (hl : i.length + j.length ≤ sizeLine) (h : Q (.t (.lst (i ++ j))) G) : Wp (fAdd (.t (.lst i)) (.t (.lst j)) G) Q E := by
  simp only [fAdd, hl, if_true]; with_unfolding_all exact h
theorem f_sub {i j : Int} (h : Q (.t (.int (i - j))) G) : Wp (fSub (.t (.int i)) (.t (.int j)) G) Q E := by with_unfolding_all exact h
theorem mulOkL {i j : Int} (h1 : -(2 ^ 64) < i) (h2 : i < 2 ^ 64) : mulOk i j = true := by
  unfold mulOk; rw [decide_eq_true ⟨h1, h2⟩]; rfl
theorem mulOkR {i j : Int} (h1 : -(2 ^ 64) < j) (h2 : j < 2 ^ 64) : mulOk i j = true := by
  unfold mulOk; rw [decide_eq_true (p := -(2 ^ 64) < j ∧ j < 2 ^ 64) ⟨h1, h2⟩, Bool.or_true]
theorem f_mul {i j : Int} (hm : mulOk i j = true) (h : Q (.t (.int (i * j))) G) : Wp (fMul (.t (.int i)) (.t (.int j)) G) Q E := by
  simp only [fMul, hm, if_true]; with_unfolding_all exact h
theorem f_div {i j : Int} (h1 : 0 < j) (h2 : j < 1073741824) (h : Q (.t (.int (i / j))) G) : Wp (fDiv (.t (.int i)) (.t (.int j)) G) Q E := by
  simp only [fDiv, h1, h2, and_self, if_true]; with_unfolding_all exact h
theorem f_mod {i j : Int} (h1 : 0 < j) (h : Q (.t (.int (i % j))) G) : Wp (fMod (.t (.int i)) (.t (.int j)) G) Q E := by
  simp only [fMod, h1, if_true]; with_unfolding_all exact h
theorem f_pow {i j : Int} (h1 : 0 ≤ j ∧ j ≤ 1000000 ∧ i.natAbs < 2 ^ 64) (h : Q (.t (.int (i ^ j.toNat))) G) : Wp (fPow (.t (.int i)) (.t (.int j)) G) Q E := by
  simp only [fPow, h1, and_self, if_true]; with_unfolding_all exact h
theorem f_cmp {p : Int → Int → Bool} {i j : Int} (h : Q (.t (.bl (p i j))) G) : Wp (fCmp p (.t (.int i)) (.t (.int j)) G) Q E := by with_unfolding_all exact h
theorem f_int {i : Int} (h : Q (.t (.int i)) G) : Wp (fInt [.t (.int i)] G) Q E := by with_unfolding_all exact h
theorem f_lenS {z : Str} (hl : z.length ≤ sizeLine) (h : Q (.t (.int z.length)) G) : Wp (fLen [.t (.str z)] G) Q E := by
  simp only [fLen, hl, if_true]; with_unfolding_all exact h
theorem f_lenT {ts : List T} (h : Q (.t (.int ts.length)) G) : Wp (fLen [.t (.tup ts)] G) Q E := by
  simp only [fLen, asS, asT, List.length_map]; with_unfolding_all exact h
theorem f_lenL {ts : List T} (h : Q (.t (.int ts.length)) G) : Wp (fLen [.t (.lst ts)] G) Q E := by
  simp only [fLen, asS, asT, asL, List.length_map]; with_unfolding_all exact h
theorem asS_notS {ds : List D} (h : asS G d = some ds) : ∀ s, d ≠ .t (.str s) := by
  intro s e; subst e; simp [asS, asT, asL] at h
theorem f_len {ds : List D} (hs : asS G d = some ds) (h : Q (.t (.int ds.length)) G) : Wp (fLen [d] G) Q E := by
  have hn := asS_notS hs
  unfold fLen
  split
  · next x e => simp at e; exact absurd e (hn x)
  · next e' hd => simp at hd; subst hd; rw [hs]; with_unfolding_all exact h
  · next h1 h2 => exact absurd rfl (h2 d)
theorem f_tup {ds : List D} {ts : List T} (hs : asS G d = some ds) (hp : plain ds = some ts) (h : Q (.t (.tup ts)) G) : Wp (fTup [d] G) Q E := by
  simp only [fTup, hs, hp]; with_unfolding_all exact h
theorem f_lst {ds : List D} {ts : List T} (hs : asS G d = some ds) (hp : plain ds = some ts) (h : Q (.t (.lst ts)) G) : Wp (fLst [d] G) Q E := by
  simp only [fLst, hs, hp]; with_unfolding_all exact h
theorem f_lstL {ds : List D} (hs : asS G d = some ds) (h : Q (.loc G.length) (G ++ [.lst ds])) : Wp (fLstL [d] G) Q E := by
  simp only [fLstL, hs]; with_unfolding_all exact h
theorem f_lstD {ds : List D} {ts : List T} (hp : plain ds = some ts) (hl : ts.length ≤ sizeLine) (h : Q (.t (.lst ts)) G) : Wp (fLstD ds G) Q E := by
  simp only [fLstD, hp, hl, if_true]; with_unfolding_all exact h
theorem f_tupD {ds : List D} {ts : List T} (hp : plain ds = some ts) (hl : ts.length ≤ sizeLine) (h : Q (.t (.tup ts)) G) : Wp (fTupD ds G) Q E := by
  simp only [fTupD, hp, hl, if_true]; with_unfolding_all exact h
theorem f_lstDL {ds : List D} (hl : ds.length ≤ sizeLine) (h : Q (.loc G.length) (G ++ [.lst ds])) : Wp (fLstDL ds G) Q E := by
  simp only [fLstDL, hl, if_true]; with_unfolding_all exact h
theorem f_get {kvs : List (Key × D)} {k : Key} (h1 : dkOf G x = some kvs) (h2 : keyOf y = some k) (h3 : getA kvs k = some d) (h : Q d G) : Wp (fGet x y G) Q E := by
  simp only [fGet, h1, h2, h3]; with_unfolding_all exact h
theorem dkL {p : Nat} {kvs : List (Key × D)} (h : G[p]? = some (.dk kvs)) : dkOf G (.loc p) = some kvs := by
  simp only [dkOf, h]
theorem f_eq {neg : Bool} {a b : T} (h1 : asD G x = some a) (h2 : asD G y = some b) (h3 : eqOk a b = true) (h : Q (.t (.bl (if neg then !teq a b else teq a b))) G) : Wp (fEq neg x y G) Q E := by
  simp only [fEq, h1, h2, h3, if_true]; with_unfolding_all exact h
theorem teqI {i j : Int} : teq (.int i) (.int j) = decide (i = j) := by
  show (i == j) = _
  rw [Bool.eq_iff_iff]; simp
theorem f_eqI {i j : Int} (h : Q (.t (.bl (decide (i = j)))) G) : Wp (fEq false (.t (.int i)) (.t (.int j)) G) Q E := by
  refine f_eq rfl rfl rfl ?_
  rw [teqI]; exact h
theorem f_neI {i j : Int} (h : Q (.t (.bl (!decide (i = j)))) G) : Wp (fEq true (.t (.int i)) (.t (.int j)) G) Q E := by
  refine f_eq rfl rfl rfl ?_
  rw [teqI]; exact h
theorem f_ix {ds : List D} {i : Int} (h1 : asS G x = some ds) (h2 : atI ds i = some d) (h : Q d G) : Wp (fIx x (.t (.int i)) G) Q E := by
  have e : fIx x (.t (.int i)) G = .ok d G := by
    cases x with
    | loc j => simp only [fIx, h1, h2]
    | t u => cases u <;> first | simp [asS, asT, asL] at h1; done | simp only [fIx, h1, h2]
  rw [e]; with_unfolding_all exact h
theorem f_ixS {z : Str} {i : Int} {c : Nat} (hl : z.length ≤ sizeLine) (h2 : atI z.cps.toList i = some c) (h : Q (.t (.str ⟨#[c]⟩)) G) : Wp (fIx (.t (.str z)) (.t (.int i)) G) Q E := by
  simp only [fIx, hl, if_true, h2]; with_unfolding_all exact h
theorem f_isi {t : Kd → Option Bool} {k : Kd} {b : Bool} (h1 : kind G x = some k) (h2 : t k = some b) (h : Q (.t (.bl b)) G) : Wp (fIsi t x G) Q E := by
  simp only [fIsi, h1, h2]; with_unfolding_all exact h
theorem f_fld {cs : List Nat} {f : Str} {c : Nat} {ns : List Str} {ts : List T} {t : T} (h1 : cs.contains c = true) (h2 : zipLk f ns ts = some t) (h : Q (.t t) G) : Wp (fFld cs f (.t (.obj c ns ts)) G) Q E := by
  simp only [fFld, h1, if_true, h2]; with_unfolding_all exact h
theorem f_fldL {cs : List Nat} {f : Str} {c i : Nat} {fs : List (Str × D)} (h0 : G[i]? = some (.ins c fs)) (h1 : cs.contains c = true) (h2 : zipLk f (fs.map (·.1)) (fs.map (·.2)) = some d) (h : Q d G) : Wp (fFld cs f (.loc i) G) Q E := by
  simp only [fFld, h0, h1, if_true, h2]; with_unfolding_all exact h
theorem bools_map : ∀ bs : List Bool, boolsT (bs.map fun b => D.t (.bl b)) = some bs
  | [] => rfl
  | b :: bs => by simp [boolsT, bools_map bs]
theorem f_all {ds : List D} {bs : List Bool} (h1 : asL G d = some ds) (h2 : boolsT ds = some bs) (h : Q (.t (.bl (bs.all id))) G) : Wp (fAll [d] G) Q E := by
  simp only [fAll, h1, h2]; with_unfolding_all exact h
/-! ### walks -/
theorem i_S {a : De} {P : List Im → Kp → Hs → Prop} (h : Wp (a r G) (fun x G1 => ∃ ds, (asT x = some ds ∧ P (ds.map Im.one) none G1) ∨ (asT x = none ∧ asL G1 x = some ds ∧ P (ds.map Im.one) (kpOf G1 x) G1)) E) : Wi (iS a r G) P E := by
  unfold iS
  rw [wi_itr]
  refine h.mono (fun x G1 h => ?_) fun _ _ _ _ z => z
  obtain ⟨ds, ⟨h1, h2⟩ | ⟨h0, h1, h2⟩⟩ := h
  · simp only [h1]; with_unfolding_all exact h2
  · simp only [h0, h1]; with_unfolding_all exact h2
theorem i_En {a : De} {P : List Im → Kp → Hs → Prop} (h : Wp (a r G) (fun x G1 => ∃ ds, (asT x = some ds ∧ P (enumIms ds) none G1) ∨ (asT x = none ∧ asL G1 x = some ds ∧ P (enumIms ds) (kpOf G1 x) G1)) E) : Wi (iEn a r G) P E := by
  unfold iEn
  rw [wi_itr]
  refine h.mono (fun x G1 h => ?_) fun _ _ _ _ z => z
  obtain ⟨ds, ⟨h1, h2⟩ | ⟨h0, h1, h2⟩⟩ := h
  · simp only [h1]; with_unfolding_all exact h2
  · simp only [h0, h1]; with_unfolding_all exact h2
theorem i_R1 {a : De} {P : List Im → Kp → Hs → Prop} (h : Wp (a r G) (fun x G1 => ∃ j, x = .t (.int j) ∧ -(2 ^ 62) ≤ j ∧ j ≤ 16777216 ∧ P (((List.range j.toNat).map fun i : Nat => D.t (.int (i : Int))).map Im.one) none G1) E) : Wi (iR1 a r G) P E := by
  unfold iR1
  rw [wi_itr]
  refine h.mono (fun x G1 h => ?_) fun _ _ _ _ z => z
  obtain ⟨j, rfl, h1, h2, h3⟩ := h
  simp only [h1, h2, and_self, if_true]
  have e : intIms 0 j.toNat = ((List.range j.toNat).map fun i : Nat => D.t (.int (i : Int))).map Im.one := by
    unfold intIms
    rw [List.map_map]
    with_unfolding_all exact List.map_congr_left fun i _ => by simp
  rw [e]
  with_unfolding_all exact h3
theorem i_Str {a : De} {P : List Im → Kp → Hs → Prop} (h : Wp (a r G) (fun x G1 => ∃ z, x = .t (.str z) ∧ z.length ≤ sizeLine ∧ P ((z.cps.toList.map fun c => D.t (.str ⟨#[c]⟩)).map Im.one) none G1) E) : Wi (iStr' a r G) P E := by
  unfold iStr'
  rw [wi_itr]
  refine h.mono (fun x G1 h => ?_) fun _ _ _ _ z => z
  obtain ⟨j, rfl, h1, h3⟩ := h
  simp only [h1, if_true]
  rw [List.map_map] at h3
  with_unfolding_all exact h3
/-- a comprehension -/
@[irreducible] def Wc : Rc → (List D → Hs → Prop) → Prop
  | .ok ds G, K => K ds G
  | .stuck, _ => False
theorem e_comp {own : List Nat} {di : Di} {td : Tg} {tt elt : De} {k : List D → Hs → Re} (h : Wi (di r G) (fun its kp G1 => Wc (compLoop td tt elt kp (wipeE r own) its [] G1) (fun ds G2 => Wp (k ds G2) Q E)) E) : Wp (compRun own di td tt elt k r G) Q E := by
  rw [wp_comp]
  cases e : di r G with
  | ok its kp G1 =>
    rw [e] at h
    simp only [Wi] at h ⊢
    cases e2 : compLoop td tt elt kp (wipeE r own) its [] G1 with
    | ok ds G2 => rw [e2] at h; with_unfolding_all exact h
    | stuck => rw [e2] at h; with_unfolding_all exact h
  | exc c ns ds G1 => rw [e] at h; with_unfolding_all exact h
  | stuck => rw [e] at h; with_unfolding_all exact h
theorem e_comp' {own : List Nat} {r0 : Ev} {di : Di} {td : Tg} {tt elt : De} {k : List D → Hs → Re} (hr : wipeE r own = r0) (h : Wi (di r G) (fun its kp G1 => Wc (compLoop td tt elt kp r0 its [] G1) (fun ds G2 => Wp (k ds G2) Q E)) E) : Wp (compRun own di td tt elt k r G) Q E := by with_unfolding_all exact e_comp (by rw [hr]; exact h)
/-- a comprehension over singles, by an invariant on what was made -/
theorem c_loop {i : Nat} {elt : De} {kp : Kp} {ds : List D} (I : Nat → List D → Hs → Prop) {K : List D → Hs → Prop} (h0 : I 0 [] G) (hk : ∀ i acc G, I i acc G → kpOk kp G)
    (hs : ∀ j acc G d, ds[j]? = some d → I j acc G → Wp (elt (r.set i (some d)) G) (fun d G' => I (j + 1) (acc ++ [d]) G') (fun _ _ _ _ => False)) (he : ∀ acc G, I ds.length acc G → K acc G) :
    Wc (compLoop (gN i) dYes elt kp r (ds.map Im.one) [] G) K := by
  have := comp_loop (r := r) (td := gN i) (its := ds.map Im.one) (elt := elt) (kp := kp) I (K := K) h0 hk (fun j acc G im e hI => by
    rw [List.getElem?_map] at e
    cases hd : ds[j]? with
    | none => rw [hd] at e; cases e
    | some d =>
      rw [hd] at e
      cases e
      with_unfolding_all exact ⟨_, rfl, hs j acc G d hd hI⟩) (fun acc G hI => he acc G (by rw [List.length_map] at hI; with_unfolding_all exact hI))
  cases e2 : compLoop (gN i) dYes elt kp r (ds.map Im.one) [] G with
  | ok ds G2 => rw [e2] at this; with_unfolding_all exact this
  | stuck => rw [e2] at this; with_unfolding_all exact this
theorem kp_none {G : Hs} : kpOk none G := fun _ _ h => nomatch h
/-- .. that changes nothing: the items by a function -/
theorem c_map {i : Nat} {elt : De} {kp : Kp} {ds : List D} {f : D → D} {K : List D → Hs → Prop} (hk : kpOk kp G)
    (hs : ∀ d, d ∈ ds → ∀ Q : D → Hs → Prop, Q (f d) G → Wp (elt (r.set i (some d)) G) Q (fun _ _ _ _ => False)) (he : K (ds.map f) G) :
    Wc (compLoop (gN i) dYes elt kp r (ds.map Im.one) [] G) K := by
  refine c_loop (fun j acc G' => acc = (ds.take j).map f ∧ G' = G) ⟨by simp, rfl⟩ (fun _ _ _ h => by rw [h.2]; with_unfolding_all exact hk) (fun j acc G' d hd hI => ?_) (fun acc G' hI => by
    rw [hI.1, hI.2, List.take_length]; with_unfolding_all exact he)
  obtain ⟨rfl, rfl⟩ := hI
  refine hs d (List.mem_of_getElem? hd) _ ⟨?_, rfl⟩
  rw [List.take_add_one, hd]
  simp
/-- a for over an enumerate that changes nothing -/
theorem s_enum {i j : Nat} {ds : List D} {kp : Kp} {b : Dst} (I : Ev → Prop) (h0 : I r) (hk : kpOk kp G)
    (hs : ∀ (n : Nat) d r, ds[n]? = some d → I r → Ws (b ((r.set i (some (.t (.int (n : Int))))).set j (some d)) G) (fun r' G' => I r' ∧ G' = G) R N (fun r' G' => I r' ∧ G' = G) X) (he : ∀ r, I r → N r G) :
    Ws (forLoop (gNN i j) b kp (enumIms ds) r G) N R B C X := by
  have hl : (enumIms ds).length = ds.length := by unfold enumIms; simp
  refine ws_loop (fun n r' G' => I r' ∧ G' = G) ⟨h0, rfl⟩ (fun _ _ _ h => by rw [h.2]; with_unfolding_all exact hk) (fun n r' G' im e hI => ?_) (fun r' G' hI => by rw [hI.2]; with_unfolding_all exact he r' hI.1)
  obtain ⟨h1, rfl⟩ := hI
  have e' : ∃ d, ds[n]? = some d ∧ im = .two (.t (.int (n : Nat))) d := by
    unfold enumIms at e
    rw [List.getElem?_zipWith] at e
    cases hd : ds[n]? with
    | none => rw [hd] at e; cases (List.range ds.length)[n]? <;> simp at e
    | some d =>
      have hn : n < ds.length := (List.getElem?_eq_some_iff.mp hd).1
      rw [hd, List.getElem?_range hn] at e
      simp at e
      with_unfolding_all exact ⟨d, rfl, e.symm⟩
  obtain ⟨d, hd, rfl⟩ := e'
  with_unfolding_all exact ⟨_, rfl, hs n d r' hd h1⟩
/-- a for over singles, by its invariant -/
theorem s_each {i : Nat} {ds : List D} {kp : Kp} {b : Dst} (I : Nat → Ev → Hs → Prop) (h0 : I 0 r G) (hk : ∀ n r G, I n r G → kpOk kp G)
    (hs : ∀ (n : Nat) d r G, ds[n]? = some d → I n r G → Ws (b (r.set i (some d)) G) (I (n + 1)) R N (I (n + 1)) X) (he : ∀ r G, I ds.length r G → N r G) :
    Ws (forLoop (gN i) b kp (ds.map Im.one) r G) N R B C X := by
  refine ws_loop I h0 hk (fun n r' G' im e hI => ?_) (fun r' G' hI => he r' G' (by rw [List.length_map] at hI; with_unfolding_all exact hI))
  rw [List.getElem?_map] at e
  cases hd : ds[n]? with
  | none => rw [hd] at e; cases e
  | some d =>
    rw [hd] at e
    cases e
    with_unfolding_all exact ⟨_, rfl, hs n d r' G' hd hI⟩
theorem intIms_map (lo : Int) (n : Nat) : intIms lo n = ((List.range n).map fun i : Nat => D.t (.int (lo + (i : Int)))).map Im.one := by
  unfold intIms; rw [List.map_map]; rfl
theorem k_lst {ds : List D} {ts : List T} (hp : plain ds = some ts) (h : Q (.t (.lst ts)) G) : Wp (kLst ds G) Q E := by
  simp only [kLst, hp]; with_unfolding_all exact h
theorem k_lstL {ds : List D} (h : Q (.loc G.length) (G ++ [.lst ds])) : Wp (kLstL ds G) Q E := by with_unfolding_all exact h
/-! ### calls -/
/-- a def that hands on no new object -/
theorem r_pop {n : Nat} {b : Dst} {ds : List D} (h : Ws (b (startE n ds) G) (fun _ G' => Q (.t .non) (G'.take G.length)) (fun x G' => ∃ e, popD G.length x G' = some e ∧ Q e (G'.take G.length)) (fun _ _ => False) (fun _ _ => False) (fun c ns es G' => ∃ es', popDs G.length es G' = some es' ∧ E c ns es' (G'.take G.length))) : Wp (runPop n b ds G) Q E := by
  rw [wp_pop]; with_unfolding_all exact h
theorem r_keep {n : Nat} {b : Dst} {ds : List D} (h : Ws (b (startE n ds) G) (fun _ G' => Q (.t .non) G') Q (fun _ _ => False) (fun _ _ => False) E) : Wp (runKeep n b ds G) Q E := by
  rw [wp_keep]; with_unfolding_all exact h
theorem r_pop' {n : Nat} {b : Dst} {ds : List D} {r0 : Ev} (hr : startE n ds = r0) (h : Ws (b r0 G) (fun _ G' => Q (.t .non) (G'.take G.length)) (fun x G' => ∃ e, popD G.length x G' = some e ∧ Q e (G'.take G.length)) (fun _ _ => False) (fun _ _ => False) (fun c ns es G' => ∃ es', popDs G.length es G' = some es' ∧ E c ns es' (G'.take G.length))) : Wp (runPop n b ds G) Q E := by with_unfolding_all exact r_pop (by rw [hr]; exact h)
theorem r_keep' {n : Nat} {b : Dst} {ds : List D} {r0 : Ev} (hr : startE n ds = r0) (h : Ws (b r0 G) (fun _ G' => Q (.t .non) G') Q (fun _ _ => False) (fun _ _ => False) E) : Wp (runKeep n b ds G) Q E := by with_unfolding_all exact r_keep (by rw [hr]; exact h)
/-- plain data is given back, nothing new stands in the heap -/
theorem p_ret {t : T} {n : Nat} (hn : G.length ≤ n) (h : Q (.t t) G) : ∃ e, popD n (.t t) G = some e ∧ Q e (G.take n) := ⟨_, rfl, by rw [List.take_of_length_le hn]; exact h⟩
end
end BL

set_option Elab.async false
set_option linter.all false
set_option maxRecDepth 100000
set_option maxHeartbeats 1000000
namespace BL
open PySem L2

/-! ### equality of plain data -/
mutual
/-- no truths, dicts, objects -/
def noB : T → Bool
  | .non => true | .int _ => true | .str _ => true
  | .tup ts => noBs ts | .lst ts => noBs ts
  | .bl _ => false | .dk _ _ => false | .obj _ _ _ => false | .ftp _ => false | .cls _ => false
def noBs : List T → Bool
  | [] => true
  | t :: ts => noB t && noBs ts
end
mutual
theorem teq_iff : ∀ a b : T, noB a = true → noB b = true → (PyData.eqv (toP a) (toP b) = true ↔ a = b)
  | .non, b, _, hb => by cases b <;> simp_all [toP, PyData.eqv, noB]
  | .int i, b, _, hb => by cases b <;> simp_all [toP, PyData.eqv, noB]
  | .str x, b, _, hb => by cases b <;> simp_all [toP, PyData.eqv, noB]
  | .tup ts, b, ha, hb => by
    cases b with
    | tup us =>
      have := teqs_iff ts us (by simpa [noB] using ha) (by simpa [noB] using hb)
      simp [toP, PyData.eqv, this]
    | _ => simp_all [toP, PyData.eqv, noB]
  | .lst ts, b, ha, hb => by
    cases b with
    | lst us =>
      have := teqs_iff ts us (by simpa [noB] using ha) (by simpa [noB] using hb)
      simp [toP, PyData.eqv, this]
    | _ => simp_all [toP, PyData.eqv, noB]
  | .bl b, _, ha, _ => by simp [noB] at ha
  | .dk _ _, _, ha, _ => by simp [noB] at ha
  | .obj _ _ _, _, ha, _ => by simp [noB] at ha
  | .ftp _, _, ha, _ => by simp [noB] at ha
  | .cls _, _, ha, _ => by simp [noB] at ha
theorem teqs_iff : ∀ a b : List T, noBs a = true → noBs b = true → (PyData.eqvAll (toPs a) (toPs b) = true ↔ a = b)
  | [], b, _, hb => by cases b <;> simp [toPs, PyData.eqvAll]
  | t :: ts, b, ha, hb => by
    cases b with
    | nil => simp [toPs, PyData.eqvAll]
    | cons u us =>
      simp only [noBs, Bool.and_eq_true] at ha hb
      have h1 := teq_iff t u ha.1 hb.1
      have h2 := teqs_iff ts us ha.2 hb.2
      simp [toPs, PyData.eqvAll, h1, h2]
end
mutual
theorem cmp_noB : ∀ t : T, noB t = true → cmpT t = true
  | .non, _ => rfl
  | .int _, _ => rfl
  | .str _, _ => rfl
  | .tup ts, h => by simp only [cmpT]; exact cmps_noB ts (by simpa [noB] using h)
  | .lst ts, h => by simp only [cmpT]; exact cmps_noB ts (by simpa [noB] using h)
  | .bl _, h => rfl
  | .dk _ _, h => by simp [noB] at h
  | .obj _ _ _, h => by simp [noB] at h
  | .ftp _, h => by simp [noB] at h
  | .cls _, h => by simp [noB] at h
theorem cmps_noB : ∀ t : List T, noBs t = true → cmpTs t = true
  | [], _ => rfl
  | t :: ts, h => by
    simp only [noBs, Bool.and_eq_true] at h
    simp only [cmpTs, cmp_noB t h.1, cmps_noB ts h.2, Bool.and_self]
end
theorem noBs_iff {ts : List T} : noBs ts = true ↔ ∀ t ∈ ts, noB t = true := by
  induction ts with
  | nil => simp [noBs]
  | cons t ts ih => simp [noBs, ih]
theorem deps_le {ts : List T} {n : Nat} (h : ∀ t ∈ ts, dep t ≤ n) : deps ts ≤ n := by
  induction ts with
  | nil => simp [deps]
  | cons t ts ih =>
    simp only [deps]
    have h1 := h t (.head _)
    have h2 := ih fun u hu => h u (.tail _ hu)
    omega
theorem teqB {a b : T} (ha : noB a = true) (hb : noB b = true) [Decidable (a = b)] : teq a b = decide (a = b) := by
  have := teq_iff a b ha hb
  unfold teq
  rw [Bool.eq_iff_iff, this]; simp
/-- == of data without truths -/
theorem f_eqT {Q : D → Hs → Prop} {E : XP} {x y : D} {G : Hs} {neg : Bool} {a b : T} (h1 : asD G x = some a) (h2 : asD G y = some b) (ha : noB a = true) (hb : noB b = true) (hd : dep a ≤ 64) (h : ∀ t : Bool, (t = true ↔ (if neg then a ≠ b else a = b)) → Q (.t (.bl t)) G) : Wp (fEq neg x y G) Q E := by
  refine f_eq h1 h2 ?_ (h _ ?_)
  · unfold eqOk
    rw [cmp_noB a ha, cmp_noB b hb]
    simp only [Bool.and_self, Bool.true_and, decide_eq_true_eq]
    omega
  · have := teq_iff a b ha hb
    unfold teq
    cases neg
    · simpa using this
    · simp [← this]
theorem noB_strs (ws : List Str) : noBs (ws.map T.str) = true := noBs_iff.mpr (by simp; intro a _; rfl)
theorem noB_ints (ws : List Int) : noBs (ws.map T.int) = true := noBs_iff.mpr (by simp; intro a _; rfl)
theorem dep_strs (ws : List Str) : deps (ws.map T.str) = 0 := Nat.le_zero.mp (deps_le (by simp; intro a _; rfl))
theorem dep_ints (ws : List Int) : deps (ws.map T.int) = 0 := Nat.le_zero.mp (deps_le (by simp; intro a _; rfl))
theorem str_inj : Function.Injective T.str := fun a b h => by injection h
theorem int_inj : Function.Injective T.int := fun a b h => by injection h
theorem atI_ok {α : Type} {xs : List α} {i : Int} (h0 : 0 ≤ i) (h1 : i < xs.length) : ∃ x, xs[i.toNat]? = some x ∧ atI xs i = some x := by
  have hn : i.toNat < xs.length := by omega
  refine ⟨xs[i.toNat], List.getElem?_eq_getElem hn, ?_⟩
  unfold atI ixN
  rw [if_pos h0, if_pos h1]
  exact List.getElem?_eq_getElem hn
theorem exMap {α β : Type} {f : α → β} {p : α → Prop} : ∀ {ts : List β}, (∀ t ∈ ts, ∃ a, t = f a ∧ p a) → ∃ as : List α, ts = as.map f ∧ ∀ a ∈ as, p a
  | [], _ => ⟨[], rfl, by simp⟩
  | t :: ts, h => by
    obtain ⟨a, e, ha⟩ := h t (.head _)
    obtain ⟨as, e2, h2⟩ := exMap (f := f) (p := p) (ts := ts) fun u hu => h u (.tail _ hu)
    exact ⟨a :: as, by rw [e, e2]; rfl, by simpa using ⟨ha, h2⟩⟩
/-! ### places in the heap -/
theorem gSet {G : Hs} {p : Nat} {o o' : O} (h : G[p]? = some o') : (G.set p o)[p]? = some o := by
  have := (List.getElem?_eq_some_iff.mp h).1
  rw [List.getElem?_set_self this]
theorem gApp {G H : Hs} {p : Nat} {o : O} (h : G[p]? = some o) : (G ++ H)[p]? = some o := by
  have := (List.getElem?_eq_some_iff.mp h).1
  rw [List.getElem?_append_left this]; exact h
theorem gNew {G : Hs} {o : O} : (G ++ [o])[G.length]? = some o := by simp
theorem gLt {G : Hs} {p : Nat} {o : O} (h : G[p]? = some o) : p < G.length := (List.getElem?_eq_some_iff.mp h).1
theorem kp_of {G : Hs} {x : D} : kpOk (kpOf G x) G := by
  intro i o h
  unfold kpOf at h
  split at h
  · next i' =>
    cases e : G[i']? with
    | none => rw [e] at h; cases h
    | some o' => rw [e] at h; simp at h; obtain ⟨rfl, rfl⟩ := h; exact e
  · cases h
/-- the same but for what stands at p -/
def Fr (p : Nat) (G G' : Hs) : Prop := G'.length = G.length ∧ ∀ i, i ≠ p → G'[i]? = G[i]?
theorem Fr.refl {p : Nat} {G : Hs} : Fr p G G := ⟨rfl, fun _ _ => rfl⟩
theorem Fr.trans {p : Nat} {G G' G2 : Hs} (a : Fr p G G') (b : Fr p G' G2) : Fr p G G2 := ⟨b.1.trans a.1, fun i h => (b.2 i h).trans (a.2 i h)⟩
theorem Fr.set {p : Nat} {G : Hs} {o : O} : Fr p G (G.set p o) := ⟨by simp, fun i h => by rw [List.getElem?_set_ne (Ne.symm h)]⟩
theorem Fr.get {p i : Nat} {G G' : Hs} (a : Fr p G G') (h : i ≠ p) {o : O} (e : G[i]? = some o) : G'[i]? = some o := by rw [a.2 i h]; exact e
end BL

set_option Elab.async false
set_option linter.all false
set_option maxRecDepth 100000
set_option maxHeartbeats 1000000
namespace BL
open PySem L2
section
variable {Q : D → Hs → Prop} {E : XP} {N : NP} {R : TP} {B C : NP} {X : XP} {d x y z : D} {G : Hs} {r : Ev}
abbrev dS (w : Str) : D := .t (.str w)
abbrev dI (i : Int) : D := .t (.int i)
theorem asS_or {ds : List D} (h : asS G d = some ds) : asT d = some ds ∨ (asT d = none ∧ asL G d = some ds) := by
  unfold asS at h
  cases e : asT d with
  | some es => rw [e] at h; left; exact h
  | none => rw [e] at h; right; exact ⟨rfl, h⟩
theorem asS_kind {ds : List D} (h : asS G d = some ds) : kind G d = some .tup ∨ kind G d = some .lst := by
  cases d with
  | t x => cases x <;> simp_all [asS, asT, asL, kind]
  | loc i =>
    simp only [asS, asT, asL] at h
    simp only [kind]
    cases e : G[i]? with
    | none => rw [e] at h; cases h
    | some o => rw [e] at h; cases o <;> simp_all
theorem asS_app {ds : List D} {H : Hs} (h : asS G d = some ds) : asS (G ++ H) d = some ds := by
  cases d with
  | t x => cases x <;> simp_all [asS, asT, asL]
  | loc i =>
    simp only [asS, asT, asL] at h ⊢
    cases e : G[i]? with
    | none => rw [e] at h; cases h
    | some o => rw [e] at h; rw [gApp e]; exact h
theorem asS_same {ds : List D} {G' : Hs} (h : asS G d = some ds) (hs : ∀ i, d = .loc i → G'[i]? = G[i]?) : asS G' d = some ds := by
  cases d with
  | t x => cases x <;> simp_all [asS, asT, asL]
  | loc i =>
    simp only [asS, asT, asL] at h ⊢
    rw [hs i rfl]; exact h
theorem asS_loc {i : Nat} {ds : List D} (h : G[i]? = some (.lst ds)) : asS G (.loc i) = some ds := by
  simp only [asS, asT, asL, h]
theorem asS_tup {ts : List T} : asS G (.t (.tup ts)) = some (ts.map D.t) := rfl
theorem asS_lst {ts : List T} : asS G (.t (.lst ts)) = some (ts.map D.t) := rfl
theorem kpL {G' : Hs} (h : ∀ i, x = .loc i → G'[i]? = G[i]?) : kpOk (kpOf G x) G' := by
  intro i o e
  unfold kpOf at e
  split at e
  · next i' =>
    cases q : G[i']? with
    | none => rw [q] at e; cases e
    | some o' => rw [q] at e; simp at e; obtain ⟨rfl, rfl⟩ := e; rw [h _ rfl]; exact q
  · cases e
theorem i_S' {a : De} {P : List Im → Kp → Hs → Prop} (h : Wp (a r G) (fun x G1 => ∃ ds, asS G1 x = some ds ∧ ∀ kp, (∀ G', (∀ i, x = .loc i → G'[i]? = G1[i]?) → kpOk kp G') → P (ds.map Im.one) kp G1) E) : Wi (iS a r G) P E := by
  apply i_S
  refine e_cut _ h (fun x G1 h => ?_)
  obtain ⟨ds, h1, h2⟩ := h
  refine ⟨ds, ?_⟩
  rcases asS_or h1 with q | ⟨q, q2⟩
  · exact .inl ⟨q, h2 _ fun _ _ => kp_none⟩
  · exact .inr ⟨q, q2, h2 _ fun G' hs => kpL hs⟩
theorem i_En' {a : De} {P : List Im → Kp → Hs → Prop} (h : Wp (a r G) (fun x G1 => ∃ ds, asS G1 x = some ds ∧ ∀ kp, (∀ G', (∀ i, x = .loc i → G'[i]? = G1[i]?) → kpOk kp G') → P (enumIms ds) kp G1) E) : Wi (iEn a r G) P E := by
  apply i_En
  refine e_cut _ h (fun x G1 h => ?_)
  obtain ⟨ds, h1, h2⟩ := h
  refine ⟨ds, ?_⟩
  rcases asS_or h1 with q | ⟨q, q2⟩
  · exact .inl ⟨q, h2 _ fun _ _ => kp_none⟩
  · exact .inr ⟨q, q2, h2 _ fun G' hs => kpL hs⟩
theorem f_sl {ts : List T} {lo hi : Option Int} (h : asS G x = some (ts.map D.t)) (k : ∀ t, (t = .tup (cutA ts lo hi) ∨ t = .lst (cutA ts lo hi)) → Q (.t t) G) : Wp (fSl x lo hi G) Q E := by
  have hn := asS_notS h
  unfold fSl
  split
  · next z => exact absurd rfl (hn z)
  · next us =>
    have e : us = ts := by
      have := Option.some.inj h
      have := congrArg plain this
      rw [plain_map, plain_map] at this
      exact Option.some.inj this
    subst e
    exact e_ok (k _ (.inl rfl))
  · next us =>
    have e : us = ts := by
      have := Option.some.inj h
      have := congrArg plain this
      rw [plain_map, plain_map] at this
      exact Option.some.inj this
    subst e
    exact e_ok (k _ (.inl rfl))
  · next h1 h2 h3 =>
    rcases asS_or h with q | ⟨q, q2⟩
    · cases x with
      | loc i => simp [asT] at q
      | t u =>
        cases u with
        | tup vs => exact absurd rfl (h2 _)
        | ftp vs => exact absurd rfl (h3 _)
        | _ => simp [asT] at q
    · rw [q2]
      simp only [plain_map]
      exact e_ok (k _ (.inr rfl))
theorem f_inS {c : Nat} {z : Str} {neg : Bool} (k : Q (.t (.bl (if neg then !decide (c ∈ z.cps.toList) else decide (c ∈ z.cps.toList)))) G) : Wp (fIn neg (.t (.str ⟨#[c]⟩)) (.t (.str z)) G) Q E := by
  have e : fIn neg (.t (.str ⟨#[c]⟩)) (.t (.str z)) G = .ok (.t (.bl (if neg then !decide (c ∈ z.cps.toList) else decide (c ∈ z.cps.toList)))) G := by
    simp only [fIn]
    rfl
  rw [e]; exact e_ok k
theorem teqS {i j : Str} : teq (.str i) (.str j) = decide (i = j) := by
  show (i == j) = _
  rw [Bool.eq_iff_iff]; simp
theorem flat_strs : ∀ ws : List Str, flatTs (ws.map T.str) = true
  | [] => rfl
  | w :: ws => by simp [flatTs, flatT, flat_strs ws]
theorem any_strs (ws : List Str) (w : Str) : (ws.map T.str).any (fun t => teq t (.str w)) = decide (w ∈ ws) := by
  induction ws with
  | nil => rfl
  | cons v ws ih =>
    rw [List.map_cons, List.any_cons, ih, teqS, Bool.eq_iff_iff]
    simp only [Bool.or_eq_true, decide_eq_true_eq, List.mem_cons]
    constructor
    · rintro (h | h)
      · exact .inl h.symm
      · exact .inr h
    · rintro (h | h)
      · exact .inl h.symm
      · exact .inr h
/-- a word in a row of words -/
theorem f_inW {w : Str} {ws : List Str} (h : asS G y = some (ws.map dS)) (k : Q (.t (.bl (decide (w ∈ ws)))) G) : Wp (fIn false (.t (.str w)) y G) Q E := by
  have e : plain (ws.map dS) = some (ws.map T.str) := by
    have := plain_map (ws.map T.str)
    rw [List.map_map] at this
    exact this
  have e3 : fIn false (.t (.str w)) y G = .ok (.t (.bl (decide (w ∈ ws)))) G := by
    have e2 := any_strs ws w
    cases y with
    | loc j => simp only [fIn, h, e, flat_strs, e2, flatT, and_self, if_true, Bool.false_eq_true, if_false]
    | t u => cases u <;> first | (simp [asS, asT, asL] at h; done) | simp only [fIn, h, e, flat_strs, e2, flatT, and_self, if_true, Bool.false_eq_true, if_false]
  rw [e3]; exact e_ok k
theorem cut_take {α : Type} (xs : List α) (n : Nat) : cutA xs none (some (n : Int)) = xs.take n := by
  unfold cutA
  rw [HT.sIx_none, HT.sIx_nat]
  simp
theorem cut_drop {α : Type} (xs : List α) (n : Nat) : cutA xs (some (n : Int)) none = xs.drop n := by
  unfold cutA
  rw [HT.sIx_none, HT.sIx_nat]
  by_cases h : n ≤ xs.length
  · rw [Nat.min_eq_left h, List.take_of_length_le (by simp)]
  · rw [Nat.min_eq_right (by omega), List.drop_eq_nil_of_le (as := xs) (i := n) (by omega)]
    simp
/-- all([.. for x in ..]) -/
theorem e_all {own : List Nat} {di : Di} {i : Nat} {elt : De} (p : D → Bool) (h : Wi (di r G) (fun its kp G1 => G1 = G ∧ kpOk kp G ∧ ∃ ds : List D, its = ds.map Im.one ∧ (∀ d ∈ ds, ∀ Q' : D → Hs → Prop, Q' (.t (.bl (p d))) G → Wp (elt ((wipeE r own).set i (some d)) G) Q' (fun _ _ _ _ => False)) ∧ Q (.t (.bl (ds.all p))) G) E) : Wp (dArgs [compRun own di (gN i) dYes elt kLst] fAll r G) Q E := by
  apply e_args1
  apply e_comp
  cases e : di r G with
  | stuck => rw [e] at h; with_unfolding_all exact h
  | exc c ns ds G1 => rw [e] at h; with_unfolding_all exact h
  | ok its kp G1 =>
    rw [e] at h
    simp only [Wi] at h ⊢
    obtain ⟨rfl, hk, ds, rfl, hs, hq⟩ := h
    refine c_map (f := fun d => .t (.bl (p d))) hk hs ?_
    have e1 : (ds.map fun d => D.t (.bl (p d))) = (ds.map fun d => T.bl (p d)).map D.t := by rw [List.map_map]; rfl
    rw [e1]
    refine k_lst (plain_map _) ?_
    have e2 : (ds.map fun d => T.bl (p d)).map D.t = (ds.map p).map fun b => D.t (.bl b) := by rw [List.map_map, List.map_map]; rfl
    refine f_all (ds := (ds.map fun d => T.bl (p d)).map D.t) rfl (by rw [e2]; exact bools_map _) ?_
    rw [List.all_map]
    exact hq
theorem c_range {i n : Nat} {elt : De} {kp : Kp} {f : Nat → D} {K : List D → Hs → Prop} (hk : kpOk kp G)
    (hs : ∀ j : Nat, j < n → ∀ Q' : D → Hs → Prop, Q' (f j) G → Wp (elt (r.set i (some (.t (.int (j : Int))))) G) Q' (fun _ _ _ _ => False)) (he : K ((List.range n).map f) G) :
    Wc (compLoop (gN i) dYes elt kp r (((List.range n).map fun i : Nat => D.t (.int (i : Int))).map Im.one) [] G) K := by
  refine c_loop (fun j acc G' => acc = (List.range j).map f ∧ G' = G) ⟨rfl, rfl⟩ (fun _ _ _ h => by rw [h.2]; exact hk) (fun j acc G' d hd hI => ?_) (fun acc G' hI => by
    rw [List.length_map, List.length_range] at hI
    rw [hI.1, hI.2]; exact he)
  obtain ⟨rfl, rfl⟩ := hI
  have hj : j < n := by
    have := (List.getElem?_eq_some_iff.mp hd).1
    simpa using this
  rw [List.getElem?_map, List.getElem?_range hj] at hd
  cases hd
  refine hs j hj _ ⟨?_, rfl⟩
  rw [List.range_succ]
  simp
theorem len_tl (w : Str) : w.length = (TL.tl w).length := rfl
theorem tl_ext {w v : Str} (h : TL.tl w = TL.tl v) : w = v := by
  cases w; cases v
  have := Array.toList_inj.mp h
  exact congrArg Str.mk this
theorem strs_map : ∀ ys : List Str, strsT (ys.map dS) = some ys
  | [] => rfl
  | y :: ys => by simp [strsT, strs_map ys]
theorem joinL_nil : ∀ ps : List (List Nat), TL.joinL [] ps = ps.flatten
  | [] => rfl
  | [p] => by simp [TL.joinL]
  | p :: q :: ps => by rw [TL.joinL, joinL_nil (q :: ps)]; simp
/-- "".join of single signs -/
theorem f_joinC {cs : List Nat} (hl : cs.length ≤ 1000) (k : ∀ w, TL.tl w = cs → Q (.t (.str w)) G) : Wp (fJoin (.t (.str "")) [.t (.lst (cs.map fun c => .str ⟨#[c]⟩))] G) Q E := by
  have e1 : strsT ((cs.map fun c => T.str ⟨#[c]⟩).map D.t) = some (cs.map fun c => (⟨#[c]⟩ : Str)) := by
    have := strs_map (cs.map fun c => (⟨#[c]⟩ : Str))
    rw [List.map_map] at this ⊢
    exact this
  have e2 : ((cs.map fun c => (⟨#[c]⟩ : Str)).map (·.length)).sum = cs.length := by
    rw [List.map_map]
    clear hl e1 k
    induction cs with
    | nil => rfl
    | cons c cs ih => rw [List.map_cons, List.sum_cons, ih]; show 1 + _ = _; rw [List.length_cons]; omega
  have e3 : (("" : Str)).length = 0 := rfl
  have e : fJoin (.t (.str "")) [.t (.lst (cs.map fun c => .str ⟨#[c]⟩))] G = .ok (.t (.str (Txt.join "" (cs.map fun c => (⟨#[c]⟩ : Str))))) G := by
    simp only [fJoin, asS_lst, e1, e2, e3]
    rw [if_pos (by simp; omega)]
  rw [e]
  refine e_ok (k _ ?_)
  rw [TL.join_eq, TL.tl_join]
  have e4 : TL.tl ("" : Str) = [] := rfl
  rw [e4, joinL_nil, List.map_map]
  have e5 : (TL.tl ∘ fun c => (⟨#[c]⟩ : Str)) = fun c : Nat => [c] := rfl
  rw [e5]
  clear hl e1 e2 e k
  induction cs with
  | nil => rfl
  | cons c cs ih => rw [List.map_cons, List.flatten_cons, ih]; rfl
theorem setNew {G : Hs} {o o' : O} : (G ++ [o]).set G.length o' = G ++ [o'] := by
  simp
theorem takeNew {G H : Hs} : (G ++ H).take G.length = G := by simp
end
end BL

set_option Elab.async false
set_option linter.all false
set_option maxRecDepth 100000
set_option maxHeartbeats 2000000
namespace BL
open PySem L2

/-! ### a def that has the cell __class__: its context, its entry -/
def cxK (CX : CXT) (P : Program) (w : World) (K : PySem.W.Frag) (mg : Str → Option Value) (base : Heap) (N : List Str) (qual : Str) (scope : Scope) (f cda cc : Addr) (A : Around) (outer : List Env) (s : Shared) (H : Hp) (E : XK) : Cx :=
  let env := PySem.W.ksEnv qual scope s.heap.objs.size f (.ref cda) cc
  { prog := P, w := w, K := K, mg := mg, base := base, A := A.deeper env, N := N, s_0 := s, H_0 := H, env := env, outer := outer, stack := env :: outer, ex := [], calm := true, fn := fun _ => false, pn := [],
    xe := fun e s' => wpAny (model P w) (A.deeper env) (leaving env e) (fun _ s'' => CX outer H s E e s'') (fun e' s'' => CX outer H s E e' s'') s' }
structure FnScK (N ps : List Str) (sc : Scope) : Prop where
  kind : sc.kind = .function
  co : sc.isCoroutine = false
  gen : sc.isGenerator = false
  nd : N.Nodup
  pre : N.take ps.length = ps
  par : ∀ x ∈ ps, sc.names.lookup x = some .local
  free : ∀ y ∈ sc.names, y.2 = .free → y.1 = ("__class__" : Str)
  nocell : ∀ y ∈ sc.names, y.2 ≠ .cell
  hs : sc.names.lookup ("super" : Str) = some .globalImplicit
  hc : sc.names.lookup ("__class__" : Str) = some .free
theorem lk_of {l : List (Str × Value)} {y : Str} {u : Value} (h : (y, u) ∈ l) (hu : ∀ v, (y, v) ∈ l → v = u) : l.lookup y = some u := by
  induction l with
  | nil => cases h
  | cons p l ih =>
    obtain ⟨z, v⟩ := p
    by_cases e : y = z
    · subst e
      have := hu v (.head _)
      subst this
      simp [List.lookup]
    · have e' : (y == z) = false := by simpa using e
      simp only [List.lookup, e']
      refine ih ?_ fun v hv => hu v (.tail _ hv)
      rcases List.mem_cons.mp h with h | h
      · injection h with h1 _; exact absurd h1 e
      · exact h
theorem zip_lk {ps : List Str} {us : List Value} (nd : ps.Nodup) {i : Nat} {y : Str} {u : Value} (hp : ps[i]? = some y) (hu : us[i]? = some u) : (ps.zip us).reverse.lookup y = some u := by
  have hz : (ps.zip us)[i]? = some (y, u) := by rw [List.getElem?_zip_eq_some]; exact ⟨hp, hu⟩
  refine lk_of (List.mem_reverse.mpr (List.mem_of_getElem? hz)) fun v hv => ?_
  obtain ⟨j, hj⟩ := List.mem_iff_getElem?.mp (List.mem_reverse.mp hv)
  rw [List.getElem?_zip_eq_some] at hj
  have hij : i = j := by
    obtain ⟨h1, e1⟩ := List.getElem?_eq_some_iff.mp hp
    obtain ⟨h2, e2⟩ := List.getElem?_eq_some_iff.mp hj.1
    rcases Nat.lt_trichotomy i j with q | q | q
    · exact absurd (e1.trans e2.symm) (List.pairwise_iff_getElem.mp nd i j h1 h2 q)
    · exact q
    · exact absurd (e2.trans e1.symm) (List.pairwise_iff_getElem.mp nd j i h2 h1 q)
  subst hij
  rw [hu] at hj
  exact (Option.some.inj hj.2).symm
section
variable {CX : CXT} {P : Program} {w : World} {K : PySem.W.Frag} {mg : Str → Option Value} {base : Heap} {N ps : List Str} {qual : Str} {scope : Scope} {f cda cc : Addr} {A : Around} {outer : List Env} {s : Shared} {H : Hp} {E : XK} {us : List Value} {vs : List V}
theorem inv_startK {h1 : Heap} {tk : Nat} {ocl : Value} {ocd : Option Addr} {ocs : Array (Option Value)} {cv : Option Value} (S : FnScK N ps scope) (hd : A.handled = none) (e0 : Env0 P w K mg base A outer s H) (hl : vs.length = ps.length) (r : Vals vs us)
    (hcc : K.lookup cc = some ⟨ocl, ocd, .cell cv, ocs⟩) (hns : h1.Ns s.heap.objs.size (fun x => (ps.zip us).reverse.lookup x)) (hk : ∀ b o, s.heap.get? b = some o → h1.get? b = some o) :
    Inv (cxK CX P w K mg base N qual scope f cda cc A outer s H E) [] (L2.start N vs) H { s with heap := h1, toks := tk } := by
  have hpl : ps.length ≤ N.length := by have := congrArg List.length S.pre; rw [List.length_take] at this; omega
  have noA : ∀ b : Addr, b ∉ (cxK CX P w K mg base N qual scope f cda cc A outer s H E).ex := fun b z => absurd (show b ∈ ([] : List Addr) from z) (by simp)
  have one : ∀ {y : Str} {c : Addr}, ([(("__class__" : Str), cc)] : List (Str × Addr)).lookup y = some c → y = "__class__" ∧ c = cc := fun {y c} h => by
    by_cases e : y = "__class__"
    · subst e; simp [List.lookup] at h; exact ⟨rfl, h.symm⟩
    · have e' : (y == ("__class__" : Str)) = false := by simpa using e
      simp [List.lookup, e'] at h
  have hb := e0.mod.kin _ _ hcc
  have hb2 := e0.bs _ _ hb
  refine ⟨⟨e0.mod, S.kind, rfl, rfl, Nat.le_refl _, fun y z c h1 h2 => ?_, fun y hy => ?_, fun y c h => ?_, fun _ => hd, Around.frames_deeper e0.frames, .inr ⟨rfl, rfl⟩, fun b z => absurd z (noA b), e0.bs, e0.bsz, fun b _ _ => noA b, fun b z => absurd z (noA b), e0.funs, e0.frf⟩,
    rfl, e0.bare, Un.kept hk, ⟨_, hns, fun i y v h1 h2 h3 => ?_⟩, fun y c h => ?_, e0.hok.fresh (Nat.le_refl _), fun y c h => ?_, fun p hp => absurd (show p ∈ ([] : List (Addr × Obj)) from hp) (by simp), e0.hok.kept hk, ?_⟩
  · exact (one h1).1.trans (one h2).1.symm
  · have hy : scope.names.lookup y = some .cell ∨ scope.names.lookup y = some .free := hy
    rcases hy with hy | hy
    · exact absurd rfl (S.nocell _ (PySem.mem_of_lookup hy))
    · have := S.free _ (PySem.mem_of_lookup hy) rfl
      have : y = "__class__" := this
      subst this
      exact ⟨cc, show ([(("__class__" : Str), cc)] : List (Str × Addr)).lookup ("__class__" : Str) = some cc by simp [List.lookup]⟩
  · cases h
  · have hi : i < vs.length := by
      unfold L2.start at h2
      by_cases hi : i < vs.length
      · exact hi
      · rw [List.getElem?_append_right (by simpa using hi)] at h2
        rw [List.getElem?_replicate] at h2
        split at h2 <;> cases h2
    have ha : vs[i]? = some v := by
      unfold L2.start at h2
      rw [List.getElem?_append_left (by simpa using hi), List.getElem?_map] at h2
      cases e : vs[i]? with
      | none => rw [e] at h2; cases h2
      | some a => rw [e] at h2; cases h2; rfl
    obtain ⟨u, hu, rv⟩ := r.get ha
    have hp : ps[i]? = some y := by
      rw [← S.pre, List.getElem?_take_of_lt (by omega)]; exact h1
    have ndP : ps.Nodup := by rw [← S.pre]; exact S.nd.sublist (List.take_sublist _ _)
    exact ⟨u, rv, .inl ⟨S.par y (List.mem_of_getElem? hp), zip_lk ndP hp hu⟩⟩
  · rw [(one h).2]
    exact ⟨cv, _, hk _ _ hb2.1, rfl⟩
  · rw [(one h).2]; exact hb2.2
  · unfold L2.start
    show _ = N.length
    rw [List.length_append, List.length_map, List.length_replicate]
    omega
end
/-! ### super().__init__(text) -/
structure SupC (P : Program) (K : PySem.W.Frag) (f cda cc C : Addr) : Prop where
  fn : ∃ oc od fd osl ar, K.lookup f = some ⟨oc, od, .func fd, osl⟩ ∧ (fd.params.posonlyargs ++ fd.params.args).head? = some ar ∧ ar.arg = ("self" : Str)
  code : ∃ ccl cdd vs ccs file tf, K.lookup cda = some ⟨ccl, cdd, .fields vs, ccs⟩ ∧ vs[2]? = some (.str file tf) ∧ ((P.main.file : Str) == file) = true
  cell : ∃ cl cld csl, K.lookup cc = some ⟨cl, cld, .cell (some (.ref C)), csl⟩
  cls : ∃ cd, PySem.W.clsIn K C = some cd ∧ PySem.W.alongIn K "__init__" ((cd.mro.dropWhile (· != .ref C)).drop 1) = some (some (.builtin "ValueError.__init__"))
  self : PySem.W.mroIn K C (.ref C) = some true
  val : PySem.W.subIn K (.ref C) (.type "ValueError") = some true
  op : PySem.W.nsIn K cStatics "thirdparty.any" = some none
  top : (P.main.scope.names.lookup ("super" : Str)).isSome = false
section
variable {CX : CXT} {P : Program} {w : World} {K : PySem.W.Frag} {mg : Str → Option Value} {base : Heap} {N ps : List Str} {qual : Str} {scope : Scope} {f cda cc C : Addr} {A : Around} {outer : List Env} {s0 s : Shared} {H0 H : Hp} {E : XK} {σ : St}
abbrev supE (m : Str) (j : Nat) (p0 p1 p2 p3 p4 : Pos) : Expr := .Call (.Attribute (.Call (.Name "super" p0) [] [] p1) "__init__" p2) [.Constant (.str m) j p3] [] p4
def SupEval (pl : Env → Sem Bool) (m : Str) (j : Nat) (p0 p1 p2 p3 p4 : Pos) : Prop := ∀ env, eval (supE m j p0 p1 p2 p3 p4) env = (attributeBase (.Call (.Name "super" p0) [] [] p1) "__init__" env (eval (.Call (.Name "super" p0) [] [] p1) env) >>= fun ov => standAt p2.atName >>= fun _ => holding [ov] (getMethod ov "__init__" (pl env)) >>= fun q => callWith p4 q.1 q.2 (backTo p4 (starEach [.Constant (.str m) j p3] env)) [])
theorem sup_ok {pl : Env → Sem Bool} {body : List Stmt} {m : Str} {j : Nat} {p0 p1 p2 p3 p4 : Pos} {a : Addr} {E' : Value → Shared → Prop} {Q : Value → Shared → Prop} (he : SupEval pl m j p0 p1 p2 p3 p4) (S : FnScK N ps scope) (c : SupC P K f cda cc C) (T : OexC K C) (hm : mg "super" = none) (hN : N[0]? = some ("self" : Str)) (hself : scope.names.lookup ("self" : Str) = some .local)
    (I : Inv (cxK CX P w K mg base N qual scope f cda cc A outer s0 H0 E) [] σ H s) (ha : σ[0]? = some (some (.ref a))) (hH : H a = some (exo a C none))
    (hq : ∀ v s', Inv (cxK CX P w K mg base N qual scope f cda cc A outer s0 H0 E) [] σ H s' → Q v s') :
    _root_.PySem.wpAt (model P w) (cxK CX P w K mg base N qual scope f cda cc A outer s0 H0 E).A (.func body (cxK CX P w K mg base N qual scope f cda cc A outer s0 H0 E).env)
      (eval (supE m j p0 p1 p2 p3 p4) (cxK CX P w K mg base N qual scope f cda cc A outer s0 H0 E).env) Q E' s := by
  obtain ⟨oc, od, fd, osl, ar, hf, hp, har⟩ := c.fn
  obtain ⟨ccl, cdd, vs, ccs, file, tf, hcode, hvs, hfile⟩ := c.code
  obtain ⟨cl, cld, csl, hcell⟩ := c.cell
  obtain ⟨cd, hcd, hal⟩ := c.cls
  have KX := I.kIn
  refine ks_wpAt_MethodCall (pl := pl _) ?_ (he _)
  refine ks_wpAt_super_base S.hs S.hc (by decide) rfl (KX _ _ hf) rfl hp rfl (KX _ _ hcode) rfl hvs hfile c.top ?_
  obtain ⟨mb, hb1, hb2⟩ := I.mod.blt
  refine PySem.W.ks_loadName_global S.kind S.hs (Calls.loadGlobal_builtin (I.mod.glob.keeps I.bk) hm (hb1.keeps I.bk) ((hb2 "super" (by decide)).trans PyProof.Rows.Boot.«super») ⟨rfl, ?_⟩)
  refine wpAny_loadName_free S.kind S.hc rfl ⟨_, KX _ _ hcell, rfl⟩ ?_
  obtain ⟨mm, hns, hloc⟩ := I.loc
  obtain ⟨u, ru, hlk⟩ := hloc 0 "self" _ hN ha (.inl hself)
  obtain rfl : u = Value.ref a := ru
  have hv : mm "self" = some (.ref a) := by
    rcases hlk with ⟨_, q⟩ | ⟨q, _⟩
    · exact q
    · exfalso
      have q : scope.names.lookup ("self" : Str) = some .cell ∨ scope.names.lookup ("self" : Str) = some .free := q
      rw [hself] at q
      rcases q with q | q <;> cases q
  rw [har]
  refine wpAny_loadName_local S.kind hself hns hv ?_
  obtain ⟨oD, hD1, hD2⟩ : ∃ oD, s.heap.get? C = some oD ∧ oD.data = .cls cd := by
    unfold PySem.W.clsIn at hcd
    split at hcd
    · rename_i c' d' cd' sl ho
      cases hcd
      exact ⟨_, KX _ _ ho, rfl⟩
    · cases hcd
  obtain ⟨t1, hx⟩ := exo_at I.hok hH
  obtain ⟨hh, g, dr, tk, os⟩ := s
  refine ks_wpAny_isType_cls hD1 hD2 ⟨rfl, ?_⟩
  refine ks_wpAny_call_super hD1 hD2 hx rfl (fun c e => by cases e) (PySem.W.looks_mroIn KX c.self) (fun h' e k => ?_)
  have I1 := I.kept (t' := tk) k
  have KX1 := I1.kIn
  have hx1 := k _ _ hx
  have hI : PySem.W.Looks (model P w) h' (isInstance (.ref a) (.type "ValueError")) true := (PySem.W.InstAt.type (h := h') (x := a) (C := C) (od := none) ⟨hx1, rfl, rfl, trivial⟩).andThen (PySem.W.looks_subIn KX1 c.val)
  refine PySem.W.kxs_getMethod PySem.W.kxs_ValueError e (PySem.W.looks_opaque KX1 c.op) (l₀ := cd.mro) (fun A Q E s k q => wpAny_bind ((PySem.W.looks_clsIn KX1 hcd) A _ E s k (wpAny_pure q))) rfl KX1 hal hI ?_ (by decide) ?_
  · exact PySem.W.ks_ne KX1 (ox := { cls := .ref C, dict := none, data := .fields #[.ref t1, .none, .none, .none, .bool false, .none] }) (odx := none) ⟨hx1, rfl, rfl, trivial⟩ hcd
  have k2 : ∀ b o, h'.get? b = some o → (h'.push (PySem.W.kxs_mw "ValueError.__init__" a)).get? b = some o := fun b o q => Heap.get?_push_of_some _ q
  have I2 := I1.kept (t' := tk + 1) k2
  refine PySem.W.kxs_callWith (i := "ValueError.__init__") (x := a) rfl (Calls.evalArgs_plain ?_)
  have hpa : PA (cxK CX P w K mg base N qual scope f cda cc A outer s0 H0 E) [.Constant (.str m) j p3] (tCons (tC (.str m)) tNil) := pa_cons pe_str pa_nil
  have I2p := I2.pins_of (pins' := [(h'.objs.size, PySem.W.kxs_mw "ValueError.__init__" a)]) fun p hp => by
    rcases List.mem_cons.mp hp with rfl | hp
    · exact ⟨Heap.get?_push_at rfl rfl, I1.hok.fresh (Nat.le_refl _), Ne.symm (Nat.ne_of_lt I1.lt), I1.nofs (Nat.le_refl _), fun v q => by cases q⟩
    · cases hp
  refine thn (hpa.run p4 _ _ σ H (fun vs H1 => vs = [V.str m] ∧ H1 = H) I2p ⟨rfl, rfl⟩) fun us s1 hh2 => ?_
  obtain ⟨vs', H1, I3, r3, rfl, rfl⟩ := hh2
  have hu : s1.heap.get? h'.objs.size = some (PySem.W.kxs_mw "ValueError.__init__" a) := (I3.pin _ (List.mem_append_right _ (.head _))).1
  refine ⟨hu, ?_⟩
  show wpAny _ _ (call (.ref h'.objs.size) us []) _ _ _
  have I4 := I3.pins_of (pins' := []) fun p hp => by cases hp
  obtain ⟨nm, q, N', bs, bm, sn, sub, ab, col, dd, k0, k1, k2', k3, k5, hC, hbm⟩ := T.cls
  obtain ⟨t2, he2⟩ := exo_at I4.hok hH
  have hC2 := I4.kIn _ _ hC
  have hz : us.length ≤ sizeLine := by
    rw [← Paired.length r3, sizeLine_eq]
    show 1 ≤ _
    omega
  obtain ⟨hh3, g3, d3, tk3, os3⟩ := s1
  refine wpAny_call (codeAny_of_tree ?_)
  show wpAny _ (Around.in1 _) (callAny (.ref h'.objs.size) ⟨us, []⟩) _ _ _
  simp only [callAny]
  refine wpAny_bind (wpAny_load hu ?_)
  simp only [PySem.W.kxs_mw, show (Value.type "method-wrapper" == Value.type "method" || Value.type "method-wrapper" == Value.type "builtin_function_or_method" || Value.type "method-wrapper" == Value.type "method-wrapper") = true by decide, if_true]
  refine PySem.W.KFB.if_so (by decide) ?_
  refine wpAny_bind (PySem.W.check_bound_init F.excBase_ValueError.toExcCallFacts hC2 he2 rfl ?_)
  refine wpAny_bind (wpAny_pure (wpAny_pure ?_))
  refine ⟨plainId_quiet F.excBase_ValueError.init.plain _, codeAny_builtin F.excBase_ValueError.initEntry ?_⟩
  refine PySem.W.exc_init_tree (cls := .ref C) (t0 := t2) (dv := none) (c2 := .none) (c3 := .none) (b4 := .bool false) he2 hz fun h4 k4 hx4 _ => ?_
  have J := I4.write (t' := tk3) (x := a) (e := a) (o := exo a C none) (by rw [hH]; exact True.intro) (.inl rfl) k4 ⟨_, hx4⟩ (exo_ok hx4)
  have eu : upd H1 a (exo a C none) = H1 := by
    funext b
    by_cases hb : b = a
    · rw [hb, upd_same, hH]
    · rw [upd_ne hb]
  rw [eu] at J
  exact hq _ _ J
/-- what a making asks: the fields' stores t behind super().__init__ -/
def spX (N ps : List Str) (C : Addr) (t : TS) : Sp := fun vs H Q _ => vs.length = ps.length ∧ ∃ a, (L2.start N vs)[0]? = some (some (.ref a)) ∧ H a = some (exo a C none) ∧ t { nx := fun _ H' => Q .non H', rt := Q } (L2.start N vs) H
theorem exi_fn {pl : Env → Sem Bool} {k : Nat} {name : Str} {params : Arguments} {rest : List Stmt} {dV kV doc pm ct oc : Value} {an od : Option Addr} {osl : Array (Option Value)} {m : Str} {j : Nat} {p0 p1 p2 p3 p4 p5 : Pos} {t : TS}
    (lk : K.lookup f = some ⟨oc, od, .func (PySem.W.ksFn name qual params (.Expr (supE m j p0 p1 p2 p3 p4) p5 :: rest) scope dV kV doc pm an (.ref cda) ct cc), osl⟩) (hcd : PySem.W.codeIn K (.ref cda) qual = true) (he : SupEval pl m j p0 p1 p2 p3 p4) (S : FnScK N ps scope) (c : SupC P K f cda cc C) (T : OexC K C)
    (hm : mg "super" = none) (hN : N[0]? = some ("self" : Str)) (hself : scope.names.lookup ("self" : Str) = some .local)
    (hrest : ∀ A outer s H E, PSs (cxK CX P w K mg base N qual scope f cda cc A outer s H E) rest t) :
    FnOk P w K mg base CX (k + 1) f (PySem.W.ksFn name qual params (.Expr (supE m j p0 p1 p2 p3 p4) p5 :: rest) scope dV kV doc pm an (.ref cda) ct cc) ps (spX N ps C t) := by
  refine ⟨fun vs H Q E h => h.1, fun A outer s H args us vs Q E hr e0 hb r hsp => ?_⟩
  obtain ⟨hl, a, ha, hH, ht⟩ := hsp
  have KX : K.In s.heap := e0.mod.kin.keeps fun b o e => (e0.bs b o e).1
  have lim : s.heap.NoLimit := e0.mod.nolimit.keeps fun b o e => (e0.bs b o e).1
  obtain ⟨cl, cld, csl, hcell⟩ := c.cell
  refine ks_codeAny_call_defAt hr.depth (KX _ _ lk) rfl lim (PySem.W.codeRec_of KX hcd) rfl hb S.nocell (fun y hy => S.par y.1 (List.of_mem_zip hy).1) (fun h1 hns hk => ?_) S.co S.gen S.kind
  have I : Inv (cxK CX P w K mg base N qual scope f cda cc A outer s H E) [] (L2.start N vs) H { s with heap := h1, toks := s.toks + (ps.zip us).length } := inv_startK S hr.hd e0 hl r hcell hns hk
  refine ks_wpAt_execs_cons (ks_wpAt_Expr_any (sup_ok he S c T hm hN hself I ha hH fun v s' J => ?_) I.quiet)
  refine wpAt_of_wpAny (wpAny_mono ((hrest A outer s H E).run [] s' _ H _ J ht) (fun fl s'' hs => ?_) fun e s'' hs => hs)
  have fin : ∀ {σ' : St} {H' : Hp} {v : V} {u : Value}, Inv (cxK CX P w K mg base N qual scope f cda cc A outer s H E) [] σ' H' s'' → RelV v u → Q v H' → CE outer P w H s Q u s'' :=
    fun {σ' H' v u} J rv q => ⟨v, H', J.os, J.bare, J.base, J.hok, rv, q⟩
  cases fl with
  | ret u =>
    obtain ⟨v, σ', H', J, rv, q⟩ := hs
    exact fin J rv q
  | next =>
    obtain ⟨σ', H', J, q⟩ := hs
    exact fin (v := V.non) (u := Value.none) J rfl q
  | brk =>
    obtain ⟨_, _, _, q⟩ := hs
    exact False.elim q
  | cont =>
    obtain ⟨_, _, _, q⟩ := hs
    exact False.elim q
end
end BL

set_option Elab.async false
set_option linter.all false
set_option maxRecDepth 100000
set_option maxHeartbeats 2000000
namespace BL
open PySem L2

/-! ### self.f = x, one behind another -/
def tFlds (K : PySem.W.Frag) : List (Str × Nat) → TS
  | [] => tNext
  | (f, i) :: r => tSeq (tOst K f (tVar 0) (tVar i)) (tFlds K r)
section
variable {K : PySem.W.Frag} {a C dx : Addr} {σ : St} {D : Ends} {val : Nat → V}
theorem flds_old (T : OexC K C) (h0 : σ[0]? = some (some (.ref a))) (hne : dx ≠ a) : ∀ (l : List (Str × Nat)) (H : Hp) (fs : List (Str × V)), H a = some (exo a C (some dx)) → H dx = some (exd dx fs) → fs.length + l.length ≤ 900 →
    (∀ p ∈ l, PySem.W.findIn K (.ref C) p.1 = some none ∧ σ[p.2]? = some (some (val p.2))) → D.nx σ (upd H dx (exd dx ((l.map fun p => (p.1, val p.2)).reverse ++ fs))) → tFlds K l D σ H
  | [], H, fs, ha, hd, _, _, h => by
    show D.nx σ H
    have e : upd H dx (exd dx fs) = H := by
      funext b
      by_cases hb : b = dx
      · rw [hb, upd_same, hd]
      · rw [upd_ne hb]
    simpa [e] using h
  | (f, i) :: l, H, fs, ha, hd, hl, hp, h => by
    obtain ⟨h1, h2⟩ := hp (f, i) (.head _)
    refine ⟨val i, h2, .ref a, h0, a, C, rfl, T, h1, .inr ⟨dx, fs, ha, hd, by simp at hl; omega, ?_⟩⟩
    refine flds_old T h0 hne l _ ((f, val i) :: fs) ?_ upd_same (by simp at hl ⊢; omega) (fun p hp' => hp p (.tail _ hp')) ?_
    · rw [upd_ne (Ne.symm hne)]; exact ha
    · have e : upd (upd H dx (exd dx ((f, val i) :: fs))) dx (exd dx ((l.map fun p => (p.1, val p.2)).reverse ++ (f, val i) :: fs)) = upd H dx (exd dx (((((f, i) :: l).map fun p => (p.1, val p.2)).reverse) ++ fs)) := by
        funext b
        by_cases hb : b = dx
        · rw [hb, upd_same, upd_same]; simp
        · rw [upd_ne hb, upd_ne hb, upd_ne hb]
      rw [e]; exact h
theorem flds_new (T : OexC K C) (h0 : σ[0]? = some (some (.ref a))) {f : Str} {i : Nat} {l : List (Str × Nat)} {H : Hp} (ha : H a = some (exo a C none)) (hl : l.length ≤ 800) (hp : ∀ p ∈ (f, i) :: l, PySem.W.findIn K (.ref C) p.1 = some none ∧ σ[p.2]? = some (some (val p.2)))
    (h : ∀ dx, H dx = none → dx ≠ a → D.nx σ (upd (upd H a (exo a C (some dx))) dx (exd dx ((((f, i) :: l).map fun p => (p.1, val p.2)).reverse)))) : tFlds K ((f, i) :: l) D σ H := by
  obtain ⟨h1, h2⟩ := hp (f, i) (.head _)
  refine ⟨val i, h2, .ref a, h0, a, C, rfl, T, h1, .inl ⟨ha, fun dx hd hne => ?_⟩⟩
  refine flds_old T h0 hne l _ [(f, val i)] upd_same ?_ (by simp; omega) (fun p hp' => hp p (.tail _ hp')) ?_
  · rw [upd_ne hne, upd_same]
  · have e : upd (upd (upd H dx (exd dx [(f, val i)])) a (exo a C (some dx))) dx (exd dx ((l.map fun p => (p.1, val p.2)).reverse ++ [(f, val i)])) = upd (upd H a (exo a C (some dx))) dx (exd dx ((((f, i) :: l).map fun p => (p.1, val p.2)).reverse)) := by
      funext b
      by_cases hb : b = dx
      · rw [hb, upd_same, upd_same]; simp
      · rw [upd_ne hb, upd_ne hb]
        by_cases hb2 : b = a
        · rw [hb2, upd_same, upd_same]
        · rw [upd_ne hb2, upd_ne hb2, upd_ne hb]
    rw [e]; exact h dx hd hne
end
/-- the fields of the names ns, from the parameters behind self -/
def fldsOf (ns : List Str) : List (Str × Nat) := ns.zipIdx 1
/-- an own error class: its making keeps what it got, by the names ns -/
structure ExA (b : Zb) (k c : Nat) (ns : List Str) : Prop where
  T : OexC b.K (b.ca c)
  ne : ns ≠ []
  few : ns.length ≤ 100
  no : ∀ n ∈ ns, PySem.W.findIn b.K (.ref (b.ca c)) n = some none
  ex : ∃ fI fd ps, PySem.W.findIn b.K (.ref (b.ca c)) "__init__" = some (some (.ref fI)) ∧ PySem.W.typeIn b.K (.ref fI) = some (.type "function") ∧ ps.length = ns.length + 1 ∧ Binds b.K fd ps [] ∧
    FnOk b.P b.w b.K b.mg b.base (L2.CX b.P b.w) k fI fd ps (spX ps ps (b.ca c) (tFlds b.K (fldsOf ns)))
def dRaise (c : Nat) (ns : List Str) (das : List De) : Dst := fun r G => (dArgs das (fun ds G => .exc c ns.reverse ds.reverse G) r G).thn r fun _ _ => .stuck
theorem RpDs.rev {g : Gm} {m : Nat → Addr} {n b : Nat} {H : Hp} : ∀ {ds : List D} {vs : List V}, RpDs g m n b H ds vs → RpDs g m n b H ds.reverse vs.reverse
  | [], vs, h => by cases h; rfl
  | d :: ds, vs, ⟨v, ws, e, h, r⟩ => by
    subst e
    rw [List.reverse_cons, List.reverse_cons]
    exact RpDs.append (RpDs.rev r) ⟨v, [], rfl, h, rfl⟩
theorem flds_zip {val : Nat → V} : ∀ (ns : List Str) (vs : List V) (j : Nat), vs.length = ns.length → (∀ i v, vs[i]? = some v → val (i + j) = v) → ((ns.zipIdx j).map fun p => (p.1, val p.2)) = ns.zip vs
  | [], [], _, _, _ => rfl
  | n :: ns, v :: vs, j, hl, h => by
    simp only [List.zipIdx_cons, List.map_cons, List.zip_cons_cons, List.cons.injEq, Prod.mk.injEq, true_and]
    refine ⟨by simpa using h 0 v rfl, flds_zip ns vs (j + 1) (by simpa using hl) fun i u hu => ?_⟩
    have := h (i + 1) u (by simpa using hu)
    rw [← this]
    congr 1
    omega
  | [], _ :: _, _, hl, _ => by simp at hl
  | _ :: _, [], _, hl, _ => by simp at hl
section
variable {Z : Zc} {x : Str} {e : Expr} {es : List Expr} {das : List De} {k c : Nat} {ns : List Str} {p pos pos' : Pos}
theorem psd_raise (h : ExA Z.toZb k c ns) (hk : k + 1 ≤ Z.k) (hm : Z.mg x = some (.ref (Z.ca c))) (ha : PDA Z (e :: es) das) (hn : das.length = ns.length) (hg : GlS Z x := by rfl)
    (hdb : (x == ("__debug__" : Str)) = false := by decide) (he : ∀ env, starEach (e :: es) env = (false, eval e env) :: starEach es env := by intro _; rfl) (hpl : ∀ env, (backTo pos (starEach es env)).any (·.1) = false := by intro _; rfl) :
    PSD Z (.Raise (some (.Call (.Name x p) (e :: es) [] pos)) none pos') (dRaise c ns das) := fun X W ok => by
  obtain ⟨fI, fd, ps, iC, tI', hl, hb, F1⟩ := h.ex
  have hx : Passes (L2.CX X.prog X.w) X (fun _ _ _ => False) := passes_call ok.tk fun _ _ _ _ z => z.elim
  refine psI (ps_raise ok.calm ok.tk (pmk_oex (X := X) (CX := L2.CX X.prog X.w) (C := Z.ca c) (dvs := []) (ds := []) (by rw [ok.K]; exact h.T) (by rw [ok.K]; exact iC) (by rw [ok.K]; exact tI') (by rw [ok.P, ok.w, ok.K, ok.mg, ok.base]; exact F1) (ok.rm.mono hk) (by rw [ok.K]; exact hb) .nil hx
    (show X.env.scope.names.lookup x = _ by rw [ok.sc]; exact hg) (by rw [ok.mg]; exact hm) (ha X W ok) hdb (he _) (hpl _))) fun D σ H ⟨m, r, G, s, sl, p⟩ => ?_
  have pe : PostE Z.g W m G.length H σ (fun _ _ => False) (dArgs das (fun ds G => .exc c ns.reverse ds.reverse G) r G) := by
    unfold dRaise at p
    cases q : dArgs das (fun ds G => .exc c ns.reverse ds.reverse G) r G with
    | ok d G' => rw [q] at p; exact p.elim
    | stuck => rw [q] at p; exact p.elim
    | exc c' ns' ds' G' =>
      rw [q] at p
      intro da m' H' xs x' s' hd nb rs
      exact p σ da m' H' xs x' s' (Sl.ex x' s sl) hd nb rs
  refine tA_of s sl pe fun ds G1 vs m1 H1 x1 s1 sl1 rs hl1 p1 => ?_
  have hlv : vs.length = ns.length := by rw [← rs.length, hl1, hn]
  refine ⟨by rw [hlv]; have := h.few; omega, fun a hna => ?_⟩
  refine ⟨by rw [List.length_cons, List.append_nil, hlv, hl], a, ?_, upd_same, ?_⟩
  · unfold L2.start
    rfl
  have hne := h.ne
  have hval : ∀ p ∈ fldsOf ns, PySem.W.findIn Z.K (.ref (Z.ca c)) p.1 = some none ∧ (L2.start ps (V.ref a :: (vs ++ [])))[p.2]? = some (some (((V.ref a :: vs)[p.2]?).getD .non)) := by
    intro p hp
    unfold fldsOf at hp
    have hm1 := List.mem_zipIdx hp
    refine ⟨h.no p.1 (by rw [hm1.2.2]; exact List.getElem_mem _), ?_⟩
    have hi : p.2 < (V.ref a :: vs).length := by rw [List.length_cons, hlv]; omega
    unfold L2.start
    rw [List.append_nil, List.getElem?_append_left (by simpa using hi), List.getElem?_map, List.getElem?_eq_getElem hi]
    rfl
  have hz : ((fldsOf ns).map fun p => (p.1, ((V.ref a :: vs)[p.2]?).getD .non)) = ns.zip vs := flds_zip (val := fun i => ((V.ref a :: vs)[i]?).getD .non) ns vs 1 hlv fun i v hv => by simp [hv]
  obtain ⟨f0, l0, hfl⟩ : ∃ f0 l0, fldsOf ns = (f0, 1) :: l0 := by
    cases ns with
    | nil => exact absurd rfl hne
    | cons n ns => exact ⟨n, ns.zipIdx 2, rfl⟩
  have hlen0 : l0.length ≤ 800 := by
    have e1 : (fldsOf ns).length = ns.length := by unfold fldsOf; simp
    rw [hfl, List.length_cons] at e1
    have := h.few
    omega
  rw [hfl] at hval hz ⊢
  refine flds_new (val := fun i => ((V.ref a :: vs)[i]?).getD .non) h.T rfl upd_same hlen0 hval fun dx hd hdx => ?_
  rw [upd_ne hdx] at hd
  rw [hz]
  refine ⟨rfl, dx, _, ?_, upd_same, hd, ?_⟩
  · rw [upd_ne (Ne.symm hdx), upd_same]
  have er : (ns.zip vs).reverse = ns.reverse.zip vs.reverse := List.reverse_zipWith (by rw [hlv])
  have eH : upd (del (upd (upd (upd H1 a (exo a (Z.ca c) none)) a (exo a (Z.ca c) (some dx))) dx (exd dx (ns.zip vs).reverse)) a) dx (HO.xd (ns.zip vs).reverse) = upd H1 dx (HO.xd (ns.reverse.zip vs.reverse)) := by
    funext b
    by_cases hb : b = dx
    · rw [hb, upd_same, upd_same, er]
    · rw [upd_ne hb, upd_ne hb]
      by_cases hb2 : b = a
      · rw [hb2, del_same, hna]
      · rw [del_ne hb2, upd_ne hb, upd_ne hb2, upd_ne hb2]
  show W _ _ σ (upd (del _ a) dx _)
  rw [eH]
  exact p1 dx m1 _ vs.reverse (Ex.new hd) (s1.new hd trivial) upd_same (fun z => s1.notBd hd (.inl z)) (RpDs.ex (Ex.new hd) s1 (Nat.le_refl _) (Nat.le_refl _) rs.rev)
end
end BL

set_option Elab.async false
set_option linter.all false
set_option maxRecDepth 100000
set_option maxHeartbeats 2000000
namespace BL
open PySem PySem.Spec PyProof.Rows L2

/-! ### try: .. with clauses that all name the error -/
abbrev Cls1 := Value × (Addr → Value → Option Addr → TS)
/-- behind a clause the name is gone -/
def endsAs (D : Ends) (i : Nat) : Ends := { nx := fun z K' => D.nx (z.set i none) K', rt := D.rt, bk := fun z K' => D.bk (z.set i none) K', ct := fun z K' => D.ct (z.set i none) K' }
def wClauses (K : PySem.W.Frag) (i : Nat) (out : WX) (D : Ends) : List Cls1 → WX
  | [] => out
  | q :: qs => fun cls d z K' => ∃ b, PySem.W.exmOne K cls q.1 = some b ∧ (b = true → ∀ a, K' a = none → q.2 a cls d (endsAs D i) (z.set i (some (.ref a))) K') ∧ (b = false → wClauses K i out D qs cls d z K')
inductive ClsOk (X : Cx) (n : Str) : List ExceptHandler → List Cls1 → Prop
  | none : ClsOk X n [] []
  | more {x : Str} {c : Value} {ts : Addr → Value → Option Addr → TS} {st : Stmt} {sts : List Stmt} {np hp : Pos} {hs : List ExceptHandler} {qs : List Cls1} (nm : Names X x c)
      (su : ∀ a oe cls d pn, L2.Zc cls d oe → (∃ fs, oe.data = .fields fs) → PSs (X.suite a ((a, oe) :: pn)) (st :: sts) (ts a cls d)) (r : ClsOk X n hs qs) :
      ClsOk X n (.ExceptHandler (some (.Name x np)) (some n) (st :: sts) hp :: hs) ((c, ts) :: qs)
section
variable {X : Cx} {n : Str} {i : Nat} {out : WX} {D : Ends} {pins : List (Addr × Obj)}
/-- an error that has landed, looked at by the clauses one after the other -/
theorem clauses_go (stk : X.stack = X.env :: X.outer) (frm : X.env.frame = some X.env.locals) (nd : X.N.Nodup) (at_ : X.N[i]? = some n) (lcl : X.env.kindOf n = some .local) (tk : Takes X out) {a : Addr} {cls : Value} {d : Option Addr} {z : L2.St} {K' : Hp} {s0 s1 : Shared} {B : Heap}
    (J : Inv X pins z K' s0) (nb : ∀ b o, s0.heap.get? b = some o → b ∉ frs X.stack → B.get? b = some o) (os : s1.os = s0.os) (ag : AllBare s1.gens) (na : K' a = none) (nL : a ≠ X.env.locals) (nF : a ∉ X.fs)
    (fl : HandSPX.FlyingZ B (X.env :: X.outer) a (L2.Zc cls d) s1.heap) (up : s0.heap.UpToSlots s1.heap) :
    ∀ {hs : List ExceptHandler} {qs : List Cls1}, ClsOk X n hs qs → wClauses X.K i out D qs cls d z K' → wpAny (model X.prog X.w) X.A (handleBy (.ref a) X.env hs) (SP X pins D) X.xe s1 := by
  have okX := J.ok
  have J1 : Inv X pins z K' s1 := J.landed nb fl.1 up os ag
  obtain ⟨oe, fs, hoe, hze, hfs⟩ := fl.there
  intro hs qs hk
  induction hk with
  | none =>
    intro w
    refine wpAny_handleBy_nil ?_
    obtain ⟨_, _, _, o5, v5, T5, _, _, e5, _, d5, f5, _⟩ := id fl
    unfold PySem.passOn
    refine wpAny_bind (wpAny_field e5 d5 f5 ?_)
    rw [if_neg (show ¬ ((Value.ref T5 == Value.none) = true) by simp)]
    have away : wpAny (model X.prog X.w) X.A (setFlight (.ref a) X.env.frame) (fun _ s4 => wpAny (model X.prog X.w) X.A (throw (.ref a) : Sem Flow) (SP X pins D) X.xe s4) X.xe s1 := by
      rw [frm]
      refine HandSPX.setFlight_upZ fl fun h4 hh up4 => wpAny_throw (tk _ _ ?_)
      exact ⟨a, B, s0, pins, z, K', cls, d, rfl, J, nb, up.trans up4, .inr (.inr (by rw [stk]; exact hh)), na, os, ag, w⟩
    first
      | exact wpAny_bind (wpAny_pure (wpAny_bind away))
      | exact wpAny_bind away
  | @more x c ts st sts np hp hs2 qs2 nm su r ih =>
    rintro ⟨b, hb, yes, no⟩
    have S1 := J1.suite hoe hfs na nL nF
    refine wpAny_handleBy_cons (codeAny_handlers_test ?_) (by intro q; cases q)
    have LT : PySem.W.Looks (model X.prog X.w) s1.heap (typeOf (.ref a)) cls := fun A' Q' E' s' k' q' => wpAny_typeOf_ref (k' _ _ hoe) (by rw [hze.1]; exact q')
    have LM := PySem.W.exm_one (M := model X.prog X.w) J1.kIn LT hb
    have name : ∀ {Q' E' : Value → Shared → Prop}, Q' c s1 → wpAny (model X.prog X.w) (X.A.mark (some (.ref a))) (eval (.Name x np) X.env) Q' E' s1 := fun {Q' E'} q' => by
      obtain ⟨g1, g2, g3 | ⟨g3, g4, g5⟩⟩ := nm
      · exact ld_glob (X := X.suite a ((a, oe) :: (X.pn ++ pins))) S1 g1 g3 q' g2
      · exact ld_blt (X := X.suite a ((a, oe) :: (X.pn ++ pins))) S1 g1 g3 g4 q' g5 g2
    refine name (LM.here ?_)
    cases b with
    | false => exact ih (no rfl)
    | true =>
      refine codeAny_handlers_suite_as ?_
      refine HandSPX.lands_againZ fl fun h4 fl4 up4 => ?_
      have J4 : Inv X pins z K' { s1 with heap := h4 } := J.landed nb fl4.1 (up.trans up4) os ag
      obtain ⟨oe4, fs4, he4, hz4, hd4⟩ := fl4.there
      have S4 := J4.suite he4 hd4 na nL nF
      refine store_ok (X := X.suite a ((a, oe4) :: (X.pn ++ pins))) (v := .ref a) S4 nd at_ (.inl lcl) rfl (fun s5 S5 => ?_) (.inr lcl)
      refine wpAny_mono ((su a oe4 cls d (X.pn ++ pins) hz4 ⟨_, hd4⟩).run [] s5 _ K' _ S5 (yes rfl a na)) (fun f s6 hsp => ?_) (fun _ _ bad => False.elim bad)
      have tidy : ∀ {z6 : L2.St} {K6 : Hp} {Q' : Shared → Prop}, Inv (X.suite a ((a, oe4) :: (X.pn ++ pins))) [] z6 K6 s6 → (∀ s7, Inv X pins (z6.set i none) K6 s7 → Q' s7) →
          wpAny (model X.prog X.w) X.A (do bindName X.env n .none; unbindBehindTheSuite X.env n hp) (fun _ s7 => Q' s7) X.xe s6 := fun {z6 K6 Q'} S6 hq => gone_ok (S6.unsuite okX) nd at_ lcl hq
      cases f with
      | ret u =>
        obtain ⟨v6, z6, K6, S6, r6, q6⟩ := hsp
        exact tidy S6 fun s7 J7 => ⟨_, _, _, J7, r6, q6⟩
      | next =>
        obtain ⟨z6, K6, S6, q6⟩ := hsp
        exact tidy S6 fun s7 J7 => ⟨_, _, J7, q6⟩
      | brk =>
        obtain ⟨z6, K6, S6, q6⟩ := hsp
        exact tidy S6 fun s7 J7 => ⟨_, _, J7, q6⟩
      | cont =>
        obtain ⟨z6, K6, S6, q6⟩ := hsp
        exact tidy S6 fun s7 J7 => ⟨_, _, J7, q6⟩
theorem ps_try_named {body : List Stmt} {h0 : ExceptHandler} {hs : List ExceptHandler} {qs : List Cls1} {pos : Pos} {tb : WX → TS} (stk : X.stack = X.env :: X.outer) (frm : X.env.frame = some X.env.locals) (nd : X.N.Nodup) (at_ : X.N[i]? = some n) (lcl : X.env.kindOf n = some .local) (tk : Takes X out)
    (hb : ∀ (W : WX) (pn : List (Addr × Obj)) (xe : Value → Shared → Prop), Takes (X.tr pn xe) W → PassesOwn (model X.prog X.w) X.A X.env xe → PSs (X.tr pn xe) body (tb W))
    (hc : ClsOk X n (h0 :: hs) qs) : PS X (.Try body (h0 :: hs) [] [] pos) (fun D z K' => tb (wClauses X.K i out D qs) D z K') := by
  refine ⟨fun pins s z K' D I h => ?_⟩
  have okX := I.ok
  have hfr : X.A.frames = some (X.env :: X.outer) := by rw [okX.frames, stk]
  refine wpAny_Try_except ?_
  let xe' : Value → Shared → Prop := fun e s1 => wpAny (model X.prog X.w) X.A (noteFrame e X.env) (fun _ s2 => wpAny (model X.prog X.w) X.A (setFlight e Option.none) (fun _ s3 => wpAny (model X.prog X.w) X.A (handleBy e X.env (h0 :: hs)) (SP X pins D) X.xe s3) X.xe s2) X.xe s1
  have tk' : Takes (X.tr (X.pn ++ pins) xe') (wClauses X.K i out D qs) := fun u s' got => by
    obtain ⟨a, B, sI, pins', z', H', cls, d, rfl, J', nb, up, sky, na, os, ag, w⟩ := got
    have J : Inv X pins z' H' sI := J'.ofTry okX
    have sky' : Sky B (X.env :: X.outer) a (L2.Zc cls d) X.env.locals s'.heap := by rw [← stk]; exact sky
    show wpAny (model X.prog X.w) X.A (noteFrame (.ref a) X.env) _ _ _
    refine Sky.land L2.Zc.steady hfr frm sky' fun h3 fl3 up3 => ?_
    obtain ⟨oe3, fs3, he3, hz3, hd3⟩ := fl3.there
    have out3 : a ∉ frs (X.env :: X.outer) := fun hm => by
      obtain ⟨_, o', e', hnf⟩ := fl3.2.2.1.mem hm
      rw [he3] at e'
      cases e'
      exact hnf _ hd3
    refine clauses_go (B := B) stk frm nd at_ lcl tk (s1 := { s' with heap := h3 }) J nb os ag na (fun q => out3 ?_) (fun q => out3 ?_) fl3 (up.trans up3) hc w
    · exact List.mem_filterMap.mpr ⟨X.env, List.mem_cons_self, by rw [frm, q]⟩
    · obtain ⟨e, he, q2⟩ := List.mem_filterMap.mp q
      exact List.mem_filterMap.mpr ⟨e, List.mem_cons_of_mem _ he, q2⟩
  refine wpAny_mono ((hb (wClauses X.K i out D qs) (X.pn ++ pins) xe' tk' PassesOwn.looking).run [] s z K' D (I.toTry _) h) (fun f s1 hsp => ?_) (fun e s1 he => he)
  cases f with
  | ret u =>
    obtain ⟨v, z', H', J', r, q⟩ := hsp
    exact ⟨v, z', H', J'.ofTry okX, r, q⟩
  | next =>
    obtain ⟨z', H', J', q⟩ := hsp
    exact wpAny_execs_nil ⟨z', H', J'.ofTry okX, q⟩
  | brk =>
    obtain ⟨z', H', J', q⟩ := hsp
    exact ⟨z', H', J'.ofTry okX, q⟩
  | cont =>
    obtain ⟨z', H', J', q⟩ := hsp
    exact ⟨z', H', J'.ofTry okX, q⟩
end
end BL

set_option Elab.async false
set_option linter.all false
set_option maxRecDepth 100000
set_option maxHeartbeats 2000000
namespace BL
open PySem PySem.Spec PyProof.Rows L2

/-! ### def x(a): try: a() / except C as e: return (.., e.f, ..) .. / return None -/
/-- a part of what a clause gives: a written value, or a field of the error of the class at C -/
inductive Prt where
  | cst (v : V) | fld (C : Addr) (f : Str) | yes (C : Addr)
def prtR (cls : Value) (d : Option Addr) (H : Hp) : Prt → V → Prop
  | .cst v, u => u = v
  | .fld C f, u => cls = .ref C ∧ ∃ dd fs, d = some dd ∧ H dd = some (.xd fs) ∧ fs.lookup f = some u
  | .yes C, u => u = .bl true ∧ cls = .ref C ∧ ∃ dd fs, d = some dd ∧ H dd = some (.xd fs)
def prtsR (cls : Value) (d : Option Addr) (H : Hp) : List Prt → List V → Prop
  | [], us => us = []
  | p :: ps, us => ∃ u ws, us = u :: ws ∧ prtR cls d H p u ∧ prtsR cls d H ps ws
/-- the clauses, one after the other -/
def catchR (K : PySem.W.Frag) (cls : Value) (d : Option Addr) (H : Hp) (Q : VK) : List (Value × List Prt) → Prop
  | [] => False
  | (c, ps) :: r => ∃ b, PySem.W.exmOne K cls c = some b ∧ (b = true → ∃ us, prtsR cls d H ps us ∧ us.length ≤ sizeLine ∧ ∀ p, H p = none → Q (.ref p) (upd H p (.tup us))) ∧ (b = false → catchR K cls d H Q r)
/-- isinstance of the error at a, with the answer True -/
def tYes (i : Nat) (a : Addr) (cls : Value) (d : Option Addr) (C : Addr) : TE := fun σ H Q => σ[i]? = some (some (.ref a)) ∧ cls = .ref C ∧ (∃ dd fs, d = some dd ∧ H dd = some (.xd fs)) ∧ Q (.bl true) H
/-- the reading of a clause's parts: i is the error's slot -/
def tPrt (i : Nat) (a : Addr) (cls : Value) (d : Option Addr) : Prt → TE
  | .cst v => tC v
  | .fld C f => tXf a cls d C f (tVar i)
  | .yes C => tYes i a cls d C
def tPrts (i : Nat) (a : Addr) (cls : Value) (d : Option Addr) : List Prt → TA
  | [] => tNil
  | p :: ps => tCons (tPrt i a cls d p) (tPrts i a cls d ps)
theorem prts_of {i : Nat} {a : Addr} {cls : Value} {d : Option Addr} {z : L2.St} {H : Hp} (hz : z[i]? = some (some (.ref a))) : ∀ {ps : List Prt} {us : List V} {R : List V → Hp → Prop}, prtsR cls d H ps us → R us H → tPrts i a cls d ps z H R
  | [], us, R, h, hr => by cases h; exact hr
  | p :: ps, us, R, ⟨u, ws, e, h, r⟩, hr => by
    subst e
    show tPrt i a cls d p z H fun x H1 => tPrts i a cls d ps z H1 fun xs H2 => R (x :: xs) H2
    cases p with
    | cst v =>
      have h : u = v := h
      subst h
      exact prts_of hz r hr
    | fld C f =>
      obtain ⟨h1, dd, fs, h2, h3, h4⟩ := h
      exact ⟨.ref a, hz, rfl, h1, dd, fs, u, h2, h3, h4, prts_of hz r hr⟩
    | yes C =>
      obtain ⟨h0, h1, h2⟩ := h
      subst h0
      exact ⟨hz, h1, h2, prts_of hz r hr⟩
/-- a clause's tuple is walked -/
inductive PrtsOk (X : Cx) (n : Str) (a : Addr) (cls : Value) (d : Option Addr) (i : Nat) : List Expr → List Prt → Prop
  | nil : PrtsOk X n a cls d i [] []
  | cst {e : Expr} {es : List Expr} {v : V} {ps : List Prt} (h : PE X e (tC v)) (hs : starEach (e :: es) X.env = (false, eval e X.env) :: starEach es X.env) (r : PrtsOk X n a cls d i es ps) : PrtsOk X n a cls d i (e :: es) (.cst v :: ps)
  | fld {e : Expr} {es : List Expr} {C : Addr} {f : Str} {ps : List Prt} (h : PE X e (tXf a cls d C f (tVar i))) (hs : starEach (e :: es) X.env = (false, eval e X.env) :: starEach es X.env) (r : PrtsOk X n a cls d i es ps) : PrtsOk X n a cls d i (e :: es) (.fld C f :: ps)
  | yes {e : Expr} {es : List Expr} {C : Addr} {ps : List Prt} (h : PE X e (tYes i a cls d C)) (hs : starEach (e :: es) X.env = (false, eval e X.env) :: starEach es X.env) (r : PrtsOk X n a cls d i es ps) : PrtsOk X n a cls d i (e :: es) (.yes C :: ps)
theorem PrtsOk.pa {X : Cx} {n : Str} {a : Addr} {cls : Value} {d : Option Addr} {i : Nat} {es : List Expr} {ps : List Prt} (h : PrtsOk X n a cls d i es ps) : PA X es (tPrts i a cls d ps) := by
  induction h with
  | nil => exact pa_nil
  | cst h hs r ih => exact pa_cons h ih hs
  | fld h hs r ih => exact pa_cons h ih hs
  | yes h hs r ih => exact pa_cons h ih hs
/-- the clauses' readings -/
def clsTs (i : Nat) (l : List (Value × List Prt)) : List Cls1 := l.map fun q => (q.1, fun a cls d => tRet (tTup (tPrts i a cls d q.2)))
theorem catch_w {K : PySem.W.Frag} {cls : Value} {d : Option Addr} {H : Hp} {Q : VK} {i : Nat} {out : WX} {D : Ends} {z : L2.St} (hi : i < z.length) (hrt : ∀ v H', Q v H' → D.rt v H') : ∀ {l : List (Value × List Prt)}, catchR K cls d H Q l → wClauses K i out D (clsTs i l) cls d z H
  | [], h => h.elim
  | (c, ps) :: r, ⟨b, hb, yes, no⟩ => by
    refine ⟨b, hb, fun e a na => ?_, fun e => catch_w hi hrt (no e)⟩
    obtain ⟨us, h1, h2, h3⟩ := yes e
    show tTup (tPrts i a cls d ps) (z.set i (some (.ref a))) H _
    exact prts_of (by rw [List.getElem?_set_self hi]) h1 ⟨h2, fun p hp => hrt _ _ (h3 p hp)⟩
/-- what x makes of the lambda's reading tl -/
def TTf (K : PySem.W.Frag) (l : List (Value × List Prt)) : (XK → Hp → VK → Prop) → Hp → VK → Prop := fun tl H Q => ∃ Ech : XK, (∀ cls d H', Ech cls d H' → catchR K cls d H' Q l) ∧ tl Ech H fun _ H' => Q .non H'
theorem takes_len {X : Cx} {W : WX} (tk : Takes X W) : Takes X (fun cls d z H => z.length = X.N.length → W cls d z H) := fun u s' ⟨a, B, sI, pins, z, H, cls, d, e, I, nb, up, sky, na, os, ag, w⟩ => tk u s' ⟨a, B, sI, pins, z, H, cls, d, e, I, nb, up, sky, na, os, ag, w I.len⟩
theorem fault_gives {X : Cx} {Ng : List Str} {x a e q : Str} {sg : Scope} {g : Addr} {cdg : Value} {h0 : ExceptHandler} {hs : List ExceptHandler} {l : List (Value × List Prt)} {j : Nat} {p1 p2 p3 p4 p5 p6 : Pos} (hN : Ng = [a, e]) (hne : Ng.Nodup) (hle : sg.names.lookup e = some .local)
    (hc : ∀ (s : Shared) (H : Hp), ClsOk (cxOf C8.CX0 X.prog X.w X.K X.mg X.base Ng x sg g cdg X.A X.stack s H C8.E0).nox e (h0 :: hs) (clsTs 1 l)) :
    LamX.GivesTo X Ng x sg g cdg [.Try [.Expr (.Call (.Name a p1) [] [] p2) p3] (h0 :: hs) [] [] p4, .Return (some (.Constant .none j p5)) p6] a q (TTf X.K l) := by
  intro f c' s H Q tl act hco h
  obtain ⟨Ech, hE, ht⟩ := h
  refine ⟨_, pss_cons (ps_try_named (X := (cxOf C8.CX0 X.prog X.w X.K X.mg X.base Ng x sg g cdg X.A X.stack s H C8.E0).nox) (i := 1) (n := e) (out := fun _ _ _ _ => False)
      (tb := fun W D σ H => ∃ Ech : XK, (∀ cls d σ' H', σ'.length = 2 → Ech cls d H' → W cls d σ' H') ∧ σ[0]? = some (some (.ref f)) ∧ H c' = some (LamX.CodeO c' q) ∧ tl Ech H fun _ H' => D.nx σ H')
      rfl rfl hne (by rw [hN]; rfl) hle LamX.takes0 (fun W pn xe tk _ => ?_) (hc s H)) (pss_one (ps_ret pe_non)), ?_⟩
  · refine ⟨fun pins s' z H' D I h' => ?_⟩
    obtain ⟨Ech, hW, h1, h2, h3⟩ := h'
    have hp := act _ pn xe Ech p1 p2 (takes_len tk) fun cls d z' H'' hE hl => hW cls d z' H'' (by rw [hl]; show Ng.length = 2; rw [hN]; rfl) hE
    have hq := pss_one (ps_expr (pos := p3) hp)
    exact hq.run pins s' z H' D I ⟨h1, h2, h3⟩
  · subst hN
    refine ⟨Ech, fun cls d z' H' hl hE' => ?_, rfl, hco, ht⟩
    exact catch_w (by rw [hl]; decide) (fun v H'' hq => hq) (hE cls d H' hE')
/-! ### def x(a): try: return (tag, a()) / except C as e: return (..) .. -/
def TTm (K : PySem.W.Frag) (tag : Str) (l : List (Value × List Prt)) : (XK → Hp → VK → Prop) → Hp → VK → Prop := fun tl H Q => ∃ Ech : XK, (∀ cls d H', Ech cls d H' → catchR K cls d H' Q l) ∧ tl Ech H fun v H' => ([V.str tag, v] : List V).length ≤ sizeLine ∧ ∀ p, H' p = none → Q (.ref p) (upd H' p (.tup [.str tag, v]))
theorem met_gives {X : Cx} {Ng : List Str} {x a e q tag : Str} {sg : Scope} {g : Addr} {cdg : Value} {h0 : ExceptHandler} {hs : List ExceptHandler} {l : List (Value × List Prt)} {j k0 : Nat} {p1 p2 p3 p4 p5 p6 : Pos} (hN : Ng = [a, e]) (hne : Ng.Nodup) (hle : sg.names.lookup e = some .local)
    (hc : ∀ (s : Shared) (H : Hp), ClsOk (cxOf C8.CX0 X.prog X.w X.K X.mg X.base Ng x sg g cdg X.A X.stack s H C8.E0).nox e (h0 :: hs) (clsTs 1 l)) :
    LamX.GivesTo X Ng x sg g cdg [.Try [.Return (some (.Tuple [.Constant (.str tag) j p5, .Call (.Name a p1) [] [] p2] k0 p6)) p3] (h0 :: hs) [] [] p4] a q (TTm X.K tag l) := by
  intro f c' s H Q tl act hco h
  obtain ⟨Ech, hE, ht⟩ := h
  refine ⟨_, pss_one (ps_try_named (X := (cxOf C8.CX0 X.prog X.w X.K X.mg X.base Ng x sg g cdg X.A X.stack s H C8.E0).nox) (i := 1) (n := e) (out := fun _ _ _ _ => False)
      (tb := fun W D σ H => ∃ Ech : XK, (∀ cls d σ' H', σ'.length = 2 → Ech cls d H' → W cls d σ' H') ∧ σ[0]? = some (some (.ref f)) ∧ H c' = some (LamX.CodeO c' q) ∧ tl Ech H fun v H' => ([V.str tag, v] : List V).length ≤ sizeLine ∧ ∀ p, H' p = none → D.rt (.ref p) (upd H' p (.tup [.str tag, v])))
      rfl rfl hne (by rw [hN]; rfl) hle LamX.takes0 (fun W pn xe tk _ => ?_) (hc s H)), ?_⟩
  · refine ⟨fun pins s' z H' D I h' => ?_⟩
    obtain ⟨Ech, hW, h1, h2, h3⟩ := h'
    have hp := act _ pn xe Ech p1 p2 (takes_len tk) fun cls d z' H'' hE hl => hW cls d z' H'' (by rw [hl]; show Ng.length = 2; rw [hN]; rfl) hE
    have hq : PSs _ [.Return (some (.Tuple [.Constant (.str tag) j p5, .Call (.Name a p1) [] [] p2] k0 p6)) p3] _ := pss_one (ps_ret (pos := p3) (pe_tup (pos := p6) (x1 := k0) (pa_cons (pe_str (x := tag) (pos := p5)) (pa_cons hp pa_nil rfl) rfl)))
    refine hq.run pins s' z H' D I ⟨h1, h2, ?_⟩
    exact h3
  · subst hN
    refine ⟨Ech, fun cls d z' H' hl hE' => ?_, rfl, hco, ht⟩
    exact catch_w (by rw [hl]; decide) (fun v H'' hq => hq) (hE cls d H' hE')
/-! ### isinstance of the error -/
def rIsX (K : PySem.W.Frag) (C a : Addr) (cls : Value) (d : Option Addr) : List V → Hp → VK → Prop := fun xs H Q => ∃ (c : V) (cv : Value), xs = [.ref a, c] ∧ ClsV c cv ∧ cls = .ref C ∧ (∃ dd fs, d = some dd ∧ H dd = some (.xd fs)) ∧ PySem.W.kitOne K (.ref C) cv = some true ∧ Q (.bl true) H
theorem call_isX {X : Cx} {a C : Addr} {oe : Obj} {cls : Value} {d : Option Addr} {pn : List (Addr × Obj)} (T : L2.ExcC X.K C) (hz : L2.Zc cls d oe) (hf : ∃ vs, oe.data = .fields vs) : CallR (X.suite a ((a, oe) :: pn)) (.builtin "isinstance") (rIsX X.K C a cls d) := by
  intro pins s σ H xs us Q I r h
  obtain ⟨c, cv, e0, hcv, ec, ⟨dd, fs, ed, ea⟩, e, q⟩ := h
  subst e0
  obtain ⟨u1, u2, rfl, r1, r2⟩ := vals2 r
  have e2 := hcv.eq r2
  subst e2
  obtain rfl : u1 = Value.ref a := r1
  subst ec
  subst ed
  obtain ⟨ha, _⟩ := I.pin (a, oe) (List.mem_append_left _ List.mem_cons_self)
  obtain ⟨vs, hd⟩ := hf
  have hx : ObjOk X.prog X.w H s.heap dd (.xd fs) := I.hok dd _ ea
  obtain ⟨mA, hns, _⟩ := hx
  obtain ⟨od, ho, _⟩ := lookIn_ns hns
  have J : PySem.W.InstAt s.heap a oe C (some od) := ⟨ha, hz.1, by unfold PySem.W.notCls; rw [hd] <;> rfl, by rw [hz.2]; exact ho⟩
  exact PySem.W.kia_one (PySem.W.kitx_exc (od := some od) (by obtain ⟨cd, hc, _⟩ := PySem.W.any_some T.hd; rw [hc]; rfl) T.hg T.hk T.hs T.ha T.hn T.ht T.hm) I.kIn J e (fun z => nomatch z) fun tk => ⟨.bl true, H, I.tok tk, rfl, q⟩
section
variable {X : Cx} {a C : Addr} {oe : Obj} {cls : Value} {d : Option Addr} {pn : List (Addr × Obj)} {x n : Str} {i : Nat} {p p2 p3 pos : Pos}
/-- isinstance(e, L), L an own class -/
theorem pe_isX {D : Addr} (T : L2.ExcC X.K C) (hz : L2.Zc cls d oe) (hf : ∃ vs, oe.data = .fields vs) (hN : X.N[i]? = some n) (hv : Vis X.env.scope n) (hg : Gl X "isinstance") (hm : X.mg "isinstance" = none) (hgx : Gl X x) (hmx : X.mg x = some (.ref D)) (hk : PySem.W.kitOne X.K (.ref C) (.ref D) = some true)
    (hd : (n == ("__debug__" : Str)) = false := by decide) (hcd : (n == ("__classdict__" : Str)) = false := by decide) (hdx : (x == ("__debug__" : Str)) = false := by decide) :
    PE (X.suite a ((a, oe) :: pn)) (.Call (.Name "isinstance" p) [.Name n p2, .Name x p3] [] pos) (tYes i a cls d C) :=
  peI (pe_callB (call_isX T hz hf) hg hm (by decide +kernel) (pa_cons (pe_var (X := X.suite a ((a, oe) :: pn)) hN hv hd hcd) (pa_cons (pe_glob (X := X.suite a ((a, oe) :: pn)) (v := .ref D) hgx hmx rfl hdx) pa_nil rfl) rfl) (by decide) (by decide) rfl rfl) fun σ H Q ⟨h1, h2, h3, q⟩ => ⟨_, h1, _, _, rfl, .own D, h2, h3, hk, q⟩
theorem pe_isXB (T : L2.ExcC X.K C) (hz : L2.Zc cls d oe) (hf : ∃ vs, oe.data = .fields vs) (hN : X.N[i]? = some n) (hv : Vis X.env.scope n) (hg : Gl X "isinstance") (hm : X.mg "isinstance" = none) {tn : String} (hgx : Gl X x) (hmx : X.mg x = none) (hbx : bootBuiltins x = some (.type tn)) (hk : PySem.W.kitOne X.K (.ref C) (.type tn) = some true)
    (hd : (n == ("__debug__" : Str)) = false := by decide) (hcd : (n == ("__classdict__" : Str)) = false := by decide) (hdx : (x == ("__debug__" : Str)) = false := by decide) (hnx : x ≠ "__name__" := by decide) :
    PE (X.suite a ((a, oe) :: pn)) (.Call (.Name "isinstance" p) [.Name n p2, .Name x p3] [] pos) (tYes i a cls d C) :=
  peI (pe_callB (call_isX T hz hf) hg hm (by decide +kernel) (pa_cons (pe_var (X := X.suite a ((a, oe) :: pn)) hN hv hd hcd) (pa_cons (pe_bltn (X := X.suite a ((a, oe) :: pn)) (v := .ty tn) hgx hmx hbx rfl hnx hdx) pa_nil rfl) rfl) (by decide) (by decide) rfl rfl) fun σ H Q ⟨h1, h2, h3, q⟩ => ⟨_, h1, _, _, rfl, .ty tn, h2, h3, hk, q⟩
/-- both -/
theorem pe_yesAnd {e1 e2 : Expr} (h1 : PE X e1 (tYes i a cls d C)) (h2 : PE X e2 (tYes i a cls d C)) : PE X (.BoolOp .And [e1, e2] pos) (tYes i a cls d C) :=
  peI (pe_and h1 (pe_one h2)) fun σ H Q ⟨z1, z2, z3, q⟩ => ⟨z1, z2, z3, true, rfl, by rw [if_pos rfl]; exact ⟨z1, z2, z3, q⟩⟩
end
end BL

set_option Elab.async false
set_option linter.all false
set_option maxRecDepth 100000
set_option maxHeartbeats 2000000
namespace BL
open PySem L2

/-! ### sizes from the heap itself -/
def SzH (H : Hp) : Prop := ∀ a o, H a = some o → szOk o
theorem sz_obj {P : Program} {w : World} {H : Hp} {h : Heap} {a : Addr} : ∀ {o : HO}, ObjOk P w H h a o → szOk o
  | .lst _, x => x.1
  | .tup _, x => x.1
  | .dK _, x => x.1
  | .dT _, x => x.1
  | .frz _ u, x => sz_obj (o := u) x.2
  | .set _ _, _ => trivial
  | .ins _ _ _, _ => trivial
  | .own _, _ => trivial
  | .xd _, _ => trivial
  | .rng _ _, _ => trivial
  | .tbl _, _ => trivial
  | .met _ _, _ => trivial
  | .ext _, _ => trivial
theorem sz_hok {P : Program} {w : World} {H : Hp} {h : Heap} (x : HOk P w H h) : SzH H := fun a o e => sz_obj (x a o e)
/-- the def that gets the lambda runs in a heap of right sizes -/
theorem gives_sz {X : Cx} {Ng : List Str} {x : Str} {sg : Scope} {g : Addr} {cdg : Value} {bg : List Stmt} {a q : Str} {TT : (XK → Hp → VK → Prop) → Hp → VK → Prop} (hG : LamX.GivesTo X Ng x sg g cdg bg a q TT) : LamX.GivesTo X Ng x sg g cdg bg a q (fun tl H Q => SzH H → TT tl H Q) := by
  intro f c' s H Q tl act hco h
  by_cases hz : SzH H
  · exact hG f c' s H Q tl act hco (h hz)
  · exact ⟨fun _ _ H' => H' = H, ⟨fun pins s' z H' D I e => absurd (by rw [e] at I; exact sz_hok I.hok) hz⟩, rfl⟩
/-! ### the located objects while a lambda is made -/
section
variable {g : Gm} {m : Nat → Addr} {H H1 : Hp} {G : Hs}
theorem Ex.ext (e : LamX.ExtN H H1) : Ex m G.length H m G.length H1 := ⟨Nat.le_refl _, fun _ _ => rfl, fun i h1 h2 => absurd h2 (Nat.not_lt.mpr h1), fun a o h _ ht => e a o h ht⟩
theorem SR.ext (s : SR g m H G) (e : LamX.ExtN H H1) (t : LamX.Tabs g.tb H1) (z : SzH H1) : SR g m H1 G := by
  refine ⟨fun i ob h => ?_, s.inj, z, t, fun a ha => ?_⟩
  · have hi := getLt h
    obtain ⟨u, eu, _, _, nt, _⟩ := s.at_ hi
    exact OR.ex (Ex.ext e) s hi ((e _ _ eu nt).trans eu.symm) (s.ob i ob h)
  · obtain ⟨⟨u, eu, hf⟩, nb⟩ := s.rv a ha
    exact ⟨⟨u, e _ _ eu (fun ps q => by rw [q] at hf; cases hf), hf⟩, nb⟩
end
/-! ### a def whose code object is known -/
def Zb.dfl (b : Zb) (N : List Str) (sc : Scope) (k : Nat) (rv : List Addr) (c : Addr) (qual : Str) : Zc := { b with N := N, sc := sc, fn := fun _ => true, k := k, rv := rv, cq := some (c, qual ++ ".<locals>.") }
section
variable {b : Zb} {x qual : Str} {st : Stmt} {f c : Addr} {fd : FuncData} {dvs : List V} {N ps : List Str} {k : Nat} {db : Dst}
theorem post_pop {g : Gm} {m : Nat → Addr} {H : Hp} {G : Hs} {Q : VK} {E : XK} {n : Nat} {ds : List D} (p : PostF g m G.length H Q E (runPop n db ds G)) : PostS g (fun cls d _ H => E cls d H) m G.length H { nx := fun _ H' => Q .non H', rt := Q } (db (startE n ds) G) := by
  unfold runPop at p
  cases e : db (startE n ds) G with
  | rt d G' =>
    rw [e] at p
    simp only [endPop] at p
    intro v m' H' x' s' rv'
    cases q : popD G.length d G' with
    | none => rw [q] at p; exact p.elim
    | some d' =>
      rw [q] at p
      refine p v m' H' ?_ (s'.pop _) ?_
      · rw [take_len x'.le]; exact x'.popped
      · rw [take_len x'.le]; exact popD_rp s' x'.le rv' q
  | nx r G' =>
    rw [e] at p
    intro σ' m' H' x' s' sl'
    refine p .non m' H' ?_ (s'.pop _) rfl
    rw [take_len x'.le]; exact x'.popped
  | exc c ns es r G' =>
    rw [e] at p
    simp only [endPop] at p
    intro σ' da m' H' xs x' s' sl' h nb rs'
    cases q : popDs G.length es G' with
    | none => rw [q] at p; exact p.elim
    | some es' =>
      rw [q] at p
      refine p da m' H' xs ?_ (s'.pop _) h ?_ ?_
      · rw [take_len x'.le]; exact x'.popped
      · rw [take_len x'.le]; exact fun z => nb (Bd.mono x'.le z)
      · rw [take_len x'.le]; exact popDs_rp s' x'.le rs' q
  | bk r G' => rw [e] at p; exact p.elim
  | ct r G' => rw [e] at p; exact p.elim
  | stuck => rw [e] at p; exact p.elim
theorem post_keep {g : Gm} {m : Nat → Addr} {H : Hp} {G : Hs} {Q : VK} {E : XK} {n : Nat} {ds : List D} (p : PostF g m G.length H Q E (runKeep n db ds G)) : PostS g (fun cls d _ H => E cls d H) m G.length H { nx := fun _ H' => Q .non H', rt := Q } (db (startE n ds) G) := by
  unfold runKeep at p
  cases e : db (startE n ds) G with
  | rt d G' => rw [e] at p; exact p
  | nx r G' => rw [e] at p; exact fun σ' m' H' x' s' sl' => p .non m' H' x' s' rfl
  | exc c ns es r G' => rw [e] at p; exact fun σ' da m' H' xs x' s' sl' h nb rs' => p da m' H' xs x' s' h nb rs'
  | bk r G' => rw [e] at p; exact p.elim
  | ct r G' => rw [e] at p; exact p.elim
  | stuck => rw [e] at p; exact p.elim
theorem Ok.dfl {A : Around} {outer : List Env} {s : Shared} {H : Hp} {E : XK} (S : FnScope N ps (defScope st)) (hr : Room k (A.deeper (PyProof.Rows.envOfC qual (defScope st) s.heap.objs.size f (.ref c)))) (rv : List Addr) :
    Ok (b.dfl N (defScope st) k rv c qual) (cxOf (L2.CX b.P b.w) b.P b.w b.K b.mg b.base N qual (defScope st) f (.ref c) A outer s H E) (fun cls d _ H => E cls d H) where
  P := rfl
  w := rfl
  K := rfl
  mg := rfl
  base := rfl
  N := rfl
  sc := rfl
  fn := rfl
  nd := S.nd
  calm := rfl
  tk := takes_of rfl rfl rfl rfl
  po := passes_of rfl
  rm := hr
  cq := fun c' q h => by cases h; exact ⟨rfl, rfl⟩
theorem fnd_ofL {F : Fd} (Fn : FnE b.K x qual st dvs f fd) (hc : fd.code = .ref c) (S : FnScope N ps (defScope st)) (hb : ∀ rv, PSDs (b.dfl N (defScope st) k rv c qual) (defBody st) db)
    (hp : ∀ {g : Gm} {m : Nat → Addr} {H : Hp} {G : Hs} {Q : VK} {E : XK} {ds : List D}, PostF g m G.length H Q E (F ds G) → PostS g (fun cls d _ H => E cls d H) m G.length H { nx := fun _ H' => Q .non H', rt := Q } (db (startE N.length ds) G)) : FnD b (k + 1) f fd ps F := by
  refine ⟨?_, Fn.kp⟩
  obtain ⟨oc, od, dV, kV, doc, pm, an, cdv, ct, osl, rfl, lk, hcd, _, _⟩ := Fn.ex
  have hc : cdv = .ref c := hc
  subst hc
  refine fn_of lk hcd S (fun vs H Q E h => h.1) fun A outer s H vs Q E hr h => ?_
  obtain ⟨hl, rv, m, G, ds, s0, rs, p⟩ := h
  exact ⟨_, hb rv _ _ (Ok.dfl S hr rv), m, _, G, s0, start_sl (N := N) rs, hp p⟩
theorem hF_popL (S : FnScope N ps (defScope st)) (hb : ∀ rv, PSDs (b.dfl N (defScope st) k rv c qual) (defBody st) db) : ∀ fd, FnE b.K x qual st dvs f fd → fd.code = .ref c → FnD b (k + 1) f fd ps (runPop N.length db) := fun fd Fn hc => fnd_ofL Fn hc S hb post_pop
theorem hF_keepL (S : FnScope N ps (defScope st)) (hb : ∀ rv, PSDs (b.dfl N (defScope st) k rv c qual) (defBody st) db) : ∀ fd, FnE b.K x qual st dvs f fd → fd.code = .ref c → FnD b (k + 1) f fd ps (runKeep N.length db) := fun fd Fn hc => fnd_ofL Fn hc S hb post_keep
end
end BL

set_option Elab.async false
set_option linter.all false
set_option maxRecDepth 100000
set_option maxHeartbeats 2000000
namespace BL
open PySem L2

/-! ### x(lambda: ..), x a def that tells how a call is refused -/
inductive Pt where
  | cst (t : T) | fld (c : Nat) (f : Str) | yes (c : Nat)
def ptV (c : Nat) (ns : List Str) (ds : List D) : Pt → Option T
  | .cst t => some t
  | .fld c' f => if c' = c then (match zipLk f ns ds with
    | some (.t t) => some t
    | _ => none) else none
  | .yes c' => if c' = c then some (.bl true) else none
def ptsV (c : Nat) (ns : List Str) (ds : List D) : List Pt → Option (List T)
  | [] => some []
  | p :: ps => match ptV c ns ds p, ptsV c ns ds ps with
    | some t, some ts => some (t :: ts)
    | _, _ => none
abbrev Hdl := (Nat → Option Bool) × List Pt
def catchD (c : Nat) (ns : List Str) (ds : List D) (G : Hs) : List Hdl → Re
  | [] => .stuck
  | q :: qs => match q.1 c with
    | some true => (match ptsV c ns ds q.2 with
      | some ts => if ts.length ≤ sizeLine then .ok (.t (.tup ts)) G else .stuck
      | none => .stuck)
    | some false => catchD c ns ds G qs
    | none => .stuck
def dFault (hs : List Hdl) (db : De) : De := fun r G => match db r G with
  | .ok _ G' => .ok (.t .non) G'
  | .exc c ns ds G' => catchD c ns ds G' hs
  | .stuck => .stuck
/-- .. with what it gives -/
def dMet (tag : Str) (hs : List Hdl) (db : De) : De := fun r G => match db r G with
  | .ok (.t t) G' => .ok (.t (.tup [.str tag, t])) G'
  | .ok _ _ => .stuck
  | .exc c ns ds G' => catchD c ns ds G' hs
  | .stuck => .stuck
/-! what stands for what -/
def PtR (g : Gm0) : Pt → Prt → Prop
  | .cst t, .cst v => ∀ B H, Rp g B H t v
  | .fld c f, .fld C f' => C = g.ca c ∧ f' = f
  | .yes c, .yes C => C = g.ca c
  | _, _ => False
def PtsR (g : Gm0) : List Pt → List Prt → Prop
  | [], qs => qs = []
  | p :: ps, qs => ∃ q rs, qs = q :: rs ∧ PtR g p q ∧ PtsR g ps rs
def ClsR (g : Gm0) : List Hdl → List (Value × List Prt) → Prop
  | [], l => l = []
  | h :: hs, l => ∃ v ps r, l = (v, ps) :: r ∧ (∀ c b, h.1 c = some b → PySem.W.exmOne g.K (.ref (g.ca c)) v = some b) ∧ PtsR g h.2 ps ∧ ClsR g hs r
section
variable {g : Gm} {W : WX} {m m' : Nat → Addr} {n : Nat} {H H' : Hp} {G' : Hs} {σ : St} {Q : VK} {c : Nat} {ns : List Str} {ds : List D} {xs : List V} {da : Addr}
theorem pts_of (hd : H' da = some (.xd (ns.zip xs))) (rs : RpDs g m' G'.length G'.length H' ds xs) : ∀ {ps : List Pt} {qs : List Prt} {ts : List T}, PtsR g.toGm0 ps qs → ptsV c ns ds ps = some ts → ∃ us, prtsR (.ref (g.ca c)) (some da) H' qs us ∧ Rps g.toGm0 (Bv g m' G'.length) H' ts us
  | [], qs, ts, h, e => by
    cases h
    simp [ptsV] at e
    subst e
    exact ⟨[], rfl, rfl⟩
  | p :: ps, qs, ts, ⟨q, qs', eq, hq, hr⟩, e => by
    subst eq
    unfold ptsV at e
    cases e1 : ptV c ns ds p with
    | none => rw [e1] at e; cases e
    | some t =>
      cases e2 : ptsV c ns ds ps with
      | none => rw [e1, e2] at e; cases e
      | some ts' =>
        rw [e1, e2] at e
        cases e
        obtain ⟨us, h1, h2⟩ := pts_of hd rs hr e2
        have one : ∃ u, prtR (.ref (g.ca c)) (some da) H' q u ∧ Rp g.toGm0 (Bv g m' G'.length) H' t u := by
          cases p with
          | cst t0 =>
            cases q with
            | cst v =>
              simp [ptV] at e1
              subst e1
              exact ⟨v, rfl, hq _ _⟩
            | fld C f => exact hq.elim
            | yes C => exact hq.elim
          | yes c0 =>
            cases q with
            | cst v => exact hq.elim
            | fld C f => exact hq.elim
            | yes C =>
              have hq : C = g.ca c0 := hq
              simp only [ptV] at e1
              by_cases hc : c0 = c
              · rw [if_pos hc] at e1
                cases e1
                exact ⟨.bl true, ⟨rfl, by rw [hq, hc], da, _, rfl, hd⟩, rfl⟩
              · rw [if_neg hc] at e1; cases e1
          | fld c0 f0 =>
            cases q with
            | cst v => exact hq.elim
            | yes C => exact hq.elim
            | fld C f =>
              obtain ⟨hC, hf⟩ := hq
              simp only [ptV] at e1
              by_cases hc : c0 = c
              · rw [if_pos hc] at e1
                subst hc
                cases e3 : zipLk f0 ns ds with
                | none => rw [e3] at e1; cases e1
                | some d =>
                  rw [e3] at e1
                  cases d with
                  | loc i => cases e1
                  | t t1 =>
                    cases e1
                    obtain ⟨v, h3, h4⟩ := zipLkD_lookup rs e3
                    subst hf
                    exact ⟨v, ⟨by rw [hC], da, _, rfl, hd, h3⟩, h4⟩
              · rw [if_neg hc] at e1; cases e1
        obtain ⟨u, h3, h4⟩ := one
        exact ⟨u :: us, ⟨u, us, rfl, h3, h1⟩, ⟨u, us, rfl, h4, h2⟩⟩
theorem catch_of (x : Ex m n H m' G'.length H') (s : SR g m' H' G') (hd : H' da = some (.xd (ns.zip xs))) (rs : RpDs g m' G'.length G'.length H' ds xs)
    (tr : ∀ {m2 : Nat → Addr} {H2 : Hp}, Ex m' G'.length H' m2 G'.length H2 → Ex m n H m2 G'.length H2) : ∀ {hs : List Hdl} {l : List (Value × List Prt)}, ClsR g.toGm0 hs l → PostE g W m n H σ Q (catchD c ns ds G' hs) → catchR g.K (.ref (g.ca c)) (some da) H' Q l
  | [], l, _, p => p.elim
  | h :: hs, l, ⟨v, ps, r, el, hv, hp, hr⟩, p => by
    subst el
    unfold catchD at p
    cases e1 : h.1 c with
    | none => rw [e1] at p; exact p.elim
    | some b =>
      rw [e1] at p
      refine ⟨b, hv c b e1, fun hb => ?_, fun hb => ?_⟩
      · subst hb
        simp only at p
        cases e2 : ptsV c ns ds h.2 with
        | none => rw [e2] at p; exact p.elim
        | some ts =>
          rw [e2] at p
          simp only at p
          by_cases hl : ts.length ≤ sizeLine
          · rw [if_pos hl] at p
            obtain ⟨us, h1, h2⟩ := pts_of hd rs hp e2
            have hlu : us.length ≤ sizeLine := by rw [← h2.length]; exact hl
            refine ⟨us, h1, hlu, fun pp hpp => ?_⟩
            exact p (.ref pp) m' _ (tr (Ex.new hpp)) (s.new hpp hlu) ⟨pp, us, rfl, .inl (.inl upd_same), Rps.ex (Ex.new hpp) s _ _ h2⟩
          · rw [if_neg hl] at p; exact p.elim
      · subst hb
        exact catch_of x s hd rs tr hr p
end
/-! the rule -/
def Zc.lam (Z : Zc) (scope : Scope) (k : Nat) : Zc := { Z with sc := scope, fn := fun _ => false, k := k, cq := none }
theorem Ok.lam {Z : Zc} {X : Cx} {W : WX} (ok : Ok Z X W) {A : Around} {outer : List Env} {s : Shared} {H : Hp} {E : XK} {scope : Scope} {f c' : Addr} {k : Nat} (hr : Room k (A.deeper (LamX.lamEnv X scope s.heap.objs.size f c'))) :
    Ok (Z.lam scope k) (LamX.lamCx X A outer s H E scope f c') (fun cls d _ H => E cls d H) where
  P := ok.P
  w := ok.w
  K := ok.K
  mg := ok.mg
  base := ok.base
  N := ok.N
  sc := rfl
  fn := rfl
  nd := ok.nd
  calm := rfl
  tk := takes_of rfl rfl rfl rfl
  po := passes_of rfl
  rm := hr
  cq := fun c q h => nomatch h
section
variable {Z : Zc}
/-- the def x that tells refusals -/
structure FltA (b : Zb) (x a : Str) (g : Addr) (hs : List Hdl) : Prop where
  kp : PySem.W.keepIn b.K (.ref g) = true
  ex : ∃ (pg : Arguments) (bg : List Stmt) (sg : Scope) (dV kV doc pm cdv ct oc : Value) (an od : Option Addr) (osl : Array (Option Value)) (Ng : List Str) (l : List (Value × List Prt)),
    b.K.lookup g = some ⟨oc, od, .func (PySem.W.fnOf x x pg bg sg dV kV doc pm an cdv ct), osl⟩ ∧ PySem.W.codeIn b.K cdv x = true ∧ L2.Binds b.K (PySem.W.fnOf x x pg bg sg dV kV doc pm an cdv ct) [a] [] ∧ FnScope Ng [a] sg ∧ Ng[0]? = some a ∧ Vis sg a ∧ ClsR b.g.toGm0 hs l ∧
    ∀ (X : Cx), X.prog = b.P → X.w = b.w → X.K = b.K → X.mg = b.mg → X.base = b.base → LamX.GivesTo X Ng x sg g cdv bg a (X.env.qual ++ "<lambda>") (TTf X.K l)
theorem pd_fault {x a q : Str} {g c P : Addr} {hs : List Hdl} {k : Nat} {params : Arguments} {body : Expr} {scope : Scope} {db : De} {p lpos pos : Pos} (h : FltA Z.toZb x a g hs) (hq : Z.cq = some (c, q)) (hm : Z.mg x = some (.ref g)) (TB : LamX.TabB Z.base Z.mg c P) (hT : (P, q ++ "<lambda>") ∈ Z.tb) (hu : ∀ p ∈ Z.tb, p.1 = P → p.2 = q ++ "<lambda>")
    (hk : k + 2 ≤ Z.k) (L : LamX.LamS Z.sc scope) (hb : PD (Z.lam scope k) body db) (hg : GlS Z x := by rfl) (hdef : ∀ env, defaultsOf params env = ([], []) := by intro _; rfl)
    (hbind : ∀ (q : Str) (cl : List (Str × Addr)) (pm cv ctv : Value), bindArgs (PySem.W.kla_fn "<lambda>" q params body scope cl pm cv ctv) ⟨[], []⟩ = pure [] := by intros; rfl)
    (hdb : (x == ("__debug__" : Str)) = false := by decide) (hd : (a == ("__debug__" : Str)) = false := by decide) (hcd : (a == ("__classdict__" : Str)) = false := by decide) :
    PD Z (.Call (.Name x p) [.Lambda params body scope lpos] [] pos) (dFault hs db) := fun X W ok => by
  obtain ⟨hcode, hqual⟩ := ok.cq c q hq
  obtain ⟨pg, bg, sg, dV, kV, doc, pm, cdv, ct, oc, an, od, osl, Ng, l, lk, hcg, hbd, Sg, hNg, hva, hcl, hG⟩ := h.ex
  refine peI (LamX.pe_lamcall (X := X) (T := Z.tb) (TT := fun tl H Q => SzH H → TTf X.K l tl H Q) (t := fun E => tI Z.g (fun cls d _ H => E cls d H) db) (k := k) (show X.env.scope.names.lookup x = _ by rw [ok.sc]; exact hg) (by rw [ok.mg]; exact hm) (by rw [ok.K]; exact h.kp) (by rw [ok.K]; exact lk) (by rw [ok.K]; exact hcg) (by rw [ok.K]; exact hbd) Sg hNg hva
    (gives_sz (hG X ok.P ok.w ok.K ok.mg ok.base)) (by rw [ok.base, ok.mg]; exact TB) hcode (by rw [hqual]; exact hT) (by rw [hqual]; exact hu) (ok.rm.mono hk) (by rw [ok.sc]; exact L) (hdef _) hbind (fun A outer s H E f c' hr => hb _ _ (ok.lam hr)) hdb hd hcd) fun σ H Q ⟨m, r, G, s, sl, p⟩ => ?_
  refine ⟨s.tb, fun H1 eN T1 hz => ?_⟩
  have s1 := s.ext eN T1 hz
  have x1 : Ex m G.length H m G.length H1 := Ex.ext eN
  refine ⟨fun cls d H' => catchR X.K cls d H' Q l, fun _ _ _ z => z, m, r, G, s1, Sl.ex x1 s sl, ?_⟩
  unfold dFault at p
  cases e : db r G with
  | ok d G' =>
    rw [e] at p
    intro v m' H' x' s' rv
    exact p .non m' H' (x1.trans s1 x') s' rfl
  | stuck => rw [e] at p; exact p.elim
  | exc c0 ns ds G' =>
    rw [e] at p
    intro da m' H' xs x' s' hd' nb rs
    rw [show X.K = Z.g.K from ok.K]
    exact catch_of (x1.trans s1 x') s' hd' rs (fun y => (x1.trans s1 x').trans s' y) hcl p
/-- the def x that tells what is given, or refusals -/
structure MetA (b : Zb) (x a tag : Str) (g : Addr) (hs : List Hdl) : Prop where
  kp : PySem.W.keepIn b.K (.ref g) = true
  ex : ∃ (pg : Arguments) (bg : List Stmt) (sg : Scope) (dV kV doc pm cdv ct oc : Value) (an od : Option Addr) (osl : Array (Option Value)) (Ng : List Str) (l : List (Value × List Prt)),
    b.K.lookup g = some ⟨oc, od, .func (PySem.W.fnOf x x pg bg sg dV kV doc pm an cdv ct), osl⟩ ∧ PySem.W.codeIn b.K cdv x = true ∧ L2.Binds b.K (PySem.W.fnOf x x pg bg sg dV kV doc pm an cdv ct) [a] [] ∧ FnScope Ng [a] sg ∧ Ng[0]? = some a ∧ Vis sg a ∧ ClsR b.g.toGm0 hs l ∧ okS tag ∧
    ∀ (X : Cx), X.prog = b.P → X.w = b.w → X.K = b.K → X.mg = b.mg → X.base = b.base → LamX.GivesTo X Ng x sg g cdv bg a (X.env.qual ++ "<lambda>") (TTm X.K tag l)
theorem pd_met {x a q tag : Str} {g c P : Addr} {hs : List Hdl} {k : Nat} {params : Arguments} {body : Expr} {scope : Scope} {db : De} {p lpos pos : Pos} (h : MetA Z.toZb x a tag g hs) (hq : Z.cq = some (c, q)) (hm : Z.mg x = some (.ref g)) (TB : LamX.TabB Z.base Z.mg c P) (hT : (P, q ++ "<lambda>") ∈ Z.tb) (hu : ∀ p ∈ Z.tb, p.1 = P → p.2 = q ++ "<lambda>")
    (hk : k + 2 ≤ Z.k) (L : LamX.LamS Z.sc scope) (hb : PD (Z.lam scope k) body db) (hg : GlS Z x := by rfl) (hdef : ∀ env, defaultsOf params env = ([], []) := by intro _; rfl)
    (hbind : ∀ (q : Str) (cl : List (Str × Addr)) (pm cv ctv : Value), bindArgs (PySem.W.kla_fn "<lambda>" q params body scope cl pm cv ctv) ⟨[], []⟩ = pure [] := by intros; rfl)
    (hdb : (x == ("__debug__" : Str)) = false := by decide) (hd : (a == ("__debug__" : Str)) = false := by decide) (hcd : (a == ("__classdict__" : Str)) = false := by decide) :
    PD Z (.Call (.Name x p) [.Lambda params body scope lpos] [] pos) (dMet tag hs db) := fun X W ok => by
  obtain ⟨hcode, hqual⟩ := ok.cq c q hq
  obtain ⟨pg, bg, sg, dV, kV, doc, pm, cdv, ct, oc, an, od, osl, Ng, l, lk, hcg, hbd, Sg, hNg, hva, hcl, hok, hG⟩ := h.ex
  refine peI (LamX.pe_lamcall (X := X) (T := Z.tb) (TT := fun tl H Q => SzH H → TTm X.K tag l tl H Q) (t := fun E => tI Z.g (fun cls d _ H => E cls d H) db) (k := k) (show X.env.scope.names.lookup x = _ by rw [ok.sc]; exact hg) (by rw [ok.mg]; exact hm) (by rw [ok.K]; exact h.kp) (by rw [ok.K]; exact lk) (by rw [ok.K]; exact hcg) (by rw [ok.K]; exact hbd) Sg hNg hva
    (gives_sz (hG X ok.P ok.w ok.K ok.mg ok.base)) (by rw [ok.base, ok.mg]; exact TB) hcode (by rw [hqual]; exact hT) (by rw [hqual]; exact hu) (ok.rm.mono hk) (by rw [ok.sc]; exact L) (hdef _) hbind (fun A outer s H E f c' hr => hb _ _ (ok.lam hr)) hdb hd hcd) fun σ H Q ⟨m, r, G, s, sl, p⟩ => ?_
  refine ⟨s.tb, fun H1 eN T1 hz => ?_⟩
  have s1 := s.ext eN T1 hz
  have x1 : Ex m G.length H m G.length H1 := Ex.ext eN
  refine ⟨fun cls d H' => catchR X.K cls d H' Q l, fun _ _ _ z => z, m, r, G, s1, Sl.ex x1 s sl, ?_⟩
  unfold dMet at p
  cases e : db r G with
  | ok d G' =>
    rw [e] at p
    cases d with
    | loc i => exact p.elim
    | t t =>
      intro v m' H' x' s' rv
      have hz2 : ([V.str tag, v] : List V).length ≤ sizeLine := by show 2 ≤ 16777216; decide
      refine ⟨hz2, fun pp hpp => ?_⟩
      exact p (.ref pp) m' _ ((x1.trans s1 x').trans s' (Ex.new hpp)) (s'.new hpp hz2) ⟨pp, _, rfl, .inl (.inl upd_same), ⟨_, _, rfl, ⟨rfl, hok⟩, _, _, rfl, Rp.ex (Ex.new hpp) s' _ _ rv, rfl⟩⟩
  | stuck => rw [e] at p; exact p.elim
  | exc c0 ns ds G' =>
    rw [e] at p
    intro da m' H' xs x' s' hd' nb rs
    rw [show X.K = Z.g.K from ok.K]
    exact catch_of (x1.trans s1 x') s' hd' rs (fun y => (x1.trans s1 x').trans s' y) hcl p
end
end BL

set_option Elab.async false
set_option linter.all false
set_option maxRecDepth 100000
set_option maxHeartbeats 2000000
namespace BL
open PySem L2

/-! ### an own error class, as the top shows it -/
abbrev supPl (p0 p1 : Pos) : Env → Sem Bool := fun env => do return (← importBound (.Call (.Name "super" p0) [] [] p1) env).getD true
theorem supEval (m : Str) (j : Nat) (p0 p1 p2 p3 p4 : Pos) (h : (p2.endLine == p4.line) = true) : SupEval (supPl p0 p1) m j p0 p1 p2 p3 p4 := by
  intro env
  unfold supE
  rw [arm_eval_Call]
  have e : ∀ ov, methodCall (.Call (.Name "super" p0) [] [] p1) "__init__" p2 p4 env ov ([Expr.Constant (.str m) j p3].length + ([] : List Keyword).length) (backTo p4 (starEach [.Constant (.str m) j p3] env)) (backToKw p4 (keywordEach [] env)) = (holding [ov] (getMethod ov "__init__" (supPl p0 p1 env)) >>= fun q => callWith p4 q.1 q.2 (backTo p4 (starEach [.Constant (.str m) j p3] env)) []) := by
    intro ov
    unfold methodCall methodCallPos
    rw [h]
    rfl
  simp only [e]
/-- self.n = n -/
def asg1 (n : Str) : Stmt → Bool
  | .Assign [.Attribute (.Name s _) f _] (.Name y _) _ => (s == ("self" : Str)) && (f == n) && (y == n) && !(n == ("__debug__" : Str)) && !(n == ("__classdict__" : Str))
  | _ => false
theorem asg1_ok {n : Str} {st : Stmt} (h : asg1 n st = true) : ∃ p1 p2 p3 p4, st = .Assign [.Attribute (.Name "self" p1) n p2] (.Name n p3) p4 ∧ (n == ("__debug__" : Str)) = false ∧ (n == ("__classdict__" : Str)) = false := by
  unfold asg1 at h
  split at h
  · simp only [Bool.and_eq_true, beq_iff_eq, Bool.not_eq_true'] at h
    obtain ⟨⟨⟨⟨rfl, rfl⟩, rfl⟩, hd⟩, hc⟩ := h
    exact ⟨_, _, _, _, rfl, hd, hc⟩
  · cases h
def asgB : List Str → List Stmt → Bool
  | [], [] => true
  | n :: ns, st :: r => asg1 n st && asgB ns r
  | _, _ => false
theorem asg_ok {X : Cx} (h0 : X.N[0]? = some ("self" : Str)) (v0 : Vis X.env.scope "self") : ∀ {ns : List Str} {r : List Stmt} {j : Nat}, asgB ns r = true → (∀ i n, ns[i]? = some n → X.N[i + j]? = some n ∧ Vis X.env.scope n) → PSs X r (tFlds X.K (ns.zipIdx j))
  | [], [], _, _, _ => pss_nil
  | [], _ :: _, _, h, _ => by simp [asgB] at h
  | _ :: _, [], _, h, _ => by simp [asgB] at h
  | n :: ns, st :: r, j, h, hn => by
    simp only [asgB, Bool.and_eq_true] at h
    obtain ⟨p1, p2, p3, p4, rfl, hd, hc⟩ := asg1_ok h.1
    obtain ⟨q1, q2⟩ := hn 0 _ rfl
    rw [Nat.zero_add] at q1
    rw [List.zipIdx_cons]
    refine pss_cons (ps_ost (pe_var h0 v0) (pe_var q1 q2 hd hc)) (asg_ok h0 v0 h.2 fun i m hm => ?_)
    have := hn (i + 1) m (by simpa using hm)
    rw [show i + (j + 1) = i + 1 + j by omega]
    exact this
def argsOf : List Str → List (Option Expr × Pos) → List Arg
  | n :: ns, q :: qs => ⟨n, q.1, q.2⟩ :: argsOf ns qs
  | _, _ => []
theorem argsOf_eq : ∀ {as : List Arg} {ns : List Str}, as.map (·.arg) = ns → as = argsOf ns (as.map fun a => (a.annotation, a.pos))
  | [], ns, h => by cases h; rfl
  | a :: as, ns, h => by
    cases h
    have e := argsOf_eq (as := as) rfl
    show a :: as = ⟨a.arg, a.annotation, a.pos⟩ :: argsOf (as.map (·.arg)) (as.map fun a => (a.annotation, a.pos))
    rw [← e]
    cases a
    rfl
def scB (ps : List Str) (sc : Scope) : Bool := decide (sc.kind = .function) && (!sc.isCoroutine && (!sc.isGenerator && (ps.all (fun y => decide (sc.names.lookup y = some .local)) && (sc.names.all (fun y => !decide (y.2 = .free) || y.1 == ("__class__" : Str)) &&
  (sc.names.all (fun y => !decide (y.2 = .cell)) && (decide (sc.names.lookup ("super" : Str) = some .globalImplicit) && decide (sc.names.lookup ("__class__" : Str) = some .free)))))))
theorem scB_ok {ps : List Str} {sc : Scope} (nd : ps.Nodup) (h : scB ps sc = true) : FnScK ps ps sc := by
  unfold scB at h
  simp only [Bool.and_eq_true, decide_eq_true_eq, Bool.not_eq_true', List.all_eq_true, Bool.or_eq_true, decide_eq_false_iff_not, beq_iff_eq] at h
  obtain ⟨h1, h2, h3, h4, h5, h6, h7, h8⟩ := h
  refine ⟨h1, h2, h3, nd, List.take_length, h4, fun y hy e => ?_, h6, h7, h8⟩
  rcases h5 y hy with q | q
  · exact absurd e q
  · exact q
/-- the function object of the class's __init__ -/
structure InitD (K : PySem.W.Frag) (file : Str) (f C : Addr) (ns : List Str) : Prop where
  ex : ∃ (oc : Value) (od : Option Addr) (osl : Array (Option Value)) (name qual : Str) (qs : List (Option Expr × Pos)) (kd : List (Option Expr)) (df : List Expr) (m : Str) (j : Nat) (p0 p1 p2 p3 p4 p5 : Pos) (r : List Stmt) (sc : Scope) (kV doc pm ct : Value) (an : Option Addr) (cda cc : Addr) (cl : Value) (cld : Option Addr) (csl : Array (Option Value)) (ccl : Value) (cdd : Option Addr) (vs : Array Value) (ccs : Array (Option Value)) (tf : Tok),
    K.lookup f = some ⟨oc, od, .func (PySem.W.ksFn name qual ⟨[], argsOf (("self" : Str) :: ns) qs, none, [], kd, none, df⟩ (.Expr (supE m j p0 p1 p2 p3 p4) p5 :: r) sc .none kV doc pm an (.ref cda) ct cc), osl⟩ ∧ qs.length = ns.length + 1 ∧ (p2.endLine == p4.line) = true ∧ asgB ns r = true ∧ scB (("self" : Str) :: ns) sc = true ∧
    PySem.W.codeIn K (.ref cda) qual = true ∧ K.lookup cc = some ⟨cl, cld, .cell (some (.ref C)), csl⟩ ∧ K.lookup cda = some ⟨ccl, cdd, .fields vs, ccs⟩ ∧ vs[2]? = some (.str file tf)
def fileB (K : PySem.W.Frag) (file : Str) (c : Addr) : Bool := match K.lookup c with
  | some ⟨_, _, .fields vs, _⟩ => (match (vs[2]? : Option Value) with
    | some (.str fl _) => decide (fl = file)
    | _ => false)
  | _ => false
theorem fileB_ok {K : PySem.W.Frag} {file : Str} {c : Addr} (h : fileB K file c = true) : ∃ ccl cdd vs ccs tf, K.lookup c = some ⟨ccl, cdd, .fields vs, ccs⟩ ∧ vs[2]? = some (.str file tf) := by
  unfold fileB at h
  split at h
  · rename_i a b vs d lk
    split at h
    · rename_i fl tf hv
      rw [of_decide_eq_true h] at hv
      exact ⟨a, b, vs, d, tf, lk, hv⟩
    · cases h
  · cases h
def initB (K : PySem.W.Frag) (file : Str) (f C : Addr) (ns : List Str) : Bool := match K.lookup f with
  | some ⟨_, _, .func fd, _⟩ => (match fd.body, fd.code, fd.closure with
    | .stmts (.Expr (.Call (.Attribute (.Call (.Name s0 _) [] [] _) s1 p2) [.Constant (.str _) _ _] [] p4) _ :: r), .ref cda, [(cn, cc)] =>
      fileB K file cda && (s0 == ("super" : Str)) && (s1 == ("__init__" : Str)) && (p2.endLine == p4.line) && asgB ns r && (cn == ("__class__" : Str)) && scB (("self" : Str) :: ns) fd.scope && PySem.W.codeIn K (.ref cda) fd.qualname &&
      (fd.params.posonlyargs.isEmpty && decide (fd.params.args.map (·.arg) = ("self" : Str) :: ns) && fd.params.vararg.isNone && fd.params.kwonlyargs.isEmpty && fd.params.kwarg.isNone) && decide (fd.globals = mainGlobals) && decide (fd.builtins = builtinsNs) && (match fd.defaults with | .none => true | _ => false) &&
      (match K.lookup cc with
        | some ⟨_, _, .cell (some (.ref C')), _⟩ => decide (C' = C)
        | _ => false)
    | _, _, _ => false)
  | _ => false
theorem initB_ok {K : PySem.W.Frag} {file : Str} {f C : Addr} {ns : List Str} (h : initB K file f C ns = true) : InitD K file f C ns := by
  unfold initB at h
  split at h
  · rename_i oc od fd osl lk
    split at h
    · rename_i s0 p0 p1 s1 p2 m j p3 p4 p5 r cda cn cc hb hc hcl
      simp only [Bool.and_eq_true, beq_iff_eq, decide_eq_true_eq] at h
      obtain ⟨⟨⟨⟨⟨⟨⟨⟨⟨⟨⟨⟨h0, h1⟩, h2⟩, h3⟩, h4⟩, h5⟩, h6⟩, h7⟩, ⟨⟨⟨⟨a1, a2⟩, a3⟩, a4⟩, a5⟩⟩, h9⟩, h10⟩, h11⟩, h12⟩ := h
      subst h1 h2 h5
      split at h11
      · rename_i hdf
        split at h12
        · rename_i cl cld C' csl lc
          simp at h12
          subst h12
          obtain ⟨nm, ql, ⟨po, ar, va, ko, kd, ka, df⟩, bd, sc, gl, clo, dV, kV, doc, pm, an, cd, ct, bl⟩ := fd
          simp only at hb hc hcl h6 h7 a1 a2 a3 a4 a5 h9 h10 hdf
          subst hb hc hcl h9 h10 hdf
          have e1 : po = [] := List.isEmpty_iff.mp a1
          have e2 : ko = [] := List.isEmpty_iff.mp a4
          have e3 : va = none := Option.isNone_iff_eq_none.mp a3
          have e4 : ka = none := Option.isNone_iff_eq_none.mp a5
          subst e1 e2 e3 e4
          have e5 := argsOf_eq a2
          have hl : ar.length = ns.length + 1 := by have := congrArg List.length a2; simpa using this
          obtain ⟨ccl, cdd, vs, ccs, tf, lc2, lv2⟩ := fileB_ok h0
          refine ⟨oc, od, osl, nm, ql, ar.map fun a => (a.annotation, a.pos), kd, df, m, j, p0, p1, p2, p3, p4, p5, r, sc, kV, doc, pm, ct, an, cda, cc, cl, cld, csl, ccl, cdd, vs, ccs, tf, ?_, by simpa using hl, by simpa using h3, h4, h6, h7, lc, lc2, lv2⟩
          rw [lk, ← e5]
        · cases h12
      · cases h11
    · cases h
  · cases h
def clsXB (K : PySem.W.Frag) (C : Addr) : Bool := match K.lookup C with
  | some ⟨.type t, _, .cls cd, sl⟩ => decide (t = "type") && (match cd.mro, sl.toList with
    | .ref C' :: bm, [_, _, _, _, some (.builtin n), _] => decide (C' = C) && decide (n = "ValueError.__new__") && !cd.hasDel && cd.hasDict && PySem.HandSPX.refsVE bm
    | _, _ => false)
  | _ => false
theorem clsXB_ok {K : PySem.W.Frag} {C : Addr} (h : clsXB K C = true) : ∃ nm q N bs bm sn sub ab col dd k0 k1 k2 k3 k5, K.lookup C = some (excClassObj nm q C N bs bm true sn sub ab col dd k0 k1 k2 k3 k5 "ValueError.__new__") ∧ PySem.HandSPX.refsVE bm = true := by
  unfold clsXB at h
  split at h
  · rename_i t dd cd sl lk
    obtain ⟨h0, hx⟩ := He.ba h
    clear h
    have h0 := of_decide_eq_true h0
    subst h0
    split at hx
    · rename_i C' bm k0 k1 k2 k3 n k5 hm hs
      obtain ⟨hx, h5⟩ := He.ba hx
      obtain ⟨hx, h4⟩ := He.ba hx
      obtain ⟨hx, h3⟩ := He.ba hx
      obtain ⟨ha, hb⟩ := He.ba hx
      have ea := of_decide_eq_true ha
      have eb := of_decide_eq_true hb
      rw [Bool.not_eq_true'] at h3
      subst ea eb
      obtain ⟨nm, bs, mro, ns, qn, hd, sn, sub, ab, col, del⟩ := cd
      dsimp only at hm h3 h4
      subst hm h3 h4
      have hsl : sl = #[k0, k1, k2, k3, some (.builtin "ValueError.__new__"), k5] := by
        obtain ⟨l⟩ := sl
        simp only at hs
        rw [hs]
      subst hsl
      exact ⟨nm, qn, ns, bs, bm, sn, sub, ab, col, dd, k0, k1, k2, k3, k5, lk, h5⟩
    · cases hx
  · cases h
def supIn (K : PySem.W.Frag) (C : Addr) : Option (Option Value) := (PySem.W.clsIn K C).bind fun cd => PySem.W.alongIn K "__init__" ((cd.mro.dropWhile (· != .ref C)).drop 1)
/-- all that is asked of an own error class at C, its __init__ at f -/
def excB (K : PySem.W.Frag) (file : Str) (C f : Addr) (ns : List Str) : Bool := clsXB K C && (initB K file f C ns && (He.eqO (PySem.W.findIn K (.ref C) "__setattr__") (some (some (.builtin "object.__setattr__"))) && (decide (PySem.W.subIn K (.ref C) (.type "BaseException") = some true) && (decide (PySem.W.typeIn K (.ref C) = some (.type "type")) &&
  (PySem.W.keepIn K (.ref C) && (He.eqO (PySem.W.findIn K (.ref C) "__init__") (some (some (.ref f))) && (decide (PySem.W.typeIn K (.ref f) = some (.type "function")) && ((ns.all fun n => decide (PySem.W.findIn K (.ref C) n = some none)) && (decide (PySem.W.mroIn K C (.ref C) = some true) && (decide (PySem.W.subIn K (.ref C) (.type "ValueError") = some true) &&
  (decide (PySem.W.nsIn K cStatics "thirdparty.any" = some none) && decide (supIn K C = some (some (.builtin "ValueError.__init__"))))))))))))))
theorem exa_ok {b : Zb} {c : Nat} {f : Addr} {ns : List Str} {file : Str} (h : excB b.K file (b.ca c) f ns = true) (hne : ns ≠ []) (few : ns.length ≤ 100) (nd : (("self" : Str) :: ns).Nodup) (hfile : ((b.P.main.file : Str) == file) = true) (htop : (b.P.main.scope.names.lookup ("super" : Str)).isSome = false) (hm : b.mg "super" = none)
    (hbind : ∀ (name qual : Str) (qs : List (Option Expr × Pos)) (kd : List (Option Expr)) (df : List Expr) (body : List Stmt) (sc : Scope) (kV doc pm ct : Value) (an : Option Addr) (cdv : Value) (cc : Addr) (us : List Value), qs.length = ns.length + 1 → us.length = ns.length + 1 →
      bindArgs (PySem.W.ksFn name qual ⟨[], argsOf (("self" : Str) :: ns) qs, none, [], kd, none, df⟩ body sc .none kV doc pm an cdv ct cc) ⟨us, []⟩ = pure ((("self" : Str) :: ns).zip us)) : ExA b 1 c ns := by
  unfold excB at h
  obtain ⟨h1, h⟩ := He.ba h
  obtain ⟨h2, h⟩ := He.ba h
  obtain ⟨h3, h⟩ := He.ba h
  obtain ⟨h4, h⟩ := He.ba h
  obtain ⟨h5, h⟩ := He.ba h
  obtain ⟨h6, h⟩ := He.ba h
  obtain ⟨h7, h⟩ := He.ba h
  obtain ⟨h8, h⟩ := He.ba h
  obtain ⟨h9, h⟩ := He.ba h
  obtain ⟨h10, h⟩ := He.ba h
  obtain ⟨h11, h⟩ := He.ba h
  obtain ⟨h12, h13⟩ := He.ba h
  have T : OexC b.K (b.ca c) := ⟨clsXB_ok h1, He.eqO_ok h3, of_decide_eq_true h4, of_decide_eq_true h5, h6⟩
  obtain ⟨oc, od, osl, name, qual, qs, kd, df, m, j, p0, p1, p2, p3, p4, p5, r, sc, kV, doc, pm, ct, an, cda, cc, cl, cld, csl, ccl, cdd, vs, ccs, tf, lk, hq, hp, ha, hsc, hcd, hcc, hco, hv⟩ := (initB_ok h2).ex
  have S := scB_ok nd hsc
  obtain ⟨cd, hcd2, hal⟩ : ∃ cd, PySem.W.clsIn b.K (b.ca c) = some cd ∧ PySem.W.alongIn b.K "__init__" ((cd.mro.dropWhile (· != .ref (b.ca c))).drop 1) = some (some (.builtin "ValueError.__init__")) := by
    have e := of_decide_eq_true h13
    unfold supIn at e
    cases q : PySem.W.clsIn b.K (b.ca c) with
    | none => rw [q] at e; cases e
    | some cd => rw [q] at e; exact ⟨cd, rfl, e⟩
  obtain ⟨q0, qs', eqs⟩ : ∃ q0 qs', qs = q0 :: qs' := by
    cases qs with
    | nil => simp at hq
    | cons q0 qs' => exact ⟨q0, qs', rfl⟩
  have SC : SupC b.P b.K f cda cc (b.ca c) := {
    fn := ⟨_, _, _, _, ⟨"self", q0.1, q0.2⟩, lk, by subst eqs; rfl, rfl⟩
    code := ⟨_, _, _, _, file, tf, hco, hv, hfile⟩
    cell := ⟨_, _, _, hcc⟩
    cls := ⟨cd, hcd2, hal⟩
    self := of_decide_eq_true h10
    val := of_decide_eq_true h11
    op := of_decide_eq_true h12
    top := htop }
  refine ⟨T, hne, few, fun n hn => of_decide_eq_true (List.all_eq_true.mp h9 n hn), f, PySem.W.ksFn name qual ⟨[], argsOf (("self" : Str) :: ns) qs, none, [], kd, none, df⟩ (.Expr (supE m j p0 p1 p2 p3 p4) p5 :: r) sc .none kV doc pm an (.ref cda) ct cc, ("self" : Str) :: ns, He.eqO_ok h7, of_decide_eq_true h8, rfl, Binds.all fun us hl => hbind _ _ qs kd df _ _ _ _ _ _ _ _ _ us hq (by simpa using hl), ?_⟩
  refine exi_fn (k := 0) lk hcd (supEval m j p0 p1 p2 p3 p4 hp) S SC T hm rfl (S.par _ (.head _)) fun A outer s H E => ?_
  exact asg_ok (X := cxK (L2.CX b.P b.w) b.P b.w b.K b.mg b.base (("self" : Str) :: ns) qual sc f cda cc A outer s H E) rfl (.inl (S.par _ (.head _))) ha fun i n hn => ⟨show (("self" : Str) :: ns)[i + 1]? = some n by simpa using hn, .inl (S.par n (.tail _ (List.mem_of_getElem? hn)))⟩
end BL

set_option Elab.async false
set_option linter.all false
set_option maxRecDepth 100000
set_option maxHeartbeats 2000000
namespace BL
open PySem L2

/-! ### a law's end, with tables of code objects -/
def spLT (K : PySem.W.Frag) (n : Nat) (ts : List Addr) : Sp := fun vs H Q _ => ∃ (a : Addr) (ns : List Int), vs = [.ref a] ∧ ns.length ≤ n ∧ (∀ p ∈ ts, H p = some (.tbl #[])) ∧ SqL K H a (ns.map V.int) ∧ ∀ H', Q (.bl true) H'
theorem law_okT {Z : Zb} {k n : Nat} {f : Addr} {fd : FuncData} {x : Str} {F : Fd} (h : FnD Z k f fd [x] F) (hn : n ≤ sizeLine) (hF : ∀ ns : List Int, ns.length ≤ n → ∃ G, F [scr ns] [] = .ok (.t (.bl true)) G) : FnOk Z.P Z.w Z.K Z.mg Z.base L2.CX0 k f fd [x] (spLT Z.K n (Z.tb.map (·.1))) where
  len := fun vs H Q E ⟨a, ns, e, _⟩ => by subst e; rfl
  run := fun A outer s H args us vs Q E hr e0 hb hv ⟨a, ns, e, hl, hO, hS, q⟩ => by
    subst e
    obtain ⟨G, hG⟩ := hF ns hl
    refine codeAny_mono (h.ok.run A outer s H args us _ Q E0 hr e0 hb hv ⟨rfl, [], fun _ => 0, [], [scr ns], ⟨fun i o z => by simp at z, fun i j z => absurd z (Nat.not_lt_zero _), sz_hok e0.hok, fun p hp => LamX.TabS.nil (hO _ (List.mem_map.mpr ⟨p, hp, rfl⟩)), fun b z => (by cases z)⟩, ⟨_, _, rfl, ⟨a, ns.map V.int, rfl, ?_, rps_ints⟩, rfl⟩, ?_⟩) ?_
    · rcases hS with hS | hS
      · exact .inl ⟨hS, fun z => by
          rcases z with ⟨i, hi, _⟩ | z
          · exact absurd hi (Nat.not_lt_zero _)
          · cases z⟩
      · exact .inr hS
    · rw [hG]
      intro v m' H' _ _ rv
      cases rv
      exact q H'
    · intro r s' hq
      cases r with
      | error e =>
        obtain ⟨_, _, _, _, _, _, _, _, _, _, _, _, z⟩ := hq
        exact z.elim
      | ok fl => cases fl <;> exact hq
/-! ### the def that tells refusals -/
theorem sub_of {K : PySem.W.Frag} {ca : Nat → Addr} {v : Value} {l : List (Nat × Bool)} (h : (l.all fun p => decide (PySem.W.exmOne K (.ref (ca p.1)) v = some p.2)) = true) : ∀ c b, l.lookup c = some b → PySem.W.exmOne K (.ref (ca c)) v = some b := fun c b e => by
  have mem : ∀ {l : List (Nat × Bool)}, l.lookup c = some b → (c, b) ∈ l := by
    intro l
    induction l with
    | nil => intro z; cases z
    | cons p l ih =>
      intro z
      obtain ⟨c', b'⟩ := p
      by_cases q : c = c'
      · subst q
        simp [List.lookup] at z
        subst z
        exact .head _
      · have q' : (c == c') = false := by simpa using q
        simp only [List.lookup, q'] at z
        exact .tail _ (ih z)
  exact of_decide_eq_true (List.all_eq_true.mp h _ (mem e))
theorem flt_of {b : Zb} {x a : Str} {g : Addr} {st : Stmt} {N : List Str} {hs : List Hdl} {l : List (Value × List Prt)} (Fn : ∃ fd, FnE b.K x x st [] g fd) (S : FnScope N [a] (defScope st)) (hN : N[0]? = some a) (hv : Vis (defScope st) a) (hcl : ClsR b.g.toGm0 hs l)
    (hb : ∀ (kV doc pm : Value) (an : Option Addr) (cdv ct : Value) (us : List Value), us.length = 1 → bindArgs (PySem.W.fnOf x x (defArgs st) (defBody st) (defScope st) .none kV doc pm an cdv ct) ⟨us, []⟩ = pure ([a].zip us))
    (hG : ∀ (X : Cx) (cdv : Value), X.K = b.K → X.mg = b.mg → LamX.GivesTo X N x (defScope st) g cdv (defBody st) a (X.env.qual ++ "<lambda>") (TTf X.K l)) : FltA b x a g hs := by
  obtain ⟨fd, Fn⟩ := Fn
  refine ⟨Fn.kp, ?_⟩
  obtain ⟨oc, od, dV, kV, doc, pm, an, cdv, ct, osl, rfl, lk, hcd, hD, _⟩ := Fn.ex
  rcases hD with ⟨_, rfl⟩ | ⟨e, _⟩
  · exact ⟨_, _, _, _, _, _, _, _, _, _, _, _, _, N, l, lk, hcd, Binds.all fun us hl => hb _ _ _ _ _ _ us hl, S, hN, hv, hcl, fun X _ _ eK em _ => hG X cdv eK em⟩
  · exact absurd rfl e
theorem met_of {b : Zb} {x a tag : Str} {g : Addr} {st : Stmt} {N : List Str} {hs : List Hdl} {l : List (Value × List Prt)} (Fn : ∃ fd, FnE b.K x x st [] g fd) (S : FnScope N [a] (defScope st)) (hN : N[0]? = some a) (hv : Vis (defScope st) a) (hcl : ClsR b.g.toGm0 hs l) (hok : okS tag)
    (hb : ∀ (kV doc pm : Value) (an : Option Addr) (cdv ct : Value) (us : List Value), us.length = 1 → bindArgs (PySem.W.fnOf x x (defArgs st) (defBody st) (defScope st) .none kV doc pm an cdv ct) ⟨us, []⟩ = pure ([a].zip us))
    (hG : ∀ (X : Cx) (cdv : Value), X.K = b.K → X.mg = b.mg → LamX.GivesTo X N x (defScope st) g cdv (defBody st) a (X.env.qual ++ "<lambda>") (TTm X.K tag l)) : MetA b x a tag g hs := by
  obtain ⟨fd, Fn⟩ := Fn
  refine ⟨Fn.kp, ?_⟩
  obtain ⟨oc, od, dV, kV, doc, pm, an, cdv, ct, osl, rfl, lk, hcd, hD, _⟩ := Fn.ex
  rcases hD with ⟨_, rfl⟩ | ⟨e, _⟩
  · exact ⟨_, _, _, _, _, _, _, _, _, _, _, _, _, N, l, lk, hcd, Binds.all fun us hl => hb _ _ _ _ _ _ us hl, S, hN, hv, hcl, hok, fun X _ _ eK em _ => hG X cdv eK em⟩
  · exact absurd rfl e
end BL

set_option Elab.async false
set_option linter.all false
set_option maxRecDepth 100000
set_option maxHeartbeats 2000000
namespace BL
open PySem L2

/-! ### -x -/
def fNeg : D → Hs → Re
  | .t (.int i), G => .ok (.t (.int (-i))) G
  | _, _ => .stuck
/-! ### xs.pop(i), xs.insert(i, y) -/
def fPop : D → List D → Hs → Re := fun x ds G => match x, ds with
  | .loc j, [.t (.int i)] => (match G[j]? with
    | some (.lst es) => if 0 ≤ i ∧ i < 2 ^ 63 then (match es[i.toNat]? with
      | some y => .ok y (G.set j (.lst (es.eraseIdx i.toNat)))
      | none => .stuck) else .stuck
    | _ => .stuck)
  | _, _ => .stuck
def fIns : D → List D → Hs → Re := fun x ds G => match x, ds with
  | .loc j, [.t (.int i), y] => (match G[j]? with
    | some (.lst es) => if okIn j y = true ∧ es.length < 16777216 ∧ 0 ≤ i ∧ i < 2 ^ 63 then .ok (.t .non) (G.set j (.lst (es.take i.toNat ++ [y] ++ es.drop i.toNat))) else .stuck
    | _ => .stuck)
  | _, _ => .stuck
theorem RpDs.erase {g : Gm} {m : Nat → Addr} {n b : Nat} {H : Hp} : ∀ {ds : List D} {vs : List V} (k : Nat), RpDs g m n b H ds vs → RpDs g m n b H (ds.eraseIdx k) (vs.eraseIdx k)
  | [], vs, k, r => by cases r; simp [RpDs]
  | d :: ds, vs, 0, ⟨v, ws, e, h, r⟩ => by subst e; exact r
  | d :: ds, vs, k + 1, ⟨v, ws, e, h, r⟩ => by subst e; exact ⟨v, ws.eraseIdx k, rfl, h, RpDs.erase k r⟩
theorem RpDs.takeN {g : Gm} {m : Nat → Addr} {n b : Nat} {H : Hp} : ∀ {ds : List D} {vs : List V} (k : Nat), RpDs g m n b H ds vs → RpDs g m n b H (ds.take k) (vs.take k)
  | [], vs, k, r => by cases r; simp [RpDs]
  | d :: ds, vs, 0, ⟨v, ws, e, h, r⟩ => by simp [RpDs]
  | d :: ds, vs, k + 1, ⟨v, ws, e, h, r⟩ => by subst e; exact ⟨v, ws.take k, rfl, h, RpDs.takeN k r⟩
theorem RpDs.dropN {g : Gm} {m : Nat → Addr} {n b : Nat} {H : Hp} : ∀ {ds : List D} {vs : List V} (k : Nat), RpDs g m n b H ds vs → RpDs g m n b H (ds.drop k) (vs.drop k)
  | [], vs, k, r => by cases r; simp [RpDs]
  | d :: ds, vs, 0, ⟨v, ws, e, h, r⟩ => by subst e; exact ⟨v, ws, rfl, h, r⟩
  | d :: ds, vs, k + 1, ⟨v, ws, e, h, r⟩ => by subst e; exact RpDs.dropN k r
theorem a_pop {g : Gm} (K : PySem.W.Frag) (hK : K = g.K) : MtA g K "list" rPopAt fPop isL := by
  refine ⟨isL_ty hK, ?_⟩
  intro W m H G σ Q x ds v vs s rx rs p
  unfold fPop at p
  split at p
  · rename_i j i
    obtain ⟨hi, rfl⟩ := rx
    obtain ⟨u, rfl, ru⟩ := rpds1 rs
    cases ru
    cases q : G[j]? with
    | none => rw [q] at p; exact p.elim
    | some o =>
      rw [q] at p
      cases o with
      | lst es =>
        simp only at p
        split at p
        · rename_i hk
          cases q2 : es[i.toNat]? with
          | none => rw [q2] at p; exact p.elim
          | some y =>
            rw [q2] at p
            obtain ⟨xs, h, r⟩ := s.ob j _ q
            have hl := r.length
            obtain ⟨w, hw, rw'⟩ := r.get q2
            have hlt : i.toNat < xs.length := (List.getElem?_eq_some_iff.mp hw).1
            refine ⟨m j, xs, i, i.toNat, w, rfl, rfl, h, by omega, hk.2, ?_, hw, ?_⟩
            · show seqIndex? i xs.length = some i.toNat
              unfold seqIndex?
              have h1 : ¬ (i < 0) := by omega
              simp only [h1, if_false]
              rw [if_pos (by rw [Bool.and_eq_true, decide_eq_true_eq, decide_eq_true_eq]; constructor <;> omega)]
            · have hz : (xs.eraseIdx i.toNat).length ≤ sizeLine := Nat.le_trans (List.length_eraseIdx_le ..) (s.sz _ _ h)
              obtain ⟨x1, s1⟩ := wrL s hi (es := es.eraseIdx i.toNat) (ys := xs.eraseIdx i.toNat) hz (RpDs.erase _ r)
              exact p w m _ x1 s1 (RpD.ex x1 s (by rw [List.length_set]; exact Nat.le_of_lt hi) (Nat.le_of_lt hi) rw')
        · exact p.elim
      | dk _ => exact p.elim
      | ins _ _ => exact p.elim
      | flst _ => exact p.elim
  · exact p.elim
def rIns : V → List V → Hp → VK → Prop := fun x vs H Q => ∃ (l : Addr) (xs : List V) (i : Int) (y : V), x = .ref l ∧ vs = [.int i, y] ∧ H l = some (.lst xs) ∧ xs.length < sizeLine ∧ 0 ≤ i ∧ i < 2 ^ 63 ∧ Q .non (upd H l (.lst (xs.take i.toNat ++ [y] ++ xs.drop i.toNat)))
theorem a_ins {g : Gm} (K : PySem.W.Frag) (hK : K = g.K) : MtA g K "list" rIns fIns isL := by
  refine ⟨isL_ty hK, ?_⟩
  intro W m H G σ Q x ds v vs s rx rs p
  unfold fIns at p
  split at p
  · rename_i j i y
    obtain ⟨hi, rfl⟩ := rx
    obtain ⟨u0, us, rfl, ru0, rs⟩ := rs
    cases ru0
    obtain ⟨u, rfl, ru⟩ := rpds1 rs
    cases q : G[j]? with
    | none => rw [q] at p; exact p.elim
    | some o =>
      rw [q] at p
      cases o with
      | lst es =>
        simp only at p
        split at p
        · rename_i hk
          obtain ⟨xs, h, r⟩ := s.ob j _ q
          have hl := r.length
          have hz : xs.length < sizeLine := by rw [← hl]; exact hk.2.1
          refine ⟨m j, xs, i, u, rfl, rfl, h, hz, hk.2.2.1, hk.2.2.2, ?_⟩
          have hz2 : (xs.take i.toNat ++ [u] ++ xs.drop i.toNat).length ≤ sizeLine := by
            simp only [List.length_append, List.length_take, List.length_drop, List.length_cons, List.length_nil]
            have : sizeLine = 16777216 := rfl
            omega
          obtain ⟨x1, s1⟩ := wrL s hi (es := es.take i.toNat ++ [y] ++ es.drop i.toNat) (ys := xs.take i.toNat ++ [u] ++ xs.drop i.toNat) hz2 (RpDs.append (RpDs.append (RpDs.takeN _ r) ⟨u, [], rfl, okIn_rp hk.1 ru, rfl⟩) (RpDs.dropN _ r))
          exact p .non m _ x1 s1 rfl
        · exact p.elim
      | dk _ => exact p.elim
      | ins _ _ => exact p.elim
      | flst _ => exact p.elim
  · exact p.elim
section
variable {Z : Zc} {o e e2 i : Expr} {do_ de de2 di : De} {apos cpos pos p : Pos}
theorem pd_neg (he : PD Z e de) : PD Z (.UnaryOp .USub e pos) (dUn fNeg de) := fun X W ok => by
  refine peI (pe_un un_neg (he X W ok)) fun σ H Q ⟨m, r, G, s, sl, p⟩ => ?_
  refine tI_bind s sl p fun x G1 v m1 H1 e1 x1 s1 sl1 rv p1 => ?_
  unfold fNeg at p1
  split at p1
  · cases rv; exact ⟨_, rfl, PostE.ok s1 p1 rfl⟩
  · exact p1.elim
theorem pd_pop (ho : PD Z o do_) (he : PD Z e de) (hbase : ∀ env, attributeBase o "pop" env (eval o env) = eval o env := by intro _; rfl)
    (hline : (apos.endLine == cpos.line) = true := by rfl) (hs : ∀ env, starEach [e] env = (false, eval e env) :: starEach [] env := by intro _; rfl) : PD Z (.Call (.Attribute o "pop" apos) [e] [] cpos) (dBm isL fPop do_ [de]) :=
  pd_bm (q := fun _ => rPopAt) PySem.F.plainAttrs_list PySem.F.slot_list_pop PySem.F.type_list_pop (fun _ _ _ => mt_popAt) (fun X W ok => a_pop _ ok.Kg) ho (pda_cons he pda_nil hs) hbase (fun env => by rw [hs]; rfl) hline hs (fun _ => rfl)
theorem pd_insert (ho : PD Z o do_) (he : PD Z e de) (he2 : PD Z e2 de2) (hbase : ∀ env, attributeBase o "insert" env (eval o env) = eval o env := by intro _; rfl)
    (hline : (apos.endLine == cpos.line) = true := by rfl) (hs : ∀ env, starEach [e, e2] env = (false, eval e env) :: starEach [e2] env := by intro _; rfl) (hs2 : ∀ env, starEach [e2] env = (false, eval e2 env) :: starEach [] env := by intro _; rfl) : PD Z (.Call (.Attribute o "insert" apos) [e, e2] [] cpos) (dBm isL fIns do_ [de, de2]) :=
  pd_bm (q := fun _ => rIns) PySem.F.plainAttrs_list PySem.F.slot_list_insert PySem.F.type_list_insert (fun _ _ _ => mt_insert) (fun X W ok => a_ins _ ok.Kg) ho (pda_cons he (pda_cons he2 pda_nil hs2) hs) hbase (fun env => by rw [hs, hs2]; rfl) hline hs (fun env => by rw [hs2]; rfl)
end
/-! ### x in t, both data of any depth, t a tuple -/
def fInT (neg : Bool) : D → D → Hs → Re
  | .t x, .t (.tup ts), G => if cmpT x = true ∧ cmpTs ts = true ∧ min (deps ts) (dep x) ≤ 64 then .ok (.t (.bl (if neg then !ts.any (fun t => teq t x) else ts.any (fun t => teq t x)))) G else .stuck
  | _, _, _ => .stuck
def rInTN (K : PySem.W.Frag) (neg : Bool) : R2 := fun x y H Q => ∃ d ds, Dp K H x d ∧ Dp K H y (.tuple ds) ∧ d.canLay0 = true ∧ PyData.canLayAll0 ds = true ∧ min (PyData.depthAll ds) d.depth ≤ 64 ∧ Q (.bl (if neg then !ds.any (fun z => PyData.eqv z d) else ds.any (fun z => PyData.eqv z d))) H
theorem op_inTN {X : Cx} (hu : X.A.units + 65 < cLine) : OpR X (compareOp .In) (rInTN X.K false) := by
  intro pins s σ H x y v u Q I rx ry h
  obtain ⟨d, e, hd, he, c1, c2, hm, q⟩ := h
  obtain ⟨as, r1⟩ := Dp.reads I d x v hd rx
  obtain ⟨bs, r2⟩ := Dp.reads I (.tuple e) y u he ry
  exact SeqAt.in_tuple_reads r2 r1 c2 c1 (by omega) ⟨.bl _, H, I, rfl, q⟩
theorem op_notInTN {X : Cx} (hu : X.A.units + 65 < cLine) : OpR X (compareOp .NotIn) (rInTN X.K true) := by
  intro pins s σ H x y v u Q I rx ry h
  obtain ⟨d, e, hd, he, c1, c2, hm, q⟩ := h
  obtain ⟨as, r1⟩ := Dp.reads I d x v hd rx
  obtain ⟨bs, r2⟩ := Dp.reads I (.tuple e) y u he ry
  exact SeqAt.notIn_tuple_reads r2 r1 c2 c1 (by omega) ⟨.bl _, H, I, rfl, q⟩
theorem toPs_any {x : T} : ∀ {ts : List T}, ((toPs ts).any fun z => PyData.eqv z (toP x)) = ts.any fun t => teq t x
  | [] => rfl
  | t :: ts => by
    simp only [toPs, List.any_cons]
    rw [toPs_any]
    rfl
theorem a_inT {g : Gm} {neg : Bool} (K : PySem.W.Frag) (hK : K = g.K) : OpA g (rInTN K neg) (fInT neg) := by
  subst hK
  intro W m H G σ Q x y v u s rx ry p
  unfold fInT at p
  split at p
  · rename_i a ts
    split at p
    · rename_i h
      have qa := Rp.dp a v h.1 rx
      have qb := Rp.dp (.tup ts) u (by simpa [cmpT] using h.2.1) ry
      refine ⟨toP a, toPs ts, qa.1, qb.1, qa.2, qb.2, ?_, ?_⟩
      · rw [dep_P a h.1, deps_P ts h.2.1]; exact h.2.2
      · rw [toPs_any]
        exact PostE.ok s p rfl
    · exact p.elim
  · exact p.elim
theorem isB_inT {p : Bool} : IsB (fInT p) := by
  intro x y G d G' e
  unfold fInT at e
  split at e
  · split at e
    · cases e; exact ⟨_, rfl⟩
    · cases e
  · cases e
section
variable {Z : Zc} {a b : Expr} {da db : De} {pos : Pos}
theorem Ok.u65 {X : Cx} {W : WX} (ok : Ok Z X W) : X.A.units + 65 < cLine := by have := ok.rm.un; omega
theorem pd_inT (ha : PD Z a da) (hb : PD Z b db) (hm : behindInMarks .In b = false := by rfl) : PD Z (.Compare a [.In] [b] pos) (dBin (fInT false) da db) :=
  pd_cmp (fun X => rInTN X.K false) (fun X _ ok => op_inTN ok.u65) (fun _ _ ok => a_inT _ ok.Kg) ha hb hm
theorem pd_notInT (ha : PD Z a da) (hb : PD Z b db) (hm : behindInMarks .NotIn b = false := by rfl) : PD Z (.Compare a [.NotIn] [b] pos) (dBin (fInT true) da db) :=
  pd_cmp (fun X => rInTN X.K true) (fun X _ ok => op_notInTN ok.u65) (fun _ _ ok => a_inT _ ok.Kg) ha hb hm
theorem pdt_inT (ha : PD Z a da) (hb : PD Z b db) (hm : behindInMarks .In b = false := by rfl) : PDT Z (.Compare a [.In] [b] pos) (dBin (fInT false) da db) :=
  pdt_cmp (fun X => rInTN X.K false) (fun X _ ok => op_inTN ok.u65) (fun _ _ ok => a_inT _ ok.Kg) isB_inT ha hb hm
theorem pdt_notInT (ha : PD Z a da) (hb : PD Z b db) (hm : behindInMarks .NotIn b = false := by rfl) : PDT Z (.Compare a [.NotIn] [b] pos) (dBin (fInT true) da db) :=
  pdt_cmp (fun X => rInTN X.K true) (fun X _ ok => op_notInTN ok.u65) (fun _ _ ok => a_inT _ ok.Kg) isB_inT ha hb hm
end
/-! ### C() -/
section
variable {Z : Zc} {x : Str} {F : Fd} {k c : Nat} {f : Addr} {fd : FuncData} {ps : List Str} {dts : List T} {dvs : List V} {dus : List Value} {pos p : Pos}
theorem pd_make0 (hM : Mk Z.K (Z.ca c) f) (h : FnD Z.toZb k f fd ps F) (hk : k + 1 ≤ Z.k) (hm : Z.mg x = some (.ref (Z.ca c))) (hb : Binds Z.K fd ps dus) (hv : Vals dvs dus) (hd : Dfl Z.g.toGm0 dts dvs) (hn : dts.length + 1 = ps.length) (hg : GlS Z x := by rfl)
    (hdb : (x == ("__debug__" : Str)) = false := by decide) : PD Z (.Call (.Name x p) [] [] pos) (dMake c [] F dts) := fun X W ok => by
  refine ⟨fun pins s σ H Q I h0 => ?_⟩
  obtain ⟨mm, r, G, s0, sl, p⟩ := h0
  have hF : FnOk X.prog X.w X.K X.mg X.base (L2.CX X.prog X.w) k f fd ps (spD Z.g ps.length F) := by rw [ok.P, ok.w, ok.K, ok.mg, ok.base]; exact h.ok
  have hM' : Mk X.K (Z.ca c) f := by rw [ok.K]; exact hM
  have main : ∀ x0 dx, H x0 = none → H dx = none → dx ≠ x0 → spD Z.g ps.length F (.ref x0 :: ([] ++ dvs)) (upd (upd H dx (.own x0)) x0 (.ins (Z.ca c) dx [])) (fun v H2 => v = .non ∧ Q (.ref x0) H2) (fun cl d H' => W cl d σ H') := make_sp ok (ds := []) (vs := []) (by simpa using hn) hd s0 rfl p
  refine wpAny_Call_Name_kw (ld_glob I (show X.env.scope.names.lookup x = _ by rw [ok.sc]; exact hg) (by rw [ok.mg]; exact hm) ?_ hdb)
  have hB : Binds X.K fd ps dus := by rw [ok.K]; exact hb
  exact PySem.W.callWith_K0 I.kIn hM'.kp (run_makeSD (us := []) hM' hF (ok.rm.mono hk) hB hv (passAt ok.tk σ) I .nil main)
theorem pd_make0C (hM : Mk Z.K (Z.ca c) f) (h : Ca Z.toZb k f ps F dts) (hk : k + 1 ≤ Z.k) (hm : Z.mg x = some (.ref (Z.ca c))) (hn : dts.length + 1 = ps.length) (hg : GlS Z x := by rfl)
    (hdb : (x == ("__debug__" : Str)) = false := by decide) : PD Z (.Call (.Name x p) [] [] pos) (dMake c [] F dts) := by
  obtain ⟨fd, dvs, dus, h1, h2, h3, h4⟩ := h.ex
  exact pd_make0 hM h1 hk hm h2 h3 h4 hn hg hdb
end
/-! ### tuples of texts that stand in the module -/
def tupB (K : PySem.W.Frag) (a : Addr) (zs : List Str) : Bool := match K.lookup a with
  | some ⟨.type t, _, .seq its _, _⟩ => decide (t = "tuple") && (decide (its.size ≤ sizeLine) && He.relAll (zs.map V.str) its.toList)
  | _ => false
theorem tupB_ok {K : PySem.W.Frag} {a : Addr} {zs : List Str} (h : tupB K a zs = true) (H : Hp) : SqT K H a (zs.map V.str) := by
  unfold tupB at h
  split at h
  · rename_i t dd its n sl lk
    obtain ⟨h1, h⟩ := He.ba h
    obtain ⟨h2, h3⟩ := He.ba h
    have h1 := of_decide_eq_true h1
    subst h1
    exact .inr ⟨_, its, n, lk, rfl, rfl, of_decide_eq_true h2, He.relAll_ok h3⟩
  · cases h
theorem rps_strs {g : Gm0} {B : Addr → Prop} {H : Hp} : ∀ {zs : List Str}, (∀ z ∈ zs, okS z) → Rps g B H (zs.map T.str) (zs.map V.str)
  | [], _ => rfl
  | z :: zs, h => ⟨.str z, zs.map V.str, rfl, ⟨rfl, h z (.head _)⟩, rps_strs fun y hy => h y (.tail _ hy)⟩
theorem tup_rp {g : Gm0} {a : Addr} {zs : List Str} (h : tupB g.K a zs = true) (ho : ∀ z ∈ zs, okS z) (B : Addr → Prop) (H : Hp) : Rp g B H (.tup (zs.map T.str)) (.ref a) := ⟨a, zs.map V.str, rfl, tupB_ok h H, rps_strs ho⟩
/-- a default of a def that is such a tuple -/
theorem dfl_cons {g : Gm0} {t : T} {v : V} {ts : List T} {vs : List V} (h : ∀ B H, Rp g B H t v) (r : Dfl g ts vs) : Dfl g (t :: ts) (v :: vs) := fun B H => ⟨v, vs, rfl, h B H, r B H⟩
section
variable {Z : Zc} {x : Str} {pos : Pos}
theorem pd_gT {a : Addr} {zs : List Str} (hm : Z.mg x = some (.ref a)) (h : tupB Z.K a zs = true) (ho : ∀ z ∈ zs, okS z := by decide +kernel) (hg : Z.sc.names.lookup x = some .globalImplicit := by rfl) (hd : (x == ("__debug__" : Str)) = false := by decide) : PD Z (.Name x pos) (dC (.tup (zs.map T.str))) := fun X W ok => by
  refine peI (pe_glob (v := .ref a) (u := .ref a) (show X.env.scope.names.lookup x = _ by rw [ok.sc]; exact hg) (by rw [ok.mg]; exact hm) rfl hd) fun σ H Q ⟨m, r, G, s, sl, p⟩ => PostE.ok (d := .t (.tup (zs.map T.str))) s p (tup_rp (g := Z.g.toGm0) h ho _ _)
end
/-! ### list(range(e)) -/
def fRgL : D → Hs → Re
  | .t (.int n), G => if 0 ≤ n ∧ n ≤ 16777216 then .ok (.t (.lst ((List.range n.toNat).map fun i => T.int (i : Nat)))) G else .stuck
  | _, _ => .stuck
theorem rps_rg {g : Gm0} {B : Addr → Prop} {H : Hp} {f : Nat → Int} : ∀ (l : List Nat), Rps g B H (l.map fun i => T.int (f i)) (l.map fun i => V.int (f i))
  | [] => rfl
  | i :: l => ⟨_, _, rfl, rfl, rps_rg l⟩
section
variable {Z : Zc} {e : Expr} {d : De} {p pos p2 pos2 : Pos}
theorem pd_lstRg (hm : Z.mg "list" = none) (hm2 : Z.mg "range" = none) (h : PD Z e d) (hg : GlS Z "list" := by rfl) (hg2 : GlS Z "range" := by rfl) (he : ∀ env, starEach [e] env = (false, eval e env) :: starEach [] env := by intro _; rfl) (he2 : ∀ env, starEach [Expr.Call (.Name "range" p2) [e] [] pos2] env = (false, eval (.Call (.Name "range" p2) [e] [] pos2) env) :: starEach [] env := by intro _; rfl) : PD Z (.Call (.Name "list" p) [.Call (.Name "range" p2) [e] [] pos2] [] pos) (dUn fRgL d) := fun X W ok => by
  refine peI (pe_listRg ok.calm (show X.env.scope.names.lookup _ = _ by rw [ok.sc]; exact hg) (by rw [ok.mg]; exact hm) (prg_1 (show X.env.scope.names.lookup _ = _ by rw [ok.sc]; exact hg2) (by rw [ok.mg]; exact hm2) (h X W ok) (he _)) (he2 _)) fun σ H Q ⟨m, r, G, s, sl, p⟩ => ?_
  refine tI_bind s sl p fun x G1 v m1 H1 e1 x1 s1 sl1 rv p1 => ?_
  unfold fRgL at p1
  split at p1
  · rename_i n
    split at p1
    · rename_i hz
      cases rv
      refine ⟨n, rfl, RgOk.of_le (by omega) hz.2 (by omega) hz.1, fun q hq => ?_⟩
      have hl : (rgV 0 n).length ≤ sizeLine := by rw [rgV_length]; have : sizeLine = 16777216 := rfl; omega
      refine p1 (.ref q) m1 _ (Ex.new hq) (s1.new hq hl) ⟨q, _, rfl, .here upd_same (s1.notBd hq), ?_⟩
      have e : rgV 0 n = (List.range n.toNat).map fun i => V.int (((i : Nat) : Int)) := by unfold rgV; simp
      rw [e]
      exact rps_rg _
    · exact p1.elim
  · exact p1.elim
end
/-! ### a def whose code object is known, as a callee -/
theorem code_of {K : PySem.W.Frag} {x qual : Str} {st : Stmt} {dvs : List V} {p : He.Defn} {fd : FuncData} (Fn : FnE K x qual st dvs (He.fAd K p) fd) : fd.code = .ref (He.cT K p).1 := by
  obtain ⟨oc, od, dV, kV, doc, pm, an, cdv, ct, osl, rfl, lk, hcd, _, _⟩ := Fn.ex
  obtain ⟨c, e⟩ := He.codeIn_ref hcd
  subst e
  have := He.codeOf_eq (p := p) (c := c) lk rfl
  show Value.ref c = Value.ref (He.codeOf K p)
  rw [this]
theorem ca_L {b : Zb} {x qual : Str} {st : Stmt} {p : He.Defn} {k : Nat} {ps : List Str} {F : Fd} (Fn : ∃ fd, FnE b.K x qual st [] (He.fAd b.K p) fd) (hF : ∀ fd, FnE b.K x qual st [] (He.fAd b.K p) fd → fd.code = .ref (He.cT b.K p).1 → FnD b k (He.fAd b.K p) fd ps F)
    (hbind : ∀ (kV doc pm : Value) (an : Option Addr) (cdv ct : Value) (us : List Value), us.length = ps.length → bindArgs (PySem.W.fnOf x qual (defArgs st) (defBody st) (defScope st) .none kV doc pm an cdv ct) ⟨us, []⟩ = pure (ps.zip us)) : Ca b k (He.fAd b.K p) ps F [] := by
  obtain ⟨fd, Fn⟩ := Fn
  exact ⟨fd, [], [], hF fd Fn (code_of Fn), Fn.bindsN hbind, .nil, dfl_nil⟩
/-! ### a Hook whose K holds the interpreter's statics, too -/
def asZ (g : Addr → Option Obj) (n : Nat) : List Addr := He.asD g n ++ [cStatics]
section
variable {n : Nat} {fa : List He.Fa} {fn : List He.DefD} {tf : List He.Defn} {ex : PySem.W.Frag → Bool}
def obsZ (n : Nat) (fa : List He.Fa) (fn : List He.DefD) (tf : List He.Defn) (ex : PySem.W.Frag → Bool) (g : Addr → Option Obj) : He.AlX :=
  let K := He.frT g (asZ g n)
  (He.obsT fa fn [] K, ex K && He.tabsB g tf K)
theorem says_at {w : World} {h : Heap} {as : List Addr} (e1 : He.obsT fa fn [] (He.frT h.get? as) = He.valT fn [] w) (e2 : (ex (He.frT h.get? as) && He.tabsB h.get? tf (He.frT h.get? as)) = true) : He.SaysX fa fn [] tf ex w h (He.frT h.get? as) := by
  obtain ⟨h1, h2⟩ := He.ba e2
  generalize hK : He.frT h.get? as = K at *
  have one : ∀ p ∈ tf, PySem.W.codeHdIn K (He.cT K p).1 (He.cT K p).2 = true ∧ ∃ o, h.get? (He.cT K p).2 = some o ∧ He.emptyTab o = true := by
    intro p hp
    have z := List.all_eq_true.mp h2 p hp
    obtain ⟨z1, z2⟩ := He.ba z
    split at z2
    · exact ⟨z1, _, by assumption, z2⟩
    · cases z2
  refine ⟨e1, h1, fun p hp => (one p hp).1, fun p hp => ?_, fun p hp => ?_⟩
  · obtain ⟨_, o, q, z⟩ := one p hp
    subst hK
    exact He.frT_none q z
  · obtain ⟨_, o, q, z⟩ := one p hp
    rw [q, He.emptyTab_eq z]
def hookZ (n : Nat) (fa : List He.Fa) (fn : List He.DefD) (tf : List He.Defn) (ex : PySem.W.Frag → Bool) : PySem.W.Hook where
  α := He.AlX
  obs := fun s => obsZ n fa fn tf ex s.heap.get?
  val := fun w => He.valX fn [] w
  says := fun w h => ∃ K : PySem.W.Frag, K.In h ∧ He.SaysX fa fn [] tf ex w h K
  of := fun _ _ e => ⟨_, He.frT_in, says_at (congrArg (fun z : He.AlX => z.1) e) (congrArg (fun z : He.AlX => z.2) e)⟩
  keeps := fun _ _ _ ⟨K, hK, c⟩ k => ⟨K, PySem.W.Frag.In.keeps hK k, ⟨c.t, c.more, c.hd, c.out, fun p hp => k _ _ (c.empty p hp)⟩⟩
theorem obsZ_eq {g : Addr → Option Obj} {s : Shared} (h : ∀ a, g a = s.heap.get? a) : obsZ n fa fn tf ex g = (hookZ n fa fn tf ex).obs s := by
  have e : g = s.heap.get? := funext h
  rw [e] <;> rfl
end
end BL

set_option Elab.async false
set_option linter.all false
set_option maxRecDepth 100000
set_option maxHeartbeats 1000000
namespace BL
open PySem L2
section
variable {Q : D → Hs → Prop} {E : XP} {N : NP} {R : TP} {B C : NP} {X : XP} {d x y z : D} {G : Hs} {r : Ev}
/-! ### more steps -/
theorem f_neg {i : Int} (h : Q (.t (.int (-i))) G) : Wp (fNeg (.t (.int i)) G) Q E := by with_unfolding_all exact h
theorem s_raise1 {c : Nat} {ns : List Str} {a : De} (h : Wp (a r G) (fun x G1 => X c ns.reverse [x] G1) X) : Ws (dRaise c ns [a] r G) N R B C X := by
  unfold dRaise
  rw [ws_thn, wp_args]
  refine h.mono (fun x G1 h => ?_) fun _ _ _ _ z => z
  rw [wp_args0, wp_exc]
  exact h
theorem s_raise2 {c : Nat} {ns : List Str} {a b : De} (h : Wp (a r G) (fun x G1 => Wp (b r G1) (fun y G2 => X c ns.reverse [y, x] G2) X) X) : Ws (dRaise c ns [a, b] r G) N R B C X := by
  unfold dRaise
  rw [ws_thn, wp_args]
  refine h.mono (fun x G1 h => ?_) fun _ _ _ _ z => z
  rw [wp_args]
  refine h.mono (fun y G2 h => ?_) fun _ _ _ _ z => z
  rw [wp_args0, wp_exc]
  exact h
theorem s_raise3 {c : Nat} {ns : List Str} {a b e : De} (h : Wp (a r G) (fun x G1 => Wp (b r G1) (fun y G2 => Wp (e r G2) (fun z G3 => X c ns.reverse [z, y, x] G3) X) X) X) : Ws (dRaise c ns [a, b, e] r G) N R B C X := by
  unfold dRaise
  rw [ws_thn, wp_args]
  refine h.mono (fun x G1 h => ?_) fun _ _ _ _ z => z
  rw [wp_args]
  refine h.mono (fun y G2 h => ?_) fun _ _ _ _ z => z
  rw [wp_args]
  refine h.mono (fun z G3 h => ?_) fun _ _ _ _ z => z
  rw [wp_args0, wp_exc]
  exact h
theorem e_fault {hs : List Hdl} {db : De} (h : Wp (db r G) (fun _ G' => Q (.t .non) G') (fun c ns ds G' => Wp (catchD c ns ds G' hs) Q E)) : Wp (dFault hs db r G) Q E := by
  unfold dFault
  cases e : db r G with
  | ok d G' => rw [e] at h; rw [wp_ok] at h; exact e_ok h
  | exc c ns ds G' => rw [e] at h; rw [wp_exc] at h; exact h
  | stuck => rw [e] at h; rw [wp_stuck] at h; exact h.elim
/-- a catch of plain fields: what is caught is told -/
theorem f_catch {hs : List Hdl} {c : Nat} {ns : List Str} {ds : List D} {t : T} (e : ∀ G, catchD c ns ds G hs = .ok (.t t) G) (h : Q (.t t) G) : Wp (catchD c ns ds G hs) Q E := by rw [e]; exact e_ok h
theorem s_two {i j : Nat} {a : De} {f : D → D → Ev} (hf : ∀ x y, (r.set i (some x)).set j (some y) = f x y) (h : Wp (a r G) (fun x G1 => ∃ u v, asT x = some [u, v] ∧ N (f u v) G1) X) : Ws (dTwo i j a r G) N R B C X := by
  unfold dTwo
  rw [ws_thn]
  refine h.mono (fun x G1 h => ?_) fun _ _ _ _ z => z
  obtain ⟨u, v, e, hN⟩ := h
  rw [e]
  simp only
  rw [hf, ws_nx]
  exact hN
theorem f_nnT (h : Q (.t (.bl false)) G) : Wp (fIsN true (.t .non) (.t .non) G) Q E := by with_unfolding_all exact h
theorem f_nnF (h : Q (.t (.bl true)) G) : Wp (fIsN false (.t .non) (.t .non) G) Q E := by with_unfolding_all exact h
theorem f_nonI {neg : Bool} {i : Int} (h : Q (.t (.bl neg)) G) : Wp (fIsN neg (.t (.int i)) (.t .non) G) Q E := by with_unfolding_all exact h
theorem f_nonS {neg : Bool} {i : Str} (h : Q (.t (.bl neg)) G) : Wp (fIsN neg (.t (.str i)) (.t .non) G) Q E := by with_unfolding_all exact h
theorem f_nonB {neg : Bool} {i : Bool} (h : Q (.t (.bl neg)) G) : Wp (fIsN neg (.t (.bl i)) (.t .non) G) Q E := by with_unfolding_all exact h
theorem f_nonT {neg : Bool} {i : List T} (h : Q (.t (.bl neg)) G) : Wp (fIsN neg (.t (.tup i)) (.t .non) G) Q E := by with_unfolding_all exact h
theorem f_rgL {n : Int} (h0 : 0 ≤ n) (h1 : n ≤ 16777216) (h : Q (.t (.lst ((List.range n.toNat).map fun i => T.int (i : Nat)))) G) : Wp (fRgL (.t (.int n)) G) Q E := by
  simp only [fRgL, h0, h1, and_self, if_true]; with_unfolding_all exact h
theorem f_pop {j : Nat} {es : List D} {i : Int} (h : G[j]? = some (.lst es)) (h0 : 0 ≤ i) (h1 : i < 2 ^ 63) (h2 : es[i.toNat]? = some y) (k : Q y (G.set j (.lst (es.eraseIdx i.toNat)))) : Wp (fPop (.loc j) [.t (.int i)] G) Q E := by
  have e : fPop (.loc j) [.t (.int i)] G = .ok y (G.set j (.lst (es.eraseIdx i.toNat))) := by simp only [fPop, h, h0, h1, and_self, if_true, h2]
  rw [e]; exact e_ok k
theorem f_ins {j : Nat} {es : List D} {i : Int} (h : G[j]? = some (.lst es)) (h3 : okIn j y = true) (h2 : es.length < 16777216) (h0 : 0 ≤ i) (h1 : i < 2 ^ 63) (k : Q (.t .non) (G.set j (.lst (es.take i.toNat ++ [y] ++ es.drop i.toNat)))) : Wp (fIns (.loc j) [.t (.int i), y] G) Q E := by
  have e : fIns (.loc j) [.t (.int i), y] G = .ok (.t .non) (G.set j (.lst (es.take i.toNat ++ [y] ++ es.drop i.toNat))) := by simp only [fIns, h, h0, h1, h2, h3, and_self, if_true]
  rw [e]; exact e_ok k
theorem f_app {i : Nat} {es : List D} {y : D} (h : G[i]? = some (.lst es)) (h1 : okIn i y = true) (h2 : es.length < 16777216) (k : Q (.t .non) (G.set i (.lst (es ++ [y])))) : Wp (fApp (.loc i) [y] G) Q E := by
  have e : fApp (.loc i) [y] G = .ok (.t .non) (G.set i (.lst (es ++ [y]))) := by simp only [fApp, h, h1, h2, and_self, if_true]
  rw [e]; exact e_ok k
theorem isL_loc {i : Nat} {es : List D} (h : G[i]? = some (.lst es)) : isL G (.loc i) = true := by simp [isL, asL, h]
theorem f_slL {ts : List T} {lo hi : Option Int} (h : Q (.t (.lst (cutA ts lo hi))) G) : Wp (fSl (.t (.lst ts)) lo hi G) Q E := by
  have e : fSl (.t (.lst ts)) lo hi G = .ok (.t (.lst (cutA ts lo hi))) G := by simp only [fSl, asL, plain_map]
  rw [e]; exact e_ok h
theorem f_slT {ts : List T} {lo hi : Option Int} (h : Q (.t (.tup (cutA ts lo hi))) G) : Wp (fSl (.t (.tup ts)) lo hi G) Q E := e_ok h
theorem f_min {i j : Int} (h : Q (.t (.int (if j < i then j else i))) G) : Wp (fMin [.t (.int i), .t (.int j)] G) Q E := e_ok h
theorem f_any {ds : List D} {bs : List Bool} (h1 : asL G d = some ds) (h2 : boolsT ds = some bs) (h : Q (.t (.bl (bs.any id))) G) : Wp (fAny [d] G) Q E := by
  simp only [fAny, h1, h2]; with_unfolding_all exact h
/-- any([.. for x in ..]) -/
theorem e_any {own : List Nat} {di : Di} {i : Nat} {elt : De} (p : D → Bool) (h : Wi (di r G) (fun its kp G1 => G1 = G ∧ kpOk kp G ∧ ∃ ds : List D, its = ds.map Im.one ∧ (∀ d ∈ ds, ∀ Q' : D → Hs → Prop, Q' (.t (.bl (p d))) G → Wp (elt ((wipeE r own).set i (some d)) G) Q' (fun _ _ _ _ => False)) ∧ Q (.t (.bl (ds.any p))) G) E) : Wp (dArgs [compRun own di (gN i) dYes elt kLst] fAny r G) Q E := by
  apply e_args1
  apply e_comp
  cases e : di r G with
  | stuck => rw [e] at h; with_unfolding_all exact h
  | exc c ns ds G1 => rw [e] at h; with_unfolding_all exact h
  | ok its kp G1 =>
    rw [e] at h
    simp only [Wi] at h ⊢
    obtain ⟨rfl, hk, ds, rfl, hs, hq⟩ := h
    refine c_map (f := fun d => .t (.bl (p d))) hk hs ?_
    have e1 : (ds.map fun d => D.t (.bl (p d))) = (ds.map fun d => T.bl (p d)).map D.t := by rw [List.map_map]; rfl
    rw [e1]
    refine k_lst (plain_map _) ?_
    have e2 : (ds.map fun d => T.bl (p d)).map D.t = (ds.map p).map fun b => D.t (.bl b) := by rw [List.map_map, List.map_map]; rfl
    refine f_any (ds := (ds.map fun d => T.bl (p d)).map D.t) rfl (by rw [e2]; exact bools_map _) ?_
    rw [List.any_map]
    exact hq
/-- x in t, t a tuple of data -/
theorem f_inT {neg : Bool} {x : T} {ts : List T} (h1 : cmpT x = true) (h2 : cmpTs ts = true) (h3 : dep x ≤ 64) (h : Q (.t (.bl (if neg then !ts.any (fun t => teq t x) else ts.any (fun t => teq t x)))) G) : Wp (fInT neg (.t x) (.t (.tup ts)) G) Q E := by
  have e : fInT neg (.t x) (.t (.tup ts)) G = .ok (.t (.bl (if neg then !ts.any (fun t => teq t x) else ts.any (fun t => teq t x)))) G := by
    simp only [fInT]
    rw [if_pos ⟨h1, h2, Nat.le_trans (Nat.min_le_right _ _) h3⟩]
  rw [e]; exact e_ok h
theorem f_inI {i : Int} {is : List Int} (h : asS G y = some (is.map dI)) (k : Q (.t (.bl (decide (i ∈ is)))) G) : Wp (fIn false (.t (.int i)) y G) Q E := by
  have e : plain (is.map dI) = some (is.map T.int) := by
    have := plain_map (is.map T.int)
    rw [List.map_map] at this
    exact this
  have e1 : flatTs (is.map T.int) = true := by
    clear h k e
    induction is with
    | nil => rfl
    | cons v is ih => simp [flatTs, flatT, ih]
  have e2 : (is.map T.int).any (fun t => teq t (.int i)) = decide (i ∈ is) := by
    clear h k e e1
    induction is with
    | nil => rfl
    | cons v is ih =>
      rw [List.map_cons, List.any_cons, ih, teqI, Bool.eq_iff_iff]
      simp only [Bool.or_eq_true, decide_eq_true_eq, List.mem_cons]
      constructor
      · rintro (h | h)
        · exact .inl h.symm
        · exact .inr h
      · rintro (h | h)
        · exact .inl h.symm
        · exact .inr h
  have e3 : fIn false (.t (.int i)) y G = .ok (.t (.bl (decide (i ∈ is)))) G := by
    cases y with
    | loc j => simp only [fIn, h, e, e1, e2, flatT, and_self, if_true, Bool.false_eq_true, if_false]
    | t u => cases u <;> first | (simp [asS, asT, asL] at h; done) | simp only [fIn, h, e, e1, e2, flatT, and_self, if_true, Bool.false_eq_true, if_false]
  rw [e3]; exact e_ok k
theorem cut_last {α : Type} (xs : List α) : cutA xs none (some (-1)) = xs.dropLast := by
  unfold cutA
  rw [HT.sIx_none]
  have e : HT.sIx xs.length xs.length (some (-1)) = xs.length - 1 := by
    unfold HT.sIx
    simp
    omega
  rw [e, List.dropLast_eq_take]
  simp
theorem map_inj {α β : Type} {f : α → β} (hf : ∀ a b, f a = f b → a = b) : ∀ {xs ys : List α}, xs.map f = ys.map f → xs = ys
  | [], [], _ => rfl
  | [], _ :: _, h => by simp at h
  | _ :: _, [], h => by simp at h
  | x :: xs, y :: ys, h => by
    simp only [List.map_cons, List.cons.injEq] at h
    rw [hf x y h.1, map_inj hf h.2]
theorem tupS_inj {xs ys : List Str} : T.tup (xs.map T.str) = T.tup (ys.map T.str) ↔ xs = ys := ⟨fun h => map_inj (fun a b h => by injection h) (T.tup.inj h), fun h => by rw [h]⟩
theorem dep_tupS (ws : List Str) : dep (.tup (ws.map T.str)) ≤ 64 := by
  show deps _ + 1 ≤ 64
  rw [dep_strs]; decide
theorem f_eqSame {a : T} (h1 : asD G x = some a) (h2 : asD G y = some a) (ha : noB a = true) (hd : dep a ≤ 64) (h : Q (.t (.bl true)) G) : Wp (fEq false x y G) Q E := by
  refine f_eqT h1 h2 ha ha hd (fun t ht => ?_)
  simp at ht; subst ht; exact h
theorem f_neSame {a : T} (h1 : asD G x = some a) (h2 : asD G y = some a) (ha : noB a = true) (hd : dep a ≤ 64) (h : Q (.t (.bl false)) G) : Wp (fEq true x y G) Q E := by
  refine f_eqT h1 h2 ha ha hd (fun t ht => ?_)
  simp at ht; subst ht; exact h
theorem f_eqO {c : Nat} {oth : List Nat} {neg : Bool} {F : Fd} (h1 : isObj' c G x = true) (h2 : okKd c oth (kind G y) = true) (h : Wp (F [x, y] G) (fun d G' => ∃ b, d = .t (.bl b) ∧ Q (.t (.bl (if neg then !b else b))) G') (fun _ _ _ _ => False)) : Wp (fEqO c oth neg F x y G) Q E := by
  unfold fEqO
  rw [if_pos (by rw [h1, h2]; rfl)]
  obtain ⟨d, G', e, b, rfl, hq⟩ := h.ex
  rw [e]
  exact e_ok hq
theorem f_lenO {c : Nat} {F : Fd} (h1 : isObj' c G x = true) (h : Wp (F [x] G) (fun d G' => ∃ n : Int, d = .t (.int n) ∧ 0 ≤ n ∧ n < 2 ^ 63 ∧ Q (.t (.int n)) G') (fun _ _ _ _ => False)) : Wp (fLenO c F [x] G) Q E := by
  obtain ⟨d, G', e, n, rfl, h2, h3, hq⟩ := h.ex
  have e2 : fLenO c F [x] G = .ok (.t (.int n)) G' := by simp only [fLenO, h1, if_true, e, okLen, h2, h3, and_self]
  rw [e2]
  exact e_ok hq
theorem isObjL {G : Hs} {i c : Nat} {fs : List (Str × D)} (h : G[i]? = some (.ins c fs)) : isObj' c G (.loc i) = true := by simp [isObj', h]
theorem noFldL {G : Hs} {i c : Nat} {m : Str} {fs : List (Str × D)} (h : G[i]? = some (.ins c fs)) (hn : (fs.map (·.1)).contains m = false) : noFld m G (.loc i) = true := by simp only [noFld, h, hn]; rfl
theorem takeAll {G : Hs} {o o' : O} : (G ++ [o]).take (G ++ [o']).length = G ++ [o] := List.take_of_length_le (by rw [List.length_append, List.length_append]; exact Nat.le_refl _)
/-- a for over an enumerate that changes nothing, by what is known ahead of the n-th item -/
theorem s_enumN {i j : Nat} {ds : List D} {kp : Kp} {b : Dst} (I : Nat → Ev → Prop) (h0 : I 0 r) (hk : kpOk kp G)
    (hs : ∀ (n : Nat) d r, ds[n]? = some d → I n r → Ws (b ((r.set i (some (.t (.int (n : Int))))).set j (some d)) G) (fun r' G' => I (n + 1) r' ∧ G' = G) R N (fun r' G' => I (n + 1) r' ∧ G' = G) X) (he : ∀ r, I ds.length r → N r G) :
    Ws (forLoop (gNN i j) b kp (enumIms ds) r G) N R B C X := by
  refine ws_loop (fun n r' G' => I n r' ∧ G' = G) ⟨h0, rfl⟩ (fun _ _ _ h => by rw [h.2]; with_unfolding_all exact hk) (fun n r' G' im e hI => ?_) (fun r' G' hI => by rw [enumIms_len] at hI; rw [hI.2]; with_unfolding_all exact he r' hI.1)
  obtain ⟨h1, rfl⟩ := hI
  obtain ⟨d, hd, rfl⟩ := enumIms_get e
  with_unfolding_all exact ⟨_, rfl, hs n d r' hd h1⟩
theorem frz_ins {G : Hs} {c : Nat} {fs : List (Str × D)} {ts : List T} (h : plain (fs.map (·.2)) = some ts) : frz (G ++ [.ins c fs]) (.loc G.length) = some (.obj c (fs.map (·.1)) ts) := by
  simp only [frz, gNew, h]
  rfl
theorem frz_at {G : Hs} {i : Nat} {ds : List D} {ts : List T} (hi : G[i]? = some (.lst ds)) (h : plain ds = some ts) : frz G (.loc i) = some (.lst ts) := by
  simp only [frz, hi, h]
  rfl
theorem popD_new {G : Hs} {n : Nat} {o : O} {t : T} (hn : n = G.length) (h : frz (G ++ [o]) (.loc n) = some t) : popD n (.loc n) (G ++ [o]) = some (.t t) := by
  unfold popD
  simp only [Nat.lt_irrefl, if_false]
  rw [h]; rfl
end
end BL

set_option Elab.async false
set_option linter.all false
set_option maxRecDepth 100000
set_option maxHeartbeats 2000000
namespace BL
open PySem L2

/-! ### what isinstance asks of an own error class, as one check -/
def xcB (K : PySem.W.Frag) (D : Addr) : Bool := L2.xfB K D && (decide (PySem.W.findIn K (.ref D) "__class__" = some (some (.builtin "object.__class__"))) && (decide (PySem.W.specialIn K (.builtin "object.__class__") "__get__" = some (some (.builtin "getset_descriptor.__get__"))) && (decide (PySem.W.takesIn K (.builtin "object.__class__") = some true) && decide (PySem.W.mroIn K D (.type "object") = some true))))
theorem xcB_ok {K : PySem.W.Frag} {D : Addr} (h : xcB K D = true) : L2.ExcC K D := by
  obtain ⟨h1, h⟩ := Bool.and_eq_true_iff.mp h
  obtain ⟨h2, h⟩ := Bool.and_eq_true_iff.mp h
  obtain ⟨h3, h⟩ := Bool.and_eq_true_iff.mp h
  obtain ⟨h4, h5⟩ := Bool.and_eq_true_iff.mp h
  have t := L2.xfB_ok h1
  exact ⟨t.ga, t.gg, t.exC, t.hdC, of_decide_eq_true h2, of_decide_eq_true h3, of_decide_eq_true h4, of_decide_eq_true h5⟩
/-! ### [*e, x] -/
def rowOf : D → Option (List T)
  | .t (.tup ts) => some ts
  | .t (.lst ts) => some ts
  | .t (.ftp ts) => some ts
  | _ => none
def fSnoc (ts : List T) : D → Hs → Re
  | .t u, G => if ts.length + 1 ≤ sizeLine then .ok (.t (.lst (ts ++ [u]))) G else .stuck
  | _, _ => .stuck
def dSnoc (da db : De) : De := fun r G => (da r G).bind fun x G1 => match rowOf x with
  | some ts => (db r G1).bind fun y G2 => fSnoc ts y G2
  | none => .stuck
theorem rowOf_rp {g : Gm} {m : Nat → Addr} {n b : Nat} {H : Hp} {x : D} {v : V} {ts : List T} (r : RpD g m n b H x v) (e : rowOf x = some ts) : ∃ a xs, v = .ref a ∧ (SqT g.K H a xs ∨ SqL g.K H a xs) ∧ Rps g.toGm0 (Bv g m n) H ts xs := by
  cases x with
  | loc i => cases e
  | t t =>
    cases t with
    | tup us => cases e; obtain ⟨a, xs, e, h, q⟩ := r; exact ⟨a, xs, e, .inl h, q⟩
    | lst us => cases e; obtain ⟨a, xs, e, h, q⟩ := r; exact ⟨a, xs, e, .inr h.sq, q⟩
    | ftp us => cases e; obtain ⟨a, ob, xs, e, h, _, _, q⟩ := r; exact ⟨a, xs, e, .inl (.inl (.inr ⟨ob, h⟩)), q⟩
    | _ => cases e
theorem Rps.app {g : Gm0} {B : Addr → Prop} {H : Hp} : ∀ {ts us : List T} {xs ys : List V}, Rps g B H ts xs → Rps g B H us ys → Rps g B H (ts ++ us) (xs ++ ys)
  | [], _, _, _, h, k => by cases h; exact k
  | t :: ts, _, _, _, ⟨v, vs, e, h, r⟩, k => ⟨v, vs ++ _, by rw [e]; rfl, h, Rps.app r k⟩
/-! a value that was made besides changes nothing -/
theorem PostE.ex {g : Gm} {W : WX} {m m1 : Nat → Addr} {G : Hs} {H H1 : Hp} {σ : St} {Q : VK} {e : Re} (x : Ex m G.length H m1 G.length H1) (s : SR g m1 H1 G) (p : PostE g W m G.length H σ Q e) : PostE g W m1 G.length H1 σ Q e := by
  cases e with
  | ok d G' => exact fun v m' H' x' s' rv => p v m' H' (x.trans s x') s' rv
  | exc c ns ds G' => exact fun da m' H' xs x' s' hd nb rs => p da m' H' xs (x.trans s x') s' hd nb rs
  | stuck => exact p
section
variable {Z : Zc} {a b : Expr} {da db : De} {p pos pos2 : Pos}
theorem pd_snoc (ha : PD Z a da) (hb : PD Z b db) (hs : ∀ env, starEach [.Starred a p, b] env = (true, eval a env) :: starEach [b] env := by intro _; rfl) (hs2 : ∀ env, starEach [b] env = (false, eval b env) :: starEach [] env := by intro _; rfl) : PD Z (.List [.Starred a p, b] pos) (dSnoc da db) := fun X W ok => by
  refine peI (pe_lst (StX.pa_star (ha X W ok) (pa_cons (hb X W ok) pa_nil (hs2 _)) (hs _))) fun σ H Q h => ?_
  obtain ⟨m, r, G, s, sl, q⟩ := h
  refine tI_bind s sl q fun x G1 v m1 H1 e1 x1 s1 sl1 rv p1 => ?_
  cases e : rowOf x with
  | none => rw [e] at p1; exact p1.elim
  | some ts =>
    rw [e] at p1
    obtain ⟨l, xs, ev, hl, rs⟩ := rowOf_rp rv e
    refine ⟨l, xs, ev, by rw [show X.K = Z.g.K from ok.K]; exact hl, ?_⟩
    refine tI_bind s1 sl1 p1 fun y G2 u m2 H2 e2 x2 s2 sl2 ru p2 => ?_
    unfold fSnoc at p2
    split at p2
    · rename_i t
      split at p2
      · rename_i hz
        have r2 := Rps.app (Rps.ex x2 s1 _ _ rs) (show Rps Z.g.toGm0 _ H2 [t] [u] from ⟨u, [], rfl, ru, rfl⟩)
        have hz' : (xs ++ [u]).length ≤ sizeLine := by rw [← r2.length, List.length_append]; exact hz
        exact ⟨hz', fun q hq => p2 _ _ _ (Ex.new hq) (s2.new hq hz') ⟨q, _, rfl, .here upd_same (s2.notBd hq), Rps.ex (Ex.new hq) s2 _ _ r2⟩⟩
      · exact p2.elim
    · exact p2.elim
/-! ### [e] * n -/
def fRep : D → D → Hs → Re
  | .t u, .t (.int k), G => if 0 ≤ k ∧ k ≤ 16777216 then .ok (.t (.lst (List.replicate k.toNat u))) G else .stuck
  | _, _, _ => .stuck
theorem flat_one {α : Type} (v : α) (n : Nat) : (List.replicate n [v]).flatten = List.replicate n v := by
  induction n with
  | zero => rfl
  | succ n ih => rw [List.replicate_succ, List.flatten_cons, ih, List.replicate_succ]; rfl
theorem rps_rep {g : Gm0} {B : Addr → Prop} {H : Hp} {t : T} {v : V} (h : Rp g B H t v) : ∀ n : Nat, Rps g B H (List.replicate n t) (List.replicate n v)
  | 0 => rfl
  | n + 1 => ⟨v, _, rfl, h, rps_rep h n⟩
theorem pd_rep (ha : PD Z a da) (hb : PD Z b db) (hs : ∀ env, starEach [a] env = (false, eval a env) :: starEach [] env := by intro _; rfl) : PD Z (.BinOp (.List [a] pos2) .Mult b pos) (dBin fRep da db) := fun X W ok => by
  refine peI (pe_op op_rep (pe_lst (pa_cons (ha X W ok) pa_nil (hs _))) (hb X W ok)) fun σ H Q h => ?_
  obtain ⟨m, r, G, s, sl, q⟩ := h
  refine tI_bind s sl q fun x G1 v m1 H1 e1 x1 s1 sl1 rv p1 => ?_
  have h1 : ([v] : List V).length ≤ sizeLine := by show 1 ≤ 16777216; decide
  refine ⟨h1, fun l hl => ?_⟩
  have xn : Ex m1 G1.length H1 m1 G1.length (upd H1 l (.lst [v])) := Ex.new hl
  have sn : SR Z.g m1 (upd H1 l (.lst [v])) G1 := s1.new (o := .lst [v]) hl h1
  refine tI_bind sn (Sl.ex xn s1 sl1) (PostE.ex xn sn p1) fun y G2 u m2 H2 e2 x2 s2 sl2 ru p2 => ?_
  unfold fRep at p2
  split at p2
  · rename_i t k
    split at p2
    · rename_i hz
      cases ru
      have hk : H2 l = some (.lst [v]) := x2.kp l _ upd_same (fun z => s1.notBd hl (.inl z)) (by simp)
      have hn : (List.replicate k.toNat v).length ≤ sizeLine := by rw [List.length_replicate]; show _ ≤ 16777216; omega
      refine ⟨l, k, [v], rfl, rfl, hk, by omega, by omega, by show 1 * k.toNat ≤ 16777216; omega, fun q hq => ?_⟩
      rw [flat_one]
      have rv2 : Rp Z.g.toGm0 (Bv Z.g m2 G2.length) H2 t v := Rp.ex x2 sn _ _ (Rp.ex xn s1 _ _ rv)
      exact p2 _ _ _ (Ex.new hq) (s2.new hq hn) ⟨q, _, rfl, .here upd_same (s2.notBd hq), Rps.ex (Ex.new hq) s2 _ _ (rps_rep rv2 _)⟩
    · exact p2.elim
  · exact p2.elim
end
/-! ### read backwards -/
section
variable {Q : D → Hs → Prop} {E : XP} {N : NP} {R : TP} {B C : NP} {X : XP} {d x y z : D} {G : Hs} {r : Ev}
theorem e_snoc {a b : De} (h : Wp (a r G) (fun x G1 => ∃ ts, rowOf x = some ts ∧ Wp (b r G1) (fun y G2 => Wp (fSnoc ts y G2) Q E) E) E) : Wp (dSnoc a b r G) Q E := by
  unfold dSnoc
  rw [wp_bind]
  refine h.mono (fun x G1 h => ?_) fun _ _ _ _ z => z
  obtain ⟨ts, e, h⟩ := h
  rw [e]
  simp only
  rw [wp_bind]
  exact h
theorem f_snoc {ts : List T} {u : T} (hz : ts.length + 1 ≤ sizeLine) (h : Q (.t (.lst (ts ++ [u]))) G) : Wp (fSnoc ts (.t u) G) Q E := by
  simp only [fSnoc, hz, if_true]; exact e_ok h
theorem f_rep {u : T} {k : Int} (h1 : 0 ≤ k) (h2 : k ≤ 16777216) (h : Q (.t (.lst (List.replicate k.toNat u))) G) : Wp (fRep (.t u) (.t (.int k)) G) Q E := by
  simp only [fRep, h1, h2, and_self, if_true]; exact e_ok h
theorem e_met {tag : Str} {hs : List Hdl} {db : De} (h : Wp (db r G) (fun d G' => ∃ t, d = .t t ∧ Q (.t (.tup [.str tag, t])) G') (fun c ns ds G' => Wp (catchD c ns ds G' hs) Q E)) : Wp (dMet tag hs db r G) Q E := by
  unfold dMet
  cases e : db r G with
  | ok d G' =>
    rw [e] at h
    rw [wp_ok] at h
    obtain ⟨t, rfl, h⟩ := h
    exact e_ok h
  | exc c ns ds G' => rw [e] at h; rw [wp_exc] at h; exact h
  | stuck => rw [e] at h; rw [wp_stuck] at h; exact h.elim
/-- a comprehension over an enumerate, by an invariant on what was made -/
theorem c_enum {i j : Nat} {elt : De} {kp : Kp} {ds : List D} (I : Nat → List D → Hs → Prop) {K : List D → Hs → Prop} (h0 : I 0 [] G) (hk : ∀ i acc G, I i acc G → kpOk kp G)
    (hs : ∀ (n : Nat) acc G d, ds[n]? = some d → I n acc G → Wp (elt ((r.set i (some (.t (.int (n : Int))))).set j (some d)) G) (fun d G' => I (n + 1) (acc ++ [d]) G') (fun _ _ _ _ => False)) (he : ∀ acc G, I ds.length acc G → K acc G) :
    Wc (compLoop (gNN i j) dYes elt kp r (enumIms ds) [] G) K := by
  have hl : (enumIms ds).length = ds.length := by unfold enumIms; simp
  have := comp_loop (r := r) (td := gNN i j) (its := enumIms ds) (elt := elt) (kp := kp) I (K := K) h0 hk (fun n acc G im e hI => by
    have e' : ∃ d, ds[n]? = some d ∧ im = .two (.t (.int (n : Nat))) d := by
      unfold enumIms at e
      rw [List.getElem?_zipWith] at e
      cases hd : ds[n]? with
      | none => rw [hd] at e; cases (List.range ds.length)[n]? <;> simp at e
      | some d =>
        have hn : n < ds.length := (List.getElem?_eq_some_iff.mp hd).1
        rw [hd, List.getElem?_range hn] at e
        simp at e
        exact ⟨d, rfl, e.symm⟩
    obtain ⟨d, hd, rfl⟩ := e'
    with_unfolding_all exact ⟨_, rfl, hs n acc G d hd hI⟩) (fun acc G hI => he acc G (by rw [hl] at hI; exact hI))
  cases e2 : compLoop (gNN i j) dYes elt kp r (enumIms ds) [] G with
  | ok ds G2 => rw [e2] at this; with_unfolding_all exact this
  | stuck => rw [e2] at this; with_unfolding_all exact this
end
/-! ### a value is equal to itself -/
mutual
theorem eqv_self : ∀ t : T, cmpT t = true → PyData.eqv (toP t) (toP t) = true
  | .non, _ => by simp [toP, PyData.eqv]
  | .bl _, _ => by simp [toP, PyData.eqv]
  | .int _, _ => by simp [toP, PyData.eqv]
  | .str _, _ => by simp [toP, PyData.eqv]
  | .tup ts, h => by simp only [toP, PyData.eqv]; exact eqvs_self ts (by simpa [cmpT] using h)
  | .ftp ts, h => by simp only [toP, PyData.eqv]; exact eqvs_self ts (by simpa [cmpT] using h)
  | .cls _, h => by simp [cmpT] at h
  | .lst ts, h => by simp only [toP, PyData.eqv]; exact eqvs_self ts (by simpa [cmpT] using h)
  | .dk _ _, h => by simp [cmpT] at h
  | .obj _ _ _, h => by simp [cmpT] at h
theorem eqvs_self : ∀ t : List T, cmpTs t = true → PyData.eqvAll (toPs t) (toPs t) = true
  | [], _ => by simp [toPs, PyData.eqvAll]
  | t :: ts, h => by
    simp only [cmpTs, Bool.and_eq_true] at h
    simp only [toPs, PyData.eqvAll, eqv_self t h.1, eqvs_self ts h.2, Bool.and_self]
end
section
variable {Q : D → Hs → Prop} {E : XP} {G : Hs}
theorem f_self {neg : Bool} {a : T} (hc : cmpT a = true) (hd : dep a ≤ 64) (h : Q (.t (.bl (!neg))) G) : Wp (fEq neg (.t a) (.t a) G) Q E := by
  refine f_eq rfl rfl ?_ ?_
  · unfold eqOk
    rw [hc]
    simp only [Bool.and_self, Bool.true_and, decide_eq_true_eq]
    omega
  · have e : teq a a = true := eqv_self a hc
    rw [e]
    cases neg <;> exact h
end
end BL

set_option Elab.async false
set_option linter.all false
set_option maxRecDepth 100000
set_option maxHeartbeats 2000000
namespace BL
open PySem PySem.Spec PyProof.Rows L2

/-! ### zip(x, y), each a tuple or a list -/
/-- a tuple (t) or a list -/
def SqK (t : Bool) (K : PySem.W.Frag) (H : Hp) (a : Addr) (xs : List V) : Prop := if t = true then SqT K H a xs else SqL K H a xs
def ItrK (t : Bool) (h : Heap) (it l : Addr) (i : Nat) : Prop := if t = true then h.IsTupleIter it l i else h.IsListIter it l i
def SeqK (t : Bool) (h : Heap) (l : Addr) (vs : Array Value) : Prop := if t = true then h.IsTuple l vs else h.IsList l vs
theorem draws_K {prog : Program} {w : World} {A : Around} (hh : A.handled = none) (it l : Addr) (hne : l ≠ it) (vs : Array Value) : ∀ t : Bool, Draws prog w A it [it, l] vs.size (fun i v => vs[i]? = some v) (fun i h => ItrK t h it l i ∧ SeqK t h l vs)
  | true => Draws.tuple hh it l hne vs
  | false => Draws.list hh it l hne vs
theorem seq_of {X : Cx} {pins : List (Addr × Obj)} {s : Shared} {σ : L2.St} {H : Hp} {a : Addr} {xs : List V} (I : L2.Inv X pins σ H s) : ∀ {t : Bool}, SqK t X.K H a xs → ∃ its : List Value, Vals xs its ∧ SeqK t s.heap a its.toArray ∧ a < s.heap.objs.size
  | true, h => by
    obtain ⟨its, rv, p, _⟩ := I.tuple h
    have q : s.heap.IsTuple a its.toArray := p
    obtain ⟨o, ho, _⟩ := id q
    exact ⟨its, rv, q, Heap.lt_size ho⟩
  | false, h => by
    obtain ⟨its, rv, p, _⟩ := I.list h
    exact ⟨its, rv, p.isList, p.lt⟩
theorem seqK_inj {X : Cx} {pins : List (Addr × Obj)} {s : Shared} {σ : L2.St} {H : Hp} {a : Addr} {xs ys : List V} (I : L2.Inv X pins σ H s) : ∀ {t : Bool}, SqK t X.K H a xs → SqK t X.K H a ys → xs = ys
  | true, h, k => I.tuple_inj h k
  | false, h, k => I.list_inj h k
theorem itrK_at {h h' : Heap} {it l : Addr} {i : Nat} (k : ∀ o, h.get? it = some o → h'.get? it = some o) : ∀ {t : Bool}, ItrK t h it l i → ItrK t h' it l i
  | true, x => Heap.IsTupleIter.at (show h.IsTupleIter it l i from x) fun o q => k o q
  | false, x => Heap.IsListIter.at (show h.IsListIter it l i from x) fun o q => k o q
theorem itrK_obj {h : Heap} {it l : Addr} {i : Nat} : ∀ {t : Bool}, ItrK t h it l i → ∃ o, h.get? it = some o ∧ ∀ v, o.data ≠ .cell v
  | true, x => by obtain ⟨o, e, _, d⟩ := (show h.IsTupleIter it l i from x); exact ⟨o, e, fun v q => by rw [d] at q; cases q⟩
  | false, x => by obtain ⟨o, e, _, d⟩ := (show h.IsListIter it l i from x); exact ⟨o, e, fun v q => by rw [d] at q; cases q⟩
def ItzG (K : PySem.W.Frag) (t u : Bool) (a b : Addr) : It where
  go := fun i H => ∃ (xs ys : List V) (x y : V), SqK t K H a xs ∧ SqK u K H b ys ∧ xs[i]? = some x ∧ ys[i]? = some y
  yld := fun i H v H' => ∃ T x y, v = .ref T ∧ H T = none ∧ H' = upd H T (.tup [x, y]) ∧ (∀ xs, SqK t K H a xs → xs[i]? = some x) ∧ ∀ ys, SqK u K H b ys → ys[i]? = some y
  stop := fun i H => ∃ xs ys : List V, SqK t K H a xs ∧ SqK u K H b ys ∧ i ≤ xs.length ∧ i ≤ ys.length ∧ (i = xs.length ∨ i = ys.length)
theorem turn_zipG {P : Program} {w : World} {K : PySem.W.Frag} {elts : List Expr} {kk : Nat} {tpos : Pos} {a b z TI TO i1 i2 : Addr} {t u : Bool} (S : ZipSep2 z TI TO i1 i2 [i1, a] [i2, b]) (n1 : a ≠ i1) (n2 : b ≠ i2) :
    Turn P w K (.Tuple elts kk tpos) (ItzG K t u a b) [z, TI, TO, i1, i2] z (fun i h => PySem.IsZip h z TI TO .none ∧ IsTupOf2 h TI (.ref i1) (.ref i2) ∧ (∃ x y, IsTupOf2 h TO x y) ∧ ItrK t h i1 a i ∧ ItrK u h i2 b i) where
  mem := by simp
  obj := fun i h st c hc => by
    obtain ⟨hz, hTI, ⟨x, y, hTO⟩, q1, q2⟩ := st
    have hc' : c = z ∨ c = TI ∨ c = TO ∨ c = i1 ∨ c = i2 := by simpa using hc
    rcases hc' with rfl | rfl | rfl | rfl | rfl
    · exact ⟨_, hz, fun v q => nomatch q⟩
    · exact ⟨_, hTI, fun v q => nomatch q⟩
    · exact ⟨_, hTO, fun v q => nomatch q⟩
    · exact itrK_obj q1
    · exact itrK_obj q2
  keep := fun i h h' st k => by
    obtain ⟨hz, hTI, ⟨x, y, hTO⟩, q1, q2⟩ := st
    exact ⟨k z (by simp) _ hz, k TI (by simp) _ hTI, ⟨x, y, k TO (by simp) _ hTO⟩, itrK_at (fun o q => k i1 (by simp) o q) q1, itrK_at (fun o q => k i2 (by simp) o q) q2⟩
  item := by
    intro X hP hw hK hc i pins s σ H E I hf st hgo
    subst hP hw hK
    obtain ⟨hz, hTI, ⟨x0, y0, hTO⟩, q1, q2⟩ := st
    obtain ⟨xs, ys, x, y, sx, sy, hx, hy⟩ := hgo
    obtain ⟨ws, rw1, p1, _⟩ := seq_of I sx
    obtain ⟨us, rw2, p2, _⟩ := seq_of I sy
    obtain ⟨v1, hv1, rv1⟩ := rw1.get hx
    obtain ⟨v2, hv2, rv2⟩ := rw2.get hy
    have hzl : z < s.heap.objs.size := Heap.lt_size hz
    have hh : X.A.in1.handled = none := I.ok.hd hc
    refine wpAny_pyNext_zipD2_item S (draws_K hh i1 a n1 ws.toArray t) (draws_K hh i2 b n2 us.toArray u) hz hTI hTO ⟨q1, p1⟩ ⟨q2, p2⟩ (by have := getLt hv1; simpa using this) (by have := getLt hv2; simpa using this) fun y1 y2 h' tk e1 e2 z' TO' s1 s2 hT hsz hk => ?_
    have ey1 : y1 = v1 := by simpa [hv1] using e1.symm
    have ey2 : y2 = v2 := by simpa [hv2] using e2.symm
    subst ey1; subst ey2
    refine ⟨_, rfl, wpAny_letOwnedTupleGo_zip (s := { s with heap := h', toks := tk }) z' fun h2 z2 sb => ?_⟩
    have hT2 : h2.get? s.heap.objs.size = some { cls := .type "tuple", data := .seq #[y1, y2] } := (sb.2 _ (Nat.ne_of_gt hzl)).trans hT
    have new : ObjOk X.prog X.w (upd H s.heap.objs.size (.tup [x, y])) h2 s.heap.objs.size (.tup [x, y]) := ⟨by show 2 ≤ sizeLine; decide, [y1, y2], .cons rv1 (.cons rv2 .nil), ⟨_, hT2, rfl, _, rfl⟩⟩
    have kk : ∀ c o, c ∉ [z, TI, TO, i1, i2] → s.heap.get? c = some o → h2.get? c = some o := fun c o hn q => (sb.2 c fun e => hn (by simp [e])).trans (hk c o (fun e => hn (by simp [e])) (fun e => hn (by simp [e])) (fun e => hn (by simp [e])) (fun e => hn (by simp [e])) q)
    have I1 : L2.Inv X pins σ (upd H s.heap.objs.size (.tup [x, y])) { s with heap := h2, toks := tk } := I.turnedNew (ch := [z, TI, TO, i1, i2]) kk hf (Nat.le_refl _) new
    refine ⟨.ref s.heap.objs.size, _, I1, rfl, ⟨_, x, y, rfl, I.hok.fresh (Nat.le_refl _), rfl, fun l hl => by rw [seqK_inj I hl sx]; exact hx, fun l hl => by rw [seqK_inj I hl sy]; exact hy⟩, ⟨z2, ?_, ⟨y1, y2, ?_⟩, ?_, ?_⟩, fun c hcm => ?_⟩
    · exact (sb.2 _ S.TIz).trans (hk _ _ S.TIz S.TITO S.TIi1 S.TIi2 hTI)
    · exact (sb.2 _ S.TOz).trans TO'
    · exact itrK_at (fun o q => (sb.2 _ S.zi1.symm).trans q) s1.1
    · exact itrK_at (fun o q => (sb.2 _ S.zi2.symm).trans q) s2.1
    · have hc' : c = z ∨ c = TI ∨ c = TO ∨ c = i1 ∨ c = i2 := by simpa using hcm
      have hlt : c < s.heap.objs.size := by
        rcases hc' with rfl | rfl | rfl | rfl | rfl
        · exact hzl
        · exact Heap.lt_size hTI
        · exact Heap.lt_size hTO
        · obtain ⟨_, e, _⟩ := itrK_obj q1; exact Heap.lt_size e
        · obtain ⟨_, e, _⟩ := itrK_obj q2; exact Heap.lt_size e
      rw [upd_ne (Nat.ne_of_lt hlt)]
      exact (hf c hcm).1
  done := by
    intro X hP hw hK hc i pins s σ H E I hf st hst
    subst hP hw hK
    obtain ⟨hz, hTI, ⟨x0, y0, hTO⟩, q1, q2⟩ := st
    obtain ⟨xs, ys, sx, sy, l1, l2, hend⟩ := hst
    obtain ⟨ws, rw1, p1, _⟩ := seq_of I sx
    obtain ⟨us, rw2, p2, _⟩ := seq_of I sy
    have e1 := rw1.length
    have e2 := rw2.length
    have hh : X.A.in1.handled = none := I.ok.hd hc
    refine wpAny_pyNext_zipD2_end S (draws_K hh i1 a n1 ws.toArray t) (draws_K hh i2 b n2 us.toArray u) hz hTI hTO ⟨q1, p1⟩ ⟨q2, p2⟩ (by simp; omega) (by simp; omega) (by simp; omega) fun h' tk hk => ⟨rfl, ?_⟩
    exact I.turnedL (ch := [z, TI, TO, i1, i2]) (fun c o hn q => hk c o (fun e => hn (by simp [e])) (fun e => hn (by simp [e])) (fun e => hn (by simp [e])) (fun e => hn (by simp [e])) q) hf
  self := fun A i s Q E st h => wpAny_pyIter_zip st.1 h
theorem begins_K (l : Addr) (vs : Array Value) : ∀ t : Bool, ∃ o, Begins (.ref l) o (fun h => SeqK t h l vs) ∧ ∀ (h : Heap) (it : Addr), h.get? it = some o → ItrK t h it l 0
  | true => ⟨_, begins_tuple l vs, fun h it e => (show h.IsTupleIter it l 0 from ⟨_, e, rfl, rfl⟩)⟩
  | false => ⟨_, begins_list l vs, fun h it e => (show h.IsListIter it l 0 from ⟨_, e, rfl, rfl⟩)⟩
def iZipG (K : PySem.W.Frag) (ta : TA) : TI := fun σ H R => ta σ H fun vs H1 => ∃ t u a b xs ys, vs = [.ref a, .ref b] ∧ SqK t K H1 a xs ∧ SqK u K H1 b ys ∧ R (ItzG K t u a b) H1
theorem pi_zipG {X : Cx} {e e2 : Expr} {ta : TA} {p pos tpos : Pos} {elts : List Expr} {kk : Nat} (hg : Gl X "zip") (hm : X.mg "zip" = none) (ha : PA X [e, e2] ta)
    (hs : starEach [e, e2] X.env = (false, eval e X.env) :: starEach [e2] X.env := by rfl) (hpl : (backTo pos (starEach [e2] X.env)).any (·.1) = false := by rfl) :
    PI X (.Tuple elts kk tpos) (.Call (.Name "zip" p) [e, e2] [] pos) (iZipG X.K ta) := by
  refine ⟨fun pins s σ H R I h => ?_⟩
  refine Call_ (ld_blt I hg hm PyProof.Rows.boot_zip (PyProof.Rows.callWith_type1 (thn (ha.run pos pins s σ H _ I h) fun us s1 ⟨vs, H1, I1, r1, q1⟩ => ?_) hs hpl))
  obtain ⟨t, u, a, b, xs, ys, ex, sx, sy, q⟩ := q1
  subst ex
  obtain ⟨u1, u2, rfl, ra, rb⟩ := vals2 r1
  obtain rfl : u1 = Value.ref a := ra
  obtain rfl : u2 = Value.ref b := rb
  obtain ⟨ws, _, p1, la⟩ := seq_of I1 sx
  obtain ⟨zs, _, p2, lb⟩ := seq_of I1 sy
  obtain ⟨o1, B1, k1⟩ := begins_K a ws.toArray t
  obtain ⟨o2, B2, k2⟩ := begins_K b zs.toArray u
  refine zip_begins2 B1 B2 p1 p2 fun h' hz hTI hTO g1 g2 hsz hk => wpAny_pyIter_zip hz ?_
  have I2 : L2.Inv X pins σ H1 { s1 with heap := h' } := I1.kept (t' := s1.toks) hk
  have S := zip_sep2 (N := s1.heap.objs.size) (fp1 := [a]) (fp2 := [b]) (by simpa using la) (by simpa using lb)
  refine ⟨_, _, _, _, H1, rfl, I2, turn_zipG (t := t) (u := u) S (Nat.ne_of_lt la) (Nat.ne_of_lt (Nat.lt_succ_of_lt lb)), ⟨hz, hTI, ⟨_, _, hTO⟩, k1 _ _ g1, k2 _ _ g2⟩, fun c hc => ?_, q⟩
  have hle : s1.heap.objs.size ≤ c := by
    have hc' : c = s1.heap.objs.size + 4 ∨ c = s1.heap.objs.size + 2 ∨ c = s1.heap.objs.size + 3 ∨ c = s1.heap.objs.size ∨ c = s1.heap.objs.size + 1 := by simpa using hc
    rcases hc' with rfl | rfl | rfl | rfl | rfl
    · exact Nat.le_add_right _ _
    · exact Nat.le_add_right _ _
    · exact Nat.le_add_right _ _
    · exact Nat.le_refl _
    · exact Nat.le_add_right _ _
  exact I1.fpOk hle (I1.hok.fresh hle)
/-! ### .. of plain rows -/
def zipIms (xs ys : List T) : List Im := List.zipWith (fun a b => Im.two (.t a) (.t b)) xs ys
def iZip (da db : De) : Di := fun r G => (da r G).itr fun x G1 => match rowOf x with
  | none => .stuck
  | some xs => (db r G1).itr fun y G2 => match rowOf y with
    | none => .stuck
    | some ys => .ok (zipIms xs ys) none G2
theorem zipIms_len {xs ys : List T} : (zipIms xs ys).length = min xs.length ys.length := by simp [zipIms]
theorem zipIms_get {xs ys : List T} {i : Nat} {im : Im} (h : (zipIms xs ys)[i]? = some im) : ∃ a b, xs[i]? = some a ∧ ys[i]? = some b ∧ im = .two (.t a) (.t b) := by
  unfold zipIms at h
  rw [List.getElem?_zipWith] at h
  cases e1 : xs[i]? with
  | none => rw [e1] at h; simp at h
  | some a =>
    cases e2 : ys[i]? with
    | none => rw [e1, e2] at h; simp at h
    | some b => rw [e1, e2] at h; simp at h; exact ⟨a, b, rfl, rfl, h.symm⟩
theorem rowK_rp {g : Gm} {m : Nat → Addr} {n b : Nat} {H : Hp} {x : D} {v : V} {ts : List T} (r : RpD g m n b H x v) (e : rowOf x = some ts) : ∃ t a xs, v = .ref a ∧ SqK t g.K H a xs ∧ Rps g.toGm0 (Bv g m n) H ts xs := by
  obtain ⟨a, xs, ev, h | h, q⟩ := rowOf_rp r e
  · exact ⟨true, a, xs, ev, h, q⟩
  · exact ⟨false, a, xs, ev, h, q⟩
/-- the kind of a plain row is fixed -/
def tupOf : D → Bool
  | .t (.tup _) => true
  | .t (.ftp _) => true
  | _ => false
theorem rowK_rp' {g : Gm} {m : Nat → Addr} {n b : Nat} {H : Hp} {x : D} {v : V} {ts : List T} (r : RpD g m n b H x v) (e : rowOf x = some ts) : ∃ a xs, v = .ref a ∧ SqK (tupOf x) g.K H a xs ∧ Rps g.toGm0 (Bv g m n) H ts xs := by
  cases x with
  | loc i => cases e
  | t t =>
    cases t with
    | tup us => cases e; obtain ⟨a, xs, e, h, q⟩ := r; exact ⟨a, xs, e, h, q⟩
    | lst us => cases e; obtain ⟨a, xs, e, h, q⟩ := r; exact ⟨a, xs, e, h.sq, q⟩
    | ftp us => cases e; obtain ⟨a, ob, xs, e, h, _, _, q⟩ := r; exact ⟨a, xs, e, .inl (.inr ⟨ob, h⟩), q⟩
    | _ => cases e
theorem wk_zip {g : Gm} {m : Nat → Addr} {H : Hp} {G : Hs} (s : SR g m H G) {x y : D} {a b : Addr} {xs ys : List T} (rx : RpD g m G.length G.length H x (.ref a)) (ry : RpD g m G.length G.length H y (.ref b)) (ex : rowOf x = some xs) (ey : rowOf y = some ys) : Wk g m G.length H (ItzG g.K (tupOf x) (tupOf y) a b) (zipIms xs ys) none := by
  intro rv i m2 H2 G2 hrv s2 x2 k2
  obtain ⟨a', vs, ea, h1, r1⟩ := rowK_rp' (RpD.mv (Exr.mv x2 s hrv) x2.le (Nat.le_refl _) rx) ex
  obtain ⟨b', us, eb, h2, r2⟩ := rowK_rp' (RpD.mv (Exr.mv x2 s hrv) x2.le (Nat.le_refl _) ry) ey
  cases ea
  cases eb
  have l1 := r1.length
  have l2 := r2.length
  refine ⟨fun hi => ⟨vs, us, h1, h2, ?_⟩, fun im hi => ?_⟩
  · rw [zipIms_len] at hi
    omega
  · obtain ⟨ta, tb, e1, e2, rfl⟩ := zipIms_get hi
    obtain ⟨v, ev, q1⟩ := r1.get e1
    obtain ⟨u, eu, q2⟩ := r2.get e2
    refine ⟨⟨vs, us, v, u, h1, h2, ev, eu⟩, fun w H3 ⟨T, x', y', ew, hT, e3, f1, f2⟩ => ?_⟩
    have z1 := f1 vs h1
    have z2 := f2 us h2
    rw [ev] at z1; cases z1
    rw [eu] at z2; cases z2
    subst ew; subst e3
    exact pair_new (a := .t ta) (b := .t tb) s2 hT q1 q2
section
variable {Z : Zc} {e e2 : Expr} {da db : De} {p pos tpos : Pos} {elts : List Expr} {kk : Nat}
theorem pdi_zip (hm : Z.mg "zip" = none) (ha : PD Z e da) (hb : PD Z e2 db) (hg : GlS Z "zip" := by rfl) (hs : ∀ env, starEach [e, e2] env = (false, eval e env) :: starEach [e2] env := by intro _; rfl) (hs2 : ∀ env, starEach [e2] env = (false, eval e2 env) :: starEach [] env := by intro _; rfl) (hpl : ∀ env, (backTo pos (starEach [e2] env)).any (·.1) = false := by intro _; rfl) :
    PDI Z (.Tuple elts kk tpos) (.Call (.Name "zip" p) [e, e2] [] pos) (iZip da db) := fun X W ok => by
  refine piI (pi_zipG (show X.env.scope.names.lookup _ = _ by rw [ok.sc]; exact hg) (by rw [ok.mg]; exact hm) (pa_cons (ha X W ok) (pa_cons (hb X W ok) pa_nil (hs2 _)) (hs _)) (hs _) (hpl _)) fun σ H R ⟨m, r, G, s, sl, q⟩ => ?_
  refine tII_bind s sl q fun x G1 v m1 H1 e1 x1 s1 sl1 rv p1 => ?_
  cases ex : rowOf x with
  | none => rw [ex] at p1; exact p1.elim
  | some xs =>
    rw [ex] at p1
    simp only at p1
    refine tII_bind s1 sl1 p1 fun y G2 u m2 H2 e2 x2 s2 sl2 ru p2 => ?_
    cases ey : rowOf y with
    | none => rw [ey] at p2; exact p2.elim
    | some ys =>
      rw [ey] at p2
      have rv2 := RpD.ex x2 s1 x2.le (Nat.le_refl _) rv
      obtain ⟨a, vs, ea, h1, r1⟩ := rowK_rp' rv2 ex
      obtain ⟨b, us, eb, h2, r2⟩ := rowK_rp' ru ey
      subst ea; subst eb
      rw [ok.Kg]
      refine ⟨tupOf x, tupOf y, a, b, vs, us, rfl, h1, h2, p2 _ m2 H2 Ex.refl s2 (fun _ _ z => nomatch z) ?_ (wk_zip s2 rv2 ru ex ey)⟩
      rw [zipIms_len, r1.length]
      have : vs.length ≤ sizeLine := by
        cases hx : tupOf x with
        | true => rw [hx] at h1; exact s2.szT h1
        | false => rw [hx] at h1; exact s2.szL h1
      omega
end
end BL

set_option Elab.async false
set_option linter.all false
set_option maxRecDepth 100000
set_option maxHeartbeats 2000000
namespace BL
open PySem PySem.Spec PyProof.Rows L2

/-! ### tuple(x): a tuple that is known to have no dict -/
theorem call_tupF {X : Cx} : CallR X (.type "tuple") (fun xs H Q => ∃ p ys, xs = [.ref p] ∧ ((SqL X.K H p ys ∧ ∀ l ob, H l = none → ob.dict = none → Q (.ref l) (upd H l (.frz ob (.tup ys)))) ∨ (SqT X.K H p ys ∧ Q (.ref p) H))) := by
  intro pins s σ H xs us Q I r h
  obtain ⟨p, ys, rfl, h⟩ := h
  obtain ⟨u, rfl, rx⟩ := vals1 r
  cases rx
  rcases h with ⟨hq, q⟩ | ⟨hq, q⟩
  · obtain ⟨its, rv, pl, hz⟩ := I.list hq
    have hn := rv.length
    refine call_tuple_list pl.isList (fun hp kp => ?_) (by simp only [List.size_toArray] <;> omega)
    have J : L2.Inv X pins σ H { s with heap := hp } := I.kept (t' := s.toks) kp
    have J2 : L2.Inv X pins σ (upd H hp.objs.size (.frz { cls := .type "tuple", data := .seq its.toArray } (.tup ys))) { s with heap := hp.push { cls := .type "tuple", data := .seq its.toArray } } :=
      J.laid (t' := s.toks) (fun b o e => Heap.get?_push_of_some _ e) (Nat.le_refl _) (show ObjOk X.prog X.w _ _ _ (.frz _ (.tup ys)) from ⟨Heap.get?_push_size _ rfl, hz, its, rv, IsTup.new _ _⟩)
    exact ⟨.ref hp.objs.size, _, J2, rfl, q _ _ (J.hok.fresh (Nat.le_refl _)) rfl⟩
  · obtain ⟨its, rv, pl, _⟩ := I.tuple hq
    exact call_tuple_same pl ⟨.ref p, H, I, rfl, q⟩
def fTupF : List D → Hs → Re
  | [.t (.ftp ts)], G => .ok (.t (.ftp ts)) G
  | [d], G => (match asL G d with
    | some ds => (match plain ds with
      | some ts => .ok (.t (.ftp ts)) G
      | none => .stuck)
    | none => .stuck)
  | _, _ => .stuck
theorem c_tupF {g : Gm} (K : PySem.W.Frag) (hK : K = g.K) : CaA g (fun xs H Q => ∃ p ys, xs = [.ref p] ∧ ((SqL K H p ys ∧ ∀ l ob, H l = none → ob.dict = none → Q (.ref l) (upd H l (.frz ob (.tup ys)))) ∨ (SqT K H p ys ∧ Q (.ref p) H))) fTupF := by
  subst hK
  intro W m H G σ Q ds vs s rs p
  unfold fTupF at p
  split at p
  · obtain ⟨v, rfl, r⟩ := rpds1 rs
    obtain ⟨a, ob, xs, rfl, h, hd, nb, q⟩ := r
    exact ⟨a, xs, rfl, .inr ⟨.inl (.inr ⟨ob, h⟩), PostE.ok s p ⟨a, ob, xs, rfl, h, hd, nb, q⟩⟩⟩
  · split at p
    · split at p
      · rename_i ds' e _ ts e2
        obtain ⟨v, rfl, r⟩ := rpds1 rs
        obtain ⟨a, xs, rfl, h, r'⟩ := asL_rp s r e
        have := plain_some e2
        subst this
        refine ⟨a, xs, rfl, .inl ⟨h, fun l ob hl hd => ?_⟩⟩
        have hz : szOk (.frz ob (.tup xs)) := s.szL h
        exact p _ _ _ (Ex.new hl) (s.new hl hz) ⟨l, ob, xs, rfl, upd_same, hd, s.notBd hl, Rps.ex (Ex.new hl) s _ _ r'.toT⟩
      · exact p.elim
    · exact p.elim
  · exact p.elim
section
variable {Z : Zc} {e : Expr} {d : De} {p pos : Pos}
theorem pd_tupF (hm : Z.mg "tuple" = none) (h : PD Z e d) (hg : GlS Z "tuple" := by rfl) (he : ∀ env, starEach [e] env = (false, eval e env) :: starEach [] env := by intro _; rfl) : PD Z (.Call (.Name "tuple" p) [e] [] pos) (dArgs [d] fTupF) :=
  pd_callTy (fun X => _) (fun _ _ _ => call_tupF) (fun X W ok => c_tupF X.K ok.Kg) hg hm (by decide +kernel) (pda_cons h pda_nil he) he (fun _ => rfl) (by decide) (by decide)
end
/-! ### t.index(x), a tuple of words that has no dict -/
def fzT (x : V) (H : Hp) : Prop := ∃ a ob xs, x = .ref a ∧ H a = some (.frz ob (.tup xs)) ∧ ob.dict = none
def tTix (q : V → List V → Hp → VK → Prop) (to : TE) (t : TA) : TE := fun σ H Q => to σ H fun x H1 => fzT x H1 ∧ t σ H1 fun xs H2 => q x xs H2 Q
theorem pe_tix {X : Cx} {o e : Expr} {es : List Expr} {to : TE} {t : TA} {apos cpos : Pos} {q : V → List V → Hp → VK → Prop} (hm : MtR X "tuple.index" q) (ho : PE X o to) (ha : PA X (e :: es) t)
    (hbase : attributeBase o "index" X.env (eval o X.env) = eval o X.env)
    (hfew : ((backTo cpos (starEach (e :: es) X.env)).all (fun x => !x.1) && (backToKw cpos (keywordEach [] X.env)).all (fun x => x.1.isSome) && decide ((e :: es).length + ([] : List Keyword).length + (if ([] : List Keyword).isEmpty then 0 else 1) < 30)) = true)
    (hline : (apos.endLine == cpos.line) = true) (hs : starEach (e :: es) X.env = (false, eval e X.env) :: starEach es X.env) (hplain : (backTo cpos (starEach es X.env)).any (·.1) = false) :
    PE X (.Call (.Attribute o "index" apos) (e :: es) [] cpos) (tTix q to t) := by
  refine ⟨fun pins s σ H Q I h => wpAny_Call_method_late hbase hfew hline rfl (thn (ho.run pins s σ H _ I h) fun v s1 ⟨x, H1, J, rx, ⟨a, ob, xs, ea, hf, hd⟩, z⟩ => ?_)⟩
  subst ea
  cases rx
  have ok := J.hok a _ hf
  obtain ⟨g1, _, its, _, u, g2, g3, _⟩ := ok
  refine ⟨"tuple", "tuple.index", PySem.F.plainAttrs_tuple, PySem.F.slot_tuple_index, PySem.F.type_tuple_index, ⟨u, g2, g3⟩, fun b eb => by cases eb; exact ⟨ob, g1, hd⟩, ?_⟩
  have hA := ha.run cpos pins s1 σ H1 _ J z
  rw [hs] at hA ⊢
  refine Calls.callWith_builtin (by show (false || (backTo cpos (starEach es X.env)).any (·.1)) = false; rw [hplain] <;> rfl) (Calls.evalArgs_plain ?_)
  exact thn hA fun us s2 ⟨vs, H2, J2, r2, q2⟩ => hm pins s2 σ H2 (.ref a) vs (.ref a) us Q J2 rfl r2 q2
def isTp (G : Hs) : D → Bool
  | .t (.ftp _) => true
  | _ => false
def fTix : D → List D → Hs → Re
  | .t (.ftp ts), [.t (.str z)], G => (match strsT (ts.map D.t) with
    | some ys => (match ys.findIdx? (· == z) with
      | some j => .ok (.t (.int (j : Nat))) G
      | none => .stuck)
    | none => .stuck)
  | _, _, _ => .stuck
theorem strs_rps {g : Gm0} {B : Addr → Prop} {H : Hp} : ∀ {ts : List T} {ys : List Str} {xs : List V}, strsT (ts.map D.t) = some ys → Rps g B H ts xs → xs = ys.map V.str
  | [], ys, xs, e, r => by cases e; cases r; rfl
  | t :: ts, ys, xs, e, ⟨v, ws, e1, h, r⟩ => by
    cases t with
    | str w =>
      simp only [List.map_cons, strsT] at e
      cases e2 : strsT (ts.map D.t) with
      | none => rw [e2] at e; cases e
      | some zs =>
        rw [e2] at e
        cases e
        rw [e1, strs_rps e2 r, show v = .str w from h.1]
        rfl
    | _ => cases e
theorem a_tix {g : Gm} (K : PySem.W.Frag) (hK : K = g.K) {W : WX} {m : Nat → Addr} {H : Hp} {G : Hs} {σ : L2.St} {Q : VK} {x : D} {ds : List D} {v : V} {vs : List V} (s : SR g m H G) (rx : RpD g m G.length G.length H x v) (rs : RpDs g m G.length G.length H ds vs) (p : PostE g W m G.length H σ Q (fTix x ds G)) :
    ∃ p, ∃ ys : List Str, ∃ z j, v = .ref p ∧ vs = [.str z] ∧ SqT K H p (ys.map V.str) ∧ ys[j]? = some z ∧ (∀ m, m < j → ys[m]? ≠ some z) ∧ Q (.int (j : Nat)) H := by
  subst hK
  unfold fTix at p
  split at p
  · rename_i ts z
    obtain ⟨a, ob, xs, rfl, h, _, _, q⟩ := rx
    obtain ⟨u, rfl, ru⟩ := rpds1 rs
    obtain ⟨rfl, _⟩ := ru
    cases e : strsT (ts.map D.t) with
    | none => rw [e] at p; exact p.elim
    | some ys =>
      rw [e] at p
      simp only at p
      cases e2 : ys.findIdx? (· == z) with
      | none => rw [e2] at p; exact p.elim
      | some j =>
        rw [e2] at p
        obtain ⟨hj, h1, h2⟩ := List.findIdx?_eq_some_iff_getElem.mp e2
        rw [strs_rps e q] at h
        refine ⟨a, ys, z, j, rfl, rfl, .inl (.inr ⟨ob, h⟩), ?_, fun n hn => ?_, PostE.ok s p rfl⟩
        · rw [List.getElem?_eq_getElem hj]
          simpa using h1
        · rw [List.getElem?_eq_getElem (Nat.lt_trans hn hj)]
          have := h2 n hn
          simpa using this
  · exact p.elim
section
variable {Z : Zc} {o e : Expr} {do_ de : De} {apos cpos : Pos}
theorem pd_tix (ho : PD Z o do_) (he : PD Z e de) (hbase : ∀ env, attributeBase o "index" env (eval o env) = eval o env := by intro _; rfl)
    (hline : (apos.endLine == cpos.line) = true := by rfl) (hs : ∀ env, starEach [e] env = (false, eval e env) :: starEach [] env := by intro _; rfl) : PD Z (.Call (.Attribute o "index" apos) [e] [] cpos) (dBm isTp fTix do_ [de]) := fun X W ok => by
  refine peI (pe_tix mt_tup_index (ho X W ok) (pda_cons he pda_nil hs X W ok) (hbase _) (by rw [hs]; rfl) hline (hs _) rfl) fun σ H Q ⟨m, r, G, s, sl, p⟩ => ?_
  refine tI_bind s sl p fun x G1 v m1 H1 e1 x1 s1 sl1 rv p1 => ?_
  split at p1
  · rename_i hk
    refine ⟨?_, ?_⟩
    · cases x with
      | loc i => cases hk
      | t t =>
        cases t with
        | ftp ts => obtain ⟨a, ob, xs, rfl, h, hd, _⟩ := rv; exact ⟨a, ob, xs, rfl, h, hd⟩
        | _ => cases hk
    · refine tA_of s1 sl1 p1 fun ds G2 vs m2 H2 x2 s2 sl2 rs hl p2 => ?_
      exact a_tix X.K ok.Kg s2 (RpD.ex x2 s1 x2.le (Nat.le_refl _) rv) rs p2
  · exact p1.elim
end
/-! ### min(xs), max(xs) of a list of ints -/
def intsT : List D → Option (List Int)
  | [] => some []
  | .t (.int i) :: ds => (match intsT ds with
    | some is => some (i :: is)
    | none => none)
  | _ => none
theorem ints_map : ∀ is : List Int, intsT (is.map dI) = some is
  | [] => rfl
  | i :: is => by simp [intsT, ints_map is]
theorem ints_rp {g : Gm} {m : Nat → Addr} {n b : Nat} {H : Hp} : ∀ {ds : List D} {is : List Int} {xs : List V}, intsT ds = some is → RpDs g m n b H ds xs → xs = is.map V.int
  | [], is, xs, e, r => by cases e; cases r; rfl
  | d :: ds, is, xs, e, ⟨v, ws, e1, h, r⟩ => by
    cases d with
    | loc i => cases e
    | t t =>
      cases t with
      | int i =>
        simp only [intsT] at e
        cases e2 : intsT ds with
        | none => rw [e2] at e; cases e
        | some js => rw [e2] at e; cases e; rw [e1, ints_rp e2 r, show v = .int i from h]; rfl
      | _ => cases e
def leastI : List Int → Option Int
  | [] => none
  | a :: l => some (l.foldl (fun x y => if y < x then y else x) a)
def mostI : List Int → Option Int
  | [] => none
  | a :: l => some (l.foldl (fun x y => if x < y then y else x) a)
theorem foldLe : ∀ (l : List Int) (a : Int), ((l.foldl (fun x y => if y < x then y else x) a) = a ∨ (l.foldl (fun x y => if y < x then y else x) a) ∈ l) ∧ (l.foldl (fun x y => if y < x then y else x) a) ≤ a ∧ ∀ y ∈ l, (l.foldl (fun x y => if y < x then y else x) a) ≤ y
  | [], a => ⟨.inl rfl, Int.le_refl _, by simp⟩
  | b :: l, a => by
    obtain ⟨h1, h2, h3⟩ := foldLe l (if b < a then b else a)
    simp only [List.foldl_cons]
    generalize l.foldl (fun x y => if y < x then y else x) (if b < a then b else a) = c at h1 h2 h3
    split at h1
    · rename_i hb
      rw [if_pos hb] at h2
      refine ⟨.inr (h1.elim (fun z => by rw [z]; exact .head _) fun z => .tail _ z), by omega, fun y hy => ?_⟩
      rcases List.mem_cons.mp hy with rfl | hy
      · exact h2
      · exact h3 y hy
    · rename_i hb
      rw [if_neg hb] at h2
      refine ⟨h1.elim .inl fun z => .inr (.tail _ z), h2, fun y hy => ?_⟩
      rcases List.mem_cons.mp hy with rfl | hy
      · omega
      · exact h3 y hy
theorem foldGe : ∀ (l : List Int) (a : Int), ((l.foldl (fun x y => if x < y then y else x) a) = a ∨ (l.foldl (fun x y => if x < y then y else x) a) ∈ l) ∧ a ≤ (l.foldl (fun x y => if x < y then y else x) a) ∧ ∀ y ∈ l, y ≤ (l.foldl (fun x y => if x < y then y else x) a)
  | [], a => ⟨.inl rfl, Int.le_refl _, by simp⟩
  | b :: l, a => by
    obtain ⟨h1, h2, h3⟩ := foldGe l (if a < b then b else a)
    simp only [List.foldl_cons]
    generalize l.foldl (fun x y => if x < y then y else x) (if a < b then b else a) = c at h1 h2 h3
    split at h1
    · rename_i hb
      rw [if_pos hb] at h2
      refine ⟨.inr (h1.elim (fun z => by rw [z]; exact .head _) fun z => .tail _ z), by omega, fun y hy => ?_⟩
      rcases List.mem_cons.mp hy with rfl | hy
      · exact h2
      · exact h3 y hy
    · rename_i hb
      rw [if_neg hb] at h2
      refine ⟨h1.elim .inl fun z => .inr (.tail _ z), h2, fun y hy => ?_⟩
      rcases List.mem_cons.mp hy with rfl | hy
      · omega
      · exact h3 y hy
theorem leastI_ok {l : List Int} {m : Int} (h : leastI l = some m) : m ∈ l ∧ ∀ y ∈ l, m ≤ y := by
  cases l with
  | nil => cases h
  | cons a l =>
    obtain ⟨h1, h2, h3⟩ := foldLe l a
    cases h
    refine ⟨h1.elim (fun z => by rw [z]; exact .head _) fun z => .tail _ z, fun y hy => ?_⟩
    rcases List.mem_cons.mp hy with rfl | hy
    · exact h2
    · exact h3 y hy
theorem mostI_ok {l : List Int} {m : Int} (h : mostI l = some m) : m ∈ l ∧ ∀ y ∈ l, y ≤ m := by
  cases l with
  | nil => cases h
  | cons a l =>
    obtain ⟨h1, h2, h3⟩ := foldGe l a
    cases h
    refine ⟨h1.elim (fun z => by rw [z]; exact .head _) fun z => .tail _ z, fun y hy => ?_⟩
    rcases List.mem_cons.mp hy with rfl | hy
    · exact h2
    · exact h3 y hy
def fMinL : List D → Hs → Re
  | [d], G => (match asL G d with
    | some ds => (match intsT ds with
      | some is => (match leastI is with
        | some m => .ok (.t (.int m)) G
        | none => .stuck)
      | none => .stuck)
    | none => .stuck)
  | _, _ => .stuck
def fMaxL : List D → Hs → Re
  | [d], G => (match asL G d with
    | some ds => (match intsT ds with
      | some is => (match mostI is with
        | some m => .ok (.t (.int m)) G
        | none => .stuck)
      | none => .stuck)
    | none => .stuck)
  | _, _ => .stuck
theorem c_minL {g : Gm} (K : PySem.W.Frag) (hK : K = g.K) : CaA g (rMin K) fMinL := by
  subst hK
  intro W m H G σ Q ds vs s rs p
  unfold fMinL at p
  split at p
  · split at p
    · split at p
      · split at p
        · rename_i ds' e _ is e2 _ k e3
          obtain ⟨v, rfl, r⟩ := rpds1 rs
          obtain ⟨a, xs, rfl, h, r'⟩ := asL_rp s r e
          rw [ints_rp e2 r'] at h
          obtain ⟨h1, h2⟩ := leastI_ok e3
          refine ⟨a, is, rfl, h, List.length_pos_of_mem h1, fun n hn hl => ?_⟩
          have : n = k := Int.le_antisymm (hl k h1) (h2 n hn)
          subst this
          exact PostE.ok s p rfl
        · exact p.elim
      · exact p.elim
    · exact p.elim
  · exact p.elim
theorem c_maxL {g : Gm} (K : PySem.W.Frag) (hK : K = g.K) : CaA g (rMax K) fMaxL := by
  subst hK
  intro W m H G σ Q ds vs s rs p
  unfold fMaxL at p
  split at p
  · split at p
    · split at p
      · split at p
        · rename_i ds' e _ is e2 _ k e3
          obtain ⟨v, rfl, r⟩ := rpds1 rs
          obtain ⟨a, xs, rfl, h, r'⟩ := asL_rp s r e
          rw [ints_rp e2 r'] at h
          obtain ⟨h1, h2⟩ := mostI_ok e3
          refine ⟨a, is, rfl, h, List.length_pos_of_mem h1, fun n hn hl => ?_⟩
          have : n = k := Int.le_antisymm (h2 n hn) (hl k h1)
          subst this
          exact PostE.ok s p rfl
        · exact p.elim
      · exact p.elim
    · exact p.elim
  · exact p.elim
section
variable {Z : Zc} {e : Expr} {d : De} {p pos : Pos}
theorem pd_minL (hm : Z.mg "min" = none) (h : PD Z e d) (hg : GlS Z "min" := by rfl) (he : ∀ env, starEach [e] env = (false, eval e env) :: starEach [] env := by intro _; rfl) : PD Z (.Call (.Name "min" p) [e] [] pos) (dArgs [d] fMinL) :=
  pd_callB (fun X => _) (fun _ _ ok => cr_min ok.calm) (fun X W ok => c_minL X.K ok.Kg) hg hm (by decide +kernel) (pda_cons h pda_nil he) he (fun _ => rfl) (by decide) (by decide)
theorem pd_maxL (hm : Z.mg "max" = none) (h : PD Z e d) (hg : GlS Z "max" := by rfl) (he : ∀ env, starEach [e] env = (false, eval e env) :: starEach [] env := by intro _; rfl) : PD Z (.Call (.Name "max" p) [e] [] pos) (dArgs [d] fMaxL) :=
  pd_callB (fun X => _) (fun _ _ ok => cr_max ok.calm) (fun X W ok => c_maxL X.K ok.Kg) hg hm (by decide +kernel) (pda_cons h pda_nil he) he (fun _ => rfl) (by decide) (by decide)
end
/-! ### read backwards -/
section
variable {Q : D → Hs → Prop} {E : XP} {G : Hs} {d : D} {r : Ev}
theorem f_tupF {ts : List T} (h : Q (.t (.ftp ts)) G) : Wp (fTupF [.t (.ftp ts)] G) Q E := e_ok h
theorem f_tupL {ts : List T} (h : Q (.t (.ftp ts)) G) : Wp (fTupF [.t (.lst ts)] G) Q E := by
  simp only [fTupF, asL, plain_map]; with_unfolding_all exact h
theorem f_minL {is : List Int} {m : Int} (h1 : asL G d = some (is.map dI)) (h2 : leastI is = some m) (h : Q (.t (.int m)) G) : Wp (fMinL [d] G) Q E := by
  simp only [fMinL, h1, ints_map, h2]; with_unfolding_all exact h
theorem f_maxL {is : List Int} {m : Int} (h1 : asL G d = some (is.map dI)) (h2 : mostI is = some m) (h : Q (.t (.int m)) G) : Wp (fMaxL [d] G) Q E := by
  simp only [fMaxL, h1, ints_map, h2]; with_unfolding_all exact h
theorem f_tix {ws : List Str} {z : Str} {j : Nat} (h1 : ws.findIdx? (· == z) = some j) (h : Q (.t (.int (j : Nat))) G) : Wp (fTix (.t (.ftp (ws.map T.str))) [.t (.str z)] G) Q E := by
  have e : strsT ((ws.map T.str).map D.t) = some ws := by
    have := strs_map ws
    rw [List.map_map]
    exact this
  simp only [fTix, e, h1]; with_unfolding_all exact h
theorem i_Zip {a b : De} {P : List Im → Kp → Hs → Prop} (h : Wp (a r G) (fun x G1 => ∃ xs, rowOf x = some xs ∧ Wp (b r G1) (fun y G2 => ∃ ys, rowOf y = some ys ∧ P (zipIms xs ys) none G2) E) E) : Wi (iZip a b r G) P E := by
  unfold iZip
  rw [wi_itr]
  refine h.mono (fun x G1 h => ?_) fun _ _ _ _ z => z
  obtain ⟨xs, e1, h⟩ := h
  rw [e1]
  show Wi ((b r G1).itr _) P E
  rw [wi_itr]
  refine h.mono (fun y G2 h => ?_) fun _ _ _ _ z => z
  obtain ⟨ys, e2, h⟩ := h
  rw [e2]
  with_unfolding_all exact h
/-- a comprehension over a zip, by an invariant on what was made -/
theorem c_zip {i j : Nat} {elt : De} {xs ys : List T} (I : Nat → List D → Hs → Prop) {K : List D → Hs → Prop} (h0 : I 0 [] G)
    (hs : ∀ (n : Nat) acc G a b, xs[n]? = some a → ys[n]? = some b → I n acc G → Wp (elt ((r.set i (some (.t a))).set j (some (.t b))) G) (fun d G' => I (n + 1) (acc ++ [d]) G') (fun _ _ _ _ => False)) (he : ∀ acc G, I (min xs.length ys.length) acc G → K acc G) :
    Wc (compLoop (gNN i j) dYes elt none r (zipIms xs ys) [] G) K := by
  have := comp_loop (r := r) (td := gNN i j) (its := zipIms xs ys) (elt := elt) (kp := none) I (K := K) h0 (fun _ _ _ _ => kp_none) (fun n acc G im e hI => by
    obtain ⟨a, b, h1, h2, rfl⟩ := zipIms_get e
    with_unfolding_all exact ⟨_, rfl, hs n acc G a b h1 h2 hI⟩) (fun acc G hI => he acc G (by rw [zipIms_len] at hI; exact hI))
  cases e2 : compLoop (gNN i j) dYes elt none r (zipIms xs ys) [] G with
  | ok ds G2 => rw [e2] at this; with_unfolding_all exact this
  | stuck => rw [e2] at this; with_unfolding_all exact this
/-- .. over pairs -/
theorem c_two {i j : Nat} {elt : De} {kp : Kp} {ps : List (T × T)} (I : Nat → List D → Hs → Prop) {K : List D → Hs → Prop} (h0 : I 0 [] G) (hk : ∀ i acc G, I i acc G → kpOk kp G)
    (hs : ∀ (n : Nat) acc G p, ps[n]? = some p → I n acc G → Wp (elt ((r.set i (some (.t p.1))).set j (some (.t p.2))) G) (fun d G' => I (n + 1) (acc ++ [d]) G') (fun _ _ _ _ => False)) (he : ∀ acc G, I ps.length acc G → K acc G) :
    Wc (compLoop (gNN i j) dYes elt kp r (((ps.map fun p => T.tup [p.1, p.2]).map D.t).map Im.one) [] G) K := by
  have := comp_loop (r := r) (td := gNN i j) (its := ((ps.map fun p => T.tup [p.1, p.2]).map D.t).map Im.one) (elt := elt) (kp := kp) I (K := K) h0 hk (fun n acc G im e hI => by
    simp only [List.getElem?_map] at e
    cases hp : ps[n]? with
    | none => rw [hp] at e; cases e
    | some p =>
      rw [hp] at e
      cases e
      with_unfolding_all exact ⟨_, rfl, hs n acc G p hp hI⟩) (fun acc G hI => he acc G (by simp only [List.length_map] at hI; exact hI))
  cases e2 : compLoop (gNN i j) dYes elt kp r (((ps.map fun p => T.tup [p.1, p.2]).map D.t).map Im.one) [] G with
  | ok ds G2 => rw [e2] at this; with_unfolding_all exact this
  | stuck => rw [e2] at this; with_unfolding_all exact this
/-- a for over an enumerate, by its invariant -/
theorem s_enumG {N : NP} {R : TP} {B C : NP} {X : XP} {i j : Nat} {ds : List D} {kp : Kp} {b : Dst} (I : Nat → Ev → Hs → Prop) (h0 : I 0 r G) (hk : ∀ n r G, I n r G → kpOk kp G)
    (hs : ∀ (n : Nat) d r G, ds[n]? = some d → I n r G → Ws (b ((r.set i (some (.t (.int (n : Int))))).set j (some d)) G) (I (n + 1)) R N (I (n + 1)) X) (he : ∀ r G, I ds.length r G → N r G) :
    Ws (forLoop (gNN i j) b kp (enumIms ds) r G) N R B C X := by
  refine ws_loop I h0 hk (fun n r' G' im e hI => ?_) (fun r' G' hI => by rw [enumIms_len] at hI; exact he r' G' hI)
  obtain ⟨d, hd, rfl⟩ := enumIms_get e
  with_unfolding_all exact ⟨_, rfl, hs n d r' G' hd hI⟩
theorem asS_ftp {ts : List T} : asS G (.t (.ftp ts)) = some (ts.map D.t) := rfl
theorem rowOf_asS {d : D} {ts : List T} (h : rowOf d = some ts) : asS G d = some (ts.map D.t) := by
  cases d with
  | loc i => cases h
  | t t => cases t <;> first | (cases h; done) | (cases h; rfl)
theorem f_ninW {w : Str} {ws : List Str} {y : D} (h : asS G y = some (ws.map dS)) (k : Q (.t (.bl (!decide (w ∈ ws)))) G) : Wp (fIn true (.t (.str w)) y G) Q E := by
  have e : plain (ws.map dS) = some (ws.map T.str) := by
    have := plain_map (ws.map T.str)
    rw [List.map_map] at this
    exact this
  have e3 : fIn true (.t (.str w)) y G = .ok (.t (.bl (!decide (w ∈ ws)))) G := by
    have e2 := any_strs ws w
    cases y with
    | loc j => simp only [fIn, h, e, flat_strs, e2, flatT, and_self, if_true]
    | t u => cases u <;> first | (simp [asS, asT, asL] at h; done) | simp only [fIn, h, e, flat_strs, e2, flatT, and_self, if_true]
  rw [e3]; exact e_ok k
theorem atI_last {α : Type} {xs : List α} {x : α} : atI (xs ++ [x]) (-1) = some x := by
  unfold atI ixN
  simp
  rw [if_pos (by omega), show (-1 + ((xs.length : Int) + 1)).toNat = xs.length by omega]
  simp
theorem ixN_nat {n k : Nat} (h : k < n) : ixN n (k : Int) = some k := by
  unfold ixN
  rw [if_pos (by omega), if_pos (by omega)]
  simp
theorem atI_nat {α : Type} {xs : List α} {k : Nat} {x : α} (h : xs[k]? = some x) : atI xs (k : Int) = some x := by
  unfold atI
  rw [ixN_nat (getLt h)]
  exact h
theorem setLP {j k : Nat} {es : List D} {y : D} {K : Hs → Prop} (h : G[j]? = some (.lst es)) (hk : k < es.length) (hy : okIn j y = true) (h2 : K (G.set j (.lst (es.set k y)))) : SetLP (.loc j) (.t (.int (k : Int))) y G K := ⟨j, k, es, k, rfl, rfl, h, ixN_nat hk, hy, h2⟩
theorem pop_ts (ds : List T) {n : Nat} : popDs n (ds.map D.t) G = some (ds.map D.t) := by
  induction ds with
  | nil => rfl
  | cons d ds ih => simp only [List.map_cons, popDs, ih]; rfl
/-- an exception of plain fields goes on -/
theorem x_pop {c : Nat} {ns : List Str} {ds : List T} {H : Hs} (h : E c ns (ds.map D.t) G) : ∃ es', popDs G.length (ds.map D.t) (G ++ H) = some es' ∧ E c ns es' ((G ++ H).take G.length) := ⟨_, pop_ts ds, by rw [takeNew]; exact h⟩
theorem x_pop0 {c : Nat} {ns : List Str} {ds : List T} (h : E c ns (ds.map D.t) G) : ∃ es', popDs G.length (ds.map D.t) G = some es' ∧ E c ns es' (G.take G.length) := ⟨_, pop_ts ds, by rw [List.take_of_length_le (Nat.le_refl _)]; exact h⟩
end
end BL

set_option Elab.async false
set_option linter.all false
set_option maxRecDepth 100000
set_option maxHeartbeats 2000000
namespace BL
open PySem L2
section
variable {Q : D → Hs → Prop} {E : XP} {G : Hs} {d : D} {r : Ev}
theorem f_lenF {ts : List T} (h : Q (.t (.int ts.length)) G) : Wp (fLen [.t (.ftp ts)] G) Q E := by
  refine f_len asS_ftp ?_
  rw [List.length_map]; exact h
theorem e_call5 {Q : D → Hs → Prop} {a b c e f : De} {F : Fd} (h : Wp (a r G) (fun x G1 => Wp (b r G1) (fun y G2 => Wp (c r G2) (fun z G3 => Wp (e r G3) (fun w G4 => Wp (f r G4) (fun v G5 => Wp (F [x, y, z, w, v] G5) Q E) E) E) E) E) E) : Wp (dCall [a, b, c, e, f] F [] r G) Q E := by
  rw [wp_call, wp_args]
  refine h.mono (fun x G1 h => ?_) fun _ _ _ _ z => z
  rw [wp_args]
  refine h.mono (fun x G1 h => ?_) fun _ _ _ _ z => z
  rw [wp_args]
  refine h.mono (fun x G1 h => ?_) fun _ _ _ _ z => z
  rw [wp_args]
  refine h.mono (fun x G1 h => ?_) fun _ _ _ _ z => z
  rw [wp_args]; with_unfolding_all exact h
end
end BL

set_option Elab.async false
set_option linter.all false
set_option maxRecDepth 100000
set_option maxHeartbeats 2000000
namespace BL
open PySem L2

/-! ### a property, and its getter as the head finds it -/
/-- where the property stands, where its getter stands -/
def prpAd (K : PySem.W.Frag) (q : Str × Str) : Addr := match PySem.W.findIn K (.ref (He.ga K q.1)) q.2 with
  | some (some (.ref p)) => p
  | _ => 0
def getAd (K : PySem.W.Frag) (q : Str × Str) : Addr := match PySem.W.recIn K (prpAd K q) "property" with
  | some (.ref g :: _) => g
  | _ => match PySem.W.recIn K (prpAd K q) "classmethod" with
    | some (.ref g :: _) => g
    | _ => 0
def prpB (K : PySem.W.Frag) (q : Str × Str) : Bool := He.eqO (PySem.W.findIn K (.ref (He.ga K q.1)) q.2) (some (some (.ref (prpAd K q)))) && (He.eqO (PySem.W.specialIn K (.ref (prpAd K q)) "__get__") (some (some (.builtin "property.__get__"))) &&
  (decide (PySem.W.takesIn K (.ref (prpAd K q)) = some true) && (match PySem.W.recIn K (prpAd K q) "property" with
    | some (.ref g :: _) => decide (g = getAd K q)
    | _ => false)))
theorem prpB_ok {K : PySem.W.Frag} {q : Str × Str} (h : prpB K q = true) : PropOf K (He.ga K q.1) q.2 (prpAd K q) (getAd K q) := by
  obtain ⟨h1, h⟩ := He.ba h
  obtain ⟨h2, h⟩ := He.ba h
  obtain ⟨h3, h4⟩ := He.ba h
  refine ⟨He.eqO_ok h1, He.eqO_ok h2, of_decide_eq_true h3, ?_⟩
  split at h4
  · rename_i g rest e
    have eg := of_decide_eq_true h4
    exact ⟨rest, by rw [e, eg]⟩
  · cases h4
/-- what the getter is -/
def getW (K : PySem.W.Frag) (q : Str × Str) : He.FnW := match K.lookup (getAd K q) with
  | some ⟨_, _, .func u, _⟩ => some (u.name, u.qualname, u.params, u.body, u.scope, u.globals, u.closure, u.builtins)
  | _ => none
def isNon : Value → Bool
  | .none => true
  | _ => false
abbrev Getr := (Str × Str) × He.DefD
def getB (K : PySem.W.Frag) (q : Getr) : Bool := PySem.W.keepIn K (.ref (getAd K q.1)) && (match K.lookup (getAd K q.1) with
  | some ⟨_, _, .func u, _⟩ => PySem.W.codeIn K u.code q.2.qual && isNon u.defaults
  | _ => false)
theorem getr_fn {K : PySem.W.Frag} {q : Getr} (e : getW K q.1 = q.2.val) (c : getB K q = true) : ∃ fd, FunD K q.2.name q.2.qual q.2.params q.2.body q.2.scope [] [] (getAd K q.1) fd := by
  obtain ⟨kp, c⟩ := He.ba c
  unfold getW at e
  cases lk : K.lookup (getAd K q.1) with
  | none => rw [lk] at c; cases c
  | some o =>
    obtain ⟨oc, od, dt, osl⟩ := o
    rw [lk] at c e
    cases dt with
    | func u =>
      obtain ⟨u1, u2, u3, u4, u5, u6, u7, u8, u9, u10, u11, u12, u13, u14, u15⟩ := u
      have ev : (some (u1, u2, u3, u4, u5, u6, u7, u15) : He.FnW) = some (q.2.name, q.2.qual, q.2.params, .stmts q.2.body, q.2.scope, mainGlobals, [], builtinsNs) := e
      simp only [Option.some.injEq, Prod.mk.injEq] at ev
      obtain ⟨e1, e2, e3, e4, e5, e6, e7, e8⟩ := ev
      subst e1 e2 e3 e4 e5 e6 e7 e8
      have c' : (PySem.W.codeIn K u13 q.2.qual && isNon u8) = true := c
      obtain ⟨c1, c2⟩ := He.ba c'
      cases u8 with
      | none => exact ⟨_, ⟨oc, od, .none, u9, u10, u11, u12, u13, u14, osl, rfl, lk, c1, .inl ⟨rfl, rfl⟩, .inl rfl⟩, kp⟩
      | _ => cases c2
    | _ => cases c
/-! ### the Hook with getters -/
section
variable {n : Nat} {fa : List He.Fa} {fn : List He.DefD} {tf : List He.Defn} {gs : List Getr} {ex : PySem.W.Frag → Bool}
abbrev AlP : Type := He.AlX × List He.FnW
def obsP (n : Nat) (fa : List He.Fa) (fn : List He.DefD) (tf : List He.Defn) (gs : List Getr) (ex : PySem.W.Frag → Bool) (g : Addr → Option Obj) : AlP := (obsZ n fa fn tf ex g, gs.map fun q => getW (He.frT g (asZ g n)) q.1)
def hookP (n : Nat) (fa : List He.Fa) (fn : List He.DefD) (tf : List He.Defn) (gs : List Getr) (ex : PySem.W.Frag → Bool) : PySem.W.Hook where
  α := AlP
  obs := fun s => obsP n fa fn tf gs ex s.heap.get?
  val := fun w => (He.valX fn [] w, gs.map fun q : Getr => He.DefD.val q.2)
  says := fun w h => ∃ K : PySem.W.Frag, K.In h ∧ He.SaysX fa fn [] tf ex w h K ∧ (gs.map fun q : Getr => getW K q.1) = gs.map fun q : Getr => He.DefD.val q.2
  of := fun _ _ e => ⟨_, He.frT_in, says_at (congrArg (fun z : AlP => z.1.1) e) (congrArg (fun z : AlP => z.1.2) e), congrArg (fun z : AlP => z.2) e⟩
  keeps := fun _ _ _ ⟨K, hK, c, d⟩ k => ⟨K, PySem.W.Frag.In.keeps hK k, ⟨c.t, c.more, c.hd, c.out, fun p hp => k _ _ (c.empty p hp)⟩, d⟩
theorem obsP_eq {g : Addr → Option Obj} {s : Shared} (h : ∀ a, g a = s.heap.get? a) : obsP n fa fn tf gs ex g = (hookP n fa fn tf gs ex).obs s := by
  have e : g = s.heap.get? := funext h
  rw [e] <;> rfl
theorem getr_at {K : PySem.W.Frag} {q : Getr} {i : Nat} (h : (gs.map fun q => getW K q.1) = gs.map fun q => q.2.val) (e : gs[i]? = some q) : getW K q.1 = q.2.val := by
  have := congrArg (fun l : List He.FnW => l[i]?) h
  simpa [e] using this
end
/-! ### e.f, a property -/
def noX : Re → Re
  | .ok d G => .ok d G
  | _ => .stuck
def fProp (c : Nat) (F : Fd) (x : D) (G : Hs) : Re := if isObj' c G x = true then noX (F [x] G) else .stuck
section
variable {Z : Zc} {o : Expr} {do_ : De} {c k : Nat} {f : Str} {g pa : Addr} {ps : List Str} {F : Fd} {pos : Pos}
theorem pd_prop (ho : PD Z o do_) (hc : Cls Z.K (Z.ca c)) (hp : PropOf Z.K (Z.ca c) f pa g) (h : Ca Z.toZb k g ps F []) (hk : k + 1 ≤ Z.k) (hn : 1 = ps.length) (hab : ∀ env, attributeBase o f env (eval o env) = eval o env := by intro _; rfl) :
    PD Z (.Attribute o f pos) (dUn (fProp c F) do_) := fun X W ok => by
  obtain ⟨fd, dvs, dus, h1, h2, h3, h4⟩ := h.ex
  have hz := h4 (fun _ => False) (fun _ => none)
  cases dvs with
  | cons v vs => cases hz
  | nil =>
    cases h3
    refine peI (pe_prop (E := E0) (dvs := []) (ho X W ok) (by rw [ok.K]; exact hc) (by rw [ok.K]; exact hp) (show FnOk X.prog X.w X.K X.mg X.base (L2.CX X.prog X.w) k g fd ps (spD Z.g ps.length F) by rw [ok.P, ok.w, ok.K, ok.mg, ok.base]; exact h1.ok) (ok.rm.mono hk) (by rw [ok.K]; exact h2) .nil (fun pins σ H s e s' I hq => passL pins σ H s e s' I hq) (hab _)) fun σ H Q ⟨m, r, G, s, sl, p⟩ => ?_
    refine tI_bind s sl p fun x G1 v m1 H1 e1 x1 s1 sl1 rv p1 => ?_
    unfold fProp at p1
    split at p1
    · rename_i hx
      obtain ⟨a, dx, fs, rfl, ha⟩ := isObj_rp s1 rv hx
      refine ⟨a, dx, fs, rfl, ha, hn, Z.g.rv, m1, _, [x], s1, ⟨_, _, rfl, rv, rfl⟩, ?_⟩
      cases e : F [x] G1 with
      | stuck => rw [e] at p1; exact p1.elim
      | exc _ _ _ _ => rw [e] at p1; exact p1.elim
      | ok d G' => rw [e] at p1; exact p1
    · exact p1.elim
end
section
variable {Q : D → Hs → Prop} {E : XP} {G : Hs}
theorem f_prop {c : Nat} {F : Fd} {x : D} (h1 : isObj' c G x = true) (h : Wp (F [x] G) Q (fun _ _ _ _ => False)) : Wp (fProp c F x G) Q E := by
  obtain ⟨d, G', e, hq⟩ := h.ex
  have e2 : fProp c F x G = .ok d G' := by simp only [fProp, h1, if_true, e, noX]
  rw [e2]
  exact e_ok hq
end
end BL

set_option Elab.async false
set_option linter.all false
set_option maxRecDepth 100000
set_option maxHeartbeats 2000000
namespace BL
open PySem PySem.Spec PyProof.Rows L2

/-! ### o[i], an own __getitem__ -/
structure GetF (K : PySem.W.Frag) (C f : Addr) : Prop where
  hs : PySem.W.findIn K (.ref C) "__getitem__" = some (some (.ref f))
  hf : PySem.W.isFn K (.ref f) = true
  fi : PySem.W.fnIn K f = true
def gtiB (K : PySem.W.Frag) (C f : Addr) : Bool := He.eqO (PySem.W.findIn K (.ref C) "__getitem__") (some (some (.ref f))) && (PySem.W.isFn K (.ref f) && PySem.W.fnIn K f)
theorem gtiB_ok {K : PySem.W.Frag} {C f : Addr} (h : gtiB K C f = true) : GetF K C f := by
  obtain ⟨h1, h⟩ := He.ba h
  obtain ⟨h2, h3⟩ := He.ba h
  exact ⟨He.eqO_ok h1, h2, h3⟩
def OwnIx (b : Expr) : Prop := ∀ o i, subscripted b true o i = runValue (.builtin "lifetime.subscript" ⟨[o, i], []⟩)
def rGetO (C : Addr) (sp : Sp) : R2 := fun x y H Q => ∃ a dx fs, x = .ref a ∧ H a = some (.ins C dx fs) ∧ sp [x, y] H Q E0
theorem pe_getO {X : Cx} {k : Nat} {f C : Addr} {fd : FuncData} {ps : List Str} {sp : Sp} {a b : Expr} {ta tb : TE} {pos : Pos} (F : FnOk X.prog X.w X.K X.mg X.base (L2.CX X.prog X.w) k f fd ps sp) (hr : Room (k + 1) X.A) (hb : Binds X.K fd ps []) (hL : GetF X.K C f) (ha : PE X a ta) (hi : PE X b tb) (hs : OwnIx b) :
    PE X (.Subscript a b pos) (tOp (rGetO C sp) ta tb) := by
  refine ⟨fun pins s σ H Q I h => Subscript_ (binT ha hi I h fun v u s2 x y H2 J rx ry q => ?_)⟩
  obtain ⟨o, dx, fs, rfl, ho, q⟩ := q
  cases rx
  obtain ⟨mA, N, _⟩ := ins_get J.hok ho
  obtain ⟨od, N, _⟩ := N.look
  obtain ⟨m, hF⟩ := J.fr
  refine PySem.W.sub_K hF J.ok.mod.kin N hL.hs hL.fi hL.hf ?_ (hs _ _)
  exact run_one (vs := [V.ref o, y]) F hr.in1 rfl hb J (.cons rfl (.cons ry .nil)) q fun v' v H' s' J' rv q => ⟨v, H', J', rv, q⟩
def fGetO (c : Nat) (F : Fd) (x y : D) (G : Hs) : Re := if isObj' c G x = true then noX (F [x, y] G) else .stuck
structure GetA (b : Zb) (k : Nat) (c : Nat) (f : Addr) (ps : List Str) (F : Fd) : Prop where
  ca : Ca b k f ps F []
  get : GetF b.K (b.ca c) f
  hn : 2 = ps.length
section
variable {Z : Zc} {a b : Expr} {da db : De} {c k : Nat} {f : Addr} {ps : List Str} {F : Fd} {pos : Pos}
theorem pd_getO (h : GetA Z.toZb k c f ps F) (hk : k + 1 ≤ Z.k) (ha : PD Z a da) (hb : PD Z b db) (hs : OwnIx b := by intro _ _; rfl) : PD Z (.Subscript a b pos) (dBin (fGetO c F) da db) := fun X W ok => by
  obtain ⟨fd, dvs, dus, h1, h2, h3, h4⟩ := h.ca.ex
  have hz := h4 (fun _ => False) (fun _ => none)
  cases dvs with
  | cons v vs => cases hz
  | nil =>
    cases h3
    refine peI (pe_getO (C := Z.ca c) (show FnOk X.prog X.w X.K X.mg X.base (L2.CX X.prog X.w) k f fd ps (spD Z.g ps.length F) by rw [ok.P, ok.w, ok.K, ok.mg, ok.base]; exact h1.ok) (ok.rm.mono hk) (by rw [ok.K]; exact h2) (by rw [ok.K]; exact h.get) (ha X W ok) (hb X W ok) hs) fun σ H Q h0 => ?_
    refine tI_bin (f := fGetO c F) ?_ h0
    intro W' m H G σ Q x y v u s rx ry p
    unfold fGetO at p
    split at p
    · rename_i hx
      obtain ⟨o, dx, fs, rfl, ho⟩ := isObj_rp s rx hx
      refine ⟨o, dx, fs, rfl, ho, h.hn, Z.g.rv, m, _, [x, y], s, ⟨_, _, rfl, rx, _, _, rfl, ry, rfl⟩, ?_⟩
      cases e : F [x, y] G with
      | stuck => rw [e] at p; exact p.elim
      | exc _ _ _ _ => rw [e] at p; exact p.elim
      | ok d G' => rw [e] at p; exact p
    · exact p.elim
end
section
variable {Q : D → Hs → Prop} {E : XP} {G : Hs}
theorem f_getO {c : Nat} {F : Fd} {x y : D} (h1 : isObj' c G x = true) (h : Wp (F [x, y] G) Q (fun _ _ _ _ => False)) : Wp (fGetO c F x y G) Q E := by
  obtain ⟨d, G', e, hq⟩ := h.ex
  have e2 : fGetO c F x y G = .ok d G' := by simp only [fGetO, h1, if_true, e, noX]
  rw [e2]
  exact e_ok hq
end
end BL

set_option Elab.async false
set_option linter.all false
set_option maxRecDepth 100000
set_option maxHeartbeats 2000000
namespace BL
open PySem L2

/-! ### try: e / except C as n: return .. -/
/-- a clause: which classes it takes, whether it gives a tuple, its parts -/
abbrev Hdt := (Nat → Option Bool) × Bool × List Pt
abbrev Cvt := Value × Bool × List Prt
def giveT (tp : Bool) (ts : List T) (G : Hs) : Re := if tp = true then (if ts.length ≤ sizeLine then .ok (.t (.tup ts)) G else .stuck) else (match ts with
  | [t] => .ok (.t t) G
  | _ => .stuck)
def catchT (c : Nat) (ns : List Str) (ds : List D) (G : Hs) : List Hdt → Re
  | [] => .exc c ns ds G
  | q :: qs => match q.1 c with
    | some true => (match ptsV c ns ds q.2.2 with
      | some ts => giveT q.2.1 ts G
      | none => .stuck)
    | some false => catchT c ns ds G qs
    | none => .stuck
def Re.ret (r : Ev) : Re → Rs
  | .ok d G => .rt d G
  | .exc c ns ds G => .exc c ns ds r G
  | .stuck => .stuck
def dTryE (hs : List Hdt) (d : De) : Dst := fun r G => match d r G with
  | .ok _ G' => .nx r G'
  | .exc c ns ds G' => (catchT c ns ds G' hs).ret r
  | .stuck => .stuck
def hdPrt : List Prt → Prt
  | p :: _ => p
  | [] => .cst .non
def cvtT (i : Nat) (q : Cvt) : Cls1 := (q.1, fun a cls d => tRet (if q.2.1 = true then tTup (tPrts i a cls d q.2.2) else tPrt i a cls d (hdPrt q.2.2)))
def ClsT (g : Gm0) : List Hdt → List Cvt → Prop
  | [], l => l = []
  | h :: hs, l => ∃ v ps r, l = (v, h.2.1, ps) :: r ∧ (∀ c b, h.1 c = some b → PySem.W.exmOne g.K (.ref (g.ca c)) v = some b) ∧ PtsR g h.2.2 ps ∧ ClsT g hs r
section
variable {g : Gm} {W : WX} {m m' : Nat → Addr} {n : Nat} {H H' : Hp} {G' : Hs} {σ : St} {D : Ends} {r : Ev} {c i : Nat} {ns : List Str} {ds : List BL.D} {xs : List V} {da : Addr}
theorem one_of {a : Addr} {cls : Value} {d : Option Addr} {z : L2.St} {p : Prt} {u : V} {R : VK} (hz : z[i]? = some (some (.ref a))) (h : prtR cls d H p u) (hr : R u H) : tPrt i a cls d p z H R := by
  cases p with
  | cst v =>
    have h : u = v := h
    subst h
    exact hr
  | fld C f =>
    obtain ⟨h1, dd, fs, h2, h3, h4⟩ := h
    exact ⟨.ref a, hz, rfl, h1, dd, fs, u, h2, h3, h4, hr⟩
  | yes C =>
    obtain ⟨h0, h1, h2⟩ := h
    subst h0
    exact ⟨hz, h1, h2, hr⟩
theorem catchT_of (x : Ex m n H m' G'.length H') (s : SR g m' H' G') (sl : Sl g m' G'.length H' σ r) (hi : i < σ.length) (hd : H' da = some (.xd (ns.zip xs))) (nb : ¬ Bd m' G'.length da) (rs : RpDs g m' G'.length G'.length H' ds xs)
    (tr : ∀ {m2 : Nat → Addr} {H2 : Hp}, Ex m' G'.length H' m2 G'.length H2 → Ex m n H m2 G'.length H2) : ∀ {hs : List Hdt} {l : List Cvt}, ClsT g.toGm0 hs l → PostS g W m n H D ((catchT c ns ds G' hs).ret r) → wClauses g.K i W D (l.map (cvtT i)) (.ref (g.ca c)) (some da) σ H'
  | [], l, e, p => by
    cases e
    exact p σ da m' H' xs x s sl hd nb rs
  | h :: hs, l, ⟨v, ps, rr, el, hv, hp, hr⟩, p => by
    subst el
    unfold catchT at p
    cases e1 : h.1 c with
    | none => rw [e1] at p; exact p.elim
    | some b =>
      rw [e1] at p
      refine ⟨b, hv c b e1, fun hb a na => ?_, fun hb => ?_⟩
      · subst hb
        simp only at p
        cases e2 : ptsV c ns ds h.2.2 with
        | none => rw [e2] at p; exact p.elim
        | some ts =>
          rw [e2] at p
          simp only at p
          obtain ⟨us, h1, h2⟩ := pts_of hd rs hp e2
          have hz : (σ.set i (some (V.ref a)))[i]? = some (some (.ref a)) := by rw [List.getElem?_set_self hi]
          show (if h.2.1 = true then tTup (tPrts i a _ _ ps) else tPrt i a _ _ (hdPrt ps)) (σ.set i (some (.ref a))) H' _
          unfold giveT at p
          by_cases ht : h.2.1 = true
          · rw [if_pos ht] at p ⊢
            by_cases hl : ts.length ≤ sizeLine
            · rw [if_pos hl] at p
              have hlu : us.length ≤ sizeLine := by rw [← h2.length]; exact hl
              exact prts_of hz h1 ⟨hlu, fun pp hpp => p (.ref pp) m' _ (tr (Ex.new hpp)) (s.new hpp hlu) ⟨pp, us, rfl, .inl (.inl upd_same), Rps.ex (Ex.new hpp) s _ _ h2⟩⟩
            · rw [if_neg hl] at p; exact p.elim
          · rw [if_neg ht] at p ⊢
            split at p
            · rename_i t
              obtain ⟨u, ws, rfl, q1, q2⟩ := h2
              cases q2
              cases ps with
              | nil => cases h1
              | cons p0 ps =>
                obtain ⟨u', ws', eu, g1, g2⟩ := h1
                cases eu
                exact one_of hz g1 (p u m' H' x s q1)
            · exact p.elim
      · subst hb
        exact catchT_of x s sl hi hd nb rs tr hr p
end
/-! statements at the top of a def -/
def Top (X : Cx) : Prop := X.stack = X.env :: X.outer ∧ X.env.frame = some X.env.locals
def PSDT (Z : Zc) (st : Stmt) (d : Dst) : Prop := ∀ X W, Ok Z X W → Top X → PS X st (tS Z.g W d)
def PSDsT (Z : Zc) (st : List Stmt) (d : Dst) : Prop := ∀ X W, Ok Z X W → Top X → PSs X st (tS Z.g W d)
theorem Ok.tr {Z : Zc} {X : Cx} {W W' : WX} (ok : Ok Z X W) {pn : List (Addr × Obj)} {xe : Value → Shared → Prop} (tk : Takes (X.tr pn xe) W') (po : PassesOwn (model X.prog X.w) X.A X.env xe) : Ok Z (X.tr pn xe) W' where
  P := ok.P
  w := ok.w
  K := ok.K
  mg := ok.mg
  base := ok.base
  N := ok.N
  sc := ok.sc
  fn := ok.fn
  nd := ok.nd
  calm := ok.calm
  tk := tk
  po := po
  rm := ok.rm
  cq := ok.cq
section
variable {Z : Zc} {e : Expr} {d : De} {n : Str} {i : Nat} {h0 : ExceptHandler} {hs : List ExceptHandler} {ht : List Hdt} {l : List Cvt} {p pos : Pos}
theorem psd_tryE (he : PD Z e d) (hsw : ∀ env, swapsWith e none p.line env = pure false) (hN : Z.N[i]? = some n) (hl : Z.sc.names.lookup n = some .local) (hr : ClsT Z.g.toGm0 ht l) (hc : ∀ X W, Ok Z X W → ClsOk X n (h0 :: hs) (l.map (cvtT i))) : PSDT Z (.Try [.Expr e p] (h0 :: hs) [] [] pos) (dTryE ht d) := fun X W ok top => by
  refine psI (ps_try_named (i := i) (n := n) (out := W) (qs := l.map (cvtT i)) (tb := fun W' => tS Z.g (fun cls d z H => z.length = X.N.length → W' cls d z H) (dDrop d)) top.1 top.2 ok.nd (by rw [ok.N]; exact hN) (show X.env.scope.names.lookup n = _ by rw [ok.sc]; exact hl) ok.tk (fun W' pn xe tk po => psd_one (psd_expr he hsw) _ _ (ok.tr (takes_len tk) po)) (hc X W ok)) fun E σ H ⟨m, r, G, s, sl, q⟩ => ?_
  refine ⟨m, r, G, s, sl, ?_⟩
  have hi : i < Z.N.length := getLt hN
  unfold dDrop
  unfold dTryE at q
  cases e1 : d r G with
  | stuck => rw [e1] at q; exact q.elim
  | ok y G' => rw [e1] at q; exact q
  | exc c ns ds G' =>
    rw [e1] at q
    intro σ' da m' H' xs x' s' sl' hd nb rs hlen
    rw [show X.K = Z.g.K from ok.K]
    exact catchT_of x' s' sl' (by rw [hlen, ok.N]; exact hi) hd nb rs (fun z => x'.trans s' z) hr q
theorem psd_consT {st : Stmt} {sts : List Stmt} {a b : Dst} (h1 : PSDT Z st a) (h2 : PSDs Z sts b) : PSDsT Z (st :: sts) (dSeq a b) := fun X W ok top => by
  refine pssI (pss_cons (h1 X W ok top) (h2 X W ok)) fun D σ H ⟨m, r, G, s, sl, p⟩ => ?_
  refine ⟨m, r, G, s, sl, ?_⟩
  unfold dSeq at p
  cases e : a r G with
  | nx r' G' =>
    rw [e] at p
    exact fun σ' m' H' x' s' sl' => ⟨m', r', G', s', sl', PostS.trans x' s' p⟩
  | rt d G' => rw [e] at p; exact p
  | bk r' G' => rw [e] at p; exact p
  | ct r' G' => rw [e] at p; exact p
  | exc c ns ds r' G' => rw [e] at p; exact p
  | stuck => rw [e] at p; exact p
end
section
variable {Z : Zc} {b : Zb} {x qual : Str} {st : Stmt} {f : Addr} {fd : FuncData} {N ps : List Str} {k : Nat} {db : Dst} {dvs : List V}
theorem fnd_popT (Fn : FnE Z.K x qual st dvs f fd) (S : FnScope N ps (defScope st)) (hb : ∀ rv, PSDsT (Z.dfn N (defScope st) k rv) (defBody st) db) : FnD Z.toZb (k + 1) f fd ps (runPop N.length db) := by
  refine ⟨Fn.ok (CX := L2.CX Z.P Z.w) S (fun vs H Q E h => h.1) (fun cdv A outer s H vs Q E hr h => ?_), Fn.kp⟩
  obtain ⟨hl, rv, m, G, ds, s0, rs, p⟩ := h
  refine ⟨_, hb rv _ _ (Ok.dfn (Z := Z) S hr rv) ⟨rfl, rfl⟩, m, _, G, s0, start_sl (N := N) rs, ?_⟩
  show PostS (Z.g.rvd rv) _ m G.length H _ (db (startE N.length ds) G)
  unfold runPop at p
  cases e : db (startE N.length ds) G with
  | rt d G' =>
    rw [e] at p
    simp only [endPop] at p
    intro v m' H' x' s' rv'
    cases q : popD G.length d G' with
    | none => rw [q] at p; exact p.elim
    | some d' =>
      rw [q] at p
      refine p v m' H' ?_ (s'.pop _) ?_
      · rw [take_len x'.le]; exact x'.popped
      · rw [take_len x'.le]; exact popD_rp s' x'.le rv' q
  | nx r G' =>
    rw [e] at p
    intro σ' m' H' x' s' sl'
    refine p .non m' H' ?_ (s'.pop _) rfl
    rw [take_len x'.le]; exact x'.popped
  | exc c ns es r G' =>
    rw [e] at p
    simp only [endPop] at p
    intro σ' da m' H' xs x' s' sl' h nb rs'
    cases q : popDs G.length es G' with
    | none => rw [q] at p; exact p.elim
    | some es' =>
      rw [q] at p
      refine p da m' H' xs ?_ (s'.pop _) h ?_ ?_
      · rw [take_len x'.le]; exact x'.popped
      · rw [take_len x'.le]; exact fun z => nb (Bd.mono x'.le z)
      · rw [take_len x'.le]; exact popDs_rp s' x'.le rs' q
  | bk r G' => rw [e] at p; exact p.elim
  | ct r G' => rw [e] at p; exact p.elim
  | stuck => rw [e] at p; exact p.elim
theorem ca_popT (Fn : ∃ fd, FnE b.K x qual st [] f fd) (S : FnScope N ps (defScope st)) (hb : ∀ rv, PSDsT (b.dfn N (defScope st) k rv) (defBody st) db)
    (hbind : ∀ (kV doc pm : Value) (an : Option Addr) (cdv ct : Value) (us : List Value), us.length = ps.length → bindArgs (PySem.W.fnOf x qual (defArgs st) (defBody st) (defScope st) .none kV doc pm an cdv ct) ⟨us, []⟩ = pure (ps.zip us)) : Ca b (k + 1) f ps (runPop N.length db) [] := by
  obtain ⟨fd, Fn⟩ := Fn
  exact ⟨fd, [], [], fnd_popT (Z := b.z) Fn S hb, Fn.bindsN hbind, .nil, dfl_nil⟩
end
/-! read backwards -/
section
variable {N : NP} {R : TP} {B C : NP} {X : XP} {G : Hs} {r : Ev}
theorem s_tryE {hs : List Hdt} {d : De} (h : Wp (d r G) (fun _ G' => N r G') (fun c ns ds G' => Wp (catchT c ns ds G' hs) R X)) : Ws (dTryE hs d r G) N R B C X := by
  unfold dTryE
  cases e : d r G with
  | ok y G' => rw [e] at h; rw [wp_ok] at h; exact (by rw [ws_nx]; exact h)
  | exc c ns ds G' =>
    rw [e] at h
    rw [wp_exc] at h
    simp only
    cases e2 : catchT c ns ds G' hs with
    | ok y G2 => rw [e2] at h; rw [wp_ok] at h; show Ws (.rt y G2) N R B C X; rw [ws_rt]; exact h
    | exc c2 ns2 ds2 G2 => rw [e2] at h; rw [wp_exc] at h; show Ws (.exc c2 ns2 ds2 r G2) N R B C X; with_unfolding_all exact h
    | stuck => rw [e2] at h; rw [wp_stuck] at h; exact h.elim
  | stuck => rw [e] at h; rw [wp_stuck] at h; exact h.elim
end
end BL

set_option Elab.async false
set_option linter.all false
set_option maxRecDepth 100000
set_option maxHeartbeats 2000000
namespace BL
open PySem L2

/-! ### [e for x in a for y in b] -/
open Classical in
noncomputable def inLoop (td : Tg) (tt elt : De) (kp : Kp) (r : Ev) : List Im → List D → Hs → Rc
  | [], acc, G => if kpOk kp G then .ok acc G else .stuck
  | im :: its, acc, G => if kpOk kp G then (match td im r with
    | some r1 => (match dT tt r1 G with
      | .ok (.t (.bl true)) G2 => (match elt r1 G2 with
        | .ok d G3 => if acc.length < sizeLine then inLoop td tt elt kp r its (acc ++ [d]) G3 else .stuck
        | _ => .stuck)
      | .ok (.t (.bl false)) G2 => inLoop td tt elt kp r its acc G2
      | _ => .stuck)
    | none => .stuck) else .stuck
noncomputable def inRun (vs : List Nat) (di : Di) (td : Tg) (tt elt : De) (r : Ev) (acc : List D) (G : Hs) : Rc := match di r G with
  | .ok its kp G1 => inLoop td tt elt kp (wipeE r vs) its acc G1
  | _ => .stuck
open Classical in
noncomputable def outLoop (td : Tg) (tt : De) (inn : Ev → List D → Hs → Rc) (kp : Kp) (r : Ev) : List Im → List D → Hs → Rc
  | [], acc, G => if kpOk kp G then .ok acc G else .stuck
  | im :: its, acc, G => if kpOk kp G then (match td im r with
    | some r1 => (match dT tt r1 G with
      | .ok (.t (.bl true)) G2 => (match inn r1 acc G2 with
        | .ok acc' G3 => outLoop td tt inn kp r its acc' G3
        | .stuck => .stuck)
      | .ok (.t (.bl false)) G2 => outLoop td tt inn kp r its acc G2
      | _ => .stuck)
    | none => .stuck) else .stuck
noncomputable def comp2Run (own vs1 : List Nat) (di : Di) (td : Tg) (tt : De) (di1 : Di) (td1 : Tg) (tt1 elt : De) (k : List D → Hs → Re) : De := fun r G => match di r G with
  | .ok its kp G1 => (match outLoop td tt (inRun vs1 di1 td1 tt1 elt) kp (wipeE r own) its [] G1 with
    | .ok ds G2 => k ds G2
    | .stuck => .stuck)
  | .exc c ns ds G1 => .exc c ns ds G1
  | .stuck => .stuck
/-- the list at Da is being filled -/
structure Flw (g : Gm) (m1 : Nat → Addr) (n1 : Nat) (H1 : Hp) (Da : Addr) (τs : List (L2.St × Ev)) (acc : List D) (m : Nat → Addr) (G : Hs) (H : Hp) (xs : List V) : Prop where
  s : SR g m H G
  sl : ∀ p ∈ τs, Sl g m G.length H p.1 p.2
  x : Ex m1 n1 H1 m G.length H
  hD : H Da = some (.lst xs)
  rs : RpDs g m G.length G.length H acc xs
section
variable {g : Gm} {m1 m m' : Nat → Addr} {n1 : Nat} {H1 H H' : Hp} {Da : Addr} {τs : List (L2.St × Ev)} {acc : List D} {G G' : Hs} {xs : List V}
theorem Flw.ex (f : Flw g m1 n1 H1 Da τs acc m G H xs) (hr : Da ∈ g.rv) (x : Ex m G.length H m' G'.length H') (s : SR g m' H' G') : Flw g m1 n1 H1 Da τs acc m' G' H' xs :=
  ⟨s, fun p hp => Sl.ex x f.s (f.sl p hp), f.x.trans f.s x, x.kp _ _ f.hD (fun z => (f.s.rv Da hr).2 z) (by simp), RpDs.ex x f.s x.le (Nat.le_refl _) f.rs⟩
theorem Flw.app (f : Flw g m1 n1 H1 Da τs acc m G H xs) (hr : Da ∈ g.rv) (hn : H1 Da = none) (hz : xs.length < sizeLine) {d : D} {y : V} (ry : RpD g m G.length G.length H d y) : Flw g m1 n1 H1 Da τs (acc ++ [d]) m G (upd H Da (.lst (xs ++ [y]))) (xs ++ [y]) := by
  have hz' : (xs ++ [y]).length ≤ sizeLine := by rw [List.length_append]; exact hz
  obtain ⟨s6, mv6⟩ := f.s.grow (o' := .lst (xs ++ [y])) f.hD hr rfl hz'
  exact ⟨s6, fun p hp => Sl.mv mv6 (Nat.le_refl _) (f.sl p hp), Ex.grow f.x hn, upd_same, RpDs.append (RpDs.mv mv6 (Nat.le_refl _) (Nat.le_refl _) f.rs) ⟨y, [], rfl, RpD.mv mv6 (Nat.le_refl _) (Nat.le_refl _) ry, rfl⟩⟩
end
section
variable {Z : Zc} {is1 : List Nat} {di1 : Di} {td1 : Tg} {dt1 de : De}
def KpR (K : List D → Hs → Prop) : Rc → Prop
  | .ok acc G => K acc G
  | .stuck => False
/-- the inner loop -/
theorem in_of {gt1 : TG} {rv : List Addr}
    (hg : ∀ (g : Gm) (m : Nat → Addr) (n : Nat) (H : Hp) (σ : L2.St) (r r' : Ev) (im : Im) (v : V) (Q : L2.St → Hp → Prop), g.K = Z.K → Sl g m n H σ r → ImR g m n H im v → td1 im r = some r' →
      (∀ σ', σ'.length = σ.length → (∀ j, j ∉ is1 → σ'[j]? = σ[j]?) → Sl g m n H σ' r' → Q σ' H) → gt1 v σ H Q)
    {vs1 : List Nat} (his : ∀ i, i ∈ is1 → i ∈ vs1) {m1 m : Nat → Addr} {n1 : Nat} {H1 H : Hp} {Da : Addr} {τs : List (L2.St × Ev)} {acc : List D} {G : Hs} {xs : List V} {σ2 : L2.St} {r2 : Ev} {K : List D → Hs → Prop} {Nx : Hp → Prop}
    (hr : Da ∈ rv) (hn : H1 Da = none) (f : Flw (Z.g.rvd rv) m1 n1 H1 Da τs acc m G H xs) (sl2 : Sl (Z.g.rvd rv) m G.length H σ2 r2) (p : KpR K (inRun vs1 di1 td1 dt1 de r2 acc G))
    (hN : ∀ acc' m' G' H' xs', Flw (Z.g.rvd rv) m1 n1 H1 Da τs acc' m' G' H' xs' → K acc' G' → Nx H') :
    tII (Z.g.rvd rv) (fun _ _ _ _ => False) di1 σ2 H fun J1 H4 => ∃ W1 : Nat → Nat → Hp → Prop, (∃ k, W1 0 k H4) ∧ ∀ j k H, W1 j k H →
      (J1.stop j H ∧ Nx H) ∨ (J1.go j H ∧ ∃ Nx1 : Hp → Prop, (∀ H', Nx1 H' → ∃ k', k' < k ∧ W1 (j + 1) k' H') ∧ ∀ x H', J1.yld j H x H' → gt1 x (wipe σ2 vs1) H' fun σ3 H5 => wipe σ3 vs1 = wipe σ2 vs1 ∧ (∃ rv, tT (Z.g.rvd rv) (fun _ _ _ _ => False) dt1 σ3 H5 fun b H6 =>
        if b = true then (∃ rv, tI (Z.g.rvd rv) (fun _ _ _ _ => False) de σ3 H6 fun y H7 => ∃ acc, H7 Da = some (.lst acc) ∧ acc.length < sizeLine ∧ Nx1 (upd H7 Da (.lst (acc ++ [y])))) else Nx1 H6)) := by
  refine ⟨m, r2, G, f.s, sl2, ?_⟩
  unfold inRun at p
  cases e : di1 r2 G with
  | stuck => rw [e] at p; exact p
  | exc c ns ds G1 => rw [e] at p; exact p.elim
  | ok its kp G1 =>
    rw [e] at p
    intro J m3 H3 x3 s3 hk hsz hw
    have f3 := f.ex hr x3 s3
    have sl3 : Sl (Z.g.rvd rv) m3 G1.length H3 (wipe σ2 vs1) (wipeE r2 vs1) := (Sl.ex x3 f.s sl2).wipe vs1
    have hrv : ∀ a, a ∈ rv → a ∈ (Z.g.rvd rv).rv ∨ H3 a = none := fun a ha => .inl ha
    refine ⟨fun j k H' => ∃ m5 G5 acc5 xs5, Flw (Z.g.rvd rv) m1 n1 H1 Da ((wipe σ2 vs1, wipeE r2 vs1) :: τs) acc5 m5 G5 H' xs5 ∧ Exr (Z.g.rvd rv) m3 G1.length H3 m5 G5.length H' ∧ j ≤ its.length ∧ k = its.length - j ∧ KpR K (inLoop td1 dt1 de kp (wipeE r2 vs1) (its.drop j) acc5 G5), ?_, ?_⟩
    · refine ⟨its.length, m3, G1, acc, xs, ⟨f3.s, fun q hq => ?_, f3.x, f3.hD, f3.rs⟩, Ex.refl.r, Nat.zero_le _, rfl, by simpa using p⟩
      rcases List.mem_cons.mp hq with rfl | hq
      · exact sl3
      · exact f3.sl q hq
    · rintro j k H' ⟨m5, G5, acc5, xs5, f5, x5, hjl, hkk, p5⟩
      have drp : ∀ {acc' m' G' H'' xs'}, Flw (Z.g.rvd rv) m1 n1 H1 Da ((wipe σ2 vs1, wipeE r2 vs1) :: τs) acc' m' G' H'' xs' → Flw (Z.g.rvd rv) m1 n1 H1 Da τs acc' m' G' H'' xs' := fun f => ⟨f.s, fun q hq => f.sl q (List.mem_cons_of_mem _ hq), f.x, f.hD, f.rs⟩
      by_cases hj : j < its.length
      · right
        have hd : its.drop j = its[j] :: its.drop (j + 1) := List.drop_eq_getElem_cons hj
        rw [hd] at p5
        unfold inLoop at p5
        split at p5
        · rename_i hk5
          obtain ⟨hgo, hy⟩ := (hw rv j m5 H' G5 hrv f5.s x5 hk5).2 its[j] (List.getElem?_eq_getElem hj)
          refine ⟨hgo, fun H6 => ∃ m6 G6 acc6 xs6, Flw (Z.g.rvd rv) m1 n1 H1 Da ((wipe σ2 vs1, wipeE r2 vs1) :: τs) acc6 m6 G6 H6 xs6 ∧ Exr (Z.g.rvd rv) m3 G1.length H3 m6 G6.length H6 ∧ KpR K (inLoop td1 dt1 de kp (wipeE r2 vs1) (its.drop (j + 1)) acc6 G6), ?_, ?_⟩
          · rintro H6 ⟨m6, G6, acc6, xs6, f6, x6, p6⟩
            exact ⟨its.length - (j + 1), by omega, m6, G6, acc6, xs6, f6, x6, hj, rfl, p6⟩
          · intro x H6 hyl
            obtain ⟨x6, s6, ri⟩ := hy x H6 hyl
            have f6 := f5.ex hr x6 s6
            have x6' := x5.trans f5.s x6
            cases et : td1 its[j] (wipeE r2 vs1) with
            | none => rw [et] at p5; exact p5.elim
            | some r6 =>
              rw [et] at p5
              simp only at p5
              refine hg _ m5 G5.length H6 (wipe σ2 vs1) (wipeE r2 vs1) r6 its[j] x _ rfl (f6.sl _ List.mem_cons_self) ri et fun σ6 hl6 ho6 sl6 => ?_
              refine ⟨by rw [wipe_same vs1 is1 hl6 ho6 his, wipe_idem], rv, m5, r6, G5, s6, sl6, ?_⟩
              cases eT : dT dt1 r6 G5 with
              | stuck => rw [eT] at p5; exact p5.elim
              | exc _ _ _ _ => rw [eT] at p5; exact p5.elim
              | ok b G7 =>
                rw [eT] at p5
                intro v m7 H7 x7 s7 rv7 b' eb
                subst eb
                have f7 := f6.ex hr x7 s7
                have x7' := x6'.trans s6 x7
                have sl7 := Sl.ex x7 s6 sl6
                split at p5
                · rename_i q
                  cases q
                  cases rv7
                  refine ⟨rv, m7, r6, G7, s7, sl7, ?_⟩
                  cases eE : de r6 G7 with
                  | stuck => rw [eE] at p5; exact p5.elim
                  | exc _ _ _ _ => rw [eE] at p5; exact p5.elim
                  | ok d G8 =>
                    rw [eE] at p5
                    simp only at p5
                    split at p5
                    · rename_i hz
                      intro y m8 H8 x8 s8 ry
                      have f8 := f7.ex hr x8 s8
                      have x8' := x7'.trans s7 x8
                      have hz' : xs5.length < sizeLine := by rw [← f8.rs.length]; exact hz
                      exact ⟨xs5, f8.hD, hz', m8, G8, acc5 ++ [d], xs5 ++ [y], f8.app hr hn hz' ry, x8'.fill hr, p5⟩
                    · exact p5.elim
                · rename_i q
                  cases q
                  cases rv7
                  exact ⟨m7, G7, acc5, xs5, f7, x7', p5⟩
                · exact p5.elim
        · exact p5.elim
      · left
        have hl : its.length ≤ j := Nat.le_of_not_lt hj
        rw [List.drop_of_length_le hl] at p5
        unfold inLoop at p5
        split at p5
        · rename_i hk5
          exact ⟨(hw rv j m5 H' G5 hrv f5.s x5 hk5).1 (Nat.le_antisymm hjl hl), hN acc5 m5 G5 H' xs5 (drp f5) p5⟩
        · exact p5.elim
end
section
variable {Z : Zc} {elt tg iter tg1 iter1 : Expr} {ifs ifs1 : List Expr} {scope : Scope} {own : List (Str × Nat)} {is is1 vs1 : List Nat} {pos : Pos} {di di1 : Di} {td td1 : Tg} {dt dt1 de : De} {k : List D → Hs → Re}
theorem tLc2_of {W : WX} (fin : FinL Z.g k) {gt gt1 : TG}
    (hg : ∀ (g : Gm) (m : Nat → Addr) (n : Nat) (H : Hp) (σ : L2.St) (r r' : Ev) (im : Im) (v : V) (Q : L2.St → Hp → Prop), g.K = Z.K → Sl g m n H σ r → ImR g m n H im v → td im r = some r' →
      (∀ σ', σ'.length = σ.length → (∀ j, j ∉ is → σ'[j]? = σ[j]?) → Sl g m n H σ' r' → Q σ' H) → gt v σ H Q)
    (hg1 : ∀ (g : Gm) (m : Nat → Addr) (n : Nat) (H : Hp) (σ : L2.St) (r r' : Ev) (im : Im) (v : V) (Q : L2.St → Hp → Prop), g.K = Z.K → Sl g m n H σ r → ImR g m n H im v → td1 im r = some r' →
      (∀ σ', σ'.length = σ.length → (∀ j, j ∉ is1 → σ'[j]? = σ[j]?) → Sl g m n H σ' r' → Q σ' H) → gt1 v σ H Q)
    {vs : List Nat} (his : ∀ i, i ∈ is → i ∈ vs) (his1 : ∀ i, i ∈ is1 → i ∈ vs1) {σ : L2.St} {H : Hp} {Q : VK} (h : tI Z.g W (comp2Run vs vs1 di td dt di1 td1 dt1 de k) σ H Q) :
    tLc2 (tII Z.g W di) gt (fun σ H Q => ∃ rv, tT (Z.g.rvd rv) (fun _ _ _ _ => False) dt σ H Q) (fun σ H R => ∃ rv, tII (Z.g.rvd rv) (fun _ _ _ _ => False) di1 σ H R) gt1 (fun σ H Q => ∃ rv, tT (Z.g.rvd rv) (fun _ _ _ _ => False) dt1 σ H Q) (fun σ H Q => ∃ rv, tI (Z.g.rvd rv) (fun _ _ _ _ => False) de σ H Q) vs vs1 σ H Q := by
  obtain ⟨m, r, G, s, sl, p⟩ := h
  refine ⟨m, r, G, s, sl, ?_⟩
  unfold comp2Run at p
  cases e : di r G with
  | stuck => rw [e] at p; exact p
  | exc c ns ds G1 => rw [e] at p; exact p
  | ok its kp G1 =>
    rw [e] at p
    intro J m1 H1 x1 s1 hk hsz hw Da hDa
    have hnr : Da ∉ Z.g.rv := fun q => by
      obtain ⟨⟨xs, z, _⟩, _⟩ := s1.rv Da q
      rw [hDa] at z; cases z
    obtain ⟨s1', mv1⟩ := s1.begin (o := .lst []) rfl (Nat.zero_le _) hDa
    have p1 : CompPost Z.g W m1 G1.length H1 σ Q k (outLoop td dt (inRun vs1 di1 td1 dt1 de) kp (wipeE r vs) its [] G1) := by
      simp only at p
      cases ec : outLoop td dt (inRun vs1 di1 td1 dt1 de) kp (wipeE r vs) its [] G1 with
      | stuck => rw [ec] at p; exact p
      | ok ds G2 => rw [ec] at p; exact PostE.trans x1 s1 p
    have sl1 : Sl (Z.g.rvd (Da :: Z.g.rv)) m1 G1.length (upd H1 Da (.lst [])) (wipe σ vs) (wipeE r vs) := Sl.mv mv1 (Nat.le_refl _) ((Sl.ex x1 s sl).wipe vs)
    have hr : Da ∈ (Z.g.rvd (Da :: Z.g.rv)).rv := List.mem_cons_self
    refine ⟨fun i mm H' => ∃ m2 G2 acc xs, Flw (Z.g.rvd (Da :: Z.g.rv)) m1 G1.length H1 Da [(wipe σ vs, wipeE r vs)] acc m2 G2 H' xs ∧ i ≤ its.length ∧ mm = its.length - i ∧ CompPost Z.g W m1 G1.length H1 σ Q k (outLoop td dt (inRun vs1 di1 td1 dt1 de) kp (wipeE r vs) (its.drop i) acc G2),
      ⟨its.length, m1, G1, [], [], ⟨s1', fun q hq => by rw [List.mem_singleton.mp hq]; exact sl1, Ex.new hDa, upd_same, rfl⟩, Nat.zero_le _, rfl, by simpa using p1⟩, ?_⟩
    rintro i mm H' ⟨m2, G2, acc, xs, f2, hil, hmm, p2⟩
    have hrv : ∀ a, a ∈ Da :: Z.g.rv → a ∈ Z.g.rv ∨ H1 a = none := fun a ha => by
      rcases List.mem_cons.mp ha with rfl | q
      · exact .inr hDa
      · exact .inl q
    by_cases hi : i < its.length
    · right
      have hd : its.drop i = its[i] :: its.drop (i + 1) := List.drop_eq_getElem_cons hi
      rw [hd] at p2
      unfold outLoop at p2
      split at p2
      · rename_i hk2
        obtain ⟨hgo, hy⟩ := (hw (Da :: Z.g.rv) i m2 H' G2 hrv f2.s f2.x.r hk2).2 its[i] (List.getElem?_eq_getElem hi)
        refine ⟨hgo, fun H3 => ∃ m3 G3 acc3 xs3, Flw (Z.g.rvd (Da :: Z.g.rv)) m1 G1.length H1 Da [(wipe σ vs, wipeE r vs)] acc3 m3 G3 H3 xs3 ∧ CompPost Z.g W m1 G1.length H1 σ Q k (outLoop td dt (inRun vs1 di1 td1 dt1 de) kp (wipeE r vs) (its.drop (i + 1)) acc3 G3), ?_, ?_⟩
        · rintro H3 ⟨m3, G3, acc3, xs3, f3, p3⟩
          exact ⟨its.length - (i + 1), by omega, m3, G3, acc3, xs3, f3, hi, rfl, p3⟩
        · intro x H3 hyl
          obtain ⟨x3, s3, ri⟩ := hy x H3 hyl
          have f3 := f2.ex hr x3 s3
          cases et : td its[i] (wipeE r vs) with
          | none => rw [et] at p2; exact p2.elim
          | some r3 =>
            rw [et] at p2
            simp only at p2
            refine hg _ m2 G2.length H3 (wipe σ vs) (wipeE r vs) r3 its[i] x _ rfl (f3.sl _ List.mem_cons_self) ri et fun σ3 hl3 ho3 sl3 => ?_
            refine ⟨by rw [wipe_same vs is hl3 ho3 his, wipe_idem], Da :: Z.g.rv, m2, r3, G2, s3, sl3, ?_⟩
            cases eT : dT dt r3 G2 with
            | stuck => rw [eT] at p2; exact p2.elim
            | exc _ _ _ _ => rw [eT] at p2; exact p2.elim
            | ok b G4 =>
              rw [eT] at p2
              intro v m4 H4 x4 s4 rv4 b' eb
              subst eb
              have f4 := f3.ex hr x4 s4
              have sl4 := Sl.ex x4 s3 sl3
              split at p2
              · rename_i q
                cases q
                cases rv4
                refine ⟨Da :: Z.g.rv, in_of (Z := Z) hg1 his1 (K := fun acc' G' => CompPost Z.g W m1 G1.length H1 σ Q k (outLoop td dt (inRun vs1 di1 td1 dt1 de) kp (wipeE r vs) (its.drop (i + 1)) acc' G')) List.mem_cons_self hDa f4 sl4 ?_ fun acc' m' G' H5 xs' f5 hK => ⟨m', G', acc', xs', f5, hK⟩⟩
                cases ei : inRun vs1 di1 td1 dt1 de r3 acc G4 with
                | stuck => rw [ei] at p2; exact p2
                | ok acc' G5 => rw [ei] at p2; exact p2
              · rename_i q
                cases q
                cases rv4
                exact ⟨m4, G4, acc, xs, f4, p2⟩
              · exact p2.elim
      · exact p2.elim
    · left
      have hl : its.length ≤ i := Nat.le_of_not_lt hi
      rw [List.drop_of_length_le hl] at p2
      unfold outLoop at p2
      split at p2
      · rename_i hk2
        exact ⟨(hw (Da :: Z.g.rv) i m2 H' G2 hrv f2.s f2.x.r hk2).1 (Nat.le_antisymm hil hl), fin W m1 m2 G1.length H1 H' G2 σ Q Da acc xs hDa hnr f2.x f2.s f2.hD f2.rs p2⟩
      · exact p2.elim
theorem PI.some {ι : Type} {X : Cx} {tg e : Expr} {t : ι → TI} (h : ∀ i, PI X tg e (t i)) : PI X tg e (fun σ H Q => ∃ i, t i σ H Q) := ⟨fun pins s σ H Q I ⟨i, z⟩ => (h i).run pins s σ H Q I z⟩
theorem pd_lc2 (fin : ∀ g, FinL g k) (hi : PDI Z tg iter di) (hb : BlkOk Z.N Z.sc scope own) (hg : PDG (Z.blk scope []) tg is td) (his : ∀ i, i ∈ is → i ∈ own.map (·.2)) (ht : ∀ rv, PDTs (Z.blk scope rv) ifs dt)
    (hi1 : ∀ rv, PDI (Z.blk scope rv) tg1 iter1 di1) (hg1 : PDG (Z.blk scope []) tg1 is1 td1) (his1 : ∀ i, i ∈ is1 → i ∈ vs1) (hv : ∀ i ∈ vs1, i ∈ own.map (·.2)) (ht1 : ∀ rv, PDTs (Z.blk scope rv) ifs1 dt1) (he : ∀ rv, PD (Z.blk scope rv) elt de)
    (hs : ∀ env x, foldedSetIterable iter env x = pure x := by intro _ _; rfl) (hs1 : ∀ env x, foldedSetIterable iter1 env x = pure x := by intro _ _; rfl) :
    PD Z (.ListComp elt [⟨tg, iter, ifs, 0⟩, ⟨tg1, iter1, ifs1, 0⟩] scope pos) (comp2Run (own.map (·.2)) vs1 di td dt di1 td1 dt1 de k) := fun X W ok => by
  obtain ⟨gt, hgt, hg⟩ := hg
  obtain ⟨gt1, hgt1, hg1⟩ := hg1
  refine peI (pe_lc2 (own := own) (g := gt) (g1 := gt1) (vs1 := vs1) ok.calm ok.nd (hi X W ok) (by rw [ok.N, ok.sc]; exact hb) hv (fun s H C cl fp => hgt _ _ (ok.blk s H scope cl C fp []))
    (fun s H C cl fp => PTs.some fun rv => ht rv _ _ (ok.blk s H scope cl C fp rv)) (fun s H C cl fp => PI.some fun rv => hi1 rv _ _ (ok.blk s H scope cl C fp rv)) (fun s H C cl fp => hgt1 _ _ (ok.blk s H scope cl C fp [])) (fun s H C cl fp => PTs.some fun rv => ht1 rv _ _ (ok.blk s H scope cl C fp rv))
    (fun s H C cl fp => PE.some fun rv => he rv _ _ (ok.blk s H scope cl C fp rv)) (hs _) hs1) fun σ H Q h => ?_
  exact tLc2_of (Z := Z) (fin _) hg hg1 his his1 h
end
/-! ### read backwards -/
section
variable {Q : D → Hs → Prop} {E : XP} {G : Hs} {r : Ev}
theorem e_comp2 {own vs1 : List Nat} {r0 : Ev} {di di1 : Di} {td td1 : Tg} {tt tt1 elt : De} {k : List D → Hs → Re} (hr : wipeE r own = r0) (h : Wi (di r G) (fun its kp G1 => Wc (outLoop td tt (inRun vs1 di1 td1 tt1 elt) kp r0 its [] G1) (fun ds G2 => Wp (k ds G2) Q E)) E) : Wp (comp2Run own vs1 di td tt di1 td1 tt1 elt k r G) Q E := by
  unfold comp2Run
  cases e : di r G with
  | ok its kp G1 =>
    rw [e] at h
    simp only [Wi] at h
    simp only
    rw [hr]
    cases e2 : outLoop td tt (inRun vs1 di1 td1 tt1 elt) kp r0 its [] G1 with
    | ok ds G2 => rw [e2] at h; simp only; with_unfolding_all exact h
    | stuck => rw [e2] at h; exact False.elim (by with_unfolding_all exact h)
  | exc c ns ds G1 => rw [e] at h; with_unfolding_all exact h
  | stuck => rw [e] at h; with_unfolding_all exact h
/-- the outer loop over singles, without tests -/
theorem c_out {i : Nat} {inn : Ev → List D → Hs → Rc} {kp : Kp} {ds : List D} (I : Nat → List D → Hs → Prop) {K : List D → Hs → Prop} (h0 : I 0 [] G) (hk : ∀ n acc G, I n acc G → kpOk kp G)
    (hs : ∀ (n : Nat) acc G d, ds[n]? = some d → I n acc G → Wc (inn (r.set i (some d)) acc G) (I (n + 1))) (he : ∀ acc G, I ds.length acc G → K acc G) : Wc (outLoop (gN i) dYes inn kp r (ds.map Im.one) [] G) K := by
  have main : ∀ (l : List D) (n : Nat) (acc : List D) (G : Hs), ds.drop n = l → n + l.length = ds.length → I n acc G → Wc (outLoop (gN i) dYes inn kp r (l.map Im.one) acc G) K := by
    intro l
    induction l with
    | nil =>
      intro n acc G _ hl hI
      unfold outLoop
      rw [List.map_nil]
      simp only
      rw [if_pos (hk n acc G hI)]
      have : n = ds.length := by simpa using hl
      subst this
      with_unfolding_all exact he acc G hI
    | cons d l ih =>
      intro n acc G hd hl hI
      rw [List.map_cons]
      unfold outLoop
      rw [if_pos (hk n acc G hI)]
      have hn : ds[n]? = some d := by
        have := congrArg (fun l : List D => l[0]?) hd
        simpa using this
      have h1 := hs n acc G d hn hI
      have et : gN i (Im.one d) r = some (r.set i (some d)) := rfl
      rw [et]
      have ey : dT dYes (r.set i (some d)) G = .ok (.t (.bl true)) G := rfl
      simp only [ey]
      have hd' : ds.drop (n + 1) = l := by
        have := congrArg List.tail hd
        simpa using this
      have hl' : n + 1 + l.length = ds.length := by rw [← hl, List.length_cons]; omega
      cases ei : inn (r.set i (some d)) acc G with
      | stuck => rw [ei] at h1; exact False.elim (by with_unfolding_all exact h1)
      | ok acc' G' => rw [ei] at h1; exact ih (n + 1) acc' G' hd' hl' (by with_unfolding_all exact h1)
  exact main ds 0 [] G rfl (by simp) h0
/-- the inner loop over singles, without tests -/
theorem c_in {i : Nat} {vs : List Nat} {di : Di} {elt : De} {acc : List D} {K : List D → Hs → Prop}
    (h : Wi (di r G) (fun its kp G1 => ∃ ds : List D, its = ds.map Im.one ∧ ∃ I : Nat → List D → Hs → Prop, I 0 acc G1 ∧ (∀ n acc G, I n acc G → kpOk kp G) ∧
      (∀ (n : Nat) acc G d, ds[n]? = some d → I n acc G → Wp (elt ((wipeE r vs).set i (some d)) G) (fun d G' => acc.length < sizeLine ∧ I (n + 1) (acc ++ [d]) G') (fun _ _ _ _ => False)) ∧ ∀ acc G, I ds.length acc G → K acc G) (fun _ _ _ _ => False)) :
    Wc (inRun vs di (gN i) dYes elt r acc G) K := by
  unfold inRun
  cases e : di r G with
  | stuck => rw [e] at h; with_unfolding_all exact h
  | exc c ns ds G1 => rw [e] at h; exact False.elim (by with_unfolding_all exact h)
  | ok its kp G1 =>
    rw [e] at h
    simp only [Wi] at h
    obtain ⟨ds, rfl, I, h0, hk, hs, he⟩ := h
    simp only
    have main : ∀ (l : List D) (n : Nat) (acc : List D) (G : Hs), ds.drop n = l → n + l.length = ds.length → I n acc G → Wc (inLoop (gN i) dYes elt kp (wipeE r vs) (l.map Im.one) acc G) K := by
      intro l
      induction l with
      | nil =>
        intro n acc G _ hl hI
        unfold inLoop
        rw [List.map_nil]
        simp only
        rw [if_pos (hk n acc G hI)]
        have : n = ds.length := by simpa using hl
        subst this
        with_unfolding_all exact he acc G hI
      | cons d l ih =>
        intro n acc G hd hl hI
        rw [List.map_cons]
        unfold inLoop
        rw [if_pos (hk n acc G hI)]
        have hn : ds[n]? = some d := by
          have := congrArg (fun l : List D => l[0]?) hd
          simpa using this
        have h1 := hs n acc G d hn hI
        have et : gN i (Im.one d) (wipeE r vs) = some ((wipeE r vs).set i (some d)) := rfl
        rw [et]
        have ey : dT dYes ((wipeE r vs).set i (some d)) G = .ok (.t (.bl true)) G := rfl
        simp only [ey]
        have hd' : ds.drop (n + 1) = l := by
          have := congrArg List.tail hd
          simpa using this
        have hl' : n + 1 + l.length = ds.length := by rw [← hl, List.length_cons]; omega
        obtain ⟨y, G', ee, hz, hI'⟩ := h1.ex
        rw [ee]
        simp only
        rw [if_pos hz]
        exact ih (n + 1) _ G' hd' hl' hI'
    exact main ds 0 acc G1 rfl (by simp) h0
end
end BL

set_option Elab.async false
set_option linter.all false
set_option maxRecDepth 100000
set_option maxHeartbeats 2000000
namespace BL
open PySem PySem.Spec PyProof.Rows L2 ClX

/-! ### C.m(..), m a classmethod -/
def isCm (K : PySem.W.Frag) (C p : Addr) : Option PySem.W.CFound → Bool
  | some (.get f x y z) => (f == .builtin "classmethod.__get__") && ((x == .ref p) && ((y == .none) && (z == .ref C)))
  | _ => false
theorem isCm_ok {K : PySem.W.Frag} {C p : Addr} {o : Option PySem.W.CFound} (h : isCm K C p o = true) : o = some (.get (.builtin "classmethod.__get__") (.ref p) .none (.ref C)) := by
  unfold isCm at h
  split at h
  · obtain ⟨h1, h⟩ := He.ba h
    obtain ⟨h2, h⟩ := He.ba h
    obtain ⟨h3, h4⟩ := He.ba h
    rw [beq_iff_eq.mp h1, beq_iff_eq.mp h2, beq_iff_eq.mp h3, beq_iff_eq.mp h4]
  · cases h
structure ClsM (K : PySem.W.Frag) (C : Addr) (m : Str) (p g : Addr) : Prop where
  rd : CRead K C (.type "type")
  mt : CMet K C (.type "type") m p g
def clsMB (K : PySem.W.Frag) (q : Str × Str) : Bool := PySem.W.readsIn K (He.ga K q.1) (.type "type") && (He.eqO (PySem.W.specialIn K (.ref (He.ga K q.1)) "__getattribute__") (some (some (.builtin "type.__getattribute__"))) &&
  (isCm K (He.ga K q.1) (prpAd K q) (PySem.W.findCls K (.ref (He.ga K q.1)) (.type "type") q.2) && (PySem.W.fnIn K (getAd K q) && (match PySem.W.recIn K (prpAd K q) "classmethod" with
    | some (.ref g :: _) => decide (g = getAd K q)
    | _ => false))))
theorem clsMB_ok {K : PySem.W.Frag} {q : Str × Str} (h : clsMB K q = true) : ClsM K (He.ga K q.1) q.2 (prpAd K q) (getAd K q) := by
  obtain ⟨h1, h⟩ := He.ba h
  obtain ⟨h2, h⟩ := He.ba h
  obtain ⟨h3, h⟩ := He.ba h
  obtain ⟨h4, h5⟩ := He.ba h
  refine ⟨⟨h1, He.eqO_ok h2⟩, ⟨isCm_ok h3, ?_, h4⟩⟩
  split at h5
  · rename_i g rest e
    have eg := of_decide_eq_true h5
    exact ⟨rest, by rw [e, eg]⟩
  · cases h5
/-- the callee runs, its errors taken at these slots -/
theorem run_at {X : Cx} {pins : List (Addr × Obj)} {σ : L2.St} {H : Hp} {s : Shared} {CX : CXT} {k : Nat} {f : Addr} {sp : Sp} {E : XK} {Q : VK} {us : List Value} {vs : List V} (F : FnR X.prog X.w X.K X.mg X.base CX k f sp) (hr : Room k X.A) (hx : PassesAt CX X σ E) (I : L2.Inv X pins σ H s) (r : Vals vs us) (h : sp vs H Q E) :
    codeAny (model X.prog X.w) X.A (.call (.ref f) ⟨us, []⟩) (fun r s' => match r with | .ok (.ret v) => EP X pins σ Q v s' | .ok _ => False | .error e => X.xe e s') s := by
  refine codeAny_mono (F X.A X.stack s H us vs Q E hr I.env0 r h) fun res s' hq => ?_
  cases res with
  | error e => exact hx pins H s e s' I hq
  | ok fl =>
    cases fl with
    | ret u => exact I.after hq
    | next => exact hq.elim
    | brk => exact hq.elim
    | cont => exact hq.elim
def dClsM (c : Nat) (das : List De) (F : Fd) (dts : List T) : De := dArgs das (fun ds G => F (.t (.cls c) :: (ds ++ dts.map D.t)) G)
section
variable {Z : Zc} {x m : Str} {e : Expr} {es : List Expr} {das : List De} {F : Fd} {k c : Nat} {f pa : Addr} {ps : List Str} {dts : List T} {p pos apos : Pos} {pl : Env → Sem Bool}
theorem pd_clsM (hm : Z.mg x = some (.ref (Z.ca c))) (hM : ClsM Z.K (Z.ca c) m pa f) (h : Ca Z.toZb k f ps F dts) (hk : k ≤ Z.k) (ha : PDA Z (e :: es) das) (hn : das.length + dts.length + 1 = ps.length) (hg : GlS Z x := by rfl) (hdb : (x == ("__debug__" : Str)) = false := by decide)
    (he : ∀ env, starEach (e :: es) env = (false, eval e env) :: starEach es env := by intro _; rfl) (hpl : ∀ env, (backTo pos (starEach es env)).any (·.1) = false := by intro _; rfl) (ht : MethEval pl (.Name x p) m apos (e :: es) pos := by intro _; rfl) :
    PD Z (.Call (.Attribute (.Name x p) m apos) (e :: es) [] pos) (dClsM c das F dts) := fun X W ok => by
  obtain ⟨fd, dvs, dus, h1, h2, h3, h4⟩ := h.ex
  have hF : FnOk X.prog X.w X.K X.mg X.base (L2.CX X.prog X.w) k f fd ps (spD Z.g ps.length F) := by rw [ok.P, ok.w, ok.K, ok.mg, ok.base]; exact h1.ok
  have hR := hF.raw (ds := dus) (dvs := dvs) (by rw [ok.K]; exact h2) h3
  refine ⟨fun pins s σ H Q I h0 => ?_⟩
  obtain ⟨mm, r, G, s0, sl, p⟩ := h0
  have main : tCMeth (Z.ca c) (fun vs H Q E => spD Z.g ps.length F (vs ++ dvs) H Q E) (fun cl d H' => W cl d σ H') (tC (.ref (Z.ca c))) (tCs (das.map (tI Z.g W))) σ H Q := by
    refine ⟨rfl, ?_⟩
    refine tA_of s0 sl p fun ds G2 vs m2 H2 x2 s2 sl2 rs hl p2 => ?_
    have rd : RpDs Z.g m2 G2.length G2.length H2 (dts.map D.t) dvs := RpDs.ofT (h4 _ _)
    refine ⟨?_, Z.g.rv, m2, G2, .t (.cls c) :: (ds ++ dts.map D.t), s2, ⟨_, _, rfl, rfl, RpDs.append rs rd⟩, PostF.eq p2⟩
    show (vs ++ dvs).length + 1 = _
    rw [List.length_append, ← rs.length, ← rd.length, List.length_map, hl]; exact hn
  obtain ⟨_, q⟩ := main
  refine PySem.W.methodCall_KW (pl := pl X.env) (thn ((pe_glob (v := .ref (Z.ca c)) (u := .ref (Z.ca c)) (show X.env.scope.names.lookup x = _ by rw [ok.sc]; exact hg) (by rw [ok.mg]; exact hm) rfl hdb).run pins s σ H (fun v H1 => v = .ref (Z.ca c) ∧ tCs (das.map (tI Z.g W)) σ H1 fun vs H2 => spD Z.g ps.length F ((.ref (Z.ca c) :: vs) ++ dvs) H2 Q (fun cl d H' => W cl d σ H')) I ⟨rfl, q⟩) fun u s1 hq => ?_) (ht _)
  obtain ⟨v, H1, I1, rv, ev, q1⟩ := hq
  subst ev
  obtain rfl : u = Value.ref (Z.ca c) := rv
  have hC : CMet X.K (Z.ca c) (.type "type") m pa f := by rw [ok.K]; exact hM.mt
  refine getmethcm_ok I1 (by rw [ok.K]; exact hM.rd) hC fun s2 I2 => ?_
  refine callwith_cm I2 (base_none I1 (Nat.le_refl _)) hC.fi (thn ((ha X W ok).run pos _ s2 σ H1 _ I2 q1) fun us s3 ⟨vs, H2, I3, rv, q2⟩ => ⟨⟨pin_at I3, I3.kIn⟩, ?_⟩) (he _) (hpl _)
  have z := wpAny_call (PySem.W.method_call (pin_at I3) (run_at (us := .ref (Z.ca c) :: us) (vs := .ref (Z.ca c) :: vs) hR (ok.rm.mono hk) (passAt ok.tk σ) I3 (.cons rfl rv) q2))
  exact thn z fun _ _ y => unpinE y
end
/-! ### cls(..), cls a name that holds a class -/
def dMakeV (i c : Nat) (das : List De) (F : Fd) (dts : List T) : De := fun r G => match r[i]? with
  | some (some (.t (.cls c'))) => if c' = c then dMake c das F dts r G else .stuck
  | _ => .stuck
section
variable {Z : Zc} {x : Str} {e : Expr} {es : List Expr} {das : List De} {F : Fd} {k c i : Nat} {f : Addr} {ps : List Str} {dts : List T} {p pos : Pos}
theorem pd_makeV (hM : Mk Z.K (Z.ca c) f) (h : Ca Z.toZb k f ps F dts) (hk : k + 1 ≤ Z.k) (ha : PDA Z (e :: es) das) (hn : das.length + dts.length + 1 = ps.length) (hN : Z.N[i]? = some x := by rfl) (hv : Vis Z.sc x := by first | exact Or.inl rfl | exact Or.inr (Or.inl rfl) | exact Or.inr (Or.inr rfl))
    (hdb : (x == ("__debug__" : Str)) = false := by decide) (hcd : (x == ("__classdict__" : Str)) = false := by decide) (he : ∀ env, starEach (e :: es) env = (false, eval e env) :: starEach es env := by intro _; rfl) (hpl : ∀ env, (backTo pos (starEach es env)).any (·.1) = false := by intro _; rfl) :
    PD Z (.Call (.Name x p) (e :: es) [] pos) (dMakeV i c das F dts) := fun X W ok => by
  obtain ⟨fd, dvs, dus, h1, h2, h3, h4⟩ := h.ex
  refine ⟨fun pins s σ H Q I h0 => ?_⟩
  obtain ⟨mm, r, G, s0, sl, p⟩ := h0
  have hF : FnOk X.prog X.w X.K X.mg X.base (L2.CX X.prog X.w) k f fd ps (spD Z.g ps.length F) := by rw [ok.P, ok.w, ok.K, ok.mg, ok.base]; exact h1.ok
  have hM' : Mk X.K (Z.ca c) f := by rw [ok.K]; exact hM
  have hz : r[i]? = some (some (.t (.cls c))) ∧ PostE Z.g W mm G.length H σ Q (dMake c das F dts r G) := by
    unfold dMakeV at p
    split at p
    · rename_i c' e1
      split at p
      · rename_i e2
        subst e2
        exact ⟨e1, p⟩
      · exact p.elim
    · exact p.elim
  obtain ⟨er, p⟩ := hz
  have main := tA_of (R := fun vs H1 => ∀ x0 dx, H1 x0 = none → H1 dx = none → dx ≠ x0 → spD Z.g ps.length F (.ref x0 :: (vs ++ dvs)) (upd (upd H1 dx (.own x0)) x0 (.ins (Z.ca c) dx [])) (fun v H2 => v = .non ∧ Q (.ref x0) H2) (fun cl d H' => W cl d σ H')) s0 sl p fun ds G1 vs m1 H1 x1 s1 sl1 rs hl p1 => make_sp ok (by rw [hl]; exact hn) h4 s1 rs p1
  obtain ⟨v, ev, rv⟩ := sl.2 i _ er
  obtain rfl : v = .ref (Z.ca c) := rv
  refine wpAny_Call_Name_kw (thn ((pe_var (i := i) (by rw [ok.N]; exact hN) (by rw [ok.sc]; exact hv) hdb hcd).run pins s σ H (fun v H1 => v = .ref (Z.ca c) ∧ H1 = H) I ⟨.ref (Z.ca c), ev, rfl, rfl⟩) fun u s1 hq => ?_)
  obtain ⟨v1, H1, I1, rv1, ev1, eH⟩ := hq
  subst ev1
  subst eH
  obtain rfl : u = Value.ref (Z.ca c) := rv1
  refine PySem.W.callWith_K (h₀ := X.base) I1.ok.mod.kin hM'.kp (thn ((ha X W ok).run pos pins s1 σ H1 _ I1 main) fun us s2 hq => ?_) (he _) (hpl _)
  obtain ⟨vs, H2, I2, r2, q⟩ := hq
  have hB : Binds X.K fd ps dus := by rw [ok.K]; exact h2
  exact ⟨I2.kIn, run_makeSD hM' hF (ok.rm.mono hk) hB h3 (passAt ok.tk σ) I2 r2 q⟩
end
/-! ### l.index(i), a list of ints -/
def fLix : D → List D → Hs → Re := fun x ds G => match ds with
  | [.t (.int i)] => (match asL G x with
    | some es => (match intsT es with
      | some is => (match is.findIdx? (· == i) with
        | some j => .ok (.t (.int (j : Nat))) G
        | none => .stuck)
      | none => .stuck)
    | none => .stuck)
  | _ => .stuck
theorem a_lix {g : Gm} (K : PySem.W.Frag) (hK : K = g.K) : MtA g K "list" (rIndex K) fLix isL := by
  refine ⟨isL_ty hK, ?_⟩
  subst hK
  intro W m H G σ Q x ds v vs s rx rs p
  unfold fLix at p
  split at p
  · rename_i i
    obtain ⟨u, rfl, ru⟩ := rpds1 rs
    cases ru
    cases e1 : asL G x with
    | none => rw [e1] at p; exact p.elim
    | some es =>
      rw [e1] at p
      simp only at p
      cases e2 : intsT es with
      | none => rw [e2] at p; exact p.elim
      | some is =>
        rw [e2] at p
        simp only at p
        cases e3 : is.findIdx? (· == i) with
        | none => rw [e3] at p; exact p.elim
        | some j =>
          rw [e3] at p
          obtain ⟨a, xs, rfl, h, r'⟩ := asL_rp s rx e1
          rw [ints_rp e2 r'] at h
          obtain ⟨hj, h1, h2⟩ := List.findIdx?_eq_some_iff_getElem.mp e3
          refine ⟨a, is.map V.int, .int i, j, .int is[j], rfl, rfl, h, rfl, List.all_eq_true.mpr fun z hz => ?_, by rw [List.getElem?_map, List.getElem?_eq_getElem hj]; rfl, ?_, fun n z hn hz => ?_, PostE.ok s p rfl⟩
          · obtain ⟨q, _, rfl⟩ := List.mem_map.mp hz; rfl
          · simpa [eqV] using h1
          · rw [List.getElem?_map, List.getElem?_eq_getElem (Nat.lt_trans hn hj)] at hz
            cases hz
            simpa [eqV] using h2 n hn
  · exact p.elim
section
variable {Z : Zc} {o e : Expr} {do_ de : De} {apos cpos : Pos}
theorem pd_lix (ho : PD Z o do_) (he : PD Z e de) (hbase : ∀ env, attributeBase o "index" env (eval o env) = eval o env := by intro _; rfl)
    (hline : (apos.endLine == cpos.line) = true := by rfl) (hs : ∀ env, starEach [e] env = (false, eval e env) :: starEach [] env := by intro _; rfl) : PD Z (.Call (.Attribute o "index" apos) [e] [] cpos) (dBm isL fLix do_ [de]) :=
  pd_bm (q := fun X => rIndex X.K) PySem.F.plainAttrs_list PySem.F.slot_list_index PySem.F.type_list_index (fun _ _ _ => mt_index) (fun X W ok => a_lix X.K ok.Kg) ho (pda_cons he pda_nil hs) hbase (fun env => by rw [hs]; rfl) hline hs (fun _ => rfl)
end
/-! ### x in l, data of any depth, l a list -/
def fInD (neg : Bool) : D → D → Hs → Re := fun x y G => match x, asD G y with
  | .t u, some (.lst ts) => if (cmpT u = true ∧ cmpTs ts = true) ∧ (dep u ≤ 64 ∧ deps ts ≤ 63) then .ok (.t (.bl (if neg then !ts.any (fun t => teq t u) else ts.any (fun t => teq t u)))) G else .stuck
  | _, _ => .stuck
theorem a_inDl {g : Gm} (K : PySem.W.Frag) (hK : K = g.K) {neg : Bool} {W : WX} {m : Nat → Addr} {H : Hp} {G : Hs} {σ : L2.St} {Q : VK} {x y : D} {v u : V} (s : SR g m H G) (rx : RpD g m G.length G.length H x v) (ry : RpD g m G.length G.length H y u) (p : PostE g W m G.length H σ Q (fInD neg x y G)) :
    ∃ d ds, Dp K H v d ∧ Dp K H u (.list ds) ∧ SeqAt.shaped d = true ∧ SeqAt.shaped (.list ds) = true ∧ Q (.bl (if neg then !ds.any (fun z => PyData.eqv z d) else ds.any (fun z => PyData.eqv z d))) H := by
  subst hK
  unfold fInD at p
  split at p
  · rename_i a ts ey
    split at p
    · rename_i h
      obtain ⟨⟨c1, c2⟩, c3, c4⟩ := h
      have qa := Rp.dp a v c1 rx
      have qb := asD_dp s ry ey (show cmpT (.lst ts) = true by simpa [cmpT] using c2)
      refine ⟨toP a, toPs ts, qa.1, by simpa [toP] using qb.1, ?_, ?_, ?_⟩
      · unfold SeqAt.shaped
        rw [qa.2, dep_P a c1]
        simpa using c3
      · unfold SeqAt.shaped
        rw [show (PyData.list (toPs ts)).canLay0 = true by simpa [toP] using qb.2]
        rw [Bool.true_and]
        refine decide_eq_true ?_
        have : (PyData.list (toPs ts)).depth = deps ts + 1 := by show PyData.depthAll (toPs ts) + 1 = _; rw [deps_P ts c2]
        omega
      · rw [toPs_any]
        exact PostE.ok s p rfl
    · exact p.elim
  · exact p.elim
theorem isB_inD {p : Bool} : IsB (fInD p) := by
  intro x y G d G' e
  unfold fInD at e
  split at e
  · split at e
    · cases e; exact ⟨_, rfl⟩
    · cases e
  · cases e
section
variable {Z : Zc} {a b : Expr} {da db : De} {pos : Pos}
theorem pd_inD (ha : PD Z a da) (hb : PD Z b db) (hm : behindInMarks .In b = false := by rfl) : PD Z (.Compare a [.In] [b] pos) (dBin (fInD false) da db) :=
  pd_cmp (fun X => rInD X.K) (fun X _ ok => op_inD ok.u65) (fun _ _ ok => fun _ _ _ _ _ _ _ _ _ _ s rx ry p => a_inDl _ ok.Kg (neg := false) s rx ry p) ha hb hm
theorem pdt_inD (ha : PD Z a da) (hb : PD Z b db) (hm : behindInMarks .In b = false := by rfl) : PDT Z (.Compare a [.In] [b] pos) (dBin (fInD false) da db) :=
  pdt_cmp (fun X => rInD X.K) (fun X _ ok => op_inD ok.u65) (fun _ _ ok => fun _ _ _ _ _ _ _ _ _ _ s rx ry p => a_inDl _ ok.Kg (neg := false) s rx ry p) isB_inD ha hb hm
theorem pd_notInD (ha : PD Z a da) (hb : PD Z b db) (hm : behindInMarks .NotIn b = false := by rfl) : PD Z (.Compare a [.NotIn] [b] pos) (dBin (fInD true) da db) :=
  pd_cmp (fun X => rNotInD X.K) (fun X _ ok => op_notInD ok.u65) (fun _ _ ok => fun _ _ _ _ _ _ _ _ _ _ s rx ry p => a_inDl _ ok.Kg (neg := true) s rx ry p) ha hb hm
theorem pdt_notInD (ha : PD Z a da) (hb : PD Z b db) (hm : behindInMarks .NotIn b = false := by rfl) : PDT Z (.Compare a [.NotIn] [b] pos) (dBin (fInD true) da db) :=
  pdt_cmp (fun X => rNotInD X.K) (fun X _ ok => op_notInD ok.u65) (fun _ _ ok => fun _ _ _ _ _ _ _ _ _ _ s rx ry p => a_inDl _ ok.Kg (neg := true) s rx ry p) isB_inD ha hb hm
end
/-! ### [x, *e] -/
def fConsS : D → D → Hs → Re := fun x y G => match x, rowOf y with
  | .t u, some ts => if ts.length + 1 ≤ sizeLine then .ok (.t (.lst (u :: ts))) G else .stuck
  | _, _ => .stuck
section
variable {Z : Zc} {a b : Expr} {da db : De} {p pos : Pos}
theorem pd_consS (ha : PD Z a da) (hb : PD Z b db) (hs : ∀ env, starEach [a, .Starred b p] env = (false, eval a env) :: starEach [.Starred b p] env := by intro _; rfl) (hs2 : ∀ env, starEach [.Starred b p] env = (true, eval b env) :: starEach [] env := by intro _; rfl) : PD Z (.List [a, .Starred b p] pos) (dBin fConsS da db) := fun X W ok => by
  refine peI (pe_lst (pa_cons (ha X W ok) (StX.pa_star (hb X W ok) pa_nil (hs2 _)) (hs _))) fun σ H Q h => ?_
  obtain ⟨m, r, G, s, sl, q⟩ := h
  refine tI_bind s sl q fun x G1 v m1 H1 e1 x1 s1 sl1 rv p1 => ?_
  refine tI_bind s1 sl1 p1 fun y G2 u m2 H2 e2 x2 s2 sl2 ru p2 => ?_
  unfold fConsS at p2
  split at p2
  · rename_i t ts ey
    split at p2
    · rename_i hz
      obtain ⟨l, xs, ev, hl, rs⟩ := rowOf_rp ru ey
      have r1 : Rp Z.g.toGm0 (Bv Z.g m2 G2.length) H2 t v := RpD.ex x2 s1 x2.le (Nat.le_refl _) rv
      have r2 : Rps Z.g.toGm0 (Bv Z.g m2 G2.length) H2 (t :: ts) (v :: xs) := ⟨v, xs, rfl, r1, rs⟩
      have hz' : (v :: xs).length ≤ sizeLine := by rw [← r2.length]; exact hz
      refine ⟨l, xs, ev, by rw [show X.K = Z.g.K from ok.K]; exact hl, ?_⟩
      show ((v :: (xs ++ [])).length ≤ sizeLine ∧ _)
      rw [List.append_nil]
      exact ⟨hz', fun q hq => p2 _ _ _ (Ex.new hq) (s2.new hq hz') ⟨q, _, rfl, .here upd_same (s2.notBd hq), Rps.ex (Ex.new hq) s2 _ _ r2⟩⟩
    · exact p2.elim
  · exact p2.elim
end
/-! ### l.extend(k), both located -/
def fExt : D → List D → Hs → Re := fun x ds G => match x, ds with
  | .loc i, [.loc j] => (match G[i]?, G[j]? with
    | some (.lst es), some (.lst fs) => if es.length + fs.length ≤ sizeLine ∧ fs.all (okIn 0) = true then .ok (.t .non) (G.set i (.lst (es ++ fs))) else .stuck
    | _, _ => .stuck)
  | _, _ => .stuck
theorem RpDs.anyB {g : Gm} {m : Nat → Addr} {n b b' : Nat} {H : Hp} : ∀ {ds : List D} {vs : List V}, ds.all (okIn 0) = true → RpDs g m n b H ds vs → RpDs g m n b' H ds vs
  | [], _, _, r => r
  | .t t :: ds, vs, h, ⟨v, ws, e, q, r⟩ => ⟨v, ws, e, q, RpDs.anyB (by simpa [okIn] using h) r⟩
  | .loc i :: ds, vs, h, _ => by simp [okIn] at h
theorem a_ext {g : Gm} (K : PySem.W.Frag) (hK : K = g.K) : MtA g K "list" rExtend fExt isL := by
  refine ⟨isL_ty hK, ?_⟩
  intro W m H G σ Q x ds v vs s rx rs p
  unfold fExt at p
  split at p
  · rename_i i j
    obtain ⟨hi, rfl⟩ := rx
    obtain ⟨u, rfl, ru⟩ := rpds1 rs
    obtain ⟨hj, rfl⟩ := ru
    split at p
    · rename_i es fs q1 q2
      split at p
      · rename_i hk
        obtain ⟨xs, h, r⟩ := s.ob i _ q1
        obtain ⟨zs, h2, r2⟩ := s.ob j _ q2
        have hl := r.length
        have hl2 := r2.length
        refine ⟨m i, m j, xs, zs, rfl, rfl, h, h2, by rw [← hl, ← hl2]; exact hk.1, ?_⟩
        obtain ⟨x1, s1⟩ := wrL s hi (es := es ++ fs) (ys := xs ++ zs) (by rw [List.length_append, ← hl, ← hl2]; exact hk.1) (RpDs.append r (RpDs.anyB hk.2 r2))
        exact p .non m _ x1 s1 rfl
      · exact p.elim
    · exact p.elim
  · exact p.elim
section
variable {Z : Zc} {o e : Expr} {do_ de : De} {apos cpos : Pos}
theorem pd_extend (ho : PD Z o do_) (he : PD Z e de) (hbase : ∀ env, attributeBase o "extend" env (eval o env) = eval o env := by intro _; rfl)
    (hline : (apos.endLine == cpos.line) = true := by rfl) (hs : ∀ env, starEach [e] env = (false, eval e env) :: starEach [] env := by intro _; rfl) : PD Z (.Call (.Attribute o "extend" apos) [e] [] cpos) (dBm isL fExt do_ [de]) :=
  pd_bm (q := fun _ => rExtend) PySem.F.plainAttrs_list PySem.F.slot_list_extend PySem.F.type_list_extend (fun _ _ _ => mt_extend) (fun X W ok => a_ext _ ok.Kg) ho (pda_cons he pda_nil hs) hbase (fun env => by rw [hs]; rfl) hline hs (fun _ => rfl)
end
/-! ### l[:u] as a new located list, and such a list times an int -/
def fSlL (x : D) (j : Int) (G : Hs) : Re := match asL G x with
  | some ds => (match plain ds with
    | some ts => .ok (.loc G.length) (G ++ [.lst ((cutA ts none (some j)).map D.t)])
    | none => .stuck)
  | none => .stuck
def dSlL (a u : De) : De := fun r G => (a r G).bind fun x G1 => (u r G1).bind fun y G2 => match y with | .t (.int j) => fSlL x j G2 | _ => .stuck
def fRepL : D → D → Hs → Re
  | .loc i, .t (.int k), G => (match G[i]? with
    | some (.lst es) => (match plain es with
      | some ts => if 0 ≤ k ∧ k ≤ 1000000 ∧ ts.length * k.toNat ≤ 16777216 then .ok (.t (.lst (List.replicate k.toNat ts).flatten)) G else .stuck
      | none => .stuck)
    | _ => .stuck)
  | _, _, _ => .stuck
theorem rps_reps {g : Gm0} {B : Addr → Prop} {H : Hp} {ts : List T} {vs : List V} (h : Rps g B H ts vs) : ∀ n : Nat, Rps g B H (List.replicate n ts).flatten (List.replicate n vs).flatten
  | 0 => rfl
  | n + 1 => by
    rw [List.replicate_succ, List.flatten_cons, List.replicate_succ, List.flatten_cons]
    exact Rps.app h (rps_reps h n)
theorem len_reps {α : Type} (xs : List α) (n : Nat) : (List.replicate n xs).flatten.length = xs.length * n := by
  induction n with
  | zero => simp
  | succ n ih => rw [List.replicate_succ, List.flatten_cons, List.length_append, ih, Nat.mul_succ, Nat.add_comm]
theorem a_repL {g : Gm} : OpA g rRep fRepL := by
  intro W m H G σ Q x y v u s rx ry p
  unfold fRepL at p
  split at p
  · rename_i i k
    obtain ⟨hi, rfl⟩ := rx
    cases ry
    split at p
    · rename_i es q
      split at p
      · rename_i ts e2
        split at p
        · rename_i hz
          obtain ⟨xs, h, r⟩ := s.ob i _ q
          have := plain_some e2
          subst this
          have r := r.toT
          have hl := r.length
          have hn : (List.replicate k.toNat xs).flatten.length ≤ sizeLine := by rw [len_reps, ← hl]; exact hz.2.2
          refine ⟨m i, k, xs, rfl, rfl, h, by omega, by omega, by rw [← hl]; exact hz.2.2, fun q hq => ?_⟩
          exact p _ _ _ (Ex.new hq) (s.new hq hn) ⟨q, _, rfl, .here upd_same (s.notBd hq), Rps.ex (Ex.new hq) s _ _ (rps_reps r _)⟩
        · exact p.elim
      · exact p.elim
    · exact p.elim
  · exact p.elim
section
variable {Z : Zc} {a b u : Expr} {da db du : De} {pos p2 : Pos}
theorem pd_repL (ha : PD Z a da) (hb : PD Z b db) : PD Z (.BinOp a .Mult b pos) (dBin fRepL da db) := pd_bin (fun _ => _) (fun _ _ _ => op_rep) (fun _ _ _ => a_repL) ha hb
theorem pd_slUL (ha : PD Z a da) (hu : PD Z u du) : PD Z (.Subscript a (.Slice none (some u) none p2) pos) (dSlL da du) := fun X W ok =>
  peI (pe_slice sl_list (ha X W ok) po_none (po_some (hu X W ok))) fun σ H Q h => by
    obtain ⟨m, r, G, s, sl, p⟩ := h
    refine tI_bind s sl p fun x G1 v m1 H1 e x1 s1 sl1 rv p1 => ?_
    refine tI_bind s1 sl1 p1 fun y G2 u m2 H2 e2 x2 s2 sl2 ru p2 => ?_
    split at p2
    · rename_i j
      cases ru
      refine ⟨_, rfl, ?_⟩
      unfold fSlL at p2
      split at p2
      · rename_i ds e3
        split at p2
        · rename_i ts e4
          obtain ⟨l, xs, ev, h, r'⟩ := asL_rp s2 (RpD.ex x2 s1 x2.le (Nat.le_refl _) rv) e3
          subst ev
          have := plain_some e4
          subst this
          have r' := r'.toT
          have hl := r'.length
          have hz : (cutV xs none (some j)).length ≤ sizeLine := Nat.le_trans (cutV_length _ _ _) (s2.szL h)
          refine ⟨l, xs, rfl, by rw [show X.K = Z.g.K from ok.K]; exact h, fun q hq => ?_⟩
          have r3 := Rps.take (HT.sIx xs.length xs.length (some j) - HT.sIx xs.length 0 none) (Rps.drop (HT.sIx xs.length 0 none) r')
          obtain ⟨q1, q2, q3⟩ := newL s2 hq hz (RpDs.ofT (b := G2.length) r3)
          have e5 : cutA ts none (some j) = (ts.drop (HT.sIx xs.length 0 none)).take (HT.sIx xs.length xs.length (some j) - HT.sIx xs.length 0 none) := by unfold cutA; rw [hl]
          rw [e5] at p2
          exact p2 _ _ _ q1 q2 q3
        · exact p2.elim
      · exact p2.elim
    · exact p2.elim
end
/-! ### read backwards -/
section
variable {Q : D → Hs → Prop} {E : XP} {x y : D} {G : Hs} {r : Ev}
theorem e_clsM {c : Nat} {das : List De} {F : Fd} {dts : List T} (h : Wp (dArgs das (fun ds G => F (.t (.cls c) :: (ds ++ dts.map D.t)) G) r G) Q E) : Wp (dClsM c das F dts r G) Q E := h
theorem e_makeV {i c : Nat} {das : List De} {F : Fd} {dts : List T} (hr : r[i]? = some (some (.t (.cls c)))) (h : Wp (dArgs das (fun ds G => mkEnd G.length (F (.loc G.length :: (ds ++ dts.map D.t)) (G ++ [.ins c []]))) r G) Q E) : Wp (dMakeV i c das F dts r G) Q E := by
  unfold dMakeV
  rw [hr]
  simp only [if_pos]
  exact e_make h
theorem f_lix {is : List Int} {i : Int} {j : Nat} (h1 : asL G x = some (is.map dI)) (h2 : is.findIdx? (· == i) = some j) (h : Q (.t (.int (j : Nat))) G) : Wp (fLix x [.t (.int i)] G) Q E := by
  simp only [fLix, h1, ints_map, h2]; exact e_ok h
theorem f_consS {u : T} {ts : List T} (h1 : rowOf y = some ts) (hz : ts.length + 1 ≤ sizeLine) (h : Q (.t (.lst (u :: ts))) G) : Wp (fConsS (.t u) y G) Q E := by
  simp only [fConsS, h1, hz, if_true]; exact e_ok h
theorem f_ext {i j : Nat} {es fs : List D} (h1 : G[i]? = some (.lst es)) (h2 : G[j]? = some (.lst fs)) (hl : es.length + fs.length ≤ 16777216) (hp : fs.all (okIn 0) = true) (h : Q (.t .non) (G.set i (.lst (es ++ fs)))) : Wp (fExt (.loc i) [.loc j] G) Q E := by
  have hl' : es.length + fs.length ≤ sizeLine := hl
  simp only [fExt, h1, h2, hl', hp, and_self, if_true]; exact e_ok h
theorem e_slL {a u : De} (h : Wp (a r G) (fun x G1 => ∃ ts, asL G1 x = some (ts.map D.t) ∧ Wp (u r G1) (fun y G2 => ∃ j, y = .t (.int j) ∧ asL G2 x = some (ts.map D.t) ∧ Q (.loc G2.length) (G2 ++ [.lst ((cutA ts none (some j)).map D.t)])) E) E) : Wp (dSlL a u r G) Q E := by
  unfold dSlL
  rw [wp_bind]
  refine h.mono (fun x G1 h => ?_) fun _ _ _ _ z => z
  obtain ⟨ts, _, h⟩ := h
  rw [wp_bind]
  refine h.mono (fun y G2 h => ?_) fun _ _ _ _ z => z
  obtain ⟨j, rfl, e, h⟩ := h
  simp only [fSlL, e, plain_map]
  exact e_ok h
theorem f_repL {i : Nat} {ts : List T} {k : Int} (h1 : G[i]? = some (.lst (ts.map D.t))) (h2 : 0 ≤ k) (h3 : k ≤ 1000000) (h4 : ts.length * k.toNat ≤ 16777216) (h : Q (.t (.lst (List.replicate k.toNat ts).flatten)) G) : Wp (fRepL (.loc i) (.t (.int k)) G) Q E := by
  simp only [fRepL, h1, plain_map, h2, h3, h4, and_self, if_true]; exact e_ok h
theorem f_inD {neg : Bool} {u : T} {ts : List T} (hy : asD G y = some (.lst ts)) (h1 : cmpT u = true ∧ cmpTs ts = true) (h2 : dep u ≤ 64 ∧ deps ts ≤ 63) (h : Q (.t (.bl (if neg then !ts.any (fun t => teq t u) else ts.any (fun t => teq t u)))) G) : Wp (fInD neg (.t u) y G) Q E := by
  simp only [fInD, hy, h1, h2, and_self, if_true]; exact e_ok h
end
end BL

set_option Elab.async false
set_option linter.all false
set_option maxRecDepth 100000
set_option maxHeartbeats 2000000
namespace BL
open PySem L2

/-! ### the Hook that looks at written addresses -/
section
variable {as : List Addr} {fa : List He.Fa} {fn : List He.DefD} {tf : List He.Defn} {gs : List Getr} {ex : PySem.W.Frag → Bool}
def obsL (as : List Addr) (fa : List He.Fa) (fn : List He.DefD) (tf : List He.Defn) (gs : List Getr) (ex : PySem.W.Frag → Bool) (g : Addr → Option Obj) : AlP :=
  ((He.obsT fa fn [] (He.frT g as), ex (He.frT g as) && He.tabsB g tf (He.frT g as)), gs.map fun q => getW (He.frT g as) q.1)
def hookL (as : List Addr) (fa : List He.Fa) (fn : List He.DefD) (tf : List He.Defn) (gs : List Getr) (ex : PySem.W.Frag → Bool) : PySem.W.Hook where
  α := AlP
  obs := fun s => obsL as fa fn tf gs ex s.heap.get?
  val := fun w => (He.valX fn [] w, gs.map fun q : Getr => He.DefD.val q.2)
  says := fun w h => ∃ K : PySem.W.Frag, K.In h ∧ He.SaysX fa fn [] tf ex w h K ∧ (gs.map fun q : Getr => getW K q.1) = gs.map fun q : Getr => He.DefD.val q.2
  of := fun _ _ e => ⟨_, He.frT_in, says_at (congrArg (fun z : AlP => z.1.1) e) (congrArg (fun z : AlP => z.1.2) e), congrArg (fun z : AlP => z.2) e⟩
  keeps := fun _ _ _ ⟨K, hK, c, d⟩ k => ⟨K, PySem.W.Frag.In.keeps hK k, ⟨c.t, c.more, c.hd, c.out, fun p hp => k _ _ (c.empty p hp)⟩, d⟩
theorem obsL_eq {g : Addr → Option Obj} {s : Shared} (h : ∀ a, g a = s.heap.get? a) : obsL as fa fn tf gs ex g = (hookL as fa fn tf gs ex).obs s := by
  have e : g = s.heap.get? := funext h
  rw [e] <;> rfl
end
end BL

set_option Elab.async false
set_option linter.all false
set_option maxRecDepth 100000
set_option maxHeartbeats 1000000
namespace BL
open PySem L2

/-! ### comprehensions with tests, loops over pairs -/
section
variable {Q : D → Hs → Prop} {E : XP} {N : NP} {R : TP} {B C : NP} {X : XP} {G : Hs} {r : Ev}
abbrev noE : XP := fun _ _ _ _ => False
theorem comp_loopT {td : Tg} {tt elt : De} {kp : Kp} {its : List Im} (I : Nat → List D → Hs → Prop) {K : List D → Hs → Prop} (h0 : I 0 [] G) (hk : ∀ i acc G, I i acc G → kpOk kp G)
    (hs : ∀ i acc G im, its[i]? = some im → I i acc G → ∃ r1, td im r = some r1 ∧ Wp (tt r1 G) (fun x G1 => Wt (truth G1 x) (Wp (elt r1 G1) (fun d G2 => I (i + 1) (acc ++ [d]) G2) noE) (I (i + 1) acc G1)) noE) (he : ∀ acc G, I its.length acc G → K acc G) :
    Wc (compLoop td tt elt kp r its [] G) K := by
  have main : ∀ (l : List Im) (i : Nat) (acc : List D) (G : Hs), its.drop i = l → i + l.length = its.length → I i acc G → Wc (compLoop td tt elt kp r l acc G) K := by
    intro l
    induction l with
    | nil =>
      intro i acc G _ hl hI
      unfold compLoop
      rw [if_pos (hk i acc G hI)]
      have : i = its.length := by simpa using hl
      subst this
      with_unfolding_all exact he acc G hI
    | cons im l ih =>
      intro i acc G hd hl hI
      unfold compLoop
      rw [if_pos (hk i acc G hI)]
      have hi : its[i]? = some im := by
        have := congrArg (fun l : List Im => l[0]?) hd
        simpa using this
      obtain ⟨r1, e1, h1⟩ := hs i acc G im hi hI
      rw [e1]
      have hd' : its.drop (i + 1) = l := by
        have := congrArg List.tail hd
        simpa using this
      have hl' : i + 1 + l.length = its.length := by rw [← hl, List.length_cons]; omega
      have e2 : Wp (dT tt r1 G) (fun x G1 => (x = .t (.bl true) ∧ Wp (elt r1 G1) (fun d G2 => I (i + 1) (acc ++ [d]) G2) noE) ∨ (x = .t (.bl false) ∧ I (i + 1) acc G1)) noE := by
        rw [wp_T]
        refine h1.mono (fun x G1 h => ?_) fun _ _ _ _ z => z
        cases ht : truth G1 x with
        | none => rw [ht] at h; with_unfolding_all exact h
        | some b =>
          rw [ht] at h
          rw [wt_some] at h ⊢
          exact ⟨fun z => .inl ⟨rfl, h.1 z⟩, fun z => .inr ⟨rfl, h.2 z⟩⟩
      cases ed : dT tt r1 G with
      | stuck => rw [ed] at e2; rw [wp_stuck] at e2; exact e2.elim
      | exc c ns ds G2 => rw [ed] at e2; rw [wp_exc] at e2; exact e2.elim
      | ok x G1 =>
        rw [ed, wp_ok] at e2
        rcases e2 with ⟨rfl, h2⟩ | ⟨rfl, h2⟩
        · cases eb : elt r1 G1 with
          | ok d G3 => rw [eb, wp_ok] at h2; simp only [ed, eb]; exact ih (i + 1) _ G3 hd' hl' h2
          | exc c ns ds G2 => rw [eb, wp_exc] at h2; exact h2.elim
          | stuck => rw [eb, wp_stuck] at h2; exact h2.elim
        · simp only [ed]; exact ih (i + 1) _ G1 hd' hl' h2
  exact main its 0 [] G rfl (by simp) h0
/-- over singles -/
theorem c_loopT {i : Nat} {tt elt : De} {kp : Kp} {ds : List D} (I : Nat → List D → Hs → Prop) {K : List D → Hs → Prop} (h0 : I 0 [] G) (hk : ∀ i acc G, I i acc G → kpOk kp G)
    (hs : ∀ j acc G d, ds[j]? = some d → I j acc G → Wp (tt (r.set i (some d)) G) (fun x G1 => Wt (truth G1 x) (Wp (elt (r.set i (some d)) G1) (fun d G2 => I (j + 1) (acc ++ [d]) G2) noE) (I (j + 1) acc G1)) noE) (he : ∀ acc G, I ds.length acc G → K acc G) :
    Wc (compLoop (gN i) tt elt kp r (ds.map Im.one) [] G) K :=
  comp_loopT I h0 hk (fun j acc G im e hI => by
    rw [List.getElem?_map] at e
    cases hd : ds[j]? with
    | none => rw [hd] at e; cases e
    | some d =>
      rw [hd] at e
      cases e
      with_unfolding_all exact ⟨_, rfl, hs j acc G d hd hI⟩) (fun acc G hI => he acc G (by rw [List.length_map] at hI; with_unfolding_all exact hI))
theorem filter_take {α : Type} {xs : List α} {p : α → Bool} {j : Nat} {a : α} (h : xs[j]? = some a) : (xs.take (j + 1)).filter p = (xs.take j).filter p ++ if p a then [a] else [] := by
  rw [List.take_add_one, h, List.filter_append]
  cases hp : p a <;> simp [hp]
/-- .. that changes nothing: those of a row of some kind that pass -/
theorem c_filter {α : Type} {i : Nat} {tt elt : De} {kp : Kp} {xs : List α} {g : α → D} {f : α → D} (p : α → Bool) {K : List D → Hs → Prop} (hk : kpOk kp G)
    (ht : ∀ (j : Nat) (a : α), xs[j]? = some a → ∀ Q : D → Hs → Prop, Q (.t (.bl (p a))) G → Wp (tt (r.set i (some (g a))) G) Q noE) (hf : ∀ (j : Nat) (a : α), xs[j]? = some a → p a = true → ∀ Q : D → Hs → Prop, Q (f a) G → Wp (elt (r.set i (some (g a))) G) Q noE) (he : K ((xs.filter p).map f) G) :
    Wc (compLoop (gN i) tt elt kp r ((xs.map g).map Im.one) [] G) K := by
  refine c_loopT (fun j acc G' => acc = ((xs.take j).filter p).map f ∧ G' = G) ⟨by simp, rfl⟩ (fun _ _ _ h => by rw [h.2]; with_unfolding_all exact hk) (fun j acc G' d hd hI => ?_) (fun acc G' hI => by
    rw [hI.1, hI.2, List.length_map, List.take_length]; with_unfolding_all exact he)
  obtain ⟨rfl, rfl⟩ := hI
  rw [List.getElem?_map] at hd
  cases hx : xs[j]? with
  | none => rw [hx] at hd; cases hd
  | some a =>
    rw [hx] at hd
    cases hd
    refine ht j a hx _ ?_
    refine t_bl (fun z => ?_) (fun z => ?_)
    · refine hf j a hx z _ ⟨?_, rfl⟩
      rw [filter_take hx, z]
      simp
    · refine ⟨?_, rfl⟩
      rw [filter_take hx, z]
      simp
/-- a for over pairs -/
theorem s_pairs {i j : Nat} {ps : List (T × T)} {kp : Kp} {b : Dst} (I : Nat → Ev → Hs → Prop) (h0 : I 0 r G) (hk : ∀ n r G, I n r G → kpOk kp G)
    (hs : ∀ (n : Nat) p r G, ps[n]? = some p → I n r G → Ws (b ((r.set i (some (.t p.1))).set j (some (.t p.2))) G) (I (n + 1)) R N (I (n + 1)) X) (he : ∀ r G, I ps.length r G → N r G) :
    Ws (forLoop (gNN i j) b kp (((ps.map fun p => T.tup [p.1, p.2]).map D.t).map Im.one) r G) N R B C X := by
  refine ws_loop I h0 hk (fun n r' G' im e hI => ?_) (fun r' G' hI => he r' G' (by simp only [List.length_map] at hI; exact hI))
  simp only [List.getElem?_map] at e
  cases hp : ps[n]? with
  | none => rw [hp] at e; cases e
  | some p =>
    rw [hp] at e
    cases e
    with_unfolding_all exact ⟨_, rfl, hs n p r' G' hp hI⟩
/-- any / all of a row of truths -/
theorem f_anyB {α : Type} {xs : List α} {p : α → Bool} (h : Q (.t (.bl (xs.any p))) G) : Wp (fAny [.t (.lst (xs.map fun a => T.bl (p a)))] G) Q E := by
  refine f_any (ds := (xs.map fun a => T.bl (p a)).map D.t) (bs := xs.map p) rfl ?_ ?_
  · have := bools_map (xs.map p)
    rw [List.map_map] at this
    rw [List.map_map]
    exact this
  · rw [List.any_map]; exact h
theorem f_allB {α : Type} {xs : List α} {p : α → Bool} (h : Q (.t (.bl (xs.all p))) G) : Wp (fAll [.t (.lst (xs.map fun a => T.bl (p a)))] G) Q E := by
  refine f_all (ds := (xs.map fun a => T.bl (p a)).map D.t) (bs := xs.map p) rfl ?_ ?_
  · have := bools_map (xs.map p)
    rw [List.map_map] at this
    rw [List.map_map]
    exact this
  · rw [List.all_map]; exact h
theorem f_eqS {a b : Str} (h : Q (.t (.bl (decide (a = b)))) G) : Wp (fEq false (.t (.str a)) (.t (.str b)) G) Q E := by
  refine f_eq rfl rfl rfl ?_
  rw [teqS]; exact h
theorem f_neS {a b : Str} (h : Q (.t (.bl (!decide (a = b)))) G) : Wp (fEq true (.t (.str a)) (.t (.str b)) G) Q E := by
  refine f_eq rfl rfl rfl ?_
  rw [teqS]; exact h
/-- two data, equal or not -/
theorem f_eqB {neg : Bool} {a b : T} (ha : noB a = true) (hb : noB b = true) (hd : dep a ≤ 64) {t : Bool} (ht : t = true ↔ a = b) (h : Q (.t (.bl (if neg then !t else t))) G) : Wp (fEq neg (.t a) (.t b) G) Q E := by
  refine f_eqT rfl rfl ha hb hd fun t' ht' => ?_
  have : t' = if neg then !t else t := by
    rw [Bool.eq_iff_iff, ht']
    cases neg
    · simp [ht]
    · cases t
      · simp at ht; simp [ht]
      · simp at ht; simp [ht]
  rw [this]; exact h
theorem i_R2 {a b : De} {P : List Im → Kp → Hs → Prop} (h : Wp (a r G) (fun x G1 => Wp (b r G1) (fun y G2 => ∃ i j : Int, x = .t (.int i) ∧ y = .t (.int j) ∧ (-1000000000 ≤ i ∧ i ≤ 1000000000 ∧ -1000000000 ≤ j ∧ j ≤ 1000000000 ∧ j - i ≤ 16777216) ∧ P (((List.range (j - i).toNat).map fun k : Nat => D.t (.int (i + (k : Int)))).map Im.one) none G2) E) E) : Wi (iR2 a b r G) P E := by
  unfold iR2
  rw [wi_itr]
  refine h.mono (fun x G1 h => ?_) fun _ _ _ _ z => z
  rw [wi_itr]
  refine h.mono (fun y G2 h => ?_) fun _ _ _ _ z => z
  obtain ⟨i, j, rfl, rfl, hb, h3⟩ := h
  have hc : -(2 ^ 62) ≤ i ∧ i < 2 ^ 62 ∧ -(2 ^ 62) ≤ j ∧ j < 2 ^ 62 ∧ j - i ≤ 16777216 := by omega
  simp only [hc, and_self, if_true]
  rw [intIms_map]
  with_unfolding_all exact h3
theorem fr_take {p : Nat} {G' : Hs} (hl : G.length ≤ G'.length) (hs : ∀ i, i < G.length → i ≠ p → G'[i]? = G[i]?) : Fr p G (G'.take G.length) := by
  refine ⟨by rw [List.length_take, Nat.min_eq_left hl], fun i hi => ?_⟩
  rw [List.getElem?_take]
  by_cases h : i < G.length
  · rw [if_pos h]; exact hs i h hi
  · rw [if_neg h, List.getElem?_eq_none (by omega)]
theorem take_at {i n : Nat} {G' : Hs} {o : O} (h : G'[i]? = some o) (hi : i < n) : (G'.take n)[i]? = some o := by
  rw [List.getElem?_take, if_pos hi]; exact h
/-- a list of the body's own, handed on as data -/
theorem p_lst {i : Nat} {G' : Hs} {ts : List T} (hi : G.length ≤ i) (h : G'[i]? = some (.lst (ts.map D.t))) (k : Q (.t (.lst ts)) (G'.take G.length)) : ∃ e, popD G.length (.loc i) G' = some e ∧ Q e (G'.take G.length) := by
  refine ⟨_, ?_, k⟩
  show (if i < G.length then some (D.loc i) else (frz G' (.loc i)).map D.t) = _
  rw [if_neg (by omega), frz_at h (plain_map _)]
  rfl
theorem e_call0 {F : Fd} (h : Wp (F [] G) Q E) : Wp (dCall [] F [] r G) Q E := by
  rw [wp_call]; with_unfolding_all exact h
theorem f_ninI {i : Int} {is : List Int} {y : D} (h : asS G y = some (is.map dI)) (k : Q (.t (.bl (!decide (i ∈ is)))) G) : Wp (fIn true (.t (.int i)) y G) Q E := by
  have e : plain (is.map dI) = some (is.map T.int) := by
    have := plain_map (is.map T.int)
    rw [List.map_map] at this
    exact this
  have e1 : flatTs (is.map T.int) = true := by
    clear h k e
    induction is with
    | nil => rfl
    | cons v is ih => simp [flatTs, flatT, ih]
  have e2 : (is.map T.int).any (fun t => teq t (.int i)) = decide (i ∈ is) := by
    clear h k e e1
    induction is with
    | nil => rfl
    | cons v is ih =>
      rw [List.map_cons, List.any_cons, ih, teqI, Bool.eq_iff_iff]
      simp only [Bool.or_eq_true, decide_eq_true_eq, List.mem_cons]
      constructor
      · rintro (h | h)
        · exact .inl h.symm
        · exact .inr h
      · rintro (h | h)
        · exact .inl h.symm
        · exact .inr h
  have e3 : fIn true (.t (.int i)) y G = .ok (.t (.bl (!decide (i ∈ is)))) G := by
    cases y with
    | loc j => simp only [fIn, h, e, e1, e2, flatT, and_self, if_true]
    | t u => cases u <;> first | (simp [asS, asT, asL] at h; done) | simp only [fIn, h, e, e1, e2, flatT, and_self, if_true]
  rw [e3]; exact e_ok k
end
end BL

set_option Elab.async false
set_option linter.all false
set_option maxRecDepth 100000
set_option maxHeartbeats 2000000
namespace BL
open PySem L2

/-! ### several names at once, through a tuple -/
def dArgsS : List De → (List D → Hs → Rs) → Dst
  | [], k => fun _ G => k [] G
  | a :: as, k => fun r G => (a r G).thn r fun x G1 => dArgsS as (fun xs G2 => k (x :: xs) G2) r G1
def setsE : Ev → List Nat → List D → Ev
  | r, i :: is, d :: ds => setsE (r.set i (some d)) is ds
  | r, _, _ => r
def setsV : L2.St → List Nat → List V → L2.St
  | r, i :: is, d :: ds => setsV (r.set i (some d)) is ds
  | r, _, _ => r
def dParN (is : List Nat) (das : List De) : Dst := fun r G => dArgsS das (fun ds G1 => if ds.length = is.length then .nx (setsE r is ds) G1 else .stuck) r G
def gNames : List Nat → TGs
  | [] => gNil
  | i :: is => gCons (gName i) (gNames is)
theorem gNames_of : ∀ {is : List Nat} {vs : List V} {σ : L2.St} {H : Hp} {Q : L2.St → Hp → Prop}, vs.length = is.length → Q (setsV σ is vs) H → gNames is vs σ H Q
  | [], [], _, _, _, _, h => ⟨rfl, h⟩
  | i :: is, v :: vs, σ, H, Q, hl, h => ⟨v, vs, rfl, gNames_of (σ := σ.set i (some v)) (by simpa using hl) h⟩
  | [], v :: vs, _, _, _, hl, _ => by simp at hl
  | i :: is, [], _, _, _, hl, _ => by simp at hl
section
variable {g : Gm} {W : WX} {m : Nat → Addr} {H : Hp} {G : Hs} {σ : L2.St} {r : Ev} {E : Ends}
theorem Sl.sets {n : Nat} : ∀ {is : List Nat} {ds : List D} {vs : List V} {σ : L2.St} {r : Ev}, Sl g m n H σ r → RpDs g m n n H ds vs → Sl g m n H (setsV σ is vs) (setsE r is ds)
  | [], _, _, _, _, sl, _ => sl
  | i :: is, [], vs, _, _, sl, rs => by cases rs; exact sl
  | i :: is, d :: ds, vs, σ, r, sl, ⟨v, ws, e, rv, rs⟩ => by
    subst e
    show Sl g m n H (setsV (σ.set i (some v)) is ws) (setsE (r.set i (some d)) is ds)
    exact Sl.sets (sl.set rv) rs
theorem tAS_of : ∀ {das : List De} {m : Nat → Addr} {H : Hp} {G : Hs} {σ : L2.St} {r : Ev} {k : List D → Hs → Rs} {R : List V → Hp → Prop}, SR g m H G → Sl g m G.length H σ r → PostS g W m G.length H E (dArgsS das k r G) →
    (∀ ds G1 vs m1 H1, Ex m G.length H m1 G1.length H1 → SR g m1 H1 G1 → Sl g m1 G1.length H1 σ r → RpDs g m1 G1.length G1.length H1 ds vs → ds.length = das.length → PostS g W m1 G1.length H1 E (k ds G1) → R vs H1) → tCs (das.map (tI g W)) σ H R
  | [], m, H, G, σ, r, k, R, s, sl, p, next => next [] G [] m H Ex.refl s sl rfl rfl p
  | d :: das, m, H, G, σ, r, k, R, s, sl, p, next => by
    refine tS_bind s sl p fun x G1 v m1 H1 e x1 s1 sl1 rv p1 => ?_
    refine tAS_of s1 sl1 p1 fun ds G2 vs m2 H2 x2 s2 sl2 rs hl p2 => ?_
    exact next (x :: ds) G2 (v :: vs) m2 H2 (x1.trans s1 x2) s2 sl2 ⟨v, vs, rfl, RpD.ex x2 s1 x2.le (Nat.le_refl _) rv, rs⟩ (by simp [hl]) p2
end
section
variable {Z : Zc} {es ns : List Expr} {das : List De} {is : List Nat} {pt pos pt2 : Pos} {kt k2 : Nat}
theorem psd_parN (ha : PDA Z es das) (hg : ∀ X W, Ok Z X W → PGs X ns (gNames is)) (hl : das.length = is.length) (hn : ∀ env, (assignEach ns env).length = is.length := by intro _; rfl) (hst : ∀ env, (assignEach ns env).findIdx? (·.1) = none := by intro _; rfl)
    (hz : is.length ≤ 100 := by decide)
    (hw : ∀ env : Env, env.scope = Z.sc → swappedStores [.Tuple ns kt pt] (.Tuple es k2 pt2) env = pure none := by intro env h; cases env; cases h; rfl)
    (hs : ∀ env, swapsWithSole [.Tuple ns kt pt] (.Tuple es k2 pt2) pos.line env = pure false := by intro _; rfl) (h1 : ∀ env, (assignEach [.Tuple ns kt pt] env).map (·.2) = [assign (.Tuple ns kt pt) env] := by intro _; rfl) :
    PSD Z (.Assign [.Tuple ns kt pt] (.Tuple es k2 pt2) pos) (dParN is das) := fun X W ok => by
  refine psI (ps_asg (pe_tup (ha X W ok)) (ok.K ▸ pg_tup (n := is.length) ok.calm (hg X W ok) (hn _) (hst _)) (hs _) (hw _ ok.sc) (h1 _)) fun D σ H ⟨m, r, G, s, sl, p⟩ => ?_
  refine tAS_of s sl p fun ds G1 vs m1 H1 x1 s1 sl1 rs hl1 p1 => ?_
  rw [hl] at hl1
  rw [if_pos hl1] at p1
  have hv : vs.length = is.length := by rw [← rs.length]; exact hl1
  have hz' : vs.length ≤ sizeLine := Nat.le_trans (by rw [hv]; exact hz) (show 100 ≤ 16777216 by decide)
  refine ⟨hz', fun tp htp => ?_⟩
  have x3 : Ex m1 G1.length H1 m1 G1.length (upd H1 tp (.tup vs)) := Ex.new htp
  have s3 := s1.new (o := .tup vs) htp hz'
  refine ⟨tp, vs, rfl, .inl (.inl upd_same), hv, gNames_of hv ?_⟩
  exact p1 _ m1 _ x3 s3 (Sl.sets (Sl.ex x3 s1 sl1) (RpDs.ex x3 s1 (Nat.le_refl _) (Nat.le_refl _) rs))
end
/-! ### x, y, z = a, b, c without a tuple -/
section
variable {Z : Zc} {a b c : Expr} {da db dc : De} {i j l : Nat} {x y z : Str} {px py pz pt pos pt2 : Pos} {kt k2 : Nat}
theorem psd_par3 (ha : PDA Z [a, b, c] [da, db, dc]) (hi : Z.N[i]? = some x := by rfl) (hj : Z.N[j]? = some y := by rfl) (hl : Z.N[l]? = some z := by rfl) (hij : i ≠ j := by decide) (hil : i ≠ l := by decide) (hjl : j ≠ l := by decide)
    (hx : Z.sc.names.lookup x = some .local := by rfl) (hy : Z.sc.names.lookup y = some .local := by rfl) (hz : Z.sc.names.lookup z = some .local := by rfl)
    (hw : ∀ env : Env, env.scope = Z.sc → swappedStores [.Tuple [.Name x px, .Name y py, .Name z pz] kt pt] (.Tuple [a, b, c] k2 pt2) env = pure (some [x, y, z]) := by intro env h; cases env; cases h; rfl)
    (hs : ∀ env, swapsWithSole [.Tuple [.Name x px, .Name y py, .Name z pz] kt pt] (.Tuple [a, b, c] k2 pt2) pos.line env = pure false := by intro _; rfl) :
    PSD Z (.Assign [.Tuple [.Name x px, .Name y py, .Name z pz] kt pt] (.Tuple [a, b, c] k2 pt2) pos) (dParN [i, j, l] [da, db, dc]) := fun X W ok => by
  refine psI (ps_par3 ok.calm ok.nd (by rw [ok.N]; exact hi) (by rw [ok.N]; exact hj) (by rw [ok.N]; exact hl) hij hil hjl (by rw [ok.sc]; exact hx) (by rw [ok.sc]; exact hy) (by rw [ok.sc]; exact hz) (ha X W ok) (hw _ ok.sc) (hs _)) fun D σ H ⟨m, r, G, s, sl, p⟩ => ?_
  refine tAS_of s sl p fun ds G1 vs m1 H1 x1 s1 sl1 rs hl1 p1 => ?_
  rw [if_pos (show ds.length = [i, j, l].length from hl1)] at p1
  obtain ⟨d1, d2, d3, rfl⟩ : ∃ d1 d2 d3, ds = [d1, d2, d3] := by
    match ds, hl1 with
    | [d1, d2, d3], _ => exact ⟨_, _, _, rfl⟩
  obtain ⟨v1, _, rfl, r1, v2, _, rfl, r2, v3, _, rfl, r3, e3⟩ := rs
  have e3 : _ = ([] : List V) := e3
  subst e3
  refine ⟨v1, v2, v3, rfl, ?_⟩
  exact p1 _ m1 H1 Ex.refl s1 (((sl1.set r1).set r2).set r3)
end
/-! ### x += e, ints -/
section
variable {Z : Zc} {e : Expr} {d : De} {i : Nat} {x : Str} {px pos : Pos}
def dAugI (i : Nat) (f : Int → Int → Int) (d : De) : Dst := fun r G => match r[i]? with
  | some (some (.t (.int a))) => (d r G).thn r fun y G1 => match y with
    | .t (.int b) => .nx (r.set i (some (.t (.int (f a b))))) G1
    | _ => .stuck
  | _ => .stuck
theorem psd_aug {op : Operator} {f : Int → Int → Int} (ho : ∀ X : Cx, PIp X op (ipI f)) (h : PD Z e d) (hi : Z.N[i]? = some x := by rfl) (hx : Loc Z.sc x := by first | exact Or.inl rfl | exact Or.inr rfl)
    (hf : Z.fn x = true ∨ Z.sc.names.lookup x = some .local := by first | exact .inl rfl | exact .inr rfl) : PSD Z (.AugAssign (.Name x px) op e pos) (dAugI i f d) := fun X W ok => by
  refine psI (ps_aug (i := i) ok.nd (by rw [ok.N]; exact hi) (by rw [ok.sc]; exact hx) (h X W ok) (ho X) (by rw [ok.fn, ok.sc]; exact hf)) fun D σ H ⟨m, r, G, s, sl, p⟩ => ?_
  unfold dAugI at p
  split at p
  · rename_i a er
    obtain ⟨v, ev, rv⟩ := sl.2 i _ er
    cases rv
    refine ⟨_, ev, ?_⟩
    refine tS_bind s sl p fun y G1 u m1 H1 e1 x1 s1 sl1 ru p1 => ?_
    split at p1
    · rename_i b
      cases ru
      exact ⟨_, _, rfl, rfl, p1 _ m1 H1 Ex.refl s1 (sl1.set rfl)⟩
    · exact p1.elim
  · exact p.elim
end
/-! ### l[::-1] -/
def fRev : D → Hs → Re := fun x G => match asL G x with
  | some ds => (match plain ds with
    | some ts => .ok (.t (.lst ts.reverse)) G
    | none => .stuck)
  | none => .stuck
theorem Rps.rev {g : Gm0} {B : Addr → Prop} {H : Hp} : ∀ {ts : List T} {vs : List V}, Rps g B H ts vs → Rps g B H ts.reverse vs.reverse
  | [], vs, h => by cases h; rfl
  | t :: ts, vs, ⟨v, ws, e, h, r⟩ => by
    subst e
    rw [List.reverse_cons, List.reverse_cons]
    exact Rps.app (Rps.rev r) ⟨v, [], rfl, h, rfl⟩
section
variable {Z : Zc} {e : Expr} {d : De} {k : Nat} {p1 p2 p3 pos : Pos}
theorem pd_revL (h : PD Z e d) : PD Z (.Subscript e (.Slice none none (some (.UnaryOp .USub (.Constant (.int 1) k p1) p2)) p3) pos) (dUn fRev d) := fun X W ok => by
  refine peI (pe_revL (h X W ok)) fun σ H Q ⟨m, r, G, s, sl, p⟩ => ?_
  refine tI_bind s sl p fun x G1 v m1 H1 e1 x1 s1 sl1 rv p1 => ?_
  unfold fRev at p1
  split at p1
  · rename_i ds e3
    split at p1
    · rename_i ts e4
      obtain ⟨l, xs, ev, hl, r'⟩ := asL_rp s1 rv e3
      subst ev
      have := plain_some e4
      subst this
      have r' := r'.toT
      have hz : szOk (HO.lst xs.reverse) := by show xs.reverse.length ≤ sizeLine; rw [List.length_reverse]; exact s1.szL hl
      exact ⟨l, xs, rfl, by rw [show X.K = Z.g.K from ok.K]; exact hl, fun q hq => p1 _ _ _ (Ex.new hq) (s1.new hq hz) ⟨q, _, rfl, .here upd_same (s1.notBd hq), Rps.ex (Ex.new hq) s1 _ _ (Rps.rev r')⟩⟩
    · exact p1.elim
  · exact p1.elim
end
/-! ### (*a, x, *b) -/
def fSxs (ts : List T) (u : T) (us : List T) (G : Hs) : Re := if ts.length + us.length ≤ 1000000 then .ok (.t (.tup (ts ++ u :: us))) G else .stuck
def dSxs (da db dc : De) : De := fun r G => (da r G).bind fun x G1 => match rowOf x with
  | none => .stuck
  | some ts => (db r G1).bind fun u G2 => match u with
    | .loc _ => .stuck
    | .t u => (dc r G2).bind fun y G3 => match rowOf y with
      | none => .stuck
      | some us => fSxs ts u us G3
section
variable {Z : Zc} {a b c : Expr} {da db dc : De} {p p' pos : Pos} {k : Nat}
theorem pd_sxs (ha : PD Z a da) (hb : PD Z b db) (hc : PD Z c dc) (hs : ∀ env, starEach [.Starred a p, b, .Starred c p'] env = (true, eval a env) :: starEach [b, .Starred c p'] env := by intro _; rfl)
    (hs2 : ∀ env, starEach [b, .Starred c p'] env = (false, eval b env) :: starEach [.Starred c p'] env := by intro _; rfl) (hs3 : ∀ env, starEach [.Starred c p'] env = (true, eval c env) :: starEach [] env := by intro _; rfl) :
    PD Z (.Tuple [.Starred a p, b, .Starred c p'] k pos) (dSxs da db dc) := fun X W ok => by
  refine peI (pe_tup (StX.pa_star (ha X W ok) (pa_cons (hb X W ok) (StX.pa_star (hc X W ok) pa_nil (hs3 _)) (hs2 _)) (hs _))) fun σ H Q h => ?_
  obtain ⟨m, r, G, s, sl, q⟩ := h
  refine tI_bind s sl q fun x G1 v m1 H1 e1 x1 s1 sl1 rv p1 => ?_
  cases ex : rowOf x with
  | none => rw [ex] at p1; exact p1.elim
  | some ts =>
    rw [ex] at p1
    obtain ⟨l, xs, ev, hl, rs⟩ := rowOf_rp rv ex
    refine ⟨l, xs, ev, by rw [show X.K = Z.g.K from ok.K]; exact hl, ?_⟩
    refine tI_bind s1 sl1 p1 fun y G2 u m2 H2 e2 x2 s2 sl2 ru p2 => ?_
    cases y with
    | loc _ => exact p2.elim
    | t y =>
      refine tI_bind s2 sl2 p2 fun z G3 w m3 H3 e3 x3 s3 sl3 rw' p3 => ?_
      cases ez : rowOf z with
      | none => rw [ez] at p3; exact p3.elim
      | some us =>
        rw [ez] at p3
        obtain ⟨l2, zs, ew, hl2, rs2⟩ := rowOf_rp rw' ez
        refine ⟨l2, zs, ew, by rw [show X.K = Z.g.K from ok.K]; exact hl2, ?_⟩
        have p3 : PostE Z.g W m3 G3.length H3 σ Q (if ts.length + us.length ≤ 1000000 then .ok (.t (.tup (ts ++ y :: us))) G3 else .stuck) := p3
        by_cases hz : ts.length + us.length ≤ 1000000
        · rw [if_pos hz] at p3
          have r1 : Rps Z.g.toGm0 (Bv Z.g m3 G3.length) H3 ts xs := Rps.ex x3 s2 _ _ (Rps.ex x2 s1 _ _ rs)
          have r2 : Rp Z.g.toGm0 (Bv Z.g m3 G3.length) H3 y u := RpD.ex x3 s2 x3.le (Nat.le_refl _) (d := .t y) ru
          have r3 : Rps Z.g.toGm0 (Bv Z.g m3 G3.length) H3 (ts ++ y :: us) (xs ++ u :: zs) := Rps.app r1 ⟨u, zs, rfl, r2, rs2⟩
          have hz' : (xs ++ u :: zs).length ≤ sizeLine := by
            rw [← r3.length, List.length_append, List.length_cons]
            exact Nat.le_trans (show ts.length + (us.length + 1) ≤ 1000001 by omega) (show 1000001 ≤ 16777216 by decide)
          show ((xs ++ (u :: (zs ++ []))).length ≤ sizeLine ∧ _)
          rw [List.append_nil]
          exact ⟨hz', fun q hq => p3 _ _ _ (Ex.new hq) (s3.new (o := .tup _) hq hz') ⟨q, _, rfl, .inl (.inl upd_same), Rps.ex (Ex.new hq) s3 _ _ r3⟩⟩
        · rw [if_neg hz] at p3; exact p3.elim
end
/-! ### l.index(w), a list of texts -/
def fLixS : D → List D → Hs → Re := fun x ds G => match ds with
  | [.t (.str i)] => (match asL G x with
    | some es => (match strsT es with
      | some is => (match is.findIdx? (· == i) with
        | some j => .ok (.t (.int (j : Nat))) G
        | none => .stuck)
      | none => .stuck)
    | none => .stuck)
  | _ => .stuck
theorem a_lixS {g : Gm} (K : PySem.W.Frag) (hK : K = g.K) : MtA g K "list" (rIndex K) fLixS isL := by
  refine ⟨isL_ty hK, ?_⟩
  subst hK
  intro W m H G σ Q x ds v vs s rx rs p
  unfold fLixS at p
  split at p
  · rename_i i
    obtain ⟨u, rfl, ru⟩ := rpds1 rs
    obtain ⟨rfl, _⟩ := ru
    cases e1 : asL G x with
    | none => rw [e1] at p; exact p.elim
    | some es =>
      rw [e1] at p
      simp only at p
      cases e2 : strsT es with
      | none => rw [e2] at p; exact p.elim
      | some is =>
        rw [e2] at p
        simp only at p
        cases e3 : is.findIdx? (· == i) with
        | none => rw [e3] at p; exact p.elim
        | some j =>
          rw [e3] at p
          obtain ⟨a, xs, rfl, h, r'⟩ := asL_rp s rx e1
          rw [(strs_rp e2 r').1] at h
          obtain ⟨hj, h1, h2⟩ := List.findIdx?_eq_some_iff_getElem.mp e3
          refine ⟨a, is.map V.str, .str i, j, .str is[j], rfl, rfl, h, rfl, List.all_eq_true.mpr fun z hz => ?_, by rw [List.getElem?_map, List.getElem?_eq_getElem hj]; rfl, ?_, fun n z hn hz => ?_, PostE.ok s p rfl⟩
          · obtain ⟨q, _, rfl⟩ := List.mem_map.mp hz; rfl
          · simpa [eqV] using h1
          · rw [List.getElem?_map, List.getElem?_eq_getElem (Nat.lt_trans hn hj)] at hz
            cases hz
            simpa [eqV] using h2 n hn
  · exact p.elim
section
variable {Z : Zc} {o e : Expr} {do_ de : De} {apos cpos : Pos}
theorem pd_lixS (ho : PD Z o do_) (he : PD Z e de) (hbase : ∀ env, attributeBase o "index" env (eval o env) = eval o env := by intro _; rfl)
    (hline : (apos.endLine == cpos.line) = true := by rfl) (hs : ∀ env, starEach [e] env = (false, eval e env) :: starEach [] env := by intro _; rfl) : PD Z (.Call (.Attribute o "index" apos) [e] [] cpos) (dBm isL fLixS do_ [de]) :=
  pd_bm (q := fun X => rIndex X.K) PySem.F.plainAttrs_list PySem.F.slot_list_index PySem.F.type_list_index (fun _ _ _ => mt_index) (fun X W ok => a_lixS X.K ok.Kg) ho (pda_cons he pda_nil hs) hbase (fun env => by rw [hs]; rfl) hline hs (fun _ => rfl)
end
/-! ### read backwards -/
section
variable {Q : D → Hs → Prop} {E : XP} {N : NP} {R : TP} {B C : NP} {X : XP} {d x y z : D} {G : Hs} {r : Ev}
theorem ws_argsS0 {k : List D → Hs → Rs} (h : Ws (k [] G) N R B C X) : Ws (dArgsS [] k r G) N R B C X := h
theorem ws_argsS {a : De} {as : List De} {k : List D → Hs → Rs} (h : Wp (a r G) (fun x G1 => Ws (dArgsS as (fun xs G2 => k (x :: xs) G2) r G1) N R B C X) X) : Ws (dArgsS (a :: as) k r G) N R B C X := by
  unfold dArgsS
  rw [ws_thn]; exact h
theorem s_nxIf {n k : Nat} {r1 : Ev} (hn : n = k) (h : N r1 G) : Ws (if n = k then .nx r1 G else .stuck) N R B C X := by rw [if_pos hn, ws_nx]; exact h
/-- x, y, .. = a, b, ..: f gives the slots as they are then -/
theorem s_par3' {i j l : Nat} {a b c : De} {f : D → D → D → Ev} (hf : ∀ x y z, setsE r [i, j, l] [x, y, z] = f x y z) (h : Wp (a r G) (fun x G1 => Wp (b r G1) (fun y G2 => Wp (c r G2) (fun z G3 => N (f x y z) G3) X) X) X) : Ws (dParN [i, j, l] [a, b, c] r G) N R B C X := by
  unfold dParN
  apply ws_argsS
  refine h.mono (fun x G1 h => ?_) fun _ _ _ _ z => z
  apply ws_argsS
  refine h.mono (fun y G2 h => ?_) fun _ _ _ _ z => z
  apply ws_argsS
  refine h.mono (fun z G3 h => ?_) fun _ _ _ _ z => z
  apply ws_argsS0
  refine s_nxIf rfl ?_
  rw [hf]; exact h
theorem s_par4' {i j l n : Nat} {a b c d : De} {f : D → D → D → D → Ev} (hf : ∀ x y z w, setsE r [i, j, l, n] [x, y, z, w] = f x y z w) (h : Wp (a r G) (fun x G1 => Wp (b r G1) (fun y G2 => Wp (c r G2) (fun z G3 => Wp (d r G3) (fun w G4 => N (f x y z w) G4) X) X) X) X) : Ws (dParN [i, j, l, n] [a, b, c, d] r G) N R B C X := by
  unfold dParN
  apply ws_argsS
  refine h.mono (fun x G1 h => ?_) fun _ _ _ _ z => z
  apply ws_argsS
  refine h.mono (fun y G2 h => ?_) fun _ _ _ _ z => z
  apply ws_argsS
  refine h.mono (fun z G3 h => ?_) fun _ _ _ _ z => z
  apply ws_argsS
  refine h.mono (fun w G4 h => ?_) fun _ _ _ _ z => z
  apply ws_argsS0
  refine s_nxIf rfl ?_
  rw [hf]; exact h
theorem s_par5' {i j l n o : Nat} {a b c d e : De} {f : D → D → D → D → D → Ev} (hf : ∀ x y z w v, setsE r [i, j, l, n, o] [x, y, z, w, v] = f x y z w v) (h : Wp (a r G) (fun x G1 => Wp (b r G1) (fun y G2 => Wp (c r G2) (fun z G3 => Wp (d r G3) (fun w G4 => Wp (e r G4) (fun v G5 => N (f x y z w v) G5) X) X) X) X) X) : Ws (dParN [i, j, l, n, o] [a, b, c, d, e] r G) N R B C X := by
  unfold dParN
  apply ws_argsS
  refine h.mono (fun x G1 h => ?_) fun _ _ _ _ z => z
  apply ws_argsS
  refine h.mono (fun y G2 h => ?_) fun _ _ _ _ z => z
  apply ws_argsS
  refine h.mono (fun z G3 h => ?_) fun _ _ _ _ z => z
  apply ws_argsS
  refine h.mono (fun w G4 h => ?_) fun _ _ _ _ z => z
  apply ws_argsS
  refine h.mono (fun v G5 h => ?_) fun _ _ _ _ z => z
  apply ws_argsS0
  refine s_nxIf rfl ?_
  rw [hf]; exact h
theorem s_aug {i : Nat} {f : Int → Int → Int} {a : De} {u : Int} (hr : r[i]? = some (some (.t (.int u)))) {g : D → Ev} (hg : ∀ x, r.set i (some x) = g x) (h : Wp (a r G) (fun y G1 => ∃ v, y = .t (.int v) ∧ N (g (.t (.int (f u v)))) G1) X) : Ws (dAugI i f a r G) N R B C X := by
  unfold dAugI
  rw [hr]
  show Ws ((a r G).thn r _) N R B C X
  rw [ws_thn]
  refine h.mono (fun y G1 h => ?_) fun _ _ _ _ z => z
  obtain ⟨v, rfl, h⟩ := h
  rw [ws_nx, hg]; exact h
theorem f_rev {ts : List T} (h1 : asL G x = some (ts.map D.t)) (h : Q (.t (.lst ts.reverse)) G) : Wp (fRev x G) Q E := by
  simp only [fRev, h1, plain_map]; exact e_ok h
theorem e_sxs {a b c : De} (h : Wp (a r G) (fun x G1 => ∃ ts, rowOf x = some ts ∧ Wp (b r G1) (fun u G2 => ∃ u', u = .t u' ∧ Wp (c r G2) (fun y G3 => ∃ us, rowOf y = some us ∧ ts.length + us.length ≤ 1000000 ∧ Q (.t (.tup (ts ++ u' :: us))) G3) E) E) E) : Wp (dSxs a b c r G) Q E := by
  unfold dSxs
  rw [wp_bind]
  refine h.mono (fun x G1 h => ?_) fun _ _ _ _ z => z
  obtain ⟨ts, e1, h⟩ := h
  simp only [e1]
  rw [wp_bind]
  refine h.mono (fun u G2 h => ?_) fun _ _ _ _ z => z
  obtain ⟨u', rfl, h⟩ := h
  simp only
  rw [wp_bind]
  refine h.mono (fun y G3 h => ?_) fun _ _ _ _ z => z
  obtain ⟨us, e2, hz, h⟩ := h
  simp only [e2, fSxs, hz, if_true]
  exact e_ok h
theorem f_lixS {is : List Str} {i : Str} {j : Nat} (h1 : asL G x = some (is.map dS)) (h2 : is.findIdx? (· == i) = some j) (h : Q (.t (.int (j : Nat))) G) : Wp (fLixS x [.t (.str i)] G) Q E := by
  simp only [fLixS, h1, strs_map, h2]; exact e_ok h
end
end BL

set_option Elab.async false
set_option linter.all false
set_option maxRecDepth 100000
set_option maxHeartbeats 2000000
namespace BL
open PySem L2

/-! ### x.split(y) -/
theorem spl_in : ∀ (r acc : List Nat) (p : List Nat), p ∈ TL.spl [32] 0 acc r → ∀ c ∈ p, c ∈ acc ∨ c ∈ r
  | [], acc, p, h, c, hc => by
    rw [TL.spl_nil] at h
    simp only [List.mem_singleton] at h
    subst h
    exact .inl hc
  | x :: r, acc, p, h, c, hc => by
    unfold TL.spl at h
    split at h
    · rcases List.mem_cons.mp h with rfl | h
      · exact .inl hc
      · rcases spl_in r [] p h c hc with z | z
        · simp at z
        · exact .inr (List.mem_cons_of_mem _ z)
    · rcases spl_in r (acc ++ [x]) p h c hc with z | z
      · rcases List.mem_append.mp z with z | z
        · exact .inl z
        · simp only [List.mem_singleton] at z
          subst z
          exact .inr (List.mem_cons_self ..)
      · exact .inr (List.mem_cons_of_mem _ z)
theorem spl_ne : ∀ (r acc : List Nat), TL.spl [32] 0 acc r ≠ []
  | [], acc => by rw [TL.spl_nil]; simp
  | x :: r, acc => by
    unfold TL.spl
    split
    · simp
    · exact spl_ne r _
/-- cut and glued again -/
theorem spl_back : ∀ (r acc : List Nat), TL.joinL [32] (TL.spl [32] 0 acc r) = acc ++ r
  | [], acc => by rw [TL.spl_nil]; simp [TL.joinL]
  | x :: r, acc => by
    unfold TL.spl
    split
    · rename_i h
      have hx : x = 32 := by
        unfold TL.pre at h
        simp at h
        exact h
      have e := spl_back r []
      cases es : TL.spl [32] 0 [] r with
      | nil => exact absurd es (spl_ne r [])
      | cons q qs =>
        rw [es] at e
        show acc ++ ([32] ++ TL.joinL [32] (q :: qs)) = _
        rw [e, hx]
        simp
    · rw [spl_back r (acc ++ [x])]
      simp
theorem split_tl (a : Str) : (Txt.split a " ").map TL.tl = TL.spl [32] 0 [] (TL.tl a) := TL.split_spl a " " (by decide) (TL.kind_ok (by decide +kernel))
theorem split_okS {a : Str} (h : okS a) : ∀ y ∈ Txt.split a " ", okS y := by
  intro y hy
  have h1 : TL.tl y ∈ TL.spl [32] 0 [] (TL.tl a) := by rw [← split_tl]; exact List.mem_map.mpr ⟨y, hy, rfl⟩
  have h2 := spl_in _ _ _ h1
  have ha : (a.cps.all fun c => decide (c < 0x110000)) = true := h
  show (y.cps.all fun c => decide (c < 0x110000)) = true
  rw [Array.all_eq_true'] at ha ⊢
  intro c hc
  have hc' : c ∈ TL.tl y := Array.mem_def.mp hc
  rcases h2 c hc' with z | z
  · simp at z
  · exact ha c (Array.mem_def.mpr z)
def fSplit' : D → List D → Hs → Re := fun x ds G => match x, ds with
  | .t (.str a), [.t (.str b)] => if b = " " ∧ a.length + 2 ≤ 16777216 then .ok (.t (.lst ((Txt.split a " ").map T.str))) G else .stuck
  | _, _ => .stuck
theorem a_split {g : Gm} (K : PySem.W.Frag) (hK : K = g.K) : MtA g K "str" (fun x xs H Q => ∃ a b, x = .str a ∧ xs = [.str b] ∧ (b.length == 0) = false ∧ a.length + 2 ≤ sizeLine ∧ rNewStrs (Txt.split a b) H Q) fSplit' isS := by
  refine ⟨isS_ty, ?_⟩
  subst hK
  intro W m H G σ Q x ds v vs s rx rs p
  unfold fSplit' at p
  split at p
  · rename_i a b
    obtain ⟨ex, ha⟩ := rx
    subst ex
    obtain ⟨u, rfl, ru⟩ := rpds1 rs
    obtain ⟨rfl, _⟩ := ru
    split at p
    · rename_i hc
      obtain ⟨rfl, hz⟩ := hc
      have ho := split_okS ha
      have hn : (Txt.split a " ").length ≤ sizeLine := Nat.le_trans (PyProof.Rows.split_le a " ") hz
      refine ⟨a, " ", rfl, rfl, rfl, hz, fun q hq => ?_⟩
      have hz' : szOk (HO.lst ((Txt.split a " ").map V.str)) := by show (List.map _ _).length ≤ sizeLine; rw [List.length_map]; exact hn
      exact p _ _ _ (Ex.new hq) (s.new hq hz') ⟨q, _, rfl, .here upd_same (s.notBd hq), rps_strs ho⟩
    · exact p.elim
  · exact p.elim
section
variable {Z : Zc} {o e : Expr} {do_ de : De} {apos cpos : Pos}
theorem pd_split (ho : PD Z o do_) (he : PD Z e de) (hbase : ∀ env, attributeBase o "split" env (eval o env) = eval o env := by intro _; rfl)
    (hline : (apos.endLine == cpos.line) = true := by rfl) (hs : ∀ env, starEach [e] env = (false, eval e env) :: starEach [] env := by intro _; rfl) : PD Z (.Call (.Attribute o "split" apos) [e] [] cpos) (dBm isS fSplit' do_ [de]) :=
  pd_bm (q := fun X => _) PySem.F.plainAttrs_str PySem.F.slot_str_split PySem.F.type_str_split (fun _ _ _ => mt_split) (fun X W ok => a_split _ ok.Kg) ho (pda_cons he pda_nil hs) hbase (fun env => by rw [hs]; rfl) hline hs (fun _ => rfl)
end
/-! ### sorted(ints) -/
def insI (x : Int) : List Int → List Int
  | [] => [x]
  | y :: ys => if x ≤ y then x :: y :: ys else y :: insI x ys
def sortI : List Int → List Int
  | [] => []
  | x :: xs => insI x (sortI xs)
theorem ins_perm (x : Int) : ∀ l : List Int, (insI x l).Perm (x :: l)
  | [] => .refl _
  | y :: ys => by
    unfold insI
    split
    · exact .refl _
    · exact ((ins_perm x ys).cons y).trans (.swap x y ys)
theorem sort_perm : ∀ l : List Int, (sortI l).Perm l
  | [] => .refl _
  | x :: xs => (ins_perm x _).trans ((sort_perm xs).cons x)
theorem ins_sorted (x : Int) : ∀ l : List Int, l.Pairwise (· ≤ ·) → (insI x l).Pairwise (· ≤ ·)
  | [], _ => by simp [insI]
  | y :: ys, h => by
    unfold insI
    rw [List.pairwise_cons] at h
    split
    · rename_i hxy
      rw [List.pairwise_cons, List.pairwise_cons]
      refine ⟨fun z hz => ?_, h⟩
      rcases List.mem_cons.mp hz with rfl | hz
      · exact hxy
      · exact Int.le_trans hxy (h.1 z hz)
    · rename_i hxy
      rw [List.pairwise_cons]
      refine ⟨fun z hz => ?_, ins_sorted x ys h.2⟩
      rcases List.mem_cons.mp ((ins_perm x ys).mem_iff.mp hz) with rfl | hz
      · omega
      · exact h.1 z hz
theorem sort_sorted : ∀ l : List Int, (sortI l).Pairwise (· ≤ ·)
  | [] => List.Pairwise.nil
  | x :: xs => ins_sorted x _ (sort_sorted xs)
theorem perm_eq : ∀ {l k : List Int}, l.Perm k → l.Pairwise (· ≤ ·) → k.Pairwise (· ≤ ·) → l = k
  | [], k, h, _, _ => (List.nil_perm.mp h).symm
  | x :: l, [], h, _, _ => (List.perm_nil.mp h)
  | x :: l, y :: k, h, h1, h2 => by
    rw [List.pairwise_cons] at h1 h2
    have e : x = y := by
      have a : x ∈ y :: k := h.mem_iff.mp (List.mem_cons_self ..)
      have b : y ∈ x :: l := h.mem_iff.mpr (List.mem_cons_self ..)
      rcases List.mem_cons.mp a with a | a
      · exact a
      · rcases List.mem_cons.mp b with b | b
        · exact b.symm
        · exact Int.le_antisymm (h1.1 y b) (h2.1 x a)
    subst e
    rw [perm_eq (List.Perm.cons_inv h) h1.2 h2.2]
def fSorted : List D → Hs → Re := fun ds G => match ds with
  | [d] => (match asL G d with
    | some es => (match intsT es with
      | some is => if is.length < 64 then .ok (.t (.lst ((sortI is).map T.int))) G else .stuck
      | none => .stuck)
    | none => .stuck)
  | _ => .stuck
theorem c_sorted {g : Gm} (K : PySem.W.Frag) (hK : K = g.K) : CaA g (rSorted K) fSorted := by
  subst hK
  intro W m H G σ Q ds vs s rs p
  unfold fSorted at p
  split at p
  · split at p
    · split at p
      · split at p
        · rename_i ds' e _ is e2 hz
          obtain ⟨v, rfl, r⟩ := rpds1 rs
          obtain ⟨a, xs, rfl, h, r'⟩ := asL_rp s r e
          rw [ints_rp e2 r'] at h
          refine ⟨a, is, rfl, h, hz, fun ns q hp hs hq => ?_⟩
          have e3 : ns = sortI is := perm_eq (hp.trans (sort_perm is).symm) hs (sort_sorted is)
          subst e3
          have hz' : szOk (HO.lst ((sortI is).map V.int)) := by
            show (List.map _ _).length ≤ sizeLine
            rw [List.length_map, (sort_perm is).length_eq]
            exact Nat.le_trans (Nat.le_of_lt hz) (by decide)
          exact p _ _ _ (Ex.new hq) (s.new hq hz') ⟨q, _, rfl, .here upd_same (s.notBd hq), rps_ints⟩
        · exact p.elim
      · exact p.elim
    · exact p.elim
  · exact p.elim
section
variable {Z : Zc} {e : Expr} {d : De} {p pos : Pos}
theorem pd_sorted (hm : Z.mg "sorted" = none) (h : PD Z e d) (hg : GlS Z "sorted" := by rfl) (he : ∀ env, starEach [e] env = (false, eval e env) :: starEach [] env := by intro _; rfl) : PD Z (.Call (.Name "sorted" p) [e] [] pos) (dArgs [d] fSorted) :=
  pd_callB (fun X => _) (fun _ _ ok => cr_sorted) (fun X W ok => c_sorted X.K ok.Kg) hg hm (by decide +kernel) (pda_cons h pda_nil he) he (fun _ => rfl) (by decide) (by decide)
end
/-! ### def x(a): try: return (tag, a().f) / except C as e: return (..) .. -/
def TTa (K : PySem.W.Frag) (tag f : Str) (l : List (Value × List Prt)) : (XK → Hp → VK → Prop) → Hp → VK → Prop := fun tl H Q => ∃ Ech : XK, (∀ cls d H', Ech cls d H' → catchR K cls d H' Q l) ∧ tl Ech H fun v H' => ∃ a C dx fs u, v = .ref a ∧ H' a = some (.ins C dx fs) ∧ Cls K C ∧ NoAttr K C f ∧ fs.lookup f = some u ∧ ([V.str tag, u] : List V).length ≤ sizeLine ∧ ∀ p, H' p = none → Q (.ref p) (upd H' p (.tup [.str tag, u]))
theorem meta_gives {X : Cx} {Ng : List Str} {x a e q tag f : Str} {sg : Scope} {g : Addr} {cdg : Value} {h0 : ExceptHandler} {hs : List ExceptHandler} {l : List (Value × List Prt)} {j k0 : Nat} {p1 p2 p3 p4 p5 p6 p7 : Pos} (hN : Ng = [a, e]) (hne : Ng.Nodup) (hle : sg.names.lookup e = some .local)
    (hb : ∀ env, attributeBase (.Call (.Name a p1) [] [] p2) f env (eval (.Call (.Name a p1) [] [] p2) env) = eval (.Call (.Name a p1) [] [] p2) env)
    (hc : ∀ (s : Shared) (H : Hp), ClsOk (cxOf C8.CX0 X.prog X.w X.K X.mg X.base Ng x sg g cdg X.A X.stack s H C8.E0).nox e (h0 :: hs) (clsTs 1 l)) :
    LamX.GivesTo X Ng x sg g cdg [.Try [.Return (some (.Tuple [.Constant (.str tag) j p5, .Attribute (.Call (.Name a p1) [] [] p2) f p7] k0 p6)) p3] (h0 :: hs) [] [] p4] a q (TTa X.K tag f l) := by
  intro fa c' s H Q tl act hco h
  obtain ⟨Ech, hE, ht⟩ := h
  refine ⟨_, pss_one (ps_try_named (X := (cxOf C8.CX0 X.prog X.w X.K X.mg X.base Ng x sg g cdg X.A X.stack s H C8.E0).nox) (i := 1) (n := e) (out := fun _ _ _ _ => False)
      (tb := fun W D σ H => ∃ Ech : XK, (∀ cls d σ' H', σ'.length = 2 → Ech cls d H' → W cls d σ' H') ∧ σ[0]? = some (some (.ref fa)) ∧ H c' = some (LamX.CodeO c' q) ∧ tl Ech H fun v H' => ∃ a C dx fs u, v = .ref a ∧ H' a = some (.ins C dx fs) ∧ Cls X.K C ∧ NoAttr X.K C f ∧ fs.lookup f = some u ∧ ([V.str tag, u] : List V).length ≤ sizeLine ∧ ∀ p, H' p = none → D.rt (.ref p) (upd H' p (.tup [.str tag, u])))
      rfl rfl hne (by rw [hN]; rfl) hle LamX.takes0 (fun W pn xe tk _ => ?_) (hc s H)), ?_⟩
  · refine ⟨fun pins s' z H' D I h' => ?_⟩
    obtain ⟨Ech, hW, h1, h2, h3⟩ := h'
    have hp := act _ pn xe Ech p1 p2 (takes_len tk) fun cls d z' H'' hE hl => hW cls d z' H'' (by rw [hl]; show Ng.length = 2; rw [hN]; rfl) hE
    have hq : PSs _ [.Return (some (.Tuple [.Constant (.str tag) j p5, .Attribute (.Call (.Name a p1) [] [] p2) f p7] k0 p6)) p3] _ := pss_one (ps_ret (pos := p3) (pe_tup (pos := p6) (x1 := k0) (pa_cons (pe_str (x := tag) (pos := p5)) (pa_cons (pe_fld (f := f) (pos := p7) hp (hb _)) pa_nil rfl) rfl)))
    refine hq.run pins s' z H' D I ⟨h1, h2, ?_⟩
    exact h3
  · subst hN
    refine ⟨Ech, fun cls d z' H' hl hE' => ?_, rfl, hco, ht⟩
    exact catch_w (by rw [hl]; decide) (fun v H'' hq => hq) (hE cls d H' hE')
/-- .. with a field of what it gives -/
def dMetA (tag f : Str) (cs : List Nat) (hs : List Hdl) (db : De) : De := fun r G => match db r G with
  | .ok d G' => (match fFld cs f d G' with
    | .ok (.t t) G2 => .ok (.t (.tup [.str tag, t])) G2
    | _ => .stuck)
  | .exc c ns ds G' => catchD c ns ds G' hs
  | .stuck => .stuck
structure MetF (b : Zb) (x a tag f : Str) (g : Addr) (hs : List Hdl) : Prop where
  kp : PySem.W.keepIn b.K (.ref g) = true
  ex : ∃ (pg : Arguments) (bg : List Stmt) (sg : Scope) (dV kV doc pm cdv ct oc : Value) (an od : Option Addr) (osl : Array (Option Value)) (Ng : List Str) (l : List (Value × List Prt)),
    b.K.lookup g = some ⟨oc, od, .func (PySem.W.fnOf x x pg bg sg dV kV doc pm an cdv ct), osl⟩ ∧ PySem.W.codeIn b.K cdv x = true ∧ L2.Binds b.K (PySem.W.fnOf x x pg bg sg dV kV doc pm an cdv ct) [a] [] ∧ FnScope Ng [a] sg ∧ Ng[0]? = some a ∧ Vis sg a ∧ ClsR b.g.toGm0 hs l ∧ okS tag ∧
    ∀ (X : Cx), X.prog = b.P → X.w = b.w → X.K = b.K → X.mg = b.mg → X.base = b.base → LamX.GivesTo X Ng x sg g cdv bg a (X.env.qual ++ "<lambda>") (TTa X.K tag f l)
theorem metf_of {b : Zb} {x a tag f : Str} {g : Addr} {st : Stmt} {N : List Str} {hs : List Hdl} {l : List (Value × List Prt)} (Fn : ∃ fd, FnE b.K x x st [] g fd) (S : FnScope N [a] (defScope st)) (hN : N[0]? = some a) (hv : Vis (defScope st) a) (hcl : ClsR b.g.toGm0 hs l) (hok : okS tag)
    (hb : ∀ (kV doc pm : Value) (an : Option Addr) (cdv ct : Value) (us : List Value), us.length = 1 → bindArgs (PySem.W.fnOf x x (defArgs st) (defBody st) (defScope st) .none kV doc pm an cdv ct) ⟨us, []⟩ = pure ([a].zip us))
    (hG : ∀ (X : Cx) (cdv : Value), X.K = b.K → X.mg = b.mg → LamX.GivesTo X N x (defScope st) g cdv (defBody st) a (X.env.qual ++ "<lambda>") (TTa X.K tag f l)) : MetF b x a tag f g hs := by
  obtain ⟨fd, Fn⟩ := Fn
  refine ⟨Fn.kp, ?_⟩
  obtain ⟨oc, od, dV, kV, doc, pm, an, cdv, ct, osl, rfl, lk, hcd, hD, _⟩ := Fn.ex
  rcases hD with ⟨_, rfl⟩ | ⟨e, _⟩
  · exact ⟨_, _, _, _, _, _, _, _, _, _, _, _, _, N, l, lk, hcd, Binds.all fun us hl => hb _ _ _ _ _ _ us hl, S, hN, hv, hcl, hok, fun X _ _ eK em _ => hG X cdv eK em⟩
  · exact absurd rfl e
section
variable {Z : Zc}
theorem pd_metF {x a q tag f : Str} {g c P : Addr} {hs : List Hdl} {cs : List Nat} {k : Nat} {params : Arguments} {body : Expr} {scope : Scope} {db : De} {p lpos pos : Pos} (h : MetF Z.toZb x a tag f g hs) (hfl : ∀ c, c ∈ cs → Cls Z.K (Z.ca c) ∧ NoAttr Z.K (Z.ca c) f) (hq : Z.cq = some (c, q)) (hm : Z.mg x = some (.ref g)) (TB : LamX.TabB Z.base Z.mg c P) (hT : (P, q ++ "<lambda>") ∈ Z.tb) (hu : ∀ p ∈ Z.tb, p.1 = P → p.2 = q ++ "<lambda>")
    (hk : k + 2 ≤ Z.k) (L : LamX.LamS Z.sc scope) (hb : PD (Z.lam scope k) body db) (hg : GlS Z x := by rfl) (hdef : ∀ env, defaultsOf params env = ([], []) := by intro _; rfl)
    (hbind : ∀ (q : Str) (cl : List (Str × Addr)) (pm cv ctv : Value), bindArgs (PySem.W.kla_fn "<lambda>" q params body scope cl pm cv ctv) ⟨[], []⟩ = pure [] := by intros; rfl)
    (hdb : (x == ("__debug__" : Str)) = false := by decide) (hd : (a == ("__debug__" : Str)) = false := by decide) (hcd : (a == ("__classdict__" : Str)) = false := by decide) :
    PD Z (.Call (.Name x p) [.Lambda params body scope lpos] [] pos) (dMetA tag f cs hs db) := fun X W ok => by
  obtain ⟨hcode, hqual⟩ := ok.cq c q hq
  obtain ⟨pg, bg, sg, dV, kV, doc, pm, cdv, ct, oc, an, od, osl, Ng, l, lk, hcg, hbd, Sg, hNg, hva, hcl, hok, hG⟩ := h.ex
  refine peI (LamX.pe_lamcall (X := X) (T := Z.tb) (TT := fun tl H Q => SzH H → TTa X.K tag f l tl H Q) (t := fun E => tI Z.g (fun cls d _ H => E cls d H) db) (k := k) (show X.env.scope.names.lookup x = _ by rw [ok.sc]; exact hg) (by rw [ok.mg]; exact hm) (by rw [ok.K]; exact h.kp) (by rw [ok.K]; exact lk) (by rw [ok.K]; exact hcg) (by rw [ok.K]; exact hbd) Sg hNg hva
    (gives_sz (hG X ok.P ok.w ok.K ok.mg ok.base)) (by rw [ok.base, ok.mg]; exact TB) hcode (by rw [hqual]; exact hT) (by rw [hqual]; exact hu) (ok.rm.mono hk) (by rw [ok.sc]; exact L) (hdef _) hbind (fun A outer s H E f c' hr => hb _ _ (ok.lam hr)) hdb hd hcd) fun σ H Q ⟨m, r, G, s, sl, p⟩ => ?_
  refine ⟨s.tb, fun H1 eN T1 hz => ?_⟩
  have s1 := s.ext eN T1 hz
  have x1 : Ex m G.length H m G.length H1 := Ex.ext eN
  refine ⟨fun cls d H' => catchR X.K cls d H' Q l, fun _ _ _ z => z, m, r, G, s1, Sl.ex x1 s sl, ?_⟩
  unfold dMetA at p
  cases e : db r G with
  | ok d G' =>
    rw [e] at p
    intro v m' H' x' s' rv
    cases qf : fFld cs f d G' with
    | stuck => simp only [qf] at p; exact p.elim
    | exc _ _ _ _ => simp only [qf] at p; exact p.elim
    | ok d' G2 =>
      obtain ⟨rfl, a', c', dx, fs, u, rfl, h2, h3, h4, h5⟩ := fld_rp s' rv qf
      obtain ⟨k1, k2⟩ := hfl c' h3
      refine ⟨a', _, dx, fs, u, rfl, h2, by rw [ok.K]; exact k1, by rw [ok.K]; exact k2, h4, ?_⟩
      simp only [qf] at p
      cases d' with
      | loc i => exact p.elim
      | t t =>
        have hz2 : ([V.str tag, u] : List V).length ≤ sizeLine := by show 2 ≤ 16777216; decide
        refine ⟨hz2, fun pp hpp => ?_⟩
        exact p (.ref pp) m' _ ((x1.trans s1 x').trans s' (Ex.new hpp)) (s'.new hpp hz2) ⟨pp, _, rfl, .inl (.inl upd_same), ⟨_, _, rfl, ⟨rfl, hok⟩, _, _, rfl, Rp.ex (Ex.new hpp) s' _ _ h5, rfl⟩⟩
  | stuck => rw [e] at p; exact p.elim
  | exc c0 ns ds G' =>
    rw [e] at p
    intro da m' H' xs x' s' hd' nb rs
    rw [show X.K = Z.g.K from ok.K]
    exact catch_of (x1.trans s1 x') s' hd' rs (fun y => (x1.trans s1 x').trans s' y) hcl p
end
/-! ### read backwards -/
section
variable {Q : D → Hs → Prop} {E : XP} {d x y : D} {G : Hs} {r : Ev}
theorem e_metA {tag f : Str} {cs : List Nat} {hs : List Hdl} {db : De} (h : Wp (db r G) (fun d G' => ∃ t, fFld cs f d G' = .ok (.t t) G' ∧ Q (.t (.tup [.str tag, t])) G') (fun c ns ds G' => Wp (catchD c ns ds G' hs) Q E)) : Wp (dMetA tag f cs hs db r G) Q E := by
  unfold dMetA
  cases e : db r G with
  | ok d G' =>
    rw [e, wp_ok] at h
    obtain ⟨t, h1, h⟩ := h
    simp only [h1]
    exact e_ok h
  | exc c ns ds G' => rw [e] at h; rw [wp_exc] at h; exact h
  | stuck => rw [e] at h; rw [wp_stuck] at h; exact h.elim
theorem f_abs {i : Int} (h : Q (.t (.int (if i < 0 then -i else i))) G) : Wp (fAbs [.t (.int i)] G) Q E := e_ok h
theorem f_split {a : Str} (hz : a.length ≤ 1000000) (h : Q (.t (.lst ((Txt.split a " ").map T.str))) G) : Wp (fSplit' (.t (.str a)) [.t (.str " ")] G) Q E := by
  have e : fSplit' (.t (.str a)) [.t (.str " ")] G = .ok (.t (.lst ((Txt.split a " ").map T.str))) G := by
    simp only [fSplit']
    rw [if_pos ⟨trivial, by omega⟩]
  rw [e]; exact e_ok h
theorem f_sorted {is : List Int} (h1 : asL G d = some (is.map dI)) (hz : is.length < 64) (h : Q (.t (.lst ((sortI is).map T.int))) G) : Wp (fSorted [d] G) Q E := by
  simp only [fSorted, h1, ints_map, hz, if_true]; exact e_ok h
theorem e_sl2 {a l u : De} (k : Wp (a r G) (fun x G1 => Wp (l r G1) (fun y G2 => ∃ i : Int, y = .t (.int i) ∧ Wp (u r G2) (fun z G3 => ∃ j : Int, z = .t (.int j) ∧ Wp (fSl x (some i) (some j) G3) Q E) E) E) E) : Wp (dSl a (some l) (some u) r G) Q E := by
  unfold dSl
  rw [wp_bind]
  refine k.mono (fun x G1 k => ?_) fun _ _ _ _ z => z
  show Wp ((l r G1).bind _) Q E
  rw [wp_bind]
  refine k.mono (fun y G2 k => ?_) fun _ _ _ _ z => z
  obtain ⟨i, rfl, k⟩ := k
  show Wp ((u r G2).bind _) Q E
  rw [wp_bind]
  refine k.mono (fun z G3 k => ?_) fun _ _ _ _ z => z
  obtain ⟨j, rfl, k⟩ := k
  exact k
end
end BL

set_option Elab.async false
set_option linter.all false
set_option maxRecDepth 100000
set_option maxHeartbeats 4000000
namespace LW
open PySem L2 BL

def top (i : Nat) : Stmt := PySem.Challenge.pw_betweenlooks_k20_histories_cut_and_writt.main.body.getD i (.Pass ⟨0, 0, 0, 0⟩)
abbrev s_is_row : Stmt := top 13
abbrev s_is_word : Stmt := top 14
abbrev s_History_init : Stmt := inClass (top 17) 0
abbrev s_History_read : Stmt := inClass (top 17) 12
abbrev s_History_eq : Stmt := inClass (top 17) 3
abbrev s_History_text : Stmt := inClass (top 17) 7
abbrev s_bars : Stmt := top 27
abbrev s_draw : Stmt := top 20
abbrev s_pick : Stmt := top 21
abbrev s_spoiled : Stmt := top 28
abbrev s_row : Stmt := top 23
abbrev s_stretches : Stmt := top 24
abbrev s_is_integer : Stmt := top 12
abbrev s_is_within : Stmt := top 15
abbrev s_History_cut : Stmt := inClass (top 17) 11
abbrev s_cut : Stmt := top 26
abbrev s_deeds : Stmt := top 22
abbrev s_pen : Stmt := top 19
abbrev s_law : Stmt := top 29
abbrev s_told : Stmt := top 25
def caK (K : PySem.W.Frag) : Nat → Addr
  | 0 => He.ga K "History"
  | 1 => He.ga K "BadDeeds"
  | 2 => He.ga K "BadPlace"
  | 3 => He.ga K "BadText"
  | 4 => He.ga K "BadStretch"
  | _ => 0
def tbL (K : PySem.W.Frag) : List (Addr × Str) := [((He.cT K ("law", none)).2, ("law" : Str) ++ ".<locals>." ++ "<lambda>")]
def bz (P : Program) (w : World) (K : PySem.W.Frag) (mg : Str → Option Value) (base : Heap) : Zb := ⟨P, w, K, mg, base, caK K, tbL K⟩
end LW
set_option Elab.async false
set_option linter.all false
set_option maxRecDepth 100000
set_option maxHeartbeats 4000000
namespace LW
open PySem L2 BL

def D_is_row : He.DefD := ⟨("is_row", none), "is_row", "is_row", defArgs s_is_row, defBody s_is_row, defScope s_is_row, [], []⟩
def D_is_word : He.DefD := ⟨("is_word", none), "is_word", "is_word", defArgs s_is_word, defBody s_is_word, defScope s_is_word, [], []⟩
def D_History_init : He.DefD := ⟨("History", some "__init__"), "__init__", "History.__init__", defArgs s_History_init, defBody s_History_init, defScope s_History_init, [.adr (He.dflAt ("History", some "__init__") 0)], []⟩
def D_History_eq : He.DefD := ⟨("History", some "__eq__"), "__eq__", "History.__eq__", defArgs s_History_eq, defBody s_History_eq, defScope s_History_eq, [], []⟩
def D_bars : He.DefD := ⟨("_law_bars", none), "_law_bars", "_law_bars", defArgs s_bars, defBody s_bars, defScope s_bars, [], []⟩
def D_draw : He.DefD := ⟨("_law_draw", none), "_law_draw", "_law_draw", defArgs s_draw, defBody s_draw, defScope s_draw, [], []⟩
def D_pick : He.DefD := ⟨("_law_pick", none), "_law_pick", "_law_pick", defArgs s_pick, defBody s_pick, defScope s_pick, [], []⟩
def D_spoiled : He.DefD := ⟨("_law_spoiled", none), "_law_spoiled", "_law_spoiled", defArgs s_spoiled, defBody s_spoiled, defScope s_spoiled, [], []⟩
def D_row : He.DefD := ⟨("_law_row", none), "_law_row", "_law_row", defArgs s_row, defBody s_row, defScope s_row, [], []⟩
def D_stretches : He.DefD := ⟨("_law_stretches", none), "_law_stretches", "_law_stretches", defArgs s_stretches, defBody s_stretches, defScope s_stretches, [], []⟩
def D_is_integer : He.DefD := ⟨("is_integer", none), "is_integer", "is_integer", defArgs s_is_integer, defBody s_is_integer, defScope s_is_integer, [], []⟩
def D_is_within : He.DefD := ⟨("is_within", none), "is_within", "is_within", defArgs s_is_within, defBody s_is_within, defScope s_is_within, [], []⟩
def D_cut : He.DefD := ⟨("_law_cut", none), "_law_cut", "_law_cut", defArgs s_cut, defBody s_cut, defScope s_cut, [], []⟩
def D_deeds : He.DefD := ⟨("_law_deeds", none), "_law_deeds", "_law_deeds", defArgs s_deeds, defBody s_deeds, defScope s_deeds, [], []⟩
def D_pen : He.DefD := ⟨("_law_pen", none), "_law_pen", "_law_pen", defArgs s_pen, defBody s_pen, defScope s_pen, [], []⟩
def D_law : He.DefD := ⟨("law", none), "law", "law", defArgs s_law, defBody s_law, defScope s_law, [], []⟩
def D_told : He.DefD := ⟨("_law_told", none), "_law_told", "_law_told", defArgs s_told, defBody s_told, defScope s_told, [], []⟩
def D_History_read : He.DefD := ⟨("History", some "read"), "read", "History.read", defArgs s_History_read, defBody s_History_read, defScope s_History_read, [], []⟩
def D_History_text : He.DefD := ⟨("History", some "text"), "text", "History.text", defArgs s_History_text, defBody s_History_text, defScope s_History_text, [], []⟩
def D_History_cut : He.DefD := ⟨("History", some "cut"), "cut", "History.cut", defArgs s_History_cut, defBody s_History_cut, defScope s_History_cut, [], []⟩
def fn : List He.DefD := [D_is_row, D_is_word, D_History_init, D_History_eq, D_bars, D_draw, D_pick, D_spoiled, D_row, D_stretches, D_is_integer, D_is_within, D_cut, D_deeds, D_pen, D_law, D_told]
def gs : List Getr := [(("History", "read"), D_History_read), (("History", "text"), D_History_text), (("History", "cut"), D_History_cut)]
def fa0 : List He.Fa := [.free "tuple", .cls "History", .noat "History" "stretches", .free "enumerate", .free "isinstance", .free "list", .glo "is_row", .str "LETTERS" "abcdefghijklmnopqrstuvwxyz", .str "SIGNS" "abcdefghijklmnopqrstuvwxyz0123456789", .free "all", .free "str", .free "len", .int "LONGEST_WORD" 12, .glo "is_word", .glo "BadStretch", .free "super", .mkr "History", .glo "BadText", .glo "History", .free "range"]
def fa1 : List He.Fa := [.glo "_law_bars", .glo "BadDeeds", .glo "BadPlace", .glo "_law_told", .free "int", .free "abs", .glo "_law_draw", .glo "_law_pick", .glo "_law_spoiled", .glo "_law_row", .glo "_law_stretches", .free "bool", .glo "is_integer", .glo "is_within", .glo "_law_cut", .free "sorted", .glo "_law_deeds", .glo "_law_pen", .glo "law"]
def fa : List He.Fa := fa0 ++ fa1
def ex (K : PySem.W.Frag) : Bool := excB K (PySem.Challenge.rw_betweenlooks_k20_histories_cut_and_writt).prog.main.file (caK K 4) (He.fAd K ("BadStretch", some "__init__")) ["index"] && (tupB K (He.dflAt ("History", some "__init__") 0 K) [] && (excB K (PySem.Challenge.rw_betweenlooks_k20_histories_cut_and_writt).prog.main.file (caK K 3) (He.fAd K ("BadText", some "__init__")) ["line"] && (clsMB K ("History", "read") && (insB K (He.ga K "History") && (kitB' K (He.ga K "History") (([] : List Nat).map (caK K)) && (eqB K (He.ga K "History") (He.fAd K ("History", some "__eq__")) && (firstB K (He.ga K "History") (([] : List Nat).map (caK K)) && (prpB K ("History", "text") && (excB K (PySem.Challenge.rw_betweenlooks_k20_histories_cut_and_writt).prog.main.file (caK K 1) (He.fAd K ("BadDeeds", some "__init__")) ["index"] && ((([(1, true), (2, false), (3, false), (4, false)] : List (Nat × Bool)).all fun p => decide (PySem.W.exmOne K (.ref (caK K p.1)) (.ref (He.ga K "BadDeeds")) = some p.2)) && (L2.xfB K (He.ga K "BadDeeds") && (decide (PySem.W.findIn K (.ref (He.ga K "BadDeeds")) "index" = some none) && (excB K (PySem.Challenge.rw_betweenlooks_k20_histories_cut_and_writt).prog.main.file (caK K 2) (He.fAd K ("BadPlace", some "__init__")) ["index"] && ((([(1, false), (2, true), (3, false), (4, false)] : List (Nat × Bool)).all fun p => decide (PySem.W.exmOne K (.ref (caK K p.1)) (.ref (He.ga K "BadPlace")) = some p.2)) && (L2.xfB K (He.ga K "BadPlace") && (decide (PySem.W.findIn K (.ref (He.ga K "BadPlace")) "index" = some none) && ((([(1, false), (2, false), (3, true), (4, false)] : List (Nat × Bool)).all fun p => decide (PySem.W.exmOne K (.ref (caK K p.1)) (.ref (He.ga K "BadText")) = some p.2)) && (L2.xfB K (He.ga K "BadText") && (decide (PySem.W.findIn K (.ref (He.ga K "BadText")) "line" = some none) && (clsMB K ("History", "cut") && (getB K (("History", "read"), D_History_read) && (getB K (("History", "text"), D_History_text) && (getB K (("History", "cut"), D_History_cut))))))))))))))))))))))))
abbrev R : PySem.W.OpenRow := PySem.W.OpenLaw.row PySem.Challenge.rw_betweenlooks_k20_histories_cut_and_writt
def tf : List He.Defn := [("law", none)]
def ad0 : List PySem.Addr := [3, 6, 4, 21, 31, 53, 74, 95, 116, 137, 146, 153, 158, 165, 270, 281, 288, 295, 300, 305, 310, 317, 324, 329, 336, 341, 0, 20, 30, 52, 73, 94, 115, 136, 145, 152, 157, 164, 269, 280, 287, 294, 299, 304, 309, 316, 323, 328, 335, 340, 15, 16, 17, 18, 19, 29, 32, 50, 51, 71, 72, 92, 93, 113, 114, 134, 135, 140, 141, 142, 143, 144, 147, 148, 149, 150, 151, 154, 155, 156, 159, 160, 161, 162, 163, 179, 186, 193, 200, 207, 214, 222, 228, 235, 242, 249, 258, 266, 268, 271]
def ad1 : List PySem.Addr := [272, 275, 276, 277, 278, 279, 282, 283, 284, 285, 286, 289, 290, 291, 292, 293, 296, 297, 298, 301, 302, 303, 306, 307, 308, 311, 312, 313, 314, 315, 318, 319, 320, 321, 322, 325, 326, 327, 330, 331, 332, 333, 334, 337, 338, 339, 49, 38, 70, 59, 91, 80, 112, 101, 133, 122, 178, 174, 185, 192, 199, 206, 213, 221, 227, 234, 241, 248, 256, 257, 264, 265, 44, 45, 46, 47, 48, 65, 66, 67, 68, 69, 86, 87, 88, 89, 90, 107, 108, 109, 110, 111, 128, 129, 130, 131, 132, 175, 176, 177]
def ad2 : List PySem.Addr := [173, 180, 181, 182, 183, 184, 187, 188, 189, 190, 191, 194, 195, 196, 197, 198, 201, 202, 203, 204, 205, 208, 209, 210, 211, 212, 220, 226, 229, 230, 231, 232, 233, 236, 237, 238, 239, 240, 243, 244, 245, 246, 247, 255, 259, 263, 267, 215, 216, 217, 218, 219, 223, 224, 225, 250, 251, 252, 253, 254, 260, 261, 262, 2]
def ads : List PySem.Addr := ad0 ++ ad1 ++ ad2
abbrev hk : PySem.W.Hook := hookL ads fa fn tf gs ex
def ob (s : PySem.W.SharedT) : AlP := obsL ads fa fn tf gs ex (HandSHeadRun.getT s)
theorem ob_eq (s : PySem.W.SharedT) : ob s = hk.obs s.abs := obsL_eq (HandSHeadRun.getT_eq s)
def nm0 : List PySem.Str := ["_wall", "LooksError", "BadDeeds", "BadStretch", "BadLook", "BadPlace", "BadText", "LETTERS", "SIGNS", "LONGEST_WORD", "is_integer", "is_row", "is_word", "is_within", "History", "_law_pen", "_law_draw", "_law_pick", "_law_deeds", "_law_row"]
def nm1 : List PySem.Str := ["_law_stretches", "_law_told", "_law_cut", "_law_bars", "_law_spoiled"]
def names : List PySem.Str := nm0 ++ nm1
theorem run (w : World) : HandSHeadRun.RunEq R (PySem.W.view R.prog [29]) hk ob 60000 names w := by
  intro os
  kernel_rfl
end LW
set_option Elab.async false
set_option linter.all false
set_option maxRecDepth 100000
set_option maxHeartbeats 4000000
namespace LW
open PySem L2 BL

def hs_told : List Hdl := [(fun c => ([(1, true), (2, false), (3, false), (4, false)] : List (Nat × Bool)).lookup c, [.cst (.str "deeds"), .fld 1 "index"]), (fun c => ([(1, false), (2, true), (3, false), (4, false)] : List (Nat × Bool)).lookup c, [.cst (.str "place"), .fld 2 "index"]), (fun c => ([(1, false), (2, false), (3, true), (4, false)] : List (Nat × Bool)).lookup c, [.cst (.str "text"), .fld 3 "line"])]
/-- is_row(value): slots 0:value -/
noncomputable def d_is_row : Dst := (dRet (dUn (fIsi (isOr isLst isTup)) (dVar 0)))
noncomputable def F_is_row : Fd := runPop 1 d_is_row
/-- is_word(value): slots 0:value 1:sign -/
noncomputable def d_is_word : Dst := (dSeq (dIf (dOr (dNot (dUn (fIsi isStr) (dVar 0))) (dNot (dChain fLe fLe (dC (.int 1)) (dArgs [(dVar 0)] fLen) (dC (.int 12)))))
  (dRet (dC (.bl false)))
  dNext)
  (dRet (dAnd (dBin (fIn false) (dBin fIx (dVar 0) (dC (.int 0))) (dC (.str "abcdefghijklmnopqrstuvwxyz"))) (dArgs [(compRun [1] (iStr' (dVar 0)) (gN 1) dYes (dBin (fIn false) (dVar 1) (dC (.str "abcdefghijklmnopqrstuvwxyz0123456789"))) kLst)] fAll))))
noncomputable def F_is_word : Fd := runPop 2 d_is_word
/-- History.__init__(self, stretches): slots 0:self 1:stretches 2:index 3:stretch 4:deed -/
noncomputable def d_History_init : Dst := (dSeq (dFor (iEn (dVar 1)) (gNN 2 3)
  (dIf (dOr (dNot (dCall [(dVar 3)] F_is_row [])) (dNot (dArgs [(compRun [4] (iS (dVar 3)) (gN 4) dYes (dCall [(dVar 4)] F_is_word []) kLst)] fAll)))
  (dRaise 4 ["index"] [(dVar 2)])
  dNext))
  (dSetF [0] "stretches" (dVar 0) (dArgs [(compRun [3] (iS (dVar 1)) (gN 3) dYes (dArgs [(dVar 3)] fTup) kLst)] fTup)))
noncomputable def F_History_init : Fd := runPop 5 d_History_init
/-- History.read(cls, text): slots 0:cls 1:text 2:parts 3:stretches 4:stretch 5:part -/
noncomputable def d_History_read : Dst := (dSeq (dSet 2 (dIte (dVar 1) (dBm isS fSplit' (dVar 1) [(dC (.str " "))]) (dArgs [] fLstD)))
  (dSeq (dIf (dOr (dNot (dArgs [(compRun [5] (iS (dVar 2)) (gN 5) dYes (dOr (dBin (fEq false) (dVar 5) (dC (.str "|"))) (dCall [(dVar 5)] F_is_word [])) kLst)] fAll)) (dAnd (dVar 2) (dBin (fEq true) (dBin fIx (dVar 2) (dUn fNeg (dC (.int 1)))) (dC (.str "|")))))
  (dRaise 3 ["line"] [(dC (.int 1))])
  dNext)
  (dSeq (dSet 3 (dArgs [] fLstDL))
  (dSeq (dSet 4 (dArgs [] fLstD))
  (dSeq (dFor (iS (dVar 2)) (gN 5)
  (dIf (dBin (fEq false) (dVar 5) (dC (.str "|")))
  (dSeq (dDrop (dBm isL fApp (dVar 3) [(dArgs [(dVar 4)] fTup)]))
  (dSet 4 (dArgs [] fLstD)))
  (dSet 4 (dSnoc (dVar 4) (dVar 5)))))
  (dRet (dMakeV 0 0 [(dVar 3)] F_History_init [])))))))
noncomputable def F_History_read : Fd := runPop 6 d_History_read
/-- History.__eq__(self, other): slots 0:self 1:other -/
noncomputable def d_History_eq : Dst := (dRet (dAnd (dUn (fIsi (isOwn 0 [])) (dVar 1)) (dBin (fEq false) (dUn (fFld [0] "stretches") (dVar 0)) (dUn (fFld [0] "stretches") (dVar 1)))))
noncomputable def F_History_eq : Fd := runPop 2 d_History_eq
/-- History.text(self): slots 0:self 1:stretch -/
noncomputable def d_History_text : Dst := (dRet (dBm isS fJoin (dC (.str " ")) [(compRun [1] (iS (dUn (fFld [0] "stretches") (dVar 0))) (gN 1) dYes (dBm isS fJoin (dC (.str " ")) [(dSnoc (dVar 1) (dC (.str "|")))]) kLst)]))
noncomputable def F_History_text : Fd := runPop 2 d_History_text
/-- _law_bars(_law_rows): slots 0:_law_rows 1:_law_row_here -/
noncomputable def d_bars : Dst := (dRet (dBm isS fJoin (dC (.str " ")) [(compRun [1] (iS (dVar 0)) (gN 1) dYes (dBm isS fJoin (dC (.str " ")) [(dBin fAdd (dVar 1) (dArgs [(dC (.str "|"))] fTupD))]) kLst)]))
noncomputable def F_bars : Fd := runPop 2 d_bars
/-- _law_draw(_law_pen_here, _law_many): slots 0:_law_pen_here 1:_law_many 2:_law_digit 3:_law_spot 4:_law_size 5:_law_cell 6:_law_stir -/
noncomputable def d_draw : Dst := (dSeq (dIf (dBin fGt (dBin fGet (dVar 0) (dC (.str "rest"))) (dC (.int 0)))
  (dSeq (dSet 2 (dBin fMod (dArgs [(dBin fGet (dVar 0) (dC (.str "rest")))] fInt) (dVar 1)))
  (dSeq (dPut (dVar 0) (dC (.str "rest")) (dBin fDiv (dBin fGet (dVar 0) (dC (.str "rest"))) (dVar 1)))
  (dRet (dVar 2))))
  dNext)
  (dSeq (dPar 3 4 (dBin fGet (dVar 0) (dC (.str "begun"))) (dArgs [(dBin fGet (dVar 0) (dC (.str "cells")))] fLen))
  (dSeq (dPut (dVar 0) (dC (.str "begun")) (dBin fAdd (dVar 3) (dC (.int 1))))
  (dSeq (dSet 5 (dBin fAdd (dBin fMul (dC (.int 73)) (dVar 3)) (dC (.int 19))))
  (dSeq (dIf (dBin fGt (dVar 4) (dC (.int 0)))
  (dSet 5 (dBin fIx (dBin fGet (dVar 0) (dC (.str "cells"))) (dBin fMod (dArgs [(dVar 3)] fInt) (dVar 4))))
  dNext)
  (dSeq (dIf (dAnd (dBin fLt (dVar 3) (dVar 4)) (dBin fGe (dArgs [(dVar 5)] fAbs) (dBin fPow (dC (.int 10)) (dC (.int 18)))))
  (dSeq (dPut (dVar 0) (dC (.str "rest")) (dBin fDiv (dBin fSub (dArgs [(dVar 5)] fAbs) (dBin fPow (dC (.int 10)) (dC (.int 18)))) (dVar 1)))
  (dRet (dBin fMod (dBin fSub (dArgs [(dVar 5)] fAbs) (dBin fPow (dC (.int 10)) (dC (.int 18)))) (dVar 1))))
  dNext)
  (dSeq (dSet 6 (dBin fMod (dArgs [(dBin fAdd (dBin fAdd (dBin fMul (dBin fMod (dArgs [(dVar 5)] fInt) (dC (.int 4294967231))) (dC (.int 48271))) (dBin fMul (dBin fMul (dC (.int 30269)) (dVar 3)) (dVar 3))) (dC (.int 211)))] fInt) (dC (.int 4294967279))))
  (dSeq (dSet 6 (dBin fMod (dArgs [(dBin fAdd (dBin fAdd (dBin fAdd (dBin fMul (dVar 6) (dVar 6)) (dBin fMul (dC (.int 69069)) (dVar 6))) (dBin fMul (dC (.int 23)) (dVar 3))) (dC (.int 7)))] fInt) (dC (.int 4294967291))))
  (dSeq (dSet 6 (dBin fDiv (dBin fMod (dArgs [(dBin fMul (dVar 6) (dBin fAdd (dVar 6) (dC (.int 32771))))] fInt) (dC (.int 4294967197))) (dC (.int 64))))
  (dRet (dBin fMod (dArgs [(dVar 6)] fInt) (dVar 1))))))))))))
noncomputable def F_draw : Fd := runPop 7 d_draw
/-- _law_pick(_law_pen_here, _law_options): slots 0:_law_pen_here 1:_law_options -/
noncomputable def d_pick : Dst := (dRet (dBin fIx (dVar 1) (dCall [(dVar 0), (dArgs [(dVar 1)] fLen)] F_draw [])))
noncomputable def F_pick : Fd := runPop 2 d_pick
/-- _law_spoiled(_law_pen_here, _law_seen): slots 0:_law_pen_here 1:_law_seen 2:_law_at 3:_law_sign 4:_law_more -/
noncomputable def d_spoiled : Dst := (dSeq (dPar 2 3 (dCall [(dVar 0), (dBin fAdd (dArgs [(dVar 1)] fLen) (dC (.int 1)))] F_draw []) (dCall [(dVar 0), (dC (.str " |a0A-\n\t"))] F_pick []))
  (dSeq (dSet 4 (dIte (dBin (fEq false) (dCall [(dVar 0), (dC (.int 3))] F_draw []) (dC (.int 0))) (dC (.str "")) (dVar 3)))
  (dRet (dBin fAdd (dBin fAdd (dSl (dVar 1) none (some (dVar 2))) (dVar 4)) (dSl (dVar 1) (some (dBin fAdd (dVar 2) (dCall [(dVar 0), (dC (.int 2))] F_draw []))) none)))))
noncomputable def F_spoiled : Fd := runPop 5 d_spoiled
/-- _law_row(_law_pen_here, _law_deeds_here, _law_most): slots 0:_law_pen_here 1:_law_deeds_here 2:_law_most 3:_law_k -/
noncomputable def d_row : Dst := (dRet (dArgs [(compRun [3] (iR1 (dCall [(dVar 0), (dBin fAdd (dVar 2) (dC (.int 1)))] F_draw [])) (gN 3) dYes (dCall [(dVar 0), (dVar 1)] F_pick []) kLst)] fTup))
noncomputable def F_row : Fd := runPop 4 d_row
/-- _law_stretches(_law_pen_here, _law_deeds_here, _law_looks, _law_most): slots 0:_law_pen_here 1:_law_deeds_here 2:_law_looks 3:_law_most 4:_law_k -/
noncomputable def d_stretches : Dst := (dRet (dArgs [(compRun [4] (iR1 (dVar 2)) (gN 4) dYes (dCall [(dVar 0), (dVar 1), (dVar 3)] F_row []) kLst)] fTup))
noncomputable def F_stretches : Fd := runPop 5 d_stretches
/-- is_integer(value): slots 0:value -/
noncomputable def d_is_integer : Dst := (dRet (dAnd (dUn (fIsi isInt) (dVar 0)) (dNot (dUn (fIsi isBool) (dVar 0)))))
noncomputable def F_is_integer : Fd := runPop 1 d_is_integer
/-- is_within(value, low, high): slots 0:value 1:low 2:high -/
noncomputable def d_is_within : Dst := (dRet (dAnd (dCall [(dVar 0)] F_is_integer []) (dChain fLe fLe (dVar 1) (dVar 0) (dVar 2))))
noncomputable def F_is_within : Fd := runPop 3 d_is_within
/-- History.cut(cls, row, places): slots 0:cls 1:row 2:places 3:index 4:deed 5:last 6:stretches 7:place -/
noncomputable def d_History_cut : Dst := (dSeq (dFor (iEn (dVar 1)) (gNN 3 4)
  (dIf (dNot (dCall [(dVar 4)] F_is_word []))
  (dRaise 1 ["index"] [(dVar 3)])
  dNext))
  (dSeq (dSet 5 (dC (.int 0)))
  (dSeq (dSet 6 (dArgs [] fLstDL))
  (dSeq (dFor (iEn (dVar 2)) (gNN 3 7)
  (dSeq (dIf (dNot (dCall [(dVar 7), (dVar 5), (dArgs [(dVar 1)] fLen)] F_is_within []))
  (dRaise 2 ["index"] [(dVar 3)])
  dNext)
  (dSeq (dDrop (dBm isL fApp (dVar 6) [(dSl (dVar 1) (some (dVar 5)) (some (dVar 7)))]))
  (dSet 5 (dVar 7)))))
  (dRet (dMakeV 0 0 [(dVar 6)] F_History_init []))))))
noncomputable def F_History_cut : Fd := runPop 8 d_History_cut
/-- _law_cut(_law_row_here, _law_places): slots 0:_law_row_here 1:_law_places 2:_law_found 3:_law_last 4:_law_k 5:_law_place -/
noncomputable def d_cut : Dst := (dSeq (dPar 2 3 (dArgs [] fLstDL) (dC (.int 0)))
  (dSeq (dFor (iR1 (dArgs [(dVar 1)] fLen)) (gN 4)
  (dSeq (dSet 5 (dBin fIx (dVar 1) (dVar 4)))
  (dSeq (dIf (dOr (dNot (dUn (fIsi isInt) (dVar 5))) (dOr (dUn (fIsi isBool) (dVar 5)) (dNot (dChain fLe fLe (dVar 3) (dVar 5) (dArgs [(dVar 0)] fLen)))))
  (dRet (dArgs [(dC (.str "place")), (dVar 4)] fTupD))
  dNext)
  (dSeq (dDrop (dBm isL fApp (dVar 2) [(dSl (dVar 0) (some (dVar 3)) (some (dVar 5)))]))
  (dSet 3 (dVar 5))))))
  (dRet (dArgs [(dC (.str "gives")), (dArgs [(dVar 2)] fTup)] fTupD))))
noncomputable def F_cut : Fd := runPop 6 d_cut
/-- _law_deeds(_law_pen_here, _law_many): slots 0:_law_pen_here 1:_law_many 2:_law_letters 3:_law_found 4:_law_stem 5:_law_front 6:_law_step 7:_law_k -/
noncomputable def d_deeds : Dst := (dSeq (dPar 2 3 (dC (.str "abcdefghijklmnopqrstuvwxyz")) (dArgs [] fLstDL))
  (dSeq (dSet 4 (dBm isS fJoin (dC (.str "")) [(compRun [7] (iR1 (dCall [(dVar 0), (dC (.int 7))] F_draw [])) (gN 7) dYes (dCall [(dVar 0), (dBin fAdd (dVar 2) (dC (.str "0123456789")))] F_pick []) kLst)]))
  (dSeq (dPar 5 6 (dCall [(dVar 0), (dC (.int 26))] F_draw []) (dCall [(dVar 0), (dArgs [(dC (.int 1)), (dC (.int 3)), (dC (.int 5)), (dC (.int 7)), (dC (.int 9)), (dC (.int 11)), (dC (.int 15)), (dC (.int 17)), (dC (.int 19)), (dC (.int 21)), (dC (.int 23)), (dC (.int 25))] fLstD)] F_pick []))
  (dSeq (dFor (iR1 (dVar 1)) (gN 7)
  (dDrop (dBm isL fApp (dVar 3) [(dBin fAdd (dBin fAdd (dBin fIx (dVar 2) (dBin fMod (dArgs [(dBin fAdd (dVar 5) (dBin fMul (dVar 6) (dVar 7)))] fInt) (dC (.int 26)))) (dVar 4)) (dBin fIx (dArgs [(dC (.str "")), (dC (.str "0")), (dC (.str "zz9"))] fLstD) (dCall [(dVar 0), (dC (.int 3))] F_draw [])))])))
  (dRet (dArgs [(dVar 3)] fTup))))))
noncomputable def F_deeds : Fd := runPop 8 d_deeds
/-- _law_pen(_law_script): slots 0:_law_script -/
noncomputable def d_pen : Dst := (dRet (dDisp ["cells", "begun", "rest"] [(dArgs [(dSl (dVar 0) none (some (dC (.int 63))))] fLst), (dC (.int 0)), (dC (.int 0))]))
noncomputable def F_pen : Fd := runKeep 1 d_pen
/-- law(_law_script): slots 0:_law_script 1:_law_pen_here 2:_law_deeds_here 3:_law_lap 4:_law_row_here 5:_law_places 6:_law_at 7:_law_odd 8:_law_due 9:_law_given 10:_law_wrong 11:_law_rows 12:_law_seen 13:_law_again 14:_law_spoiled_here 15:_law_told_here 16:_law_k -/
noncomputable def d_law : Dst := (dSeq (dSet 1 (dCall [(dVar 0)] F_pen []))
  (dSeq (dSet 2 (dCall [(dVar 1), (dC (.int 4))] F_deeds []))
  (dSeq (dFor (iR1 (dC (.int 4))) (gN 3)
  (dSeq (dSet 4 (dCall [(dVar 1), (dVar 2), (dC (.int 7))] F_row []))
  (dSeq (dSet 5 (dArgs [(compRun [16] (iR1 (dCall [(dVar 1), (dC (.int 6))] F_draw [])) (gN 16) dYes (dArgs [(dCall [(dVar 1), (dBin fAdd (dArgs [(dVar 4)] fLen) (dC (.int 1)))] F_draw [])] fInt) kLst)] fSorted))
  (dSeq (dIf (dBin (fEq false) (dCall [(dVar 1), (dC (.int 3))] F_draw []) (dC (.int 0)))
  (dSeq (dSet 6 (dCall [(dVar 1), (dBin fAdd (dArgs [(dVar 5)] fLen) (dC (.int 1)))] F_draw []))
  (dSeq (dSet 7 (dCall [(dVar 1), (dArgs [(dUn fNeg (dC (.int 1))), (dBin fAdd (dArgs [(dVar 4)] fLen) (dC (.int 1))), (dC .non), (dC (.bl true)), (dC (.str "1")), (dC (.int 0)), (dArgs [(dVar 4)] fLen)] fLstD)] F_pick []))
  (dSet 5 (dBin fAdd (dBin fAdd (dSl (dVar 5) none (some (dVar 6))) (dArgs [(dVar 7)] fLstD)) (dSl (dVar 5) (some (dVar 6)) none)))))
  dNext)
  (dSeq (dSet 8 (dCall [(dVar 4), (dVar 5)] F_cut []))
  (dSeq (dSet 9 (dIte (dBin (fEq false) (dCall [(dVar 1), (dC (.int 2))] F_draw []) (dC (.int 0))) (dArgs [(dArgs [(dVar 4)] fLst), (dArgs [(dVar 5)] fLst)] fLstD) (dArgs [(dVar 4), (dArgs [(dVar 5)] fTup)] fLstD)))
  (dSeq (dIf (dBin (fEq true) (dMetA "gives" "stretches" [0] hs_told (dClsM 0 [(dBin fIx (dVar 9) (dC (.int 0))), (dBin fIx (dVar 9) (dC (.int 1)))] F_History_cut [])) (dVar 8))
  (dRet (dC (.bl false)))
  dNext)
  (dSeq (dSet 6 (dCall [(dVar 1), (dBin fAdd (dArgs [(dVar 4)] fLen) (dC (.int 1)))] F_draw []))
  (dSeq (dSet 10 (dBin fAdd (dBin fAdd (dSl (dVar 4) none (some (dVar 6))) (dArgs [(dCall [(dVar 1), (dArgs [(dC (.str "A")), (dC (.str "")), (dC .non), (dC (.str "a|"))] fLstD)] F_pick [])] fTupD)) (dSl (dVar 4) (some (dVar 6)) none)))
  (dSeq (dIf (dBin (fEq true) (dMetA "gives" "stretches" [0] hs_told (dClsM 0 [(dVar 10), (dVar 5)] F_History_cut [])) (dArgs [(dC (.str "deeds")), (dVar 6)] fTupD))
  (dRet (dC (.bl false)))
  dNext)
  (dSeq (dSet 11 (dIte (dBin (fEq false) (dBin fIx (dVar 8) (dC (.int 0))) (dC (.str "gives"))) (dBin fIx (dVar 8) (dC (.int 1))) (dCall [(dVar 1), (dVar 2), (dC (.int 3)), (dC (.int 2))] F_stretches [])))
  (dSeq (dSet 12 (dCall [(dVar 11)] F_bars []))
  (dSeq (dIf (dOr (dBin (fEq true) (dUn (fProp 0 F_History_text) (dMake 0 [(dVar 11)] F_History_init [])) (dVar 12)) (dBin (fEq true) (dMetA "gives" "stretches" [0] hs_told (dClsM 0 [(dVar 12)] F_History_read [])) (dArgs [(dC (.str "gives")), (dVar 11)] fTupD)))
  (dRet (dC (.bl false)))
  dNext)
  (dFor (iR1 (dC (.int 4))) (gN 13)
  (dSeq (dSet 14 (dCall [(dVar 1), (dVar 12)] F_spoiled []))
  (dSeq (dSet 15 (dMetA "gives" "stretches" [0] hs_told (dClsM 0 [(dVar 14)] F_History_read [])))
  (dIf (dOr (dAnd (dBin (fEq false) (dBin fIx (dVar 15) (dC (.int 0))) (dC (.str "gives"))) (dBin (fEq true) (dCall [(dBin fIx (dVar 15) (dC (.int 1)))] F_bars []) (dVar 14))) (dAnd (dBin (fEq true) (dBin fIx (dVar 15) (dC (.int 0))) (dC (.str "gives"))) (dBin (fEq true) (dVar 15) (dArgs [(dC (.str "text")), (dC (.int 1))] fTupD))))
  (dRet (dC (.bl false)))
  dNext)))))))))))))))))
  (dRet (dAnd (dBin (fEqO 0 [] false F_History_eq) (dClsM 0 [(dC (.str ""))] F_History_read []) (dMake 0 [] F_History_init [.tup []])) (dAnd (dBin (fEqO 0 [] false F_History_eq) (dClsM 0 [(dC (.str "|"))] F_History_read []) (dMake 0 [(dArgs [(dArgs [] fTupD)] fTupD)] F_History_init [])) (dBin (fEq false) (dUn (fProp 0 F_History_text) (dMake 0 [] F_History_init [.tup []])) (dC (.str "")))))))))
noncomputable def F_law : Fd := runPop 17 d_law
end LW

set_option Elab.async false
set_option linter.all false
set_option maxRecDepth 100000
set_option maxHeartbeats 4000000
namespace LW
open PySem L2 BL
local macro_rules | `(tactic| walk_at "st") => `(tactic| repeat (first
  | with_reducible apply s_seq | ((with_reducible apply s_set'); (intro x; simp only [List.set_cons_succ, List.set_cons_zero]; exact rfl)) | with_reducible apply s_set | with_reducible apply s_ret | with_reducible apply s_retN | with_reducible apply s_drop | ((with_reducible apply s_par'); (intro x y; simp only [List.set_cons_succ, List.set_cons_zero]; exact rfl)) | ((with_reducible apply s_par3'); (intro x y z; simp only [setsE, List.set_cons_succ, List.set_cons_zero]; exact rfl)) | ((with_reducible apply s_par4'); (intro x y z w; simp only [setsE, List.set_cons_succ, List.set_cons_zero]; exact rfl)) | ((with_reducible apply s_par5'); (intro x y z w v; simp only [setsE, List.set_cons_succ, List.set_cons_zero]; exact rfl)) | with_reducible apply s_par | with_reducible apply s_put | with_reducible apply s_setF | with_reducible apply s_setL | with_reducible apply s_next | with_reducible apply s_for
  | with_reducible apply e_C | with_reducible apply e_bin | with_reducible apply e_un | with_reducible apply e_not | with_reducible apply e_and | with_reducible apply e_or | with_reducible apply e_ite | with_reducible apply e_chain
  | with_reducible apply e_call1 | with_reducible apply e_call2 | with_reducible apply e_call3 | with_reducible apply e_call4 | with_reducible apply e_args0 | with_reducible apply e_args1 | with_reducible apply e_args2 | with_reducible apply e_args3 | with_reducible apply e_args4 | with_reducible apply e_argsC
  | with_reducible apply e_sl0 | with_reducible apply e_sl1 | ((with_reducible apply e_comp'); (simp only [wipeE, List.set_cons_succ, List.set_cons_zero]; exact rfl)) | with_reducible apply e_comp | with_reducible apply i_R1 | with_reducible apply i_S' | with_reducible apply i_En' | with_reducible apply i_Str
  | ((with_reducible apply e_var); (first | exact rfl | assumption))
  | with_reducible apply f_addI | with_reducible apply f_sub | with_reducible apply f_cmp | with_reducible apply f_int | with_reducible apply f_eqI | with_reducible apply f_neI | with_reducible apply f_lenT | with_reducible apply f_lenL | with_reducible apply f_lenF | with_reducible apply e_met | with_reducible apply e_metA | with_reducible apply f_abs
  | with_reducible apply t_T | with_reducible apply t_F
  | with_reducible apply f_neg | with_reducible apply f_nnT | with_reducible apply f_nnF | with_reducible apply f_nonI | with_reducible apply s_raise1 | with_reducible apply s_raise2 | with_reducible apply s_raise3 | ((with_reducible apply f_fld); (exact rfl); (exact rfl)) | ((with_reducible apply f_fldL); (first | exact gNew | assumption); (exact rfl); (exact rfl))
  | ((with_reducible apply f_tupD); (exact rfl); (exact of_decide_eq_true rfl))
  | ((with_reducible apply f_get); (first | exact rfl | exact dkL (by assumption) | exact dkL (gSet (by assumption)) | exact dkL (gSet (gSet (by assumption)))); (exact rfl); (exact rfl))
  | ((with_reducible apply f_mul); (first | exact mulOkL (by decide) (by decide) | exact mulOkR (by decide) (by decide) | exact mulOkL (by omega) (by omega) | exact mulOkR (by omega) (by omega)))
  | ((with_reducible apply f_mod); (first | assumption | decide | omega))
  | ((with_reducible apply f_div); (first | assumption | decide | omega); (first | assumption | decide | omega))
  | ((with_reducible apply f_pow); (exact ⟨by decide, by decide, by decide⟩))
  | ((with_reducible apply f_isi); (exact rfl); (exact rfl))
  | ((with_reducible apply f_lstD); (exact rfl); (exact of_decide_eq_true rfl))
  | ((with_reducible apply putP); (first | assumption | exact gSet (by assumption) | exact gSet (gSet (by assumption))); (exact rfl); (exact rfl); (first | decide | (focus (simp; done))))))
local macro_rules | `(tactic| walk_at "go") => `(tactic| ((first | apply r_pop' | apply r_keep'); (simp only [startE, List.map_cons, List.map_nil, List.length_cons, List.length_nil, Nat.reduceAdd, Nat.reduceSub, List.replicate_succ, List.replicate_zero, List.cons_append, List.nil_append]; exact rfl)))


def penO (cs : List Int) (a l : Int) : O := .dk [(.inr "cells", .t (.lst (cs.map T.int))), (.inr "begun", .t (.int a)), (.inr "rest", .t (.int l))]
def Pen (p : Nat) (k : Int) (G : Hs) : Prop := ∃ cs a l, G[p]? = some (penO cs a l) ∧ 0 ≤ a ∧ a ≤ k
theorem Pen.mono {p : Nat} {k k' : Int} {G : Hs} (h : Pen p k G) (hk : k ≤ k') : Pen p k' G := by
  obtain ⟨cs, a, l, h1, h2, h3⟩ := h
  exact ⟨cs, a, l, h1, h2, by omega⟩
theorem Pen.app {p : Nat} {k : Int} {G H : Hs} (h : Pen p k G) : Pen p k (G ++ H) := by
  obtain ⟨cs, a, l, h1, h2, h3⟩ := h
  exact ⟨cs, a, l, gApp h1, h2, h3⟩
theorem Pen.lt {p : Nat} {k : Int} {G : Hs} (h : Pen p k G) : p < G.length := by
  obtain ⟨cs, a, l, h1, h2, h3⟩ := h
  exact gLt h1
theorem Pen.take {p : Nat} {k : Int} {G : Hs} {n : Nat} (h : Pen p k G) (hp : p < n) : Pen p k (G.take n) := by
  obtain ⟨cs, a, l, h1, h2, h3⟩ := h
  exact ⟨cs, a, l, take_at h1 hp, h2, h3⟩
section
variable {Q : D → Hs → Prop} {E : XP} {G : Hs}
theorem draw_spec {p : Nat} {k m : Int} (hp : Pen p k G) (hm : 0 < m) (hm2 : m < 1000000) (hk : k < 4611686018427387904) (hq : ∀ v G', 0 ≤ v → v < m → Pen p (k + 1) G' → Fr p G G' → Q (.t (.int v)) G') : Wp (F_draw [.loc p, .t (.int m)] G) Q E := by
  obtain ⟨cs, a, l, hg, h0, h1⟩ := hp
  unfold F_draw d_draw
  walk_at "go"
  unfold penO at hg
  refine s_seq ?_
  apply s_if
  walk_at "st"
  refine t_dec (fun hl => ?_) (fun hl => ?_)
  · walk_at "st"
    refine p_ret (Nat.le_of_eq List.length_set) ?_
    refine hq _ _ (Int.emod_nonneg _ (by omega)) (Int.emod_lt_of_pos _ hm) ⟨cs, a, l / m, gSet hg, h0, by omega⟩ Fr.set
  · walk_at "st"
    rw [List.length_map]
    refine BL.s_cut (fun r' G' => ∃ c : Int, r' = [some (.loc p), some (.t (.int m)), none, some (.t (.int a)), some (.t (.int cs.length)), some (.t (.int c)), none] ∧ G' = G.set p (penO cs (a + 1) l)) ?_ ?_
    · apply s_if
      walk_at "st"
      refine t_dec (fun h => ?_) (fun h => ?_)
      · walk_at "st"
        have hc : 0 < (cs.length : Int) := h
        have h2 : (0 : Int) ≤ a % cs.length := Int.emod_nonneg _ (by omega)
        have h3 : a % cs.length < cs.length := Int.emod_lt_of_pos _ hc
        obtain ⟨x, hx, hx2⟩ := atI_ok (xs := (cs.map T.int).map D.t) (i := a % (cs.length : Int)) (by simpa using h2) (by simpa using h3)
        refine f_ix (d := x) rfl (by simpa using hx2) ?_
        have : x ∈ (cs.map T.int).map D.t := List.mem_of_getElem? hx
        simp only [List.map_map, List.mem_map] at this
        obtain ⟨c, _, rfl⟩ := this
        exact ⟨c, rfl, rfl⟩
      · walk_at "st"
        exact ⟨_, rfl, rfl⟩
    · rintro r' G' ⟨c, rfl, rfl⟩
      have hg' : (G.set p (penO cs (a + 1) l))[p]? = some (penO cs (a + 1) l) := gSet hg
      generalize hG : G.set p (penO cs (a + 1) l) = G1 at hg' ⊢
      have hl1 : G1.length = G.length := by rw [← hG]; simp
      have hf1 : Fr p G G1 := by rw [← hG]; exact Fr.set
      unfold penO at hg'
      refine s_seq ?_
      refine BL.s_cut (fun r' G' => r' = [some (.loc p), some (.t (.int m)), none, some (.t (.int a)), some (.t (.int cs.length)), some (.t (.int c)), none] ∧ G' = G1) ?_ ?_
      · apply s_if
        walk_at "st"
        refine t_dec (fun h => ?_) (fun h => ?_)
        · walk_at "st"
          refine t_dec (fun h => ?_) (fun h => ?_)
          · walk_at "st"
            refine p_ret (Nat.le_of_eq (List.length_set.trans hl1)) ?_
            exact hq _ _ (Int.emod_nonneg _ (by omega)) (Int.emod_lt_of_pos _ hm) ⟨cs, a + 1, _, gSet hg', by omega, by omega⟩ (hf1.trans Fr.set)
          · walk_at "st"
            exact ⟨rfl, rfl⟩
        · refine t_bl (fun h' => ?_) (fun h' => ?_)
          · exact absurd (by simpa using h') h
          · walk_at "st"
            exact ⟨rfl, rfl⟩
      · rintro r' G' ⟨rfl, rfl⟩
        walk_at "st"
        refine p_ret (Nat.le_of_eq hl1) ?_
        exact hq _ _ (Int.emod_nonneg _ (by omega)) (Int.emod_lt_of_pos _ hm) ⟨cs, a + 1, l, hg', by omega, by omega⟩ hf1
theorem pick_lst {p : Nat} {k : Int} {ts : List T} (hp : Pen p k G) (h1 : 0 < ts.length) (h2 : (ts.length : Int) < 1000000) (hk : k < 4611686018427387904) (hq : ∀ t G', t ∈ ts → Pen p (k + 1) G' → Fr p G G' → Q (.t t) G') : Wp (F_pick [.loc p, .t (.lst ts)] G) Q E := by
  unfold F_pick d_pick
  walk_at "go"
  walk_at "st"
  refine draw_spec hp (by omega) h2 hk (fun v G' hv1 hv2 hp' hf => ?_)
  obtain ⟨x, hx, hx2⟩ := atI_ok (xs := ts.map D.t) (i := v) hv1 (by simpa using hv2)
  refine f_ix rfl hx2 ?_
  have := List.mem_of_getElem? hx
  obtain ⟨t, ht, rfl⟩ := List.mem_map.mp this
  exact p_ret (by rw [hf.1]; exact Nat.le_refl _) (hq t G' ht hp' hf)
theorem pick_tup {p : Nat} {k : Int} {ts : List T} (hp : Pen p k G) (h1 : 0 < ts.length) (h2 : (ts.length : Int) < 1000000) (hk : k < 4611686018427387904) (hq : ∀ t G', t ∈ ts → Pen p (k + 1) G' → Fr p G G' → Q (.t t) G') : Wp (F_pick [.loc p, .t (.tup ts)] G) Q E := by
  unfold F_pick d_pick
  walk_at "go"
  walk_at "st"
  refine draw_spec hp (by omega) h2 hk (fun v G' hv1 hv2 hp' hf => ?_)
  obtain ⟨x, hx, hx2⟩ := atI_ok (xs := ts.map D.t) (i := v) hv1 (by simpa using hv2)
  refine f_ix rfl hx2 ?_
  have := List.mem_of_getElem? hx
  obtain ⟨t, ht, rfl⟩ := List.mem_map.mp this
  exact p_ret (by rw [hf.1]; exact Nat.le_refl _) (hq t G' ht hp' hf)
theorem pick_str {p : Nat} {k : Int} {z : Str} (hp : Pen p k G) (h1 : 0 < z.length) (h2 : z.length ≤ 1000) (hk : k < 4611686018427387904) (hq : ∀ c G', c ∈ TL.tl z → Pen p (k + 1) G' → Fr p G G' → Q (.t (.str ⟨#[c]⟩)) G') : Wp (F_pick [.loc p, .t (.str z)] G) Q E := by
  have hz : z.length ≤ sizeLine := Nat.le_trans h2 (by decide)
  unfold F_pick d_pick
  walk_at "go"
  walk_at "st"
  refine f_lenS hz ?_
  refine draw_spec hp (by omega) (by omega) hk (fun v G' hv1 hv2 hp' hf => ?_)
  obtain ⟨x, hx, hx2⟩ := atI_ok (xs := z.cps.toList) (i := v) hv1 (by simpa [Str.length] using hv2)
  refine f_ixS hz hx2 ?_
  exact p_ret (by rw [hf.1]; exact Nat.le_refl _) (hq x G' (List.mem_of_getElem? hx) hp' hf)
/-- a comprehension that draws -/
theorem c_draws {r : Ev} {elt : De} {ds : List D} {i p : Nat} {k c : Int} {kp : Kp} {K : List D → Hs → Prop} (P : T → Prop) (hpen : Pen p k G) (hkp : ∀ G', Fr p G G' → kpOk kp G')
    (hs : ∀ (j : Nat) d (G' : Hs), ds[j]? = some d → Pen p (k + c * j) G' → Fr p G G' → Wp (elt (r.set i (some d)) G') (fun d G2 => ∃ t, d = .t t ∧ P t ∧ Pen p (k + c * j + c) G2 ∧ Fr p G' G2) (fun _ _ _ _ => False))
    (he : ∀ (ts : List T) G', ts.length = ds.length → (∀ t ∈ ts, P t) → Pen p (k + c * ds.length) G' → Fr p G G' → K (ts.map D.t) G') : Wc (compLoop (gN i) dYes elt kp r (ds.map Im.one) [] G) K := by
  refine c_loop (fun j acc G' => ∃ ts : List T, acc = ts.map D.t ∧ ts.length = j ∧ (∀ t ∈ ts, P t) ∧ Pen p (k + c * j) G' ∧ Fr p G G') ⟨[], rfl, rfl, by simp, by simpa using hpen, Fr.refl⟩ (fun _ _ _ h => by obtain ⟨ts, _, _, _, _, h⟩ := h; exact hkp _ h) (fun j acc G' d hd hI => ?_) (fun acc G' hI => ?_)
  · obtain ⟨ts, rfl, hl, hP, hp', hf⟩ := hI
    refine e_cut _ (hs j d G' hd hp' hf) (fun x G2 h => ?_)
    obtain ⟨t, rfl, ht, hp2, hf2⟩ := h
    refine ⟨ts ++ [t], by simp, by simp [hl], ?_, ?_, hf.trans hf2⟩
    · intro u hu
      rcases List.mem_append.mp hu with hu | hu
      · exact hP u hu
      · simp at hu; subst hu; exact ht
    · have e : k + c * ((j + 1 : Nat) : Int) = k + c * j + c := by push_cast; rw [Int.mul_add]; omega
      rw [e]; exact hp2
  · obtain ⟨ts, rfl, hl, hP, hp', hf⟩ := hI
    exact he ts G' hl hP hp' hf
end

end LW

set_option Elab.async false
set_option linter.all false
set_option maxRecDepth 100000
set_option maxHeartbeats 4000000
namespace LW
open PySem L2 BL
local macro_rules | `(tactic| walk_at "st") => `(tactic| repeat (first
  | with_reducible apply s_seq | ((with_reducible apply s_set'); (intro x; simp only [List.set_cons_succ, List.set_cons_zero]; exact rfl)) | with_reducible apply s_set | with_reducible apply s_ret | with_reducible apply s_retN | with_reducible apply s_drop | ((with_reducible apply s_par'); (intro x y; simp only [List.set_cons_succ, List.set_cons_zero]; exact rfl)) | ((with_reducible apply s_par3'); (intro x y z; simp only [setsE, List.set_cons_succ, List.set_cons_zero]; exact rfl)) | ((with_reducible apply s_par4'); (intro x y z w; simp only [setsE, List.set_cons_succ, List.set_cons_zero]; exact rfl)) | ((with_reducible apply s_par5'); (intro x y z w v; simp only [setsE, List.set_cons_succ, List.set_cons_zero]; exact rfl)) | with_reducible apply s_par | with_reducible apply s_put | with_reducible apply s_setF | with_reducible apply s_setL | with_reducible apply s_next | with_reducible apply s_for
  | with_reducible apply e_C | with_reducible apply e_bin | with_reducible apply e_un | with_reducible apply e_not | with_reducible apply e_and | with_reducible apply e_or | with_reducible apply e_ite | with_reducible apply e_chain
  | with_reducible apply e_call1 | with_reducible apply e_call2 | with_reducible apply e_call3 | with_reducible apply e_call4 | with_reducible apply e_args0 | with_reducible apply e_args1 | with_reducible apply e_args2 | with_reducible apply e_args3 | with_reducible apply e_args4 | with_reducible apply e_argsC
  | with_reducible apply e_sl0 | with_reducible apply e_sl1 | ((with_reducible apply e_comp'); (simp only [wipeE, List.set_cons_succ, List.set_cons_zero]; exact rfl)) | with_reducible apply e_comp | with_reducible apply i_R1 | with_reducible apply i_S' | with_reducible apply i_En' | with_reducible apply i_Str
  | ((with_reducible apply e_var); (first | exact rfl | assumption))
  | with_reducible apply f_addI | with_reducible apply f_sub | with_reducible apply f_cmp | with_reducible apply f_int | with_reducible apply f_eqI | with_reducible apply f_neI | with_reducible apply f_lenT | with_reducible apply f_lenL | with_reducible apply f_lenF | with_reducible apply e_met | with_reducible apply e_metA | with_reducible apply f_abs
  | with_reducible apply t_T | with_reducible apply t_F
  | with_reducible apply f_neg | with_reducible apply f_nnT | with_reducible apply f_nnF | with_reducible apply f_nonI | with_reducible apply s_raise1 | with_reducible apply s_raise2 | with_reducible apply s_raise3 | ((with_reducible apply f_fld); (exact rfl); (exact rfl)) | ((with_reducible apply f_fldL); (first | exact gNew | assumption); (exact rfl); (exact rfl))
  | ((with_reducible apply f_tupD); (exact rfl); (exact of_decide_eq_true rfl))
  | ((with_reducible apply f_get); (first | exact rfl | exact dkL (by assumption) | exact dkL (gSet (by assumption)) | exact dkL (gSet (gSet (by assumption)))); (exact rfl); (exact rfl))
  | ((with_reducible apply f_mul); (first | exact mulOkL (by decide) (by decide) | exact mulOkR (by decide) (by decide) | exact mulOkL (by omega) (by omega) | exact mulOkR (by omega) (by omega)))
  | ((with_reducible apply f_mod); (first | assumption | decide | omega))
  | ((with_reducible apply f_div); (first | assumption | decide | omega); (first | assumption | decide | omega))
  | ((with_reducible apply f_pow); (exact ⟨by decide, by decide, by decide⟩))
  | ((with_reducible apply f_isi); (exact rfl); (exact rfl))
  | ((with_reducible apply f_lstD); (exact rfl); (exact of_decide_eq_true rfl))
  | ((with_reducible apply putP); (first | assumption | exact gSet (by assumption) | exact gSet (gSet (by assumption))); (exact rfl); (exact rfl); (first | decide | (focus (simp; done))))))
local macro_rules | `(tactic| walk_at "go") => `(tactic| ((first | apply r_pop' | apply r_keep'); (simp only [startE, List.map_cons, List.map_nil, List.length_cons, List.length_nil, Nat.reduceAdd, Nat.reduceSub, List.replicate_succ, List.replicate_zero, List.cons_append, List.nil_append]; exact rfl)))


def abcL : List Nat := (List.range 26).map (97 + ·)
def alnL : List Nat := abcL ++ (List.range 10).map (48 + ·)
theorem tl_abc : ("abcdefghijklmnopqrstuvwxyz" : Str).cps.toList = abcL := by decide +kernel
theorem tl_aln : ("abcdefghijklmnopqrstuvwxyz0123456789" : Str).cps.toList = alnL := by decide +kernel
theorem tl_aln2 : TL.tl (("abcdefghijklmnopqrstuvwxyz" : Str) ++ ("0123456789" : Str)) = alnL := by decide +kernel
def wordB (w : Str) : Bool := match TL.tl w with
  | [] => false
  | c :: l => decide (l.length + 1 ≤ 12) && (decide (c ∈ abcL) && (c :: l).all fun d => decide (d ∈ alnL))
theorem word_ne {w : Str} (h : wordB w = true) : ∃ c l, TL.tl w = c :: l ∧ c ∈ abcL ∧ (∀ d ∈ c :: l, d ∈ alnL) ∧ l.length + 1 ≤ 12 := by
  unfold wordB at h
  split at h
  · cases h
  · rename_i c l e
    simp only [Bool.and_eq_true, decide_eq_true_eq, List.all_eq_true] at h
    exact ⟨c, l, e, h.2.1, h.2.2, h.1⟩
theorem aln_no : (32 : Nat) ∉ alnL ∧ (124 : Nat) ∉ alnL := by decide
theorem word_sp {w : Str} (h : wordB w = true) : 32 ∉ TL.tl w := by
  obtain ⟨c, l, e, _, ha, _⟩ := word_ne h
  rw [e]
  exact fun z => aln_no.1 (ha _ z)
theorem word_bar {w : Str} (h : wordB w = true) : w ≠ "|" := by
  rintro rfl
  obtain ⟨c, l, e, _, ha, _⟩ := word_ne h
  have e2 : TL.tl ("|" : Str) = [124] := rfl
  rw [e2] at e
  cases e
  exact aln_no.2 (ha _ (List.mem_cons_self ..))
section
variable {Q : D → Hs → Prop} {E : XP} {G : Hs}
theorem is_word_spec {w : Str} (hz : w.length ≤ 1000000) (h : Q (.t (.bl (wordB w))) G) : Wp (F_is_word [.t (.str w)] G) Q E := by
  have hz' : w.length ≤ sizeLine := Nat.le_trans hz (by decide)
  have hl : w.length = (TL.tl w).length := len_tl w
  unfold F_is_word d_is_word
  walk_at "go"
  refine s_seq ?_
  apply s_if
  walk_at "st"
  refine f_lenS hz' ?_
  walk_at "st"
  refine t_sdec (fun h1 => ?_) (fun h1 => ?_)
  · walk_at "st"
    refine t_dec (fun h2 => ?_) (fun h2 => ?_)
    · refine t_F ?_
      refine s_next ?_
      cases e : TL.tl w with
      | nil => rw [e] at hl; simp at hl; omega
      | cons c l =>
        rw [e, List.length_cons] at hl
        have hb : wordB w = (decide (c ∈ abcL) && (c :: l).all fun d => decide (d ∈ alnL)) := by
          unfold wordB
          rw [e]
          simp only [decide_eq_true (show l.length + 1 ≤ 12 by omega), Bool.true_and]
        walk_at "st"
        refine f_ixS (c := c) hz' (by show atI (TL.tl w) 0 = _; rw [e]; unfold atI ixN; simp) ?_
        walk_at "st"
        refine f_inS ?_
        simp only [Bool.false_eq_true, if_false]
        rw [tl_abc]
        refine t_dec (fun q => ?_) (fun q => ?_)
        · refine e_all (fun d => match d with | .t (.str z) => (match TL.tl z with | [x] => decide (x ∈ alnL) | _ => false) | _ => false) ?_
          walk_at "st"
          refine ⟨w, rfl, hz', rfl, kp_none, _, rfl, fun d hd Q' h' => ?_, ?_⟩
          · obtain ⟨x, hx, rfl⟩ := List.mem_map.mp hd
            walk_at "st"
            refine f_inS ?_
            simp only [Bool.false_eq_true, if_false]
            rw [tl_aln]
            exact h'
          · rw [hb, decide_eq_true q, Bool.true_and] at h
            rw [List.all_map]
            have e3 : w.cps.toList = c :: l := e
            rw [e3]
            exact p_ret (Nat.le_refl _) h
        · rw [hb, decide_eq_false q, Bool.false_and] at h
          rw [decide_eq_false q]
          exact p_ret (Nat.le_refl _) h
    · refine t_T ?_
      walk_at "st"
      have hb : wordB w = false := by
        unfold wordB
        split
        · rfl
        · rename_i c l e
          rw [e, List.length_cons] at hl
          simp only [decide_eq_false (show ¬ l.length + 1 ≤ 12 by omega), Bool.false_and]
      rw [hb] at h
      exact p_ret (Nat.le_refl _) h
  · walk_at "st"
    have hb : wordB w = false := by
      unfold wordB
      split
      · rfl
      · rename_i c l e
        rw [e, List.length_cons] at hl
        omega
    rw [hb] at h
    exact p_ret (Nat.le_refl _) h
theorem is_word_non (h : Q (.t (.bl false)) G) : Wp (F_is_word [.t .non] G) Q E := by
  unfold F_is_word d_is_word
  walk_at "go"
  refine s_seq ?_
  apply s_if
  walk_at "st"
  exact p_ret (Nat.le_refl _) h
/-- a place, or something else -/
def Val (t : T) : Prop := (∃ i, t = .int i) ∨ t = .non ∨ t = .bl true ∨ t = .str "1"
def inB (t : T) (lo hi : Int) : Bool := match t with
  | .int v => decide (lo ≤ v ∧ v ≤ hi)
  | _ => false
theorem is_integer_i {i : Int} (h : Q (.t (.bl true)) G) : Wp (F_is_integer [.t (.int i)] G) Q E := by
  unfold F_is_integer d_is_integer
  walk_at "go"
  walk_at "st"
  exact p_ret (Nat.le_refl _) h
theorem is_integer_n {t : T} (ht : t = .non ∨ t = .bl true ∨ t = .str "1") (h : Q (.t (.bl false)) G) : Wp (F_is_integer [.t t] G) Q E := by
  unfold F_is_integer d_is_integer
  walk_at "go"
  rcases ht with rfl | rfl | rfl
  · walk_at "st"
    exact p_ret (Nat.le_refl _) h
  · walk_at "st"
    exact p_ret (Nat.le_refl _) h
  · walk_at "st"
    exact p_ret (Nat.le_refl _) h
theorem is_withinT {t : T} {lo hi : Int} (hv : Val t) (h : Q (.t (.bl (inB t lo hi))) G) : Wp (F_is_within [.t t, .t (.int lo), .t (.int hi)] G) Q E := by
  unfold F_is_within d_is_within
  walk_at "go"
  walk_at "st"
  rcases hv with ⟨v, rfl⟩ | ht
  · refine is_integer_i ?_
    walk_at "st"
    have h : Q (.t (.bl (decide (lo ≤ v ∧ v ≤ hi)))) G := h
    refine t_sdec (fun h1 => ?_) (fun h1 => ?_)
    · walk_at "st"
      refine p_ret (Nat.le_refl _) ?_
      by_cases h2 : v ≤ hi
      · rw [decide_eq_true ⟨h1, h2⟩] at h; rw [decide_eq_true h2]; exact h
      · rw [decide_eq_false (fun q => h2 q.2)] at h; rw [decide_eq_false h2]; exact h
    · refine p_ret (Nat.le_refl _) ?_
      rw [decide_eq_false (fun q => h1 q.1)] at h; exact h
  · have hb : inB t lo hi = false := by rcases ht with rfl | rfl | rfl <;> rfl
    rw [hb] at h
    refine is_integer_n ht ?_
    walk_at "st"
    exact p_ret (Nat.le_refl _) h
theorem is_row_spec {d : D} {ds : List D} (hd : asS G d = some ds) (h : Q (.t (.bl true)) G) : Wp (F_is_row [d] G) Q E := by
  unfold F_is_row d_is_row
  walk_at "go"
  walk_at "st"
  rcases asS_kind hd with q | q
  · exact f_isi q rfl (p_ret (Nat.le_refl _) h)
  · exact f_isi q rfl (p_ret (Nat.le_refl _) h)
end

end LW

set_option Elab.async false
set_option linter.all false
set_option maxRecDepth 100000
set_option maxHeartbeats 4000000
namespace LW
open PySem L2 BL
local macro_rules | `(tactic| walk_at "st") => `(tactic| repeat (first
  | with_reducible apply s_seq | ((with_reducible apply s_set'); (intro x; simp only [List.set_cons_succ, List.set_cons_zero]; exact rfl)) | with_reducible apply s_set | with_reducible apply s_ret | with_reducible apply s_retN | with_reducible apply s_drop | ((with_reducible apply s_par'); (intro x y; simp only [List.set_cons_succ, List.set_cons_zero]; exact rfl)) | ((with_reducible apply s_par3'); (intro x y z; simp only [setsE, List.set_cons_succ, List.set_cons_zero]; exact rfl)) | ((with_reducible apply s_par4'); (intro x y z w; simp only [setsE, List.set_cons_succ, List.set_cons_zero]; exact rfl)) | ((with_reducible apply s_par5'); (intro x y z w v; simp only [setsE, List.set_cons_succ, List.set_cons_zero]; exact rfl)) | with_reducible apply s_par | with_reducible apply s_put | with_reducible apply s_setF | with_reducible apply s_setL | with_reducible apply s_next | with_reducible apply s_for
  | with_reducible apply e_C | with_reducible apply e_bin | with_reducible apply e_un | with_reducible apply e_not | with_reducible apply e_and | with_reducible apply e_or | with_reducible apply e_ite | with_reducible apply e_chain
  | with_reducible apply e_call1 | with_reducible apply e_call2 | with_reducible apply e_call3 | with_reducible apply e_call4 | with_reducible apply e_args0 | with_reducible apply e_args1 | with_reducible apply e_args2 | with_reducible apply e_args3 | with_reducible apply e_args4 | with_reducible apply e_argsC
  | with_reducible apply e_sl0 | with_reducible apply e_sl1 | ((with_reducible apply e_comp'); (simp only [wipeE, List.set_cons_succ, List.set_cons_zero]; exact rfl)) | with_reducible apply e_comp | with_reducible apply i_R1 | with_reducible apply i_S' | with_reducible apply i_En' | with_reducible apply i_Str
  | ((with_reducible apply e_var); (first | exact rfl | assumption))
  | with_reducible apply f_addI | with_reducible apply f_sub | with_reducible apply f_cmp | with_reducible apply f_int | with_reducible apply f_eqI | with_reducible apply f_neI | with_reducible apply f_lenT | with_reducible apply f_lenL | with_reducible apply f_lenF | with_reducible apply e_met | with_reducible apply e_metA | with_reducible apply f_abs
  | with_reducible apply t_T | with_reducible apply t_F
  | with_reducible apply f_neg | with_reducible apply f_nnT | with_reducible apply f_nnF | with_reducible apply f_nonI | with_reducible apply s_raise1 | with_reducible apply s_raise2 | with_reducible apply s_raise3 | ((with_reducible apply f_fld); (exact rfl); (exact rfl)) | ((with_reducible apply f_fldL); (first | exact gNew | assumption); (exact rfl); (exact rfl))
  | ((with_reducible apply f_tupD); (exact rfl); (exact of_decide_eq_true rfl))
  | ((with_reducible apply f_get); (first | exact rfl | exact dkL (by assumption) | exact dkL (gSet (by assumption)) | exact dkL (gSet (gSet (by assumption)))); (exact rfl); (exact rfl))
  | ((with_reducible apply f_mul); (first | exact mulOkL (by decide) (by decide) | exact mulOkR (by decide) (by decide) | exact mulOkL (by omega) (by omega) | exact mulOkR (by omega) (by omega)))
  | ((with_reducible apply f_mod); (first | assumption | decide | omega))
  | ((with_reducible apply f_div); (first | assumption | decide | omega); (first | assumption | decide | omega))
  | ((with_reducible apply f_pow); (exact ⟨by decide, by decide, by decide⟩))
  | ((with_reducible apply f_isi); (exact rfl); (exact rfl))
  | ((with_reducible apply f_lstD); (exact rfl); (exact of_decide_eq_true rfl))
  | ((with_reducible apply putP); (first | assumption | exact gSet (by assumption) | exact gSet (gSet (by assumption))); (exact rfl); (exact rfl); (first | decide | (focus (simp; done))))))
local macro_rules | `(tactic| walk_at "go") => `(tactic| ((first | apply r_pop' | apply r_keep'); (simp only [startE, List.map_cons, List.map_nil, List.length_cons, List.length_nil, Nat.reduceAdd, Nat.reduceSub, List.replicate_succ, List.replicate_zero, List.cons_append, List.nil_append]; exact rfl)))


/-! ### rows with bars, as texts -/
abbrev rowS (s : List Str) : T := .tup (s.map T.str)
def flatR (ss : List (List Str)) : List Str := ss.flatMap fun r => r ++ [("|" : Str)]
def rdP : List (List Str) → List Str → List Str → List (List Str)
  | acc, _, [] => acc
  | acc, cur, p :: ps => if p = "|" then rdP (acc ++ [cur]) [] ps else rdP acc (cur ++ [p]) ps
theorem flatR_snoc (ss : List (List Str)) (r : List Str) : flatR (ss ++ [r]) = flatR ss ++ (r ++ [("|" : Str)]) := by
  unfold flatR
  rw [List.flatMap_append, List.flatMap_singleton]
/-- the parts are there again, if a bar ends them -/
theorem flat_rdP : ∀ (ps : List Str) (acc : List (List Str)) (cur : List Str), (ps = [] → cur = []) → (∀ x, ps.getLast? = some x → x = "|") → flatR (rdP acc cur ps) = flatR acc ++ cur ++ ps
  | [], acc, cur, h, _ => by
    rw [h rfl]
    simp [rdP]
  | p :: ps, acc, cur, _, hl => by
    unfold rdP
    have hl2 : ∀ x, ps.getLast? = some x → x = "|" := by
      intro x hx
      refine hl x ?_
      cases ps with
      | nil => simp at hx
      | cons q qs => rw [List.getLast?_cons_cons]; exact hx
    split
    · rename_i e
      rw [flat_rdP ps (acc ++ [cur]) [] (fun _ => rfl) hl2, flatR_snoc, e]
      simp
    · rename_i e
      have hne : ps ≠ [] := by
        rintro rfl
        exact e (hl p rfl)
      rw [flat_rdP ps acc (cur ++ [p]) (fun z => absurd z hne) hl2]
      simp
/-- rows of words are read as they are -/
theorem rdP_row : ∀ (r : List Str) (acc : List (List Str)) (cur ps : List Str), (∀ w ∈ r, w ≠ "|") → rdP acc cur (r ++ ("|" : Str) :: ps) = rdP (acc ++ [cur ++ r]) [] ps
  | [], acc, cur, ps, _ => by simp [rdP]
  | w :: r, acc, cur, ps, h => by
    rw [List.cons_append, rdP, if_neg (h w (List.mem_cons_self ..)), rdP_row r acc (cur ++ [w]) ps fun z hz => h z (List.mem_cons_of_mem _ hz)]
    simp
theorem rdP_flat : ∀ (ss acc : List (List Str)), (∀ r ∈ ss, ∀ w ∈ r, w ≠ "|") → rdP acc [] (flatR ss) = acc ++ ss
  | [], acc, _ => by simp [flatR, rdP]
  | r :: ss, acc, h => by
    have e : flatR (r :: ss) = r ++ ("|" : Str) :: flatR ss := by simp [flatR]
    rw [e, rdP_row r acc [] (flatR ss) (h r (List.mem_cons_self ..)), List.nil_append, rdP_flat ss _ fun q hq => h q (List.mem_cons_of_mem _ hq)]
    simp
theorem joinL_app (S : List Nat) : ∀ (a b : List (List Nat)), a ≠ [] → b ≠ [] → TL.joinL S (a ++ b) = TL.joinL S a ++ (S ++ TL.joinL S b)
  | [], _, h, _ => absurd rfl h
  | [p], b, _, hb => by
    cases b with
    | nil => exact absurd rfl hb
    | cons q r => rfl
  | p :: q :: r, b, _, hb => by
    show p ++ (S ++ TL.joinL S ((q :: r) ++ b)) = _
    rw [joinL_app S (q :: r) b (by simp) hb]
    simp [TL.joinL]
theorem joinL_flat (S : List Nat) : ∀ (ls : List (List (List Nat))), (∀ l ∈ ls, l ≠ []) → TL.joinL S (ls.map (TL.joinL S)) = TL.joinL S ls.flatten
  | [], _ => rfl
  | [l], _ => by simp [TL.joinL]
  | l :: k :: ls, h => by
    have hk : (k :: ls).flatten ≠ [] := by
      rw [List.flatten_cons]
      intro z
      exact h k (by simp) (List.append_eq_nil_iff.mp z).1
    rw [List.flatten_cons, joinL_app S l _ (h l (List.mem_cons_self ..)) hk, ← joinL_flat S (k :: ls) fun q hq => h q (List.mem_cons_of_mem _ hq)]
    rfl
theorem joinL_len : ∀ ls : List (List Nat), (TL.joinL [32] ls).length + 1 = (ls.map List.length).sum + ls.length + (if ls = [] then 1 else 0)
  | [] => rfl
  | [p] => by simp [TL.joinL]
  | p :: q :: r => by
    have := joinL_len (q :: r)
    rw [if_neg (by simp)] at this ⊢
    show (p ++ ([32] ++ TL.joinL [32] (q :: r))).length + 1 = _
    rw [List.length_append, List.length_append, List.map_cons, List.sum_cons, List.length_cons]
    simp only [List.length_cons, List.length_nil] at this ⊢
    omega
/-- the text of rows -/
def barS (ss : List (List Str)) : Str := Txt.join " " (flatR ss)
theorem tl_joinT (ps : List Str) : TL.tl (Txt.join " " ps) = TL.joinL [32] (ps.map TL.tl) := by
  rw [TL.join_eq, TL.tl_join]; rfl
theorem bar_rows (ss : List (List Str)) : Txt.join " " (ss.map fun r => Txt.join " " (r ++ [("|" : Str)])) = barS ss := by
  apply tl_ext
  unfold barS
  rw [tl_joinT, tl_joinT, List.map_map]
  have e : (ss.map (TL.tl ∘ fun r => Txt.join " " (r ++ [("|" : Str)]))) = (ss.map fun r => (r ++ [("|" : Str)]).map TL.tl).map (TL.joinL [32]) := by
    rw [List.map_map]
    refine List.map_congr_left fun r _ => ?_
    exact tl_joinT _
  rw [e, joinL_flat]
  · congr 1
    unfold flatR
    rw [List.map_flatMap, ← List.flatMap_def]
  · intro l hl
    obtain ⟨r, _, rfl⟩ := List.mem_map.mp hl
    simp
/-- what read takes -/
def partsOf (z : Str) : List Str := if z.length = 0 then [] else Txt.split z " "
def goodP (ps : List Str) : Bool := (ps.all fun p => decide (p = "|") || wordB p) && decide (ps = [] ∨ ps.getLast? = some "|")
theorem parts_bar {ss : List (List Str)} (h : ∀ r ∈ ss, ∀ w ∈ r, wordB w = true) : partsOf (barS ss) = flatR ss := by
  cases ss with
  | nil => rfl
  | cons r ss =>
    have hne : flatR (r :: ss) ≠ [] := by simp [flatR]
    have hsp : ∀ p ∈ flatR (r :: ss), 32 ∉ TL.tl p := by
      intro p hp
      unfold flatR at hp
      obtain ⟨q, hq, hp⟩ := List.mem_flatMap.mp hp
      rcases List.mem_append.mp hp with hp | hp
      · exact word_sp (h q hq p hp)
      · simp only [List.mem_singleton] at hp
        subst hp
        decide
    have e : Txt.split (barS (r :: ss)) " " = flatR (r :: ss) := TL.split_join (s := 32) (S := []) rfl (by decide +kernel) hne hsp
    unfold partsOf
    rw [if_neg, e]
    intro z
    have hz : barS (r :: ss) = "" := by
      apply tl_ext
      exact List.eq_nil_of_length_eq_zero z
    rw [hz] at e
    have e2 : (Txt.split ("" : Str) " ") = [("" : Str)] := by decide +kernel
    rw [e2] at e
    have : ("" : Str) ∈ flatR (r :: ss) := by rw [← e]; simp
    unfold flatR at this
    obtain ⟨q, hq, hp⟩ := List.mem_flatMap.mp this
    rcases List.mem_append.mp hp with hp | hp
    · have := h q hq _ hp
      revert this
      decide +kernel
    · simp only [List.mem_singleton] at hp
      revert hp
      decide
theorem good_bar {ss : List (List Str)} (h : ∀ r ∈ ss, ∀ w ∈ r, wordB w = true) : goodP (flatR ss) = true := by
  unfold goodP
  rw [Bool.and_eq_true, List.all_eq_true, decide_eq_true_eq]
  refine ⟨fun p hp => ?_, ?_⟩
  · unfold flatR at hp
    obtain ⟨q, hq, hp⟩ := List.mem_flatMap.mp hp
    rcases List.mem_append.mp hp with hp | hp
    · rw [h q hq p hp, Bool.or_true]
    · simp only [List.mem_singleton] at hp
      subst hp
      rfl
  · rcases List.eq_nil_or_concat ss with rfl | ⟨ss', r, rfl⟩
    · exact .inl rfl
    · refine .inr ?_
      rw [List.concat_eq_append, flatR_snoc, ← List.append_assoc, List.getLast?_append]
      rfl
/-- read, then written: the same text -/
theorem bar_read {z : Str} (h : goodP (partsOf z) = true) : barS (rdP [] [] (partsOf z)) = z := by
  unfold goodP at h
  rw [Bool.and_eq_true, decide_eq_true_eq] at h
  have e := flat_rdP (partsOf z) [] [] (fun _ => rfl) fun x hx => by
    rcases h.2 with q | q
    · rw [q] at hx; simp at hx
    · rw [q] at hx; exact (Option.some.inj hx).symm
  have e2 : flatR (rdP [] [] (partsOf z)) = partsOf z := by rw [e]; simp [flatR]
  apply tl_ext
  unfold barS
  rw [e2, tl_joinT]
  unfold partsOf
  split
  · rename_i hz
    exact (List.eq_nil_of_length_eq_zero hz).symm
  · rw [split_tl, spl_back]; rfl
theorem rdP_words {ps : List Str} (h : ∀ p ∈ ps, p = "|" ∨ wordB p = true) : ∀ (acc : List (List Str)) (cur : List Str), (∀ r ∈ acc, ∀ w ∈ r, wordB w = true) → (∀ w ∈ cur, wordB w = true) → ∀ r ∈ rdP acc cur ps, ∀ w ∈ r, wordB w = true := by
  induction ps with
  | nil => intro acc cur ha _ r hr; exact ha r hr
  | cons p ps ih =>
    intro acc cur ha hc
    unfold rdP
    split
    · refine ih (fun q hq => h q (List.mem_cons_of_mem _ hq)) _ _ (fun r hr => ?_) (by simp)
      rcases List.mem_append.mp hr with hr | hr
      · exact ha r hr
      · simp only [List.mem_singleton] at hr
        subst hr
        exact hc
    · rename_i e
      refine ih (fun q hq => h q (List.mem_cons_of_mem _ hq)) _ _ ha fun w hw => ?_
      rcases List.mem_append.mp hw with hw | hw
      · exact hc w hw
      · simp only [List.mem_singleton] at hw
        subst hw
        exact (h w (List.mem_cons_self ..)).resolve_left e

end LW

set_option Elab.async false
set_option linter.all false
set_option maxRecDepth 100000
set_option maxHeartbeats 4000000
namespace LW
open PySem L2 BL
local macro_rules | `(tactic| walk_at "st") => `(tactic| repeat (first
  | with_reducible apply s_seq | ((with_reducible apply s_set'); (intro x; simp only [List.set_cons_succ, List.set_cons_zero]; exact rfl)) | with_reducible apply s_set | with_reducible apply s_ret | with_reducible apply s_retN | with_reducible apply s_drop | ((with_reducible apply s_par'); (intro x y; simp only [List.set_cons_succ, List.set_cons_zero]; exact rfl)) | ((with_reducible apply s_par3'); (intro x y z; simp only [setsE, List.set_cons_succ, List.set_cons_zero]; exact rfl)) | ((with_reducible apply s_par4'); (intro x y z w; simp only [setsE, List.set_cons_succ, List.set_cons_zero]; exact rfl)) | ((with_reducible apply s_par5'); (intro x y z w v; simp only [setsE, List.set_cons_succ, List.set_cons_zero]; exact rfl)) | with_reducible apply s_par | with_reducible apply s_put | with_reducible apply s_setF | with_reducible apply s_setL | with_reducible apply s_next | with_reducible apply s_for
  | with_reducible apply e_C | with_reducible apply e_bin | with_reducible apply e_un | with_reducible apply e_not | with_reducible apply e_and | with_reducible apply e_or | with_reducible apply e_ite | with_reducible apply e_chain
  | with_reducible apply e_call1 | with_reducible apply e_call2 | with_reducible apply e_call3 | with_reducible apply e_call4 | with_reducible apply e_args0 | with_reducible apply e_args1 | with_reducible apply e_args2 | with_reducible apply e_args3 | with_reducible apply e_args4 | with_reducible apply e_argsC
  | with_reducible apply e_sl0 | with_reducible apply e_sl1 | ((with_reducible apply e_comp'); (simp only [wipeE, List.set_cons_succ, List.set_cons_zero]; exact rfl)) | with_reducible apply e_comp | with_reducible apply i_R1 | with_reducible apply i_S' | with_reducible apply i_En' | with_reducible apply i_Str
  | ((with_reducible apply e_var); (first | exact rfl | assumption))
  | with_reducible apply f_addI | with_reducible apply f_sub | with_reducible apply f_cmp | with_reducible apply f_int | with_reducible apply f_eqI | with_reducible apply f_neI | with_reducible apply f_lenT | with_reducible apply f_lenL | with_reducible apply f_lenF | with_reducible apply e_met | with_reducible apply e_metA | with_reducible apply f_abs
  | with_reducible apply t_T | with_reducible apply t_F
  | with_reducible apply f_neg | with_reducible apply f_nnT | with_reducible apply f_nnF | with_reducible apply f_nonI | with_reducible apply s_raise1 | with_reducible apply s_raise2 | with_reducible apply s_raise3 | ((with_reducible apply f_fld); (exact rfl); (exact rfl)) | ((with_reducible apply f_fldL); (first | exact gNew | assumption); (exact rfl); (exact rfl))
  | ((with_reducible apply f_tupD); (exact rfl); (exact of_decide_eq_true rfl))
  | ((with_reducible apply f_get); (first | exact rfl | exact dkL (by assumption) | exact dkL (gSet (by assumption)) | exact dkL (gSet (gSet (by assumption)))); (exact rfl); (exact rfl))
  | ((with_reducible apply f_mul); (first | exact mulOkL (by decide) (by decide) | exact mulOkR (by decide) (by decide) | exact mulOkL (by omega) (by omega) | exact mulOkR (by omega) (by omega)))
  | ((with_reducible apply f_mod); (first | assumption | decide | omega))
  | ((with_reducible apply f_div); (first | assumption | decide | omega); (first | assumption | decide | omega))
  | ((with_reducible apply f_pow); (exact ⟨by decide, by decide, by decide⟩))
  | ((with_reducible apply f_isi); (exact rfl); (exact rfl))
  | ((with_reducible apply f_lstD); (exact rfl); (exact of_decide_eq_true rfl))
  | ((with_reducible apply putP); (first | assumption | exact gSet (by assumption) | exact gSet (gSet (by assumption))); (exact rfl); (exact rfl); (first | decide | (focus (simp; done))))))
local macro_rules | `(tactic| walk_at "go") => `(tactic| ((first | apply r_pop' | apply r_keep'); (simp only [startE, List.map_cons, List.map_nil, List.length_cons, List.length_nil, Nat.reduceAdd, Nat.reduceSub, List.replicate_succ, List.replicate_zero, List.cons_append, List.nil_append]; exact rfl)))


/-! ### histories -/
def histT (ss : List (List Str)) : T := .obj 0 ["stretches"] [.tup (ss.map rowS)]
def rowK (b : Bool) (s : List Str) : T := if b then .tup (s.map T.str) else .lst (s.map T.str)
theorem wordB_len {w : Str} (h : wordB w = true) : w.length ≤ 1000000 := by
  obtain ⟨c, l, e, _, _, h2⟩ := word_ne h
  have : w.length = (TL.tl w).length := len_tl w
  rw [e, List.length_cons] at this
  omega
section
variable {Q : D → Hs → Prop} {E : XP} {G : Hs}
theorem asS_rowK {b : Bool} {s : List Str} : asS G (.t (rowK b s)) = some ((s.map T.str).map D.t) := by cases b <;> rfl
theorem o_stretches {ss : List (List Str)} (h : Q (.t (.tup (ss.map rowS))) G) : Wp (fFld [0] "stretches" (.t (histT ss)) G) Q E := by unfold histT; exact f_fld rfl rfl h
theorem hist_make {x : D} {k : Bool} {ss : List (List Str)} (hx : asS G x = some ((ss.map (rowK k)).map D.t)) (hw : ∀ s ∈ ss, ∀ w ∈ s, wordB w = true) (h : Q (.t (histT ss)) G) : Wp (mkEnd G.length (F_History_init [.loc G.length, x] (G ++ [.ins 0 []]))) Q E := by
  apply e_mk
  unfold F_History_init d_History_init
  walk_at "go"
  walk_at "st"
  refine ⟨_, asS_app hx, fun kp hkp => ?_⟩
  refine s_enumG (fun n r G2 => (∃ u y z, r = [some (.loc G.length), some x, u, y, z]) ∧ G2 = G ++ [.ins 0 []]) ⟨⟨_, _, _, rfl⟩, rfl⟩ (fun n r G2 hI => hkp G2 fun i hi => by rw [hI.2]) (fun n e r G2 he hI => ?_) (fun r G2 hI => ?_)
  · obtain ⟨⟨u, y, z, rfl⟩, rfl⟩ := hI
    rw [List.getElem?_map, List.getElem?_map] at he
    cases hn : ss[n]? with
    | none => rw [hn] at he; cases he
    | some s =>
      rw [hn] at he
      cases he
      have hs := hw s (List.mem_of_getElem? hn)
      apply s_if
      walk_at "st"
      refine is_row_spec asS_rowK ?_
      refine t_T (t_F ?_)
      apply e_not
      refine e_all (fun _ => true) ?_
      walk_at "st"
      refine ⟨_, asS_rowK, fun kp hkp => ⟨rfl, hkp _ fun _ _ => rfl, _, rfl, fun d' hd' Q' h' => ?_, ?_⟩⟩
      · obtain ⟨t, ht, rfl⟩ := List.mem_map.mp hd'
        obtain ⟨w, hw', rfl⟩ := List.mem_map.mp ht
        walk_at "st"
        refine is_word_spec (wordB_len (hs w hw')) ?_
        rw [hs w hw']
        exact h'
      · rw [List.all_eq_true.mpr (fun _ _ => rfl)]
        walk_at "st"
        exact ⟨⟨_, _, _, rfl⟩, rfl⟩
  · obtain ⟨⟨u, y, z, rfl⟩, rfl⟩ := hI
    walk_at "st"
    refine ⟨_, asS_app hx, fun kp hkp => ?_⟩
    refine c_map (f := fun d => match d with | .t (.tup ts) => .t (.tup ts) | .t (.lst ts) => .t (.tup ts) | d => d) (hkp _ fun _ _ => rfl) (fun d hd Q' h' => ?_) ?_
    · obtain ⟨t, ht, rfl⟩ := List.mem_map.mp hd
      obtain ⟨s, hs, rfl⟩ := List.mem_map.mp ht
      walk_at "st"
      refine f_tup asS_rowK (plain_map _) ?_
      cases k <;> exact h'
    · have e : ((ss.map (rowK k)).map D.t).map (fun d : D => match d with | .t (.tup ts) => .t (.tup ts) | .t (.lst ts) => .t (.tup ts) | d => d) = (ss.map rowS).map D.t := by
        rw [List.map_map, List.map_map, List.map_map]
        refine List.map_congr_left fun s _ => ?_
        cases k <;> rfl
      rw [e]
      refine k_lst (plain_map _) ?_
      refine f_tup asS_lst (plain_map _) ?_
      walk_at "st"
      refine setFP gNew rfl rfl (by decide) ?_
      rw [setNew]
      refine ⟨rfl, .t (histT ss), ?_, ?_⟩
      · rw [takeAll]
        unfold popD frz
        simp only [Nat.lt_irrefl, if_false]
        rw [gNew]
        rfl
      · rw [takeAll, takeNew]
        exact h
end
/-! ### cuts at places -/
def vt : T → Int
  | .int v => v
  | _ => 0
def lo (ts : List T) : Nat → Int
  | 0 => 0
  | k + 1 => match ts[k]? with | some t => vt t | none => 0
def slc (ws : List Str) (ts : List T) (k : Nat) : List (List Str) := (List.range k).map fun j => cutA ws (some (lo ts j)) (some (lo ts (j + 1)))
def okAt (ts : List T) (n k : Nat) : Bool := match ts[k]? with | some t => inB t (lo ts k) n | none => false
theorem okAt_at {ts : List T} {n k : Nat} {t : T} (h : ts[k]? = some t) : okAt ts n k = inB t (lo ts k) n := by unfold okAt; rw [h]
theorem lo_at {ts : List T} {k : Nat} {t : T} (h : ts[k]? = some t) : lo ts (k + 1) = vt t := by
  show (match ts[k]? with | some t => vt t | none => 0) = _
  rw [h]
theorem slc_succ {ws : List Str} {ts : List T} {k : Nat} : slc ws ts (k + 1) = slc ws ts k ++ [cutA ws (some (lo ts k)) (some (lo ts (k + 1)))] := by
  unfold slc
  rw [List.range_succ, List.map_append]
  rfl
theorem cutA_map {α β : Type} (f : α → β) (xs : List α) (l h : Option Int) : cutA (xs.map f) l h = (cutA xs l h).map f := by
  unfold cutA
  rw [List.length_map, List.map_take, List.map_drop]
theorem cutA_mem {α : Type} {xs : List α} {l h : Option Int} {x : α} (hx : x ∈ cutA xs l h) : x ∈ xs := by
  unfold cutA at hx
  exact List.mem_of_mem_drop (List.mem_of_mem_take hx)
theorem slc_mem {ws : List Str} {ts : List T} {k : Nat} {s : List Str} (hs : s ∈ slc ws ts k) : ∀ w ∈ s, w ∈ ws := by
  unfold slc at hs
  obtain ⟨j, _, rfl⟩ := List.mem_map.mp hs
  exact fun w hw => cutA_mem hw
theorem cutA_len {α : Type} {xs : List α} {l h : Option Int} : (cutA xs l h).length ≤ xs.length := by
  unfold cutA
  rw [List.length_take, List.length_drop]
  omega
section
variable {Q : D → Hs → Prop} {E : XP} {G : Hs}
theorem f_slK {b : Bool} {ws : List Str} {l h : Option Int} (k : Q (.t (rowK b (cutA ws l h))) G) : Wp (fSl (.t (rowK b ws)) l h G) Q E := by
  cases b
  · refine f_slL ?_
    rw [cutA_map]
    exact k
  · refine f_slT ?_
    rw [cutA_map]
    exact k
theorem f_lenK {b : Bool} {ws : List Str} (k : Q (.t (.int ws.length)) G) : Wp (fLen [.t (rowK b ws)] G) Q E := by
  cases b
  · refine f_lenL ?_
    rw [List.length_map]
    exact k
  · refine f_lenT ?_
    rw [List.length_map]
    exact k
/-- what the law reckons -/
theorem cut_due {ws : List Str} {ts : List T} (hv : ∀ t ∈ ts, Val t) (hl : ts.length ≤ 1000)
    (hg : (∀ j, j < ts.length → okAt ts ws.length j = true) → Q (.t (.tup [.str "gives", .tup ((slc ws ts ts.length).map rowS)])) G)
    (hb : ∀ k, k < ts.length → (∀ j, j < k → okAt ts ws.length j = true) → okAt ts ws.length k = false → Q (.t (.tup [.str "place", .int k])) G) : Wp (F_cut [.t (rowS ws), .t (.lst ts)] G) Q E := by
  unfold F_cut d_cut
  walk_at "go"
  walk_at "st"
  refine f_lstDL (by decide) ?_
  walk_at "st"
  refine ⟨_, rfl, by omega, by omega, ?_⟩
  rw [Int.toNat_natCast]
  refine s_each (fun n r G' => (∃ x y, r = [some (.t (rowS ws)), some (.t (.lst ts)), some (.loc G.length), some (.t (.int (lo ts n))), x, y]) ∧ G' = G ++ [.lst (((slc ws ts n).map rowS).map D.t)] ∧ ∀ j, j < n → okAt ts ws.length j = true) ⟨⟨_, _, rfl⟩, rfl, fun j hj => absurd hj (by omega)⟩ (fun _ _ _ _ => kp_none) (fun n d r G' he hI => ?_) (fun r G' hI => ?_)
  · obtain ⟨⟨x, y, rfl⟩, rfl, hok⟩ := hI
    have hn : n < ts.length := by have := getLt he; simpa using this
    rw [List.getElem?_map, List.getElem?_range hn] at he
    cases he
    obtain ⟨t, ht⟩ : ∃ t, ts[n]? = some t := ⟨_, List.getElem?_eq_getElem hn⟩
    have hvt := hv t (List.mem_of_getElem? ht)
    walk_at "st"
    refine f_ix (d := .t t) rfl (by exact BL.atI_nat (by rw [List.getElem?_map, ht]; rfl)) ?_
    walk_at "st"
    have hend : inB t (lo ts n) ws.length = false → (∃ e, popD G.length (.t (.tup [.str "place", .int (n : Nat)])) (G ++ [O.lst (((slc ws ts n).map rowS).map D.t)]) = some e ∧ Q e ((G ++ [O.lst (((slc ws ts n).map rowS).map D.t)]).take G.length)) := by
      intro hin
      refine ⟨_, rfl, ?_⟩
      rw [List.take_left']
      · exact hb n hn hok (by rw [okAt_at ht]; exact hin)
      · rfl
    have hgo : ∀ v, t = .int v → inB t (lo ts n) ws.length = true → (∃ x y, ([some (.t (rowS ws)), some (.t (.lst ts)), some (.loc G.length), some (.t (.int v)), some (.t (.int (n : Nat))), some (.t t)] : Ev) = [some (.t (rowS ws)), some (.t (.lst ts)), some (.loc G.length), some (.t (.int (lo ts (n + 1)))), x, y]) ∧ (G ++ [O.lst (((slc ws ts n).map rowS).map D.t ++ [.t (rowS (cutA ws (some (lo ts n)) (some v)))])]) = G ++ [.lst (((slc ws ts (n + 1)).map rowS).map D.t)] ∧ ∀ j, j < n + 1 → okAt ts ws.length j = true := by
      intro v e hin
      have e1 : lo ts (n + 1) = v := by rw [lo_at ht, e]; rfl
      refine ⟨⟨_, _, by rw [e1]⟩, ?_, fun j hj => ?_⟩
      · rw [slc_succ, e1]; simp
      · rcases Nat.lt_succ_iff_lt_or_eq.mp hj with z | z
        · exact hok j z
        · subst z; rw [okAt_at ht]; exact hin
    apply s_if
    rcases hvt with ⟨v, rfl⟩ | ht'
    · have hgo := hgo v rfl
      walk_at "st"
      refine t_sdec (fun h1 => ?_) (fun h1 => ?_)
      · walk_at "st"
        rw [List.length_map]
        refine t_dec (fun h2 => ?_) (fun h2 => ?_)
        · refine t_F ?_
          walk_at "st"
          apply e_bm
          walk_at "st"
          refine ⟨isL_loc gNew, ?_⟩
          refine e_args1 ?_
          apply e_sl2
          walk_at "st"
          refine ⟨_, rfl, ?_⟩
          walk_at "st"
          refine ⟨_, rfl, ?_⟩
          refine f_slK (b := true) ?_
          refine f_app gNew rfl (by rw [List.length_map, List.length_map]; unfold slc; rw [List.length_map, List.length_range]; omega) ?_
          rw [setNew]
          walk_at "st"
          exact hgo (decide_eq_true ⟨h1, h2⟩)
        · refine t_T ?_
          walk_at "st"
          exact hend (decide_eq_false fun q => h2 q.2)
      · walk_at "st"
        exact hend (decide_eq_false fun q => h1 q.1)
    · rcases ht' with rfl | rfl | rfl
      · walk_at "st"
        exact hend rfl
      · walk_at "st"
        exact hend rfl
      · walk_at "st"
        exact hend rfl
  · obtain ⟨⟨x, y, rfl⟩, rfl, hok⟩ := hI
    rw [List.length_map, List.length_range] at hok ⊢
    walk_at "st"
    refine f_tup (asS_loc gNew) (plain_map _) ?_
    walk_at "st"
    refine ⟨_, rfl, ?_⟩
    rw [List.take_left' rfl]
    exact hg hok
end

end LW

set_option Elab.async false
set_option linter.all false
set_option maxRecDepth 100000
set_option maxHeartbeats 4000000
namespace LW
open PySem L2 BL
local macro_rules | `(tactic| walk_at "st") => `(tactic| repeat (first
  | with_reducible apply s_seq | ((with_reducible apply s_set'); (intro x; simp only [List.set_cons_succ, List.set_cons_zero]; exact rfl)) | with_reducible apply s_set | with_reducible apply s_ret | with_reducible apply s_retN | with_reducible apply s_drop | ((with_reducible apply s_par'); (intro x y; simp only [List.set_cons_succ, List.set_cons_zero]; exact rfl)) | ((with_reducible apply s_par3'); (intro x y z; simp only [setsE, List.set_cons_succ, List.set_cons_zero]; exact rfl)) | ((with_reducible apply s_par4'); (intro x y z w; simp only [setsE, List.set_cons_succ, List.set_cons_zero]; exact rfl)) | ((with_reducible apply s_par5'); (intro x y z w v; simp only [setsE, List.set_cons_succ, List.set_cons_zero]; exact rfl)) | with_reducible apply s_par | with_reducible apply s_put | with_reducible apply s_setF | with_reducible apply s_setL | with_reducible apply s_next | with_reducible apply s_for
  | with_reducible apply e_C | with_reducible apply e_bin | with_reducible apply e_un | with_reducible apply e_not | with_reducible apply e_and | with_reducible apply e_or | with_reducible apply e_ite | with_reducible apply e_chain
  | with_reducible apply e_call1 | with_reducible apply e_call2 | with_reducible apply e_call3 | with_reducible apply e_call4 | with_reducible apply e_args0 | with_reducible apply e_args1 | with_reducible apply e_args2 | with_reducible apply e_args3 | with_reducible apply e_args4 | with_reducible apply e_argsC
  | with_reducible apply e_sl0 | with_reducible apply e_sl1 | ((with_reducible apply e_comp'); (simp only [wipeE, List.set_cons_succ, List.set_cons_zero]; exact rfl)) | with_reducible apply e_comp | with_reducible apply i_R1 | with_reducible apply i_S' | with_reducible apply i_En' | with_reducible apply i_Str
  | ((with_reducible apply e_var); (first | exact rfl | assumption))
  | with_reducible apply f_addI | with_reducible apply f_sub | with_reducible apply f_cmp | with_reducible apply f_int | with_reducible apply f_eqI | with_reducible apply f_neI | with_reducible apply f_lenT | with_reducible apply f_lenL | with_reducible apply f_lenF | with_reducible apply e_met | with_reducible apply e_metA | with_reducible apply f_abs
  | with_reducible apply t_T | with_reducible apply t_F
  | with_reducible apply f_neg | with_reducible apply f_nnT | with_reducible apply f_nnF | with_reducible apply f_nonI | with_reducible apply s_raise1 | with_reducible apply s_raise2 | with_reducible apply s_raise3 | ((with_reducible apply f_fld); (exact rfl); (exact rfl)) | ((with_reducible apply f_fldL); (first | exact gNew | assumption); (exact rfl); (exact rfl))
  | ((with_reducible apply f_tupD); (exact rfl); (exact of_decide_eq_true rfl))
  | ((with_reducible apply f_get); (first | exact rfl | exact dkL (by assumption) | exact dkL (gSet (by assumption)) | exact dkL (gSet (gSet (by assumption)))); (exact rfl); (exact rfl))
  | ((with_reducible apply f_mul); (first | exact mulOkL (by decide) (by decide) | exact mulOkR (by decide) (by decide) | exact mulOkL (by omega) (by omega) | exact mulOkR (by omega) (by omega)))
  | ((with_reducible apply f_mod); (first | assumption | decide | omega))
  | ((with_reducible apply f_div); (first | assumption | decide | omega); (first | assumption | decide | omega))
  | ((with_reducible apply f_pow); (exact ⟨by decide, by decide, by decide⟩))
  | ((with_reducible apply f_isi); (exact rfl); (exact rfl))
  | ((with_reducible apply f_lstD); (exact rfl); (exact of_decide_eq_true rfl))
  | ((with_reducible apply putP); (first | assumption | exact gSet (by assumption) | exact gSet (gSet (by assumption))); (exact rfl); (exact rfl); (first | decide | (focus (simp; done))))))
local macro_rules | `(tactic| walk_at "go") => `(tactic| ((first | apply r_pop' | apply r_keep'); (simp only [startE, List.map_cons, List.map_nil, List.length_cons, List.length_nil, Nat.reduceAdd, Nat.reduceSub, List.replicate_succ, List.replicate_zero, List.cons_append, List.nil_append]; exact rfl)))


section
variable {Q : D → Hs → Prop} {E : XP} {G : Hs}
theorem f_join {a : Str} {ys : List Str} {y : D} (h : asS G y = some ((ys.map T.str).map D.t)) (hz : (ys.map (·.length)).sum + ys.length * a.length ≤ 16777216) (k : Q (.t (.str (Txt.join a ys))) G) : Wp (fJoin (.t (.str a)) [y] G) Q E := by
  have e1 : strsT ((ys.map T.str).map D.t) = some ys := by
    have := strs_map ys
    rw [List.map_map]
    exact this
  have e : fJoin (.t (.str a)) [y] G = .ok (.t (.str (Txt.join a ys))) G := by
    simp only [fJoin, h, e1]
    rw [if_pos hz]
  rw [e]
  exact e_ok k
/-- History.cut -/
theorem cut_spec {b : Bool} {ws : List Str} {u : T} {ts : List T} (hw : ∀ w ∈ ws, wordB w = true) (hu : ∀ G, asS G (.t u) = some (ts.map D.t)) (hv : ∀ t ∈ ts, Val t) (hl : ts.length ≤ 1000)
    (hg : (∀ j, j < ts.length → okAt ts ws.length j = true) → Q (.t (histT (slc ws ts ts.length))) G)
    (hb : ∀ k, k < ts.length → (∀ j, j < k → okAt ts ws.length j = true) → okAt ts ws.length k = false → E 2 ["index"] [.t (.int k)] G) : Wp (F_History_cut [.t (.cls 0), .t (rowK b ws), .t u] G) Q E := by
  unfold F_History_cut d_History_cut
  walk_at "go"
  refine s_seq ?_
  walk_at "st"
  refine ⟨_, asS_rowK, fun kp hkp => ?_⟩
  refine s_enumG (fun n r G2 => (∃ x y, r = [some (.t (.cls 0)), some (.t (rowK b ws)), some (.t u), x, y, none, none, none]) ∧ G2 = G) ⟨⟨_, _, rfl⟩, rfl⟩ (fun n r G2 hI => hkp G2 fun i hi => nomatch hi) (fun n e r G2 he hI => ?_) (fun r G2 hI => ?_)
  · obtain ⟨⟨x, y, rfl⟩, rfl⟩ := hI
    rw [List.getElem?_map, List.getElem?_map] at he
    cases hn : ws[n]? with
    | none => rw [hn] at he; cases he
    | some w =>
      rw [hn] at he
      cases he
      have hw1 := hw w (List.mem_of_getElem? hn)
      apply s_if
      walk_at "st"
      refine is_word_spec (wordB_len hw1) ?_
      rw [hw1]
      walk_at "st"
      exact ⟨⟨_, _, rfl⟩, rfl⟩
  obtain ⟨⟨x, y, rfl⟩, rfl⟩ := hI
  walk_at "st"
  refine f_lstDL (by decide) ?_
  walk_at "st"
  refine ⟨_, hu _, fun kp hkp => ?_⟩
  refine s_enumG (fun n r G' => (∃ x y z, r = [some (.t (.cls 0)), some (.t (rowK b ws)), some (.t u), x, y, some (.t (.int (lo ts n))), some (.loc G2.length), z]) ∧ G' = G2 ++ [O.lst (((slc ws ts n).map (rowK b)).map D.t)] ∧ ∀ j, j < n → okAt ts ws.length j = true) ⟨⟨_, _, _, rfl⟩, rfl, fun j hj => absurd hj (by omega)⟩ (fun n r G' hI => hkp G' fun i hi => nomatch hi) (fun n d r G' he hI => ?_) (fun r G' hI => ?_)
  · obtain ⟨⟨x, y, z, rfl⟩, rfl, hok⟩ := hI
    have hn : n < ts.length := by have := getLt he; simpa using this
    obtain ⟨t, ht⟩ : ∃ t, ts[n]? = some t := ⟨_, List.getElem?_eq_getElem hn⟩
    rw [List.getElem?_map, ht] at he
    cases he
    have hvt := hv t (List.mem_of_getElem? ht)
    refine s_seq ?_
    apply s_if
    walk_at "st"
    refine f_lenK ?_
    refine is_withinT hvt ?_
    cases hin : inB t (lo ts n) ws.length with
    | false =>
      walk_at "st"
      refine ⟨_, rfl, ?_⟩
      rw [List.take_left' rfl]
      exact hb n hn hok (by rw [okAt_at ht]; exact hin)
    | true =>
      have hnt : ∃ v, t = .int v := by
        rcases hvt with h | h
        · exact h
        · rcases h with rfl | rfl | rfl <;> cases hin
      obtain ⟨v, rfl⟩ := hnt
      have e1 : lo ts (n + 1) = v := by rw [lo_at ht]; rfl
      walk_at "st"
      apply e_bm
      walk_at "st"
      refine ⟨isL_loc gNew, ?_⟩
      refine e_args1 ?_
      apply e_sl2
      walk_at "st"
      refine ⟨_, rfl, ?_⟩
      walk_at "st"
      refine ⟨_, rfl, ?_⟩
      refine f_slK ?_
      refine f_app gNew (by cases b <;> rfl) (by rw [List.length_map, List.length_map]; unfold slc; rw [List.length_map, List.length_range]; omega) ?_
      rw [setNew]
      walk_at "st"
      refine ⟨⟨_, _, _, by rw [e1]⟩, ?_, fun j hj => ?_⟩
      · rw [slc_succ, e1]; simp
      · rcases Nat.lt_succ_iff_lt_or_eq.mp hj with z | z
        · exact hok j z
        · subst z; rw [okAt_at ht]; exact hin
  · obtain ⟨⟨x, y, z, rfl⟩, rfl, hok⟩ := hI
    rw [List.length_map] at hok ⊢
    walk_at "st"
    refine e_makeV rfl ?_
    walk_at "st"
    refine hist_make (asS_loc gNew) (fun s hs w hw' => hw w (slc_mem hs w hw')) ?_
    refine ⟨_, rfl, ?_⟩
    rw [List.take_left' rfl]
    exact hg hok
/-- .. of a row with something odd in it -/
theorem cut_odd {ws : List Str} {t : T} {b : List T} {u : D} (hw : ∀ w ∈ ws, wordB w = true) (ht : t = .non ∨ ∃ z, t = .str z ∧ z.length ≤ 1000 ∧ wordB z = false) (h : E 1 ["index"] [.t (.int ws.length)] G) : Wp (F_History_cut [.t (.cls 0), .t (.tup (ws.map T.str ++ t :: b)), u] G) Q E := by
  unfold F_History_cut d_History_cut
  walk_at "go"
  refine s_seq ?_
  walk_at "st"
  refine ⟨_, asS_tup, fun kp hkp => ?_⟩
  refine s_enumG (fun n r G2 => ((∃ x y, r = [some (.t (.cls 0)), some (.t (.tup (ws.map T.str ++ t :: b))), some u, x, y, none, none, none]) ∧ G2 = G) ∧ n ≤ ws.length) ⟨⟨⟨_, _, rfl⟩, rfl⟩, Nat.zero_le _⟩ (fun n r G2 hI => hkp G2 fun i hi => nomatch hi) (fun n e r G2 he hI => ?_) (fun r G2 hI => ?_)
  · obtain ⟨⟨⟨x, y, rfl⟩, rfl⟩, hnl⟩ := hI
    rw [List.getElem?_map] at he
    apply s_if
    rcases Nat.lt_or_eq_of_le hnl with hlt | rfl
    · rw [List.getElem?_append_left (by simpa using hlt), List.getElem?_map, List.getElem?_eq_getElem hlt] at he
      cases he
      have hw1 := hw _ (List.getElem_mem hlt)
      walk_at "st"
      refine is_word_spec (wordB_len hw1) ?_
      rw [hw1]
      walk_at "st"
      exact ⟨⟨⟨_, _, rfl⟩, rfl⟩, hlt⟩
    · rw [List.getElem?_append_right (by simp), List.length_map, Nat.sub_self] at he
      cases he
      rcases ht with rfl | ⟨z, rfl, hz, hzb⟩
      · walk_at "st"
        refine is_word_non ?_
        walk_at "st"
        refine ⟨_, rfl, ?_⟩
        rw [List.take_of_length_le (Nat.le_refl _)]
        exact h
      · walk_at "st"
        refine is_word_spec (Nat.le_trans hz (by decide)) ?_
        rw [hzb]
        walk_at "st"
        refine ⟨_, rfl, ?_⟩
        rw [List.take_of_length_le (Nat.le_refl _)]
        exact h
  · exfalso
    have h2 := hI.2
    rw [List.length_map, List.length_append, List.length_map, List.length_cons] at h2
    omega
end

end LW

set_option Elab.async false
set_option linter.all false
set_option maxRecDepth 100000
set_option maxHeartbeats 4000000
namespace LW
open PySem L2 BL
local macro_rules | `(tactic| walk_at "st") => `(tactic| repeat (first
  | with_reducible apply s_seq | ((with_reducible apply s_set'); (intro x; simp only [List.set_cons_succ, List.set_cons_zero]; exact rfl)) | with_reducible apply s_set | with_reducible apply s_ret | with_reducible apply s_retN | with_reducible apply s_drop | ((with_reducible apply s_par'); (intro x y; simp only [List.set_cons_succ, List.set_cons_zero]; exact rfl)) | ((with_reducible apply s_par3'); (intro x y z; simp only [setsE, List.set_cons_succ, List.set_cons_zero]; exact rfl)) | ((with_reducible apply s_par4'); (intro x y z w; simp only [setsE, List.set_cons_succ, List.set_cons_zero]; exact rfl)) | ((with_reducible apply s_par5'); (intro x y z w v; simp only [setsE, List.set_cons_succ, List.set_cons_zero]; exact rfl)) | with_reducible apply s_par | with_reducible apply s_put | with_reducible apply s_setF | with_reducible apply s_setL | with_reducible apply s_next | with_reducible apply s_for
  | with_reducible apply e_C | with_reducible apply e_bin | with_reducible apply e_un | with_reducible apply e_not | with_reducible apply e_and | with_reducible apply e_or | with_reducible apply e_ite | with_reducible apply e_chain
  | with_reducible apply e_call1 | with_reducible apply e_call2 | with_reducible apply e_call3 | with_reducible apply e_call4 | with_reducible apply e_args0 | with_reducible apply e_args1 | with_reducible apply e_args2 | with_reducible apply e_args3 | with_reducible apply e_args4 | with_reducible apply e_argsC
  | with_reducible apply e_sl0 | with_reducible apply e_sl1 | ((with_reducible apply e_comp'); (simp only [wipeE, List.set_cons_succ, List.set_cons_zero]; exact rfl)) | with_reducible apply e_comp | with_reducible apply i_R1 | with_reducible apply i_S' | with_reducible apply i_En' | with_reducible apply i_Str
  | ((with_reducible apply e_var); (first | exact rfl | assumption))
  | with_reducible apply f_addI | with_reducible apply f_sub | with_reducible apply f_cmp | with_reducible apply f_int | with_reducible apply f_eqI | with_reducible apply f_neI | with_reducible apply f_lenT | with_reducible apply f_lenL | with_reducible apply f_lenF | with_reducible apply e_met | with_reducible apply e_metA | with_reducible apply f_abs
  | with_reducible apply t_T | with_reducible apply t_F
  | with_reducible apply f_neg | with_reducible apply f_nnT | with_reducible apply f_nnF | with_reducible apply f_nonI | with_reducible apply s_raise1 | with_reducible apply s_raise2 | with_reducible apply s_raise3 | ((with_reducible apply f_fld); (exact rfl); (exact rfl)) | ((with_reducible apply f_fldL); (first | exact gNew | assumption); (exact rfl); (exact rfl))
  | ((with_reducible apply f_tupD); (exact rfl); (exact of_decide_eq_true rfl))
  | ((with_reducible apply f_get); (first | exact rfl | exact dkL (by assumption) | exact dkL (gSet (by assumption)) | exact dkL (gSet (gSet (by assumption)))); (exact rfl); (exact rfl))
  | ((with_reducible apply f_mul); (first | exact mulOkL (by decide) (by decide) | exact mulOkR (by decide) (by decide) | exact mulOkL (by omega) (by omega) | exact mulOkR (by omega) (by omega)))
  | ((with_reducible apply f_mod); (first | assumption | decide | omega))
  | ((with_reducible apply f_div); (first | assumption | decide | omega); (first | assumption | decide | omega))
  | ((with_reducible apply f_pow); (exact ⟨by decide, by decide, by decide⟩))
  | ((with_reducible apply f_isi); (exact rfl); (exact rfl))
  | ((with_reducible apply f_lstD); (exact rfl); (exact of_decide_eq_true rfl))
  | ((with_reducible apply putP); (first | assumption | exact gSet (by assumption) | exact gSet (gSet (by assumption))); (exact rfl); (exact rfl); (first | decide | (focus (simp; done))))))
local macro_rules | `(tactic| walk_at "go") => `(tactic| ((first | apply r_pop' | apply r_keep'); (simp only [startE, List.map_cons, List.map_nil, List.length_cons, List.length_nil, Nat.reduceAdd, Nat.reduceSub, List.replicate_succ, List.replicate_zero, List.cons_append, List.nil_append]; exact rfl)))


theorem spl_len : ∀ (r acc p : List Nat), p ∈ TL.spl [32] 0 acc r → p.length ≤ acc.length + r.length
  | [], acc, p, h => by
    rw [TL.spl_nil] at h
    simp only [List.mem_singleton] at h
    subst h
    simp
  | x :: r, acc, p, h => by
    unfold TL.spl at h
    split at h
    · rcases List.mem_cons.mp h with rfl | h
      · omega
      · have := spl_len r [] p h
        simp at this ⊢
        omega
    · have := spl_len r (acc ++ [x]) p h
      simp at this ⊢
      omega
theorem parts_len {z : Str} {p : Str} (h : p ∈ partsOf z) : p.length ≤ z.length := by
  unfold partsOf at h
  split at h
  · simp at h
  · have h1 : TL.tl p ∈ TL.spl [32] 0 [] (TL.tl z) := by rw [← split_tl]; exact List.mem_map.mpr ⟨p, h, rfl⟩
    have h2 := spl_len _ _ _ h1
    rw [len_tl p, len_tl z]
    simpa using h2
theorem parts_many (z : Str) : (partsOf z).length ≤ z.length + 2 := by
  unfold partsOf
  split
  · simp
  · exact PyProof.Rows.split_le z " "
theorem atI_last {α : Type} {xs : List α} (h : xs ≠ []) : atI xs (-1) = xs.getLast? := by
  have hl : 0 < xs.length := List.length_pos_iff.mpr h
  unfold atI ixN
  rw [List.getLast?_eq_getElem?]
  have e : ((-1 : Int) + xs.length).toNat = xs.length - 1 := by omega
  simp
  rw [if_pos (by omega)]
  simp only [Option.bind_some, e]
def partB (p : Str) : Bool := decide (p = "|") || wordB p
def partD : D → Bool
  | .t (.str w) => partB w
  | _ => false
theorem good_iff {ps : List Str} : goodP ps = ((ps.map dS).all partD && decide (ps = [] ∨ ps.getLast? = some "|")) := by
  unfold goodP
  rw [List.all_map]
  rfl
section
variable {Q : D → Hs → Prop} {E : XP} {G : Hs}
theorem t_lst {ts : List T} {A B : Prop} (h1 : ts ≠ [] → A) (h2 : ts = [] → B) : Wt (truth G (.t (.lst ts))) A B := by
  cases ts with
  | nil => exact t_F (G := G) (h2 rfl)
  | cons t ts => exact t_T (G := G) (h1 (by simp))
theorem t_str {z : Str} {A B : Prop} (hz : z.length ≤ 1000000) (h1 : z.length ≠ 0 → A) (h2 : z.length = 0 → B) : Wt (truth G (.t (.str z))) A B := by
  have e : truth G (.t (.str z)) = some (decide (z.length ≠ 0)) := by
    simp only [truth]
    rw [if_pos (Nat.le_trans hz (by decide))]
    congr 1
    rw [Bool.eq_iff_iff]
    simp
  rw [e]
  exact t_sdec h1 fun q => h2 (by omega)
/-- History.read -/
theorem read_spec {z : Str} (hz : z.length ≤ 1000000) (hg : goodP (partsOf z) = true → Q (.t (histT (rdP [] [] (partsOf z)))) G) (hb : goodP (partsOf z) = false → E 3 ["line"] [.t (.int 1)] G) : Wp (F_History_read [.t (.cls 0), .t (.str z)] G) Q E := by
  unfold F_History_read d_History_read
  walk_at "go"
  refine s_seq ?_
  refine BL.s_cut (fun r' G' => r' = [some (.t (.cls 0)), some (.t (.str z)), some (.t (.lst ((partsOf z).map T.str))), none, none, none] ∧ G' = G) ?_ ?_
  · walk_at "st"
    refine t_str hz (fun h => ?_) (fun h => ?_)
    · apply e_bm
      walk_at "st"
      refine ⟨rfl, ?_⟩
      walk_at "st"
      refine f_split hz ?_
      have e : Txt.split z " " = partsOf z := by unfold partsOf; rw [if_neg h]
      rw [e]
      exact ⟨rfl, rfl⟩
    · walk_at "st"
      have e : partsOf z = [] := by unfold partsOf; rw [if_pos h]
      rw [e]
      exact ⟨rfl, rfl⟩
  have hpl : ∀ p ∈ partsOf z, p.length ≤ 1000000 := fun p hp => Nat.le_trans (parts_len hp) hz
  have hpm := parts_many z
  generalize partsOf z = ps at hg hb hpl hpm ⊢
  rintro r' G' ⟨rfl, rfl⟩
  have hgood := good_iff (ps := ps)
  refine s_seq ?_
  refine BL.s_cut (fun r' G2 => (∃ x, r' = [some (.t (.cls 0)), some (.t (.str z)), some (.t (.lst (ps.map T.str))), none, none, x]) ∧ G2 = G' ∧ goodP ps = true) ?_ ?_
  · have hbad : goodP ps = false → ∃ es', popDs G'.length [D.t (.int 1)] G' = some es' ∧ E 3 ["line"] es' (G'.take G'.length) := fun q => ⟨_, rfl, by rw [List.take_of_length_le (Nat.le_refl _)]; exact hb q⟩
    apply s_if
    apply e_or
    apply e_not
    refine e_all partD ?_
    walk_at "st"
    refine ⟨_, asS_lst, fun kp hkp => ⟨rfl, hkp _ fun _ _ => rfl, _, rfl, fun d' hd' Q' h' => ?_, ?_⟩⟩
    · obtain ⟨t, ht, rfl⟩ := List.mem_map.mp hd'
      obtain ⟨w, hw', rfl⟩ := List.mem_map.mp ht
      have h' : Q' (.t (.bl (partB w))) G' := h'
      unfold partB at h'
      walk_at "st"
      refine f_eqS ?_
      refine t_dec (fun q => ?_) (fun q => ?_)
      · rw [decide_eq_true q] at h' ⊢
        exact h'
      · rw [decide_eq_false q, Bool.false_or] at h'
        walk_at "st"
        exact is_word_spec (hpl w hw') h'
    · rw [show (ps.map T.str).map D.t = ps.map dS by rw [List.map_map]; rfl]
      cases hall : (ps.map dS).all partD with
      | false =>
        rw [hall, Bool.false_and] at hgood
        walk_at "st"
        exact hbad hgood
      | true =>
        rw [hall, Bool.true_and] at hgood
        walk_at "st"
        refine t_lst (fun hne => ?_) (fun hne => ?_)
        · have hne' : ps ≠ [] := fun q => hne (by rw [q]; rfl)
          walk_at "st"
          obtain ⟨x, hx⟩ : ∃ x, ps.getLast? = some x := ⟨_, List.getLast?_eq_some_getLast hne'⟩
          refine f_ix (d := .t (.str x)) asS_lst ?_ ?_
          · rw [atI_last (by simpa using hne'), List.getLast?_map, List.getLast?_map, hx]
            rfl
          · walk_at "st"
            refine f_neS ?_
            refine t_ndec (fun q => ?_) (fun q => ?_)
            · walk_at "st"
              refine hbad ?_
              rw [hgood, hx]
              refine decide_eq_false ?_
              rintro (h | h)
              · exact hne' h
              · exact q (Option.some.inj h)
            · walk_at "st"
              refine ⟨⟨_, rfl⟩, rfl, ?_⟩
              rw [hgood, hx, q]
              simp
        · have he : ps = [] := by simpa using hne
          refine t_lst (fun h => absurd hne h) (fun _ => ?_)
          walk_at "st"
          refine ⟨⟨_, rfl⟩, rfl, ?_⟩
          rw [hgood, he]
          rfl
  rintro r' G2 ⟨⟨x, rfl⟩, rfl, hgo⟩
  have hwd : ∀ p ∈ ps, p = "|" ∨ wordB p = true := by
    intro p hp
    unfold goodP at hgo
    rw [Bool.and_eq_true, List.all_eq_true] at hgo
    have := hgo.1 p hp
    simpa using this
  walk_at "st"
  refine f_lstDL (by decide) ?_
  walk_at "st"
  refine ⟨_, asS_lst, fun kp hkp => ?_⟩
  refine s_each (fun n r G' => ∃ acc cur x, r = [some (.t (.cls 0)), some (.t (.str z)), some (.t (.lst (ps.map T.str))), some (.loc G2.length), some (.t (.lst (cur.map T.str))), x] ∧ G' = G2 ++ [O.lst ((acc.map rowS).map D.t)] ∧ rdP acc cur (ps.drop n) = rdP [] [] ps ∧ acc.length ≤ n ∧ cur.length ≤ n) ⟨[], [], _, rfl, rfl, rfl, Nat.le_refl _, Nat.le_refl _⟩ (fun n r G' hI => hkp G' fun i hi => nomatch hi) (fun n d r G' he hI => ?_) (fun r G' hI => ?_)
  · obtain ⟨acc, cur, x, rfl, rfl, hrd, hal, hcl⟩ := hI
    have hn : n < ps.length := by have := getLt he; simpa using this
    rw [List.getElem?_map, List.getElem?_map, List.getElem?_eq_getElem hn] at he
    cases he
    rw [List.drop_eq_getElem_cons hn, rdP] at hrd
    generalize ps[n] = p at hrd ⊢
    apply s_if
    walk_at "st"
    refine f_eqS ?_
    refine t_dec (fun q => ?_) (fun q => ?_)
    · rw [if_pos q] at hrd
      walk_at "st"
      apply e_bm
      walk_at "st"
      refine ⟨isL_loc gNew, ?_⟩
      walk_at "st"
      refine f_tup asS_lst (plain_map _) ?_
      refine f_app gNew rfl (by rw [List.length_map, List.length_map]; omega) ?_
      rw [setNew]
      walk_at "st"
      exact ⟨acc ++ [cur], [], _, rfl, by simp, hrd, by simp; omega, by simp⟩
    · rw [if_neg q] at hrd
      walk_at "st"
      apply e_snoc
      walk_at "st"
      refine ⟨_, rfl, ?_⟩
      walk_at "st"
      refine f_snoc (by rw [List.length_map]; exact Nat.le_trans (show cur.length + 1 ≤ 2000000 by omega) (by decide)) ?_
      exact ⟨acc, cur ++ [p], some (.t (.str p)), by simp, rfl, hrd, by omega, by simp; omega⟩
  · obtain ⟨acc, cur, x, rfl, rfl, hrd, hal, hcl⟩ := hI
    rw [List.length_map, List.length_map, List.drop_length, rdP] at hrd
    subst hrd
    walk_at "st"
    refine e_makeV rfl ?_
    walk_at "st"
    refine hist_make (k := true) (asS_loc gNew) (rdP_words hwd [] [] (by simp) (by simp)) ?_
    refine ⟨_, rfl, ?_⟩
    rw [List.take_left' rfl]
    exact hg hgo
end

end LW

set_option Elab.async false
set_option linter.all false
set_option maxRecDepth 100000
set_option maxHeartbeats 4000000
namespace LW
open PySem L2 BL
local macro_rules | `(tactic| walk_at "st") => `(tactic| repeat (first
  | with_reducible apply s_seq | ((with_reducible apply s_set'); (intro x; simp only [List.set_cons_succ, List.set_cons_zero]; exact rfl)) | with_reducible apply s_set | with_reducible apply s_ret | with_reducible apply s_retN | with_reducible apply s_drop | ((with_reducible apply s_par'); (intro x y; simp only [List.set_cons_succ, List.set_cons_zero]; exact rfl)) | ((with_reducible apply s_par3'); (intro x y z; simp only [setsE, List.set_cons_succ, List.set_cons_zero]; exact rfl)) | ((with_reducible apply s_par4'); (intro x y z w; simp only [setsE, List.set_cons_succ, List.set_cons_zero]; exact rfl)) | ((with_reducible apply s_par5'); (intro x y z w v; simp only [setsE, List.set_cons_succ, List.set_cons_zero]; exact rfl)) | with_reducible apply s_par | with_reducible apply s_put | with_reducible apply s_setF | with_reducible apply s_setL | with_reducible apply s_next | with_reducible apply s_for
  | with_reducible apply e_C | with_reducible apply e_bin | with_reducible apply e_un | with_reducible apply e_not | with_reducible apply e_and | with_reducible apply e_or | with_reducible apply e_ite | with_reducible apply e_chain
  | with_reducible apply e_call1 | with_reducible apply e_call2 | with_reducible apply e_call3 | with_reducible apply e_call4 | with_reducible apply e_args0 | with_reducible apply e_args1 | with_reducible apply e_args2 | with_reducible apply e_args3 | with_reducible apply e_args4 | with_reducible apply e_argsC
  | with_reducible apply e_sl0 | with_reducible apply e_sl1 | ((with_reducible apply e_comp'); (simp only [wipeE, List.set_cons_succ, List.set_cons_zero]; exact rfl)) | with_reducible apply e_comp | with_reducible apply i_R1 | with_reducible apply i_S' | with_reducible apply i_En' | with_reducible apply i_Str
  | ((with_reducible apply e_var); (first | exact rfl | assumption))
  | with_reducible apply f_addI | with_reducible apply f_sub | with_reducible apply f_cmp | with_reducible apply f_int | with_reducible apply f_eqI | with_reducible apply f_neI | with_reducible apply f_lenT | with_reducible apply f_lenL | with_reducible apply f_lenF | with_reducible apply e_met | with_reducible apply e_metA | with_reducible apply f_abs
  | with_reducible apply t_T | with_reducible apply t_F
  | with_reducible apply f_neg | with_reducible apply f_nnT | with_reducible apply f_nnF | with_reducible apply f_nonI | with_reducible apply s_raise1 | with_reducible apply s_raise2 | with_reducible apply s_raise3 | ((with_reducible apply f_fld); (exact rfl); (exact rfl)) | ((with_reducible apply f_fldL); (first | exact gNew | assumption); (exact rfl); (exact rfl))
  | ((with_reducible apply f_tupD); (exact rfl); (exact of_decide_eq_true rfl))
  | ((with_reducible apply f_get); (first | exact rfl | exact dkL (by assumption) | exact dkL (gSet (by assumption)) | exact dkL (gSet (gSet (by assumption)))); (exact rfl); (exact rfl))
  | ((with_reducible apply f_mul); (first | exact mulOkL (by decide) (by decide) | exact mulOkR (by decide) (by decide) | exact mulOkL (by omega) (by omega) | exact mulOkR (by omega) (by omega)))
  | ((with_reducible apply f_mod); (first | assumption | decide | omega))
  | ((with_reducible apply f_div); (first | assumption | decide | omega); (first | assumption | decide | omega))
  | ((with_reducible apply f_pow); (exact ⟨by decide, by decide, by decide⟩))
  | ((with_reducible apply f_isi); (exact rfl); (exact rfl))
  | ((with_reducible apply f_lstD); (exact rfl); (exact of_decide_eq_true rfl))
  | ((with_reducible apply putP); (first | assumption | exact gSet (by assumption) | exact gSet (gSet (by assumption))); (exact rfl); (exact rfl); (first | decide | (focus (simp; done))))))
local macro_rules | `(tactic| walk_at "go") => `(tactic| ((first | apply r_pop' | apply r_keep'); (simp only [startE, List.map_cons, List.map_nil, List.length_cons, List.length_nil, Nat.reduceAdd, Nat.reduceSub, List.replicate_succ, List.replicate_zero, List.cons_append, List.nil_append]; exact rfl)))


theorem cutS_len {z : Str} {l h : Option Int} : (cutS z l h).length ≤ z.length := by
  unfold cutS
  simp only [Str.length]
  first
    | (rw [List.size_toArray, List.length_take, List.length_drop]; simp; omega)
    | (simp [Array.size_extract]; omega)
def wt (ps : List Str) : Nat := (ps.map (·.length)).sum + ps.length
theorem wt_app (a b : List Str) : wt (a ++ b) = wt a + wt b := by
  unfold wt
  rw [List.map_append, List.sum_append, List.length_append]
  omega
theorem join_wt {ps : List Str} (h : ps ≠ []) : (Txt.join " " ps).length + 1 = wt ps := by
  rw [len_tl, tl_joinT, joinL_len, if_neg (by simpa using h), List.map_map]
  unfold wt
  have e : (List.length ∘ TL.tl) = fun p : Str => p.length := by
    funext p
    exact (len_tl p).symm
  rw [e, List.length_map]
  rfl
theorem flat_ne {ss : List (List Str)} (h : ss ≠ []) : flatR ss ≠ [] := by
  cases ss with
  | nil => exact absurd rfl h
  | cons r ss => simp [flatR]
theorem bar_len (ss : List (List Str)) : wt (flatR ss) ≤ (barS ss).length + 1 := by
  by_cases h : ss = []
  · subst h; exact Nat.zero_le _
  · have := join_wt (flat_ne h)
    unfold barS
    omega
theorem bar_len2 (ss : List (List Str)) : (barS ss).length ≤ wt (flatR ss) := by
  by_cases h : ss = []
  · subst h; exact Nat.le_of_eq rfl
  · have := join_wt (flat_ne h)
    unfold barS
    omega
theorem wt_row {r : List Str} : ∀ {ss : List (List Str)}, r ∈ ss → wt (r ++ [("|" : Str)]) ≤ wt (flatR ss)
  | q :: ss, h => by
    have e : flatR (q :: ss) = (q ++ [("|" : Str)]) ++ flatR ss := by simp [flatR]
    rw [e, wt_app (q ++ [("|" : Str)]) (flatR ss)]
    rcases List.mem_cons.mp h with rfl | h
    · omega
    · have := wt_row h
      omega
theorem wt_outer : ∀ ss : List (List Str), ((ss.map fun r => Txt.join " " (r ++ [("|" : Str)])).map (·.length)).sum + ss.length = wt (flatR ss)
  | [] => rfl
  | q :: ss => by
    have e : flatR (q :: ss) = (q ++ [("|" : Str)]) ++ flatR ss := by simp [flatR]
    rw [e, wt_app, ← wt_outer ss, List.map_cons, List.map_cons, List.sum_cons, List.length_cons]
    have : (Txt.join " " (q ++ [("|" : Str)])).length + 1 = wt (q ++ [("|" : Str)]) := join_wt (by simp)
    omega
theorem wt_words {n : Nat} : ∀ {r : List Str}, (∀ w ∈ r, w.length ≤ n) → wt r ≤ r.length * (n + 1)
  | [], _ => by simp [wt]
  | w :: r, h => by
    have h1 := wt_words fun z hz => h z (List.mem_cons_of_mem w hz)
    have h2 := h w (List.mem_cons_self ..)
    have e : wt (w :: r) = w.length + 1 + wt r := by
      unfold wt
      rw [List.map_cons, List.sum_cons, List.length_cons]
      omega
    rw [e, List.length_cons, Nat.succ_mul]
    omega
theorem word_len12 {w : Str} (h : wordB w = true) : w.length ≤ 12 := by
  obtain ⟨c, l, e, _, _, h2⟩ := word_ne h
  have : w.length = (TL.tl w).length := len_tl w
  rw [e, List.length_cons] at this
  omega
theorem wt_rows {m : Nat} : ∀ {ss : List (List Str)}, (∀ r ∈ ss, r.length ≤ m ∧ ∀ w ∈ r, wordB w = true) → wt (flatR ss) ≤ ss.length * (m * 13 + 2)
  | [], _ => Nat.zero_le _
  | q :: ss, h => by
    have e : flatR (q :: ss) = (q ++ [("|" : Str)]) ++ flatR ss := by simp [flatR]
    have h1 := wt_rows fun r hr => h r (List.mem_cons_of_mem q hr)
    have h2 := h q (List.mem_cons_self ..)
    have h3 := wt_words fun w hw => word_len12 (h2.2 w hw)
    have h4 : wt [("|" : Str)] = 2 := rfl
    have h5 : q.length * (12 + 1) ≤ m * 13 := Nat.mul_le_mul_right _ h2.1
    rw [e, wt_app, wt_app, List.length_cons, Nat.succ_mul]
    omega
section
variable {Q : D → Hs → Prop} {E : XP} {G : Hs}
theorem c_mapA {α : Type} {i : Nat} {r : Ev} {elt : De} {kp : Kp} {xs : List α} {g f : α → D} {K : List D → Hs → Prop} (hk : kpOk kp G) (hf : ∀ a ∈ xs, ∀ Q : D → Hs → Prop, Q (f a) G → Wp (elt (r.set i (some (g a))) G) Q noE) (he : K (xs.map f) G) : Wc (compLoop (gN i) dYes elt kp r ((xs.map g).map Im.one) [] G) K := by
  refine c_loop (fun j acc G' => acc = (xs.take j).map f ∧ G' = G) ⟨by simp, rfl⟩ (fun _ _ _ h => by rw [h.2]; exact hk) (fun j acc G' d hd hI => ?_) (fun acc G' hI => by rw [hI.1, hI.2, List.length_map, List.take_length]; exact he)
  obtain ⟨rfl, rfl⟩ := hI
  rw [List.getElem?_map] at hd
  cases hx : xs[j]? with
  | none => rw [hx] at hd; cases hd
  | some a =>
    rw [hx] at hd
    cases hd
    refine hf a (List.mem_of_getElem? hx) _ ⟨?_, rfl⟩
    rw [List.take_add_one, hx]
    simp
theorem bars_spec {ss : List (List Str)} (hz : (barS ss).length ≤ 1000000) (h : Q (.t (.str (barS ss))) G) : Wp (F_bars [.t (.tup (ss.map rowS))] G) Q E := by
  have hb := bar_len ss
  unfold F_bars d_bars
  walk_at "go"
  walk_at "st"
  apply e_bm
  walk_at "st"
  refine ⟨rfl, ?_⟩
  walk_at "st"
  refine ⟨_, asS_tup, fun kp hkp => ?_⟩
  rw [show (ss.map rowS).map D.t = ss.map fun r => D.t (rowS r) by rw [List.map_map]; rfl]
  refine c_mapA (f := fun r => D.t (.str (Txt.join " " (r ++ [("|" : Str)])))) (hkp _ fun _ _ => rfl) (fun r hr Q' h' => ?_) ?_
  · have h1 := wt_row hr
    have h2 : wt (r ++ [("|" : Str)]) = ((r ++ [("|" : Str)]).map (·.length)).sum + (r ++ [("|" : Str)]).length := rfl
    apply e_bm
    walk_at "st"
    refine ⟨rfl, ?_⟩
    walk_at "st"
    refine f_addT (by rw [List.length_map]; rw [List.length_append] at h2; exact Nat.le_trans (show r.length + 1 ≤ 1000001 by simp at h2; omega) (by decide)) ?_
    rw [show (r.map T.str ++ [T.str "|"]) = (r ++ [("|" : Str)]).map T.str by rw [List.map_append]; rfl]
    refine f_join asS_tup (by rw [show ((" " : Str)).length = 1 from rfl]; omega) h'
  · rw [show (ss.map fun r => D.t (.str (Txt.join " " (r ++ [("|" : Str)])))) = ((ss.map fun r => Txt.join " " (r ++ [("|" : Str)])).map T.str).map D.t by rw [List.map_map, List.map_map]; rfl]
    refine k_lst (plain_map _) ?_
    refine f_join asS_lst ?_ ?_
    · have := wt_outer ss
      rw [List.length_map, show ((" " : Str)).length = 1 from rfl]
      omega
    · rw [bar_rows]
      exact p_ret (Nat.le_refl _) h
theorem text_spec {ss : List (List Str)} (hz : (barS ss).length ≤ 1000000) (h : Q (.t (.str (barS ss))) G) : Wp (F_History_text [.t (histT ss)] G) Q E := by
  have hb := bar_len ss
  unfold F_History_text d_History_text
  walk_at "go"
  walk_at "st"
  apply e_bm
  walk_at "st"
  refine ⟨rfl, ?_⟩
  walk_at "st"
  refine o_stretches ?_
  refine ⟨_, asS_tup, fun kp hkp => ?_⟩
  rw [show (ss.map rowS).map D.t = ss.map fun r => D.t (rowS r) by rw [List.map_map]; rfl]
  refine c_mapA (f := fun r => D.t (.str (Txt.join " " (r ++ [("|" : Str)])))) (hkp _ fun _ _ => rfl) (fun r hr Q' h' => ?_) ?_
  · have h1 := wt_row hr
    have h2 : wt (r ++ [("|" : Str)]) = ((r ++ [("|" : Str)]).map (·.length)).sum + (r ++ [("|" : Str)]).length := rfl
    apply e_bm
    walk_at "st"
    refine ⟨rfl, ?_⟩
    apply e_args1
    apply e_snoc
    walk_at "st"
    refine ⟨_, rfl, ?_⟩
    walk_at "st"
    refine f_snoc (by rw [List.length_map]; rw [List.length_append] at h2; exact Nat.le_trans (show r.length + 1 ≤ 1000001 by simp at h2; omega) (by decide)) ?_
    rw [show (r.map T.str ++ [T.str "|"]) = (r ++ [("|" : Str)]).map T.str by rw [List.map_append]; rfl]
    refine f_join asS_lst (by rw [show ((" " : Str)).length = 1 from rfl]; omega) h'
  · rw [show (ss.map fun r => D.t (.str (Txt.join " " (r ++ [("|" : Str)])))) = ((ss.map fun r => Txt.join " " (r ++ [("|" : Str)])).map T.str).map D.t by rw [List.map_map, List.map_map]; rfl]
    refine k_lst (plain_map _) ?_
    refine f_join asS_lst ?_ ?_
    · have := wt_outer ss
      rw [List.length_map, show ((" " : Str)).length = 1 from rfl]
      omega
    · rw [bar_rows]
      exact p_ret (Nat.le_refl _) h
theorem f_slS {z : Str} {l h : Option Int} (hz : z.length ≤ 1000000) (k : Q (.t (.str (cutS z l h))) G) : Wp (fSl (.t (.str z)) l h G) Q E := by
  unfold fSl
  simp only []
  rw [if_pos (Nat.le_trans hz (by decide))]
  exact e_ok k
theorem spoiled_spec {p : Nat} {k : Int} {z : Str} (hp : Pen p k G) (hk : k < 1000000000000) (hz : z.length ≤ 100000) (hq : ∀ w G', w.length ≤ 300000 → Pen p (k + 4) G' → Fr p G G' → Q (.t (.str w)) G') : Wp (F_spoiled [.loc p, .t (.str z)] G) Q E := by
  have hz' : z.length ≤ sizeLine := Nat.le_trans hz (by decide)
  unfold F_spoiled d_spoiled
  walk_at "go"
  walk_at "st"
  refine f_lenS hz' ?_
  walk_at "st"
  refine draw_spec hp (by omega) (by omega) (by omega) (fun a G1 ha0 ha1 hp1 hf1 => ?_)
  walk_at "st"
  refine pick_str hp1 (by decide) (by decide) (by omega) (fun c G2 hc hp2 hf2 => ?_)
  refine s_seq ?_
  refine BL.s_cut (fun r' G' => (∃ m : Str, m.length ≤ 1 ∧ r' = [some (.loc p), some (.t (.str z)), some (.t (.int a)), some (.t (.str ⟨#[c]⟩)), some (.t (.str m))]) ∧ Pen p (k + 3) G' ∧ Fr p G2 G') ?_ ?_
  · walk_at "st"
    refine draw_spec hp2 (by decide) (by decide) (by omega) (fun v G3 hv0 hv1 hp3 hf3 => ?_)
    have hp3' : Pen p (k + 3) G3 := hp3.mono (by omega)
    walk_at "st"
    refine t_dec (fun q => ?_) (fun q => ?_)
    · walk_at "st"
      exact ⟨⟨_, by decide, rfl⟩, hp3', hf3⟩
    · walk_at "st"
      exact ⟨⟨_, Nat.le_of_eq rfl, rfl⟩, hp3', hf3⟩
  rintro r' G3 ⟨⟨m, hm, rfl⟩, hp3, hf3⟩
  walk_at "st"
  refine f_slS (by omega) ?_
  walk_at "st"
  have l1 := cutS_len (z := z) (l := none) (h := some a)
  refine f_addS (Nat.le_trans (show _ ≤ 100001 by omega) (by decide)) ?_
  walk_at "st"
  refine draw_spec hp3 (by decide) (by decide) (by omega) (fun u G4 hu0 hu1 hp4 hf4 => ?_)
  walk_at "st"
  refine f_slS (by omega) ?_
  have l2 := cutS_len (z := z) (l := some (a + u)) (h := none)
  have l3 : (cutS z none (some a) ++ m).length = (cutS z none (some a)).length + m.length := by
    rw [len_tl, TL.tl_append, List.length_append, ← len_tl, ← len_tl]
  refine f_addS (Nat.le_trans (show _ ≤ 200001 by omega) (by decide)) ?_
  have l4 : ((cutS z none (some a) ++ m) ++ cutS z (some (a + u)) none).length = (cutS z none (some a) ++ m).length + (cutS z (some (a + u)) none).length := by
    rw [len_tl, TL.tl_append, List.length_append, ← len_tl, ← len_tl]
  have hf := ((hf1.trans hf2).trans hf3).trans hf4
  refine p_ret (Nat.le_of_eq hf.1) ?_
  exact hq _ _ (by omega) (hp4.mono (by omega)) hf
theorem row_spec {p : Nat} {k m : Int} {ws : List Str} (hp : Pen p k G) (hk : k < 1000000000000) (hm : 0 ≤ m) (hm2 : m ≤ 100) (h1 : 0 < ws.length) (h2 : ws.length ≤ 1000)
    (hq : ∀ (r : List Str) G', r.length ≤ m.toNat → (∀ w ∈ r, w ∈ ws) → Pen p (k + 1 + m) G' → Fr p G G' → Q (.t (rowS r)) G') : Wp (F_row [.loc p, .t (.tup (ws.map T.str)), .t (.int m)] G) Q E := by
  unfold F_row d_row
  walk_at "go"
  walk_at "st"
  refine draw_spec hp (by omega) (by omega) (by omega) (fun v G1 hv0 hv1 hp1 hf1 => ?_)
  refine ⟨v, rfl, by omega, by omega, ?_⟩
  refine c_draws (c := 1) (fun t => ∃ w, t = .str w ∧ w ∈ ws) hp1 (fun _ _ => kp_none) (fun j d G' hd hp' hf' => ?_) (fun ts G' hl hP hp' hf' => ?_)
  · have hj : j < v.toNat := by have := getLt hd; simpa using this
    walk_at "st"
    refine pick_tup hp' (by rw [List.length_map]; exact h1) (by rw [List.length_map]; omega) (by omega) (fun t G2 ht hp2 hf2 => ?_)
    obtain ⟨w, hw, rfl⟩ := List.mem_map.mp ht
    exact ⟨_, rfl, ⟨w, rfl, hw⟩, hp2, hf2⟩
  · obtain ⟨r, rfl, hr⟩ := exMap (f := T.str) hP
    rw [List.length_map, List.length_map, List.length_range] at hl
    rw [List.length_map, List.length_range] at hp'
    refine k_lst (plain_map _) ?_
    refine f_tup asS_lst (plain_map _) ?_
    have hf := hf1.trans hf'
    refine p_ret (Nat.le_of_eq hf.1) ?_
    exact hq r G' (by omega) hr (hp'.mono (by omega)) hf
theorem stretches_spec {p : Nat} {k n m : Int} {ws : List Str} (hp : Pen p k G) (hk : k < 100000000000) (hn : 0 ≤ n) (hn2 : n ≤ 100) (hm : 0 ≤ m) (hm2 : m ≤ 100) (h1 : 0 < ws.length) (h2 : ws.length ≤ 1000)
    (hq : ∀ (ss : List (List Str)) G', ss.length = n.toNat → (∀ r ∈ ss, r.length ≤ m.toNat ∧ ∀ w ∈ r, w ∈ ws) → Pen p (k + (m + 1) * n) G' → Fr p G G' → Q (.t (.tup (ss.map rowS))) G') : Wp (F_stretches [.loc p, .t (.tup (ws.map T.str)), .t (.int n), .t (.int m)] G) Q E := by
  unfold F_stretches d_stretches
  walk_at "go"
  walk_at "st"
  refine ⟨n, rfl, by omega, by omega, ?_⟩
  refine c_draws (c := m + 1) (fun t => ∃ r, t = rowS r ∧ (r.length ≤ m.toNat ∧ ∀ w ∈ r, w ∈ ws)) hp (fun _ _ => kp_none) (fun j d G' hd hp' hf' => ?_) (fun ts G' hl hP hp' hf' => ?_)
  · have hj : j < n.toNat := by have := getLt hd; simpa using this
    have hj2 : (m + 1) * (j : Int) ≤ 101 * 100 := Int.mul_le_mul (by omega) (by omega) (by omega) (by omega)
    walk_at "st"
    refine row_spec hp' (by omega) hm hm2 h1 h2 (fun r G2 hr hw hp2 hf2 => ?_)
    exact ⟨_, rfl, ⟨r, rfl, hr, hw⟩, hp2.mono (by omega), hf2⟩
  · obtain ⟨ss, rfl, hs⟩ := exMap (f := rowS) hP
    rw [List.length_map, List.length_map, List.length_range] at hl
    rw [List.length_map, List.length_range] at hp'
    refine k_lst (plain_map _) ?_
    refine f_tup asS_lst (plain_map _) ?_
    refine p_ret (Nat.le_of_eq hf'.1) ?_
    exact hq ss G' hl hs (hp'.mono (by rw [Int.toNat_of_nonneg hn]; omega)) hf'
end

end LW

set_option Elab.async false
set_option linter.all false
set_option maxRecDepth 100000
set_option maxHeartbeats 4000000
namespace LW
open PySem L2 BL
local macro_rules | `(tactic| walk_at "st") => `(tactic| repeat (first
  | with_reducible apply s_seq | ((with_reducible apply s_set'); (intro x; simp only [List.set_cons_succ, List.set_cons_zero]; exact rfl)) | with_reducible apply s_set | with_reducible apply s_ret | with_reducible apply s_retN | with_reducible apply s_drop | ((with_reducible apply s_par'); (intro x y; simp only [List.set_cons_succ, List.set_cons_zero]; exact rfl)) | ((with_reducible apply s_par3'); (intro x y z; simp only [setsE, List.set_cons_succ, List.set_cons_zero]; exact rfl)) | ((with_reducible apply s_par4'); (intro x y z w; simp only [setsE, List.set_cons_succ, List.set_cons_zero]; exact rfl)) | ((with_reducible apply s_par5'); (intro x y z w v; simp only [setsE, List.set_cons_succ, List.set_cons_zero]; exact rfl)) | with_reducible apply s_par | with_reducible apply s_put | with_reducible apply s_setF | with_reducible apply s_setL | with_reducible apply s_next | with_reducible apply s_for
  | with_reducible apply e_C | with_reducible apply e_bin | with_reducible apply e_un | with_reducible apply e_not | with_reducible apply e_and | with_reducible apply e_or | with_reducible apply e_ite | with_reducible apply e_chain
  | with_reducible apply e_call1 | with_reducible apply e_call2 | with_reducible apply e_call3 | with_reducible apply e_call4 | with_reducible apply e_args0 | with_reducible apply e_args1 | with_reducible apply e_args2 | with_reducible apply e_args3 | with_reducible apply e_args4 | with_reducible apply e_argsC
  | with_reducible apply e_sl0 | with_reducible apply e_sl1 | ((with_reducible apply e_comp'); (simp only [wipeE, List.set_cons_succ, List.set_cons_zero]; exact rfl)) | with_reducible apply e_comp | with_reducible apply i_R1 | with_reducible apply i_S' | with_reducible apply i_En' | with_reducible apply i_Str
  | ((with_reducible apply e_var); (first | exact rfl | assumption))
  | with_reducible apply f_addI | with_reducible apply f_sub | with_reducible apply f_cmp | with_reducible apply f_int | with_reducible apply f_eqI | with_reducible apply f_neI | with_reducible apply f_lenT | with_reducible apply f_lenL | with_reducible apply f_lenF | with_reducible apply e_met | with_reducible apply e_metA | with_reducible apply f_abs
  | with_reducible apply t_T | with_reducible apply t_F
  | with_reducible apply f_neg | with_reducible apply f_nnT | with_reducible apply f_nnF | with_reducible apply f_nonI | with_reducible apply s_raise1 | with_reducible apply s_raise2 | with_reducible apply s_raise3 | ((with_reducible apply f_fld); (exact rfl); (exact rfl)) | ((with_reducible apply f_fldL); (first | exact gNew | assumption); (exact rfl); (exact rfl))
  | ((with_reducible apply f_tupD); (exact rfl); (exact of_decide_eq_true rfl))
  | ((with_reducible apply f_get); (first | exact rfl | exact dkL (by assumption) | exact dkL (gSet (by assumption)) | exact dkL (gSet (gSet (by assumption)))); (exact rfl); (exact rfl))
  | ((with_reducible apply f_mul); (first | exact mulOkL (by decide) (by decide) | exact mulOkR (by decide) (by decide) | exact mulOkL (by omega) (by omega) | exact mulOkR (by omega) (by omega)))
  | ((with_reducible apply f_mod); (first | assumption | decide | omega))
  | ((with_reducible apply f_div); (first | assumption | decide | omega); (first | assumption | decide | omega))
  | ((with_reducible apply f_pow); (exact ⟨by decide, by decide, by decide⟩))
  | ((with_reducible apply f_isi); (exact rfl); (exact rfl))
  | ((with_reducible apply f_lstD); (exact rfl); (exact of_decide_eq_true rfl))
  | ((with_reducible apply putP); (first | assumption | exact gSet (by assumption) | exact gSet (gSet (by assumption))); (exact rfl); (exact rfl); (first | decide | (focus (simp; done))))))
local macro_rules | `(tactic| walk_at "go") => `(tactic| ((first | apply r_pop' | apply r_keep'); (simp only [startE, List.map_cons, List.map_nil, List.length_cons, List.length_nil, Nat.reduceAdd, Nat.reduceSub, List.replicate_succ, List.replicate_zero, List.cons_append, List.nil_append]; exact rfl)))


theorem word_mk {c : Nat} {s e : Str} (hc : c ∈ abcL) (hs : ∀ d ∈ TL.tl s, d ∈ alnL) (he : ∀ d ∈ TL.tl e, d ∈ alnL) (hl : (TL.tl s).length + (TL.tl e).length ≤ 11) : wordB ((⟨#[c]⟩ : Str) ++ s ++ e) = true := by
  have h : TL.tl ((⟨#[c]⟩ : Str) ++ s ++ e) = c :: (TL.tl s ++ TL.tl e) := by
    rw [TL.tl_append, TL.tl_append]
    rfl
  unfold wordB
  rw [h]
  have h1 : (TL.tl s ++ TL.tl e).length + 1 ≤ 12 := by rw [List.length_append]; omega
  simp only [decide_eq_true h1, decide_eq_true hc, Bool.true_and, List.all_eq_true, decide_eq_true_eq]
  intro d hd
  rcases List.mem_cons.mp hd with rfl | hd
  · exact List.mem_append_left _ hc
  · rcases List.mem_append.mp hd with hd | hd
    · exact hs d hd
    · exact he d hd
section
variable {Q : D → Hs → Prop} {E : XP} {G : Hs}
theorem deeds_spec {p : Nat} {k : Int} (hp : Pen p k G) (hk : k < 1000000000000)
    (hq : ∀ (ws : List Str) G', ws.length = 4 → (∀ w ∈ ws, wordB w = true) → Pen p (k + 20) G' → Fr p G G' → Q (.t (.tup (ws.map T.str))) G') : Wp (F_deeds [.loc p, .t (.int 4)] G) Q E := by
  have hpl := hp.lt
  unfold F_deeds d_deeds
  walk_at "go"
  walk_at "st"
  refine f_lstDL (by decide) ?_
  have hp0 : Pen p k (G ++ [O.lst []]) := hp.app
  refine s_seq ?_
  refine BL.s_cut (fun r' G' => (∃ stem : Str, (TL.tl stem).length ≤ 6 ∧ (∀ c ∈ TL.tl stem, c ∈ alnL) ∧ r' = [some (.loc p), some (.t (.int 4)), some (.t (.str "abcdefghijklmnopqrstuvwxyz")), some (.loc G.length), some (.t (.str stem)), none, none, none]) ∧ Pen p (k + 7) G' ∧ Fr p (G ++ [O.lst []]) G') ?_ ?_
  · walk_at "st"
    apply e_bm
    walk_at "st"
    refine ⟨rfl, ?_⟩
    walk_at "st"
    refine draw_spec hp0 (by decide) (by decide) (by omega) (fun v G1 hv0 hv1 hp1 hf1 => ?_)
    refine ⟨v, rfl, by omega, by omega, ?_⟩
    refine c_draws (c := 1) (fun t => ∃ c, t = .str ⟨#[c]⟩ ∧ c ∈ alnL) hp1 (fun _ _ => kp_none) (fun j d G' hd hp' hf' => ?_) (fun ts G' hl hP hp' hf' => ?_)
    · have hj : j < v.toNat := by have := getLt hd; simpa using this
      walk_at "st"
      refine f_addS (by decide) ?_
      refine pick_str hp' (by decide) (by decide) (by omega) (fun c G2 hc hp2 hf2 => ?_)
      exact ⟨_, rfl, ⟨c, rfl, by rw [← tl_aln2]; exact hc⟩, hp2, hf2⟩
    · refine k_lst (plain_map _) ?_
      obtain ⟨cs, rfl, hc⟩ := exMap (f := fun c => T.str ⟨#[c]⟩) hP
      simp only [List.length_map, List.length_range] at hl hp'
      refine f_joinC (by omega) (fun w hw => ?_)
      exact ⟨⟨w, by rw [hw]; omega, by rw [hw]; exact hc, rfl⟩, hp'.mono (by omega), hf1.trans hf'⟩
  rintro r' G1 ⟨⟨stem, hsl, hsc, rfl⟩, hp1, hf1⟩
  walk_at "st"
  refine draw_spec hp1 (by decide) (by decide) (by omega) (fun a G2 ha0 ha1 hp2 hf2 => ?_)
  walk_at "st"
  refine pick_lst hp2 (by decide) (by decide) (by omega) (fun t G3 ht hp3 hf3 => ?_)
  have hs : ∃ s : Int, t = .int s ∧ 1 ≤ s ∧ s ≤ 25 := by
    simp only [List.mem_cons, List.not_mem_nil, or_false] at ht
    rcases ht with h | h | h | h | h | h | h | h | h | h | h | h <;> subst h <;> exact ⟨_, rfl, by decide, by decide⟩
  obtain ⟨s, rfl, hs0, hs1⟩ := hs
  have hf3' : Fr p (G ++ [O.lst []]) G3 := (hf1.trans hf2).trans hf3
  walk_at "st"
  refine ⟨4, rfl, by omega, by omega, ?_⟩
  refine s_each (fun n r G' => (∃ x, r = [some (.loc p), some (.t (.int 4)), some (.t (.str "abcdefghijklmnopqrstuvwxyz")), some (.loc G.length), some (.t (.str stem)), some (.t (.int a)), some (.t (.int s)), x]) ∧ ∃ ws : List Str, ws.length = n ∧ (∀ w ∈ ws, wordB w = true) ∧ G'[G.length]? = some (.lst (ws.map dS)) ∧ G'.length = G.length + 1 ∧ Pen p (k + 9 + n) G' ∧ (∀ i, i < G.length → i ≠ p → G'[i]? = G[i]?))
    ⟨⟨_, rfl⟩, [], rfl, by simp, hf3'.get (by omega) gNew, by rw [hf3'.1]; simp, hp3.mono (by omega), fun i hi hn => by rw [hf3'.2 i hn, List.getElem?_append_left hi]⟩ (fun _ _ _ _ => kp_none) (fun n d r G' he hI => ?_) (fun r G' hI => ?_)
  · obtain ⟨⟨x, rfl⟩, ws, hwl, hw, hGw, hGl, hp', hs'⟩ := hI
    have hn : n < 4 := by have := getLt he; simpa using this
    rw [List.getElem?_map, List.getElem?_range (by simpa using hn)] at he
    cases he
    walk_at "st"
    apply e_bm
    walk_at "st"
    refine ⟨isL_loc hGw, ?_⟩
    walk_at "st"
    obtain ⟨c, hc, hc2⟩ := atI_ok (xs := abcL) (i := (a + s * (n : Int)) % 26) (by omega) (by show _ < (26 : Int); omega)
    refine f_ixS (c := c) (by decide) (by rw [tl_abc]; exact hc2) ?_
    have hca : c ∈ abcL := List.mem_of_getElem? hc
    walk_at "st"
    refine f_addS ?_ ?_
    · rw [len_tl stem]; show 1 + _ ≤ _; exact Nat.le_trans (show 1 + (TL.tl stem).length ≤ 7 by omega) (by decide)
    walk_at "st"
    refine draw_spec hp' (by decide) (by decide) (by omega) (fun v G2 hv0 hv1 hp2 hf2 => ?_)
    obtain ⟨y, hy, hy2⟩ := atI_ok (xs := [D.t (.str ""), .t (.str "0"), .t (.str "zz9")]) (i := v) hv0 hv1
    refine f_ix (d := y) rfl hy2 ?_
    have hs2 : ∃ e : Str, y = .t (.str e) ∧ (TL.tl e).length ≤ 3 ∧ ∀ d ∈ TL.tl e, d ∈ alnL := by
      have := List.mem_of_getElem? hy
      simp only [List.mem_cons, List.not_mem_nil, or_false] at this
      rcases this with h | h | h <;> subst h <;> exact ⟨_, rfl, by decide +kernel, by decide +kernel⟩
    obtain ⟨e, rfl, hel, hec⟩ := hs2
    refine f_addS ?_ ?_
    · have : ((⟨#[c]⟩ : Str) ++ stem).length = 1 + (TL.tl stem).length := by rw [len_tl, TL.tl_append, List.length_append]; rfl
      rw [this, len_tl e]
      exact Nat.le_trans (show _ ≤ 10 by omega) (by decide)
    have e1 : G2[G.length]? = some (.lst (ws.map dS)) := hf2.get (by omega) hGw
    refine f_app e1 rfl (by rw [List.length_map]; omega) ?_
    have hgl : G2.length = G.length + 1 := by rw [hf2.1, hGl]
    refine ⟨⟨_, rfl⟩, ws ++ [(⟨#[c]⟩ : Str) ++ stem ++ e], by simp [hwl], fun w hw' => ?_, ?_, by simp [hgl], ?_, fun i hi hip => ?_⟩
    · rcases List.mem_append.mp hw' with hw' | hw'
      · exact hw w hw'
      · simp only [List.mem_singleton] at hw'
        subst hw'
        exact word_mk hca hsc hec (by omega)
    · rw [List.getElem?_set_self (by omega)]
      simp
    · obtain ⟨cs, a, l, g1, g2, g3⟩ := hp2
      refine ⟨cs, a, l, ?_, g2, by push_cast; omega⟩
      rw [List.getElem?_set_ne (by omega)]
      exact g1
    · rw [List.getElem?_set_ne (by omega), hf2.2 i hip]
      exact hs' i hi hip
  · obtain ⟨⟨x, rfl⟩, ws, hwl, hw, hGw, hGl, hp', hs'⟩ := hI
    have hwl4 : ws.length = 4 := by rw [hwl]; rfl
    walk_at "st"
    refine f_tup (ts := ws.map T.str) (asS_loc hGw) (by rw [show ws.map dS = (ws.map T.str).map D.t by rw [List.map_map]; rfl]; exact plain_map _) ?_
    walk_at "st"
    refine ⟨_, rfl, ?_⟩
    refine hq ws _ hwl4 hw (Pen.take (hp'.mono ?_) hpl) (fr_take (by omega) hs')
    show _ ≤ k + 20
    have : (((List.range (Int.toNat 4)).map fun i : Nat => D.t (.int (i : Int))).length : Int) = 4 := rfl
    omega
end

end LW

set_option Elab.async false
set_option linter.all false
set_option maxRecDepth 100000
set_option maxHeartbeats 4000000
namespace LW
open PySem L2 BL
local macro_rules | `(tactic| walk_at "st") => `(tactic| repeat (first
  | with_reducible apply s_seq | ((with_reducible apply s_set'); (intro x; simp only [List.set_cons_succ, List.set_cons_zero]; exact rfl)) | with_reducible apply s_set | with_reducible apply s_ret | with_reducible apply s_retN | with_reducible apply s_drop | ((with_reducible apply s_par'); (intro x y; simp only [List.set_cons_succ, List.set_cons_zero]; exact rfl)) | ((with_reducible apply s_par3'); (intro x y z; simp only [setsE, List.set_cons_succ, List.set_cons_zero]; exact rfl)) | ((with_reducible apply s_par4'); (intro x y z w; simp only [setsE, List.set_cons_succ, List.set_cons_zero]; exact rfl)) | ((with_reducible apply s_par5'); (intro x y z w v; simp only [setsE, List.set_cons_succ, List.set_cons_zero]; exact rfl)) | with_reducible apply s_par | with_reducible apply s_put | with_reducible apply s_setF | with_reducible apply s_setL | with_reducible apply s_next | with_reducible apply s_for
  | with_reducible apply e_C | with_reducible apply e_bin | with_reducible apply e_un | with_reducible apply e_not | with_reducible apply e_and | with_reducible apply e_or | with_reducible apply e_ite | with_reducible apply e_chain
  | with_reducible apply e_call1 | with_reducible apply e_call2 | with_reducible apply e_call3 | with_reducible apply e_call4 | with_reducible apply e_args0 | with_reducible apply e_args1 | with_reducible apply e_args2 | with_reducible apply e_args3 | with_reducible apply e_args4 | with_reducible apply e_argsC
  | with_reducible apply e_sl0 | with_reducible apply e_sl1 | ((with_reducible apply e_comp'); (simp only [wipeE, List.set_cons_succ, List.set_cons_zero]; exact rfl)) | with_reducible apply e_comp | with_reducible apply i_R1 | with_reducible apply i_S' | with_reducible apply i_En' | with_reducible apply i_Str
  | ((with_reducible apply e_var); (first | exact rfl | assumption))
  | with_reducible apply f_addI | with_reducible apply f_sub | with_reducible apply f_cmp | with_reducible apply f_int | with_reducible apply f_eqI | with_reducible apply f_neI | with_reducible apply f_lenT | with_reducible apply f_lenL | with_reducible apply f_lenF | with_reducible apply e_met | with_reducible apply e_metA | with_reducible apply f_abs
  | with_reducible apply t_T | with_reducible apply t_F
  | with_reducible apply f_neg | with_reducible apply f_nnT | with_reducible apply f_nnF | with_reducible apply f_nonI | with_reducible apply s_raise1 | with_reducible apply s_raise2 | with_reducible apply s_raise3 | ((with_reducible apply f_fld); (exact rfl); (exact rfl)) | ((with_reducible apply f_fldL); (first | exact gNew | assumption); (exact rfl); (exact rfl))
  | ((with_reducible apply f_tupD); (exact rfl); (exact of_decide_eq_true rfl))
  | ((with_reducible apply f_get); (first | exact rfl | exact dkL (by assumption) | exact dkL (gSet (by assumption)) | exact dkL (gSet (gSet (by assumption)))); (exact rfl); (exact rfl))
  | ((with_reducible apply f_mul); (first | exact mulOkL (by decide) (by decide) | exact mulOkR (by decide) (by decide) | exact mulOkL (by omega) (by omega) | exact mulOkR (by omega) (by omega)))
  | ((with_reducible apply f_mod); (first | assumption | decide | omega))
  | ((with_reducible apply f_div); (first | assumption | decide | omega); (first | assumption | decide | omega))
  | ((with_reducible apply f_pow); (exact ⟨by decide, by decide, by decide⟩))
  | ((with_reducible apply f_isi); (exact rfl); (exact rfl))
  | ((with_reducible apply f_lstD); (exact rfl); (exact of_decide_eq_true rfl))
  | ((with_reducible apply putP); (first | assumption | exact gSet (by assumption) | exact gSet (gSet (by assumption))); (exact rfl); (exact rfl); (first | decide | (focus (simp; done))))))
local macro_rules | `(tactic| walk_at "go") => `(tactic| ((first | apply r_pop' | apply r_keep'); (simp only [startE, List.map_cons, List.map_nil, List.length_cons, List.length_nil, Nat.reduceAdd, Nat.reduceSub, List.replicate_succ, List.replicate_zero, List.cons_append, List.nil_append]; exact rfl)))


def rowsT (ss : List (List Str)) : T := .tup (ss.map rowS)
def givesT (ss : List (List Str)) : T := .tup [.str "gives", rowsT ss]
theorem rows_noB (ss : List (List Str)) : noB (rowsT ss) = true := by
  show noBs (ss.map rowS) = true
  refine noBs_iff.mpr fun t ht => ?_
  obtain ⟨s, _, rfl⟩ := List.mem_map.mp ht
  exact noB_strs s
theorem rows_dep (ss : List (List Str)) : dep (rowsT ss) ≤ 2 := by
  show deps (ss.map rowS) + 1 ≤ 2
  have : deps (ss.map rowS) ≤ 1 := deps_le fun t ht => by
    obtain ⟨s, _, rfl⟩ := List.mem_map.mp ht
    show deps _ + 1 ≤ 1
    rw [dep_strs]
    exact Nat.le_refl _
  omega
theorem gives_noB (ss : List (List Str)) : noB (givesT ss) = true := by
  show noBs [T.str "gives", rowsT ss] = true
  refine noBs_iff.mpr fun t ht => ?_
  simp only [List.mem_cons, List.not_mem_nil, or_false] at ht
  rcases ht with rfl | rfl
  · rfl
  · exact rows_noB ss
theorem gives_dep (ss : List (List Str)) : dep (givesT ss) ≤ 64 := by
  show deps [T.str "gives", rowsT ss] + 1 ≤ 64
  have : deps [T.str "gives", rowsT ss] ≤ 2 := deps_le fun t ht => by
    simp only [List.mem_cons, List.not_mem_nil, or_false] at ht
    rcases ht with rfl | rfl
    · exact Nat.zero_le _
    · exact rows_dep ss
  omega
section
variable {Q : D → Hs → Prop} {E : XP} {G : Hs}
theorem pen_spec {ns : List Int} (h : Q (.loc G.length) (G ++ [penO (ns.take 63) 0 0])) : Wp (F_pen [scr ns] G) Q E := by
  unfold F_pen d_pen scr
  walk_at "go"
  walk_at "st"
  apply e_disp
  walk_at "st"
  refine f_slL ?_
  refine f_lst asS_lst (plain_map _) ?_
  walk_at "st"
  have e : cutA (ns.map T.int) none (some 63) = (ns.take 63).map T.int := by
    have := cut_take (ns.map T.int) 63
    rw [List.map_take]; exact this
  rw [e]
  exact e_ok h
theorem f_neSelf {x : T} (hc : cmpT x = true) (hd : dep x ≤ 64) (h : Q (.t (.bl false)) G) : Wp (fEq true (.t x) (.t x) G) Q E := f_self (neg := true) hc hd h
theorem f_eqSelf {x : T} (hc : cmpT x = true) (hd : dep x ≤ 64) (h : Q (.t (.bl true)) G) : Wp (fEq false (.t x) (.t x) G) Q E := f_self (neg := false) hc hd h
theorem catch_deeds {a : Int} (h : Q (.t (.tup [.str "deeds", .int a])) G) : Wp (catchD 1 ["index"] [.t (.int a)] G hs_told) Q E := f_catch (fun _ => rfl) h
theorem catch_place {a : Int} (h : Q (.t (.tup [.str "place", .int a])) G) : Wp (catchD 2 ["index"] [.t (.int a)] G hs_told) Q E := f_catch (fun _ => rfl) h
theorem catch_text {a : Int} (h : Q (.t (.tup [.str "text", .int a])) G) : Wp (catchD 3 ["line"] [.t (.int a)] G hs_told) Q E := f_catch (fun _ => rfl) h
theorem ix0 {a : T} {ts : List T} (h : Q (.t a) G) : Wp (fIx (.t (.tup (a :: ts))) (.t (.int 0)) G) Q E := f_ix asS_tup (BL.atI_nat (k := 0) rfl) h
theorem ix1 {a b : T} {ts : List T} (h : Q (.t b) G) : Wp (fIx (.t (.tup (a :: b :: ts))) (.t (.int 1)) G) Q E := f_ix asS_tup (BL.atI_nat (k := 1) rfl) h
theorem il0 {a : T} {ts : List T} (h : Q (.t a) G) : Wp (fIx (.t (.lst (a :: ts))) (.t (.int 0)) G) Q E := f_ix asS_lst (BL.atI_nat (k := 0) rfl) h
theorem il1 {a b : T} {ts : List T} (h : Q (.t b) G) : Wp (fIx (.t (.lst (a :: b :: ts))) (.t (.int 1)) G) Q E := f_ix asS_lst (BL.atI_nat (k := 1) rfl) h
theorem hist_eq {ss : List (List Str)} (h : Q (.t (.bl true)) G) : Wp (F_History_eq [.t (histT ss), .t (histT ss)] G) Q E := by
  unfold F_History_eq d_History_eq
  walk_at "go"
  walk_at "st"
  refine o_stretches ?_
  walk_at "st"
  refine o_stretches ?_
  refine f_eqSelf (x := rowsT ss) (cmp_noB _ (rows_noB ss)) (Nat.le_trans (rows_dep ss) (by decide)) ?_
  exact p_ret (Nat.le_refl _) h
theorem read_empty (h : Q (.t (histT [])) G) : Wp (F_History_read [.t (.cls 0), .t (.str "")] G) Q E := by
  have e : partsOf "" = [] := rfl
  refine read_spec (by decide) (fun _ => ?_) (fun q => ?_)
  · rw [e]; exact h
  · rw [e] at q; cases q
theorem read_bar (h : Q (.t (histT [[]])) G) : Wp (F_History_read [.t (.cls 0), .t (.str "|")] G) Q E := by
  have e : partsOf "|" = [("|" : Str)] := by
    have e2 : (Txt.split ("|" : Str) " ") = [("|" : Str)] := by decide +kernel
    unfold partsOf
    rw [if_neg (by decide), e2]
  refine read_spec (by decide) (fun _ => ?_) (fun q => ?_)
  · rw [e, rdP, if_pos rfl, rdP]; exact h
  · rw [e] at q; exact absurd q (by decide +kernel)
def DueOk (row : List Str) (ts : List T) (due : T) : Prop := ((∀ j, j < ts.length → okAt ts row.length j = true) ∧ due = givesT (slc row ts ts.length)) ∨ ∃ k : Nat, k < ts.length ∧ (∀ j, j < k → okAt ts row.length j = true) ∧ okAt ts row.length k = false ∧ due = .tup [.str "place", .int k]
theorem due_cmp {row : List Str} {ts : List T} {due : T} (h : DueOk row ts due) : cmpT due = true ∧ dep due ≤ 64 := by
  rcases h with ⟨_, rfl⟩ | ⟨k, _, _, _, rfl⟩
  · exact ⟨cmp_noB _ (gives_noB _), gives_dep _⟩
  · exact ⟨rfl, by show 1 ≤ 64; decide⟩
theorem law_wp (ns : List Int) (hns : ns.length ≤ 63) : Wp (F_law [scr ns] []) (fun d _ => d = .t (.bl true)) (fun _ _ _ _ => False) := by
  unfold F_law d_law
  walk_at "go"
  walk_at "st"
  refine pen_spec ?_
  walk_at "st"
  have hp0 : Pen 0 0 ([] ++ [penO (ns.take 63) 0 0]) := ⟨_, _, _, rfl, Int.le_refl _, Int.le_refl _⟩
  generalize ([] ++ [penO (ns.take 63) 0 0] : Hs) = G0 at hp0 ⊢
  generalize scr ns = S
  refine deeds_spec hp0 (by decide) (fun ws G1 hwl hw hp1 hf1 => ?_)
  walk_at "st"
  refine ⟨_, rfl, by decide, by decide, ?_⟩
  refine s_each (fun j r G' => (∃ x3 x4 x5 x6 x7 x8 x9 x10 x11 x12 x13 x14 x15 x16, r = [some S, some (.loc 0), some (.t (.tup (ws.map T.str))), x3, x4, x5, x6, x7, x8, x9, x10, x11, x12, x13, x14, x15, x16]) ∧ Pen 0 (20 + 10000 * j) G') ⟨⟨_, _, _, _, _, _, _, _, _, _, _, _, _, _, rfl⟩, hp1.mono (by omega)⟩ (fun _ _ _ _ => kp_none) (fun j d r G hd hI => ?_) (fun r G hI => ?_)
  · obtain ⟨⟨x3, x4, x5, x6, x7, x8, x9, x10, x11, x12, x13, x14, x15, x16, rfl⟩, hp⟩ := hI
    have hj : j < 4 := by
      have := getLt hd
      simpa using this
    walk_at "st"
    refine row_spec hp (by omega) (by decide) (by decide) (by omega) (by omega) (fun row G2 hrl hrw hp2 hf2 => ?_)
    have hrl : row.length ≤ 7 := hrl
    have hrw : ∀ w ∈ row, wordB w = true := fun w h => hw w (hrw w h)
    refine s_seq ?_
    refine BL.s_cut (fun r' G' => (∃ is : List Int, is.length ≤ 5 ∧ ∃ x3, r' = [some S, some (.loc 0), some (.t (.tup (ws.map T.str))), x3, some (.t (rowS row)), some (.t (.lst (is.map T.int))), x6, x7, x8, x9, x10, x11, x12, x13, x14, x15, x16]) ∧ Pen 0 (100 + 10000 * j) G') ?_ ?_
    · walk_at "st"
      refine draw_spec hp2 (by decide) (by decide) (by omega) (fun v G3 hv0 hv1 hp3 hf3 => ?_)
      walk_at "st"
      refine ⟨v, rfl, by omega, by omega, ?_⟩
      refine c_draws (c := 1) (fun t => ∃ v : Int, t = .int v ∧ True) hp3 (fun _ _ => kp_none) (fun i d G' hd hp' hf' => ?_) (fun ts G4 hl hP hp4 hf4 => ?_)
      · have hi : i < v.toNat := by have := getLt hd; simpa using this
        walk_at "st"
        rw [List.length_map]
        refine draw_spec hp' (by omega) (by omega) (by omega) (fun w G4 hw0 hw1 hp4 hf4 => ?_)
        walk_at "st"
        exact ⟨_, rfl, ⟨w, rfl, trivial⟩, hp4, hf4⟩
      obtain ⟨is, rfl, _⟩ := exMap (f := T.int) hP
      simp only [List.length_map, List.length_range] at hl hp4
      refine k_lst (plain_map _) ?_
      refine f_sorted (is := is) (by show some ((is.map T.int).map D.t) = _; rw [List.map_map]; rfl) (by omega) ?_
      exact ⟨⟨sortI is, by rw [(sort_perm is).length_eq]; omega, _, rfl⟩, hp4.mono (by omega)⟩
    rintro r' G3 ⟨⟨is, hil, x3, rfl⟩, hp3⟩
    refine s_seq ?_
    refine BL.s_cut (fun r' G' => (∃ ts : List T, ts.length ≤ 6 ∧ (∀ t ∈ ts, Val t) ∧ ∃ x6 x7, r' = [some S, some (.loc 0), some (.t (.tup (ws.map T.str))), x3, some (.t (rowS row)), some (.t (.lst ts)), x6, x7, x8, x9, x10, x11, x12, x13, x14, x15, x16]) ∧ Pen 0 (200 + 10000 * j) G') ?_ ?_
    · have hvi : ∀ t ∈ is.map T.int, Val t := fun t ht => by
        obtain ⟨v, _, rfl⟩ := List.mem_map.mp ht
        exact .inl ⟨v, rfl⟩
      apply s_if
      walk_at "st"
      refine draw_spec hp3 (by decide) (by decide) (by omega) (fun v G4 hv0 hv1 hp4 hf4 => ?_)
      walk_at "st"
      refine t_dec (fun q => ?_) (fun q => ?_)
      · walk_at "st"
        rw [List.length_map]
        refine draw_spec hp4 (by omega) (by omega) (by omega) (fun a G5 ha0 ha1 hp5 hf5 => ?_)
        walk_at "st"
        rw [List.length_map]
        refine pick_lst hp5 (by simp) (by simp) (by omega) (fun t G6 ht hp6 hf6 => ?_)
        have hvt : Val t := by
          simp only [List.mem_cons, List.not_mem_nil, or_false] at ht
          rcases ht with rfl | rfl | rfl | rfl | rfl | rfl | rfl
          · exact .inl ⟨_, rfl⟩
          · exact .inl ⟨_, rfl⟩
          · exact .inr (.inl rfl)
          · exact .inr (.inr (.inl rfl))
          · exact .inr (.inr (.inr rfl))
          · exact .inl ⟨_, rfl⟩
          · exact .inl ⟨_, rfl⟩
        walk_at "st"
        obtain ⟨n, rfl⟩ : ∃ n : Nat, a = n := ⟨a.toNat, by omega⟩
        refine f_slL ?_
        rw [cut_take]
        walk_at "st"
        refine f_addL (Nat.le_trans (show _ ≤ 6 by rw [List.length_take, List.length_map]; simp; omega) (by decide)) ?_
        walk_at "st"
        refine f_slL ?_
        rw [cut_drop]
        refine f_addL (Nat.le_trans (show _ ≤ 12 by rw [List.length_append, List.length_take, List.length_drop, List.length_map]; simp; omega) (by decide)) ?_
        refine ⟨⟨_, ?_, fun t' ht' => ?_, _, _, rfl⟩, hp6.mono (by omega)⟩
        · rw [List.length_append, List.length_append, List.length_take, List.length_drop, List.length_map]
          simp only [List.length_cons, List.length_nil]
          omega
        · rcases List.mem_append.mp ht' with ht' | ht'
          · rcases List.mem_append.mp ht' with ht' | ht'
            · exact hvi _ (List.mem_of_mem_take ht')
            · simp only [List.mem_singleton] at ht'
              rw [ht']; exact hvt
          · exact hvi _ (List.mem_of_mem_drop ht')
      · walk_at "st"
        exact ⟨⟨_, by rw [List.length_map]; omega, hvi, _, _, rfl⟩, hp4.mono (by omega)⟩
    rintro r' G4 ⟨⟨ts, htl, hvt, x6, x7, rfl⟩, hp4⟩
    refine s_seq ?_
    refine BL.s_cut (fun r' G' => (∃ due : T, DueOk row ts due ∧ r' = [some S, some (.loc 0), some (.t (.tup (ws.map T.str))), x3, some (.t (rowS row)), some (.t (.lst ts)), x6, x7, some (.t due), x9, x10, x11, x12, x13, x14, x15, x16]) ∧ G' = G4) ?_ ?_
    · walk_at "st"
      refine cut_due hvt (by omega) (fun hok => ?_) (fun k hk hok hno => ?_)
      · exact ⟨⟨_, .inl ⟨hok, rfl⟩, rfl⟩, rfl⟩
      · exact ⟨⟨_, .inr ⟨k, hk, hok, hno, rfl⟩, rfl⟩, rfl⟩
    rintro r' G' ⟨⟨due, hdue, rfl⟩, rfl⟩
    have hdc := due_cmp hdue
    refine s_seq ?_
    refine BL.s_cut (fun r' G' => (∃ b u, (∀ G, asS G (.t u) = some (ts.map D.t)) ∧ r' = [some S, some (.loc 0), some (.t (.tup (ws.map T.str))), x3, some (.t (rowS row)), some (.t (.lst ts)), x6, x7, some (.t due), some (.t (.lst [rowK b row, u])), x10, x11, x12, x13, x14, x15, x16]) ∧ Pen 0 (201 + 10000 * j) G') ?_ ?_
    · walk_at "st"
      refine draw_spec hp4 (by decide) (by decide) (by omega) (fun v G5 hv0 hv1 hp5 hf5 => ?_)
      have hp5 : Pen 0 (201 + 10000 * j) G5 := hp5.mono (by omega)
      walk_at "st"
      refine t_dec (fun q => ?_) (fun q => ?_)
      · walk_at "st"
        refine f_lst asS_tup (plain_map _) ?_
        walk_at "st"
        refine f_lst asS_lst (plain_map _) ?_
        walk_at "st"
        exact ⟨⟨false, .lst ts, fun _ => rfl, rfl⟩, hp5⟩
      · walk_at "st"
        refine f_tup asS_lst (plain_map _) ?_
        walk_at "st"
        exact ⟨⟨true, .tup ts, fun _ => rfl, rfl⟩, hp5⟩
    rintro r' G5 ⟨⟨b, u, hu, rfl⟩, hp5⟩
    refine s_seq ?_
    apply s_if
    apply e_bin
    refine e_cut (fun d G' => d = .t due ∧ G' = G5) ?_ ?_
    · apply e_metA
      apply e_clsM
      walk_at "st"
      refine il0 ?_
      walk_at "st"
      refine il1 ?_
      refine cut_spec hrw hu hvt (by omega) (fun hok => ?_) (fun k hk hok hno => ?_)
      · refine ⟨rowsT (slc row ts ts.length), rfl, ?_⟩
        rcases hdue with ⟨_, rfl⟩ | ⟨k, hk, _, hno, _⟩
        · exact ⟨rfl, rfl⟩
        · rw [hok k hk] at hno; cases hno
      · refine catch_place ?_
        rcases hdue with ⟨hok2, _⟩ | ⟨k2, hk2, hok2, hno2, rfl⟩
        · rw [hok2 k hk] at hno; cases hno
        · have : k = k2 := by
            rcases Nat.lt_trichotomy k k2 with z | z | z
            · rw [hok2 k z] at hno; cases hno
            · exact z
            · rw [hok k2 z] at hno2; cases hno2
          subst this
          exact ⟨rfl, rfl⟩
    rintro d' G' ⟨rfl, rfl⟩
    walk_at "st"
    refine f_neSelf hdc.1 hdc.2 ?_
    walk_at "st"
    rw [List.length_map]
    refine draw_spec hp5 (by omega) (by omega) (by omega) (fun a G6 ha0 ha1 hp6 hf6 => ?_)
    obtain ⟨n, rfl⟩ : ∃ n : Nat, a = n := ⟨a.toNat, by omega⟩
    have hnl : n ≤ row.length := by omega
    walk_at "st"
    refine f_slT ?_
    rw [cut_take]
    walk_at "st"
    refine pick_lst hp6 (by decide) (by decide) (by omega) (fun t G7 ht hp7 hf7 => ?_)
    have hto : t = .non ∨ ∃ z, t = .str z ∧ z.length ≤ 1000 ∧ wordB z = false := by
      simp only [List.mem_cons, List.not_mem_nil, or_false] at ht
      rcases ht with rfl | rfl | rfl | rfl
      · exact .inr ⟨_, rfl, by decide, by decide +kernel⟩
      · exact .inr ⟨_, rfl, by decide, by decide +kernel⟩
      · exact .inl rfl
      · exact .inr ⟨_, rfl, by decide, by decide +kernel⟩
    walk_at "st"
    refine f_addT (Nat.le_trans (show _ ≤ 8 by rw [List.length_take, List.length_map]; simp; omega) (by decide)) ?_
    walk_at "st"
    refine f_slT ?_
    rw [cut_drop]
    refine f_addT (Nat.le_trans (show _ ≤ 16 by rw [List.length_append, List.length_take, List.length_drop, List.length_map]; simp; omega) (by decide)) ?_
    have ewr : (row.map T.str).take n ++ [t] ++ (row.map T.str).drop n = (row.take n).map T.str ++ t :: (row.map T.str).drop n := by rw [List.map_take]; simp
    rw [ewr]
    refine s_seq ?_
    apply s_if
    apply e_bin
    apply e_metA
    apply e_clsM
    walk_at "st"
    refine cut_odd (fun w h => hrw w (List.mem_of_mem_take h)) hto ?_
    refine catch_deeds ?_
    rw [List.length_take, Nat.min_eq_left hnl]
    walk_at "st"
    refine f_neSelf rfl (by show 1 ≤ 64; decide) ?_
    refine t_F ?_
    apply s_next
    have hp7 : Pen 0 (300 + 10000 * j) G7 := hp7.mono (by omega)
    refine s_seq ?_
    generalize (D.t (T.tup ((row.take n).map T.str ++ t :: (row.map T.str).drop n))) = x10
    refine BL.s_cut (fun r' G' => (∃ ss : List (List Str), ss.length ≤ 6 ∧ (∀ r ∈ ss, r.length ≤ 7 ∧ ∀ w ∈ r, wordB w = true) ∧ r' = [some S, some (.loc 0), some (.t (.tup (ws.map T.str))), x3, some (.t (rowS row)), some (.t (.lst ts)), some (.t (.int (n : Nat))), x7, some (.t due), some (.t (.lst [rowK b row, u])), some x10, some (.t (rowsT ss)), x12, x13, x14, x15, x16]) ∧ Pen 0 (400 + 10000 * j) G') ?_ ?_
    · walk_at "st"
      rcases hdue with ⟨_, rfl⟩ | ⟨k2, hk2, hok2, hno2, rfl⟩
      · refine ix0 ?_
        walk_at "st"
        refine f_eqS ?_
        refine t_dec (fun _ => ?_) (fun q => absurd rfl q)
        walk_at "st"
        refine ix1 ?_
        refine ⟨⟨slc row ts ts.length, ?_, fun r hr => ⟨?_, fun w h => hrw w (slc_mem hr w h)⟩, rfl⟩, hp7.mono (by omega)⟩
        · unfold slc; rw [List.length_map, List.length_range]; exact htl
        · unfold slc at hr
          obtain ⟨i, _, rfl⟩ := List.mem_map.mp hr
          exact Nat.le_trans cutA_len hrl
      · refine ix0 ?_
        walk_at "st"
        refine f_eqS ?_
        refine t_dec (fun q => absurd q (by decide)) (fun q => ?_)
        walk_at "st"
        refine stretches_spec hp7 (by omega) (by decide) (by decide) (by decide) (by decide) (by omega) (by omega) (fun ss G8 hsl hsr hp8 hf8 => ?_)
        refine ⟨⟨ss, by rw [hsl]; decide, fun r hr => ⟨Nat.le_trans (hsr r hr).1 (by decide), fun w h => hw w ((hsr r hr).2 w h)⟩, rfl⟩, hp8.mono (by omega)⟩
    rintro r' G8 ⟨⟨ss, hsl, hsr, rfl⟩, hp8⟩
    have hbl : (barS ss).length ≤ 1000 := by
      have h1 := bar_len2 ss
      have h2 := wt_rows hsr
      have h3 : ss.length * (7 * 13 + 2) ≤ 6 * (7 * 13 + 2) := Nat.mul_le_mul_right _ hsl
      omega
    have hwd : ∀ r ∈ ss, ∀ w ∈ r, wordB w = true := fun r hr => (hsr r hr).2
    have hpb := parts_bar hwd
    have hgd : goodP (partsOf (barS ss)) = true := by rw [hpb]; exact good_bar hwd
    have hrf : rdP [] [] (partsOf (barS ss)) = ss := by
      rw [hpb, rdP_flat ss [] fun r hr w h => word_bar (hwd r hr w h)]
      rfl
    unfold rowsT
    walk_at "st"
    refine bars_spec (by omega) ?_
    refine s_seq ?_
    apply s_if
    apply e_or
    apply e_bin
    apply e_un
    apply e_make
    walk_at "st"
    refine hist_make (k := true) asS_tup hwd ?_
    refine f_prop rfl (text_spec (by omega) ?_)
    walk_at "st"
    refine f_neS ?_
    refine t_ndec (fun q => absurd rfl q) (fun _ => ?_)
    apply e_bin
    apply e_metA
    apply e_clsM
    walk_at "st"
    refine read_spec (by omega) (fun _ => ?_) (fun q => by rw [hgd] at q; cases q)
    rw [hrf]
    refine ⟨rowsT ss, rfl, ?_⟩
    walk_at "st"
    refine f_neSelf (x := givesT ss) (cmp_noB _ (gives_noB ss)) (gives_dep ss) ?_
    refine t_F ?_
    apply s_next
    walk_at "st"
    refine ⟨_, rfl, by decide, by decide, ?_⟩
    refine s_each (fun i r G' => (∃ y13 y14 y15, r = [some S, some (.loc 0), some (.t (.tup (ws.map T.str))), x3, some (.t (rowS row)), some (.t (.lst ts)), some (.t (.int (n : Nat))), x7, some (.t due), some (.t (.lst [rowK b row, u])), some x10, some (.t (.tup (ss.map rowS))), some (.t (.str (barS ss))), y13, y14, y15, x16]) ∧ Pen 0 (400 + 10000 * j + 10 * i) G') ⟨⟨_, _, _, rfl⟩, hp8.mono (by omega)⟩ (fun _ _ _ _ => kp_none) (fun i d r G9 hd hI => ?_) (fun r G9 hI => ?_)
    · obtain ⟨⟨y13, y14, y15, rfl⟩, hp9⟩ := hI
      have hi : i < 4 := by
        have := getLt hd
        simpa using this
      walk_at "st"
      refine spoiled_spec hp9 (by omega) (by omega) (fun z G10 hz hp10 hf10 => ?_)
      have hp10 : Pen 0 (400 + 10000 * j + 10 * (i + 1 : Nat)) G10 := hp10.mono (by omega)
      walk_at "st"
      apply e_clsM
      walk_at "st"
      refine read_spec (by omega) (fun hg => ?_) (fun hg => ?_)
      · refine ⟨rowsT (rdP [] [] (partsOf z)), rfl, ?_⟩
        have hbr := bar_read hg
        apply s_if
        walk_at "st"
        refine ix0 ?_
        walk_at "st"
        refine f_eqS ?_
        refine t_dec (fun _ => ?_) (fun q => absurd rfl q)
        walk_at "st"
        refine ix1 ?_
        unfold rowsT
        refine bars_spec (by rw [hbr]; omega) ?_
        rw [hbr]
        walk_at "st"
        refine f_neS ?_
        rw [decide_eq_true rfl]
        refine t_F ?_
        walk_at "st"
        refine ix0 ?_
        walk_at "st"
        refine f_neS ?_
        rw [decide_eq_true rfl]
        refine t_F ?_
        refine t_F ?_
        walk_at "st"
        exact ⟨⟨_, _, _, rfl⟩, hp10⟩
      · refine catch_text ?_
        apply s_if
        walk_at "st"
        refine ix0 ?_
        walk_at "st"
        refine f_eqS ?_
        rw [decide_eq_false (by decide)]
        refine t_F ?_
        refine t_F ?_
        walk_at "st"
        refine ix0 ?_
        walk_at "st"
        refine f_neS ?_
        rw [decide_eq_false (by decide)]
        refine t_T ?_
        walk_at "st"
        refine f_neSelf rfl (by show 1 ≤ 64; decide) ?_
        walk_at "st"
        exact ⟨⟨_, _, _, rfl⟩, hp10⟩
    · obtain ⟨⟨y13, y14, y15, rfl⟩, hp9⟩ := hI
      refine ⟨⟨_, _, _, _, _, _, _, _, _, _, _, _, _, _, rfl⟩, hp9.mono ?_⟩
      rw [List.length_map, List.length_range]
      have : (Int.toNat 4) = 4 := rfl
      omega
  · obtain ⟨⟨x3, x4, x5, x6, x7, x8, x9, x10, x11, x12, x13, x14, x15, x16, rfl⟩, hp⟩ := hI
    walk_at "st"
    apply e_clsM
    walk_at "st"
    refine read_empty ?_
    apply e_make
    walk_at "st"
    refine hist_make (x := .t (.tup [])) (k := true) (ss := []) asS_tup (by simp) ?_
    refine f_eqO rfl rfl (hist_eq ⟨true, rfl, ?_⟩)
    refine t_T ?_
    walk_at "st"
    apply e_clsM
    walk_at "st"
    refine read_bar ?_
    apply e_make
    walk_at "st"
    refine hist_make (x := .t (.tup [.tup []])) (k := true) (ss := [[]]) asS_tup (by simp) ?_
    refine f_eqO rfl rfl (hist_eq ⟨true, rfl, ?_⟩)
    refine t_T ?_
    walk_at "st"
    apply e_make
    walk_at "st"
    refine hist_make (x := .t (.tup [])) (k := true) (ss := []) asS_tup (by simp) ?_
    refine f_prop rfl (text_spec (by decide +kernel) ?_)
    walk_at "st"
    refine f_eqS ?_
    refine ⟨_, rfl, ?_⟩
    have e : barS [] = ("" : Str) := rfl
    rw [decide_eq_true e]
end
theorem law_true (ns : List Int) (h : ns.length ≤ 63) : ∃ G, F_law [scr ns] [] = .ok (.t (.bl true)) G := by
  obtain ⟨d, G, e, rfl⟩ := (law_wp ns h).ex
  exact ⟨G, e⟩

end LW

set_option Elab.async false
set_option linter.all false
set_option maxRecDepth 100000
set_option maxHeartbeats 4000000
namespace LW
open PySem L2 BL

/-- what the walk asks of the top -/
structure Fx (P : Program) (w : World) (K : PySem.W.Frag) (mg : Str → Option Value) (base : Heap) : Prop where
  tb_law : LamX.TabB base mg (He.cT K ("law", none)).1 (He.cT K ("law", none)).2
  n_tuple : mg "tuple" = none
  cl_History : Cls K (He.ga K "History")
  na_History_stretches : NoAttr K (He.ga K "History") "stretches"
  n_enumerate : mg "enumerate" = none
  n_isinstance : mg "isinstance" = none
  n_list : mg "list" = none
  f_is_row : ∃ fd, FnE K "is_row" "is_row" s_is_row [] (He.fAd K ("is_row", none)) fd
  m_is_row : mg "is_row" = some (.ref (He.fAd K ("is_row", none)))
  g_LETTERS : ∃ t, mg "LETTERS" = some (.str "abcdefghijklmnopqrstuvwxyz" t)
  g_SIGNS : ∃ t, mg "SIGNS" = some (.str "abcdefghijklmnopqrstuvwxyz0123456789" t)
  n_all : mg "all" = none
  n_str : mg "str" = none
  n_len : mg "len" = none
  g_LONGEST_WORD : ∃ t, mg "LONGEST_WORD" = some (.int 12 t)
  f_is_word : ∃ fd, FnE K "is_word" "is_word" s_is_word [] (He.fAd K ("is_word", none)) fd
  m_is_word : mg "is_word" = some (.ref (He.fAd K ("is_word", none)))
  k_BadStretch : mg "BadStretch" = some (.ref (He.ga K "BadStretch"))
  n_super : mg "super" = none
  xa_BadStretch : ExA (bz P w K mg base) 1 4 ["index"]
  dt_History_init_0 : tupB K (He.dflAt ("History", some "__init__") 0 K) [] = true
  f_History_init : ∃ fd, FnE K "__init__" "History.__init__" s_History_init [.ref (He.dflAt ("History", some "__init__") 0 K)] (He.fAd K ("History", some "__init__")) fd
  mk_History : Mk K (He.ga K "History") (He.fAd K ("History", some "__init__"))
  k_BadText : mg "BadText" = some (.ref (He.ga K "BadText"))
  xa_BadText : ExA (bz P w K mg base) 1 3 ["line"]
  f_History_read : ∃ fd, FnE K "read" "History.read" s_History_read [] (getAd K ("History", "read")) fd
  k_History : mg "History" = some (.ref (He.ga K "History"))
  cm_History_read : ClsM K (He.ga K "History") "read" (prpAd K ("History", "read")) (getAd K ("History", "read"))
  i_History : InsF K (He.ga K "History")
  kt_History : kitB' K (He.ga K "History") (([] : List Nat).map (caK K)) = true
  f_History_eq : ∃ fd, FnE K "__eq__" "History.__eq__" s_History_eq [] (He.fAd K ("History", some "__eq__")) fd
  e_History : EqF K (He.ga K "History") (He.fAd K ("History", some "__eq__"))
  fs_History : firstB K (He.ga K "History") (([] : List Nat).map (caK K)) = true
  f_History_text : ∃ fd, FnE K "text" "History.text" s_History_text [] (getAd K ("History", "text")) fd
  pr_History_text : PropOf K (He.ga K "History") "text" (prpAd K ("History", "text")) (getAd K ("History", "text"))
  n_range : mg "range" = none
  f_bars : ∃ fd, FnE K "_law_bars" "_law_bars" s_bars [] (He.fAd K ("_law_bars", none)) fd
  m_bars : mg "_law_bars" = some (.ref (He.fAd K ("_law_bars", none)))
  k_BadDeeds : mg "BadDeeds" = some (.ref (He.ga K "BadDeeds"))
  xa_BadDeeds : ExA (bz P w K mg base) 1 1 ["index"]
  su_BadDeeds : (([(1, true), (2, false), (3, false), (4, false)] : List (Nat × Bool)).all fun p => decide (PySem.W.exmOne K (.ref (caK K p.1)) (.ref (He.ga K "BadDeeds")) = some p.2)) = true
  xf_BadDeeds : L2.XfC K (He.ga K "BadDeeds")
  nf_BadDeeds_index : PySem.W.findIn K (.ref (He.ga K "BadDeeds")) "index" = some none
  k_BadPlace : mg "BadPlace" = some (.ref (He.ga K "BadPlace"))
  xa_BadPlace : ExA (bz P w K mg base) 1 2 ["index"]
  su_BadPlace : (([(1, false), (2, true), (3, false), (4, false)] : List (Nat × Bool)).all fun p => decide (PySem.W.exmOne K (.ref (caK K p.1)) (.ref (He.ga K "BadPlace")) = some p.2)) = true
  xf_BadPlace : L2.XfC K (He.ga K "BadPlace")
  nf_BadPlace_index : PySem.W.findIn K (.ref (He.ga K "BadPlace")) "index" = some none
  su_BadText : (([(1, false), (2, false), (3, true), (4, false)] : List (Nat × Bool)).all fun p => decide (PySem.W.exmOne K (.ref (caK K p.1)) (.ref (He.ga K "BadText")) = some p.2)) = true
  xf_BadText : L2.XfC K (He.ga K "BadText")
  nf_BadText_line : PySem.W.findIn K (.ref (He.ga K "BadText")) "line" = some none
  f_told : ∃ fd, FnE K "_law_told" "_law_told" s_told [] (He.fAd K ("_law_told", none)) fd
  m_told : mg "_law_told" = some (.ref (He.fAd K ("_law_told", none)))
  n_int : mg "int" = none
  n_abs : mg "abs" = none
  f_draw : ∃ fd, FnE K "_law_draw" "_law_draw" s_draw [] (He.fAd K ("_law_draw", none)) fd
  m_draw : mg "_law_draw" = some (.ref (He.fAd K ("_law_draw", none)))
  f_pick : ∃ fd, FnE K "_law_pick" "_law_pick" s_pick [] (He.fAd K ("_law_pick", none)) fd
  m_pick : mg "_law_pick" = some (.ref (He.fAd K ("_law_pick", none)))
  f_spoiled : ∃ fd, FnE K "_law_spoiled" "_law_spoiled" s_spoiled [] (He.fAd K ("_law_spoiled", none)) fd
  m_spoiled : mg "_law_spoiled" = some (.ref (He.fAd K ("_law_spoiled", none)))
  f_row : ∃ fd, FnE K "_law_row" "_law_row" s_row [] (He.fAd K ("_law_row", none)) fd
  m_row : mg "_law_row" = some (.ref (He.fAd K ("_law_row", none)))
  f_stretches : ∃ fd, FnE K "_law_stretches" "_law_stretches" s_stretches [] (He.fAd K ("_law_stretches", none)) fd
  m_stretches : mg "_law_stretches" = some (.ref (He.fAd K ("_law_stretches", none)))
  n_bool : mg "bool" = none
  f_is_integer : ∃ fd, FnE K "is_integer" "is_integer" s_is_integer [] (He.fAd K ("is_integer", none)) fd
  m_is_integer : mg "is_integer" = some (.ref (He.fAd K ("is_integer", none)))
  f_is_within : ∃ fd, FnE K "is_within" "is_within" s_is_within [] (He.fAd K ("is_within", none)) fd
  m_is_within : mg "is_within" = some (.ref (He.fAd K ("is_within", none)))
  f_History_cut : ∃ fd, FnE K "cut" "History.cut" s_History_cut [] (getAd K ("History", "cut")) fd
  cm_History_cut : ClsM K (He.ga K "History") "cut" (prpAd K ("History", "cut")) (getAd K ("History", "cut"))
  f_cut : ∃ fd, FnE K "_law_cut" "_law_cut" s_cut [] (He.fAd K ("_law_cut", none)) fd
  m_cut : mg "_law_cut" = some (.ref (He.fAd K ("_law_cut", none)))
  n_sorted : mg "sorted" = none
  f_deeds : ∃ fd, FnE K "_law_deeds" "_law_deeds" s_deeds [] (He.fAd K ("_law_deeds", none)) fd
  m_deeds : mg "_law_deeds" = some (.ref (He.fAd K ("_law_deeds", none)))
  f_pen : ∃ fd, FnE K "_law_pen" "_law_pen" s_pen [] (He.fAd K ("_law_pen", none)) fd
  m_pen : mg "_law_pen" = some (.ref (He.fAd K ("_law_pen", none)))
  f_law : ∃ fd, FnE K "law" "law" s_law [] (He.fAd K ("law", none)) fd
  m_law : mg "law" = some (.ref (He.fAd K ("law", none)))
section
variable {P : Program} {w : World} {K : PySem.W.Frag} {mg : Str → Option Value} {base : Heap}
theorem fd_stretches (x : Fx P w K mg base) : ∀ c, c ∈ [0] → Cls (bz P w K mg base).K ((bz P w K mg base).ca c) ∧ NoAttr (bz P w K mg base).K ((bz P w K mg base).ca c) "stretches" := by
  intro c hc
  simp only [List.mem_cons, List.not_mem_nil, or_false] at hc
  rcases hc with rfl
  · exact ⟨x.cl_History, x.na_History_stretches⟩
theorem ins_all (x : Fx P w K mg base) : ∀ c, c ∈ [0] → InsF K (caK K c) := by
  intro c hc
  simp only [List.mem_cons, List.not_mem_nil, or_false] at hc
  rcases hc with rfl
  · exact x.i_History
theorem ki_History (x : Fx P w K mg base) {rv : List Addr} : IsiOk ⟨⟨K, caK K⟩, tbL K, rv⟩ (.ref (caK K 0)) (isOwn 0 []) := kitB_ok (g := ⟨⟨K, caK K⟩, tbL K, rv⟩) (fun c hc => ins_all x c (by simp at hc ⊢; omega)) x.kt_History
theorem hu_law (x : Fx P w K mg base) : ∀ p ∈ (bz P w K mg base).tb, p.1 = (He.cT K ("law", none)).2 → p.2 = ("law" : Str) ++ ".<locals>." ++ "<lambda>" := by
  intro p hp e
  simp only [bz, tbL, List.mem_cons, List.not_mem_nil, or_false] at hp
  rcases hp with rfl
  · rfl
def l_told (K : PySem.W.Frag) : List (Value × List Prt) := [(.ref (He.ga K "BadDeeds"), [.cst (.str "deeds"), .fld (He.ga K "BadDeeds") "index"]), (.ref (He.ga K "BadPlace"), [.cst (.str "place"), .fld (He.ga K "BadPlace") "index"]), (.ref (He.ga K "BadText"), [.cst (.str "text"), .fld (He.ga K "BadText") "line"])]
theorem sc_told : FnScope ["_law_call", "e"] ["_law_call"] (defScope s_told) := ⟨rfl, rfl, rfl, by decide +kernel, rfl, by decide +kernel, by decide +kernel⟩
theorem cr_told (x : Fx P w K mg base) : ClsR (bz P w K mg base).g.toGm0 hs_told (l_told K) := ⟨_, _, _, rfl, sub_of x.su_BadDeeds, ⟨_, _, rfl, fun _ _ => ⟨rfl, by decide +kernel⟩, ⟨_, _, rfl, ⟨rfl, rfl⟩, rfl⟩⟩, ⟨_, _, _, rfl, sub_of x.su_BadPlace, ⟨_, _, rfl, fun _ _ => ⟨rfl, by decide +kernel⟩, ⟨_, _, rfl, ⟨rfl, rfl⟩, rfl⟩⟩, ⟨_, _, _, rfl, sub_of x.su_BadText, ⟨_, _, rfl, fun _ _ => ⟨rfl, by decide +kernel⟩, ⟨_, _, rfl, ⟨rfl, rfl⟩, rfl⟩⟩, rfl⟩⟩⟩
theorem gv_told (x : Fx P w K mg base) (X : Cx) (cdv : Value) (eK : X.K = K) (em : X.mg = mg) : LamX.GivesTo X ["_law_call", "e"] "_law_told" (defScope s_told) (He.fAd K ("_law_told", none)) cdv (defBody s_told) "_law_call" (X.env.qual ++ "<lambda>") (TTa X.K "gives" "stretches" (l_told K)) :=
  meta_gives rfl (by decide +kernel) rfl (by intro _; rfl) fun s H =>
    .more ⟨rfl, by decide, .inl (by show X.mg _ = _; rw [em]; exact x.k_BadDeeds)⟩ (fun a oe cls d pn hz hf => pss_one (ps_ret (pe_tup (PrtsOk.pa (n := "e") (.cst pe_str rfl (.fld (pe_xf (by rw [eK]; exact x.xf_BadDeeds) (by rw [eK]; exact x.nf_BadDeeds_index) hz hf (pe_var rfl (.inl rfl))) rfl .nil)))))) (.more ⟨rfl, by decide, .inl (by show X.mg _ = _; rw [em]; exact x.k_BadPlace)⟩ (fun a oe cls d pn hz hf => pss_one (ps_ret (pe_tup (PrtsOk.pa (n := "e") (.cst pe_str rfl (.fld (pe_xf (by rw [eK]; exact x.xf_BadPlace) (by rw [eK]; exact x.nf_BadPlace_index) hz hf (pe_var rfl (.inl rfl))) rfl .nil)))))) (.more ⟨rfl, by decide, .inl (by show X.mg _ = _; rw [em]; exact x.k_BadText)⟩ (fun a oe cls d pn hz hf => pss_one (ps_ret (pe_tup (PrtsOk.pa (n := "e") (.cst pe_str rfl (.fld (pe_xf (by rw [eK]; exact x.xf_BadText) (by rw [eK]; exact x.nf_BadText_line) hz hf (pe_var rfl (.inl rfl))) rfl .nil)))))) (.none)))
theorem flt_told (x : Fx P w K mg base) : MetF (bz P w K mg base) "_law_told" "_law_call" "gives" "stretches" (He.fAd K ("_law_told", none)) hs_told := metf_of x.f_told sc_told rfl (.inl rfl) (cr_told x) (by decide +kernel) (fun _ _ _ _ _ _ us hl => match us, hl with | [_], _ => rfl) fun X cdv eK em => gv_told x X cdv eK em
theorem sc_is_row : FnScope ["value"] ["value"] (defScope s_is_row) := ⟨rfl, rfl, rfl, by decide +kernel, rfl, by decide +kernel, by decide +kernel⟩
theorem t_is_row (x : Fx P w K mg base) (rv : List Addr) : PSDs ((bz P w K mg base).dfn ["value"] (defScope s_is_row) 0 rv) (defBody s_is_row) d_is_row :=
  (psd_one (psd_ret (pd_isi2 x.n_isinstance x.n_list x.n_tuple (by decide +kernel) (by decide +kernel) isi_lst isi_tup (pd_var (i := 0)))))
theorem w_is_row (x : Fx P w K mg base) : Ca (bz P w K mg base) 1 (He.fAd K ("is_row", none)) ["value"] F_is_row [] := ca_pop x.f_is_row sc_is_row (t_is_row x) fun _ _ _ _ _ _ us hl => match us, hl with | [_], _ => rfl
theorem sc_is_word : FnScope ["value", "sign"] ["value"] (defScope s_is_word) := ⟨rfl, rfl, rfl, by decide +kernel, rfl, by decide +kernel, by decide +kernel⟩
theorem t_is_word (x : Fx P w K mg base) (rv : List Addr) : PSDs ((bz P w K mg base).dfn ["value", "sign"] (defScope s_is_word) 0 rv) (defBody s_is_word) d_is_word :=
  (psd_cons (psd_if (pdt_w (pdw_or (pdt_not (pdt_truth (pd_isiB x.n_isinstance x.n_str (by decide +kernel) isi_str (pd_var (i := 0))))) (pdw_or1 (pdt_not (pdt_leLe pd_int (pd_len x.n_len (pd_var (i := 0))) (pd_gI (i := 12) x.g_LONGEST_WORD))))))
  (psd_one (psd_ret pd_bl))
  psd_nil)
  (psd_one (psd_ret (pd_and (pd_in (pd_ix (pd_var (i := 0)) pd_int) (pd_gS (z := "abcdefghijklmnopqrstuvwxyz") x.g_LETTERS)) (pd_one (pd_all x.n_all (pd_lc (own := [("sign", 1)]) (fun _ => fin_lst) (pdi_str (pd_var (i := 0))) (blkOk_by (by kernel_rfl)) (pdg_name (i := 1)) (by simp) (fun _ => pdts_nil) (fun _ => (pd_in (pd_var (i := 1)) (pd_gS (z := "abcdefghijklmnopqrstuvwxyz0123456789") x.g_SIGNS))))))))))
theorem w_is_word (x : Fx P w K mg base) : Ca (bz P w K mg base) 1 (He.fAd K ("is_word", none)) ["value"] F_is_word [] := ca_pop x.f_is_word sc_is_word (t_is_word x) fun _ _ _ _ _ _ us hl => match us, hl with | [_], _ => rfl
theorem sc_History_init : FnScope ["self", "stretches", "index", "stretch", "deed"] ["self", "stretches"] (defScope s_History_init) := ⟨rfl, rfl, rfl, by decide +kernel, rfl, by decide +kernel, by decide +kernel⟩
theorem t_History_init (x : Fx P w K mg base) (rv : List Addr) : PSDs ((bz P w K mg base).dfn ["self", "stretches", "index", "stretch", "deed"] (defScope s_History_init) 2 rv) (defBody s_History_init) d_History_init :=
  (psd_cons (psd_for (pdi_enum x.n_enumerate (pd_var (i := 1))) (pdg_two (i := 2) (j := 3))
  (psd_one (psd_if (pdt_w (pdw_or (pdt_not (pdt_truth (pd_callC (w_is_row x) (Nat.le_of_ble_eq_true rfl) x.m_is_row (pda_cons (pd_var (i := 3)) pda_nil) rfl))) (pdw_or1 (pdt_not (pdt_truth (pd_all x.n_all (pd_lc (own := [("deed", 4)]) (fun _ => fin_lst) (pdi_seq (pd_var (i := 3))) (blkOk_by (by kernel_rfl)) (pdg_name (i := 4)) (by simp) (fun _ => pdts_nil) (fun _ => (pd_callC (w_is_word x) (Nat.le_of_ble_eq_true rfl) x.m_is_word (pda_cons (pd_var (i := 4)) pda_nil) rfl)))))))))
  (psd_one (psd_raise (c := 4) (ns := ["index"]) x.xa_BadStretch (Nat.le_of_ble_eq_true rfl) x.k_BadStretch (pda_cons (pd_var (i := 2)) pda_nil) rfl))
  psd_nil)))
  (psd_one (psd_fld (cs := [0]) (pd_var (i := 0)) (pd_tup x.n_tuple (pd_lc (own := [("stretch", 3)]) (fun _ => fin_lst) (pdi_seq (pd_var (i := 1))) (blkOk_by (by kernel_rfl)) (pdg_name (i := 3)) (by simp) (fun _ => pdts_nil) (fun _ => (pd_tup x.n_tuple (pd_var (i := 3)))))) (fd_stretches x))))
theorem w_History_init_1 (x : Fx P w K mg base) : Ca (bz P w K mg base) 3 (He.fAd K ("History", some "__init__")) ["self", "stretches"] F_History_init [.tup []] := ca_dfl (dvs := [.ref (He.dflAt ("History", some "__init__") 0 K)]) x.f_History_init (hF_pop sc_History_init (t_History_init x)) 1 0 (by simp) rfl (fun _ _ => ⟨_, _, rfl, tup_rp (g := (bz P w K mg base).g.toGm0) (zs := []) x.dt_History_init_0 (by simp) _ _, rfl⟩) fun _ _ _ _ _ _ _ us its hl hi => match us, hl, its, hi with | [_], _, [_], _ => ⟨_, rfl, rfl⟩
theorem w_History_init_2 (x : Fx P w K mg base) : Ca (bz P w K mg base) 3 (He.fAd K ("History", some "__init__")) ["self", "stretches"] F_History_init [] := ca_dfl (dvs := [.ref (He.dflAt ("History", some "__init__") 0 K)]) x.f_History_init (hF_pop sc_History_init (t_History_init x)) 2 1 (by simp) rfl (fun _ _ => rfl) fun _ _ _ _ _ _ _ us its hl hi => match us, hl, its, hi with | [_, _], _, [_], _ => ⟨_, rfl, rfl⟩
theorem sc_History_read : FnScope ["cls", "text", "parts", "stretches", "stretch", "part"] ["cls", "text"] (defScope s_History_read) := ⟨rfl, rfl, rfl, by decide +kernel, rfl, by decide +kernel, by decide +kernel⟩
theorem t_History_read (x : Fx P w K mg base) (rv : List Addr) : PSDs ((bz P w K mg base).dfn ["cls", "text", "parts", "stretches", "stretch", "part"] (defScope s_History_read) 4 rv) (defBody s_History_read) d_History_read :=
  (psd_cons (psd_set (i := 2) (pd_ite (pdt_truth (pd_var (i := 1))) (pd_split (pd_var (i := 1)) pd_str) (pd_lstD pda_nil)))
  (psd_cons (psd_if (pdt_w (pdw_or (pdt_not (pdt_truth (pd_all x.n_all (pd_lc (own := [("part", 5)]) (fun _ => fin_lst) (pdi_seq (pd_var (i := 2))) (blkOk_by (by kernel_rfl)) (pdg_name (i := 5)) (by simp) (fun _ => pdts_nil) (fun _ => (pd_or (pd_eq (pd_var (i := 5)) pd_str) (pd_one (pd_callC (w_is_word x) (Nat.le_of_ble_eq_true rfl) x.m_is_word (pda_cons (pd_var (i := 5)) pda_nil) rfl)))))))) (pdw_or1 (pdt_w (pdw_and (pdt_truth (pd_var (i := 2))) (pdw_and1 (pdt_ne (pd_ix (pd_var (i := 2)) (pd_neg pd_int)) pd_str)))))))
  (psd_one (psd_raise (c := 3) (ns := ["line"]) x.xa_BadText (Nat.le_of_ble_eq_true rfl) x.k_BadText (pda_cons pd_int pda_nil) rfl))
  psd_nil)
  (psd_cons (psd_set (i := 3) (pd_lstDL pda_nil))
  (psd_cons (psd_set (i := 4) (pd_lstD pda_nil))
  (psd_cons (psd_for (pdi_seq (pd_var (i := 2))) (pdg_name (i := 5))
  (psd_one (psd_if (pdt_eq (pd_var (i := 5)) pd_str)
  (psd_cons (psd_expr (pd_append (pd_var (i := 3)) (pd_tup x.n_tuple (pd_var (i := 4)))))
  (psd_one (psd_set (i := 4) (pd_lstD pda_nil))))
  (psd_one (psd_set (i := 4) (pd_snoc (pd_var (i := 4)) (pd_var (i := 5))))))))
  (psd_one (psd_ret (pd_makeV (i := 0) (c := 0) x.mk_History (w_History_init_2 x) (Nat.le_of_ble_eq_true rfl) (pda_cons (pd_var (i := 3)) pda_nil) rfl))))))))
theorem w_History_read (x : Fx P w K mg base) : Ca (bz P w K mg base) 5 (getAd K ("History", "read")) ["cls", "text"] F_History_read [] := ca_pop x.f_History_read sc_History_read (t_History_read x) fun _ _ _ _ _ _ us hl => match us, hl with | [_, _], _ => rfl
theorem sc_History_eq : FnScope ["self", "other"] ["self", "other"] (defScope s_History_eq) := ⟨rfl, rfl, rfl, by decide +kernel, rfl, by decide +kernel, by decide +kernel⟩
theorem t_History_eq (x : Fx P w K mg base) (rv : List Addr) : PSDs ((bz P w K mg base).dfn ["self", "other"] (defScope s_History_eq) 0 rv) (defBody s_History_eq) d_History_eq :=
  (psd_one (psd_ret (pd_and (pd_isiC (c := 0) x.n_isinstance x.k_History (ki_History x) (pd_var (i := 1))) (pd_one (pd_eq (pd_fld (cs := [0]) (pd_var (i := 0)) (fd_stretches x)) (pd_fld (cs := [0]) (pd_var (i := 1)) (fd_stretches x)))))))
theorem w_History_eq (x : Fx P w K mg base) : Ca (bz P w K mg base) 1 (He.fAd K ("History", some "__eq__")) ["self", "other"] F_History_eq [] := ca_pop x.f_History_eq sc_History_eq (t_History_eq x) fun _ _ _ _ _ _ us hl => match us, hl with | [_, _], _ => rfl
theorem ea_History (x : Fx P w K mg base) : EqA (bz P w K mg base) 1 0 [] (He.fAd K ("History", some "__eq__")) ["self", "other"] F_History_eq := ⟨w_History_eq x, x.e_History, fun c hc => ins_all x c (by simp at hc ⊢; omega), firstB_ok x.fs_History, rfl⟩
theorem sc_History_text : FnScope ["self", "stretch"] ["self"] (defScope s_History_text) := ⟨rfl, rfl, rfl, by decide +kernel, rfl, by decide +kernel, by decide +kernel⟩
theorem t_History_text (x : Fx P w K mg base) (rv : List Addr) : PSDs ((bz P w K mg base).dfn ["self", "stretch"] (defScope s_History_text) 0 rv) (defBody s_History_text) d_History_text :=
  (psd_one (psd_ret (pd_join pd_str (pd_lc (own := [("stretch", 1)]) (fun _ => fin_lst) (pdi_seq (pd_fld (cs := [0]) (pd_var (i := 0)) (fd_stretches x))) (blkOk_by (by kernel_rfl)) (pdg_name (i := 1)) (by simp) (fun _ => pdts_nil) (fun _ => (pd_join pd_str (pd_snoc (pd_var (i := 1)) pd_str)))))))
theorem w_History_text (x : Fx P w K mg base) : Ca (bz P w K mg base) 1 (getAd K ("History", "text")) ["self"] F_History_text [] := ca_pop x.f_History_text sc_History_text (t_History_text x) fun _ _ _ _ _ _ us hl => match us, hl with | [_], _ => rfl
theorem sc_bars : FnScope ["_law_rows", "_law_row_here"] ["_law_rows"] (defScope s_bars) := ⟨rfl, rfl, rfl, by decide +kernel, rfl, by decide +kernel, by decide +kernel⟩
theorem t_bars (x : Fx P w K mg base) (rv : List Addr) : PSDs ((bz P w K mg base).dfn ["_law_rows", "_law_row_here"] (defScope s_bars) 0 rv) (defBody s_bars) d_bars :=
  (psd_one (psd_ret (pd_join pd_str (pd_lc (own := [("_law_row_here", 1)]) (fun _ => fin_lst) (pdi_seq (pd_var (i := 0))) (blkOk_by (by kernel_rfl)) (pdg_name (i := 1)) (by simp) (fun _ => pdts_nil) (fun _ => (pd_join pd_str (pd_add (pd_var (i := 1)) (pd_tupD (pda_cons pd_str pda_nil)))))))))
theorem w_bars (x : Fx P w K mg base) : Ca (bz P w K mg base) 1 (He.fAd K ("_law_bars", none)) ["_law_rows"] F_bars [] := ca_pop x.f_bars sc_bars (t_bars x) fun _ _ _ _ _ _ us hl => match us, hl with | [_], _ => rfl
theorem sc_draw : FnScope ["_law_pen_here", "_law_many", "_law_digit", "_law_spot", "_law_size", "_law_cell", "_law_stir"] ["_law_pen_here", "_law_many"] (defScope s_draw) := ⟨rfl, rfl, rfl, by decide +kernel, rfl, by decide +kernel, by decide +kernel⟩
theorem t_draw (x : Fx P w K mg base) (rv : List Addr) : PSDs ((bz P w K mg base).dfn ["_law_pen_here", "_law_many", "_law_digit", "_law_spot", "_law_size", "_law_cell", "_law_stir"] (defScope s_draw) 0 rv) (defBody s_draw) d_draw :=
  (psd_cons (psd_if (pdt_gt (pd_dget (pd_var (i := 0)) pd_str) pd_int)
  (psd_cons (psd_set (i := 2) (pd_mod (pd_intf x.n_int (pd_dget (pd_var (i := 0)) pd_str)) (pd_var (i := 1))))
  (psd_cons (psd_dput (pd_var (i := 0)) pd_str (pd_div (pd_dget (pd_var (i := 0)) pd_str) (pd_var (i := 1))))
  (psd_one (psd_ret (pd_var (i := 2))))))
  psd_nil)
  (psd_cons (psd_par (i := 3) (j := 4) (pd_dget (pd_var (i := 0)) pd_str) (pd_len x.n_len (pd_dget (pd_var (i := 0)) pd_str)))
  (psd_cons (psd_dput (pd_var (i := 0)) pd_str (pd_add (pd_var (i := 3)) pd_int))
  (psd_cons (psd_set (i := 5) (pd_add (pd_mul pd_int (pd_var (i := 3))) pd_int))
  (psd_cons (psd_if (pdt_gt (pd_var (i := 4)) pd_int)
  (psd_one (psd_set (i := 5) (pd_ix (pd_dget (pd_var (i := 0)) pd_str) (pd_mod (pd_intf x.n_int (pd_var (i := 3))) (pd_var (i := 4))))))
  psd_nil)
  (psd_cons (psd_if (pdt_w (pdw_and (pdt_lt (pd_var (i := 3)) (pd_var (i := 4))) (pdw_and1 (pdt_ge (pd_abs x.n_abs (pd_var (i := 5))) (pd_pow pd_int pd_int)))))
  (psd_cons (psd_dput (pd_var (i := 0)) pd_str (pd_div (pd_sub (pd_abs x.n_abs (pd_var (i := 5))) (pd_pow pd_int pd_int)) (pd_var (i := 1))))
  (psd_one (psd_ret (pd_mod (pd_sub (pd_abs x.n_abs (pd_var (i := 5))) (pd_pow pd_int pd_int)) (pd_var (i := 1))))))
  psd_nil)
  (psd_cons (psd_set (i := 6) (pd_mod (pd_intf x.n_int (pd_add (pd_add (pd_mul (pd_mod (pd_intf x.n_int (pd_var (i := 5))) pd_int) pd_int) (pd_mul (pd_mul pd_int (pd_var (i := 3))) (pd_var (i := 3)))) pd_int)) pd_int))
  (psd_cons (psd_set (i := 6) (pd_mod (pd_intf x.n_int (pd_add (pd_add (pd_add (pd_mul (pd_var (i := 6)) (pd_var (i := 6))) (pd_mul pd_int (pd_var (i := 6)))) (pd_mul pd_int (pd_var (i := 3)))) pd_int)) pd_int))
  (psd_cons (psd_set (i := 6) (pd_div (pd_mod (pd_intf x.n_int (pd_mul (pd_var (i := 6)) (pd_add (pd_var (i := 6)) pd_int))) pd_int) pd_int))
  (psd_one (psd_ret (pd_mod (pd_intf x.n_int (pd_var (i := 6))) (pd_var (i := 1))))))))))))))
theorem w_draw (x : Fx P w K mg base) : Ca (bz P w K mg base) 1 (He.fAd K ("_law_draw", none)) ["_law_pen_here", "_law_many"] F_draw [] := ca_pop x.f_draw sc_draw (t_draw x) fun _ _ _ _ _ _ us hl => match us, hl with | [_, _], _ => rfl
theorem sc_pick : FnScope ["_law_pen_here", "_law_options"] ["_law_pen_here", "_law_options"] (defScope s_pick) := ⟨rfl, rfl, rfl, by decide +kernel, rfl, by decide +kernel, by decide +kernel⟩
theorem t_pick (x : Fx P w K mg base) (rv : List Addr) : PSDs ((bz P w K mg base).dfn ["_law_pen_here", "_law_options"] (defScope s_pick) 1 rv) (defBody s_pick) d_pick :=
  (psd_one (psd_ret (pd_ix (pd_var (i := 1)) (pd_callC (w_draw x) (Nat.le_of_ble_eq_true rfl) x.m_draw (pda_cons (pd_var (i := 0)) (pda_cons (pd_len x.n_len (pd_var (i := 1))) pda_nil)) rfl))))
theorem w_pick (x : Fx P w K mg base) : Ca (bz P w K mg base) 2 (He.fAd K ("_law_pick", none)) ["_law_pen_here", "_law_options"] F_pick [] := ca_pop x.f_pick sc_pick (t_pick x) fun _ _ _ _ _ _ us hl => match us, hl with | [_, _], _ => rfl
theorem sc_spoiled : FnScope ["_law_pen_here", "_law_seen", "_law_at", "_law_sign", "_law_more"] ["_law_pen_here", "_law_seen"] (defScope s_spoiled) := ⟨rfl, rfl, rfl, by decide +kernel, rfl, by decide +kernel, by decide +kernel⟩
theorem t_spoiled (x : Fx P w K mg base) (rv : List Addr) : PSDs ((bz P w K mg base).dfn ["_law_pen_here", "_law_seen", "_law_at", "_law_sign", "_law_more"] (defScope s_spoiled) 2 rv) (defBody s_spoiled) d_spoiled :=
  (psd_cons (psd_par (i := 2) (j := 3) (pd_callC (w_draw x) (Nat.le_of_ble_eq_true rfl) x.m_draw (pda_cons (pd_var (i := 0)) (pda_cons (pd_add (pd_len x.n_len (pd_var (i := 1))) pd_int) pda_nil)) rfl) (pd_callC (w_pick x) (Nat.le_of_ble_eq_true rfl) x.m_pick (pda_cons (pd_var (i := 0)) (pda_cons pd_str pda_nil)) rfl))
  (psd_cons (psd_set (i := 4) (pd_ite (pdt_eq (pd_callC (w_draw x) (Nat.le_of_ble_eq_true rfl) x.m_draw (pda_cons (pd_var (i := 0)) (pda_cons pd_int pda_nil)) rfl) pd_int) pd_str (pd_var (i := 3))))
  (psd_one (psd_ret (pd_add (pd_add (pd_slU (pd_var (i := 1)) (pd_var (i := 2))) (pd_var (i := 4))) (pd_slL (pd_var (i := 1)) (pd_add (pd_var (i := 2)) (pd_callC (w_draw x) (Nat.le_of_ble_eq_true rfl) x.m_draw (pda_cons (pd_var (i := 0)) (pda_cons pd_int pda_nil)) rfl))))))))
theorem w_spoiled (x : Fx P w K mg base) : Ca (bz P w K mg base) 3 (He.fAd K ("_law_spoiled", none)) ["_law_pen_here", "_law_seen"] F_spoiled [] := ca_pop x.f_spoiled sc_spoiled (t_spoiled x) fun _ _ _ _ _ _ us hl => match us, hl with | [_, _], _ => rfl
theorem sc_row : FnScope ["_law_pen_here", "_law_deeds_here", "_law_most", "_law_k"] ["_law_pen_here", "_law_deeds_here", "_law_most"] (defScope s_row) := ⟨rfl, rfl, rfl, by decide +kernel, rfl, by decide +kernel, by decide +kernel⟩
theorem t_row (x : Fx P w K mg base) (rv : List Addr) : PSDs ((bz P w K mg base).dfn ["_law_pen_here", "_law_deeds_here", "_law_most", "_law_k"] (defScope s_row) 2 rv) (defBody s_row) d_row :=
  (psd_one (psd_ret (pd_tup x.n_tuple (pd_lc (own := [("_law_k", 3)]) (fun _ => fin_lst) (pdi_range1 x.n_range (pd_callC (w_draw x) (Nat.le_of_ble_eq_true rfl) x.m_draw (pda_cons (pd_var (i := 0)) (pda_cons (pd_add (pd_var (i := 2)) pd_int) pda_nil)) rfl)) (blkOk_by (by kernel_rfl)) (pdg_name (i := 3)) (by simp) (fun _ => pdts_nil) (fun _ => (pd_callC (w_pick x) (Nat.le_of_ble_eq_true rfl) x.m_pick (pda_cons (pd_var (i := 0)) (pda_cons (pd_var (i := 1)) pda_nil)) rfl))))))
theorem w_row (x : Fx P w K mg base) : Ca (bz P w K mg base) 3 (He.fAd K ("_law_row", none)) ["_law_pen_here", "_law_deeds_here", "_law_most"] F_row [] := ca_pop x.f_row sc_row (t_row x) fun _ _ _ _ _ _ us hl => match us, hl with | [_, _, _], _ => rfl
theorem sc_stretches : FnScope ["_law_pen_here", "_law_deeds_here", "_law_looks", "_law_most", "_law_k"] ["_law_pen_here", "_law_deeds_here", "_law_looks", "_law_most"] (defScope s_stretches) := ⟨rfl, rfl, rfl, by decide +kernel, rfl, by decide +kernel, by decide +kernel⟩
theorem t_stretches (x : Fx P w K mg base) (rv : List Addr) : PSDs ((bz P w K mg base).dfn ["_law_pen_here", "_law_deeds_here", "_law_looks", "_law_most", "_law_k"] (defScope s_stretches) 3 rv) (defBody s_stretches) d_stretches :=
  (psd_one (psd_ret (pd_tup x.n_tuple (pd_lc (own := [("_law_k", 4)]) (fun _ => fin_lst) (pdi_range1 x.n_range (pd_var (i := 2))) (blkOk_by (by kernel_rfl)) (pdg_name (i := 4)) (by simp) (fun _ => pdts_nil) (fun _ => (pd_callC (w_row x) (Nat.le_of_ble_eq_true rfl) x.m_row (pda_cons (pd_var (i := 0)) (pda_cons (pd_var (i := 1)) (pda_cons (pd_var (i := 3)) pda_nil))) rfl))))))
theorem w_stretches (x : Fx P w K mg base) : Ca (bz P w K mg base) 4 (He.fAd K ("_law_stretches", none)) ["_law_pen_here", "_law_deeds_here", "_law_looks", "_law_most"] F_stretches [] := ca_pop x.f_stretches sc_stretches (t_stretches x) fun _ _ _ _ _ _ us hl => match us, hl with | [_, _, _, _], _ => rfl
theorem sc_is_integer : FnScope ["value"] ["value"] (defScope s_is_integer) := ⟨rfl, rfl, rfl, by decide +kernel, rfl, by decide +kernel, by decide +kernel⟩
theorem t_is_integer (x : Fx P w K mg base) (rv : List Addr) : PSDs ((bz P w K mg base).dfn ["value"] (defScope s_is_integer) 0 rv) (defBody s_is_integer) d_is_integer :=
  (psd_one (psd_ret (pd_and (pd_isiB x.n_isinstance x.n_int (by decide +kernel) isi_int (pd_var (i := 0))) (pd_one (pd_not (pd_isiB x.n_isinstance x.n_bool (by decide +kernel) isi_bool (pd_var (i := 0))))))))
theorem w_is_integer (x : Fx P w K mg base) : Ca (bz P w K mg base) 1 (He.fAd K ("is_integer", none)) ["value"] F_is_integer [] := ca_pop x.f_is_integer sc_is_integer (t_is_integer x) fun _ _ _ _ _ _ us hl => match us, hl with | [_], _ => rfl
theorem sc_is_within : FnScope ["value", "low", "high"] ["value", "low", "high"] (defScope s_is_within) := ⟨rfl, rfl, rfl, by decide +kernel, rfl, by decide +kernel, by decide +kernel⟩
theorem t_is_within (x : Fx P w K mg base) (rv : List Addr) : PSDs ((bz P w K mg base).dfn ["value", "low", "high"] (defScope s_is_within) 1 rv) (defBody s_is_within) d_is_within :=
  (psd_one (psd_ret (pd_and (pd_callC (w_is_integer x) (Nat.le_of_ble_eq_true rfl) x.m_is_integer (pda_cons (pd_var (i := 0)) pda_nil) rfl) (pd_one (pd_leLe (pd_var (i := 1)) (pd_var (i := 0)) (pd_var (i := 2)))))))
theorem w_is_within (x : Fx P w K mg base) : Ca (bz P w K mg base) 2 (He.fAd K ("is_within", none)) ["value", "low", "high"] F_is_within [] := ca_pop x.f_is_within sc_is_within (t_is_within x) fun _ _ _ _ _ _ us hl => match us, hl with | [_, _, _], _ => rfl
theorem sc_History_cut : FnScope ["cls", "row", "places", "index", "deed", "last", "stretches", "place"] ["cls", "row", "places"] (defScope s_History_cut) := ⟨rfl, rfl, rfl, by decide +kernel, rfl, by decide +kernel, by decide +kernel⟩
theorem t_History_cut (x : Fx P w K mg base) (rv : List Addr) : PSDs ((bz P w K mg base).dfn ["cls", "row", "places", "index", "deed", "last", "stretches", "place"] (defScope s_History_cut) 4 rv) (defBody s_History_cut) d_History_cut :=
  (psd_cons (psd_for (pdi_enum x.n_enumerate (pd_var (i := 1))) (pdg_two (i := 3) (j := 4))
  (psd_one (psd_if (pdt_not (pdt_truth (pd_callC (w_is_word x) (Nat.le_of_ble_eq_true rfl) x.m_is_word (pda_cons (pd_var (i := 4)) pda_nil) rfl)))
  (psd_one (psd_raise (c := 1) (ns := ["index"]) x.xa_BadDeeds (Nat.le_of_ble_eq_true rfl) x.k_BadDeeds (pda_cons (pd_var (i := 3)) pda_nil) rfl))
  psd_nil)))
  (psd_cons (psd_set (i := 5) pd_int)
  (psd_cons (psd_set (i := 6) (pd_lstDL pda_nil))
  (psd_cons (psd_for (pdi_enum x.n_enumerate (pd_var (i := 2))) (pdg_two (i := 3) (j := 7))
  (psd_cons (psd_if (pdt_not (pdt_truth (pd_callC (w_is_within x) (Nat.le_of_ble_eq_true rfl) x.m_is_within (pda_cons (pd_var (i := 7)) (pda_cons (pd_var (i := 5)) (pda_cons (pd_len x.n_len (pd_var (i := 1))) pda_nil))) rfl)))
  (psd_one (psd_raise (c := 2) (ns := ["index"]) x.xa_BadPlace (Nat.le_of_ble_eq_true rfl) x.k_BadPlace (pda_cons (pd_var (i := 3)) pda_nil) rfl))
  psd_nil)
  (psd_cons (psd_expr (pd_append (pd_var (i := 6)) (pd_slLU (pd_var (i := 1)) (pd_var (i := 5)) (pd_var (i := 7)))))
  (psd_one (psd_set (i := 5) (pd_var (i := 7)))))))
  (psd_one (psd_ret (pd_makeV (i := 0) (c := 0) x.mk_History (w_History_init_2 x) (Nat.le_of_ble_eq_true rfl) (pda_cons (pd_var (i := 6)) pda_nil) rfl)))))))
theorem w_History_cut (x : Fx P w K mg base) : Ca (bz P w K mg base) 5 (getAd K ("History", "cut")) ["cls", "row", "places"] F_History_cut [] := ca_pop x.f_History_cut sc_History_cut (t_History_cut x) fun _ _ _ _ _ _ us hl => match us, hl with | [_, _, _], _ => rfl
theorem sc_cut : FnScope ["_law_row_here", "_law_places", "_law_found", "_law_last", "_law_k", "_law_place"] ["_law_row_here", "_law_places"] (defScope s_cut) := ⟨rfl, rfl, rfl, by decide +kernel, rfl, by decide +kernel, by decide +kernel⟩
theorem t_cut (x : Fx P w K mg base) (rv : List Addr) : PSDs ((bz P w K mg base).dfn ["_law_row_here", "_law_places", "_law_found", "_law_last", "_law_k", "_law_place"] (defScope s_cut) 0 rv) (defBody s_cut) d_cut :=
  (psd_cons (psd_par (i := 2) (j := 3) (pd_lstDL pda_nil) pd_int)
  (psd_cons (psd_for (pdi_range1 x.n_range (pd_len x.n_len (pd_var (i := 1)))) (pdg_name (i := 4))
  (psd_cons (psd_set (i := 5) (pd_ix (pd_var (i := 1)) (pd_var (i := 4))))
  (psd_cons (psd_if (pdt_w (pdw_or (pdt_not (pdt_truth (pd_isiB x.n_isinstance x.n_int (by decide +kernel) isi_int (pd_var (i := 5))))) (pdw_or (pdt_truth (pd_isiB x.n_isinstance x.n_bool (by decide +kernel) isi_bool (pd_var (i := 5)))) (pdw_or1 (pdt_not (pdt_leLe (pd_var (i := 3)) (pd_var (i := 5)) (pd_len x.n_len (pd_var (i := 0)))))))))
  (psd_one (psd_ret (pd_tupD (pda_cons pd_str (pda_cons (pd_var (i := 4)) pda_nil)))))
  psd_nil)
  (psd_cons (psd_expr (pd_append (pd_var (i := 2)) (pd_slLU (pd_var (i := 0)) (pd_var (i := 3)) (pd_var (i := 5)))))
  (psd_one (psd_set (i := 3) (pd_var (i := 5))))))))
  (psd_one (psd_ret (pd_tupD (pda_cons pd_str (pda_cons (pd_tup x.n_tuple (pd_var (i := 2))) pda_nil)))))))
theorem w_cut (x : Fx P w K mg base) : Ca (bz P w K mg base) 1 (He.fAd K ("_law_cut", none)) ["_law_row_here", "_law_places"] F_cut [] := ca_pop x.f_cut sc_cut (t_cut x) fun _ _ _ _ _ _ us hl => match us, hl with | [_, _], _ => rfl
theorem sc_deeds : FnScope ["_law_pen_here", "_law_many", "_law_letters", "_law_found", "_law_stem", "_law_front", "_law_step", "_law_k"] ["_law_pen_here", "_law_many"] (defScope s_deeds) := ⟨rfl, rfl, rfl, by decide +kernel, rfl, by decide +kernel, by decide +kernel⟩
theorem t_deeds (x : Fx P w K mg base) (rv : List Addr) : PSDs ((bz P w K mg base).dfn ["_law_pen_here", "_law_many", "_law_letters", "_law_found", "_law_stem", "_law_front", "_law_step", "_law_k"] (defScope s_deeds) 2 rv) (defBody s_deeds) d_deeds :=
  (psd_cons (psd_par2 (i := 2) (j := 3) pd_str (pd_lstDL pda_nil))
  (psd_cons (psd_set (i := 4) (pd_join pd_str (pd_lc (own := [("_law_k", 7)]) (fun _ => fin_lst) (pdi_range1 x.n_range (pd_callC (w_draw x) (Nat.le_of_ble_eq_true rfl) x.m_draw (pda_cons (pd_var (i := 0)) (pda_cons pd_int pda_nil)) rfl)) (blkOk_by (by kernel_rfl)) (pdg_name (i := 7)) (by simp) (fun _ => pdts_nil) (fun _ => (pd_callC (w_pick x) (Nat.le_of_ble_eq_true rfl) x.m_pick (pda_cons (pd_var (i := 0)) (pda_cons (pd_add (pd_var (i := 2)) pd_str) pda_nil)) rfl)))))
  (psd_cons (psd_par (i := 5) (j := 6) (pd_callC (w_draw x) (Nat.le_of_ble_eq_true rfl) x.m_draw (pda_cons (pd_var (i := 0)) (pda_cons pd_int pda_nil)) rfl) (pd_callC (w_pick x) (Nat.le_of_ble_eq_true rfl) x.m_pick (pda_cons (pd_var (i := 0)) (pda_cons (pd_lstD (pda_cons pd_int (pda_cons pd_int (pda_cons pd_int (pda_cons pd_int (pda_cons pd_int (pda_cons pd_int (pda_cons pd_int (pda_cons pd_int (pda_cons pd_int (pda_cons pd_int (pda_cons pd_int (pda_cons pd_int pda_nil))))))))))))) pda_nil)) rfl))
  (psd_cons (psd_for (pdi_range1 x.n_range (pd_var (i := 1))) (pdg_name (i := 7))
  (psd_one (psd_expr (pd_append (pd_var (i := 3)) (pd_add (pd_add (pd_ix (pd_var (i := 2)) (pd_mod (pd_intf x.n_int (pd_add (pd_var (i := 5)) (pd_mul (pd_var (i := 6)) (pd_var (i := 7))))) pd_int)) (pd_var (i := 4))) (pd_ix (pd_lstD (pda_cons pd_str (pda_cons pd_str (pda_cons pd_str pda_nil)))) (pd_callC (w_draw x) (Nat.le_of_ble_eq_true rfl) x.m_draw (pda_cons (pd_var (i := 0)) (pda_cons pd_int pda_nil)) rfl)))))))
  (psd_one (psd_ret (pd_tup x.n_tuple (pd_var (i := 3)))))))))
theorem w_deeds (x : Fx P w K mg base) : Ca (bz P w K mg base) 3 (He.fAd K ("_law_deeds", none)) ["_law_pen_here", "_law_many"] F_deeds [] := ca_pop x.f_deeds sc_deeds (t_deeds x) fun _ _ _ _ _ _ us hl => match us, hl with | [_, _], _ => rfl
theorem sc_pen : FnScope ["_law_script"] ["_law_script"] (defScope s_pen) := ⟨rfl, rfl, rfl, by decide +kernel, rfl, by decide +kernel, by decide +kernel⟩
theorem t_pen (x : Fx P w K mg base) (rv : List Addr) : PSDs ((bz P w K mg base).dfn ["_law_script"] (defScope s_pen) 0 rv) (defBody s_pen) d_pen :=
  (psd_one (psd_ret (pd_disp (ppz_cons (fun _ => (pd_lst x.n_list (pd_slU (pd_var (i := 0)) pd_int))) (ppz_cons (fun _ => pd_int) (ppz_cons (fun _ => pd_int) ppz_nil))))))
theorem w_pen (x : Fx P w K mg base) : Ca (bz P w K mg base) 1 (He.fAd K ("_law_pen", none)) ["_law_script"] F_pen [] := ca_keep x.f_pen sc_pen (t_pen x) fun _ _ _ _ _ _ us hl => match us, hl with | [_], _ => rfl
theorem sc_law : FnScope ["_law_script", "_law_pen_here", "_law_deeds_here", "_law_lap", "_law_row_here", "_law_places", "_law_at", "_law_odd", "_law_due", "_law_given", "_law_wrong", "_law_rows", "_law_seen", "_law_again", "_law_spoiled_here", "_law_told_here", "_law_k"] ["_law_script"] (defScope s_law) := ⟨rfl, rfl, rfl, by decide +kernel, rfl, by decide +kernel, by decide +kernel⟩
theorem t_law (x : Fx P w K mg base) (rv : List Addr) : PSDs ((bz P w K mg base).dfl ["_law_script", "_law_pen_here", "_law_deeds_here", "_law_lap", "_law_row_here", "_law_places", "_law_at", "_law_odd", "_law_due", "_law_given", "_law_wrong", "_law_rows", "_law_seen", "_law_again", "_law_spoiled_here", "_law_told_here", "_law_k"] (defScope s_law) 7 rv (He.cT K ("law", none)).1 "law") (defBody s_law) d_law :=
  (psd_cons (psd_set (i := 1) (pd_callC (w_pen x) (Nat.le_of_ble_eq_true rfl) x.m_pen (pda_cons (pd_var (i := 0)) pda_nil) rfl))
  (psd_cons (psd_set (i := 2) (pd_callC (w_deeds x) (Nat.le_of_ble_eq_true rfl) x.m_deeds (pda_cons (pd_var (i := 1)) (pda_cons pd_int pda_nil)) rfl))
  (psd_cons (psd_for (pdi_range1 x.n_range pd_int) (pdg_name (i := 3))
  (psd_cons (psd_set (i := 4) (pd_callC (w_row x) (Nat.le_of_ble_eq_true rfl) x.m_row (pda_cons (pd_var (i := 1)) (pda_cons (pd_var (i := 2)) (pda_cons pd_int pda_nil))) rfl))
  (psd_cons (psd_set (i := 5) (pd_sorted x.n_sorted (pd_lc (own := [("_law_k", 16)]) (fun _ => fin_lst) (pdi_range1 x.n_range (pd_callC (w_draw x) (Nat.le_of_ble_eq_true rfl) x.m_draw (pda_cons (pd_var (i := 1)) (pda_cons pd_int pda_nil)) rfl)) (blkOk_by (by kernel_rfl)) (pdg_name (i := 16)) (by simp) (fun _ => pdts_nil) (fun _ => (pd_intf x.n_int (pd_callC (w_draw x) (Nat.le_of_ble_eq_true rfl) x.m_draw (pda_cons (pd_var (i := 1)) (pda_cons (pd_add (pd_len x.n_len (pd_var (i := 4))) pd_int) pda_nil)) rfl))))))
  (psd_cons (psd_if (pdt_eq (pd_callC (w_draw x) (Nat.le_of_ble_eq_true rfl) x.m_draw (pda_cons (pd_var (i := 1)) (pda_cons pd_int pda_nil)) rfl) pd_int)
  (psd_cons (psd_set (i := 6) (pd_callC (w_draw x) (Nat.le_of_ble_eq_true rfl) x.m_draw (pda_cons (pd_var (i := 1)) (pda_cons (pd_add (pd_len x.n_len (pd_var (i := 5))) pd_int) pda_nil)) rfl))
  (psd_cons (psd_set (i := 7) (pd_callC (w_pick x) (Nat.le_of_ble_eq_true rfl) x.m_pick (pda_cons (pd_var (i := 1)) (pda_cons (pd_lstD (pda_cons (pd_neg pd_int) (pda_cons (pd_add (pd_len x.n_len (pd_var (i := 4))) pd_int) (pda_cons pd_non (pda_cons pd_bl (pda_cons pd_str (pda_cons pd_int (pda_cons (pd_len x.n_len (pd_var (i := 4))) pda_nil)))))))) pda_nil)) rfl))
  (psd_one (psd_set (i := 5) (pd_add (pd_add (pd_slU (pd_var (i := 5)) (pd_var (i := 6))) (pd_lstD (pda_cons (pd_var (i := 7)) pda_nil))) (pd_slL (pd_var (i := 5)) (pd_var (i := 6))))))))
  psd_nil)
  (psd_cons (psd_set (i := 8) (pd_callC (w_cut x) (Nat.le_of_ble_eq_true rfl) x.m_cut (pda_cons (pd_var (i := 4)) (pda_cons (pd_var (i := 5)) pda_nil)) rfl))
  (psd_cons (psd_set (i := 9) (pd_ite (pdt_eq (pd_callC (w_draw x) (Nat.le_of_ble_eq_true rfl) x.m_draw (pda_cons (pd_var (i := 1)) (pda_cons pd_int pda_nil)) rfl) pd_int) (pd_lstD (pda_cons (pd_lst x.n_list (pd_var (i := 4))) (pda_cons (pd_lst x.n_list (pd_var (i := 5))) pda_nil))) (pd_lstD (pda_cons (pd_var (i := 4)) (pda_cons (pd_tup x.n_tuple (pd_var (i := 5))) pda_nil)))))
  (psd_cons (psd_if (pdt_ne (pd_metF (k := 5) (cs := [0]) (flt_told x) (fd_stretches x) rfl x.m_told x.tb_law (.head _) (hu_law x) (Nat.le_of_ble_eq_true rfl) (LamX.lamS_by (by kernel_rfl)) (pd_clsM (c := 0) x.k_History x.cm_History_cut (w_History_cut x) (Nat.le_of_ble_eq_true rfl) (pda_cons (pd_ix (pd_var (i := 9)) pd_int) (pda_cons (pd_ix (pd_var (i := 9)) pd_int) pda_nil)) rfl)) (pd_var (i := 8)))
  (psd_one (psd_ret pd_bl))
  psd_nil)
  (psd_cons (psd_set (i := 6) (pd_callC (w_draw x) (Nat.le_of_ble_eq_true rfl) x.m_draw (pda_cons (pd_var (i := 1)) (pda_cons (pd_add (pd_len x.n_len (pd_var (i := 4))) pd_int) pda_nil)) rfl))
  (psd_cons (psd_set (i := 10) (pd_add (pd_add (pd_slU (pd_var (i := 4)) (pd_var (i := 6))) (pd_tupD (pda_cons (pd_callC (w_pick x) (Nat.le_of_ble_eq_true rfl) x.m_pick (pda_cons (pd_var (i := 1)) (pda_cons (pd_lstD (pda_cons pd_str (pda_cons pd_str (pda_cons pd_non (pda_cons pd_str pda_nil))))) pda_nil)) rfl) pda_nil))) (pd_slL (pd_var (i := 4)) (pd_var (i := 6)))))
  (psd_cons (psd_if (pdt_ne (pd_metF (k := 5) (cs := [0]) (flt_told x) (fd_stretches x) rfl x.m_told x.tb_law (.head _) (hu_law x) (Nat.le_of_ble_eq_true rfl) (LamX.lamS_by (by kernel_rfl)) (pd_clsM (c := 0) x.k_History x.cm_History_cut (w_History_cut x) (Nat.le_of_ble_eq_true rfl) (pda_cons (pd_var (i := 10)) (pda_cons (pd_var (i := 5)) pda_nil)) rfl)) (pd_tupD (pda_cons pd_str (pda_cons (pd_var (i := 6)) pda_nil))))
  (psd_one (psd_ret pd_bl))
  psd_nil)
  (psd_cons (psd_set (i := 11) (pd_ite (pdt_eq (pd_ix (pd_var (i := 8)) pd_int) pd_str) (pd_ix (pd_var (i := 8)) pd_int) (pd_callC (w_stretches x) (Nat.le_of_ble_eq_true rfl) x.m_stretches (pda_cons (pd_var (i := 1)) (pda_cons (pd_var (i := 2)) (pda_cons pd_int (pda_cons pd_int pda_nil)))) rfl)))
  (psd_cons (psd_set (i := 12) (pd_callC (w_bars x) (Nat.le_of_ble_eq_true rfl) x.m_bars (pda_cons (pd_var (i := 11)) pda_nil) rfl))
  (psd_cons (psd_if (pdt_w (pdw_or (pdt_ne (pd_prop (c := 0) (pa := prpAd K ("History", "text")) (pd_makeC (c := 0) x.mk_History (w_History_init_2 x) (Nat.le_of_ble_eq_true rfl) x.k_History (pda_cons (pd_var (i := 11)) pda_nil) rfl) x.cl_History x.pr_History_text (w_History_text x) (Nat.le_of_ble_eq_true rfl) rfl) (pd_var (i := 12))) (pdw_or1 (pdt_ne (pd_metF (k := 5) (cs := [0]) (flt_told x) (fd_stretches x) rfl x.m_told x.tb_law (.head _) (hu_law x) (Nat.le_of_ble_eq_true rfl) (LamX.lamS_by (by kernel_rfl)) (pd_clsM (c := 0) x.k_History x.cm_History_read (w_History_read x) (Nat.le_of_ble_eq_true rfl) (pda_cons (pd_var (i := 12)) pda_nil) rfl)) (pd_tupD (pda_cons pd_str (pda_cons (pd_var (i := 11)) pda_nil)))))))
  (psd_one (psd_ret pd_bl))
  psd_nil)
  (psd_one (psd_for (pdi_range1 x.n_range pd_int) (pdg_name (i := 13))
  (psd_cons (psd_set (i := 14) (pd_callC (w_spoiled x) (Nat.le_of_ble_eq_true rfl) x.m_spoiled (pda_cons (pd_var (i := 1)) (pda_cons (pd_var (i := 12)) pda_nil)) rfl))
  (psd_cons (psd_set (i := 15) (pd_metF (k := 5) (cs := [0]) (flt_told x) (fd_stretches x) rfl x.m_told x.tb_law (.head _) (hu_law x) (Nat.le_of_ble_eq_true rfl) (LamX.lamS_by (by kernel_rfl)) (pd_clsM (c := 0) x.k_History x.cm_History_read (w_History_read x) (Nat.le_of_ble_eq_true rfl) (pda_cons (pd_var (i := 14)) pda_nil) rfl)))
  (psd_one (psd_if (pdt_w (pdw_or (pdt_w (pdw_and (pdt_eq (pd_ix (pd_var (i := 15)) pd_int) pd_str) (pdw_and1 (pdt_ne (pd_callC (w_bars x) (Nat.le_of_ble_eq_true rfl) x.m_bars (pda_cons (pd_ix (pd_var (i := 15)) pd_int) pda_nil) rfl) (pd_var (i := 14)))))) (pdw_or1 (pdt_w (pdw_and (pdt_ne (pd_ix (pd_var (i := 15)) pd_int) pd_str) (pdw_and1 (pdt_ne (pd_var (i := 15)) (pd_tupD (pda_cons pd_str (pda_cons pd_int pda_nil))))))))))
  (psd_one (psd_ret pd_bl))
  psd_nil)))))))))))))))))))
  (psd_one (psd_ret (pd_and (pd_eqC (ea_History x) (Nat.le_of_ble_eq_true rfl) (pd_clsM (c := 0) x.k_History x.cm_History_read (w_History_read x) (Nat.le_of_ble_eq_true rfl) (pda_cons pd_str pda_nil) rfl) (pd_make0C (c := 0) x.mk_History (w_History_init_1 x) (Nat.le_of_ble_eq_true rfl) x.k_History rfl)) (pd_and (pd_eqC (ea_History x) (Nat.le_of_ble_eq_true rfl) (pd_clsM (c := 0) x.k_History x.cm_History_read (w_History_read x) (Nat.le_of_ble_eq_true rfl) (pda_cons pd_str pda_nil) rfl) (pd_makeC (c := 0) x.mk_History (w_History_init_2 x) (Nat.le_of_ble_eq_true rfl) x.k_History (pda_cons (pd_tupD (pda_cons (pd_tupD pda_nil) pda_nil)) pda_nil) rfl)) (pd_one (pd_eq (pd_prop (c := 0) (pa := prpAd K ("History", "text")) (pd_make0C (c := 0) x.mk_History (w_History_init_1 x) (Nat.le_of_ble_eq_true rfl) x.k_History rfl) x.cl_History x.pr_History_text (w_History_text x) (Nat.le_of_ble_eq_true rfl) rfl) pd_str)))))))))
theorem w_law (x : Fx P w K mg base) : Ca (bz P w K mg base) 8 (He.fAd K ("law", none)) ["_law_script"] F_law [] := ca_L (p := ("law", none)) x.f_law (hF_popL sc_law (t_law x)) fun _ _ _ _ _ _ us hl => match us, hl with | [_], _ => rfl
end

end LW

set_option Elab.async false
set_option linter.all false
set_option maxRecDepth 100000
set_option maxHeartbeats 4000000
namespace LW
open PySem L2 BL

theorem fLaw {w : World} {K : PySem.W.Frag} {h : Heap} {mg : Str → Option Value} (X : K.In h) (G : h.Ns mainGlobals mg) (c : He.SaysX fa fn [] tf ex w h K) : mg "law" = some (.ref (He.fAd K ("law", none))) ∧ (∃ fd, FnE K "law" "law" s_law [] (He.fAd K ("law", none)) fd) := ⟨He.glo_ok X G (He.SaysD.facts c.t.d (List.mem_of_getElem? (i := 38) rfl)), He.SaysD.defs c.t.d (d := D_law) (List.mem_of_getElem? (i := 15) rfl)⟩
theorem facts {w : World} {K : PySem.W.Frag} {h : Heap} {mg : Str → Option Value} (X : K.In h) (G : h.Ns mainGlobals mg) (c : He.SaysX fa fn [] tf ex w h K) (cg : (gs.map fun q : Getr => getW K q.1) = gs.map fun q : Getr => He.DefD.val q.2) (base : Heap) (hT : ∀ p ∈ tf.map (He.cT K), LamX.TabB base mg p.1 p.2) : Fx (PySem.Challenge.rw_betweenlooks_k20_histories_cut_and_writt).prog w K mg base := by
  let P := (PySem.Challenge.rw_betweenlooks_k20_histories_cut_and_writt).prog
  have cd := c.t.d
  have hf : ∀ {f : He.Fa} (i : Nat), fa[i]? = some f → f.ok K = true := fun i e => He.SaysD.facts cd (List.mem_of_getElem? e)
  have hd : ∀ {d : He.DefD} (i : Nat), fn[i]? = some d → ∃ fd, FunD K d.name d.qual d.params d.body d.scope (d.dvs K) (d.kws K) (He.fAd K d.at_) fd := fun i e => He.SaysD.defs cd (List.mem_of_getElem? e)
  have e0 : ex K = true := c.more
  obtain ⟨x0, e1⟩ := He.ba e0
  obtain ⟨x1, e2⟩ := He.ba e1
  obtain ⟨x2, e3⟩ := He.ba e2
  obtain ⟨x3, e4⟩ := He.ba e3
  obtain ⟨x4, e5⟩ := He.ba e4
  obtain ⟨x5, e6⟩ := He.ba e5
  obtain ⟨x6, e7⟩ := He.ba e6
  obtain ⟨x7, e8⟩ := He.ba e7
  obtain ⟨x8, e9⟩ := He.ba e8
  obtain ⟨x9, e10⟩ := He.ba e9
  obtain ⟨x10, e11⟩ := He.ba e10
  obtain ⟨x11, e12⟩ := He.ba e11
  obtain ⟨x12, e13⟩ := He.ba e12
  obtain ⟨x13, e14⟩ := He.ba e13
  obtain ⟨x14, e15⟩ := He.ba e14
  obtain ⟨x15, e16⟩ := He.ba e15
  obtain ⟨x16, e17⟩ := He.ba e16
  obtain ⟨x17, e18⟩ := He.ba e17
  obtain ⟨x18, e19⟩ := He.ba e18
  obtain ⟨x19, e20⟩ := He.ba e19
  obtain ⟨x20, e21⟩ := He.ba e20
  obtain ⟨x21, e22⟩ := He.ba e21
  obtain ⟨x22, e23⟩ := He.ba e22
  have h_tb_law : LamX.TabB base mg (He.cT K ("law", none)).1 (He.cT K ("law", none)).2 := hT _ (List.mem_map.mpr ⟨("law", none), List.mem_of_getElem? (i := 0) rfl, rfl⟩)
  have h_n_tuple : mg "tuple" = none := He.free_ok X G (hf 0 rfl)
  have h_cl_History : Cls K (He.ga K "History") := He.cls_ok (hf 1 rfl)
  have h_na_History_stretches : NoAttr K (He.ga K "History") "stretches" := He.noat_ok (hf 2 rfl)
  have h_n_enumerate : mg "enumerate" = none := He.free_ok X G (hf 3 rfl)
  have h_n_isinstance : mg "isinstance" = none := He.free_ok X G (hf 4 rfl)
  have h_n_list : mg "list" = none := He.free_ok X G (hf 5 rfl)
  have h_f_is_row : ∃ fd, FnE K "is_row" "is_row" s_is_row [] (He.fAd K ("is_row", none)) fd := hd (d := D_is_row) 0 rfl
  have h_m_is_row : mg "is_row" = some (.ref (He.fAd K ("is_row", none))) := He.glo_ok X G (hf 6 rfl)
  have h_g_LETTERS : ∃ t, mg "LETTERS" = some (.str "abcdefghijklmnopqrstuvwxyz" t) := He.str_ok X G (hf 7 rfl)
  have h_g_SIGNS : ∃ t, mg "SIGNS" = some (.str "abcdefghijklmnopqrstuvwxyz0123456789" t) := He.str_ok X G (hf 8 rfl)
  have h_n_all : mg "all" = none := He.free_ok X G (hf 9 rfl)
  have h_n_str : mg "str" = none := He.free_ok X G (hf 10 rfl)
  have h_n_len : mg "len" = none := He.free_ok X G (hf 11 rfl)
  have h_g_LONGEST_WORD : ∃ t, mg "LONGEST_WORD" = some (.int 12 t) := He.int_ok X G (hf 12 rfl)
  have h_f_is_word : ∃ fd, FnE K "is_word" "is_word" s_is_word [] (He.fAd K ("is_word", none)) fd := hd (d := D_is_word) 1 rfl
  have h_m_is_word : mg "is_word" = some (.ref (He.fAd K ("is_word", none))) := He.glo_ok X G (hf 13 rfl)
  have h_k_BadStretch : mg "BadStretch" = some (.ref (He.ga K "BadStretch")) := He.glo_ok X G (hf 14 rfl)
  have h_n_super : mg "super" = none := He.free_ok X G (hf 15 rfl)
  have h_xa_BadStretch : ExA (bz P w K mg base) 1 4 ["index"] := exa_ok (b := bz P w K mg base) (c := 4) x0 (by simp) (by decide) (by decide +kernel) (beq_self_eq_true _) (by kernel_rfl) h_n_super (fun _ _ qs _ _ _ _ _ _ _ _ _ _ _ us h1 h2 => match qs, h1, us, h2 with | [_, _], _, [_, _], _ => rfl)
  have h_dt_History_init_0 : tupB K (He.dflAt ("History", some "__init__") 0 K) [] = true := x1
  have h_f_History_init : ∃ fd, FnE K "__init__" "History.__init__" s_History_init [.ref (He.dflAt ("History", some "__init__") 0 K)] (He.fAd K ("History", some "__init__")) fd := hd (d := D_History_init) 2 rfl
  have h_mk_History : Mk K (He.ga K "History") (He.fAd K ("History", some "__init__")) := He.mkr_ok (hf 16 rfl)
  have h_k_BadText : mg "BadText" = some (.ref (He.ga K "BadText")) := He.glo_ok X G (hf 17 rfl)
  have h_xa_BadText : ExA (bz P w K mg base) 1 3 ["line"] := exa_ok (b := bz P w K mg base) (c := 3) x2 (by simp) (by decide) (by decide +kernel) (beq_self_eq_true _) (by kernel_rfl) h_n_super (fun _ _ qs _ _ _ _ _ _ _ _ _ _ _ us h1 h2 => match qs, h1, us, h2 with | [_, _], _, [_, _], _ => rfl)
  have h_f_History_read : ∃ fd, FnE K "read" "History.read" s_History_read [] (getAd K ("History", "read")) fd := getr_fn (q := (("History", "read"), D_History_read)) (getr_at cg (i := 0) rfl) x21
  have h_k_History : mg "History" = some (.ref (He.ga K "History")) := He.glo_ok X G (hf 18 rfl)
  have h_cm_History_read : ClsM K (He.ga K "History") "read" (prpAd K ("History", "read")) (getAd K ("History", "read")) := clsMB_ok x3
  have h_i_History : InsF K (He.ga K "History") := insB_ok h_cl_History x4
  have h_kt_History : kitB' K (He.ga K "History") (([] : List Nat).map (caK K)) = true := x5
  have h_f_History_eq : ∃ fd, FnE K "__eq__" "History.__eq__" s_History_eq [] (He.fAd K ("History", some "__eq__")) fd := hd (d := D_History_eq) 3 rfl
  have h_e_History : EqF K (He.ga K "History") (He.fAd K ("History", some "__eq__")) := eqB_ok x6
  have h_fs_History : firstB K (He.ga K "History") (([] : List Nat).map (caK K)) = true := x7
  have h_f_History_text : ∃ fd, FnE K "text" "History.text" s_History_text [] (getAd K ("History", "text")) fd := getr_fn (q := (("History", "text"), D_History_text)) (getr_at cg (i := 1) rfl) x22
  have h_pr_History_text : PropOf K (He.ga K "History") "text" (prpAd K ("History", "text")) (getAd K ("History", "text")) := prpB_ok x8
  have h_n_range : mg "range" = none := He.free_ok X G (hf 19 rfl)
  have h_f_bars : ∃ fd, FnE K "_law_bars" "_law_bars" s_bars [] (He.fAd K ("_law_bars", none)) fd := hd (d := D_bars) 4 rfl
  have h_m_bars : mg "_law_bars" = some (.ref (He.fAd K ("_law_bars", none))) := He.glo_ok X G (hf 20 rfl)
  have h_k_BadDeeds : mg "BadDeeds" = some (.ref (He.ga K "BadDeeds")) := He.glo_ok X G (hf 21 rfl)
  have h_xa_BadDeeds : ExA (bz P w K mg base) 1 1 ["index"] := exa_ok (b := bz P w K mg base) (c := 1) x9 (by simp) (by decide) (by decide +kernel) (beq_self_eq_true _) (by kernel_rfl) h_n_super (fun _ _ qs _ _ _ _ _ _ _ _ _ _ _ us h1 h2 => match qs, h1, us, h2 with | [_, _], _, [_, _], _ => rfl)
  have h_su_BadDeeds : (([(1, true), (2, false), (3, false), (4, false)] : List (Nat × Bool)).all fun p => decide (PySem.W.exmOne K (.ref (caK K p.1)) (.ref (He.ga K "BadDeeds")) = some p.2)) = true := x10
  have h_xf_BadDeeds : L2.XfC K (He.ga K "BadDeeds") := L2.xfB_ok x11
  have h_nf_BadDeeds_index : PySem.W.findIn K (.ref (He.ga K "BadDeeds")) "index" = some none := of_decide_eq_true x12
  have h_k_BadPlace : mg "BadPlace" = some (.ref (He.ga K "BadPlace")) := He.glo_ok X G (hf 22 rfl)
  have h_xa_BadPlace : ExA (bz P w K mg base) 1 2 ["index"] := exa_ok (b := bz P w K mg base) (c := 2) x13 (by simp) (by decide) (by decide +kernel) (beq_self_eq_true _) (by kernel_rfl) h_n_super (fun _ _ qs _ _ _ _ _ _ _ _ _ _ _ us h1 h2 => match qs, h1, us, h2 with | [_, _], _, [_, _], _ => rfl)
  have h_su_BadPlace : (([(1, false), (2, true), (3, false), (4, false)] : List (Nat × Bool)).all fun p => decide (PySem.W.exmOne K (.ref (caK K p.1)) (.ref (He.ga K "BadPlace")) = some p.2)) = true := x14
  have h_xf_BadPlace : L2.XfC K (He.ga K "BadPlace") := L2.xfB_ok x15
  have h_nf_BadPlace_index : PySem.W.findIn K (.ref (He.ga K "BadPlace")) "index" = some none := of_decide_eq_true x16
  have h_su_BadText : (([(1, false), (2, false), (3, true), (4, false)] : List (Nat × Bool)).all fun p => decide (PySem.W.exmOne K (.ref (caK K p.1)) (.ref (He.ga K "BadText")) = some p.2)) = true := x17
  have h_xf_BadText : L2.XfC K (He.ga K "BadText") := L2.xfB_ok x18
  have h_nf_BadText_line : PySem.W.findIn K (.ref (He.ga K "BadText")) "line" = some none := of_decide_eq_true x19
  have h_f_told : ∃ fd, FnE K "_law_told" "_law_told" s_told [] (He.fAd K ("_law_told", none)) fd := hd (d := D_told) 16 rfl
  have h_m_told : mg "_law_told" = some (.ref (He.fAd K ("_law_told", none))) := He.glo_ok X G (hf 23 rfl)
  have h_n_int : mg "int" = none := He.free_ok X G (hf 24 rfl)
  have h_n_abs : mg "abs" = none := He.free_ok X G (hf 25 rfl)
  have h_f_draw : ∃ fd, FnE K "_law_draw" "_law_draw" s_draw [] (He.fAd K ("_law_draw", none)) fd := hd (d := D_draw) 5 rfl
  have h_m_draw : mg "_law_draw" = some (.ref (He.fAd K ("_law_draw", none))) := He.glo_ok X G (hf 26 rfl)
  have h_f_pick : ∃ fd, FnE K "_law_pick" "_law_pick" s_pick [] (He.fAd K ("_law_pick", none)) fd := hd (d := D_pick) 6 rfl
  have h_m_pick : mg "_law_pick" = some (.ref (He.fAd K ("_law_pick", none))) := He.glo_ok X G (hf 27 rfl)
  have h_f_spoiled : ∃ fd, FnE K "_law_spoiled" "_law_spoiled" s_spoiled [] (He.fAd K ("_law_spoiled", none)) fd := hd (d := D_spoiled) 7 rfl
  have h_m_spoiled : mg "_law_spoiled" = some (.ref (He.fAd K ("_law_spoiled", none))) := He.glo_ok X G (hf 28 rfl)
  have h_f_row : ∃ fd, FnE K "_law_row" "_law_row" s_row [] (He.fAd K ("_law_row", none)) fd := hd (d := D_row) 8 rfl
  have h_m_row : mg "_law_row" = some (.ref (He.fAd K ("_law_row", none))) := He.glo_ok X G (hf 29 rfl)
  have h_f_stretches : ∃ fd, FnE K "_law_stretches" "_law_stretches" s_stretches [] (He.fAd K ("_law_stretches", none)) fd := hd (d := D_stretches) 9 rfl
  have h_m_stretches : mg "_law_stretches" = some (.ref (He.fAd K ("_law_stretches", none))) := He.glo_ok X G (hf 30 rfl)
  have h_n_bool : mg "bool" = none := He.free_ok X G (hf 31 rfl)
  have h_f_is_integer : ∃ fd, FnE K "is_integer" "is_integer" s_is_integer [] (He.fAd K ("is_integer", none)) fd := hd (d := D_is_integer) 10 rfl
  have h_m_is_integer : mg "is_integer" = some (.ref (He.fAd K ("is_integer", none))) := He.glo_ok X G (hf 32 rfl)
  have h_f_is_within : ∃ fd, FnE K "is_within" "is_within" s_is_within [] (He.fAd K ("is_within", none)) fd := hd (d := D_is_within) 11 rfl
  have h_m_is_within : mg "is_within" = some (.ref (He.fAd K ("is_within", none))) := He.glo_ok X G (hf 33 rfl)
  have h_f_History_cut : ∃ fd, FnE K "cut" "History.cut" s_History_cut [] (getAd K ("History", "cut")) fd := getr_fn (q := (("History", "cut"), D_History_cut)) (getr_at cg (i := 2) rfl) e23
  have h_cm_History_cut : ClsM K (He.ga K "History") "cut" (prpAd K ("History", "cut")) (getAd K ("History", "cut")) := clsMB_ok x20
  have h_f_cut : ∃ fd, FnE K "_law_cut" "_law_cut" s_cut [] (He.fAd K ("_law_cut", none)) fd := hd (d := D_cut) 12 rfl
  have h_m_cut : mg "_law_cut" = some (.ref (He.fAd K ("_law_cut", none))) := He.glo_ok X G (hf 34 rfl)
  have h_n_sorted : mg "sorted" = none := He.free_ok X G (hf 35 rfl)
  have h_f_deeds : ∃ fd, FnE K "_law_deeds" "_law_deeds" s_deeds [] (He.fAd K ("_law_deeds", none)) fd := hd (d := D_deeds) 13 rfl
  have h_m_deeds : mg "_law_deeds" = some (.ref (He.fAd K ("_law_deeds", none))) := He.glo_ok X G (hf 36 rfl)
  have h_f_pen : ∃ fd, FnE K "_law_pen" "_law_pen" s_pen [] (He.fAd K ("_law_pen", none)) fd := hd (d := D_pen) 14 rfl
  have h_m_pen : mg "_law_pen" = some (.ref (He.fAd K ("_law_pen", none))) := He.glo_ok X G (hf 37 rfl)
  have h_f_law : ∃ fd, FnE K "law" "law" s_law [] (He.fAd K ("law", none)) fd := hd (d := D_law) 15 rfl
  have h_m_law : mg "law" = some (.ref (He.fAd K ("law", none))) := He.glo_ok X G (hf 38 rfl)
  exact ⟨h_tb_law, h_n_tuple, h_cl_History, h_na_History_stretches, h_n_enumerate, h_n_isinstance, h_n_list, h_f_is_row, h_m_is_row, h_g_LETTERS, h_g_SIGNS, h_n_all, h_n_str, h_n_len, h_g_LONGEST_WORD, h_f_is_word, h_m_is_word, h_k_BadStretch, h_n_super, h_xa_BadStretch, h_dt_History_init_0, h_f_History_init, h_mk_History, h_k_BadText, h_xa_BadText, h_f_History_read, h_k_History, h_cm_History_read, h_i_History, h_kt_History, h_f_History_eq, h_e_History, h_fs_History, h_f_History_text, h_pr_History_text, h_n_range, h_f_bars, h_m_bars, h_k_BadDeeds, h_xa_BadDeeds, h_su_BadDeeds, h_xf_BadDeeds, h_nf_BadDeeds_index, h_k_BadPlace, h_xa_BadPlace, h_su_BadPlace, h_xf_BadPlace, h_nf_BadPlace_index, h_su_BadText, h_xf_BadText, h_nf_BadText_line, h_f_told, h_m_told, h_n_int, h_n_abs, h_f_draw, h_m_draw, h_f_pick, h_m_pick, h_f_spoiled, h_m_spoiled, h_f_row, h_m_row, h_f_stretches, h_m_stretches, h_n_bool, h_f_is_integer, h_m_is_integer, h_f_is_within, h_m_is_within, h_f_History_cut, h_cm_History_cut, h_f_cut, h_m_cut, h_n_sorted, h_f_deeds, h_m_deeds, h_f_pen, h_m_pen, h_f_law, h_m_law⟩
end LW

set_option Elab.async false
set_option linter.all false
set_option maxRecDepth 100000
set_option maxHeartbeats 0

open PySem PySem.W PySem.Calls PyProof.Rows
theorem PySem.Challenge.cw_betweenlooks_k20_histories_cut_and_writt_holds : PySem.Challenge.rw_betweenlooks_k20_histories_cut_and_writt.Holds := by
  w_on; o_law
  refine HandSHeadRun.head_any (r := OpenLaw.row PySem.Challenge.rw_betweenlooks_k20_histories_cut_and_writt) (q := view (OpenLaw.row PySem.Challenge.rw_betweenlooks_k20_histories_cut_and_writt).prog [29]) (H := LW.hk) (ob := LW.ob) (M := 60000) (loose := LW.names) (d := HandSHeadRun.topDef (OpenLaw.row PySem.Challenge.rw_betweenlooks_k20_histories_cut_and_writt).prog 29) (kwd := []) LW.ob_eq
    (by kernel_rfl) (fun s => by kernel_rfl) LW.run (by kernel_rfl) (by kernel_rfl) (by kernel_rfl) (by rfl) (by first | assumption | decide +kernel) (by decide +kernel) ⟨rfl, rfl, rfl, rfl, rfl, by decide +kernel⟩ ?hw ?hc
  case hw => w_witness2
  case hc =>
    refine LamX.walk_ofTsE (l := PySem.Challenge.rw_betweenlooks_k20_histories_cut_and_writt) (n := 63) (k := 8) (x := "_law_script") (CX := fun _ => L2.CX0) rfl (by decide) (by kernel_rfl) ⟨rfl, by decide, by decide⟩ ?F (fun _ _ _ _ _ z => z)
    intro w mg fa h Y G hmg0
    obtain ⟨K, KX, c, cg⟩ := Y
    have hmg : mg ("law" : PySem.Str) = some (.ref fa) := by
      have e : (HandSHeadRun.topDef (OpenLaw.row PySem.Challenge.rw_betweenlooks_k20_histories_cut_and_writt).prog 29).name = ("law" : PySem.Str) := by kernel_rfl
      rw [← e]
      exact hmg0
    obtain ⟨m0, f0⟩ := LW.fLaw KX G c
    have ea := hmg.symm.trans m0
    cases ea
    obtain ⟨fd, Fn⟩ := f0
    have hb := L2.FunD.bindsA (ps := ["_law_script"]) Fn fun _ _ _ _ _ _ us hl => match us, hl with | [_], _ => rfl
    refine ⟨K, KX, fd, LW.tf.map (He.cT K), BL.spLT K 63 ((LW.tbL K).map (·.1)), ?_, ?_, ?_, fun s v => hb s [v] rfl, fun H a ns hl _ hO hS => ⟨a, ns, rfl, hl, ?_, hS, fun _ => rfl⟩, fun base _ _ hT => ?_⟩
    · intro p hp
      obtain ⟨q, hq, rfl⟩ := List.mem_map.mp hp
      exact c.empty q hq
    · intro p hp
      obtain ⟨q, hq, rfl⟩ := List.mem_map.mp hp
      exact c.out q hq
    · intro p hp
      obtain ⟨q, hq, rfl⟩ := List.mem_map.mp hp
      exact PySem.W.codeHd_of_K KX (c.hd q hq)
    · intro p hp
      obtain ⟨q, hq, rfl⟩ := List.mem_map.mp hp
      simp only [LW.tbL, List.mem_cons, List.not_mem_nil, or_false] at hq
      rcases hq with rfl
      · exact hO (He.cT K ("law", none)) (List.mem_map.mpr ⟨("law", none), List.mem_of_getElem? (i := 0) rfl, rfl⟩)
    exact BL.law_okT (Z := LW.bz (PySem.Challenge.rw_betweenlooks_k20_histories_cut_and_writt).prog w K mg base) (BL.hF_popL LW.sc_law (LW.t_law (LW.facts KX G c cg base hT)) fd Fn (BL.code_of Fn)) (by decide) LW.law_true
