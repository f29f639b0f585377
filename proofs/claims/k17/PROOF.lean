import PyProof.Rows.All
import Wide.All
import OpenK.AllK
import Wide.FinOn
import HandS.ForMost
import HandS.ForExc
import HandS.CallSlots
import HandS.Wide
import HandS.IsInst
import HandS.Flow
import HandS.Zip
import HandS.Defaults
import HandS.Deep
import HandS.Codes
import HandS.Dict
import HandS.More
import HandS.BoundDict
import HandS.Small
import HandS.Replace
import HandS.WordsExc
import HandS.Ends
import HandS.ReplaceList
import PySem.Challenge.RW_snapsure_k17_beside_one_another
set_option Elab.async false
set_option linter.all false
set_option maxRecDepth 100000
set_option maxHeartbeats 4000000
/-! Sn: data as trees, slots by content, the heap by a part that never changes and parts that are owned. -/
namespace Sn
open PySem L2
/-- data, as trees -/
inductive D where
  | non | bl (b : Bool) | int (i : Int) | str (x : Str)
  | lst (xs : List D) | tup (xs : List D)
  | dic (kvs : List (Key × D))
  /-- a list, a tuple that is only read: the script, a constant of the top -/
  | rl (xs : List D) | rt (xs : List D)
  /-- a value as it is -/
  | val (v : V)
mutual
def Rp (K : PySem.W.Frag) (F : Hp) : D → V → Prop
  | .non, v => v = .non
  | .bl b, v => v = .bl b
  | .int i, v => v = .int i
  | .str x, v => v = .str x
  | .lst ds, v => ∃ a xs, v = .ref a ∧ F a = some (.lst xs) ∧ RpA K F ds xs
  | .tup ds, v => ∃ a xs, v = .ref a ∧ F a = some (.tup xs) ∧ RpA K F ds xs
  | .dic kvs, v => ∃ a kws, v = .ref a ∧ F a = some (.dK kws) ∧ RpK K F kvs kws
  | .rl ds, v => ∃ a xs, v = .ref a ∧ SqL K F a xs ∧ RpA K F ds xs
  | .rt ds, v => ∃ a xs, v = .ref a ∧ SqT K F a xs ∧ RpA K F ds xs
  | .val w, v => v = w
def RpA (K : PySem.W.Frag) (F : Hp) : List D → List V → Prop
  | [], vs => vs = []
  | d :: ds, vs => ∃ v r, vs = v :: r ∧ Rp K F d v ∧ RpA K F ds r
def RpK (K : PySem.W.Frag) (F : Hp) : List (Key × D) → List (Key × V) → Prop
  | [], vs => vs = []
  | (k, d) :: ds, vs => ∃ v r, vs = (k, v) :: r ∧ Rp K F d v ∧ RpK K F ds r
end
section
variable {K : PySem.W.Frag} {F F' : Hp}
theorem sqT_mono {a : Addr} {xs : List V} (e : Same F F') (h : SqT K F a xs) : SqT K F' a xs := by
  rcases h with (h | ⟨o, h⟩) | h
  · exact .inl (.inl (e _ _ h))
  · exact .inl (.inr ⟨o, e _ _ h⟩)
  · exact .inr h
mutual
theorem Rp.mono (e : Same F F') : ∀ (d : D) (v : V), Rp K F d v → Rp K F' d v
  | .non, v, h => h
  | .bl b, v, h => h
  | .int i, v, h => h
  | .str x, v, h => h
  | .lst ds, v, h => by
    obtain ⟨a, xs, h1, h2, h3⟩ := h
    exact ⟨a, xs, h1, e _ _ h2, RpA.mono e ds xs h3⟩
  | .tup ds, v, h => by
    obtain ⟨a, xs, h1, h2, h3⟩ := h
    exact ⟨a, xs, h1, e _ _ h2, RpA.mono e ds xs h3⟩
  | .dic kvs, v, h => by
    obtain ⟨a, xs, h1, h2, h3⟩ := h
    exact ⟨a, xs, h1, e _ _ h2, RpK.mono e kvs xs h3⟩
  | .rl ds, v, h => by
    obtain ⟨a, xs, h1, h2, h3⟩ := h
    exact ⟨a, xs, h1, e.seq h2, RpA.mono e ds xs h3⟩
  | .rt ds, v, h => by
    obtain ⟨a, xs, h1, h2, h3⟩ := h
    exact ⟨a, xs, h1, sqT_mono e h2, RpA.mono e ds xs h3⟩
  | .val w, v, h => h
theorem RpA.mono (e : Same F F') : ∀ (ds : List D) (vs : List V), RpA K F ds vs → RpA K F' ds vs
  | [], vs, h => h
  | d :: ds, vs, h => by
    obtain ⟨v, r, h1, h2, h3⟩ := h
    exact ⟨v, r, h1, Rp.mono e d v h2, RpA.mono e ds r h3⟩
theorem RpK.mono (e : Same F F') : ∀ (ds : List (Key × D)) (vs : List (Key × V)), RpK K F ds vs → RpK K F' ds vs
  | [], vs, h => h
  | (k, d) :: ds, vs, h => by
    obtain ⟨v, r, h1, h2, h3⟩ := h
    exact ⟨v, r, h1, Rp.mono e d v h2, RpK.mono e ds r h3⟩
end
theorem RpA.length : ∀ {ds : List D} {vs : List V}, RpA K F ds vs → vs.length = ds.length
  | [], vs, h => by cases (show vs = [] from h); rfl
  | d :: ds, vs, h => by
    obtain ⟨v, r, rfl, _, h3⟩ := h
    rw [List.length_cons, List.length_cons, RpA.length h3]
theorem RpA.get : ∀ {ds : List D} {vs : List V} {i : Nat} {d : D}, RpA K F ds vs → ds[i]? = some d → ∃ v, vs[i]? = some v ∧ Rp K F d v
  | [], vs, i, d, h, e => by simp at e
  | d0 :: ds, vs, 0, d, h, e => by
    obtain ⟨v, r, rfl, h2, h3⟩ := h
    simp at e
    subst e
    exact ⟨v, rfl, h2⟩
  | d0 :: ds, vs, i + 1, d, h, e => by
    obtain ⟨v, r, rfl, h2, h3⟩ := h
    obtain ⟨w, h4, h5⟩ := RpA.get (i := i) h3 (by simpa using e)
    exact ⟨w, by simpa using h4, h5⟩
theorem RpA.append : ∀ {ds es : List D} {vs ws : List V}, RpA K F ds vs → RpA K F es ws → RpA K F (ds ++ es) (vs ++ ws)
  | [], es, vs, ws, h, h' => by cases (show vs = [] from h); exact h'
  | d :: ds, es, vs, ws, h, h' => by
    obtain ⟨v, r, rfl, h2, h3⟩ := h
    exact ⟨v, r ++ ws, rfl, h2, RpA.append h3 h'⟩
theorem RpA.one {d : D} {v : V} (h : Rp K F d v) : RpA K F [d] [v] := ⟨v, [], rfl, h, rfl⟩
theorem RpA.drop : ∀ {ds : List D} {vs : List V} (n : Nat), RpA K F ds vs → RpA K F (ds.drop n) (vs.drop n)
  | ds, vs, 0, h => h
  | [], vs, n + 1, h => by cases (show vs = [] from h); rfl
  | d :: ds, vs, n + 1, h => by
    obtain ⟨v, r, rfl, h2, h3⟩ := h
    exact RpA.drop n h3
theorem RpA.take : ∀ {ds : List D} {vs : List V} (n : Nat), RpA K F ds vs → RpA K F (ds.take n) (vs.take n)
  | ds, vs, 0, h => rfl
  | [], vs, n + 1, h => by cases (show vs = [] from h); rfl
  | d :: ds, vs, n + 1, h => by
    obtain ⟨v, r, rfl, h2, h3⟩ := h
    exact ⟨v, r.take n, rfl, h2, RpA.take n h3⟩
theorem RpA.set {d : D} {v : V} (hd : Rp K F d v) : ∀ {ds : List D} {vs : List V} (n : Nat), RpA K F ds vs → RpA K F (ds.set n d) (vs.set n v)
  | [], vs, n, h => by cases (show vs = [] from h); rfl
  | d0 :: ds, vs, 0, h => by
    obtain ⟨w, r, rfl, h2, h3⟩ := h
    exact ⟨v, r, rfl, hd, h3⟩
  | d0 :: ds, vs, n + 1, h => by
    obtain ⟨w, r, rfl, h2, h3⟩ := h
    exact ⟨w, r.set n v, rfl, h2, RpA.set hd n h3⟩
end
/-- what a slot holds: data; a list of data (w: it may be changed); a dict of data; something that others speak of -/
inductive A where
  | d (x : D)
  | l (w : Bool) (xs : List D)
  | m (kvs : List (Key × D))
  | ob (n : Nat) (s : D)
abbrev Env := List (Option A)
def A.own : A → Bool
  | .d _ => false
  | _ => true
/-- how others are laid: kind, state, value, the part that never changes, the heap, the addresses that are its own -/
abbrev OR := PySem.W.Frag → Nat → D → V → Hp → Hp → (Addr → Prop) → Prop
/-- lists of one's own, each at its key -/
def GrR (K : PySem.W.Frag) (F H : Hp) : List (Key × D) → List (Key × V) → (Addr → Prop) → Prop
  | [], kws, S => kws = [] ∧ ∀ b, ¬ S b
  | (k, d) :: r, kws, S => ∃ ds q vs kws' S', d = .lst ds ∧ kws = (k, .ref q) :: kws' ∧ H q = some (.lst vs) ∧ RpA K F ds vs ∧ GrR K F H r kws' S' ∧ ¬ S' q ∧ ∀ b, S b ↔ b = q ∨ S' b
/-- a dict of lists, all its own -/
def OG (K : PySem.W.Frag) (s : D) (v : V) (F H : Hp) (S : Addr → Prop) : Prop := ∃ kvs p kws S', s = .dic kvs ∧ v = .ref p ∧ H p = some (.dK kws) ∧ GrR K F H kvs kws S' ∧ ¬ S' p ∧ ∀ b, S b ↔ b = p ∨ S' b
structure ORok (O : OR) : Prop where
  mono : ∀ K n s v F F' H H' S, O K n s v F H S → Same F F' → (∀ b, S b → H' b = H b) → O K n s v F' H' S
  there : ∀ K n s v F H S b, O K n s v F H S → S b → H b ≠ none
  og : ∀ K s v F H S, O K 0 s v F H S ↔ OG K s v F H S
theorem GrR.mono {K : PySem.W.Frag} {F F' H H' : Hp} (e : Same F F') : ∀ {kvs : List (Key × D)} {kws : List (Key × V)} {S : Addr → Prop}, GrR K F H kvs kws S → (∀ b, S b → H' b = H b) → GrR K F' H' kvs kws S
  | [], kws, S, h, k => h
  | (j, d) :: r, kws, S, h, k => by
    obtain ⟨ds, q, vs, kws', S', h1, h2, h3, h4, h5, h6, h7⟩ := h
    exact ⟨ds, q, vs, kws', S', h1, h2, by rw [k q ((h7 q).mpr (.inl rfl))]; exact h3, RpA.mono e _ _ h4, GrR.mono e h5 fun b hb => k b ((h7 b).mpr (.inr hb)), h6, h7⟩
theorem GrR.there {K : PySem.W.Frag} {F H : Hp} : ∀ {kvs : List (Key × D)} {kws : List (Key × V)} {S : Addr → Prop} {b : Addr}, GrR K F H kvs kws S → S b → H b ≠ none
  | [], kws, S, b, h, k => (h.2 b k).elim
  | (j, d) :: r, kws, S, b, h, k => by
    obtain ⟨ds, q, vs, kws', S', h1, h2, h3, h4, h5, h6, h7⟩ := h
    rcases (h7 b).mp k with e | e
    · rw [e, h3]; exact fun z => nomatch z
    · exact GrR.there h5 e
/-- the one kind that is used -/
def OD : OR := fun K n s v F H S => n = 0 ∧ OG K s v F H S
theorem od_ok : ORok OD where
  mono := fun K n s v F F' H H' S h e k => by
    obtain ⟨rfl, kvs, p, kws, S', h1, h2, h3, h4, h5, h6⟩ := h
    exact ⟨rfl, kvs, p, kws, S', h1, h2, by rw [k p ((h6 p).mpr (.inl rfl))]; exact h3, h4.mono e fun b hb => k b ((h6 b).mpr (.inr hb)), h5, h6⟩
  there := fun K n s v F H S b h k => by
    obtain ⟨rfl, kvs, p, kws, S', h1, h2, h3, h4, h5, h6⟩ := h
    rcases (h6 b).mp k with e | e
    · rw [e, h3]; exact fun z => nomatch z
    · exact h4.there e
  og := fun K s v F H S => ⟨fun h => h.2, fun h => ⟨rfl, h⟩⟩
def RepA (K : PySem.W.Frag) (O : OR) (F H : Hp) (v : V) : A → (Addr → Prop) → Prop
  | .d x, S => Rp K F x v ∧ ∀ b, ¬ S b
  | .l _ xs, S => ∃ p vs, v = .ref p ∧ H p = some (.lst vs) ∧ RpA K F xs vs ∧ ∀ b, S b ↔ b = p
  | .m kvs, S => ∃ p kws, v = .ref p ∧ H p = some (.dK kws) ∧ RpK K F kvs kws ∧ ∀ b, S b ↔ b = p
  | .ob n s, S => O K n s v F H S
theorem RepA.mono {K : PySem.W.Frag} {O : OR} (ok : ORok O) {F F' H H' : Hp} {v : V} {a : A} {S : Addr → Prop} (h : RepA K O F H v a S) (e : Same F F') (k : ∀ b, S b → H' b = H b) : RepA K O F' H' v a S := by
  cases a with
  | d x => exact ⟨Rp.mono e _ _ h.1, h.2⟩
  | l w xs =>
    obtain ⟨p, vs, h1, h2, h3, h4⟩ := h
    exact ⟨p, vs, h1, by rw [k p ((h4 p).mpr rfl)]; exact h2, RpA.mono e _ _ h3, h4⟩
  | m kvs =>
    obtain ⟨p, vs, h1, h2, h3, h4⟩ := h
    exact ⟨p, vs, h1, by rw [k p ((h4 p).mpr rfl)]; exact h2, RpK.mono e _ _ h3, h4⟩
  | ob n s => exact ok.mono _ _ _ _ _ _ _ _ _ h e k
theorem RepA.there {K : PySem.W.Frag} {O : OR} (ok : ORok O) {F H : Hp} {v : V} {a : A} {S : Addr → Prop} (h : RepA K O F H v a S) {b : Addr} (hb : S b) : H b ≠ none := by
  cases a with
  | d x => exact (h.2 b hb).elim
  | l w xs =>
    obtain ⟨p, vs, h1, h2, h3, h4⟩ := h
    rw [(h4 b).mp hb, h2]
    exact fun z => nomatch z
  | m kvs =>
    obtain ⟨p, vs, h1, h2, h3, h4⟩ := h
    rw [(h4 b).mp hb, h2]
    exact fun z => nomatch z
  | ob n s => exact ok.there _ _ _ _ _ _ _ _ h hb
abbrev Fp := Nat → Addr → Prop
/-- the slots sigma hold rho, over the heap H, whose part F never changes; fp i: what slot i owns -/
structure R (K : PySem.W.Frag) (O : OR) (F H : Hp) (rho : Env) (sg : St) (fp : Fp) : Prop where
  sub : Same F H
  len : rho.length = sg.length
  rep : ∀ i a, rho[i]? = some (some a) → ∃ v, sg[i]? = some (some v) ∧ RepA K O F H v a (fp i)
  own : ∀ i b, fp i b → ∃ a, rho[i]? = some (some a) ∧ a.own = true
  fre : ∀ i b, fp i b → F b = none
  dis : ∀ i j b, fp i b → fp j b → i = j
/-- from one state to a later one -/
structure Stp (F H : Hp) (fp : Fp) (F' H' : Hp) (fp' : Fp) : Prop where
  grow : Same F F'
  new : ∀ b, F b = none → H b ≠ none → (∀ i, ¬ fp i b) → F' b = none
  frame : ∀ b o, H b = some o → (∀ i, ¬ fp i b) → H' b = some o
  fps : ∀ i b, fp' i b → (∃ j, fp j b) ∨ H b = none
  stay : ∀ b, H b ≠ none → H' b ≠ none
section
variable {K : PySem.W.Frag} {O : OR} {F H F1 H1 F2 H2 : Hp} {fp fp1 fp2 : Fp} {rho : Env} {sg : St}
theorem Stp.refl (F H : Hp) (fp : Fp) : Stp F H fp F H fp := ⟨fun _ _ h => h, fun _ h _ _ => h, fun _ _ h _ => h, fun i b h => .inl ⟨i, h⟩, fun _ h => h⟩
theorem Stp.trans (a : Stp F H fp F1 H1 fp1) (b : Stp F1 H1 fp1 F2 H2 fp2) : Stp F H fp F2 H2 fp2 where
  grow := a.grow.trans b.grow
  new := fun c h k m => b.new c (a.new c h k m) (a.stay c k) fun i z => by
    rcases a.fps i c z with ⟨j, q⟩ | q
    · exact m j q
    · exact k q
  frame := fun c o h k => b.frame c o (a.frame c o h k) fun i z => by
    rcases a.fps i c z with ⟨j, q⟩ | q
    · exact k j q
    · rw [h] at q; cases q
  fps := fun i c z => by
    rcases b.fps i c z with ⟨j, q⟩ | q
    · exact a.fps j c q
    · by_cases hc : H c = none
      · exact .inr hc
      · exact absurd q (a.stay c hc)
  stay := fun c h => b.stay c (a.stay c h)
theorem upd_at {H : Hp} {p b : Addr} {o : HO} : upd H p o b = if b = p then some o else H b := rfl
/-- a new object that never changes -/
theorem R.frozen (ok : ORok O) (r : R K O F H rho sg fp) {p : Addr} (hp : H p = none) (o : HO) : R K O (upd F p o) (upd H p o) rho sg fp ∧ Stp F H fp (upd F p o) (upd H p o) fp := by
  have hF : F p = none := r.sub.free hp
  have hfp : ∀ i, ¬ fp i p := fun i z => by
    obtain ⟨a, h1, _⟩ := r.own i p z
    obtain ⟨v, _, h2⟩ := r.rep i a h1
    exact h2.there ok z hp
  have gF : Same F (upd F p o) := fun b u e => by rw [upd_ne (ne_of_none e hF)]; exact e
  refine ⟨⟨fun b u e => ?_, r.len, fun i a h => ?_, r.own, fun i b z => ?_, r.dis⟩, gF, fun b h k _ => ?_, fun b u h _ => ?_, fun i b z => .inl ⟨i, z⟩, fun b h => ?_⟩
  · rw [upd_at] at e ⊢
    by_cases hb : b = p
    · rw [if_pos hb] at e ⊢; exact e
    · rw [if_neg hb] at e ⊢; exact r.sub _ _ e
  · obtain ⟨v, h1, h2⟩ := r.rep i a h
    refine ⟨v, h1, h2.mono ok gF fun b z => ?_⟩
    exact upd_ne (show b ≠ p from fun e => hfp i (by rw [← e]; exact z))
  · rw [upd_ne (show b ≠ p from fun e => hfp i (by rw [← e]; exact z))]; exact r.fre i b z
  · rw [upd_ne (show b ≠ p from fun e => k (by rw [e]; exact hp))]; exact h
  · rw [upd_ne (ne_of_none h hp)]; exact h
  · rw [upd_at]; split
    · exact fun z => nomatch z
    · exact h
/-- a new object that is nobody's yet -/
theorem R.laid (ok : ORok O) (r : R K O F H rho sg fp) {p : Addr} (hp : H p = none) (o : HO) : R K O F (upd H p o) rho sg fp ∧ Stp F H fp F (upd H p o) fp := by
  have hF : F p = none := r.sub.free hp
  have hfp : ∀ i, ¬ fp i p := fun i z => by
    obtain ⟨a, h1, _⟩ := r.own i p z
    obtain ⟨v, _, h2⟩ := r.rep i a h1
    exact h2.there ok z hp
  refine ⟨⟨fun b u e => ?_, r.len, fun i a h => ?_, r.own, r.fre, r.dis⟩, Same.refl F, fun b h k _ => h, fun b u h _ => ?_, fun i b z => .inl ⟨i, z⟩, fun b h => ?_⟩
  · rw [upd_ne (ne_of_none e hF)]; exact r.sub _ _ e
  · obtain ⟨v, h1, h2⟩ := r.rep i a h
    refine ⟨v, h1, h2.mono ok (Same.refl F) fun b z => ?_⟩
    exact upd_ne (show b ≠ p from fun e => hfp i (by rw [← e]; exact z))
  · rw [upd_ne (ne_of_none h hp)]; exact h
  · rw [upd_at]; split
    · exact fun z => nomatch z
    · exact h
end
/-- an exception: its class, its own values -/
structure Exn where
  cls : Value
  fs : Option (List (Str × D))
/-- what comes of running: a thing and the slots, an exception and the slots, or no word -/
inductive Rs (α : Type) where
  | ok (a : α) (r : Env)
  | ex (x : Exn) (r : Env)
  | no
def Rs.bind {α β : Type} (m : Rs α) (f : α → Env → Rs β) : Rs β := match m with
  | .ok a r => f a r
  | .ex x r => .ex x r
  | .no => .no
/-- an expression's value: data; something new of one's own; what stands in a slot -/
inductive Rv where
  | d (x : D)
  | n (a : A)
  | v (i : Nat)
abbrev X1 := Env → Rs Rv
abbrev XT := Env → Rs Bool
abbrev XA := Env → Rs (List Rv)
def Rv.at (r : Rv) (rho : Env) : Option A := match r with
  | .d x => some (.d x)
  | .n a => some a
  | .v i => match rho[i]? with
    | some (some a) => some a
    | _ => none
/-- the value of an expression is laid -/
def RepR (K : PySem.W.Frag) (O : OR) (H : Hp) (F' H' : Hp) (fp' : Fp) (sg : St) (v : V) : Rv → Prop
  | .d x => Rp K F' x v
  | .n a => ∃ S, RepA K O F' H' v a S ∧ a.own = true ∧ ∀ b, S b → F' b = none ∧ H b = none ∧ ∀ i, ¬ fp' i b
  | .v i => sg[i]? = some (some v)
def RpX (K : PySem.W.Frag) (F H : Hp) (d : Option Addr) : Option (List (Str × D)) → Prop
  | none => d = none
  | some fs => ∃ a vs, d = some a ∧ H a = some (.xd vs) ∧ vs.map (·.1) = fs.map (·.1) ∧ RpA K F (fs.map (·.2)) (vs.map (·.2))
def tEv (K : PySem.W.Frag) (O : OR) (W : WX) (rho : Env) (m : Rs Rv) : TE := fun sg H Q => ∃ F fp, R K O F H rho sg fp ∧ match m with
  | .ok r rho' => ∀ F' H' fp' v, Stp F H fp F' H' fp' → R K O F' H' rho' sg fp' → RepR K O H F' H' fp' sg v r → Q v H'
  | .ex x rho' => ∀ F' H' fp' d, Stp F H fp F' H' fp' → R K O F' H' rho' sg fp' → RpX K F' H' d x.fs → W x.cls d sg H'
  | .no => False
def tEvT (K : PySem.W.Frag) (O : OR) (W : WX) (rho : Env) (m : Rs Bool) : TT := fun sg H Q => ∃ F fp, R K O F H rho sg fp ∧ match m with
  | .ok b rho' => ∀ F' H' fp', Stp F H fp F' H' fp' → R K O F' H' rho' sg fp' → Q b H'
  | .ex x rho' => ∀ F' H' fp' d, Stp F H fp F' H' fp' → R K O F' H' rho' sg fp' → RpX K F' H' d x.fs → W x.cls d sg H'
  | .no => False
theorem PEimp {X : Cx} {e : Expr} {t t' : TE} (h : PE X e t) (i : ∀ sg H Q, t' sg H Q → t sg H Q) : PE X e t' := ⟨fun pins s sg H Q I q => h.run pins s sg H Q I (i _ _ _ q)⟩
theorem PTimp {X : Cx} {e : Expr} {t t' : TT} (h : PT X e t) (i : ∀ sg H Q, t' sg H Q → t sg H Q) : PT X e t' := ⟨fun pins s sg H Q I q => h.run pins s sg H Q I (i _ _ _ q)⟩
theorem PEno {X : Cx} {e : Expr} {K : PySem.W.Frag} {O : OR} {W : WX} {rho : Env} : PE X e (tEv K O W rho .no) := ⟨fun pins s sg H Q I q => by
  obtain ⟨F, fp, _, z⟩ := q
  exact z.elim⟩
theorem PTno {X : Cx} {e : Expr} {K : PySem.W.Frag} {O : OR} {W : WX} {rho : Env} : PT X e (tEvT K O W rho .no) := ⟨fun pins s sg H Q I q => by
  obtain ⟨F, fp, _, z⟩ := q
  exact z.elim⟩
end Sn
namespace Sn
open PySem L2
/-- a def: how many parameters, which of them it may change, what comes of it -/
structure Fn where
  ar : Nat
  io : List Bool
  sem : Env → Rs Rv
def spF (K : PySem.W.Frag) (O : OR) (f : Fn) : Sp := fun vs H Q E => ∃ F fp ar, vs.length = f.ar ∧ R K O F H ar (vs.map some) fp ∧ match f.sem ar with
  | .ok r ar' => ∀ F' H' fp' v, Stp F H fp F' H' fp' → R K O F' H' ar' (vs.map some) fp' → RepR K O H F' H' fp' (vs.map some) v r → Q v H'
  | .ex x ar' => ∀ F' H' fp' d, Stp F H fp F' H' fp' → R K O F' H' ar' (vs.map some) fp' → RpX K F' H' d x.fs → E x.cls d H'
  | .no => False
/-- the names that a def's body may read, beyond its own -/
structure Nm where
  fns : List (Str × Fn)
  bl : List Str
  gl : List (Str × D)
  kfn : List ((Str × Nat × List Str) × Fn × List (Nat ⊕ D))
  lv : List Str
/-- what a def's body knows -/
structure Ctx extends Nm where
  N : List Str
  sc : Scope
  ar : Nat
  st : List Str
def CallOk (K : PySem.W.Frag) (O : OR) (X : Cx) (x : Str) (f : Fn) : Prop := ∃ fa fd ps k, FnOk X.prog X.w X.K X.mg X.base (L2.CX X.prog X.w) k fa fd ps (spF K O f) ∧ Room k X.A ∧ X.mg x = some (.ref fa) ∧ PySem.W.keepIn X.K (.ref fa) = true ∧ Binds X.K fd ps [] ∧ ps.length = f.ar
def ArrV (K : PySem.W.Frag) : List (Nat ⊕ D) → List V → List V → Prop
  | [], _, out => out = []
  | .inl i :: ps, l, out => ∃ v r, out = v :: r ∧ l[i]? = some v ∧ ArrV K ps l r
  | .inr d :: ps, l, out => ∃ v r, out = v :: r ∧ (∀ F, Rp K F d v) ∧ ArrV K ps l r
def CallKw (K : PySem.W.Frag) (O : OR) (X : Cx) (x : Str) (n : Nat) (ks : List Str) (f : Fn) (pat : List (Nat ⊕ D)) : Prop := ∃ fa fd ps k g gV, FnOk X.prog X.w X.K X.mg X.base (L2.CX X.prog X.w) k fa fd ps (spF K O f) ∧ Room k X.A ∧ X.mg x = some (.ref fa) ∧ PySem.W.keepIn X.K (.ref fa) = true ∧ KBn X.K fd ps n ks g gV ∧ ∀ vs zs : List V, vs.length = n → zs.length = ks.length → ArrV K pat (vs ++ zs) (gV vs zs)
structure XOk (K : PySem.W.Frag) (O : OR) (c : Ctx) (X : Cx) (W : WX) : Prop where
  or : ORok O
  hK : X.K = K
  N : X.N = c.N
  sc : X.env.scope = c.sc
  nd : X.N.Nodup
  calm : X.calm = true
  tk : Takes X W
  po : PassesOwn (model X.prog X.w) X.A X.env X.xe
  room : Room 0 X.A
  fn : ∀ x f, c.fns.lookup x = some f → CallOk K O X x f
  bl : ∀ x, c.bl.contains x = true → X.mg x = none
  gl : ∀ x d, c.gl.lookup x = some d → ∃ v u, X.mg x = some u ∧ RelV v u ∧ ∀ F, Rp K F d v
  kf : ∀ y f pat, c.kfn.lookup y = some (f, pat) → CallKw K O X y.1 y.2.1 y.2.2 f pat
  st : ∀ x, c.st.contains x = true → Loc c.sc x ∧ (X.fn x = true ∨ c.sc.names.lookup x = some .local)
section
variable {K : PySem.W.Frag} {O : OR} {F H F1 H1 F2 H2 H0 : Hp} {fp fp1 fp2 : Fp} {rho rho1 : Env} {sg : St} {v : V} {u : Rv}
theorem RepR.keep (ok : ORok O) (h : RepR K O H0 F1 H1 fp1 sg v u) (st : Stp F1 H1 fp1 F2 H2 fp2) : RepR K O H0 F2 H2 fp2 sg v u := by
  cases u with
  | d x => exact Rp.mono st.grow _ _ h
  | n a =>
    obtain ⟨S, h1, h2, h3⟩ := h
    refine ⟨S, h1.mono ok st.grow fun b hb => ?_, h2, fun b hb => ⟨?_, (h3 b hb).2.1, fun i z => ?_⟩⟩
    · cases e : H1 b with
      | none => exact absurd e (h1.there ok hb)
      | some o => exact st.frame b o e (h3 b hb).2.2
    · exact st.new b (h3 b hb).1 (h1.there ok hb) (h3 b hb).2.2
    · rcases st.fps i b z with ⟨j, q⟩ | q
      · exact (h3 b hb).2.2 j q
      · exact h1.there ok hb q
  | v i => exact h
theorem RepR.back (h : RepR K O H1 F2 H2 fp2 sg v u) (k : ∀ b, H b ≠ none → H1 b ≠ none) : RepR K O H F2 H2 fp2 sg v u := by
  cases u with
  | d x => exact h
  | n a =>
    obtain ⟨S, h1, h2, h3⟩ := h
    refine ⟨S, h1, h2, fun b hb => ⟨(h3 b hb).1, ?_, (h3 b hb).2.2⟩⟩
    cases e : H b with
    | none => rfl
    | some o => exact absurd (h3 b hb).2.1 (k b (by rw [e]; exact fun z => nomatch z))
  | v i => exact h
theorem RepR.get (h : RepR K O H0 F H fp sg v u) (r : R K O F H rho sg fp) {a : A} (e : u.at rho = some a) : ∃ S, RepA K O F H v a S ∧ ∀ b, S b → F b = none := by
  cases u with
  | d x =>
    cases e
    exact ⟨fun _ => False, ⟨h, fun _ z => z⟩, fun _ z => z.elim⟩
  | n a' =>
    cases e
    obtain ⟨S, h1, h2, h3⟩ := h
    exact ⟨S, h1, fun b hb => (h3 b hb).1⟩
  | v i =>
    have h : sg[i]? = some (some v) := h
    unfold Rv.at at e
    simp only at e
    split at e
    · rename_i a' ea
      cases e
      obtain ⟨w, h1, h2⟩ := r.rep i a ea
      rw [h] at h1
      cases h1
      exact ⟨fp i, h2, r.fre i⟩
    · cases e
end
section
variable {K : PySem.W.Frag} {O : OR} {c : Ctx} {X : Cx} {W : WX}
def OkE (K : PySem.W.Frag) (O : OR) (X : Cx) (W : WX) (x : X1) (e : Expr) : Prop := ∀ rho, PE X e (tEv K O W rho (x rho))
def OkT (K : PySem.W.Frag) (O : OR) (X : Cx) (W : WX) (x : XT) (e : Expr) : Prop := ∀ rho, PT X e (tEvT K O W rho (x rho))
def xNo : X1 := fun _ => .no
def xtNo : XT := fun _ => .no
theorem ok_no {e : Expr} : OkE K O X W xNo e := fun _ => PEno
theorem okT_no {e : Expr} : OkT K O X W xtNo e := fun _ => PTno
/-! ### constants, names -/
def xD (d : D) : X1 := fun r => .ok (.d d) r
theorem ok_c {e : Expr} {v : V} {d : D} (h : PE X e (tC v)) (hv : ∀ F, Rp K F d v) : OkE K O X W (xD d) e := fun rho => PEimp h fun sg H Q q => by
  obtain ⟨F, fp, r, q⟩ := q
  exact q F H fp v (Stp.refl _ _ _) r (hv F)
def xVar (i : Nat) : X1 := fun r => match r[i]? with
  | some (some (.d x)) => .ok (.d x) r
  | some (some _) => .ok (.v i) r
  | _ => .no
theorem ok_var {e : Expr} {i : Nat} (h : PE X e (tVar i)) : OkE K O X W (xVar i) e := fun rho => by
  unfold xVar
  cases e1 : rho[i]? with
  | none => exact PEno
  | some o =>
    cases o with
    | none => exact PEno
    | some a =>
      cases ha : a.own with
      | false =>
        cases a with
        | d x =>
          refine PEimp h fun sg H Q q => ?_
          obtain ⟨F, fp, r, q⟩ := q
          obtain ⟨v, h1, h2⟩ := r.rep i _ e1
          exact ⟨v, h1, q F H fp v (Stp.refl _ _ _) r h2.1⟩
        | l w xs => cases ha
        | m kvs => cases ha
        | ob n s => cases ha
      | true =>
        have e2 : (match some (some a) with
          | some (some (A.d x)) => Rs.ok (Rv.d x) rho
          | some (some _) => .ok (.v i) rho
          | _ => .no) = Rs.ok (Rv.v i) rho := by
          cases a with
          | d x => cases ha
          | l w xs => rfl
          | m kvs => rfl
          | ob n s => rfl
        rw [e2]
        refine PEimp h fun sg H Q q => ?_
        obtain ⟨F, fp, r, q⟩ := q
        obtain ⟨v, h1, h2⟩ := r.rep i _ e1
        exact ⟨v, h1, q F H fp v (Stp.refl _ _ _) r h1⟩
/-! ### two parts, then something of their values -/
def x2 (f : A → A → Option Rv) (a b : X1) : X1 := fun r => (a r).bind fun u r1 => (b r1).bind fun w r2 => match u.at r2, w.at r2 with
  | some p, some q => match f p q with
    | some z => .ok z r2
    | none => .no
  | _, _ => .no
def Sound2 (K : PySem.W.Frag) (O : OR) (Rul : R2 → Prop) (f : A → A → Option Rv) : Prop := ∀ p q z, f p q = some z → ∃ r : R2, Rul r ∧ ∀ F H rho sg fp v w S T (Q : VK), R K O F H rho sg fp → RepA K O F H v p S → RepA K O F H w q T →
  (∀ F' H' fp' u, Stp F H fp F' H' fp' → R K O F' H' rho sg fp' → RepR K O H F' H' fp' sg u z → Q u H') → r v w H Q
def rF : R2 := fun _ _ _ _ => False
def tF : TE := fun _ _ _ => False
theorem pe_F {e : Expr} : PE X e tF := ⟨fun _ _ _ _ _ _ z => z.elim⟩
theorem opF {f : Value → Value → Sem Value} : OpR X f rF := by
  intros pins s sg H x y u v Q I r1 r2 z
  exact (show False from z).elim
theorem ixF : IxR X rF := by
  intros value slice pins s sg H x y u v Q I r1 r2 z
  exact (show False from z).elim
theorem ok_2 {a b e : Expr} {xa xb : X1} {f : A → A → Option Rv} {Rul : R2 → Prop} (ok : ORok O) (hF : Rul rF) (hr : ∀ r ta tb, Rul r → PE X a ta → PE X b tb → PE X e (tOp r ta tb)) (sf : Sound2 K O Rul f) (ha : OkE K O X W xa a) (hb : OkE K O X W xb b) : OkE K O X W (x2 f xa xb) e := by
  intro rho
  have ka := ha rho
  unfold x2
  cases ea : xa rho with
  | no => exact PEno
  | ex x r1 =>
    rw [ea] at ka
    refine PEimp (hr rF _ tF hF ka pe_F) fun sg H Q q => ?_
    obtain ⟨F, fp, r, q⟩ := q
    exact ⟨F, fp, r, q⟩
  | ok u r1 =>
    rw [ea] at ka
    have kb := hb r1
    show PE X e (tEv K O W rho ((xb r1).bind fun w r2 => match u.at r2, w.at r2 with
      | some p, some q => match f p q with
        | some z => .ok z r2
        | none => .no
      | _, _ => .no))
    cases eb : xb r1 with
    | no => exact PEno
    | ex x r2 =>
      rw [eb] at kb
      refine PEimp (hr rF _ _ hF ka kb) fun sg H Q q => ?_
      obtain ⟨F, fp, r, q⟩ := q
      refine ⟨F, fp, r, fun F1 H1 fp1 v s1 r1 p1 => ⟨F1, fp1, r1, fun F2 H2 fp2 d s2 r2 p2 => ?_⟩⟩
      exact q F2 H2 fp2 d (s1.trans s2) r2 p2
    | ok w r2 =>
      rw [eb] at kb
      show PE X e (tEv K O W rho (match u.at r2, w.at r2 with
        | some p, some q => match f p q with
          | some z => .ok z r2
          | none => .no
        | _, _ => .no))
      cases eu : u.at r2 with
      | none => exact PEno
      | some p =>
        cases ew : w.at r2 with
        | none => exact PEno
        | some q =>
          show PE X e (tEv K O W rho (match f p q with
          | some z => .ok z r2
          | none => .no))
          cases ez : f p q with
          | none => exact PEno
          | some z =>
            obtain ⟨rr, hrr, hs⟩ := sf p q z ez
            refine PEimp (hr rr _ _ hrr ka kb) fun sg H Q k => ?_
            obtain ⟨F, fp, r, k⟩ := k
            refine ⟨F, fp, r, fun F1 H1 fp1 v s1 r1' p1 => ⟨F1, fp1, r1', fun F2 H2 fp2 v2 s2 r2' p2 => ?_⟩⟩
            obtain ⟨S, hS, _⟩ := (p1.keep ok s2).get r2' eu
            obtain ⟨T, hT, _⟩ := p2.get r2' ew
            refine hs F2 H2 r2 sg fp2 v v2 S T Q r2' hS hT fun F3 H3 fp3 v3 s3 r3 p3 => ?_
            have st := s1.trans s2
            exact k F3 H3 fp3 v3 (st.trans s3) r3 (p3.back st.stay)
end
end Sn
namespace Sn
open PySem L2
theorem sz {n : Nat} (h : n ≤ 100000) : n ≤ sizeLine := Nat.le_trans h (by decide)
theorem szl {n : Nat} (h : n < 100000) : n < sizeLine := Nat.lt_of_lt_of_le h (by decide)
/-- a list that may be added to another one -/
def A.ls? : A → Option (List D)
  | .d (.lst xs) => some xs
  | .l _ xs => some xs
  | _ => none
/-- what is read by places: a list, a tuple -/
def A.sq? : A → Option (Bool × List D)
  | .d (.lst xs) => some (true, xs)
  | .d (.rl xs) => some (true, xs)
  | .l _ xs => some (true, xs)
  | .d (.tup xs) => some (false, xs)
  | .d (.rt xs) => some (false, xs)
  | _ => none
section
variable {K : PySem.W.Frag} {O : OR} {F H : Hp} {fp : Fp} {rho : Env} {sg : St} {v : V} {a : A} {S : Addr → Prop}
theorem A.ls_ok (r : R K O F H rho sg fp) (h : RepA K O F H v a S) {xs : List D} (e : a.ls? = some xs) : ∃ p vs, v = .ref p ∧ H p = some (.lst vs) ∧ RpA K F xs vs := by
  unfold A.ls? at e
  split at e
  · cases e
    obtain ⟨⟨p, vs, h1, h2, h3⟩, _⟩ := h
    exact ⟨p, vs, h1, r.sub _ _ h2, h3⟩
  · cases e
    obtain ⟨p, vs, h1, h2, h3, _⟩ := h
    exact ⟨p, vs, h1, h2, h3⟩
  · cases e
theorem A.sq_ok (r : R K O F H rho sg fp) (h : RepA K O F H v a S) {b : Bool} {xs : List D} (e : a.sq? = some (b, xs)) : ∃ p vs, v = .ref p ∧ (if b = true then SqL K H p vs else SqT K H p vs) ∧ RpA K F xs vs := by
  unfold A.sq? at e
  split at e
  · cases e
    obtain ⟨⟨p, vs, h1, h2, h3⟩, _⟩ := h
    exact ⟨p, vs, h1, SqL.of (r.sub _ _ h2), h3⟩
  · cases e
    obtain ⟨⟨p, vs, h1, h2, h3⟩, _⟩ := h
    exact ⟨p, vs, h1, r.sub.seq h2, h3⟩
  · cases e
    obtain ⟨p, vs, h1, h2, h3, _⟩ := h
    exact ⟨p, vs, h1, SqL.of h2, h3⟩
  · cases e
    obtain ⟨⟨p, vs, h1, h2, h3⟩, _⟩ := h
    exact ⟨p, vs, h1, SqT.of (r.sub _ _ h2), h3⟩
  · cases e
    obtain ⟨⟨p, vs, h1, h2, h3⟩, _⟩ := h
    exact ⟨p, vs, h1, sqT_mono r.sub h2, h3⟩
  · cases e
theorem RepA.int {i : Int} (h : RepA K O F H v (.d (.int i)) S) : v = .int i := h.1
theorem RepA.str {x : Str} (h : RepA K O F H v (.d (.str x)) S) : v = .str x := h.1
theorem RepA.bl {x : Bool} (h : RepA K O F H v (.d (.bl x)) S) : v = .bl x := h.1
/-- a new list is nobody's yet -/
theorem new_list (ok : ORok O) (r : R K O F H rho sg fp) {p : Addr} (hp : H p = none) {xs : List D} {vs : List V} (hx : RpA K F xs vs) {Q : VK}
    (k : ∀ F' H' fp' u, Stp F H fp F' H' fp' → R K O F' H' rho sg fp' → RepR K O H F' H' fp' sg u (.n (.l true xs)) → Q u H') : Q (.ref p) (upd H p (.lst vs)) := by
  obtain ⟨r2, s2⟩ := r.laid ok hp (.lst vs)
  refine k F (upd H p (.lst vs)) fp (.ref p) s2 r2 ⟨fun b => b = p, ⟨p, vs, rfl, upd_same, hx, fun b => Iff.rfl⟩, rfl, fun b hb => ?_⟩
  subst hb
  refine ⟨r.sub.free hp, hp, fun i z => ?_⟩
  obtain ⟨a, h1, _⟩ := r.own i b z
  obtain ⟨v, _, h2⟩ := r.rep i a h1
  exact h2.there ok z hp
/-- a new tuple is data -/
theorem new_tup (ok : ORok O) (r : R K O F H rho sg fp) {p : Addr} (hp : H p = none) {xs : List D} {vs : List V} (hx : RpA K F xs vs) {Q : VK}
    (k : ∀ F' H' fp' u, Stp F H fp F' H' fp' → R K O F' H' rho sg fp' → RepR K O H F' H' fp' sg u (.d (.tup xs)) → Q u H') : Q (.ref p) (upd H p (.tup vs)) := by
  obtain ⟨r2, s2⟩ := r.frozen ok hp (.tup vs)
  exact k _ (upd H p (.tup vs)) fp (.ref p) s2 r2 ⟨p, vs, rfl, upd_same, RpA.mono s2.grow _ _ hx⟩
end
/-! ### a + b and its kin -/
def binI (op : Operator) (i j : Int) : Option Rv := match op with
  | .Add => some (.d (.int (i + j)))
  | .Sub => some (.d (.int (i - j)))
  | .Mult => if (-(2 ^ 64) < i ∧ i < 2 ^ 64) ∨ (-(2 ^ 64) < j ∧ j < 2 ^ 64) then some (.d (.int (i * j))) else none
  | .FloorDiv => if 0 < j ∧ j.natAbs.log2 < 9000 then some (.d (.int (i / j))) else none
  | .Mod => if 0 < j then some (.d (.int (i % j))) else none
  | .Pow => if 0 ≤ j ∧ j ≤ 1000000 ∧ i.natAbs < 2 ^ 64 then some (.d (.int (i ^ j.toNat))) else none
  | .LShift => if 0 ≤ j ∧ j ≤ 1000000 ∧ i.natAbs < 2 ^ 64 then some (.d (.int (i * 2 ^ j.toNat))) else none
  | .RShift => if 0 ≤ j then some (.d (.int (i / 2 ^ j.toNat))) else none
  | .BitAnd => some (.d (.int (Builtin.bitAnd i j)))
  | _ => none
def repL {α : Type} (k : Nat) (xs : List α) : List α := (List.replicate k xs).flatten
def binA (op : Operator) (p q : A) : Option Rv := match p, q with
  | .d (.int i), .d (.int j) => binI op i j
  | .d (.str x), .d (.str y) => match op with
    | .Add => if x.length + y.length ≤ 100000 then some (.d (.str (x ++ y))) else none
    | _ => none
  | .d (.tup xs), .d (.tup ys) => match op with
    | .Add => if xs.length + ys.length ≤ 100000 ∧ xs ≠ [] ∧ ys ≠ [] then some (.d (.tup (xs ++ ys))) else none
    | _ => none
  | p, .d (.int k) => match op, p.ls? with
    | .Mult, some xs => if 0 ≤ k ∧ k ≤ 100000 ∧ xs.length * k.toNat ≤ 100000 then some (.n (.l true (repL k.toNat xs))) else none
    | _, _ => none
  | p, q => match op, p.ls?, q.ls? with
    | .Add, some xs, some ys => if xs.length + ys.length ≤ 100000 then some (.n (.l true (xs ++ ys))) else none
    | _, _, _ => none
theorem RpA.rep {K : PySem.W.Frag} {F : Hp} {xs : List D} {vs : List V} (h : RpA K F xs vs) : ∀ k, RpA K F (repL k xs) (repL k vs)
  | 0 => rfl
  | k + 1 => by
    have e1 : repL (k + 1) xs = xs ++ repL k xs := by unfold repL; rw [List.replicate_succ, List.flatten_cons]
    have e2 : repL (k + 1) vs = vs ++ repL k vs := by unfold repL; rw [List.replicate_succ, List.flatten_cons]
    rw [e1, e2]
    exact h.append (RpA.rep h k)
section
variable {K : PySem.W.Frag} {O : OR} {X : Cx}
theorem s2I {C : Int → Int → Prop} {g : Int → Int → Int} {i j : Int} {Rul : R2 → Prop} (hr : Rul (rI C fun i j => .int (g i j))) (hc : C i j) :
    ∃ r : R2, Rul r ∧ ∀ F H rho sg fp v w S T (Q : VK), R K O F H rho sg fp → RepA K O F H v (.d (.int i)) S → RepA K O F H w (.d (.int j)) T →
      (∀ F' H' fp' u, Stp F H fp F' H' fp' → R K O F' H' rho sg fp' → RepR K O H F' H' fp' sg u (.d (.int (g i j))) → Q u H') → r v w H Q :=
  ⟨_, hr, fun F H rho sg fp v w S T Q r h1 h2 k => ⟨i, j, h1.int, h2.int, hc, k F H fp _ (Stp.refl _ _ _) r rfl⟩⟩
theorem s2I0 {g : Int → Int → Int} {i j : Int} {Rul : R2 → Prop} (hr : Rul (rI0 fun i j => .int (g i j))) :
    ∃ r : R2, Rul r ∧ ∀ F H rho sg fp v w S T (Q : VK), R K O F H rho sg fp → RepA K O F H v (.d (.int i)) S → RepA K O F H w (.d (.int j)) T →
      (∀ F' H' fp' u, Stp F H fp F' H' fp' → R K O F' H' rho sg fp' → RepR K O H F' H' fp' sg u (.d (.int (g i j))) → Q u H') → r v w H Q :=
  ⟨_, hr, fun F H rho sg fp v w S T Q r h1 h2 k => ⟨i, j, h1.int, h2.int, k F H fp _ (Stp.refl _ _ _) r rfl⟩⟩
theorem sound_bin (ok : ORok O) (hK : X.K = K) (op : Operator) : Sound2 K O (OpR X (binaryOp op)) (binA op) := by
  intro p q z e
  unfold binA at e
  split at e
  · rename_i i j
    unfold binI at e
    split at e
    · cases e; exact s2I0 op_add
    · cases e; exact s2I0 op_sub
    · split at e
      · rename_i hc; cases e; exact s2I op_mul hc
      · cases e
    · split at e
      · rename_i hc; cases e; exact s2I op_fdivW hc
      · cases e
    · split at e
      · rename_i hc; cases e; exact s2I op_mod hc
      · cases e
    · split at e
      · rename_i hc; cases e; exact s2I op_pow hc
      · cases e
    · split at e
      · rename_i hc; cases e; exact s2I op_shl hc
      · cases e
    · split at e
      · rename_i hc; cases e; exact s2I op_shr hc
      · cases e
    · cases e; exact s2I0 op_and
    · cases e
  · rename_i x y
    split at e
    · split at e
      · rename_i hc
        cases e
        exact ⟨_, op_add_str, fun F H rho sg fp v w S T Q r h1 h2 k => ⟨x, y, h1.str, h2.str, sz hc, k F H fp _ (Stp.refl _ _ _) r rfl⟩⟩
      · cases e
    · cases e
  · rename_i xs ys
    split at e
    · split at e
      · rename_i hc
        cases e
        refine ⟨_, op_catT, fun F H rho sg fp v w S T Q r h1 h2 k => ?_⟩
        obtain ⟨⟨a, vs, e1, e2, e3⟩, _⟩ := h1
        obtain ⟨⟨b, ws, e4, e5, e6⟩, _⟩ := h2
        have l1 := e3.length
        have l2 := e6.length
        have ne1 : vs ≠ [] := fun z => by
          rw [z] at l1
          exact hc.2.1 (List.length_eq_zero_iff.mp l1.symm)
        have ne2 : ws ≠ [] := fun z => by
          rw [z] at l2
          exact hc.2.2 (List.length_eq_zero_iff.mp l2.symm)
        refine ⟨a, b, vs, ws, e1, e4, SqT.of (r.sub _ _ e2), SqT.of (r.sub _ _ e5), ne1, sz (by rw [l1, l2]; exact hc.1), fun z => absurd z ne2, fun _ p hp => ?_⟩
        exact new_tup ok r hp (e3.append e6) k
      · cases e
    · cases e
  · rename_i p k hp1
    split at e
    · rename_i xs hx
      split at e
      · rename_i hc
        cases e
        refine ⟨_, op_rep, fun F H rho sg fp v w S T Q r h1 h2 kk => ?_⟩
        obtain ⟨a, vs, e1, e2, e3⟩ := A.ls_ok r h1 hx
        refine ⟨a, k, vs, e1, h2.int, e2, by omega, by omega, sz (by rw [e3.length]; exact hc.2.2), fun p hp => ?_⟩
        exact new_list ok r hp (e3.rep k.toNat) kk
      · cases e
    · cases e
  · split at e
    · rename_i xs ys hx hy
      split at e
      · rename_i hc
        cases e
        refine ⟨_, op_cat, fun F H rho sg fp v w S T Q r h1 h2 k => ?_⟩
        obtain ⟨a, vs, e1, e2, e3⟩ := A.ls_ok r h1 hx
        obtain ⟨b, ws, e4, e5, e6⟩ := A.ls_ok r h2 hy
        refine ⟨a, b, vs, ws, e1, e4, e2, e5, sz (by rw [e3.length, e6.length]; exact hc), fun p hp => ?_⟩
        exact new_list ok r hp (e3.append e6) k
      · cases e
    · cases e
end
end Sn
namespace Sn
open PySem L2
mutual
def D.py : D → Option PyData
  | .non => some .none
  | .bl b => some (.bool b)
  | .int i => some (.int i)
  | .str x => some (.str x)
  | .lst ds => match D.pys ds with
    | some ps => some (.list ps)
    | none => none
  | .tup ds => match D.pys ds with
    | some ps => some (.tuple ps)
    | none => none
  | .rl ds => match D.pys ds with
    | some ps => some (.list ps)
    | none => none
  | .rt ds => match D.pys ds with
    | some ps => some (.tuple ps)
    | none => none
  | .dic _ => none
  | .val _ => none
def D.pys : List D → Option (List PyData)
  | [] => some []
  | d :: ds => match D.py d, D.pys ds with
    | some p, some ps => some (p :: ps)
    | _, _ => none
end
def A.py : A → Option PyData
  | .d x => x.py
  | .l _ xs => match D.pys xs with
    | some ps => some (.list ps)
    | none => none
  | _ => none
section
variable {K : PySem.W.Frag} {F : Hp}
mutual
theorem Rp.dp : ∀ (d : D) (v : V) (p : PyData), Rp K F d v → d.py = some p → Dp K F v p
  | .non, v, p, h, e => by cases (show v = .non from h); cases e; exact .non
  | .bl b, v, p, h, e => by cases (show v = .bl b from h); cases e; exact .bl b
  | .int i, v, p, h, e => by cases (show v = .int i from h); cases e; exact .int i
  | .str x, v, p, h, e => by cases (show v = .str x from h); cases e; exact .str x
  | .lst ds, v, p, h, e => by
    obtain ⟨a, xs, rfl, h2, h3⟩ := h
    unfold D.py at e
    cases eq : D.pys ds with
    | none => rw [eq] at e; cases e
    | some ps => rw [eq] at e; cases e; exact .lst (SqL.of h2) (RpA.dp ds xs ps h3 eq)
  | .tup ds, v, p, h, e => by
    obtain ⟨a, xs, rfl, h2, h3⟩ := h
    unfold D.py at e
    cases eq : D.pys ds with
    | none => rw [eq] at e; cases e
    | some ps => rw [eq] at e; cases e; exact .tup (SqT.of h2) (RpA.dp ds xs ps h3 eq)
  | .rl ds, v, p, h, e => by
    obtain ⟨a, xs, rfl, h2, h3⟩ := h
    unfold D.py at e
    cases eq : D.pys ds with
    | none => rw [eq] at e; cases e
    | some ps => rw [eq] at e; cases e; exact .lst h2 (RpA.dp ds xs ps h3 eq)
  | .rt ds, v, p, h, e => by
    obtain ⟨a, xs, rfl, h2, h3⟩ := h
    unfold D.py at e
    cases eq : D.pys ds with
    | none => rw [eq] at e; cases e
    | some ps => rw [eq] at e; cases e; exact .tup h2 (RpA.dp ds xs ps h3 eq)
  | .dic _, v, p, h, e => by cases e
  | .val _, v, p, h, e => by cases e
theorem RpA.dp : ∀ (ds : List D) (vs : List V) (ps : List PyData), RpA K F ds vs → D.pys ds = some ps → DpAll K F vs ps
  | [], vs, ps, h, e => by cases (show vs = [] from h); cases e; exact .nil
  | d :: ds, vs, ps, h, e => by
    obtain ⟨v, r, rfl, h2, h3⟩ := h
    unfold D.pys at e
    cases eq : D.py d with
    | none => rw [eq] at e; cases e
    | some q =>
      cases eq2 : D.pys ds with
      | none => rw [eq, eq2] at e; cases e
      | some qs =>
        rw [eq, eq2] at e
        cases e
        exact .cons (Rp.dp d v q h2 eq) (RpA.dp ds r qs h3 eq2)
end
mutual
theorem Dp_mono {F' : Hp} (e : Same F F') : ∀ (p : PyData) (v : V), Dp K F v p → Dp K F' v p
  | _, _, .non => .non
  | _, _, .bl b => .bl b
  | _, _, .int i => .int i
  | _, _, .str x => .str x
  | _, _, .lst h1 h2 => .lst (e.seq h1) (DpAll_mono e _ _ h2)
  | _, _, .tup h1 h2 => .tup (sqT_mono e h1) (DpAll_mono e _ _ h2)
theorem DpAll_mono {F' : Hp} (e : Same F F') : ∀ (p : List PyData) (v : List V), DpAll K F v p → DpAll K F' v p
  | _, _, .nil => .nil
  | _, _, .cons h1 h2 => .cons (Dp_mono e _ _ h1) (DpAll_mono e _ _ h2)
end
theorem A.dp {O : OR} {H : Hp} {fp : Fp} {rho : Env} {sg : St} {v : V} {a : A} {S : Addr → Prop} {p : PyData} (r : R K O F H rho sg fp) (h : RepA K O F H v a S) (e : a.py = some p) : Dp K H v p := by
  cases a with
  | d x => exact Dp_mono r.sub _ _ (Rp.dp x v p h.1 e)
  | l w xs =>
    obtain ⟨q, vs, rfl, h2, h3, _⟩ := h
    unfold A.py at e
    simp only at e
    cases eq : D.pys xs with
    | none => rw [eq] at e; cases e
    | some ps =>
      rw [eq] at e
      cases e
      exact .lst (SqL.of h2) (DpAll_mono r.sub _ _ (RpA.dp xs vs ps h3 eq))
  | m kvs => cases e
  | ob n s => cases e
end
/-! ### comparisons -/
def eqA (p q : A) : Option Bool := match p, q with
  | .d (.int i), .d (.int j) => some (decide (i = j))
  | .d (.str x), .d (.str y) => some (decide (x = y))
  | .d (.bl x), .d (.bl y) => some (decide (x = y))
  | p, q => match p.py, q.py with
    | some a, some b => if SeqAt.shaped a = true ∧ SeqAt.shaped b = true then some (PyData.eqv a b) else none
    | _, _ => none
def isN : A → Option Bool
  | .d .non => some true
  | .d (.val _) => none
  | .ob _ _ => none
  | _ => some false
def D.atom : D → Option V
  | .non => some .non
  | .bl b => some (.bl b)
  | .int i => some (.int i)
  | .str x => some (.str x)
  | _ => none
def atoms : List D → Option (List V)
  | [] => some []
  | d :: ds => match d.atom, atoms ds with
    | some v, some vs => some (v :: vs)
    | _, _ => none
def inS (x y : Str) : Bool := match x.cps.toList with
  | [c] => decide (c ∈ y.cps.toList)
  | _ => !(Builtin.Str.occurrences y x 0 y.length 1).isEmpty
def D.key : D → Option Key
  | .int i => some (.inl i)
  | .str x => some (.inr x)
  | _ => none
def valD (kvs : List (Key × D)) (k : Key) : Option D := (kvs.find? fun kv => decide (kv.1 = k)).map (·.2)
def A.dc? : A → Option (List (Key × D))
  | .d (.dic kvs) => some kvs
  | .m kvs => some kvs
  | _ => none
def inA (p q : A) : Option Bool := match p, q with
  | .d (.str x), .d (.str y) => some (inS x y)
  | .d x, q => match q.dc? with
    | some kvs => match x.key with
      | some k => some (valD kvs k).isSome
      | none => none
    | none => match q.sq? with
      | some (b, ys) => match x.atom, atoms ys with
        | some v, some vs => some (inV v vs)
        | _, _ => match b, x.py, D.pys ys with
          | true, some a, some ps => if SeqAt.shaped a = true ∧ SeqAt.shaped (.list ps) = true then some (ps.any fun z => PyData.eqv z a) else none
          | _, _, _ => none
      | none => none
  | _, _ => none
def cmpA (op : CmpOp) (p q : A) : Option Bool := match op with
  | .Eq => eqA p q
  | .NotEq => (eqA p q).map (!·)
  | .Is => match q with
    | .d .non => isN p
    | _ => none
  | .IsNot => match q with
    | .d .non => (isN p).map (!·)
    | _ => none
  | .In => inA p q
  | .NotIn => (inA p q).map (!·)
  | .Lt => match p, q with
    | .d (.int i), .d (.int j) => some (decide (i < j))
    | .d (.str i), .d (.str j) => some (decide (i.cps.toList < j.cps.toList))
    | _, _ => none
  | .LtE => match p, q with
    | .d (.int i), .d (.int j) => some (decide (i ≤ j))
    | .d (.str i), .d (.str j) => some (!decide (j.cps.toList < i.cps.toList))
    | _, _ => none
  | .Gt => match p, q with
    | .d (.int i), .d (.int j) => some (decide (j < i))
    | _, _ => none
  | .GtE => match p, q with
    | .d (.int i), .d (.int j) => some (decide (j ≤ i))
    | _, _ => none
def bl? (b : Option Bool) : Option Rv := match b with
  | some b => some (.d (.bl b))
  | none => none
theorem bl_some {b : Option Bool} {z : Rv} (h : bl? b = some z) : ∃ c, b = some c ∧ z = .d (.bl c) := by
  cases b with
  | none => cases h
  | some c => cases h; exact ⟨c, rfl, rfl⟩
section
variable {K : PySem.W.Frag} {O : OR} {F H : Hp} {fp : Fp} {rho : Env} {sg : St} {v : V} {a : A} {S : Addr → Prop}
theorem isN_ok {c : Bool} (h : RepA K O F H v a S) (e : isN a = some c) : decide (v = .non) = c := by
  have far : ∀ {p : Addr}, v = .ref p → decide (v = .non) = false := fun e => by rw [e]; rfl
  cases a with
  | d x =>
    cases x with
    | non => cases e; cases (show v = .non from h.1); rfl
    | bl b => cases e; cases (show v = .bl b from h.1); rfl
    | int i => cases e; cases (show v = .int i from h.1); rfl
    | str x => cases e; cases (show v = .str x from h.1); rfl
    | lst xs => cases e; obtain ⟨⟨p, _, h1, _⟩, _⟩ := h; exact far h1
    | tup xs => cases e; obtain ⟨⟨p, _, h1, _⟩, _⟩ := h; exact far h1
    | dic xs => cases e; obtain ⟨⟨p, _, h1, _⟩, _⟩ := h; exact far h1
    | rl xs => cases e; obtain ⟨⟨p, _, h1, _⟩, _⟩ := h; exact far h1
    | rt xs => cases e; obtain ⟨⟨p, _, h1, _⟩, _⟩ := h; exact far h1
    | val w => cases e
  | l w xs => cases e; obtain ⟨p, _, h1, _⟩ := h; exact far h1
  | m kvs => cases e; obtain ⟨p, _, h1, _⟩ := h; exact far h1
  | ob n s => cases e
theorem atom_ok {x : D} {w : V} (h : Rp K F x v) (e : x.atom = some w) : v = w ∧ flatV w = true := by
  cases x with
  | non => cases e; exact ⟨h, rfl⟩
  | bl b => cases e; exact ⟨h, rfl⟩
  | int i => cases e; exact ⟨h, rfl⟩
  | str x => cases e; exact ⟨h, rfl⟩
  | lst xs => cases e
  | tup xs => cases e
  | dic xs => cases e
  | rl xs => cases e
  | rt xs => cases e
  | val w => cases e
theorem atoms_ok : ∀ {xs : List D} {vs ws : List V}, RpA K F xs vs → atoms xs = some ws → vs = ws ∧ ws.all flatV = true
  | [], vs, ws, h, e => by cases (show vs = [] from h); cases e; exact ⟨rfl, rfl⟩
  | d :: ds, vs, ws, h, e => by
    obtain ⟨v, r, rfl, h2, h3⟩ := h
    unfold atoms at e
    cases e1 : d.atom with
    | none => rw [e1] at e; cases e
    | some w =>
      cases e2 : atoms ds with
      | none => rw [e1, e2] at e; cases e
      | some us =>
        rw [e1, e2] at e
        cases e
        obtain ⟨rfl, f1⟩ := atom_ok h2 e1
        obtain ⟨rfl, f2⟩ := atoms_ok h3 e2
        exact ⟨rfl, by rw [List.all_cons, f1, f2]; rfl⟩
theorem RpK.val : ∀ {kvs : List (Key × D)} {kws : List (Key × V)} (k : Key), RpK K F kvs kws → (valD kvs k = none ∧ valV kws k = none) ∨ ∃ d w, valD kvs k = some d ∧ valV kws k = some w ∧ Rp K F d w
  | [], kws, k, h => by cases (show kws = [] from h); exact .inl ⟨rfl, rfl⟩
  | (j, d) :: r, kws, k, h => by
    obtain ⟨w, s, rfl, h2, h3⟩ := h
    by_cases e : j = k
    · refine .inr ⟨d, w, ?_, valV_pos (p := (j, w)) e, h2⟩
      unfold valD
      rw [List.find?_cons]
      simp [e]
    · have e1 : valD ((j, d) :: r) k = valD r k := by
        unfold valD
        rw [List.find?_cons]
        simp [e]
      rw [e1, valV_neg (p := (j, w)) e]
      exact RpK.val k h3
theorem dc_ok (r : R K O F H rho sg fp) (h : RepA K O F H v a S) {kvs : List (Key × D)} (e : a.dc? = some kvs) : ∃ p kws, v = .ref p ∧ H p = some (.dK kws) ∧ RpK K F kvs kws := by
  unfold A.dc? at e
  split at e
  · cases e
    obtain ⟨⟨p, vs, h1, h2, h3⟩, _⟩ := h
    exact ⟨p, vs, h1, r.sub _ _ h2, h3⟩
  · cases e
    obtain ⟨p, vs, h1, h2, h3, _⟩ := h
    exact ⟨p, vs, h1, h2, h3⟩
  · cases e
theorem key_ok {x : D} {k : Key} (h : Rp K F x v) (e : x.key = some k) : v = kV k := by
  cases x with
  | int i => cases e; exact h
  | str x => cases e; exact h
  | non => cases e
  | bl b => cases e
  | lst xs => cases e
  | tup xs => cases e
  | dic xs => cases e
  | rl xs => cases e
  | rt xs => cases e
  | val w => cases e
end
section
variable {K : PySem.W.Frag} {O : OR} {X : Cx}
def rDIn (neg : Bool) : R2 := fun y x H Q => ∃ a o, x = .ref a ∧ DGet H a y o ∧ Q (.bl (if neg then !o.isSome else o.isSome)) H
theorem op_din (hu : X.A.units + 1 < cLine) : OpR X (compareOp .In) (rDIn false) := by
  intro pins s sg H y x v u Q I ry rx h
  obtain ⟨a, o, rfl, g, q⟩ := h
  cases (show u = Value.ref a from rx)
  exact d_in hu I g ry fun s3 I3 => ⟨.bl o.isSome, H, I3, rfl, q⟩
theorem op_dnotin (hu : X.A.units + 1 < cLine) : OpR X (compareOp .NotIn) (rDIn true) := by
  intro pins s sg H y x v u Q I ry rx h
  obtain ⟨a, o, rfl, g, q⟩ := h
  cases (show u = Value.ref a from rx)
  exact d_notIn hu I g ry fun s3 I3 => ⟨.bl (!o.isSome), H, I3, rfl, q⟩
/-- a rule whose answer is a truth -/
def SoundB (K : PySem.W.Frag) (O : OR) (Rul : R2 → Prop) (p q : A) (c : Bool) : Prop := ∃ r : R2, Rul r ∧ ∀ F H rho sg fp v w S T (Q : VK), R K O F H rho sg fp → RepA K O F H v p S → RepA K O F H w q T → Q (.bl c) H → r v w H Q
theorem SoundB.up {Rul : R2 → Prop} {f : A → A → Option Bool} (h : ∀ p q c, f p q = some c → SoundB K O Rul p q c) : Sound2 K O Rul (fun p q => bl? (f p q)) := fun p q z e => by
  obtain ⟨c, e1, rfl⟩ := bl_some e
  obtain ⟨r, h1, h2⟩ := h p q c e1
  exact ⟨r, h1, fun F H rho sg fp v w S T Q rr ha hb k => h2 F H rho sg fp v w S T Q rr ha hb (k F H fp _ (Stp.refl _ _ _) rr rfl)⟩
theorem sb_eq (hK : X.K = K) (hu : X.A.units + 64 < cLine) {p q : A} {c : Bool} (e : eqA p q = some c) : SoundB K O (OpR X (compareOp .Eq)) p q c := by
  unfold eqA at e
  split at e
  · rename_i i j
    cases e
    refine ⟨_, op_eq, fun F H rho sg fp v w S T Q r h1 h2 k => ?_⟩
    cases h1.int; cases h2.int
    refine ⟨rfl, ?_⟩
    rw [show decide (V.int i = V.int j) = decide (i = j) by simp]
    exact k
  · rename_i i j
    cases e
    refine ⟨_, op_eq, fun F H rho sg fp v w S T Q r h1 h2 k => ?_⟩
    cases h1.str; cases h2.str
    refine ⟨rfl, ?_⟩
    rw [show decide (V.str i = V.str j) = decide (i = j) by simp]
    exact k
  · rename_i i j
    cases e
    refine ⟨_, op_eq, fun F H rho sg fp v w S T Q r h1 h2 k => ?_⟩
    cases h1.bl; cases h2.bl
    refine ⟨rfl, ?_⟩
    rw [show decide (V.bl i = V.bl j) = decide (i = j) by simp]
    exact k
  · split at e
    · rename_i a b ha hb
      split at e
      · rename_i hc
        cases e
        refine ⟨_, op_eqD hu, fun F H rho sg fp v w S T Q r h1 h2 k => ?_⟩
        rw [hK]
        exact ⟨a, b, A.dp r h1 ha, A.dp r h2 hb, hc.1, hc.2, k⟩
      · cases e
    · cases e
theorem sb_ne (hK : X.K = K) (hu : X.A.units + 64 < cLine) {p q : A} {c : Bool} (e : eqA p q = some c) : SoundB K O (OpR X (compareOp .NotEq)) p q (!c) := by
  unfold eqA at e
  split at e
  · rename_i i j
    cases e
    refine ⟨_, op_ne, fun F H rho sg fp v w S T Q r h1 h2 k => ?_⟩
    cases h1.int; cases h2.int
    refine ⟨rfl, ?_⟩
    rw [show decide (V.int i = V.int j) = decide (i = j) by simp]
    exact k
  · rename_i i j
    cases e
    refine ⟨_, op_ne, fun F H rho sg fp v w S T Q r h1 h2 k => ?_⟩
    cases h1.str; cases h2.str
    refine ⟨rfl, ?_⟩
    rw [show decide (V.str i = V.str j) = decide (i = j) by simp]
    exact k
  · rename_i i j
    cases e
    refine ⟨_, op_ne, fun F H rho sg fp v w S T Q r h1 h2 k => ?_⟩
    cases h1.bl; cases h2.bl
    refine ⟨rfl, ?_⟩
    rw [show decide (V.bl i = V.bl j) = decide (i = j) by simp]
    exact k
  · split at e
    · rename_i a b ha hb
      split at e
      · rename_i hc
        cases e
        refine ⟨_, op_neD hu, fun F H rho sg fp v w S T Q r h1 h2 k => ?_⟩
        rw [hK]
        exact ⟨a, b, A.dp r h1 ha, A.dp r h2 hb, hc.1, hc.2, k⟩
      · cases e
    · cases e
theorem sb_in (hK : X.K = K) (hu : X.A.units + 65 < cLine) {neg : Bool} {p q : A} {c : Bool} (e : inA p q = some c) : SoundB K O (OpR X (compareOp (if neg then .NotIn else .In))) p q (if neg then !c else c) := by
  unfold inA at e
  split at e
  · rename_i x y
    cases e
    cases hx : x.cps.toList with
    | nil =>
      have ei : inS x y = !(Builtin.Str.occurrences y x 0 y.length 1).isEmpty := by unfold inS; rw [hx]
      rw [ei]
      cases neg with
      | false => exact ⟨_, op_in_str, fun F H rho sg fp v w S T Q r h1 h2 k => ⟨x, y, h1.str, h2.str, k⟩⟩
      | true => exact ⟨_, op_notin_str, fun F H rho sg fp v w S T Q r h1 h2 k => ⟨x, y, h1.str, h2.str, k⟩⟩
    | cons ch rest =>
      cases rest with
      | nil =>
        have ex : x = ⟨#[ch]⟩ := by
          cases x with
          | mk cps =>
            have : cps = #[ch] := Array.ext' hx
            rw [this]
        have ei : inS x y = decide (ch ∈ y.cps.toList) := by unfold inS; rw [hx]
        rw [ei]
        cases neg with
        | false => exact ⟨_, op_in_sign, fun F H rho sg fp v w S T Q r h1 h2 k => ⟨ch, y, by rw [h1.str, ex], h2.str, k⟩⟩
        | true => exact ⟨_, op_notIn_sign, fun F H rho sg fp v w S T Q r h1 h2 k => ⟨ch, y, by rw [h1.str, ex], h2.str, k⟩⟩
      | cons c2 r2 =>
        have ei : inS x y = !(Builtin.Str.occurrences y x 0 y.length 1).isEmpty := by unfold inS; rw [hx]
        rw [ei]
        cases neg with
        | false => exact ⟨_, op_in_str, fun F H rho sg fp v w S T Q r h1 h2 k => ⟨x, y, h1.str, h2.str, k⟩⟩
        | true => exact ⟨_, op_notin_str, fun F H rho sg fp v w S T Q r h1 h2 k => ⟨x, y, h1.str, h2.str, k⟩⟩
  · rename_i pv x hne
    split at e
    · rename_i kvs hd
      split at e
      · rename_i k hk
        cases e
        have fin : ∀ F H rho sg fp v w S T (Q : VK), R K O F H rho sg fp → RepA K O F H v (.d x) S → RepA K O F H w q T → Q (.bl (if neg then !(valD kvs k).isSome else (valD kvs k).isSome)) H → rDIn neg v w H Q := fun F H rho sg fp v w S T Q r h1 h2 kk => by
          obtain ⟨p, kws, rfl, e2, e3⟩ := dc_ok r h2 hd
          have ev := key_ok h1.1 hk
          subst ev
          refine ⟨p, valV kws k, rfl, DGet.k e2, ?_⟩
          have es : (valV kws k).isSome = (valD kvs k).isSome := by
            rcases RpK.val k e3 with ⟨a1, a2⟩ | ⟨d, w, a1, a2, _⟩
            · rw [a1, a2]; rfl
            · rw [a1, a2]; rfl
          rw [es]
          exact kk
        cases neg with
        | false => exact ⟨_, op_din (by omega), fin⟩
        | true => exact ⟨_, op_dnotin (by omega), fin⟩
      · cases e
    · split at e
      · rename_i b ys hq
        split at e
        · rename_i v0 vs0 ha hb
          cases e
          have fin : ∀ F H rho sg fp v w S T (Q : VK), R K O F H rho sg fp → RepA K O F H v (.d x) S → RepA K O F H w q T → Q (.bl (if neg then !inV v0 vs0 else inV v0 vs0)) H → rIn K neg v w H Q := fun F H rho sg fp v w S T Q r h1 h2 kk => by
            obtain ⟨p, vs, rfl, e2, e3⟩ := A.sq_ok r h2 hq
            obtain ⟨rfl, f1⟩ := atom_ok h1.1 ha
            obtain ⟨rfl, f2⟩ := atoms_ok e3 hb
            refine ⟨p, vs, rfl, ?_, f1, f2, kk⟩
            cases b with
            | true => exact .inl e2
            | false => exact .inr e2
          cases neg with
          | false => exact ⟨_, by rw [← hK] at fin; exact op_in_seq, by rw [hK]; exact fin⟩
          | true => exact ⟨_, by rw [← hK] at fin; exact op_notIn_seq, by rw [hK]; exact fin⟩
        · split at e
          · rename_i oo a ps hb hc
            split at e
            · rename_i hs
              cases e
              have dl : ∀ F H rho sg fp w T, R K O F H rho sg fp → RepA K O F H w q T → Dp K H w (.list ps) := fun F H rho sg fp w T r h2 => by
                obtain ⟨p, vs, rfl, e2, e3⟩ := A.sq_ok r h2 hq
                exact .lst e2 (DpAll_mono r.sub _ _ (RpA.dp _ _ _ e3 hc))
              cases neg with
              | false =>
                refine ⟨_, op_inD hu, fun F H rho sg fp v w S T Q r h1 h2 k => ?_⟩
                rw [hK]
                exact ⟨a, ps, A.dp (a := .d x) r h1 hb, dl _ _ _ _ _ _ _ r h2, hs.1, hs.2, k⟩
              | true =>
                refine ⟨_, op_notInD hu, fun F H rho sg fp v w S T Q r h1 h2 k => ?_⟩
                rw [hK]
                exact ⟨a, ps, A.dp (a := .d x) r h1 hb, dl _ _ _ _ _ _ _ r h2, hs.1, hs.2, k⟩
            · cases e
          · cases e
      · cases e
  · cases e
theorem sound_cmp (hK : X.K = K) (hu : X.A.units + 65 < cLine) (op : CmpOp) : Sound2 K O (OpR X (compareOp op)) (fun p q => bl? (cmpA op p q)) := by
  refine SoundB.up fun p q c e => ?_
  unfold cmpA at e
  split at e
  · exact sb_eq hK (by omega) e
  · cases e1 : eqA p q with
    | none => rw [e1] at e; cases e
    | some b => rw [e1] at e; cases e; exact sb_ne hK (by omega) e1
  · split at e
    · exact ⟨_, op_isN, fun F H rho sg fp v w S T Q r h1 h2 k => ⟨h2.1, by rw [isN_ok h1 e]; exact k⟩⟩
    · cases e
  · split at e
    · cases e1 : isN p with
      | none => rw [e1] at e; cases e
      | some b =>
        rw [e1] at e
        cases e
        exact ⟨_, op_notN, fun F H rho sg fp v w S T Q r h1 h2 k => ⟨h2.1, by rw [isN_ok h1 e1]; exact k⟩⟩
    · cases e
  · exact sb_in (neg := false) hK hu e
  · cases e1 : inA p q with
    | none => rw [e1] at e; cases e
    | some b => rw [e1] at e; cases e; exact sb_in (neg := true) hK hu e1
  · split at e
    · cases e
      exact ⟨_, op_lt, fun F H rho sg fp v w S T Q r h1 h2 k => ⟨_, _, h1.int, h2.int, k⟩⟩
    · cases e
      exact ⟨_, op_lt_str, fun F H rho sg fp v w S T Q r h1 h2 k => ⟨_, _, h1.str, h2.str, k⟩⟩
    · cases e
  · split at e
    · cases e
      exact ⟨_, op_le, fun F H rho sg fp v w S T Q r h1 h2 k => ⟨_, _, h1.int, h2.int, k⟩⟩
    · cases e
      exact ⟨_, op_le_str, fun F H rho sg fp v w S T Q r h1 h2 k => ⟨_, _, h1.str, h2.str, k⟩⟩
    · cases e
  · split at e
    · cases e
      exact ⟨_, op_gt, fun F H rho sg fp v w S T Q r h1 h2 k => ⟨_, _, h1.int, h2.int, k⟩⟩
    · cases e
  · split at e
    · cases e
      exact ⟨_, op_ge, fun F H rho sg fp v w S T Q r h1 h2 k => ⟨_, _, h1.int, h2.int, k⟩⟩
    · cases e
end
end Sn
namespace Sn
open PySem L2
/-! ### a[b] -/
def idxA (p q : A) : Option Rv := match p, q with
  | .d (.str z), .d (.int i) => if z.length ≤ 100000 then match atI z.cps.toList i with
      | some c => some (.d (.str ⟨#[c]⟩))
      | none => none
    else none
  | p, .d k => match p.dc? with
    | some kvs => match k.key with
      | some k => match valD kvs k with
        | some d => some (.d d)
        | none => none
      | none => none
    | none => match p.sq?, k with
      | some (_, xs), .int i => match atI xs i with
        | some d => some (.d d)
        | none => none
      | _, _ => none
  | _, _ => none
def PRul (X : Cx) (a b e : Expr) : R2 → Prop := fun r => ∀ ta tb, PE X a ta → PE X b tb → PE X e (tOp r ta tb)
def rDGet : R2 := fun x y H Q => ∃ a v, x = .ref a ∧ DGet H a y (some v) ∧ Q v H
section
variable {K : PySem.W.Frag} {O : OR} {X : Cx} {W : WX}
theorem atI_map {K : PySem.W.Frag} {F : Hp} {xs : List D} {vs : List V} {i : Int} {d : D} (h : RpA K F xs vs) (e : atI xs i = some d) : ∃ v, atI vs i = some v ∧ Rp K F d v := by
  unfold atI at e ⊢
  rw [h.length]
  cases ej : ixN xs.length i with
  | none => rw [ej] at e; cases e
  | some j =>
    rw [ej] at e
    exact h.get e
theorem sound_ix (hK : X.K = K) (hu : X.A.units + 65 < cLine) {a b : Expr} {pos : Pos} (hb : PlainIx b) : Sound2 K O (PRul X a b (.Subscript a b pos)) idxA := by
  intro p q z e
  unfold idxA at e
  split at e
  · rename_i z0 i
    split at e
    · rename_i hz
      split at e
      · rename_i c hc
        cases e
        exact ⟨_, fun ta tb ha hb' => pe_ix ix_str ha hb' hb, fun F H rho sg fp v w S T Q r h1 h2 k => ⟨z0, i, c, h1.str, h2.int, sz hz, hc, k F H fp _ (Stp.refl _ _ _) r rfl⟩⟩
      · cases e
    · cases e
  · rename_i pv k hne
    split at e
    · rename_i kvs hd
      split at e
      · rename_i k' hk
        split at e
        · rename_i d hv
          cases e
          refine ⟨rDGet, fun ta tb ha hb' => pe_dget (by omega) ha hb' hb, fun F H rho sg fp v w S T Q r h1 h2 kk => ?_⟩
          obtain ⟨p0, kws, rfl, e2, e3⟩ := dc_ok r h1 hd
          have ev := key_ok h2.1 hk
          subst ev
          rcases RpK.val k' e3 with ⟨a1, _⟩ | ⟨d', w', a1, a2, a3⟩
          · rw [hv] at a1; cases a1
          · rw [hv] at a1
            cases a1
            have g := DGet.k (k := k') e2
            rw [a2] at g
            exact ⟨p0, w', rfl, g, kk F H fp _ (Stp.refl _ _ _) r a3⟩
        · cases e
      · cases e
    · split at e
      · rename_i kk0 b0 xs i hq
        split at e
        · rename_i d hd
          cases e
          cases b0 with
          | true =>
            refine ⟨_, fun ta tb ha hb' => pe_ix ix_list ha hb' hb, fun F H rho sg fp v w S T Q r h1 h2 k => ?_⟩
            obtain ⟨p0, vs, rfl, e2, e3⟩ := A.sq_ok r h1 hq
            obtain ⟨v', e4, e5⟩ := atI_map e3 hd
            rw [hK]
            exact ⟨p0, vs, i, v', rfl, h2.int, e2, e4, k F H fp _ (Stp.refl _ _ _) r e5⟩
          | false =>
            refine ⟨_, fun ta tb ha hb' => pe_ix ix_tup ha hb' hb, fun F H rho sg fp v w S T Q r h1 h2 k => ?_⟩
            obtain ⟨p0, vs, rfl, e2, e3⟩ := A.sq_ok r h1 hq
            obtain ⟨v', e4, e5⟩ := atI_map e3 hd
            rw [hK]
            exact ⟨p0, vs, i, v', rfl, h2.int, e2, e4, k F H fp _ (Stp.refl _ _ _) r e5⟩
        · cases e
      · cases e
  · cases e
/-! ### freezing: something new, or a slot's list, becomes data -/
def toD (ar : Nat) (u : Rv) (r : Env) : Option (D × Env) := match u with
  | .d x => some (x, r)
  | .n (.l _ xs) => some (.lst xs, r)
  | .n (.m kvs) => some (.dic kvs, r)
  | .n _ => none
  | .v i => if ar ≤ i then match r[i]? with
      | some (some (.d x)) => some (x, r)
      | some (some (.l true xs)) => some (.lst xs, r.set i (some (.d (.lst xs))))
      | some (some (.m kvs)) => some (.dic kvs, r.set i (some (.d (.dic kvs))))
      | _ => none
    else none
end
section
variable {K : PySem.W.Frag} {O : OR} {F H F0 H0 : Hp} {fp fp0 : Fp} {rho : Env} {sg : St} {v : V}
/-- a new object of nobody's becomes data -/
theorem fz_new (ok : ORok O) (st : Stp F0 H0 fp0 F H fp) (r : R K O F H rho sg fp) {p : Addr} {o : HO} (hp : H p = some o) (h0 : H0 p = none) (hF : F p = none) (hn : ∀ i, ¬ fp i p) :
    Stp F0 H0 fp0 (upd F p o) H fp ∧ R K O (upd F p o) H rho sg fp ∧ Same F (upd F p o) := by
  have gF : Same F (upd F p o) := fun b u e => by rw [upd_ne (ne_of_none e hF)]; exact e
  refine ⟨⟨st.grow.trans gF, fun b h k m => ?_, st.frame, st.fps, st.stay⟩, ⟨fun b u e => ?_, r.len, fun i a h => ?_, r.own, fun i b z => ?_, r.dis⟩, gF⟩
  · rw [upd_ne (show b ≠ p from fun e => k (by rw [e]; exact h0))]
    exact st.new b h k m
  · rw [upd_at] at e
    split at e
    · rename_i hb
      cases e
      rw [hb]
      exact hp
    · exact r.sub _ _ e
  · obtain ⟨v, h1, h2⟩ := r.rep i a h
    exact ⟨v, h1, h2.mono ok gF fun _ _ => rfl⟩
  · rw [upd_ne (show b ≠ p from fun e => hn i (by rw [← e]; exact z))]
    exact r.fre i b z
/-- a slot's own object becomes data -/
theorem fz_slot (ok : ORok O) (st : Stp F0 H0 fp0 F H fp) (r : R K O F H rho sg fp) {i : Nat} {p : Addr} {o : HO} {d : D} (hs : sg[i]? = some (some (.ref p))) (hp : H p = some o) (hi : ∀ b, fp i b ↔ b = p) (hd : Rp K (upd F p o) d (.ref p)) :
    ∃ fp', Stp F0 H0 fp0 (upd F p o) H fp' ∧ R K O (upd F p o) H (rho.set i (some (.d d))) sg fp' ∧ Same F (upd F p o) := by
  have hF : F p = none := r.fre i p ((hi p).mpr rfl)
  have gF : Same F (upd F p o) := fun b u e => by rw [upd_ne (ne_of_none e hF)]; exact e
  have other : ∀ j, j ≠ i → ∀ b, fp j b → b ≠ p := fun j hj b z e => hj (r.dis j i b z (by rw [e]; exact (hi p).mpr rfl))
  have hlt : i < rho.length := by
    rw [r.len]
    exact (List.getElem?_eq_some_iff.mp hs).1
  refine ⟨fun j b => j ≠ i ∧ fp j b, ⟨st.grow.trans gF, fun b h k m => ?_, st.frame, fun j b z => st.fps j b z.2, st.stay⟩, ⟨fun b u e => ?_, by rw [List.length_set]; exact r.len, fun j a h => ?_, fun j b z => ?_, fun j b z => ?_, fun j k b z z' => r.dis j k b z.2 z'.2⟩, gF⟩
  · rw [upd_ne (show b ≠ p from fun e => ?_)]
    · exact st.new b h k m
    · rcases st.fps i p ((hi p).mpr rfl) with ⟨j, q⟩ | q
      · exact m j (by rw [e]; exact q)
      · exact k (by rw [e]; exact q)
  · rw [upd_at] at e
    split at e
    · rename_i hb
      cases e
      rw [hb]
      exact hp
    · exact r.sub _ _ e
  · by_cases hj : j = i
    · subst hj
      rw [List.getElem?_set_self hlt] at h
      cases h
      exact ⟨_, hs, hd, fun b z => z.1 rfl⟩
    · rw [List.getElem?_set_ne (Ne.symm hj)] at h
      obtain ⟨v, h1, h2⟩ := r.rep j a h
      refine ⟨v, h1, ?_⟩
      have e : (fun b => j ≠ i ∧ fp j b) = fp j := by
        funext b
        exact propext ⟨fun z => z.2, fun z => ⟨hj, z⟩⟩
      show RepA K O (upd F p o) H v a (fun b => j ≠ i ∧ fp j b)
      rw [e]
      exact h2.mono ok gF fun _ _ => rfl
  · obtain ⟨a, h1, h2⟩ := r.own j b z.2
    exact ⟨a, by rw [List.getElem?_set_ne (Ne.symm z.1)]; exact h1, h2⟩
  · rw [upd_ne (other j z.1 b z.2)]
    exact r.fre j b z.2
theorem toD_ok (ok : ORok O) {ar : Nat} {u : Rv} {d : D} {rho' : Env} (e : toD ar u rho = some (d, rho')) (st : Stp F0 H0 fp0 F H fp) (r : R K O F H rho sg fp) (h : RepR K O H0 F H fp sg v u) :
    ∃ F' fp', Stp F0 H0 fp0 F' H fp' ∧ R K O F' H rho' sg fp' ∧ Rp K F' d v := by
  cases u with
  | d x => cases e; exact ⟨F, fp, st, r, h⟩
  | n a =>
    obtain ⟨S, h1, h2, h3⟩ := h
    cases a with
    | d x => cases h2
    | l w xs =>
      cases e
      obtain ⟨p, vs, rfl, e2, e3, e4⟩ := h1
      obtain ⟨a1, a2, a3⟩ := h3 p ((e4 p).mpr rfl)
      obtain ⟨s2, r2, g⟩ := fz_new ok st r e2 a2 a1 a3
      exact ⟨_, fp, s2, r2, p, vs, rfl, upd_same, RpA.mono g _ _ e3⟩
    | m kvs =>
      cases e
      obtain ⟨p, vs, rfl, e2, e3, e4⟩ := h1
      obtain ⟨a1, a2, a3⟩ := h3 p ((e4 p).mpr rfl)
      obtain ⟨s2, r2, g⟩ := fz_new ok st r e2 a2 a1 a3
      exact ⟨_, fp, s2, r2, p, vs, rfl, upd_same, RpK.mono g _ _ e3⟩
    | ob n s => cases e
  | v i =>
    unfold toD at e
    simp only at e
    split at e
    · split at e
      · rename_i x ex
        cases e
        obtain ⟨w, h1, h2⟩ := r.rep i _ ex
        rw [show sg[i]? = some (some v) from h] at h1
        cases h1
        exact ⟨F, fp, st, r, h2.1⟩
      · rename_i xs ex
        cases e
        obtain ⟨w, h1, p, vs, rfl, e2, e3, e4⟩ := r.rep i _ ex
        rw [show sg[i]? = some (some v) from h] at h1
        cases h1
        have hF : F p = none := r.fre i p ((e4 p).mpr rfl)
        have gF : Same F (upd F p (.lst vs)) := fun b u e => by rw [upd_ne (ne_of_none e hF)]; exact e
        have hd : Rp K (upd F p (.lst vs)) (.lst xs) (.ref p) := ⟨p, vs, rfl, upd_same, RpA.mono gF _ _ e3⟩
        obtain ⟨fp', s2, r2, _⟩ := fz_slot ok st r h e2 e4 hd
        exact ⟨_, fp', s2, r2, hd⟩
      · rename_i kvs ex
        cases e
        obtain ⟨w, h1, p, vs, rfl, e2, e3, e4⟩ := r.rep i _ ex
        rw [show sg[i]? = some (some v) from h] at h1
        cases h1
        have hF : F p = none := r.fre i p ((e4 p).mpr rfl)
        have gF : Same F (upd F p (.dK vs)) := fun b u e => by rw [upd_ne (ne_of_none e hF)]; exact e
        have hd : Rp K (upd F p (.dK vs)) (.dic kvs) (.ref p) := ⟨p, vs, rfl, upd_same, RpK.mono gF _ _ e3⟩
        obtain ⟨fp', s2, r2, _⟩ := fz_slot ok st r h e2 e4 hd
        exact ⟨_, fp', s2, r2, hd⟩
      · cases e
    · cases e
end
section
variable {K : PySem.W.Frag} {O : OR} {X : Cx} {W : WX}
/-- as data -/
def xFz (ar : Nat) (x : X1) : X1 := fun r => (x r).bind fun u r1 => match toD ar u r1 with
  | some (d, r2) => .ok (.d d) r2
  | none => .no
theorem ok_fz (ok : ORok O) {ar : Nat} {x : X1} {e : Expr} (h : OkE K O X W x e) : OkE K O X W (xFz ar x) e := fun rho => by
  have k := h rho
  unfold xFz
  cases ex : x rho with
  | no => exact PEno
  | ex y r1 => rw [ex] at k; exact k
  | ok u r1 =>
    rw [ex] at k
    show PE X e (tEv K O W rho (match toD ar u r1 with
      | some (d, r2) => .ok (.d d) r2
      | none => .no))
    cases ed : toD ar u r1 with
    | none => exact PEno
    | some dr =>
      obtain ⟨d, r2⟩ := dr
      refine PEimp k fun sg H Q q => ?_
      obtain ⟨F, fp, r, q⟩ := q
      refine ⟨F, fp, r, fun F1 H1 fp1 v s1 q1 p1 => ?_⟩
      obtain ⟨F2, fp2, s2, r2', p2⟩ := toD_ok ok ed s1 q1 p1
      exact q F2 H1 fp2 v s2 r2' p2
/-- as an argument -/
def xAr (ar : Nat) (x : X1) : X1 := x
theorem ok_ar (ok : ORok O) {ar : Nat} {x : X1} {e : Expr} (h : OkE K O X W x e) : OkE K O X W (xAr ar x) e := h
/-! ### tests -/
def xtB (x : X1) : XT := fun r => (x r).bind fun u r1 => match u.at r1 with
  | some (.d (.bl b)) => .ok b r1
  | _ => .no
/-- an expression whose value is a truth, as a test -/
theorem okT_of {x : X1} {e : Expr} (ok : ORok O) (h : OkE K O X W x e) (hp : ∀ t, PE X e t → PT X e (tTest t)) : OkT K O X W (xtB x) e := fun rho => by
  have k := h rho
  unfold xtB
  cases ex : x rho with
  | no => exact PTno
  | ex y r1 =>
    rw [ex] at k
    refine PTimp (hp _ k) fun sg H Q q => ?_
    obtain ⟨F, fp, r, q⟩ := q
    exact ⟨F, fp, r, q⟩
  | ok u r1 =>
    rw [ex] at k
    show PT X e (tEvT K O W rho (match u.at r1 with
      | some (.d (.bl b)) => .ok b r1
      | _ => .no))
    split
    · rename_i b eb
      refine PTimp (hp _ k) fun sg H Q q => ?_
      obtain ⟨F, fp, r, q⟩ := q
      refine ⟨F, fp, r, fun F1 H1 fp1 v s1 q1 p1 => ?_⟩
      obtain ⟨S, hS, _⟩ := p1.get q1 eb
      exact ⟨b, hS.bl, q F1 H1 fp1 s1 q1⟩
    · exact PTno
/-- the truth of any value -/
def truA : A → Option Bool
  | .d .non => some false
  | .d (.bl b) => some b
  | .d (.int i) => some (i != 0)
  | .d (.str y) => if y.length ≤ 100000 then some ((y.length : Int) != 0) else none
  | a => match a.sq? with
    | some (_, xs) => some (!xs.isEmpty)
    | none => none
theorem tru_A {F H : Hp} {fp : Fp} {rho : Env} {sg : St} {v : V} {a : A} {S : Addr → Prop} {b : Bool} (r : R K O F H rho sg fp) (h : RepA K O F H v a S) (e : truA a = some b) : TruV K v H b := by
  unfold truA at e
  split at e
  · cases e; cases (show v = .non from h.1); exact rfl
  · cases e; cases h.bl; exact rfl
  · cases e; cases h.int; exact rfl
  · split at e
    · rename_i hz
      cases e; cases h.str; exact ⟨sz hz, rfl⟩
    · cases e
  · split at e
    · rename_i b0 xs hq
      cases e
      obtain ⟨p, vs, rfl, e2, e3⟩ := A.sq_ok r h hq
      have el : vs.isEmpty = xs.isEmpty := by
        have := e3.length
        cases vs <;> cases xs <;> simp_all
      cases b0 with
      | true => exact .inl ⟨vs, e2, by rw [el]⟩
      | false => exact .inr (.inl ⟨vs, e2, by rw [el]⟩)
    · cases e
def xtT (x : X1) : XT := fun r => (x r).bind fun u r1 => match u.at r1 with
  | some a => match truA a with
    | some b => .ok b r1
    | none => .no
  | none => .no
theorem okT_tru {x : X1} {e : Expr} (hK : X.K = K) (h : OkE K O X W x e) (he : ∀ whole, isTrue e X.env whole = (do let v ← whole; standAt e.pos; holding [v] (truthy v))) : OkT K O X W (xtT x) e := fun rho => by
  have k := h rho
  unfold xtT
  cases ex : x rho with
  | no => exact PTno
  | ex y r1 =>
    rw [ex] at k
    refine PTimp (pt_truth k he) fun sg H Q q => ?_
    obtain ⟨F, fp, r, q⟩ := q
    exact ⟨F, fp, r, q⟩
  | ok u r1 =>
    rw [ex] at k
    show PT X e (tEvT K O W rho (match u.at r1 with
      | some a => match truA a with
        | some b => .ok b r1
        | none => .no
      | none => .no))
    cases ea : u.at r1 with
    | none => exact PTno
    | some a =>
      show PT X e (tEvT K O W rho (match truA a with
        | some b => .ok b r1
        | none => .no))
      cases eb : truA a with
      | none => exact PTno
      | some b =>
        refine PTimp (pt_truth k he) fun sg H Q q => ?_
        obtain ⟨F, fp, r, q⟩ := q
        refine ⟨F, fp, r, fun F1 H1 fp1 v s1 q1 p1 => ?_⟩
        obtain ⟨S, hS, _⟩ := p1.get q1 ea
        refine ⟨b, ?_, q F1 H1 fp1 s1 q1⟩
        rw [hK]
        exact tru_A q1 hS eb
/-! ### not, and, or, if else -/
def xtNot (t : XT) : XT := fun r => (t r).bind fun b r1 => .ok (!b) r1
theorem okT_not {t : XT} {e : Expr} {pos : Pos} (h : OkT K O X W t e) : OkT K O X W (xtNot t) (.UnaryOp .Not e pos) := fun rho => by
  have k := h rho
  unfold xtNot
  cases ex : t rho with
  | no => exact PTno
  | ex y r1 =>
    rw [ex] at k
    refine PTimp (pt_not k) fun sg H Q q => ?_
    obtain ⟨F, fp, r, q⟩ := q
    exact ⟨F, fp, r, q⟩
  | ok b r1 =>
    rw [ex] at k
    refine PTimp (pt_not k) fun sg H Q q => ?_
    obtain ⟨F, fp, r, q⟩ := q
    exact ⟨F, fp, r, fun F1 H1 fp1 s1 q1 => q F1 H1 fp1 s1 q1⟩
def OkW (K : PySem.W.Frag) (O : OR) (X : Cx) (W : WX) (x : XT) (e : Expr) : Prop := ∀ rho, PW X e (tEvT K O W rho (x rho))
theorem PWimp {e : Expr} {t t' : TT} (h : PW X e t) (i : ∀ sg H Q, t' sg H Q → t sg H Q) : PW X e t' := ⟨fun wh pins s sg H Q I q => h.run wh pins s sg H Q I (i _ _ _ q)⟩
def xtAnd (t u : XT) : XT := fun r => (t r).bind fun b r1 => if b = true then u r1 else .ok false r1
def xtOr (t u : XT) : XT := fun r => (t r).bind fun b r1 => if b = true then .ok true r1 else u r1
theorem PWno {e : Expr} {rho : Env} : PW X e (tEvT K O W rho .no) := ⟨fun _ pins s sg H Q I q => by
  obtain ⟨F, fp, _, z⟩ := q
  exact z.elim⟩
theorem okW_and1 {t : XT} {a : Expr} {pos : Pos} (h : OkT K O X W t a) : OkW K O X W t (.BoolOp .And [a] pos) := fun rho => pw_and1 (h rho)
theorem okW_or1 {t : XT} {a : Expr} {pos : Pos} (h : OkT K O X W t a) : OkW K O X W t (.BoolOp .Or [a] pos) := fun rho => pw_or1 (h rho)
theorem okW_and {t u : XT} {a b : Expr} {rest : List Expr} {pos : Pos} (h : OkT K O X W t a) (h2 : OkW K O X W u (.BoolOp .And (b :: rest) pos)) : OkW K O X W (xtAnd t u) (.BoolOp .And (a :: b :: rest) pos) := fun rho => by
  have k := h rho
  unfold xtAnd
  cases ex : t rho with
  | no => exact PWno
  | ex y r1 =>
    rw [ex] at k
    refine PWimp (pw_and k (h2 rho)) fun sg H Q q => ?_
    obtain ⟨F, fp, r, q⟩ := q
    exact ⟨F, fp, r, q⟩
  | ok c r1 =>
    rw [ex] at k
    show PW X _ (tEvT K O W rho (if c = true then u r1 else .ok false r1))
    have k2 := h2 r1
    cases c with
    | false =>
      refine PWimp (pw_and k k2) fun sg H Q q => ?_
      obtain ⟨F, fp, r, q⟩ := q
      exact ⟨F, fp, r, fun F1 H1 fp1 s1 q1 => q F1 H1 fp1 s1 q1⟩
    | true =>
      show PW X _ (tEvT K O W rho (u r1))
      cases eu : u r1 with
      | no => exact PWno
      | ex y r2 =>
        rw [eu] at k2
        refine PWimp (pw_and k k2) fun sg H Q q => ?_
        obtain ⟨F, fp, r, q⟩ := q
        exact ⟨F, fp, r, fun F1 H1 fp1 s1 q1 => ⟨F1, fp1, q1, fun F2 H2 fp2 d s2 q2 p2 => q F2 H2 fp2 d (s1.trans s2) q2 p2⟩⟩
      | ok c2 r2 =>
        rw [eu] at k2
        refine PWimp (pw_and k k2) fun sg H Q q => ?_
        obtain ⟨F, fp, r, q⟩ := q
        exact ⟨F, fp, r, fun F1 H1 fp1 s1 q1 => ⟨F1, fp1, q1, fun F2 H2 fp2 s2 q2 => q F2 H2 fp2 (s1.trans s2) q2⟩⟩
theorem okW_or {t u : XT} {a b : Expr} {rest : List Expr} {pos : Pos} (h : OkT K O X W t a) (h2 : OkW K O X W u (.BoolOp .Or (b :: rest) pos)) : OkW K O X W (xtOr t u) (.BoolOp .Or (a :: b :: rest) pos) := fun rho => by
  have k := h rho
  unfold xtOr
  cases ex : t rho with
  | no => exact PWno
  | ex y r1 =>
    rw [ex] at k
    refine PWimp (pw_or k (h2 rho)) fun sg H Q q => ?_
    obtain ⟨F, fp, r, q⟩ := q
    exact ⟨F, fp, r, q⟩
  | ok c r1 =>
    rw [ex] at k
    show PW X _ (tEvT K O W rho (if c = true then .ok true r1 else u r1))
    have k2 := h2 r1
    cases c with
    | true =>
      refine PWimp (pw_or k k2) fun sg H Q q => ?_
      obtain ⟨F, fp, r, q⟩ := q
      exact ⟨F, fp, r, fun F1 H1 fp1 s1 q1 => q F1 H1 fp1 s1 q1⟩
    | false =>
      show PW X _ (tEvT K O W rho (u r1))
      cases eu : u r1 with
      | no => exact PWno
      | ex y r2 =>
        rw [eu] at k2
        refine PWimp (pw_or k k2) fun sg H Q q => ?_
        obtain ⟨F, fp, r, q⟩ := q
        exact ⟨F, fp, r, fun F1 H1 fp1 s1 q1 => ⟨F1, fp1, q1, fun F2 H2 fp2 d s2 q2 p2 => q F2 H2 fp2 d (s1.trans s2) q2 p2⟩⟩
      | ok c2 r2 =>
        rw [eu] at k2
        refine PWimp (pw_or k k2) fun sg H Q q => ?_
        obtain ⟨F, fp, r, q⟩ := q
        exact ⟨F, fp, r, fun F1 H1 fp1 s1 q1 => ⟨F1, fp1, q1, fun F2 H2 fp2 s2 q2 => q F2 H2 fp2 (s1.trans s2) q2⟩⟩
/-- as values: all but the last are truths -/
def xAnd (a b : X1) : X1 := fun r => (a r).bind fun u r1 => match u.at r1 with
  | some (.d (.bl true)) => b r1
  | some (.d (.bl false)) => .ok (.d (.bl false)) r1
  | _ => .no
def xOr (a b : X1) : X1 := fun r => (a r).bind fun u r1 => match u.at r1 with
  | some (.d (.bl true)) => .ok (.d (.bl true)) r1
  | some (.d (.bl false)) => b r1
  | _ => .no
theorem ok_one {x : X1} {a : Expr} {op : BoolOp} {pos : Pos} (h : OkE K O X W x a) : OkE K O X W x (.BoolOp op [a] pos) := fun rho => pe_one (h rho)
theorem ok_and {xa xb : X1} {a b : Expr} {rest : List Expr} {pos : Pos} (h : OkE K O X W xa a) (h2 : OkE K O X W xb (.BoolOp .And (b :: rest) pos)) : OkE K O X W (xAnd xa xb) (.BoolOp .And (a :: b :: rest) pos) := fun rho => by
  have k := h rho
  unfold xAnd
  cases ex : xa rho with
  | no => exact PEno
  | ex y r1 =>
    rw [ex] at k
    refine PEimp (pe_and k (h2 rho)) fun sg H Q q => ?_
    obtain ⟨F, fp, r, q⟩ := q
    exact ⟨F, fp, r, q⟩
  | ok u r1 =>
    rw [ex] at k
    have k2 := h2 r1
    show PE X _ (tEv K O W rho (match u.at r1 with
      | some (.d (.bl true)) => xb r1
      | some (.d (.bl false)) => .ok (.d (.bl false)) r1
      | _ => .no))
    split
    · rename_i eb
      cases eu : xb r1 with
      | no => exact PEno
      | ex y r2 =>
        rw [eu] at k2
        refine PEimp (pe_and k k2) fun sg H Q q => ?_
        obtain ⟨F, fp, r, q⟩ := q
        refine ⟨F, fp, r, fun F1 H1 fp1 v s1 q1 p1 => ?_⟩
        obtain ⟨S, hS, _⟩ := p1.get q1 eb
        exact ⟨true, hS.bl, iteT ⟨F1, fp1, q1, fun F2 H2 fp2 d s2 q2 p2 => q F2 H2 fp2 d (s1.trans s2) q2 p2⟩⟩
      | ok c2 r2 =>
        rw [eu] at k2
        refine PEimp (pe_and k k2) fun sg H Q q => ?_
        obtain ⟨F, fp, r, q⟩ := q
        refine ⟨F, fp, r, fun F1 H1 fp1 v s1 q1 p1 => ?_⟩
        obtain ⟨S, hS, _⟩ := p1.get q1 eb
        exact ⟨true, hS.bl, iteT ⟨F1, fp1, q1, fun F2 H2 fp2 d s2 q2 p2 => q F2 H2 fp2 d (s1.trans s2) q2 (p2.back s1.stay)⟩⟩
    · rename_i eb
      refine PEimp (pe_and k k2) fun sg H Q q => ?_
      obtain ⟨F, fp, r, q⟩ := q
      refine ⟨F, fp, r, fun F1 H1 fp1 v s1 q1 p1 => ?_⟩
      obtain ⟨S, hS, _⟩ := p1.get q1 eb
      exact ⟨false, hS.bl, iteF (q F1 H1 fp1 _ s1 q1 rfl)⟩
    · exact PEno
theorem ok_or {xa xb : X1} {a b : Expr} {rest : List Expr} {pos : Pos} (h : OkE K O X W xa a) (h2 : OkE K O X W xb (.BoolOp .Or (b :: rest) pos)) : OkE K O X W (xOr xa xb) (.BoolOp .Or (a :: b :: rest) pos) := fun rho => by
  have k := h rho
  unfold xOr
  cases ex : xa rho with
  | no => exact PEno
  | ex y r1 =>
    rw [ex] at k
    refine PEimp (pe_or k (h2 rho)) fun sg H Q q => ?_
    obtain ⟨F, fp, r, q⟩ := q
    exact ⟨F, fp, r, q⟩
  | ok u r1 =>
    rw [ex] at k
    have k2 := h2 r1
    show PE X _ (tEv K O W rho (match u.at r1 with
      | some (.d (.bl true)) => .ok (.d (.bl true)) r1
      | some (.d (.bl false)) => xb r1
      | _ => .no))
    split
    · rename_i eb
      refine PEimp (pe_or k k2) fun sg H Q q => ?_
      obtain ⟨F, fp, r, q⟩ := q
      refine ⟨F, fp, r, fun F1 H1 fp1 v s1 q1 p1 => ?_⟩
      obtain ⟨S, hS, _⟩ := p1.get q1 eb
      exact ⟨true, hS.bl, iteT (q F1 H1 fp1 _ s1 q1 rfl)⟩
    · rename_i eb
      cases eu : xb r1 with
      | no => exact PEno
      | ex y r2 =>
        rw [eu] at k2
        refine PEimp (pe_or k k2) fun sg H Q q => ?_
        obtain ⟨F, fp, r, q⟩ := q
        refine ⟨F, fp, r, fun F1 H1 fp1 v s1 q1 p1 => ?_⟩
        obtain ⟨S, hS, _⟩ := p1.get q1 eb
        exact ⟨false, hS.bl, iteF ⟨F1, fp1, q1, fun F2 H2 fp2 d s2 q2 p2 => q F2 H2 fp2 d (s1.trans s2) q2 p2⟩⟩
      | ok c2 r2 =>
        rw [eu] at k2
        refine PEimp (pe_or k k2) fun sg H Q q => ?_
        obtain ⟨F, fp, r, q⟩ := q
        refine ⟨F, fp, r, fun F1 H1 fp1 v s1 q1 p1 => ?_⟩
        obtain ⟨S, hS, _⟩ := p1.get q1 eb
        exact ⟨false, hS.bl, iteF ⟨F1, fp1, q1, fun F2 H2 fp2 d s2 q2 p2 => q F2 H2 fp2 d (s1.trans s2) q2 (p2.back s1.stay)⟩⟩
    · exact PEno
def xNot (a : X1) : X1 := fun r => (a r).bind fun u r1 => match u.at r1 with
  | some (.d (.bl b)) => .ok (.d (.bl (!b))) r1
  | _ => .no
theorem ok_not {xa : X1} {a : Expr} {pos : Pos} (h : OkE K O X W xa a) : OkE K O X W (xNot xa) (.UnaryOp .Not a pos) := fun rho => by
  have k := h rho
  unfold xNot
  cases ex : xa rho with
  | no => exact PEno
  | ex y r1 =>
    rw [ex] at k
    refine PEimp (pe_not k) fun sg H Q q => ?_
    obtain ⟨F, fp, r, q⟩ := q
    exact ⟨F, fp, r, q⟩
  | ok u r1 =>
    rw [ex] at k
    show PE X _ (tEv K O W rho (match u.at r1 with
      | some (.d (.bl b)) => .ok (.d (.bl (!b))) r1
      | _ => .no))
    split
    · rename_i b eb
      refine PEimp (pe_not k) fun sg H Q q => ?_
      obtain ⟨F, fp, r, q⟩ := q
      refine ⟨F, fp, r, fun F1 H1 fp1 v s1 q1 p1 => ?_⟩
      obtain ⟨S, hS, _⟩ := p1.get q1 eb
      exact ⟨b, hS.bl, q F1 H1 fp1 _ s1 q1 rfl⟩
    · exact PEno
def xNeg (a : X1) : X1 := fun r => (a r).bind fun u r1 => match u.at r1 with
  | some (.d (.int i)) => .ok (.d (.int (-i))) r1
  | _ => .no
theorem ok_neg {xa : X1} {a : Expr} {pos : Pos} (h : OkE K O X W xa a) : OkE K O X W (xNeg xa) (.UnaryOp .USub a pos) := fun rho => by
  have k := h rho
  unfold xNeg
  cases ex : xa rho with
  | no => exact PEno
  | ex y r1 =>
    rw [ex] at k
    refine PEimp (pe_un un_neg k) fun sg H Q q => ?_
    obtain ⟨F, fp, r, q⟩ := q
    exact ⟨F, fp, r, q⟩
  | ok u r1 =>
    rw [ex] at k
    show PE X _ (tEv K O W rho (match u.at r1 with
      | some (.d (.int i)) => .ok (.d (.int (-i))) r1
      | _ => .no))
    split
    · rename_i b eb
      refine PEimp (pe_un un_neg k) fun sg H Q q => ?_
      obtain ⟨F, fp, r, q⟩ := q
      refine ⟨F, fp, r, fun F1 H1 fp1 v s1 q1 p1 => ?_⟩
      obtain ⟨S, hS, _⟩ := p1.get q1 eb
      exact ⟨b, hS.int, q F1 H1 fp1 _ s1 q1 rfl⟩
    · exact PEno
def xIf (t : XT) (a b : X1) : X1 := fun r => (t r).bind fun c r1 => if c = true then a r1 else b r1
theorem ok_if {t : XT} {xa xb : X1} {c a b : Expr} {pos : Pos} (ht : OkT K O X W t c) (ha : OkE K O X W xa a) (hb : OkE K O X W xb b) : OkE K O X W (xIf t xa xb) (.IfExp c a b pos) := fun rho => by
  have k := ht rho
  unfold xIf
  cases ex : t rho with
  | no => exact PEno
  | ex y r1 =>
    rw [ex] at k
    refine PEimp (pe_ifExp k (ha rho) (hb rho)) fun sg H Q q => ?_
    obtain ⟨F, fp, r, q⟩ := q
    exact ⟨F, fp, r, q⟩
  | ok c r1 =>
    rw [ex] at k
    have ka := ha r1
    have kb := hb r1
    cases c with
    | true =>
      show PE X _ (tEv K O W rho (xa r1))
      cases eu : xa r1 with
      | no => exact PEno
      | ex y r2 =>
        rw [eu] at ka
        refine PEimp (pe_ifExp k ka kb) fun sg H Q q => ?_
        obtain ⟨F, fp, r, q⟩ := q
        exact ⟨F, fp, r, fun F1 H1 fp1 s1 q1 => iteT ⟨F1, fp1, q1, fun F2 H2 fp2 d s2 q2 p2 => q F2 H2 fp2 d (s1.trans s2) q2 p2⟩⟩
      | ok c2 r2 =>
        rw [eu] at ka
        refine PEimp (pe_ifExp k ka kb) fun sg H Q q => ?_
        obtain ⟨F, fp, r, q⟩ := q
        exact ⟨F, fp, r, fun F1 H1 fp1 s1 q1 => iteT ⟨F1, fp1, q1, fun F2 H2 fp2 d s2 q2 p2 => q F2 H2 fp2 d (s1.trans s2) q2 (p2.back s1.stay)⟩⟩
    | false =>
      show PE X _ (tEv K O W rho (xb r1))
      cases eu : xb r1 with
      | no => exact PEno
      | ex y r2 =>
        rw [eu] at kb
        refine PEimp (pe_ifExp k ka kb) fun sg H Q q => ?_
        obtain ⟨F, fp, r, q⟩ := q
        exact ⟨F, fp, r, fun F1 H1 fp1 s1 q1 => iteF ⟨F1, fp1, q1, fun F2 H2 fp2 d s2 q2 p2 => q F2 H2 fp2 d (s1.trans s2) q2 p2⟩⟩
      | ok c2 r2 =>
        rw [eu] at kb
        refine PEimp (pe_ifExp k ka kb) fun sg H Q q => ?_
        obtain ⟨F, fp, r, q⟩ := q
        exact ⟨F, fp, r, fun F1 H1 fp1 s1 q1 => iteF ⟨F1, fp1, q1, fun F2 H2 fp2 d s2 q2 p2 => q F2 H2 fp2 d (s1.trans s2) q2 (p2.back s1.stay)⟩⟩
end
end Sn
namespace Sn
open PySem L2
/-! ### several values -/
def RepRs (K : PySem.W.Frag) (O : OR) (H : Hp) (F' H' : Hp) (fp' : Fp) (sg : St) : List V → List Rv → Prop
  | [], us => us = []
  | v :: vs, us => ∃ u r, us = u :: r ∧ RepR K O H F' H' fp' sg v u ∧ RepRs K O H F' H' fp' sg vs r
def tEvA (K : PySem.W.Frag) (O : OR) (W : WX) (rho : Env) (m : Rs (List Rv)) : TA := fun sg H Q => ∃ F fp, R K O F H rho sg fp ∧ match m with
  | .ok us rho' => ∀ F' H' fp' vs, Stp F H fp F' H' fp' → R K O F' H' rho' sg fp' → RepRs K O H F' H' fp' sg vs us → Q vs H'
  | .ex x rho' => ∀ F' H' fp' d, Stp F H fp F' H' fp' → R K O F' H' rho' sg fp' → RpX K F' H' d x.fs → W x.cls d sg H'
  | .no => False
theorem RepRs.back {K : PySem.W.Frag} {O : OR} {H H1 F2 H2 : Hp} {fp2 : Fp} {sg : St} : ∀ {vs : List V} {us : List Rv}, RepRs K O H1 F2 H2 fp2 sg vs us → (∀ b, H b ≠ none → H1 b ≠ none) → RepRs K O H F2 H2 fp2 sg vs us
  | [], us, h, _ => h
  | v :: vs, us, h, k => by
    obtain ⟨u, r, e, h1, h2⟩ := h
    exact ⟨u, r, e, h1.back k, RepRs.back h2 k⟩
section
variable {K : PySem.W.Frag} {O : OR} {X : Cx} {W : WX}
theorem PAimp {es : List Expr} {t t' : TA} (h : PA X es t) (i : ∀ sg H Q, t' sg H Q → t sg H Q) : PA X es t' := ⟨fun pos pins s sg H Q I q => h.run pos pins s sg H Q I (i _ _ _ q)⟩
theorem PAno {es : List Expr} {rho : Env} : PA X es (tEvA K O W rho .no) := ⟨fun _ pins s sg H Q I q => by
  obtain ⟨F, fp, _, z⟩ := q
  exact z.elim⟩
def OkA (K : PySem.W.Frag) (O : OR) (X : Cx) (W : WX) (x : XA) (es : List Expr) : Prop := ∀ rho, PA X es (tEvA K O W rho (x rho))
def xaNil : XA := fun r => .ok [] r
def xaCons (x : X1) (xs : XA) : XA := fun r => (x r).bind fun u r1 => (xs r1).bind fun us r2 => .ok (u :: us) r2
def notStar : Expr → Bool
  | .Starred _ _ => false
  | _ => true
theorem star_cons {e : Expr} {es : List Expr} {env : PySem.Env} (h : notStar e = true) : starEach (e :: es) env = (false, eval e env) :: starEach es env := by
  cases e <;> first | rfl | cases h
theorem okA_nil : OkA K O X W xaNil [] := fun rho => PAimp pa_nil fun sg H Q q => by
  obtain ⟨F, fp, r, q⟩ := q
  exact q F H fp [] (Stp.refl _ _ _) r rfl
theorem okA_cons (ok : ORok O) {x : X1} {xs : XA} {e : Expr} {es : List Expr} (hs : notStar e = true) (h : OkE K O X W x e) (h2 : OkA K O X W xs es) : OkA K O X W (xaCons x xs) (e :: es) := fun rho => by
  have k := h rho
  unfold xaCons
  cases ex : x rho with
  | no => exact PAno
  | ex y r1 =>
    rw [ex] at k
    refine PAimp (pa_cons k (h2 rho) (star_cons hs)) fun sg H Q q => ?_
    obtain ⟨F, fp, r, q⟩ := q
    exact ⟨F, fp, r, q⟩
  | ok u r1 =>
    rw [ex] at k
    have k2 := h2 r1
    show PA X (e :: es) (tEvA K O W rho ((xs r1).bind fun us r2 => .ok (u :: us) r2))
    cases eu : xs r1 with
    | no => exact PAno
    | ex y r2 =>
      rw [eu] at k2
      refine PAimp (pa_cons k k2 (star_cons hs)) fun sg H Q q => ?_
      obtain ⟨F, fp, r, q⟩ := q
      exact ⟨F, fp, r, fun F1 H1 fp1 v s1 q1 p1 => ⟨F1, fp1, q1, fun F2 H2 fp2 d s2 q2 p2 => q F2 H2 fp2 d (s1.trans s2) q2 p2⟩⟩
    | ok us r2 =>
      rw [eu] at k2
      refine PAimp (pa_cons k k2 (star_cons hs)) fun sg H Q q => ?_
      obtain ⟨F, fp, r, q⟩ := q
      refine ⟨F, fp, r, fun F1 H1 fp1 v s1 q1 p1 => ⟨F1, fp1, q1, fun F2 H2 fp2 vs s2 q2 p2 => q F2 H2 fp2 (v :: vs) (s1.trans s2) q2 ⟨u, us, rfl, p1.keep ok s2, ?_⟩⟩⟩
      exact p2.back s1.stay
/-- all of them data -/
def allD : List Rv → Option (List D)
  | [] => some []
  | .d x :: us => match allD us with
    | some ds => some (x :: ds)
    | none => none
  | _ :: _ => none
theorem allD_ok {H F' H' : Hp} {fp' : Fp} {sg : St} : ∀ {us : List Rv} {ds : List D} {vs : List V}, allD us = some ds → RepRs K O H F' H' fp' sg vs us → RpA K F' ds vs
  | [], ds, vs, e, h => by
    cases e
    cases vs with
    | nil => exact rfl
    | cons v vs => obtain ⟨u, r, z, _⟩ := h; cases z
  | u :: us, ds, vs, e, h => by
    cases vs with
    | nil => cases (show u :: us = [] from h)
    | cons v vs =>
      obtain ⟨u', r, z, h1, h2⟩ := h
      cases z
      cases u with
      | d x =>
        unfold allD at e
        cases e1 : allD us with
        | none => rw [e1] at e; cases e
        | some ds' =>
          rw [e1] at e
          cases e
          exact ⟨v, vs, rfl, h1, allD_ok e1 h2⟩
      | n a => cases e
      | v i => cases e
def xTup (xs : XA) : X1 := fun r => (xs r).bind fun us r1 => match allD us with
  | some ds => if ds.length ≤ 100000 then .ok (.d (.tup ds)) r1 else .no
  | none => .no
def xLst (xs : XA) : X1 := fun r => (xs r).bind fun us r1 => match allD us with
  | some ds => if ds.length ≤ 100000 then .ok (.n (.l true ds)) r1 else .no
  | none => .no
theorem ok_tup (ok : ORok O) {xs : XA} {es : List Expr} {k1 : Nat} {pos : Pos} (h : OkA K O X W xs es) : OkE K O X W (xTup xs) (.Tuple es k1 pos) := fun rho => by
  have k := h rho
  unfold xTup
  cases ex : xs rho with
  | no => exact PEno
  | ex y r1 =>
    rw [ex] at k
    refine PEimp (pe_tup k) fun sg H Q q => ?_
    obtain ⟨F, fp, r, q⟩ := q
    exact ⟨F, fp, r, q⟩
  | ok us r1 =>
    rw [ex] at k
    show PE X _ (tEv K O W rho (match allD us with
      | some ds => if ds.length ≤ 100000 then .ok (.d (.tup ds)) r1 else .no
      | none => .no))
    cases ed : allD us with
    | none => exact PEno
    | some ds =>
      show PE X _ (tEv K O W rho (if ds.length ≤ 100000 then .ok (.d (.tup ds)) r1 else .no))
      split
      · rename_i hz
        refine PEimp (pe_tup k) fun sg H Q q => ?_
        obtain ⟨F, fp, r, q⟩ := q
        refine ⟨F, fp, r, fun F1 H1 fp1 vs s1 q1 p1 => ?_⟩
        have hr := allD_ok ed p1
        refine ⟨sz (by rw [hr.length]; exact hz), fun p hp => ?_⟩
        exact new_tup ok q1 hp hr fun F2 H2 fp2 u s2 q2 p2 => q F2 H2 fp2 u (s1.trans s2) q2 (p2.back s1.stay)
      · exact PEno
theorem ok_lst (ok : ORok O) {xs : XA} {es : List Expr} {pos : Pos} (h : OkA K O X W xs es) : OkE K O X W (xLst xs) (.List es pos) := fun rho => by
  have k := h rho
  unfold xLst
  cases ex : xs rho with
  | no => exact PEno
  | ex y r1 =>
    rw [ex] at k
    refine PEimp (pe_lst k) fun sg H Q q => ?_
    obtain ⟨F, fp, r, q⟩ := q
    exact ⟨F, fp, r, q⟩
  | ok us r1 =>
    rw [ex] at k
    show PE X _ (tEv K O W rho (match allD us with
      | some ds => if ds.length ≤ 100000 then .ok (.n (.l true ds)) r1 else .no
      | none => .no))
    cases ed : allD us with
    | none => exact PEno
    | some ds =>
      show PE X _ (tEv K O W rho (if ds.length ≤ 100000 then .ok (.n (.l true ds)) r1 else .no))
      split
      · rename_i hz
        refine PEimp (pe_lst k) fun sg H Q q => ?_
        obtain ⟨F, fp, r, q⟩ := q
        refine ⟨F, fp, r, fun F1 H1 fp1 vs s1 q1 p1 => ?_⟩
        have hr := allD_ok ed p1
        refine ⟨sz (by rw [hr.length]; exact hz), fun p hp => ?_⟩
        exact new_list ok q1 hp hr fun F2 H2 fp2 u s2 q2 p2 => q F2 H2 fp2 u (s1.trans s2) q2 (p2.back s1.stay)
      · exact PEno
/-- {} -/
def xDic0 : X1 := fun r => .ok (.n (.m [])) r
theorem ok_dic0 (ok : ORok O) {pos : Pos} : OkE K O X W xDic0 (.Dict [] [] pos) := fun rho => PEimp pe_dnewK fun sg H Q q => by
  obtain ⟨F, fp, r, q⟩ := q
  intro p hp
  obtain ⟨r2, s2⟩ := r.laid ok hp (.dK [])
  refine q F (upd H p (.dK [])) fp (.ref p) s2 r2 ⟨fun b => b = p, ⟨p, [], rfl, upd_same, rfl, fun b => Iff.rfl⟩, rfl, fun b hb => ?_⟩
  subst hb
  refine ⟨r.sub.free hp, hp, fun i z => ?_⟩
  obtain ⟨a, h1, _⟩ := r.own i b z
  obtain ⟨v, _, h2⟩ := r.rep i a h1
  exact h2.there ok z hp
/-! ### a call by values -/
def atAll : List Rv → Env → Option (List A)
  | [], _ => some []
  | u :: us, r => match u.at r, atAll us r with
    | some a, some as => some (a :: as)
    | _, _ => none
def RepAs (K : PySem.W.Frag) (O : OR) (F H : Hp) : List V → List A → Prop
  | [], as => as = []
  | v :: vs, as => ∃ a r, as = a :: r ∧ (∃ S, RepA K O F H v a S ∧ ∀ b, S b → F b = none) ∧ RepAs K O F H vs r
theorem atAll_ok {H0 F H : Hp} {fp : Fp} {sg : St} {rho : Env} (r : R K O F H rho sg fp) : ∀ {us : List Rv} {as : List A} {vs : List V}, atAll us rho = some as → RepRs K O H0 F H fp sg vs us → RepAs K O F H vs as
  | [], as, vs, e, h => by
    cases e
    cases vs with
    | nil => exact rfl
    | cons v vs => obtain ⟨u, r, z, _⟩ := h; cases z
  | u :: us, as, vs, e, h => by
    cases vs with
    | nil => cases (show u :: us = [] from h)
    | cons v vs =>
      obtain ⟨u', r', z, h1, h2⟩ := h
      cases z
      unfold atAll at e
      cases e1 : u.at rho with
      | none => rw [e1] at e; cases e
      | some a =>
        cases e2 : atAll us rho with
        | none => rw [e1, e2] at e; cases e
        | some as' =>
          rw [e1, e2] at e
          cases e
          exact ⟨a, as', rfl, h1.get r e1, atAll_ok r e2 h2⟩
def xCB (f : List A → Option Rv) (xs : XA) : X1 := fun r => (xs r).bind fun us r1 => match atAll us r1 with
  | some as => match f as with
    | some z => .ok z r1
    | none => .no
  | none => .no
abbrev RC := List V → Hp → VK → Prop
def SoundC (K : PySem.W.Frag) (O : OR) (Rul : RC → Prop) (f : List A → Option Rv) : Prop := ∀ as z, f as = some z → ∃ r : RC, Rul r ∧ ∀ F H rho sg fp vs (Q : VK), R K O F H rho sg fp → RepAs K O F H vs as →
  (∀ F' H' fp' u, Stp F H fp F' H' fp' → R K O F' H' rho sg fp' → RepR K O H F' H' fp' sg u z → Q u H') → r vs H Q
def rcF : RC := fun _ _ _ => False
theorem ok_cb {xs : XA} {es : List Expr} {e : Expr} {f : List A → Option Rv} {Rul : RC → Prop} (hF : Rul rcF) (hr : ∀ r ta, Rul r → PA X es ta → PE X e (tCB r ta)) (sf : SoundC K O Rul f) (h : OkA K O X W xs es) : OkE K O X W (xCB f xs) e := fun rho => by
  have k := h rho
  unfold xCB
  cases ex : xs rho with
  | no => exact PEno
  | ex y r1 =>
    rw [ex] at k
    refine PEimp (hr _ _ hF k) fun sg H Q q => ?_
    obtain ⟨F, fp, r, q⟩ := q
    exact ⟨F, fp, r, q⟩
  | ok us r1 =>
    rw [ex] at k
    show PE X _ (tEv K O W rho (match atAll us r1 with
      | some as => match f as with
        | some z => .ok z r1
        | none => .no
      | none => .no))
    cases ea : atAll us r1 with
    | none => exact PEno
    | some as =>
      show PE X _ (tEv K O W rho (match f as with
        | some z => .ok z r1
        | none => .no))
      cases ez : f as with
      | none => exact PEno
      | some z =>
        obtain ⟨rr, h1, h2⟩ := sf as z ez
        refine PEimp (hr _ _ h1 k) fun sg H Q q => ?_
        obtain ⟨F, fp, r, q⟩ := q
        refine ⟨F, fp, r, fun F1 H1 fp1 vs s1 q1 p1 => ?_⟩
        exact h2 F1 H1 r1 sg fp1 vs Q q1 (atAll_ok q1 ea p1) fun F2 H2 fp2 u s2 q2 p2 => q F2 H2 fp2 u (s1.trans s2) q2 (p2.back s1.stay)
theorem callF {f : Value} : CallR X f rcF := by
  intros pins s sg H xs us Q I r z
  exact (show False from z).elim
/-- one value in, a value out, nothing made -/
theorem sc1 {Rul : RC → Prop} {f : A → Option D} (h : ∀ a d, f a = some d → ∃ r : RC, Rul r ∧ ∀ F H rho sg fp v S (Q : VK), R K O F H rho sg fp → RepA K O F H v a S → (∀ w, Rp K F d w → Q w H) → r [v] H Q) :
    SoundC K O Rul (fun as => match as with
      | [a] => (f a).map .d
      | _ => none) := fun as z e => by
  match as, e with
  | [a], e =>
    obtain ⟨d, e1, e2⟩ := Option.map_eq_some_iff.mp (show (f a).map Rv.d = some z from e)
    subst e2
    obtain ⟨r, h1, h2⟩ := h a d e1
    refine ⟨r, h1, fun F H rho sg fp vs Q rr hv k => ?_⟩
    match vs, hv with
    | [v], hv =>
      obtain ⟨a', r', z1, ⟨S, hS, _⟩, z2⟩ := hv
      cases z1
      exact h2 F H rho sg fp v S Q rr hS fun w hw => k F H fp w (Stp.refl _ _ _) rr hw
    | [], hv => cases (show [a] = [] from hv)
    | v :: w :: ws, hv =>
      obtain ⟨a', r', z1, _, z2⟩ := hv
      cases z1
      obtain ⟨_, _, z3, _⟩ := z2
      cases z3
def lenA : A → Option D
  | .d (.str z) => if z.length ≤ 100000 then some (.int z.length) else none
  | a => match a.sq? with
    | some (_, xs) => some (.int xs.length)
    | none => none
theorem sound_len (hK : X.K = K) : SoundC K O (CallR X (.builtin "len")) (fun as => match as with
      | [a] => (lenA a).map .d
      | _ => none) := sc1 fun a d e => by
  unfold lenA at e
  split at e
  · split at e
    · rename_i z hz
      cases e
      exact ⟨_, call_len_str, fun F H rho sg fp v S Q r h k => ⟨z, by rw [h.str], sz hz, k _ rfl⟩⟩
    · cases e
  · split at e
    · rename_i b xs hq
      cases e
      refine ⟨_, call_len_seq, fun F H rho sg fp v S Q r h k => ?_⟩
      obtain ⟨p, vs, rfl, e2, e3⟩ := A.sq_ok r h hq
      refine ⟨p, vs, rfl, ?_, ?_⟩
      · rw [hK]
        cases b with
        | true => exact .inl e2
        | false => exact .inr e2
      · rw [e3.length]
        exact k _ rfl
    · cases e
def maxA : List A → Option Rv
  | [.d (.int i), .d (.int j)] => some (.d (.int (if j > i then j else i)))
  | _ => none
def minA : List A → Option Rv
  | [.d (.int i), .d (.int j)] => some (.d (.int (if j < i then j else i)))
  | _ => none
theorem two_of {F H : Hp} {vs : List V} {a b : A} (h : RepAs K O F H vs [a, b]) : ∃ v w, vs = [v, w] ∧ (∃ S, RepA K O F H v a S) ∧ ∃ S, RepA K O F H w b S := by
  match vs, h with
  | [], h => cases (show [a, b] = [] from h)
  | [v], h =>
    obtain ⟨_, _, z1, _, z2⟩ := h
    cases z1
    cases (show [b] = [] from z2)
  | [v, w], h =>
    obtain ⟨_, _, z1, ⟨S, hS, _⟩, z2⟩ := h
    cases z1
    obtain ⟨_, _, z3, ⟨T, hT, _⟩, _⟩ := z2
    cases z3
    exact ⟨v, w, rfl, ⟨S, hS⟩, T, hT⟩
  | v :: w :: u :: us, h =>
    obtain ⟨_, _, z1, _, z2⟩ := h
    cases z1
    obtain ⟨_, _, z3, _, z4⟩ := z2
    cases z3
    obtain ⟨_, _, z5, _⟩ := z4
    cases z5
theorem sound_max (hc : X.calm = true) : SoundC K O (CallR X (.builtin "max")) maxA := fun as z e => by
  unfold maxA at e
  split at e
  · rename_i i j
    cases e
    refine ⟨_, call_max2 hc, fun F H rho sg fp vs Q r hv k => ?_⟩
    obtain ⟨v, w, rfl, ⟨S, h1⟩, T, h2⟩ := two_of hv
    exact ⟨i, j, by rw [h1.int, h2.int], k F H fp _ (Stp.refl _ _ _) r rfl⟩
  · cases e
theorem sound_min (hc : X.calm = true) : SoundC K O (CallR X (.builtin "min")) minA := fun as z e => by
  unfold minA at e
  split at e
  · rename_i i j
    cases e
    refine ⟨_, call_min2 hc, fun F H rho sg fp vs Q r hv k => ?_⟩
    obtain ⟨v, w, rfl, ⟨S, h1⟩, T, h2⟩ := two_of hv
    exact ⟨i, j, by rw [h1.int, h2.int], k F H fp _ (Stp.refl _ _ _) r rfl⟩
  · cases e
def intA : A → Option D
  | .d (.int i) => some (.int i)
  | .d (.bl b) => some (.int (if b then 1 else 0))
  | .d (.str z) => if z.length ≤ 640 then match PySem.intText? z with
      | some n => some (.int n)
      | none => none
    else none
  | _ => none
theorem sound_int : SoundC K O (CallR X (.type "int")) (fun as => match as with
      | [a] => (intA a).map .d
      | _ => none) := sc1 fun a d e => by
  unfold intA at e
  split at e
  · rename_i i
    cases e
    exact ⟨_, call_int1, fun F H rho sg fp v S Q r h k => .inl ⟨i, by rw [h.int], k _ rfl⟩⟩
  · rename_i b
    cases e
    exact ⟨_, call_int1, fun F H rho sg fp v S Q r h k => .inr ⟨b, by rw [h.bl], k _ rfl⟩⟩
  · rename_i z
    split at e
    · rename_i hz
      split at e
      · rename_i n hn
        cases e
        exact ⟨_, call_int_str, fun F H rho sg fp v S Q r h k => ⟨z, n, by rw [h.str], hn, hz, k _ rfl⟩⟩
      · cases e
    · cases e
  · cases e
def strA : A → Option D
  | .d (.int i) => if i.natAbs.log2 < 1920 then some (.str (toString i)) else none
  | _ => none
theorem sound_str : SoundC K O (CallR X (.type "str")) (fun as => match as with
      | [a] => (strA a).map .d
      | _ => none) := sc1 fun a d e => by
  unfold strA at e
  split at e
  · rename_i i
    split at e
    · rename_i hz
      cases e
      exact ⟨_, call_str_int, fun F H rho sg fp v S Q r h k => ⟨i, by rw [h.int], hz, k _ rfl⟩⟩
    · cases e
  · cases e
def bools : List D → Option (List Bool)
  | [] => some []
  | .bl b :: ds => match bools ds with
    | some bs => some (b :: bs)
    | none => none
  | _ :: _ => none
theorem bools_ok {F : Hp} : ∀ {ds : List D} {bs : List Bool} {vs : List V}, bools ds = some bs → RpA K F ds vs → vs = bs.map V.bl
  | [], bs, vs, e, h => by cases e; exact h
  | d :: ds, bs, vs, e, h => by
    obtain ⟨v, r, rfl, h1, h2⟩ := h
    cases d with
    | bl b =>
      unfold bools at e
      cases e1 : bools ds with
      | none => rw [e1] at e; cases e
      | some bs' =>
        rw [e1] at e
        cases e
        rw [bools_ok e1 h2, show v = .bl b from h1]
        rfl
    | _ => cases e
def allA (any : Bool) (a : A) : Option D := match a.sq? with
  | some (true, xs) => match bools xs with
    | some bs => some (.bl (if any then bs.any id else bs.all id))
    | none => none
  | _ => none
theorem sound_all (hK : X.K = K) (hc : X.calm = true) : SoundC K O (CallR X (.builtin "all")) (fun as => match as with
      | [a] => (allA false a).map .d
      | _ => none) := sc1 fun a d e => by
  unfold allA at e
  split at e
  · rename_i xs hq
    split at e
    · rename_i bs hb
      cases e
      refine ⟨_, cr_all hc, fun F H rho sg fp v S Q r h k => ?_⟩
      obtain ⟨p, vs, rfl, e2, e3⟩ := A.sq_ok r h hq
      rw [bools_ok hb e3] at e2
      rw [hK]
      exact ⟨p, bs, rfl, e2, k _ rfl⟩
    · cases e
  · cases e
theorem sound_any (hK : X.K = K) (hc : X.calm = true) : SoundC K O (CallR X (.builtin "any")) (fun as => match as with
      | [a] => (allA true a).map .d
      | _ => none) := sc1 fun a d e => by
  unfold allA at e
  split at e
  · rename_i xs hq
    split at e
    · rename_i bs hb
      cases e
      refine ⟨_, cr_any hc, fun F H rho sg fp v S Q r h k => ?_⟩
      obtain ⟨p, vs, rfl, e2, e3⟩ := A.sq_ok r h hq
      rw [bools_ok hb e3] at e2
      rw [hK]
      exact ⟨p, bs, rfl, e2, k _ rfl⟩
    · cases e
  · cases e
/-- the type of a thing -/
inductive Ty where
  | non | bool | int | str | list | tuple | dict
  deriving DecidableEq
def Ty.nm : Ty → String
  | .non => "NoneType" | .bool => "bool" | .int => "int" | .str => "str" | .list => "list" | .tuple => "tuple" | .dict => "dict"
def A.ty : A → Option Ty
  | .d .non => some .non
  | .d (.bl _) => some .bool
  | .d (.int _) => some .int
  | .d (.str _) => some .str
  | .d (.lst _) => some .list
  | .d (.tup _) => some .tuple
  | .d (.dic _) => some .dict
  | .l _ _ => some .list
  | .m _ => some .dict
  | _ => none
def tyN : String → Option Ty
  | "bool" => some .bool | "int" => some .int | "str" => some .str | "list" => some .list | "tuple" => some .tuple | "dict" => some .dict | _ => none
def Ty.isa (a b : Ty) : Bool := decide (a = b) || (decide (a = .bool) && decide (b = .int))
theorem Ty.kit : ∀ a b : Ty, b ≠ .non → kitB a.nm b.nm = some (a.isa b) := by
  intro a b h
  cases a <;> cases b <;> first | exact (h rfl).elim | decide +kernel
theorem A.ty_ok {F H : Hp} {fp : Fp} {rho : Env} {sg : St} {v : V} {a : A} {S : Addr → Prop} {t : Ty} (r : R K O F H rho sg fp) (h : RepA K O F H v a S) (e : a.ty = some t) : TyX K H v (.type t.nm) := by
  unfold A.ty at e
  split at e
  · cases e; cases (show v = .non from h.1); exact .base .non
  · cases e; cases h.bl; exact .base (.bl _)
  · cases e; cases h.int; exact .base (.int _)
  · cases e; cases h.str; exact .base (.str _)
  · cases e; obtain ⟨⟨p, vs, rfl, h2, _⟩, _⟩ := h; exact .base (.lst (r.sub _ _ h2))
  · cases e; obtain ⟨⟨p, vs, rfl, h2, _⟩, _⟩ := h; exact .base (.tup (r.sub _ _ h2))
  · cases e; obtain ⟨⟨p, vs, rfl, h2, _⟩, _⟩ := h; exact .base (.dK (r.sub _ _ h2))
  · cases e; obtain ⟨p, vs, rfl, h2, _⟩ := h; exact .base (.lst h2)
  · cases e; obtain ⟨p, vs, rfl, h2, _⟩ := h; exact .base (.dK h2)
  · cases e
def isiA : List A → Option Rv
  | [a, .d (.val (.ty n))] => match a.ty, tyN n with
    | some t, some u => some (.d (.bl (t.isa u)))
    | _, _ => none
  | _ => none
theorem tyN_ok {n : String} {t : Ty} (h : tyN n = some t) : n = t.nm ∧ t ≠ .non := by
  unfold tyN at h
  split at h <;> first | (cases h; exact ⟨rfl, by intro z; cases z⟩) | cases h
theorem sound_isi (hK : X.K = K) : SoundC K O (CallR X (.builtin "isinstance")) isiA := fun as z e => by
  unfold isiA at e
  split at e
  · rename_i a n
    split at e
    · rename_i t u ht hu
      cases e
      refine ⟨_, call_isi, fun F H rho sg fp vs Q r hv k => ?_⟩
      obtain ⟨v, w, rfl, ⟨S, h1⟩, T, h2⟩ := two_of hv
      obtain ⟨rfl, hne⟩ := tyN_ok hu
      have ew : w = .ty u.nm := h2.1
      subst ew
      rw [hK]
      exact ⟨v, .ty u.nm, .type t.nm, .type u.nm, t.isa u, rfl, .ty _, A.ty_ok r h1 ht, kit_ty (Ty.kit t u hne), k F H fp _ (Stp.refl _ _ _) r rfl⟩
    · cases e
  · cases e
/-- list(x) -/
def lstA : List A → Option Rv
  | [a] => match a.sq? with
    | some (_, xs) => some (.n (.l true xs))
    | none => none
  | _ => none
theorem one_of {F H : Hp} {vs : List V} {a : A} (h : RepAs K O F H vs [a]) : ∃ v, vs = [v] ∧ ∃ S, RepA K O F H v a S := by
  match vs, h with
  | [], h => cases (show [a] = [] from h)
  | [v], h =>
    obtain ⟨_, _, z1, ⟨S, hS, _⟩, z2⟩ := h
    cases z1
    exact ⟨v, rfl, S, hS⟩
  | v :: w :: us, h =>
    obtain ⟨_, _, z1, _, z2⟩ := h
    cases z1
    obtain ⟨_, _, z3, _⟩ := z2
    cases z3
theorem sound_list (ok : ORok O) (hK : X.K = K) : SoundC K O (CallR X (.type "list")) lstA := fun as z e => by
  unfold lstA at e
  split at e
  · rename_i a
    split at e
    · rename_i b xs hq
      cases e
      refine ⟨_, call_list_of, fun F H rho sg fp vs Q r hv k => ?_⟩
      obtain ⟨v, rfl, S, h1⟩ := one_of hv
      obtain ⟨p, ws, rfl, e2, e3⟩ := A.sq_ok r h1 hq
      rw [hK]
      refine ⟨p, ws, rfl, ?_, fun l hl => new_list ok r hl e3 k⟩
      cases b with
      | true => exact .inl e2
      | false => exact .inr e2
    · cases e
  · cases e
/-! ### a[lo:hi] -/
def cutD {α : Type} (xs : List α) (lo hi : Option Int) : List α := (xs.drop (HT.sIx xs.length 0 lo)).take (HT.sIx xs.length xs.length hi - HT.sIx xs.length 0 lo)
def slA (a : A) (lo hi : Option Int) : Option Rv := match a with
  | .d (.str z) => if z.length ≤ 100000 then some (.d (.str (cutS z lo hi))) else none
  | a => match a.sq? with
    | some (true, xs) => some (.n (.l true (cutD xs lo hi)))
    | some (false, xs) => if HT.sIx xs.length 0 lo = 0 ∧ HT.sIx xs.length xs.length hi = xs.length then none else some (.d (.tup (cutD xs lo hi)))
    | none => none
theorem RpA.cut {F : Hp} {xs : List D} {vs : List V} (h : RpA K F xs vs) (lo hi : Option Int) : RpA K F (cutD xs lo hi) (cutV vs lo hi) := by
  unfold cutD cutV
  rw [h.length]
  exact (h.drop _).take _
def xPart (x : Option X1) : Env → Rs (Option Int) := fun r => match x with
  | none => .ok none r
  | some x => (x r).bind fun u r1 => match u.at r1 with
    | some (.d (.int i)) => .ok (some i) r1
    | _ => .no
def xSl (a : X1) (lo hi : Option X1) : X1 := fun r => (a r).bind fun u r1 => (xPart lo r1).bind fun l r2 => (xPart hi r2).bind fun h r3 => match u.at r3 with
  | some p => match slA p l h with
    | some z => .ok z r3
    | none => .no
  | none => .no
def tEvO (K : PySem.W.Frag) (O : OR) (W : WX) (rho : Env) (m : Rs (Option Int)) : TO := fun sg H Q => ∃ F fp, R K O F H rho sg fp ∧ match m with
  | .ok b rho' => ∀ F' H' fp', Stp F H fp F' H' fp' → R K O F' H' rho' sg fp' → Q b H'
  | .ex x rho' => ∀ F' H' fp' d, Stp F H fp F' H' fp' → R K O F' H' rho' sg fp' → RpX K F' H' d x.fs → W x.cls d sg H'
  | .no => False
theorem POimp {e : Option Expr} {t t' : TO} (h : PO X e t) (i : ∀ sg H Q, t' sg H Q → t sg H Q) : PO X e t' := ⟨fun pins s sg H Q I q => h.run pins s sg H Q I (i _ _ _ q)⟩
theorem POno {e : Option Expr} {rho : Env} : PO X e (tEvO K O W rho .no) := ⟨fun pins s sg H Q I q => by
  obtain ⟨F, fp, _, z⟩ := q
  exact z.elim⟩
def OkP (K : PySem.W.Frag) (O : OR) (X : Cx) (W : WX) (x : Option X1) (e : Option Expr) : Prop := ∀ rho, PO X e (tEvO K O W rho (xPart x rho))
theorem okP_none : OkP K O X W none none := fun rho => POimp po_none fun sg H Q q => by
  obtain ⟨F, fp, r, q⟩ := q
  exact q F H fp (Stp.refl _ _ _) r
theorem okP_some {x : X1} {e : Expr} (h : OkE K O X W x e) : OkP K O X W (some x) (some e) := fun rho => by
  have k := h rho
  unfold xPart
  show PO X (some e) (tEvO K O W rho ((x rho).bind fun u r1 => match u.at r1 with
    | some (.d (.int i)) => .ok (some i) r1
    | _ => .no))
  cases ex : x rho with
  | no => exact POno
  | ex y r1 =>
    rw [ex] at k
    refine POimp (po_some k) fun sg H Q q => ?_
    obtain ⟨F, fp, r, q⟩ := q
    exact ⟨F, fp, r, q⟩
  | ok u r1 =>
    rw [ex] at k
    show PO X (some e) (tEvO K O W rho (match u.at r1 with
      | some (.d (.int i)) => .ok (some i) r1
      | _ => .no))
    split
    · rename_i i ei
      refine POimp (po_some k) fun sg H Q q => ?_
      obtain ⟨F, fp, r, q⟩ := q
      refine ⟨F, fp, r, fun F1 H1 fp1 v s1 q1 p1 => ?_⟩
      obtain ⟨S, hS, _⟩ := p1.get q1 ei
      exact ⟨i, hS.int, q F1 H1 fp1 s1 q1⟩
    · exact POno
def slF : V → Option Int → Option Int → Hp → VK → Prop := fun _ _ _ _ _ => False
theorem slF_ok : SlR X slF := by
  intros pins s sg H x v vl vu lo hi sl Q I rx hs pl pu z
  exact (show False from z).elim
theorem ok_sl (ok : ORok O) (hK : X.K = K) {xa : X1} {xl xh : Option X1} {a : Expr} {lo hi : Option Expr} {p2 pos : Pos} (ha : OkE K O X W xa a) (hl : OkP K O X W xl lo) (hh : OkP K O X W xh hi) :
    OkE K O X W (xSl xa xl xh) (.Subscript a (.Slice lo hi none p2) pos) := fun rho => by
  have k := ha rho
  unfold xSl
  cases ex : xa rho with
  | no => exact PEno
  | ex y r1 =>
    rw [ex] at k
    refine PEimp (pe_slice slF_ok k (hl rho) (hh rho)) fun sg H Q q => ?_
    obtain ⟨F, fp, r, q⟩ := q
    exact ⟨F, fp, r, q⟩
  | ok u r1 =>
    rw [ex] at k
    have k2 := hl r1
    show PE X _ (tEv K O W rho ((xPart xl r1).bind fun l r2 => (xPart xh r2).bind fun h r3 => match u.at r3 with
      | some p => match slA p l h with
        | some z => .ok z r3
        | none => .no
      | none => .no))
    cases el : xPart xl r1 with
    | no => exact PEno
    | ex y r2 =>
      rw [el] at k2
      refine PEimp (pe_slice slF_ok k k2 (hh r1)) fun sg H Q q => ?_
      obtain ⟨F, fp, r, q⟩ := q
      exact ⟨F, fp, r, fun F1 H1 fp1 v s1 q1 p1 => ⟨F1, fp1, q1, fun F2 H2 fp2 d s2 q2 p2 => q F2 H2 fp2 d (s1.trans s2) q2 p2⟩⟩
    | ok l r2 =>
      rw [el] at k2
      have k3 := hh r2
      show PE X _ (tEv K O W rho ((xPart xh r2).bind fun h r3 => match u.at r3 with
        | some p => match slA p l h with
          | some z => .ok z r3
          | none => .no
        | none => .no))
      cases eh : xPart xh r2 with
      | no => exact PEno
      | ex y r3 =>
        rw [eh] at k3
        refine PEimp (pe_slice slF_ok k k2 k3) fun sg H Q q => ?_
        obtain ⟨F, fp, r, q⟩ := q
        exact ⟨F, fp, r, fun F1 H1 fp1 v s1 q1 p1 => ⟨F1, fp1, q1, fun F2 H2 fp2 s2 q2 => ⟨F2, fp2, q2, fun F3 H3 fp3 d s3 q3 p3 => q F3 H3 fp3 d ((s1.trans s2).trans s3) q3 p3⟩⟩⟩
      | ok h r3 =>
        rw [eh] at k3
        show PE X _ (tEv K O W rho (match u.at r3 with
          | some p => match slA p l h with
            | some z => .ok z r3
            | none => .no
          | none => .no))
        cases ep : u.at r3 with
        | none => exact PEno
        | some p =>
          show PE X _ (tEv K O W rho (match slA p l h with
            | some z => .ok z r3
            | none => .no))
          cases ez : slA p l h with
          | none => exact PEno
          | some z =>
            have go : ∀ {rr : V → Option Int → Option Int → Hp → VK → Prop}, SlR X rr → (∀ F H sg fp v S (Q : VK), R K O F H r3 sg fp → RepA K O F H v p S → (∀ F' H' fp' u, Stp F H fp F' H' fp' → R K O F' H' r3 sg fp' → RepR K O H F' H' fp' sg u z → Q u H') → rr v l h H Q) →
                PE X (.Subscript a (.Slice lo hi none p2) pos) (tEv K O W rho (.ok z r3)) := fun {rr} hrr hs => by
              refine PEimp (pe_slice hrr k k2 k3) fun sg H Q q => ?_
              obtain ⟨F, fp, r, q⟩ := q
              refine ⟨F, fp, r, fun F1 H1 fp1 v s1 q1 p1 => ⟨F1, fp1, q1, fun F2 H2 fp2 s2 q2 => ⟨F2, fp2, q2, fun F3 H3 fp3 s3 q3 => ?_⟩⟩⟩
              obtain ⟨S, hS, _⟩ := (p1.keep ok (s2.trans s3)).get q3 ep
              have st := (s1.trans s2).trans s3
              exact hs F3 H3 sg fp3 v S Q q3 hS fun F4 H4 fp4 w s4 q4 p4 => q F4 H4 fp4 w (st.trans s4) q4 (p4.back st.stay)
            unfold slA at ez
            split at ez
            · rename_i z0
              split at ez
              · rename_i hz
                cases ez
                exact go sl_str fun F H sg fp v S Q r h k => ⟨z0, h.str, sz hz, k F H fp _ (Stp.refl _ _ _) r rfl⟩
              · cases ez
            · split at ez
              · rename_i xs hq
                cases ez
                refine go sl_list fun F H sg fp v S Q r h k => ?_
                obtain ⟨p0, vs, rfl, e2, e3⟩ := A.sq_ok r h hq
                rw [hK]
                exact ⟨p0, vs, rfl, e2, fun pn hn => new_list ok r hn (e3.cut _ _) k⟩
              · rename_i xs hq
                split at ez
                · cases ez
                · rename_i hne
                  cases ez
                  refine go sl_tup fun F H sg fp v S Q r h k => ?_
                  obtain ⟨p0, vs, rfl, e2, e3⟩ := A.sq_ok r h hq
                  rw [hK]
                  exact ⟨p0, vs, rfl, e2, by rw [e3.length]; exact hne, fun pn hn => new_tup ok r hn (e3.cut _ _) k⟩
              · cases ez
end
end Sn
namespace Sn
open PySem L2
/-! ### dict(pairs) -/
def pairsD : List D → Option (List (Key × D))
  | [] => some []
  | .tup [k, d] :: ds => match k.key, pairsD ds with
    | some k, some r => some ((k, d) :: r)
    | _, _ => none
  | _ :: _ => none
def putKD (kvs : List (Key × D)) (k : Key) (d : D) : List (Key × D) := if (kvs.any fun kv => decide (kv.1 = k)) = true then kvs.map (fun kv => if kv.1 = k then (kv.1, d) else kv) else kvs ++ [(k, d)]
def mergeD (kvs more : List (Key × D)) : List (Key × D) := more.foldl (fun acc kv => putKD acc kv.1 kv.2) kvs
section
variable {K : PySem.W.Frag} {F H : Hp}
theorem RpK.any : ∀ {kvs : List (Key × D)} {kws : List (Key × V)} (k : Key), RpK K F kvs kws → (kws.any fun kv => decide (kv.1 = k)) = (kvs.any fun kv => decide (kv.1 = k))
  | [], kws, k, h => by cases (show kws = [] from h); rfl
  | (j, d) :: r, kws, k, h => by
    obtain ⟨w, s, rfl, _, h3⟩ := h
    rw [List.any_cons, List.any_cons, RpK.any k h3]
theorem RpK.repl {k : Key} {d : D} {v : V} (hd : Rp K F d v) : ∀ {kvs : List (Key × D)} {kws : List (Key × V)}, RpK K F kvs kws → RpK K F (kvs.map (fun kv => if kv.1 = k then (kv.1, d) else kv)) (kws.map (fun kv => if kv.1 = k then (kv.1, v) else kv))
  | [], kws, h => by cases (show kws = [] from h); rfl
  | (j, x) :: r, kws, h => by
    obtain ⟨w, s, rfl, h2, h3⟩ := h
    have ih := RpK.repl (k := k) hd h3
    rw [List.map_cons, List.map_cons]
    by_cases e : j = k
    · rw [if_pos e, if_pos e]
      exact ⟨v, _, rfl, hd, ih⟩
    · rw [if_neg e, if_neg e]
      exact ⟨w, _, rfl, h2, ih⟩
theorem RpK.app : ∀ {kvs more : List (Key × D)} {kws mw : List (Key × V)}, RpK K F kvs kws → RpK K F more mw → RpK K F (kvs ++ more) (kws ++ mw)
  | [], more, kws, mw, h, h' => by cases (show kws = [] from h); exact h'
  | (j, x) :: r, more, kws, mw, h, h' => by
    obtain ⟨w, s, rfl, h2, h3⟩ := h
    exact ⟨w, s ++ mw, rfl, h2, RpK.app h3 h'⟩
theorem RpK.put {kvs : List (Key × D)} {kws : List (Key × V)} {k : Key} {d : D} {v : V} (h : RpK K F kvs kws) (hd : Rp K F d v) : RpK K F (putKD kvs k d) (putK kws k v) := by
  unfold putKD putK
  rw [h.any k]
  split
  · exact h.repl hd
  · exact h.app ⟨v, [], rfl, hd, rfl⟩
theorem RpK.merge : ∀ {more kvs : List (Key × D)} {mw kws : List (Key × V)}, RpK K F more mw → RpK K F kvs kws → RpK K F (mergeD kvs more) (mergeK kws mw)
  | [], kvs, mw, kws, h, h' => by cases (show mw = [] from h); exact h'
  | (j, x) :: r, kvs, mw, kws, h, h' => by
    obtain ⟨w, s, rfl, h2, h3⟩ := h
    show RpK K F (mergeD (putKD kvs j x) r) (mergeK (putK kws j w) s)
    exact RpK.merge h3 (h'.put h2)
theorem pairs_rp (g : Same F H) : ∀ {ds : List D} {kvs : List (Key × D)} {vs : List V}, pairsD ds = some kvs → RpA K F ds vs → ∃ ps kws, vs = List.map V.ref ps ∧ RpK K F kvs kws ∧ Paired (fun p (kv : Key × V) => SqT K H p [kV kv.1, kv.2]) ps kws
  | [], kvs, vs, e, h => by
    cases e
    cases (show vs = [] from h)
    exact ⟨[], [], rfl, rfl, .nil⟩
  | d :: ds, kvs, vs, e, h => by
    obtain ⟨v, r, rfl, h1, h2⟩ := h
    unfold pairsD at e
    split at e
    · rename_i he
      cases he
    · rename_i k dd rest he
      cases he
      cases e1 : k.key with
      | none => rw [e1] at e; cases e
      | some kk =>
        cases e2 : pairsD ds with
        | none => rw [e1, e2] at e; cases e
        | some w =>
          rw [e1, e2] at e
          cases e
          obtain ⟨ps, kws, rfl, h3, h4⟩ := pairs_rp g e2 h2
          obtain ⟨a, xs, rfl, h5, v1, r1, rfl, h6, v2, r2, rfl, h7, h8⟩ := h1
          cases (show r2 = [] from h8)
          have ek := key_ok h6 e1
          subst ek
          exact ⟨a :: ps, (kk, v2) :: kws, rfl, ⟨v2, kws, rfl, h7, h3⟩, .cons (SqT.of (g _ _ h5)) h4⟩
    · cases e
end
def dictA : List A → Option Rv
  | [a] => match a.sq? with
    | some (true, ds) => match pairsD ds with
      | some kvs => some (.n (.m (mergeD [] kvs)))
      | none => none
    | _ => none
  | _ => none
section
variable {K : PySem.W.Frag} {O : OR} {X : Cx}
/-- a new dict is nobody's yet -/
theorem new_dict (ok : ORok O) {F H : Hp} {fp : Fp} {rho : Env} {sg : St} (r : R K O F H rho sg fp) {p : Addr} (hp : H p = none) {kvs : List (Key × D)} {kws : List (Key × V)} (hx : RpK K F kvs kws) {Q : VK}
    (k : ∀ F' H' fp' u, Stp F H fp F' H' fp' → R K O F' H' rho sg fp' → RepR K O H F' H' fp' sg u (.n (.m kvs)) → Q u H') : Q (.ref p) (upd H p (.dK kws)) := by
  obtain ⟨r2, s2⟩ := r.laid ok hp (.dK kws)
  refine k F (upd H p (.dK kws)) fp (.ref p) s2 r2 ⟨fun b => b = p, ⟨p, kws, rfl, upd_same, hx, fun b => Iff.rfl⟩, rfl, fun b hb => ?_⟩
  subst hb
  refine ⟨r.sub.free hp, hp, fun i z => ?_⟩
  obtain ⟨a, h1, _⟩ := r.own i b z
  obtain ⟨v, _, h2⟩ := r.rep i a h1
  exact h2.there ok z hp
theorem sound_dict (ok : ORok O) (hK : X.K = K) (hc : X.calm = true) : SoundC K O (CallR X (.type "dict")) dictA := fun as z e => by
  unfold dictA at e
  split at e
  · rename_i a
    split at e
    · rename_i ds hq
      split at e
      · rename_i kvs hp
        cases e
        refine ⟨_, call_dictP hc, fun F H rho sg fp vs Q r hv k => ?_⟩
        obtain ⟨v, rfl, S, h1⟩ := one_of hv
        obtain ⟨p, ws, rfl, e2, e3⟩ := A.sq_ok r h1 hq
        obtain ⟨ps, kws, rfl, h3, h4⟩ := pairs_rp r.sub hp e3
        rw [hK]
        refine ⟨p, ps, kws, rfl, e2, h4, fun l hl => ?_⟩
        exact new_dict ok r hl (RpK.merge h3 (show RpK K F [] [] from rfl)) k
      · cases e
    · cases e
  · cases e
end
end Sn
namespace Sn
open PySem L2
/-! ### a call of a def of the text -/
/-- the arguments as the def has them -/
def argsOf : List Rv → Env → Option Env
  | [], _ => some []
  | .d x :: us, r => match argsOf us r with
    | some as => some (some (.d x) :: as)
    | none => none
  | .v i :: us, r => match r[i]?, argsOf us r with
    | some (some a), some as => if a.own = true then some (some a :: as) else none
    | _, _ => none
  | .n _ :: _, _ => none
def slotsOf : List Rv → List Nat
  | [] => []
  | .v i :: us => i :: slotsOf us
  | _ :: us => slotsOf us
/-- the slots behind the call -/
def backOf : List Rv → Env → Env → Option Env
  | [], _, r => some r
  | .v i :: us, some a :: as, r => if a.own = true then backOf us as (r.set i (some a)) else none
  | .v _ :: _, _, _ => none
  | _ :: us, _ :: as, r => backOf us as r
  | _ :: _, [], _ => none
def isV : Rv → Bool
  | .v _ => true
  | _ => false
section
variable {K : PySem.W.Frag} {O : OR} {X : Cx} {W : WX}
/-- argument k is slot i -/
def ArgAt (us : List Rv) (k i : Nat) : Prop := us[k]? = some (.v i)
theorem slots_mem : ∀ {us : List Rv} {k i : Nat}, us[k]? = some (.v i) → i ∈ slotsOf us
  | [], k, i, h => by simp at h
  | u :: us, 0, i, h => by
    simp at h
    subst h
    exact List.mem_cons_self
  | u :: us, k + 1, i, h => by
    have q := slots_mem (us := us) (k := k) (i := i) (by simpa using h)
    cases u with
    | d x => exact q
    | n a => exact q
    | v j => exact List.mem_cons_of_mem _ q
theorem slots_inj : ∀ {us : List Rv} {k k' i : Nat}, (slotsOf us).Nodup → us[k]? = some (.v i) → us[k']? = some (.v i) → k = k'
  | [], k, k', i, _, h, _ => by simp at h
  | u :: us, 0, 0, i, _, _, _ => rfl
  | u :: us, 0, k' + 1, i, nd, h, h' => by
    simp at h
    subst h
    have q := slots_mem (us := us) (k := k') (i := i) (by simpa using h')
    exact absurd q (List.nodup_cons.mp nd).1
  | u :: us, k + 1, 0, i, nd, h, h' => by
    simp at h'
    subst h'
    have q := slots_mem (us := us) (k := k) (i := i) (by simpa using h)
    exact absurd q (List.nodup_cons.mp nd).1
  | u :: us, k + 1, k' + 1, i, nd, h, h' => by
    have nd' : (slotsOf us).Nodup := by
      cases u with
      | d x => exact nd
      | n a => exact nd
      | v j => exact (List.nodup_cons.mp nd).2
    have q := slots_inj (us := us) (k := k) (k' := k') (i := i) nd' (by simpa using h) (by simpa using h')
    rw [q]
theorem RepRs.length {H F H' : Hp} {fp : Fp} {sg : St} : ∀ {vs : List V} {us : List Rv}, RepRs K O H F H' fp sg vs us → vs.length = us.length
  | [], us, h => by cases (show us = [] from h); rfl
  | v :: vs, us, h => by
    obtain ⟨u, r, rfl, _, h2⟩ := h
    rw [List.length_cons, List.length_cons, RepRs.length h2]
theorem RepRs.get {H F H' : Hp} {fp : Fp} {sg : St} : ∀ {vs : List V} {us : List Rv} {k : Nat} {u : Rv}, RepRs K O H F H' fp sg vs us → us[k]? = some u → ∃ v, vs[k]? = some v ∧ RepR K O H F H' fp sg v u
  | [], us, k, u, h, e => by cases (show us = [] from h); simp at e
  | v :: vs, us, 0, u, h, e => by
    obtain ⟨u', r, rfl, h1, h2⟩ := h
    simp at e
    subst e
    exact ⟨v, rfl, h1⟩
  | v :: vs, us, k + 1, u, h, e => by
    obtain ⟨u', r, rfl, h1, h2⟩ := h
    obtain ⟨w, h3, h4⟩ := RepRs.get (k := k) h2 (by simpa using e)
    exact ⟨w, by simpa using h3, h4⟩
theorem args_get {r : Env} : ∀ {us : List Rv} {as : Env} {k : Nat} {a : A}, argsOf us r = some as → as[k]? = some (some a) → (∃ x, us[k]? = some (.d x) ∧ a = .d x) ∨ (∃ i, us[k]? = some (.v i) ∧ r[i]? = some (some a) ∧ a.own = true)
  | [], as, k, a, e, h => by cases e; simp at h
  | u :: us, as, k, a, e, h => by
    cases u with
    | n b => cases e
    | d x =>
      unfold argsOf at e
      cases e1 : argsOf us r with
      | none => rw [e1] at e; cases e
      | some as' =>
        rw [e1] at e
        cases e
        cases k with
        | zero =>
          simp at h
          exact .inl ⟨x, rfl, h.symm⟩
        | succ k =>
          rcases args_get (k := k) e1 (by simpa using h) with ⟨y, h1, h2⟩ | ⟨i, h1, h2, h3⟩
          · exact .inl ⟨y, by simpa using h1, h2⟩
          · exact .inr ⟨i, by simpa using h1, h2, h3⟩
    | v i =>
      unfold argsOf at e
      cases e2 : r[i]? with
      | none => rw [e2] at e; cases e
      | some o =>
        cases o with
        | none => rw [e2] at e; cases e
        | some b =>
          cases e1 : argsOf us r with
          | none => rw [e1, e2] at e; cases e
          | some as' =>
            rw [e1, e2] at e
            simp only at e
            split at e
            · rename_i hb
              cases e
              cases k with
              | zero =>
                simp at h
                subst h
                exact .inr ⟨i, rfl, e2, hb⟩
              | succ k =>
                rcases args_get (k := k) e1 (by simpa using h) with ⟨y, h1, h2⟩ | ⟨j, h1, h2, h3⟩
                · exact .inl ⟨y, by simpa using h1, h2⟩
                · exact .inr ⟨j, by simpa using h1, h2, h3⟩
            · cases e
theorem args_len {r : Env} : ∀ {us : List Rv} {as : Env}, argsOf us r = some as → as.length = us.length
  | [], as, e => by cases e; rfl
  | u :: us, as, e => by
    cases u with
    | n b => cases e
    | d x =>
      unfold argsOf at e
      cases e1 : argsOf us r with
      | none => rw [e1] at e; cases e
      | some as' =>
        rw [e1] at e
        cases e
        rw [List.length_cons, List.length_cons, args_len e1]
    | v i =>
      unfold argsOf at e
      cases e2 : r[i]? with
      | none => rw [e2] at e; cases e
      | some o =>
        cases o with
        | none => rw [e2] at e; cases e
        | some b =>
          cases e1 : argsOf us r with
          | none => rw [e1, e2] at e; cases e
          | some as' =>
            rw [e1, e2] at e
            simp only at e
            split at e
            · cases e
              rw [List.length_cons, List.length_cons, args_len e1]
            · cases e
theorem args_v {r : Env} : ∀ {us : List Rv} {as : Env} {k i : Nat}, argsOf us r = some as → us[k]? = some (.v i) → ∃ a, as[k]? = some (some a) ∧ r[i]? = some (some a) ∧ a.own = true
  | [], as, k, i, e, h => by simp at h
  | u :: us, as, k, i, e, h => by
    cases u with
    | n b => cases e
    | d x =>
      unfold argsOf at e
      cases e1 : argsOf us r with
      | none => rw [e1] at e; cases e
      | some as' =>
        rw [e1] at e
        cases e
        cases k with
        | zero => simp at h
        | succ k =>
          obtain ⟨a, h1, h2, h3⟩ := args_v (k := k) e1 (by simpa using h)
          exact ⟨a, by simpa using h1, h2, h3⟩
    | v j =>
      unfold argsOf at e
      cases e2 : r[j]? with
      | none => rw [e2] at e; cases e
      | some o =>
        cases o with
        | none => rw [e2] at e; cases e
        | some b =>
          cases e1 : argsOf us r with
          | none => rw [e1, e2] at e; cases e
          | some as' =>
            rw [e1, e2] at e
            simp only at e
            split at e
            · rename_i hb
              cases e
              cases k with
              | zero =>
                simp at h
                subst h
                exact ⟨b, rfl, e2, hb⟩
              | succ k =>
                obtain ⟨a, h1, h2, h3⟩ := args_v (k := k) e1 (by simpa using h)
                exact ⟨a, by simpa using h1, h2, h3⟩
            · cases e
theorem back_get : ∀ {us : List Rv} {as r r2 : Env} {j : Nat}, backOf us as r = some r2 → (slotsOf us).Nodup →
    r2.length = r.length ∧ ((∀ k : Nat, us[k]? ≠ some (Rv.v j)) → r2[j]? = r[j]?) ∧ ∀ k : Nat, us[k]? = some (Rv.v j) → j < r.length → ∃ a, as[k]? = some (some a) ∧ a.own = true ∧ r2[j]? = some (some a)
  | [], as, r, r2, j, e, _ => by
    cases e
    exact ⟨rfl, fun _ => rfl, fun k h => by simp at h⟩
  | u :: us, as, r, r2, j, e, nd => by
    cases u with
    | d x =>
      cases as with
      | nil => cases e
      | cons a as =>
        obtain ⟨h1, h2, h3⟩ := back_get (us := us) (j := j) (show backOf us as r = some r2 from e) nd
        refine ⟨h1, fun h => h2 fun k => by simpa using h (k + 1), fun k h hj => ?_⟩
        cases k with
        | zero => simp at h
        | succ k =>
          obtain ⟨a, h4, h5, h6⟩ := h3 k (by simpa using h) hj
          exact ⟨a, by simpa using h4, h5, h6⟩
    | n b =>
      cases as with
      | nil => cases e
      | cons a as =>
        obtain ⟨h1, h2, h3⟩ := back_get (us := us) (j := j) (show backOf us as r = some r2 from e) nd
        refine ⟨h1, fun h => h2 fun k => by simpa using h (k + 1), fun k h hj => ?_⟩
        cases k with
        | zero => simp at h
        | succ k =>
          obtain ⟨a, h4, h5, h6⟩ := h3 k (by simpa using h) hj
          exact ⟨a, by simpa using h4, h5, h6⟩
    | v i =>
      cases as with
      | nil => cases e
      | cons o as =>
        cases o with
        | none => cases e
        | some a =>
          unfold backOf at e
          split at e
          · rename_i ha
            have nd2 := (List.nodup_cons.mp (show (i :: slotsOf us).Nodup from nd))
            obtain ⟨h1, h2, h3⟩ := back_get (us := us) (j := j) e nd2.2
            rw [List.length_set] at h1 h3
            refine ⟨h1, fun h => ?_, fun k h hj => ?_⟩
            · rw [h2 fun k => by simpa using h (k + 1)]
              have hij : i ≠ j := fun z => h 0 (by simp [z])
              rw [List.getElem?_set_ne hij]
            · cases k with
              | zero =>
                simp at h
                subst h
                refine ⟨a, by simp, ha, ?_⟩
                rw [h2 fun k z => nd2.1 (slots_mem z), List.getElem?_set_self hj]
              | succ k =>
                obtain ⟨b, h4, h5, h6⟩ := h3 k (by simpa using h) hj
                exact ⟨b, by simpa using h4, h5, h6⟩
          · cases e
theorem call_R (ok : ORok O) {F1 H1 H0 : Hp} {rho1 : Env} {sg : St} {fp1 : Fp} {us : List Rv} {vs : List V} {as : Env} (q1 : R K O F1 H1 rho1 sg fp1) (p1 : RepRs K O H0 F1 H1 fp1 sg vs us) (nd : (slotsOf us).Nodup) (ea : argsOf us rho1 = some as) :
    ∃ fpA : Fp, R K O F1 H1 as (vs.map some) fpA ∧ (∀ k b, fpA k b → ∃ i, us[k]? = some (.v i) ∧ fp1 i b) ∧ ∀ F2 H2 fpA2 as' rho2, Stp F1 H1 fpA F2 H2 fpA2 → R K O F2 H2 as' (vs.map some) fpA2 → backOf us as' rho1 = some rho2 →
      ∃ fp2, Stp F1 H1 fp1 F2 H2 fp2 ∧ R K O F2 H2 rho2 sg fp2 ∧ ∀ i b, fp2 i b → (∃ k, fpA2 k b) ∨ fp1 i b := by
  have rl := p1.length
  let fpA : Fp := fun k b => ∃ i, us[k]? = some (.v i) ∧ fp1 i b
  have hval : ∀ {k i : Nat}, us[k]? = some (.v i) → ∃ v, vs[k]? = some v ∧ sg[i]? = some (some v) := fun {k i} h => p1.get h
  refine ⟨fpA, ⟨q1.sub, by rw [args_len ea, List.length_map, rl], fun k a h => ?_, fun k b z => ?_, fun k b ⟨i, _, z⟩ => q1.fre i b z, fun k k' b ⟨i, h1, z1⟩ ⟨i', h2, z2⟩ => ?_⟩, fun k b z => z, fun F2 H2 fpA2 as' rho2 st r2 eb => ?_⟩
  · rcases args_get ea h with ⟨x, h1, rfl⟩ | ⟨i, h1, h2, h3⟩
    · obtain ⟨v, h4, h5⟩ := p1.get h1
      refine ⟨v, by rw [List.getElem?_map, h4]; rfl, h5, fun b ⟨i, z, _⟩ => ?_⟩
      rw [h1] at z
      cases z
    · obtain ⟨v, h4, h5⟩ := hval h1
      obtain ⟨w, h6, h7⟩ := q1.rep i a h2
      rw [h5] at h6
      cases h6
      refine ⟨v, by rw [List.getElem?_map, h4]; rfl, ?_⟩
      have e : fpA k = fp1 i := by
        funext b
        refine propext ⟨fun ⟨j, z1, z2⟩ => ?_, fun z => ⟨i, h1, z⟩⟩
        rw [h1] at z1
        cases z1
        exact z2
      rw [e]
      exact h7
  · obtain ⟨i, h1, z1⟩ := z
    obtain ⟨a, h2, h3, h4⟩ := args_v ea h1
    exact ⟨a, h2, h4⟩
  · have e := q1.dis i i' b z1 z2
    subst e
    exact slots_inj nd h1 h2
  · -- behind the call
    have hin : ∀ {j : Nat}, (∀ k : Nat, us[k]? ≠ some (Rv.v j)) → ∀ b, fp1 j b → ∀ k, ¬ fpA k b := fun {j} hj b z k ⟨i, h1, z1⟩ => by
      have e := q1.dis j i b z z1
      subst e
      exact hj k h1
    let fp2 : Fp := fun i b => (∃ k, us[k]? = some (.v i) ∧ fpA2 k b) ∨ ((∀ k : Nat, us[k]? ≠ some (Rv.v i)) ∧ fp1 i b)
    have hsl : ∀ {k i : Nat}, us[k]? = some (.v i) → i < rho1.length := fun {k i} h => by
      obtain ⟨a, _, h2, _⟩ := args_v ea h
      exact (List.getElem?_eq_some_iff.mp h2).1
    have there1 : ∀ i b, fp1 i b → H1 b ≠ none := fun i b z => by
      obtain ⟨a, h1, _⟩ := q1.own i b z
      obtain ⟨v, _, h2⟩ := q1.rep i a h1
      exact h2.there ok z
    have fA : ∀ k b, fpA2 k b → (∃ k', fpA k' b) ∨ H1 b = none := fun k b z => st.fps k b z
    refine ⟨fp2, ⟨st.grow, fun b h k m => st.new b h k fun i ⟨j, _, z⟩ => m j z, fun b o h k => st.frame b o h fun i ⟨j, _, z⟩ => k j z, fun i b z => ?_, st.stay⟩, ⟨r2.sub, by rw [(back_get (j := 0) eb nd).1]; exact q1.len, fun j a h => ?_, fun j b z => ?_, fun j b z => ?_, fun j j' b z z' => ?_⟩, fun i b z => ?_⟩
    · rcases z with ⟨k, _, z⟩ | ⟨_, z⟩
      · rcases fA k b z with ⟨k', i', _, q⟩ | q
        · exact .inl ⟨i', q⟩
        · exact .inr q
      · exact .inl ⟨i, z⟩
    · obtain ⟨b1, b2, b3⟩ := back_get (j := j) eb nd
      by_cases hj : ∃ k : Nat, us[k]? = some (Rv.v j)
      · obtain ⟨k, hk⟩ := hj
        obtain ⟨a', c1, c2, c3⟩ := b3 k hk (hsl hk)
        rw [c3] at h
        cases h
        obtain ⟨w, d1, d2⟩ := r2.rep k a c1
        obtain ⟨v, e1, e2⟩ := hval hk
        rw [List.getElem?_map, e1] at d1
        cases d1
        refine ⟨_, e2, ?_⟩
        have e : fp2 j = fpA2 k := by
          funext b
          refine propext ⟨fun z => ?_, fun z => .inl ⟨k, hk, z⟩⟩
          rcases z with ⟨k', z1, z2⟩ | ⟨z1, _⟩
          · rw [slots_inj nd hk z1]; exact z2
          · exact (z1 k hk).elim
        rw [e]
        exact d2
      · have hj' : ∀ k : Nat, us[k]? ≠ some (Rv.v j) := fun k z => hj ⟨k, z⟩
        rw [b2 hj'] at h
        obtain ⟨v, h1, h2⟩ := q1.rep j a h
        refine ⟨v, h1, ?_⟩
        have e : fp2 j = fp1 j := by
          funext b
          refine propext ⟨fun z => ?_, fun z => .inr ⟨hj', z⟩⟩
          rcases z with ⟨k', z1, z2⟩ | ⟨_, z2⟩
          · exact (hj' k' z1).elim
          · exact z2
        rw [e]
        refine h2.mono ok st.grow fun b z => ?_
        cases eb2 : H1 b with
        | none => exact absurd eb2 (there1 j b z)
        | some o => exact st.frame b o eb2 (hin hj' b z)
    · rcases z with ⟨k, z1, z2⟩ | ⟨z1, z2⟩
      · obtain ⟨b1, b2, b3⟩ := back_get (j := j) eb nd
        obtain ⟨a', c1, c2, c3⟩ := b3 k z1 (hsl z1)
        exact ⟨a', c3, c2⟩
      · obtain ⟨b1, b2, b3⟩ := back_get (j := j) eb nd
        rw [b2 z1]
        exact q1.own j b z2
    · rcases z with ⟨k, z1, z2⟩ | ⟨z1, z2⟩
      · exact r2.fre k b z2
      · exact st.new b (q1.fre j b z2) (there1 j b z2) (hin z1 b z2)
    · rcases z with ⟨k, z1, z2⟩ | ⟨z1, z2⟩
      · rcases z' with ⟨k', y1, y2⟩ | ⟨y1, y2⟩
        · have e := r2.dis k k' b z2 y2
          subst e
          rw [z1] at y1
          cases y1
          rfl
        · exfalso
          rcases fA k b z2 with ⟨k', q⟩ | q
          · exact hin y1 b y2 k' q
          · exact there1 j' b y2 q
      · rcases z' with ⟨k', y1, y2⟩ | ⟨y1, y2⟩
        · exfalso
          rcases fA k' b y2 with ⟨k'', q⟩ | q
          · exact hin z1 b z2 k'' q
          · exact there1 j b z2 q
        · exact q1.dis j j' b z2 y2
    · rcases z with ⟨k, _, z⟩ | ⟨_, z⟩
      · exact .inl ⟨k, z⟩
      · exact .inr z
end
end Sn
namespace Sn
open PySem L2 PySem.Spec
open PyProof.Rows hiding St
/-! ### a call of a def of the text, some arguments by their names, some left out -/
def arrR : List (Nat ⊕ D) → List Rv → Option (List Rv)
  | [], _ => some []
  | .inl i :: ps, us => match us[i]?, arrR ps us with
    | some u, some r => some (u :: r)
    | _, _ => none
  | .inr d :: ps, us => match arrR ps us with
    | some r => some (.d d :: r)
    | none => none
def callT (f : Fn) (us : List Rv) (r1 : Env) : Rs Rv := if us.length = f.ar ∧ (slotsOf us).Nodup then match argsOf us r1 with
  | some as => match f.sem as with
    | .ok u as' => if isV u = true then .no else match backOf us as' r1 with
      | some r2 => .ok u r2
      | none => .no
    | .ex x as' => match backOf us as' r1 with
      | some r2 => .ex x r2
      | none => .no
    | .no => .no
  | none => .no
  else .no
/-- something new among the arguments is held by a slot of its own while the call goes on -/
def spill (n : Nat) : List Rv → Option (A × List Rv)
  | [] => none
  | .n a :: us => if us.all (fun u => match u with | .n _ => false | _ => true) = true then some (a, .v n :: us) else none
  | u :: us => match spill n us with
    | some (a, ws) => some (a, u :: ws)
    | none => none
def callX (f : Fn) (us : List Rv) (r : Env) : Rs Rv := match spill r.length us with
  | none => callT f us r
  | some (a, ws) => match callT f ws (r ++ [some a]) with
    | .ok u r2 => .ok u (r2.take r.length)
    | .ex x r2 => .ex x (r2.take r.length)
    | .no => .no
def xCF (f : Fn) (xs : XA) : X1 := fun r => (xs r).bind fun us r1 => callX f us r1
def xCFK (f : Fn) (pat : List (Nat ⊕ D)) (xs zs : XA) : X1 := fun r => (xs r).bind fun us r1 => (zs r1).bind fun ws r2 => match arrR pat (us ++ ws) with
  | some vs => callX f vs r2
  | none => .no
section
variable {X : Cx} {CX : CXT} {k n : Nat} {f : Addr} {fd : FuncData} {ps ks : List Str} {sp : Sp} {E : St → XK} {x : Str} {p pos : Pos} {e : Expr} {es : List Expr} {kws : List Keyword} {t tk : TA} {g : List Value → List Value → List Value} {gV : List V → List V → List V}
def tCallSN (n m : Nat) (sp : Sp) (gV : List V → List V → List V) (E : St → XK) (t tk : TA) : TE := fun σ H Q => t σ H fun vs H1 => tk σ H1 fun zs H2 => vs.length = n ∧ zs.length = m ∧ sp (gV vs zs) H2 Q (E σ)
theorem run_fnNS {pins : List (Addr × Obj)} {σ : St} {H : Hp} {s : Shared} {Q : VK} {us ws : List Value} {vs zs : List V} (F : FnOk X.prog X.w X.K X.mg X.base CX k f fd ps sp) (hr : Room k X.A) (hb : KBn X.K fd ps n ks g gV) (hx : PassesAt CX X σ (E σ))
    (I : Inv X pins σ H s) (r : Vals vs us) (rz : Vals zs ws) (l1 : vs.length = n) (l2 : zs.length = ks.length) (h : sp (gV vs zs) H Q (E σ)) : wpAny (model X.prog X.w) X.A (call (.ref f) us (ks.zip ws)) (EP X pins σ Q) X.xe s := by
  have r2 := hb.rel r rz
  refine wpAny_call (codeAny_mono (F.run X.A X.stack s H ⟨us, ks.zip ws⟩ (g us ws) (gV vs zs) Q (E σ) hr I.env0 (hb.to s us ws I.kIn (r.length.symm.trans l1) (rz.length.symm.trans l2)) r2 h) fun r s' hq => ?_)
  cases r with
  | error e => exact hx pins H s e s' I hq
  | ok fl =>
    cases fl with
    | ret u => exact I.after hq
    | next => exact False.elim hq
    | brk => exact False.elim hq
    | cont => exact False.elim hq
theorem pe_callSN (F : FnOk X.prog X.w X.K X.mg X.base CX k f fd ps sp) (hr : Room k X.A) (hg : Gl X x) (hm : X.mg x = some (.ref f)) (hk : PySem.W.keepIn X.K (.ref f) = true) (hb : KBn X.K fd ps n ks g gV) (hx : ∀ σ, PassesAt CX X σ (E σ))
    (ha : PA X (e :: es) t) (hkw : PK X kws tk) (hall : (backToKw pos (keywordEach kws X.env)).all (·.1.isSome) = true) (hks : (backToKw pos (keywordEach kws X.env)).filterMap (·.1) = ks)
    (hdb : (x == ("__debug__" : Str)) = false) (he : starEach (e :: es) X.env = (false, eval e X.env) :: starEach es X.env)
    (hpl : ((backTo pos (starEach (e :: es) X.env)).any (·.1) || (backToKw pos (keywordEach kws X.env)).any (·.1.isNone)) = false) :
    PE X (.Call (.Name x p) (e :: es) kws pos) (tCallSN n ks.length sp gV E t tk) := by
  refine ⟨fun pins s σ H Q I h => ?_⟩
  refine wpAny_Call_Name_kw (ld_glob I hg hm ?_ hdb)
  refine PySem.W.callWith_KW (h₀ := X.base) I.ok.mod.kin hk hall (thn (ha.run pos pins s σ H _ I h) fun us s1 ⟨vs, H1, I1, r, q⟩ => ?_) hpl he
  refine thn (hkw.run pos pins s1 σ H1 _ I1 q) fun ws s2 ⟨zs, H2, I2, rz, l1, l2, q2⟩ => ⟨I2.kIn, ?_⟩
  rw [hks]
  exact run_fnNS F hr hb (hx σ) I2 r rz l1 l2 q2
theorem pe_callSN0 (F : FnOk X.prog X.w X.K X.mg X.base CX k f fd ps sp) (hr : Room k X.A) (hg : Gl X x) (hm : X.mg x = some (.ref f)) (hk : PySem.W.keepIn X.K (.ref f) = true) (hb : KBn X.K fd ps 0 ks g gV) (hx : ∀ σ, PassesAt CX X σ (E σ))
    (hkw : PK X kws tk) (hall : (backToKw pos (keywordEach kws X.env)).all (·.1.isSome) = true) (hks : (backToKw pos (keywordEach kws X.env)).filterMap (·.1) = ks)
    (hdb : (x == ("__debug__" : Str)) = false)
    (hpl : ((backTo pos (starEach [] X.env)).any (·.1) || (backToKw pos (keywordEach kws X.env)).any (·.1.isNone)) = false) :
    PE X (.Call (.Name x p) [] kws pos) (tCallSN 0 ks.length sp gV E tNil tk) := by
  refine ⟨fun pins s σ H Q I h => ?_⟩
  refine wpAny_Call_Name_kw (ld_glob I hg hm ?_ hdb)
  refine PySem.W.callWith_KW0 (h₀ := X.base) I.ok.mod.kin hk hall ?_ hpl
  refine thn (hkw.run pos pins s σ H _ I h) fun ws s2 ⟨zs, H2, I2, rz, l1, l2, q2⟩ => ⟨I2.kIn, ?_⟩
  rw [hks]
  exact run_fnNS (us := []) (vs := []) F hr hb (hx σ) I2 .nil rz rfl l2 q2
end
section
variable {K : PySem.W.Frag} {O : OR} {X : Cx} {W : WX}
theorem RepRs.keep (ok : ORok O) {H0 F1 H1 F2 H2 : Hp} {fp1 fp2 : Fp} {sg : St} (st : Stp F1 H1 fp1 F2 H2 fp2) : ∀ {vs : List V} {us : List Rv}, RepRs K O H0 F1 H1 fp1 sg vs us → RepRs K O H0 F2 H2 fp2 sg vs us
  | [], us, h => h
  | v :: vs, us, h => by
    obtain ⟨u, r, e, h1, h2⟩ := h
    exact ⟨u, r, e, h1.keep ok st, RepRs.keep ok st h2⟩
theorem RepRs.app {H0 F H : Hp} {fp : Fp} {sg : St} : ∀ {vs ws : List V} {us us' : List Rv}, RepRs K O H0 F H fp sg vs us → RepRs K O H0 F H fp sg ws us' → RepRs K O H0 F H fp sg (vs ++ ws) (us ++ us')
  | [], ws, us, us', h, h' => by cases (show us = [] from h); exact h'
  | v :: vs, ws, us, us', h, h' => by
    obtain ⟨u, r, rfl, h1, h2⟩ := h
    exact ⟨u, r ++ us', rfl, h1, RepRs.app h2 h'⟩
theorem arr_ok {H0 F H : Hp} {fp : Fp} {sg : St} {vs : List V} {us : List Rv} (h : RepRs K O H0 F H fp sg vs us) : ∀ {pat : List (Nat ⊕ D)} {out : List V} {us' : List Rv}, ArrV K pat vs out → arrR pat us = some us' → RepRs K O H0 F H fp sg out us'
  | [], out, us', a, e => by
    cases e
    cases (show out = [] from a)
    rfl
  | .inl i :: ps, out, us', a, e => by
    obtain ⟨v, r, rfl, h1, h2⟩ := a
    unfold arrR at e
    cases e1 : us[i]? with
    | none => rw [e1] at e; cases e
    | some u =>
      cases e2 : arrR ps us with
      | none => rw [e1, e2] at e; cases e
      | some w =>
        rw [e1, e2] at e
        cases e
        obtain ⟨v', h3, h4⟩ := h.get e1
        rw [h1] at h3
        cases h3
        exact ⟨u, w, rfl, h4, arr_ok h h2 e2⟩
  | .inr d :: ps, out, us', a, e => by
    obtain ⟨v, r, rfl, h1, h2⟩ := a
    unfold arrR at e
    cases e2 : arrR ps us with
    | none => rw [e2] at e; cases e
    | some w =>
      rw [e2] at e
      cases e
      exact ⟨.d d, w, rfl, h1 F, arr_ok h h2 e2⟩
theorem callT_ok (ok : ORok O) {f : Fn} {us : List Rv} {r1 : Env} {F H F1 H1 : Hp} {fp fp1 : Fp} {sg : St} {vs : List V} {Q : VK} (q1 : R K O F1 H1 r1 sg fp1) (p1 : RepRs K O H F1 H1 fp1 sg vs us) (s1 : Stp F H fp F1 H1 fp1)
    (q : match callT f us r1 with
      | .ok r rho' => ∀ F' H' fp' v, Stp F H fp F' H' fp' → R K O F' H' rho' sg fp' → RepR K O H F' H' fp' sg v r → Q v H'
      | .ex x rho' => ∀ F' H' fp' d, Stp F H fp F' H' fp' → R K O F' H' rho' sg fp' → RpX K F' H' d x.fs → W x.cls d sg H'
      | .no => False) : spF K O f vs H1 Q (WE W sg) := by
  unfold callT at q
  by_cases hc : us.length = f.ar ∧ (slotsOf us).Nodup
  · rw [if_pos hc] at q
    cases ea : argsOf us r1 with
    | none => rw [ea] at q; exact q.elim
    | some as =>
      rw [ea] at q
      simp only at q
      obtain ⟨fpA, rA, hA, hback⟩ := call_R ok q1 p1 hc.2 ea
      refine ⟨F1, fpA, as, by rw [p1.length]; exact hc.1, rA, ?_⟩
      cases es' : f.sem as with
      | no => rw [es'] at q; exact q
      | ex y as' =>
        rw [es'] at q
        simp only at q
        cases eb : backOf us as' r1 with
        | none => rw [eb] at q; exact q.elim
        | some r2 =>
          rw [eb] at q
          intro F2 H2 fpA2 d s2 r2' p2
          obtain ⟨fp2, s3, r3, _⟩ := hback F2 H2 fpA2 as' r2 s2 r2' eb
          exact q F2 H2 fp2 d (s1.trans s3) r3 p2
      | ok u as' =>
        rw [es'] at q
        simp only at q
        by_cases hv : isV u = true
        · rw [if_pos hv] at q; exact q.elim
        · rw [if_neg hv] at q
          cases eb : backOf us as' r1 with
          | none => rw [eb] at q; exact q.elim
          | some r2 =>
            rw [eb] at q
            intro F2 H2 fpA2 v s2 r2' p2
            obtain ⟨fp2, s3, r3, hfp⟩ := hback F2 H2 fpA2 as' r2 s2 r2' eb
            refine q F2 H2 fp2 v (s1.trans s3) r3 ?_
            cases u with
            | d x => exact p2
            | v i => exact (hv rfl).elim
            | n a =>
              obtain ⟨S, h1, h2, h3⟩ := p2
              refine ⟨S, h1, h2, fun b hb => ⟨(h3 b hb).1, ?_, fun i z => ?_⟩⟩
              · cases e2 : H b with
                | none => rfl
                | some o => exact absurd (h3 b hb).2.1 (s1.stay b (by rw [e2]; exact fun z => nomatch z))
              · rcases hfp i b z with ⟨k', z⟩ | z
                · exact (h3 b hb).2.2 k' z
                · obtain ⟨a', h4, _⟩ := q1.own i b z
                  obtain ⟨_, _, h5⟩ := q1.rep i a' h4
                  exact h5.there ok z (h3 b hb).2.1
  · rw [if_neg hc] at q; exact q.elim
theorem spill_ok {H0 F1 H1 : Hp} {fp1 : Fp} {sg : St} {n : Nat} (hn : n = sg.length) : ∀ {us ws : List Rv} {a : A} {vs : List V}, spill n us = some (a, ws) → RepRs K O H0 F1 H1 fp1 sg vs us → ∃ v S, RepA K O F1 H1 v a S ∧ a.own = true ∧ (∀ b, S b → F1 b = none ∧ H0 b = none ∧ ∀ i, ¬ fp1 i b) ∧
      ∀ fp2 : Fp, (∀ i b, fp2 i b → fp1 i b ∨ S b) → RepRs K O H0 F1 H1 fp2 (sg ++ [some v]) vs ws
  | [], ws, a, vs, e, h => by cases e
  | u :: us, ws, a, vs, e, h => by
    have lift : ∀ {v : V} {vs' : List V} {us' : List Rv}, (us'.all (fun u => match u with | .n _ => false | _ => true)) = true → RepRs K O H0 F1 H1 fp1 sg vs' us' → ∀ fp2 : Fp, RepRs K O H0 F1 H1 fp2 (sg ++ [some v]) vs' us' := by
      intro v vs' us' ha hr fp2
      induction us' generalizing vs' with
      | nil =>
        cases vs' with
        | nil => rfl
        | cons v vs => obtain ⟨_, _, z, _⟩ := hr; cases z
      | cons u us ih =>
        cases vs' with
        | nil => cases (show u :: us = [] from hr)
        | cons v0 vs0 =>
          obtain ⟨u', r', z, h1, h2⟩ := hr
          cases z
          rw [List.all_cons, Bool.and_eq_true] at ha
          refine ⟨u, us, rfl, ?_, ih ha.2 h2⟩
          cases u with
          | d x => exact h1
          | n a => cases ha.1
          | v i =>
            have h1 : sg[i]? = some (some v0) := h1
            show (sg ++ [some v])[i]? = _
            rw [List.getElem?_append_left (List.getElem?_eq_some_iff.mp h1).1]
            exact h1
    cases vs with
    | nil => cases (show u :: us = [] from h)
    | cons v vs =>
      obtain ⟨u', r', z, h1, h2⟩ := h
      cases z
      have rest : ∀ {a ws'}, spill n us = some (a, ws') → (∀ w, RepR K O H0 F1 H1 fp1 sg v u → ∀ fp2 : Fp, RepR K O H0 F1 H1 fp2 (sg ++ [some w]) v u) → ∃ w S, RepA K O F1 H1 w a S ∧ a.own = true ∧ (∀ b, S b → F1 b = none ∧ H0 b = none ∧ ∀ i, ¬ fp1 i b) ∧ ∀ fp2 : Fp, (∀ i b, fp2 i b → fp1 i b ∨ S b) → RepRs K O H0 F1 H1 fp2 (sg ++ [some w]) (v :: vs) (u :: ws') := fun {a ws'} es hu => by
        obtain ⟨w, S, a1, a2, a3, a4⟩ := spill_ok hn es h2
        exact ⟨w, S, a1, a2, a3, fun fp2 hf => ⟨u, ws', rfl, hu w h1 fp2, a4 fp2 hf⟩⟩
      cases u with
      | n a0 =>
        unfold spill at e
        split at e
        · rename_i ha
          cases e
          obtain ⟨S, a1, a2, a3⟩ := h1
          refine ⟨v, S, a1, a2, a3, fun fp2 hf => ⟨.v n, us, rfl, ?_, lift ha h2 fp2⟩⟩
          show (sg ++ [some v])[n]? = _
          rw [hn, List.getElem?_append_right (Nat.le_refl _), Nat.sub_self]
          rfl
        · cases e
      | d x =>
        unfold spill at e
        cases es : spill n us with
        | none => rw [es] at e; cases e
        | some aw =>
          obtain ⟨a', ws'⟩ := aw
          rw [es] at e
          cases e
          exact rest es fun w hh fp2 => hh
      | v i =>
        unfold spill at e
        cases es : spill n us with
        | none => rw [es] at e; cases e
        | some aw =>
          obtain ⟨a', ws'⟩ := aw
          rw [es] at e
          cases e
          refine rest es fun w hh fp2 => ?_
          have hh : sg[i]? = some (some v) := hh
          show (sg ++ [some w])[i]? = _
          rw [List.getElem?_append_left (List.getElem?_eq_some_iff.mp hh).1]
          exact hh
/-- a slot more, for something new -/
theorem R.more {F1 H1 : Hp} {r1 : Env} {sg : St} {fp1 : Fp} (q : R K O F1 H1 r1 sg fp1) {v : V} {a : A} {S : Addr → Prop} (h1 : RepA K O F1 H1 v a S) (h2 : a.own = true) (h3 : ∀ b, S b → F1 b = none ∧ ∀ i, ¬ fp1 i b) :
    R K O F1 H1 (r1 ++ [some a]) (sg ++ [some v]) (fun i b => (i < r1.length ∧ fp1 i b) ∨ (i = r1.length ∧ S b)) where
  sub := q.sub
  len := by rw [List.length_append, List.length_append, q.len]; rfl
  rep := fun i b e => by
    by_cases hi : i < r1.length
    · rw [List.getElem?_append_left hi] at e
      obtain ⟨w, k1, k2⟩ := q.rep i b e
      refine ⟨w, by rw [List.getElem?_append_left (by rw [← q.len]; exact hi)]; exact k1, ?_⟩
      have ee : (fun c => (i < r1.length ∧ fp1 i c) ∨ (i = r1.length ∧ S c)) = fp1 i := by
        funext c
        exact propext ⟨fun z => z.elim (fun z => z.2) (fun z => (by omega)), fun z => .inl ⟨hi, z⟩⟩
      show RepA K O F1 H1 w b (fun c => (i < r1.length ∧ fp1 i c) ∨ (i = r1.length ∧ S c))
      rw [ee]
      exact k2
    · have hi2 : i = r1.length := by
        have := (List.getElem?_eq_some_iff.mp e).1
        rw [List.length_append] at this
        simp at this
        omega
      subst hi2
      rw [List.getElem?_append_right (Nat.le_refl _), Nat.sub_self] at e
      cases e
      refine ⟨v, by rw [q.len, List.getElem?_append_right (Nat.le_refl _), Nat.sub_self]; rfl, ?_⟩
      have ee : (fun c => (r1.length < r1.length ∧ fp1 r1.length c) ∨ (r1.length = r1.length ∧ S c)) = S := by
        funext c
        exact propext ⟨fun z => z.elim (fun z => absurd z.1 (Nat.lt_irrefl _)) (fun z => z.2), fun z => .inr ⟨rfl, z⟩⟩
      show RepA K O F1 H1 v a (fun c => (r1.length < r1.length ∧ fp1 r1.length c) ∨ (r1.length = r1.length ∧ S c))
      rw [ee]
      exact h1
  own := fun i b z => by
    rcases z with ⟨hi, z⟩ | ⟨rfl, z⟩
    · obtain ⟨c, k1, k2⟩ := q.own i b z
      exact ⟨c, by rw [List.getElem?_append_left hi]; exact k1, k2⟩
    · exact ⟨a, by rw [List.getElem?_append_right (Nat.le_refl _), Nat.sub_self]; rfl, h2⟩
  fre := fun i b z => by
    rcases z with ⟨_, z⟩ | ⟨_, z⟩
    · exact q.fre i b z
    · exact (h3 b z).1
  dis := fun i j b z z' => by
    rcases z with ⟨hi, z⟩ | ⟨rfl, z⟩
    · rcases z' with ⟨_, z'⟩ | ⟨_, z'⟩
      · exact q.dis i j b z z'
      · exact ((h3 b z').2 i z).elim
    · rcases z' with ⟨_, z'⟩ | ⟨hj, z'⟩
      · exact ((h3 b z).2 j z').elim
      · exact hj.symm
/-- the slot given up again -/
theorem R.less {F2 H2 : Hp} {r2 : Env} {sg : St} {fp2 : Fp} {x : Option V} {n : Nat} (q : R K O F2 H2 r2 (sg ++ [x]) fp2) (hn : n = sg.length) : R K O F2 H2 (r2.take n) sg (fun i b => i < n ∧ fp2 i b) where
  sub := q.sub
  len := by
    have := q.len
    rw [List.length_append] at this
    rw [List.length_take, hn]
    simp at this
    omega
  rep := fun i a e => by
    have hi : i < n := by
      have := (List.getElem?_eq_some_iff.mp e).1
      rw [List.length_take] at this
      omega
    rw [List.getElem?_take_of_lt hi] at e
    obtain ⟨v, k1, k2⟩ := q.rep i a e
    rw [List.getElem?_append_left (by omega)] at k1
    refine ⟨v, k1, ?_⟩
    have ee : (fun b => i < n ∧ fp2 i b) = fp2 i := by
      funext b
      exact propext ⟨fun z => z.2, fun z => ⟨hi, z⟩⟩
    show RepA K O F2 H2 v a (fun b => i < n ∧ fp2 i b)
    rw [ee]
    exact k2
  own := fun i b z => by
    obtain ⟨a, k1, k2⟩ := q.own i b z.2
    exact ⟨a, by rw [List.getElem?_take_of_lt z.1]; exact k1, k2⟩
  fre := fun i b z => q.fre i b z.2
  dis := fun i j b z z' => q.dis i j b z.2 z'.2
theorem callX_ok (ok : ORok O) {f : Fn} {us : List Rv} {r1 : Env} {F H F1 H1 : Hp} {fp fp1 : Fp} {sg : St} {vs : List V} {Q : VK} (q1 : R K O F1 H1 r1 sg fp1) (p1 : RepRs K O H F1 H1 fp1 sg vs us) (s1 : Stp F H fp F1 H1 fp1)
    (q : match callX f us r1 with
      | .ok r rho' => ∀ F' H' fp' v, Stp F H fp F' H' fp' → R K O F' H' rho' sg fp' → RepR K O H F' H' fp' sg v r → Q v H'
      | .ex x rho' => ∀ F' H' fp' d, Stp F H fp F' H' fp' → R K O F' H' rho' sg fp' → RpX K F' H' d x.fs → W x.cls d sg H'
      | .no => False) : spF K O f vs H1 Q (WE W sg) := by
  unfold callX at q
  cases es : spill r1.length us with
  | none =>
    rw [es] at q
    exact callT_ok (W := W) ok q1 p1 s1 q
  | some aw =>
    obtain ⟨a, ws⟩ := aw
    rw [es] at q
    simp only at q
    obtain ⟨v, S, a1, a2, a3, a4⟩ := spill_ok q1.len es p1
    have qm := q1.more a1 a2 fun b hb => ⟨(a3 b hb).1, (a3 b hb).2.2⟩
    have pm := a4 (fun i b => (i < r1.length ∧ fp1 i b) ∨ (i = r1.length ∧ S b)) fun i b z => z.elim (fun z => .inl z.2) (fun z => .inr z.2)
    have sm : Stp F H fp F1 H1 (fun i b => (i < r1.length ∧ fp1 i b) ∨ (i = r1.length ∧ S b)) := ⟨s1.grow, s1.new, s1.frame, fun i b z => z.elim (fun z => s1.fps i b z.2) (fun z => .inr (a3 b z.2).2.1), s1.stay⟩
    have sl : ∀ {F' H' : Hp} {fp' : Fp}, Stp F H fp F' H' fp' → Stp F H fp F' H' (fun i b => i < r1.length ∧ fp' i b) := fun st => ⟨st.grow, st.new, st.frame, fun i b z => st.fps i b z.2, st.stay⟩
    refine callT_ok (W := fun cls d _ H => W cls d sg H) ok qm pm sm ?_
    have niv : ∀ u r2, callT f ws (r1 ++ [some a]) = .ok u r2 → isV u = false := fun u r2 e => by
      unfold callT at e
      split at e
      · split at e
        · split at e
          · split at e
            · cases e
            · rename_i hv
              split at e
              · cases e; simpa using hv
              · cases e
          · split at e <;> cases e
          · cases e
        · cases e
      · cases e
    cases ec : callT f ws (r1 ++ [some a]) with
    | no => rw [ec] at q; exact q
    | ex x r2 =>
      rw [ec] at q
      exact fun F' H' fp' d st rr px => q F' H' _ d (sl st) (rr.less q1.len) px
    | ok u r2 =>
      rw [ec] at q
      have hv := niv u r2 ec
      refine fun F' H' fp' w st rr px => q F' H' _ w (sl st) (rr.less q1.len) ?_
      cases u with
      | d x => exact px
      | v i => cases hv
      | n a =>
        obtain ⟨S', b1, b2, b3⟩ := px
        exact ⟨S', b1, b2, fun b hb => ⟨(b3 b hb).1, (b3 b hb).2.1, fun i z => (b3 b hb).2.2 i z.2⟩⟩
theorem okCF {xs : XA} {x : Str} {f : Fn} {e : Expr} {es : List Expr} {p pos : Pos} (ok : ORok O) (tk : Takes X W) (hf : CallOk K O X x f) (hg : Gl X x) (hdb : (x == ("__debug__" : Str)) = false) (he : notStar e = true) (hpl : (backTo pos (starEach es X.env)).any (·.1) = false)
    (h : OkA K O X W xs (e :: es)) : OkE K O X W (xCF f xs) (.Call (.Name x p) (e :: es) [] pos) := fun rho => by
  obtain ⟨fa, fd, ps, kk, hF, hr, hm, hk, hb, hl⟩ := hf
  have go : ∀ {t : TA}, PA X (e :: es) t → PE X (.Call (.Name x p) (e :: es) [] pos) (tCallSD (spF K O f) [] (WE W) t) := fun ht => pe_callSD hF hr hg hm hk hb .nil (fun σ => passAt tk σ) ht hdb (star_cons he) hpl
  have k := h rho
  unfold xCF
  cases ex : xs rho with
  | no => exact PEno
  | ex y r1 =>
    rw [ex] at k
    refine PEimp (go k) fun sg H Q q => ?_
    obtain ⟨F, fp, r, q⟩ := q
    exact ⟨F, fp, r, q⟩
  | ok us r1 =>
    rw [ex] at k
    show PE X _ (tEv K O W rho (callX f us r1))
    refine PEimp (go k) fun sg H Q q => ?_
    obtain ⟨F, fp, r, q⟩ := q
    refine ⟨F, fp, r, fun F1 H1 fp1 vs s1 q1 p1 => ?_⟩
    show spF K O f (vs ++ []) H1 Q (WE W sg)
    rw [List.append_nil]
    exact callX_ok (W := W) ok q1 p1 s1 q
/-! ### keywords -/
def OkK (K : PySem.W.Frag) (O : OR) (X : Cx) (W : WX) (x : XA) (ks : List Keyword) : Prop := ∀ rho, PK X ks (tEvA K O W rho (x rho))
theorem PKimp {es : List Keyword} {t t' : TA} (h : PK X es t) (i : ∀ sg H Q, t' sg H Q → t sg H Q) : PK X es t' := ⟨fun pos pins s sg H Q I q => h.run pos pins s sg H Q I (i _ _ _ q)⟩
theorem PKno {es : List Keyword} {rho : Env} : PK X es (tEvA K O W rho .no) := ⟨fun _ pins s sg H Q I q => by
  obtain ⟨F, fp, _, z⟩ := q
  exact z.elim⟩
theorem okK_nil : OkK K O X W xaNil [] := fun rho => PKimp pk_nil fun sg H Q q => by
  obtain ⟨F, fp, r, q⟩ := q
  exact q F H fp [] (Stp.refl _ _ _) r rfl
theorem okK_cons (ok : ORok O) {x : X1} {xs : XA} {nm : Option Str} {e : Expr} {kp : Pos} {es : List Keyword} (h : OkE K O X W x e) (h2 : OkK K O X W xs es) : OkK K O X W (xaCons x xs) (⟨nm, e, kp⟩ :: es) := fun rho => by
  have k := h rho
  unfold xaCons
  cases ex : x rho with
  | no => exact PKno
  | ex y r1 =>
    rw [ex] at k
    refine PKimp (pk_cons k (h2 rho)) fun sg H Q q => ?_
    obtain ⟨F, fp, r, q⟩ := q
    exact ⟨F, fp, r, q⟩
  | ok u r1 =>
    rw [ex] at k
    have k2 := h2 r1
    show PK X _ (tEvA K O W rho ((xs r1).bind fun us r2 => .ok (u :: us) r2))
    cases eu : xs r1 with
    | no => exact PKno
    | ex y r2 =>
      rw [eu] at k2
      refine PKimp (pk_cons k k2) fun sg H Q q => ?_
      obtain ⟨F, fp, r, q⟩ := q
      exact ⟨F, fp, r, fun F1 H1 fp1 v s1 q1 p1 => ⟨F1, fp1, q1, fun F2 H2 fp2 d s2 q2 p2 => q F2 H2 fp2 d (s1.trans s2) q2 p2⟩⟩
    | ok us r2 =>
      rw [eu] at k2
      refine PKimp (pk_cons k k2) fun sg H Q q => ?_
      obtain ⟨F, fp, r, q⟩ := q
      refine ⟨F, fp, r, fun F1 H1 fp1 v s1 q1 p1 => ⟨F1, fp1, q1, fun F2 H2 fp2 vs s2 q2 p2 => q F2 H2 fp2 (v :: vs) (s1.trans s2) q2 ⟨u, us, rfl, p1.keep ok s2, ?_⟩⟩⟩
      exact p2.back s1.stay
theorem okCFK_P (ok : ORok O) {f : Fn} {pat : List (Nat ⊕ D)} {xs zs : XA} {e : Expr} {n m : Nat} {gV : List V → List V → List V} {Pa Pk : TA → Prop} (hr : ∀ t tk, Pa t → Pk tk → PE X e (tCallSN n m (spF K O f) gV (WE W) t tk)) (nk : Pk (fun _ _ _ => False))
    (hg : ∀ vs zs : List V, vs.length = n → zs.length = m → ArrV K pat (vs ++ zs) (gV vs zs))
    (ha : ∀ rho, Pa (tEvA K O W rho (xs rho))) (hk : ∀ rho, Pk (tEvA K O W rho (zs rho))) (la : ∀ rho us r, xs rho = .ok us r → us.length = n) (lk : ∀ rho us r, zs rho = .ok us r → us.length = m) : OkE K O X W (xCFK f pat xs zs) e := fun rho => by
  have k := ha rho
  unfold xCFK
  cases ex : xs rho with
  | no => exact PEno
  | ex y r1 =>
    rw [ex] at k
    refine PEimp (hr _ _ k nk) fun sg H Q q => ?_
    obtain ⟨F, fp, r, q⟩ := q
    exact ⟨F, fp, r, q⟩
  | ok us r1 =>
    rw [ex] at k
    have k2 := hk r1
    show PE X _ (tEv K O W rho ((zs r1).bind fun ws r2 => match arrR pat (us ++ ws) with
      | some vs => callX f vs r2
      | none => .no))
    cases ez : zs r1 with
    | no => exact PEno
    | ex y r2 =>
      rw [ez] at k2
      refine PEimp (hr _ _ k k2) fun sg H Q q => ?_
      obtain ⟨F, fp, r, q⟩ := q
      exact ⟨F, fp, r, fun F1 H1 fp1 v s1 q1 p1 => ⟨F1, fp1, q1, fun F2 H2 fp2 d s2 q2 p2 => q F2 H2 fp2 d (s1.trans s2) q2 p2⟩⟩
    | ok ws r2 =>
      rw [ez] at k2
      show PE X _ (tEv K O W rho (match arrR pat (us ++ ws) with
        | some vs => callX f vs r2
        | none => .no))
      cases ear : arrR pat (us ++ ws) with
      | none => exact PEno
      | some vs' =>
        refine PEimp (hr _ _ k k2) fun sg H Q q => ?_
        obtain ⟨F, fp, r, q⟩ := q
        refine ⟨F, fp, r, fun F1 H1 fp1 vs s1 q1 p1 => ⟨F1, fp1, q1, fun F2 H2 fp2 zs' s2 q2 p2 => ?_⟩⟩
        have l1 : vs.length = n := by rw [p1.length]; exact la _ _ _ ex
        have l2 : zs'.length = m := by rw [p2.length]; exact lk _ _ _ ez
        refine ⟨l1, l2, ?_⟩
        have pp := arr_ok ((p1.keep ok s2).app (p2.back s1.stay)) (hg vs zs' l1 l2) ear
        exact callX_ok (W := W) ok q2 pp (s1.trans s2) q
end
end Sn
namespace Sn
open PySem L2
/-! ### o.m(..), m a method of a built-in type -/
/-- what comes back, and what the receiver is then (none: as it was) -/
abbrev MA := A → List A → Option (Rv × Option A)
inductive MT where
  | str | list | dict
def MT.nm : MT → String
  | .str => "str" | .list => "list" | .dict => "dict"
def MT.of (T : MT) (a : A) : Bool := match T, a with
  | .str, .d (.str _) => true
  | .list, .d (.lst _) => true
  | .list, .d (.rl _) => true
  | .list, .l _ _ => true
  | .dict, .d (.dic _) => true
  | .dict, .m _ => true
  | _, _ => false
def putV (u z : Rv) (a : A) (r : Env) : Rs Rv := match u with
  | .v i => .ok z (r.set i (some a))
  | _ => .no
def xMe (T : MT) (f : MA) (o : X1) (xs : XA) : X1 := fun r => (o r).bind fun u r1 => match u.at r1 with
  | some a0 => if T.of a0 = true then (xs r1).bind fun us r2 => match u.at r2, atAll us r2 with
    | some a, some as => match f a as with
      | some (z, none) => .ok z r2
      | some (z, some a') => putV u z a' r2
      | none => .no
    | _, _ => .no
    else .no
  | none => .no
section
variable {K : PySem.W.Frag} {O : OR} {F H : Hp} {fp : Fp} {rho : Env} {sg : St}
/-- a slot's own list, dict is written -/
theorem R.write (ok : ORok O) (r : R K O F H rho sg fp) {i : Nat} {a' : A} {p : Addr} {o o' : HO} (hp : H p = some o) (hi : ∀ b, fp i b ↔ b = p) (hs : sg[i]? = some (some (.ref p))) (ha : a'.own = true)
    (hr : RepA K O F (upd H p o') (.ref p) a' (fp i)) : R K O F (upd H p o') (rho.set i (some a')) sg fp ∧ Stp F H fp F (upd H p o') fp := by
  have hF : F p = none := r.fre i p ((hi p).mpr rfl)
  have hlt : i < rho.length := by
    rw [r.len]
    exact (List.getElem?_eq_some_iff.mp hs).1
  refine ⟨⟨fun b u e => ?_, by rw [List.length_set]; exact r.len, fun j a h => ?_, fun j b z => ?_, r.fre, r.dis⟩, Same.refl F, fun b h _ _ => h, fun b u h k => ?_, fun j b z => .inl ⟨j, z⟩, fun b h => ?_⟩
  · rw [upd_ne (ne_of_none e hF)]; exact r.sub _ _ e
  · by_cases hj : j = i
    · subst hj
      rw [List.getElem?_set_self hlt] at h
      cases h
      exact ⟨_, hs, hr⟩
    · rw [List.getElem?_set_ne (Ne.symm hj)] at h
      obtain ⟨v, h1, h2⟩ := r.rep j a h
      refine ⟨v, h1, h2.mono ok (Same.refl F) fun b z => ?_⟩
      refine upd_ne (show b ≠ p from fun e => hj ?_)
      exact r.dis j i b z (by rw [e]; exact (hi p).mpr rfl)
  · by_cases hj : j = i
    · subst hj
      exact ⟨a', by rw [List.getElem?_set_self hlt], ha⟩
    · obtain ⟨a, h1, h2⟩ := r.own j b z
      exact ⟨a, by rw [List.getElem?_set_ne (Ne.symm hj)]; exact h1, h2⟩
  · rw [upd_ne (show b ≠ p from fun e => k i (by rw [e]; exact (hi p).mpr rfl))]
    exact h
  · rw [upd_at]
    split
    · exact fun z => nomatch z
    · exact h
end
abbrev RM := V → List V → Hp → VK → Prop
def SoundM (K : PySem.W.Frag) (O : OR) (Rul : RM → Prop) (f : MA) : Prop := ∀ a as z o, f a as = some (z, o) → ∃ (r : RM), Rul r ∧
  match o with
  | none => ∀ F H rho sg fp v S vs (Q : VK), R K O F H rho sg fp → RepA K O F H v a S → RepAs K O F H vs as →
    (∀ F' H' fp' u, Stp F H fp F' H' fp' → R K O F' H' rho sg fp' → RepR K O H F' H' fp' sg u z → Q u H') → r v vs H Q
  | some a' => ∀ F H rho sg fp i v vs (Q : VK), R K O F H rho sg fp → rho[i]? = some (some a) → sg[i]? = some (some v) → RepAs K O F H vs as →
    (∀ F' H' fp' u, Stp F H fp F' H' fp' → R K O F' H' (rho.set i (some a')) sg fp' → RepR K O H F' H' fp' sg u z → Q u H') → r v vs H Q
def rmF : RM := fun _ _ _ _ => False
section
variable {K : PySem.W.Frag} {O : OR} {X : Cx} {W : WX}
theorem MT.ok {F H : Hp} {fp : Fp} {rho : Env} {sg : St} {v : V} {a : A} {S : Addr → Prop} (T : MT) (r : R K O F H rho sg fp) (h : RepA K O F H v a S) (e : T.of a = true) : tyV K T.nm v H := by
  unfold MT.of at e
  split at e
  · cases h.str; exact rfl
  · obtain ⟨⟨p, vs, rfl, h2, _⟩, _⟩ := h; exact .inl ⟨rfl, vs, SqL.of (r.sub _ _ h2)⟩
  · obtain ⟨⟨p, vs, rfl, h2, _⟩, _⟩ := h; exact .inl ⟨rfl, vs, r.sub.seq h2⟩
  · obtain ⟨p, vs, rfl, h2, _⟩ := h; exact .inl ⟨rfl, vs, SqL.of h2⟩
  · obtain ⟨⟨p, vs, rfl, h2, _⟩, _⟩ := h; exact .inr (.inr (.inl ⟨rfl, .inl ⟨vs, r.sub _ _ h2⟩⟩))
  · obtain ⟨p, vs, rfl, h2, _⟩ := h; exact .inr (.inr (.inl ⟨rfl, .inl ⟨vs, h2⟩⟩))
  · cases e
theorem ok_meP (ok : ORok O) (hK : X.K = K) {T : MT} {xo : X1} {xs : XA} {o e : Expr} (Pa : TA → Prop) {f : MA} {Rul : RM → Prop} (hF : Rul rmF) (hr : ∀ r to ta, Rul r → PE X o to → Pa ta → PE X e (tBM X.K T.nm r to ta)) (sf : SoundM K O Rul f)
    (h1 : OkE K O X W xo o) (h2 : ∀ rho, Pa (tEvA K O W rho (xs rho))) : OkE K O X W (xMe T f xo xs) e := fun rho => by
  have k := h1 rho
  unfold xMe
  cases ex : xo rho with
  | no => exact PEno
  | ex y r1 =>
    rw [ex] at k
    refine PEimp (hr _ _ _ hF k (h2 rho)) fun sg H Q q => ?_
    obtain ⟨F, fp, r, q⟩ := q
    exact ⟨F, fp, r, q⟩
  | ok u r1 =>
    rw [ex] at k
    have k2 := h2 r1
    show PE X _ (tEv K O W rho (match u.at r1 with
      | some a0 => if T.of a0 = true then (xs r1).bind fun us r2 => match u.at r2, atAll us r2 with
        | some a, some as => match f a as with
          | some (z, none) => .ok z r2
          | some (z, some a') => putV u z a' r2
          | none => .no
        | _, _ => .no
        else .no
      | none => .no))
    cases e0 : u.at r1 with
    | none => exact PEno
    | some a0 =>
      simp only
      split
      · rename_i hT
        cases eu : xs r1 with
        | no => exact PEno
        | ex y r2 =>
          rw [eu] at k2
          refine PEimp (hr _ _ _ hF k k2) fun sg H Q q => ?_
          obtain ⟨F, fp, r, q⟩ := q
          refine ⟨F, fp, r, fun F1 H1 fp1 v s1 q1 p1 => ?_⟩
          obtain ⟨S, hS, _⟩ := p1.get q1 e0
          refine ⟨by rw [hK]; exact T.ok q1 hS hT, F1, fp1, q1, fun F2 H2 fp2 d s2 q2 p2 => q F2 H2 fp2 d (s1.trans s2) q2 p2⟩
        | ok us r2 =>
          rw [eu] at k2
          show PE X _ (tEv K O W rho (match u.at r2, atAll us r2 with
            | some a, some as => match f a as with
              | some (z, none) => .ok z r2
              | some (z, some a') => putV u z a' r2
              | none => .no
            | _, _ => .no))
          cases e1 : u.at r2 with
          | none => exact PEno
          | some a =>
            cases e2 : atAll us r2 with
            | none => exact PEno
            | some as =>
              simp only
              cases ef : f a as with
              | none => exact PEno
              | some zo =>
                obtain ⟨z, oo⟩ := zo
                obtain ⟨rr, hrr, hs⟩ := sf a as z oo ef
                cases oo with
                | none =>
                  refine PEimp (hr _ _ _ hrr k k2) fun sg H Q q => ?_
                  obtain ⟨F, fp, r, q⟩ := q
                  refine ⟨F, fp, r, fun F1 H1 fp1 v s1 q1 p1 => ?_⟩
                  obtain ⟨S, hS, _⟩ := p1.get q1 e0
                  refine ⟨by rw [hK]; exact T.ok q1 hS hT, F1, fp1, q1, fun F2 H2 fp2 vs s2 q2 p2 => ?_⟩
                  obtain ⟨S2, hS2, _⟩ := (p1.keep ok s2).get q2 e1
                  have st := s1.trans s2
                  exact hs F2 H2 r2 sg fp2 v S2 vs Q q2 hS2 (atAll_ok q2 e2 p2) fun F3 H3 fp3 w s3 q3 p3 => q F3 H3 fp3 w (st.trans s3) q3 (p3.back st.stay)
                | some a' =>
                  cases u with
                  | d x => exact PEno
                  | n b => exact PEno
                  | v i =>
                    have ei : r2[i]? = some (some a) := by
                      unfold Rv.at at e1
                      simp only at e1
                      split at e1
                      · rename_i a2 ea2
                        cases e1
                        exact ea2
                      · cases e1
                    refine PEimp (hr _ _ _ hrr k k2) fun sg H Q q => ?_
                    obtain ⟨F, fp, r, q⟩ := q
                    refine ⟨F, fp, r, fun F1 H1 fp1 v s1 q1 p1 => ?_⟩
                    obtain ⟨S, hS, _⟩ := p1.get q1 e0
                    refine ⟨by rw [hK]; exact T.ok q1 hS hT, F1, fp1, q1, fun F2 H2 fp2 vs s2 q2 p2 => ?_⟩
                    have st := s1.trans s2
                    exact hs F2 H2 r2 sg fp2 i v vs Q q2 ei p1 (atAll_ok q2 e2 p2) fun F3 H3 fp3 w s3 q3 p3 => q F3 H3 fp3 w (st.trans s3) q3 (p3.back st.stay)
      · exact PEno
theorem ok_me (ok : ORok O) (hK : X.K = K) {T : MT} {xo : X1} {xs : XA} {o e : Expr} {es : List Expr} {f : MA} {Rul : RM → Prop} (hF : Rul rmF) (hr : ∀ r to ta, Rul r → PE X o to → PA X es ta → PE X e (tBM X.K T.nm r to ta)) (sf : SoundM K O Rul f)
    (h1 : OkE K O X W xo o) (h2 : OkA K O X W xs es) : OkE K O X W (xMe T f xo xs) e := ok_meP ok hK (PA X es) hF hr sf h1 h2
theorem pe_up {o : Expr} {to : TE} (h : PE X o to) : PE X o (fun sg H Q => ∃ Q' : VK, to sg H Q' ∧ ∀ x H1, Q' x H1 → Q x H1) := ⟨fun pins s sg H Q I q => by
  obtain ⟨Q', q, k⟩ := q
  exact thn (h.run pins s sg H Q' I q) fun v s1 ⟨x, H1, I1, r1, q1⟩ => ⟨x, H1, I1, r1, k _ _ q1⟩⟩
theorem ok_me0 (ok : ORok O) (hK : X.K = K) {T : MT} {xo : X1} {o e : Expr} {f : MA} {Rul : RM → Prop} (hF : Rul rmF) (hr : ∀ r to, Rul r → PE X o to → PE X e (tBM0 X.K T.nm r to)) (sf : SoundM K O Rul f)
    (h1 : OkE K O X W xo o) : OkE K O X W (xMe T f xo xaNil) e := ok_meP ok hK (fun ta => ∃ rho, ta = tEvA K O W rho (.ok [] rho)) hF (fun r to ta hR ho ht => by
      obtain ⟨rho, rfl⟩ := ht
      refine PEimp (hr r _ hR (pe_up ho)) fun sg H Q q => ⟨_, q, fun x H1 z => ⟨z.1, ?_⟩⟩
      obtain ⟨F, fp, r0, k⟩ := z.2
      exact k F H1 fp [] (Stp.refl _ _ _) r0 rfl) sf h1 fun rho => ⟨rho, rfl⟩
/-! ### the methods -/
theorem mtF {id : String} : MtR X id rmF := by
  intros pins s sg H x xs v us Q I rx rs z
  exact (show False from z).elim
/-- a list's change: the slot's list xs becomes ys -/
theorem sm_write (ok : ORok O) {F H : Hp} {fp : Fp} {rho : Env} {sg : St} {i : Nat} {v : V} {w : Bool} {xs ys : List D} {z : Rv} {Q : VK} (r : R K O F H rho sg fp) (hi : rho[i]? = some (some (.l w xs))) (hs : sg[i]? = some (some v))
    (k : ∀ F' H' fp' u, Stp F H fp F' H' fp' → R K O F' H' (rho.set i (some (.l true ys))) sg fp' → RepR K O H F' H' fp' sg u z → Q u H') :
    ∃ p vs, v = .ref p ∧ H p = some (.lst vs) ∧ RpA K F xs vs ∧ ∀ ws u, RpA K F ys ws → (∀ F' H' fp', Stp F H fp F' H' fp' → Same F F' → RepR K O H F' H' fp' sg u z) → Q u (upd H p (.lst ws)) := by
  obtain ⟨v', h1, p, vs, rfl, h2, h3, h4⟩ := r.rep i _ hi
  rw [hs] at h1
  cases h1
  refine ⟨p, vs, rfl, h2, h3, fun ws u hw hz => ?_⟩
  obtain ⟨r2, s2⟩ := r.write (a' := .l true ys) (o' := .lst ws) ok h2 h4 hs rfl ⟨p, ws, rfl, upd_same, hw, h4⟩
  exact k F _ fp u s2 r2 (hz _ _ _ s2 (Same.refl F))
def appA : MA := fun a as => match a, as with
  | .l true xs, [.d x] => if xs.length < 100000 then some (.d .non, some (.l true (xs ++ [x]))) else none
  | _, _ => none
theorem sound_app (ok : ORok O) : SoundM K O (MtR X "list.append") appA := fun a as z oo e => by
  unfold appA at e
  split at e
  · rename_i xs x
    split at e
    · rename_i hz
      cases e
      refine ⟨_, mt_append, fun F H rho sg fp i v vs Q r hi hs hv k => ?_⟩
      obtain ⟨w, rfl, S, h1⟩ := one_of hv
      obtain ⟨p, ws, rfl, h2, h3, go⟩ := sm_write ok r hi hs k
      exact ⟨p, ws, w, rfl, rfl, h2, szl (by rw [h3.length]; exact hz), go _ _ (h3.append (RpA.one h1.1)) fun _ _ _ _ _ => rfl⟩
    · cases e
  · cases e
def extA : MA := fun a as => match a, as with
  | .l true xs, [b] => match b.ls? with
    | some ys => if xs.length + ys.length ≤ 100000 then some (.d .non, some (.l true (xs ++ ys))) else none
    | none => none
  | _, _ => none
theorem sound_ext (ok : ORok O) : SoundM K O (MtR X "list.extend") extA := fun a as z oo e => by
  unfold extA at e
  split at e
  · rename_i xs b
    split at e
    · rename_i ys hy
      split at e
      · rename_i hz
        cases e
        refine ⟨_, mt_extend, fun F H rho sg fp i v vs Q r hi hs hv k => ?_⟩
        obtain ⟨w, rfl, S, h1⟩ := one_of hv
        obtain ⟨p, ws, rfl, h2, h3, go⟩ := sm_write ok r hi hs k
        obtain ⟨q, us, rfl, h5, h6⟩ := A.ls_ok r h1 hy
        exact ⟨p, q, ws, us, rfl, rfl, h2, h5, sz (by rw [h3.length, h6.length]; exact hz), go _ _ (h3.append h6) fun _ _ _ _ _ => rfl⟩
      · cases e
    · cases e
  · cases e
def insA : MA := fun a as => match a, as with
  | .l true xs, [.d (.int i), .d x] => if xs.length < 100000 ∧ 0 ≤ i ∧ i < 100000 then some (.d .non, some (.l true (xs.take i.toNat ++ [x] ++ xs.drop i.toNat))) else none
  | _, _ => none
theorem sound_ins (ok : ORok O) : SoundM K O (MtR X "list.insert") insA := fun a as z oo e => by
  unfold insA at e
  split at e
  · rename_i xs i0 x
    split at e
    · rename_i hz
      cases e
      refine ⟨_, mt_insert, fun F H rho sg fp i v vs Q r hi hs hv k => ?_⟩
      obtain ⟨w1, w2, rfl, ⟨S1, h1⟩, S2, h2'⟩ := two_of hv
      obtain ⟨p, ws, rfl, h2, h3, go⟩ := sm_write ok r hi hs k
      exact ⟨p, ws, i0, w2, rfl, by rw [h1.int], h2, szl (by rw [h3.length]; exact hz.1), hz.2.1, by omega, go _ _ (((h3.take _).append (RpA.one h2'.1)).append (h3.drop _)) fun _ _ _ _ _ => rfl⟩
    · cases e
  · cases e
def popA : MA := fun a as => match a, as with
  | .l true xs, [] => match xs[xs.length - 1]? with
    | some x => some (.d x, some (.l true xs.dropLast))
    | none => none
  | _, _ => none
theorem RpA.dropLast {F : Hp} {xs : List D} {vs : List V} (h : RpA K F xs vs) : RpA K F xs.dropLast vs.dropLast := by
  rw [List.dropLast_eq_take, List.dropLast_eq_take, h.length]
  exact h.take _
theorem sound_pop (ok : ORok O) : SoundM K O (MtR X "list.pop") popA := fun a as z oo e => by
  unfold popA at e
  split at e
  · rename_i xs
    split at e
    · rename_i x hx
      cases e
      refine ⟨_, mt_pop, fun F H rho sg fp i v vs Q r hi hs hv k => ?_⟩
      have ev : vs = [] := by
        match vs, hv with
        | [], _ => rfl
        | v :: vs, hv => obtain ⟨_, _, z, _⟩ := hv; cases z
      subst ev
      obtain ⟨p, ws, rfl, h2, h3, go⟩ := sm_write ok r hi hs k
      obtain ⟨y, hy1, hy2⟩ := h3.get hx
      exact ⟨p, ws, y, rfl, rfl, h2, by rw [h3.length]; exact hy1, go _ _ h3.dropLast fun _ _ _ _ g => Rp.mono g _ _ hy2⟩
    · cases e
  · cases e
def clrA : MA := fun a as => match a, as with
  | .l true xs, [] => some (.d .non, some (.l true []))
  | _, _ => none
theorem sound_clr (ok : ORok O) : SoundM K O (MtR X "list.clear") clrA := fun a as z oo e => by
  unfold clrA at e
  split at e
  · cases e
    refine ⟨_, mt_clear, fun F H rho sg fp i v vs Q r hi hs hv k => ?_⟩
    have ev : vs = [] := by
      match vs, hv with
      | [], _ => rfl
      | v :: vs, hv => obtain ⟨_, _, z, _⟩ := hv; cases z
    subst ev
    obtain ⟨p, ws, rfl, h2, h3, go⟩ := sm_write ok r hi hs k
    exact ⟨p, ws, rfl, rfl, h2, go [] .non rfl fun _ _ _ _ _ => rfl⟩
  · cases e
def revA : MA := fun a as => match a, as with
  | .l true xs, [] => some (.d .non, some (.l true xs.reverse))
  | _, _ => none
theorem RpA.reverse {F : Hp} : ∀ {xs : List D} {vs : List V}, RpA K F xs vs → RpA K F xs.reverse vs.reverse
  | [], vs, h => by cases (show vs = [] from h); rfl
  | d :: ds, vs, h => by
    obtain ⟨v, r, rfl, h1, h2⟩ := h
    rw [List.reverse_cons, List.reverse_cons]
    exact (RpA.reverse h2).append (RpA.one h1)
theorem sound_rev (ok : ORok O) : SoundM K O (MtR X "list.reverse") revA := fun a as z oo e => by
  unfold revA at e
  split at e
  · cases e
    refine ⟨_, mt_reverse, fun F H rho sg fp i v vs Q r hi hs hv k => ?_⟩
    have ev : vs = [] := by
      match vs, hv with
      | [], _ => rfl
      | v :: vs, hv => obtain ⟨_, _, z, _⟩ := hv; cases z
    subst ev
    obtain ⟨p, ws, rfl, h2, h3, go⟩ := sm_write ok r hi hs k
    exact ⟨p, ws, rfl, rfl, h2, go _ .non h3.reverse fun _ _ _ _ _ => rfl⟩
  · cases e
/-! ### texts -/
def strsD : List D → Option (List Str)
  | [] => some []
  | .str b :: ds => match strsD ds with
    | some bs => some (b :: bs)
    | none => none
  | _ :: _ => none
theorem strs_ok {F : Hp} : ∀ {ds : List D} {bs : List Str} {vs : List V}, strsD ds = some bs → RpA K F ds vs → vs = bs.map V.str
  | [], bs, vs, e, h => by cases e; exact h
  | d :: ds, bs, vs, e, h => by
    obtain ⟨v, r, rfl, h1, h2⟩ := h
    cases d with
    | str b =>
      unfold strsD at e
      cases e1 : strsD ds with
      | none => rw [e1] at e; cases e
      | some bs' =>
        rw [e1] at e
        cases e
        rw [strs_ok e1 h2, show v = .str b from h1]
        rfl
    | _ => cases e
def joinA : MA := fun a as => match a, as with
  | .d (.str z), [b] => match b.sq? with
    | some (_, ds) => match strsD ds with
      | some ys => if (ys.map (·.length)).sum + ys.length * z.length ≤ 16777216 then some (.d (.str (Txt.join z ys)), none) else none
      | none => none
    | none => none
  | _, _ => none
theorem sound_join (hK : X.K = K) : SoundM K O (MtR X "str.join") joinA := fun a as z oo e => by
  unfold joinA at e
  split at e
  · rename_i z0 b
    split at e
    · rename_i b0 ds hq
      split at e
      · rename_i ys hy
        split at e
        · rename_i hz
          cases e
          refine ⟨_, mt_join, fun F H rho sg fp v S vs Q r h hv k => ?_⟩
          obtain ⟨w, rfl, S1, h1⟩ := one_of hv
          obtain ⟨p, us, rfl, h2, h3⟩ := A.sq_ok r h1 hq
          rw [strs_ok hy h3] at h2
          refine ⟨z0, p, ys, h.str, rfl, ?_, hz, k F H fp _ (Stp.refl _ _ _) r rfl⟩
          rw [hK]
          cases b0 with
          | true => exact .inl h2
          | false => exact .inr h2
        · cases e
      · cases e
    · cases e
  · cases e
def splitA : MA := fun a as => match a, as with
  | .d (.str x), [.d (.str y)] => if y.length ≠ 0 ∧ x.length + 2 ≤ 100000 then some (.n (.l true ((Txt.split x y).map .str)), none) else none
  | _, _ => none
theorem rpa_strs {F : Hp} : ∀ ys : List Str, RpA K F (ys.map D.str) (ys.map V.str)
  | [] => rfl
  | y :: ys => ⟨_, _, rfl, rfl, rpa_strs ys⟩
theorem sound_split (ok : ORok O) : SoundM K O (MtR X "str.split") splitA := fun a as z oo e => by
  unfold splitA at e
  split at e
  · rename_i x y
    split at e
    · rename_i hz
      cases e
      refine ⟨_, mt_split, fun F H rho sg fp v S vs Q r h hv k => ?_⟩
      obtain ⟨w, rfl, S1, h1⟩ := one_of hv
      refine ⟨x, y, h.str, by rw [h1.str], by simpa using hz.1, sz hz.2, fun p hp => ?_⟩
      exact new_list ok r hp (rpa_strs _) k
    · cases e
  · cases e
def cntA : MA := fun a as => match a, as with
  | .d (.str x), [.d (.str y)] => some (.d (.int (Txt.count x y)), none)
  | _, _ => none
theorem sound_cnt : SoundM K O (MtR X "str.count") cntA := fun a as z oo e => by
  unfold cntA at e
  split at e
  · rename_i x y
    cases e
    refine ⟨_, mt_count, fun F H rho sg fp v S vs Q r h hv k => ?_⟩
    obtain ⟨w, rfl, S1, h1⟩ := one_of hv
    exact ⟨x, y, h.str, by rw [h1.str], k F H fp _ (Stp.refl _ _ _) r rfl⟩
  · cases e
end
end Sn
namespace Sn
open PySem L2
section
variable {K : PySem.W.Frag} {O : OR} {X : Cx} {W : WX}
/-! ### d.setdefault(k, x) -/
theorem mt_setdefault : MtR X "dict.setdefault" rSetd := by
  intro pins s σ H x xs v us Q I rx rv h
  obtain ⟨a, kvs, k, v0, rfl, rfl, ea, hl, w1, w2⟩ := h
  cases (show v = Value.ref a from rx)
  cases rv with
  | cons ry rv =>
    cases rv with
    | cons rd rv =>
      cases rv
      obtain ⟨z, hd, vs0, rel, dd⟩ := dk_of I.hok ea
      have hz : vs0.length ≤ sizeLine := by rw [← rel.length]; exact z
      refine call_meetsIn PySem.F.slot_dict_setdefault dd.typeIs PySem.F.entry_dict_setdefault (PySem.F.args_dict_setdefault_3 _ _ _) (PySem.kt_meets_setdefault (mixKind X.prog X.w) _ (kV_is ry) hd _) ⟨vs0, dd, hz, fun u hu => ?_, fun hn h' dd' hs => ?_⟩
      · have rr := rel.val k
        rw [hu] at rr
        cases hv : valV kvs k with
        | none => rw [hv] at rr; exact False.elim rr
        | some x =>
          rw [hv] at rr
          exact (⟨x, H, I.tok _, rr, w1 x hv⟩ : EP X pins σ Q u _)
      · have rr := rel.val k
        rw [hn] at rr
        cases hv : valV kvs k with
        | some x => rw [hv] at rr; exact False.elim rr
        | none =>
          have hl2 : (putK kvs k v0).length ≤ sizeLine := by have := length_putK kvs k v0; omega
          exact (⟨v0, _, d_write (t' := s.toks + 1) I (by rw [ea]; exact True.intro) hs (let ⟨q, _, _, hq, _⟩ := dd'; ⟨q, hq⟩) (dk_new hl2 hd (rel.put k rd) dd'), rd, w2 hv⟩ : EP X pins σ Q _ _)
theorem RpK.length {F : Hp} : ∀ {kvs : List (Key × D)} {kws : List (Key × V)}, RpK K F kvs kws → kws.length = kvs.length
  | [], kws, h => by cases (show kws = [] from h); rfl
  | (j, d) :: r, kws, h => by
    obtain ⟨w, s, rfl, _, h3⟩ := h
    rw [List.length_cons, List.length_cons, RpK.length h3]
theorem RpK.valV_some {F : Hp} : ∀ {kvs : List (Key × D)} {kws : List (Key × V)} {k : Key} {d : D}, RpK K F kvs kws → valD kvs k = some d → ∃ v, valV kws k = some v ∧ Rp K F d v
  | [], kws, k, d, h, e => by cases e
  | (j, x) :: r, kws, k, d, h, e => by
    obtain ⟨w, s, rfl, h2, h3⟩ := h
    unfold valD at e
    rw [List.find?_cons] at e
    by_cases hj : j = k
    · rw [show decide ((j, x).1 = k) = true from decide_eq_true hj] at e
      cases e
      exact ⟨w, valV_pos hj, h2⟩
    · rw [show decide ((j, x).1 = k) = false from decide_eq_false hj] at e
      obtain ⟨v, e1, e2⟩ := RpK.valV_some (k := k) h3 (show valD r k = some d from e)
      exact ⟨v, by rw [valV_neg hj]; exact e1, e2⟩
theorem RpK.valV_none {F : Hp} : ∀ {kvs : List (Key × D)} {kws : List (Key × V)} {k : Key}, RpK K F kvs kws → valD kvs k = none → valV kws k = none
  | [], kws, k, h, e => by cases (show kws = [] from h); rfl
  | (j, x) :: r, kws, k, h, e => by
    obtain ⟨w, s, rfl, h2, h3⟩ := h
    unfold valD at e
    rw [List.find?_cons] at e
    by_cases hj : j = k
    · rw [show decide ((j, x).1 = k) = true from decide_eq_true hj] at e
      cases e
    · rw [show decide ((j, x).1 = k) = false from decide_eq_false hj] at e
      rw [valV_neg hj]
      exact RpK.valV_none h3 e
/-- a dict's change -/
theorem sm_writeM (ok : ORok O) {F H : Hp} {fp : Fp} {rho : Env} {sg : St} {i : Nat} {v : V} {kvs kvs' : List (Key × D)} {z : Rv} {Q : VK} (r : R K O F H rho sg fp) (hi : rho[i]? = some (some (.m kvs))) (hs : sg[i]? = some (some v))
    (k : ∀ F' H' fp' u, Stp F H fp F' H' fp' → R K O F' H' (rho.set i (some (.m kvs'))) sg fp' → RepR K O H F' H' fp' sg u z → Q u H') :
    ∃ p kws, v = .ref p ∧ H p = some (.dK kws) ∧ RpK K F kvs kws ∧ ∀ kws' u, RpK K F kvs' kws' → (∀ F' H' fp', Stp F H fp F' H' fp' → Same F F' → RepR K O H F' H' fp' sg u z) → Q u (upd H p (.dK kws')) := by
  obtain ⟨v', h1, p, vs, rfl, h2, h3, h4⟩ := r.rep i _ hi
  rw [hs] at h1
  cases h1
  refine ⟨p, vs, rfl, h2, h3, fun ws u hw hz => ?_⟩
  obtain ⟨r2, s2⟩ := r.write (a' := .m kvs') (o' := .dK ws) ok h2 h4 hs rfl ⟨p, ws, rfl, upd_same, hw, h4⟩
  exact k F _ fp u s2 r2 (hz _ _ _ s2 (Same.refl F))
def sdfA : MA := fun a as => match a, as with
  | .m kvs, [.d x, .d y] => match x.key with
    | some k => if kvs.length < 100000 then match valD kvs k with
        | some z => some (.d z, some (.m kvs))
        | none => some (.d y, some (.m (putKD kvs k y)))
      else none
    | none => none
  | _, _ => none
theorem sound_sdf (ok : ORok O) : SoundM K O (MtR X "dict.setdefault") sdfA := fun a as z oo e => by
  unfold sdfA at e
  split at e
  · rename_i kvs x y
    split at e
    · rename_i k hk
      split at e
      · rename_i hz
        split at e
        · rename_i z' hv
          cases e
          refine ⟨_, mt_setdefault, fun F H rho sg fp i v vs Q r hi hs hvs kq => ?_⟩
          obtain ⟨w1, w2, rfl, ⟨S1, h1⟩, S2, h2⟩ := two_of hvs
          obtain ⟨v', h3, p, kws, rfl, h4, h5, h6⟩ := r.rep i _ hi
          rw [hs] at h3
          cases h3
          obtain ⟨u, hu1, hu2⟩ := h5.valV_some hv
          refine ⟨p, kws, k, w2, rfl, by rw [key_ok h1.1 hk], h4, szl (by rw [h5.length]; exact hz), fun u' e' => ?_, fun e' => by rw [hu1] at e'; cases e'⟩
          rw [hu1] at e'
          cases e'
          have es : rho.set i (some (.m kvs)) = rho := by
            have hlt := (List.getElem?_eq_some_iff.mp hi)
            rw [← hlt.2]
            exact List.set_getElem_self hlt.1
          rw [es] at kq
          exact kq F H fp _ (Stp.refl _ _ _) r hu2
        · rename_i hv
          cases e
          refine ⟨_, mt_setdefault, fun F H rho sg fp i v vs Q r hi hs hvs kq => ?_⟩
          obtain ⟨w1, w2, rfl, ⟨S1, h1⟩, S2, h2⟩ := two_of hvs
          obtain ⟨p, kws, rfl, h4, h5, go⟩ := sm_writeM ok r hi hs kq
          refine ⟨p, kws, k, w2, rfl, by rw [key_ok h1.1 hk], h4, szl (by rw [h5.length]; exact hz), fun u' e' => (by rw [h5.valV_none hv] at e'; cases e'), fun e' => ?_⟩
          exact go _ _ (h5.put h2.1) fun _ _ _ _ g => Rp.mono g _ _ h2.1
      · cases e
    · cases e
  · cases e
/-! ### d.setdefault(k, []).append(x) -/
/-- what a slot owns is made anew, in part -/
theorem R.remake (ok : ORok O) {F H H' : Hp} {fp : Fp} {rho : Env} {sg : St} (r : R K O F H rho sg fp) {i : Nat} {a' : A} {v : V} {S' : Addr → Prop} (hs : sg[i]? = some (some v)) (ha : a'.own = true) (hr : RepA K O F H' v a' S')
    (hout : ∀ b, ¬ fp i b → H b ≠ none → H' b = H b) (hS : ∀ b, S' b → fp i b ∨ H b = none) (hst : ∀ b, H b ≠ none → H' b ≠ none) :
    R K O F H' (rho.set i (some a')) sg (fun j b => if j = i then S' b else fp j b) ∧ Stp F H fp F H' (fun j b => if j = i then S' b else fp j b) := by
  have hlt : i < rho.length := by
    rw [r.len]
    exact (List.getElem?_eq_some_iff.mp hs).1
  have tot : ∀ j b, fp j b → H b ≠ none := fun j b z => by
    obtain ⟨a, h1, _⟩ := r.own j b z
    obtain ⟨w, _, h2⟩ := r.rep j a h1
    exact h2.there ok z
  have keep : ∀ j, j ≠ i → ∀ b, fp j b → H' b = H b := fun j hj b z => hout b (fun e => hj (r.dis j i b z e)) (tot j b z)
  have fr : ∀ b, S' b → F b = none := fun b z => by
    rcases hS b z with e | e
    · exact r.fre i b e
    · exact r.sub.free e
  have sepi : ∀ j, j ≠ i → ∀ b, fp j b → ¬ S' b := fun j hj b z e => by
    rcases hS b e with e | e
    · exact hj (r.dis j i b z e)
    · exact tot j b z e
  refine ⟨⟨fun b u e => ?_, by rw [List.length_set]; exact r.len, fun j a h => ?_, fun j b z => ?_, fun j b z => ?_, fun j k b z z' => ?_⟩, Same.refl F, fun b h _ _ => h, fun b u h k => ?_, fun j b z => ?_, hst⟩
  · have hb := r.sub _ _ e
    rw [hout b (fun z => by rw [r.fre i b z] at e; cases e) (by rw [hb]; exact fun z => nomatch z)]
    exact hb
  · by_cases hj : j = i
    · subst hj
      rw [List.getElem?_set_self hlt] at h
      cases h
      refine ⟨v, hs, ?_⟩
      have e : (fun b => if j = j then S' b else fp j b) = S' := by funext b; rw [if_pos rfl]
      show RepA K O F H' v a' (fun b => if j = j then S' b else fp j b)
      rw [e]
      exact hr
    · rw [List.getElem?_set_ne (Ne.symm hj)] at h
      obtain ⟨w, h1, h2⟩ := r.rep j a h
      refine ⟨w, h1, ?_⟩
      have e : (fun b => if j = i then S' b else fp j b) = fp j := by funext b; rw [if_neg hj]
      show RepA K O F H' w a (fun b => if j = i then S' b else fp j b)
      rw [e]
      exact h2.mono ok (Same.refl F) fun b z => keep j hj b z
  · by_cases hj : j = i
    · subst hj
      exact ⟨a', by rw [List.getElem?_set_self hlt], ha⟩
    · have z : fp j b := by simpa only [if_neg hj] using z
      obtain ⟨a, h1, h2⟩ := r.own j b z
      exact ⟨a, by rw [List.getElem?_set_ne (Ne.symm hj)]; exact h1, h2⟩
  · by_cases hj : j = i
    · subst hj
      exact fr b (by simpa using z)
    · exact r.fre j b (by simpa only [if_neg hj] using z)
  · by_cases hj : j = i
    · by_cases hk : k = i
      · rw [hj, hk]
      · have z : S' b := by simpa only [if_pos hj] using z
        exact (sepi k hk b (by simpa only [if_neg hk] using z') z).elim
    · by_cases hk : k = i
      · have z' : S' b := by simpa only [if_pos hk] using z'
        exact (sepi j hj b (by simpa only [if_neg hj] using z) z').elim
      · exact r.dis j k b (by simpa only [if_neg hj] using z) (by simpa only [if_neg hk] using z')
  · rw [hout b (k i) (by rw [h]; exact fun z => nomatch z)]
    exact h
  · by_cases hj : j = i
    · have z : S' b := by simpa only [if_pos hj] using z
      rcases hS b z with e | e
      · exact .inl ⟨i, e⟩
      · exact .inr e
    · exact .inl ⟨j, by simpa only [if_neg hj] using z⟩
def addG (k : Key) (x : D) : List (Key × D) → Option (List (Key × D))
  | [] => some [(k, .lst [x])]
  | (j, d) :: r => if j = k then match d with
      | .lst ds => if ds.length < 100000 then some ((j, .lst (ds ++ [x])) :: r) else none
      | _ => none
    else match addG k x r with
      | some r' => some ((j, d) :: r')
      | none => none
theorem GrR.add {F H : Hp} {k : Key} {x : D} {vy : V} (hx : Rp K F x vy) : ∀ {kvs kvs' : List (Key × D)} {kws : List (Key × V)} {S : Addr → Prop}, GrR K F H kvs kws S → addG k x kvs = some kvs' →
    (∃ q vs, valV kws k = some (.ref q) ∧ S q ∧ H q = some (.lst vs) ∧ vs.length < sizeLine ∧ ∀ H' : Hp, H' q = some (.lst (vs ++ [vy])) → (∀ b, S b → b ≠ q → H' b = H b) → GrR K F H' kvs' kws S)
    ∨ (valV kws k = none ∧ ∀ p (H' : Hp), ¬ S p → H' p = some (.lst [vy]) → (∀ b, S b → H' b = H b) → GrR K F H' kvs' (kws ++ [(k, .ref p)]) (fun b => S b ∨ b = p))
  | [], kvs', kws, S, h, e => by
    cases e
    obtain ⟨rfl, hn⟩ := h
    exact .inr ⟨rfl, fun p H' _ hp _ => ⟨[x], p, [vy], [], fun _ => False, rfl, rfl, hp, ⟨vy, [], rfl, hx, rfl⟩, ⟨rfl, fun _ z => z⟩, fun z => z, fun b => ⟨fun z => z.elim (fun z => (hn b z).elim) .inl, fun z => z.elim .inr False.elim⟩⟩⟩
  | (j, d) :: r, kvs', kws, S, h, e => by
    obtain ⟨ds, q, vs, kws', S', rfl, rfl, h3, h4, h5, h6, h7⟩ := h
    unfold addG at e
    split at e
    · rename_i hj
      subst hj
      simp only at e
      split at e
      · rename_i hz
        cases e
        refine .inl ⟨q, vs, valV_pos rfl, (h7 q).mpr (.inl rfl), h3, szl (by rw [h4.length]; exact hz), fun H' hq hk => ?_⟩
        exact ⟨ds ++ [x], q, vs ++ [vy], kws', S', rfl, rfl, hq, h4.append (RpA.one hx), h5.mono (Same.refl F) fun b hb => hk b ((h7 b).mpr (.inr hb)) (fun z => h6 (by rw [← z]; exact hb)), h6, h7⟩
      · cases e
    · rename_i hj
      split at e
      · rename_i r' er
        cases e
        rcases GrR.add hx h5 er with ⟨q2, vs2, k1, k2, k3, k4, k5⟩ | ⟨k1, k2⟩
        · refine .inl ⟨q2, vs2, by rw [valV_neg hj]; exact k1, (h7 q2).mpr (.inr k2), k3, k4, fun H' hq hk => ?_⟩
          have hne : q ≠ q2 := fun z => h6 (by rw [z]; exact k2)
          exact ⟨ds, q, vs, kws', S', rfl, rfl, by rw [hk q ((h7 q).mpr (.inl rfl)) hne]; exact h3, h4, k5 H' hq fun b hb hn => hk b ((h7 b).mpr (.inr hb)) hn, h6, h7⟩
        · refine .inr ⟨by rw [valV_neg hj]; exact k1, fun p H' hp hq hk => ?_⟩
          have hpq : q ≠ p := fun z => hp ((h7 p).mpr (.inl z.symm))
          refine ⟨ds, q, vs, kws' ++ [(k, .ref p)], fun b => S' b ∨ b = p, rfl, rfl, by rw [hk q ((h7 q).mpr (.inl rfl))]; exact h3, h4, k2 p H' (fun z => hp ((h7 p).mpr (.inr z))) hq fun b hb => hk b ((h7 b).mpr (.inr hb)), fun z => z.elim h6 hpq, fun b => ?_⟩
          constructor
          · rintro (z | z)
            · rcases (h7 b).mp z with z | z
              · exact .inl z
              · exact .inr (.inl z)
            · exact .inr (.inr z)
          · rintro (z | z | z)
            · exact .inl ((h7 b).mpr (.inl z))
            · exact .inl ((h7 b).mpr (.inr z))
            · exact .inr z
      · cases e
theorem GrR.length {F H : Hp} : ∀ {kvs : List (Key × D)} {kws : List (Key × V)} {S : Addr → Prop}, GrR K F H kvs kws S → kws.length = kvs.length
  | [], kws, S, h => by rw [h.1]; rfl
  | (j, d) :: r, kws, S, h => by
    obtain ⟨ds, q, vs, kws', S', rfl, rfl, h3, h4, h5, h6, h7⟩ := h
    rw [List.length_cons, List.length_cons, GrR.length h5]
def gOf : A → Option (List (Key × D))
  | .m [] => some []
  | .ob 0 (.dic kvs) => some kvs
  | _ => none
theorem gOf_ok (ok : ORok O) {F H : Hp} {v : V} {a : A} {S : Addr → Prop} {kvs : List (Key × D)} (h : RepA K O F H v a S) (e : gOf a = some kvs) : OG K (.dic kvs) v F H S := by
  unfold gOf at e
  split at e
  · cases e
    obtain ⟨p, kws, h1, h2, h3, h4⟩ := h
    cases (show kws = [] from h3)
    exact ⟨[], p, [], fun _ => False, rfl, h1, h2, ⟨rfl, fun _ z => z⟩, fun z => z, fun b => ⟨fun z => .inl ((h4 b).mp z), fun z => z.elim (fun z => (h4 b).mpr z) False.elim⟩⟩
  · cases e
    exact (ok.og _ _ _ _ _ _).mp h
  · cases e
def xSdA (i j l : Nat) : X1 := fun r => match r[i]?, r[j]?, r[l]? with
  | some (some a), some (some (.d k)), some (some (.d x)) => match gOf a, k.key with
    | some kvs, some key => if kvs.length < 100000 then match addG key x kvs with
        | some kvs' => .ok (.d .non) (r.set i (some (.ob 0 (.dic kvs'))))
        | none => .no
      else .no
    | _, _ => .no
  | _, _, _ => .no
theorem ok_sda (ok : ORok O) (hK : X.K = K) {i j l : Nat} {e : Expr} (hr : PE X e (tBM X.K "list" rAppend (tBM X.K "dict" rSetd (tVar i) (tCons (tVar j) (tCons (tLst tNil) tNil))) (tCons (tVar l) tNil))) : OkE K O X W (xSdA i j l) e := fun rho => by
  unfold xSdA
  split
  · rename_i a k x ei ej el
    split
    · rename_i kvs key eg ek
      split
      · rename_i hz
        split
        · rename_i kvs' ea
          refine PEimp hr fun sg H Q q => ?_
          obtain ⟨F, fp, r, q⟩ := q
          obtain ⟨v0, i1, i2⟩ := r.rep i _ ei
          obtain ⟨vk, j1, j2⟩ := r.rep j _ ej
          obtain ⟨vx, l1, l2⟩ := r.rep l _ el
          obtain ⟨kvs0, p, kws, S', e0, rfl, h3, h4, h5, h6⟩ := gOf_ok ok i2 eg
          cases e0
          have ekv := key_ok j2.1 ek
          subst ekv
          refine ⟨.ref p, i1, ?_, kV key, j1, Nat.zero_le _, fun n hn => ?_⟩
          · rw [hK]
            exact .inr (.inr (.inl ⟨rfl, .inl ⟨kws, h3⟩⟩))
          have hpn : p ≠ n := fun z => by rw [z, hn] at h3; cases h3
          have hSn : ∀ b, S' b → b ≠ n := fun b hb z => h4.there hb (by rw [z]; exact hn)
          have hSp : ∀ b, S' b → b ≠ p := fun b hb z => h5 (by rw [← z]; exact hb)
          refine ⟨p, kws, key, .ref n, rfl, rfl, by rw [upd_ne hpn]; exact h3, szl (by rw [h4.length]; exact hz), fun u hu => ?_, fun hu => ?_⟩
          · rcases GrR.add l2.1 h4 ea with ⟨q2, vs, k1, k2, k3, k4, k5⟩ | ⟨k1, _⟩
            · rw [k1] at hu
              cases hu
              have hq : upd H n (.lst []) q2 = some (.lst vs) := by rw [upd_ne (hSn q2 k2)]; exact k3
              refine ⟨?_, vx, l1, q2, vs, vx, rfl, rfl, hq, k4, ?_⟩
              · rw [hK]
                exact .inl ⟨rfl, vs, SqL.of hq⟩
              obtain ⟨r2, s2⟩ := r.remake (i := i) (a' := .ob 0 (.dic kvs')) (v := .ref p) (S' := fp i) (H' := upd (upd H n (.lst [])) q2 (.lst (vs ++ [vx]))) ok i1 rfl
                ((ok.og _ _ _ _ _ _).mpr ⟨kvs', p, kws, S', rfl, rfl, by rw [upd_ne (Ne.symm (hSp q2 k2)), upd_ne hpn]; exact h3, k5 _ upd_same (fun b hb hne => by rw [upd_ne hne, upd_ne (hSn b hb)]), h5, h6⟩)
                (fun b hb hne => by rw [upd_ne (show b ≠ q2 from fun z => hb (by rw [z]; exact (h6 q2).mpr (.inr k2))), upd_ne (show b ≠ n from fun z => hne (by rw [z]; exact hn))])
                (fun b hb => .inl hb) (fun b hb => by
                  rw [upd_at]
                  split
                  · exact fun z => nomatch z
                  · rw [upd_at]
                    split
                    · exact fun z => nomatch z
                    · exact hb)
              exact q F _ _ _ s2 r2 rfl
            · rw [k1] at hu; cases hu
          · rcases GrR.add l2.1 h4 ea with ⟨q2, vs, k1, _⟩ | ⟨_, k2⟩
            · rw [k1] at hu; cases hu
            · have ep : putK kws key (.ref n) = kws ++ [(key, .ref n)] := by
                unfold putK
                rw [valV_any, hu]
                rfl
              rw [ep]
              have hq : upd (upd H n (.lst [])) p (.dK (kws ++ [(key, .ref n)])) n = some (.lst []) := by rw [upd_ne (Ne.symm hpn), upd_same]
              refine ⟨?_, vx, l1, n, [], vx, rfl, rfl, hq, by decide, ?_⟩
              · rw [hK]
                exact .inl ⟨rfl, [], SqL.of hq⟩
              obtain ⟨r2, s2⟩ := r.remake (i := i) (a' := .ob 0 (.dic kvs')) (v := .ref p) (S' := fun b => fp i b ∨ b = n) (H' := upd (upd (upd H n (.lst [])) p (.dK (kws ++ [(key, .ref n)]))) n (.lst ([] ++ [vx]))) ok i1 rfl
                ((ok.og _ _ _ _ _ _).mpr ⟨kvs', p, kws ++ [(key, .ref n)], fun b => S' b ∨ b = n, rfl, rfl, by rw [upd_ne hpn, upd_same], k2 n _ (fun z => hSn n z rfl) upd_same (fun b hb => by rw [upd_ne (hSn b hb), upd_ne (hSp b hb), upd_ne (hSn b hb)]), fun z => z.elim h5 hpn, fun b => by
                  constructor
                  · rintro (z | z)
                    · rcases (h6 b).mp z with z | z
                      · exact .inl z
                      · exact .inr (.inl z)
                    · exact .inr (.inr z)
                  · rintro (z | z | z)
                    · exact .inl ((h6 b).mpr (.inl z))
                    · exact .inl ((h6 b).mpr (.inr z))
                    · exact .inr z⟩)
                (fun b hb hne => by
                  have hbn : b ≠ n := fun z => hne (by rw [z]; exact hn)
                  rw [upd_ne hbn, upd_ne (show b ≠ p from fun z => hb (by rw [z]; exact (h6 p).mpr (.inl rfl))), upd_ne hbn])
                (fun b hb => hb.elim .inl fun z => .inr (by rw [z]; exact hn)) (fun b hb => by
                  rw [upd_at]
                  split
                  · exact fun z => nomatch z
                  · rw [upd_at]
                    split
                    · exact fun z => nomatch z
                    · rw [upd_at]
                      split
                      · exact fun z => nomatch z
                      · exact hb)
              exact q F _ _ _ s2 r2 rfl
        · exact PEno
      · exact PEno
    · exact PEno
  · exact PEno
end
end Sn
namespace Sn
open PySem L2
/-! ### what is walked -/
abbrev XI := Env → Rs (List D)
structure Wk (K : PySem.W.Frag) (J : It) (F : Hp) (ds : List D) : Prop where
  go : ∀ i H, Same F H → i < ds.length → J.go i H
  stop : ∀ i H, Same F H → ds.length ≤ i → J.stop i H
  yld : ∀ i H x H', Same F H → J.yld i H x H' → ∀ d, ds[i]? = some d → (H' = H ∧ Rp K F d x) ∨ ∃ T vs es, H T = none ∧ H' = upd H T (.tup vs) ∧ x = .ref T ∧ d = .tup es ∧ RpA K F es vs
theorem Wk.mono {K : PySem.W.Frag} {J : It} {F F' : Hp} {ds : List D} (h : Wk K J F ds) (e : Same F F') : Wk K J F' ds where
  go := fun i H k hi => h.go i H (e.trans k) hi
  stop := fun i H k hi => h.stop i H (e.trans k) hi
  yld := fun i H x H' k y d hd => by
    rcases h.yld i H x H' (e.trans k) y d hd with ⟨h1, h2⟩ | ⟨T, vs, es, h1, h2, h3, h4, h5⟩
    · exact .inl ⟨h1, Rp.mono e _ _ h2⟩
    · exact .inr ⟨T, vs, es, h1, h2, h3, h4, RpA.mono e _ _ h5⟩
def tEvI (K : PySem.W.Frag) (O : OR) (W : WX) (rho : Env) (m : Rs (List D)) : TI := fun sg H Q => ∃ F fp, R K O F H rho sg fp ∧ match m with
  | .ok ds rho' => ∀ F' H' fp' J, Stp F H fp F' H' fp' → R K O F' H' rho' sg fp' → Wk K J F' ds → Q J H'
  | .ex x rho' => ∀ F' H' fp' d, Stp F H fp F' H' fp' → R K O F' H' rho' sg fp' → RpX K F' H' d x.fs → W x.cls d sg H'
  | .no => False
def OkI (K : PySem.W.Frag) (O : OR) (X : Cx) (W : WX) (x : XI) (tg e : Expr) : Prop := ∀ rho, PI X tg e (tEvI K O W rho (x rho))
section
variable {K : PySem.W.Frag} {O : OR} {X : Cx} {W : WX} {tg : Expr}
theorem PIimp {e : Expr} {t t' : TI} (h : PI X tg e t) (i : ∀ sg H Q, t' sg H Q → t sg H Q) : PI X tg e t' := ⟨fun pins s sg H Q I q => h.run pins s sg H Q I (i _ _ _ q)⟩
theorem PIno {e : Expr} {rho : Env} : PI X tg e (tEvI K O W rho .no) := ⟨fun pins s sg H Q I q => by
  obtain ⟨F, fp, _, z⟩ := q
  exact z.elim⟩
theorem SqL.inj {F H : Hp} {a : Addr} {xs ys : List V} (h : H a = some (.lst xs)) (h' : SqL K H a ys) (hk : ∀ o, K.lookup a = some o → H a = none) : ys = xs := by
  rcases h' with (h' | ⟨o, h'⟩) | ⟨o, its, n, hl, _⟩
  · rw [h] at h'; cases h'; rfl
  · rw [h] at h'; cases h'
  · rw [hk o hl] at h; cases h
/-- a list, a tuple that is data; a text -/
def itA (a : A) : Option (List D) := match a with
  | .d (.str z) => some (z.cps.toList.map fun c => .str ⟨#[c]⟩)
  | .d (.lst xs) => some xs
  | .d (.rl xs) => some xs
  | .d (.tup xs) => some xs
  | .d (.rt xs) => some xs
  | _ => none
def xIt (x : X1) : XI := fun r => (x r).bind fun u r1 => match u.at r1 with
  | some a => match itA a with
    | some ds => .ok ds r1
    | none => .no
  | none => .no
theorem itl_wk {F : Hp} {a : Addr} {xs : List D} {vs : List V} (h : SqL K F a vs) (hx : RpA K F xs vs) : Wk K (Itl K a) F xs where
  go := fun i H k hi => by
    have hi' : i < vs.length := by rw [hx.length]; exact hi
    exact ⟨vs, vs[i], k.seq h, by simp [hi']⟩
  stop := fun i H k hi => ⟨vs, k.seq h, by rw [hx.length]; exact hi⟩
  yld := fun i H x H' k y d hd => by
    obtain ⟨rfl, y⟩ := y
    obtain ⟨w, h1, h2⟩ := hx.get hd
    rw [y vs (k.seq h)] at h1
    cases h1
    exact .inl ⟨rfl, h2⟩
theorem itt_wk {F : Hp} {a : Addr} {xs : List D} {vs : List V} (h : SqT K F a vs) (hx : RpA K F xs vs) : Wk K (Itt K a) F xs where
  go := fun i H k hi => by
    have hi' : i < vs.length := by rw [hx.length]; exact hi
    exact ⟨vs, vs[i], sqT_mono k h, by simp [hi']⟩
  stop := fun i H k hi => ⟨vs, sqT_mono k h, by rw [hx.length]; exact hi⟩
  yld := fun i H x H' k y d hd => by
    obtain ⟨rfl, y⟩ := y
    obtain ⟨w, h1, h2⟩ := hx.get hd
    rw [y vs (sqT_mono k h)] at h1
    cases h1
    exact .inl ⟨rfl, h2⟩
theorem its_wk {F : Hp} (z : Str) : Wk K (Its z) F (z.cps.toList.map fun c => .str ⟨#[c]⟩) where
  go := fun i H k hi => by
    show i < z.cps.size
    simpa using hi
  stop := fun i H k hi => by
    show z.cps.size ≤ i
    simpa using hi
  yld := fun i H x H' k y d hd => by
    obtain ⟨rfl, c, h1, rfl⟩ := y
    rw [List.getElem?_map] at hd
    have h2 : z.cps.toList[i]? = some c := by simpa using h1
    rw [h2] at hd
    cases hd
    exact .inl ⟨rfl, rfl⟩
theorem itr_wk {F : Hp} (lo : Int) (n : Nat) : Wk K (Itr lo n) F ((List.range n).map fun (i : Nat) => .int (lo + i)) where
  go := fun i H k hi => by
    show i < n
    simpa using hi
  stop := fun i H k hi => by
    show n ≤ i
    simpa using hi
  yld := fun i H x H' k y d hd => by
    obtain ⟨rfl, rfl⟩ := y
    rw [List.getElem?_map] at hd
    by_cases hi : i < n
    · rw [List.getElem?_range hi] at hd
      cases hd
      exact .inl ⟨rfl, rfl⟩
    · rw [List.getElem?_eq_none (by simpa using hi)] at hd
      cases hd
theorem okI_seq (ok : ORok O) (hK : X.K = K) {x : X1} {e : Expr} (h : OkE K O X W x e) : OkI K O X W (xIt x) tg e := fun rho => by
  have k := h rho
  unfold xIt
  cases ex : x rho with
  | no => exact PIno
  | ex y r1 =>
    rw [ex] at k
    refine PIimp (pi_list k) fun sg H Q q => ?_
    obtain ⟨F, fp, r, q⟩ := q
    exact ⟨F, fp, r, q⟩
  | ok u r1 =>
    rw [ex] at k
    show PI X tg e (tEvI K O W rho (match u.at r1 with
      | some a => match itA a with
        | some ds => .ok ds r1
        | none => .no
      | none => .no))
    cases ea : u.at r1 with
    | none => exact PIno
    | some a =>
      show PI X tg e (tEvI K O W rho (match itA a with
        | some ds => .ok ds r1
        | none => .no))
      cases ed : itA a with
      | none => exact PIno
      | some ds =>
        unfold itA at ed
        split at ed
        · rename_i z
          cases ed
          refine PIimp (pi_str k) fun sg H Q q => ?_
          obtain ⟨F, fp, r, q⟩ := q
          refine ⟨F, fp, r, fun F1 H1 fp1 v s1 q1 p1 => ?_⟩
          obtain ⟨S, hS, _⟩ := p1.get q1 ea
          exact ⟨z, hS.str, q F1 H1 fp1 _ s1 q1 (its_wk z)⟩
        · cases ed
          refine PIimp (pi_list k) fun sg H Q q => ?_
          obtain ⟨F, fp, r, q⟩ := q
          refine ⟨F, fp, r, fun F1 H1 fp1 v s1 q1 p1 => ?_⟩
          obtain ⟨S, ⟨⟨p, vs, rfl, h2, h3⟩, _⟩, _⟩ := p1.get q1 ea
          rw [hK]
          exact ⟨p, rfl, ⟨vs, SqL.of (q1.sub _ _ h2)⟩, q F1 H1 fp1 _ s1 q1 (itl_wk (SqL.of h2) h3)⟩
        · cases ed
          refine PIimp (pi_list k) fun sg H Q q => ?_
          obtain ⟨F, fp, r, q⟩ := q
          refine ⟨F, fp, r, fun F1 H1 fp1 v s1 q1 p1 => ?_⟩
          obtain ⟨S, ⟨⟨p, vs, rfl, h2, h3⟩, _⟩, _⟩ := p1.get q1 ea
          rw [hK]
          exact ⟨p, rfl, ⟨vs, q1.sub.seq h2⟩, q F1 H1 fp1 _ s1 q1 (itl_wk h2 h3)⟩
        · cases ed
          refine PIimp (pi_tup k) fun sg H Q q => ?_
          obtain ⟨F, fp, r, q⟩ := q
          refine ⟨F, fp, r, fun F1 H1 fp1 v s1 q1 p1 => ?_⟩
          obtain ⟨S, ⟨⟨p, vs, rfl, h2, h3⟩, _⟩, _⟩ := p1.get q1 ea
          rw [hK]
          exact ⟨p, rfl, ⟨vs, SqT.of (q1.sub _ _ h2)⟩, q F1 H1 fp1 _ s1 q1 (itt_wk (SqT.of h2) h3)⟩
        · cases ed
          refine PIimp (pi_tup k) fun sg H Q q => ?_
          obtain ⟨F, fp, r, q⟩ := q
          refine ⟨F, fp, r, fun F1 H1 fp1 v s1 q1 p1 => ?_⟩
          obtain ⟨S, ⟨⟨p, vs, rfl, h2, h3⟩, _⟩, _⟩ := p1.get q1 ea
          rw [hK]
          exact ⟨p, rfl, ⟨vs, sqT_mono q1.sub h2⟩, q F1 H1 fp1 _ s1 q1 (itt_wk h2 h3)⟩
        · cases ed
/-- range(n), range(a, b) -/
def xRg1 (xs : XA) : XI := fun r => (xs r).bind fun us r1 => match us with
  | [.d (.int n)] => if -(2 ^ 62) ≤ n ∧ n < 2 ^ 62 then .ok ((List.range n.toNat).map fun (i : Nat) => .int (0 + i)) r1 else .no
  | _ => .no
def xRg2 (xs : XA) : XI := fun r => (xs r).bind fun us r1 => match us with
  | [.d (.int a), .d (.int b)] => if (-(2 ^ 62) ≤ a ∧ a < 2 ^ 62) ∧ -(2 ^ 62) ≤ b ∧ b < 2 ^ 62 then .ok ((List.range (b - a).toNat).map fun (i : Nat) => .int (a + i)) r1 else .no
  | _ => .no
theorem okI_rg1 {xs : XA} {a : Expr} {p pos : Pos} (hg : Gl X "range") (hm : X.mg "range" = none) (hs : notStar a = true) (h : OkA K O X W xs [a]) : OkI K O X W (xRg1 xs) tg (.Call (.Name "range" p) [a] [] pos) := fun rho => by
  have k := h rho
  have st : starEach [a] X.env = [(false, eval a X.env)] := star_cons hs
  unfold xRg1
  cases ex : xs rho with
  | no => exact PIno
  | ex y r1 =>
    rw [ex] at k
    refine PIimp (pi_range1 hg hm k st) fun sg H Q q => ?_
    obtain ⟨F, fp, r, q⟩ := q
    exact ⟨F, fp, r, q⟩
  | ok us r1 =>
    rw [ex] at k
    simp only [Rs.bind]
    split
    · rename_i n
      split
      · rename_i hn
        refine PIimp (pi_range1 hg hm k st) fun sg H Q q => ?_
        obtain ⟨F, fp, r, q⟩ := q
        refine ⟨F, fp, r, fun F1 H1 fp1 vs s1 q1 p1 => ?_⟩
        have hv := allD_ok (ds := [.int n]) rfl p1
        obtain ⟨v, r', rfl, e1, e2⟩ := hv
        cases (show r' = [] from e2)
        exact ⟨n, by rw [show v = .int n from e1], hn.1, hn.2, q F1 H1 fp1 _ s1 q1 (itr_wk 0 n.toNat)⟩
      · exact PIno
    · exact PIno
theorem okI_rg2 {xs : XA} {a b : Expr} {p pos : Pos} (hg : Gl X "range") (hm : X.mg "range" = none) (hs : notStar a = true) (hs2 : notStar b = true) (h : OkA K O X W xs [a, b]) : OkI K O X W (xRg2 xs) tg (.Call (.Name "range" p) [a, b] [] pos) := fun rho => by
  have k := h rho
  have st2 : starEach [b] X.env = [(false, eval b X.env)] := star_cons hs2
  have st : starEach [a, b] X.env = [(false, eval a X.env), (false, eval b X.env)] := by rw [star_cons hs, st2]
  unfold xRg2
  cases ex : xs rho with
  | no => exact PIno
  | ex y r1 =>
    rw [ex] at k
    refine PIimp (pi_range2 hg hm k st st2) fun sg H Q q => ?_
    obtain ⟨F, fp, r, q⟩ := q
    exact ⟨F, fp, r, q⟩
  | ok us r1 =>
    rw [ex] at k
    simp only [Rs.bind]
    split
    · rename_i n m
      split
      · rename_i hn
        refine PIimp (pi_range2 hg hm k st st2) fun sg H Q q => ?_
        obtain ⟨F, fp, r, q⟩ := q
        refine ⟨F, fp, r, fun F1 H1 fp1 vs s1 q1 p1 => ?_⟩
        have hv := allD_ok (ds := [.int n, .int m]) rfl p1
        obtain ⟨v, r', rfl, e1, w, r'', rfl, e2, e3⟩ := hv
        cases (show r'' = [] from e3)
        exact ⟨n, m, by rw [show v = .int n from e1, show w = .int m from e2], ⟨hn.1.1, hn.1.2, hn.2.1, hn.2.2⟩, q F1 H1 fp1 _ s1 q1 (itr_wk n (m - n).toNat)⟩
      · exact PIno
    · exact PIno
/-- a list as it is read, frozen -/
def lsD : Rv → Option (List D)
  | .d (.lst xs) => some xs
  | .d (.rl xs) => some xs
  | _ => none
theorem lsD_ok {H0 F H : Hp} {fp : Fp} {sg : St} {v : V} {u : Rv} {xs : List D} (e : lsD u = some xs) (h : RepR K O H0 F H fp sg v u) : ∃ p vs, v = .ref p ∧ SqL K F p vs ∧ RpA K F xs vs := by
  unfold lsD at e
  split at e
  · cases e
    obtain ⟨p, vs, h1, h2, h3⟩ := h
    exact ⟨p, vs, h1, SqL.of h2, h3⟩
  · cases e
    exact h
  · cases e
def enumD (i : Nat) : List D → List D
  | [] => []
  | d :: ds => .tup [.int i, d] :: enumD (i + 1) ds
theorem enumD_len : ∀ (ds : List D) (i : Nat), (enumD i ds).length = ds.length
  | [], _ => rfl
  | d :: ds, i => by
    show (enumD (i + 1) ds).length + 1 = ds.length + 1
    rw [enumD_len ds (i + 1)]
theorem enumD_get : ∀ (ds : List D) (i j : Nat), (enumD i ds)[j]? = (ds[j]?).map fun d => .tup [.int ((i + j : Nat) : Int), d]
  | [], _, _ => by simp [enumD]
  | d :: ds, i, 0 => rfl
  | d :: ds, i, j + 1 => by
    show (enumD (i + 1) ds)[j]? = _
    rw [enumD_get ds (i + 1) j, List.getElem?_cons_succ, show i + 1 + j = i + (j + 1) by omega]
def xEn (xs : XA) : XI := fun r => (xs r).bind fun us r1 => match us with
  | [u] => match lsD u with
    | some ds => .ok (enumD 0 ds) r1
    | none => .no
  | _ => .no
theorem ite_wk {F : Hp} {a : Addr} {xs : List D} {vs : List V} (h : SqL K F a vs) (hx : RpA K F xs vs) : Wk K (Ite K a) F (enumD 0 xs) where
  go := fun i H k hi => by
    rw [enumD_len] at hi
    have hi' : i < vs.length := by rw [hx.length]; exact hi
    exact ⟨vs, vs[i], k.seq h, by simp [hi']⟩
  stop := fun i H k hi => ⟨vs, k.seq h, by rw [enumD_len] at hi; rw [hx.length]; exact hi⟩
  yld := fun i H x H' k y d hd => by
    obtain ⟨T, w, rfl, hT, rfl, y⟩ := y
    rw [enumD_get] at hd
    obtain ⟨d', h1, h2⟩ := Option.map_eq_some_iff.mp hd
    subst h2
    obtain ⟨w', h3, h4⟩ := hx.get h1
    rw [y vs (k.seq h)] at h3
    cases h3
    refine .inr ⟨T, _, _, hT, rfl, rfl, rfl, .int (i : Nat), [w], rfl, ?_, w, [], rfl, h4, rfl⟩
    show V.int _ = V.int _
    rw [Nat.zero_add]
theorem okI_en (hK : X.K = K) {xs : XA} {a : Expr} {p pos tpos : Pos} {elts : List Expr} {kk : Nat} (hg : Gl X "enumerate") (hm : X.mg "enumerate" = none) (hs : notStar a = true) (h : OkA K O X W xs [a]) : OkI K O X W (xEn xs) (.Tuple elts kk tpos) (.Call (.Name "enumerate" p) [a] [] pos) := fun rho => by
  have k := h rho
  have st : starEach [a] X.env = [(false, eval a X.env)] := star_cons hs
  unfold xEn
  cases ex : xs rho with
  | no => exact PIno
  | ex y r1 =>
    rw [ex] at k
    refine PIimp (pi_enum hg hm k st) fun sg H Q q => ?_
    obtain ⟨F, fp, r, q⟩ := q
    exact ⟨F, fp, r, q⟩
  | ok us r1 =>
    rw [ex] at k
    simp only [Rs.bind]
    split
    · rename_i u
      cases ed : lsD u with
      | none => exact PIno
      | some ds =>
        refine PIimp (pi_enum hg hm k st) fun sg H Q q => ?_
        obtain ⟨F, fp, r, q⟩ := q
        refine ⟨F, fp, r, fun F1 H1 fp1 vs s1 q1 p1 => ?_⟩
        match vs, p1 with
        | [], p1 => cases (show [u] = [] from p1)
        | v :: vs', p1 =>
          obtain ⟨u', r', z, p2, p3⟩ := p1
          cases z
          cases vs' with
          | cons w ws => obtain ⟨_, _, z, _⟩ := p3; cases z
          | nil =>
            obtain ⟨pp, ws, rfl, e2, e3⟩ := lsD_ok ed p2
            rw [hK]
            exact ⟨pp, ws, rfl, q1.sub.seq e2, q F1 H1 fp1 _ s1 q1 (ite_wk e2 e3)⟩
    · exact PIno
def zipD : List D → List D → List D
  | d :: ds, e :: es => .tup [d, e] :: zipD ds es
  | _, _ => []
theorem zipD_get : ∀ (ds es : List D) (j : Nat) (z : D), (zipD ds es)[j]? = some z → ∃ d e, ds[j]? = some d ∧ es[j]? = some e ∧ z = .tup [d, e]
  | [], es, j, z, h => by simp [zipD] at h
  | d :: ds, [], j, z, h => by simp [zipD] at h
  | d :: ds, e :: es, 0, z, h => by
    cases (show some (D.tup [d, e]) = some z from h)
    exact ⟨d, e, rfl, rfl, rfl⟩
  | d :: ds, e :: es, j + 1, z, h => by
    obtain ⟨d', e', h1, h2, h3⟩ := zipD_get ds es j z h
    exact ⟨d', e', h1, h2, h3⟩
theorem zipD_len : ∀ (ds es : List D), (zipD ds es).length = min ds.length es.length
  | [], es => by simp [zipD]
  | d :: ds, [] => by simp [zipD]
  | d :: ds, e :: es => by
    show (zipD ds es).length + 1 = min (ds.length + 1) (es.length + 1)
    rw [zipD_len ds es]
    omega
def xZp (xs : XA) : XI := fun r => (xs r).bind fun us r1 => match us with
  | [u, w] => match lsD u, lsD w with
    | some ds, some es => .ok (zipD ds es) r1
    | _, _ => .no
  | _ => .no
theorem itz_wk {F : Hp} {a b : Addr} {xs ys : List D} {vs ws : List V} (h : SqL K F a vs) (hx : RpA K F xs vs) (h' : SqL K F b ws) (hy : RpA K F ys ws) : Wk K (Itz K a b) F (zipD xs ys) where
  go := fun i H k hi => by
    rw [zipD_len] at hi
    have hi1 : i < vs.length := by rw [hx.length]; omega
    have hi2 : i < ws.length := by rw [hy.length]; omega
    exact ⟨vs, ws, vs[i], ws[i], k.seq h, k.seq h', by simp [hi1], by simp [hi2]⟩
  stop := fun i H k hi => ⟨vs, ws, k.seq h, k.seq h', by rw [zipD_len] at hi; rw [hx.length, hy.length]; omega⟩
  yld := fun i H x H' k y d hd => by
    obtain ⟨T, w1, w2, rfl, hT, rfl, y1, y2⟩ := y
    obtain ⟨d', e', h1, h2, rfl⟩ := zipD_get _ _ _ _ hd
    obtain ⟨v1, h3, h4⟩ := hx.get h1
    obtain ⟨v2, h5, h6⟩ := hy.get h2
    rw [y1 vs (k.seq h)] at h3
    rw [y2 ws (k.seq h')] at h5
    cases h3
    cases h5
    exact .inr ⟨T, _, _, hT, rfl, rfl, rfl, w1, [w2], rfl, h4, w2, [], rfl, h6, rfl⟩
theorem okI_zp (hK : X.K = K) {xs : XA} {a b : Expr} {p pos tpos : Pos} {elts : List Expr} {kk : Nat} (hg : Gl X "zip") (hm : X.mg "zip" = none) (hs : notStar a = true) (hs2 : notStar b = true) (h : OkA K O X W xs [a, b]) : OkI K O X W (xZp xs) (.Tuple elts kk tpos) (.Call (.Name "zip" p) [a, b] [] pos) := fun rho => by
  have k := h rho
  have st2 : starEach [b] X.env = [(false, eval b X.env)] := star_cons hs2
  have st : starEach [a, b] X.env = (false, eval a X.env) :: starEach [b] X.env := star_cons hs
  have hpl : (backTo pos (starEach [b] X.env)).any (·.1) = false := by rw [st2]; rfl
  unfold xZp
  cases ex : xs rho with
  | no => exact PIno
  | ex y r1 =>
    rw [ex] at k
    refine PIimp (pi_zip hg hm k st hpl) fun sg H Q q => ?_
    obtain ⟨F, fp, r, q⟩ := q
    exact ⟨F, fp, r, q⟩
  | ok us r1 =>
    rw [ex] at k
    simp only [Rs.bind]
    split
    · rename_i u w
      cases ed : lsD u with
      | none => exact PIno
      | some ds =>
        cases ee : lsD w with
        | none => exact PIno
        | some es =>
          refine PIimp (pi_zip hg hm k st hpl) fun sg H Q q => ?_
          obtain ⟨F, fp, r, q⟩ := q
          refine ⟨F, fp, r, fun F1 H1 fp1 vs s1 q1 p1 => ?_⟩
          match vs, p1 with
          | [], p1 => cases (show [u, w] = [] from p1)
          | [v], p1 =>
            obtain ⟨u', r', z, p2, p3⟩ := p1
            cases z
            cases (show [w] = [] from p3)
          | v :: v2 :: vs', p1 =>
            obtain ⟨u', r', z, p2, u2, r2, z2, p3, p4⟩ := p1
            cases z
            cases z2
            cases vs' with
            | cons w ws => obtain ⟨_, _, z, _⟩ := p4; cases z
            | nil =>
              obtain ⟨pp, ws, rfl, e2, e3⟩ := lsD_ok ed p2
              obtain ⟨pp2, ws2, rfl, e4, e5⟩ := lsD_ok ee p3
              rw [hK]
              exact ⟨pp, pp2, ws, ws2, rfl, q1.sub.seq e2, q1.sub.seq e4, q F1 H1 fp1 _ s1 q1 (itz_wk e2 e3 e4 e5)⟩
    · exact PIno
end
/-! ### targets -/
def ownB (r : Env) (i : Nat) : Bool := match r[i]? with
  | some (some a) => a.own
  | _ => false
/-- a slot gets data -/
def putD (ar i : Nat) (d : D) (r : Env) : Option Env := if i < ar ∧ ownB r i = true then none else some (r.set i (some (.d d)))
abbrev XG := D → Env → Option Env
def gN (ar i : Nat) : XG := putD ar i
def gAll : List XG → List D → Env → Option Env
  | [], [], r => some r
  | g :: gs, d :: ds, r => match g d r with
    | some r1 => gAll gs ds r1
    | none => none
  | _, _, _ => none
def gT (gs : List XG) : XG := fun d r => match d with
  | .tup ds => gAll gs ds r
  | .rt ds => gAll gs ds r
  | _ => none
def KP (ar : Nat) (rho : Env) (sg sg' : St) : Prop := ∀ i, i < ar → ownB rho i = true → sg'[i]? = sg[i]?
def Ow (ar : Nat) (r r' : Env) : Prop := ∀ i, i < ar → ownB r i = true → ownB r' i = true
def tEvG (K : PySem.W.Frag) (O : OR) (ar : Nat) (sl : List Nat) (d : D) (rho rho' : Env) : TG := fun v sg H Q => ∃ F fp, R K O F H rho sg fp ∧ Rp K F d v ∧ ∀ sg' fp', R K O F H rho' sg' fp' → (∀ i b, fp' i b → fp i b) → KP ar rho sg sg' → sg'.length = sg.length ∧ (∀ i, i ∉ sl → sg'[i]? = sg[i]?) → Q sg' H
def tEvGs (K : PySem.W.Frag) (O : OR) (ar : Nat) (sl : List Nat) (ds : List D) (rho rho' : Env) : TGs := fun vs sg H Q => ∃ F fp, R K O F H rho sg fp ∧ RpA K F ds vs ∧ ∀ sg' fp', R K O F H rho' sg' fp' → (∀ i b, fp' i b → fp i b) → KP ar rho sg sg' → sg'.length = sg.length ∧ (∀ i, i ∉ sl → sg'[i]? = sg[i]?) → Q sg' H
def OkG (K : PySem.W.Frag) (O : OR) (ar : Nat) (sl : List Nat) (X : Cx) (g : XG) (e : Expr) : Prop := (∀ d rho rho', g d rho = some rho' → PG X e (tEvG K O ar sl d rho rho')) ∧ ∀ d rho rho', g d rho = some rho' → Ow ar rho rho'
def OkGs (K : PySem.W.Frag) (O : OR) (ar : Nat) (sl : List Nat) (X : Cx) (g : List XG) (es : List Expr) : Prop := (∀ d rho rho', gAll g d rho = some rho' → PGs X es (tEvGs K O ar sl d rho rho')) ∧ ∀ d rho rho', gAll g d rho = some rho' → Ow ar rho rho'
section
variable {K : PySem.W.Frag} {O : OR} {X : Cx} {ar : Nat}
theorem PGimp {e : Expr} {t t' : TG} (h : PG X e t) (i : ∀ v sg H Q, t' v sg H Q → t v sg H Q) : PG X e t' := ⟨fun pins s sg H v u Q I r q => h.run pins s sg H v u Q I r (i _ _ _ _ q)⟩
theorem PGsimp {e : List Expr} {t t' : TGs} (h : PGs X e t) (i : ∀ v sg H Q, t' v sg H Q → t v sg H Q) : PGs X e t' := ⟨fun pins s sg H v u Q I r q => h.run pins s sg H v u Q I r (i _ _ _ _ q)⟩
theorem ownB_set {r : Env} {i j : Nat} {a : A} (h : j ≠ i) : ownB (r.set j (some a)) i = ownB r i := by
  unfold ownB
  rw [List.getElem?_set_ne h]
/-- a slot is given data -/
theorem R.putD (ok : ORok O) {F H : Hp} {rho : Env} {sg : St} {fp : Fp} (r : R K O F H rho sg fp) {i : Nat} {d : D} {v : V} (hd : Rp K F d v) : ∃ fp', R K O F H (rho.set i (some (.d d))) (sg.set i (some v)) fp' ∧ ∀ j b, fp' j b → fp j b := by
  refine ⟨fun j b => j ≠ i ∧ fp j b, ⟨r.sub, by rw [List.length_set, List.length_set]; exact r.len, fun j a h => ?_, fun j b z => ?_, fun j b z => r.fre j b z.2, fun j k b z z' => r.dis j k b z.2 z'.2⟩, fun j b z => z.2⟩
  · by_cases hj : j = i
    · subst hj
      have hlt : j < rho.length := by
        have := (List.getElem?_eq_some_iff.mp h).1
        rwa [List.length_set] at this
      rw [List.getElem?_set_self hlt] at h
      cases h
      exact ⟨v, by rw [List.getElem?_set_self (by rw [← r.len]; exact hlt)], hd, fun b z => z.1 rfl⟩
    · rw [List.getElem?_set_ne (Ne.symm hj)] at h
      obtain ⟨w, h1, h2⟩ := r.rep j a h
      refine ⟨w, by rw [List.getElem?_set_ne (Ne.symm hj)]; exact h1, ?_⟩
      have e : (fun b => j ≠ i ∧ fp j b) = fp j := by
        funext b
        exact propext ⟨fun z => z.2, fun z => ⟨hj, z⟩⟩
      show RepA K O F H w a (fun b => j ≠ i ∧ fp j b)
      rw [e]
      exact h2
  · obtain ⟨a, h1, h2⟩ := r.own j b z.2
    exact ⟨a, by rw [List.getElem?_set_ne (Ne.symm z.1)]; exact h1, h2⟩
theorem putD_some {i : Nat} {d : D} {rho rho' : Env} (e : putD ar i d rho = some rho') : rho' = rho.set i (some (.d d)) ∧ ∀ j, j < ar → ownB rho j = true → i ≠ j := by
  unfold Sn.putD at e
  split at e
  · cases e
  · rename_i hn
    cases e
    exact ⟨rfl, fun j h1 h2 z => hn (by rw [z]; exact ⟨h1, h2⟩)⟩
theorem okG_name (ok : ORok O) {x : Str} {pos : Pos} {i : Nat} (hN : X.N.Nodup) (hi : X.N[i]? = some x) (hx : Loc X.env.scope x) (hf : X.fn x = true ∨ X.env.scope.names.lookup x = some .local) : OkG K O ar [i] X (gN ar i) (.Name x pos) := by
  refine ⟨fun d rho rho' e => ?_, fun d rho rho' e j h1 h2 => ?_⟩
  · obtain ⟨rfl, hne⟩ := putD_some e
    refine PGimp (pg_name hN hi hx hf) fun v sg H Q q => ?_
    obtain ⟨F, fp, r, hd, q⟩ := q
    obtain ⟨fp', r', hfp⟩ := r.putD (i := i) ok hd
    exact q _ fp' r' hfp (fun j h1 h2 => by rw [List.getElem?_set_ne (hne j h1 h2)]) ⟨List.length_set, fun j hj => List.getElem?_set_ne fun z => hj (by simp [z])⟩
  · obtain ⟨rfl, hne⟩ := putD_some e
    rw [ownB_set (hne j h1 h2)]
    exact h2
theorem okGs_nil : OkGs K O ar [] X [] [] := by
  refine ⟨fun d rho rho' e => ?_, fun d rho rho' e j h1 h2 => ?_⟩
  · cases d with
    | nil =>
      cases e
      refine PGsimp pgs_nil fun v sg H Q q => ?_
      obtain ⟨F, fp, r, hd, q⟩ := q
      exact ⟨hd, q sg fp r (fun _ _ z => z) (fun _ _ _ => rfl) ⟨rfl, fun _ _ => rfl⟩⟩
    | cons d ds => cases e
  · cases d with
    | nil => cases e; exact h2
    | cons d ds => cases e
theorem assign_cons {e : Expr} {es : List Expr} {env : PySem.Env} (h : notStar e = true) : assignEach (e :: es) env = (false, assign e env) :: assignEach es env := by
  cases e <;> first | rfl | cases h
theorem okGs_cons {g : XG} {gs : List XG} {e : Expr} {es : List Expr} {sl sl2 : List Nat} (hs : notStar e = true) (h : OkG K O ar sl X g e) (h2 : OkGs K O ar sl2 X gs es) : OkGs K O ar (sl ++ sl2) X (g :: gs) (e :: es) := by
  refine ⟨fun d rho rho' ee => ?_, fun d rho rho' ee => ?_⟩
  · cases d with
    | nil => cases ee
    | cons d ds =>
      unfold gAll at ee
      cases e1 : g d rho with
      | none => rw [e1] at ee; cases ee
      | some r1 =>
        rw [e1] at ee
        refine PGsimp (pgs_cons (h.1 d rho r1 e1) (h2.1 ds r1 rho' ee) (by rw [assign_cons hs]; rfl)) fun vs sg H Q q => ?_
        obtain ⟨F, fp, r, hd, q⟩ := q
        obtain ⟨v, vs', rfl, hd1, hd2⟩ := hd
        refine ⟨v, vs', rfl, F, fp, r, hd1, fun sg1 fp1 r1' hf1 kp1 l1 => ⟨F, fp1, r1', hd2, fun sg2 fp2 r2' hf2 kp2 l2 => ?_⟩⟩
        exact q sg2 fp2 r2' (fun i b z => hf1 i b (hf2 i b z)) (fun j h3 h4 => (kp2 j h3 (h.2 d rho r1 e1 j h3 h4)).trans (kp1 j h3 h4)) ⟨l2.1.trans l1.1, fun i hi => (l2.2 i fun z => hi (List.mem_append_right _ z)).trans (l1.2 i fun z => hi (List.mem_append_left _ z))⟩
  · cases d with
    | nil => cases ee
    | cons d ds =>
      unfold gAll at ee
      cases e1 : g d rho with
      | none => rw [e1] at ee; cases ee
      | some r1 =>
        rw [e1] at ee
        exact fun j h3 h4 => h2.2 ds r1 rho' ee j h3 (h.2 d rho r1 e1 j h3 h4)
theorem gAll_len : ∀ {gs : List XG} {ds : List D} {r r' : Env}, gAll gs ds r = some r' → ds.length = gs.length
  | [], [], _, _, _ => rfl
  | [], d :: ds, _, _, h => by cases h
  | g :: gs, [], _, _, h => by cases h
  | g :: gs, d :: ds, r, r', h => by
    unfold gAll at h
    cases e1 : g d r with
    | none => rw [e1] at h; cases h
    | some r1 =>
      rw [e1] at h
      rw [List.length_cons, List.length_cons, gAll_len h]
theorem okG_tup (hK : X.K = K) (hc : X.calm = true) {gs : List XG} {es : List Expr} {sl : List Nat} {k : Nat} {pos : Pos} (hn : gs.length = es.length) (hs : es.all notStar = true) (h : OkGs K O ar sl X gs es) : OkG K O ar sl X (gT gs) (.Tuple es k pos) := by
  have hlen : ∀ {l : List Expr}, l.all notStar = true → (assignEach l X.env).length = l.length ∧ (assignEach l X.env).findIdx? (·.1) = none := by
    intro l
    induction l with
    | nil => intro _; exact ⟨rfl, rfl⟩
    | cons e l ih =>
      intro hl
      rw [List.all_cons, Bool.and_eq_true] at hl
      obtain ⟨h1, h2⟩ := ih hl.2
      rw [assign_cons hl.1]
      refine ⟨by rw [List.length_cons, List.length_cons, h1], ?_⟩
      rw [List.findIdx?_cons, h2]
      rfl
  refine ⟨fun d rho rho' ee => ?_, fun d rho rho' ee => ?_⟩
  · unfold gT at ee
    split at ee
    · rename_i ds
      refine PGimp (pg_tup (n := es.length) hc (h.1 ds rho rho' ee) (hlen hs).1 (hlen hs).2) fun v sg H Q q => ?_
      obtain ⟨F, fp, r, ⟨a, vs, rfl, e2, e3⟩, q⟩ := q
      rw [hK]
      exact ⟨a, vs, rfl, SqT.of (r.sub _ _ e2), by rw [e3.length, gAll_len ee, hn], F, fp, r, e3, q⟩
    · rename_i ds
      refine PGimp (pg_tup (n := es.length) hc (h.1 ds rho rho' ee) (hlen hs).1 (hlen hs).2) fun v sg H Q q => ?_
      obtain ⟨F, fp, r, ⟨a, vs, rfl, e2, e3⟩, q⟩ := q
      rw [hK]
      exact ⟨a, vs, rfl, sqT_mono r.sub e2, by rw [e3.length, gAll_len ee, hn], F, fp, r, e3, q⟩
    · cases ee
  · unfold gT at ee
    split at ee
    · exact h.2 _ rho rho' ee
    · exact h.2 _ rho rho' ee
    · cases ee
end
end Sn
namespace Sn
open PySem L2
/-! ### for k, x in d.items(), d new -/
def kD : Key → D
  | .inl i => .int i
  | .inr x => .str x
def itmD (kvs : List (Key × D)) : List D := kvs.map fun kv => .tup [kD kv.1, kv.2]
def itmR : Rv → Option (List D)
  | .n (.m kvs) => some (itmD kvs)
  | .n (.ob 0 (.dic kvs)) => some (itmD kvs)
  | _ => none
def xItm (x : X1) : XI := fun r => (x r).bind fun u r1 => match itmR u with
  | some ds => .ok ds r1
  | none => .no
section
variable {K : PySem.W.Frag} {O : OR} {X : Cx} {W : WX}
theorem rp_kD {F : Hp} : ∀ k : Key, Rp K F (kD k) (kV k)
  | .inl i => rfl
  | .inr x => rfl
theorem RpK.get {F : Hp} : ∀ {kvs : List (Key × D)} {kws : List (Key × V)} {i : Nat} {k : Key} {v : V}, RpK K F kvs kws → kws[i]? = some (k, v) → ∃ d, kvs[i]? = some (k, d) ∧ Rp K F d v
  | [], kws, i, k, v, h, e => by cases (show kws = [] from h); simp at e
  | (j, x) :: r, kws, 0, k, v, h, e => by
    obtain ⟨w, s, rfl, h2, h3⟩ := h
    simp at e
    obtain ⟨rfl, rfl⟩ := e
    exact ⟨x, rfl, h2⟩
  | (j, x) :: r, kws, i + 1, k, v, h, e => by
    obtain ⟨w, s, rfl, h2, h3⟩ := h
    obtain ⟨d, e1, e2⟩ := RpK.get (i := i) h3 (by simpa using e)
    exact ⟨d, by simpa using e1, e2⟩
theorem iti_wk {F : Hp} {d : Addr} {o : Obj} {kvs : List (Key × D)} {kws : List (Key × V)} (h : F d = some (.frz o (.dK kws))) (hx : RpK K F kvs kws) : Wk K (Iti d o kws) F (itmD kvs) where
  go := fun i H k hi => ⟨k _ _ h, by rw [hx.length]; simpa [itmD] using hi⟩
  stop := fun i H k hi => ⟨k _ _ h, by rw [hx.length]; simpa [itmD] using hi⟩
  yld := fun i H x H' k y z hz => by
    obtain ⟨T, ky, v, h1, rfl, h3, rfl⟩ := y
    obtain ⟨dd, h4, h5⟩ := hx.get h1
    unfold itmD at hz
    rw [List.getElem?_map, h4] at hz
    cases hz
    exact .inr ⟨T, _, _, h3, rfl, rfl, rfl, kV ky, [v], rfl, rp_kD ky, v, [], rfl, h5, rfl⟩
theorem pe_lk {e : Expr} {te : TE} (h : PE X e te) : PE X e (fun σ H Q => te σ H fun x H1 => ∃ d kws, x = .ref d ∧ H1 d = some (.dK kws) ∧ ∀ od, Q x (upd H1 d (.frz od (.dK kws)))) := ⟨fun pins s σ H Q I hq => by
  refine thn (h.run pins s σ H _ I hq) fun v s1 ⟨x, H1, I1, r1, d, kws, ex, hd, q⟩ => ?_
  obtain ⟨od, I2⟩ := I1.lock hd True.intro
  exact ⟨x, _, I2, r1, q od⟩⟩
theorem GrR.fz {F F' H : Hp} (e : Same F F') : ∀ {kvs : List (Key × D)} {kws : List (Key × V)} {S : Addr → Prop}, GrR K F H kvs kws S → (∀ b, S b → F' b = H b) → RpK K F' kvs kws
  | [], kws, S, h, k => h.1
  | (j, d) :: r, kws, S, h, k => by
    obtain ⟨ds, q, vs, kws', S', rfl, rfl, h3, h4, h5, h6, h7⟩ := h
    exact ⟨.ref q, kws', rfl, ⟨q, vs, rfl, by rw [k q ((h7 q).mpr (.inl rfl))]; exact h3, RpA.mono e _ _ h4⟩, GrR.fz e h5 fun b hb => k b ((h7 b).mpr (.inr hb))⟩
open Classical in
/-- what is new is locked -/
noncomputable def lkF (F H : Hp) (S : Addr → Prop) (d : Addr) (o : HO) : Hp := fun b => if b = d then some o else if S b then H b else F b
theorem itm_ok (ok : ORok O) {u : Rv} {ds : List D} (e : itmR u = some ds) {F0 H0 F H : Hp} {fp0 fp : Fp} {rho : Env} {sg : St} {v : V} (st : Stp F0 H0 fp0 F H fp) (r : R K O F H rho sg fp) (h : RepR K O H0 F H fp sg v u) :
    ∃ d kws, v = .ref d ∧ H d = some (.dK kws) ∧ ∀ od, ∃ F', Stp F0 H0 fp0 F' (upd H d (.frz od (.dK kws))) fp ∧ R K O F' (upd H d (.frz od (.dK kws))) rho sg fp ∧ Wk K (Iti d od kws) F' ds := by
  have main : ∀ {a : A} {S : Addr → Prop} {kvs : List (Key × D)} {kws : List (Key × V)} {p : Addr}, v = .ref p → H p = some (.dK kws) → S p → (∀ b, S b → F b = none ∧ H0 b = none ∧ ∀ i, ¬ fp i b) →
      (∀ F', Same F F' → (∀ b, S b → b ≠ p → F' b = H b) → RpK K F' kvs kws) → ∃ d kws, v = .ref d ∧ H d = some (.dK kws) ∧ ∀ od, ∃ F', Stp F0 H0 fp0 F' (upd H d (.frz od (.dK kws))) fp ∧ R K O F' (upd H d (.frz od (.dK kws))) rho sg fp ∧ Wk K (Iti d od kws) F' (itmD kvs) := fun {a S kvs kws p} ev hp hSp hS hk => by
    refine ⟨p, kws, ev, hp, fun od => ⟨lkF F H S p (.frz od (.dK kws)), ?_⟩⟩
    have hin : ∀ b, ¬ S b → lkF F H S p (.frz od (.dK kws)) b = F b := fun b hb => by
      unfold lkF
      rw [if_neg (fun z => hb (by rw [z]; exact hSp)), if_neg hb]
    have hat : lkF F H S p (.frz od (.dK kws)) p = some (.frz od (.dK kws)) := by
      unfold lkF
      rw [if_pos rfl]
    have hof : ∀ b, S b → b ≠ p → lkF F H S p (.frz od (.dK kws)) b = H b := fun b hb hn => by
      unfold lkF
      rw [if_neg hn, if_pos hb]
    have gF : Same F (lkF F H S p (.frz od (.dK kws))) := fun b o e => by
      rw [hin b fun z => by rw [(hS b z).1] at e; cases e]
      exact e
    refine ⟨⟨st.grow.trans gF, fun b h k m => ?_, fun b o hb hn => ?_, st.fps, fun b hb => ?_⟩, ⟨fun b o e => ?_, r.len, fun i a h => ?_, r.own, fun i b z => ?_, r.dis⟩, iti_wk hat (hk _ gF hof)⟩
    · rw [hin b fun z => k (hS b z).2.1]
      exact st.new b h k m
    · rw [upd_ne (show b ≠ p from fun z => by rw [z, (hS p hSp).2.1] at hb; cases hb)]
      exact st.frame b o hb hn
    · rw [upd_at]
      split
      · exact fun z => nomatch z
      · exact st.stay b hb
    · by_cases hb : b = p
      · rw [hb, upd_same]
        rw [hb, hat] at e
        exact e
      · rw [upd_ne hb]
        by_cases hb2 : S b
        · rw [hof b hb2 hb] at e
          exact e
        · rw [hin b hb2] at e
          exact r.sub _ _ e
    · obtain ⟨w, h1, h2⟩ := r.rep i a h
      refine ⟨w, h1, h2.mono ok gF fun b z => ?_⟩
      rw [upd_ne (show b ≠ p from fun e => (hS p hSp).2.2 i (by rw [← e]; exact z))]
    · rw [hin b fun e => (hS b e).2.2 i z]
      exact r.fre i b z
  unfold itmR at e
  split at e
  · rename_i kvs
    cases e
    obtain ⟨S, ⟨p, kws, h1, h2, h3, h4⟩, _, h5⟩ := h
    exact main (a := .m kvs) h1 h2 ((h4 p).mpr rfl) h5 fun F' g _ => RpK.mono g _ _ h3
  · rename_i kvs
    cases e
    obtain ⟨S, h1, _, h5⟩ := h
    obtain ⟨kvs0, p, kws, S', e0, e1, e2, e3, e4, e5⟩ := (ok.og _ _ _ _ _ _).mp h1
    cases e0
    exact main (a := .ob 0 (.dic kvs)) e1 e2 ((e5 p).mpr (.inl rfl)) h5 fun F' g k => e3.fz g fun b hb => k b ((e5 b).mpr (.inr hb)) (fun z => e4 (by rw [← z]; exact hb))
  · cases e
theorem okI_itm (ok : ORok O) {x : X1} {e : Expr} {elts : List Expr} {kk : Nat} {tpos apos cpos : Pos} (hb : attributeBase e "items" X.env (eval e X.env) = eval e X.env) (hl : (apos.endLine == cpos.line) = true) (h : OkE K O X W x e) : OkI K O X W (xItm x) (.Tuple elts kk tpos) (.Call (.Attribute e "items" apos) [] [] cpos) := fun rho => by
  have k := h rho
  unfold xItm
  cases ex : x rho with
  | no => exact PIno
  | ex y r1 =>
    rw [ex] at k
    refine PIimp (pi_items (pe_lk k) hb hl) fun sg H Q q => ?_
    obtain ⟨F, fp, r, q⟩ := q
    exact ⟨F, fp, r, q⟩
  | ok u r1 =>
    rw [ex] at k
    simp only [Rs.bind]
    cases ed : itmR u with
    | none => exact PIno
    | some ds =>
      refine PIimp (pi_items (pe_lk k) hb hl) fun sg H Q q => ?_
      obtain ⟨F, fp, r, q⟩ := q
      refine ⟨F, fp, r, fun F1 H1 fp1 v s1 q1 p1 => ?_⟩
      obtain ⟨d, kws, rfl, hd, go⟩ := itm_ok ok ed s1 q1 p1
      refine ⟨d, kws, rfl, hd, fun od => ?_⟩
      obtain ⟨F2, a1, a2, a3⟩ := go od
      exact ⟨d, od, kws, rfl, upd_same, q F2 _ fp1 _ a1 a2 a3⟩
end
end Sn
namespace Sn
open PySem L2
/-! ### comprehensions -/
def wipeE (r : Env) : List Nat → Env
  | [] => r
  | v :: vs => (wipeE r vs).set v none
theorem wipeE_length (r : Env) : ∀ vs : List Nat, (wipeE r vs).length = r.length
  | [] => rfl
  | v :: vs => by unfold wipeE; rw [List.length_set, wipeE_length r vs]
theorem wipeE_out {r : Env} {i : Nat} : ∀ {vs : List Nat}, i ∉ vs → (wipeE r vs)[i]? = r[i]?
  | [], _ => rfl
  | v :: vs, h => by
    unfold wipeE
    rw [List.mem_cons, not_or] at h
    rw [List.getElem?_set_ne (Ne.symm h.1)]
    exact wipeE_out h.2
theorem wipeE_in {r : Env} {i : Nat} {a : A} : ∀ {vs : List Nat}, i ∈ vs → (wipeE r vs)[i]? ≠ some (some a)
  | v :: vs, h => by
    unfold wipeE
    intro z
    by_cases e : v = i
    · subst e
      by_cases hl : v < (wipeE r vs).length
      · rw [List.getElem?_set_self hl] at z; cases z
      · rw [List.getElem?_eq_none (by simpa using hl)] at z; cases z
    · rw [List.getElem?_set_ne e] at z
      rcases List.mem_cons.mp h with h | h
      · exact e h.symm
      · exact wipeE_in h z
/-- the slots of the comprehension's own names as they were -/
def restE (r0 : Env) : List Nat → Env → Env
  | [], r => r
  | v :: vs, r => (restE r0 vs r).set v (match r0[v]? with
    | some o => o
    | none => none)
theorem restE_length (r0 r : Env) : ∀ vs : List Nat, (restE r0 vs r).length = r.length
  | [] => rfl
  | v :: vs => by unfold restE; rw [List.length_set, restE_length r0 r vs]
theorem restE_out {r0 r : Env} {i : Nat} : ∀ {vs : List Nat}, i ∉ vs → (restE r0 vs r)[i]? = r[i]?
  | [], _ => rfl
  | v :: vs, h => by
    unfold restE
    rw [List.mem_cons, not_or] at h
    rw [List.getElem?_set_ne (Ne.symm h.1)]
    exact restE_out h.2
theorem restE_in {r0 r : Env} {i : Nat} (hl : i < r.length) (hl0 : i < r0.length) : ∀ {vs : List Nat}, i ∈ vs → (restE r0 vs r)[i]? = r0[i]?
  | v :: vs, h => by
    unfold restE
    by_cases e : v = i
    · subst e
      rw [List.getElem?_set_self (by rw [restE_length]; exact hl)]
      rw [List.getElem?_eq_getElem hl0]
    · rw [List.getElem?_set_ne e]
      rcases List.mem_cons.mp h with h | h
      · exact (e h.symm).elim
      · exact restE_in hl hl0 h
def compD (vs : List Nat) (g : XG) (t : XT) (x : X1) : List D → Env → List D → Rs (List D)
  | [], r, acc => .ok acc r
  | d :: ds, r, acc => match g d r with
    | none => .no
    | some r1 => (t r1).bind fun b r2 => if b = true then (x r2).bind fun u r3 => match u with
        | .d y => if acc.length < 100000 then compD vs g t x ds (wipeE r3 vs) (acc ++ [y]) else .no
        | _ => .no
      else compD vs g t x ds (wipeE r2 vs) acc
def xLc (vs : List Nat) (it : XI) (g : XG) (t : XT) (x : X1) : X1 := fun r => (it r).bind fun ds r1 => if vs.all (fun i => !ownB r1 i) = true then match compD vs g t x ds (wipeE r1 vs) [] with
  | .ok ys r2 => .ok (.n (.l true ys)) (restE r1 vs r2)
  | _ => .no
  else .no
/-- over a slot's own list, as it is at each turn -/
def compL (vs : List Nat) (j : Nat) (g : XG) (t : XT) (x : X1) : Nat → Nat → Env → List D → Rs (List D)
  | 0, _, _, _ => .no
  | n + 1, i, r, acc => match r[j]? with
    | some (some (.l _ xs)) => match xs[i]? with
      | none => .ok acc r
      | some d => match g d r with
        | none => .no
        | some r1 => (t r1).bind fun b r2 => if b = true then (x r2).bind fun u r3 => match u with
            | .d y => if acc.length < 100000 then compL vs j g t x n (i + 1) (wipeE r3 vs) (acc ++ [y]) else .no
            | _ => .no
          else compL vs j g t x n (i + 1) (wipeE r2 vs) acc
    | _ => .no
def xLcL (ar : Nat) (vs : List Nat) (j : Nat) (g : XG) (t : XT) (x : X1) : X1 := fun r => match r[j]? with
  | some (some (.l _ _)) => if vs.all (fun i => !ownB r i) = true ∧ vs.contains j = false then match compL vs j g t x 100000 0 (wipeE r vs) [] with
      | .ok ys r2 => .ok (.n (.l true ys)) (restE r vs r2)
      | _ => .no
    else .no
  | _ => xLc vs (xIt (xFz ar (xVar j))) g t x r
theorem wipe_eq : ∀ {vs : List Nat} {s1 s2 : St}, s1.length = s2.length → (∀ i, i ∉ vs → s1[i]? = s2[i]?) → wipe s1 vs = wipe s2 vs := by
  intro vs s1 s2 hl h
  apply List.ext_getElem?
  intro i
  by_cases hi : i ∈ vs
  · have key : ∀ (s : St), (wipe s vs)[i]? = if i < s.length then some none else none := by
      intro s
      by_cases hlt : i < s.length
      · rw [if_pos hlt]
        cases e : (wipe s vs)[i]? with
        | none =>
          rw [List.getElem?_eq_none_iff, wipe_length] at e
          omega
        | some o =>
          cases o with
          | none => rfl
          | some x => exact absurd hi (wipe_some e).2
      · rw [if_neg hlt, List.getElem?_eq_none]
        rw [wipe_length]
        omega
    rw [key, key, hl]
  · rw [wipe_out hi, wipe_out hi]
    exact h i hi
theorem ownB_wiped {r : Env} {vs : List Nat} {j : Nat} (hj : j ∈ vs) : ownB (wipeE r vs) j = false := by
  unfold ownB
  split
  · rename_i a e
    exact absurd e (wipeE_in hj)
  · rfl
section
variable {K : PySem.W.Frag} {O : OR} {F H F1 H1 : Hp} {fp fp1 : Fp} {rho : Env} {sg : St}
theorem R.over (ok : ORok O) (r : R K O F H rho sg fp) {p : Addr} (hF : F p = none) (hn : ∀ i, ¬ fp i p) (o : HO) : R K O F (upd H p o) rho sg fp := by
  refine ⟨fun b u e => ?_, r.len, fun i a h => ?_, r.own, r.fre, r.dis⟩
  · rw [upd_ne (ne_of_none e hF)]; exact r.sub _ _ e
  · obtain ⟨v, h1, h2⟩ := r.rep i a h
    exact ⟨v, h1, h2.mono ok (Same.refl F) fun b z => upd_ne (show b ≠ p from fun e => hn i (by rw [← e]; exact z))⟩
theorem Stp.over (s : Stp F1 H1 fp1 F H fp) {p : Addr} (hp : H1 p = none) (o : HO) : Stp F1 H1 fp1 F (upd H p o) fp where
  grow := s.grow
  new := s.new
  frame := fun b u h k => by rw [upd_ne (ne_of_none h hp)]; exact s.frame b u h k
  fps := s.fps
  stay := fun b h => by
    rw [upd_at]
    split
    · exact fun z => nomatch z
    · exact s.stay b h
theorem R.wiped (r : R K O F H rho sg fp) (vs : List Nat) (h : ∀ i ∈ vs, ownB rho i = false) : R K O F H (wipeE rho vs) (wipe sg vs) fp := by
  have hn : ∀ i b, fp i b → i ∉ vs := fun i b z hi => by
    obtain ⟨a, h1, h2⟩ := r.own i b z
    have := h i hi
    unfold ownB at this
    rw [h1] at this
    simp only at this
    rw [h2] at this
    cases this
  refine ⟨r.sub, by rw [wipeE_length, wipe_length]; exact r.len, fun i a e => ?_, fun i b z => ?_, r.fre, r.dis⟩
  · by_cases hi : i ∈ vs
    · exact absurd e (wipeE_in hi)
    · rw [wipeE_out hi] at e
      rw [wipe_out hi]
      exact r.rep i a e
  · rw [wipeE_out (hn i b z)]
    exact r.own i b z
theorem R.rewiped (r : R K O F H rho sg fp) (vs : List Nat) (hfp : ∀ i ∈ vs, ∀ b, ¬ fp i b) {sg' : St} (e : wipe sg vs = wipe sg' vs) (hl : sg.length = sg'.length) : R K O F H (wipeE rho vs) (wipe sg' vs) fp := by
  rw [← e]
  refine ⟨r.sub, by rw [wipeE_length, wipe_length]; exact r.len, fun i a e => ?_, fun i b z => ?_, r.fre, r.dis⟩
  · by_cases hi : i ∈ vs
    · exact absurd e (wipeE_in hi)
    · rw [wipeE_out hi] at e
      rw [wipe_out hi]
      exact r.rep i a e
  · by_cases hi : i ∈ vs
    · exact (hfp i hi b z).elim
    · rw [wipeE_out hi]
      exact r.own i b z
end
section
variable {K : PySem.W.Frag} {O : OR} {X : Cx} {W : WX}
abbrev W0 : WX := fun _ _ _ _ => False
theorem lc_run (ok : ORok O) {vs : List Nat} {g : XG} {t : XT} {x : X1} {F1 H1 : Hp} {fp1 : Fp} {r1 : Env} {sg : St} {J : It} {ds : List D} {ar : Nat} {ys : List D} {r2 : Env} {Q : VK} (q1 : R K O F1 H1 r1 sg fp1) (hw : Wk K J F1 ds) (hv : ∀ i ∈ vs, ownB r1 i = false)
    (er : compD vs g t x ds (wipeE r1 vs) [] = .ok ys r2)
    (k : ∀ F' H' fp' v, Stp F1 H1 fp1 F' H' fp' → R K O F' H' (restE r1 vs r2) sg fp' → RepR K O H1 F' H' fp' sg v (.n (.l true ys)) → Q v H') (hg2 : ∀ d r r', g d r = some r' → ∀ i, ownB r' i = true → ownB r i = true) (ht2 : ∀ r b r', t r = .ok b r' → ∀ i, ownB r' i = true → ownB r i = true) (hx2 : ∀ r u r', x r = .ok u r' → ∀ i, ownB r' i = true → ownB r i = true) :
    ∀ Dl, H1 Dl = none → ∃ Wi : Nat → Nat → Hp → Prop, (∃ m, Wi 0 m (upd H1 Dl (.lst []))) ∧ ∀ i m H, Wi i m H →
      (J.stop i H ∧ Q (.ref Dl) H) ∨ (J.go i H ∧ ∃ Nx : Hp → Prop, (∀ H', Nx H' → ∃ m', m' < m ∧ Wi (i + 1) m' H') ∧ ∀ y H', J.yld i H y H' →
        (∃ d rho rho', g d rho = some rho' ∧ tEvG K O ar vs d rho rho' y (wipe sg vs) H' fun σ2 H2 => wipe σ2 vs = wipe sg vs ∧ (∃ rho, tEvT K O W0 rho (t rho) σ2 H2 fun b H3 =>
          if b = true then (∃ rho, tEv K O W0 rho (x rho) σ2 H3 fun z H4 => ∃ acc, H4 Dl = some (.lst acc) ∧ acc.length < sizeLine ∧ Nx (upd H4 Dl (.lst (acc ++ [z])))) else Nx H3))) := by
  intro Dl hD
  obtain ⟨q0, s0⟩ := q1.laid ok hD (.lst [])
  have hFD : F1 Dl = none := q1.sub.free hD
  have nD : ∀ i, ¬ fp1 i Dl := fun i z => by
    obtain ⟨a, h1, _⟩ := q1.own i Dl z
    obtain ⟨v, _, h2⟩ := q1.rep i a h1
    exact h2.there ok z hD
  refine ⟨fun i m H' => ∃ F' fp' r' acc accV, Stp F1 H1 fp1 F' H' fp' ∧ R K O F' H' r' (wipe sg vs) fp' ∧ H' Dl = some (.lst accV) ∧ RpA K F' acc accV ∧ F' Dl = none ∧ (∀ j, ¬ fp' j Dl) ∧ (∀ j ∈ vs, ownB r' j = false) ∧ compD vs g t x (ds.drop i) r' acc = .ok ys r2 ∧ m = ds.length - i ∧ i ≤ ds.length,
    ⟨ds.length, F1, fp1, wipeE r1 vs, [], [], s0, q0.wiped vs hv, upd_same, rfl, hFD, nD, fun j hj => ownB_wiped hj, er, rfl, Nat.zero_le _⟩, ?_⟩
  · rintro i m H' ⟨F', fp', r', acc, accV, st, rr, hDl, hacc, hF', hn', hvs', ec, rfl, hi⟩
    by_cases hlt : i < ds.length
    · -- a turn
      obtain ⟨d, hd⟩ : ∃ d, ds[i]? = some d := ⟨ds[i], by simp [hlt]⟩
      have edrop : ds.drop i = d :: ds.drop (i + 1) := by
        rw [List.drop_eq_getElem_cons hlt]
        congr 1
        rw [List.getElem?_eq_getElem hlt] at hd
        exact Option.some.inj hd
      rw [edrop] at ec
      unfold compD at ec
      cases eg : g d r' with
      | none => rw [eg] at ec; cases ec
      | some ra =>
        rw [eg] at ec
        simp only at ec
        cases et : t ra with
        | no => rw [et] at ec; cases ec
        | ex e1 e2 => rw [et] at ec; cases ec
        | ok b rb =>
          rw [et] at ec
          simp only [Rs.bind] at ec
          refine .inr ⟨hw.go i H' (st.grow.trans rr.sub) hlt, fun H' => ∃ F' fp' r' acc accV, Stp F1 H1 fp1 F' H' fp' ∧ R K O F' H' r' (wipe sg vs) fp' ∧ H' Dl = some (.lst accV) ∧ RpA K F' acc accV ∧ F' Dl = none ∧ (∀ j, ¬ fp' j Dl) ∧ (∀ j ∈ vs, ownB r' j = false) ∧ compD vs g t x (ds.drop (i + 1)) r' acc = .ok ys r2,
            fun H2 ⟨F2, fp2, r2', acc2, accV2, h1, h2, h3, h4, h5, h6, h7, h8⟩ => ⟨ds.length - (i + 1), by omega, F2, fp2, r2', acc2, accV2, h1, h2, h3, h4, h5, h6, h7, h8, rfl, hlt⟩, fun y Hy hy => ?_⟩
          -- the item
          have item : ∃ Fy, R K O Fy Hy r' (wipe sg vs) fp' ∧ Stp F1 H1 fp1 Fy Hy fp' ∧ Rp K Fy d y ∧ Same F' Fy ∧ Hy Dl = some (.lst accV) ∧ Fy Dl = none := by
            rcases (hw.mono st.grow).yld i H' y Hy rr.sub hy d hd with ⟨rfl, h2⟩ | ⟨T, us, es, h1, rfl, rfl, rfl, h5⟩
            · exact ⟨F', rr, st, h2, Same.refl F', hDl, hF'⟩
            · obtain ⟨r3, s3⟩ := rr.frozen ok h1 (.tup us)
              have nT : Dl ≠ T := ne_of_none hDl h1
              exact ⟨_, r3, st.trans s3, ⟨T, us, rfl, upd_same, RpA.mono s3.grow _ _ h5⟩, s3.grow, by rw [upd_ne nT]; exact hDl, by rw [upd_ne nT]; exact hF'⟩
          obtain ⟨Fy, ry, sy, hdy, gy, hDy, hFy⟩ := item
          refine ⟨d, r', ra, eg, Fy, fp', ry, hdy, fun sg1 fpa qa hfa kp hsl => ?_⟩
          have hwp : wipe sg1 vs = wipe sg vs := by
            have e1 : wipe sg1 vs = wipe (wipe sg vs) vs := wipe_eq hsl.1 hsl.2
            rw [e1]
            exact wipe_eq (wipe_length sg vs) fun j hj => wipe_out hj
          have hl1 : sg1.length = sg.length := by rw [hsl.1, wipe_length]
          refine ⟨hwp, ra, ?_⟩
          rw [et]
          have sa : Stp F1 H1 fp1 Fy Hy fpa := ⟨sy.grow, sy.new, sy.frame, fun j b z => sy.fps j b (hfa j b z), sy.stay⟩
          have nDa : ∀ j, ¬ fpa j Dl := fun j z => hn' j (hfa j Dl z)
          have nva : ∀ j ∈ vs, ownB ra j = false := fun j hj => by
            cases e : ownB ra j with
            | false => rfl
            | true => have := hvs' j hj; rw [hg2 d r' ra eg j e] at this; cases this
          refine ⟨Fy, fpa, qa, fun F3 H3 fp3 s3 q3 => ?_⟩
          have hD3 : H3 Dl = some (.lst accV) := s3.frame Dl _ hDy nDa
          have hF3 : F3 Dl = none := s3.new Dl hFy (by rw [hDy]; exact fun z => nomatch z) nDa
          have n3 : ∀ j, ¬ fp3 j Dl := fun j z => by
            rcases s3.fps j Dl z with ⟨j', q⟩ | q
            · exact nDa j' q
            · rw [hDy] at q; cases q
          have nvb : ∀ j ∈ vs, ownB rb j = false := fun j hj => by
            cases e : ownB rb j with
            | false => rfl
            | true => have := nva j hj; rw [ht2 ra b rb et j e] at this; cases this
          have wp : ∀ {Fz Hz : Hp} {fpz : Fp} {rz : Env}, R K O Fz Hz rz sg1 fpz → (∀ j ∈ vs, ownB rz j = false) → R K O Fz Hz (wipeE rz vs) (wipe sg vs) fpz := fun {Fz Hz fpz rz} qz hz => by
            have h := qz.wiped vs hz
            rw [hwp] at h
            exact h
          cases b with
          | false =>
            refine iteF ?_
            rw [if_neg Bool.false_ne_true] at ec
            exact ⟨F3, fp3, wipeE rb vs, acc, accV, sa.trans s3, wp q3 nvb, hD3, RpA.mono (gy.trans s3.grow) _ _ hacc, hF3, n3, fun j hj => ownB_wiped hj, ec⟩
          | true =>
            refine iteT ⟨rb, ?_⟩
            rw [if_pos rfl] at ec
            cases ex : x rb with
            | no => rw [ex] at ec; cases ec
            | ex e1 e2 => rw [ex] at ec; cases ec
            | ok u rc =>
              rw [ex] at ec
              simp only at ec
              cases u with
              | n a => cases ec
              | v j => cases ec
              | d z0 =>
                simp only at ec
                split at ec
                · rename_i hz
                  have nvc : ∀ j ∈ vs, ownB rc j = false := fun j hj => by
                    cases e : ownB rc j with
                    | false => rfl
                    | true => have := nvb j hj; rw [hx2 rb _ rc ex j e] at this; cases this
                  refine ⟨F3, fp3, q3, fun F4 H4 fp4 z s4 q4 p4 => ?_⟩
                  have hD4 : H4 Dl = some (.lst accV) := s4.frame Dl _ hD3 n3
                  have hF4 : F4 Dl = none := s4.new Dl hF3 (by rw [hD3]; exact fun z => nomatch z) n3
                  have n4 : ∀ j, ¬ fp4 j Dl := fun j z => by
                    rcases s4.fps j Dl z with ⟨j', q⟩ | q
                    · exact n3 j' q
                    · rw [hD3] at q; cases q
                  have g4 := (gy.trans s3.grow).trans s4.grow
                  refine ⟨accV, hD4, szl (by rw [hacc.length]; exact hz), F4, fp4, wipeE rc vs, acc ++ [z0], accV ++ [z], ((sa.trans s3).trans s4).over hD _, (wp q4 nvc).over ok hF4 n4 _, upd_same, (RpA.mono g4 _ _ hacc).append (RpA.one p4), hF4, n4, fun j hj => ownB_wiped hj, ec⟩
                · cases ec
    · have ei : i = ds.length := by omega
      subst ei
      rw [List.drop_length] at ec
      cases ec
      refine .inl ⟨hw.stop _ H' (st.grow.trans rr.sub) (Nat.le_refl _), ?_⟩
      -- the slots as they were
      have back : R K O F' H' (restE r1 vs r2) sg fp' := by
        refine ⟨rr.sub, by rw [restE_length, rr.len, wipe_length], fun j a e => ?_, fun j b z => ?_, rr.fre, rr.dis⟩
        · by_cases hj : j ∈ vs
          · have hl : j < r2.length := by
              have := (List.getElem?_eq_some_iff.mp e).1
              rwa [restE_length] at this
            have hl0 : j < r1.length := by rw [rr.len, wipe_length, ← q1.len] at hl; exact hl
            rw [restE_in hl hl0 hj] at e
            obtain ⟨v, h1, h2⟩ := q1.rep j a e
            refine ⟨v, h1, ?_⟩
            have ho := hv j hj
            unfold ownB at ho
            rw [e] at ho
            simp only at ho
            cases a with
            | d y =>
              refine ⟨Rp.mono st.grow _ _ h2.1, fun b z => ?_⟩
              obtain ⟨a', h3, h4⟩ := rr.own j b z
              have := hvs' j hj
              unfold ownB at this
              rw [h3] at this
              simp only at this
              rw [h4] at this
              cases this
            | l w xs => cases ho
            | m kvs => cases ho
            | ob n s => cases ho
          · rw [restE_out hj] at e
            obtain ⟨v, h1, h2⟩ := rr.rep j a e
            rw [wipe_out hj] at h1
            exact ⟨v, h1, h2⟩
        · obtain ⟨a, h1, h2⟩ := rr.own j b z
          by_cases hj : j ∈ vs
          · have := hvs' j hj
            unfold ownB at this
            rw [h1] at this
            simp only at this
            rw [h2] at this
            cases this
          · rw [restE_out hj]
            exact ⟨a, h1, h2⟩
      exact k F' H' fp' (.ref Dl) st back ⟨fun b => b = Dl, ⟨Dl, accV, rfl, hDl, hacc, fun b => Iff.rfl⟩, rfl, fun b hb => by subst hb; exact ⟨hF', hD, hn'⟩⟩
theorem lc_runL (ok : ORok O) {vs : List Nat} {g : XG} {t : XT} {x : X1} {F1 H1 : Hp} {fp1 : Fp} {r1 : Env} {sg : St} {jj n : Nat} {a : Addr} {ar : Nat} {ys : List D} {r2 : Env} {Q : VK} (q1 : R K O F1 H1 r1 sg fp1) (hjj : sg[jj]? = some (some (.ref a))) (hjv : jj ∉ vs) (hv : ∀ i ∈ vs, ownB r1 i = false)
    (er : compL vs jj g t x n 0 (wipeE r1 vs) [] = .ok ys r2)
    (k : ∀ F' H' fp' v, Stp F1 H1 fp1 F' H' fp' → R K O F' H' (restE r1 vs r2) sg fp' → RepR K O H1 F' H' fp' sg v (.n (.l true ys)) → Q v H') (hg2 : ∀ d r r', g d r = some r' → ∀ i, ownB r' i = true → ownB r i = true) (ht2 : ∀ r b r', t r = .ok b r' → ∀ i, ownB r' i = true → ownB r i = true) (hx2 : ∀ r u r', x r = .ok u r' → ∀ i, ownB r' i = true → ownB r i = true) :
    ∀ Dl, H1 Dl = none → ∃ Wi : Nat → Nat → Hp → Prop, (∃ m, Wi 0 m (upd H1 Dl (.lst []))) ∧ ∀ i m H, Wi i m H →
      ((Itl K a).stop i H ∧ Q (.ref Dl) H) ∨ ((Itl K a).go i H ∧ ∃ Nx : Hp → Prop, (∀ H', Nx H' → ∃ m', m' < m ∧ Wi (i + 1) m' H') ∧ ∀ y H', (Itl K a).yld i H y H' →
        (∃ d rho rho', g d rho = some rho' ∧ tEvG K O ar vs d rho rho' y (wipe sg vs) H' fun σ2 H2 => wipe σ2 vs = wipe sg vs ∧ (∃ rho, tEvT K O W0 rho (t rho) σ2 H2 fun b H3 =>
          if b = true then (∃ rho, tEv K O W0 rho (x rho) σ2 H3 fun z H4 => ∃ acc, H4 Dl = some (.lst acc) ∧ acc.length < sizeLine ∧ Nx (upd H4 Dl (.lst (acc ++ [z])))) else Nx H3))) := by
  intro Dl hD
  obtain ⟨q0, s0⟩ := q1.laid ok hD (.lst [])
  have hFD : F1 Dl = none := q1.sub.free hD
  have nD : ∀ i, ¬ fp1 i Dl := fun i z => by
    obtain ⟨a, h1, _⟩ := q1.own i Dl z
    obtain ⟨v, _, h2⟩ := q1.rep i a h1
    exact h2.there ok z hD
  refine ⟨fun i m H' => ∃ F' fp' r' acc accV, Stp F1 H1 fp1 F' H' fp' ∧ R K O F' H' r' (wipe sg vs) fp' ∧ H' Dl = some (.lst accV) ∧ RpA K F' acc accV ∧ F' Dl = none ∧ (∀ j, ¬ fp' j Dl) ∧ (∀ j ∈ vs, ownB r' j = false) ∧ compL vs jj g t x m i r' acc = .ok ys r2,
    ⟨n, F1, fp1, wipeE r1 vs, [], [], s0, q0.wiped vs hv, upd_same, rfl, hFD, nD, fun j hj => ownB_wiped hj, er⟩, ?_⟩
  · rintro i m H' ⟨F', fp', r', acc, accV, st, rr, hDl, hacc, hF', hn', hvs', ec⟩
    cases m with
    | zero => cases ec
    | succ m =>
    unfold compL at ec
    split at ec
    rotate_left
    · cases ec
    rename_i w0 xs0 ej0
    obtain ⟨v1, f1, p0, vs0, rfl, f2, f3, f4⟩ := rr.rep jj _ ej0
    rw [wipe_out hjv, hjj] at f1
    cases f1
    split at ec
    rotate_left
    · -- a turn
      rename_i d hd
      obtain ⟨y0, hy0, hy1⟩ := f3.get hd
      cases eg : g d r' with
      | none => rw [eg] at ec; cases ec
      | some ra =>
        rw [eg] at ec
        simp only at ec
        cases et : t ra with
        | no => rw [et] at ec; cases ec
        | ex e1 e2 => rw [et] at ec; cases ec
        | ok b rb =>
          rw [et] at ec
          simp only [Rs.bind] at ec
          refine .inr ⟨⟨vs0, y0, SqL.of f2, hy0⟩, fun H' => ∃ F' fp' r' acc accV, Stp F1 H1 fp1 F' H' fp' ∧ R K O F' H' r' (wipe sg vs) fp' ∧ H' Dl = some (.lst accV) ∧ RpA K F' acc accV ∧ F' Dl = none ∧ (∀ j, ¬ fp' j Dl) ∧ (∀ j ∈ vs, ownB r' j = false) ∧ compL vs jj g t x m (i + 1) r' acc = .ok ys r2,
            fun H2 ⟨F2, fp2, r2', acc2, accV2, h1, h2, h3, h4, h5, h6, h7, h8⟩ => ⟨m, Nat.lt_succ_self m, F2, fp2, r2', acc2, accV2, h1, h2, h3, h4, h5, h6, h7, h8⟩, fun y Hy hy => ?_⟩
          -- the item
          have item : ∃ Fy, R K O Fy Hy r' (wipe sg vs) fp' ∧ Stp F1 H1 fp1 Fy Hy fp' ∧ Rp K Fy d y ∧ Same F' Fy ∧ Hy Dl = some (.lst accV) ∧ Fy Dl = none := by
            obtain ⟨rfl, hy⟩ := hy
            have hy := hy vs0 (SqL.of f2)
            rw [hy0] at hy
            cases hy
            exact ⟨F', rr, st, hy1, Same.refl F', hDl, hF'⟩
          obtain ⟨Fy, ry, sy, hdy, gy, hDy, hFy⟩ := item
          refine ⟨d, r', ra, eg, Fy, fp', ry, hdy, fun sg1 fpa qa hfa kp hsl => ?_⟩
          have hwp : wipe sg1 vs = wipe sg vs := by
            have e1 : wipe sg1 vs = wipe (wipe sg vs) vs := wipe_eq hsl.1 hsl.2
            rw [e1]
            exact wipe_eq (wipe_length sg vs) fun j hj => wipe_out hj
          have hl1 : sg1.length = sg.length := by rw [hsl.1, wipe_length]
          refine ⟨hwp, ra, ?_⟩
          rw [et]
          have sa : Stp F1 H1 fp1 Fy Hy fpa := ⟨sy.grow, sy.new, sy.frame, fun j b z => sy.fps j b (hfa j b z), sy.stay⟩
          have nDa : ∀ j, ¬ fpa j Dl := fun j z => hn' j (hfa j Dl z)
          have nva : ∀ j ∈ vs, ownB ra j = false := fun j hj => by
            cases e : ownB ra j with
            | false => rfl
            | true => have := hvs' j hj; rw [hg2 d r' ra eg j e] at this; cases this
          refine ⟨Fy, fpa, qa, fun F3 H3 fp3 s3 q3 => ?_⟩
          have hD3 : H3 Dl = some (.lst accV) := s3.frame Dl _ hDy nDa
          have hF3 : F3 Dl = none := s3.new Dl hFy (by rw [hDy]; exact fun z => nomatch z) nDa
          have n3 : ∀ j, ¬ fp3 j Dl := fun j z => by
            rcases s3.fps j Dl z with ⟨j', q⟩ | q
            · exact nDa j' q
            · rw [hDy] at q; cases q
          have nvb : ∀ j ∈ vs, ownB rb j = false := fun j hj => by
            cases e : ownB rb j with
            | false => rfl
            | true => have := nva j hj; rw [ht2 ra b rb et j e] at this; cases this
          have wp : ∀ {Fz Hz : Hp} {fpz : Fp} {rz : Env}, R K O Fz Hz rz sg1 fpz → (∀ j ∈ vs, ownB rz j = false) → R K O Fz Hz (wipeE rz vs) (wipe sg vs) fpz := fun {Fz Hz fpz rz} qz hz => by
            have h := qz.wiped vs hz
            rw [hwp] at h
            exact h
          cases b with
          | false =>
            refine iteF ?_
            rw [if_neg Bool.false_ne_true] at ec
            exact ⟨F3, fp3, wipeE rb vs, acc, accV, sa.trans s3, wp q3 nvb, hD3, RpA.mono (gy.trans s3.grow) _ _ hacc, hF3, n3, fun j hj => ownB_wiped hj, ec⟩
          | true =>
            refine iteT ⟨rb, ?_⟩
            rw [if_pos rfl] at ec
            cases ex : x rb with
            | no => rw [ex] at ec; cases ec
            | ex e1 e2 => rw [ex] at ec; cases ec
            | ok u rc =>
              rw [ex] at ec
              simp only at ec
              cases u with
              | n a => cases ec
              | v j => cases ec
              | d z0 =>
                simp only at ec
                split at ec
                · rename_i hz
                  have nvc : ∀ j ∈ vs, ownB rc j = false := fun j hj => by
                    cases e : ownB rc j with
                    | false => rfl
                    | true => have := nvb j hj; rw [hx2 rb _ rc ex j e] at this; cases this
                  refine ⟨F3, fp3, q3, fun F4 H4 fp4 z s4 q4 p4 => ?_⟩
                  have hD4 : H4 Dl = some (.lst accV) := s4.frame Dl _ hD3 n3
                  have hF4 : F4 Dl = none := s4.new Dl hF3 (by rw [hD3]; exact fun z => nomatch z) n3
                  have n4 : ∀ j, ¬ fp4 j Dl := fun j z => by
                    rcases s4.fps j Dl z with ⟨j', q⟩ | q
                    · exact n3 j' q
                    · rw [hD3] at q; cases q
                  have g4 := (gy.trans s3.grow).trans s4.grow
                  refine ⟨accV, hD4, szl (by rw [hacc.length]; exact hz), F4, fp4, wipeE rc vs, acc ++ [z0], accV ++ [z], ((sa.trans s3).trans s4).over hD _, (wp q4 nvc).over ok hF4 n4 _, upd_same, (RpA.mono g4 _ _ hacc).append (RpA.one p4), hF4, n4, fun j hj => ownB_wiped hj, ec⟩
                · cases ec
    · rename_i hnone
      cases ec
      refine .inl ⟨⟨vs0, SqL.of f2, by rw [f3.length]; exact List.getElem?_eq_none_iff.mp hnone⟩, ?_⟩
      -- the slots as they were
      have back : R K O F' H' (restE r1 vs r2) sg fp' := by
        refine ⟨rr.sub, by rw [restE_length, rr.len, wipe_length], fun j a e => ?_, fun j b z => ?_, rr.fre, rr.dis⟩
        · by_cases hj : j ∈ vs
          · have hl : j < r2.length := by
              have := (List.getElem?_eq_some_iff.mp e).1
              rwa [restE_length] at this
            have hl0 : j < r1.length := by rw [rr.len, wipe_length, ← q1.len] at hl; exact hl
            rw [restE_in hl hl0 hj] at e
            obtain ⟨v, h1, h2⟩ := q1.rep j a e
            refine ⟨v, h1, ?_⟩
            have ho := hv j hj
            unfold ownB at ho
            rw [e] at ho
            simp only at ho
            cases a with
            | d y =>
              refine ⟨Rp.mono st.grow _ _ h2.1, fun b z => ?_⟩
              obtain ⟨a', h3, h4⟩ := rr.own j b z
              have := hvs' j hj
              unfold ownB at this
              rw [h3] at this
              simp only at this
              rw [h4] at this
              cases this
            | l w xs => cases ho
            | m kvs => cases ho
            | ob n s => cases ho
          · rw [restE_out hj] at e
            obtain ⟨v, h1, h2⟩ := rr.rep j a e
            rw [wipe_out hj] at h1
            exact ⟨v, h1, h2⟩
        · obtain ⟨a, h1, h2⟩ := rr.own j b z
          by_cases hj : j ∈ vs
          · have := hvs' j hj
            unfold ownB at this
            rw [h1] at this
            simp only at this
            rw [h2] at this
            cases this
          · rw [restE_out hj]
            exact ⟨a, h1, h2⟩
      exact k F' H' fp' (.ref Dl) st back ⟨fun b => b = Dl, ⟨Dl, accV, rfl, hDl, hacc, fun b => Iff.rfl⟩, rfl, fun b hb => by subst hb; exact ⟨hF', hD, hn'⟩⟩
/-- the block of a comprehension: what it knows -/
theorem ok_lcP (P : TE → Prop) (imp : ∀ t t' : TE, P t → (∀ sg H Q, t' sg H Q → t sg H Q) → P t') (no : P tF) (ok : ORok O) {vs : List Nat} {it : XI} {g : XG} {t : XT} {x : X1} {ar : Nat} {elt tg iter : Expr} {ifs : List Expr} {scope : Scope} {own : List (Str × Nat)} (hvs : own.map (·.2) = vs) (hc : X.calm = true) (hN : X.N.Nodup) (hi : OkI K O X W it tg iter) (bo : BlkOk X.N X.env.scope scope own)
    (hg : ∀ (s : Shared) (H : Hp) (C : Addr) (cl : List (Str × Addr)) (fp : List Addr), OkG K O ar vs (X.blk s H scope (compEnvC scope cl C X.env) fp) g tg)
    (ht : ∀ (s : Shared) (H : Hp) (C : Addr) (cl : List (Str × Addr)) (fp : List Addr) rho, PTs (X.blk s H scope (compEnvC scope cl C X.env) fp) ifs (tEvT K O W0 rho (t rho)))
    (he : ∀ (s : Shared) (H : Hp) (C : Addr) (cl : List (Str × Addr)) (fp : List Addr), OkE K O (X.blk s H scope (compEnvC scope cl C X.env) fp) W0 x elt) (hs : ∀ x, foldedSetIterable iter X.env x = pure x)
    (hg2 : ∀ d r r', g d r = some r' → ∀ i, ownB r' i = true → ownB r i = true) (ht2 : ∀ r b r', t r = .ok b r' → ∀ i, ownB r' i = true → ownB r i = true) (hr : ∀ wi g tt te, PI X tg iter wi → BlkOk X.N X.env.scope scope own → (∀ (s : Shared) (H : Hp) (C : Addr) (cl : List (Str × Addr)) (fp : List Addr), PG (X.blk s H scope (compEnvC scope cl C X.env) fp) tg g) → (∀ (s : Shared) (H : Hp) (C : Addr) (cl : List (Str × Addr)) (fp : List Addr), PTs (X.blk s H scope (compEnvC scope cl C X.env) fp) ifs tt) → (∀ (s : Shared) (H : Hp) (C : Addr) (cl : List (Str × Addr)) (fp : List Addr), PE (X.blk s H scope (compEnvC scope cl C X.env) fp) elt te) → P (tLc wi g tt te (own.map (·.2)))) (hx2 : ∀ r u r', x r = .ok u r' → ∀ i, ownB r' i = true → ownB r i = true) : ∀ rho, P (tEv K O W rho (xLc vs it g t x rho)) := fun rho => by
  have no' : ∀ {rho}, P (tEv K O W rho .no) := imp _ _ no fun sg H Q q => by obtain ⟨F, fp, r, q⟩ := q; exact (show False from q).elim
  have k := hi rho
  let gg : TG := fun y sg H Q => ∃ d rho rho', g d rho = some rho' ∧ tEvG K O ar vs d rho rho' y sg H Q
  let tt : TT := fun sg H Q => ∃ rho, tEvT K O W0 rho (t rho) sg H Q
  let te : TE := fun sg H Q => ∃ rho, tEv K O W0 rho (x rho) sg H Q
  have pg : ∀ (s : Shared) (H : Hp) (C : Addr) (cl : List (Str × Addr)) (fp : List Addr), PG (X.blk s H scope (compEnvC scope cl C X.env) fp) tg gg := fun s H C cl fp => ⟨fun pins s' sg H' v u Q I r q => by
    obtain ⟨d, r0, r1, e, q⟩ := q
    exact ((hg s H C cl fp).1 d r0 r1 e).run pins s' sg H' v u Q I r q⟩
  have pt : ∀ (s : Shared) (H : Hp) (C : Addr) (cl : List (Str × Addr)) (fp : List Addr), PTs (X.blk s H scope (compEnvC scope cl C X.env) fp) ifs tt := fun s H C cl fp => ⟨fun pins s' sg H' Q I q => by
    obtain ⟨r0, q⟩ := q
    exact (ht s H C cl fp r0).run pins s' sg H' Q I q⟩
  have pe : ∀ (s : Shared) (H : Hp) (C : Addr) (cl : List (Str × Addr)) (fp : List Addr), PE (X.blk s H scope (compEnvC scope cl C X.env) fp) elt te := fun s H C cl fp => ⟨fun pins s' sg H' Q I q => by
    obtain ⟨r0, q⟩ := q
    exact (he s H C cl fp r0).run pins s' sg H' Q I q⟩
  unfold xLc
  cases ei : it rho with
  | no => exact no'
  | ex y r1 =>
    rw [ei] at k
    refine imp _ _ (hr _ _ _ _ k bo pg pt pe) fun sg H Q q => ?_
    obtain ⟨F, fp, r, q⟩ := q
    exact ⟨F, fp, r, q⟩
  | ok ds r1 =>
    rw [ei] at k
    simp only [Rs.bind]
    split
    · rename_i hv
      have hv' : ∀ i ∈ vs, ownB r1 i = false := fun i hi => by
        have := List.all_eq_true.mp hv i hi
        simpa using this
      cases ec : compD vs g t x ds (wipeE r1 vs) [] with
      | no => exact no'
      | ex e1 e2 => exact no'
      | ok ys r2 =>
        refine imp _ _ (hr _ _ _ _ k bo pg pt pe) fun sg H Q q => ?_
        obtain ⟨F, fp, r, q⟩ := q
        refine ⟨F, fp, r, fun F1 H1 fp1 J s1 q1 hw => ?_⟩
        rw [hvs]
        exact lc_run (ar := ar) ok q1 hw hv' ec (fun F2 H2 fp2 v s2 q2 p2 => q F2 H2 fp2 v (s1.trans s2) q2 (p2.back s1.stay)) hg2 ht2 hx2
    · exact no'
theorem ok_lcLP (P : TE → Prop) (imp : ∀ t t' : TE, P t → (∀ sg H Q, t' sg H Q → t sg H Q) → P t') (no : P tF) (ok : ORok O) (hK : X.K = K) {vs : List Nat} {j : Nat} {g : XG} {t : XT} {x : X1} {ar : Nat} {elt tg iter : Expr} {ifs : List Expr} {scope : Scope} {own : List (Str × Nat)} (hvs : own.map (·.2) = vs) (hc : X.calm = true) (hN : X.N.Nodup) (hv0 : PE X iter (tVar j)) (bo : BlkOk X.N X.env.scope scope own)
    (hg : ∀ (s : Shared) (H : Hp) (C : Addr) (cl : List (Str × Addr)) (fp : List Addr), OkG K O ar vs (X.blk s H scope (compEnvC scope cl C X.env) fp) g tg)
    (ht : ∀ (s : Shared) (H : Hp) (C : Addr) (cl : List (Str × Addr)) (fp : List Addr) rho, PTs (X.blk s H scope (compEnvC scope cl C X.env) fp) ifs (tEvT K O W0 rho (t rho)))
    (he : ∀ (s : Shared) (H : Hp) (C : Addr) (cl : List (Str × Addr)) (fp : List Addr), OkE K O (X.blk s H scope (compEnvC scope cl C X.env) fp) W0 x elt) (hs : ∀ x, foldedSetIterable iter X.env x = pure x)
    (hg2 : ∀ d r r', g d r = some r' → ∀ i, ownB r' i = true → ownB r i = true) (ht2 : ∀ r b r', t r = .ok b r' → ∀ i, ownB r' i = true → ownB r i = true) (hr : ∀ wi g tt te, PI X tg iter wi → BlkOk X.N X.env.scope scope own → (∀ (s : Shared) (H : Hp) (C : Addr) (cl : List (Str × Addr)) (fp : List Addr), PG (X.blk s H scope (compEnvC scope cl C X.env) fp) tg g) → (∀ (s : Shared) (H : Hp) (C : Addr) (cl : List (Str × Addr)) (fp : List Addr), PTs (X.blk s H scope (compEnvC scope cl C X.env) fp) ifs tt) → (∀ (s : Shared) (H : Hp) (C : Addr) (cl : List (Str × Addr)) (fp : List Addr), PE (X.blk s H scope (compEnvC scope cl C X.env) fp) elt te) → P (tLc wi g tt te (own.map (·.2)))) (hx2 : ∀ r u r', x r = .ok u r' → ∀ i, ownB r' i = true → ownB r i = true) : ∀ rho, P (tEv K O W rho (xLcL ar vs j g t x rho)) := fun rho => by
  have no' : ∀ {rho}, P (tEv K O W rho .no) := imp _ _ no fun sg H Q q => by obtain ⟨F, fp, r, q⟩ := q; exact (show False from q).elim
  have std := ok_lcP (K := K) (O := O) (W := W) P imp no ok hvs hc hN (okI_seq (tg := tg) ok hK (ok_fz (ar := ar) ok (ok_var (K := K) (O := O) (W := W) hv0))) bo hg ht he hs hg2 ht2 hr hx2
  let gg : TG := fun y sg H Q => ∃ d rho rho', g d rho = some rho' ∧ tEvG K O ar vs d rho rho' y sg H Q
  let tt : TT := fun sg H Q => ∃ rho, tEvT K O W0 rho (t rho) sg H Q
  let te : TE := fun sg H Q => ∃ rho, tEv K O W0 rho (x rho) sg H Q
  have pg : ∀ (s : Shared) (H : Hp) (C : Addr) (cl : List (Str × Addr)) (fp : List Addr), PG (X.blk s H scope (compEnvC scope cl C X.env) fp) tg gg := fun s H C cl fp => ⟨fun pins s' sg H' v u Q I r q => by
    obtain ⟨d, r0, r1, e, q⟩ := q
    exact ((hg s H C cl fp).1 d r0 r1 e).run pins s' sg H' v u Q I r q⟩
  have pt : ∀ (s : Shared) (H : Hp) (C : Addr) (cl : List (Str × Addr)) (fp : List Addr), PTs (X.blk s H scope (compEnvC scope cl C X.env) fp) ifs tt := fun s H C cl fp => ⟨fun pins s' sg H' Q I q => by
    obtain ⟨r0, q⟩ := q
    exact (ht s H C cl fp r0).run pins s' sg H' Q I q⟩
  have pe : ∀ (s : Shared) (H : Hp) (C : Addr) (cl : List (Str × Addr)) (fp : List Addr), PE (X.blk s H scope (compEnvC scope cl C X.env) fp) elt te := fun s H C cl fp => ⟨fun pins s' sg H' Q I q => by
    obtain ⟨r0, q⟩ := q
    exact (he s H C cl fp r0).run pins s' sg H' Q I q⟩
  unfold xLcL
  split
  · rename_i w xs ej
    split
    · rename_i hv
      have hv' : ∀ i ∈ vs, ownB rho i = false := fun i hi => by
        have := List.all_eq_true.mp hv.1 i hi
        simpa using this
      have hjv : j ∉ vs := fun z => by
        have h2 := hv.2
        rw [List.contains_iff_mem.mpr z] at h2
        cases h2
      cases ec : compL vs j g t x 100000 0 (wipeE rho vs) [] with
      | no => exact no'
      | ex e1 e2 => exact no'
      | ok ys r2 =>
        refine imp _ _ (hr _ _ _ _ (pi_list hv0) bo pg pt pe) fun sg H Q q => ?_
        obtain ⟨F, fp, r, q⟩ := q
        obtain ⟨v0, e1, a, vs0, rfl, e2, e3, e4⟩ := r.rep j _ ej
        refine ⟨.ref a, e1, a, rfl, ⟨vs0, SqL.of e2⟩, ?_⟩
        rw [hvs, hK]
        exact lc_runL (ar := ar) ok r e1 hjv hv' ec (fun F2 H2 fp2 v s2 q2 p2 => q F2 H2 fp2 v s2 q2 p2) hg2 ht2 hx2
    · exact no'
  · exact std rho
theorem ok_lc (ok : ORok O) {vs : List Nat} {it : XI} {g : XG} {t : XT} {x : X1} {ar : Nat} {elt tg iter : Expr} {ifs : List Expr} {scope : Scope} {own : List (Str × Nat)} {pos : Pos} (hvs : own.map (·.2) = vs) (hc : X.calm = true) (hN : X.N.Nodup) (hi : OkI K O X W it tg iter) (bo : BlkOk X.N X.env.scope scope own)
    (hg : ∀ (s : Shared) (H : Hp) (C : Addr) (cl : List (Str × Addr)) (fp : List Addr), OkG K O ar vs (X.blk s H scope (compEnvC scope cl C X.env) fp) g tg)
    (ht : ∀ (s : Shared) (H : Hp) (C : Addr) (cl : List (Str × Addr)) (fp : List Addr) rho, PTs (X.blk s H scope (compEnvC scope cl C X.env) fp) ifs (tEvT K O W0 rho (t rho)))
    (he : ∀ (s : Shared) (H : Hp) (C : Addr) (cl : List (Str × Addr)) (fp : List Addr), OkE K O (X.blk s H scope (compEnvC scope cl C X.env) fp) W0 x elt) (hs : ∀ x, foldedSetIterable iter X.env x = pure x)
    (hg2 : ∀ d r r', g d r = some r' → ∀ i, ownB r' i = true → ownB r i = true) (ht2 : ∀ r b r', t r = .ok b r' → ∀ i, ownB r' i = true → ownB r i = true) (hx2 : ∀ r u r', x r = .ok u r' → ∀ i, ownB r' i = true → ownB r i = true) : OkE K O X W (xLc vs it g t x) (.ListComp elt [⟨tg, iter, ifs, 0⟩] scope pos) := ok_lcP (fun t => PE X _ t) (fun t t' h i => PEimp h i) pe_F ok hvs hc hN hi bo hg ht he hs hg2 ht2 (fun wi g tt te k bo pg pt pe => pe_lc hc hN k bo pg pt pe hs) hx2
end
end Sn
namespace Sn
open PySem L2
/-! ### which slots own something: an expression makes no new owner, and takes nothing from a parameter -/
def Kr (ar : Nat) (r r' : Env) : Prop := (∀ i, i < ar → ownB r i = true → ownB r' i = true) ∧ ∀ i, ownB r' i = true → ownB r i = true
theorem Kr.refl (ar : Nat) (r : Env) : Kr ar r r := ⟨fun _ _ h => h, fun _ h => h⟩
theorem Kr.trans {ar : Nat} {a b c : Env} (h : Kr ar a b) (k : Kr ar b c) : Kr ar a c := ⟨fun i hi ho => k.1 i hi (h.1 i hi ho), fun i ho => h.2 i (k.2 i ho)⟩
def Kp {α : Type} (ar : Nat) (r : Env) : Rs α → Prop
  | .ok _ r' => Kr ar r r'
  | .ex _ r' => Kr ar r r'
  | .no => True
abbrev KpF {α : Type} (ar : Nat) (x : Env → Rs α) : Prop := ∀ r, Kp ar r (x r)
section
variable {ar : Nat}
theorem Kp.bind {α β : Type} {r : Env} {m : Rs α} {f : α → Env → Rs β} (h : Kp ar r m) (k : ∀ a r', Kp ar r' (f a r')) : Kp ar r (m.bind f) := by
  cases m with
  | no => exact True.intro
  | ex x r' => exact h
  | ok a r' =>
    have q := k a r'
    show Kp ar r (f a r')
    cases e : f a r' with
    | no => exact True.intro
    | ex x r2 => rw [e] at q; exact Kr.trans h q
    | ok b r2 => rw [e] at q; exact Kr.trans h q
theorem kr_ok {α : Type} {r : Env} (a : α) : Kp ar r (.ok a r) := Kr.refl ar r
theorem kp_no : KpF ar xNo := fun _ => True.intro
theorem kp_tno : KpF ar xtNo := fun _ => True.intro
theorem kp_D {d : D} : KpF ar (xD d) := fun r => Kr.refl ar r
theorem kp_var {i : Nat} : KpF ar (xVar i) := fun r => by
  unfold xVar
  split <;> first | exact Kr.refl ar r | exact True.intro
theorem kp_2 {f : A → A → Option Rv} {a b : X1} (ha : KpF ar a) (hb : KpF ar b) : KpF ar (x2 f a b) := fun r => Kp.bind (ha r) fun u r1 => Kp.bind (hb r1) fun w r2 => by
  split
  · split <;> first | exact Kr.refl ar r2 | exact True.intro
  · exact True.intro
theorem kr_set_own {r : Env} {i : Nat} {a : A} (h : ownB r i = true) (ha : a.own = true) : Kr ar r (r.set i (some a)) := by
  have hlt : i < r.length := by
    unfold ownB at h
    split at h
    · rename_i b e
      exact (List.getElem?_eq_some_iff.mp e).1
    · cases h
  have e : ∀ j, ownB (r.set i (some a)) j = ownB r j := fun j => by
    by_cases hj : i = j
    · subst hj
      rw [h]
      unfold ownB
      rw [List.getElem?_set_self hlt]
      exact ha
    · exact ownB_set hj
  exact ⟨fun j _ ho => by rw [e]; exact ho, fun j ho => by rw [e] at ho; exact ho⟩
theorem kr_set_d {r : Env} {i : Nat} {d : D} (h : ar ≤ i) : Kr ar r (r.set i (some (.d d))) := by
  refine ⟨fun j hj ho => by rw [ownB_set (by omega)]; exact ho, fun j ho => ?_⟩
  by_cases hj : i = j
  · subst hj
    unfold ownB at ho
    by_cases hl : i < r.length
    · rw [List.getElem?_set_self hl] at ho; cases ho
    · rw [List.getElem?_eq_none (by simpa using hl)] at ho; cases ho
  · rw [ownB_set hj] at ho; exact ho
theorem kr_toD {u : Rv} {r r' : Env} {d : D} (h : toD ar u r = some (d, r')) : Kr ar r r' := by
  unfold toD at h
  split at h
  · cases h; exact Kr.refl ar r
  · cases h; exact Kr.refl ar r
  · cases h; exact Kr.refl ar r
  · cases h
  · split at h
    · rename_i hi
      split at h
      · cases h; exact Kr.refl ar r
      · cases h; exact kr_set_d hi
      · cases h; exact kr_set_d hi
      · cases h
    · cases h
theorem kp_fz {x : X1} (h : KpF ar x) : KpF ar (xFz ar x) := fun r => Kp.bind (h r) fun u r1 => by
  split
  · rename_i d r2 e
    exact kr_toD e
  · exact True.intro
theorem kp_ar {x : X1} (h : KpF ar x) : KpF ar (xAr ar x) := h
theorem kp_tB {x : X1} (h : KpF ar x) : KpF ar (xtB x) := fun r => Kp.bind (h r) fun u r1 => by
  split <;> first | exact Kr.refl ar r1 | exact True.intro
theorem kp_tT {x : X1} (h : KpF ar x) : KpF ar (xtT x) := fun r => Kp.bind (h r) fun u r1 => by
  split
  · split <;> first | exact Kr.refl ar r1 | exact True.intro
  · exact True.intro
theorem kp_tNot {x : XT} (h : KpF ar x) : KpF ar (xtNot x) := fun r => Kp.bind (h r) fun u r1 => Kr.refl ar r1
theorem kp_tAnd {a b : XT} (ha : KpF ar a) (hb : KpF ar b) : KpF ar (xtAnd a b) := fun r => Kp.bind (ha r) fun u r1 => by
  split <;> first | exact hb r1 | exact Kr.refl ar r1
theorem kp_tOr {a b : XT} (ha : KpF ar a) (hb : KpF ar b) : KpF ar (xtOr a b) := fun r => Kp.bind (ha r) fun u r1 => by
  split <;> first | exact hb r1 | exact Kr.refl ar r1
theorem kp_And {a b : X1} (ha : KpF ar a) (hb : KpF ar b) : KpF ar (xAnd a b) := fun r => Kp.bind (ha r) fun u r1 => by
  split <;> first | exact hb r1 | exact Kr.refl ar r1 | exact True.intro
theorem kp_Or {a b : X1} (ha : KpF ar a) (hb : KpF ar b) : KpF ar (xOr a b) := fun r => Kp.bind (ha r) fun u r1 => by
  split <;> first | exact hb r1 | exact Kr.refl ar r1 | exact True.intro
theorem kp_Not {a : X1} (ha : KpF ar a) : KpF ar (xNot a) := fun r => Kp.bind (ha r) fun u r1 => by
  split <;> first | exact Kr.refl ar r1 | exact True.intro
theorem kp_Neg {a : X1} (ha : KpF ar a) : KpF ar (xNeg a) := fun r => Kp.bind (ha r) fun u r1 => by
  split <;> first | exact Kr.refl ar r1 | exact True.intro
theorem kp_If {t : XT} {a b : X1} (ht : KpF ar t) (ha : KpF ar a) (hb : KpF ar b) : KpF ar (xIf t a b) := fun r => Kp.bind (ht r) fun u r1 => by
  split
  · exact ha r1
  · exact hb r1
theorem kp_aNil : KpF ar xaNil := fun r => Kr.refl ar r
theorem kp_aCons {x : X1} {xs : XA} (h : KpF ar x) (hs : KpF ar xs) : KpF ar (xaCons x xs) := fun r => Kp.bind (h r) fun u r1 => Kp.bind (hs r1) fun us r2 => Kr.refl ar r2
theorem kp_Tup {xs : XA} (h : KpF ar xs) : KpF ar (xTup xs) := fun r => Kp.bind (h r) fun u r1 => by
  split
  · split <;> first | exact Kr.refl ar r1 | exact True.intro
  · exact True.intro
theorem kp_Lst {xs : XA} (h : KpF ar xs) : KpF ar (xLst xs) := fun r => Kp.bind (h r) fun u r1 => by
  split
  · split <;> first | exact Kr.refl ar r1 | exact True.intro
  · exact True.intro
theorem kp_Dic0 : KpF ar xDic0 := fun r => Kr.refl ar r
theorem kp_CB {f : List A → Option Rv} {xs : XA} (h : KpF ar xs) : KpF ar (xCB f xs) := fun r => Kp.bind (h r) fun u r1 => by
  split
  · split <;> first | exact Kr.refl ar r1 | exact True.intro
  · exact True.intro
theorem kp_Part {x : Option X1} (h : ∀ y, x = some y → KpF ar y) : KpF ar (xPart x) := by
  cases x with
  | none => exact fun r => Kr.refl ar r
  | some y =>
    intro r
    refine Kp.bind (m := y r) (h y rfl r) fun u r1 => ?_
    split <;> first | exact Kr.refl ar r1 | exact True.intro
theorem kp_Sl {a : X1} {lo hi : Option X1} (ha : KpF ar a) (hl : ∀ y, lo = some y → KpF ar y) (hh : ∀ y, hi = some y → KpF ar y) : KpF ar (xSl a lo hi) := fun r => Kp.bind (ha r) fun u r1 => Kp.bind (kp_Part hl r1) fun l r2 => Kp.bind (kp_Part hh r2) fun h r3 => by
  split
  · split <;> first | exact Kr.refl ar r3 | exact True.intro
  · exact True.intro
theorem kr_back : ∀ {us : List Rv} {as r r2 : Env}, backOf us as r = some r2 → (∀ i ∈ slotsOf us, ownB r i = true) → Kr ar r r2
  | [], as, r, r2, e, _ => by cases e; exact Kr.refl ar r
  | u :: us, as, r, r2, e, h => by
    cases u with
    | d x =>
      cases as with
      | nil => cases e
      | cons a as => exact kr_back (us := us) (show backOf us as r = some r2 from e) h
    | n b =>
      cases as with
      | nil => cases e
      | cons a as => exact kr_back (us := us) (show backOf us as r = some r2 from e) h
    | v i =>
      cases as with
      | nil => cases e
      | cons o as =>
        cases o with
        | none => cases e
        | some a =>
          unfold backOf at e
          split at e
          · rename_i ha
            have k1 : Kr ar r (r.set i (some a)) := kr_set_own (h i (List.mem_cons_self)) ha
            refine k1.trans (kr_back e fun j hj => ?_)
            have hj' := h j (List.mem_cons_of_mem _ hj)
            by_cases e2 : i = j
            · subst e2
              have hlt : i < r.length := by
                unfold ownB at hj'
                split at hj'
                · rename_i b e3
                  exact (List.getElem?_eq_some_iff.mp e3).1
                · cases hj'
              unfold ownB
              rw [List.getElem?_set_self hlt]
              exact ha
            · rw [ownB_set e2]; exact hj'
          · cases e
theorem args_own {r : Env} : ∀ {us : List Rv} {as : Env}, argsOf us r = some as → ∀ i ∈ slotsOf us, ownB r i = true
  | [], as, e, i, h => by cases h
  | u :: us, as, e, i, h => by
    cases u with
    | n b => cases e
    | d x =>
      unfold argsOf at e
      cases e1 : argsOf us r with
      | none => rw [e1] at e; cases e
      | some as' => exact args_own e1 i h
    | v j =>
      unfold argsOf at e
      cases e2 : r[j]? with
      | none => rw [e2] at e; cases e
      | some o =>
        cases o with
        | none => rw [e2] at e; cases e
        | some b =>
          cases e1 : argsOf us r with
          | none => rw [e1, e2] at e; cases e
          | some as' =>
            rw [e1, e2] at e
            simp only at e
            split at e
            · rename_i hb
              rcases List.mem_cons.mp h with h | h
              · subst h
                unfold ownB
                rw [e2]
                exact hb
              · exact args_own e1 i h
            · cases e
theorem kp_callT {f : Fn} {us : List Rv} {r1 : Env} : Kp ar r1 (callT f us r1) := by
  unfold callT
  split
  · cases ea : argsOf us r1 with
    | none => exact True.intro
    | some as =>
      simp only
      cases f.sem as with
      | no => exact True.intro
      | ex x as' =>
        simp only
        cases eb : backOf us as' r1 with
        | none => exact True.intro
        | some r2 =>
          exact kr_back eb (args_own ea)
      | ok u as' =>
        simp only
        split
        · exact True.intro
        · cases eb : backOf us as' r1 with
          | none => exact True.intro
          | some r2 => exact kr_back eb (args_own ea)
  · exact True.intro
theorem kr_take {ar : Nat} {r r2 : Env} {a : A} (h : Kr ar (r ++ [some a]) r2) : Kr ar r (r2.take r.length) := by
  have e1 : ∀ {i}, i < r.length → ownB (r ++ [some a]) i = ownB r i := fun {i} hi => by
    unfold ownB
    rw [List.getElem?_append_left hi]
  have e2 : ∀ {i}, i < r.length → ownB (r2.take r.length) i = ownB r2 i := fun {i} hi => by
    unfold ownB
    rw [List.getElem?_take_of_lt hi]
  have lt : ∀ {q : Env} {i}, ownB q i = true → i < q.length := fun {q i} hq => by
    unfold ownB at hq
    split at hq
    · rename_i e
      exact (List.getElem?_eq_some_iff.mp e).1
    · cases hq
  refine ⟨fun i hi ho => ?_, fun i ho => ?_⟩
  · have hl := lt ho
    rw [e2 hl]
    exact h.1 i hi (by rw [e1 hl]; exact ho)
  · have hl : i < r.length := by
      have := lt ho
      rw [List.length_take] at this
      omega
    rw [e2 hl] at ho
    have := h.2 i ho
    rw [e1 hl] at this
    exact this
theorem kp_callX {f : Fn} {us : List Rv} {r1 : Env} : Kp ar r1 (callX f us r1) := by
  unfold callX
  split
  · exact kp_callT
  · rename_i a us' e
    have k := kp_callT (ar := ar) (f := f) (us := us') (r1 := r1 ++ [some a])
    cases ec : callT f us' (r1 ++ [some a]) with
    | no => exact True.intro
    | ex x r2 => rw [ec] at k; exact kr_take k
    | ok u r2 => rw [ec] at k; exact kr_take k
theorem kp_CF {f : Fn} {xs : XA} (h : KpF ar xs) : KpF ar (xCF f xs) := fun r => Kp.bind (h r) fun us r1 => kp_callX
theorem kp_CFK {f : Fn} {pat : List (Nat ⊕ D)} {xs zs : XA} (h : KpF ar xs) (hz : KpF ar zs) : KpF ar (xCFK f pat xs zs) := fun r => Kp.bind (h r) fun us r1 => Kp.bind (hz r1) fun ws r2 => by
  split
  · exact kp_callX
  · exact True.intro
def KpM (f : MA) : Prop := ∀ a as z a', f a as = some (z, some a') → a.own = true ∧ a'.own = true
theorem kp_Me {T : MT} {f : MA} {o : X1} {xs : XA} (hf : KpM f) (ho : KpF ar o) (hs : KpF ar xs) : KpF ar (xMe T f o xs) := fun r => Kp.bind (ho r) fun u r1 => by
  split
  · split
    · refine Kp.bind (hs r1) fun us r2 => ?_
      cases e1 : u.at r2 with
      | none => exact True.intro
      | some a =>
        cases e2 : atAll us r2 with
        | none => exact True.intro
        | some as =>
          simp only
          cases ef : f a as with
          | none => exact True.intro
          | some zo =>
            obtain ⟨z, oo⟩ := zo
            cases oo with
            | none => exact Kr.refl ar r2
            | some a' =>
              simp only
              unfold putV
              cases u with
              | d x => exact True.intro
              | n b => exact True.intro
              | v i =>
                obtain ⟨h1, h2⟩ := hf a as z a' ef
                refine kr_set_own ?_ h2
                unfold Rv.at at e1
                unfold ownB
                simp only at e1
                split at e1
                · rename_i b eb
                  cases e1
                  first
                    | exact h1
                    | (rw [eb]; exact h1)
                · cases e1
    · exact True.intro
  · exact True.intro
theorem km_app : KpM appA := fun a as z a' e => by
  unfold appA at e
  split at e
  · split at e
    · cases e; exact ⟨rfl, rfl⟩
    · cases e
  · cases e
theorem km_ext : KpM extA := fun a as z a' e => by
  unfold extA at e
  split at e
  · split at e
    · split at e
      · cases e; exact ⟨rfl, rfl⟩
      · cases e
    · cases e
  · cases e
theorem km_ins : KpM insA := fun a as z a' e => by
  unfold insA at e
  split at e
  · split at e
    · cases e; exact ⟨rfl, rfl⟩
    · cases e
  · cases e
theorem km_pop : KpM popA := fun a as z a' e => by
  unfold popA at e
  split at e
  · split at e
    · cases e; exact ⟨rfl, rfl⟩
    · cases e
  · cases e
theorem km_clr : KpM clrA := fun a as z a' e => by
  unfold clrA at e
  split at e
  · cases e; exact ⟨rfl, rfl⟩
  · cases e
theorem km_rev : KpM revA := fun a as z a' e => by
  unfold revA at e
  split at e
  · cases e; exact ⟨rfl, rfl⟩
  · cases e
theorem km_join : KpM joinA := fun a as z a' e => by
  unfold joinA at e
  split at e
  · split at e
    · split at e
      · split at e <;> cases e
      · cases e
    · cases e
  · cases e
theorem km_split : KpM splitA := fun a as z a' e => by
  unfold splitA at e
  split at e
  · split at e <;> cases e
  · cases e
theorem km_cnt : KpM cntA := fun a as z a' e => by
  unfold cntA at e
  split at e <;> cases e
theorem kp_It {x : X1} (h : KpF ar x) : KpF ar (xIt x) := fun r => Kp.bind (h r) fun u r1 => by
  split
  · split <;> first | exact Kr.refl ar r1 | exact True.intro
  · exact True.intro
theorem kp_Itm {x : X1} (h : KpF ar x) : KpF ar (xItm x) := fun r => Kp.bind (h r) fun u r1 => by
  split <;> first | exact Kr.refl ar r1 | exact True.intro
theorem gOf_own {a : A} {kvs : List (Key × D)} (h : gOf a = some kvs) : a.own = true := by
  unfold gOf at h
  split at h
  · rfl
  · rfl
  · cases h
theorem kp_SdA {i j l : Nat} : KpF ar (xSdA i j l) := fun r => by
  unfold xSdA
  split
  · rename_i a k x ei ej el
    split
    · rename_i kvs key eg ek
      split
      · split
        · refine kr_set_own ?_ rfl
          unfold ownB
          rw [ei]
          exact gOf_own eg
        · exact True.intro
      · exact True.intro
    · exact True.intro
  · exact True.intro
theorem km_sdf : KpM sdfA := fun a as z a' e => by
  unfold sdfA at e
  split at e
  · split at e
    · split at e
      · split at e
        · cases e; exact ⟨rfl, rfl⟩
        · cases e; exact ⟨rfl, rfl⟩
      · cases e
    · cases e
  · cases e
theorem kp_Rg1 {x : XA} (h : KpF ar x) : KpF ar (xRg1 x) := fun r => Kp.bind (h r) fun u r1 => by
  split
  · split <;> first | exact Kr.refl ar r1 | exact True.intro
  · exact True.intro
theorem kp_Rg2 {x : XA} (h : KpF ar x) : KpF ar (xRg2 x) := fun r => Kp.bind (h r) fun u r1 => by
  split
  · split <;> first | exact Kr.refl ar r1 | exact True.intro
  · exact True.intro
theorem kp_En {x : XA} (h : KpF ar x) : KpF ar (xEn x) := fun r => Kp.bind (h r) fun u r1 => by
  split
  · split <;> first | exact Kr.refl ar r1 | exact True.intro
  · exact True.intro
theorem kp_Zp {x : XA} (h : KpF ar x) : KpF ar (xZp x) := fun r => Kp.bind (h r) fun u r1 => by
  split
  · split <;> first | exact Kr.refl ar r1 | exact True.intro
  · exact True.intro
/-- a target that gives data to the slots sl alone -/
def GoodG (sl : List Nat) (g : XG) : Prop := ∀ d r r', g d r = some r' → (∀ i, i ∉ sl → r'[i]? = r[i]?) ∧ ∀ i, ownB r' i = true → ownB r i = true
theorem good_name {i : Nat} : GoodG [i] (gN ar i) := fun d r r' e => by
  obtain ⟨rfl, _⟩ := putD_some e
  refine ⟨fun j hj => List.getElem?_set_ne fun z => hj (by simp [z]), fun j ho => ?_⟩
  by_cases hj : i = j
  · subst hj
    unfold ownB at ho
    by_cases hl : i < r.length
    · rw [List.getElem?_set_self hl] at ho; cases ho
    · rw [List.getElem?_eq_none (by simpa using hl)] at ho; cases ho
  · rw [ownB_set hj] at ho; exact ho
def GoodGs (sl : List Nat) (gs : List XG) : Prop := ∀ d r r', gAll gs d r = some r' → (∀ i, i ∉ sl → r'[i]? = r[i]?) ∧ ∀ i, ownB r' i = true → ownB r i = true
theorem good_nil : GoodGs [] [] := fun d r r' e => by
  cases d with
  | nil => cases e; exact ⟨fun _ _ => rfl, fun _ h => h⟩
  | cons d ds => cases e
theorem good_cons {sl sl2 : List Nat} {g : XG} {gs : List XG} (h : GoodG sl g) (h2 : GoodGs sl2 gs) : GoodGs (sl ++ sl2) (g :: gs) := fun d r r' e => by
  cases d with
  | nil => cases e
  | cons d ds =>
    unfold gAll at e
    cases e1 : g d r with
    | none => rw [e1] at e; cases e
    | some r1 =>
      rw [e1] at e
      obtain ⟨a1, a2⟩ := h d r r1 e1
      obtain ⟨b1, b2⟩ := h2 ds r1 r' e
      exact ⟨fun i hi => (b1 i fun z => hi (List.mem_append_right _ z)).trans (a1 i fun z => hi (List.mem_append_left _ z)), fun i ho => a2 i (b2 i ho)⟩
theorem good_tup {sl : List Nat} {gs : List XG} (h : GoodGs sl gs) : GoodG sl (gT gs) := fun d r r' e => by
  unfold gT at e
  split at e
  · exact h _ r r' e
  · exact h _ r r' e
  · cases e
theorem comp_kr {vs : List Nat} {g : XG} {t : XT} {x : X1} (hg : GoodG vs g) (ht : KpF ar t) (hx : KpF ar x) : ∀ {ds : List D} {r : Env} {acc ys : List D} {r2 : Env}, compD vs g t x ds r acc = .ok ys r2 → ∀ i, i ∉ vs → (i < ar → ownB r i = true → ownB r2 i = true) ∧ (ownB r2 i = true → ownB r i = true)
  | [], r, acc, ys, r2, e, i, hi => by cases e; exact ⟨fun _ h => h, fun h => h⟩
  | d :: ds, r, acc, ys, r2, e, i, hi => by
    have wp : ∀ q : Env, ownB (wipeE q vs) i = ownB q i := fun q => by
      unfold ownB
      rw [wipeE_out hi]
    unfold compD at e
    cases eg : g d r with
    | none => rw [eg] at e; cases e
    | some ra =>
      rw [eg] at e
      simp only at e
      have ea : ownB ra i = ownB r i := by
        unfold ownB
        rw [(hg d r ra eg).1 i hi]
      have kt := ht ra
      cases et : t ra with
      | no => rw [et] at e; cases e
      | ex e1 e2 => rw [et] at e; cases e
      | ok b rb =>
        rw [et] at e kt
        simp only [Rs.bind] at e
        have kt : Kr ar ra rb := kt
        split at e
        · have kx := hx rb
          cases ex : x rb with
          | no => rw [ex] at e; cases e
          | ex e1 e2 => rw [ex] at e; cases e
          | ok u rc =>
            rw [ex] at e kx
            simp only at e
            have kx : Kr ar rb rc := kx
            split at e
            · split at e
              · obtain ⟨h1, h2⟩ := comp_kr hg ht hx e i hi
                rw [wp] at h1 h2
                rw [← ea]
                exact ⟨fun hi ho => h1 hi (kx.1 i hi (kt.1 i hi ho)), fun ho => kt.2 i (kx.2 i (h2 ho))⟩
              · cases e
            · cases e
        · obtain ⟨h1, h2⟩ := comp_kr hg ht hx e i hi
          rw [wp] at h1 h2
          rw [← ea]
          exact ⟨fun hi ho => h1 hi (kt.1 i hi ho), fun ho => kt.2 i (h2 ho)⟩
theorem compL_kr {vs : List Nat} {jj : Nat} {g : XG} {t : XT} {x : X1} (hg : GoodG vs g) (ht : KpF ar t) (hx : KpF ar x) : ∀ {n k : Nat} {r : Env} {acc ys : List D} {r2 : Env}, compL vs jj g t x n k r acc = .ok ys r2 → ∀ i, i ∉ vs → (i < ar → ownB r i = true → ownB r2 i = true) ∧ (ownB r2 i = true → ownB r i = true)
  | 0, k, r, acc, ys, r2, e, i, hi => by cases e
  | n + 1, k, r, acc, ys, r2, e, i, hi => by
    have wp : ∀ q : Env, ownB (wipeE q vs) i = ownB q i := fun q => by
      unfold ownB
      rw [wipeE_out hi]
    unfold compL at e
    split at e
    rotate_left
    · cases e
    split at e
    · cases e; exact ⟨fun _ h => h, fun h => h⟩
    rename_i d hd
    cases eg : g d r with
    | none => rw [eg] at e; cases e
    | some ra =>
      rw [eg] at e
      simp only at e
      have ea : ownB ra i = ownB r i := by
        unfold ownB
        rw [(hg d r ra eg).1 i hi]
      have kt := ht ra
      cases et : t ra with
      | no => rw [et] at e; cases e
      | ex e1 e2 => rw [et] at e; cases e
      | ok b rb =>
        rw [et] at e kt
        simp only [Rs.bind] at e
        have kt : Kr ar ra rb := kt
        split at e
        · have kx := hx rb
          cases ex : x rb with
          | no => rw [ex] at e; cases e
          | ex e1 e2 => rw [ex] at e; cases e
          | ok u rc =>
            rw [ex] at e kx
            simp only at e
            have kx : Kr ar rb rc := kx
            split at e
            · split at e
              · obtain ⟨h1, h2⟩ := compL_kr hg ht hx e i hi
                rw [wp] at h1 h2
                rw [← ea]
                exact ⟨fun hi ho => h1 hi (kx.1 i hi (kt.1 i hi ho)), fun ho => kt.2 i (kx.2 i (h2 ho))⟩
              · cases e
            · cases e
        · obtain ⟨h1, h2⟩ := compL_kr hg ht hx e i hi
          rw [wp] at h1 h2
          rw [← ea]
          exact ⟨fun hi ho => h1 hi (kt.1 i hi ho), fun ho => kt.2 i (h2 ho)⟩
theorem comp_len {vs : List Nat} {g : XG} {t : XT} {x : X1} : True := True.intro
theorem kp_Lc {vs : List Nat} {it : XI} {g : XG} {t : XT} {x : X1} (hi : KpF ar it) (hg : GoodG vs g) (ht : KpF ar t) (hx : KpF ar x) : KpF ar (xLc vs it g t x) := fun r => Kp.bind (hi r) fun ds r1 => by
  split
  · rename_i hv
    have hv' : ∀ i ∈ vs, ownB r1 i = false := fun i hi => by
      have := List.all_eq_true.mp hv i hi
      simpa using this
    cases ec : compD vs g t x ds (wipeE r1 vs) [] with
    | no => exact True.intro
    | ex e1 e2 => exact True.intro
    | ok ys r2 =>
      refine ⟨fun j hj ho => ?_, fun j ho => ?_⟩
      · by_cases hm : j ∈ vs
        · rw [hv' j hm] at ho; cases ho
        · have h := (comp_kr hg ht hx ec j hm).1 hj
          unfold ownB at h ho ⊢
          rw [restE_out hm]
          rw [wipeE_out hm] at h
          exact h ho
      · by_cases hm : j ∈ vs
        · unfold ownB at ho
          by_cases hl : j < r2.length
          · by_cases hl0 : j < r1.length
            · rw [restE_in hl hl0 hm] at ho
              unfold ownB
              exact ho
            · exfalso
              have key : ∀ {us : List Nat}, j ∈ us → (restE r1 us r2)[j]? = some none := by
                intro us
                induction us with
                | nil => intro h; cases h
                | cons v us ih =>
                  intro h
                  unfold restE
                  by_cases e : v = j
                  · subst e
                    rw [List.getElem?_set_self (by rw [restE_length]; exact hl), List.getElem?_eq_none (by omega)]
                  · rw [List.getElem?_set_ne e]
                    rcases List.mem_cons.mp h with h | h
                    · exact (e h.symm).elim
                    · exact ih h
              rw [key hm] at ho
              cases ho
          · rw [List.getElem?_eq_none (by rw [restE_length]; omega)] at ho
            cases ho
        · have h := (comp_kr hg ht hx ec j hm).2
          unfold ownB at h ho ⊢
          rw [restE_out hm] at ho
          rw [wipeE_out hm] at h
          exact h ho
  · exact True.intro
theorem kp_LcL {vs : List Nat} {jj : Nat} {g : XG} {t : XT} {x : X1} (hg : GoodG vs g) (ht : KpF ar t) (hx : KpF ar x) : KpF ar (xLcL ar vs jj g t x) := fun r1 => by
  unfold xLcL
  split
  rotate_left
  · exact kp_Lc (kp_It (kp_fz kp_var)) hg ht hx r1
  split
  · rename_i hv
    have hv := hv.1
    have hv' : ∀ i ∈ vs, ownB r1 i = false := fun i hi => by
      have := List.all_eq_true.mp hv i hi
      simpa using this
    cases ec : compL vs jj g t x 100000 0 (wipeE r1 vs) [] with
    | no => exact True.intro
    | ex e1 e2 => exact True.intro
    | ok ys r2 =>
      refine ⟨fun j hj ho => ?_, fun j ho => ?_⟩
      · by_cases hm : j ∈ vs
        · rw [hv' j hm] at ho; cases ho
        · have h := (compL_kr hg ht hx ec j hm).1 hj
          unfold ownB at h ho ⊢
          rw [restE_out hm]
          rw [wipeE_out hm] at h
          exact h ho
      · by_cases hm : j ∈ vs
        · unfold ownB at ho
          by_cases hl : j < r2.length
          · by_cases hl0 : j < r1.length
            · rw [restE_in hl hl0 hm] at ho
              unfold ownB
              exact ho
            · exfalso
              have key : ∀ {us : List Nat}, j ∈ us → (restE r1 us r2)[j]? = some none := by
                intro us
                induction us with
                | nil => intro h; cases h
                | cons v us ih =>
                  intro h
                  unfold restE
                  by_cases e : v = j
                  · subst e
                    rw [List.getElem?_set_self (by rw [restE_length]; exact hl), List.getElem?_eq_none (by omega)]
                  · rw [List.getElem?_set_ne e]
                    rcases List.mem_cons.mp h with h | h
                    · exact (e h.symm).elim
                    · exact ih h
              rw [key hm] at ho
              cases ho
          · rw [List.getElem?_eq_none (by rw [restE_length]; omega)] at ho
            cases ho
        · have h := (compL_kr hg ht hx ec j hm).2
          unfold ownB at h ho ⊢
          rw [restE_out hm] at ho
          rw [wipeE_out hm] at h
          exact h ho
  · exact True.intro
end
end Sn
namespace Sn
open PySem L2
/-! ### statements -/
inductive Fl where
  | nx | bk | ct | rt (u : Rv)
abbrev X2 := Env → Rs Fl
def FlQ (K : PySem.W.Frag) (O : OR) (H F' H' : Hp) (fp' : Fp) (sg' : St) (D : Ends) : Fl → Prop
  | .nx => D.nx sg' H'
  | .bk => D.bk sg' H'
  | .ct => D.ct sg' H'
  | .rt u => ∀ v, RepR K O H F' H' fp' sg' v u → D.rt v H'
def tSt (K : PySem.W.Frag) (O : OR) (W : WX) (ar : Nat) (rho : Env) (m : Rs Fl) : TS := fun D sg H => ∃ F fp, R K O F H rho sg fp ∧ match m with
  | .ok fl rho' => ∀ F' H' fp' sg', Stp F H fp F' H' fp' → R K O F' H' rho' sg' fp' → KP ar rho sg sg' → FlQ K O H F' H' fp' sg' D fl
  | .ex x rho' => ∀ F' H' fp' sg' d, Stp F H fp F' H' fp' → R K O F' H' rho' sg' fp' → KP ar rho sg sg' → RpX K F' H' d x.fs → W x.cls d sg' H'
  | .no => False
def Ko {α : Type} (ar : Nat) (r : Env) : Rs α → Prop
  | .ok _ r' => Ow ar r r'
  | .ex _ r' => Ow ar r r'
  | .no => True
theorem Kp.ko {α : Type} {ar : Nat} {r : Env} {m : Rs α} (h : Kp ar r m) : Ko ar r m := by
  cases m with
  | ok a r' => exact h.1
  | ex x r' => exact h.1
  | no => exact True.intro
theorem Ow.refl (ar : Nat) (r : Env) : Ow ar r r := fun _ _ h => h
theorem Ow.trans {ar : Nat} {a b c : Env} (h : Ow ar a b) (k : Ow ar b c) : Ow ar a c := fun i hi ho => k i hi (h i hi ho)
theorem Ko.bind {α β : Type} {ar : Nat} {r : Env} {m : Rs α} {f : α → Env → Rs β} (h : Ko ar r m) (k : ∀ a r', Ko ar r' (f a r')) : Ko ar r (m.bind f) := by
  cases m with
  | no => exact True.intro
  | ex x r' => exact h
  | ok a r' =>
    have q := k a r'
    show Ko ar r (f a r')
    cases e : f a r' with
    | no => exact True.intro
    | ex x r2 => rw [e] at q; exact Ow.trans h q
    | ok b r2 => rw [e] at q; exact Ow.trans h q
structure OkS (K : PySem.W.Frag) (O : OR) (X : Cx) (W : WX) (ar : Nat) (x : X2) (st : Stmt) : Prop where
  ps : ∀ rho, PS X st (tSt K O W ar rho (x rho))
  ko : ∀ rho, Ko ar rho (x rho)
structure OkSs (K : PySem.W.Frag) (O : OR) (X : Cx) (W : WX) (ar : Nat) (x : X2) (st : List Stmt) : Prop where
  ps : ∀ rho, PSs X st (tSt K O W ar rho (x rho))
  ko : ∀ rho, Ko ar rho (x rho)
section
variable {K : PySem.W.Frag} {O : OR} {X : Cx} {W : WX} {ar : Nat}
theorem PSimp {st : Stmt} {t t' : TS} (h : PS X st t) (i : ∀ D sg H, t' D sg H → t D sg H) : PS X st t' := ⟨fun pins s sg H D I q => h.run pins s sg H D I (i _ _ _ q)⟩
theorem PSsimp {st : List Stmt} {t t' : TS} (h : PSs X st t) (i : ∀ D sg H, t' D sg H → t D sg H) : PSs X st t' := ⟨fun pins s sg H D I q => h.run pins s sg H D I (i _ _ _ q)⟩
theorem PSno {st : Stmt} {rho : Env} : PS X st (tSt K O W ar rho .no) := ⟨fun pins s sg H D I q => by
  obtain ⟨F, fp, _, z⟩ := q
  exact z.elim⟩
theorem PSsno {st : List Stmt} {rho : Env} : PSs X st (tSt K O W ar rho .no) := ⟨fun pins s sg H D I q => by
  obtain ⟨F, fp, _, z⟩ := q
  exact z.elim⟩
theorem KP.refl {ar : Nat} {rho : Env} {sg : St} : KP ar rho sg sg := fun _ _ _ => rfl
def sNo : X2 := fun _ => .no
theorem okS_no {st : Stmt} : OkS K O X W ar sNo st := ⟨fun _ => PSno, fun _ => True.intro⟩
theorem okSs_no {st : List Stmt} : OkSs K O X W ar sNo st := ⟨fun _ => PSsno, fun _ => True.intro⟩
def sNx : X2 := fun r => .ok .nx r
theorem okS_pass {pos : Pos} : OkS K O X W ar sNx (.Pass pos) := ⟨fun rho => PSimp ps_pass fun D sg H q => by
  obtain ⟨F, fp, r, q⟩ := q
  exact q F H fp sg (Stp.refl _ _ _) r KP.refl, fun rho => Ow.refl ar rho⟩
theorem okS_doc {x : Str} {j : Nat} {p q : Pos} : OkS K O X W ar sNx (.Expr (.Constant (.str x) j p) q) := ⟨fun rho => PSimp ps_doc fun D sg H q => by
  obtain ⟨F, fp, r, q⟩ := q
  exact q F H fp sg (Stp.refl _ _ _) r KP.refl, fun rho => Ow.refl ar rho⟩
def sBk : X2 := fun r => .ok .bk r
theorem okS_bk {pos : Pos} : OkS K O X W ar sBk (.Break pos) := ⟨fun rho => PSimp ps_break fun D sg H q => by
  obtain ⟨F, fp, r, q⟩ := q
  exact q F H fp sg (Stp.refl _ _ _) r KP.refl, fun rho => Ow.refl ar rho⟩
def sCt : X2 := fun r => .ok .ct r
theorem okS_ct {pos : Pos} : OkS K O X W ar sCt (.Continue pos) := ⟨fun rho => PSimp ps_continue fun D sg H q => by
  obtain ⟨F, fp, r, q⟩ := q
  exact q F H fp sg (Stp.refl _ _ _) r KP.refl, fun rho => Ow.refl ar rho⟩
theorem okSs_nil : OkSs K O X W ar sNx [] := ⟨fun rho => PSsimp pss_nil fun D sg H q => by
  obtain ⟨F, fp, r, q⟩ := q
  exact q F H fp sg (Stp.refl _ _ _) r KP.refl, fun rho => Ow.refl ar rho⟩
def sSeq (a b : X2) : X2 := fun r => (a r).bind fun fl r1 => match fl with
  | .nx => b r1
  | fl => .ok fl r1
theorem FlQ.back {H H1 F' H' : Hp} {fp' : Fp} {sg' : St} {D : Ends} {fl : Fl} (h : FlQ K O H F' H' fp' sg' D fl) (k : ∀ b, H b ≠ none → H1 b ≠ none) : FlQ K O H1 F' H' fp' sg' D fl := by
  cases fl with
  | nx => exact h
  | bk => exact h
  | ct => exact h
  | rt u => exact fun v p => h v (p.back k)
theorem okSs_cons {a b : X2} {st : Stmt} {rest : List Stmt} (ha : OkS K O X W ar a st) (hb : OkSs K O X W ar b rest) : OkSs K O X W ar (sSeq a b) (st :: rest) := by
  refine ⟨fun rho => ?_, fun rho => Ko.bind (ha.ko rho) fun fl r1 => ?_⟩
  · have k := ha.ps rho
    have ko := ha.ko rho
    unfold sSeq
    cases ea : a rho with
    | no => exact PSsno
    | ex x r1 =>
      rw [ea] at k
      refine PSsimp (pss_cons k (hb.ps rho)) fun D sg H q => ?_
      obtain ⟨F, fp, r, q⟩ := q
      exact ⟨F, fp, r, q⟩
    | ok fl r1 =>
      rw [ea] at k ko
      have ko : Ow ar rho r1 := ko
      cases fl with
      | bk =>
        refine PSsimp (pss_cons k (hb.ps r1)) fun D sg H q => ?_
        obtain ⟨F, fp, r, q⟩ := q
        exact ⟨F, fp, r, q⟩
      | ct =>
        refine PSsimp (pss_cons k (hb.ps r1)) fun D sg H q => ?_
        obtain ⟨F, fp, r, q⟩ := q
        exact ⟨F, fp, r, q⟩
      | rt u =>
        refine PSsimp (pss_cons k (hb.ps r1)) fun D sg H q => ?_
        obtain ⟨F, fp, r, q⟩ := q
        exact ⟨F, fp, r, q⟩
      | nx =>
        show PSs X (st :: rest) (tSt K O W ar rho (b r1))
        have k2 := hb.ps r1
        cases eb : b r1 with
        | no => exact PSsno
        | ex x r2 =>
          rw [eb] at k2
          refine PSsimp (pss_cons k k2) fun D sg H q => ?_
          obtain ⟨F, fp, r, q⟩ := q
          exact ⟨F, fp, r, fun F1 H1 fp1 sg1 s1 q1 kp1 => ⟨F1, fp1, q1, fun F2 H2 fp2 sg2 d s2 q2 kp2 p2 => q F2 H2 fp2 sg2 d (s1.trans s2) q2 (fun i hi ho => (kp2 i hi (ko i hi ho)).trans (kp1 i hi ho)) p2⟩⟩
        | ok fl r2 =>
          rw [eb] at k2
          refine PSsimp (pss_cons k k2) fun D sg H q => ?_
          obtain ⟨F, fp, r, q⟩ := q
          exact ⟨F, fp, r, fun F1 H1 fp1 sg1 s1 q1 kp1 => ⟨F1, fp1, q1, fun F2 H2 fp2 sg2 s2 q2 kp2 => (q F2 H2 fp2 sg2 (s1.trans s2) q2 (fun i hi ho => (kp2 i hi (ko i hi ho)).trans (kp1 i hi ho))).back s1.stay⟩⟩
  · cases fl with
    | nx => exact hb.ko r1
    | bk => exact Ow.refl ar r1
    | ct => exact Ow.refl ar r1
    | rt u => exact Ow.refl ar r1
def sIf (t : XT) (a b : X2) : X2 := fun r => (t r).bind fun c r1 => if c = true then a r1 else b r1
theorem okS_if {t : XT} {a b : X2} {c : Expr} {sa sb : List Stmt} {pos : Pos} (ht : OkT K O X W t c) (kt : KpF ar t) (ha : OkSs K O X W ar a sa) (hb : OkSs K O X W ar b sb) : OkS K O X W ar (sIf t a b) (.If c sa sb pos) := by
  refine ⟨fun rho => ?_, fun rho => Ko.bind (kt rho).ko fun c r1 => ?_⟩
  · have k := ht rho
    have ko := (kt rho).ko
    unfold sIf
    cases et : t rho with
    | no => exact PSno
    | ex x r1 =>
      rw [et] at k
      refine PSimp (ps_if k (ha.ps rho) (hb.ps rho)) fun D sg H q => ?_
      obtain ⟨F, fp, r, q⟩ := q
      exact ⟨F, fp, r, fun F' H' fp' d s1 q1 p1 => q F' H' fp' sg d s1 q1 KP.refl p1⟩
    | ok c r1 =>
      rw [et] at k ko
      have ko : Ow ar rho r1 := ko
      have ka := ha.ps r1
      have kb := hb.ps r1
      have lift : ∀ {sg sg2 : St}, KP ar r1 sg sg2 → KP ar rho sg sg2 := fun kp i hi ho => kp i hi (ko i hi ho)
      cases c with
      | true =>
        show PS X _ (tSt K O W ar rho (a r1))
        cases eb : a r1 with
        | no => exact PSno
        | ex x r2 =>
          rw [eb] at ka
          refine PSimp (ps_if k ka kb) fun D sg H q => ?_
          obtain ⟨F, fp, r, q⟩ := q
          exact ⟨F, fp, r, fun F1 H1 fp1 s1 q1 => iteT ⟨F1, fp1, q1, fun F2 H2 fp2 sg2 d s2 q2 kp p2 => q F2 H2 fp2 sg2 d (s1.trans s2) q2 (lift kp) p2⟩⟩
        | ok fl r2 =>
          rw [eb] at ka
          refine PSimp (ps_if k ka kb) fun D sg H q => ?_
          obtain ⟨F, fp, r, q⟩ := q
          exact ⟨F, fp, r, fun F1 H1 fp1 s1 q1 => iteT ⟨F1, fp1, q1, fun F2 H2 fp2 sg2 s2 q2 kp => (q F2 H2 fp2 sg2 (s1.trans s2) q2 (lift kp)).back s1.stay⟩⟩
      | false =>
        show PS X _ (tSt K O W ar rho (b r1))
        cases eb : b r1 with
        | no => exact PSno
        | ex x r2 =>
          rw [eb] at kb
          refine PSimp (ps_if k ka kb) fun D sg H q => ?_
          obtain ⟨F, fp, r, q⟩ := q
          exact ⟨F, fp, r, fun F1 H1 fp1 s1 q1 => iteF ⟨F1, fp1, q1, fun F2 H2 fp2 sg2 d s2 q2 kp p2 => q F2 H2 fp2 sg2 d (s1.trans s2) q2 (lift kp) p2⟩⟩
        | ok fl r2 =>
          rw [eb] at kb
          refine PSimp (ps_if k ka kb) fun D sg H q => ?_
          obtain ⟨F, fp, r, q⟩ := q
          exact ⟨F, fp, r, fun F1 H1 fp1 s1 q1 => iteF ⟨F1, fp1, q1, fun F2 H2 fp2 sg2 s2 q2 kp => (q F2 H2 fp2 sg2 (s1.trans s2) q2 (lift kp)).back s1.stay⟩⟩
  · split
    · exact ha.ko r1
    · exact hb.ko r1
def sRet (x : X1) : X2 := fun r => (x r).bind fun u r1 => .ok (.rt u) r1
theorem okS_ret {x : X1} {e : Expr} {pos : Pos} (h : OkE K O X W x e) (kx : KpF ar x) : OkS K O X W ar (sRet x) (.Return (some e) pos) := by
  refine ⟨fun rho => ?_, fun rho => Ko.bind (kx rho).ko fun u r1 => Ow.refl ar r1⟩
  have k := h rho
  unfold sRet
  cases ex : x rho with
  | no => exact PSno
  | ex y r1 =>
    rw [ex] at k
    refine PSimp (ps_ret k) fun D sg H q => ?_
    obtain ⟨F, fp, r, q⟩ := q
    exact ⟨F, fp, r, fun F' H' fp' d s1 q1 p1 => q F' H' fp' sg d s1 q1 KP.refl p1⟩
  | ok u r1 =>
    rw [ex] at k
    refine PSimp (ps_ret k) fun D sg H q => ?_
    obtain ⟨F, fp, r, q⟩ := q
    exact ⟨F, fp, r, fun F' H' fp' v s1 q1 p1 => q F' H' fp' sg s1 q1 KP.refl v p1⟩
def sRetN : X2 := fun r => .ok (.rt (.d .non)) r
theorem okS_retN {pos : Pos} : OkS K O X W ar sRetN (.Return none pos) := ⟨fun rho => PSimp ps_retN fun D sg H q => by
  obtain ⟨F, fp, r, q⟩ := q
  exact q F H fp sg (Stp.refl _ _ _) r KP.refl .non rfl, fun rho => Ow.refl ar rho⟩
def sDrop (x : X1) : X2 := fun r => (x r).bind fun _ r1 => .ok .nx r1
theorem okS_drop {x : X1} {e : Expr} {pos : Pos} (h : OkE K O X W x e) (kx : KpF ar x) (hs : swapsWith e none pos.line X.env = pure false) : OkS K O X W ar (sDrop x) (.Expr e pos) := by
  refine ⟨fun rho => ?_, fun rho => Ko.bind (kx rho).ko fun u r1 => Ow.refl ar r1⟩
  have k := h rho
  unfold sDrop
  cases ex : x rho with
  | no => exact PSno
  | ex y r1 =>
    rw [ex] at k
    refine PSimp (ps_expr k hs) fun D sg H q => ?_
    obtain ⟨F, fp, r, q⟩ := q
    exact ⟨F, fp, r, fun F' H' fp' d s1 q1 p1 => q F' H' fp' sg d s1 q1 KP.refl p1⟩
  | ok u r1 =>
    rw [ex] at k
    refine PSimp (ps_expr k hs) fun D sg H q => ?_
    obtain ⟨F, fp, r, q⟩ := q
    exact ⟨F, fp, r, fun F' H' fp' v s1 q1 p1 => q F' H' fp' sg s1 q1 KP.refl⟩
/-! ### x = e -/
def putN (ar i : Nat) (a : A) (r : Env) : Option Env := if i < ar ∧ ownB r i = true then none else some (r.set i (some a))
def asgV (ar i : Nat) (u : Rv) (r : Env) : Option Env := match u with
  | .n a => putN ar i a r
  | u => match toD ar u r with
    | some (d, r2) => putD ar i d r2
    | none => none
theorem putN_some {i : Nat} {a : A} {rho rho' : Env} (e : putN ar i a rho = some rho') : rho' = rho.set i (some a) ∧ ∀ j, j < ar → ownB rho j = true → i ≠ j := by
  unfold putN at e
  split at e
  · cases e
  · rename_i hn
    cases e
    exact ⟨rfl, fun j h1 h2 z => hn (by rw [z]; exact ⟨h1, h2⟩)⟩
theorem R.putN {F H H0 : Hp} {rho : Env} {sg : St} {fp : Fp} (r : R K O F H rho sg fp) {i : Nat} {a : A} {v : V} (hl : i < rho.length) (h : RepR K O H0 F H fp sg v (.n a)) :
    ∃ fp', R K O F H (rho.set i (some a)) (sg.set i (some v)) fp' ∧ ∀ j b, fp' j b → fp j b ∨ H0 b = none := by
  obtain ⟨S, h1, h2, h3⟩ := h
  refine ⟨fun j b => (j = i ∧ S b) ∨ (j ≠ i ∧ fp j b), ⟨r.sub, by rw [List.length_set, List.length_set]; exact r.len, fun j a' e => ?_, fun j b z => ?_, fun j b z => ?_, fun j k b z z' => ?_⟩, fun j b z => ?_⟩
  · by_cases hj : j = i
    · subst hj
      rw [List.getElem?_set_self hl] at e
      cases e
      refine ⟨v, by rw [List.getElem?_set_self (by rw [← r.len]; exact hl)], ?_⟩
      have e : (fun b => (j = j ∧ S b) ∨ (j ≠ j ∧ fp j b)) = S := by
        funext b
        exact propext ⟨fun z => z.elim (fun z => z.2) (fun z => (z.1 rfl).elim), fun z => .inl ⟨rfl, z⟩⟩
      show RepA K O F H v a (fun b => (j = j ∧ S b) ∨ (j ≠ j ∧ fp j b))
      rw [e]
      exact h1
    · rw [List.getElem?_set_ne (Ne.symm hj)] at e
      obtain ⟨w, e1, e2⟩ := r.rep j a' e
      refine ⟨w, by rw [List.getElem?_set_ne (Ne.symm hj)]; exact e1, ?_⟩
      have e : (fun b => (j = i ∧ S b) ∨ (j ≠ i ∧ fp j b)) = fp j := by
        funext b
        exact propext ⟨fun z => z.elim (fun z => (hj z.1).elim) (fun z => z.2), fun z => .inr ⟨hj, z⟩⟩
      show RepA K O F H w a' (fun b => (j = i ∧ S b) ∨ (j ≠ i ∧ fp j b))
      rw [e]
      exact e2
  · rcases z with ⟨rfl, z⟩ | ⟨hj, z⟩
    · exact ⟨a, by rw [List.getElem?_set_self hl], h2⟩
    · obtain ⟨a', e1, e2⟩ := r.own j b z
      exact ⟨a', by rw [List.getElem?_set_ne (Ne.symm hj)]; exact e1, e2⟩
  · rcases z with ⟨_, z⟩ | ⟨_, z⟩
    · exact (h3 b z).1
    · exact r.fre j b z
  · rcases z with ⟨rfl, z⟩ | ⟨hj, z⟩
    · rcases z' with ⟨rfl, z'⟩ | ⟨_, z'⟩
      · rfl
      · exact ((h3 b z).2.2 k z').elim
    · rcases z' with ⟨rfl, z'⟩ | ⟨_, z'⟩
      · exact ((h3 b z').2.2 j z).elim
      · exact r.dis j k b z z'
  · rcases z with ⟨_, z⟩ | ⟨_, z⟩
    · exact .inr (h3 b z).2.1
    · exact .inl z
theorem asg_ok (ok : ORok O) {F H F0 H0 : Hp} {rho rho' : Env} {sg : St} {fp fp0 : Fp} {i : Nat} {u : Rv} {v : V} (e : asgV ar i u rho = some rho') (hl : i < rho.length) (st : Stp F0 H0 fp0 F H fp) (r : R K O F H rho sg fp) (h : RepR K O H0 F H fp sg v u) :
    ∃ F' fp', Stp F0 H0 fp0 F' H fp' ∧ R K O F' H rho' (sg.set i (some v)) fp' ∧ ∀ j, j < ar → ownB rho j = true → i ≠ j := by
  have viaD : ∀ {u : Rv}, RepR K O H0 F H fp sg v u → (match toD ar u rho with
      | some (d, r2) => putD ar i d r2
      | none => none) = some rho' → ∃ F' fp', Stp F0 H0 fp0 F' H fp' ∧ R K O F' H rho' (sg.set i (some v)) fp' ∧ ∀ j, j < ar → ownB rho j = true → i ≠ j := fun {u} h e => by
    cases ed : toD ar u rho with
    | none => rw [ed] at e; cases e
    | some dr =>
      obtain ⟨d, r2⟩ := dr
      rw [ed] at e
      obtain ⟨F', fp', s2, q2, p2⟩ := toD_ok ok ed st r h
      obtain ⟨rfl, hne⟩ := putD_some e
      obtain ⟨fp3, r3, hf3⟩ := q2.putD (i := i) ok p2
      exact ⟨F', fp3, ⟨s2.grow, s2.new, s2.frame, fun j b z => s2.fps j b (hf3 j b z), s2.stay⟩, r3, fun j h1 h2 => hne j h1 ((kr_toD ed).1 j h1 h2)⟩
  cases u with
  | d x => exact viaD h e
  | v j => exact viaD h e
  | n a =>
    obtain ⟨rfl, hne⟩ := putN_some (show putN ar i a rho = some rho' from e)
    obtain ⟨fp', r', hf⟩ := r.putN hl h
    refine ⟨F, fp', ⟨st.grow, st.new, st.frame, fun j b z => ?_, st.stay⟩, r', hne⟩
    rcases hf j b z with z | z
    · exact st.fps j b z
    · exact .inr z
theorem asg_ow {i : Nat} {u : Rv} {rho rho' : Env} (e : asgV ar i u rho = some rho') : Ow ar rho rho' := by
  have viaD : ∀ {u : Rv}, (match toD ar u rho with
      | some (d, r2) => putD ar i d r2
      | none => none) = some rho' → Ow ar rho rho' := fun {u} e => by
    cases ed : toD ar u rho with
    | none => rw [ed] at e; cases e
    | some dr =>
      obtain ⟨d, r2⟩ := dr
      rw [ed] at e
      obtain ⟨rfl, hne⟩ := putD_some e
      intro j h1 h2
      have h3 := (kr_toD ed).1 j h1 h2
      rw [ownB_set (hne j h1 h3)]
      exact h3
  cases u with
  | d x => exact viaD (u := .d x) e
  | v j => exact viaD (u := .v j) e
  | n a =>
    obtain ⟨rfl, hne⟩ := putN_some (show putN ar i a rho = some rho' from e)
    intro j h1 h2
    rw [ownB_set (hne j h1 h2)]
    exact h2
def sSet (ar i : Nat) (x : X1) : X2 := fun r => (x r).bind fun u r1 => if i < r1.length then match asgV ar i u r1 with
  | some r2 => .ok .nx r2
  | none => .no
  else .no
theorem okS_setP (ok : ORok O) {x : X1} {i : Nat} {st : Stmt} (h : ∀ rho, PS X st (tAsg (tEv K O W rho (x rho)) (gName i))) (kx : KpF ar x) : OkS K O X W ar (sSet ar i x) st := by
  refine ⟨fun rho => ?_, fun rho => Ko.bind (kx rho).ko fun u r1 => ?_⟩
  · have k := h rho
    have ko := (kx rho).ko
    unfold sSet
    cases ex : x rho with
    | no => exact PSno
    | ex y r1 =>
      rw [ex] at k
      refine PSimp k fun D sg H q => ?_
      obtain ⟨F, fp, r, q⟩ := q
      exact ⟨F, fp, r, fun F' H' fp' d s1 q1 p1 => q F' H' fp' sg d s1 q1 KP.refl p1⟩
    | ok u r1 =>
      rw [ex] at k ko
      have ko : Ow ar rho r1 := ko
      simp only [Rs.bind]
      split
      · rename_i hl
        cases ea : asgV ar i u r1 with
        | none => exact PSno
        | some r2 =>
          refine PSimp k fun D sg H q => ?_
          obtain ⟨F, fp, r, q⟩ := q
          refine ⟨F, fp, r, fun F1 H1 fp1 v s1 q1 p1 => ?_⟩
          obtain ⟨F2, fp2, s2, q2, hne⟩ := asg_ok ok ea hl s1 q1 p1
          exact q F2 H1 fp2 _ s2 q2 fun j h1 h2 => List.getElem?_set_ne (hne j h1 (ko j h1 h2))
      · exact PSno
  · split
    · cases ea : asgV ar i u r1 with
      | none => exact True.intro
      | some r2 => exact asg_ow ea
    · exact True.intro
theorem okS_set (ok : ORok O) {x : X1} {e : Expr} {i : Nat} {st : Stmt} (hp : ∀ t, PE X e t → PS X st (tAsg t (gName i))) (h : OkE K O X W x e) (kx : KpF ar x) : OkS K O X W ar (sSet ar i x) st := okS_setP ok (fun rho => hp _ (h rho)) kx
/-- target = e, the target a pattern -/
def sPat (ar : Nat) (g : XG) (x : X1) : X2 := fun r => (xFz ar x r).bind fun u r1 => match u with
  | .d d => match g d r1 with
    | some r2 => .ok .nx r2
    | none => .no
  | _ => .no
theorem okS_pat (ok : ORok O) {g : XG} {x : X1} {tg e : Expr} {st : Stmt} {sl : List Nat} (hp : ∀ t tt, PE X e t → PG X tg tt → PS X st (tAsg t tt)) (hg : OkG K O ar sl X g tg) (h : OkE K O X W x e) (kx : KpF ar x) : OkS K O X W ar (sPat ar g x) st := by
  have h := ok_fz (ar := ar) ok h
  have kx := kp_fz kx
  have pgF : PG X tg (fun _ _ _ _ => False) := ⟨fun _ _ _ _ _ _ _ _ _ z => z.elim⟩
  refine ⟨fun rho => ?_, fun rho => Ko.bind (kx rho).ko fun u r1 => ?_⟩
  · have k := h rho
    have ko := (kx rho).ko
    unfold sPat
    cases ex : xFz ar x rho with
    | no => exact PSno
    | ex y r1 =>
      rw [ex] at k
      refine PSimp (hp _ _ k pgF) fun D sg H q => ?_
      obtain ⟨F, fp, r, q⟩ := q
      exact ⟨F, fp, r, fun F' H' fp' d s1 q1 p1 => q F' H' fp' sg d s1 q1 KP.refl p1⟩
    | ok u r1 =>
      rw [ex] at k ko
      have ko : Ow ar rho r1 := ko
      cases u with
      | n a => exact PSno
      | v j => exact PSno
      | d d =>
        show PS X st (tSt K O W ar rho (match g d r1 with
          | some r2 => .ok .nx r2
          | none => .no))
        cases eg : g d r1 with
        | none => exact PSno
        | some r2 =>
          refine PSimp (hp _ _ k (hg.1 d r1 r2 eg)) fun D sg H q => ?_
          obtain ⟨F, fp, r, q⟩ := q
          refine ⟨F, fp, r, fun F1 H1 fp1 v s1 q1 p1 => ⟨F1, fp1, q1, p1, fun sg2 fp2 q2 hf kp hsl => ?_⟩⟩
          exact q F1 H1 fp2 sg2 ⟨s1.grow, s1.new, s1.frame, fun j b z => s1.fps j b (hf j b z), s1.stay⟩ q2 fun j h1 h2 => kp j h1 (ko j h1 h2)
  · split
    · split
      · rename_i d r2 e
        exact hg.2 _ _ _ e
      · exact True.intro
    · exact True.intro
/-- x[i] = e, x a slot's own list or dict -/
def subA (b a : A) (d : D) : Option A := match b, a with
  | .l true xs, .d (.int n) => match ixN xs.length n with
    | some m => some (.l true (xs.set m d))
    | none => none
  | .m kvs, .d x => match x.key with
    | some k => if kvs.length < 100000 then some (.m (putKD kvs k d)) else none
    | none => none
  | _, _ => none
def sSub (j : Nat) (x i : X1) : X2 := fun r => (x r).bind fun u r1 => match u with
  | .d d => (xVar j r1).bind fun o r2 => (i r2).bind fun k r3 => match o, k.at r3, r3[j]? with
    | .v _, some a, some (some b) => match subA b a d with
      | some b' => .ok .nx (r3.set j (some b'))
      | none => .no
    | _, _, _ => .no
  | _ => .no
def rSetB : TSet := fun o i v H Q => rSetL o i v H Q ∨ rSetD o i v H Q
theorem set_both (hu : X.A.units + 1 < cLine) : PSet X rSetB := by
  intro pins s σ H o i v ov iv u Q I ro ri rv h
  rcases h with h | h
  · exact set_list pins s σ H o i v ov iv u Q I ro ri rv h
  · exact set_dict hu pins s σ H o i v ov iv u Q I ro ri rv h
theorem subA_own {b a b' : A} {d : D} (h : subA b a d = some b') : b.own = true ∧ b'.own = true := by
  unfold subA at h
  split at h
  · split at h
    · cases h; exact ⟨rfl, rfl⟩
    · cases h
  · split at h
    · split at h
      · cases h; exact ⟨rfl, rfl⟩
      · cases h
    · cases h
  · cases h
theorem sub_ok (ok : ORok O) {F H : Hp} {fp : Fp} {rho : Env} {sg : St} (r : R K O F H rho sg fp) {j : Nat} {b a b' : A} {d : D} {o i v : V} {S : Addr → Prop} (e : subA b a d = some b') (hj : rho[j]? = some (some b)) (hs : sg[j]? = some (some o)) (ha : RepA K O F H i a S) (hd : Rp K F d v) {Q : Hp → Prop}
    (k : ∀ H' , Stp F H fp F H' fp → R K O F H' (rho.set j (some b')) sg fp → Q H') : rSetB o i v H Q := by
  unfold subA at e
  split at e
  · rename_i xs n
    split at e
    · rename_i m em
      cases e
      obtain ⟨w, e1, p, vs, rfl, e2, e3, e4⟩ := r.rep j _ hj
      rw [hs] at e1
      cases e1
      refine .inl ⟨p, vs, n, m, rfl, ha.int, e2, by rw [e3.length]; exact em, ?_⟩
      obtain ⟨r4, s4⟩ := r.write (a' := .l true (xs.set m d)) (o' := .lst (vs.set m v)) ok e2 e4 hs rfl ⟨p, vs.set m v, rfl, upd_same, RpA.set hd m e3, e4⟩
      exact k _ s4 r4
    · cases e
  · rename_i kvs x
    split at e
    · rename_i key ek
      split at e
      · rename_i hz
        cases e
        obtain ⟨w, e1, p, kws, rfl, e2, e3, e4⟩ := r.rep j _ hj
        rw [hs] at e1
        cases e1
        have ei := key_ok ha.1 ek
        subst ei
        refine .inr ⟨p, _, rfl, DPut.k e2 (szl (by rw [e3.length]; exact hz)), ?_⟩
        obtain ⟨r4, s4⟩ := r.write (a' := .m (putKD kvs key d)) (o' := .dK (putK kws key v)) ok e2 e4 hs rfl ⟨p, _, rfl, upd_same, e3.put hd, e4⟩
        exact k _ s4 r4
      · cases e
    · cases e
  · cases e
theorem okS_sub (ok : ORok O) {x i : X1} {e ei : Expr} {y : Str} {py ps pos : Pos} {j : Nat} (hp : ∀ t to ti, PE X e t → PE X (.Name y py) to → PE X ei ti → PS X (.Assign [.Subscript (.Name y py) ei ps] e pos) (tAsg t (gSub to ti rSetB))) (hv : PE X (.Name y py) (tVar j)) (h : OkE K O X W x e) (kx : KpF ar x) (hi : OkE K O X W i ei) (ki : KpF ar i) : OkS K O X W ar (sSub j x i) (.Assign [.Subscript (.Name y py) ei ps] e pos) := by
  have hvj := ok_var (K := K) (O := O) (W := W) hv
  refine ⟨fun rho => ?_, fun rho => Ko.bind (kx rho).ko fun u r1 => ?_⟩
  · have k := h rho
    have ko := (kx rho).ko
    unfold sSub
    cases ex : x rho with
    | no => exact PSno
    | ex y r1 =>
      rw [ex] at k
      refine PSimp (hp _ _ _ k pe_F pe_F) fun D sg H q => ?_
      obtain ⟨F, fp, r, q⟩ := q
      exact ⟨F, fp, r, fun F' H' fp' d s1 q1 p1 => q F' H' fp' sg d s1 q1 KP.refl p1⟩
    | ok u r1 =>
      rw [ex] at k ko
      have ko : Ow ar rho r1 := ko
      cases u with
      | n a => exact PSno
      | v j => exact PSno
      | d d =>
        show PS X _ (tSt K O W ar rho ((xVar j r1).bind fun o r2 => (i r2).bind fun k r3 => match o, k.at r3, r3[j]? with
          | .v _, some a, some (some b) => match subA b a d with
            | some b' => .ok .nx (r3.set j (some b'))
            | none => .no
          | _, _, _ => .no))
        have k2 := hvj r1
        cases ev : xVar j r1 with
        | no => exact PSno
        | ex y r2 =>
          rw [ev] at k2
          refine PSimp (hp _ _ _ k k2 pe_F) fun D sg H q => ?_
          obtain ⟨F, fp, r, q⟩ := q
          exact ⟨F, fp, r, fun F1 H1 fp1 v s1 q1 p1 => ⟨F1, fp1, q1, fun F2 H2 fp2 d s2 q2 p2 => q F2 H2 fp2 sg d (s1.trans s2) q2 KP.refl p2⟩⟩
        | ok o r2 =>
          rw [ev] at k2
          have k3 := hi r2
          simp only [Rs.bind]
          cases eii : i r2 with
          | no => exact PSno
          | ex y r3 =>
            rw [eii] at k3
            refine PSimp (hp _ _ _ k k2 k3) fun D sg H q => ?_
            obtain ⟨F, fp, r, q⟩ := q
            exact ⟨F, fp, r, fun F1 H1 fp1 v s1 q1 p1 => ⟨F1, fp1, q1, fun F2 H2 fp2 v2 s2 q2 p2 => ⟨F2, fp2, q2, fun F3 H3 fp3 d s3 q3 p3 => q F3 H3 fp3 sg d ((s1.trans s2).trans s3) q3 KP.refl p3⟩⟩⟩
          | ok kk r3 =>
            rw [eii] at k3
            simp only
            split
            · rename_i jj a0 b0 h1 h2
              cases em : subA b0 a0 d with
              | none => exact PSno
              | some b1 =>
                refine PSimp (hp _ _ _ k k2 k3) fun D sg H q => ?_
                obtain ⟨F, fp, r, q⟩ := q
                refine ⟨F, fp, r, fun F1 H1 fp1 v s1 q1 p1 => ⟨F1, fp1, q1, fun F2 H2 fp2 v2 s2 q2 p2 => ⟨F2, fp2, q2, fun F3 H3 fp3 v3 s3 q3 p3 => ?_⟩⟩⟩
                have hj : sg[j]? = some (some v2) := by
                  have p2' := p2
                  unfold xVar at ev
                  split at ev
                  · cases ev
                  · cases ev; exact p2'
                  · cases ev
                obtain ⟨S, hS, _⟩ := p3.get q3 h1
                have hd : Rp K F3 d v := Rp.mono (s2.grow.trans s3.grow) _ _ p1
                exact sub_ok ok q3 em h2 hj hS hd fun H4 s4 r4 => q F3 _ fp3 sg (((s1.trans s2).trans s3).trans s4) r4 KP.refl
            · exact PSno
  · cases u with
    | n a => exact True.intro
    | v j => exact True.intro
    | d d =>
      refine Ko.bind (kp_var r1).ko fun o r2 => Ko.bind (ki r2).ko fun kk r3 => ?_
      split
      · rename_i jj a0 b0 h1 h2
        split
        · rename_i b1 eb
          refine (kr_set_own (ar := ar) ?_ (subA_own eb).2).1
          unfold ownB
          rw [h2]
          exact (subA_own eb).1
        · exact True.intro
      · exact True.intro
/-- x += e, x -= e on whole numbers -/
def sAug (ar i : Nat) (f : Int → Int → Int) (x : X1) : X2 := fun r => match r[i]? with
  | some (some (.d (.int a))) => (x r).bind fun u r1 => match u.at r1 with
    | some (.d (.int b)) => match putD ar i (.int (f a b)) r1 with
      | some r2 => .ok .nx r2
      | none => .no
    | _ => .no
  | _ => .no
theorem okS_aug (ok : ORok O) {x : X1} {e : Expr} {i : Nat} {f : Int → Int → Int} {st : Stmt} (hp : ∀ t, PE X e t → PS X st (tAug i t (ipI f))) (h : OkE K O X W x e) (kx : KpF ar x) : OkS K O X W ar (sAug ar i f x) st := by
  refine ⟨fun rho => ?_, fun rho => ?_⟩
  · unfold sAug
    split
    · rename_i a ei
      have k := h rho
      have ko := (kx rho).ko
      cases ex : x rho with
      | no => exact PSno
      | ex y r1 =>
        rw [ex] at k
        refine PSimp (hp _ k) fun D sg H q => ?_
        obtain ⟨F, fp, r, q⟩ := q
        obtain ⟨w, h1, h2⟩ := r.rep i _ ei
        exact ⟨w, h1, F, fp, r, fun F' H' fp' d s1 q1 p1 => q F' H' fp' sg d s1 q1 KP.refl p1⟩
      | ok u r1 =>
        rw [ex] at k ko
        have ko : Ow ar rho r1 := ko
        simp only [Rs.bind]
        split
        · rename_i b eb
          cases ed : putD ar i (.int (f a b)) r1 with
          | none => exact PSno
          | some r2 =>
            refine PSimp (hp _ k) fun D sg H q => ?_
            obtain ⟨F, fp, r, q⟩ := q
            obtain ⟨w, h1, h2⟩ := r.rep i _ ei
            refine ⟨w, h1, F, fp, r, fun F1 H1 fp1 v s1 q1 p1 => ?_⟩
            obtain ⟨S, hS, _⟩ := p1.get q1 eb
            refine ⟨a, b, h2.int, hS.int, ?_⟩
            obtain ⟨rfl, hne⟩ := putD_some ed
            obtain ⟨fp2, q2, hf⟩ := q1.putD (i := i) (d := .int (f a b)) (v := .int (f a b)) ok rfl
            exact q F1 H1 fp2 _ ⟨s1.grow, s1.new, s1.frame, fun j b z => s1.fps j b (hf j b z), s1.stay⟩ q2 fun j h3 h4 => List.getElem?_set_ne (hne j h3 (ko j h3 h4))
        · exact PSno
    · exact PSno
  · unfold sAug
    split
    · refine Ko.bind (kx rho).ko fun u r1 => ?_
      split
      · split
        · rename_i r2 ed
          obtain ⟨rfl, hne⟩ := putD_some ed
          intro j h1 h2
          rw [ownB_set (hne j h1 h2)]
          exact h2
        · exact True.intro
      · exact True.intro
    · exact True.intro
/-! ### loops -/
def forD (g : XG) (b : X2) : List D → Env → Rs Fl
  | [], r => .ok .nx r
  | d :: ds, r => match g d r with
    | none => .no
    | some r1 => (b r1).bind fun fl r2 => match fl with
      | .nx => forD g b ds r2
      | .ct => forD g b ds r2
      | .bk => .ok .nx r2
      | .rt u => .ok (.rt u) r2
def sFor (it : XI) (g : XG) (b : X2) : X2 := fun r => (it r).bind fun ds r1 => forD g b ds r1
theorem forD_ko {g : XG} {b : X2} (hg : ∀ d r r', g d r = some r' → Ow ar r r') (hb : ∀ r, Ko ar r (b r)) : ∀ (ds : List D) (r : Env), Ko ar r (forD g b ds r)
  | [], r => Ow.refl ar r
  | d :: ds, r => by
    unfold forD
    cases eg : g d r with
    | none => exact True.intro
    | some r1 =>
      have h1 := hg d r r1 eg
      have : Ko ar r1 ((b r1).bind fun fl r2 => match fl with
        | .nx => forD g b ds r2
        | .ct => forD g b ds r2
        | .bk => .ok .nx r2
        | .rt u => .ok (.rt u) r2) := Ko.bind (hb r1) fun fl r2 => by
          cases fl with
          | nx => exact forD_ko hg hb ds r2
          | ct => exact forD_ko hg hb ds r2
          | bk => exact Ow.refl ar r2
          | rt u => exact Ow.refl ar r2
      revert this
      simp only
      generalize (b r1).bind _ = m
      intro this
      cases m with
      | no => exact True.intro
      | ex x r2 => exact h1.trans this
      | ok a r2 => exact h1.trans this
theorem okS_for (ok : ORok O) {it : XI} {g : XG} {b : X2} {tg iter : Expr} {body : List Stmt} {pos : Pos} {sl : List Nat} (hpo : PassesOwn (model X.prog X.w) X.A X.env X.xe) (hc : X.calm = true) (hi : OkI K O X W it tg iter) (ki : KpF ar it) (hg : OkG K O ar sl X g tg) (hb : OkSs K O X W ar b body)
    (hs : ∀ x, foldedSetIterable iter X.env x = pure x) : OkS K O X W ar (sFor it g b) (.For tg iter body [] pos) := by
  refine ⟨fun rho => ?_, fun rho => Ko.bind (ki rho).ko fun ds r1 => forD_ko hg.2 hb.ko ds r1⟩
  have k := hi rho
  have ko := (ki rho).ko
  let gg : TG := fun y sg H Q => ∃ d rho rho', g d rho = some rho' ∧ tEvG K O ar sl d rho rho' y sg H Q
  let tb : TS := fun D sg H => ∃ rho, tSt K O W ar rho (b rho) D sg H
  have pg : PG X tg gg := ⟨fun pins s' sg H' v u Q I r q => by
    obtain ⟨d, r0, r1, e, q⟩ := q
    exact (hg.1 d r0 r1 e).run pins s' sg H' v u Q I r q⟩
  have pb : PSs X body tb := ⟨fun pins s' sg H' D I q => by
    obtain ⟨r0, q⟩ := q
    exact (hb.ps r0).run pins s' sg H' D I q⟩
  unfold sFor
  cases ei : it rho with
  | no => exact PSno
  | ex y r1 =>
    rw [ei] at k
    refine PSimp (ps_for hpo hc k pg pb hs) fun D sg H q => ?_
    obtain ⟨F, fp, r, q⟩ := q
    exact ⟨F, fp, r, fun F' H' fp' d s1 q1 p1 => q F' H' fp' sg d s1 q1 KP.refl p1⟩
  | ok ds r1 =>
    rw [ei] at k ko
    have ko : Ow ar rho r1 := ko
    show PS X _ (tSt K O W ar rho (forD g b ds r1))
    generalize hres : forD g b ds r1 = res
    refine PSimp (ps_for hpo hc k pg pb hs) fun D sg H q => ?_
    obtain ⟨F, fp, r, q⟩ := q
    refine ⟨F, fp, r, fun F1 H1 fp1 J s1 q1 hw => ?_⟩
    -- the loop: what is left of it comes to the same
    refine ⟨fun i m sg' H' => ∃ F' fp' r', Stp F H fp F' H' fp' ∧ Same F1 F' ∧ R K O F' H' r' sg' fp' ∧ KP ar rho sg sg' ∧ Ow ar rho r' ∧ forD g b (ds.drop i) r' = res ∧ m = ds.length - i ∧ i ≤ ds.length,
      ⟨ds.length, F1, fp1, r1, s1, Same.refl F1, q1, KP.refl, ko, hres, rfl, Nat.zero_le _⟩, ?_⟩
    rintro i m sg' H' ⟨F', fp', r', st, gF, rr, kp, kow, ef, rfl, hi⟩
    by_cases hlt : i < ds.length
    · obtain ⟨d, hd⟩ : ∃ d, ds[i]? = some d := ⟨ds[i], by simp [hlt]⟩
      have edrop : ds.drop i = d :: ds.drop (i + 1) := by
        rw [List.drop_eq_getElem_cons hlt]
        congr 1
        rw [List.getElem?_eq_getElem hlt] at hd
        exact Option.some.inj hd
      rw [edrop] at ef
      unfold forD at ef
      cases eg : g d r' with
      | none =>
        rw [eg] at ef
        rw [← ef] at q
        exact q.elim
      | some ra =>
        rw [eg] at ef
        simp only at ef
        have owa := hg.2 d r' ra eg
        refine .inr ⟨hw.go i H' (gF.trans rr.sub) hlt, fun sg2 H2 => ∃ F' fp' r', Stp F H fp F' H2 fp' ∧ Same F1 F' ∧ R K O F' H2 r' sg2 fp' ∧ KP ar rho sg sg2 ∧ Ow ar rho r' ∧ forD g b (ds.drop (i + 1)) r' = res,
          fun sg2 H2 ⟨F2, fp2, r2, h1, h2, h3, h4, h5, h6⟩ => ⟨ds.length - (i + 1), by omega, F2, fp2, r2, h1, h2, h3, h4, h5, h6, rfl, hlt⟩, fun y Hy hy => ?_⟩
        have item : ∃ Fy, R K O Fy Hy r' sg' fp' ∧ Stp F H fp Fy Hy fp' ∧ Rp K Fy d y ∧ Same F' Fy := by
          rcases (hw.mono gF).yld i H' y Hy rr.sub hy d hd with ⟨rfl, h2⟩ | ⟨T, us, es, h1, rfl, rfl, rfl, h5⟩
          · exact ⟨F', rr, st, h2, Same.refl F'⟩
          · obtain ⟨r3, s3⟩ := rr.frozen ok h1 (.tup us)
            exact ⟨_, r3, st.trans s3, ⟨T, us, rfl, upd_same, RpA.mono s3.grow _ _ h5⟩, s3.grow⟩
        obtain ⟨Fy, ry, sy, hdy, gy⟩ := item
        refine ⟨d, r', ra, eg, Fy, fp', ry, hdy, fun sg2 fpa qa hfa kpa hsl => ⟨ra, ?_⟩⟩
        have sa : Stp F H fp Fy Hy fpa := ⟨sy.grow, sy.new, sy.frame, fun j b z => sy.fps j b (hfa j b z), sy.stay⟩
        have kp2 : KP ar rho sg sg2 := fun j h1 h2 => (kpa j h1 (kow j h1 h2)).trans (kp j h1 h2)
        have ow2 : Ow ar rho ra := kow.trans owa
        have kob := hb.ko ra
        refine ⟨Fy, fpa, qa, ?_⟩
        cases eb : b ra with
        | no =>
          rw [eb] at ef
          have ef : Rs.no = res := ef
          rw [← ef] at q
          exact q
        | ex x rb =>
          rw [eb] at ef
          have ef : Rs.ex x rb = res := ef
          rw [← ef] at q
          intro F3 H3 fp3 sg3 d3 s3 q3 kp3 p3
          exact q F3 H3 fp3 sg3 d3 (sa.trans s3) q3 (fun j h1 h2 => (kp3 j h1 (ow2 j h1 h2)).trans (kp2 j h1 h2)) p3
        | ok fl rb =>
          rw [eb] at ef kob
          have kob : Ow ar ra rb := kob
          simp only [Rs.bind] at ef
          intro F3 H3 fp3 sg3 s3 q3 kp3
          have kp4 : KP ar rho sg sg3 := fun j h1 h2 => (kp3 j h1 (ow2 j h1 h2)).trans (kp2 j h1 h2)
          cases fl with
          | nx => exact ⟨F3, fp3, rb, sa.trans s3, gF.trans (gy.trans s3.grow), q3, kp4, ow2.trans kob, ef⟩
          | ct => exact ⟨F3, fp3, rb, sa.trans s3, gF.trans (gy.trans s3.grow), q3, kp4, ow2.trans kob, ef⟩
          | bk =>
            have ef : Rs.ok Fl.nx rb = res := ef
            rw [← ef] at q
            exact q F3 H3 fp3 sg3 (sa.trans s3) q3 kp4
          | rt u =>
            have ef : Rs.ok (Fl.rt u) rb = res := ef
            rw [← ef] at q
            exact fun v p => q F3 H3 fp3 sg3 (sa.trans s3) q3 kp4 v (p.back sa.stay)
    · have e : i = ds.length := by omega
      subst e
      rw [List.drop_length] at ef
      have ef : Rs.ok Fl.nx r' = res := ef
      rw [← ef] at q
      exact .inl ⟨hw.stop _ H' (gF.trans rr.sub) (Nat.le_refl _), q F' H' fp' sg' st rr kp⟩
/-- for x in y, y a parameter's own list, as it is at each turn -/
def forL (j : Nat) (g : XG) (b : X2) : Nat → Nat → Env → Rs Fl
  | 0, _, _ => .no
  | n + 1, i, r => match r[j]? with
    | some (some (.l _ xs)) => match xs[i]? with
      | none => .ok .nx r
      | some d => match g d r with
        | none => .no
        | some r1 => (b r1).bind fun fl r2 => match fl with
          | .nx => forL j g b n (i + 1) r2
          | .ct => forL j g b n (i + 1) r2
          | .bk => .ok .nx r2
          | .rt u => .ok (.rt u) r2
    | _ => .no
def sForP (ar j : Nat) (g : XG) (b : X2) : X2 := fun r => match r[j]? with
  | some (some (.l _ _)) => if j < ar then forL j g b 100000 0 r else .no
  | _ => sFor (xIt (xFz ar (xVar j))) g b r
theorem forL_ko {j : Nat} {g : XG} {b : X2} (hg : ∀ d r r', g d r = some r' → Ow ar r r') (hb : ∀ r, Ko ar r (b r)) : ∀ (n i : Nat) (r : Env), Ko ar r (forL j g b n i r)
  | 0, _, _ => True.intro
  | n + 1, i, r => by
    unfold forL
    split
    · split
      · exact Ow.refl ar r
      · rename_i d _
        cases eg : g d r with
        | none => exact True.intro
        | some r1 =>
          have h1 := hg d r r1 eg
          have : Ko ar r1 ((b r1).bind fun fl r2 => match fl with
            | .nx => forL j g b n (i + 1) r2
            | .ct => forL j g b n (i + 1) r2
            | .bk => .ok .nx r2
            | .rt u => .ok (.rt u) r2) := Ko.bind (hb r1) fun fl r2 => by
              cases fl with
              | nx => exact forL_ko hg hb n (i + 1) r2
              | ct => exact forL_ko hg hb n (i + 1) r2
              | bk => exact Ow.refl ar r2
              | rt u => exact Ow.refl ar r2
          simp only
          generalize ((b r1).bind fun fl r2 => match fl with
            | .nx => forL j g b n (i + 1) r2
            | .ct => forL j g b n (i + 1) r2
            | .bk => .ok .nx r2
            | .rt u => .ok (.rt u) r2) = mm at this ⊢
          cases mm with
          | no => exact True.intro
          | ex x r2 => exact h1.trans this
          | ok a r2 => exact h1.trans this
    · exact True.intro
theorem okS_forP (ok : ORok O) (hK : X.K = K) {j : Nat} {g : XG} {b : X2} {tg : Expr} {x : Str} {px : Pos} {body : List Stmt} {pos : Pos} {sl : List Nat} (hpo : PassesOwn (model X.prog X.w) X.A X.env X.xe) (hc : X.calm = true) (hv : PE X (.Name x px) (tVar j)) (hg : OkG K O ar sl X g tg) (hb : OkSs K O X W ar b body)
    (hs : ∀ y, foldedSetIterable (.Name x px) X.env y = pure y) : OkS K O X W ar (sForP ar j g b) (.For tg (.Name x px) body [] pos) := by
  have std := okS_for (K := K) (O := O) (W := W) (pos := pos) ok hpo hc (okI_seq (tg := tg) ok hK (ok_fz (ar := ar) ok (ok_var (K := K) (O := O) (W := W) hv))) (kp_It (kp_fz kp_var)) hg hb hs
  let gg : TG := fun y sg H Q => ∃ d rho rho', g d rho = some rho' ∧ tEvG K O ar sl d rho rho' y sg H Q
  let tb : TS := fun D sg H => ∃ rho, tSt K O W ar rho (b rho) D sg H
  have pg : PG X tg gg := ⟨fun pins s' sg H' v u Q I r q => by
    obtain ⟨d, r0, r1, e, q⟩ := q
    exact (hg.1 d r0 r1 e).run pins s' sg H' v u Q I r q⟩
  have pb : PSs X body tb := ⟨fun pins s' sg H' D I q => by
    obtain ⟨r0, q⟩ := q
    exact (hb.ps r0).run pins s' sg H' D I q⟩
  refine ⟨fun rho => ?_, fun rho => ?_⟩
  · unfold sForP
    split
    · rename_i w xs ej
      split
      · rename_i hj
        generalize hres : forL j g b 100000 0 rho = res
        refine PSimp (ps_for hpo hc (pi_list hv) pg pb hs) fun D sg H q => ?_
        obtain ⟨F, fp, r, q⟩ := q
        obtain ⟨v0, e1, a, vs0, rfl, e2, e3, e4⟩ := r.rep j _ ej
        refine ⟨.ref a, e1, a, rfl, ⟨vs0, SqL.of e2⟩, ?_⟩
        have hown : ownB rho j = true := by
          unfold ownB
          rw [ej]
          rfl
        refine ⟨fun i m sg' H' => ∃ F' fp' r', Stp F H fp F' H' fp' ∧ R K O F' H' r' sg' fp' ∧ KP ar rho sg sg' ∧ Ow ar rho r' ∧ forL j g b m i r' = res,
          ⟨100000, F, fp, rho, Stp.refl _ _ _, r, KP.refl, Ow.refl ar rho, hres⟩, ?_⟩
        rintro i m sg' H' ⟨F', fp', r', st, rr, kp, kow, ef⟩
        cases m with
        | zero =>
          have ef : Rs.no = res := ef
          rw [← ef] at q
          exact q.elim
        | succ m =>
          unfold forL at ef
          split at ef
          · rename_i w2 ys ey
            obtain ⟨v1, f1, p, vs, rfl, f2, f3, f4⟩ := rr.rep j _ ey
            rw [kp j hj hown, e1] at f1
            cases f1
            split at ef
            · rename_i en
              rw [← ef] at q
              refine .inl ⟨⟨vs, SqL.of f2, ?_⟩, q F' H' fp' sg' st rr kp⟩
              rw [f3.length]
              exact List.getElem?_eq_none_iff.mp en
            · rename_i d hd
              obtain ⟨y0, hy0, hy1⟩ := f3.get hd
              cases eg : g d r' with
              | none =>
                rw [eg] at ef
                rw [← ef] at q
                exact q.elim
              | some ra =>
                rw [eg] at ef
                simp only at ef
                have owa := hg.2 d r' ra eg
                refine .inr ⟨⟨vs, y0, SqL.of f2, hy0⟩, fun sg2 H2 => ∃ F' fp' r', Stp F H fp F' H2 fp' ∧ R K O F' H2 r' sg2 fp' ∧ KP ar rho sg sg2 ∧ Ow ar rho r' ∧ forL j g b m (i + 1) r' = res,
                  fun sg2 H2 ⟨F2, fp2, r2, h1, h3, h4, h5, h6⟩ => ⟨m, Nat.lt_succ_self m, F2, fp2, r2, h1, h3, h4, h5, h6⟩, fun y Hy hy => ?_⟩
                obtain ⟨rfl, hy⟩ := hy
                have hy := hy vs (SqL.of f2)
                rw [hy0] at hy
                cases hy
                refine ⟨d, r', ra, eg, F', fp', rr, hy1, fun sg2 fpa qa hfa kpa hsl => ⟨ra, ?_⟩⟩
                have sa : Stp F H fp F' _ fpa := ⟨st.grow, st.new, st.frame, fun j b z => st.fps j b (hfa j b z), st.stay⟩
                have kp2 : KP ar rho sg sg2 := fun j h1 h2 => (kpa j h1 (kow j h1 h2)).trans (kp j h1 h2)
                have ow2 : Ow ar rho ra := kow.trans owa
                have kob := hb.ko ra
                refine ⟨F', fpa, qa, ?_⟩
                cases eb : b ra with
                | no =>
                  rw [eb] at ef
                  have ef : Rs.no = res := ef
                  rw [← ef] at q
                  exact q
                | ex x rb =>
                  rw [eb] at ef
                  have ef : Rs.ex x rb = res := ef
                  rw [← ef] at q
                  intro F3 H3 fp3 sg3 d3 s3 q3 kp3 p3
                  exact q F3 H3 fp3 sg3 d3 (sa.trans s3) q3 (fun j h1 h2 => (kp3 j h1 (ow2 j h1 h2)).trans (kp2 j h1 h2)) p3
                | ok fl rb =>
                  rw [eb] at ef kob
                  have kob : Ow ar ra rb := kob
                  simp only [Rs.bind] at ef
                  intro F3 H3 fp3 sg3 s3 q3 kp3
                  have kp4 : KP ar rho sg sg3 := fun j h1 h2 => (kp3 j h1 (ow2 j h1 h2)).trans (kp2 j h1 h2)
                  cases fl with
                  | nx => exact ⟨F3, fp3, rb, sa.trans s3, q3, kp4, ow2.trans kob, ef⟩
                  | ct => exact ⟨F3, fp3, rb, sa.trans s3, q3, kp4, ow2.trans kob, ef⟩
                  | bk =>
                    have ef : Rs.ok Fl.nx rb = res := ef
                    rw [← ef] at q
                    exact q F3 H3 fp3 sg3 (sa.trans s3) q3 kp4
                  | rt u =>
                    have ef : Rs.ok (Fl.rt u) rb = res := ef
                    rw [← ef] at q
                    exact fun v p => q F3 H3 fp3 sg3 (sa.trans s3) q3 kp4 v (p.back sa.stay)
          · rw [← ef] at q
            exact q.elim
      · exact PSno
    · exact std.ps rho
  · unfold sForP
    split
    · split
      · exact forL_ko hg.2 hb.ko _ _ _
      · exact True.intro
    · exact std.ko rho
/-- while, at most n turns -/
def whileN (t : XT) (b : X2) : Nat → Env → Rs Fl
  | 0, _ => .no
  | n + 1, r => (t r).bind fun c r1 => if c = true then (b r1).bind fun fl r2 => match fl with
      | .nx => whileN t b n r2
      | .ct => whileN t b n r2
      | .bk => .ok .nx r2
      | .rt u => .ok (.rt u) r2
    else .ok .nx r1
theorem whileN_ko {t : XT} {b : X2} (ht : KpF ar t) (hb : ∀ r, Ko ar r (b r)) : ∀ (n : Nat) (r : Env), Ko ar r (whileN t b n r)
  | 0, r => True.intro
  | n + 1, r => Ko.bind (ht r).ko fun c r1 => by
    split
    · refine Ko.bind (hb r1) fun fl r2 => ?_
      cases fl with
      | nx => exact whileN_ko ht hb n r2
      | ct => exact whileN_ko ht hb n r2
      | bk => exact Ow.refl ar r2
      | rt u => exact Ow.refl ar r2
    · exact Ow.refl ar r1
theorem okS_while {n : Nat} {t : XT} {b : X2} {c : Expr} {body : List Stmt} {pos : Pos} (hpo : PassesOwn (model X.prog X.w) X.A X.env X.xe) (ht : OkT K O X W t c) (kt : KpF ar t) (hb : OkSs K O X W ar b body) : OkS K O X W ar (whileN t b n) (.While c body [] pos) := by
  refine ⟨fun rho => ?_, whileN_ko kt hb.ko n⟩
  let tt : TT := fun sg H Q => ∃ rho, tEvT K O W rho (t rho) sg H Q
  let tb : TS := fun D sg H => ∃ rho, tSt K O W ar rho (b rho) D sg H
  have pt : PT X c tt := ⟨fun pins s' sg H' Q I q => by
    obtain ⟨r0, q⟩ := q
    exact (ht r0).run pins s' sg H' Q I q⟩
  have pb : PSs X body tb := ⟨fun pins s' sg H' D I q => by
    obtain ⟨r0, q⟩ := q
    exact (hb.ps r0).run pins s' sg H' D I q⟩
  generalize hres : whileN t b n rho = res
  refine PSimp (ps_while hpo pt pb) fun D sg H q => ?_
  obtain ⟨F, fp, r, q⟩ := q
  refine ⟨fun m sg' H' => ∃ F' fp' r', Stp F H fp F' H' fp' ∧ R K O F' H' r' sg' fp' ∧ KP ar rho sg sg' ∧ Ow ar rho r' ∧ whileN t b m r' = res, ⟨n, F, fp, rho, Stp.refl _ _ _, r, KP.refl, Ow.refl ar rho, hres⟩, ?_⟩
  rintro m sg' H' ⟨F', fp', r', st, rr, kp, kow, ef⟩
  cases m with
  | zero =>
    have ef : Rs.no = res := ef
    rw [← ef] at q
    exact q.elim
  | succ m =>
    unfold whileN at ef
    have kot := (kt r').ko
    refine ⟨r', F', fp', rr, ?_⟩
    cases et : t r' with
    | no =>
      rw [et] at ef
      have ef : Rs.no = res := ef
      rw [← ef] at q
      exact q
    | ex x r1 =>
      rw [et] at ef
      have ef : Rs.ex x r1 = res := ef
      rw [← ef] at q
      exact fun F1 H1 fp1 d s1 q1 p1 => q F1 H1 fp1 sg' d (st.trans s1) q1 kp p1
    | ok c1 r1 =>
      rw [et] at ef kot
      have kot : Ow ar r' r1 := kot
      simp only [Rs.bind] at ef
      intro F1 H1 fp1 s1 q1
      cases c1 with
      | false =>
        rw [if_neg Bool.false_ne_true] at ef
        rw [← ef] at q
        exact iteF (q F1 H1 fp1 sg' (st.trans s1) q1 kp)
      | true =>
        rw [if_pos rfl] at ef
        refine iteT ⟨fun sg2 H2 => ∃ F' fp' r', Stp F H fp F' H2 fp' ∧ R K O F' H2 r' sg2 fp' ∧ KP ar rho sg sg2 ∧ Ow ar rho r' ∧ whileN t b m r' = res, fun sg2 H2 ⟨F2, fp2, r2, h1, h2, h3, h4, h5⟩ => ⟨m, Nat.lt_succ_self m, F2, fp2, r2, h1, h2, h3, h4, h5⟩, r1, F1, fp1, q1, ?_⟩
        have ow1 : Ow ar rho r1 := kow.trans kot
        have kob := hb.ko r1
        have sa := st.trans s1
        cases eb : b r1 with
        | no =>
          rw [eb] at ef
          have ef : Rs.no = res := ef
          rw [← ef] at q
          exact q
        | ex x rb =>
          rw [eb] at ef
          have ef : Rs.ex x rb = res := ef
          rw [← ef] at q
          intro F3 H3 fp3 sg3 d3 s3 q3 kp3 p3
          exact q F3 H3 fp3 sg3 d3 (sa.trans s3) q3 (fun j h1 h2 => (kp3 j h1 (ow1 j h1 h2)).trans (kp j h1 h2)) p3
        | ok fl rb =>
          rw [eb] at ef kob
          have kob : Ow ar r1 rb := kob
          simp only at ef
          intro F3 H3 fp3 sg3 s3 q3 kp3
          have kp4 : KP ar rho sg sg3 := fun j h1 h2 => (kp3 j h1 (ow1 j h1 h2)).trans (kp j h1 h2)
          cases fl with
          | nx => exact ⟨F3, fp3, rb, sa.trans s3, q3, kp4, ow1.trans kob, ef⟩
          | ct => exact ⟨F3, fp3, rb, sa.trans s3, q3, kp4, ow1.trans kob, ef⟩
          | bk =>
            have ef : Rs.ok Fl.nx rb = res := ef
            rw [← ef] at q
            exact q F3 H3 fp3 sg3 (sa.trans s3) q3 kp4
          | rt u =>
            have ef : Rs.ok (Fl.rt u) rb = res := ef
            rw [← ef] at q
            exact fun v p => q F3 H3 fp3 sg3 (sa.trans s3) q3 kp4 v (p.back sa.stay)
end
end Sn
namespace Sn
open PySem L2
/-! ### from a text to what comes of it -/
def ixOf (c : Ctx) (x : Str) : Option Nat :=
  if c.N[c.N.idxOf x]? = some x ∧ ¬ x = "__debug__" ∧ ¬ x = "__classdict__" then match c.sc.names.lookup x with
    | some .local => some (c.N.idxOf x)
    | some .cell => some (c.N.idxOf x)
    | some .free => some (c.N.idxOf x)
    | _ => none
  else none
def isGl (c : Ctx) (x : Str) : Bool := decide (c.sc.names.lookup x = some .globalImplicit) && decide (¬ x = "__debug__") && decide (¬ x = "__name__")
def isBl (c : Ctx) (x : Str) : Bool := isGl c x && c.bl.contains x
/-- a built-in type's name, as a value -/
def tyNm (x : Str) : Option String := if x = "str" then some "str" else if x = "int" then some "int" else if x = "bool" then some "bool" else if x = "list" then some "list" else if x = "tuple" then some "tuple" else if x = "dict" then some "dict" else none
def cN (c : Ctx) (x : Str) : X1 := match ixOf c x with
  | some i => xVar i
  | none => if isGl c x = true then match c.gl.lookup x with
      | some d => xD d
      | none => if c.bl.contains x = true then match tyNm x with
          | some n => xD (.val (.ty n))
          | none => xNo
        else xNo
    else xNo
def noSet : Expr → Bool
  | .Set _ _ _ => false
  | _ => true
def noSlice : Expr → Bool
  | .Slice _ _ _ _ => false
  | _ => true
def plainE : Expr → Bool
  | .UnaryOp .Not _ _ => false
  | .BoolOp _ _ _ => false
  | .IfExp _ _ _ _ => false
  | .Compare _ _ _ _ => false
  | _ => true
def noComp : Expr → Bool
  | .ListComp _ _ _ _ => false
  | .SetComp _ _ _ _ => false
  | .DictComp _ _ _ _ _ => false
  | _ => true
def baseOk : Expr → Bool
  | .Call (.Name _ _) [] [] _ => false
  | _ => true
/-- a call of a built-in by its name -/
inductive BI where
  | len | max | min | all | any | isi | int | str | list | dict
def biOf (x : Str) : Option BI := if x = "len" then some .len else if x = "max" then some .max else if x = "min" then some .min else if x = "all" then some .all else if x = "any" then some .any else if x = "isinstance" then some .isi
  else if x = "int" then some .int else if x = "str" then some .str else if x = "list" then some .list else if x = "dict" then some .dict else none
def BI.f : BI → List A → Option Rv
  | .len => fun as => match as with
    | [a] => (lenA a).map .d
    | _ => none
  | .max => maxA
  | .min => minA
  | .all => fun as => match as with
    | [a] => (allA false a).map .d
    | _ => none
  | .any => fun as => match as with
    | [a] => (allA true a).map .d
    | _ => none
  | .isi => isiA
  | .int => fun as => match as with
    | [a] => (intA a).map .d
    | _ => none
  | .str => fun as => match as with
    | [a] => (strA a).map .d
    | _ => none
  | .list => lstA
  | .dict => dictA
/-- a method of a built-in type -/
inductive MI where
  | app | ext | ins | pop | clr | rev | join | split | cnt | sdf
def miOf (m : Str) (n : Nat) : Option MI := if m = "append" ∧ n = 1 then some .app else if m = "extend" ∧ n = 1 then some .ext else if m = "insert" ∧ n = 2 then some .ins else if m = "pop" ∧ n = 0 then some .pop else if m = "clear" ∧ n = 0 then some .clr
  else if m = "reverse" ∧ n = 0 then some .rev else if m = "join" ∧ n = 1 then some .join else if m = "split" ∧ n = 1 then some .split else if m = "count" ∧ n = 1 then some .cnt else if m = "setdefault" ∧ n = 2 then some .sdf else none
def MI.T : MI → MT
  | .join => .str | .split => .str | .cnt => .str | .sdf => .dict
  | _ => .list
def MI.f : MI → MA
  | .app => appA | .ext => extA | .ins => insA | .pop => popA | .clr => clrA | .rev => revA | .join => joinA | .split => splitA | .cnt => cntA | .sdf => sdfA
/-- a comprehension's own names by their slots -/
def ownOf (c : Ctx) (scope : Scope) : List (Str × Nat) := (scope.names.filter fun p => match p.2 with
  | .local => c.N.contains p.1
  | .cell => c.N.contains p.1
  | _ => false).map fun p => (p.1, c.N.idxOf p.1)
def stOf (scope sc : Scope) : List Str := ((relS scope sc).names.filter fun p => decide ((relS scope sc).names.lookup p.1 = some .local) || (decide ((relS scope sc).names.lookup p.1 = some .cell) && decide (scope.names.lookup p.1 = some .cell))).map (·.1)
def blkCtx (c : Ctx) (scope : Scope) : Ctx := ⟨c.toNm, c.N, relS scope c.sc, c.ar, stOf scope c.sc⟩
/-- a target: names, tuples of names -/
def cG (c : Ctx) : Expr → Option (XG × List Nat)
  | .Name x _ => if c.st.contains x = true ∧ c.N[c.N.idxOf x]? = some x then some (gN c.ar (c.N.idxOf x), [c.N.idxOf x]) else none
  | _ => none
def cGs (c : Ctx) : List Expr → Option (List XG × List Nat)
  | [] => some ([], [])
  | e :: es => match cG c e, cGs c es with
    | some (g, s), some (gs, ss) => some (g :: gs, s ++ ss)
    | _, _ => none
def cTg (c : Ctx) (e : Expr) : Option (XG × List Nat) := match e with
  | .Name x p => cG c (.Name x p)
  | .Tuple es _ _ => match cGs c es with
    | some (gs, ss) => some (gT gs, ss)
    | none => none
  | _ => none
def isTup : Expr → Bool
  | .Tuple _ _ _ => true
  | _ => false
def xFzs (ar : Nat) : List X1 → XA
  | [] => xaNil
  | x :: xs => xaCons (xFz ar x) (xFzs ar xs)
def xArs (ar : Nat) : List X1 → XA
  | [] => xaNil
  | x :: xs => xaCons (xAr ar x) (xArs ar xs)
def xIos (ar : Nat) : List Bool → List X1 → XA
  | _, [] => xaNil
  | true :: io, x :: xs => xaCons (xAr ar x) (xIos ar io xs)
  | false :: io, x :: xs => xaCons (xFz ar x) (xIos ar io xs)
  | [], x :: xs => xaCons (xFz ar x) (xIos ar [] xs)
def boolE (op : PySem.BoolOp) : List X1 → X1
  | [] => xNo
  | [x] => x
  | x :: y :: xs => match op with
    | .And => xAnd x (boolE op (y :: xs))
    | .Or => xOr x (boolE op (y :: xs))
def boolT (op : PySem.BoolOp) : List XT → XT
  | [] => xtNo
  | [x] => x
  | x :: y :: xs => match op with
    | .And => xtAnd x (boolT op (y :: xs))
    | .Or => xtOr x (boolT op (y :: xs))
/-- a op b op' d -/
def xCh (o o' : CmpOp) (a b d : X1) : X1 := fun r => (a r).bind fun u r1 => (b r1).bind fun w r2 => match u.at r2, w.at r2 with
  | some p, some q => match cmpA o p q with
    | some true => (d r2).bind fun z r3 => match w.at r3, z.at r3 with
      | some q', some s => match cmpA o' q' s with
        | some k => .ok (.d (.bl k)) r3
        | none => .no
      | _, _ => .no
    | some false => .ok (.d (.bl false)) r2
    | none => .no
  | _, _ => .no
def xTests : List XT → XT
  | [] => fun r => .ok true r
  | [t] => t
  | _ => xtNo
def kwNm : Keyword → Bool
  | ⟨some _, _, _⟩ => true
  | _ => false
def kwN : Keyword → Str
  | ⟨some x, _, _⟩ => x
  | _ => ""
def kwV : Keyword → Expr
  | ⟨_, e, _⟩ => e
/-- a name whose list stays a list of its own while it is gone through -/
def lvOf (c : Ctx) : Expr → Option Nat
  | .Name y _ => if c.lv.contains y = true then ixOf c y else none
  | _ => none
mutual
def cE (c : Ctx) : Nat → Expr → X1
  | 0, _ => xNo
  | n + 1, e => match e with
    | .Constant (.int i) _ _ => xD (.int i)
    | .Constant (.bool b) _ _ => xD (.bl b)
    | .Constant .none _ _ => xD .non
    | .Constant (.str x) _ _ => xD (.str x)
    | .Name x _ => cN c x
    | .BinOp a op b _ => x2 (binA op) (cE c n a) (cE c n b)
    | .UnaryOp .Not a _ => xNot (cE c n a)
    | .UnaryOp .USub a _ => xNeg (cE c n a)
    | .BoolOp op es _ => boolE op (cEs c n es)
    | .Compare a [op] [b] _ => if noSet b = true then x2 (fun p q => bl? (cmpA op p q)) (cE c n a) (cE c n b) else xNo
    | .Compare a [o, o'] [b, d] _ => if noSet d = true then xCh o o' (cE c n a) (cE c n b) (cE c n d) else xNo
    | .IfExp t a b _ => xIf (cT c n t) (cE c n a) (cE c n b)
    | .Subscript a (.Slice lo hi none _) _ => xSl (cE c n a) (cO c n lo) (cO c n hi)
    | .Subscript a i _ => if noSlice i = true then x2 idxA (cE c n a) (cE c n i) else xNo
    | .Tuple es _ _ => if es.all notStar = true then xTup (xFzs c.ar (cEs c n es)) else xNo
    | .List es _ => if es.all notStar = true then xLst (xFzs c.ar (cEs c n es)) else xNo
    | .Dict [] [] _ => xDic0
    | .Call (.Name x _) (a :: as) [] _ => if (a :: as).all notStar = true ∧ isGl c x = true then match c.fns.lookup x with
        | some f => xCF f (xIos c.ar f.io (cEs c n (a :: as)))
        | none => if c.bl.contains x = true then match biOf x with
            | some b => xCB b.f (xArs c.ar (cEs c n (a :: as)))
            | none => xNo
          else xNo
      else xNo
    | .Call (.Name x _) as (k :: ks) _ => if as.all notStar = true ∧ isGl c x = true ∧ (k :: ks).all kwNm = true then match c.kfn.lookup (x, as.length, (k :: ks).map kwN) with
        | some (f, pat) => xCFK f pat (xIos c.ar f.io (cEs c n as)) (xFzs c.ar (cEs c n ((k :: ks).map kwV)))
        | none => xNo
      else xNo
    | .Call (.Attribute (.Call (.Attribute (.Name f p1) m1 ap1) [.Name k p2, .List [] p3] [] cp1) m ap) [.Name y p4] [] cp => if m1 = "setdefault" ∧ m = "append" ∧ (ap1.endLine == cp1.line) = true ∧ (ap.endLine == cp.line) = true then match ixOf c f, ixOf c k, ixOf c y with
        | some i, some j, some l => xSdA i j l
        | _, _, _ => xNo
      else xNo
    | .Call (.Attribute o m ap) as [] cp => if as.all notStar = true ∧ baseOk o = true ∧ (ap.endLine == cp.line) = true ∧ as.length < 20 then match miOf m as.length with
        | some k => xMe k.T k.f (cE c n o) (xFzs c.ar (cEs c n as))
        | none => xNo
      else xNo
    | .ListComp el [⟨tg, it, ifs, 0⟩] sc _ => cLc c n el tg it ifs sc
    | _ => xNo
def cLc (c : Ctx) : Nat → Expr → Expr → Expr → List Expr → Scope → X1
  | 0, _, _, _, _, _ => xNo
  | n + 1, el, tg, it, ifs, sc => if blkC c.N c.sc sc (ownOf c sc) = true ∧ noSet it = true then match cTg (blkCtx c sc) tg with
      | some (g, sl) => if sl.all (fun i => ((ownOf c sc).map (·.2)).contains i) = true then match lvOf c it with
        | some j => xLcL c.ar ((ownOf c sc).map (·.2)) j g (xTests (cTs (blkCtx c sc) n ifs)) (xFz c.ar (cE (blkCtx c sc) n el))
        | none => xLc ((ownOf c sc).map (·.2)) (cI c n tg it) g (xTests (cTs (blkCtx c sc) n ifs)) (xFz c.ar (cE (blkCtx c sc) n el))
        else xNo
      | none => xNo
    else xNo
def cT (c : Ctx) : Nat → Expr → XT
  | 0, _ => xtNo
  | n + 1, e => match e with
    | .UnaryOp .Not a _ => xtNot (cT c n a)
    | .BoolOp op es _ => boolT op (cTs c n es)
    | .Compare _ _ _ _ => xtB (cE c n e)
    | .IfExp _ _ _ _ => xtNo
    | _ => xtT (cE c n e)
def cEs (c : Ctx) : Nat → List Expr → List X1
  | 0, es => es.map fun _ => xNo
  | _ + 1, [] => []
  | n + 1, e :: es => cE c n e :: cEs c n es
def cTs (c : Ctx) : Nat → List Expr → List XT
  | 0, es => es.map fun _ => xtNo
  | _ + 1, [] => []
  | n + 1, e :: es => cT c n e :: cTs c n es
def cO (c : Ctx) : Nat → Option Expr → Option X1
  | _, none => none
  | 0, some _ => some xNo
  | n + 1, some e => some (cE c n e)
def cI (c : Ctx) : Nat → Expr → Expr → XI
  | 0, _, _ => fun _ => .no
  | n + 1, tg, it => match it with
    | .Call (.Name x _) [a] [] _ => if x = "range" ∧ isBl c x = true ∧ notStar a = true then xRg1 (xFzs c.ar (cEs c n [a]))
      else if x = "enumerate" ∧ isBl c x = true ∧ notStar a = true ∧ isTup tg = true then xEn (xFzs c.ar (cEs c n [a])) else xIt (xFz c.ar (cE c n it))
    | .Call (.Name x _) [a, b] [] _ => if x = "range" ∧ isBl c x = true ∧ notStar a = true ∧ notStar b = true then xRg2 (xFzs c.ar (cEs c n [a, b]))
      else if x = "zip" ∧ isBl c x = true ∧ notStar a = true ∧ notStar b = true ∧ isTup tg = true then xZp (xFzs c.ar (cEs c n [a, b])) else xIt (xFz c.ar (cE c n it))
    | .Call (.Attribute o m ap) [] [] cp => if m = "items" ∧ isTup tg = true ∧ baseOk o = true ∧ (ap.endLine == cp.line) = true then xItm (cE c n o) else xIt (xFz c.ar (cE c n (.Call (.Attribute o m ap) [] [] cp)))
    | it => xIt (xFz c.ar (cE c n it))
end
end Sn
namespace Sn
open PySem L2
/-! ### what the shapes of the text give -/
theorem noSet_fold {e : Expr} {env : PySem.Env} (h : noSet e = true) : ∀ x, foldedSetIterable e env x = pure x := fun x => by
  cases e <;> first | rfl | cases h
theorem noSet_marks {op : CmpOp} {e : Expr} (h : noSet e = true) : behindInMarks op e = false := by
  cases e <;> first | rfl | cases h
theorem noSlice_ix {e : Expr} (h : noSlice e = true) : PlainIx e := fun o i => by
  cases e <;> first | rfl | cases h
theorem plain_true {e : Expr} {env : PySem.Env} (h : plainE e = true) : ∀ whole, isTrue e env whole = (do let v ← whole; standAt e.pos; holding [v] (truthy v)) := fun whole => by
  cases e with
  | UnaryOp op a pos => cases op <;> first | (cases h; done) | (unfold PySem.isTrue; rfl)
  | BoolOp op es pos => cases h
  | IfExp a b d pos => cases h
  | Compare a b d pos => cases h
  | _ => unfold PySem.isTrue; rfl
theorem base_ok {o : Expr} {m : Str} {env : PySem.Env} {w : Sem Value} (h : baseOk o = true) : attributeBase o m env w = w := by
  unfold attributeBase
  split
  · cases h
  · rfl
theorem star_each {es : List Expr} {env : PySem.Env} (h : es.all notStar = true) : starEach es env = es.map fun e => (false, eval e env) := by
  induction es with
  | nil => unfold starEach; rfl
  | cons e es ih =>
    rw [List.all_cons, Bool.and_eq_true] at h
    rw [star_cons h.1, ih h.2]
    rfl
theorem star_any {es : List Expr} {env : PySem.Env} {pos : Pos} (h : es.all notStar = true) : (backTo pos (starEach es env)).any (·.1) = false := by
  rw [star_each h]
  unfold backTo
  rw [List.any_eq_false]
  intro x hx
  simp only [List.map_map, List.mem_map, Function.comp] at hx
  obtain ⟨e, _, rfl⟩ := hx
  exact fun z => nomatch z
theorem star_few {es : List Expr} {env : PySem.Env} {pos : Pos} (h : es.all notStar = true) (hl : es.length < 20) : ((backTo pos (starEach es env)).all (fun x => !x.1) && (backToKw pos (keywordEach [] env)).all (fun x => x.1.isSome)
      && decide (es.length + ([] : List Keyword).length + (if ([] : List Keyword).isEmpty then 0 else 1) < 30)) = true := by
  rw [Bool.and_eq_true, Bool.and_eq_true]
  refine ⟨⟨?_, by unfold keywordEach; rfl⟩, decide_eq_true (show es.length + 0 + 0 < 30 by omega)⟩
  rw [List.all_eq_true, star_each h]
  intro x hx
  unfold backTo at hx
  simp only [List.map_map, List.mem_map, Function.comp] at hx
  obtain ⟨e, _, rfl⟩ := hx
  rfl
section
variable {K : PySem.W.Frag} {O : OR} {c : Ctx} {X : Cx} {W : WX}
/-! ### two parts and what comes of them, told of any wish that can be weakened -/
theorem ok_2P {a b : Expr} {xa xb : X1} {f : A → A → Option Rv} {Rul : R2 → Prop} (P : TE → Prop) (imp : ∀ t t' : TE, P t → (∀ sg H Q, t' sg H Q → t sg H Q) → P t') (no : P tF) (ok : ORok O) (hF : Rul rF) (hr : ∀ r ta tb, Rul r → PE X a ta → PE X b tb → P (tOp r ta tb)) (sf : Sound2 K O Rul f) (ha : OkE K O X W xa a) (hb : OkE K O X W xb b) : ∀ rho, P (tEv K O W rho (x2 f xa xb rho)) := by
  intro rho
  have no' : P (tEv K O W rho .no) := imp _ _ no fun sg H Q q => by obtain ⟨F, fp, r, q⟩ := q; exact (show False from q).elim
  have ka := ha rho
  unfold x2
  cases ea : xa rho with
  | no => exact no'
  | ex x r1 =>
    rw [ea] at ka
    refine imp _ _ (hr rF _ tF hF ka pe_F) fun sg H Q q => ?_
    obtain ⟨F, fp, r, q⟩ := q
    exact ⟨F, fp, r, q⟩
  | ok u r1 =>
    rw [ea] at ka
    have kb := hb r1
    show P (tEv K O W rho ((xb r1).bind fun w r2 => match u.at r2, w.at r2 with
      | some p, some q => match f p q with
        | some z => .ok z r2
        | none => .no
      | _, _ => .no))
    cases eb : xb r1 with
    | no => exact no'
    | ex x r2 =>
      rw [eb] at kb
      refine imp _ _ (hr rF _ _ hF ka kb) fun sg H Q q => ?_
      obtain ⟨F, fp, r, q⟩ := q
      refine ⟨F, fp, r, fun F1 H1 fp1 v s1 r1 p1 => ⟨F1, fp1, r1, fun F2 H2 fp2 d s2 r2 p2 => ?_⟩⟩
      exact q F2 H2 fp2 d (s1.trans s2) r2 p2
    | ok w r2 =>
      rw [eb] at kb
      show P (tEv K O W rho (match u.at r2, w.at r2 with
        | some p, some q => match f p q with
          | some z => .ok z r2
          | none => .no
        | _, _ => .no))
      cases eu : u.at r2 with
      | none => exact no'
      | some p =>
        cases ew : w.at r2 with
        | none => exact no'
        | some q =>
          show P (tEv K O W rho (match f p q with
          | some z => .ok z r2
          | none => .no))
          cases ez : f p q with
          | none => exact no'
          | some z =>
            obtain ⟨rr, hrr, hs⟩ := sf p q z ez
            refine imp _ _ (hr rr _ _ hrr ka kb) fun sg H Q k => ?_
            obtain ⟨F, fp, r, k⟩ := k
            refine ⟨F, fp, r, fun F1 H1 fp1 v s1 r1' p1 => ⟨F1, fp1, r1', fun F2 H2 fp2 v2 s2 r2' p2 => ?_⟩⟩
            obtain ⟨S, hS, _⟩ := (p1.keep ok s2).get r2' eu
            obtain ⟨T, hT, _⟩ := p2.get r2' ew
            refine hs F2 H2 r2 sg fp2 v v2 S T Q r2' hS hT fun F3 H3 fp3 v3 s3 r3 p3 => ?_
            have st := s1.trans s2
            exact k F3 H3 fp3 v3 (st.trans s3) r3 (p3.back st.stay)
theorem okT_ofT {x : X1} {e : Expr} (h : ∀ rho, PT X e (tTest (tEv K O W rho (x rho)))) : OkT K O X W (xtB x) e := fun rho => by
  have k := h rho
  unfold xtB
  cases ex : x rho with
  | no => exact PTno
  | ex y r1 =>
    rw [ex] at k
    refine PTimp k fun sg H Q q => ?_
    obtain ⟨F, fp, r, q⟩ := q
    exact ⟨F, fp, r, q⟩
  | ok u r1 =>
    rw [ex] at k
    show PT X e (tEvT K O W rho (match u.at r1 with
      | some (.d (.bl b)) => .ok b r1
      | _ => .no))
    split
    · rename_i b eb
      refine PTimp k fun sg H Q q => ?_
      obtain ⟨F, fp, r, q⟩ := q
      refine ⟨F, fp, r, fun F1 H1 fp1 v s1 q1 p1 => ?_⟩
      obtain ⟨S, hS, _⟩ := p1.get q1 eb
      exact ⟨b, hS.bl, q F1 H1 fp1 s1 q1⟩
    · exact PTno
theorem tTest_imp {e : Expr} (t t' : TE) (h : PT X e (tTest t)) (i : ∀ sg H Q, t' sg H Q → t sg H Q) : PT X e (tTest t') := PTimp h fun sg H Q q => i _ _ _ q
theorem pt_F {e : Expr} : PT X e (tTest tF) := ⟨fun _ _ _ _ _ _ z => (show False from z).elim⟩
/-- one comparison, as a value and as a test -/
theorem ok_cmp (ok : ORok O) (hK : X.K = K) (hu : X.A.units + 65 < cLine) {op : CmpOp} {a b : Expr} {xa xb : X1} {pos : Pos} (hb' : noSet b = true) (ha : OkE K O X W xa a) (hb : OkE K O X W xb b) :
    OkE K O X W (x2 (fun p q => bl? (cmpA op p q)) xa xb) (.Compare a [op] [b] pos) ∧ OkT K O X W (xtB (x2 (fun p q => bl? (cmpA op p q)) xa xb)) (.Compare a [op] [b] pos) :=
  ⟨ok_2 ok opF (fun r ta tb ho pa pb => pe_cmpR ho pa pb (noSet_marks hb')) (sound_cmp hK hu op) ha hb,
   okT_ofT (ok_2P (fun t => PT X _ (tTest t)) tTest_imp pt_F ok opF (fun r ta tb ho pa pb => pt_cmpR ho pa pb (noSet_marks hb')) (sound_cmp hK hu op) ha hb)⟩
/-- a chain of two -/
theorem ok_chP {o o' : CmpOp} {a b d : Expr} {xa xb xd : X1} (P : TE → Prop) (imp : ∀ t t' : TE, P t → (∀ sg H Q, t' sg H Q → t sg H Q) → P t') (no : P tF) (ok : ORok O) (hK : X.K = K) (hu : X.A.units + 65 < cLine)
    (hr : ∀ r r' ta tb tc, OpR X (compareOp o) r → OpR X (compareOp o') r' → PE X a ta → PE X b tb → PE X d tc → P (tChain r r' ta tb tc)) (ha : OkE K O X W xa a) (hb : OkE K O X W xb b) (hd : OkE K O X W xd d) : ∀ rho, P (tEv K O W rho (xCh o o' xa xb xd rho)) := by
  intro rho
  have no' : ∀ {rho}, P (tEv K O W rho .no) := imp _ _ no fun sg H Q q => by obtain ⟨F, fp, r, q⟩ := q; exact (show False from q).elim
  have ka := ha rho
  unfold xCh
  cases ea : xa rho with
  | no => exact no'
  | ex x r1 =>
    rw [ea] at ka
    refine imp _ _ (hr rF rF _ tF tF opF opF ka pe_F pe_F) fun sg H Q q => ?_
    obtain ⟨F, fp, r, q⟩ := q
    exact ⟨F, fp, r, q⟩
  | ok u r1 =>
    rw [ea] at ka
    have kb := hb r1
    simp only [Rs.bind]
    cases eb : xb r1 with
    | no => exact no'
    | ex x r2 =>
      rw [eb] at kb
      refine imp _ _ (hr rF rF _ _ tF opF opF ka kb pe_F) fun sg H Q q => ?_
      obtain ⟨F, fp, r, q⟩ := q
      refine ⟨F, fp, r, fun F1 H1 fp1 v s1 r1 p1 => ⟨F1, fp1, r1, fun F2 H2 fp2 d s2 r2 p2 => ?_⟩⟩
      exact q F2 H2 fp2 d (s1.trans s2) r2 p2
    | ok w r2 =>
      rw [eb] at kb
      simp only []
      cases eu : u.at r2 with
      | none => exact no'
      | some p =>
        cases ew : w.at r2 with
        | none => exact no'
        | some q =>
          simp only []
          cases ez : cmpA o p q with
          | none => exact no'
          | some z =>
            obtain ⟨rr, hrr, hs⟩ := sound_cmp (O := O) hK hu o p q (.d (.bl z)) (show bl? (cmpA o p q) = _ by rw [ez]; rfl)
            cases z with
            | false =>
              simp only []
              refine imp _ _ (hr rr rF _ _ tF hrr opF ka kb pe_F) fun sg H Q k => ?_
              obtain ⟨F, fp, r, k⟩ := k
              refine ⟨F, fp, r, fun F1 H1 fp1 v s1 r1' p1 => ⟨F1, fp1, r1', fun F2 H2 fp2 v2 s2 r2' p2 => ?_⟩⟩
              obtain ⟨S, hS, _⟩ := (p1.keep ok s2).get r2' eu
              obtain ⟨T, hT, _⟩ := p2.get r2' ew
              refine hs F2 H2 r2 sg fp2 v v2 S T _ r2' hS hT fun F3 H3 fp3 v3 s3 r3 p3 => ?_
              have st := s1.trans s2
              exact ⟨false, p3, k F3 H3 fp3 _ (st.trans s3) r3 rfl⟩
            | true =>
              simp only []
              have kd := hd r2
              cases ed : xd r2 with
              | no => exact no'
              | ex x r3 =>
                rw [ed] at kd
                refine imp _ _ (hr rr rF _ _ _ hrr opF ka kb kd) fun sg H Q k => ?_
                obtain ⟨F, fp, r, k⟩ := k
                refine ⟨F, fp, r, fun F1 H1 fp1 v s1 r1' p1 => ⟨F1, fp1, r1', fun F2 H2 fp2 v2 s2 r2' p2 => ?_⟩⟩
                obtain ⟨S, hS, _⟩ := (p1.keep ok s2).get r2' eu
                obtain ⟨T, hT, _⟩ := p2.get r2' ew
                refine hs F2 H2 r2 sg fp2 v v2 S T _ r2' hS hT fun F3 H3 fp3 v3 s3 r3 p3 => ?_
                have st := (s1.trans s2).trans s3
                refine ⟨true, p3, ?_⟩
                rw [if_pos rfl]
                exact ⟨F3, fp3, r3, fun F4 H4 fp4 d4 s4 r4 p4 => k F4 H4 fp4 d4 (st.trans s4) r4 p4⟩
              | ok z r3 =>
                rw [ed] at kd
                simp only []
                cases ew3 : w.at r3 with
                | none => exact no'
                | some q' =>
                  cases ez3 : z.at r3 with
                  | none => exact no'
                  | some s =>
                    simp only []
                    cases ek : cmpA o' q' s with
                    | none => exact no'
                    | some k =>
                      simp only []
                      obtain ⟨rr', hrr', hs'⟩ := sound_cmp (O := O) hK hu o' q' s (.d (.bl k)) (show bl? (cmpA o' q' s) = _ by rw [ek]; rfl)
                      refine imp _ _ (hr rr rr' _ _ _ hrr hrr' ka kb kd) fun sg H Q kk => ?_
                      obtain ⟨F, fp, r, kk⟩ := kk
                      refine ⟨F, fp, r, fun F1 H1 fp1 v s1 r1' p1 => ⟨F1, fp1, r1', fun F2 H2 fp2 v2 s2 r2' p2 => ?_⟩⟩
                      obtain ⟨S, hS, _⟩ := (p1.keep ok s2).get r2' eu
                      obtain ⟨T, hT, _⟩ := p2.get r2' ew
                      refine hs F2 H2 r2 sg fp2 v v2 S T _ r2' hS hT fun F3 H3 fp3 v3 s3 r3 p3 => ?_
                      have st := (s1.trans s2).trans s3
                      refine ⟨true, p3, ?_⟩
                      rw [if_pos rfl]
                      refine ⟨F3, fp3, r3, fun F4 H4 fp4 v4 s4 r4 p4 => ?_⟩
                      obtain ⟨S', hS', _⟩ := ((p2.keep ok s3).keep ok s4).get r4 ew3
                      obtain ⟨T', hT', _⟩ := p4.get r4 ez3
                      refine hs' F4 H4 _ sg fp4 v2 v4 S' T' _ r4 hS' hT' fun F5 H5 fp5 v5 s5 r5 p5 => ?_
                      exact kk F5 H5 fp5 v5 ((st.trans s4).trans s5) r5 p5
theorem last_ok {o o' : CmpOp} {b d : Expr} (h : noSet d = true) : lastMarks [o, o'] [b, d] = false := by
  unfold lastMarks
  unfold lastMarks
  exact noSet_marks h
theorem ok_ch (ok : ORok O) (hK : X.K = K) (hu : X.A.units + 65 < cLine) {o o' : CmpOp} {a b d : Expr} {xa xb xd : X1} {pos : Pos} (hd' : noSet d = true) (ha : OkE K O X W xa a) (hb : OkE K O X W xb b) (hd : OkE K O X W xd d) :
    OkE K O X W (xCh o o' xa xb xd) (.Compare a [o, o'] [b, d] pos) ∧ OkT K O X W (xtB (xCh o o' xa xb xd)) (.Compare a [o, o'] [b, d] pos) :=
  ⟨ok_chP (fun t => PE X _ t) (fun t t' h i => PEimp h i) pe_F ok hK hu (fun r r' ta tb tc ho ho' pa pb pc => pe_chain ho ho' pa pb pc (last_ok hd')) ha hb hd,
   okT_ofT (ok_chP (fun t => PT X _ (tTest t)) tTest_imp pt_F ok hK hu (fun r r' ta tb tc ho ho' pa pb pc => pt_chain ho ho' pa pb pc (last_ok hd')) ha hb hd)⟩
theorem kp_Ch {ar : Nat} {o o' : CmpOp} {a b d : X1} (ha : KpF ar a) (hb : KpF ar b) (hd : KpF ar d) : KpF ar (xCh o o' a b d) := fun r => Kp.bind (ha r) fun u r1 => Kp.bind (hb r1) fun w r2 => by
  split
  · split
    · refine Kp.bind (hd r2) fun z r3 => ?_
      split
      · split
        · exact Kr.refl ar r3
        · exact True.intro
      · exact True.intro
    · exact Kr.refl ar r2
    · exact True.intro
  · exact True.intro
end
end Sn
namespace Sn
open PySem L2
section
variable {K : PySem.W.Frag} {O : OR} {c : Ctx} {X : Cx} {W : WX}
/-! ### lists of expressions -/
def OkL (K : PySem.W.Frag) (O : OR) (X : Cx) (W : WX) (ar : Nat) : List X1 → List Expr → Prop
  | [], [] => True
  | x :: xs, e :: es => (OkE K O X W x e ∧ KpF ar x) ∧ OkL K O X W ar xs es
  | _, _ => False
def OkTL (K : PySem.W.Frag) (O : OR) (X : Cx) (W : WX) (ar : Nat) : List XT → List Expr → Prop
  | [], [] => True
  | x :: xs, e :: es => (OkT K O X W x e ∧ KpF ar x) ∧ OkTL K O X W ar xs es
  | _, _ => False
theorem okL_fz (ok : ORok O) {ar : Nat} : ∀ {xs : List X1} {es : List Expr}, OkL K O X W ar xs es → es.all notStar = true → OkA K O X W (xFzs ar xs) es ∧ KpF ar (xFzs ar xs)
  | [], [], _, _ => ⟨okA_nil, kp_aNil⟩
  | [], _ :: _, h, _ => (show False from h).elim
  | _ :: _, [], h, _ => (show False from h).elim
  | x :: xs, e :: es, h, n => by
    rw [List.all_cons, Bool.and_eq_true] at n
    have t := okL_fz ok h.2 n.2
    exact ⟨okA_cons ok n.1 (ok_fz ok h.1.1) t.1, kp_aCons (kp_fz h.1.2) t.2⟩
theorem okL_ar (ok : ORok O) {ar : Nat} : ∀ {xs : List X1} {es : List Expr}, OkL K O X W ar xs es → es.all notStar = true → OkA K O X W (xArs ar xs) es ∧ KpF ar (xArs ar xs)
  | [], [], _, _ => ⟨okA_nil, kp_aNil⟩
  | [], _ :: _, h, _ => (show False from h).elim
  | _ :: _, [], h, _ => (show False from h).elim
  | x :: xs, e :: es, h, n => by
    rw [List.all_cons, Bool.and_eq_true] at n
    have t := okL_ar ok h.2 n.2
    exact ⟨okA_cons ok n.1 (ok_ar ok h.1.1) t.1, kp_aCons (kp_ar h.1.2) t.2⟩
theorem okL_io (ok : ORok O) {ar : Nat} : ∀ {io : List Bool} {xs : List X1} {es : List Expr}, OkL K O X W ar xs es → es.all notStar = true → OkA K O X W (xIos ar io xs) es ∧ KpF ar (xIos ar io xs)
  | _, [], [], _, _ => by
    unfold xIos
    exact ⟨okA_nil, kp_aNil⟩
  | _, [], _ :: _, h, _ => (show False from h).elim
  | _, _ :: _, [], h, _ => (show False from h).elim
  | [], x :: xs, e :: es, h, n => by
    rw [List.all_cons, Bool.and_eq_true] at n
    have t := okL_io (io := []) ok h.2 n.2
    exact ⟨okA_cons ok n.1 (ok_fz ok h.1.1) t.1, kp_aCons (kp_fz h.1.2) t.2⟩
  | true :: io, x :: xs, e :: es, h, n => by
    rw [List.all_cons, Bool.and_eq_true] at n
    have t := okL_io (io := io) ok h.2 n.2
    exact ⟨okA_cons ok n.1 (ok_ar ok h.1.1) t.1, kp_aCons (kp_ar h.1.2) t.2⟩
  | false :: io, x :: xs, e :: es, h, n => by
    rw [List.all_cons, Bool.and_eq_true] at n
    have t := okL_io (io := io) ok h.2 n.2
    exact ⟨okA_cons ok n.1 (ok_fz ok h.1.1) t.1, kp_aCons (kp_fz h.1.2) t.2⟩
theorem okL_bool {op : PySem.BoolOp} {ar : Nat} {pos : Pos} : ∀ {xs : List X1} {es : List Expr}, OkL K O X W ar xs es → OkE K O X W (boolE op xs) (.BoolOp op es pos) ∧ KpF ar (boolE op xs)
  | [], _, _ => ⟨ok_no, kp_no⟩
  | _ :: _, [], h => (show False from h).elim
  | [x], [e], h => ⟨ok_one h.1.1, h.1.2⟩
  | [x], e :: e2 :: es, h => (show False from h.2).elim
  | x :: y :: xs, [e], h => (show False from h.2).elim
  | x :: y :: xs, e :: e2 :: es, h => by
    have t := okL_bool (op := op) (pos := pos) (xs := y :: xs) (es := e2 :: es) h.2
    cases op with
    | And => exact ⟨ok_and h.1.1 t.1, kp_And h.1.2 t.2⟩
    | Or => exact ⟨ok_or h.1.1 t.1, kp_Or h.1.2 t.2⟩
theorem okTL_bool {op : PySem.BoolOp} {ar : Nat} {pos : Pos} : ∀ {xs : List XT} {es : List Expr}, OkTL K O X W ar xs es → es ≠ [] → OkW K O X W (boolT op xs) (.BoolOp op es pos) ∧ KpF ar (boolT op xs)
  | [], [], _, n => (n rfl).elim
  | [], _ :: _, h, _ => (show False from h).elim
  | _ :: _, [], h, _ => (show False from h).elim
  | [x], [e], h, _ => by
    cases op with
    | And => exact ⟨okW_and1 h.1.1, h.1.2⟩
    | Or => exact ⟨okW_or1 h.1.1, h.1.2⟩
  | [x], e :: e2 :: es, h, _ => (show False from h.2).elim
  | x :: y :: xs, [e], h, _ => (show False from h.2).elim
  | x :: y :: xs, e :: e2 :: es, h, _ => by
    have t := okTL_bool (op := op) (pos := pos) (xs := y :: xs) (es := e2 :: es) h.2 (fun z => nomatch z)
    cases op with
    | And => exact ⟨okW_and h.1.1 t.1, kp_tAnd h.1.2 t.2⟩
    | Or => exact ⟨okW_or h.1.1 t.1, kp_tOr h.1.2 t.2⟩
theorem OkW.t {x : XT} {e : Expr} (h : OkW K O X W x e) : OkT K O X W x e := fun rho => (h rho).pt
/-! ### names -/
theorem XOk.units (h : XOk K O c X W) : X.A.units + 65 < cLine := by have := h.room.un; omega
theorem XOk.vis (h : XOk K O c X W) {x : Str} {i : Nat} (e : ixOf c x = some i) : X.N[i]? = some x ∧ Vis X.env.scope x ∧ (x == ("__debug__" : Str)) = false ∧ (x == ("__classdict__" : Str)) = false := by
  unfold ixOf at e
  split at e
  · rename_i hh
    have hd : (x == ("__debug__" : Str)) = false := by
      rw [beq_eq_false_iff_ne]; exact hh.2.1
    have hc : (x == ("__classdict__" : Str)) = false := by
      rw [beq_eq_false_iff_ne]; exact hh.2.2
    rw [h.N]
    unfold Vis
    rw [h.sc]
    split at e
    · rename_i hl; cases e; exact ⟨hh.1, .inl hl, hd, hc⟩
    · rename_i hl; cases e; exact ⟨hh.1, .inr (.inl hl), hd, hc⟩
    · rename_i hl; cases e; exact ⟨hh.1, .inr (.inr hl), hd, hc⟩
    · cases e
  · cases e
theorem XOk.gl_ok (h : XOk K O c X W) {x : Str} (e : isGl c x = true) : Gl X x ∧ (x == ("__debug__" : Str)) = false ∧ x ≠ "__name__" := by
  unfold isGl at e
  rw [Bool.and_eq_true, Bool.and_eq_true, decide_eq_true_eq, decide_eq_true_eq, decide_eq_true_eq] at e
  refine ⟨?_, ?_, e.2⟩
  · unfold Gl PySem.Env.kindOf
    rw [h.sc]
    exact e.1.1
  · rw [beq_eq_false_iff_ne]; exact e.1.2
theorem ty_boot {x : Str} {n : String} (e : tyNm x = some n) : bootBuiltins x = some (.type n) := by
  unfold tyNm at e
  split at e
  · rename_i hx; subst hx; cases e; rfl
  · split at e
    · rename_i hx; subst hx; cases e; rfl
    · split at e
      · rename_i hx; subst hx; cases e; rfl
      · split at e
        · rename_i hx; subst hx; cases e; rfl
        · split at e
          · rename_i hx; subst hx; cases e; rfl
          · split at e
            · rename_i hx; subst hx; cases e; rfl
            · cases e
theorem cN_ok (h : XOk K O c X W) {x : Str} {pos : Pos} : OkE K O X W (cN c x) (.Name x pos) ∧ KpF c.ar (cN c x) := by
  unfold cN
  split
  · rename_i i hi
    obtain ⟨a, b, d, e⟩ := h.vis hi
    exact ⟨ok_var (pe_var a b d e), kp_var⟩
  · split
    · rename_i hg
      obtain ⟨g1, g2, g3⟩ := h.gl_ok hg
      split
      · rename_i d hd
        obtain ⟨v, u, m1, m2, m3⟩ := h.gl x d hd
        exact ⟨ok_c (pe_glob g1 m1 m2 g2) m3, kp_D⟩
      · split
        · rename_i hb
          split
          · rename_i n hn
            exact ⟨ok_c (pe_bltn (v := .ty n) g1 (h.bl x hb) (ty_boot hn) rfl g3 g2) fun F => rfl, kp_D⟩
          · exact ⟨ok_no, kp_no⟩
        · exact ⟨ok_no, kp_no⟩
    · exact ⟨ok_no, kp_no⟩
/-! ### calls of built-ins -/
theorem bi_ok (h : XOk K O c X W) {x : Str} {b : BI} {e : Expr} {es : List Expr} {xs : XA} {p pos : Pos} (hb : biOf x = some b) (hg : isGl c x = true) (hm : X.mg x = none) (hs : (e :: es).all notStar = true) (ha : OkA K O X W xs (e :: es)) :
    OkE K O X W (xCB b.f xs) (.Call (.Name x p) (e :: es) [] pos) := by
  obtain ⟨g1, g2, g3⟩ := h.gl_ok hg
  rw [List.all_cons, Bool.and_eq_true] at hs
  have goB : ∀ {id : String} {f : List A → Option Rv}, bootBuiltins x = some (.builtin id) → SoundC K O (CallR X (.builtin id)) f → OkE K O X W (xCB f xs) (.Call (.Name x p) (e :: es) [] pos) := fun hv sf =>
    ok_cb callF (fun r ta hr pa => pe_callB hr g1 hm hv pa g3 g2 (star_cons hs.1) (star_any hs.2)) sf ha
  have goT : ∀ {id : String} {f : List A → Option Rv}, bootBuiltins x = some (.type id) → SoundC K O (CallR X (.type id)) f → OkE K O X W (xCB f xs) (.Call (.Name x p) (e :: es) [] pos) := fun hv sf =>
    ok_cb callF (fun r ta hr pa => pe_callTy hr g1 hm hv pa g3 g2 (star_cons hs.1) (star_any hs.2)) sf ha
  unfold biOf at hb
  split at hb
  · rename_i hx; subst hx; cases hb; exact goB rfl (sound_len h.hK)
  · split at hb
    · rename_i hx; subst hx; cases hb; exact goB rfl (sound_max h.calm)
    · split at hb
      · rename_i hx; subst hx; cases hb; exact goB rfl (sound_min h.calm)
      · split at hb
        · rename_i hx; subst hx; cases hb; exact goB rfl (sound_all h.hK h.calm)
        · split at hb
          · rename_i hx; subst hx; cases hb; exact goB rfl (sound_any h.hK h.calm)
          · split at hb
            · rename_i hx; subst hx; cases hb; exact goB rfl (sound_isi h.hK)
            · split at hb
              · rename_i hx; subst hx; cases hb; exact goT rfl sound_int
              · split at hb
                · rename_i hx; subst hx; cases hb; exact goT rfl sound_str
                · split at hb
                  · rename_i hx; subst hx; cases hb; exact goT rfl (sound_list h.or h.hK)
                  · split at hb
                    · rename_i hx; subst hx; cases hb; exact goT rfl (sound_dict h.or h.hK h.calm)
                    · cases hb
/-! ### calls with keywords -/
theorem kw_some {env : PySem.Env} {pos : Pos} : ∀ {ks : List Keyword}, ks.all kwNm = true → (backToKw pos (keywordEach ks env)).all (·.1.isSome) = true ∧ (backToKw pos (keywordEach ks env)).filterMap (·.1) = ks.map kwN ∧ (backToKw pos (keywordEach ks env)).any (·.1.isNone) = false
  | [], _ => by unfold keywordEach; exact ⟨rfl, rfl, rfl⟩
  | ⟨nm, e, p⟩ :: ks, h => by
    rw [List.all_cons, Bool.and_eq_true] at h
    obtain ⟨h1, h2, h3⟩ := kw_some (env := env) (pos := pos) h.2
    cases nm with
    | none => cases h.1
    | some x =>
      unfold keywordEach backToKw
      unfold backToKw at h1 h2 h3
      rw [List.map_cons]
      refine ⟨?_, ?_, ?_⟩
      · rw [List.all_cons, h1]; rfl
      · rw [List.filterMap_cons, h2]; rfl
      · rw [List.any_cons, h3]; rfl
theorem okK_fz (ok : ORok O) {ar : Nat} : ∀ {xs : List X1} {ks : List Keyword}, OkL K O X W ar xs (ks.map kwV) → OkK K O X W (xFzs ar xs) ks ∧ KpF ar (xFzs ar xs)
  | [], [], _ => ⟨okK_nil, kp_aNil⟩
  | [], _ :: _, h => (show False from h).elim
  | _ :: _, [], h => (show False from h).elim
  | x :: xs, ⟨nm, e, p⟩ :: ks, h => by
    have t := okK_fz ok h.2
    exact ⟨okK_cons ok (ok_fz ok h.1.1) t.1, kp_aCons (kp_fz h.1.2) t.2⟩
theorem fzs_len {ar : Nat} : ∀ {xs : List X1} {r r' : Env} {us : List Rv}, xFzs ar xs r = .ok us r' → us.length = xs.length
  | [], r, r', us, e => by cases e; rfl
  | x :: xs, r, r', us, e => by
    have e : ((xFz ar x r).bind fun u r1 => (xFzs ar xs r1).bind fun us r2 => .ok (u :: us) r2) = .ok us r' := e
    cases e1 : xFz ar x r with
    | no => rw [e1] at e; cases e
    | ex y z => rw [e1] at e; cases e
    | ok u r1 =>
      rw [e1] at e
      have e : ((xFzs ar xs r1).bind fun us r2 => .ok (u :: us) r2) = .ok us r' := e
      cases e2 : xFzs ar xs r1 with
      | no => rw [e2] at e; cases e
      | ex y z => rw [e2] at e; cases e
      | ok us2 r2 =>
        rw [e2] at e
        cases e
        rw [List.length_cons, List.length_cons, fzs_len e2]
theorem ios_len {ar : Nat} : ∀ {io : List Bool} {xs : List X1} {r r' : Env} {us : List Rv}, xIos ar io xs r = .ok us r' → us.length = xs.length
  | _, [], r, r', us, e => by unfold xIos at e; cases e; rfl
  | io, x :: xs, r, r', us, e => by
    obtain ⟨y, io', hy⟩ : ∃ (y : X1) (io' : List Bool), xIos ar io (x :: xs) = xaCons y (xIos ar io' xs) := by
      cases io with
      | nil => exact ⟨_, [], rfl⟩
      | cons b io =>
        cases b with
        | true => exact ⟨_, io, rfl⟩
        | false => exact ⟨_, io, rfl⟩
    rw [hy] at e
    have e : ((y r).bind fun u r1 => (xIos ar io' xs r1).bind fun us r2 => .ok (u :: us) r2) = .ok us r' := e
    cases e1 : y r with
    | no => rw [e1] at e; cases e
    | ex y z => rw [e1] at e; cases e
    | ok u r1 =>
      rw [e1] at e
      have e : ((xIos ar io' xs r1).bind fun us r2 => .ok (u :: us) r2) = .ok us r' := e
      cases e2 : xIos ar io' xs r1 with
      | no => rw [e2] at e; cases e
      | ex y z => rw [e2] at e; cases e
      | ok us2 r2 =>
        rw [e2] at e
        cases e
        rw [List.length_cons, List.length_cons, ios_len e2]
theorem okL_len {ar : Nat} : ∀ {xs : List X1} {es : List Expr}, OkL K O X W ar xs es → xs.length = es.length
  | [], [], _ => rfl
  | [], _ :: _, h => (show False from h).elim
  | _ :: _, [], h => (show False from h).elim
  | x :: xs, e :: es, h => by rw [List.length_cons, List.length_cons, okL_len h.2]
theorem kw_ok (h : XOk K O c X W) {x : Str} {f : Fn} {pat : List (Nat ⊕ D)} {as : List Expr} {ks : List Keyword} {xs zs : List X1} {p pos : Pos} (hf : c.kfn.lookup (x, as.length, ks.map kwN) = some (f, pat)) (hg : isGl c x = true) (hs : as.all notStar = true) (hk : ks.all kwNm = true) (ha : OkL K O X W c.ar xs as) (hz : OkL K O X W c.ar zs (ks.map kwV)) :
    OkE K O X W (xCFK f pat (xIos c.ar f.io xs) (xFzs c.ar zs)) (.Call (.Name x p) as ks pos) := by
  obtain ⟨g1, g2, g3⟩ := h.gl_ok hg
  obtain ⟨fa, fd, ps, k, g, gV, a1, a2, a3, a4, a5, a6⟩ := h.kf _ _ _ hf
  obtain ⟨k1, k2, k3⟩ := kw_some (env := X.env) (pos := pos) hk
  have lk : ∀ rho us r, xFzs c.ar zs rho = .ok us r → us.length = (ks.map kwN).length := fun rho us r e => by
    rw [fzs_len e, okL_len hz, List.length_map, List.length_map]
  have la : ∀ rho us r, xIos c.ar f.io xs rho = .ok us r → us.length = as.length := fun rho us r e => by
    rw [ios_len e, okL_len ha]
  have PKno' : PK X ks (fun _ _ _ => False) := ⟨fun _ pins s sg H Q I q => q.elim⟩
  cases as with
  | nil =>
    refine okCFK_P (n := 0) (m := (ks.map kwN).length) (gV := gV) (Pa := fun t => ∃ rho, t = tEvA K O W rho (.ok [] rho)) (Pk := fun t => PK X ks t) h.or (fun t tk ht htk => ?_) PKno' a6 (fun rho => ?_) (fun rho => (okK_fz h.or hz).1 rho) la lk
    · obtain ⟨rho, rfl⟩ := ht
      refine PEimp (pe_callSN0 a1 a2 g1 a3 a4 a5 (fun σ => passAt h.tk σ) htk k1 k2 g2 (by rw [k3]; rfl)) fun sg H Q q => ?_
      obtain ⟨F, fp, r, q⟩ := q
      exact q F H fp [] (Stp.refl _ _ _) r rfl
    · have : xs = [] := List.length_eq_zero_iff.mp (okL_len ha)
      subst this
      exact ⟨rho, by unfold xIos; rfl⟩
  | cons e es =>
    have hs' := hs
    rw [List.all_cons, Bool.and_eq_true] at hs'
    refine okCFK_P (n := (e :: es).length) (m := (ks.map kwN).length) (gV := gV) (Pa := fun t => PA X (e :: es) t) (Pk := fun t => PK X ks t) h.or (fun t tk ht htk => ?_) PKno' a6 (fun rho => (okL_io (io := f.io) h.or ha hs).1 rho) (fun rho => (okK_fz h.or hz).1 rho) la lk
    refine pe_callSN a1 a2 g1 a3 a4 a5 (fun σ => passAt h.tk σ) ht htk k1 k2 g2 (star_cons hs'.1) ?_
    rw [k3, star_any hs]
    rfl
/-! ### methods -/
theorem mi_ok (h : XOk K O c X W) {m : Str} {k : MI} {o : Expr} {es : List Expr} {xo : X1} {xs : List X1} {ap pos : Pos} (hb : miOf m es.length = some k) (hbase : baseOk o = true) (hline : (ap.endLine == pos.line) = true) (hl : es.length < 20) (hs : es.all notStar = true) (ho : OkE K O X W xo o) (ha : OkL K O X W c.ar xs es) :
    OkE K O X W (xMe k.T k.f xo (xFzs c.ar xs)) (.Call (.Attribute o m ap) es [] pos) := by
  have go1 : ∀ {T : MT} {id : String} {f : MA} {e : Expr} {es' : List Expr}, es = e :: es' → PlainAttrs T.nm → Slot T.nm m id → typeOf (.builtin id) = pure (.type "method_descriptor") → SoundM K O (MtR X id) f → OkE K O X W (xMe T f xo (xFzs c.ar xs)) (.Call (.Attribute o m ap) es [] pos) := fun he pa sl ty sf => by
    subst he
    have hs' := hs
    rw [List.all_cons, Bool.and_eq_true] at hs'
    exact ok_me h.or h.hK mtF (fun r to ta hr po pa' => pe_bm pa sl ty hr po pa' (base_ok hbase) (star_few hs hl) hline (star_cons hs'.1) (star_any hs'.2)) sf ho (okL_fz h.or ha hs).1
  have go0 : ∀ {T : MT} {id : String} {f : MA}, es = [] → PlainAttrs T.nm → Slot T.nm m id → typeOf (.builtin id) = pure (.type "method_descriptor") → SoundM K O (MtR X id) f → OkE K O X W (xMe T f xo (xFzs c.ar xs)) (.Call (.Attribute o m ap) es [] pos) := fun he pa sl ty sf => by
    subst he
    cases xs with
    | cons a b => exact (show False from ha).elim
    | nil => exact ok_me0 h.or h.hK mtF (fun r to hr po => pe_bm0 pa sl ty hr po (base_ok hbase) hline) sf ho
  have two : ∀ {n : Nat}, es.length = n + 1 → ∃ e es', es = e :: es' := fun e => by
    cases es with
    | nil => cases e
    | cons a b => exact ⟨a, b, rfl⟩
  have nil : es.length = 0 → es = [] := List.length_eq_zero_iff.mp
  unfold miOf at hb
  split at hb
  · rename_i hx; obtain ⟨rfl, hn⟩ := hx; obtain ⟨e, es', he⟩ := two hn; cases hb; exact go1 (T := .list) he PySem.F.plainAttrs_list PySem.F.slot_list_append PySem.F.type_list_append (sound_app h.or)
  · split at hb
    · rename_i hx; obtain ⟨rfl, hn⟩ := hx; obtain ⟨e, es', he⟩ := two hn; cases hb; exact go1 (T := .list) he PySem.F.plainAttrs_list PySem.F.slot_list_extend PySem.F.type_list_extend (sound_ext h.or)
    · split at hb
      · rename_i hx; obtain ⟨rfl, hn⟩ := hx; obtain ⟨e, es', he⟩ := two hn; cases hb; exact go1 (T := .list) he PySem.F.plainAttrs_list PySem.F.slot_list_insert PySem.F.type_list_insert (sound_ins h.or)
      · split at hb
        · rename_i hx; obtain ⟨rfl, hn⟩ := hx; cases hb; exact go0 (T := .list) (nil hn) PySem.F.plainAttrs_list PySem.F.slot_list_pop PySem.F.type_list_pop (sound_pop h.or)
        · split at hb
          · rename_i hx; obtain ⟨rfl, hn⟩ := hx; cases hb; exact go0 (T := .list) (nil hn) PySem.F.plainAttrs_list PySem.F.slot_list_clear PySem.F.type_list_clear (sound_clr h.or)
          · split at hb
            · rename_i hx; obtain ⟨rfl, hn⟩ := hx; cases hb; exact go0 (T := .list) (nil hn) PySem.F.plainAttrs_list PySem.F.slot_list_reverse PySem.F.type_list_reverse (sound_rev h.or)
            · split at hb
              · rename_i hx; obtain ⟨rfl, hn⟩ := hx; obtain ⟨e, es', he⟩ := two hn; cases hb; exact go1 (T := .str) he PySem.F.plainAttrs_str PySem.F.slot_str_join PySem.F.type_str_join (sound_join h.hK)
              · split at hb
                · rename_i hx; obtain ⟨rfl, hn⟩ := hx; obtain ⟨e, es', he⟩ := two hn; cases hb; exact go1 (T := .str) he PySem.F.plainAttrs_str PySem.F.slot_str_split PySem.F.type_str_split (sound_split h.or)
                · split at hb
                  · rename_i hx; obtain ⟨rfl, hn⟩ := hx; obtain ⟨e, es', he⟩ := two hn; cases hb; exact go1 (T := .str) he PySem.F.plainAttrs_str PySem.F.slot_str_count PySem.F.type_str_count sound_cnt
                  · split at hb
                    · rename_i hx; obtain ⟨rfl, hn⟩ := hx; obtain ⟨e, es', he⟩ := two hn; cases hb; exact go1 (T := .dict) he PySem.F.plainAttrs_dict PySem.F.slot_dict_setdefault PySem.F.type_dict_setdefault (sound_sdf h.or)
                    · cases hb
theorem mi_km : ∀ k : MI, KpM k.f
  | .app => km_app | .ext => km_ext | .ins => km_ins | .pop => km_pop | .clr => km_clr | .rev => km_rev | .join => km_join | .split => km_split | .cnt => km_cnt | .sdf => km_sdf
end
end Sn
namespace Sn
open PySem L2
section
variable {K : PySem.W.Frag} {O : OR} {c : Ctx} {X : Cx} {W : WX}
theorem XOk.blk (h : XOk K O c X W) (scope : Scope) (s : Shared) (H : Hp) (C : Addr) (cl : List (Str × Addr)) (fp : List Addr) : XOk K O (blkCtx c scope) (X.blk s H scope (compEnvC scope cl C X.env) fp) W0 where
  or := h.or
  hK := h.hK
  N := h.N
  sc := by
    show relS scope X.env.scope = relS scope c.sc
    rw [h.sc]
  nd := h.nd
  calm := h.calm
  tk := takes0
  po := PassesOwn.never
  room := h.room
  fn := h.fn
  bl := h.bl
  gl := h.gl
  kf := h.kf
  st := fun x hx => by
    have hx : (stOf scope c.sc).contains x = true := hx
    rw [List.contains_iff_mem] at hx
    unfold stOf at hx
    obtain ⟨p, hp, rfl⟩ := List.mem_map.mp hx
    have hp := (List.mem_filter.mp hp).2
    rw [Bool.or_eq_true, decide_eq_true_eq, Bool.and_eq_true, decide_eq_true_eq, decide_eq_true_eq] at hp
    rcases hp with e | ⟨e, k⟩
    · exact ⟨.inl e, .inr e⟩
    · refine ⟨.inr e, .inl ?_⟩
      show (scope.names.lookup p.1 == some .cell) = true
      rw [k]
      rfl
/-! ### targets -/
theorem OkG.mono {ar : Nat} {sl sl2 : List Nat} {g : XG} {e : Expr} (h : OkG K O ar sl X g e) (hs : ∀ i, i ∈ sl → i ∈ sl2) : OkG K O ar sl2 X g e :=
  ⟨fun d rho rho' e1 => PGimp (h.1 d rho rho' e1) fun v sg H Q q => by
    obtain ⟨F, fp, r, hd, q⟩ := q
    exact ⟨F, fp, r, hd, fun sg' fp' r' k1 k2 k3 => q sg' fp' r' k1 k2 ⟨k3.1, fun i hi => k3.2 i fun z => hi (hs i z)⟩⟩, h.2⟩
theorem GoodG.mono {sl sl2 : List Nat} {g : XG} (h : GoodG sl g) (hs : ∀ i, i ∈ sl → i ∈ sl2) : GoodG sl2 g := fun d r r' e => ⟨fun i hi => (h d r r' e).1 i fun z => hi (hs i z), (h d r r' e).2⟩
theorem cG_ok (h : XOk K O c X W) {e : Expr} {g : XG} {sl : List Nat} (hg : cG c e = some (g, sl)) : notStar e = true ∧ OkG K O c.ar sl X g e ∧ GoodG sl g := by
  unfold cG at hg
  split at hg
  · rename_i x p
    split at hg
    · rename_i hh
      cases hg
      have s := h.st x hh.1
      refine ⟨rfl, okG_name h.or h.nd (by rw [h.N]; exact hh.2) (by rw [h.sc]; exact s.1) (by rw [h.sc]; exact s.2), good_name⟩
    · cases hg
  · cases hg
theorem cGs_ok (h : XOk K O c X W) : ∀ {es : List Expr} {gs : List XG} {sl : List Nat}, cGs c es = some (gs, sl) → es.all notStar = true ∧ gs.length = es.length ∧ OkGs K O c.ar sl X gs es ∧ GoodGs sl gs
  | [], gs, sl, e => by
    cases e
    exact ⟨rfl, rfl, okGs_nil, good_nil⟩
  | x :: es, gs, sl, e => by
    unfold cGs at e
    split at e
    · rename_i g s gs' ss hg hgs
      cases e
      obtain ⟨a1, a2, a3⟩ := cG_ok h hg
      obtain ⟨b1, b2, b3, b4⟩ := cGs_ok h hgs
      refine ⟨by rw [List.all_cons, a1, b1]; rfl, by rw [List.length_cons, List.length_cons, b2], okGs_cons a1 a2 b3, good_cons a3 b4⟩
    · cases e
theorem cTg_ok (h : XOk K O c X W) {e : Expr} {g : XG} {sl : List Nat} (hg : cTg c e = some (g, sl)) : OkG K O c.ar sl X g e ∧ GoodG sl g := by
  unfold cTg at hg
  split at hg
  · exact (cG_ok h hg).2
  · split at hg
    · rename_i gs ss hgs
      cases hg
      obtain ⟨b1, b2, b3, b4⟩ := cGs_ok h hgs
      exact ⟨okG_tup h.hK h.calm b2 b1 b3, good_tup b4⟩
    · cases hg
  · cases hg
/-! ### all of it -/
structure Good (K : PySem.W.Frag) (O : OR) (X : Cx) (W : WX) (c : Ctx) (n : Nat) : Prop where
  e : ∀ e, OkE K O X W (cE c n e) e ∧ KpF c.ar (cE c n e)
  lc : ∀ el tg it ifs sc pos, OkE K O X W (cLc c n el tg it ifs sc) (.ListComp el [⟨tg, it, ifs, 0⟩] sc pos) ∧ KpF c.ar (cLc c n el tg it ifs sc)
  t : ∀ e, OkT K O X W (cT c n e) e ∧ KpF c.ar (cT c n e)
  es : ∀ es, OkL K O X W c.ar (cEs c n es) es
  ts : ∀ es, OkTL K O X W c.ar (cTs c n es) es
  o : ∀ e, OkP K O X W (cO c n e) e ∧ ∀ y, cO c n e = some y → KpF c.ar y
  i : ∀ tg it, OkI K O X W (cI c n tg it) tg it ∧ KpF c.ar (cI c n tg it)
  cp : ∀ a ops bs pos, OkT K O X W (xtB (cE c n (.Compare a ops bs pos))) (.Compare a ops bs pos)
theorem okL_no {ar : Nat} : ∀ es : List Expr, OkL K O X W ar (es.map fun _ => xNo) es
  | [] => True.intro
  | e :: es => ⟨⟨ok_no, kp_no⟩, okL_no es⟩
theorem okTL_no {ar : Nat} : ∀ es : List Expr, OkTL K O X W ar (es.map fun _ => xtNo) es
  | [] => True.intro
  | e :: es => ⟨⟨okT_no, kp_tno⟩, okTL_no es⟩
theorem good_zero : Good K O X W c 0 where
  e := fun e => by unfold cE; exact ⟨ok_no, kp_no⟩
  lc := fun el tg it ifs sc pos => by unfold cLc; exact ⟨ok_no, kp_no⟩
  t := fun e => by unfold cT; exact ⟨okT_no, kp_tno⟩
  es := fun es => by unfold cEs; exact okL_no es
  ts := fun es => by unfold cTs; exact okTL_no es
  o := fun e => by
    cases e with
    | none => unfold cO; exact ⟨okP_none, fun y z => nomatch z⟩
    | some e => unfold cO; exact ⟨okP_some ok_no, fun y z => by cases z; exact kp_no⟩
  i := fun tg it => by unfold cI; exact ⟨fun rho => PIno, fun r => True.intro⟩
  cp := fun a ops bs pos => by unfold cE; exact fun rho => PTno
theorem kp_tests {ar : Nat} : ∀ {ts : List XT} {es : List Expr}, OkTL K O X W ar ts es → KpF ar (xTests ts)
  | [], _, _ => fun r => Kr.refl _ r
  | [t], [], h => (show False from h).elim
  | [t], e :: es, h => h.1.2
  | t :: t2 :: ts, _, _ => kp_tno
theorem lcS_ok (h : XOk K O c X W) {n : Nat} (ih : Good K O X W c n) {sc : Scope} (ih2 : ∀ s H C cl fp, Good K O (X.blk s H sc (compEnvC sc cl C X.env) fp) W0 (blkCtx c sc) n) {el tg it : Expr} {ifs : List Expr} (P : TE → Prop) (imp : ∀ t t' : TE, P t → (∀ sg H Q, t' sg H Q → t sg H Q) → P t') (no : P tF)
    (hr : ∀ own wi g tt te, PI X tg it wi → BlkOk X.N X.env.scope sc own → (∀ (s : Shared) (H : Hp) (C : Addr) (cl : List (Str × Addr)) (fp : List Addr), PG (X.blk s H sc (compEnvC sc cl C X.env) fp) tg g) → (∀ (s : Shared) (H : Hp) (C : Addr) (cl : List (Str × Addr)) (fp : List Addr), PTs (X.blk s H sc (compEnvC sc cl C X.env) fp) ifs tt) → (∀ (s : Shared) (H : Hp) (C : Addr) (cl : List (Str × Addr)) (fp : List Addr), PE (X.blk s H sc (compEnvC sc cl C X.env) fp) el te) → (∀ x, foldedSetIterable it X.env x = pure x) → P (tLc wi g tt te (own.map (·.2)))) :
    ∀ rho, P (tEv K O W rho (cLc c (n + 1) el tg it ifs sc rho)) := by
  have no' : ∀ rho, P (tEv K O W rho (xNo rho)) := fun rho => imp _ _ no fun sg H Q q => by obtain ⟨F, fp, r, q⟩ := q; exact (show False from q).elim
  unfold cLc
  split
  · rename_i hh
    cases hg : cTg (blkCtx c sc) tg with
    | some gs =>
      obtain ⟨g, sl⟩ := gs
      simp only []
      split
      · rename_i hsl
        have sub : ∀ i, i ∈ sl → i ∈ (ownOf c sc).map (·.2) := fun i hi => List.contains_iff_mem.mp ((List.all_eq_true.mp hsl) i hi)
        have gd : GoodG ((ownOf c sc).map (·.2)) g := (cTg_ok (h.blk sc X.s_0 X.H_0 0 [] []) hg).2.mono sub
        have kT : KpF c.ar (xTests (cTs (blkCtx c sc) n ifs)) := kp_tests ((ih2 X.s_0 X.H_0 0 [] []).ts ifs)
        have kE : KpF c.ar (xFz c.ar (cE (blkCtx c sc) n el)) := kp_fz ((ih2 X.s_0 X.H_0 0 [] []).e el).2
        have hpt : ∀ (s : Shared) (H : Hp) (C : Addr) (cl : List (Str × Addr)) (fp : List Addr) rho, PTs (X.blk s H sc (compEnvC sc cl C X.env) fp) ifs (tEvT K O W0 rho (xTests (cTs (blkCtx c sc) n ifs) rho)) := fun s H C cl fp rho => by
          have t := (ih2 s H C cl fp).ts ifs
          generalize cTs (blkCtx c sc) n ifs = ts at t
          cases ts with
          | nil =>
            cases ifs with
            | cons a b => exact (show False from t).elim
            | nil =>
              refine ⟨fun pins s' sg H' Q I q => pts_nil.run pins s' sg H' Q I ?_⟩
              obtain ⟨F, fp, r, q⟩ := q
              exact q F H' fp (Stp.refl _ _ _) r
          | cons t0 ts =>
            cases ifs with
            | nil => exact (show False from t).elim
            | cons a b =>
              cases ts with
              | nil =>
                cases b with
                | cons a' b' => exact (show False from t.2).elim
                | nil => exact pts_one (t.1.1 rho)
              | cons t1 ts => exact ⟨fun pins s' sg H' Q I q => by obtain ⟨F, fp, r, q⟩ := q; exact (show False from q).elim⟩
        have hkt : ∀ r b r', xTests (cTs (blkCtx c sc) n ifs) r = .ok b r' → ∀ i, ownB r' i = true → ownB r i = true := fun r b r' e => by
          have := kT r
          rw [e] at this
          exact this.2
        have hke : ∀ r u r', xFz c.ar (cE (blkCtx c sc) n el) r = .ok u r' → ∀ i, ownB r' i = true → ownB r i = true := fun r u r' e => by
          have := kE r
          rw [e] at this
          exact this.2
        cases hj : lvOf c it with
        | some j =>
          unfold lvOf at hj
          split at hj
          · rename_i y yp
            split at hj
            · obtain ⟨a1, a2, a3, a4⟩ := h.vis hj
              exact ok_lcLP P imp no h.or h.hK (own := ownOf c sc) rfl h.calm h.nd (pe_var a1 a2 a3 a4) (blkOk_by (by rw [h.N, h.sc]; exact hh.1)) (fun s H C cl fp => ((cTg_ok (h.blk sc s H C cl fp) hg).1).mono sub) hpt (fun s H C cl fp => ok_fz h.or ((ih2 s H C cl fp).e el).1) (noSet_fold hh.2)
                (fun d r r' e => (gd d r r' e).2) hkt (fun wi g tt te k bo pg pt pe => hr _ wi g tt te k bo pg pt pe (noSet_fold hh.2)) hke
            · cases hj
          · cases hj
        | none =>
          exact ok_lcP P imp no h.or (own := ownOf c sc) rfl h.calm h.nd (ih.i tg it).1 (blkOk_by (by rw [h.N, h.sc]; exact hh.1)) (fun s H C cl fp => ((cTg_ok (h.blk sc s H C cl fp) hg).1).mono sub) hpt (fun s H C cl fp => ok_fz h.or ((ih2 s H C cl fp).e el).1) (noSet_fold hh.2)
            (fun d r r' e => (gd d r r' e).2) hkt (fun wi g tt te k bo pg pt pe => hr _ wi g tt te k bo pg pt pe (noSet_fold hh.2)) hke
      · exact no'
    | none => exact no'
  · exact no'
theorem good_lc (h : XOk K O c X W) {n : Nat} (ih : Good K O X W c n) (ih2 : ∀ sc s H C cl fp, Good K O (X.blk s H sc (compEnvC sc cl C X.env) fp) W0 (blkCtx c sc) n) (el tg it : Expr) (ifs : List Expr) (sc : Scope) (pos : Pos) :
    OkE K O X W (cLc c (n + 1) el tg it ifs sc) (.ListComp el [⟨tg, it, ifs, 0⟩] sc pos) ∧ KpF c.ar (cLc c (n + 1) el tg it ifs sc) := by
  refine ⟨lcS_ok h ih (ih2 sc) (fun t => PE X _ t) (fun t t' h i => PEimp h i) pe_F (fun own wi g tt te k bo pg pt pe hs => pe_lc h.calm h.nd k bo pg pt pe hs), ?_⟩
  unfold cLc
  split
  · rename_i hh
    split
    · rename_i g sl hg
      split
      · rename_i hsl
        have sub : ∀ i, i ∈ sl → i ∈ (ownOf c sc).map (·.2) := fun i hi => List.contains_iff_mem.mp ((List.all_eq_true.mp hsl) i hi)
        split
        · exact kp_LcL ((cTg_ok (h.blk sc X.s_0 X.H_0 0 [] []) hg).2.mono sub) (kp_tests ((ih2 sc X.s_0 X.H_0 0 [] []).ts ifs)) (kp_fz ((ih2 sc X.s_0 X.H_0 0 [] []).e el).2)
        · exact kp_Lc (ih.i tg it).2 ((cTg_ok (h.blk sc X.s_0 X.H_0 0 [] []) hg).2.mono sub) (kp_tests ((ih2 sc X.s_0 X.H_0 0 [] []).ts ifs)) (kp_fz ((ih2 sc X.s_0 X.H_0 0 [] []).e el).2)
      · exact kp_no
    · exact kp_no
  · exact kp_no
theorem good_i (h : XOk K O c X W) {n : Nat} (ih : Good K O X W c n) (tg it : Expr) : OkI K O X W (cI c (n + 1) tg it) tg it ∧ KpF c.ar (cI c (n + 1) tg it) := by
  have seq : ∀ e, OkI K O X W (xIt (xFz c.ar (cE c n e))) tg e ∧ KpF c.ar (xIt (xFz c.ar (cE c n e))) := fun e => ⟨okI_seq h.or h.hK (ok_fz h.or (ih.e e).1), kp_It (kp_fz (ih.e e).2)⟩
  have bl : ∀ {x}, isBl c x = true → Gl X x ∧ X.mg x = none := fun e => by
    unfold isBl at e
    rw [Bool.and_eq_true] at e
    exact ⟨(h.gl_ok e.1).1, h.bl _ e.2⟩
  have one : ∀ {a}, notStar a = true → OkA K O X W (xFzs c.ar (cEs c n [a])) [a] ∧ KpF c.ar (xFzs c.ar (cEs c n [a])) := fun ha => okL_fz h.or (ih.es _) (by rw [List.all_cons, ha]; rfl)
  have two : ∀ {a b}, notStar a = true → notStar b = true → OkA K O X W (xFzs c.ar (cEs c n [a, b])) [a, b] ∧ KpF c.ar (xFzs c.ar (cEs c n [a, b])) := fun ha hb => okL_fz h.or (ih.es _) (by rw [List.all_cons, List.all_cons, ha, hb]; rfl)
  unfold cI
  split
  · rename_i x p a pos
    split
    · rename_i hh
      obtain ⟨rfl, h1, h2⟩ := hh
      obtain ⟨g, m⟩ := bl h1
      exact ⟨okI_rg1 g m h2 (one h2).1, kp_Rg1 (one h2).2⟩
    · split
      · rename_i hh
        obtain ⟨rfl, h1, h2, h3⟩ := hh
        obtain ⟨g, m⟩ := bl h1
        cases tg with
        | Tuple es k p => exact ⟨okI_en h.hK g m h2 (one h2).1, kp_En (one h2).2⟩
        | _ => cases h3
      · exact seq _
  · rename_i x p a b pos
    split
    · rename_i hh
      obtain ⟨rfl, h1, h2, h3⟩ := hh
      obtain ⟨g, m⟩ := bl h1
      exact ⟨okI_rg2 g m h2 h3 (two h2 h3).1, kp_Rg2 (two h2 h3).2⟩
    · split
      · rename_i hh
        obtain ⟨rfl, h1, h2, h3, h4⟩ := hh
        obtain ⟨g, m⟩ := bl h1
        cases tg with
        | Tuple es k p => exact ⟨okI_zp h.hK g m h2 h3 (two h2 h3).1, kp_Zp (two h2 h3).2⟩
        | _ => cases h4
      · exact seq _
  · rename_i o m ap cp
    split
    · rename_i hh
      obtain ⟨rfl, h1, h2, h3⟩ := hh
      cases tg with
      | Tuple es k p => exact ⟨okI_itm h.or (base_ok h2) h3 (ih.e o).1, kp_Itm (ih.e o).2⟩
      | _ => cases h1
    · exact seq _
  · exact seq _
theorem good_t (h : XOk K O c X W) {n : Nat} (ih : Good K O X W c n) (e : Expr) : OkT K O X W (cT c (n + 1) e) e ∧ KpF c.ar (cT c (n + 1) e) := by
  unfold cT
  split
  · rename_i a pos
    exact ⟨okT_not (ih.t a).1, kp_tNot (ih.t a).2⟩
  · rename_i op es pos
    cases es with
    | nil =>
      have t := ih.ts []
      generalize cTs c n [] = ts at t
      cases ts with
      | nil => exact ⟨okT_no, kp_tno⟩
      | cons a b => exact (show False from t).elim
    | cons a b =>
      have t := okTL_bool (op := op) (pos := pos) (ih.ts (a :: b)) (fun z => nomatch z)
      exact ⟨t.1.t, t.2⟩
  · rename_i a ops bs pos
    exact ⟨ih.cp _ _ _ _, kp_tB (ih.e _).2⟩
  · exact ⟨okT_no, kp_tno⟩
  · rename_i h1 h2 h3 h4
    refine ⟨okT_tru h.hK (ih.e e).1 (plain_true ?_), kp_tT (ih.e e).2⟩
    unfold plainE
    split
    · exact (h1 _ _ rfl).elim
    · exact (h2 _ _ _ rfl).elim
    · exact (h4 _ _ _ _ rfl).elim
    · exact (h3 _ _ _ _ rfl).elim
    · rfl
theorem good_e (h : XOk K O c X W) {n : Nat} (ih : Good K O X W c n) (e : Expr) : OkE K O X W (cE c (n + 1) e) e ∧ KpF c.ar (cE c (n + 1) e) := by
  have no : ∀ {e}, OkE K O X W xNo e ∧ KpF c.ar xNo := fun {e} => ⟨ok_no, kp_no⟩
  unfold cE
  split
  · exact ⟨ok_c pe_int fun F => rfl, kp_D⟩
  · exact ⟨ok_c pe_bl fun F => rfl, kp_D⟩
  · exact ⟨ok_c pe_non fun F => rfl, kp_D⟩
  · exact ⟨ok_c pe_str fun F => rfl, kp_D⟩
  · exact cN_ok h
  · rename_i a op b pos
    exact ⟨ok_2 h.or opF (fun r ta tb ho pa pb => pe_op ho pa pb) (sound_bin h.or h.hK op) (ih.e a).1 (ih.e b).1, kp_2 (ih.e a).2 (ih.e b).2⟩
  · rename_i a pos
    exact ⟨ok_not (ih.e a).1, kp_Not (ih.e a).2⟩
  · rename_i a pos
    exact ⟨ok_neg (ih.e a).1, kp_Neg (ih.e a).2⟩
  · rename_i op es pos
    exact okL_bool (ih.es es)
  · rename_i a op b pos
    split
    · rename_i hb
      exact ⟨(ok_cmp h.or h.hK h.units hb (ih.e a).1 (ih.e b).1).1, kp_2 (ih.e a).2 (ih.e b).2⟩
    · exact no
  · rename_i a o o' b d pos
    split
    · rename_i hb
      exact ⟨(ok_ch h.or h.hK h.units hb (ih.e a).1 (ih.e b).1 (ih.e d).1).1, kp_Ch (ih.e a).2 (ih.e b).2 (ih.e d).2⟩
    · exact no
  · rename_i t a b pos
    exact ⟨ok_if (ih.t t).1 (ih.e a).1 (ih.e b).1, kp_If (ih.t t).2 (ih.e a).2 (ih.e b).2⟩
  · rename_i a lo hi p2 pos
    exact ⟨ok_sl h.or h.hK (ih.e a).1 (ih.o lo).1 (ih.o hi).1, kp_Sl (ih.e a).2 (ih.o lo).2 (ih.o hi).2⟩
  · rename_i a i pos hne
    split
    · rename_i hi
      exact ⟨ok_2 h.or (fun ta tb pa pb => pe_ix ixF pa pb (noSlice_ix hi)) (fun r ta tb ho pa pb => ho ta tb pa pb) (sound_ix h.hK h.units (noSlice_ix hi)) (ih.e a).1 (ih.e i).1, kp_2 (ih.e a).2 (ih.e i).2⟩
    · exact no
  · rename_i es k pos
    split
    · rename_i hs
      exact ⟨ok_tup h.or (okL_fz h.or (ih.es es) hs).1, kp_Tup (okL_fz h.or (ih.es es) hs).2⟩
    · exact no
  · rename_i es pos
    split
    · rename_i hs
      exact ⟨ok_lst h.or (okL_fz h.or (ih.es es) hs).1, kp_Lst (okL_fz h.or (ih.es es) hs).2⟩
    · exact no
  · exact ⟨ok_dic0 h.or, kp_Dic0⟩
  · rename_i x p a as pos
    split
    · rename_i hh
      obtain ⟨hs, hg⟩ := hh
      obtain ⟨g1, g2, g3⟩ := h.gl_ok hg
      split
      · rename_i f hf
        have hs' := hs
        rw [List.all_cons, Bool.and_eq_true] at hs'
        have t := okL_io (io := f.io) h.or (ih.es (a :: as)) hs
        exact ⟨okCF h.or h.tk (h.fn x f hf) g1 g2 hs'.1 (star_any hs'.2) t.1, kp_CF t.2⟩
      · split
        · rename_i hb
          split
          · rename_i b hbi
            have t := okL_ar h.or (ih.es (a :: as)) hs
            exact ⟨bi_ok h hbi hg (h.bl x hb) hs t.1, kp_CB t.2⟩
          · exact no
        · exact no
    · exact no
  · rename_i x p as k ks pos
    split
    · rename_i hh
      obtain ⟨hs, hg, hk⟩ := hh
      split
      · rename_i f pat hf
        exact ⟨kw_ok h hf hg hs hk (ih.es as) (ih.es _), kp_CFK (okL_io (io := f.io) h.or (ih.es as) hs).2 (okK_fz h.or (ih.es ((k :: ks).map kwV))).2⟩
      · exact no
    · exact no
  · rename_i f p1 m1 ap1 k p2 p3 cp1 m ap y p4 cp
    split
    · rename_i hh
      obtain ⟨rfl, rfl, hl1, hl2⟩ := hh
      split
      · rename_i i j l hi hj hl
        obtain ⟨a1, a2, a3, a4⟩ := h.vis hi
        obtain ⟨b1, b2, b3, b4⟩ := h.vis hj
        obtain ⟨c1, c2, c3, c4⟩ := h.vis hl
        exact ⟨ok_sda h.or h.hK (pe_bm PySem.F.plainAttrs_list PySem.F.slot_list_append PySem.F.type_list_append mt_append (pe_bm PySem.F.plainAttrs_dict PySem.F.slot_dict_setdefault PySem.F.type_dict_setdefault mt_setdefault (pe_var a1 a2 a3 a4) (pa_cons (pe_var b1 b2 b3 b4) (pa_cons (pe_lst pa_nil) pa_nil)) rfl rfl hl1) (pa_cons (pe_var c1 c2 c3 c4) pa_nil) rfl rfl hl2), kp_SdA⟩
      · exact no
    · exact no
  · rename_i o m ap as pos hne
    split
    · rename_i hh
      obtain ⟨hs, hb, hl, hn⟩ := hh
      split
      · rename_i k hk
        exact ⟨mi_ok h hk hb hl hn hs (ih.e o).1 (ih.es as), kp_Me (mi_km k) (ih.e o).2 (okL_fz h.or (ih.es as) hs).2⟩
      · exact no
    · exact no
  · exact ih.lc _ _ _ _ _ _
  · exact no
theorem good_cp (h : XOk K O c X W) {n : Nat} (ih : Good K O X W c n) (a : Expr) (ops : List CmpOp) (bs : List Expr) (pos : Pos) : OkT K O X W (xtB (cE c (n + 1) (.Compare a ops bs pos))) (.Compare a ops bs pos) := by
  have no : ∀ {e}, OkT K O X W (xtB xNo) e := fun {e} rho => PTno
  generalize he : Expr.Compare a ops bs pos = e
  unfold cE
  split <;> first | (cases he; done) | skip
  · rename_i a op b pos
    cases he
    split
    · rename_i hb
      exact (ok_cmp h.or h.hK h.units hb (ih.e a).1 (ih.e b).1).2
    · exact no
  · rename_i a o o' b d pos
    cases he
    split
    · rename_i hb
      exact (ok_ch h.or h.hK h.units hb (ih.e a).1 (ih.e b).1 (ih.e d).1).2
    · exact no
  · exact no
theorem good_all : ∀ (n : Nat) (K : PySem.W.Frag) (O : OR) (X : Cx) (W : WX) (c : Ctx), XOk K O c X W → Good K O X W c n
  | 0, _, _, _, _, _, _ => good_zero
  | n + 1, K, O, X, W, c, h => by
    have ih := good_all n K O X W c h
    exact {
      e := good_e h ih
      lc := fun el tg it ifs sc pos => good_lc h ih (fun sc s H C cl fp => good_all n _ _ _ _ _ (h.blk sc s H C cl fp)) el tg it ifs sc pos
      t := good_t h ih
      es := fun es => by
        cases es with
        | nil => unfold cEs; exact True.intro
        | cons e es => unfold cEs; exact ⟨ih.e e, ih.es es⟩
      ts := fun es => by
        cases es with
        | nil => unfold cTs; exact True.intro
        | cons e es => unfold cTs; exact ⟨ih.t e, ih.ts es⟩
      o := fun e => by
        cases e with
        | none => unfold cO; exact ⟨okP_none, fun y z => nomatch z⟩
        | some e => unfold cO; exact ⟨okP_some (ih.e e).1, fun y z => by cases z; exact (ih.e e).2⟩
      i := good_i h ih
      cp := good_cp h ih }
end
end Sn
namespace Sn
open PySem L2
/-! ### statements, from a text to what comes of it -/
def nmOf (c : Ctx) (x : Str) : Option Nat := if c.st.contains x = true ∧ c.N[c.N.idxOf x]? = some x then some (c.N.idxOf x) else none
def sThru (b : X2) : X2 := fun r => match b r with
  | .ok f r1 => .ok f r1
  | _ => .no
def augOp : Operator → Option (Int → Int → Int)
  | .Add => some fun i j => i + j
  | .Sub => some fun i j => i - j
  | _ => none
def lcOf : Expr → Bool
  | .ListComp _ [⟨_, _, _, 0⟩] _ _ => true
  | _ => false
mutual
def cS (c : Ctx) : Nat → Stmt → X2
  | 0, _ => sNo
  | n + 1, s => match s with
    | .Pass _ => sNx
    | .Break _ => sBk
    | .Continue _ => sCt
    | .Expr (.Constant (.str _) _ _) _ => sNx
    | .Expr e _ => if noComp e = true then sDrop (cE c n e) else sNo
    | .Return (some e) _ => sRet (cE c n e)
    | .Return none _ => sRetN
    | .If t a b _ => sIf (cT c n t) (cSs c n a) (cSs c n b)
    | .Assign [.Name x _] e _ => match nmOf c x with
      | some i => if noComp e = true ∨ lcOf e = true then sSet c.ar i (cE c n e) else sNo
      | none => sNo
    | .Assign [.Tuple ts k tp] e _ => if isTup e = false then match cTg c (.Tuple ts k tp) with
        | some (g, _) => sPat c.ar g (cE c n e)
        | none => sNo
      else sNo
    | .Assign [.Subscript (.Name y _) ei _] e _ => match ixOf c y with
      | some j => if noComp e = true ∧ noSlice ei = true then sSub j (xFz c.ar (cE c n e)) (cE c n ei) else sNo
      | none => sNo
    | .AugAssign (.Name x _) op e _ => match nmOf c x, augOp op with
      | some i, some f => sAug c.ar i f (cE c n e)
      | _, _ => sNo
    | .For tg (.Name x _) body [] _ => match ixOf c x, cTg c tg with
      | some j, some (g, _) => if j < c.ar then sForP c.ar j g (cSs c n body) else sFor (xIt (xFz c.ar (xVar j))) g (cSs c n body)
      | none, some (g, _) => sFor (xIt (xFz c.ar (cN c x))) g (cSs c n body)
      | _, none => sNo
    | .For tg it body [] _ => if noSet it = true then match cTg c tg with
        | some (g, _) => sFor (cI c n tg it) g (cSs c n body)
        | none => sNo
      else sNo
    | .While t body [] _ => whileN (cT c n t) (cSs c n body) 100000
    | .Try body (_ :: _) [] [] _ => sThru (cSs c n body)
    | _ => sNo
def cSs (c : Ctx) : Nat → List Stmt → X2
  | 0, _ => sNo
  | _ + 1, [] => sNx
  | n + 1, s :: ss => sSeq (cS c n s) (cSs c n ss)
end
section
variable {K : PySem.W.Frag} {O : OR} {c : Ctx} {X : Cx} {W : WX}
theorem noComp_sw {e : Expr} {t : Option Expr} {l : Nat} {env : PySem.Env} (h : noComp e = true) : swapsWith e t l env = pure false := by
  cases e <;> first | rfl | cases h
theorem sw_tup {e : Expr} {t : Expr} {l : Nat} {env : PySem.Env} (h : ∀ x p, t ≠ .Name x p) : swapsWith e (some t) l env = pure false := by
  cases t with
  | Name x p => exact (h x p rfl).elim
  | _ => cases e <;> rfl
theorem sole_tup {e : Expr} {ts : List Expr} {k : Nat} {p : Pos} {l : Nat} {env : PySem.Env} : swapsWithSole [.Tuple ts k p] e l env = pure false := by
  show swapsWith e (some (.Tuple ts k p)) l env = pure false
  exact sw_tup fun x p z => by cases z
theorem sole_sub {e o i : Expr} {p : Pos} {l : Nat} {env : PySem.Env} : swapsWithSole [.Subscript o i p] e l env = pure false := by
  show swapsWith e (some (.Subscript o i p)) l env = pure false
  exact sw_tup fun x p z => by cases z
theorem stores_tup {e : Expr} {ts : List Expr} {k : Nat} {p : Pos} {env : PySem.Env} (h : isTup e = false) : swappedStores [.Tuple ts k p] e env = pure none := by
  cases e <;> first | rfl | cases h
theorem stores_sub {e o i : Expr} {p : Pos} {env : PySem.Env} : swappedStores [.Subscript o i p] e env = pure none := by
  cases e <;> rfl
theorem nm_ok (h : XOk K O c X W) {x : Str} {i : Nat} (e : nmOf c x = some i) : X.N[i]? = some x ∧ Loc X.env.scope x ∧ (X.fn x = true ∨ X.env.scope.names.lookup x = some .local) := by
  unfold nmOf at e
  split at e
  · rename_i hh
    cases e
    have s := h.st x hh.1
    rw [h.N, h.sc]
    exact ⟨hh.2, s.1, s.2⟩
  · cases e
theorem XOk.nox (h : XOk K O c X W) : XOk K O c X.nox W0 where
  or := h.or
  hK := h.hK
  N := h.N
  sc := h.sc
  nd := h.nd
  calm := h.calm
  tk := takes0
  po := PassesOwn.never
  room := h.room
  fn := h.fn
  bl := h.bl
  gl := h.gl
  kf := h.kf
  st := h.st
theorem okS_thru {b : X2} {body : List Stmt} {h0 : ExceptHandler} {hs : List ExceptHandler} {pos : Pos} {ar : Nat} (h : OkSs K O X.nox W0 ar b body) : OkS K O X W ar (sThru b) (.Try body (h0 :: hs) [] [] pos) := by
  refine ⟨fun rho => ?_, fun rho => ?_⟩
  · have k := h.ps rho
    unfold sThru
    cases e : b rho with
    | no => exact PSno
    | ex x r => exact PSno
    | ok f r =>
      rw [e] at k
      refine PSimp (ps_try_thru0 k) fun D sg H q => q
  · have k := h.ko rho
    unfold sThru
    cases e : b rho with
    | no => exact True.intro
    | ex x r => exact True.intro
    | ok f r =>
      rw [e] at k
      exact k
theorem okS_lc (h : XOk K O c X W) {n : Nat} {x : Str} {i : Nat} {el tg it : Expr} {ifs : List Expr} {sc : Scope} {lp xp pos : Pos} (e : nmOf c x = some i) : OkS K O X W c.ar (sSet c.ar i (cE c n (.ListComp el [⟨tg, it, ifs, 0⟩] sc lp))) (.Assign [.Name x xp] (.ListComp el [⟨tg, it, ifs, 0⟩] sc lp) pos) := by
  obtain ⟨a1, a2, a3⟩ := nm_ok h e
  have g := good_all n K O X W c h
  obtain ⟨B, hB, hl⟩ : ∃ B : Bool, swapsWith (.ListComp el [⟨tg, it, ifs, 0⟩] sc lp) (some (.Name x xp)) pos.line X.env = pure B ∧ (B = true → X.env.scope.names.lookup x = some .local) := by
    refine ⟨_, rfl, fun hb => ?_⟩
    rw [Bool.and_eq_true, Bool.and_eq_true, Bool.and_eq_true] at hb
    exact eq_of_beq hb.1.1.2
  cases B with
  | false => exact okS_set h.or (fun t ht => ps_set h.nd a1 a2 ht hB a3) (g.e _).1 (g.e _).2
  | true =>
    refine okS_setP h.or (fun rho => ?_) (g.e _).2
    have no : ∀ {st}, PS X st (tAsg (tEv K O W rho .no) (gName i)) := fun {st} => ⟨fun pins s sg H D I q => by
      obtain ⟨F, fp, r, q⟩ := q
      exact (show False from q).elim⟩
    cases n with
    | zero => unfold cE; exact no
    | succ n =>
      unfold cE
      simp only []
      cases n with
      | zero => unfold cLc; exact no
      | succ n =>
        have ih := good_all n K O X W c h
        have ih2 := fun s H C cl fp => good_all n _ _ _ _ _ (h.blk sc s H C cl fp)
        exact lcS_ok h ih ih2 (fun t => PS X _ (tAsg t (gName i))) (fun t t' k im => PSimp k fun D sg H q => im _ _ _ q) ⟨fun pins s sg H D I q => (show False from q).elim⟩ (fun own wi gg tt te hi bo pg pt pe hs => ps_setLc h.calm h.nd a1 (hl rfl) hB hi bo pg pt pe hs) rho
structure GoodS (K : PySem.W.Frag) (O : OR) (X : Cx) (W : WX) (c : Ctx) (n : Nat) : Prop where
  s : ∀ s, OkS K O X W c.ar (cS c n s) s
  ss : ∀ ss, OkSs K O X W c.ar (cSs c n ss) ss
theorem goodS_step (h : XOk K O c X W) {n : Nat} (ih : GoodS K O X W c n) (ih2 : GoodS K O X.nox W0 c n) (s : Stmt) : OkS K O X W c.ar (cS c (n + 1) s) s := by
  have g := good_all n K O X W c h
  unfold cS
  split
  · exact okS_pass
  · exact okS_bk
  · exact okS_ct
  · exact okS_doc
  · split
    · rename_i hc
      exact okS_drop (g.e _).1 (g.e _).2 (noComp_sw hc)
    · exact okS_no
  · exact okS_ret (g.e _).1 (g.e _).2
  · exact okS_retN
  · rename_i t a b pos
    exact okS_if (g.t t).1 (g.t t).2 (ih.ss a) (ih.ss b)
  · rename_i x xp e pos
    split
    · rename_i i hi
      split
      · rename_i hc
        by_cases hc1 : noComp e = true
        · obtain ⟨a1, a2, a3⟩ := nm_ok h hi
          exact okS_set h.or (fun t ht => ps_set h.nd a1 a2 ht (noComp_sw hc1) a3) (g.e _).1 (g.e _).2
        · have hl : lcOf e = true := by
            rcases hc with hc | hc
            · exact (hc1 hc).elim
            · exact hc
          unfold lcOf at hl
          split at hl
          · exact okS_lc h hi
          · cases hl
      · exact okS_no
    · exact okS_no
  · rename_i ts k tp e pos
    split
    · rename_i ht
      split
      · rename_i gg sl hg
        exact okS_pat h.or (fun t tt pe pg => ps_asg pe pg sole_tup (stores_tup ht) (by rw [assign_cons rfl]; unfold assignEach; rfl)) (cTg_ok h hg).1 (g.e _).1 (g.e _).2
      · exact okS_no
    · exact okS_no
  · rename_i y py ei sp e pos
    split
    · rename_i j hj
      split
      · rename_i hc
        obtain ⟨a1, a2, a3, a4⟩ := h.vis hj
        refine okS_sub h.or (fun t to ti pe po pi => ps_asg pe (pg_sub po pi (set_both (by have := h.units; omega)) (fun v => ?_)) sole_sub stores_sub (by rw [assign_cons rfl]; unfold assignEach; rfl)) (pe_var a1 a2 a3 a4) (ok_fz h.or (g.e _).1) (kp_fz (g.e _).2) (g.e _).1 (g.e _).2
        have hs := hc.2
        cases ei <;> first | rfl | cases hs
      · exact okS_no
    · exact okS_no
  · rename_i x xp op e pos
    split
    · rename_i i f hi hf
      obtain ⟨a1, a2, a3⟩ := nm_ok h hi
      unfold augOp at hf
      split at hf
      · cases hf
        exact okS_aug h.or (fun t ht => ps_aug h.nd a1 a2 ht ip_add a3) (g.e _).1 (g.e _).2
      · cases hf
        exact okS_aug h.or (fun t ht => ps_aug h.nd a1 a2 ht ip_sub a3) (g.e _).1 (g.e _).2
      · cases hf
    · exact okS_no
  · rename_i tg x px body pos
    split
    · rename_i j gg sl hj hg
      obtain ⟨a1, a2, a3, a4⟩ := h.vis hj
      split
      · exact okS_forP h.or h.hK h.po h.calm (pe_var a1 a2 a3 a4) (cTg_ok h hg).1 (ih.ss body) (fun y => rfl)
      · exact okS_for h.or h.po h.calm (okI_seq h.or h.hK (ok_fz h.or (ok_var (pe_var a1 a2 a3 a4)))) (kp_It (kp_fz kp_var)) (cTg_ok h hg).1 (ih.ss body) (fun y => rfl)
    · rename_i gg sl hj hg
      have cn := cN_ok h (x := x) (pos := px)
      exact okS_for h.or h.po h.calm (okI_seq h.or h.hK (ok_fz h.or cn.1)) (kp_It (kp_fz cn.2)) (cTg_ok h hg).1 (ih.ss body) (fun y => rfl)
    · exact okS_no
  · rename_i tg it body pos hne
    split
    · rename_i hs
      split
      · rename_i gg sl hg
        exact okS_for h.or h.po h.calm (g.i tg it).1 (g.i tg it).2 (cTg_ok h hg).1 (ih.ss body) (noSet_fold hs)
      · exact okS_no
    · exact okS_no
  · rename_i t body pos
    exact okS_while h.po (g.t t).1 (g.t t).2 (ih.ss body)
  · exact okS_thru (ih2.ss _)
  · exact okS_no
theorem goodS_all : ∀ (n : Nat) (K : PySem.W.Frag) (O : OR) (X : Cx) (W : WX) (c : Ctx), XOk K O c X W → GoodS K O X W c n
  | 0, _, _, _, _, _, _ => ⟨fun s => by unfold cS; exact okS_no, fun ss => by unfold cSs; exact okSs_no⟩
  | n + 1, K, O, X, W, c, h => by
    have ih := goodS_all n K O X W c h
    have ih2 := goodS_all n K O X.nox W0 c h.nox
    refine ⟨goodS_step h ih ih2, fun ss => ?_⟩
    cases ss with
    | nil => unfold cSs; exact okSs_nil
    | cons s ss => unfold cSs; exact okSs_cons (ih.s s) (ih.ss ss)
end
end Sn
namespace Sn
open PySem L2
theorem bind_ok {α β : Type} (a : α) (r : Env) (f : α → Env → Rs β) : (Rs.ok a r).bind f = f a r := rfl
theorem bind_ex {α β : Type} (x : Exn) (r : Env) (f : α → Env → Rs β) : (Rs.ex x r : Rs α).bind f = .ex x r := rfl
theorem bind_no {α β : Type} (f : α → Env → Rs β) : (Rs.no : Rs α).bind f = .no := rfl
/-! ### statements behind which a token is out -/
structure OkP2 (K : PySem.W.Frag) (O : OR) (W : WX) (ar : Nat) (P : TS → Prop) (x : X2) : Prop where
  ps : ∀ rho, P (tSt K O W ar rho (x rho))
  ko : ∀ rho, Ko ar rho (x rho)
section
variable {K : PySem.W.Frag} {O : OR} {X : Cx} {W : WX} {ar : Nat}
theorem PSTimp {st : Stmt} (t t' : TS) (h : PST X st t) (i : ∀ D sg H, t' D sg H → t D sg H) : PST X st t' := fun pins s sg H D h0 I q => h pins s sg H D h0 I (i _ _ _ q)
theorem PSsTimp {st : List Stmt} (t t' : TS) (h : PSsT X st t) (i : ∀ D sg H, t' D sg H → t D sg H) : PSsT X st t' := fun pins s sg H D h0 I q => h pins s sg H D h0 I (i _ _ _ q)
theorem okP_cons {Pa Pb Pc : TS → Prop} (cons : ∀ t u, Pa t → Pb u → Pc (tSeq t u)) (imp : ∀ t t' : TS, Pc t → (∀ D sg H, t' D sg H → t D sg H) → Pc t') (no : Pc (fun _ _ _ => False)) {a b : X2} (ha : OkP2 K O W ar Pa a) (hb : OkP2 K O W ar Pb b) : OkP2 K O W ar Pc (sSeq a b) := by
  have no' : ∀ {rho}, Pc (tSt K O W ar rho .no) := imp _ _ no fun D sg H q => by obtain ⟨F, fp, r, q⟩ := q; exact (show False from q).elim
  refine ⟨fun rho => ?_, fun rho => Ko.bind (ha.ko rho) fun fl r1 => ?_⟩
  · have k := ha.ps rho
    have ko := ha.ko rho
    unfold sSeq
    cases ea : a rho with
    | no => exact no'
    | ex x r1 =>
      rw [ea] at k
      refine imp _ _ (cons _ _ k (hb.ps rho)) fun D sg H q => ?_
      obtain ⟨F, fp, r, q⟩ := q
      exact ⟨F, fp, r, q⟩
    | ok fl r1 =>
      rw [ea] at k ko
      have ko : Ow ar rho r1 := ko
      cases fl with
      | bk =>
        refine imp _ _ (cons _ _ k (hb.ps r1)) fun D sg H q => ?_
        obtain ⟨F, fp, r, q⟩ := q
        exact ⟨F, fp, r, q⟩
      | ct =>
        refine imp _ _ (cons _ _ k (hb.ps r1)) fun D sg H q => ?_
        obtain ⟨F, fp, r, q⟩ := q
        exact ⟨F, fp, r, q⟩
      | rt u =>
        refine imp _ _ (cons _ _ k (hb.ps r1)) fun D sg H q => ?_
        obtain ⟨F, fp, r, q⟩ := q
        exact ⟨F, fp, r, q⟩
      | nx =>
        show Pc (tSt K O W ar rho (b r1))
        have k2 := hb.ps r1
        cases eb : b r1 with
        | no => exact no'
        | ex x r2 =>
          rw [eb] at k2
          refine imp _ _ (cons _ _ k k2) fun D sg H q => ?_
          obtain ⟨F, fp, r, q⟩ := q
          exact ⟨F, fp, r, fun F1 H1 fp1 sg1 s1 q1 kp1 => ⟨F1, fp1, q1, fun F2 H2 fp2 sg2 d s2 q2 kp2 p2 => q F2 H2 fp2 sg2 d (s1.trans s2) q2 (fun i hi ho => (kp2 i hi (ko i hi ho)).trans (kp1 i hi ho)) p2⟩⟩
        | ok fl r2 =>
          rw [eb] at k2
          refine imp _ _ (cons _ _ k k2) fun D sg H q => ?_
          obtain ⟨F, fp, r, q⟩ := q
          exact ⟨F, fp, r, fun F1 H1 fp1 sg1 s1 q1 kp1 => ⟨F1, fp1, q1, fun F2 H2 fp2 sg2 s2 q2 kp2 => (q F2 H2 fp2 sg2 (s1.trans s2) q2 (fun i hi ho => (kp2 i hi (ko i hi ho)).trans (kp1 i hi ho))).back s1.stay⟩⟩
  · cases fl with
    | nx => exact hb.ko r1
    | bk => exact Ow.refl ar r1
    | ct => exact Ow.refl ar r1
    | rt u => exact Ow.refl ar r1
theorem okP_for {Pb Pc : TS → Prop} (join : ∀ (tt : Env → TS), (∀ r, Pb (tt r)) → Pb (fun D sg H => ∃ r, tt r D sg H)) (imp : ∀ t t' : TS, Pc t → (∀ D sg H, t' D sg H → t D sg H) → Pc t') (no : Pc (fun _ _ _ => False)) (ok : ORok O) {it : XI} {g : XG} {b : X2} {tg iter : Expr} {sl : List Nat} (mk : ∀ wi g tb, PI X tg iter wi → PG X tg g → Pb tb → Pc (tFor wi g tb)) (hi : OkI K O X W it tg iter) (ki : KpF ar it) (hg : OkG K O ar sl X g tg) (hb : OkP2 K O W ar Pb b) : OkP2 K O W ar Pc (sFor it g b) := by
  have no' : ∀ {rho}, Pc (tSt K O W ar rho .no) := imp _ _ no fun D sg H q => by obtain ⟨F, fp, r, q⟩ := q; exact (show False from q).elim
  refine ⟨fun rho => ?_, fun rho => Ko.bind (ki rho).ko fun ds r1 => forD_ko hg.2 hb.ko ds r1⟩
  have k := hi rho
  have ko := (ki rho).ko
  let gg : TG := fun y sg H Q => ∃ d rho rho', g d rho = some rho' ∧ tEvG K O ar sl d rho rho' y sg H Q
  let tb : TS := fun D sg H => ∃ rho, tSt K O W ar rho (b rho) D sg H
  have pg : PG X tg gg := ⟨fun pins s' sg H' v u Q I r q => by
    obtain ⟨d, r0, r1, e, q⟩ := q
    exact (hg.1 d r0 r1 e).run pins s' sg H' v u Q I r q⟩
  have pb : Pb tb := join _ hb.ps
  unfold sFor
  cases ei : it rho with
  | no => exact no'
  | ex y r1 =>
    rw [ei] at k
    refine imp _ _ (mk _ _ _ k pg pb) fun D sg H q => ?_
    obtain ⟨F, fp, r, q⟩ := q
    exact ⟨F, fp, r, fun F' H' fp' d s1 q1 p1 => q F' H' fp' sg d s1 q1 KP.refl p1⟩
  | ok ds r1 =>
    rw [ei] at k ko
    have ko : Ow ar rho r1 := ko
    show Pc (tSt K O W ar rho (forD g b ds r1))
    generalize hres : forD g b ds r1 = res
    refine imp _ _ (mk _ _ _ k pg pb) fun D sg H q => ?_
    obtain ⟨F, fp, r, q⟩ := q
    refine ⟨F, fp, r, fun F1 H1 fp1 J s1 q1 hw => ?_⟩
    -- the loop: what is left of it comes to the same
    refine ⟨fun i m sg' H' => ∃ F' fp' r', Stp F H fp F' H' fp' ∧ Same F1 F' ∧ R K O F' H' r' sg' fp' ∧ KP ar rho sg sg' ∧ Ow ar rho r' ∧ forD g b (ds.drop i) r' = res ∧ m = ds.length - i ∧ i ≤ ds.length,
      ⟨ds.length, F1, fp1, r1, s1, Same.refl F1, q1, KP.refl, ko, hres, rfl, Nat.zero_le _⟩, ?_⟩
    rintro i m sg' H' ⟨F', fp', r', st, gF, rr, kp, kow, ef, rfl, hi⟩
    by_cases hlt : i < ds.length
    · obtain ⟨d, hd⟩ : ∃ d, ds[i]? = some d := ⟨ds[i], by simp [hlt]⟩
      have edrop : ds.drop i = d :: ds.drop (i + 1) := by
        rw [List.drop_eq_getElem_cons hlt]
        congr 1
        rw [List.getElem?_eq_getElem hlt] at hd
        exact Option.some.inj hd
      rw [edrop] at ef
      unfold forD at ef
      cases eg : g d r' with
      | none =>
        rw [eg] at ef
        rw [← ef] at q
        exact q.elim
      | some ra =>
        rw [eg] at ef
        simp only at ef
        have owa := hg.2 d r' ra eg
        refine .inr ⟨hw.go i H' (gF.trans rr.sub) hlt, fun sg2 H2 => ∃ F' fp' r', Stp F H fp F' H2 fp' ∧ Same F1 F' ∧ R K O F' H2 r' sg2 fp' ∧ KP ar rho sg sg2 ∧ Ow ar rho r' ∧ forD g b (ds.drop (i + 1)) r' = res,
          fun sg2 H2 ⟨F2, fp2, r2, h1, h2, h3, h4, h5, h6⟩ => ⟨ds.length - (i + 1), by omega, F2, fp2, r2, h1, h2, h3, h4, h5, h6, rfl, hlt⟩, fun y Hy hy => ?_⟩
        have item : ∃ Fy, R K O Fy Hy r' sg' fp' ∧ Stp F H fp Fy Hy fp' ∧ Rp K Fy d y ∧ Same F' Fy := by
          rcases (hw.mono gF).yld i H' y Hy rr.sub hy d hd with ⟨rfl, h2⟩ | ⟨T, us, es, h1, rfl, rfl, rfl, h5⟩
          · exact ⟨F', rr, st, h2, Same.refl F'⟩
          · obtain ⟨r3, s3⟩ := rr.frozen ok h1 (.tup us)
            exact ⟨_, r3, st.trans s3, ⟨T, us, rfl, upd_same, RpA.mono s3.grow _ _ h5⟩, s3.grow⟩
        obtain ⟨Fy, ry, sy, hdy, gy⟩ := item
        refine ⟨d, r', ra, eg, Fy, fp', ry, hdy, fun sg2 fpa qa hfa kpa hsl => ⟨ra, ?_⟩⟩
        have sa : Stp F H fp Fy Hy fpa := ⟨sy.grow, sy.new, sy.frame, fun j b z => sy.fps j b (hfa j b z), sy.stay⟩
        have kp2 : KP ar rho sg sg2 := fun j h1 h2 => (kpa j h1 (kow j h1 h2)).trans (kp j h1 h2)
        have ow2 : Ow ar rho ra := kow.trans owa
        have kob := hb.ko ra
        refine ⟨Fy, fpa, qa, ?_⟩
        cases eb : b ra with
        | no =>
          rw [eb] at ef
          have ef : Rs.no = res := ef
          rw [← ef] at q
          exact q
        | ex x rb =>
          rw [eb] at ef
          have ef : Rs.ex x rb = res := ef
          rw [← ef] at q
          intro F3 H3 fp3 sg3 d3 s3 q3 kp3 p3
          exact q F3 H3 fp3 sg3 d3 (sa.trans s3) q3 (fun j h1 h2 => (kp3 j h1 (ow2 j h1 h2)).trans (kp2 j h1 h2)) p3
        | ok fl rb =>
          rw [eb] at ef kob
          have kob : Ow ar ra rb := kob
          simp only [Rs.bind] at ef
          intro F3 H3 fp3 sg3 s3 q3 kp3
          have kp4 : KP ar rho sg sg3 := fun j h1 h2 => (kp3 j h1 (ow2 j h1 h2)).trans (kp2 j h1 h2)
          cases fl with
          | nx => exact ⟨F3, fp3, rb, sa.trans s3, gF.trans (gy.trans s3.grow), q3, kp4, ow2.trans kob, ef⟩
          | ct => exact ⟨F3, fp3, rb, sa.trans s3, gF.trans (gy.trans s3.grow), q3, kp4, ow2.trans kob, ef⟩
          | bk =>
            have ef : Rs.ok Fl.nx rb = res := ef
            rw [← ef] at q
            exact q F3 H3 fp3 sg3 (sa.trans s3) q3 kp4
          | rt u =>
            have ef : Rs.ok (Fl.rt u) rb = res := ef
            rw [← ef] at q
            exact fun v p => q F3 H3 fp3 sg3 (sa.trans s3) q3 kp4 v (p.back sa.stay)
    · have e : i = ds.length := by omega
      subst e
      rw [List.drop_length] at ef
      have ef : Rs.ok Fl.nx r' = res := ef
      rw [← ef] at q
      exact .inl ⟨hw.stop _ H' (gF.trans rr.sub) (Nat.le_refl _), q F' H' fp' sg' st rr kp⟩
/-- for, one token out, in its body too -/
theorem psT_for {tg iter : Expr} {body : List Stmt} {wi : TI} {g : TG} {tb : TS} {pos : Pos} (hp : PassesOwn (model X.prog X.w) X.A X.env X.xe) (hc : X.calm = true) (hi : PI X tg iter wi) (hg : PG X tg g) (hb : PSsT X body tb)
    (hs : ∀ x, foldedSetIterable iter X.env x = pure x) : PST X (.For tg iter body [] pos) (tFor wi g tb) := by
  intro pins s sg H D h0 I h
  have mono : ∀ {α : Type} {t : Sem α} {Q Q' : α → Shared → Prop} {s : Shared}, 1 ≤ s.toks → wpAny (model X.prog X.w) X.A t Q X.xe s → (∀ a s', 1 ≤ s'.toks → Q a s' → Q' a s') → wpAny (model X.prog X.w) X.A t Q' X.xe s := fun h0 h k =>
    wpAny_mono (PySem.wpAny_toks_of h0 h) (fun a s' q => k a s' q.1 q.2) fun _ _ z => z.2
  refine wpAny_For (mono h0 (hi.run pins s sg H _ I h) fun v s1 t1 h1 => mono t1 h1 fun itv s2 t2 h2 => ?_) hs
  obtain ⟨it, fp, tn, J, H2, e, I2, T, st2, f2, W, ⟨m0, w0⟩, turn⟩ := h2
  subst e
  have stat : ∀ {H' : Hp}, (∀ b ∈ fp, H' b = none) → ∀ b ∈ fp, FpOk X pins H' b := fun hn b hb => ⟨hn b hb, (f2 b hb).2⟩
  refine codeAny_forLoop_any (fun n s' => 1 ≤ s'.toks ∧ ∃ i sg' H', Inv X pins sg' H' s' ∧ tn i s'.heap ∧ (∀ b ∈ fp, H' b = none) ∧ W i n sg' H') ?_ m0 ⟨t2, 0, sg, H2, I2, st2, fun b hb => (f2 b hb).1, w0⟩
  rintro n s3 ⟨t3, i, sg3, H3, I3, st3, fr3, w3⟩
  rcases turn i n sg3 H3 w3 with ⟨stop, qn⟩ | ⟨go, N, hN, step⟩
  · refine wpAny_passesOwn hp (thn (T.done X rfl rfl rfl hc i pins s3 sg3 H3 X.xe I3 (stat fr3) st3 stop) fun r s4 ⟨hr, I4⟩ => ?_)
    subst hr
    exact wpAny_execs_nil ⟨sg3, H3, I4, qn⟩
  · refine wpAny_passesOwn hp (mono t3 (T.item X rfl rfl rfl hc i pins s3 sg3 H3 X.xe I3 (stat fr3) st3 go) fun r s4 t4 ⟨u, hr, h4⟩ => ?_)
    subst hr
    refine wpAny_passesOwn hp (mono t4 h4 fun _ s5 t5 ⟨x, H5, I5, r5, y5, st5, fr5⟩ => ?_)
    have I5' := I5.pinned (stat fr5) (T.obj _ _ st5)
    refine wpAny_passesOwn hp (mono t5 (hg.run _ s5 sg3 H5 x u _ I5' r5 (step x H5 y5)) fun _ s6 t6 ⟨sg6, H6, I6, q6⟩ => ?_)
    refine wpAny_passesOwn hp (mono t6 (hb _ s6 sg6 H6 _ t6 I6 q6) fun f s7 t7 q7 => ?_)
    have again : ∀ {sg7 : St} {H7 : Hp}, Inv X (pins ++ pinsAt fp s5.heap) sg7 H7 s7 → N sg7 H7 → ∃ m, m < n ∧ 1 ≤ s7.toks ∧ ∃ i sg' H', Inv X pins sg' H' s7 ∧ tn i s7.heap ∧ (∀ b ∈ fp, H' b = none) ∧ W i m sg' H' := fun {sg7 H7} I7 n7 => by
      obtain ⟨m', hm, w7⟩ := hN sg7 H7 n7
      refine ⟨m', hm, t7, i + 1, sg7, H7, I7.unpinned, T.keep _ _ _ st5 fun b hb o e => (I7.pin (b, o) (List.mem_append_right _ (List.mem_append_right _ (mem_pinsAt hb e)))).1, fun b hb => ?_, w7⟩
      obtain ⟨o, e, d⟩ := T.obj _ _ st5 b hb
      exact (I7.pin (b, o) (List.mem_append_right _ (List.mem_append_right _ (mem_pinsAt hb e)))).2.1
    cases f with
    | next => obtain ⟨sg7, H7, I7, n7⟩ := q7; exact again I7 n7
    | cont => obtain ⟨sg7, H7, I7, n7⟩ := q7; exact again I7 n7
    | brk => obtain ⟨sg7, H7, I7, q7⟩ := q7; exact ⟨sg7, H7, I7.unpinned, q7⟩
    | ret v => obtain ⟨x7, sg7, H7, I7, r7, q7⟩ := q7; exact ⟨x7, sg7, H7, I7.unpinned, r7, q7⟩
end
end Sn
namespace Sn
open PySem L2
section
variable {X : Cx} {pins : List (Addr × Obj)} {sg : St} {H : Hp} {s : Shared}
/-- a local's slot is written: what it holds is known as it is -/
theorem put_raw (I : Inv X pins sg H s) {i : Nat} {x : Str} {v : V} {u : Value} (hN : X.N.Nodup) (hi : X.N[i]? = some x) (hk : X.env.kindOf x = some .local) (r : RelV v u) {mm : Str → Option Value} (hn : s.heap.Ns X.env.locals mm)
    (hl : ∀ (j : Nat) (y : Str) (w : V), X.N[j]? = some y → sg[j]? = some (some w) → Vis X.env.scope y → ∃ z, RelV w z ∧ Look X.env s.heap mm y z) {hp : Heap} {k : Nat}
    (hn2 : hp.Ns X.env.locals fun y => if y = x then some u else mm y) (hs : Heap.SameBut X.env.locals s.heap hp) : Inv X pins (sg.set i (some v)) H { s with heap := hp, toks := k } := by
  have low : ∀ {b : Addr} {o : Obj}, X.s_0.heap.get? b = some o → hp.get? b = s.heap.get? b := fun {b o} e => hs.2 b (Nat.ne_of_lt (Nat.lt_of_lt_of_le (Heap.lt_size e) I.ok.above))
  have il : i < sg.length := by
    rw [I.len]
    exact (List.getElem?_eq_some_iff.mp hi).1
  constructor
  · exact I.ok
  · exact I.os
  · exact I.bare
  · constructor
    · intro b o e n hb hx
      rw [show ({ s with heap := hp, toks := k } : Shared).heap.get? b = s.heap.get? b from low e]
      exact I.base.keep b o e n hb hx
    · intro b o e n hb hx
      obtain ⟨sl, z⟩ := I.base.slot b o e n hb hx
      exact ⟨sl, (low e).trans z⟩
    · exact I.base.free
    · intro b o e hx
      obtain ⟨o2, z⟩ := I.base.there b o e hx
      exact ⟨o2, (low e).trans z⟩
    · exact I.base.tups
    · exact I.base.frzs
    · exact I.base.tbls
  · refine ⟨_, hn2, fun j y w a1 a2 a3 => ?_⟩
    by_cases hj : j = i
    · subst hj
      have exy : y = x := Option.some.inj (a1.symm.trans hi)
      subst exy
      rw [List.getElem?_set_self il] at a2
      cases a2
      exact ⟨u, r, .inl ⟨hk, if_pos rfl⟩⟩
    · rw [List.getElem?_set_ne (fun z => hj z.symm)] at a2
      obtain ⟨z, b1, b2⟩ := hl j y w a1 a2 a3
      refine ⟨z, b1, ?_⟩
      cases b2 with
      | inl b2 =>
        have ne : ¬ y = x := fun z => hj (nodup_ix hN a1 (z ▸ hi))
        exact .inl ⟨b2.1, (if_neg ne).trans b2.2⟩
      | inr b2 =>
        obtain ⟨kk, cc, lc, ic⟩ := b2
        exact .inr ⟨kk, cc, lc, ic.sameBut hs (I.cne y cc lc)⟩
  · intro y cc lc
    obtain ⟨w, z⟩ := I.cell y cc lc
    exact ⟨w, z.sameBut hs (I.cne y cc lc)⟩
  · exact I.free
  · exact I.freeC
  · intro p hp2
    obtain ⟨c1, c2, c3, c4, c5⟩ := I.pin p hp2
    exact ⟨(hs.2 p.1 c3).trans c1, c2, c3, c4, c5⟩
  · intro b ob e
    refine (I.hok b ob e).stay (fun a w hc q => (hs.2 a ?_).trans q) (fun _ q => q) fun _ _ q => q
    intro z
    subst z
    rcases hc with hc | hc
    · rw [← hc, I.free] at e
      cases e
    · rw [I.free] at hc
      cases hc
  · rw [List.length_set]
    exact I.len
end
end Sn
namespace Sn
open PySem PySem.Spec PyProof.Rows L2
/-- mark = left[e]; left = left.replace(mark, "") -/
def sPair (ar im il : Nat) (x : X1) : X2 := fun r => match r[il]? with
  | some (some (.d (.str _))) => (x r).bind fun u r1 => match u.at r1, r1[il]? with
    | some (.d (.int i)), some (some (.d (.str z))) => if z.length ≤ 100000 then match atI z.cps.toList i with
        | some c => match putD ar im (.str ⟨#[c]⟩) r1 with
          | some r2 => match putD ar il (.str (Txt.replace z ⟨#[c]⟩ (Str.ofString ""))) r2 with
            | some r3 => .ok .nx r3
            | none => .no
          | none => .no
        | none => .no
      else .no
    | _, _ => .no
  | _ => .no
section
variable {K : PySem.W.Frag} {O : OR} {X : Cx} {W : WX} {ar : Nat}
theorem ok_pair (ok : ORok O) {im il : Nat} {m l : Str} {xE : X1} {E : Expr} {rest : List Stmt} {k : Nat} {pm pl ps pA pl2 pl3 ap pm2 cp cpos pB : Pos} (hN : X.N.Nodup) (hm : X.N[im]? = some m) (hkm : X.env.kindOf m = some .local) (hl : X.N[il]? = some l) (hvl : Vis X.env.scope l) (hLl : Loc X.env.scope l)
    (hfl : X.fn l = true ∨ X.env.scope.names.lookup l = some .local) (hdl : (l == ("__debug__" : Str)) = false) (hcl : (l == ("__classdict__" : Str)) = false) (hdm : (m == ("__debug__" : Str)) = false) (hne : im ≠ il) (hix : PlainIx E) (hline : (ap.endLine == cpos.line) = true)
    (hE : OkE K O X W xE E) (kE : KpF ar xE) : OkP2 K O W ar (fun t => ∀ u, PSsT X rest u → PSsT X (.Assign [.Name m pm] (.Subscript (.Name l pl) E ps) pA :: .Assign [.Name l pl2] (.Call (.Attribute (.Name l pl3) "replace" ap) [.Name m pm2, .Constant (.str "") k cp] [] cpos) pB :: rest) (tSeq t u)) (sPair ar im il xE) := by
  refine ⟨fun rho u hu pins s sg H D h0 I q => ?_, fun rho => ?_⟩
  · obtain ⟨F, fp, r0, q⟩ := q
    have mono : ∀ {α : Type} {t : Sem α} {Q Q' : α → Shared → Prop} {s : Shared}, 1 ≤ s.toks → wpAny (model X.prog X.w) X.A t Q X.xe s → (∀ a s', 1 ≤ s'.toks → Q a s' → Q' a s') → wpAny (model X.prog X.w) X.A t Q' X.xe s := fun h0 h k =>
      wpAny_mono (PySem.wpAny_toks_of h0 h) (fun a s' q => k a s' q.1 q.2) fun _ _ z => z.2
    generalize hres : sPair ar im il xE rho = res at q
    have fin : Rs.no = res → False := fun e => by
      subst e
      exact q
    unfold sPair at hres
    split at hres
    · rename_i z0 e0
      obtain ⟨v0, b1, b2⟩ := r0.rep il _ e0
      have ev0 := b2.str
      subst ev0
      refine wpAny_execs_cons (wpAny_Assign_Name (Subscript_ (raw_name hl hvl I b1 (fun vl rl => ?_) hdl hcl)) (noComp_sw rfl))
      obtain ⟨tl, rfl⟩ := rl
      have hE' := hE rho
      have ko := (kE rho).ko
      cases ex : xE rho with
      | no => rw [ex] at hres; exact (fin hres).elim
      | ex y r1 =>
        rw [ex] at hres hE'
        subst hres
        refine wpAny_mono (hE'.run pins s sg H (fun _ _ => False) I ⟨F, fp, r0, fun F' H' fp' d s1 q1 p1 => q F' H' fp' sg d s1 q1 KP.refl p1⟩) (fun v s1 w => ?_) fun _ _ z => z
        obtain ⟨_, _, _, _, w⟩ := w
        exact w.elim
      | ok uu r1 =>
        rw [ex] at hres hE' ko
        have ko : Ow ar rho r1 := ko
        refine mono h0 (hE'.run pins s sg H (fun v H1 => ∃ F1 fp1, Stp F H fp F1 H1 fp1 ∧ R K O F1 H1 r1 sg fp1 ∧ RepR K O H F1 H1 fp1 sg v uu) I ⟨F, fp, r0, fun F1 H1 fp1 v s1 q1 p1 => ⟨F1, fp1, s1, q1, p1⟩⟩) fun iv s2 t2 w => ?_
        obtain ⟨xv, H2, I2, rx, F1, fp1, st1, q1, p1⟩ := w
        rw [bind_ok] at hres
        split at hres
        · rename_i i z eu ez
          obtain ⟨_, c1, _⟩ := p1.get q1 eu
          have exv := c1.int
          subst exv
          obtain ⟨ti, rfl⟩ := rx
          obtain ⟨v1, d1, d2⟩ := q1.rep il _ ez
          rw [b1] at d1
          have ezz : z = z0 := by
            have := d2.str
            rw [← Option.some.inj (Option.some.inj d1)] at this
            exact (V.str.inj this).symm
          subst ezz
          split at hres
          · rename_i hz
            split at hres
            · rename_i c hc
              split at hres
              · rename_i r2 ep
                split at hres
                · rename_i r3 ep2
                  obtain ⟨j, g1, g2, g3, g4, g5⟩ := atI_get hc
                  have hlen : z.cps.toList.length = z.length := rfl
                  rw [hlen] at g1 g4 g5
                  have big := line63
                  have hszl : z.length ≤ sizeLine := sz hz
                  refine tail_any (typeIs_str s2 z tl) slot_str_getitem.lookup (getItem_str (c := c) ?_ (by rw [g1]; simpa using g2) ?_) (hix _ _)
                  · have e1 : decide (i < -(2 ^ 63 : Int)) = false := decide_eq_false (by omega)
                    have e2 : decide (i ≥ 2 ^ 63) = false := decide_eq_false (by omega)
                    rw [e1, e2]
                    rfl
                  · subst hres
                    have t0 : s2.toks ≠ 0 := by omega
                    obtain ⟨mm, hn, hloc⟩ := (I2.tok (s2.toks + 1)).loc
                    have hcls : (X.env.scope.kind == .class || (X.env.scope.kind == .module && X.env.locals != X.env.globals)) = false := by
                      rw [I.ok.kind]
                      rfl
                    refine wpAny_storeName_local hkm hn (fun hp hn2 hsb => ?_) hcls
                    have I3 : Inv X pins (sg.set im (some (.str ⟨#[c]⟩))) H2 { ({ s2 with toks := s2.toks + 1 } : Shared) with heap := hp, toks := s2.toks + 1 + 1 } := put_raw (v := .str ⟨#[c]⟩) (u := .str ⟨#[c]⟩ s2.toks) (I2.tok (s2.toks + 1)) hN hm hkm ⟨s2.toks, rfl⟩ hn hloc hn2 hsb
                    have b3 : (sg.set im (some (V.str ⟨#[c]⟩)))[il]? = some (some (.str z)) := by
                      rw [List.getElem?_set_ne hne]
                      exact b1
                    refine wpAny_execs_cons (wpAny_Assign_Name (PySem.wpAny_with_toks (n := 1) (by show 1 ≤ s2.toks + 1 + 1; omega) (PySem.Call_method2 rfl rfl hline (raw_name hl hvl I3 b3 (fun vl rl => ?_) hdl hcl))) (noComp_sw rfl))
                    obtain ⟨tl2, rfl⟩ := rl
                    refine ⟨"str", _, PySem.F.plainAttrs_str, PySem.F.slot_str_replace, PySem.F.type_str_replace, typeIs_str _ _ _, (fun _ e => nomatch e), Calls.callWith_builtin rfl (Calls.evalArgs_plain (Calls.spliced_cons ?_))⟩
                    refine wpAny_Name (wpAny_loadName_local I3.ok.kind hkm hn2 (if_pos rfl) ?_) hdm
                    refine Calls.spliced_cons (Calls.Constant_str (Calls.spliced_nil ?_))
                    have ny : ((⟨#[c]⟩ : Str) == (Str.ofString "")) = false := by
                      rw [beq_eq_false_iff_ne]
                      intro e
                      have := congrArg Str.length e
                      rw [show (Str.ofString "").length = 0 by decide +kernel] at this
                      exact absurd this (by show ¬ 1 = 0; decide)
                    refine PySem.SC.replace t0 (by show s2.toks + 1 + 1 ≠ 0; omega) (by show s2.toks ≠ s2.toks + 1 + 1; omega) ny ?_ fun t' kk => ?_
                    · rw [show (Str.ofString "").length = 0 by decide +kernel, Nat.mul_zero]
                      omega
                    intro tk
                    have tk : 1 ≤ kk := tk
                    refine mono (by exact tk) (store_ok (v := .str (Txt.replace z ⟨#[c]⟩ (Str.ofString ""))) (u := .str (Txt.replace z ⟨#[c]⟩ (Str.ofString "")) t') (I3.tok kk) hN hl hLl ⟨t', rfl⟩ (Q := fun _ s' => Inv X pins ((sg.set im (some (.str ⟨#[c]⟩))).set il (some (.str (Txt.replace z ⟨#[c]⟩ (Str.ofString ""))))) H2 s') (fun s' I' => I') hfl) fun _ s4 t4 I4 => ?_
                    refine hu pins s4 _ H2 D t4 I4 ?_
                    obtain ⟨rfl, n1⟩ := putD_some ep
                    obtain ⟨rfl, n2⟩ := putD_some ep2
                    obtain ⟨fp2, q2, f2⟩ := q1.putD (i := im) (d := .str ⟨#[c]⟩) (v := .str ⟨#[c]⟩) ok rfl
                    obtain ⟨fp3, q3, f3⟩ := q2.putD (i := il) (d := .str (Txt.replace z ⟨#[c]⟩ (Str.ofString ""))) (v := .str (Txt.replace z ⟨#[c]⟩ (Str.ofString ""))) ok rfl
                    refine q F1 H2 fp3 _ ⟨st1.grow, st1.new, st1.frame, fun a b w => st1.fps a b (f2 a b (f3 a b w)), st1.stay⟩ q3 fun a h1 h2 => ?_
                    have o1 := ko a h1 h2
                    have o2 := (ownB_set (r := r1) (a := .d (.str ⟨#[c]⟩)) (n1 a h1 o1)).trans o1
                    rw [List.getElem?_set_ne (n2 a h1 o2), List.getElem?_set_ne (n1 a h1 o1)]
                · exact (fin hres).elim
              · exact (fin hres).elim
            · exact (fin hres).elim
          · exact (fin hres).elim
        · exact (fin hres).elim
    · exact (fin hres).elim
  · unfold sPair
    split
    · refine Ko.bind (kE rho).ko fun uu r1 => ?_
      split
      · split
        · split
          · rename_i c0 hc0
            split
            · rename_i r2 ep
              split
              · rename_i r3 ep2
                obtain ⟨rfl, n1⟩ := putD_some ep
                obtain ⟨rfl, n2⟩ := putD_some ep2
                intro j h1 h2
                have h3 := (ownB_set (r := r1) (a := .d (.str ⟨#[c0]⟩)) (n1 j h1 h2)).trans h2
                exact (ownB_set (n2 j h1 h3)).trans h3
              · exact True.intro
            · exact True.intro
          · exact True.intro
        · exact True.intro
      · exact True.intro
    · exact True.intro
end
end Sn
namespace Sn
open PySem L2
/-! ### a body that begins with a written text under a name -/
def lcK (c : Ctx) (x : Str) : Bool := decide (c.sc.names.lookup x = some .local)
mutual
def cST (c : Ctx) : Nat → Stmt → X2
  | 0, _ => sNo
  | n + 1, s => match s with
    | .For tg it body [] p => if noSet it = true then match cTg c tg with
        | some (g, _) => sFor (cI c n tg it) g (cSsT c n body)
        | none => sNo
      else sNo
    | s => cS c (n + 1) s
def cSsT (c : Ctx) : Nat → List Stmt → X2
  | 0, _ => sNo
  | n + 1, ss => match ss with
    | [] => sNx
    | .Assign [.Name m p1] (.Subscript (.Name l p2) e p3) p4 :: .Assign [.Name l2 p5] (.Call (.Attribute (.Name l3 p6) a p7) [.Name m2 p8, .Constant (.str w) k p9] [] p10) p11 :: rest =>
      if l2 = l ∧ l3 = l ∧ m2 = m ∧ a = "replace" ∧ w = "" ∧ noSlice e = true ∧ lcK c m = true ∧ lcK c l = true ∧ ¬ m = "__debug__" ∧ (p7.endLine == p10.line) = true then match nmOf c m, nmOf c l, ixOf c l with
        | some im, some il, some _ => if im = il then sNo else sSeq (sPair c.ar im il (cE c n e)) (cSsT c n rest)
        | _, _, _ => sNo
      else sSeq (cST c n (.Assign [.Name m p1] (.Subscript (.Name l p2) e p3) p4)) (cSsT c n (.Assign [.Name l2 p5] (.Call (.Attribute (.Name l3 p6) a p7) [.Name m2 p8, .Constant (.str w) k p9] [] p10) p11 :: rest))
    | s :: ss => sSeq (cST c n s) (cSsT c n ss)
end
def cB (c : Ctx) (n : Nat) (ss : List Stmt) : X2 := match ss with
  | .Assign [.Name x p] (.Constant (.str w) j p2) p3 :: rest => match nmOf c x with
    | some i => sSeq (sSet c.ar i (xD (.str w))) (cSsT c n rest)
    | none => sNo
  | ss => cSs c n ss
section
variable {K : PySem.W.Frag} {O : OR} {c : Ctx} {X : Cx} {W : WX} {ar : Nat}
theorem okP_set {P : TS → Prop} (imp : ∀ t t' : TS, P t → (∀ D sg H, t' D sg H → t D sg H) → P t') (no : P (fun _ _ _ => False)) (ok : ORok O) {x : X1} {i : Nat} (h : ∀ rho, P (tAsg (tEv K O W rho (x rho)) (gName i))) (kx : KpF ar x) : OkP2 K O W ar P (sSet ar i x) := by
  have no' : ∀ {rho}, P (tSt K O W ar rho .no) := imp _ _ no fun D sg H q => by obtain ⟨F, fp, r, q⟩ := q; exact (show False from q).elim
  refine ⟨fun rho => ?_, fun rho => Ko.bind (kx rho).ko fun u r1 => ?_⟩
  · have k := h rho
    have ko := (kx rho).ko
    unfold sSet
    cases ex : x rho with
    | no => exact no'
    | ex y r1 =>
      rw [ex] at k
      refine imp _ _ k fun D sg H q => ?_
      obtain ⟨F, fp, r, q⟩ := q
      exact ⟨F, fp, r, fun F' H' fp' d s1 q1 p1 => q F' H' fp' sg d s1 q1 KP.refl p1⟩
    | ok u r1 =>
      rw [ex] at k ko
      have ko : Ow ar rho r1 := ko
      simp only [Rs.bind]
      split
      · rename_i hl
        cases ea : asgV ar i u r1 with
        | none => exact no'
        | some r2 =>
          refine imp _ _ k fun D sg H q => ?_
          obtain ⟨F, fp, r, q⟩ := q
          refine ⟨F, fp, r, fun F1 H1 fp1 v s1 q1 p1 => ?_⟩
          obtain ⟨F2, fp2, s2, q2, hne⟩ := asg_ok ok ea hl s1 q1 p1
          exact q F2 H1 fp2 _ s2 q2 fun j h1 h2 => List.getElem?_set_ne (hne j h1 (ko j h1 h2))
      · exact no'
  · split
    · cases ea : asgV ar i u r1 with
      | none => exact True.intro
      | some r2 => exact asg_ow ea
    · exact True.intro
theorem OkS.t {x : X2} {st : Stmt} (h : OkS K O X W ar x st) : OkP2 K O W ar (PST X st) x := ⟨fun rho => PST.of (h.ps rho), h.ko⟩
theorem t_no {P : TS → Prop} (imp : ∀ t t' : TS, P t → (∀ D sg H, t' D sg H → t D sg H) → P t') (no : P (fun _ _ _ => False)) : OkP2 K O W ar P sNo := ⟨fun rho => imp _ _ no fun D sg H q => by obtain ⟨F, fp, r, q⟩ := q; exact (show False from q).elim, fun _ => True.intro⟩
theorem st_F {st : Stmt} : PST X st (fun _ _ _ => False) := fun _ _ _ _ _ _ _ z => z.elim
theorem sst_F {st : List Stmt} : PSsT X st (fun _ _ _ => False) := fun _ _ _ _ _ _ _ z => z.elim
theorem lcK_ok (h : XOk K O c X W) {x : Str} (e : lcK c x = true) : X.env.kindOf x = some .local := by
  unfold lcK at e
  rw [decide_eq_true_eq] at e
  unfold PySem.Env.kindOf
  rw [h.sc]
  exact e
structure GoodT (K : PySem.W.Frag) (O : OR) (X : Cx) (W : WX) (c : Ctx) (n : Nat) : Prop where
  s : ∀ s, OkP2 K O W c.ar (PST X s) (cST c n s)
  ss : ∀ ss, OkP2 K O W c.ar (PSsT X ss) (cSsT c n ss)
theorem goodT_all (h : XOk K O c X W) : ∀ n : Nat, GoodT K O X W c n
  | 0 => ⟨fun s => by unfold cST; exact t_no PSTimp st_F, fun ss => by unfold cSsT; exact t_no PSsTimp sst_F⟩
  | n + 1 => by
    have ih := goodT_all h n
    have g := good_all n K O X W c h
    refine ⟨fun s => ?_, fun ss => ?_⟩
    · unfold cST
      split
      · split
        · rename_i hs
          split
          · rename_i gg sl hg
            exact okP_for (fun tt k pins s sg H D h0 I q => by obtain ⟨r, q⟩ := q; exact k r pins s sg H D h0 I q) PSTimp st_F h.or (fun wi g tb pi pg pb => psT_for h.po h.calm pi pg pb (noSet_fold hs)) (g.i _ _).1 (g.i _ _).2 (cTg_ok h hg).1 (ih.ss _)
          · exact t_no PSTimp st_F
        · exact t_no PSTimp st_F
      · exact ((goodS_all (n + 1) K O X W c h).s _).t
    · unfold cSsT
      split
      · exact ⟨fun rho => PSsT.of ((okSs_nil (K := K) (O := O) (X := X) (W := W) (ar := c.ar)).ps rho), (okSs_nil (K := K) (O := O) (X := X) (W := W) (ar := c.ar)).ko⟩
      · split
        · rename_i hh
          obtain ⟨rfl, rfl, rfl, rfl, rfl, hsl, hm, hl, hdm, hline⟩ := hh
          split
          · rename_i im il _ e1 e2 e3
            split
            · exact t_no PSsTimp sst_F
            · rename_i hne
              obtain ⟨a1, a2, a3⟩ := nm_ok h e1
              obtain ⟨b1, b2, b3⟩ := nm_ok h e2
              obtain ⟨c1, c2, c3, c4⟩ := h.vis e3
              exact okP_cons (fun t u k hu => k u hu) PSsTimp sst_F (ok_pair h.or h.nd a1 (lcK_ok h hm) b1 c2 b2 b3 c3 c4 (by rw [beq_eq_false_iff_ne]; exact hdm) hne (noSlice_ix hsl) hline (g.e _).1 (g.e _).2) (ih.ss _)
          · exact t_no PSsTimp sst_F
        · exact okP_cons (fun t u k hu => psst_cons k hu) PSsTimp sst_F (ih.s _) (ih.ss _)
      · exact okP_cons (fun t u k hu => psst_cons k hu) PSsTimp sst_F (ih.s _) (ih.ss _)
theorem cB_ok (h : XOk K O c X W) (n : Nat) (ss : List Stmt) : OkSs K O X W c.ar (cB c n ss) ss := by
  unfold cB
  split
  · rename_i x p w j p2 p3 rest
    split
    · rename_i i hi
      obtain ⟨a1, a2, a3⟩ := nm_ok h hi
      have go := okP_cons (Pc := PSs X (.Assign [.Name x p] (.Constant (.str w) j p2) p3 :: rest)) (K := K) (O := O) (W := W) (ar := c.ar) (fun t u (k : ∀ u, PSsT X rest u → PSs X (.Assign [.Name x p] (.Constant (.str w) j p2) p3 :: rest) (tSeq t u)) hu => k u hu) (fun t t' k i => PSsimp k i) ⟨fun _ _ _ _ _ _ z => z.elim⟩
        (okP_set (fun t t' k i u hu => PSsimp (k u hu) fun D sg H q => i _ _ _ q) (fun u hu => ⟨fun _ _ _ _ _ _ z => (show False from z).elim⟩) h.or (i := i) (x := xD (.str w)) (fun rho u hu => PSsimp (pss_str h.nd a1 a2 hu (noComp_sw rfl) a3) fun D sg H q => by
          obtain ⟨F, fp, r, q⟩ := q
          exact q F H fp _ (Stp.refl _ _ _) r rfl) kp_D) ((goodT_all h n).ss rest)
      exact ⟨go.ps, go.ko⟩
    · exact okSs_no
  · exact (goodS_all n K O X W c h).ss _
end
end Sn
namespace Sn
open PySem L2
/-! ### a def, as a whole -/
def isOb : Option A → Bool
  | some (.ob _ _) => true
  | _ => false
def backE : Env → Env → Env
  | [], _ => []
  | o :: as, [] => o :: backE as []
  | some (.d x) :: as, _ :: r => some (.d x) :: backE as r
  | none :: as, _ :: r => none :: backE as r
  | some (.l _ _) :: as, y :: r => y :: backE as r
  | some (.m _) :: as, y :: r => y :: backE as r
  | some (.ob _ _) :: as, y :: r => y :: backE as r
def retOf (as : Env) (u : Rv) (r : Env) : Rs Rv := match u with
  | .d x => .ok (.d x) (backE as r)
  | .n a => .ok (.n a) (backE as r)
  | .v i => if ownB as i = true then .ok (.v i) (backE as r) else match r[i]? with
    | some (some (.d x)) => .ok (.d x) (backE as r)
    | some (some a) => if as.all (fun o => !isOb o) = true ∧ (backE as r).all (fun o => !isOb o) = true then .ok (.n a) (backE as r) else .no
    | _ => .no
def finE (as : Env) (m : Rs Fl) : Rs Rv := match m with
  | .ok .nx r => .ok (.d .non) (backE as r)
  | .ok (.rt u) r => retOf as u r
  | .ok _ _ => .no
  | .ex x r => .ex x (backE as r)
  | .no => .no
def semF (c : Ctx) (n : Nat) (body : List Stmt) (as : Env) : Rs Rv := if as.length = c.ar then finE as (cB c n body (as ++ List.replicate (c.N.length - c.ar) none)) else .no
def stF (sc : Scope) : List Str := (sc.names.filter fun p => decide (sc.names.lookup p.1 = some .local) || decide (sc.names.lookup p.1 = some .cell)).map (·.1)
def ctxF (N : List Str) (st : Stmt) (ar : Nat) (nm : Nm) : Ctx := ⟨nm, N, defScope st, ar, stF (defScope st)⟩
def fnF (N : List Str) (st : Stmt) (ar : Nat) (io : List Bool) (nm : Nm) : Fn := ⟨ar, io, semF (ctxF N st ar nm) 60 (defBody st)⟩
theorem backE_len : ∀ (as r : Env), (backE as r).length = as.length
  | [], _ => rfl
  | o :: as, [] => by
    unfold backE
    rw [List.length_cons, List.length_cons, backE_len]
  | some (.d x) :: as, _ :: r => by unfold backE; rw [List.length_cons, List.length_cons, backE_len]
  | none :: as, _ :: r => by unfold backE; rw [List.length_cons, List.length_cons, backE_len]
  | some (.l _ _) :: as, y :: r => by unfold backE; rw [List.length_cons, List.length_cons, backE_len]
  | some (.m _) :: as, y :: r => by unfold backE; rw [List.length_cons, List.length_cons, backE_len]
  | some (.ob _ _) :: as, y :: r => by unfold backE; rw [List.length_cons, List.length_cons, backE_len]
theorem ownB_cons {o : Option A} {as : Env} {i : Nat} : ownB (o :: as) (i + 1) = ownB as i := rfl
theorem backE_get : ∀ {as r : Env} {i : Nat}, (ownB as i = true → i < r.length) → i < as.length → (backE as r)[i]? = if ownB as i = true then r[i]? else as[i]?
  | [], _, i, _, h => by cases h
  | o :: as, [], 0, h, _ => by
    rw [if_neg (fun z => absurd (h z) (Nat.not_lt_zero _))]
    unfold backE
    rfl
  | o :: as, [], i + 1, h, k => by
    have h : ¬ ownB (o :: as) (i + 1) = true := fun z => absurd (h z) (Nat.not_lt_zero _)
    rw [if_neg h]
    unfold backE
    show (backE as [])[i]? = as[i]?
    have h' : ¬ ownB as i = true := h
    have k' : i < as.length := Nat.lt_of_succ_lt_succ k
    rw [backE_get (fun z => absurd z h') k', if_neg h']
  | some (.d x) :: as, y :: r, 0, _, _ => rfl
  | some (.d x) :: as, y :: r, i + 1, h, k => by
    show (backE as r)[i]? = _
    rw [backE_get (fun z => Nat.lt_of_succ_lt_succ (h z)) (Nat.lt_of_succ_lt_succ k)]
    rfl
  | none :: as, y :: r, 0, _, _ => rfl
  | none :: as, y :: r, i + 1, h, k => by
    show (backE as r)[i]? = _
    rw [backE_get (fun z => Nat.lt_of_succ_lt_succ (h z)) (Nat.lt_of_succ_lt_succ k)]
    rfl
  | some (.l _ _) :: as, y :: r, 0, _, _ => rfl
  | some (.l _ _) :: as, y :: r, i + 1, h, k => by
    show (backE as r)[i]? = _
    rw [backE_get (fun z => Nat.lt_of_succ_lt_succ (h z)) (Nat.lt_of_succ_lt_succ k)]
    rfl
  | some (.m _) :: as, y :: r, 0, _, _ => rfl
  | some (.m _) :: as, y :: r, i + 1, h, k => by
    show (backE as r)[i]? = _
    rw [backE_get (fun z => Nat.lt_of_succ_lt_succ (h z)) (Nat.lt_of_succ_lt_succ k)]
    rfl
  | some (.ob _ _) :: as, y :: r, 0, _, _ => rfl
  | some (.ob _ _) :: as, y :: r, i + 1, h, k => by
    show (backE as r)[i]? = _
    rw [backE_get (fun z => Nat.lt_of_succ_lt_succ (h z)) (Nat.lt_of_succ_lt_succ k)]
    rfl
section
variable {K : PySem.W.Frag} {O : OR} {F H F' H' : Hp} {fp fp' : Fp} {as r : Env} {vs : List V} {sg sg' : St} {m : Nat}
theorem ownB_get {as : Env} {i : Nat} (h : ownB as i = true) : ∃ a, as[i]? = some (some a) ∧ a.own = true := by
  unfold ownB at h
  split at h
  · rename_i a e
    exact ⟨a, e, h⟩
  · cases h
/-- the callee's entry -/
theorem R.enter (q : R K O F H as (vs.map some) fp) (m : Nat) : R K O F H (as ++ List.replicate m none) (vs.map some ++ List.replicate m none) fp where
  sub := q.sub
  len := by rw [List.length_append, List.length_append, q.len, List.length_replicate, List.length_replicate]
  rep := fun i a e => by
    by_cases hi : i < as.length
    · rw [List.getElem?_append_left hi] at e
      obtain ⟨v, h1, h2⟩ := q.rep i a e
      exact ⟨v, by rw [List.getElem?_append_left (by rw [← q.len]; exact hi)]; exact h1, h2⟩
    · rw [List.getElem?_append_right (by omega), List.getElem?_replicate] at e
      split at e
      · cases e
      · cases e
  own := fun i b z => by
    obtain ⟨a, h1, h2⟩ := q.own i b z
    have hi : i < as.length := (List.getElem?_eq_some_iff.mp h1).1
    exact ⟨a, by rw [List.getElem?_append_left hi]; exact h1, h2⟩
  fre := q.fre
  dis := q.dis
def fpB (as : Env) (fp' : Fp) : Fp := fun i b => i < as.length ∧ ownB as i = true ∧ fp' i b
theorem kept (q : R K O F H as (vs.map some) fp) {m : Nat} (hk : KP as.length (as ++ List.replicate m none) (vs.map some ++ List.replicate m none) sg') {i : Nat} (ho : ownB as i = true) : sg'[i]? = (vs.map some)[i]? ∧ i < as.length := by
  obtain ⟨a, h1, h2⟩ := ownB_get ho
  have hi : i < as.length := (List.getElem?_eq_some_iff.mp h1).1
  have := hk i hi (by
    unfold ownB at ho ⊢
    rw [List.getElem?_append_left hi]
    exact ho)
  rw [List.getElem?_append_left (by rw [← q.len]; exact hi)] at this
  exact ⟨this, hi⟩
theorem ow_len (hw : Ow as.length (as ++ List.replicate m none) r) {i : Nat} (ho : ownB as i = true) : i < r.length := by
  obtain ⟨a, h1, h2⟩ := ownB_get ho
  have hi : i < as.length := (List.getElem?_eq_some_iff.mp h1).1
  have := hw i hi (by
    unfold ownB at ho ⊢
    rw [List.getElem?_append_left hi]
    exact ho)
  obtain ⟨a', h3, _⟩ := ownB_get this
  exact (List.getElem?_eq_some_iff.mp h3).1
theorem R.leave (ok : ORok O) (q : R K O F H as (vs.map some) fp) {m : Nat} (st : Stp F H fp F' H' fp') (q' : R K O F' H' r sg' fp') (hk : KP as.length (as ++ List.replicate m none) (vs.map some ++ List.replicate m none) sg') (hw : Ow as.length (as ++ List.replicate m none) r) :
    R K O F' H' (backE as r) (vs.map some) (fpB as fp') ∧ Stp F H fp F' H' (fpB as fp') := by
  refine ⟨⟨q'.sub, by rw [backE_len]; exact q.len, fun i a e => ?_, fun i b z => ?_, fun i b z => q'.fre i b z.2.2, fun i j b z z' => q'.dis i j b z.2.2 z'.2.2⟩, st.grow, st.new, st.frame, fun i b z => st.fps i b z.2.2, st.stay⟩
  · have hi : i < as.length := by
      have := (List.getElem?_eq_some_iff.mp e).1
      rw [backE_len] at this
      exact this
    rw [backE_get (ow_len hw) hi] at e
    by_cases ho : ownB as i = true
    · rw [if_pos ho] at e
      obtain ⟨v, h1, h2⟩ := q'.rep i a e
      refine ⟨v, (kept q hk ho).1 ▸ h1, ?_⟩
      refine cast (congrArg (RepA K O F' H' v a) (funext fun b => propext ⟨fun z => ⟨hi, ho, z⟩, fun z => z.2.2⟩)) h2
    · rw [if_neg ho] at e
      obtain ⟨v, h1, h2⟩ := q.rep i a e
      refine ⟨v, h1, ?_⟩
      have hd : a.own = false := by
        unfold ownB at ho
        rw [e] at ho
        simpa using ho
      cases a with
      | d x => exact ⟨Rp.mono st.grow _ _ h2.1, fun b z => ho z.2.1⟩
      | l w xs => cases hd
      | m kvs => cases hd
      | ob n s => cases hd
  · obtain ⟨h1, h2, h3⟩ := z
    obtain ⟨a, h4, h5⟩ := q'.own i b h3
    exact ⟨a, by rw [backE_get (ow_len hw) h1, if_pos h2]; exact h4, h5⟩
/-- what a parameter owned it owns still -/
theorem still (q : R K O F H as (vs.map some) fp) {m : Nat} (q' : R K O F' H' r sg' fp') (hk : KP as.length (as ++ List.replicate m none) (vs.map some ++ List.replicate m none) sg') (hw : Ow as.length (as ++ List.replicate m none) r) (hn : as.all (fun o => !isOb o) = true) {j : Nat} {b : Addr} (hb : fp j b) : ownB as j = true ∧ (fp' j b ∨ ∃ n s, r[j]? = some (some (.ob n s))) := by
  obtain ⟨a, h1, h2⟩ := q.own j b hb
  have ho : ownB as j = true := by
    unfold ownB
    rw [h1]
    exact h2
  refine ⟨ho, ?_⟩
  obtain ⟨e1, hi⟩ := kept q hk ho
  obtain ⟨v, h3, h4⟩ := q.rep j a h1
  have ho' : ownB r j = true := hw j hi (by
    unfold ownB at ho ⊢
    rw [List.getElem?_append_left hi]
    exact ho)
  obtain ⟨a', h5, h6⟩ := ownB_get ho'
  obtain ⟨v', h7, h8⟩ := q'.rep j a' h5
  rw [e1, h3] at h7
  cases h7
  have nob : ∀ n s, a ≠ .ob n s := fun n s z => by
    have := List.all_eq_true.mp hn (some a) (List.mem_of_getElem? h1)
    rw [z] at this
    cases this
  obtain ⟨p, hp, rfl⟩ : ∃ p, (∀ b, fp j b ↔ b = p) ∧ v = .ref p := by
    cases a with
    | d x => cases h2
    | l w xs => obtain ⟨p, _, e, _, _, k⟩ := h4; exact ⟨p, k, e⟩
    | m kvs => obtain ⟨p, _, e, _, _, k⟩ := h4; exact ⟨p, k, e⟩
    | ob n s => exact (nob n s rfl).elim
  have eb := (hp b).mp hb
  subst eb
  cases a' with
  | d x => cases h6
  | l w xs =>
    obtain ⟨p', _, e, _, _, k⟩ := h8
    cases e
    exact .inl ((k _).mpr rfl)
  | m kvs =>
    obtain ⟨p', _, e, _, _, k⟩ := h8
    cases e
    exact .inl ((k _).mpr rfl)
  | ob n s => exact .inr ⟨n, s, h5⟩
theorem ret_ok (ok : ORok O) (q : R K O F H as (vs.map some) fp) {m : Nat} (st : Stp F H fp F' H' fp') (q' : R K O F' H' r sg' fp') (hk : KP as.length (as ++ List.replicate m none) (vs.map some ++ List.replicate m none) sg') (hw : Ow as.length (as ++ List.replicate m none) r) {u z : Rv} {e : Env} (hr : retOf as u r = .ok z e) {v : V} (hv : RepR K O H F' H' fp' sg' v u) :
    e = backE as r ∧ RepR K O H F' H' (fpB as fp') (vs.map some) v z := by
  unfold retOf at hr
  split at hr
  · cases hr
    exact ⟨rfl, hv⟩
  · cases hr
    obtain ⟨S, h1, h2, h3⟩ := hv
    exact ⟨rfl, S, h1, h2, fun b hb => ⟨(h3 b hb).1, (h3 b hb).2.1, fun i z => (h3 b hb).2.2 i z.2.2⟩⟩
  · rename_i i
    have hv : sg'[i]? = some (some v) := hv
    split at hr
    · rename_i ho
      cases hr
      exact ⟨rfl, by show (vs.map some)[i]? = _; rw [← (kept q hk ho).1]; exact hv⟩
    · rename_i ho
      have ho : ownB as i = false := by simpa using ho
      split at hr
      · rename_i x ex
        cases hr
        obtain ⟨w, h1, h2⟩ := q'.rep i _ ex
        rw [hv] at h1
        cases h1
        exact ⟨rfl, h2.1⟩
      · rename_i a hnd ea
        split at hr
        · rename_i hn
          cases hr
          obtain ⟨w, h1, h2⟩ := q'.rep i _ ea
          rw [hv] at h1
          cases h1
          have hown : a.own = true := by
            cases a with
            | d x => exact (hnd x rfl).elim
            | l w xs => rfl
            | m kvs => rfl
            | ob n s => rfl
          refine ⟨rfl, fp' i, h2, hown, fun b hb => ⟨q'.fre i b hb, ?_, fun j z => ?_⟩⟩
          · rcases st.fps i b hb with ⟨j, hj⟩ | hb0
            · obtain ⟨oj, h3⟩ := still q q' hk hw hn.1 hj
              rcases h3 with h3 | ⟨n, s, h3⟩
              · have := q'.dis i j b hb h3
                subst this
                rw [ho] at oj
                cases oj
              · have hi : j < as.length := by
                  obtain ⟨a, h1, _⟩ := ownB_get oj
                  exact (List.getElem?_eq_some_iff.mp h1).1
                have hg : (backE as r)[j]? = some (some (.ob n s)) := by rw [backE_get (ow_len hw) hi, if_pos oj]; exact h3
                have := List.all_eq_true.mp hn.2 _ (List.mem_of_getElem? hg)
                cases this
            · exact hb0
          · have := q'.dis i j b hb z.2.2
            subst this
            have z2 := z.2.1
            rw [ho] at z2
            cases z2
        · cases hr
      · cases hr
end
section
variable {P : Program} {w : World} {K : PySem.W.Frag} {mg : Str → Option Value} {base : Heap}
/-- what is known of the names that a def reads -/
structure Kn (P : Program) (w : World) (K : PySem.W.Frag) (mg : Str → Option Value) (base : Heap) (O : OR) (k : Nat) (nm : Nm) : Prop where
  fn : ∀ x g, nm.fns.lookup x = some g → ∃ fa fd ps, FnOk P w K mg base (L2.CX P w) k fa fd ps (spF K O g) ∧ mg x = some (.ref fa) ∧ PySem.W.keepIn K (.ref fa) = true ∧ Binds K fd ps [] ∧ ps.length = g.ar
  bl : ∀ x, nm.bl.contains x = true → mg x = none
  gl : ∀ x d, nm.gl.lookup x = some d → ∃ v u, mg x = some u ∧ RelV v u ∧ ∀ F, Rp K F d v
  kf : ∀ y f pat, nm.kfn.lookup y = some (f, pat) → ∃ fa fd ps g gV, FnOk P w K mg base (L2.CX P w) k fa fd ps (spF K O f) ∧ mg y.1 = some (.ref fa) ∧ PySem.W.keepIn K (.ref fa) = true ∧ KBn K fd ps y.2.1 y.2.2 g gV ∧ ∀ vs zs : List V, vs.length = y.2.1 → zs.length = y.2.2.length → ArrV K pat (vs ++ zs) (gV vs zs)
theorem st_ok {sc : Scope} {x : Str} (h : (stF sc).contains x = true) : Loc sc x := by
  rw [List.contains_iff_mem] at h
  unfold stF at h
  obtain ⟨p, hp, rfl⟩ := List.mem_map.mp h
  have hp := (List.mem_filter.mp hp).2
  rw [Bool.or_eq_true, decide_eq_true_eq, decide_eq_true_eq] at hp
  exact hp
theorem sem_len {c : Ctx} {n : Nat} {b : List Stmt} {as : Env} {m : Rs Rv} (h : semF c n b as = m) (hm : m ≠ .no) : as.length = c.ar := by
  unfold semF at h
  split at h
  · assumption
  · exact (hm h.symm).elim
theorem fn_sem {O : OR} (ok : ORok O) {x qual : Str} {st : Stmt} {f : Addr} {fd : FuncData} {N ps : List Str} {k : Nat} {io : List Bool} {nm : Nm} (F : Fun K x qual st f fd) (S : FnScope N ps (defScope st)) (kn : Kn P w K mg base O k nm) :
    FnOk P w K mg base (L2.CX P w) (k + 1) f fd ps (spF K O (fnF N st ps.length io nm)) := by
  have hN : ps.length ≤ N.length := by
    have := S.pre
    have h2 := congrArg List.length this
    rw [List.length_take] at h2
    omega
  refine F.okX S (fun vs H Q E h => ?_) (fun cdv A outer s H vs Q E hr h => ?_)
  · obtain ⟨F', fp, as, h1, _⟩ := h
    exact h1
  · obtain ⟨F0, fp, as, h1, q, h⟩ := h
    have h1 : vs.length = ps.length := h1
    have la : as.length = ps.length := by
      have := q.len
      rw [List.length_map] at this
      omega
    let c : Ctx := ctxF N st ps.length nm
    let X : Cx := cxOf (L2.CX P w) P w K mg base N qual (defScope st) f cdv A outer s H E
    let W : WX := fun cls d _ H => E cls d H
    have hr : Room k X.A := hr
    have xo : XOk K O c X W := {
      or := ok
      hK := rfl
      N := rfl
      sc := rfl
      nd := S.nd
      calm := rfl
      tk := takes_of rfl rfl rfl rfl
      po := passes_of rfl
      room := hr.mono (Nat.zero_le _)
      fn := fun x g e => by
        obtain ⟨fa, fd, ps, a1, a2, a3, a4, a5⟩ := kn.fn x g e
        exact ⟨fa, fd, ps, k, a1, hr, a2, a3, a4, a5⟩
      bl := kn.bl
      gl := kn.gl
      kf := fun y g pat e => by
        obtain ⟨fa, fd, ps, gg, gV, a1, a2, a3, a4, a5⟩ := kn.kf y g pat e
        exact ⟨fa, fd, ps, k, gg, gV, a1, hr, a2, a3, a4, a5⟩
      st := fun x hx => ⟨st_ok hx, .inl rfl⟩ }
    have g := cB_ok xo 60 (defBody st)
    let m := N.length - ps.length
    let r0 : Env := as ++ List.replicate m none
    have hps := g.ps r0
    have hko := g.ko r0
    have q0 : R K O F0 H r0 (start N vs) fp := by
      have := q.enter m
      show R K O F0 H r0 (vs.map some ++ List.replicate (N.length - vs.length) none) fp
      rw [h1]
      exact this
    have eS : start N vs = vs.map some ++ List.replicate m none := by
      show vs.map some ++ List.replicate (N.length - vs.length) none = _
      rw [h1]
    refine ⟨_, hps, ?_⟩
    refine ⟨F0, fp, q0, ?_⟩
    have hse : (fnF N st ps.length io nm).sem as = finE as (cB c 60 (defBody st) r0) := by
      show semF c 60 (defBody st) as = _
      unfold semF
      rw [if_pos (show as.length = c.ar from la)]
      rfl
    rw [hse] at h
    cases em : cB c 60 (defBody st) r0 with
    | no =>
      rw [em] at h
      exact h
    | ex y r =>
      rw [em] at h hko
      intro F' H' fp' sg' d st' q' hk hx
      rw [eS] at hk
      have hk : KP as.length r0 (vs.map some ++ List.replicate m none) sg' := by rw [la]; exact hk
      have hw : Ow as.length r0 r := by rw [la]; exact hko
      obtain ⟨q1, s1⟩ := q.leave ok st' q' hk hw
      exact h F' H' _ d s1 q1 hx
    | ok fl r =>
      rw [em] at h hko
      intro F' H' fp' sg' st' q' hk
      rw [eS] at hk
      have hk : KP as.length r0 (vs.map some ++ List.replicate m none) sg' := by rw [la]; exact hk
      have hw : Ow as.length r0 r := by rw [la]; exact hko
      obtain ⟨q1, s1⟩ := q.leave ok st' q' hk hw
      cases fl with
      | bk => exact h.elim
      | ct => exact h.elim
      | nx => exact h F' H' _ .non s1 q1 rfl
      | rt u =>
        intro v hv
        have h : match retOf as u r with
          | .ok r ar' => ∀ F' H' fp' v, Stp F0 H fp F' H' fp' → R K O F' H' ar' (vs.map some) fp' → RepR K O H F' H' fp' (vs.map some) v r → Q v H'
          | .ex x ar' => ∀ F' H' fp' d, Stp F0 H fp F' H' fp' → R K O F' H' ar' (vs.map some) fp' → RpX K F' H' d x.fs → E x.cls d H'
          | .no => False := h
        cases er : retOf as u r with
        | no => rw [er] at h; exact h.elim
        | ex y e =>
          unfold retOf at er
          split at er
          · cases er
          · cases er
          · split at er
            · cases er
            · split at er
              · cases er
              · split at er
                · cases er
                · cases er
              · cases er
        | ok z e =>
          rw [er] at h
          obtain ⟨rfl, h2⟩ := ret_ok ok q st' q' hk hw er hv
          exact h F' H' _ v s1 q1 h2
end
end Sn
namespace Sn
open PySem L2
def AllF (P : Str → Fn → Prop) : List (Str × Fn) → Prop
  | [] => True
  | (x, f) :: r => P x f ∧ AllF P r
theorem lk_all {P : Str → Fn → Prop} : ∀ {fns : List (Str × Fn)}, AllF P fns → ∀ x g, fns.lookup x = some g → P x g
  | [], _, x, g, e => by cases e
  | (y, f) :: r, h, x, g, e => by
    rw [List.lookup_cons] at e
    split at e
    · rename_i hb
      cases e
      have : x = y := eq_of_beq hb
      subst this
      exact h.1
    · exact lk_all h.2 x g e
def AllG (P : Str → D → Prop) : List (Str × D) → Prop
  | [] => True
  | (x, f) :: r => P x f ∧ AllG P r
theorem gl_all {P : Str → D → Prop} : ∀ {fns : List (Str × D)}, AllG P fns → ∀ x g, fns.lookup x = some g → P x g
  | [], _, x, g, e => by cases e
  | (y, f) :: r, h, x, g, e => by
    rw [List.lookup_cons] at e
    split at e
    · rename_i hb
      cases e
      have : x = y := eq_of_beq hb
      subst this
      exact h.1
    · exact gl_all h.2 x g e
def AllB (P : Str → Prop) : List Str → Prop
  | [] => True
  | x :: r => P x ∧ AllB P r
theorem bl_all (P : Str → Prop) : ∀ {bl : List Str}, AllB P bl → ∀ x, bl.contains x = true → P x
  | [], _, x, e => by cases e
  | y :: r, h, x, e => by
    rw [List.contains_cons, Bool.or_eq_true] at e
    rcases e with e | e
    · have : x = y := eq_of_beq e
      subst this
      exact h.1
    · exact bl_all P h.2 x e
section
variable {P : Program} {w : World} {K : PySem.W.Frag} {mg : Str → Option Value} {base : Heap} {O : OR} {k : Nat}
def FnKn (P : Program) (w : World) (K : PySem.W.Frag) (mg : Str → Option Value) (base : Heap) (O : OR) (k : Nat) (x : Str) (g : Fn) : Prop := ∃ fa fd ps, FnOk P w K mg base (L2.CX P w) k fa fd ps (spF K O g) ∧ mg x = some (.ref fa) ∧ PySem.W.keepIn K (.ref fa) = true ∧ Binds K fd ps [] ∧ ps.length = g.ar
theorem fk {j : Nat} {x : Str} {g : Fn} {fa : Addr} {fd : FuncData} {ps : List Str} (a1 : FnOk P w K mg base (L2.CX P w) j fa fd ps (spF K O g)) (hj : j ≤ k) (a2 : mg x = some (.ref fa)) (a3 : PySem.W.keepIn K (.ref fa) = true) (a4 : Binds K fd ps []) (a5 : ps.length = g.ar) : FnKn P w K mg base O k x g := ⟨fa, fd, ps, a1.mono hj, a2, a3, a4, a5⟩
def GlKn (K : PySem.W.Frag) (mg : Str → Option Value) (x : Str) (d : D) : Prop := ∃ v u, mg x = some u ∧ RelV v u ∧ ∀ F, Rp K F d v
theorem gk {x : Str} {d : D} (v : V) {u : Value} (a1 : mg x = some u) (a2 : RelV v u) (a3 : ∀ F, Rp K F d v) : GlKn K mg x d := ⟨v, u, a1, a2, a3⟩
def KfKn (P : Program) (w : World) (K : PySem.W.Frag) (mg : Str → Option Value) (base : Heap) (O : OR) (k : Nat) (y : Str × Nat × List Str) (f : Fn) (pat : List (Nat ⊕ D)) : Prop := ∃ fa fd ps g gV, FnOk P w K mg base (L2.CX P w) k fa fd ps (spF K O f) ∧ mg y.1 = some (.ref fa) ∧ PySem.W.keepIn K (.ref fa) = true ∧ KBn K fd ps y.2.1 y.2.2 g gV ∧ ∀ vs zs : List V, vs.length = y.2.1 → zs.length = y.2.2.length → ArrV K pat (vs ++ zs) (gV vs zs)
def AllK (P : Str × Nat × List Str → Fn → List (Nat ⊕ D) → Prop) : List ((Str × Nat × List Str) × Fn × List (Nat ⊕ D)) → Prop
  | [] => True
  | (y, f, pat) :: r => P y f pat ∧ AllK P r
theorem kf_all {P : Str × Nat × List Str → Fn → List (Nat ⊕ D) → Prop} : ∀ {l : List ((Str × Nat × List Str) × Fn × List (Nat ⊕ D))}, AllK P l → ∀ y f pat, l.lookup y = some (f, pat) → P y f pat
  | [], _, y, f, pat, e => by cases e
  | (z, g, p) :: r, h, y, f, pat, e => by
    rw [List.lookup_cons] at e
    split at e
    · rename_i hb
      cases e
      have : y = z := eq_of_beq hb
      subst this
      exact h.1
    · exact kf_all h.2 y f pat e
theorem kk {j : Nat} {x : Str} {n : Nat} {ks : List Str} {f : Fn} {pat : List (Nat ⊕ D)} {fa : Addr} {fd : FuncData} {ps : List Str} {g : List Value → List Value → List Value} {gV : List V → List V → List V} (a1 : FnOk P w K mg base (L2.CX P w) j fa fd ps (spF K O f)) (hj : j ≤ k) (a2 : mg x = some (.ref fa)) (a3 : PySem.W.keepIn K (.ref fa) = true)
    (a4 : KBn K fd ps n ks g gV) (a5 : ∀ vs zs : List V, vs.length = n → zs.length = ks.length → ArrV K pat (vs ++ zs) (gV vs zs)) : KfKn P w K mg base O k (x, n, ks) f pat := ⟨fa, fd, ps, g, gV, a1.mono hj, a2, a3, a4, a5⟩
theorem kn_mk {nm : Nm} (h1 : AllF (FnKn P w K mg base O k) nm.fns) (h2 : AllB (fun y => mg y = none) nm.bl) (h3 : AllG (GlKn K mg) nm.gl) (h4 : AllK (KfKn P w K mg base O k) nm.kfn) : Kn P w K mg base O k nm := ⟨lk_all h1, bl_all _ h2, gl_all h3, kf_all h4⟩
/-! ### keywords: how they bind -/
def pick {α : Type} (pat : List Nat) (l : List α) : List α := pat.filterMap fun i => l[i]?
theorem vals_get : ∀ {vs : List V} {us : List Value} (i : Nat), Vals vs us → (vs[i]? = none ∧ us[i]? = none) ∨ ∃ v u, vs[i]? = some v ∧ us[i]? = some u ∧ RelV v u
  | _, _, i, .nil => .inl ⟨rfl, rfl⟩
  | _, _, 0, .cons r t => .inr ⟨_, _, rfl, rfl, r⟩
  | _, _, i + 1, .cons r t => vals_get i t
theorem vals_pick {vs : List V} {us : List Value} (r : Vals vs us) : ∀ pat : List Nat, Vals (pick pat vs) (pick pat us)
  | [] => .nil
  | i :: pat => by
    have ih := vals_pick r pat
    unfold pick at ih ⊢
    rw [List.filterMap_cons, List.filterMap_cons]
    rcases vals_get i r with ⟨h1, h2⟩ | ⟨v, u, h1, h2, h3⟩
    · rw [h1, h2]; exact ih
    · rw [h1, h2]; exact .cons h3 ih
theorem fun_kb {x qual : Str} {st : Stmt} {f : Addr} {fd : FuncData} {ps : List Str} (F : Fun K x qual st f fd) (n : Nat) (ks : List Str) (pat : List Nat)
    (h : ∀ (kV doc pm : Value) (an : Option Addr) (cdv ct : Value) (us ws : List Value), us.length = n → ws.length = ks.length → bindArgs (PySem.W.fnOf x qual (defArgs st) (defBody st) (defScope st) .none kV doc pm an cdv ct) ⟨us, ks.zip ws⟩ = pure (ps.zip (pick pat (us ++ ws)))) :
    KBn K fd ps n ks (fun us ws => pick pat (us ++ ws)) (fun vs zs => pick pat (vs ++ zs)) := by
  obtain ⟨oc, od, kV, doc, pm, an, cdv, ct, osl, rfl, lk, hcd⟩ := F.ex
  exact ⟨fun s us ws _ h1 h2 => .of_eq (h kV doc pm an cdv ct us ws h1 h2), fun r1 r2 => vals_pick (r1.append r2) pat⟩
theorem arr_pick {K : PySem.W.Frag} {l : List V} : ∀ {pat : List Nat}, (∀ i ∈ pat, i < l.length) → ArrV K (pat.map .inl) l (pick pat l)
  | [], _ => rfl
  | i :: pat, h => by
    have hi := h i List.mem_cons_self
    have ih := arr_pick (K := K) (l := l) (pat := pat) fun j hj => h j (List.mem_cons_of_mem _ hj)
    have e : pick (i :: pat) l = l[i] :: pick pat l := by
      unfold pick
      rw [List.filterMap_cons, List.getElem?_eq_getElem hi]
    rw [e]
    exact ⟨l[i], pick pat l, rfl, List.getElem?_eq_getElem hi, ih⟩
theorem arr_pick2 {K : PySem.W.Frag} {n m : Nat} {pat : List Nat} (h : (pat.all fun i => decide (i < n + m)) = true) (vs zs : List V) (h1 : vs.length = n) (h2 : zs.length = m) : ArrV K (pat.map .inl) (vs ++ zs) (pick pat (vs ++ zs)) := arr_pick fun i hi => by
  rw [List.length_append, h1, h2]
  exact of_decide_eq_true (List.all_eq_true.mp h i hi)
end
theorem rpa_ints {K : PySem.W.Frag} {F : Hp} : ∀ ns : List Int, RpA K F (ns.map D.int) (ns.map V.int)
  | [] => rfl
  | n :: ns => ⟨_, _, rfl, rfl, rpa_ints ns⟩
theorem law_sp {K : PySem.W.Frag} {O : OR} {f : Fn} {H : Hp} {a : Addr} {ns : List Int} (hS : SqL K H a (ns.map V.int)) (har : f.ar = 1) (h : ∃ r, f.sem [some (.d (.rl (ns.map D.int)))] = .ok (.d (.bl true)) r) : spF K O f [.ref a] H (fun v _ => v = .bl true) (fun _ _ _ => False) := by
  obtain ⟨r, h⟩ := h
  refine ⟨H, fun _ _ => False, [some (.d (.rl (ns.map D.int)))], har.symm, ⟨fun _ _ e => e, rfl, fun i b e => ?_, fun _ _ z => z.elim, fun _ _ z => z.elim, fun _ _ _ z => z.elim⟩, ?_⟩
  · cases i with
    | zero =>
      cases e
      exact ⟨.ref a, rfl, ⟨a, ns.map V.int, rfl, hS, rpa_ints ns⟩, fun _ z => z⟩
    | succ i => cases e
  · rw [h]
    intro F' H' fp' v s q p
    exact p
theorem cx_none {P : Program} {w : World} {H : Hp} {s : Shared} {e : Value} {s' : Shared} (h : L2.CX P w [] H s (fun _ _ _ => False) e s') : False := by
  obtain ⟨_, _, _, _, _, _, _, _, _, _, _, _, z⟩ := h
  exact z
/-! ### plain readings -/
def Rs.sat {α : Type} (m : Rs α) (Q : α → Env → Prop) : Prop := match m with
  | .ok a r => Q a r
  | _ => False
theorem sat_bind {α β : Type} {m : Rs α} {f : α → Env → Rs β} {Q : β → Env → Prop} (h : m.sat fun a r => (f a r).sat Q) : (m.bind f).sat Q := by
  cases m with
  | ok a r => exact h
  | ex x r => exact h.elim
  | no => exact h.elim
theorem sat_mono {α : Type} {m : Rs α} {Q Q' : α → Env → Prop} (h : m.sat Q) (k : ∀ a r, Q a r → Q' a r) : m.sat Q' := by
  cases m with
  | ok a r => exact k _ _ h
  | ex x r => exact h.elim
  | no => exact h.elim
theorem sat_ex {α : Type} {m : Rs α} {Q : α → Env → Prop} (h : m.sat Q) : ∃ a r, m = .ok a r ∧ Q a r := by
  cases m with
  | ok a r => exact ⟨a, r, rfl, h⟩
  | ex x r => exact h.elim
  | no => exact h.elim
theorem sat_eq {α : Type} {m : Rs α} {a : α} {r : Env} {Q : α → Env → Prop} (e : m = .ok a r) (h : Q a r) : m.sat Q := by rw [e]; exact h
/-- a loop by an invariant over what is still to come -/
theorem forD_sat {g : XG} {b : X2} {Q : Fl → Env → Prop} (I : List D → Env → Prop) (hs : ∀ d ds r, I (d :: ds) r → ∃ r1, g d r = some r1 ∧ (b r1).sat fun fl r2 => match fl with
      | .nx => I ds r2
      | .ct => I ds r2
      | .bk => Q .nx r2
      | .rt u => Q (.rt u) r2) (he : ∀ r, I [] r → Q .nx r) : ∀ (ds : List D) (r : Env), I ds r → (forD g b ds r).sat Q
  | [], r, h => he r h
  | d :: ds, r, h => by
    obtain ⟨r1, e, k⟩ := hs d ds r h
    unfold forD
    rw [e]
    refine sat_bind (sat_mono k fun fl r2 k2 => ?_)
    cases fl with
    | nx => exact forD_sat I hs he ds r2 k2
    | ct => exact forD_sat I hs he ds r2 k2
    | bk => exact k2
    | rt u => exact k2
/-- a comprehension by an invariant -/
theorem compD_sat {vs : List Nat} {g : XG} {t : XT} {x : X1} {Q : List D → Env → Prop} (I : List D → List D → Env → Prop)
    (hs : ∀ d ds acc r, I (d :: ds) acc r → ∃ r1, g d r = some r1 ∧ (t r1).sat fun b r2 => if b = true then (x r2).sat fun u r3 => ∃ y, u = .d y ∧ acc.length < 100000 ∧ I ds (acc ++ [y]) (wipeE r3 vs) else I ds acc (wipeE r2 vs))
    (he : ∀ acc r, I [] acc r → Q acc r) : ∀ (ds : List D) (acc : List D) (r : Env), I ds acc r → (compD vs g t x ds r acc).sat Q
  | [], acc, r, h => he acc r h
  | d :: ds, acc, r, h => by
    obtain ⟨r1, e, k⟩ := hs d ds acc r h
    unfold compD
    rw [e]
    refine sat_bind (sat_mono k fun b r2 k2 => ?_)
    by_cases hb : b = true
    · rw [if_pos hb] at k2 ⊢
      refine sat_bind (sat_mono k2 fun u r3 k3 => ?_)
      obtain ⟨y, rfl, hl, k4⟩ := k3
      simp only [if_pos hl]
      exact compD_sat I hs he ds _ _ k4
    · rw [if_neg hb] at k2 ⊢
      exact compD_sat I hs he ds _ _ k2
theorem xLc_sat {vs : List Nat} {it : XI} {g : XG} {t : XT} {x : X1} {r : Env} {Q : Rv → Env → Prop} (h : (it r).sat fun ds r1 => vs.all (fun i => !ownB r1 i) = true ∧ (compD vs g t x ds (wipeE r1 vs) []).sat fun ys r2 => Q (.n (.l true ys)) (restE r1 vs r2)) : (xLc vs it g t x r).sat Q := by
  unfold xLc
  refine sat_bind (sat_mono h fun ds r1 k => ?_)
  rw [if_pos k.1]
  obtain ⟨ys, r2, e, q⟩ := sat_ex k.2
  rw [e]
  exact q
theorem rp_rt {K : PySem.W.Frag} {t : Addr} {dt : Option Addr} {its : Array Value} {n : Nat} {sl : Array (Option Value)} {xs : List V} {ds : List D} (hl : K.lookup t = some ⟨.type "tuple", dt, .seq its n, sl⟩) (hz : its.size ≤ sizeLine) (hv : Vals xs its.toList) (hx : ∀ F, RpA K F ds xs) : ∀ F, Rp K F (.rt ds) (.ref t) :=
  fun F => ⟨t, xs, rfl, .inr ⟨_, its, n, hl, rfl, rfl, hz, hv⟩, hx F⟩
end Sn
namespace Sn
open PySem L2
theorem seq_nx {a b : X2} {r r1 : Env} (h : a r = .ok .nx r1) : sSeq a b r = b r1 := by
  unfold sSeq
  rw [h]
  rfl
theorem seq_rt {a b : X2} {r r1 : Env} {u : Rv} (h : a r = .ok (.rt u) r1) : sSeq a b r = .ok (.rt u) r1 := by
  unfold sSeq
  rw [h]
  rfl
/-! ### the pool of draws -/
theorem log2_small {m : Int} (h0 : 0 < m) (h : m ≤ 1000000) : m.natAbs.log2 < 9000 := by
  have h1 : m.natAbs < 2 ^ 20 := by omega
  have hne : m.natAbs ≠ 0 := by omega
  have := (Nat.log2_lt hne).mpr h1
  omega
/-! ### texts -/
def Asc (z : Str) : Prop := ∀ c ∈ z.cps.toList, c < 128
theorem str_ext {x y : Str} (h : x.cps.toList = y.cps.toList) : x = y := by
  cases x; cases y
  congr 1
  exact Array.toList_inj.mp h
theorem len_toList (z : Str) : z.length = z.cps.toList.length := rfl
theorem app_toList (x y : Str) : (x ++ y).cps.toList = x.cps.toList ++ y.cps.toList := by
  show (x.cps ++ y.cps).toList = _
  exact Array.toList_append
theorem app_len (x y : Str) : (x ++ y).length = x.length + y.length := by
  rw [len_toList, app_toList, List.length_append]
  rfl
theorem Asc.app {x y : Str} (hx : Asc x) (hy : Asc y) : Asc (x ++ y) := fun c hc => by
  rw [app_toList, List.mem_append] at hc
  rcases hc with h | h
  · exact hx c h
  · exact hy c h
theorem atI_ok {α : Type} {xs : List α} {i : Int} (h0 : 0 ≤ i) (h : i < xs.length) : ∃ c, atI xs i = some c ∧ c ∈ xs := by
  have hn : i.toNat < xs.length := by omega
  refine ⟨xs[i.toNat], ?_, List.getElem_mem hn⟩
  unfold atI ixN
  simp [h0, h, hn]
theorem rg1_ok {ar : Nat} {e : X1} {r r1 : Env} {n : Int} (h : xFz ar e r = .ok (.d (.int n)) r1) (h0 : 0 ≤ n) (h1 : n ≤ 1000000) : xRg1 (xaCons (xFz ar e) xaNil) r = .ok ((List.range n.toNat).map fun (i : Nat) => .int (0 + i)) r1 := by
  unfold xRg1 xaCons xaNil
  rw [h, bind_ok, bind_ok, bind_ok]
  simp only []
  rw [if_pos ⟨by omega, by omega⟩]
end Sn
namespace Sn
open PySem L2
/-! ### the pool of draws, as a function -/
structure Pool where
  a : Int
  b : Int
  ha : 0 ≤ a
  hb : 0 ≤ b
  hb' : b < 2147483647
abbrev Pool.l (p : Pool) : Option A := some (.l true [.int p.a, .int p.b])
def Pool.v (p : Pool) (m : Int) : Int := if 0 < p.a then p.a % m else (p.b * 69621 + 7) % 2147483647 * ((p.b * 69621 + 7) % 2147483647) % 2147483629 / 32 % m
def Pool.n (p : Pool) (m : Int) : Pool := if h : 0 < p.a ∧ 0 < m then ⟨p.a / m, p.b, Int.ediv_nonneg p.ha (by omega), p.hb, p.hb'⟩ else ⟨p.a, (p.b * 69621 + 7) % 2147483647, p.ha, Int.emod_nonneg _ (by decide), Int.emod_lt_of_pos _ (by decide)⟩
theorem Pool.v0 (p : Pool) {m : Int} (h : 0 < m) : 0 ≤ p.v m := by
  unfold Pool.v
  split <;> exact Int.emod_nonneg _ (by omega)
theorem Pool.v1 (p : Pool) {m : Int} (h : 0 < m) : p.v m < m := by
  unfold Pool.v
  split <;> exact Int.emod_lt_of_pos _ h
/-- what a draw is -/
def DrawF (f : Fn) : Prop := f.ar = 2 ∧ ∀ (p : Pool) (m : Int), 0 < m → m ≤ 1000000 → f.sem [p.l, some (.d (.int m))] = .ok (.d (.int (p.v m))) [(p.n m).l, some (.d (.int m))]
theorem xvar_l {r : Env} {i : Nat} {w : Bool} {xs : List D} (h : r[i]? = some (some (.l w xs))) : xVar i r = .ok (.v i) r := by
  unfold xVar
  rw [h]
theorem cf_dr {f : Fn} (hf : DrawF f) {ar i : Nat} {e : X1} {r r1 : Env} {m : Int} {w : Bool} {xs : List D} {p : Pool} (hp : r[i]? = some (some (.l w xs))) (he : xFz ar e r = .ok (.d (.int m)) r1) (hp1 : r1[i]? = some p.l) (h0 : 0 < m) (h : m ≤ 1000000) :
    xCF f (xaCons (xAr ar (xVar i)) (xaCons (xFz ar e) xaNil)) r = .ok (.d (.int (p.v m))) (r1.set i (p.n m).l) := by
  obtain ⟨har, hf⟩ := hf
  have h4 := hf p m h0 h
  unfold xCF
  simp only [xaCons, xAr, xvar_l hp, Rs.bind, he, xaNil, callX, spill, callT, har]
  have nd : (slotsOf [Rv.v i, Rv.d (D.int m)]).Nodup := by simp [slotsOf]
  rw [if_pos ⟨rfl, nd⟩]
  simp only [argsOf, hp1, A.own]
  simp [h4, isV, backOf, A.own]
/-- a def that takes the pool and one thing more -/
theorem cf_pl {f : Fn} (har : f.ar = 2) {ar i : Nat} {e : X1} {r r1 : Env} {x : D} {u : Rv} {w : Bool} {xs : List D} {p p2 : Pool} (hf : f.sem [p.l, some (.d x)] = .ok u [p2.l, some (.d x)]) (hu : isV u = false) (hp : r[i]? = some (some (.l w xs))) (he : xFz ar e r = .ok (.d x) r1) (hp1 : r1[i]? = some p.l) :
    xCF f (xaCons (xAr ar (xVar i)) (xaCons (xFz ar e) xaNil)) r = .ok u (r1.set i p2.l) := by
  unfold xCF
  simp only [xaCons, xAr, xvar_l hp, Rs.bind, he, xaNil, callX, spill, callT, har]
  have nd : (slotsOf [Rv.v i, Rv.d x]).Nodup := by simp [slotsOf]
  rw [if_pos ⟨rfl, nd⟩]
  simp only [argsOf, hp1, A.own]
  simp [hf, hu, backOf, A.own]
/-! ### signs, letters -/
abbrev ch (c : Nat) : Str := ⟨#[c]⟩
theorem repl_one (c : Nat) : ∀ l : List Nat, PySem.StrLaws.replL [c] [] l = l.filter fun x => decide (x ≠ c)
  | [] => PySem.StrLaws.replL_nil
  | x :: l => by
    have ih := repl_one c l
    unfold PySem.StrLaws.replL at ih ⊢
    rw [PySem.StrLaws.replS]
    by_cases h : x = c
    · subst h
      rw [if_pos (by simp), List.filter_cons_of_neg (by simp)]
      simp only [List.nil_append, List.length_cons, List.length_nil]
      exact ih
    · rw [if_neg (by simp [h]), List.filter_cons_of_pos (by simp [h]), ih]
theorem replace_ch (z : Str) (c : Nat) : (Txt.replace z (ch c) (Str.ofString "")).cps.toList = z.cps.toList.filter fun x => decide (x ≠ c) := by
  rw [PySem.StrLaws.replace_list (show 1 ≤ (ch c).length from Nat.le_refl 1)]
  have e : (Str.ofString "").cps.toList = [] := by decide +kernel
  rw [e]
  exact repl_one c _
abbrev abcS : Str := "abcdefghijklmnopqrstuvwxyz"
def abcL : List Nat := [97, 98, 99, 100, 101, 102, 103, 104, 105, 106, 107, 108, 109, 110, 111, 112, 113, 114, 115, 116, 117, 118, 119, 120, 121, 122]
theorem abc_eq : abcS.cps.toList = abcL := by decide +kernel
theorem filter_len {α : Type} (f : α → Bool) : ∀ l : List α, (l.filter f).length + (l.filter fun x => !f x).length = l.length
  | [] => rfl
  | x :: l => by
    have ih := filter_len f l
    cases h : f x with
    | true => rw [List.filter_cons_of_pos h, List.filter_cons_of_neg (by simp [h])]; simp; omega
    | false => rw [List.filter_cons_of_neg (by simp [h]), List.filter_cons_of_pos (by simp [h])]; simp; omega
theorem filt1 {α β : Type} (f : α → Bool) (g : α → β) (y : α) : (List.filter f [y]).map g = if f y = true then [g y] else [] := by
  by_cases h : f y = true
  · rw [List.filter_cons_of_pos h, if_pos h]; rfl
  · rw [List.filter_cons_of_neg h, if_neg h]; rfl
theorem nodup_len {α : Type} [DecidableEq α] : ∀ (l m : List α), l.Nodup → (∀ x ∈ l, x ∈ m) → l.length ≤ m.length
  | [], m, _, _ => Nat.zero_le _
  | x :: l, m, hn, hs => by
    have hx := hs x List.mem_cons_self
    obtain ⟨h1, h2⟩ := List.nodup_cons.mp hn
    have ih := nodup_len l (m.erase x) h2 fun y hy => by
      have hne : y ≠ x := fun e => h1 (e ▸ hy)
      exact (List.mem_erase_of_ne hne).mpr (hs y (List.mem_cons_of_mem _ hy))
    have hl := List.length_erase_of_mem hx
    have hp : 0 < m.length := List.length_pos_of_mem hx
    rw [List.length_cons]
    omega
theorem minus_len (A B : List Nat) (hA : A.Nodup) (hB : B.Nodup) (hs : ∀ c ∈ B, c ∈ A) : (A.filter fun c => decide (c ∉ B)).length + B.length = A.length := by
  have h1 : (A.filter fun c => decide (c ∈ B)).length = B.length := by
    apply List.Perm.length_eq
    refine (List.perm_ext_iff_of_nodup (hA.filter _) hB).mpr fun c => ?_
    simp only [List.mem_filter, decide_eq_true_eq]
    exact ⟨fun h => h.2, fun h => ⟨hs c h, h⟩⟩
  have h2 := filter_len (fun c => decide (c ∈ B)) A
  have h3 : (A.filter fun c => !decide (c ∈ B)) = A.filter fun c => decide (c ∉ B) := by
    congr 1; funext c; simp
  rw [h3] at h2
  omega
theorem atI_nat {α : Type} {xs : List α} {i : Nat} (h : i < xs.length) : atI xs (i : Int) = some xs[i] := by
  unfold atI ixN
  have h1 : (0 : Int) ≤ (i : Int) := by omega
  have h2 : (i : Int) < (xs.length : Int) := by omega
  simp [h1, h2, h]
theorem atoms_str : ∀ fs : List Str, atoms (fs.map D.str) = some (fs.map V.str)
  | [] => rfl
  | f :: fs => by
    rw [List.map_cons, List.map_cons]
    unfold atoms
    rw [atoms_str fs]
    rfl
theorem inV_str (x : Str) (fs : List Str) : inV (.str x) (fs.map V.str) = decide (x ∈ fs) := by
  unfold inV
  rw [Bool.eq_iff_iff]
  simp [eqV]
theorem in_strs (x : Str) (w : Bool) (fs : List Str) : inA (.d (.str x)) (.l w (fs.map D.str)) = some (decide (x ∈ fs)) := by
  unfold inA
  simp only [A.dc?, A.sq?, D.atom, atoms_str, inV_str]
theorem in_strsD (x : Str) (fs : List Str) : inA (.d (.str x)) (.d (.lst (fs.map D.str))) = some (decide (x ∈ fs)) := by
  unfold inA
  simp only [A.dc?, A.sq?, D.atom, atoms_str, inV_str]
theorem strs_map : ∀ fs : List Str, strsD (fs.map D.str) = some fs
  | [] => rfl
  | f :: fs => by
    rw [List.map_cons]
    unfold strsD
    rw [strs_map fs]
theorem join_nil (fs : List Str) : (Txt.join (Str.ofString "") fs).cps.toList = (fs.map fun z => z.cps.toList).flatten := by
  have h := TL.tl_join (Str.ofString "") fs
  have e : (Str.ofString "").cps.toList = [] := by decide +kernel
  unfold TL.tl at h
  rw [TL.join_eq, h, e]
  clear h
  induction fs with
  | nil => rfl
  | cons f fs ih =>
    cases fs with
    | nil => simp [TL.joinL]
    | cons g gs =>
      rw [List.map_cons, List.map_cons, List.flatten_cons]
      unfold TL.joinL
      rw [List.nil_append]
      congr 1
theorem rg1_nat {ar : Nat} {e : X1} {r r1 : Env} {n : Nat} (h : xFz ar e r = .ok (.d (.int n)) r1) (h1 : n ≤ 1000000) : xRg1 (xaCons (xFz ar e) xaNil) r = .ok ((List.range n).map fun (i : Nat) => .int (i : Int)) r1 := by
  have k := rg1_ok h (by omega) (by omega)
  rw [Int.toNat_natCast] at k
  rw [k]
  congr 2
  funext i
  rw [Int.zero_add]
theorem fz_d {ar : Nat} {e : X1} {r r1 : Env} {d : D} (h : e r = .ok (.d d) r1) : xFz ar e r = .ok (.d d) r1 := by
  unfold xFz
  rw [h]
  rfl
theorem ok_sat {α : Type} {m : Rs α} {a : α} {r : Env} (e : m = .ok a r) {Q : α → Env → Prop} (h : Q a r) : m.sat Q := by rw [e]; exact h
theorem sat_nx {a b : X2} {r : Env} {Q : Fl → Env → Prop} {r1 : Env} (h : a r = .ok .nx r1) (k : (b r1).sat Q) : (sSeq a b r).sat Q := by rw [seq_nx h]; exact k
theorem sat_seq {a b : X2} {r : Env} {Q : Fl → Env → Prop} (h : (a r).sat fun fl r1 => match fl with
    | .nx => (b r1).sat Q
    | fl => Q fl r1) : (sSeq a b r).sat Q := by
  unfold sSeq
  refine sat_bind (sat_mono h fun fl r1 k => ?_)
  cases fl with
  | nx => exact k
  | bk => exact k
  | ct => exact k
  | rt u => exact k
theorem sFor_sat {it : XI} {g : XG} {b : X2} {r r1 : Env} {ds : List D} {Q : Fl → Env → Prop} (h : it r = .ok ds r1) (k : (forD g b ds r1).sat Q) : (sFor it g b r).sat Q := by
  unfold sFor
  rw [h]
  exact k
/-- a loop that goes on to its end, by an invariant over what is done and what is to come -/
theorem for_inv {α : Type} {el : α → D} {it : XI} {g : XG} {b : X2} {r r1 : Env} {xs : List α} (h : it r = .ok (xs.map el) r1) (I : List α → Env → Prop) (h0 : I [] r1)
    (hs : ∀ done x rest r, xs = done ++ x :: rest → I done r → ∃ r2, g (el x) r = some r2 ∧ (b r2).sat fun fl r3 => fl = .nx ∧ I (done ++ [x]) r3) : ∃ r2, sFor it g b r = .ok .nx r2 ∧ I xs r2 := by
  have key : ∀ (rest done : List α) (r : Env), xs = done ++ rest → I done r → (forD g b (rest.map el) r).sat fun fl r2 => fl = .nx ∧ I xs r2 := by
    intro rest
    induction rest with
    | nil => intro done r e hi; exact ⟨rfl, by rw [e, List.append_nil]; exact hi⟩
    | cons x rest ih =>
      intro done r e hi
      obtain ⟨r2, eg, hb⟩ := hs done x rest r e hi
      rw [List.map_cons]
      unfold forD
      rw [eg]
      refine sat_bind (sat_mono hb fun fl r3 k => ?_)
      obtain ⟨rfl, hi2⟩ := k
      exact ih (done ++ [x]) r3 (by rw [e, List.append_assoc]; rfl) hi2
  obtain ⟨fl, r2, e2, rfl, hi⟩ := sat_ex (key xs [] r1 rfl h0)
  refine ⟨r2, ?_, hi⟩
  unfold sFor
  rw [h]
  exact e2
/-- a comprehension that goes on to its end: the i-th value is what comes of the i-th item -/
theorem lc_inv {α : Type} {el : α → D} {vs : List Nat} {it : XI} {g : XG} {t : XT} {x : X1} {r r1 : Env} {xs : List α} (h : it r = .ok (xs.map el) r1) (hv : vs.all (fun i => !ownB r1 i) = true) (hl : xs.length ≤ 100000) (I : List α → List D → Env → Prop) (h0 : I [] [] (wipeE r1 vs))
    (hs : ∀ done y rest acc r, xs = done ++ y :: rest → I done acc r → ∃ r2, g (el y) r = some r2 ∧ (t r2).sat fun b r3 => if b = true then (x r3).sat fun u r4 => ∃ d, u = .d d ∧ I (done ++ [y]) (acc ++ [d]) (wipeE r4 vs) else I (done ++ [y]) acc (wipeE r3 vs)) : ∃ ys r2, xLc vs it g t x r = .ok (.n (.l true ys)) (restE r1 vs r2) ∧ I xs ys r2 := by
  have key : ∀ (rest done : List α) (acc : List D) (r : Env), xs = done ++ rest → acc.length ≤ done.length → I done acc r → (compD vs g t x (rest.map el) r acc).sat fun ys r2 => I xs ys r2 := by
    intro rest
    induction rest with
    | nil => intro done acc r e _ hi; exact (by rw [e, List.append_nil]; exact hi)
    | cons y rest ih =>
      intro done acc r e ha hi
      obtain ⟨r2, eg, hb⟩ := hs done y rest acc r e hi
      have hle : acc.length < 100000 := by
        have : xs.length = done.length + (rest.length + 1) := by rw [e]; simp
        omega
      rw [List.map_cons]
      unfold compD
      rw [eg]
      refine sat_bind (sat_mono hb fun b r3 k => ?_)
      by_cases hb : b = true
      · rw [if_pos hb] at k ⊢
        refine sat_bind (sat_mono k fun u r4 k2 => ?_)
        obtain ⟨d, rfl, hi2⟩ := k2
        simp only [if_pos hle]
        exact ih (done ++ [y]) _ _ (by rw [e, List.append_assoc]; rfl) (by simp; omega) hi2
      · rw [if_neg hb] at k ⊢
        exact ih (done ++ [y]) _ _ (by rw [e, List.append_assoc]; rfl) (by simp; omega) k
  obtain ⟨ys, r2, e2, hi⟩ := sat_ex (key xs [] [] (wipeE r1 vs) rfl (Nat.le_refl _) h0)
  refine ⟨ys, r2, ?_, hi⟩
  unfold xLc
  rw [h, bind_ok, if_pos hv, e2]
/-! ### books -/
structure Dl where
  nm : Str
  ls : List (Str × Str)
  st : List (Str × Str)
structure Bk where
  ks : List (Str × Bool)
  ds : List Dl
def ppD (x : Str × Str) : D := .tup [.str x.1, .str x.2]
def kdD (x : Str × Bool) : D := .tup [.str x.1, .bl x.2]
def Dl.D (d : Dl) : D := .tup [.str d.nm, .lst (d.ls.map ppD), .lst (d.st.map ppD)]
def Bk.D (b : Bk) : D := .tup [.lst (b.ks.map kdD), .lst (b.ds.map Dl.D)]
def IsNm (z : Str) : Prop := 1 ≤ z.length ∧ z.length ≤ 8 ∧ ∀ c ∈ z.cps.toList, c ∈ abcL
def IsLt (z : Str) : Prop := ∃ c ∈ abcL, z = ch c
def IsDeed (z : Str) : Prop := z = "read" ∨ z = "write" ∨ z = "ask"
structure DlOk (ks : List Str) (d : Dl) : Prop where
  nm : IsNm d.nm
  l1 : 1 ≤ d.ls.length
  l4 : d.ls.length ≤ 4
  lnd : (d.ls.map (·.1)).Nodup
  lch : ∀ x ∈ d.ls, IsLt x.1
  lk : ∀ x ∈ d.ls, x.2 ∈ ks
  s1 : 1 ≤ d.st.length
  s8 : d.st.length ≤ 8
  sd : ∀ s ∈ d.st, IsDeed s.1
  sl : ∀ s ∈ d.st, s.2 ∈ d.ls.map (·.1)
  su : ∀ x ∈ d.ls, ∃ s ∈ d.st, s.2 = x.1
structure BkOk (b : Bk) (mk md : Nat) : Prop where
  k1 : 1 ≤ b.ks.length
  k6 : b.ks.length ≤ mk
  knd : (b.ks.map (·.1)).Nodup
  knm : ∀ k ∈ b.ks, IsNm k.1
  d1 : 1 ≤ b.ds.length
  d8 : b.ds.length ≤ md
  dnd : (b.ds.map (·.nm)).Nodup
  dok : ∀ d ∈ b.ds, DlOk (b.ks.map (·.1)) d
/-! ### kinds by name -/
def dicK (ks : List (Str × Bool)) : List (Key × D) := ks.map fun x => (.inr x.1, .bl x.2)
theorem pairs_kd : ∀ ks : List (Str × Bool), pairsD (ks.map kdD) = some (dicK ks)
  | [] => rfl
  | k :: ks => by
    rw [List.map_cons]
    unfold kdD pairsD
    rw [show (ks.map fun x => D.tup [.str x.1, .bl x.2]) = ks.map kdD from rfl, pairs_kd ks]
    rfl
theorem putKD_new {kvs : List (Key × D)} {k : Key} {d : D} (h : k ∉ kvs.map (·.1)) : putKD kvs k d = kvs ++ [(k, d)] := by
  unfold putKD
  rw [if_neg]
  intro z
  rw [List.any_eq_true] at z
  obtain ⟨x, hx, he⟩ := z
  exact h (by rw [← of_decide_eq_true he]; exact List.mem_map.mpr ⟨x, hx, rfl⟩)
theorem merge_new : ∀ (more kvs : List (Key × D)), ((kvs ++ more).map (·.1)).Nodup → mergeD kvs more = kvs ++ more
  | [], kvs, _ => by rw [List.append_nil]; rfl
  | (k, d) :: more, kvs, h => by
    have hk : k ∉ kvs.map (·.1) := fun z => by
      rw [List.map_append, List.nodup_append] at h
      exact h.2.2 k z k (by simp) rfl
    show mergeD (putKD kvs k d) more = _
    rw [putKD_new hk, merge_new more (kvs ++ [(k, d)]) (by rw [List.append_assoc]; exact h), List.append_assoc]
    rfl
theorem dict_kd {ks : List (Str × Bool)} (h : (ks.map (·.1)).Nodup) : mergeD [] (dicK ks) = dicK ks := by
  rw [merge_new _ _ ?_]
  · rfl
  · rw [List.nil_append]
    unfold dicK
    rw [List.map_map]
    have : ((fun x : Key × D => x.1) ∘ fun x : Str × Bool => ((.inr x.1 : Key), D.bl x.2)) = (Sum.inr ∘ fun x : Str × Bool => x.1) := rfl
    rw [this, ← List.map_map]
    exact List.Pairwise.map _ (fun a b hab e => hab (Sum.inr.inj e)) h
theorem val_kd (k : Str) : ∀ ks : List (Str × Bool), valD (dicK ks) (.inr k) = (ks.lookup k).map D.bl
  | [] => rfl
  | (n, m) :: ks => by
    have ih := val_kd k ks
    unfold valD dicK at ih ⊢
    rw [List.map_cons, List.find?_cons, List.lookup_cons]
    by_cases h : n = k
    · subst h
      simp
    · have h2 : ¬ k = n := fun e => h e.symm
      have hb : (k == n) = false := by simpa using h2
      rw [hb]
      simp only [Sum.inr.injEq, h, decide_false]
      exact ih
theorem lookup_mem {ks : List (Str × Bool)} {k : Str} (h : k ∈ ks.map (·.1)) : ∃ m, ks.lookup k = some m := by
  induction ks with
  | nil => cases h
  | cons x ks ih =>
    obtain ⟨n, m⟩ := x
    rw [List.lookup_cons]
    by_cases e : k = n
    · subst e
      exact ⟨m, by simp⟩
    · have hb : (k == n) = false := by simpa using e
      rw [hb]
      refine ih ?_
      rw [List.map_cons] at h
      rcases List.mem_cons.mp h with h | h
      · exact (e h).elim
      · exact h
/-! ### places -/
abbrev Pl := Str × Str × Bool × Bool
def plD (p : Pl) : D := .tup [.str p.1, .str p.2.1, .bl p.2.2.1, .bl p.2.2.2]
def sameL (ks : List (Str × Bool)) (ls : List (Str × Str)) (l k : Str) : List Str := (ls.filter fun x => decide (x.1 = l) || (decide (x.2 = k) && !((ks.lookup k).getD true))).map (·.1)
def deedsL (st : List (Str × Str)) (same : List Str) : List Str := (st.filter fun s => decide (s.2 ∈ same)).map (·.1)
def placeL (st : List (Str × Str)) (l k : Str) (same : List Str) : Pl := (l, k, decide (("read" : Str) ∈ deedsL st same) || decide (("ask" : Str) ∈ deedsL st same), decide (("write" : Str) ∈ deedsL st same) || decide (("ask" : Str) ∈ deedsL st same))
def placesL (ks : List (Str × Bool)) (ls st : List (Str × Str)) (done : List (Str × Str)) : List Pl := done.filterMap fun x => if (sameL ks ls x.1 x.2).head? = some x.1 then some (placeL st x.1 x.2 (sameL ks ls x.1 x.2)) else none
def Dl.places (ks : List (Str × Bool)) (d : Dl) : List Pl := placesL ks d.ls d.st d.ls
end Sn
namespace Sn
open PySem L2
/-! ### equal data is equal -/
mutual
theorem eqv_refl : ∀ p : PyData, p.canLay0 = true → PyData.eqv p p = true
  | .none, _ => by simp [PyData.eqv]
  | .bool b, _ => by simp [PyData.eqv]
  | .int i, _ => by simp [PyData.eqv]
  | .str x, _ => by simp [PyData.eqv]
  | .list xs, h => by
    simp only [PyData.canLay0] at h
    simp only [PyData.eqv]
    exact eqvAll_refl xs h
  | .tuple xs, h => by
    simp only [PyData.canLay0] at h
    simp only [PyData.eqv]
    exact eqvAll_refl xs h
  | .dict _, h => by simp [PyData.canLay0] at h
theorem eqvAll_refl : ∀ ps : List PyData, PyData.canLayAll0 ps = true → PyData.eqvAll ps ps = true
  | [], _ => by simp [PyData.eqvAll]
  | p :: ps, h => by
    simp only [PyData.canLayAll0, Bool.and_eq_true] at h
    simp only [PyData.eqvAll, Bool.and_eq_true]
    exact ⟨eqv_refl p h.1, eqvAll_refl ps h.2⟩
end
/-- plain data, no deeper than n -/
def Fit (n : Nat) (d : D) : Prop := ∃ p, d.py = some p ∧ p.canLay0 = true ∧ p.depth ≤ n
def FitL (n : Nat) (ds : List D) : Prop := ∃ ps, D.pys ds = some ps ∧ PyData.canLayAll0 ps = true ∧ PyData.depthAll ps ≤ n
theorem fit_bl (b : Bool) {n : Nat} : Fit n (.bl b) := ⟨.bool b, rfl, by simp [PyData.canLay0], by simp [PyData.depth]⟩
theorem fit_int (i : Int) {n : Nat} : Fit n (.int i) := ⟨.int i, rfl, by simp [PyData.canLay0], by simp [PyData.depth]⟩
theorem fit_non {n : Nat} : Fit n .non := ⟨.none, rfl, by simp [PyData.canLay0], by simp [PyData.depth]⟩
theorem fit_str {x : Str} (h : PyData.strOk x = true) {n : Nat} : Fit n (.str x) := ⟨.str x, rfl, by simp [PyData.canLay0, h], by simp [PyData.depth]⟩
theorem fitL_nil {n : Nat} : FitL n [] := ⟨[], rfl, by simp [PyData.canLayAll0], by simp [PyData.depthAll]⟩
theorem fitL_cons {n : Nat} {d : D} {ds : List D} (h : Fit n d) (k : FitL n ds) : FitL n (d :: ds) := by
  obtain ⟨p, h1, h2, h3⟩ := h
  obtain ⟨ps, k1, k2, k3⟩ := k
  refine ⟨p :: ps, ?_, ?_, ?_⟩
  · unfold D.pys
    rw [h1, k1]
  · simp [PyData.canLayAll0, h2, k2]
  · simp only [PyData.depthAll]
    omega
theorem fitL_all {n : Nat} : ∀ {ds : List D}, (∀ d ∈ ds, Fit n d) → FitL n ds
  | [], _ => fitL_nil
  | d :: ds, h => fitL_cons (h d List.mem_cons_self) (fitL_all fun x hx => h x (List.mem_cons_of_mem _ hx))
theorem fit_lst {n : Nat} {ds : List D} (h : FitL n ds) : Fit (n + 1) (.lst ds) := by
  obtain ⟨ps, h1, h2, h3⟩ := h
  exact ⟨.list ps, by unfold D.py; rw [h1], by simp [PyData.canLay0, h2], by simp only [PyData.depth]; omega⟩
theorem fit_tup {n : Nat} {ds : List D} (h : FitL n ds) : Fit (n + 1) (.tup ds) := by
  obtain ⟨ps, h1, h2, h3⟩ := h
  exact ⟨.tuple ps, by unfold D.py; rw [h1], by simp [PyData.canLay0, h2], by simp only [PyData.depth]; omega⟩
theorem shaped_of {p : PyData} (h : p.canLay0 = true) (k : p.depth ≤ 64) : SeqAt.shaped p = true := by
  unfold SeqAt.shaped
  rw [h, decide_eq_true k]
  rfl
theorem eq_tup {xs : List D} (h : FitL 63 xs) : eqA (.d (.tup xs)) (.d (.tup xs)) = some true := by
  obtain ⟨p, h1, h2, h3⟩ := fit_tup h
  have hs := shaped_of h2 h3
  unfold eqA
  simp only [A.py, h1, hs, and_self, if_true, eqv_refl p h2]
theorem eq_ll {xs : List D} {w : Bool} (h : FitL 63 xs) : eqA (.l w xs) (.d (.lst xs)) = some true := by
  obtain ⟨ps, h1, h2, h3⟩ := h
  have hc : (PyData.list ps).canLay0 = true := by simp [PyData.canLay0, h2]
  have hd : (PyData.list ps).depth ≤ 64 := by simp only [PyData.depth]; omega
  have hs := shaped_of hc hd
  unfold eqA
  simp only [A.py, D.py, h1, hs, and_self, if_true, eqv_refl _ hc]
theorem eq_l2 {xs : List D} {w w' : Bool} (h : FitL 63 xs) : eqA (.l w xs) (.l w' xs) = some true := by
  obtain ⟨ps, h1, h2, h3⟩ := h
  have hc : (PyData.list ps).canLay0 = true := by simp [PyData.canLay0, h2]
  have hd : (PyData.list ps).depth ≤ 64 := by simp only [PyData.depth]; omega
  have hs := shaped_of hc hd
  unfold eqA
  simp only [A.py, D.py, h1, hs, and_self, if_true, eqv_refl _ hc]
theorem eq_d2 {xs : List D} (h : FitL 63 xs) : eqA (.d (.lst xs)) (.d (.lst xs)) = some true := by
  obtain ⟨ps, h1, h2, h3⟩ := h
  have hc : (PyData.list ps).canLay0 = true := by simp [PyData.canLay0, h2]
  have hd : (PyData.list ps).depth ≤ 64 := by simp only [PyData.depth]; omega
  have hs := shaped_of hc hd
  unfold eqA
  simp only [A.py, D.py, h1, hs, and_self, if_true, eqv_refl _ hc]
/-! ### books -/
theorem strOk_abc {z : Str} (h : ∀ c ∈ z.cps.toList, c ∈ abcL) : PyData.strOk z = true := by
  have k : ∀ c ∈ abcL, 97 ≤ c ∧ c ≤ 122 := by decide
  unfold PyData.strOk
  rw [← Array.all_toList, List.all_eq_true]
  intro c hc
  have := k c (h c hc)
  first
    | (simp; omega)
    | (simp [Str.scalar]; omega)
theorem IsNm.ok {z : Str} (h : IsNm z) : PyData.strOk z = true := strOk_abc h.2.2
theorem IsLt.ok {z : Str} (h : IsLt z) : PyData.strOk z = true := by
  obtain ⟨c, hc, rfl⟩ := h
  exact strOk_abc fun d hd => by simp at hd; subst hd; exact hc
theorem IsDeed.ok {z : Str} (h : IsDeed z) : PyData.strOk z = true := by
  rcases h with rfl | rfl | rfl <;> decide +kernel
end Sn
namespace Sn
open PySem L2
theorem fit_ppD {x : Str × Str} (h1 : PyData.strOk x.1 = true) (h2 : PyData.strOk x.2 = true) {n : Nat} : Fit (n + 1) (ppD x) := fit_tup (fitL_cons (fit_str h1) (fitL_cons (fit_str h2) fitL_nil))
theorem fit_kdD {x : Str × Bool} (h1 : PyData.strOk x.1 = true) {n : Nat} : Fit (n + 1) (kdD x) := fit_tup (fitL_cons (fit_str h1) (fitL_cons (fit_bl _) fitL_nil))
theorem fit_plD {p : Pl} (h1 : PyData.strOk p.1 = true) (h2 : PyData.strOk p.2.1 = true) {n : Nat} : Fit (n + 1) (plD p) := fit_tup (fitL_cons (fit_str h1) (fitL_cons (fit_str h2) (fitL_cons (fit_bl _) (fitL_cons (fit_bl _) fitL_nil))))
theorem fitL_map {α : Type} {f : α → D} {n : Nat} {xs : List α} (h : ∀ x ∈ xs, Fit n (f x)) : FitL n (xs.map f) := fitL_all fun d hd => by
  obtain ⟨x, hx, rfl⟩ := List.mem_map.mp hd
  exact h x hx
theorem DlOk.kok {ks : List Str} {d : Dl} (h : DlOk ks d) (hk : ∀ k ∈ ks, IsNm k) : ∀ x ∈ d.ls, PyData.strOk x.1 = true ∧ PyData.strOk x.2 = true := fun x hx => ⟨(h.lch x hx).ok, (hk _ (h.lk x hx)).ok⟩
theorem DlOk.fit {ks : List Str} {d : Dl} (h : DlOk ks d) (hk : ∀ k ∈ ks, IsNm k) {n : Nat} : Fit (n + 3) d.D := by
  refine fit_tup (fitL_cons (fit_str h.nm.ok) (fitL_cons (fit_lst (fitL_map fun x hx => fit_ppD (h.kok hk x hx).1 (h.kok hk x hx).2)) (fitL_cons (fit_lst (fitL_map fun s hs => fit_ppD (h.sd s hs).ok ?_)) fitL_nil)))
  obtain ⟨x, hx, e⟩ := List.mem_map.mp (h.sl s hs)
  rw [← e]
  exact (h.lch x hx).ok
theorem BkOk.nms {b : Bk} {mk md : Nat} (h : BkOk b mk md) : ∀ k ∈ b.ks.map (·.1), IsNm k := fun k hk => by
  obtain ⟨x, hx, rfl⟩ := List.mem_map.mp hk
  exact h.knm x hx
theorem BkOk.fitL {b : Bk} {mk md : Nat} (h : BkOk b mk md) : FitL 63 [.lst (b.ks.map kdD), .lst (b.ds.map Dl.D)] :=
  fitL_cons (fit_lst (fitL_map fun x hx => fit_kdD (h.knm x hx).ok)) (fitL_cons (fit_lst (fitL_map fun d hd => (h.dok d hd).fit h.nms)) fitL_nil)
theorem BkOk.eq {b : Bk} {mk md : Nat} (h : BkOk b mk md) : eqA (.d b.D) (.d b.D) = some true := eq_tup h.fitL
/-! ### letters together -/
def mny (ks : List (Str × Bool)) (k : Str) : Bool := (ks.lookup k).getD true
def fstK (done : List (Str × Str)) (k : Str) : Option Str := (done.find? fun y => decide (y.2 = k)).map (·.1)
def kindL (done : List (Str × Str)) (k : Str) : List Str := (done.filter fun y => decide (y.2 = k)).map (·.1)
def isH (ks : List (Str × Bool)) (done : List (Str × Str)) (x : Str × Str) : Bool := mny ks x.2 || decide (fstK done x.2 = some x.1)
def grp (ks : List (Str × Bool)) (done : List (Str × Str)) (x : Str × Str) : List Str := if mny ks x.2 = true then [x.1] else kindL done x.2
def heads (ks : List (Str × Bool)) (done : List (Str × Str)) : List (Str × Str) := done.filter (isH ks done)
def gD (ks : List (Str × Bool)) (done : List (Str × Str)) : List (Key × D) := (heads ks done).map fun x => (.inr x.1, .lst ((grp ks done x).map .str))
theorem fstK_mem {done : List (Str × Str)} {k h : Str} (e : fstK done k = some h) : (h, k) ∈ done := by
  unfold fstK at e
  obtain ⟨y, h1, h2⟩ := Option.map_eq_some_iff.mp e
  have := List.find?_some h1
  have hm := List.mem_of_find?_eq_some h1
  have hk := of_decide_eq_true this
  obtain ⟨a, b⟩ := y
  simp only at h2 hk
  rw [← h2, ← hk]
  exact hm
theorem fstK_none {done : List (Str × Str)} {k : Str} (e : fstK done k = none) : ∀ y ∈ done, y.2 ≠ k := fun y hy z => by
  unfold fstK at e
  rw [Option.map_eq_none_iff, List.find?_eq_none] at e
  exact e y hy (decide_eq_true z)
theorem fstK_app {done : List (Str × Str)} {x : Str × Str} {k : Str} : fstK (done ++ [x]) k = (fstK done k).or (if x.2 = k then some x.1 else none) := by
  unfold fstK
  rw [List.find?_append]
  cases h : done.find? fun y => decide (y.2 = k) with
  | some y => rfl
  | none =>
    by_cases e : x.2 = k
    · simp [e]
    · simp [e]
theorem fstK_old {done : List (Str × Str)} {x y : Str × Str} (hy : y ∈ done) : fstK (done ++ [x]) y.2 = fstK done y.2 := by
  rw [fstK_app]
  cases h : fstK done y.2 with
  | none => exact (fstK_none h y hy rfl).elim
  | some z => rfl
theorem kindL_app {done : List (Str × Str)} {x : Str × Str} {k : Str} : kindL (done ++ [x]) k = kindL done k ++ (if x.2 = k then [x.1] else []) := by
  unfold kindL
  rw [List.filter_append, List.map_append]
  congr 1
  by_cases e : x.2 = k <;> simp [e]
theorem heads_app {ks : List (Str × Bool)} {done : List (Str × Str)} {x : Str × Str} : heads ks (done ++ [x]) = heads ks done ++ (if isH ks (done ++ [x]) x = true then [x] else []) := by
  unfold heads
  rw [List.filter_append]
  congr 1
  · refine List.filter_congr fun y hy => ?_
    unfold isH
    rw [fstK_old hy]
  · by_cases h : isH ks (done ++ [x]) x = true <;> simp [h]
theorem addG_new {k : Key} {x : D} : ∀ {kvs : List (Key × D)}, k ∉ kvs.map (·.1) → addG k x kvs = some (kvs ++ [(k, .lst [x])])
  | [], _ => rfl
  | (j, d) :: r, h => by
    unfold addG
    rw [if_neg (fun z => h (by simp [z])), addG_new fun z => h (by simp at z ⊢; exact .inr z)]
    rfl
theorem addG_map {α : Type} {key : α → Str} {f g : α → List Str} {h l : Str} : ∀ {L : List α}, (L.map key).Nodup → h ∈ L.map key → (∀ y ∈ L, key y = h → g y = f y ++ [l] ∧ (f y).length < 100000) → (∀ y ∈ L, key y ≠ h → g y = f y) →
    addG (.inr h) (.str l) (L.map fun y => (.inr (key y), .lst ((f y).map .str))) = some (L.map fun y => (.inr (key y), .lst ((g y).map .str)))
  | [], _, hm, _, _ => by cases hm
  | y :: L, nd, hm, hs, hn => by
    rw [List.map_cons] at nd hm
    have nd' := List.nodup_cons.mp nd
    rw [List.map_cons, List.map_cons]
    unfold addG
    by_cases e : key y = h
    · obtain ⟨h1, h2⟩ := hs y List.mem_cons_self e
      rw [if_pos (by rw [e])]
      simp only [List.length_map]
      rw [if_pos h2, h1, List.map_append]
      congr 2
      refine List.map_congr_left fun z hz => ?_
      have hne : key z ≠ h := fun q => nd'.1 (by rw [e, ← q]; exact List.mem_map.mpr ⟨z, hz, rfl⟩)
      rw [hn z (List.mem_cons_of_mem _ hz) hne]
    · rw [if_neg (fun z => e (Sum.inr.inj z))]
      have hm' : h ∈ L.map key := by
        rcases List.mem_cons.mp hm with q | q
        · exact (e q.symm).elim
        · exact q
      rw [addG_map nd'.2 hm' (fun z hz => hs z (List.mem_cons_of_mem _ hz)) (fun z hz => hn z (List.mem_cons_of_mem _ hz)), hn y List.mem_cons_self e]
theorem heads_sub {ks : List (Str × Bool)} {done : List (Str × Str)} {x : Str × Str} (h : x ∈ heads ks done) : x ∈ done := (List.mem_filter.mp h).1
theorem grp_app {ks : List (Str × Bool)} {done : List (Str × Str)} {x y : Str × Str} : grp ks (done ++ [x]) y = if mny ks y.2 = false ∧ x.2 = y.2 then grp ks done y ++ [x.1] else grp ks done y := by
  unfold grp
  rw [kindL_app]
  cases hm : mny ks y.2 with
  | true => simp
  | false => by_cases e : x.2 = y.2 <;> simp [e]
theorem fst_inj {L : List (Str × Str)} : ∀ {a b : Str × Str}, (L.map (·.1)).Nodup → a ∈ L → b ∈ L → a.1 = b.1 → a = b := by
  induction L with
  | nil => intro a b nd ha; cases ha
  | cons c L ih =>
    intro a b nd ha hb e
    rw [List.map_cons] at nd
    have nd' := List.nodup_cons.mp nd
    rcases List.mem_cons.mp ha with h1 | h1
    · rcases List.mem_cons.mp hb with h2 | h2
      · rw [h1, h2]
      · exact (nd'.1 (by rw [← h1, e]; exact List.mem_map.mpr ⟨b, h2, rfl⟩)).elim
    · rcases List.mem_cons.mp hb with h2 | h2
      · exact (nd'.1 (by rw [← h2, ← e]; exact List.mem_map.mpr ⟨a, h1, rfl⟩)).elim
      · exact ih nd'.2 h1 h2 e
/-- one letter more -/
theorem gD_step {ks : List (Str × Bool)} {done : List (Str × Str)} {x : Str × Str} (nd : ((done ++ [x]).map (·.1)).Nodup) (hz : done.length < 100000) :
    addG (.inr (if mny ks x.2 = true then x.1 else (fstK done x.2).getD x.1)) (.str x.1) (gD ks done) = some (gD ks (done ++ [x])) := by
  have hx : x.1 ∉ done.map (·.1) := fun z => by
    rw [List.map_append, List.nodup_append] at nd
    exact nd.2.2 x.1 z x.1 (by simp) rfl
  have ndd : (done.map (·.1)).Nodup := by
    rw [List.map_append, List.nodup_append] at nd
    exact nd.1
  have ndh : ((heads ks done).map (·.1)).Nodup := List.Nodup.sublist (List.Sublist.map _ List.filter_sublist) ndd
  have hxh : (Sum.inr x.1 : Key) ∉ (gD ks done).map (·.1) := fun z => by
    unfold gD at z
    rw [List.map_map] at z
    obtain ⟨y, hy, e⟩ := List.mem_map.mp z
    exact hx (by rw [← Sum.inr.inj e]; exact List.mem_map.mpr ⟨y, heads_sub hy, rfl⟩)
  have same : (∀ y ∈ heads ks done, ¬ (mny ks y.2 = false ∧ x.2 = y.2)) → (heads ks done).map (fun y => ((.inr y.1 : Key), D.lst ((grp ks (done ++ [x]) y).map .str))) = gD ks done := fun hh => by
    unfold gD
    refine List.map_congr_left fun y hy => ?_
    rw [grp_app, if_neg (hh y hy)]
  cases hm : mny ks x.2 with
  | true =>
    rw [if_pos rfl, addG_new hxh]
    have h1 : isH ks (done ++ [x]) x = true := by unfold isH; rw [hm]; rfl
    have h2 : grp ks (done ++ [x]) x = [x.1] := by unfold grp; rw [hm]; rfl
    conv => rhs; unfold gD
    rw [heads_app, if_pos h1, List.map_append, same fun y hy z => by rw [← z.2, hm] at z; cases z.1]
    rw [List.map_cons, h2]
    rfl
  | false =>
    rw [if_neg (by decide)]
    cases hf : fstK done x.2 with
    | none =>
      show addG (.inr x.1) _ _ = _
      rw [addG_new hxh]
      have h1 : isH ks (done ++ [x]) x = true := by
        unfold isH
        rw [hm, fstK_app, hf]
        simp
      have h2 : grp ks (done ++ [x]) x = [x.1] := by
        unfold grp
        rw [hm, kindL_app]
        have : kindL done x.2 = [] := by
          unfold kindL
          rw [List.filter_eq_nil_iff.mpr fun y hy z => fstK_none hf y hy (of_decide_eq_true z)]
          rfl
        rw [this]
        simp
      conv => rhs; unfold gD
      rw [heads_app, if_pos h1, List.map_append, same fun y hy z => fstK_none hf y (heads_sub hy) z.2.symm]
      rw [List.map_cons, h2]
      rfl
    | some h =>
      show addG (.inr h) _ _ = _
      have hmem := fstK_mem hf
      have hne : h ≠ x.1 := fun z => hx (by rw [← z]; exact List.mem_map.mpr ⟨_, hmem, rfl⟩)
      have h1 : ¬ isH ks (done ++ [x]) x = true := by
        unfold isH
        rw [hm, fstK_app, hf]
        simp [hne]
      conv => rhs; unfold gD
      rw [heads_app, if_neg h1, List.append_nil]
      unfold gD
      refine addG_map (key := fun y : Str × Str => y.1) ndh ?_ (fun y hy e => ?_) (fun y hy e => ?_)
      · refine List.mem_map.mpr ⟨(h, x.2), List.mem_filter.mpr ⟨hmem, ?_⟩, rfl⟩
        unfold isH
        simp [hf]
      · have hy2 : y = (h, x.2) := by
          have hyd := heads_sub hy
          exact fst_inj ndd hyd hmem e
        subst hy2
        refine ⟨by rw [grp_app, if_pos ⟨hm, rfl⟩], ?_⟩
        unfold grp
        rw [hm]
        unfold kindL
        simp only [Bool.false_eq_true, if_false, List.length_map]
        exact Nat.lt_of_le_of_lt (List.length_filter_le _ _) hz
      · rw [grp_app, if_neg fun z => ?_]
        have hyh := (List.mem_filter.mp hy).2
        unfold isH at hyh
        rw [z.1, ← z.2, hf] at hyh
        simp at hyh
        exact e hyh.symm
/-- the heads are the places -/
theorem same_grp {ks : List (Str × Bool)} {ls : List (Str × Str)} (nd : (ls.map (·.1)).Nodup) {x : Str × Str} (hx : x ∈ ls) : sameL ks ls x.1 x.2 = grp ks ls x := by
  have one : ∀ {L : List (Str × Str)}, (L.map (·.1)).Nodup → x ∈ L → (L.filter fun y => decide (y.1 = x.1)) = [x] := by
    intro L nd hx
    induction L with
    | nil => cases hx
    | cons c L ih =>
      rw [List.map_cons] at nd
      have nd' := List.nodup_cons.mp nd
      rcases List.mem_cons.mp hx with rfl | hx
      · rw [List.filter_cons_of_pos (by simp), List.filter_eq_nil_iff.mpr fun y hy z => nd'.1 (by rw [← of_decide_eq_true z]; exact List.mem_map.mpr ⟨y, hy, rfl⟩)]
      · rw [List.filter_cons_of_neg (fun z => nd'.1 (by rw [of_decide_eq_true z]; exact List.mem_map.mpr ⟨x, hx, rfl⟩)), ih nd'.2 hx]
  unfold sameL grp mny
  cases hm : (ks.lookup x.2).getD true with
  | true =>
    simp only [Bool.not_true, Bool.and_false, Bool.or_false, if_true]
    rw [one nd hx]
    rfl
  | false =>
    simp only [Bool.not_false, Bool.and_true, Bool.false_eq_true, if_false]
    unfold kindL
    congr 1
    refine List.filter_congr fun y hy => ?_
    by_cases e : y.1 = x.1
    · have : y = x := by
        have h1 : y ∈ ls.filter fun z => decide (z.1 = x.1) := List.mem_filter.mpr ⟨hy, decide_eq_true e⟩
        rw [one nd hx] at h1
        simpa using h1
      rw [this]
      simp
    · simp [e]
theorem head_grp {ks : List (Str × Bool)} {ls : List (Str × Str)} {x : Str × Str} : (decide ((grp ks ls x).head? = some x.1)) = isH ks ls x := by
  unfold grp isH
  cases hm : mny ks x.2 with
  | true => simp
  | false =>
    simp only [Bool.false_eq_true, if_false, Bool.false_or]
    congr 1
    unfold kindL fstK
    rw [List.head?_map, List.head?_filter]
theorem places_heads {ks : List (Str × Bool)} {ls st : List (Str × Str)} (nd : (ls.map (·.1)).Nodup) : placesL ks ls st ls = (heads ks ls).map fun x => placeL st x.1 x.2 (grp ks ls x) := by
  have key : ∀ L : List (Str × Str), (∀ x ∈ L, x ∈ ls) → placesL ks ls st L = (L.filter (isH ks ls)).map fun x => placeL st x.1 x.2 (grp ks ls x) := by
    intro L
    induction L with
    | nil => intro _; rfl
    | cons x L ih =>
      intro h
      have ih := ih fun y hy => h y (List.mem_cons_of_mem _ hy)
      unfold placesL at ih ⊢
      rw [List.filterMap_cons, same_grp nd (h x List.mem_cons_self)]
      have hh := head_grp (ks := ks) (ls := ls) (x := x)
      by_cases e : isH ks ls x = true
      · rw [List.filter_cons_of_pos e]
        rw [e] at hh
        rw [if_pos (of_decide_eq_true hh), List.map_cons, ih]
      · rw [List.filter_cons_of_neg e]
        have e' : isH ks ls x = false := by simpa using e
        rw [e'] at hh
        rw [if_neg (of_decide_eq_false hh), ih]
  exact key ls fun x hx => hx
/-! ### the first of each kind with one key -/
theorem valD_app {kvs : List (Key × D)} {k k' : Key} {d : D} (h : valD kvs k = none) : valD (kvs ++ [(k, d)]) k' = if k = k' then some d else valD kvs k' := by
  unfold valD at h ⊢
  rw [List.find?_append]
  by_cases e : k = k'
  · subst e
    rw [Option.map_eq_none_iff] at h
    rw [h, if_pos rfl]
    simp
  · rw [if_neg e]
    cases hf : kvs.find? fun kv => decide (kv.1 = k') with
    | some y => rfl
    | none => simp [e]
theorem valD_nk {kvs : List (Key × D)} {k : Key} (h : valD kvs k = none) : k ∉ kvs.map (·.1) := fun z => by
  obtain ⟨y, hy, e⟩ := List.mem_map.mp z
  unfold valD at h
  rw [Option.map_eq_none_iff, List.find?_eq_none] at h
  exact h y hy (decide_eq_true e)
/-! ### letters by name -/
def dicL (ls : List (Str × Str)) : List (Key × D) := ls.map fun x => (.inr x.1, .str x.2)
theorem pairs_pp : ∀ ks : List (Str × Str), pairsD (ks.map ppD) = some (dicL ks)
  | [] => rfl
  | k :: ks => by
    rw [List.map_cons]
    unfold ppD pairsD
    rw [show (ks.map fun x => D.tup [.str x.1, .str x.2]) = ks.map ppD from rfl, pairs_pp ks]
    rfl
theorem dict_pp {ks : List (Str × Str)} (h : (ks.map (·.1)).Nodup) : mergeD [] (dicL ks) = dicL ks := by
  rw [merge_new _ _ ?_]
  · rfl
  · rw [List.nil_append]
    unfold dicL
    rw [List.map_map]
    have : ((fun x : Key × D => x.1) ∘ fun x : Str × Str => ((.inr x.1 : Key), D.str x.2)) = (Sum.inr ∘ fun x : Str × Str => x.1) := rfl
    rw [this, ← List.map_map]
    exact List.Pairwise.map _ (fun a b hab e => hab (Sum.inr.inj e)) h
theorem valD_mem {α : Type} {key : α → Key} {val : α → D} : ∀ {L : List α}, (L.map key).Nodup → ∀ x ∈ L, valD (L.map fun y => (key y, val y)) (key x) = some (val x)
  | [], _, x, hx => by cases hx
  | y :: L, nd, x, hx => by
    rw [List.map_cons] at nd
    have nd' := List.nodup_cons.mp nd
    unfold valD
    rw [List.map_cons, List.find?_cons]
    rcases List.mem_cons.mp hx with rfl | hx
    · simp
    · have hne : ¬ key y = key x := fun e => nd'.1 (by rw [e]; exact List.mem_map.mpr ⟨x, hx, rfl⟩)
      rw [show decide ((key y, val y).1 = key x) = false from decide_eq_false hne]
      exact valD_mem nd'.2 x hx
theorem val_pp {ls : List (Str × Str)} (nd : (ls.map (·.1)).Nodup) {x : Str × Str} (hx : x ∈ ls) : valD (dicL ls) (.inr x.1) = some (.str x.2) := by
  refine valD_mem (key := fun y : Str × Str => (.inr y.1 : Key)) (val := fun y => .str y.2) ?_ x hx
  have : (fun y : Str × Str => (.inr y.1 : Key)) = (Sum.inr ∘ fun y : Str × Str => y.1) := rfl
  rw [this, ← List.map_map]
  exact List.Pairwise.map _ (fun a b hab e => hab (Sum.inr.inj e)) nd
theorem enum_map {α : Type} (f : α → D) : ∀ (xs : List α) (i : Nat), enumD i (xs.map f) = (xs.zipIdx i).map fun p => .tup [.int p.2, f p.1]
  | [], _ => rfl
  | x :: xs, i => by
    rw [List.map_cons, List.zipIdx_cons, List.map_cons]
    unfold enumD
    rw [enum_map f xs (i + 1)]
theorem bools_map : ∀ bs : List Bool, bools (bs.map D.bl) = some bs
  | [] => rfl
  | b :: bs => by
    rw [List.map_cons]
    unfold bools
    rw [bools_map bs]
end Sn
namespace Sn
open PySem L2
/-! ### kinds with one key that a dealing writes -/
def loneL (ks : List (Str × Bool)) (ps : List Pl) : List Str := (ps.filter fun p => p.2.2.2 && !mny ks p.2.1).map (·.2.1)
def kOf (ls : List (Str × Str)) (m : Str) : Str := ((ls.find? fun x => decide (x.1 = m)).map (·.2)).getD ""
def aloneL (ks : List (Str × Bool)) (ls st : List (Str × Str)) : List Str := (st.filter fun s => decide (s.1 ≠ ("read" : Str)) && !mny ks (kOf ls s.2)).map fun s => kOf ls s.2
theorem kOf_mem {ls : List (Str × Str)} (nd : (ls.map (·.1)).Nodup) {x : Str × Str} (hx : x ∈ ls) : kOf ls x.1 = x.2 := by
  unfold kOf
  cases h : ls.find? fun y => decide (y.1 = x.1) with
  | none =>
    rw [List.find?_eq_none] at h
    exact (h x hx (by simp)).elim
  | some y =>
    have h0 := List.find?_some h
    have h1 := of_decide_eq_true h0
    have h2 := List.mem_of_find?_eq_some h
    rw [fst_inj nd h2 hx h1]
    rfl
theorem lone_mem {ks : List (Str × Bool)} {d : Dl} {kn : List Str} (hd : DlOk kn d) (k : Str) : k ∈ loneL ks (d.places ks) ↔ k ∈ aloneL ks d.ls d.st := by
  have hpl : d.places ks = (heads ks d.ls).map fun x => placeL d.st x.1 x.2 (grp ks d.ls x) := places_heads hd.lnd
  unfold loneL aloneL
  rw [hpl]
  simp only [List.mem_map, List.mem_filter]
  constructor
  · rintro ⟨p, ⟨⟨x, hx, rfl⟩, hp⟩, rfl⟩
    rw [Bool.and_eq_true] at hp
    obtain ⟨h1, h2⟩ := hp
    have hm : mny ks x.2 = false := by simpa [placeL] using h2
    have hw : ∃ z, z ≠ ("read" : Str) ∧ z ∈ deedsL d.st (grp ks d.ls x) := by
      have h1 : (decide (("write" : Str) ∈ deedsL d.st (grp ks d.ls x)) || decide (("ask" : Str) ∈ deedsL d.st (grp ks d.ls x))) = true := h1
      rw [Bool.or_eq_true] at h1
      rcases h1 with h1 | h1
      · exact ⟨"write", by decide +kernel, of_decide_eq_true h1⟩
      · exact ⟨"ask", by decide +kernel, of_decide_eq_true h1⟩
    obtain ⟨z, hz, hw⟩ := hw
    unfold deedsL at hw
    obtain ⟨s, hs, rfl⟩ := List.mem_map.mp hw
    obtain ⟨hs1, hs2⟩ := List.mem_filter.mp hs
    have hs2 := of_decide_eq_true hs2
    unfold grp at hs2
    rw [hm, if_neg (by decide)] at hs2
    unfold kindL at hs2
    obtain ⟨y, hy, ey⟩ := List.mem_map.mp hs2
    obtain ⟨hy1, hy2⟩ := List.mem_filter.mp hy
    have hy2 := of_decide_eq_true hy2
    have hk : kOf d.ls s.2 = x.2 := by rw [← ey, kOf_mem hd.lnd hy1, hy2]
    refine ⟨s, ⟨hs1, ?_⟩, hk⟩
    rw [hk, hm]
    simp [hz]
  · rintro ⟨s, ⟨hs1, hs2⟩, rfl⟩
    rw [Bool.and_eq_true] at hs2
    obtain ⟨h1, h2⟩ := hs2
    have hm : mny ks (kOf d.ls s.2) = false := by simpa using h2
    have hr : s.1 ≠ ("read" : Str) := of_decide_eq_true h1
    obtain ⟨y, hy, ey⟩ := List.mem_map.mp (hd.sl s hs1)
    have hk : kOf d.ls s.2 = y.2 := by rw [← ey, kOf_mem hd.lnd hy]
    rw [hk] at hm ⊢
    cases hf : fstK d.ls y.2 with
    | none => exact (fstK_none hf y hy rfl).elim
    | some h =>
      have hmem := fstK_mem hf
      have hin : s.2 ∈ grp ks d.ls (h, y.2) := by
        unfold grp
        rw [hm, if_neg (by decide)]
        unfold kindL
        exact List.mem_map.mpr ⟨y, List.mem_filter.mpr ⟨hy, by simp⟩, ey⟩
      have hdeed : s.1 ∈ deedsL d.st (grp ks d.ls (h, y.2)) := List.mem_map.mpr ⟨s, List.mem_filter.mpr ⟨hs1, decide_eq_true hin⟩, rfl⟩
      refine ⟨placeL d.st h y.2 (grp ks d.ls (h, y.2)), ⟨⟨(h, y.2), List.mem_filter.mpr ⟨hmem, ?_⟩, rfl⟩, ?_⟩, rfl⟩
      · unfold isH
        simp [hf]
      · rw [Bool.and_eq_true]
        refine ⟨?_, by simp [placeL, hm]⟩
        show (decide (("write" : Str) ∈ deedsL d.st (grp ks d.ls (h, y.2))) || decide (("ask" : Str) ∈ deedsL d.st (grp ks d.ls (h, y.2)))) = true
        rcases hd.sd s hs1 with e | e | e
        · exact (hr e).elim
        · rw [← e, decide_eq_true hdeed]; rfl
        · rw [← e, decide_eq_true hdeed, Bool.or_true]
theorem lone_len {ks : List (Str × Bool)} {ps : List Pl} : (loneL ks ps).length ≤ ps.length := by
  unfold loneL
  rw [List.length_map]
  exact List.length_filter_le _ _
theorem alone_len {ks : List (Str × Bool)} {ls st : List (Str × Str)} : (aloneL ks ls st).length ≤ st.length := by
  unfold aloneL
  rw [List.length_map]
  exact List.length_filter_le _ _
/-- beside: no kind of the one is a kind of the other -/
def besL (b : Bk) (d : Dl) (L : List (Dl × Nat)) : List Nat := (L.filter fun p => !((loneL b.ks (p.1.places b.ks)).any fun k => decide (k ∈ loneL b.ks (d.places b.ks)))).map (·.2)
theorem bes_eq {b : Bk} {mk md : Nat} (hb : BkOk b mk md) {d e : Dl} (hd : d ∈ b.ds) (he : e ∈ b.ds) : ((loneL b.ks (e.places b.ks)).any fun k => decide (k ∈ loneL b.ks (d.places b.ks))) = !(((aloneL b.ks e.ls e.st).filter fun k => decide (k ∈ aloneL b.ks d.ls d.st)).isEmpty) := by
  have h1 := fun k => lone_mem (ks := b.ks) (hb.dok d hd) k
  have h2 := fun k => lone_mem (ks := b.ks) (hb.dok e he) k
  rw [Bool.eq_iff_iff]
  simp only [List.any_eq_true, decide_eq_true_eq, Bool.not_eq_true', List.isEmpty_eq_false_iff_exists_mem, List.mem_filter]
  constructor
  · rintro ⟨k, hk, hk2⟩
    exact ⟨k, (h2 k).mp hk, (h1 k).mp hk2⟩
  · rintro ⟨k, hk, hk2⟩
    exact ⟨k, (h2 k).mpr hk, (h1 k).mpr hk2⟩
end Sn
namespace Sg
open PySem L2 Sn
def topS (i : Nat) : Stmt := PySem.Challenge.pw_snapsure_k17_beside_one_another.main.body.getD i (.Pass ⟨0, 0, 0, 0⟩)
abbrev s_l_draw : Stmt := topS 20
abbrev n_l_draw : List Str := ["_law_pool_here", "_law_many", "_law_found"]
theorem sc_l_draw : FnScope n_l_draw ["_law_pool_here", "_law_many"] (defScope s_l_draw) := ⟨rfl, rfl, rfl, by decide +kernel, rfl, by decide +kernel, by decide +kernel⟩
abbrev nm_l_draw : Nm := ⟨[], [], [], [], []⟩
def f_l_draw : Fn := fnF n_l_draw s_l_draw 2 [true, false] nm_l_draw
def b_l_draw : X2 := (sSeq (sIf (xtB (x2 (fun p q => bl? (cmpA .Gt p q)) (x2 idxA (xVar 0) (xD (.int 0))) (xD (.int 0)))) (sSeq (sSet 2 2 (x2 (binA .Mod) (x2 idxA (xVar 0) (xD (.int 0))) (xVar 1))) (sSeq (sSub 0 (xFz 2 (x2 (binA .FloorDiv) (x2 idxA (xVar 0) (xD (.int 0))) (xVar 1))) (xD (.int 0))) (sSeq (sRet (xVar 2)) sNx))) sNx) (sSeq (sSub 0 (xFz 2 (x2 (binA .Mod) (x2 (binA .Add) (x2 (binA .Mult) (x2 idxA (xVar 0) (xD (.int 1))) (xD (.int 69621))) (xD (.int 7))) (xD (.int 2147483647)))) (xD (.int 1))) (sSeq (sRet (x2 (binA .Mod) (x2 (binA .FloorDiv) (x2 (binA .Mod) (x2 (binA .Mult) (x2 idxA (xVar 0) (xD (.int 1))) (x2 idxA (xVar 0) (xD (.int 1)))) (xD (.int 2147483629))) (xD (.int 32))) (xVar 1))) sNx)))
theorem e_l_draw : cB (ctxF n_l_draw s_l_draw 2 nm_l_draw) 60 (defBody s_l_draw) = b_l_draw := by kernel_rfl
theorem sem_l_draw (as : Sn.Env) (h : as.length = 2) : f_l_draw.sem as = finE as (b_l_draw (as ++ [none])) := by
  show semF (ctxF n_l_draw s_l_draw 2 nm_l_draw) 60 (defBody s_l_draw) as = _
  unfold semF
  rw [if_pos (show as.length = (ctxF n_l_draw s_l_draw 2 nm_l_draw).ar from h), e_l_draw]
  rfl
abbrev s_l_marks : Stmt := topS 22
abbrev n_l_marks : List Str := ["_law_pool_here", "_law_many", "_law_left", "_law_found", "_law_k", "_law_mark"]
theorem sc_l_marks : FnScope n_l_marks ["_law_pool_here", "_law_many"] (defScope s_l_marks) := ⟨rfl, rfl, rfl, by decide +kernel, rfl, by decide +kernel, by decide +kernel⟩
abbrev nm_l_marks : Nm := ⟨[("_law_draw", f_l_draw)], ["len", "range"], [], [], []⟩
def f_l_marks : Fn := fnF n_l_marks s_l_marks 2 [true, false] nm_l_marks
def l_marks_b1 : X2 := (sSeq (sPair 2 5 2 (xCF f_l_draw (xaCons (xAr 2 (xVar 0)) (xaCons (xFz 2 (xCB (BI.f .len) (xaCons (xAr 2 (xVar 2)) xaNil))) xaNil)))) (sSeq (sDrop (xMe (MI.T .app) (MI.f .app) (xVar 3) (xaCons (xFz 2 (xVar 5)) xaNil))) sNx))
def l_marks_f1 : X2 := sFor (xRg1 (xaCons (xFz 2 (xVar 1)) xaNil)) (gN 2 4) l_marks_b1
def b_l_marks : X2 := (sSeq (sSet 2 2 (xD (.str "abcdefghijklmnopqrstuvwxyz"))) (sSeq (sSet 2 3 (xLst xaNil)) (sSeq l_marks_f1 (sSeq (sRet (xVar 3)) sNx))))
theorem e_l_marks : cB (ctxF n_l_marks s_l_marks 2 nm_l_marks) 60 (defBody s_l_marks) = b_l_marks := by kernel_rfl
theorem sem_l_marks (as : Sn.Env) (h : as.length = 2) : f_l_marks.sem as = finE as (b_l_marks (as ++ [none, none, none, none])) := by
  show semF (ctxF n_l_marks s_l_marks 2 nm_l_marks) 60 (defBody s_l_marks) as = _
  unfold semF
  rw [if_pos (show as.length = (ctxF n_l_marks s_l_marks 2 nm_l_marks).ar from h), e_l_marks]
  rfl
abbrev s_l_names : Stmt := topS 21
abbrev n_l_names : List Str := ["_law_pool_here", "_law_many", "_law_letters", "_law_found", "_law_k", "_law_size", "_law_title", "_law_at", "_law_some", "_law_letter", "_law_one"]
theorem sc_l_names : FnScope n_l_names ["_law_pool_here", "_law_many"] (defScope s_l_names) := ⟨rfl, rfl, rfl, by decide +kernel, rfl, by decide +kernel, by decide +kernel⟩
abbrev nm_l_names : Nm := ⟨[("_law_draw", f_l_draw)], ["range"], [], [], []⟩
def f_l_names : Fn := fnF n_l_names s_l_names 2 [true, false] nm_l_names
def l_names_c1 : X1 := xLc [7] (xRg1 (xaCons (xFz 2 (xVar 5)) xaNil)) (gN 2 7) (fun r => .ok true r) (xFz 2 (x2 idxA (xVar 2) (xCF f_l_draw (xaCons (xAr 2 (xVar 0)) (xaCons (xFz 2 (xD (.int 26))) xaNil)))))
def l_names_c2 : X1 := xLc [9] (xIt (xFz 2 (xVar 2))) (gN 2 9) (fun r => .ok true r) (xFz 2 (x2 (binA .Add) (xSl (xVar 6) none (some (xNeg (xD (.int 1))))) (xVar 9)))
def l_names_c3 : X1 := xLc [10] (xIt (xFz 2 (xVar 8))) (gN 2 10) (xtB (x2 (fun p q => bl? (cmpA .NotIn p q)) (xVar 10) (xVar 3))) (xFz 2 (xVar 10))
def l_names_b1 : X2 := (sSeq (sSet 2 5 (x2 (binA .Add) (xD (.int 1)) (x2 (binA .Mult) (xCF f_l_draw (xaCons (xAr 2 (xVar 0)) (xaCons (xFz 2 (xD (.int 2))) xaNil))) (xCF f_l_draw (xaCons (xAr 2 (xVar 0)) (xaCons (xFz 2 (xD (.int 8))) xaNil)))))) (sSeq (sSet 2 6 (xMe (MI.T .join) (MI.f .join) (xD (.str "")) (xaCons (xFz 2 l_names_c1) xaNil))) (sSeq (sSet 2 8 (x2 (binA .Add) (xLst (xaCons (xFz 2 (xVar 6)) xaNil)) l_names_c2)) (sSeq (sDrop (xMe (MI.T .app) (MI.f .app) (xVar 3) (xaCons (xFz 2 (x2 idxA l_names_c3 (xD (.int 0)))) xaNil))) sNx))))
def l_names_f1 : X2 := sFor (xRg1 (xaCons (xFz 2 (xVar 1)) xaNil)) (gN 2 4) l_names_b1
def b_l_names : X2 := (sSeq (sSet 2 2 (xD (.str "abcdefghijklmnopqrstuvwxyz"))) (sSeq (sSet 2 3 (xLst xaNil)) (sSeq l_names_f1 (sSeq (sRet (xVar 3)) sNx))))
theorem e_l_names : cB (ctxF n_l_names s_l_names 2 nm_l_names) 60 (defBody s_l_names) = b_l_names := by kernel_rfl
theorem sem_l_names (as : Sn.Env) (h : as.length = 2) : f_l_names.sem as = finE as (b_l_names (as ++ [none, none, none, none, none, none, none, none, none])) := by
  show semF (ctxF n_l_names s_l_names 2 nm_l_names) 60 (defBody s_l_names) as = _
  unfold semF
  rw [if_pos (show as.length = (ctxF n_l_names s_l_names 2 nm_l_names).ar from h), e_l_names]
  rfl
abbrev s_l_steps : Stmt := topS 23
abbrev n_l_steps : List Str := ["_law_pool_here", "_law_marks_here", "_law_found", "_law_more", "_law_k", "_law_mark", "_law_deed"]
theorem sc_l_steps : FnScope n_l_steps ["_law_pool_here", "_law_marks_here"] (defScope s_l_steps) := ⟨rfl, rfl, rfl, by decide +kernel, rfl, by decide +kernel, by decide +kernel⟩
abbrev nm_l_steps : Nm := ⟨[("_law_draw", f_l_draw)], ["len", "range"], [], [], []⟩
def f_l_steps : Fn := fnF n_l_steps s_l_steps 2 [true, false] nm_l_steps
def l_steps_b1 : X2 := (sSeq (sSet 2 6 (x2 idxA (xLst (xaCons (xFz 2 (xD (.str "read"))) (xaCons (xFz 2 (xD (.str "read"))) (xaCons (xFz 2 (xD (.str "read"))) (xaCons (xFz 2 (xD (.str "write"))) (xaCons (xFz 2 (xD (.str "write"))) (xaCons (xFz 2 (xD (.str "ask"))) xaNil))))))) (xCF f_l_draw (xaCons (xAr 2 (xVar 0)) (xaCons (xFz 2 (xD (.int 6))) xaNil))))) (sSeq (sDrop (xMe (MI.T .ins) (MI.f .ins) (xVar 2) (xaCons (xFz 2 (xCF f_l_draw (xaCons (xAr 2 (xVar 0)) (xaCons (xFz 2 (x2 (binA .Add) (xCB (BI.f .len) (xaCons (xAr 2 (xVar 2)) xaNil)) (xD (.int 1)))) xaNil)))) (xaCons (xFz 2 (xTup (xaCons (xFz 2 (xVar 6)) (xaCons (xFz 2 (xVar 5)) xaNil)))) xaNil)))) sNx))
def l_steps_f1 : X2 := sFor (xIt (xFz 2 (x2 (binA .Add) (xVar 1) (xVar 3)))) (gN 2 5) l_steps_b1
def l_steps_c1 : X1 := xLc [4] (xRg1 (xaCons (xFz 2 (xCF f_l_draw (xaCons (xAr 2 (xVar 0)) (xaCons (xFz 2 (xD (.int 5))) xaNil)))) xaNil)) (gN 2 4) (fun r => .ok true r) (xFz 2 (x2 idxA (xVar 1) (xCF f_l_draw (xaCons (xAr 2 (xVar 0)) (xaCons (xFz 2 (xCB (BI.f .len) (xaCons (xAr 2 (xVar 1)) xaNil))) xaNil)))))
def b_l_steps : X2 := (sSeq (sSet 2 2 (xLst xaNil)) (sSeq (sSet 2 3 l_steps_c1) (sSeq l_steps_f1 (sSeq (sRet (xVar 2)) sNx))))
theorem e_l_steps : cB (ctxF n_l_steps s_l_steps 2 nm_l_steps) 60 (defBody s_l_steps) = b_l_steps := by kernel_rfl
theorem sem_l_steps (as : Sn.Env) (h : as.length = 2) : f_l_steps.sem as = finE as (b_l_steps (as ++ [none, none, none, none, none])) := by
  show semF (ctxF n_l_steps s_l_steps 2 nm_l_steps) 60 (defBody s_l_steps) as = _
  unfold semF
  rw [if_pos (show as.length = (ctxF n_l_steps s_l_steps 2 nm_l_steps).ar from h), e_l_steps]
  rfl
abbrev s_l_book : Stmt := topS 24
abbrev n_l_book : List Str := ["_law_pool_here", "_law_most_kinds", "_law_most_dealings", "_law_names_here", "_law_kinds", "_law_title", "_law_dealings", "_law_marks_here", "_law_letters", "_law_mark"]
theorem sc_l_book : FnScope n_l_book ["_law_pool_here", "_law_most_kinds", "_law_most_dealings"] (defScope s_l_book) := ⟨rfl, rfl, rfl, by decide +kernel, rfl, by decide +kernel, by decide +kernel⟩
abbrev nm_l_book : Nm := ⟨[("_law_draw", f_l_draw), ("_law_marks", f_l_marks), ("_law_names", f_l_names), ("_law_steps", f_l_steps)], ["len"], [], [], []⟩
def f_l_book : Fn := fnF n_l_book s_l_book 3 [true, false, false] nm_l_book
def l_book_c1 : X1 := xLc [9] (xIt (xFz 3 (xVar 7))) (gN 3 9) (fun r => .ok true r) (xFz 3 (xTup (xaCons (xFz 3 (xVar 9)) (xaCons (xFz 3 (x2 idxA (xVar 3) (xCF f_l_draw (xaCons (xAr 3 (xVar 0)) (xaCons (xFz 3 (xCB (BI.f .len) (xaCons (xAr 3 (xVar 3)) xaNil))) xaNil))))) xaNil))))
def l_book_b1 : X2 := (sSeq (sSet 3 7 (xCF f_l_marks (xaCons (xAr 3 (xVar 0)) (xaCons (xFz 3 (x2 (binA .Add) (xD (.int 1)) (xCF f_l_draw (xaCons (xAr 3 (xVar 0)) (xaCons (xFz 3 (xD (.int 4))) xaNil))))) xaNil)))) (sSeq (sSet 3 8 l_book_c1) (sSeq (sDrop (xMe (MI.T .app) (MI.f .app) (xVar 6) (xaCons (xFz 3 (xTup (xaCons (xFz 3 (xVar 5)) (xaCons (xFz 3 (xVar 8)) (xaCons (xFz 3 (xCF f_l_steps (xaCons (xAr 3 (xVar 0)) (xaCons (xFz 3 (xVar 7)) xaNil)))) xaNil))))) xaNil))) sNx)))
def l_book_f1 : X2 := sFor (xIt (xFz 3 (xCF f_l_names (xaCons (xAr 3 (xVar 0)) (xaCons (xFz 3 (x2 (binA .Add) (xD (.int 1)) (xCF f_l_draw (xaCons (xAr 3 (xVar 0)) (xaCons (xFz 3 (xVar 2)) xaNil))))) xaNil))))) (gN 3 5) l_book_b1
def l_book_c2 : X1 := xLc [5] (xIt (xFz 3 (xVar 3))) (gN 3 5) (fun r => .ok true r) (xFz 3 (xTup (xaCons (xFz 3 (xVar 5)) (xaCons (xFz 3 (x2 (fun p q => bl? (cmpA .Gt p q)) (xCF f_l_draw (xaCons (xAr 3 (xVar 0)) (xaCons (xFz 3 (xD (.int 3))) xaNil))) (xD (.int 0)))) xaNil))))
def b_l_book : X2 := (sSeq (sSet 3 3 (xCF f_l_names (xaCons (xAr 3 (xVar 0)) (xaCons (xFz 3 (x2 (binA .Add) (xD (.int 1)) (xCF f_l_draw (xaCons (xAr 3 (xVar 0)) (xaCons (xFz 3 (xVar 1)) xaNil))))) xaNil)))) (sSeq (sSet 3 4 l_book_c2) (sSeq (sSet 3 6 (xLst xaNil)) (sSeq l_book_f1 (sSeq (sRet (xTup (xaCons (xFz 3 (xVar 4)) (xaCons (xFz 3 (xVar 6)) xaNil)))) sNx)))))
theorem e_l_book : cB (ctxF n_l_book s_l_book 3 nm_l_book) 60 (defBody s_l_book) = b_l_book := by kernel_rfl
theorem sem_l_book (as : Sn.Env) (h : as.length = 3) : f_l_book.sem as = finE as (b_l_book (as ++ [none, none, none, none, none, none, none])) := by
  show semF (ctxF n_l_book s_l_book 3 nm_l_book) 60 (defBody s_l_book) as = _
  unfold semF
  rw [if_pos (show as.length = (ctxF n_l_book s_l_book 3 nm_l_book).ar from h), e_l_book]
  rfl
abbrev s_l_pool : Stmt := topS 25
abbrev n_l_pool : List Str := ["_law_script", "_law_k", "_law_cell", "_law_size", "_law_mixed"]
theorem sc_l_pool : FnScope n_l_pool ["_law_script", "_law_k"] (defScope s_l_pool) := ⟨rfl, rfl, rfl, by decide +kernel, rfl, by decide +kernel, by decide +kernel⟩
abbrev nm_l_pool : Nm := ⟨[], ["int", "len", "max"], [], [], []⟩
def f_l_pool : Fn := fnF n_l_pool s_l_pool 2 [false, false] nm_l_pool
def b_l_pool : X2 := (sSeq (sSet 2 2 (xD (.int 0))) (sSeq (sIf (xtB (x2 (fun p q => bl? (cmpA .Lt p q)) (xVar 1) (xCB (BI.f .len) (xaCons (xAr 2 (xVar 0)) xaNil)))) (sSeq (sSet 2 2 (x2 idxA (xVar 0) (xVar 1))) sNx) sNx) (sSeq (sSet 2 3 (xCB (BI.f .max) (xaCons (xAr 2 (xVar 2)) (xaCons (xAr 2 (x2 (binA .Sub) (xNeg (xD (.int 1))) (xVar 2))) xaNil)))) (sSeq (sSet 2 4 (x2 (binA .Mod) (x2 (binA .Mult) (x2 (binA .Add) (x2 (binA .Add) (x2 (binA .Add) (x2 (binA .Mod) (xVar 3) (xD (.int 2147483629))) (x2 (binA .Mult) (x2 (binA .Mult) (xD (.int 7919)) (xVar 1)) (xVar 1))) (x2 (binA .Mult) (xD (.int 31)) (xVar 1))) (xD (.int 17))) (xD (.int 48271))) (xD (.int 2147483647)))) (sSeq (sRet (xLst (xaCons (xFz 2 (x2 (binA .Mult) (xVar 3) (xCB (BI.f .int) (xaCons (xAr 2 (x2 (fun p q => bl? (cmpA .GtE p q)) (xVar 3) (x2 (binA .Pow) (xD (.int 10)) (xD (.int 18))))) xaNil)))) (xaCons (xFz 2 (xVar 4)) xaNil)))) sNx)))))
theorem e_l_pool : cB (ctxF n_l_pool s_l_pool 2 nm_l_pool) 60 (defBody s_l_pool) = b_l_pool := by kernel_rfl
theorem sem_l_pool (as : Sn.Env) (h : as.length = 2) : f_l_pool.sem as = finE as (b_l_pool (as ++ [none, none, none])) := by
  show semF (ctxF n_l_pool s_l_pool 2 nm_l_pool) 60 (defBody s_l_pool) as = _
  unfold semF
  rw [if_pos (show as.length = (ctxF n_l_pool s_l_pool 2 nm_l_pool).ar from h), e_l_pool]
  rfl
abbrev s_l_alone_written : Stmt := topS 18
abbrev n_l_alone_written : List Str := ["_law_tome", "_law_dealing", "_law_many", "_law_kinds", "_law_deed", "_law_mark"]
theorem sc_l_alone_written : FnScope n_l_alone_written ["_law_tome", "_law_dealing"] (defScope s_l_alone_written) := ⟨rfl, rfl, rfl, by decide +kernel, rfl, by decide +kernel, by decide +kernel⟩
abbrev nm_l_alone_written : Nm := ⟨[], ["dict"], [], [], []⟩
def f_l_alone_written : Fn := fnF n_l_alone_written s_l_alone_written 2 [false, false] nm_l_alone_written
def l_alone_written_c1 : X1 := xLc [4, 5] (xIt (xFz 2 (x2 idxA (xVar 1) (xD (.int 2))))) (gT [(gN 2 4), (gN 2 5)]) (xtAnd (xtB (x2 (fun p q => bl? (cmpA .NotEq p q)) (xVar 4) (xD (.str "read")))) (xtNot (xtT (x2 idxA (xVar 2) (x2 idxA (xVar 3) (xVar 5)))))) (xFz 2 (x2 idxA (xVar 3) (xVar 5)))
def b_l_alone_written : X2 := (sSeq (sSet 2 2 (xCB (BI.f .dict) (xaCons (xAr 2 (x2 idxA (xVar 0) (xD (.int 0)))) xaNil))) (sSeq (sSet 2 3 (xCB (BI.f .dict) (xaCons (xAr 2 (x2 idxA (xVar 1) (xD (.int 1)))) xaNil))) (sSeq (sRet l_alone_written_c1) sNx)))
theorem e_l_alone_written : cB (ctxF n_l_alone_written s_l_alone_written 2 nm_l_alone_written) 60 (defBody s_l_alone_written) = b_l_alone_written := by kernel_rfl
theorem sem_l_alone_written (as : Sn.Env) (h : as.length = 2) : f_l_alone_written.sem as = finE as (b_l_alone_written (as ++ [none, none, none, none])) := by
  show semF (ctxF n_l_alone_written s_l_alone_written 2 nm_l_alone_written) 60 (defBody s_l_alone_written) as = _
  unfold semF
  rw [if_pos (show as.length = (ctxF n_l_alone_written s_l_alone_written 2 nm_l_alone_written).ar from h), e_l_alone_written]
  rfl
abbrev s_l_copied : Stmt := topS 17
abbrev n_l_copied : List Str := ["_law_tome", "_law_title", "_law_letters", "_law_steps_here"]
theorem sc_l_copied : FnScope n_l_copied ["_law_tome"] (defScope s_l_copied) := ⟨rfl, rfl, rfl, by decide +kernel, rfl, by decide +kernel, by decide +kernel⟩
abbrev nm_l_copied : Nm := ⟨[], ["list"], [], [], []⟩
def f_l_copied : Fn := fnF n_l_copied s_l_copied 1 [false] nm_l_copied
def l_copied_c1 : X1 := xLc [1, 2, 3] (xIt (xFz 1 (x2 idxA (xVar 0) (xD (.int 1))))) (gT [(gN 1 1), (gN 1 2), (gN 1 3)]) (fun r => .ok true r) (xFz 1 (xTup (xaCons (xFz 1 (xVar 1)) (xaCons (xFz 1 (xCB (BI.f .list) (xaCons (xAr 1 (xVar 2)) xaNil))) (xaCons (xFz 1 (xCB (BI.f .list) (xaCons (xAr 1 (xVar 3)) xaNil))) xaNil)))))
def b_l_copied : X2 := (sSeq (sRet (xTup (xaCons (xFz 1 (xCB (BI.f .list) (xaCons (xAr 1 (x2 idxA (xVar 0) (xD (.int 0)))) xaNil))) (xaCons (xFz 1 l_copied_c1) xaNil)))) sNx)
theorem e_l_copied : cB (ctxF n_l_copied s_l_copied 1 nm_l_copied) 60 (defBody s_l_copied) = b_l_copied := by kernel_rfl
theorem sem_l_copied (as : Sn.Env) (h : as.length = 1) : f_l_copied.sem as = finE as (b_l_copied (as ++ [none, none, none])) := by
  show semF (ctxF n_l_copied s_l_copied 1 nm_l_copied) 60 (defBody s_l_copied) as = _
  unfold semF
  rw [if_pos (show as.length = (ctxF n_l_copied s_l_copied 1 nm_l_copied).ar from h), e_l_copied]
  rfl
abbrev s_l_is_whole : Stmt := topS 19
abbrev n_l_is_whole : List Str := ["_law_thing"]
theorem sc_l_is_whole : FnScope n_l_is_whole ["_law_thing"] (defScope s_l_is_whole) := ⟨rfl, rfl, rfl, by decide +kernel, rfl, by decide +kernel, by decide +kernel⟩
abbrev nm_l_is_whole : Nm := ⟨[], ["bool", "int", "isinstance"], [], [], []⟩
def f_l_is_whole : Fn := fnF n_l_is_whole s_l_is_whole 1 [false] nm_l_is_whole
def b_l_is_whole : X2 := (sSeq (sRet (xAnd (xCB (BI.f .isi) (xaCons (xAr 1 (xVar 0)) (xaCons (xAr 1 (xD (.val (.ty "int")))) xaNil))) (xNot (xCB (BI.f .isi) (xaCons (xAr 1 (xVar 0)) (xaCons (xAr 1 (xD (.val (.ty "bool")))) xaNil)))))) sNx)
theorem e_l_is_whole : cB (ctxF n_l_is_whole s_l_is_whole 1 nm_l_is_whole) 60 (defBody s_l_is_whole) = b_l_is_whole := by kernel_rfl
theorem sem_l_is_whole (as : Sn.Env) (h : as.length = 1) : f_l_is_whole.sem as = finE as (b_l_is_whole (as ++ [])) := by
  show semF (ctxF n_l_is_whole s_l_is_whole 1 nm_l_is_whole) 60 (defBody s_l_is_whole) as = _
  unfold semF
  rw [if_pos (show as.length = (ctxF n_l_is_whole s_l_is_whole 1 nm_l_is_whole).ar from h), e_l_is_whole]
  rfl
abbrev s_has_many : Stmt := topS 8
abbrev n_has_many : List Str := ["book", "kind"]
theorem sc_has_many : FnScope n_has_many ["book", "kind"] (defScope s_has_many) := ⟨rfl, rfl, rfl, by decide +kernel, rfl, by decide +kernel, by decide +kernel⟩
abbrev nm_has_many : Nm := ⟨[], ["dict"], [], [], []⟩
def f_has_many : Fn := fnF n_has_many s_has_many 2 [false, false] nm_has_many
def b_has_many : X2 := (sSeq (sRet (x2 idxA (xCB (BI.f .dict) (xaCons (xAr 2 (x2 idxA (xVar 0) (xD (.int 0)))) xaNil)) (xVar 1))) sNx)
theorem e_has_many : cB (ctxF n_has_many s_has_many 2 nm_has_many) 60 (defBody s_has_many) = b_has_many := by kernel_rfl
theorem sem_has_many (as : Sn.Env) (h : as.length = 2) : f_has_many.sem as = finE as (b_has_many (as ++ [])) := by
  show semF (ctxF n_has_many s_has_many 2 nm_has_many) 60 (defBody s_has_many) as = _
  unfold semF
  rw [if_pos (show as.length = (ctxF n_has_many s_has_many 2 nm_has_many).ar from h), e_has_many]
  rfl
abbrev s_dealing_copied : Stmt := topS 5
abbrev n_dealing_copied : List Str := ["dealing", "name", "letters", "steps"]
theorem sc_dealing_copied : FnScope n_dealing_copied ["dealing"] (defScope s_dealing_copied) := ⟨rfl, rfl, rfl, by decide +kernel, rfl, by decide +kernel, by decide +kernel⟩
abbrev nm_dealing_copied : Nm := ⟨[], ["list"], [], [], []⟩
def f_dealing_copied : Fn := fnF n_dealing_copied s_dealing_copied 1 [false] nm_dealing_copied
def b_dealing_copied : X2 := (sSeq (sPat 1 (gT [(gN 1 1), (gN 1 2), (gN 1 3)]) (xVar 0)) (sSeq (sRet (xTup (xaCons (xFz 1 (xVar 1)) (xaCons (xFz 1 (xCB (BI.f .list) (xaCons (xAr 1 (xVar 2)) xaNil))) (xaCons (xFz 1 (xCB (BI.f .list) (xaCons (xAr 1 (xVar 3)) xaNil))) xaNil))))) sNx))
theorem e_dealing_copied : cB (ctxF n_dealing_copied s_dealing_copied 1 nm_dealing_copied) 60 (defBody s_dealing_copied) = b_dealing_copied := by kernel_rfl
theorem sem_dealing_copied (as : Sn.Env) (h : as.length = 1) : f_dealing_copied.sem as = finE as (b_dealing_copied (as ++ [none, none, none])) := by
  show semF (ctxF n_dealing_copied s_dealing_copied 1 nm_dealing_copied) 60 (defBody s_dealing_copied) as = _
  unfold semF
  rw [if_pos (show as.length = (ctxF n_dealing_copied s_dealing_copied 1 nm_dealing_copied).ar from h), e_dealing_copied]
  rfl
abbrev s_number_by : Stmt := topS 6
abbrev n_number_by : List Str := ["book", "name", "numbers", "at", "dealing", "e"]
theorem sc_number_by : FnScope n_number_by ["book", "name"] (defScope s_number_by) := ⟨rfl, rfl, rfl, by decide +kernel, rfl, by decide +kernel, by decide +kernel⟩
abbrev nm_number_by : Nm := ⟨[], ["KeyError", "enumerate", "isinstance", "str"], [], [], []⟩
def f_number_by : Fn := fnF n_number_by s_number_by 2 [false, false] nm_number_by
def number_by_b1 : X2 := (sSeq (sSub 2 (xFz 2 (xVar 3)) (x2 idxA (xVar 4) (xD (.int 0)))) sNx)
def number_by_f1 : X2 := sFor (xEn (xaCons (xFz 2 (x2 idxA (xVar 0) (xD (.int 1)))) xaNil)) (gT [(gN 2 3), (gN 2 4)]) number_by_b1
def b_number_by : X2 := (sSeq (sSet 2 2 xDic0) (sSeq number_by_f1 (sSeq (sIf (xtNot (xtT (xCB (BI.f .isi) (xaCons (xAr 2 (xVar 1)) (xaCons (xAr 2 (xD (.val (.ty "str")))) xaNil))))) (sSeq sNo sNx) sNx) (sSeq (sThru (sSeq (sRet (x2 idxA (xVar 2) (xVar 1))) sNx)) sNx))))
theorem e_number_by : cB (ctxF n_number_by s_number_by 2 nm_number_by) 60 (defBody s_number_by) = b_number_by := by kernel_rfl
theorem sem_number_by (as : Sn.Env) (h : as.length = 2) : f_number_by.sem as = finE as (b_number_by (as ++ [none, none, none, none])) := by
  show semF (ctxF n_number_by s_number_by 2 nm_number_by) 60 (defBody s_number_by) as = _
  unfold semF
  rw [if_pos (show as.length = (ctxF n_number_by s_number_by 2 nm_number_by).ar from h), e_number_by]
  rfl
abbrev s_dealing_by : Stmt := topS 7
abbrev n_dealing_by : List Str := ["book", "name"]
theorem sc_dealing_by : FnScope n_dealing_by ["book", "name"] (defScope s_dealing_by) := ⟨rfl, rfl, rfl, by decide +kernel, rfl, by decide +kernel, by decide +kernel⟩
abbrev nm_dealing_by : Nm := ⟨[("dealing_copied", f_dealing_copied), ("number_by", f_number_by)], [], [], [], []⟩
def f_dealing_by : Fn := fnF n_dealing_by s_dealing_by 2 [false, false] nm_dealing_by
def b_dealing_by : X2 := (sSeq (sRet (xCF f_dealing_copied (xaCons (xFz 2 (x2 idxA (x2 idxA (xVar 0) (xD (.int 1))) (xCF f_number_by (xaCons (xFz 2 (xVar 0)) (xaCons (xFz 2 (xVar 1)) xaNil))))) xaNil))) sNx)
theorem e_dealing_by : cB (ctxF n_dealing_by s_dealing_by 2 nm_dealing_by) 60 (defBody s_dealing_by) = b_dealing_by := by kernel_rfl
theorem sem_dealing_by (as : Sn.Env) (h : as.length = 2) : f_dealing_by.sem as = finE as (b_dealing_by (as ++ [])) := by
  show semF (ctxF n_dealing_by s_dealing_by 2 nm_dealing_by) 60 (defBody s_dealing_by) as = _
  unfold semF
  rw [if_pos (show as.length = (ctxF n_dealing_by s_dealing_by 2 nm_dealing_by).ar from h), e_dealing_by]
  rfl
abbrev s_letters_together : Stmt := topS 12
abbrev n_letters_together : List Str := ["book", "name", "found", "first", "letter", "kind", "head"]
theorem sc_letters_together : FnScope n_letters_together ["book", "name"] (defScope s_letters_together) := ⟨rfl, rfl, rfl, by decide +kernel, rfl, by decide +kernel, by decide +kernel⟩
abbrev nm_letters_together : Nm := ⟨[("dealing_by", f_dealing_by), ("has_many", f_has_many)], [], [], [], []⟩
def f_letters_together : Fn := fnF n_letters_together s_letters_together 2 [false, false] nm_letters_together
def letters_together_b1 : X2 := (sSeq (sSet 2 6 (xVar 4)) (sSeq (sIf (xtNot (xtT (xCF f_has_many (xaCons (xFz 2 (xVar 0)) (xaCons (xFz 2 (xVar 5)) xaNil))))) (sSeq (sSet 2 6 (xMe (MI.T .sdf) (MI.f .sdf) (xVar 3) (xaCons (xFz 2 (xVar 5)) (xaCons (xFz 2 (xVar 4)) xaNil)))) sNx) sNx) (sSeq (sDrop (xSdA 2 6 4)) sNx)))
def letters_together_f1 : X2 := sFor (xIt (xFz 2 (x2 idxA (xCF f_dealing_by (xaCons (xFz 2 (xVar 0)) (xaCons (xFz 2 (xVar 1)) xaNil))) (xD (.int 1))))) (gT [(gN 2 4), (gN 2 5)]) letters_together_b1
def b_letters_together : X2 := (sSeq (sSet 2 2 xDic0) (sSeq (sSet 2 3 xDic0) (sSeq letters_together_f1 (sSeq (sRet (xVar 2)) sNx))))
theorem e_letters_together : cB (ctxF n_letters_together s_letters_together 2 nm_letters_together) 60 (defBody s_letters_together) = b_letters_together := by kernel_rfl
theorem sem_letters_together (as : Sn.Env) (h : as.length = 2) : f_letters_together.sem as = finE as (b_letters_together (as ++ [none, none, none, none, none])) := by
  show semF (ctxF n_letters_together s_letters_together 2 nm_letters_together) 60 (defBody s_letters_together) as = _
  unfold semF
  rw [if_pos (show as.length = (ctxF n_letters_together s_letters_together 2 nm_letters_together).ar from h), e_letters_together]
  rfl
abbrev s_places_of : Stmt := topS 13
abbrev n_places_of : List Str := ["book", "name", "dealing", "kinds", "found", "head", "letters", "deeds", "deed", "letter", "reads", "writes"]
theorem sc_places_of : FnScope n_places_of ["book", "name"] (defScope s_places_of) := ⟨rfl, rfl, rfl, by decide +kernel, rfl, by decide +kernel, by decide +kernel⟩
abbrev nm_places_of : Nm := ⟨[("dealing_by", f_dealing_by), ("letters_together", f_letters_together)], ["any", "dict"], [("READS", (.rt [(.str "read"), (.str "ask")])), ("WRITES", (.rt [(.str "write"), (.str "ask")]))], [], []⟩
def f_places_of : Fn := fnF n_places_of s_places_of 2 [false, false] nm_places_of
def places_of_c1 : X1 := xLc [8] (xIt (xFz 2 (xVar 7))) (gN 2 8) (fun r => .ok true r) (xFz 2 (x2 (fun p q => bl? (cmpA .In p q)) (xVar 8) (xD (.rt [(.str "write"), (.str "ask")]))))
def places_of_c2 : X1 := xLc [8] (xIt (xFz 2 (xVar 7))) (gN 2 8) (fun r => .ok true r) (xFz 2 (x2 (fun p q => bl? (cmpA .In p q)) (xVar 8) (xD (.rt [(.str "read"), (.str "ask")]))))
def places_of_c3 : X1 := xLc [8, 9] (xIt (xFz 2 (x2 idxA (xVar 2) (xD (.int 2))))) (gT [(gN 2 8), (gN 2 9)]) (xtB (x2 (fun p q => bl? (cmpA .In p q)) (xVar 9) (xVar 6))) (xFz 2 (xVar 8))
def places_of_b1 : X2 := (sSeq (sSet 2 7 places_of_c3) (sSeq (sSet 2 10 (xCB (BI.f .any) (xaCons (xAr 2 places_of_c2) xaNil))) (sSeq (sSet 2 11 (xCB (BI.f .any) (xaCons (xAr 2 places_of_c1) xaNil))) (sSeq (sDrop (xMe (MI.T .app) (MI.f .app) (xVar 4) (xaCons (xFz 2 (xTup (xaCons (xFz 2 (xVar 5)) (xaCons (xFz 2 (x2 idxA (xVar 3) (xVar 5))) (xaCons (xFz 2 (xVar 10)) (xaCons (xFz 2 (xVar 11)) xaNil)))))) xaNil))) sNx))))
def places_of_f1 : X2 := sFor (xItm (xCF f_letters_together (xaCons (xFz 2 (xVar 0)) (xaCons (xFz 2 (xVar 1)) xaNil)))) (gT [(gN 2 5), (gN 2 6)]) places_of_b1
def b_places_of : X2 := (sSeq (sSet 2 2 (xCF f_dealing_by (xaCons (xFz 2 (xVar 0)) (xaCons (xFz 2 (xVar 1)) xaNil)))) (sSeq (sSet 2 3 (xCB (BI.f .dict) (xaCons (xAr 2 (x2 idxA (xVar 2) (xD (.int 1)))) xaNil))) (sSeq (sSet 2 4 (xLst xaNil)) (sSeq places_of_f1 (sSeq (sRet (xVar 4)) sNx)))))
theorem e_places_of : cB (ctxF n_places_of s_places_of 2 nm_places_of) 60 (defBody s_places_of) = b_places_of := by kernel_rfl
theorem sem_places_of (as : Sn.Env) (h : as.length = 2) : f_places_of.sem as = finE as (b_places_of (as ++ [none, none, none, none, none, none, none, none, none, none])) := by
  show semF (ctxF n_places_of s_places_of 2 nm_places_of) 60 (defBody s_places_of) as = _
  unfold semF
  rw [if_pos (show as.length = (ctxF n_places_of s_places_of 2 nm_places_of).ar from h), e_places_of]
  rfl
abbrev s_lone_writes : Stmt := topS 14
abbrev n_lone_writes : List Str := ["book", "name", "letter", "kind", "reads", "writes"]
theorem sc_lone_writes : FnScope n_lone_writes ["book", "name"] (defScope s_lone_writes) := ⟨rfl, rfl, rfl, by decide +kernel, rfl, by decide +kernel, by decide +kernel⟩
abbrev nm_lone_writes : Nm := ⟨[("has_many", f_has_many), ("places_of", f_places_of)], [], [], [], []⟩
def f_lone_writes : Fn := fnF n_lone_writes s_lone_writes 2 [false, false] nm_lone_writes
def lone_writes_c1 : X1 := xLc [2, 3, 4, 5] (xIt (xFz 2 (xCF f_places_of (xaCons (xFz 2 (xVar 0)) (xaCons (xFz 2 (xVar 1)) xaNil))))) (gT [(gN 2 2), (gN 2 3), (gN 2 4), (gN 2 5)]) (xtAnd (xtT (xVar 5)) (xtNot (xtT (xCF f_has_many (xaCons (xFz 2 (xVar 0)) (xaCons (xFz 2 (xVar 3)) xaNil)))))) (xFz 2 (xVar 3))
def b_lone_writes : X2 := (sSeq (sRet lone_writes_c1) sNx)
theorem e_lone_writes : cB (ctxF n_lone_writes s_lone_writes 2 nm_lone_writes) 60 (defBody s_lone_writes) = b_lone_writes := by kernel_rfl
theorem sem_lone_writes (as : Sn.Env) (h : as.length = 2) : f_lone_writes.sem as = finE as (b_lone_writes (as ++ [none, none, none, none])) := by
  show semF (ctxF n_lone_writes s_lone_writes 2 nm_lone_writes) 60 (defBody s_lone_writes) as = _
  unfold semF
  rw [if_pos (show as.length = (ctxF n_lone_writes s_lone_writes 2 nm_lone_writes).ar from h), e_lone_writes]
  rfl
abbrev s_beside : Stmt := topS 15
abbrev n_beside : List Str := ["book", "name", "own", "found", "number", "dealing", "kind"]
theorem sc_beside : FnScope n_beside ["book", "name"] (defScope s_beside) := ⟨rfl, rfl, rfl, by decide +kernel, rfl, by decide +kernel, by decide +kernel⟩
abbrev nm_beside : Nm := ⟨[("lone_writes", f_lone_writes)], ["any", "enumerate"], [], [], []⟩
def f_beside : Fn := fnF n_beside s_beside 2 [false, false] nm_beside
def beside_c1 : X1 := xLc [6] (xIt (xFz 2 (xCF f_lone_writes (xaCons (xFz 2 (xVar 0)) (xaCons (xFz 2 (x2 idxA (xVar 5) (xD (.int 0)))) xaNil))))) (gN 2 6) (fun r => .ok true r) (xFz 2 (x2 (fun p q => bl? (cmpA .In p q)) (xVar 6) (xVar 2)))
def beside_b1 : X2 := (sSeq (sIf (xtNot (xtT (xCB (BI.f .any) (xaCons (xAr 2 beside_c1) xaNil)))) (sSeq (sDrop (xMe (MI.T .app) (MI.f .app) (xVar 3) (xaCons (xFz 2 (xVar 4)) xaNil))) sNx) sNx) sNx)
def beside_f1 : X2 := sFor (xEn (xaCons (xFz 2 (x2 idxA (xVar 0) (xD (.int 1)))) xaNil)) (gT [(gN 2 4), (gN 2 5)]) beside_b1
def b_beside : X2 := (sSeq (sSet 2 2 (xCF f_lone_writes (xaCons (xFz 2 (xVar 0)) (xaCons (xFz 2 (xVar 1)) xaNil)))) (sSeq (sSet 2 3 (xLst xaNil)) (sSeq beside_f1 (sSeq (sRet (xVar 3)) sNx))))
theorem e_beside : cB (ctxF n_beside s_beside 2 nm_beside) 60 (defBody s_beside) = b_beside := by kernel_rfl
theorem sem_beside (as : Sn.Env) (h : as.length = 2) : f_beside.sem as = finE as (b_beside (as ++ [none, none, none, none, none])) := by
  show semF (ctxF n_beside s_beside 2 nm_beside) 60 (defBody s_beside) as = _
  unfold semF
  rw [if_pos (show as.length = (ctxF n_beside s_beside 2 nm_beside).ar from h), e_beside]
  rfl
abbrev s_l_right : Stmt := topS 26
abbrev n_l_right : List Str := ["_law_tome", "_law_handed", "_law_dealing", "_law_own", "_law_due", "_law_number", "_law_other", "_law_kind", "_law_turn", "_law_found", "_law_one"]
theorem sc_l_right : FnScope n_l_right ["_law_tome"] (defScope s_l_right) := ⟨rfl, rfl, rfl, by decide +kernel, rfl, by decide +kernel, by decide +kernel⟩
abbrev nm_l_right : Nm := ⟨[("_law_alone_written", f_l_alone_written), ("_law_copied", f_l_copied), ("_law_is_whole", f_l_is_whole), ("beside", f_beside)], ["all", "enumerate", "isinstance", "list", "range"], [], [(("beside", 0, ["name", "book"]), f_beside, (List.map Sum.inl [1, 0]))], ["_law_found"]⟩
def f_l_right : Fn := fnF n_l_right s_l_right 1 [false] nm_l_right
def l_right_c1 : X1 := xLcL 1 [10] 9 (gN 1 10) (fun r => .ok true r) (xFz 1 (xCF f_l_is_whole (xaCons (xFz 1 (xVar 10)) xaNil)))
def l_right_b1 : X2 := (sSeq (sSet 1 9 (xCF f_beside (xaCons (xFz 1 (xVar 1)) (xaCons (xFz 1 (x2 idxA (xVar 2) (xD (.int 0)))) xaNil)))) (sSeq (sIf (xtOr (xtNot (xtT (xCB (BI.f .isi) (xaCons (xAr 1 (xVar 9)) (xaCons (xAr 1 (xD (.val (.ty "list")))) xaNil))))) (xtOr (xtB (x2 (fun p q => bl? (cmpA .NotEq p q)) (xVar 9) (xVar 4))) (xtNot (xtT (xCB (BI.f .all) (xaCons (xAr 1 l_right_c1) xaNil)))))) (sSeq (sRet (xD (.bl false))) sNx) sNx) (sSeq (sDrop (xMe (MI.T .app) (MI.f .app) (xVar 9) (xaCons (xFz 1 (xD (.int 0))) xaNil))) sNx)))
def l_right_f1 : X2 := sFor (xRg1 (xaCons (xFz 1 (xD (.int 2))) xaNil)) (gN 1 8) l_right_b1
def l_right_c2 : X1 := xLc [7] (xIt (xFz 1 (xCF f_l_alone_written (xaCons (xFz 1 (xVar 0)) (xaCons (xFz 1 (xVar 6)) xaNil))))) (gN 1 7) (xtB (x2 (fun p q => bl? (cmpA .In p q)) (xVar 7) (xVar 3))) (xFz 1 (xVar 7))
def l_right_b2 : X2 := (sSeq (sIf (xtB (x2 (fun p q => bl? (cmpA .Eq p q)) l_right_c2 (xLst xaNil))) (sSeq (sDrop (xMe (MI.T .app) (MI.f .app) (xVar 4) (xaCons (xFz 1 (xVar 5)) xaNil))) sNx) sNx) sNx)
def l_right_f2 : X2 := sFor (xEn (xaCons (xFz 1 (x2 idxA (xVar 0) (xD (.int 1)))) xaNil)) (gT [(gN 1 5), (gN 1 6)]) l_right_b2
def l_right_b3 : X2 := (sSeq (sSet 1 3 (xCF f_l_alone_written (xaCons (xFz 1 (xVar 0)) (xaCons (xFz 1 (xVar 2)) xaNil)))) (sSeq (sSet 1 4 (xLst xaNil)) (sSeq l_right_f2 (sSeq l_right_f1 (sSeq (sIf (xtB (x2 (fun p q => bl? (cmpA .NotEq p q)) (xCFK f_beside (List.map Sum.inl [1, 0]) xaNil (xaCons (xFz 1 (x2 idxA (xVar 2) (xD (.int 0)))) (xaCons (xFz 1 (xVar 1)) xaNil))) (xVar 4))) (sSeq (sRet (xD (.bl false))) sNx) sNx) sNx)))))
def l_right_f3 : X2 := sFor (xIt (xFz 1 (x2 idxA (xVar 0) (xD (.int 1))))) (gN 1 2) l_right_b3
def b_l_right : X2 := (sSeq (sSet 1 1 (xCF f_l_copied (xaCons (xFz 1 (xVar 0)) xaNil))) (sSeq l_right_f3 (sSeq (sRet (x2 (fun p q => bl? (cmpA .Eq p q)) (xVar 1) (xVar 0))) sNx)))
theorem e_l_right : cB (ctxF n_l_right s_l_right 1 nm_l_right) 60 (defBody s_l_right) = b_l_right := by kernel_rfl
theorem sem_l_right (as : Sn.Env) (h : as.length = 1) : f_l_right.sem as = finE as (b_l_right (as ++ [none, none, none, none, none, none, none, none, none, none])) := by
  show semF (ctxF n_l_right s_l_right 1 nm_l_right) 60 (defBody s_l_right) as = _
  unfold semF
  rw [if_pos (show as.length = (ctxF n_l_right s_l_right 1 nm_l_right).ar from h), e_l_right]
  rfl
abbrev s_law : Stmt := topS 27
abbrev n_law : List Str := ["_law_script", "_law_k"]
theorem sc_law : FnScope n_law ["_law_script"] (defScope s_law) := ⟨rfl, rfl, rfl, by decide +kernel, rfl, by decide +kernel, by decide +kernel⟩
abbrev nm_law : Nm := ⟨[("_law_book", f_l_book), ("_law_pool", f_l_pool), ("_law_right", f_l_right)], ["len", "max", "min", "range"], [], [], []⟩
def f_law : Fn := fnF n_law s_law 1 [false] nm_law
def law_b1 : X2 := (sSeq (sIf (xtNot (xtT (xCF f_l_right (xaCons (xFz 1 (xCF f_l_book (xaCons (xAr 1 (xCF f_l_pool (xaCons (xFz 1 (xVar 0)) (xaCons (xFz 1 (xVar 1)) xaNil)))) (xaCons (xFz 1 (xD (.int 6))) (xaCons (xFz 1 (xD (.int 8))) xaNil))))) xaNil)))) (sSeq (sRet (xD (.bl false))) sNx) sNx) sNx)
def law_f1 : X2 := sFor (xRg1 (xaCons (xFz 1 (xCB (BI.f .max) (xaCons (xAr 1 (xD (.int 1))) (xaCons (xAr 1 (xCB (BI.f .min) (xaCons (xAr 1 (xCB (BI.f .len) (xaCons (xAr 1 (xVar 0)) xaNil))) (xaCons (xAr 1 (xD (.int 20))) xaNil)))) xaNil)))) xaNil)) (gN 1 1) law_b1
def b_law : X2 := (sSeq law_f1 (sSeq (sRet (xD (.bl true))) sNx))
theorem e_law : cB (ctxF n_law s_law 1 nm_law) 60 (defBody s_law) = b_law := by kernel_rfl
theorem sem_law (as : Sn.Env) (h : as.length = 1) : f_law.sem as = finE as (b_law (as ++ [none])) := by
  show semF (ctxF n_law s_law 1 nm_law) 60 (defBody s_law) as = _
  unfold semF
  rw [if_pos (show as.length = (ctxF n_law s_law 1 nm_law).ar from h), e_law]
  rfl
theorem draw1 (a b m : Int) (ha : 0 < a) (h0 : 0 < m) (h : m ≤ 1000000) : f_l_draw.sem [some (.l true [.int a, .int b]), some (.d (.int m))] = .ok (.d (.int (a % m))) [some (.l true [.int (a / m), .int b]), some (.d (.int m))] := by
  have hl := log2_small h0 h
  rw [sem_l_draw _ rfl]
  simp [b_l_draw, sSeq, sIf, sNx, sSet, sRet, sSub, subA, sDrop, sAug, sPat, xtB, xtT, xtNot, xtAnd, xtOr, x2, xVar, xD, xAnd, xOr, xNot, xNeg, xIf, xCh, xSl, xPart, slA, idxA, bind_ok, bind_ex, bind_no, Rv.at, cmpA, eqA, inA, bl?, truA, A.dc?, A.sq?, A.ls?, D.key, atI, ixN, binA, binI, asgV, toD, putD, putN, ownB, xFz, xAr, xaCons, xaNil, xTup, xLst, xDic0, allD, xCB, BI.f, atAll, lenA, maxA, minA, intA, strA, isiA, tyN, A.ty, Ty.isa, xCF, callX, spill, callT, slotsOf, argsOf, isV, backOf, finE, retOf, backE, isOb, A.own, gN, gT, gAll, ha, h0, hl]
theorem draw2 (b m : Int) (hb0 : 0 ≤ b) (hb : b < 2147483647) (h0 : 0 < m) (h : m ≤ 1000000) : f_l_draw.sem [some (.l true [.int 0, .int b]), some (.d (.int m))] = .ok (.d (.int ((b * 69621 + 7) % 2147483647 * ((b * 69621 + 7) % 2147483647) % 2147483629 / 32 % m))) [some (.l true [.int 0, .int ((b * 69621 + 7) % 2147483647)]), some (.d (.int m))] := by
  have h1 : 0 ≤ (b * 69621 + 7) % 2147483647 := Int.emod_nonneg _ (by decide)
  have h2 : (b * 69621 + 7) % 2147483647 < 2147483647 := Int.emod_lt_of_pos _ (by decide)
  have l32 : Nat.log2 32 < 9000 := log2_small (m := 32) (by decide) (by decide)
  rw [sem_l_draw _ rfl]
  generalize hq : (b * 69621 + 7) % 2147483647 = q at *
  have h3 : -18446744073709551616 < q := by omega
  have h4 : q < 18446744073709551616 := by omega
  simp [b_l_draw, sSeq, sIf, sNx, sSet, sRet, sSub, subA, sDrop, sAug, sPat, xtB, xtT, xtNot, xtAnd, xtOr, x2, xVar, xD, xAnd, xOr, xNot, xNeg, xIf, xCh, xSl, xPart, slA, idxA, bind_ok, bind_ex, bind_no, Rv.at, cmpA, eqA, inA, bl?, truA, A.dc?, A.sq?, A.ls?, D.key, atI, ixN, binA, binI, asgV, toD, putD, putN, ownB, xFz, xAr, xaCons, xaNil, xTup, xLst, xDic0, allD, xCB, BI.f, atAll, lenA, maxA, minA, intA, strA, isiA, tyN, A.ty, Ty.isa, xCF, callX, spill, callT, slotsOf, argsOf, isV, backOf, finE, retOf, backE, isOb, A.own, gN, gT, gAll, h0, hq, h3, h4, l32]
theorem draw_ok : DrawF f_l_draw := ⟨rfl, fun p m h0 h => by
  obtain ⟨a, b, ha, hb, hb'⟩ := p
  by_cases hz : 0 < a
  · have e := draw1 a b m hz h0 h
    simp only [Pool.l, Pool.v, Pool.n, hz, h0, and_self, if_true, dif_pos]
    exact e
  · have : a = 0 := by omega
    subst this
    have e := draw2 b m hb hb' h0 h
    simp only [Pool.l, Pool.v, Pool.n]
    rw [if_neg (by omega), dif_neg (by omega)]
    exact e⟩
theorem marks_body (p : Pool) (m : Int) (L : Str) (xs : List D) (k4 k5 : Option A) (h0 : 0 < L.length) (h1 : L.length ≤ 26) (hx : xs.length ≤ 1000) : ∃ (c : Nat) (p2 : Pool) (L2 : Str), c ∈ L.cps.toList ∧ L2.cps.toList = (L.cps.toList.filter fun x => decide (x ≠ c)) ∧ l_marks_b1 [p.l, some (.d (.int m)), some (.d (.str L)), some (.l true xs), k4, k5] = .ok .nx [Pool.l p2, some (.d (.int m)), some (.d (.str L2)), some (.l true (xs ++ [.str (ch c)])), k4, some (.d (.str (ch c)))] := by
  have h5 : L.length ≤ 100000 := by omega
  have hcf := cf_dr draw_ok (ar := 2) (i := 0) (p := p) (e := xCB (BI.f .len) (xaCons (xAr 2 (xVar 2)) xaNil)) (m := (L.length : Int)) (r1 := [p.l, some (.d (.int m)), some (.d (.str L)), some (.l true xs), k4, k5]) (r := [p.l, some (.d (.int m)), some (.d (.str L)), some (.l true xs), k4, k5]) rfl (by simp [sSeq, sIf, sNx, sSet, sRet, sSub, subA, sDrop, sAug, sPat, xtB, xtT, xtNot, xtAnd, xtOr, x2, xVar, xD, xAnd, xOr, xNot, xNeg, xIf, xCh, xSl, xPart, slA, idxA, bind_ok, bind_ex, bind_no, Rv.at, cmpA, eqA, inA, bl?, truA, A.dc?, A.sq?, A.ls?, D.key, atI, ixN, binA, binI, asgV, toD, putD, putN, ownB, xFz, xAr, xaCons, xaNil, xTup, xLst, xDic0, allD, xCB, BI.f, atAll, lenA, maxA, minA, intA, strA, isiA, tyN, A.ty, Ty.isa, xCF, callX, spill, callT, slotsOf, argsOf, isV, backOf, finE, retOf, backE, isOb, A.own, gN, gT, gAll, h5]) rfl (by omega) (by omega)
  have v0 := p.v0 (m := (L.length : Int)) (by omega)
  have v1 := p.v1 (m := (L.length : Int)) (by omega)
  obtain ⟨c, hc, hm⟩ := atI_ok (xs := L.cps.toList) v0 (by exact v1)
  refine ⟨c, p.n L.length, _, hm, replace_ch L c, ?_⟩
  have hxs : xs.length < 100000 := by omega
  unfold l_marks_b1
  generalize xCF f_l_draw (xaCons (xAr 2 (xVar 0)) (xaCons (xFz 2 (xCB (BI.f .len) (xaCons (xAr 2 (xVar 2)) xaNil))) xaNil)) = cf at *
  generalize hT : Txt.replace L (ch c) (Str.ofString "") = T at *
  have hs : sPair 2 5 2 cf [p.l, some (.d (.int m)), some (.d (.str L)), some (.l true xs), k4, k5] = .ok .nx [(p.n L.length).l, some (.d (.int m)), some (.d (.str T)), some (.l true xs), k4, some (.d (.str (ch c)))] := by
    unfold sPair
    simp [sSeq, sIf, sNx, sSet, sRet, sSub, subA, sDrop, sAug, sPat, xtB, xtT, xtNot, xtAnd, xtOr, x2, xVar, xD, xAnd, xOr, xNot, xNeg, xIf, xCh, xSl, xPart, slA, idxA, bind_ok, bind_ex, bind_no, Rv.at, cmpA, eqA, inA, bl?, truA, A.dc?, A.sq?, A.ls?, D.key, binA, binI, asgV, toD, putD, putN, ownB, xFz, xAr, xaCons, xaNil, xTup, xLst, xDic0, allD, xCB, BI.f, atAll, lenA, maxA, minA, intA, strA, isiA, tyN, A.ty, Ty.isa, xCF, callX, spill, callT, slotsOf, argsOf, isV, backOf, finE, retOf, backE, isOb, A.own, gN, gT, gAll, hcf, h5, hc, hT]
  rw [seq_nx hs]
  simp [sSeq, sIf, sNx, sSet, sRet, sSub, subA, sDrop, sAug, sPat, xtB, xtT, xtNot, xtAnd, xtOr, x2, xVar, xD, xAnd, xOr, xNot, xNeg, xIf, xCh, xSl, xPart, slA, idxA, bind_ok, bind_ex, bind_no, Rv.at, cmpA, eqA, inA, bl?, truA, A.dc?, A.sq?, A.ls?, D.key, atI, ixN, binA, binI, asgV, toD, putD, putN, ownB, xFz, xAr, xaCons, xaNil, xTup, xLst, xDic0, allD, xCB, BI.f, atAll, lenA, maxA, minA, intA, strA, isiA, tyN, A.ty, Ty.isa, xCF, callX, spill, callT, slotsOf, argsOf, isV, backOf, finE, retOf, backE, isOb, A.own, gN, gT, gAll, xMe, MI.T, MI.f, MT.of, appA, putV, hxs]
theorem marks_ex (p : Pool) (m : Nat) (hm : m ≤ 26) : ∃ (ms : List Nat) (p2 : Pool), ms.length = m ∧ ms.Nodup ∧ (∀ c ∈ ms, c ∈ abcL) ∧ f_l_marks.sem [p.l, some (.d (.int m))] = .ok (.n (.l true (ms.map fun c => .str (ch c)))) [Pool.l p2, some (.d (.int m))] := by
  have hr := rg1_nat (ar := 2) (e := xVar 1) (n := m) (r := [p.l, some (.d (.int m)), some (.d (.str abcS)), some (.l true []), none, none]) (r1 := [p.l, some (.d (.int m)), some (.d (.str abcS)), some (.l true []), none, none]) rfl (by omega)
  obtain ⟨r2, hf, ms, p2, L, k4, k5, rfl, hlen, hnd, hsub, hL⟩ := for_inv (g := gN 2 4) (b := l_marks_b1) hr (fun done r => ∃ (ms : List Nat) (p2 : Pool) (L : Str) (k4 k5 : Option A), r = [Pool.l p2, some (.d (.int m)), some (.d (.str L)), some (.l true (ms.map fun c => .str (ch c))), k4, k5] ∧ ms.length = done.length ∧ ms.Nodup ∧ (∀ c ∈ ms, c ∈ abcL) ∧ L.cps.toList = abcL.filter fun c => decide (c ∉ ms))
    ⟨[], p, abcS, none, none, rfl, rfl, List.nodup_nil, (fun c h => by cases h), by rw [abc_eq]; decide +kernel⟩
    (fun done x rest r e hI => by
      obtain ⟨ms, p2, L, k4, k5, rfl, hlen, hnd, hsub, hL⟩ := hI
      have hml : ms.length < m := by
        have := congrArg List.length e
        simp at this
        omega
      have lL : L.length + ms.length = 26 := by
        rw [len_toList, hL]
        exact minus_len abcL ms (by decide +kernel) hnd hsub
      refine ⟨[Pool.l p2, some (.d (.int m)), some (.d (.str L)), some (.l true (ms.map fun c => .str (ch c))), some (.d (.int x)), k5], rfl, ?_⟩
      obtain ⟨c, p3, L2, hc, hL2, eb⟩ := marks_body p2 m L (ms.map fun c => .str (ch c)) (some (.d (.int x))) k5 (by omega) (by omega) (by simp; omega)
      rw [eb]
      rw [hL] at hc hL2
      have hc2 := (List.mem_filter.mp hc)
      have hcn : c ∉ ms := of_decide_eq_true hc2.2
      refine ⟨rfl, ms ++ [c], p3, L2, _, _, by rw [List.map_append]; rfl, by simp [hlen], ?_, ?_, ?_⟩
      · rw [List.nodup_append]
        exact ⟨hnd, by simp, fun a ha b hb => by simp at hb; subst hb; exact fun z => hcn (z ▸ ha)⟩
      · intro d hd
        rcases List.mem_append.mp hd with h | h
        · exact hsub d h
        · simp at h; subst h; exact hc2.1
      · rw [hL2, List.filter_filter]
        refine List.filter_congr fun d _ => ?_
        simp [List.mem_append, and_comm])
  refine ⟨ms, p2, by rw [hlen, List.length_range], hnd, hsub, ?_⟩
  rw [sem_l_marks _ rfl]
  have e1 : sSet 2 2 (xD (.str abcS)) [p.l, some (.d (.int m)), none, none, none, none] = .ok .nx [p.l, some (.d (.int m)), some (.d (.str abcS)), none, none, none] := rfl
  have e2 : sSet 2 3 (xLst xaNil) [p.l, some (.d (.int m)), some (.d (.str abcS)), none, none, none] = .ok .nx [p.l, some (.d (.int m)), some (.d (.str abcS)), some (.l true []), none, none] := rfl
  show finE _ (b_l_marks [p.l, some (.d (.int m)), none, none, none, none]) = _
  unfold b_l_marks
  rw [seq_nx e1, seq_nx e2, seq_nx (show l_marks_f1 _ = _ from hf)]
  rfl
theorem names_c1 (ab : Str) (hab : ab.cps.toList = abcL) (p : Pool) (n : Nat) (hn : n ≤ 8) (k1 k3 k4 k6 k8 k9 k10 : Option A) : ∃ (cs : List Nat) (p2 : Pool), cs.length = n ∧ (∀ c ∈ cs, c ∈ abcL) ∧ l_names_c1 [p.l, k1, some (.d (.str ab)), k3, k4, some (.d (.int n)), k6, none, k8, k9, k10] = .ok (.n (.l true (cs.map fun c => .str (ch c)))) [p2.l, k1, some (.d (.str ab)), k3, k4, some (.d (.int n)), k6, none, k8, k9, k10] := by
  have hr := rg1_nat (ar := 2) (e := xVar 5) (n := n) (r := [p.l, k1, some (.d (.str ab)), k3, k4, some (.d (.int n)), k6, none, k8, k9, k10]) (r1 := [p.l, k1, some (.d (.str ab)), k3, k4, some (.d (.int n)), k6, none, k8, k9, k10]) rfl (by omega)
  obtain ⟨ys, r2, e, cs, p2, rfl, hl, hc, rfl⟩ := lc_inv (vs := [7]) (g := gN 2 7) (t := fun r => .ok true r) (x := xFz 2 (x2 idxA (xVar 2) (xCF f_l_draw (xaCons (xAr 2 (xVar 0)) (xaCons (xFz 2 (xD (.int 26))) xaNil))))) hr rfl (by simp; omega)
    (fun done acc r => ∃ (cs : List Nat) (p2 : Pool), acc = (cs.map fun c => .str (ch c)) ∧ cs.length = done.length ∧ (∀ c ∈ cs, c ∈ abcL) ∧ r = [p2.l, k1, some (.d (.str ab)), k3, k4, some (.d (.int n)), k6, none, k8, k9, k10])
    ⟨[], p, rfl, rfl, (fun c h => by cases h), rfl⟩
    (fun done y rest acc r e hI => by
      obtain ⟨cs, p2, rfl, hl, hc, rfl⟩ := hI
      refine ⟨_, rfl, ?_⟩
      have hcf := cf_dr draw_ok (ar := 2) (i := 0) (p := p2) (e := xD (.int 26)) (m := 26) (r1 := [p2.l, k1, some (.d (.str ab)), k3, k4, some (.d (.int n)), k6, some (.d (.int y)), k8, k9, k10]) (r := [p2.l, k1, some (.d (.str ab)), k3, k4, some (.d (.int n)), k6, some (.d (.int y)), k8, k9, k10]) rfl rfl rfl (by omega) (by omega)
      obtain ⟨c, hc1, hm⟩ := atI_ok (xs := abcL) (p2.v0 (m := 26) (by omega)) (by have := p2.v1 (m := 26) (by omega); exact this)
      rw [← hab] at hc1
      have hl26 : ab.length ≤ 100000 := by rw [len_toList, hab]; decide +kernel
      show (xFz 2 _ _).sat _
      generalize xCF f_l_draw (xaCons (xAr 2 (xVar 0)) (xaCons (xFz 2 (xD (.int 26))) xaNil)) = cf at *
      have hx : xFz 2 (x2 idxA (xVar 2) cf) [p2.l, k1, some (.d (.str ab)), k3, k4, some (.d (.int n)), k6, some (.d (.int y)), k8, k9, k10] = .ok (.d (.str (ch c))) [(p2.n 26).l, k1, some (.d (.str ab)), k3, k4, some (.d (.int n)), k6, some (.d (.int y)), k8, k9, k10] := by
        simp [sSeq, sIf, sNx, sSet, sRet, sSub, subA, sDrop, sAug, sPat, xtB, xtT, xtNot, xtAnd, xtOr, x2, xVar, xD, xAnd, xOr, xNot, xNeg, xIf, xCh, xSl, xPart, slA, idxA, bind_ok, bind_ex, bind_no, Rv.at, cmpA, eqA, inA, bl?, truA, A.dc?, A.sq?, A.ls?, D.key, binA, binI, asgV, toD, putD, putN, ownB, xFz, xAr, xaCons, xaNil, xTup, xLst, xDic0, allD, xCB, BI.f, atAll, lenA, maxA, minA, intA, strA, isiA, tyN, A.ty, Ty.isa, xCF, callX, spill, callT, slotsOf, argsOf, isV, backOf, finE, retOf, backE, isOb, A.own, gN, gT, gAll, hcf, hl26, hc1]
      refine ok_sat hx ⟨_, rfl, cs ++ [c], p2.n 26, by rw [List.map_append]; rfl, by simp [hl], fun d hd => ?_, rfl⟩
      rcases List.mem_append.mp hd with h | h
      · exact hc d h
      · simp at h; subst h; exact hm)
  exact ⟨cs, p2, by rw [hl, List.length_range], hc, e⟩
theorem names_c2 (ab : Str) (hab : ab.cps.toList = abcL) (nm : Str) (hn : nm.length ≤ 8) (k0 k1 k3 k4 k5 k7 k8 k10 : Option A) : l_names_c2 [k0, k1, some (.d (.str ab)), k3, k4, k5, some (.d (.str nm)), k7, k8, none, k10] = .ok (.n (.l true (abcL.map fun c => .str (cutS nm none (some (-1)) ++ ch c)))) [k0, k1, some (.d (.str ab)), k3, k4, k5, some (.d (.str nm)), k7, k8, none, k10] := by
  have hi : xIt (xFz 2 (xVar 2)) [k0, k1, some (.d (.str ab)), k3, k4, k5, some (.d (.str nm)), k7, k8, none, k10] = .ok (abcL.map fun c => .str (ch c)) [k0, k1, some (.d (.str ab)), k3, k4, k5, some (.d (.str nm)), k7, k8, none, k10] := by
    rw [← hab]
    rfl
  have hcl : (cutS nm none (some (-1))).length ≤ 8 := by
    rw [len_toList] at hn ⊢
    unfold cutS
    rw [List.toList_toArray, List.length_take, List.length_drop]
    omega
  obtain ⟨ys, r2, e, rfl, rfl⟩ := lc_inv (vs := [9]) (g := gN 2 9) (t := fun r => .ok true r) (x := xFz 2 (x2 (binA .Add) (xSl (xVar 6) none (some (xNeg (xD (.int 1))))) (xVar 9))) hi rfl (by decide +kernel)
    (fun done acc r => acc = (done.map fun c => .str (cutS nm none (some (-1)) ++ ch c)) ∧ r = [k0, k1, some (.d (.str ab)), k3, k4, k5, some (.d (.str nm)), k7, k8, none, k10])
    ⟨rfl, rfl⟩
    (fun done y rest acc r e hI => by
      obtain ⟨rfl, rfl⟩ := hI
      refine ⟨_, rfl, ?_⟩
      have h1 : nm.length ≤ 100000 := by omega
      have h2 : (cutS nm none (some (-1))).length + (ch y).length ≤ 100000 := by
        have : (ch y).length = 1 := rfl
        omega
      show (xFz 2 _ _).sat _
      have hx : xFz 2 (x2 (binA .Add) (xSl (xVar 6) none (some (xNeg (xD (.int 1))))) (xVar 9)) [k0, k1, some (.d (.str ab)), k3, k4, k5, some (.d (.str nm)), k7, k8, some (.d (.str (ch y))), k10] = .ok (.d (.str (cutS nm none (some (-1)) ++ ch y))) [k0, k1, some (.d (.str ab)), k3, k4, k5, some (.d (.str nm)), k7, k8, some (.d (.str (ch y))), k10] := by
        simp [sSeq, sIf, sNx, sSet, sRet, sSub, subA, sDrop, sAug, sPat, xtB, xtT, xtNot, xtAnd, xtOr, x2, xVar, xD, xAnd, xOr, xNot, xNeg, xIf, xCh, xSl, xPart, slA, idxA, bind_ok, bind_ex, bind_no, Rv.at, cmpA, eqA, inA, bl?, truA, A.dc?, A.sq?, A.ls?, D.key, binA, binI, asgV, toD, putD, putN, ownB, xFz, xAr, xaCons, xaNil, xTup, xLst, xDic0, allD, xCB, BI.f, atAll, lenA, maxA, minA, intA, strA, isiA, tyN, A.ty, Ty.isa, xCF, callX, spill, callT, slotsOf, argsOf, isV, backOf, finE, retOf, backE, isOb, A.own, gN, gT, gAll, h1, h2]
      exact ok_sat hx ⟨_, rfl, by rw [List.map_append]; rfl, rfl⟩)
  exact e
theorem names_c3 (ss fs : List Str) (hs : ss.length ≤ 1000) (k0 k1 k2 k4 k5 k6 k7 k9 : Option A) : l_names_c3 [k0, k1, k2, some (.l true (fs.map .str)), k4, k5, k6, k7, some (.l true (ss.map .str)), k9, none] = .ok (.n (.l true ((ss.filter fun x => decide (x ∉ fs)).map .str))) [k0, k1, k2, some (.l true (fs.map .str)), k4, k5, k6, k7, some (.d (.lst (ss.map .str))), k9, none] := by
  have hi : xIt (xFz 2 (xVar 8)) [k0, k1, k2, some (.l true (fs.map .str)), k4, k5, k6, k7, some (.l true (ss.map .str)), k9, none] = .ok (ss.map .str) [k0, k1, k2, some (.l true (fs.map .str)), k4, k5, k6, k7, some (.d (.lst (ss.map .str))), k9, none] := by
    simp [sSeq, sIf, sNx, sSet, sRet, sSub, subA, sDrop, sAug, sPat, xtB, xtT, xtNot, xtAnd, xtOr, x2, xVar, xD, xAnd, xOr, xNot, xNeg, xIf, xCh, xSl, xPart, slA, idxA, bind_ok, bind_ex, bind_no, Rv.at, cmpA, eqA, inA, bl?, truA, A.dc?, A.sq?, A.ls?, D.key, atI, ixN, binA, binI, asgV, toD, putD, putN, ownB, xFz, xAr, xaCons, xaNil, xTup, xLst, xDic0, allD, xCB, BI.f, atAll, lenA, maxA, minA, intA, strA, isiA, tyN, A.ty, Ty.isa, xCF, callX, spill, callT, slotsOf, argsOf, isV, backOf, finE, retOf, backE, isOb, A.own, gN, gT, gAll, xIt, itA]
  obtain ⟨ys, r2, e, rfl, rfl⟩ := lc_inv (vs := [10]) (g := gN 2 10) (t := xtB (x2 (fun p q => bl? (cmpA .NotIn p q)) (xVar 10) (xVar 3))) (x := xFz 2 (xVar 10)) hi rfl (by omega)
    (fun done acc r => acc = ((done.filter fun x => decide (x ∉ fs)).map .str) ∧ r = [k0, k1, k2, some (.l true (fs.map .str)), k4, k5, k6, k7, some (.d (.lst (ss.map .str))), k9, none])
    ⟨rfl, rfl⟩
    (fun done y rest acc r e hI => by
      obtain ⟨rfl, rfl⟩ := hI
      refine ⟨_, rfl, ?_⟩
      generalize hss : D.lst (ss.map .str) = sd at *
      have ht : xtB (x2 (fun p q => bl? (cmpA .NotIn p q)) (xVar 10) (xVar 3)) [k0, k1, k2, some (.l true (fs.map .str)), k4, k5, k6, k7, some (.d sd), k9, some (.d (.str y))] = .ok (!decide (y ∈ fs)) [k0, k1, k2, some (.l true (fs.map .str)), k4, k5, k6, k7, some (.d sd), k9, some (.d (.str y))] := by
        simp [xtB, x2, xVar, bind_ok, Rv.at, cmpA, bl?, in_strs]
      refine ok_sat ht ?_
      by_cases h : y ∈ fs
      · rw [if_neg (by simp [h])]
        exact ⟨by rw [List.filter_append, List.filter_cons_of_neg (by simp [h])]; simp, rfl⟩
      · rw [if_pos (by simp [h])]
        refine ok_sat (a := Rv.d (.str y)) rfl ⟨_, rfl, ?_, rfl⟩
        rw [List.filter_append, List.filter_cons_of_pos (by simp [h])]
        simp)
  exact e
theorem cut_last (z : Str) (c : Nat) : (cutS z none (some (-1)) ++ ch c).cps.toList = z.cps.toList.dropLast ++ [c] := by
  rw [app_toList]
  congr 1
  unfold cutS
  rw [List.toList_toArray]
  have h1 : HT.sIx z.length 0 none = 0 := rfl
  have h2 : HT.sIx z.length z.length (some (-1)) = z.length - 1 := by
    unfold HT.sIx
    simp only
    rw [if_pos (by omega)]
    omega
  rw [h1, h2, List.drop_zero, List.dropLast_eq_take]
  rfl
theorem first_new (stem : List Nat) (ss fs : List Str) (hs : ∀ c ∈ abcL, ∃ z ∈ ss, z.cps.toList = stem ++ [c]) (hf : fs.length < 26) : ∃ z rest, (ss.filter fun x => decide (x ∉ fs)) = z :: rest := by
  cases h : ss.filter fun x => decide (x ∉ fs) with
  | cons z rest => exact ⟨z, rest, rfl⟩
  | nil =>
    exfalso
    have hall : ∀ z ∈ ss, z ∈ fs := fun z hz => by
      have := List.filter_eq_nil_iff.mp h z hz
      simpa using this
    have h26 : (abcL.map fun c => (⟨(stem ++ [c]).toArray⟩ : Str)).length ≤ fs.length := by
      refine nodup_len _ _ ?_ fun z hz => ?_
      · refine List.Pairwise.map _ (fun a b hab e => hab ?_) (show abcL.Nodup by decide +kernel)
        have := congrArg (fun s : Str => s.cps.toList) e
        simpa using this
      · obtain ⟨c, hc, rfl⟩ := List.mem_map.mp hz
        obtain ⟨z, hz1, hz2⟩ := hs c hc
        have : z = ⟨(stem ++ [c]).toArray⟩ := str_ext (by rw [hz2])
        rw [← this]
        exact hall z hz1
    have : (abcL.map fun c => (⟨(stem ++ [c]).toArray⟩ : Str)).length = 26 := by rw [List.length_map]; rfl
    omega
theorem names_e5 (p : Pool) (k1 k2 k3 k4 k5 k6 k7 k8 k9 k10 : Option A) : ∃ n : Nat, 1 ≤ n ∧ n ≤ 8 ∧ sSet 2 5 (x2 (binA .Add) (xD (.int 1)) (x2 (binA .Mult) (xCF f_l_draw (xaCons (xAr 2 (xVar 0)) (xaCons (xFz 2 (xD (.int 2))) xaNil))) (xCF f_l_draw (xaCons (xAr 2 (xVar 0)) (xaCons (xFz 2 (xD (.int 8))) xaNil))))) [p.l, k1, k2, k3, k4, k5, k6, k7, k8, k9, k10] = .ok .nx [((p.n 2).n 8).l, k1, k2, k3, k4, some (.d (.int n)), k6, k7, k8, k9, k10] := by
  have hcf1 := cf_dr draw_ok (ar := 2) (i := 0) (p := p) (e := xD (.int 2)) (m := 2) (r1 := [p.l, k1, k2, k3, k4, k5, k6, k7, k8, k9, k10]) (r := [p.l, k1, k2, k3, k4, k5, k6, k7, k8, k9, k10]) rfl rfl rfl (by omega) (by omega)
  have hcf2 := cf_dr draw_ok (ar := 2) (i := 0) (p := p.n 2) (e := xD (.int 8)) (m := 8) (r1 := [(p.n 2).l, k1, k2, k3, k4, k5, k6, k7, k8, k9, k10]) (r := [(p.n 2).l, k1, k2, k3, k4, k5, k6, k7, k8, k9, k10]) rfl rfl rfl (by omega) (by omega)
  have a0 := p.v0 (m := 2) (by omega)
  have a1 := p.v1 (m := 2) (by omega)
  have b0 := (p.n 2).v0 (m := 8) (by omega)
  have b1 := (p.n 2).v1 (m := 8) (by omega)
  generalize p.v 2 = va at *
  generalize (p.n 2).v 8 = vb at *
  generalize (p.n 2).n 8 = p2 at *
  generalize p.n 2 = p1 at *
  obtain ⟨n, hn1, hn8, hn⟩ : ∃ n : Nat, 1 ≤ n ∧ n ≤ 8 ∧ 1 + va * vb = (n : Int) := by
    have : va = 0 ∨ va = 1 := by omega
    rcases this with h | h
    · exact ⟨1, by omega, by omega, by rw [h]; omega⟩
    · exact ⟨(1 + vb).toNat, by omega, by omega, by rw [h]; omega⟩
  refine ⟨n, hn1, hn8, ?_⟩
  have m1 : -18446744073709551616 < va := by omega
  have m2 : va < 18446744073709551616 := by omega
  generalize xCF f_l_draw (xaCons (xAr 2 (xVar 0)) (xaCons (xFz 2 (xD (.int 2))) xaNil)) = cf1 at *
  generalize xCF f_l_draw (xaCons (xAr 2 (xVar 0)) (xaCons (xFz 2 (xD (.int 8))) xaNil)) = cf2 at *
  simp [sSeq, sIf, sNx, sSet, sRet, sSub, subA, sDrop, sAug, sPat, xtB, xtT, xtNot, xtAnd, xtOr, x2, xVar, xD, xAnd, xOr, xNot, xNeg, xIf, xCh, xSl, xPart, slA, idxA, bind_ok, bind_ex, bind_no, Rv.at, cmpA, eqA, inA, bl?, truA, A.dc?, A.sq?, A.ls?, D.key, binA, binI, asgV, toD, putD, putN, ownB, xFz, xAr, xaCons, xaNil, xTup, xLst, xDic0, allD, xCB, BI.f, atAll, lenA, maxA, minA, intA, strA, isiA, tyN, A.ty, Ty.isa, xCF, callX, spill, callT, slotsOf, argsOf, isV, backOf, finE, retOf, backE, isOb, A.own, gN, gT, gAll, hcf1, hcf2, m1, m2, hn]
theorem names_e7 (nul : Str) (h0 : nul.length = 0) (cs : List Nat) (hl : cs.length ≤ 8) {r r2 : Sn.Env} {k0 k1 k2 k3 k4 k5 k6 k7 k8 k9 k10 : Option A} (hr : r2 = [k0, k1, k2, k3, k4, k5, k6, k7, k8, k9, k10]) {lc : X1} (e6 : lc r = .ok (.n (.l true (cs.map fun c => .str (ch c)))) r2) :
    sSet 2 6 (xMe (MI.T .join) (MI.f .join) (xD (.str nul)) (xaCons (xFz 2 lc) xaNil)) r = .ok .nx [k0, k1, k2, k3, k4, k5, some (.d (.str (Txt.join nul (cs.map ch)))), k7, k8, k9, k10] := by
  have hsum : ((cs.map ch).map (·.length)).sum + (cs.map ch).length * nul.length ≤ 16777216 := by
    have h1 : ((cs.map ch).map (·.length)).sum = cs.length := by
      clear e6 hl
      induction cs with
      | nil => rfl
      | cons c cs ih => rw [List.map_cons, List.map_cons, List.sum_cons, ih, List.length_cons]; show 1 + cs.length = _; omega
    rw [h0, h1]
    omega
  have hstr : strsD (cs.map fun c => D.str (ch c)) = some (cs.map ch) := by
    have := strs_map (cs.map ch)
    rw [List.map_map] at this
    exact this
  generalize cs.map ch = ys at *
  generalize (cs.map fun c => D.str (ch c)) = yd at *
  subst hr
  simp [sSeq, sIf, sNx, sSet, sRet, sSub, subA, sDrop, sAug, sPat, xtB, xtT, xtNot, xtAnd, xtOr, x2, xVar, xD, xAnd, xOr, xNot, xNeg, xIf, xCh, xSl, xPart, slA, idxA, bind_ok, bind_ex, bind_no, Rv.at, cmpA, eqA, inA, bl?, truA, A.dc?, A.sq?, A.ls?, D.key, binA, binI, asgV, toD, putD, putN, ownB, xFz, xAr, xaCons, xaNil, xTup, xLst, xDic0, allD, xCB, BI.f, atAll, lenA, maxA, minA, intA, strA, isiA, tyN, A.ty, Ty.isa, xCF, callX, spill, callT, slotsOf, argsOf, isV, backOf, finE, retOf, backE, isOb, A.own, gN, gT, gAll, e6, xMe, MI.T, MI.f, MT.of, joinA, hstr, hsum]
theorem names_e9 (nm : Str) (ss : List Str) (hs : ss.length ≤ 100) {k0 k1 k2 k3 k4 k5 k7 k8 k9 k10 : Option A} {lc : X1} (e8 : lc [k0, k1, k2, k3, k4, k5, some (.d (.str nm)), k7, k8, k9, k10] = .ok (.n (.l true (ss.map .str))) [k0, k1, k2, k3, k4, k5, some (.d (.str nm)), k7, k8, k9, k10]) :
    sSet 2 8 (x2 (binA .Add) (xLst (xaCons (xFz 2 (xVar 6)) xaNil)) lc) [k0, k1, k2, k3, k4, k5, some (.d (.str nm)), k7, k8, k9, k10] = .ok .nx [k0, k1, k2, k3, k4, k5, some (.d (.str nm)), k7, some (.l true ((nm :: ss).map .str)), k9, k10] := by
  rw [List.map_cons]
  have hl : (ss.map D.str).length = ss.length := List.length_map ..
  generalize ss.map D.str = al at *
  have : 1 + al.length ≤ 100000 := by omega
  simp [sSeq, sIf, sNx, sSet, sRet, sSub, subA, sDrop, sAug, sPat, xtB, xtT, xtNot, xtAnd, xtOr, x2, xVar, xD, xAnd, xOr, xNot, xNeg, xIf, xCh, xSl, xPart, slA, idxA, bind_ok, bind_ex, bind_no, Rv.at, cmpA, eqA, inA, bl?, truA, A.dc?, A.sq?, A.ls?, D.key, binA, binI, asgV, toD, putD, putN, ownB, xFz, xAr, xaCons, xaNil, xTup, xLst, xDic0, allD, xCB, BI.f, atAll, lenA, maxA, minA, intA, strA, isiA, tyN, A.ty, Ty.isa, xCF, callX, spill, callT, slotsOf, argsOf, isV, backOf, finE, retOf, backE, isOb, A.own, gN, gT, gAll, e8, this]
theorem names_e11 (fs : List Str) (hf : fs.length < 26) (z : Str) (rest : List D) {r : Sn.Env} {k0 k1 k2 k4 k5 k6 k7 k8 k9 k10 j8 : Option A} (hr : r = [k0, k1, k2, some (.l true (fs.map .str)), k4, k5, k6, k7, k8, k9, k10]) {lc : X1} (e10 : lc r = .ok (.n (.l true (.str z :: rest))) [k0, k1, k2, some (.l true (fs.map .str)), k4, k5, k6, k7, j8, k9, k10]) :
    sSeq (sDrop (xMe (MI.T .app) (MI.f .app) (xVar 3) (xaCons (xFz 2 (x2 idxA lc (xD (.int 0)))) xaNil))) sNx r = .ok .nx [k0, k1, k2, some (.l true ((fs ++ [z]).map .str)), k4, k5, k6, k7, j8, k9, k10] := by
  have hfl : fs.length < 100000 := by omega
  subst hr
  simp [sSeq, sIf, sNx, sSet, sRet, sSub, subA, sDrop, sAug, sPat, xtB, xtT, xtNot, xtAnd, xtOr, x2, xVar, xD, xAnd, xOr, xNot, xNeg, xIf, xCh, xSl, xPart, slA, idxA, bind_ok, bind_ex, bind_no, Rv.at, cmpA, eqA, inA, bl?, truA, A.dc?, A.sq?, A.ls?, D.key, atI, ixN, binA, binI, asgV, toD, putD, putN, ownB, xFz, xAr, xaCons, xaNil, xTup, xLst, xDic0, allD, xCB, BI.f, atAll, lenA, maxA, minA, intA, strA, isiA, tyN, A.ty, Ty.isa, xCF, callX, spill, callT, slotsOf, argsOf, isV, backOf, finE, retOf, backE, isOb, A.own, gN, gT, gAll, xMe, MI.T, MI.f, MT.of, appA, putV, e10, hfl]
theorem names_body (ab : Str) (hab : ab.cps.toList = abcL) (p : Pool) (fs : List Str) (hf : fs.length < 26) (k1 k4 k5 k6 k8 : Option A) : ∃ (z : Str) (p2 : Pool) (j5 j6 j8 : Option A), IsNm z ∧ z ∉ fs ∧ l_names_b1 [p.l, k1, some (.d (.str ab)), some (.l true (fs.map .str)), k4, k5, k6, none, k8, none, none] = .ok .nx [p2.l, k1, some (.d (.str ab)), some (.l true ((fs ++ [z]).map .str)), k4, j5, j6, none, j8, none, none] := by
  obtain ⟨n, hn1, hn8, e5⟩ := names_e5 p k1 (some (.d (.str ab))) (some (.l true (fs.map .str))) k4 k5 k6 none k8 none none
  obtain ⟨cs, p2, hl, hc, e6⟩ := names_c1 ab hab ((p.n 2).n 8) n hn8 k1 (some (.l true (fs.map .str))) k4 k6 k8 none none
  have hj : (Txt.join (Str.ofString "") (cs.map ch)).cps.toList = cs := by
    rw [join_nil, List.map_map]
    clear e6 hl hc e5
    induction cs with
    | nil => rfl
    | cons c cs ih => rw [List.map_cons, List.flatten_cons, ih]; rfl
  have e7 := names_e7 (Str.ofString "") (by decide +kernel) cs (by omega) rfl e6
  generalize hnm : Txt.join (Str.ofString "") (cs.map ch) = nm at *
  have hnl : nm.length = n := by rw [len_toList, hj, hl]
  obtain ⟨ss, hss⟩ : ∃ ss : List Str, ss = abcL.map fun c => cutS nm none (some (-1)) ++ ch c := ⟨_, rfl⟩
  have hsl : ss.length ≤ 100 := by rw [hss, List.length_map]; decide +kernel
  have e8 := names_c2 ab hab nm (by omega) p2.l k1 (some (.l true (fs.map .str))) k4 (some (.d (.int n))) none k8 none
  have hsd : (abcL.map fun c => D.str (cutS nm none (some (-1)) ++ ch c)) = ss.map .str := by rw [hss, List.map_map]; rfl
  rw [hsd] at e8
  have e9 := names_e9 nm ss hsl e8
  have e10 := names_c3 (nm :: ss) fs (by simp; omega) p2.l k1 (some (.d (.str ab))) k4 (some (.d (.int n))) (some (.d (.str nm))) none none
  obtain ⟨z, rest, hz⟩ := first_new nm.cps.toList.dropLast (nm :: ss) fs (fun c hc => ⟨_, List.mem_cons_of_mem _ (by rw [hss]; exact List.mem_map.mpr ⟨c, hc, rfl⟩), cut_last nm c⟩) hf
  have hzm : z ∈ (nm :: ss).filter fun x => decide (x ∉ fs) := by rw [hz]; exact List.mem_cons_self
  obtain ⟨hz1, hz2⟩ := List.mem_filter.mp hzm
  have hzn : IsNm z := by
    rcases List.mem_cons.mp hz1 with rfl | h
    · exact ⟨by omega, by omega, by rw [hj]; exact hc⟩
    · rw [hss] at h
      obtain ⟨c, hcm, rfl⟩ := List.mem_map.mp h
      have hcl := cut_last nm c
      refine ⟨?_, ?_, ?_⟩
      · rw [len_toList, hcl, List.length_append]; simp
      · rw [len_toList, hcl, List.length_append, List.length_dropLast, ← len_toList]; simp; omega
      · rw [hcl]
        intro d hd
        rcases List.mem_append.mp hd with h | h
        · exact hc d (by rw [← hj]; exact (List.mem_of_mem_take (by rw [← List.dropLast_eq_take]; exact h)))
        · simp at h; subst h; exact hcm
  rw [hz, List.map_cons] at e10
  have fin := names_e11 fs hf z _ rfl e10
  refine ⟨z, p2, some (.d (.int n)), some (.d (.str nm)), some (.d (.lst ((nm :: ss).map .str))), hzn, of_decide_eq_true hz2, ?_⟩
  unfold l_names_b1
  rw [seq_nx e5, seq_nx e7, seq_nx e9]
  exact fin
theorem names_ex (p : Pool) (m : Nat) (hm : m ≤ 25) : ∃ (ns : List Str) (p2 : Pool), ns.length = m ∧ ns.Nodup ∧ (∀ z ∈ ns, IsNm z) ∧ f_l_names.sem [p.l, some (.d (.int m))] = .ok (.n (.l true (ns.map .str))) [p2.l, some (.d (.int m))] := by
  obtain ⟨ab, hab, hab2⟩ : ∃ ab : Str, ab = abcS ∧ ab.cps.toList = abcL := ⟨_, rfl, abc_eq⟩
  have hr := rg1_nat (ar := 2) (e := xVar 1) (n := m) (r := [p.l, some (.d (.int m)), some (.d (.str ab)), some (.l true []), none, none, none, none, none, none, none]) (r1 := [p.l, some (.d (.int m)), some (.d (.str ab)), some (.l true []), none, none, none, none, none, none, none]) rfl (by omega)
  obtain ⟨r2, hf, ns, p2, k4, k5, k6, k8, rfl, hlen, hnd, hnm⟩ := for_inv (g := gN 2 4) (b := l_names_b1) hr (fun done r => ∃ (ns : List Str) (p2 : Pool) (k4 k5 k6 k8 : Option A), r = [p2.l, some (.d (.int m)), some (.d (.str ab)), some (.l true (ns.map .str)), k4, k5, k6, none, k8, none, none] ∧ ns.length = done.length ∧ ns.Nodup ∧ ∀ z ∈ ns, IsNm z)
    ⟨[], p, none, none, none, none, rfl, rfl, List.nodup_nil, (fun c h => by cases h)⟩
    (fun done x rest r e hI => by
      obtain ⟨ns, p2, k4, k5, k6, k8, rfl, hlen, hnd, hnm⟩ := hI
      have hml : ns.length < m := by
        have := congrArg List.length e
        simp at this
        omega
      refine ⟨_, rfl, ?_⟩
      obtain ⟨z, p3, j5, j6, j8, hz, hzn, eb⟩ := names_body ab hab2 p2 ns (by omega) (some (.d (.int m))) (some (.d (.int x))) k5 k6 k8
      refine ok_sat eb ⟨rfl, ns ++ [z], p3, _, _, _, _, rfl, by simp [hlen], ?_, ?_⟩
      · rw [List.nodup_append]
        exact ⟨hnd, by simp, fun a ha b hb => by simp at hb; subst hb; exact fun y => hzn (y ▸ ha)⟩
      · intro d hd
        rcases List.mem_append.mp hd with h | h
        · exact hnm d h
        · simp at h; subst h; exact hz)
  refine ⟨ns, p2, by rw [hlen, List.length_range], hnd, hnm, ?_⟩
  rw [sem_l_names _ rfl]
  show finE _ (b_l_names [p.l, some (.d (.int m)), none, none, none, none, none, none, none, none, none]) = _
  unfold b_l_names
  rw [show Str.ofString "abcdefghijklmnopqrstuvwxyz" = ab from hab.symm]
  have e1 : sSet 2 2 (xD (.str ab)) [p.l, some (.d (.int m)), none, none, none, none, none, none, none, none, none] = .ok .nx [p.l, some (.d (.int m)), some (.d (.str ab)), none, none, none, none, none, none, none, none] := rfl
  have e2 : sSet 2 3 (xLst xaNil) [p.l, some (.d (.int m)), some (.d (.str ab)), none, none, none, none, none, none, none, none] = .ok .nx [p.l, some (.d (.int m)), some (.d (.str ab)), some (.l true []), none, none, none, none, none, none, none] := rfl
  rw [seq_nx e1, seq_nx e2, seq_nx (show l_names_f1 _ = _ from hf)]
  rfl
theorem steps_pick (ms : List Str) (v : Int) (h0 : 0 ≤ v) (h1 : v < ms.length) : ∃ z ∈ ms, atI (ms.map D.str) v = some (.str z) := by
  obtain ⟨d, h, hm⟩ := atI_ok (xs := ms.map D.str) h0 (by rw [List.length_map]; exact h1)
  obtain ⟨z, hz, rfl⟩ := List.mem_map.mp hm
  exact ⟨z, hz, h⟩
theorem steps_c1 (p : Pool) (ms : List Str) (h1 : 1 ≤ ms.length) (h2 : ms.length ≤ 100) (k2 k3 k5 k6 : Option A) : ∃ (mo : List Str) (p2 : Pool), mo.length ≤ 4 ∧ (∀ z ∈ mo, z ∈ ms) ∧ l_steps_c1 [p.l, some (.d (.lst (ms.map .str))), k2, k3, none, k5, k6] = .ok (.n (.l true (mo.map .str))) [p2.l, some (.d (.lst (ms.map .str))), k2, k3, none, k5, k6] := by
  have hcf := cf_dr draw_ok (ar := 2) (i := 0) (p := p) (e := xD (.int 5)) (m := 5) (r1 := [p.l, some (.d (.lst (ms.map .str))), k2, k3, none, k5, k6]) (r := [p.l, some (.d (.lst (ms.map .str))), k2, k3, none, k5, k6]) rfl rfl rfl (by omega) (by omega)
  obtain ⟨n, hn4, hn⟩ : ∃ n : Nat, n ≤ 4 ∧ p.v 5 = (n : Int) := by
    have a0 := p.v0 (m := 5) (by omega)
    have a1 := p.v1 (m := 5) (by omega)
    exact ⟨(p.v 5).toNat, by omega, by omega⟩
  rw [hn] at hcf
  have hr := rg1_nat (fz_d (ar := 2) hcf) (by omega)
  obtain ⟨ys, r2, e, mo, p2, rfl, hl, hc, rfl⟩ := lc_inv (vs := [4]) (g := gN 2 4) (t := fun r => .ok true r) (x := xFz 2 (x2 idxA (xVar 1) (xCF f_l_draw (xaCons (xAr 2 (xVar 0)) (xaCons (xFz 2 (xCB (BI.f .len) (xaCons (xAr 2 (xVar 1)) xaNil))) xaNil))))) hr rfl (by simp; omega)
    (fun done acc r => ∃ (mo : List Str) (p2 : Pool), acc = mo.map .str ∧ mo.length = done.length ∧ (∀ z ∈ mo, z ∈ ms) ∧ r = [p2.l, some (.d (.lst (ms.map .str))), k2, k3, none, k5, k6])
    ⟨[], p.n 5, rfl, rfl, (fun c h => by cases h), rfl⟩
    (fun done y rest acc r e hI => by
      obtain ⟨mo, p2, rfl, hl, hc, rfl⟩ := hI
      refine ⟨_, rfl, ?_⟩
      have hcf := cf_dr draw_ok (ar := 2) (i := 0) (p := p2) (e := xCB (BI.f .len) (xaCons (xAr 2 (xVar 1)) xaNil)) (m := (ms.length : Int)) (r1 := [p2.l, some (.d (.lst (ms.map .str))), k2, k3, some (.d (.int y)), k5, k6]) (r := [p2.l, some (.d (.lst (ms.map .str))), k2, k3, some (.d (.int y)), k5, k6]) rfl (by simp [sSeq, sIf, sNx, sSet, sRet, sSub, subA, sDrop, sAug, sPat, xtB, xtT, xtNot, xtAnd, xtOr, x2, xVar, xD, xAnd, xOr, xNot, xNeg, xIf, xCh, xSl, xPart, slA, idxA, bind_ok, bind_ex, bind_no, Rv.at, cmpA, eqA, inA, bl?, truA, A.dc?, A.sq?, A.ls?, D.key, atI, ixN, binA, binI, asgV, toD, putD, putN, ownB, xFz, xAr, xaCons, xaNil, xTup, xLst, xDic0, allD, xCB, BI.f, atAll, lenA, maxA, minA, intA, strA, isiA, tyN, A.ty, Ty.isa, xCF, callX, spill, callT, slotsOf, argsOf, isV, backOf, finE, retOf, backE, isOb, A.own, gN, gT, gAll]) rfl (by omega) (by omega)
      obtain ⟨z, hz, hz2⟩ := steps_pick ms _ (p2.v0 (m := (ms.length : Int)) (by omega)) (p2.v1 (m := (ms.length : Int)) (by omega))
      show (xFz 2 _ _).sat _
      generalize xCF f_l_draw (xaCons (xAr 2 (xVar 0)) (xaCons (xFz 2 (xCB (BI.f .len) (xaCons (xAr 2 (xVar 1)) xaNil))) xaNil)) = cf at *
      generalize ms.map D.str = md at *
      have hx : xFz 2 (x2 idxA (xVar 1) cf) [p2.l, some (.d (.lst md)), k2, k3, some (.d (.int y)), k5, k6] = .ok (.d (.str z)) [(p2.n ms.length).l, some (.d (.lst md)), k2, k3, some (.d (.int y)), k5, k6] := by
        simp [sSeq, sIf, sNx, sSet, sRet, sSub, subA, sDrop, sAug, sPat, xtB, xtT, xtNot, xtAnd, xtOr, x2, xVar, xD, xAnd, xOr, xNot, xNeg, xIf, xCh, xSl, xPart, slA, idxA, bind_ok, bind_ex, bind_no, Rv.at, cmpA, eqA, inA, bl?, truA, A.dc?, A.sq?, A.ls?, D.key, binA, binI, asgV, toD, putD, putN, ownB, xFz, xAr, xaCons, xaNil, xTup, xLst, xDic0, allD, xCB, BI.f, atAll, lenA, maxA, minA, intA, strA, isiA, tyN, A.ty, Ty.isa, xCF, callX, spill, callT, slotsOf, argsOf, isV, backOf, finE, retOf, backE, isOb, A.own, gN, gT, gAll, hcf, hz2]
      refine ok_sat hx ⟨_, rfl, mo ++ [z], p2.n ms.length, by rw [List.map_append]; rfl, by simp [hl], fun d hd => ?_, rfl⟩
      rcases List.mem_append.mp hd with h | h
      · exact hc d h
      · simp at h; subst h; exact hz)
  exact ⟨mo, p2, by rw [hl, List.length_range]; exact hn4, hc, e⟩
theorem steps_body (p : Pool) (st : List (Str × Str)) (hs : st.length ≤ 100) (m : Str) (k1 k3 k4 k6 : Option A) : ∃ (d : Str) (st2 : List (Str × Str)) (p2 : Pool), IsDeed d ∧ st2.Perm ((d, m) :: st) ∧ l_steps_b1 [p.l, k1, some (.l true (st.map ppD)), k3, k4, some (.d (.str m)), k6] = .ok .nx [p2.l, k1, some (.l true (st2.map ppD)), k3, k4, some (.d (.str m)), some (.d (.str d))] := by
  have hcf1 := cf_dr draw_ok (ar := 2) (i := 0) (p := p) (e := xD (.int 6)) (m := 6) (r1 := [p.l, k1, some (.l true (st.map ppD)), k3, k4, some (.d (.str m)), k6]) (r := [p.l, k1, some (.l true (st.map ppD)), k3, k4, some (.d (.str m)), k6]) rfl rfl rfl (by omega) (by omega)
  obtain ⟨d, hd, hd2⟩ : ∃ d : Str, IsDeed d ∧ atI [D.str "read", D.str "read", D.str "read", D.str "write", D.str "write", D.str "ask"] (p.v 6) = some (.str d) := by
    have a0 := p.v0 (m := 6) (by omega)
    have a1 := p.v1 (m := 6) (by omega)
    have : p.v 6 = 0 ∨ p.v 6 = 1 ∨ p.v 6 = 2 ∨ p.v 6 = 3 ∨ p.v 6 = 4 ∨ p.v 6 = 5 := by omega
    rcases this with h | h | h | h | h | h <;> rw [h]
    · exact ⟨"read", .inl rfl, rfl⟩
    · exact ⟨"read", .inl rfl, rfl⟩
    · exact ⟨"read", .inl rfl, rfl⟩
    · exact ⟨"write", .inr (.inl rfl), rfl⟩
    · exact ⟨"write", .inr (.inl rfl), rfl⟩
    · exact ⟨"ask", .inr (.inr rfl), rfl⟩
  have e1 : sSet 2 6 (x2 idxA (xLst (xaCons (xFz 2 (xD (.str "read"))) (xaCons (xFz 2 (xD (.str "read"))) (xaCons (xFz 2 (xD (.str "read"))) (xaCons (xFz 2 (xD (.str "write"))) (xaCons (xFz 2 (xD (.str "write"))) (xaCons (xFz 2 (xD (.str "ask"))) xaNil))))))) (xCF f_l_draw (xaCons (xAr 2 (xVar 0)) (xaCons (xFz 2 (xD (.int 6))) xaNil)))) [p.l, k1, some (.l true (st.map ppD)), k3, k4, some (.d (.str m)), k6] = .ok .nx [(p.n 6).l, k1, some (.l true (st.map ppD)), k3, k4, some (.d (.str m)), some (.d (.str d))] := by
    generalize xCF f_l_draw (xaCons (xAr 2 (xVar 0)) (xaCons (xFz 2 (xD (.int 6))) xaNil)) = cf at *
    generalize (Str.ofString "read") = s1 at *
    generalize (Str.ofString "write") = s2 at *
    generalize (Str.ofString "ask") = s3 at *
    generalize st.map ppD = sd at *
    simp [sSeq, sIf, sNx, sSet, sRet, sSub, subA, sDrop, sAug, sPat, xtB, xtT, xtNot, xtAnd, xtOr, x2, xVar, xD, xAnd, xOr, xNot, xNeg, xIf, xCh, xSl, xPart, slA, idxA, bind_ok, bind_ex, bind_no, Rv.at, cmpA, eqA, inA, bl?, truA, A.dc?, A.sq?, A.ls?, D.key, binA, binI, asgV, toD, putD, putN, ownB, xFz, xAr, xaCons, xaNil, xTup, xLst, xDic0, allD, xCB, BI.f, atAll, lenA, maxA, minA, intA, strA, isiA, tyN, A.ty, Ty.isa, xCF, callX, spill, callT, slotsOf, argsOf, isV, backOf, finE, retOf, backE, isOb, A.own, gN, gT, gAll, hcf1, hd2]
  have hls : (st.map ppD).length = st.length := List.length_map ..
  have hcf2 := cf_dr draw_ok (ar := 2) (i := 0) (p := p.n 6) (e := x2 (binA .Add) (xCB (BI.f .len) (xaCons (xAr 2 (xVar 2)) xaNil)) (xD (.int 1))) (m := (st.length : Int) + 1) (r1 := [(p.n 6).l, k1, some (.l true (st.map ppD)), k3, k4, some (.d (.str m)), some (.d (.str d))]) (r := [(p.n 6).l, k1, some (.l true (st.map ppD)), k3, k4, some (.d (.str m)), some (.d (.str d))]) rfl (by simp [sSeq, sIf, sNx, sSet, sRet, sSub, subA, sDrop, sAug, sPat, xtB, xtT, xtNot, xtAnd, xtOr, x2, xVar, xD, xAnd, xOr, xNot, xNeg, xIf, xCh, xSl, xPart, slA, idxA, bind_ok, bind_ex, bind_no, Rv.at, cmpA, eqA, inA, bl?, truA, A.dc?, A.sq?, A.ls?, D.key, atI, ixN, binA, binI, asgV, toD, putD, putN, ownB, xFz, xAr, xaCons, xaNil, xTup, xLst, xDic0, allD, xCB, BI.f, atAll, lenA, maxA, minA, intA, strA, isiA, tyN, A.ty, Ty.isa, xCF, callX, spill, callT, slotsOf, argsOf, isV, backOf, finE, retOf, backE, isOb, A.own, gN, gT, gAll]) rfl (by omega) (by omega)
  have b0 := (p.n 6).v0 (m := (st.length : Int) + 1) (by omega)
  have b1 := (p.n 6).v1 (m := (st.length : Int) + 1) (by omega)
  obtain ⟨i, hi⟩ : ∃ i : Nat, (p.n 6).v ((st.length : Int) + 1) = (i : Int) := ⟨((p.n 6).v ((st.length : Int) + 1)).toNat, by omega⟩
  rw [hi] at hcf2 b1
  refine ⟨d, st.take i ++ [(d, m)] ++ st.drop i, (p.n 6).n ((st.length : Int) + 1), hd, ?_, ?_⟩
  · have h := List.take_append_drop i st
    have : (st.take i ++ [(d, m)] ++ st.drop i).Perm ((d, m) :: (st.take i ++ st.drop i)) := by
      rw [List.append_assoc]
      exact List.perm_middle
    rw [h] at this
    exact this
  · unfold l_steps_b1
    rw [seq_nx e1]
    have hm : (st.take i ++ [(d, m)] ++ st.drop i).map ppD = (st.map ppD).take i ++ [.tup [.str d, .str m]] ++ (st.map ppD).drop i := by
      rw [List.map_append, List.map_append, List.map_take, List.map_drop]
      rfl
    rw [hm]
    generalize (p.n 6).n ((st.length : Int) + 1) = p2 at *
    generalize st.map ppD = sd at *
    generalize xCF f_l_draw (xaCons (xAr 2 (xVar 0)) (xaCons (xFz 2 (x2 (binA .Add) (xCB (BI.f .len) (xaCons (xAr 2 (xVar 2)) xaNil)) (xD (.int 1)))) xaNil)) = cf at *
    have c1 : sd.length < 100000 := by omega
    have c2 : (i : Int) < 100000 := by omega
    simp [sSeq, sIf, sNx, sSet, sRet, sSub, subA, sDrop, sAug, sPat, xtB, xtT, xtNot, xtAnd, xtOr, x2, xVar, xD, xAnd, xOr, xNot, xNeg, xIf, xCh, xSl, xPart, slA, idxA, bind_ok, bind_ex, bind_no, Rv.at, cmpA, eqA, inA, bl?, truA, A.dc?, A.sq?, A.ls?, D.key, binA, binI, asgV, toD, putD, putN, ownB, xFz, xAr, xaCons, xaNil, xTup, xLst, xDic0, allD, xCB, BI.f, atAll, lenA, maxA, minA, intA, strA, isiA, tyN, A.ty, Ty.isa, xCF, callX, spill, callT, slotsOf, argsOf, isV, backOf, finE, retOf, backE, isOb, A.own, gN, gT, gAll, xMe, MI.T, MI.f, MT.of, insA, putV, hcf2, c1, c2]
theorem steps_ex (p : Pool) (ms : List Str) (h1 : 1 ≤ ms.length) (h2 : ms.length ≤ 90) : ∃ (st : List (Str × Str)) (p2 : Pool), ms.length ≤ st.length ∧ st.length ≤ ms.length + 4 ∧ (∀ s ∈ st, IsDeed s.1 ∧ s.2 ∈ ms) ∧ (∀ z ∈ ms, ∃ s ∈ st, s.2 = z) ∧ f_l_steps.sem [p.l, some (.d (.lst (ms.map .str)))] = .ok (.n (.l true (st.map ppD))) [p2.l, some (.d (.lst (ms.map .str)))] := by
  obtain ⟨mo, p1, hmo, hms, e3⟩ := steps_c1 p ms h1 (by omega) (some (.l true [])) none none none
  have hi : xIt (xFz 2 (x2 (binA .Add) (xVar 1) (xVar 3))) [p1.l, some (.d (.lst (ms.map .str))), some (.l true []), some (.l true (mo.map .str)), none, none, none] = .ok ((ms ++ mo).map .str) [p1.l, some (.d (.lst (ms.map .str))), some (.l true []), some (.l true (mo.map .str)), none, none, none] := by
    have hl : (ms.map D.str).length + (mo.map D.str).length ≤ 100000 := by simp; omega
    rw [List.map_append]
    generalize ms.map D.str = a at *
    generalize mo.map D.str = b at *
    simp [sSeq, sIf, sNx, sSet, sRet, sSub, subA, sDrop, sAug, sPat, xtB, xtT, xtNot, xtAnd, xtOr, x2, xVar, xD, xAnd, xOr, xNot, xNeg, xIf, xCh, xSl, xPart, slA, idxA, bind_ok, bind_ex, bind_no, Rv.at, cmpA, eqA, inA, bl?, truA, A.dc?, A.sq?, A.ls?, D.key, atI, ixN, binA, binI, asgV, toD, putD, putN, ownB, xFz, xAr, xaCons, xaNil, xTup, xLst, xDic0, allD, xCB, BI.f, atAll, lenA, maxA, minA, intA, strA, isiA, tyN, A.ty, Ty.isa, xCF, callX, spill, callT, slotsOf, argsOf, isV, backOf, finE, retOf, backE, isOb, A.own, gN, gT, gAll, xIt, itA, hl]
  obtain ⟨r2, hf, st, p2, k5, k6, rfl, hlen, hst, hall⟩ := for_inv (g := gN 2 5) (b := l_steps_b1) hi (fun done r => ∃ (st : List (Str × Str)) (p2 : Pool) (k5 k6 : Option A), r = [p2.l, some (.d (.lst (ms.map .str))), some (.l true (st.map ppD)), some (.l true (mo.map .str)), none, k5, k6] ∧ st.length = done.length ∧ (∀ s ∈ st, IsDeed s.1 ∧ s.2 ∈ done) ∧ ∀ z ∈ done, ∃ s ∈ st, s.2 = z)
    ⟨[], p1, none, none, rfl, rfl, (fun c h => by cases h), (fun c h => by cases h)⟩
    (fun done x rest r e hI => by
      obtain ⟨st, p2, k5, k6, rfl, hlen, hst, hall⟩ := hI
      refine ⟨_, rfl, ?_⟩
      have hd : done.length ≤ 94 := by
        have := congrArg List.length e
        simp at this
        omega
      obtain ⟨d, st2, p3, hd, hp, eb⟩ := steps_body p2 st (by omega) x (some (.d (.lst (ms.map .str)))) (some (.l true (mo.map .str))) none k6
      refine ok_sat eb ⟨rfl, st2, p3, _, _, rfl, by rw [hp.length_eq]; simp [hlen], fun s hs => ?_, fun z hz => ?_⟩
      · rcases List.mem_cons.mp (hp.mem_iff.mp hs) with rfl | h
        · exact ⟨hd, List.mem_append_right _ (by simp)⟩
        · exact ⟨(hst s h).1, List.mem_append_left _ (hst s h).2⟩
      · rcases List.mem_append.mp hz with h | h
        · obtain ⟨s, h1, h2⟩ := hall z h
          exact ⟨s, hp.mem_iff.mpr (List.mem_cons_of_mem _ h1), h2⟩
        · simp at h
          exact ⟨(d, x), hp.mem_iff.mpr List.mem_cons_self, h.symm⟩)
  refine ⟨st, p2, by rw [hlen, List.length_append]; omega, by rw [hlen, List.length_append]; omega, fun s hs => ⟨(hst s hs).1, ?_⟩, fun z hz => hall z (List.mem_append_left _ hz), ?_⟩
  · rcases List.mem_append.mp (hst s hs).2 with h | h
    · exact h
    · exact hms _ h
  · rw [sem_l_steps _ rfl]
    show finE _ (b_l_steps [p.l, some (.d (.lst (ms.map .str))), none, none, none, none, none]) = _
    unfold b_l_steps
    have e1 : sSet 2 2 (xLst xaNil) [p.l, some (.d (.lst (ms.map .str))), none, none, none, none, none] = .ok .nx [p.l, some (.d (.lst (ms.map .str))), some (.l true []), none, none, none, none] := rfl
    have e2 : sSet 2 3 l_steps_c1 [p.l, some (.d (.lst (ms.map .str))), some (.l true []), none, none, none, none] = .ok .nx [p1.l, some (.d (.lst (ms.map .str))), some (.l true []), some (.l true (mo.map .str)), none, none, none] := by
      unfold sSet
      rw [e3]
      rfl
    rw [seq_nx e1, seq_nx e2, seq_nx (show l_steps_f1 _ = _ from hf)]
    rfl
theorem cf_names (p : Pool) (m : Nat) (hm : m ≤ 25) : ∃ (ns : List Str) (p2 : Pool), ns.length = m ∧ ns.Nodup ∧ (∀ z ∈ ns, IsNm z) ∧ ∀ {e : X1} {r r1 : Sn.Env} {ar : Nat} {w : Bool} {xs : List D}, r[0]? = some (some (.l w xs)) → xFz ar e r = .ok (.d (.int m)) r1 → r1[0]? = some p.l → xCF f_l_names (xaCons (xAr ar (xVar 0)) (xaCons (xFz ar e) xaNil)) r = .ok (.n (.l true (ns.map .str))) (r1.set 0 p2.l) := by
  obtain ⟨ns, p2, h1, h2, h3, h4⟩ := names_ex p m hm
  refine ⟨ns, p2, h1, h2, h3, fun {e r r1 ar w xs} hp he hp1 => ?_⟩
  exact cf_pl (show f_l_names.ar = 2 from rfl) h4 rfl hp he hp1
theorem cf_marks (p : Pool) (m : Nat) (hm : m ≤ 26) : ∃ (ms : List Str) (p2 : Pool), ms.length = m ∧ ms.Nodup ∧ (∀ z ∈ ms, IsLt z) ∧ ∀ {e : X1} {r r1 : Sn.Env} {ar : Nat} {w : Bool} {xs : List D}, r[0]? = some (some (.l w xs)) → xFz ar e r = .ok (.d (.int m)) r1 → r1[0]? = some p.l → xCF f_l_marks (xaCons (xAr ar (xVar 0)) (xaCons (xFz ar e) xaNil)) r = .ok (.n (.l true (ms.map .str))) (r1.set 0 p2.l) := by
  obtain ⟨cs, p2, h1, h2, h3, h4⟩ := marks_ex p m hm
  refine ⟨cs.map ch, p2, by rw [List.length_map, h1], ?_, fun z hz => ?_, fun {e r r1 ar w xs} hp he hp1 => ?_⟩
  · refine List.Pairwise.map _ (fun a b hab e => hab ?_) h2
    have := congrArg (fun s : Str => s.cps.toList) e
    simpa using this
  · obtain ⟨c, hc, rfl⟩ := List.mem_map.mp hz
    exact ⟨c, h3 c hc, rfl⟩
  · rw [List.map_map]
    exact cf_pl (show f_l_marks.ar = 2 from rfl) h4 rfl hp he hp1
theorem cf_steps (p : Pool) (ms : List Str) (h1 : 1 ≤ ms.length) (h2 : ms.length ≤ 90) : ∃ (st : List (Str × Str)) (p2 : Pool), ms.length ≤ st.length ∧ st.length ≤ ms.length + 4 ∧ (∀ s ∈ st, IsDeed s.1 ∧ s.2 ∈ ms) ∧ (∀ z ∈ ms, ∃ s ∈ st, s.2 = z) ∧ ∀ {e : X1} {r r1 : Sn.Env} {ar : Nat} {w : Bool} {xs : List D}, r[0]? = some (some (.l w xs)) → xFz ar e r = .ok (.d (.lst (ms.map .str))) r1 → r1[0]? = some p.l → xCF f_l_steps (xaCons (xAr ar (xVar 0)) (xaCons (xFz ar e) xaNil)) r = .ok (.n (.l true (st.map ppD))) (r1.set 0 p2.l) := by
  obtain ⟨st, p2, a1, a2, a3, a4, h4⟩ := steps_ex p ms h1 h2
  refine ⟨st, p2, a1, a2, a3, a4, fun {e r r1 ar w xs} hp he hp1 => ?_⟩
  exact cf_pl (show f_l_steps.ar = 2 from rfl) h4 rfl hp he hp1
theorem book_c2 (p : Pool) (ns : List Str) (hn : ns.length ≤ 1000) (k1 k2 k4 k6 k7 k8 k9 : Option A) : ∃ (ks : List (Str × Bool)) (p2 : Pool), ks.map (·.1) = ns ∧ l_book_c2 [p.l, k1, k2, some (.l true (ns.map .str)), k4, none, k6, k7, k8, k9] = .ok (.n (.l true (ks.map kdD))) [p2.l, k1, k2, some (.d (.lst (ns.map .str))), k4, none, k6, k7, k8, k9] := by
  have hi : xIt (xFz 3 (xVar 3)) [p.l, k1, k2, some (.l true (ns.map .str)), k4, none, k6, k7, k8, k9] = .ok (ns.map .str) [p.l, k1, k2, some (.d (.lst (ns.map .str))), k4, none, k6, k7, k8, k9] := by
    simp [sSeq, sIf, sNx, sSet, sRet, sSub, subA, sDrop, sAug, sPat, xtB, xtT, xtNot, xtAnd, xtOr, x2, xVar, xD, xAnd, xOr, xNot, xNeg, xIf, xCh, xSl, xPart, slA, idxA, bind_ok, bind_ex, bind_no, Rv.at, cmpA, eqA, inA, bl?, truA, A.dc?, A.sq?, A.ls?, D.key, atI, ixN, binA, binI, asgV, toD, putD, putN, ownB, xFz, xAr, xaCons, xaNil, xTup, xLst, xDic0, allD, xCB, BI.f, atAll, lenA, maxA, minA, intA, strA, isiA, tyN, A.ty, Ty.isa, xCF, callX, spill, callT, slotsOf, argsOf, isV, backOf, finE, retOf, backE, isOb, A.own, gN, gT, gAll, xIt, itA]
  obtain ⟨ys, r2, e, ks, p2, rfl, hk, rfl⟩ := lc_inv (vs := [5]) (g := gN 3 5) (t := fun r => .ok true r) (x := xFz 3 (xTup (xaCons (xFz 3 (xVar 5)) (xaCons (xFz 3 (x2 (fun p q => bl? (cmpA .Gt p q)) (xCF f_l_draw (xaCons (xAr 3 (xVar 0)) (xaCons (xFz 3 (xD (.int 3))) xaNil))) (xD (.int 0)))) xaNil)))) hi rfl (by omega)
    (fun done acc r => ∃ (ks : List (Str × Bool)) (p2 : Pool), acc = ks.map kdD ∧ ks.map (·.1) = done ∧ r = [p2.l, k1, k2, some (.d (.lst (ns.map .str))), k4, none, k6, k7, k8, k9])
    ⟨[], p, rfl, rfl, rfl⟩
    (fun done y rest acc r e hI => by
      obtain ⟨ks, p2, rfl, hk, rfl⟩ := hI
      refine ⟨_, rfl, ?_⟩
      have hcf := cf_dr draw_ok (ar := 3) (i := 0) (p := p2) (e := xD (.int 3)) (m := 3) (r1 := [p2.l, k1, k2, some (.d (.lst (ns.map .str))), k4, some (.d (.str y)), k6, k7, k8, k9]) (r := [p2.l, k1, k2, some (.d (.lst (ns.map .str))), k4, some (.d (.str y)), k6, k7, k8, k9]) rfl rfl rfl (by omega) (by omega)
      show (xFz 3 _ _).sat _
      generalize xCF f_l_draw (xaCons (xAr 3 (xVar 0)) (xaCons (xFz 3 (xD (.int 3))) xaNil)) = cf at *
      generalize ns.map D.str = nd at *
      have hx : xFz 3 (xTup (xaCons (xFz 3 (xVar 5)) (xaCons (xFz 3 (x2 (fun p q => bl? (cmpA .Gt p q)) cf (xD (.int 0)))) xaNil))) [p2.l, k1, k2, some (.d (.lst nd)), k4, some (.d (.str y)), k6, k7, k8, k9] = .ok (.d (.tup [.str y, .bl (decide (0 < p2.v 3))])) [(p2.n 3).l, k1, k2, some (.d (.lst nd)), k4, some (.d (.str y)), k6, k7, k8, k9] := by
        simp [sSeq, sIf, sNx, sSet, sRet, sSub, subA, sDrop, sAug, sPat, xtB, xtT, xtNot, xtAnd, xtOr, x2, xVar, xD, xAnd, xOr, xNot, xNeg, xIf, xCh, xSl, xPart, slA, idxA, bind_ok, bind_ex, bind_no, Rv.at, cmpA, eqA, inA, bl?, truA, A.dc?, A.sq?, A.ls?, D.key, binA, binI, asgV, toD, putD, putN, ownB, xFz, xAr, xaCons, xaNil, xTup, xLst, xDic0, allD, xCB, BI.f, atAll, lenA, maxA, minA, intA, strA, isiA, tyN, A.ty, Ty.isa, xCF, callX, spill, callT, slotsOf, argsOf, isV, backOf, finE, retOf, backE, isOb, A.own, gN, gT, gAll, hcf]
      exact ok_sat hx ⟨_, rfl, ks ++ [(y, decide (0 < p2.v 3))], p2.n 3, by rw [List.map_append]; rfl, by rw [List.map_append, hk]; rfl, rfl⟩)
  exact ⟨ks, p2, hk, e⟩
theorem book_c1 (p : Pool) (ns ms : List Str) (hn : 1 ≤ ns.length) (hn2 : ns.length ≤ 1000) (hm : ms.length ≤ 1000) (k1 k2 k4 k5 k6 k8 : Option A) : ∃ (ls : List (Str × Str)) (p2 : Pool), ls.map (·.1) = ms ∧ (∀ x ∈ ls, x.2 ∈ ns) ∧ l_book_c1 [p.l, k1, k2, some (.d (.lst (ns.map .str))), k4, k5, k6, some (.l true (ms.map .str)), k8, none] = .ok (.n (.l true (ls.map ppD))) [p2.l, k1, k2, some (.d (.lst (ns.map .str))), k4, k5, k6, some (.d (.lst (ms.map .str))), k8, none] := by
  have hi : xIt (xFz 3 (xVar 7)) [p.l, k1, k2, some (.d (.lst (ns.map .str))), k4, k5, k6, some (.l true (ms.map .str)), k8, none] = .ok (ms.map .str) [p.l, k1, k2, some (.d (.lst (ns.map .str))), k4, k5, k6, some (.d (.lst (ms.map .str))), k8, none] := by
    simp [sSeq, sIf, sNx, sSet, sRet, sSub, subA, sDrop, sAug, sPat, xtB, xtT, xtNot, xtAnd, xtOr, x2, xVar, xD, xAnd, xOr, xNot, xNeg, xIf, xCh, xSl, xPart, slA, idxA, bind_ok, bind_ex, bind_no, Rv.at, cmpA, eqA, inA, bl?, truA, A.dc?, A.sq?, A.ls?, D.key, atI, ixN, binA, binI, asgV, toD, putD, putN, ownB, xFz, xAr, xaCons, xaNil, xTup, xLst, xDic0, allD, xCB, BI.f, atAll, lenA, maxA, minA, intA, strA, isiA, tyN, A.ty, Ty.isa, xCF, callX, spill, callT, slotsOf, argsOf, isV, backOf, finE, retOf, backE, isOb, A.own, gN, gT, gAll, xIt, itA]
  obtain ⟨ys, r2, e, ls, p2, rfl, hk, hx, rfl⟩ := lc_inv (vs := [9]) (g := gN 3 9) (t := fun r => .ok true r) (x := xFz 3 (xTup (xaCons (xFz 3 (xVar 9)) (xaCons (xFz 3 (x2 idxA (xVar 3) (xCF f_l_draw (xaCons (xAr 3 (xVar 0)) (xaCons (xFz 3 (xCB (BI.f .len) (xaCons (xAr 3 (xVar 3)) xaNil))) xaNil))))) xaNil)))) hi rfl (by omega)
    (fun done acc r => ∃ (ls : List (Str × Str)) (p2 : Pool), acc = ls.map ppD ∧ ls.map (·.1) = done ∧ (∀ x ∈ ls, x.2 ∈ ns) ∧ r = [p2.l, k1, k2, some (.d (.lst (ns.map .str))), k4, k5, k6, some (.d (.lst (ms.map .str))), k8, none])
    ⟨[], p, rfl, rfl, (fun c h => by cases h), rfl⟩
    (fun done y rest acc r e hI => by
      obtain ⟨ls, p2, rfl, hk, hx, rfl⟩ := hI
      refine ⟨_, rfl, ?_⟩
      have hcf := cf_dr draw_ok (ar := 3) (i := 0) (p := p2) (e := xCB (BI.f .len) (xaCons (xAr 3 (xVar 3)) xaNil)) (m := (ns.length : Int)) (r1 := [p2.l, k1, k2, some (.d (.lst (ns.map .str))), k4, k5, k6, some (.d (.lst (ms.map .str))), k8, some (.d (.str y))]) (r := [p2.l, k1, k2, some (.d (.lst (ns.map .str))), k4, k5, k6, some (.d (.lst (ms.map .str))), k8, some (.d (.str y))]) rfl (by simp [sSeq, sIf, sNx, sSet, sRet, sSub, subA, sDrop, sAug, sPat, xtB, xtT, xtNot, xtAnd, xtOr, x2, xVar, xD, xAnd, xOr, xNot, xNeg, xIf, xCh, xSl, xPart, slA, idxA, bind_ok, bind_ex, bind_no, Rv.at, cmpA, eqA, inA, bl?, truA, A.dc?, A.sq?, A.ls?, D.key, atI, ixN, binA, binI, asgV, toD, putD, putN, ownB, xFz, xAr, xaCons, xaNil, xTup, xLst, xDic0, allD, xCB, BI.f, atAll, lenA, maxA, minA, intA, strA, isiA, tyN, A.ty, Ty.isa, xCF, callX, spill, callT, slotsOf, argsOf, isV, backOf, finE, retOf, backE, isOb, A.own, gN, gT, gAll]) rfl (by omega) (by omega)
      obtain ⟨z, hz, hz2⟩ := steps_pick ns _ (p2.v0 (m := (ns.length : Int)) (by omega)) (p2.v1 (m := (ns.length : Int)) (by omega))
      show (xFz 3 _ _).sat _
      generalize xCF f_l_draw (xaCons (xAr 3 (xVar 0)) (xaCons (xFz 3 (xCB (BI.f .len) (xaCons (xAr 3 (xVar 3)) xaNil))) xaNil)) = cf at *
      generalize ns.map D.str = nd at *
      generalize ms.map D.str = md at *
      have hx2 : xFz 3 (xTup (xaCons (xFz 3 (xVar 9)) (xaCons (xFz 3 (x2 idxA (xVar 3) cf)) xaNil))) [p2.l, k1, k2, some (.d (.lst nd)), k4, k5, k6, some (.d (.lst md)), k8, some (.d (.str y))] = .ok (.d (.tup [.str y, .str z])) [(p2.n ns.length).l, k1, k2, some (.d (.lst nd)), k4, k5, k6, some (.d (.lst md)), k8, some (.d (.str y))] := by
        simp [sSeq, sIf, sNx, sSet, sRet, sSub, subA, sDrop, sAug, sPat, xtB, xtT, xtNot, xtAnd, xtOr, x2, xVar, xD, xAnd, xOr, xNot, xNeg, xIf, xCh, xSl, xPart, slA, idxA, bind_ok, bind_ex, bind_no, Rv.at, cmpA, eqA, inA, bl?, truA, A.dc?, A.sq?, A.ls?, D.key, binA, binI, asgV, toD, putD, putN, ownB, xFz, xAr, xaCons, xaNil, xTup, xLst, xDic0, allD, xCB, BI.f, atAll, lenA, maxA, minA, intA, strA, isiA, tyN, A.ty, Ty.isa, xCF, callX, spill, callT, slotsOf, argsOf, isV, backOf, finE, retOf, backE, isOb, A.own, gN, gT, gAll, hcf, hz2]
      refine ok_sat hx2 ⟨_, rfl, ls ++ [(y, z)], p2.n ns.length, by rw [List.map_append]; rfl, by rw [List.map_append, hk]; rfl, fun d hd => ?_, rfl⟩
      rcases List.mem_append.mp hd with h | h
      · exact hx d h
      · simp at h; subst h; exact hz)
  exact ⟨ls, p2, hk, hx, e⟩
theorem book_body (p : Pool) (ns : List Str) (hn : 1 ≤ ns.length) (hn2 : ns.length ≤ 1000) (z : Str) (hz : IsNm z) (ds : List Dl) (hd : ds.length ≤ 1000) (k1 k2 k4 k7 k8 : Option A) : ∃ (d : Dl) (p2 : Pool) (j7 j8 : Option A), d.nm = z ∧ DlOk ns d ∧ l_book_b1 [p.l, k1, k2, some (.d (.lst (ns.map .str))), k4, some (.d (.str z)), some (.l true (ds.map Dl.D)), k7, k8, none] = .ok .nx [p2.l, k1, k2, some (.d (.lst (ns.map .str))), k4, some (.d (.str z)), some (.l true ((ds ++ [d]).map Dl.D)), j7, j8, none] := by
  have hcf := cf_dr draw_ok (ar := 3) (i := 0) (p := p) (e := xD (.int 4)) (m := 4) (r1 := [p.l, k1, k2, some (.d (.lst (ns.map .str))), k4, some (.d (.str z)), some (.l true (ds.map Dl.D)), k7, k8, none]) (r := [p.l, k1, k2, some (.d (.lst (ns.map .str))), k4, some (.d (.str z)), some (.l true (ds.map Dl.D)), k7, k8, none]) rfl rfl rfl (by omega) (by omega)
  obtain ⟨n, hn1, hn4, hnv⟩ : ∃ n : Nat, 1 ≤ n ∧ n ≤ 4 ∧ 1 + p.v 4 = (n : Int) := by
    have a0 := p.v0 (m := 4) (by omega)
    have a1 := p.v1 (m := 4) (by omega)
    exact ⟨(1 + p.v 4).toNat, by omega, by omega, by omega⟩
  have hfz : xFz 3 (x2 (binA .Add) (xD (.int 1)) (xCF f_l_draw (xaCons (xAr 3 (xVar 0)) (xaCons (xFz 3 (xD (.int 4))) xaNil)))) [p.l, k1, k2, some (.d (.lst (ns.map .str))), k4, some (.d (.str z)), some (.l true (ds.map Dl.D)), k7, k8, none] = .ok (.d (.int n)) [(p.n 4).l, k1, k2, some (.d (.lst (ns.map .str))), k4, some (.d (.str z)), some (.l true (ds.map Dl.D)), k7, k8, none] := by
    generalize xCF f_l_draw (xaCons (xAr 3 (xVar 0)) (xaCons (xFz 3 (xD (.int 4))) xaNil)) = cf at *
    generalize ns.map D.str = nd at *
    generalize ds.map Dl.D = dd at *
    simp [sSeq, sIf, sNx, sSet, sRet, sSub, subA, sDrop, sAug, sPat, xtB, xtT, xtNot, xtAnd, xtOr, x2, xVar, xD, xAnd, xOr, xNot, xNeg, xIf, xCh, xSl, xPart, slA, idxA, bind_ok, bind_ex, bind_no, Rv.at, cmpA, eqA, inA, bl?, truA, A.dc?, A.sq?, A.ls?, D.key, binA, binI, asgV, toD, putD, putN, ownB, xFz, xAr, xaCons, xaNil, xTup, xLst, xDic0, allD, xCB, BI.f, atAll, lenA, maxA, minA, intA, strA, isiA, tyN, A.ty, Ty.isa, xCF, callX, spill, callT, slotsOf, argsOf, isV, backOf, finE, retOf, backE, isOb, A.own, gN, gT, gAll, hcf, hnv]
  obtain ⟨ms, p2, hml, hmn, hmt, hmc⟩ := cf_marks (p.n 4) n (by omega)
  have e1 : sSet 3 7 (xCF f_l_marks (xaCons (xAr 3 (xVar 0)) (xaCons (xFz 3 (x2 (binA .Add) (xD (.int 1)) (xCF f_l_draw (xaCons (xAr 3 (xVar 0)) (xaCons (xFz 3 (xD (.int 4))) xaNil))))) xaNil))) [p.l, k1, k2, some (.d (.lst (ns.map .str))), k4, some (.d (.str z)), some (.l true (ds.map Dl.D)), k7, k8, none] = .ok .nx [p2.l, k1, k2, some (.d (.lst (ns.map .str))), k4, some (.d (.str z)), some (.l true (ds.map Dl.D)), some (.l true (ms.map .str)), k8, none] := by
    unfold sSet
    rw [hmc rfl hfz rfl]
    rfl
  obtain ⟨ls, p3, hl1, hl2, e2⟩ := book_c1 p2 ns ms hn hn2 (by omega) k1 k2 k4 (some (.d (.str z))) (some (.l true (ds.map Dl.D))) k8
  have e3 : sSet 3 8 l_book_c1 [p2.l, k1, k2, some (.d (.lst (ns.map .str))), k4, some (.d (.str z)), some (.l true (ds.map Dl.D)), some (.l true (ms.map .str)), k8, none] = .ok .nx [p3.l, k1, k2, some (.d (.lst (ns.map .str))), k4, some (.d (.str z)), some (.l true (ds.map Dl.D)), some (.d (.lst (ms.map .str))), some (.l true (ls.map ppD)), none] := by
    unfold sSet
    rw [e2]
    rfl
  obtain ⟨st, p4, hs1, hs2, hs3, hs4, hsc⟩ := cf_steps p3 ms (by omega) (by omega)
  have hcs := hsc (e := xVar 7) (ar := 3) (r := [p3.l, k1, k2, some (.d (.lst (ns.map .str))), k4, some (.d (.str z)), some (.l true (ds.map Dl.D)), some (.d (.lst (ms.map .str))), some (.d (.lst (ls.map ppD))), none]) (r1 := [p3.l, k1, k2, some (.d (.lst (ns.map .str))), k4, some (.d (.str z)), some (.l true (ds.map Dl.D)), some (.d (.lst (ms.map .str))), some (.d (.lst (ls.map ppD))), none]) rfl rfl rfl
  have hll : ls.length = ms.length := by rw [← hl1, List.length_map]
  refine ⟨⟨z, ls, st⟩, p4, some (.d (.lst (ms.map .str))), some (.d (.lst (ls.map ppD))), rfl, ⟨hz, by show 1 ≤ ls.length; omega, by show ls.length ≤ 4; omega, by show (ls.map (·.1)).Nodup; rw [hl1]; exact hmn, fun x hx => hmt _ (by rw [← hl1]; exact List.mem_map.mpr ⟨x, hx, rfl⟩), hl2, by show 1 ≤ st.length; omega, by show st.length ≤ 8; omega, fun s hs => (hs3 s hs).1, fun s hs => by show s.2 ∈ ls.map (·.1); rw [hl1]; exact (hs3 s hs).2, fun x hx => hs4 _ (by rw [← hl1]; exact List.mem_map.mpr ⟨x, hx, rfl⟩)⟩, ?_⟩
  unfold l_book_b1
  rw [seq_nx e1, seq_nx e3]
  have hdl : (ds.map Dl.D).length < 100000 := by rw [List.length_map]; omega
  have hmap : (ds ++ [(⟨z, ls, st⟩ : Dl)]).map Dl.D = ds.map Dl.D ++ [.tup [.str z, .lst (ls.map ppD), .lst (st.map ppD)]] := by rw [List.map_append]; rfl
  rw [hmap]
  generalize xCF f_l_steps (xaCons (xAr 3 (xVar 0)) (xaCons (xFz 3 (xVar 7)) xaNil)) = cf at *
  generalize ns.map D.str = nd at *
  generalize ds.map Dl.D = dd at *
  generalize ms.map D.str = md at *
  generalize ls.map ppD = ld at *
  generalize st.map ppD = sd at *
  simp [sSeq, sIf, sNx, sSet, sRet, sSub, subA, sDrop, sAug, sPat, xtB, xtT, xtNot, xtAnd, xtOr, x2, xVar, xD, xAnd, xOr, xNot, xNeg, xIf, xCh, xSl, xPart, slA, idxA, bind_ok, bind_ex, bind_no, Rv.at, cmpA, eqA, inA, bl?, truA, A.dc?, A.sq?, A.ls?, D.key, binA, binI, asgV, toD, putD, putN, ownB, xFz, xAr, xaCons, xaNil, xTup, xLst, xDic0, allD, xCB, BI.f, atAll, lenA, maxA, minA, intA, strA, isiA, tyN, A.ty, Ty.isa, xCF, callX, spill, callT, slotsOf, argsOf, isV, backOf, finE, retOf, backE, isOb, A.own, gN, gT, gAll, xMe, MI.T, MI.f, MT.of, appA, putV, hcs, hdl]
theorem book_ex (p : Pool) (mk md : Nat) (hk1 : 1 ≤ mk) (hk : mk ≤ 25) (hd1 : 1 ≤ md) (hd : md ≤ 25) : ∃ (b : Bk) (p2 : Pool), BkOk b mk md ∧ f_l_book.sem [p.l, some (.d (.int mk)), some (.d (.int md))] = .ok (.d b.D) [p2.l, some (.d (.int mk)), some (.d (.int md))] := by
  have hcf := cf_dr draw_ok (ar := 3) (i := 0) (p := p) (e := xVar 1) (m := (mk : Int)) (r1 := [p.l, some (.d (.int mk)), some (.d (.int md)), none, none, none, none, none, none, none]) (r := [p.l, some (.d (.int mk)), some (.d (.int md)), none, none, none, none, none, none, none]) rfl rfl rfl (by omega) (by omega)
  obtain ⟨n, hn1, hn4, hnv⟩ : ∃ n : Nat, 1 ≤ n ∧ n ≤ mk ∧ 1 + p.v mk = (n : Int) := by
    have a0 := p.v0 (m := (mk : Int)) (by omega)
    have a1 := p.v1 (m := (mk : Int)) (by omega)
    exact ⟨(1 + p.v mk).toNat, by omega, by omega, by omega⟩
  have hfz : xFz 3 (x2 (binA .Add) (xD (.int 1)) (xCF f_l_draw (xaCons (xAr 3 (xVar 0)) (xaCons (xFz 3 (xVar 1)) xaNil)))) [p.l, some (.d (.int mk)), some (.d (.int md)), none, none, none, none, none, none, none] = .ok (.d (.int n)) [(p.n mk).l, some (.d (.int mk)), some (.d (.int md)), none, none, none, none, none, none, none] := by
    generalize xCF f_l_draw (xaCons (xAr 3 (xVar 0)) (xaCons (xFz 3 (xVar 1)) xaNil)) = cf at *
    simp [sSeq, sIf, sNx, sSet, sRet, sSub, subA, sDrop, sAug, sPat, xtB, xtT, xtNot, xtAnd, xtOr, x2, xVar, xD, xAnd, xOr, xNot, xNeg, xIf, xCh, xSl, xPart, slA, idxA, bind_ok, bind_ex, bind_no, Rv.at, cmpA, eqA, inA, bl?, truA, A.dc?, A.sq?, A.ls?, D.key, binA, binI, asgV, toD, putD, putN, ownB, xFz, xAr, xaCons, xaNil, xTup, xLst, xDic0, allD, xCB, BI.f, atAll, lenA, maxA, minA, intA, strA, isiA, tyN, A.ty, Ty.isa, xCF, callX, spill, callT, slotsOf, argsOf, isV, backOf, finE, retOf, backE, isOb, A.own, gN, gT, gAll, hcf, hnv]
  obtain ⟨ns, p2, hnl, hnn, hnm, hnc⟩ := cf_names (p.n mk) n (by omega)
  have e1 : sSet 3 3 (xCF f_l_names (xaCons (xAr 3 (xVar 0)) (xaCons (xFz 3 (x2 (binA .Add) (xD (.int 1)) (xCF f_l_draw (xaCons (xAr 3 (xVar 0)) (xaCons (xFz 3 (xVar 1)) xaNil))))) xaNil))) [p.l, some (.d (.int mk)), some (.d (.int md)), none, none, none, none, none, none, none] = .ok .nx [p2.l, some (.d (.int mk)), some (.d (.int md)), some (.l true (ns.map .str)), none, none, none, none, none, none] := by
    unfold sSet
    rw [hnc rfl hfz rfl]
    rfl
  obtain ⟨ks, p3, hks, e2⟩ := book_c2 p2 ns (by omega) (some (.d (.int mk))) (some (.d (.int md))) none none none none none
  have e3 : sSet 3 4 l_book_c2 [p2.l, some (.d (.int mk)), some (.d (.int md)), some (.l true (ns.map .str)), none, none, none, none, none, none] = .ok .nx [p3.l, some (.d (.int mk)), some (.d (.int md)), some (.d (.lst (ns.map .str))), some (.l true (ks.map kdD)), none, none, none, none, none] := by
    unfold sSet
    rw [e2]
    rfl
  have e4 : sSet 3 6 (xLst xaNil) [p3.l, some (.d (.int mk)), some (.d (.int md)), some (.d (.lst (ns.map .str))), some (.l true (ks.map kdD)), none, none, none, none, none] = .ok .nx [p3.l, some (.d (.int mk)), some (.d (.int md)), some (.d (.lst (ns.map .str))), some (.l true (ks.map kdD)), none, some (.l true []), none, none, none] := rfl
  have hcf5 := cf_dr draw_ok (ar := 3) (i := 0) (p := p3) (e := xVar 2) (m := (md : Int)) (r1 := [p3.l, some (.d (.int mk)), some (.d (.int md)), some (.d (.lst (ns.map .str))), some (.l true (ks.map kdD)), none, some (.l true []), none, none, none]) (r := [p3.l, some (.d (.int mk)), some (.d (.int md)), some (.d (.lst (ns.map .str))), some (.l true (ks.map kdD)), none, some (.l true []), none, none, none]) rfl rfl rfl (by omega) (by omega)
  obtain ⟨nd, hd1, hd4, hdv⟩ : ∃ n : Nat, 1 ≤ n ∧ n ≤ md ∧ 1 + p3.v md = (n : Int) := by
    have a0 := p3.v0 (m := (md : Int)) (by omega)
    have a1 := p3.v1 (m := (md : Int)) (by omega)
    exact ⟨(1 + p3.v md).toNat, by omega, by omega, by omega⟩
  have hfz5 : xFz 3 (x2 (binA .Add) (xD (.int 1)) (xCF f_l_draw (xaCons (xAr 3 (xVar 0)) (xaCons (xFz 3 (xVar 2)) xaNil)))) [p3.l, some (.d (.int mk)), some (.d (.int md)), some (.d (.lst (ns.map .str))), some (.l true (ks.map kdD)), none, some (.l true []), none, none, none] = .ok (.d (.int nd)) [(p3.n md).l, some (.d (.int mk)), some (.d (.int md)), some (.d (.lst (ns.map .str))), some (.l true (ks.map kdD)), none, some (.l true []), none, none, none] := by
    generalize xCF f_l_draw (xaCons (xAr 3 (xVar 0)) (xaCons (xFz 3 (xVar 2)) xaNil)) = cf at *
    generalize ns.map D.str = nsd at *
    generalize ks.map kdD = ksd at *
    simp [sSeq, sIf, sNx, sSet, sRet, sSub, subA, sDrop, sAug, sPat, xtB, xtT, xtNot, xtAnd, xtOr, x2, xVar, xD, xAnd, xOr, xNot, xNeg, xIf, xCh, xSl, xPart, slA, idxA, bind_ok, bind_ex, bind_no, Rv.at, cmpA, eqA, inA, bl?, truA, A.dc?, A.sq?, A.ls?, D.key, binA, binI, asgV, toD, putD, putN, ownB, xFz, xAr, xaCons, xaNil, xTup, xLst, xDic0, allD, xCB, BI.f, atAll, lenA, maxA, minA, intA, strA, isiA, tyN, A.ty, Ty.isa, xCF, callX, spill, callT, slotsOf, argsOf, isV, backOf, finE, retOf, backE, isOb, A.own, gN, gT, gAll, hcf5, hdv]
  obtain ⟨dn, p5, hdl, hdn, hdm, hdc⟩ := cf_names (p3.n md) nd (by omega)
  have hi : xIt (xFz 3 (xCF f_l_names (xaCons (xAr 3 (xVar 0)) (xaCons (xFz 3 (x2 (binA .Add) (xD (.int 1)) (xCF f_l_draw (xaCons (xAr 3 (xVar 0)) (xaCons (xFz 3 (xVar 2)) xaNil))))) xaNil)))) [p3.l, some (.d (.int mk)), some (.d (.int md)), some (.d (.lst (ns.map .str))), some (.l true (ks.map kdD)), none, some (.l true []), none, none, none] = .ok (dn.map .str) [p5.l, some (.d (.int mk)), some (.d (.int md)), some (.d (.lst (ns.map .str))), some (.l true (ks.map kdD)), none, some (.l true []), none, none, none] := by
    have hc := hdc (ar := 3) (r := [p3.l, some (.d (.int mk)), some (.d (.int md)), some (.d (.lst (ns.map .str))), some (.l true (ks.map kdD)), none, some (.l true []), none, none, none]) rfl hfz5 rfl
    unfold xIt xFz
    unfold xFz at hc
    rw [hc]
    rfl
  obtain ⟨r2, hf, ds, p6, k5, k7, k8, rfl, hlen, hok⟩ := for_inv (g := gN 3 5) (b := l_book_b1) hi (fun done r => ∃ (ds : List Dl) (p2 : Pool) (k5 k7 k8 : Option A), r = [p2.l, some (.d (.int mk)), some (.d (.int md)), some (.d (.lst (ns.map .str))), some (.l true (ks.map kdD)), k5, some (.l true (ds.map Dl.D)), k7, k8, none] ∧ ds.map (·.nm) = done ∧ ∀ d ∈ ds, DlOk ns d)
    ⟨[], p5, none, none, none, rfl, rfl, (fun c h => by cases h)⟩
    (fun done x rest r e hI => by
      obtain ⟨ds, p2, k5, k7, k8, rfl, hlen, hok⟩ := hI
      refine ⟨_, rfl, ?_⟩
      have hdl2 : ds.length ≤ 1000 := by
        have h1 := congrArg List.length e
        have h2 := congrArg List.length hlen
        simp at h1 h2
        omega
      obtain ⟨d, p3, j7, j8, hdn2, hdo, eb⟩ := book_body p2 ns (by omega) (by omega) x (hdm x (by rw [e]; simp)) ds hdl2 (some (.d (.int mk))) (some (.d (.int md))) (some (.l true (ks.map kdD))) k7 k8
      refine ok_sat eb ⟨rfl, ds ++ [d], p3, _, _, _, rfl, by rw [List.map_append, hlen]; simp [hdn2], fun y hy => ?_⟩
      rcases List.mem_append.mp hy with h | h
      · exact hok y h
      · simp at h; subst h; exact hdo)
  have hkl : ks.length = ns.length := by rw [← hks, List.length_map]
  have hdl3 : ds.length = dn.length := by rw [← hlen, List.length_map]
  refine ⟨⟨ks, ds⟩, p6, ⟨by show 1 ≤ ks.length; omega, by show ks.length ≤ mk; omega, by show (ks.map (·.1)).Nodup; rw [hks]; exact hnn, fun k hk => hnm _ (by rw [← hks]; exact List.mem_map.mpr ⟨k, hk, rfl⟩), by show 1 ≤ ds.length; omega, by show ds.length ≤ md; omega, by show (ds.map (·.nm)).Nodup; rw [hlen]; exact hdn, fun d hd => by show DlOk (ks.map (·.1)) d; rw [hks]; exact hok d hd⟩, ?_⟩
  rw [sem_l_book _ rfl]
  show finE _ (b_l_book [p.l, some (.d (.int mk)), some (.d (.int md)), none, none, none, none, none, none, none]) = _
  unfold b_l_book
  rw [seq_nx e1, seq_nx e3, seq_nx e4, seq_nx (show l_book_f1 _ = _ from hf)]
  unfold Bk.D
  generalize ns.map D.str = nsd at *
  generalize ks.map kdD = ksd at *
  generalize ds.map Dl.D = dsd at *
  simp [sSeq, sIf, sNx, sSet, sRet, sSub, subA, sDrop, sAug, sPat, xtB, xtT, xtNot, xtAnd, xtOr, x2, xVar, xD, xAnd, xOr, xNot, xNeg, xIf, xCh, xSl, xPart, slA, idxA, bind_ok, bind_ex, bind_no, Rv.at, cmpA, eqA, inA, bl?, truA, A.dc?, A.sq?, A.ls?, D.key, atI, ixN, binA, binI, asgV, toD, putD, putN, ownB, xFz, xAr, xaCons, xaNil, xTup, xLst, xDic0, allD, xCB, BI.f, atAll, lenA, maxA, minA, intA, strA, isiA, tyN, A.ty, Ty.isa, xCF, callX, spill, callT, slotsOf, argsOf, isV, backOf, finE, retOf, backE, isOb, A.own, gN, gT, gAll]
theorem pow18 : x2 (binA .Pow) (xD (.int 10)) (xD (.int 18)) = xD (.int 1000000000000000000) := funext fun r => by kernel_rfl
theorem pool_cell (ns : List Int) (k : Nat) : ∃ c : Int, sIf (xtB (x2 (fun p q => bl? (cmpA .Lt p q)) (xVar 1) (xCB (BI.f .len) (xaCons (xAr 2 (xVar 0)) xaNil)))) (sSeq (sSet 2 2 (x2 idxA (xVar 0) (xVar 1))) sNx) sNx [some (.d (.rl (ns.map D.int))), some (.d (.int k)), some (.d (.int 0)), none, none] = .ok .nx [some (.d (.rl (ns.map D.int))), some (.d (.int k)), some (.d (.int c)), none, none] := by
  by_cases h : k < ns.length
  · refine ⟨ns[k], ?_⟩
    simp [sSeq, sIf, sNx, sSet, sRet, sSub, subA, sDrop, sAug, sPat, xtB, xtT, xtNot, xtAnd, xtOr, x2, xVar, xD, xAnd, xOr, xNot, xNeg, xIf, xCh, xSl, xPart, slA, idxA, bind_ok, bind_ex, bind_no, Rv.at, cmpA, eqA, inA, bl?, truA, A.dc?, A.sq?, A.ls?, D.key, atI, ixN, binA, binI, asgV, toD, putD, putN, ownB, xFz, xAr, xaCons, xaNil, xTup, xLst, xDic0, allD, xCB, BI.f, atAll, lenA, maxA, minA, intA, strA, isiA, tyN, A.ty, Ty.isa, xCF, callX, spill, callT, slotsOf, argsOf, isV, backOf, finE, retOf, backE, isOb, A.own, gN, gT, gAll, h]
  · refine ⟨0, ?_⟩
    simp [sSeq, sIf, sNx, sSet, sRet, sSub, subA, sDrop, sAug, sPat, xtB, xtT, xtNot, xtAnd, xtOr, x2, xVar, xD, xAnd, xOr, xNot, xNeg, xIf, xCh, xSl, xPart, slA, idxA, bind_ok, bind_ex, bind_no, Rv.at, cmpA, eqA, inA, bl?, truA, A.dc?, A.sq?, A.ls?, D.key, atI, ixN, binA, binI, asgV, toD, putD, putN, ownB, xFz, xAr, xaCons, xaNil, xTup, xLst, xDic0, allD, xCB, BI.f, atAll, lenA, maxA, minA, intA, strA, isiA, tyN, A.ty, Ty.isa, xCF, callX, spill, callT, slotsOf, argsOf, isV, backOf, finE, retOf, backE, isOb, A.own, gN, gT, gAll, h]
theorem pool_size (ns : List Int) (k : Nat) (c : Int) : ∃ z : Int, 0 ≤ z ∧ sSet 2 3 (xCB (BI.f .max) (xaCons (xAr 2 (xVar 2)) (xaCons (xAr 2 (x2 (binA .Sub) (xNeg (xD (.int 1))) (xVar 2))) xaNil))) [some (.d (.rl (ns.map D.int))), some (.d (.int k)), some (.d (.int c)), none, none] = .ok .nx [some (.d (.rl (ns.map D.int))), some (.d (.int k)), some (.d (.int c)), some (.d (.int z)), none] := by
  refine ⟨if -1 - c > c then -1 - c else c, ?_, rfl⟩
  split <;> omega
theorem pool_lastG (w : Int) (ns : List Int) (k : Nat) (c z : Int) (hz : 0 ≤ z) : ∃ v : Int, 0 ≤ v ∧ ∀ m : Int, sRet (xLst (xaCons (xFz 2 (x2 (binA .Mult) (xVar 3) (xCB (BI.f .int) (xaCons (xAr 2 (x2 (fun p q => bl? (cmpA .GtE p q)) (xVar 3) (xD (.int w)))) xaNil)))) (xaCons (xFz 2 (xVar 4)) xaNil))) [some (.d (.rl (ns.map D.int))), some (.d (.int k)), some (.d (.int c)), some (.d (.int z)), some (.d (.int m))]
    = .ok (.rt (.n (.l true [.int v, .int m]))) [some (.d (.rl (ns.map D.int))), some (.d (.int k)), some (.d (.int c)), some (.d (.int z)), some (.d (.int m))] := by
  by_cases h : w ≤ z
  · refine ⟨z, hz, fun m => ?_⟩
    simp [sSeq, sIf, sNx, sSet, sRet, sSub, subA, sDrop, sAug, sPat, xtB, xtT, xtNot, xtAnd, xtOr, x2, xVar, xD, xAnd, xOr, xNot, xNeg, xIf, xCh, xSl, xPart, slA, idxA, bind_ok, bind_ex, bind_no, Rv.at, cmpA, eqA, inA, bl?, truA, A.dc?, A.sq?, A.ls?, D.key, atI, ixN, binA, binI, asgV, toD, putD, putN, ownB, xFz, xAr, xaCons, xaNil, xTup, xLst, xDic0, allD, xCB, BI.f, atAll, lenA, maxA, minA, intA, strA, isiA, tyN, A.ty, Ty.isa, xCF, callX, spill, callT, slotsOf, argsOf, isV, backOf, finE, retOf, backE, isOb, A.own, gN, gT, gAll, h]
  · refine ⟨0, Int.le_refl _, fun m => ?_⟩
    simp [sSeq, sIf, sNx, sSet, sRet, sSub, subA, sDrop, sAug, sPat, xtB, xtT, xtNot, xtAnd, xtOr, x2, xVar, xD, xAnd, xOr, xNot, xNeg, xIf, xCh, xSl, xPart, slA, idxA, bind_ok, bind_ex, bind_no, Rv.at, cmpA, eqA, inA, bl?, truA, A.dc?, A.sq?, A.ls?, D.key, atI, ixN, binA, binI, asgV, toD, putD, putN, ownB, xFz, xAr, xaCons, xaNil, xTup, xLst, xDic0, allD, xCB, BI.f, atAll, lenA, maxA, minA, intA, strA, isiA, tyN, A.ty, Ty.isa, xCF, callX, spill, callT, slotsOf, argsOf, isV, backOf, finE, retOf, backE, isOb, A.own, gN, gT, gAll, h]
theorem pool_hmG (q1 q2 q3 q4 q5 q6 : Int) (h1 : 0 < q1) (h6 : 0 < q6) (a2 : -18446744073709551616 < q2) (b2 : q2 < 18446744073709551616) (a3 : -18446744073709551616 < q3) (b3 : q3 < 18446744073709551616) (a5 : -18446744073709551616 < q5) (b5 : q5 < 18446744073709551616) (ns : List Int) (k : Nat) (c z : Int) (hk : k ≤ 100) :
    ∃ v : Int, 0 ≤ v ∧ v < q6 ∧ sSet 2 4 (x2 (binA .Mod) (x2 (binA .Mult) (x2 (binA .Add) (x2 (binA .Add) (x2 (binA .Add) (x2 (binA .Mod) (xVar 3) (xD (.int q1))) (x2 (binA .Mult) (x2 (binA .Mult) (xD (.int q2)) (xVar 1)) (xVar 1))) (x2 (binA .Mult) (xD (.int q3)) (xVar 1))) (xD (.int q4))) (xD (.int q5))) (xD (.int q6))) [some (.d (.rl (ns.map D.int))), some (.d (.int k)), some (.d (.int c)), some (.d (.int z)), none]
      = .ok .nx [some (.d (.rl (ns.map D.int))), some (.d (.int k)), some (.d (.int c)), some (.d (.int z)), some (.d (.int v))] := by
  have hk1 : -18446744073709551616 < (k : Int) := by omega
  have hk2 : (k : Int) < 18446744073709551616 := by omega
  generalize (k : Int) = j at *
  refine ⟨(z % q1 + q2 * j * j + q3 * j + q4) * q5 % q6, Int.emod_nonneg _ (by omega), Int.emod_lt_of_pos _ h6, ?_⟩
  simp [sSeq, sIf, sNx, sSet, sRet, sSub, subA, sDrop, sAug, sPat, xtB, xtT, xtNot, xtAnd, xtOr, x2, xVar, xD, xAnd, xOr, xNot, xNeg, xIf, xCh, xSl, xPart, slA, idxA, bind_ok, bind_ex, bind_no, Rv.at, cmpA, eqA, inA, bl?, truA, A.dc?, A.sq?, A.ls?, D.key, atI, ixN, binA, binI, asgV, toD, putD, putN, ownB, xFz, xAr, xaCons, xaNil, xTup, xLst, xDic0, allD, xCB, BI.f, atAll, lenA, maxA, minA, intA, strA, isiA, tyN, A.ty, Ty.isa, xCF, callX, spill, callT, slotsOf, argsOf, isV, backOf, finE, retOf, backE, isOb, A.own, gN, gT, gAll, hk1, hk2, h1, h6, a2, b2, a3, b3, a5, b5]
theorem pool_ex (ns : List Int) (k : Nat) (hk : k ≤ 100) : ∃ p : Pool, f_l_pool.sem [some (.d (.rl (ns.map D.int))), some (.d (.int k))] = .ok (.n (.l true [.int p.a, .int p.b])) [some (.d (.rl (ns.map D.int))), some (.d (.int k))] := by
  obtain ⟨c, hc⟩ := pool_cell ns k
  obtain ⟨z, hz, hs⟩ := pool_size ns k c
  obtain ⟨m, hm0, hm1, hm⟩ := pool_hmG 2147483629 7919 31 17 48271 2147483647 (by omega) (by omega) (by omega) (by omega) (by omega) (by omega) (by omega) (by omega) ns k c z hk
  obtain ⟨v, hv, hl⟩ := pool_lastG 1000000000000000000 ns k c z hz
  refine ⟨⟨v, m, hv, hm0, hm1⟩, ?_⟩
  have h0 : sSet 2 2 (xD (.int 0)) [some (.d (.rl (ns.map D.int))), some (.d (.int k)), none, none, none] = .ok .nx [some (.d (.rl (ns.map D.int))), some (.d (.int k)), some (.d (.int 0)), none, none] := rfl
  rw [sem_l_pool _ rfl]
  show finE _ (b_l_pool [some (.d (.rl (ns.map D.int))), some (.d (.int k)), none, none, none]) = _
  unfold b_l_pool
  rw [pow18, seq_nx h0, seq_nx hc, seq_nx hs, seq_nx hm, seq_rt (hl m)]
  rfl
theorem alone_ex (b : Bk) (mk md : Nat) (hb : BkOk b mk md) (d : Dl) (hd : d ∈ b.ds) : f_l_alone_written.sem [some (.d b.D), some (.d d.D)] = .ok (.n (.l true ((aloneL b.ks d.ls d.st).map .str))) [some (.d b.D), some (.d d.D)] := by
  have hdl := hb.dok d hd
  have h8 := hdl.s8
  have hi : xIt (xFz 2 (x2 idxA (xVar 1) (xD (.int 2)))) [some (.d b.D), some (.d d.D), some (.m (dicK b.ks)), some (.m (dicL d.ls)), none, none] = .ok (d.st.map ppD) [some (.d b.D), some (.d d.D), some (.m (dicK b.ks)), some (.m (dicL d.ls)), none, none] := rfl
  have e : l_alone_written_c1 [some (.d b.D), some (.d d.D), some (.m (dicK b.ks)), some (.m (dicL d.ls)), none, none] = .ok (.n (.l true ((aloneL b.ks d.ls d.st).map .str))) [some (.d b.D), some (.d d.D), some (.m (dicK b.ks)), some (.m (dicL d.ls)), none, none] := by
    obtain ⟨ys, r2, e, rfl, rfl⟩ := lc_inv (vs := [4, 5]) (g := gT [(gN 2 4), (gN 2 5)]) (t := xtAnd (xtB (x2 (fun p q => bl? (cmpA .NotEq p q)) (xVar 4) (xD (.str "read")))) (xtNot (xtT (x2 idxA (xVar 2) (x2 idxA (xVar 3) (xVar 5)))))) (x := xFz 2 (x2 idxA (xVar 3) (xVar 5))) hi rfl (by omega)
      (fun done acc r => acc = (aloneL b.ks d.ls done).map .str ∧ r = [some (.d b.D), some (.d d.D), some (.m (dicK b.ks)), some (.m (dicL d.ls)), none, none]) ⟨rfl, rfl⟩
      (fun done y rest acc r e hI => by
        obtain ⟨rfl, rfl⟩ := hI
        refine ⟨_, rfl, ?_⟩
        have hy : y ∈ d.st := by rw [e]; simp
        obtain ⟨x, hx, ex⟩ := List.mem_map.mp (hdl.sl y hy)
        have hk : kOf d.ls y.2 = x.2 := by rw [← ex, kOf_mem hdl.lnd hx]
        have hv := val_pp hdl.lnd hx
        rw [ex, ← hk] at hv
        obtain ⟨m, hm⟩ := lookup_mem (hdl.lk x hx)
        rw [← hk] at hm
        have hv2 := val_kd (kOf d.ls y.2) b.ks
        rw [hm] at hv2
        have hmm : mny b.ks (kOf d.ls y.2) = m := by unfold mny; rw [hm]; rfl
        have hs : aloneL b.ks d.ls (done ++ [y]) = aloneL b.ks d.ls done ++ (if (decide (y.1 ≠ ("read" : Str)) && !m) = true then [kOf d.ls y.2] else []) := by
          unfold aloneL
          rw [List.filter_append, List.map_append, ← hmm]
          congr 1
          exact filt1 _ _ _
        have ht : xtAnd (xtB (x2 (fun p q => bl? (cmpA .NotEq p q)) (xVar 4) (xD (.str "read")))) (xtNot (xtT (x2 idxA (xVar 2) (x2 idxA (xVar 3) (xVar 5))))) [some (.d b.D), some (.d d.D), some (.m (dicK b.ks)), some (.m (dicL d.ls)), some (.d (.str y.1)), some (.d (.str y.2))] = .ok (decide (y.1 ≠ ("read" : Str)) && !m) [some (.d b.D), some (.d d.D), some (.m (dicK b.ks)), some (.m (dicL d.ls)), some (.d (.str y.1)), some (.d (.str y.2))] := by
          generalize kOf d.ls y.2 = kk at *
          generalize dicK b.ks = dk at *
          generalize dicL d.ls = dl at *
          generalize b.D = bd at *
          generalize d.D = dd at *
          generalize (("read" : Str)) = rd at *
          by_cases h1 : y.1 = rd
          · simp [sSeq, sIf, sNx, sSet, sRet, sSub, subA, sDrop, sAug, sPat, xtB, xtT, xtNot, xtAnd, xtOr, x2, xVar, xD, xAnd, xOr, xNot, xNeg, xIf, xCh, xSl, xPart, slA, idxA, bind_ok, bind_ex, bind_no, Rv.at, cmpA, eqA, inA, bl?, truA, A.dc?, A.sq?, A.ls?, D.key, atI, ixN, binA, binI, asgV, toD, putD, putN, ownB, xFz, xAr, xaCons, xaNil, xTup, xLst, xDic0, allD, xCB, BI.f, atAll, lenA, maxA, minA, intA, strA, isiA, tyN, A.ty, Ty.isa, xCF, callX, spill, callT, slotsOf, argsOf, isV, backOf, finE, retOf, backE, isOb, A.own, gN, gT, gAll, h1]
          · simp [sSeq, sIf, sNx, sSet, sRet, sSub, subA, sDrop, sAug, sPat, xtB, xtT, xtNot, xtAnd, xtOr, x2, xVar, xD, xAnd, xOr, xNot, xNeg, xIf, xCh, xSl, xPart, slA, idxA, bind_ok, bind_ex, bind_no, Rv.at, cmpA, eqA, inA, bl?, truA, A.dc?, A.sq?, A.ls?, D.key, atI, ixN, binA, binI, asgV, toD, putD, putN, ownB, xFz, xAr, xaCons, xaNil, xTup, xLst, xDic0, allD, xCB, BI.f, atAll, lenA, maxA, minA, intA, strA, isiA, tyN, A.ty, Ty.isa, xCF, callX, spill, callT, slotsOf, argsOf, isV, backOf, finE, retOf, backE, isOb, A.own, gN, gT, gAll, h1, hv, hv2]
        have hx : xFz 2 (x2 idxA (xVar 3) (xVar 5)) [some (.d b.D), some (.d d.D), some (.m (dicK b.ks)), some (.m (dicL d.ls)), some (.d (.str y.1)), some (.d (.str y.2))] = .ok (.d (.str (kOf d.ls y.2))) [some (.d b.D), some (.d d.D), some (.m (dicK b.ks)), some (.m (dicL d.ls)), some (.d (.str y.1)), some (.d (.str y.2))] := by
          generalize kOf d.ls y.2 = kk at *
          generalize dicK b.ks = dk at *
          generalize dicL d.ls = dl at *
          generalize b.D = bd at *
          generalize d.D = dd at *
          simp [sSeq, sIf, sNx, sSet, sRet, sSub, subA, sDrop, sAug, sPat, xtB, xtT, xtNot, xtAnd, xtOr, x2, xVar, xD, xAnd, xOr, xNot, xNeg, xIf, xCh, xSl, xPart, slA, idxA, bind_ok, bind_ex, bind_no, Rv.at, cmpA, eqA, inA, bl?, truA, A.dc?, A.sq?, A.ls?, D.key, atI, ixN, binA, binI, asgV, toD, putD, putN, ownB, xFz, xAr, xaCons, xaNil, xTup, xLst, xDic0, allD, xCB, BI.f, atAll, lenA, maxA, minA, intA, strA, isiA, tyN, A.ty, Ty.isa, xCF, callX, spill, callT, slotsOf, argsOf, isV, backOf, finE, retOf, backE, isOb, A.own, gN, gT, gAll, hv]
        refine ok_sat ht ?_
        rw [hs]
        by_cases hh : (decide (y.1 ≠ ("read" : Str)) && !m) = true
        · rw [if_pos hh, if_pos hh]
          exact ok_sat hx ⟨_, rfl, by rw [List.map_append]; rfl, rfl⟩
        · rw [if_neg hh, if_neg hh]
          exact ⟨by rw [List.append_nil], rfl⟩)
    exact e
  rw [sem_l_alone_written _ rfl]
  show finE _ (b_l_alone_written [some (.d b.D), some (.d d.D), none, none, none, none]) = _
  unfold b_l_alone_written
  have e1 : sSet 2 2 (xCB (BI.f .dict) (xaCons (xAr 2 (x2 idxA (xVar 0) (xD (.int 0)))) xaNil)) [some (.d b.D), some (.d d.D), none, none, none, none] = .ok .nx [some (.d b.D), some (.d d.D), some (.m (dicK b.ks)), none, none, none] := by
    have h1 := pairs_kd b.ks
    have h2 := dict_kd hb.knd
    unfold Bk.D
    generalize d.D = dd at *
    generalize b.ds.map Dl.D = ddl at *
    generalize b.ks.map kdD = kd at *
    generalize dicK b.ks = dk at *
    simp [sSeq, sIf, sNx, sSet, sRet, sSub, subA, sDrop, sAug, sPat, xtB, xtT, xtNot, xtAnd, xtOr, x2, xVar, xD, xAnd, xOr, xNot, xNeg, xIf, xCh, xSl, xPart, slA, idxA, bind_ok, bind_ex, bind_no, Rv.at, cmpA, eqA, inA, bl?, truA, A.dc?, A.sq?, A.ls?, D.key, atI, ixN, binA, binI, asgV, toD, putD, putN, ownB, xFz, xAr, xaCons, xaNil, xTup, xLst, xDic0, allD, xCB, BI.f, atAll, lenA, maxA, minA, intA, strA, isiA, tyN, A.ty, Ty.isa, xCF, callX, spill, callT, slotsOf, argsOf, isV, backOf, finE, retOf, backE, isOb, A.own, gN, gT, gAll, dictA, h1, h2]
  have e2 : sSet 2 3 (xCB (BI.f .dict) (xaCons (xAr 2 (x2 idxA (xVar 1) (xD (.int 1)))) xaNil)) [some (.d b.D), some (.d d.D), some (.m (dicK b.ks)), none, none, none] = .ok .nx [some (.d b.D), some (.d d.D), some (.m (dicK b.ks)), some (.m (dicL d.ls)), none, none] := by
    have p1 := pairs_pp d.ls
    have p2 := dict_pp hdl.lnd
    unfold Dl.D
    generalize b.D = bd at *
    generalize dicK b.ks = dk at *
    generalize d.ls.map ppD = ld at *
    generalize d.st.map ppD = sd at *
    generalize dicL d.ls = dl at *
    generalize d.nm = nm at *
    simp [sSeq, sIf, sNx, sSet, sRet, sSub, subA, sDrop, sAug, sPat, xtB, xtT, xtNot, xtAnd, xtOr, x2, xVar, xD, xAnd, xOr, xNot, xNeg, xIf, xCh, xSl, xPart, slA, idxA, bind_ok, bind_ex, bind_no, Rv.at, cmpA, eqA, inA, bl?, truA, A.dc?, A.sq?, A.ls?, D.key, atI, ixN, binA, binI, asgV, toD, putD, putN, ownB, xFz, xAr, xaCons, xaNil, xTup, xLst, xDic0, allD, xCB, BI.f, atAll, lenA, maxA, minA, intA, strA, isiA, tyN, A.ty, Ty.isa, xCF, callX, spill, callT, slotsOf, argsOf, isV, backOf, finE, retOf, backE, isOb, A.own, gN, gT, gAll, dictA, p1, p2]
  rw [seq_nx e1, seq_nx e2]
  generalize l_alone_written_c1 = cc at *
  generalize (aloneL b.ks d.ls d.st).map D.str = al at *
  generalize dicK b.ks = dk at *
  generalize dicL d.ls = dl at *
  generalize b.D = bd at *
  generalize d.D = dd at *
  simp [sSeq, sIf, sNx, sSet, sRet, sSub, subA, sDrop, sAug, sPat, xtB, xtT, xtNot, xtAnd, xtOr, x2, xVar, xD, xAnd, xOr, xNot, xNeg, xIf, xCh, xSl, xPart, slA, idxA, bind_ok, bind_ex, bind_no, Rv.at, cmpA, eqA, inA, bl?, truA, A.dc?, A.sq?, A.ls?, D.key, atI, ixN, binA, binI, asgV, toD, putD, putN, ownB, xFz, xAr, xaCons, xaNil, xTup, xLst, xDic0, allD, xCB, BI.f, atAll, lenA, maxA, minA, intA, strA, isiA, tyN, A.ty, Ty.isa, xCF, callX, spill, callT, slotsOf, argsOf, isV, backOf, finE, retOf, backE, isOb, A.own, gN, gT, gAll, e]
theorem l_copied_ex (b : Bk) (mk md : Nat) (hb : BkOk b mk md) (hmk : mk ≤ 1000) (hmd : md ≤ 1000) : f_l_copied.sem [some (.d b.D)] = .ok (.d b.D) [some (.d b.D)] := by
  have h6 := hb.k6
  have h8 := hb.d8
  have hi : xIt (xFz 1 (x2 idxA (xVar 0) (xD (.int 1)))) [some (.d b.D), none, none, none] = .ok (b.ds.map Dl.D) [some (.d b.D), none, none, none] := rfl
  have e : l_copied_c1 [some (.d b.D), none, none, none] = .ok (.n (.l true (b.ds.map Dl.D))) [some (.d b.D), none, none, none] := by
    obtain ⟨ys, r2, e, rfl, rfl⟩ := lc_inv (vs := [1, 2, 3]) (g := gT [(gN 1 1), (gN 1 2), (gN 1 3)]) (t := fun r => .ok true r) (x := xFz 1 (xTup (xaCons (xFz 1 (xVar 1)) (xaCons (xFz 1 (xCB (BI.f .list) (xaCons (xAr 1 (xVar 2)) xaNil))) (xaCons (xFz 1 (xCB (BI.f .list) (xaCons (xAr 1 (xVar 3)) xaNil))) xaNil))))) hi rfl (by omega)
      (fun done acc r => acc = done.map Dl.D ∧ r = [some (.d b.D), none, none, none]) ⟨rfl, rfl⟩
      (fun done y rest acc r e hI => by
        obtain ⟨rfl, rfl⟩ := hI
        refine ⟨_, rfl, ?_⟩
        have hy : y ∈ b.ds := by rw [e]; simp
        have h4 := (hb.dok y hy).l4
        have h8 := (hb.dok y hy).s8
        have l1 : (y.ls.map ppD).length ≤ 100000 := by rw [List.length_map]; omega
        have l2 : (y.st.map ppD).length ≤ 100000 := by rw [List.length_map]; omega
        have hx : xFz 1 (xTup (xaCons (xFz 1 (xVar 1)) (xaCons (xFz 1 (xCB (BI.f .list) (xaCons (xAr 1 (xVar 2)) xaNil))) (xaCons (xFz 1 (xCB (BI.f .list) (xaCons (xAr 1 (xVar 3)) xaNil))) xaNil)))) [some (.d b.D), some (.d (.str y.nm)), some (.d (.lst (y.ls.map ppD))), some (.d (.lst (y.st.map ppD)))] = .ok (.d y.D) [some (.d b.D), some (.d (.str y.nm)), some (.d (.lst (y.ls.map ppD))), some (.d (.lst (y.st.map ppD)))] := by
          unfold Dl.D
          generalize y.ls.map ppD = ld at *
          generalize y.st.map ppD = sd at *
          generalize b.D = bd at *
          simp [sSeq, sIf, sNx, sSet, sRet, sSub, subA, sDrop, sAug, sPat, xtB, xtT, xtNot, xtAnd, xtOr, x2, xVar, xD, xAnd, xOr, xNot, xNeg, xIf, xCh, xSl, xPart, slA, idxA, bind_ok, bind_ex, bind_no, Rv.at, cmpA, eqA, inA, bl?, truA, A.dc?, A.sq?, A.ls?, D.key, atI, ixN, binA, binI, asgV, toD, putD, putN, ownB, xFz, xAr, xaCons, xaNil, xTup, xLst, xDic0, allD, xCB, BI.f, atAll, lenA, maxA, minA, intA, strA, isiA, tyN, A.ty, Ty.isa, xCF, callX, spill, callT, slotsOf, argsOf, isV, backOf, finE, retOf, backE, isOb, A.own, gN, gT, gAll, lstA, l1, l2]
        refine ok_sat (a := true) rfl ?_
        rw [if_pos rfl]
        exact ok_sat hx ⟨_, rfl, by rw [List.map_append]; rfl, rfl⟩)
    exact e
  have l1 : (b.ks.map kdD).length ≤ 100000 := by rw [List.length_map]; omega
  rw [sem_l_copied _ rfl]
  show finE _ (b_l_copied [some (.d b.D), none, none, none]) = _
  unfold b_l_copied
  generalize l_copied_c1 = c at *
  unfold Bk.D at *
  generalize b.ds.map Dl.D = dd at *
  generalize b.ks.map kdD = kd at *
  simp [sSeq, sIf, sNx, sSet, sRet, sSub, subA, sDrop, sAug, sPat, xtB, xtT, xtNot, xtAnd, xtOr, x2, xVar, xD, xAnd, xOr, xNot, xNeg, xIf, xCh, xSl, xPart, slA, idxA, bind_ok, bind_ex, bind_no, Rv.at, cmpA, eqA, inA, bl?, truA, A.dc?, A.sq?, A.ls?, D.key, atI, ixN, binA, binI, asgV, toD, putD, putN, ownB, xFz, xAr, xaCons, xaNil, xTup, xLst, xDic0, allD, xCB, BI.f, atAll, lenA, maxA, minA, intA, strA, isiA, tyN, A.ty, Ty.isa, xCF, callX, spill, callT, slotsOf, argsOf, isV, backOf, finE, retOf, backE, isOb, A.own, gN, gT, gAll, lstA, l1, e]
theorem is_whole_int (i : Int) : f_l_is_whole.sem [some (.d (.int i))] = .ok (.d (.bl true)) [some (.d (.int i))] := by
  rw [sem_l_is_whole _ rfl]
  simp [b_l_is_whole, sSeq, sIf, sNx, sSet, sRet, sSub, subA, sDrop, sAug, sPat, xtB, xtT, xtNot, xtAnd, xtOr, x2, xVar, xD, xAnd, xOr, xNot, xNeg, xIf, xCh, xSl, xPart, slA, idxA, bind_ok, bind_ex, bind_no, Rv.at, cmpA, eqA, inA, bl?, truA, A.dc?, A.sq?, A.ls?, D.key, atI, ixN, binA, binI, asgV, toD, putD, putN, ownB, xFz, xAr, xaCons, xaNil, xTup, xLst, xDic0, allD, xCB, BI.f, atAll, lenA, maxA, minA, intA, strA, isiA, tyN, A.ty, Ty.isa, xCF, callX, spill, callT, slotsOf, argsOf, isV, backOf, finE, retOf, backE, isOb, A.own, gN, gT, gAll]
theorem has_many_ex (b : Bk) (hnd : (b.ks.map (·.1)).Nodup) (k : Str) (hk : k ∈ b.ks.map (·.1)) : f_has_many.sem [some (.d b.D), some (.d (.str k))] = .ok (.d (.bl (mny b.ks k))) [some (.d b.D), some (.d (.str k))] := by
  obtain ⟨m, hm⟩ := lookup_mem hk
  have hv := val_kd k b.ks
  have h1 := pairs_kd b.ks
  have h2 := dict_kd hnd
  have h3 : mny b.ks k = m := by unfold mny; rw [hm]; rfl
  rw [hm] at hv
  rw [sem_has_many _ rfl]
  show finE _ (b_has_many [some (.d b.D), some (.d (.str k))]) = _
  rw [h3]
  unfold Bk.D
  generalize b.ds.map Dl.D = dd at *
  generalize b.ks.map kdD = kd at *
  generalize dicK b.ks = dk at *
  simp [b_has_many, sSeq, sIf, sNx, sSet, sRet, sSub, subA, sDrop, sAug, sPat, xtB, xtT, xtNot, xtAnd, xtOr, x2, xVar, xD, xAnd, xOr, xNot, xNeg, xIf, xCh, xSl, xPart, slA, idxA, bind_ok, bind_ex, bind_no, Rv.at, cmpA, eqA, inA, bl?, truA, A.dc?, A.sq?, A.ls?, D.key, atI, ixN, binA, binI, asgV, toD, putD, putN, ownB, xFz, xAr, xaCons, xaNil, xTup, xLst, xDic0, allD, xCB, BI.f, atAll, lenA, maxA, minA, intA, strA, isiA, tyN, A.ty, Ty.isa, xCF, callX, spill, callT, slotsOf, argsOf, isV, backOf, finE, retOf, backE, isOb, A.own, gN, gT, gAll, dictA, h1, h2, hv]
theorem dealing_copied_ex (d : Dl) (ks : List Str) (hd : DlOk ks d) : f_dealing_copied.sem [some (.d d.D)] = .ok (.d d.D) [some (.d d.D)] := by
  have h4 := hd.l4
  have h8 := hd.s8
  have l1 : (d.ls.map ppD).length ≤ 100000 := by rw [List.length_map]; omega
  have l2 : (d.st.map ppD).length ≤ 100000 := by rw [List.length_map]; omega
  rw [sem_dealing_copied _ rfl]
  unfold Dl.D
  generalize d.ls.map ppD = ld at *
  generalize d.st.map ppD = sd at *
  generalize d.nm = nm at *
  simp [b_dealing_copied, sSeq, sIf, sNx, sSet, sRet, sSub, subA, sDrop, sAug, sPat, xtB, xtT, xtNot, xtAnd, xtOr, x2, xVar, xD, xAnd, xOr, xNot, xNeg, xIf, xCh, xSl, xPart, slA, idxA, bind_ok, bind_ex, bind_no, Rv.at, cmpA, eqA, inA, bl?, truA, A.dc?, A.sq?, A.ls?, D.key, atI, ixN, binA, binI, asgV, toD, putD, putN, ownB, xFz, xAr, xaCons, xaNil, xTup, xLst, xDic0, allD, xCB, BI.f, atAll, lenA, maxA, minA, intA, strA, isiA, tyN, A.ty, Ty.isa, xCF, callX, spill, callT, slotsOf, argsOf, isV, backOf, finE, retOf, backE, isOb, A.own, gN, gT, gAll, lstA, l1, l2]
theorem number_body (nd : Dl × Nat) (kvs : List (Key × D)) (hk : (.inr nd.1.nm : Key) ∉ kvs.map (·.1)) (hz : kvs.length < 100000) (k0 k1 k5 : Option A) : number_by_b1 [k0, k1, some (.m kvs), some (.d (.int nd.2)), some (.d nd.1.D), k5] = .ok .nx [k0, k1, some (.m (kvs ++ [(.inr nd.1.nm, .int nd.2)])), some (.d (.int nd.2)), some (.d nd.1.D), k5] := by
  have e := putKD_new (d := .int nd.2) hk
  obtain ⟨d, i⟩ := nd
  simp only at *
  unfold Dl.D
  generalize d.ls.map ppD = ld at *
  generalize d.st.map ppD = sd at *
  generalize d.nm = nm at *
  simp [number_by_b1, sSeq, sIf, sNx, sSet, sRet, sSub, subA, sDrop, sAug, sPat, xtB, xtT, xtNot, xtAnd, xtOr, x2, xVar, xD, xAnd, xOr, xNot, xNeg, xIf, xCh, xSl, xPart, slA, idxA, bind_ok, bind_ex, bind_no, Rv.at, cmpA, eqA, inA, bl?, truA, A.dc?, A.sq?, A.ls?, D.key, atI, ixN, binA, binI, asgV, toD, putD, putN, ownB, xFz, xAr, xaCons, xaNil, xTup, xLst, xDic0, allD, xCB, BI.f, atAll, lenA, maxA, minA, intA, strA, isiA, tyN, A.ty, Ty.isa, xCF, callX, spill, callT, slotsOf, argsOf, isV, backOf, finE, retOf, backE, isOb, A.own, gN, gT, gAll, e, hz]
theorem number_by_ex (b : Bk) (hl : b.ds.length ≤ 1000) (nd : (b.ds.map (·.nm)).Nodup) (d : Dl) (i : Nat) (hd : b.ds[i]? = some d) : f_number_by.sem [some (.d b.D), some (.d (.str d.nm))] = .ok (.d (.int i)) [some (.d b.D), some (.d (.str d.nm))] := by
  have hi : xEn (xaCons (xFz 2 (x2 idxA (xVar 0) (xD (.int 1)))) xaNil) [some (.d b.D), some (.d (.str d.nm)), some (.m []), none, none, none] = .ok (b.ds.zipIdx.map fun p => .tup [.int p.2, p.1.D]) [some (.d b.D), some (.d (.str d.nm)), some (.m []), none, none, none] := by
    rw [← enum_map Dl.D b.ds 0]
    unfold Bk.D
    rfl
  have ndz : (b.ds.zipIdx.map fun p => p.1.nm).Nodup := by
    have : b.ds.zipIdx.map (fun p => p.1.nm) = b.ds.map (·.nm) := by
      rw [show (fun p : Dl × Nat => p.1.nm) = (fun d : Dl => d.nm) ∘ Prod.fst from rfl, ← List.map_map, List.zipIdx_map_fst]
    rw [this]
    exact nd
  obtain ⟨r2, hf, k3, k4, rfl⟩ := for_inv (el := fun p : Dl × Nat => D.tup [.int p.2, p.1.D]) (g := gT [(gN 2 3), (gN 2 4)]) (b := number_by_b1) hi
    (fun done r => ∃ k3 k4 : Option A, r = [some (.d b.D), some (.d (.str d.nm)), some (.m (done.map fun p => (.inr p.1.nm, .int p.2))), k3, k4, none]) ⟨_, _, rfl⟩
    (fun done x rest r e hI => by
      obtain ⟨k3, k4, rfl⟩ := hI
      have hn : (.inr x.1.nm : Key) ∉ (done.map fun p : Dl × Nat => ((.inr p.1.nm : Key), D.int p.2)).map (·.1) := fun z => by
        rw [List.map_map] at z
        obtain ⟨y, hy, ey⟩ := List.mem_map.mp z
        rw [e, List.map_append, List.nodup_append] at ndz
        exact ndz.2.2 y.1.nm (List.mem_map.mpr ⟨y, hy, rfl⟩) x.1.nm (by simp) (Sum.inr.inj ey)
      have hlen : (done.map fun p : Dl × Nat => ((.inr p.1.nm : Key), D.int p.2)).length < 100000 := by
        have := congrArg List.length e
        simp at this ⊢
        omega
      have eb := number_body x _ hn hlen (some (.d b.D)) (some (.d (.str d.nm))) none
      refine ⟨_, rfl, ok_sat eb ⟨rfl, _, _, by rw [List.map_append]; rfl⟩⟩)
  have hv : valD (b.ds.zipIdx.map fun p => ((.inr p.1.nm : Key), D.int p.2)) (.inr d.nm) = some (.int i) := by
    have hm : (d, i) ∈ b.ds.zipIdx := by
      rw [List.mem_zipIdx_iff_getElem?]
      exact hd
    refine valD_mem (key := fun p : Dl × Nat => (.inr p.1.nm : Key)) (val := fun p => .int p.2) ?_ (d, i) hm
    have : (fun p : Dl × Nat => (.inr p.1.nm : Key)) = (Sum.inr ∘ fun p : Dl × Nat => p.1.nm) := rfl
    rw [this, ← List.map_map]
    exact List.Pairwise.map _ (fun a b hab e => hab (Sum.inr.inj e)) ndz
  rw [sem_number_by _ rfl]
  show finE _ (b_number_by [some (.d b.D), some (.d (.str d.nm)), none, none, none, none]) = _
  unfold b_number_by
  have e1 : sSet 2 2 xDic0 [some (.d b.D), some (.d (.str d.nm)), none, none, none, none] = .ok .nx [some (.d b.D), some (.d (.str d.nm)), some (.m []), none, none, none] := by
    generalize b.D = bd
    simp [sSeq, sIf, sNx, sSet, sRet, sSub, subA, sDrop, sAug, sPat, xtB, xtT, xtNot, xtAnd, xtOr, x2, xVar, xD, xAnd, xOr, xNot, xNeg, xIf, xCh, xSl, xPart, slA, idxA, bind_ok, bind_ex, bind_no, Rv.at, cmpA, eqA, inA, bl?, truA, A.dc?, A.sq?, A.ls?, D.key, atI, ixN, binA, binI, asgV, toD, putD, putN, ownB, xFz, xAr, xaCons, xaNil, xTup, xLst, xDic0, allD, xCB, BI.f, atAll, lenA, maxA, minA, intA, strA, isiA, tyN, A.ty, Ty.isa, xCF, callX, spill, callT, slotsOf, argsOf, isV, backOf, finE, retOf, backE, isOb, A.own, gN, gT, gAll]
  rw [seq_nx e1, seq_nx (show number_by_f1 _ = _ from hf)]
  generalize (b.ds.zipIdx.map fun p => ((.inr p.1.nm : Key), D.int p.2)) = kvs at *
  generalize b.D = bd at *
  generalize d.nm = nm at *
  simp [sSeq, sIf, sNx, sSet, sRet, sSub, subA, sDrop, sAug, sPat, xtB, xtT, xtNot, xtAnd, xtOr, x2, xVar, xD, xAnd, xOr, xNot, xNeg, xIf, xCh, xSl, xPart, slA, idxA, bind_ok, bind_ex, bind_no, Rv.at, cmpA, eqA, inA, bl?, truA, A.dc?, A.sq?, A.ls?, D.key, atI, ixN, binA, binI, asgV, toD, putD, putN, ownB, xFz, xAr, xaCons, xaNil, xTup, xLst, xDic0, allD, xCB, BI.f, atAll, lenA, maxA, minA, intA, strA, isiA, tyN, A.ty, Ty.isa, xCF, callX, spill, callT, slotsOf, argsOf, isV, backOf, finE, retOf, backE, isOb, A.own, gN, gT, gAll, sThru, hv]
theorem dealing_by_ex (b : Bk) (mk md : Nat) (hb : BkOk b mk md) (hmd : md ≤ 1000) (d : Dl) (hd : d ∈ b.ds) : f_dealing_by.sem [some (.d b.D), some (.d (.str d.nm))] = .ok (.d d.D) [some (.d b.D), some (.d (.str d.nm))] := by
  obtain ⟨i, hi⟩ := List.mem_iff_getElem?.mp hd
  have h8 := hb.d8
  have h1 := number_by_ex b (by omega) hb.dnd d i hi
  have h2 := dealing_copied_ex d _ (hb.dok d hd)
  have ha1 : f_number_by.ar = 2 := rfl
  have ha2 : f_dealing_copied.ar = 1 := rfl
  have hlt : i < (b.ds.map Dl.D).length := by
    rw [List.length_map]
    exact (List.getElem?_eq_some_iff.mp hi).1
  have hat : atI (b.ds.map Dl.D) (i : Int) = some d.D := by
    rw [atI_nat hlt]
    have := (List.getElem?_eq_some_iff.mp hi).2
    rw [List.getElem_map, this]
  rw [sem_dealing_by _ rfl]
  show finE _ (b_dealing_by [some (.d b.D), some (.d (.str d.nm))]) = _
  have hx : x2 idxA (x2 idxA (xVar 0) (xD (.int 1))) (xCF f_number_by (xaCons (xFz 2 (xVar 0)) (xaCons (xFz 2 (xVar 1)) xaNil))) [some (.d b.D), some (.d (.str d.nm))] = .ok (.d d.D) [some (.d b.D), some (.d (.str d.nm))] := by
    have hx1 : x2 idxA (xVar 0) (xD (.int 1)) [some (.d b.D), some (.d (.str d.nm))] = .ok (.d (.lst (b.ds.map Dl.D))) [some (.d b.D), some (.d (.str d.nm))] := by
      unfold Bk.D
      generalize b.ds.map Dl.D = dd
      generalize b.ks.map kdD = kd
      simp [sSeq, sIf, sNx, sSet, sRet, sSub, subA, sDrop, sAug, sPat, xtB, xtT, xtNot, xtAnd, xtOr, x2, xVar, xD, xAnd, xOr, xNot, xNeg, xIf, xCh, xSl, xPart, slA, idxA, bind_ok, bind_ex, bind_no, Rv.at, cmpA, eqA, inA, bl?, truA, A.dc?, A.sq?, A.ls?, D.key, atI, ixN, binA, binI, asgV, toD, putD, putN, ownB, xFz, xAr, xaCons, xaNil, xTup, xLst, xDic0, allD, xCB, BI.f, atAll, lenA, maxA, minA, intA, strA, isiA, tyN, A.ty, Ty.isa, xCF, callX, spill, callT, slotsOf, argsOf, isV, backOf, finE, retOf, backE, isOb, A.own, gN, gT, gAll]
    have hx2 : xCF f_number_by (xaCons (xFz 2 (xVar 0)) (xaCons (xFz 2 (xVar 1)) xaNil)) [some (.d b.D), some (.d (.str d.nm))] = .ok (.d (.int i)) [some (.d b.D), some (.d (.str d.nm))] := by
      generalize b.D = bd at *
      generalize d.nm = nm at *
      generalize f_number_by = fn at *
      simp [sSeq, sIf, sNx, sSet, sRet, sSub, subA, sDrop, sAug, sPat, xtB, xtT, xtNot, xtAnd, xtOr, x2, xVar, xD, xAnd, xOr, xNot, xNeg, xIf, xCh, xSl, xPart, slA, idxA, bind_ok, bind_ex, bind_no, Rv.at, cmpA, eqA, inA, bl?, truA, A.dc?, A.sq?, A.ls?, D.key, atI, ixN, binA, binI, asgV, toD, putD, putN, ownB, xFz, xAr, xaCons, xaNil, xTup, xLst, xDic0, allD, xCB, BI.f, atAll, lenA, maxA, minA, intA, strA, isiA, tyN, A.ty, Ty.isa, xCF, callX, spill, callT, slotsOf, argsOf, isV, backOf, finE, retOf, backE, isOb, A.own, gN, gT, gAll, ha1, h1]
    generalize x2 idxA (xVar 0) (xD (.int 1)) = y1 at *
    generalize xCF f_number_by (xaCons (xFz 2 (xVar 0)) (xaCons (xFz 2 (xVar 1)) xaNil)) = y2 at *
    generalize b.ds.map Dl.D = dd at *
    generalize d.D = de at *
    generalize b.D = bd at *
    unfold x2
    rw [hx1, bind_ok, hx2, bind_ok]
    simp [Rv.at, idxA, A.dc?, A.sq?, hat]
  unfold b_dealing_by
  generalize x2 idxA (x2 idxA (xVar 0) (xD (.int 1))) (xCF f_number_by (xaCons (xFz 2 (xVar 0)) (xaCons (xFz 2 (xVar 1)) xaNil))) = y at *
  generalize b.D = bd at *
  generalize d.D = de at *
  generalize f_dealing_copied = fc at *
  simp [sSeq, sIf, sNx, sSet, sRet, sSub, subA, sDrop, sAug, sPat, xtB, xtT, xtNot, xtAnd, xtOr, x2, xVar, xD, xAnd, xOr, xNot, xNeg, xIf, xCh, xSl, xPart, slA, idxA, bind_ok, bind_ex, bind_no, Rv.at, cmpA, eqA, inA, bl?, truA, A.dc?, A.sq?, A.ls?, D.key, atI, ixN, binA, binI, asgV, toD, putD, putN, ownB, xFz, xAr, xaCons, xaNil, xTup, xLst, xDic0, allD, xCB, BI.f, atAll, lenA, maxA, minA, intA, strA, isiA, tyN, A.ty, Ty.isa, xCF, callX, spill, callT, slotsOf, argsOf, isV, backOf, finE, retOf, backE, isOb, A.own, gN, gT, gAll, hx, ha2, h2]
def fA (ks : List (Str × Bool)) (done : List (Str × Str)) : A := if done = [] then .m [] else .ob 0 (.dic (gD ks done))
theorem fA_g (ks : List (Str × Bool)) (done : List (Str × Str)) : gOf (fA ks done) = some (gD ks done) := by
  unfold fA
  split
  · rename_i h
    rw [h]
    rfl
  · rfl
theorem together_body (b : Bk) (hnd : (b.ks.map (·.1)).Nodup) (done : List (Str × Str)) (x : Str × Str) (hk : x.2 ∈ b.ks.map (·.1)) (nd : ((done ++ [x]).map (·.1)).Nodup) (hz : done.length ≤ 1000) (fd : List (Key × D)) (hf : fd.length ≤ 1000) (hfd : ∀ k, mny b.ks k = false → valD fd (.inr k) = (fstK done k).map .str) (k1 k6 : Option A) :
    ∃ (fd' : List (Key × D)) (j6 : Option A), fd'.length ≤ fd.length + 1 ∧ (∀ k, mny b.ks k = false → valD fd' (.inr k) = (fstK (done ++ [x]) k).map .str) ∧
      letters_together_b1 [some (.d b.D), k1, some (fA b.ks done), some (.m fd), some (.d (.str x.1)), some (.d (.str x.2)), k6] = .ok .nx [some (.d b.D), k1, some (fA b.ks (done ++ [x])), some (.m fd'), some (.d (.str x.1)), some (.d (.str x.2)), j6] := by
  have hm := has_many_ex b hnd x.2 hk
  have ha : f_has_many.ar = 2 := rfl
  have hg := fA_g b.ks done
  have hgl : (gD b.ks done).length < 100000 := by
    unfold gD heads
    rw [List.length_map]
    have := List.length_filter_le (isH b.ks done) done
    omega
  have hst := gD_step (ks := b.ks) nd (by omega)
  have hfa : fA b.ks (done ++ [x]) = .ob 0 (.dic (gD b.ks (done ++ [x]))) := by
    unfold fA
    rw [if_neg (by simp)]
  rw [hfa]
  obtain ⟨l, k⟩ := x
  simp only at hm hk hst hfd ⊢
  generalize hG : gD b.ks done = G at *
  generalize hG2 : gD b.ks (done ++ [(l, k)]) = G2 at *
  generalize fA b.ks done = fa at *
  unfold letters_together_b1
  generalize f_has_many = fm at *
  have hfl : fd.length < 100000 := by omega
  cases hmm : mny b.ks k with
  | true =>
    rw [hmm] at hm hst
    rw [if_pos rfl] at hst
    refine ⟨fd, some (.d (.str l)), by omega, fun k' hk' => ?_, ?_⟩
    · rw [hfd k' hk', fstK_app, if_neg (fun e => by rw [← e, hmm] at hk'; cases hk')]
      simp
    · generalize b.D = bd at *
      simp [sSeq, sIf, sNx, sSet, sRet, sSub, subA, sDrop, sAug, sPat, xtB, xtT, xtNot, xtAnd, xtOr, x2, xVar, xD, xAnd, xOr, xNot, xNeg, xIf, xCh, xSl, xPart, slA, idxA, bind_ok, bind_ex, bind_no, Rv.at, cmpA, eqA, inA, bl?, truA, A.dc?, A.sq?, A.ls?, D.key, atI, ixN, binA, binI, asgV, toD, putD, putN, ownB, xFz, xAr, xaCons, xaNil, xTup, xLst, xDic0, allD, xCB, BI.f, atAll, lenA, maxA, minA, intA, strA, isiA, tyN, A.ty, Ty.isa, xCF, callX, spill, callT, slotsOf, argsOf, isV, backOf, finE, retOf, backE, isOb, A.own, gN, gT, gAll, hm, ha, xSdA, hg, hgl, hst]
  | false =>
    rw [hmm] at hm hst
    rw [if_neg (by decide)] at hst
    have hv := hfd k hmm
    cases hfs : fstK done k with
    | some h =>
      rw [hfs] at hv hst
      simp only [Option.getD, Option.map] at hv hst
      refine ⟨fd, some (.d (.str h)), by omega, fun k' hk' => ?_, ?_⟩
      · rw [hfd k' hk', fstK_app]
        by_cases e : k = k'
        · subst e; rw [hfs]; rfl
        · rw [if_neg e]; simp
      · generalize b.D = bd at *
        simp [sSeq, sIf, sNx, sSet, sRet, sSub, subA, sDrop, sAug, sPat, xtB, xtT, xtNot, xtAnd, xtOr, x2, xVar, xD, xAnd, xOr, xNot, xNeg, xIf, xCh, xSl, xPart, slA, idxA, bind_ok, bind_ex, bind_no, Rv.at, cmpA, eqA, inA, bl?, truA, A.dc?, A.sq?, A.ls?, D.key, atI, ixN, binA, binI, asgV, toD, putD, putN, ownB, xFz, xAr, xaCons, xaNil, xTup, xLst, xDic0, allD, xCB, BI.f, atAll, lenA, maxA, minA, intA, strA, isiA, tyN, A.ty, Ty.isa, xCF, callX, spill, callT, slotsOf, argsOf, isV, backOf, finE, retOf, backE, isOb, A.own, gN, gT, gAll, hm, ha, xSdA, hg, hgl, hst, xMe, MI.T, MI.f, MT.of, sdfA, putV, hfl, hv]
    | none =>
      rw [hfs] at hv hst
      simp only [Option.getD, Option.map] at hv hst
      have hp := putKD_new (d := .str l) (valD_nk hv)
      refine ⟨fd ++ [(.inr k, .str l)], some (.d (.str l)), by simp, fun k' hk' => ?_, ?_⟩
      · rw [valD_app hv, fstK_app]
        by_cases e : k = k'
        · subst e
          rw [if_pos rfl, if_pos rfl, hfs]
          rfl
        · rw [if_neg (fun z => e (Sum.inr.inj z)), if_neg e, hfd k' hk']
          simp
      · generalize b.D = bd at *
        simp [sSeq, sIf, sNx, sSet, sRet, sSub, subA, sDrop, sAug, sPat, xtB, xtT, xtNot, xtAnd, xtOr, x2, xVar, xD, xAnd, xOr, xNot, xNeg, xIf, xCh, xSl, xPart, slA, idxA, bind_ok, bind_ex, bind_no, Rv.at, cmpA, eqA, inA, bl?, truA, A.dc?, A.sq?, A.ls?, D.key, atI, ixN, binA, binI, asgV, toD, putD, putN, ownB, xFz, xAr, xaCons, xaNil, xTup, xLst, xDic0, allD, xCB, BI.f, atAll, lenA, maxA, minA, intA, strA, isiA, tyN, A.ty, Ty.isa, xCF, callX, spill, callT, slotsOf, argsOf, isV, backOf, finE, retOf, backE, isOb, A.own, gN, gT, gAll, hm, ha, xSdA, hg, hgl, hst, xMe, MI.T, MI.f, MT.of, sdfA, putV, hfl, hv, hp]
theorem letters_together_ex (b : Bk) (mk md : Nat) (hb : BkOk b mk md) (hmd : md ≤ 1000) (d : Dl) (hd : d ∈ b.ds) : f_letters_together.sem [some (.d b.D), some (.d (.str d.nm))] = .ok (.n (.ob 0 (.dic (gD b.ks d.ls)))) [some (.d b.D), some (.d (.str d.nm))] := by
  have hdl := hb.dok d hd
  have h4 := hdl.l4
  have h1 := hdl.l1
  have hby := dealing_by_ex b mk md hb hmd d hd
  have ha : f_dealing_by.ar = 2 := rfl
  have hi : xIt (xFz 2 (x2 idxA (xCF f_dealing_by (xaCons (xFz 2 (xVar 0)) (xaCons (xFz 2 (xVar 1)) xaNil))) (xD (.int 1)))) [some (.d b.D), some (.d (.str d.nm)), some (.m []), some (.m []), none, none, none] = .ok (d.ls.map ppD) [some (.d b.D), some (.d (.str d.nm)), some (.m []), some (.m []), none, none, none] := by
    unfold Dl.D at hby
    generalize d.ls.map ppD = ld at *
    generalize d.st.map ppD = sd at *
    generalize b.D = bd at *
    generalize d.nm = nm at *
    generalize f_dealing_by = fb at *
    simp [sSeq, sIf, sNx, sSet, sRet, sSub, subA, sDrop, sAug, sPat, xtB, xtT, xtNot, xtAnd, xtOr, x2, xVar, xD, xAnd, xOr, xNot, xNeg, xIf, xCh, xSl, xPart, slA, idxA, bind_ok, bind_ex, bind_no, Rv.at, cmpA, eqA, inA, bl?, truA, A.dc?, A.sq?, A.ls?, D.key, atI, ixN, binA, binI, asgV, toD, putD, putN, ownB, xFz, xAr, xaCons, xaNil, xTup, xLst, xDic0, allD, xCB, BI.f, atAll, lenA, maxA, minA, intA, strA, isiA, tyN, A.ty, Ty.isa, xCF, callX, spill, callT, slotsOf, argsOf, isV, backOf, finE, retOf, backE, isOb, A.own, gN, gT, gAll, xIt, itA, ha, hby]
  obtain ⟨r2, hf, fd, k4, k5, k6, rfl, _, _⟩ := for_inv (el := ppD) (g := gT [(gN 2 4), (gN 2 5)]) (b := letters_together_b1) hi
    (fun done r => ∃ (fd : List (Key × D)) (k4 k5 k6 : Option A), r = [some (.d b.D), some (.d (.str d.nm)), some (fA b.ks done), some (.m fd), k4, k5, k6] ∧ fd.length ≤ done.length ∧ ∀ k, mny b.ks k = false → valD fd (.inr k) = (fstK done k).map .str) ⟨[], _, _, _, rfl, Nat.le_refl _, fun _ _ => rfl⟩
    (fun done x rest r e hI => by
      obtain ⟨fd, k4, k5, k6, rfl, hl, hfd⟩ := hI
      have hx : x ∈ d.ls := by rw [e]; simp
      have hdn : done.length ≤ 4 := by
        have := congrArg List.length e
        simp at this
        omega
      have nd : ((done ++ [x]).map (·.1)).Nodup := by
        have := hdl.lnd
        rw [e] at this
        refine List.Nodup.sublist (List.Sublist.map _ ?_) this
        rw [show done ++ x :: rest = (done ++ [x]) ++ rest by simp]
        exact List.sublist_append_left _ _
      obtain ⟨fd', j6, h1, h2, eb⟩ := together_body b hb.knd done x (hdl.lk x hx) nd (by omega) fd (by omega) hfd (some (.d (.str d.nm))) k6
      exact ⟨_, rfl, ok_sat eb ⟨rfl, fd', _, _, _, rfl, by simp; omega, h2⟩⟩)
  rw [sem_letters_together _ rfl]
  show finE _ (b_letters_together [some (.d b.D), some (.d (.str d.nm)), none, none, none, none, none]) = _
  unfold b_letters_together
  have e1 : sSet 2 2 xDic0 [some (.d b.D), some (.d (.str d.nm)), none, none, none, none, none] = .ok .nx [some (.d b.D), some (.d (.str d.nm)), some (.m []), none, none, none, none] := by
    generalize b.D = bd
    simp [sSeq, sIf, sNx, sSet, sRet, sSub, subA, sDrop, sAug, sPat, xtB, xtT, xtNot, xtAnd, xtOr, x2, xVar, xD, xAnd, xOr, xNot, xNeg, xIf, xCh, xSl, xPart, slA, idxA, bind_ok, bind_ex, bind_no, Rv.at, cmpA, eqA, inA, bl?, truA, A.dc?, A.sq?, A.ls?, D.key, atI, ixN, binA, binI, asgV, toD, putD, putN, ownB, xFz, xAr, xaCons, xaNil, xTup, xLst, xDic0, allD, xCB, BI.f, atAll, lenA, maxA, minA, intA, strA, isiA, tyN, A.ty, Ty.isa, xCF, callX, spill, callT, slotsOf, argsOf, isV, backOf, finE, retOf, backE, isOb, A.own, gN, gT, gAll]
  have e2 : sSet 2 3 xDic0 [some (.d b.D), some (.d (.str d.nm)), some (.m []), none, none, none, none] = .ok .nx [some (.d b.D), some (.d (.str d.nm)), some (.m []), some (.m []), none, none, none] := by
    generalize b.D = bd
    simp [sSeq, sIf, sNx, sSet, sRet, sSub, subA, sDrop, sAug, sPat, xtB, xtT, xtNot, xtAnd, xtOr, x2, xVar, xD, xAnd, xOr, xNot, xNeg, xIf, xCh, xSl, xPart, slA, idxA, bind_ok, bind_ex, bind_no, Rv.at, cmpA, eqA, inA, bl?, truA, A.dc?, A.sq?, A.ls?, D.key, atI, ixN, binA, binI, asgV, toD, putD, putN, ownB, xFz, xAr, xaCons, xaNil, xTup, xLst, xDic0, allD, xCB, BI.f, atAll, lenA, maxA, minA, intA, strA, isiA, tyN, A.ty, Ty.isa, xCF, callX, spill, callT, slotsOf, argsOf, isV, backOf, finE, retOf, backE, isOb, A.own, gN, gT, gAll]
  rw [seq_nx e1, seq_nx e2, seq_nx (show letters_together_f1 _ = _ from hf)]
  have hfa : fA b.ks d.ls = .ob 0 (.dic (gD b.ks d.ls)) := by
    unfold fA
    rw [if_neg (fun z => by rw [z] at h1; simp at h1)]
  rw [hfa]
  generalize gD b.ks d.ls = G
  generalize b.D = bd
  simp [sSeq, sIf, sNx, sSet, sRet, sSub, subA, sDrop, sAug, sPat, xtB, xtT, xtNot, xtAnd, xtOr, x2, xVar, xD, xAnd, xOr, xNot, xNeg, xIf, xCh, xSl, xPart, slA, idxA, bind_ok, bind_ex, bind_no, Rv.at, cmpA, eqA, inA, bl?, truA, A.dc?, A.sq?, A.ls?, D.key, atI, ixN, binA, binI, asgV, toD, putD, putN, ownB, xFz, xAr, xaCons, xaNil, xTup, xLst, xDic0, allD, xCB, BI.f, atAll, lenA, maxA, minA, intA, strA, isiA, tyN, A.ty, Ty.isa, xCF, callX, spill, callT, slotsOf, argsOf, isV, backOf, finE, retOf, backE, isOb, A.own, gN, gT, gAll]
theorem in_rt (x : Str) (fs : List Str) : inA (.d (.str x)) (.d (.rt (fs.map D.str))) = some (decide (x ∈ fs)) := by
  unfold inA
  simp only [A.dc?, A.sq?, D.atom, atoms_str, inV_str]
theorem pof_c3 (st : List (Str × Str)) (same : List Str) (hl : st.length ≤ 1000) (dd : D) (hdd : ∃ a b, dd = .tup [a, b, .lst (st.map ppD)]) (k0 k1 k3 k4 k5 k7 k10 k11 : Option A) : places_of_c3 [k0, k1, some (.d dd), k3, k4, k5, some (.d (.lst (same.map .str))), k7, none, none, k10, k11] = .ok (.n (.l true ((deedsL st same).map .str))) [k0, k1, some (.d dd), k3, k4, k5, some (.d (.lst (same.map .str))), k7, none, none, k10, k11] := by
  obtain ⟨da, db, rfl⟩ := hdd
  have hi : xIt (xFz 2 (x2 idxA (xVar 2) (xD (.int 2)))) [k0, k1, some (.d (.tup [da, db, .lst (st.map ppD)])), k3, k4, k5, some (.d (.lst (same.map .str))), k7, none, none, k10, k11] = .ok (st.map ppD) [k0, k1, some (.d (.tup [da, db, .lst (st.map ppD)])), k3, k4, k5, some (.d (.lst (same.map .str))), k7, none, none, k10, k11] := rfl
  obtain ⟨ys, r2, e, rfl, rfl⟩ := lc_inv (vs := [8, 9]) (g := gT [(gN 2 8), (gN 2 9)]) (t := xtB (x2 (fun p q => bl? (cmpA .In p q)) (xVar 9) (xVar 6))) (x := xFz 2 (xVar 8)) hi rfl (by omega)
    (fun done acc r => acc = (deedsL done same).map .str ∧ r = [k0, k1, some (.d (.tup [da, db, .lst (st.map ppD)])), k3, k4, k5, some (.d (.lst (same.map .str))), k7, none, none, k10, k11])
    ⟨rfl, rfl⟩
    (fun done y rest acc r e hI => by
      obtain ⟨rfl, rfl⟩ := hI
      refine ⟨_, rfl, ?_⟩
      generalize D.tup [da, db, .lst (st.map ppD)] = sd at *
      have ht : xtB (x2 (fun p q => bl? (cmpA .In p q)) (xVar 9) (xVar 6)) [k0, k1, some (.d sd), k3, k4, k5, some (.d (.lst (same.map .str))), k7, some (.d (.str y.1)), some (.d (.str y.2)), k10, k11] = .ok (decide (y.2 ∈ same)) [k0, k1, some (.d sd), k3, k4, k5, some (.d (.lst (same.map .str))), k7, some (.d (.str y.1)), some (.d (.str y.2)), k10, k11] := by
        simp [xtB, x2, xVar, bind_ok, Rv.at, cmpA, bl?, in_strsD]
      refine ok_sat ht ?_
      have hs : deedsL (done ++ [y]) same = deedsL done same ++ (if decide (y.2 ∈ same) = true then [y.1] else []) := by
        unfold deedsL
        rw [List.filter_append, List.map_append]
        congr 1
        exact filt1 _ _ _
      rw [hs]
      by_cases hh : decide (y.2 ∈ same) = true
      · rw [if_pos hh, if_pos hh]
        exact ok_sat (a := Rv.d (.str y.1)) rfl ⟨_, rfl, by rw [List.map_append]; rfl, rfl⟩
      · rw [if_neg hh, if_neg hh]
        exact ⟨by rw [List.append_nil], rfl⟩)
  exact e
theorem pof_in (zs : List D) (fs : List Str) (hz : zs = fs.map D.str) (ds : List Str) (hl : ds.length ≤ 1000) (a7 : A) (h7 : a7 = .l true (ds.map .str) ∨ a7 = .d (.lst (ds.map .str))) (k0 k1 k2 k3 k4 k5 k6 k9 k10 k11 : Option A) : xLc [8] (xIt (xFz 2 (xVar 7))) (gN 2 8) (fun r => .ok true r) (xFz 2 (x2 (fun p q => bl? (cmpA .In p q)) (xVar 8) (xD (.rt zs)))) [k0, k1, k2, k3, k4, k5, k6, some a7, none, k9, k10, k11] = .ok (.n (.l true ((ds.map fun z => decide (z ∈ fs)).map .bl))) [k0, k1, k2, k3, k4, k5, k6, some (.d (.lst (ds.map .str))), none, k9, k10, k11] := by
  have hi : xIt (xFz 2 (xVar 7)) [k0, k1, k2, k3, k4, k5, k6, some a7, none, k9, k10, k11] = .ok (ds.map .str) [k0, k1, k2, k3, k4, k5, k6, some (.d (.lst (ds.map .str))), none, k9, k10, k11] := by
    rcases h7 with rfl | rfl
    · generalize ds.map D.str = dd
      simp [sSeq, sIf, sNx, sSet, sRet, sSub, subA, sDrop, sAug, sPat, xtB, xtT, xtNot, xtAnd, xtOr, x2, xVar, xD, xAnd, xOr, xNot, xNeg, xIf, xCh, xSl, xPart, slA, idxA, bind_ok, bind_ex, bind_no, Rv.at, cmpA, eqA, inA, bl?, truA, A.dc?, A.sq?, A.ls?, D.key, atI, ixN, binA, binI, asgV, toD, putD, putN, ownB, xFz, xAr, xaCons, xaNil, xTup, xLst, xDic0, allD, xCB, BI.f, atAll, lenA, maxA, minA, intA, strA, isiA, tyN, A.ty, Ty.isa, xCF, callX, spill, callT, slotsOf, argsOf, isV, backOf, finE, retOf, backE, isOb, A.own, gN, gT, gAll, xIt, itA]
    · rfl
  subst hz
  obtain ⟨ys, r2, e, rfl, rfl⟩ := lc_inv (vs := [8]) (g := gN 2 8) (t := fun r => .ok true r) (x := xFz 2 (x2 (fun p q => bl? (cmpA .In p q)) (xVar 8) (xD (.rt (fs.map D.str))))) hi rfl (by omega)
    (fun done acc r => acc = (done.map fun z => decide (z ∈ fs)).map .bl ∧ r = [k0, k1, k2, k3, k4, k5, k6, some (.d (.lst (ds.map .str))), none, k9, k10, k11])
    ⟨rfl, rfl⟩
    (fun done y rest acc r e hI => by
      obtain ⟨rfl, rfl⟩ := hI
      refine ⟨_, rfl, ?_⟩
      show (xFz 2 _ _).sat _
      generalize D.lst (ds.map D.str) = sd at *
      have hx : xFz 2 (x2 (fun p q => bl? (cmpA .In p q)) (xVar 8) (xD (.rt (fs.map D.str)))) [k0, k1, k2, k3, k4, k5, k6, some (.d sd), some (.d (.str y)), k9, k10, k11] = .ok (.d (.bl (decide (y ∈ fs)))) [k0, k1, k2, k3, k4, k5, k6, some (.d sd), some (.d (.str y)), k9, k10, k11] := by
        simp [xFz, toD, x2, xVar, xD, bind_ok, Rv.at, cmpA, bl?, in_rt]
      exact ok_sat hx ⟨_, rfl, by rw [List.map_append, List.map_append]; rfl, rfl⟩)
  exact e
theorem any_in (ds : List Str) (a b : Str) : (ds.map fun z => decide (z ∈ [a, b])).any id = (decide (a ∈ ds) || decide (b ∈ ds)) := by
  rw [Bool.eq_iff_iff]
  simp only [List.any_eq_true, List.mem_map, id, Bool.or_eq_true, decide_eq_true_eq]
  constructor
  · rintro ⟨x, ⟨z, hz, rfl⟩, h⟩
    have h := of_decide_eq_true h
    simp at h
    rcases h with rfl | rfl
    · exact .inl hz
    · exact .inr hz
  · rintro (h | h)
    · exact ⟨_, ⟨a, h, rfl⟩, by simp⟩
    · exact ⟨_, ⟨b, h, rfl⟩, by simp⟩
theorem pof_any (x : X1) (bs : List Bool) (r r1 : Sn.Env) (h : x r = .ok (.n (.l true (bs.map .bl))) r1) : xCB (BI.f .any) (xaCons (xAr 2 x) xaNil) r = .ok (.d (.bl (bs.any id))) r1 := by
  have hb := bools_map bs
  generalize bs.map D.bl = bd at *
  simp [xCB, BI.f, xaCons, xaNil, xAr, h, bind_ok, atAll, Rv.at, allA, A.sq?, hb]
theorem pof_body (st : List (Str × Str)) (hl : st.length ≤ 1000) (dd : D) (hdd : ∃ a b, dd = .tup [a, b, .lst (st.map ppD)]) (l k : Str) (same : List Str) (kd : List (Key × D)) (hk : valD kd (.inr l) = some (.str k)) (ps : List Pl) (hp : ps.length ≤ 1000) (k0 k1 k7 k10 k11 : Option A) :
    ∃ j7 j10 j11, places_of_b1 [k0, k1, some (.d dd), some (.m kd), some (.l true (ps.map plD)), some (.d (.str l)), some (.d (.lst (same.map .str))), k7, none, none, k10, k11] = .ok .nx [k0, k1, some (.d dd), some (.m kd), some (.l true ((ps ++ [placeL st l k same]).map plD)), some (.d (.str l)), some (.d (.lst (same.map .str))), j7, none, none, j10, j11] := by
  have e1 := pof_c3 st same hl dd hdd k0 k1 (some (.m kd)) (some (.l true (ps.map plD))) (some (.d (.str l))) k7 k10 k11
  have hdl : (deedsL st same).length ≤ 1000 := by
    unfold deedsL
    rw [List.length_map]
    have := List.length_filter_le (fun s : Str × Str => decide (s.2 ∈ same)) st
    omega
  have hm : (ps ++ [placeL st l k same]).map plD = ps.map plD ++ [.tup [.str l, .str k, .bl (decide (("read" : Str) ∈ deedsL st same) || decide (("ask" : Str) ∈ deedsL st same)), .bl (decide (("write" : Str) ∈ deedsL st same) || decide (("ask" : Str) ∈ deedsL st same))]] := by
    rw [List.map_append]
    rfl
  have hq : (ps.map plD).length < 100000 := by rw [List.length_map]; omega
  rw [hm]
  generalize ps.map plD = pd at *
  generalize deedsL st same = ds at *
  have e2 := pof_any places_of_c2 _ _ _ (pof_in [(.str "read"), (.str "ask")] ["read", "ask"] rfl ds hdl (.l true (ds.map .str)) (.inl rfl) k0 k1 (some (.d dd)) (some (.m kd)) (some (.l true pd)) (some (.d (.str l))) (some (.d (.lst (same.map .str)))) none k10 k11)
  have e3 := fun j10 => pof_any places_of_c1 _ _ _ (pof_in [(.str "write"), (.str "ask")] ["write", "ask"] rfl ds hdl (.d (.lst (ds.map .str))) (.inr rfl) k0 k1 (some (.d dd)) (some (.m kd)) (some (.l true pd)) (some (.d (.str l))) (some (.d (.lst (same.map .str)))) none j10 k11)
  rw [any_in] at e2
  simp only [any_in] at e3
  generalize (decide (("read" : Str) ∈ ds) || decide (("ask" : Str) ∈ ds)) = b1 at *
  generalize (decide (("write" : Str) ∈ ds) || decide (("ask" : Str) ∈ ds)) = b2 at *
  unfold places_of_b1
  generalize same.map D.str = sd at *
  generalize ds.map D.str = dl at *
  generalize places_of_c3 = c3 at *
  generalize xCB (BI.f .any) (xaCons (xAr 2 places_of_c2) xaNil) = c2 at *
  generalize xCB (BI.f .any) (xaCons (xAr 2 places_of_c1) xaNil) = c1 at *
  refine ⟨some (.d (.lst dl)), some (.d (.bl b1)), some (.d (.bl b2)), ?_⟩
  simp [sSeq, sIf, sNx, sSet, sRet, sSub, subA, sDrop, sAug, sPat, xtB, xtT, xtNot, xtAnd, xtOr, x2, xVar, xD, xAnd, xOr, xNot, xNeg, xIf, xCh, xSl, xPart, slA, idxA, bind_ok, bind_ex, bind_no, Rv.at, cmpA, eqA, inA, bl?, truA, A.dc?, A.sq?, A.ls?, D.key, atI, ixN, binA, binI, asgV, toD, putD, putN, ownB, xFz, xAr, xaCons, xaNil, xTup, xLst, xDic0, allD, xCB, BI.f, atAll, lenA, maxA, minA, intA, strA, isiA, tyN, A.ty, Ty.isa, xCF, callX, spill, callT, slotsOf, argsOf, isV, backOf, finE, retOf, backE, isOb, A.own, gN, gT, gAll, e1, e2, e3, xMe, MI.T, MI.f, MT.of, appA, putV, hq, hk]
theorem places_of_ex (b : Bk) (mk md : Nat) (hb : BkOk b mk md) (hmd : md ≤ 1000) (d : Dl) (hd : d ∈ b.ds) : f_places_of.sem [some (.d b.D), some (.d (.str d.nm))] = .ok (.n (.l true ((d.places b.ks).map plD))) [some (.d b.D), some (.d (.str d.nm))] := by
  have hdl := hb.dok d hd
  have h4 := hdl.l4
  have h8 := hdl.s8
  have hby := dealing_by_ex b mk md hb hmd d hd
  have hlt := letters_together_ex b mk md hb hmd d hd
  have ha : f_dealing_by.ar = 2 := rfl
  have ha2 : f_letters_together.ar = 2 := rfl
  have hpl : d.places b.ks = (heads b.ks d.ls).map fun x => placeL d.st x.1 x.2 (grp b.ks d.ls x) := places_heads hdl.lnd
  have hi : xItm (xCF f_letters_together (xaCons (xFz 2 (xVar 0)) (xaCons (xFz 2 (xVar 1)) xaNil))) [some (.d b.D), some (.d (.str d.nm)), some (.d d.D), some (.m (dicL d.ls)), some (.l true []), none, none, none, none, none, none, none] = .ok ((heads b.ks d.ls).map fun x => .tup [.str x.1, .lst ((grp b.ks d.ls x).map .str)]) [some (.d b.D), some (.d (.str d.nm)), some (.d d.D), some (.m (dicL d.ls)), some (.l true []), none, none, none, none, none, none, none] := by
    have hm : itmD (gD b.ks d.ls) = (heads b.ks d.ls).map fun x => .tup [.str x.1, .lst ((grp b.ks d.ls x).map .str)] := by
      unfold itmD gD
      rw [List.map_map]
      rfl
    rw [← hm]
    generalize gD b.ks d.ls = G at *
    generalize b.D = bd at *
    generalize d.D = dd at *
    generalize d.nm = nm at *
    generalize dicL d.ls = dl at *
    generalize f_letters_together = fl at *
    simp [sSeq, sIf, sNx, sSet, sRet, sSub, subA, sDrop, sAug, sPat, xtB, xtT, xtNot, xtAnd, xtOr, x2, xVar, xD, xAnd, xOr, xNot, xNeg, xIf, xCh, xSl, xPart, slA, idxA, bind_ok, bind_ex, bind_no, Rv.at, cmpA, eqA, inA, bl?, truA, A.dc?, A.sq?, A.ls?, D.key, atI, ixN, binA, binI, asgV, toD, putD, putN, ownB, xFz, xAr, xaCons, xaNil, xTup, xLst, xDic0, allD, xCB, BI.f, atAll, lenA, maxA, minA, intA, strA, isiA, tyN, A.ty, Ty.isa, xCF, callX, spill, callT, slotsOf, argsOf, isV, backOf, finE, retOf, backE, isOb, A.own, gN, gT, gAll, xItm, itmR, ha2, hlt]
  obtain ⟨r2, hf, k5, k6, k7, k10, k11, rfl⟩ := for_inv (el := fun x : Str × Str => D.tup [.str x.1, .lst ((grp b.ks d.ls x).map .str)]) (g := gT [(gN 2 5), (gN 2 6)]) (b := places_of_b1) hi
    (fun done r => ∃ k5 k6 k7 k10 k11 : Option A, r = [some (.d b.D), some (.d (.str d.nm)), some (.d d.D), some (.m (dicL d.ls)), some (.l true ((done.map fun x => placeL d.st x.1 x.2 (grp b.ks d.ls x)).map plD)), k5, k6, k7, none, none, k10, k11]) ⟨_, _, _, _, _, rfl⟩
    (fun done x rest r e hI => by
      obtain ⟨k5, k6, k7, k10, k11, rfl⟩ := hI
      have hx : x ∈ heads b.ks d.ls := by rw [e]; simp
      have hlen : done.length ≤ 4 := by
        have h1 := congrArg List.length e
        have h2 := List.length_filter_le (isH b.ks d.ls) d.ls
        unfold heads at h1
        simp at h1
        omega
      obtain ⟨j7, j10, j11, eb⟩ := pof_body d.st (by omega) d.D ⟨_, _, rfl⟩ x.1 x.2 (grp b.ks d.ls x) (dicL d.ls) (val_pp hdl.lnd (heads_sub hx)) (done.map fun x => placeL d.st x.1 x.2 (grp b.ks d.ls x)) (by rw [List.length_map]; omega) (some (.d b.D)) (some (.d (.str d.nm))) k7 k10 k11
      refine ⟨_, rfl, ok_sat eb ⟨rfl, some (.d (.str x.1)), some (.d (.lst ((grp b.ks d.ls x).map .str))), j7, j10, j11, ?_⟩⟩
      rw [List.map_append (f := fun x : Str × Str => placeL d.st x.1 x.2 (grp b.ks d.ls x)), List.map_cons]
      rfl)
  rw [sem_places_of _ rfl]
  show finE _ (b_places_of [some (.d b.D), some (.d (.str d.nm)), none, none, none, none, none, none, none, none, none, none]) = _
  unfold b_places_of
  have e1 : sSet 2 2 (xCF f_dealing_by (xaCons (xFz 2 (xVar 0)) (xaCons (xFz 2 (xVar 1)) xaNil))) [some (.d b.D), some (.d (.str d.nm)), none, none, none, none, none, none, none, none, none, none] = .ok .nx [some (.d b.D), some (.d (.str d.nm)), some (.d d.D), none, none, none, none, none, none, none, none, none] := by
    generalize b.D = bd at *
    generalize d.D = dd at *
    generalize d.nm = nm at *
    generalize f_dealing_by = fb at *
    simp [sSeq, sIf, sNx, sSet, sRet, sSub, subA, sDrop, sAug, sPat, xtB, xtT, xtNot, xtAnd, xtOr, x2, xVar, xD, xAnd, xOr, xNot, xNeg, xIf, xCh, xSl, xPart, slA, idxA, bind_ok, bind_ex, bind_no, Rv.at, cmpA, eqA, inA, bl?, truA, A.dc?, A.sq?, A.ls?, D.key, atI, ixN, binA, binI, asgV, toD, putD, putN, ownB, xFz, xAr, xaCons, xaNil, xTup, xLst, xDic0, allD, xCB, BI.f, atAll, lenA, maxA, minA, intA, strA, isiA, tyN, A.ty, Ty.isa, xCF, callX, spill, callT, slotsOf, argsOf, isV, backOf, finE, retOf, backE, isOb, A.own, gN, gT, gAll, ha, hby]
  have e2 : sSet 2 3 (xCB (BI.f .dict) (xaCons (xAr 2 (x2 idxA (xVar 2) (xD (.int 1)))) xaNil)) [some (.d b.D), some (.d (.str d.nm)), some (.d d.D), none, none, none, none, none, none, none, none, none] = .ok .nx [some (.d b.D), some (.d (.str d.nm)), some (.d d.D), some (.m (dicL d.ls)), none, none, none, none, none, none, none, none] := by
    have p1 := pairs_pp d.ls
    have p2 := dict_pp hdl.lnd
    unfold Dl.D
    generalize b.D = bd at *
    generalize d.ls.map ppD = ld at *
    generalize d.st.map ppD = sd at *
    generalize dicL d.ls = dl at *
    generalize d.nm = nm at *
    simp [sSeq, sIf, sNx, sSet, sRet, sSub, subA, sDrop, sAug, sPat, xtB, xtT, xtNot, xtAnd, xtOr, x2, xVar, xD, xAnd, xOr, xNot, xNeg, xIf, xCh, xSl, xPart, slA, idxA, bind_ok, bind_ex, bind_no, Rv.at, cmpA, eqA, inA, bl?, truA, A.dc?, A.sq?, A.ls?, D.key, atI, ixN, binA, binI, asgV, toD, putD, putN, ownB, xFz, xAr, xaCons, xaNil, xTup, xLst, xDic0, allD, xCB, BI.f, atAll, lenA, maxA, minA, intA, strA, isiA, tyN, A.ty, Ty.isa, xCF, callX, spill, callT, slotsOf, argsOf, isV, backOf, finE, retOf, backE, isOb, A.own, gN, gT, gAll, dictA, p1, p2]
  have e3 : sSet 2 4 (xLst xaNil) [some (.d b.D), some (.d (.str d.nm)), some (.d d.D), some (.m (dicL d.ls)), none, none, none, none, none, none, none, none] = .ok .nx [some (.d b.D), some (.d (.str d.nm)), some (.d d.D), some (.m (dicL d.ls)), some (.l true []), none, none, none, none, none, none, none] := by
    generalize b.D = bd at *
    generalize d.D = dd at *
    generalize dicL d.ls = dl at *
    simp [sSeq, sIf, sNx, sSet, sRet, sSub, subA, sDrop, sAug, sPat, xtB, xtT, xtNot, xtAnd, xtOr, x2, xVar, xD, xAnd, xOr, xNot, xNeg, xIf, xCh, xSl, xPart, slA, idxA, bind_ok, bind_ex, bind_no, Rv.at, cmpA, eqA, inA, bl?, truA, A.dc?, A.sq?, A.ls?, D.key, atI, ixN, binA, binI, asgV, toD, putD, putN, ownB, xFz, xAr, xaCons, xaNil, xTup, xLst, xDic0, allD, xCB, BI.f, atAll, lenA, maxA, minA, intA, strA, isiA, tyN, A.ty, Ty.isa, xCF, callX, spill, callT, slotsOf, argsOf, isV, backOf, finE, retOf, backE, isOb, A.own, gN, gT, gAll]
  rw [seq_nx e1, seq_nx e2, seq_nx e3, seq_nx (show places_of_f1 _ = _ from hf), ← hpl]
  generalize (d.places b.ks).map plD = pd
  generalize b.D = bd at *
  generalize d.D = dd at *
  simp [sSeq, sIf, sNx, sSet, sRet, sSub, subA, sDrop, sAug, sPat, xtB, xtT, xtNot, xtAnd, xtOr, x2, xVar, xD, xAnd, xOr, xNot, xNeg, xIf, xCh, xSl, xPart, slA, idxA, bind_ok, bind_ex, bind_no, Rv.at, cmpA, eqA, inA, bl?, truA, A.dc?, A.sq?, A.ls?, D.key, atI, ixN, binA, binI, asgV, toD, putD, putN, ownB, xFz, xAr, xaCons, xaNil, xTup, xLst, xDic0, allD, xCB, BI.f, atAll, lenA, maxA, minA, intA, strA, isiA, tyN, A.ty, Ty.isa, xCF, callX, spill, callT, slotsOf, argsOf, isV, backOf, finE, retOf, backE, isOb, A.own, gN, gT, gAll]
theorem pl_kind {b : Bk} {mk md : Nat} (hb : BkOk b mk md) {d : Dl} (hd : d ∈ b.ds) : ∀ p ∈ d.places b.ks, p.2.1 ∈ b.ks.map (·.1) := fun p hp => by
  have hpl : d.places b.ks = (heads b.ks d.ls).map fun x => placeL d.st x.1 x.2 (grp b.ks d.ls x) := places_heads (hb.dok d hd).lnd
  rw [hpl] at hp
  obtain ⟨x, hx, rfl⟩ := List.mem_map.mp hp
  exact (hb.dok d hd).lk x (heads_sub hx)
theorem lone_writes_ex (b : Bk) (mk md : Nat) (hb : BkOk b mk md) (hmd : md ≤ 1000) (d : Dl) (hd : d ∈ b.ds) : f_lone_writes.sem [some (.d b.D), some (.d (.str d.nm))] = .ok (.n (.l true ((loneL b.ks (d.places b.ks)).map .str))) [some (.d b.D), some (.d (.str d.nm))] := by
  have hp := places_of_ex b mk md hb hmd d hd
  have ha : f_places_of.ar = 2 := rfl
  have ha2 : f_has_many.ar = 2 := rfl
  have hlen : (d.places b.ks).length ≤ 1000 := by
    have h1 : (d.places b.ks).length ≤ d.ls.length := List.length_filterMap_le _ _
    have := (hb.dok d hd).l4
    omega
  have hi : xIt (xFz 2 (xCF f_places_of (xaCons (xFz 2 (xVar 0)) (xaCons (xFz 2 (xVar 1)) xaNil)))) [some (.d b.D), some (.d (.str d.nm)), none, none, none, none] = .ok ((d.places b.ks).map plD) [some (.d b.D), some (.d (.str d.nm)), none, none, none, none] := by
    generalize (d.places b.ks).map plD = pd at *
    generalize b.D = bd at *
    generalize d.nm = nm at *
    generalize f_places_of = fp at *
    simp [sSeq, sIf, sNx, sSet, sRet, sSub, subA, sDrop, sAug, sPat, xtB, xtT, xtNot, xtAnd, xtOr, x2, xVar, xD, xAnd, xOr, xNot, xNeg, xIf, xCh, xSl, xPart, slA, idxA, bind_ok, bind_ex, bind_no, Rv.at, cmpA, eqA, inA, bl?, truA, A.dc?, A.sq?, A.ls?, D.key, atI, ixN, binA, binI, asgV, toD, putD, putN, ownB, xFz, xAr, xaCons, xaNil, xTup, xLst, xDic0, allD, xCB, BI.f, atAll, lenA, maxA, minA, intA, strA, isiA, tyN, A.ty, Ty.isa, xCF, callX, spill, callT, slotsOf, argsOf, isV, backOf, finE, retOf, backE, isOb, A.own, gN, gT, gAll, xIt, itA, ha, hp]
  obtain ⟨ys, r2, e, rfl, rfl⟩ := lc_inv (vs := [2, 3, 4, 5]) (g := gT [(gN 2 2), (gN 2 3), (gN 2 4), (gN 2 5)]) (t := xtAnd (xtT (xVar 5)) (xtNot (xtT (xCF f_has_many (xaCons (xFz 2 (xVar 0)) (xaCons (xFz 2 (xVar 3)) xaNil)))))) (x := xFz 2 (xVar 3)) hi rfl (by omega)
    (fun done acc r => acc = (loneL b.ks done).map .str ∧ r = [some (.d b.D), some (.d (.str d.nm)), none, none, none, none]) ⟨rfl, rfl⟩
    (fun done y rest acc r e hI => by
      obtain ⟨rfl, rfl⟩ := hI
      refine ⟨_, rfl, ?_⟩
      have hy : y ∈ d.places b.ks := by rw [e]; simp
      have hm := has_many_ex b hb.knd y.2.1 (pl_kind hb hd y hy)
      have ht : xtAnd (xtT (xVar 5)) (xtNot (xtT (xCF f_has_many (xaCons (xFz 2 (xVar 0)) (xaCons (xFz 2 (xVar 3)) xaNil))))) [some (.d b.D), some (.d (.str d.nm)), some (.d (.str y.1)), some (.d (.str y.2.1)), some (.d (.bl y.2.2.1)), some (.d (.bl y.2.2.2))] = .ok (y.2.2.2 && !mny b.ks y.2.1) [some (.d b.D), some (.d (.str d.nm)), some (.d (.str y.1)), some (.d (.str y.2.1)), some (.d (.bl y.2.2.1)), some (.d (.bl y.2.2.2))] := by
        generalize mny b.ks y.2.1 = mm at *
        generalize b.D = bd at *
        generalize f_has_many = fm at *
        cases hw : y.2.2.2 <;> simp [sSeq, sIf, sNx, sSet, sRet, sSub, subA, sDrop, sAug, sPat, xtB, xtT, xtNot, xtAnd, xtOr, x2, xVar, xD, xAnd, xOr, xNot, xNeg, xIf, xCh, xSl, xPart, slA, idxA, bind_ok, bind_ex, bind_no, Rv.at, cmpA, eqA, inA, bl?, truA, A.dc?, A.sq?, A.ls?, D.key, atI, ixN, binA, binI, asgV, toD, putD, putN, ownB, xFz, xAr, xaCons, xaNil, xTup, xLst, xDic0, allD, xCB, BI.f, atAll, lenA, maxA, minA, intA, strA, isiA, tyN, A.ty, Ty.isa, xCF, callX, spill, callT, slotsOf, argsOf, isV, backOf, finE, retOf, backE, isOb, A.own, gN, gT, gAll, ha2, hm]
      refine ok_sat ht ?_
      have hs : loneL b.ks (done ++ [y]) = loneL b.ks done ++ (if (y.2.2.2 && !mny b.ks y.2.1) = true then [y.2.1] else []) := by
        unfold loneL
        rw [List.filter_append, List.map_append]
        congr 1
        exact filt1 _ _ _
      rw [hs]
      by_cases hh : (y.2.2.2 && !mny b.ks y.2.1) = true
      · rw [if_pos hh, if_pos hh]
        exact ok_sat (a := Rv.d (.str y.2.1)) rfl ⟨_, rfl, by rw [List.map_append]; rfl, rfl⟩
      · rw [if_neg hh, if_neg hh]
        exact ⟨by rw [List.append_nil], rfl⟩)
  rw [sem_lone_writes _ rfl]
  show finE _ (b_lone_writes [some (.d b.D), some (.d (.str d.nm)), none, none, none, none]) = _
  have e : lone_writes_c1 [some (.d b.D), some (.d (.str d.nm)), none, none, none, none] = .ok (.n (.l true ((loneL b.ks (d.places b.ks)).map .str))) [some (.d b.D), some (.d (.str d.nm)), none, none, none, none] := e
  unfold b_lone_writes
  generalize lone_writes_c1 = c at *
  generalize (loneL b.ks (d.places b.ks)).map D.str = pd at *
  generalize b.D = bd at *
  simp [sSeq, sIf, sNx, sSet, sRet, sSub, subA, sDrop, sAug, sPat, xtB, xtT, xtNot, xtAnd, xtOr, x2, xVar, xD, xAnd, xOr, xNot, xNeg, xIf, xCh, xSl, xPart, slA, idxA, bind_ok, bind_ex, bind_no, Rv.at, cmpA, eqA, inA, bl?, truA, A.dc?, A.sq?, A.ls?, D.key, atI, ixN, binA, binI, asgV, toD, putD, putN, ownB, xFz, xAr, xaCons, xaNil, xTup, xLst, xDic0, allD, xCB, BI.f, atAll, lenA, maxA, minA, intA, strA, isiA, tyN, A.ty, Ty.isa, xCF, callX, spill, callT, slotsOf, argsOf, isV, backOf, finE, retOf, backE, isOb, A.own, gN, gT, gAll, e]
def nD (i : Nat) : D := .int (i : Int)
theorem beside_c (b : Bk) (mk md : Nat) (hb : BkOk b mk md) (hmd : md ≤ 1000) (e : Dl) (he : e ∈ b.ds) (own : List Str) (k1 k3 k4 : Option A) : beside_c1 [some (.d b.D), k1, some (.l true (own.map .str)), k3, k4, some (.d e.D), none] = .ok (.n (.l true (((loneL b.ks (e.places b.ks)).map fun k => decide (k ∈ own)).map .bl))) [some (.d b.D), k1, some (.l true (own.map .str)), k3, k4, some (.d e.D), none] := by
  have hp := lone_writes_ex b mk md hb hmd e he
  have ha : f_lone_writes.ar = 2 := rfl
  have hlen : (loneL b.ks (e.places b.ks)).length ≤ 1000 := by
    have h0 := lone_len (ks := b.ks) (ps := e.places b.ks)
    have h1 : (e.places b.ks).length ≤ e.ls.length := List.length_filterMap_le _ _
    have := (hb.dok e he).l4
    omega
  have hi : xIt (xFz 2 (xCF f_lone_writes (xaCons (xFz 2 (xVar 0)) (xaCons (xFz 2 (x2 idxA (xVar 5) (xD (.int 0)))) xaNil)))) [some (.d b.D), k1, some (.l true (own.map .str)), k3, k4, some (.d e.D), none] = .ok ((loneL b.ks (e.places b.ks)).map .str) [some (.d b.D), k1, some (.l true (own.map .str)), k3, k4, some (.d e.D), none] := by
    unfold Dl.D
    generalize e.ls.map ppD = ld at *
    generalize e.st.map ppD = sd at *
    generalize (loneL b.ks (e.places b.ks)).map D.str = pd at *
    generalize own.map D.str = od at *
    generalize b.D = bd at *
    generalize e.nm = nm at *
    generalize f_lone_writes = fp at *
    simp [sSeq, sIf, sNx, sSet, sRet, sSub, subA, sDrop, sAug, sPat, xtB, xtT, xtNot, xtAnd, xtOr, x2, xVar, xD, xAnd, xOr, xNot, xNeg, xIf, xCh, xSl, xPart, slA, idxA, bind_ok, bind_ex, bind_no, Rv.at, cmpA, eqA, inA, bl?, truA, A.dc?, A.sq?, A.ls?, D.key, atI, ixN, binA, binI, asgV, toD, putD, putN, ownB, xFz, xAr, xaCons, xaNil, xTup, xLst, xDic0, allD, xCB, BI.f, atAll, lenA, maxA, minA, intA, strA, isiA, tyN, A.ty, Ty.isa, xCF, callX, spill, callT, slotsOf, argsOf, isV, backOf, finE, retOf, backE, isOb, A.own, gN, gT, gAll, xIt, itA, ha, hp]
  obtain ⟨ys, r2, e1, rfl, rfl⟩ := lc_inv (vs := [6]) (g := gN 2 6) (t := fun r => .ok true r) (x := xFz 2 (x2 (fun p q => bl? (cmpA .In p q)) (xVar 6) (xVar 2))) hi rfl (by omega)
    (fun done acc r => acc = (done.map fun k => decide (k ∈ own)).map .bl ∧ r = [some (.d b.D), k1, some (.l true (own.map .str)), k3, k4, some (.d e.D), none]) ⟨rfl, rfl⟩
    (fun done y rest acc r ee hI => by
      obtain ⟨rfl, rfl⟩ := hI
      refine ⟨_, rfl, ?_⟩
      have hx : xFz 2 (x2 (fun p q => bl? (cmpA .In p q)) (xVar 6) (xVar 2)) [some (.d b.D), k1, some (.l true (own.map .str)), k3, k4, some (.d e.D), some (.d (.str y))] = .ok (.d (.bl (decide (y ∈ own)))) [some (.d b.D), k1, some (.l true (own.map .str)), k3, k4, some (.d e.D), some (.d (.str y))] := by
        generalize b.D = bd
        generalize e.D = ed
        simp [xFz, toD, x2, xVar, bind_ok, Rv.at, cmpA, bl?, in_strs]
      refine ok_sat (a := true) rfl ?_
      rw [if_pos rfl]
      exact ok_sat hx ⟨_, rfl, by rw [List.map_append, List.map_append]; rfl, rfl⟩)
  exact e1
theorem any_map {α : Type} (f : α → Bool) (xs : List α) : (xs.map f).any id = xs.any f := by
  rw [List.any_map]
  rfl
theorem beside_ex (b : Bk) (mk md : Nat) (hb : BkOk b mk md) (hmd : md ≤ 1000) (d : Dl) (hd : d ∈ b.ds) : f_beside.sem [some (.d b.D), some (.d (.str d.nm))] = .ok (.n (.l true ((besL b d b.ds.zipIdx).map nD))) [some (.d b.D), some (.d (.str d.nm))] := by
  have hown := lone_writes_ex b mk md hb hmd d hd
  have ha : f_lone_writes.ar = 2 := rfl
  have hdl := hb.d8
  have hi : ∀ k3, xEn (xaCons (xFz 2 (x2 idxA (xVar 0) (xD (.int 1)))) xaNil) [some (.d b.D), some (.d (.str d.nm)), some (.l true ((loneL b.ks (d.places b.ks)).map .str)), k3, none, none, none] = .ok (b.ds.zipIdx.map fun p => .tup [.int p.2, p.1.D]) [some (.d b.D), some (.d (.str d.nm)), some (.l true ((loneL b.ks (d.places b.ks)).map .str)), k3, none, none, none] := fun k3 => by
    rw [← enum_map Dl.D b.ds 0]
    unfold Bk.D
    rfl
  obtain ⟨r2, hf, k4, k5, rfl⟩ := for_inv (el := fun p : Dl × Nat => D.tup [.int p.2, p.1.D]) (g := gT [(gN 2 4), (gN 2 5)]) (b := beside_b1) (hi (some (.l true [])))
    (fun done r => ∃ k4 k5 : Option A, r = [some (.d b.D), some (.d (.str d.nm)), some (.l true ((loneL b.ks (d.places b.ks)).map .str)), some (.l true ((besL b d done).map nD)), k4, k5, none]) ⟨_, _, rfl⟩
    (fun done x rest r e hI => by
      obtain ⟨k4, k5, rfl⟩ := hI
      obtain ⟨ex, i⟩ := x
      have hx : ex ∈ b.ds := by
        have : (ex, i) ∈ b.ds.zipIdx := by rw [e]; simp
        exact (List.mem_zipIdx this).2.2 ▸ List.getElem_mem _
      have hc := beside_c b mk md hb hmd ex hx (loneL b.ks (d.places b.ks)) (some (.d (.str d.nm))) (some (.l true ((besL b d done).map nD))) (some (.d (.int i)))
      have hany := pof_any _ _ _ _ hc
      rw [any_map] at hany
      have hq : ((besL b d done).map nD).length < 100000 := by
        have h1 : (besL b d done).length ≤ done.length := by
          unfold besL
          rw [List.length_map]
          exact List.length_filter_le _ _
        have h2 := congrArg List.length e
        simp at h2 ⊢
        omega
      have hs : besL b d (done ++ [(ex, i)]) = besL b d done ++ (if (!((loneL b.ks (ex.places b.ks)).any fun k => decide (k ∈ loneL b.ks (d.places b.ks)))) = true then [i] else []) := by
        unfold besL
        rw [List.filter_append, List.map_append]
        congr 1
        exact filt1 _ _ _
      refine ⟨_, rfl, ?_⟩
      refine ok_sat (a := Fl.nx) (r := [some (.d b.D), some (.d (.str d.nm)), some (.l true ((loneL b.ks (d.places b.ks)).map .str)), some (.l true ((besL b d (done ++ [(ex, i)])).map nD)), some (.d (.int i)), some (.d ex.D), none]) ?_ ⟨rfl, _, _, rfl⟩
      show beside_b1 [some (.d b.D), some (.d (.str d.nm)), some (.l true ((loneL b.ks (d.places b.ks)).map .str)), some (.l true ((besL b d done).map nD)), some (.d (.int i)), some (.d ex.D), none] = _
      rw [hs, List.map_append]
      unfold beside_b1
      generalize xCB (BI.f .any) (xaCons (xAr 2 beside_c1) xaNil) = cc at *
      generalize ((loneL b.ks (ex.places b.ks)).any fun k => decide (k ∈ loneL b.ks (d.places b.ks))) = bb at *
      generalize (besL b d done).map nD = fd at *
      generalize (loneL b.ks (d.places b.ks)).map D.str = od at *
      generalize b.D = bd at *
      generalize ex.D = ed at *
      cases bb <;> simp [sSeq, sIf, sNx, sSet, sRet, sSub, subA, sDrop, sAug, sPat, xtB, xtT, xtNot, xtAnd, xtOr, x2, xVar, xD, xAnd, xOr, xNot, xNeg, xIf, xCh, xSl, xPart, slA, idxA, bind_ok, bind_ex, bind_no, Rv.at, cmpA, eqA, inA, bl?, truA, A.dc?, A.sq?, A.ls?, D.key, atI, ixN, binA, binI, asgV, toD, putD, putN, ownB, xFz, xAr, xaCons, xaNil, xTup, xLst, xDic0, allD, xCB, BI.f, atAll, lenA, maxA, minA, intA, strA, isiA, tyN, A.ty, Ty.isa, xCF, callX, spill, callT, slotsOf, argsOf, isV, backOf, finE, retOf, backE, isOb, A.own, gN, gT, gAll, hany, xMe, MI.T, MI.f, MT.of, appA, putV, hq, nD])
  rw [sem_beside _ rfl]
  show finE _ (b_beside [some (.d b.D), some (.d (.str d.nm)), none, none, none, none, none]) = _
  unfold b_beside
  have e1 : sSet 2 2 (xCF f_lone_writes (xaCons (xFz 2 (xVar 0)) (xaCons (xFz 2 (xVar 1)) xaNil))) [some (.d b.D), some (.d (.str d.nm)), none, none, none, none, none] = .ok .nx [some (.d b.D), some (.d (.str d.nm)), some (.l true ((loneL b.ks (d.places b.ks)).map .str)), none, none, none, none] := by
    generalize (loneL b.ks (d.places b.ks)).map D.str = od at *
    generalize b.D = bd at *
    generalize d.nm = nm at *
    generalize f_lone_writes = fb at *
    simp [sSeq, sIf, sNx, sSet, sRet, sSub, subA, sDrop, sAug, sPat, xtB, xtT, xtNot, xtAnd, xtOr, x2, xVar, xD, xAnd, xOr, xNot, xNeg, xIf, xCh, xSl, xPart, slA, idxA, bind_ok, bind_ex, bind_no, Rv.at, cmpA, eqA, inA, bl?, truA, A.dc?, A.sq?, A.ls?, D.key, atI, ixN, binA, binI, asgV, toD, putD, putN, ownB, xFz, xAr, xaCons, xaNil, xTup, xLst, xDic0, allD, xCB, BI.f, atAll, lenA, maxA, minA, intA, strA, isiA, tyN, A.ty, Ty.isa, xCF, callX, spill, callT, slotsOf, argsOf, isV, backOf, finE, retOf, backE, isOb, A.own, gN, gT, gAll, ha, hown]
  have e2 : sSet 2 3 (xLst xaNil) [some (.d b.D), some (.d (.str d.nm)), some (.l true ((loneL b.ks (d.places b.ks)).map .str)), none, none, none, none] = .ok .nx [some (.d b.D), some (.d (.str d.nm)), some (.l true ((loneL b.ks (d.places b.ks)).map .str)), some (.l true []), none, none, none] := by
    generalize (loneL b.ks (d.places b.ks)).map D.str = od at *
    generalize b.D = bd at *
    simp [sSeq, sIf, sNx, sSet, sRet, sSub, subA, sDrop, sAug, sPat, xtB, xtT, xtNot, xtAnd, xtOr, x2, xVar, xD, xAnd, xOr, xNot, xNeg, xIf, xCh, xSl, xPart, slA, idxA, bind_ok, bind_ex, bind_no, Rv.at, cmpA, eqA, inA, bl?, truA, A.dc?, A.sq?, A.ls?, D.key, atI, ixN, binA, binI, asgV, toD, putD, putN, ownB, xFz, xAr, xaCons, xaNil, xTup, xLst, xDic0, allD, xCB, BI.f, atAll, lenA, maxA, minA, intA, strA, isiA, tyN, A.ty, Ty.isa, xCF, callX, spill, callT, slotsOf, argsOf, isV, backOf, finE, retOf, backE, isOb, A.own, gN, gT, gAll]
  rw [seq_nx e1, seq_nx e2, seq_nx (show beside_f1 _ = _ from hf)]
  generalize (besL b d b.ds.zipIdx).map nD = fd
  generalize (loneL b.ks (d.places b.ks)).map D.str = od at *
  generalize b.D = bd at *
  simp [sSeq, sIf, sNx, sSet, sRet, sSub, subA, sDrop, sAug, sPat, xtB, xtT, xtNot, xtAnd, xtOr, x2, xVar, xD, xAnd, xOr, xNot, xNeg, xIf, xCh, xSl, xPart, slA, idxA, bind_ok, bind_ex, bind_no, Rv.at, cmpA, eqA, inA, bl?, truA, A.dc?, A.sq?, A.ls?, D.key, atI, ixN, binA, binI, asgV, toD, putD, putN, ownB, xFz, xAr, xaCons, xaNil, xTup, xLst, xDic0, allD, xCB, BI.f, atAll, lenA, maxA, minA, intA, strA, isiA, tyN, A.ty, Ty.isa, xCF, callX, spill, callT, slotsOf, argsOf, isV, backOf, finE, retOf, backE, isOb, A.own, gN, gT, gAll]
theorem lcL_inv {α : Type} {el : α → D} {ar : Nat} {vs : List Nat} {j : Nat} {g : XG} {t : XT} {x : X1} {r : Sn.Env} {xs : List α} {w : Bool} (hj : r[j]? = some (some (.l w (xs.map el)))) (hv : vs.all (fun i => !ownB r i) = true) (hjv : vs.contains j = false) (hl : xs.length ≤ 1000) (I : List α → List D → Sn.Env → Prop) (hI : ∀ done acc r, I done acc r → ∃ w, r[j]? = some (some (.l w (xs.map el)))) (h0 : I [] [] (wipeE r vs))
    (hs : ∀ done y rest acc r, xs = done ++ y :: rest → I done acc r → ∃ r2, g (el y) r = some r2 ∧ (t r2).sat fun b r3 => if b = true then (x r3).sat fun u r4 => ∃ d, u = .d d ∧ I (done ++ [y]) (acc ++ [d]) (wipeE r4 vs) else I (done ++ [y]) acc (wipeE r3 vs)) : ∃ ys r2, xLcL ar vs j g t x r = .ok (.n (.l true ys)) (restE r vs r2) ∧ I xs ys r2 := by
  have key : ∀ (rest done : List α) (n : Nat) (acc : List D) (r : Sn.Env), xs = done ++ rest → rest.length < n → acc.length ≤ done.length → I done acc r → (compL vs j g t x n done.length r acc).sat fun ys r2 => I xs ys r2 := by
    intro rest
    induction rest with
    | nil =>
      intro done n acc r e hn ha hi
      obtain ⟨w, hw⟩ := hI _ _ _ hi
      cases n with
      | zero => simp at hn
      | succ n =>
        unfold compL
        rw [hw]
        simp only
        have : (xs.map el)[done.length]? = none := by
          rw [List.getElem?_eq_none]
          rw [e]
          simp
        rw [this]
        rw [List.append_nil] at e
        rw [e]
        exact hi
    | cons y rest ih =>
      intro done n acc r e hn ha hi
      obtain ⟨w, hw⟩ := hI _ _ _ hi
      obtain ⟨r2, eg, hb⟩ := hs done y rest acc r e hi
      have hle : acc.length < 100000 := by
        have : xs.length = done.length + (rest.length + 1) := by rw [e]; simp
        omega
      cases n with
      | zero => simp at hn
      | succ n =>
        unfold compL
        rw [hw]
        simp only
        have : (xs.map el)[done.length]? = some (el y) := by
          rw [e]
          simp
        rw [this]
        simp only [eg]
        refine sat_bind (sat_mono hb fun b r3 k => ?_)
        have hlen : (done ++ [y]).length = done.length + 1 := by simp
        by_cases hb : b = true
        · rw [if_pos hb] at k ⊢
          refine sat_bind (sat_mono k fun u r4 k2 => ?_)
          obtain ⟨d, rfl, hi2⟩ := k2
          simp only [if_pos hle]
          rw [← hlen]
          exact ih (done ++ [y]) n _ _ (by rw [e, List.append_assoc]; rfl) (by simp at hn; omega) (by simp; omega) hi2
        · rw [if_neg hb] at k ⊢
          rw [← hlen]
          exact ih (done ++ [y]) n _ _ (by rw [e, List.append_assoc]; rfl) (by simp at hn; omega) (by simp; omega) k
  obtain ⟨ys, r2, e2, hi⟩ := sat_ex (key xs [] 100000 [] (wipeE r vs) rfl (by omega) (Nat.le_refl _) h0)
  refine ⟨ys, r2, ?_, hi⟩
  unfold xLcL
  rw [hj]
  simp only
  rw [if_pos ⟨hv, hjv⟩]
  rw [show compL vs j g t x 100000 0 (wipeE r vs) [] = .ok ys r2 from e2]
theorem eq_nil {zs : List Str} {w w' : Bool} (h : ∀ z ∈ zs, PyData.strOk z = true) : eqA (.l w (zs.map .str)) (.l w' []) = some zs.isEmpty := by
  cases zs with
  | nil => exact eq_l2 (xs := []) fitL_nil
  | cons z zs =>
    obtain ⟨ps, h1, h2, h3⟩ := fitL_map (f := D.str) (n := 63) (xs := z :: zs) fun x hx => fit_str (h x hx)
    have hc : (PyData.list ps).canLay0 = true := by simp [PyData.canLay0, h2]
    have hd : (PyData.list ps).depth ≤ 64 := by simp only [PyData.depth]; omega
    have hs := shaped_of hc hd
    have hs0 : SeqAt.shaped (.list []) = true := by decide +kernel
    have hne : ∃ p q, ps = p :: q := by
      rw [List.map_cons] at h1
      unfold D.pys at h1
      simp only [D.py] at h1
      split at h1
      · cases h1; exact ⟨_, _, rfl⟩
      · cases h1
    obtain ⟨p, q, rfl⟩ := hne
    unfold eqA
    simp only [A.py, h1, D.pys, hs, hs0, and_self, if_true]
    simp [PyData.eqv, PyData.eqvAll]
theorem alone_ok (b : Bk) (mk md : Nat) (hb : BkOk b mk md) (d : Dl) (hd : d ∈ b.ds) : ∀ z ∈ aloneL b.ks d.ls d.st, PyData.strOk z = true := fun z hz => by
  unfold aloneL at hz
  obtain ⟨s, hs, rfl⟩ := List.mem_map.mp hz
  have hs := (List.mem_filter.mp hs).1
  obtain ⟨x, hx, ex⟩ := List.mem_map.mp ((hb.dok d hd).sl s hs)
  rw [← ex, kOf_mem (hb.dok d hd).lnd hx]
  exact (hb.nms _ ((hb.dok d hd).lk x hx)).ok
theorem r17_c2 (b : Bk) (mk md : Nat) (hb : BkOk b mk md) (e : Dl) (he : e ∈ b.ds) (own : List Str) (k1 k2 k4 k5 k8 k9 k10 : Option A) : l_right_c2 [some (.d b.D), k1, k2, some (.l true (own.map .str)), k4, k5, some (.d e.D), none, k8, k9, k10] = .ok (.n (.l true (((aloneL b.ks e.ls e.st).filter fun k => decide (k ∈ own)).map .str))) [some (.d b.D), k1, k2, some (.l true (own.map .str)), k4, k5, some (.d e.D), none, k8, k9, k10] := by
  have hp := alone_ex b mk md hb e he
  have ha : f_l_alone_written.ar = 2 := rfl
  have hlen : (aloneL b.ks e.ls e.st).length ≤ 1000 := by
    have h0 := alone_len (ks := b.ks) (ls := e.ls) (st := e.st)
    have := (hb.dok e he).s8
    omega
  have hi : xIt (xFz 1 (xCF f_l_alone_written (xaCons (xFz 1 (xVar 0)) (xaCons (xFz 1 (xVar 6)) xaNil)))) [some (.d b.D), k1, k2, some (.l true (own.map .str)), k4, k5, some (.d e.D), none, k8, k9, k10] = .ok ((aloneL b.ks e.ls e.st).map .str) [some (.d b.D), k1, k2, some (.l true (own.map .str)), k4, k5, some (.d e.D), none, k8, k9, k10] := by
    generalize (aloneL b.ks e.ls e.st).map D.str = pd at *
    generalize own.map D.str = od at *
    generalize b.D = bd at *
    generalize e.D = ed at *
    generalize f_l_alone_written = fp at *
    simp [sSeq, sIf, sNx, sSet, sRet, sSub, subA, sDrop, sAug, sPat, xtB, xtT, xtNot, xtAnd, xtOr, x2, xVar, xD, xAnd, xOr, xNot, xNeg, xIf, xCh, xSl, xPart, slA, idxA, bind_ok, bind_ex, bind_no, Rv.at, cmpA, eqA, inA, bl?, truA, A.dc?, A.sq?, A.ls?, D.key, atI, ixN, binA, binI, asgV, toD, putD, putN, ownB, xFz, xAr, xaCons, xaNil, xTup, xLst, xDic0, allD, xCB, BI.f, atAll, lenA, maxA, minA, intA, strA, isiA, tyN, A.ty, Ty.isa, xCF, callX, spill, callT, slotsOf, argsOf, isV, backOf, finE, retOf, backE, isOb, A.own, gN, gT, gAll, xIt, itA, ha, hp]
  obtain ⟨ys, r2, e1, rfl, rfl⟩ := lc_inv (vs := [7]) (g := gN 1 7) (t := xtB (x2 (fun p q => bl? (cmpA .In p q)) (xVar 7) (xVar 3))) (x := xFz 1 (xVar 7)) hi rfl (by omega)
    (fun done acc r => acc = (done.filter fun k => decide (k ∈ own)).map .str ∧ r = [some (.d b.D), k1, k2, some (.l true (own.map .str)), k4, k5, some (.d e.D), none, k8, k9, k10]) ⟨rfl, rfl⟩
    (fun done y rest acc r ee hI => by
      obtain ⟨rfl, rfl⟩ := hI
      refine ⟨_, rfl, ?_⟩
      have ht : xtB (x2 (fun p q => bl? (cmpA .In p q)) (xVar 7) (xVar 3)) [some (.d b.D), k1, k2, some (.l true (own.map .str)), k4, k5, some (.d e.D), some (.d (.str y)), k8, k9, k10] = .ok (decide (y ∈ own)) [some (.d b.D), k1, k2, some (.l true (own.map .str)), k4, k5, some (.d e.D), some (.d (.str y)), k8, k9, k10] := by
        generalize b.D = bd
        generalize e.D = ed
        simp [xtB, x2, xVar, bind_ok, Rv.at, cmpA, bl?, in_strs]
      refine ok_sat ht ?_
      rw [List.filter_append, List.map_append, filt1 (fun k => decide (k ∈ own)) D.str y]
      by_cases hh : decide (y ∈ own) = true
      · rw [if_pos hh, if_pos hh]
        exact ok_sat (a := Rv.d (.str y)) rfl ⟨_, rfl, rfl, rfl⟩
      · rw [if_neg hh, if_neg hh]
        exact ⟨by rw [List.append_nil], rfl⟩)
  exact e1
theorem r17_b2 (b : Bk) (mk md : Nat) (hb : BkOk b mk md) (d e : Dl) (hd : d ∈ b.ds) (he : e ∈ b.ds) (i : Nat) (fs : List Nat) (hf : fs.length ≤ 1000) (k1 k2 k8 k9 k10 : Option A) :
    l_right_b2 [some (.d b.D), k1, k2, some (.l true ((aloneL b.ks d.ls d.st).map .str)), some (.l true (fs.map nD)), some (.d (.int i)), some (.d e.D), none, k8, k9, k10] = .ok .nx [some (.d b.D), k1, k2, some (.l true ((aloneL b.ks d.ls d.st).map .str)), some (.l true ((fs ++ (if (!((loneL b.ks (e.places b.ks)).any fun k => decide (k ∈ loneL b.ks (d.places b.ks)))) = true then [i] else [])).map nD)), some (.d (.int i)), some (.d e.D), none, k8, k9, k10] := by
  have hc := r17_c2 b mk md hb e he (aloneL b.ks d.ls d.st) k1 k2 (some (.l true (fs.map nD))) (some (.d (.int i))) k8 k9 k10
  have hq := eq_nil (w := true) (w' := true) (zs := (aloneL b.ks e.ls e.st).filter fun k => decide (k ∈ aloneL b.ks d.ls d.st)) fun z hz => alone_ok b mk md hb e he z (List.mem_filter.mp hz).1
  rw [bes_eq hb hd he]
  have hz : (fs.map nD).length < 100000 := by rw [List.length_map]; omega
  rw [List.map_append]
  unfold l_right_b2
  generalize l_right_c2 = cc at *
  generalize ((aloneL b.ks e.ls e.st).filter fun k => decide (k ∈ aloneL b.ks d.ls d.st)).isEmpty = bb at *
  generalize ((aloneL b.ks e.ls e.st).filter fun k => decide (k ∈ aloneL b.ks d.ls d.st)).map D.str = zz at *
  generalize (aloneL b.ks d.ls d.st).map D.str = od at *
  generalize fs.map nD = fd at *
  generalize b.D = bd at *
  generalize e.D = ed at *
  have ht : xtB (x2 (fun p q => bl? (cmpA .Eq p q)) cc (xLst xaNil)) [some (.d bd), k1, k2, some (.l true od), some (.l true fd), some (.d (.int i)), some (.d ed), none, k8, k9, k10] = .ok bb [some (.d bd), k1, k2, some (.l true od), some (.l true fd), some (.d (.int i)), some (.d ed), none, k8, k9, k10] := by
    simp [xtB, x2, hc, bind_ok, xLst, xaNil, allD, Rv.at, cmpA, hq, bl?]
  generalize xtB (x2 (fun p q => bl? (cmpA .Eq p q)) cc (xLst xaNil)) = tt at *
  cases bb <;> simp [sSeq, sIf, ht, bind_ok, sNx, sDrop, xMe, MI.T, MI.f, MT.of, appA, putV, xVar, xFz, toD, xaCons, xaNil, Rv.at, atAll, hz, nD]
theorem r17_c1 (fs : List Nat) (hf : fs.length ≤ 1000) (k0 k1 k2 k3 k4 k5 k6 k7 k8 : Option A) : l_right_c1 [k0, k1, k2, k3, k4, k5, k6, k7, k8, some (.l true (fs.map nD)), none] = .ok (.n (.l true ((fs.map fun _ => true).map .bl))) [k0, k1, k2, k3, k4, k5, k6, k7, k8, some (.l true (fs.map nD)), none] := by
  have ha : f_l_is_whole.ar = 1 := rfl
  obtain ⟨ys, r2, e, rfl, rfl⟩ := lcL_inv (el := nD) (ar := 1) (vs := [10]) (j := 9) (g := gN 1 10) (t := fun r => .ok true r) (x := xFz 1 (xCF f_l_is_whole (xaCons (xFz 1 (xVar 10)) xaNil))) (r := [k0, k1, k2, k3, k4, k5, k6, k7, k8, some (.l true (fs.map nD)), none]) (xs := fs) (w := true) rfl rfl rfl hf
    (fun done acc r => acc = (done.map fun _ => true).map .bl ∧ r = [k0, k1, k2, k3, k4, k5, k6, k7, k8, some (.l true (fs.map nD)), none]) (fun done acc r h => ⟨true, by rw [h.2]; rfl⟩) ⟨rfl, rfl⟩
    (fun done y rest acc r ee hI => by
      obtain ⟨rfl, rfl⟩ := hI
      refine ⟨_, rfl, ?_⟩
      have hw := is_whole_int (y : Int)
      have hx : xFz 1 (xCF f_l_is_whole (xaCons (xFz 1 (xVar 10)) xaNil)) [k0, k1, k2, k3, k4, k5, k6, k7, k8, some (.l true (fs.map nD)), some (.d (.int (y : Int)))] = .ok (.d (.bl true)) [k0, k1, k2, k3, k4, k5, k6, k7, k8, some (.l true (fs.map nD)), some (.d (.int (y : Int)))] := by
        generalize fs.map nD = fd
        generalize f_l_is_whole = fw at *
        simp [sSeq, sIf, sNx, sSet, sRet, sSub, subA, sDrop, sAug, sPat, xtB, xtT, xtNot, xtAnd, xtOr, x2, xVar, xD, xAnd, xOr, xNot, xNeg, xIf, xCh, xSl, xPart, slA, idxA, bind_ok, bind_ex, bind_no, Rv.at, cmpA, eqA, inA, bl?, truA, A.dc?, A.sq?, A.ls?, D.key, atI, ixN, binA, binI, asgV, toD, putD, putN, ownB, xFz, xAr, xaCons, xaNil, xTup, xLst, xDic0, allD, xCB, BI.f, atAll, lenA, maxA, minA, intA, strA, isiA, tyN, A.ty, Ty.isa, xCF, callX, spill, callT, slotsOf, argsOf, isV, backOf, finE, retOf, backE, isOb, A.own, gN, gT, gAll, ha, hw]
      refine ok_sat (a := true) rfl ?_
      rw [if_pos rfl]
      exact ok_sat hx ⟨_, rfl, by rw [List.map_append, List.map_append]; rfl, rfl⟩)
  exact e
theorem r17_all (x : X1) (bs : List Bool) (r r1 : Sn.Env) (h : x r = .ok (.n (.l true (bs.map .bl))) r1) : xCB (BI.f .all) (xaCons (xAr 1 x) xaNil) r = .ok (.d (.bl (bs.all id))) r1 := by
  have hb := bools_map bs
  generalize bs.map D.bl = bd at *
  simp [xCB, BI.f, xaCons, xaNil, xAr, h, bind_ok, atAll, Rv.at, allA, A.sq?, hb]
theorem r17_b1 (b : Bk) (mk md : Nat) (hb : BkOk b mk md) (hmd : md ≤ 1000) (d : Dl) (hd : d ∈ b.ds) (k3 k5 k6 k7 k8 k9 : Option A) :
    ∃ j9, l_right_b1 [some (.d b.D), some (.d b.D), some (.d d.D), k3, some (.l true ((besL b d b.ds.zipIdx).map nD)), k5, k6, k7, k8, k9, none] = .ok .nx [some (.d b.D), some (.d b.D), some (.d d.D), k3, some (.l true ((besL b d b.ds.zipIdx).map nD)), k5, k6, k7, k8, j9, none] := by
  have h1 := beside_ex b mk md hb hmd d hd
  have a1 : f_beside.ar = 2 := rfl
  have hlen : (besL b d b.ds.zipIdx).length ≤ 1000 := by
    have h1 : (besL b d b.ds.zipIdx).length ≤ b.ds.zipIdx.length := by
      unfold besL
      rw [List.length_map]
      exact List.length_filter_le _ _
    have h2 := hb.d8
    simp at h1
    omega
  have hq := eq_l2 (w := true) (w' := true) (fitL_map (f := nD) (n := 63) (xs := besL b d b.ds.zipIdx) fun i _ => fit_int _)
  have hnm : ∀ (k0 k1 k3 k4 k5 k6 k7 k8 k9 k10 : Option A), x2 idxA (xVar 2) (xD (.int 0)) [k0, k1, some (.d d.D), k3, k4, k5, k6, k7, k8, k9, k10] = .ok (.d (.str d.nm)) [k0, k1, some (.d d.D), k3, k4, k5, k6, k7, k8, k9, k10] := fun k0 k1 k3 k4 k5 k6 k7 k8 k9 k10 => by
    unfold Dl.D
    generalize d.ls.map ppD = ld
    generalize d.st.map ppD = sd
    simp [sSeq, sIf, sNx, sSet, sRet, sSub, subA, sDrop, sAug, sPat, xtB, xtT, xtNot, xtAnd, xtOr, x2, xVar, xD, xAnd, xOr, xNot, xNeg, xIf, xCh, xSl, xPart, slA, idxA, bind_ok, bind_ex, bind_no, Rv.at, cmpA, eqA, inA, bl?, truA, A.dc?, A.sq?, A.ls?, D.key, atI, ixN, binA, binI, asgV, toD, putD, putN, ownB, xFz, xAr, xaCons, xaNil, xTup, xLst, xDic0, allD, xCB, BI.f, atAll, lenA, maxA, minA, intA, strA, isiA, tyN, A.ty, Ty.isa, xCF, callX, spill, callT, slotsOf, argsOf, isV, backOf, finE, retOf, backE, isOb, A.own, gN, gT, gAll]
  have hc := r17_all _ _ _ _ (r17_c1 (besL b d b.ds.zipIdx) hlen (some (.d b.D)) (some (.d b.D)) (some (.d d.D)) k3 (some (.l true ((besL b d b.ds.zipIdx).map nD))) k5 k6 k7 k8)
  have ht : ((besL b d b.ds.zipIdx).map fun _ => true).all id = true := by simp
  rw [ht] at hc
  have hz : ((besL b d b.ds.zipIdx).map nD).length < 100000 := by rw [List.length_map]; omega
  unfold l_right_b1
  generalize xCB (BI.f .all) (xaCons (xAr 1 l_right_c1) xaNil) = ca at *
  generalize (besL b d b.ds.zipIdx).map nD = fd at *
  generalize x2 idxA (xVar 2) (xD (.int 0)) = xn at *
  generalize f_beside = fb at *
  generalize b.D = bd at *
  generalize d.D = dd at *
  generalize d.nm = nm at *
  refine ⟨some (.l true (fd ++ [.int 0])), ?_⟩
  have e1 : sSet 1 9 (xCF fb (xaCons (xFz 1 (xVar 1)) (xaCons (xFz 1 xn) xaNil))) [some (.d bd), some (.d bd), some (.d dd), k3, some (.l true fd), k5, k6, k7, k8, k9, none] = .ok .nx [some (.d bd), some (.d bd), some (.d dd), k3, some (.l true fd), k5, k6, k7, k8, some (.l true fd), none] := by
    simp [sSeq, sIf, sNx, sSet, sRet, sSub, subA, sDrop, sAug, sPat, xtB, xtT, xtNot, xtAnd, xtOr, x2, xVar, xD, xAnd, xOr, xNot, xNeg, xIf, xCh, xSl, xPart, slA, idxA, bind_ok, bind_ex, bind_no, Rv.at, cmpA, eqA, inA, bl?, truA, A.dc?, A.sq?, A.ls?, D.key, atI, ixN, binA, binI, asgV, toD, putD, putN, ownB, xFz, xAr, xaCons, xaNil, xTup, xLst, xDic0, allD, xCB, BI.f, atAll, lenA, maxA, minA, intA, strA, isiA, tyN, A.ty, Ty.isa, xCF, callX, spill, callT, slotsOf, argsOf, isV, backOf, finE, retOf, backE, isOb, A.own, gN, gT, gAll, hnm, a1, h1]
  rw [seq_nx e1]
  have t1 : xtT (xCB (BI.f .isi) (xaCons (xAr 1 (xVar 9)) (xaCons (xAr 1 (xD (.val (.ty "list")))) xaNil))) [some (.d bd), some (.d bd), some (.d dd), k3, some (.l true fd), k5, k6, k7, k8, some (.l true fd), none] = .ok true [some (.d bd), some (.d bd), some (.d dd), k3, some (.l true fd), k5, k6, k7, k8, some (.l true fd), none] := by
    simp [sSeq, sIf, sNx, sSet, sRet, sSub, subA, sDrop, sAug, sPat, xtB, xtT, xtNot, xtAnd, xtOr, x2, xVar, xD, xAnd, xOr, xNot, xNeg, xIf, xCh, xSl, xPart, slA, idxA, bind_ok, bind_ex, bind_no, Rv.at, cmpA, eqA, inA, bl?, truA, A.dc?, A.sq?, A.ls?, D.key, atI, ixN, binA, binI, asgV, toD, putD, putN, ownB, xFz, xAr, xaCons, xaNil, xTup, xLst, xDic0, allD, xCB, BI.f, atAll, lenA, maxA, minA, intA, strA, isiA, tyN, A.ty, Ty.isa, xCF, callX, spill, callT, slotsOf, argsOf, isV, backOf, finE, retOf, backE, isOb, A.own, gN, gT, gAll]
  have t2 : xtB (x2 (fun p q => bl? (cmpA .NotEq p q)) (xVar 9) (xVar 4)) [some (.d bd), some (.d bd), some (.d dd), k3, some (.l true fd), k5, k6, k7, k8, some (.l true fd), none] = .ok false [some (.d bd), some (.d bd), some (.d dd), k3, some (.l true fd), k5, k6, k7, k8, some (.l true fd), none] := by
    simp [sSeq, sIf, sNx, sSet, sRet, sSub, subA, sDrop, sAug, sPat, xtB, xtT, xtNot, xtAnd, xtOr, x2, xVar, xD, xAnd, xOr, xNot, xNeg, xIf, xCh, xSl, xPart, slA, idxA, bind_ok, bind_ex, bind_no, Rv.at, cmpA, inA, bl?, truA, A.dc?, A.sq?, A.ls?, D.key, atI, ixN, binA, binI, asgV, toD, putD, putN, ownB, xFz, xAr, xaCons, xaNil, xTup, xLst, xDic0, allD, xCB, BI.f, atAll, lenA, maxA, minA, intA, strA, isiA, tyN, A.ty, Ty.isa, xCF, callX, spill, callT, slotsOf, argsOf, isV, backOf, finE, retOf, backE, isOb, A.own, gN, gT, gAll, hq]
  have t3 : xtT ca [some (.d bd), some (.d bd), some (.d dd), k3, some (.l true fd), k5, k6, k7, k8, some (.l true fd), none] = .ok true [some (.d bd), some (.d bd), some (.d dd), k3, some (.l true fd), k5, k6, k7, k8, some (.l true fd), none] := by
    simp [xtT, hc, bind_ok, Rv.at, truA]
  generalize xtT (xCB (BI.f .isi) (xaCons (xAr 1 (xVar 9)) (xaCons (xAr 1 (xD (.val (.ty "list")))) xaNil))) = y1 at *
  generalize xtB (x2 (fun p q => bl? (cmpA .NotEq p q)) (xVar 9) (xVar 4)) = y2 at *
  generalize xtT ca = y3 at *
  simp [sSeq, sIf, xtOr, xtNot, t1, t2, t3, bind_ok, sNx, sDrop, xMe, MI.T, MI.f, MT.of, appA, putV, xVar, xD, xFz, toD, xaCons, xaNil, Rv.at, atAll, hz]
theorem r17_b3 (b : Bk) (mk md : Nat) (hb : BkOk b mk md) (hmd : md ≤ 1000) (d : Dl) (hd : d ∈ b.ds) (k3 k4 k5 k6 k8 k9 : Option A) :
    ∃ j3 j4 j5 j6 j8 j9, l_right_b3 [some (.d b.D), some (.d b.D), some (.d d.D), k3, k4, k5, k6, none, k8, k9, none] = .ok .nx [some (.d b.D), some (.d b.D), some (.d d.D), j3, j4, j5, j6, none, j8, j9, none] := by
  have h0 := alone_ex b mk md hb d hd
  have h1 := beside_ex b mk md hb hmd d hd
  have a0 : f_l_alone_written.ar = 2 := rfl
  have a1 : f_beside.ar = 2 := rfl
  have hdl := hb.d8
  have hq := eq_l2 (w := true) (w' := true) (fitL_map (f := nD) (n := 63) (xs := besL b d b.ds.zipIdx) fun i _ => fit_int _)
  have e1 : sSet 1 3 (xCF f_l_alone_written (xaCons (xFz 1 (xVar 0)) (xaCons (xFz 1 (xVar 2)) xaNil))) [some (.d b.D), some (.d b.D), some (.d d.D), k3, k4, k5, k6, none, k8, k9, none] = .ok .nx [some (.d b.D), some (.d b.D), some (.d d.D), some (.l true ((aloneL b.ks d.ls d.st).map .str)), k4, k5, k6, none, k8, k9, none] := by
    generalize (aloneL b.ks d.ls d.st).map D.str = pd at *
    generalize b.D = bd at *
    generalize d.D = dd at *
    generalize f_l_alone_written = fp at *
    simp [sSeq, sIf, sNx, sSet, sRet, sSub, subA, sDrop, sAug, sPat, xtB, xtT, xtNot, xtAnd, xtOr, x2, xVar, xD, xAnd, xOr, xNot, xNeg, xIf, xCh, xSl, xPart, slA, idxA, bind_ok, bind_ex, bind_no, Rv.at, cmpA, eqA, inA, bl?, truA, A.dc?, A.sq?, A.ls?, D.key, atI, ixN, binA, binI, asgV, toD, putD, putN, ownB, xFz, xAr, xaCons, xaNil, xTup, xLst, xDic0, allD, xCB, BI.f, atAll, lenA, maxA, minA, intA, strA, isiA, tyN, A.ty, Ty.isa, xCF, callX, spill, callT, slotsOf, argsOf, isV, backOf, finE, retOf, backE, isOb, A.own, gN, gT, gAll, a0, h0]
  have e2 : sSet 1 4 (xLst xaNil) [some (.d b.D), some (.d b.D), some (.d d.D), some (.l true ((aloneL b.ks d.ls d.st).map .str)), k4, k5, k6, none, k8, k9, none] = .ok .nx [some (.d b.D), some (.d b.D), some (.d d.D), some (.l true ((aloneL b.ks d.ls d.st).map .str)), some (.l true []), k5, k6, none, k8, k9, none] := by
    generalize (aloneL b.ks d.ls d.st).map D.str = pd at *
    generalize b.D = bd at *
    generalize d.D = dd at *
    simp [sSeq, sIf, sNx, sSet, sRet, sSub, subA, sDrop, sAug, sPat, xtB, xtT, xtNot, xtAnd, xtOr, x2, xVar, xD, xAnd, xOr, xNot, xNeg, xIf, xCh, xSl, xPart, slA, idxA, bind_ok, bind_ex, bind_no, Rv.at, cmpA, eqA, inA, bl?, truA, A.dc?, A.sq?, A.ls?, D.key, atI, ixN, binA, binI, asgV, toD, putD, putN, ownB, xFz, xAr, xaCons, xaNil, xTup, xLst, xDic0, allD, xCB, BI.f, atAll, lenA, maxA, minA, intA, strA, isiA, tyN, A.ty, Ty.isa, xCF, callX, spill, callT, slotsOf, argsOf, isV, backOf, finE, retOf, backE, isOb, A.own, gN, gT, gAll]
  have hi : xEn (xaCons (xFz 1 (x2 idxA (xVar 0) (xD (.int 1)))) xaNil) [some (.d b.D), some (.d b.D), some (.d d.D), some (.l true ((aloneL b.ks d.ls d.st).map .str)), some (.l true []), k5, k6, none, k8, k9, none] = .ok (b.ds.zipIdx.map fun p => .tup [.int p.2, p.1.D]) [some (.d b.D), some (.d b.D), some (.d d.D), some (.l true ((aloneL b.ks d.ls d.st).map .str)), some (.l true []), k5, k6, none, k8, k9, none] := by
    rw [← enum_map Dl.D b.ds 0]
    unfold Bk.D
    rfl
  obtain ⟨r2, hf, j5, j6, rfl⟩ := for_inv (el := fun p : Dl × Nat => D.tup [.int p.2, p.1.D]) (g := gT [(gN 1 5), (gN 1 6)]) (b := l_right_b2) hi
    (fun done r => ∃ j5 j6 : Option A, r = [some (.d b.D), some (.d b.D), some (.d d.D), some (.l true ((aloneL b.ks d.ls d.st).map .str)), some (.l true ((besL b d done).map nD)), j5, j6, none, k8, k9, none]) ⟨_, _, rfl⟩
    (fun done x rest r e hI => by
      obtain ⟨j5, j6, rfl⟩ := hI
      obtain ⟨ex, i⟩ := x
      have hx : ex ∈ b.ds := by
        have : (ex, i) ∈ b.ds.zipIdx := by rw [e]; simp
        exact (List.mem_zipIdx this).2.2 ▸ List.getElem_mem _
      have hl : (besL b d done).length ≤ 1000 := by
        have h1 : (besL b d done).length ≤ done.length := by
          unfold besL
          rw [List.length_map]
          exact List.length_filter_le _ _
        have h2 := congrArg List.length e
        simp at h2
        omega
      have hs : besL b d (done ++ [(ex, i)]) = besL b d done ++ (if (!((loneL b.ks (ex.places b.ks)).any fun k => decide (k ∈ loneL b.ks (d.places b.ks)))) = true then [i] else []) := by
        unfold besL
        rw [List.filter_append, List.map_append]
        congr 1
        exact filt1 _ _ _
      have eb := r17_b2 b mk md hb d ex hd hx i (besL b d done) hl (some (.d b.D)) (some (.d d.D)) k8 k9 none
      rw [← hs] at eb
      exact ⟨_, rfl, ok_sat eb ⟨rfl, _, _, rfl⟩⟩)
  have hr := rg1_nat (ar := 1) (e := xD (.int 2)) (n := 2) (r := [some (.d b.D), some (.d b.D), some (.d d.D), some (.l true ((aloneL b.ks d.ls d.st).map .str)), some (.l true ((besL b d b.ds.zipIdx).map nD)), j5, j6, none, k8, k9, none]) (r1 := [some (.d b.D), some (.d b.D), some (.d d.D), some (.l true ((aloneL b.ks d.ls d.st).map .str)), some (.l true ((besL b d b.ds.zipIdx).map nD)), j5, j6, none, k8, k9, none]) rfl (by omega)
  obtain ⟨r3, hf2, j8, j9, rfl⟩ := for_inv (g := gN 1 8) (b := l_right_b1) hr
    (fun done r => ∃ (j8 j9 : Option A), r = [some (.d b.D), some (.d b.D), some (.d d.D), some (.l true ((aloneL b.ks d.ls d.st).map .str)), some (.l true ((besL b d b.ds.zipIdx).map nD)), j5, j6, none, j8, j9, none]) ⟨_, _, rfl⟩
    (fun done x rest r e hI => by
      obtain ⟨j8, j9, rfl⟩ := hI
      obtain ⟨i9, eb⟩ := r17_b1 b mk md hb hmd d hd (some (.l true ((aloneL b.ks d.ls d.st).map .str))) j5 j6 none (some (.d (.int x))) j9
      exact ⟨_, rfl, ok_sat eb ⟨rfl, _, _, rfl⟩⟩)
  refine ⟨some (.l true ((aloneL b.ks d.ls d.st).map .str)), some (.l true ((besL b d b.ds.zipIdx).map nD)), j5, j6, j8, j9, ?_⟩
  unfold l_right_b3
  rw [seq_nx e1, seq_nx e2, seq_nx (show l_right_f2 _ = _ from hf), seq_nx (show l_right_f1 _ = _ from hf2)]
  have hnm : ∀ (k0 k1 k3 k4 k5 k6 k7 k8 k9 k10 : Option A), x2 idxA (xVar 2) (xD (.int 0)) [k0, k1, some (.d d.D), k3, k4, k5, k6, k7, k8, k9, k10] = .ok (.d (.str d.nm)) [k0, k1, some (.d d.D), k3, k4, k5, k6, k7, k8, k9, k10] := fun k0 k1 k3 k4 k5 k6 k7 k8 k9 k10 => by
    unfold Dl.D
    generalize d.ls.map ppD = ld
    generalize d.st.map ppD = sd
    simp [sSeq, sIf, sNx, sSet, sRet, sSub, subA, sDrop, sAug, sPat, xtB, xtT, xtNot, xtAnd, xtOr, x2, xVar, xD, xAnd, xOr, xNot, xNeg, xIf, xCh, xSl, xPart, slA, idxA, bind_ok, bind_ex, bind_no, Rv.at, cmpA, eqA, inA, bl?, truA, A.dc?, A.sq?, A.ls?, D.key, atI, ixN, binA, binI, asgV, toD, putD, putN, ownB, xFz, xAr, xaCons, xaNil, xTup, xLst, xDic0, allD, xCB, BI.f, atAll, lenA, maxA, minA, intA, strA, isiA, tyN, A.ty, Ty.isa, xCF, callX, spill, callT, slotsOf, argsOf, isV, backOf, finE, retOf, backE, isOb, A.own, gN, gT, gAll]
  clear hr hf hf2 e1 e2 hi h0
  generalize (aloneL b.ks d.ls d.st).map D.str = od at *
  generalize (besL b d b.ds.zipIdx).map nD = fd at *
  generalize x2 idxA (xVar 2) (xD (.int 0)) = xn at *
  generalize f_beside = fb at *
  generalize b.D = bd at *
  generalize d.D = dd at *
  generalize d.nm = nm at *
  have t1 : xtB (x2 (fun p q => bl? (cmpA .NotEq p q)) (xCFK fb (List.map Sum.inl [1, 0]) xaNil (xaCons (xFz 1 xn) (xaCons (xFz 1 (xVar 1)) xaNil))) (xVar 4)) [some (.d bd), some (.d bd), some (.d dd), some (.l true od), some (.l true fd), j5, j6, none, j8, j9, none] = .ok false [some (.d bd), some (.d bd), some (.d dd), some (.l true od), some (.l true fd), j5, j6, none, j8, j9, none] := by
    simp [sSeq, sIf, sNx, sSet, sRet, sSub, subA, sDrop, sAug, sPat, xtB, xtT, xtNot, xtAnd, xtOr, x2, xVar, xD, xAnd, xOr, xNot, xNeg, xIf, xCh, xSl, xPart, slA, idxA, bind_ok, bind_ex, bind_no, Rv.at, cmpA, inA, bl?, truA, A.dc?, A.sq?, A.ls?, D.key, atI, ixN, binA, binI, asgV, toD, putD, putN, ownB, xFz, xAr, xaCons, xaNil, xTup, xLst, xDic0, allD, xCB, BI.f, atAll, lenA, maxA, minA, intA, strA, isiA, tyN, A.ty, Ty.isa, xCF, callX, spill, callT, slotsOf, argsOf, isV, backOf, finE, retOf, backE, isOb, A.own, gN, gT, gAll, xCFK, arrR, hnm, a1, h1, hq]
  generalize xtB (x2 (fun p q => bl? (cmpA .NotEq p q)) (xCFK fb (List.map Sum.inl [1, 0]) xaNil (xaCons (xFz 1 xn) (xaCons (xFz 1 (xVar 1)) xaNil))) (xVar 4)) = y1 at *
  simp [sSeq, sIf, t1, bind_ok, sNx]
theorem l_right_ex (b : Bk) (mk md : Nat) (hb : BkOk b mk md) (hmk : mk ≤ 1000) (hmd : md ≤ 1000) : f_l_right.sem [some (.d b.D)] = .ok (.d (.bl true)) [some (.d b.D)] := by
  have hc := l_copied_ex b mk md hb hmk hmd
  have a0 : f_l_copied.ar = 1 := rfl
  have hi : xIt (xFz 1 (x2 idxA (xVar 0) (xD (.int 1)))) [some (.d b.D), some (.d b.D), none, none, none, none, none, none, none, none, none] = .ok (b.ds.map Dl.D) [some (.d b.D), some (.d b.D), none, none, none, none, none, none, none, none, none] := rfl
  obtain ⟨r2, hf, j2, j3, j4, j5, j6, j8, j9, rfl⟩ := for_inv (el := Dl.D) (g := gN 1 2) (b := l_right_b3) hi
    (fun done r => ∃ (j2 j3 j4 j5 j6 j8 j9 : Option A), r = [some (.d b.D), some (.d b.D), j2, j3, j4, j5, j6, none, j8, j9, none]) ⟨_, _, _, _, _, _, _, rfl⟩
    (fun done x rest r e hI => by
      obtain ⟨j2, j3, j4, j5, j6, j8, j9, rfl⟩ := hI
      have hx : x ∈ b.ds := by rw [e]; simp
      obtain ⟨i3, i4, i5, i6, i8, i9, eb⟩ := r17_b3 b mk md hb hmd x hx j3 j4 j5 j6 j8 j9
      exact ⟨_, rfl, ok_sat eb ⟨rfl, _, _, _, _, _, _, _, rfl⟩⟩)
  rw [sem_l_right _ rfl]
  show finE _ (b_l_right [some (.d b.D), none, none, none, none, none, none, none, none, none, none]) = _
  unfold b_l_right
  have e1 : sSet 1 1 (xCF f_l_copied (xaCons (xFz 1 (xVar 0)) xaNil)) [some (.d b.D), none, none, none, none, none, none, none, none, none, none] = .ok .nx [some (.d b.D), some (.d b.D), none, none, none, none, none, none, none, none, none] := by
    generalize b.D = bd at *
    generalize f_l_copied = fc at *
    simp [sSeq, sIf, sNx, sSet, sRet, sSub, subA, sDrop, sAug, sPat, xtB, xtT, xtNot, xtAnd, xtOr, x2, xVar, xD, xAnd, xOr, xNot, xNeg, xIf, xCh, xSl, xPart, slA, idxA, bind_ok, bind_ex, bind_no, Rv.at, cmpA, eqA, inA, bl?, truA, A.dc?, A.sq?, A.ls?, D.key, atI, ixN, binA, binI, asgV, toD, putD, putN, ownB, xFz, xAr, xaCons, xaNil, xTup, xLst, xDic0, allD, xCB, BI.f, atAll, lenA, maxA, minA, intA, strA, isiA, tyN, A.ty, Ty.isa, xCF, callX, spill, callT, slotsOf, argsOf, isV, backOf, finE, retOf, backE, isOb, A.own, gN, gT, gAll, a0, hc]
  rw [seq_nx e1, seq_nx (show l_right_f3 _ = _ from hf)]
  have q := hb.eq
  generalize b.D = bd at *
  simp [sSeq, sIf, sNx, sSet, sRet, sSub, subA, sDrop, sAug, sPat, xtB, xtT, xtNot, xtAnd, xtOr, x2, xVar, xD, xAnd, xOr, xNot, xNeg, xIf, xCh, xSl, xPart, slA, idxA, bind_ok, bind_ex, bind_no, Rv.at, cmpA, inA, bl?, truA, A.dc?, A.sq?, A.ls?, D.key, atI, ixN, binA, binI, asgV, toD, putD, putN, ownB, xFz, xAr, xaCons, xaNil, xTup, xLst, xDic0, allD, xCB, BI.f, atAll, lenA, maxA, minA, intA, strA, isiA, tyN, A.ty, Ty.isa, xCF, callX, spill, callT, slotsOf, argsOf, isV, backOf, finE, retOf, backE, isOb, A.own, gN, gT, gAll, q]
theorem k17_b1 (ns : List Int) (i : Nat) (hi : i ≤ 63) : law_b1 [some (.d (.rl (ns.map D.int))), some (.d (.int i))] = .ok .nx [some (.d (.rl (ns.map D.int))), some (.d (.int i))] := by
  obtain ⟨p, hp⟩ := pool_ex ns i (by omega)
  obtain ⟨b, p2, hb, hbk⟩ := book_ex p 6 8 (by omega) (by omega) (by omega) (by omega)
  have hr := l_right_ex b 6 8 hb (by omega) (by omega)
  have h1 : f_l_pool.ar = 2 := rfl
  have h2 : f_l_book.ar = 3 := rfl
  have h3 : f_l_right.ar = 1 := rfl
  unfold law_b1
  generalize f_l_pool = fp at *
  generalize f_l_book = fb at *
  generalize f_l_right = fr at *
  generalize b.D = bd at *
  generalize D.rl (ns.map D.int) = sd at *
  have hbk2 : fb.sem [p.l, some (.d (.int 6)), some (.d (.int 8))] = .ok (.d bd) [p2.l, some (.d (.int 6)), some (.d (.int 8))] := hbk
  simp [sSeq, sIf, sNx, sSet, sRet, sSub, subA, sDrop, sAug, sPat, xtB, xtT, xtNot, xtAnd, xtOr, x2, xVar, xD, xAnd, xOr, xNot, xNeg, xIf, xCh, xSl, xPart, slA, idxA, bind_ok, bind_ex, bind_no, Rv.at, cmpA, eqA, inA, bl?, truA, A.dc?, A.sq?, A.ls?, D.key, atI, ixN, binA, binI, asgV, toD, putD, putN, ownB, xFz, xAr, xaCons, xaNil, xTup, xLst, xDic0, allD, xCB, BI.f, atAll, lenA, maxA, minA, intA, strA, isiA, tyN, A.ty, Ty.isa, xCF, callX, spill, callT, slotsOf, argsOf, isV, backOf, finE, retOf, backE, isOb, A.own, gN, gT, gAll, h1, h2, h3, hp, hbk2, hr]
theorem law_holds (ns : List Int) (h : ns.length ≤ 63) : ∃ r, f_law.sem [some (.d (.rl (ns.map D.int)))] = .ok (.d (.bl true)) r := by
  obtain ⟨n, hn, hr⟩ : ∃ n : Nat, n ≤ 63 ∧ xFz 1 (xCB (BI.f .max) (xaCons (xAr 1 (xD (.int 1))) (xaCons (xAr 1 (xCB (BI.f .min) (xaCons (xAr 1 (xCB (BI.f .len) (xaCons (xAr 1 (xVar 0)) xaNil))) (xaCons (xAr 1 (xD (.int 20))) xaNil)))) xaNil))) [some (.d (.rl (ns.map D.int))), none] = .ok (.d (.int n)) [some (.d (.rl (ns.map D.int))), none] := by
    have hl : (ns.map D.int).length = ns.length := List.length_map ..
    generalize ns.map D.int = sd at *
    by_cases h2 : 20 < ns.length
    · refine ⟨20, by omega, ?_⟩
      have a1 : (20 : Int) < sd.length := by omega
      simp [sSeq, sIf, sNx, sSet, sRet, sSub, subA, sDrop, sAug, sPat, xtB, xtT, xtNot, xtAnd, xtOr, x2, xVar, xD, xAnd, xOr, xNot, xNeg, xIf, xCh, xSl, xPart, slA, idxA, bind_ok, bind_ex, bind_no, Rv.at, cmpA, eqA, inA, bl?, truA, A.dc?, A.sq?, A.ls?, D.key, atI, ixN, binA, binI, asgV, toD, putD, putN, ownB, xFz, xAr, xaCons, xaNil, xTup, xLst, xDic0, allD, xCB, BI.f, atAll, lenA, maxA, minA, intA, strA, isiA, tyN, A.ty, Ty.isa, xCF, callX, spill, callT, slotsOf, argsOf, isV, backOf, finE, retOf, backE, isOb, A.own, gN, gT, gAll, a1, hl]
      omega
    · by_cases h0 : 1 < ns.length
      · refine ⟨ns.length, h, ?_⟩
        have a1 : ¬ (20 : Int) < sd.length := by omega
        have a2 : (1 : Int) < sd.length := by omega
        simp [sSeq, sIf, sNx, sSet, sRet, sSub, subA, sDrop, sAug, sPat, xtB, xtT, xtNot, xtAnd, xtOr, x2, xVar, xD, xAnd, xOr, xNot, xNeg, xIf, xCh, xSl, xPart, slA, idxA, bind_ok, bind_ex, bind_no, Rv.at, cmpA, eqA, inA, bl?, truA, A.dc?, A.sq?, A.ls?, D.key, atI, ixN, binA, binI, asgV, toD, putD, putN, ownB, xFz, xAr, xaCons, xaNil, xTup, xLst, xDic0, allD, xCB, BI.f, atAll, lenA, maxA, minA, intA, strA, isiA, tyN, A.ty, Ty.isa, xCF, callX, spill, callT, slotsOf, argsOf, isV, backOf, finE, retOf, backE, isOb, A.own, gN, gT, gAll, a1, a2, hl]
        omega
      · refine ⟨1, by omega, ?_⟩
        have a1 : ¬ (20 : Int) < sd.length := by omega
        have a2 : ¬ (1 : Int) < sd.length := by omega
        simp [sSeq, sIf, sNx, sSet, sRet, sSub, subA, sDrop, sAug, sPat, xtB, xtT, xtNot, xtAnd, xtOr, x2, xVar, xD, xAnd, xOr, xNot, xNeg, xIf, xCh, xSl, xPart, slA, idxA, bind_ok, bind_ex, bind_no, Rv.at, cmpA, eqA, inA, bl?, truA, A.dc?, A.sq?, A.ls?, D.key, atI, ixN, binA, binI, asgV, toD, putD, putN, ownB, xFz, xAr, xaCons, xaNil, xTup, xLst, xDic0, allD, xCB, BI.f, atAll, lenA, maxA, minA, intA, strA, isiA, tyN, A.ty, Ty.isa, xCF, callX, spill, callT, slotsOf, argsOf, isV, backOf, finE, retOf, backE, isOb, A.own, gN, gT, gAll, a1, a2, hl]
        omega
  obtain ⟨r2, hf, k1, rfl⟩ := for_inv (g := gN 1 1) (b := law_b1) (rg1_nat hr (by omega))
    (fun done r => ∃ k1 : Option A, r = [some (.d (.rl (ns.map D.int))), k1]) ⟨_, rfl⟩
    (fun done x rest r e hI => by
      obtain ⟨k1, rfl⟩ := hI
      have hx : x ≤ 63 := by
        have : x ∈ List.range n := by rw [e]; simp
        have := List.mem_range.mp this
        omega
      exact ⟨_, rfl, ok_sat (k17_b1 ns x hx) ⟨rfl, _, rfl⟩⟩)
  rw [sem_law _ rfl]
  show ∃ r, finE _ (b_law [some (.d (.rl (ns.map D.int))), none]) = _
  unfold b_law
  rw [seq_nx (show law_f1 _ = _ from hf)]
  exact ⟨_, rfl⟩
abbrev O0 : OR := OD
theorem o0 : ORok O0 := od_ok
theorem all_mk {l : PySem.W.OpenLaw} {w : World} {K : PySem.W.Frag} {h : Heap} {mg : Str → Option Value} {fa f0 f1 f2 f3 f4 f5 f6 f7 f8 f9 f10 f11 f12 f13 f14 f15 f16 f17 f18 : Addr} (X : K.In h) (G : h.Ns mainGlobals mg) (hfa : mg "law" = some (.ref fa))
    {od0 an0 od1 an1 od2 an2 od3 an3 od4 an4 od5 an5 od6 an6 od7 an7 od8 an8 od9 an9 od10 an10 od11 an11 od12 an12 od13 an13 od14 an14 od15 an15 od16 an16 od17 an17 od18 an18 : Option Addr} {sl0 sl1 sl2 sl3 sl4 sl5 sl6 sl7 sl8 sl9 sl10 sl11 sl12 sl13 sl14 sl15 sl16 sl17 sl18 : Array (Option Value)} {oc0 kV0 dc0 pm0 cd0 ct0 oc1 kV1 dc1 pm1 cd1 ct1 oc2 kV2 dc2 pm2 cd2 ct2 oc3 kV3 dc3 pm3 cd3 ct3 oc4 kV4 dc4 pm4 cd4 ct4 oc5 kV5 dc5 pm5 cd5 ct5 oc6 kV6 dc6 pm6 cd6 ct6 oc7 kV7 dc7 pm7 cd7 ct7 oc8 kV8 dc8 pm8 cd8 ct8 oc9 kV9 dc9 pm9 cd9 ct9 oc10 kV10 dc10 pm10 cd10 ct10 oc11 kV11 dc11 pm11 cd11 ct11 oc12 kV12 dc12 pm12 cd12 ct12 oc13 kV13 dc13 pm13 cd13 ct13 oc14 kV14 dc14 pm14 cd14 ct14 oc15 kV15 dc15 pm15 cd15 ct15 oc16 kV16 dc16 pm16 cd16 ct16 oc17 kV17 dc17 pm17 cd17 ct17 oc18 kV18 dc18 pm18 cd18 ct18 : Value} {t0 : Addr} {dt0 : Option Addr} {nt0 : Nat} {st0 : Array (Option Value)} {tk0_0 tk0_1 : Tok} {t1 : Addr} {dt1 : Option Addr} {nt1 : Nat} {st1 : Array (Option Value)} {tk1_0 tk1_1 : Tok}
    (a0 : PySem.W.nsIn K mainGlobals "_law_draw" = some (some (.ref f0))) (l0 : K.lookup f0 = some ⟨oc0, od0, .func (PySem.W.fnOf "_law_draw" "_law_draw" (defArgs s_l_draw) (defBody s_l_draw) (defScope s_l_draw) .none kV0 dc0 pm0 an0 cd0 ct0), sl0⟩) (c0 : PySem.W.codeIn K cd0 "_law_draw" = true) (k0 : PySem.W.keepIn K (.ref f0) = true)
    (a1 : PySem.W.nsIn K mainGlobals "_law_marks" = some (some (.ref f1))) (l1 : K.lookup f1 = some ⟨oc1, od1, .func (PySem.W.fnOf "_law_marks" "_law_marks" (defArgs s_l_marks) (defBody s_l_marks) (defScope s_l_marks) .none kV1 dc1 pm1 an1 cd1 ct1), sl1⟩) (c1 : PySem.W.codeIn K cd1 "_law_marks" = true) (k1 : PySem.W.keepIn K (.ref f1) = true)
    (a2 : PySem.W.nsIn K mainGlobals "_law_names" = some (some (.ref f2))) (l2 : K.lookup f2 = some ⟨oc2, od2, .func (PySem.W.fnOf "_law_names" "_law_names" (defArgs s_l_names) (defBody s_l_names) (defScope s_l_names) .none kV2 dc2 pm2 an2 cd2 ct2), sl2⟩) (c2 : PySem.W.codeIn K cd2 "_law_names" = true) (k2 : PySem.W.keepIn K (.ref f2) = true)
    (a3 : PySem.W.nsIn K mainGlobals "_law_steps" = some (some (.ref f3))) (l3 : K.lookup f3 = some ⟨oc3, od3, .func (PySem.W.fnOf "_law_steps" "_law_steps" (defArgs s_l_steps) (defBody s_l_steps) (defScope s_l_steps) .none kV3 dc3 pm3 an3 cd3 ct3), sl3⟩) (c3 : PySem.W.codeIn K cd3 "_law_steps" = true) (k3 : PySem.W.keepIn K (.ref f3) = true)
    (a4 : PySem.W.nsIn K mainGlobals "_law_book" = some (some (.ref f4))) (l4 : K.lookup f4 = some ⟨oc4, od4, .func (PySem.W.fnOf "_law_book" "_law_book" (defArgs s_l_book) (defBody s_l_book) (defScope s_l_book) .none kV4 dc4 pm4 an4 cd4 ct4), sl4⟩) (c4 : PySem.W.codeIn K cd4 "_law_book" = true) (k4 : PySem.W.keepIn K (.ref f4) = true)
    (a5 : PySem.W.nsIn K mainGlobals "_law_pool" = some (some (.ref f5))) (l5 : K.lookup f5 = some ⟨oc5, od5, .func (PySem.W.fnOf "_law_pool" "_law_pool" (defArgs s_l_pool) (defBody s_l_pool) (defScope s_l_pool) .none kV5 dc5 pm5 an5 cd5 ct5), sl5⟩) (c5 : PySem.W.codeIn K cd5 "_law_pool" = true) (k5 : PySem.W.keepIn K (.ref f5) = true)
    (a6 : PySem.W.nsIn K mainGlobals "_law_alone_written" = some (some (.ref f6))) (l6 : K.lookup f6 = some ⟨oc6, od6, .func (PySem.W.fnOf "_law_alone_written" "_law_alone_written" (defArgs s_l_alone_written) (defBody s_l_alone_written) (defScope s_l_alone_written) .none kV6 dc6 pm6 an6 cd6 ct6), sl6⟩) (c6 : PySem.W.codeIn K cd6 "_law_alone_written" = true) (k6 : PySem.W.keepIn K (.ref f6) = true)
    (a7 : PySem.W.nsIn K mainGlobals "_law_copied" = some (some (.ref f7))) (l7 : K.lookup f7 = some ⟨oc7, od7, .func (PySem.W.fnOf "_law_copied" "_law_copied" (defArgs s_l_copied) (defBody s_l_copied) (defScope s_l_copied) .none kV7 dc7 pm7 an7 cd7 ct7), sl7⟩) (c7 : PySem.W.codeIn K cd7 "_law_copied" = true) (k7 : PySem.W.keepIn K (.ref f7) = true)
    (a8 : PySem.W.nsIn K mainGlobals "_law_is_whole" = some (some (.ref f8))) (l8 : K.lookup f8 = some ⟨oc8, od8, .func (PySem.W.fnOf "_law_is_whole" "_law_is_whole" (defArgs s_l_is_whole) (defBody s_l_is_whole) (defScope s_l_is_whole) .none kV8 dc8 pm8 an8 cd8 ct8), sl8⟩) (c8 : PySem.W.codeIn K cd8 "_law_is_whole" = true) (k8 : PySem.W.keepIn K (.ref f8) = true)
    (a9 : PySem.W.nsIn K mainGlobals "has_many" = some (some (.ref f9))) (l9 : K.lookup f9 = some ⟨oc9, od9, .func (PySem.W.fnOf "has_many" "has_many" (defArgs s_has_many) (defBody s_has_many) (defScope s_has_many) .none kV9 dc9 pm9 an9 cd9 ct9), sl9⟩) (c9 : PySem.W.codeIn K cd9 "has_many" = true) (k9 : PySem.W.keepIn K (.ref f9) = true)
    (a10 : PySem.W.nsIn K mainGlobals "dealing_copied" = some (some (.ref f10))) (l10 : K.lookup f10 = some ⟨oc10, od10, .func (PySem.W.fnOf "dealing_copied" "dealing_copied" (defArgs s_dealing_copied) (defBody s_dealing_copied) (defScope s_dealing_copied) .none kV10 dc10 pm10 an10 cd10 ct10), sl10⟩) (c10 : PySem.W.codeIn K cd10 "dealing_copied" = true) (k10 : PySem.W.keepIn K (.ref f10) = true)
    (a11 : PySem.W.nsIn K mainGlobals "number_by" = some (some (.ref f11))) (l11 : K.lookup f11 = some ⟨oc11, od11, .func (PySem.W.fnOf "number_by" "number_by" (defArgs s_number_by) (defBody s_number_by) (defScope s_number_by) .none kV11 dc11 pm11 an11 cd11 ct11), sl11⟩) (c11 : PySem.W.codeIn K cd11 "number_by" = true) (k11 : PySem.W.keepIn K (.ref f11) = true)
    (a12 : PySem.W.nsIn K mainGlobals "dealing_by" = some (some (.ref f12))) (l12 : K.lookup f12 = some ⟨oc12, od12, .func (PySem.W.fnOf "dealing_by" "dealing_by" (defArgs s_dealing_by) (defBody s_dealing_by) (defScope s_dealing_by) .none kV12 dc12 pm12 an12 cd12 ct12), sl12⟩) (c12 : PySem.W.codeIn K cd12 "dealing_by" = true) (k12 : PySem.W.keepIn K (.ref f12) = true)
    (a13 : PySem.W.nsIn K mainGlobals "letters_together" = some (some (.ref f13))) (l13 : K.lookup f13 = some ⟨oc13, od13, .func (PySem.W.fnOf "letters_together" "letters_together" (defArgs s_letters_together) (defBody s_letters_together) (defScope s_letters_together) .none kV13 dc13 pm13 an13 cd13 ct13), sl13⟩) (c13 : PySem.W.codeIn K cd13 "letters_together" = true) (k13 : PySem.W.keepIn K (.ref f13) = true)
    (a14 : PySem.W.nsIn K mainGlobals "places_of" = some (some (.ref f14))) (l14 : K.lookup f14 = some ⟨oc14, od14, .func (PySem.W.fnOf "places_of" "places_of" (defArgs s_places_of) (defBody s_places_of) (defScope s_places_of) .none kV14 dc14 pm14 an14 cd14 ct14), sl14⟩) (c14 : PySem.W.codeIn K cd14 "places_of" = true) (k14 : PySem.W.keepIn K (.ref f14) = true)
    (a15 : PySem.W.nsIn K mainGlobals "lone_writes" = some (some (.ref f15))) (l15 : K.lookup f15 = some ⟨oc15, od15, .func (PySem.W.fnOf "lone_writes" "lone_writes" (defArgs s_lone_writes) (defBody s_lone_writes) (defScope s_lone_writes) .none kV15 dc15 pm15 an15 cd15 ct15), sl15⟩) (c15 : PySem.W.codeIn K cd15 "lone_writes" = true) (k15 : PySem.W.keepIn K (.ref f15) = true)
    (a16 : PySem.W.nsIn K mainGlobals "beside" = some (some (.ref f16))) (l16 : K.lookup f16 = some ⟨oc16, od16, .func (PySem.W.fnOf "beside" "beside" (defArgs s_beside) (defBody s_beside) (defScope s_beside) .none kV16 dc16 pm16 an16 cd16 ct16), sl16⟩) (c16 : PySem.W.codeIn K cd16 "beside" = true) (k16 : PySem.W.keepIn K (.ref f16) = true)
    (a17 : PySem.W.nsIn K mainGlobals "_law_right" = some (some (.ref f17))) (l17 : K.lookup f17 = some ⟨oc17, od17, .func (PySem.W.fnOf "_law_right" "_law_right" (defArgs s_l_right) (defBody s_l_right) (defScope s_l_right) .none kV17 dc17 pm17 an17 cd17 ct17), sl17⟩) (c17 : PySem.W.codeIn K cd17 "_law_right" = true) (k17 : PySem.W.keepIn K (.ref f17) = true)
    (a18 : PySem.W.nsIn K mainGlobals "law" = some (some (.ref f18))) (l18 : K.lookup f18 = some ⟨oc18, od18, .func (PySem.W.fnOf "law" "law" (defArgs s_law) (defBody s_law) (defScope s_law) .none kV18 dc18 pm18 an18 cd18 ct18), sl18⟩) (c18 : PySem.W.codeIn K cd18 "law" = true) (k18 : PySem.W.keepIn K (.ref f18) = true)
    (z0 : PySem.W.nsIn K mainGlobals "KeyError" = some none)
    (z1 : PySem.W.nsIn K mainGlobals "all" = some none)
    (z2 : PySem.W.nsIn K mainGlobals "any" = some none)
    (z3 : PySem.W.nsIn K mainGlobals "bool" = some none)
    (z4 : PySem.W.nsIn K mainGlobals "dict" = some none)
    (z5 : PySem.W.nsIn K mainGlobals "enumerate" = some none)
    (z6 : PySem.W.nsIn K mainGlobals "int" = some none)
    (z7 : PySem.W.nsIn K mainGlobals "isinstance" = some none)
    (z8 : PySem.W.nsIn K mainGlobals "len" = some none)
    (z9 : PySem.W.nsIn K mainGlobals "list" = some none)
    (z10 : PySem.W.nsIn K mainGlobals "max" = some none)
    (z11 : PySem.W.nsIn K mainGlobals "min" = some none)
    (z12 : PySem.W.nsIn K mainGlobals "range" = some none)
    (z13 : PySem.W.nsIn K mainGlobals "str" = some none)
    (y0 : PySem.W.nsIn K mainGlobals "READS" = some (some (.ref t0))) (yt0 : K.lookup t0 = some ⟨.type "tuple", dt0, .seq #[.str "read" tk0_0, .str "ask" tk0_1] nt0, st0⟩)
    (y1 : PySem.W.nsIn K mainGlobals "WRITES" = some (some (.ref t1))) (yt1 : K.lookup t1 = some ⟨.type "tuple", dt1, .seq #[.str "write" tk1_0, .str "ask" tk1_1] nt1, st1⟩) :
    ∃ fd : FuncData, (∀ (s : Shared) (v : Value), BindsTo s fd ⟨[v], []⟩ [("_law_script", v)]) ∧ ∀ base : Heap, K.In base → base.Ns mainGlobals mg → FnOk l.prog w K mg base (L2.CX l.prog w) 8 fa fd ["_law_script"] (spF K O0 f_law) := by
  have e := hfa.symm.trans (PySem.W.mg_of X G a18)
  cases e
  have F0 := fun_mk (st := s_l_draw) l0 c0 k0
  have B0 := F0.binds (ps := ["_law_pool_here", "_law_many"]) fun _ _ _ _ _ _ us hl => match us, hl with | [_, _], _ => rfl
  have F1 := fun_mk (st := s_l_marks) l1 c1 k1
  have B1 := F1.binds (ps := ["_law_pool_here", "_law_many"]) fun _ _ _ _ _ _ us hl => match us, hl with | [_, _], _ => rfl
  have F2 := fun_mk (st := s_l_names) l2 c2 k2
  have B2 := F2.binds (ps := ["_law_pool_here", "_law_many"]) fun _ _ _ _ _ _ us hl => match us, hl with | [_, _], _ => rfl
  have F3 := fun_mk (st := s_l_steps) l3 c3 k3
  have B3 := F3.binds (ps := ["_law_pool_here", "_law_marks_here"]) fun _ _ _ _ _ _ us hl => match us, hl with | [_, _], _ => rfl
  have F4 := fun_mk (st := s_l_book) l4 c4 k4
  have B4 := F4.binds (ps := ["_law_pool_here", "_law_most_kinds", "_law_most_dealings"]) fun _ _ _ _ _ _ us hl => match us, hl with | [_, _, _], _ => rfl
  have F5 := fun_mk (st := s_l_pool) l5 c5 k5
  have B5 := F5.binds (ps := ["_law_script", "_law_k"]) fun _ _ _ _ _ _ us hl => match us, hl with | [_, _], _ => rfl
  have F6 := fun_mk (st := s_l_alone_written) l6 c6 k6
  have B6 := F6.binds (ps := ["_law_tome", "_law_dealing"]) fun _ _ _ _ _ _ us hl => match us, hl with | [_, _], _ => rfl
  have F7 := fun_mk (st := s_l_copied) l7 c7 k7
  have B7 := F7.binds (ps := ["_law_tome"]) fun _ _ _ _ _ _ us hl => match us, hl with | [_], _ => rfl
  have F8 := fun_mk (st := s_l_is_whole) l8 c8 k8
  have B8 := F8.binds (ps := ["_law_thing"]) fun _ _ _ _ _ _ us hl => match us, hl with | [_], _ => rfl
  have F9 := fun_mk (st := s_has_many) l9 c9 k9
  have B9 := F9.binds (ps := ["book", "kind"]) fun _ _ _ _ _ _ us hl => match us, hl with | [_, _], _ => rfl
  have F10 := fun_mk (st := s_dealing_copied) l10 c10 k10
  have B10 := F10.binds (ps := ["dealing"]) fun _ _ _ _ _ _ us hl => match us, hl with | [_], _ => rfl
  have F11 := fun_mk (st := s_number_by) l11 c11 k11
  have B11 := F11.binds (ps := ["book", "name"]) fun _ _ _ _ _ _ us hl => match us, hl with | [_, _], _ => rfl
  have F12 := fun_mk (st := s_dealing_by) l12 c12 k12
  have B12 := F12.binds (ps := ["book", "name"]) fun _ _ _ _ _ _ us hl => match us, hl with | [_, _], _ => rfl
  have F13 := fun_mk (st := s_letters_together) l13 c13 k13
  have B13 := F13.binds (ps := ["book", "name"]) fun _ _ _ _ _ _ us hl => match us, hl with | [_, _], _ => rfl
  have F14 := fun_mk (st := s_places_of) l14 c14 k14
  have B14 := F14.binds (ps := ["book", "name"]) fun _ _ _ _ _ _ us hl => match us, hl with | [_, _], _ => rfl
  have F15 := fun_mk (st := s_lone_writes) l15 c15 k15
  have B15 := F15.binds (ps := ["book", "name"]) fun _ _ _ _ _ _ us hl => match us, hl with | [_, _], _ => rfl
  have F16 := fun_mk (st := s_beside) l16 c16 k16
  have B16 := F16.binds (ps := ["book", "name"]) fun _ _ _ _ _ _ us hl => match us, hl with | [_, _], _ => rfl
  have F17 := fun_mk (st := s_l_right) l17 c17 k17
  have B17 := F17.binds (ps := ["_law_tome"]) fun _ _ _ _ _ _ us hl => match us, hl with | [_], _ => rfl
  have F18 := fun_mk (st := s_law) l18 c18 k18
  have Z0 := PySem.W.mg_none_of X G z0
  have Z1 := PySem.W.mg_none_of X G z1
  have Z2 := PySem.W.mg_none_of X G z2
  have Z3 := PySem.W.mg_none_of X G z3
  have Z4 := PySem.W.mg_none_of X G z4
  have Z5 := PySem.W.mg_none_of X G z5
  have Z6 := PySem.W.mg_none_of X G z6
  have Z7 := PySem.W.mg_none_of X G z7
  have Z8 := PySem.W.mg_none_of X G z8
  have Z9 := PySem.W.mg_none_of X G z9
  have Z10 := PySem.W.mg_none_of X G z10
  have Z11 := PySem.W.mg_none_of X G z11
  have Z12 := PySem.W.mg_none_of X G z12
  have Z13 := PySem.W.mg_none_of X G z13
  have C0 := PySem.W.mg_of X G y0
  have C1 := PySem.W.mg_of X G y1
  refine ⟨PySem.W.fnOf "law" "law" (defArgs s_law) (defBody s_law) (defScope s_law) .none kV18 dc18 pm18 an18 cd18 ct18, fun s v => .of_eq rfl, fun base _ _ => ?_⟩
  have K0 : Kn l.prog w K mg base O0 0 nm_l_draw := by
    refine kn_mk ?_ ?_ ?_ ?_
    · exact True.intro
    · exact True.intro
    · exact True.intro
    · exact True.intro
  have Q0 : FnOk l.prog w K mg base (L2.CX l.prog w) 1 _ _ _ (spF K O0 f_l_draw) := fn_sem o0 F0 sc_l_draw K0
  have K1 : Kn l.prog w K mg base O0 1 nm_l_marks := by
    refine kn_mk ?_ ?_ ?_ ?_
    · exact And.intro (fk Q0 (by decide) (PySem.W.mg_of X G a0) k0 B0 rfl) (True.intro)
    · exact And.intro Z8 (And.intro Z12 (True.intro))
    · exact True.intro
    · exact True.intro
  have Q1 : FnOk l.prog w K mg base (L2.CX l.prog w) 2 _ _ _ (spF K O0 f_l_marks) := fn_sem o0 F1 sc_l_marks K1
  have K2 : Kn l.prog w K mg base O0 1 nm_l_names := by
    refine kn_mk ?_ ?_ ?_ ?_
    · exact And.intro (fk Q0 (by decide) (PySem.W.mg_of X G a0) k0 B0 rfl) (True.intro)
    · exact And.intro Z12 (True.intro)
    · exact True.intro
    · exact True.intro
  have Q2 : FnOk l.prog w K mg base (L2.CX l.prog w) 2 _ _ _ (spF K O0 f_l_names) := fn_sem o0 F2 sc_l_names K2
  have K3 : Kn l.prog w K mg base O0 1 nm_l_steps := by
    refine kn_mk ?_ ?_ ?_ ?_
    · exact And.intro (fk Q0 (by decide) (PySem.W.mg_of X G a0) k0 B0 rfl) (True.intro)
    · exact And.intro Z8 (And.intro Z12 (True.intro))
    · exact True.intro
    · exact True.intro
  have Q3 : FnOk l.prog w K mg base (L2.CX l.prog w) 2 _ _ _ (spF K O0 f_l_steps) := fn_sem o0 F3 sc_l_steps K3
  have K4 : Kn l.prog w K mg base O0 2 nm_l_book := by
    refine kn_mk ?_ ?_ ?_ ?_
    · exact And.intro (fk Q0 (by decide) (PySem.W.mg_of X G a0) k0 B0 rfl) (And.intro (fk Q1 (by decide) (PySem.W.mg_of X G a1) k1 B1 rfl) (And.intro (fk Q2 (by decide) (PySem.W.mg_of X G a2) k2 B2 rfl) (And.intro (fk Q3 (by decide) (PySem.W.mg_of X G a3) k3 B3 rfl) (True.intro))))
    · exact And.intro Z8 (True.intro)
    · exact True.intro
    · exact True.intro
  have Q4 : FnOk l.prog w K mg base (L2.CX l.prog w) 3 _ _ _ (spF K O0 f_l_book) := fn_sem o0 F4 sc_l_book K4
  have K5 : Kn l.prog w K mg base O0 0 nm_l_pool := by
    refine kn_mk ?_ ?_ ?_ ?_
    · exact True.intro
    · exact And.intro Z6 (And.intro Z8 (And.intro Z10 (True.intro)))
    · exact True.intro
    · exact True.intro
  have Q5 : FnOk l.prog w K mg base (L2.CX l.prog w) 1 _ _ _ (spF K O0 f_l_pool) := fn_sem o0 F5 sc_l_pool K5
  have K6 : Kn l.prog w K mg base O0 0 nm_l_alone_written := by
    refine kn_mk ?_ ?_ ?_ ?_
    · exact True.intro
    · exact And.intro Z4 (True.intro)
    · exact True.intro
    · exact True.intro
  have Q6 : FnOk l.prog w K mg base (L2.CX l.prog w) 1 _ _ _ (spF K O0 f_l_alone_written) := fn_sem o0 F6 sc_l_alone_written K6
  have K7 : Kn l.prog w K mg base O0 0 nm_l_copied := by
    refine kn_mk ?_ ?_ ?_ ?_
    · exact True.intro
    · exact And.intro Z9 (True.intro)
    · exact True.intro
    · exact True.intro
  have Q7 : FnOk l.prog w K mg base (L2.CX l.prog w) 1 _ _ _ (spF K O0 f_l_copied) := fn_sem o0 F7 sc_l_copied K7
  have K8 : Kn l.prog w K mg base O0 0 nm_l_is_whole := by
    refine kn_mk ?_ ?_ ?_ ?_
    · exact True.intro
    · exact And.intro Z3 (And.intro Z6 (And.intro Z7 (True.intro)))
    · exact True.intro
    · exact True.intro
  have Q8 : FnOk l.prog w K mg base (L2.CX l.prog w) 1 _ _ _ (spF K O0 f_l_is_whole) := fn_sem o0 F8 sc_l_is_whole K8
  have K9 : Kn l.prog w K mg base O0 0 nm_has_many := by
    refine kn_mk ?_ ?_ ?_ ?_
    · exact True.intro
    · exact And.intro Z4 (True.intro)
    · exact True.intro
    · exact True.intro
  have Q9 : FnOk l.prog w K mg base (L2.CX l.prog w) 1 _ _ _ (spF K O0 f_has_many) := fn_sem o0 F9 sc_has_many K9
  have K10 : Kn l.prog w K mg base O0 0 nm_dealing_copied := by
    refine kn_mk ?_ ?_ ?_ ?_
    · exact True.intro
    · exact And.intro Z9 (True.intro)
    · exact True.intro
    · exact True.intro
  have Q10 : FnOk l.prog w K mg base (L2.CX l.prog w) 1 _ _ _ (spF K O0 f_dealing_copied) := fn_sem o0 F10 sc_dealing_copied K10
  have K11 : Kn l.prog w K mg base O0 0 nm_number_by := by
    refine kn_mk ?_ ?_ ?_ ?_
    · exact True.intro
    · exact And.intro Z0 (And.intro Z5 (And.intro Z7 (And.intro Z13 (True.intro))))
    · exact True.intro
    · exact True.intro
  have Q11 : FnOk l.prog w K mg base (L2.CX l.prog w) 1 _ _ _ (spF K O0 f_number_by) := fn_sem o0 F11 sc_number_by K11
  have K12 : Kn l.prog w K mg base O0 1 nm_dealing_by := by
    refine kn_mk ?_ ?_ ?_ ?_
    · exact And.intro (fk Q10 (by decide) (PySem.W.mg_of X G a10) k10 B10 rfl) (And.intro (fk Q11 (by decide) (PySem.W.mg_of X G a11) k11 B11 rfl) (True.intro))
    · exact True.intro
    · exact True.intro
    · exact True.intro
  have Q12 : FnOk l.prog w K mg base (L2.CX l.prog w) 2 _ _ _ (spF K O0 f_dealing_by) := fn_sem o0 F12 sc_dealing_by K12
  have K13 : Kn l.prog w K mg base O0 2 nm_letters_together := by
    refine kn_mk ?_ ?_ ?_ ?_
    · exact And.intro (fk Q12 (by decide) (PySem.W.mg_of X G a12) k12 B12 rfl) (And.intro (fk Q9 (by decide) (PySem.W.mg_of X G a9) k9 B9 rfl) (True.intro))
    · exact True.intro
    · exact True.intro
    · exact True.intro
  have Q13 : FnOk l.prog w K mg base (L2.CX l.prog w) 3 _ _ _ (spF K O0 f_letters_together) := fn_sem o0 F13 sc_letters_together K13
  have K14 : Kn l.prog w K mg base O0 3 nm_places_of := by
    refine kn_mk ?_ ?_ ?_ ?_
    · exact And.intro (fk Q12 (by decide) (PySem.W.mg_of X G a12) k12 B12 rfl) (And.intro (fk Q13 (by decide) (PySem.W.mg_of X G a13) k13 B13 rfl) (True.intro))
    · exact And.intro Z2 (And.intro Z4 (True.intro))
    · exact And.intro (gk (.ref t0) C0 rfl (rp_rt yt0 (show 2 ≤ sizeLine by decide) (xs := [.str "read", .str "ask"]) (.cons ⟨_, rfl⟩ (.cons ⟨_, rfl⟩ (.nil))) (fun _ => ⟨_, _, rfl, rfl, ⟨_, _, rfl, rfl, rfl⟩⟩))) (And.intro (gk (.ref t1) C1 rfl (rp_rt yt1 (show 2 ≤ sizeLine by decide) (xs := [.str "write", .str "ask"]) (.cons ⟨_, rfl⟩ (.cons ⟨_, rfl⟩ (.nil))) (fun _ => ⟨_, _, rfl, rfl, ⟨_, _, rfl, rfl, rfl⟩⟩))) (True.intro))
    · exact True.intro
  have Q14 : FnOk l.prog w K mg base (L2.CX l.prog w) 4 _ _ _ (spF K O0 f_places_of) := fn_sem o0 F14 sc_places_of K14
  have K15 : Kn l.prog w K mg base O0 4 nm_lone_writes := by
    refine kn_mk ?_ ?_ ?_ ?_
    · exact And.intro (fk Q9 (by decide) (PySem.W.mg_of X G a9) k9 B9 rfl) (And.intro (fk Q14 (by decide) (PySem.W.mg_of X G a14) k14 B14 rfl) (True.intro))
    · exact True.intro
    · exact True.intro
    · exact True.intro
  have Q15 : FnOk l.prog w K mg base (L2.CX l.prog w) 5 _ _ _ (spF K O0 f_lone_writes) := fn_sem o0 F15 sc_lone_writes K15
  have K16 : Kn l.prog w K mg base O0 5 nm_beside := by
    refine kn_mk ?_ ?_ ?_ ?_
    · exact And.intro (fk Q15 (by decide) (PySem.W.mg_of X G a15) k15 B15 rfl) (True.intro)
    · exact And.intro Z2 (And.intro Z5 (True.intro))
    · exact True.intro
    · exact True.intro
  have Q16 : FnOk l.prog w K mg base (L2.CX l.prog w) 6 _ _ _ (spF K O0 f_beside) := fn_sem o0 F16 sc_beside K16
  have K17 : Kn l.prog w K mg base O0 6 nm_l_right := by
    refine kn_mk ?_ ?_ ?_ ?_
    · exact And.intro (fk Q6 (by decide) (PySem.W.mg_of X G a6) k6 B6 rfl) (And.intro (fk Q7 (by decide) (PySem.W.mg_of X G a7) k7 B7 rfl) (And.intro (fk Q8 (by decide) (PySem.W.mg_of X G a8) k8 B8 rfl) (And.intro (fk Q16 (by decide) (PySem.W.mg_of X G a16) k16 B16 rfl) (True.intro))))
    · exact And.intro Z1 (And.intro Z5 (And.intro Z7 (And.intro Z9 (And.intro Z12 (True.intro)))))
    · exact True.intro
    · exact And.intro (kk Q16 (by decide) (PySem.W.mg_of X G a16) k16 (fun_kb (ps := ["book", "name"]) F16 0 ["name", "book"] [1, 0] fun _ _ _ _ _ _ us ws h1 h2 => match us, ws, h1, h2 with | [], [_, _], _, _ => rfl) (arr_pick2 (by decide))) (True.intro)
  have Q17 : FnOk l.prog w K mg base (L2.CX l.prog w) 7 _ _ _ (spF K O0 f_l_right) := fn_sem o0 F17 sc_l_right K17
  have K18 : Kn l.prog w K mg base O0 7 nm_law := by
    refine kn_mk ?_ ?_ ?_ ?_
    · exact And.intro (fk Q4 (by decide) (PySem.W.mg_of X G a4) k4 B4 rfl) (And.intro (fk Q5 (by decide) (PySem.W.mg_of X G a5) k5 B5 rfl) (And.intro (fk Q17 (by decide) (PySem.W.mg_of X G a17) k17 B17 rfl) (True.intro)))
    · exact And.intro Z8 (And.intro Z10 (And.intro Z11 (And.intro Z12 (True.intro))))
    · exact True.intro
    · exact True.intro
  have Q18 : FnOk l.prog w K mg base (L2.CX l.prog w) 8 _ _ _ (spF K O0 f_law) := fn_sem o0 F18 sc_law K18
  exact Q18
end Sg
open PySem PySem.W PyProof.Rows in
set_option maxRecDepth 100000 in
set_option maxHeartbeats 0 in
theorem PySem.Challenge.cw_snapsure_k17_beside_one_another_holds : PySem.Challenge.rw_snapsure_k17_beside_one_another.Holds := by
  w_on; o_law; k_head; (case hw => w_witness2)
  k_fill
  refine L2.walk_of (l := PySem.Challenge.rw_snapsure_k17_beside_one_another) (n := 63) (k := 8) (x := "_law_script") (CX := fun w => L2.CX (PySem.Challenge.rw_snapsure_k17_beside_one_another).prog w) (sp := fun w => Sn.spF _ Sg.O0 Sg.f_law) rfl (by decide) rfl ⟨rfl, by decide, by decide⟩ (fun w h Y => PySem.W.kIn_of Y) ?F (fun w H a ns hl _ hS => Sn.law_sp hS rfl (Sg.law_holds ns hl)) (fun w H s e s2 h => Sn.cx_none h)
  case F =>
    intro w mg fa h KX G hmg
    refine' Sg.all_mk KX G hmg ?a0 ?l0 ?c0 ?k0 ?a1 ?l1 ?c1 ?k1 ?a2 ?l2 ?c2 ?k2 ?a3 ?l3 ?c3 ?k3 ?a4 ?l4 ?c4 ?k4 ?a5 ?l5 ?c5 ?k5 ?a6 ?l6 ?c6 ?k6 ?a7 ?l7 ?c7 ?k7 ?a8 ?l8 ?c8 ?k8 ?a9 ?l9 ?c9 ?k9 ?a10 ?l10 ?c10 ?k10 ?a11 ?l11 ?c11 ?k11 ?a12 ?l12 ?c12 ?k12 ?a13 ?l13 ?c13 ?k13 ?a14 ?l14 ?c14 ?k14 ?a15 ?l15 ?c15 ?k15 ?a16 ?l16 ?c16 ?k16 ?a17 ?l17 ?c17 ?k17 ?a18 ?l18 ?c18 ?k18 ?z0 ?z1 ?z2 ?z3 ?z4 ?z5 ?z6 ?z7 ?z8 ?z9 ?z10 ?z11 ?z12 ?z13 ?yt0 ?y0 ?yt1 ?y1
    (case a0 => k_is)
    (case l0 => k_is)
    (case c0 => k_is)
    (case k0 => k_is)
    (case a1 => k_is)
    (case l1 => k_is)
    (case c1 => k_is)
    (case k1 => k_is)
    (case a2 => k_is)
    (case l2 => k_is)
    (case c2 => k_is)
    (case k2 => k_is)
    (case a3 => k_is)
    (case l3 => k_is)
    (case c3 => k_is)
    (case k3 => k_is)
    (case a4 => k_is)
    (case l4 => k_is)
    (case c4 => k_is)
    (case k4 => k_is)
    (case a5 => k_is)
    (case l5 => k_is)
    (case c5 => k_is)
    (case k5 => k_is)
    (case a6 => k_is)
    (case l6 => k_is)
    (case c6 => k_is)
    (case k6 => k_is)
    (case a7 => k_is)
    (case l7 => k_is)
    (case c7 => k_is)
    (case k7 => k_is)
    (case a8 => k_is)
    (case l8 => k_is)
    (case c8 => k_is)
    (case k8 => k_is)
    (case a9 => k_is)
    (case l9 => k_is)
    (case c9 => k_is)
    (case k9 => k_is)
    (case a10 => k_is)
    (case l10 => k_is)
    (case c10 => k_is)
    (case k10 => k_is)
    (case a11 => k_is)
    (case l11 => k_is)
    (case c11 => k_is)
    (case k11 => k_is)
    (case a12 => k_is)
    (case l12 => k_is)
    (case c12 => k_is)
    (case k12 => k_is)
    (case a13 => k_is)
    (case l13 => k_is)
    (case c13 => k_is)
    (case k13 => k_is)
    (case a14 => k_is)
    (case l14 => k_is)
    (case c14 => k_is)
    (case k14 => k_is)
    (case a15 => k_is)
    (case l15 => k_is)
    (case c15 => k_is)
    (case k15 => k_is)
    (case a16 => k_is)
    (case l16 => k_is)
    (case c16 => k_is)
    (case k16 => k_is)
    (case a17 => k_is)
    (case l17 => k_is)
    (case c17 => k_is)
    (case k17 => k_is)
    (case a18 => k_is)
    (case l18 => k_is)
    (case c18 => k_is)
    (case k18 => k_is)
    (case z0 => k_is)
    (case z1 => k_is)
    (case z2 => k_is)
    (case z3 => k_is)
    (case z4 => k_is)
    (case z5 => k_is)
    (case z6 => k_is)
    (case z7 => k_is)
    (case z8 => k_is)
    (case z9 => k_is)
    (case z10 => k_is)
    (case z11 => k_is)
    (case z12 => k_is)
    (case z13 => k_is)
    (case yt0 => k_is)
    (case y0 => k_is)
    (case yt1 => k_is)
    (case y1 => k_is)
