import PyProof.Rows.All
import Wide.All
import OpenK.AllK
import Wide.FinOn
import KE.KStateDown
import HandS.ForMost
import HandS.More
import HandS.Defaults
import HandS.DictComp
import HandS.Flow
import HandS.IsInst
import HandS.Conv
import HandS.Style
import HandS.Zip
import HandS.TupAny
import HandS.Wide
import KE.SortData
import PyProof.WalkInts
import PyProof.PureStr
import PyProof.FString5
import HandS.Words
import HandS.WordsExc
import HandS.Head0
import HandS.Head1
import HandS.Head2
import HandS.HeadEnd
import HandS.HeadHook1
import HandS.HeadHook2
import PySem.Challenge.RW_mirrorwood_k13_whole_cards_behind_rows
set_option Elab.async false
set_option linter.all false
set_option maxRecDepth 100000
set_option maxHeartbeats 1000000
/-! THE DATA LAYER, 1: data, what stands for them, the state of a running def. -/
namespace DL
open PySem PySem.Spec PyProof.Rows L2

/-! ### data -/
inductive D where
  | non | bl (b : Bool) | int (i : Int) | str (x : Str)
  | tup (xs : List D) | lst (xs : List D)
  | dk (kvs : List (Key × D)) | dt (kvs : List (List Key × D))
  | raw (o : HO)

mutual
inductive Rp (K : PySem.W.Frag) (F : Hp) : V → D → Prop
  | non : Rp K F .non .non
  | bl (b : Bool) : Rp K F (.bl b) (.bl b)
  | int (i : Int) : Rp K F (.int i) (.int i)
  | str (x : Str) : Rp K F (.str x) (.str x)
  | tup {a : Addr} {xs : List V} {ds : List D} : SqT K F a xs → RpL K F xs ds → Rp K F (.ref a) (.tup ds)
  | lst {a : Addr} {xs : List V} {ds : List D} : SqL K F a xs → RpL K F xs ds → Rp K F (.ref a) (.lst ds)
  | dk {a : Addr} {kvs : List (Key × V)} {ds : List (Key × D)} : Rd F a (.dK kvs) → RpK K F kvs ds → Rp K F (.ref a) (.dk ds)
  | dt {a : Addr} {kvs : List (List Key × V)} {ds : List (List Key × D)} : Rd F a (.dT kvs) → RpT K F kvs ds → Rp K F (.ref a) (.dt ds)
  | raw {a : Addr} {o : HO} : Rd F a o → Rp K F (.ref a) (.raw o)
inductive RpL (K : PySem.W.Frag) (F : Hp) : List V → List D → Prop
  | nil : RpL K F [] []
  | cons {v : V} {vs : List V} {d : D} {ds : List D} : Rp K F v d → RpL K F vs ds → RpL K F (v :: vs) (d :: ds)
inductive RpK (K : PySem.W.Frag) (F : Hp) : List (Key × V) → List (Key × D) → Prop
  | nil : RpK K F [] []
  | cons {k : Key} {v : V} {vs : List (Key × V)} {d : D} {ds : List (Key × D)} : Rp K F v d → RpK K F vs ds → RpK K F ((k, v) :: vs) ((k, d) :: ds)
inductive RpT (K : PySem.W.Frag) (F : Hp) : List (List Key × V) → List (List Key × D) → Prop
  | nil : RpT K F [] []
  | cons {k : List Key} {v : V} {vs : List (List Key × V)} {d : D} {ds : List (List Key × D)} : Rp K F v d → RpT K F vs ds → RpT K F ((k, v) :: vs) ((k, d) :: ds)
end

/-! ### one heap read in another -/
def ExR (F H : Hp) : Prop := ∀ a u, Rd F a u → Rd H a u
theorem ExR.refl (H : Hp) : ExR H H := fun _ _ h => h
theorem ExR.trans {F G H : Hp} (a : ExR F G) (b : ExR G H) : ExR F H := fun x u h => b x u (a x u h)
theorem ExR.sqL {K : PySem.W.Frag} {F H : Hp} (e : ExR F H) {a : Addr} {xs : List V} (h : SqL K F a xs) : SqL K H a xs := by
  rcases h with h | h
  · exact .inl (e _ _ h)
  · exact .inr h
theorem ExR.sqT {K : PySem.W.Frag} {F H : Hp} (e : ExR F H) {a : Addr} {xs : List V} (h : SqT K F a xs) : SqT K H a xs := by
  rcases h with h | h
  · exact .inl (e _ _ h)
  · exact .inr h
theorem rd_upd_ne {H : Hp} {a p : Addr} {u o : HO} (h : Rd H a u) (n : a ≠ p) : Rd (upd H p o) a u := by
  rcases h with h | ⟨x, h⟩
  · exact .inl (by rw [upd_ne n]; exact h)
  · exact .inr ⟨x, by rw [upd_ne n]; exact h⟩
theorem rd_none {H : Hp} {a : Addr} {u : HO} (h : Rd H a u) (n : H a = none) : False := by
  rcases h with h | ⟨x, h⟩ <;> rw [n] at h <;> cases h
/-- an object that F does not know is changed in H -/
theorem ExR.mut {F H : Hp} {p : Addr} {o : HO} (e : ExR F H) (h : F p = none) : ExR F (upd H p o) := fun a u r =>
  rd_upd_ne (e a u r) fun z => rd_none r (z ▸ h)
theorem ExR.both {F H : Hp} {p : Addr} {o : HO} (e : ExR F H) (h : F p = none) : ExR (upd F p o) (upd H p o) := fun a u r => by
  by_cases z : a = p
  · subst z
    rcases r with r | ⟨x, r⟩
    · rw [upd_same] at r; exact .inl (by rw [upd_same]; exact r)
    · rw [upd_same] at r; exact .inr ⟨x, by rw [upd_same]; exact r⟩
  · refine rd_upd_ne (e a u ?_) z
    rcases r with r | ⟨x, r⟩
    · rw [upd_ne z] at r; exact .inl r
    · rw [upd_ne z] at r; exact .inr ⟨x, r⟩
theorem ExR.new {F : Hp} {p : Addr} {o : HO} (h : F p = none) : ExR F (upd F p o) := (ExR.refl F).mut h
/-- an object of H is taken up into F -/
theorem ExR.up {F H : Hp} {p : Addr} {o : HO} (e : ExR F H) (h : H p = some o) (hz : ∀ x u, o ≠ .frz x u) : ExR (upd F p o) H := fun a u r => by
  by_cases z : a = p
  · subst z
    rcases r with r | ⟨x, r⟩
    · rw [upd_same] at r; cases r; exact .inl h
    · rw [upd_same] at r; cases r; exact absurd rfl (hz x u)
  · refine e a u ?_
    rcases r with r | ⟨x, r⟩
    · rw [upd_ne z] at r; exact .inl r
    · rw [upd_ne z] at r; exact .inr ⟨x, r⟩

mutual
theorem Rp.mono {K : PySem.W.Frag} {F H : Hp} (e : ExR F H) {v : V} {d : D} : Rp K F v d → Rp K H v d
  | .non => .non
  | .bl b => .bl b
  | .int i => .int i
  | .str x => .str x
  | .tup h r => .tup (e.sqT h) (RpL.mono e r)
  | .lst h r => .lst (e.sqL h) (RpL.mono e r)
  | .dk h r => .dk (e _ _ h) (RpK.mono e r)
  | .dt h r => .dt (e _ _ h) (RpT.mono e r)
  | .raw h => .raw (e _ _ h)
theorem RpL.mono {K : PySem.W.Frag} {F H : Hp} (e : ExR F H) {v : List V} {d : List D} : RpL K F v d → RpL K H v d
  | .nil => .nil
  | .cons h r => .cons (Rp.mono e h) (RpL.mono e r)
theorem RpK.mono {K : PySem.W.Frag} {F H : Hp} (e : ExR F H) {v : List (Key × V)} {d : List (Key × D)} : RpK K F v d → RpK K H v d
  | .nil => .nil
  | .cons h r => .cons (Rp.mono e h) (RpK.mono e r)
theorem RpT.mono {K : PySem.W.Frag} {F H : Hp} (e : ExR F H) {v : List (List Key × V)} {d : List (List Key × D)} : RpT K F v d → RpT K H v d
  | .nil => .nil
  | .cons h r => .cons (Rp.mono e h) (RpT.mono e r)
end

section
variable {K : PySem.W.Frag} {F : Hp}
theorem RpL.length : ∀ {xs : List V} {ds : List D}, RpL K F xs ds → xs.length = ds.length
  | _, _, .nil => rfl
  | _, _, .cons _ r => congrArg Nat.succ r.length
theorem RpL.get : ∀ {xs : List V} {ds : List D} {i : Nat} {x : V}, RpL K F xs ds → xs[i]? = some x → ∃ d, ds[i]? = some d ∧ Rp K F x d
  | _, _, _, _, .nil, e => by simp at e
  | _, _, 0, _, .cons h _, e => by simp at e; subst e; exact ⟨_, rfl, h⟩
  | _, _, i + 1, _, .cons _ r, e => by
    obtain ⟨d, h1, h2⟩ := r.get (i := i) (by simpa using e)
    exact ⟨d, by simpa using h1, h2⟩
theorem RpL.getD : ∀ {xs : List V} {ds : List D} {i : Nat} {d : D}, RpL K F xs ds → ds[i]? = some d → ∃ x, xs[i]? = some x ∧ Rp K F x d
  | _, _, _, _, .nil, e => by simp at e
  | _, _, 0, _, .cons h _, e => by simp at e; subst e; exact ⟨_, rfl, h⟩
  | _, _, i + 1, _, .cons _ r, e => by
    obtain ⟨d, h1, h2⟩ := r.getD (i := i) (by simpa using e)
    exact ⟨d, by simpa using h1, h2⟩
theorem RpL.append : ∀ {xs ys : List V} {ds es : List D}, RpL K F xs ds → RpL K F ys es → RpL K F (xs ++ ys) (ds ++ es)
  | _, _, _, _, .nil, s => s
  | _, _, _, _, .cons h r, s => .cons h (r.append s)
theorem RpL.set : ∀ {xs : List V} {ds : List D} (i : Nat) {x : V} {d : D}, RpL K F xs ds → Rp K F x d → RpL K F (xs.set i x) (ds.set i d)
  | _, _, _, _, _, .nil, _ => .nil
  | _, _, 0, _, _, .cons _ r, h => .cons h r
  | _, _, i + 1, _, _, .cons q r, h => .cons q (r.set i h)
theorem RpL.take : ∀ {xs : List V} {ds : List D} (n : Nat), RpL K F xs ds → RpL K F (xs.take n) (ds.take n)
  | _, _, 0, _ => .nil
  | _, _, _ + 1, .nil => .nil
  | _, _, n + 1, .cons h r => .cons h (r.take n)
theorem RpL.drop : ∀ {xs : List V} {ds : List D} (n : Nat), RpL K F xs ds → RpL K F (xs.drop n) (ds.drop n)
  | _, _, 0, r => r
  | _, _, _ + 1, .nil => .nil
  | _, _, n + 1, .cons _ r => r.drop n
theorem RpL.eraseIdx : ∀ {xs : List V} {ds : List D} (n : Nat), RpL K F xs ds → RpL K F (xs.eraseIdx n) (ds.eraseIdx n)
  | _, _, _, .nil => .nil
  | _, _, 0, .cons h r => r
  | _, _, n + 1, .cons h r => .cons h (r.eraseIdx n)
theorem RpL.reverse : ∀ {xs : List V} {ds : List D}, RpL K F xs ds → RpL K F xs.reverse ds.reverse
  | _, _, .nil => .nil
  | _, _, .cons h r => by
    rw [List.reverse_cons, List.reverse_cons]
    exact r.reverse.append (.cons h .nil)
theorem RpK.length : ∀ {xs : List (Key × V)} {ds : List (Key × D)}, RpK K F xs ds → xs.length = ds.length
  | _, _, .nil => rfl
  | _, _, .cons _ r => congrArg Nat.succ r.length
theorem RpT.length : ∀ {xs : List (List Key × V)} {ds : List (List Key × D)}, RpT K F xs ds → xs.length = ds.length
  | _, _, .nil => rfl
  | _, _, .cons _ r => congrArg Nat.succ r.length
end

/-! ### tables of data -/
section
variable {κ : Type} [DecidableEq κ]
def dget (kvs : List (κ × D)) (k : κ) : Option D := (kvs.find? fun kv => decide (kv.1 = k)).map (·.2)
def dput (kvs : List (κ × D)) (k : κ) (d : D) : List (κ × D) :=
  if (kvs.any fun kv => decide (kv.1 = k)) = true then kvs.map (fun kv => if kv.1 = k then (kv.1, d) else kv) else kvs ++ [(k, d)]
theorem dget_nil {k : κ} : dget ([] : List (κ × D)) k = none := rfl
theorem dget_pos {p : κ × D} {r : List (κ × D)} {k : κ} (e : p.1 = k) : dget (p :: r) k = some p.2 := by simp [dget, List.find?_cons, e]
theorem dget_neg {p : κ × D} {r : List (κ × D)} {k : κ} (e : ¬ p.1 = k) : dget (p :: r) k = dget r k := by simp [dget, List.find?_cons, e]
end
section
variable {K : PySem.W.Frag} {F : Hp}
theorem RpK.get (k : Key) : ∀ {xs : List (Key × V)} {ds : List (Key × D)}, RpK K F xs ds → (valV xs k = none ∧ dget ds k = none) ∨ ∃ v d, valV xs k = some v ∧ dget ds k = some d ∧ Rp K F v d
  | _, _, .nil => .inl ⟨rfl, rfl⟩
  | _, _, .cons (k := j) (v := v) (d := d) h r => by
    by_cases e : j = k
    · exact .inr ⟨v, d, valV_pos e, dget_pos e, h⟩
    · rw [valV_neg (p := (j, v)) e, dget_neg (p := (j, d)) e]
      exact r.get k
theorem RpK.any (k : Key) : ∀ {xs : List (Key × V)} {ds : List (Key × D)}, RpK K F xs ds → (xs.any fun kv => decide (kv.1 = k)) = ds.any fun kv => decide (kv.1 = k)
  | _, _, .nil => rfl
  | _, _, .cons _ r => by rw [List.any_cons, List.any_cons, r.any k]
theorem RpK.repl {k : Key} {v : V} {d : D} (h : Rp K F v d) : ∀ {xs : List (Key × V)} {ds : List (Key × D)}, RpK K F xs ds → RpK K F (xs.map fun kv => if kv.1 = k then (kv.1, v) else kv) (ds.map fun kv => if kv.1 = k then (kv.1, d) else kv)
  | _, _, .nil => .nil
  | _, _, .cons (k := j) hh rr => by
    rw [List.map_cons, List.map_cons]
    by_cases e : j = k
    · rw [if_pos e, if_pos e]
      exact .cons h (rr.repl h)
    · rw [if_neg e, if_neg e]
      exact .cons hh (rr.repl h)
theorem RpK.snoc {k : Key} {v : V} {d : D} (h : Rp K F v d) : ∀ {xs : List (Key × V)} {ds : List (Key × D)}, RpK K F xs ds → RpK K F (xs ++ [(k, v)]) (ds ++ [(k, d)])
  | _, _, .nil => .cons h .nil
  | _, _, .cons hh rr => .cons hh (rr.snoc h)
theorem RpK.put {k : Key} {v : V} {d : D} {xs : List (Key × V)} {ds : List (Key × D)} (r : RpK K F xs ds) (h : Rp K F v d) : RpK K F (putK xs k v) (dput ds k d) := by
  unfold putK dput
  rw [r.any k]
  by_cases e : (ds.any fun kv => decide (kv.1 = k)) = true
  · rw [if_pos e, if_pos e]
    exact r.repl h
  · rw [if_neg e, if_neg e]
    exact r.snoc h
theorem RpK.keys : ∀ {xs : List (Key × V)} {ds : List (Key × D)}, RpK K F xs ds → xs.map (·.1) = ds.map (·.1)
  | _, _, .nil => rfl
  | _, _, .cons _ r => by rw [List.map_cons, List.map_cons, r.keys]
theorem RpT.get (k : List Key) : ∀ {xs : List (List Key × V)} {ds : List (List Key × D)}, RpT K F xs ds → (valV xs k = none ∧ dget ds k = none) ∨ ∃ v d, valV xs k = some v ∧ dget ds k = some d ∧ Rp K F v d
  | _, _, .nil => .inl ⟨rfl, rfl⟩
  | _, _, .cons (k := j) (v := v) (d := d) h r => by
    by_cases e : j = k
    · exact .inr ⟨v, d, valV_pos e, dget_pos e, h⟩
    · rw [valV_neg (p := (j, v)) e, dget_neg (p := (j, d)) e]
      exact r.get k
theorem RpT.any (k : List Key) : ∀ {xs : List (List Key × V)} {ds : List (List Key × D)}, RpT K F xs ds → (xs.any fun kv => decide (kv.1 = k)) = ds.any fun kv => decide (kv.1 = k)
  | _, _, .nil => rfl
  | _, _, .cons _ r => by rw [List.any_cons, List.any_cons, r.any k]
theorem RpT.repl {k : List Key} {v : V} {d : D} (h : Rp K F v d) : ∀ {xs : List (List Key × V)} {ds : List (List Key × D)}, RpT K F xs ds → RpT K F (xs.map fun kv => if kv.1 = k then (kv.1, v) else kv) (ds.map fun kv => if kv.1 = k then (kv.1, d) else kv)
  | _, _, .nil => .nil
  | _, _, .cons (k := j) hh rr => by
    rw [List.map_cons, List.map_cons]
    by_cases e : j = k
    · rw [if_pos e, if_pos e]
      exact .cons h (rr.repl h)
    · rw [if_neg e, if_neg e]
      exact .cons hh (rr.repl h)
theorem RpT.snoc {k : List Key} {v : V} {d : D} (h : Rp K F v d) : ∀ {xs : List (List Key × V)} {ds : List (List Key × D)}, RpT K F xs ds → RpT K F (xs ++ [(k, v)]) (ds ++ [(k, d)])
  | _, _, .nil => .cons h .nil
  | _, _, .cons hh rr => .cons hh (rr.snoc h)
theorem RpT.put {k : List Key} {v : V} {d : D} {xs : List (List Key × V)} {ds : List (List Key × D)} (r : RpT K F xs ds) (h : Rp K F v d) : RpT K F (putK xs k v) (dput ds k d) := by
  unfold putK dput
  rw [r.any k]
  by_cases e : (ds.any fun kv => decide (kv.1 = k)) = true
  · rw [if_pos e, if_pos e]
    exact r.repl h
  · rw [if_neg e, if_neg e]
    exact r.snoc h
end

/-! ### cells: what a slot holds -/
inductive Cell where
  /-- nothing is known -/
  | no
  /-- data that nobody changes any more -/
  | fz (d : D)
  /-- a list or dict of our own -/
  | ow (d : D)
  /-- the value of the local slot i -/
  | al (i : Nat)
  /-- a dict that is walked: locked -/
  | lk (o : Obj) (u : HO)

/-- an own object -/
inductive OwnAt (K : PySem.W.Frag) (F H : Hp) (p : Addr) : D → Prop
  | lst {vs : List V} {ds : List D} : H p = some (.lst vs) → RpL K F vs ds → OwnAt K F H p (.lst ds)
  | dk {vs : List (Key × V)} {ds : List (Key × D)} : H p = some (.dK vs) → RpK K F vs ds → OwnAt K F H p (.dk ds)
  | dt {vs : List (List Key × V)} {ds : List (List Key × D)} : H p = some (.dT vs) → RpT K F vs ds → OwnAt K F H p (.dt ds)
  /-- a tuple that was just made -/
  | tup {vs : List V} {ds : List D} : H p = some (.tup vs) → RpL K F vs ds → OwnAt K F H p (.tup ds)
  /-- any object, as it stands -/
  | raw {o : HO} : H p = some o → (∀ x u, o ≠ .frz x u) → OwnAt K F H p (.raw o)
theorem OwnAt.mono {K : PySem.W.Frag} {F F' H H' : Hp} {p : Addr} {d : D} (e : ExR F F') (h : ∀ o, H p = some o → H' p = some o) : OwnAt K F H p d → OwnAt K F' H' p d
  | .lst q r => .lst (h _ q) (r.mono e)
  | .dk q r => .dk (h _ q) (r.mono e)
  | .dt q r => .dt (h _ q) (r.mono e)
  | .tup q r => .tup (h _ q) (r.mono e)
  | .raw q z => .raw (h _ q) z
/-- an own object may be taken up into F -/
theorem OwnAt.up {K : PySem.W.Frag} {F H : Hp} {p : Addr} {d : D} (e : ExR F H) (n : F p = none) : OwnAt K F H p d → ∃ o, H p = some o ∧ (∀ x u, o ≠ .frz x u) ∧ Rp K (upd F p o) (.ref p) d
  | .lst q r => ⟨_, q, fun _ _ z => (nomatch z), Rp.lst (.inl (.inl upd_same)) (r.mono (ExR.new n))⟩
  | .dk q r => ⟨_, q, fun _ _ z => (nomatch z), Rp.dk (.inl upd_same) (r.mono (ExR.new n))⟩
  | .dt q r => ⟨_, q, fun _ _ z => (nomatch z), Rp.dt (.inl upd_same) (r.mono (ExR.new n))⟩
  | .tup q r => ⟨_, q, fun _ _ z => (nomatch z), Rp.tup (.inl (.inl upd_same)) (r.mono (ExR.new n))⟩
  | .raw q z => ⟨_, q, z, Rp.raw (.inl upd_same)⟩
end DL


set_option Elab.async false
set_option linter.all false
set_option maxRecDepth 100000
set_option maxHeartbeats 1000000
/-! THE DATA LAYER, 2: the state of a running def, and how it changes. -/
namespace DL
open PySem PySem.Spec PyProof.Rows L2

/-- where a def began: its heap, what was data then, the addresses of its own parameters (slots js) -/
structure Base (js : List Nat) (m : Nat) where
  H0 : Hp
  F0 : Hp
  ad : List Addr

theorem tp_both {F H : Hp} {p : Addr} {o : HO} (t : ∀ a xs, F a = some (.tup xs) → H a = some (.tup xs)) : ∀ a xs, upd F p o a = some (.tup xs) → upd H p o a = some (.tup xs) := fun a xs h => by
  by_cases z : a = p
  · subst z; rw [upd_same] at h ⊢; exact h
  · rw [upd_ne z] at h ⊢; exact t a xs h
theorem tp_mut {F H : Hp} {p : Addr} {o : HO} (t : ∀ a xs, F a = some (.tup xs) → H a = some (.tup xs)) (n : F p = none) : ∀ a xs, F a = some (.tup xs) → upd H p o a = some (.tup xs) := fun a xs h => by
  rw [upd_ne (ne_of_none h n)]; exact t a xs h
theorem tp_up {F H : Hp} {p : Addr} {o : HO} (t : ∀ a xs, F a = some (.tup xs) → H a = some (.tup xs)) (ho : H p = some o) : ∀ a xs, upd F p o a = some (.tup xs) → H a = some (.tup xs) := fun a xs h => by
  by_cases z : a = p
  · subst z; rw [upd_same] at h; rw [ho]; exact h
  · rw [upd_ne z] at h; exact t a xs h
/-- what a walk may lock -/
def Lk : HO → Prop
  | .dK _ => True
  | .dT _ => True
  | _ => False
/-- a stands as it stood, or is data and locked -/
def Stays (F H : Hp) (a : Addr) (o : HO) : Prop := H a = some o ∨ (F a ≠ none ∧ Lk o ∧ ∃ x, H a = some (.frz x o))
theorem Stays.rd {F H : Hp} {a : Addr} {o : HO} (h : Stays F H a o) : ∃ o', H a = some o' := h.elim (fun q => ⟨o, q⟩) fun ⟨_, _, x, q⟩ => ⟨_, q⟩
section
variable (K : PySem.W.Frag) {js : List Nat} {m : Nat} (b : Base js m)
def OkAt (vs : List (Option V)) (F H : Hp) (k : Nat) : Cell → Option (Option V) → Prop
  | .no, _ => True
  | .fz d, v => ∃ x, v = some (some x) ∧ Rp K F x d
  | .ow d, v => ∃ p, v = some (some (.ref p)) ∧ F p = none ∧ OwnAt K F H p d ∧ (b.H0 p = none ∨ (k ∈ js ∧ p ∈ b.ad))
  | .al i, v => i < m ∧ v = vs[i]? ∧ ∃ x, v = some (some x)
  | .lk o u, v => ∃ d, v = some (some (.ref d)) ∧ H d = some (.frz o u) ∧ F d ≠ none
structure At (vs : List (Option V)) (cs : List Cell) (F H : Hp) : Prop where
  len : cs.length = vs.length
  ml : m ≤ vs.length
  jl : ∀ j ∈ js, j < m
  ex : ExR F H
  tp : ∀ a xs, F a = some (.tup xs) → H a = some (.tup xs)
  ex0 : ExR b.F0 F
  new : ∀ a u, Rd F a u → Rd b.F0 a u ∨ b.H0 a = none
  fr : ∀ a o, b.H0 a = some o → a ∉ b.ad → Stays b.F0 H a o
  live : ∀ a o, b.H0 a = some o → ∃ o', H a = some o'
  ok : ∀ (i : Nat) c, cs[i]? = some c → OkAt K b vs F H i c vs[i]?
  inj : ∀ (i j : Nat) d e p, cs[i]? = some (.ow d) → cs[j]? = some (.ow e) → vs[i]? = some (some (.ref p)) → vs[j]? = some (some (.ref p)) → i = j
  io : ∀ (k j : Nat) p, js[k]? = some j → b.ad[k]? = some p → vs[j]? = some (some (.ref p))
end
section
variable {K : PySem.W.Frag} {js : List Nat} {m : Nat} {b : Base js m} {vs : List (Option V)} {cs : List Cell} {F H : Hp}

theorem At.f_none (A : At K b vs cs F H) {p : Addr} (h : H p = none) : F p = none := by
  cases q : F p with
  | none => rfl
  | some o => exact (rd_none (A.ex p o (.inl q)) h).elim
theorem At.h0_none (A : At K b vs cs F H) {p : Addr} (h : H p = none) : b.H0 p = none := by
  cases q : b.H0 p with
  | none => rfl
  | some o =>
    obtain ⟨o', e⟩ := A.live p o q
    rw [h] at e; cases e
theorem At.ow_ne (A : At K b vs cs F H) {p q : Addr} {i : Nat} {d : D} (h : H p = none) (hc : cs[i]? = some (.ow d)) (hv : vs[i]? = some (some (.ref q))) : q ≠ p := by
  obtain ⟨p', e, _, o, _⟩ := A.ok i _ hc
  rw [hv] at e
  have e' : q = p' := by injection e with e; injection e with e; injection e
  subst e'
  intro z
  subst z
  cases o with
  | lst z _ => rw [h] at z; cases z
  | dk z _ => rw [h] at z; cases z
  | dt z _ => rw [h] at z; cases z
  | tup z _ => rw [h] at z; cases z
  | raw z _ => rw [h] at z; cases z

/-- OkAt under a change of heaps -/
theorem OkAt.mono {F' H' : Hp} {k : Nat} {c : Cell} {v : Option (Option V)} (h : OkAt K b vs F H k c v) (e : ExR F F') (hf : ∀ p, c = .ow (match c with | .ow d => d | _ => .non) → v = some (some (.ref p)) → F' p = none ∧ ∀ o, H p = some o → H' p = some o) (hz : ∀ d o u, H d = some (.frz o u) → F d ≠ none → H' d = some (.frz o u)) : OkAt K b vs F' H' k c v := by
  cases c with
  | no => trivial
  | fz d =>
    obtain ⟨x, e1, r⟩ := h
    exact ⟨x, e1, r.mono e⟩
  | ow d =>
    obtain ⟨p, e1, n, o, q⟩ := h
    obtain ⟨h1, h2⟩ := hf p rfl e1
    exact ⟨p, e1, h1, o.mono e h2, q⟩
  | al i => exact h
  | lk o u =>
    obtain ⟨d, e1, e2, e3⟩ := h
    refine ⟨d, e1, hz d o u e2 e3, fun z => ?_⟩
    cases q : F d with
    | none => exact e3 q
    | some x => exact rd_none (e d x (.inl q)) z
/-- OkAt with more values behind -/
theorem OkAt.more {ws : List (Option V)} {k : Nat} {c : Cell} {v : Option (Option V)} (h : OkAt K b vs F H k c v) (hm : m ≤ vs.length) : OkAt K b (vs ++ ws) F H k c v := by
  cases c with
  | no => trivial
  | fz d => exact h
  | ow d => exact h
  | al i =>
    obtain ⟨h1, h2, h3⟩ := h
    exact ⟨h1, by rw [List.getElem?_append_left (by omega)]; exact h2, h3⟩
  | lk o u => exact h
theorem OkAt.less {ws : List (Option V)} {k : Nat} {c : Cell} {v : Option (Option V)} (h : OkAt K b (vs ++ ws) F H k c v) (hm : m ≤ vs.length) : OkAt K b vs F H k c v := by
  cases c with
  | no => trivial
  | fz d => exact h
  | ow d => exact h
  | al i =>
    obtain ⟨h1, h2, h3⟩ := h
    exact ⟨h1, by rw [List.getElem?_append_left (by omega)] at h2; exact h2, h3⟩
  | lk o u => exact h

theorem app_cases {α : Type} {l : List α} {x y : α} {i : Nat} (h : (l ++ [x])[i]? = some y) : (i < l.length ∧ l[i]? = some y) ∨ (i = l.length ∧ x = y) := by
  by_cases hi : i < l.length
  · rw [List.getElem?_append_left hi] at h
    exact .inl ⟨hi, h⟩
  · rw [List.getElem?_append_right (by omega)] at h
    by_cases e : i = l.length
    · subst e
      rw [Nat.sub_self] at h
      exact .inr ⟨rfl, by simpa using h⟩
    · rw [List.getElem?_eq_none (by simp; omega)] at h
      cases h
theorem app_last {α : Type} {l : List α} {x : α} {n : Nat} (h : n = l.length) : (l ++ [x])[n]? = some x := by
  subst h
  simp

/-- the heaps grow by objects that nobody knew -/
theorem At.heaps (A : At K b vs cs F H) {F' H' : Hp} (e : ExR F F') (e' : ExR F' H') (tp' : ∀ a xs, F' a = some (.tup xs) → H' a = some (.tup xs)) (hn : ∀ a u, Rd F' a u → Rd F a u ∨ b.H0 a = none) (hk : ∀ a o, H a = some o → Stays F H' a o) (hf : ∀ (i : Nat) d p, cs[i]? = some (.ow d) → vs[i]? = some (some (.ref p)) → F' p = none) : At K b vs cs F' H' where
  len := A.len
  ml := A.ml
  jl := A.jl
  ex := e'
  tp := tp'
  ex0 := A.ex0.trans e
  new := fun a u r => (hn a u r).elim (fun z => A.new a u z) .inr
  fr := fun a o h n => by
    rcases A.fr a o h n with q | ⟨f, lk, x, q⟩
    · rcases hk a o q with y | ⟨f, lk, x, y⟩
      · exact .inl y
      · refine .inr ⟨?_, lk, x, y⟩
        cases z : F a with
        | none => exact absurd z f
        | some u =>
          rcases A.new a u (.inl z) with w | w
          · intro w'; exact rd_none w w'
          · rw [h] at w; cases w
    · rcases hk a _ q with y | ⟨_, lk', _⟩
      · exact .inr ⟨f, lk, x, y⟩
      · exact lk'.elim
  live := fun a o h => let ⟨o', q⟩ := A.live a o h; (hk a o' q).rd
  ok := fun i c hc => by
   refine (A.ok i c hc).mono e (fun p z hv => ?_) fun d o u h1 h2 => (hk d _ h1).elim id fun z => z.2.1.elim
   · cases c with
     | ow d => exact ⟨hf i d p hc hv, fun o q => (hk p o q).elim id fun z => by
        obtain ⟨p', e1, n, _⟩ := A.ok i _ hc
        rw [hv] at e1
        have e2 : p = p' := by injection e1 with e1; injection e1 with e1; injection e1
        subst e2
        exact absurd n z.1⟩
     | _ => cases z
  inj := A.inj
  io := A.io

/-- one more value behind -/
theorem At.push (A : At K b vs cs F H) {v : V} {c : Cell} (hc : OkAt K b vs F H vs.length c (some (some v))) (hi : ∀ (i : Nat) d e p, cs[i]? = some (.ow d) → c = .ow e → v = .ref p → vs[i]? ≠ some (some (.ref p))) : At K b (vs ++ [some v]) (cs ++ [c]) F H where
  len := by simp [A.len]
  ml := by have := A.ml; simp; omega
  jl := A.jl
  ex := A.ex
  tp := A.tp
  ex0 := A.ex0
  new := A.new
  fr := A.fr
  live := A.live
  ok := fun i c' h => by
    rcases app_cases h with ⟨h1, h2⟩ | ⟨h1, h2⟩
    · rw [List.getElem?_append_left (by rw [← A.len]; exact h1)]
      exact (A.ok i c' h2).more A.ml
    · subst h2
      rw [app_last (h1.trans A.len)]
      rw [h1.trans A.len]
      exact hc.more A.ml
  inj := fun i j d e p h1 h2 h3 h4 => by
    rcases app_cases h1 with ⟨a1, a2⟩ | ⟨a1, a2⟩ <;> rcases app_cases h2 with ⟨b1, b2⟩ | ⟨b1, b2⟩
    · rw [List.getElem?_append_left (by rw [← A.len]; exact a1)] at h3
      rw [List.getElem?_append_left (by rw [← A.len]; exact b1)] at h4
      exact A.inj i j d e p a2 b2 h3 h4
    · rw [List.getElem?_append_left (by rw [← A.len]; exact a1)] at h3
      rw [app_last (b1.trans A.len)] at h4
      exact absurd h3 (hi i d e p a2 b2 (by injection h4 with h4; injection h4))
    · rw [List.getElem?_append_left (by rw [← A.len]; exact b1)] at h4
      rw [app_last (a1.trans A.len)] at h3
      exact absurd h4 (hi j e d p b2 a2 (by injection h3 with h3; injection h3))
    · omega
  io := fun k j p h1 h2 => by
    have hj : j < m := A.jl j (List.mem_of_getElem? h1)
    rw [List.getElem?_append_left (by have := A.ml; omega)]
    exact A.io k j p h1 h2
theorem At.push_fz (A : At K b vs cs F H) {v : V} {d : D} (r : Rp K F v d) : At K b (vs ++ [some v]) (cs ++ [.fz d]) F H :=
  A.push ⟨v, rfl, r⟩ fun _ _ _ _ _ z => nomatch z
theorem At.push_al (A : At K b vs cs F H) {i : Nat} {v : V} (hi : i < m) (h : vs[i]? = some (some v)) : At K b (vs ++ [some v]) (cs ++ [.al i]) F H :=
  A.push ⟨hi, h.symm, v, rfl⟩ fun _ _ _ _ _ z => nomatch z
/-- a new object, data at once -/
theorem At.alloc_fz (A : At K b vs cs F H) {p : Addr} {o : HO} {d : D} (hp : H p = none) (r : Rp K (upd F p o) (.ref p) d) : At K b (vs ++ [some (.ref p)]) (cs ++ [.fz d]) (upd F p o) (upd H p o) := by
  have fn := A.f_none hp
  have hn := A.h0_none hp
  refine At.push_fz (A.heaps (ExR.new fn) (A.ex.both fn) (tp_both A.tp) (fun a u r => ?_) (fun a o' h => ?_) fun i d p' hc hv => ?_) r
  · by_cases z : a = p
    · subst z; exact .inr hn
    · refine .inl ?_
      rcases r with r | ⟨x, r⟩
      · rw [upd_ne z] at r; exact .inl r
      · rw [upd_ne z] at r; exact .inr ⟨x, r⟩
  · exact .inl (by rw [upd_ne (ne_of_none h hp)]; exact h)
  · rw [upd_ne (A.ow_ne hp hc hv)]
    obtain ⟨q, e, n, _⟩ := A.ok i _ hc
    rw [hv] at e
    have e' : p' = q := by injection e with e; injection e with e; injection e
    subst e'
    exact n
/-- a new object of our own -/
theorem At.alloc_ow (A : At K b vs cs F H) {p : Addr} {o : HO} {d : D} (hp : H p = none) (r : OwnAt K F (upd H p o) p d) : At K b (vs ++ [some (.ref p)]) (cs ++ [.ow d]) F (upd H p o) := by
  have fn := A.f_none hp
  have hn := A.h0_none hp
  refine At.push (A.heaps (ExR.refl F) (A.ex.mut fn) (tp_mut A.tp fn) (fun a u r => .inl r) (fun a o' h => ?_) fun i d p' hc hv => ?_) ⟨p, rfl, fn, r, .inl hn⟩ fun i d e q hc z hv => ?_
  · exact .inl (by rw [upd_ne (ne_of_none h hp)]; exact h)
  · obtain ⟨q, e, n, _⟩ := A.ok i _ hc
    rw [hv] at e
    have e' : p' = q := by injection e with e; injection e with e; injection e
    subst e'
    exact n
  · intro hh
    have := A.ow_ne hp hc hh
    injection hv with hv
    exact this hv.symm
/-- a new object that is not remembered -/
theorem At.alloc_no (A : At K b vs cs F H) {p : Addr} {o : HO} (hp : H p = none) : At K b vs cs F (upd H p o) := by
  have fn := A.f_none hp
  refine A.heaps (ExR.refl F) (A.ex.mut fn) (tp_mut A.tp fn) (fun a u r => .inl r) (fun a o' h => ?_) fun i d p' hc hv => ?_
  · exact .inl (by rw [upd_ne (ne_of_none h hp)]; exact h)
  · obtain ⟨q, e, n, _⟩ := A.ok i _ hc
    rw [hv] at e
    have e' : p' = q := by injection e with e; injection e with e; injection e
    subst e'
    exact n
/-- the last value dropped -/
theorem At.pop {v : Option V} {c : Cell} (A : At K b (vs ++ [v]) (cs ++ [c]) F H) (hm : m ≤ vs.length) : At K b vs cs F H := by
  have hl : cs.length = vs.length := by have := A.len; simpa using this
  exact {
    len := hl
    ml := hm
    jl := A.jl
    ex := A.ex
    tp := A.tp
    ex0 := A.ex0
    new := A.new
    fr := A.fr
    live := A.live
    ok := fun i c' h => by
      have hi : i < cs.length := (List.getElem?_eq_some_iff.mp h).1
      have q := A.ok i c' (by rw [List.getElem?_append_left hi]; exact h)
      rw [List.getElem?_append_left (by omega)] at q
      exact q.less hm
    inj := fun i j d e p h1 h2 h3 h4 => by
      have hi : i < cs.length := (List.getElem?_eq_some_iff.mp h1).1
      have hj : j < cs.length := (List.getElem?_eq_some_iff.mp h2).1
      exact A.inj i j d e p (by rw [List.getElem?_append_left hi]; exact h1) (by rw [List.getElem?_append_left hj]; exact h2) (by rw [List.getElem?_append_left (by omega)]; exact h3) (by rw [List.getElem?_append_left (by omega)]; exact h4)
    io := fun k j p h1 h2 => by
      have hj : j < m := A.jl j (List.mem_of_getElem? h1)
      have q := A.io k j p h1 h2
      rw [List.getElem?_append_left (by omega)] at q
      exact q }
/-- what is known of a slot is forgotten or weakened: fz stays fz .. (the heaps stay) -/
theorem At.recell (A : At K b vs cs F H) (k : Nat) {c : Cell} (hc : OkAt K b vs F H k c vs[k]?) (hw : ∀ d, c = .ow d → ∃ e, cs[k]? = some (.ow e)) : At K b vs (cs.set k c) F H where
  len := by simp [A.len]
  ml := A.ml
  jl := A.jl
  ex := A.ex
  tp := A.tp
  ex0 := A.ex0
  new := A.new
  fr := A.fr
  live := A.live
  ok := fun i c' h => by
    by_cases e : i = k
    · subst e
      have hi : i < cs.length := by have := (List.getElem?_eq_some_iff.mp h).1; simpa using this
      rw [List.getElem?_set_self hi] at h
      cases h
      exact hc
    · rw [List.getElem?_set_ne (Ne.symm e)] at h
      exact A.ok i c' h
  inj := fun i j d e p h1 h2 h3 h4 => by
    have back : ∀ (i : Nat) d, (cs.set k c)[i]? = some (.ow d) → ∃ d', cs[i]? = some (.ow d') := fun i d h => by
      by_cases e : i = k
      · subst e
        have hi : i < cs.length := by have := (List.getElem?_eq_some_iff.mp h).1; simpa using this
        rw [List.getElem?_set_self hi] at h
        cases h
        exact hw d rfl
      · rw [List.getElem?_set_ne (Ne.symm e)] at h
        exact ⟨d, h⟩
    obtain ⟨d', q1⟩ := back i d h1
    obtain ⟨e', q2⟩ := back j e h2
    exact A.inj i j d' e' p q1 q2 h3 h4
  io := A.io
theorem At.addr (A : At K b vs cs F H) {k : Nat} {d : D} (hk : cs[k]? = some (.ow d)) {p : Addr} (hv : vs[k]? = some (some (.ref p))) : F p = none ∧ OwnAt K F H p d ∧ (b.H0 p = none ∨ (k ∈ js ∧ p ∈ b.ad)) := by
  obtain ⟨q, e, n⟩ := A.ok k _ hk
  rw [hv] at e
  have e' : p = q := by injection e with e; injection e with e; injection e
  subst e'
  exact n
/-- an own object becomes data -/
theorem At.freeze (A : At K b vs cs F H) {k : Nat} {d : D} (hk : cs[k]? = some (.ow d)) (hj : k ∉ js) : ∃ F', At K b vs (cs.set k (.fz d)) F' H := by
  obtain ⟨p, hv, fn, ow, h0⟩ := A.ok k _ hk
  obtain ⟨o, ho, hz, r⟩ := ow.up A.ex fn
  have hn : b.H0 p = none := h0.elim id fun z => absurd z.1 hj
  have A1 : At K b vs (cs.set k .no) F H := A.recell k trivial fun _ z => nomatch z
  have A2 : At K b vs (cs.set k .no) (upd F p o) H := by
    refine A1.heaps (ExR.new fn) (A.ex.up ho hz) (tp_up A.tp ho) (fun a u r => ?_) (fun a o' h => .inl h) fun i e q hc hq => ?_
    · by_cases z : a = p
      · subst z; exact .inr hn
      · refine .inl ?_
        rcases r with r | ⟨x, r⟩
        · rw [upd_ne z] at r; exact .inl r
        · rw [upd_ne z] at r; exact .inr ⟨x, r⟩
    · have ik : i ≠ k := fun z => by
        subst z
        have hi : i < cs.length := (List.getElem?_eq_some_iff.mp hk).1
        rw [List.getElem?_set_self hi] at hc; cases hc
      rw [List.getElem?_set_ne (Ne.symm ik)] at hc
      have qp : q ≠ p := fun z => by
        subst z
        exact ik (A.inj i k e d q hc hk hq hv)
      rw [upd_ne qp]
      exact (A.addr hc hq).1
  have A3 := A2.recell k (c := .fz d) ⟨.ref p, hv, r⟩ fun _ z => nomatch z
  rw [List.set_set] at A3
  exact ⟨_, A3⟩
/-- an own object is written -/
theorem At.write (A : At K b vs cs F H) {k : Nat} {d d' : D} {p : Addr} {o : HO} (hk : cs[k]? = some (.ow d)) (hv : vs[k]? = some (some (.ref p))) (r : OwnAt K F (upd H p o) p d') : At K b vs (cs.set k (.ow d')) F (upd H p o) := by
  obtain ⟨fn, ow, h0⟩ := A.addr hk hv
  have A1 : At K b vs (cs.set k .no) F H := A.recell k trivial fun _ z => nomatch z
  have hkl : k < cs.length := (List.getElem?_eq_some_iff.mp hk).1
  have other : ∀ (i : Nat) e q, cs[i]? = some (.ow e) → vs[i]? = some (some (.ref q)) → i ≠ k → q ≠ p := fun i e q hc hq ik z => by
    subst z
    exact ik (A.inj i k e d q hc hk hq hv)
  exact {
    len := by simp [A.len]
    ml := A.ml
    jl := A.jl
    ex := A.ex.mut fn
    tp := tp_mut A.tp fn
    ex0 := A.ex0
    new := A.new
    fr := fun a x h n => by
      have z : a ≠ p := fun z => by
        subst z
        rcases h0 with q | ⟨_, q⟩
        · rw [h] at q; cases q
        · exact n q
      unfold Stays
      rw [upd_ne z]
      exact A.fr a x h n
    live := fun a x h => by
      by_cases z : a = p
      · subst z; exact ⟨o, upd_same⟩
      · rw [upd_ne z]; exact A.live a x h
    ok := fun i c hc => by
      by_cases ik : i = k
      · subst ik
        rw [List.getElem?_set_self hkl] at hc
        cases hc
        exact ⟨p, hv, fn, r, h0⟩
      · rw [List.getElem?_set_ne (Ne.symm ik)] at hc
        refine (A.ok i c hc).mono (ExR.refl F) (fun q z hq => ?_) fun dd o' u h1 h2 => by
          have ne : dd ≠ p := fun z => h2 (by rw [z]; exact fn)
          rw [upd_ne ne]; exact h1
        cases c with
        | ow e => exact ⟨(A.addr hc hq).1, fun x hx => by rw [upd_ne (other i e q hc hq ik)]; exact hx⟩
        | _ => cases z
    inj := fun i j e e' q h1 h2 h3 h4 => by
      have back : ∀ (i : Nat) e, (cs.set k (.ow d'))[i]? = some (.ow e) → ∃ e', cs[i]? = some (.ow e') := fun i e h => by
        by_cases z : i = k
        · subst z; exact ⟨d, hk⟩
        · rw [List.getElem?_set_ne (Ne.symm z)] at h
          exact ⟨e, h⟩
      obtain ⟨_, q1⟩ := back i e h1
      obtain ⟨_, q2⟩ := back j e' h2
      exact A.inj i j _ _ q q1 q2 h3 h4
    io := A.io }
/-- no cell speaks of a local slot -/
def NoAl (cs : List Cell) : Prop := ∀ (i : Nat) c, cs[i]? = some c → ∀ j, c ≠ .al j
/-- the last value is stored in a local slot -/
theorem At.store {σ tv : List (Option V)} {env te : List Cell} {v : Option V} {c : Cell} {k : Nat} (A : At K b (σ ++ tv ++ [v]) (env ++ te ++ [c]) F H) (hm : m ≤ σ.length) (he : env.length = σ.length) (hk : k < σ.length) (hj : k ∉ js) (ha : m ≤ k ∨ NoAl (env ++ te)) (hc : ∀ j, c ≠ .al j) :
    At K b (σ.set k v ++ tv) (env.set k c ++ te) F H := by
  have hl : (env ++ te).length = (σ ++ tv).length := by have := A.len; simp only [List.length_append, List.length_cons, List.length_nil] at this ⊢; omega
  have gv : ∀ (i : Nat), i ≠ k → (σ.set k v ++ tv)[i]? = (σ ++ tv)[i]? := fun i ik => by
    by_cases hi : i < σ.length
    · rw [List.getElem?_append_left (by simpa using hi), List.getElem?_append_left hi, List.getElem?_set_ne (Ne.symm ik)]
    · rw [List.getElem?_append_right (by simpa using hi), List.getElem?_append_right (by omega)]; simp
  have gc : ∀ (i : Nat), i ≠ k → (env.set k c ++ te)[i]? = (env ++ te)[i]? := fun i ik => by
    by_cases hi : i < env.length
    · rw [List.getElem?_append_left (by simpa using hi), List.getElem?_append_left hi, List.getElem?_set_ne (Ne.symm ik)]
    · rw [List.getElem?_append_right (by simpa using hi), List.getElem?_append_right (by omega)]; simp
  have kv : (σ.set k v ++ tv)[k]? = some v := by
    rw [List.getElem?_append_left (by simpa using hk), List.getElem?_set_self hk]
  have kc : (env.set k c ++ te)[k]? = some c := by
    rw [List.getElem?_append_left (by simp; omega), List.getElem?_set_self (by omega)]
  have lv : (σ ++ tv ++ [v])[(σ ++ tv).length]? = some v := app_last rfl
  have lc : (env ++ te ++ [c])[(σ ++ tv).length]? = some c := app_last hl.symm
  have up : ∀ (i : Nat) c', (env ++ te)[i]? = some c' → (env ++ te ++ [c])[i]? = some c' ∧ (σ ++ tv ++ [v])[i]? = (σ ++ tv)[i]? := fun i c' h => by
    have hi := (List.getElem?_eq_some_iff.mp h).1
    exact ⟨by rw [List.getElem?_append_left hi]; exact h, by rw [List.getElem?_append_left (by omega)]⟩
  have nj : (σ ++ tv).length ∉ js := fun z => by have := A.jl _ z; simp at this; omega
  exact {
    len := by simp only [List.length_append, List.length_set] at hl ⊢; omega
    ml := by simp; omega
    jl := A.jl
    ex := A.ex
    tp := A.tp
    ex0 := A.ex0
    new := A.new
    fr := A.fr
    live := A.live
    ok := fun i c' h => by
      by_cases ik : i = k
      · subst ik
        rw [kc] at h
        cases h
        rw [kv]
        have q := A.ok _ _ lc
        rw [lv] at q
        cases c with
        | no => trivial
        | fz d => exact q
        | ow d =>
          obtain ⟨p, e, n, o, z⟩ := q
          exact ⟨p, e, n, o, z.elim .inl fun y => absurd y.1 nj⟩
        | al j => exact absurd rfl (hc j)
        | lk o u => exact q
      · rw [gc i ik] at h
        rw [gv i ik]
        obtain ⟨u1, u2⟩ := up i c' h
        have q := A.ok i c' u1
        rw [u2] at q
        cases c' with
        | no => trivial
        | fz d => exact q
        | ow d => exact q
        | al j =>
          rcases ha with ha | ha
          · obtain ⟨q1, q2, q3⟩ := q
            have jk : j ≠ k := fun z => by omega
            refine ⟨q1, ?_, q3⟩
            rw [gv j jk, q2, List.getElem?_append_left (by simp; omega)]
          · exact absurd rfl (ha i _ h j)
        | lk o u => exact q
    inj := fun i j d e p h1 h2 h3 h4 => by
      by_cases ik : i = k <;> by_cases jk : j = k
      · omega
      · subst ik
        rw [kc] at h1; rw [kv] at h3; rw [gc j jk] at h2; rw [gv j jk] at h4
        cases h1
        have h3' : v = some (.ref p) := by injection h3
        subst h3'
        obtain ⟨u1, u2⟩ := up j _ h2
        have := A.inj _ j d e p lc u1 lv (by rw [u2]; exact h4)
        have hj := (List.getElem?_eq_some_iff.mp h2).1
        omega
      · subst jk
        rw [kc] at h2; rw [kv] at h4; rw [gc i ik] at h1; rw [gv i ik] at h3
        cases h2
        have h4' : v = some (.ref p) := by injection h4
        subst h4'
        obtain ⟨u1, u2⟩ := up i _ h1
        have := A.inj i _ d e p u1 lc (by rw [u2]; exact h3) lv
        have hj := (List.getElem?_eq_some_iff.mp h1).1
        omega
      · rw [gc i ik] at h1; rw [gc j jk] at h2; rw [gv i ik] at h3; rw [gv j jk] at h4
        obtain ⟨u1, u2⟩ := up i _ h1
        obtain ⟨u3, u4⟩ := up j _ h2
        exact A.inj i j d e p u1 u3 (by rw [u2]; exact h3) (by rw [u4]; exact h4)
    io := fun n j p h1 h2 => by
      have jk : j ≠ k := fun z => hj (z ▸ List.mem_of_getElem? h1)
      rw [gv j jk]
      have q := A.io n j p h1 h2
      have := A.jl j (List.mem_of_getElem? h1)
      rw [List.getElem?_append_left (by simp; omega)] at q
      exact q }
/-- the values in hand picked anew -/
theorem At.reindex {vs' : List (Option V)} {cs' : List Cell} (A : At K b vs cs F H) (f : Nat → Nat) (hl : cs'.length = vs'.length) (hm : m ≤ vs'.length) (hf : ∀ (i : Nat) c, cs'[i]? = some c → cs[f i]? = some c ∧ vs[f i]? = vs'[i]?) (h0 : ∀ i, i < m → f i = i ∧ vs'[i]? = vs[i]?) (h1 : ∀ i, m ≤ i → m ≤ f i)
    (hi : ∀ i j, i < cs'.length → j < cs'.length → f i = f j → i = j) : At K b vs' cs' F H where
  len := hl
  ml := hm
  jl := A.jl
  ex := A.ex
  tp := A.tp
  ex0 := A.ex0
  new := A.new
  fr := A.fr
  live := A.live
  ok := fun i c h => by
    obtain ⟨q1, q2⟩ := hf i c h
    have q := A.ok (f i) c q1
    rw [q2] at q
    cases c with
    | no => trivial
    | fz d => exact q
    | ow d =>
      obtain ⟨p, e, n, o, z⟩ := q
      refine ⟨p, e, n, o, z.elim .inl fun y => .inr ⟨?_, y.2⟩⟩
      have hj := A.jl _ y.1
      by_cases hi : i < m
      · rw [← (h0 i hi).1]; exact y.1
      · have := h1 i (by omega); omega
    | al j =>
      obtain ⟨z1, z2, z3⟩ := q
      exact ⟨z1, by rw [(h0 j z1).2]; exact z2, z3⟩
    | lk o u => exact q
  inj := fun i j d e p h1 h2 h3 h4 => by
    obtain ⟨a1, a2⟩ := hf i _ h1
    obtain ⟨b1, b2⟩ := hf j _ h2
    exact hi i j (List.getElem?_eq_some_iff.mp h1).1 (List.getElem?_eq_some_iff.mp h2).1 (A.inj _ _ d e p a1 b1 (a2.trans h3) (b2.trans h4))
  io := fun k j p q1 q2 => by
    rw [(h0 j (A.jl j (List.mem_of_getElem? q1))).2]
    exact A.io k j p q1 q2
/-- values between the locals and the last one dropped -/
theorem At.dropMid {ws us : List (Option V)} {ds es : List Cell} (A : At K b (vs ++ ws ++ us) (cs ++ ds ++ es) F H) (hl : cs.length = vs.length) (hd : ds.length = ws.length) (hm : m ≤ vs.length) : At K b (vs ++ us) (cs ++ es) F H := by
  have hlen := A.len
  have he : es.length = us.length := by simp at hlen; omega
  refine A.reindex (fun i => if i < vs.length then i else i + ws.length) (by simp; omega) (by simp; omega) (fun i c h => ?_) (fun i hi => ?_) (fun i hi => ?_) fun i j hi hj e => ?_
  · by_cases hi : i < vs.length
    · rw [if_pos hi]
      rw [List.getElem?_append_left (by omega)] at h
      exact ⟨by rw [List.append_assoc, List.getElem?_append_left (by omega)]; exact h, by rw [List.append_assoc, List.getElem?_append_left hi, List.getElem?_append_left hi]⟩
    · rw [if_neg hi]
      rw [List.getElem?_append_right (by omega)] at h
      refine ⟨?_, ?_⟩
      · rw [List.getElem?_append_right (by simp; omega)]
        rw [show i + ws.length - (cs ++ ds).length = i - cs.length by simp; omega]
        exact h
      · rw [List.getElem?_append_right (by simp; omega), List.getElem?_append_right (by omega)]
        rw [show i + ws.length - (vs ++ ws).length = i - vs.length by simp; omega]
  · have hv : i < vs.length := by omega
    exact ⟨if_pos hv, by rw [List.append_assoc, List.getElem?_append_left hv, List.getElem?_append_left hv]⟩
  · show m ≤ if i < vs.length then i else i + ws.length
    split <;> omega
  · have e' : (if i < vs.length then i else i + ws.length) = (if j < vs.length then j else j + ws.length) := e
    split at e' <;> split at e' <;> omega
end
end DL


set_option Elab.async false
set_option linter.all false
set_option maxRecDepth 100000
set_option maxHeartbeats 1000000
/-! THE DATA LAYER, 3: the judgements, names, constants, operators, tests, displays. -/
namespace DL
open PySem PySem.Spec PyProof.Rows L2

/-! ### the weakest readings -/
section
variable {X : Cx}
def wE (X : Cx) (e : Expr) : TE := fun σ H Q => ∀ (pins : List (Addr × Obj)) (s : Shared), Inv X pins σ H s → wpAny (model X.prog X.w) X.A (eval e X.env) (EP X pins σ Q) X.xe s
def wT (X : Cx) (e : Expr) : TT := fun σ H Q => ∀ (pins : List (Addr × Obj)) (s : Shared), Inv X pins σ H s → wpAny (model X.prog X.w) X.A (isTrue e X.env (eval e X.env)) (TP X pins σ Q) X.xe s
def wA (X : Cx) (es : List Expr) : TA := fun σ H Q => ∀ (pos : Pos) (pins : List (Addr × Obj)) (s : Shared), Inv X pins σ H s → wpAny (model X.prog X.w) X.A (spliced (backTo pos (starEach es X.env))) (AP X pins σ Q) X.xe s
def wS (X : Cx) (st : Stmt) : TS := fun D σ H => ∀ (pins : List (Addr × Obj)) (s : Shared), Inv X pins σ H s → wpAny (model X.prog X.w) X.A (exec st X.env) (SP X pins D) X.xe s
def wSs (X : Cx) (st : List Stmt) : TS := fun D σ H => ∀ (pins : List (Addr × Obj)) (s : Shared), Inv X pins σ H s → wpAny (model X.prog X.w) X.A (execs st X.env) (SP X pins D) X.xe s
theorem pe_w {e : Expr} : PE X e (wE X e) := ⟨fun pins s _ _ _ I h => h pins s I⟩
theorem pt_w {e : Expr} : PT X e (wT X e) := ⟨fun pins s _ _ _ I h => h pins s I⟩
theorem pa_w {es : List Expr} : PA X es (wA X es) := ⟨fun pos pins s _ _ _ I h => h pos pins s I⟩
theorem ps_w {st : Stmt} : PS X st (wS X st) := ⟨fun pins s _ _ _ I h => h pins s I⟩
theorem pss_w {st : List Stmt} : PSs X st (wSs X st) := ⟨fun pins s _ _ _ I h => h pins s I⟩
theorem w_pe {e : Expr} {t : TE} {σ : L2.St} {H : Hp} {Q : VK} (h : PE X e t) (q : t σ H Q) : wE X e σ H Q := fun pins s I => h.run pins s σ H Q I q
theorem w_pt {e : Expr} {t : TT} {σ : L2.St} {H : Hp} {Q : Bool → Hp → Prop} (h : PT X e t) (q : t σ H Q) : wT X e σ H Q := fun pins s I => h.run pins s σ H Q I q
theorem w_pa {es : List Expr} {t : TA} {σ : L2.St} {H : Hp} {Q : List V → Hp → Prop} (h : PA X es t) (q : t σ H Q) : wA X es σ H Q := fun pos pins s I => h.run pos pins s σ H Q I q
theorem w_ps {st : Stmt} {t : TS} {σ : L2.St} {H : Hp} {D : Ends} (h : PS X st t) (q : t D σ H) : wS X st D σ H := fun pins s I => h.run pins s σ H D I q
theorem w_pss {st : List Stmt} {t : TS} {σ : L2.St} {H : Hp} {D : Ends} (h : PSs X st t) (q : t D σ H) : wSs X st D σ H := fun pins s I => h.run pins s σ H D I q
theorem wE_mono {e : Expr} {σ : L2.St} {H : Hp} {Q Q' : VK} (h : wE X e σ H Q) (f : ∀ v H', Q v H' → Q' v H') : wE X e σ H Q' := fun pins s I => thn (h pins s I) fun u s' ⟨v, H', I', r, q⟩ => ⟨v, H', I', r, f v H' q⟩
theorem wT_mono {e : Expr} {σ : L2.St} {H : Hp} {Q Q' : Bool → Hp → Prop} (h : wT X e σ H Q) (f : ∀ v H', Q v H' → Q' v H') : wT X e σ H Q' := fun pins s I => thn (h pins s I) fun u s' ⟨H', I', q⟩ => ⟨H', I', f u H' q⟩
theorem wA_mono {es : List Expr} {σ : L2.St} {H : Hp} {Q Q' : List V → Hp → Prop} (h : wA X es σ H Q) (f : ∀ v H', Q v H' → Q' v H') : wA X es σ H Q' := fun pos pins s I => thn (h pos pins s I) fun u s' ⟨v, H', I', r, q⟩ => ⟨v, H', I', r, f v H' q⟩
end

/-! ### the judgements -/
/-- the locals' cells fit the locals -/
structure Lc (m : Nat) (env : List Cell) (σ : List (Option V)) : Prop where
  len : env.length = σ.length
  ml : m ≤ σ.length
  na : NoAl env

section
variable (X : Cx) {js : List Nat} {m : Nat} (b : Base js m)
def DE (e : Expr) (env : List Cell) (Q : Cell → List Cell → Prop) : Prop :=
  ∀ (σ tv : List (Option V)) (te : List Cell) (F H : Hp), Lc m env σ → At X.K b (σ ++ tv) (env ++ te) F H →
    wE X e σ H fun v H' => ∃ c env' F', Lc m env' σ ∧ At X.K b (σ ++ tv ++ [some v]) (env' ++ te ++ [c]) F' H' ∧ Q c env'
def DT (e : Expr) (env : List Cell) (Q : Bool → List Cell → Prop) : Prop :=
  ∀ (σ tv : List (Option V)) (te : List Cell) (F H : Hp), Lc m env σ → At X.K b (σ ++ tv) (env ++ te) F H →
    wT X e σ H fun t H' => ∃ env' F', Lc m env' σ ∧ At X.K b (σ ++ tv) (env' ++ te) F' H' ∧ Q t env'
def DA (es : List Expr) (env : List Cell) (Q : List Cell → List Cell → Prop) : Prop :=
  ∀ (σ tv : List (Option V)) (te : List Cell) (F H : Hp), Lc m env σ → At X.K b (σ ++ tv) (env ++ te) F H →
    wA X es σ H fun vs H' => ∃ cs env' F', Lc m env' σ ∧ cs.length = vs.length ∧ At X.K b (σ ++ tv ++ vs.map some) (env' ++ te ++ cs) F' H' ∧ Q cs env'
/-- what is wanted behind a statement: next, returned, broken, continued -/
structure DEnds where
  nx : List Cell → Prop
  rt : Cell → List Cell → Prop
  bk : List Cell → Prop := fun _ => False
  ct : List Cell → Prop := fun _ => False
def ends (tv : List (Option V)) (te : List Cell) (E : DEnds) : Ends where
  nx := fun σ H => ∃ env F, Lc m env σ ∧ At X.K b (σ ++ tv) (env ++ te) F H ∧ E.nx env
  rt := fun v H => ∃ c env σ F, Lc m env σ ∧ At X.K b (σ ++ tv ++ [some v]) (env ++ te ++ [c]) F H ∧ E.rt c env
  bk := fun σ H => ∃ env F, Lc m env σ ∧ At X.K b (σ ++ tv) (env ++ te) F H ∧ E.bk env
  ct := fun σ H => ∃ env F, Lc m env σ ∧ At X.K b (σ ++ tv) (env ++ te) F H ∧ E.ct env
def DSs (ss : List Stmt) (env : List Cell) (E : DEnds) : Prop :=
  ∀ (σ tv : List (Option V)) (te : List Cell) (F H : Hp), Lc m env σ → NoAl te → At X.K b (σ ++ tv) (env ++ te) F H → wSs X ss (ends X b tv te E) σ H
def DS (s : Stmt) (env : List Cell) (E : DEnds) : Prop :=
  ∀ (σ tv : List (Option V)) (te : List Cell) (F H : Hp), Lc m env σ → NoAl te → At X.K b (σ ++ tv) (env ++ te) F H → wS X s (ends X b tv te E) σ H
end

section
variable {X : Cx} {js : List Nat} {m : Nat} {b : Base js m} {env : List Cell} {Q : Cell → List Cell → Prop} {pos : Pos}
theorem DE.mono {e : Expr} {Q' : Cell → List Cell → Prop} (h : DE X b e env Q) (f : ∀ c env', Q c env' → Q' c env') : DE X b e env Q' :=
  fun σ tv te F H l A => wE_mono (h σ tv te F H l A) fun v H' ⟨c, env', F', l', A', q⟩ => ⟨c, env', F', l', A', f c env' q⟩
theorem DT.mono {e : Expr} {Q Q' : Bool → List Cell → Prop} (h : DT X b e env Q) (f : ∀ c env', Q c env' → Q' c env') : DT X b e env Q' :=
  fun σ tv te F H l A => wT_mono (h σ tv te F H l A) fun v H' ⟨env', F', l', A', q⟩ => ⟨env', F', l', A', f v env' q⟩
theorem DEnds.le {tv : List (Option V)} {te : List Cell} {E E' : DEnds} (h1 : ∀ e, E.nx e → E'.nx e) (h2 : ∀ c e, E.rt c e → E'.rt c e) (h3 : ∀ e, E.bk e → E'.bk e) (h4 : ∀ e, E.ct e → E'.ct e) {pins : List (Addr × Obj)} {f : Flow} {s : Shared} (q : SP X pins (ends X b tv te E) f s) : SP X pins (ends X b tv te E') f s := by
  cases f with
  | next => obtain ⟨σ, H, I, env, F, l, A, q⟩ := q; exact ⟨σ, H, I, env, F, l, A, h1 _ q⟩
  | brk => obtain ⟨σ, H, I, env, F, l, A, q⟩ := q; exact ⟨σ, H, I, env, F, l, A, h3 _ q⟩
  | cont => obtain ⟨σ, H, I, env, F, l, A, q⟩ := q; exact ⟨σ, H, I, env, F, l, A, h4 _ q⟩
  | ret u => obtain ⟨v, σ, H, I, r, c, env, σ', F, l, A, q⟩ := q; exact ⟨v, σ, H, I, r, c, env, σ', F, l, A, h2 _ _ q⟩
theorem DSs.mono {ss : List Stmt} {E E' : DEnds} (h : DSs X b ss env E) (h1 : ∀ e, E.nx e → E'.nx e) (h2 : ∀ c e, E.rt c e → E'.rt c e) (h3 : ∀ e, E.bk e → E'.bk e) (h4 : ∀ e, E.ct e → E'.ct e) : DSs X b ss env E' :=
  fun σ tv te F H l na A pins s I => thn (h σ tv te F H l na A pins s I) fun f s' q => DEnds.le h1 h2 h3 h4 q

/-- the last of the values that are in hand -/
theorem last_ok {vs : List (Option V)} {cs : List Cell} {F H : Hp} {v : V} {c : Cell} (A : At X.K b (vs ++ [some v]) (cs ++ [c]) F H) : OkAt X.K b (vs ++ [some v]) F H vs.length c (some (some v)) := by
  have hl : cs.length = vs.length := by have := A.len; simpa using this
  have q := A.ok vs.length c (app_last hl.symm)
  rw [app_last rfl] at q
  exact q
theorem last_fz {vs : List (Option V)} {cs : List Cell} {F H : Hp} {v : V} {d : D} (A : At X.K b (vs ++ [some v]) (cs ++ [.fz d]) F H) : Rp X.K F v d := by
  obtain ⟨x, e, r⟩ := last_ok A
  injection e with e; injection e with e; subst e
  exact r
theorem Lc.le {m : Nat} {env : List Cell} {σ : List (Option V)} (l : Lc m env σ) {tv : List (Option V)} : m ≤ (σ ++ tv).length := by have := l.ml; simp; omega
/-- data that is in hand, of a simple kind -/
theorem Rp.int_inv {K : PySem.W.Frag} {F : Hp} {v : V} {i : Int} (r : Rp K F v (.int i)) : v = .int i := by cases r; rfl
theorem Rp.str_inv {K : PySem.W.Frag} {F : Hp} {v : V} {i : Str} (r : Rp K F v (.str i)) : v = .str i := by cases r; rfl
theorem Rp.bl_inv {K : PySem.W.Frag} {F : Hp} {v : V} {i : Bool} (r : Rp K F v (.bl i)) : v = .bl i := by cases r; rfl
theorem Rp.non_inv {K : PySem.W.Frag} {F : Hp} {v : V} (r : Rp K F v .non) : v = .non := by cases r; rfl

/-! ### constants and names -/
theorem de_c {e : Expr} {v : V} {d : D} (h : PE X e (tC v)) (r : ∀ F, Rp X.K F v d) (q : Q (.fz d) env) : DE X b e env Q :=
  fun σ tv te F H l A => w_pe h ⟨.fz d, env, F, l, A.push_fz (r F), q⟩
theorem de_int {i j pos} (q : Q (.fz (.int i)) env) : DE X b (.Constant (.int i) j pos) env Q := de_c pe_int (fun _ => .int i) q
theorem de_str {x j pos} (q : Q (.fz (.str x)) env) : DE X b (.Constant (.str x) j pos) env Q := de_c pe_str (fun _ => .str x) q
theorem de_bl {x j pos} (q : Q (.fz (.bl x)) env) : DE X b (.Constant (.bool x) j pos) env Q := de_c pe_bl (fun _ => .bl x) q
theorem de_non {j pos} (q : Q (.fz .non) env) : DE X b (.Constant .none j pos) env Q := de_c pe_non (fun _ => .non) q
theorem de_gint {x : Str} {i : Int} {t : Tok} (hg : Gl X x) (hm : X.mg x = some (.int i t)) (q : Q (.fz (.int i)) env) (hd : (x == ("__debug__" : Str)) = false := by decide) : DE X b (.Name x pos) env Q := de_c (pe_glob (v := .int i) hg hm ⟨t, rfl⟩ hd) (fun _ => .int i) q
theorem de_gstr {x z : Str} {t : Tok} (hg : Gl X x) (hm : X.mg x = some (.str z t)) (q : Q (.fz (.str z)) env) (hd : (x == ("__debug__" : Str)) = false := by decide) : DE X b (.Name x pos) env Q := de_c (pe_glob (v := .str z) hg hm ⟨t, rfl⟩ hd) (fun _ => .str z) q
theorem de_var {i : Nat} {x : Str} {d : D} (hN : X.N[i]? = some x) (hv : Vis X.env.scope x) (he : env[i]? = some (.fz d)) (q : Q (.fz d) env) (hd : (x == ("__debug__" : Str)) = false := by decide) (hcd : (x == ("__classdict__" : Str)) = false := by decide) : DE X b (.Name x pos) env Q := by
  intro σ tv te F H l A
  have hi : i < env.length := (List.getElem?_eq_some_iff.mp he).1
  have hs : i < σ.length := by rw [← l.len]; exact hi
  obtain ⟨v, e, r⟩ := A.ok i _ (by rw [List.getElem?_append_left hi]; exact he)
  rw [List.getElem?_append_left hs] at e
  exact w_pe (pe_var hN hv hd hcd) ⟨v, e, .fz d, env, F, l, A.push_fz r, q⟩
theorem de_var_ow {i : Nat} {x : Str} {d : D} (him : i < m) (hN : X.N[i]? = some x) (hv : Vis X.env.scope x) (he : env[i]? = some (.ow d)) (q : Q (.al i) env) (hd : (x == ("__debug__" : Str)) = false := by decide) (hcd : (x == ("__classdict__" : Str)) = false := by decide) : DE X b (.Name x pos) env Q := by
  intro σ tv te F H l A
  have hi : i < env.length := (List.getElem?_eq_some_iff.mp he).1
  have hs : i < σ.length := by rw [← l.len]; exact hi
  obtain ⟨p, e, _⟩ := A.ok i _ (by rw [List.getElem?_append_left hi]; exact he)
  have e' := e
  rw [List.getElem?_append_left hs] at e
  exact w_pe (pe_var hN hv hd hcd) ⟨_, e, .al i, env, F, l, A.push_al him e', q⟩

/-! ### views: what a cell in hand holds -/
/-- the data that a cell in hand shows, beside the locals' cells -/
def notT : D → Bool
  | .tup _ => false
  | .raw _ => false
  | _ => true
inductive Vw (env : List Cell) : Cell → D → Prop
  | fz (d : D) : Vw env (.fz d) d
  | ow (d : D) (h : notT d = true := by rfl) : Vw env (.ow d) d
  | al {i : Nat} {d : D} (he : env[i]? = some (.ow d)) (h : notT d = true := by rfl) : Vw env (.al i) d
  | alf {i : Nat} {d : D} : env[i]? = some (.fz d) → Vw env (.al i) d
/-- the value shows the data in the heap as it stands -/
inductive Sees (K : PySem.W.Frag) (F H : Hp) : V → D → Prop
  | fz {v : V} {d : D} : Rp K F v d → Sees K F H v d
  | lst {p : Addr} {xs : List V} {ds : List D} : H p = some (.lst xs) → RpL K F xs ds → Sees K F H (.ref p) (.lst ds)
  | dk {p : Addr} {xs : List (Key × V)} {ds : List (Key × D)} : H p = some (.dK xs) → RpK K F xs ds → Sees K F H (.ref p) (.dk ds)
  | dt {p : Addr} {xs : List (List Key × V)} {ds : List (List Key × D)} : H p = some (.dT xs) → RpT K F xs ds → Sees K F H (.ref p) (.dt ds)
theorem OwnAt.sees {K : PySem.W.Frag} {F H : Hp} {p : Addr} {d : D} : OwnAt K F H p d → notT d = true → Sees K F H (.ref p) d
  | .lst h r, _ => .lst h r
  | .dk h r, _ => .dk h r
  | .dt h r, _ => .dt h r
  | .tup _ _, z => nomatch z
  | .raw _ _, z => nomatch z
/-- any value in hand (index k behind the locals) -/
theorem sees_at {σ tv : List (Option V)} {te : List Cell} {F H : Hp} {k : Nat} {v : V} {c : Cell} {d : D} (l : Lc m env σ) (A : At X.K b (σ ++ tv) (env ++ te) F H) (hc : (env ++ te)[k]? = some c) (hv : (σ ++ tv)[k]? = some (some v)) (w : Vw env c d) : Sees X.K F H v d := by
  have q := A.ok k c hc
  rw [hv] at q
  cases w with
  | fz =>
    obtain ⟨x, e, r⟩ := q
    injection e with e; injection e with e; subst e
    exact .fz r
  | ow _ hnt =>
    obtain ⟨p, e, _, o, _⟩ := q
    injection e with e; injection e with e; subst e
    exact o.sees hnt
  | @al i _ h hnt =>
    obtain ⟨h1, h2, _⟩ := q
    have hi : i < env.length := (List.getElem?_eq_some_iff.mp h).1
    obtain ⟨p, e, _, o, _⟩ := A.ok i _ (by rw [List.getElem?_append_left hi]; exact h)
    rw [← h2] at e
    injection e with e; injection e with e; subst e
    exact o.sees hnt
  | @alf i _ h =>
    obtain ⟨h1, h2, _⟩ := q
    have hi : i < env.length := (List.getElem?_eq_some_iff.mp h).1
    obtain ⟨x, e, r⟩ := A.ok i _ (by rw [List.getElem?_append_left hi]; exact h)
    rw [← h2] at e
    injection e with e; injection e with e; subst e
    exact .fz r
theorem sees_last {σ tv : List (Option V)} {te : List Cell} {F H : Hp} {v : V} {c : Cell} {d : D} (l : Lc m env σ) (A : At X.K b (σ ++ tv ++ [some v]) (env ++ te ++ [c]) F H) (w : Vw env c d) : Sees X.K F H v d := by
  rw [List.append_assoc, List.append_assoc] at A
  have hl : (env ++ (te ++ [c])).length = (σ ++ (tv ++ [some v])).length := A.len
  refine sees_at (k := (σ ++ tv).length) l A ?_ ?_ w
  · rw [← List.append_assoc]
    refine app_last ?_
    simp at hl ⊢
    omega
  · rw [← List.append_assoc]
    exact app_last rfl
theorem Sees.rp_int {K : PySem.W.Frag} {F H : Hp} {v : V} {i : Int} (s : Sees K F H v (.int i)) : v = .int i := by cases s with | fz r => exact r.int_inv
theorem Sees.rp_str {K : PySem.W.Frag} {F H : Hp} {v : V} {i : Str} (s : Sees K F H v (.str i)) : v = .str i := by cases s with | fz r => exact r.str_inv
theorem Sees.rp_bl {K : PySem.W.Frag} {F H : Hp} {v : V} {i : Bool} (s : Sees K F H v (.bl i)) : v = .bl i := by cases s with | fz r => exact r.bl_inv
theorem Sees.list {K : PySem.W.Frag} {F H : Hp} {v : V} {ds : List D} (e : ExR F H) (s : Sees K F H v (.lst ds)) : ∃ a xs, v = .ref a ∧ SqL K H a xs ∧ RpL K F xs ds := by
  cases s with
  | fz r => cases r with | lst h q => exact ⟨_, _, rfl, e.sqL h, q⟩
  | lst h q => exact ⟨_, _, rfl, .inl (.inl h), q⟩
theorem Sees.tuple {K : PySem.W.Frag} {F H : Hp} {v : V} {ds : List D} (e : ExR F H) (s : Sees K F H v (.tup ds)) : ∃ a xs, v = .ref a ∧ SqT K H a xs ∧ RpL K F xs ds := by
  cases s with
  | fz r => cases r with | tup h q => exact ⟨_, _, rfl, e.sqT h, q⟩
theorem Sees.dictK {K : PySem.W.Frag} {F H : Hp} {v : V} {ds : List (Key × D)} (e : ExR F H) (s : Sees K F H v (.dk ds)) : ∃ a xs, v = .ref a ∧ Rd H a (.dK xs) ∧ RpK K F xs ds := by
  cases s with
  | fz r => cases r with | dk h q => exact ⟨_, _, rfl, e _ _ h, q⟩
  | dk h q => exact ⟨_, _, rfl, .inl h, q⟩
theorem Sees.dictT {K : PySem.W.Frag} {F H : Hp} {v : V} {ds : List (List Key × D)} (e : ExR F H) (s : Sees K F H v (.dt ds)) : ∃ a xs, v = .ref a ∧ Rd H a (.dT xs) ∧ RpT K F xs ds := by
  cases s with
  | fz r => cases r with | dt h q => exact ⟨_, _, rfl, e _ _ h, q⟩
  | dt h q => exact ⟨_, _, rfl, .inl h, q⟩

/-! ### one, two operands: the values in hand, then what is made of them -/
/-- pop k values behind the locals -/
theorem pop1 {σ tv : List (Option V)} {te : List Cell} {F H : Hp} {v : Option V} {c : Cell} (l : Lc m env σ) (A : At X.K b (σ ++ tv ++ [v]) (env ++ te ++ [c]) F H) : At X.K b (σ ++ tv) (env ++ te) F H := A.pop l.le
theorem pop2 {σ tv : List (Option V)} {te : List Cell} {F H : Hp} {v w : Option V} {c c' : Cell} (l : Lc m env σ) (A : At X.K b (σ ++ tv ++ [v] ++ [w]) (env ++ te ++ [c] ++ [c']) F H) : At X.K b (σ ++ tv) (env ++ te) F H :=
  (A.pop (by have := l.ml; simp; omega)).pop l.le
/-- all values in hand dropped -/
theorem popN {σ tv : List (Option V)} {te : List Cell} {F H : Hp} (l : Lc m env σ) : ∀ (n : Nat) {vs : List V} {cs : List Cell}, vs.length = n → cs.length = vs.length → At X.K b (σ ++ tv ++ vs.map some) (env ++ te ++ cs) F H → At X.K b (σ ++ tv) (env ++ te) F H
  | 0, vs, cs, hn, hl, A => by
    have e1 : vs = [] := List.length_eq_zero_iff.mp hn
    subst e1
    have e2 : cs = [] := List.length_eq_zero_iff.mp hl
    subst e2
    simpa using A
  | n + 1, vs, cs, hn, hl, A => by
    rcases List.eq_nil_or_concat vs with e | ⟨vs', v, e⟩
    · subst e; simp at hn
    · rcases List.eq_nil_or_concat cs with e' | ⟨cs', c, e'⟩
      · subst e'; subst e; simp at hl
      · subst e; subst e'
        rw [List.concat_eq_append] at hl hn A
        rw [List.concat_eq_append] at A
        have hl' : cs'.length = vs'.length := by simpa using hl
        rw [List.map_append, ← List.append_assoc, ← List.append_assoc] at A
        exact popN l n (by simpa using hn) hl' (At.pop A (by have := l.ml; simp; omega))
def Op1 (X : Cx) {js : List Nat} {m : Nat} (b : Base js m) (r : V → Hp → VK → Prop) (c1 : Cell) (env : List Cell) (Q : Cell → List Cell → Prop) : Prop :=
  ∀ (σ tv : List (Option V)) (te : List Cell) (F H : Hp) (v1 : V), Lc m env σ → At X.K b (σ ++ tv ++ [some v1]) (env ++ te ++ [c1]) F H →
    ∀ Q' : VK, (∀ v H' c env' F', Lc m env' σ → At X.K b (σ ++ tv ++ [some v]) (env' ++ te ++ [c]) F' H' → Q c env' → Q' v H') → r v1 H Q'
def Op2 (X : Cx) {js : List Nat} {m : Nat} (b : Base js m) (r : R2) (c1 c2 : Cell) (env : List Cell) (Q : Cell → List Cell → Prop) : Prop :=
  ∀ (σ tv : List (Option V)) (te : List Cell) (F H : Hp) (v1 v2 : V), Lc m env σ → At X.K b (σ ++ tv ++ [some v1] ++ [some v2]) (env ++ te ++ [c1] ++ [c2]) F H →
    ∀ Q' : VK, (∀ v H' c env' F', Lc m env' σ → At X.K b (σ ++ tv ++ [some v]) (env' ++ te ++ [c]) F' H' → Q c env' → Q' v H') → r v1 v2 H Q'
def OpA (X : Cx) {js : List Nat} {m : Nat} (b : Base js m) (r : List V → Hp → VK → Prop) (cs : List Cell) (env : List Cell) (Q : Cell → List Cell → Prop) : Prop :=
  ∀ (σ tv : List (Option V)) (te : List Cell) (F H : Hp) (vs : List V), Lc m env σ → cs.length = vs.length → At X.K b (σ ++ tv ++ vs.map some) (env ++ te ++ cs) F H →
    ∀ Q' : VK, (∀ v H' c env' F', Lc m env' σ → At X.K b (σ ++ tv ++ [some v]) (env' ++ te ++ [c]) F' H' → Q c env' → Q' v H') → r vs H Q'
/-- two operands -/
theorem de_two {a c f : Expr} {r : R2} (hp : PE X f (tOp r (wE X a) (wE X c))) (h : DE X b a env fun c1 env1 => DE X b c env1 fun c2 env2 => Op2 X b r c1 c2 env2 Q) : DE X b f env Q := by
  intro σ tv te F H l A
  refine w_pe hp (wE_mono (h σ tv te F H l A) fun v1 H1 ⟨c1, env1, F1, l1, A1, h1⟩ => ?_)
  have A1' : At X.K b (σ ++ (tv ++ [some v1])) (env1 ++ (te ++ [c1])) F1 H1 := by rw [← List.append_assoc, ← List.append_assoc]; exact A1
  refine wE_mono (h1 σ (tv ++ [some v1]) (te ++ [c1]) F1 H1 l1 A1') fun v2 H2 ⟨c2, env2, F2, l2, A2, h2⟩ => ?_
  have A2' : At X.K b (σ ++ tv ++ [some v1] ++ [some v2]) (env2 ++ te ++ [c1] ++ [c2]) F2 H2 := by rw [List.append_assoc σ tv, List.append_assoc env2 te]; exact A2
  exact h2 σ tv te F2 H2 v1 v2 l2 A2' _ fun v H' c env' F' l' A' q => ⟨c, env', F', l', A', q⟩
theorem de_one {a f : Expr} {r : V → Hp → VK → Prop} (hp : PE X f (tUn r (wE X a))) (h : DE X b a env fun c1 env1 => Op1 X b r c1 env1 Q) : DE X b f env Q := by
  intro σ tv te F H l A
  refine w_pe hp (wE_mono (h σ tv te F H l A) fun v1 H1 ⟨c1, env1, F1, l1, A1, h1⟩ => ?_)
  exact h1 σ tv te F1 H1 v1 l1 A1 _ fun v H' c env' F' l' A' q => ⟨c, env', F', l', A', q⟩
theorem de_op {op : Operator} {r : R2} {a c : Expr} (ho : OpR X (binaryOp op) r) (h : DE X b a env fun c1 env1 => DE X b c env1 fun c2 env2 => Op2 X b r c1 c2 env2 Q) : DE X b (.BinOp a op c pos) env Q := de_two (pe_op ho pe_w pe_w) h
theorem de_cmp {op : CmpOp} {r : R2} {a c : Expr} (ho : OpR X (compareOp op) r) (hm : behindInMarks op c = false) (h : DE X b a env fun c1 env1 => DE X b c env1 fun c2 env2 => Op2 X b r c1 c2 env2 Q) : DE X b (.Compare a [op] [c] pos) env Q := de_two (pe_cmpR ho pe_w pe_w hm) h
theorem de_unop {op : UnaryOp} {r : V → Hp → VK → Prop} {a : Expr} (ho : UnR X (unaryOp op) r) (h : DE X b a env fun c1 env1 => Op1 X b r c1 env1 Q) : DE X b (.UnaryOp op a pos) env Q := de_one (pe_un ho pe_w) h
theorem sees_2 {σ tv : List (Option V)} {te : List Cell} {F H : Hp} {v1 v2 : V} {c1 c2 : Cell} {d1 d2 : D} (l : Lc m env σ) (A : At X.K b (σ ++ tv ++ [some v1] ++ [some v2]) (env ++ te ++ [c1] ++ [c2]) F H) (w1 : Vw env c1 d1) (w2 : Vw env c2 d2) : Sees X.K F H v1 d1 ∧ Sees X.K F H v2 d2 := by
  refine ⟨sees_last l (A.pop (by have := l.ml; simp; omega)) w1, ?_⟩
  rw [List.append_assoc σ tv, List.append_assoc env te] at A
  exact sees_last l A w2
theorem Op1.mk {r : V → Hp → VK → Prop} {c1 : Cell} {d1 d : D} (w1 : Vw env c1 d1) (h : ∀ F H v1, ExR F H → Sees X.K F H v1 d1 → ∀ Q' : VK, (∀ v, Rp X.K F v d → Q' v H) → r v1 H Q') (q : Q (.fz d) env) : Op1 X b r c1 env Q := by
  intro σ tv te F H v1 l A Q' k
  exact h F H v1 A.ex (sees_last l A w1) _ fun v rv => k v H _ env F l ((pop1 l A).push_fz rv) q
theorem Op2.mk {r : R2} {c1 c2 : Cell} {d1 d2 d : D} (w1 : Vw env c1 d1) (w2 : Vw env c2 d2) (h : ∀ F H v1 v2, ExR F H → Sees X.K F H v1 d1 → Sees X.K F H v2 d2 → ∀ Q' : VK, (∀ v, Rp X.K F v d → Q' v H) → r v1 v2 H Q') (q : Q (.fz d) env) : Op2 X b r c1 c2 env Q := by
  intro σ tv te F H v1 v2 l A Q' k
  obtain ⟨s1, s2⟩ := sees_2 l A w1 w2
  exact h F H v1 v2 A.ex s1 s2 _ fun v rv => k v H _ env F l ((pop2 l A).push_fz rv) q
/-- .. a new list, a new tuple -/
theorem Op1.mkL {r : V → Hp → VK → Prop} {c1 : Cell} {d1 : D} {ds : List D} (w1 : Vw env c1 d1) (h : ∀ F H v1, ExR F H → Sees X.K F H v1 d1 → ∀ Q' : VK, (∀ p xs, H p = none → RpL X.K F xs ds → Q' (.ref p) (upd H p (.lst xs))) → r v1 H Q') (q : Q (.ow (.lst ds)) env) : Op1 X b r c1 env Q := by
  intro σ tv te F H v1 l A Q' k
  exact h F H v1 A.ex (sees_last l A w1) _ fun p xs hp rv => k _ _ _ env F l ((pop1 l A).alloc_ow hp (.lst upd_same rv)) q
theorem Op2.mkL {r : R2} {c1 c2 : Cell} {d1 d2 : D} {ds : List D} (w1 : Vw env c1 d1) (w2 : Vw env c2 d2) (h : ∀ F H v1 v2, ExR F H → Sees X.K F H v1 d1 → Sees X.K F H v2 d2 → ∀ Q' : VK, (∀ p xs, H p = none → RpL X.K F xs ds → Q' (.ref p) (upd H p (.lst xs))) → r v1 v2 H Q') (q : Q (.ow (.lst ds)) env) : Op2 X b r c1 c2 env Q := by
  intro σ tv te F H v1 v2 l A Q' k
  obtain ⟨s1, s2⟩ := sees_2 l A w1 w2
  exact h F H v1 v2 A.ex s1 s2 _ fun p xs hp rv => k _ _ _ env F l ((pop2 l A).alloc_ow hp (.lst upd_same rv)) q
theorem rp_tup {K : PySem.W.Frag} {F : Hp} {p : Addr} {xs : List V} {ds : List D} (n : F p = none) (r : RpL K F xs ds) : Rp K (upd F p (.tup xs)) (.ref p) (.tup ds) := .tup (.inl (.inl upd_same)) (r.mono (ExR.new n))
theorem Op2.mkT {r : R2} {c1 c2 : Cell} {d1 d2 : D} {ds : List D} (w1 : Vw env c1 d1) (w2 : Vw env c2 d2) (h : ∀ F H v1 v2, ExR F H → Sees X.K F H v1 d1 → Sees X.K F H v2 d2 → ∀ Q' : VK, (∀ p xs, H p = none → RpL X.K F xs ds → Q' (.ref p) (upd H p (.tup xs))) → (∀ v, Rp X.K F v (.tup ds) → Q' v H) → r v1 v2 H Q') (q : Q (.fz (.tup ds)) env) : Op2 X b r c1 c2 env Q := by
  intro σ tv te F H v1 v2 l A Q' k
  obtain ⟨s1, s2⟩ := sees_2 l A w1 w2
  exact h F H v1 v2 A.ex s1 s2 _ (fun p xs hp rv => k _ _ _ env _ l ((pop2 l A).alloc_fz hp (rp_tup ((pop2 l A).f_none hp) rv)) q) fun v rv => k v H _ env F l ((pop2 l A).push_fz rv) q

/-! ### ints -/
theorem op_ii {C : Int → Int → Prop} {g : Int → Int → Int} {i j : Int} {c1 c2 : Cell} (w1 : Vw env c1 (.int i)) (w2 : Vw env c2 (.int j)) (hC : C i j) (q : Q (.fz (.int (g i j))) env) : Op2 X b (rI C fun i j => .int (g i j)) c1 c2 env Q :=
  Op2.mk w1 w2 (fun F H v1 v2 _ s1 s2 Q' k => ⟨i, j, s1.rp_int, s2.rp_int, hC, k _ (.int _)⟩) q
theorem op_ii0 {g : Int → Int → Int} {i j : Int} {c1 c2 : Cell} (w1 : Vw env c1 (.int i)) (w2 : Vw env c2 (.int j)) (q : Q (.fz (.int (g i j))) env) : Op2 X b (rI0 fun i j => .int (g i j)) c1 c2 env Q :=
  Op2.mk w1 w2 (fun F H v1 v2 _ s1 s2 Q' k => ⟨i, j, s1.rp_int, s2.rp_int, k _ (.int _)⟩) q
theorem op_ib0 {g : Int → Int → Bool} {i j : Int} {c1 c2 : Cell} (w1 : Vw env c1 (.int i)) (w2 : Vw env c2 (.int j)) (q : Q (.fz (.bl (g i j))) env) : Op2 X b (rI0 fun i j => .bl (g i j)) c1 c2 env Q :=
  Op2.mk w1 w2 (fun F H v1 v2 _ s1 s2 Q' k => ⟨i, j, s1.rp_int, s2.rp_int, k _ (.bl _)⟩) q
theorem dec_V_int {i j : Int} : decide (V.int i = V.int j) = decide (i = j) := by by_cases h : i = j <;> simp [h]
theorem dec_V_str {i j : Str} : decide (V.str i = V.str j) = decide (i = j) := by by_cases h : i = j <;> simp [h]
theorem dec_V_bl {i j : Bool} : decide (V.bl i = V.bl j) = decide (i = j) := by by_cases h : i = j <;> simp [h]
theorem op_eqI {i j : Int} {c1 c2 : Cell} (w1 : Vw env c1 (.int i)) (w2 : Vw env c2 (.int j)) (q : Q (.fz (.bl (decide (i = j)))) env) : Op2 X b rEq c1 c2 env Q :=
  Op2.mk w1 w2 (fun F H v1 v2 _ s1 s2 Q' k => by rw [s1.rp_int, s2.rp_int]; exact ⟨rfl, k _ (by rw [dec_V_int]; exact .bl _)⟩) q
theorem op_neI {i j : Int} {c1 c2 : Cell} (w1 : Vw env c1 (.int i)) (w2 : Vw env c2 (.int j)) (q : Q (.fz (.bl (!decide (i = j)))) env) : Op2 X b rNe c1 c2 env Q :=
  Op2.mk w1 w2 (fun F H v1 v2 _ s1 s2 Q' k => by rw [s1.rp_int, s2.rp_int]; exact ⟨rfl, k _ (by rw [dec_V_int]; exact .bl _)⟩) q
theorem op_eqS {i j : Str} {c1 c2 : Cell} (w1 : Vw env c1 (.str i)) (w2 : Vw env c2 (.str j)) (q : Q (.fz (.bl (decide (i = j)))) env) : Op2 X b rEq c1 c2 env Q :=
  Op2.mk w1 w2 (fun F H v1 v2 _ s1 s2 Q' k => by rw [s1.rp_str, s2.rp_str]; exact ⟨rfl, k _ (by rw [dec_V_str]; exact .bl _)⟩) q
theorem op_neS {i j : Str} {c1 c2 : Cell} (w1 : Vw env c1 (.str i)) (w2 : Vw env c2 (.str j)) (q : Q (.fz (.bl (!decide (i = j)))) env) : Op2 X b rNe c1 c2 env Q :=
  Op2.mk w1 w2 (fun F H v1 v2 _ s1 s2 Q' k => by rw [s1.rp_str, s2.rp_str]; exact ⟨rfl, k _ (by rw [dec_V_str]; exact .bl _)⟩) q
theorem op_eqB {i j : Bool} {c1 c2 : Cell} (w1 : Vw env c1 (.bl i)) (w2 : Vw env c2 (.bl j)) (q : Q (.fz (.bl (decide (i = j)))) env) : Op2 X b rEq c1 c2 env Q :=
  Op2.mk w1 w2 (fun F H v1 v2 _ s1 s2 Q' k => by rw [s1.rp_bl, s2.rp_bl]; exact ⟨rfl, k _ (by rw [dec_V_bl]; exact .bl _)⟩) q
theorem op_neB {i j : Bool} {c1 c2 : Cell} (w1 : Vw env c1 (.bl i)) (w2 : Vw env c2 (.bl j)) (q : Q (.fz (.bl (!decide (i = j)))) env) : Op2 X b rNe c1 c2 env Q :=
  Op2.mk w1 w2 (fun F H v1 v2 _ s1 s2 Q' k => by rw [s1.rp_bl, s2.rp_bl]; exact ⟨rfl, k _ (by rw [dec_V_bl]; exact .bl _)⟩) q
theorem op_negI {i : Int} {c1 : Cell} (w1 : Vw env c1 (.int i)) (q : Q (.fz (.int (-i))) env) : Op1 X b (rU fun i => .int (-i)) c1 env Q :=
  Op1.mk w1 (fun F H v1 _ s1 Q' k => ⟨i, s1.rp_int, k _ (.int _)⟩) q

/-! ### tests -/
theorem dt_cmp {op : CmpOp} {r : R2} {a c : Expr} {Q : Bool → List Cell → Prop} (ho : OpR X (compareOp op) r) (hm : behindInMarks op c = false) (h : DE X b a env fun c1 env1 => DE X b c env1 fun c2 env2 => Op2 X b r c1 c2 env2 fun c3 env3 => ∃ t, c3 = .fz (.bl t) ∧ Q t env3) : DT X b (.Compare a [op] [c] pos) env Q := by
  intro σ tv te F H l A
  refine w_pt (pt_cmpR ho pe_w pe_w hm) (wE_mono (h σ tv te F H l A) fun v1 H1 ⟨c1, env1, F1, l1, A1, h1⟩ => ?_)
  have A1' : At X.K b (σ ++ (tv ++ [some v1])) (env1 ++ (te ++ [c1])) F1 H1 := by rw [← List.append_assoc, ← List.append_assoc]; exact A1
  refine wE_mono (h1 σ (tv ++ [some v1]) (te ++ [c1]) F1 H1 l1 A1') fun v2 H2 ⟨c2, env2, F2, l2, A2, h2⟩ => ?_
  have A2' : At X.K b (σ ++ tv ++ [some v1] ++ [some v2]) (env2 ++ te ++ [c1] ++ [c2]) F2 H2 := by rw [List.append_assoc σ tv, List.append_assoc env2 te]; exact A2
  refine h2 σ tv te F2 H2 v1 v2 l2 A2' _ fun v H' c env' F' l' A' q => ?_
  obtain ⟨t, e, q⟩ := q
  subst e
  exact ⟨t, (last_fz A').bl_inv, env', F', l', pop1 l' A', q⟩
/-- any expression whose test is its value's truth, where the value is a bool -/
theorem dt_val {e : Expr} {Q : Bool → List Cell → Prop} (h : DE X b e env fun c env1 => ∃ t, c = .fz (.bl t) ∧ Q t env1) (he : ∀ whole, isTrue e X.env whole = (do let v ← whole; standAt e.pos; holding [v] (truthy v)) := by intro _; rfl) : DT X b e env Q := by
  intro σ tv te F H l A
  refine w_pt (pt_val pe_w he) (wE_mono (h σ tv te F H l A) fun v1 H1 ⟨c1, env1, F1, l1, A1, t, e, q⟩ => ?_)
  subst e
  exact ⟨t, (last_fz A1).bl_inv, env1, F1, l1, pop1 l1 A1, q⟩
/-- .. any data -/
inductive Tru : D → Bool → Prop
  | non : Tru .non false
  | bl (b : Bool) : Tru (.bl b) b
  | int (i : Int) : Tru (.int i) (i != 0)
  | lst (ds : List D) : Tru (.lst ds) (!ds.isEmpty)
  | tup (ds : List D) : Tru (.tup ds) (!ds.isEmpty)
  | str {x : Str} : x.length ≤ sizeLine → Tru (.str x) ((x.length : Int) != 0)
theorem rpl_empty {K : PySem.W.Frag} {F : Hp} {xs : List V} {ds : List D} (r : RpL K F xs ds) : xs.isEmpty = ds.isEmpty := by cases r <;> rfl
theorem Tru.ok {K : PySem.W.Frag} {F H : Hp} {v : V} {d : D} {t : Bool} (e : ExR F H) (h : Tru d t) (s : Sees K F H v d) : TruV K v H t := by
  cases h with
  | non => cases s with | fz r => rw [r.non_inv]; rfl
  | bl => rw [s.rp_bl]; rfl
  | int => rw [s.rp_int]; rfl
  | lst =>
    obtain ⟨a, xs, rfl, q, r⟩ := s.list e
    exact .inl ⟨xs, q, by rw [rpl_empty r]⟩
  | tup =>
    obtain ⟨a, xs, rfl, q, r⟩ := s.tuple e
    exact .inr (.inl ⟨xs, q, by rw [rpl_empty r]⟩)
  | str h => rw [s.rp_str]; exact ⟨h, rfl⟩
theorem dt_truth {e : Expr} {Q : Bool → List Cell → Prop} (h : DE X b e env fun c env1 => ∃ d t, Vw env1 c d ∧ Tru d t ∧ Q t env1) (he : ∀ whole, isTrue e X.env whole = (do let v ← whole; standAt e.pos; holding [v] (truthy v)) := by intro _; rfl) : DT X b e env Q := by
  intro σ tv te F H l A
  refine w_pt (pt_truth pe_w he) (wE_mono (h σ tv te F H l A) fun v1 H1 ⟨c1, env1, F1, l1, A1, d, t, w, tr, q⟩ => ?_)
  exact ⟨t, tr.ok A1.ex (sees_last l1 A1 w), env1, F1, l1, pop1 l1 A1, q⟩
def wW (X : Cx) (e : Expr) : TT := fun σ H Q => ∀ (whole : Sem Value) (pins : List (Addr × Obj)) (s : Shared), Inv X pins σ H s → wpAny (model X.prog X.w) X.A (isTrue e X.env whole) (TP X pins σ Q) X.xe s
def DW (X : Cx) {js : List Nat} {m : Nat} (b : Base js m) (e : Expr) (env : List Cell) (Q : Bool → List Cell → Prop) : Prop :=
  ∀ (σ tv : List (Option V)) (te : List Cell) (F H : Hp), Lc m env σ → At X.K b (σ ++ tv) (env ++ te) F H →
    wW X e σ H fun t H' => ∃ env' F', Lc m env' σ ∧ At X.K b (σ ++ tv) (env' ++ te) F' H' ∧ Q t env'
theorem pw_w {e : Expr} : PW X e (wW X e) := ⟨fun wh pins s _ _ _ I h => h wh pins s I⟩
theorem w_pw {e : Expr} {t : TT} {σ : L2.St} {H : Hp} {Q : Bool → Hp → Prop} (h : PW X e t) (q : t σ H Q) : wW X e σ H Q := fun wh pins s I => h.run wh pins s σ H Q I q
theorem dt_bool {op : BoolOp} {es : List Expr} {Q : Bool → List Cell → Prop} (h : DW X b (.BoolOp op es pos) env Q) : DT X b (.BoolOp op es pos) env Q :=
  fun σ tv te F H l A pins s I => h σ tv te F H l A _ pins s I
theorem dw_and {a c : Expr} {es : List Expr} {Q : Bool → List Cell → Prop} (h : DT X b a env fun t env1 => if t = true then DW X b (.BoolOp .And (c :: es) pos) env1 Q else Q false env1) : DW X b (.BoolOp .And (a :: c :: es) pos) env Q := by
  intro σ tv te F H l A
  refine w_pw (pw_and pt_w pw_w) (wT_mono (h σ tv te F H l A) fun t H1 ⟨env1, F1, l1, A1, q⟩ => ?_)
  cases t with
  | true => rw [if_pos rfl] at q ⊢; exact q σ tv te F1 H1 l1 A1
  | false => rw [if_neg Bool.false_ne_true] at q ⊢; exact ⟨env1, F1, l1, A1, q⟩
theorem dw_or {a c : Expr} {es : List Expr} {Q : Bool → List Cell → Prop} (h : DT X b a env fun t env1 => if t = true then Q true env1 else DW X b (.BoolOp .Or (c :: es) pos) env1 Q) : DW X b (.BoolOp .Or (a :: c :: es) pos) env Q := by
  intro σ tv te F H l A
  refine w_pw (pw_or pt_w pw_w) (wT_mono (h σ tv te F H l A) fun t H1 ⟨env1, F1, l1, A1, q⟩ => ?_)
  cases t with
  | false => rw [if_neg Bool.false_ne_true] at q ⊢; exact q σ tv te F1 H1 l1 A1
  | true => rw [if_pos rfl] at q ⊢; exact ⟨env1, F1, l1, A1, q⟩
theorem dw_and1 {a : Expr} {Q : Bool → List Cell → Prop} (h : DT X b a env Q) : DW X b (.BoolOp .And [a] pos) env Q :=
  fun σ tv te F H l A => w_pw (pw_and1 pt_w) (h σ tv te F H l A)
theorem dw_or1 {a : Expr} {Q : Bool → List Cell → Prop} (h : DT X b a env Q) : DW X b (.BoolOp .Or [a] pos) env Q :=
  fun σ tv te F H l A => w_pw (pw_or1 pt_w) (h σ tv te F H l A)
theorem dt_not {a : Expr} {Q : Bool → List Cell → Prop} (h : DT X b a env fun t env1 => Q (!t) env1) : DT X b (.UnaryOp .Not a pos) env Q :=
  fun σ tv te F H l A => w_pt (pt_not pt_w) (h σ tv te F H l A)
theorem de_ifExp {t a c : Expr} (h : DT X b t env fun t env1 => if t = true then DE X b a env1 Q else DE X b c env1 Q) : DE X b (.IfExp t a c pos) env Q := by
  intro σ tv te F H l A
  refine w_pe (pe_ifExp pt_w pe_w pe_w) (wT_mono (h σ tv te F H l A) fun t H1 ⟨env1, F1, l1, A1, q⟩ => ?_)
  cases t with
  | true => rw [if_pos rfl] at q ⊢; exact q σ tv te F1 H1 l1 A1
  | false => rw [if_neg Bool.false_ne_true] at q ⊢; exact q σ tv te F1 H1 l1 A1
/-- and, or, not as values: bools -/
theorem de_and {a c : Expr} {es : List Expr} (h : DE X b a env fun c1 env1 => ∃ t, c1 = .fz (.bl t) ∧ if t = true then DE X b (.BoolOp .And (c :: es) pos) env1 Q else Q (.fz (.bl false)) env1) : DE X b (.BoolOp .And (a :: c :: es) pos) env Q := by
  intro σ tv te F H l A
  refine w_pe (pe_and pe_w pe_w) (wE_mono (h σ tv te F H l A) fun v1 H1 ⟨c1, env1, F1, l1, A1, t, e, q⟩ => ?_)
  subst e
  refine ⟨t, (last_fz A1).bl_inv, ?_⟩
  cases t with
  | true => rw [if_pos rfl] at q ⊢; exact q σ tv te F1 H1 l1 (pop1 l1 A1)
  | false => rw [if_neg Bool.false_ne_true] at q ⊢; exact ⟨_, env1, F1, l1, (pop1 l1 A1).push_fz (.bl false), q⟩
theorem de_or {a c : Expr} {es : List Expr} (h : DE X b a env fun c1 env1 => ∃ t, c1 = .fz (.bl t) ∧ if t = true then Q (.fz (.bl true)) env1 else DE X b (.BoolOp .Or (c :: es) pos) env1 Q) : DE X b (.BoolOp .Or (a :: c :: es) pos) env Q := by
  intro σ tv te F H l A
  refine w_pe (pe_or pe_w pe_w) (wE_mono (h σ tv te F H l A) fun v1 H1 ⟨c1, env1, F1, l1, A1, t, e, q⟩ => ?_)
  subst e
  refine ⟨t, (last_fz A1).bl_inv, ?_⟩
  cases t with
  | false => rw [if_neg Bool.false_ne_true] at q ⊢; exact q σ tv te F1 H1 l1 (pop1 l1 A1)
  | true => rw [if_pos rfl] at q ⊢; exact ⟨_, env1, F1, l1, (pop1 l1 A1).push_fz (.bl true), q⟩
theorem de_bool1 {op : BoolOp} {a : Expr} (h : DE X b a env Q) : DE X b (.BoolOp op [a] pos) env Q :=
  fun σ tv te F H l A => w_pe (pe_one pe_w) (h σ tv te F H l A)
theorem de_not {a : Expr} (h : DE X b a env fun c1 env1 => ∃ t, c1 = .fz (.bl t) ∧ Q (.fz (.bl (!t))) env1) : DE X b (.UnaryOp .Not a pos) env Q := by
  intro σ tv te F H l A
  refine w_pe (pe_not pe_w) (wE_mono (h σ tv te F H l A) fun v1 H1 ⟨c1, env1, F1, l1, A1, t, e, q⟩ => ?_)
  subst e
  exact ⟨t, (last_fz A1).bl_inv, _, env1, F1, l1, (pop1 l1 A1).push_fz (.bl _), q⟩

/-! ### argument lists, displays -/
theorem da_nil {Q : List Cell → List Cell → Prop} (q : Q [] env) : DA X b [] env Q := by
  intro σ tv te F H l A
  exact w_pa pa_nil ⟨[], env, F, l, rfl, by simpa using A, q⟩
theorem da_cons {e : Expr} {es : List Expr} {Q : List Cell → List Cell → Prop} (h : DE X b e env fun c env1 => DA X b es env1 fun cs env2 => Q (c :: cs) env2) (hs : starEach (e :: es) X.env = (false, eval e X.env) :: starEach es X.env := by rfl) : DA X b (e :: es) env Q := by
  intro σ tv te F H l A
  refine w_pa (pa_cons pe_w pa_w hs) (wE_mono (h σ tv te F H l A) fun v1 H1 ⟨c1, env1, F1, l1, A1, h1⟩ => ?_)
  have A1' : At X.K b (σ ++ (tv ++ [some v1])) (env1 ++ (te ++ [c1])) F1 H1 := by rw [← List.append_assoc, ← List.append_assoc]; exact A1
  refine wA_mono (h1 σ (tv ++ [some v1]) (te ++ [c1]) F1 H1 l1 A1') fun vs H2 ⟨cs, env2, F2, l2, hl, A2, q⟩ => ?_
  refine ⟨c1 :: cs, env2, F2, l2, by simp [hl], ?_, q⟩
  rw [List.append_assoc, List.append_assoc] at A2
  rw [List.append_assoc, List.append_assoc]
  simpa using A2
/-- every cell in hand holds data -/
inductive AllFz : List Cell → List D → Prop
  | nil : AllFz [] []
  | cons {d : D} {cs : List Cell} {ds : List D} : AllFz cs ds → AllFz (.fz d :: cs) (d :: ds)
theorem rpl_of {F H : Hp} : ∀ {ws : List V} {ds : List D} {es : List Cell} {pre : List (Option V)} {pc : List Cell}, AllFz es ds → es.length = ws.length → pc.length = pre.length → At X.K b (pre ++ ws.map some) (pc ++ es) F H → RpL X.K F ws ds
  | [], _, _, _, _, .nil, _, _, _ => .nil
  | w :: ws, _, _, pre, pc, .cons (d := d) (cs := es) r, hl, hp, A => by
    have q := A.ok pc.length (.fz d) (by rw [List.getElem?_append_right (Nat.le_refl _), Nat.sub_self]; rfl)
    rw [hp, List.getElem?_append_right (Nat.le_refl _), Nat.sub_self] at q
    obtain ⟨x, e, rx⟩ := q
    have e' : w = x := by
      have : some (some w) = some (some x) := e
      injection this with this; injection this
    subst e'
    refine .cons rx (rpl_of (H := H) (pre := pre ++ [some w]) (pc := pc ++ [.fz d]) r (by simpa using hl) (by simp [hp]) ?_)
    rw [List.append_assoc, List.append_assoc]
    exact A
  | [], _, _, _, _, .cons _, hl, _, _ => by simp at hl
theorem rpl_args {σ tv : List (Option V)} {te : List Cell} {F H : Hp} {ws : List V} {ds : List D} {es : List Cell} (l : Lc m env σ) (f : AllFz es ds) (hl : es.length = ws.length) (A : At X.K b (σ ++ tv ++ ws.map some) (env ++ te ++ es) F H) : RpL X.K F ws ds := by
  refine rpl_of f hl ?_ A
  have h1 := A.len
  have h2 := l.len
  simp at h1 ⊢
  omega
theorem de_tuple {es : List Expr} {x1 : Nat} (h : DA X b es env fun cs env1 => ∃ ds, AllFz cs ds ∧ ds.length ≤ 100000 ∧ Q (.fz (.tup ds)) env1) : DE X b (.Tuple es x1 pos) env Q := by
  intro σ tv te F H l A
  refine w_pe (pe_tup pa_w) (wA_mono (h σ tv te F H l A) fun vs H1 ⟨cs, env1, F1, l1, hl, A1, ds, af, hz, q⟩ => ?_)
  have r := rpl_args l1 af hl A1
  have A2 := popN l1 _ rfl hl A1
  refine ⟨by rw [r.length]; exact Nat.le_trans hz (by decide), fun p hp => ⟨_, env1, _, l1, A2.alloc_fz hp (rp_tup (A2.f_none hp) r), q⟩⟩
theorem de_list {es : List Expr} (h : DA X b es env fun cs env1 => ∃ ds, AllFz cs ds ∧ ds.length ≤ 100000 ∧ Q (.ow (.lst ds)) env1) : DE X b (.List es pos) env Q := by
  intro σ tv te F H l A
  refine w_pe (pe_lst pa_w) (wA_mono (h σ tv te F H l A) fun vs H1 ⟨cs, env1, F1, l1, hl, A1, ds, af, hz, q⟩ => ?_)
  have r := rpl_args l1 af hl A1
  have A2 := popN l1 _ rfl hl A1
  refine ⟨by rw [r.length]; exact Nat.le_trans hz (by decide), fun p hp => ⟨_, env1, _, l1, A2.alloc_ow hp (.lst upd_same r), q⟩⟩
/-- what is our own may be taken as data -/
theorem de_fz {e : Expr} {d : D} (h : DE X b e env fun c env1 => (c = .ow d ∨ c = .fz d) ∧ Q (.fz d) env1) : DE X b e env Q := by
  intro σ tv te F H l A
  refine wE_mono (h σ tv te F H l A) fun v H1 ⟨c, env1, F1, l1, A1, hc, q⟩ => ?_
  rcases hc with e | e
  · subst e
    have hlen : (env1 ++ te).length = (σ ++ tv).length := by have := A1.len; simp only [List.length_append, List.length_cons, List.length_nil] at this ⊢; omega
    obtain ⟨F2, A2⟩ := A1.freeze (k := (env1 ++ te).length) (d := d) (app_last rfl) fun z => by
      have h1 := A1.jl _ z
      have h2 := l1.len
      have h3 := l1.ml
      simp only [List.length_append] at h1
      omega
    refine ⟨.fz d, env1, F2, l1, ?_, q⟩
    rw [List.set_append_right _ _ (Nat.le_refl _), Nat.sub_self] at A2
    exact A2
  · subst e
    exact ⟨_, env1, F1, l1, A1, q⟩
end
end DL


set_option Elab.async false
set_option linter.all false
set_option maxRecDepth 100000
set_option maxHeartbeats 1000000
/-! THE DATA LAYER, 4: defs and their calls, statements. -/
namespace DL
open PySem PySem.Spec PyProof.Rows L2

/-! ### what a def promises, of data -/
abbrev FSp := List Cell → (Cell → List Cell → Prop) → Prop
def spOf (K : PySem.W.Frag) (js : List Nat) (n : Nat) (S : FSp) : Sp := fun vs H Q _ => vs.length = n ∧ ∃ (cs : List Cell) (F : Hp) (ad : List Addr), NoAl cs ∧ At K (⟨H, F, ad⟩ : Base js n) (vs.map some) cs F H ∧
  S cs fun c cs' => ∀ (v : V) (H' F' : Hp) (σ' : List (Option V)) (env' : List Cell) (m' : Nat), cs' = env'.take n → Lc m' env' σ' → (∀ i, c ≠ .al i) → At K (⟨H, F, ad⟩ : Base js m') (σ' ++ [some v]) (env' ++ [c]) F' H' → Q v H'

section
variable {K : PySem.W.Frag} {js : List Nat} {m : Nat} {vs : List (Option V)} {cs : List Cell} {F H H0 F0 : Hp} {ad : List Addr}
/-- slots of which nothing is known -/
theorem At.pad (A : At K (⟨H0, F0, ad⟩ : Base js m) vs cs F H) (hn : NoAl cs) (k m2 : Nat) (h1 : m ≤ m2) (h2 : m2 ≤ vs.length + k) : At K (⟨H0, F0, ad⟩ : Base js m2) (vs ++ List.replicate k none) (cs ++ List.replicate k .no) F H := by
  have hl := A.len
  exact {
    len := by simp [A.len]
    ml := by simp; omega
    jl := fun j hj => by have := A.jl j hj; omega
    ex := A.ex
    tp := A.tp
    ex0 := A.ex0
    new := A.new
    fr := A.fr
    live := A.live
    ok := fun i c h => by
      by_cases hi : i < cs.length
      · rw [List.getElem?_append_left hi] at h
        rw [List.getElem?_append_left (by omega)]
        have q := A.ok i c h
        cases c with
        | no => trivial
        | fz d => exact q
        | ow d => exact q
        | al j => exact absurd rfl (hn i _ h j)
        | lk o u => exact q
      · rw [List.getElem?_append_right (by omega)] at h
        rw [List.getElem?_replicate] at h
        split at h
        · cases h; trivial
        · cases h
    inj := fun i j d e p h1 h2 h3 h4 => by
      have cut : ∀ (i : Nat) d, (cs ++ List.replicate k Cell.no)[i]? = some (.ow d) → i < cs.length ∧ cs[i]? = some (.ow d) := fun i d h => by
        by_cases hi : i < cs.length
        · rw [List.getElem?_append_left hi] at h; exact ⟨hi, h⟩
        · rw [List.getElem?_append_right (by omega), List.getElem?_replicate] at h
          split at h <;> cases h
      obtain ⟨a1, a2⟩ := cut i d h1
      obtain ⟨b1, b2⟩ := cut j e h2
      rw [List.getElem?_append_left (by omega)] at h3 h4
      exact A.inj i j d e p a2 b2 h3 h4
    io := fun n j p h1 h2 => by
      have q1 := A.jl j (List.mem_of_getElem? h1)
      have q2 := A.ml
      rw [List.getElem?_append_left (by omega)]
      exact A.io n j p h1 h2 }
end

section
variable {P : Program} {w : World} {K : PySem.W.Frag} {mg : Str → Option Value} {base : Heap}
/-- THE RULE: a def by its body -/
theorem fn_ok {x qual : Str} {params : Arguments} {body : List Stmt} {scope : Scope} {dvs : List V} {kws : List (Str × V)} {f : Addr} {fd : FuncData} {N ps : List Str} {js : List Nat} {k : Nat} {S : FSp} (m : Nat) (hm1 : ps.length ≤ m) (hm2 : m ≤ N.length) (F : FunD K x qual params body scope dvs kws f fd) (Sc : FnScope N ps scope)
    (hbody : ∀ (cdv : Value) (A : Around) (outer : List Env) (s : Shared) (H : Hp) (E : XK) (b : Base js m) (cs : List Cell) (Post : Cell → List Cell → Prop), Room k (A.deeper (envOfC qual scope s.heap.objs.size f cdv)) → cs.length = ps.length → S cs Post →
      DSs (cxOf CX0 P w K mg base N qual scope f cdv A outer s H E).nox b body (cs ++ List.replicate (N.length - ps.length) .no) { nx := fun env' => Post (.fz .non) (env'.take ps.length), rt := fun c env' => (∀ i, c ≠ .al i) ∧ Post c (env'.take ps.length) }) :
    FnOk P w K mg base CX0 (k + 1) f fd ps (spOf K js ps.length S) := by
  refine F.ok Sc (fun vs H Q E h => h.1) fun cdv A outer s H vs Q E hr h => ?_
  obtain ⟨hn, cs, F, ad, na, At0, hS⟩ := h
  refine ⟨_, PSs.nox pss_w, ?_⟩
  have hcl : cs.length = ps.length := by have := At0.len; simp at this; omega
  have hpl : ps.length ≤ N.length := by have := congrArg List.length Sc.pre; rw [List.length_take] at this; omega
  have At1 := At0.pad na (N.length - ps.length) m hm1 (by simp [hn]; omega)
  have hst : L2.start N vs = vs.map some ++ List.replicate (N.length - ps.length) none := by unfold L2.start; rw [hn]
  have hσ : (L2.start N vs).length = ps.length + (N.length - ps.length) := by rw [hst]; simp [hn]
  have h1 := hbody cdv A outer s H E ⟨H, F, ad⟩ cs _ hr hcl hS
  have h2 := h1 (L2.start N vs) [] [] F H ⟨by rw [hσ]; simp [hcl], by rw [hσ]; omega, fun i c hc j => ?_⟩ (fun i c hc => by simp at hc) (by rw [hst, List.append_nil, List.append_nil]; exact At1)
  · intro pins s' I
    refine thn (h2 pins s' I) fun fl s'' q => ?_
    cases fl with
    | next =>
      obtain ⟨σ', H', I', env', F', l', A', q⟩ := q
      refine ⟨σ', H', I', q .non H' F' σ' env' m rfl l' (fun i z => nomatch z) ?_⟩
      have A2 := A'.push_fz (v := .non) (d := .non) .non
      rw [List.append_nil, List.append_nil] at A2
      exact A2
    | ret u =>
      obtain ⟨v, σ', H', I', r, c, env', σ2, F', l', A', na', q⟩ := q
      refine ⟨v, σ', H', I', r, q v H' F' σ2 env' m rfl l' na' ?_⟩
      rw [List.append_nil, List.append_nil] at A'
      exact A'
    | brk => obtain ⟨σ', H', I', env', F', l', A', q⟩ := q; exact q.elim
    | cont => obtain ⟨σ', H', I', env', F', l', A', q⟩ := q; exact q.elim
  · by_cases hi : i < cs.length
    · rw [List.getElem?_append_left hi] at hc
      exact na i c hc j
    · rw [List.getElem?_append_right (by omega), List.getElem?_replicate] at hc
      split at hc
      · cases hc; exact fun z => nomatch z
      · cases hc
end

/-! ### behind a call -/
section
variable {K : PySem.W.Frag} {js js' : List Nat} {m m' : Nat} {b : Base js m} {b' : Base js' m'} {vs : List (Option V)} {cs : List Cell} {F H F' H' : Hp}
theorem At.after0 (A : At K b vs cs F H) (e : ExR F F') (e' : ExR F' H') (tp' : ∀ a xs, F' a = some (.tup xs) → H' a = some (.tup xs)) (hnew : ∀ a u, Rd F' a u → Rd F a u ∨ H a = none) (hk : ∀ a o, H a = some o → Stays F H' a o) : At K b vs cs F' H' := by
  refine A.heaps e e' tp' (fun a u r => (hnew a u r).elim .inl fun z => .inr (A.h0_none z)) hk fun i d p hc hv => ?_
  obtain ⟨fn, ow, _⟩ := A.addr hc hv
  cases q : F' p with
  | none => rfl
  | some u =>
    rcases hnew p u (.inl q) with z | z
    · exact (rd_none z fn).elim
    · cases ow with
      | lst y _ => rw [z] at y; cases y
      | dk y _ => rw [z] at y; cases y
      | dt y _ => rw [z] at y; cases y
      | tup y _ => rw [z] at y; cases y
      | raw y _ => rw [z] at y; cases y
/-- .. the own object at p, of slot k, changed -/
theorem At.after1 (A : At K b vs cs F H) {k : Nat} {p : Addr} {d d' : D} (hk : cs[k]? = some (.ow d)) (hv : vs[k]? = some (some (.ref p))) (e : ExR F F') (e' : ExR F' H') (tp' : ∀ a xs, F' a = some (.tup xs) → H' a = some (.tup xs)) (hnew : ∀ a u, Rd F' a u → Rd F a u ∨ H a = none) (hlive : ∀ a o, H a = some o → ∃ o', H' a = some o')
    (hfr : ∀ a o, H a = some o → a ≠ p → Stays F H' a o) (hp : F' p = none) (ho : OwnAt K F' H' p d') : At K b vs (cs.set k (.ow d')) F' H' := by
  obtain ⟨fn, ow, h0⟩ := A.addr hk hv
  have hkl : k < cs.length := (List.getElem?_eq_some_iff.mp hk).1
  have other : ∀ (i : Nat) x q, cs[i]? = some (.ow x) → vs[i]? = some (some (.ref q)) → i ≠ k → q ≠ p := fun i x q hc hq ik z => by
    subst z
    exact ik (A.inj i k x d q hc hk hq hv)
  have hsome : ∀ (i : Nat) x q, cs[i]? = some (.ow x) → vs[i]? = some (some (.ref q)) → F' q = none := fun i x q hc hq => by
    obtain ⟨fn, ow, _⟩ := A.addr hc hq
    cases z : F' q with
    | none => rfl
    | some u =>
      rcases hnew q u (.inl z) with y | y
      · exact (rd_none y fn).elim
      · cases ow with
        | lst t _ => rw [y] at t; cases t
        | dk t _ => rw [y] at t; cases t
        | dt t _ => rw [y] at t; cases t
        | tup t _ => rw [y] at t; cases t
        | raw t _ => rw [y] at t; cases t
  exact {
    len := by simp [A.len]
    ml := A.ml
    jl := A.jl
    ex := e'
    tp := tp'
    ex0 := A.ex0.trans e
    new := fun a u r => (hnew a u r).elim (A.new a u) fun z => .inr (A.h0_none z)
    fr := fun a x h n => by
      have z : a ≠ p := fun z => by
        subst z
        rcases h0 with q | ⟨_, q⟩
        · rw [h] at q; cases q
        · exact n q
      rcases A.fr a x h n with q | ⟨f, lk, w, q⟩
      · rcases hfr a x q z with y | ⟨f, lk, w, y⟩
        · exact .inl y
        · refine .inr ⟨?_, lk, w, y⟩
          cases t : F a with
          | none => exact absurd t f
          | some u =>
            rcases A.new a u (.inl t) with r | r
            · intro r'; exact rd_none r r'
            · rw [h] at r; cases r
      · rcases hfr a _ q z with y | ⟨_, lk', _⟩
        · exact .inr ⟨f, lk, w, y⟩
        · exact lk'.elim
    live := fun a x h => let ⟨o, q⟩ := A.live a x h; hlive a o q
    ok := fun i c hc => by
      by_cases ik : i = k
      · subst ik
        rw [List.getElem?_set_self hkl] at hc
        cases hc
        exact ⟨p, hv, hp, ho, h0⟩
      · rw [List.getElem?_set_ne (Ne.symm ik)] at hc
        refine (A.ok i c hc).mono e (fun q z hq => ?_) fun dd o' u h1 h2 => (hfr dd _ h1 fun z => h2 (by rw [z]; exact fn)).elim id fun z => z.2.1.elim
        cases c with
        | ow x => exact ⟨hsome i x q hc hq, fun o y => (hfr q o y (other i x q hc hq ik)).elim id fun z => absurd (A.addr hc hq).1 z.1⟩
        | _ => cases z
    inj := fun i j x y q h1 h2 h3 h4 => by
      have back : ∀ (i : Nat) x, (cs.set k (.ow d'))[i]? = some (.ow x) → ∃ y, cs[i]? = some (.ow y) := fun i x h => by
        by_cases z : i = k
        · subst z; exact ⟨d, hk⟩
        · rw [List.getElem?_set_ne (Ne.symm z)] at h
          exact ⟨x, h⟩
      obtain ⟨_, q1⟩ := back i x h1
      obtain ⟨_, q2⟩ := back j y h2
      exact A.inj i j _ _ q q1 q2 h3 h4
    io := A.io }
/-- what the callee handed back, in hand -/
theorem At.result {σ' : List (Option V)} {env' : List Cell} {v : V} {c : Cell} (A : At K b vs cs F' H') (B : At K b' (σ' ++ [some v]) (env' ++ [c]) F' H') (hm : m' ≤ σ'.length) (na : ∀ i, c ≠ .al i) (h0 : ∀ p, b'.H0 p = none → b.H0 p = none) (hd : ∀ (i : Nat) d p, cs[i]? = some (.ow d) → vs[i]? = some (some (.ref p)) → b'.H0 p ≠ none) :
    At K b (vs ++ [some v]) (cs ++ [c]) F' H' := by
  have hl : env'.length = σ'.length := by have := B.len; simpa using this
  have q := B.ok σ'.length c (app_last hl.symm)
  rw [app_last rfl] at q
  have nj : σ'.length ∉ js' := fun z => by have := B.jl _ z; omega
  cases c with
  | no => exact A.push trivial fun _ _ _ _ _ z => nomatch z
  | fz d =>
    obtain ⟨x, e, r⟩ := q
    injection e with e; injection e with e; subst e
    exact A.push_fz r
  | ow d =>
    obtain ⟨p, e, n, o, z⟩ := q
    injection e with e; injection e with e; subst e
    have z' : b'.H0 p = none := z.elim id fun y => absurd y.1 nj
    refine A.push ⟨p, rfl, n, o, .inl (h0 p z')⟩ fun i d1 e1 p1 hc _ hv hh => ?_
    injection hv with hv
    subst hv
    exact hd i d1 p hc hh z'
  | al i => exact absurd rfl (na i)
  | lk o u =>
    obtain ⟨d, e1, e2, e3⟩ := q
    exact A.push ⟨d, e1, e2, e3⟩ fun _ _ _ _ _ z => nomatch z
end

/-! ### the call -/
section
variable {X : Cx} {js : List Nat} {m : Nat} {b : Base js m} {env : List Cell} {Q : Cell → List Cell → Prop} {pos p : Pos} {k n : Nat} {f : Addr} {fd : FuncData} {ps : List Str} {S : FSp} {x : Str} {e : Expr} {es : List Expr}
/-- values that are data, for a callee -/
theorem at_args {K : PySem.W.Frag} {F H : Hp} {vs : List V} {ds : List D} (ex : ExR F H) (tp : ∀ a xs, F a = some (.tup xs) → H a = some (.tup xs)) (r : RpL K F vs ds) : At K (⟨H, F, []⟩ : Base [] vs.length) (vs.map some) (ds.map .fz) F H where
  len := by simp [r.length]
  ml := by simp
  jl := fun j h => nomatch h
  ex := ex
  tp := tp
  ex0 := ExR.refl F
  new := fun _ _ h => .inl h
  fr := fun _ _ h _ => .inl h
  live := fun _ o h => ⟨o, h⟩
  ok := fun i c h => by
    rw [List.getElem?_map] at h
    cases q : ds[i]? with
    | none => rw [q] at h; cases h
    | some d =>
      rw [q] at h
      cases h
      obtain ⟨y, e1, r1⟩ := r.getD q
      exact ⟨y, by rw [List.getElem?_map, e1]; rfl, r1⟩
  inj := fun i j d e p h1 _ _ _ => by
    rw [List.getElem?_map] at h1
    cases q : ds[i]? with
    | none => rw [q] at h1; cases h1
    | some d => rw [q] at h1; cases h1
  io := fun k j p h _ => by simp at h
theorem noal_fz (ds : List D) : NoAl (ds.map .fz) := fun i c h j z => by
  rw [List.getElem?_map] at h
  cases q : ds[i]? with
  | none => rw [q] at h; cases h
  | some d => rw [q, z] at h; cases h
/-- what a promise asks of values that are data -/
theorem sp_fz {σ tv : List (Option V)} {te : List Cell} {F H : Hp} {vs : List V} {cs : List Cell} {ds : List D} {Q' : VK} {E : XK} (l : Lc m env σ) (af : AllFz cs ds) (hl : cs.length = vs.length) (A : At X.K b (σ ++ tv ++ vs.map some) (env ++ te ++ cs) F H) (hn : ds.length = n)
    (hS : S (ds.map .fz) fun c _ => Q c env) (k : ∀ v H' c F', At X.K b (σ ++ tv ++ [some v]) (env ++ te ++ [c]) F' H' → Q c env → Q' v H') (hmono : ∀ cs (P P' : Cell → List Cell → Prop), (∀ c e, P c e → P' c e) → S cs P → S cs P') : spOf X.K [] n S vs H Q' E := by
  have r := rpl_args l af hl A
  have A0 := popN l _ rfl hl A
  have hv : vs.length = n := by rw [r.length]; exact hn
  refine ⟨hv, ds.map .fz, F, [], noal_fz ds, hv ▸ at_args A.ex A.tp r, hmono _ _ _ (fun c e q v H' F' σ' env' m' _ l' na A' => ?_) hS⟩
  have A1 := A0.after0 A'.ex0 A'.ex A'.tp A'.new fun a o h => A'.fr a o h (fun z => nomatch z)
  exact k v H' c F' (A1.result A' l'.ml na (fun p h => A0.h0_none h) fun i d p hc hh z => by
    obtain ⟨_, ow, _⟩ := A0.addr hc hh
    have z : H p = none := z
    cases ow with
    | lst t _ => rw [z] at t; cases t
    | dk t _ => rw [z] at t; cases t
    | dt t _ => rw [z] at t; cases t
    | tup t _ => rw [z] at t; cases t
    | raw t _ => rw [z] at t; cases t) q
/-- a promise that speaks of all ends -/
def Mono (S : FSp) : Prop := ∀ cs (P P' : Cell → List Cell → Prop), (∀ c e, P c e → P' c e) → S cs P → S cs P'
theorem de_call (G : FnOk X.prog X.w X.K X.mg X.base CX0 k f fd ps (spOf X.K [] n S)) (hS : Mono S) (hr : Room k X.A) (hg : Gl X x) (hm : X.mg x = some (.ref f)) (hk : PySem.W.keepIn X.K (.ref f) = true) (hb : Binds X.K fd ps [])
    (h : DA X b (e :: es) env fun cs env1 => ∃ ds, AllFz cs ds ∧ ds.length = n ∧ S (ds.map .fz) fun c _ => Q c env1) (hdb : (x == ("__debug__" : Str)) = false := by decide) (he : starEach (e :: es) X.env = (false, eval e X.env) :: starEach es X.env := by rfl) (hpl : (backTo pos (starEach es X.env)).any (·.1) = false := by rfl) :
    DE X b (.Call (.Name x p) (e :: es) [] pos) env Q := by
  intro σ tv te F H l A
  refine w_pe (pe_call G hr hg hm hk hb .nil (pass0 (X := X)) pa_w hdb he hpl) (wA_mono (h σ tv te F H l A) fun vs H1 ⟨cs, env1, F1, l1, hl, A1, ds, af, hn, q⟩ => ?_)
  rw [List.append_nil]
  exact sp_fz l1 af hl A1 hn q (fun v H' c F' A' q => ⟨c, env1, F', l1, A', q⟩) hS

/-- values one of which (the j-th) is an own object of the caller's, the others data -/
theorem at_argsO {K : PySem.W.Frag} {js : List Nat} {m : Nat} {b : Base js m} {pv : List (Option V)} {pc : List Cell} {F H : Hp} {vs : List V} {cs : List Cell} {j i : Nat} {d : D} {a : Addr} (A : At K b pv pc F H) (hl : cs.length = vs.length) (hi : pc[i]? = some (.ow d)) (hv : pv[i]? = some (some (.ref a))) (hj : cs[j]? = some (.al i)) (hja : vs[j]? = some (.ref a))
    (ho : ∀ (n : Nat) c, cs[n]? = some c → n ≠ j → ∃ d' y, c = .fz d' ∧ vs[n]? = some y ∧ Rp K F y d') : At K (⟨H, F, [a]⟩ : Base [j] vs.length) (vs.map some) (cs.set j (.ow d)) F H := by
  obtain ⟨fn, ow, _⟩ := A.addr hi hv
  have hjl : j < cs.length := (List.getElem?_eq_some_iff.mp hj).1
  exact {
    len := by simp [hl]
    ml := by simp
    jl := fun n h => by
      have : n = j := by simpa using h
      omega
    ex := A.ex
    tp := A.tp
    ex0 := ExR.refl F
    new := fun _ _ h => .inl h
    fr := fun _ _ h _ => .inl h
    live := fun _ o h => ⟨o, h⟩
    ok := fun n c h => by
      by_cases e : n = j
      · subst e
        rw [List.getElem?_set_self hjl] at h
        cases h
        exact ⟨a, by rw [List.getElem?_map, hja]; rfl, fn, ow, .inr ⟨by simp, by simp⟩⟩
      · rw [List.getElem?_set_ne (Ne.symm e)] at h
        obtain ⟨d', y, e1, e2, r⟩ := ho n c h e
        subst e1
        exact ⟨y, by rw [List.getElem?_map, e2]; rfl, r⟩
    inj := fun n n' d1 e1 q h1 h2 _ _ => by
      have one : ∀ (n : Nat) d1, (cs.set j (.ow d))[n]? = some (.ow d1) → n = j := fun n d1 h => by
        by_cases e : n = j
        · exact e
        · rw [List.getElem?_set_ne (Ne.symm e)] at h
          obtain ⟨d', y, e1, _⟩ := ho n _ h e
          cases e1
      rw [one n d1 h1, one n' e1 h2]
    io := fun n j' q h1 h2 => by
      cases n with
      | zero =>
        have e1 : j = j' := by simpa using h1
        have e2 : a = q := by simpa using h2
        subst e1; subst e2
        rw [List.getElem?_map, hja]
        rfl
      | succ n => simp at h1 }
/-- the cells in hand for such a call: the j-th is an own local (slot i), the others data -/
structure ArgO (env : List Cell) (cs : List Cell) (j i : Nat) (d : D) (cs' : List Cell) : Prop where
  at_ : cs[j]? = some (.al i)
  ow : env[i]? = some (.ow d)
  all : ∀ (n : Nat) c, cs[n]? = some c → n ≠ j → ∃ d', c = .fz d'
  eq : cs' = cs.set j (.ow d)
theorem sp_ow {σ tv : List (Option V)} {te : List Cell} {F H : Hp} {vs : List V} {cs cs1 : List Cell} {i j : Nat} {d : D} {Q' : VK} {E : XK} (l : Lc m env σ) (ao : ArgO env cs j i d cs1) (hl : cs.length = vs.length) (A : At X.K b (σ ++ tv ++ vs.map some) (env ++ te ++ cs) F H) (hn : cs.length = n) (hmono : Mono S)
    (hS : S cs1 fun c cs' => ∃ d', cs'[j]? = some (.ow d') ∧ Q c (env.set i (.ow d'))) (k : ∀ v H' c F' env', Lc m env' σ → At X.K b (σ ++ tv ++ [some v]) (env' ++ te ++ [c]) F' H' → Q c env' → Q' v H') : spOf X.K [j] n S vs H Q' E := by
  have A0 := popN l _ rfl hl A
  have hil : i < env.length := (List.getElem?_eq_some_iff.mp ao.ow).1
  have his : i < σ.length := by rw [← l.len]; exact hil
  have hgl : (env ++ te).length = (σ ++ tv).length := A0.len
  -- the own object
  have hc0 : (env ++ te)[i]? = some (.ow d) := by rw [List.getElem?_append_left hil]; exact ao.ow
  obtain ⟨a, hv0, fn0, ow0, h00⟩ := A0.ok i _ hc0
  have hjl : j < cs.length := (List.getElem?_eq_some_iff.mp ao.at_).1
  -- the values in hand
  have hat : ∀ (t : Nat) c, cs[t]? = some c → OkAt X.K b (σ ++ tv ++ vs.map some) F H ((σ ++ tv).length + t) c (vs[t]?.map some) := fun t c hc => by
    have q := A.ok ((env ++ te).length + t) c (by rw [List.getElem?_append_right (by omega), Nat.add_sub_cancel_left]; exact hc)
    rw [hgl, List.getElem?_append_right (by omega), Nat.add_sub_cancel_left, List.getElem?_map] at q
    exact q
  have hja : vs[j]? = some (.ref a) := by
    obtain ⟨q1, q2, y, q3⟩ := hat j _ ao.at_
    rw [List.getElem?_append_left (by simp; omega), hv0] at q2
    cases hq : vs[j]? with
    | none => rw [hq] at q2; cases q2
    | some z =>
      rw [hq] at q2
      have q2' : some (some z) = some (some (V.ref a)) := q2
      have q3' : z = V.ref a := Option.some.inj (Option.some.inj q2')
      rw [q3']
  have hfz : ∀ (t : Nat) c, cs[t]? = some c → t ≠ j → ∃ d' y, c = .fz d' ∧ vs[t]? = some y ∧ Rp X.K F y d' := fun t c hc ht => by
    obtain ⟨d', e⟩ := ao.all t c hc ht
    subst e
    obtain ⟨y, q1, q2⟩ := hat t _ hc
    cases hq : vs[t]? with
    | none => rw [hq] at q1; cases q1
    | some z =>
      rw [hq] at q1
      have q1' : some (some z) = some (some y) := q1
      have q3' : z = y := Option.some.inj (Option.some.inj q1')
      exact ⟨d', z, rfl, rfl, q3' ▸ q2⟩
  have A2 := at_argsO (vs := vs) (cs := cs) A0 hl hc0 hv0 ao.at_ hja hfz
  rw [← ao.eq] at A2
  have hvn : vs.length = n := by omega
  refine ⟨hvn, cs1, F, [a], fun t c hc z e => ?_, hvn ▸ A2, hmono _ _ _ (fun c cs' q v H' F' σ' env' m' hcs l' na A' => ?_) hS⟩
  · rw [ao.eq] at hc
    by_cases ht : t = j
    · subst ht
      rw [List.getElem?_set_self hjl] at hc
      rw [e] at hc; cases hc
    · rw [List.getElem?_set_ne (Ne.symm ht)] at hc
      obtain ⟨d', e1⟩ := ao.all t c hc ht
      rw [e1] at e; cases e
  · obtain ⟨d', hq, q⟩ := q
    have hjn : j < n := by omega
    have hce : env'[j]? = some (.ow d') := by
      rw [hcs, List.getElem?_take_of_lt hjn] at hq
      exact hq
    have hje : j < env'.length := (List.getElem?_eq_some_iff.mp hce).1
    have hva : (σ' ++ [some v])[j]? = some (some (.ref a)) := A'.io 0 j a rfl rfl
    obtain ⟨fn1, ow1, _⟩ := A'.addr (k := j) (d := d') (by rw [List.getElem?_append_left hje]; exact hce) hva
    have A1 := A0.after1 (d' := d') hc0 hv0 A'.ex0 A'.ex A'.tp A'.new (fun x o h => A'.live x o h) (fun x o h ne => A'.fr x o h (by simpa using ne)) fn1 ow1
    rw [List.set_append_left _ _ hil] at A1
    have l1 : Lc m (env.set i (.ow d')) σ := ⟨by simp [l.len], l.ml, fun t c hc z e => by
      by_cases ht : t = i
      · subst ht
        rw [List.getElem?_set_self hil] at hc
        rw [e] at hc; cases hc
      · rw [List.getElem?_set_ne (Ne.symm ht)] at hc
        exact l.na t c hc z e⟩
    refine k v H' c F' _ l1 (A1.result A' l'.ml na (fun x h => A0.h0_none h) fun t d1 x hc hh z => ?_) q
    have z : H x = none := z
    -- an own object of the caller's stood ahead of the call
    have back : ∃ d2, (env ++ te)[t]? = some (.ow d2) := by
      by_cases ht : t = i
      · subst ht; exact ⟨d, hc0⟩
      · by_cases htl : t < env.length
        · rw [List.getElem?_append_left (by simpa using htl), List.getElem?_set_ne (Ne.symm ht)] at hc
          exact ⟨d1, by rw [List.getElem?_append_left htl]; exact hc⟩
        · rw [List.getElem?_append_right (by simp; omega)] at hc
          refine ⟨d1, by rw [List.getElem?_append_right (by omega)]; simpa using hc⟩
    obtain ⟨d2, hc2⟩ := back
    obtain ⟨_, ow2, _⟩ := A0.addr hc2 hh
    cases ow2 with
    | lst y _ => rw [z] at y; cases y
    | dk y _ => rw [z] at y; cases y
    | dt y _ => rw [z] at y; cases y
    | tup y _ => rw [z] at y; cases y
    | raw y _ => rw [z] at y; cases y
theorem de_callO {j : Nat} (G : FnOk X.prog X.w X.K X.mg X.base CX0 k f fd ps (spOf X.K [j] n S)) (hS : Mono S) (hr : Room k X.A) (hg : Gl X x) (hm : X.mg x = some (.ref f)) (hk : PySem.W.keepIn X.K (.ref f) = true) (hb : Binds X.K fd ps [])
    (h : DA X b (e :: es) env fun cs env1 => ∃ i d cs1, ArgO env1 cs j i d cs1 ∧ cs.length = n ∧ S cs1 fun c cs' => ∃ d', cs'[j]? = some (.ow d') ∧ Q c (env1.set i (.ow d'))) (hdb : (x == ("__debug__" : Str)) = false := by decide) (he : starEach (e :: es) X.env = (false, eval e X.env) :: starEach es X.env := by rfl) (hpl : (backTo pos (starEach es X.env)).any (·.1) = false := by rfl) :
    DE X b (.Call (.Name x p) (e :: es) [] pos) env Q := by
  intro σ tv te F H l A
  refine w_pe (pe_call G hr hg hm hk hb .nil (pass0 (X := X)) pa_w hdb he hpl) (wA_mono (h σ tv te F H l A) fun vs H1 ⟨cs, env1, F1, l1, hl, A1, i, d, cs1, ao, hn, q⟩ => ?_)
  rw [List.append_nil]
  exact sp_ow l1 ao hl A1 hn hS q fun v H' c F' env' l' A' q => ⟨c, env', F', l', A', q⟩
end
end DL


set_option Elab.async false
set_option linter.all false
set_option maxRecDepth 100000
set_option maxHeartbeats 1000000
/-! THE DATA LAYER, 5: statements, targets, loops, list comprehensions. -/
namespace DL
open PySem PySem.Spec PyProof.Rows L2
theorem na_fz {d : D} : ∀ j, Cell.fz d ≠ .al j := fun j z => by cases z
theorem na_ow {d : D} : ∀ j, Cell.ow d ≠ .al j := fun j z => by cases z
theorem na_no : ∀ j, Cell.no ≠ .al j := fun j z => by cases z
section
variable {X : Cx} {js : List Nat} {m : Nat} {b : Base js m} {env : List Cell} {Q : Cell → List Cell → Prop} {E : DEnds} {pos : Pos}
theorem SP.le {pins : List (Addr × Obj)} {D D' : Ends} {f : Flow} {s : Shared} (h1 : ∀ σ H, D.nx σ H → D'.nx σ H) (h2 : ∀ v H, D.rt v H → D'.rt v H) (h3 : ∀ σ H, D.bk σ H → D'.bk σ H) (h4 : ∀ σ H, D.ct σ H → D'.ct σ H) (q : SP X pins D f s) : SP X pins D' f s := by
  cases f with
  | next => obtain ⟨σ, H, I, q⟩ := q; exact ⟨σ, H, I, h1 _ _ q⟩
  | brk => obtain ⟨σ, H, I, q⟩ := q; exact ⟨σ, H, I, h3 _ _ q⟩
  | cont => obtain ⟨σ, H, I, q⟩ := q; exact ⟨σ, H, I, h4 _ _ q⟩
  | ret u => obtain ⟨v, σ, H, I, r, q⟩ := q; exact ⟨v, σ, H, I, r, h2 _ _ q⟩
theorem wS_le {st : Stmt} {D D' : Ends} {σ : L2.St} {H : Hp} (h : wS X st D σ H) (h1 : ∀ σ H, D.nx σ H → D'.nx σ H) (h2 : ∀ v H, D.rt v H → D'.rt v H) (h3 : ∀ σ H, D.bk σ H → D'.bk σ H) (h4 : ∀ σ H, D.ct σ H → D'.ct σ H) : wS X st D' σ H :=
  fun pins s I => thn (h pins s I) fun f s' q => SP.le h1 h2 h3 h4 q
theorem wSs_le {st : List Stmt} {D D' : Ends} {σ : L2.St} {H : Hp} (h : wSs X st D σ H) (h1 : ∀ σ H, D.nx σ H → D'.nx σ H) (h2 : ∀ v H, D.rt v H → D'.rt v H) (h3 : ∀ σ H, D.bk σ H → D'.bk σ H) (h4 : ∀ σ H, D.ct σ H → D'.ct σ H) : wSs X st D' σ H :=
  fun pins s I => thn (h pins s I) fun f s' q => SP.le h1 h2 h3 h4 q

theorem dss_nil (q : E.nx env) : DSs X b [] env E := fun σ tv te F H l na A => w_pss pss_nil ⟨env, F, l, A, q⟩
theorem dss_cons {s : Stmt} {ss : List Stmt} (h : DS X b s env { E with nx := fun env' => DSs X b ss env' E }) : DSs X b (s :: ss) env E := by
  intro σ tv te F H l na A
  refine w_pss (pss_cons ps_w pss_w) (wS_le (h σ tv te F H l na A) (fun σ' H' ⟨env', F', l', A', q⟩ => q σ' tv te F' H' l' na A') (fun _ _ q => q) (fun _ _ q => q) fun _ _ q => q)
theorem ds_pass (q : E.nx env) : DS X b (.Pass pos) env E := fun σ tv te F H l na A => w_ps ps_pass ⟨env, F, l, A, q⟩
theorem ds_break (q : E.bk env) : DS X b (.Break pos) env E := fun σ tv te F H l na A => w_ps ps_break ⟨env, F, l, A, q⟩
theorem ds_continue (q : E.ct env) : DS X b (.Continue pos) env E := fun σ tv te F H l na A => w_ps ps_continue ⟨env, F, l, A, q⟩
theorem ds_never {s : Stmt} (h : False) : DS X b s env E := h.elim
theorem dss_never {ss : List Stmt} (h : False) : DSs X b ss env E := h.elim
theorem ds_expr {e : Expr} (h : DE X b e env fun _ env1 => E.nx env1) (hs : swapsWith e none pos.line X.env = pure false := by rfl) : DS X b (.Expr e pos) env E := by
  intro σ tv te F H l na A
  exact w_ps (ps_expr pe_w hs) (wE_mono (h σ tv te F H l A) fun v H1 ⟨c, env1, F1, l1, A1, q⟩ => ⟨env1, F1, l1, pop1 l1 A1, q⟩)
theorem ds_ret {e : Expr} (h : DE X b e env E.rt) : DS X b (.Return (some e) pos) env E := by
  intro σ tv te F H l na A
  exact w_ps (ps_ret pe_w) (wE_mono (h σ tv te F H l A) fun v H1 ⟨c, env1, F1, l1, A1, q⟩ => ⟨c, env1, σ, F1, l1, A1, q⟩)
theorem ds_retN (q : E.rt (.fz .non) env) : DS X b (.Return none pos) env E := by
  intro σ tv te F H l na A
  exact w_ps ps_retN ⟨_, env, σ, F, l, A.push_fz .non, q⟩
theorem ds_if {c : Expr} {as bs : List Stmt} (h : DT X b c env fun t env1 => if t = true then DSs X b as env1 E else DSs X b bs env1 E) : DS X b (.If c as bs pos) env E := by
  intro σ tv te F H l na A
  refine w_ps (ps_if pt_w pss_w pss_w) (wT_mono (h σ tv te F H l A) fun t H1 ⟨env1, F1, l1, A1, q⟩ => ?_)
  cases t with
  | true => rw [if_pos rfl] at q ⊢; exact q σ tv te F1 H1 l1 na A1
  | false => rw [if_neg Bool.false_ne_true] at q ⊢; exact q σ tv te F1 H1 l1 na A1

/-! ### moving, freezing -/
theorem lc_set {σ : List (Option V)} {i : Nat} {c : Cell} (l : Lc m env σ) (hc : ∀ j, c ≠ .al j) : Lc m (env.set i c) σ := ⟨by simp [l.len], l.ml, fun t c' h j z => by
  by_cases ht : t = i
  · subst ht
    have hi : t < env.length := by have := (List.getElem?_eq_some_iff.mp h).1; simpa using this
    rw [List.getElem?_set_self hi] at h
    cases h
    exact hc j z
  · rw [List.getElem?_set_ne (Ne.symm ht)] at h
    exact l.na t c' h j z⟩
theorem lc_set2 {σ : List (Option V)} {i : Nat} {c : Cell} {v : Option V} (l : Lc m env σ) (hc : ∀ j, c ≠ .al j) : Lc m (env.set i c) (σ.set i v) := by
  obtain ⟨h1, h2, h3⟩ := lc_set (i := i) l hc
  exact ⟨by simp [l.len], by simpa using l.ml, h3⟩
theorem noal_app {cs ds : List Cell} (h1 : NoAl cs) (h2 : NoAl ds) : NoAl (cs ++ ds) := fun i c h j => by
  by_cases hi : i < cs.length
  · rw [List.getElem?_append_left hi] at h; exact h1 i c h j
  · rw [List.getElem?_append_right (by omega)] at h; exact h2 _ c h j
/-- the local at slot i becomes data -/
theorem dss_freeze (i : Nat) {d : D} {ss : List Stmt} (he : env[i]? = some (.ow d)) (hj : i ∉ js) (h : DSs X b ss (env.set i (.fz d)) E) : DSs X b ss env E := by
  intro σ tv te F H l na A
  have hi : i < env.length := (List.getElem?_eq_some_iff.mp he).1
  obtain ⟨F', A'⟩ := A.freeze (k := i) (d := d) (by rw [List.getElem?_append_left hi]; exact he) hj
  rw [List.set_append_left _ _ hi] at A'
  exact h σ tv te F' H (lc_set l na_fz) na A'
theorem de_freeze (i : Nat) {d : D} {e : Expr} (he : env[i]? = some (.ow d)) (hj : i ∉ js) (h : DE X b e (env.set i (.fz d)) Q) : DE X b e env Q := by
  intro σ tv te F H l A
  have hi : i < env.length := (List.getElem?_eq_some_iff.mp he).1
  obtain ⟨F', A'⟩ := A.freeze (k := i) (d := d) (by rw [List.getElem?_append_left hi]; exact he) hj
  rw [List.set_append_left _ _ hi] at A'
  exact h σ tv te F' H (lc_set l na_fz) A'
/-- the value of an own local in hand is taken out of its slot -/
theorem move_last {σ tv : List (Option V)} {te : List Cell} {F H : Hp} {v : V} {i : Nat} {d : D} (l : Lc m env σ) (A : At X.K b (σ ++ tv ++ [some v]) (env ++ te ++ [.al i]) F H) (he : env[i]? = some (.ow d)) (hj : i ∉ js) : At X.K b (σ ++ tv ++ [some v]) (env.set i .no ++ te ++ [.ow d]) F H := by
  have A0 := pop1 l A
  have hi : i < env.length := (List.getElem?_eq_some_iff.mp he).1
  have hc0 : (env ++ te)[i]? = some (.ow d) := by rw [List.getElem?_append_left hi]; exact he
  obtain ⟨p, hv, fn, ow, h0⟩ := A0.ok i _ hc0
  obtain ⟨q1, q2, _⟩ := last_ok A
  have hvp : v = .ref p := by
    rw [List.getElem?_append_left (by have := l.len; simp; omega), hv] at q2
    exact Option.some.inj (Option.some.inj q2)
  subst hvp
  have A1 : At X.K b (σ ++ tv) ((env ++ te).set i .no) F H := A0.recell i trivial fun _ z => nomatch z
  rw [List.set_append_left _ _ hi] at A1
  refine A1.push ⟨p, rfl, fn, ow, h0.elim .inl fun z => absurd z.1 hj⟩ fun t d1 e1 p1 hc _ hv1 hh => ?_
  injection hv1 with hv1
  subst hv1
  have ht : t ≠ i := fun z => by
    subst z
    rw [List.getElem?_append_left (by simpa using hi), List.getElem?_set_self hi] at hc
    cases hc
  have hc2 : (env ++ te)[t]? = some (.ow d1) := by
    by_cases htl : t < env.length
    · rw [List.getElem?_append_left (by simpa using htl), List.getElem?_set_ne (Ne.symm ht)] at hc
      rw [List.getElem?_append_left htl]; exact hc
    · rw [List.getElem?_append_right (by simp; omega)] at hc
      rw [List.getElem?_append_right (by omega)]
      simpa using hc
  exact ht (A0.inj t i d1 d p hc2 hc0 hh hv)
theorem ds_retO {e : Expr} (h : DE X b e env fun c env1 => ∃ i d, c = .al i ∧ env1[i]? = some (.ow d) ∧ i ∉ js ∧ E.rt (.ow d) (env1.set i .no)) : DS X b (.Return (some e) pos) env E := by
  intro σ tv te F H l na A
  refine w_ps (ps_ret pe_w) (wE_mono (h σ tv te F H l A) fun v H1 ⟨c, env1, F1, l1, A1, i, d, ec, he, hj, q⟩ => ?_)
  subst ec
  exact ⟨_, _, σ, F1, lc_set l1 na_no, move_last l1 A1 he hj, q⟩

/-! ### targets -/
def wG (X : Cx) (tg : Expr) : TG := fun v σ H Q => ∀ (pins : List (Addr × Obj)) (s : Shared) (u : Value), Inv X pins σ H s → RelV v u → wpAny (model X.prog X.w) X.A (assign tg X.env u) (fun _ s' => ∃ σ' H', Inv X pins σ' H' s' ∧ Q σ' H') X.xe s
theorem pg_w {tg : Expr} : PG X tg (wG X tg) := ⟨fun pins s _ _ _ u _ I r h => h pins s u I r⟩
theorem w_pg {tg : Expr} {t : TG} {v : V} {σ : L2.St} {H : Hp} {Q : L2.St → Hp → Prop} (h : PG X tg t) (q : t v σ H Q) : wG X tg v σ H Q := fun pins s u I r => h.run pins s σ H v u Q I r q
/-- a value in hand is stored; al: whether cells in hand may speak of locals -/
def DG (X : Cx) {js : List Nat} {m : Nat} (b : Base js m) (tg : Expr) (c : Cell) (env : List Cell) (Q : List Cell → Prop) : Prop :=
  ∀ (σ tv : List (Option V)) (te : List Cell) (F H : Hp) (v : V), Lc m env σ → NoAl te → At X.K b (σ ++ tv ++ [some v]) (env ++ te ++ [c]) F H →
    wG X tg v σ H fun σ' H' => ∃ env' F', Lc m env' σ' ∧ At X.K b (σ' ++ tv) (env' ++ te) F' H' ∧ Q env'
/-- .. of a comprehension's own names (slots is) -/
def DGo (X : Cx) {js : List Nat} {m : Nat} (b : Base js m) (is : List Nat) (tg : Expr) (c : Cell) (env : List Cell) (Q : List Cell → Prop) : Prop :=
  ∀ (σ tv : List (Option V)) (te : List Cell) (F H : Hp) (v : V), Lc m env σ → At X.K b (σ ++ tv ++ [some v]) (env ++ te ++ [c]) F H →
    wG X tg v σ H fun σ' H' => ∃ env' F', Lc m env' σ' ∧ σ'.length = σ.length ∧ (∀ i, i ∉ is → σ'[i]? = σ[i]?) ∧ At X.K b (σ' ++ tv) (env' ++ te) F' H' ∧ Q env'
theorem dg_name {i : Nat} {x : Str} {c : Cell} {Q : List Cell → Prop} (hN : X.N.Nodup) (hi : X.N[i]? = some x) (hx : Loc X.env.scope x) (hf : X.fn x = true ∨ X.env.scope.names.lookup x = some .local) (hj : i ∉ js) (hl : i < env.length) (hc : ∀ j, c ≠ .al j) (q : Q (env.set i c)) : DG X b (.Name x pos) c env Q := by
  intro σ tv te F H v l na A
  refine w_pg (pg_name hN hi hx hf) ?_
  exact ⟨env.set i c, F, lc_set2 l hc, A.store l.ml l.len (by rw [← l.len]; exact hl) hj (.inr (noal_app l.na na)) hc, q⟩
theorem dgo_name {i : Nat} {x : Str} {c : Cell} {Q : List Cell → Prop} (hN : X.N.Nodup) (hi : X.N[i]? = some x) (hx : Loc X.env.scope x) (hf : X.fn x = true ∨ X.env.scope.names.lookup x = some .local) (him : m ≤ i) (hl : i < env.length) (hj : i ∉ js) (hc : ∀ j, c ≠ .al j) (q : Q (env.set i c)) : DGo X b [i] (.Name x pos) c env Q := by
  intro σ tv te F H v l A
  refine w_pg (pg_name hN hi hx hf) ?_
  exact ⟨env.set i c, F, lc_set2 l hc, by simp, fun t ht => List.getElem?_set_ne (fun z => ht (by simp [z])), A.store l.ml l.len (by rw [← l.len]; exact hl) hj (.inl him) hc, q⟩
/-- several names, one behind the other -/
inductive Puts (X : Cx) : List Expr → List Nat → Prop
  | nil : Puts X [] []
  | cons {i : Nat} {x : Str} {p : Pos} {es : List Expr} {is : List Nat} : X.N[i]? = some x → Loc X.env.scope x → (X.fn x = true ∨ X.env.scope.names.lookup x = some .local) → (assignEach (.Name x p :: es) X.env).map (·.2) = assign (.Name x p) X.env :: (assignEach es X.env).map (·.2) → Puts X es is → Puts X (.Name x p :: es) (i :: is)
def setAll (env : List Cell) : List Nat → List D → List Cell
  | i :: is, d :: ds => setAll (env.set i (.fz d)) is ds
  | _, _ => env
def gAll : List Nat → TGs
  | [] => gNil
  | i :: is => gCons (gName i) (gAll is)
theorem puts_pgs (hN : X.N.Nodup) : ∀ {es : List Expr} {is : List Nat}, Puts X es is → PGs X es (gAll is)
  | _, _, .nil => pgs_nil
  | _, _, .cons h1 h2 h3 h4 r => pgs_cons (pg_name hN h1 h2 h3) (puts_pgs hN r) h4
theorem gAll_ok (own : Bool) : ∀ {is : List Nat} {ds : List D} {vs : List V} {env : List Cell} {σ tv : List (Option V)} {te : List Cell} {F H : Hp} {Q' : L2.St → Hp → Prop}, is.length = ds.length → RpL X.K F vs ds → Lc m env σ → (own = true ∨ NoAl te) → (∀ i ∈ is, i ∉ js ∧ i < env.length ∧ (own = true → m ≤ i)) → At X.K b (σ ++ tv) (env ++ te) F H →
    (∀ σ', Lc m (setAll env is ds) σ' → σ'.length = σ.length → (∀ i, i ∉ is → σ'[i]? = σ[i]?) → At X.K b (σ' ++ tv) (setAll env is ds ++ te) F H → Q' σ' H) → gAll is vs σ H Q'
  | [], [], _, env, σ, _, _, _, _, _, _, .nil, l, _, _, A, k => ⟨rfl, k σ l rfl (fun _ _ => rfl) A⟩
  | i :: is, d :: ds, v :: vs, env, σ, tv, te, F, H, Q', hl, .cons r rs, l, na, hi, A, k => by
    refine ⟨v, vs, rfl, ?_⟩
    show gAll is vs (σ.set i (some v)) H Q'
    obtain ⟨h1, h2, h3⟩ := hi i (List.mem_cons_self ..)
    have A1 := (A.push_fz r).store (k := i) l.ml l.len (by rw [← l.len]; exact h2) h1 (na.elim (fun z => .inl (h3 z)) fun z => .inr (noal_app l.na z)) na_fz
    refine gAll_ok own (by simpa using hl) rs (lc_set2 l na_fz) na (fun t ht => ?_) A1 fun σ' l' e' g' A' => k σ' l' (by rw [e']; simp) (fun t ht => (g' t fun z => ht (List.mem_cons_of_mem _ z)).trans (List.getElem?_set_ne fun z => ht (by simp [z]))) A'
    obtain ⟨g1, g2, g3⟩ := hi t (List.mem_cons_of_mem _ ht)
    exact ⟨g1, by simpa using g2, g3⟩
  | [], _ :: _, _, _, _, _, _, _, _, _, h, _, _, _, _, _, _ => by simp at h
  | _ :: _, [], _, _, _, _, _, _, _, _, h, _, _, _, _, _, _ => by simp at h
theorem dg_tup {es : List Expr} {k : Nat} {is : List Nat} {ds : List D} {Q : List Cell → Prop} (hc : X.calm = true) (hN : X.N.Nodup) (hp : Puts X es is) (hn : (assignEach es X.env).length = is.length) (hst : (assignEach es X.env).findIdx? (·.1) = none) (hl : is.length = ds.length) (hi : ∀ i ∈ is, i ∉ js ∧ i < env.length) (q : Q (setAll env is ds)) : DG X b (.Tuple es k pos) (.fz (.tup ds)) env Q := by
  intro σ tv te F H v l na A
  refine w_pg (pg_tup hc (puts_pgs hN hp) hn hst) ?_
  cases last_fz A with
  | @tup a xs _ h r =>
    refine ⟨a, xs, rfl, A.ex.sqT h, by rw [r.length]; exact hl.symm, ?_⟩
    exact gAll_ok false hl r l (.inr na) (fun i h => ⟨(hi i h).1, (hi i h).2, fun z => by cases z⟩) (pop1 l A) fun σ' l' _ _ A' => ⟨_, F, l', A', q⟩
theorem dgo_tup {es : List Expr} {k : Nat} {is : List Nat} {ds : List D} {Q : List Cell → Prop} (hc : X.calm = true) (hN : X.N.Nodup) (hp : Puts X es is) (hn : (assignEach es X.env).length = is.length) (hst : (assignEach es X.env).findIdx? (·.1) = none) (hl : is.length = ds.length) (hi : ∀ i ∈ is, i ∉ js ∧ i < env.length ∧ m ≤ i) (q : Q (setAll env is ds)) : DGo X b is (.Tuple es k pos) (.fz (.tup ds)) env Q := by
  intro σ tv te F H v l A
  refine w_pg (pg_tup hc (puts_pgs hN hp) hn hst) ?_
  cases last_fz A with
  | @tup a xs _ h r =>
    refine ⟨a, xs, rfl, A.ex.sqT h, by rw [r.length]; exact hl.symm, ?_⟩
    exact gAll_ok true hl r l (.inl rfl) (fun i h => ⟨(hi i h).1, (hi i h).2.1, fun _ => (hi i h).2.2⟩) (pop1 l A) fun σ' l' e' g' A' => ⟨_, F, l', e', g', A', q⟩

/-! ### assignments -/
theorem ds_set {i : Nat} {x : Str} {e : Expr} {pos' : Pos} (hN : X.N.Nodup) (hi : X.N[i]? = some x) (hx : Loc X.env.scope x) (hj : i ∉ js) (h : DE X b e env fun c env1 => (∀ j, c ≠ .al j) ∧ i < env1.length ∧ E.nx (env1.set i c)) (hs : swapsWith e (some (.Name x pos')) pos.line X.env = pure false := by rfl)
    (hf : X.fn x = true ∨ X.env.scope.names.lookup x = some .local := by first | exact .inl rfl | exact .inr rfl) : DS X b (.Assign [.Name x pos'] e pos) env E := by
  intro σ tv te F H l na A
  refine w_ps (ps_set hN hi hx pe_w hs hf) (wE_mono (h σ tv te F H l A) fun v H1 ⟨c, env1, F1, l1, A1, hc, hl, q⟩ => ?_)
  exact ⟨env1.set i c, F1, lc_set2 l1 hc, A1.store l1.ml l1.len (by rw [← l1.len]; exact hl) hj (.inr (noal_app l1.na na)) hc, q⟩
/-- x = y, y an own local: moved -/
theorem ds_move {i : Nat} {x : Str} {e : Expr} {pos' : Pos} (hN : X.N.Nodup) (hi : X.N[i]? = some x) (hx : Loc X.env.scope x) (hj : i ∉ js) (h : DE X b e env fun c env1 => ∃ k d, c = .al k ∧ env1[k]? = some (.ow d) ∧ k ∉ js ∧ i < env1.length ∧ E.nx ((env1.set k .no).set i (.ow d))) (hs : swapsWith e (some (.Name x pos')) pos.line X.env = pure false := by rfl)
    (hf : X.fn x = true ∨ X.env.scope.names.lookup x = some .local := by first | exact .inl rfl | exact .inr rfl) : DS X b (.Assign [.Name x pos'] e pos) env E := by
  intro σ tv te F H l na A
  refine w_ps (ps_set hN hi hx pe_w hs hf) (wE_mono (h σ tv te F H l A) fun v H1 ⟨c, env1, F1, l1, A1, k, d, ec, he, hk, hl, q⟩ => ?_)
  subst ec
  have A2 := move_last l1 A1 he hk
  have l2 : Lc m (env1.set k .no) σ := lc_set l1 na_no
  exact ⟨_, F1, lc_set2 l2 na_ow, A2.store l2.ml l2.len (by rw [← l1.len]; exact hl) hj (.inr (noal_app l2.na na)) na_ow, q⟩
/-- a, b, .. = e, by the target's rule -/
theorem ds_asg {tg e : Expr} (h : DE X b e env fun c env1 => DG X b tg c env1 E.nx) (hs : swapsWithSole [tg] e pos.line X.env = pure false := by rfl) (hw : swappedStores [tg] e X.env = pure none := by rfl)
    (h1 : (assignEach [tg] X.env).map (·.2) = [assign tg X.env] := by rfl) : DS X b (.Assign [tg] e pos) env E := by
  intro σ tv te F H l na A
  refine w_ps (ps_asg pe_w pg_w hs hw h1) (wE_mono (h σ tv te F H l A) fun v H1 ⟨c, env1, F1, l1, A1, q⟩ => ?_)
  exact q σ tv te F1 H1 v l1 na A1
end
end DL


set_option Elab.async false
set_option linter.all false
set_option maxRecDepth 100000
set_option maxHeartbeats 1000000
/-! THE DATA LAYER, 6: what is walked; for, while, list comprehensions. -/
namespace DL
open PySem PySem.Spec PyProof.Rows L2
section
variable {X : Cx} {js : List Nat} {m : Nat} {b : Base js m} {env : List Cell} {Q : Cell → List Cell → Prop} {E : DEnds} {pos : Pos} {tg iter : Expr}
def wI (X : Cx) (tg iter : Expr) : TI := fun σ H R => ∀ (pins : List (Addr × Obj)) (s : Shared), Inv X pins σ H s → wpAny (model X.prog X.w) X.A (eval iter X.env) (fun v s1 => wpAny (model X.prog X.w) X.A (pyIter v) (PIE X pins σ tg R) X.xe s1) X.xe s
theorem pi_w : PI X tg iter (wI X tg iter) := ⟨fun pins s _ _ _ I h => h pins s I⟩
theorem w_pi {t : TI} {σ : L2.St} {H : Hp} {R : It → Hp → Prop} (h : PI X tg iter t) (q : t σ H R) : wI X tg iter σ H R := fun pins s I => h.run pins s σ H R I q
theorem wI_mono {σ : L2.St} {H : Hp} {R R' : It → Hp → Prop} (h : wI X tg iter σ H R) (f : ∀ J H', R J H' → R' J H') : wI X tg iter σ H R' := fun pins s I =>
  thn (h pins s I) fun v s1 q => thn q fun itv s2 ⟨it, fp, tn, J, H', e, I', T, t0, fo, r⟩ => ⟨it, fp, tn, J, H', e, I', T, t0, fo, f J H' r⟩
/-- J yields the data ds, while the values tvi (cells tei) are in hand and C is true of the locals -/
def WalkOk (X : Cx) {js : List Nat} {m : Nat} (b : Base js m) (J : It) (tvi : List (Option V)) (tei : List Cell) (ds : List D) (C : List Cell → Prop) : Prop :=
  ∀ (σ tv tw : List (Option V)) (env te tf : List Cell) (F H : Hp) (k : Nat), Lc m env σ → C env → te.length = tv.length → At X.K b (σ ++ (tv ++ tvi ++ tw)) (env ++ (te ++ tei ++ tf)) F H →
    (k < ds.length → J.go k H) ∧ (∀ x H' d, ds[k]? = some d → J.yld k H x H' → ∃ F', At X.K b (σ ++ (tv ++ tvi ++ tw) ++ [some x]) (env ++ (te ++ tei ++ tf) ++ [.fz d]) F' H') ∧ (ds.length ≤ k → J.stop k H)
def DI (X : Cx) {js : List Nat} {m : Nat} (b : Base js m) (tg iter : Expr) (env : List Cell) (Q : List D → (List Cell → Prop) → List Cell → Prop) : Prop :=
  ∀ (σ tv : List (Option V)) (te : List Cell) (F H : Hp), Lc m env σ → At X.K b (σ ++ tv) (env ++ te) F H →
    wI X tg iter σ H fun J H' => ∃ ds C tvi tei env' F', Lc m env' σ ∧ tei.length = tvi.length ∧ NoAl tei ∧ At X.K b (σ ++ (tv ++ tvi)) (env' ++ (te ++ tei)) F' H' ∧ WalkOk X b J tvi tei ds C ∧ Q ds C env'
/-- .. where cells that speak of locals may be in hand -/
def DIa (X : Cx) {js : List Nat} {m : Nat} (b : Base js m) (tg iter : Expr) (env : List Cell) (Q : List D → (List Cell → Prop) → List Cell → Prop) : Prop :=
  ∀ (σ tv : List (Option V)) (te : List Cell) (F H : Hp), Lc m env σ → At X.K b (σ ++ tv) (env ++ te) F H →
    wI X tg iter σ H fun J H' => ∃ ds C tvi tei env' F', Lc m env' σ ∧ tei.length = tvi.length ∧ At X.K b (σ ++ (tv ++ tvi)) (env' ++ (te ++ tei)) F' H' ∧ WalkOk X b J tvi tei ds C ∧ Q ds C env'
theorem DI.a {Q : List D → (List Cell → Prop) → List Cell → Prop} (h : DI X b tg iter env Q) : DIa X b tg iter env Q :=
  fun σ tv te F H l A => wI_mono (h σ tv te F H l A) fun J H' ⟨ds, C, tvi, tei, env', F', l', hl, _, A', w, q⟩ => ⟨ds, C, tvi, tei, env', F', l', hl, A', w, q⟩
/-- one value in hand -/
theorem one_at {σ tv tw : List (Option V)} {env te tf : List Cell} {v : V} {c : Cell} (he : env.length = σ.length) (hl : te.length = tv.length) : (env ++ (te ++ [c] ++ tf))[(σ ++ tv).length]? = some c ∧ (σ ++ (tv ++ [some v] ++ tw))[(σ ++ tv).length]? = some (some v) := by
  constructor
  · rw [List.getElem?_append_right (by simp; omega)]
    rw [show (σ ++ tv).length - env.length = te.length by simp; omega]
    rw [List.append_assoc, List.getElem?_append_right (Nat.le_refl _), Nat.sub_self]
    rfl
  · rw [List.getElem?_append_right (by simp)]
    rw [show (σ ++ tv).length - σ.length = tv.length by simp]
    rw [List.append_assoc, List.getElem?_append_right (Nat.le_refl _), Nat.sub_self]
    rfl
theorem rp_at {K : PySem.W.Frag} {F : Hp} {xs : List V} {ds : List D} {k : Nat} {x : V} {d : D} (r : RpL K F xs ds) (hx : xs[k]? = some x) (hd : ds[k]? = some d) : Rp K F x d := by
  obtain ⟨d', e, q⟩ := r.get hx
  rw [hd] at e
  cases e
  exact q
theorem walk_list {a : Addr} {c : Cell} {ds : List D} {C : List Cell → Prop} (hw : ∀ env, C env → Vw env c (.lst ds)) : WalkOk X b (Itl X.K a) [some (.ref a)] [c] ds C := by
  intro σ tv tw env te tf F H k l hC hl A
  obtain ⟨h1, h2⟩ := one_at (v := .ref a) (c := c) (tw := tw) (tf := tf) l.len hl
  obtain ⟨a', xs, e, q, r⟩ := (sees_at l A h1 h2 (hw env hC)).list A.ex
  cases e
  have hlen := r.length
  refine ⟨fun hk => ?_, fun x H' d hd y => ?_, fun hk => ⟨xs, q, by omega⟩⟩
  · have hx : k < xs.length := by omega
    exact ⟨xs, xs[k], q, by simp [hx]⟩
  · obtain ⟨e, y⟩ := y
    subst e
    exact ⟨F, A.push_fz (rp_at r (y xs q) hd)⟩
theorem walk_tuple {a : Addr} {c : Cell} {ds : List D} {C : List Cell → Prop} (hw : ∀ env, C env → Vw env c (.tup ds)) : WalkOk X b (Itt X.K a) [some (.ref a)] [c] ds C := by
  intro σ tv tw env te tf F H k l hC hl A
  obtain ⟨h1, h2⟩ := one_at (v := .ref a) (c := c) (tw := tw) (tf := tf) l.len hl
  obtain ⟨a', xs, e, q, r⟩ := (sees_at l A h1 h2 (hw env hC)).tuple A.ex
  cases e
  have hlen := r.length
  refine ⟨fun hk => ?_, fun x H' d hd y => ?_, fun hk => ⟨xs, q, by omega⟩⟩
  · have hx : k < xs.length := by omega
    exact ⟨xs, xs[k], q, by simp [hx]⟩
  · obtain ⟨e, y⟩ := y
    subst e
    exact ⟨F, A.push_fz (rp_at r (y xs q) hd)⟩
theorem walk_range {lo : Int} {n : Nat} {C : List Cell → Prop} : WalkOk X b (Itr lo n) [] [] ((List.range n).map fun i => .int (lo + (i : Nat))) C := by
  intro σ tv tw env te tf F H k l hC hl A
  refine ⟨fun hk => ?_, fun x H' d hd y => ?_, fun hk => ?_⟩
  · show k < n
    simpa using hk
  · obtain ⟨e, y⟩ := y
    subst e
    subst y
    rw [List.getElem?_map] at hd
    have hk : k < n := by
      cases q : (List.range n)[k]? with
      | none => rw [q] at hd; cases hd
      | some z => have := (List.getElem?_eq_some_iff.mp q).1; simpa using this
    rw [List.getElem?_range hk] at hd
    cases hd
    exact ⟨F, A.push_fz (.int _)⟩
  · show n ≤ k
    simpa using hk
/-- a list, a tuple that an expression gives; for a statement it is data or ours alone -/
theorem di_list {Q : List D → (List Cell → Prop) → List Cell → Prop} (h : DE X b iter env fun c env1 => ∃ ds, (c = .fz (.lst ds) ∨ c = .ow (.lst ds)) ∧ Q ds (fun _ => True) env1) : DI X b tg iter env Q := by
  intro σ tv te F H l A
  refine w_pi (pi_list pe_w) (wE_mono (h σ tv te F H l A) fun v H1 ⟨c, env1, F1, l1, A1, ds, hc, q⟩ => ?_)
  have hw : ∀ env, Vw env c (.lst ds) := fun env => by
    rcases hc with e | e
    · subst e; exact .fz _
    · subst e; exact .ow _
  obtain ⟨a, xs, e, sq, r⟩ := (sees_last l1 A1 (hw env1)).list A1.ex
  subst e
  refine ⟨a, rfl, ⟨xs, sq⟩, ds, fun _ => True, [some (.ref a)], [c], env1, F1, l1, rfl, fun i c' h j z => ?_, ?_, walk_list fun env _ => hw env, q⟩
  · cases i with
    | zero =>
      have e : c = c' := by simpa using h
      subst e
      rcases hc with e | e <;> rw [e] at z <;> cases z
    | succ i => simp at h
  · rw [← List.append_assoc, ← List.append_assoc]; exact A1
theorem dia_list {Q : List D → (List Cell → Prop) → List Cell → Prop} (h : DE X b iter env fun c env1 => ∃ ds i, c = .al i ∧ env1[i]? = some (.ow (.lst ds)) ∧ Q ds (fun e => e[i]? = some (.ow (.lst ds))) env1) : DIa X b tg iter env Q := by
  intro σ tv te F H l A
  refine w_pi (pi_list pe_w) (wE_mono (h σ tv te F H l A) fun v H1 ⟨c, env1, F1, l1, A1, ds, i, hc, he, q⟩ => ?_)
  subst hc
  obtain ⟨a, xs, e, sq, r⟩ := (sees_last l1 A1 (.al he)).list A1.ex
  subst e
  refine ⟨a, rfl, ⟨xs, sq⟩, ds, _, [some (.ref a)], [.al i], env1, F1, l1, rfl, ?_, walk_list fun env he => .al he, q⟩
  rw [← List.append_assoc, ← List.append_assoc]; exact A1
theorem di_tuple {Q : List D → (List Cell → Prop) → List Cell → Prop} (h : DE X b iter env fun c env1 => ∃ ds, c = .fz (.tup ds) ∧ Q ds (fun _ => True) env1) : DI X b tg iter env Q := by
  intro σ tv te F H l A
  refine w_pi (pi_tup pe_w) (wE_mono (h σ tv te F H l A) fun v H1 ⟨c, env1, F1, l1, A1, ds, hc, q⟩ => ?_)
  subst hc
  obtain ⟨a, xs, e, sq, r⟩ := (sees_last l1 A1 (.fz _)).tuple A1.ex
  subst e
  refine ⟨a, rfl, ⟨xs, sq⟩, ds, fun _ => True, [some (.ref a)], [.fz (.tup ds)], env1, F1, l1, rfl, fun i c' h j z => ?_, ?_, walk_tuple fun env _ => .fz _, q⟩
  · cases i with
    | zero =>
      have e : Cell.fz (.tup ds) = c' := by simpa using h
      rw [← e] at z; cases z
    | succ i => simp at h
  · rw [← List.append_assoc, ← List.append_assoc]; exact A1
theorem da_range1 {e : Expr} {p : Pos} {Q : List D → (List Cell → Prop) → List Cell → Prop} (hg : Gl X "range") (hm : X.mg "range" = none) (h : DE X b e env fun c env1 => ∃ j : Int, Vw env1 c (.int j) ∧ j < 2 ^ 60 ∧ -(2 ^ 60) < j ∧ Q ((List.range j.toNat).map fun i => .int ((i : Nat) : Int)) (fun _ => True) env1) (hs : starEach [e] X.env = [(false, eval e X.env)] := by rfl) : DI X b tg (.Call (.Name "range" p) [e] [] pos) env Q := by
  intro σ tv te F H l A
  refine w_pi (pi_range1 hg hm (pa_cons pe_w pa_nil (by rw [hs]; rfl)) hs) (wE_mono (h σ tv te F H l A) fun v H1 ⟨c, env1, F1, l1, A1, j, hw, h1, h2, q⟩ => ?_)
  refine ⟨j, by rw [(sees_last l1 A1 hw).rp_int], by omega, by omega, _, fun _ => True, [], [], env1, F1, l1, rfl, fun i c' h => by simp at h, by rw [List.append_nil, List.append_nil]; exact pop1 l1 A1, walk_range, ?_⟩
  simpa using q
theorem da_range2 {e e2 : Expr} {p : Pos} {Q : List D → (List Cell → Prop) → List Cell → Prop} (hg : Gl X "range") (hm : X.mg "range" = none) (h : DE X b e env fun c env1 => DE X b e2 env1 fun c2 env2 => ∃ i j : Int, c = .fz (.int i) ∧ c2 = .fz (.int j) ∧ -(2 ^ 60) < i ∧ i < 2 ^ 60 ∧ j < 2 ^ 60 ∧ -(2 ^ 60) < j ∧ Q ((List.range (j - i).toNat).map fun t => .int (i + (t : Nat))) (fun _ => True) env2) (hs : starEach [e, e2] X.env = [(false, eval e X.env), (false, eval e2 X.env)] := by rfl) (hs2 : starEach [e2] X.env = [(false, eval e2 X.env)] := by rfl) : DI X b tg (.Call (.Name "range" p) [e, e2] [] pos) env Q := by
  intro σ tv te F H l A
  refine w_pi (pi_range2 hg hm (pa_cons pe_w (pa_cons pe_w pa_nil (by rw [hs2]; rfl)) (by rw [hs, hs2])) hs hs2) (wE_mono (h σ tv te F H l A) fun v H1 ⟨c, env1, F1, l1, A1, h1⟩ => ?_)
  have A1' : At X.K b (σ ++ (tv ++ [some v])) (env1 ++ (te ++ [c])) F1 H1 := by rw [← List.append_assoc, ← List.append_assoc]; exact A1
  refine wE_mono (h1 σ (tv ++ [some v]) (te ++ [c]) F1 H1 l1 A1') fun v2 H2 ⟨c2, env2, F2, l2, A2, i, j, e1, e2, b1, b2, b3, b4, q⟩ => ?_
  subst e1; subst e2
  have A2' : At X.K b (σ ++ tv ++ [some v] ++ [some v2]) (env2 ++ te ++ [.fz (.int i)] ++ [.fz (.int j)]) F2 H2 := by rw [List.append_assoc σ tv, List.append_assoc env2 te]; exact A2
  obtain ⟨s1, s2⟩ := sees_2 l2 A2' (.fz _) (.fz _)
  refine ⟨i, j, by rw [s1.rp_int, s2.rp_int], ⟨by omega, by omega, by omega, by omega⟩, _, fun _ => True, [], [], env2, F2, l2, rfl, fun i c' h => by simp at h, by rw [List.append_nil, List.append_nil]; exact pop2 l2 A2', walk_range, q⟩

/-! ### for -/
theorem drop_walk {σ tv tvi : List (Option V)} {te tei : List Cell} {F H : Hp} (l : Lc m env σ) (hte : te.length = tv.length) (hl : tei.length = tvi.length) (A : At X.K b (σ ++ (tv ++ tvi)) (env ++ (te ++ tei)) F H) : At X.K b (σ ++ tv) (env ++ te) F H := by
  have A1 : At X.K b (σ ++ tv ++ tvi ++ []) (env ++ te ++ tei ++ []) F H := by rw [List.append_nil, List.append_nil, List.append_assoc, List.append_assoc]; exact A
  have A2 := A1.dropMid (by have := l.len; simp; omega) hl l.le
  rw [List.append_nil, List.append_nil] at A2
  exact A2
theorem ds_for {body : List Stmt} (hc : X.calm = true) (hp : PassesOwn (model X.prog X.w) X.A X.env X.xe)
    (h : DI X b tg iter env fun ds C env1 => ∃ I : Nat → List Cell → Prop, I 0 env1 ∧ (∀ k e, I k e → C e) ∧ (∀ k d e, ds[k]? = some d → I k e → DG X b tg (.fz d) e fun e2 => DSs X b body e2 { nx := I (k + 1), ct := I (k + 1), bk := E.nx, rt := E.rt }) ∧ ∀ e, I ds.length e → E.nx e)
    (hs : ∀ x, foldedSetIterable iter X.env x = pure x := by intro _; rfl) : DS X b (.For tg iter body [] pos) env E := by
  intro σ tv te F H l na A
  refine w_ps (ps_for hp hc pi_w pg_w pss_w hs) (wI_mono (h σ tv te F H l A) fun J H1 ⟨ds, C, tvi, tei, env1, F1, l1, hl, nai, A1, wk, I, i0, iC, turn, fin⟩ => ?_)
  have hte : te.length = tv.length := by have h1 := A.len; have h2 := l.len; simp at h1; omega
  refine ⟨fun k μ σ' H' => μ = ds.length - k ∧ k ≤ ds.length ∧ ∃ e F', Lc m e σ' ∧ At X.K b (σ' ++ (tv ++ tvi)) (e ++ (te ++ tei)) F' H' ∧ I k e, ⟨ds.length, by simp, Nat.zero_le _, env1, F1, l1, A1, i0⟩, ?_⟩
  rintro k μ σ' H' ⟨rfl, hk, e, F', l', A', ik⟩
  have A'' : At X.K b (σ' ++ (tv ++ tvi ++ [])) (e ++ (te ++ tei ++ [])) F' H' := by rw [List.append_nil, List.append_nil]; exact A'
  obtain ⟨w1, w2, w3⟩ := wk σ' tv [] e te [] F' H' k l' (iC k e ik) hte A''
  by_cases hlt : k < ds.length
  · refine .inr ⟨w1 hlt, fun σ2 H2 => ∃ e F', Lc m e σ2 ∧ At X.K b (σ2 ++ (tv ++ tvi)) (e ++ (te ++ tei)) F' H2 ∧ I (k + 1) e, fun σ2 H2 q => ⟨ds.length - (k + 1), by omega, rfl, hlt, q⟩, fun x H2 y => ?_⟩
    obtain ⟨F2, A2⟩ := w2 x H2 ds[k] (List.getElem?_eq_getElem hlt) y
    rw [List.append_nil, List.append_nil] at A2
    have t := turn k ds[k] e (List.getElem?_eq_getElem hlt) ik σ' (tv ++ tvi) (te ++ tei) F2 H2 x l' ?_ A2
    · intro pins s u Iv r
      refine thn (t pins s u Iv r) fun _ s' ⟨σ3, H3, I3, e3, F3, l3, A3, q3⟩ => ⟨σ3, H3, I3, ?_⟩
      refine wSs_le (q3 σ3 (tv ++ tvi) (te ++ tei) F3 H3 l3 (noal_app na nai) A3) (fun _ _ q => q) (fun v H4 ⟨c, e4, σ4, F4, l4, A4, q4⟩ => ?_) (fun σ4 H4 ⟨e4, F4, l4, A4, q4⟩ => ?_) fun _ _ q => q
      · refine ⟨c, e4, σ4, F4, l4, ?_, q4⟩
        rw [← List.append_assoc, ← List.append_assoc] at A4
        exact A4.dropMid (by have := l4.len; simp; omega) hl l4.le
      · exact ⟨e4, F4, l4, drop_walk l4 hte hl A4, q4⟩
    · exact noal_app na nai
  · have ek : k = ds.length := by omega
    subst ek
    exact .inl ⟨w3 (Nat.le_refl _), e, F', l', drop_walk l' hte hl A', fin e ik⟩

/-! ### while -/
theorem ds_while {c : Expr} {body : List Stmt} (hp : PassesOwn (model X.prog X.w) X.A X.env X.xe) (I : List Cell → Prop) (μ : List Cell → Nat) (h0 : I env)
    (hs : ∀ e, I e → DT X b c e fun t e1 => if t = true then DSs X b body e1 { nx := fun e2 => I e2 ∧ μ e2 < μ e, ct := fun e2 => I e2 ∧ μ e2 < μ e, bk := E.nx, rt := E.rt } else E.nx e1) : DS X b (.While c body [] pos) env E := by
  intro σ tv te F H l na A
  refine w_ps (ps_while hp pt_w pss_w) ⟨fun k σ' H' => ∃ e F', Lc m e σ' ∧ At X.K b (σ' ++ tv) (e ++ te) F' H' ∧ I e ∧ k = μ e, ⟨_, env, F, l, A, h0, rfl⟩, ?_⟩
  rintro k σ' H' ⟨e, F', l', A', ie, rfl⟩
  refine wT_mono (hs e ie σ' tv te F' H' l' A') fun t H1 ⟨e1, F1, l1, A1, q⟩ => ?_
  cases t with
  | true =>
    rw [if_pos rfl] at q ⊢
    refine ⟨fun σ2 H2 => ∃ e2 F2, Lc m e2 σ2 ∧ At X.K b (σ2 ++ tv) (e2 ++ te) F2 H2 ∧ I e2 ∧ μ e2 < μ e, fun σ2 H2 ⟨e2, F2, l2, A2, i2, h2⟩ => ⟨_, h2, e2, F2, l2, A2, i2, rfl⟩, ?_⟩
    exact wSs_le (q σ' tv te F1 H1 l1 na A1) (fun _ _ q => q) (fun _ _ q => q) (fun _ _ q => q) fun _ _ q => q
  | false =>
    rw [if_neg Bool.false_ne_true] at q ⊢
    exact ⟨e1, F1, l1, A1, q⟩

/-! ### list comprehensions -/
/-- the slots of a block's own names cleared -/
def clr (env : List Cell) : List Nat → List Cell
  | [] => env
  | i :: is => (clr env is).set i .no
theorem clr_len (env : List Cell) : ∀ is : List Nat, (clr env is).length = env.length
  | [] => rfl
  | i :: is => by unfold clr; rw [List.length_set, clr_len env is]
theorem clr_out {env : List Cell} {k : Nat} : ∀ {is : List Nat}, k ∉ is → (clr env is)[k]? = env[k]?
  | [], _ => rfl
  | i :: is, h => by
    unfold clr
    rw [List.getElem?_set_ne (fun z => h (by simp [z])), clr_out fun z => h (List.mem_cons_of_mem _ z)]
theorem clr_in {env : List Cell} {k : Nat} : ∀ {is : List Nat}, k ∈ is → k < env.length → (clr env is)[k]? = some .no
  | i :: is, h, hl => by
    unfold clr
    by_cases e : i = k
    · subst e
      rw [List.getElem?_set_self (by rw [clr_len]; exact hl)]
    · rw [List.getElem?_set_ne e]
      rcases List.mem_cons.mp h with z | z
      · exact absurd z.symm e
      · exact clr_in z hl
theorem lc_clr {σ : List (Option V)} {is : List Nat} (l : Lc m env σ) : Lc m (clr env is) σ := ⟨by rw [clr_len]; exact l.len, l.ml, fun i c h j => by
  by_cases hi : i ∈ is
  · rw [clr_in hi (by have := (List.getElem?_eq_some_iff.mp h).1; rw [clr_len] at this; exact this)] at h
    cases h
    exact na_no j
  · rw [clr_out hi] at h
    exact l.na i c h j⟩
/-- cells forgotten -/
theorem At.clear {vs : List (Option V)} {te : List Cell} {F H : Hp} : ∀ {is : List Nat}, (∀ i ∈ is, i < env.length) → At X.K b vs (env ++ te) F H → At X.K b vs (clr env is ++ te) F H
  | [], _, A => A
  | i :: is, hl, A => by
    have A1 := At.clear (is := is) (fun t ht => hl t (List.mem_cons_of_mem _ ht)) A
    have A2 := A1.recell i (c := .no) trivial fun _ z => nomatch z
    rw [List.set_append_left _ _ (by rw [clr_len]; exact hl i (List.mem_cons_self ..))] at A2
    exact A2
/-- values of slots of which nothing is known may be others -/
theorem At.revalue {σ σ' tv : List (Option V)} {te : List Cell} {F H : Hp} {is : List Nat} (l : Lc m env σ) (hl : σ'.length = σ.length) (hi : ∀ i ∈ is, m ≤ i ∧ env[i]? = some .no) (hv : ∀ i, i ∉ is → σ'[i]? = σ[i]?) (A : At X.K b (σ ++ tv) (env ++ te) F H) : At X.K b (σ' ++ tv) (env ++ te) F H where
  len := by have := A.len; simp at this ⊢; omega
  ml := by have := l.ml; simp; omega
  jl := A.jl
  ex := A.ex
  tp := A.tp
  ex0 := A.ex0
  new := A.new
  fr := A.fr
  live := A.live
  ok := fun k c h => by
    have same : ∀ k, k ∉ is → (σ' ++ tv)[k]? = (σ ++ tv)[k]? := fun k hk => by
      by_cases hs : k < σ.length
      · rw [List.getElem?_append_left (by omega), List.getElem?_append_left hs, hv k hk]
      · rw [List.getElem?_append_right (by omega), List.getElem?_append_right (by omega), hl]
    by_cases hk : k ∈ is
    · obtain ⟨_, e⟩ := hi k hk
      have hke := (List.getElem?_eq_some_iff.mp e).1
      rw [List.getElem?_append_left hke, e] at h
      cases h
      trivial
    · rw [same k hk]
      have q := A.ok k c h
      cases c with
      | no => trivial
      | fz d => exact q
      | ow d => exact q
      | al j =>
        obtain ⟨q1, q2, q3⟩ := q
        exact ⟨q1, by rw [same j fun z => absurd (hi j z).1 (by omega)]; exact q2, q3⟩
      | lk o u => exact q
  inj := fun i j d e p h1 h2 h3 h4 => by
    have same : ∀ (k : Nat) d, (env ++ te)[k]? = some (.ow d) → (σ' ++ tv)[k]? = (σ ++ tv)[k]? := fun k d h => by
      by_cases hk : k ∈ is
      · obtain ⟨_, e⟩ := hi k hk
        rw [List.getElem?_append_left (List.getElem?_eq_some_iff.mp e).1, e] at h
        cases h
      · by_cases hs : k < σ.length
        · rw [List.getElem?_append_left (by omega), List.getElem?_append_left hs, hv k hk]
        · rw [List.getElem?_append_right (by omega), List.getElem?_append_right (by omega), hl]
    exact A.inj i j d e p h1 h2 ((same i d h1).symm.trans h3) ((same j e h2).symm.trans h4)
  io := fun k j p h1 h2 => by
    have hj := A.jl j (List.mem_of_getElem? h1)
    have q := A.io k j p h1 h2
    have := l.ml
    rw [List.getElem?_append_left (by omega)] at q
    rw [List.getElem?_append_left (by omega), hv j fun z => absurd (hi j z).1 (by omega)]
    exact q
theorem wipe_eq {σ σ' : L2.St} {is : List Nat} (hl : σ'.length = σ.length) (hv : ∀ i, i ∉ is → σ'[i]? = σ[i]?) : wipe σ' is = wipe σ is := by
  apply List.ext_getElem?
  intro i
  by_cases hi : i ∈ is
  · have w : ∀ (σ : L2.St), i < σ.length → (wipe σ is)[i]? = some none := fun σ hs => by
      have : (wipe σ is)[i]? ≠ none := by
        rw [Ne, List.getElem?_eq_none_iff, wipe_length]; omega
      cases q : (wipe σ is)[i]? with
      | none => exact absurd q this
      | some o =>
        cases o with
        | none => rfl
        | some x => exact absurd hi (wipe_some q).2
    by_cases hs : i < σ.length
    · rw [w σ hs, w σ' (by omega)]
    · rw [List.getElem?_eq_none (by rw [wipe_length]; omega), List.getElem?_eq_none (by rw [wipe_length]; omega)]
  · rw [wipe_out hi, wipe_out hi, hv i hi]
theorem lc_wipe {σ : List (Option V)} {is : List Nat} (l : Lc m env σ) : Lc m env (wipe σ is) := ⟨by rw [wipe_length]; exact l.len, by rw [wipe_length]; exact l.ml, l.na⟩
/-- tests of a comprehension -/
def DTs (X : Cx) {js : List Nat} {m : Nat} (b : Base js m) : List Expr → List Cell → (Bool → List Cell → Prop) → Prop
  | [], env, Q => Q true env
  | [c], env, Q => DT X b c env Q
  | _, _, _ => False
abbrev blkX (X : Cx) (scope : Scope) (s : Shared) (H : Hp) (C : Addr) (cl : List (Str × Addr)) (fp : List Addr) : Cx := X.blk s H scope (compEnvC scope cl C X.env) fp
/-- what a turn of a list comprehension is to do -/
def LcTurn (X : Cx) {js : List Nat} {m : Nat} (b : Base js m) (scope : Scope) (is : List Nat) (tg elt : Expr) (ifs : List Expr) (d : D) (e : List Cell) (R : Option D → List Cell → Prop) : Prop :=
  ∀ (s : Shared) (H : Hp) (C : Addr) (cl : List (Str × Addr)) (fp : List Addr), DGo (blkX X scope s H C cl fp) b is tg (.fz d) e fun e2 =>
    ∀ (s : Shared) (H : Hp) (C : Addr) (cl : List (Str × Addr)) (fp : List Addr), DTs (blkX X scope s H C cl fp) b ifs e2 fun t e3 =>
      if t = true then ∀ (s : Shared) (H : Hp) (C : Addr) (cl : List (Str × Addr)) (fp : List Addr), DE (blkX X scope s H C cl fp) b elt e3 fun c e4 => ∃ d', c = .fz d' ∧ R (some d') (clr e4 is) else R none (clr e3 is)
/-- the readings that hold in every block -/
def gAny (X : Cx) (scope : Scope) (tg : Expr) : TG := fun v σ H Q => ∀ (s : Shared) (H0 : Hp) (C : Addr) (cl : List (Str × Addr)) (fp : List Addr), wG (blkX X scope s H0 C cl fp) tg v σ H Q
def eAny (X : Cx) (scope : Scope) (e : Expr) : TE := fun σ H Q => ∀ (s : Shared) (H0 : Hp) (C : Addr) (cl : List (Str × Addr)) (fp : List Addr), wE (blkX X scope s H0 C cl fp) e σ H Q
def tAny (X : Cx) (scope : Scope) : List Expr → TT
  | [] => tYes
  | [c] => fun σ H Q => ∀ (s : Shared) (H0 : Hp) (C : Addr) (cl : List (Str × Addr)) (fp : List Addr), wT (blkX X scope s H0 C cl fp) c σ H Q
  | _ => fun _ _ _ => False
theorem pts_any {scope : Scope} (ifs : List Expr) (s : Shared) (H0 : Hp) (C : Addr) (cl : List (Str × Addr)) (fp : List Addr) : PTs (blkX X scope s H0 C cl fp) ifs (tAny X scope ifs) := by
  cases ifs with
  | nil => exact pts_nil
  | cons c r =>
    cases r with
    | nil => exact pts_one ⟨fun pins s' _ _ _ I h => h s H0 C cl fp pins s' I⟩
    | cons c2 r => exact ⟨fun _ _ _ _ _ _ h => h.elim⟩
/-- the reading of a list comprehension -/
theorem lc_read {elt : Expr} {ifs : List Expr} {scope : Scope} {is : List Nat} {σ tv : List (Option V)} {te : List Cell} {F H : Hp} {Q' : VK} (l : Lc m env σ) (A : At X.K b (σ ++ tv) (env ++ te) F H) (him : ∀ i ∈ is, m ≤ i ∧ i ∉ js)
    (h : DIa X b tg iter env fun ds C env1 => ds.length ≤ 100000 ∧ ∃ I : Nat → List D → List Cell → Prop, I 0 [] env1 ∧ (∀ k acc e, I k acc e → C e ∧ acc.length ≤ k ∧ ∀ i ∈ is, e[i]? = some .no) ∧ (∀ k d acc e, ds[k]? = some d → I k acc e → LcTurn X b scope is tg elt ifs d e fun o e' => match o with | some d' => I (k + 1) (acc ++ [d']) e' | none => I (k + 1) acc e') ∧ ∀ acc e, I ds.length acc e → Q (.ow (.lst acc)) e)
    (k : ∀ v H' c env' F', Lc m env' σ → At X.K b (σ ++ tv ++ [some v]) (env' ++ te ++ [c]) F' H' → Q c env' → Q' v H') :
    tLc (wI X tg iter) (gAny X scope tg) (tAny X scope ifs) (eAny X scope elt) is σ H Q' := by
  refine wI_mono (h σ tv te F H l A) fun J H1 ⟨ds, C, tvi, tei, env1, F1, l1, hl, A1, wk, hz, I, i0, iC, turn, fin⟩ => ?_
  intro D hD
  have hte : te.length = tv.length := by have h1 := A.len; have h2 := l.len; simp at h1; omega
  refine ⟨fun k μ H' => μ = ds.length - k ∧ k ≤ ds.length ∧ ∃ acc e F', Lc m e σ ∧ At X.K b (σ ++ (tv ++ tvi ++ [some (.ref D)])) (e ++ (te ++ tei ++ [.ow (.lst acc)])) F' H' ∧ I k acc e, ⟨ds.length, by simp, Nat.zero_le _, [], env1, F1, l1, ?_, i0⟩, ?_⟩
  · have A2 := A1.alloc_ow (o := .lst []) (d := .lst []) hD (.lst upd_same .nil)
    rw [List.append_assoc σ, List.append_assoc env1] at A2
    exact A2
  · rintro k μ H' ⟨rfl, hk, acc, e, F', l', A', ik⟩
    obtain ⟨c1, c2, c3⟩ := iC k acc e ik
    obtain ⟨w1, w2, w3⟩ := wk σ tv [some (.ref D)] e te [.ow (.lst acc)] F' H' k l' c1 hte A'
    by_cases hlt : k < ds.length
    · refine .inr ⟨w1 hlt, fun H2 => ∃ acc e F', Lc m e σ ∧ At X.K b (σ ++ (tv ++ tvi ++ [some (.ref D)])) (e ++ (te ++ tei ++ [.ow (.lst acc)])) F' H2 ∧ I (k + 1) acc e, fun H2 q => ⟨ds.length - (k + 1), by omega, rfl, hlt, q⟩, fun x H2 y => ?_⟩
      obtain ⟨F2, A2⟩ := w2 x H2 ds[k] (List.getElem?_eq_getElem hlt) y
      have t := turn k ds[k] acc e (List.getElem?_eq_getElem hlt) ik
      -- back to the slots as they were
      have back : ∀ {σ2 : List (Option V)} {e2 : List Cell} {tw : List (Option V)} {tf : List Cell} {F3 H3 : Hp}, Lc m e2 σ2 → σ2.length = σ.length → (∀ i, i ∉ is → σ2[i]? = σ[i]?) → At X.K b (σ2 ++ tw) (e2 ++ tf) F3 H3 → Lc m (clr e2 is) σ ∧ At X.K b (σ ++ tw) (clr e2 is ++ tf) F3 H3 := fun {σ2 e2 tw tf F3 H3} l2 hl2 hv2 A3 => by
        have hle : ∀ i ∈ is, i < e2.length := fun i hi => by
          have := (List.getElem?_eq_some_iff.mp (c3 i hi)).1
          have h1 := l'.len
          have h2 := l2.len
          omega
        have A4 := A3.clear hle
        have l3 : Lc m (clr e2 is) σ2 := lc_clr l2
        have A5 := A4.revalue (σ' := σ) l3 hl2.symm (fun i hi => ⟨(him i hi).1, clr_in hi (hle i hi)⟩) fun i hi => (hv2 i hi).symm
        exact ⟨⟨by rw [l3.len]; exact hl2, l.ml, l3.na⟩, A5⟩
      have Aw : At X.K b (wipe σ is ++ (tv ++ tvi ++ [some (.ref D)]) ++ [some x]) (e ++ (te ++ tei ++ [.ow (.lst acc)]) ++ [.fz ds[k]]) F2 H2 := by
        rw [List.append_assoc σ, List.append_assoc e] at A2
        rw [List.append_assoc (wipe σ is), List.append_assoc e]
        exact A2.revalue (env := e) (σ := σ) l' (wipe_length _ _) (fun i hi => ⟨(him i hi).1, c3 i hi⟩) fun i hi => wipe_out hi
      intro s H0 Ca cl fp pins s' u Iv r
      refine thn (t s H0 Ca cl fp (wipe σ is) (tv ++ tvi ++ [some (.ref D)]) (te ++ tei ++ [.ow (.lst acc)]) F2 H2 x (lc_wipe l') Aw pins s' u Iv r) fun _ s2 ⟨σ2, H3, I2, e2, F3, l2, hl2, hv2, A3, q3⟩ => ⟨σ2, H3, I2, ?_⟩
      have hl2' : σ2.length = σ.length := by rw [hl2, wipe_length]
      have hv2' : ∀ i, i ∉ is → σ2[i]? = σ[i]? := fun i hi => by rw [hv2 i hi, wipe_out hi]
      refine ⟨by rw [wipe_eq hl2 hv2, wipe_eq (wipe_length _ _) fun i hi => wipe_out hi], ?_⟩
      -- the tests
      have rest : ∀ (t : Bool) (H4 : Hp) (e3 : List Cell) (F4 : Hp), Lc m e3 σ2 → At X.K b (σ2 ++ (tv ++ tvi ++ [some (.ref D)])) (e3 ++ (te ++ tei ++ [.ow (.lst acc)])) F4 H4 →
          (if t = true then ∀ (s : Shared) (H : Hp) (C : Addr) (cl : List (Str × Addr)) (fp : List Addr), DE (blkX X scope s H C cl fp) b elt e3 fun c e4 => ∃ d', c = .fz d' ∧ I (k + 1) (acc ++ [d']) (clr e4 is) else I (k + 1) acc (clr e3 is)) →
          (if t = true then eAny X scope elt σ2 H4 fun y H5 => ∃ acc, H5 D = some (.lst acc) ∧ acc.length < sizeLine ∧ ∃ acc2 e F', Lc m e σ ∧ At X.K b (σ ++ (tv ++ tvi ++ [some (.ref D)])) (e ++ (te ++ tei ++ [.ow (.lst acc2)])) F' (upd H5 D (.lst (acc ++ [y]))) ∧ I (k + 1) acc2 e else ∃ acc e F', Lc m e σ ∧ At X.K b (σ ++ (tv ++ tvi ++ [some (.ref D)])) (e ++ (te ++ tei ++ [.ow (.lst acc)])) F' H4 ∧ I (k + 1) acc e) := by
        intro t H4 e3 F4 l3 A4 q4
        cases t with
        | false =>
          rw [if_neg Bool.false_ne_true] at q4 ⊢
          obtain ⟨b1, b2⟩ := back l3 hl2' hv2' A4
          exact ⟨acc, _, F4, b1, b2, q4⟩
        | true =>
          rw [if_pos rfl] at q4 ⊢
          intro s3 H03 C3 cl3 fp3
          refine wE_mono (q4 s3 H03 C3 cl3 fp3 σ2 _ _ F4 H4 l3 A4) fun y H5 ⟨c, e4, F5, l4, A5, d', ec, q5⟩ => ?_
          subst ec
          have ry := last_fz A5
          have A6 := pop1 l4 A5
          have hp : (e4 ++ (te ++ tei ++ [Cell.ow (.lst acc)]))[(σ2 ++ (tv ++ tvi)).length]? = some (.ow (.lst acc)) ∧ (σ2 ++ (tv ++ tvi ++ [some (V.ref D)]))[(σ2 ++ (tv ++ tvi)).length]? = some (some (.ref D)) := by
            have := one_at (σ := σ2) (tv := tv ++ tvi) (tw := []) (env := e4) (te := te ++ tei) (tf := []) (v := .ref D) (c := .ow (.lst acc)) l4.len (by simp; omega)
            simpa using this
          obtain ⟨fn, ow, _⟩ := A6.addr hp.1 hp.2
          cases ow with
          | @lst av _ hh rr =>
            have hal : av.length < sizeLine := by
              rw [rr.length]
              exact Nat.lt_of_le_of_lt (Nat.le_trans c2 (Nat.le_trans (Nat.le_of_lt hlt) hz)) (by decide)
            refine ⟨av, hh, hal, acc ++ [d'], clr e4 is, F5, ?_⟩
            have A7 := A6.write (d' := .lst (acc ++ [d'])) (o := .lst (av ++ [y])) hp.1 hp.2 (.lst upd_same (rr.append (.cons ry .nil)))
            have es : (e4 ++ (te ++ tei ++ [Cell.ow (.lst acc)])).set (σ2 ++ (tv ++ tvi)).length (.ow (.lst (acc ++ [d']))) = e4 ++ (te ++ tei ++ [.ow (.lst (acc ++ [d']))]) := by
              rw [← List.append_assoc e4 (te ++ tei), ← List.append_assoc e4 (te ++ tei), List.set_append_right _ _ (by have := l4.len; simp; omega)]
              rw [show (σ2 ++ (tv ++ tvi)).length - (e4 ++ (te ++ tei)).length = 0 by have := l4.len; simp; omega]
              rfl
            rw [es] at A7
            obtain ⟨b1, b2⟩ := back l4 hl2' hv2' A7
            exact ⟨b1, b2, q5⟩
      cases ifs with
      | nil =>
        show (fun b H3 => _) true H3
        exact rest true H3 e2 F3 l2 A3 (q3 s H0 Ca cl fp)
      | cons c r =>
        cases r with
        | nil =>
          intro s4 H04 C4 cl4 fp4
          refine wT_mono (q3 s4 H04 C4 cl4 fp4 σ2 _ _ F3 H3 l2 A3) fun t H4 ⟨e3, F4, l3, A4, q4⟩ => ?_
          exact rest t H4 e3 F4 l3 A4 q4
        | cons c2 r => exact (q3 s H0 Ca cl fp).elim
    · have ek : k = ds.length := by omega
      subst ek
      refine .inl ⟨w3 (Nat.le_refl _), k _ _ (.ow (.lst acc)) e F' l' ?_ (fin acc e ik)⟩
      have A2 : At X.K b (σ ++ tv ++ tvi ++ [some (.ref D)]) (e ++ te ++ tei ++ [.ow (.lst acc)]) F' H' := by simpa using A'
      exact A2.dropMid (by have := l'.len; simp; omega) hl l'.le
end
end DL


set_option Elab.async false
set_option linter.all false
set_option maxRecDepth 100000
set_option maxHeartbeats 1000000
/-! THE DATA LAYER, 7: comprehensions as values, combined operators, subscripts, built-ins. -/
namespace DL
open PySem PySem.Spec PyProof.Rows L2
section
variable {X : Cx} {js : List Nat} {m : Nat} {b : Base js m} {env : List Cell} {Q : Cell → List Cell → Prop} {E : DEnds} {pos p : Pos} {tg iter : Expr}
/-! ### list comprehensions -/
theorem de_lc {elt : Expr} {ifs : List Expr} {scope : Scope} (own : List (Str × Nat)) (hc : X.calm = true) (hN : X.N.Nodup) (ok : BlkOk X.N X.env.scope scope own) (him : ∀ i ∈ own.map (·.2), m ≤ i ∧ i ∉ js)
    (h : DIa X b tg iter env fun ds C env1 => ds.length ≤ 100000 ∧ ∃ I : Nat → List D → List Cell → Prop, I 0 [] env1 ∧ (∀ k acc e, I k acc e → C e ∧ acc.length ≤ k ∧ ∀ i ∈ own.map (·.2), e[i]? = some .no) ∧ (∀ k d acc e, ds[k]? = some d → I k acc e → LcTurn X b scope (own.map (·.2)) tg elt ifs d e fun o e' => match o with | some d' => I (k + 1) (acc ++ [d']) e' | none => I (k + 1) acc e') ∧ ∀ acc e, I ds.length acc e → Q (.ow (.lst acc)) e)
    (hs : ∀ x, foldedSetIterable iter X.env x = pure x := by intro _; rfl) : DE X b (.ListComp elt [⟨tg, iter, ifs, 0⟩] scope pos) env Q := by
  intro σ tv te F H l A
  exact w_pe (pe_lc (g := gAny X scope tg) (tt := tAny X scope ifs) (te := eAny X scope elt) hc hN pi_w ok (fun s H0 C cl fp => ⟨fun pins s' _ _ _ u _ I r h => h s H0 C cl fp pins s' u I r⟩) (fun s H0 C cl fp => pts_any ifs s H0 C cl fp) (fun s H0 C cl fp => ⟨fun pins s' _ _ _ I h => h s H0 C cl fp pins s' I⟩) hs)
    (lc_read l A him h fun v H' c env' F' l' A' q => ⟨c, env', F', l', A', q⟩)
theorem ds_setLc {i : Nat} {y : Str} {py spos : Pos} {elt : Expr} {ifs : List Expr} {scope : Scope} (own : List (Str × Nat)) (hc : X.calm = true) (hN : X.N.Nodup) (hy : X.N[i]? = some y) (hyl : X.env.scope.names.lookup y = some .local)
    (hsw : swapsWith (.ListComp elt [⟨tg, iter, ifs, 0⟩] scope pos) (some (.Name y py)) spos.line X.env = pure true) (ok : BlkOk X.N X.env.scope scope own) (him : ∀ i ∈ own.map (·.2), m ≤ i ∧ i ∉ js) (hj : i ∉ js)
    (h : DIa X b tg iter env fun ds C env1 => ds.length ≤ 100000 ∧ ∃ I : Nat → List D → List Cell → Prop, I 0 [] env1 ∧ (∀ k acc e, I k acc e → C e ∧ acc.length ≤ k ∧ ∀ i ∈ own.map (·.2), e[i]? = some .no) ∧ (∀ k d acc e, ds[k]? = some d → I k acc e → LcTurn X b scope (own.map (·.2)) tg elt ifs d e fun o e' => match o with | some d' => I (k + 1) (acc ++ [d']) e' | none => I (k + 1) acc e') ∧ ∀ acc e, I ds.length acc e → i < e.length ∧ E.nx (e.set i (.ow (.lst acc))))
    (hs : ∀ x, foldedSetIterable iter X.env x = pure x := by intro _; rfl) : DS X b (.Assign [.Name y py] (.ListComp elt [⟨tg, iter, ifs, 0⟩] scope pos) spos) env E := by
  intro σ tv te F H l na A
  refine w_ps (ps_setLc (g := gAny X scope tg) (tt := tAny X scope ifs) (te := eAny X scope elt) hc hN hy hyl hsw pi_w ok (fun s H0 C cl fp => ⟨fun pins s' _ _ _ u _ I r h => h s H0 C cl fp pins s' u I r⟩) (fun s H0 C cl fp => pts_any ifs s H0 C cl fp) (fun s H0 C cl fp => ⟨fun pins s' _ _ _ I h => h s H0 C cl fp pins s' I⟩) hs)
    (lc_read (Q := fun c e => ∃ acc, c = .ow (.lst acc) ∧ i < e.length ∧ E.nx (e.set i (.ow (.lst acc)))) l A him ?_ fun v H' c env' F' l' A' ⟨acc, ec, hl, q⟩ => ?_)
  · intro σ tv te F H l A
    refine wI_mono (h σ tv te F H l A) fun J H1 ⟨ds, C, tvi, tei, env1, F1, l1, hl, A1, wk, hz, I, i0, iC, turn, fin⟩ => ?_
    exact ⟨ds, C, tvi, tei, env1, F1, l1, hl, A1, wk, hz, I, i0, iC, turn, fun acc e q => ⟨acc, rfl, (fin acc e q).1, (fin acc e q).2⟩⟩
  · subst ec
    exact ⟨_, F', lc_set2 l' na_ow, A'.store l'.ml l'.len (by rw [← l'.len]; exact hl) hj (.inr (noal_app l'.na na)) na_ow, q⟩

/-! ### combined operators -/
theorem Op2.l {r r' : R2} {c1 c2 : Cell} (h : Op2 X b r c1 c2 env Q) : Op2 X b (fun x y H Q => r x y H Q ∨ r' x y H Q) c1 c2 env Q := fun σ tv te F H v1 v2 l A Q' k => .inl (h σ tv te F H v1 v2 l A Q' k)
theorem Op2.r {r r' : R2} {c1 c2 : Cell} (h : Op2 X b r' c1 c2 env Q) : Op2 X b (fun x y H Q => r x y H Q ∨ r' x y H Q) c1 c2 env Q := fun σ tv te F H v1 v2 l A Q' k => .inr (h σ tv te F H v1 v2 l A Q' k)
/-- list + list, data or ours -/
def rCatS (K : PySem.W.Frag) : R2 := fun x y H Q => ∃ l b xs zs, x = .ref l ∧ y = .ref b ∧ SqL K H l xs ∧ SqL K H b zs ∧ xs.length + zs.length ≤ sizeLine ∧ ∀ p, H p = none → Q (.ref p) (upd H p (.lst (xs ++ zs)))
theorem op_catS : OpR X (binaryOp .Add) (rCatS X.K) := by
  intro pins s σ H x y v u Q I rx ry h
  obtain ⟨l, b, xs, zs, rfl, rfl, hH, hB, hz, q⟩ := h
  cases rx
  cases ry
  obtain ⟨its, r, ⟨⟨cls, dd, data, sl⟩, n, ho, hc, _, hd⟩, z⟩ := I.list hH
  obtain ⟨its2, r2, ⟨⟨cls2, dd2, data2, sl2⟩, n2, ho2, hc2, _, hd2⟩, z2⟩ := I.list hB
  simp only at hc hd hc2 hd2
  subst hc hd hc2 hd2
  have hl1 := r.length
  have hl2 := r2.length
  refine concat_meets ⟨_, ho, rfl⟩ ⟨_, ho2, rfl⟩ noFill_list_add seq_list_add PySem.F.slot_list_add PySem.F.entry_list_add (PySem.F.args_list_add_2 _ _) (list_addW l b its.toArray its2.toArray n n2 dd dd2 sl sl2 (by simp; omega)) ⟨ho, ho2, ?_⟩
  have ea : its.toArray ++ its2.toArray = (its ++ its2).toArray := by simp
  rw [ea]
  exact ⟨.ref _, _, I.lnew (t' := s.toks) (r.append r2) (by rw [List.length_append]; omega), rfl, q _ I.fresh⟩
abbrev rStrCat : R2 := fun x y H Q => ∃ i j, x = .str i ∧ y = .str j ∧ i.length + j.length ≤ sizeLine ∧ Q (.str (i ++ j)) H
abbrev rAddAll (K : PySem.W.Frag) : R2 := fun x y H Q => (rI0 (fun i j => .int (i + j)) x y H Q ∨ rStrCat x y H Q) ∨ (rCatS K x y H Q ∨ rCatA K x y H Q)
theorem op_addAll : OpR X (binaryOp .Add) (rAddAll X.K) := (op_add.or op_add_str).or (op_catS.or op_catA)
theorem de_add {a c : Expr} (h : DE X b a env fun c1 env1 => DE X b c env1 fun c2 env2 => Op2 X b (rAddAll X.K) c1 c2 env2 Q) : DE X b (.BinOp a .Add c pos) env Q := de_op op_addAll h
theorem add_int {i j : Int} {c1 c2 : Cell} (w1 : Vw env c1 (.int i)) (w2 : Vw env c2 (.int j)) (q : Q (.fz (.int (i + j))) env) : Op2 X b (rAddAll X.K) c1 c2 env Q := Op2.l (Op2.l (op_ii0 w1 w2 q))
theorem add_str {i j : Str} {c1 c2 : Cell} (w1 : Vw env c1 (.str i)) (w2 : Vw env c2 (.str j)) (hz : i.length + j.length ≤ 100000) (q : Q (.fz (.str (i ++ j))) env) : Op2 X b (rAddAll X.K) c1 c2 env Q :=
  Op2.l (Op2.r (Op2.mk w1 w2 (fun F H v1 v2 _ s1 s2 Q' k => ⟨i, j, s1.rp_str, s2.rp_str, Nat.le_trans hz (by decide), k _ (.str _)⟩) q))
theorem add_lst {ds es : List D} {c1 c2 : Cell} (w1 : Vw env c1 (.lst ds)) (w2 : Vw env c2 (.lst es)) (hz : ds.length + es.length ≤ 100000) (q : Q (.ow (.lst (ds ++ es))) env) : Op2 X b (rAddAll X.K) c1 c2 env Q :=
  Op2.r (Op2.l (Op2.mkL w1 w2 (fun F H v1 v2 ex s1 s2 Q' k => by
    obtain ⟨a, xs, rfl, q1, r1⟩ := s1.list ex
    obtain ⟨a', ys, rfl, q2, r2⟩ := s2.list ex
    exact ⟨a, a', xs, ys, rfl, rfl, q1, q2, by rw [r1.length, r2.length]; exact Nat.le_trans hz (by decide), fun p hp => k p _ hp (r1.append r2)⟩) q))
theorem add_tup {ds es : List D} {c1 c2 : Cell} (w1 : Vw env c1 (.tup ds)) (w2 : Vw env c2 (.tup es)) (hz : ds.length + es.length ≤ 100000) (q : Q (.fz (.tup (ds ++ es))) env) : Op2 X b (rAddAll X.K) c1 c2 env Q :=
  Op2.r (Op2.r (Op2.mkT w1 w2 (fun F H v1 v2 ex s1 s2 Q' k k2 => by
    have z1 := s1; have z2 := s2
    obtain ⟨a, xs, rfl, q1, r1⟩ := s1.tuple ex
    obtain ⟨a', ys, rfl, q2, r2⟩ := s2.tuple ex
    refine ⟨a, a', xs, ys, rfl, rfl, q1, q2, by rw [r1.length, r2.length]; exact Nat.le_trans hz (by decide), fun e => k2 _ ?_, fun _ e => k2 _ ?_, fun _ _ p hp => k p _ hp (r1.append r2)⟩
    · subst e; cases r1
      cases z2 with | fz r => exact r
    · subst e; cases r2
      rw [List.append_nil]
      cases z1 with | fz r => exact r) q))
/-- ints alone -/
theorem de_sub {a c : Expr} (h : DE X b a env fun c1 env1 => DE X b c env1 fun c2 env2 => ∃ i j, Vw env2 c1 (.int i) ∧ Vw env2 c2 (.int j) ∧ Q (.fz (.int (i - j))) env2) : DE X b (.BinOp a .Sub c pos) env Q :=
  de_op op_sub (h.mono fun c1 env1 h1 => h1.mono fun c2 env2 ⟨i, j, w1, w2, q⟩ => op_ii0 w1 w2 q)
theorem de_mul {a c : Expr} (h : DE X b a env fun c1 env1 => DE X b c env1 fun c2 env2 => ∃ i j, Vw env2 c1 (.int i) ∧ Vw env2 c2 (.int j) ∧ CMul i j ∧ Q (.fz (.int (i * j))) env2) : DE X b (.BinOp a .Mult c pos) env Q :=
  de_op op_mul (h.mono fun c1 env1 h1 => h1.mono fun c2 env2 ⟨i, j, w1, w2, hC, q⟩ => op_ii w1 w2 hC q)
theorem de_mod {a c : Expr} (h : DE X b a env fun c1 env1 => DE X b c env1 fun c2 env2 => ∃ i j, Vw env2 c1 (.int i) ∧ Vw env2 c2 (.int j) ∧ 0 < j ∧ Q (.fz (.int (i % j))) env2) : DE X b (.BinOp a .Mod c pos) env Q :=
  de_op op_mod (h.mono fun c1 env1 h1 => h1.mono fun c2 env2 ⟨i, j, w1, w2, hC, q⟩ => op_ii (C := fun _ j => 0 < j) w1 w2 hC q)
theorem de_div {a c : Expr} (h : DE X b a env fun c1 env1 => DE X b c env1 fun c2 env2 => ∃ i j, Vw env2 c1 (.int i) ∧ Vw env2 c2 (.int j) ∧ (0 < j ∧ j < 1073741824) ∧ Q (.fz (.int (i / j))) env2) : DE X b (.BinOp a .FloorDiv c pos) env Q :=
  de_op op_fdiv (h.mono fun c1 env1 h1 => h1.mono fun c2 env2 ⟨i, j, w1, w2, hC, q⟩ => op_ii (C := CDiv) w1 w2 hC q)
theorem de_pow {a c : Expr} (h : DE X b a env fun c1 env1 => DE X b c env1 fun c2 env2 => ∃ i j, Vw env2 c1 (.int i) ∧ Vw env2 c2 (.int j) ∧ (0 ≤ j ∧ j ≤ 1000000 ∧ i.natAbs < 2 ^ 64) ∧ Q (.fz (.int (i ^ j.toNat))) env2) : DE X b (.BinOp a .Pow c pos) env Q :=
  de_op op_pow (h.mono fun c1 env1 h1 => h1.mono fun c2 env2 ⟨i, j, w1, w2, hC, q⟩ => op_ii (C := CPow) w1 w2 hC q)
theorem de_neg {a : Expr} (h : DE X b a env fun c1 env1 => ∃ i, Vw env1 c1 (.int i) ∧ Q (.fz (.int (-i))) env1) : DE X b (.UnaryOp .USub a pos) env Q :=
  de_unop un_neg (h.mono fun c1 env1 ⟨i, w1, q⟩ => op_negI w1 q)

/-! ### subscripts -/
abbrev rIxD : R2 := fun x y H Q => ∃ a v, x = .ref a ∧ DGet H a y (some v) ∧ Q v H
theorem ix_dict (hu : X.A.units + 1 < cLine) : IxR X rIxD := by
  intro value slice pins s σ H x y v u Q I rx ry h hs
  obtain ⟨a, z, rfl, g, q⟩ := h
  cases rx
  have hT := dict_typeIs I g
  unfold subscriptTail
  refine wpAny_bind ?_
  rw [getitemInPython_of_ne hT.not_modules]
  refine wpAny_bind (wpAny_specialOf hT slot_dict_getitem.lookup ?_)
  have fin : wpAny (model X.prog X.w) X.A (subscripted slice false (.ref a) u) (fun r s₃ => wpAny (model X.prog X.w) X.A (letTemporaryGo value (.ref a) r >>= fun _ => pure r) (EP X pins σ Q) X.xe s₃) X.xe s := by
    rw [hs]
    exact wpAny_operating (d_getItem hu I g ry fun w' s' I' r' => wpAny_bind (wpAny_letTemporaryGo (wpAny_pure ⟨z, H, I', r', q⟩)))
  first
    | exact wpAny_pure (wpAny_bind fin)
    | exact wpAny_bind (wpAny_pure (wpAny_bind fin))
    | exact wpAny_bind fin
abbrev rIxAll (K : PySem.W.Frag) : R2 := fun x y H Q => (rIxL K x y H Q ∨ rIxT K x y H Q) ∨ (rIxS x y H Q ∨ rIxD x y H Q)
theorem ix_all (hu : X.A.units + 1 < cLine) : IxR X (rIxAll X.K) := (ix_list.or ix_tup).or (ix_str.or (ix_dict hu))
theorem de_ix {a c : Expr} (hu : X.A.units + 1 < cLine) (hs : PlainIx c) (h : DE X b a env fun c1 env1 => DE X b c env1 fun c2 env2 => Op2 X b (rIxAll X.K) c1 c2 env2 Q) : DE X b (.Subscript a c pos) env Q := de_two (pe_ix (ix_all hu) pe_w pe_w hs) h
theorem atI_rp {K : PySem.W.Frag} {F : Hp} {xs : List V} {ds : List D} {i : Int} {d : D} (r : RpL K F xs ds) (h : atI ds i = some d) : ∃ v, atI xs i = some v ∧ Rp K F v d := by
  unfold atI at h ⊢
  rw [r.length]
  cases q : ixN ds.length i with
  | none => rw [q] at h; cases h
  | some j =>
    rw [q] at h
    exact r.getD h
theorem ix_lst {ds : List D} {i : Int} {d : D} {c1 c2 : Cell} (w1 : Vw env c1 (.lst ds)) (w2 : Vw env c2 (.int i)) (h : atI ds i = some d) (q : Q (.fz d) env) : Op2 X b (rIxAll X.K) c1 c2 env Q :=
  Op2.l (Op2.l (Op2.mk w1 w2 (fun F H v1 v2 ex s1 s2 Q' k => by
    obtain ⟨a, xs, rfl, q1, r1⟩ := s1.list ex
    obtain ⟨v, hv, rv⟩ := atI_rp r1 h
    exact ⟨a, xs, i, v, rfl, s2.rp_int, q1, hv, k v rv⟩) q))
theorem ix_tpl {ds : List D} {i : Int} {d : D} {c1 c2 : Cell} (w1 : Vw env c1 (.tup ds)) (w2 : Vw env c2 (.int i)) (h : atI ds i = some d) (q : Q (.fz d) env) : Op2 X b (rIxAll X.K) c1 c2 env Q :=
  Op2.l (Op2.r (Op2.mk w1 w2 (fun F H v1 v2 ex s1 s2 Q' k => by
    obtain ⟨a, xs, rfl, q1, r1⟩ := s1.tuple ex
    obtain ⟨v, hv, rv⟩ := atI_rp r1 h
    exact ⟨a, xs, i, v, rfl, s2.rp_int, q1, hv, k v rv⟩) q))
theorem ix_st {z : Str} {i : Int} {c : Nat} {c1 c2 : Cell} (w1 : Vw env c1 (.str z)) (w2 : Vw env c2 (.int i)) (hz : z.length ≤ 100000) (h : atI z.cps.toList i = some c) (q : Q (.fz (.str ⟨#[c]⟩)) env) : Op2 X b (rIxAll X.K) c1 c2 env Q :=
  Op2.r (Op2.l (Op2.mk w1 w2 (fun F H v1 v2 ex s1 s2 Q' k => ⟨z, i, c, s1.rp_str, s2.rp_int, Nat.le_trans hz (by decide), h, k _ (.str _)⟩) q))
/-- data that is a key -/
def keyD : Key → D
  | .inl i => .int i
  | .inr x => .str x
theorem key_rp {K : PySem.W.Frag} {F H : Hp} {v : V} : ∀ {k : Key}, Sees K F H v (keyD k) → v = kV k
  | .inl _, s => s.rp_int
  | .inr _, s => s.rp_str
theorem ix_dk {kvs : List (Key × D)} {k : Key} {d dk' : D} {c1 c2 : Cell} (w1 : Vw env c1 (.dk kvs)) (w2 : Vw env c2 dk') (ek : dk' = keyD k) (h : dget kvs k = some d) (q : Q (.fz d) env) : Op2 X b (rIxAll X.K) c1 c2 env Q := by
  subst ek
  exact Op2.r (Op2.r (Op2.mk w1 w2 (fun F H v1 v2 ex s1 s2 Q' kk => by
    obtain ⟨a, xs, rfl, q1, r1⟩ := s1.dictK ex
    rcases r1.get k with ⟨_, z⟩ | ⟨v, d', z1, z2, z3⟩
    · rw [h] at z; cases z
    · rw [h] at z2; cases z2
      exact ⟨a, v, rfl, .inl ⟨xs, k, q1, key_rp s2, z1.symm⟩, kk v z3⟩) q))
end
end DL


set_option Elab.async false
set_option linter.all false
set_option maxRecDepth 100000
set_option maxHeartbeats 1000000
/-! THE DATA LAYER, 8: data as the library's data; ==, in, <; walks of enumerate, zip, dicts. -/
namespace DL
open PySem PySem.Spec PyProof.Rows L2

/-! ### data as PyData -/
mutual
def D.py : D → PyData
  | .non => .none
  | .bl b => .bool b
  | .int i => .int i
  | .str x => .str x
  | .tup xs => .tuple (pyL xs)
  | .lst xs => .list (pyL xs)
  | .dk _ => .none
  | .dt _ => .none
  | .raw _ => .none
def pyL : List D → List PyData
  | [] => []
  | d :: ds => d.py :: pyL ds
end
theorem pyL_map : ∀ ds : List D, pyL ds = ds.map D.py
  | [] => rfl
  | d :: ds => by rw [pyL, List.map_cons, pyL_map ds]
/-- data without dicts, at most n deep -/
inductive Sh : Nat → D → Prop
  | non {n} : Sh n .non
  | bl {n} (b : Bool) : Sh n (.bl b)
  | int {n} (i : Int) : Sh n (.int i)
  | str {n} {x : Str} : PyData.strOk x = true → Sh n (.str x)
  | tup {n} {ds : List D} : (∀ d ∈ ds, Sh n d) → Sh (n + 1) (.tup ds)
  | lst {n} {ds : List D} : (∀ d ∈ ds, Sh n d) → Sh (n + 1) (.lst ds)
section
variable {K : PySem.W.Frag} {F H : Hp}
theorem Rp.dp (e : ExR F H) : ∀ (n : Nat) {d : D} {v : V}, Sh n d → Rp K F v d → Dp K H v d.py
  | _, _, _, .non, .non => .non
  | _, _, _, .bl b, .bl _ => .bl b
  | _, _, _, .int i, .int _ => .int i
  | _, _, _, .str _, .str x => .str x
  | n + 1, _, _, .tup (ds := ds) h, .tup (xs := xs) q r => by
    have all : ∀ {xs : List V} {ds : List D}, (∀ d ∈ ds, Sh n d) → RpL K F xs ds → DpAll K H xs (pyL ds) := by
      intro xs ds h r
      induction ds generalizing xs with
      | nil => cases r; exact .nil
      | cons d ds ih =>
        cases r with
        | cons r1 r2 => exact .cons (Rp.dp e n (h d (List.mem_cons_self ..)) r1) (ih (fun d hd => h d (List.mem_cons_of_mem _ hd)) r2)
    exact .tup (e.sqT q) (all h r)
  | n + 1, _, _, .lst (ds := ds) h, .lst (xs := xs) q r => by
    have all : ∀ {xs : List V} {ds : List D}, (∀ d ∈ ds, Sh n d) → RpL K F xs ds → DpAll K H xs (pyL ds) := by
      intro xs ds h r
      induction ds generalizing xs with
      | nil => cases r; exact .nil
      | cons d ds ih =>
        cases r with
        | cons r1 r2 => exact .cons (Rp.dp e n (h d (List.mem_cons_self ..)) r1) (ih (fun d hd => h d (List.mem_cons_of_mem _ hd)) r2)
    exact .lst (e.sqL q) (all h r)
theorem RpL.dp (e : ExR F H) {n : Nat} {xs : List V} {ds : List D} (h : ∀ d ∈ ds, Sh n d) (r : RpL K F xs ds) : DpAll K H xs (pyL ds) := by
  induction ds generalizing xs with
  | nil => cases r; exact .nil
  | cons d ds ih =>
    cases r with
    | cons r1 r2 => exact .cons (r1.dp e n (h d (List.mem_cons_self ..))) (ih (fun d hd => h d (List.mem_cons_of_mem _ hd)) r2)
theorem Sees.dp (e : ExR F H) {n : Nat} {d : D} {v : V} (h : Sh n d) (s : Sees K F H v d) : Dp K H v d.py := by
  cases s with
  | fz r => exact r.dp e n h
  | lst q r =>
    cases h with
    | lst h => exact .lst (.inl (.inl q)) (r.dp e h)
  | dk q r => cases h
  | dt q r => cases h
end
theorem Sh.canLay : ∀ (n : Nat) {d : D}, Sh n d → PyData.canLay0 d.py = true
  | _, _, .non => by simp [D.py, PyData.canLay0]
  | _, _, .bl b => by simp [D.py, PyData.canLay0]
  | _, _, .int i => by simp [D.py, PyData.canLay0]
  | _, _, .str h => by simp [D.py, PyData.canLay0, h]
  | n + 1, _, .tup (ds := ds) h => by
    simp only [D.py, PyData.canLay0]
    induction ds with
    | nil => simp [pyL, PyData.canLayAll0]
    | cons d ds ih => simp [pyL, PyData.canLayAll0, Sh.canLay n (h d (List.mem_cons_self ..)), ih fun d hd => h d (List.mem_cons_of_mem _ hd)]
  | n + 1, _, .lst (ds := ds) h => by
    simp only [D.py, PyData.canLay0]
    induction ds with
    | nil => simp [pyL, PyData.canLayAll0]
    | cons d ds ih => simp [pyL, PyData.canLayAll0, Sh.canLay n (h d (List.mem_cons_self ..)), ih fun d hd => h d (List.mem_cons_of_mem _ hd)]
theorem Sh.depth : ∀ (n : Nat) {d : D}, Sh n d → PyData.depth d.py ≤ n
  | _, _, .non => by simp [D.py, PyData.depth]
  | _, _, .bl b => by simp [D.py, PyData.depth]
  | _, _, .int i => by simp [D.py, PyData.depth]
  | _, _, .str x => by simp [D.py, PyData.depth]
  | n + 1, _, .tup (ds := ds) h => by
    have all : PyData.depthAll (pyL ds) ≤ n := by
      induction ds with
      | nil => simp [pyL, PyData.depthAll]
      | cons d ds ih =>
        have h1 := Sh.depth n (h d (List.mem_cons_self ..))
        have h2 := ih fun d hd => h d (List.mem_cons_of_mem _ hd)
        simp [pyL, PyData.depthAll]
        omega
    simp [D.py, PyData.depth]
    omega
  | n + 1, _, .lst (ds := ds) h => by
    have all : PyData.depthAll (pyL ds) ≤ n := by
      induction ds with
      | nil => simp [pyL, PyData.depthAll]
      | cons d ds ih =>
        have h1 := Sh.depth n (h d (List.mem_cons_self ..))
        have h2 := ih fun d hd => h d (List.mem_cons_of_mem _ hd)
        simp [pyL, PyData.depthAll]
        omega
    simp [D.py, PyData.depth]
    omega
theorem Sh.shaped {n : Nat} {d : D} (h : Sh n d) (hn : n ≤ 60) : SeqAt.shaped d.py = true := by
  unfold SeqAt.shaped
  rw [h.canLay n, Bool.true_and, decide_eq_true_iff]
  have := h.depth n
  omega
/-- Python's == of data -/
def D.eqb (d e : D) : Bool := PyData.eqv d.py e.py

section
variable {X : Cx} {js : List Nat} {m : Nat} {b : Base js m} {env : List Cell} {Q : Cell → List Cell → Prop} {E : DEnds} {pos p : Pos} {tg iter : Expr}
abbrev rEqAll (K : PySem.W.Frag) : R2 := fun x y H Q => rEq x y H Q ∨ rEqD K x y H Q
abbrev rNeAll (K : PySem.W.Frag) : R2 := fun x y H Q => rNe x y H Q ∨ rNeD K x y H Q
theorem op_eqAll (hu : X.A.units + 64 < cLine) : OpR X (compareOp .Eq) (rEqAll X.K) := op_eq.or (op_eqD hu)
theorem op_neAll (hu : X.A.units + 64 < cLine) : OpR X (compareOp .NotEq) (rNeAll X.K) := op_ne.or (op_neD hu)
theorem eq_int {i j : Int} {c1 c2 : Cell} (w1 : Vw env c1 (.int i)) (w2 : Vw env c2 (.int j)) (q : Q (.fz (.bl (decide (i = j)))) env) : Op2 X b (rEqAll X.K) c1 c2 env Q := Op2.l (op_eqI w1 w2 q)
theorem eq_str {i j : Str} {c1 c2 : Cell} (w1 : Vw env c1 (.str i)) (w2 : Vw env c2 (.str j)) (q : Q (.fz (.bl (decide (i = j)))) env) : Op2 X b (rEqAll X.K) c1 c2 env Q := Op2.l (op_eqS w1 w2 q)
theorem eq_bl {i j : Bool} {c1 c2 : Cell} (w1 : Vw env c1 (.bl i)) (w2 : Vw env c2 (.bl j)) (q : Q (.fz (.bl (decide (i = j)))) env) : Op2 X b (rEqAll X.K) c1 c2 env Q := Op2.l (op_eqB w1 w2 q)
theorem ne_int {i j : Int} {c1 c2 : Cell} (w1 : Vw env c1 (.int i)) (w2 : Vw env c2 (.int j)) (q : Q (.fz (.bl (!decide (i = j)))) env) : Op2 X b (rNeAll X.K) c1 c2 env Q := Op2.l (op_neI w1 w2 q)
theorem ne_str {i j : Str} {c1 c2 : Cell} (w1 : Vw env c1 (.str i)) (w2 : Vw env c2 (.str j)) (q : Q (.fz (.bl (!decide (i = j)))) env) : Op2 X b (rNeAll X.K) c1 c2 env Q := Op2.l (op_neS w1 w2 q)
theorem ne_bl {i j : Bool} {c1 c2 : Cell} (w1 : Vw env c1 (.bl i)) (w2 : Vw env c2 (.bl j)) (q : Q (.fz (.bl (!decide (i = j)))) env) : Op2 X b (rNeAll X.K) c1 c2 env Q := Op2.l (op_neB w1 w2 q)
theorem eq_dat {d e : D} {n : Nat} {c1 c2 : Cell} (w1 : Vw env c1 d) (w2 : Vw env c2 e) (h1 : Sh n d) (h2 : Sh n e) (hn : n ≤ 60) (q : Q (.fz (.bl (d.eqb e))) env) : Op2 X b (rEqAll X.K) c1 c2 env Q :=
  Op2.r (Op2.mk w1 w2 (fun F H v1 v2 ex s1 s2 Q' k => ⟨d.py, e.py, s1.dp ex h1, s2.dp ex h2, h1.shaped hn, h2.shaped hn, k _ (.bl _)⟩) q)
theorem ne_dat {d e : D} {n : Nat} {c1 c2 : Cell} (w1 : Vw env c1 d) (w2 : Vw env c2 e) (h1 : Sh n d) (h2 : Sh n e) (hn : n ≤ 60) (q : Q (.fz (.bl (!d.eqb e))) env) : Op2 X b (rNeAll X.K) c1 c2 env Q :=
  Op2.r (Op2.mk w1 w2 (fun F H v1 v2 ex s1 s2 Q' k => ⟨d.py, e.py, s1.dp ex h1, s2.dp ex h2, h1.shaped hn, h2.shaped hn, k _ (.bl _)⟩) q)
/-! order: ints, texts -/
abbrev rStrB (f : Str → Str → Bool) : R2 := fun x y H Q => ∃ i j, x = .str i ∧ y = .str j ∧ Q (.bl (f i j)) H
theorem lt_int {i j : Int} {c1 c2 : Cell} {r' : R2} {g : Int → Int → Bool} (w1 : Vw env c1 (.int i)) (w2 : Vw env c2 (.int j)) (q : Q (.fz (.bl (g i j))) env) : Op2 X b (fun x y H Q => rI0 (fun i j => .bl (g i j)) x y H Q ∨ r' x y H Q) c1 c2 env Q := Op2.l (op_ib0 w1 w2 q)
theorem lt_str {i j : Str} {c1 c2 : Cell} {r' : R2} {f : Str → Str → Bool} (w1 : Vw env c1 (.str i)) (w2 : Vw env c2 (.str j)) (q : Q (.fz (.bl (f i j))) env) : Op2 X b (fun x y H Q => r' x y H Q ∨ rStrB f x y H Q) c1 c2 env Q :=
  Op2.r (Op2.mk w1 w2 (fun F H v1 v2 _ s1 s2 Q' k => ⟨i, j, s1.rp_str, s2.rp_str, k _ (.bl _)⟩) q)
def sLt (i j : Str) : Bool := decide (i.cps.toList < j.cps.toList)
def sLe (i j : Str) : Bool := !decide (j.cps.toList < i.cps.toList)
theorem op_ltAll : OpR X (compareOp .Lt) (fun x y H Q => rI0 (fun i j => .bl (decide (i < j))) x y H Q ∨ rStrB sLt x y H Q) := op_lt.or op_lt_str
theorem op_leAll : OpR X (compareOp .LtE) (fun x y H Q => rI0 (fun i j => .bl (decide (i ≤ j))) x y H Q ∨ rStrB sLe x y H Q) := op_le.or op_le_str
theorem op_gtAll : OpR X (compareOp .Gt) (rI0 fun i j => .bl (decide (j < i))) := op_gt
theorem op_geAll : OpR X (compareOp .GtE) (rI0 fun i j => .bl (decide (j ≤ i))) := op_ge
/-! in, not in -/
abbrev rInD (neg : Bool) : R2 := fun y x H Q => ∃ a o, x = .ref a ∧ DGet H a y o ∧ Q (.bl (if neg then !o.isSome else o.isSome)) H
theorem op_inDict (hu : X.A.units + 1 < cLine) : OpR X (compareOp .In) (rInD false) := by
  intro pins s σ H y x u v Q I ry rx h
  obtain ⟨a, o, rfl, g, q⟩ := h
  cases rx
  exact d_in hu I g ry fun s' I' => ⟨.bl _, H, I', rfl, q⟩
theorem op_notInDict (hu : X.A.units + 1 < cLine) : OpR X (compareOp .NotIn) (rInD true) := by
  intro pins s σ H y x u v Q I ry rx h
  obtain ⟨a, o, rfl, g, q⟩ := h
  cases rx
  exact d_notIn hu I g ry fun s' I' => ⟨.bl _, H, I', rfl, q⟩
theorem op_inAll (hu : X.A.units + 1 < cLine) : OpR X (compareOp .In) (fun x y H Q => rIn X.K false x y H Q ∨ rInD false x y H Q) := op_in_seq.or (op_inDict hu)
theorem op_notInAll (hu : X.A.units + 1 < cLine) : OpR X (compareOp .NotIn) (fun x y H Q => rIn X.K true x y H Q ∨ rInD true x y H Q) := op_notIn_seq.or (op_notInDict hu)
/-- flat data -/
def flatD : D → Bool
  | .non => true
  | .bl _ => true
  | .int _ => true
  | .str _ => true
  | _ => false
def toV : D → V
  | .non => .non
  | .bl x => .bl x
  | .int i => .int i
  | .str x => .str x
  | _ => .non
theorem flat_rp {K : PySem.W.Frag} {F : Hp} {v : V} {d : D} (h : flatD d = true) (r : Rp K F v d) : v = toV d ∧ flatV v = true := by
  cases r with
  | non => exact ⟨rfl, rfl⟩
  | bl => exact ⟨rfl, rfl⟩
  | int => exact ⟨rfl, rfl⟩
  | str => exact ⟨rfl, rfl⟩
  | tup => cases h
  | lst => cases h
  | dk => cases h
  | dt => cases h
  | raw => cases h
theorem flat_rpl {K : PySem.W.Frag} {F : Hp} : ∀ {xs : List V} {ds : List D}, ds.all flatD = true → RpL K F xs ds → xs = ds.map toV ∧ xs.all flatV = true
  | _, _, _, .nil => ⟨rfl, rfl⟩
  | _, _, h, .cons r rs => by
    rw [List.all_cons, Bool.and_eq_true] at h
    obtain ⟨e1, f1⟩ := flat_rp h.1 r
    obtain ⟨e2, f2⟩ := flat_rpl h.2 rs
    exact ⟨by rw [e1, e2]; rfl, by rw [List.all_cons, f1, f2]; rfl⟩
def inD (d : D) (ds : List D) : Bool := inV (toV d) (ds.map toV)
theorem inD_str (x : Str) : ∀ xs : List Str, inD (.str x) (xs.map .str) = decide (x ∈ xs)
  | [] => rfl
  | y :: ys => by
    have ih := inD_str x ys
    unfold inD inV at ih ⊢
    rw [List.map_cons, List.map_cons, List.any_cons, ih]
    show ((y == x) || _) = _
    by_cases h : x = y
    · subst h; simp
    · have : (y == x) = false := by
        rw [beq_eq_false_iff_ne]; exact fun z => h z.symm
      rw [this]
      simp [h]
theorem in_seq {d e : D} {ds : List D} {neg : Bool} {r' : R2} {c1 c2 : Cell} (w1 : Vw env c1 d) (w2 : Vw env c2 e) (hs : e = .lst ds ∨ e = .tup ds) (h1 : flatD d = true) (h2 : ds.all flatD = true) (q : Q (.fz (.bl (if neg then !inD d ds else inD d ds))) env) : Op2 X b (fun x y H Q => rIn X.K neg x y H Q ∨ r' x y H Q) c1 c2 env Q :=
  Op2.l (Op2.mk w1 w2 (fun F H v1 v2 ex s1 s2 Q' k => by
    have z1 : v1 = toV d ∧ flatV v1 = true := by
      cases s1 with
      | fz r => exact flat_rp h1 r
      | lst => cases h1
      | dk => cases h1
      | dt => cases h1
    rcases hs with e | e
    · subst e
      obtain ⟨a, xs, rfl, q1, r1⟩ := s2.list ex
      obtain ⟨e2, f2⟩ := flat_rpl h2 r1
      refine ⟨a, xs, rfl, .inl q1, z1.2, f2, k _ ?_⟩
      rw [e2, z1.1]
      exact .bl _
    · subst e
      obtain ⟨a, xs, rfl, q1, r1⟩ := s2.tuple ex
      obtain ⟨e2, f2⟩ := flat_rpl h2 r1
      refine ⟨a, xs, rfl, .inr q1, z1.2, f2, k _ ?_⟩
      rw [e2, z1.1]
      exact .bl _) q)
theorem in_lst {d : D} {ds : List D} {neg : Bool} {r' : R2} {c1 c2 : Cell} (w1 : Vw env c1 d) (w2 : Vw env c2 (.lst ds)) (h1 : flatD d = true) (h2 : ds.all flatD = true) (q : Q (.fz (.bl (if neg then !inD d ds else inD d ds))) env) : Op2 X b (fun x y H Q => rIn X.K neg x y H Q ∨ r' x y H Q) c1 c2 env Q := in_seq w1 w2 (.inl rfl) h1 h2 q
theorem in_tup {d : D} {ds : List D} {neg : Bool} {r' : R2} {c1 c2 : Cell} (w1 : Vw env c1 d) (w2 : Vw env c2 (.tup ds)) (h1 : flatD d = true) (h2 : ds.all flatD = true) (q : Q (.fz (.bl (if neg then !inD d ds else inD d ds))) env) : Op2 X b (fun x y H Q => rIn X.K neg x y H Q ∨ r' x y H Q) c1 c2 env Q := in_seq w1 w2 (.inr rfl) h1 h2 q
theorem in_dk {d : D} {k : Key} {kvs : List (Key × D)} {neg : Bool} {r' : R2} {c1 c2 : Cell} (w1 : Vw env c1 d) (w2 : Vw env c2 (.dk kvs)) (ek : d = keyD k) (q : Q (.fz (.bl (if neg then !(dget kvs k).isSome else (dget kvs k).isSome))) env) : Op2 X b (fun x y H Q => r' x y H Q ∨ rInD neg x y H Q) c1 c2 env Q := by
  subst ek
  exact Op2.r (Op2.mk w1 w2 (fun F H v1 v2 ex s1 s2 Q' kk => by
    obtain ⟨a, xs, rfl, q1, r1⟩ := s2.dictK ex
    refine ⟨a, valV xs k, rfl, .inl ⟨xs, k, q1, key_rp s1, rfl⟩, kk _ ?_⟩
    have e : (valV xs k).isSome = (dget kvs k).isSome := by
      rcases r1.get k with ⟨z1, z2⟩ | ⟨v, d', z1, z2, _⟩
      · rw [z1, z2]; rfl
      · rw [z1, z2]; rfl
    rw [e]
    exact .bl _) q)

/-! ### enumerate, zip -/
theorem at_pair {vs : List (Option V)} {cs : List Cell} {F H : Hp} {T : Addr} {x y : V} {dx dy : D} (A : At X.K b vs cs F H) (hT : H T = none) (rx : Rp X.K F x dx) (ry : Rp X.K F y dy) : At X.K b (vs ++ [some (.ref T)]) (cs ++ [.fz (.tup [dx, dy])]) (upd F T (.tup [x, y])) (upd H T (.tup [x, y])) :=
  A.alloc_fz hT (rp_tup (A.f_none hT) (.cons rx (.cons ry .nil)))
def enumD (k : Nat) : List D → List D
  | [] => []
  | d :: ds => .tup [.int (k : Nat), d] :: enumD (k + 1) ds
theorem enumD_len : ∀ (ds : List D) (k : Nat), (enumD k ds).length = ds.length
  | [], _ => rfl
  | _ :: ds, k => congrArg Nat.succ (enumD_len ds (k + 1))
theorem enumD_get : ∀ (ds : List D) (k i : Nat) (e : D), (enumD k ds)[i]? = some e → ∃ d, ds[i]? = some d ∧ e = .tup [.int ((k + i : Nat) : Int), d]
  | [], _, _, _, h => by simp [enumD] at h
  | d :: ds, k, 0, e, h => by
    simp [enumD] at h
    exact ⟨d, rfl, by rw [← h]; simp⟩
  | d :: ds, k, i + 1, e, h => by
    simp [enumD] at h
    obtain ⟨d', h1, h2⟩ := enumD_get ds (k + 1) i e h
    exact ⟨d', by simpa using h1, by rw [h2, show k + 1 + i = k + (i + 1) by omega]⟩
theorem walk_enum {a : Addr} {c : Cell} {ds : List D} {C : List Cell → Prop} (hw : ∀ env, C env → Vw env c (.lst ds)) : WalkOk X b (Ite X.K a) [some (.ref a)] [c] (enumD 0 ds) C := by
  intro σ tv tw env te tf F H k l hC hl A
  obtain ⟨h1, h2⟩ := one_at (v := .ref a) (c := c) (tw := tw) (tf := tf) l.len hl
  obtain ⟨a', xs, e, q, r⟩ := (sees_at l A h1 h2 (hw env hC)).list A.ex
  cases e
  have hlen := r.length
  rw [enumD_len]
  refine ⟨fun hk => ?_, fun x H' d hd y => ?_, fun hk => ⟨xs, q, by omega⟩⟩
  · have hx : k < xs.length := by omega
    exact ⟨xs, xs[k], q, by simp [hx]⟩
  · obtain ⟨T, z, rfl, hT, rfl, y⟩ := y
    obtain ⟨d', hd', e'⟩ := enumD_get ds 0 k d hd
    rw [e', Nat.zero_add]
    exact ⟨_, at_pair A hT (.int _) (rp_at r (y xs q) hd')⟩
/-- enumerate(e), e data or ours -/
theorem di_enum {e : Expr} {elts : List Expr} {kk : Nat} {tpos : Pos} {Q : List D → (List Cell → Prop) → List Cell → Prop} (hg : Gl X "enumerate") (hm : X.mg "enumerate" = none) (h : DE X b e env fun c env1 => ∃ ds, (c = .fz (.lst ds) ∨ c = .ow (.lst ds)) ∧ Q (enumD 0 ds) (fun _ => True) env1) (hs : starEach [e] X.env = [(false, eval e X.env)] := by rfl) : DI X b (.Tuple elts kk tpos) (.Call (.Name "enumerate" p) [e] [] pos) env Q := by
  intro σ tv te F H l A
  refine w_pi (pi_enum hg hm (pa_cons pe_w pa_nil (by rw [hs]; rfl)) hs) (wE_mono (h σ tv te F H l A) fun v H1 ⟨c, env1, F1, l1, A1, ds, hc, q⟩ => ?_)
  have hw : ∀ env, Vw env c (.lst ds) := fun env => by
    rcases hc with e | e
    · subst e; exact .fz _
    · subst e; exact .ow _
  obtain ⟨a, xs, e, sq, r⟩ := (sees_last l1 A1 (hw env1)).list A1.ex
  subst e
  refine ⟨a, xs, rfl, sq, enumD 0 ds, fun _ => True, [some (.ref a)], [c], env1, F1, l1, rfl, fun i c' h j z => ?_, ?_, walk_enum fun env _ => hw env, q⟩
  · cases i with
    | zero =>
      have e : c = c' := by simpa using h
      subst e
      rcases hc with e | e <;> rw [e] at z <;> cases z
    | succ i => simp at h
  · rw [← List.append_assoc, ← List.append_assoc]; exact A1
def zipD : List D → List D → List D
  | d :: ds, e :: es => .tup [d, e] :: zipD ds es
  | _, _ => []
theorem zipD_len : ∀ (ds es : List D), (zipD ds es).length = min ds.length es.length
  | [], _ => by simp [zipD]
  | _ :: _, [] => by simp [zipD]
  | _ :: ds, _ :: es => by
    show (zipD ds es).length + 1 = min (ds.length + 1) (es.length + 1)
    rw [zipD_len ds es]; omega
theorem zipD_get : ∀ (ds es : List D) (i : Nat) (z : D), (zipD ds es)[i]? = some z → ∃ d e, ds[i]? = some d ∧ es[i]? = some e ∧ z = .tup [d, e]
  | [], _, _, _, h => by simp [zipD] at h
  | _ :: _, [], _, _, h => by simp [zipD] at h
  | d :: ds, e :: es, 0, z, h => by simp [zipD] at h; exact ⟨d, e, rfl, rfl, h.symm⟩
  | d :: ds, e :: es, i + 1, z, h => by
    simp [zipD] at h
    obtain ⟨d', e', h1, h2, h3⟩ := zipD_get ds es i z h
    exact ⟨d', e', by simpa using h1, by simpa using h2, h3⟩

theorem two_at {σ tv tw : List (Option V)} {env te tf : List Cell} {v v' : V} {c c' : Cell} (he : env.length = σ.length) (hl : te.length = tv.length) :
    ((env ++ (te ++ [c, c'] ++ tf))[(σ ++ tv).length]? = some c ∧ (σ ++ (tv ++ [some v, some v'] ++ tw))[(σ ++ tv).length]? = some (some v)) ∧
    ((env ++ (te ++ [c, c'] ++ tf))[(σ ++ tv).length + 1]? = some c' ∧ (σ ++ (tv ++ [some v, some v'] ++ tw))[(σ ++ tv).length + 1]? = some (some v')) := by
  have g1 : ∀ k, (env ++ (te ++ [c, c'] ++ tf))[(σ ++ tv).length + k]? = ([c, c'] ++ tf)[k]? := fun k => by
    rw [List.getElem?_append_right (by simp; omega)]
    rw [show (σ ++ tv).length + k - env.length = te.length + k by simp; omega]
    rw [List.append_assoc, List.getElem?_append_right (by omega), Nat.add_sub_cancel_left]
  have g2 : ∀ k, (σ ++ (tv ++ [some v, some v'] ++ tw))[(σ ++ tv).length + k]? = ([some v, some v'] ++ tw)[k]? := fun k => by
    rw [List.getElem?_append_right (by simp; omega)]
    rw [show (σ ++ tv).length + k - σ.length = tv.length + k by simp; omega]
    rw [List.append_assoc, List.getElem?_append_right (by omega), Nat.add_sub_cancel_left]
  exact ⟨⟨g1 0, g2 0⟩, ⟨g1 1, g2 1⟩⟩
theorem walk_zip {a a' : Addr} {c c' : Cell} {ds es : List D} {C : List Cell → Prop} (hw : ∀ env, C env → Vw env c (.lst ds) ∧ Vw env c' (.lst es)) : WalkOk X b (Itz X.K a a') [some (.ref a), some (.ref a')] [c, c'] (zipD ds es) C := by
  intro σ tv tw env te tf F H k l hC hl A
  obtain ⟨⟨h1, h2⟩, h3, h4⟩ := two_at (v := .ref a) (v' := .ref a') (c := c) (c' := c') (tw := tw) (tf := tf) l.len hl
  obtain ⟨_, xs, e, q, r⟩ := (sees_at l A h1 h2 (hw env hC).1).list A.ex
  cases e
  obtain ⟨_, ys, e, q', r'⟩ := (sees_at l A h3 h4 (hw env hC).2).list A.ex
  cases e
  have hlen := r.length
  have hlen' := r'.length
  rw [zipD_len]
  refine ⟨fun hk => ?_, fun x H' d hd y => ?_, fun hk => ⟨xs, ys, q, q', by omega⟩⟩
  · have hx : k < xs.length := by omega
    have hy : k < ys.length := by omega
    exact ⟨xs, ys, xs[k], ys[k], q, q', by simp [hx], by simp [hy]⟩
  · obtain ⟨T, z, z', rfl, hT, rfl, y1, y2⟩ := y
    obtain ⟨d1, d2, hd1, hd2, e'⟩ := zipD_get ds es k d hd
    rw [e']
    exact ⟨_, at_pair A hT (rp_at r (y1 xs q) hd1) (rp_at r' (y2 ys q') hd2)⟩
theorem di_zip {e e2 : Expr} {elts : List Expr} {kk : Nat} {tpos : Pos} {Q : List D → (List Cell → Prop) → List Cell → Prop} (hg : Gl X "zip") (hm : X.mg "zip" = none) (h : DE X b e env fun c env1 => DE X b e2 env1 fun c' env2 => ∃ ds es, (c = .fz (.lst ds) ∨ c = .ow (.lst ds)) ∧ (c' = .fz (.lst es) ∨ c' = .ow (.lst es)) ∧ Q (zipD ds es) (fun _ => True) env2)
    (hs : starEach [e, e2] X.env = (false, eval e X.env) :: starEach [e2] X.env := by rfl) (hs2 : starEach [e2] X.env = (false, eval e2 X.env) :: starEach [] X.env := by rfl) (hpl : (backTo pos (starEach [e2] X.env)).any (·.1) = false := by rfl) : DI X b (.Tuple elts kk tpos) (.Call (.Name "zip" p) [e, e2] [] pos) env Q := by
  intro σ tv te F H l A
  refine w_pi (pi_zip hg hm (pa_cons pe_w (pa_cons pe_w pa_nil hs2) hs) hs hpl) (wE_mono (h σ tv te F H l A) fun v H1 ⟨c, env1, F1, l1, A1, h1⟩ => ?_)
  have A1' : At X.K b (σ ++ (tv ++ [some v])) (env1 ++ (te ++ [c])) F1 H1 := by rw [← List.append_assoc, ← List.append_assoc]; exact A1
  refine wE_mono (h1 σ (tv ++ [some v]) (te ++ [c]) F1 H1 l1 A1') fun v2 H2 ⟨c', env2, F2, l2, A2, ds, es, hc, hc', q⟩ => ?_
  have A2' : At X.K b (σ ++ tv ++ [some v] ++ [some v2]) (env2 ++ te ++ [c] ++ [c']) F2 H2 := by rw [List.append_assoc σ tv, List.append_assoc env2 te]; exact A2
  have hw : ∀ env, Vw env c (.lst ds) ∧ Vw env c' (.lst es) := fun env => by
    refine ⟨?_, ?_⟩
    · rcases hc with e | e
      · subst e; exact .fz _
      · subst e; exact .ow _
    · rcases hc' with e | e
      · subst e; exact .fz _
      · subst e; exact .ow _
  obtain ⟨s1, s2⟩ := sees_2 l2 A2' (hw env2).1 (hw env2).2
  obtain ⟨a, xs, e, sq, r⟩ := s1.list A2.ex
  subst e
  obtain ⟨a', ys, e, sq', r'⟩ := s2.list A2.ex
  subst e
  refine ⟨a, a', xs, ys, rfl, sq, sq', zipD ds es, fun _ => True, [some (.ref a), some (.ref a')], [c, c'], env2, F2, l2, rfl, fun i x h j z => ?_, ?_, walk_zip fun env _ => hw env, q⟩
  · cases i with
    | zero =>
      have e : c = x := by simpa using h
      subst e
      rcases hc with e | e <;> rw [e] at z <;> cases z
    | succ i =>
      cases i with
      | zero =>
        have e : c' = x := by simpa using h
        subst e
        rcases hc' with e | e <;> rw [e] at z <;> cases z
      | succ i => simp at h
  · simpa using A2'

/-! ### dicts walked -/
/-- what stands at d is locked -/
theorem At.lock {vs : List (Option V)} {cs : List Cell} {F H : Hp} {d : Addr} {u : HO} (A : At X.K b vs cs F H) (hd : H d = some u) (hF : Rd F d u) (hL : Lk u) (od : Obj) : At X.K b vs cs F (upd H d (.frz od u)) := by
  have fd : F d ≠ none := fun z => rd_none hF z
  have fu : ∀ y, F d = some y → y = u := fun y hy => by
    rcases A.ex d y (.inl hy) with z | ⟨x, z⟩
    · rw [hd] at z; cases z; rfl
    · rw [hd] at z; cases z; exact hL.elim
  exact {
    len := A.len
    ml := A.ml
    jl := A.jl
    ex := fun a w r => by
      by_cases z : a = d
      · subst z
        rcases r with r | ⟨x, r⟩
        · rw [fu w r]; exact .inr ⟨od, upd_same⟩
        · have := fu _ r
          subst this
          exact hL.elim
      · exact rd_upd_ne (A.ex a w r) z
    tp := fun a xs h => by
      have z : a ≠ d := fun z => by
        subst z
        have := fu _ h
        subst this
        exact hL.elim
      rw [upd_ne z]
      exact A.tp a xs h
    ex0 := A.ex0
    new := A.new
    fr := fun a o h n => by
      by_cases z : a = d
      · subst z
        rcases A.fr a o h n with q | ⟨f, lk, x, q⟩
        · rw [hd] at q
          cases q
          refine .inr ⟨?_, hL, od, upd_same⟩
          cases y : F a with
          | none => exact absurd y fd
          | some w =>
            rcases A.new a w (.inl y) with r | r
            · intro r'; exact rd_none r r'
            · rw [h] at r; cases r
        · rw [hd] at q
          cases q
          exact hL.elim
      · unfold Stays
        rw [upd_ne z]
        exact A.fr a o h n
    live := fun a o h => by
      by_cases z : a = d
      · subst z; exact ⟨_, upd_same⟩
      · rw [upd_ne z]; exact A.live a o h
    ok := fun i c h => by
      refine (A.ok i c h).mono (ExR.refl F) (fun q z hq => ?_) fun dd o' w h1 h2 => ?_
      · cases c with
        | ow e =>
          obtain ⟨q1, q2, q3⟩ := A.addr h hq
          refine ⟨q1, fun o hh => ?_⟩
          have ne : q ≠ d := fun y => fd (by rw [← y]; exact q1)
          rw [upd_ne ne]
          exact hh
        | _ => cases z
      · have ne : dd ≠ d := fun y => by
          subst y
          rw [hd] at h1
          cases h1
          exact hL.elim
        rw [upd_ne ne]
        exact h1
    inj := A.inj
    io := A.io }
theorem pe_relock {e : Expr} {te : TE} (h : PE X e te) : PE X e (fun σ H Q => te σ H fun v H1 => Q v H1 ∨ ∃ d u, H1 d = some u ∧ Mut (some u) ∧ ∀ od, Q v (upd H1 d (.frz od u))) := by
  refine ⟨fun pins s σ H Q I hw => ?_⟩
  refine thn (h.run pins s σ H _ I hw) fun u s1 ⟨v, H1, I1, r, q⟩ => ?_
  rcases q with q | ⟨d, o, hd, mu, q⟩
  · exact ⟨v, H1, I1, r, q⟩
  · obtain ⟨od, I2⟩ := I1.lock hd mu
    exact ⟨v, _, I2, r, q od⟩
def itemsD (kvs : List (Key × D)) : List D := kvs.map fun p => .tup [keyD p.1, p.2]
def keysD (kvs : List (Key × D)) : List D := kvs.map fun p => keyD p.1
theorem key_is {K : PySem.W.Frag} {F : Hp} : ∀ k : Key, Rp K F (kV k) (keyD k)
  | .inl i => .int i
  | .inr x => .str x
theorem RpK.at : ∀ {xs : List (Key × V)} {ds : List (Key × D)} {K : PySem.W.Frag} {F : Hp} {i : Nat} {k : Key} {v : V}, RpK K F xs ds → xs[i]? = some (k, v) → ∃ d, ds[i]? = some (k, d) ∧ Rp K F v d
  | _, _, _, _, _, _, _, .nil, h => by simp at h
  | _, _, _, _, 0, _, _, .cons r _, h => by simp at h; obtain ⟨e1, e2⟩ := h; subst e1; subst e2; exact ⟨_, rfl, r⟩
  | _, _, _, _, i + 1, _, _, .cons _ r, h => by
    obtain ⟨d, h1, h2⟩ := r.at (i := i) (by simpa using h)
    exact ⟨d, by simpa using h1, h2⟩
/-- the walked dict's contents, from both cells in hand -/
theorem locked_at {σ tv tw : List (Option V)} {env te tf : List Cell} {F H : Hp} {d : Addr} {od : Obj} {xs : List (Key × V)} {kvs : List (Key × D)} (l : Lc m env σ) (hl : te.length = tv.length) (A : At X.K b (σ ++ (tv ++ [some (.ref d), some (.ref d)] ++ tw)) (env ++ (te ++ [.fz (.dk kvs), .lk od (.dK xs)] ++ tf)) F H) : H d = some (.frz od (.dK xs)) ∧ RpK X.K F xs kvs := by
  obtain ⟨⟨h1, h2⟩, h3, h4⟩ := two_at (v := .ref d) (v' := .ref d) (c := .fz (.dk kvs)) (c' := .lk od (.dK xs)) (tw := tw) (tf := tf) l.len hl
  have q := A.ok _ _ h3
  rw [h4] at q
  obtain ⟨d', e1, e2, e3⟩ := q
  have ed : d = d' := by injection e1 with e1; injection e1 with e1; injection e1
  subst ed
  have q1 := A.ok _ _ h1
  rw [h2] at q1
  obtain ⟨x, e4, r⟩ := q1
  have ex : V.ref d = x := by injection e4 with e4; injection e4
  subst ex
  cases r with
  | @dk _ ys _ hr rk =>
    have hR := A.ex d _ hr
    have : ys = xs := by
      rcases hR with z | ⟨o, z⟩
      · rw [e2] at z; cases z
      · rw [e2] at z; cases z; rfl
    subst this
    exact ⟨e2, rk⟩
theorem walk_items {d : Addr} {od : Obj} {xs : List (Key × V)} {kvs : List (Key × D)} {C : List Cell → Prop} : WalkOk X b (Iti d od xs) [some (.ref d), some (.ref d)] [.fz (.dk kvs), .lk od (.dK xs)] (itemsD kvs) C := by
  intro σ tv tw env te tf F H k l hC hl A
  obtain ⟨e2, rk⟩ := locked_at l hl A
  have hlen := rk.length
  have hil : (itemsD kvs).length = kvs.length := by simp [itemsD]
  rw [hil]
  refine ⟨fun hk => ⟨e2, by omega⟩, fun x H' z hd y => ?_, fun hk => ⟨e2, by omega⟩⟩
  obtain ⟨T, kk, v, hx, rfl, hT, rfl⟩ := y
  obtain ⟨dd, h1, h2⟩ := rk.at hx
  have ez : z = .tup [keyD kk, dd] := by
    unfold itemsD at hd
    rw [List.getElem?_map, h1] at hd
    exact (Option.some.inj hd).symm
  subst ez
  exact ⟨_, at_pair A hT (key_is kk) h2⟩
theorem walk_keys {d : Addr} {od : Obj} {xs : List (Key × V)} {kvs : List (Key × D)} {C : List Cell → Prop} : WalkOk X b (Itk d od xs) [some (.ref d), some (.ref d)] [.fz (.dk kvs), .lk od (.dK xs)] (keysD kvs) C := by
  intro σ tv tw env te tf F H k l hC hl A
  obtain ⟨e2, rk⟩ := locked_at l hl A
  have hlen := rk.length
  have hil : (keysD kvs).length = kvs.length := by simp [keysD]
  rw [hil]
  refine ⟨fun hk => ⟨e2, by omega⟩, fun x H' z hd y => ?_, fun hk => ⟨e2, by omega⟩⟩
  obtain ⟨rfl, kk, v, hx, rfl⟩ := y
  obtain ⟨dd, h1, h2⟩ := rk.at hx
  have ez : z = keyD kk := by
    unfold keysD at hd
    rw [List.getElem?_map, h1] at hd
    exact (Option.some.inj hd).symm
  subst ez
  exact ⟨F, A.push_fz (key_is kk)⟩
/-- a dict in hand, locked: the two cells -/
theorem lock_last {σ tv : List (Option V)} {te : List Cell} {F H : Hp} {v : V} {kvs : List (Key × D)} (l : Lc m env σ) (A : At X.K b (σ ++ tv ++ [some v]) (env ++ te ++ [.fz (.dk kvs)]) F H) :
    ∃ d xs, v = .ref d ∧ ((∃ od, H d = some (.frz od (.dK xs)) ∧ At X.K b (σ ++ (tv ++ [some (.ref d), some (.ref d)])) (env ++ (te ++ [.fz (.dk kvs), .lk od (.dK xs)])) F H) ∨
      (H d = some (.dK xs) ∧ ∀ od, At X.K b (σ ++ (tv ++ [some (.ref d), some (.ref d)])) (env ++ (te ++ [.fz (.dk kvs), .lk od (.dK xs)])) F (upd H d (.frz od (.dK xs))))) := by
  have r := last_fz A
  cases r with
  | @dk d xs _ hr rk =>
    have fd : F d ≠ none := fun z => rd_none hr z
    refine ⟨d, xs, rfl, ?_⟩
    rcases A.ex d _ hr with z | ⟨od, z⟩
    · refine .inr ⟨z, fun od => ?_⟩
      have A2 := (A.lock z hr True.intro od).push (v := .ref d) (c := .lk od (.dK xs)) ⟨d, rfl, upd_same, fd⟩ fun _ _ _ _ _ z => nomatch z
      simpa using A2
    · refine .inl ⟨od, z, ?_⟩
      have A2 := A.push (v := .ref d) (c := .lk od (.dK xs)) ⟨d, rfl, z, fd⟩ fun _ _ _ _ _ z => nomatch z
      simpa using A2
theorem noal_lk {kvs : List (Key × D)} {od : Obj} {u : HO} : NoAl [.fz (.dk kvs), .lk od u] := fun i c h j z => by
  cases i with
  | zero => simp at h; rw [← h] at z; cases z
  | succ i =>
    cases i with
    | zero => simp at h; rw [← h] at z; cases z
    | succ i => simp at h
theorem di_items {e : Expr} {elts : List Expr} {kk : Nat} {tpos apos cpos : Pos} {Q : List D → (List Cell → Prop) → List Cell → Prop} (h : DE X b e env fun c env1 => ∃ kvs, c = .fz (.dk kvs) ∧ Q (itemsD kvs) (fun _ => True) env1) (hbase : attributeBase e "items" X.env (eval e X.env) = eval e X.env := by rfl) (hline : (apos.endLine == cpos.line) = true := by rfl) :
    DI X b (.Tuple elts kk tpos) (.Call (.Attribute e "items" apos) [] [] cpos) env Q := by
  intro σ tv te F H l A
  refine w_pi (pi_items (pe_relock pe_w) hbase hline) (wE_mono (h σ tv te F H l A) fun v H1 ⟨c, env1, F1, l1, A1, kvs, hc, q⟩ => ?_)
  subst hc
  obtain ⟨d, xs, rfl, z⟩ := lock_last l1 A1
  rcases z with ⟨od, hd, A2⟩ | ⟨hd, A2⟩
  · exact .inl ⟨d, od, xs, rfl, hd, itemsD kvs, fun _ => True, _, _, env1, F1, l1, rfl, noal_lk, A2, walk_items, q⟩
  · exact .inr ⟨d, .dK xs, hd, True.intro, fun od => ⟨d, od, xs, rfl, upd_same, itemsD kvs, fun _ => True, _, _, env1, F1, l1, rfl, noal_lk, A2 od, walk_items, q⟩⟩
theorem di_keys {e : Expr} {Q : List D → (List Cell → Prop) → List Cell → Prop} (h : DE X b e env fun c env1 => ∃ kvs, c = .fz (.dk kvs) ∧ Q (keysD kvs) (fun _ => True) env1) : DI X b tg e env Q := by
  intro σ tv te F H l A
  refine w_pi (pi_keys (pe_relock pe_w)) (wE_mono (h σ tv te F H l A) fun v H1 ⟨c, env1, F1, l1, A1, kvs, hc, q⟩ => ?_)
  subst hc
  obtain ⟨d, xs, rfl, z⟩ := lock_last l1 A1
  rcases z with ⟨od, hd, A2⟩ | ⟨hd, A2⟩
  · exact .inl ⟨d, od, rfl, .inl ⟨xs, hd, keysD kvs, fun _ => True, _, _, env1, F1, l1, rfl, noal_lk, A2, walk_keys, q⟩⟩
  · exact .inr ⟨d, .dK xs, hd, True.intro, fun od => ⟨d, od, rfl, .inl ⟨xs, upd_same, keysD kvs, fun _ => True, _, _, env1, F1, l1, rfl, noal_lk, A2 od, walk_keys, q⟩⟩⟩
end
end DL


set_option Elab.async false
set_option linter.all false
set_option maxRecDepth 100000
set_option maxHeartbeats 1000000
/-! THE DATA LAYER, 9: calls of built-ins, methods, slices, stores by place. -/
namespace DL
open PySem PySem.Spec PyProof.Rows L2
section
variable {X : Cx} {js : List Nat} {m : Nat} {b : Base js m} {env : List Cell} {Q : Cell → List Cell → Prop} {E : DEnds} {pos p : Pos} {tg iter : Expr}
/-! ### calls of built-ins -/
theorem de_callB {x : Str} {id : String} {r : List V → Hp → VK → Prop} {e : Expr} {es : List Expr} (hc : CallR X (.builtin id) r) (hg : Gl X x) (hm : X.mg x = none) (hv : bootBuiltins x = some (.builtin id)) (h : DA X b (e :: es) env fun cs env1 => OpA X b r cs env1 Q) (hn : x ≠ "__name__" := by decide) (hdb : (x == ("__debug__" : Str)) = false := by decide)
    (he : starEach (e :: es) X.env = (false, eval e X.env) :: starEach es X.env := by rfl) (hpl : (backTo pos (starEach es X.env)).any (·.1) = false := by rfl) : DE X b (.Call (.Name x p) (e :: es) [] pos) env Q := by
  intro σ tv te F H l A
  refine w_pe (pe_callB hc hg hm hv pa_w hn hdb he hpl) (wA_mono (h σ tv te F H l A) fun vs H1 ⟨cs, env1, F1, l1, hl, A1, q⟩ => ?_)
  exact q σ tv te F1 H1 vs l1 hl A1 _ fun v H' c env' F' l' A' q => ⟨c, env', F', l', A', q⟩
theorem de_callTy {x : Str} {T : String} {r : List V → Hp → VK → Prop} {e : Expr} {es : List Expr} (hc : CallR X (.type T) r) (hg : Gl X x) (hm : X.mg x = none) (hv : bootBuiltins x = some (.type T)) (h : DA X b (e :: es) env fun cs env1 => OpA X b r cs env1 Q) (hn : x ≠ "__name__" := by decide) (hdb : (x == ("__debug__" : Str)) = false := by decide)
    (he : starEach (e :: es) X.env = (false, eval e X.env) :: starEach es X.env := by rfl) (hpl : (backTo pos (starEach es X.env)).any (·.1) = false := by rfl) : DE X b (.Call (.Name x p) (e :: es) [] pos) env Q := by
  intro σ tv te F H l A
  refine w_pe (pe_callTy hc hg hm hv pa_w hn hdb he hpl) (wA_mono (h σ tv te F H l A) fun vs H1 ⟨cs, env1, F1, l1, hl, A1, q⟩ => ?_)
  exact q σ tv te F1 H1 vs l1 hl A1 _ fun v H' c env' F' l' A' q => ⟨c, env', F', l', A', q⟩
theorem OpA.one {r : List V → Hp → VK → Prop} {c : Cell} (h : Op1 X b (fun v => r [v]) c env Q) : OpA X b r [c] env Q := by
  intro σ tv te F H vs l hl A Q' k
  match vs, hl with
  | [v], _ => exact h σ tv te F H v l A Q' k
theorem OpA.two {r : List V → Hp → VK → Prop} {c1 c2 : Cell} (h : Op2 X b (fun v w => r [v, w]) c1 c2 env Q) : OpA X b r [c1, c2] env Q := by
  intro σ tv te F H vs l hl A Q' k
  match vs, hl with
  | [v, w], _ =>
    refine h σ tv te F H v w l ?_ Q' k
    have : At X.K b (σ ++ tv ++ [some v, some w]) (env ++ te ++ [c1, c2]) F H := A
    rw [List.append_assoc (σ ++ tv), List.append_assoc (env ++ te)]
    exact this
theorem Op1.l {r r' : V → Hp → VK → Prop} {c1 : Cell} (h : Op1 X b r c1 env Q) : Op1 X b (fun x H Q => r x H Q ∨ r' x H Q) c1 env Q := fun σ tv te F H v1 l A Q' k => .inl (h σ tv te F H v1 l A Q' k)
theorem Op1.r {r r' : V → Hp → VK → Prop} {c1 : Cell} (h : Op1 X b r' c1 env Q) : Op1 X b (fun x H Q => r x H Q ∨ r' x H Q) c1 env Q := fun σ tv te F H v1 l A Q' k => .inr (h σ tv te F H v1 l A Q' k)
/-! len -/
inductive Ln : D → Nat → Prop
  | lst (ds : List D) : Ln (.lst ds) ds.length
  | tup (ds : List D) : Ln (.tup ds) ds.length
  | str {x : Str} : x.length ≤ 100000 → Ln (.str x) x.length
  | dk (kvs : List (Key × D)) : Ln (.dk kvs) kvs.length
abbrev rLenA (K : PySem.W.Frag) : List V → Hp → VK → Prop := fun xs H Q => (∃ x n, xs = [x] ∧ LenV K x H n ∧ Q (.int n) H) ∨ ∃ a kvs, xs = [.ref a] ∧ Rd H a (.dK kvs) ∧ Q (.int kvs.length) H
theorem call_lenA : CallR X (.builtin "len") (rLenA X.K) := call_len.or (by
  intro pins s σ H xs us Q I r h
  obtain ⟨a, kvs, rfl, hd, q⟩ := h
  obtain ⟨u, rfl, rx⟩ := vals1 r
  cases rx
  exact d_len I hd fun t s' I' => ⟨.int _, H, I', ⟨t, rfl⟩, q⟩)
theorem len_c {c : Cell} {d : D} {n : Nat} (w : Vw env c d) (h : Ln d n) (q : Q (.fz (.int (n : Nat))) env) : OpA X b (rLenA X.K) [c] env Q := OpA.one (Op1.mk w (fun F H v ex s Q' k => by
  cases h with
  | lst ds =>
    obtain ⟨a, xs, rfl, q1, r1⟩ := s.list ex
    exact .inl ⟨_, _, rfl, .inl ⟨xs, q1, rfl⟩, k _ (by rw [r1.length]; exact .int _)⟩
  | tup ds =>
    obtain ⟨a, xs, rfl, q1, r1⟩ := s.tuple ex
    exact .inl ⟨_, _, rfl, .inr ⟨xs, q1, rfl⟩, k _ (by rw [r1.length]; exact .int _)⟩
  | str hz =>
    rw [s.rp_str]
    exact .inl ⟨_, _, rfl, ⟨Nat.le_trans hz (by decide), rfl⟩, k _ (.int _)⟩
  | dk kvs =>
    obtain ⟨a, xs, rfl, q1, r1⟩ := s.dictK ex
    exact .inr ⟨a, xs, rfl, q1, k _ (by rw [r1.length]; exact .int _)⟩) q)
/-! abs, int -/
theorem abs_c {c : Cell} {i : Int} (w : Vw env c (.int i)) (q : Q (.fz (.int (if i < 0 then -i else i))) env) : OpA X b (fun xs H Q => ∃ i, xs = [.int i] ∧ Q (.int (if i < 0 then -i else i)) H) [c] env Q :=
  OpA.one (Op1.mk w (fun F H v ex s Q' k => ⟨i, by rw [s.rp_int], k _ (.int _)⟩) q)
abbrev rInt1 : List V → Hp → VK → Prop := fun xs H Q => (∃ i, xs = [.int i] ∧ Q (.int i) H) ∨ ∃ k, xs = [.bl k] ∧ Q (.int (if k then 1 else 0)) H
theorem int_b {c : Cell} {t : Bool} (w : Vw env c (.bl t)) (q : Q (.fz (.int (if t then 1 else 0))) env) : OpA X b rInt1 [c] env Q :=
  OpA.one (Op1.mk w (fun F H v ex s Q' k => .inr ⟨t, by rw [s.rp_bl], k _ (.int _)⟩) q)
theorem int_i {c : Cell} {i : Int} (w : Vw env c (.int i)) (q : Q (.fz (.int i)) env) : OpA X b rInt1 [c] env Q :=
  OpA.one (Op1.mk w (fun F H v ex s Q' k => .inl ⟨i, by rw [s.rp_int], k _ (.int _)⟩) q)
/-! list(x), tuple(x) -/
abbrev rListOf (K : PySem.W.Frag) : List V → Hp → VK → Prop := fun xs H Q => ∃ p ys, xs = [.ref p] ∧ (SqL K H p ys ∨ SqT K H p ys) ∧ ∀ l, H l = none → Q (.ref l) (upd H l (.lst ys))
theorem list_l {c : Cell} {ds : List D} (w : Vw env c (.lst ds)) (q : Q (.ow (.lst ds)) env) : OpA X b (rListOf X.K) [c] env Q := OpA.one (Op1.mkL w (fun F H v ex s Q' k => by
  obtain ⟨a, xs, rfl, q1, r1⟩ := s.list ex
  exact ⟨a, xs, rfl, .inl q1, fun p hp => k p xs hp r1⟩) q)
theorem list_t {c : Cell} {ds : List D} (w : Vw env c (.tup ds)) (q : Q (.ow (.lst ds)) env) : OpA X b (rListOf X.K) [c] env Q := OpA.one (Op1.mkL w (fun F H v ex s Q' k => by
  obtain ⟨a, xs, rfl, q1, r1⟩ := s.tuple ex
  exact ⟨a, xs, rfl, .inr q1, fun p hp => k p xs hp r1⟩) q)
theorem Op1.mkT {r : V → Hp → VK → Prop} {c1 : Cell} {d1 : D} {ds : List D} (w1 : Vw env c1 d1) (h : ∀ F H v1, ExR F H → Sees X.K F H v1 d1 → ∀ Q' : VK, (∀ p xs, H p = none → RpL X.K F xs ds → Q' (.ref p) (upd H p (.tup xs))) → (∀ v, Rp X.K F v (.tup ds) → Q' v H) → r v1 H Q') (q : Q (.fz (.tup ds)) env) : Op1 X b r c1 env Q := by
  intro σ tv te F H v1 l A Q' k
  exact h F H v1 A.ex (sees_last l A w1) _ (fun p xs hp rv => k _ _ _ env _ l ((pop1 l A).alloc_fz hp (rp_tup ((pop1 l A).f_none hp) rv)) q) fun v rv => k v H _ env F l ((pop1 l A).push_fz rv) q
abbrev rTupOf (K : PySem.W.Frag) : List V → Hp → VK → Prop := fun xs H Q => ∃ p ys, xs = [.ref p] ∧ ((SqL K H p ys ∧ ∀ l, H l = none → Q (.ref l) (upd H l (.tup ys))) ∨ (SqT K H p ys ∧ Q (.ref p) H))
theorem tuple_l {c : Cell} {ds : List D} (w : Vw env c (.lst ds)) (q : Q (.fz (.tup ds)) env) : OpA X b (rTupOf X.K) [c] env Q := OpA.one (Op1.mkT w (fun F H v ex s Q' k _ => by
  obtain ⟨a, xs, rfl, q1, r1⟩ := s.list ex
  exact ⟨a, xs, rfl, .inl ⟨q1, fun p hp => k p xs hp r1⟩⟩) q)
theorem tuple_t {c : Cell} {ds : List D} (w : Vw env c (.tup ds)) (q : Q (.fz (.tup ds)) env) : OpA X b (rTupOf X.K) [c] env Q := OpA.one (Op1.mkT w (fun F H v ex s Q' _ k => by
  have z := s
  obtain ⟨a, xs, rfl, q1, r1⟩ := s.tuple ex
  cases z with | fz r => exact ⟨a, xs, rfl, .inr ⟨q1, k _ r⟩⟩) q)
/-! sum, all, any -/
theorem rpl_ints {K : PySem.W.Frag} {F : Hp} : ∀ {xs : List V} {ns : List Int}, RpL K F xs (ns.map .int) → xs = ns.map V.int
  | _, [], r => by rw [List.map_nil] at r; cases r; rfl
  | _, n :: ns, r => by
    rw [List.map_cons] at r
    cases r with
    | cons h t => rw [h.int_inv, rpl_ints t]; rfl
theorem rpl_bls {K : PySem.W.Frag} {F : Hp} : ∀ {xs : List V} {ns : List Bool}, RpL K F xs (ns.map .bl) → xs = ns.map V.bl
  | _, [], r => by rw [List.map_nil] at r; cases r; rfl
  | _, n :: ns, r => by
    rw [List.map_cons] at r
    cases r with
    | cons h t => rw [h.bl_inv, rpl_bls t]; rfl
theorem rpl_strs {K : PySem.W.Frag} {F : Hp} : ∀ {xs : List V} {ns : List Str}, RpL K F xs (ns.map .str) → xs = ns.map V.str
  | _, [], r => by rw [List.map_nil] at r; cases r; rfl
  | _, n :: ns, r => by
    rw [List.map_cons] at r
    cases r with
    | cons h t => rw [h.str_inv, rpl_strs t]; rfl
theorem sum_c {c : Cell} {ns : List Int} {ds : List D} (w : Vw env c (.lst ds)) (e : ds = ns.map .int) (q : Q (.fz (.int ns.sum)) env) : OpA X b (rSum X.K) [c] env Q := by
  subst e
  exact OpA.one (Op1.mk w (fun F H v ex s Q' k => by
    obtain ⟨a, xs, rfl, q1, r1⟩ := s.list ex
    exact ⟨a, ns, rfl, by rw [← rpl_ints r1]; exact q1, k _ (.int _)⟩) q)
theorem all_c {c : Cell} {bs : List Bool} {ds : List D} (w : Vw env c (.lst ds)) (e : ds = bs.map .bl) (q : Q (.fz (.bl (bs.all id))) env) : OpA X b (rAll X.K) [c] env Q := by
  subst e
  exact OpA.one (Op1.mk w (fun F H v ex s Q' k => by
    obtain ⟨a, xs, rfl, q1, r1⟩ := s.list ex
    exact ⟨a, bs, rfl, by rw [← rpl_bls r1]; exact q1, k _ (.bl _)⟩) q)
theorem any_c {c : Cell} {bs : List Bool} {ds : List D} (w : Vw env c (.lst ds)) (e : ds = bs.map .bl) (q : Q (.fz (.bl (bs.any id))) env) : OpA X b (rAny X.K) [c] env Q := by
  subst e
  exact OpA.one (Op1.mk w (fun F H v ex s Q' k => by
    obtain ⟨a, xs, rfl, q1, r1⟩ := s.list ex
    exact ⟨a, bs, rfl, by rw [← rpl_bls r1]; exact q1, k _ (.bl _)⟩) q)
/-! sorted -/
def dsort (ds : List D) : List D := ds.mergeSort (PySem.W.dataLe false D.py)
structure Sortd (ds : List D) : Prop where
  sh : ∃ n, n ≤ 60 ∧ ∀ d ∈ ds, Sh n d
  al : PySem.W.AllAlike (ds.map D.py)
  ok : PySem.W.Sortable (ds.map D.py)
  sz : ds.length ≤ 100000
def rSortD (K : PySem.W.Frag) : List V → Hp → VK → Prop := fun vs H Q => ∃ a xs F ds, vs = [.ref a] ∧ SqL K H a xs ∧ ExR F H ∧ RpL K F xs ds ∧ Sortd ds ∧ ∀ p ys, H p = none → RpL K F ys (dsort ds) → Q (.ref p) (upd H p (.lst ys))
theorem each_of {K : PySem.W.Frag} {F : Hp} : ∀ {xs : List V} {ds : List D} {us : List Value}, RpL K F xs ds → Vals xs us → PySem.W.EachIs (fun u d => ∃ v, RelV v u ∧ Rp K F v d) us ds
  | _, _, _, .nil, .nil => .nil
  | _, _, _, .cons r rs, .cons h t => .cons ⟨_, h, r⟩ (each_of rs t)
theorem of_each {K : PySem.W.Frag} {F : Hp} : ∀ {us : List Value} {ds : List D}, PySem.W.EachIs (fun u d => ∃ v, RelV v u ∧ Rp K F v d) us ds → ∃ xs, Vals xs us ∧ RpL K F xs ds
  | _, _, .nil => ⟨[], .nil, .nil⟩
  | _, _, .cons ⟨v, h, r⟩ t => by
    obtain ⟨xs, h1, h2⟩ := of_each t
    exact ⟨v :: xs, .cons h h1, .cons r h2⟩
theorem cr_sortD (hu : X.A.units + 64 < cLine) : CallR X (.builtin "sorted") (rSortD X.K) := by
  intro pins s σ H vs us Q I r h
  obtain ⟨a, xs, F, ds, rfl, hs, ex, rl, st, q⟩ := h
  obtain ⟨its, rv, hl, hz⟩ := I.list hs
  rw [Vals.ref1 r]
  obtain ⟨n, hn, sh⟩ := st.sh
  have er : PySem.W.EachIs (fun v d => ∃ as, Reads s.heap v (D.py d) as) its ds := by
    have all : ∀ {xs : List V} {ds : List D} {us : List Value}, (∀ d ∈ ds, Sh n d) → RpL X.K F xs ds → Vals xs us → PySem.W.EachIs (fun v d => ∃ as, Reads s.heap v (D.py d) as) us ds := by
      intro xs ds us sh r v
      induction ds generalizing xs us with
      | nil => cases r; cases v; exact .nil
      | cons d ds ih =>
        cases r with
        | cons r1 r2 =>
          cases v with
          | cons v1 v2 => exact .cons (Dp.reads I _ _ _ (r1.dp ex n (sh d (List.mem_cons_self ..))) v1) (ih (fun d hd => sh d (List.mem_cons_of_mem _ hd)) r2 v2)
    exact all sh rl rv
  have hdl : ds.length ≤ sizeLine := Nat.le_trans st.sz (by decide)
  refine PySem.W.sorted_data hl.isList (each_of rl rv) er st.al st.ok hdl (fun d hd => ?_) fun out ho he => ?_
  · have := (sh d hd).depth n
    omega
  · obtain ⟨ys, hv, hr⟩ := of_each he
    obtain ⟨ep, he'⟩ := PyProof.Rows.sortedAll_at s.heap its out.toArray
    have hlen : ys.length ≤ sizeLine := by rw [hv.length, ho]; exact hdl
    exact ⟨.ref _, upd H (s.heap.objs.size + 1) (.lst ys), I.laid (t' := s.toks) (fun _ _ => PyProof.Rows.sortedAll_old) (Nat.le_succ _) ⟨hlen, out, ep, hv, he'⟩, rfl, q _ _ (I.hok.fresh (Nat.le_succ _)) hr⟩
theorem sorted_c {c : Cell} {ds : List D} (w : Vw env c (.lst ds)) (st : Sortd ds) (q : Q (.ow (.lst (dsort ds))) env) : OpA X b (rSortD X.K) [c] env Q := OpA.one (Op1.mkL w (fun F H v ex s Q' k => by
  obtain ⟨a, xs, rfl, q1, r1⟩ := s.list ex
  exact ⟨a, xs, F, ds, rfl, q1, ex, r1, st, fun p ys hp hr => k p ys hp hr⟩) q)
/-! dict(pairs) -/
def dmerge (acc : List (Key × D)) : List (Key × D) → List (Key × D)
  | [] => acc
  | p :: r => dmerge (dput acc p.1 p.2) r
end
end DL


set_option Elab.async false
set_option linter.all false
set_option maxRecDepth 100000
set_option maxHeartbeats 1000000
/-! THE DATA LAYER, 10: methods of own lists and dicts, slices, stores by place, dict(..), dict comprehensions. -/
namespace DL
open PySem PySem.Spec PyProof.Rows L2
section
variable {X : Cx} {js : List Nat} {m : Nat} {b : Base js m} {env : List Cell} {Q : Cell → List Cell → Prop} {E : DEnds} {pos p apos cpos : Pos} {tg iter : Expr}
/-- the value of an own local in hand -/
theorem own_last {σ tv : List (Option V)} {te : List Cell} {F H : Hp} {v : V} {i : Nat} {d : D} (l : Lc m env σ) (A : At X.K b (σ ++ tv ++ [some v]) (env ++ te ++ [.al i]) F H) (he : env[i]? = some (.ow d)) : ∃ a, v = .ref a ∧ (σ ++ tv)[i]? = some (some (.ref a)) ∧ (env ++ te)[i]? = some (.ow d) ∧ OwnAt X.K F H a d := by
  have A0 := pop1 l A
  have hi : i < env.length := (List.getElem?_eq_some_iff.mp he).1
  have hc0 : (env ++ te)[i]? = some (.ow d) := by rw [List.getElem?_append_left hi]; exact he
  obtain ⟨a, hv, fn, ow, h0⟩ := A0.ok i _ hc0
  obtain ⟨q1, q2, _⟩ := last_ok A
  refine ⟨a, ?_, hv, hc0, ow⟩
  rw [List.getElem?_append_left (by have := l.len; simp; omega), hv] at q2
  exact Option.some.inj (Option.some.inj q2)
/-- an own local is written -/
theorem own_write {σ tv : List (Option V)} {te : List Cell} {F H : Hp} {a : Addr} {i : Nat} {d d' : D} {o : HO} (l : Lc m env σ) (A : At X.K b (σ ++ tv) (env ++ te) F H) (he : env[i]? = some (.ow d)) (hv : (σ ++ tv)[i]? = some (some (.ref a))) (ow : OwnAt X.K F (upd H a o) a d') : Lc m (env.set i (.ow d')) σ ∧ At X.K b (σ ++ tv) (env.set i (.ow d') ++ te) F (upd H a o) := by
  have hi : i < env.length := (List.getElem?_eq_some_iff.mp he).1
  have A1 := A.write (k := i) (d := d) (d' := d') (o := o) (by rw [List.getElem?_append_left hi]; exact he) hv ow
  rw [List.set_append_left _ _ hi] at A1
  exact ⟨lc_set l na_ow, A1⟩
theorem swap_al {σ tv : List (Option V)} {te : List Cell} {F H : Hp} {v w : V} {i : Nat} {c : Cell} (l : Lc m env σ) (A : At X.K b (σ ++ tv ++ [some v] ++ [some w]) (env ++ te ++ [.al i] ++ [c]) F H) : At X.K b (σ ++ tv ++ [some v]) (env ++ te ++ [.al i]) F H ∧ At X.K b (σ ++ tv ++ [some w]) (env ++ te ++ [c]) F H := by
  refine ⟨A.pop (by have := l.ml; simp; omega), ?_⟩
  have A1 : At X.K b (σ ++ tv ++ [some v] ++ [some w]) (env ++ te ++ [.al i] ++ [c]) F H := A
  exact A1.dropMid (by have h1 := A.len; have := l.len; simp at h1 ⊢; omega) rfl l.le
theorem assoc2 {σ tv : List (Option V)} {te : List Cell} {F H : Hp} {v w : V} {c c' : Cell} (A : At X.K b (σ ++ (tv ++ [some v]) ++ [some w]) (env ++ (te ++ [c]) ++ [c']) F H) : At X.K b (σ ++ tv ++ [some v] ++ [some w]) (env ++ te ++ [c] ++ [c']) F H := by
  rw [List.append_assoc σ tv, List.append_assoc env te]; exact A
theorem assoc1 {σ tv : List (Option V)} {te : List Cell} {F H : Hp} {v : V} {c : Cell} (A : At X.K b (σ ++ tv ++ [some v]) (env ++ te ++ [c]) F H) : At X.K b (σ ++ (tv ++ [some v])) (env ++ (te ++ [c])) F H := by
  rw [← List.append_assoc, ← List.append_assoc]; exact A

/-! ### lists -/
theorem de_append {o e : Expr} (h : DE X b o env fun c env1 => ∃ i ds, c = .al i ∧ env1[i]? = some (.ow (.lst ds)) ∧ DE X b e env1 fun c2 env2 => ∃ d ds2, c2 = .fz d ∧ env2[i]? = some (.ow (.lst ds2)) ∧ ds2.length < 100000 ∧ Q (.fz .non) (env2.set i (.ow (.lst (ds2 ++ [d])))))
    (hbase : attributeBase o "append" X.env (eval o X.env) = eval o X.env := by rfl)
    (hfew : ((backTo cpos (starEach [e] X.env)).all (fun x => !x.1) && (backToKw cpos (keywordEach [] X.env)).all (fun x => x.1.isSome) && decide (([e] : List Expr).length + ([] : List Keyword).length + (if ([] : List Keyword).isEmpty then 0 else 1) < 30)) = true := by rfl)
    (hline : (apos.endLine == cpos.line) = true := by rfl) (hs : starEach [e] X.env = (false, eval e X.env) :: starEach [] X.env := by rfl) (hplain : (backTo cpos (starEach [] X.env)).any (·.1) = false := by rfl) : DE X b (.Call (.Attribute o "append" apos) [e] [] cpos) env Q := by
  intro σ tv te F H l A
  refine w_pe (pe_bm PySem.F.plainAttrs_list PySem.F.slot_list_append PySem.F.type_list_append mt_append pe_w (pa_cons pe_w pa_nil hs) hbase hfew hline hs hplain) (wE_mono (h σ tv te F H l A) fun v H1 ⟨c, env1, F1, l1, A1, i, ds, ec, he, h1⟩ => ?_)
  subst ec
  obtain ⟨a, rfl, hv, _, ow⟩ := own_last l1 A1 he
  cases ow with
  | lst ha _ =>
    refine ⟨.inl ⟨rfl, _, .inl (.inl ha)⟩, wE_mono (h1 σ _ _ F1 H1 l1 (assoc1 A1)) fun w H2 ⟨c2, env2, F2, l2, A2, d, ds2, ec, he2, hz, q⟩ => ?_⟩
    subst ec
    obtain ⟨A3, A4⟩ := swap_al l2 (assoc2 A2)
    obtain ⟨a', e', hv2, _, ow2⟩ := own_last l2 A3 he2
    cases e'
    cases ow2 with
    | lst ha2 r2 =>
      have rw' := last_fz A4
      obtain ⟨l5, A5⟩ := own_write (o := .lst (_ ++ [w])) (d' := .lst (ds2 ++ [d])) l2 (pop1 l2 A4) he2 hv2 (.lst upd_same (r2.append (.cons rw' .nil)))
      exact ⟨a, _, w, rfl, rfl, ha2, by rw [r2.length]; exact Nat.lt_of_lt_of_le hz (by decide), _, _, F2, l5, A5.push_fz .non, q⟩
theorem de_pop {o : Expr} (h : DE X b o env fun c env1 => ∃ i ds d, c = .al i ∧ env1[i]? = some (.ow (.lst ds)) ∧ ds[ds.length - 1]? = some d ∧ Q (.fz d) (env1.set i (.ow (.lst ds.dropLast))))
    (hbase : attributeBase o "pop" X.env (eval o X.env) = eval o X.env := by rfl) (hline : (apos.endLine == cpos.line) = true := by rfl) : DE X b (.Call (.Attribute o "pop" apos) [] [] cpos) env Q := by
  intro σ tv te F H l A
  refine w_pe (pe_bm0 PySem.F.plainAttrs_list PySem.F.slot_list_pop PySem.F.type_list_pop mt_pop pe_w hbase hline) (wE_mono (h σ tv te F H l A) fun v H1 ⟨c, env1, F1, l1, A1, i, ds, d, ec, he, hd, q⟩ => ?_)
  subst ec
  obtain ⟨a, rfl, hv, _, ow⟩ := own_last l1 A1 he
  cases ow with
  | @lst xs _ ha r =>
    obtain ⟨y, hy, ry⟩ := r.getD hd
    refine ⟨.inl ⟨rfl, _, .inl (.inl ha)⟩, a, xs, y, rfl, rfl, ha, by rw [r.length]; exact hy, ?_⟩
    have rd : RpL X.K F1 xs.dropLast ds.dropLast := by
      rw [List.dropLast_eq_take, List.dropLast_eq_take, r.length]
      exact r.take _
    obtain ⟨l5, A5⟩ := own_write (o := .lst xs.dropLast) (d' := .lst ds.dropLast) l1 (pop1 l1 A1) he hv (.lst upd_same rd)
    exact ⟨_, _, F1, l5, A5.push_fz ry, q⟩
theorem de_popAt {o e : Expr} (h : DE X b o env fun c env1 => ∃ i ds, c = .al i ∧ env1[i]? = some (.ow (.lst ds)) ∧ DE X b e env1 fun c2 env2 => ∃ (n : Int) (ds2 : List D) (d : D), c2 = .fz (.int n) ∧ env2[i]? = some (.ow (.lst ds2)) ∧ 0 ≤ n ∧ ds2.length ≤ 100000 ∧ ds2[n.toNat]? = some d ∧ Q (.fz d) (env2.set i (.ow (.lst (ds2.eraseIdx n.toNat)))))
    (hbase : attributeBase o "pop" X.env (eval o X.env) = eval o X.env := by rfl)
    (hfew : ((backTo cpos (starEach [e] X.env)).all (fun x => !x.1) && (backToKw cpos (keywordEach [] X.env)).all (fun x => x.1.isSome) && decide (([e] : List Expr).length + ([] : List Keyword).length + (if ([] : List Keyword).isEmpty then 0 else 1) < 30)) = true := by rfl)
    (hline : (apos.endLine == cpos.line) = true := by rfl) (hs : starEach [e] X.env = (false, eval e X.env) :: starEach [] X.env := by rfl) (hplain : (backTo cpos (starEach [] X.env)).any (·.1) = false := by rfl) : DE X b (.Call (.Attribute o "pop" apos) [e] [] cpos) env Q := by
  intro σ tv te F H l A
  refine w_pe (pe_bm PySem.F.plainAttrs_list PySem.F.slot_list_pop PySem.F.type_list_pop mt_popAt pe_w (pa_cons pe_w pa_nil hs) hbase hfew hline hs hplain) (wE_mono (h σ tv te F H l A) fun v H1 ⟨c, env1, F1, l1, A1, i, ds, ec, he, h1⟩ => ?_)
  subst ec
  obtain ⟨a, rfl, hv, _, ow⟩ := own_last l1 A1 he
  cases ow with
  | lst ha _ =>
    refine ⟨.inl ⟨rfl, _, .inl (.inl ha)⟩, wE_mono (h1 σ _ _ F1 H1 l1 (assoc1 A1)) fun w H2 ⟨c2, env2, F2, l2, A2, n, ds2, d, ec, he2, h0, hz, hd, q⟩ => ?_⟩
    subst ec
    obtain ⟨A3, A4⟩ := swap_al l2 (assoc2 A2)
    obtain ⟨a', e', hv2, _, ow2⟩ := own_last l2 A3 he2
    cases e'
    cases ow2 with
    | @lst xs _ ha2 r2 =>
      have rw' := (last_fz A4).int_inv
      subst rw'
      obtain ⟨y, hy, ry⟩ := r2.getD hd
      have hlt : n.toNat < ds2.length := (List.getElem?_eq_some_iff.mp hd).1
      obtain ⟨l5, A5⟩ := own_write (o := .lst (xs.eraseIdx n.toNat)) (d' := .lst (ds2.eraseIdx n.toNat)) l2 (pop1 l2 A4) he2 hv2 (.lst upd_same (r2.eraseIdx _))
      refine ⟨a, xs, n, n.toNat, y, rfl, rfl, ha2, by omega, by omega, ?_, hy, _, _, F2, l5, A5.push_fz ry, q⟩
      rw [r2.length]
      exact seqIndex_of h0 (by omega)
theorem de_extend {o e : Expr} (h : DE X b o env fun c env1 => ∃ i ds, c = .al i ∧ env1[i]? = some (.ow (.lst ds)) ∧ DE X b e env1 fun c2 env2 => ∃ es ds2, c2 = .ow (.lst es) ∧ env2[i]? = some (.ow (.lst ds2)) ∧ ds2.length + es.length ≤ 100000 ∧ Q (.fz .non) (env2.set i (.ow (.lst (ds2 ++ es)))))
    (hbase : attributeBase o "extend" X.env (eval o X.env) = eval o X.env := by rfl)
    (hfew : ((backTo cpos (starEach [e] X.env)).all (fun x => !x.1) && (backToKw cpos (keywordEach [] X.env)).all (fun x => x.1.isSome) && decide (([e] : List Expr).length + ([] : List Keyword).length + (if ([] : List Keyword).isEmpty then 0 else 1) < 30)) = true := by rfl)
    (hline : (apos.endLine == cpos.line) = true := by rfl) (hs : starEach [e] X.env = (false, eval e X.env) :: starEach [] X.env := by rfl) (hplain : (backTo cpos (starEach [] X.env)).any (·.1) = false := by rfl) : DE X b (.Call (.Attribute o "extend" apos) [e] [] cpos) env Q := by
  intro σ tv te F H l A
  refine w_pe (pe_bm PySem.F.plainAttrs_list PySem.F.slot_list_extend PySem.F.type_list_extend mt_extend pe_w (pa_cons pe_w pa_nil hs) hbase hfew hline hs hplain) (wE_mono (h σ tv te F H l A) fun v H1 ⟨c, env1, F1, l1, A1, i, ds, ec, he, h1⟩ => ?_)
  subst ec
  obtain ⟨a, rfl, hv, _, ow⟩ := own_last l1 A1 he
  cases ow with
  | lst ha _ =>
    refine ⟨.inl ⟨rfl, _, .inl (.inl ha)⟩, wE_mono (h1 σ _ _ F1 H1 l1 (assoc1 A1)) fun w H2 ⟨c2, env2, F2, l2, A2, es, ds2, ec, he2, hz, q⟩ => ?_⟩
    subst ec
    obtain ⟨A3, A4⟩ := swap_al l2 (assoc2 A2)
    obtain ⟨a', e', hv2, _, ow2⟩ := own_last l2 A3 he2
    cases e'
    obtain ⟨pw, ew, _, oww, _⟩ := last_ok A4
    have ew' : w = .ref pw := by injection ew with ew; injection ew
    subst ew'
    cases ow2 with
    | @lst xs _ ha2 r2 =>
      cases oww with
      | @lst ys _ hy ry =>
        obtain ⟨l5, A5⟩ := own_write (o := .lst (xs ++ ys)) (d' := .lst (ds2 ++ es)) l2 (pop1 l2 A4) he2 hv2 (.lst upd_same (r2.append ry))
        exact ⟨a, pw, xs, ys, rfl, rfl, ha2, hy, by rw [r2.length, ry.length]; exact Nat.le_trans hz (by decide), _, _, F2, l5, A5.push_fz .non, q⟩
/-! ### xs[i] = e, d[k] = e -/
abbrev rSetD : TSet := fun o i v H Q => ∃ a H', o = .ref a ∧ DPut H a i v H' ∧ Q H'
theorem set_dict (hu : X.A.units + 1 < cLine) : PSet X rSetD := by
  intro pins s σ H o i v ov iv u Q I ro ri rv h
  obtain ⟨a, H', rfl, g, q⟩ := h
  cases ro
  exact d_setItem hu I g ri rv fun s' I' => ⟨H', I', q⟩
theorem PSet.or {t t' : TSet} (h : PSet X t) (h' : PSet X t') : PSet X (fun o i v H Q => t o i v H Q ∨ t' o i v H Q) := by
  intro pins s σ H o i v ov iv u Q I ro ri rv q
  rcases q with q | q
  · exact h pins s σ H o i v ov iv u Q I ro ri rv q
  · exact h' pins s σ H o i v ov iv u Q I ro ri rv q
/-- what is put where: the own local at slot i behind the store -/
inductive Put : D → D → D → D → Prop
  | lst {ds : List D} {n : Int} {j : Nat} {v : D} : ixN ds.length n = some j → Put (.lst ds) (.int n) v (.lst (ds.set j v))
  | dk {kvs : List (Key × D)} {k : Key} {v : D} : kvs.length < 100000 → Put (.dk kvs) (keyD k) v (.dk (dput kvs k v))
theorem rpl_keys {K : PySem.W.Frag} {F : Hp} : ∀ {xs : List V} {ks : List Key}, RpL K F xs (ks.map keyD) → xs = ks.map kV
  | _, [], r => by rw [List.map_nil] at r; cases r; rfl
  | _, .inl i :: ks, r => by
    rw [List.map_cons] at r
    cases r with
    | cons h t => rw [(show Rp K F _ (.int i) from h).int_inv, rpl_keys t]; rfl
  | _, .inr x :: ks, r => by
    rw [List.map_cons] at r
    cases r with
    | cons h t => rw [(show Rp K F _ (.str x) from h).str_inv, rpl_keys t]; rfl
theorem ds_store {o i e : Expr} {pos' : Pos} (hu : X.A.units + 1 < cLine) (h : DE X b e env fun c env1 => ∃ d, c = .fz d ∧ DE X b o env1 fun c2 env2 => ∃ s, c2 = .al s ∧ DE X b i env2 fun c3 env3 => ∃ dk' od od', c3 = .fz dk' ∧ env3[s]? = some (.ow od) ∧ Put od dk' d od' ∧ E.nx (env3.set s (.ow od')))
    (hs : swapsWithSole [.Subscript o i pos'] e pos.line X.env = pure false := by rfl) (hw : swappedStores [.Subscript o i pos'] e X.env = pure none := by rfl) (h1 : (assignEach [.Subscript o i pos'] X.env).map (·.2) = [assign (.Subscript o i pos') X.env] := by rfl)
    (ha : ∀ v, assign (.Subscript o i pos') X.env v = (do
      let ov ← holding [v] (eval o X.env)
      let iv ← holding [v, ov] (eval i X.env)
      standAt pos'
      holding [v, ov, iv] (setItem ov iv v)
      release [v, ov, iv] []) := by intro _; rfl) : DS X b (.Assign [.Subscript o i pos'] e pos) env E := by
  intro σ tv te F H l na A
  refine w_ps (ps_asg pe_w (pg_sub pe_w pe_w (DL.PSet.or set_list (set_dict hu)) ha) hs hw h1) (wE_mono (h σ tv te F H l A) fun v H1 ⟨c, env1, F1, l1, A1, d, ec, h2⟩ => ?_)
  subst ec
  refine wE_mono (h2 σ _ _ F1 H1 l1 (assoc1 A1)) fun w H2 ⟨c2, env2, F2, l2, A2, s, ec, h3⟩ => ?_
  subst ec
  refine wE_mono (h3 σ _ _ F2 H2 l2 (assoc1 A2)) fun z H3 ⟨c3, env3, F3, l3, A3, dk', od, od', ec, he3, hp, q⟩ => ?_
  subst ec
  -- the three values in hand
  have A4 : At X.K b (σ ++ (tv ++ [some v]) ++ [some w] ++ [some z]) (env3 ++ (te ++ [.fz d]) ++ [.al s] ++ [.fz dk']) F3 H3 := assoc2 A3
  obtain ⟨A5, A6⟩ := swap_al l3 A4
  obtain ⟨a, rfl, hv3, _, ow⟩ := own_last l3 A5 he3
  have A7 := pop1 l3 A5
  have rv : Rp X.K F3 v d := by
    rw [← List.append_assoc, ← List.append_assoc] at A7
    exact last_fz A7
  have rk := last_fz A6
  have hs' : (σ ++ tv)[s]? = some (some (.ref a)) := by
    have hsl : s < env3.length := (List.getElem?_eq_some_iff.mp he3).1
    have := l3.len
    rw [← List.append_assoc, List.getElem?_append_left (by simp; omega)] at hv3
    exact hv3
  have A8 : At X.K b (σ ++ tv) (env3 ++ te) F3 H3 := by
    rw [← List.append_assoc, ← List.append_assoc] at A7
    exact pop1 l3 A7
  cases hp with
  | @lst ds n j _ hj =>
    have ez := rk.int_inv
    subst ez
    cases ow with
    | @lst xs _ ha2 r2 =>
      obtain ⟨l9, A9⟩ := own_write (o := .lst (xs.set j v)) (d' := .lst (ds.set j d)) l3 A8 he3 hs' (.lst upd_same (r2.set j rv))
      exact .inl ⟨a, xs, n, j, rfl, rfl, ha2, by rw [r2.length]; exact hj, _, F3, l9, A9, q⟩
  | @dk kvs k _ hz =>
    have ez : z = kV k := key_rp (H := H3) (.fz rk)
    subst ez
    cases ow with
    | @dk xs _ ha2 r2 =>
      obtain ⟨l9, A9⟩ := own_write (o := .dK (putK xs k v)) (d' := .dk (dput kvs k d)) l3 A8 he3 hs' (.dk upd_same (r2.put rv))
      exact .inr ⟨a, _, rfl, DPut.k ha2 (by rw [r2.length]; exact Nat.lt_of_lt_of_le hz (by decide)), _, F3, l9, A9, q⟩
end
end DL


set_option Elab.async false
set_option linter.all false
set_option maxRecDepth 100000
set_option maxHeartbeats 1000000
/-! THE DATA LAYER, 11: tuple keys, get, slices, join, dict(..), isinstance, or, par assignments. -/
namespace DL
open PySem PySem.Spec PyProof.Rows L2
section
variable {X : Cx} {js : List Nat} {m : Nat} {b : Base js m} {env : List Cell} {Q : Cell → List Cell → Prop} {E : DEnds} {pos p apos cpos : Pos} {tg iter : Expr}
theorem de_tupO {es : List Expr} {x1 : Nat} (h : DA X b es env fun cs env1 => ∃ ds, AllFz cs ds ∧ ds.length ≤ 100000 ∧ Q (.ow (.tup ds)) env1) : DE X b (.Tuple es x1 pos) env Q := by
  intro σ tv te F H l A
  refine w_pe (pe_tup pa_w) (wA_mono (h σ tv te F H l A) fun vs H1 ⟨cs, env1, F1, l1, hl, A1, ds, af, hz, q⟩ => ?_)
  have r := rpl_args l1 af hl A1
  have A2 := popN l1 _ rfl hl A1
  refine ⟨by rw [r.length]; exact Nat.le_trans hz (by decide), fun p hp => ⟨_, env1, _, l1, A2.alloc_ow hp (.tup upd_same r), q⟩⟩
theorem own_tup {vs : List (Option V)} {cs : List Cell} {F H : Hp} {z : V} {ks : List Key} (A : At X.K b (vs ++ [some z]) (cs ++ [.ow (.tup (ks.map keyD))]) F H) : ∃ pw, z = .ref pw ∧ H pw = some (.tup (ks.map kV)) := by
  obtain ⟨pw, ew, _, oww, _⟩ := last_ok A
  have ew' : z = .ref pw := by injection ew with ew; injection ew
  subst ew'
  cases oww with
  | tup hh rl => rw [rpl_keys rl] at hh; exact ⟨pw, rfl, hh⟩
theorem ds_storeT {o i e : Expr} {pos' : Pos} (hu : X.A.units + 1 < cLine) (h : DE X b e env fun c env1 => ∃ d, c = .fz d ∧ DE X b o env1 fun c2 env2 => ∃ s, c2 = .al s ∧ DE X b i env2 fun c3 env3 => ∃ ks kvs, c3 = .ow (.tup (ks.map keyD)) ∧ env3[s]? = some (.ow (.dt kvs)) ∧ kvs.length < 100000 ∧ E.nx (env3.set s (.ow (.dt (dput kvs ks d)))))
    (hs : swapsWithSole [.Subscript o i pos'] e pos.line X.env = pure false := by rfl) (hw : swappedStores [.Subscript o i pos'] e X.env = pure none := by rfl) (h1 : (assignEach [.Subscript o i pos'] X.env).map (·.2) = [assign (.Subscript o i pos') X.env] := by rfl)
    (ha : ∀ v, assign (.Subscript o i pos') X.env v = (do
      let ov ← holding [v] (eval o X.env)
      let iv ← holding [v, ov] (eval i X.env)
      standAt pos'
      holding [v, ov, iv] (setItem ov iv v)
      release [v, ov, iv] []) := by intro _; rfl) : DS X b (.Assign [.Subscript o i pos'] e pos) env E := by
  intro σ tv te F H l na A
  refine w_ps (ps_asg pe_w (pg_sub pe_w pe_w (DL.PSet.or set_list (set_dict hu)) ha) hs hw h1) (wE_mono (h σ tv te F H l A) fun v H1 ⟨c, env1, F1, l1, A1, d, ec, h2⟩ => ?_)
  subst ec
  refine wE_mono (h2 σ _ _ F1 H1 l1 (assoc1 A1)) fun w H2 ⟨c2, env2, F2, l2, A2, s, ec, h3⟩ => ?_
  subst ec
  refine wE_mono (h3 σ _ _ F2 H2 l2 (assoc1 A2)) fun z H3 ⟨c3, env3, F3, l3, A3, ks, kvs, ec, he3, hz, q⟩ => ?_
  subst ec
  have A4 : At X.K b (σ ++ (tv ++ [some v]) ++ [some w] ++ [some z]) (env3 ++ (te ++ [.fz d]) ++ [.al s] ++ [.ow (.tup (ks.map keyD))]) F3 H3 := assoc2 A3
  obtain ⟨A5, A6⟩ := swap_al l3 A4
  obtain ⟨a, rfl, hv3, _, ow⟩ := own_last l3 A5 he3
  have A7 := pop1 l3 A5
  have rv : Rp X.K F3 v d := by
    rw [← List.append_assoc, ← List.append_assoc] at A7
    exact last_fz A7
  obtain ⟨pw, rfl, hpw⟩ := own_tup A6
  have hs' : (σ ++ tv)[s]? = some (some (.ref a)) := by
    have hsl : s < env3.length := (List.getElem?_eq_some_iff.mp he3).1
    have := l3.len
    rw [← List.append_assoc, List.getElem?_append_left (by simp; omega)] at hv3
    exact hv3
  have A8 : At X.K b (σ ++ tv) (env3 ++ te) F3 H3 := by
    rw [← List.append_assoc, ← List.append_assoc] at A7
    exact pop1 l3 A7
  cases ow with
  | @dt xs _ ha2 r2 =>
    obtain ⟨l9, A9⟩ := own_write (o := .dT (putK xs ks v)) (d' := .dt (dput kvs ks d)) l3 A8 he3 hs' (.dt upd_same (r2.put rv))
    exact .inr ⟨a, _, rfl, DPut.t ha2 hpw (by rw [r2.length]; exact Nat.lt_of_lt_of_le hz (by decide)), _, F3, l9, A9, q⟩
/-! ### d.get(k, x) -/
inductive Got (env : List Cell) (c : Cell) : Cell → Option D → Prop
  | k {kvs : List (Key × D)} {k : Key} {dk' : D} : Vw env c (.dk kvs) → dk' = keyD k → Got env c (.fz dk') (dget kvs k)
  | t {kvs : List (List Key × D)} {ks : List Key} {ds : List D} : Vw env c (.dt kvs) → ds = ks.map keyD → Got env c (.ow (.tup ds)) (dget kvs ks)
inductive IsDi (env : List Cell) (c : Cell) : Prop
  | k {kvs : List (Key × D)} : Vw env c (.dk kvs) → IsDi env c
  | t {kvs : List (List Key × D)} : Vw env c (.dt kvs) → IsDi env c
theorem de_get2 {o e f : Expr} (hu : X.A.units + 1 < cLine) (h : DE X b o env fun c env1 => IsDi env1 c ∧ DE X b e env1 fun c2 env2 => DE X b f env2 fun c3 env3 => ∃ r d, Got env3 c c2 r ∧ c3 = .fz d ∧ Q (.fz (r.getD d)) env3)
    (mm : M2 X o "get" apos e f cpos := by exact ⟨rfl, rfl, rfl, rfl⟩) : DE X b (.Call (.Attribute o "get" apos) [e, f] [] cpos) env Q := by
  intro σ tv te F H l A
  refine w_pe (pe_dget2 hu pe_w pe_w pe_w mm) (wE_mono (h σ tv te F H l A) fun v H1 ⟨c, env1, F1, l1, A1, hi, h2⟩ => ?_)
  have hd : ∃ a, v = .ref a ∧ IsD H1 a := by
    cases hi with
    | k w => obtain ⟨a, xs, rfl, hh, _⟩ := (sees_last l1 A1 w).dictK A1.ex; exact ⟨a, rfl, .inl ⟨_, hh⟩⟩
    | t w => obtain ⟨a, xs, rfl, hh, _⟩ := (sees_last l1 A1 w).dictT A1.ex; exact ⟨a, rfl, .inr ⟨_, hh⟩⟩
  obtain ⟨a, rfl, hd⟩ := hd
  refine ⟨a, rfl, hd, wE_mono (h2 σ _ _ F1 H1 l1 (assoc1 A1)) fun w H2 ⟨c2, env2, F2, l2, A2, h3⟩ => ?_⟩
  refine wE_mono (h3 σ _ _ F2 H2 l2 (assoc1 A2)) fun z H3 ⟨c3, env3, F3, l3, A3, r, d, g, ec, q⟩ => ?_
  subst ec
  have A4 : At X.K b (σ ++ (tv ++ [some (.ref a)]) ++ [some w] ++ [some z]) (env3 ++ (te ++ [c]) ++ [c2] ++ [.fz d]) F3 H3 := assoc2 A3
  have hle : m ≤ (σ ++ (tv ++ [some (V.ref a)]) ++ [some w]).length := by have := l3.ml; simp; omega
  have A5 := A4.pop hle
  have A6 := pop1 l3 A5
  have A7 : At X.K b (σ ++ tv ++ [some (.ref a)]) (env3 ++ te ++ [c]) F3 H3 := by rw [List.append_assoc, List.append_assoc]; exact A6
  have rz := last_fz A4
  cases g with
  | @k kvs k dk' w ek =>
    subst ek
    obtain ⟨a', xs, ea, hh, rk⟩ := (sees_last l3 A7 w).dictK A7.ex
    cases ea
    have ey : _ = kV k := key_rp (H := H3) (.fz (last_fz A5))
    subst ey
    rcases rk.get k with ⟨g1, g2⟩ | ⟨v, dv, g1, g2, rv⟩
    · refine ⟨none, .inl ⟨xs, k, hh, rfl, g1.symm⟩, _, env3, F3, l3, (pop1 l3 A7).push_fz rz, ?_⟩
      rw [g2] at q; exact q
    · refine ⟨some v, .inl ⟨xs, k, hh, rfl, g1.symm⟩, _, env3, F3, l3, (pop1 l3 A7).push_fz rv, ?_⟩
      rw [g2] at q; exact q
  | @t kvs ks ds w ek =>
    subst ek
    obtain ⟨a', xs, ea, hh, rk⟩ := (sees_last l3 A7 w).dictT A7.ex
    cases ea
    obtain ⟨pw, rfl, hpw⟩ := own_tup A5
    rcases rk.get ks with ⟨g1, g2⟩ | ⟨v, dv, g1, g2, rv⟩
    · refine ⟨none, .inr ⟨xs, ks, pw, hh, rfl, hpw, g1.symm⟩, _, env3, F3, l3, (pop1 l3 A7).push_fz rz, ?_⟩
      rw [g2] at q; exact q
    · refine ⟨some v, .inr ⟨xs, ks, pw, hh, rfl, hpw, g1.symm⟩, _, env3, F3, l3, (pop1 l3 A7).push_fz rv, ?_⟩
      rw [g2] at q; exact q
/-! ### {} -/
theorem de_newK (q : Q (.ow (.dk [])) env) : DE X b (.Dict [] [] pos) env Q := by
  intro σ tv te F H l A
  exact w_pe pe_dnewK fun p hp => ⟨_, env, F, l, A.alloc_ow hp (.dk upd_same .nil), q⟩
theorem de_newT (q : Q (.ow (.dt [])) env) : DE X b (.Dict [] [] pos) env Q := by
  intro σ tv te F H l A
  exact w_pe pe_dnewT fun p hp => ⟨_, env, F, l, A.alloc_ow hp (.dt upd_same .nil), q⟩
/-! ### text.join(list) -/
theorem de_join {o e : Expr} (h : DE X b o env fun c env1 => ∃ a, c = .fz (.str a) ∧ DE X b e env1 fun c2 env2 => ∃ (ys : List Str) (ds : List D), Vw env2 c2 (.lst ds) ∧ ds = ys.map .str ∧ (ys.map (·.length)).sum + ys.length * a.length ≤ 100000 ∧ Q (.fz (.str (Txt.join a ys))) env2)
    (hs : starEach [e] X.env = [(false, eval e X.env)] := by rfl) (hbase : attributeBase o "join" X.env (eval o X.env) = eval o X.env := by rfl) (hline : (apos.endLine == cpos.line) = true := by rfl) : DE X b (.Call (.Attribute o "join" apos) [e] [] cpos) env Q := by
  intro σ tv te F H l A
  refine w_pe (pe_join pe_w pe_w hs hbase hline) (wE_mono (h σ tv te F H l A) fun v H1 ⟨c, env1, F1, l1, A1, a, ec, h2⟩ => ?_)
  subst ec
  have ev := (last_fz A1).str_inv
  subst ev
  refine ⟨⟨a, rfl⟩, wE_mono (h2 σ _ _ F1 H1 l1 (assoc1 A1)) fun w H2 ⟨c2, env2, F2, l2, A2, ys, ds, w2, ed, hz, q⟩ => ?_⟩
  subst ed
  have A3 := assoc2 A2
  obtain ⟨q', xs, rfl, h3, r3⟩ := (sees_last l2 A2 w2).list A2.ex
  rw [rpl_strs r3] at h3
  exact ⟨a, q', ys, rfl, rfl, .inl h3, Nat.le_trans hz (by decide), _, env2, F2, l2, (pop2 l2 A3).push_fz (.str _), q⟩
/-! ### slices -/
def DO (X : Cx) {js : List Nat} {m : Nat} (b : Base js m) : Option Expr → List Cell → (Option Int → List Cell → Prop) → Prop
  | none, env, Q => Q none env
  | some e, env, Q => DE X b e env fun c env1 => ∃ i, c = .fz (.int i) ∧ Q (some i) env1
def tO (X : Cx) : Option Expr → TO
  | none => tNoPart
  | some e => tPart (wE X e)
theorem po_w (e : Option Expr) : PO X e (tO X e) := by
  cases e with
  | none => exact po_none
  | some e => exact po_some pe_w
theorem tO_of {e : Option Expr} {σ tv : List (Option V)} {te : List Cell} {F H : Hp} {Q : Option Int → List Cell → Prop} {Q' : Option Int → Hp → Prop} (h : DO X b e env Q) (l : Lc m env σ) (A : At X.K b (σ ++ tv) (env ++ te) F H) (k : ∀ o H' env' F', Lc m env' σ → At X.K b (σ ++ tv) (env' ++ te) F' H' → Q o env' → Q' o H') : tO X e σ H Q' := by
  cases e with
  | none => exact k none H env F l A h
  | some e =>
    refine wE_mono (h σ tv te F H l A) fun v H1 ⟨c, env1, F1, l1, A1, i, ec, q⟩ => ?_
    subst ec
    exact ⟨i, (last_fz A1).int_inv, k _ _ _ _ l1 (pop1 l1 A1) q⟩
def cutD (ds : List D) (lo hi : Option Int) : List D := (ds.drop (HT.sIx ds.length 0 lo)).take (HT.sIx ds.length ds.length hi - HT.sIx ds.length 0 lo)
theorem cut_rp {K : PySem.W.Frag} {F : Hp} {xs : List V} {ds : List D} {lo hi : Option Int} (r : RpL K F xs ds) : RpL K F (cutV xs lo hi) (cutD ds lo hi) := by
  unfold cutV cutD
  rw [r.length]
  exact (r.drop _).take _
abbrev rSlAll (K : PySem.W.Frag) : V → Option Int → Option Int → Hp → VK → Prop := fun x lo hi H Q => (rSlL K x lo hi H Q ∨ rSlA K x lo hi H Q) ∨ rSlS x lo hi H Q
theorem sl_all : SlR X (rSlAll X.K) := (sl_list.or sl_tupA).or sl_str
theorem de_slice {e : Expr} {lo hi : Option Expr} {p2 : Pos} (h : DE X b e env fun c env1 => DO X b lo env1 fun i env2 => DO X b hi env2 fun j env3 => Op1 X b (fun x H Q => rSlAll X.K x i j H Q) c env3 Q) : DE X b (.Subscript e (.Slice lo hi none p2) pos) env Q := by
  intro σ tv te F H l A
  refine w_pe (pe_slice sl_all pe_w (po_w lo) (po_w hi)) (wE_mono (h σ tv te F H l A) fun v H1 ⟨c, env1, F1, l1, A1, h2⟩ => ?_)
  refine tO_of h2 l1 (assoc1 A1) fun i H2 env2 F2 l2 A2 h3 => tO_of h3 l2 A2 fun j H3 env3 F3 l3 A3 h4 => ?_
  exact h4 σ tv te F3 H3 v l3 (by rw [List.append_assoc, List.append_assoc]; exact A3) _ fun v H' c env' F' l' A' q => ⟨c, env', F', l', A', q⟩
theorem cut_l {c : Cell} {ds : List D} {lo hi : Option Int} (w : Vw env c (.lst ds)) (q : Q (.ow (.lst (cutD ds lo hi))) env) : Op1 X b (fun x H Q => rSlAll X.K x lo hi H Q) c env Q :=
  Op1.mkL w (fun F H v ex s Q' k => by
    obtain ⟨a, xs, rfl, q1, r1⟩ := s.list ex
    exact .inl (.inl ⟨a, xs, rfl, q1, fun p hp => k p _ hp (cut_rp r1)⟩)) q
theorem cut_t {c : Cell} {ds : List D} {lo hi : Option Int} (w : Vw env c (.tup ds)) (q : Q (.fz (.tup (cutD ds lo hi))) env) : Op1 X b (fun x H Q => rSlAll X.K x lo hi H Q) c env Q :=
  Op1.mkT w (fun F H v ex s Q' k k2 => by
    have z := s
    obtain ⟨a, xs, rfl, q1, r1⟩ := s.tuple ex
    refine .inl (.inr ⟨a, xs, rfl, q1, fun e => k2 _ ?_, fun _ p hp => k p _ hp (cut_rp r1)⟩)
    have : cutD ds lo hi = ds := by
      unfold cutD
      rw [r1.length] at e
      rw [e.1, e.2]
      simp
    rw [this]
    cases z with | fz r => exact r) q
theorem cut_s {c : Cell} {z : Str} {lo hi : Option Int} (w : Vw env c (.str z)) (hz : z.length ≤ 100000) (q : Q (.fz (.str (cutS z lo hi))) env) : Op1 X b (fun x H Q => rSlAll X.K x lo hi H Q) c env Q :=
  Op1.mk w (fun F H v ex s Q' k => .inr ⟨z, s.rp_str, Nat.le_trans hz (by decide), k _ (.str _)⟩) q
theorem de_revL {e : Expr} {kk : Nat} {p1 p2 p3 : Pos} (h : DE X b e env fun c env1 => ∃ ds, Vw env1 c (.lst ds) ∧ Q (.ow (.lst ds.reverse)) env1) : DE X b (.Subscript e (.Slice none none (some (.UnaryOp .USub (.Constant (.int 1) kk p1) p2)) p3) pos) env Q := by
  intro σ tv te F H l A
  refine w_pe (pe_revL pe_w) (wE_mono (h σ tv te F H l A) fun v H1 ⟨c, env1, F1, l1, A1, ds, w, q⟩ => ?_)
  obtain ⟨a, xs, rfl, h1, r1⟩ := (sees_last l1 A1 w).list A1.ex
  exact ⟨a, xs, rfl, h1, fun p hp => ⟨_, env1, F1, l1, (pop1 l1 A1).alloc_ow hp (.lst upd_same r1.reverse), q⟩⟩
/-! ### dict(pairs) -/
abbrev rDictP (K : PySem.W.Frag) : List V → Hp → VK → Prop := fun xs H Q => ∃ (a : Addr) (ps : List Addr) (kvs : List (Key × V)), xs = [.ref a] ∧ SqL K H a (ps.map V.ref) ∧ Paired (fun p kv => SqT K H p [kV kv.1, kv.2]) ps kvs ∧ ∀ p, H p = none → Q (.ref p) (upd H p (.dK (mergeK [] kvs)))
def pairD (kv : Key × D) : D := .tup [keyD kv.1, kv.2]
theorem pairs_rp {K : PySem.W.Frag} {F H : Hp} (ex : ExR F H) : ∀ {kvs : List (Key × D)} {xs : List V}, RpL K F xs (kvs.map pairD) → ∃ (ps : List Addr) (vs : List (Key × V)), xs = ps.map V.ref ∧ Paired (fun p kv => SqT K H p [kV kv.1, kv.2]) ps vs ∧ RpK K F vs kvs
  | [], _, .nil => ⟨[], [], rfl, .nil, .nil⟩
  | (k, d) :: kvs, _, .cons h t => by
    obtain ⟨ps, vs, e, hp, r⟩ := pairs_rp ex t
    subst e
    unfold pairD at h
    cases h with
    | @tup a ys _ hq rl =>
      cases rl with
      | cons h1 h2 =>
        cases h2 with
        | cons h2 h3 =>
          cases h3
          have e1 := key_rp (k := k) (H := H) (.fz h1)
          subst e1
          exact ⟨a :: ps, (k, _) :: vs, rfl, .cons (ex.sqT hq) hp, .cons h2 r⟩
theorem merge_rp {K : PySem.W.Frag} {F : Hp} : ∀ {vs : List (Key × V)} {kvs : List (Key × D)} {av : List (Key × V)} {ad : List (Key × D)}, RpK K F av ad → RpK K F vs kvs → RpK K F (mergeK av vs) (dmerge ad kvs)
  | _, _, _, _, ra, .nil => ra
  | _, _, _, _, ra, .cons (k := k) (v := v) (d := d) h t => by
    show RpK K F (mergeK (putK _ k v) _) (dmerge (dput _ k d) _)
    exact merge_rp (ra.put h) t
theorem dict_c {c : Cell} {ds : List D} {kvs : List (Key × D)} (w : Vw env c (.lst ds)) (e : ds = kvs.map pairD) (q : Q (.ow (.dk (dmerge [] kvs))) env) : OpA X b (rDictP X.K) [c] env Q := OpA.one (by
  intro σ tv te F H v l A Q' k
  subst e
  obtain ⟨a, xs, rfl, h1, r1⟩ := (sees_last l A w).list A.ex
  obtain ⟨ps, vs, rfl, hp, r⟩ := pairs_rp A.ex r1
  exact ⟨a, ps, vs, rfl, h1, hp, fun p hp' => k _ _ _ env F l ((pop1 l A).alloc_ow hp' (.dk upd_same (merge_rp .nil r))) q⟩)
/-! ### x or y, as a value -/
theorem de_orV {a c : Expr} {es : List Expr} (h : DE X b a env fun c1 env1 => ∃ d t, Vw env1 c1 d ∧ Tru d t ∧ if t = true then Q c1 env1 else DE X b (.BoolOp .Or (c :: es) pos) env1 Q) : DE X b (.BoolOp .Or (a :: c :: es) pos) env Q := by
  intro σ tv te F H l A
  refine w_pe (pe_orT pe_w pe_w) (wE_mono (h σ tv te F H l A) fun v H1 ⟨c1, env1, F1, l1, A1, d, t, w, tr, q⟩ => ⟨t, tr.ok A1.ex (sees_last l1 A1 w), ?_⟩)
  cases t with
  | true => rw [if_pos rfl] at q ⊢; exact ⟨c1, env1, F1, l1, A1, q⟩
  | false => rw [if_neg Bool.false_ne_true] at q ⊢; exact q σ tv te F1 H1 l1 (pop1 l1 A1)
/-! ### is None, isinstance -/
def isNon : D → Bool
  | .non => true
  | _ => false
theorem rp_non {K : PySem.W.Frag} {F H : Hp} {v : V} {d : D} (s : Sees K F H v d) : decide (v = .non) = isNon d := by
  cases s with
  | fz r => cases r <;> rfl
  | lst => rfl
  | dk => rfl
  | dt => rfl
theorem de_isN {a : Expr} {kk : Nat} {pos' : Pos} (h : DE X b a env fun c env1 => ∃ d, Vw env1 c d ∧ Q (.fz (.bl (isNon d))) env1) (h1 : behindInMarks .Is (.Constant .none kk pos') = false := by first | exact nobehind _ (by decide) (by decide) | rfl) : DE X b (.Compare a [.Is] [.Constant .none kk pos'] pos) env Q := by
  intro σ tv te F H l A
  refine w_pe (pe_cmp (pc_isN pe_w) h1) (wE_mono (h σ tv te F H l A) fun v H1 ⟨c, env1, F1, l1, A1, d, w, q⟩ => ?_)
  refine ⟨_, env1, F1, l1, (pop1 l1 A1).push_fz ?_, q⟩
  rw [← rp_non (sees_last l1 A1 w)]
  exact .bl _
theorem dt_isN {a : Expr} {kk : Nat} {pos' : Pos} {Q : Bool → List Cell → Prop} (h : DE X b a env fun c env1 => ∃ d, Vw env1 c d ∧ Q (isNon d) env1) (h1 : behindInMarks .Is (.Constant .none kk pos') = false := by first | exact nobehind _ (by decide) (by decide) | rfl) : DT X b (.Compare a [.Is] [.Constant .none kk pos'] pos) env Q := by
  intro σ tv te F H l A
  refine w_pt (pt_cmp (pc_isN pe_w) h1) (wE_mono (h σ tv te F H l A) fun v H1 ⟨c, env1, F1, l1, A1, d, w, q⟩ => ?_)
  refine ⟨_, rfl, env1, F1, l1, pop1 l1 A1, ?_⟩
  rw [rp_non (sees_last l1 A1 w)]
  exact q
def D.ty : D → String
  | .non => "NoneType"
  | .bl _ => "bool"
  | .int _ => "int"
  | .str _ => "str"
  | .tup _ => "tuple"
  | .lst _ => "list"
  | _ => "dict"
/-- data whose type is read -/
def tyOk : D → Bool
  | .dk _ => false
  | .dt _ => false
  | .raw _ => false
  | _ => true
theorem sq_ty {K : PySem.W.Frag} {H : Hp} {a : Addr} {xs : List V} (h : SqL K H a xs) : TyX K H (.ref a) (.type "list") := by
  rcases h with (h | ⟨x, h⟩) | ⟨o, its, n, h, hc, _⟩
  · exact .base (.lst h)
  · exact .base (.frz h)
  · exact .kList h hc
theorem sqt_ty {K : PySem.W.Frag} {H : Hp} {a : Addr} {xs : List V} (h : SqT K H a xs) : TyX K H (.ref a) (.type "tuple") := by
  rcases h with (h | ⟨x, h⟩) | ⟨o, its, n, h, hc, _⟩
  · exact .base (.tup h)
  · exact .fTuple h
  · exact .kTuple h hc
theorem Sees.ty {K : PySem.W.Frag} {F H : Hp} {v : V} {d : D} (ex : ExR F H) (s : Sees K F H v d) (h : tyOk d = true) : TyX K H v (.type d.ty) := by
  cases s with
  | fz r =>
    cases r with
    | non => exact .base .non
    | bl b => exact .base (.bl b)
    | int i => exact .base (.int i)
    | str x => exact .base (.str x)
    | tup hq r => exact sqt_ty (ex.sqT hq)
    | lst hq r => exact sq_ty (ex.sqL hq)
    | dk => cases h
    | dt => cases h
    | raw => cases h
  | lst hq r => exact .base (.lst hq)
  | dk => cases h
  | dt => cases h
/-- isinstance(e, T) -/
theorem de_isi1 {e : Expr} {T : Str} {U : String} {p1 p2 : Pos} (hg : Gl X "isinstance") (hm : X.mg "isinstance" = none) (hgT : Gl X T) (hmT : X.mg T = none) (hT : bootBuiltins T = some (.type U)) (h : DE X b e env fun c env1 => ∃ d t, Vw env1 c d ∧ tyOk d = true ∧ kitB d.ty U = some t ∧ Q (.fz (.bl t)) env1)
    (hn : T ≠ "__name__" := by decide) (hdb : (T == ("__debug__" : Str)) = false := by decide) (he : starEach [e, .Name T p2] X.env = (false, eval e X.env) :: starEach [.Name T p2] X.env := by rfl) (he2 : starEach [.Name T p2] X.env = (false, eval (.Name T p2) X.env) :: starEach [] X.env := by rfl)
    (hpl : (backTo pos (starEach [.Name T p2] X.env)).any (·.1) = false := by rfl) : DE X b (.Call (.Name "isinstance" p1) [e, .Name T p2] [] pos) env Q := by
  intro σ tv te F H l A
  refine w_pe (pe_callB call_isi hg hm PyProof.Rows.boot_isinstance (pa_cons pe_w (pa_cons (pe_bltn (v := .ty U) (pos := p2) hgT hmT hT rfl hn hdb) pa_nil he2) he) (by decide) (by decide) he hpl) (wE_mono (h σ tv te F H l A) fun v H1 ⟨c, env1, F1, l1, A1, d, t, w, ht, hk, q⟩ => ?_)
  exact ⟨v, .ty U, _, _, t, rfl, .ty U, (sees_last l1 A1 w).ty A1.ex ht, kit_ty hk, _, env1, F1, l1, (pop1 l1 A1).push_fz (.bl _), q⟩
/-- isinstance(e, (T1, T2)) -/
theorem de_isi2 {e : Expr} {T1 T2 : Str} {U1 U2 : String} {p1 p2 p3 p4 : Pos} {k0 : Nat} (hg : Gl X "isinstance") (hm : X.mg "isinstance" = none) (hgT : Gl X T1) (hmT : X.mg T1 = none) (hT : bootBuiltins T1 = some (.type U1)) (hgT2 : Gl X T2) (hmT2 : X.mg T2 = none) (hT2 : bootBuiltins T2 = some (.type U2))
    (h : DE X b e env fun c env1 => ∃ d t1 t2, Vw env1 c d ∧ tyOk d = true ∧ kitB d.ty U1 = some t1 ∧ kitB d.ty U2 = some t2 ∧ Q (.fz (.bl (t1 || t2))) env1)
    (hn : T1 ≠ "__name__" := by decide) (hdb : (T1 == ("__debug__" : Str)) = false := by decide) (hn2 : T2 ≠ "__name__" := by decide) (hdb2 : (T2 == ("__debug__" : Str)) = false := by decide) (he : starEach [e, .Tuple [.Name T1 p2, .Name T2 p3] k0 p4] X.env = (false, eval e X.env) :: starEach [.Tuple [.Name T1 p2, .Name T2 p3] k0 p4] X.env := by rfl)
    (he2 : starEach [.Tuple [.Name T1 p2, .Name T2 p3] k0 p4] X.env = (false, eval (.Tuple [.Name T1 p2, .Name T2 p3] k0 p4) X.env) :: starEach [] X.env := by rfl) (he3 : starEach [.Name T1 p2, .Name T2 p3] X.env = (false, eval (.Name T1 p2) X.env) :: starEach [.Name T2 p3] X.env := by rfl) (he4 : starEach [.Name T2 p3] X.env = (false, eval (.Name T2 p3) X.env) :: starEach [] X.env := by rfl)
    (hpl : (backTo pos (starEach [.Tuple [.Name T1 p2, .Name T2 p3] k0 p4] X.env)).any (·.1) = false := by rfl) : DE X b (.Call (.Name "isinstance" p1) [e, .Tuple [.Name T1 p2, .Name T2 p3] k0 p4] [] pos) env Q := by
  intro σ tv te F H l A
  refine w_pe (pe_callB call_isiT hg hm PyProof.Rows.boot_isinstance (pa_cons pe_w (pa_cons (pe_tup (pa_cons (pe_bltn (v := .ty U1) (pos := p2) hgT hmT hT rfl hn hdb) (pa_cons (pe_bltn (v := .ty U2) (pos := p3) hgT2 hmT2 hT2 rfl hn2 hdb2) pa_nil he4) he3)) pa_nil he2) he) (by decide) (by decide) he hpl) (wE_mono (h σ tv te F H l A) fun v H1 ⟨c, env1, F1, l1, A1, d, t1, t2, w, ht, hk1, hk2, q⟩ => ?_)
  refine ⟨by show 2 ≤ sizeLine; decide, fun tp htp => ?_⟩
  have A2 := A1.alloc_no (o := .tup [.ty U1, .ty U2]) htp
  refine ⟨v, tp, [.ty U1, .ty U2], _, _, t1 || t2, rfl, upd_same, .cons (.ty U1) (.cons (.ty U2) .nil), (sees_last l1 A2 w).ty A2.ex ht, ?_, _, env1, F1, l1, (pop1 l1 A2).push_fz (.bl _), q⟩
  refine kitAny_cons (kit_ty hk1) (fun e => ?_) fun e => by rw [e]; rfl
  rw [e]
  refine kitAny_cons (kit_ty hk2) (fun e => ?_) fun e => by rw [e]; rfl
  rw [e]
  exact kitAny_nil
end
end DL


set_option Elab.async false
set_option linter.all false
set_option maxRecDepth 100000
set_option maxHeartbeats 1000000
/-! THE DATA LAYER, 12: a, b = x, y; dict comprehensions; stores in pairs; min, max of texts. -/
namespace DL
open PySem PySem.Spec PyProof.Rows L2
section
variable {X : Cx} {js : List Nat} {m : Nat} {b : Base js m} {env : List Cell} {Q : Cell → List Cell → Prop} {E : DEnds} {pos p apos cpos : Pos} {tg iter : Expr}
/-! ### a, b = x, y -/
theorem store1 {σ tv : List (Option V)} {te : List Cell} {F H : Hp} {v : V} {c : Cell} {i : Nat} (l : Lc m env σ) (na : NoAl te) (hc : ∀ j, c ≠ .al j) (hi : i < env.length) (hj : i ∉ js) (A : At X.K b (σ ++ tv ++ [some v]) (env ++ te ++ [c]) F H) : Lc m (env.set i c) (σ.set i (some v)) ∧ At X.K b (σ.set i (some v) ++ tv) (env.set i c ++ te) F H :=
  ⟨lc_set2 l hc, A.store l.ml l.len (by rw [← l.len]; exact hi) hj (.inr (noal_app l.na na)) hc⟩
theorem noal_one {te : List Cell} {c : Cell} (na : NoAl te) (hc : ∀ j, c ≠ .al j) : NoAl (te ++ [c]) := noal_app na fun i c' h j z => by
  cases i with
  | zero => simp at h; subst h; exact hc j z
  | succ n => simp at h
theorem ds_par {i j : Nat} {x y : Str} {e1 e2 : Expr} {px py pt pt2 : Pos} {kt k2 : Nat} (hc : X.calm = true) (hN : X.N.Nodup) (hi : X.N[i]? = some x) (hj : X.N[j]? = some y) (hij : i ≠ j)
    (hx : X.env.scope.names.lookup x = some .local) (hy : X.env.scope.names.lookup y = some .local) (hij1 : i ∉ js) (hij2 : j ∉ js)
    (h : DA X b [e1, e2] env fun cs env1 => ∃ c1 c2, cs = [c1, c2] ∧ (∀ j, c1 ≠ .al j) ∧ (∀ j, c2 ≠ .al j) ∧ i < env1.length ∧ j < env1.length ∧ E.nx ((env1.set i c1).set j c2))
    (hw : swappedStores [.Tuple [.Name x px, .Name y py] kt pt] (.Tuple [e1, e2] k2 pt2) X.env = pure (some [x, y]) := by rfl)
    (hs : swapsWithSole [.Tuple [.Name x px, .Name y py] kt pt] (.Tuple [e1, e2] k2 pt2) pos.line X.env = pure false := by rfl) :
    DS X b (.Assign [.Tuple [.Name x px, .Name y py] kt pt] (.Tuple [e1, e2] k2 pt2) pos) env E := by
  intro σ tv te F H l na A
  refine w_ps (ps_par hc hN hi hj hij hx hy pa_w hw hs) (wA_mono (h σ tv te F H l A) fun vs H1 ⟨cs, env1, F1, l1, hl, A1, c1, c2, ec, n1, n2, li, lj, q⟩ => ?_)
  subst ec
  match vs, hl, A1 with
  | [v, w], _, A1 =>
    refine ⟨v, w, rfl, (env1.set i c1).set j c2, F1, ?_⟩
    have A2 : At X.K b (σ ++ (tv ++ [some v]) ++ [some w]) (env1 ++ (te ++ [c1]) ++ [c2]) F1 H1 := by simpa [List.append_assoc] using A1
    obtain ⟨l3, A3⟩ := store1 l1 (noal_one na n1) n2 lj hij2 A2
    have A4 : At X.K b (σ.set j (some w) ++ tv ++ [some v]) (env1.set j c2 ++ te ++ [c1]) F1 H1 := by simpa [List.append_assoc] using A3
    obtain ⟨l5, A5⟩ := store1 l3 na n1 (by simpa using li) hij1 A4
    rw [List.set_comm _ _ (Ne.symm hij), List.set_comm _ _ (Ne.symm hij)] at l5 A5
    exact ⟨l5, A5, q⟩
theorem ds_par3 {i j k : Nat} {x y z : Str} {e1 e2 e3 : Expr} {px py pz pt pt2 : Pos} {kt k2 : Nat} (hc : X.calm = true) (hN : X.N.Nodup) (hi : X.N[i]? = some x) (hj : X.N[j]? = some y) (hk : X.N[k]? = some z) (hij : i ≠ j) (hik : i ≠ k) (hjk : j ≠ k)
    (hx : X.env.scope.names.lookup x = some .local) (hy : X.env.scope.names.lookup y = some .local) (hz : X.env.scope.names.lookup z = some .local) (hij1 : i ∉ js) (hij2 : j ∉ js) (hij3 : k ∉ js)
    (h : DA X b [e1, e2, e3] env fun cs env1 => ∃ c1 c2 c3, cs = [c1, c2, c3] ∧ (∀ j, c1 ≠ .al j) ∧ (∀ j, c2 ≠ .al j) ∧ (∀ j, c3 ≠ .al j) ∧ i < env1.length ∧ j < env1.length ∧ k < env1.length ∧ E.nx (((env1.set i c1).set j c2).set k c3))
    (hw : swappedStores [.Tuple [.Name x px, .Name y py, .Name z pz] kt pt] (.Tuple [e1, e2, e3] k2 pt2) X.env = pure (some [x, y, z]) := by rfl)
    (hs : swapsWithSole [.Tuple [.Name x px, .Name y py, .Name z pz] kt pt] (.Tuple [e1, e2, e3] k2 pt2) pos.line X.env = pure false := by rfl) :
    DS X b (.Assign [.Tuple [.Name x px, .Name y py, .Name z pz] kt pt] (.Tuple [e1, e2, e3] k2 pt2) pos) env E := by
  intro σ tv te F H l na A
  refine w_ps (ps_par3 hc hN hi hj hk hij hik hjk hx hy hz pa_w hw hs) (wA_mono (h σ tv te F H l A) fun vs H1 ⟨cs, env1, F1, l1, hl, A1, c1, c2, c3, ec, n1, n2, n3, li, lj, lk, q⟩ => ?_)
  subst ec
  match vs, hl, A1 with
  | [u, v, w], _, A1 =>
    refine ⟨u, v, w, rfl, ((env1.set i c1).set j c2).set k c3, F1, ?_⟩
    have A2 : At X.K b (σ ++ (tv ++ [some u] ++ [some v]) ++ [some w]) (env1 ++ (te ++ [c1] ++ [c2]) ++ [c3]) F1 H1 := by simpa [List.append_assoc] using A1
    obtain ⟨l3, A3⟩ := store1 l1 (noal_one (noal_one na n1) n2) n3 lk hij3 A2
    have A4 : At X.K b (σ.set k (some w) ++ (tv ++ [some u]) ++ [some v]) (env1.set k c3 ++ (te ++ [c1]) ++ [c2]) F1 H1 := by simpa [List.append_assoc] using A3
    obtain ⟨l5, A5⟩ := store1 l3 (noal_one na n1) n2 (by simpa using lj) hij2 A4
    have A6 : At X.K b ((σ.set k (some w)).set j (some v) ++ tv ++ [some u]) ((env1.set k c3).set j c2 ++ te ++ [c1]) F1 H1 := by simpa [List.append_assoc] using A5
    obtain ⟨l7, A7⟩ := store1 l5 na n1 (by simpa using li) hij1 A6
    rw [List.set_comm _ _ (Ne.symm hij), List.set_comm _ _ (Ne.symm hij), List.set_comm _ _ (Ne.symm hik), List.set_comm _ _ (Ne.symm hik), List.set_comm _ _ (Ne.symm hjk), List.set_comm _ _ (Ne.symm hjk)] at l7 A7
    exact ⟨l7, A7, q⟩
/-! ### dict comprehensions -/
def DcTurn (X : Cx) {js : List Nat} {m : Nat} (b : Base js m) (scope : Scope) (is : List Nat) (tg kx vx : Expr) (ifs : List Expr) (d : D) (e : List Cell) (R : Option (Key × D) → List Cell → Prop) : Prop :=
  ∀ (s : Shared) (H : Hp) (C : Addr) (cl : List (Str × Addr)) (fp : List Addr), DGo (blkX X scope s H C cl fp) b is tg (.fz d) e fun e2 =>
    ∀ (s : Shared) (H : Hp) (C : Addr) (cl : List (Str × Addr)) (fp : List Addr), DTs (blkX X scope s H C cl fp) b ifs e2 fun t e3 =>
      if t = true then ∀ (s : Shared) (H : Hp) (C : Addr) (cl : List (Str × Addr)) (fp : List Addr), DE (blkX X scope s H C cl fp) b kx e3 fun c e4 => ∃ k', c = .fz (keyD k') ∧ ∀ (s : Shared) (H : Hp) (C : Addr) (cl : List (Str × Addr)) (fp : List Addr), DE (blkX X scope s H C cl fp) b vx e4 fun c e5 => ∃ d', c = .fz d' ∧ R (some (k', d')) (clr e5 is) else R none (clr e3 is)
theorem dc_read {kx vx : Expr} {ifs : List Expr} {scope : Scope} {is : List Nat} {σ tv : List (Option V)} {te : List Cell} {F H : Hp} {Q' : VK} (l : Lc m env σ) (A : At X.K b (σ ++ tv) (env ++ te) F H) (him : ∀ i ∈ is, m ≤ i ∧ i ∉ js)
    (h : DIa X b tg iter env fun ds C env1 => ds.length ≤ 100000 ∧ ∃ I : Nat → List (Key × D) → List Cell → Prop, I 0 [] env1 ∧ (∀ k acc e, I k acc e → C e ∧ acc.length ≤ k ∧ ∀ i ∈ is, e[i]? = some .no) ∧ (∀ k d acc e, ds[k]? = some d → I k acc e → DcTurn X b scope is tg kx vx ifs d e fun o e' => match o with | some kd => I (k + 1) (dput acc kd.1 kd.2) e' | none => I (k + 1) acc e') ∧ ∀ acc e, I ds.length acc e → Q (.ow (.dk acc)) e)
    (k : ∀ v H' c env' F', Lc m env' σ → At X.K b (σ ++ tv ++ [some v]) (env' ++ te ++ [c]) F' H' → Q c env' → Q' v H') :
    tDc (wI X tg iter) (gAny X scope tg) (tAny X scope ifs) (eAny X scope kx) (eAny X scope vx) is σ H Q' := by
  refine wI_mono (h σ tv te F H l A) fun J H1 ⟨ds, C, tvi, tei, env1, F1, l1, hl, A1, wk, hz, I, i0, iC, turn, fin⟩ => ?_
  intro D hD
  have hte : te.length = tv.length := by have h1 := A.len; have h2 := l.len; simp at h1; omega
  refine ⟨fun k μ H' => μ = ds.length - k ∧ k ≤ ds.length ∧ ∃ acc e F', Lc m e σ ∧ At X.K b (σ ++ (tv ++ tvi ++ [some (.ref D)])) (e ++ (te ++ tei ++ [.ow (.dk acc)])) F' H' ∧ I k acc e, ⟨ds.length, by simp, Nat.zero_le _, [], env1, F1, l1, ?_, i0⟩, ?_⟩
  · have A2 := A1.alloc_ow (o := .dK []) (d := .dk []) hD (.dk upd_same .nil)
    rw [List.append_assoc σ, List.append_assoc env1] at A2
    exact A2
  · rintro k μ H' ⟨rfl, hk, acc, e, F', l', A', ik⟩
    obtain ⟨c1, c2, c3⟩ := iC k acc e ik
    obtain ⟨w1, w2, w3⟩ := wk σ tv [some (.ref D)] e te [.ow (.dk acc)] F' H' k l' c1 hte A'
    by_cases hlt : k < ds.length
    · refine .inr ⟨w1 hlt, fun H2 => ∃ acc e F', Lc m e σ ∧ At X.K b (σ ++ (tv ++ tvi ++ [some (.ref D)])) (e ++ (te ++ tei ++ [.ow (.dk acc)])) F' H2 ∧ I (k + 1) acc e, fun H2 q => ⟨ds.length - (k + 1), by omega, rfl, hlt, q⟩, fun x H2 y => ?_⟩
      obtain ⟨F2, A2⟩ := w2 x H2 ds[k] (List.getElem?_eq_getElem hlt) y
      have t := turn k ds[k] acc e (List.getElem?_eq_getElem hlt) ik
      -- back to the slots as they were
      have back : ∀ {σ2 : List (Option V)} {e2 : List Cell} {tw : List (Option V)} {tf : List Cell} {F3 H3 : Hp}, Lc m e2 σ2 → σ2.length = σ.length → (∀ i, i ∉ is → σ2[i]? = σ[i]?) → At X.K b (σ2 ++ tw) (e2 ++ tf) F3 H3 → Lc m (clr e2 is) σ ∧ At X.K b (σ ++ tw) (clr e2 is ++ tf) F3 H3 := fun {σ2 e2 tw tf F3 H3} l2 hl2 hv2 A3 => by
        have hle : ∀ i ∈ is, i < e2.length := fun i hi => by
          have := (List.getElem?_eq_some_iff.mp (c3 i hi)).1
          have h1 := l'.len
          have h2 := l2.len
          omega
        have A4 := A3.clear hle
        have l3 : Lc m (clr e2 is) σ2 := lc_clr l2
        have A5 := A4.revalue (σ' := σ) l3 hl2.symm (fun i hi => ⟨(him i hi).1, clr_in hi (hle i hi)⟩) fun i hi => (hv2 i hi).symm
        exact ⟨⟨by rw [l3.len]; exact hl2, l.ml, l3.na⟩, A5⟩
      have Aw : At X.K b (wipe σ is ++ (tv ++ tvi ++ [some (.ref D)]) ++ [some x]) (e ++ (te ++ tei ++ [.ow (.dk acc)]) ++ [.fz ds[k]]) F2 H2 := by
        rw [List.append_assoc σ, List.append_assoc e] at A2
        rw [List.append_assoc (wipe σ is), List.append_assoc e]
        exact A2.revalue (env := e) (σ := σ) l' (wipe_length _ _) (fun i hi => ⟨(him i hi).1, c3 i hi⟩) fun i hi => wipe_out hi
      intro s H0 Ca cl fp pins s' u Iv r
      refine thn (t s H0 Ca cl fp (wipe σ is) (tv ++ tvi ++ [some (.ref D)]) (te ++ tei ++ [.ow (.dk acc)]) F2 H2 x (lc_wipe l') Aw pins s' u Iv r) fun _ s2 ⟨σ2, H3, I2, e2, F3, l2, hl2, hv2, A3, q3⟩ => ⟨σ2, H3, I2, ?_⟩
      have hl2' : σ2.length = σ.length := by rw [hl2, wipe_length]
      have hv2' : ∀ i, i ∉ is → σ2[i]? = σ[i]? := fun i hi => by rw [hv2 i hi, wipe_out hi]
      refine ⟨by rw [wipe_eq hl2 hv2, wipe_eq (wipe_length _ _) fun i hi => wipe_out hi], ?_⟩
      -- the tests
      have rest : ∀ (t : Bool) (H4 : Hp) (e3 : List Cell) (F4 : Hp), Lc m e3 σ2 → At X.K b (σ2 ++ (tv ++ tvi ++ [some (.ref D)])) (e3 ++ (te ++ tei ++ [.ow (.dk acc)])) F4 H4 →
          (if t = true then ∀ (s : Shared) (H : Hp) (C : Addr) (cl : List (Str × Addr)) (fp : List Addr), DE (blkX X scope s H C cl fp) b kx e3 fun c e4 => ∃ k', c = .fz (keyD k') ∧ ∀ (s : Shared) (H : Hp) (C : Addr) (cl : List (Str × Addr)) (fp : List Addr), DE (blkX X scope s H C cl fp) b vx e4 fun c e5 => ∃ d', c = .fz d' ∧ I (k + 1) (dput acc k' d') (clr e5 is) else I (k + 1) acc (clr e3 is)) →
          (if t = true then eAny X scope kx σ2 H4 fun y H5 => eAny X scope vx σ2 H5 fun z H6 => ∃ kvs k', y = kV k' ∧ H6 D = some (.dK kvs) ∧ kvs.length < sizeLine ∧ ∃ acc2 e F', Lc m e σ ∧ At X.K b (σ ++ (tv ++ tvi ++ [some (.ref D)])) (e ++ (te ++ tei ++ [.ow (.dk acc2)])) F' (upd H6 D (.dK (putK kvs k' z))) ∧ I (k + 1) acc2 e else ∃ acc e F', Lc m e σ ∧ At X.K b (σ ++ (tv ++ tvi ++ [some (.ref D)])) (e ++ (te ++ tei ++ [.ow (.dk acc)])) F' H4 ∧ I (k + 1) acc e) := by
        intro t H4 e3 F4 l3 A4 q4
        cases t with
        | false =>
          rw [if_neg Bool.false_ne_true] at q4 ⊢
          obtain ⟨b1, b2⟩ := back l3 hl2' hv2' A4
          exact ⟨acc, _, F4, b1, b2, q4⟩
        | true =>
          rw [if_pos rfl] at q4 ⊢
          intro s3 H03 C3 cl3 fp3
          refine wE_mono (q4 s3 H03 C3 cl3 fp3 σ2 _ _ F4 H4 l3 A4) fun y0 H50 ⟨c0, e40, F50, l40, A50, k', ec0, q50⟩ => ?_
          subst ec0
          have ey : y0 = kV k' := key_rp (H := H50) (.fz (last_fz A50))
          subst ey
          intro s5 H05 C5 cl5 fp5
          refine wE_mono (q50 s5 H05 C5 cl5 fp5 σ2 _ _ F50 H50 l40 (pop1 l40 A50)) fun y H5 ⟨c, e4, F5, l4, A5, d', ec, q5⟩ => ?_
          subst ec
          have ry := last_fz A5
          have A6 := pop1 l4 A5
          have hp : (e4 ++ (te ++ tei ++ [Cell.ow (.dk acc)]))[(σ2 ++ (tv ++ tvi)).length]? = some (.ow (.dk acc)) ∧ (σ2 ++ (tv ++ tvi ++ [some (V.ref D)]))[(σ2 ++ (tv ++ tvi)).length]? = some (some (.ref D)) := by
            have := one_at (σ := σ2) (tv := tv ++ tvi) (tw := []) (env := e4) (te := te ++ tei) (tf := []) (v := .ref D) (c := .ow (.dk acc)) l4.len (by simp; omega)
            simpa using this
          obtain ⟨fn, ow, _⟩ := A6.addr hp.1 hp.2
          cases ow with
          | @dk av _ hh rr =>
            have hal : av.length < sizeLine := by
              rw [rr.length]
              exact Nat.lt_of_le_of_lt (Nat.le_trans c2 (Nat.le_trans (Nat.le_of_lt hlt) hz)) (by decide)
            refine ⟨av, k', rfl, hh, hal, dput acc k' d', clr e4 is, F5, ?_⟩
            have A7 := A6.write (d' := .dk (dput acc k' d')) (o := .dK (putK av k' y)) hp.1 hp.2 (.dk upd_same (rr.put ry))
            have es : (e4 ++ (te ++ tei ++ [Cell.ow (.dk acc)])).set (σ2 ++ (tv ++ tvi)).length (.ow (.dk (dput acc k' d'))) = e4 ++ (te ++ tei ++ [.ow (.dk (dput acc k' d'))]) := by
              rw [← List.append_assoc e4 (te ++ tei), ← List.append_assoc e4 (te ++ tei), List.set_append_right _ _ (by have := l4.len; simp; omega)]
              rw [show (σ2 ++ (tv ++ tvi)).length - (e4 ++ (te ++ tei)).length = 0 by have := l4.len; simp; omega]
              rfl
            rw [es] at A7
            obtain ⟨b1, b2⟩ := back l4 hl2' hv2' A7
            exact ⟨b1, b2, q5⟩
      cases ifs with
      | nil =>
        show (fun b H3 => _) true H3
        exact rest true H3 e2 F3 l2 A3 (q3 s H0 Ca cl fp)
      | cons c r =>
        cases r with
        | nil =>
          intro s4 H04 C4 cl4 fp4
          refine wT_mono (q3 s4 H04 C4 cl4 fp4 σ2 _ _ F3 H3 l2 A3) fun t H4 ⟨e3, F4, l3, A4, q4⟩ => ?_
          exact rest t H4 e3 F4 l3 A4 q4
        | cons c2 r => exact (q3 s H0 Ca cl fp).elim
    · have ek : k = ds.length := by omega
      subst ek
      refine .inl ⟨w3 (Nat.le_refl _), k _ _ (.ow (.dk acc)) e F' l' ?_ (fin acc e ik)⟩
      have A2 : At X.K b (σ ++ tv ++ tvi ++ [some (.ref D)]) (e ++ te ++ tei ++ [.ow (.dk acc)]) F' H' := by simpa using A'
      exact A2.dropMid (by have := l'.len; simp; omega) hl l'.le
theorem de_dc {kx vx : Expr} {ifs : List Expr} {scope : Scope} (own : List (Str × Nat)) (hc : X.calm = true) (hN : X.N.Nodup) (ok : BlkOk X.N X.env.scope scope own) (him : ∀ i ∈ own.map (·.2), m ≤ i ∧ i ∉ js)
    (h : DIa X b tg iter env fun ds C env1 => ds.length ≤ 100000 ∧ ∃ I : Nat → List (Key × D) → List Cell → Prop, I 0 [] env1 ∧ (∀ k acc e, I k acc e → C e ∧ acc.length ≤ k ∧ ∀ i ∈ own.map (·.2), e[i]? = some .no) ∧ (∀ k d acc e, ds[k]? = some d → I k acc e → DcTurn X b scope (own.map (·.2)) tg kx vx ifs d e fun o e' => match o with | some kd => I (k + 1) (dput acc kd.1 kd.2) e' | none => I (k + 1) acc e') ∧ ∀ acc e, I ds.length acc e → Q (.ow (.dk acc)) e)
    (hs : ∀ x, foldedSetIterable iter X.env x = pure x := by intro _; rfl) : DE X b (.DictComp kx vx [⟨tg, iter, ifs, 0⟩] scope pos) env Q := by
  intro σ tv te F H l A
  exact w_pe (pe_dc (g := gAny X scope tg) (tt := tAny X scope ifs) (tk := eAny X scope kx) (tv := eAny X scope vx) hc hN pi_w ok (fun s H0 C cl fp => ⟨fun pins s' _ _ _ u _ I r h => h s H0 C cl fp pins s' u I r⟩) (fun s H0 C cl fp => pts_any ifs s H0 C cl fp) (fun s H0 C cl fp => ⟨fun pins s' _ _ _ I h => h s H0 C cl fp pins s' I⟩) (fun s H0 C cl fp => ⟨fun pins s' _ _ _ I h => h s H0 C cl fp pins s' I⟩) hs)
    (dc_read l A him h fun v H' c env' F' l' A' q => ⟨c, env', F', l', A', q⟩)
end
end DL


set_option Elab.async false
set_option linter.all false
set_option maxRecDepth 100000
set_option maxHeartbeats 1000000
/-! THE DATA LAYER, 13: min, max of two texts; calls by keywords; stores in pairs. -/
namespace DL
open PySem PySem.Spec PyProof.Rows L2
section
variable {prog : Program} {w : World} {A : Around} {E : Value → Shared → Prop} {s : Shared}
def txt2 (a b : Str) (i : Nat) : Str := if i = 0 then a else b
def txtItems (a b : Str) (t u : Tok) : Array Value := #[.str a t, .str b u]
theorem txt_at {a b : Str} {t u : Tok} {i : Nat} {v : Value} (h : (txtItems a b t u)[i]? = some v) : ∃ t, v = .str (txt2 a b i) t := by
  match i, h with
  | 0, h => exact ⟨t, by simp [txtItems] at h; rw [← h]; rfl⟩
  | 1, h => exact ⟨u, by simp [txtItems] at h; rw [← h]; rfl⟩
theorem cmp_txt_lt {P : Nat → Value → Prop} (val : Nat → Str) (hval : ∀ i v, P i v → ∃ t, v = .str (val i) t) : CmpOf prog w A .Lt P (fun i j => sLt (val i) (val j)) := fun i j vi vj s Q E hi hj h => by
  obtain ⟨t, rfl⟩ := hval i vi hi
  obtain ⟨u, rfl⟩ := hval j vj hj
  exact richCompare_gives (op := .Lt) (typeIs_str s _ t) (typeIs_str s _ u) F.slot_str_lt F.entry_str_lt (F.args_str_lt_2 _ _) (gives_str_lt _ _ t u) (fun x => nomatch x) h
theorem cmp_txt_gt {P : Nat → Value → Prop} (val : Nat → Str) (hval : ∀ i v, P i v → ∃ t, v = .str (val i) t) : CmpOf prog w A .Gt P (fun i j => sLt (val j) (val i)) := fun i j vi vj s Q E hi hj h => by
  obtain ⟨t, rfl⟩ := hval i vi hi
  obtain ⟨u, rfl⟩ := hval j vj hj
  exact richCompare_gives (op := .Gt) (typeIs_str s _ t) (typeIs_str s _ u) F.slot_str_gt F.entry_str_gt (F.args_str_gt_2 _ _) (gives_str_gt _ _ t u) (fun x => nomatch x) h
theorem min_two_txt {a b : Str} {t u : Tok} {Q : Value → Shared → Prop} (hh : A.handled = none)
    (h : ∀ h' tk, (∀ c o, s.heap.get? c = some o → h'.get? c = some o) → Q (if sLt b a then .str b u else .str a t) { s with heap := h', toks := tk }) :
    wpAny (model prog w) A (call (.builtin "min") [.str a t, .str b u]) Q E s := by
  have hT : (s.heap.push { cls := .type "tuple", data := .seq #[.str a t, .str b u] }).IsTuple s.heap.objs.size (txtItems a b t u) := ⟨_, Heap.get?_push_size _ rfl, rfl, 0, by simp [txtItems]⟩
  refine call_min_two (wpAny_pyIter_tuple hT ?_)
  have hsz : (s.heap.push { cls := .type "tuple", data := .seq #[.str a t, .str b u] }).objs.size = s.heap.objs.size + 1 := Heap.size_push ..
  refine ⟨_, [_, s.heap.objs.size], [_], _, _, _, _, rfl, Walks.tuple (A := A.in1) hh _ s.heap.objs.size (by rw [hsz]; exact Nat.ne_of_lt (Nat.lt_succ_self _)) (txtItems a b t u),
    ⟨⟨_, Heap.get?_push_size _ rfl, rfl, rfl⟩, hT.push _⟩, fun c hc => ?_, by simp [txtItems], cmp_txt_lt (txt2 a b) (fun _ _ => txt_at), fun v h' tk hP hk => ?_⟩
  · show c < ((s.heap.push _).push _).objs.size
    rw [Heap.size_push, hsz]
    rcases List.mem_cons.mp hc with rfl | hc
    · rw [hsz]; exact Nat.lt_succ_self _
    · rcases List.mem_cons.mp hc with rfl | hc
      · exact Nat.lt_succ_of_lt (Nat.lt_succ_self _)
      · cases hc
  · have hold : ∀ c o, s.heap.get? c = some o → h'.get? c = some o := fun c o e => by
      refine hk c o (fun hm => ?_) (Heap.get?_push_of_some _ (Heap.get?_push_of_some _ e))
      rcases List.mem_cons.mp hm with e1 | hm
      · have := Heap.lt_size e; rw [e1, hsz] at this; exact Nat.lt_irrefl _ (Nat.lt_of_succ_lt this)
      · cases hm
    have := h h' tk hold
    have hv : v = if sLt b a then Value.str b u else Value.str a t := by
      have hP' : (txtItems a b t u)[argBest (fun i j => sLt (txt2 a b i) (txt2 a b j)) 1]? = some v := hP
      cases hba : sLt b a with
      | true =>
        have e : argBest (fun i j => sLt (txt2 a b i) (txt2 a b j)) 1 = 1 := by simp [argBest, txt2, hba]
        rw [e] at hP'
        simpa [txtItems] using hP'.symm
      | false =>
        have e : argBest (fun i j => sLt (txt2 a b i) (txt2 a b j)) 1 = 0 := by simp [argBest, txt2, hba]
        rw [e] at hP'
        simpa [txtItems] using hP'.symm
    rw [hv]; exact this
theorem max_two_txt {a b : Str} {t u : Tok} {Q : Value → Shared → Prop} (hh : A.handled = none)
    (h : ∀ h' tk, (∀ c o, s.heap.get? c = some o → h'.get? c = some o) → Q (if sLt a b then .str b u else .str a t) { s with heap := h', toks := tk }) :
    wpAny (model prog w) A (call (.builtin "max") [.str a t, .str b u]) Q E s := by
  have hT : (s.heap.push { cls := .type "tuple", data := .seq #[.str a t, .str b u] }).IsTuple s.heap.objs.size (txtItems a b t u) := ⟨_, Heap.get?_push_size _ rfl, rfl, 0, by simp [txtItems]⟩
  refine call_max_two (wpAny_pyIter_tuple hT ?_)
  have hsz : (s.heap.push { cls := .type "tuple", data := .seq #[.str a t, .str b u] }).objs.size = s.heap.objs.size + 1 := Heap.size_push ..
  refine ⟨_, [_, s.heap.objs.size], [_], _, _, _, _, rfl, Walks.tuple (A := A.in1) hh _ s.heap.objs.size (by rw [hsz]; exact Nat.ne_of_lt (Nat.lt_succ_self _)) (txtItems a b t u),
    ⟨⟨_, Heap.get?_push_size _ rfl, rfl, rfl⟩, hT.push _⟩, fun c hc => ?_, by simp [txtItems], cmp_txt_gt (txt2 a b) (fun _ _ => txt_at), fun v h' tk hP hk => ?_⟩
  · show c < ((s.heap.push _).push _).objs.size
    rw [Heap.size_push, hsz]
    rcases List.mem_cons.mp hc with rfl | hc
    · rw [hsz]; exact Nat.lt_succ_self _
    · rcases List.mem_cons.mp hc with rfl | hc
      · exact Nat.lt_succ_of_lt (Nat.lt_succ_self _)
      · cases hc
  · have hold : ∀ c o, s.heap.get? c = some o → h'.get? c = some o := fun c o e => by
      refine hk c o (fun hm => ?_) (Heap.get?_push_of_some _ (Heap.get?_push_of_some _ e))
      rcases List.mem_cons.mp hm with e1 | hm
      · have := Heap.lt_size e; rw [e1, hsz] at this; exact Nat.lt_irrefl _ (Nat.lt_of_succ_lt this)
      · cases hm
    have := h h' tk hold
    have hv : v = if sLt a b then Value.str b u else Value.str a t := by
      have hP' : (txtItems a b t u)[argBest (fun i j => sLt (txt2 a b j) (txt2 a b i)) 1]? = some v := hP
      cases hba : sLt a b with
      | true =>
        have e : argBest (fun i j => sLt (txt2 a b j) (txt2 a b i)) 1 = 1 := by simp [argBest, txt2, hba]
        rw [e] at hP'
        simpa [txtItems] using hP'.symm
      | false =>
        have e : argBest (fun i j => sLt (txt2 a b j) (txt2 a b i)) 1 = 0 := by simp [argBest, txt2, hba]
        rw [e] at hP'
        simpa [txtItems] using hP'.symm
    rw [hv]; exact this
end
def sMin (a b : Str) : Str := if sLt b a then b else a
def sMax (a b : Str) : Str := if sLt a b then b else a
section
variable {X : Cx} {js : List Nat} {m : Nat} {b : Base js m} {env : List Cell} {Q : Cell → List Cell → Prop} {E : DEnds} {pos p apos cpos : Pos} {tg iter : Expr}
abbrev rTxt2 (f : Str → Str → Str) : List V → Hp → VK → Prop := fun xs H Q => ∃ i j, xs = [.str i, .str j] ∧ Q (.str (f i j)) H
theorem call_minS (hc : X.calm = true) : CallR X (.builtin "min") (rTxt2 sMin) := by
  intro pins s σ H xs us Q I r h
  obtain ⟨i, j, rfl, q⟩ := h
  obtain ⟨u, w', rfl, ⟨t, rfl⟩, ⟨t', rfl⟩⟩ := vals2 r
  refine min_two_txt (I.ok.hd hc) fun h' tk k => ⟨_, H, I.kept k, ?_, q⟩
  unfold sMin
  cases sLt j i <;> exact ⟨_, rfl⟩
theorem call_maxS (hc : X.calm = true) : CallR X (.builtin "max") (rTxt2 sMax) := by
  intro pins s σ H xs us Q I r h
  obtain ⟨i, j, rfl, q⟩ := h
  obtain ⟨u, w', rfl, ⟨t, rfl⟩, ⟨t', rfl⟩⟩ := vals2 r
  refine max_two_txt (I.ok.hd hc) fun h' tk k => ⟨_, H, I.kept k, ?_, q⟩
  unfold sMax
  cases sLt i j <;> exact ⟨_, rfl⟩
abbrev rInt2 (f : Int → Int → Int) : List V → Hp → VK → Prop := fun xs H Q => ∃ i j, xs = [.int i, .int j] ∧ Q (.int (f i j)) H
theorem call_minA (hc : X.calm = true) : CallR X (.builtin "min") (fun xs H Q => rTxt2 sMin xs H Q ∨ rInt2 (fun i j => if j < i then j else i) xs H Q) := (call_minS hc).or (call_min2 hc)
theorem call_maxA (hc : X.calm = true) : CallR X (.builtin "max") (fun xs H Q => rTxt2 sMax xs H Q ∨ rInt2 (fun i j => if j > i then j else i) xs H Q) := (call_maxS hc).or (call_max2 hc)
theorem mm_str {f : Str → Str → Str} {r' : List V → Hp → VK → Prop} {c1 c2 : Cell} {x y : Str} (w1 : Vw env c1 (.str x)) (w2 : Vw env c2 (.str y)) (q : Q (.fz (.str (f x y))) env) : OpA X b (fun xs H Q => rTxt2 f xs H Q ∨ r' xs H Q) [c1, c2] env Q :=
  OpA.two (Op2.mk w1 w2 (fun F H v1 v2 ex s1 s2 Q' k => .inl ⟨x, y, by rw [s1.rp_str, s2.rp_str], k _ (.str _)⟩) q)
theorem mm_int {f : Int → Int → Int} {r' : List V → Hp → VK → Prop} {c1 c2 : Cell} {x y : Int} (w1 : Vw env c1 (.int x)) (w2 : Vw env c2 (.int y)) (q : Q (.fz (.int (f x y))) env) : OpA X b (fun xs H Q => r' xs H Q ∨ rInt2 f xs H Q) [c1, c2] env Q :=
  OpA.two (Op2.mk w1 w2 (fun F H v1 v2 ex s1 s2 Q' k => .inr ⟨x, y, by rw [s1.rp_int, s2.rp_int], k _ (.int _)⟩) q)
/-! ### calls by keywords alone -/
theorem _root_.L2.FunD.kwAll {K : PySem.W.Frag} {x qual : Str} {params : Arguments} {body : List Stmt} {scope : Scope} {kws : List (Str × V)} {f : Addr} {fd : FuncData} {ps : List Str} (F : FunD K x qual params body scope [] kws f fd)
    (h : ∀ (kV doc pm : Value) (an : Option Addr) (cdv ct : Value) (ws : List Value), ws.length = ps.length → bindArgs (PySem.W.fnOf x qual params body scope .none kV doc pm an cdv ct) ⟨[], ps.zip ws⟩ = pure (ps.zip ws)) (s : Shared) (ws : List Value) (hl : ws.length = ps.length) : BindsTo s fd ⟨[], ps.zip ws⟩ (ps.zip ws) := by
  obtain ⟨oc, od, dV, kV, doc, pm, an, cdv, ct, osl, rfl, lk, hcd, hD, hK⟩ := F.ex
  rcases hD with ⟨_, rfl⟩ | ⟨e, _⟩
  · exact .of_eq (h kV doc pm an cdv ct ws hl)
  · exact absurd rfl e
theorem pe_callKW {CX : CXT} {k : Nat} {f : Addr} {fd : FuncData} {ps : List Str} {sp : Sp} {Ex : XK} {x : Str} {kws : List Keyword} {tk : TA} (F : FnOk X.prog X.w X.K X.mg X.base CX k f fd ps sp) (hr : Room k X.A) (hg : Gl X x) (hm : X.mg x = some (.ref f)) (hk : PySem.W.keepIn X.K (.ref f) = true)
    (hb : ∀ (s : Shared) (ws : List Value), ws.length = ps.length → BindsTo s fd ⟨[], ps.zip ws⟩ (ps.zip ws)) (hx : Passes CX X Ex)
    (hkw : PK X kws tk) (hall : (backToKw pos (keywordEach kws X.env)).all (·.1.isSome) = true := by rfl) (hks : (backToKw pos (keywordEach kws X.env)).filterMap (·.1) = ps := by rfl)
    (hdb : (x == ("__debug__" : Str)) = false := by decide) (hpl : ((backTo pos (starEach [] X.env)).any (·.1) || (backToKw pos (keywordEach kws X.env)).any (·.1.isNone)) = false := by rfl) :
    PE X (.Call (.Name x p) [] kws pos) (fun σ H Q => tk σ H fun zs H2 => sp zs H2 Q Ex) := by
  refine ⟨fun pins s σ H Q I h => ?_⟩
  refine wpAny_Call_Name_kw (ld_glob I hg hm ?_ hdb)
  refine PySem.W.callWith_KW0 (h₀ := X.base) I.ok.mod.kin hk hall (thn (hkw.run pos pins s σ H _ I h) fun ws s2 ⟨zs, H2, I2, rz, q2⟩ => ⟨I2.kIn, ?_⟩) hpl
  rw [hks]
  have hl : ws.length = ps.length := by rw [← rz.length]; exact F.len _ _ _ _ q2
  refine wpAny_call (codeAny_mono (F.run X.A X.stack s2 H2 ⟨[], ps.zip ws⟩ ws zs Q Ex hr I2.env0 (hb s2 ws hl) rz q2) fun r s' hq => ?_)
  cases r with
  | error e => exact hx pins σ H2 s2 e s' I2 hq
  | ok fl =>
    cases fl with
    | ret u => exact I2.after hq
    | next => exact False.elim hq
    | brk => exact False.elim hq
    | cont => exact False.elim hq
def tKs (X : Cx) : List Keyword → TA
  | [] => tNil
  | k :: ks => tCons (wE X k.value) (tKs X ks)
theorem pk_w : ∀ (kws : List Keyword), PK X kws (tKs X kws)
  | [] => pk_nil
  | ⟨nm, e, kp⟩ :: ks => pk_cons pe_w (pk_w ks)
/-- the keywords' values, from the left -/
def DKw (X : Cx) {js : List Nat} {m : Nat} (b : Base js m) : List Keyword → List Cell → (List Cell → List Cell → Prop) → Prop
  | [], env, Q => Q [] env
  | k :: ks, env, Q => DE X b k.value env fun c env1 => DKw X b ks env1 fun cs env2 => Q (c :: cs) env2
theorem tKs_of : ∀ {kws : List Keyword} {env : List Cell} {σ tv : List (Option V)} {te : List Cell} {F H : Hp} {Q : List Cell → List Cell → Prop} {Q' : List V → Hp → Prop}, DKw X b kws env Q → Lc m env σ → At X.K b (σ ++ tv) (env ++ te) F H →
    (∀ vs H' cs env' F', Lc m env' σ → cs.length = vs.length → At X.K b (σ ++ tv ++ vs.map some) (env' ++ te ++ cs) F' H' → Q cs env' → Q' vs H') → tKs X kws σ H Q'
  | [], env, σ, tv, te, F, H, Q, Q', h, l, A, k => k [] H [] env F l rfl (by simpa using A) h
  | kw :: kws, env, σ, tv, te, F, H, Q, Q', h, l, A, k => by
    refine wE_mono (h σ tv te F H l A) fun v H1 ⟨c, env1, F1, l1, A1, h1⟩ => ?_
    refine tKs_of h1 l1 (assoc1 A1) fun vs H2 cs env2 F2 l2 hl A2 q => k (v :: vs) H2 (c :: cs) env2 F2 l2 (by simp [hl]) ?_ q
    simpa [List.append_assoc] using A2
theorem de_callKW {k n : Nat} {f : Addr} {fd : FuncData} {ps : List Str} {S : FSp} {x : Str} {kws : List Keyword} (G : FnOk X.prog X.w X.K X.mg X.base CX0 k f fd ps (spOf X.K [] n S)) (hS : Mono S) (hr : Room k X.A) (hg : Gl X x) (hm : X.mg x = some (.ref f)) (hk : PySem.W.keepIn X.K (.ref f) = true)
    (hb : ∀ (s : Shared) (ws : List Value), ws.length = ps.length → BindsTo s fd ⟨[], ps.zip ws⟩ (ps.zip ws))
    (h : DKw X b kws env fun cs env1 => ∃ ds, AllFz cs ds ∧ ds.length = n ∧ S (ds.map .fz) fun c _ => Q c env1)
    (hall : (backToKw pos (keywordEach kws X.env)).all (·.1.isSome) = true := by rfl) (hks : (backToKw pos (keywordEach kws X.env)).filterMap (·.1) = ps := by rfl)
    (hdb : (x == ("__debug__" : Str)) = false := by decide) (hpl : ((backTo pos (starEach [] X.env)).any (·.1) || (backToKw pos (keywordEach kws X.env)).any (·.1.isNone)) = false := by rfl) :
    DE X b (.Call (.Name x p) [] kws pos) env Q := by
  intro σ tv te F H l A
  refine w_pe (pe_callKW G hr hg hm hk hb (pass0 (X := X)) (pk_w kws) hall hks hdb hpl) (tKs_of h l A fun vs H1 cs env1 F1 l1 hl A1 ⟨ds, af, hn, q⟩ => ?_)
  exact sp_fz l1 af hl A1 hn q (fun v H' c F' A' q => ⟨c, env1, F', l1, A', q⟩) hS
/-! ### a[i], a[j] = x, y -/
theorem gsub_ok {o i : Expr} {σ tv : List (Option V)} {te : List Cell} {F H : Hp} {v : V} {d : D} {t : Nat} {P : List Cell → Prop} {Q' : L2.St → Hp → Prop} (l : Lc m env σ) (A : At X.K b (σ ++ tv) (env ++ te) F H) (ht : te[t]? = some (.fz d)) (hv : tv[t]? = some (some v))
    (h : DE X b o env fun c env1 => ∃ s, c = .al s ∧ DE X b i env1 fun c2 env2 => ∃ dk' od od', c2 = .fz dk' ∧ env2[s]? = some (.ow od) ∧ Put od dk' d od' ∧ P (env2.set s (.ow od')))
    (k : ∀ H' env' F', Lc m env' σ → At X.K b (σ ++ tv) (env' ++ te) F' H' → P env' → Q' σ H') : gSub (wE X o) (wE X i) (fun o i v H Q => (∃ a xs n j, o = .ref a ∧ i = .int n ∧ H a = some (.lst xs) ∧ ixN xs.length n = some j ∧ Q (upd H a (.lst (xs.set j v)))) ∨ rSetD o i v H Q) v σ H Q' := by
  refine wE_mono (h σ tv te F H l A) fun w H2 ⟨c2, env2, F2, l2, A2, s, ec, h3⟩ => ?_
  subst ec
  refine wE_mono (h3 σ _ _ F2 H2 l2 (assoc1 A2)) fun z H3 ⟨c3, env3, F3, l3, A3, dk', od, od', ec, he3, hp, q⟩ => ?_
  subst ec
  have A4 : At X.K b (σ ++ tv ++ [some w] ++ [some z]) (env3 ++ te ++ [.al s] ++ [.fz dk']) F3 H3 := assoc2 A3
  obtain ⟨A5, A6⟩ := swap_al l3 A4
  obtain ⟨a, rfl, hs', _, ow⟩ := own_last l3 A5 he3
  have A8 := pop1 l3 A5
  have rk := last_fz A6
  have rv : Rp X.K F3 v d := by
    have h1 : (env3 ++ te)[env3.length + t]? = some (.fz d) := by rw [List.getElem?_append_right (by omega)]; simpa using ht
    have h2 : (σ ++ tv)[env3.length + t]? = some (some v) := by rw [l3.len, List.getElem?_append_right (by omega)]; simpa using hv
    obtain ⟨x, ex, rx⟩ := A8.ok _ _ h1
    rw [h2] at ex
    cases ex
    exact rx
  cases hp with
  | @lst ds n j _ hj =>
    have ez := rk.int_inv
    subst ez
    cases ow with
    | @lst xs _ ha2 r2 =>
      obtain ⟨l9, A9⟩ := own_write (o := .lst (xs.set j v)) (d' := .lst (ds.set j d)) l3 A8 he3 hs' (.lst upd_same (r2.set j rv))
      exact .inl ⟨a, xs, n, j, rfl, rfl, ha2, by rw [r2.length]; exact hj, k _ _ _ l9 A9 q⟩
  | @dk kvs k' _ hz =>
    have ez : z = kV k' := key_rp (H := H3) (.fz rk)
    subst ez
    cases ow with
    | @dk xs _ ha2 r2 =>
      obtain ⟨l9, A9⟩ := own_write (o := .dK (putK xs k' v)) (d' := .dk (dput kvs k' d)) l3 A8 he3 hs' (.dk upd_same (r2.put rv))
      exact .inr ⟨a, _, rfl, DPut.k ha2 (by rw [r2.length]; exact Nat.lt_of_lt_of_le hz (by decide)), k _ _ _ l9 A9 q⟩
def DSub (X : Cx) {js : List Nat} {m : Nat} (b : Base js m) (o i : Expr) (d : D) (env : List Cell) (P : List Cell → Prop) : Prop :=
  DE X b o env fun c env1 => ∃ s, c = .al s ∧ DE X b i env1 fun c2 env2 => ∃ dk' od od', c2 = .fz dk' ∧ env2[s]? = some (.ow od) ∧ Put od dk' d od' ∧ P (env2.set s (.ow od'))
theorem dg_sub2 {o1 i1 o2 i2 : Expr} {d1 d2 : D} {kt : Nat} {p1 p2 : Pos} {Q : List Cell → Prop} (hu : X.A.units + 1 < cLine) (hc : X.calm = true) (h : DSub X b o1 i1 d1 env fun env1 => DSub X b o2 i2 d2 env1 Q)
    (hn : (assignEach [.Subscript o1 i1 p1, .Subscript o2 i2 p2] X.env).length = 2 := by rfl) (hst : (assignEach [.Subscript o1 i1 p1, .Subscript o2 i2 p2] X.env).findIdx? (·.1) = none := by rfl)
    (he1 : (assignEach [.Subscript o1 i1 p1, .Subscript o2 i2 p2] X.env).map (·.2) = assign (.Subscript o1 i1 p1) X.env :: (assignEach [.Subscript o2 i2 p2] X.env).map (·.2) := by rfl)
    (he2 : (assignEach [.Subscript o2 i2 p2] X.env).map (·.2) = assign (.Subscript o2 i2 p2) X.env :: (assignEach [] X.env).map (·.2) := by rfl)
    (ha1 : ∀ v, assign (.Subscript o1 i1 p1) X.env v = (do
      let ov ← holding [v] (eval o1 X.env)
      let iv ← holding [v, ov] (eval i1 X.env)
      standAt p1
      holding [v, ov, iv] (setItem ov iv v)
      release [v, ov, iv] []) := by intro _; rfl)
    (ha2 : ∀ v, assign (.Subscript o2 i2 p2) X.env v = (do
      let ov ← holding [v] (eval o2 X.env)
      let iv ← holding [v, ov] (eval i2 X.env)
      standAt p2
      holding [v, ov, iv] (setItem ov iv v)
      release [v, ov, iv] []) := by intro _; rfl) : DG X b (.Tuple [.Subscript o1 i1 p1, .Subscript o2 i2 p2] kt pos) (.fz (.tup [d1, d2])) env Q := by
  intro σ tv te F H v l na A
  refine w_pg (pg_tup hc (pgs_cons (pg_sub pe_w pe_w (DL.PSet.or set_list (set_dict hu)) ha1) (pgs_cons (pg_sub pe_w pe_w (DL.PSet.or set_list (set_dict hu)) ha2) pgs_nil he2) he1) hn hst) ?_
  cases last_fz A with
  | @tup a xs _ hq r =>
    cases r with
    | @cons v1 _ _ _ r1 r =>
      cases r with
      | @cons v2 _ _ _ r2 r =>
        cases r
        have A1 := (((pop1 l A).push_fz r1).push_fz r2)
        have A2 : At X.K b (σ ++ (tv ++ [some v1, some v2])) (env ++ (te ++ [.fz d1, .fz d2])) F H := by simpa [List.append_assoc] using A1
        have hlen : te.length = tv.length := by have h1 := A.len; have h2 := l.len; simp at h1; omega
        refine ⟨a, [v1, v2], rfl, A.ex.sqT hq, rfl, v1, [v2], rfl, ?_⟩
        refine gsub_ok (d := d1) (P := fun env1 => DSub X b o2 i2 d2 env1 Q) (t := te.length) l A2 (by simp) (by rw [hlen]; simp) h fun H1 env1 F1 l1 A3 q => ⟨v2, [], rfl, ?_⟩
        refine gsub_ok (d := d2) (P := Q) (t := te.length + 1) l1 A3 (by simp) (by rw [hlen]; simp) q fun H2 env2 F2 l2 A4 q2 => ⟨rfl, env2, F2, l2, ?_⟩
        have A5 : At X.K b (σ ++ tv ++ [some v1] ++ [some v2]) (env2 ++ te ++ [.fz d1] ++ [.fz d2]) F2 H2 := by simpa [List.append_assoc] using A4
        exact ⟨pop2 l2 A5, q2⟩
end
end DL


set_option Elab.async false
set_option linter.all false
set_option maxRecDepth 100000
set_option maxHeartbeats 1000000
/-! THE DATA LAYER, 14: a dict of own dicts: {k: {} for ..}, d[i][j] = e. -/
namespace DL
open PySem PySem.Spec PyProof.Rows L2
section
variable {X : Cx} {js : List Nat} {m : Nat} {b : Base js m} {env : List Cell} {Q : Cell → List Cell → Prop} {E : DEnds} {pos p apos cpos : Pos} {tg iter : Expr}
/-- two blocks in hand change places -/
theorem At.swapBlock {K : PySem.W.Frag} {vs us ws : List (Option V)} {cs ds es : List Cell} {F H : Hp} (A : At K b (vs ++ (us ++ ws)) (cs ++ (ds ++ es)) F H) (hl : cs.length = vs.length) (hd : ds.length = us.length) (hm : m ≤ vs.length) : At K b (vs ++ (ws ++ us)) (cs ++ (es ++ ds)) F H := by
  have hlen := A.len
  have he : es.length = ws.length := by simp at hlen; omega
  refine A.reindex (fun i => if i < vs.length then i else if i < vs.length + ws.length then i + us.length else i - ws.length) (by simp; omega) (by simp; omega) (fun i c hc => ?_) (fun i hi => ?_) (fun i hi => ?_) fun i j hi hj h => ?_
  · by_cases h1 : i < vs.length
    · simp only [h1, if_true]
      rw [List.getElem?_append_left (by omega)] at hc ⊢
      exact ⟨hc, by rw [List.getElem?_append_left h1, List.getElem?_append_left h1]⟩
    · simp only [h1, if_false]
      rw [List.getElem?_append_right (by omega)] at hc
      by_cases h2 : i < vs.length + ws.length
      · simp only [h2, if_true]
        rw [List.getElem?_append_left (by omega)] at hc
        constructor
        · rw [List.getElem?_append_right (by omega), List.getElem?_append_right (by omega), ← hc]
          congr 1; omega
        · rw [List.getElem?_append_right (by omega), List.getElem?_append_right (by omega), List.getElem?_append_right (by omega), List.getElem?_append_left (by omega)]
          congr 1; omega
      · simp only [h2, if_false]
        rw [List.getElem?_append_right (by omega)] at hc
        have hb : i - cs.length - es.length < ds.length := (List.getElem?_eq_some_iff.mp hc).1
        constructor
        · rw [List.getElem?_append_right (by omega), List.getElem?_append_left (by omega), ← hc]
          congr 1; omega
        · rw [List.getElem?_append_right (by omega), List.getElem?_append_left (by omega), List.getElem?_append_right (by omega), List.getElem?_append_right (by omega)]
          congr 1; omega
  · have h1 : i < vs.length := by omega
    simp only [h1, if_true, true_and]
    rw [List.getElem?_append_left h1, List.getElem?_append_left h1]
  · by_cases h1 : i < vs.length
    · simp only [h1, if_true]; exact hi
    · simp only [h1, if_false]
      split <;> omega
  · simp at hi hj
    split at h <;> split at h <;> (try split at h) <;> (try split at h) <;> omega
abbrev gV (a : Addr) : Option V := some (.ref a)
abbrev gC (ds : List (Key × D)) : Cell := .ow (.dk ds)
theorem set_mid {a b d : List Cell} {c c' : Cell} : (a ++ (b ++ (c :: d))).set (a.length + b.length) c' = a ++ (b ++ (c' :: d)) := by
  rw [← List.append_assoc, ← List.append_assoc, List.set_append_right _ _ (by simp)]
  simp
theorem putK_new {kvs : List (Key × V)} {k : Key} {v : V} (h : k ∉ kvs.map (·.1)) : putK kvs k v = kvs ++ [(k, v)] := by
  unfold putK
  rw [if_neg]
  intro z
  rw [List.any_eq_true] at z
  obtain ⟨kv, h1, h2⟩ := z
  exact h (List.mem_map.mpr ⟨kv, h1, of_decide_eq_true h2⟩)
def zipK (ks : List Key) (gs : List Addr) : List (Key × V) := ks.zip (gs.map V.ref)
theorem zipK_keys {ks : List Key} {gs : List Addr} (h : gs.length = ks.length) : (zipK ks gs).map (·.1) = ks := by
  unfold zipK
  rw [List.map_fst_zip (by simp [h])]
theorem zipK_snoc {ks : List Key} {gs : List Addr} (h : gs.length = ks.length) (k : Key) (g : Addr) : zipK (ks ++ [k]) (gs ++ [g]) = zipK ks gs ++ [(k, .ref g)] := by
  unfold zipK
  rw [List.map_append, List.zip_append (by simp [h])]
  rfl
def DkTurn (X : Cx) {js : List Nat} {m : Nat} (b : Base js m) (scope : Scope) (is : List Nat) (tg kx : Expr) (d : D) (e : List Cell) (R : Key → List Cell → Prop) : Prop :=
  ∀ (s : Shared) (H : Hp) (C : Addr) (cl : List (Str × Addr)) (fp : List Addr), DGo (blkX X scope s H C cl fp) b is tg (.fz d) e fun e2 =>
    ∀ (s : Shared) (H : Hp) (C : Addr) (cl : List (Str × Addr)) (fp : List Addr), DE (blkX X scope s H C cl fp) b kx e2 fun c e4 => ∃ k', c = .fz (keyD k') ∧ R k' (clr e4 is)
theorem dcN_read {kx : Expr} {scope : Scope} {is : List Nat} {σ tv : List (Option V)} {te : List Cell} {F H : Hp} {Q' : VK} {Q : List Key → List Cell → Prop} (l : Lc m env σ) (A : At X.K b (σ ++ tv) (env ++ te) F H) (him : ∀ i ∈ is, m ≤ i ∧ i ∉ js)
    (h : DIa X b tg iter env fun ds C env1 => ds.length ≤ 100000 ∧ ∃ I : Nat → List Key → List Cell → Prop, I 0 [] env1 ∧ (∀ k acc e, I k acc e → C e ∧ acc.length ≤ k ∧ ∀ i ∈ is, e[i]? = some .no) ∧ (∀ k d acc e, ds[k]? = some d → I k acc e → DkTurn X b scope is tg kx d e fun k' e' => k' ∉ acc ∧ I (k + 1) (acc ++ [k']) e') ∧ ∀ acc e, I ds.length acc e → Q acc e)
    (kk : ∀ D ks gs H' env' F', gs.length = ks.length → Lc m env' σ → At X.K b (σ ++ (tv ++ (gV D :: gs.map gV))) (env' ++ (te ++ (.ow (.raw (.dK (zipK ks gs))) :: gs.map fun _ => gC []))) F' H' → Q ks env' → Q' (.ref D) H') :
    tDc (wI X tg iter) (gAny X scope tg) tYes (eAny X scope kx) tDNewK is σ H Q' := by
  refine wI_mono (h σ tv te F H l A) fun J H1 ⟨ds, C, tvi, tei, env1, F1, l1, hl, A1, wk, hz, I, i0, iC, turn, fin⟩ => ?_
  intro D hD
  have hte : te.length = tv.length := by have h1 := A.len; have h2 := l.len; simp at h1; omega
  refine ⟨fun k μ H' => μ = ds.length - k ∧ k ≤ ds.length ∧ ∃ ks gs e F', gs.length = ks.length ∧ Lc m e σ ∧ At X.K b (σ ++ (tv ++ tvi ++ (gV D :: gs.map gV))) (e ++ (te ++ tei ++ (.ow (.raw (.dK (zipK ks gs))) :: gs.map fun _ => gC []))) F' H' ∧ I k ks e, ⟨ds.length, by simp, Nat.zero_le _, [], [], env1, F1, rfl, l1, ?_, i0⟩, ?_⟩
  · have A2 := A1.alloc_ow (o := .dK []) (d := .raw (.dK [])) hD (.raw upd_same (fun _ _ z => nomatch z))
    rw [List.append_assoc σ, List.append_assoc env1] at A2
    exact A2
  · rintro k μ H' ⟨rfl, hk, ks, gs, e, F', hg, l', A', ik⟩
    obtain ⟨c1, c2, c3⟩ := iC k ks e ik
    obtain ⟨w1, w2, w3⟩ := wk σ tv _ e te _ F' H' k l' c1 hte A'
    by_cases hlt : k < ds.length
    · refine .inr ⟨w1 hlt, fun H2 => ∃ ks gs e F', gs.length = ks.length ∧ Lc m e σ ∧ At X.K b (σ ++ (tv ++ tvi ++ (gV D :: gs.map gV))) (e ++ (te ++ tei ++ (.ow (.raw (.dK (zipK ks gs))) :: gs.map fun _ => gC []))) F' H2 ∧ I (k + 1) ks e, fun H2 q => ⟨ds.length - (k + 1), by omega, rfl, hlt, q⟩, fun x H2 y => ?_⟩
      obtain ⟨F2, A2⟩ := w2 x H2 ds[k] (List.getElem?_eq_getElem hlt) y
      have t := turn k ds[k] ks e (List.getElem?_eq_getElem hlt) ik
      have back : ∀ {σ2 : List (Option V)} {e2 : List Cell} {tw : List (Option V)} {tf : List Cell} {F3 H3 : Hp}, Lc m e2 σ2 → σ2.length = σ.length → (∀ i, i ∉ is → σ2[i]? = σ[i]?) → At X.K b (σ2 ++ tw) (e2 ++ tf) F3 H3 → Lc m (clr e2 is) σ ∧ At X.K b (σ ++ tw) (clr e2 is ++ tf) F3 H3 := fun {σ2 e2 tw tf F3 H3} l2 hl2 hv2 A3 => by
        have hle : ∀ i ∈ is, i < e2.length := fun i hi => by
          have := (List.getElem?_eq_some_iff.mp (c3 i hi)).1
          have h1 := l'.len
          have h2 := l2.len
          omega
        have A4 := A3.clear hle
        have l3 : Lc m (clr e2 is) σ2 := lc_clr l2
        have A5 := A4.revalue (σ' := σ) l3 hl2.symm (fun i hi => ⟨(him i hi).1, clr_in hi (hle i hi)⟩) fun i hi => (hv2 i hi).symm
        exact ⟨⟨by rw [l3.len]; exact hl2, l.ml, l3.na⟩, A5⟩
      have Aw : At X.K b (wipe σ is ++ (tv ++ tvi ++ (gV D :: gs.map gV)) ++ [some x]) (e ++ (te ++ tei ++ (.ow (.raw (.dK (zipK ks gs))) :: gs.map fun _ => gC [])) ++ [.fz ds[k]]) F2 H2 := by
        rw [List.append_assoc σ, List.append_assoc e] at A2
        rw [List.append_assoc (wipe σ is), List.append_assoc e]
        exact A2.revalue (env := e) (σ := σ) l' (wipe_length _ _) (fun i hi => ⟨(him i hi).1, c3 i hi⟩) fun i hi => wipe_out hi
      intro s H0 Ca cl fp pins s' u Iv r
      refine thn (t s H0 Ca cl fp (wipe σ is) _ _ F2 H2 x (lc_wipe l') Aw pins s' u Iv r) fun _ s2 ⟨σ2, H3, I2, e2, F3, l2, hl2, hv2, A3, q3⟩ => ⟨σ2, H3, I2, ?_⟩
      have hl2' : σ2.length = σ.length := by rw [hl2, wipe_length]
      have hv2' : ∀ i, i ∉ is → σ2[i]? = σ[i]? := fun i hi => by rw [hv2 i hi, wipe_out hi]
      refine ⟨by rw [wipe_eq hl2 hv2, wipe_eq (wipe_length _ _) fun i hi => wipe_out hi], ?_⟩
      unfold tYes
      dsimp only
      rw [if_pos rfl]
      intro s3 H03 C3 cl3 fp3
      refine wE_mono (q3 s3 H03 C3 cl3 fp3 σ2 _ _ F3 H3 l2 A3) fun y0 H50 ⟨c0, e40, F50, l40, A50, k', ec0, hn, q50⟩ => ?_
      subst ec0
      have ey : y0 = kV k' := key_rp (H := H50) (.fz (last_fz A50))
      subst ey
      intro g hgn
      have A51 := (pop1 l40 A50).alloc_ow (o := .dK []) (d := .dk []) hgn (.dk upd_same .nil)
      have hlen : (e40 ++ (te ++ tei)).length = (σ2 ++ (tv ++ tvi)).length := by have := l40.len; simp; omega
      have A52 : At X.K b (σ2 ++ (tv ++ tvi ++ (gV D :: (gs ++ [g]).map gV))) (e40 ++ (te ++ tei ++ (.ow (.raw (.dK (zipK ks gs))) :: (gs ++ [g]).map fun _ => gC []))) F50 (upd H50 g (.dK [])) := by simpa [List.append_assoc] using A51
      have hc : (e40 ++ (te ++ tei ++ (Cell.ow (.raw (.dK (zipK ks gs))) :: (gs ++ [g]).map fun _ => gC [])))[e40.length + (te ++ tei).length]? = some (.ow (.raw (.dK (zipK ks gs)))) := by
        rw [← List.append_assoc, List.getElem?_append_right (by simp)]
        simp
      have hv : (σ2 ++ (tv ++ tvi ++ (gV D :: (gs ++ [g]).map gV)))[e40.length + (te ++ tei).length]? = some (some (.ref D)) := by
        rw [← List.append_assoc, show e40.length + (te ++ tei).length = (σ2 ++ (tv ++ tvi)).length by rw [← hlen]; simp, List.getElem?_append_right (by simp)]
        simp
      obtain ⟨fn, ow, _⟩ := A52.addr hc hv
      cases ow with
      | raw hh hzz =>
        have hln : (zipK ks gs).length < sizeLine := by
          have h1 : (zipK ks gs).length = ks.length := by simp [zipK, hg]
          rw [h1]
          exact Nat.lt_of_le_of_lt (Nat.le_trans c2 (Nat.le_trans (Nat.le_of_lt hlt) hz)) (by decide)
        refine ⟨_, k', rfl, hh, hln, ?_⟩
        have A7 := A52.write (d' := .raw (.dK (zipK (ks ++ [k']) (gs ++ [g])))) (o := .dK (zipK (ks ++ [k']) (gs ++ [g]))) hc hv (.raw upd_same (fun _ _ z => nomatch z))
        rw [set_mid] at A7
        rw [putK_new (by rw [zipK_keys hg]; exact hn), ← zipK_snoc hg]
        obtain ⟨b1, b2⟩ := back l40 hl2' hv2' A7
        exact ⟨ks ++ [k'], gs ++ [g], _, F50, by simp [hg], b1, b2, q50⟩
    · have ek : k = ds.length := by omega
      subst ek
      refine .inl ⟨w3 (Nat.le_refl _), kk D ks gs _ e F' hg l' ?_ (fin ks e ik)⟩
      have A2 : At X.K b (σ ++ tv ++ tvi ++ (gV D :: gs.map gV)) (e ++ te ++ tei ++ (.ow (.raw (.dK (zipK ks gs))) :: gs.map fun _ => gC [])) F' H' := by simpa [List.append_assoc] using A'
      have A3 := A2.dropMid (by have := l'.len; simp; omega) hl l'.le
      simpa [List.append_assoc] using A3
/-! ### statements while own objects stand aside -/
def gEnds (X : Cx) {js : List Nat} {m : Nat} (b : Base js m) (gv tv : List (Option V)) (te : List Cell) (n : Nat) (R : List Cell → List Cell → Prop) : Ends where
  nx := fun σ' H' => ∃ env' gc' F', Lc m env' σ' ∧ gc'.length = n ∧ NoAl gc' ∧ At X.K b (σ' ++ (gv ++ tv)) (env' ++ (gc' ++ te)) F' H' ∧ R env' gc'
  rt := fun _ _ => False
  bk := fun _ _ => False
  ct := fun _ _ => False
def GS (X : Cx) {js : List Nat} {m : Nat} (b : Base js m) (st : Stmt) (gv : List (Option V)) (env gc : List Cell) (R : List Cell → List Cell → Prop) : Prop :=
  ∀ (σ tv : List (Option V)) (te : List Cell) (F H : Hp), Lc m env σ → NoAl te → NoAl gc → gc.length = gv.length → At X.K b (σ ++ (gv ++ tv)) (env ++ (gc ++ te)) F H → wS X st (gEnds X b gv tv te gv.length R) σ H
def GSs (X : Cx) {js : List Nat} {m : Nat} (b : Base js m) (ss : List Stmt) (gv : List (Option V)) (env gc : List Cell) (R : List Cell → List Cell → Prop) : Prop :=
  ∀ (σ tv : List (Option V)) (te : List Cell) (F H : Hp), Lc m env σ → NoAl te → NoAl gc → gc.length = gv.length → At X.K b (σ ++ (gv ++ tv)) (env ++ (gc ++ te)) F H → wSs X ss (gEnds X b gv tv te gv.length R) σ H
theorem gss_nil {gv : List (Option V)} {gc : List Cell} {R : List Cell → List Cell → Prop} (q : R env gc) : GSs X b [] gv env gc R := fun σ tv te F H l na ng hg A => w_pss pss_nil ⟨env, gc, F, l, hg, ng, A, q⟩
theorem gss_cons {s : Stmt} {ss : List Stmt} {gv : List (Option V)} {gc : List Cell} {R : List Cell → List Cell → Prop} (h : GS X b s gv env gc fun env' gc' => GSs X b ss gv env' gc' R) : GSs X b (s :: ss) gv env gc R := by
  intro σ tv te F H l na ng hg A
  exact w_pss (pss_cons ps_w pss_w) (wS_le (h σ tv te F H l na ng hg A) (fun σ' H' ⟨env', gc', F', l', hg', ng', A', q⟩ => q σ' tv te F' H' l' na ng' hg' A') (fun _ _ q => q.elim) (fun _ _ q => q.elim) fun _ _ q => q.elim)
theorem gs_for {body : List Stmt} {gv : List (Option V)} {gc : List Cell} {R : List Cell → List Cell → Prop} (hc : X.calm = true) (hp : PassesOwn (model X.prog X.w) X.A X.env X.xe)
    (h : DI X b tg iter env fun ds C env1 => ∃ I : Nat → List Cell → List Cell → Prop, I 0 env1 gc ∧ (∀ k e g, I k e g → C e) ∧ (∀ k d e g, ds[k]? = some d → I k e g → DG X b tg (.fz d) e fun e2 => GSs X b body gv e2 g (I (k + 1))) ∧ ∀ e g, I ds.length e g → R e g)
    (hs : ∀ x, foldedSetIterable iter X.env x = pure x := by intro _; rfl) : GS X b (.For tg iter body [] pos) gv env gc R := by
  intro σ tv te F H l na ng hg A
  refine w_ps (ps_for hp hc pi_w pg_w pss_w hs) (wI_mono (h σ (gv ++ tv) (gc ++ te) F H l A) fun J H1 ⟨ds, C, tvi, tei, env1, F1, l1, hl, nai, A1, wk, I, i0, iC, turn, fin⟩ => ?_)
  have hte : te.length = tv.length := by have h1 := A.len; have h2 := l.len; simp at h1; omega
  refine ⟨fun k μ σ' H' => μ = ds.length - k ∧ k ≤ ds.length ∧ ∃ e g F', Lc m e σ' ∧ g.length = gv.length ∧ NoAl g ∧ At X.K b (σ' ++ (gv ++ tv ++ tvi)) (e ++ (g ++ te ++ tei)) F' H' ∧ I k e g, ⟨ds.length, by simp, Nat.zero_le _, env1, gc, F1, l1, hg, ng, A1, i0⟩, ?_⟩
  rintro k μ σ' H' ⟨rfl, hk, e, g, F', l', hg', ng', A', ik⟩
  have hgt : (g ++ te).length = (gv ++ tv).length := by simp; omega
  have A'' : At X.K b (σ' ++ (gv ++ tv ++ tvi ++ [])) (e ++ (g ++ te ++ tei ++ [])) F' H' := by rw [List.append_nil, List.append_nil]; exact A'
  obtain ⟨w1, w2, w3⟩ := wk σ' (gv ++ tv) [] e (g ++ te) [] F' H' k l' (iC k e g ik) hgt A''
  by_cases hlt : k < ds.length
  · refine .inr ⟨w1 hlt, fun σ2 H2 => ∃ e g F', Lc m e σ2 ∧ g.length = gv.length ∧ NoAl g ∧ At X.K b (σ2 ++ (gv ++ tv ++ tvi)) (e ++ (g ++ te ++ tei)) F' H2 ∧ I (k + 1) e g, fun σ2 H2 q => ⟨ds.length - (k + 1), by omega, rfl, hlt, q⟩, fun x H2 y => ?_⟩
    obtain ⟨F2, A2⟩ := w2 x H2 ds[k] (List.getElem?_eq_getElem hlt) y
    rw [List.append_nil, List.append_nil] at A2
    have t := turn k ds[k] e g (List.getElem?_eq_getElem hlt) ik σ' (gv ++ tv ++ tvi) (g ++ te ++ tei) F2 H2 x l' (noal_app (noal_app ng' na) nai) A2
    intro pins s u Iv r
    refine thn (t pins s u Iv r) fun _ s' ⟨σ3, H3, I3, e3, F3, l3, A3, q3⟩ => ⟨σ3, H3, I3, ?_⟩
    rw [List.append_assoc gv, List.append_assoc g] at A3
    refine wSs_le (q3 σ3 (tv ++ tvi) (te ++ tei) F3 H3 l3 (noal_app na nai) ng' hg' A3) (fun σ4 H4 ⟨e4, g4, F4, l4, hg4, ng4, A4, q4⟩ => ⟨e4, g4, F4, l4, hg4, ng4, ?_, q4⟩) (fun _ _ q => q.elim) (fun _ _ q => q.elim) fun _ _ q => q.elim
    rw [List.append_assoc gv, List.append_assoc g4]
    exact A4
  · have ek : k = ds.length := by omega
    subst ek
    exact .inl ⟨w3 (Nat.le_refl _), e, g, F', l', hg', ng', drop_walk l' hgt hl A', fin e g ik⟩
/-! ### d[i][j] = e -/
theorem gs_nest {o i1 i2 e : Expr} {p1 p2 : Pos} {gv : List (Option V)} {gc : List Cell} {R : List Cell → List Cell → Prop} (hu : X.A.units + 1 < cLine) (hpl : PlainIx i1)
    (h : DE X b e env fun c env1 => ∃ d, c = .fz d ∧ DE X b o env1 fun c2 env2 => ∃ s, c2 = .al s ∧ DE X b i1 env2 fun c3 env3 => ∃ kvs k1 g t, c3 = .fz (keyD k1) ∧ env3[s]? = some (.ow (.raw (.dK kvs))) ∧ valV kvs k1 = some (.ref g) ∧ gv[t]? = some (some (.ref g)) ∧
      DE X b i2 env3 fun c4 env4 => ∃ k2 ds, c4 = .fz (keyD k2) ∧ gc[t]? = some (.ow (.dk ds)) ∧ ds.length < 100000 ∧ R env4 (gc.set t (.ow (.dk (dput ds k2 d)))))
    (hs : swapsWithSole [.Subscript (.Subscript o i1 p1) i2 p2] e pos.line X.env = pure false := by rfl) (hw : swappedStores [.Subscript (.Subscript o i1 p1) i2 p2] e X.env = pure none := by rfl) (h1 : (assignEach [.Subscript (.Subscript o i1 p1) i2 p2] X.env).map (·.2) = [assign (.Subscript (.Subscript o i1 p1) i2 p2) X.env] := by rfl)
    (ha : ∀ v, assign (.Subscript (.Subscript o i1 p1) i2 p2) X.env v = (do
      let ov ← holding [v] (eval (.Subscript o i1 p1) X.env)
      let iv ← holding [v, ov] (eval i2 X.env)
      standAt p2
      holding [v, ov, iv] (setItem ov iv v)
      release [v, ov, iv] []) := by intro _; rfl) : GS X b (.Assign [.Subscript (.Subscript o i1 p1) i2 p2] e pos) gv env gc R := by
  intro σ tv te F H l na ng hg A
  refine w_ps (ps_asg pe_w (pg_sub (pe_ix (ix_dict hu) pe_w pe_w hpl) pe_w (set_dict hu) ha) hs hw h1) (wE_mono (h σ (gv ++ tv) (gc ++ te) F H l A) fun v H1 ⟨c, env1, F1, l1, A1, d, ec, h2⟩ => ?_)
  subst ec
  refine wE_mono (h2 σ _ _ F1 H1 l1 (assoc1 A1)) fun w H2 ⟨c2, env2, F2, l2, A2, s, ec, h3⟩ => ?_
  subst ec
  refine wE_mono (h3 σ _ _ F2 H2 l2 (assoc1 A2)) fun z H3 ⟨c3, env3, F3, l3, A3, kvs, k1, g, t, ec, he3, hval, hgt, h4⟩ => ?_
  subst ec
  have A4 : At X.K b (σ ++ (gv ++ tv ++ [some v]) ++ [some w] ++ [some z]) (env3 ++ (gc ++ te ++ [.fz d]) ++ [.al s] ++ [.fz (keyD k1)]) F3 H3 := assoc2 A3
  obtain ⟨A5, A6⟩ := swap_al l3 A4
  obtain ⟨a, rfl, hv3, _, ow⟩ := own_last l3 A5 he3
  have ez : z = kV k1 := key_rp (H := H3) (.fz (last_fz A6))
  subst ez
  have hka : H3 a = some (.dK kvs) := by cases ow with | raw hh _ => exact hh
  have A7 := pop1 l3 A5
  refine ⟨a, .ref g, rfl, .inl ⟨kvs, k1, .inl hka, rfl, hval.symm⟩, ?_⟩
  refine wE_mono (h4 σ _ _ F3 H3 l3 A7) fun z2 H4 ⟨c4, env4, F4, l4, A8, k2, ds, ec, hgc, hz, q⟩ => ?_
  subst ec
  have ez2 : z2 = kV k2 := key_rp (H := H4) (.fz (last_fz A8))
  subst ez2
  have A9 := pop1 l4 A8
  have A9' : At X.K b (σ ++ (gv ++ tv) ++ [some v]) (env4 ++ (gc ++ te) ++ [.fz d]) F4 H4 := by
    rw [List.append_assoc σ, List.append_assoc env4]
    exact A9
  have rv : Rp X.K F4 v d := last_fz A9'
  have A10 : At X.K b (σ ++ (gv ++ tv)) (env4 ++ (gc ++ te)) F4 H4 := pop1 l4 A9'
  have ht : t < gc.length := (List.getElem?_eq_some_iff.mp hgc).1
  have hc : (env4 ++ (gc ++ te))[env4.length + t]? = some (.ow (.dk ds)) := by
    rw [List.getElem?_append_right (by omega), List.getElem?_append_left (by omega)]
    simpa using hgc
  have hv : (σ ++ (gv ++ tv))[env4.length + t]? = some (some (.ref g)) := by
    rw [l4.len, List.getElem?_append_right (by omega), List.getElem?_append_left (by omega)]
    simpa using hgt
  obtain ⟨fn, ow2, _⟩ := A10.addr hc hv
  cases ow2 with
  | @dk xs _ hx r2 =>
    have A11 := A10.write (d' := .dk (dput ds k2 d)) (o := .dK (putK xs k2 v)) hc hv (.dk upd_same (r2.put rv))
    rw [List.set_append_right _ _ (by omega), List.set_append_left _ _ (by omega)] at A11
    have e0 : env4.length + t - env4.length = t := by omega
    rw [e0] at A11
    refine ⟨g, _, rfl, DPut.k hx (by rw [r2.length]; exact Nat.lt_of_lt_of_le hz (by decide)), env4, gc.set t (.ow (.dk (dput ds k2 d))), F4, l4, by simp [hg], fun i c' hi j => ?_, A11, q⟩
    by_cases hit : i = t
    · subst hit
      rw [List.getElem?_set_self (by omega)] at hi
      cases hi
      exact fun z => nomatch z
    · rw [List.getElem?_set_ne (Ne.symm hit)] at hi
      exact ng i c' hi j
/-! ### at last all is data -/
theorem At.freezeAll {K : PySem.W.Frag} {vs : List (Option V)} {H : Hp} {post : List Cell} : ∀ {dss : List (List (Key × D))} {pre : List Cell} {F : Hp}, (∀ j ∈ js, j < pre.length) → At K b vs (pre ++ (dss.map gC ++ post)) F H → ∃ F', At K b vs (pre ++ (dss.map (fun ds => .fz (.dk ds)) ++ post)) F' H
  | [], pre, F, _, A => ⟨F, A⟩
  | ds :: dss, pre, F, hj, A => by
    have hc : (pre ++ ((ds :: dss).map gC ++ post))[pre.length]? = some (.ow (.dk ds)) := by rw [List.getElem?_append_right (Nat.le_refl _)]; simp
    obtain ⟨F1, A1⟩ := A.freeze hc fun z => Nat.lt_irrefl _ (hj _ z)
    have es : (pre ++ ((ds :: dss).map gC ++ post)).set pre.length (.fz (.dk ds)) = (pre ++ [.fz (.dk ds)]) ++ (dss.map gC ++ post) := by
      rw [List.set_append_right _ _ (Nat.le_refl _)]; simp
    rw [es] at A1
    obtain ⟨F2, A2⟩ := At.freezeAll (pre := pre ++ [.fz (.dk ds)]) (fun j h => by have := hj j h; simp; omega) A1
    exact ⟨F2, by simpa [List.append_assoc] using A2⟩
theorem thaw {σ tv : List (Option V)} {te : List Cell} {F H : Hp} {s : Nat} {ks : List Key} {gs : List Addr} {dss : List (List (Key × D))} (l : Lc m env σ) (h1 : gs.length = ks.length) (h2 : dss.length = gs.length) (hs : env[s]? = some (.ow (.raw (.dK (zipK ks gs))))) (hj : ∀ j ∈ js, j < env.length)
    (A : At X.K b (σ ++ (gs.map gV ++ tv)) (env ++ (dss.map gC ++ te)) F H) : ∃ F', Lc m (env.set s (.ow (.dk (ks.zip (dss.map .dk))))) σ ∧ At X.K b (σ ++ tv) (env.set s (.ow (.dk (ks.zip (dss.map .dk)))) ++ te) F' H := by
  obtain ⟨F1, A1⟩ := At.freezeAll (fun j h => hj j h) A
  have hsl : s < env.length := (List.getElem?_eq_some_iff.mp hs).1
  obtain ⟨p, hv, fn, ow, h0⟩ := A1.ok s _ (by rw [List.getElem?_append_left hsl]; exact hs)
  have rk : ∀ (ks : List Key) (gs : List Addr) (dss : List (List (Key × D))), gs.length = ks.length → dss.length = gs.length → (∀ (t : Nat) g ds, gs[t]? = some g → dss[t]? = some ds → Rp X.K F1 (.ref g) (.dk ds)) → RpK X.K F1 (zipK ks gs) (ks.zip (dss.map .dk)) := by
    intro ks
    induction ks with
    | nil => intro gs dss _ _ _; exact .nil
    | cons k ks ih =>
      intro gs dss h1 h2 hr
      match gs, dss, h1, h2 with
      | g :: gs, ds :: dss, h1, h2 => exact .cons (hr 0 g ds rfl rfl) (ih gs dss (by simpa using h1) (by simpa using h2) fun t g' ds' e1 e2 => hr (t + 1) g' ds' (by simpa using e1) (by simpa using e2))
  have hrp := rk ks gs dss h1 h2 fun t g ds e1 e2 => by
    have htl : t < gs.length := (List.getElem?_eq_some_iff.mp e1).1
    have hc : (env ++ (dss.map (fun ds => Cell.fz (.dk ds)) ++ te))[env.length + t]? = some (.fz (.dk ds)) := by
      rw [List.getElem?_append_right (by omega), List.getElem?_append_left (by simp; omega)]
      simp [e2]
    have hvv : (σ ++ (gs.map gV ++ tv))[env.length + t]? = some (some (.ref g)) := by
      rw [l.len, List.getElem?_append_right (by omega), List.getElem?_append_left (by simp; omega)]
      simp [e1]
    obtain ⟨x, ex, rx⟩ := A1.ok _ _ hc
    rw [hvv] at ex
    cases ex
    exact rx
  have A2 := A1.recell s (c := .ow (.dk (ks.zip (dss.map .dk)))) ⟨p, hv, fn, by cases ow with | raw hh _ => exact .dk hh hrp, h0⟩ fun d z => ⟨_, by rw [List.getElem?_append_left hsl]; exact hs⟩
  rw [List.set_append_left _ _ hsl] at A2
  refine ⟨F1, lc_set l na_ow, ?_⟩
  rw [← List.append_assoc, ← List.append_assoc] at A2
  exact A2.dropMid (by have := l.len; simp; omega) (by simp; omega) l.ml
end
end DL


set_option Elab.async false
set_option linter.all false
set_option maxRecDepth 100000
set_option maxHeartbeats 1000000
/-! THE DATA LAYER, 15: x = {.. for ..}. -/
namespace DL
open PySem PySem.Spec PyProof.Rows L2
section
variable {X : Cx} {js : List Nat} {m : Nat} {b : Base js m} {env : List Cell} {Q : Cell → List Cell → Prop} {E : DEnds} {pos p apos cpos : Pos} {tg iter : Expr}
theorem ps_setDc {i : Nat} {y : Str} {py : Pos} {kx vx tg iter : Expr} {ifs : List Expr} {scope : Scope} {own : List (Str × Nat)} {pos spos : Pos} {wi : TI} {g : TG} {tt : TT} {tk tv : TE} (hc : X.calm = true) (hN : X.N.Nodup) (hy : X.N[i]? = some y) (hyl : X.env.scope.names.lookup y = some .local)
    (hsw : swapsWith (.DictComp kx vx [⟨tg, iter, ifs, 0⟩] scope pos) (some (.Name y py)) spos.line X.env = pure true) (hi : PI X tg iter wi) (ok : BlkOk X.N X.env.scope scope own)
    (hg : ∀ (s : Shared) (H : Hp) (C : Addr) (cl : List (Str × Addr)) (fp : List Addr), PG (X.blk s H scope (compEnvC scope cl C X.env) fp) tg g) (ht : ∀ (s : Shared) (H : Hp) (C : Addr) (cl : List (Str × Addr)) (fp : List Addr), PTs (X.blk s H scope (compEnvC scope cl C X.env) fp) ifs tt)
    (hk : ∀ (s : Shared) (H : Hp) (C : Addr) (cl : List (Str × Addr)) (fp : List Addr), PE (X.blk s H scope (compEnvC scope cl C X.env) fp) kx tk)
    (he : ∀ (s : Shared) (H : Hp) (C : Addr) (cl : List (Str × Addr)) (fp : List Addr), PE (X.blk s H scope (compEnvC scope cl C X.env) fp) vx tv) (hs : ∀ x, foldedSetIterable iter X.env x = pure x := by intro _; rfl) :
    PS X (.Assign [.Name y py] (.DictComp kx vx [⟨tg, iter, ifs, 0⟩] scope pos) spos) (tAsg (tDc wi g tt tk tv (own.map (·.2))) (gName i)) := by
  refine ⟨fun pins s σ H D I h => ?_⟩
  rw [exec_Assign_Name_used _ _ _ _ hsw]
  refine wpAny_bind (wpAny_standAt (wpAny_bind ?_))
  show wpAny _ X.A (do let _ ← comprehension (.DictComp kx vx [⟨tg, iter, ifs, 0⟩] scope pos) scope X.env (firstIterPos [⟨tg, iter, ifs, 0⟩] pos) newDict false (eval iter X.env) (some (assign (.Name y py) X.env))) _ _ s
  have h : tDc wi g tt tk tv (own.map (·.2)) σ H (fun x H1 => gName i x σ H1 D.nx) := h
  refine wpAny_bind (thn (dc_core (Qf := fun _ s' => SP X pins D .next s') hc hN I hi ok hg ht hk he hs h fun L C s' m H' I' q hn f => ?_) fun _ s' hq => wpAny_pure (wpAny_pure hq))
  show wpAny _ _ (assign (.Name y py) X.env (.ref L)) _ _ _
  refine wpAny_assign_Name (store_ok2 (v := V.ref L) I' hN hy (.inl hyl) rfl (fun s2 I2 ⟨a, sb, ha⟩ => ?_) (.inr hyl))
  obtain ⟨f0, f1, f2, f3, f4, f5⟩ := f
  have haC : C ≠ a := by
    rcases ha with z | z
    · rw [z]; exact f1
    · exact fun e => f4 y a z e.symm
  refine ⟨m, hn.sameBut sb haC, fun h3 sb3 => ?_⟩
  exact ⟨_, H', I2.turned (t' := s2.toks) (fun b o hb e => (sb3.2 b hb).trans e) f0 f1 f3 f4 f5, q⟩
theorem ds_setDc {i : Nat} {y : Str} {py spos : Pos} {kx vx : Expr} {ifs : List Expr} {scope : Scope} (own : List (Str × Nat)) (hc : X.calm = true) (hN : X.N.Nodup) (hy : X.N[i]? = some y) (hyl : X.env.scope.names.lookup y = some .local)
    (hsw : swapsWith (.DictComp kx vx [⟨tg, iter, ifs, 0⟩] scope pos) (some (.Name y py)) spos.line X.env = pure true) (ok : BlkOk X.N X.env.scope scope own) (him : ∀ i ∈ own.map (·.2), m ≤ i ∧ i ∉ js) (hj : i ∉ js)
    (h : DIa X b tg iter env fun ds C env1 => ds.length ≤ 100000 ∧ ∃ I : Nat → List (Key × D) → List Cell → Prop, I 0 [] env1 ∧ (∀ k acc e, I k acc e → C e ∧ acc.length ≤ k ∧ ∀ i ∈ own.map (·.2), e[i]? = some .no) ∧ (∀ k d acc e, ds[k]? = some d → I k acc e → DcTurn X b scope (own.map (·.2)) tg kx vx ifs d e fun o e' => match o with | some kd => I (k + 1) (dput acc kd.1 kd.2) e' | none => I (k + 1) acc e') ∧ ∀ acc e, I ds.length acc e → i < e.length ∧ E.nx (e.set i (.ow (.dk acc))))
    (hs : ∀ x, foldedSetIterable iter X.env x = pure x := by intro _; rfl) : DS X b (.Assign [.Name y py] (.DictComp kx vx [⟨tg, iter, ifs, 0⟩] scope pos) spos) env E := by
  intro σ tv te F H l na A
  refine w_ps (ps_setDc (g := gAny X scope tg) (tt := tAny X scope ifs) (tk := eAny X scope kx) (tv := eAny X scope vx) hc hN hy hyl hsw pi_w ok (fun s H0 C cl fp => ⟨fun pins s' _ _ _ u _ I r h => h s H0 C cl fp pins s' u I r⟩) (fun s H0 C cl fp => pts_any ifs s H0 C cl fp) (fun s H0 C cl fp => ⟨fun pins s' _ _ _ I h => h s H0 C cl fp pins s' I⟩) (fun s H0 C cl fp => ⟨fun pins s' _ _ _ I h => h s H0 C cl fp pins s' I⟩) hs)
    (dc_read (Q := fun c e => ∃ acc, c = .ow (.dk acc) ∧ i < e.length ∧ E.nx (e.set i (.ow (.dk acc)))) l A him ?_ fun v H' c env' F' l' A' ⟨acc, ec, hl, q⟩ => ?_)
  · intro σ tv te F H l A
    refine wI_mono (h σ tv te F H l A) fun J H1 ⟨ds, C, tvi, tei, env1, F1, l1, hl, A1, wk, hz, I, i0, iC, turn, fin⟩ => ?_
    exact ⟨ds, C, tvi, tei, env1, F1, l1, hl, A1, wk, hz, I, i0, iC, turn, fun acc e q => ⟨acc, rfl, (fin acc e q).1, (fin acc e q).2⟩⟩
  · subst ec
    exact ⟨_, F', lc_set2 l' na_ow, A'.store l'.ml l'.len (by rw [← l'.len]; exact hl) hj (.inr (noal_app l'.na na)) na_ow, q⟩
/-- x = {k: {} for ..}; one statement that fills the inner dicts; then x is data -/
theorem dss_nest {i : Nat} {y : Str} {py spos vpos : Pos} {kx : Expr} {scope : Scope} {st2 : Stmt} {rest : List Stmt} (own : List (Str × Nat)) (hc : X.calm = true) (hN : X.N.Nodup) (hy : X.N[i]? = some y) (hyl : X.env.scope.names.lookup y = some .local)
    (hsw : swapsWith (.DictComp kx (.Dict [] [] vpos) [⟨tg, iter, [], 0⟩] scope pos) (some (.Name y py)) spos.line X.env = pure true) (ok : BlkOk X.N X.env.scope scope own) (him : ∀ i ∈ own.map (·.2), m ≤ i ∧ i ∉ js) (hj : i ∉ js)
    (h : DIa X b tg iter env fun ds C env1 => ds.length ≤ 100000 ∧ ∃ I : Nat → List Key → List Cell → Prop, I 0 [] env1 ∧ (∀ k acc e, I k acc e → C e ∧ acc.length ≤ k ∧ ∀ i ∈ own.map (·.2), e[i]? = some .no) ∧ (∀ k d acc e, ds[k]? = some d → I k acc e → DkTurn X b scope (own.map (·.2)) tg kx d e fun k' e' => k' ∉ acc ∧ I (k + 1) (acc ++ [k']) e') ∧
      ∀ ks e, I ds.length ks e → i < e.length ∧ ∀ gs : List Addr, gs.length = ks.length → GS X b st2 (gs.map gV) (e.set i (.ow (.raw (.dK (zipK ks gs))))) (gs.map fun _ => gC []) fun env2 gc2 => ∃ dss : List (List (Key × D)), gc2 = dss.map gC ∧ env2[i]? = some (.ow (.raw (.dK (zipK ks gs)))) ∧ DSs X b rest (env2.set i (.ow (.dk (ks.zip (dss.map .dk))))) E)
    (hs : ∀ x, foldedSetIterable iter X.env x = pure x := by intro _; rfl) : DSs X b (.Assign [.Name y py] (.DictComp kx (.Dict [] [] vpos) [⟨tg, iter, [], 0⟩] scope pos) spos :: st2 :: rest) env E := by
  intro σ tv te F H l na A
  refine w_pss (pss_cons ps_w (pss_cons ps_w pss_w)) ?_
  refine w_ps (ps_setDc (g := gAny X scope tg) (tt := tYes) (tk := eAny X scope kx) (tv := tDNewK) hc hN hy hyl hsw pi_w ok (fun s H0 C cl fp => ⟨fun pins s' _ _ _ u _ I r h => h s H0 C cl fp pins s' u I r⟩) (fun s H0 C cl fp => pts_nil) (fun s H0 C cl fp => ⟨fun pins s' _ _ _ I h => h s H0 C cl fp pins s' I⟩) (fun s H0 C cl fp => pe_dnewK) hs) ?_
  refine dcN_read (Q := fun ks e => i < e.length ∧ ∀ gs : List Addr, gs.length = ks.length → GS X b st2 (gs.map gV) (e.set i (.ow (.raw (.dK (zipK ks gs))))) (gs.map fun _ => gC []) fun env2 gc2 => ∃ dss : List (List (Key × D)), gc2 = dss.map gC ∧ env2[i]? = some (.ow (.raw (.dK (zipK ks gs)))) ∧ DSs X b rest (env2.set i (.ow (.dk (ks.zip (dss.map .dk))))) E) l A him h fun D ks gs H1 env1 F1 hg l1 A1 ⟨hl, h2⟩ => ?_
  have hte : te.length = tv.length := by have h1 := A.len; have h2 := l.len; simp at h1; omega
  have A2 : At X.K b (σ ++ tv ++ ([gV D] ++ gs.map gV)) (env1 ++ te ++ ([.ow (.raw (.dK (zipK ks gs)))] ++ gs.map fun _ => gC [])) F1 H1 := by simpa [List.append_assoc] using A1
  have hlt : (env1 ++ te).length = (σ ++ tv).length := by have := l1.len; simp; omega
  have A3 := A2.swapBlock hlt (by simp) (Nat.le_trans l1.ml (by simp))
  have A4 : At X.K b (σ ++ (tv ++ gs.map gV) ++ [gV D]) (env1 ++ (te ++ gs.map fun _ => gC []) ++ [.ow (.raw (.dK (zipK ks gs)))]) F1 H1 := by simpa [List.append_assoc] using A3
  have ngc : ∀ (gs : List Addr), NoAl (gs.map fun _ => gC []) := fun gs j c hj' t z => by
    rw [List.getElem?_map] at hj'
    cases q : gs[j]? with
    | none => rw [q] at hj'; cases hj'
    | some a => rw [q, z] at hj'; cases hj'
  have A5 := A4.store l1.ml l1.len (by rw [← l1.len]; exact hl) hj (.inr (noal_app l1.na (noal_app na (ngc gs)))) na_ow
  have l5 : Lc m (env1.set i (.ow (.raw (.dK (zipK ks gs))))) (σ.set i (gV D)) := lc_set2 l1 na_ow
  have A6 := A5.swapBlock l5.len hte l5.ml
  refine wS_le (h2 gs hg _ tv te F1 H1 l5 na (ngc gs) (by simp) A6) (fun σ' H' ⟨env', gc', F', l', hg', ng', A', dss, e1, e2, q⟩ => ?_) (fun _ _ q => q.elim) (fun _ _ q => q.elim) fun _ _ q => q.elim
  subst e1
  have hjl : ∀ j ∈ js, j < env'.length := fun j h => Nat.lt_of_lt_of_le (A.jl j h) (by rw [l'.len]; exact l'.ml)
  obtain ⟨F2, l7, A7⟩ := thaw l' hg (by simpa using hg') e2 hjl A'
  exact q σ' tv te F2 H' l7 na A7
theorem sw_trueD {kx vx : Expr} {gs : List Comprehension} {scope : Scope} {pos py : Pos} {y : Str} {l : Nat} {env : Env} (hk : env.scope.kind = .function) (hy : env.scope.names.lookup y = some .local) (hl : (py.line == pos.line) = true)
    (ha : (scope.names.any fun (n, k) => n == y && (k == .local || k == .cell)) = false) : swapsWith (.DictComp kx vx gs scope pos) (some (.Name y py)) l env = pure true := by
  have ky : env.kindOf y = some .local := hy
  have hb : env.blockKind = .function := by unfold Env.blockKind; rw [hk]; rfl
  unfold swapsWith
  simp only [hb, ky, ha, Expr.pos, hl]
  rfl
end
end DL


set_option Elab.async false
set_option linter.all false
set_option maxRecDepth 100000
set_option maxHeartbeats 1000000
/-! THE DATA LAYER, 16: zip of tuples. -/
namespace DL
open PySem PySem.Spec PyProof.Rows L2 RZ
section
variable {X : Cx} {js : List Nat} {m : Nat} {b : Base js m} {env : List Cell} {Q : Cell → List Cell → Prop} {E : DEnds} {pos p apos cpos : Pos} {tg iter : Expr}
theorem walk_zipT {a a' : Addr} {c c' : Cell} {ds es : List D} {C : List Cell → Prop} (hw : ∀ env, C env → Vw env c (.tup ds) ∧ Vw env c' (.tup es)) : WalkOk X b (ItzT X.K a a') [some (.ref a), some (.ref a')] [c, c'] (zipD ds es) C := by
  intro σ tv tw env te tf F H k l hC hl A
  obtain ⟨⟨h1, h2⟩, h3, h4⟩ := two_at (v := .ref a) (v' := .ref a') (c := c) (c' := c') (tw := tw) (tf := tf) l.len hl
  obtain ⟨_, xs, e, q, r⟩ := (sees_at l A h1 h2 (hw env hC).1).tuple A.ex
  cases e
  obtain ⟨_, ys, e, q', r'⟩ := (sees_at l A h3 h4 (hw env hC).2).tuple A.ex
  cases e
  have hlen := r.length
  have hlen' := r'.length
  rw [zipD_len]
  refine ⟨fun hk => ?_, fun x H' d hd y => ?_, fun hk => ⟨xs, ys, q, q', by omega⟩⟩
  · have hx : k < xs.length := by omega
    have hy : k < ys.length := by omega
    exact ⟨xs, ys, xs[k], ys[k], q, q', by simp [hx], by simp [hy]⟩
  · obtain ⟨T, z, z', rfl, hT, rfl, y1, y2⟩ := y
    obtain ⟨d1, d2, hd1, hd2, e'⟩ := zipD_get ds es k d hd
    rw [e']
    exact ⟨_, at_pair A hT (rp_at r (y1 xs q) hd1) (rp_at r' (y2 ys q') hd2)⟩
theorem di_zipT {e e2 : Expr} {elts : List Expr} {kk : Nat} {tpos : Pos} {Q : List D → (List Cell → Prop) → List Cell → Prop} (hg : Gl X "zip") (hm : X.mg "zip" = none) (h : DE X b e env fun c env1 => DE X b e2 env1 fun c' env2 => ∃ ds es, c = .fz (.tup ds) ∧ c' = .fz (.tup es) ∧ Q (zipD ds es) (fun _ => True) env2)
    (hs : starEach [e, e2] X.env = (false, eval e X.env) :: starEach [e2] X.env := by rfl) (hs2 : starEach [e2] X.env = (false, eval e2 X.env) :: starEach [] X.env := by rfl) (hpl : (backTo pos (starEach [e2] X.env)).any (·.1) = false := by rfl) : DI X b (.Tuple elts kk tpos) (.Call (.Name "zip" p) [e, e2] [] pos) env Q := by
  intro σ tv te F H l A
  refine w_pi (pi_zipA hg hm (pa_cons pe_w (pa_cons pe_w pa_nil hs2) hs) hs hpl) (wE_mono (h σ tv te F H l A) fun v H1 ⟨c, env1, F1, l1, A1, h1⟩ => ?_)
  have A1' : At X.K b (σ ++ (tv ++ [some v])) (env1 ++ (te ++ [c])) F1 H1 := by rw [← List.append_assoc, ← List.append_assoc]; exact A1
  refine wE_mono (h1 σ (tv ++ [some v]) (te ++ [c]) F1 H1 l1 A1') fun v2 H2 ⟨c', env2, F2, l2, A2, ds, es, hc, hc', q⟩ => ?_
  have A2' : At X.K b (σ ++ tv ++ [some v] ++ [some v2]) (env2 ++ te ++ [c] ++ [c']) F2 H2 := by rw [List.append_assoc σ tv, List.append_assoc env2 te]; exact A2
  have hw : ∀ env, Vw env c (.tup ds) ∧ Vw env c' (.tup es) := fun env => by
    rw [hc, hc']; exact ⟨.fz _, .fz _⟩
  obtain ⟨s1, s2⟩ := sees_2 l2 A2' (hw env2).1 (hw env2).2
  obtain ⟨a, xs, e, sq, r⟩ := s1.tuple A2.ex
  subst e
  obtain ⟨a', ys, e, sq', r'⟩ := s2.tuple A2.ex
  subst e
  refine ⟨a, a', xs, ys, rfl, .inr ⟨sq, sq', zipD ds es, fun _ => True, [some (.ref a), some (.ref a')], [c, c'], env2, F2, l2, rfl, fun i x h j z => ?_, ?_, walk_zipT fun env _ => hw env, q⟩⟩
  · cases i with
    | zero =>
      have e : c = x := by simpa using h
      subst e
      rw [hc] at z; cases z
    | succ i =>
      cases i with
      | zero =>
        have e : c' = x := by simpa using h
        subst e
        rw [hc'] at z; cases z
      | succ i => simp at h
  · simpa using A2'
end
end DL


set_option Elab.async false
set_option linter.all false
set_option maxRecDepth 100000
set_option maxHeartbeats 1000000
/-! THE DATA LAYER, 17: a, b = x, y where a name is a cell. -/
namespace DL
open PySem PySem.Spec PyProof.Rows L2
section
variable {X : Cx} {js : List Nat} {m : Nat} {b : Base js m} {env : List Cell} {Q : Cell → List Cell → Prop} {E : DEnds} {pos p apos cpos : Pos} {tg iter : Expr}
theorem ds_parG {i j : Nat} {x y : Str} {e1 e2 : Expr} {px py pt pt2 : Pos} {kt k2 : Nat} (hc : X.calm = true) (hN : X.N.Nodup) (hp : Puts X [.Name x px, .Name y py] [i, j]) (hij : i ≠ j) (hij1 : i ∉ js) (hij2 : j ∉ js)
    (h : DA X b [e1, e2] env fun cs env1 => ∃ c1 c2, cs = [c1, c2] ∧ (∀ j, c1 ≠ .al j) ∧ (∀ j, c2 ≠ .al j) ∧ i < env1.length ∧ j < env1.length ∧ E.nx ((env1.set i c1).set j c2))
    (hw : swappedStores [.Tuple [.Name x px, .Name y py] kt pt] (.Tuple [e1, e2] k2 pt2) X.env = pure none := by rfl)
    (hs : swapsWithSole [.Tuple [.Name x px, .Name y py] kt pt] (.Tuple [e1, e2] k2 pt2) pos.line X.env = pure false := by rfl)
    (h1 : (assignEach [.Tuple [.Name x px, .Name y py] kt pt] X.env).map (·.2) = [assign (.Tuple [.Name x px, .Name y py] kt pt) X.env] := by rfl)
    (hn : (assignEach [.Name x px, .Name y py] X.env).length = 2 := by rfl) (hst : (assignEach [.Name x px, .Name y py] X.env).findIdx? (·.1) = none := by rfl) :
    DS X b (.Assign [.Tuple [.Name x px, .Name y py] kt pt] (.Tuple [e1, e2] k2 pt2) pos) env E := by
  intro σ tv te F H l na A
  refine w_ps (ps_asg (pe_tup pa_w) (pg_tup hc (puts_pgs hN hp) hn hst) hs hw h1) (wA_mono (h σ tv te F H l A) fun vs H1 ⟨cs, env1, F1, l1, hl, A1, c1, c2, ec, n1, n2, li, lj, q⟩ => ?_)
  subst ec
  match vs, hl, A1 with
  | [v, w], _, A1 =>
    refine ⟨by show 2 ≤ sizeLine; decide, fun tp htp => ⟨tp, [v, w], rfl, .inl (.inl upd_same), rfl, v, [w], rfl, w, [], rfl, rfl, (env1.set i c1).set j c2, F1, ?_⟩⟩
    have A1 := A1.alloc_no (o := .tup [v, w]) htp
    have A2 : At X.K b (σ ++ (tv ++ [some v]) ++ [some w]) (env1 ++ (te ++ [c1]) ++ [c2]) F1 (upd H1 tp (.tup [v, w])) := by simpa [List.append_assoc] using A1
    obtain ⟨l3, A3⟩ := store1 l1 (noal_one na n1) n2 lj hij2 A2
    have A4 : At X.K b (σ.set j (some w) ++ tv ++ [some v]) (env1.set j c2 ++ te ++ [c1]) F1 (upd H1 tp (.tup [v, w])) := by simpa [List.append_assoc] using A3
    obtain ⟨l5, A5⟩ := store1 l3 na n1 (by simpa using li) hij1 A4
    rw [List.set_comm _ _ (Ne.symm hij), List.set_comm _ _ (Ne.symm hij)] at l5 A5
    exact ⟨l5, A5, q⟩
theorem ds_parG3 {i j k : Nat} {x y z : Str} {e1 e2 e3 : Expr} {px py pz pt pt2 : Pos} {kt k2 : Nat} (hc : X.calm = true) (hN : X.N.Nodup) (hp : Puts X [.Name x px, .Name y py, .Name z pz] [i, j, k]) (hij : i ≠ j) (hik : i ≠ k) (hjk : j ≠ k) (hij1 : i ∉ js) (hij2 : j ∉ js) (hij3 : k ∉ js)
    (h : DA X b [e1, e2, e3] env fun cs env1 => ∃ c1 c2 c3, cs = [c1, c2, c3] ∧ (∀ j, c1 ≠ .al j) ∧ (∀ j, c2 ≠ .al j) ∧ (∀ j, c3 ≠ .al j) ∧ i < env1.length ∧ j < env1.length ∧ k < env1.length ∧ E.nx (((env1.set i c1).set j c2).set k c3))
    (hw : swappedStores [.Tuple [.Name x px, .Name y py, .Name z pz] kt pt] (.Tuple [e1, e2, e3] k2 pt2) X.env = pure none := by rfl)
    (hs : swapsWithSole [.Tuple [.Name x px, .Name y py, .Name z pz] kt pt] (.Tuple [e1, e2, e3] k2 pt2) pos.line X.env = pure false := by rfl)
    (h1 : (assignEach [.Tuple [.Name x px, .Name y py, .Name z pz] kt pt] X.env).map (·.2) = [assign (.Tuple [.Name x px, .Name y py, .Name z pz] kt pt) X.env] := by rfl)
    (hn : (assignEach [.Name x px, .Name y py, .Name z pz] X.env).length = 3 := by rfl) (hst : (assignEach [.Name x px, .Name y py, .Name z pz] X.env).findIdx? (·.1) = none := by rfl) :
    DS X b (.Assign [.Tuple [.Name x px, .Name y py, .Name z pz] kt pt] (.Tuple [e1, e2, e3] k2 pt2) pos) env E := by
  intro σ tv te F H l na A
  refine w_ps (ps_asg (pe_tup pa_w) (pg_tup hc (puts_pgs hN hp) hn hst) hs hw h1) (wA_mono (h σ tv te F H l A) fun vs H1 ⟨cs, env1, F1, l1, hl, A1, c1, c2, c3, ec, n1, n2, n3, li, lj, lk, q⟩ => ?_)
  subst ec
  match vs, hl, A1 with
  | [u, v, w], _, A1 =>
    refine ⟨by show 3 ≤ sizeLine; decide, fun tp htp => ⟨tp, [u, v, w], rfl, .inl (.inl upd_same), rfl, u, [v, w], rfl, v, [w], rfl, w, [], rfl, rfl, ((env1.set i c1).set j c2).set k c3, F1, ?_⟩⟩
    have A1 := A1.alloc_no (o := .tup [u, v, w]) htp
    have A2 : At X.K b (σ ++ (tv ++ [some u] ++ [some v]) ++ [some w]) (env1 ++ (te ++ [c1] ++ [c2]) ++ [c3]) F1 (upd H1 tp (.tup [u, v, w])) := by simpa [List.append_assoc] using A1
    obtain ⟨l3, A3⟩ := store1 l1 (noal_one (noal_one na n1) n2) n3 lk hij3 A2
    have A4 : At X.K b (σ.set k (some w) ++ (tv ++ [some u]) ++ [some v]) (env1.set k c3 ++ (te ++ [c1]) ++ [c2]) F1 (upd H1 tp (.tup [u, v, w])) := by simpa [List.append_assoc] using A3
    obtain ⟨l5, A5⟩ := store1 l3 (noal_one na n1) n2 (by simpa using lj) hij2 A4
    have A6 : At X.K b ((σ.set k (some w)).set j (some v) ++ tv ++ [some u]) ((env1.set k c3).set j c2 ++ te ++ [c1]) F1 (upd H1 tp (.tup [u, v, w])) := by simpa [List.append_assoc] using A5
    obtain ⟨l7, A7⟩ := store1 l5 na n1 (by simpa using li) hij1 A6
    rw [List.set_comm _ _ (Ne.symm hij), List.set_comm _ _ (Ne.symm hij), List.set_comm _ _ (Ne.symm hik), List.set_comm _ _ (Ne.symm hik), List.set_comm _ _ (Ne.symm hjk), List.set_comm _ _ (Ne.symm hjk)] at l7 A7
    exact ⟨l7, A7, q⟩
end
end DL


set_option Elab.async false
set_option linter.all false
set_option maxRecDepth 100000
set_option maxHeartbeats 1000000
/-! THE DATA LAYER, 18: a slot is forgotten. -/
namespace DL
open PySem PySem.Spec PyProof.Rows L2
section
variable {X : Cx} {js : List Nat} {m : Nat} {b : Base js m} {env : List Cell} {Q : Cell → List Cell → Prop} {E : DEnds}
theorem at_no {vs : List (Option V)} {te : List Cell} {F H : Hp} (i : Nat) (hi : i < env.length) (A : At X.K b vs (env ++ te) F H) : At X.K b vs (env.set i .no ++ te) F H := by
  have A1 := A.recell i (c := .no) trivial fun d z => nomatch z
  rw [List.set_append_left _ _ hi] at A1
  exact A1
theorem dss_no (i : Nat) {ss : List Stmt} (hi : i < env.length) (h : DSs X b ss (env.set i .no) E) : DSs X b ss env E := by
  intro σ tv te F H l na A
  exact h σ tv te F H (lc_set l na_no) na (at_no i hi A)
theorem de_no (i : Nat) {e : Expr} (hi : i < env.length) (h : DE X b e (env.set i .no) Q) : DE X b e env Q := by
  intro σ tv te F H l A
  exact h σ tv te F H (lc_set l na_no) (at_no i hi A)
end
end DL


set_option Elab.async false
set_option linter.all false
set_option maxRecDepth 100000
set_option maxHeartbeats 1000000
/-! THE DATA LAYER, 19: a call whose one argument is a fresh own object. -/
namespace DL
open PySem PySem.Spec PyProof.Rows L2
section
variable {X : Cx} {js : List Nat} {m : Nat} {b : Base js m} {env : List Cell} {Q : Cell → List Cell → Prop} {E : DEnds} {k n : Nat} {f : Addr} {fd : FuncData} {ps : List Str} {S : FSp} {x : Str} {p pos : Pos} {e : Expr} {es : List Expr}
theorem sp_tmp {σ tv : List (Option V)} {te : List Cell} {F H : Hp} {v : V} {d : D} {Q' : VK} {E : XK} (l : Lc m env σ) (A : At X.K b (σ ++ tv ++ [some v]) (env ++ te ++ [.ow d]) F H) (hmono : Mono S)
    (hS : S [.ow d] fun c cs' => (∃ d', cs'[0]? = some (.ow d')) ∧ Q c env) (kk : ∀ v H' c F', At X.K b (σ ++ tv ++ [some v]) (env ++ te ++ [c]) F' H' → Q c env → Q' v H') : spOf X.K [0] 1 S [v] H Q' E := by
  have hgl : (env ++ te).length = (σ ++ tv).length := by have := A.len; simp only [List.length_append, List.length_cons, List.length_nil] at this ⊢; omega
  have hc0 : (env ++ te ++ [.ow d])[(env ++ te).length]? = some (.ow d) := app_last rfl
  obtain ⟨a, hv0, fn0, ow0, h00⟩ := A.ok _ _ hc0
  have hv1 : v = .ref a := by
    rw [hgl, app_last rfl] at hv0
    exact Option.some.inj (Option.some.inj hv0)
  have A2 := at_argsO (vs := [v]) (cs := [.al (env ++ te).length]) (j := 0) A rfl hc0 hv0 rfl (by rw [hv1]; rfl) (fun n c h hn => by
    cases n with
    | zero => exact absurd rfl hn
    | succ n => simp at h)
  refine ⟨rfl, [.ow d], F, [a], fun t c hc z e => ?_, A2, hmono _ _ _ (fun c cs' q v' H' F' σ' env' m' hcs l' na A' => ?_) hS⟩
  · cases t with
    | zero => rw [List.getElem?_cons_zero] at hc; rw [e] at hc; cases hc
    | succ t => simp at hc
  · obtain ⟨⟨d', hq⟩, q⟩ := q
    have hce : env'[0]? = some (.ow d') := by
      rw [hcs, List.getElem?_take_of_lt (by decide)] at hq
      exact hq
    have hje : 0 < env'.length := (List.getElem?_eq_some_iff.mp hce).1
    have hva : (σ' ++ [some v'])[0]? = some (some (.ref a)) := A'.io 0 0 a rfl rfl
    obtain ⟨fn1, ow1, _⟩ := A'.addr (k := 0) (d := d') (by rw [List.getElem?_append_left hje]; exact hce) hva
    have A1 := A.after1 (d' := d') hc0 hv0 A'.ex0 A'.ex A'.tp A'.new (fun x o h => A'.live x o h) (fun x o h ne => A'.fr x o h (by simpa using ne)) fn1 ow1
    have A3 := A1.result A' l'.ml na (fun x h => A.h0_none h) fun t d1 x hc hh z => ?_
    · have es : (env ++ te ++ [Cell.ow d]).set (env ++ te).length (.ow d') = env ++ te ++ [.ow d'] := by
        rw [List.set_append_right _ _ (Nat.le_refl _), Nat.sub_self]; rfl
      rw [es] at A3
      have A4 : At X.K b (((σ ++ tv ++ [some v]) ++ []) ++ [some v']) (((env ++ te ++ [.ow d']) ++ []) ++ [c]) F' H' := by rw [List.append_nil, List.append_nil]; exact A3
      have A5 := A4.store (k := (σ ++ tv).length) (by have := l.ml; simp; omega) (by simp at hgl ⊢; omega) (by simp) (fun z => by have h1 := A.jl _ z; have h2 := l.ml; simp at h1; omega) (.inl (by have := l.ml; simp; omega)) na
      rw [List.append_nil, List.append_nil] at A5
      have e1 : (σ ++ tv ++ [some v]).set (σ ++ tv).length (some v') = σ ++ tv ++ [some v'] := by
        rw [List.set_append_right _ _ (Nat.le_refl _), Nat.sub_self]; rfl
      have e2 : (env ++ te ++ [Cell.ow d']).set (σ ++ tv).length c = env ++ te ++ [c] := by
        rw [← hgl, List.set_append_right _ _ (Nat.le_refl _), Nat.sub_self]; rfl
      rw [e1, e2] at A5
      exact kk v' H' c F' A5 q
    · have z : H x = none := z
      have back : ∃ d2, (env ++ te ++ [Cell.ow d])[t]? = some (.ow d2) := by
        by_cases ht : t = (env ++ te).length
        · subst ht; exact ⟨d, hc0⟩
        · rw [List.getElem?_set_ne (Ne.symm ht)] at hc
          exact ⟨d1, hc⟩
      obtain ⟨d2, hc2⟩ := back
      obtain ⟨_, ow2, _⟩ := A.addr hc2 hh
      cases ow2 with
      | lst y _ => rw [z] at y; cases y
      | dk y _ => rw [z] at y; cases y
      | dt y _ => rw [z] at y; cases y
      | tup y _ => rw [z] at y; cases y
      | raw y _ => rw [z] at y; cases y
theorem de_callT (G : FnOk X.prog X.w X.K X.mg X.base CX0 k f fd ps (spOf X.K [0] 1 S)) (hS : Mono S) (hr : Room k X.A) (hg : Gl X x) (hm : X.mg x = some (.ref f)) (hk : PySem.W.keepIn X.K (.ref f) = true) (hb : Binds X.K fd ps [])
    (h : DA X b [e] env fun cs env1 => ∃ d, cs = [.ow d] ∧ S [.ow d] fun c cs' => (∃ d', cs'[0]? = some (.ow d')) ∧ Q c env1) (hdb : (x == ("__debug__" : Str)) = false := by decide) (he : starEach [e] X.env = (false, eval e X.env) :: starEach [] X.env := by rfl) (hpl : (backTo pos (starEach [] X.env)).any (·.1) = false := by rfl) :
    DE X b (.Call (.Name x p) [e] [] pos) env Q := by
  intro σ tv te F H l A
  refine w_pe (pe_call G hr hg hm hk hb .nil (pass0 (X := X)) pa_w hdb he hpl) (wA_mono (h σ tv te F H l A) fun vs H1 ⟨cs, env1, F1, l1, hl, A1, d, ec, q⟩ => ?_)
  subst ec
  match vs, hl, A1 with
  | [v], _, A1 =>
    exact sp_tmp l1 A1 hS q fun v H' c F' A' q => ⟨c, env1, F', l1, A', q⟩
end
end DL


set_option Elab.async false
set_option linter.all false
set_option maxRecDepth 100000
set_option maxHeartbeats 1000000
/-! THE DATA LAYER, 20: names seen, by one computation. -/
namespace DL
open PySem PySem.Spec PyProof.Rows L2
def visB (sc : Scope) (x : Str) : Bool := match sc.names.lookup x with
  | some .local => true
  | some .cell => true
  | some .free => true
  | _ => false
theorem vis_b {sc : Scope} {x : Str} (h : visB sc x = true) : Vis sc x := by
  unfold visB at h
  split at h
  · rename_i e; exact .inl e
  · rename_i e; exact .inr (.inl e)
  · rename_i e; exact .inr (.inr e)
  · cases h
def locB (sc : Scope) (x : Str) : Bool := match sc.names.lookup x with
  | some .local => true
  | some .cell => true
  | _ => false
theorem loc_b {sc : Scope} {x : Str} (h : locB sc x = true) : Loc sc x := by
  unfold locB at h
  split at h
  · rename_i e; exact .inl e
  · rename_i e; exact .inr e
  · cases h
def fnB (X : Cx) (x : Str) : Bool := X.fn x || match X.env.scope.names.lookup x with
  | some .local => true
  | _ => false
theorem fn_b {X : Cx} {x : Str} (h : fnB X x = true) : X.fn x = true ∨ X.env.scope.names.lookup x = some .local := by
  unfold fnB at h
  rw [Bool.or_eq_true] at h
  rcases h with h | h
  · exact .inl h
  · right
    split at h
    · rename_i e; exact e
    · cases h
end DL


set_option Elab.async false
set_option linter.all false
set_option maxRecDepth 100000
set_option maxHeartbeats 1000000
/-! THE DATA LAYER, 21: a law is called with its script. -/
namespace DL
open PySem PySem.Spec PyProof.Rows L2
theorem rpl_intsL {K : PySem.W.Frag} {F : Hp} : ∀ ns : List Int, RpL K F (ns.map V.int) (ns.map D.int)
  | [] => .nil
  | n :: ns => .cons (.int n) (rpl_intsL ns)
theorem sp_start {K : PySem.W.Frag} {H : Hp} {a : Addr} {ns : List Int} {S : FSp} {E : XK} (hS : SqL K H a (ns.map V.int)) (hm : Mono S) (h : S [.fz (.lst (ns.map .int))] fun c _ => c = .fz (.bl true)) : spOf K [] 1 S [.ref a] H (fun v _ => v = .bl true) E := by
  refine ⟨rfl, [.fz (.lst (ns.map .int))], H, [], fun t c hc z e => ?_, ?_, hm _ _ _ (fun c cs' ec v H' F' σ' env' m' hcs l' na A' => ?_) h⟩
  · cases t with
    | zero => rw [List.getElem?_cons_zero] at hc; rw [e] at hc; cases hc
    | succ t => simp at hc
  · exact {
      len := rfl
      ml := Nat.le_refl _
      jl := fun j hj => nomatch hj
      ex := ExR.refl H
      tp := fun _ _ h => h
      ex0 := ExR.refl H
      new := fun _ _ h => .inl h
      fr := fun _ _ h _ => .inl h
      live := fun _ o h => ⟨o, h⟩
      ok := fun i c hc => by
        cases i with
        | zero =>
          rw [List.getElem?_cons_zero] at hc
          cases hc
          exact ⟨.ref a, rfl, .lst hS (rpl_intsL ns)⟩
        | succ i => simp at hc
      inj := fun i j d e p h => by
        cases i with
        | zero => rw [List.getElem?_cons_zero] at h; cases h
        | succ i => simp at h
      io := fun k j p h => by simp at h }
  · subst ec
    have hl : env'.length = σ'.length := by have := A'.len; simpa using this
    have q := A'.ok σ'.length (.fz (.bl true)) (app_last hl.symm)
    rw [app_last rfl] at q
    obtain ⟨y, e, r⟩ := q
    have e : v = y := Option.some.inj (Option.some.inj e)
    rw [e]
    exact r.bl_inv
end DL


set_option Elab.async false
set_option linter.all false
set_option maxRecDepth 100000
set_option maxHeartbeats 0
namespace K13
open PySem PySem.Spec PyProof.Rows L2
def topS (i : Nat) : Stmt := PySem.Challenge.pw_mirrorwood_k13_whole_cards_behind_rows.main.body.getD i (.Pass ⟨0, 0, 0, 0⟩)
abbrev s_counted : Stmt := topS 3
abbrev s_mirrored : Stmt := topS 4
abbrev s_is_free : Stmt := topS 5
abbrev s_cards_by : Stmt := topS 9
abbrev s_ties_by : Stmt := topS 10
abbrev s_card_of : Stmt := topS 11
abbrev s_may_go : Stmt := topS 13
abbrev s_behind_one : Stmt := topS 14
abbrev s_behind : Stmt := topS 15
abbrev s__law_box : Stmt := topS 17
abbrev s__law_take : Stmt := topS 18
abbrev s__law_cells : Stmt := topS 19
abbrev s__law_same : Stmt := topS 20
abbrev s__law_callings : Stmt := topS 21
abbrev s__law_round : Stmt := topS 22
abbrev s__law_links : Stmt := topS 23
abbrev s__law_beside : Stmt := topS 24
abbrev s__law_homely : Stmt := topS 25
abbrev s__law_card : Stmt := topS 26
abbrev s__law_walk_right : Stmt := topS 27
abbrev s__law_exchanged_right : Stmt := topS 28
abbrev s__law_right : Stmt := topS 29
abbrev s_law : Stmt := topS 30
abbrev s_MayNot___init__ : Stmt := inClass (topS 7) 0
def d_counted : He.DefD := ⟨("counted", none), "counted", "counted", defArgs s_counted, defBody s_counted, defScope s_counted, [], []⟩
def d_mirrored : He.DefD := ⟨("mirrored", none), "mirrored", "mirrored", defArgs s_mirrored, defBody s_mirrored, defScope s_mirrored, [], []⟩
def d_is_free : He.DefD := ⟨("is_free", none), "is_free", "is_free", defArgs s_is_free, defBody s_is_free, defScope s_is_free, [], []⟩
def d_cards_by : He.DefD := ⟨("cards_by", none), "cards_by", "cards_by", defArgs s_cards_by, defBody s_cards_by, defScope s_cards_by, [], []⟩
def d_ties_by : He.DefD := ⟨("ties_by", none), "ties_by", "ties_by", defArgs s_ties_by, defBody s_ties_by, defScope s_ties_by, [], []⟩
def d_card_of : He.DefD := ⟨("card_of", none), "card_of", "card_of", defArgs s_card_of, defBody s_card_of, defScope s_card_of, [], []⟩
def d_may_go : He.DefD := ⟨("may_go", none), "may_go", "may_go", defArgs s_may_go, defBody s_may_go, defScope s_may_go, [], []⟩
def d_behind_one : He.DefD := ⟨("behind_one", none), "behind_one", "behind_one", defArgs s_behind_one, defBody s_behind_one, defScope s_behind_one, [], []⟩
def d_behind : He.DefD := ⟨("behind", none), "behind", "behind", defArgs s_behind, defBody s_behind, defScope s_behind, [], []⟩
def d__law_box : He.DefD := ⟨("_law_box", none), "_law_box", "_law_box", defArgs s__law_box, defBody s__law_box, defScope s__law_box, [], []⟩
def d__law_take : He.DefD := ⟨("_law_take", none), "_law_take", "_law_take", defArgs s__law_take, defBody s__law_take, defScope s__law_take, [], []⟩
def d__law_cells : He.DefD := ⟨("_law_cells", none), "_law_cells", "_law_cells", defArgs s__law_cells, defBody s__law_cells, defScope s__law_cells, [], []⟩
def d__law_same : He.DefD := ⟨("_law_same", none), "_law_same", "_law_same", defArgs s__law_same, defBody s__law_same, defScope s__law_same, [], []⟩
def d__law_callings : He.DefD := ⟨("_law_callings", none), "_law_callings", "_law_callings", defArgs s__law_callings, defBody s__law_callings, defScope s__law_callings, [], []⟩
def d__law_round : He.DefD := ⟨("_law_round", none), "_law_round", "_law_round", defArgs s__law_round, defBody s__law_round, defScope s__law_round, [], []⟩
def d__law_links : He.DefD := ⟨("_law_links", none), "_law_links", "_law_links", defArgs s__law_links, defBody s__law_links, defScope s__law_links, [], []⟩
def d__law_beside : He.DefD := ⟨("_law_beside", none), "_law_beside", "_law_beside", defArgs s__law_beside, defBody s__law_beside, defScope s__law_beside, [], []⟩
def d__law_homely : He.DefD := ⟨("_law_homely", none), "_law_homely", "_law_homely", defArgs s__law_homely, defBody s__law_homely, defScope s__law_homely, [], []⟩
def d__law_card : He.DefD := ⟨("_law_card", none), "_law_card", "_law_card", defArgs s__law_card, defBody s__law_card, defScope s__law_card, [], []⟩
def d__law_walk_right : He.DefD := ⟨("_law_walk_right", none), "_law_walk_right", "_law_walk_right", defArgs s__law_walk_right, defBody s__law_walk_right, defScope s__law_walk_right, [], []⟩
def d__law_exchanged_right : He.DefD := ⟨("_law_exchanged_right", none), "_law_exchanged_right", "_law_exchanged_right", defArgs s__law_exchanged_right, defBody s__law_exchanged_right, defScope s__law_exchanged_right, [], []⟩
def d__law_right : He.DefD := ⟨("_law_right", none), "_law_right", "_law_right", defArgs s__law_right, defBody s__law_right, defScope s__law_right, [], []⟩
def d_law : He.DefD := ⟨("law", none), "law", "law", defArgs s_law, defBody s_law, defScope s_law, [], []⟩
def fn : List He.DefD := [d_counted, d_mirrored, d_is_free, d_cards_by, d_ties_by, d_card_of, d_may_go, d_behind_one, d_behind, d__law_box, d__law_take, d__law_cells, d__law_same, d__law_callings, d__law_round, d__law_links, d__law_beside, d__law_homely, d__law_card, d__law_walk_right, d__law_exchanged_right, d__law_right, d_law]
def fa : List He.Fa := [.glo "counted", .glo "mirrored", .glo "is_free", .glo "cards_by", .glo "ties_by", .glo "card_of", .glo "may_go", .glo "behind_one", .glo "behind", .glo "_law_box", .glo "_law_take", .glo "_law_cells", .glo "_law_same", .glo "_law_callings", .glo "_law_round", .glo "_law_links", .glo "_law_beside", .glo "_law_homely", .glo "_law_card", .glo "_law_walk_right", .glo "_law_exchanged_right", .glo "_law_right", .glo "law", .glo "MayNot", .int "DARK" 0, .int "LIGHT" 1, .free "ValueError", .free "enumerate", .free "isinstance", .free "range", .free "sorted", .free "dict", .free "all", .free "list", .free "tuple", .free "int", .free "len", .free "abs", .free "str", .free "bool", .free "min", .free "max", .free "zip"]
def loose : List Str := ["DARK", "LIGHT", "counted", "mirrored", "is_free", "MayNot", "cards_by", "ties_by", "card_of", "may_go", "behind_one", "behind", "_law_box", "_law_take", "_law_cells", "_law_same", "_law_callings", "_law_round", "_law_links", "_law_beside", "_law_homely", "_law_card", "_law_walk_right", "_law_exchanged_right", "_law_right"]
abbrev R : PySem.W.OpenRow := PySem.W.OpenLaw.row PySem.Challenge.rw_mirrorwood_k13_whole_cards_behind_rows
abbrev hk : PySem.W.Hook := He.hookD 5 fa fn
def ob (s : PySem.W.SharedT) : He.AlD := He.obsDG 5 fa fn (HandSHeadRun.getT s)
theorem ob_eq (s : PySem.W.SharedT) : ob s = hk.obs s.abs := He.obsDG_eq (HandSHeadRun.getT_eq s)
theorem run (w : World) : HandSHeadRun.RunEq R (PySem.W.view R.prog [30]) hk ob 3000 loose w := by
  intro os
  kernel_rfl
end K13


set_option Elab.async false
set_option linter.all false
set_option maxRecDepth 100000
set_option maxHeartbeats 1000000
set_option pp.deepTerms false
set_option pp.deepTerms.threshold 6
set_option pp.oneline false
set_option pp.proofs false
namespace K13
open PySem PySem.Spec PyProof.Rows L2 DL
set_option hygiene false
local macro_rules | `(tactic| walk_at "vw") => `(tactic| first
  | exact Vw.fz _
  | exact Vw.al rfl
  | exact Vw.ow _ rfl)
local macro_rules | `(tactic| walk_at "puts") => `(tactic| repeat (first | exact DL.Puts.nil | refine DL.Puts.cons rfl (by first | exact Or.inl rfl | exact Or.inr rfl) (by first | exact Or.inl rfl | exact Or.inr rfl) rfl ?_))
local macro_rules | `(tactic| walk_at "blk") => `(tactic| exact ⟨rfl, by decide +kernel, by decide +kernel, by decide +kernel, by decide +kernel⟩)
local macro_rules | `(tactic| walk_at "vis") => `(tactic| first
  | exact Or.inl rfl
  | exact Or.inr (Or.inl rfl)
  | exact Or.inr (Or.inr rfl))
local macro_rules | `(tactic| walk_at "side") => `(tactic| first
  | assumption
  | omega
  | (simp only [List.length_set, List.length_cons, List.length_nil]; omega)
  | exact fun j z => (nomatch z)
  | (refine Or.inl ⟨?_, ?_⟩ <;> omega)
  | (refine Or.inr ⟨?_, ?_⟩ <;> omega)
  | decide
  | ((with_reducible show _ = _); rfl))
local macro_rules | `(tactic| walk_at "var") => `(tactic| first
  | refine de_var (i := 0) rfl (by walk_at "vis") rfl ?_ | refine de_var_ow (i := 0) (by decide) rfl (by walk_at "vis") rfl ?_
  | refine de_var (i := 1) rfl (by walk_at "vis") rfl ?_ | refine de_var_ow (i := 1) (by decide) rfl (by walk_at "vis") rfl ?_
  | refine de_var (i := 2) rfl (by walk_at "vis") rfl ?_ | refine de_var_ow (i := 2) (by decide) rfl (by walk_at "vis") rfl ?_
  | refine de_var (i := 3) rfl (by walk_at "vis") rfl ?_ | refine de_var_ow (i := 3) (by decide) rfl (by walk_at "vis") rfl ?_
  | refine de_var (i := 4) rfl (by walk_at "vis") rfl ?_ | refine de_var_ow (i := 4) (by decide) rfl (by walk_at "vis") rfl ?_
  | refine de_var (i := 5) rfl (by walk_at "vis") rfl ?_ | refine de_var_ow (i := 5) (by decide) rfl (by walk_at "vis") rfl ?_
  | refine de_var (i := 6) rfl (by walk_at "vis") rfl ?_ | refine de_var_ow (i := 6) (by decide) rfl (by walk_at "vis") rfl ?_
  | refine de_var (i := 7) rfl (by walk_at "vis") rfl ?_ | refine de_var_ow (i := 7) (by decide) rfl (by walk_at "vis") rfl ?_
  | refine de_var (i := 8) rfl (by walk_at "vis") rfl ?_ | refine de_var_ow (i := 8) (by decide) rfl (by walk_at "vis") rfl ?_
  | refine de_var (i := 9) rfl (by walk_at "vis") rfl ?_ | refine de_var_ow (i := 9) (by decide) rfl (by walk_at "vis") rfl ?_
  | refine de_var (i := 10) rfl (by walk_at "vis") rfl ?_ | refine de_var_ow (i := 10) (by decide) rfl (by walk_at "vis") rfl ?_
  | refine de_var (i := 11) rfl (by walk_at "vis") rfl ?_ | refine de_var_ow (i := 11) (by decide) rfl (by walk_at "vis") rfl ?_
  | refine de_var (i := 12) rfl (by walk_at "vis") rfl ?_ | refine de_var_ow (i := 12) (by decide) rfl (by walk_at "vis") rfl ?_
  | refine de_var (i := 13) rfl (by walk_at "vis") rfl ?_ | refine de_var_ow (i := 13) (by decide) rfl (by walk_at "vis") rfl ?_
  | refine de_var (i := 14) rfl (by walk_at "vis") rfl ?_ | refine de_var_ow (i := 14) (by decide) rfl (by walk_at "vis") rfl ?_
  | refine de_var (i := 15) rfl (by walk_at "vis") rfl ?_ | refine de_var_ow (i := 15) (by decide) rfl (by walk_at "vis") rfl ?_
  | refine de_var (i := 16) rfl (by walk_at "vis") rfl ?_ | refine de_var_ow (i := 16) (by decide) rfl (by walk_at "vis") rfl ?_)
local macro_rules | `(tactic| walk_at "const") => `(tactic| first
  | with_reducible refine de_int ?_
  | with_reducible refine de_str ?_
  | with_reducible refine de_bl ?_
  | with_reducible refine de_non ?_)
local macro_rules | `(tactic| walk_at "e1") => `(tactic| first
  | (with_reducible show DE _ _ (Expr.Name _ _) _ _); walk_at "var"
  | (with_reducible show DE _ _ (Expr.Constant _ _ _) _ _); walk_at "const"
  | (with_reducible show DE _ _ (Expr.Call (Expr.Name _ _) _ [] _) _ _); walk_at "bi"
  | with_reducible refine de_add ?_
  | with_reducible refine de_sub ?_
  | with_reducible refine de_mul ?_
  | with_reducible refine de_mod ?_
  | with_reducible refine de_div ?_
  | with_reducible refine de_pow ?_
  | with_reducible refine de_neg ?_
  | with_reducible refine de_tuple ?_
  | with_reducible refine de_list ?_
  | with_reducible refine de_ifExp ?_
  | with_reducible refine de_not ?_
  | with_reducible refine de_bool1 ?_
  | with_reducible refine de_and ?_
  | with_reducible refine de_or ?_
  | with_reducible refine de_revL ?_
  | with_reducible refine de_slice ?_
  | (with_reducible show DE _ _ (Expr.Subscript _ _ _) _ _); refine de_ix hu1 (fun _ _ => rfl) ?_
  | (with_reducible show DE _ _ (Expr.Compare _ [CmpOp.Is] _ _) _ _); refine de_isN ?_
  | (with_reducible show DE _ _ (Expr.Compare _ [CmpOp.Eq] _ _) _ _); refine de_cmp (op_eqAll hu) (nobehind _ (by decide) (by decide)) ?_
  | (with_reducible show DE _ _ (Expr.Compare _ [CmpOp.NotEq] _ _) _ _); refine de_cmp (op_neAll hu) (nobehind _ (by decide) (by decide)) ?_
  | (with_reducible show DE _ _ (Expr.Compare _ [CmpOp.Lt] _ _) _ _); refine de_cmp op_ltAll (nobehind _ (by decide) (by decide)) ?_
  | (with_reducible show DE _ _ (Expr.Compare _ [CmpOp.LtE] _ _) _ _); refine de_cmp op_leAll (nobehind _ (by decide) (by decide)) ?_
  | (with_reducible show DE _ _ (Expr.Compare _ [CmpOp.Gt] _ _) _ _); refine de_cmp op_gtAll (nobehind _ (by decide) (by decide)) ?_
  | (with_reducible show DE _ _ (Expr.Compare _ [CmpOp.GtE] _ _) _ _); refine de_cmp op_geAll (nobehind _ (by decide) (by decide)) ?_
  | (with_reducible show DE _ _ (Expr.Compare _ [CmpOp.In] _ _) _ _); refine de_cmp (op_inAll hu1) rfl ?_
  | (with_reducible show DE _ _ (Expr.Compare _ [CmpOp.NotIn] _ _) _ _); refine de_cmp (op_notInAll hu1) rfl ?_
  | (with_reducible show DE _ _ (Expr.Call (Expr.Attribute _ "append" _) [_] _ _) _ _); refine de_append ?_
  | (with_reducible show DE _ _ (Expr.Call (Expr.Attribute _ "pop" _) [_] _ _) _ _); refine de_popAt ?_
  | (with_reducible show DE _ _ (Expr.Call (Expr.Attribute _ "join" _) [_] _ _) _ _); refine de_join ?_)
local macro_rules | `(tactic| walk_at "bi") => `(tactic| first
  | (with_reducible show DE _ _ (Expr.Call (Expr.Name "isinstance" _) [_, Expr.Name "list" _] [] _) _ _); refine de_isi1 rfl n_isinstance rfl n_list boot_list ?_
  | (with_reducible show DE _ _ (Expr.Call (Expr.Name "isinstance" _) [_, Expr.Name "tuple" _] [] _) _ _); refine de_isi1 rfl n_isinstance rfl n_tuple boot_tuple ?_
  | (with_reducible show DE _ _ (Expr.Call (Expr.Name "isinstance" _) [_, Expr.Name "str" _] [] _) _ _); refine de_isi1 rfl n_isinstance rfl n_str boot_str ?_
  | (with_reducible show DE _ _ (Expr.Call (Expr.Name "isinstance" _) [_, Expr.Name "bool" _] [] _) _ _); refine de_isi1 rfl n_isinstance rfl n_bool boot_bool ?_
  | (with_reducible show DE _ _ (Expr.Call (Expr.Name "isinstance" _) [_, Expr.Name "int" _] [] _) _ _); refine de_isi1 rfl n_isinstance rfl n_int boot_int ?_
  | (with_reducible show DE _ _ (Expr.Call (Expr.Name "isinstance" _) [_, Expr.Tuple [Expr.Name "list" _, Expr.Name "tuple" _] _ _] [] _) _ _); refine de_isi2 rfl n_isinstance rfl n_list boot_list rfl n_tuple boot_tuple ?_
  | (with_reducible show DE _ _ (Expr.Call (Expr.Name "isinstance" _) [_, Expr.Tuple [Expr.Name "str" _, Expr.Name "bool" _] _ _] [] _) _ _); refine de_isi2 rfl n_isinstance rfl n_str boot_str rfl n_bool boot_bool ?_
  | (with_reducible show DE _ _ (Expr.Call (Expr.Name "len" _) _ [] _) _ _); refine de_callB call_lenA rfl n_len boot_len ?_
  | (with_reducible show DE _ _ (Expr.Call (Expr.Name "abs" _) _ [] _) _ _); refine de_callB call_abs rfl n_abs boot_abs ?_
  | (with_reducible show DE _ _ (Expr.Call (Expr.Name "int" _) _ [] _) _ _); refine de_callTy call_int1 rfl n_int boot_int ?_
  | (with_reducible show DE _ _ (Expr.Call (Expr.Name "list" _) _ [] _) _ _); refine de_callTy call_list_of rfl n_list boot_list ?_
  | (with_reducible show DE _ _ (Expr.Call (Expr.Name "tuple" _) _ [] _) _ _); refine de_callTy call_tuple_of rfl n_tuple boot_tuple ?_
  | (with_reducible show DE _ _ (Expr.Call (Expr.Name "sorted" _) _ [] _) _ _); refine de_callB (cr_sortD hu) rfl n_sorted boot_sorted ?_
  | (with_reducible show DE _ _ (Expr.Call (Expr.Name "sum" _) _ [] _) _ _); refine de_callB (cr_sum rfl) rfl n_sum boot_sum ?_
  | (with_reducible show DE _ _ (Expr.Call (Expr.Name "all" _) _ [] _) _ _); refine de_callB (cr_all rfl) rfl n_all boot_all ?_
  | (with_reducible show DE _ _ (Expr.Call (Expr.Name "any" _) _ [] _) _ _); refine de_callB (cr_any rfl) rfl n_any boot_any ?_
  | (with_reducible show DE _ _ (Expr.Call (Expr.Name "min" _) _ [] _) _ _); refine de_callB (call_minA rfl) rfl n_min boot_min ?_
  | (with_reducible show DE _ _ (Expr.Call (Expr.Name "max" _) _ [] _) _ _); refine de_callB (call_maxA rfl) rfl n_max boot_max ?_
  | (with_reducible show DE _ _ (Expr.Call (Expr.Name "dict" _) _ [] _) _ _); refine de_callTy (call_dictP rfl) rfl n_dict boot_dict ?_)
local macro_rules | `(tactic| walk_at "oa") => `(tactic| first
  | refine len_c (by walk_at "vw") (by first | exact Ln.lst _ | exact Ln.tup _ | exact Ln.dk _) ?_
  | refine abs_c (.fz _) ?_
  | refine int_b (.fz _) ?_
  | refine int_i (.fz _) ?_
  | refine list_t (.fz _) ?_
  | refine list_l (by walk_at "vw") ?_
  | refine tuple_t (.fz _) ?_
  | refine tuple_l (by walk_at "vw") ?_
  | refine mm_str (.fz _) (.fz _) ?_
  | refine mm_int (.fz _) (.fz _) ?_)
local macro_rules | `(tactic| walk_at "t1") => `(tactic| first
  | (with_reducible show DT _ _ (Expr.Compare _ [CmpOp.Is] _ _) _ _); refine dt_isN ?_
  | (with_reducible show DT _ _ (Expr.Compare _ [CmpOp.Eq] _ _) _ _); refine dt_cmp (op_eqAll hu) (nobehind _ (by decide) (by decide)) ?_
  | (with_reducible show DT _ _ (Expr.Compare _ [CmpOp.NotEq] _ _) _ _); refine dt_cmp (op_neAll hu) (nobehind _ (by decide) (by decide)) ?_
  | (with_reducible show DT _ _ (Expr.Compare _ [CmpOp.Lt] _ _) _ _); refine dt_cmp op_ltAll (nobehind _ (by decide) (by decide)) ?_
  | (with_reducible show DT _ _ (Expr.Compare _ [CmpOp.LtE] _ _) _ _); refine dt_cmp op_leAll (nobehind _ (by decide) (by decide)) ?_
  | (with_reducible show DT _ _ (Expr.Compare _ [CmpOp.Gt] _ _) _ _); refine dt_cmp op_gtAll (nobehind _ (by decide) (by decide)) ?_
  | (with_reducible show DT _ _ (Expr.Compare _ [CmpOp.GtE] _ _) _ _); refine dt_cmp op_geAll (nobehind _ (by decide) (by decide)) ?_
  | (with_reducible show DT _ _ (Expr.Compare _ [CmpOp.In] _ _) _ _); refine dt_cmp (op_inAll hu1) rfl ?_
  | (with_reducible show DT _ _ (Expr.Compare _ [CmpOp.NotIn] _ _) _ _); refine dt_cmp (op_notInAll hu1) rfl ?_
  | with_reducible refine dt_not ?_
  | with_reducible refine dt_bool ?_
  | (with_reducible show DT _ _ (Expr.Call _ _ _ _) _ _); refine dt_val ?_)
local macro_rules | `(tactic| walk_at "w1") => `(tactic| first
  | with_reducible refine dw_and1 ?_
  | with_reducible refine dw_or1 ?_
  | with_reducible refine dw_and ?_
  | with_reducible refine dw_or ?_)
local macro_rules | `(tactic| walk_at "a1") => `(tactic| first
  | with_reducible refine da_nil ?_
  | refine da_cons ?_)
local macro_rules | `(tactic| walk_at "o2") => `(tactic| first
  | (with_reducible show Op2 _ _ (rAddAll _) _ _ _ _); first | refine add_int (.fz _) (.fz _) ?_ | refine add_str (.fz _) (.fz _) (by walk_at "side") ?_ | refine add_tup (.fz _) (.fz _) (by walk_at "side") ?_ | refine add_lst (by walk_at "vw") (by walk_at "vw") (by walk_at "side") ?_
  | (with_reducible show Op2 _ _ (rIxAll _) _ _ _ _); first | refine ix_tpl (.fz _) (.fz _) rfl ?_ | refine ix_lst (by walk_at "vw") (.fz _) rfl ?_ | refine ix_tpl (.fz _) (.fz _) (by assumption) ?_ | refine ix_lst (by walk_at "vw") (.fz _) (by assumption) ?_ | refine ix_dk (by walk_at "vw") (.fz _) (k := .inr _) rfl (by assumption) ?_
  | (with_reducible show Op2 _ _ (rEqAll _) _ _ _ _); first | refine eq_int (.fz _) (.fz _) ?_ | refine eq_str (.fz _) (.fz _) ?_ | refine eq_bl (.fz _) (.fz _) ?_
  | (with_reducible show Op2 _ _ (rNeAll _) _ _ _ _); first | refine ne_int (.fz _) (.fz _) ?_ | refine ne_str (.fz _) (.fz _) ?_ | refine ne_bl (.fz _) (.fz _) ?_
  | refine op_ib0 (.fz _) (.fz _) ?_
  | refine lt_int (.fz _) (.fz _) ?_
  | refine lt_str (.fz _) (.fz _) ?_
  | refine in_dk (by walk_at "vw") (by walk_at "vw") rfl ?_)
local macro_rules | `(tactic| walk_at "o1") => `(tactic| first
  | refine cut_t (.fz _) ?_
  | refine cut_l (by walk_at "vw") ?_)
local macro_rules | `(tactic| walk_at "x1") => `(tactic| first
  | refine ⟨_, _, .fz _, rfl, kb_list rfl, ?_⟩
  | refine ⟨_, _, .fz _, rfl, kb_tuple rfl, ?_⟩
  | refine ⟨_, _, .fz _, rfl, kb_str rfl, ?_⟩
  | refine ⟨_, _, .fz _, rfl, kb_bool rfl, ?_⟩
  | refine ⟨_, _, .fz _, rfl, kb_int rfl, ?_⟩
  | refine ⟨_, _, _, .fz _, rfl, kb_list rfl, kb_tuple rfl, ?_⟩
  | refine ⟨_, _, _, .fz _, rfl, kb_str rfl, kb_bool rfl, ?_⟩
  | refine ⟨_, _, _, rfl, rfl, Put.lst rfl, ?_⟩
  | refine ⟨_, _, .fz _, .fz _, ?_⟩
  | refine ⟨_, .fz _, ?_⟩
  | refine ⟨_, rfl, ?_⟩
  | refine ⟨_, (.cons (.cons (.cons .nil))), ?_⟩
  | refine ⟨_, (.cons (.cons .nil)), ?_⟩
  | refine ⟨_, (.cons .nil), ?_⟩
  | refine ⟨_, (.cons (.cons (.cons (.cons .nil)))), ?_⟩
  | refine ⟨_, .nil, ?_⟩
  | refine ⟨_, (.cons (.cons (.cons (.cons (.cons .nil))))), ?_⟩
  | refine ⟨_, (.cons (.cons (.cons (.cons (.cons (.cons .nil)))))), ?_⟩
  | refine ⟨_, (.cons (.cons (.cons (.cons (.cons (.cons (.cons .nil))))))), ?_⟩
  | refine ⟨_, _, rfl, rfl, ?_⟩)
local macro_rules | `(tactic| walk_at "set") => `(tactic| first
  | refine ds_set (i := 0) nd rfl (by first | exact Or.inl rfl | exact Or.inr rfl) (by decide) ?_
  | refine ds_set (i := 1) nd rfl (by first | exact Or.inl rfl | exact Or.inr rfl) (by decide) ?_
  | refine ds_set (i := 2) nd rfl (by first | exact Or.inl rfl | exact Or.inr rfl) (by decide) ?_
  | refine ds_set (i := 3) nd rfl (by first | exact Or.inl rfl | exact Or.inr rfl) (by decide) ?_
  | refine ds_set (i := 4) nd rfl (by first | exact Or.inl rfl | exact Or.inr rfl) (by decide) ?_
  | refine ds_set (i := 5) nd rfl (by first | exact Or.inl rfl | exact Or.inr rfl) (by decide) ?_
  | refine ds_set (i := 6) nd rfl (by first | exact Or.inl rfl | exact Or.inr rfl) (by decide) ?_
  | refine ds_set (i := 7) nd rfl (by first | exact Or.inl rfl | exact Or.inr rfl) (by decide) ?_
  | refine ds_set (i := 8) nd rfl (by first | exact Or.inl rfl | exact Or.inr rfl) (by decide) ?_
  | refine ds_set (i := 9) nd rfl (by first | exact Or.inl rfl | exact Or.inr rfl) (by decide) ?_
  | refine ds_set (i := 10) nd rfl (by first | exact Or.inl rfl | exact Or.inr rfl) (by decide) ?_
  | refine ds_set (i := 11) nd rfl (by first | exact Or.inl rfl | exact Or.inr rfl) (by decide) ?_
  | refine ds_set (i := 12) nd rfl (by first | exact Or.inl rfl | exact Or.inr rfl) (by decide) ?_
  | refine ds_set (i := 13) nd rfl (by first | exact Or.inl rfl | exact Or.inr rfl) (by decide) ?_
  | refine ds_set (i := 14) nd rfl (by first | exact Or.inl rfl | exact Or.inr rfl) (by decide) ?_
  | refine ds_set (i := 15) nd rfl (by first | exact Or.inl rfl | exact Or.inr rfl) (by decide) ?_
  | refine ds_set (i := 16) nd rfl (by first | exact Or.inl rfl | exact Or.inr rfl) (by decide) ?_)
local macro_rules | `(tactic| walk_at "s1") => `(tactic| first
  | (with_reducible show DS _ _ (Stmt.Assign [Expr.Name _ _] _ _) _ _); walk_at "set"
  | with_reducible refine ds_ret ?_
  | with_reducible refine ds_if ?_
  | refine ds_store hu1 ?_
  | (with_reducible show DS _ _ (Stmt.Expr _ _) _ _); refine ds_expr ?_)
local macro_rules | `(tactic| walk_at "ss1") => `(tactic| first
  | refine dss_cons ?_
  | refine dss_nil ?_)
local macro_rules | `(tactic| walk_at "d1") => `(tactic| first
  | (with_reducible show DE _ _ _ _ _); walk_at "e1"
  | (with_reducible show Op2 _ _ _ _ _ _ _); walk_at "o2"
  | (with_reducible show DA _ _ _ _ _); walk_at "a1"
  | (with_reducible show DT _ _ _ _ _); walk_at "t1"
  | (with_reducible show DTs _ _ _ _ _); first | with_reducible refine dts_one ?_ | with_reducible refine dts_nil ?_
  | (with_reducible show DO _ _ _ _ _); first | with_reducible refine do_none ?_ | with_reducible refine do_some ?_
  | (with_reducible show DW _ _ _ _ _); walk_at "w1"
  | (with_reducible show DSs _ _ _ _ _); walk_at "ss1"
  | (with_reducible show DS _ _ _ _ _); walk_at "s1"
  | (with_reducible show Op1 _ _ _ _ _ _); walk_at "o1"
  | (with_reducible show OpA _ _ _ _ _ _); walk_at "oa"
  | (with_reducible show ∃ _, _); walk_at "x1"
  | (with_reducible show DEnds.nx _ _); dsimp only
  | (with_reducible show if _ = true then _ else _); first | refine if_t rfl ?_ | refine if_f rfl ?_
  | (with_reducible show DEnds.rt _ _ _); dsimp only
  | (with_reducible show _ ∧ _); refine ⟨(by walk_at "side"), ?_⟩)
local macro_rules | `(tactic| walk_at "d") => `(tactic| repeat walk_at "d1")
/-! ### promises -/
def fS {α : Type} (arg : α → List Cell) (pre : α → Prop) (res : α → Cell) : FSp := fun cs Post => ∃ a, cs = arg a ∧ pre a ∧ ∀ e, Post (res a) e
theorem fS_mono {α : Type} {arg : α → List Cell} {pre : α → Prop} {res : α → Cell} : Mono (fS arg pre res) := fun _ _ _ h ⟨a, e, p, q⟩ => ⟨a, e, p, fun e => h _ _ (q e)⟩
def fN {α β : Type} (arg : α → List Cell) (pre : α → Prop) (res : α → β → Prop) (out : β → Cell) : FSp := fun cs Post => ∃ a, cs = arg a ∧ pre a ∧ ∀ b, res a b → ∀ e, Post (out b) e
theorem fN_mono {α β : Type} {arg : α → List Cell} {pre : α → Prop} {res : α → β → Prop} {out : β → Cell} : Mono (fN arg pre res out) := fun _ _ _ h ⟨a, e, p, q⟩ => ⟨a, e, p, fun b r e => h _ _ (q b r e)⟩
structure Box where
  a : Int
  s : Int
  c : Int
def boxD (x : Box) : D := .lst [.int x.a, .int x.s, .int x.c]
def fB {α β : Type} (arg : α → List Cell) (pre : α → Prop) (res : α → β → Prop) (out : β → Cell) : FSp := fun cs Post => ∃ x a, cs = .ow (boxD x) :: arg a ∧ pre a ∧ ∀ b, res a b → ∀ x' e, e[0]? = some (.ow (boxD x')) → Post (out b) e
theorem fB_mono {α β : Type} {arg : α → List Cell} {pre : α → Prop} {res : α → β → Prop} {out : β → Cell} : Mono (fB arg pre res out) := fun _ _ _ h ⟨x, a, e, p, q⟩ => ⟨x, a, e, p, fun b r x' e z => h _ _ (q b r x' e z)⟩
theorem ite_b {t : Bool} {A B : Prop} (h1 : t = true → A) (h2 : t = false → B) : if t = true then A else B := by
  cases t with
  | true => rw [if_pos rfl]; exact h1 rfl
  | false => rw [if_neg Bool.false_ne_true]; exact h2 rfl
theorem dts_one {X : Cx} {js : List Nat} {m : Nat} {b : Base js m} {env : List Cell} {c : Expr} {Q : Bool → List Cell → Prop} (h : DT X b c env Q) : DTs X b [c] env Q := h
theorem dts_nil {X : Cx} {js : List Nat} {m : Nat} {b : Base js m} {env : List Cell} {Q : Bool → List Cell → Prop} (h : Q true env) : DTs X b [] env Q := h
theorem fz_eq {Post : Cell → List Cell → Prop} {d d' : D} {e : List Cell} (q : Post (.fz d) e) (h : d = d') : Post (.fz d') e := h ▸ q
abbrev FnP (K : PySem.W.Frag) (x : Str) (st : Stmt) (f : Addr) (fd : FuncData) : Prop := FunD K x x (defArgs st) (defBody st) (defScope st) [] [] f fd
section
variable {P : Program} {w : World} {K : PySem.W.Frag} {mg : Str → Option Value} {base : Heap} {f : Addr} {fd : FuncData}
/-! counted -/
def counted (w n : Int) : Int := if w = 0 then n else n % w
abbrev N_counted : List Str := ["wheel", "number"]
theorem nd_counted : N_counted.Nodup := by decide +kernel
theorem sc_counted : FnScope N_counted ["wheel", "number"] (defScope s_counted) := ⟨rfl, rfl, rfl, nd_counted, rfl, by decide +kernel, by decide +kernel⟩
def S_counted : FSp := fS (fun a : Int × Int => [.fz (.int a.1), .fz (.int a.2)]) (fun a => 0 ≤ a.1) (fun a => .fz (.int (counted a.1 a.2)))
theorem ok_counted (F : FnP K "counted" s_counted f fd) : FnOk P w K mg base CX0 1 f fd ["wheel", "number"] (spOf K [] 2 S_counted) := by
  refine fn_ok (S := S_counted) 2 (by decide) (by decide) F sc_counted fun cdv A outer s H E b cs Post hr hcl hS => ?_
  obtain ⟨⟨wh, n⟩, rfl, hw, q⟩ := hS
  have hu : (A.deeper (envOfC "counted" (defScope s_counted) s.heap.objs.size f cdv)).units + 64 < cLine := hr.units
  have hu1 : (A.deeper (envOfC "counted" (defScope s_counted) s.heap.objs.size f cdv)).units + 1 < cLine := by omega
  walk_at "d"
  refine ite_b (fun ht => ?_) (fun ht => ?_)
  · walk_at "d"
    have e : n = counted wh n := by unfold counted; rw [if_pos (of_decide_eq_true ht)]
    exact fz_eq (q _) (by rw [← e])
  · have hne : ¬ wh = 0 := of_decide_eq_false ht
    have hw' : (0:Int) < wh := by have : 0 ≤ wh := hw; omega
    have e : counted wh n = n % wh := by unfold counted; rw [if_neg hne]
    walk_at "d"
    exact fz_eq (q _) (by rw [← e])
/-! _law_round -/
abbrev N__law_round : List Str := ["_law_size", "_law_amount"]
theorem nd__law_round : N__law_round.Nodup := by decide +kernel
theorem sc__law_round : FnScope N__law_round ["_law_size", "_law_amount"] (defScope s__law_round) := ⟨rfl, rfl, rfl, nd__law_round, rfl, by decide +kernel, by decide +kernel⟩
theorem ok__law_round (F : FnP K "_law_round" s__law_round f fd) : FnOk P w K mg base CX0 1 f fd ["_law_size", "_law_amount"] (spOf K [] 2 S_counted) := by
  refine fn_ok (S := S_counted) 2 (by decide) (by decide) F sc__law_round fun cdv A outer s H E b cs Post hr hcl hS => ?_
  obtain ⟨⟨wh, n⟩, rfl, hw, q⟩ := hS
  have hu : (A.deeper (envOfC "_law_round" (defScope s__law_round) s.heap.objs.size f cdv)).units + 64 < cLine := hr.units
  have hu1 : (A.deeper (envOfC "_law_round" (defScope s__law_round) s.heap.objs.size f cdv)).units + 1 < cLine := by omega
  walk_at "d"
  refine ite_b (fun ht => ?_) (fun ht => ?_)
  · walk_at "d"
    have e : n = counted wh n := by unfold counted; rw [if_pos (of_decide_eq_true ht)]
    exact fz_eq (q _) (by rw [← e])
  · have hne : ¬ wh = 0 := of_decide_eq_false ht
    have hw' : (0:Int) < wh := by have : 0 ≤ wh := hw; omega
    have e : counted wh n = n % wh := by unfold counted; rw [if_neg hne]
    walk_at "d"
    exact fz_eq (q _) (by rw [← e])
/-! _law_take -/
abbrev N__law_take : List Str := ["_law_box_here", "_law_amount", "_law_found", "_law_blend"]
theorem nd__law_take : N__law_take.Nodup := by decide +kernel
theorem sc__law_take : FnScope N__law_take ["_law_box_here", "_law_amount"] (defScope s__law_take) := ⟨rfl, rfl, rfl, nd__law_take, rfl, by decide +kernel, by decide +kernel⟩
def S__law_take : FSp := fB (fun n : Int => [.fz (.int n)]) (fun n => 0 < n ∧ n < 1073741824) (fun n r : Int => 0 ≤ r ∧ r < n) (fun r => .fz (.int r))
theorem ok__law_take (F : FnP K "_law_take" s__law_take f fd) : FnOk P w K mg base CX0 1 f fd ["_law_box_here", "_law_amount"] (spOf K [0] 2 S__law_take) := by
  refine fn_ok (S := S__law_take) 4 (by decide) (by decide) F sc__law_take fun cdv A outer s H E b cs Post hr hcl hS => ?_
  obtain ⟨⟨x, y, z⟩, n, rfl, ⟨h0, h1⟩, q⟩ := hS
  have hu : (A.deeper (envOfC "_law_take" (defScope s__law_take) s.heap.objs.size f cdv)).units + 64 < cLine := hr.units
  have hu1 : (A.deeper (envOfC "_law_take" (defScope s__law_take) s.heap.objs.size f cdv)).units + 1 < cLine := by omega
  have nd := nd__law_take
  change DSs _ b _ [.ow (.lst [.int x, .int y, .int z]), .fz (.int n), .no, .no] _
  have hne : n ≠ 0 := by omega
  walk_at "d"
  refine ite_b (fun ht => ?_) (fun ht => ?_)
  · walk_at "d"
    exact q _ ⟨Int.emod_nonneg _ hne, Int.emod_lt_of_pos _ h0⟩ ⟨_, _, _⟩ _ rfl
  · walk_at "d"
    exact q _ ⟨Int.emod_nonneg _ hne, Int.emod_lt_of_pos _ h0⟩ ⟨_, _, _⟩ _ rfl
/-! _law_box -/
abbrev N__law_box : List Str := ["_law_cells_here", "_law_k", "_law_cell"]
theorem nd__law_box : N__law_box.Nodup := by decide +kernel
theorem sc__law_box : FnScope N__law_box ["_law_cells_here", "_law_k"] (defScope s__law_box) := ⟨rfl, rfl, rfl, nd__law_box, rfl, by decide +kernel, by decide +kernel⟩
def S__law_box : FSp := fN (fun a : List Int × Nat => [.fz (.lst (a.1.map .int)), .fz (.int (a.2 : Nat))]) (fun a => a.2 < a.1.length) (fun _ (_ : Box) => True) (fun x => .ow (boxD x))
theorem atI_map {α β : Type} (g : α → β) {xs : List α} {k : Nat} (h : k < xs.length) : atI (xs.map g) (k : Nat) = some (g xs[k]) := by
  have hk : (k : Int) < ((xs.map g).length : Nat) := by rw [List.length_map]; omega
  unfold atI ixN
  rw [if_pos (by omega), if_pos hk]
  simp [List.getElem?_map, List.getElem?_eq_getElem h]
theorem ok__law_box (n_abs : mg "abs" = none) (n_int : mg "int" = none) (F : FnP K "_law_box" s__law_box f fd) : FnOk P w K mg base CX0 1 f fd ["_law_cells_here", "_law_k"] (spOf K [] 2 S__law_box) := by
  refine fn_ok (S := S__law_box) 3 (by decide) (by decide) F sc__law_box fun cdv A outer s H E b cs Post hr hcl hS => ?_
  obtain ⟨⟨ns, k⟩, rfl, hk, q⟩ := hS
  have hu : (A.deeper (envOfC "_law_box" (defScope s__law_box) s.heap.objs.size f cdv)).units + 64 < cLine := hr.units
  have hu1 : (A.deeper (envOfC "_law_box" (defScope s__law_box) s.heap.objs.size f cdv)).units + 1 < cLine := by omega
  have nd := nd__law_box
  change DSs _ b _ [.fz (.lst (ns.map .int)), .fz (.int (k : Nat)), .no] _
  walk_at "d"
  refine ix_lst (.fz _) (.fz _) (atI_map D.int hk) ?_
  walk_at "d"
  exact q ⟨_, _, _⟩ trivial _
end
end K13



set_option Elab.async false
set_option linter.all false
set_option maxRecDepth 100000
set_option maxHeartbeats 1000000
set_option pp.deepTerms false
set_option pp.deepTerms.threshold 6
set_option pp.oneline false
set_option pp.proofs false
namespace K13
open PySem PySem.Spec PyProof.Rows L2 DL
set_option hygiene false
local macro_rules | `(tactic| walk_at "vw") => `(tactic| first
  | exact Vw.fz _
  | exact Vw.al rfl
  | exact Vw.ow _ rfl)
local macro_rules | `(tactic| walk_at "puts") => `(tactic| repeat (first | exact DL.Puts.nil | refine DL.Puts.cons rfl (by first | exact Or.inl rfl | exact Or.inr rfl) (by first | exact Or.inl rfl | exact Or.inr rfl) rfl ?_))
local macro_rules | `(tactic| walk_at "blk") => `(tactic| exact ⟨rfl, by decide +kernel, by decide +kernel, by decide +kernel, by decide +kernel⟩)
local macro_rules | `(tactic| walk_at "vis") => `(tactic| first
  | exact Or.inl rfl
  | exact Or.inr (Or.inl rfl)
  | exact Or.inr (Or.inr rfl))
local macro_rules | `(tactic| walk_at "side") => `(tactic| first
  | assumption
  | omega
  | (simp only [List.length_set, List.length_cons, List.length_nil]; omega)
  | exact fun j z => (nomatch z)
  | (refine Or.inl ⟨?_, ?_⟩ <;> omega)
  | (refine Or.inr ⟨?_, ?_⟩ <;> omega)
  | decide
  | ((with_reducible show _ = _); rfl))
local macro_rules | `(tactic| walk_at "var") => `(tactic| first
  | refine de_var (i := 0) rfl (by walk_at "vis") rfl ?_ | refine de_var_ow (i := 0) (by decide) rfl (by walk_at "vis") rfl ?_
  | refine de_var (i := 1) rfl (by walk_at "vis") rfl ?_ | refine de_var_ow (i := 1) (by decide) rfl (by walk_at "vis") rfl ?_
  | refine de_var (i := 2) rfl (by walk_at "vis") rfl ?_ | refine de_var_ow (i := 2) (by decide) rfl (by walk_at "vis") rfl ?_
  | refine de_var (i := 3) rfl (by walk_at "vis") rfl ?_ | refine de_var_ow (i := 3) (by decide) rfl (by walk_at "vis") rfl ?_
  | refine de_var (i := 4) rfl (by walk_at "vis") rfl ?_ | refine de_var_ow (i := 4) (by decide) rfl (by walk_at "vis") rfl ?_
  | refine de_var (i := 5) rfl (by walk_at "vis") rfl ?_ | refine de_var_ow (i := 5) (by decide) rfl (by walk_at "vis") rfl ?_
  | refine de_var (i := 6) rfl (by walk_at "vis") rfl ?_ | refine de_var_ow (i := 6) (by decide) rfl (by walk_at "vis") rfl ?_
  | refine de_var (i := 7) rfl (by walk_at "vis") rfl ?_ | refine de_var_ow (i := 7) (by decide) rfl (by walk_at "vis") rfl ?_
  | refine de_var (i := 8) rfl (by walk_at "vis") rfl ?_ | refine de_var_ow (i := 8) (by decide) rfl (by walk_at "vis") rfl ?_
  | refine de_var (i := 9) rfl (by walk_at "vis") rfl ?_ | refine de_var_ow (i := 9) (by decide) rfl (by walk_at "vis") rfl ?_
  | refine de_var (i := 10) rfl (by walk_at "vis") rfl ?_ | refine de_var_ow (i := 10) (by decide) rfl (by walk_at "vis") rfl ?_
  | refine de_var (i := 11) rfl (by walk_at "vis") rfl ?_ | refine de_var_ow (i := 11) (by decide) rfl (by walk_at "vis") rfl ?_
  | refine de_var (i := 12) rfl (by walk_at "vis") rfl ?_ | refine de_var_ow (i := 12) (by decide) rfl (by walk_at "vis") rfl ?_
  | refine de_var (i := 13) rfl (by walk_at "vis") rfl ?_ | refine de_var_ow (i := 13) (by decide) rfl (by walk_at "vis") rfl ?_
  | refine de_var (i := 14) rfl (by walk_at "vis") rfl ?_ | refine de_var_ow (i := 14) (by decide) rfl (by walk_at "vis") rfl ?_
  | refine de_var (i := 15) rfl (by walk_at "vis") rfl ?_ | refine de_var_ow (i := 15) (by decide) rfl (by walk_at "vis") rfl ?_
  | refine de_var (i := 16) rfl (by walk_at "vis") rfl ?_ | refine de_var_ow (i := 16) (by decide) rfl (by walk_at "vis") rfl ?_)
local macro_rules | `(tactic| walk_at "const") => `(tactic| first
  | with_reducible refine de_int ?_
  | with_reducible refine de_str ?_
  | with_reducible refine de_bl ?_
  | with_reducible refine de_non ?_)
local macro_rules | `(tactic| walk_at "e1") => `(tactic| first
  | (with_reducible show DE _ _ (Expr.Name _ _) _ _); walk_at "var"
  | (with_reducible show DE _ _ (Expr.Constant _ _ _) _ _); walk_at "const"
  | (with_reducible show DE _ _ (Expr.Call (Expr.Name _ _) _ [] _) _ _); walk_at "bi"
  | with_reducible refine de_add ?_
  | with_reducible refine de_sub ?_
  | with_reducible refine de_mul ?_
  | with_reducible refine de_mod ?_
  | with_reducible refine de_div ?_
  | with_reducible refine de_pow ?_
  | with_reducible refine de_neg ?_
  | with_reducible refine de_tuple ?_
  | with_reducible refine de_list ?_
  | with_reducible refine de_ifExp ?_
  | with_reducible refine de_not ?_
  | with_reducible refine de_bool1 ?_
  | with_reducible refine de_and ?_
  | with_reducible refine de_or ?_
  | with_reducible refine de_revL ?_
  | with_reducible refine de_slice ?_
  | (with_reducible show DE _ _ (Expr.Subscript _ _ _) _ _); refine de_ix hu1 (fun _ _ => rfl) ?_
  | (with_reducible show DE _ _ (Expr.Compare _ [CmpOp.Is] _ _) _ _); refine de_isN ?_
  | (with_reducible show DE _ _ (Expr.Compare _ [CmpOp.Eq] _ _) _ _); refine de_cmp (op_eqAll hu) (nobehind _ (by decide) (by decide)) ?_
  | (with_reducible show DE _ _ (Expr.Compare _ [CmpOp.NotEq] _ _) _ _); refine de_cmp (op_neAll hu) (nobehind _ (by decide) (by decide)) ?_
  | (with_reducible show DE _ _ (Expr.Compare _ [CmpOp.Lt] _ _) _ _); refine de_cmp op_ltAll (nobehind _ (by decide) (by decide)) ?_
  | (with_reducible show DE _ _ (Expr.Compare _ [CmpOp.LtE] _ _) _ _); refine de_cmp op_leAll (nobehind _ (by decide) (by decide)) ?_
  | (with_reducible show DE _ _ (Expr.Compare _ [CmpOp.Gt] _ _) _ _); refine de_cmp op_gtAll (nobehind _ (by decide) (by decide)) ?_
  | (with_reducible show DE _ _ (Expr.Compare _ [CmpOp.GtE] _ _) _ _); refine de_cmp op_geAll (nobehind _ (by decide) (by decide)) ?_
  | (with_reducible show DE _ _ (Expr.Compare _ [CmpOp.In] _ _) _ _); refine de_cmp (op_inAll hu1) rfl ?_
  | (with_reducible show DE _ _ (Expr.Compare _ [CmpOp.NotIn] _ _) _ _); refine de_cmp (op_notInAll hu1) rfl ?_
  | (with_reducible show DE _ _ (Expr.Call (Expr.Attribute _ "append" _) [_] _ _) _ _); refine de_append ?_
  | (with_reducible show DE _ _ (Expr.Call (Expr.Attribute _ "pop" _) [_] _ _) _ _); refine de_popAt ?_
  | (with_reducible show DE _ _ (Expr.Call (Expr.Attribute _ "join" _) [_] _ _) _ _); refine de_join ?_)
local macro_rules | `(tactic| walk_at "bi") => `(tactic| first
  | (with_reducible show DE _ _ (Expr.Call (Expr.Name "isinstance" _) [_, Expr.Name "list" _] [] _) _ _); refine de_isi1 rfl n_isinstance rfl n_list boot_list ?_
  | (with_reducible show DE _ _ (Expr.Call (Expr.Name "isinstance" _) [_, Expr.Name "tuple" _] [] _) _ _); refine de_isi1 rfl n_isinstance rfl n_tuple boot_tuple ?_
  | (with_reducible show DE _ _ (Expr.Call (Expr.Name "isinstance" _) [_, Expr.Name "str" _] [] _) _ _); refine de_isi1 rfl n_isinstance rfl n_str boot_str ?_
  | (with_reducible show DE _ _ (Expr.Call (Expr.Name "isinstance" _) [_, Expr.Name "bool" _] [] _) _ _); refine de_isi1 rfl n_isinstance rfl n_bool boot_bool ?_
  | (with_reducible show DE _ _ (Expr.Call (Expr.Name "isinstance" _) [_, Expr.Name "int" _] [] _) _ _); refine de_isi1 rfl n_isinstance rfl n_int boot_int ?_
  | (with_reducible show DE _ _ (Expr.Call (Expr.Name "isinstance" _) [_, Expr.Tuple [Expr.Name "list" _, Expr.Name "tuple" _] _ _] [] _) _ _); refine de_isi2 rfl n_isinstance rfl n_list boot_list rfl n_tuple boot_tuple ?_
  | (with_reducible show DE _ _ (Expr.Call (Expr.Name "isinstance" _) [_, Expr.Tuple [Expr.Name "str" _, Expr.Name "bool" _] _ _] [] _) _ _); refine de_isi2 rfl n_isinstance rfl n_str boot_str rfl n_bool boot_bool ?_
  | (with_reducible show DE _ _ (Expr.Call (Expr.Name "len" _) _ [] _) _ _); refine de_callB call_lenA rfl n_len boot_len ?_
  | (with_reducible show DE _ _ (Expr.Call (Expr.Name "abs" _) _ [] _) _ _); refine de_callB call_abs rfl n_abs boot_abs ?_
  | (with_reducible show DE _ _ (Expr.Call (Expr.Name "int" _) _ [] _) _ _); refine de_callTy call_int1 rfl n_int boot_int ?_
  | (with_reducible show DE _ _ (Expr.Call (Expr.Name "list" _) _ [] _) _ _); refine de_callTy call_list_of rfl n_list boot_list ?_
  | (with_reducible show DE _ _ (Expr.Call (Expr.Name "tuple" _) _ [] _) _ _); refine de_callTy call_tuple_of rfl n_tuple boot_tuple ?_
  | (with_reducible show DE _ _ (Expr.Call (Expr.Name "sorted" _) _ [] _) _ _); refine de_callB (cr_sortD hu) rfl n_sorted boot_sorted ?_
  | (with_reducible show DE _ _ (Expr.Call (Expr.Name "sum" _) _ [] _) _ _); refine de_callB (cr_sum rfl) rfl n_sum boot_sum ?_
  | (with_reducible show DE _ _ (Expr.Call (Expr.Name "all" _) _ [] _) _ _); refine de_callB (cr_all rfl) rfl n_all boot_all ?_
  | (with_reducible show DE _ _ (Expr.Call (Expr.Name "any" _) _ [] _) _ _); refine de_callB (cr_any rfl) rfl n_any boot_any ?_
  | (with_reducible show DE _ _ (Expr.Call (Expr.Name "min" _) _ [] _) _ _); refine de_callB (call_minA rfl) rfl n_min boot_min ?_
  | (with_reducible show DE _ _ (Expr.Call (Expr.Name "max" _) _ [] _) _ _); refine de_callB (call_maxA rfl) rfl n_max boot_max ?_
  | (with_reducible show DE _ _ (Expr.Call (Expr.Name "dict" _) _ [] _) _ _); refine de_callTy (call_dictP rfl) rfl n_dict boot_dict ?_)
local macro_rules | `(tactic| walk_at "oa") => `(tactic| first
  | refine len_c (by walk_at "vw") (by first | exact Ln.lst _ | exact Ln.tup _ | exact Ln.dk _) ?_
  | refine abs_c (.fz _) ?_
  | refine int_b (.fz _) ?_
  | refine int_i (.fz _) ?_
  | refine list_t (.fz _) ?_
  | refine list_l (by walk_at "vw") ?_
  | refine tuple_t (.fz _) ?_
  | refine tuple_l (by walk_at "vw") ?_
  | refine mm_str (.fz _) (.fz _) ?_
  | refine mm_int (.fz _) (.fz _) ?_)
local macro_rules | `(tactic| walk_at "t1") => `(tactic| first
  | (with_reducible show DT _ _ (Expr.Compare _ [CmpOp.Is] _ _) _ _); refine dt_isN ?_
  | (with_reducible show DT _ _ (Expr.Compare _ [CmpOp.Eq] _ _) _ _); refine dt_cmp (op_eqAll hu) (nobehind _ (by decide) (by decide)) ?_
  | (with_reducible show DT _ _ (Expr.Compare _ [CmpOp.NotEq] _ _) _ _); refine dt_cmp (op_neAll hu) (nobehind _ (by decide) (by decide)) ?_
  | (with_reducible show DT _ _ (Expr.Compare _ [CmpOp.Lt] _ _) _ _); refine dt_cmp op_ltAll (nobehind _ (by decide) (by decide)) ?_
  | (with_reducible show DT _ _ (Expr.Compare _ [CmpOp.LtE] _ _) _ _); refine dt_cmp op_leAll (nobehind _ (by decide) (by decide)) ?_
  | (with_reducible show DT _ _ (Expr.Compare _ [CmpOp.Gt] _ _) _ _); refine dt_cmp op_gtAll (nobehind _ (by decide) (by decide)) ?_
  | (with_reducible show DT _ _ (Expr.Compare _ [CmpOp.GtE] _ _) _ _); refine dt_cmp op_geAll (nobehind _ (by decide) (by decide)) ?_
  | (with_reducible show DT _ _ (Expr.Compare _ [CmpOp.In] _ _) _ _); refine dt_cmp (op_inAll hu1) rfl ?_
  | (with_reducible show DT _ _ (Expr.Compare _ [CmpOp.NotIn] _ _) _ _); refine dt_cmp (op_notInAll hu1) rfl ?_
  | with_reducible refine dt_not ?_
  | with_reducible refine dt_bool ?_
  | (with_reducible show DT _ _ (Expr.Call _ _ _ _) _ _); refine dt_val ?_)
local macro_rules | `(tactic| walk_at "w1") => `(tactic| first
  | with_reducible refine dw_and1 ?_
  | with_reducible refine dw_or1 ?_
  | with_reducible refine dw_and ?_
  | with_reducible refine dw_or ?_)
local macro_rules | `(tactic| walk_at "a1") => `(tactic| first
  | with_reducible refine da_nil ?_
  | refine da_cons ?_)
local macro_rules | `(tactic| walk_at "o2") => `(tactic| first
  | (with_reducible show Op2 _ _ (rAddAll _) _ _ _ _); first | refine add_int (.fz _) (.fz _) ?_ | refine add_str (.fz _) (.fz _) (by walk_at "side") ?_ | refine add_tup (.fz _) (.fz _) (by walk_at "side") ?_ | refine add_lst (by walk_at "vw") (by walk_at "vw") (by walk_at "side") ?_
  | (with_reducible show Op2 _ _ (rIxAll _) _ _ _ _); first | refine ix_tpl (.fz _) (.fz _) rfl ?_ | refine ix_lst (by walk_at "vw") (.fz _) rfl ?_ | refine ix_tpl (.fz _) (.fz _) (by assumption) ?_ | refine ix_lst (by walk_at "vw") (.fz _) (by assumption) ?_ | refine ix_dk (by walk_at "vw") (.fz _) (k := .inr _) rfl (by assumption) ?_
  | (with_reducible show Op2 _ _ (rEqAll _) _ _ _ _); first | refine eq_int (.fz _) (.fz _) ?_ | refine eq_str (.fz _) (.fz _) ?_ | refine eq_bl (.fz _) (.fz _) ?_
  | (with_reducible show Op2 _ _ (rNeAll _) _ _ _ _); first | refine ne_int (.fz _) (.fz _) ?_ | refine ne_str (.fz _) (.fz _) ?_ | refine ne_bl (.fz _) (.fz _) ?_
  | refine op_ib0 (.fz _) (.fz _) ?_
  | refine lt_int (.fz _) (.fz _) ?_
  | refine lt_str (.fz _) (.fz _) ?_
  | refine in_dk (by walk_at "vw") (by walk_at "vw") rfl ?_)
local macro_rules | `(tactic| walk_at "o1") => `(tactic| first
  | refine cut_t (.fz _) ?_
  | refine cut_l (by walk_at "vw") ?_)
local macro_rules | `(tactic| walk_at "x1") => `(tactic| first
  | refine ⟨_, _, .fz _, rfl, kb_list rfl, ?_⟩
  | refine ⟨_, _, .fz _, rfl, kb_tuple rfl, ?_⟩
  | refine ⟨_, _, .fz _, rfl, kb_str rfl, ?_⟩
  | refine ⟨_, _, .fz _, rfl, kb_bool rfl, ?_⟩
  | refine ⟨_, _, .fz _, rfl, kb_int rfl, ?_⟩
  | refine ⟨_, _, _, .fz _, rfl, kb_list rfl, kb_tuple rfl, ?_⟩
  | refine ⟨_, _, _, .fz _, rfl, kb_str rfl, kb_bool rfl, ?_⟩
  | refine ⟨_, _, _, rfl, rfl, Put.lst rfl, ?_⟩
  | refine ⟨_, _, .fz _, .fz _, ?_⟩
  | refine ⟨_, .fz _, ?_⟩
  | refine ⟨_, rfl, ?_⟩
  | refine ⟨_, (.cons (.cons (.cons .nil))), ?_⟩
  | refine ⟨_, (.cons (.cons .nil)), ?_⟩
  | refine ⟨_, (.cons .nil), ?_⟩
  | refine ⟨_, (.cons (.cons (.cons (.cons .nil)))), ?_⟩
  | refine ⟨_, .nil, ?_⟩
  | refine ⟨_, (.cons (.cons (.cons (.cons (.cons .nil))))), ?_⟩
  | refine ⟨_, (.cons (.cons (.cons (.cons (.cons (.cons .nil)))))), ?_⟩
  | refine ⟨_, (.cons (.cons (.cons (.cons (.cons (.cons (.cons .nil))))))), ?_⟩
  | refine ⟨_, _, rfl, rfl, ?_⟩)
local macro_rules | `(tactic| walk_at "set") => `(tactic| first
  | refine ds_set (i := 0) nd rfl (by first | exact Or.inl rfl | exact Or.inr rfl) (by decide) ?_
  | refine ds_set (i := 1) nd rfl (by first | exact Or.inl rfl | exact Or.inr rfl) (by decide) ?_
  | refine ds_set (i := 2) nd rfl (by first | exact Or.inl rfl | exact Or.inr rfl) (by decide) ?_
  | refine ds_set (i := 3) nd rfl (by first | exact Or.inl rfl | exact Or.inr rfl) (by decide) ?_
  | refine ds_set (i := 4) nd rfl (by first | exact Or.inl rfl | exact Or.inr rfl) (by decide) ?_
  | refine ds_set (i := 5) nd rfl (by first | exact Or.inl rfl | exact Or.inr rfl) (by decide) ?_
  | refine ds_set (i := 6) nd rfl (by first | exact Or.inl rfl | exact Or.inr rfl) (by decide) ?_
  | refine ds_set (i := 7) nd rfl (by first | exact Or.inl rfl | exact Or.inr rfl) (by decide) ?_
  | refine ds_set (i := 8) nd rfl (by first | exact Or.inl rfl | exact Or.inr rfl) (by decide) ?_
  | refine ds_set (i := 9) nd rfl (by first | exact Or.inl rfl | exact Or.inr rfl) (by decide) ?_
  | refine ds_set (i := 10) nd rfl (by first | exact Or.inl rfl | exact Or.inr rfl) (by decide) ?_
  | refine ds_set (i := 11) nd rfl (by first | exact Or.inl rfl | exact Or.inr rfl) (by decide) ?_
  | refine ds_set (i := 12) nd rfl (by first | exact Or.inl rfl | exact Or.inr rfl) (by decide) ?_
  | refine ds_set (i := 13) nd rfl (by first | exact Or.inl rfl | exact Or.inr rfl) (by decide) ?_
  | refine ds_set (i := 14) nd rfl (by first | exact Or.inl rfl | exact Or.inr rfl) (by decide) ?_
  | refine ds_set (i := 15) nd rfl (by first | exact Or.inl rfl | exact Or.inr rfl) (by decide) ?_
  | refine ds_set (i := 16) nd rfl (by first | exact Or.inl rfl | exact Or.inr rfl) (by decide) ?_)
local macro_rules | `(tactic| walk_at "s1") => `(tactic| first
  | (with_reducible show DS _ _ (Stmt.Assign [Expr.Name _ _] _ _) _ _); walk_at "set"
  | with_reducible refine ds_ret ?_
  | with_reducible refine ds_if ?_
  | refine ds_store hu1 ?_
  | (with_reducible show DS _ _ (Stmt.Expr _ _) _ _); refine ds_expr ?_)
local macro_rules | `(tactic| walk_at "ss1") => `(tactic| first
  | refine dss_cons ?_
  | refine dss_nil ?_)
local macro_rules | `(tactic| walk_at "d1") => `(tactic| first
  | (with_reducible show DE _ _ _ _ _); walk_at "e1"
  | (with_reducible show Op2 _ _ _ _ _ _ _); walk_at "o2"
  | (with_reducible show DA _ _ _ _ _); walk_at "a1"
  | (with_reducible show DT _ _ _ _ _); walk_at "t1"
  | (with_reducible show DTs _ _ _ _ _); first | with_reducible refine dts_one ?_ | with_reducible refine dts_nil ?_
  | (with_reducible show DO _ _ _ _ _); first | with_reducible refine do_none ?_ | with_reducible refine do_some ?_
  | (with_reducible show DW _ _ _ _ _); walk_at "w1"
  | (with_reducible show DSs _ _ _ _ _); walk_at "ss1"
  | (with_reducible show DS _ _ _ _ _); walk_at "s1"
  | (with_reducible show Op1 _ _ _ _ _ _); walk_at "o1"
  | (with_reducible show OpA _ _ _ _ _ _); walk_at "oa"
  | (with_reducible show ∃ _, _); walk_at "x1"
  | (with_reducible show DEnds.nx _ _); dsimp only
  | (with_reducible show if _ = true then _ else _); first | refine if_t rfl ?_ | refine if_f rfl ?_
  | (with_reducible show DEnds.rt _ _ _); dsimp only
  | (with_reducible show _ ∧ _); refine ⟨(by walk_at "side"), ?_⟩)
local macro_rules | `(tactic| walk_at "d") => `(tactic| repeat walk_at "d1")
section
variable {P : Program} {w : World} {K : PySem.W.Frag} {mg : Str → Option Value} {base : Heap} {f : Addr} {fd : FuncData}
/-! ### halls -/
structure Hall where
  w : Int
  pl : List (Str × Int × Int)
  ti : List (Str × Str × Int)
def placeD (p : Str × Int × Int) : D := .tup [.str p.1, .int p.2.1, .int p.2.2]
def tieD (t : Str × Str × Int) : D := .tup [.str t.1, .str t.2.1, .int t.2.2]
def hallD (h : Hall) : D := .tup [.int h.w, .tup (h.pl.map placeD), .tup (h.ti.map tieD)]
def cardD (c : Int × Int) : D := .tup [.int c.1, .int c.2]
/-! mirrored -/
abbrev N_mirrored : List Str := ["wheel", "card", "mirror", "face", "number"]
theorem nd_mirrored : N_mirrored.Nodup := by decide +kernel
theorem sc_mirrored : FnScope N_mirrored ["wheel", "card", "mirror"] (defScope s_mirrored) := ⟨rfl, rfl, rfl, nd_mirrored, rfl, by decide +kernel, by decide +kernel⟩
def mirrored (w : Int) (c : Int × Int) (m : Int) : Int × Int := (1 - c.1, counted w (m - c.2))
def S_mirrored : FSp := fS (fun a : Int × (Int × Int) × Int => [.fz (.int a.1), .fz (cardD a.2.1), .fz (.int a.2.2)]) (fun a => 0 ≤ a.1) (fun a => .fz (cardD (mirrored a.1 a.2.1 a.2.2)))
theorem ok_mirrored {fC : Addr} {fdC : FuncData} {t1 t2 : Tok} (g_LIGHT : mg "LIGHT" = some (.int 1 t1)) (g_DARK : mg "DARK" = some (.int 0 t2)) (F_counted : FnP K "counted" s_counted fC fdC) (g_counted : mg "counted" = some (.ref fC)) (F : FnP K "mirrored" s_mirrored f fd) : FnOk P w K mg base CX0 2 f fd ["wheel", "card", "mirror"] (spOf K [] 3 S_mirrored) := by
  have G_counted : FnOk P w K mg base CX0 1 fC fdC _ _ := ok_counted F_counted
  have b_counted : Binds K fdC ["wheel", "number"] [] := F_counted.bindsN fun _ _ _ _ _ _ us hl => match us, hl with | [_, _], _ => rfl
  refine fn_ok (S := S_mirrored) 5 (by decide) (by decide) F sc_mirrored fun cdv A outer s H E b cs Post hr hcl hS => ?_
  obtain ⟨⟨wh, ⟨fa, nu⟩, mi⟩, rfl, hw, q⟩ := hS
  have hu : (A.deeper (envOfC "mirrored" (defScope s_mirrored) s.heap.objs.size f cdv)).units + 64 < cLine := hr.units
  have hu1 : (A.deeper (envOfC "mirrored" (defScope s_mirrored) s.heap.objs.size f cdv)).units + 1 < cLine := by omega
  have nd := nd_mirrored
  have hw : (0 : Int) ≤ wh := hw
  change DSs _ b _ [.fz (.int wh), .fz (.tup [.int fa, .int nu]), .fz (.int mi), .no, .no] _
  refine dss_cons (ds_asg ?_)
  walk_at "d"
  refine dg_tup (is := [3, 4]) rfl nd (by walk_at "puts") rfl rfl rfl (by simp) ?_
  walk_at "d"
  refine de_gint rfl g_LIGHT ?_
  walk_at "d"
  refine de_gint rfl g_DARK ?_
  walk_at "d"
  refine de_call G_counted fS_mono (hr.mono (by decide)) rfl g_counted F_counted.kp b_counted ?_
  walk_at "d"
  refine ⟨(wh, mi - nu), rfl, hw, fun e => ?_⟩
  walk_at "d"
  refine fz_eq (q _) ?_
  show D.tup [.int (1 - fa), .int (counted wh (mi - nu))] = .tup [.int (1 + 0 - fa), .int (counted wh (mi - nu))]
  rw [Int.add_zero]
/-! is_free -/
abbrev N_is_free : List Str := ["card"]
theorem nd_is_free : N_is_free.Nodup := by decide +kernel
theorem sc_is_free : FnScope N_is_free ["card"] (defScope s_is_free) := ⟨rfl, rfl, rfl, nd_is_free, rfl, by decide +kernel, by decide +kernel⟩
def isFree (c : Int × Int) : Bool := decide (c = (1, 0))
def S_is_free : FSp := fS (fun a : Int × Int => [.fz (cardD a)]) (fun _ => True) (fun a => .fz (.bl (isFree a)))
theorem ok_is_free {t1 : Tok} (g_LIGHT : mg "LIGHT" = some (.int 1 t1)) (n_tuple : mg "tuple" = none) (F : FnP K "is_free" s_is_free f fd) : FnOk P w K mg base CX0 1 f fd ["card"] (spOf K [] 1 S_is_free) := by
  refine fn_ok (S := S_is_free) 1 (by decide) (by decide) F sc_is_free fun cdv A outer s H E b cs Post hr hcl hS => ?_
  obtain ⟨⟨fa, nu⟩, rfl, hw, q⟩ := hS
  have hu : (A.deeper (envOfC "is_free" (defScope s_is_free) s.heap.objs.size f cdv)).units + 64 < cLine := hr.units
  have hu1 : (A.deeper (envOfC "is_free" (defScope s_is_free) s.heap.objs.size f cdv)).units + 1 < cLine := by omega
  have nd := nd_is_free
  change DSs _ b _ [.fz (.tup [.int fa, .int nu])] _
  walk_at "d"
  refine de_gint rfl g_LIGHT ?_
  walk_at "d"
  have sh : ∀ i j : Int, Sh 2 (.tup [.int i, .int j]) := fun i j => .tup fun d hd => by
    simp at hd
    rcases hd with h | h <;> subst h <;> exact .int _
  refine eq_dat (.fz _) (.fz _) (sh _ _) (sh _ _) (by decide) ?_
  walk_at "d"
  refine fz_eq (q _) ?_
  simp [isFree, D.eqb, D.py, pyL, PyData.eqv, PyData.eqvAll, Prod.mk.injEq, Bool.beq_eq_decide_eq, Bool.decide_and]
/-! may_go -/
abbrev N_may_go : List Str := ["hall", "name", "face", "number"]
theorem nd_may_go : N_may_go.Nodup := by decide +kernel
theorem sc_may_go : FnScope N_may_go ["hall"] (defScope s_may_go) := ⟨rfl, rfl, rfl, nd_may_go, rfl, by decide +kernel, by decide +kernel⟩
def freeOf (pl : List (Str × Int × Int)) : List Str := (pl.filter fun p => isFree p.2).map (·.1)
def S_may_go : FSp := fS (fun h : Hall => [.fz (hallD h)]) (fun h => h.pl.length ≤ 1000) (fun h => .ow (.lst ((freeOf h.pl).map .str)))
theorem ok_may_go {t1 : Tok} {fC : Addr} {fdC : FuncData} (g_LIGHT : mg "LIGHT" = some (.int 1 t1)) (n_tuple : mg "tuple" = none) (F_is_free : FnP K "is_free" s_is_free fC fdC) (g_is_free : mg "is_free" = some (.ref fC)) (F : FnP K "may_go" s_may_go f fd) : FnOk P w K mg base CX0 2 f fd ["hall"] (spOf K [] 1 S_may_go) := by
  have G_is_free : FnOk P w K mg base CX0 1 fC fdC _ _ := ok_is_free g_LIGHT n_tuple F_is_free
  have b_is_free : Binds K fdC ["card"] [] := F_is_free.bindsN fun _ _ _ _ _ _ us hl => match us, hl with | [_], _ => rfl
  refine fn_ok (S := S_may_go) 1 (by decide) (by decide) F sc_may_go fun cdv A outer s H E b cs Post hr hcl hS => ?_
  obtain ⟨h, rfl, hz, q⟩ := hS
  have hz : h.pl.length ≤ 1000 := hz
  have hu : (A.deeper (envOfC "may_go" (defScope s_may_go) s.heap.objs.size f cdv)).units + 64 < cLine := hr.units
  have hu1 : (A.deeper (envOfC "may_go" (defScope s_may_go) s.heap.objs.size f cdv)).units + 1 < cLine := by omega
  have nd := nd_may_go
  change DSs _ b _ [.fz (hallD h), .no, .no, .no] _
  walk_at "d"
  refine de_lc [("name", 1), ("face", 2), ("number", 3)] rfl nd (by change BlkOk N_may_go (defScope s_may_go) _ _; walk_at "blk") (by simp) (DI.a (di_tuple ?_))
  walk_at "d"
  refine ⟨by simp; omega, fun k acc e => acc = (freeOf (h.pl.take k)).map .str ∧ e = [.fz (hallD h), .no, .no, .no], ⟨rfl, rfl⟩, ?_, ?_, ?_⟩
  · rintro k acc e ⟨rfl, rfl⟩
    refine ⟨trivial, ?_, by simp⟩
    simp [freeOf]
    exact Nat.le_trans (List.length_filter_le _ _) (by simp; omega)
  · rintro k d acc e hd ⟨rfl, rfl⟩ s1 H1 C1 cl1 fp1
    rw [List.getElem?_map] at hd
    cases hp : h.pl[k]? with
    | none => rw [hp] at hd; cases hd
    | some p =>
      rw [hp] at hd
      cases hd
      obtain ⟨na, fa, nu⟩ := p
      refine dgo_tup (is := [1, 2, 3]) rfl nd (by walk_at "puts") rfl rfl rfl (by simp) ?_
      intro s2 H2 C2 cl2 fp2
      have ht : h.pl.take (k + 1) = h.pl.take k ++ [(na, fa, nu)] := by rw [List.take_add_one, hp]; rfl
      walk_at "d"
      refine de_call G_is_free fS_mono (hr.mono (by decide)) rfl g_is_free F_is_free.kp b_is_free ?_
      walk_at "d"
      refine ⟨(fa, nu), rfl, trivial, fun e => ?_⟩
      walk_at "d"
      refine ite_b (fun hf => ?_) (fun hf => ?_)
      · intro s3 H3 C3 cl3 fp3
        walk_at "d"
        refine ⟨?_, rfl⟩
        rw [ht]
        simp [freeOf, hf]
      · refine ⟨?_, rfl⟩
        rw [ht]
        simp [freeOf, hf]
  · rintro acc e ⟨rfl, rfl⟩
    walk_at "d"
    have e : (h.pl.take (h.pl.map placeD).length) = h.pl := by simp
    rw [e]
    exact q _
/-! cards_by -/
abbrev N_cards_by : List Str := ["hall", "name", "face", "number"]
theorem nd_cards_by : N_cards_by.Nodup := by decide +kernel
theorem sc_cards_by : FnScope N_cards_by ["hall"] (defScope s_cards_by) := ⟨rfl, rfl, rfl, nd_cards_by, rfl, by decide +kernel, by decide +kernel⟩
def cardsOf (pl : List (Str × Int × Int)) : List (Key × D) := pl.foldl (fun acc p => dput acc (.inr p.1) (cardD p.2)) []
theorem dput_le {κ : Type} [DecidableEq κ] (kvs : List (κ × D)) (k : κ) (d : D) : (dput kvs k d).length ≤ kvs.length + 1 := by
  unfold dput
  split <;> simp
theorem cardsOf_snoc (pl : List (Str × Int × Int)) (p : Str × Int × Int) : cardsOf (pl ++ [p]) = dput (cardsOf pl) (.inr p.1) (cardD p.2) := by simp [cardsOf, List.foldl_append]
theorem cardsOf_len (pl : List (Str × Int × Int)) : (cardsOf pl).length ≤ pl.length := by
  have : ∀ acc : List (Key × D), (pl.foldl (fun acc p => dput acc (.inr p.1) (cardD p.2)) acc).length ≤ acc.length + pl.length := by
    induction pl with
    | nil => intro acc; simp
    | cons p l ih =>
      intro acc
      rw [List.foldl_cons]
      have h1 := ih (dput acc (.inr p.1) (cardD p.2))
      have h2 := dput_le acc (.inr p.1 : Key) (cardD p.2)
      simp only [List.length_cons]
      omega
  simpa [cardsOf] using this []
def S_cards_by : FSp := fS (fun h : Hall => [.fz (hallD h)]) (fun h => h.pl.length ≤ 1000) (fun h => .ow (.dk (cardsOf h.pl)))
theorem ok_cards_by (F : FnP K "cards_by" s_cards_by f fd) : FnOk P w K mg base CX0 1 f fd ["hall"] (spOf K [] 1 S_cards_by) := by
  refine fn_ok (S := S_cards_by) 1 (by decide) (by decide) F sc_cards_by fun cdv A outer s H E b cs Post hr hcl hS => ?_
  obtain ⟨h, rfl, hz, q⟩ := hS
  have hz : h.pl.length ≤ 1000 := hz
  have hu : (A.deeper (envOfC "cards_by" (defScope s_cards_by) s.heap.objs.size f cdv)).units + 64 < cLine := hr.units
  have hu1 : (A.deeper (envOfC "cards_by" (defScope s_cards_by) s.heap.objs.size f cdv)).units + 1 < cLine := by omega
  have nd := nd_cards_by
  change DSs _ b _ [.fz (hallD h), .no, .no, .no] _
  walk_at "d"
  refine de_dc [("name", 1), ("face", 2), ("number", 3)] rfl nd (by change BlkOk N_cards_by (defScope s_cards_by) _ _; walk_at "blk") (by simp) (DI.a (di_tuple ?_))
  walk_at "d"
  refine ⟨by simp; omega, fun k acc e => acc = cardsOf (h.pl.take k) ∧ e = [.fz (hallD h), .no, .no, .no], ⟨rfl, rfl⟩, ?_, ?_, ?_⟩
  · rintro k acc e ⟨rfl, rfl⟩
    refine ⟨trivial, Nat.le_trans (cardsOf_len _) (by simp; omega), by simp⟩
  · rintro k d acc e hd ⟨rfl, rfl⟩ s1 H1 C1 cl1 fp1
    rw [List.getElem?_map] at hd
    cases hp : h.pl[k]? with
    | none => rw [hp] at hd; cases hd
    | some p =>
      rw [hp] at hd
      cases hd
      obtain ⟨na, fa, nu⟩ := p
      refine dgo_tup (is := [1, 2, 3]) rfl nd (by walk_at "puts") rfl rfl rfl (by simp) ?_
      intro s2 H2 C2 cl2 fp2
      have ht : h.pl.take (k + 1) = h.pl.take k ++ [(na, fa, nu)] := by rw [List.take_add_one, hp]; rfl
      refine dts_nil (ite_b (fun _ => ?_) (fun z => nomatch z))
      intro s3 H3 C3 cl3 fp3
      walk_at "d"
      refine ⟨.inr na, rfl, ?_⟩
      intro s4 H4 C4 cl4 fp4
      walk_at "d"
      refine ⟨?_, rfl⟩
      rw [ht, cardsOf_snoc]
      rfl
  · rintro acc e ⟨rfl, rfl⟩
    walk_at "d"
    have e : (h.pl.take (h.pl.map placeD).length) = h.pl := by simp
    rw [e]
    exact q _
/-! card_of -/
abbrev N_card_of : List Str := ["hall", "name"]
theorem nd_card_of : N_card_of.Nodup := by decide +kernel
theorem sc_card_of : FnScope N_card_of ["hall", "name"] (defScope s_card_of) := ⟨rfl, rfl, rfl, nd_card_of, rfl, by decide +kernel, by decide +kernel⟩
def S_card_of : FSp := fS (fun a : Hall × Str × (Int × Int) => [.fz (hallD a.1), .fz (.str a.2.1)]) (fun a => a.1.pl.length ≤ 1000 ∧ dget (cardsOf a.1.pl) (.inr a.2.1) = some (cardD a.2.2)) (fun a => .fz (cardD a.2.2))
theorem ok_card_of {fC : Addr} {fdC : FuncData} (F_cards_by : FnP K "cards_by" s_cards_by fC fdC) (g_cards_by : mg "cards_by" = some (.ref fC)) (F : FnP K "card_of" s_card_of f fd) : FnOk P w K mg base CX0 2 f fd ["hall", "name"] (spOf K [] 2 S_card_of) := by
  have G_cards_by : FnOk P w K mg base CX0 1 fC fdC _ _ := ok_cards_by F_cards_by
  have b_cards_by : Binds K fdC ["hall"] [] := F_cards_by.bindsN fun _ _ _ _ _ _ us hl => match us, hl with | [_], _ => rfl
  refine fn_ok (S := S_card_of) 2 (by decide) (by decide) F sc_card_of fun cdv A outer s H E b cs Post hr hcl hS => ?_
  obtain ⟨⟨h, na, c⟩, rfl, ⟨hz, hg⟩, q⟩ := hS
  have hz : h.pl.length ≤ 1000 := hz
  have hg : dget (cardsOf h.pl) (.inr na) = some (cardD c) := hg
  have hu : (A.deeper (envOfC "card_of" (defScope s_card_of) s.heap.objs.size f cdv)).units + 64 < cLine := hr.units
  have hu1 : (A.deeper (envOfC "card_of" (defScope s_card_of) s.heap.objs.size f cdv)).units + 1 < cLine := by omega
  have nd := nd_card_of
  change DSs _ b _ [.fz (hallD h), .fz (.str na)] _
  walk_at "d"
  refine de_call G_cards_by fS_mono (hr.mono (by decide)) rfl g_cards_by F_cards_by.kp b_cards_by ?_
  walk_at "d"
  refine ⟨h, rfl, hz, fun e => ?_⟩
  walk_at "d"
  exact q _
end
end K13



set_option Elab.async false
set_option linter.all false
set_option maxRecDepth 100000
set_option maxHeartbeats 1000000
set_option pp.deepTerms false
set_option pp.deepTerms.threshold 6
set_option pp.oneline false
set_option pp.proofs false
namespace K13
open PySem PySem.Spec PyProof.Rows L2 DL
set_option hygiene false
local macro_rules | `(tactic| walk_at "vw") => `(tactic| first
  | exact Vw.fz _
  | exact Vw.al rfl
  | exact Vw.ow _ rfl)
local macro_rules | `(tactic| walk_at "puts") => `(tactic| repeat (first | exact DL.Puts.nil | refine DL.Puts.cons rfl (by first | exact Or.inl rfl | exact Or.inr rfl) (by first | exact Or.inl rfl | exact Or.inr rfl) rfl ?_))
local macro_rules | `(tactic| walk_at "blk") => `(tactic| exact ⟨rfl, by decide +kernel, by decide +kernel, by decide +kernel, by decide +kernel⟩)
local macro_rules | `(tactic| walk_at "vis") => `(tactic| first
  | exact Or.inl rfl
  | exact Or.inr (Or.inl rfl)
  | exact Or.inr (Or.inr rfl))
local macro_rules | `(tactic| walk_at "side") => `(tactic| first
  | assumption
  | omega
  | (simp only [List.length_set, List.length_cons, List.length_nil]; omega)
  | exact fun j z => (nomatch z)
  | (refine Or.inl ⟨?_, ?_⟩ <;> omega)
  | (refine Or.inr ⟨?_, ?_⟩ <;> omega)
  | decide
  | ((with_reducible show _ = _); rfl))
local macro_rules | `(tactic| walk_at "var") => `(tactic| first
  | refine de_var (i := 0) rfl (by walk_at "vis") rfl ?_ | refine de_var_ow (i := 0) (by decide) rfl (by walk_at "vis") rfl ?_
  | refine de_var (i := 1) rfl (by walk_at "vis") rfl ?_ | refine de_var_ow (i := 1) (by decide) rfl (by walk_at "vis") rfl ?_
  | refine de_var (i := 2) rfl (by walk_at "vis") rfl ?_ | refine de_var_ow (i := 2) (by decide) rfl (by walk_at "vis") rfl ?_
  | refine de_var (i := 3) rfl (by walk_at "vis") rfl ?_ | refine de_var_ow (i := 3) (by decide) rfl (by walk_at "vis") rfl ?_
  | refine de_var (i := 4) rfl (by walk_at "vis") rfl ?_ | refine de_var_ow (i := 4) (by decide) rfl (by walk_at "vis") rfl ?_
  | refine de_var (i := 5) rfl (by walk_at "vis") rfl ?_ | refine de_var_ow (i := 5) (by decide) rfl (by walk_at "vis") rfl ?_
  | refine de_var (i := 6) rfl (by walk_at "vis") rfl ?_ | refine de_var_ow (i := 6) (by decide) rfl (by walk_at "vis") rfl ?_
  | refine de_var (i := 7) rfl (by walk_at "vis") rfl ?_ | refine de_var_ow (i := 7) (by decide) rfl (by walk_at "vis") rfl ?_
  | refine de_var (i := 8) rfl (by walk_at "vis") rfl ?_ | refine de_var_ow (i := 8) (by decide) rfl (by walk_at "vis") rfl ?_
  | refine de_var (i := 9) rfl (by walk_at "vis") rfl ?_ | refine de_var_ow (i := 9) (by decide) rfl (by walk_at "vis") rfl ?_
  | refine de_var (i := 10) rfl (by walk_at "vis") rfl ?_ | refine de_var_ow (i := 10) (by decide) rfl (by walk_at "vis") rfl ?_
  | refine de_var (i := 11) rfl (by walk_at "vis") rfl ?_ | refine de_var_ow (i := 11) (by decide) rfl (by walk_at "vis") rfl ?_
  | refine de_var (i := 12) rfl (by walk_at "vis") rfl ?_ | refine de_var_ow (i := 12) (by decide) rfl (by walk_at "vis") rfl ?_
  | refine de_var (i := 13) rfl (by walk_at "vis") rfl ?_ | refine de_var_ow (i := 13) (by decide) rfl (by walk_at "vis") rfl ?_
  | refine de_var (i := 14) rfl (by walk_at "vis") rfl ?_ | refine de_var_ow (i := 14) (by decide) rfl (by walk_at "vis") rfl ?_
  | refine de_var (i := 15) rfl (by walk_at "vis") rfl ?_ | refine de_var_ow (i := 15) (by decide) rfl (by walk_at "vis") rfl ?_
  | refine de_var (i := 16) rfl (by walk_at "vis") rfl ?_ | refine de_var_ow (i := 16) (by decide) rfl (by walk_at "vis") rfl ?_)
local macro_rules | `(tactic| walk_at "const") => `(tactic| first
  | with_reducible refine de_int ?_
  | with_reducible refine de_str ?_
  | with_reducible refine de_bl ?_
  | with_reducible refine de_non ?_)
local macro_rules | `(tactic| walk_at "e1") => `(tactic| first
  | (with_reducible show DE _ _ (Expr.Name _ _) _ _); walk_at "var"
  | (with_reducible show DE _ _ (Expr.Constant _ _ _) _ _); walk_at "const"
  | (with_reducible show DE _ _ (Expr.Call (Expr.Name _ _) _ [] _) _ _); walk_at "bi"
  | with_reducible refine de_add ?_
  | with_reducible refine de_sub ?_
  | with_reducible refine de_mul ?_
  | with_reducible refine de_mod ?_
  | with_reducible refine de_div ?_
  | with_reducible refine de_pow ?_
  | with_reducible refine de_neg ?_
  | with_reducible refine de_tuple ?_
  | with_reducible refine de_list ?_
  | with_reducible refine de_ifExp ?_
  | with_reducible refine de_not ?_
  | with_reducible refine de_bool1 ?_
  | with_reducible refine de_and ?_
  | with_reducible refine de_or ?_
  | with_reducible refine de_revL ?_
  | with_reducible refine de_slice ?_
  | (with_reducible show DE _ _ (Expr.Subscript _ _ _) _ _); refine de_ix hu1 (fun _ _ => rfl) ?_
  | (with_reducible show DE _ _ (Expr.Compare _ [CmpOp.Is] _ _) _ _); refine de_isN ?_
  | (with_reducible show DE _ _ (Expr.Compare _ [CmpOp.Eq] _ _) _ _); refine de_cmp (op_eqAll hu) (nobehind _ (by decide) (by decide)) ?_
  | (with_reducible show DE _ _ (Expr.Compare _ [CmpOp.NotEq] _ _) _ _); refine de_cmp (op_neAll hu) (nobehind _ (by decide) (by decide)) ?_
  | (with_reducible show DE _ _ (Expr.Compare _ [CmpOp.Lt] _ _) _ _); refine de_cmp op_ltAll (nobehind _ (by decide) (by decide)) ?_
  | (with_reducible show DE _ _ (Expr.Compare _ [CmpOp.LtE] _ _) _ _); refine de_cmp op_leAll (nobehind _ (by decide) (by decide)) ?_
  | (with_reducible show DE _ _ (Expr.Compare _ [CmpOp.Gt] _ _) _ _); refine de_cmp op_gtAll (nobehind _ (by decide) (by decide)) ?_
  | (with_reducible show DE _ _ (Expr.Compare _ [CmpOp.GtE] _ _) _ _); refine de_cmp op_geAll (nobehind _ (by decide) (by decide)) ?_
  | (with_reducible show DE _ _ (Expr.Compare _ [CmpOp.In] _ _) _ _); refine de_cmp (op_inAll hu1) rfl ?_
  | (with_reducible show DE _ _ (Expr.Compare _ [CmpOp.NotIn] _ _) _ _); refine de_cmp (op_notInAll hu1) rfl ?_
  | (with_reducible show DE _ _ (Expr.Call (Expr.Attribute _ "append" _) [_] _ _) _ _); refine de_append ?_
  | (with_reducible show DE _ _ (Expr.Call (Expr.Attribute _ "pop" _) [_] _ _) _ _); refine de_popAt ?_
  | (with_reducible show DE _ _ (Expr.Call (Expr.Attribute _ "join" _) [_] _ _) _ _); refine de_join ?_)
local macro_rules | `(tactic| walk_at "bi") => `(tactic| first
  | (with_reducible show DE _ _ (Expr.Call (Expr.Name "isinstance" _) [_, Expr.Name "list" _] [] _) _ _); refine de_isi1 rfl n_isinstance rfl n_list boot_list ?_
  | (with_reducible show DE _ _ (Expr.Call (Expr.Name "isinstance" _) [_, Expr.Name "tuple" _] [] _) _ _); refine de_isi1 rfl n_isinstance rfl n_tuple boot_tuple ?_
  | (with_reducible show DE _ _ (Expr.Call (Expr.Name "isinstance" _) [_, Expr.Name "str" _] [] _) _ _); refine de_isi1 rfl n_isinstance rfl n_str boot_str ?_
  | (with_reducible show DE _ _ (Expr.Call (Expr.Name "isinstance" _) [_, Expr.Name "bool" _] [] _) _ _); refine de_isi1 rfl n_isinstance rfl n_bool boot_bool ?_
  | (with_reducible show DE _ _ (Expr.Call (Expr.Name "isinstance" _) [_, Expr.Name "int" _] [] _) _ _); refine de_isi1 rfl n_isinstance rfl n_int boot_int ?_
  | (with_reducible show DE _ _ (Expr.Call (Expr.Name "isinstance" _) [_, Expr.Tuple [Expr.Name "list" _, Expr.Name "tuple" _] _ _] [] _) _ _); refine de_isi2 rfl n_isinstance rfl n_list boot_list rfl n_tuple boot_tuple ?_
  | (with_reducible show DE _ _ (Expr.Call (Expr.Name "isinstance" _) [_, Expr.Tuple [Expr.Name "str" _, Expr.Name "bool" _] _ _] [] _) _ _); refine de_isi2 rfl n_isinstance rfl n_str boot_str rfl n_bool boot_bool ?_
  | (with_reducible show DE _ _ (Expr.Call (Expr.Name "len" _) _ [] _) _ _); refine de_callB call_lenA rfl n_len boot_len ?_
  | (with_reducible show DE _ _ (Expr.Call (Expr.Name "abs" _) _ [] _) _ _); refine de_callB call_abs rfl n_abs boot_abs ?_
  | (with_reducible show DE _ _ (Expr.Call (Expr.Name "int" _) _ [] _) _ _); refine de_callTy call_int1 rfl n_int boot_int ?_
  | (with_reducible show DE _ _ (Expr.Call (Expr.Name "list" _) _ [] _) _ _); refine de_callTy call_list_of rfl n_list boot_list ?_
  | (with_reducible show DE _ _ (Expr.Call (Expr.Name "tuple" _) _ [] _) _ _); refine de_callTy call_tuple_of rfl n_tuple boot_tuple ?_
  | (with_reducible show DE _ _ (Expr.Call (Expr.Name "sorted" _) _ [] _) _ _); refine de_callB (cr_sortD hu) rfl n_sorted boot_sorted ?_
  | (with_reducible show DE _ _ (Expr.Call (Expr.Name "sum" _) _ [] _) _ _); refine de_callB (cr_sum rfl) rfl n_sum boot_sum ?_
  | (with_reducible show DE _ _ (Expr.Call (Expr.Name "all" _) _ [] _) _ _); refine de_callB (cr_all rfl) rfl n_all boot_all ?_
  | (with_reducible show DE _ _ (Expr.Call (Expr.Name "any" _) _ [] _) _ _); refine de_callB (cr_any rfl) rfl n_any boot_any ?_
  | (with_reducible show DE _ _ (Expr.Call (Expr.Name "min" _) _ [] _) _ _); refine de_callB (call_minA rfl) rfl n_min boot_min ?_
  | (with_reducible show DE _ _ (Expr.Call (Expr.Name "max" _) _ [] _) _ _); refine de_callB (call_maxA rfl) rfl n_max boot_max ?_
  | (with_reducible show DE _ _ (Expr.Call (Expr.Name "dict" _) _ [] _) _ _); refine de_callTy (call_dictP rfl) rfl n_dict boot_dict ?_)
local macro_rules | `(tactic| walk_at "oa") => `(tactic| first
  | refine len_c (by walk_at "vw") (by first | exact Ln.lst _ | exact Ln.tup _ | exact Ln.dk _) ?_
  | refine abs_c (.fz _) ?_
  | refine int_b (.fz _) ?_
  | refine int_i (.fz _) ?_
  | refine list_t (.fz _) ?_
  | refine list_l (by walk_at "vw") ?_
  | refine tuple_t (.fz _) ?_
  | refine tuple_l (by walk_at "vw") ?_
  | refine mm_str (.fz _) (.fz _) ?_
  | refine mm_int (.fz _) (.fz _) ?_)
local macro_rules | `(tactic| walk_at "t1") => `(tactic| first
  | (with_reducible show DT _ _ (Expr.Compare _ [CmpOp.Is] _ _) _ _); refine dt_isN ?_
  | (with_reducible show DT _ _ (Expr.Compare _ [CmpOp.Eq] _ _) _ _); refine dt_cmp (op_eqAll hu) (nobehind _ (by decide) (by decide)) ?_
  | (with_reducible show DT _ _ (Expr.Compare _ [CmpOp.NotEq] _ _) _ _); refine dt_cmp (op_neAll hu) (nobehind _ (by decide) (by decide)) ?_
  | (with_reducible show DT _ _ (Expr.Compare _ [CmpOp.Lt] _ _) _ _); refine dt_cmp op_ltAll (nobehind _ (by decide) (by decide)) ?_
  | (with_reducible show DT _ _ (Expr.Compare _ [CmpOp.LtE] _ _) _ _); refine dt_cmp op_leAll (nobehind _ (by decide) (by decide)) ?_
  | (with_reducible show DT _ _ (Expr.Compare _ [CmpOp.Gt] _ _) _ _); refine dt_cmp op_gtAll (nobehind _ (by decide) (by decide)) ?_
  | (with_reducible show DT _ _ (Expr.Compare _ [CmpOp.GtE] _ _) _ _); refine dt_cmp op_geAll (nobehind _ (by decide) (by decide)) ?_
  | (with_reducible show DT _ _ (Expr.Compare _ [CmpOp.In] _ _) _ _); refine dt_cmp (op_inAll hu1) rfl ?_
  | (with_reducible show DT _ _ (Expr.Compare _ [CmpOp.NotIn] _ _) _ _); refine dt_cmp (op_notInAll hu1) rfl ?_
  | with_reducible refine dt_not ?_
  | with_reducible refine dt_bool ?_
  | (with_reducible show DT _ _ (Expr.Call _ _ _ _) _ _); refine dt_val ?_)
local macro_rules | `(tactic| walk_at "w1") => `(tactic| first
  | with_reducible refine dw_and1 ?_
  | with_reducible refine dw_or1 ?_
  | with_reducible refine dw_and ?_
  | with_reducible refine dw_or ?_)
local macro_rules | `(tactic| walk_at "a1") => `(tactic| first
  | with_reducible refine da_nil ?_
  | refine da_cons ?_)
local macro_rules | `(tactic| walk_at "o2") => `(tactic| first
  | (with_reducible show Op2 _ _ (rAddAll _) _ _ _ _); first | refine add_int (.fz _) (.fz _) ?_ | refine add_str (.fz _) (.fz _) (by walk_at "side") ?_ | refine add_tup (.fz _) (.fz _) (by walk_at "side") ?_ | refine add_lst (by walk_at "vw") (by walk_at "vw") (by walk_at "side") ?_
  | (with_reducible show Op2 _ _ (rIxAll _) _ _ _ _); first | refine ix_tpl (.fz _) (.fz _) rfl ?_ | refine ix_lst (by walk_at "vw") (.fz _) rfl ?_ | refine ix_tpl (.fz _) (.fz _) (by assumption) ?_ | refine ix_lst (by walk_at "vw") (.fz _) (by assumption) ?_ | refine ix_dk (by walk_at "vw") (.fz _) (k := .inr _) rfl (by assumption) ?_
  | (with_reducible show Op2 _ _ (rEqAll _) _ _ _ _); first | refine eq_int (.fz _) (.fz _) ?_ | refine eq_str (.fz _) (.fz _) ?_ | refine eq_bl (.fz _) (.fz _) ?_
  | (with_reducible show Op2 _ _ (rNeAll _) _ _ _ _); first | refine ne_int (.fz _) (.fz _) ?_ | refine ne_str (.fz _) (.fz _) ?_ | refine ne_bl (.fz _) (.fz _) ?_
  | refine op_ib0 (.fz _) (.fz _) ?_
  | refine lt_int (.fz _) (.fz _) ?_
  | refine lt_str (.fz _) (.fz _) ?_
  | refine in_dk (by walk_at "vw") (by walk_at "vw") rfl ?_)
local macro_rules | `(tactic| walk_at "o1") => `(tactic| first
  | refine cut_t (.fz _) ?_
  | refine cut_l (by walk_at "vw") ?_)
local macro_rules | `(tactic| walk_at "x1") => `(tactic| first
  | refine ⟨_, _, .fz _, rfl, kb_list rfl, ?_⟩
  | refine ⟨_, _, .fz _, rfl, kb_tuple rfl, ?_⟩
  | refine ⟨_, _, .fz _, rfl, kb_str rfl, ?_⟩
  | refine ⟨_, _, .fz _, rfl, kb_bool rfl, ?_⟩
  | refine ⟨_, _, .fz _, rfl, kb_int rfl, ?_⟩
  | refine ⟨_, _, _, .fz _, rfl, kb_list rfl, kb_tuple rfl, ?_⟩
  | refine ⟨_, _, _, .fz _, rfl, kb_str rfl, kb_bool rfl, ?_⟩
  | refine ⟨_, _, _, rfl, rfl, Put.lst rfl, ?_⟩
  | refine ⟨_, _, .fz _, .fz _, ?_⟩
  | refine ⟨_, .fz _, ?_⟩
  | refine ⟨_, rfl, ?_⟩
  | refine ⟨_, (.cons (.cons (.cons .nil))), ?_⟩
  | refine ⟨_, (.cons (.cons .nil)), ?_⟩
  | refine ⟨_, (.cons .nil), ?_⟩
  | refine ⟨_, (.cons (.cons (.cons (.cons .nil)))), ?_⟩
  | refine ⟨_, .nil, ?_⟩
  | refine ⟨_, (.cons (.cons (.cons (.cons (.cons .nil))))), ?_⟩
  | refine ⟨_, (.cons (.cons (.cons (.cons (.cons (.cons .nil)))))), ?_⟩
  | refine ⟨_, (.cons (.cons (.cons (.cons (.cons (.cons (.cons .nil))))))), ?_⟩
  | refine ⟨_, _, rfl, rfl, ?_⟩)
local macro_rules | `(tactic| walk_at "set") => `(tactic| first
  | refine ds_set (i := 0) nd rfl (by first | exact Or.inl rfl | exact Or.inr rfl) (by decide) ?_
  | refine ds_set (i := 1) nd rfl (by first | exact Or.inl rfl | exact Or.inr rfl) (by decide) ?_
  | refine ds_set (i := 2) nd rfl (by first | exact Or.inl rfl | exact Or.inr rfl) (by decide) ?_
  | refine ds_set (i := 3) nd rfl (by first | exact Or.inl rfl | exact Or.inr rfl) (by decide) ?_
  | refine ds_set (i := 4) nd rfl (by first | exact Or.inl rfl | exact Or.inr rfl) (by decide) ?_
  | refine ds_set (i := 5) nd rfl (by first | exact Or.inl rfl | exact Or.inr rfl) (by decide) ?_
  | refine ds_set (i := 6) nd rfl (by first | exact Or.inl rfl | exact Or.inr rfl) (by decide) ?_
  | refine ds_set (i := 7) nd rfl (by first | exact Or.inl rfl | exact Or.inr rfl) (by decide) ?_
  | refine ds_set (i := 8) nd rfl (by first | exact Or.inl rfl | exact Or.inr rfl) (by decide) ?_
  | refine ds_set (i := 9) nd rfl (by first | exact Or.inl rfl | exact Or.inr rfl) (by decide) ?_
  | refine ds_set (i := 10) nd rfl (by first | exact Or.inl rfl | exact Or.inr rfl) (by decide) ?_
  | refine ds_set (i := 11) nd rfl (by first | exact Or.inl rfl | exact Or.inr rfl) (by decide) ?_
  | refine ds_set (i := 12) nd rfl (by first | exact Or.inl rfl | exact Or.inr rfl) (by decide) ?_
  | refine ds_set (i := 13) nd rfl (by first | exact Or.inl rfl | exact Or.inr rfl) (by decide) ?_
  | refine ds_set (i := 14) nd rfl (by first | exact Or.inl rfl | exact Or.inr rfl) (by decide) ?_
  | refine ds_set (i := 15) nd rfl (by first | exact Or.inl rfl | exact Or.inr rfl) (by decide) ?_
  | refine ds_set (i := 16) nd rfl (by first | exact Or.inl rfl | exact Or.inr rfl) (by decide) ?_)
local macro_rules | `(tactic| walk_at "s1") => `(tactic| first
  | (with_reducible show DS _ _ (Stmt.Assign [Expr.Name _ _] _ _) _ _); walk_at "set"
  | with_reducible refine ds_ret ?_
  | with_reducible refine ds_if ?_
  | refine ds_store hu1 ?_
  | (with_reducible show DS _ _ (Stmt.Expr _ _) _ _); refine ds_expr ?_)
local macro_rules | `(tactic| walk_at "ss1") => `(tactic| first
  | refine dss_cons ?_
  | refine dss_nil ?_)
local macro_rules | `(tactic| walk_at "d1") => `(tactic| first
  | (with_reducible show DE _ _ _ _ _); walk_at "e1"
  | (with_reducible show Op2 _ _ _ _ _ _ _); walk_at "o2"
  | (with_reducible show DA _ _ _ _ _); walk_at "a1"
  | (with_reducible show DT _ _ _ _ _); walk_at "t1"
  | (with_reducible show DTs _ _ _ _ _); first | with_reducible refine dts_one ?_ | with_reducible refine dts_nil ?_
  | (with_reducible show DO _ _ _ _ _); first | with_reducible refine do_none ?_ | with_reducible refine do_some ?_
  | (with_reducible show DW _ _ _ _ _); walk_at "w1"
  | (with_reducible show DSs _ _ _ _ _); walk_at "ss1"
  | (with_reducible show DS _ _ _ _ _); walk_at "s1"
  | (with_reducible show Op1 _ _ _ _ _ _); walk_at "o1"
  | (with_reducible show OpA _ _ _ _ _ _); walk_at "oa"
  | (with_reducible show ∃ _, _); walk_at "x1"
  | (with_reducible show DEnds.nx _ _); dsimp only
  | (with_reducible show if _ = true then _ else _); first | refine if_t rfl ?_ | refine if_f rfl ?_
  | (with_reducible show DEnds.rt _ _ _); dsimp only
  | (with_reducible show _ ∧ _); refine ⟨(by walk_at "side"), ?_⟩)
local macro_rules | `(tactic| walk_at "d") => `(tactic| repeat walk_at "d1")
section
variable {P : Program} {w : World} {K : PySem.W.Frag} {mg : Str → Option Value} {base : Heap} {f : Addr} {fd : FuncData}
/-! ties_by -/
theorem val_zip {k : Key} {g : Addr} : ∀ {ks : List Key} {gs : List Addr} {t : Nat}, ks.Nodup → ks[t]? = some k → gs[t]? = some g → valV (zipK ks gs) k = some (.ref g)
  | [], _, _, _, h, _ => by simp at h
  | k0 :: ks, [], t, _, _, h => by simp at h
  | k0 :: ks, g0 :: gs, 0, _, h1, h2 => by
    simp at h1 h2
    subst h1; subst h2
    exact valV_pos (p := (k0, .ref g0)) rfl
  | k0 :: ks, g0 :: gs, t + 1, nd, h1, h2 => by
    have hne : ¬ k0 = k := fun z => by
      subst z
      rw [List.nodup_cons] at nd
      exact nd.1 (List.mem_of_getElem? (by simpa using h1))
    show valV ((k0, .ref g0) :: zipK ks gs) k = _
    rw [valV_neg (p := (k0, .ref g0)) hne]
    exact val_zip (List.nodup_cons.mp nd).2 (by simpa using h1) (by simpa using h2)
theorem map_set {α β : Type} [DecidableEq α] {f : α → β} {x : α} {c : β} : ∀ {xs : List α} {t : Nat}, xs.Nodup → xs[t]? = some x → (xs.map f).set t c = xs.map fun n => if n = x then c else f n
  | [], _, _, h => by simp at h
  | y :: ys, 0, nd, h => by
    simp at h
    subst h
    simp only [List.map_cons, List.set_cons_zero, if_true]
    congr 1
    apply List.map_congr_left
    intro n hn
    rw [if_neg (fun z : n = y => (List.nodup_cons.mp nd).1 (z ▸ hn))]
  | y :: ys, t + 1, nd, h => by
    have hne : ¬ y = x := fun z => by
      subst z
      exact (List.nodup_cons.mp nd).1 (List.mem_of_getElem? (by simpa using h))
    simp only [List.map_cons, List.set_cons_succ, if_neg hne]
    rw [map_set (List.nodup_cons.mp nd).2 (by simpa using h)]
abbrev N_ties_by : List Str := ["hall", "found", "one", "other", "mirror", "place"]
theorem nd_ties_by : N_ties_by.Nodup := by decide +kernel
theorem sc_ties_by : FnScope N_ties_by ["hall"] (defScope s_ties_by) := ⟨rfl, rfl, rfl, nd_ties_by, rfl, by decide +kernel, by decide +kernel⟩
def putIf (n a : Str) (b : Str) (g : Int) (acc : List (Key × D)) : List (Key × D) := if n = a then dput acc (.inr b) (.int g) else acc
def tieStep (n : Str) (acc : List (Key × D)) (t : Str × Str × Int) : List (Key × D) := putIf n t.2.1 t.1 t.2.2 (putIf n t.1 t.2.1 t.2.2 acc)
def tiesOf (n : Str) (ti : List (Str × Str × Int)) : List (Key × D) := ti.foldl (tieStep n) []
def namesOf (h : Hall) : List Str := h.pl.map (·.1)
def tiesD (h : Hall) : List (Key × D) := (namesOf h).map fun n => (.inr n, .dk (tiesOf n h.ti))
structure Sound (h : Hall) : Prop where
  pl : h.pl.length ≤ 1000
  ti : h.ti.length ≤ 1000
  nd : (namesOf h).Nodup
  mem : ∀ t ∈ h.ti, t.1 ∈ namesOf h ∧ t.2.1 ∈ namesOf h
  ne : ∀ t ∈ h.ti, t.1 ≠ t.2.1
  ok : ∀ n ∈ namesOf h, PyData.strOk n = true
theorem tiesOf_snoc (n : Str) (ti : List (Str × Str × Int)) (t : Str × Str × Int) : tiesOf n (ti ++ [t]) = tieStep n (tiesOf n ti) t := by simp [tiesOf, List.foldl_append]
theorem putIf_self {n b : Str} {g : Int} {acc : List (Key × D)} : putIf n n b g acc = dput acc (.inr b) (.int g) := if_pos rfl
theorem putIf_ne {n a b : Str} {g : Int} {acc : List (Key × D)} (h : ¬ n = a) : putIf n a b g acc = acc := if_neg h
theorem putIf_len (n a b : Str) (g : Int) (acc : List (Key × D)) : (putIf n a b g acc).length ≤ acc.length + 1 := by
  unfold putIf
  split
  · exact dput_le _ _ _
  · omega
theorem tiesOf_len (n : Str) (ti : List (Str × Str × Int)) : (tiesOf n ti).length ≤ 2 * ti.length := by
  have : ∀ acc : List (Key × D), (ti.foldl (tieStep n) acc).length ≤ acc.length + 2 * ti.length := by
    induction ti with
    | nil => intro acc; simp
    | cons p l ih =>
      intro acc
      rw [List.foldl_cons]
      have h1 := ih (tieStep n acc p)
      have h2 := putIf_len n p.2.1 p.1 p.2.2 (putIf n p.1 p.2.1 p.2.2 acc)
      have h3 := putIf_len n p.1 p.2.1 p.2.2 acc
      have h4 : (tieStep n acc p).length = (putIf n p.2.1 p.1 p.2.2 (putIf n p.1 p.2.1 p.2.2 acc)).length := rfl
      simp only [List.length_cons]
      omega
  simpa [tiesOf] using this []
def S_ties_by : FSp := fS (fun h : Hall => [.fz (hallD h)]) Sound (fun h => .ow (.dk (tiesD h)))
theorem inr_nodup {xs : List Str} (h : xs.Nodup) : (xs.map (Sum.inr : Str → Key)).Nodup := by
  refine List.Pairwise.map _ (fun a b hab z => hab ?_) h
  cases z; rfl
theorem ok_ties_by (F : FnP K "ties_by" s_ties_by f fd) : FnOk P w K mg base CX0 1 f fd ["hall"] (spOf K [] 1 S_ties_by) := by
  refine fn_ok (S := S_ties_by) 5 (by decide) (by decide) F sc_ties_by fun cdv A outer s H E b cs Post hr hcl hS => ?_
  obtain ⟨h, rfl, hh, q⟩ := hS
  have hu : (A.deeper (envOfC "ties_by" (defScope s_ties_by) s.heap.objs.size f cdv)).units + 64 < cLine := hr.units
  have hu1 : (A.deeper (envOfC "ties_by" (defScope s_ties_by) s.heap.objs.size f cdv)).units + 1 < cLine := by omega
  have nd := nd_ties_by
  change DSs _ b _ [.fz (hallD h), .no, .no, .no, .no, .no] _
  refine dss_nest (i := 1) [("place", 5)] rfl nd rfl rfl (sw_trueD rfl rfl rfl (by decide +kernel)) (by change BlkOk N_ties_by (defScope s_ties_by) _ _; walk_at "blk") (by simp) (by simp) (DI.a (di_tuple ?_))
  walk_at "d"
  refine ⟨by simp; have := hh.pl; omega, fun k ks e => ks = ((namesOf h).take k).map .inr ∧ e = [.fz (hallD h), .no, .no, .no, .no, .no], ⟨rfl, rfl⟩, ?_, ?_, ?_⟩
  · rintro k acc e ⟨rfl, rfl⟩
    refine ⟨trivial, by simp; omega, by simp⟩
  · rintro k d acc e hd ⟨rfl, rfl⟩ s1 H1 C1 cl1 fp1
    rw [List.getElem?_map] at hd
    cases hp : h.pl[k]? with
    | none => rw [hp] at hd; cases hd
    | some p =>
      rw [hp] at hd
      cases hd
      obtain ⟨na, fa, nu⟩ := p
      have hn : (namesOf h)[k]? = some na := by unfold namesOf; rw [List.getElem?_map, hp]; rfl
      have ht : (namesOf h).take (k + 1) = (namesOf h).take k ++ [na] := by rw [List.take_add_one, hn]; rfl
      refine dgo_name (i := 5) nd rfl (Or.inl rfl) (by first | exact Or.inl rfl | exact Or.inr rfl) (by decide) (by simp) (by simp) (fun j z => nomatch z) ?_
      intro s2 H2 C2 cl2 fp2
      walk_at "d"
      refine ⟨.inr na, rfl, ?_, ?_, rfl⟩
      · intro z
        have hnd := hh.nd
        have h3 : ((namesOf h).take (k + 1)).Nodup := hnd.sublist (List.take_sublist _ _)
        rw [ht] at h3
        rw [List.mem_map] at z
        obtain ⟨y, hy, e⟩ := z
        cases e
        rw [List.nodup_append] at h3
        exact h3.2.2 _ hy _ (by simp) rfl
      · rw [ht]; simp
  · rintro ks e ⟨rfl, rfl⟩
    refine ⟨by simp, fun gs hg => ?_⟩
    have ek : ((namesOf h).take (h.pl.map placeD).length) = namesOf h := List.take_of_length_le (by simp [namesOf])
    rw [ek] at hg ⊢
    have hgl : gs.length = (namesOf h).length := by simpa using hg
    refine gs_for rfl PassesOwn.never (di_tuple ?_)
    walk_at "d"
    refine ⟨fun k e g => g = (namesOf h).map (fun n => gC (tiesOf n (h.ti.take k))) ∧ ∃ c2 c3 c4, e = [.fz (hallD h), .ow (.raw (.dK (zipK ((namesOf h).map .inr) gs))), c2, c3, c4, .no], ?_, fun _ _ _ _ => trivial, ?_, ?_⟩
    · refine ⟨?_, _, _, _, rfl⟩
      apply List.ext_getElem?
      intro j
      rw [List.getElem?_map, List.getElem?_map]
      by_cases hj : j < gs.length
      · rw [List.getElem?_eq_getElem hj, List.getElem?_eq_getElem (by omega)]; rfl
      · rw [List.getElem?_eq_none (by omega), List.getElem?_eq_none (by omega)]; rfl
    · rintro k d e g hd ⟨rfl, c2, c3, c4, rfl⟩
      rw [List.getElem?_map] at hd
      cases hp : h.ti[k]? with
      | none => rw [hp] at hd; cases hd
      | some p =>
        rw [hp] at hd
        cases hd
        obtain ⟨x, y, gl⟩ := p
        have hm := hh.mem _ (List.mem_of_getElem? hp)
        obtain ⟨tx, hx⟩ := List.getElem?_of_mem hm.1
        obtain ⟨ty, hy⟩ := List.getElem?_of_mem hm.2
        have htx : tx < gs.length := by rw [hgl]; exact (List.getElem?_eq_some_iff.mp hx).1
        have hty : ty < gs.length := by rw [hgl]; exact (List.getElem?_eq_some_iff.mp hy).1
        have htk : h.ti.take (k + 1) = h.ti.take k ++ [(x, y, gl)] := by rw [List.take_add_one, hp]; rfl
        have hlen : ∀ n, (tiesOf n (h.ti.take k)).length ≤ 2000 := fun n => by
          have h1 := tiesOf_len n (h.ti.take k)
          have h2 : (h.ti.take k).length ≤ 1000 := by have := hh.ti; rw [List.length_take]; omega
          omega
        refine dg_tup (is := [2, 3, 4]) rfl nd (by walk_at "puts") rfl rfl rfl (by simp) ?_
        refine gss_cons (gs_nest hu1 (fun _ _ => rfl) ?_)
        walk_at "d"
        refine ⟨_, .inr x, gs[tx], tx, rfl, rfl, ?_, ?_, ?_⟩
        · exact val_zip (inr_nodup hh.nd) (by rw [List.getElem?_map, hx]; rfl) (List.getElem?_eq_getElem htx)
        · rw [List.getElem?_map, List.getElem?_eq_getElem htx]; rfl
        walk_at "d"
        refine ⟨.inr y, tiesOf x (h.ti.take k), rfl, by rw [List.getElem?_map, hx]; rfl, by have := hlen x; omega, ?_⟩
        rw [map_set hh.nd hx]
        refine gss_cons (gs_nest hu1 (fun _ _ => rfl) ?_)
        walk_at "d"
        refine ⟨_, .inr y, gs[ty], ty, rfl, rfl, ?_, ?_, ?_⟩
        · exact val_zip (inr_nodup hh.nd) (by rw [List.getElem?_map, hy]; rfl) (List.getElem?_eq_getElem hty)
        · rw [List.getElem?_map, List.getElem?_eq_getElem hty]; rfl
        walk_at "d"
        refine ⟨.inr x, putIf y x y gl (tiesOf y (h.ti.take k)), rfl, ?_, ?_, ?_⟩
        · rw [List.getElem?_map, hy]
          show some (if y = x then _ else _) = _
          unfold putIf
          by_cases e : y = x
          · rw [if_pos e, if_pos e, e]
          · rw [if_neg e, if_neg e]
        · have h1 := putIf_len y x y gl (tiesOf y (h.ti.take k))
          have h2 := hlen y
          omega
        rw [map_set hh.nd hy]
        refine gss_nil ⟨?_, _, _, _, rfl⟩
        apply List.map_congr_left
        intro n hn
        rw [htk, tiesOf_snoc]
        show _ = gC (putIf n y x gl (putIf n x y gl (tiesOf n (h.ti.take k))))
        by_cases e1 : n = y
        · subst e1
          rw [if_pos rfl]
          rw [putIf_self]
        · rw [if_neg e1]
          rw [putIf_ne e1]
          by_cases e2 : n = x
          · subst e2; rw [if_pos rfl, putIf_self]
          · rw [if_neg e2, putIf_ne e2]
    · rintro e g ⟨rfl, c2, c3, c4, rfl⟩
      refine ⟨(namesOf h).map (fun n => tiesOf n h.ti), ?_, rfl, ?_⟩
      · rw [List.map_map]
        have e1 : h.ti.take (h.ti.map tieD).length = h.ti := by simp
        rw [e1]; rfl
      · refine dss_cons (ds_retO ?_)
        walk_at "d"
        have ez : ((namesOf h).map (Sum.inr : Str → Key)).zip (((namesOf h).map fun n => tiesOf n h.ti).map D.dk) = tiesD h := by
          unfold tiesD
          rw [List.map_map, List.zip_map']
          rfl
        rw [ez]
        exact q _
end
end K13



set_option Elab.async false
set_option linter.all false
set_option maxRecDepth 100000
set_option maxHeartbeats 1000000
set_option pp.deepTerms false
set_option pp.deepTerms.threshold 6
set_option pp.oneline false
set_option pp.proofs false
namespace K13
open PySem PySem.Spec PyProof.Rows L2 DL
set_option hygiene false
local macro_rules | `(tactic| walk_at "vw") => `(tactic| first
  | exact Vw.fz _
  | exact Vw.al rfl
  | exact Vw.ow _ rfl)
local macro_rules | `(tactic| walk_at "puts") => `(tactic| repeat (first | exact DL.Puts.nil | refine DL.Puts.cons rfl (by first | exact Or.inl rfl | exact Or.inr rfl) (by first | exact Or.inl rfl | exact Or.inr rfl) rfl ?_))
local macro_rules | `(tactic| walk_at "blk") => `(tactic| exact ⟨rfl, by decide +kernel, by decide +kernel, by decide +kernel, by decide +kernel⟩)
local macro_rules | `(tactic| walk_at "vis") => `(tactic| first
  | exact Or.inl rfl
  | exact Or.inr (Or.inl rfl)
  | exact Or.inr (Or.inr rfl))
local macro_rules | `(tactic| walk_at "side") => `(tactic| first
  | assumption
  | omega
  | (simp only [List.length_set, List.length_cons, List.length_nil]; omega)
  | exact fun j z => (nomatch z)
  | (refine Or.inl ⟨?_, ?_⟩ <;> omega)
  | (refine Or.inr ⟨?_, ?_⟩ <;> omega)
  | decide
  | ((with_reducible show _ = _); rfl))
local macro_rules | `(tactic| walk_at "var") => `(tactic| first
  | refine de_var (i := 0) rfl (by walk_at "vis") rfl ?_ | refine de_var_ow (i := 0) (by decide) rfl (by walk_at "vis") rfl ?_
  | refine de_var (i := 1) rfl (by walk_at "vis") rfl ?_ | refine de_var_ow (i := 1) (by decide) rfl (by walk_at "vis") rfl ?_
  | refine de_var (i := 2) rfl (by walk_at "vis") rfl ?_ | refine de_var_ow (i := 2) (by decide) rfl (by walk_at "vis") rfl ?_
  | refine de_var (i := 3) rfl (by walk_at "vis") rfl ?_ | refine de_var_ow (i := 3) (by decide) rfl (by walk_at "vis") rfl ?_
  | refine de_var (i := 4) rfl (by walk_at "vis") rfl ?_ | refine de_var_ow (i := 4) (by decide) rfl (by walk_at "vis") rfl ?_
  | refine de_var (i := 5) rfl (by walk_at "vis") rfl ?_ | refine de_var_ow (i := 5) (by decide) rfl (by walk_at "vis") rfl ?_
  | refine de_var (i := 6) rfl (by walk_at "vis") rfl ?_ | refine de_var_ow (i := 6) (by decide) rfl (by walk_at "vis") rfl ?_
  | refine de_var (i := 7) rfl (by walk_at "vis") rfl ?_ | refine de_var_ow (i := 7) (by decide) rfl (by walk_at "vis") rfl ?_
  | refine de_var (i := 8) rfl (by walk_at "vis") rfl ?_ | refine de_var_ow (i := 8) (by decide) rfl (by walk_at "vis") rfl ?_
  | refine de_var (i := 9) rfl (by walk_at "vis") rfl ?_ | refine de_var_ow (i := 9) (by decide) rfl (by walk_at "vis") rfl ?_
  | refine de_var (i := 10) rfl (by walk_at "vis") rfl ?_ | refine de_var_ow (i := 10) (by decide) rfl (by walk_at "vis") rfl ?_
  | refine de_var (i := 11) rfl (by walk_at "vis") rfl ?_ | refine de_var_ow (i := 11) (by decide) rfl (by walk_at "vis") rfl ?_
  | refine de_var (i := 12) rfl (by walk_at "vis") rfl ?_ | refine de_var_ow (i := 12) (by decide) rfl (by walk_at "vis") rfl ?_
  | refine de_var (i := 13) rfl (by walk_at "vis") rfl ?_ | refine de_var_ow (i := 13) (by decide) rfl (by walk_at "vis") rfl ?_
  | refine de_var (i := 14) rfl (by walk_at "vis") rfl ?_ | refine de_var_ow (i := 14) (by decide) rfl (by walk_at "vis") rfl ?_
  | refine de_var (i := 15) rfl (by walk_at "vis") rfl ?_ | refine de_var_ow (i := 15) (by decide) rfl (by walk_at "vis") rfl ?_
  | refine de_var (i := 16) rfl (by walk_at "vis") rfl ?_ | refine de_var_ow (i := 16) (by decide) rfl (by walk_at "vis") rfl ?_)
local macro_rules | `(tactic| walk_at "const") => `(tactic| first
  | with_reducible refine de_int ?_
  | with_reducible refine de_str ?_
  | with_reducible refine de_bl ?_
  | with_reducible refine de_non ?_)
local macro_rules | `(tactic| walk_at "e1") => `(tactic| first
  | (with_reducible show DE _ _ (Expr.Name _ _) _ _); walk_at "var"
  | (with_reducible show DE _ _ (Expr.Constant _ _ _) _ _); walk_at "const"
  | (with_reducible show DE _ _ (Expr.Call (Expr.Name _ _) _ [] _) _ _); walk_at "bi"
  | with_reducible refine de_add ?_
  | with_reducible refine de_sub ?_
  | with_reducible refine de_mul ?_
  | with_reducible refine de_mod ?_
  | with_reducible refine de_div ?_
  | with_reducible refine de_pow ?_
  | with_reducible refine de_neg ?_
  | with_reducible refine de_tuple ?_
  | with_reducible refine de_list ?_
  | with_reducible refine de_ifExp ?_
  | with_reducible refine de_not ?_
  | with_reducible refine de_bool1 ?_
  | with_reducible refine de_and ?_
  | with_reducible refine de_or ?_
  | with_reducible refine de_revL ?_
  | with_reducible refine de_slice ?_
  | (with_reducible show DE _ _ (Expr.Subscript _ _ _) _ _); refine de_ix hu1 (fun _ _ => rfl) ?_
  | (with_reducible show DE _ _ (Expr.Compare _ [CmpOp.Is] _ _) _ _); refine de_isN ?_
  | (with_reducible show DE _ _ (Expr.Compare _ [CmpOp.Eq] _ _) _ _); refine de_cmp (op_eqAll hu) (nobehind _ (by decide) (by decide)) ?_
  | (with_reducible show DE _ _ (Expr.Compare _ [CmpOp.NotEq] _ _) _ _); refine de_cmp (op_neAll hu) (nobehind _ (by decide) (by decide)) ?_
  | (with_reducible show DE _ _ (Expr.Compare _ [CmpOp.Lt] _ _) _ _); refine de_cmp op_ltAll (nobehind _ (by decide) (by decide)) ?_
  | (with_reducible show DE _ _ (Expr.Compare _ [CmpOp.LtE] _ _) _ _); refine de_cmp op_leAll (nobehind _ (by decide) (by decide)) ?_
  | (with_reducible show DE _ _ (Expr.Compare _ [CmpOp.Gt] _ _) _ _); refine de_cmp op_gtAll (nobehind _ (by decide) (by decide)) ?_
  | (with_reducible show DE _ _ (Expr.Compare _ [CmpOp.GtE] _ _) _ _); refine de_cmp op_geAll (nobehind _ (by decide) (by decide)) ?_
  | (with_reducible show DE _ _ (Expr.Compare _ [CmpOp.In] _ _) _ _); refine de_cmp (op_inAll hu1) rfl ?_
  | (with_reducible show DE _ _ (Expr.Compare _ [CmpOp.NotIn] _ _) _ _); refine de_cmp (op_notInAll hu1) rfl ?_
  | (with_reducible show DE _ _ (Expr.Call (Expr.Attribute _ "append" _) [_] _ _) _ _); refine de_append ?_
  | (with_reducible show DE _ _ (Expr.Call (Expr.Attribute _ "pop" _) [_] _ _) _ _); refine de_popAt ?_
  | (with_reducible show DE _ _ (Expr.Call (Expr.Attribute _ "join" _) [_] _ _) _ _); refine de_join ?_)
local macro_rules | `(tactic| walk_at "bi") => `(tactic| first
  | (with_reducible show DE _ _ (Expr.Call (Expr.Name "isinstance" _) [_, Expr.Name "list" _] [] _) _ _); refine de_isi1 rfl n_isinstance rfl n_list boot_list ?_
  | (with_reducible show DE _ _ (Expr.Call (Expr.Name "isinstance" _) [_, Expr.Name "tuple" _] [] _) _ _); refine de_isi1 rfl n_isinstance rfl n_tuple boot_tuple ?_
  | (with_reducible show DE _ _ (Expr.Call (Expr.Name "isinstance" _) [_, Expr.Name "str" _] [] _) _ _); refine de_isi1 rfl n_isinstance rfl n_str boot_str ?_
  | (with_reducible show DE _ _ (Expr.Call (Expr.Name "isinstance" _) [_, Expr.Name "bool" _] [] _) _ _); refine de_isi1 rfl n_isinstance rfl n_bool boot_bool ?_
  | (with_reducible show DE _ _ (Expr.Call (Expr.Name "isinstance" _) [_, Expr.Name "int" _] [] _) _ _); refine de_isi1 rfl n_isinstance rfl n_int boot_int ?_
  | (with_reducible show DE _ _ (Expr.Call (Expr.Name "isinstance" _) [_, Expr.Tuple [Expr.Name "list" _, Expr.Name "tuple" _] _ _] [] _) _ _); refine de_isi2 rfl n_isinstance rfl n_list boot_list rfl n_tuple boot_tuple ?_
  | (with_reducible show DE _ _ (Expr.Call (Expr.Name "isinstance" _) [_, Expr.Tuple [Expr.Name "str" _, Expr.Name "bool" _] _ _] [] _) _ _); refine de_isi2 rfl n_isinstance rfl n_str boot_str rfl n_bool boot_bool ?_
  | (with_reducible show DE _ _ (Expr.Call (Expr.Name "len" _) _ [] _) _ _); refine de_callB call_lenA rfl n_len boot_len ?_
  | (with_reducible show DE _ _ (Expr.Call (Expr.Name "abs" _) _ [] _) _ _); refine de_callB call_abs rfl n_abs boot_abs ?_
  | (with_reducible show DE _ _ (Expr.Call (Expr.Name "int" _) _ [] _) _ _); refine de_callTy call_int1 rfl n_int boot_int ?_
  | (with_reducible show DE _ _ (Expr.Call (Expr.Name "list" _) _ [] _) _ _); refine de_callTy call_list_of rfl n_list boot_list ?_
  | (with_reducible show DE _ _ (Expr.Call (Expr.Name "tuple" _) _ [] _) _ _); refine de_callTy call_tuple_of rfl n_tuple boot_tuple ?_
  | (with_reducible show DE _ _ (Expr.Call (Expr.Name "sorted" _) _ [] _) _ _); refine de_callB (cr_sortD hu) rfl n_sorted boot_sorted ?_
  | (with_reducible show DE _ _ (Expr.Call (Expr.Name "sum" _) _ [] _) _ _); refine de_callB (cr_sum rfl) rfl n_sum boot_sum ?_
  | (with_reducible show DE _ _ (Expr.Call (Expr.Name "all" _) _ [] _) _ _); refine de_callB (cr_all rfl) rfl n_all boot_all ?_
  | (with_reducible show DE _ _ (Expr.Call (Expr.Name "any" _) _ [] _) _ _); refine de_callB (cr_any rfl) rfl n_any boot_any ?_
  | (with_reducible show DE _ _ (Expr.Call (Expr.Name "min" _) _ [] _) _ _); refine de_callB (call_minA rfl) rfl n_min boot_min ?_
  | (with_reducible show DE _ _ (Expr.Call (Expr.Name "max" _) _ [] _) _ _); refine de_callB (call_maxA rfl) rfl n_max boot_max ?_
  | (with_reducible show DE _ _ (Expr.Call (Expr.Name "dict" _) _ [] _) _ _); refine de_callTy (call_dictP rfl) rfl n_dict boot_dict ?_)
local macro_rules | `(tactic| walk_at "oa") => `(tactic| first
  | refine len_c (by walk_at "vw") (by first | exact Ln.lst _ | exact Ln.tup _ | exact Ln.dk _) ?_
  | refine abs_c (.fz _) ?_
  | refine int_b (.fz _) ?_
  | refine int_i (.fz _) ?_
  | refine list_t (.fz _) ?_
  | refine list_l (by walk_at "vw") ?_
  | refine tuple_t (.fz _) ?_
  | refine tuple_l (by walk_at "vw") ?_
  | refine mm_str (.fz _) (.fz _) ?_
  | refine mm_int (.fz _) (.fz _) ?_)
local macro_rules | `(tactic| walk_at "t1") => `(tactic| first
  | (with_reducible show DT _ _ (Expr.Compare _ [CmpOp.Is] _ _) _ _); refine dt_isN ?_
  | (with_reducible show DT _ _ (Expr.Compare _ [CmpOp.Eq] _ _) _ _); refine dt_cmp (op_eqAll hu) (nobehind _ (by decide) (by decide)) ?_
  | (with_reducible show DT _ _ (Expr.Compare _ [CmpOp.NotEq] _ _) _ _); refine dt_cmp (op_neAll hu) (nobehind _ (by decide) (by decide)) ?_
  | (with_reducible show DT _ _ (Expr.Compare _ [CmpOp.Lt] _ _) _ _); refine dt_cmp op_ltAll (nobehind _ (by decide) (by decide)) ?_
  | (with_reducible show DT _ _ (Expr.Compare _ [CmpOp.LtE] _ _) _ _); refine dt_cmp op_leAll (nobehind _ (by decide) (by decide)) ?_
  | (with_reducible show DT _ _ (Expr.Compare _ [CmpOp.Gt] _ _) _ _); refine dt_cmp op_gtAll (nobehind _ (by decide) (by decide)) ?_
  | (with_reducible show DT _ _ (Expr.Compare _ [CmpOp.GtE] _ _) _ _); refine dt_cmp op_geAll (nobehind _ (by decide) (by decide)) ?_
  | (with_reducible show DT _ _ (Expr.Compare _ [CmpOp.In] _ _) _ _); refine dt_cmp (op_inAll hu1) rfl ?_
  | (with_reducible show DT _ _ (Expr.Compare _ [CmpOp.NotIn] _ _) _ _); refine dt_cmp (op_notInAll hu1) rfl ?_
  | with_reducible refine dt_not ?_
  | with_reducible refine dt_bool ?_
  | (with_reducible show DT _ _ (Expr.Call _ _ _ _) _ _); refine dt_val ?_)
local macro_rules | `(tactic| walk_at "w1") => `(tactic| first
  | with_reducible refine dw_and1 ?_
  | with_reducible refine dw_or1 ?_
  | with_reducible refine dw_and ?_
  | with_reducible refine dw_or ?_)
local macro_rules | `(tactic| walk_at "a1") => `(tactic| first
  | with_reducible refine da_nil ?_
  | refine da_cons ?_)
local macro_rules | `(tactic| walk_at "o2") => `(tactic| first
  | (with_reducible show Op2 _ _ (rAddAll _) _ _ _ _); first | refine add_int (.fz _) (.fz _) ?_ | refine add_str (.fz _) (.fz _) (by walk_at "side") ?_ | refine add_tup (.fz _) (.fz _) (by walk_at "side") ?_ | refine add_lst (by walk_at "vw") (by walk_at "vw") (by walk_at "side") ?_
  | (with_reducible show Op2 _ _ (rIxAll _) _ _ _ _); first | refine ix_tpl (.fz _) (.fz _) rfl ?_ | refine ix_lst (by walk_at "vw") (.fz _) rfl ?_ | refine ix_tpl (.fz _) (.fz _) (by assumption) ?_ | refine ix_lst (by walk_at "vw") (.fz _) (by assumption) ?_ | refine ix_dk (by walk_at "vw") (.fz _) (k := .inr _) rfl (by assumption) ?_
  | (with_reducible show Op2 _ _ (rEqAll _) _ _ _ _); first | refine eq_int (.fz _) (.fz _) ?_ | refine eq_str (.fz _) (.fz _) ?_ | refine eq_bl (.fz _) (.fz _) ?_
  | (with_reducible show Op2 _ _ (rNeAll _) _ _ _ _); first | refine ne_int (.fz _) (.fz _) ?_ | refine ne_str (.fz _) (.fz _) ?_ | refine ne_bl (.fz _) (.fz _) ?_
  | refine op_ib0 (.fz _) (.fz _) ?_
  | refine lt_int (.fz _) (.fz _) ?_
  | refine lt_str (.fz _) (.fz _) ?_
  | refine in_dk (by walk_at "vw") (by walk_at "vw") rfl ?_)
local macro_rules | `(tactic| walk_at "o1") => `(tactic| first
  | refine cut_t (.fz _) ?_
  | refine cut_l (by walk_at "vw") ?_)
local macro_rules | `(tactic| walk_at "x1") => `(tactic| first
  | refine ⟨_, _, .fz _, rfl, kb_list rfl, ?_⟩
  | refine ⟨_, _, .fz _, rfl, kb_tuple rfl, ?_⟩
  | refine ⟨_, _, .fz _, rfl, kb_str rfl, ?_⟩
  | refine ⟨_, _, .fz _, rfl, kb_bool rfl, ?_⟩
  | refine ⟨_, _, .fz _, rfl, kb_int rfl, ?_⟩
  | refine ⟨_, _, _, .fz _, rfl, kb_list rfl, kb_tuple rfl, ?_⟩
  | refine ⟨_, _, _, .fz _, rfl, kb_str rfl, kb_bool rfl, ?_⟩
  | refine ⟨_, _, _, rfl, rfl, Put.lst rfl, ?_⟩
  | refine ⟨_, _, .fz _, .fz _, ?_⟩
  | refine ⟨_, .fz _, ?_⟩
  | refine ⟨_, rfl, ?_⟩
  | refine ⟨_, (.cons (.cons (.cons .nil))), ?_⟩
  | refine ⟨_, (.cons (.cons .nil)), ?_⟩
  | refine ⟨_, (.cons .nil), ?_⟩
  | refine ⟨_, (.cons (.cons (.cons (.cons .nil)))), ?_⟩
  | refine ⟨_, .nil, ?_⟩
  | refine ⟨_, (.cons (.cons (.cons (.cons (.cons .nil))))), ?_⟩
  | refine ⟨_, (.cons (.cons (.cons (.cons (.cons (.cons .nil)))))), ?_⟩
  | refine ⟨_, (.cons (.cons (.cons (.cons (.cons (.cons (.cons .nil))))))), ?_⟩
  | refine ⟨_, _, rfl, rfl, ?_⟩)
local macro_rules | `(tactic| walk_at "set") => `(tactic| first
  | refine ds_set (i := 0) nd rfl (by first | exact Or.inl rfl | exact Or.inr rfl) (by decide) ?_
  | refine ds_set (i := 1) nd rfl (by first | exact Or.inl rfl | exact Or.inr rfl) (by decide) ?_
  | refine ds_set (i := 2) nd rfl (by first | exact Or.inl rfl | exact Or.inr rfl) (by decide) ?_
  | refine ds_set (i := 3) nd rfl (by first | exact Or.inl rfl | exact Or.inr rfl) (by decide) ?_
  | refine ds_set (i := 4) nd rfl (by first | exact Or.inl rfl | exact Or.inr rfl) (by decide) ?_
  | refine ds_set (i := 5) nd rfl (by first | exact Or.inl rfl | exact Or.inr rfl) (by decide) ?_
  | refine ds_set (i := 6) nd rfl (by first | exact Or.inl rfl | exact Or.inr rfl) (by decide) ?_
  | refine ds_set (i := 7) nd rfl (by first | exact Or.inl rfl | exact Or.inr rfl) (by decide) ?_
  | refine ds_set (i := 8) nd rfl (by first | exact Or.inl rfl | exact Or.inr rfl) (by decide) ?_
  | refine ds_set (i := 9) nd rfl (by first | exact Or.inl rfl | exact Or.inr rfl) (by decide) ?_
  | refine ds_set (i := 10) nd rfl (by first | exact Or.inl rfl | exact Or.inr rfl) (by decide) ?_
  | refine ds_set (i := 11) nd rfl (by first | exact Or.inl rfl | exact Or.inr rfl) (by decide) ?_
  | refine ds_set (i := 12) nd rfl (by first | exact Or.inl rfl | exact Or.inr rfl) (by decide) ?_
  | refine ds_set (i := 13) nd rfl (by first | exact Or.inl rfl | exact Or.inr rfl) (by decide) ?_
  | refine ds_set (i := 14) nd rfl (by first | exact Or.inl rfl | exact Or.inr rfl) (by decide) ?_
  | refine ds_set (i := 15) nd rfl (by first | exact Or.inl rfl | exact Or.inr rfl) (by decide) ?_
  | refine ds_set (i := 16) nd rfl (by first | exact Or.inl rfl | exact Or.inr rfl) (by decide) ?_)
local macro_rules | `(tactic| walk_at "s1") => `(tactic| first
  | (with_reducible show DS _ _ (Stmt.Assign [Expr.Name _ _] _ _) _ _); walk_at "set"
  | with_reducible refine ds_ret ?_
  | with_reducible refine ds_if ?_
  | refine ds_store hu1 ?_
  | (with_reducible show DS _ _ (Stmt.Expr _ _) _ _); refine ds_expr ?_)
local macro_rules | `(tactic| walk_at "ss1") => `(tactic| first
  | refine dss_cons ?_
  | refine dss_nil ?_)
local macro_rules | `(tactic| walk_at "d1") => `(tactic| first
  | (with_reducible show DE _ _ _ _ _); walk_at "e1"
  | (with_reducible show Op2 _ _ _ _ _ _ _); walk_at "o2"
  | (with_reducible show DA _ _ _ _ _); walk_at "a1"
  | (with_reducible show DT _ _ _ _ _); walk_at "t1"
  | (with_reducible show DTs _ _ _ _ _); first | with_reducible refine dts_one ?_ | with_reducible refine dts_nil ?_
  | (with_reducible show DO _ _ _ _ _); first | with_reducible refine do_none ?_ | with_reducible refine do_some ?_
  | (with_reducible show DW _ _ _ _ _); walk_at "w1"
  | (with_reducible show DSs _ _ _ _ _); walk_at "ss1"
  | (with_reducible show DS _ _ _ _ _); walk_at "s1"
  | (with_reducible show Op1 _ _ _ _ _ _); walk_at "o1"
  | (with_reducible show OpA _ _ _ _ _ _); walk_at "oa"
  | (with_reducible show ∃ _, _); walk_at "x1"
  | (with_reducible show DEnds.nx _ _); dsimp only
  | (with_reducible show if _ = true then _ else _); first | refine if_t rfl ?_ | refine if_f rfl ?_
  | (with_reducible show DEnds.rt _ _ _); dsimp only
  | (with_reducible show _ ∧ _); refine ⟨(by walk_at "side"), ?_⟩)
local macro_rules | `(tactic| walk_at "d") => `(tactic| repeat walk_at "d1")
section
variable {P : Program} {w : World} {K : PySem.W.Frag} {mg : Str → Option Value} {base : Heap} {f : Addr} {fd : FuncData}
theorem do_none {X : Cx} {js : List Nat} {m : Nat} {b : Base js m} {env : List Cell} {Q : Option Int → List Cell → Prop} (h : Q none env) : DO X b none env Q := h
theorem do_some {X : Cx} {js : List Nat} {m : Nat} {b : Base js m} {env : List Cell} {e : Expr} {Q : Option Int → List Cell → Prop} (h : DE X b e env fun c env1 => ∃ i, c = .fz (.int i) ∧ Q (some i) env1) : DO X b (some e) env Q := h
/-! ### tables -/
theorem dget_dput {κ : Type} [DecidableEq κ] (kvs : List (κ × D)) (k k' : κ) (d : D) : dget (dput kvs k d) k' = if k = k' then some d else dget kvs k' := by
  induction kvs with
  | nil =>
    unfold dput
    simp only [List.any_nil, Bool.false_eq_true, if_false, List.nil_append]
    by_cases h : k = k'
    · rw [dget_pos (p := (k, d)) h, if_pos h]
    · rw [dget_neg (p := (k, d)) h, if_neg h]
  | cons p r ih =>
    obtain ⟨j, v⟩ := p
    by_cases hj : j = k
    · have e : dput ((j, v) :: r) k d = (j, d) :: r.map (fun kv => if kv.1 = k then (kv.1, d) else kv) := by
        unfold dput
        rw [if_pos (by simp [hj])]
        simp [hj]
      rw [e]
      by_cases h : k = k'
      · rw [if_pos h, dget_pos (p := (j, d)) (hj.trans h)]
      · rw [if_neg h, dget_neg (p := (j, d)) (fun z => h (hj.symm.trans z)), dget_neg (p := (j, v)) (fun z => h (hj.symm.trans z))]
        clear ih e
        induction r with
        | nil => rfl
        | cons q r ih =>
          obtain ⟨i, u⟩ := q
          rw [List.map_cons]
          by_cases hi : i = k
          · rw [if_pos hi, dget_neg (p := (i, d)) (fun z => h (hi.symm.trans z)), dget_neg (p := (i, u)) (fun z => h (hi.symm.trans z))]
            exact ih
          · rw [if_neg hi]
            by_cases hk : i = k'
            · rw [dget_pos (p := (i, u)) hk, dget_pos (p := (i, u)) hk]
            · rw [dget_neg (p := (i, u)) hk, dget_neg (p := (i, u)) hk]
              exact ih
    · have e : dput ((j, v) :: r) k d = (j, v) :: dput r k d := by
        unfold dput
        by_cases ha : (r.any fun kv => decide (kv.1 = k)) = true
        · rw [if_pos ha, if_pos (by simp [hj, ha])]
          simp [hj]
        · rw [if_neg ha, if_neg (by simp [hj, ha])]
          rfl
      rw [e]
      by_cases h : j = k'
      · rw [dget_pos (p := (j, v)) h, dget_pos (p := (j, v)) h, if_neg (fun z => hj (h.trans z.symm))]
      · rw [dget_neg (p := (j, v)) h, dget_neg (p := (j, v)) h]
        exact ih
/-- the glass between n and m -/
def between (n m : Str) (t : Str × Str × Int) : Prop := (n = t.1 ∧ m = t.2.1) ∨ (n = t.2.1 ∧ m = t.1)
instance (n m : Str) (t : Str × Str × Int) : Decidable (between n m t) := by unfold between; infer_instance
def glass (n m : Str) (ti : List (Str × Str × Int)) : Option Int := ti.foldl (fun acc t => if between n m t then some t.2.2 else acc) none
theorem glass_snoc (n m : Str) (ti : List (Str × Str × Int)) (t : Str × Str × Int) : glass n m (ti ++ [t]) = if between n m t then some t.2.2 else glass n m ti := by simp [glass, List.foldl_append]
theorem dget_tieStep (n m : Str) (acc : List (Key × D)) (t : Str × Str × Int) : dget (tieStep n acc t) (.inr m) = if between n m t then some (.int t.2.2) else dget acc (.inr m) := by
  have inrE : ∀ a b : Str, (((Sum.inr a : Key)) = (Sum.inr b : Key)) = (a = b) := fun a b => by simp
  have h1 : ∀ (a c : Str) (g : Int) (acc : List (Key × D)), dget (putIf n a c g acc) (.inr m) = if n = a ∧ m = c then some (.int g) else dget acc (.inr m) := fun a c g acc => by
    unfold putIf
    by_cases h : n = a
    · rw [if_pos h, dget_dput]
      simp only [inrE]
      by_cases hc : c = m
      · rw [if_pos hc, if_pos ⟨h, hc.symm⟩]
      · rw [if_neg hc, if_neg (fun z => hc z.2.symm)]
    · rw [if_neg h, if_neg (fun z => h z.1)]
  unfold tieStep
  rw [h1, h1]
  by_cases a : n = t.1 ∧ m = t.2.1
  · have hb : between n m t := .inl a
    by_cases c : n = t.2.1 ∧ m = t.1
    · rw [if_pos c, if_pos hb]
    · rw [if_neg c, if_pos a, if_pos hb]
  · by_cases c : n = t.2.1 ∧ m = t.1
    · have hb : between n m t := .inr c
      rw [if_pos c, if_pos hb]
    · have hb : ¬ between n m t := fun z => Or.elim z a c
      rw [if_neg c, if_neg a, if_neg hb]
theorem dget_tiesOf (n m : Str) (ti : List (Str × Str × Int)) : dget (tiesOf n ti) (.inr m) = (glass n m ti).map .int := by
  have : ∀ (acc : List (Key × D)) (o : Option Int), dget acc (.inr m) = o.map .int → dget (ti.foldl (tieStep n) acc) (.inr m) = (ti.foldl (fun acc t => if between n m t then some t.2.2 else acc) o).map .int := by
    induction ti with
    | nil => intro acc o h; exact h
    | cons t l ih =>
      intro acc o h
      rw [List.foldl_cons, List.foldl_cons]
      refine ih _ _ ?_
      rw [dget_tieStep, h]
      by_cases hb : between n m t
      · rw [if_pos hb, if_pos hb]; rfl
      · rw [if_neg hb, if_neg hb]
  exact this [] none rfl
theorem dget_tiesD (h : Hall) {n : Str} (hn : n ∈ namesOf h) : dget (tiesD h) (.inr n) = some (.dk (tiesOf n h.ti)) := by
  unfold tiesD
  revert hn
  generalize namesOf h = ns
  intro hn
  induction ns with
  | nil => cases hn
  | cons m ns ih =>
    rw [List.map_cons]
    by_cases e : m = n
    · subst e; exact dget_pos (p := ((Sum.inr m : Key), D.dk (tiesOf m h.ti))) rfl
    · rw [dget_neg (p := ((.inr m : Key), D.dk (tiesOf m h.ti))) (fun z => e (by cases z; rfl))]
      exact ih (by rcases List.mem_cons.mp hn with z | z; exact absurd z.symm e; exact z)
/-! behind_one -/
def stepPl (h : Hall) (n : Str) (p : Str × Int × Int) : Option (Str × Int × Int) :=
  match glass n p.1 h.ti with
  | some g => some (p.1, mirrored h.w p.2 g)
  | none => if p.1 = n then none else some p
def away (n : Str) (t : Str × Str × Int) : Bool := !decide (n = t.1 ∨ n = t.2.1)
def behindOne (h : Hall) (n : Str) : Hall := ⟨h.w, h.pl.filterMap (stepPl h n), h.ti.filter (away n)⟩
abbrev N_behind_one : List Str := ["hall", "name", "wheel", "places", "ties", "mirrors", "found", "other", "face", "number", "tie"]
theorem nd_behind_one : N_behind_one.Nodup := by decide +kernel
theorem sc_behind_one : FnScope N_behind_one ["hall", "name"] (defScope s_behind_one) := ⟨rfl, rfl, rfl, nd_behind_one, rfl, by decide +kernel, by decide +kernel⟩
def S_behind_one : FSp := fS (fun a : Hall × Str => [.fz (hallD a.1), .fz (.str a.2)]) (fun a => Sound a.1 ∧ 0 ≤ a.1.w ∧ a.2 ∈ namesOf a.1) (fun a => .fz (hallD (behindOne a.1 a.2)))
theorem ok_behind_one {t1 t2 : Tok} {fC fM fT : Addr} {fdC fdM fdT : FuncData} (g_LIGHT : mg "LIGHT" = some (.int 1 t1)) (g_DARK : mg "DARK" = some (.int 0 t2)) (n_tuple : mg "tuple" = none) (F_counted : FnP K "counted" s_counted fC fdC) (g_counted : mg "counted" = some (.ref fC)) (F_mirrored : FnP K "mirrored" s_mirrored fM fdM) (g_mirrored : mg "mirrored" = some (.ref fM))
    (F_ties_by : FnP K "ties_by" s_ties_by fT fdT) (g_ties_by : mg "ties_by" = some (.ref fT)) (F : FnP K "behind_one" s_behind_one f fd) : FnOk P w K mg base CX0 3 f fd ["hall", "name"] (spOf K [] 2 S_behind_one) := by
  have G_mirrored : FnOk P w K mg base CX0 2 fM fdM _ _ := ok_mirrored g_LIGHT g_DARK F_counted g_counted F_mirrored
  have b_mirrored : Binds K fdM ["wheel", "card", "mirror"] [] := F_mirrored.bindsN fun _ _ _ _ _ _ us hl => match us, hl with | [_, _, _], _ => rfl
  have G_ties_by : FnOk P w K mg base CX0 1 fT fdT _ _ := ok_ties_by F_ties_by
  have b_ties_by : Binds K fdT ["hall"] [] := F_ties_by.bindsN fun _ _ _ _ _ _ us hl => match us, hl with | [_], _ => rfl
  refine fn_ok (S := S_behind_one) 10 (by decide) (by decide) F sc_behind_one fun cdv A outer s H E b cs Post hr hcl hS => ?_
  obtain ⟨⟨h, na⟩, rfl, ⟨hh, hw, hn⟩, q⟩ := hS
  have hh : Sound h := hh
  have hw : 0 ≤ h.w := hw
  have hn : na ∈ namesOf h := hn
  have hu : (A.deeper (envOfC "behind_one" (defScope s_behind_one) s.heap.objs.size f cdv)).units + 64 < cLine := hr.units
  have hu1 : (A.deeper (envOfC "behind_one" (defScope s_behind_one) s.heap.objs.size f cdv)).units + 1 < cLine := by omega
  have nd := nd_behind_one
  change DSs _ b _ [.fz (hallD h), .fz (.str na), .no, .no, .no, .no, .no, .no, .no, .no, .no] _
  refine dss_cons (ds_asg ?_)
  walk_at "d"
  refine dg_tup (is := [2, 3, 4]) rfl nd (by walk_at "puts") rfl rfl rfl (by simp) ?_
  refine dss_cons (ds_par (i := 5) (j := 6) rfl nd rfl rfl (by decide) rfl rfl (by simp) (by simp) ?_)
  walk_at "d"
  refine de_call G_ties_by fS_mono (hr.mono (by decide)) rfl g_ties_by F_ties_by.kp b_ties_by ?_
  walk_at "d"
  refine ⟨h, rfl, hh, fun e => ?_⟩
  walk_at "d"
  refine ix_dk (.ow _) (.fz _) (k := .inr na) rfl (dget_tiesD h hn) ?_
  walk_at "d"
  refine ⟨_, _, rfl, fun j z => (nomatch z), fun j z => (nomatch z), by simp [setAll], by simp [setAll], ?_⟩
  refine dss_cons (ds_for rfl PassesOwn.never (di_tuple ?_))
  walk_at "d"
  refine ⟨fun k e => ∃ c7 c8 c9, e = [.fz (hallD h), .fz (.str na), .fz (.int h.w), .fz (.tup (h.pl.map placeD)), .fz (.tup (h.ti.map tieD)), .fz (.dk (tiesOf na h.ti)), .ow (.lst (((h.pl.take k).filterMap (stepPl h na)).map placeD)), c7, c8, c9, .no], ⟨_, _, _, rfl⟩, fun _ _ _ => trivial, ?_, ?_⟩
  · rintro k d e hd ⟨c7, c8, c9, rfl⟩
    rw [List.getElem?_map] at hd
    cases hp : h.pl[k]? with
    | none => rw [hp] at hd; cases hd
    | some p =>
      rw [hp] at hd
      cases hd
      obtain ⟨o, fa, nu⟩ := p
      have htk : h.pl.take (k + 1) = h.pl.take k ++ [(o, fa, nu)] := by rw [List.take_add_one, hp]; rfl
      have hfl : (((h.pl.take k).filterMap (stepPl h na)).map placeD).length < 100000 := by
        rw [List.length_map]
        have h1 := List.length_filterMap_le (stepPl h na) (h.pl.take k)
        have h2 : (h.pl.take k).length ≤ 1000 := by have := hh.pl; rw [List.length_take]; omega
        omega
      refine dg_tup (is := [7, 8, 9]) rfl nd (by walk_at "puts") rfl rfl rfl (by simp) ?_
      walk_at "d"
      refine in_dk (k := .inr o) (.fz _) (.fz _) rfl ?_
      walk_at "d"
      have hgl := dget_tiesOf na o h.ti
      refine ite_b (fun ht => ?_) (fun ht => ?_)
      · have ht : (dget (tiesOf na h.ti) (.inr o)).isSome = true := ht
        cases hg : glass na o h.ti with
        | none => rw [hgl, hg] at ht; cases ht
        | some g =>
          rw [hg] at hgl
          walk_at "d"
          refine de_call G_mirrored fS_mono (hr.mono (by decide)) rfl g_mirrored F_mirrored.kp b_mirrored ?_
          walk_at "d"
          refine ⟨(h.w, (fa, nu), g), rfl, hw, fun e => ?_⟩
          walk_at "d"
          have e : ((h.pl.take (k + 1)).filterMap (stepPl h na)).map placeD = ((h.pl.take k).filterMap (stepPl h na)).map placeD ++ [placeD (o, mirrored h.w (fa, nu) g)] := by
            rw [htk]
            simp [stepPl, hg]
          rw [e]
          exact ⟨_, _, _, rfl⟩
      · have ht : (dget (tiesOf na h.ti) (.inr o)).isSome = false := ht
        have hg : glass na o h.ti = none := by
          cases hg : glass na o h.ti with
          | none => rfl
          | some g => rw [hgl, hg] at ht; cases ht
        walk_at "d"
        refine ite_b (fun ht2 => ?_) (fun ht2 => ?_)
        · have ht2 : ¬ o = na := by simpa using ht2
          walk_at "d"
          have e : ((h.pl.take (k + 1)).filterMap (stepPl h na)).map placeD = ((h.pl.take k).filterMap (stepPl h na)).map placeD ++ [placeD (o, fa, nu)] := by
            rw [htk]
            simp [stepPl, hg, ht2]
          rw [e]
          exact ⟨_, _, _, rfl⟩
        · have ht2 : o = na := by simpa using ht2
          walk_at "d"
          have e : ((h.pl.take (k + 1)).filterMap (stepPl h na)).map placeD = ((h.pl.take k).filterMap (stepPl h na)).map placeD := by
            subst ht2
            rw [htk]
            simp [stepPl, hg]
          rw [e]
          exact ⟨_, _, _, rfl⟩
  · rintro e ⟨c7, c8, c9, rfl⟩
    have e0 : h.pl.take (h.pl.map placeD).length = h.pl := by simp
    rw [e0]
    walk_at "d"
    refine de_lc [("tie", 10)] rfl nd (by change BlkOk N_behind_one (defScope s_behind_one) _ _; walk_at "blk") (by simp) (DI.a (di_tuple ?_))
    walk_at "d"
    have hti := hh.ti
    refine ⟨by simp; omega, fun k acc e => acc = ((h.ti.take k).filter (away na)).map tieD ∧ e = [.fz (hallD h), .fz (.str na), .fz (.int h.w), .fz (.tup (h.pl.map placeD)), .fz (.tup (h.ti.map tieD)), .fz (.dk (tiesOf na h.ti)), .ow (.lst ((h.pl.filterMap (stepPl h na)).map placeD)), c7, c8, c9, .no], ⟨rfl, rfl⟩, ?_, ?_, ?_⟩
    · rintro k acc e ⟨rfl, rfl⟩
      refine ⟨trivial, ?_, by simp⟩
      rw [List.length_map]
      exact Nat.le_trans (List.length_filter_le _ _) (by rw [List.length_take]; omega)
    · rintro k d acc e hd ⟨rfl, rfl⟩ s1 H1 C1 cl1 fp1
      rw [List.getElem?_map] at hd
      cases hp : h.ti[k]? with
      | none => rw [hp] at hd; cases hd
      | some p =>
        rw [hp] at hd
        cases hd
        obtain ⟨x, y, g⟩ := p
        have htk : h.ti.take (k + 1) = h.ti.take k ++ [(x, y, g)] := by rw [List.take_add_one, hp]; rfl
        refine dgo_name (i := 10) nd rfl (Or.inl rfl) (by first | exact Or.inl rfl | exact Or.inr rfl) (by decide) (by simp) (by simp) (fun j z => nomatch z) ?_
        intro s2 H2 C2 cl2 fp2
        walk_at "d"
        refine in_tup (.fz _) (.fz _) rfl rfl ⟨_, rfl, ?_⟩
        have ea : (if true = true then !inD (.str na) [.str x, .str y] else inD (.str na) [.str x, .str y]) = away na (x, y, g) := by
          rw [if_pos rfl]
          have := inD_str na [x, y]
          simp only [List.map_cons, List.map_nil] at this
          rw [this]
          unfold away
          congr 1
          simp
        refine ite_b (fun hf => ?_) (fun hf => ?_)
        · have hf := ea.symm.trans hf
          intro s3 H3 C3 cl3 fp3
          walk_at "d"
          refine ⟨?_, rfl⟩
          rw [htk]
          simp [hf]
        · have hf := ea.symm.trans hf
          refine ⟨?_, rfl⟩
          rw [htk]
          simp [hf]
    · rintro acc e ⟨rfl, rfl⟩
      have e1 : h.ti.take (h.ti.map tieD).length = h.ti := by simp
      rw [e1]
      walk_at "d"
      exact q _
end
end K13



set_option Elab.async false
set_option linter.all false
set_option maxRecDepth 100000
set_option maxHeartbeats 1000000
set_option pp.deepTerms false
set_option pp.deepTerms.threshold 6
set_option pp.oneline false
set_option pp.proofs false
namespace K13
open PySem PySem.Spec PyProof.Rows L2 DL
set_option hygiene false
local macro_rules | `(tactic| walk_at "vw") => `(tactic| first
  | exact Vw.fz _
  | exact Vw.al rfl
  | exact Vw.ow _ rfl)
local macro_rules | `(tactic| walk_at "puts") => `(tactic| repeat (first | exact DL.Puts.nil | refine DL.Puts.cons rfl (by first | exact Or.inl rfl | exact Or.inr rfl) (by first | exact Or.inl rfl | exact Or.inr rfl) rfl ?_))
local macro_rules | `(tactic| walk_at "blk") => `(tactic| exact ⟨rfl, by decide +kernel, by decide +kernel, by decide +kernel, by decide +kernel⟩)
local macro_rules | `(tactic| walk_at "vis") => `(tactic| first
  | exact Or.inl rfl
  | exact Or.inr (Or.inl rfl)
  | exact Or.inr (Or.inr rfl))
local macro_rules | `(tactic| walk_at "side") => `(tactic| first
  | assumption
  | omega
  | (simp only [List.length_set, List.length_cons, List.length_nil]; omega)
  | exact fun j z => (nomatch z)
  | (refine Or.inl ⟨?_, ?_⟩ <;> omega)
  | (refine Or.inr ⟨?_, ?_⟩ <;> omega)
  | decide
  | ((with_reducible show _ = _); rfl))
local macro_rules | `(tactic| walk_at "var") => `(tactic| first
  | refine de_var (i := 0) rfl (by walk_at "vis") rfl ?_ | refine de_var_ow (i := 0) (by decide) rfl (by walk_at "vis") rfl ?_
  | refine de_var (i := 1) rfl (by walk_at "vis") rfl ?_ | refine de_var_ow (i := 1) (by decide) rfl (by walk_at "vis") rfl ?_
  | refine de_var (i := 2) rfl (by walk_at "vis") rfl ?_ | refine de_var_ow (i := 2) (by decide) rfl (by walk_at "vis") rfl ?_
  | refine de_var (i := 3) rfl (by walk_at "vis") rfl ?_ | refine de_var_ow (i := 3) (by decide) rfl (by walk_at "vis") rfl ?_
  | refine de_var (i := 4) rfl (by walk_at "vis") rfl ?_ | refine de_var_ow (i := 4) (by decide) rfl (by walk_at "vis") rfl ?_
  | refine de_var (i := 5) rfl (by walk_at "vis") rfl ?_ | refine de_var_ow (i := 5) (by decide) rfl (by walk_at "vis") rfl ?_
  | refine de_var (i := 6) rfl (by walk_at "vis") rfl ?_ | refine de_var_ow (i := 6) (by decide) rfl (by walk_at "vis") rfl ?_
  | refine de_var (i := 7) rfl (by walk_at "vis") rfl ?_ | refine de_var_ow (i := 7) (by decide) rfl (by walk_at "vis") rfl ?_
  | refine de_var (i := 8) rfl (by walk_at "vis") rfl ?_ | refine de_var_ow (i := 8) (by decide) rfl (by walk_at "vis") rfl ?_
  | refine de_var (i := 9) rfl (by walk_at "vis") rfl ?_ | refine de_var_ow (i := 9) (by decide) rfl (by walk_at "vis") rfl ?_
  | refine de_var (i := 10) rfl (by walk_at "vis") rfl ?_ | refine de_var_ow (i := 10) (by decide) rfl (by walk_at "vis") rfl ?_
  | refine de_var (i := 11) rfl (by walk_at "vis") rfl ?_ | refine de_var_ow (i := 11) (by decide) rfl (by walk_at "vis") rfl ?_
  | refine de_var (i := 12) rfl (by walk_at "vis") rfl ?_ | refine de_var_ow (i := 12) (by decide) rfl (by walk_at "vis") rfl ?_
  | refine de_var (i := 13) rfl (by walk_at "vis") rfl ?_ | refine de_var_ow (i := 13) (by decide) rfl (by walk_at "vis") rfl ?_
  | refine de_var (i := 14) rfl (by walk_at "vis") rfl ?_ | refine de_var_ow (i := 14) (by decide) rfl (by walk_at "vis") rfl ?_
  | refine de_var (i := 15) rfl (by walk_at "vis") rfl ?_ | refine de_var_ow (i := 15) (by decide) rfl (by walk_at "vis") rfl ?_
  | refine de_var (i := 16) rfl (by walk_at "vis") rfl ?_ | refine de_var_ow (i := 16) (by decide) rfl (by walk_at "vis") rfl ?_)
local macro_rules | `(tactic| walk_at "const") => `(tactic| first
  | with_reducible refine de_int ?_
  | with_reducible refine de_str ?_
  | with_reducible refine de_bl ?_
  | with_reducible refine de_non ?_)
local macro_rules | `(tactic| walk_at "e1") => `(tactic| first
  | (with_reducible show DE _ _ (Expr.Name _ _) _ _); walk_at "var"
  | (with_reducible show DE _ _ (Expr.Constant _ _ _) _ _); walk_at "const"
  | (with_reducible show DE _ _ (Expr.Call (Expr.Name _ _) _ [] _) _ _); walk_at "bi"
  | with_reducible refine de_add ?_
  | with_reducible refine de_sub ?_
  | with_reducible refine de_mul ?_
  | with_reducible refine de_mod ?_
  | with_reducible refine de_div ?_
  | with_reducible refine de_pow ?_
  | with_reducible refine de_neg ?_
  | with_reducible refine de_tuple ?_
  | with_reducible refine de_list ?_
  | with_reducible refine de_ifExp ?_
  | with_reducible refine de_not ?_
  | with_reducible refine de_bool1 ?_
  | with_reducible refine de_and ?_
  | with_reducible refine de_or ?_
  | with_reducible refine de_revL ?_
  | with_reducible refine de_slice ?_
  | (with_reducible show DE _ _ (Expr.Subscript _ _ _) _ _); refine de_ix hu1 (fun _ _ => rfl) ?_
  | (with_reducible show DE _ _ (Expr.Compare _ [CmpOp.Is] _ _) _ _); refine de_isN ?_
  | (with_reducible show DE _ _ (Expr.Compare _ [CmpOp.Eq] _ _) _ _); refine de_cmp (op_eqAll hu) (nobehind _ (by decide) (by decide)) ?_
  | (with_reducible show DE _ _ (Expr.Compare _ [CmpOp.NotEq] _ _) _ _); refine de_cmp (op_neAll hu) (nobehind _ (by decide) (by decide)) ?_
  | (with_reducible show DE _ _ (Expr.Compare _ [CmpOp.Lt] _ _) _ _); refine de_cmp op_ltAll (nobehind _ (by decide) (by decide)) ?_
  | (with_reducible show DE _ _ (Expr.Compare _ [CmpOp.LtE] _ _) _ _); refine de_cmp op_leAll (nobehind _ (by decide) (by decide)) ?_
  | (with_reducible show DE _ _ (Expr.Compare _ [CmpOp.Gt] _ _) _ _); refine de_cmp op_gtAll (nobehind _ (by decide) (by decide)) ?_
  | (with_reducible show DE _ _ (Expr.Compare _ [CmpOp.GtE] _ _) _ _); refine de_cmp op_geAll (nobehind _ (by decide) (by decide)) ?_
  | (with_reducible show DE _ _ (Expr.Compare _ [CmpOp.In] _ _) _ _); refine de_cmp (op_inAll hu1) rfl ?_
  | (with_reducible show DE _ _ (Expr.Compare _ [CmpOp.NotIn] _ _) _ _); refine de_cmp (op_notInAll hu1) rfl ?_
  | (with_reducible show DE _ _ (Expr.Call (Expr.Attribute _ "append" _) [_] _ _) _ _); refine de_append ?_
  | (with_reducible show DE _ _ (Expr.Call (Expr.Attribute _ "pop" _) [_] _ _) _ _); refine de_popAt ?_
  | (with_reducible show DE _ _ (Expr.Call (Expr.Attribute _ "join" _) [_] _ _) _ _); refine de_join ?_)
local macro_rules | `(tactic| walk_at "bi") => `(tactic| first
  | (with_reducible show DE _ _ (Expr.Call (Expr.Name "isinstance" _) [_, Expr.Name "list" _] [] _) _ _); refine de_isi1 rfl n_isinstance rfl n_list boot_list ?_
  | (with_reducible show DE _ _ (Expr.Call (Expr.Name "isinstance" _) [_, Expr.Name "tuple" _] [] _) _ _); refine de_isi1 rfl n_isinstance rfl n_tuple boot_tuple ?_
  | (with_reducible show DE _ _ (Expr.Call (Expr.Name "isinstance" _) [_, Expr.Name "str" _] [] _) _ _); refine de_isi1 rfl n_isinstance rfl n_str boot_str ?_
  | (with_reducible show DE _ _ (Expr.Call (Expr.Name "isinstance" _) [_, Expr.Name "bool" _] [] _) _ _); refine de_isi1 rfl n_isinstance rfl n_bool boot_bool ?_
  | (with_reducible show DE _ _ (Expr.Call (Expr.Name "isinstance" _) [_, Expr.Name "int" _] [] _) _ _); refine de_isi1 rfl n_isinstance rfl n_int boot_int ?_
  | (with_reducible show DE _ _ (Expr.Call (Expr.Name "isinstance" _) [_, Expr.Tuple [Expr.Name "list" _, Expr.Name "tuple" _] _ _] [] _) _ _); refine de_isi2 rfl n_isinstance rfl n_list boot_list rfl n_tuple boot_tuple ?_
  | (with_reducible show DE _ _ (Expr.Call (Expr.Name "isinstance" _) [_, Expr.Tuple [Expr.Name "str" _, Expr.Name "bool" _] _ _] [] _) _ _); refine de_isi2 rfl n_isinstance rfl n_str boot_str rfl n_bool boot_bool ?_
  | (with_reducible show DE _ _ (Expr.Call (Expr.Name "len" _) _ [] _) _ _); refine de_callB call_lenA rfl n_len boot_len ?_
  | (with_reducible show DE _ _ (Expr.Call (Expr.Name "abs" _) _ [] _) _ _); refine de_callB call_abs rfl n_abs boot_abs ?_
  | (with_reducible show DE _ _ (Expr.Call (Expr.Name "int" _) _ [] _) _ _); refine de_callTy call_int1 rfl n_int boot_int ?_
  | (with_reducible show DE _ _ (Expr.Call (Expr.Name "list" _) _ [] _) _ _); refine de_callTy call_list_of rfl n_list boot_list ?_
  | (with_reducible show DE _ _ (Expr.Call (Expr.Name "tuple" _) _ [] _) _ _); refine de_callTy call_tuple_of rfl n_tuple boot_tuple ?_
  | (with_reducible show DE _ _ (Expr.Call (Expr.Name "sorted" _) _ [] _) _ _); refine de_callB (cr_sortD hu) rfl n_sorted boot_sorted ?_
  | (with_reducible show DE _ _ (Expr.Call (Expr.Name "sum" _) _ [] _) _ _); refine de_callB (cr_sum rfl) rfl n_sum boot_sum ?_
  | (with_reducible show DE _ _ (Expr.Call (Expr.Name "all" _) _ [] _) _ _); refine de_callB (cr_all rfl) rfl n_all boot_all ?_
  | (with_reducible show DE _ _ (Expr.Call (Expr.Name "any" _) _ [] _) _ _); refine de_callB (cr_any rfl) rfl n_any boot_any ?_
  | (with_reducible show DE _ _ (Expr.Call (Expr.Name "min" _) _ [] _) _ _); refine de_callB (call_minA rfl) rfl n_min boot_min ?_
  | (with_reducible show DE _ _ (Expr.Call (Expr.Name "max" _) _ [] _) _ _); refine de_callB (call_maxA rfl) rfl n_max boot_max ?_
  | (with_reducible show DE _ _ (Expr.Call (Expr.Name "dict" _) _ [] _) _ _); refine de_callTy (call_dictP rfl) rfl n_dict boot_dict ?_)
local macro_rules | `(tactic| walk_at "oa") => `(tactic| first
  | refine len_c (by walk_at "vw") (by first | exact Ln.lst _ | exact Ln.tup _ | exact Ln.dk _) ?_
  | refine abs_c (.fz _) ?_
  | refine int_b (.fz _) ?_
  | refine int_i (.fz _) ?_
  | refine list_t (.fz _) ?_
  | refine list_l (by walk_at "vw") ?_
  | refine tuple_t (.fz _) ?_
  | refine tuple_l (by walk_at "vw") ?_
  | refine mm_str (.fz _) (.fz _) ?_
  | refine mm_int (.fz _) (.fz _) ?_)
local macro_rules | `(tactic| walk_at "t1") => `(tactic| first
  | (with_reducible show DT _ _ (Expr.Compare _ [CmpOp.Is] _ _) _ _); refine dt_isN ?_
  | (with_reducible show DT _ _ (Expr.Compare _ [CmpOp.Eq] _ _) _ _); refine dt_cmp (op_eqAll hu) (nobehind _ (by decide) (by decide)) ?_
  | (with_reducible show DT _ _ (Expr.Compare _ [CmpOp.NotEq] _ _) _ _); refine dt_cmp (op_neAll hu) (nobehind _ (by decide) (by decide)) ?_
  | (with_reducible show DT _ _ (Expr.Compare _ [CmpOp.Lt] _ _) _ _); refine dt_cmp op_ltAll (nobehind _ (by decide) (by decide)) ?_
  | (with_reducible show DT _ _ (Expr.Compare _ [CmpOp.LtE] _ _) _ _); refine dt_cmp op_leAll (nobehind _ (by decide) (by decide)) ?_
  | (with_reducible show DT _ _ (Expr.Compare _ [CmpOp.Gt] _ _) _ _); refine dt_cmp op_gtAll (nobehind _ (by decide) (by decide)) ?_
  | (with_reducible show DT _ _ (Expr.Compare _ [CmpOp.GtE] _ _) _ _); refine dt_cmp op_geAll (nobehind _ (by decide) (by decide)) ?_
  | (with_reducible show DT _ _ (Expr.Compare _ [CmpOp.In] _ _) _ _); refine dt_cmp (op_inAll hu1) rfl ?_
  | (with_reducible show DT _ _ (Expr.Compare _ [CmpOp.NotIn] _ _) _ _); refine dt_cmp (op_notInAll hu1) rfl ?_
  | with_reducible refine dt_not ?_
  | with_reducible refine dt_bool ?_
  | (with_reducible show DT _ _ (Expr.Call _ _ _ _) _ _); refine dt_val ?_)
local macro_rules | `(tactic| walk_at "w1") => `(tactic| first
  | with_reducible refine dw_and1 ?_
  | with_reducible refine dw_or1 ?_
  | with_reducible refine dw_and ?_
  | with_reducible refine dw_or ?_)
local macro_rules | `(tactic| walk_at "a1") => `(tactic| first
  | with_reducible refine da_nil ?_
  | refine da_cons ?_)
local macro_rules | `(tactic| walk_at "o2") => `(tactic| first
  | (with_reducible show Op2 _ _ (rAddAll _) _ _ _ _); first | refine add_int (.fz _) (.fz _) ?_ | refine add_str (.fz _) (.fz _) (by walk_at "side") ?_ | refine add_tup (.fz _) (.fz _) (by walk_at "side") ?_ | refine add_lst (by walk_at "vw") (by walk_at "vw") (by walk_at "side") ?_
  | (with_reducible show Op2 _ _ (rIxAll _) _ _ _ _); first | refine ix_tpl (.fz _) (.fz _) rfl ?_ | refine ix_lst (by walk_at "vw") (.fz _) rfl ?_ | refine ix_tpl (.fz _) (.fz _) (by assumption) ?_ | refine ix_lst (by walk_at "vw") (.fz _) (by assumption) ?_ | refine ix_dk (by walk_at "vw") (.fz _) (k := .inr _) rfl (by assumption) ?_
  | (with_reducible show Op2 _ _ (rEqAll _) _ _ _ _); first | refine eq_int (.fz _) (.fz _) ?_ | refine eq_str (.fz _) (.fz _) ?_ | refine eq_bl (.fz _) (.fz _) ?_
  | (with_reducible show Op2 _ _ (rNeAll _) _ _ _ _); first | refine ne_int (.fz _) (.fz _) ?_ | refine ne_str (.fz _) (.fz _) ?_ | refine ne_bl (.fz _) (.fz _) ?_
  | refine op_ib0 (.fz _) (.fz _) ?_
  | refine lt_int (.fz _) (.fz _) ?_
  | refine lt_str (.fz _) (.fz _) ?_
  | refine in_dk (by walk_at "vw") (by walk_at "vw") rfl ?_)
local macro_rules | `(tactic| walk_at "o1") => `(tactic| first
  | refine cut_t (.fz _) ?_
  | refine cut_l (by walk_at "vw") ?_)
local macro_rules | `(tactic| walk_at "x1") => `(tactic| first
  | refine ⟨_, _, .fz _, rfl, kb_list rfl, ?_⟩
  | refine ⟨_, _, .fz _, rfl, kb_tuple rfl, ?_⟩
  | refine ⟨_, _, .fz _, rfl, kb_str rfl, ?_⟩
  | refine ⟨_, _, .fz _, rfl, kb_bool rfl, ?_⟩
  | refine ⟨_, _, .fz _, rfl, kb_int rfl, ?_⟩
  | refine ⟨_, _, _, .fz _, rfl, kb_list rfl, kb_tuple rfl, ?_⟩
  | refine ⟨_, _, _, .fz _, rfl, kb_str rfl, kb_bool rfl, ?_⟩
  | refine ⟨_, _, _, rfl, rfl, Put.lst rfl, ?_⟩
  | refine ⟨_, _, .fz _, .fz _, ?_⟩
  | refine ⟨_, .fz _, ?_⟩
  | refine ⟨_, rfl, ?_⟩
  | refine ⟨_, (.cons (.cons (.cons .nil))), ?_⟩
  | refine ⟨_, (.cons (.cons .nil)), ?_⟩
  | refine ⟨_, (.cons .nil), ?_⟩
  | refine ⟨_, (.cons (.cons (.cons (.cons .nil)))), ?_⟩
  | refine ⟨_, .nil, ?_⟩
  | refine ⟨_, (.cons (.cons (.cons (.cons (.cons .nil))))), ?_⟩
  | refine ⟨_, (.cons (.cons (.cons (.cons (.cons (.cons .nil)))))), ?_⟩
  | refine ⟨_, (.cons (.cons (.cons (.cons (.cons (.cons (.cons .nil))))))), ?_⟩
  | refine ⟨_, _, rfl, rfl, ?_⟩)
local macro_rules | `(tactic| walk_at "set") => `(tactic| first
  | refine ds_set (i := 0) nd rfl (by first | exact Or.inl rfl | exact Or.inr rfl) (by decide) ?_
  | refine ds_set (i := 1) nd rfl (by first | exact Or.inl rfl | exact Or.inr rfl) (by decide) ?_
  | refine ds_set (i := 2) nd rfl (by first | exact Or.inl rfl | exact Or.inr rfl) (by decide) ?_
  | refine ds_set (i := 3) nd rfl (by first | exact Or.inl rfl | exact Or.inr rfl) (by decide) ?_
  | refine ds_set (i := 4) nd rfl (by first | exact Or.inl rfl | exact Or.inr rfl) (by decide) ?_
  | refine ds_set (i := 5) nd rfl (by first | exact Or.inl rfl | exact Or.inr rfl) (by decide) ?_
  | refine ds_set (i := 6) nd rfl (by first | exact Or.inl rfl | exact Or.inr rfl) (by decide) ?_
  | refine ds_set (i := 7) nd rfl (by first | exact Or.inl rfl | exact Or.inr rfl) (by decide) ?_
  | refine ds_set (i := 8) nd rfl (by first | exact Or.inl rfl | exact Or.inr rfl) (by decide) ?_
  | refine ds_set (i := 9) nd rfl (by first | exact Or.inl rfl | exact Or.inr rfl) (by decide) ?_
  | refine ds_set (i := 10) nd rfl (by first | exact Or.inl rfl | exact Or.inr rfl) (by decide) ?_
  | refine ds_set (i := 11) nd rfl (by first | exact Or.inl rfl | exact Or.inr rfl) (by decide) ?_
  | refine ds_set (i := 12) nd rfl (by first | exact Or.inl rfl | exact Or.inr rfl) (by decide) ?_
  | refine ds_set (i := 13) nd rfl (by first | exact Or.inl rfl | exact Or.inr rfl) (by decide) ?_
  | refine ds_set (i := 14) nd rfl (by first | exact Or.inl rfl | exact Or.inr rfl) (by decide) ?_
  | refine ds_set (i := 15) nd rfl (by first | exact Or.inl rfl | exact Or.inr rfl) (by decide) ?_
  | refine ds_set (i := 16) nd rfl (by first | exact Or.inl rfl | exact Or.inr rfl) (by decide) ?_)
local macro_rules | `(tactic| walk_at "s1") => `(tactic| first
  | (with_reducible show DS _ _ (Stmt.Assign [Expr.Name _ _] _ _) _ _); walk_at "set"
  | with_reducible refine ds_ret ?_
  | with_reducible refine ds_if ?_
  | refine ds_store hu1 ?_
  | (with_reducible show DS _ _ (Stmt.Expr _ _) _ _); refine ds_expr ?_)
local macro_rules | `(tactic| walk_at "ss1") => `(tactic| first
  | refine dss_cons ?_
  | refine dss_nil ?_)
local macro_rules | `(tactic| walk_at "d1") => `(tactic| first
  | (with_reducible show DE _ _ _ _ _); walk_at "e1"
  | (with_reducible show Op2 _ _ _ _ _ _ _); walk_at "o2"
  | (with_reducible show DA _ _ _ _ _); walk_at "a1"
  | (with_reducible show DT _ _ _ _ _); walk_at "t1"
  | (with_reducible show DTs _ _ _ _ _); first | with_reducible refine dts_one ?_ | with_reducible refine dts_nil ?_
  | (with_reducible show DO _ _ _ _ _); first | with_reducible refine do_none ?_ | with_reducible refine do_some ?_
  | (with_reducible show DW _ _ _ _ _); walk_at "w1"
  | (with_reducible show DSs _ _ _ _ _); walk_at "ss1"
  | (with_reducible show DS _ _ _ _ _); walk_at "s1"
  | (with_reducible show Op1 _ _ _ _ _ _); walk_at "o1"
  | (with_reducible show OpA _ _ _ _ _ _); walk_at "oa"
  | (with_reducible show ∃ _, _); walk_at "x1"
  | (with_reducible show DEnds.nx _ _); dsimp only
  | (with_reducible show if _ = true then _ else _); first | refine if_t rfl ?_ | refine if_f rfl ?_
  | (with_reducible show DEnds.rt _ _ _); dsimp only
  | (with_reducible show _ ∧ _); refine ⟨(by walk_at "side"), ?_⟩)
local macro_rules | `(tactic| walk_at "d") => `(tactic| repeat walk_at "d1")
section
variable {P : Program} {w : World} {K : PySem.W.Frag} {mg : Str → Option Value} {base : Heap} {f : Addr} {fd : FuncData}
theorem glass_none {n m : Str} {ti : List (Str × Str × Int)} (h : ∀ t ∈ ti, ¬ between n m t) : glass n m ti = none := by
  unfold glass
  generalize (none : Option Int) = o
  induction ti generalizing o with
  | nil => rfl
  | cons t l ih =>
    rw [List.foldl_cons, if_neg (h t (List.mem_cons_self ..))]
    exact ih (fun t ht => h t (List.mem_cons_of_mem _ ht)) o
theorem Sound.self {h : Hall} (s : Sound h) (n : Str) : glass n n h.ti = none := glass_none fun t ht hb => s.ne t ht (by rcases hb with ⟨a, c⟩ | ⟨a, c⟩; exact a.symm.trans c; exact c.symm.trans a)
theorem names_behind {h : Hall} (s : Sound h) (n : Str) : namesOf (behindOne h n) = (namesOf h).filter (fun m => !decide (m = n)) := by
  have gs := s.self n
  unfold namesOf behindOne
  dsimp only
  generalize h.pl = pl
  induction pl with
  | nil => rfl
  | cons p l ih =>
    rw [List.map_cons, List.filterMap_cons]
    by_cases e : p.1 = n
    · have e1 : stepPl h n p = none := by unfold stepPl; rw [e, gs]; exact if_pos rfl
      rw [e1, List.filter_cons_of_neg (by simp [e])]
      exact ih
    · rw [List.filter_cons_of_pos (by simp [e])]
      cases hg : glass n p.1 h.ti with
      | none =>
        have e1 : stepPl h n p = some p := by unfold stepPl; rw [hg]; exact if_neg e
        rw [e1]
        exact congrArg _ ih
      | some g =>
        have e1 : stepPl h n p = some (p.1, mirrored h.w p.2 g) := by unfold stepPl; rw [hg]
        rw [e1]
        exact congrArg _ ih
theorem Sound.behind {h : Hall} (s : Sound h) (n : Str) : Sound (behindOne h n) where
  pl := Nat.le_trans (List.length_filterMap_le _ _) s.pl
  ti := Nat.le_trans (List.length_filter_le _ _) s.ti
  nd := by rw [names_behind s]; exact s.nd.sublist List.filter_sublist
  mem := fun t ht => by
    have h1 : t ∈ h.ti ∧ away n t = true := List.mem_filter.mp ht
    have h2 := s.mem t h1.1
    have h3 : ¬ (n = t.1 ∨ n = t.2.1) := by have := h1.2; unfold away at this; simpa using this
    rw [names_behind s]
    exact ⟨List.mem_filter.mpr ⟨h2.1, by simp; exact fun z => h3 (.inl z.symm)⟩, List.mem_filter.mpr ⟨h2.2, by simp; exact fun z => h3 (.inr z.symm)⟩⟩
  ne := fun t ht => s.ne t (List.mem_filter.mp ht).1
  ok := fun m hm => by
    rw [names_behind s] at hm
    exact s.ok m (List.mem_filter.mp hm).1
def behindRow (h : Hall) : List Str → Hall
  | [] => h
  | n :: r => behindRow (behindOne h n) r
def May (h : Hall) : List Str → Prop
  | [] => True
  | n :: r => n ∈ freeOf h.pl ∧ May (behindOne h n) r
theorem behindRow_snoc (h : Hall) (r : List Str) (n : Str) : behindRow h (r ++ [n]) = behindOne (behindRow h r) n := by
  induction r generalizing h with
  | nil => rfl
  | cons m r ih => exact ih _
theorem may_snoc {h : Hall} {r : List Str} {n : Str} : May h (r ++ [n]) ↔ May h r ∧ n ∈ freeOf (behindRow h r).pl := by
  induction r generalizing h with
  | nil => simp [May, behindRow]
  | cons m r ih =>
    show (m ∈ freeOf h.pl ∧ May (behindOne h m) (r ++ [n])) ↔ (m ∈ freeOf h.pl ∧ May (behindOne h m) r) ∧ n ∈ freeOf (behindRow (behindOne h m) r).pl
    rw [ih, and_assoc]
theorem behindRow_w (h : Hall) (r : List Str) : (behindRow h r).w = h.w := by
  induction r generalizing h with
  | nil => rfl
  | cons n r ih => exact (ih _).trans rfl
theorem Sound.row {h : Hall} (s : Sound h) (r : List Str) : Sound (behindRow h r) := by
  induction r generalizing h with
  | nil => exact s
  | cons n r ih => exact ih (s.behind n)
theorem free_mem {h : Hall} {n : Str} (hn : n ∈ freeOf h.pl) : n ∈ namesOf h := by
  unfold freeOf at hn
  obtain ⟨p, hp, e⟩ := List.mem_map.mp hn
  exact List.mem_map.mpr ⟨p, (List.mem_filter.mp hp).1, e⟩
theorem de_imp {X : Cx} {js : List Nat} {m : Nat} {b : Base js m} {env : List Cell} {e : Expr} {Q Q' : Cell → List Cell → Prop} (h : DE X b e env Q) (f : ∀ c e, Q c e → Q' c e) : DE X b e env Q' := fun σ tv te F H l A => wE_mono (h σ tv te F H l A) fun v H1 ⟨c, env1, F1, l1, A1, q⟩ => ⟨c, env1, F1, l1, A1, f _ _ q⟩
theorem di_row {X : Cx} {js : List Nat} {m : Nat} {b : Base js m} {env : List Cell} {tg iter : Expr} {t : Bool} {ds : List D} {Q : List D → (List Cell → Prop) → List Cell → Prop} (h : DE X b iter env fun c env1 => c = .fz (if t then .tup ds else .lst ds) ∧ Q ds (fun _ => True) env1) : DI X b tg iter env Q := by
  cases t with
  | true => exact di_tuple (de_imp h fun c e q => ⟨ds, q.1, q.2⟩)
  | false => exact di_list (de_imp h fun c e q => ⟨ds, .inl q.1, q.2⟩)
/-! behind -/
abbrev N_behind : List Str := ["hall", "row", "name"]
theorem nd_behind : N_behind.Nodup := by decide +kernel
theorem sc_behind : FnScope N_behind ["hall", "row"] (defScope s_behind) := ⟨rfl, rfl, rfl, nd_behind, rfl, by decide +kernel, by decide +kernel⟩
def rowD (t : Bool) (r : List Str) : D := if t then .tup (r.map .str) else .lst (r.map .str)
def S_behind : FSp := fS (fun a : Hall × List Str × Bool => [.fz (hallD a.1), .fz (rowD a.2.2 a.2.1)]) (fun a => Sound a.1 ∧ 0 ≤ a.1.w ∧ May a.1 a.2.1) (fun a => .fz (hallD (behindRow a.1 a.2.1)))
theorem may_at {h : Hall} {r : List Str} {k : Nat} {n : Str} (m : May h r) (hk : r[k]? = some n) : n ∈ freeOf (behindRow h (r.take k)).pl ∧ behindRow h (r.take (k + 1)) = behindOne (behindRow h (r.take k)) n := by
  have ht : r.take (k + 1) = r.take k ++ [n] := by rw [List.take_add_one, hk]; rfl
  refine ⟨?_, by rw [ht, behindRow_snoc]⟩
  induction r generalizing h k with
  | nil => simp at hk
  | cons x r ih =>
    cases k with
    | zero => simp at hk; subst hk; exact m.1
    | succ k => exact ih m.2 (by simpa using hk) (by rw [List.take_add_one, show r[k]? = some n by simpa using hk]; rfl)
theorem ok_behind {t1 t2 : Tok} {fC fM fT fO fG fI : Addr} {fdC fdM fdT fdO fdG fdI : FuncData} (g_LIGHT : mg "LIGHT" = some (.int 1 t1)) (g_DARK : mg "DARK" = some (.int 0 t2)) (n_tuple : mg "tuple" = none) (F_counted : FnP K "counted" s_counted fC fdC) (g_counted : mg "counted" = some (.ref fC)) (F_mirrored : FnP K "mirrored" s_mirrored fM fdM) (g_mirrored : mg "mirrored" = some (.ref fM))
    (F_ties_by : FnP K "ties_by" s_ties_by fT fdT) (g_ties_by : mg "ties_by" = some (.ref fT)) (F_behind_one : FnP K "behind_one" s_behind_one fO fdO) (g_behind_one : mg "behind_one" = some (.ref fO)) (F_is_free : FnP K "is_free" s_is_free fI fdI) (g_is_free : mg "is_free" = some (.ref fI)) (F_may_go : FnP K "may_go" s_may_go fG fdG) (g_may_go : mg "may_go" = some (.ref fG))
    (F : FnP K "behind" s_behind f fd) : FnOk P w K mg base CX0 4 f fd ["hall", "row"] (spOf K [] 2 S_behind) := by
  have G_behind_one : FnOk P w K mg base CX0 3 fO fdO _ _ := ok_behind_one g_LIGHT g_DARK n_tuple F_counted g_counted F_mirrored g_mirrored F_ties_by g_ties_by F_behind_one
  have b_behind_one : Binds K fdO ["hall", "name"] [] := F_behind_one.bindsN fun _ _ _ _ _ _ us hl => match us, hl with | [_, _], _ => rfl
  have G_may_go : FnOk P w K mg base CX0 2 fG fdG _ _ := ok_may_go g_LIGHT n_tuple F_is_free g_is_free F_may_go
  have b_may_go : Binds K fdG ["hall"] [] := F_may_go.bindsN fun _ _ _ _ _ _ us hl => match us, hl with | [_], _ => rfl
  refine fn_ok (S := S_behind) 3 (by decide) (by decide) F sc_behind fun cdv A outer s H E b cs Post hr hcl hS => ?_
  obtain ⟨⟨h, r, tt⟩, rfl, ⟨hh, hw, hm⟩, q⟩ := hS
  have hh : Sound h := hh
  have hw : 0 ≤ h.w := hw
  have hm : May h r := hm
  have hu : (A.deeper (envOfC "behind" (defScope s_behind) s.heap.objs.size f cdv)).units + 64 < cLine := hr.units
  have hu1 : (A.deeper (envOfC "behind" (defScope s_behind) s.heap.objs.size f cdv)).units + 1 < cLine := by omega
  have nd := nd_behind
  change DSs _ b _ [.fz (hallD h), .fz (rowD tt r), .no] _
  refine dss_cons (ds_for rfl PassesOwn.never (di_row (t := tt) (ds := r.map .str) ?_))
  walk_at "var"
  refine ⟨rfl, ?_⟩
  refine ⟨fun k e => ∃ c, e = [.fz (hallD (behindRow h (r.take k))), .fz (rowD tt r), c], ⟨_, rfl⟩, fun _ _ _ => trivial, ?_, ?_⟩
  · rintro k d e hd ⟨c, rfl⟩
    rw [List.getElem?_map] at hd
    cases hp : r[k]? with
    | none => rw [hp] at hd; cases hd
    | some n =>
      rw [hp] at hd
      cases hd
      obtain ⟨m1, m2⟩ := may_at hm hp
      have sk := hh.row (r.take k)
      refine dg_name (i := 2) nd rfl (Or.inl rfl) (by first | exact Or.inl rfl | exact Or.inr rfl) (by simp) (by simp) (fun j z => nomatch z) ?_
      walk_at "d"
      refine de_call G_may_go fS_mono (hr.mono (by decide)) rfl g_may_go F_may_go.kp b_may_go ?_
      walk_at "d"
      refine ⟨_, rfl, sk.pl, fun e => ?_⟩
      walk_at "d"
      refine in_lst (.fz _) (.ow _) rfl (by simp [flatD]) ⟨_, rfl, ?_⟩
      refine ite_b (fun hf => ?_) (fun hf => ?_)
      · exfalso
        rw [if_pos rfl, inD_str] at hf
        simp [m1] at hf
      · walk_at "d"
        refine de_call G_behind_one fS_mono (hr.mono (by decide)) rfl g_behind_one F_behind_one.kp b_behind_one ?_
        walk_at "d"
        refine ⟨(_, n), rfl, ⟨sk, by rw [behindRow_w]; exact hw, free_mem m1⟩, fun e => ?_⟩
        walk_at "d"
        rw [m2]
        exact ⟨_, rfl⟩
  · rintro e ⟨c, rfl⟩
    have e0 : r.take (r.map D.str).length = r := by simp
    rw [e0]
    walk_at "d"
    exact q _
end
end K13



set_option Elab.async false
set_option linter.all false
set_option maxRecDepth 100000
set_option maxHeartbeats 1000000
set_option pp.deepTerms false
set_option pp.deepTerms.threshold 6
set_option pp.oneline false
set_option pp.proofs false
namespace K13
open PySem PySem.Spec PyProof.Rows L2 DL
set_option hygiene false
local macro_rules | `(tactic| walk_at "vw") => `(tactic| first
  | exact Vw.fz _
  | exact Vw.al rfl
  | exact Vw.ow _ rfl)
local macro_rules | `(tactic| walk_at "puts") => `(tactic| repeat (first | exact DL.Puts.nil | refine DL.Puts.cons rfl (by first | exact Or.inl rfl | exact Or.inr rfl) (by first | exact Or.inl rfl | exact Or.inr rfl) rfl ?_))
local macro_rules | `(tactic| walk_at "blk") => `(tactic| exact ⟨rfl, by decide +kernel, by decide +kernel, by decide +kernel, by decide +kernel⟩)
local macro_rules | `(tactic| walk_at "vis") => `(tactic| first
  | exact Or.inl rfl
  | exact Or.inr (Or.inl rfl)
  | exact Or.inr (Or.inr rfl))
local macro_rules | `(tactic| walk_at "side") => `(tactic| first
  | assumption
  | omega
  | (simp only [List.length_set, List.length_cons, List.length_nil]; omega)
  | exact fun j z => (nomatch z)
  | (refine Or.inl ⟨?_, ?_⟩ <;> omega)
  | (refine Or.inr ⟨?_, ?_⟩ <;> omega)
  | decide
  | ((with_reducible show _ = _); rfl))
local macro_rules | `(tactic| walk_at "var") => `(tactic| first
  | refine de_var (i := 0) rfl (by walk_at "vis") rfl ?_ | refine de_var_ow (i := 0) (by decide) rfl (by walk_at "vis") rfl ?_
  | refine de_var (i := 1) rfl (by walk_at "vis") rfl ?_ | refine de_var_ow (i := 1) (by decide) rfl (by walk_at "vis") rfl ?_
  | refine de_var (i := 2) rfl (by walk_at "vis") rfl ?_ | refine de_var_ow (i := 2) (by decide) rfl (by walk_at "vis") rfl ?_
  | refine de_var (i := 3) rfl (by walk_at "vis") rfl ?_ | refine de_var_ow (i := 3) (by decide) rfl (by walk_at "vis") rfl ?_
  | refine de_var (i := 4) rfl (by walk_at "vis") rfl ?_ | refine de_var_ow (i := 4) (by decide) rfl (by walk_at "vis") rfl ?_
  | refine de_var (i := 5) rfl (by walk_at "vis") rfl ?_ | refine de_var_ow (i := 5) (by decide) rfl (by walk_at "vis") rfl ?_
  | refine de_var (i := 6) rfl (by walk_at "vis") rfl ?_ | refine de_var_ow (i := 6) (by decide) rfl (by walk_at "vis") rfl ?_
  | refine de_var (i := 7) rfl (by walk_at "vis") rfl ?_ | refine de_var_ow (i := 7) (by decide) rfl (by walk_at "vis") rfl ?_
  | refine de_var (i := 8) rfl (by walk_at "vis") rfl ?_ | refine de_var_ow (i := 8) (by decide) rfl (by walk_at "vis") rfl ?_
  | refine de_var (i := 9) rfl (by walk_at "vis") rfl ?_ | refine de_var_ow (i := 9) (by decide) rfl (by walk_at "vis") rfl ?_
  | refine de_var (i := 10) rfl (by walk_at "vis") rfl ?_ | refine de_var_ow (i := 10) (by decide) rfl (by walk_at "vis") rfl ?_
  | refine de_var (i := 11) rfl (by walk_at "vis") rfl ?_ | refine de_var_ow (i := 11) (by decide) rfl (by walk_at "vis") rfl ?_
  | refine de_var (i := 12) rfl (by walk_at "vis") rfl ?_ | refine de_var_ow (i := 12) (by decide) rfl (by walk_at "vis") rfl ?_
  | refine de_var (i := 13) rfl (by walk_at "vis") rfl ?_ | refine de_var_ow (i := 13) (by decide) rfl (by walk_at "vis") rfl ?_
  | refine de_var (i := 14) rfl (by walk_at "vis") rfl ?_ | refine de_var_ow (i := 14) (by decide) rfl (by walk_at "vis") rfl ?_
  | refine de_var (i := 15) rfl (by walk_at "vis") rfl ?_ | refine de_var_ow (i := 15) (by decide) rfl (by walk_at "vis") rfl ?_
  | refine de_var (i := 16) rfl (by walk_at "vis") rfl ?_ | refine de_var_ow (i := 16) (by decide) rfl (by walk_at "vis") rfl ?_)
local macro_rules | `(tactic| walk_at "const") => `(tactic| first
  | with_reducible refine de_int ?_
  | with_reducible refine de_str ?_
  | with_reducible refine de_bl ?_
  | with_reducible refine de_non ?_)
local macro_rules | `(tactic| walk_at "e1") => `(tactic| first
  | (with_reducible show DE _ _ (Expr.Name _ _) _ _); walk_at "var"
  | (with_reducible show DE _ _ (Expr.Constant _ _ _) _ _); walk_at "const"
  | (with_reducible show DE _ _ (Expr.Call (Expr.Name _ _) _ [] _) _ _); walk_at "bi"
  | with_reducible refine de_add ?_
  | with_reducible refine de_sub ?_
  | with_reducible refine de_mul ?_
  | with_reducible refine de_mod ?_
  | with_reducible refine de_div ?_
  | with_reducible refine de_pow ?_
  | with_reducible refine de_neg ?_
  | with_reducible refine de_tuple ?_
  | with_reducible refine de_list ?_
  | with_reducible refine de_ifExp ?_
  | with_reducible refine de_not ?_
  | with_reducible refine de_bool1 ?_
  | with_reducible refine de_and ?_
  | with_reducible refine de_or ?_
  | with_reducible refine de_revL ?_
  | with_reducible refine de_slice ?_
  | (with_reducible show DE _ _ (Expr.Subscript _ _ _) _ _); refine de_ix hu1 (fun _ _ => rfl) ?_
  | (with_reducible show DE _ _ (Expr.Compare _ [CmpOp.Is] _ _) _ _); refine de_isN ?_
  | (with_reducible show DE _ _ (Expr.Compare _ [CmpOp.Eq] _ _) _ _); refine de_cmp (op_eqAll hu) (nobehind _ (by decide) (by decide)) ?_
  | (with_reducible show DE _ _ (Expr.Compare _ [CmpOp.NotEq] _ _) _ _); refine de_cmp (op_neAll hu) (nobehind _ (by decide) (by decide)) ?_
  | (with_reducible show DE _ _ (Expr.Compare _ [CmpOp.Lt] _ _) _ _); refine de_cmp op_ltAll (nobehind _ (by decide) (by decide)) ?_
  | (with_reducible show DE _ _ (Expr.Compare _ [CmpOp.LtE] _ _) _ _); refine de_cmp op_leAll (nobehind _ (by decide) (by decide)) ?_
  | (with_reducible show DE _ _ (Expr.Compare _ [CmpOp.Gt] _ _) _ _); refine de_cmp op_gtAll (nobehind _ (by decide) (by decide)) ?_
  | (with_reducible show DE _ _ (Expr.Compare _ [CmpOp.GtE] _ _) _ _); refine de_cmp op_geAll (nobehind _ (by decide) (by decide)) ?_
  | (with_reducible show DE _ _ (Expr.Compare _ [CmpOp.In] _ _) _ _); refine de_cmp (op_inAll hu1) rfl ?_
  | (with_reducible show DE _ _ (Expr.Compare _ [CmpOp.NotIn] _ _) _ _); refine de_cmp (op_notInAll hu1) rfl ?_
  | (with_reducible show DE _ _ (Expr.Call (Expr.Attribute _ "append" _) [_] _ _) _ _); refine de_append ?_
  | (with_reducible show DE _ _ (Expr.Call (Expr.Attribute _ "pop" _) [_] _ _) _ _); refine de_popAt ?_
  | (with_reducible show DE _ _ (Expr.Call (Expr.Attribute _ "join" _) [_] _ _) _ _); refine de_join ?_)
local macro_rules | `(tactic| walk_at "bi") => `(tactic| first
  | (with_reducible show DE _ _ (Expr.Call (Expr.Name "isinstance" _) [_, Expr.Name "list" _] [] _) _ _); refine de_isi1 rfl n_isinstance rfl n_list boot_list ?_
  | (with_reducible show DE _ _ (Expr.Call (Expr.Name "isinstance" _) [_, Expr.Name "tuple" _] [] _) _ _); refine de_isi1 rfl n_isinstance rfl n_tuple boot_tuple ?_
  | (with_reducible show DE _ _ (Expr.Call (Expr.Name "isinstance" _) [_, Expr.Name "str" _] [] _) _ _); refine de_isi1 rfl n_isinstance rfl n_str boot_str ?_
  | (with_reducible show DE _ _ (Expr.Call (Expr.Name "isinstance" _) [_, Expr.Name "bool" _] [] _) _ _); refine de_isi1 rfl n_isinstance rfl n_bool boot_bool ?_
  | (with_reducible show DE _ _ (Expr.Call (Expr.Name "isinstance" _) [_, Expr.Name "int" _] [] _) _ _); refine de_isi1 rfl n_isinstance rfl n_int boot_int ?_
  | (with_reducible show DE _ _ (Expr.Call (Expr.Name "isinstance" _) [_, Expr.Tuple [Expr.Name "list" _, Expr.Name "tuple" _] _ _] [] _) _ _); refine de_isi2 rfl n_isinstance rfl n_list boot_list rfl n_tuple boot_tuple ?_
  | (with_reducible show DE _ _ (Expr.Call (Expr.Name "isinstance" _) [_, Expr.Tuple [Expr.Name "str" _, Expr.Name "bool" _] _ _] [] _) _ _); refine de_isi2 rfl n_isinstance rfl n_str boot_str rfl n_bool boot_bool ?_
  | (with_reducible show DE _ _ (Expr.Call (Expr.Name "len" _) _ [] _) _ _); refine de_callB call_lenA rfl n_len boot_len ?_
  | (with_reducible show DE _ _ (Expr.Call (Expr.Name "abs" _) _ [] _) _ _); refine de_callB call_abs rfl n_abs boot_abs ?_
  | (with_reducible show DE _ _ (Expr.Call (Expr.Name "int" _) _ [] _) _ _); refine de_callTy call_int1 rfl n_int boot_int ?_
  | (with_reducible show DE _ _ (Expr.Call (Expr.Name "list" _) _ [] _) _ _); refine de_callTy call_list_of rfl n_list boot_list ?_
  | (with_reducible show DE _ _ (Expr.Call (Expr.Name "tuple" _) _ [] _) _ _); refine de_callTy call_tuple_of rfl n_tuple boot_tuple ?_
  | (with_reducible show DE _ _ (Expr.Call (Expr.Name "sorted" _) _ [] _) _ _); refine de_callB (cr_sortD hu) rfl n_sorted boot_sorted ?_
  | (with_reducible show DE _ _ (Expr.Call (Expr.Name "sum" _) _ [] _) _ _); refine de_callB (cr_sum rfl) rfl n_sum boot_sum ?_
  | (with_reducible show DE _ _ (Expr.Call (Expr.Name "all" _) _ [] _) _ _); refine de_callB (cr_all rfl) rfl n_all boot_all ?_
  | (with_reducible show DE _ _ (Expr.Call (Expr.Name "any" _) _ [] _) _ _); refine de_callB (cr_any rfl) rfl n_any boot_any ?_
  | (with_reducible show DE _ _ (Expr.Call (Expr.Name "min" _) _ [] _) _ _); refine de_callB (call_minA rfl) rfl n_min boot_min ?_
  | (with_reducible show DE _ _ (Expr.Call (Expr.Name "max" _) _ [] _) _ _); refine de_callB (call_maxA rfl) rfl n_max boot_max ?_
  | (with_reducible show DE _ _ (Expr.Call (Expr.Name "dict" _) _ [] _) _ _); refine de_callTy (call_dictP rfl) rfl n_dict boot_dict ?_)
local macro_rules | `(tactic| walk_at "oa") => `(tactic| first
  | refine len_c (by walk_at "vw") (by first | exact Ln.lst _ | exact Ln.tup _ | exact Ln.dk _) ?_
  | refine abs_c (.fz _) ?_
  | refine int_b (.fz _) ?_
  | refine int_i (.fz _) ?_
  | refine list_t (.fz _) ?_
  | refine list_l (by walk_at "vw") ?_
  | refine tuple_t (.fz _) ?_
  | refine tuple_l (by walk_at "vw") ?_
  | refine mm_str (.fz _) (.fz _) ?_
  | refine mm_int (.fz _) (.fz _) ?_)
local macro_rules | `(tactic| walk_at "t1") => `(tactic| first
  | (with_reducible show DT _ _ (Expr.Compare _ [CmpOp.Is] _ _) _ _); refine dt_isN ?_
  | (with_reducible show DT _ _ (Expr.Compare _ [CmpOp.Eq] _ _) _ _); refine dt_cmp (op_eqAll hu) (nobehind _ (by decide) (by decide)) ?_
  | (with_reducible show DT _ _ (Expr.Compare _ [CmpOp.NotEq] _ _) _ _); refine dt_cmp (op_neAll hu) (nobehind _ (by decide) (by decide)) ?_
  | (with_reducible show DT _ _ (Expr.Compare _ [CmpOp.Lt] _ _) _ _); refine dt_cmp op_ltAll (nobehind _ (by decide) (by decide)) ?_
  | (with_reducible show DT _ _ (Expr.Compare _ [CmpOp.LtE] _ _) _ _); refine dt_cmp op_leAll (nobehind _ (by decide) (by decide)) ?_
  | (with_reducible show DT _ _ (Expr.Compare _ [CmpOp.Gt] _ _) _ _); refine dt_cmp op_gtAll (nobehind _ (by decide) (by decide)) ?_
  | (with_reducible show DT _ _ (Expr.Compare _ [CmpOp.GtE] _ _) _ _); refine dt_cmp op_geAll (nobehind _ (by decide) (by decide)) ?_
  | (with_reducible show DT _ _ (Expr.Compare _ [CmpOp.In] _ _) _ _); refine dt_cmp (op_inAll hu1) rfl ?_
  | (with_reducible show DT _ _ (Expr.Compare _ [CmpOp.NotIn] _ _) _ _); refine dt_cmp (op_notInAll hu1) rfl ?_
  | with_reducible refine dt_not ?_
  | with_reducible refine dt_bool ?_
  | (with_reducible show DT _ _ (Expr.Call _ _ _ _) _ _); refine dt_val ?_)
local macro_rules | `(tactic| walk_at "w1") => `(tactic| first
  | with_reducible refine dw_and1 ?_
  | with_reducible refine dw_or1 ?_
  | with_reducible refine dw_and ?_
  | with_reducible refine dw_or ?_)
local macro_rules | `(tactic| walk_at "a1") => `(tactic| first
  | with_reducible refine da_nil ?_
  | refine da_cons ?_)
local macro_rules | `(tactic| walk_at "o2") => `(tactic| first
  | (with_reducible show Op2 _ _ (rAddAll _) _ _ _ _); first | refine add_int (.fz _) (.fz _) ?_ | refine add_str (.fz _) (.fz _) (by walk_at "side") ?_ | refine add_tup (.fz _) (.fz _) (by walk_at "side") ?_ | refine add_lst (by walk_at "vw") (by walk_at "vw") (by walk_at "side") ?_
  | (with_reducible show Op2 _ _ (rIxAll _) _ _ _ _); first | refine ix_tpl (.fz _) (.fz _) rfl ?_ | refine ix_lst (by walk_at "vw") (.fz _) rfl ?_ | refine ix_tpl (.fz _) (.fz _) (by assumption) ?_ | refine ix_lst (by walk_at "vw") (.fz _) (by assumption) ?_ | refine ix_dk (by walk_at "vw") (.fz _) (k := .inr _) rfl (by assumption) ?_
  | (with_reducible show Op2 _ _ (rEqAll _) _ _ _ _); first | refine eq_int (.fz _) (.fz _) ?_ | refine eq_str (.fz _) (.fz _) ?_ | refine eq_bl (.fz _) (.fz _) ?_
  | (with_reducible show Op2 _ _ (rNeAll _) _ _ _ _); first | refine ne_int (.fz _) (.fz _) ?_ | refine ne_str (.fz _) (.fz _) ?_ | refine ne_bl (.fz _) (.fz _) ?_
  | refine op_ib0 (.fz _) (.fz _) ?_
  | refine lt_int (.fz _) (.fz _) ?_
  | refine lt_str (.fz _) (.fz _) ?_
  | refine in_dk (by walk_at "vw") (by walk_at "vw") rfl ?_)
local macro_rules | `(tactic| walk_at "o1") => `(tactic| first
  | refine cut_t (.fz _) ?_
  | refine cut_l (by walk_at "vw") ?_)
local macro_rules | `(tactic| walk_at "x1") => `(tactic| first
  | refine ⟨_, _, .fz _, rfl, kb_list rfl, ?_⟩
  | refine ⟨_, _, .fz _, rfl, kb_tuple rfl, ?_⟩
  | refine ⟨_, _, .fz _, rfl, kb_str rfl, ?_⟩
  | refine ⟨_, _, .fz _, rfl, kb_bool rfl, ?_⟩
  | refine ⟨_, _, .fz _, rfl, kb_int rfl, ?_⟩
  | refine ⟨_, _, _, .fz _, rfl, kb_list rfl, kb_tuple rfl, ?_⟩
  | refine ⟨_, _, _, .fz _, rfl, kb_str rfl, kb_bool rfl, ?_⟩
  | refine ⟨_, _, _, rfl, rfl, Put.lst rfl, ?_⟩
  | refine ⟨_, _, .fz _, .fz _, ?_⟩
  | refine ⟨_, .fz _, ?_⟩
  | refine ⟨_, rfl, ?_⟩
  | refine ⟨_, (.cons (.cons (.cons .nil))), ?_⟩
  | refine ⟨_, (.cons (.cons .nil)), ?_⟩
  | refine ⟨_, (.cons .nil), ?_⟩
  | refine ⟨_, (.cons (.cons (.cons (.cons .nil)))), ?_⟩
  | refine ⟨_, .nil, ?_⟩
  | refine ⟨_, (.cons (.cons (.cons (.cons (.cons .nil))))), ?_⟩
  | refine ⟨_, (.cons (.cons (.cons (.cons (.cons (.cons .nil)))))), ?_⟩
  | refine ⟨_, (.cons (.cons (.cons (.cons (.cons (.cons (.cons .nil))))))), ?_⟩
  | refine ⟨_, _, rfl, rfl, ?_⟩)
local macro_rules | `(tactic| walk_at "set") => `(tactic| first
  | refine ds_set (i := 0) nd rfl (by first | exact Or.inl rfl | exact Or.inr rfl) (by decide) ?_
  | refine ds_set (i := 1) nd rfl (by first | exact Or.inl rfl | exact Or.inr rfl) (by decide) ?_
  | refine ds_set (i := 2) nd rfl (by first | exact Or.inl rfl | exact Or.inr rfl) (by decide) ?_
  | refine ds_set (i := 3) nd rfl (by first | exact Or.inl rfl | exact Or.inr rfl) (by decide) ?_
  | refine ds_set (i := 4) nd rfl (by first | exact Or.inl rfl | exact Or.inr rfl) (by decide) ?_
  | refine ds_set (i := 5) nd rfl (by first | exact Or.inl rfl | exact Or.inr rfl) (by decide) ?_
  | refine ds_set (i := 6) nd rfl (by first | exact Or.inl rfl | exact Or.inr rfl) (by decide) ?_
  | refine ds_set (i := 7) nd rfl (by first | exact Or.inl rfl | exact Or.inr rfl) (by decide) ?_
  | refine ds_set (i := 8) nd rfl (by first | exact Or.inl rfl | exact Or.inr rfl) (by decide) ?_
  | refine ds_set (i := 9) nd rfl (by first | exact Or.inl rfl | exact Or.inr rfl) (by decide) ?_
  | refine ds_set (i := 10) nd rfl (by first | exact Or.inl rfl | exact Or.inr rfl) (by decide) ?_
  | refine ds_set (i := 11) nd rfl (by first | exact Or.inl rfl | exact Or.inr rfl) (by decide) ?_
  | refine ds_set (i := 12) nd rfl (by first | exact Or.inl rfl | exact Or.inr rfl) (by decide) ?_
  | refine ds_set (i := 13) nd rfl (by first | exact Or.inl rfl | exact Or.inr rfl) (by decide) ?_
  | refine ds_set (i := 14) nd rfl (by first | exact Or.inl rfl | exact Or.inr rfl) (by decide) ?_
  | refine ds_set (i := 15) nd rfl (by first | exact Or.inl rfl | exact Or.inr rfl) (by decide) ?_
  | refine ds_set (i := 16) nd rfl (by first | exact Or.inl rfl | exact Or.inr rfl) (by decide) ?_)
local macro_rules | `(tactic| walk_at "s1") => `(tactic| first
  | (with_reducible show DS _ _ (Stmt.Assign [Expr.Name _ _] _ _) _ _); walk_at "set"
  | with_reducible refine ds_ret ?_
  | with_reducible refine ds_if ?_
  | refine ds_store hu1 ?_
  | (with_reducible show DS _ _ (Stmt.Expr _ _) _ _); refine ds_expr ?_)
local macro_rules | `(tactic| walk_at "ss1") => `(tactic| first
  | refine dss_cons ?_
  | refine dss_nil ?_)
local macro_rules | `(tactic| walk_at "d1") => `(tactic| first
  | (with_reducible show DE _ _ _ _ _); walk_at "e1"
  | (with_reducible show Op2 _ _ _ _ _ _ _); walk_at "o2"
  | (with_reducible show DA _ _ _ _ _); walk_at "a1"
  | (with_reducible show DT _ _ _ _ _); walk_at "t1"
  | (with_reducible show DTs _ _ _ _ _); first | with_reducible refine dts_one ?_ | with_reducible refine dts_nil ?_
  | (with_reducible show DO _ _ _ _ _); first | with_reducible refine do_none ?_ | with_reducible refine do_some ?_
  | (with_reducible show DW _ _ _ _ _); walk_at "w1"
  | (with_reducible show DSs _ _ _ _ _); walk_at "ss1"
  | (with_reducible show DS _ _ _ _ _); walk_at "s1"
  | (with_reducible show Op1 _ _ _ _ _ _); walk_at "o1"
  | (with_reducible show OpA _ _ _ _ _ _); walk_at "oa"
  | (with_reducible show ∃ _, _); walk_at "x1"
  | (with_reducible show DEnds.nx _ _); dsimp only
  | (with_reducible show if _ = true then _ else _); first | refine if_t rfl ?_ | refine if_f rfl ?_
  | (with_reducible show DEnds.rt _ _ _); dsimp only
  | (with_reducible show _ ∧ _); refine ⟨(by walk_at "side"), ?_⟩)
local macro_rules | `(tactic| walk_at "d") => `(tactic| repeat walk_at "d1")
def isL : D → Bool
  | .lst _ => true
  | _ => false
def isTu : D → Bool
  | .tup _ => true
  | _ => false
def isS : D → Bool
  | .str _ => true
  | _ => false
def isB : D → Bool
  | .bl _ => true
  | _ => false
def isI : D → Bool
  | .int _ => true
  | .bl _ => true
  | _ => false
theorem kb_list {d : D} (h : tyOk d = true) : kitB d.ty "list" = some (isL d) := by
  cases d with
  | non => exact (by decide +kernel : kitB "NoneType" "list" = some false)
  | bl x => exact (by decide +kernel : kitB "bool" "list" = some false)
  | int x => exact (by decide +kernel : kitB "int" "list" = some false)
  | str x => exact (by decide +kernel : kitB "str" "list" = some false)
  | tup x => exact (by decide +kernel : kitB "tuple" "list" = some false)
  | lst x => exact (by decide +kernel : kitB "list" "list" = some true)
  | dk => cases h
  | dt => cases h
  | raw => cases h
theorem kb_tuple {d : D} (h : tyOk d = true) : kitB d.ty "tuple" = some (isTu d) := by
  cases d with
  | non => exact (by decide +kernel : kitB "NoneType" "tuple" = some false)
  | bl x => exact (by decide +kernel : kitB "bool" "tuple" = some false)
  | int x => exact (by decide +kernel : kitB "int" "tuple" = some false)
  | str x => exact (by decide +kernel : kitB "str" "tuple" = some false)
  | tup x => exact (by decide +kernel : kitB "tuple" "tuple" = some true)
  | lst x => exact (by decide +kernel : kitB "list" "tuple" = some false)
  | dk => cases h
  | dt => cases h
  | raw => cases h
theorem kb_str {d : D} (h : tyOk d = true) : kitB d.ty "str" = some (isS d) := by
  cases d with
  | non => exact (by decide +kernel : kitB "NoneType" "str" = some false)
  | bl x => exact (by decide +kernel : kitB "bool" "str" = some false)
  | int x => exact (by decide +kernel : kitB "int" "str" = some false)
  | str x => exact (by decide +kernel : kitB "str" "str" = some true)
  | tup x => exact (by decide +kernel : kitB "tuple" "str" = some false)
  | lst x => exact (by decide +kernel : kitB "list" "str" = some false)
  | dk => cases h
  | dt => cases h
  | raw => cases h
theorem kb_bool {d : D} (h : tyOk d = true) : kitB d.ty "bool" = some (isB d) := by
  cases d with
  | non => exact (by decide +kernel : kitB "NoneType" "bool" = some false)
  | bl x => exact (by decide +kernel : kitB "bool" "bool" = some true)
  | int x => exact (by decide +kernel : kitB "int" "bool" = some false)
  | str x => exact (by decide +kernel : kitB "str" "bool" = some false)
  | tup x => exact (by decide +kernel : kitB "tuple" "bool" = some false)
  | lst x => exact (by decide +kernel : kitB "list" "bool" = some false)
  | dk => cases h
  | dt => cases h
  | raw => cases h
theorem kb_int {d : D} (h : tyOk d = true) : kitB d.ty "int" = some (isI d) := by
  cases d with
  | non => exact (by decide +kernel : kitB "NoneType" "int" = some false)
  | bl x => exact (by decide +kernel : kitB "bool" "int" = some true)
  | int x => exact (by decide +kernel : kitB "int" "int" = some true)
  | str x => exact (by decide +kernel : kitB "str" "int" = some false)
  | tup x => exact (by decide +kernel : kitB "tuple" "int" = some false)
  | lst x => exact (by decide +kernel : kitB "list" "int" = some false)
  | dk => cases h
  | dt => cases h
  | raw => cases h
theorem if_t {t : Bool} {A B : Prop} (h : t = true) (a : A) : if t = true then A else B := by rw [if_pos h]; exact a
theorem if_f {t : Bool} {A B : Prop} (h : t = false) (a : B) : if t = true then A else B := by rw [if_neg (by rw [h]; exact Bool.false_ne_true)]; exact a
section
variable {P : Program} {w : World} {K : PySem.W.Frag} {mg : Str → Option Value} {base : Heap} {f : Addr} {fd : FuncData}
/-- data without dicts, n deep, not too long -/
inductive Sm : Nat → D → Prop
  | non {n} : Sm n .non
  | bl {n} (b : Bool) : Sm n (.bl b)
  | int {n} (i : Int) : Sm n (.int i)
  | str {n} (x : Str) : Sm n (.str x)
  | tup {n} {ds : List D} : (∀ d ∈ ds, Sm n d) → ds.length ≤ 1000 → Sm (n + 1) (.tup ds)
  | lst {n} {ds : List D} : (∀ d ∈ ds, Sm n d) → ds.length ≤ 1000 → Sm (n + 1) (.lst ds)
/-! _law_same -/
abbrev N__law_same : List Str := ["_law_found", "_law_due", "_law_mine", "_law_its"]
theorem nd__law_same : N__law_same.Nodup := by decide +kernel
theorem sc__law_same : FnScope N__law_same ["_law_found", "_law_due"] (defScope s__law_same) := ⟨rfl, rfl, rfl, nd__law_same, rfl, by decide +kernel, by decide +kernel⟩
def S__law_same (n : Nat) : FSp := fS (fun d : D => [.fz d, .fz d]) (Sm n) (fun _ => .fz (.bl true))
structure Bi (mg : Str → Option Value) : Prop where
  len : mg "len" = none
  abs : mg "abs" = none
  int : mg "int" = none
  list : mg "list" = none
  tuple : mg "tuple" = none
  sorted : mg "sorted" = none
  all : mg "all" = none
  min : mg "min" = none
  max : mg "max" = none
  dict : mg "dict" = none
  isinstance : mg "isinstance" = none
  str : mg "str" = none
  bool : mg "bool" = none
  range : mg "range" = none
  enumerate : mg "enumerate" = none
  zip : mg "zip" = none
theorem ok__law_same (B : Bi mg) (g_same : mg "_law_same" = some (.ref f)) (F : FnP K "_law_same" s__law_same f fd) : ∀ n, FnOk P w K mg base CX0 (n + 1) f fd ["_law_found", "_law_due"] (spOf K [] 2 (S__law_same n)) := by
  have b_same : Binds K fd ["_law_found", "_law_due"] [] := F.bindsN fun _ _ _ _ _ _ us hl => match us, hl with | [_, _], _ => rfl
  have n_len := B.len; have n_isinstance := B.isinstance; have n_list := B.list; have n_tuple := B.tuple; have n_str := B.str; have n_bool := B.bool; have n_int := B.int; have n_all := B.all; have n_zip := B.zip
  have nd := nd__law_same
  intro n
  induction n using Nat.strongRecOn with
  | ind n ih =>
    refine fn_ok (S := S__law_same n) 2 (by decide) (by decide) F sc__law_same fun cdv A outer s H E b cs Post hr hcl hS => ?_
    obtain ⟨d, rfl, hd, q⟩ := hS
    have hu : (A.deeper (envOfC "_law_same" (defScope s__law_same) s.heap.objs.size f cdv)).units + 64 < cLine := hr.units
    have hu1 : (A.deeper (envOfC "_law_same" (defScope s__law_same) s.heap.objs.size f cdv)).units + 1 < cLine := by omega
    change DSs _ b _ [.fz d, .fz d, .no, .no] _
    cases hd with
    | int i =>
      walk_at "d"
      exact fz_eq (q _) (by simp)
    | non =>
      walk_at "d"
      refine eq_dat (.fz _) (.fz _) .non .non (n := 1) (by decide) ?_
      walk_at "d"
      exact fz_eq (q _) (by simp [D.eqb, D.py, PyData.eqv])
    | bl x =>
      walk_at "d"
      exact fz_eq (q _) (by simp)
    | str x =>
      walk_at "d"
      exact fz_eq (q _) (by simp)
    | @tup m ds hs hz =>
      have G := ih m (Nat.lt_succ_self m)
      have G : FnOk P w K mg base CX0 (m + 1) f fd _ (spOf K [] 2 (S__law_same m)) := G
      walk_at "d"
      refine if_t (by simp) ?_
      walk_at "d"
      refine de_lc [("_law_mine", 2), ("_law_its", 3)] rfl nd (by change BlkOk N__law_same (defScope s__law_same) _ _; walk_at "blk") (by simp) ?_
      refine DI.a (di_zipT rfl n_zip ?_)
      walk_at "d"
      have hzl : (zipD ds ds).length = ds.length := by rw [zipD_len]; omega
      refine ⟨by rw [hzl]; omega, fun k acc e => acc = List.replicate k (.bl true) ∧ e = [.fz (.tup ds), .fz (.tup ds), .no, .no], ⟨rfl, rfl⟩, ?_, ?_, ?_⟩
      · rintro k acc e ⟨rfl, rfl⟩
        exact ⟨trivial, by simp, by simp⟩
      · rintro k d acc e hd ⟨rfl, rfl⟩ s1 H1 C1 cl1 fp1
        obtain ⟨d1, d2, h1, h2, rfl⟩ := zipD_get ds ds k d hd
        rw [h1] at h2
        cases h2
        refine dgo_tup (is := [2, 3]) rfl nd (by walk_at "puts") rfl rfl rfl (by simp) ?_
        intro s2 H2 C2 cl2 fp2
        refine dts_nil (ite_b (fun _ => ?_) (fun z => nomatch z))
        intro s3 H3 C3 cl3 fp3
        refine de_call G fS_mono hr rfl g_same F.kp b_same ?_
        walk_at "d"
        refine ⟨d1, rfl, hs d1 (List.mem_of_getElem? h1), fun e => ?_⟩
        refine ⟨_, rfl, ?_, rfl⟩
        rw [List.replicate_succ']
      · rintro acc e ⟨rfl, rfl⟩
        walk_at "d"
        refine all_c (.ow _) (bs := List.replicate (zipD ds ds).length true) (by simp) ?_
        walk_at "d"
        exact fz_eq (q _) (by simp)
    | @lst m ds hs hz =>
      have G := ih m (Nat.lt_succ_self m)
      have G : FnOk P w K mg base CX0 (m + 1) f fd _ (spOf K [] 2 (S__law_same m)) := G
      walk_at "d"
      refine if_t (by simp) ?_
      walk_at "d"
      refine de_lc [("_law_mine", 2), ("_law_its", 3)] rfl nd (by change BlkOk N__law_same (defScope s__law_same) _ _; walk_at "blk") (by simp) ?_
      refine DI.a (di_zip rfl n_zip ?_)
      walk_at "d"
      refine ⟨_, _, .inl rfl, .inl rfl, ?_⟩
      have hzl : (zipD ds ds).length = ds.length := by rw [zipD_len]; omega
      refine ⟨by rw [hzl]; omega, fun k acc e => acc = List.replicate k (.bl true) ∧ e = [.fz (.lst ds), .fz (.lst ds), .no, .no], ⟨rfl, rfl⟩, ?_, ?_, ?_⟩
      · rintro k acc e ⟨rfl, rfl⟩
        exact ⟨trivial, by simp, by simp⟩
      · rintro k d acc e hd ⟨rfl, rfl⟩ s1 H1 C1 cl1 fp1
        obtain ⟨d1, d2, h1, h2, rfl⟩ := zipD_get ds ds k d hd
        rw [h1] at h2
        cases h2
        refine dgo_tup (is := [2, 3]) rfl nd (by walk_at "puts") rfl rfl rfl (by simp) ?_
        intro s2 H2 C2 cl2 fp2
        refine dts_nil (ite_b (fun _ => ?_) (fun z => nomatch z))
        intro s3 H3 C3 cl3 fp3
        refine de_call G fS_mono hr rfl g_same F.kp b_same ?_
        walk_at "d"
        refine ⟨d1, rfl, hs d1 (List.mem_of_getElem? h1), fun e => ?_⟩
        refine ⟨_, rfl, ?_, rfl⟩
        rw [List.replicate_succ']
      · rintro acc e ⟨rfl, rfl⟩
        walk_at "d"
        refine all_c (.ow _) (bs := List.replicate (zipD ds ds).length true) (by simp) ?_
        walk_at "d"
        exact fz_eq (q _) (by simp)
end
end K13



set_option Elab.async false
set_option linter.all false
set_option maxRecDepth 100000
set_option maxHeartbeats 1000000
set_option pp.deepTerms false
set_option pp.deepTerms.threshold 6
set_option pp.oneline false
set_option pp.proofs false
namespace K13
open PySem PySem.Spec PyProof.Rows L2 DL
set_option hygiene false
local macro_rules | `(tactic| walk_at "vw") => `(tactic| first
  | exact Vw.fz _
  | exact Vw.al rfl
  | exact Vw.ow _ rfl)
local macro_rules | `(tactic| walk_at "puts") => `(tactic| repeat (first | exact DL.Puts.nil | refine DL.Puts.cons rfl (by first | exact Or.inl rfl | exact Or.inr rfl) (by first | exact Or.inl rfl | exact Or.inr rfl) rfl ?_))
local macro_rules | `(tactic| walk_at "blk") => `(tactic| exact ⟨rfl, by decide +kernel, by decide +kernel, by decide +kernel, by decide +kernel⟩)
local macro_rules | `(tactic| walk_at "vis") => `(tactic| first
  | exact Or.inl rfl
  | exact Or.inr (Or.inl rfl)
  | exact Or.inr (Or.inr rfl))
local macro_rules | `(tactic| walk_at "side") => `(tactic| first
  | assumption
  | omega
  | (simp only [List.length_set, List.length_cons, List.length_nil]; omega)
  | exact fun j z => (nomatch z)
  | (refine Or.inl ⟨?_, ?_⟩ <;> omega)
  | (refine Or.inr ⟨?_, ?_⟩ <;> omega)
  | decide
  | ((with_reducible show _ = _); rfl))
local macro_rules | `(tactic| walk_at "var") => `(tactic| first
  | refine de_var (i := 0) rfl (by walk_at "vis") rfl ?_ | refine de_var_ow (i := 0) (by decide) rfl (by walk_at "vis") rfl ?_
  | refine de_var (i := 1) rfl (by walk_at "vis") rfl ?_ | refine de_var_ow (i := 1) (by decide) rfl (by walk_at "vis") rfl ?_
  | refine de_var (i := 2) rfl (by walk_at "vis") rfl ?_ | refine de_var_ow (i := 2) (by decide) rfl (by walk_at "vis") rfl ?_
  | refine de_var (i := 3) rfl (by walk_at "vis") rfl ?_ | refine de_var_ow (i := 3) (by decide) rfl (by walk_at "vis") rfl ?_
  | refine de_var (i := 4) rfl (by walk_at "vis") rfl ?_ | refine de_var_ow (i := 4) (by decide) rfl (by walk_at "vis") rfl ?_
  | refine de_var (i := 5) rfl (by walk_at "vis") rfl ?_ | refine de_var_ow (i := 5) (by decide) rfl (by walk_at "vis") rfl ?_
  | refine de_var (i := 6) rfl (by walk_at "vis") rfl ?_ | refine de_var_ow (i := 6) (by decide) rfl (by walk_at "vis") rfl ?_
  | refine de_var (i := 7) rfl (by walk_at "vis") rfl ?_ | refine de_var_ow (i := 7) (by decide) rfl (by walk_at "vis") rfl ?_
  | refine de_var (i := 8) rfl (by walk_at "vis") rfl ?_ | refine de_var_ow (i := 8) (by decide) rfl (by walk_at "vis") rfl ?_
  | refine de_var (i := 9) rfl (by walk_at "vis") rfl ?_ | refine de_var_ow (i := 9) (by decide) rfl (by walk_at "vis") rfl ?_
  | refine de_var (i := 10) rfl (by walk_at "vis") rfl ?_ | refine de_var_ow (i := 10) (by decide) rfl (by walk_at "vis") rfl ?_
  | refine de_var (i := 11) rfl (by walk_at "vis") rfl ?_ | refine de_var_ow (i := 11) (by decide) rfl (by walk_at "vis") rfl ?_
  | refine de_var (i := 12) rfl (by walk_at "vis") rfl ?_ | refine de_var_ow (i := 12) (by decide) rfl (by walk_at "vis") rfl ?_
  | refine de_var (i := 13) rfl (by walk_at "vis") rfl ?_ | refine de_var_ow (i := 13) (by decide) rfl (by walk_at "vis") rfl ?_
  | refine de_var (i := 14) rfl (by walk_at "vis") rfl ?_ | refine de_var_ow (i := 14) (by decide) rfl (by walk_at "vis") rfl ?_
  | refine de_var (i := 15) rfl (by walk_at "vis") rfl ?_ | refine de_var_ow (i := 15) (by decide) rfl (by walk_at "vis") rfl ?_
  | refine de_var (i := 16) rfl (by walk_at "vis") rfl ?_ | refine de_var_ow (i := 16) (by decide) rfl (by walk_at "vis") rfl ?_)
local macro_rules | `(tactic| walk_at "const") => `(tactic| first
  | with_reducible refine de_int ?_
  | with_reducible refine de_str ?_
  | with_reducible refine de_bl ?_
  | with_reducible refine de_non ?_)
local macro_rules | `(tactic| walk_at "e1") => `(tactic| first
  | (with_reducible show DE _ _ (Expr.Name _ _) _ _); walk_at "var"
  | (with_reducible show DE _ _ (Expr.Constant _ _ _) _ _); walk_at "const"
  | (with_reducible show DE _ _ (Expr.Call (Expr.Name _ _) _ [] _) _ _); walk_at "bi"
  | with_reducible refine de_add ?_
  | with_reducible refine de_sub ?_
  | with_reducible refine de_mul ?_
  | with_reducible refine de_mod ?_
  | with_reducible refine de_div ?_
  | with_reducible refine de_pow ?_
  | with_reducible refine de_neg ?_
  | with_reducible refine de_tuple ?_
  | with_reducible refine de_list ?_
  | with_reducible refine de_ifExp ?_
  | with_reducible refine de_not ?_
  | with_reducible refine de_bool1 ?_
  | with_reducible refine de_and ?_
  | with_reducible refine de_or ?_
  | with_reducible refine de_revL ?_
  | with_reducible refine de_slice ?_
  | (with_reducible show DE _ _ (Expr.Subscript _ _ _) _ _); refine de_ix hu1 (fun _ _ => rfl) ?_
  | (with_reducible show DE _ _ (Expr.Compare _ [CmpOp.Is] _ _) _ _); refine de_isN ?_
  | (with_reducible show DE _ _ (Expr.Compare _ [CmpOp.Eq] _ _) _ _); refine de_cmp (op_eqAll hu) (nobehind _ (by decide) (by decide)) ?_
  | (with_reducible show DE _ _ (Expr.Compare _ [CmpOp.NotEq] _ _) _ _); refine de_cmp (op_neAll hu) (nobehind _ (by decide) (by decide)) ?_
  | (with_reducible show DE _ _ (Expr.Compare _ [CmpOp.Lt] _ _) _ _); refine de_cmp op_ltAll (nobehind _ (by decide) (by decide)) ?_
  | (with_reducible show DE _ _ (Expr.Compare _ [CmpOp.LtE] _ _) _ _); refine de_cmp op_leAll (nobehind _ (by decide) (by decide)) ?_
  | (with_reducible show DE _ _ (Expr.Compare _ [CmpOp.Gt] _ _) _ _); refine de_cmp op_gtAll (nobehind _ (by decide) (by decide)) ?_
  | (with_reducible show DE _ _ (Expr.Compare _ [CmpOp.GtE] _ _) _ _); refine de_cmp op_geAll (nobehind _ (by decide) (by decide)) ?_
  | (with_reducible show DE _ _ (Expr.Compare _ [CmpOp.In] _ _) _ _); refine de_cmp (op_inAll hu1) rfl ?_
  | (with_reducible show DE _ _ (Expr.Compare _ [CmpOp.NotIn] _ _) _ _); refine de_cmp (op_notInAll hu1) rfl ?_
  | (with_reducible show DE _ _ (Expr.Call (Expr.Attribute _ "append" _) [_] _ _) _ _); refine de_append ?_
  | (with_reducible show DE _ _ (Expr.Call (Expr.Attribute _ "pop" _) [_] _ _) _ _); refine de_popAt ?_
  | (with_reducible show DE _ _ (Expr.Call (Expr.Attribute _ "join" _) [_] _ _) _ _); refine de_join ?_)
local macro_rules | `(tactic| walk_at "bi") => `(tactic| first
  | (with_reducible show DE _ _ (Expr.Call (Expr.Name "isinstance" _) [_, Expr.Name "list" _] [] _) _ _); refine de_isi1 rfl n_isinstance rfl n_list boot_list ?_
  | (with_reducible show DE _ _ (Expr.Call (Expr.Name "isinstance" _) [_, Expr.Name "tuple" _] [] _) _ _); refine de_isi1 rfl n_isinstance rfl n_tuple boot_tuple ?_
  | (with_reducible show DE _ _ (Expr.Call (Expr.Name "isinstance" _) [_, Expr.Name "str" _] [] _) _ _); refine de_isi1 rfl n_isinstance rfl n_str boot_str ?_
  | (with_reducible show DE _ _ (Expr.Call (Expr.Name "isinstance" _) [_, Expr.Name "bool" _] [] _) _ _); refine de_isi1 rfl n_isinstance rfl n_bool boot_bool ?_
  | (with_reducible show DE _ _ (Expr.Call (Expr.Name "isinstance" _) [_, Expr.Name "int" _] [] _) _ _); refine de_isi1 rfl n_isinstance rfl n_int boot_int ?_
  | (with_reducible show DE _ _ (Expr.Call (Expr.Name "isinstance" _) [_, Expr.Tuple [Expr.Name "list" _, Expr.Name "tuple" _] _ _] [] _) _ _); refine de_isi2 rfl n_isinstance rfl n_list boot_list rfl n_tuple boot_tuple ?_
  | (with_reducible show DE _ _ (Expr.Call (Expr.Name "isinstance" _) [_, Expr.Tuple [Expr.Name "str" _, Expr.Name "bool" _] _ _] [] _) _ _); refine de_isi2 rfl n_isinstance rfl n_str boot_str rfl n_bool boot_bool ?_
  | (with_reducible show DE _ _ (Expr.Call (Expr.Name "len" _) _ [] _) _ _); refine de_callB call_lenA rfl n_len boot_len ?_
  | (with_reducible show DE _ _ (Expr.Call (Expr.Name "abs" _) _ [] _) _ _); refine de_callB call_abs rfl n_abs boot_abs ?_
  | (with_reducible show DE _ _ (Expr.Call (Expr.Name "int" _) _ [] _) _ _); refine de_callTy call_int1 rfl n_int boot_int ?_
  | (with_reducible show DE _ _ (Expr.Call (Expr.Name "list" _) _ [] _) _ _); refine de_callTy call_list_of rfl n_list boot_list ?_
  | (with_reducible show DE _ _ (Expr.Call (Expr.Name "tuple" _) _ [] _) _ _); refine de_callTy call_tuple_of rfl n_tuple boot_tuple ?_
  | (with_reducible show DE _ _ (Expr.Call (Expr.Name "sorted" _) _ [] _) _ _); refine de_callB (cr_sortD hu) rfl n_sorted boot_sorted ?_
  | (with_reducible show DE _ _ (Expr.Call (Expr.Name "sum" _) _ [] _) _ _); refine de_callB (cr_sum rfl) rfl n_sum boot_sum ?_
  | (with_reducible show DE _ _ (Expr.Call (Expr.Name "all" _) _ [] _) _ _); refine de_callB (cr_all rfl) rfl n_all boot_all ?_
  | (with_reducible show DE _ _ (Expr.Call (Expr.Name "any" _) _ [] _) _ _); refine de_callB (cr_any rfl) rfl n_any boot_any ?_
  | (with_reducible show DE _ _ (Expr.Call (Expr.Name "min" _) _ [] _) _ _); refine de_callB (call_minA rfl) rfl n_min boot_min ?_
  | (with_reducible show DE _ _ (Expr.Call (Expr.Name "max" _) _ [] _) _ _); refine de_callB (call_maxA rfl) rfl n_max boot_max ?_
  | (with_reducible show DE _ _ (Expr.Call (Expr.Name "dict" _) _ [] _) _ _); refine de_callTy (call_dictP rfl) rfl n_dict boot_dict ?_)
local macro_rules | `(tactic| walk_at "oa") => `(tactic| first
  | refine len_c (by walk_at "vw") (by first | exact Ln.lst _ | exact Ln.tup _ | exact Ln.dk _) ?_
  | refine abs_c (.fz _) ?_
  | refine int_b (.fz _) ?_
  | refine int_i (.fz _) ?_
  | refine list_t (.fz _) ?_
  | refine list_l (by walk_at "vw") ?_
  | refine tuple_t (.fz _) ?_
  | refine tuple_l (by walk_at "vw") ?_
  | refine mm_str (.fz _) (.fz _) ?_
  | refine mm_int (.fz _) (.fz _) ?_)
local macro_rules | `(tactic| walk_at "t1") => `(tactic| first
  | (with_reducible show DT _ _ (Expr.Compare _ [CmpOp.Is] _ _) _ _); refine dt_isN ?_
  | (with_reducible show DT _ _ (Expr.Compare _ [CmpOp.Eq] _ _) _ _); refine dt_cmp (op_eqAll hu) (nobehind _ (by decide) (by decide)) ?_
  | (with_reducible show DT _ _ (Expr.Compare _ [CmpOp.NotEq] _ _) _ _); refine dt_cmp (op_neAll hu) (nobehind _ (by decide) (by decide)) ?_
  | (with_reducible show DT _ _ (Expr.Compare _ [CmpOp.Lt] _ _) _ _); refine dt_cmp op_ltAll (nobehind _ (by decide) (by decide)) ?_
  | (with_reducible show DT _ _ (Expr.Compare _ [CmpOp.LtE] _ _) _ _); refine dt_cmp op_leAll (nobehind _ (by decide) (by decide)) ?_
  | (with_reducible show DT _ _ (Expr.Compare _ [CmpOp.Gt] _ _) _ _); refine dt_cmp op_gtAll (nobehind _ (by decide) (by decide)) ?_
  | (with_reducible show DT _ _ (Expr.Compare _ [CmpOp.GtE] _ _) _ _); refine dt_cmp op_geAll (nobehind _ (by decide) (by decide)) ?_
  | (with_reducible show DT _ _ (Expr.Compare _ [CmpOp.In] _ _) _ _); refine dt_cmp (op_inAll hu1) rfl ?_
  | (with_reducible show DT _ _ (Expr.Compare _ [CmpOp.NotIn] _ _) _ _); refine dt_cmp (op_notInAll hu1) rfl ?_
  | with_reducible refine dt_not ?_
  | with_reducible refine dt_bool ?_
  | (with_reducible show DT _ _ (Expr.Call _ _ _ _) _ _); refine dt_val ?_)
local macro_rules | `(tactic| walk_at "w1") => `(tactic| first
  | with_reducible refine dw_and1 ?_
  | with_reducible refine dw_or1 ?_
  | with_reducible refine dw_and ?_
  | with_reducible refine dw_or ?_)
local macro_rules | `(tactic| walk_at "a1") => `(tactic| first
  | with_reducible refine da_nil ?_
  | refine da_cons ?_)
local macro_rules | `(tactic| walk_at "o2") => `(tactic| first
  | (with_reducible show Op2 _ _ (rAddAll _) _ _ _ _); first | refine add_int (.fz _) (.fz _) ?_ | refine add_str (.fz _) (.fz _) (by walk_at "side") ?_ | refine add_tup (.fz _) (.fz _) (by walk_at "side") ?_ | refine add_lst (by walk_at "vw") (by walk_at "vw") (by walk_at "side") ?_
  | (with_reducible show Op2 _ _ (rIxAll _) _ _ _ _); first | refine ix_tpl (.fz _) (.fz _) rfl ?_ | refine ix_lst (by walk_at "vw") (.fz _) rfl ?_ | refine ix_tpl (.fz _) (.fz _) (by assumption) ?_ | refine ix_lst (by walk_at "vw") (.fz _) (by assumption) ?_ | refine ix_dk (by walk_at "vw") (.fz _) (k := .inr _) rfl (by assumption) ?_
  | (with_reducible show Op2 _ _ (rEqAll _) _ _ _ _); first | refine eq_int (.fz _) (.fz _) ?_ | refine eq_str (.fz _) (.fz _) ?_ | refine eq_bl (.fz _) (.fz _) ?_
  | (with_reducible show Op2 _ _ (rNeAll _) _ _ _ _); first | refine ne_int (.fz _) (.fz _) ?_ | refine ne_str (.fz _) (.fz _) ?_ | refine ne_bl (.fz _) (.fz _) ?_
  | refine op_ib0 (.fz _) (.fz _) ?_
  | refine lt_int (.fz _) (.fz _) ?_
  | refine lt_str (.fz _) (.fz _) ?_
  | refine in_dk (by walk_at "vw") (by walk_at "vw") rfl ?_)
local macro_rules | `(tactic| walk_at "o1") => `(tactic| first
  | refine cut_t (.fz _) ?_
  | refine cut_l (by walk_at "vw") ?_)
local macro_rules | `(tactic| walk_at "x1") => `(tactic| first
  | refine ⟨_, _, .fz _, rfl, kb_list rfl, ?_⟩
  | refine ⟨_, _, .fz _, rfl, kb_tuple rfl, ?_⟩
  | refine ⟨_, _, .fz _, rfl, kb_str rfl, ?_⟩
  | refine ⟨_, _, .fz _, rfl, kb_bool rfl, ?_⟩
  | refine ⟨_, _, .fz _, rfl, kb_int rfl, ?_⟩
  | refine ⟨_, _, _, .fz _, rfl, kb_list rfl, kb_tuple rfl, ?_⟩
  | refine ⟨_, _, _, .fz _, rfl, kb_str rfl, kb_bool rfl, ?_⟩
  | refine ⟨_, _, _, rfl, rfl, Put.lst rfl, ?_⟩
  | refine ⟨_, _, .fz _, .fz _, ?_⟩
  | refine ⟨_, .fz _, ?_⟩
  | refine ⟨_, rfl, ?_⟩
  | refine ⟨_, (.cons (.cons (.cons .nil))), ?_⟩
  | refine ⟨_, (.cons (.cons .nil)), ?_⟩
  | refine ⟨_, (.cons .nil), ?_⟩
  | refine ⟨_, (.cons (.cons (.cons (.cons .nil)))), ?_⟩
  | refine ⟨_, .nil, ?_⟩
  | refine ⟨_, (.cons (.cons (.cons (.cons (.cons .nil))))), ?_⟩
  | refine ⟨_, (.cons (.cons (.cons (.cons (.cons (.cons .nil)))))), ?_⟩
  | refine ⟨_, (.cons (.cons (.cons (.cons (.cons (.cons (.cons .nil))))))), ?_⟩
  | refine ⟨_, _, rfl, rfl, ?_⟩)
local macro_rules | `(tactic| walk_at "set") => `(tactic| first
  | refine ds_set (i := 0) nd rfl (by first | exact Or.inl rfl | exact Or.inr rfl) (by decide) ?_
  | refine ds_set (i := 1) nd rfl (by first | exact Or.inl rfl | exact Or.inr rfl) (by decide) ?_
  | refine ds_set (i := 2) nd rfl (by first | exact Or.inl rfl | exact Or.inr rfl) (by decide) ?_
  | refine ds_set (i := 3) nd rfl (by first | exact Or.inl rfl | exact Or.inr rfl) (by decide) ?_
  | refine ds_set (i := 4) nd rfl (by first | exact Or.inl rfl | exact Or.inr rfl) (by decide) ?_
  | refine ds_set (i := 5) nd rfl (by first | exact Or.inl rfl | exact Or.inr rfl) (by decide) ?_
  | refine ds_set (i := 6) nd rfl (by first | exact Or.inl rfl | exact Or.inr rfl) (by decide) ?_
  | refine ds_set (i := 7) nd rfl (by first | exact Or.inl rfl | exact Or.inr rfl) (by decide) ?_
  | refine ds_set (i := 8) nd rfl (by first | exact Or.inl rfl | exact Or.inr rfl) (by decide) ?_
  | refine ds_set (i := 9) nd rfl (by first | exact Or.inl rfl | exact Or.inr rfl) (by decide) ?_
  | refine ds_set (i := 10) nd rfl (by first | exact Or.inl rfl | exact Or.inr rfl) (by decide) ?_
  | refine ds_set (i := 11) nd rfl (by first | exact Or.inl rfl | exact Or.inr rfl) (by decide) ?_
  | refine ds_set (i := 12) nd rfl (by first | exact Or.inl rfl | exact Or.inr rfl) (by decide) ?_
  | refine ds_set (i := 13) nd rfl (by first | exact Or.inl rfl | exact Or.inr rfl) (by decide) ?_
  | refine ds_set (i := 14) nd rfl (by first | exact Or.inl rfl | exact Or.inr rfl) (by decide) ?_
  | refine ds_set (i := 15) nd rfl (by first | exact Or.inl rfl | exact Or.inr rfl) (by decide) ?_
  | refine ds_set (i := 16) nd rfl (by first | exact Or.inl rfl | exact Or.inr rfl) (by decide) ?_)
local macro_rules | `(tactic| walk_at "s1") => `(tactic| first
  | (with_reducible show DS _ _ (Stmt.Assign [Expr.Name _ _] _ _) _ _); walk_at "set"
  | with_reducible refine ds_ret ?_
  | with_reducible refine ds_if ?_
  | refine ds_store hu1 ?_
  | (with_reducible show DS _ _ (Stmt.Expr _ _) _ _); refine ds_expr ?_)
local macro_rules | `(tactic| walk_at "ss1") => `(tactic| first
  | refine dss_cons ?_
  | refine dss_nil ?_)
local macro_rules | `(tactic| walk_at "d1") => `(tactic| first
  | (with_reducible show DE _ _ _ _ _); walk_at "e1"
  | (with_reducible show Op2 _ _ _ _ _ _ _); walk_at "o2"
  | (with_reducible show DA _ _ _ _ _); walk_at "a1"
  | (with_reducible show DT _ _ _ _ _); walk_at "t1"
  | (with_reducible show DTs _ _ _ _ _); first | with_reducible refine dts_one ?_ | with_reducible refine dts_nil ?_
  | (with_reducible show DO _ _ _ _ _); first | with_reducible refine do_none ?_ | with_reducible refine do_some ?_
  | (with_reducible show DW _ _ _ _ _); walk_at "w1"
  | (with_reducible show DSs _ _ _ _ _); walk_at "ss1"
  | (with_reducible show DS _ _ _ _ _); walk_at "s1"
  | (with_reducible show Op1 _ _ _ _ _ _); walk_at "o1"
  | (with_reducible show OpA _ _ _ _ _ _); walk_at "oa"
  | (with_reducible show ∃ _, _); walk_at "x1"
  | (with_reducible show DEnds.nx _ _); dsimp only
  | (with_reducible show if _ = true then _ else _); first | refine if_t rfl ?_ | refine if_f rfl ?_
  | (with_reducible show DEnds.rt _ _ _); dsimp only
  | (with_reducible show _ ∧ _); refine ⟨(by walk_at "side"), ?_⟩)
local macro_rules | `(tactic| walk_at "d") => `(tactic| repeat walk_at "d1")
section
variable {P : Program} {w : World} {K : PySem.W.Frag} {mg : Str → Option Value} {base : Heap} {f : Addr} {fd : FuncData}
def cutL {α : Type} (ds : List α) (lo hi : Option Int) : List α := (ds.drop (HT.sIx ds.length 0 lo)).take (HT.sIx ds.length ds.length hi - HT.sIx ds.length 0 lo)
theorem cut_map {α : Type} (g : α → D) (xs : List α) (lo hi : Option Int) : DL.cutD (xs.map g) lo hi = (cutL xs lo hi).map g := by
  unfold DL.cutD cutL
  rw [List.length_map, ← List.map_drop, ← List.map_take]
theorem cut_take {α : Type} (xs : List α) (u : Nat) : cutL xs none (some (u : Int)) = xs.take u := by
  unfold cutL
  rw [HT.sIx_none, HT.sIx_nat, List.drop_zero, Nat.sub_zero]
  by_cases h : u ≤ xs.length
  · rw [Nat.min_eq_left h]
  · rw [Nat.min_eq_right (by omega), List.take_of_length_le (by omega), List.take_of_length_le (by omega)]
theorem cut_mid {α : Type} (xs : List α) (u v : Nat) : (cutL xs (some (u : Int)) (some (v : Int))).length ≤ v ∧ ((cutL xs (some (u : Int)) (some (v : Int))) ≠ [] → u < xs.length) := by
  unfold cutL
  rw [HT.sIx_nat, HT.sIx_nat]
  refine ⟨?_, fun h => ?_⟩
  · rw [List.length_take]; omega
  · by_cases hu : u < xs.length
    · exact hu
    · exact absurd (by rw [List.drop_of_length_le (by omega), List.take_nil]) h
theorem ixN_nat {n j : Nat} (h : j < n) : ixN n (j : Int) = some j := by
  unfold ixN
  rw [if_pos (by omega), if_pos (by omega)]
  simp
/-! _law_cells -/
abbrev N__law_cells : List Str := ["_law_script", "_law_utmost", "_law_cells_here", "_law_k", "_law_cell"]
theorem nd__law_cells : N__law_cells.Nodup := by decide +kernel
theorem sc__law_cells : FnScope N__law_cells ["_law_script", "_law_utmost"] (defScope s__law_cells) := ⟨rfl, rfl, rfl, nd__law_cells, rfl, by decide +kernel, by decide +kernel⟩
def S__law_cells : FSp := fN (fun a : List Int × Nat => [.fz (.lst (a.1.map .int)), .fz (.int (a.2 : Nat))]) (fun a => 1 ≤ a.2 ∧ a.2 ≤ 63 ∧ a.1.length ≤ 1000) (fun a (out : List Int) => 1 ≤ out.length ∧ out.length ≤ a.2) (fun out => .ow (.lst (out.map .int)))
theorem ok__law_cells (B : Bi mg) (F : FnP K "_law_cells" s__law_cells f fd) : FnOk P w K mg base CX0 1 f fd ["_law_script", "_law_utmost"] (spOf K [] 2 S__law_cells) := by
  have n_list := B.list; have n_enumerate := B.enumerate
  refine fn_ok (S := S__law_cells) 5 (by decide) (by decide) F sc__law_cells fun cdv A outer s H E b cs Post hr hcl hS => ?_
  obtain ⟨⟨ns, u⟩, rfl, ⟨hu0, hu63, hz⟩, q⟩ := hS
  have hu0 : 1 ≤ u := hu0
  have hu63 : u ≤ 63 := hu63
  have q : ∀ out : List Int, (1 ≤ out.length ∧ out.length ≤ u) → ∀ e, Post (.ow (.lst (out.map .int))) e := q
  have hu : (A.deeper (envOfC "_law_cells" (defScope s__law_cells) s.heap.objs.size f cdv)).units + 64 < cLine := hr.units
  have hu1 : (A.deeper (envOfC "_law_cells" (defScope s__law_cells) s.heap.objs.size f cdv)).units + 1 < cLine := by omega
  have nd := nd__law_cells
  change DSs _ b _ [.fz (.lst (ns.map .int)), .fz (.int (u : Nat)), .no, .no, .no] _
  -- behind the first line: some list, as long as it must be
  have rest : ∀ out0 : List Int, 1 ≤ out0.length → out0.length ≤ u → (u < ns.length → out0.length = u) → DSs (cxOf CX0 P w K mg base N__law_cells "_law_cells" (defScope s__law_cells) f cdv A outer s H E).nox b (defBody s__law_cells).tail [.fz (.lst (ns.map .int)), .fz (.int (u : Nat)), .ow (.lst (out0.map .int)), .no, .no] { nx := fun env' => Post (.fz .non) (env'.take 2), rt := fun c env' => (∀ i, c ≠ .al i) ∧ Post c (env'.take 2) } := by
    intro out0 h1 h2 h3
    refine dss_cons (ds_for rfl PassesOwn.never ?_)
    refine di_enum rfl n_enumerate ?_
    walk_at "d"
    refine ⟨_, .inr rfl, ?_⟩
    have hc : DL.cutD (ns.map .int) (some (u : Int)) (some ((63 : Nat) : Int)) = (cutL ns (some (u : Int)) (some ((63 : Nat) : Int))).map .int := cut_map _ _ _ _
    obtain ⟨cm1, cm2⟩ := cut_mid ns u 63
    refine ⟨fun k e => ∃ (out : List Int) (c3 c4 : Cell), out.length = out0.length ∧ e = [.fz (.lst (ns.map .int)), .fz (.int (u : Nat)), .ow (.lst (out.map .int)), c3, c4], ⟨out0, _, _, rfl, rfl⟩, fun _ _ _ => trivial, ?_, ?_⟩
    · rintro k d e hd ⟨out, c3, c4, ho, rfl⟩
      obtain ⟨d', hd', rfl⟩ := enumD_get _ _ _ _ hd
      have hd2 : ((cutL ns (some (u : Int)) (some ((63 : Nat) : Int))).map D.int)[k]? = some d' := hc ▸ hd'
      rw [List.getElem?_map] at hd2
      cases hx : (cutL ns (some (u : Int)) (some ((63 : Nat) : Int)))[k]? with
      | none => rw [hx] at hd2; cases hd2
      | some c =>
        rw [hx] at hd2
        cases hd2
        have hk : k < 63 := Nat.lt_of_lt_of_le (List.getElem?_eq_some_iff.mp hx).1 cm1
        have hul : out.length = u := by rw [ho]; exact h3 (cm2 (fun z => by rw [z] at hx; simp at hx))
        have hj : k % u < out.length := by rw [hul]; exact Nat.mod_lt _ (by omega)
        have he : ((0 + k : Nat) : Int) % (u : Int) = ((k % u : Nat) : Int) := by rw [Nat.zero_add]; rfl
        have hupos : (0 : Int) < (u : Int) := by omega
        refine dg_tup (is := [3, 4]) rfl nd (by walk_at "puts") rfl rfl rfl (by simp) ?_
        walk_at "d"
        rw [he]
        refine ix_lst (.al rfl) (.fz _) (atI_map D.int hj) ?_
        walk_at "d"
        refine ⟨_, _, _, rfl, rfl, Put.lst (j := k % u) (by rw [he, List.length_map]; exact ixN_nat hj), ?_⟩
        walk_at "d"
        exact ⟨out.set (k % u) (out[k % u] + c * (((0 + k : Nat) : Int) + 2)), .fz (.int ((0 + k : Nat) : Int)), .fz (.int c), by simp [ho], by rw [List.map_set]; rfl⟩
    · rintro e ⟨out, c3, c4, ho, rfl⟩
      refine dss_cons (ds_retO ?_)
      walk_at "d"
      exact q out (by omega) _
  refine dss_cons (ds_set (i := 2) nd rfl (by first | exact Or.inl rfl | exact Or.inr rfl) (by decide) (de_orV ?_))
  walk_at "d"
  rw [cut_map, cut_take]
  refine ⟨_, _, .ow _, .lst _, ite_b (fun ht => ?_) (fun ht => ?_)⟩
  · have hne : ns.take u ≠ [] := fun z => by rw [z] at ht; simp at ht
    have hl : 0 < (ns.take u).length := List.length_pos_iff.mpr hne
    refine ⟨fun j z => (nomatch z), by simp, rest (ns.take u) hl (List.length_take_le _ _) fun h => by rw [List.length_take]; omega⟩
  · have he : ns.take u = [] := by
      cases hz : ns.take u with
      | nil => rfl
      | cons a l => rw [hz] at ht; simp at ht
    have hn : ns = [] := by
      cases hn : ns with
      | nil => rfl
      | cons a l => rw [hn] at he; cases u with
        | zero => omega
        | succ u => simp at he
    refine de_bool1 (de_list (da_cons (de_int (da_nil ⟨_, .cons .nil, by decide, fun j z => (nomatch z), by simp, ?_⟩))))
    exact rest [0] (by simp) (by simpa using hu0) fun h => by rw [hn] at h; simp at h
end
end K13



set_option Elab.async false
set_option linter.all false
set_option maxRecDepth 100000
set_option maxHeartbeats 1000000
set_option pp.deepTerms false
set_option pp.deepTerms.threshold 6
set_option pp.oneline false
set_option pp.proofs false
namespace K13
open PySem PySem.Spec PyProof.Rows L2 DL
set_option hygiene false
local macro_rules | `(tactic| walk_at "vw") => `(tactic| first
  | exact Vw.fz _
  | exact Vw.al rfl
  | exact Vw.ow _ rfl)
local macro_rules | `(tactic| walk_at "puts") => `(tactic| repeat (first | exact DL.Puts.nil | refine DL.Puts.cons rfl (by first | exact Or.inl rfl | exact Or.inr rfl) (by first | exact Or.inl rfl | exact Or.inr rfl) rfl ?_))
local macro_rules | `(tactic| walk_at "blk") => `(tactic| exact ⟨rfl, by decide +kernel, by decide +kernel, by decide +kernel, by decide +kernel⟩)
local macro_rules | `(tactic| walk_at "vis") => `(tactic| first
  | exact Or.inl rfl
  | exact Or.inr (Or.inl rfl)
  | exact Or.inr (Or.inr rfl))
local macro_rules | `(tactic| walk_at "side") => `(tactic| first
  | assumption
  | omega
  | (simp only [List.length_set, List.length_cons, List.length_nil]; omega)
  | exact fun j z => (nomatch z)
  | (refine Or.inl ⟨?_, ?_⟩ <;> omega)
  | (refine Or.inr ⟨?_, ?_⟩ <;> omega)
  | decide
  | ((with_reducible show _ = _); rfl))
local macro_rules | `(tactic| walk_at "var") => `(tactic| first
  | refine de_var (i := 0) rfl (by walk_at "vis") rfl ?_ | refine de_var_ow (i := 0) (by decide) rfl (by walk_at "vis") rfl ?_
  | refine de_var (i := 1) rfl (by walk_at "vis") rfl ?_ | refine de_var_ow (i := 1) (by decide) rfl (by walk_at "vis") rfl ?_
  | refine de_var (i := 2) rfl (by walk_at "vis") rfl ?_ | refine de_var_ow (i := 2) (by decide) rfl (by walk_at "vis") rfl ?_
  | refine de_var (i := 3) rfl (by walk_at "vis") rfl ?_ | refine de_var_ow (i := 3) (by decide) rfl (by walk_at "vis") rfl ?_
  | refine de_var (i := 4) rfl (by walk_at "vis") rfl ?_ | refine de_var_ow (i := 4) (by decide) rfl (by walk_at "vis") rfl ?_
  | refine de_var (i := 5) rfl (by walk_at "vis") rfl ?_ | refine de_var_ow (i := 5) (by decide) rfl (by walk_at "vis") rfl ?_
  | refine de_var (i := 6) rfl (by walk_at "vis") rfl ?_ | refine de_var_ow (i := 6) (by decide) rfl (by walk_at "vis") rfl ?_
  | refine de_var (i := 7) rfl (by walk_at "vis") rfl ?_ | refine de_var_ow (i := 7) (by decide) rfl (by walk_at "vis") rfl ?_
  | refine de_var (i := 8) rfl (by walk_at "vis") rfl ?_ | refine de_var_ow (i := 8) (by decide) rfl (by walk_at "vis") rfl ?_
  | refine de_var (i := 9) rfl (by walk_at "vis") rfl ?_ | refine de_var_ow (i := 9) (by decide) rfl (by walk_at "vis") rfl ?_
  | refine de_var (i := 10) rfl (by walk_at "vis") rfl ?_ | refine de_var_ow (i := 10) (by decide) rfl (by walk_at "vis") rfl ?_
  | refine de_var (i := 11) rfl (by walk_at "vis") rfl ?_ | refine de_var_ow (i := 11) (by decide) rfl (by walk_at "vis") rfl ?_
  | refine de_var (i := 12) rfl (by walk_at "vis") rfl ?_ | refine de_var_ow (i := 12) (by decide) rfl (by walk_at "vis") rfl ?_
  | refine de_var (i := 13) rfl (by walk_at "vis") rfl ?_ | refine de_var_ow (i := 13) (by decide) rfl (by walk_at "vis") rfl ?_
  | refine de_var (i := 14) rfl (by walk_at "vis") rfl ?_ | refine de_var_ow (i := 14) (by decide) rfl (by walk_at "vis") rfl ?_
  | refine de_var (i := 15) rfl (by walk_at "vis") rfl ?_ | refine de_var_ow (i := 15) (by decide) rfl (by walk_at "vis") rfl ?_
  | refine de_var (i := 16) rfl (by walk_at "vis") rfl ?_ | refine de_var_ow (i := 16) (by decide) rfl (by walk_at "vis") rfl ?_)
local macro_rules | `(tactic| walk_at "const") => `(tactic| first
  | with_reducible refine de_int ?_
  | with_reducible refine de_str ?_
  | with_reducible refine de_bl ?_
  | with_reducible refine de_non ?_)
local macro_rules | `(tactic| walk_at "e1") => `(tactic| first
  | (with_reducible show DE _ _ (Expr.Name _ _) _ _); walk_at "var"
  | (with_reducible show DE _ _ (Expr.Constant _ _ _) _ _); walk_at "const"
  | (with_reducible show DE _ _ (Expr.Call (Expr.Name _ _) _ [] _) _ _); walk_at "bi"
  | with_reducible refine de_add ?_
  | with_reducible refine de_sub ?_
  | with_reducible refine de_mul ?_
  | with_reducible refine de_mod ?_
  | with_reducible refine de_div ?_
  | with_reducible refine de_pow ?_
  | with_reducible refine de_neg ?_
  | with_reducible refine de_tuple ?_
  | with_reducible refine de_list ?_
  | with_reducible refine de_ifExp ?_
  | with_reducible refine de_not ?_
  | with_reducible refine de_bool1 ?_
  | with_reducible refine de_and ?_
  | with_reducible refine de_or ?_
  | with_reducible refine de_revL ?_
  | with_reducible refine de_slice ?_
  | (with_reducible show DE _ _ (Expr.Subscript _ _ _) _ _); refine de_ix hu1 (fun _ _ => rfl) ?_
  | (with_reducible show DE _ _ (Expr.Compare _ [CmpOp.Is] _ _) _ _); refine de_isN ?_
  | (with_reducible show DE _ _ (Expr.Compare _ [CmpOp.Eq] _ _) _ _); refine de_cmp (op_eqAll hu) (nobehind _ (by decide) (by decide)) ?_
  | (with_reducible show DE _ _ (Expr.Compare _ [CmpOp.NotEq] _ _) _ _); refine de_cmp (op_neAll hu) (nobehind _ (by decide) (by decide)) ?_
  | (with_reducible show DE _ _ (Expr.Compare _ [CmpOp.Lt] _ _) _ _); refine de_cmp op_ltAll (nobehind _ (by decide) (by decide)) ?_
  | (with_reducible show DE _ _ (Expr.Compare _ [CmpOp.LtE] _ _) _ _); refine de_cmp op_leAll (nobehind _ (by decide) (by decide)) ?_
  | (with_reducible show DE _ _ (Expr.Compare _ [CmpOp.Gt] _ _) _ _); refine de_cmp op_gtAll (nobehind _ (by decide) (by decide)) ?_
  | (with_reducible show DE _ _ (Expr.Compare _ [CmpOp.GtE] _ _) _ _); refine de_cmp op_geAll (nobehind _ (by decide) (by decide)) ?_
  | (with_reducible show DE _ _ (Expr.Compare _ [CmpOp.In] _ _) _ _); refine de_cmp (op_inAll hu1) rfl ?_
  | (with_reducible show DE _ _ (Expr.Compare _ [CmpOp.NotIn] _ _) _ _); refine de_cmp (op_notInAll hu1) rfl ?_
  | (with_reducible show DE _ _ (Expr.Call (Expr.Attribute _ "append" _) [_] _ _) _ _); refine de_append ?_
  | (with_reducible show DE _ _ (Expr.Call (Expr.Attribute _ "pop" _) [_] _ _) _ _); refine de_popAt ?_
  | (with_reducible show DE _ _ (Expr.Call (Expr.Attribute _ "join" _) [_] _ _) _ _); refine de_join ?_)
local macro_rules | `(tactic| walk_at "bi") => `(tactic| first
  | (with_reducible show DE _ _ (Expr.Call (Expr.Name "isinstance" _) [_, Expr.Name "list" _] [] _) _ _); refine de_isi1 rfl n_isinstance rfl n_list boot_list ?_
  | (with_reducible show DE _ _ (Expr.Call (Expr.Name "isinstance" _) [_, Expr.Name "tuple" _] [] _) _ _); refine de_isi1 rfl n_isinstance rfl n_tuple boot_tuple ?_
  | (with_reducible show DE _ _ (Expr.Call (Expr.Name "isinstance" _) [_, Expr.Name "str" _] [] _) _ _); refine de_isi1 rfl n_isinstance rfl n_str boot_str ?_
  | (with_reducible show DE _ _ (Expr.Call (Expr.Name "isinstance" _) [_, Expr.Name "bool" _] [] _) _ _); refine de_isi1 rfl n_isinstance rfl n_bool boot_bool ?_
  | (with_reducible show DE _ _ (Expr.Call (Expr.Name "isinstance" _) [_, Expr.Name "int" _] [] _) _ _); refine de_isi1 rfl n_isinstance rfl n_int boot_int ?_
  | (with_reducible show DE _ _ (Expr.Call (Expr.Name "isinstance" _) [_, Expr.Tuple [Expr.Name "list" _, Expr.Name "tuple" _] _ _] [] _) _ _); refine de_isi2 rfl n_isinstance rfl n_list boot_list rfl n_tuple boot_tuple ?_
  | (with_reducible show DE _ _ (Expr.Call (Expr.Name "isinstance" _) [_, Expr.Tuple [Expr.Name "str" _, Expr.Name "bool" _] _ _] [] _) _ _); refine de_isi2 rfl n_isinstance rfl n_str boot_str rfl n_bool boot_bool ?_
  | (with_reducible show DE _ _ (Expr.Call (Expr.Name "len" _) _ [] _) _ _); refine de_callB call_lenA rfl n_len boot_len ?_
  | (with_reducible show DE _ _ (Expr.Call (Expr.Name "abs" _) _ [] _) _ _); refine de_callB call_abs rfl n_abs boot_abs ?_
  | (with_reducible show DE _ _ (Expr.Call (Expr.Name "int" _) _ [] _) _ _); refine de_callTy call_int1 rfl n_int boot_int ?_
  | (with_reducible show DE _ _ (Expr.Call (Expr.Name "list" _) _ [] _) _ _); refine de_callTy call_list_of rfl n_list boot_list ?_
  | (with_reducible show DE _ _ (Expr.Call (Expr.Name "tuple" _) _ [] _) _ _); refine de_callTy call_tuple_of rfl n_tuple boot_tuple ?_
  | (with_reducible show DE _ _ (Expr.Call (Expr.Name "sorted" _) _ [] _) _ _); refine de_callB (cr_sortD hu) rfl n_sorted boot_sorted ?_
  | (with_reducible show DE _ _ (Expr.Call (Expr.Name "sum" _) _ [] _) _ _); refine de_callB (cr_sum rfl) rfl n_sum boot_sum ?_
  | (with_reducible show DE _ _ (Expr.Call (Expr.Name "all" _) _ [] _) _ _); refine de_callB (cr_all rfl) rfl n_all boot_all ?_
  | (with_reducible show DE _ _ (Expr.Call (Expr.Name "any" _) _ [] _) _ _); refine de_callB (cr_any rfl) rfl n_any boot_any ?_
  | (with_reducible show DE _ _ (Expr.Call (Expr.Name "min" _) _ [] _) _ _); refine de_callB (call_minA rfl) rfl n_min boot_min ?_
  | (with_reducible show DE _ _ (Expr.Call (Expr.Name "max" _) _ [] _) _ _); refine de_callB (call_maxA rfl) rfl n_max boot_max ?_
  | (with_reducible show DE _ _ (Expr.Call (Expr.Name "dict" _) _ [] _) _ _); refine de_callTy (call_dictP rfl) rfl n_dict boot_dict ?_)
local macro_rules | `(tactic| walk_at "oa") => `(tactic| first
  | refine len_c (by walk_at "vw") (by first | exact Ln.lst _ | exact Ln.tup _ | exact Ln.dk _) ?_
  | refine abs_c (.fz _) ?_
  | refine int_b (.fz _) ?_
  | refine int_i (.fz _) ?_
  | refine list_t (.fz _) ?_
  | refine list_l (by walk_at "vw") ?_
  | refine tuple_t (.fz _) ?_
  | refine tuple_l (by walk_at "vw") ?_
  | refine mm_str (.fz _) (.fz _) ?_
  | refine mm_int (.fz _) (.fz _) ?_)
local macro_rules | `(tactic| walk_at "t1") => `(tactic| first
  | (with_reducible show DT _ _ (Expr.Compare _ [CmpOp.Is] _ _) _ _); refine dt_isN ?_
  | (with_reducible show DT _ _ (Expr.Compare _ [CmpOp.Eq] _ _) _ _); refine dt_cmp (op_eqAll hu) (nobehind _ (by decide) (by decide)) ?_
  | (with_reducible show DT _ _ (Expr.Compare _ [CmpOp.NotEq] _ _) _ _); refine dt_cmp (op_neAll hu) (nobehind _ (by decide) (by decide)) ?_
  | (with_reducible show DT _ _ (Expr.Compare _ [CmpOp.Lt] _ _) _ _); refine dt_cmp op_ltAll (nobehind _ (by decide) (by decide)) ?_
  | (with_reducible show DT _ _ (Expr.Compare _ [CmpOp.LtE] _ _) _ _); refine dt_cmp op_leAll (nobehind _ (by decide) (by decide)) ?_
  | (with_reducible show DT _ _ (Expr.Compare _ [CmpOp.Gt] _ _) _ _); refine dt_cmp op_gtAll (nobehind _ (by decide) (by decide)) ?_
  | (with_reducible show DT _ _ (Expr.Compare _ [CmpOp.GtE] _ _) _ _); refine dt_cmp op_geAll (nobehind _ (by decide) (by decide)) ?_
  | (with_reducible show DT _ _ (Expr.Compare _ [CmpOp.In] _ _) _ _); refine dt_cmp (op_inAll hu1) rfl ?_
  | (with_reducible show DT _ _ (Expr.Compare _ [CmpOp.NotIn] _ _) _ _); refine dt_cmp (op_notInAll hu1) rfl ?_
  | with_reducible refine dt_not ?_
  | with_reducible refine dt_bool ?_
  | (with_reducible show DT _ _ (Expr.Call _ _ _ _) _ _); refine dt_val ?_)
local macro_rules | `(tactic| walk_at "w1") => `(tactic| first
  | with_reducible refine dw_and1 ?_
  | with_reducible refine dw_or1 ?_
  | with_reducible refine dw_and ?_
  | with_reducible refine dw_or ?_)
local macro_rules | `(tactic| walk_at "a1") => `(tactic| first
  | with_reducible refine da_nil ?_
  | refine da_cons ?_)
local macro_rules | `(tactic| walk_at "o2") => `(tactic| first
  | (with_reducible show Op2 _ _ (rAddAll _) _ _ _ _); first | refine add_int (.fz _) (.fz _) ?_ | refine add_str (.fz _) (.fz _) (by walk_at "side") ?_ | refine add_tup (.fz _) (.fz _) (by walk_at "side") ?_ | refine add_lst (by walk_at "vw") (by walk_at "vw") (by walk_at "side") ?_
  | (with_reducible show Op2 _ _ (rIxAll _) _ _ _ _); first | refine ix_tpl (.fz _) (.fz _) rfl ?_ | refine ix_lst (by walk_at "vw") (.fz _) rfl ?_ | refine ix_tpl (.fz _) (.fz _) (by assumption) ?_ | refine ix_lst (by walk_at "vw") (.fz _) (by assumption) ?_ | refine ix_dk (by walk_at "vw") (.fz _) (k := .inr _) rfl (by assumption) ?_
  | (with_reducible show Op2 _ _ (rEqAll _) _ _ _ _); first | refine eq_int (.fz _) (.fz _) ?_ | refine eq_str (.fz _) (.fz _) ?_ | refine eq_bl (.fz _) (.fz _) ?_
  | (with_reducible show Op2 _ _ (rNeAll _) _ _ _ _); first | refine ne_int (.fz _) (.fz _) ?_ | refine ne_str (.fz _) (.fz _) ?_ | refine ne_bl (.fz _) (.fz _) ?_
  | refine op_ib0 (.fz _) (.fz _) ?_
  | refine lt_int (.fz _) (.fz _) ?_
  | refine lt_str (.fz _) (.fz _) ?_
  | refine in_dk (by walk_at "vw") (by walk_at "vw") rfl ?_)
local macro_rules | `(tactic| walk_at "o1") => `(tactic| first
  | refine cut_t (.fz _) ?_
  | refine cut_l (by walk_at "vw") ?_)
local macro_rules | `(tactic| walk_at "x1") => `(tactic| first
  | refine ⟨_, _, .fz _, rfl, kb_list rfl, ?_⟩
  | refine ⟨_, _, .fz _, rfl, kb_tuple rfl, ?_⟩
  | refine ⟨_, _, .fz _, rfl, kb_str rfl, ?_⟩
  | refine ⟨_, _, .fz _, rfl, kb_bool rfl, ?_⟩
  | refine ⟨_, _, .fz _, rfl, kb_int rfl, ?_⟩
  | refine ⟨_, _, _, .fz _, rfl, kb_list rfl, kb_tuple rfl, ?_⟩
  | refine ⟨_, _, _, .fz _, rfl, kb_str rfl, kb_bool rfl, ?_⟩
  | refine ⟨_, _, _, rfl, rfl, Put.lst rfl, ?_⟩
  | refine ⟨_, _, .fz _, .fz _, ?_⟩
  | refine ⟨_, .fz _, ?_⟩
  | refine ⟨_, rfl, ?_⟩
  | refine ⟨_, (.cons (.cons (.cons .nil))), ?_⟩
  | refine ⟨_, (.cons (.cons .nil)), ?_⟩
  | refine ⟨_, (.cons .nil), ?_⟩
  | refine ⟨_, (.cons (.cons (.cons (.cons .nil)))), ?_⟩
  | refine ⟨_, .nil, ?_⟩
  | refine ⟨_, (.cons (.cons (.cons (.cons (.cons .nil))))), ?_⟩
  | refine ⟨_, (.cons (.cons (.cons (.cons (.cons (.cons .nil)))))), ?_⟩
  | refine ⟨_, (.cons (.cons (.cons (.cons (.cons (.cons (.cons .nil))))))), ?_⟩
  | refine ⟨_, _, rfl, rfl, ?_⟩)
local macro_rules | `(tactic| walk_at "set") => `(tactic| first
  | refine ds_set (i := 0) nd rfl (by first | exact Or.inl rfl | exact Or.inr rfl) (by decide) ?_
  | refine ds_set (i := 1) nd rfl (by first | exact Or.inl rfl | exact Or.inr rfl) (by decide) ?_
  | refine ds_set (i := 2) nd rfl (by first | exact Or.inl rfl | exact Or.inr rfl) (by decide) ?_
  | refine ds_set (i := 3) nd rfl (by first | exact Or.inl rfl | exact Or.inr rfl) (by decide) ?_
  | refine ds_set (i := 4) nd rfl (by first | exact Or.inl rfl | exact Or.inr rfl) (by decide) ?_
  | refine ds_set (i := 5) nd rfl (by first | exact Or.inl rfl | exact Or.inr rfl) (by decide) ?_
  | refine ds_set (i := 6) nd rfl (by first | exact Or.inl rfl | exact Or.inr rfl) (by decide) ?_
  | refine ds_set (i := 7) nd rfl (by first | exact Or.inl rfl | exact Or.inr rfl) (by decide) ?_
  | refine ds_set (i := 8) nd rfl (by first | exact Or.inl rfl | exact Or.inr rfl) (by decide) ?_
  | refine ds_set (i := 9) nd rfl (by first | exact Or.inl rfl | exact Or.inr rfl) (by decide) ?_
  | refine ds_set (i := 10) nd rfl (by first | exact Or.inl rfl | exact Or.inr rfl) (by decide) ?_
  | refine ds_set (i := 11) nd rfl (by first | exact Or.inl rfl | exact Or.inr rfl) (by decide) ?_
  | refine ds_set (i := 12) nd rfl (by first | exact Or.inl rfl | exact Or.inr rfl) (by decide) ?_
  | refine ds_set (i := 13) nd rfl (by first | exact Or.inl rfl | exact Or.inr rfl) (by decide) ?_
  | refine ds_set (i := 14) nd rfl (by first | exact Or.inl rfl | exact Or.inr rfl) (by decide) ?_
  | refine ds_set (i := 15) nd rfl (by first | exact Or.inl rfl | exact Or.inr rfl) (by decide) ?_
  | refine ds_set (i := 16) nd rfl (by first | exact Or.inl rfl | exact Or.inr rfl) (by decide) ?_)
local macro_rules | `(tactic| walk_at "s1") => `(tactic| first
  | (with_reducible show DS _ _ (Stmt.Assign [Expr.Name _ _] _ _) _ _); walk_at "set"
  | with_reducible refine ds_ret ?_
  | with_reducible refine ds_if ?_
  | refine ds_store hu1 ?_
  | (with_reducible show DS _ _ (Stmt.Expr _ _) _ _); refine ds_expr ?_)
local macro_rules | `(tactic| walk_at "ss1") => `(tactic| first
  | refine dss_cons ?_
  | refine dss_nil ?_)
local macro_rules | `(tactic| walk_at "d1") => `(tactic| first
  | (with_reducible show DE _ _ _ _ _); walk_at "e1"
  | (with_reducible show Op2 _ _ _ _ _ _ _); walk_at "o2"
  | (with_reducible show DA _ _ _ _ _); walk_at "a1"
  | (with_reducible show DT _ _ _ _ _); walk_at "t1"
  | (with_reducible show DTs _ _ _ _ _); first | with_reducible refine dts_one ?_ | with_reducible refine dts_nil ?_
  | (with_reducible show DO _ _ _ _ _); first | with_reducible refine do_none ?_ | with_reducible refine do_some ?_
  | (with_reducible show DW _ _ _ _ _); walk_at "w1"
  | (with_reducible show DSs _ _ _ _ _); walk_at "ss1"
  | (with_reducible show DS _ _ _ _ _); walk_at "s1"
  | (with_reducible show Op1 _ _ _ _ _ _); walk_at "o1"
  | (with_reducible show OpA _ _ _ _ _ _); walk_at "oa"
  | (with_reducible show ∃ _, _); walk_at "x1"
  | (with_reducible show DEnds.nx _ _); dsimp only
  | (with_reducible show if _ = true then _ else _); first | refine if_t rfl ?_ | refine if_f rfl ?_
  | (with_reducible show DEnds.rt _ _ _); dsimp only
  | (with_reducible show _ ∧ _); refine ⟨(by walk_at "side"), ?_⟩)
local macro_rules | `(tactic| walk_at "d") => `(tactic| repeat walk_at "d1")
section
variable {P : Program} {w : World} {K : PySem.W.Frag} {mg : Str → Option Value} {base : Heap} {f : Addr} {fd : FuncData}
theorem all2 {a : Cell} {d : D} : ∀ (n : Nat) c, ([a, .fz d] : List Cell)[n]? = some c → n ≠ 0 → ∃ d', c = .fz d' := fun n c h hn => by
  match n, h with
  | 0, _ => exact absurd rfl hn
  | 1, h => exact ⟨d, by simpa using h.symm⟩
theorem all3 {a : Cell} {d d2 : D} : ∀ (n : Nat) c, ([a, .fz d, .fz d2] : List Cell)[n]? = some c → n ≠ 0 → ∃ d', c = .fz d' := fun n c h hn => by
  match n, h with
  | 0, _ => exact absurd rfl hn
  | 1, h => exact ⟨d, by simpa using h.symm⟩
  | 2, h => exact ⟨d2, by simpa using h.symm⟩
theorem all4 {a : Cell} {d d2 d3 : D} : ∀ (n : Nat) c, ([a, .fz d, .fz d2, .fz d3] : List Cell)[n]? = some c → n ≠ 0 → ∃ d', c = .fz d' := fun n c h hn => by
  match n, h with
  | 0, _ => exact absurd rfl hn
  | 1, h => exact ⟨d, by simpa using h.symm⟩
  | 2, h => exact ⟨d2, by simpa using h.symm⟩
  | 3, h => exact ⟨d3, by simpa using h.symm⟩
theorem all1 {a : Cell} : ∀ (n : Nat) c, ([a] : List Cell)[n]? = some c → n ≠ 0 → ∃ d', c = .fz d' := fun n c h hn => by
  match n, h with
  | 0, _ => exact absurd rfl hn
/-! names -/
def letters : Str := "abcdefghijklmnopqrstuvwxyz"
theorem letter_at {r : Int} (h0 : 0 ≤ r) (h1 : r < 26) : atI letters.cps.toList r = some (97 + r.toNat) := by
  have : ∀ n : Fin 26, atI letters.cps.toList ((n.1 : Nat) : Int) = some (97 + n.1) := by decide +kernel
  have e := this ⟨r.toNat, by omega⟩
  simpa [Int.toNat_of_nonneg h0] using e
def Low (x : Str) : Prop := ∀ c ∈ x.cps.toList, 97 ≤ c ∧ c < 123
def nameOf (stem : Str) (i : Nat) : Str := stem ++ ⟨#[97 + i]⟩
structure Names (ns : List Str) (n : Nat) : Prop where
  len : ns.length = n
  nd : ns.Nodup
  low : ∀ x ∈ ns, Low x ∧ x.length ≤ 8
theorem Low.ok {x : Str} (h : Low x) : PyData.strOk x = true := by
  unfold PyData.strOk
  rw [Array.all_eq_true']
  intro c hc
  have := h c (by simpa using hc)
  simp
  omega
theorem low_one {c : Nat} (h0 : 97 ≤ c) (h1 : c < 123) : Low ⟨#[c]⟩ := fun d hd => by
  simp at hd
  omega
theorem low_app {x y : Str} (hx : Low x) (hy : Low y) : Low (x ++ y) := fun d hd => by
  have : (x ++ y).cps.toList = x.cps.toList ++ y.cps.toList := by show (x.cps ++ y.cps).toList = _; simp
  rw [this, List.mem_append] at hd
  exact hd.elim (hx d) (hy d)
theorem len_app (x y : Str) : (x ++ y).length = x.length + y.length := by show (x.cps ++ y.cps).size = _; rw [Array.size_append]; rfl
theorem join_low : ∀ {ys : List Str}, (∀ y ∈ ys, Low y ∧ y.length = 1) → Low (Txt.join "" ys) ∧ (Txt.join "" ys).length = ys.length := by
  intro ys h
  rw [TL.join_eq]
  have e : ∀ ys : List Str, (∀ y ∈ ys, Low y ∧ y.length = 1) → (∀ c ∈ TL.joinL [] (ys.map fun y => y.cps.toList), 97 ≤ c ∧ c < 123) ∧ (TL.joinL [] (ys.map fun y => y.cps.toList)).length = ys.length := by
    intro ys
    induction ys with
    | nil => intro _; exact ⟨fun c hc => by simp [TL.joinL] at hc, rfl⟩
    | cons y r ih =>
      intro h
      have hy := h y (List.mem_cons_self ..)
      have hl : y.cps.toList.length = 1 := hy.2
      cases r with
      | nil => exact ⟨fun c hc => hy.1 c (by simpa [TL.joinL] using hc), by simpa [TL.joinL] using hl⟩
      | cons z r =>
        obtain ⟨i1, i2⟩ := ih fun x hx => h x (List.mem_cons_of_mem _ hx)
        have ej : TL.joinL [] ((y :: z :: r).map fun y => y.cps.toList) = y.cps.toList ++ ([] ++ TL.joinL [] ((z :: r).map fun y => y.cps.toList)) := rfl
        rw [ej]
        refine ⟨fun c hc => ?_, ?_⟩
        · rw [List.nil_append, List.mem_append] at hc
          exact hc.elim (hy.1 c) (i1 c)
        · rw [List.nil_append, List.length_append, hl, i2]
          simp
          omega
  obtain ⟨e1, e2⟩ := e ys h
  have ht := TL.tl_join "" ys
  refine ⟨fun c hc => e1 c ?_, ?_⟩
  · have : (Str.join "" ys).cps.toList = TL.joinL [] (ys.map fun y => y.cps.toList) := ht
    rw [this] at hc
    exact hc
  · have : (Str.join "" ys).cps.toList = TL.joinL [] (ys.map fun y => y.cps.toList) := ht
    show (Str.join "" ys).cps.size = _
    rw [← Array.length_toList, this, e2]
theorem name_inj {stem : Str} {i j : Nat} (h : nameOf stem i = nameOf stem j) : i = j := by
  have h1 : (nameOf stem i).cps.toList = (nameOf stem j).cps.toList := by rw [h]
  have h2 : stem.cps.toList ++ [97 + i] = stem.cps.toList ++ [97 + j] := by
    have e : ∀ k, (nameOf stem k).cps.toList = stem.cps.toList ++ [97 + k] := fun k => by
      show (stem.cps ++ #[97 + k]).toList = _
      simp
    rw [e, e] at h1
    exact h1
  have h3 := List.append_cancel_left h2
  simp at h3
  exact h3
/-- the step runs through all letters -/
theorem step_inj {st s : Nat} (hs : st = 1 ∨ st = 7 ∨ st = 25) {i j : Nat} (hi : i < 26) (hj : j < 26) (h : (s + st * i) % 26 = (s + st * j) % 26) : i = j := by
  rcases hs with e | e | e <;> subst e <;> omega
theorem step_at {r : Int} (h0 : 0 ≤ r) (h1 : r < 3) : ∃ sp : Nat, (sp = 1 ∨ sp = 7 ∨ sp = 25) ∧ atI [D.int 1, .int 7, .int 25] r = some (.int (sp : Nat)) := by
  have : r = 0 ∨ r = 1 ∨ r = 2 := by omega
  rcases this with e | e | e <;> subst e
  · exact ⟨1, .inl rfl, rfl⟩
  · exact ⟨7, .inr (.inl rfl), rfl⟩
  · exact ⟨25, .inr (.inr rfl), rfl⟩
theorem names_ok {stem : Str} {st sp n : Nat} (hl : Low stem) (hz : stem.length ≤ 7) (hs : sp = 1 ∨ sp = 7 ∨ sp = 25) (hn : n ≤ 26) : Names ((List.range n).map fun k => nameOf stem ((st + sp * k) % 26)) n where
  len := by simp
  nd := by
    rw [List.Nodup, List.pairwise_map]
    refine List.Pairwise.imp_of_mem (fun {a c} ha hc hac h => hac ?_) List.nodup_range
    rw [List.mem_range] at ha hc
    exact step_inj hs (by omega) (by omega) (name_inj h)
  low := fun x hx => by
    obtain ⟨k, _, rfl⟩ := List.mem_map.mp hx
    have hm : (st + sp * k) % 26 < 26 := Nat.mod_lt _ (by decide)
    refine ⟨low_app hl (low_one (by omega) (by omega)), ?_⟩
    unfold nameOf
    rw [len_app]
    show stem.length + 1 ≤ 8
    omega
def S__law_callings : FSp := fB (fun n : Nat => [.fz (.int (n : Nat))]) (fun n => n ≤ 26) (fun n (ns : List Str) => Names ns n) (fun ns => .ow (.lst (ns.map .str)))
abbrev N__law_callings : List Str := ["_law_box_here", "_law_amount", "_law_letters", "_law_start", "_law_stem", "_law_step", "_law_k", "_law_turn"]
theorem nd__law_callings : N__law_callings.Nodup := by decide +kernel
theorem sc__law_callings : FnScope N__law_callings ["_law_box_here", "_law_amount"] (defScope s__law_callings) := ⟨rfl, rfl, rfl, nd__law_callings, rfl, by decide +kernel, by decide +kernel⟩
theorem ok__law_callings {fT : Addr} {fdT : FuncData} (B : Bi mg) (F_take : FnP K "_law_take" s__law_take fT fdT) (g_take : mg "_law_take" = some (.ref fT)) (F : FnP K "_law_callings" s__law_callings f fd) : FnOk P w K mg base CX0 2 f fd ["_law_box_here", "_law_amount"] (spOf K [0] 2 S__law_callings) := by
  have n_range := B.range
  have G_take : FnOk P w K mg base CX0 1 fT fdT _ _ := ok__law_take F_take
  have b_take : Binds K fdT ["_law_box_here", "_law_amount"] [] := F_take.bindsN fun _ _ _ _ _ _ us hl => match us, hl with | [_, _], _ => rfl
  refine fn_ok (S := S__law_callings) 6 (by decide) (by decide) F sc__law_callings fun cdv A outer s H E b cs Post hr hcl hS => ?_
  obtain ⟨x, n, rfl, hn, q⟩ := hS
  have hn : n ≤ 26 := hn
  have q : ∀ ns, Names ns n → ∀ x' e, e[0]? = some (.ow (boxD x')) → Post (.ow (.lst (ns.map .str))) e := q
  have hu : (A.deeper (envOfC "_law_callings" (defScope s__law_callings) s.heap.objs.size f cdv)).units + 64 < cLine := hr.units
  have hu1 : (A.deeper (envOfC "_law_callings" (defScope s__law_callings) s.heap.objs.size f cdv)).units + 1 < cLine := by omega
  have nd := nd__law_callings
  change DSs _ b _ [.ow (boxD x), .fz (.int (n : Nat)), .no, .no, .no, .no, .no, .no] _
  refine dss_cons (ds_parG (i := 2) (j := 3) rfl nd (by walk_at "puts") (by decide) (by simp) (by simp) ?_)
  walk_at "d"
  refine de_callO (j := 0) G_take fB_mono (hr.mono (by decide)) rfl g_take F_take.kp b_take ?_
  walk_at "d"
  refine ⟨_, _, _, ⟨rfl, rfl, all2, rfl⟩, rfl, x, 26, rfl, ⟨by decide, by decide⟩, fun st hst x1 e he => ⟨_, he, ?_⟩⟩
  obtain ⟨hs0, hs1⟩ := hst
  walk_at "d"
  refine ⟨_, _, rfl, fun j z => (nomatch z), fun j z => (nomatch z), by simp, by simp, ?_⟩
  refine dss_cons (ds_set (i := 4) nd rfl (by first | exact Or.inl rfl | exact Or.inr rfl) (by decide) ?_)
  walk_at "d"
  refine de_lc [("_law_turn", 7)] rfl nd (by change BlkOk N__law_callings (defScope s__law_callings) _ _; walk_at "blk") (by simp) ?_
  refine DI.a (da_range1 rfl n_range ?_)
  refine de_callO (j := 0) G_take fB_mono (hr.mono (by decide)) rfl g_take F_take.kp b_take ?_
  walk_at "d"
  refine ⟨_, _, _, ⟨rfl, rfl, all2, rfl⟩, rfl, x1, 8, rfl, ⟨by decide, by decide⟩, fun cnt hc x2 e he => ⟨_, he, ?_⟩⟩
  obtain ⟨hc0, hc1⟩ := hc
  walk_at "d"
  have hlen : (List.range cnt.toNat).length ≤ 7 := by simp; omega
  refine ⟨by simp; omega, fun k acc e => (∃ ys : List Str, acc = ys.map .str ∧ ys.length = k ∧ ∀ y ∈ ys, Low y ∧ y.length = 1) ∧ ∃ x', e = [.ow (boxD x'), .fz (.int (n : Nat)), .fz (.str letters), .fz (.int st), .no, .no, .no, .no], ⟨⟨[], rfl, rfl, by simp⟩, x2, rfl⟩, ?_, ?_, ?_⟩
  · rintro k acc e ⟨⟨ys, rfl, hy, _⟩, x', rfl⟩
    exact ⟨trivial, by simp [hy], by simp⟩
  · rintro k d acc e hd ⟨⟨ys, rfl, hy, hyl⟩, x3, rfl⟩ s1 H1 C1 cl1 fp1
    rw [List.getElem?_map] at hd
    cases hp : (List.range cnt.toNat)[k]? with
    | none => rw [hp] at hd; cases hd
    | some kk =>
      rw [hp] at hd
      cases hd
      refine dgo_name (i := 7) nd rfl (Or.inl rfl) (by first | exact Or.inl rfl | exact Or.inr rfl) (by decide) (by simp) (by simp) (fun j z => nomatch z) ?_
      intro s2 H2 C2 cl2 fp2
      refine dts_nil (ite_b (fun _ => ?_) (fun z => nomatch z))
      intro s3 H3 C3 cl3 fp3
      walk_at "d"
      refine de_callO (j := 0) G_take fB_mono (hr.mono (by decide)) rfl g_take F_take.kp b_take ?_
      walk_at "d"
      refine ⟨_, _, _, ⟨rfl, rfl, all2, rfl⟩, rfl, x3, 26, rfl, ⟨by decide, by decide⟩, fun c hc x4 e he => ⟨_, he, ?_⟩⟩
      obtain ⟨hc0', hc1'⟩ := hc
      refine ix_st (.fz _) (.fz _) (by decide +kernel) (letter_at hc0' hc1') ?_
      refine ⟨_, rfl, ⟨ys ++ [⟨#[97 + c.toNat]⟩], by simp, by simp [hy], ?_⟩, x4, rfl⟩
      intro y hy'
      rcases List.mem_append.mp hy' with h | h
      · exact hyl y h
      · have : y = ⟨#[97 + c.toNat]⟩ := by simpa using h
        rw [this]
        exact ⟨low_one (by omega) (by omega), rfl⟩
  · rintro acc e ⟨⟨ys, rfl, hy, hyl⟩, x3, rfl⟩
    have hyl2 : ys.length ≤ 7 := by rw [hy]; simpa using hlen
    have hsum : ((ys.map (·.length)).sum + ys.length * (Str.ofString "").length ≤ 100000) := by
      have h0 : (Str.ofString "").length = 0 := rfl
      rw [h0, Nat.mul_zero, Nat.add_zero]
      have : ∀ ys : List Str, (∀ y ∈ ys, Low y ∧ y.length = 1) → (ys.map (·.length)).sum = ys.length := by
        intro ys
        induction ys with
        | nil => intro _; rfl
        | cons y r ih =>
          intro h
          rw [List.map_cons, List.sum_cons, (h y (List.mem_cons_self ..)).2, ih fun z hz => h z (List.mem_cons_of_mem _ hz)]
          simp; omega
      rw [this ys hyl]
      omega
    refine ⟨ys, _, .ow _, rfl, hsum, ?_⟩
    obtain ⟨jl, jn⟩ := join_low hyl
    revert jl jn
    generalize Txt.join "" ys = stem
    intro jl jn
    walk_at "d"
    refine de_callO (j := 0) G_take fB_mono (hr.mono (by decide)) rfl g_take F_take.kp b_take ?_
    walk_at "d"
    refine ⟨_, _, _, ⟨rfl, rfl, all2, rfl⟩, rfl, x3, 3, rfl, ⟨by decide, by decide⟩, fun c hc x4 e he => ⟨_, he, ?_⟩⟩
    obtain ⟨sp, hsp, ha⟩ := step_at hc.1 hc.2
    refine ix_lst (.ow _) (.fz _) ha ?_
    have hsp25 : sp ≤ 25 := by omega
    walk_at "d"
    refine de_lc [("_law_k", 6)] rfl nd (by change BlkOk N__law_callings (defScope s__law_callings) _ _; walk_at "blk") (by simp) ?_
    refine DI.a (da_range1 rfl n_range ?_)
    walk_at "var"
    refine ⟨_, .fz _, by omega, by omega, ?_⟩
    have hstem : stem.length ≤ 8 := by omega
    refine ⟨by rw [List.length_map, List.length_range]; omega, fun k acc e => acc = ((List.range k).map fun k => D.str (nameOf stem ((st.toNat + sp * k) % 26))) ∧ e = [.ow (boxD x4), .fz (.int (n : Nat)), .fz (.str letters), .fz (.int st), .fz (.str stem), .fz (.int (sp : Nat)), .no, .no], ⟨rfl, rfl⟩, ?_, ?_, ?_⟩
    · rintro k acc e ⟨rfl, rfl⟩
      exact ⟨trivial, by simp, by simp⟩
    · rintro k d acc e hd ⟨rfl, rfl⟩ s1 H1 C1 cl1 fp1
      rw [List.getElem?_map] at hd
      cases hp : (List.range (n : Int).toNat)[k]? with
      | none => rw [hp] at hd; cases hd
      | some kk =>
        rw [hp] at hd
        cases hd
        have hkk : kk = k := by
          have := List.getElem?_eq_some_iff.mp hp
          obtain ⟨h1, h2⟩ := this
          rw [List.getElem_range] at h2
          exact h2.symm
        subst hkk
        have hk26 : kk < 26 := by
          have := (List.getElem?_eq_some_iff.mp hp).1
          simp at this
          omega
        refine dgo_name (i := 6) nd rfl (Or.inl rfl) (by first | exact Or.inl rfl | exact Or.inr rfl) (by decide) (by simp) (by simp) (fun j z => nomatch z) ?_
        intro s2 H2 C2 cl2 fp2
        refine dts_nil (ite_b (fun _ => ?_) (fun z => nomatch z))
        intro s3 H3 C3 cl3 fp3
        have hm0 : (0 : Int) ≤ (st + (sp : Int) * (kk : Int)) % 26 := Int.emod_nonneg _ (by decide)
        have hm1 : (st + (sp : Int) * (kk : Int)) % 26 < 26 := Int.emod_lt_of_pos _ (by decide)
        walk_at "d"
        refine ix_st (.fz _) (.fz _) (by decide +kernel) (letter_at hm0 hm1) ?_
        have hl1 : stem.length + (⟨#[97 + ((st + (sp : Int) * (kk : Int)) % 26).toNat]⟩ : Str).length ≤ 100000 := by
          show stem.length + 1 ≤ 100000
          omega
        refine add_str (.fz _) (.fz _) hl1 ?_
        refine ⟨_, rfl, ?_, rfl⟩
        have em : ((st + (sp : Int) * (kk : Int)) % 26).toNat = (st.toNat + sp * kk) % 26 := by
          have h1 : ((sp * kk : Nat) : Int) = (sp : Int) * (kk : Int) := Int.natCast_mul ..
          omega
        rw [List.range_succ, List.map_append, em]
        rfl
    · rintro acc e ⟨rfl, rfl⟩
      walk_at "d"
      have en : (List.map (fun i : Nat => D.int (i : Int)) (List.range ((n : Nat) : Int).toNat)).length = n := by simp
      rw [en]
      have := q _ (names_ok (st := st.toNat) (n := n) jl (by omega) hsp hn) x4 [.ow (boxD x4), .fz (.int (n : Nat))] rfl
      rw [List.map_map] at this
      exact this
end
end K13



set_option Elab.async false
set_option linter.all false
set_option maxRecDepth 100000
set_option maxHeartbeats 1000000
set_option pp.deepTerms false
set_option pp.deepTerms.threshold 6
set_option pp.oneline false
set_option pp.proofs false
namespace K13
open PySem PySem.Spec PyProof.Rows L2 DL
set_option hygiene false
local macro_rules | `(tactic| walk_at "vw") => `(tactic| first
  | exact Vw.fz _
  | exact Vw.al rfl
  | exact Vw.ow _ rfl)
local macro_rules | `(tactic| walk_at "puts") => `(tactic| repeat (first | exact DL.Puts.nil | refine DL.Puts.cons rfl (by first | exact Or.inl rfl | exact Or.inr rfl) (by first | exact Or.inl rfl | exact Or.inr rfl) rfl ?_))
local macro_rules | `(tactic| walk_at "blk") => `(tactic| exact ⟨rfl, by decide +kernel, by decide +kernel, by decide +kernel, by decide +kernel⟩)
local macro_rules | `(tactic| walk_at "vis") => `(tactic| first
  | exact Or.inl rfl
  | exact Or.inr (Or.inl rfl)
  | exact Or.inr (Or.inr rfl))
local macro_rules | `(tactic| walk_at "side") => `(tactic| first
  | assumption
  | omega
  | (simp only [List.length_set, List.length_cons, List.length_nil]; omega)
  | exact fun j z => (nomatch z)
  | (refine Or.inl ⟨?_, ?_⟩ <;> omega)
  | (refine Or.inr ⟨?_, ?_⟩ <;> omega)
  | decide
  | ((with_reducible show _ = _); rfl))
local macro_rules | `(tactic| walk_at "var") => `(tactic| first
  | refine de_var (i := 0) rfl (by walk_at "vis") rfl ?_ | refine de_var_ow (i := 0) (by decide) rfl (by walk_at "vis") rfl ?_
  | refine de_var (i := 1) rfl (by walk_at "vis") rfl ?_ | refine de_var_ow (i := 1) (by decide) rfl (by walk_at "vis") rfl ?_
  | refine de_var (i := 2) rfl (by walk_at "vis") rfl ?_ | refine de_var_ow (i := 2) (by decide) rfl (by walk_at "vis") rfl ?_
  | refine de_var (i := 3) rfl (by walk_at "vis") rfl ?_ | refine de_var_ow (i := 3) (by decide) rfl (by walk_at "vis") rfl ?_
  | refine de_var (i := 4) rfl (by walk_at "vis") rfl ?_ | refine de_var_ow (i := 4) (by decide) rfl (by walk_at "vis") rfl ?_
  | refine de_var (i := 5) rfl (by walk_at "vis") rfl ?_ | refine de_var_ow (i := 5) (by decide) rfl (by walk_at "vis") rfl ?_
  | refine de_var (i := 6) rfl (by walk_at "vis") rfl ?_ | refine de_var_ow (i := 6) (by decide) rfl (by walk_at "vis") rfl ?_
  | refine de_var (i := 7) rfl (by walk_at "vis") rfl ?_ | refine de_var_ow (i := 7) (by decide) rfl (by walk_at "vis") rfl ?_
  | refine de_var (i := 8) rfl (by walk_at "vis") rfl ?_ | refine de_var_ow (i := 8) (by decide) rfl (by walk_at "vis") rfl ?_
  | refine de_var (i := 9) rfl (by walk_at "vis") rfl ?_ | refine de_var_ow (i := 9) (by decide) rfl (by walk_at "vis") rfl ?_
  | refine de_var (i := 10) rfl (by walk_at "vis") rfl ?_ | refine de_var_ow (i := 10) (by decide) rfl (by walk_at "vis") rfl ?_
  | refine de_var (i := 11) rfl (by walk_at "vis") rfl ?_ | refine de_var_ow (i := 11) (by decide) rfl (by walk_at "vis") rfl ?_
  | refine de_var (i := 12) rfl (by walk_at "vis") rfl ?_ | refine de_var_ow (i := 12) (by decide) rfl (by walk_at "vis") rfl ?_
  | refine de_var (i := 13) rfl (by walk_at "vis") rfl ?_ | refine de_var_ow (i := 13) (by decide) rfl (by walk_at "vis") rfl ?_
  | refine de_var (i := 14) rfl (by walk_at "vis") rfl ?_ | refine de_var_ow (i := 14) (by decide) rfl (by walk_at "vis") rfl ?_
  | refine de_var (i := 15) rfl (by walk_at "vis") rfl ?_ | refine de_var_ow (i := 15) (by decide) rfl (by walk_at "vis") rfl ?_
  | refine de_var (i := 16) rfl (by walk_at "vis") rfl ?_ | refine de_var_ow (i := 16) (by decide) rfl (by walk_at "vis") rfl ?_)
local macro_rules | `(tactic| walk_at "const") => `(tactic| first
  | with_reducible refine de_int ?_
  | with_reducible refine de_str ?_
  | with_reducible refine de_bl ?_
  | with_reducible refine de_non ?_)
local macro_rules | `(tactic| walk_at "e1") => `(tactic| first
  | (with_reducible show DE _ _ (Expr.Name _ _) _ _); walk_at "var"
  | (with_reducible show DE _ _ (Expr.Constant _ _ _) _ _); walk_at "const"
  | (with_reducible show DE _ _ (Expr.Call (Expr.Name _ _) _ [] _) _ _); walk_at "bi"
  | with_reducible refine de_add ?_
  | with_reducible refine de_sub ?_
  | with_reducible refine de_mul ?_
  | with_reducible refine de_mod ?_
  | with_reducible refine de_div ?_
  | with_reducible refine de_pow ?_
  | with_reducible refine de_neg ?_
  | with_reducible refine de_tuple ?_
  | with_reducible refine de_list ?_
  | with_reducible refine de_ifExp ?_
  | with_reducible refine de_not ?_
  | with_reducible refine de_bool1 ?_
  | with_reducible refine de_and ?_
  | with_reducible refine de_or ?_
  | with_reducible refine de_revL ?_
  | with_reducible refine de_slice ?_
  | (with_reducible show DE _ _ (Expr.Subscript _ _ _) _ _); refine de_ix hu1 (fun _ _ => rfl) ?_
  | (with_reducible show DE _ _ (Expr.Compare _ [CmpOp.Is] _ _) _ _); refine de_isN ?_
  | (with_reducible show DE _ _ (Expr.Compare _ [CmpOp.Eq] _ _) _ _); refine de_cmp (op_eqAll hu) (nobehind _ (by decide) (by decide)) ?_
  | (with_reducible show DE _ _ (Expr.Compare _ [CmpOp.NotEq] _ _) _ _); refine de_cmp (op_neAll hu) (nobehind _ (by decide) (by decide)) ?_
  | (with_reducible show DE _ _ (Expr.Compare _ [CmpOp.Lt] _ _) _ _); refine de_cmp op_ltAll (nobehind _ (by decide) (by decide)) ?_
  | (with_reducible show DE _ _ (Expr.Compare _ [CmpOp.LtE] _ _) _ _); refine de_cmp op_leAll (nobehind _ (by decide) (by decide)) ?_
  | (with_reducible show DE _ _ (Expr.Compare _ [CmpOp.Gt] _ _) _ _); refine de_cmp op_gtAll (nobehind _ (by decide) (by decide)) ?_
  | (with_reducible show DE _ _ (Expr.Compare _ [CmpOp.GtE] _ _) _ _); refine de_cmp op_geAll (nobehind _ (by decide) (by decide)) ?_
  | (with_reducible show DE _ _ (Expr.Compare _ [CmpOp.In] _ _) _ _); refine de_cmp (op_inAll hu1) rfl ?_
  | (with_reducible show DE _ _ (Expr.Compare _ [CmpOp.NotIn] _ _) _ _); refine de_cmp (op_notInAll hu1) rfl ?_
  | (with_reducible show DE _ _ (Expr.Call (Expr.Attribute _ "append" _) [_] _ _) _ _); refine de_append ?_
  | (with_reducible show DE _ _ (Expr.Call (Expr.Attribute _ "pop" _) [_] _ _) _ _); refine de_popAt ?_
  | (with_reducible show DE _ _ (Expr.Call (Expr.Attribute _ "join" _) [_] _ _) _ _); refine de_join ?_)
local macro_rules | `(tactic| walk_at "bi") => `(tactic| first
  | (with_reducible show DE _ _ (Expr.Call (Expr.Name "isinstance" _) [_, Expr.Name "list" _] [] _) _ _); refine de_isi1 rfl n_isinstance rfl n_list boot_list ?_
  | (with_reducible show DE _ _ (Expr.Call (Expr.Name "isinstance" _) [_, Expr.Name "tuple" _] [] _) _ _); refine de_isi1 rfl n_isinstance rfl n_tuple boot_tuple ?_
  | (with_reducible show DE _ _ (Expr.Call (Expr.Name "isinstance" _) [_, Expr.Name "str" _] [] _) _ _); refine de_isi1 rfl n_isinstance rfl n_str boot_str ?_
  | (with_reducible show DE _ _ (Expr.Call (Expr.Name "isinstance" _) [_, Expr.Name "bool" _] [] _) _ _); refine de_isi1 rfl n_isinstance rfl n_bool boot_bool ?_
  | (with_reducible show DE _ _ (Expr.Call (Expr.Name "isinstance" _) [_, Expr.Name "int" _] [] _) _ _); refine de_isi1 rfl n_isinstance rfl n_int boot_int ?_
  | (with_reducible show DE _ _ (Expr.Call (Expr.Name "isinstance" _) [_, Expr.Tuple [Expr.Name "list" _, Expr.Name "tuple" _] _ _] [] _) _ _); refine de_isi2 rfl n_isinstance rfl n_list boot_list rfl n_tuple boot_tuple ?_
  | (with_reducible show DE _ _ (Expr.Call (Expr.Name "isinstance" _) [_, Expr.Tuple [Expr.Name "str" _, Expr.Name "bool" _] _ _] [] _) _ _); refine de_isi2 rfl n_isinstance rfl n_str boot_str rfl n_bool boot_bool ?_
  | (with_reducible show DE _ _ (Expr.Call (Expr.Name "len" _) _ [] _) _ _); refine de_callB call_lenA rfl n_len boot_len ?_
  | (with_reducible show DE _ _ (Expr.Call (Expr.Name "abs" _) _ [] _) _ _); refine de_callB call_abs rfl n_abs boot_abs ?_
  | (with_reducible show DE _ _ (Expr.Call (Expr.Name "int" _) _ [] _) _ _); refine de_callTy call_int1 rfl n_int boot_int ?_
  | (with_reducible show DE _ _ (Expr.Call (Expr.Name "list" _) _ [] _) _ _); refine de_callTy call_list_of rfl n_list boot_list ?_
  | (with_reducible show DE _ _ (Expr.Call (Expr.Name "tuple" _) _ [] _) _ _); refine de_callTy call_tuple_of rfl n_tuple boot_tuple ?_
  | (with_reducible show DE _ _ (Expr.Call (Expr.Name "sorted" _) _ [] _) _ _); refine de_callB (cr_sortD hu) rfl n_sorted boot_sorted ?_
  | (with_reducible show DE _ _ (Expr.Call (Expr.Name "sum" _) _ [] _) _ _); refine de_callB (cr_sum rfl) rfl n_sum boot_sum ?_
  | (with_reducible show DE _ _ (Expr.Call (Expr.Name "all" _) _ [] _) _ _); refine de_callB (cr_all rfl) rfl n_all boot_all ?_
  | (with_reducible show DE _ _ (Expr.Call (Expr.Name "any" _) _ [] _) _ _); refine de_callB (cr_any rfl) rfl n_any boot_any ?_
  | (with_reducible show DE _ _ (Expr.Call (Expr.Name "min" _) _ [] _) _ _); refine de_callB (call_minA rfl) rfl n_min boot_min ?_
  | (with_reducible show DE _ _ (Expr.Call (Expr.Name "max" _) _ [] _) _ _); refine de_callB (call_maxA rfl) rfl n_max boot_max ?_
  | (with_reducible show DE _ _ (Expr.Call (Expr.Name "dict" _) _ [] _) _ _); refine de_callTy (call_dictP rfl) rfl n_dict boot_dict ?_)
local macro_rules | `(tactic| walk_at "oa") => `(tactic| first
  | refine len_c (by walk_at "vw") (by first | exact Ln.lst _ | exact Ln.tup _ | exact Ln.dk _) ?_
  | refine abs_c (.fz _) ?_
  | refine int_b (.fz _) ?_
  | refine int_i (.fz _) ?_
  | refine list_t (.fz _) ?_
  | refine list_l (by walk_at "vw") ?_
  | refine tuple_t (.fz _) ?_
  | refine tuple_l (by walk_at "vw") ?_
  | refine mm_str (.fz _) (.fz _) ?_
  | refine mm_int (.fz _) (.fz _) ?_)
local macro_rules | `(tactic| walk_at "t1") => `(tactic| first
  | (with_reducible show DT _ _ (Expr.Compare _ [CmpOp.Is] _ _) _ _); refine dt_isN ?_
  | (with_reducible show DT _ _ (Expr.Compare _ [CmpOp.Eq] _ _) _ _); refine dt_cmp (op_eqAll hu) (nobehind _ (by decide) (by decide)) ?_
  | (with_reducible show DT _ _ (Expr.Compare _ [CmpOp.NotEq] _ _) _ _); refine dt_cmp (op_neAll hu) (nobehind _ (by decide) (by decide)) ?_
  | (with_reducible show DT _ _ (Expr.Compare _ [CmpOp.Lt] _ _) _ _); refine dt_cmp op_ltAll (nobehind _ (by decide) (by decide)) ?_
  | (with_reducible show DT _ _ (Expr.Compare _ [CmpOp.LtE] _ _) _ _); refine dt_cmp op_leAll (nobehind _ (by decide) (by decide)) ?_
  | (with_reducible show DT _ _ (Expr.Compare _ [CmpOp.Gt] _ _) _ _); refine dt_cmp op_gtAll (nobehind _ (by decide) (by decide)) ?_
  | (with_reducible show DT _ _ (Expr.Compare _ [CmpOp.GtE] _ _) _ _); refine dt_cmp op_geAll (nobehind _ (by decide) (by decide)) ?_
  | (with_reducible show DT _ _ (Expr.Compare _ [CmpOp.In] _ _) _ _); refine dt_cmp (op_inAll hu1) rfl ?_
  | (with_reducible show DT _ _ (Expr.Compare _ [CmpOp.NotIn] _ _) _ _); refine dt_cmp (op_notInAll hu1) rfl ?_
  | with_reducible refine dt_not ?_
  | with_reducible refine dt_bool ?_
  | (with_reducible show DT _ _ (Expr.Call _ _ _ _) _ _); refine dt_val ?_)
local macro_rules | `(tactic| walk_at "w1") => `(tactic| first
  | with_reducible refine dw_and1 ?_
  | with_reducible refine dw_or1 ?_
  | with_reducible refine dw_and ?_
  | with_reducible refine dw_or ?_)
local macro_rules | `(tactic| walk_at "a1") => `(tactic| first
  | with_reducible refine da_nil ?_
  | refine da_cons ?_)
local macro_rules | `(tactic| walk_at "o2") => `(tactic| first
  | (with_reducible show Op2 _ _ (rAddAll _) _ _ _ _); first | refine add_int (.fz _) (.fz _) ?_ | refine add_str (.fz _) (.fz _) (by walk_at "side") ?_ | refine add_tup (.fz _) (.fz _) (by walk_at "side") ?_ | refine add_lst (by walk_at "vw") (by walk_at "vw") (by walk_at "side") ?_
  | (with_reducible show Op2 _ _ (rIxAll _) _ _ _ _); first | refine ix_tpl (.fz _) (.fz _) rfl ?_ | refine ix_lst (by walk_at "vw") (.fz _) rfl ?_ | refine ix_tpl (.fz _) (.fz _) (by assumption) ?_ | refine ix_lst (by walk_at "vw") (.fz _) (by assumption) ?_ | refine ix_dk (by walk_at "vw") (.fz _) (k := .inr _) rfl (by assumption) ?_
  | (with_reducible show Op2 _ _ (rEqAll _) _ _ _ _); first | refine eq_int (.fz _) (.fz _) ?_ | refine eq_str (.fz _) (.fz _) ?_ | refine eq_bl (.fz _) (.fz _) ?_
  | (with_reducible show Op2 _ _ (rNeAll _) _ _ _ _); first | refine ne_int (.fz _) (.fz _) ?_ | refine ne_str (.fz _) (.fz _) ?_ | refine ne_bl (.fz _) (.fz _) ?_
  | refine op_ib0 (.fz _) (.fz _) ?_
  | refine lt_int (.fz _) (.fz _) ?_
  | refine lt_str (.fz _) (.fz _) ?_
  | refine in_dk (by walk_at "vw") (by walk_at "vw") rfl ?_)
local macro_rules | `(tactic| walk_at "o1") => `(tactic| first
  | refine cut_t (.fz _) ?_
  | refine cut_l (by walk_at "vw") ?_)
local macro_rules | `(tactic| walk_at "x1") => `(tactic| first
  | refine ⟨_, _, .fz _, rfl, kb_list rfl, ?_⟩
  | refine ⟨_, _, .fz _, rfl, kb_tuple rfl, ?_⟩
  | refine ⟨_, _, .fz _, rfl, kb_str rfl, ?_⟩
  | refine ⟨_, _, .fz _, rfl, kb_bool rfl, ?_⟩
  | refine ⟨_, _, .fz _, rfl, kb_int rfl, ?_⟩
  | refine ⟨_, _, _, .fz _, rfl, kb_list rfl, kb_tuple rfl, ?_⟩
  | refine ⟨_, _, _, .fz _, rfl, kb_str rfl, kb_bool rfl, ?_⟩
  | refine ⟨_, _, _, rfl, rfl, Put.lst rfl, ?_⟩
  | refine ⟨_, _, .fz _, .fz _, ?_⟩
  | refine ⟨_, .fz _, ?_⟩
  | refine ⟨_, rfl, ?_⟩
  | refine ⟨_, (.cons (.cons (.cons .nil))), ?_⟩
  | refine ⟨_, (.cons (.cons .nil)), ?_⟩
  | refine ⟨_, (.cons .nil), ?_⟩
  | refine ⟨_, (.cons (.cons (.cons (.cons .nil)))), ?_⟩
  | refine ⟨_, .nil, ?_⟩
  | refine ⟨_, (.cons (.cons (.cons (.cons (.cons .nil))))), ?_⟩
  | refine ⟨_, (.cons (.cons (.cons (.cons (.cons (.cons .nil)))))), ?_⟩
  | refine ⟨_, (.cons (.cons (.cons (.cons (.cons (.cons (.cons .nil))))))), ?_⟩
  | refine ⟨_, _, rfl, rfl, ?_⟩)
local macro_rules | `(tactic| walk_at "set") => `(tactic| first
  | refine ds_set (i := 0) nd rfl (by first | exact Or.inl rfl | exact Or.inr rfl) (by decide) ?_
  | refine ds_set (i := 1) nd rfl (by first | exact Or.inl rfl | exact Or.inr rfl) (by decide) ?_
  | refine ds_set (i := 2) nd rfl (by first | exact Or.inl rfl | exact Or.inr rfl) (by decide) ?_
  | refine ds_set (i := 3) nd rfl (by first | exact Or.inl rfl | exact Or.inr rfl) (by decide) ?_
  | refine ds_set (i := 4) nd rfl (by first | exact Or.inl rfl | exact Or.inr rfl) (by decide) ?_
  | refine ds_set (i := 5) nd rfl (by first | exact Or.inl rfl | exact Or.inr rfl) (by decide) ?_
  | refine ds_set (i := 6) nd rfl (by first | exact Or.inl rfl | exact Or.inr rfl) (by decide) ?_
  | refine ds_set (i := 7) nd rfl (by first | exact Or.inl rfl | exact Or.inr rfl) (by decide) ?_
  | refine ds_set (i := 8) nd rfl (by first | exact Or.inl rfl | exact Or.inr rfl) (by decide) ?_
  | refine ds_set (i := 9) nd rfl (by first | exact Or.inl rfl | exact Or.inr rfl) (by decide) ?_
  | refine ds_set (i := 10) nd rfl (by first | exact Or.inl rfl | exact Or.inr rfl) (by decide) ?_
  | refine ds_set (i := 11) nd rfl (by first | exact Or.inl rfl | exact Or.inr rfl) (by decide) ?_
  | refine ds_set (i := 12) nd rfl (by first | exact Or.inl rfl | exact Or.inr rfl) (by decide) ?_
  | refine ds_set (i := 13) nd rfl (by first | exact Or.inl rfl | exact Or.inr rfl) (by decide) ?_
  | refine ds_set (i := 14) nd rfl (by first | exact Or.inl rfl | exact Or.inr rfl) (by decide) ?_
  | refine ds_set (i := 15) nd rfl (by first | exact Or.inl rfl | exact Or.inr rfl) (by decide) ?_
  | refine ds_set (i := 16) nd rfl (by first | exact Or.inl rfl | exact Or.inr rfl) (by decide) ?_)
local macro_rules | `(tactic| walk_at "s1") => `(tactic| first
  | (with_reducible show DS _ _ (Stmt.Assign [Expr.Name _ _] _ _) _ _); walk_at "set"
  | with_reducible refine ds_ret ?_
  | with_reducible refine ds_if ?_
  | refine ds_store hu1 ?_
  | (with_reducible show DS _ _ (Stmt.Expr _ _) _ _); refine ds_expr ?_)
local macro_rules | `(tactic| walk_at "ss1") => `(tactic| first
  | refine dss_cons ?_
  | refine dss_nil ?_)
local macro_rules | `(tactic| walk_at "d1") => `(tactic| first
  | (with_reducible show DE _ _ _ _ _); walk_at "e1"
  | (with_reducible show Op2 _ _ _ _ _ _ _); walk_at "o2"
  | (with_reducible show DA _ _ _ _ _); walk_at "a1"
  | (with_reducible show DT _ _ _ _ _); walk_at "t1"
  | (with_reducible show DTs _ _ _ _ _); first | with_reducible refine dts_one ?_ | with_reducible refine dts_nil ?_
  | (with_reducible show DO _ _ _ _ _); first | with_reducible refine do_none ?_ | with_reducible refine do_some ?_
  | (with_reducible show DW _ _ _ _ _); walk_at "w1"
  | (with_reducible show DSs _ _ _ _ _); walk_at "ss1"
  | (with_reducible show DS _ _ _ _ _); walk_at "s1"
  | (with_reducible show Op1 _ _ _ _ _ _); walk_at "o1"
  | (with_reducible show OpA _ _ _ _ _ _); walk_at "oa"
  | (with_reducible show ∃ _, _); walk_at "x1"
  | (with_reducible show DEnds.nx _ _); dsimp only
  | (with_reducible show if _ = true then _ else _); first | refine if_t rfl ?_ | refine if_f rfl ?_
  | (with_reducible show DEnds.rt _ _ _); dsimp only
  | (with_reducible show _ ∧ _); refine ⟨(by walk_at "side"), ?_⟩)
local macro_rules | `(tactic| walk_at "d") => `(tactic| repeat walk_at "d1")
section
variable {P : Program} {w : World} {K : PySem.W.Frag} {mg : Str → Option Value} {base : Heap} {f : Addr} {fd : FuncData}
theorem perm_map_inv {α β : Type} {g : α → β} {l m : List β} (h : l.Perm m) : ∀ {L : List α}, m = L.map g → ∃ L' : List α, l = L'.map g ∧ L'.Perm L := by
  induction h with
  | nil => intro L e; cases L with
    | nil => exact ⟨[], rfl, .nil⟩
    | cons a t => cases e
  | cons x _ ih => intro L e; cases L with
    | nil => cases e
    | cons a t =>
      rw [List.map_cons] at e
      injection e with e1 e2
      obtain ⟨L', h1, h2⟩ := ih e2
      exact ⟨a :: L', by rw [List.map_cons, h1, e1], .cons a h2⟩
  | swap x y l => intro L e; match L, e with
    | a :: c :: t, e =>
      rw [List.map_cons, List.map_cons] at e
      injection e with e1 e2
      injection e2 with e2 e3
      exact ⟨c :: a :: t, by rw [List.map_cons, List.map_cons, ← e1, ← e2, e3], .swap a c t⟩
  | trans _ _ ih1 ih2 => intro L e
                         obtain ⟨M, h1, h2⟩ := ih2 e
                         obtain ⟨L', h3, h4⟩ := ih1 h1
                         exact ⟨L', h3, h4.trans h2⟩
theorem sortd_map {α : Type} {g : α → D} {xs : List α} (hsh : ∀ x ∈ xs, Sh 2 (g x)) (hal : ∀ x y, PySem.W.alike (g x).py (g y).py = true) (htup : ∀ x, ∃ d r, g x = .tup (d :: r)) (hz : xs.length ≤ 100000) : Sortd (xs.map g) where
  sh := ⟨2, by decide, fun d hd => by obtain ⟨x, hx, rfl⟩ := List.mem_map.mp hd; exact hsh x hx⟩
  al := fun d hd d' hd' => by
    rw [List.map_map] at hd hd'
    obtain ⟨x, _, rfl⟩ := List.mem_map.mp hd
    obtain ⟨y, _, rfl⟩ := List.mem_map.mp hd'
    exact hal x y
  ok := .inl fun d hd => by
    rw [List.map_map] at hd
    obtain ⟨x, _, rfl⟩ := List.mem_map.mp hd
    obtain ⟨e, r, h⟩ := htup x
    exact ⟨e.py, pyL r, by show (g x).py = _; rw [h, D.py, pyL]⟩
  sz := by rw [List.length_map]; exact hz
theorem dsort_map {α : Type} (g : α → D) (xs : List α) : ∃ L : List α, dsort (xs.map g) = L.map g ∧ L.Perm xs := perm_map_inv (List.mergeSort_perm _ _) rfl
def pairSI (p : Str × Int) : D := .tup [.str p.1, .int p.2]
def nbr (ti : List (Str × Str × Int)) (n : Str) : List (Str × Int) := (ti.filter fun t => decide (t.1 = n)).map (fun t => (t.2.1, t.2.2)) ++ (ti.filter fun t => decide (t.2.1 = n)).map fun t => (t.1, t.2.2)
def seqD (t : Bool) (ds : List D) : D := if t then .tup ds else .lst ds
abbrev N__law_beside : List Str := ["_law_links_here", "_law_who", "_law_found", "_law_a", "_law_b", "_law_glass"]
theorem nd__law_beside : N__law_beside.Nodup := by decide +kernel
theorem sc__law_beside : FnScope N__law_beside ["_law_links_here", "_law_who"] (defScope s__law_beside) := ⟨rfl, rfl, rfl, nd__law_beside, rfl, by decide +kernel, by decide +kernel⟩
def S__law_beside : FSp := fN (fun a : Bool × List (Str × Str × Int) × Str => [.fz (seqD a.1 (a.2.1.map tieD)), .fz (.str a.2.2)]) (fun a => a.2.1.length ≤ 1000 ∧ ∀ t ∈ a.2.1, PyData.strOk t.1 = true ∧ PyData.strOk t.2.1 = true) (fun a (L : List (Str × Int)) => L.Perm (nbr a.2.1 a.2.2)) (fun L => .ow (.lst (L.map pairSI)))
theorem ok__law_beside (B : Bi mg) (F : FnP K "_law_beside" s__law_beside f fd) : FnOk P w K mg base CX0 1 f fd ["_law_links_here", "_law_who"] (spOf K [] 2 S__law_beside) := by
  have n_sorted := B.sorted
  refine fn_ok (S := S__law_beside) 3 (by decide) (by decide) F sc__law_beside fun cdv A outer s H E b cs Post hr hcl hS => ?_
  obtain ⟨⟨tt, ti, na⟩, rfl, ⟨hz, hok⟩, q⟩ := hS
  have hz : ti.length ≤ 1000 := hz
  have hok : ∀ t ∈ ti, PyData.strOk t.1 = true ∧ PyData.strOk t.2.1 = true := hok
  have q : ∀ L : List (Str × Int), L.Perm (nbr ti na) → ∀ e, Post (.ow (.lst (L.map pairSI))) e := q
  have hu : (A.deeper (envOfC "_law_beside" (defScope s__law_beside) s.heap.objs.size f cdv)).units + 64 < cLine := hr.units
  have hu1 : (A.deeper (envOfC "_law_beside" (defScope s__law_beside) s.heap.objs.size f cdv)).units + 1 < cLine := by omega
  have nd := nd__law_beside
  change DSs _ b _ [.fz (seqD tt (ti.map tieD)), .fz (.str na), .no, .no, .no, .no] _
  walk_at "d"
  refine de_lc [("_law_a", 3), ("_law_b", 4), ("_law_glass", 5)] rfl nd (by change BlkOk N__law_beside (defScope s__law_beside) _ _; walk_at "blk") (by simp) ?_
  refine DI.a (di_row (t := tt) (ds := ti.map tieD) ?_)
  walk_at "var"
  refine ⟨rfl, ?_⟩
  refine ⟨by simp; omega, fun k acc e => acc = (((ti.take k).filter fun t => decide (t.1 = na)).map fun t => pairSI (t.2.1, t.2.2)) ∧ e = [.fz (seqD tt (ti.map tieD)), .fz (.str na), .no, .no, .no, .no], ⟨rfl, rfl⟩, ?_, ?_, ?_⟩
  · rintro k acc e ⟨rfl, rfl⟩
    refine ⟨trivial, ?_, by simp⟩
    rw [List.length_map]
    exact Nat.le_trans (List.length_filter_le _ _) (by rw [List.length_take]; omega)
  · rintro k d acc e hd ⟨rfl, rfl⟩ s1 H1 C1 cl1 fp1
    rw [List.getElem?_map] at hd
    cases hp : ti[k]? with
    | none => rw [hp] at hd; cases hd
    | some p =>
      rw [hp] at hd
      cases hd
      obtain ⟨x, y, g⟩ := p
      have ht : ti.take (k + 1) = ti.take k ++ [(x, y, g)] := by rw [List.take_add_one, hp]; rfl
      refine dgo_tup (is := [3, 4, 5]) rfl nd (by walk_at "puts") rfl rfl rfl (by simp) ?_
      intro s2 H2 C2 cl2 fp2
      walk_at "d"
      refine ite_b (fun hf => ?_) (fun hf => ?_)
      · have hf : x = na := of_decide_eq_true hf
        intro s3 H3 C3 cl3 fp3
        walk_at "d"
        refine ⟨?_, rfl⟩
        rw [ht]
        simp [hf, pairSI]
      · have hf : ¬ x = na := of_decide_eq_false hf
        refine ⟨?_, rfl⟩
        rw [ht]
        simp [hf]
  rintro acc e ⟨rfl, rfl⟩
  have e0 : ti.take (ti.map tieD).length = ti := by simp
  rw [e0]
  refine de_lc [("_law_a", 3), ("_law_b", 4), ("_law_glass", 5)] rfl nd (by change BlkOk N__law_beside (defScope s__law_beside) _ _; walk_at "blk") (by simp) ?_
  refine DI.a (di_row (t := tt) (ds := ti.map tieD) ?_)
  walk_at "var"
  refine ⟨rfl, ?_⟩
  refine ⟨by simp; omega, fun k acc e => acc = (((ti.take k).filter fun t => decide (t.2.1 = na)).map fun t => pairSI (t.1, t.2.2)) ∧ e = [.fz (seqD tt (ti.map tieD)), .fz (.str na), .no, .no, .no, .no], ⟨rfl, rfl⟩, ?_, ?_, ?_⟩
  · rintro k acc e ⟨rfl, rfl⟩
    refine ⟨trivial, ?_, by simp⟩
    rw [List.length_map]
    exact Nat.le_trans (List.length_filter_le _ _) (by rw [List.length_take]; omega)
  · rintro k d acc e hd ⟨rfl, rfl⟩ s1 H1 C1 cl1 fp1
    rw [List.getElem?_map] at hd
    cases hp : ti[k]? with
    | none => rw [hp] at hd; cases hd
    | some p =>
      rw [hp] at hd
      cases hd
      obtain ⟨x, y, g⟩ := p
      have ht : ti.take (k + 1) = ti.take k ++ [(x, y, g)] := by rw [List.take_add_one, hp]; rfl
      refine dgo_tup (is := [3, 4, 5]) rfl nd (by walk_at "puts") rfl rfl rfl (by simp) ?_
      intro s2 H2 C2 cl2 fp2
      walk_at "d"
      refine ite_b (fun hf => ?_) (fun hf => ?_)
      · have hf : y = na := of_decide_eq_true hf
        intro s3 H3 C3 cl3 fp3
        walk_at "d"
        refine ⟨?_, rfl⟩
        rw [ht]
        simp [hf, pairSI]
      · have hf : ¬ y = na := of_decide_eq_false hf
        refine ⟨?_, rfl⟩
        rw [ht]
        simp [hf]
  rintro acc e ⟨rfl, rfl⟩
  rw [e0]
  have hfl1 := List.length_filter_le (fun t : Str × Str × Int => decide (t.1 = na)) ti
  have hfl2 := List.length_filter_le (fun t : Str × Str × Int => decide (t.2.1 = na)) ti
  refine add_lst (.ow _) (.ow _) (by rw [List.length_map, List.length_map]; omega) ?_
  walk_at "d"
  have en : ((ti.filter fun t => decide (t.1 = na)).map fun t => pairSI (t.2.1, t.2.2)) ++ ((ti.filter fun t => decide (t.2.1 = na)).map fun t => pairSI (t.1, t.2.2)) = (nbr ti na).map pairSI := by
    unfold nbr
    rw [List.map_append, List.map_map, List.map_map]
    rfl
  rw [en]
  have hnl : (nbr ti na).length ≤ 2000 := by
    unfold nbr
    rw [List.length_append, List.length_map, List.length_map]
    omega
  have hnok : ∀ p ∈ nbr ti na, PyData.strOk p.1 = true := fun p hp => by
    unfold nbr at hp
    rcases List.mem_append.mp hp with h | h
    · obtain ⟨t, ht, rfl⟩ := List.mem_map.mp h
      exact (hok t (List.mem_filter.mp ht).1).2
    · obtain ⟨t, ht, rfl⟩ := List.mem_map.mp h
      exact (hok t (List.mem_filter.mp ht).1).1
  refine sorted_c (.al rfl) (sortd_map (fun p hp => ?_) (fun x y => ?_) (fun x => ⟨_, _, rfl⟩) (by omega)) ?_
  · refine .tup fun d hd => ?_
    simp at hd
    rcases hd with h | h <;> subst h
    · exact .str (hnok p hp)
    · exact .int _
  · simp [pairSI, D.py, pyL, PySem.W.alike, PySem.W.alikeAll]
  obtain ⟨L, hL, hp⟩ := dsort_map pairSI (nbr ti na)
  rw [hL]
  walk_at "d"
  exact q L hp _
end
end K13



set_option Elab.async false
set_option linter.all false
set_option maxRecDepth 100000
set_option maxHeartbeats 1000000
set_option pp.deepTerms false
set_option pp.deepTerms.threshold 6
set_option pp.oneline false
set_option pp.proofs false
namespace K13
open PySem PySem.Spec PyProof.Rows L2 DL
set_option hygiene false
local macro_rules | `(tactic| walk_at "vw") => `(tactic| first
  | exact Vw.fz _
  | exact Vw.al rfl
  | exact Vw.ow _ rfl)
local macro_rules | `(tactic| walk_at "puts") => `(tactic| repeat (first | exact DL.Puts.nil | refine DL.Puts.cons rfl (by first | exact Or.inl rfl | exact Or.inr rfl) (by first | exact Or.inl rfl | exact Or.inr rfl) rfl ?_))
local macro_rules | `(tactic| walk_at "blk") => `(tactic| exact ⟨rfl, by decide +kernel, by decide +kernel, by decide +kernel, by decide +kernel⟩)
local macro_rules | `(tactic| walk_at "vis") => `(tactic| first
  | exact Or.inl rfl
  | exact Or.inr (Or.inl rfl)
  | exact Or.inr (Or.inr rfl))
local macro_rules | `(tactic| walk_at "side") => `(tactic| first
  | assumption
  | omega
  | (simp only [List.length_set, List.length_cons, List.length_nil]; omega)
  | exact fun j z => (nomatch z)
  | (refine Or.inl ⟨?_, ?_⟩ <;> omega)
  | (refine Or.inr ⟨?_, ?_⟩ <;> omega)
  | decide
  | ((with_reducible show _ = _); rfl))
local macro_rules | `(tactic| walk_at "var") => `(tactic| first
  | refine de_var (i := 0) rfl (by walk_at "vis") rfl ?_ | refine de_var_ow (i := 0) (by decide) rfl (by walk_at "vis") rfl ?_
  | refine de_var (i := 1) rfl (by walk_at "vis") rfl ?_ | refine de_var_ow (i := 1) (by decide) rfl (by walk_at "vis") rfl ?_
  | refine de_var (i := 2) rfl (by walk_at "vis") rfl ?_ | refine de_var_ow (i := 2) (by decide) rfl (by walk_at "vis") rfl ?_
  | refine de_var (i := 3) rfl (by walk_at "vis") rfl ?_ | refine de_var_ow (i := 3) (by decide) rfl (by walk_at "vis") rfl ?_
  | refine de_var (i := 4) rfl (by walk_at "vis") rfl ?_ | refine de_var_ow (i := 4) (by decide) rfl (by walk_at "vis") rfl ?_
  | refine de_var (i := 5) rfl (by walk_at "vis") rfl ?_ | refine de_var_ow (i := 5) (by decide) rfl (by walk_at "vis") rfl ?_
  | refine de_var (i := 6) rfl (by walk_at "vis") rfl ?_ | refine de_var_ow (i := 6) (by decide) rfl (by walk_at "vis") rfl ?_
  | refine de_var (i := 7) rfl (by walk_at "vis") rfl ?_ | refine de_var_ow (i := 7) (by decide) rfl (by walk_at "vis") rfl ?_
  | refine de_var (i := 8) rfl (by walk_at "vis") rfl ?_ | refine de_var_ow (i := 8) (by decide) rfl (by walk_at "vis") rfl ?_
  | refine de_var (i := 9) rfl (by walk_at "vis") rfl ?_ | refine de_var_ow (i := 9) (by decide) rfl (by walk_at "vis") rfl ?_
  | refine de_var (i := 10) rfl (by walk_at "vis") rfl ?_ | refine de_var_ow (i := 10) (by decide) rfl (by walk_at "vis") rfl ?_
  | refine de_var (i := 11) rfl (by walk_at "vis") rfl ?_ | refine de_var_ow (i := 11) (by decide) rfl (by walk_at "vis") rfl ?_
  | refine de_var (i := 12) rfl (by walk_at "vis") rfl ?_ | refine de_var_ow (i := 12) (by decide) rfl (by walk_at "vis") rfl ?_
  | refine de_var (i := 13) rfl (by walk_at "vis") rfl ?_ | refine de_var_ow (i := 13) (by decide) rfl (by walk_at "vis") rfl ?_
  | refine de_var (i := 14) rfl (by walk_at "vis") rfl ?_ | refine de_var_ow (i := 14) (by decide) rfl (by walk_at "vis") rfl ?_
  | refine de_var (i := 15) rfl (by walk_at "vis") rfl ?_ | refine de_var_ow (i := 15) (by decide) rfl (by walk_at "vis") rfl ?_
  | refine de_var (i := 16) rfl (by walk_at "vis") rfl ?_ | refine de_var_ow (i := 16) (by decide) rfl (by walk_at "vis") rfl ?_)
local macro_rules | `(tactic| walk_at "const") => `(tactic| first
  | with_reducible refine de_int ?_
  | with_reducible refine de_str ?_
  | with_reducible refine de_bl ?_
  | with_reducible refine de_non ?_)
local macro_rules | `(tactic| walk_at "e1") => `(tactic| first
  | (with_reducible show DE _ _ (Expr.Name _ _) _ _); walk_at "var"
  | (with_reducible show DE _ _ (Expr.Constant _ _ _) _ _); walk_at "const"
  | (with_reducible show DE _ _ (Expr.Call (Expr.Name _ _) _ [] _) _ _); walk_at "bi"
  | with_reducible refine de_add ?_
  | with_reducible refine de_sub ?_
  | with_reducible refine de_mul ?_
  | with_reducible refine de_mod ?_
  | with_reducible refine de_div ?_
  | with_reducible refine de_pow ?_
  | with_reducible refine de_neg ?_
  | with_reducible refine de_tuple ?_
  | with_reducible refine de_list ?_
  | with_reducible refine de_ifExp ?_
  | with_reducible refine de_not ?_
  | with_reducible refine de_bool1 ?_
  | with_reducible refine de_and ?_
  | with_reducible refine de_or ?_
  | with_reducible refine de_revL ?_
  | with_reducible refine de_slice ?_
  | (with_reducible show DE _ _ (Expr.Subscript _ _ _) _ _); refine de_ix hu1 (fun _ _ => rfl) ?_
  | (with_reducible show DE _ _ (Expr.Compare _ [CmpOp.Is] _ _) _ _); refine de_isN ?_
  | (with_reducible show DE _ _ (Expr.Compare _ [CmpOp.Eq] _ _) _ _); refine de_cmp (op_eqAll hu) (nobehind _ (by decide) (by decide)) ?_
  | (with_reducible show DE _ _ (Expr.Compare _ [CmpOp.NotEq] _ _) _ _); refine de_cmp (op_neAll hu) (nobehind _ (by decide) (by decide)) ?_
  | (with_reducible show DE _ _ (Expr.Compare _ [CmpOp.Lt] _ _) _ _); refine de_cmp op_ltAll (nobehind _ (by decide) (by decide)) ?_
  | (with_reducible show DE _ _ (Expr.Compare _ [CmpOp.LtE] _ _) _ _); refine de_cmp op_leAll (nobehind _ (by decide) (by decide)) ?_
  | (with_reducible show DE _ _ (Expr.Compare _ [CmpOp.Gt] _ _) _ _); refine de_cmp op_gtAll (nobehind _ (by decide) (by decide)) ?_
  | (with_reducible show DE _ _ (Expr.Compare _ [CmpOp.GtE] _ _) _ _); refine de_cmp op_geAll (nobehind _ (by decide) (by decide)) ?_
  | (with_reducible show DE _ _ (Expr.Compare _ [CmpOp.In] _ _) _ _); refine de_cmp (op_inAll hu1) rfl ?_
  | (with_reducible show DE _ _ (Expr.Compare _ [CmpOp.NotIn] _ _) _ _); refine de_cmp (op_notInAll hu1) rfl ?_
  | (with_reducible show DE _ _ (Expr.Call (Expr.Attribute _ "append" _) [_] _ _) _ _); refine de_append ?_
  | (with_reducible show DE _ _ (Expr.Call (Expr.Attribute _ "pop" _) [_] _ _) _ _); refine de_popAt ?_
  | (with_reducible show DE _ _ (Expr.Call (Expr.Attribute _ "join" _) [_] _ _) _ _); refine de_join ?_)
local macro_rules | `(tactic| walk_at "bi") => `(tactic| first
  | (with_reducible show DE _ _ (Expr.Call (Expr.Name "isinstance" _) [_, Expr.Name "list" _] [] _) _ _); refine de_isi1 rfl n_isinstance rfl n_list boot_list ?_
  | (with_reducible show DE _ _ (Expr.Call (Expr.Name "isinstance" _) [_, Expr.Name "tuple" _] [] _) _ _); refine de_isi1 rfl n_isinstance rfl n_tuple boot_tuple ?_
  | (with_reducible show DE _ _ (Expr.Call (Expr.Name "isinstance" _) [_, Expr.Name "str" _] [] _) _ _); refine de_isi1 rfl n_isinstance rfl n_str boot_str ?_
  | (with_reducible show DE _ _ (Expr.Call (Expr.Name "isinstance" _) [_, Expr.Name "bool" _] [] _) _ _); refine de_isi1 rfl n_isinstance rfl n_bool boot_bool ?_
  | (with_reducible show DE _ _ (Expr.Call (Expr.Name "isinstance" _) [_, Expr.Name "int" _] [] _) _ _); refine de_isi1 rfl n_isinstance rfl n_int boot_int ?_
  | (with_reducible show DE _ _ (Expr.Call (Expr.Name "isinstance" _) [_, Expr.Tuple [Expr.Name "list" _, Expr.Name "tuple" _] _ _] [] _) _ _); refine de_isi2 rfl n_isinstance rfl n_list boot_list rfl n_tuple boot_tuple ?_
  | (with_reducible show DE _ _ (Expr.Call (Expr.Name "isinstance" _) [_, Expr.Tuple [Expr.Name "str" _, Expr.Name "bool" _] _ _] [] _) _ _); refine de_isi2 rfl n_isinstance rfl n_str boot_str rfl n_bool boot_bool ?_
  | (with_reducible show DE _ _ (Expr.Call (Expr.Name "len" _) _ [] _) _ _); refine de_callB call_lenA rfl n_len boot_len ?_
  | (with_reducible show DE _ _ (Expr.Call (Expr.Name "abs" _) _ [] _) _ _); refine de_callB call_abs rfl n_abs boot_abs ?_
  | (with_reducible show DE _ _ (Expr.Call (Expr.Name "int" _) _ [] _) _ _); refine de_callTy call_int1 rfl n_int boot_int ?_
  | (with_reducible show DE _ _ (Expr.Call (Expr.Name "list" _) _ [] _) _ _); refine de_callTy call_list_of rfl n_list boot_list ?_
  | (with_reducible show DE _ _ (Expr.Call (Expr.Name "tuple" _) _ [] _) _ _); refine de_callTy call_tuple_of rfl n_tuple boot_tuple ?_
  | (with_reducible show DE _ _ (Expr.Call (Expr.Name "sorted" _) _ [] _) _ _); refine de_callB (cr_sortD hu) rfl n_sorted boot_sorted ?_
  | (with_reducible show DE _ _ (Expr.Call (Expr.Name "sum" _) _ [] _) _ _); refine de_callB (cr_sum rfl) rfl n_sum boot_sum ?_
  | (with_reducible show DE _ _ (Expr.Call (Expr.Name "all" _) _ [] _) _ _); refine de_callB (cr_all rfl) rfl n_all boot_all ?_
  | (with_reducible show DE _ _ (Expr.Call (Expr.Name "any" _) _ [] _) _ _); refine de_callB (cr_any rfl) rfl n_any boot_any ?_
  | (with_reducible show DE _ _ (Expr.Call (Expr.Name "min" _) _ [] _) _ _); refine de_callB (call_minA rfl) rfl n_min boot_min ?_
  | (with_reducible show DE _ _ (Expr.Call (Expr.Name "max" _) _ [] _) _ _); refine de_callB (call_maxA rfl) rfl n_max boot_max ?_
  | (with_reducible show DE _ _ (Expr.Call (Expr.Name "dict" _) _ [] _) _ _); refine de_callTy (call_dictP rfl) rfl n_dict boot_dict ?_)
local macro_rules | `(tactic| walk_at "oa") => `(tactic| first
  | refine len_c (by walk_at "vw") (by first | exact Ln.lst _ | exact Ln.tup _ | exact Ln.dk _) ?_
  | refine abs_c (.fz _) ?_
  | refine int_b (.fz _) ?_
  | refine int_i (.fz _) ?_
  | refine list_t (.fz _) ?_
  | refine list_l (by walk_at "vw") ?_
  | refine tuple_t (.fz _) ?_
  | refine tuple_l (by walk_at "vw") ?_
  | refine mm_str (.fz _) (.fz _) ?_
  | refine mm_int (.fz _) (.fz _) ?_)
local macro_rules | `(tactic| walk_at "t1") => `(tactic| first
  | (with_reducible show DT _ _ (Expr.Compare _ [CmpOp.Is] _ _) _ _); refine dt_isN ?_
  | (with_reducible show DT _ _ (Expr.Compare _ [CmpOp.Eq] _ _) _ _); refine dt_cmp (op_eqAll hu) (nobehind _ (by decide) (by decide)) ?_
  | (with_reducible show DT _ _ (Expr.Compare _ [CmpOp.NotEq] _ _) _ _); refine dt_cmp (op_neAll hu) (nobehind _ (by decide) (by decide)) ?_
  | (with_reducible show DT _ _ (Expr.Compare _ [CmpOp.Lt] _ _) _ _); refine dt_cmp op_ltAll (nobehind _ (by decide) (by decide)) ?_
  | (with_reducible show DT _ _ (Expr.Compare _ [CmpOp.LtE] _ _) _ _); refine dt_cmp op_leAll (nobehind _ (by decide) (by decide)) ?_
  | (with_reducible show DT _ _ (Expr.Compare _ [CmpOp.Gt] _ _) _ _); refine dt_cmp op_gtAll (nobehind _ (by decide) (by decide)) ?_
  | (with_reducible show DT _ _ (Expr.Compare _ [CmpOp.GtE] _ _) _ _); refine dt_cmp op_geAll (nobehind _ (by decide) (by decide)) ?_
  | (with_reducible show DT _ _ (Expr.Compare _ [CmpOp.In] _ _) _ _); refine dt_cmp (op_inAll hu1) rfl ?_
  | (with_reducible show DT _ _ (Expr.Compare _ [CmpOp.NotIn] _ _) _ _); refine dt_cmp (op_notInAll hu1) rfl ?_
  | with_reducible refine dt_not ?_
  | with_reducible refine dt_bool ?_
  | (with_reducible show DT _ _ (Expr.Call _ _ _ _) _ _); refine dt_val ?_)
local macro_rules | `(tactic| walk_at "w1") => `(tactic| first
  | with_reducible refine dw_and1 ?_
  | with_reducible refine dw_or1 ?_
  | with_reducible refine dw_and ?_
  | with_reducible refine dw_or ?_)
local macro_rules | `(tactic| walk_at "a1") => `(tactic| first
  | with_reducible refine da_nil ?_
  | refine da_cons ?_)
local macro_rules | `(tactic| walk_at "o2") => `(tactic| first
  | (with_reducible show Op2 _ _ (rAddAll _) _ _ _ _); first | refine add_int (.fz _) (.fz _) ?_ | refine add_str (.fz _) (.fz _) (by walk_at "side") ?_ | refine add_tup (.fz _) (.fz _) (by walk_at "side") ?_ | refine add_lst (by walk_at "vw") (by walk_at "vw") (by walk_at "side") ?_
  | (with_reducible show Op2 _ _ (rIxAll _) _ _ _ _); first | refine ix_tpl (.fz _) (.fz _) rfl ?_ | refine ix_lst (by walk_at "vw") (.fz _) rfl ?_ | refine ix_tpl (.fz _) (.fz _) (by assumption) ?_ | refine ix_lst (by walk_at "vw") (.fz _) (by assumption) ?_ | refine ix_dk (by walk_at "vw") (.fz _) (k := .inr _) rfl (by assumption) ?_
  | (with_reducible show Op2 _ _ (rEqAll _) _ _ _ _); first | refine eq_int (.fz _) (.fz _) ?_ | refine eq_str (.fz _) (.fz _) ?_ | refine eq_bl (.fz _) (.fz _) ?_
  | (with_reducible show Op2 _ _ (rNeAll _) _ _ _ _); first | refine ne_int (.fz _) (.fz _) ?_ | refine ne_str (.fz _) (.fz _) ?_ | refine ne_bl (.fz _) (.fz _) ?_
  | refine op_ib0 (.fz _) (.fz _) ?_
  | refine lt_int (.fz _) (.fz _) ?_
  | refine lt_str (.fz _) (.fz _) ?_
  | refine in_dk (by walk_at "vw") (by walk_at "vw") rfl ?_)
local macro_rules | `(tactic| walk_at "o1") => `(tactic| first
  | refine cut_t (.fz _) ?_
  | refine cut_l (by walk_at "vw") ?_)
local macro_rules | `(tactic| walk_at "x1") => `(tactic| first
  | refine ⟨_, _, .fz _, rfl, kb_list rfl, ?_⟩
  | refine ⟨_, _, .fz _, rfl, kb_tuple rfl, ?_⟩
  | refine ⟨_, _, .fz _, rfl, kb_str rfl, ?_⟩
  | refine ⟨_, _, .fz _, rfl, kb_bool rfl, ?_⟩
  | refine ⟨_, _, .fz _, rfl, kb_int rfl, ?_⟩
  | refine ⟨_, _, _, .fz _, rfl, kb_list rfl, kb_tuple rfl, ?_⟩
  | refine ⟨_, _, _, .fz _, rfl, kb_str rfl, kb_bool rfl, ?_⟩
  | refine ⟨_, _, _, rfl, rfl, Put.lst rfl, ?_⟩
  | refine ⟨_, _, .fz _, .fz _, ?_⟩
  | refine ⟨_, .fz _, ?_⟩
  | refine ⟨_, rfl, ?_⟩
  | refine ⟨_, (.cons (.cons (.cons .nil))), ?_⟩
  | refine ⟨_, (.cons (.cons .nil)), ?_⟩
  | refine ⟨_, (.cons .nil), ?_⟩
  | refine ⟨_, (.cons (.cons (.cons (.cons .nil)))), ?_⟩
  | refine ⟨_, .nil, ?_⟩
  | refine ⟨_, (.cons (.cons (.cons (.cons (.cons .nil))))), ?_⟩
  | refine ⟨_, (.cons (.cons (.cons (.cons (.cons (.cons .nil)))))), ?_⟩
  | refine ⟨_, (.cons (.cons (.cons (.cons (.cons (.cons (.cons .nil))))))), ?_⟩
  | refine ⟨_, _, rfl, rfl, ?_⟩)
local macro_rules | `(tactic| walk_at "set") => `(tactic| first
  | refine ds_set (i := 0) nd rfl (by first | exact Or.inl rfl | exact Or.inr rfl) (by decide) ?_
  | refine ds_set (i := 1) nd rfl (by first | exact Or.inl rfl | exact Or.inr rfl) (by decide) ?_
  | refine ds_set (i := 2) nd rfl (by first | exact Or.inl rfl | exact Or.inr rfl) (by decide) ?_
  | refine ds_set (i := 3) nd rfl (by first | exact Or.inl rfl | exact Or.inr rfl) (by decide) ?_
  | refine ds_set (i := 4) nd rfl (by first | exact Or.inl rfl | exact Or.inr rfl) (by decide) ?_
  | refine ds_set (i := 5) nd rfl (by first | exact Or.inl rfl | exact Or.inr rfl) (by decide) ?_
  | refine ds_set (i := 6) nd rfl (by first | exact Or.inl rfl | exact Or.inr rfl) (by decide) ?_
  | refine ds_set (i := 7) nd rfl (by first | exact Or.inl rfl | exact Or.inr rfl) (by decide) ?_
  | refine ds_set (i := 8) nd rfl (by first | exact Or.inl rfl | exact Or.inr rfl) (by decide) ?_
  | refine ds_set (i := 9) nd rfl (by first | exact Or.inl rfl | exact Or.inr rfl) (by decide) ?_
  | refine ds_set (i := 10) nd rfl (by first | exact Or.inl rfl | exact Or.inr rfl) (by decide) ?_
  | refine ds_set (i := 11) nd rfl (by first | exact Or.inl rfl | exact Or.inr rfl) (by decide) ?_
  | refine ds_set (i := 12) nd rfl (by first | exact Or.inl rfl | exact Or.inr rfl) (by decide) ?_
  | refine ds_set (i := 13) nd rfl (by first | exact Or.inl rfl | exact Or.inr rfl) (by decide) ?_
  | refine ds_set (i := 14) nd rfl (by first | exact Or.inl rfl | exact Or.inr rfl) (by decide) ?_
  | refine ds_set (i := 15) nd rfl (by first | exact Or.inl rfl | exact Or.inr rfl) (by decide) ?_
  | refine ds_set (i := 16) nd rfl (by first | exact Or.inl rfl | exact Or.inr rfl) (by decide) ?_)
local macro_rules | `(tactic| walk_at "s1") => `(tactic| first
  | (with_reducible show DS _ _ (Stmt.Assign [Expr.Name _ _] _ _) _ _); walk_at "set"
  | with_reducible refine ds_ret ?_
  | with_reducible refine ds_if ?_
  | refine ds_store hu1 ?_
  | (with_reducible show DS _ _ (Stmt.Expr _ _) _ _); refine ds_expr ?_)
local macro_rules | `(tactic| walk_at "ss1") => `(tactic| first
  | refine dss_cons ?_
  | refine dss_nil ?_)
local macro_rules | `(tactic| walk_at "d1") => `(tactic| first
  | (with_reducible show DE _ _ _ _ _); walk_at "e1"
  | (with_reducible show Op2 _ _ _ _ _ _ _); walk_at "o2"
  | (with_reducible show DA _ _ _ _ _); walk_at "a1"
  | (with_reducible show DT _ _ _ _ _); walk_at "t1"
  | (with_reducible show DTs _ _ _ _ _); first | with_reducible refine dts_one ?_ | with_reducible refine dts_nil ?_
  | (with_reducible show DO _ _ _ _ _); first | with_reducible refine do_none ?_ | with_reducible refine do_some ?_
  | (with_reducible show DW _ _ _ _ _); walk_at "w1"
  | (with_reducible show DSs _ _ _ _ _); walk_at "ss1"
  | (with_reducible show DS _ _ _ _ _); walk_at "s1"
  | (with_reducible show Op1 _ _ _ _ _ _); walk_at "o1"
  | (with_reducible show OpA _ _ _ _ _ _); walk_at "oa"
  | (with_reducible show ∃ _, _); walk_at "x1"
  | (with_reducible show DEnds.nx _ _); dsimp only
  | (with_reducible show if _ = true then _ else _); first | refine if_t rfl ?_ | refine if_f rfl ?_
  | (with_reducible show DEnds.rt _ _ _); dsimp only
  | (with_reducible show _ ∧ _); refine ⟨(by walk_at "side"), ?_⟩)
local macro_rules | `(tactic| walk_at "d") => `(tactic| repeat walk_at "d1")
section
variable {P : Program} {w : World} {K : PySem.W.Frag} {mg : Str → Option Value} {base : Heap} {f : Addr} {fd : FuncData}
/-! counts by names -/
def usedD (names : List Str) (cnt : Str → Nat) : List (Key × D) := names.map fun n => (.inr n, .int (cnt n : Nat))
def upd1 (cnt : Str → Nat) (x : Str) (v : Nat) : Str → Nat := fun n => if n = x then v else cnt n
theorem usedD_get {names : List Str} {cnt : Str → Nat} {x : Str} (h : x ∈ names) : dget (usedD names cnt) (.inr x) = some (.int (cnt x : Nat)) := by
  induction names with
  | nil => cases h
  | cons y r ih =>
    show dget (((Sum.inr y : Key), D.int (cnt y : Nat)) :: usedD r cnt) _ = _
    by_cases e : y = x
    · subst e; exact dget_pos (p := ((Sum.inr y : Key), D.int (cnt y : Nat))) rfl
    · rw [dget_neg (p := ((Sum.inr y : Key), D.int (cnt y : Nat))) (fun z => e (by cases z; rfl))]
      exact ih (by rcases List.mem_cons.mp h with z | z; exact absurd z.symm e; exact z)
theorem usedD_put {names : List Str} {cnt : Str → Nat} {x : Str} {v : Nat} (h : x ∈ names) : dput (usedD names cnt) (.inr x) (.int (v : Nat)) = usedD names (upd1 cnt x v) := by
  unfold dput
  rw [if_pos (by
    rw [List.any_eq_true]
    exact ⟨((Sum.inr x : Key), D.int (cnt x : Nat)), List.mem_map.mpr ⟨x, h, rfl⟩, by simp⟩)]
  unfold usedD
  rw [List.map_map]
  apply List.map_congr_left
  intro n _
  simp only [Function.comp, upd1]
  by_cases e : n = x
  · subst e; simp
  · rw [if_neg (fun z => e (by cases z; rfl)), if_neg e]
theorem dmerge_new : ∀ {kvs acc : List (Key × D)}, (kvs.map (·.1)).Nodup → (∀ k ∈ kvs.map (·.1), k ∉ acc.map (·.1)) → dmerge acc kvs = acc ++ kvs
  | [], acc, _, _ => by simp [dmerge]
  | (k, d) :: r, acc, nd, h => by
    have e : dput acc k d = acc ++ [(k, d)] := by
      unfold dput
      rw [if_neg]
      intro z
      rw [List.any_eq_true] at z
      obtain ⟨kv, h1, h2⟩ := z
      exact h k (by simp) (List.mem_map.mpr ⟨kv, h1, of_decide_eq_true h2⟩)
    show dmerge (dput acc k d) r = _
    rw [e, dmerge_new (by simpa using (List.nodup_cons.mp (by simpa using nd)).2) fun k' hk' => ?_]
    · simp
    · intro z
      rw [List.map_append, List.mem_append] at z
      rcases z with z | z
      · exact h k' (by simp [hk']) z
      · have : k' = k := by simpa using z
        subst this
        exact (List.nodup_cons.mp (show (k' :: r.map (·.1)).Nodup from nd)).1 hk'
theorem sum_upd {names : List Str} {cnt : Str → Nat} {x : Str} (nd : names.Nodup) (h : x ∈ names) : (names.map (upd1 cnt x (cnt x + 1))).sum = (names.map cnt).sum + 1 := by
  induction names with
  | nil => cases h
  | cons y r ih =>
    rw [List.nodup_cons] at nd
    rw [List.map_cons, List.map_cons, List.sum_cons, List.sum_cons]
    by_cases e : y = x
    · subst e
      have : r.map (upd1 cnt y (cnt y + 1)) = r.map cnt := by
        apply List.map_congr_left
        intro n hn
        unfold upd1
        rw [if_neg (fun z : n = y => nd.1 (z ▸ hn))]
      rw [this]
      unfold upd1
      rw [if_pos rfl]
      omega
    · have hx : x ∈ r := by rcases List.mem_cons.mp h with z | z; exact absurd z.symm e; exact z
      rw [ih nd.2 hx]
      unfold upd1
      rw [if_neg e]
      omega
/-- some among the first k is tied less than six times -/
theorem some_free {names : List Str} {cnt : Str → Nat} {k : Nat} (hk : 1 ≤ k) (hl : k ≤ names.length) (hs : (names.map cnt).sum < 6 * k) : (names.take k).filter (fun n => decide (cnt n < 6)) ≠ [] := by
  intro h
  have h1 : ∀ n ∈ names.take k, 6 ≤ cnt n := fun n hn => by
    have : n ∉ (names.take k).filter (fun n => decide (cnt n < 6)) := by rw [h]; exact List.not_mem_nil
    rw [List.mem_filter] at this
    simp at this
    exact this hn
  have h2 : ∀ l : List Str, (∀ n ∈ l, 6 ≤ cnt n) → 6 * l.length ≤ (l.map cnt).sum := by
    intro l
    induction l with
    | nil => intro _; simp
    | cons a r ih =>
      intro h
      have := ih fun n hn => h n (List.mem_cons_of_mem _ hn)
      have := h a (List.mem_cons_self ..)
      rw [List.map_cons, List.sum_cons, List.length_cons]
      omega
  have h3 := h2 _ h1
  have h4 : ((names.take k).map cnt).sum ≤ (names.map cnt).sum := by
    conv => rhs; rw [← List.take_append_drop k names]
    rw [List.map_append, List.sum_append]
    omega
  rw [List.length_take] at h3
  omega
/-- ties of a forest: among the names, one for each pair -/
structure Ties (names : List Str) (F : List (Str × Str × Int)) : Prop where
  mem : ∀ t ∈ F, t.1 ∈ names ∧ t.2.1 ∈ names
  ne : ∀ t ∈ F, t.1 ≠ t.2.1
  one : ∀ n m, (F.filter fun t => decide (between n m t)).length ≤ 1
theorem Ties.perm {names : List Str} {F G : List (Str × Str × Int)} (h : Ties names F) (p : G.Perm F) : Ties names G :=
  ⟨fun t ht => h.mem t (p.mem_iff.mp ht), fun t ht => h.ne t (p.mem_iff.mp ht), fun n m => by rw [(p.filter _).length_eq]; exact h.one n m⟩
theorem minmax (a c : Str) : (sMin a c = a ∧ sMax a c = c) ∨ (sMin a c = c ∧ sMax a c = a) := by
  unfold sMin sMax
  cases h1 : sLt c a with
  | true =>
    have h2 : sLt a c = false := by
      unfold sLt at h1 ⊢
      have := of_decide_eq_true h1
      exact decide_eq_false (List.lt_asymm this)
    rw [h2]; exact .inr ⟨rfl, rfl⟩
  | false =>
    cases h2 : sLt a c with
    | true => exact .inl ⟨rfl, rfl⟩
    | false =>
      left
      refine ⟨rfl, ?_⟩
      unfold sLt at h1 h2
      have e : a.cps.toList = c.cps.toList := List.le_antisymm (List.not_lt.mp (of_decide_eq_false h1)) (List.not_lt.mp (of_decide_eq_false h2))
      cases a; cases c
      simp at e
      simp [e]
/-- a tie to a new name -/
theorem Ties.new {names : List Str} {F : List (Str × Str × Int)} {k : Nat} {x y : Str} {g : Int} (h : Ties (names.take k) F) (nd : names.Nodup) (hx : x ∈ names.take k) (hy : names[k]? = some y) : Ties (names.take (k + 1)) (F ++ [(sMin x y, sMax x y, g)]) := by
  have ht : names.take (k + 1) = names.take k ++ [y] := by rw [List.take_add_one, hy]; rfl
  have hny : y ∉ names.take k := fun z => by
    have h3 : (names.take (k + 1)).Nodup := nd.sublist (List.take_sublist _ _)
    rw [ht, List.nodup_append] at h3
    exact h3.2.2 _ z _ (by simp) rfl
  have hxy : x ≠ y := fun z => hny (z ▸ hx)
  have mm := minmax x y
  refine ⟨fun t hm => ?_, fun t hm => ?_, fun n m => ?_⟩
  · rw [ht]
    rcases List.mem_append.mp hm with z | z
    · exact ⟨List.mem_append_left _ (h.mem t z).1, List.mem_append_left _ (h.mem t z).2⟩
    · have : t = (sMin x y, sMax x y, g) := by simpa using z
      subst this
      rcases mm with ⟨e1, e2⟩ | ⟨e1, e2⟩ <;> simp only [e1, e2] <;> simp [hx]
  · rcases List.mem_append.mp hm with z | z
    · exact h.ne t z
    · have : t = (sMin x y, sMax x y, g) := by simpa using z
      subst this
      rcases mm with ⟨e1, e2⟩ | ⟨e1, e2⟩ <;> simp only [e1, e2]
      · exact hxy
      · exact Ne.symm hxy
  · rw [List.filter_append, List.length_append]
    by_cases hb : between n m (sMin x y, sMax x y, g)
    · have h0 : F.filter (fun t => decide (between n m t)) = [] := by
        rw [List.filter_eq_nil_iff]
        intro t htF
        rw [decide_eq_true_eq]
        intro hb2
        have hmem := h.mem t htF
        have hyn : y = n ∨ y = m := by
          rcases mm with ⟨e1, e2⟩ | ⟨e1, e2⟩ <;> unfold between at hb <;> simp only [e1, e2] at hb
          · rcases hb with ⟨a, c⟩ | ⟨a, c⟩
            · exact .inr c.symm
            · exact .inl a.symm
          · rcases hb with ⟨a, c⟩ | ⟨a, c⟩
            · exact .inl a.symm
            · exact .inr c.symm
        have : n ∈ names.take k ∧ m ∈ names.take k := by
          rcases hb2 with ⟨a, c⟩ | ⟨a, c⟩
          · exact ⟨a ▸ hmem.1, c ▸ hmem.2⟩
          · exact ⟨a ▸ hmem.2, c ▸ hmem.1⟩
        rcases hyn with e | e
        · exact hny (e ▸ this.1)
        · exact hny (e ▸ this.2)
      rw [h0]
      exact Nat.le_trans (Nat.add_le_add_left (List.length_filter_le _ _) _) (by simp)
    · have h1 := h.one n m
      have : [(sMin x y, sMax x y, g)].filter (fun t => decide (between n m t)) = [] := by simp [hb]
      rw [this]
      simpa using h1
end
end K13



set_option Elab.async false
set_option linter.all false
set_option maxRecDepth 100000
set_option maxHeartbeats 1000000
set_option pp.deepTerms false
set_option pp.deepTerms.threshold 6
set_option pp.oneline false
set_option pp.proofs false
namespace K13
open PySem PySem.Spec PyProof.Rows L2 DL
set_option hygiene false
local macro_rules | `(tactic| walk_at "vw") => `(tactic| first
  | exact Vw.fz _
  | exact Vw.al rfl
  | exact Vw.ow _ rfl)
local macro_rules | `(tactic| walk_at "puts") => `(tactic| repeat (first | exact DL.Puts.nil | refine DL.Puts.cons rfl (by first | exact Or.inl rfl | exact Or.inr rfl) (by first | exact Or.inl rfl | exact Or.inr rfl) rfl ?_))
local macro_rules | `(tactic| walk_at "blk") => `(tactic| exact ⟨rfl, by decide +kernel, by decide +kernel, by decide +kernel, by decide +kernel⟩)
local macro_rules | `(tactic| walk_at "vis") => `(tactic| first
  | exact Or.inl rfl
  | exact Or.inr (Or.inl rfl)
  | exact Or.inr (Or.inr rfl))
local macro_rules | `(tactic| walk_at "side") => `(tactic| first
  | assumption
  | omega
  | (simp only [List.length_set, List.length_cons, List.length_nil]; omega)
  | exact fun j z => (nomatch z)
  | (refine Or.inl ⟨?_, ?_⟩ <;> omega)
  | (refine Or.inr ⟨?_, ?_⟩ <;> omega)
  | decide
  | ((with_reducible show _ = _); rfl))
local macro_rules | `(tactic| walk_at "var") => `(tactic| first
  | refine de_var (i := 0) rfl (by walk_at "vis") rfl ?_ | refine de_var_ow (i := 0) (by decide) rfl (by walk_at "vis") rfl ?_
  | refine de_var (i := 1) rfl (by walk_at "vis") rfl ?_ | refine de_var_ow (i := 1) (by decide) rfl (by walk_at "vis") rfl ?_
  | refine de_var (i := 2) rfl (by walk_at "vis") rfl ?_ | refine de_var_ow (i := 2) (by decide) rfl (by walk_at "vis") rfl ?_
  | refine de_var (i := 3) rfl (by walk_at "vis") rfl ?_ | refine de_var_ow (i := 3) (by decide) rfl (by walk_at "vis") rfl ?_
  | refine de_var (i := 4) rfl (by walk_at "vis") rfl ?_ | refine de_var_ow (i := 4) (by decide) rfl (by walk_at "vis") rfl ?_
  | refine de_var (i := 5) rfl (by walk_at "vis") rfl ?_ | refine de_var_ow (i := 5) (by decide) rfl (by walk_at "vis") rfl ?_
  | refine de_var (i := 6) rfl (by walk_at "vis") rfl ?_ | refine de_var_ow (i := 6) (by decide) rfl (by walk_at "vis") rfl ?_
  | refine de_var (i := 7) rfl (by walk_at "vis") rfl ?_ | refine de_var_ow (i := 7) (by decide) rfl (by walk_at "vis") rfl ?_
  | refine de_var (i := 8) rfl (by walk_at "vis") rfl ?_ | refine de_var_ow (i := 8) (by decide) rfl (by walk_at "vis") rfl ?_
  | refine de_var (i := 9) rfl (by walk_at "vis") rfl ?_ | refine de_var_ow (i := 9) (by decide) rfl (by walk_at "vis") rfl ?_
  | refine de_var (i := 10) rfl (by walk_at "vis") rfl ?_ | refine de_var_ow (i := 10) (by decide) rfl (by walk_at "vis") rfl ?_
  | refine de_var (i := 11) rfl (by walk_at "vis") rfl ?_ | refine de_var_ow (i := 11) (by decide) rfl (by walk_at "vis") rfl ?_
  | refine de_var (i := 12) rfl (by walk_at "vis") rfl ?_ | refine de_var_ow (i := 12) (by decide) rfl (by walk_at "vis") rfl ?_
  | refine de_var (i := 13) rfl (by walk_at "vis") rfl ?_ | refine de_var_ow (i := 13) (by decide) rfl (by walk_at "vis") rfl ?_
  | refine de_var (i := 14) rfl (by walk_at "vis") rfl ?_ | refine de_var_ow (i := 14) (by decide) rfl (by walk_at "vis") rfl ?_
  | refine de_var (i := 15) rfl (by walk_at "vis") rfl ?_ | refine de_var_ow (i := 15) (by decide) rfl (by walk_at "vis") rfl ?_
  | refine de_var (i := 16) rfl (by walk_at "vis") rfl ?_ | refine de_var_ow (i := 16) (by decide) rfl (by walk_at "vis") rfl ?_)
local macro_rules | `(tactic| walk_at "const") => `(tactic| first
  | with_reducible refine de_int ?_
  | with_reducible refine de_str ?_
  | with_reducible refine de_bl ?_
  | with_reducible refine de_non ?_)
local macro_rules | `(tactic| walk_at "e1") => `(tactic| first
  | (with_reducible show DE _ _ (Expr.Name _ _) _ _); walk_at "var"
  | (with_reducible show DE _ _ (Expr.Constant _ _ _) _ _); walk_at "const"
  | (with_reducible show DE _ _ (Expr.Call (Expr.Name _ _) _ [] _) _ _); walk_at "bi"
  | with_reducible refine de_add ?_
  | with_reducible refine de_sub ?_
  | with_reducible refine de_mul ?_
  | with_reducible refine de_mod ?_
  | with_reducible refine de_div ?_
  | with_reducible refine de_pow ?_
  | with_reducible refine de_neg ?_
  | with_reducible refine de_tuple ?_
  | with_reducible refine de_list ?_
  | with_reducible refine de_ifExp ?_
  | with_reducible refine de_not ?_
  | with_reducible refine de_bool1 ?_
  | with_reducible refine de_and ?_
  | with_reducible refine de_or ?_
  | with_reducible refine de_revL ?_
  | with_reducible refine de_slice ?_
  | (with_reducible show DE _ _ (Expr.Subscript _ _ _) _ _); refine de_ix hu1 (fun _ _ => rfl) ?_
  | (with_reducible show DE _ _ (Expr.Compare _ [CmpOp.Is] _ _) _ _); refine de_isN ?_
  | (with_reducible show DE _ _ (Expr.Compare _ [CmpOp.Eq] _ _) _ _); refine de_cmp (op_eqAll hu) (nobehind _ (by decide) (by decide)) ?_
  | (with_reducible show DE _ _ (Expr.Compare _ [CmpOp.NotEq] _ _) _ _); refine de_cmp (op_neAll hu) (nobehind _ (by decide) (by decide)) ?_
  | (with_reducible show DE _ _ (Expr.Compare _ [CmpOp.Lt] _ _) _ _); refine de_cmp op_ltAll (nobehind _ (by decide) (by decide)) ?_
  | (with_reducible show DE _ _ (Expr.Compare _ [CmpOp.LtE] _ _) _ _); refine de_cmp op_leAll (nobehind _ (by decide) (by decide)) ?_
  | (with_reducible show DE _ _ (Expr.Compare _ [CmpOp.Gt] _ _) _ _); refine de_cmp op_gtAll (nobehind _ (by decide) (by decide)) ?_
  | (with_reducible show DE _ _ (Expr.Compare _ [CmpOp.GtE] _ _) _ _); refine de_cmp op_geAll (nobehind _ (by decide) (by decide)) ?_
  | (with_reducible show DE _ _ (Expr.Compare _ [CmpOp.In] _ _) _ _); refine de_cmp (op_inAll hu1) rfl ?_
  | (with_reducible show DE _ _ (Expr.Compare _ [CmpOp.NotIn] _ _) _ _); refine de_cmp (op_notInAll hu1) rfl ?_
  | (with_reducible show DE _ _ (Expr.Call (Expr.Attribute _ "append" _) [_] _ _) _ _); refine de_append ?_
  | (with_reducible show DE _ _ (Expr.Call (Expr.Attribute _ "pop" _) [_] _ _) _ _); refine de_popAt ?_
  | (with_reducible show DE _ _ (Expr.Call (Expr.Attribute _ "join" _) [_] _ _) _ _); refine de_join ?_)
local macro_rules | `(tactic| walk_at "bi") => `(tactic| first
  | (with_reducible show DE _ _ (Expr.Call (Expr.Name "isinstance" _) [_, Expr.Name "list" _] [] _) _ _); refine de_isi1 rfl n_isinstance rfl n_list boot_list ?_
  | (with_reducible show DE _ _ (Expr.Call (Expr.Name "isinstance" _) [_, Expr.Name "tuple" _] [] _) _ _); refine de_isi1 rfl n_isinstance rfl n_tuple boot_tuple ?_
  | (with_reducible show DE _ _ (Expr.Call (Expr.Name "isinstance" _) [_, Expr.Name "str" _] [] _) _ _); refine de_isi1 rfl n_isinstance rfl n_str boot_str ?_
  | (with_reducible show DE _ _ (Expr.Call (Expr.Name "isinstance" _) [_, Expr.Name "bool" _] [] _) _ _); refine de_isi1 rfl n_isinstance rfl n_bool boot_bool ?_
  | (with_reducible show DE _ _ (Expr.Call (Expr.Name "isinstance" _) [_, Expr.Name "int" _] [] _) _ _); refine de_isi1 rfl n_isinstance rfl n_int boot_int ?_
  | (with_reducible show DE _ _ (Expr.Call (Expr.Name "isinstance" _) [_, Expr.Tuple [Expr.Name "list" _, Expr.Name "tuple" _] _ _] [] _) _ _); refine de_isi2 rfl n_isinstance rfl n_list boot_list rfl n_tuple boot_tuple ?_
  | (with_reducible show DE _ _ (Expr.Call (Expr.Name "isinstance" _) [_, Expr.Tuple [Expr.Name "str" _, Expr.Name "bool" _] _ _] [] _) _ _); refine de_isi2 rfl n_isinstance rfl n_str boot_str rfl n_bool boot_bool ?_
  | (with_reducible show DE _ _ (Expr.Call (Expr.Name "len" _) _ [] _) _ _); refine de_callB call_lenA rfl n_len boot_len ?_
  | (with_reducible show DE _ _ (Expr.Call (Expr.Name "abs" _) _ [] _) _ _); refine de_callB call_abs rfl n_abs boot_abs ?_
  | (with_reducible show DE _ _ (Expr.Call (Expr.Name "int" _) _ [] _) _ _); refine de_callTy call_int1 rfl n_int boot_int ?_
  | (with_reducible show DE _ _ (Expr.Call (Expr.Name "list" _) _ [] _) _ _); refine de_callTy call_list_of rfl n_list boot_list ?_
  | (with_reducible show DE _ _ (Expr.Call (Expr.Name "tuple" _) _ [] _) _ _); refine de_callTy call_tuple_of rfl n_tuple boot_tuple ?_
  | (with_reducible show DE _ _ (Expr.Call (Expr.Name "sorted" _) _ [] _) _ _); refine de_callB (cr_sortD hu) rfl n_sorted boot_sorted ?_
  | (with_reducible show DE _ _ (Expr.Call (Expr.Name "sum" _) _ [] _) _ _); refine de_callB (cr_sum rfl) rfl n_sum boot_sum ?_
  | (with_reducible show DE _ _ (Expr.Call (Expr.Name "all" _) _ [] _) _ _); refine de_callB (cr_all rfl) rfl n_all boot_all ?_
  | (with_reducible show DE _ _ (Expr.Call (Expr.Name "any" _) _ [] _) _ _); refine de_callB (cr_any rfl) rfl n_any boot_any ?_
  | (with_reducible show DE _ _ (Expr.Call (Expr.Name "min" _) _ [] _) _ _); refine de_callB (call_minA rfl) rfl n_min boot_min ?_
  | (with_reducible show DE _ _ (Expr.Call (Expr.Name "max" _) _ [] _) _ _); refine de_callB (call_maxA rfl) rfl n_max boot_max ?_
  | (with_reducible show DE _ _ (Expr.Call (Expr.Name "dict" _) _ [] _) _ _); refine de_callTy (call_dictP rfl) rfl n_dict boot_dict ?_)
local macro_rules | `(tactic| walk_at "oa") => `(tactic| first
  | refine len_c (by walk_at "vw") (by first | exact Ln.lst _ | exact Ln.tup _ | exact Ln.dk _) ?_
  | refine abs_c (.fz _) ?_
  | refine int_b (.fz _) ?_
  | refine int_i (.fz _) ?_
  | refine list_t (.fz _) ?_
  | refine list_l (by walk_at "vw") ?_
  | refine tuple_t (.fz _) ?_
  | refine tuple_l (by walk_at "vw") ?_
  | refine mm_str (.fz _) (.fz _) ?_
  | refine mm_int (.fz _) (.fz _) ?_)
local macro_rules | `(tactic| walk_at "t1") => `(tactic| first
  | (with_reducible show DT _ _ (Expr.Compare _ [CmpOp.Is] _ _) _ _); refine dt_isN ?_
  | (with_reducible show DT _ _ (Expr.Compare _ [CmpOp.Eq] _ _) _ _); refine dt_cmp (op_eqAll hu) (nobehind _ (by decide) (by decide)) ?_
  | (with_reducible show DT _ _ (Expr.Compare _ [CmpOp.NotEq] _ _) _ _); refine dt_cmp (op_neAll hu) (nobehind _ (by decide) (by decide)) ?_
  | (with_reducible show DT _ _ (Expr.Compare _ [CmpOp.Lt] _ _) _ _); refine dt_cmp op_ltAll (nobehind _ (by decide) (by decide)) ?_
  | (with_reducible show DT _ _ (Expr.Compare _ [CmpOp.LtE] _ _) _ _); refine dt_cmp op_leAll (nobehind _ (by decide) (by decide)) ?_
  | (with_reducible show DT _ _ (Expr.Compare _ [CmpOp.Gt] _ _) _ _); refine dt_cmp op_gtAll (nobehind _ (by decide) (by decide)) ?_
  | (with_reducible show DT _ _ (Expr.Compare _ [CmpOp.GtE] _ _) _ _); refine dt_cmp op_geAll (nobehind _ (by decide) (by decide)) ?_
  | (with_reducible show DT _ _ (Expr.Compare _ [CmpOp.In] _ _) _ _); refine dt_cmp (op_inAll hu1) rfl ?_
  | (with_reducible show DT _ _ (Expr.Compare _ [CmpOp.NotIn] _ _) _ _); refine dt_cmp (op_notInAll hu1) rfl ?_
  | with_reducible refine dt_not ?_
  | with_reducible refine dt_bool ?_
  | (with_reducible show DT _ _ (Expr.Call _ _ _ _) _ _); refine dt_val ?_)
local macro_rules | `(tactic| walk_at "w1") => `(tactic| first
  | with_reducible refine dw_and1 ?_
  | with_reducible refine dw_or1 ?_
  | with_reducible refine dw_and ?_
  | with_reducible refine dw_or ?_)
local macro_rules | `(tactic| walk_at "a1") => `(tactic| first
  | with_reducible refine da_nil ?_
  | refine da_cons ?_)
local macro_rules | `(tactic| walk_at "o2") => `(tactic| first
  | (with_reducible show Op2 _ _ (rAddAll _) _ _ _ _); first | refine add_int (.fz _) (.fz _) ?_ | refine add_str (.fz _) (.fz _) (by walk_at "side") ?_ | refine add_tup (.fz _) (.fz _) (by walk_at "side") ?_ | refine add_lst (by walk_at "vw") (by walk_at "vw") (by walk_at "side") ?_
  | (with_reducible show Op2 _ _ (rIxAll _) _ _ _ _); first | refine ix_tpl (.fz _) (.fz _) rfl ?_ | refine ix_lst (by walk_at "vw") (.fz _) rfl ?_ | refine ix_tpl (.fz _) (.fz _) (by assumption) ?_ | refine ix_lst (by walk_at "vw") (.fz _) (by assumption) ?_ | refine ix_dk (by walk_at "vw") (.fz _) (k := .inr _) rfl (by assumption) ?_
  | (with_reducible show Op2 _ _ (rEqAll _) _ _ _ _); first | refine eq_int (.fz _) (.fz _) ?_ | refine eq_str (.fz _) (.fz _) ?_ | refine eq_bl (.fz _) (.fz _) ?_
  | (with_reducible show Op2 _ _ (rNeAll _) _ _ _ _); first | refine ne_int (.fz _) (.fz _) ?_ | refine ne_str (.fz _) (.fz _) ?_ | refine ne_bl (.fz _) (.fz _) ?_
  | refine op_ib0 (.fz _) (.fz _) ?_
  | refine lt_int (.fz _) (.fz _) ?_
  | refine lt_str (.fz _) (.fz _) ?_
  | refine in_dk (by walk_at "vw") (by walk_at "vw") rfl ?_)
local macro_rules | `(tactic| walk_at "o1") => `(tactic| first
  | refine cut_t (.fz _) ?_
  | refine cut_l (by walk_at "vw") ?_)
local macro_rules | `(tactic| walk_at "x1") => `(tactic| first
  | refine ⟨_, _, .fz _, rfl, kb_list rfl, ?_⟩
  | refine ⟨_, _, .fz _, rfl, kb_tuple rfl, ?_⟩
  | refine ⟨_, _, .fz _, rfl, kb_str rfl, ?_⟩
  | refine ⟨_, _, .fz _, rfl, kb_bool rfl, ?_⟩
  | refine ⟨_, _, .fz _, rfl, kb_int rfl, ?_⟩
  | refine ⟨_, _, _, .fz _, rfl, kb_list rfl, kb_tuple rfl, ?_⟩
  | refine ⟨_, _, _, .fz _, rfl, kb_str rfl, kb_bool rfl, ?_⟩
  | refine ⟨_, _, _, rfl, rfl, Put.lst rfl, ?_⟩
  | refine ⟨_, _, .fz _, .fz _, ?_⟩
  | refine ⟨_, .fz _, ?_⟩
  | refine ⟨_, rfl, ?_⟩
  | refine ⟨_, (.cons (.cons (.cons .nil))), ?_⟩
  | refine ⟨_, (.cons (.cons .nil)), ?_⟩
  | refine ⟨_, (.cons .nil), ?_⟩
  | refine ⟨_, (.cons (.cons (.cons (.cons .nil)))), ?_⟩
  | refine ⟨_, .nil, ?_⟩
  | refine ⟨_, (.cons (.cons (.cons (.cons (.cons .nil))))), ?_⟩
  | refine ⟨_, (.cons (.cons (.cons (.cons (.cons (.cons .nil)))))), ?_⟩
  | refine ⟨_, (.cons (.cons (.cons (.cons (.cons (.cons (.cons .nil))))))), ?_⟩
  | refine ⟨_, _, rfl, rfl, ?_⟩)
local macro_rules | `(tactic| walk_at "set") => `(tactic| first
  | refine ds_set (i := 0) nd rfl (by first | exact Or.inl rfl | exact Or.inr rfl) (by decide) ?_
  | refine ds_set (i := 1) nd rfl (by first | exact Or.inl rfl | exact Or.inr rfl) (by decide) ?_
  | refine ds_set (i := 2) nd rfl (by first | exact Or.inl rfl | exact Or.inr rfl) (by decide) ?_
  | refine ds_set (i := 3) nd rfl (by first | exact Or.inl rfl | exact Or.inr rfl) (by decide) ?_
  | refine ds_set (i := 4) nd rfl (by first | exact Or.inl rfl | exact Or.inr rfl) (by decide) ?_
  | refine ds_set (i := 5) nd rfl (by first | exact Or.inl rfl | exact Or.inr rfl) (by decide) ?_
  | refine ds_set (i := 6) nd rfl (by first | exact Or.inl rfl | exact Or.inr rfl) (by decide) ?_
  | refine ds_set (i := 7) nd rfl (by first | exact Or.inl rfl | exact Or.inr rfl) (by decide) ?_
  | refine ds_set (i := 8) nd rfl (by first | exact Or.inl rfl | exact Or.inr rfl) (by decide) ?_
  | refine ds_set (i := 9) nd rfl (by first | exact Or.inl rfl | exact Or.inr rfl) (by decide) ?_
  | refine ds_set (i := 10) nd rfl (by first | exact Or.inl rfl | exact Or.inr rfl) (by decide) ?_
  | refine ds_set (i := 11) nd rfl (by first | exact Or.inl rfl | exact Or.inr rfl) (by decide) ?_
  | refine ds_set (i := 12) nd rfl (by first | exact Or.inl rfl | exact Or.inr rfl) (by decide) ?_
  | refine ds_set (i := 13) nd rfl (by first | exact Or.inl rfl | exact Or.inr rfl) (by decide) ?_
  | refine ds_set (i := 14) nd rfl (by first | exact Or.inl rfl | exact Or.inr rfl) (by decide) ?_
  | refine ds_set (i := 15) nd rfl (by first | exact Or.inl rfl | exact Or.inr rfl) (by decide) ?_
  | refine ds_set (i := 16) nd rfl (by first | exact Or.inl rfl | exact Or.inr rfl) (by decide) ?_)
local macro_rules | `(tactic| walk_at "s1") => `(tactic| first
  | (with_reducible show DS _ _ (Stmt.Assign [Expr.Name _ _] _ _) _ _); walk_at "set"
  | with_reducible refine ds_ret ?_
  | with_reducible refine ds_if ?_
  | refine ds_store hu1 ?_
  | (with_reducible show DS _ _ (Stmt.Expr _ _) _ _); refine ds_expr ?_)
local macro_rules | `(tactic| walk_at "ss1") => `(tactic| first
  | refine dss_cons ?_
  | refine dss_nil ?_)
local macro_rules | `(tactic| walk_at "d1") => `(tactic| first
  | (with_reducible show DE _ _ _ _ _); walk_at "e1"
  | (with_reducible show Op2 _ _ _ _ _ _ _); walk_at "o2"
  | (with_reducible show DA _ _ _ _ _); walk_at "a1"
  | (with_reducible show DT _ _ _ _ _); walk_at "t1"
  | (with_reducible show DTs _ _ _ _ _); first | with_reducible refine dts_one ?_ | with_reducible refine dts_nil ?_
  | (with_reducible show DO _ _ _ _ _); first | with_reducible refine do_none ?_ | with_reducible refine do_some ?_
  | (with_reducible show DW _ _ _ _ _); walk_at "w1"
  | (with_reducible show DSs _ _ _ _ _); walk_at "ss1"
  | (with_reducible show DS _ _ _ _ _); walk_at "s1"
  | (with_reducible show Op1 _ _ _ _ _ _); walk_at "o1"
  | (with_reducible show OpA _ _ _ _ _ _); walk_at "oa"
  | (with_reducible show ∃ _, _); walk_at "x1"
  | (with_reducible show DEnds.nx _ _); dsimp only
  | (with_reducible show if _ = true then _ else _); first | refine if_t rfl ?_ | refine if_f rfl ?_
  | (with_reducible show DEnds.rt _ _ _); dsimp only
  | (with_reducible show _ ∧ _); refine ⟨(by walk_at "side"), ?_⟩)
local macro_rules | `(tactic| walk_at "d") => `(tactic| repeat walk_at "d1")
section
variable {P : Program} {w : World} {K : PySem.W.Frag} {mg : Str → Option Value} {base : Heap} {f : Addr} {fd : FuncData}
abbrev N__law_links : List Str := ["_law_box_here", "_law_size", "_law_callings_here", "_law_often", "_law_found", "_law_used", "_law_k", "_law_free", "_law_whom", "_law_glass", "_law_who"]
theorem nd__law_links : N__law_links.Nodup := by decide +kernel
theorem sc__law_links : FnScope N__law_links ["_law_box_here", "_law_size", "_law_callings_here", "_law_often"] (defScope s__law_links) := ⟨rfl, rfl, rfl, nd__law_links, rfl, by decide +kernel, by decide +kernel⟩
def S__law_links : FSp := fB (fun a : Int × List Str × Int => [.fz (.int a.1), .fz (.lst (a.2.1.map .str)), .fz (.int a.2.2)]) (fun a => 0 ≤ a.1 ∧ Names a.2.1 a.2.1.length ∧ 1 ≤ a.2.1.length ∧ a.2.1.length ≤ 26 ∧ 0 < a.2.2 ∧ a.2.2 < 1000) (fun a (F : List (Str × Str × Int)) => Ties a.2.1 F ∧ F.length ≤ 26) (fun F => .ow (.lst (F.map tieD)))
theorem ok__law_links {fT fR : Addr} {fdT fdR : FuncData} (B : Bi mg) (F_take : FnP K "_law_take" s__law_take fT fdT) (g_take : mg "_law_take" = some (.ref fT)) (F_round : FnP K "_law_round" s__law_round fR fdR) (g_round : mg "_law_round" = some (.ref fR)) (F : FnP K "_law_links" s__law_links f fd) : FnOk P w K mg base CX0 2 f fd ["_law_box_here", "_law_size", "_law_callings_here", "_law_often"] (spOf K [0] 4 S__law_links) := by
  have n_range := B.range; have n_dict := B.dict; have n_len := B.len; have n_min := B.min; have n_max := B.max; have n_sorted := B.sorted
  have G_take : FnOk P w K mg base CX0 1 fT fdT _ _ := ok__law_take F_take
  have b_take : Binds K fdT ["_law_box_here", "_law_amount"] [] := F_take.bindsN fun _ _ _ _ _ _ us hl => match us, hl with | [_, _], _ => rfl
  have G_round : FnOk P w K mg base CX0 1 fR fdR _ _ := ok__law_round F_round
  have b_round : Binds K fdR ["_law_size", "_law_amount"] [] := F_round.bindsN fun _ _ _ _ _ _ us hl => match us, hl with | [_, _], _ => rfl
  refine fn_ok (S := S__law_links) 10 (by decide) (by decide) F sc__law_links fun cdv A outer s H E b cs Post hr hcl hS => ?_
  obtain ⟨x, ⟨sz, ns, of⟩, rfl, ⟨hsz, hns, hn1, hn26, ho0, ho1⟩, q⟩ := hS
  have hsz : 0 ≤ sz := hsz
  have hns : Names ns ns.length := hns
  have hn1 : 1 ≤ ns.length := hn1
  have hn26 : ns.length ≤ 26 := hn26
  have ho0 : 0 < of := ho0
  have ho1 : of < 1000 := ho1
  have q : ∀ F : List (Str × Str × Int), (Ties ns F ∧ F.length ≤ 26) → ∀ x' e, e[0]? = some (.ow (boxD x')) → Post (.ow (.lst (F.map tieD))) e := q
  have hu : (A.deeper (envOfC "_law_links" (defScope s__law_links) s.heap.objs.size f cdv)).units + 64 < cLine := hr.units
  have hu1 : (A.deeper (envOfC "_law_links" (defScope s__law_links) s.heap.objs.size f cdv)).units + 1 < cLine := by omega
  have nd := nd__law_links
  change DSs _ b _ [.ow (boxD x), .fz (.int sz), .fz (.lst (ns.map .str)), .fz (.int of), .no, .no, .no, .no, .no, .no, .no] _
  refine dss_cons (ds_parG (i := 4) (j := 5) rfl nd (by walk_at "puts") (by decide) (by simp) (by simp) ?_)
  walk_at "d"
  refine de_lc [("_law_who", 10)] rfl nd (by change BlkOk N__law_links (defScope s__law_links) _ _; walk_at "blk") (by simp) ?_
  refine DI.a (di_list ?_)
  walk_at "var"
  refine ⟨_, .inl rfl, ?_⟩
  refine ⟨by simp; omega, fun k acc e => acc = (ns.take k).map (fun n => DL.pairD (.inr n, .int 0)) ∧ e = [.ow (boxD x), .fz (.int sz), .fz (.lst (ns.map .str)), .fz (.int of), .no, .no, .no, .no, .no, .no, .no], ⟨rfl, rfl⟩, ?_, ?_, ?_⟩
  · rintro k acc e ⟨rfl, rfl⟩
    exact ⟨trivial, by simp; omega, by simp⟩
  · rintro k d acc e hd ⟨rfl, rfl⟩ s1 H1 C1 cl1 fp1
    rw [List.getElem?_map] at hd
    cases hp : ns[k]? with
    | none => rw [hp] at hd; cases hd
    | some na =>
      rw [hp] at hd
      cases hd
      have ht : ns.take (k + 1) = ns.take k ++ [na] := by rw [List.take_add_one, hp]; rfl
      refine dgo_name (i := 10) nd rfl (Or.inl rfl) (by first | exact Or.inl rfl | exact Or.inr rfl) (by decide) (by simp) (by simp) (fun j z => nomatch z) ?_
      intro s2 H2 C2 cl2 fp2
      refine dts_nil (ite_b (fun _ => ?_) (fun z => nomatch z))
      intro s3 H3 C3 cl3 fp3
      walk_at "d"
      refine ⟨?_, rfl⟩
      rw [ht]
      simp [DL.pairD, keyD]
  rintro acc e ⟨rfl, rfl⟩
  have e0 : ns.take (ns.map D.str).length = ns := by simp
  rw [e0]
  walk_at "d"
  have ek : ((ns.map fun n => ((Sum.inr n : Key), D.int 0)).map (·.1)).Nodup := by rw [List.map_map]; exact inr_nodup hns.nd
  refine dict_c (.ow _) (kvs := ns.map fun n => (.inr n, .int 0)) (by rw [List.map_map]; rfl) ?_
  rw [dmerge_new ek (by simp), List.nil_append]
  walk_at "d"
  refine ⟨_, _, rfl, fun j z => (nomatch z), fun j z => (nomatch z), by simp, by simp, ?_⟩
  -- the loop
  refine dss_cons (ds_for rfl PassesOwn.never ?_)
  refine da_range2 rfl n_range ?_
  refine de_int ?_
  walk_at "e1"
  walk_at "a1"
  walk_at "e1"
  walk_at "a1"
  walk_at "oa"
  have hml : (ns.map D.str).length = ns.length := List.length_map ..
  refine ⟨_, _, rfl, rfl, by decide, by decide, by omega, by omega, ?_⟩
  refine ⟨fun i e => ∃ (x' : Box) (Fo : List (Str × Str × Int)) (cnt : Str → Nat) (c6 c7 c8 c9 : Cell), Ties (ns.take (i + 1)) Fo ∧ Fo.length ≤ i ∧ (ns.map cnt).sum = 2 * Fo.length ∧ (∀ j, c7 ≠ .al j) ∧ e = [.ow (boxD x'), .fz (.int sz), .fz (.lst (ns.map .str)), .fz (.int of), .ow (.lst (Fo.map tieD)), .ow (.dk (usedD ns cnt)), c6, c7, c8, c9, .no], ?_, fun _ _ _ => trivial, ?_, ?_⟩
  · refine ⟨x, [], fun _ => 0, .no, .no, .no, .no, ⟨by simp, by simp, by simp⟩, Nat.le_refl _, ?_, by simp, ?_⟩
    · have : ∀ l : List Str, (l.map fun _ => 0).sum = 0 := fun l => by induction l with
        | nil => rfl
        | cons a r ih => simpa using ih
      rw [this]; rfl
    · rfl
  · rintro i d e hd ⟨x', Fo, cnt, c6, c7, c8, c9, hT, hFl, hsum, hc7, rfl⟩
    rw [List.getElem?_map] at hd
    cases hp : (List.range (((ns.map D.str).length : Int) - 1).toNat)[i]? with
    | none => rw [hp] at hd; cases hd
    | some ii =>
      rw [hp] at hd
      cases hd
      obtain ⟨hi1, hi2⟩ := List.getElem?_eq_some_iff.mp hp
      rw [List.getElem_range] at hi2
      subst hi2
      have hil : i + 1 < ns.length := by simp at hi1; omega
      have ek1 : (1 : Int) + ((i : Nat) : Int) = ((i + 1 : Nat) : Int) := by omega
      change DG _ b _ (.fz (.int (1 + ((i : Nat) : Int)))) _ _
      rw [ek1]
      refine dg_name (i := 6) nd rfl (Or.inl rfl) (by first | exact Or.inl rfl | exact Or.inr rfl) (by simp) (by simp) (fun j z => nomatch z) ?_
      have hfree := some_free (names := ns) (cnt := cnt) (k := i + 1) (by omega) (by omega) (by rw [hsum]; omega)
      refine dss_cons (ds_setLc (i := 7) [("_law_who", 10)] rfl nd rfl rfl (sw_true rfl rfl rfl (by decide +kernel)) (by change BlkOk N__law_links (defScope s__law_links) _ _; walk_at "blk") (by simp) (by simp) ?_)
      refine DI.a (di_list ?_)
      walk_at "d"
      rw [cut_map, cut_take]
      refine ⟨_, .inr rfl, ?_⟩
      refine ⟨by simp; omega, fun k acc e => acc = (((ns.take (i + 1)).take k).filter (fun n => decide (cnt n < 6))).map .str ∧ e = [.ow (boxD x'), .fz (.int sz), .fz (.lst (ns.map .str)), .fz (.int of), .ow (.lst (Fo.map tieD)), .ow (.dk (usedD ns cnt)), .fz (.int ((i + 1 : Nat) : Int)), c7, c8, c9, .no], ⟨rfl, rfl⟩, ?_, ?_, ?_⟩
      · rintro k acc e ⟨rfl, rfl⟩
        refine ⟨trivial, ?_, by simp⟩
        rw [List.length_map]
        exact Nat.le_trans (List.length_filter_le _ _) (by rw [List.length_take]; omega)
      · rintro k d acc e hd ⟨rfl, rfl⟩ s1 H1 C1 cl1 fp1
        rw [List.getElem?_map] at hd
        cases hp2 : (ns.take (i + 1))[k]? with
        | none => rw [hp2] at hd; cases hd
        | some na =>
          rw [hp2] at hd
          cases hd
          have ht : (ns.take (i + 1)).take (k + 1) = (ns.take (i + 1)).take k ++ [na] := by rw [List.take_add_one, hp2]; rfl
          have hmem : na ∈ ns := List.mem_of_mem_take (List.mem_of_getElem? hp2)
          refine dgo_name (i := 10) nd rfl (Or.inl rfl) (by first | exact Or.inl rfl | exact Or.inr rfl) (by decide) (by simp) (by simp) (fun j z => nomatch z) ?_
          intro s2 H2 C2 cl2 fp2
          walk_at "d"
          refine ix_dk (.al rfl) (.fz _) (k := .inr na) rfl (usedD_get hmem) ?_
          walk_at "d"
          refine ite_b (fun hf => ?_) (fun hf => ?_)
          · have hf : cnt na < 6 := by have := of_decide_eq_true hf; omega
            intro s3 H3 C3 cl3 fp3
            walk_at "d"
            refine ⟨?_, rfl⟩
            rw [ht]
            simp [hf]
          · have hf : ¬ cnt na < 6 := by have := of_decide_eq_false hf; omega
            refine ⟨?_, rfl⟩
            rw [ht]
            simp [hf]
      rintro acc e ⟨rfl, rfl⟩
      refine ⟨by simp, ?_⟩
      have et : (ns.take (i + 1)).take ((ns.take (i + 1)).map D.str).length = ns.take (i + 1) := List.take_of_length_le (by simp)
      rw [et]
      revert hfree
      generalize hfr : (ns.take (i + 1)).filter (fun n => decide (cnt n < 6)) = fr
      intro hfree
      have hfrl : 0 < fr.length := List.length_pos_iff.mpr hfree
      have hfr2 : fr.length ≤ 26 := by
        rw [← hfr]
        exact Nat.le_trans (List.length_filter_le _ _) (by rw [List.length_take]; omega)
      have hfrm : (fr.map D.str).length = fr.length := List.length_map ..
      have hfrs : ∀ z ∈ fr, z ∈ ns.take (i + 1) := fun z hz => by rw [← hfr] at hz; exact (List.mem_filter.mp hz).1
      walk_at "d"
      refine de_callO (j := 0) G_take fB_mono (hr.mono (by decide)) rfl g_take F_take.kp b_take ?_
      walk_at "d"
      refine ⟨_, _, _, ⟨rfl, rfl, all2, rfl⟩, rfl, x', _, rfl, ⟨by omega, by omega⟩, fun r hr1 x2 e he => ⟨_, he, ?_⟩⟩
      obtain ⟨hr0, hr1⟩ := hr1
      have hrl : r.toNat < fr.length := by omega
      have hrn : ((r.toNat : Nat) : Int) = r := Int.toNat_of_nonneg hr0
      have hat := atI_map D.str hrl
      rw [hrn] at hat
      refine ix_lst (.al rfl) (.fz _) hat ?_
      have hwm : fr[r.toNat] ∈ ns.take (i + 1) := hfrs _ (List.getElem_mem hrl)
      revert hwm
      generalize fr[r.toNat] = whom
      intro hwm
      walk_at "d"
      refine de_call G_round fS_mono (hr.mono (by decide)) rfl g_round F_round.kp b_round ?_
      walk_at "d"
      refine de_callO (j := 0) G_take fB_mono (hr.mono (by decide)) rfl g_take F_take.kp b_take ?_
      walk_at "d"
      refine ⟨_, _, _, ⟨rfl, rfl, all2, rfl⟩, rfl, x2, 60, rfl, ⟨by decide, by decide⟩, fun r2 hr2 x3 e he => ⟨_, he, ?_⟩⟩
      walk_at "d"
      refine ⟨(sz, r2 - 20), rfl, hsz, fun e => ?_⟩
      walk_at "d"
      refine de_callO (j := 0) G_take fB_mono (hr.mono (by decide)) rfl g_take F_take.kp b_take ?_
      walk_at "d"
      refine ⟨_, _, _, ⟨rfl, rfl, all2, rfl⟩, rfl, x3, of, rfl, ⟨by omega, by omega⟩, fun r3 hr3 x4 e he => ⟨_, he, ?_⟩⟩
      walk_at "d"
      have hy : ns[i + 1]? = some ns[i + 1] := List.getElem?_eq_getElem hil
      have hatk := atI_map D.str hil
      have hym : ns[i + 1] ∈ ns := List.getElem_mem hil
      revert hy hatk hym
      generalize ns[i + 1] = y
      intro hy hatk hym
      have hwns : whom ∈ ns := List.mem_of_mem_take hwm
      have ht : ns.take (i + 1 + 1) = ns.take (i + 1) ++ [y] := by rw [List.take_add_one, hy]; rfl
      have hFm : (Fo.map tieD).length < 100000 := by rw [List.length_map]; omega
      have hul : ∀ c : Str → Nat, (usedD ns c).length < 100000 := fun c => by unfold usedD; rw [List.length_map]; omega
      refine ite_b (fun hpos => ?_) (fun hneg => ?_)
      · have hg1 := usedD_get (cnt := cnt) hwns
        walk_at "d"
        refine ⟨_, _, _, rfl, rfl, Put.dk (k := .inr whom) (hul _), ?_⟩
        have e1 : ((cnt whom : Nat) : Int) + 1 = ((cnt whom + 1 : Nat) : Int) := by omega
        rw [e1, usedD_put hwns]
        have hg2 := usedD_get (cnt := upd1 cnt whom (cnt whom + 1)) hym
        walk_at "d"
        refine ⟨_, _, _, rfl, rfl, Put.dk (k := .inr y) (hul _), ?_⟩
        have e2 : ((upd1 cnt whom (cnt whom + 1) y : Nat) : Int) + 1 = ((upd1 cnt whom (cnt whom + 1) y + 1 : Nat) : Int) := by omega
        rw [e2, usedD_put hym]
        walk_at "d"
        refine ⟨x4, Fo ++ [(sMin whom y, sMax whom y, counted sz (r2 - 20))], upd1 (upd1 cnt whom (cnt whom + 1)) y (upd1 cnt whom (cnt whom + 1) y + 1), .fz (.int ((i + 1 : Nat) : Int)), .ow (.lst (fr.map .str)), .fz (.str whom), .fz (.int (counted sz (r2 - 20))), hT.new hns.nd hwm hy, ?_, ?_, (fun j z => nomatch z), ?_⟩
        · rw [List.length_append]; simp; omega
        · rw [sum_upd hns.nd hym, sum_upd hns.nd hwns, hsum, List.length_append]; simp; omega
        · rw [List.map_append]; rfl
      · walk_at "d"
        refine ⟨x4, Fo, cnt, .fz (.int ((i + 1 : Nat) : Int)), .ow (.lst (fr.map .str)), .fz (.str whom), .fz (.int (counted sz (r2 - 20))), ⟨fun t htF => ?_, hT.ne, hT.one⟩, by omega, hsum, (fun j z => nomatch z), rfl⟩
        rw [ht]
        exact ⟨List.mem_append_left _ (hT.mem t htF).1, List.mem_append_left _ (hT.mem t htF).2⟩
  · rintro e ⟨x', Fo, cnt, c6, c7, c8, c9, hT, hFl, hsum, hc7, rfl⟩
    have hT : Ties ns Fo := by
      refine ⟨fun t htF => ?_, hT.ne, hT.one⟩
      have := hT.mem t htF
      exact ⟨List.mem_of_mem_take this.1, List.mem_of_mem_take this.2⟩
    have hFl : Fo.length ≤ 26 := by
      refine Nat.le_trans hFl ?_
      rw [List.length_map, List.length_range]
      omega
    walk_at "d"
    refine sorted_c (.al rfl) (sortd_map (fun t htF => ?_) (fun a c => ?_) (fun a => ⟨_, _, rfl⟩) (by omega)) ?_
    · have hm := hT.mem t htF
      refine .tup fun d hd => ?_
      simp at hd
      rcases hd with h | h | h <;> subst h
      · exact .str (hns.low _ hm.1).1.ok
      · exact .str (hns.low _ hm.2).1.ok
      · exact .int _
    · simp [tieD, D.py, pyL, PySem.W.alike, PySem.W.alikeAll]
    obtain ⟨L, hL, hp⟩ := dsort_map tieD Fo
    rw [hL]
    walk_at "d"
    exact q L ⟨hT.perm hp, by rw [hp.length_eq]; exact hFl⟩ x' _ rfl
end
end K13



set_option Elab.async false
set_option linter.all false
set_option maxRecDepth 100000
set_option maxHeartbeats 1000000
set_option pp.deepTerms false
set_option pp.deepTerms.threshold 6
set_option pp.oneline false
set_option pp.proofs false
namespace K13
open PySem PySem.Spec PyProof.Rows L2 DL

/-! ### the plain law: cards behind rows -/
def sgn (n : Nat) : Int := 1 - 2 * ((n % 2 : Nat) : Int)
theorem sgn_succ (n : Nat) : sgn (n + 1) = - sgn n := by unfold sgn; omega
theorem sgn_cases (n : Nat) : sgn n = 1 ∨ sgn n = -1 := by unfold sgn; omega
def altS : List Int → Int
  | [] => 0
  | g :: gs => g * sgn gs.length + altS gs
def cardSum (w : Int) (c : Int × Int) (gs : List Int) : Int × Int := ((c.1 + (gs.length : Int)) % 2, counted w (c.2 * sgn gs.length + altS gs))
theorem counted_counted (w a b : Int) : counted w (a - counted w b) = counted w (a - b) := by
  unfold counted
  by_cases h : w = 0
  · simp [h]
  · simp only [if_neg h]
    rw [Int.sub_emod, Int.emod_emod_of_dvd _ (Int.dvd_refl w), ← Int.sub_emod]
theorem counted_add (w a b : Int) : counted w (counted w a + b) = counted w (a + b) := by
  unfold counted
  by_cases h : w = 0
  · simp [h]
  · simp only [if_neg h, Int.emod_add_emod]
theorem counted_addN (w a b : Int) : counted w (-(counted w a) + b) = counted w (-a + b) := by
  have := counted_counted w b a
  rw [show -(counted w a) + b = b - counted w a by omega, show -a + b = b - a by omega]
  exact this
theorem counted_idem (w a : Int) : counted w (counted w a) = counted w a := by
  have := counted_add w a 0
  simpa using this
/-- one going more at the front -/
theorem cardSum_cons (w : Int) (c : Int × Int) (g : Int) (gs : List Int) : cardSum w (mirrored w c g) gs = cardSum w c (g :: gs) := by
  unfold cardSum mirrored
  dsimp only
  refine Prod.ext ?_ ?_
  · dsimp only
    rw [List.length_cons]
    omega
  · dsimp only
    rw [List.length_cons, sgn_succ, altS]
    rcases sgn_cases gs.length with h | h <;> rw [h]
    · rw [Int.mul_one, counted_add]
      congr 1
      omega
    · rw [show counted w (g - c.2) * -1 + altS gs = -(counted w (g - c.2)) + altS gs by omega, counted_addN]
      congr 1
      omega
theorem cardSum_nil (w : Int) (c : Int × Int) (h1 : c.1 = 0 ∨ c.1 = 1) (h2 : counted w c.2 = c.2) : cardSum w c [] = c := by
  unfold cardSum
  refine Prod.ext ?_ ?_
  · show (c.1 + ((0 : Nat) : Int)) % 2 = c.1
    omega
  · show counted w (c.2 * sgn 0 + 0) = c.2
    rw [show sgn 0 = 1 from rfl, Int.mul_one, Int.add_zero, h2]
theorem between_comm {n m : Str} {t : Str × Str × Int} : between n m t ↔ between m n t := by
  unfold between
  constructor
  · rintro (⟨a, b⟩ | ⟨a, b⟩)
    · exact .inr ⟨b, a⟩
    · exact .inl ⟨b, a⟩
  · rintro (⟨a, b⟩ | ⟨a, b⟩)
    · exact .inr ⟨b, a⟩
    · exact .inl ⟨b, a⟩
theorem glass_comm (n m : Str) (ti : List (Str × Str × Int)) : glass n m ti = glass m n ti := by
  unfold glass
  congr 1
  funext acc t
  by_cases h : between n m t
  · rw [if_pos h, if_pos (between_comm.mp h)]
  · rw [if_neg h, if_neg (fun z => h (between_comm.mp z))]
theorem glass_away {n a b : Str} (ha : n ≠ a) (hb : n ≠ b) (ti : List (Str × Str × Int)) : glass a b (ti.filter (away n)) = glass a b ti := by
  unfold glass
  generalize (none : Option Int) = o
  induction ti generalizing o with
  | nil => rfl
  | cons t l ih =>
    by_cases h : away n t = true
    · rw [List.filter_cons_of_pos h, List.foldl_cons, List.foldl_cons]
      exact ih _
    · rw [List.filter_cons_of_neg h, List.foldl_cons]
      have hn : n = t.1 ∨ n = t.2.1 := by
        unfold away at h
        exact Decidable.byContradiction fun z => h (by rw [decide_eq_false z]; rfl)
      have hb : ¬ between a b t := by
        rintro (⟨x, y⟩ | ⟨x, y⟩) <;> rcases hn with z | z
        · exact ha (z.trans x.symm)
        · exact hb (z.trans y.symm)
        · exact hb (z.trans y.symm)
        · exact ha (z.trans x.symm)
      rw [if_neg hb]
      exact ih _
/-- cards as the law has them: faces 0 and 1, numbers of the wheel -/
def Good (h : Hall) : Prop := ∀ p ∈ h.pl, (p.2.1 = 0 ∨ p.2.1 = 1) ∧ counted h.w p.2.2 = p.2.2
theorem step_inv {h : Hall} {n : Str} {p : Str × Int × Int} (hp : p ∈ (behindOne h n).pl) : ∃ q ∈ h.pl, q.1 = p.1 ∧ ((∃ g, glass n p.1 h.ti = some g ∧ p.2 = mirrored h.w q.2 g) ∨ (glass n p.1 h.ti = none ∧ p.2 = q.2 ∧ p.1 ≠ n)) := by
  obtain ⟨q, hq, e⟩ := List.mem_filterMap.mp hp
  unfold stepPl at e
  refine ⟨q, hq, ?_⟩
  split at e
  · rename_i g hg
    have e := Option.some.inj e
    subst e
    exact ⟨rfl, .inl ⟨g, hg, rfl⟩⟩
  · rename_i hg
    split at e
    · cases e
    · rename_i hne
      have e := Option.some.inj e
      subst e
      exact ⟨rfl, .inr ⟨hg, rfl, hne⟩⟩
theorem Good.behind {h : Hall} (gd : Good h) (n : Str) : Good (behindOne h n) := fun p hp => by
  obtain ⟨q, hq, e1, h1 | h1⟩ := step_inv hp
  · obtain ⟨g, hg, e⟩ := h1
    have := gd q hq
    rw [e]
    refine ⟨?_, counted_idem _ _⟩
    show 1 - q.2.1 = 0 ∨ 1 - q.2.1 = 1
    omega
  · rw [h1.2.1]
    exact gd q hq
theorem names_row {h : Hall} (s : Sound h) {r : List Str} {m : Str} (hm : m ∈ namesOf (behindRow h r)) : m ∈ namesOf h := by
  induction r generalizing h with
  | nil => exact hm
  | cons n r ih =>
    have := ih (s.behind n) hm
    rw [names_behind s] at this
    exact (List.mem_filter.mp this).1
theorem names_may {h : Hall} (s : Sound h) {r : List Str} (my : May h r) {m : Str} (hm : m ∈ r) : m ∈ namesOf h := by
  induction r generalizing h with
  | nil => cases hm
  | cons n r ih =>
    rcases List.mem_cons.mp hm with e | e
    · subst e; exact free_mem my.1
    · have := ih (s.behind n) my.2 e
      rw [names_behind s] at this
      exact (List.mem_filter.mp this).1
theorem not_self {h : Hall} (s : Sound h) {n m : Str} (hm : m ∈ namesOf (behindOne h n)) : n ≠ m := by
  rw [names_behind s] at hm
  have := (List.mem_filter.mp hm).2
  simp at this
  exact fun z => this z.symm
theorem filterMap_eq {α β : Type} {f g : α → Option β} : ∀ {l : List α}, (∀ x ∈ l, f x = g x) → l.filterMap f = l.filterMap g
  | [], _ => rfl
  | a :: l, h => by rw [List.filterMap_cons, List.filterMap_cons, h a (List.mem_cons_self ..), filterMap_eq fun x hx => h x (List.mem_cons_of_mem _ hx)]
/-- what stands behind a row -/
theorem row_card {h : Hall} (s : Sound h) (gd : Good h) {r : List Str} (my : May h r) {p : Str × Int × Int} (hp : p ∈ (behindRow h r).pl) : ∃ q ∈ h.pl, q.1 = p.1 ∧ p.2 = cardSum h.w q.2 (r.filterMap fun m => glass p.1 m h.ti) := by
  induction r generalizing h with
  | nil =>
    obtain ⟨h1, h2⟩ := gd p hp
    exact ⟨p, hp, rfl, (cardSum_nil _ _ h1 h2).symm⟩
  | cons n r ih =>
    have sb := s.behind n
    obtain ⟨q, hq, e1, e2⟩ := ih sb (gd.behind n) my.2 hp
    have hpn : p.1 ∈ namesOf (behindOne h n) := names_row sb (List.mem_map.mpr ⟨p, hp, rfl⟩)
    have hne := not_self s hpn
    have eg : (r.filterMap fun m => glass p.1 m (behindOne h n).ti) = r.filterMap fun m => glass p.1 m h.ti := by
      exact filterMap_eq fun m hm => glass_away hne (not_self s (names_may sb my.2 hm)) _
    rw [eg] at e2
    obtain ⟨q', hq', e3, h1 | h1⟩ := step_inv hq
    · obtain ⟨g, hg, e⟩ := h1
      refine ⟨q', hq', e3.trans e1, ?_⟩
      rw [e1] at hg
      rw [e2, e, List.filterMap_cons, glass_comm, hg]
      exact cardSum_cons _ _ _ _
    · refine ⟨q', hq', e3.trans e1, ?_⟩
      have hg := h1.1
      rw [e1] at hg
      rw [e2, h1.2.1, List.filterMap_cons, glass_comm, hg]
      rfl
/-! ### ties told once -/
def Uni (ti : List (Str × Str × Int)) : Prop := ∀ n m, ∀ t ∈ ti, ∀ t' ∈ ti, between n m t → between n m t' → t.2.2 = t'.2.2
theorem Ties.uni {names : List Str} {F : List (Str × Str × Int)} (h : Ties names F) : Uni F := fun n m t ht t' ht' b b' => by
  have h1 : t ∈ F.filter fun t => decide (between n m t) := List.mem_filter.mpr ⟨ht, decide_eq_true b⟩
  have h2 : t' ∈ F.filter fun t => decide (between n m t) := List.mem_filter.mpr ⟨ht', decide_eq_true b'⟩
  have h3 := h.one n m
  revert h1 h2 h3
  generalize F.filter (fun t => decide (between n m t)) = L
  intro h1 h2 h3
  match L, h1, h2, h3 with
  | [x], h1, h2, _ =>
    rw [List.mem_singleton.mp h1, List.mem_singleton.mp h2]
theorem nbr_mem {ti : List (Str × Str × Int)} {n m : Str} {g : Int} : (m, g) ∈ nbr ti n ↔ ∃ t ∈ ti, between n m t ∧ t.2.2 = g := by
  unfold nbr between
  rw [List.mem_append, List.mem_map, List.mem_map]
  constructor
  · rintro (⟨t, h1, h2⟩ | ⟨t, h1, h2⟩)
    · obtain ⟨h3, h4⟩ := List.mem_filter.mp h1
      injection h2 with h5 h6
      exact ⟨t, h3, .inl ⟨(of_decide_eq_true h4).symm, h5.symm⟩, h6⟩
    · obtain ⟨h3, h4⟩ := List.mem_filter.mp h1
      injection h2 with h5 h6
      exact ⟨t, h3, .inr ⟨(of_decide_eq_true h4).symm, h5.symm⟩, h6⟩
  · rintro ⟨t, h1, ⟨h2, h3⟩ | ⟨h2, h3⟩, h4⟩
    · exact .inl ⟨t, List.mem_filter.mpr ⟨h1, decide_eq_true h2.symm⟩, by rw [h3, h4]⟩
    · exact .inr ⟨t, List.mem_filter.mpr ⟨h1, decide_eq_true h2.symm⟩, by rw [h3, h4]⟩
theorem glass_some {n m : Str} {ti : List (Str × Str × Int)} {g : Int} (h : glass n m ti = some g) : ∃ t ∈ ti, between n m t ∧ t.2.2 = g := by
  have : ∀ (ti : List (Str × Str × Int)) (o : Option Int), ti.foldl (fun acc t => if between n m t then some t.2.2 else acc) o = some g → o = some g ∨ ∃ t ∈ ti, between n m t ∧ t.2.2 = g := by
    intro ti
    induction ti with
    | nil => intro o h; exact .inl h
    | cons t l ih =>
      intro o h
      rw [List.foldl_cons] at h
      rcases ih _ h with z | ⟨t', h1, h2⟩
      · by_cases b : between n m t
        · rw [if_pos b] at z
          exact .inr ⟨t, List.mem_cons_self .., b, Option.some.inj z⟩
        · rw [if_neg b] at z
          exact .inl z
      · exact .inr ⟨t', List.mem_cons_of_mem _ h1, h2⟩
  rcases this ti none h with z | z
  · cases z
  · exact z
theorem glass_isSome {n m : Str} {ti : List (Str × Str × Int)} {t : Str × Str × Int} (ht : t ∈ ti) (b : between n m t) : ∃ g, glass n m ti = some g := by
  have : ∀ (ti : List (Str × Str × Int)) (o : Option Int), (o.isSome = true ∨ t ∈ ti) → (ti.foldl (fun acc t => if between n m t then some t.2.2 else acc) o).isSome = true := by
    intro ti
    induction ti with
    | nil => intro o h; rcases h with h | h; exact h; cases h
    | cons t' l ih =>
      intro o h
      rw [List.foldl_cons]
      apply ih
      rcases h with h | h
      · left
        by_cases b' : between n m t'
        · rw [if_pos b']; rfl
        · rw [if_neg b']; exact h
      · rcases List.mem_cons.mp h with e | e
        · left; rw [← e, if_pos b]; rfl
        · exact .inr e
  exact Option.isSome_iff_exists.mp (this ti none (.inr ht))
theorem glass_iff {ti : List (Str × Str × Int)} (u : Uni ti) {n m : Str} {g : Int} : glass n m ti = some g ↔ (m, g) ∈ nbr ti n := by
  rw [nbr_mem]
  constructor
  · exact glass_some
  · rintro ⟨t, ht, b, e⟩
    obtain ⟨g', hg⟩ := glass_isSome ht b
    obtain ⟨t', ht', b', e'⟩ := glass_some hg
    rw [hg, ← e', ← e, u n m t' ht' t ht b' b]
/-! ### stars -/
theorem may_star {h : Hall} (s : Sound h) {r : List Str} (nd : r.Nodup) (fr : ∀ n ∈ r, n ∈ freeOf h.pl) (no : ∀ n ∈ r, ∀ m ∈ r, glass n m h.ti = none) : May h r := by
  induction r generalizing h with
  | nil => trivial
  | cons n r ih =>
    rw [List.nodup_cons] at nd
    refine ⟨fr n (List.mem_cons_self ..), ih (s.behind n) nd.2 (fun m hm => ?_) fun a ha b hb => ?_⟩
    · have hne : ¬ m = n := fun z => nd.1 (z ▸ hm)
      obtain ⟨p, hp, e⟩ := List.mem_map.mp (fr m (List.mem_cons_of_mem _ hm))
      obtain ⟨hp1, hp2⟩ := List.mem_filter.mp hp
      refine List.mem_map.mpr ⟨p, List.mem_filter.mpr ⟨List.mem_filterMap.mpr ⟨p, hp1, ?_⟩, hp2⟩, e⟩
      unfold stepPl
      rw [e, no n (List.mem_cons_self ..) m (List.mem_cons_of_mem _ hm)]
      exact if_neg hne
    · have e := glass_away (n := n) (a := a) (b := b) (fun z => nd.1 (z ▸ ha)) (fun z => nd.1 (z ▸ hb)) h.ti
      exact e.trans (no a (List.mem_cons_of_mem _ ha) b (List.mem_cons_of_mem _ hb))
theorem altS_set {gs : List Int} {i : Nat} {v : Int} (h : i < gs.length) : altS (gs.set i v) = altS gs + (v - gs[i]) * sgn (gs.length - 1 - i) := by
  induction gs generalizing i with
  | nil => simp at h
  | cons g gs ih =>
    cases i with
    | zero =>
      simp only [List.set_cons_zero, altS, List.getElem_cons_zero, List.length_cons]
      rw [show gs.length + 1 - 1 - 0 = gs.length by omega]
      rcases sgn_cases gs.length with h | h <;> rw [h] <;> omega
    | succ i =>
      have hi : i < gs.length := by simpa using h
      simp only [List.set_cons_succ, altS, List.getElem_cons_succ, List.length_cons, List.length_set]
      rw [ih hi, show gs.length + 1 - 1 - (i + 1) = gs.length - 1 - i by omega]
      omega
theorem counted_eq_iff {w a b : Int} : counted w a = counted w b ↔ counted w (a - b) = 0 := by
  unfold counted
  by_cases h : w = 0
  · simp only [if_pos h]; omega
  · simp only [if_neg h]
    exact Int.emod_eq_emod_iff_emod_sub_eq_zero
theorem counted_neg0 {w a : Int} : counted w (-a) = 0 ↔ counted w a = 0 := by
  unfold counted
  by_cases h : w = 0
  · simp only [if_pos h]; omega
  · simp only [if_neg h]
    rw [← Int.dvd_iff_emod_eq_zero, ← Int.dvd_iff_emod_eq_zero, Int.dvd_neg]
/-- two glasses exchanged -/
def swapL {α : Type} (xs : List α) (i j : Nat) (a b : α) : List α := (xs.set i b).set j a
theorem altS_swap {gs : List Int} {i j : Nat} (hi : i < gs.length) (hj : j < gs.length) : altS (swapL gs i j gs[i] gs[j]) = altS gs + (gs[j] - gs[i]) * (sgn (gs.length - 1 - i) - sgn (gs.length - 1 - j)) := by
  unfold swapL
  rw [altS_set (by simpa using hj), altS_set hi, List.getElem_set]
  simp only [List.length_set]
  by_cases e : i = j
  · subst e
    simp
  · rw [if_neg e]
    rcases sgn_cases (gs.length - 1 - i) with h1 | h1 <;> rcases sgn_cases (gs.length - 1 - j) with h2 | h2 <;> rw [h1, h2] <;> omega
theorem swap_law {w : Int} {c : Int × Int} {gs : List Int} {i j : Nat} (hi : i < gs.length) (hj : j < gs.length) : (cardSum w c gs = cardSum w c (swapL gs i j gs[i] gs[j])) ↔ (((i : Int) - (j : Int)) % 2 = 0 ∨ counted w (2 * (gs[i] - gs[j])) = 0) := by
  have hl : (swapL gs i j gs[i] gs[j]).length = gs.length := by simp [swapL]
  unfold cardSum
  rw [hl, altS_swap hi hj, Prod.mk.injEq, eq_self, true_and, counted_eq_iff]
  have par : (((i : Int) - (j : Int)) % 2 = 0 ∧ sgn (gs.length - 1 - i) = sgn (gs.length - 1 - j)) ∨ (¬ ((i : Int) - (j : Int)) % 2 = 0 ∧ sgn (gs.length - 1 - i) = - sgn (gs.length - 1 - j)) := by
    unfold sgn
    omega
  rcases par with ⟨p1, p2⟩ | ⟨p1, p2⟩
  · refine ⟨fun _ => .inl p1, fun _ => ?_⟩
    rw [p2, Int.sub_self, Int.mul_zero, Int.add_zero, Int.sub_self]
    unfold counted
    by_cases h : w = 0
    · rw [if_pos h]
    · rw [if_neg h]; exact Int.zero_emod w
  · have e : ∀ a : Int, a - (a + (gs[j] - gs[i]) * (sgn (gs.length - 1 - i) - sgn (gs.length - 1 - j))) = 2 * (gs[i] - gs[j]) ∨ a - (a + (gs[j] - gs[i]) * (sgn (gs.length - 1 - i) - sgn (gs.length - 1 - j))) = -(2 * (gs[i] - gs[j])) := fun a => by
      rw [p2]
      rcases sgn_cases (gs.length - 1 - j) with h | h <;> rw [h] <;> omega
    have key : counted w (c.2 * sgn gs.length + altS gs - (c.2 * sgn gs.length + (altS gs + (gs[j] - gs[i]) * (sgn (gs.length - 1 - i) - sgn (gs.length - 1 - j))))) = 0 ↔ counted w (2 * (gs[i] - gs[j])) = 0 := by
      rw [show c.2 * sgn gs.length + (altS gs + (gs[j] - gs[i]) * (sgn (gs.length - 1 - i) - sgn (gs.length - 1 - j))) = c.2 * sgn gs.length + altS gs + (gs[j] - gs[i]) * (sgn (gs.length - 1 - i) - sgn (gs.length - 1 - j)) by omega]
      rcases e (c.2 * sgn gs.length + altS gs) with h | h <;> rw [h]
      exact counted_neg0
    rw [key]
    exact ⟨.inr, fun h => h.resolve_left p1⟩
end K13



set_option Elab.async false
set_option linter.all false
set_option maxRecDepth 100000
set_option maxHeartbeats 1000000
set_option pp.deepTerms false
set_option pp.deepTerms.threshold 6
set_option pp.oneline false
set_option pp.proofs false
namespace K13
open PySem PySem.Spec PyProof.Rows L2 DL
set_option hygiene false
local macro_rules | `(tactic| walk_at "vw") => `(tactic| first
  | (with_reducible show Vw _ (Cell.fz _) _); exact Vw.fz _
  | (with_reducible show Vw _ (Cell.al _) _); exact Vw.al rfl
  | (with_reducible show Vw _ (Cell.ow _) _); exact Vw.ow _ rfl
  | exact Vw.fz _
  | exact Vw.al rfl
  | exact Vw.ow _ rfl)
local macro_rules | `(tactic| walk_at "puts") => `(tactic| repeat (first | exact DL.Puts.nil | refine DL.Puts.cons rfl (loc_b rfl) (fn_b rfl) rfl ?_))
local macro_rules | `(tactic| walk_at "blk") => `(tactic| exact ⟨rfl, by decide +kernel, by decide +kernel, by decide +kernel, by decide +kernel⟩)
local macro_rules | `(tactic| walk_at "vis") => `(tactic| first
  | exact vis_b rfl
  | exact Or.inl rfl
  | exact Or.inr (Or.inl rfl)
  | exact Or.inr (Or.inr rfl))
local macro_rules | `(tactic| walk_at "side") => `(tactic| first
  | assumption
  | omega
  | (simp only [List.length_set, List.length_cons, List.length_nil]; omega)
  | (simp only [DL.setAll, List.length_set, List.length_cons, List.length_nil]; omega)
  | exact fun j z => (nomatch z)
  | (refine Or.inl ⟨?_, ?_⟩ <;> omega)
  | (refine Or.inr ⟨?_, ?_⟩ <;> omega)
  | decide
  | ((with_reducible show _ = _); rfl))
local macro_rules | `(tactic| walk_at "var") => `(tactic| first
  | refine de_var (i := 0) rfl (by walk_at "vis") rfl ?_ | refine de_var_ow (i := 0) (by decide) rfl (by walk_at "vis") rfl ?_
  | refine de_var (i := 1) rfl (by walk_at "vis") rfl ?_ | refine de_var_ow (i := 1) (by decide) rfl (by walk_at "vis") rfl ?_
  | refine de_var (i := 2) rfl (by walk_at "vis") rfl ?_ | refine de_var_ow (i := 2) (by decide) rfl (by walk_at "vis") rfl ?_
  | refine de_var (i := 3) rfl (by walk_at "vis") rfl ?_ | refine de_var_ow (i := 3) (by decide) rfl (by walk_at "vis") rfl ?_
  | refine de_var (i := 4) rfl (by walk_at "vis") rfl ?_ | refine de_var_ow (i := 4) (by decide) rfl (by walk_at "vis") rfl ?_
  | refine de_var (i := 5) rfl (by walk_at "vis") rfl ?_ | refine de_var_ow (i := 5) (by decide) rfl (by walk_at "vis") rfl ?_
  | refine de_var (i := 6) rfl (by walk_at "vis") rfl ?_ | refine de_var_ow (i := 6) (by decide) rfl (by walk_at "vis") rfl ?_
  | refine de_var (i := 7) rfl (by walk_at "vis") rfl ?_ | refine de_var_ow (i := 7) (by decide) rfl (by walk_at "vis") rfl ?_
  | refine de_var (i := 8) rfl (by walk_at "vis") rfl ?_ | refine de_var_ow (i := 8) (by decide) rfl (by walk_at "vis") rfl ?_
  | refine de_var (i := 9) rfl (by walk_at "vis") rfl ?_ | refine de_var_ow (i := 9) (by decide) rfl (by walk_at "vis") rfl ?_
  | refine de_var (i := 10) rfl (by walk_at "vis") rfl ?_ | refine de_var_ow (i := 10) (by decide) rfl (by walk_at "vis") rfl ?_
  | refine de_var (i := 11) rfl (by walk_at "vis") rfl ?_ | refine de_var_ow (i := 11) (by decide) rfl (by walk_at "vis") rfl ?_
  | refine de_var (i := 12) rfl (by walk_at "vis") rfl ?_ | refine de_var_ow (i := 12) (by decide) rfl (by walk_at "vis") rfl ?_
  | refine de_var (i := 13) rfl (by walk_at "vis") rfl ?_ | refine de_var_ow (i := 13) (by decide) rfl (by walk_at "vis") rfl ?_
  | refine de_var (i := 14) rfl (by walk_at "vis") rfl ?_ | refine de_var_ow (i := 14) (by decide) rfl (by walk_at "vis") rfl ?_
  | refine de_var (i := 15) rfl (by walk_at "vis") rfl ?_ | refine de_var_ow (i := 15) (by decide) rfl (by walk_at "vis") rfl ?_
  | refine de_var (i := 16) rfl (by walk_at "vis") rfl ?_ | refine de_var_ow (i := 16) (by decide) rfl (by walk_at "vis") rfl ?_)
local macro_rules | `(tactic| walk_at "const") => `(tactic| first
  | with_reducible refine de_int ?_
  | with_reducible refine de_str ?_
  | with_reducible refine de_bl ?_
  | with_reducible refine de_non ?_)
local macro_rules | `(tactic| walk_at "e1") => `(tactic| first
  | (with_reducible show DE _ _ (Expr.Name _ _) _ _); walk_at "var"
  | (with_reducible show DE _ _ (Expr.Constant _ _ _) _ _); walk_at "const"
  | (with_reducible show DE _ _ (Expr.Call (Expr.Name _ _) _ [] _) _ _); walk_at "bi"
  | with_reducible refine de_add ?_
  | with_reducible refine de_sub ?_
  | with_reducible refine de_mul ?_
  | with_reducible refine de_mod ?_
  | with_reducible refine de_div ?_
  | with_reducible refine de_pow ?_
  | with_reducible refine de_neg ?_
  | with_reducible refine de_tuple ?_
  | with_reducible refine de_list ?_
  | with_reducible refine de_ifExp ?_
  | with_reducible refine de_not ?_
  | with_reducible refine de_bool1 ?_
  | with_reducible refine de_and ?_
  | with_reducible refine de_or ?_
  | with_reducible refine de_revL ?_
  | with_reducible refine de_slice ?_
  | (with_reducible show DE _ _ (Expr.Subscript _ _ _) _ _); refine de_ix hu1 (fun _ _ => rfl) ?_
  | (with_reducible show DE _ _ (Expr.Compare _ [CmpOp.Is] _ _) _ _); refine de_isN ?_
  | (with_reducible show DE _ _ (Expr.Compare _ [CmpOp.Eq] _ _) _ _); refine de_cmp (op_eqAll hu) (nobehind _ (by decide) (by decide)) ?_
  | (with_reducible show DE _ _ (Expr.Compare _ [CmpOp.NotEq] _ _) _ _); refine de_cmp (op_neAll hu) (nobehind _ (by decide) (by decide)) ?_
  | (with_reducible show DE _ _ (Expr.Compare _ [CmpOp.Lt] _ _) _ _); refine de_cmp op_ltAll (nobehind _ (by decide) (by decide)) ?_
  | (with_reducible show DE _ _ (Expr.Compare _ [CmpOp.LtE] _ _) _ _); refine de_cmp op_leAll (nobehind _ (by decide) (by decide)) ?_
  | (with_reducible show DE _ _ (Expr.Compare _ [CmpOp.Gt] _ _) _ _); refine de_cmp op_gtAll (nobehind _ (by decide) (by decide)) ?_
  | (with_reducible show DE _ _ (Expr.Compare _ [CmpOp.GtE] _ _) _ _); refine de_cmp op_geAll (nobehind _ (by decide) (by decide)) ?_
  | (with_reducible show DE _ _ (Expr.Compare _ [CmpOp.In] _ _) _ _); refine de_cmp (op_inAll hu1) rfl ?_
  | (with_reducible show DE _ _ (Expr.Compare _ [CmpOp.NotIn] _ _) _ _); refine de_cmp (op_notInAll hu1) rfl ?_
  | (with_reducible show DE _ _ (Expr.Call (Expr.Attribute _ "append" _) [_] _ _) _ _); refine de_append ?_
  | (with_reducible show DE _ _ (Expr.Call (Expr.Attribute _ "pop" _) [_] _ _) _ _); refine de_popAt ?_
  | (with_reducible show DE _ _ (Expr.Call (Expr.Attribute _ "join" _) [_] _ _) _ _); refine de_join ?_)
local macro_rules | `(tactic| walk_at "bi") => `(tactic| first
  | (with_reducible show DE _ _ (Expr.Call (Expr.Name "isinstance" _) [_, Expr.Name "list" _] [] _) _ _); refine de_isi1 rfl n_isinstance rfl n_list boot_list ?_
  | (with_reducible show DE _ _ (Expr.Call (Expr.Name "isinstance" _) [_, Expr.Name "tuple" _] [] _) _ _); refine de_isi1 rfl n_isinstance rfl n_tuple boot_tuple ?_
  | (with_reducible show DE _ _ (Expr.Call (Expr.Name "isinstance" _) [_, Expr.Name "str" _] [] _) _ _); refine de_isi1 rfl n_isinstance rfl n_str boot_str ?_
  | (with_reducible show DE _ _ (Expr.Call (Expr.Name "isinstance" _) [_, Expr.Name "bool" _] [] _) _ _); refine de_isi1 rfl n_isinstance rfl n_bool boot_bool ?_
  | (with_reducible show DE _ _ (Expr.Call (Expr.Name "isinstance" _) [_, Expr.Name "int" _] [] _) _ _); refine de_isi1 rfl n_isinstance rfl n_int boot_int ?_
  | (with_reducible show DE _ _ (Expr.Call (Expr.Name "isinstance" _) [_, Expr.Tuple [Expr.Name "list" _, Expr.Name "tuple" _] _ _] [] _) _ _); refine de_isi2 rfl n_isinstance rfl n_list boot_list rfl n_tuple boot_tuple ?_
  | (with_reducible show DE _ _ (Expr.Call (Expr.Name "isinstance" _) [_, Expr.Tuple [Expr.Name "str" _, Expr.Name "bool" _] _ _] [] _) _ _); refine de_isi2 rfl n_isinstance rfl n_str boot_str rfl n_bool boot_bool ?_
  | (with_reducible show DE _ _ (Expr.Call (Expr.Name "len" _) _ [] _) _ _); refine de_callB call_lenA rfl n_len boot_len ?_
  | (with_reducible show DE _ _ (Expr.Call (Expr.Name "abs" _) _ [] _) _ _); refine de_callB call_abs rfl n_abs boot_abs ?_
  | (with_reducible show DE _ _ (Expr.Call (Expr.Name "int" _) _ [] _) _ _); refine de_callTy call_int1 rfl n_int boot_int ?_
  | (with_reducible show DE _ _ (Expr.Call (Expr.Name "list" _) _ [] _) _ _); refine de_callTy call_list_of rfl n_list boot_list ?_
  | (with_reducible show DE _ _ (Expr.Call (Expr.Name "tuple" _) _ [] _) _ _); refine de_callTy call_tuple_of rfl n_tuple boot_tuple ?_
  | (with_reducible show DE _ _ (Expr.Call (Expr.Name "sorted" _) _ [] _) _ _); refine de_callB (cr_sortD hu) rfl n_sorted boot_sorted ?_
  | (with_reducible show DE _ _ (Expr.Call (Expr.Name "sum" _) _ [] _) _ _); refine de_callB (cr_sum rfl) rfl n_sum boot_sum ?_
  | (with_reducible show DE _ _ (Expr.Call (Expr.Name "all" _) _ [] _) _ _); refine de_callB (cr_all rfl) rfl n_all boot_all ?_
  | (with_reducible show DE _ _ (Expr.Call (Expr.Name "any" _) _ [] _) _ _); refine de_callB (cr_any rfl) rfl n_any boot_any ?_
  | (with_reducible show DE _ _ (Expr.Call (Expr.Name "min" _) _ [] _) _ _); refine de_callB (call_minA rfl) rfl n_min boot_min ?_
  | (with_reducible show DE _ _ (Expr.Call (Expr.Name "max" _) _ [] _) _ _); refine de_callB (call_maxA rfl) rfl n_max boot_max ?_
  | (with_reducible show DE _ _ (Expr.Call (Expr.Name "dict" _) _ [] _) _ _); refine de_callTy (call_dictP rfl) rfl n_dict boot_dict ?_)
local macro_rules | `(tactic| walk_at "oa") => `(tactic| first
  | refine len_c (by walk_at "vw") (by first | exact Ln.lst _ | exact Ln.tup _ | exact Ln.dk _) ?_
  | refine abs_c (.fz _) ?_
  | refine int_b (.fz _) ?_
  | refine int_i (.fz _) ?_
  | refine list_t (.fz _) ?_
  | refine list_l (by walk_at "vw") ?_
  | refine tuple_t (.fz _) ?_
  | refine tuple_l (by walk_at "vw") ?_
  | refine mm_str (.fz _) (.fz _) ?_
  | refine mm_int (.fz _) (.fz _) ?_)
local macro_rules | `(tactic| walk_at "t1") => `(tactic| first
  | (with_reducible show DT _ _ (Expr.Compare _ [CmpOp.Is] _ _) _ _); refine dt_isN ?_
  | (with_reducible show DT _ _ (Expr.Compare _ [CmpOp.Eq] _ _) _ _); refine dt_cmp (op_eqAll hu) (nobehind _ (by decide) (by decide)) ?_
  | (with_reducible show DT _ _ (Expr.Compare _ [CmpOp.NotEq] _ _) _ _); refine dt_cmp (op_neAll hu) (nobehind _ (by decide) (by decide)) ?_
  | (with_reducible show DT _ _ (Expr.Compare _ [CmpOp.Lt] _ _) _ _); refine dt_cmp op_ltAll (nobehind _ (by decide) (by decide)) ?_
  | (with_reducible show DT _ _ (Expr.Compare _ [CmpOp.LtE] _ _) _ _); refine dt_cmp op_leAll (nobehind _ (by decide) (by decide)) ?_
  | (with_reducible show DT _ _ (Expr.Compare _ [CmpOp.Gt] _ _) _ _); refine dt_cmp op_gtAll (nobehind _ (by decide) (by decide)) ?_
  | (with_reducible show DT _ _ (Expr.Compare _ [CmpOp.GtE] _ _) _ _); refine dt_cmp op_geAll (nobehind _ (by decide) (by decide)) ?_
  | (with_reducible show DT _ _ (Expr.Compare _ [CmpOp.In] _ _) _ _); refine dt_cmp (op_inAll hu1) rfl ?_
  | (with_reducible show DT _ _ (Expr.Compare _ [CmpOp.NotIn] _ _) _ _); refine dt_cmp (op_notInAll hu1) rfl ?_
  | with_reducible refine dt_not ?_
  | with_reducible refine dt_bool ?_
  | (with_reducible show DT _ _ (Expr.Call _ _ _ _) _ _); refine dt_val ?_)
local macro_rules | `(tactic| walk_at "w1") => `(tactic| first
  | with_reducible refine dw_and1 ?_
  | with_reducible refine dw_or1 ?_
  | with_reducible refine dw_and ?_
  | with_reducible refine dw_or ?_)
local macro_rules | `(tactic| walk_at "a1") => `(tactic| first
  | with_reducible refine da_nil ?_
  | refine da_cons ?_)
local macro_rules | `(tactic| walk_at "o2") => `(tactic| first
  | (with_reducible show Op2 _ _ (rAddAll _) _ _ _ _); first | refine add_int (.fz _) (.fz _) ?_ | refine add_str (.fz _) (.fz _) (by walk_at "side") ?_ | refine add_tup (.fz _) (.fz _) (by walk_at "side") ?_ | refine add_lst (by walk_at "vw") (by walk_at "vw") (by walk_at "side") ?_
  | (with_reducible show Op2 _ _ (rIxAll _) _ _ _ _); first | refine ix_tpl (.fz _) (.fz _) rfl ?_ | refine ix_lst (by walk_at "vw") (.fz _) rfl ?_ | refine ix_tpl (.fz _) (.fz _) (by assumption) ?_ | refine ix_lst (by walk_at "vw") (.fz _) (by assumption) ?_ | refine ix_dk (by walk_at "vw") (.fz _) (k := .inr _) rfl (by assumption) ?_
  | (with_reducible show Op2 _ _ (rEqAll _) _ _ _ _); first | refine eq_int (.fz _) (.fz _) ?_ | refine eq_str (.fz _) (.fz _) ?_ | refine eq_bl (.fz _) (.fz _) ?_
  | (with_reducible show Op2 _ _ (rNeAll _) _ _ _ _); first | refine ne_int (.fz _) (.fz _) ?_ | refine ne_str (.fz _) (.fz _) ?_ | refine ne_bl (.fz _) (.fz _) ?_
  | refine op_ib0 (.fz _) (.fz _) ?_
  | refine lt_int (.fz _) (.fz _) ?_
  | refine lt_str (.fz _) (.fz _) ?_
  | refine in_dk (by walk_at "vw") (by walk_at "vw") rfl ?_)
local macro_rules | `(tactic| walk_at "o1") => `(tactic| first
  | refine cut_t (.fz _) ?_
  | refine cut_l (by walk_at "vw") ?_)
local macro_rules | `(tactic| walk_at "x1") => `(tactic| first
  | (with_reducible show ∃ ds, AllFz _ ds ∧ _); first | refine ⟨_, (.cons (.cons .nil)), ?_⟩ | refine ⟨_, (.cons .nil), ?_⟩ | refine ⟨_, (.cons (.cons (.cons .nil))), ?_⟩ | refine ⟨_, (.cons (.cons (.cons (.cons .nil)))), ?_⟩ | refine ⟨_, .nil, ?_⟩ | refine ⟨_, (.cons (.cons (.cons (.cons (.cons .nil))))), ?_⟩ | refine ⟨_, (.cons (.cons (.cons (.cons (.cons (.cons .nil)))))), ?_⟩ | refine ⟨_, (.cons (.cons (.cons (.cons (.cons (.cons (.cons .nil))))))), ?_⟩
  | refine ⟨_, _, .fz _, rfl, kb_list rfl, ?_⟩
  | refine ⟨_, _, .fz _, rfl, kb_tuple rfl, ?_⟩
  | refine ⟨_, _, .fz _, rfl, kb_str rfl, ?_⟩
  | refine ⟨_, _, .fz _, rfl, kb_bool rfl, ?_⟩
  | refine ⟨_, _, .fz _, rfl, kb_int rfl, ?_⟩
  | refine ⟨_, _, _, .fz _, rfl, kb_list rfl, kb_tuple rfl, ?_⟩
  | refine ⟨_, _, _, .fz _, rfl, kb_str rfl, kb_bool rfl, ?_⟩
  | refine ⟨_, _, _, rfl, rfl, Put.lst rfl, ?_⟩
  | refine ⟨_, _, .fz _, .fz _, ?_⟩
  | refine ⟨_, .fz _, ?_⟩
  | refine ⟨_, rfl, ?_⟩
  | refine ⟨_, _, rfl, rfl, ?_⟩)
local macro_rules | `(tactic| walk_at "set") => `(tactic| first
  | refine ds_set (i := 0) nd rfl (by first | exact loc_b rfl | exact Or.inl rfl | exact Or.inr rfl) (by decide) ?_ (hf := by first | exact fn_b rfl | exact .inl rfl | exact .inr rfl)
  | refine ds_set (i := 1) nd rfl (by first | exact loc_b rfl | exact Or.inl rfl | exact Or.inr rfl) (by decide) ?_ (hf := by first | exact fn_b rfl | exact .inl rfl | exact .inr rfl)
  | refine ds_set (i := 2) nd rfl (by first | exact loc_b rfl | exact Or.inl rfl | exact Or.inr rfl) (by decide) ?_ (hf := by first | exact fn_b rfl | exact .inl rfl | exact .inr rfl)
  | refine ds_set (i := 3) nd rfl (by first | exact loc_b rfl | exact Or.inl rfl | exact Or.inr rfl) (by decide) ?_ (hf := by first | exact fn_b rfl | exact .inl rfl | exact .inr rfl)
  | refine ds_set (i := 4) nd rfl (by first | exact loc_b rfl | exact Or.inl rfl | exact Or.inr rfl) (by decide) ?_ (hf := by first | exact fn_b rfl | exact .inl rfl | exact .inr rfl)
  | refine ds_set (i := 5) nd rfl (by first | exact loc_b rfl | exact Or.inl rfl | exact Or.inr rfl) (by decide) ?_ (hf := by first | exact fn_b rfl | exact .inl rfl | exact .inr rfl)
  | refine ds_set (i := 6) nd rfl (by first | exact loc_b rfl | exact Or.inl rfl | exact Or.inr rfl) (by decide) ?_ (hf := by first | exact fn_b rfl | exact .inl rfl | exact .inr rfl)
  | refine ds_set (i := 7) nd rfl (by first | exact loc_b rfl | exact Or.inl rfl | exact Or.inr rfl) (by decide) ?_ (hf := by first | exact fn_b rfl | exact .inl rfl | exact .inr rfl)
  | refine ds_set (i := 8) nd rfl (by first | exact loc_b rfl | exact Or.inl rfl | exact Or.inr rfl) (by decide) ?_ (hf := by first | exact fn_b rfl | exact .inl rfl | exact .inr rfl)
  | refine ds_set (i := 9) nd rfl (by first | exact loc_b rfl | exact Or.inl rfl | exact Or.inr rfl) (by decide) ?_ (hf := by first | exact fn_b rfl | exact .inl rfl | exact .inr rfl)
  | refine ds_set (i := 10) nd rfl (by first | exact loc_b rfl | exact Or.inl rfl | exact Or.inr rfl) (by decide) ?_ (hf := by first | exact fn_b rfl | exact .inl rfl | exact .inr rfl)
  | refine ds_set (i := 11) nd rfl (by first | exact loc_b rfl | exact Or.inl rfl | exact Or.inr rfl) (by decide) ?_ (hf := by first | exact fn_b rfl | exact .inl rfl | exact .inr rfl)
  | refine ds_set (i := 12) nd rfl (by first | exact loc_b rfl | exact Or.inl rfl | exact Or.inr rfl) (by decide) ?_ (hf := by first | exact fn_b rfl | exact .inl rfl | exact .inr rfl)
  | refine ds_set (i := 13) nd rfl (by first | exact loc_b rfl | exact Or.inl rfl | exact Or.inr rfl) (by decide) ?_ (hf := by first | exact fn_b rfl | exact .inl rfl | exact .inr rfl)
  | refine ds_set (i := 14) nd rfl (by first | exact loc_b rfl | exact Or.inl rfl | exact Or.inr rfl) (by decide) ?_ (hf := by first | exact fn_b rfl | exact .inl rfl | exact .inr rfl)
  | refine ds_set (i := 15) nd rfl (by first | exact loc_b rfl | exact Or.inl rfl | exact Or.inr rfl) (by decide) ?_ (hf := by first | exact fn_b rfl | exact .inl rfl | exact .inr rfl)
  | refine ds_set (i := 16) nd rfl (by first | exact loc_b rfl | exact Or.inl rfl | exact Or.inr rfl) (by decide) ?_ (hf := by first | exact fn_b rfl | exact .inl rfl | exact .inr rfl))
local macro_rules | `(tactic| walk_at "s1") => `(tactic| first
  | (with_reducible show DS _ _ (Stmt.Assign [Expr.Name _ _] _ _) _ _); walk_at "set"
  | with_reducible refine ds_ret ?_
  | with_reducible refine ds_if ?_
  | refine ds_store hu1 ?_
  | (with_reducible show DS _ _ (Stmt.Expr _ _) _ _); refine ds_expr ?_)
local macro_rules | `(tactic| walk_at "ss1") => `(tactic| first
  | refine dss_cons ?_
  | refine dss_nil ?_)
local macro_rules | `(tactic| walk_at "d1") => `(tactic| first
  | (with_reducible show DE _ _ _ _ _); walk_at "e1"
  | (with_reducible show Op2 _ _ _ _ _ _ _); walk_at "o2"
  | (with_reducible show DA _ _ _ _ _); walk_at "a1"
  | (with_reducible show DT _ _ _ _ _); walk_at "t1"
  | (with_reducible show DTs _ _ _ _ _); first | with_reducible refine dts_one ?_ | with_reducible refine dts_nil ?_
  | (with_reducible show DO _ _ _ _ _); first | with_reducible refine do_none ?_ | with_reducible refine do_some ?_
  | (with_reducible show DW _ _ _ _ _); walk_at "w1"
  | (with_reducible show DSs _ _ _ _ _); walk_at "ss1"
  | (with_reducible show DS _ _ _ _ _); walk_at "s1"
  | (with_reducible show Op1 _ _ _ _ _ _); walk_at "o1"
  | (with_reducible show OpA _ _ _ _ _ _); walk_at "oa"
  | (with_reducible show ∃ _, _); walk_at "x1"
  | (with_reducible show DEnds.nx _ _); dsimp only
  | (with_reducible show if _ = true then _ else _); first | refine if_t rfl ?_ | refine if_f rfl ?_
  | (with_reducible show DEnds.rt _ _ _); dsimp only
  | (with_reducible show _ ∧ _); refine ⟨(by walk_at "side"), ?_⟩)
local macro_rules | `(tactic| walk_at "d") => `(tactic| repeat walk_at "d1")
local macro_rules | `(tactic| walk_at "var") => `(tactic| first
  | (with_reducible show DE _ _ (Expr.Name "_law_box_here" _) _ _); first | refine de_var (i := 0) rfl (by walk_at "vis") rfl ?_ | refine de_var_ow (i := 0) (by decide) rfl (by walk_at "vis") rfl ?_
  | (with_reducible show DE _ _ (Expr.Name "_law_amount" _) _ _); first | refine de_var (i := 1) rfl (by walk_at "vis") rfl ?_ | refine de_var_ow (i := 1) (by decide) rfl (by walk_at "vis") rfl ?_
  | (with_reducible show DE _ _ (Expr.Name "_law_size" _) _ _); first | refine de_var (i := 2) rfl (by walk_at "vis") rfl ?_ | refine de_var_ow (i := 2) (by decide) rfl (by walk_at "vis") rfl ?_
  | (with_reducible show DE _ _ (Expr.Name "_law_callings_here" _) _ _); first | refine de_var (i := 3) rfl (by walk_at "vis") rfl ?_ | refine de_var_ow (i := 3) (by decide) rfl (by walk_at "vis") rfl ?_
  | (with_reducible show DE _ _ (Expr.Name "_law_links_here" _) _ _); first | refine de_var (i := 4) rfl (by walk_at "vis") rfl ?_ | refine de_var_ow (i := 4) (by decide) rfl (by walk_at "vis") rfl ?_
  | (with_reducible show DE _ _ (Expr.Name "_law_led" _) _ _); first | refine de_var (i := 5) rfl (by walk_at "vis") rfl ?_ | refine de_var_ow (i := 5) (by decide) rfl (by walk_at "vis") rfl ?_
  | (with_reducible show DE _ _ (Expr.Name "_law_spots" _) _ _); first | refine de_var (i := 6) rfl (by walk_at "vis") rfl ?_ | refine de_var_ow (i := 6) (by decide) rfl (by walk_at "vis") rfl ?_
  | (with_reducible show DE _ _ (Expr.Name "_law_ahead" _) _ _); first | refine de_var (i := 7) rfl (by walk_at "vis") rfl ?_ | refine de_var_ow (i := 7) (by decide) rfl (by walk_at "vis") rfl ?_
  | (with_reducible show DE _ _ (Expr.Name "_law_left" _) _ _); first | refine de_var (i := 8) rfl (by walk_at "vis") rfl ?_ | refine de_var_ow (i := 8) (by decide) rfl (by walk_at "vis") rfl ?_
  | (with_reducible show DE _ _ (Expr.Name "_law_total" _) _ _); first | refine de_var (i := 9) rfl (by walk_at "vis") rfl ?_ | refine de_var_ow (i := 9) (by decide) rfl (by walk_at "vis") rfl ?_
  | (with_reducible show DE _ _ (Expr.Name "_law_who" _) _ _); first | refine de_var (i := 10) rfl (by walk_at "vis") rfl ?_ | refine de_var_ow (i := 10) (by decide) rfl (by walk_at "vis") rfl ?_
  | (with_reducible show DE _ _ (Expr.Name "_law_turn" _) _ _); first | refine de_var (i := 11) rfl (by walk_at "vis") rfl ?_ | refine de_var_ow (i := 11) (by decide) rfl (by walk_at "vis") rfl ?_
  | (with_reducible show DE _ _ (Expr.Name "_law_whom" _) _ _); first | refine de_var (i := 12) rfl (by walk_at "vis") rfl ?_ | refine de_var_ow (i := 12) (by decide) rfl (by walk_at "vis") rfl ?_
  | (with_reducible show DE _ _ (Expr.Name "_law_a" _) _ _); first | refine de_var (i := 13) rfl (by walk_at "vis") rfl ?_ | refine de_var_ow (i := 13) (by decide) rfl (by walk_at "vis") rfl ?_
  | (with_reducible show DE _ _ (Expr.Name "_law_b" _) _ _); first | refine de_var (i := 14) rfl (by walk_at "vis") rfl ?_ | refine de_var_ow (i := 14) (by decide) rfl (by walk_at "vis") rfl ?_
  | (with_reducible show DE _ _ (Expr.Name "_law_glass" _) _ _); first | refine de_var (i := 15) rfl (by walk_at "vis") rfl ?_ | refine de_var_ow (i := 15) (by decide) rfl (by walk_at "vis") rfl ?_)
local macro_rules | `(tactic| walk_at "set") => `(tactic| first
  | (with_reducible show DS _ _ (Stmt.Assign [Expr.Name "_law_box_here" _] _ _) _ _); refine ds_set (i := 0) nd rfl (loc_b rfl) (by decide) ?_ (hf := fn_b rfl)
  | (with_reducible show DS _ _ (Stmt.Assign [Expr.Name "_law_amount" _] _ _) _ _); refine ds_set (i := 1) nd rfl (loc_b rfl) (by decide) ?_ (hf := fn_b rfl)
  | (with_reducible show DS _ _ (Stmt.Assign [Expr.Name "_law_size" _] _ _) _ _); refine ds_set (i := 2) nd rfl (loc_b rfl) (by decide) ?_ (hf := fn_b rfl)
  | (with_reducible show DS _ _ (Stmt.Assign [Expr.Name "_law_callings_here" _] _ _) _ _); refine ds_set (i := 3) nd rfl (loc_b rfl) (by decide) ?_ (hf := fn_b rfl)
  | (with_reducible show DS _ _ (Stmt.Assign [Expr.Name "_law_links_here" _] _ _) _ _); refine ds_set (i := 4) nd rfl (loc_b rfl) (by decide) ?_ (hf := fn_b rfl)
  | (with_reducible show DS _ _ (Stmt.Assign [Expr.Name "_law_led" _] _ _) _ _); refine ds_set (i := 5) nd rfl (loc_b rfl) (by decide) ?_ (hf := fn_b rfl)
  | (with_reducible show DS _ _ (Stmt.Assign [Expr.Name "_law_spots" _] _ _) _ _); refine ds_set (i := 6) nd rfl (loc_b rfl) (by decide) ?_ (hf := fn_b rfl)
  | (with_reducible show DS _ _ (Stmt.Assign [Expr.Name "_law_ahead" _] _ _) _ _); refine ds_set (i := 7) nd rfl (loc_b rfl) (by decide) ?_ (hf := fn_b rfl)
  | (with_reducible show DS _ _ (Stmt.Assign [Expr.Name "_law_left" _] _ _) _ _); refine ds_set (i := 8) nd rfl (loc_b rfl) (by decide) ?_ (hf := fn_b rfl)
  | (with_reducible show DS _ _ (Stmt.Assign [Expr.Name "_law_total" _] _ _) _ _); refine ds_set (i := 9) nd rfl (loc_b rfl) (by decide) ?_ (hf := fn_b rfl)
  | (with_reducible show DS _ _ (Stmt.Assign [Expr.Name "_law_who" _] _ _) _ _); refine ds_set (i := 10) nd rfl (loc_b rfl) (by decide) ?_ (hf := fn_b rfl)
  | (with_reducible show DS _ _ (Stmt.Assign [Expr.Name "_law_turn" _] _ _) _ _); refine ds_set (i := 11) nd rfl (loc_b rfl) (by decide) ?_ (hf := fn_b rfl)
  | (with_reducible show DS _ _ (Stmt.Assign [Expr.Name "_law_whom" _] _ _) _ _); refine ds_set (i := 12) nd rfl (loc_b rfl) (by decide) ?_ (hf := fn_b rfl)
  | (with_reducible show DS _ _ (Stmt.Assign [Expr.Name "_law_a" _] _ _) _ _); refine ds_set (i := 13) nd rfl (loc_b rfl) (by decide) ?_ (hf := fn_b rfl)
  | (with_reducible show DS _ _ (Stmt.Assign [Expr.Name "_law_b" _] _ _) _ _); refine ds_set (i := 14) nd rfl (loc_b rfl) (by decide) ?_ (hf := fn_b rfl)
  | (with_reducible show DS _ _ (Stmt.Assign [Expr.Name "_law_glass" _] _ _) _ _); refine ds_set (i := 15) nd rfl (loc_b rfl) (by decide) ?_ (hf := fn_b rfl))
section
variable {P : Program} {w : World} {K : PySem.W.Frag} {mg : Str → Option Value} {base : Heap} {f : Addr} {fd : FuncData}
/-- a hall as the law lays it -/
structure Laid (h : Hall) (n : Nat) : Prop where
  w : 0 ≤ h.w
  names : Names (namesOf h) n
  good : Good h
  ties : Ties (namesOf h) h.ti
  ti : h.ti.length ≤ 26
  n26 : n ≤ 26
theorem Laid.sound {h : Hall} {n : Nat} (l : Laid h n) : Sound h where
  pl := by have := l.names.len; have := l.n26; unfold namesOf at *; simp at *; omega
  ti := by have := l.ti; omega
  nd := l.names.nd
  mem := l.ties.mem
  ne := l.ties.ne
  ok := fun n hn => (l.names.low n hn).1.ok
abbrev N__law_homely : List Str := ["_law_box_here", "_law_amount", "_law_size", "_law_callings_here", "_law_links_here", "_law_led", "_law_spots", "_law_ahead", "_law_left", "_law_total", "_law_who", "_law_turn", "_law_whom", "_law_a", "_law_b", "_law_glass"]
theorem nd__law_homely : N__law_homely.Nodup := by decide +kernel
theorem sc__law_homely : FnScope N__law_homely ["_law_box_here", "_law_amount"] (defScope s__law_homely) := ⟨rfl, rfl, rfl, nd__law_homely, rfl, by decide +kernel, by decide +kernel⟩
def S__law_homely : FSp := fB (fun n : Nat => [.fz (.int (n : Nat))]) (fun n => 1 ≤ n ∧ n ≤ 26) (fun n h => Laid h n) (fun h => .fz (hallD h))
theorem Names.perm {ns ms : List Str} {n : Nat} (h : Names ns n) (p : ms.Perm ns) : Names ms n := ⟨by rw [p.length_eq]; exact h.len, p.nodup_iff.mpr h.nd, fun x hx => h.low x (p.mem_iff.mp hx)⟩
theorem Ties.names {ns ms : List Str} {F : List (Str × Str × Int)} (h : Ties ns F) (p : ms.Perm ns) : Ties ms F := ⟨fun t ht => ⟨p.mem_iff.mpr (h.mem t ht).1, p.mem_iff.mpr (h.mem t ht).2⟩, h.ne, h.one⟩
def AllI {κ : Type} [DecidableEq κ] (kvs : List (κ × D)) : Prop := ∀ k d, dget kvs k = some d → ∃ i, d = .int i
theorem AllI.put {κ : Type} [DecidableEq κ] {kvs : List (κ × D)} (h : AllI kvs) (k : κ) (i : Int) : AllI (dput kvs k (.int i)) := fun k' d hd => by
  rw [dget_dput] at hd
  by_cases e : k = k'
  · rw [if_pos e] at hd; exact ⟨i, (Option.some.inj hd).symm⟩
  · rw [if_neg e] at hd; exact h k' d hd
theorem AllI.get {κ : Type} [DecidableEq κ] {kvs : List (κ × D)} (h : AllI kvs) (k : κ) (i : Int) : ∃ j, (dget kvs k).getD (.int i) = .int j := by
  cases hd : dget kvs k with
  | none => exact ⟨i, rfl⟩
  | some d => obtain ⟨j, e⟩ := h k d hd; exact ⟨j, e⟩
theorem erase_map {α β : Type} (g : α → β) : ∀ (l : List α) (i : Nat), (l.map g).eraseIdx i = (l.eraseIdx i).map g
  | [], _ => rfl
  | a :: l, 0 => rfl
  | a :: l, i + 1 => by
    show g a :: (l.map g).eraseIdx i = g a :: (l.eraseIdx i).map g
    rw [erase_map g l i]
theorem size_at {r : Int} (h0 : 0 ≤ r) (h1 : r < 7) : ∃ z : Int, 0 ≤ z ∧ atI [D.int 0, .int 1, .int 2, .int 3, .int 5, .int 12, .int 60] r = some (.int z) := by
  have : r = 0 ∨ r = 1 ∨ r = 2 ∨ r = 3 ∨ r = 4 ∨ r = 5 ∨ r = 6 := by omega
  rcases this with e | e | e | e | e | e | e <;> subst e
  · exact ⟨0, by decide, rfl⟩
  · exact ⟨1, by decide, rfl⟩
  · exact ⟨2, by decide, rfl⟩
  · exact ⟨3, by decide, rfl⟩
  · exact ⟨5, by decide, rfl⟩
  · exact ⟨12, by decide, rfl⟩
  · exact ⟨60, by decide, rfl⟩
theorem ok__law_homely {fT fR fC fL fB : Addr} {fdT fdR fdC fdL fdB : FuncData} (B : Bi mg) (F_take : FnP K "_law_take" s__law_take fT fdT) (g_take : mg "_law_take" = some (.ref fT)) (F_round : FnP K "_law_round" s__law_round fR fdR) (g_round : mg "_law_round" = some (.ref fR)) (F_callings : FnP K "_law_callings" s__law_callings fC fdC) (g_callings : mg "_law_callings" = some (.ref fC)) (F_links : FnP K "_law_links" s__law_links fL fdL) (g_links : mg "_law_links" = some (.ref fL)) (F_beside : FnP K "_law_beside" s__law_beside fB fdB) (g_beside : mg "_law_beside" = some (.ref fB))
    (F : FnP K "_law_homely" s__law_homely f fd) : FnOk P w K mg base CX0 3 f fd ["_law_box_here", "_law_amount"] (spOf K [0] 2 S__law_homely) := by
  have n_range := B.range; have n_list := B.list; have n_len := B.len; have n_tuple := B.tuple; have n_sorted := B.sorted
  have G_take : FnOk P w K mg base CX0 1 fT fdT _ _ := ok__law_take F_take
  have b_take : Binds K fdT ["_law_box_here", "_law_amount"] [] := F_take.bindsN fun _ _ _ _ _ _ us hl => match us, hl with | [_, _], _ => rfl
  have G_round : FnOk P w K mg base CX0 1 fR fdR _ _ := ok__law_round F_round
  have b_round : Binds K fdR ["_law_size", "_law_amount"] [] := F_round.bindsN fun _ _ _ _ _ _ us hl => match us, hl with | [_, _], _ => rfl
  have G_callings : FnOk P w K mg base CX0 2 fC fdC _ _ := ok__law_callings B F_take g_take F_callings
  have b_callings : Binds K fdC ["_law_box_here", "_law_amount"] [] := F_callings.bindsN fun _ _ _ _ _ _ us hl => match us, hl with | [_, _], _ => rfl
  have G_links : FnOk P w K mg base CX0 2 fL fdL _ _ := ok__law_links B F_take g_take F_round g_round F_links
  have b_links : Binds K fdL ["_law_box_here", "_law_size", "_law_callings_here", "_law_often"] [] := F_links.bindsN fun _ _ _ _ _ _ us hl => match us, hl with | [_, _, _, _], _ => rfl
  have G_beside : FnOk P w K mg base CX0 1 fB fdB _ _ := ok__law_beside B F_beside
  have b_beside : Binds K fdB ["_law_links_here", "_law_who"] [] := F_beside.bindsN fun _ _ _ _ _ _ us hl => match us, hl with | [_, _], _ => rfl
  refine fn_ok (S := S__law_homely) 14 (by decide) (by decide) F sc__law_homely fun cdv A outer s H E b cs Post hr hcl hS => ?_
  obtain ⟨x, n, rfl, ⟨hn1, hn26⟩, q⟩ := hS
  have hn1 : 1 ≤ n := hn1
  have hn26 : n ≤ 26 := hn26
  have hu : (A.deeper (envOfC "_law_homely" (defScope s__law_homely) s.heap.objs.size f cdv)).units + 64 < cLine := hr.units
  have hu1 : (A.deeper (envOfC "_law_homely" (defScope s__law_homely) s.heap.objs.size f cdv)).units + 1 < cLine := by omega
  have nd := nd__law_homely
  change DSs _ b _ [.ow (boxD x), .fz (.int (n : Nat)), .no, .no, .no, .no, .no, .no, .no, .no, .no, .no, .no, .no, .no, .no] _
  refine dss_cons ?_
  refine ds_par (i := 2) (j := 3) ?hc ?hN ?hi ?hj ?hij ?hx ?hy ?hj1 ?hj2 ?h ?hw ?hs
  case hc => rfl
  case hN => exact nd
  case hi => rfl
  case hj => rfl
  case hij => decide
  case hx => rfl
  case hy => rfl
  case hj1 => simp
  case hj2 => simp
  case hw => rfl
  case hs => rfl
  walk_at "d"
  refine de_callO (j := 0) G_take fB_mono (hr.mono (by decide)) rfl g_take F_take.kp b_take ?_
  walk_at "d"
  refine ⟨_, _, _, ⟨rfl, rfl, all2, rfl⟩, rfl, x, 7, rfl, ⟨by decide, by decide⟩, fun r hr1 x1 e he => ⟨_, he, ?_⟩⟩
  obtain ⟨sz, hsz, hat⟩ := size_at hr1.1 hr1.2
  refine ix_lst (.ow _) (.fz _) hat ?_
  walk_at "d"
  refine de_callO (j := 0) G_callings fB_mono (hr.mono (by decide)) rfl g_callings F_callings.kp b_callings ?_
  walk_at "d"
  refine ⟨_, _, _, ⟨rfl, rfl, all2, rfl⟩, rfl, x1, n, rfl, hn26, fun ns hns x2 e he => ⟨_, he, ?_⟩⟩
  walk_at "d"
  refine ⟨_, _, rfl, fun j z => (nomatch z), fun j z => (nomatch z), by simp, by simp, ?_⟩
  refine dss_freeze 3 rfl (by simp) ?_
  have hnl : ns.length = n := hns.len
  refine dss_cons (ds_parG3 (i := 4) (j := 5) (k := 6) rfl nd (by walk_at "puts") (by decide) (by decide) (by decide) (by simp) (by simp) (by simp) ?_)
  walk_at "d"
  refine de_callO (j := 0) G_links fB_mono (hr.mono (by decide)) rfl g_links F_links.kp b_links ?_
  walk_at "d"
  refine ⟨_, _, _, ⟨rfl, rfl, all4, rfl⟩, rfl, x2, (sz, ns, 8), rfl, ⟨hsz, by rw [hnl]; exact hns, by rw [hnl]; exact hn1, by rw [hnl]; exact hn26, by show (0:Int) < 8; decide, by show (8:Int) < 1000; decide⟩, fun ti hti x3 e he => ⟨_, he, ?_⟩⟩
  obtain ⟨hT, hTl⟩ := hti
  have hT : Ties ns ti := hT
  walk_at "d"
  refine de_newT ?_
  walk_at "d"
  refine ⟨_, _, _, rfl, fun j z => (nomatch z), fun j z => (nomatch z), fun j z => (nomatch z), by simp, by simp, by simp, ?_⟩
  refine dss_freeze 4 rfl (by simp) ?_
  -- the arrows
  refine dss_cons (ds_for rfl PassesOwn.never ?_)
  refine di_list ?_
  walk_at "var"
  refine ⟨_, .inl rfl, ?_⟩
  refine ⟨fun k e => ∃ (x' : Box) (kvs : List (List Key × D)) (c13 c14 c15 : Cell), AllI kvs ∧ kvs.length ≤ k ∧ e = [.ow (boxD x'), .fz (.int (n : Nat)), .fz (.int sz), .fz (.lst (ns.map .str)), .fz (.lst (ti.map tieD)), .ow (.dt kvs), .ow (.lst []), .no, .no, .no, .no, .no, .no, c13, c14, c15], ⟨x3, [], _, _, _, fun k d z => (nomatch z), Nat.le_refl _, rfl⟩, fun _ _ _ => trivial, ?_, ?_⟩
  · rintro k d e hd ⟨x', kvs, c13, c14, c15, hI, hkl, rfl⟩
    rw [List.getElem?_map] at hd
    cases hp : ti[k]? with
    | none => rw [hp] at hd; cases hd
    | some p =>
      rw [hp] at hd
      cases hd
      obtain ⟨a1, b1, g1⟩ := p
      have hk : k < 26 := Nat.lt_of_lt_of_le (List.getElem?_eq_some_iff.mp hp).1 hTl
      refine dg_tup (is := [13, 14, 15]) rfl nd (by walk_at "puts") rfl rfl rfl (by simp) ?_
      refine dss_cons (ds_storeT hu1 ?_)
      refine de_callO (j := 0) G_take fB_mono (hr.mono (by decide)) rfl g_take F_take.kp b_take ?_
      walk_at "d"
      refine ⟨_, _, _, ⟨rfl, rfl, all2, rfl⟩, rfl, x', 2, rfl, ⟨by decide, by decide⟩, fun r2 hr2 x4 e he => ⟨_, he, ?_⟩⟩
      refine ⟨_, rfl, ?_⟩
      walk_at "var"
      refine ⟨_, rfl, ?_⟩
      refine de_tupO ?_
      walk_at "d"
      refine ⟨[.inr a1, .inr b1], kvs, rfl, rfl, by omega, ?_⟩
      walk_at "d"
      refine ⟨x4, _, _, _, _, hI.put _ _, ?_, rfl⟩
      exact Nat.le_trans (dput_le _ _ _) (by omega)
  rintro e ⟨x4, kvs, c13, c14, c15, hI, hkl, rfl⟩
  -- the places
  refine dss_cons (ds_for rfl PassesOwn.never ?_)
  refine di_list ?_
  walk_at "var"
  refine ⟨_, .inl rfl, ?_⟩
  refine ⟨fun k e => ∃ (x' : Box) (sp : List (Str × Int × Int)) (c7 c8 c9 c10 c11 c12 c13 c14 c15 : Cell), sp.map (·.1) = ns.take k ∧ Good ⟨sz, sp, ti⟩ ∧ (∀ j, c7 ≠ .al j) ∧ (∀ j, c8 ≠ .al j) ∧ e = [.ow (boxD x'), .fz (.int (n : Nat)), .fz (.int sz), .fz (.lst (ns.map .str)), .fz (.lst (ti.map tieD)), .ow (.dt kvs), .ow (.lst (sp.map placeD)), c7, c8, c9, c10, c11, c12, c13, c14, c15], ⟨x4, [], .no, .no, .no, .no, .no, .no, _, _, _, rfl, fun p z => (nomatch z), fun j z => (nomatch z), fun j z => (nomatch z), rfl⟩, fun _ _ _ => trivial, ?_, ?_⟩
  · rintro k d e hd ⟨x', sp, c7, c8, c9, c10, c11, c12, c13, c14, c15, hsp, hgd, hc7, hc8, rfl⟩
    rw [List.getElem?_map] at hd
    cases hp : ns[k]? with
    | none => rw [hp] at hd; cases hd
    | some na =>
      rw [hp] at hd
      cases hd
      have hspl : sp.length ≤ 26 := by
        have h1 : (sp.map (·.1)).length = (ns.take k).length := by rw [hsp]
        rw [List.length_map, List.length_take] at h1
        omega
      refine dg_name (i := 10) nd rfl (loc_b rfl) (fn_b rfl) (by simp) (by simp) (fun j z => nomatch z) ?_
      refine dss_no 14 (by simp) ?_
      refine dss_no 15 (by simp) ?_
      refine dss_cons (ds_setLc (i := 7) [("_law_b", 14), ("_law_glass", 15)] rfl nd rfl rfl (sw_true rfl rfl rfl (by decide +kernel)) (by change BlkOk N__law_homely (defScope s__law_homely) _ _; walk_at "blk") (by simp) (by simp) ?_)
      refine DI.a (di_list ?_)
      refine de_call G_beside fN_mono (hr.mono (by decide)) rfl g_beside F_beside.kp b_beside ?_
      walk_at "d"
      have htok : ∀ t ∈ ti, PyData.strOk t.1 = true ∧ PyData.strOk t.2.1 = true := fun t ht => ⟨(hns.low _ (hT.mem t ht).1).1.ok, (hns.low _ (hT.mem t ht).2).1.ok⟩
      refine ⟨(false, ti, na), rfl, ⟨by show ti.length ≤ 1000; omega, htok⟩, fun L hL e => ?_⟩
      have hL : L.Perm (nbr ti na) := hL
      have hLl : L.length ≤ 52 := by
        rw [hL.length_eq]
        unfold nbr
        rw [List.length_append, List.length_map, List.length_map]
        have h1 := List.length_filter_le (fun t : Str × Str × Int => decide (t.1 = na)) ti
        have h2 := List.length_filter_le (fun t : Str × Str × Int => decide (t.2.1 = na)) ti
        omega
      refine ⟨_, .inr rfl, ?_⟩
      refine ⟨by simp; omega, fun k acc e => ∃ M : List (Str × Int), acc = M.map pairSI ∧ M.length ≤ k ∧ e = [.ow (boxD x'), .fz (.int (n : Nat)), .fz (.int sz), .fz (.lst (ns.map .str)), .fz (.lst (ti.map tieD)), .ow (.dt kvs), .ow (.lst (sp.map placeD)), c7, c8, c9, .fz (.str na), c11, c12, c13, .no, .no], ⟨[], rfl, Nat.le_refl _, rfl⟩, ?_, ?_, ?_⟩
      · rintro k acc e ⟨M, rfl, hM, rfl⟩
        exact ⟨trivial, by simpa using hM, by simp⟩
      · rintro k d acc e hd ⟨M, rfl, hM, rfl⟩ s1 H1 C1 cl1 fp1
        rw [List.getElem?_map] at hd
        cases hp2 : L[k]? with
        | none => rw [hp2] at hd; cases hd
        | some p =>
          rw [hp2] at hd
          cases hd
          obtain ⟨b1, g1⟩ := p
          refine dgo_tup (is := [14, 15]) rfl nd (by walk_at "puts") rfl rfl rfl (by simp) ?_
          intro s2 H2 C2 cl2 fp2
          walk_at "d"
          refine de_get2 hu1 ?_
          walk_at "var"
          refine ⟨.t (.al rfl), ?_⟩
          refine de_tupO ?_
          walk_at "d"
          refine de_get2 hu1 ?_
          walk_at "var"
          refine ⟨.t (.al rfl), ?_⟩
          refine de_tupO ?_
          walk_at "d"
          refine ⟨_, _, .t (ks := [.inr b1, .inr na]) (.al rfl) rfl, rfl, ?_⟩
          obtain ⟨v1, hv1⟩ := hI.get [.inr b1, .inr na] 0
          rw [hv1]
          walk_at "d"
          refine ⟨_, _, .t (ks := [.inr na, .inr b1]) (.al rfl) rfl, rfl, ?_⟩
          obtain ⟨v2, hv2⟩ := hI.get [.inr na, .inr b1] (1 - v1)
          rw [hv2]
          walk_at "d"
          refine ite_b (fun hf => ?_) (fun hf => ?_)
          · intro s3 H3 C3 cl3 fp3
            walk_at "d"
            exact ⟨M ++ [(b1, g1)], by rw [List.map_append]; rfl, by rw [List.length_append]; simp; omega, rfl⟩
          · exact ⟨M, rfl, by omega, rfl⟩
      rintro acc e ⟨M, rfl, hM, rfl⟩
      refine ⟨by simp, ?_⟩
      have hMl : M.length ≤ 52 := by rw [List.length_map] at hM; omega
      have hMm : (M.map pairSI).length = M.length := List.length_map ..
      walk_at "d"
      refine ds_for rfl PassesOwn.never ?_
      refine da_range1 rfl n_range ?_
      walk_at "e1"
      walk_at "a1"
      walk_at "e1"
      walk_at "a1"
      walk_at "oa"
      refine ⟨((M.map pairSI).length : Nat), .fz _, by omega, by omega, ?_⟩
      refine ⟨fun i e => ∃ (x5 : Box) (M' : List (Str × Int)) (tot : Int) (c11 c12 c15 : Cell), M'.length + i = M.length ∧ e = [.ow (boxD x5), .fz (.int (n : Nat)), .fz (.int sz), .fz (.lst (ns.map .str)), .fz (.lst (ti.map tieD)), .ow (.dt kvs), .ow (.lst (sp.map placeD)), .ow (.lst (M.map pairSI)), .ow (.lst (M'.map pairSI)), .fz (.int tot), .fz (.str na), c11, c12, c13, .no, c15], ⟨x', M, 0, _, _, _, rfl, rfl⟩, fun _ _ _ => trivial, ?_, ?_⟩
      · rintro i d e hd ⟨x5, M', tot, c11, c12, c15, hM', rfl⟩
        rw [List.getElem?_map] at hd
        cases hp3 : (List.range (((M.map pairSI).length : Nat) : Int).toNat)[i]? with
        | none => rw [hp3] at hd; cases hd
        | some ii =>
          rw [hp3] at hd
          cases hd
          obtain ⟨hi1, hi2⟩ := List.getElem?_eq_some_iff.mp hp3
          rw [List.getElem_range] at hi2
          subst hi2
          have hil : i < M.length := by simp at hi1; omega
          refine dg_name (i := 11) nd rfl (loc_b rfl) (fn_b rfl) (by simp) (by simp) (fun j z => nomatch z) ?_
          have hM'm : (M'.map pairSI).length = M'.length := List.length_map ..
          refine dss_cons (ds_asg ?_)
          walk_at "d"
          refine de_callO (j := 0) G_take fB_mono (hr.mono (by decide)) rfl g_take F_take.kp b_take ?_
          walk_at "d"
          refine ⟨_, _, _, ⟨rfl, rfl, all2, rfl⟩, rfl, x5, _, rfl, ⟨by omega, by omega⟩, fun r3 hr3 x6 e he => ⟨_, he, ?_⟩⟩
          obtain ⟨hr30, hr31⟩ := hr3
          have hrl : r3.toNat < M'.length := by omega
          refine ⟨r3, M'.map pairSI, pairSI M'[r3.toNat], rfl, rfl, hr30, by omega, by rw [List.getElem?_map, List.getElem?_eq_getElem hrl]; rfl, ?_⟩
          generalize M'[r3.toNat] = pr
          obtain ⟨wh, gl⟩ := pr
          refine dg_tup (is := [12, 15]) rfl nd (by walk_at "puts") rfl rfl rfl (by simp) ?_
          walk_at "d"
          refine ⟨x6, M'.eraseIdx r3.toNat, tot + gl * (1 - 2 * (((i : Nat) : Int) % 2)), .fz (.int ((i : Nat) : Int)), .fz (.str wh), .fz (.int gl), ?_, ?_⟩
          rotate_left
          · rw [erase_map]; rfl
          · rw [List.length_eraseIdx, if_pos hrl]; omega
      rintro e ⟨x5, M', tot, c11, c12, c15, hM', rfl⟩
      have hspm : (sp.map placeD).length < 100000 := by rw [List.length_map]; omega
      walk_at "d"
      refine de_call G_round fS_mono (hr.mono (by decide)) rfl g_round F_round.kp b_round ?_
      walk_at "d"
      refine ⟨(sz, tot), rfl, hsz, fun e => ?_⟩
      walk_at "d"
      have htk : ns.take (k + 1) = ns.take k ++ [na] := by rw [List.take_add_one, hp]; rfl
      refine ⟨x5, sp ++ [(na, 1 - ((M.map pairSI).length : Int) % 2, counted sz tot)], .ow (.lst (M.map pairSI)), .ow (.lst (M'.map pairSI)), .fz (.int tot), .fz (.str na), c11, c12, c13, .no, c15, ?_, ?_, ?_, ?_, ?_⟩
      rotate_left 4
      · rw [List.map_append]; rfl
      · rw [List.map_append, hsp, htk]; rfl
      · intro p hp
        rcases List.mem_append.mp hp with z | z
        · exact hgd p z
        · have z : p = (na, 1 - ((M.map pairSI).length : Int) % 2, counted sz tot) := by simpa using z
          subst z
          exact ⟨by show 1 - ((M.map pairSI).length : Int) % 2 = 0 ∨ 1 - ((M.map pairSI).length : Int) % 2 = 1; omega, counted_idem _ _⟩
      · exact fun j z => nomatch z
      · exact fun j z => nomatch z
  rintro e ⟨x5, sp, c7, c8, c9, c10, c11, c12, c13, c14, c15, hsp, hgd, hc7, hc8, rfl⟩
  have hsp : sp.map (·.1) = ns := by rw [hsp]; exact List.take_of_length_le (by simp)
  have hspl : sp.length ≤ 26 := by
    have h1 : (sp.map (·.1)).length = ns.length := by rw [hsp]
    rw [List.length_map] at h1
    omega
  walk_at "d"
  refine sorted_c (.al rfl) (sortd_map (fun p hp => ?_) (fun a c => ?_) (fun a => ⟨_, _, rfl⟩) (by omega)) ?_
  · have hm : p.1 ∈ ns := by rw [← hsp]; exact List.mem_map.mpr ⟨p, hp, rfl⟩
    refine .tup fun d hd => ?_
    simp at hd
    rcases hd with h | h | h <;> subst h
    · exact .str (hns.low _ hm).1.ok
    · exact .int _
    · exact .int _
  · simp [placeD, D.py, pyL, PySem.W.alike, PySem.W.alikeAll]
  obtain ⟨L, hL, hp⟩ := dsort_map placeD sp
  rw [hL]
  walk_at "d"
  have hnp : (L.map (·.1)).Perm ns := by rw [← hsp]; exact hp.map _
  refine q ⟨sz, L, ti⟩ ⟨hsz, hns.perm hnp, fun p hpL => hgd p (hp.mem_iff.mp hpL), hT.names hnp, hTl, hn26⟩ x5 _ rfl
end
end K13



set_option Elab.async false
set_option linter.all false
set_option maxRecDepth 100000
set_option maxHeartbeats 1000000
set_option pp.deepTerms false
set_option pp.deepTerms.threshold 6
set_option pp.oneline false
set_option pp.proofs false
namespace K13
open PySem PySem.Spec PyProof.Rows L2 DL
set_option hygiene false
local macro_rules | `(tactic| walk_at "vw") => `(tactic| first
  | (with_reducible show Vw _ (Cell.fz _) _); exact Vw.fz _
  | (with_reducible show Vw _ (Cell.al _) _); exact Vw.al rfl
  | (with_reducible show Vw _ (Cell.ow _) _); exact Vw.ow _ rfl
  | exact Vw.fz _
  | exact Vw.al rfl
  | exact Vw.ow _ rfl)
local macro_rules | `(tactic| walk_at "puts") => `(tactic| repeat (first | exact DL.Puts.nil | refine DL.Puts.cons rfl (loc_b rfl) (fn_b rfl) rfl ?_))
local macro_rules | `(tactic| walk_at "blk") => `(tactic| exact ⟨rfl, by decide +kernel, by decide +kernel, by decide +kernel, by decide +kernel⟩)
local macro_rules | `(tactic| walk_at "vis") => `(tactic| first
  | exact vis_b rfl
  | exact Or.inl rfl
  | exact Or.inr (Or.inl rfl)
  | exact Or.inr (Or.inr rfl))
local macro_rules | `(tactic| walk_at "side") => `(tactic| first
  | assumption
  | omega
  | (simp only [List.length_set, List.length_cons, List.length_nil]; omega)
  | (simp only [DL.setAll, List.length_set, List.length_cons, List.length_nil]; omega)
  | exact fun j z => (nomatch z)
  | (refine Or.inl ⟨?_, ?_⟩ <;> omega)
  | (refine Or.inr ⟨?_, ?_⟩ <;> omega)
  | decide
  | ((with_reducible show _ = _); rfl))
local macro_rules | `(tactic| walk_at "var") => `(tactic| first
  | refine de_var (i := 0) rfl (by walk_at "vis") rfl ?_ | refine de_var_ow (i := 0) (by decide) rfl (by walk_at "vis") rfl ?_
  | refine de_var (i := 1) rfl (by walk_at "vis") rfl ?_ | refine de_var_ow (i := 1) (by decide) rfl (by walk_at "vis") rfl ?_
  | refine de_var (i := 2) rfl (by walk_at "vis") rfl ?_ | refine de_var_ow (i := 2) (by decide) rfl (by walk_at "vis") rfl ?_
  | refine de_var (i := 3) rfl (by walk_at "vis") rfl ?_ | refine de_var_ow (i := 3) (by decide) rfl (by walk_at "vis") rfl ?_
  | refine de_var (i := 4) rfl (by walk_at "vis") rfl ?_ | refine de_var_ow (i := 4) (by decide) rfl (by walk_at "vis") rfl ?_
  | refine de_var (i := 5) rfl (by walk_at "vis") rfl ?_ | refine de_var_ow (i := 5) (by decide) rfl (by walk_at "vis") rfl ?_
  | refine de_var (i := 6) rfl (by walk_at "vis") rfl ?_ | refine de_var_ow (i := 6) (by decide) rfl (by walk_at "vis") rfl ?_
  | refine de_var (i := 7) rfl (by walk_at "vis") rfl ?_ | refine de_var_ow (i := 7) (by decide) rfl (by walk_at "vis") rfl ?_
  | refine de_var (i := 8) rfl (by walk_at "vis") rfl ?_ | refine de_var_ow (i := 8) (by decide) rfl (by walk_at "vis") rfl ?_
  | refine de_var (i := 9) rfl (by walk_at "vis") rfl ?_ | refine de_var_ow (i := 9) (by decide) rfl (by walk_at "vis") rfl ?_
  | refine de_var (i := 10) rfl (by walk_at "vis") rfl ?_ | refine de_var_ow (i := 10) (by decide) rfl (by walk_at "vis") rfl ?_
  | refine de_var (i := 11) rfl (by walk_at "vis") rfl ?_ | refine de_var_ow (i := 11) (by decide) rfl (by walk_at "vis") rfl ?_
  | refine de_var (i := 12) rfl (by walk_at "vis") rfl ?_ | refine de_var_ow (i := 12) (by decide) rfl (by walk_at "vis") rfl ?_
  | refine de_var (i := 13) rfl (by walk_at "vis") rfl ?_ | refine de_var_ow (i := 13) (by decide) rfl (by walk_at "vis") rfl ?_
  | refine de_var (i := 14) rfl (by walk_at "vis") rfl ?_ | refine de_var_ow (i := 14) (by decide) rfl (by walk_at "vis") rfl ?_
  | refine de_var (i := 15) rfl (by walk_at "vis") rfl ?_ | refine de_var_ow (i := 15) (by decide) rfl (by walk_at "vis") rfl ?_
  | refine de_var (i := 16) rfl (by walk_at "vis") rfl ?_ | refine de_var_ow (i := 16) (by decide) rfl (by walk_at "vis") rfl ?_)
local macro_rules | `(tactic| walk_at "const") => `(tactic| first
  | with_reducible refine de_int ?_
  | with_reducible refine de_str ?_
  | with_reducible refine de_bl ?_
  | with_reducible refine de_non ?_)
local macro_rules | `(tactic| walk_at "e1") => `(tactic| first
  | (with_reducible show DE _ _ (Expr.Name _ _) _ _); walk_at "var"
  | (with_reducible show DE _ _ (Expr.Constant _ _ _) _ _); walk_at "const"
  | (with_reducible show DE _ _ (Expr.Call (Expr.Name _ _) _ [] _) _ _); walk_at "bi"
  | with_reducible refine de_add ?_
  | with_reducible refine de_sub ?_
  | with_reducible refine de_mul ?_
  | with_reducible refine de_mod ?_
  | with_reducible refine de_div ?_
  | with_reducible refine de_pow ?_
  | with_reducible refine de_neg ?_
  | with_reducible refine de_tuple ?_
  | with_reducible refine de_list ?_
  | with_reducible refine de_ifExp ?_
  | with_reducible refine de_not ?_
  | with_reducible refine de_bool1 ?_
  | with_reducible refine de_and ?_
  | with_reducible refine de_or ?_
  | with_reducible refine de_revL ?_
  | with_reducible refine de_slice ?_
  | (with_reducible show DE _ _ (Expr.Subscript _ _ _) _ _); refine de_ix hu1 (fun _ _ => rfl) ?_
  | (with_reducible show DE _ _ (Expr.Compare _ [CmpOp.Is] _ _) _ _); refine de_isN ?_
  | (with_reducible show DE _ _ (Expr.Compare _ [CmpOp.Eq] _ _) _ _); refine de_cmp (op_eqAll hu) (nobehind _ (by decide) (by decide)) ?_
  | (with_reducible show DE _ _ (Expr.Compare _ [CmpOp.NotEq] _ _) _ _); refine de_cmp (op_neAll hu) (nobehind _ (by decide) (by decide)) ?_
  | (with_reducible show DE _ _ (Expr.Compare _ [CmpOp.Lt] _ _) _ _); refine de_cmp op_ltAll (nobehind _ (by decide) (by decide)) ?_
  | (with_reducible show DE _ _ (Expr.Compare _ [CmpOp.LtE] _ _) _ _); refine de_cmp op_leAll (nobehind _ (by decide) (by decide)) ?_
  | (with_reducible show DE _ _ (Expr.Compare _ [CmpOp.Gt] _ _) _ _); refine de_cmp op_gtAll (nobehind _ (by decide) (by decide)) ?_
  | (with_reducible show DE _ _ (Expr.Compare _ [CmpOp.GtE] _ _) _ _); refine de_cmp op_geAll (nobehind _ (by decide) (by decide)) ?_
  | (with_reducible show DE _ _ (Expr.Compare _ [CmpOp.In] _ _) _ _); refine de_cmp (op_inAll hu1) rfl ?_
  | (with_reducible show DE _ _ (Expr.Compare _ [CmpOp.NotIn] _ _) _ _); refine de_cmp (op_notInAll hu1) rfl ?_
  | (with_reducible show DE _ _ (Expr.Call (Expr.Attribute _ "append" _) [_] _ _) _ _); refine de_append ?_
  | (with_reducible show DE _ _ (Expr.Call (Expr.Attribute _ "pop" _) [_] _ _) _ _); refine de_popAt ?_
  | (with_reducible show DE _ _ (Expr.Call (Expr.Attribute _ "join" _) [_] _ _) _ _); refine de_join ?_)
local macro_rules | `(tactic| walk_at "bi") => `(tactic| first
  | (with_reducible show DE _ _ (Expr.Call (Expr.Name "isinstance" _) [_, Expr.Name "list" _] [] _) _ _); refine de_isi1 rfl n_isinstance rfl n_list boot_list ?_
  | (with_reducible show DE _ _ (Expr.Call (Expr.Name "isinstance" _) [_, Expr.Name "tuple" _] [] _) _ _); refine de_isi1 rfl n_isinstance rfl n_tuple boot_tuple ?_
  | (with_reducible show DE _ _ (Expr.Call (Expr.Name "isinstance" _) [_, Expr.Name "str" _] [] _) _ _); refine de_isi1 rfl n_isinstance rfl n_str boot_str ?_
  | (with_reducible show DE _ _ (Expr.Call (Expr.Name "isinstance" _) [_, Expr.Name "bool" _] [] _) _ _); refine de_isi1 rfl n_isinstance rfl n_bool boot_bool ?_
  | (with_reducible show DE _ _ (Expr.Call (Expr.Name "isinstance" _) [_, Expr.Name "int" _] [] _) _ _); refine de_isi1 rfl n_isinstance rfl n_int boot_int ?_
  | (with_reducible show DE _ _ (Expr.Call (Expr.Name "isinstance" _) [_, Expr.Tuple [Expr.Name "list" _, Expr.Name "tuple" _] _ _] [] _) _ _); refine de_isi2 rfl n_isinstance rfl n_list boot_list rfl n_tuple boot_tuple ?_
  | (with_reducible show DE _ _ (Expr.Call (Expr.Name "isinstance" _) [_, Expr.Tuple [Expr.Name "str" _, Expr.Name "bool" _] _ _] [] _) _ _); refine de_isi2 rfl n_isinstance rfl n_str boot_str rfl n_bool boot_bool ?_
  | (with_reducible show DE _ _ (Expr.Call (Expr.Name "len" _) _ [] _) _ _); refine de_callB call_lenA rfl n_len boot_len ?_
  | (with_reducible show DE _ _ (Expr.Call (Expr.Name "abs" _) _ [] _) _ _); refine de_callB call_abs rfl n_abs boot_abs ?_
  | (with_reducible show DE _ _ (Expr.Call (Expr.Name "int" _) _ [] _) _ _); refine de_callTy call_int1 rfl n_int boot_int ?_
  | (with_reducible show DE _ _ (Expr.Call (Expr.Name "list" _) _ [] _) _ _); refine de_callTy call_list_of rfl n_list boot_list ?_
  | (with_reducible show DE _ _ (Expr.Call (Expr.Name "tuple" _) _ [] _) _ _); refine de_callTy call_tuple_of rfl n_tuple boot_tuple ?_
  | (with_reducible show DE _ _ (Expr.Call (Expr.Name "sorted" _) _ [] _) _ _); refine de_callB (cr_sortD hu) rfl n_sorted boot_sorted ?_
  | (with_reducible show DE _ _ (Expr.Call (Expr.Name "sum" _) _ [] _) _ _); refine de_callB (cr_sum rfl) rfl n_sum boot_sum ?_
  | (with_reducible show DE _ _ (Expr.Call (Expr.Name "all" _) _ [] _) _ _); refine de_callB (cr_all rfl) rfl n_all boot_all ?_
  | (with_reducible show DE _ _ (Expr.Call (Expr.Name "any" _) _ [] _) _ _); refine de_callB (cr_any rfl) rfl n_any boot_any ?_
  | (with_reducible show DE _ _ (Expr.Call (Expr.Name "min" _) _ [] _) _ _); refine de_callB (call_minA rfl) rfl n_min boot_min ?_
  | (with_reducible show DE _ _ (Expr.Call (Expr.Name "max" _) _ [] _) _ _); refine de_callB (call_maxA rfl) rfl n_max boot_max ?_
  | (with_reducible show DE _ _ (Expr.Call (Expr.Name "dict" _) _ [] _) _ _); refine de_callTy (call_dictP rfl) rfl n_dict boot_dict ?_)
local macro_rules | `(tactic| walk_at "oa") => `(tactic| first
  | refine len_c (by walk_at "vw") (by first | exact Ln.lst _ | exact Ln.tup _ | exact Ln.dk _) ?_
  | refine abs_c (.fz _) ?_
  | refine int_b (.fz _) ?_
  | refine int_i (.fz _) ?_
  | refine list_t (.fz _) ?_
  | refine list_l (by walk_at "vw") ?_
  | refine tuple_t (.fz _) ?_
  | refine tuple_l (by walk_at "vw") ?_
  | refine mm_str (.fz _) (.fz _) ?_
  | refine mm_int (.fz _) (.fz _) ?_)
local macro_rules | `(tactic| walk_at "t1") => `(tactic| first
  | (with_reducible show DT _ _ (Expr.Compare _ [CmpOp.Is] _ _) _ _); refine dt_isN ?_
  | (with_reducible show DT _ _ (Expr.Compare _ [CmpOp.Eq] _ _) _ _); refine dt_cmp (op_eqAll hu) (nobehind _ (by decide) (by decide)) ?_
  | (with_reducible show DT _ _ (Expr.Compare _ [CmpOp.NotEq] _ _) _ _); refine dt_cmp (op_neAll hu) (nobehind _ (by decide) (by decide)) ?_
  | (with_reducible show DT _ _ (Expr.Compare _ [CmpOp.Lt] _ _) _ _); refine dt_cmp op_ltAll (nobehind _ (by decide) (by decide)) ?_
  | (with_reducible show DT _ _ (Expr.Compare _ [CmpOp.LtE] _ _) _ _); refine dt_cmp op_leAll (nobehind _ (by decide) (by decide)) ?_
  | (with_reducible show DT _ _ (Expr.Compare _ [CmpOp.Gt] _ _) _ _); refine dt_cmp op_gtAll (nobehind _ (by decide) (by decide)) ?_
  | (with_reducible show DT _ _ (Expr.Compare _ [CmpOp.GtE] _ _) _ _); refine dt_cmp op_geAll (nobehind _ (by decide) (by decide)) ?_
  | (with_reducible show DT _ _ (Expr.Compare _ [CmpOp.In] _ _) _ _); refine dt_cmp (op_inAll hu1) rfl ?_
  | (with_reducible show DT _ _ (Expr.Compare _ [CmpOp.NotIn] _ _) _ _); refine dt_cmp (op_notInAll hu1) rfl ?_
  | with_reducible refine dt_not ?_
  | with_reducible refine dt_bool ?_
  | (with_reducible show DT _ _ (Expr.Call _ _ _ _) _ _); refine dt_val ?_)
local macro_rules | `(tactic| walk_at "w1") => `(tactic| first
  | with_reducible refine dw_and1 ?_
  | with_reducible refine dw_or1 ?_
  | with_reducible refine dw_and ?_
  | with_reducible refine dw_or ?_)
local macro_rules | `(tactic| walk_at "a1") => `(tactic| first
  | with_reducible refine da_nil ?_
  | refine da_cons ?_)
local macro_rules | `(tactic| walk_at "o2") => `(tactic| first
  | (with_reducible show Op2 _ _ (rAddAll _) _ _ _ _); first | refine add_int (.fz _) (.fz _) ?_ | refine add_str (.fz _) (.fz _) (by walk_at "side") ?_ | refine add_tup (.fz _) (.fz _) (by walk_at "side") ?_ | refine add_lst (by walk_at "vw") (by walk_at "vw") (by walk_at "side") ?_
  | (with_reducible show Op2 _ _ (rIxAll _) _ _ _ _); first | refine ix_tpl (.fz _) (.fz _) rfl ?_ | refine ix_lst (by walk_at "vw") (.fz _) rfl ?_ | refine ix_tpl (.fz _) (.fz _) (by assumption) ?_ | refine ix_lst (by walk_at "vw") (.fz _) (by assumption) ?_ | refine ix_dk (by walk_at "vw") (.fz _) (k := .inr _) rfl (by assumption) ?_
  | (with_reducible show Op2 _ _ (rEqAll _) _ _ _ _); first | refine eq_int (.fz _) (.fz _) ?_ | refine eq_str (.fz _) (.fz _) ?_ | refine eq_bl (.fz _) (.fz _) ?_
  | (with_reducible show Op2 _ _ (rNeAll _) _ _ _ _); first | refine ne_int (.fz _) (.fz _) ?_ | refine ne_str (.fz _) (.fz _) ?_ | refine ne_bl (.fz _) (.fz _) ?_
  | refine op_ib0 (.fz _) (.fz _) ?_
  | refine lt_int (.fz _) (.fz _) ?_
  | refine lt_str (.fz _) (.fz _) ?_
  | refine in_dk (by walk_at "vw") (by walk_at "vw") rfl ?_)
local macro_rules | `(tactic| walk_at "o1") => `(tactic| first
  | refine cut_t (.fz _) ?_
  | refine cut_l (by walk_at "vw") ?_)
local macro_rules | `(tactic| walk_at "x1") => `(tactic| first
  | (with_reducible show ∃ ds, AllFz _ ds ∧ _); first | refine ⟨_, (.cons (.cons .nil)), ?_⟩ | refine ⟨_, (.cons .nil), ?_⟩ | refine ⟨_, (.cons (.cons (.cons .nil))), ?_⟩ | refine ⟨_, (.cons (.cons (.cons (.cons .nil)))), ?_⟩ | refine ⟨_, .nil, ?_⟩ | refine ⟨_, (.cons (.cons (.cons (.cons (.cons .nil))))), ?_⟩ | refine ⟨_, (.cons (.cons (.cons (.cons (.cons (.cons .nil)))))), ?_⟩ | refine ⟨_, (.cons (.cons (.cons (.cons (.cons (.cons (.cons .nil))))))), ?_⟩
  | refine ⟨_, _, .fz _, rfl, kb_list rfl, ?_⟩
  | refine ⟨_, _, .fz _, rfl, kb_tuple rfl, ?_⟩
  | refine ⟨_, _, .fz _, rfl, kb_str rfl, ?_⟩
  | refine ⟨_, _, .fz _, rfl, kb_bool rfl, ?_⟩
  | refine ⟨_, _, .fz _, rfl, kb_int rfl, ?_⟩
  | refine ⟨_, _, _, .fz _, rfl, kb_list rfl, kb_tuple rfl, ?_⟩
  | refine ⟨_, _, _, .fz _, rfl, kb_str rfl, kb_bool rfl, ?_⟩
  | refine ⟨_, _, _, rfl, rfl, Put.lst rfl, ?_⟩
  | refine ⟨_, _, .fz _, .fz _, ?_⟩
  | refine ⟨_, .fz _, ?_⟩
  | refine ⟨_, rfl, ?_⟩
  | refine ⟨_, _, rfl, rfl, ?_⟩)
local macro_rules | `(tactic| walk_at "set") => `(tactic| first
  | refine ds_set (i := 0) nd rfl (by first | exact loc_b rfl | exact Or.inl rfl | exact Or.inr rfl) (by decide) ?_ (hf := by first | exact fn_b rfl | exact .inl rfl | exact .inr rfl)
  | refine ds_set (i := 1) nd rfl (by first | exact loc_b rfl | exact Or.inl rfl | exact Or.inr rfl) (by decide) ?_ (hf := by first | exact fn_b rfl | exact .inl rfl | exact .inr rfl)
  | refine ds_set (i := 2) nd rfl (by first | exact loc_b rfl | exact Or.inl rfl | exact Or.inr rfl) (by decide) ?_ (hf := by first | exact fn_b rfl | exact .inl rfl | exact .inr rfl)
  | refine ds_set (i := 3) nd rfl (by first | exact loc_b rfl | exact Or.inl rfl | exact Or.inr rfl) (by decide) ?_ (hf := by first | exact fn_b rfl | exact .inl rfl | exact .inr rfl)
  | refine ds_set (i := 4) nd rfl (by first | exact loc_b rfl | exact Or.inl rfl | exact Or.inr rfl) (by decide) ?_ (hf := by first | exact fn_b rfl | exact .inl rfl | exact .inr rfl)
  | refine ds_set (i := 5) nd rfl (by first | exact loc_b rfl | exact Or.inl rfl | exact Or.inr rfl) (by decide) ?_ (hf := by first | exact fn_b rfl | exact .inl rfl | exact .inr rfl)
  | refine ds_set (i := 6) nd rfl (by first | exact loc_b rfl | exact Or.inl rfl | exact Or.inr rfl) (by decide) ?_ (hf := by first | exact fn_b rfl | exact .inl rfl | exact .inr rfl)
  | refine ds_set (i := 7) nd rfl (by first | exact loc_b rfl | exact Or.inl rfl | exact Or.inr rfl) (by decide) ?_ (hf := by first | exact fn_b rfl | exact .inl rfl | exact .inr rfl)
  | refine ds_set (i := 8) nd rfl (by first | exact loc_b rfl | exact Or.inl rfl | exact Or.inr rfl) (by decide) ?_ (hf := by first | exact fn_b rfl | exact .inl rfl | exact .inr rfl)
  | refine ds_set (i := 9) nd rfl (by first | exact loc_b rfl | exact Or.inl rfl | exact Or.inr rfl) (by decide) ?_ (hf := by first | exact fn_b rfl | exact .inl rfl | exact .inr rfl)
  | refine ds_set (i := 10) nd rfl (by first | exact loc_b rfl | exact Or.inl rfl | exact Or.inr rfl) (by decide) ?_ (hf := by first | exact fn_b rfl | exact .inl rfl | exact .inr rfl)
  | refine ds_set (i := 11) nd rfl (by first | exact loc_b rfl | exact Or.inl rfl | exact Or.inr rfl) (by decide) ?_ (hf := by first | exact fn_b rfl | exact .inl rfl | exact .inr rfl)
  | refine ds_set (i := 12) nd rfl (by first | exact loc_b rfl | exact Or.inl rfl | exact Or.inr rfl) (by decide) ?_ (hf := by first | exact fn_b rfl | exact .inl rfl | exact .inr rfl)
  | refine ds_set (i := 13) nd rfl (by first | exact loc_b rfl | exact Or.inl rfl | exact Or.inr rfl) (by decide) ?_ (hf := by first | exact fn_b rfl | exact .inl rfl | exact .inr rfl)
  | refine ds_set (i := 14) nd rfl (by first | exact loc_b rfl | exact Or.inl rfl | exact Or.inr rfl) (by decide) ?_ (hf := by first | exact fn_b rfl | exact .inl rfl | exact .inr rfl)
  | refine ds_set (i := 15) nd rfl (by first | exact loc_b rfl | exact Or.inl rfl | exact Or.inr rfl) (by decide) ?_ (hf := by first | exact fn_b rfl | exact .inl rfl | exact .inr rfl)
  | refine ds_set (i := 16) nd rfl (by first | exact loc_b rfl | exact Or.inl rfl | exact Or.inr rfl) (by decide) ?_ (hf := by first | exact fn_b rfl | exact .inl rfl | exact .inr rfl))
local macro_rules | `(tactic| walk_at "s1") => `(tactic| first
  | (with_reducible show DS _ _ (Stmt.Assign [Expr.Name _ _] _ _) _ _); walk_at "set"
  | with_reducible refine ds_ret ?_
  | with_reducible refine ds_if ?_
  | refine ds_store hu1 ?_
  | (with_reducible show DS _ _ (Stmt.Expr _ _) _ _); refine ds_expr ?_)
local macro_rules | `(tactic| walk_at "ss1") => `(tactic| first
  | refine dss_cons ?_
  | refine dss_nil ?_)
local macro_rules | `(tactic| walk_at "d1") => `(tactic| first
  | (with_reducible show DE _ _ _ _ _); walk_at "e1"
  | (with_reducible show Op2 _ _ _ _ _ _ _); walk_at "o2"
  | (with_reducible show DA _ _ _ _ _); walk_at "a1"
  | (with_reducible show DT _ _ _ _ _); walk_at "t1"
  | (with_reducible show DTs _ _ _ _ _); first | with_reducible refine dts_one ?_ | with_reducible refine dts_nil ?_
  | (with_reducible show DO _ _ _ _ _); first | with_reducible refine do_none ?_ | with_reducible refine do_some ?_
  | (with_reducible show DW _ _ _ _ _); walk_at "w1"
  | (with_reducible show DSs _ _ _ _ _); walk_at "ss1"
  | (with_reducible show DS _ _ _ _ _); walk_at "s1"
  | (with_reducible show Op1 _ _ _ _ _ _); walk_at "o1"
  | (with_reducible show OpA _ _ _ _ _ _); walk_at "oa"
  | (with_reducible show ∃ _, _); walk_at "x1"
  | (with_reducible show DEnds.nx _ _); dsimp only
  | (with_reducible show if _ = true then _ else _); first | refine if_t rfl ?_ | refine if_f rfl ?_
  | (with_reducible show DEnds.rt _ _ _); dsimp only
  | (with_reducible show _ ∧ _); refine ⟨(by walk_at "side"), ?_⟩)
local macro_rules | `(tactic| walk_at "d") => `(tactic| repeat walk_at "d1")
local macro_rules | `(tactic| walk_at "var") => `(tactic| first
  | (with_reducible show DE _ _ (Expr.Name "_law_yard" _) _ _); first | refine de_var (i := 0) rfl (by walk_at "vis") rfl ?_ | refine de_var_ow (i := 0) (by decide) rfl (by walk_at "vis") rfl ?_
  | (with_reducible show DE _ _ (Expr.Name "_law_path" _) _ _); first | refine de_var (i := 1) rfl (by walk_at "vis") rfl ?_ | refine de_var_ow (i := 1) (by decide) rfl (by walk_at "vis") rfl ?_
  | (with_reducible show DE _ _ (Expr.Name "_law_who" _) _ _); first | refine de_var (i := 2) rfl (by walk_at "vis") rfl ?_ | refine de_var_ow (i := 2) (by decide) rfl (by walk_at "vis") rfl ?_
  | (with_reducible show DE _ _ (Expr.Name "_law_glasses" _) _ _); first | refine de_var (i := 3) rfl (by walk_at "vis") rfl ?_ | refine de_var_ow (i := 3) (by decide) rfl (by walk_at "vis") rfl ?_
  | (with_reducible show DE _ _ (Expr.Name "_law_some" _) _ _); first | refine de_var (i := 4) rfl (by walk_at "vis") rfl ?_ | refine de_var_ow (i := 4) (by decide) rfl (by walk_at "vis") rfl ?_
  | (with_reducible show DE _ _ (Expr.Name "_law_total" _) _ _); first | refine de_var (i := 5) rfl (by walk_at "vis") rfl ?_ | refine de_var_ow (i := 5) (by decide) rfl (by walk_at "vis") rfl ?_
  | (with_reducible show DE _ _ (Expr.Name "_law_k" _) _ _); first | refine de_var (i := 6) rfl (by walk_at "vis") rfl ?_ | refine de_var_ow (i := 6) (by decide) rfl (by walk_at "vis") rfl ?_
  | (with_reducible show DE _ _ (Expr.Name "_law_glass" _) _ _); first | refine de_var (i := 7) rfl (by walk_at "vis") rfl ?_ | refine de_var_ow (i := 7) (by decide) rfl (by walk_at "vis") rfl ?_
  | (with_reducible show DE _ _ (Expr.Name "_law_face" _) _ _); first | refine de_var (i := 8) rfl (by walk_at "vis") rfl ?_ | refine de_var_ow (i := 8) (by decide) rfl (by walk_at "vis") rfl ?_
  | (with_reducible show DE _ _ (Expr.Name "_law_count" _) _ _); first | refine de_var (i := 9) rfl (by walk_at "vis") rfl ?_ | refine de_var_ow (i := 9) (by decide) rfl (by walk_at "vis") rfl ?_
  | (with_reducible show DE _ _ (Expr.Name "_law_whom" _) _ _); first | refine de_var (i := 10) rfl (by walk_at "vis") rfl ?_ | refine de_var_ow (i := 10) (by decide) rfl (by walk_at "vis") rfl ?_)
local macro_rules | `(tactic| walk_at "set") => `(tactic| first
  | (with_reducible show DS _ _ (Stmt.Assign [Expr.Name "_law_yard" _] _ _) _ _); refine ds_set (i := 0) nd rfl (loc_b rfl) (by decide) ?_ (hf := fn_b rfl)
  | (with_reducible show DS _ _ (Stmt.Assign [Expr.Name "_law_path" _] _ _) _ _); refine ds_set (i := 1) nd rfl (loc_b rfl) (by decide) ?_ (hf := fn_b rfl)
  | (with_reducible show DS _ _ (Stmt.Assign [Expr.Name "_law_who" _] _ _) _ _); refine ds_set (i := 2) nd rfl (loc_b rfl) (by decide) ?_ (hf := fn_b rfl)
  | (with_reducible show DS _ _ (Stmt.Assign [Expr.Name "_law_glasses" _] _ _) _ _); refine ds_set (i := 3) nd rfl (loc_b rfl) (by decide) ?_ (hf := fn_b rfl)
  | (with_reducible show DS _ _ (Stmt.Assign [Expr.Name "_law_some" _] _ _) _ _); refine ds_set (i := 4) nd rfl (loc_b rfl) (by decide) ?_ (hf := fn_b rfl)
  | (with_reducible show DS _ _ (Stmt.Assign [Expr.Name "_law_total" _] _ _) _ _); refine ds_set (i := 5) nd rfl (loc_b rfl) (by decide) ?_ (hf := fn_b rfl)
  | (with_reducible show DS _ _ (Stmt.Assign [Expr.Name "_law_k" _] _ _) _ _); refine ds_set (i := 6) nd rfl (loc_b rfl) (by decide) ?_ (hf := fn_b rfl)
  | (with_reducible show DS _ _ (Stmt.Assign [Expr.Name "_law_glass" _] _ _) _ _); refine ds_set (i := 7) nd rfl (loc_b rfl) (by decide) ?_ (hf := fn_b rfl)
  | (with_reducible show DS _ _ (Stmt.Assign [Expr.Name "_law_face" _] _ _) _ _); refine ds_set (i := 8) nd rfl (loc_b rfl) (by decide) ?_ (hf := fn_b rfl)
  | (with_reducible show DS _ _ (Stmt.Assign [Expr.Name "_law_count" _] _ _) _ _); refine ds_set (i := 9) nd rfl (loc_b rfl) (by decide) ?_ (hf := fn_b rfl)
  | (with_reducible show DS _ _ (Stmt.Assign [Expr.Name "_law_whom" _] _ _) _ _); refine ds_set (i := 10) nd rfl (loc_b rfl) (by decide) ?_ (hf := fn_b rfl))
section
variable {P : Program} {w : World} {K : PySem.W.Frag} {mg : Str → Option Value} {base : Heap} {f : Addr} {fd : FuncData}
theorem dmerge_none {k : Key} : ∀ {kvs acc : List (Key × D)}, (∀ p ∈ kvs, p.1 ≠ k) → dget (dmerge acc kvs) k = dget acc k
  | [], acc, _ => rfl
  | p :: r, acc, h => by
    show dget (dmerge (dput acc p.1 p.2) r) k = _
    rw [dmerge_none fun q hq => h q (List.mem_cons_of_mem _ hq), dget_dput, if_neg (h p (List.mem_cons_self ..))]
theorem dmerge_some {k : Key} {v : D} : ∀ {kvs acc : List (Key × D)}, (k, v) ∈ kvs → (∀ v', (k, v') ∈ kvs → v' = v) → dget (dmerge acc kvs) k = some v
  | [], acc, h, _ => nomatch h
  | p :: r, acc, h, u => by
    show dget (dmerge (dput acc p.1 p.2) r) k = _
    by_cases e : ∃ q ∈ r, q.1 = k
    · obtain ⟨q, hq, e⟩ := e
      have hq' : (k, q.2) ∈ r := by rw [← e]; exact hq
      have e2 := u q.2 (List.mem_cons_of_mem _ hq')
      rw [e2] at hq'
      exact dmerge_some hq' fun v' hv' => u v' (List.mem_cons_of_mem _ hv')
    · rw [dmerge_none fun q hq z => e ⟨q, hq, z⟩, dget_dput]
      rcases List.mem_cons.mp h with z | z
      · rw [← z, if_pos rfl]
      · exact absurd ⟨_, z, rfl⟩ e
def pairK (p : Str × Int) : Key × D := (.inr p.1, .int p.2)
theorem glasses_get {ti : List (Str × Str × Int)} (u : Uni ti) {n m : Str} {L : List (Str × Int)} (hL : L.Perm (nbr ti n)) : dget (dmerge [] (L.map pairK)) (.inr m) = (glass n m ti).map .int := by
  cases hg : glass n m ti with
  | none =>
    rw [dmerge_none]
    · rfl
    · intro p hp e
      obtain ⟨q, hq, rfl⟩ := List.mem_map.mp hp
      have e : q.1 = m := by unfold pairK at e; injection e
      have : glass n m ti = some q.2 := (glass_iff u).mpr (hL.mem_iff.mp (by rw [← e]; exact hq))
      rw [hg] at this
      cases this
  | some g =>
    have h1 : (m, g) ∈ L := hL.mem_iff.mpr ((glass_iff u).mp hg)
    refine dmerge_some (List.mem_map.mpr ⟨(m, g), h1, rfl⟩) fun v' hv' => ?_
    obtain ⟨q, hq, e⟩ := List.mem_map.mp hv'
    unfold pairK at e
    injection e with e1 e2
    have e1 : q.1 = m := by injection e1
    have : glass n m ti = some q.2 := (glass_iff u).mpr (hL.mem_iff.mp (by rw [← e1]; exact hq))
    rw [hg] at this
    rw [← e2, Option.some.inj this]
theorem pick_one {pl : List (Str × Int × Int)} (nd : (pl.map (·.1)).Nodup) {n : Str} {c : Int × Int} (h : (n, c) ∈ pl) : pl.filter (fun p => decide (p.1 = n)) = [(n, c)] := by
  induction pl with
  | nil => cases h
  | cons p l ih =>
    rw [List.map_cons, List.nodup_cons] at nd
    rcases List.mem_cons.mp h with e | e
    · subst e
      rw [List.filter_cons_of_pos (by simp)]
      congr 1
      rw [List.filter_eq_nil_iff]
      intro q hq z
      exact nd.1 (List.mem_map.mpr ⟨q, hq, of_decide_eq_true z⟩)
    · rw [List.filter_cons_of_neg, ih nd.2 e]
      intro z
      exact nd.1 (List.mem_map.mpr ⟨(n, c), e, (of_decide_eq_true z).symm⟩)
abbrev N__law_card : List Str := ["_law_yard", "_law_path", "_law_who", "_law_glasses", "_law_some", "_law_total", "_law_k", "_law_glass", "_law_face", "_law_count", "_law_whom"]
theorem nd__law_card : N__law_card.Nodup := by decide +kernel
theorem sc__law_card : FnScope N__law_card ["_law_yard", "_law_path", "_law_who"] (defScope s__law_card) := ⟨rfl, rfl, rfl, nd__law_card, rfl, by decide +kernel, by decide +kernel⟩
def S__law_card : FSp := fS (fun a : Hall × List Str × Str × (Int × Int) => [.fz (hallD a.1), .fz (.lst (a.2.1.map .str)), .fz (.str a.2.2.1)]) (fun a => Sound a.1 ∧ Uni a.1.ti ∧ 0 ≤ a.1.w ∧ a.2.1.length ≤ 1000 ∧ (a.2.2.1, a.2.2.2) ∈ a.1.pl) (fun a => .fz (cardD (cardSum a.1.w a.2.2.2 (a.2.1.filterMap fun m => glass a.2.2.1 m a.1.ti))))
theorem ok__law_card {fR fB : Addr} {fdR fdB : FuncData} (B : Bi mg) (F_round : FnP K "_law_round" s__law_round fR fdR) (g_round : mg "_law_round" = some (.ref fR)) (F_beside : FnP K "_law_beside" s__law_beside fB fdB) (g_beside : mg "_law_beside" = some (.ref fB))
    (F : FnP K "_law_card" s__law_card f fd) : FnOk P w K mg base CX0 2 f fd ["_law_yard", "_law_path", "_law_who"] (spOf K [] 3 S__law_card) := by
  have n_dict := B.dict; have n_len := B.len; have n_enumerate := B.enumerate
  have G_round : FnOk P w K mg base CX0 1 fR fdR _ _ := ok__law_round F_round
  have b_round : Binds K fdR ["_law_size", "_law_amount"] [] := F_round.bindsN fun _ _ _ _ _ _ us hl => match us, hl with | [_, _], _ => rfl
  have G_beside : FnOk P w K mg base CX0 1 fB fdB _ _ := ok__law_beside B F_beside
  have b_beside : Binds K fdB ["_law_links_here", "_law_who"] [] := F_beside.bindsN fun _ _ _ _ _ _ us hl => match us, hl with | [_, _], _ => rfl
  refine fn_ok (S := S__law_card) 8 (by decide) (by decide) F sc__law_card fun cdv A outer s H E b cs Post hr hcl hS => ?_
  obtain ⟨⟨h, path, who, fa, nu⟩, rfl, ⟨hh, hun, hw, hpl, hc⟩, q⟩ := hS
  have hh : Sound h := hh
  have hun : Uni h.ti := hun
  have hw : 0 ≤ h.w := hw
  have hpl : path.length ≤ 1000 := hpl
  have hc : (who, fa, nu) ∈ h.pl := hc
  have hu : (A.deeper (envOfC "_law_card" (defScope s__law_card) s.heap.objs.size f cdv)).units + 64 < cLine := hr.units
  have hu1 : (A.deeper (envOfC "_law_card" (defScope s__law_card) s.heap.objs.size f cdv)).units + 1 < cLine := by omega
  have nd := nd__law_card
  change DSs _ b _ [.fz (hallD h), .fz (.lst (path.map .str)), .fz (.str who), .no, .no, .no, .no, .no, .no, .no, .no] _
  walk_at "d"
  refine de_call G_beside fN_mono (hr.mono (by decide)) rfl g_beside F_beside.kp b_beside ?_
  walk_at "d"
  have htok : ∀ t ∈ h.ti, PyData.strOk t.1 = true ∧ PyData.strOk t.2.1 = true := fun t ht => ⟨hh.ok _ (hh.mem t ht).1, hh.ok _ (hh.mem t ht).2⟩
  refine ⟨(true, h.ti, who), rfl, ⟨hh.ti, htok⟩, fun L hL e => ?_⟩
  have hL : L.Perm (nbr h.ti who) := hL
  walk_at "d"
  refine dict_c (.ow _) (kvs := L.map pairK) (by rw [List.map_map]; rfl) ?_
  have hget : ∀ m, dget (dmerge [] (L.map pairK)) (.inr m) = (glass who m h.ti).map .int := fun m => glasses_get hun hL
  revert hget
  generalize dmerge [] (L.map pairK) = gl
  intro hget
  walk_at "d"
  refine ds_asg ?_
  walk_at "d"
  refine de_lc [("_law_whom", 10), ("_law_face", 8), ("_law_count", 9)] rfl nd (by change BlkOk N__law_card (defScope s__law_card) _ _; walk_at "blk") (by simp) ?_
  refine DI.a (di_tuple ?_)
  walk_at "d"
  have hpl1 := hh.pl
  refine ⟨by simp; omega, fun k acc e => acc = ((h.pl.take k).filter (fun p => decide (p.1 = who))).map (fun p => cardD p.2) ∧ e = [.fz (hallD h), .fz (.lst (path.map .str)), .fz (.str who), .ow (.dk gl), .no, .no, .no, .no, .no, .no, .no], ⟨rfl, rfl⟩, ?_, ?_, ?_⟩
  · rintro k acc e ⟨rfl, rfl⟩
    refine ⟨trivial, ?_, by simp⟩
    rw [List.length_map]
    exact Nat.le_trans (List.length_filter_le _ _) (by rw [List.length_take]; omega)
  · rintro k d acc e hd ⟨rfl, rfl⟩ s1 H1 C1 cl1 fp1
    rw [List.getElem?_map] at hd
    cases hp : h.pl[k]? with
    | none => rw [hp] at hd; cases hd
    | some p =>
      rw [hp] at hd
      cases hd
      obtain ⟨na, f1, n1⟩ := p
      have ht : h.pl.take (k + 1) = h.pl.take k ++ [(na, f1, n1)] := by rw [List.take_add_one, hp]; rfl
      refine dgo_tup (is := [10, 8, 9]) rfl nd (by walk_at "puts") rfl rfl rfl (by simp) ?_
      intro s2 H2 C2 cl2 fp2
      walk_at "d"
      refine ite_b (fun hf => ?_) (fun hf => ?_)
      · have hf : na = who := of_decide_eq_true hf
        intro s3 H3 C3 cl3 fp3
        walk_at "d"
        refine ⟨?_, rfl⟩
        rw [ht]
        simp [hf, cardD]
      · have hf : ¬ na = who := of_decide_eq_false hf
        refine ⟨?_, rfl⟩
        rw [ht]
        simp [hf]
  rintro acc e ⟨rfl, rfl⟩
  have e0 : h.pl.take (h.pl.map placeD).length = h.pl := by simp
  rw [e0, pick_one hh.nd hc]
  walk_at "d"
  refine dg_tup (is := [8, 9]) rfl nd (by walk_at "puts") rfl rfl rfl (by simp) ?_
  refine dss_cons (ds_setLc (i := 4) [("_law_whom", 10)] rfl nd rfl rfl (sw_true rfl rfl rfl (by decide +kernel)) (by change BlkOk N__law_card (defScope s__law_card) _ _; walk_at "blk") (by simp) (by simp) ?_)
  refine DI.a (di_list ?_)
  walk_at "var"
  refine ⟨_, .inl rfl, ?_⟩
  refine ⟨by simp; omega, fun k acc e => acc = ((path.take k).filterMap (fun m => glass who m h.ti)).map .int ∧ e = [.fz (hallD h), .fz (.lst (path.map .str)), .fz (.str who), .ow (.dk gl), .no, .no, .no, .no, .fz (.int fa), .fz (.int nu), .no], ⟨rfl, rfl⟩, ?_, ?_, ?_⟩
  · rintro k acc e ⟨rfl, rfl⟩
    refine ⟨trivial, ?_, by simp⟩
    rw [List.length_map]
    exact Nat.le_trans (List.length_filterMap_le _ _) (by rw [List.length_take]; omega)
  · rintro k d acc e hd ⟨rfl, rfl⟩ s1 H1 C1 cl1 fp1
    rw [List.getElem?_map] at hd
    cases hp : path[k]? with
    | none => rw [hp] at hd; cases hd
    | some na =>
      rw [hp] at hd
      cases hd
      have ht : path.take (k + 1) = path.take k ++ [na] := by rw [List.take_add_one, hp]; rfl
      refine dgo_name (i := 10) nd rfl (loc_b rfl) (fn_b rfl) (by decide) (by simp) (by simp) (fun j z => nomatch z) ?_
      intro s2 H2 C2 cl2 fp2
      have hgna := hget na
      walk_at "d"
      refine in_dk (k := .inr na) (.fz _) (.al rfl) rfl ?_
      walk_at "d"
      refine ite_b (fun hf => ?_) (fun hf => ?_)
      · have hf : (dget gl (.inr na)).isSome = true := hf
        cases hg : glass who na h.ti with
        | none => rw [hgna, hg] at hf; cases hf
        | some g =>
          rw [hg] at hgna
          have hgna : dget gl (.inr na) = some (.int g) := hgna
          intro s3 H3 C3 cl3 fp3
          walk_at "d"
          refine ⟨?_, rfl⟩
          rw [ht, List.filterMap_append]
          simp [hg]
      · have hf : (dget gl (.inr na)).isSome = false := hf
        have hg : glass who na h.ti = none := by
          cases hg : glass who na h.ti with
          | none => rfl
          | some g => rw [hgna, hg] at hf; cases hf
        refine ⟨?_, rfl⟩
        rw [ht, List.filterMap_append]
        simp [hg]
  rintro acc e ⟨rfl, rfl⟩
  refine ⟨by simp, ?_⟩
  have et : path.take (path.map D.str).length = path := by simp
  rw [et]
  have hgl : (path.filterMap fun m => glass who m h.ti).length ≤ 1000 := Nat.le_trans (List.length_filterMap_le _ _) hpl
  have q : ∀ e, Post (.fz (cardD (cardSum h.w (fa, nu) (path.filterMap fun m => glass who m h.ti)))) e := q
  revert hgl q
  generalize (path.filterMap fun m => glass who m h.ti) = gs
  intro hgl q
  have hgm : (gs.map D.int).length = gs.length := List.length_map ..
  walk_at "d"
  refine ds_for rfl PassesOwn.never ?_
  refine di_enum rfl n_enumerate ?_
  refine de_revL ?_
  walk_at "var"
  refine ⟨_, .al rfl, ?_⟩
  refine ⟨_, .inr rfl, ?_⟩
  refine ⟨fun k e => ∃ (c6 c7 : Cell), e = [.fz (hallD h), .fz (.lst (path.map .str)), .fz (.str who), .ow (.dk gl), .ow (.lst (gs.map .int)), .fz (.int (nu * sgn gs.length + altS (gs.drop (gs.length - k)))), c6, c7, .fz (.int fa), .fz (.int nu), .no], ⟨.no, .no, ?_⟩, fun _ _ _ => trivial, ?_, ?_⟩
  · have e1 : nu * (1 - 2 * (((gs.map D.int).length : Nat) : Int) % 2) = nu * (1 - 2 * (((gs.map D.int).length : Nat) : Int) % 2) := rfl
    have e2 : (1 - 2 * ((((gs.map D.int).length : Nat) : Int) % 2)) = sgn gs.length := by rw [hgm]; unfold sgn; omega
    rw [Nat.sub_zero, List.drop_length]
    show _ = [_, _, _, _, _, Cell.fz (.int (nu * sgn gs.length + 0)), _, _, _, _, _]
    rw [← e2, Int.add_zero]
    rfl
  · rintro k d e hd ⟨c6, c7, rfl⟩
    obtain ⟨d', hd', rfl⟩ := enumD_get _ _ _ _ hd
    rw [← List.map_reverse, List.getElem?_map] at hd'
    cases hx : gs.reverse[k]? with
    | none => rw [hx] at hd'; cases hd'
    | some g =>
      rw [hx] at hd'
      cases hd'
      have hk : k < gs.length := by have := (List.getElem?_eq_some_iff.mp hx).1; simpa using this
      rw [List.getElem?_reverse hk, List.getElem?_eq_getElem (by omega)] at hx
      have hx := Option.some.inj hx
      have hdr : gs.drop (gs.length - (k + 1)) = g :: gs.drop (gs.length - k) := by
        rw [List.drop_eq_getElem_cons (by omega)]
        congr 1
        · rw [← hx]; congr 1; omega
        · congr 1; omega
      have hsum : nu * sgn gs.length + altS (gs.drop (gs.length - k)) + g * (1 - 2 * (((0 + k : Nat) : Int) % 2)) = nu * sgn gs.length + altS (gs.drop (gs.length - (k + 1))) := by
        rw [hdr, altS, List.length_drop, show gs.length - (gs.length - k) = k by omega, show (1 - 2 * (((0 + k : Nat) : Int) % 2)) = sgn k by unfold sgn; omega]
        omega
      refine dg_tup (is := [6, 7]) rfl nd (by walk_at "puts") rfl rfl rfl (by simp) ?_
      walk_at "d"
      rw [hsum]
      exact ⟨_, _, rfl⟩
  rintro e ⟨c6, c7, rfl⟩
  have ez : gs.length - (enumD 0 (gs.map D.int).reverse).length = 0 := by rw [enumD_len]; simp
  rw [ez, List.drop_zero]
  walk_at "d"
  refine de_call G_round fS_mono (hr.mono (by decide)) rfl g_round F_round.kp b_round ?_
  walk_at "d"
  refine ⟨(h.w, nu * sgn gs.length + altS gs), rfl, hw, fun e => ?_⟩
  walk_at "d"
  refine fz_eq (q _) ?_
  show D.tup [.int ((fa + (gs.length : Int)) % 2), .int (counted h.w (nu * sgn gs.length + altS gs))] = .tup [.int ((fa + ((gs.map D.int).length : Int)) % 2), .int (counted h.w (nu * sgn gs.length + altS gs))]
  rw [hgm]
end
end K13



set_option Elab.async false
set_option linter.all false
set_option maxRecDepth 100000
set_option maxHeartbeats 1000000
set_option pp.deepTerms false
set_option pp.deepTerms.threshold 6
set_option pp.oneline false
set_option pp.proofs false
namespace K13
open PySem PySem.Spec PyProof.Rows L2 DL
set_option hygiene false
local macro_rules | `(tactic| walk_at "vw") => `(tactic| first
  | (with_reducible show Vw _ (Cell.fz _) _); exact Vw.fz _
  | (with_reducible show Vw _ (Cell.al _) _); exact Vw.al rfl
  | (with_reducible show Vw _ (Cell.ow _) _); exact Vw.ow _ rfl
  | exact Vw.fz _
  | exact Vw.al rfl
  | exact Vw.ow _ rfl)
local macro_rules | `(tactic| walk_at "puts") => `(tactic| repeat (first | exact DL.Puts.nil | refine DL.Puts.cons rfl (loc_b rfl) (fn_b rfl) rfl ?_))
local macro_rules | `(tactic| walk_at "blk") => `(tactic| exact ⟨rfl, by decide +kernel, by decide +kernel, by decide +kernel, by decide +kernel⟩)
local macro_rules | `(tactic| walk_at "vis") => `(tactic| first
  | exact vis_b rfl
  | exact Or.inl rfl
  | exact Or.inr (Or.inl rfl)
  | exact Or.inr (Or.inr rfl))
local macro_rules | `(tactic| walk_at "side") => `(tactic| first
  | assumption
  | omega
  | (simp only [List.length_set, List.length_cons, List.length_nil]; omega)
  | (simp only [DL.setAll, List.length_set, List.length_cons, List.length_nil]; omega)
  | exact fun j z => (nomatch z)
  | (refine Or.inl ⟨?_, ?_⟩ <;> omega)
  | (refine Or.inr ⟨?_, ?_⟩ <;> omega)
  | decide
  | ((with_reducible show _ = _); rfl))
local macro_rules | `(tactic| walk_at "var") => `(tactic| first
  | refine de_var (i := 0) rfl (by walk_at "vis") rfl ?_ | refine de_var_ow (i := 0) (by decide) rfl (by walk_at "vis") rfl ?_
  | refine de_var (i := 1) rfl (by walk_at "vis") rfl ?_ | refine de_var_ow (i := 1) (by decide) rfl (by walk_at "vis") rfl ?_
  | refine de_var (i := 2) rfl (by walk_at "vis") rfl ?_ | refine de_var_ow (i := 2) (by decide) rfl (by walk_at "vis") rfl ?_
  | refine de_var (i := 3) rfl (by walk_at "vis") rfl ?_ | refine de_var_ow (i := 3) (by decide) rfl (by walk_at "vis") rfl ?_
  | refine de_var (i := 4) rfl (by walk_at "vis") rfl ?_ | refine de_var_ow (i := 4) (by decide) rfl (by walk_at "vis") rfl ?_
  | refine de_var (i := 5) rfl (by walk_at "vis") rfl ?_ | refine de_var_ow (i := 5) (by decide) rfl (by walk_at "vis") rfl ?_
  | refine de_var (i := 6) rfl (by walk_at "vis") rfl ?_ | refine de_var_ow (i := 6) (by decide) rfl (by walk_at "vis") rfl ?_
  | refine de_var (i := 7) rfl (by walk_at "vis") rfl ?_ | refine de_var_ow (i := 7) (by decide) rfl (by walk_at "vis") rfl ?_
  | refine de_var (i := 8) rfl (by walk_at "vis") rfl ?_ | refine de_var_ow (i := 8) (by decide) rfl (by walk_at "vis") rfl ?_
  | refine de_var (i := 9) rfl (by walk_at "vis") rfl ?_ | refine de_var_ow (i := 9) (by decide) rfl (by walk_at "vis") rfl ?_
  | refine de_var (i := 10) rfl (by walk_at "vis") rfl ?_ | refine de_var_ow (i := 10) (by decide) rfl (by walk_at "vis") rfl ?_
  | refine de_var (i := 11) rfl (by walk_at "vis") rfl ?_ | refine de_var_ow (i := 11) (by decide) rfl (by walk_at "vis") rfl ?_
  | refine de_var (i := 12) rfl (by walk_at "vis") rfl ?_ | refine de_var_ow (i := 12) (by decide) rfl (by walk_at "vis") rfl ?_
  | refine de_var (i := 13) rfl (by walk_at "vis") rfl ?_ | refine de_var_ow (i := 13) (by decide) rfl (by walk_at "vis") rfl ?_
  | refine de_var (i := 14) rfl (by walk_at "vis") rfl ?_ | refine de_var_ow (i := 14) (by decide) rfl (by walk_at "vis") rfl ?_
  | refine de_var (i := 15) rfl (by walk_at "vis") rfl ?_ | refine de_var_ow (i := 15) (by decide) rfl (by walk_at "vis") rfl ?_
  | refine de_var (i := 16) rfl (by walk_at "vis") rfl ?_ | refine de_var_ow (i := 16) (by decide) rfl (by walk_at "vis") rfl ?_)
local macro_rules | `(tactic| walk_at "const") => `(tactic| first
  | with_reducible refine de_int ?_
  | with_reducible refine de_str ?_
  | with_reducible refine de_bl ?_
  | with_reducible refine de_non ?_)
local macro_rules | `(tactic| walk_at "e1") => `(tactic| first
  | (with_reducible show DE _ _ (Expr.Name _ _) _ _); walk_at "var"
  | (with_reducible show DE _ _ (Expr.Constant _ _ _) _ _); walk_at "const"
  | (with_reducible show DE _ _ (Expr.Call (Expr.Name _ _) _ [] _) _ _); walk_at "bi"
  | with_reducible refine de_add ?_
  | with_reducible refine de_sub ?_
  | with_reducible refine de_mul ?_
  | with_reducible refine de_mod ?_
  | with_reducible refine de_div ?_
  | with_reducible refine de_pow ?_
  | with_reducible refine de_neg ?_
  | with_reducible refine de_tuple ?_
  | with_reducible refine de_list ?_
  | with_reducible refine de_ifExp ?_
  | with_reducible refine de_not ?_
  | with_reducible refine de_bool1 ?_
  | with_reducible refine de_and ?_
  | with_reducible refine de_or ?_
  | with_reducible refine de_revL ?_
  | with_reducible refine de_slice ?_
  | (with_reducible show DE _ _ (Expr.Subscript _ _ _) _ _); refine de_ix hu1 (fun _ _ => rfl) ?_
  | (with_reducible show DE _ _ (Expr.Compare _ [CmpOp.Is] _ _) _ _); refine de_isN ?_
  | (with_reducible show DE _ _ (Expr.Compare _ [CmpOp.Eq] _ _) _ _); refine de_cmp (op_eqAll hu) (nobehind _ (by decide) (by decide)) ?_
  | (with_reducible show DE _ _ (Expr.Compare _ [CmpOp.NotEq] _ _) _ _); refine de_cmp (op_neAll hu) (nobehind _ (by decide) (by decide)) ?_
  | (with_reducible show DE _ _ (Expr.Compare _ [CmpOp.Lt] _ _) _ _); refine de_cmp op_ltAll (nobehind _ (by decide) (by decide)) ?_
  | (with_reducible show DE _ _ (Expr.Compare _ [CmpOp.LtE] _ _) _ _); refine de_cmp op_leAll (nobehind _ (by decide) (by decide)) ?_
  | (with_reducible show DE _ _ (Expr.Compare _ [CmpOp.Gt] _ _) _ _); refine de_cmp op_gtAll (nobehind _ (by decide) (by decide)) ?_
  | (with_reducible show DE _ _ (Expr.Compare _ [CmpOp.GtE] _ _) _ _); refine de_cmp op_geAll (nobehind _ (by decide) (by decide)) ?_
  | (with_reducible show DE _ _ (Expr.Compare _ [CmpOp.In] _ _) _ _); refine de_cmp (op_inAll hu1) rfl ?_
  | (with_reducible show DE _ _ (Expr.Compare _ [CmpOp.NotIn] _ _) _ _); refine de_cmp (op_notInAll hu1) rfl ?_
  | (with_reducible show DE _ _ (Expr.Call (Expr.Attribute _ "append" _) [_] _ _) _ _); refine de_append ?_
  | (with_reducible show DE _ _ (Expr.Call (Expr.Attribute _ "pop" _) [_] _ _) _ _); refine de_popAt ?_
  | (with_reducible show DE _ _ (Expr.Call (Expr.Attribute _ "join" _) [_] _ _) _ _); refine de_join ?_)
local macro_rules | `(tactic| walk_at "bi") => `(tactic| first
  | (with_reducible show DE _ _ (Expr.Call (Expr.Name "isinstance" _) [_, Expr.Name "list" _] [] _) _ _); refine de_isi1 rfl n_isinstance rfl n_list boot_list ?_
  | (with_reducible show DE _ _ (Expr.Call (Expr.Name "isinstance" _) [_, Expr.Name "tuple" _] [] _) _ _); refine de_isi1 rfl n_isinstance rfl n_tuple boot_tuple ?_
  | (with_reducible show DE _ _ (Expr.Call (Expr.Name "isinstance" _) [_, Expr.Name "str" _] [] _) _ _); refine de_isi1 rfl n_isinstance rfl n_str boot_str ?_
  | (with_reducible show DE _ _ (Expr.Call (Expr.Name "isinstance" _) [_, Expr.Name "bool" _] [] _) _ _); refine de_isi1 rfl n_isinstance rfl n_bool boot_bool ?_
  | (with_reducible show DE _ _ (Expr.Call (Expr.Name "isinstance" _) [_, Expr.Name "int" _] [] _) _ _); refine de_isi1 rfl n_isinstance rfl n_int boot_int ?_
  | (with_reducible show DE _ _ (Expr.Call (Expr.Name "isinstance" _) [_, Expr.Tuple [Expr.Name "list" _, Expr.Name "tuple" _] _ _] [] _) _ _); refine de_isi2 rfl n_isinstance rfl n_list boot_list rfl n_tuple boot_tuple ?_
  | (with_reducible show DE _ _ (Expr.Call (Expr.Name "isinstance" _) [_, Expr.Tuple [Expr.Name "str" _, Expr.Name "bool" _] _ _] [] _) _ _); refine de_isi2 rfl n_isinstance rfl n_str boot_str rfl n_bool boot_bool ?_
  | (with_reducible show DE _ _ (Expr.Call (Expr.Name "len" _) _ [] _) _ _); refine de_callB call_lenA rfl n_len boot_len ?_
  | (with_reducible show DE _ _ (Expr.Call (Expr.Name "abs" _) _ [] _) _ _); refine de_callB call_abs rfl n_abs boot_abs ?_
  | (with_reducible show DE _ _ (Expr.Call (Expr.Name "int" _) _ [] _) _ _); refine de_callTy call_int1 rfl n_int boot_int ?_
  | (with_reducible show DE _ _ (Expr.Call (Expr.Name "list" _) _ [] _) _ _); refine de_callTy call_list_of rfl n_list boot_list ?_
  | (with_reducible show DE _ _ (Expr.Call (Expr.Name "tuple" _) _ [] _) _ _); refine de_callTy call_tuple_of rfl n_tuple boot_tuple ?_
  | (with_reducible show DE _ _ (Expr.Call (Expr.Name "sorted" _) _ [] _) _ _); refine de_callB (cr_sortD hu) rfl n_sorted boot_sorted ?_
  | (with_reducible show DE _ _ (Expr.Call (Expr.Name "sum" _) _ [] _) _ _); refine de_callB (cr_sum rfl) rfl n_sum boot_sum ?_
  | (with_reducible show DE _ _ (Expr.Call (Expr.Name "all" _) _ [] _) _ _); refine de_callB (cr_all rfl) rfl n_all boot_all ?_
  | (with_reducible show DE _ _ (Expr.Call (Expr.Name "any" _) _ [] _) _ _); refine de_callB (cr_any rfl) rfl n_any boot_any ?_
  | (with_reducible show DE _ _ (Expr.Call (Expr.Name "min" _) _ [] _) _ _); refine de_callB (call_minA rfl) rfl n_min boot_min ?_
  | (with_reducible show DE _ _ (Expr.Call (Expr.Name "max" _) _ [] _) _ _); refine de_callB (call_maxA rfl) rfl n_max boot_max ?_
  | (with_reducible show DE _ _ (Expr.Call (Expr.Name "dict" _) _ [] _) _ _); refine de_callTy (call_dictP rfl) rfl n_dict boot_dict ?_)
local macro_rules | `(tactic| walk_at "oa") => `(tactic| first
  | refine len_c (by walk_at "vw") (by first | exact Ln.lst _ | exact Ln.tup _ | exact Ln.dk _) ?_
  | refine abs_c (.fz _) ?_
  | refine int_b (.fz _) ?_
  | refine int_i (.fz _) ?_
  | refine list_t (.fz _) ?_
  | refine list_l (by walk_at "vw") ?_
  | refine tuple_t (.fz _) ?_
  | refine tuple_l (by walk_at "vw") ?_
  | refine mm_str (.fz _) (.fz _) ?_
  | refine mm_int (.fz _) (.fz _) ?_)
local macro_rules | `(tactic| walk_at "t1") => `(tactic| first
  | (with_reducible show DT _ _ (Expr.Compare _ [CmpOp.Is] _ _) _ _); refine dt_isN ?_
  | (with_reducible show DT _ _ (Expr.Compare _ [CmpOp.Eq] _ _) _ _); refine dt_cmp (op_eqAll hu) (nobehind _ (by decide) (by decide)) ?_
  | (with_reducible show DT _ _ (Expr.Compare _ [CmpOp.NotEq] _ _) _ _); refine dt_cmp (op_neAll hu) (nobehind _ (by decide) (by decide)) ?_
  | (with_reducible show DT _ _ (Expr.Compare _ [CmpOp.Lt] _ _) _ _); refine dt_cmp op_ltAll (nobehind _ (by decide) (by decide)) ?_
  | (with_reducible show DT _ _ (Expr.Compare _ [CmpOp.LtE] _ _) _ _); refine dt_cmp op_leAll (nobehind _ (by decide) (by decide)) ?_
  | (with_reducible show DT _ _ (Expr.Compare _ [CmpOp.Gt] _ _) _ _); refine dt_cmp op_gtAll (nobehind _ (by decide) (by decide)) ?_
  | (with_reducible show DT _ _ (Expr.Compare _ [CmpOp.GtE] _ _) _ _); refine dt_cmp op_geAll (nobehind _ (by decide) (by decide)) ?_
  | (with_reducible show DT _ _ (Expr.Compare _ [CmpOp.In] _ _) _ _); refine dt_cmp (op_inAll hu1) rfl ?_
  | (with_reducible show DT _ _ (Expr.Compare _ [CmpOp.NotIn] _ _) _ _); refine dt_cmp (op_notInAll hu1) rfl ?_
  | with_reducible refine dt_not ?_
  | with_reducible refine dt_bool ?_
  | (with_reducible show DT _ _ (Expr.Call _ _ _ _) _ _); refine dt_val ?_)
local macro_rules | `(tactic| walk_at "w1") => `(tactic| first
  | with_reducible refine dw_and1 ?_
  | with_reducible refine dw_or1 ?_
  | with_reducible refine dw_and ?_
  | with_reducible refine dw_or ?_)
local macro_rules | `(tactic| walk_at "a1") => `(tactic| first
  | with_reducible refine da_nil ?_
  | refine da_cons ?_)
local macro_rules | `(tactic| walk_at "o2") => `(tactic| first
  | (with_reducible show Op2 _ _ (rAddAll _) _ _ _ _); first | refine add_int (.fz _) (.fz _) ?_ | refine add_str (.fz _) (.fz _) (by walk_at "side") ?_ | refine add_tup (.fz _) (.fz _) (by walk_at "side") ?_ | refine add_lst (by walk_at "vw") (by walk_at "vw") (by walk_at "side") ?_
  | (with_reducible show Op2 _ _ (rIxAll _) _ _ _ _); first | refine ix_tpl (.fz _) (.fz _) rfl ?_ | refine ix_lst (by walk_at "vw") (.fz _) rfl ?_ | refine ix_tpl (.fz _) (.fz _) (by assumption) ?_ | refine ix_lst (by walk_at "vw") (.fz _) (by assumption) ?_ | refine ix_dk (by walk_at "vw") (.fz _) (k := .inr _) rfl (by assumption) ?_
  | (with_reducible show Op2 _ _ (rEqAll _) _ _ _ _); first | refine eq_int (.fz _) (.fz _) ?_ | refine eq_str (.fz _) (.fz _) ?_ | refine eq_bl (.fz _) (.fz _) ?_
  | (with_reducible show Op2 _ _ (rNeAll _) _ _ _ _); first | refine ne_int (.fz _) (.fz _) ?_ | refine ne_str (.fz _) (.fz _) ?_ | refine ne_bl (.fz _) (.fz _) ?_
  | refine op_ib0 (.fz _) (.fz _) ?_
  | refine lt_int (.fz _) (.fz _) ?_
  | refine lt_str (.fz _) (.fz _) ?_
  | refine in_dk (by walk_at "vw") (by walk_at "vw") rfl ?_)
local macro_rules | `(tactic| walk_at "o1") => `(tactic| first
  | refine cut_t (.fz _) ?_
  | refine cut_l (by walk_at "vw") ?_)
local macro_rules | `(tactic| walk_at "x1") => `(tactic| first
  | (with_reducible show ∃ ds, AllFz _ ds ∧ _); first | refine ⟨_, (.cons (.cons .nil)), ?_⟩ | refine ⟨_, (.cons .nil), ?_⟩ | refine ⟨_, (.cons (.cons (.cons .nil))), ?_⟩ | refine ⟨_, (.cons (.cons (.cons (.cons .nil)))), ?_⟩ | refine ⟨_, .nil, ?_⟩ | refine ⟨_, (.cons (.cons (.cons (.cons (.cons .nil))))), ?_⟩ | refine ⟨_, (.cons (.cons (.cons (.cons (.cons (.cons .nil)))))), ?_⟩ | refine ⟨_, (.cons (.cons (.cons (.cons (.cons (.cons (.cons .nil))))))), ?_⟩
  | refine ⟨_, _, .fz _, rfl, kb_list rfl, ?_⟩
  | refine ⟨_, _, .fz _, rfl, kb_tuple rfl, ?_⟩
  | refine ⟨_, _, .fz _, rfl, kb_str rfl, ?_⟩
  | refine ⟨_, _, .fz _, rfl, kb_bool rfl, ?_⟩
  | refine ⟨_, _, .fz _, rfl, kb_int rfl, ?_⟩
  | refine ⟨_, _, _, .fz _, rfl, kb_list rfl, kb_tuple rfl, ?_⟩
  | refine ⟨_, _, _, .fz _, rfl, kb_str rfl, kb_bool rfl, ?_⟩
  | refine ⟨_, _, _, rfl, rfl, Put.lst rfl, ?_⟩
  | refine ⟨_, _, .fz _, .fz _, ?_⟩
  | refine ⟨_, .fz _, ?_⟩
  | refine ⟨_, rfl, ?_⟩
  | refine ⟨_, _, rfl, rfl, ?_⟩)
local macro_rules | `(tactic| walk_at "set") => `(tactic| first
  | refine ds_set (i := 0) nd rfl (by first | exact loc_b rfl | exact Or.inl rfl | exact Or.inr rfl) (by decide) ?_ (hf := by first | exact fn_b rfl | exact .inl rfl | exact .inr rfl)
  | refine ds_set (i := 1) nd rfl (by first | exact loc_b rfl | exact Or.inl rfl | exact Or.inr rfl) (by decide) ?_ (hf := by first | exact fn_b rfl | exact .inl rfl | exact .inr rfl)
  | refine ds_set (i := 2) nd rfl (by first | exact loc_b rfl | exact Or.inl rfl | exact Or.inr rfl) (by decide) ?_ (hf := by first | exact fn_b rfl | exact .inl rfl | exact .inr rfl)
  | refine ds_set (i := 3) nd rfl (by first | exact loc_b rfl | exact Or.inl rfl | exact Or.inr rfl) (by decide) ?_ (hf := by first | exact fn_b rfl | exact .inl rfl | exact .inr rfl)
  | refine ds_set (i := 4) nd rfl (by first | exact loc_b rfl | exact Or.inl rfl | exact Or.inr rfl) (by decide) ?_ (hf := by first | exact fn_b rfl | exact .inl rfl | exact .inr rfl)
  | refine ds_set (i := 5) nd rfl (by first | exact loc_b rfl | exact Or.inl rfl | exact Or.inr rfl) (by decide) ?_ (hf := by first | exact fn_b rfl | exact .inl rfl | exact .inr rfl)
  | refine ds_set (i := 6) nd rfl (by first | exact loc_b rfl | exact Or.inl rfl | exact Or.inr rfl) (by decide) ?_ (hf := by first | exact fn_b rfl | exact .inl rfl | exact .inr rfl)
  | refine ds_set (i := 7) nd rfl (by first | exact loc_b rfl | exact Or.inl rfl | exact Or.inr rfl) (by decide) ?_ (hf := by first | exact fn_b rfl | exact .inl rfl | exact .inr rfl)
  | refine ds_set (i := 8) nd rfl (by first | exact loc_b rfl | exact Or.inl rfl | exact Or.inr rfl) (by decide) ?_ (hf := by first | exact fn_b rfl | exact .inl rfl | exact .inr rfl)
  | refine ds_set (i := 9) nd rfl (by first | exact loc_b rfl | exact Or.inl rfl | exact Or.inr rfl) (by decide) ?_ (hf := by first | exact fn_b rfl | exact .inl rfl | exact .inr rfl)
  | refine ds_set (i := 10) nd rfl (by first | exact loc_b rfl | exact Or.inl rfl | exact Or.inr rfl) (by decide) ?_ (hf := by first | exact fn_b rfl | exact .inl rfl | exact .inr rfl)
  | refine ds_set (i := 11) nd rfl (by first | exact loc_b rfl | exact Or.inl rfl | exact Or.inr rfl) (by decide) ?_ (hf := by first | exact fn_b rfl | exact .inl rfl | exact .inr rfl)
  | refine ds_set (i := 12) nd rfl (by first | exact loc_b rfl | exact Or.inl rfl | exact Or.inr rfl) (by decide) ?_ (hf := by first | exact fn_b rfl | exact .inl rfl | exact .inr rfl)
  | refine ds_set (i := 13) nd rfl (by first | exact loc_b rfl | exact Or.inl rfl | exact Or.inr rfl) (by decide) ?_ (hf := by first | exact fn_b rfl | exact .inl rfl | exact .inr rfl)
  | refine ds_set (i := 14) nd rfl (by first | exact loc_b rfl | exact Or.inl rfl | exact Or.inr rfl) (by decide) ?_ (hf := by first | exact fn_b rfl | exact .inl rfl | exact .inr rfl)
  | refine ds_set (i := 15) nd rfl (by first | exact loc_b rfl | exact Or.inl rfl | exact Or.inr rfl) (by decide) ?_ (hf := by first | exact fn_b rfl | exact .inl rfl | exact .inr rfl)
  | refine ds_set (i := 16) nd rfl (by first | exact loc_b rfl | exact Or.inl rfl | exact Or.inr rfl) (by decide) ?_ (hf := by first | exact fn_b rfl | exact .inl rfl | exact .inr rfl))
local macro_rules | `(tactic| walk_at "s1") => `(tactic| first
  | (with_reducible show DS _ _ (Stmt.Assign [Expr.Name _ _] _ _) _ _); walk_at "set"
  | with_reducible refine ds_ret ?_
  | with_reducible refine ds_if ?_
  | refine ds_store hu1 ?_
  | (with_reducible show DS _ _ (Stmt.Expr _ _) _ _); refine ds_expr ?_)
local macro_rules | `(tactic| walk_at "ss1") => `(tactic| first
  | refine dss_cons ?_
  | refine dss_nil ?_)
local macro_rules | `(tactic| walk_at "d1") => `(tactic| first
  | (with_reducible show DE _ _ _ _ _); walk_at "e1"
  | (with_reducible show Op2 _ _ _ _ _ _ _); walk_at "o2"
  | (with_reducible show DA _ _ _ _ _); walk_at "a1"
  | (with_reducible show DT _ _ _ _ _); walk_at "t1"
  | (with_reducible show DTs _ _ _ _ _); first | with_reducible refine dts_one ?_ | with_reducible refine dts_nil ?_
  | (with_reducible show DO _ _ _ _ _); first | with_reducible refine do_none ?_ | with_reducible refine do_some ?_
  | (with_reducible show DW _ _ _ _ _); walk_at "w1"
  | (with_reducible show DSs _ _ _ _ _); walk_at "ss1"
  | (with_reducible show DS _ _ _ _ _); walk_at "s1"
  | (with_reducible show Op1 _ _ _ _ _ _); walk_at "o1"
  | (with_reducible show OpA _ _ _ _ _ _); walk_at "oa"
  | (with_reducible show ∃ _, _); walk_at "x1"
  | (with_reducible show DEnds.nx _ _); dsimp only
  | (with_reducible show if _ = true then _ else _); first | refine if_t rfl ?_ | refine if_f rfl ?_
  | (with_reducible show DEnds.rt _ _ _); dsimp only
  | (with_reducible show _ ∧ _); refine ⟨(by walk_at "side"), ?_⟩)
local macro_rules | `(tactic| walk_at "d") => `(tactic| repeat walk_at "d1")
local macro_rules | `(tactic| walk_at "var") => `(tactic| first
  | (with_reducible show DE _ _ (Expr.Name "_law_box_here" _) _ _); first | refine de_var (i := 0) rfl (by walk_at "vis") rfl ?_ | refine de_var_ow (i := 0) (by decide) rfl (by walk_at "vis") rfl ?_
  | (with_reducible show DE _ _ (Expr.Name "_law_yard" _) _ _); first | refine de_var (i := 1) rfl (by walk_at "vis") rfl ?_ | refine de_var_ow (i := 1) (by decide) rfl (by walk_at "vis") rfl ?_
  | (with_reducible show DE _ _ (Expr.Name "_law_path" _) _ _); first | refine de_var (i := 2) rfl (by walk_at "vis") rfl ?_ | refine de_var_ow (i := 2) (by decide) rfl (by walk_at "vis") rfl ?_
  | (with_reducible show DE _ _ (Expr.Name "_law_here" _) _ _); first | refine de_var (i := 3) rfl (by walk_at "vis") rfl ?_ | refine de_var_ow (i := 3) (by decide) rfl (by walk_at "vis") rfl ?_
  | (with_reducible show DE _ _ (Expr.Name "_law_some" _) _ _); first | refine de_var (i := 4) rfl (by walk_at "vis") rfl ?_ | refine de_var_ow (i := 4) (by decide) rfl (by walk_at "vis") rfl ?_
  | (with_reducible show DE _ _ (Expr.Name "_law_spot" _) _ _); first | refine de_var (i := 5) rfl (by walk_at "vis") rfl ?_ | refine de_var_ow (i := 5) (by decide) rfl (by walk_at "vis") rfl ?_)
local macro_rules | `(tactic| walk_at "set") => `(tactic| first
  | (with_reducible show DS _ _ (Stmt.Assign [Expr.Name "_law_box_here" _] _ _) _ _); refine ds_set (i := 0) nd rfl (loc_b rfl) (by decide) ?_ (hf := fn_b rfl)
  | (with_reducible show DS _ _ (Stmt.Assign [Expr.Name "_law_yard" _] _ _) _ _); refine ds_set (i := 1) nd rfl (loc_b rfl) (by decide) ?_ (hf := fn_b rfl)
  | (with_reducible show DS _ _ (Stmt.Assign [Expr.Name "_law_path" _] _ _) _ _); refine ds_set (i := 2) nd rfl (loc_b rfl) (by decide) ?_ (hf := fn_b rfl)
  | (with_reducible show DS _ _ (Stmt.Assign [Expr.Name "_law_here" _] _ _) _ _); refine ds_set (i := 3) nd rfl (loc_b rfl) (by decide) ?_ (hf := fn_b rfl)
  | (with_reducible show DS _ _ (Stmt.Assign [Expr.Name "_law_some" _] _ _) _ _); refine ds_set (i := 4) nd rfl (loc_b rfl) (by decide) ?_ (hf := fn_b rfl)
  | (with_reducible show DS _ _ (Stmt.Assign [Expr.Name "_law_spot" _] _ _) _ _); refine ds_set (i := 5) nd rfl (loc_b rfl) (by decide) ?_ (hf := fn_b rfl))
section
variable {P : Program} {w : World} {K : PySem.W.Frag} {mg : Str → Option Value} {base : Heap} {f : Addr} {fd : FuncData}
def Has (K : PySem.W.Frag) (mg : Str → Option Value) (x : Str) (st : Stmt) : Prop := ∃ f fd, FnP K x st f fd ∧ mg x = some (.ref f)
structure Pg (K : PySem.W.Frag) (mg : Str → Option Value) : Prop where
  bi : Bi mg
  light : ∃ t, mg "LIGHT" = some (.int 1 t)
  dark : ∃ t, mg "DARK" = some (.int 0 t)
  counted : Has K mg "counted" s_counted
  mirrored : Has K mg "mirrored" s_mirrored
  is_free : Has K mg "is_free" s_is_free
  cards_by : Has K mg "cards_by" s_cards_by
  ties_by : Has K mg "ties_by" s_ties_by
  card_of : Has K mg "card_of" s_card_of
  may_go : Has K mg "may_go" s_may_go
  behind_one : Has K mg "behind_one" s_behind_one
  behind : Has K mg "behind" s_behind
  box : Has K mg "_law_box" s__law_box
  take : Has K mg "_law_take" s__law_take
  cells : Has K mg "_law_cells" s__law_cells
  same : Has K mg "_law_same" s__law_same
  callings : Has K mg "_law_callings" s__law_callings
  round : Has K mg "_law_round" s__law_round
  links : Has K mg "_law_links" s__law_links
  beside : Has K mg "_law_beside" s__law_beside
  homely : Has K mg "_law_homely" s__law_homely
  card : Has K mg "_law_card" s__law_card
  walk_right : Has K mg "_law_walk_right" s__law_walk_right
  exchanged_right : Has K mg "_law_exchanged_right" s__law_exchanged_right
  right : Has K mg "_law_right" s__law_right
/-! ### the walked functions, as they are called -/
theorem at_take (g : Pg K mg) : ∃ a fd, FnOk P w K mg base CX0 1 a fd ["_law_box_here", "_law_amount"] (spOf K [0] 2 S__law_take) ∧ mg "_law_take" = some (.ref a) ∧ FnP K "_law_take" s__law_take a fd ∧ Binds K fd ["_law_box_here", "_law_amount"] [] := by
  obtain ⟨a, fd, F, e⟩ := g.take
  exact ⟨a, fd, ok__law_take F, e, F, F.bindsN fun _ _ _ _ _ _ us hl => match us, hl with | [_, _], _ => rfl⟩
theorem at_round (g : Pg K mg) : ∃ a fd, FnOk P w K mg base CX0 1 a fd ["_law_size", "_law_amount"] (spOf K [] 2 S_counted) ∧ mg "_law_round" = some (.ref a) ∧ FnP K "_law_round" s__law_round a fd ∧ Binds K fd ["_law_size", "_law_amount"] [] := by
  obtain ⟨a, fd, F, e⟩ := g.round
  exact ⟨a, fd, ok__law_round F, e, F, F.bindsN fun _ _ _ _ _ _ us hl => match us, hl with | [_, _], _ => rfl⟩
theorem at_same (g : Pg K mg) : ∃ a fd, (∀ n, FnOk P w K mg base CX0 (n + 1) a fd ["_law_found", "_law_due"] (spOf K [] 2 (S__law_same n))) ∧ mg "_law_same" = some (.ref a) ∧ FnP K "_law_same" s__law_same a fd ∧ Binds K fd ["_law_found", "_law_due"] [] := by
  obtain ⟨a, fd, F, e⟩ := g.same
  exact ⟨a, fd, ok__law_same g.bi e F, e, F, F.bindsN fun _ _ _ _ _ _ us hl => match us, hl with | [_, _], _ => rfl⟩
theorem at_callings (g : Pg K mg) : ∃ a fd, FnOk P w K mg base CX0 2 a fd ["_law_box_here", "_law_amount"] (spOf K [0] 2 S__law_callings) ∧ mg "_law_callings" = some (.ref a) ∧ FnP K "_law_callings" s__law_callings a fd ∧ Binds K fd ["_law_box_here", "_law_amount"] [] := by
  obtain ⟨aT, fdT, FT, eT⟩ := g.take
  obtain ⟨a, fd, F, e⟩ := g.callings
  exact ⟨a, fd, ok__law_callings g.bi FT eT F, e, F, F.bindsN fun _ _ _ _ _ _ us hl => match us, hl with | [_, _], _ => rfl⟩
theorem at_homely (g : Pg K mg) : ∃ a fd, FnOk P w K mg base CX0 3 a fd ["_law_box_here", "_law_amount"] (spOf K [0] 2 S__law_homely) ∧ mg "_law_homely" = some (.ref a) ∧ FnP K "_law_homely" s__law_homely a fd ∧ Binds K fd ["_law_box_here", "_law_amount"] [] := by
  obtain ⟨aT, fdT, FT, eT⟩ := g.take
  obtain ⟨aR, fdR, FR, eR⟩ := g.round
  obtain ⟨aC, fdC, FC, eC⟩ := g.callings
  obtain ⟨aL, fdL, FL, eL⟩ := g.links
  obtain ⟨aB, fdB, FB, eB⟩ := g.beside
  obtain ⟨a, fd, F, e⟩ := g.homely
  exact ⟨a, fd, ok__law_homely g.bi FT eT FR eR FC eC FL eL FB eB F, e, F, F.bindsN fun _ _ _ _ _ _ us hl => match us, hl with | [_, _], _ => rfl⟩
theorem at_card (g : Pg K mg) : ∃ a fd, FnOk P w K mg base CX0 2 a fd ["_law_yard", "_law_path", "_law_who"] (spOf K [] 3 S__law_card) ∧ mg "_law_card" = some (.ref a) ∧ FnP K "_law_card" s__law_card a fd ∧ Binds K fd ["_law_yard", "_law_path", "_law_who"] [] := by
  obtain ⟨aR, fdR, FR, eR⟩ := g.round
  obtain ⟨aB, fdB, FB, eB⟩ := g.beside
  obtain ⟨a, fd, F, e⟩ := g.card
  exact ⟨a, fd, ok__law_card g.bi FR eR FB eB F, e, F, F.bindsN fun _ _ _ _ _ _ us hl => match us, hl with | [_, _, _], _ => rfl⟩
theorem at_may_go (g : Pg K mg) : ∃ a fd, FnOk P w K mg base CX0 2 a fd ["hall"] (spOf K [] 1 S_may_go) ∧ mg "may_go" = some (.ref a) ∧ FnP K "may_go" s_may_go a fd ∧ Binds K fd ["hall"] [] := by
  obtain ⟨t, gL⟩ := g.light
  obtain ⟨aI, fdI, FI, eI⟩ := g.is_free
  obtain ⟨a, fd, F, e⟩ := g.may_go
  exact ⟨a, fd, ok_may_go gL g.bi.tuple FI eI F, e, F, F.bindsN fun _ _ _ _ _ _ us hl => match us, hl with | [_], _ => rfl⟩
theorem at_card_of (g : Pg K mg) : ∃ a fd, FnOk P w K mg base CX0 2 a fd ["hall", "name"] (spOf K [] 2 S_card_of) ∧ mg "card_of" = some (.ref a) ∧ FnP K "card_of" s_card_of a fd ∧ Binds K fd ["hall", "name"] [] := by
  obtain ⟨aC, fdC, FC, eC⟩ := g.cards_by
  obtain ⟨a, fd, F, e⟩ := g.card_of
  exact ⟨a, fd, ok_card_of FC eC F, e, F, F.bindsN fun _ _ _ _ _ _ us hl => match us, hl with | [_, _], _ => rfl⟩
theorem at_behind (g : Pg K mg) : ∃ a fd, FnOk P w K mg base CX0 4 a fd ["hall", "row"] (spOf K [] 2 S_behind) ∧ mg "behind" = some (.ref a) ∧ FnP K "behind" s_behind a fd ∧ Binds K fd ["hall", "row"] [] := by
  obtain ⟨t, gL⟩ := g.light
  obtain ⟨t2, gD⟩ := g.dark
  obtain ⟨aC, fdC, FC, eC⟩ := g.counted
  obtain ⟨aM, fdM, FM, eM⟩ := g.mirrored
  obtain ⟨aT, fdT, FT, eT⟩ := g.ties_by
  obtain ⟨aO, fdO, FO, eO⟩ := g.behind_one
  obtain ⟨aI, fdI, FI, eI⟩ := g.is_free
  obtain ⟨aG, fdG, FG, eG⟩ := g.may_go
  obtain ⟨a, fd, F, e⟩ := g.behind
  exact ⟨a, fd, ok_behind gL gD g.bi.tuple FC eC FM eM FT eT FO eO FI eI FG eG F, e, F, F.bindsN fun _ _ _ _ _ _ us hl => match us, hl with | [_, _], _ => rfl⟩
/-! ### small facts -/
theorem cards_none {n : Str} : ∀ (pl : List (Str × Int × Int)) (acc : List (Key × D)), (∀ p ∈ pl, p.1 ≠ n) → dget (pl.foldl (fun acc p => dput acc (.inr p.1) (cardD p.2)) acc) (.inr n) = dget acc (.inr n)
  | [], acc, _ => rfl
  | p :: l, acc, h => by
    rw [List.foldl_cons, cards_none l _ fun q hq => h q (List.mem_cons_of_mem _ hq), dget_dput, if_neg]
    intro z
    exact h p (List.mem_cons_self ..) (by injection z)
theorem cards_some {n : Str} {c : Int × Int} : ∀ (pl : List (Str × Int × Int)) (acc : List (Key × D)), (pl.map (·.1)).Nodup → (n, c) ∈ pl → dget (pl.foldl (fun acc p => dput acc (.inr p.1) (cardD p.2)) acc) (.inr n) = some (cardD c)
  | [], acc, _, h => nomatch h
  | p :: l, acc, nd, h => by
    rw [List.map_cons, List.nodup_cons] at nd
    rw [List.foldl_cons]
    rcases List.mem_cons.mp h with e | e
    · subst e
      rw [cards_none l _ fun q hq z => nd.1 (List.mem_map.mpr ⟨q, hq, z⟩), dget_dput, if_pos rfl]
    · exact cards_some l _ nd.2 e
theorem cards_get {h : Hall} (s : Sound h) {n : Str} {c : Int × Int} (hc : (n, c) ∈ h.pl) : dget (cardsOf h.pl) (.inr n) = some (cardD c) := cards_some h.pl [] s.nd hc
theorem filter_ne_len {n : Str} : ∀ {l : List Str}, l.Nodup → n ∈ l → (l.filter fun m => !decide (m = n)).length + 1 = l.length
  | [], _, h => nomatch h
  | a :: l, nd, h => by
    rw [List.nodup_cons] at nd
    by_cases e : a = n
    · subst e
      rw [List.filter_cons_of_neg (by simp)]
      have : l.filter (fun m => !decide (m = a)) = l := List.filter_eq_self.mpr fun m hm => by
        have : ¬ m = a := fun z => nd.1 (z ▸ hm)
        simp [this]
      rw [this]; rfl
    · rw [List.filter_cons_of_pos (by simp [e])]
      have := filter_ne_len nd.2 (by rcases List.mem_cons.mp h with z | z; exact absurd z.symm e; exact z)
      rw [List.length_cons, List.length_cons]
      omega
theorem one_less {h : Hall} (s : Sound h) {n : Str} (hn : n ∈ namesOf h) : (behindOne h n).pl.length + 1 = h.pl.length := by
  have h1 := filter_ne_len s.nd hn
  rw [← names_behind s] at h1
  simpa [namesOf] using h1
theorem cut_last {α : Type} (xs : List α) (a : α) : cutL (xs ++ [a]) (some (-1)) none = [a] := by
  have e : HT.sIx (xs ++ [a]).length 0 (some (-1)) = xs.length := by
    have := HT.clip_eq (-1) (xs ++ [a]).length 0
    rw [if_pos (by decide)] at this
    rw [List.length_append, List.length_singleton] at this ⊢
    omega
  unfold cutL
  rw [e, HT.sIx_none, List.drop_left, List.take_of_length_le (by simp)]
theorem sm_place (p : Str × Int × Int) : Sm 1 (placeD p) := .tup (fun d hd => by
  simp at hd
  rcases hd with h | h | h <;> subst h
  · exact .str _
  · exact .int _
  · exact .int _) (by simp)
theorem sm_tie (p : Str × Str × Int) : Sm 1 (tieD p) := .tup (fun d hd => by
  simp at hd
  rcases hd with h | h | h <;> subst h
  · exact .str _
  · exact .str _
  · exact .int _) (by simp)
theorem sm_card (c : Int × Int) : Sm 1 (cardD c) := .tup (fun d hd => by
  simp at hd
  rcases hd with h | h <;> subst h
  · exact .int _
  · exact .int _) (by simp)
theorem Sm.up {n : Nat} {d : D} (h : Sm n d) : Sm (n + 1) d := by
  induction h with
  | non => exact .non
  | bl => exact .bl _
  | int => exact .int _
  | str => exact .str _
  | tup _ hz ih => exact .tup ih hz
  | lst _ hz ih => exact .lst ih hz
theorem sm_hall {h : Hall} (s : Sound h) : Sm 3 (hallD h) := .tup (fun d hd => by
  simp at hd
  rcases hd with e | e | e <;> subst e
  · exact .int _
  · exact .tup (fun d hd => by obtain ⟨p, _, rfl⟩ := List.mem_map.mp hd; exact sm_place p) (by rw [List.length_map]; exact s.pl)
  · exact .tup (fun d hd => by obtain ⟨p, _, rfl⟩ := List.mem_map.mp hd; exact sm_tie p) (by rw [List.length_map]; exact s.ti)) (by simp)
def plLen (e : List Cell) : Nat := match (e[3]? : Option Cell) with
  | some (Cell.fz (D.tup [_, D.tup ps, _])) => ps.length
  | _ => 0
/-! _law_walk_right -/
abbrev N__law_walk_right : List Str := ["_law_box_here", "_law_yard", "_law_path", "_law_here", "_law_some", "_law_spot"]
theorem nd__law_walk_right : N__law_walk_right.Nodup := by decide +kernel
theorem sc__law_walk_right : FnScope N__law_walk_right ["_law_box_here", "_law_yard"] (defScope s__law_walk_right) := ⟨rfl, rfl, rfl, nd__law_walk_right, rfl, by decide +kernel, by decide +kernel⟩
def S__law_walk_right : FSp := fB (fun h : Hall => [.fz (hallD h)]) (fun h => Sound h ∧ Good h ∧ Uni h.ti ∧ 0 ≤ h.w) (fun _ (_ : Unit) => True) (fun _ => .fz (.bl true))
theorem ok__law_walk_right (g : Pg K mg) (F : FnP K "_law_walk_right" s__law_walk_right f fd) : FnOk P w K mg base CX0 5 f fd ["_law_box_here", "_law_yard"] (spOf K [0] 2 S__law_walk_right) := by
  have n_len := g.bi.len; have n_all := g.bi.all
  obtain ⟨aT, fdT, G_take, g_take, F_take, b_take⟩ := at_take (P := P) (w := w) (base := base) g
  obtain ⟨aS, fdS, G_same, g_same, F_same, b_same⟩ := at_same (P := P) (w := w) (base := base) g
  obtain ⟨aC, fdC, G_card, g_card, F_card, b_card⟩ := at_card (P := P) (w := w) (base := base) g
  obtain ⟨aM, fdM, G_may_go, g_may_go, F_may_go, b_may_go⟩ := at_may_go (P := P) (w := w) (base := base) g
  obtain ⟨aO, fdO, G_card_of, g_card_of, F_card_of, b_card_of⟩ := at_card_of (P := P) (w := w) (base := base) g
  obtain ⟨aB, fdB, G_behind, g_behind, F_behind, b_behind⟩ := at_behind (P := P) (w := w) (base := base) g
  have G_same3 := G_same 3
  have G_same1 := G_same 1
  refine fn_ok (S := S__law_walk_right) 5 (by decide) (by decide) F sc__law_walk_right fun cdv A outer s H E b cs Post hr hcl hS => ?_
  obtain ⟨x, h, rfl, ⟨hh, hgd, hun, hw⟩, q⟩ := hS
  have hh : Sound h := hh
  have hgd : Good h := hgd
  have hun : Uni h.ti := hun
  have hw : 0 ≤ h.w := hw
  have q : ∀ x' e, e[0]? = some (.ow (boxD x')) → Post (.fz (.bl true)) e := q () trivial
  have hu : (A.deeper (envOfC "_law_walk_right" (defScope s__law_walk_right) s.heap.objs.size f cdv)).units + 64 < cLine := hr.units
  have hu1 : (A.deeper (envOfC "_law_walk_right" (defScope s__law_walk_right) s.heap.objs.size f cdv)).units + 1 < cLine := by omega
  have nd := nd__law_walk_right
  change DSs _ b _ [.ow (boxD x), .fz (hallD h), .no, .no, .no, .no] _
  refine dss_cons ?_
  refine ds_parG (i := 2) (j := 3) ?hc ?hN ?hp ?hij ?hj1 ?hj2 ?h ?hw ?hs ?h1 ?hn ?hst
  case hc => rfl
  case hN => exact nd
  case hp => walk_at "puts"
  case hij => decide
  case hj1 => simp
  case hj2 => simp
  case hw => rfl
  case hs => rfl
  case h1 => rfl
  case hn => rfl
  case hst => rfl
  walk_at "d"
  refine ⟨_, _, rfl, fun j z => (nomatch z), fun j z => (nomatch z), by simp, by simp, ?_⟩
  have hpl1 := hh.pl
  refine dss_cons (ds_while PassesOwn.never (fun e => ∃ (x' : Box) (r : List Str) (c4 : Cell), May h r ∧ r.length + (behindRow h r).pl.length = h.pl.length ∧ (∀ j, c4 ≠ .al j) ∧ e = [.ow (boxD x'), .fz (hallD h), .ow (.lst (r.map .str)), .fz (hallD (behindRow h r)), c4, .no]) plLen ⟨x, [], .no, trivial, by show 0 + h.pl.length = h.pl.length; omega, (fun j z => nomatch z), rfl⟩ ?_)
  rintro e ⟨x1, r, c4, hm, hrl, hc4, rfl⟩
  have sk := hh.row r
  have hwk : 0 ≤ (behindRow h r).w := by rw [behindRow_w]; exact hw
  have hpk := sk.pl
  -- behind the loop
  have rest : ∀ (x2 : Box), DSs (cxOf CX0 P w K mg base N__law_walk_right "_law_walk_right" (defScope s__law_walk_right) f cdv A outer s H E).nox b ((defBody s__law_walk_right).drop 2) [.ow (boxD x2), .fz (hallD h), .ow (.lst (r.map .str)), .fz (hallD (behindRow h r)), c4, .no] { nx := fun env' => Post (.fz .non) (env'.take 2), rt := fun c env' => (∀ i, c ≠ .al i) ∧ Post c (env'.take 2) } := by
    intro x2
    refine dss_freeze 2 rfl (by simp) ?_
    walk_at "d"
    refine de_call G_same3 fS_mono (hr.mono (by decide)) rfl g_same F_same.kp b_same ?_
    walk_at "d"
    refine de_call G_behind fS_mono (hr.mono (by decide)) rfl g_behind F_behind.kp b_behind ?_
    walk_at "d"
    refine ⟨(h, r, false), rfl, ⟨hh, hw, hm⟩, fun e => ?_⟩
    walk_at "d"
    refine ⟨hallD (behindRow h r), rfl, sm_hall sk, fun e => ?_⟩
    walk_at "d"
    refine de_lc [("_law_spot", 5)] rfl nd (by change BlkOk N__law_walk_right (defScope s__law_walk_right) _ _; walk_at "blk") (by simp) ?_
    refine DI.a (di_tuple ?_)
    walk_at "d"
    refine ⟨by simp; omega, fun k acc e => acc = List.replicate k (.bl true) ∧ e = [.ow (boxD x2), .fz (hallD h), .fz (.lst (r.map .str)), .fz (hallD (behindRow h r)), c4, .no], ⟨rfl, rfl⟩, ?_, ?_, ?_⟩
    · rintro k acc e ⟨rfl, rfl⟩
      exact ⟨trivial, by simp, by simp⟩
    · rintro k d acc e hd ⟨rfl, rfl⟩ s1 H1 C1 cl1 fp1
      rw [List.getElem?_map] at hd
      cases hp : (behindRow h r).pl[k]? with
      | none => rw [hp] at hd; cases hd
      | some p =>
        rw [hp] at hd
        cases hd
        have hpm := List.mem_of_getElem? hp
        obtain ⟨q0, hq0, e1, e2⟩ := row_card hh hgd hm hpm
        obtain ⟨na, ca⟩ := p
        obtain ⟨na0, c0⟩ := q0
        have e1 : na0 = na := e1
        subst e1
        have e2 : ca = cardSum h.w c0 (r.filterMap fun m => glass na0 m h.ti) := e2
        subst e2
        refine dgo_name (i := 5) nd rfl (loc_b rfl) (fn_b rfl) (by decide) (by simp) (by simp) (fun j z => nomatch z) ?_
        intro s2 H2 C2 cl2 fp2
        refine dts_nil (ite_b (fun _ => ?_) (fun z => nomatch z))
        intro s3 H3 C3 cl3 fp3
        refine de_call G_same1 fS_mono (hr.mono (by decide)) rfl g_same F_same.kp b_same ?_
        walk_at "d"
        refine de_call G_card_of fS_mono (hr.mono (by decide)) rfl g_card_of F_card_of.kp b_card_of ?_
        walk_at "d"
        refine ⟨(behindRow h r, na0, cardSum h.w c0 (r.filterMap fun m => glass na0 m h.ti)), rfl, ⟨hpk, cards_get sk hpm⟩, fun e => ?_⟩
        walk_at "d"
        refine de_call G_card fS_mono (hr.mono (by decide)) rfl g_card F_card.kp b_card ?_
        walk_at "d"
        refine ⟨(h, r, na0, c0), rfl, ⟨hh, hun, hw, by show r.length ≤ 1000; omega, hq0⟩, fun e => ?_⟩
        walk_at "d"
        refine ⟨cardD (cardSum h.w c0 (r.filterMap fun m => glass na0 m h.ti)), rfl, sm_card _, fun e => ?_⟩
        refine ⟨_, rfl, ?_, rfl⟩
        rw [List.replicate_succ']
    · rintro acc e ⟨rfl, rfl⟩
      walk_at "d"
      refine all_c (.ow _) (bs := List.replicate ((behindRow h r).pl.map placeD).length true) (by simp) ?_
      walk_at "d"
      exact fz_eq (q x2 _ rfl) (by simp)
  walk_at "d"
  refine de_call G_may_go fS_mono (hr.mono (by decide)) rfl g_may_go F_may_go.kp b_may_go ?_
  walk_at "d"
  refine ⟨behindRow h r, rfl, hpk, fun e => ?_⟩
  walk_at "d"
  have shl : Sh 2 (.lst ((freeOf (behindRow h r).pl).map .str)) := .lst fun d hd => by
    obtain ⟨n, hn, rfl⟩ := List.mem_map.mp hd
    exact .str (sk.ok n (free_mem hn))
  refine ne_dat (.ow _) (.ow _) shl (.lst fun d hd => nomatch hd) (by decide) ?_
  cases hfr : freeOf (behindRow h r).pl with
  | nil =>
    refine ⟨false, by simp [D.eqb, D.py, pyL, PyData.eqv, PyData.eqvAll], ?_⟩
    refine if_f rfl ?_
    first | exact rest x1 | (refine if_f rfl ?_; exact rest x1)
  | cons n0 fr0 =>
    refine ⟨true, by simp [D.eqb, D.py, pyL, PyData.eqv, PyData.eqvAll], ?_⟩
    walk_at "d"
    refine de_callO (j := 0) G_take fB_mono (hr.mono (by decide)) rfl g_take F_take.kp b_take ?_
    walk_at "d"
    refine ⟨_, _, _, ⟨rfl, rfl, all2, rfl⟩, rfl, x1, 12, rfl, ⟨by decide, by decide⟩, fun r1 hr1 x2 e he => ⟨_, he, ?_⟩⟩
    walk_at "d"
    refine ite_b (fun hgo => ?_) (fun hgo => ?_)
    rotate_left
    · exact rest x2
    · walk_at "d"
      refine de_call G_may_go fS_mono (hr.mono (by decide)) rfl g_may_go F_may_go.kp b_may_go ?_
      walk_at "d"
      refine ⟨behindRow h r, rfl, hpk, fun e => ?_⟩
      have hfl : 0 < (freeOf (behindRow h r).pl).length := by rw [hfr]; simp
      have hfl2 : (freeOf (behindRow h r).pl).length ≤ 1000 := by
        unfold freeOf
        rw [List.length_map]
        exact Nat.le_trans (List.length_filter_le _ _) hpk
      clear hfr
      have hfm : ((freeOf (behindRow h r).pl).map D.str).length = (freeOf (behindRow h r).pl).length := List.length_map ..
      have hrm : (r.map D.str).length < 100000 := by rw [List.length_map]; omega
      walk_at "d"
      refine de_callO (j := 0) G_take fB_mono (hr.mono (by decide)) rfl g_take F_take.kp b_take ?_
      walk_at "d"
      refine ⟨_, _, _, ⟨rfl, rfl, all2, rfl⟩, rfl, x2, _, rfl, ⟨by omega, by omega⟩, fun r3 hr3 x3 e he => ⟨_, he, ?_⟩⟩
      obtain ⟨hr30, hr31⟩ := hr3
      have hrl3 : r3.toNat < (freeOf (behindRow h r).pl).length := by omega
      have hrn : ((r3.toNat : Nat) : Int) = r3 := Int.toNat_of_nonneg hr30
      have hat := atI_map D.str hrl3
      rw [hrn] at hat
      refine ix_lst (.al rfl) (.fz _) hat ?_
      have hnn : (freeOf (behindRow h r).pl)[r3.toNat] ∈ freeOf (behindRow h r).pl := List.getElem_mem hrl3
      revert hnn
      generalize (freeOf (behindRow h r).pl)[r3.toNat] = nn
      intro hnn
      walk_at "d"
      have hcut : DL.cutD (r.map D.str ++ [D.str nn]) (some (-1)) none = [.str nn] := by
        have e1 : r.map D.str ++ [D.str nn] = (r ++ [nn]).map D.str := by simp
        rw [e1, cut_map, cut_last]
        rfl
      have h1l := one_less sk (free_mem hnn)
      refine de_call G_behind fS_mono (hr.mono (by decide)) rfl g_behind F_behind.kp b_behind ?_
      walk_at "a1"
      walk_at "var"
      walk_at "a1"
      refine de_fz (d := .lst [.str nn]) ?_
      walk_at "d"
      refine ⟨Or.inl (congrArg (fun z => Cell.ow (D.lst z)) hcut), ?_⟩
      walk_at "d"
      refine ⟨(behindRow h r, [nn], false), rfl, ⟨sk, hwk, ⟨hnn, trivial⟩⟩, fun e => ?_⟩
      walk_at "d"
      refine ⟨⟨x3, r ++ [nn], .ow (.lst ((freeOf (behindRow h r).pl).map .str)), may_snoc.mpr ⟨hm, hnn⟩, ?_, (fun j z => nomatch z), ?_⟩, ?_⟩
      · rw [behindRow_snoc, List.length_append]
        simp only [List.length_singleton]
        omega
      · rw [behindRow_snoc, List.map_append]
        rfl
      · show ((behindOne (behindRow h r) nn).pl.map placeD).length < ((behindRow h r).pl.map placeD).length
        rw [List.length_map, List.length_map]
        omega
end
end K13



set_option Elab.async false
set_option linter.all false
set_option maxRecDepth 100000
set_option maxHeartbeats 20000000
set_option pp.deepTerms false
set_option pp.deepTerms.threshold 6
set_option pp.oneline false
set_option pp.proofs false
namespace K13
open PySem PySem.Spec PyProof.Rows L2 DL
set_option hygiene false
local macro_rules | `(tactic| walk_at "vw") => `(tactic| first
  | (with_reducible show Vw _ (Cell.fz _) _); exact Vw.fz _
  | (with_reducible show Vw _ (Cell.al _) _); exact Vw.al rfl
  | (with_reducible show Vw _ (Cell.ow _) _); exact Vw.ow _ rfl
  | exact Vw.fz _
  | exact Vw.al rfl
  | exact Vw.ow _ rfl)
local macro_rules | `(tactic| walk_at "puts") => `(tactic| repeat (first | exact DL.Puts.nil | refine DL.Puts.cons rfl (loc_b rfl) (fn_b rfl) rfl ?_))
local macro_rules | `(tactic| walk_at "blk") => `(tactic| exact ⟨rfl, by decide +kernel, by decide +kernel, by decide +kernel, by decide +kernel⟩)
local macro_rules | `(tactic| walk_at "vis") => `(tactic| first
  | exact vis_b rfl
  | exact Or.inl rfl
  | exact Or.inr (Or.inl rfl)
  | exact Or.inr (Or.inr rfl))
local macro_rules | `(tactic| walk_at "side") => `(tactic| first
  | assumption
  | omega
  | (simp only [List.length_set, List.length_cons, List.length_nil]; omega)
  | (simp only [DL.setAll, List.length_set, List.length_cons, List.length_nil]; omega)
  | exact fun j z => (nomatch z)
  | (refine Or.inl ⟨?_, ?_⟩ <;> omega)
  | (refine Or.inr ⟨?_, ?_⟩ <;> omega)
  | decide
  | ((with_reducible show _ = _); rfl))
local macro_rules | `(tactic| walk_at "var") => `(tactic| first
  | refine de_var (i := 0) rfl (by walk_at "vis") rfl ?_ | refine de_var_ow (i := 0) (by decide) rfl (by walk_at "vis") rfl ?_
  | refine de_var (i := 1) rfl (by walk_at "vis") rfl ?_ | refine de_var_ow (i := 1) (by decide) rfl (by walk_at "vis") rfl ?_
  | refine de_var (i := 2) rfl (by walk_at "vis") rfl ?_ | refine de_var_ow (i := 2) (by decide) rfl (by walk_at "vis") rfl ?_
  | refine de_var (i := 3) rfl (by walk_at "vis") rfl ?_ | refine de_var_ow (i := 3) (by decide) rfl (by walk_at "vis") rfl ?_
  | refine de_var (i := 4) rfl (by walk_at "vis") rfl ?_ | refine de_var_ow (i := 4) (by decide) rfl (by walk_at "vis") rfl ?_
  | refine de_var (i := 5) rfl (by walk_at "vis") rfl ?_ | refine de_var_ow (i := 5) (by decide) rfl (by walk_at "vis") rfl ?_
  | refine de_var (i := 6) rfl (by walk_at "vis") rfl ?_ | refine de_var_ow (i := 6) (by decide) rfl (by walk_at "vis") rfl ?_
  | refine de_var (i := 7) rfl (by walk_at "vis") rfl ?_ | refine de_var_ow (i := 7) (by decide) rfl (by walk_at "vis") rfl ?_
  | refine de_var (i := 8) rfl (by walk_at "vis") rfl ?_ | refine de_var_ow (i := 8) (by decide) rfl (by walk_at "vis") rfl ?_
  | refine de_var (i := 9) rfl (by walk_at "vis") rfl ?_ | refine de_var_ow (i := 9) (by decide) rfl (by walk_at "vis") rfl ?_
  | refine de_var (i := 10) rfl (by walk_at "vis") rfl ?_ | refine de_var_ow (i := 10) (by decide) rfl (by walk_at "vis") rfl ?_
  | refine de_var (i := 11) rfl (by walk_at "vis") rfl ?_ | refine de_var_ow (i := 11) (by decide) rfl (by walk_at "vis") rfl ?_
  | refine de_var (i := 12) rfl (by walk_at "vis") rfl ?_ | refine de_var_ow (i := 12) (by decide) rfl (by walk_at "vis") rfl ?_
  | refine de_var (i := 13) rfl (by walk_at "vis") rfl ?_ | refine de_var_ow (i := 13) (by decide) rfl (by walk_at "vis") rfl ?_
  | refine de_var (i := 14) rfl (by walk_at "vis") rfl ?_ | refine de_var_ow (i := 14) (by decide) rfl (by walk_at "vis") rfl ?_
  | refine de_var (i := 15) rfl (by walk_at "vis") rfl ?_ | refine de_var_ow (i := 15) (by decide) rfl (by walk_at "vis") rfl ?_
  | refine de_var (i := 16) rfl (by walk_at "vis") rfl ?_ | refine de_var_ow (i := 16) (by decide) rfl (by walk_at "vis") rfl ?_)
local macro_rules | `(tactic| walk_at "const") => `(tactic| first
  | with_reducible refine de_int ?_
  | with_reducible refine de_str ?_
  | with_reducible refine de_bl ?_
  | with_reducible refine de_non ?_)
local macro_rules | `(tactic| walk_at "e1") => `(tactic| first
  | (with_reducible show DE _ _ (Expr.Name _ _) _ _); walk_at "var"
  | (with_reducible show DE _ _ (Expr.Constant _ _ _) _ _); walk_at "const"
  | (with_reducible show DE _ _ (Expr.Call (Expr.Name _ _) _ [] _) _ _); walk_at "bi"
  | with_reducible refine de_add ?_
  | with_reducible refine de_sub ?_
  | with_reducible refine de_mul ?_
  | with_reducible refine de_mod ?_
  | with_reducible refine de_div ?_
  | with_reducible refine de_pow ?_
  | with_reducible refine de_neg ?_
  | with_reducible refine de_tuple ?_
  | with_reducible refine de_list ?_
  | with_reducible refine de_ifExp ?_
  | with_reducible refine de_not ?_
  | with_reducible refine de_bool1 ?_
  | with_reducible refine de_and ?_
  | with_reducible refine de_or ?_
  | with_reducible refine de_revL ?_
  | with_reducible refine de_slice ?_
  | (with_reducible show DE _ _ (Expr.Subscript _ _ _) _ _); refine de_ix hu1 (fun _ _ => rfl) ?_
  | (with_reducible show DE _ _ (Expr.Compare _ [CmpOp.Is] _ _) _ _); refine de_isN ?_
  | (with_reducible show DE _ _ (Expr.Compare _ [CmpOp.Eq] _ _) _ _); refine de_cmp (op_eqAll hu) (nobehind _ (by decide) (by decide)) ?_
  | (with_reducible show DE _ _ (Expr.Compare _ [CmpOp.NotEq] _ _) _ _); refine de_cmp (op_neAll hu) (nobehind _ (by decide) (by decide)) ?_
  | (with_reducible show DE _ _ (Expr.Compare _ [CmpOp.Lt] _ _) _ _); refine de_cmp op_ltAll (nobehind _ (by decide) (by decide)) ?_
  | (with_reducible show DE _ _ (Expr.Compare _ [CmpOp.LtE] _ _) _ _); refine de_cmp op_leAll (nobehind _ (by decide) (by decide)) ?_
  | (with_reducible show DE _ _ (Expr.Compare _ [CmpOp.Gt] _ _) _ _); refine de_cmp op_gtAll (nobehind _ (by decide) (by decide)) ?_
  | (with_reducible show DE _ _ (Expr.Compare _ [CmpOp.GtE] _ _) _ _); refine de_cmp op_geAll (nobehind _ (by decide) (by decide)) ?_
  | (with_reducible show DE _ _ (Expr.Compare _ [CmpOp.In] _ _) _ _); refine de_cmp (op_inAll hu1) rfl ?_
  | (with_reducible show DE _ _ (Expr.Compare _ [CmpOp.NotIn] _ _) _ _); refine de_cmp (op_notInAll hu1) rfl ?_
  | (with_reducible show DE _ _ (Expr.Call (Expr.Attribute _ "append" _) [_] _ _) _ _); refine de_append ?_
  | (with_reducible show DE _ _ (Expr.Call (Expr.Attribute _ "pop" _) [_] _ _) _ _); refine de_popAt ?_
  | (with_reducible show DE _ _ (Expr.Call (Expr.Attribute _ "join" _) [_] _ _) _ _); refine de_join ?_)
local macro_rules | `(tactic| walk_at "bi") => `(tactic| first
  | (with_reducible show DE _ _ (Expr.Call (Expr.Name "isinstance" _) [_, Expr.Name "list" _] [] _) _ _); refine de_isi1 rfl n_isinstance rfl n_list boot_list ?_
  | (with_reducible show DE _ _ (Expr.Call (Expr.Name "isinstance" _) [_, Expr.Name "tuple" _] [] _) _ _); refine de_isi1 rfl n_isinstance rfl n_tuple boot_tuple ?_
  | (with_reducible show DE _ _ (Expr.Call (Expr.Name "isinstance" _) [_, Expr.Name "str" _] [] _) _ _); refine de_isi1 rfl n_isinstance rfl n_str boot_str ?_
  | (with_reducible show DE _ _ (Expr.Call (Expr.Name "isinstance" _) [_, Expr.Name "bool" _] [] _) _ _); refine de_isi1 rfl n_isinstance rfl n_bool boot_bool ?_
  | (with_reducible show DE _ _ (Expr.Call (Expr.Name "isinstance" _) [_, Expr.Name "int" _] [] _) _ _); refine de_isi1 rfl n_isinstance rfl n_int boot_int ?_
  | (with_reducible show DE _ _ (Expr.Call (Expr.Name "isinstance" _) [_, Expr.Tuple [Expr.Name "list" _, Expr.Name "tuple" _] _ _] [] _) _ _); refine de_isi2 rfl n_isinstance rfl n_list boot_list rfl n_tuple boot_tuple ?_
  | (with_reducible show DE _ _ (Expr.Call (Expr.Name "isinstance" _) [_, Expr.Tuple [Expr.Name "str" _, Expr.Name "bool" _] _ _] [] _) _ _); refine de_isi2 rfl n_isinstance rfl n_str boot_str rfl n_bool boot_bool ?_
  | (with_reducible show DE _ _ (Expr.Call (Expr.Name "len" _) _ [] _) _ _); refine de_callB call_lenA rfl n_len boot_len ?_
  | (with_reducible show DE _ _ (Expr.Call (Expr.Name "abs" _) _ [] _) _ _); refine de_callB call_abs rfl n_abs boot_abs ?_
  | (with_reducible show DE _ _ (Expr.Call (Expr.Name "int" _) _ [] _) _ _); refine de_callTy call_int1 rfl n_int boot_int ?_
  | (with_reducible show DE _ _ (Expr.Call (Expr.Name "list" _) _ [] _) _ _); refine de_callTy call_list_of rfl n_list boot_list ?_
  | (with_reducible show DE _ _ (Expr.Call (Expr.Name "tuple" _) _ [] _) _ _); refine de_callTy call_tuple_of rfl n_tuple boot_tuple ?_
  | (with_reducible show DE _ _ (Expr.Call (Expr.Name "sorted" _) _ [] _) _ _); refine de_callB (cr_sortD hu) rfl n_sorted boot_sorted ?_
  | (with_reducible show DE _ _ (Expr.Call (Expr.Name "sum" _) _ [] _) _ _); refine de_callB (cr_sum rfl) rfl n_sum boot_sum ?_
  | (with_reducible show DE _ _ (Expr.Call (Expr.Name "all" _) _ [] _) _ _); refine de_callB (cr_all rfl) rfl n_all boot_all ?_
  | (with_reducible show DE _ _ (Expr.Call (Expr.Name "any" _) _ [] _) _ _); refine de_callB (cr_any rfl) rfl n_any boot_any ?_
  | (with_reducible show DE _ _ (Expr.Call (Expr.Name "min" _) _ [] _) _ _); refine de_callB (call_minA rfl) rfl n_min boot_min ?_
  | (with_reducible show DE _ _ (Expr.Call (Expr.Name "max" _) _ [] _) _ _); refine de_callB (call_maxA rfl) rfl n_max boot_max ?_
  | (with_reducible show DE _ _ (Expr.Call (Expr.Name "dict" _) _ [] _) _ _); refine de_callTy (call_dictP rfl) rfl n_dict boot_dict ?_)
local macro_rules | `(tactic| walk_at "oa") => `(tactic| first
  | refine len_c (by walk_at "vw") (by first | exact Ln.lst _ | exact Ln.tup _ | exact Ln.dk _) ?_
  | refine abs_c (.fz _) ?_
  | refine int_b (.fz _) ?_
  | refine int_i (.fz _) ?_
  | refine list_t (.fz _) ?_
  | refine list_l (by walk_at "vw") ?_
  | refine tuple_t (.fz _) ?_
  | refine tuple_l (by walk_at "vw") ?_
  | refine mm_str (.fz _) (.fz _) ?_
  | refine mm_int (.fz _) (.fz _) ?_)
local macro_rules | `(tactic| walk_at "t1") => `(tactic| first
  | (with_reducible show DT _ _ (Expr.Compare _ [CmpOp.Is] _ _) _ _); refine dt_isN ?_
  | (with_reducible show DT _ _ (Expr.Compare _ [CmpOp.Eq] _ _) _ _); refine dt_cmp (op_eqAll hu) (nobehind _ (by decide) (by decide)) ?_
  | (with_reducible show DT _ _ (Expr.Compare _ [CmpOp.NotEq] _ _) _ _); refine dt_cmp (op_neAll hu) (nobehind _ (by decide) (by decide)) ?_
  | (with_reducible show DT _ _ (Expr.Compare _ [CmpOp.Lt] _ _) _ _); refine dt_cmp op_ltAll (nobehind _ (by decide) (by decide)) ?_
  | (with_reducible show DT _ _ (Expr.Compare _ [CmpOp.LtE] _ _) _ _); refine dt_cmp op_leAll (nobehind _ (by decide) (by decide)) ?_
  | (with_reducible show DT _ _ (Expr.Compare _ [CmpOp.Gt] _ _) _ _); refine dt_cmp op_gtAll (nobehind _ (by decide) (by decide)) ?_
  | (with_reducible show DT _ _ (Expr.Compare _ [CmpOp.GtE] _ _) _ _); refine dt_cmp op_geAll (nobehind _ (by decide) (by decide)) ?_
  | (with_reducible show DT _ _ (Expr.Compare _ [CmpOp.In] _ _) _ _); refine dt_cmp (op_inAll hu1) rfl ?_
  | (with_reducible show DT _ _ (Expr.Compare _ [CmpOp.NotIn] _ _) _ _); refine dt_cmp (op_notInAll hu1) rfl ?_
  | with_reducible refine dt_not ?_
  | with_reducible refine dt_bool ?_
  | (with_reducible show DT _ _ (Expr.Call _ _ _ _) _ _); refine dt_val ?_)
local macro_rules | `(tactic| walk_at "w1") => `(tactic| first
  | with_reducible refine dw_and1 ?_
  | with_reducible refine dw_or1 ?_
  | with_reducible refine dw_and ?_
  | with_reducible refine dw_or ?_)
local macro_rules | `(tactic| walk_at "a1") => `(tactic| first
  | with_reducible refine da_nil ?_
  | refine da_cons ?_)
local macro_rules | `(tactic| walk_at "o2") => `(tactic| first
  | (with_reducible show Op2 _ _ (rAddAll _) _ _ _ _); first | refine add_int (.fz _) (.fz _) ?_ | refine add_str (.fz _) (.fz _) (by walk_at "side") ?_ | refine add_tup (.fz _) (.fz _) (by walk_at "side") ?_ | refine add_lst (by walk_at "vw") (by walk_at "vw") (by walk_at "side") ?_
  | (with_reducible show Op2 _ _ (rIxAll _) _ _ _ _); first | refine ix_tpl (.fz _) (.fz _) rfl ?_ | refine ix_lst (by walk_at "vw") (.fz _) rfl ?_ | refine ix_tpl (.fz _) (.fz _) (by assumption) ?_ | refine ix_lst (by walk_at "vw") (.fz _) (by assumption) ?_ | refine ix_dk (by walk_at "vw") (.fz _) (k := .inr _) rfl (by assumption) ?_
  | (with_reducible show Op2 _ _ (rEqAll _) _ _ _ _); first | refine eq_int (.fz _) (.fz _) ?_ | refine eq_str (.fz _) (.fz _) ?_ | refine eq_bl (.fz _) (.fz _) ?_
  | (with_reducible show Op2 _ _ (rNeAll _) _ _ _ _); first | refine ne_int (.fz _) (.fz _) ?_ | refine ne_str (.fz _) (.fz _) ?_ | refine ne_bl (.fz _) (.fz _) ?_
  | refine op_ib0 (.fz _) (.fz _) ?_
  | refine lt_int (.fz _) (.fz _) ?_
  | refine lt_str (.fz _) (.fz _) ?_
  | refine in_dk (by walk_at "vw") (by walk_at "vw") rfl ?_)
local macro_rules | `(tactic| walk_at "o1") => `(tactic| first
  | refine cut_t (.fz _) ?_
  | refine cut_l (by walk_at "vw") ?_)
local macro_rules | `(tactic| walk_at "x1") => `(tactic| first
  | (with_reducible show ∃ ds, AllFz _ ds ∧ _); first | refine ⟨_, (.cons (.cons .nil)), ?_⟩ | refine ⟨_, (.cons .nil), ?_⟩ | refine ⟨_, (.cons (.cons (.cons .nil))), ?_⟩ | refine ⟨_, (.cons (.cons (.cons (.cons .nil)))), ?_⟩ | refine ⟨_, .nil, ?_⟩ | refine ⟨_, (.cons (.cons (.cons (.cons (.cons .nil))))), ?_⟩ | refine ⟨_, (.cons (.cons (.cons (.cons (.cons (.cons .nil)))))), ?_⟩ | refine ⟨_, (.cons (.cons (.cons (.cons (.cons (.cons (.cons .nil))))))), ?_⟩
  | refine ⟨_, _, .fz _, rfl, kb_list rfl, ?_⟩
  | refine ⟨_, _, .fz _, rfl, kb_tuple rfl, ?_⟩
  | refine ⟨_, _, .fz _, rfl, kb_str rfl, ?_⟩
  | refine ⟨_, _, .fz _, rfl, kb_bool rfl, ?_⟩
  | refine ⟨_, _, .fz _, rfl, kb_int rfl, ?_⟩
  | refine ⟨_, _, _, .fz _, rfl, kb_list rfl, kb_tuple rfl, ?_⟩
  | refine ⟨_, _, _, .fz _, rfl, kb_str rfl, kb_bool rfl, ?_⟩
  | refine ⟨_, _, _, rfl, rfl, Put.lst rfl, ?_⟩
  | refine ⟨_, _, .fz _, .fz _, ?_⟩
  | refine ⟨_, .fz _, ?_⟩
  | refine ⟨_, rfl, ?_⟩
  | refine ⟨_, _, rfl, rfl, ?_⟩)
local macro_rules | `(tactic| walk_at "set") => `(tactic| first
  | refine ds_set (i := 0) nd rfl (by first | exact loc_b rfl | exact Or.inl rfl | exact Or.inr rfl) (by decide) ?_ (hf := by first | exact fn_b rfl | exact .inl rfl | exact .inr rfl)
  | refine ds_set (i := 1) nd rfl (by first | exact loc_b rfl | exact Or.inl rfl | exact Or.inr rfl) (by decide) ?_ (hf := by first | exact fn_b rfl | exact .inl rfl | exact .inr rfl)
  | refine ds_set (i := 2) nd rfl (by first | exact loc_b rfl | exact Or.inl rfl | exact Or.inr rfl) (by decide) ?_ (hf := by first | exact fn_b rfl | exact .inl rfl | exact .inr rfl)
  | refine ds_set (i := 3) nd rfl (by first | exact loc_b rfl | exact Or.inl rfl | exact Or.inr rfl) (by decide) ?_ (hf := by first | exact fn_b rfl | exact .inl rfl | exact .inr rfl)
  | refine ds_set (i := 4) nd rfl (by first | exact loc_b rfl | exact Or.inl rfl | exact Or.inr rfl) (by decide) ?_ (hf := by first | exact fn_b rfl | exact .inl rfl | exact .inr rfl)
  | refine ds_set (i := 5) nd rfl (by first | exact loc_b rfl | exact Or.inl rfl | exact Or.inr rfl) (by decide) ?_ (hf := by first | exact fn_b rfl | exact .inl rfl | exact .inr rfl)
  | refine ds_set (i := 6) nd rfl (by first | exact loc_b rfl | exact Or.inl rfl | exact Or.inr rfl) (by decide) ?_ (hf := by first | exact fn_b rfl | exact .inl rfl | exact .inr rfl)
  | refine ds_set (i := 7) nd rfl (by first | exact loc_b rfl | exact Or.inl rfl | exact Or.inr rfl) (by decide) ?_ (hf := by first | exact fn_b rfl | exact .inl rfl | exact .inr rfl)
  | refine ds_set (i := 8) nd rfl (by first | exact loc_b rfl | exact Or.inl rfl | exact Or.inr rfl) (by decide) ?_ (hf := by first | exact fn_b rfl | exact .inl rfl | exact .inr rfl)
  | refine ds_set (i := 9) nd rfl (by first | exact loc_b rfl | exact Or.inl rfl | exact Or.inr rfl) (by decide) ?_ (hf := by first | exact fn_b rfl | exact .inl rfl | exact .inr rfl)
  | refine ds_set (i := 10) nd rfl (by first | exact loc_b rfl | exact Or.inl rfl | exact Or.inr rfl) (by decide) ?_ (hf := by first | exact fn_b rfl | exact .inl rfl | exact .inr rfl)
  | refine ds_set (i := 11) nd rfl (by first | exact loc_b rfl | exact Or.inl rfl | exact Or.inr rfl) (by decide) ?_ (hf := by first | exact fn_b rfl | exact .inl rfl | exact .inr rfl)
  | refine ds_set (i := 12) nd rfl (by first | exact loc_b rfl | exact Or.inl rfl | exact Or.inr rfl) (by decide) ?_ (hf := by first | exact fn_b rfl | exact .inl rfl | exact .inr rfl)
  | refine ds_set (i := 13) nd rfl (by first | exact loc_b rfl | exact Or.inl rfl | exact Or.inr rfl) (by decide) ?_ (hf := by first | exact fn_b rfl | exact .inl rfl | exact .inr rfl)
  | refine ds_set (i := 14) nd rfl (by first | exact loc_b rfl | exact Or.inl rfl | exact Or.inr rfl) (by decide) ?_ (hf := by first | exact fn_b rfl | exact .inl rfl | exact .inr rfl)
  | refine ds_set (i := 15) nd rfl (by first | exact loc_b rfl | exact Or.inl rfl | exact Or.inr rfl) (by decide) ?_ (hf := by first | exact fn_b rfl | exact .inl rfl | exact .inr rfl)
  | refine ds_set (i := 16) nd rfl (by first | exact loc_b rfl | exact Or.inl rfl | exact Or.inr rfl) (by decide) ?_ (hf := by first | exact fn_b rfl | exact .inl rfl | exact .inr rfl))
local macro_rules | `(tactic| walk_at "s1") => `(tactic| first
  | (with_reducible show DS _ _ (Stmt.Assign [Expr.Name _ _] _ _) _ _); walk_at "set"
  | with_reducible refine ds_ret ?_
  | with_reducible refine ds_if ?_
  | refine ds_store hu1 ?_
  | (with_reducible show DS _ _ (Stmt.Expr _ _) _ _); refine ds_expr ?_)
local macro_rules | `(tactic| walk_at "ss1") => `(tactic| first
  | refine dss_cons ?_
  | refine dss_nil ?_)
local macro_rules | `(tactic| walk_at "d1") => `(tactic| first
  | (with_reducible show DE _ _ _ _ _); walk_at "e1"
  | (with_reducible show Op2 _ _ _ _ _ _ _); walk_at "o2"
  | (with_reducible show DA _ _ _ _ _); walk_at "a1"
  | (with_reducible show DT _ _ _ _ _); walk_at "t1"
  | (with_reducible show DTs _ _ _ _ _); first | with_reducible refine dts_one ?_ | with_reducible refine dts_nil ?_
  | (with_reducible show DO _ _ _ _ _); first | with_reducible refine do_none ?_ | with_reducible refine do_some ?_
  | (with_reducible show DW _ _ _ _ _); walk_at "w1"
  | (with_reducible show DSs _ _ _ _ _); walk_at "ss1"
  | (with_reducible show DS _ _ _ _ _); walk_at "s1"
  | (with_reducible show Op1 _ _ _ _ _ _); walk_at "o1"
  | (with_reducible show OpA _ _ _ _ _ _); walk_at "oa"
  | (with_reducible show ∃ _, _); walk_at "x1"
  | (with_reducible show DEnds.nx _ _); dsimp only
  | (with_reducible show if _ = true then _ else _); first | refine if_t rfl ?_ | refine if_f rfl ?_
  | (with_reducible show DEnds.rt _ _ _); dsimp only
  | (with_reducible show _ ∧ _); refine ⟨(by walk_at "side"), ?_⟩)
local macro_rules | `(tactic| walk_at "d") => `(tactic| repeat walk_at "d1")
local macro_rules | `(tactic| walk_at "var") => `(tactic| first
  | (with_reducible show DE _ _ (Expr.Name "_law_box_here" _) _ _); first | refine de_var (i := 0) rfl (by walk_at "vis") rfl ?_ | refine de_var_ow (i := 0) (by decide) rfl (by walk_at "vis") rfl ?_
  | (with_reducible show DE _ _ (Expr.Name "_law_size" _) _ _); first | refine de_var (i := 1) rfl (by walk_at "vis") rfl ?_ | refine de_var_ow (i := 1) (by decide) rfl (by walk_at "vis") rfl ?_
  | (with_reducible show DE _ _ (Expr.Name "_law_amount" _) _ _); first | refine de_var (i := 2) rfl (by walk_at "vis") rfl ?_ | refine de_var_ow (i := 2) (by decide) rfl (by walk_at "vis") rfl ?_
  | (with_reducible show DE _ _ (Expr.Name "_law_callings_here" _) _ _); first | refine de_var (i := 3) rfl (by walk_at "vis") rfl ?_ | refine de_var_ow (i := 3) (by decide) rfl (by walk_at "vis") rfl ?_
  | (with_reducible show DE _ _ (Expr.Name "_law_middle" _) _ _); first | refine de_var (i := 4) rfl (by walk_at "vis") rfl ?_ | refine de_var_ow (i := 4) (by decide) rfl (by walk_at "vis") rfl ?_
  | (with_reducible show DE _ _ (Expr.Name "_law_ends" _) _ _); first | refine de_var (i := 5) rfl (by walk_at "vis") rfl ?_ | refine de_var_ow (i := 5) (by decide) rfl (by walk_at "vis") rfl ?_
  | (with_reducible show DE _ _ (Expr.Name "_law_glasses" _) _ _); first | refine de_var (i := 6) rfl (by walk_at "vis") rfl ?_ | refine de_var_ow (i := 6) (by decide) rfl (by walk_at "vis") rfl ?_
  | (with_reducible show DE _ _ (Expr.Name "_law_links_here" _) _ _); first | refine de_var (i := 7) rfl (by walk_at "vis") rfl ?_ | refine de_var_ow (i := 7) (by decide) rfl (by walk_at "vis") rfl ?_
  | (with_reducible show DE _ _ (Expr.Name "_law_spots" _) _ _); first | refine de_var (i := 8) rfl (by walk_at "vis") rfl ?_ | refine de_var_ow (i := 8) (by decide) rfl (by walk_at "vis") rfl ?_
  | (with_reducible show DE _ _ (Expr.Name "_law_yard" _) _ _); first | refine de_var (i := 9) rfl (by walk_at "vis") rfl ?_ | refine de_var_ow (i := 9) (by decide) rfl (by walk_at "vis") rfl ?_
  | (with_reducible show DE _ _ (Expr.Name "_law_i" _) _ _); first | refine de_var (i := 10) rfl (by walk_at "vis") rfl ?_ | refine de_var_ow (i := 10) (by decide) rfl (by walk_at "vis") rfl ?_
  | (with_reducible show DE _ _ (Expr.Name "_law_j" _) _ _); first | refine de_var (i := 11) rfl (by walk_at "vis") rfl ?_ | refine de_var_ow (i := 11) (by decide) rfl (by walk_at "vis") rfl ?_
  | (with_reducible show DE _ _ (Expr.Name "_law_other" _) _ _); first | refine de_var (i := 12) rfl (by walk_at "vis") rfl ?_ | refine de_var_ow (i := 12) (by decide) rfl (by walk_at "vis") rfl ?_
  | (with_reducible show DE _ _ (Expr.Name "_law_told" _) _ _); first | refine de_var (i := 13) rfl (by walk_at "vis") rfl ?_ | refine de_var_ow (i := 13) (by decide) rfl (by walk_at "vis") rfl ?_
  | (with_reducible show DE _ _ (Expr.Name "_law_gap" _) _ _); first | refine de_var (i := 14) rfl (by walk_at "vis") rfl ?_ | refine de_var_ow (i := 14) (by decide) rfl (by walk_at "vis") rfl ?_
  | (with_reducible show DE _ _ (Expr.Name "_law_due" _) _ _); first | refine de_var (i := 15) rfl (by walk_at "vis") rfl ?_ | refine de_var_ow (i := 15) (by decide) rfl (by walk_at "vis") rfl ?_
  | (with_reducible show DE _ _ (Expr.Name "_law_who" _) _ _); first | refine de_var (i := 16) rfl (by walk_at "vis") rfl ?_ | refine de_var_ow (i := 16) (by decide) rfl (by walk_at "vis") rfl ?_
  | (with_reducible show DE _ _ (Expr.Name "_law_glass" _) _ _); first | refine de_var (i := 17) rfl (by walk_at "vis") rfl ?_ | refine de_var_ow (i := 17) (by decide) rfl (by walk_at "vis") rfl ?_)
local macro_rules | `(tactic| walk_at "set") => `(tactic| first
  | (with_reducible show DS _ _ (Stmt.Assign [Expr.Name "_law_box_here" _] _ _) _ _); refine ds_set (i := 0) nd rfl (loc_b rfl) (by decide) ?_ (hf := fn_b rfl)
  | (with_reducible show DS _ _ (Stmt.Assign [Expr.Name "_law_size" _] _ _) _ _); refine ds_set (i := 1) nd rfl (loc_b rfl) (by decide) ?_ (hf := fn_b rfl)
  | (with_reducible show DS _ _ (Stmt.Assign [Expr.Name "_law_amount" _] _ _) _ _); refine ds_set (i := 2) nd rfl (loc_b rfl) (by decide) ?_ (hf := fn_b rfl)
  | (with_reducible show DS _ _ (Stmt.Assign [Expr.Name "_law_callings_here" _] _ _) _ _); refine ds_set (i := 3) nd rfl (loc_b rfl) (by decide) ?_ (hf := fn_b rfl)
  | (with_reducible show DS _ _ (Stmt.Assign [Expr.Name "_law_middle" _] _ _) _ _); refine ds_set (i := 4) nd rfl (loc_b rfl) (by decide) ?_ (hf := fn_b rfl)
  | (with_reducible show DS _ _ (Stmt.Assign [Expr.Name "_law_ends" _] _ _) _ _); refine ds_set (i := 5) nd rfl (loc_b rfl) (by decide) ?_ (hf := fn_b rfl)
  | (with_reducible show DS _ _ (Stmt.Assign [Expr.Name "_law_glasses" _] _ _) _ _); refine ds_set (i := 6) nd rfl (loc_b rfl) (by decide) ?_ (hf := fn_b rfl)
  | (with_reducible show DS _ _ (Stmt.Assign [Expr.Name "_law_links_here" _] _ _) _ _); refine ds_set (i := 7) nd rfl (loc_b rfl) (by decide) ?_ (hf := fn_b rfl)
  | (with_reducible show DS _ _ (Stmt.Assign [Expr.Name "_law_spots" _] _ _) _ _); refine ds_set (i := 8) nd rfl (loc_b rfl) (by decide) ?_ (hf := fn_b rfl)
  | (with_reducible show DS _ _ (Stmt.Assign [Expr.Name "_law_yard" _] _ _) _ _); refine ds_set (i := 9) nd rfl (loc_b rfl) (by decide) ?_ (hf := fn_b rfl)
  | (with_reducible show DS _ _ (Stmt.Assign [Expr.Name "_law_i" _] _ _) _ _); refine ds_set (i := 10) nd rfl (loc_b rfl) (by decide) ?_ (hf := fn_b rfl)
  | (with_reducible show DS _ _ (Stmt.Assign [Expr.Name "_law_j" _] _ _) _ _); refine ds_set (i := 11) nd rfl (loc_b rfl) (by decide) ?_ (hf := fn_b rfl)
  | (with_reducible show DS _ _ (Stmt.Assign [Expr.Name "_law_other" _] _ _) _ _); refine ds_set (i := 12) nd rfl (loc_b rfl) (by decide) ?_ (hf := fn_b rfl)
  | (with_reducible show DS _ _ (Stmt.Assign [Expr.Name "_law_told" _] _ _) _ _); refine ds_set (i := 13) nd rfl (loc_b rfl) (by decide) ?_ (hf := fn_b rfl)
  | (with_reducible show DS _ _ (Stmt.Assign [Expr.Name "_law_gap" _] _ _) _ _); refine ds_set (i := 14) nd rfl (loc_b rfl) (by decide) ?_ (hf := fn_b rfl)
  | (with_reducible show DS _ _ (Stmt.Assign [Expr.Name "_law_due" _] _ _) _ _); refine ds_set (i := 15) nd rfl (loc_b rfl) (by decide) ?_ (hf := fn_b rfl)
  | (with_reducible show DS _ _ (Stmt.Assign [Expr.Name "_law_who" _] _ _) _ _); refine ds_set (i := 16) nd rfl (loc_b rfl) (by decide) ?_ (hf := fn_b rfl)
  | (with_reducible show DS _ _ (Stmt.Assign [Expr.Name "_law_glass" _] _ _) _ _); refine ds_set (i := 17) nd rfl (loc_b rfl) (by decide) ?_ (hf := fn_b rfl))
section
variable {P : Program} {w : World} {K : PySem.W.Frag} {mg : Str → Option Value} {base : Heap} {f : Addr} {fd : FuncData}
/-! ### stars -/
structure Star (h : Hall) (mid : Str) (ends : List Str) (gs : List Int) (c : Int × Int) : Prop where
  len : gs.length = ends.length
  small : ends.length ≤ 100
  nd : (mid :: ends).Nodup
  pl : h.pl.Perm (ends.map (fun e => (e, (1 : Int), (0 : Int))) ++ [(mid, c)])
  ti : h.ti.Perm ((ends.zip gs).map fun p => (sMin p.1 mid, sMax p.1 mid, p.2))
  ok : ∀ n ∈ mid :: ends, PyData.strOk n = true
  face : c.1 = 0 ∨ c.1 = 1
  cnt : counted h.w c.2 = c.2
  w0 : 0 ≤ h.w
section
variable {h : Hall} {mid : Str} {ends : List Str} {gs : List Int} {c : Int × Int}
theorem Star.names (s : Star h mid ends gs c) : (namesOf h).Perm (ends ++ [mid]) := by
  have := s.pl.map (·.1)
  rw [List.map_append, List.map_map] at this
  have e : ends.map ((fun x : Str × Int × Int => x.1) ∘ fun e => (e, (1 : Int), (0 : Int))) = ends := by
    rw [show ((fun x : Str × Int × Int => x.1) ∘ fun e => (e, (1 : Int), (0 : Int))) = id from rfl, List.map_id]
  rw [e] at this
  exact this
theorem Star.mem (s : Star h mid ends gs c) {n : Str} : n ∈ namesOf h ↔ n = mid ∨ n ∈ ends := by
  rw [s.names.mem_iff, List.mem_append, List.mem_singleton]
  exact Or.comm
theorem Star.nmid (s : Star h mid ends gs c) : mid ∉ ends := (List.nodup_cons.mp s.nd).1
theorem Star.tie (s : Star h mid ends gs c) {t : Str × Str × Int} (ht : t ∈ h.ti) : ∃ (i : Nat) (hi : i < ends.length), t.2.2 = gs[i]'(by rw [s.len]; exact hi) ∧ ((t.1 = ends[i] ∧ t.2.1 = mid) ∨ (t.1 = mid ∧ t.2.1 = ends[i])) := by
  obtain ⟨p, hp, rfl⟩ := List.mem_map.mp (s.ti.mem_iff.mp ht)
  obtain ⟨i, hi, e⟩ := List.mem_iff_getElem.mp hp
  have hi2 : i < ends.length := by rw [List.length_zip] at hi; omega
  rw [List.getElem_zip] at e
  subst e
  exact ⟨i, hi2, rfl, minmax _ _⟩
theorem Star.at (s : Star h mid ends gs c) {i : Nat} (hi : i < ends.length) : ∃ t ∈ h.ti, t.2.2 = gs[i]'(by rw [s.len]; exact hi) ∧ between mid ends[i] t := by
  have hz : i < (ends.zip gs).length := by rw [List.length_zip, s.len]; omega
  refine ⟨_, s.ti.mem_iff.mpr (List.mem_map.mpr ⟨(ends.zip gs)[i], List.getElem_mem hz, rfl⟩), by rw [List.getElem_zip], ?_⟩
  rw [List.getElem_zip]
  unfold between
  rcases minmax ends[i] mid with ⟨e1, e2⟩ | ⟨e1, e2⟩ <;> simp only [e1, e2]
  · exact .inr ⟨trivial, trivial⟩
  · exact .inl ⟨trivial, trivial⟩
theorem Star.glass (s : Star h mid ends gs c) {i : Nat} (hi : i < ends.length) : glass mid ends[i] h.ti = some (gs[i]'(by rw [s.len]; exact hi)) := by
  obtain ⟨t, ht, e, b⟩ := s.at hi
  obtain ⟨g, hg⟩ := glass_isSome ht b
  obtain ⟨t', ht', b', e'⟩ := glass_some hg
  obtain ⟨k, hk, e1, e2⟩ := s.tie ht'
  have hki : ends[k] = ends[i] := by
    have hm1 : ends[k] ≠ mid := fun z => s.nmid (z ▸ List.getElem_mem hk)
    rcases e2 with ⟨a1, a2⟩ | ⟨a1, a2⟩ <;> rcases b' with ⟨b1, b2⟩ | ⟨b1, b2⟩
    · exact absurd (a1.symm.trans b1.symm) hm1
    · exact (b2.trans a1).symm
    · exact (b2.trans a2).symm
    · exact absurd (a2.symm.trans b1.symm) hm1
  have : k = i := by
    have pw := List.pairwise_iff_getElem.mp (List.nodup_cons.mp s.nd).2
    rcases Nat.lt_trichotomy k i with z | z | z
    · exact absurd hki (pw k i hk hi z)
    · exact z
    · exact absurd hki.symm (pw i k hi hk z)
  subst this
  rw [hg, ← e', e1]
theorem Star.apart (s : Star h mid ends gs c) {n m : Str} (hn : n ∈ ends) (hm : m ∈ ends) : K13.glass n m h.ti = none := by
  cases hg : K13.glass n m h.ti with
  | none => rfl
  | some g =>
    exfalso
    obtain ⟨t, ht, b, _⟩ := glass_some hg
    obtain ⟨k, hk, _, e2⟩ := s.tie ht
    rcases e2 with ⟨a1, a2⟩ | ⟨a1, a2⟩ <;> rcases b with ⟨b1, b2⟩ | ⟨b1, b2⟩
    · exact s.nmid (a2 ▸ b2 ▸ hm)
    · exact s.nmid (a2 ▸ b1 ▸ hn)
    · exact s.nmid (a1 ▸ b1 ▸ hn)
    · exact s.nmid (a1 ▸ b2 ▸ hm)
theorem Star.sound (s : Star h mid ends gs c) : Sound h where
  pl := by have := s.small; rw [s.pl.length_eq]; simp; omega
  ti := by have := s.small; rw [s.ti.length_eq, List.length_map, List.length_zip]; omega
  nd := by
    rw [s.names.nodup_iff]
    have := s.nd
    rw [List.nodup_cons] at this
    rw [List.nodup_append]
    exact ⟨this.2, by simp, fun a ha b hb z => by
      have hb : b = mid := by simpa using hb
      exact this.1 (by rw [← hb, ← z]; exact ha)⟩
  mem := fun t ht => by
    obtain ⟨k, hk, _, e2⟩ := s.tie ht
    rcases e2 with ⟨a1, a2⟩ | ⟨a1, a2⟩ <;> rw [a1, a2, s.mem, s.mem]
    · exact ⟨.inr (List.getElem_mem hk), .inl rfl⟩
    · exact ⟨.inl rfl, .inr (List.getElem_mem hk)⟩
  ne := fun t ht z => by
    obtain ⟨k, hk, _, e2⟩ := s.tie ht
    have hm1 : ends[k] ≠ mid := fun z => s.nmid (z ▸ List.getElem_mem hk)
    rcases e2 with ⟨a1, a2⟩ | ⟨a1, a2⟩
    · exact hm1 (a1.symm.trans (z.trans a2))
    · exact hm1 (a2.symm.trans (z.symm.trans a1))
  ok := fun n hn => s.ok n (by
    rcases s.mem.mp hn with e | e
    · rw [e]; exact List.mem_cons_self ..
    · exact List.mem_cons_of_mem _ e)
theorem Star.good (s : Star h mid ends gs c) : Good h := fun p hp => by
  rcases List.mem_append.mp (s.pl.mem_iff.mp hp) with z | z
  · obtain ⟨e, _, rfl⟩ := List.mem_map.mp z
    refine ⟨.inr rfl, ?_⟩
    show counted h.w 0 = 0
    unfold counted
    by_cases e : h.w = 0
    · rw [if_pos e]
    · rw [if_neg e]; exact Int.zero_emod _
  · have z : p = (mid, c) := by simpa using z
    subst z
    exact ⟨s.face, s.cnt⟩
theorem Star.may (s : Star h mid ends gs c) {r : List Str} (nd : r.Nodup) (hr : ∀ n ∈ r, n ∈ ends) : May h r :=
  may_star s.sound nd (fun n hn => List.mem_map.mpr ⟨(n, 1, 0), List.mem_filter.mpr ⟨s.pl.mem_iff.mpr (List.mem_append_left _ (List.mem_map.mpr ⟨n, hr n hn, rfl⟩)), rfl⟩, rfl⟩) fun n hn m hm => s.apart (hr n hn) (hr m hm)
theorem names_stay {h : Hall} (s : Sound h) {m : Str} : ∀ {r : List Str}, m ∈ namesOf h → m ∉ r → m ∈ namesOf (behindRow h r)
  | [], hm, _ => hm
  | n :: r, hm, hr => by
    refine names_stay (h := behindOne h n) (s.behind n) ?_ (fun z => hr (List.mem_cons_of_mem _ z))
    rw [names_behind s]
    refine List.mem_filter.mpr ⟨hm, ?_⟩
    have : ¬ m = n := fun z => hr (z ▸ List.mem_cons_self ..)
    simp [this]
theorem fm_eq {α β : Type} {g : α → Option β} : ∀ {r : List α} {l : List β}, r.map g = l.map some → r.filterMap g = l
  | [], [], _ => rfl
  | [], _ :: _, h => nomatch h
  | _ :: _, [], h => nomatch h
  | a :: r, b :: l, h => by
    rw [List.map_cons, List.map_cons] at h
    injection h with h1 h2
    rw [List.filterMap_cons, h1, fm_eq h2]
theorem Star.map (s : Star h mid ends gs c) : ends.map (fun m => K13.glass mid m h.ti) = gs.map some := by
  apply List.ext_getElem
  · rw [List.length_map, List.length_map, s.len]
  · intro i h1 h2
    rw [List.getElem_map, List.getElem_map]
    exact s.glass (by simpa using h1)
/-- the middle's card behind a row of ends -/
theorem Star.shows (s : Star h mid ends gs c) {r : List Str} {gs' : List Int} (nd : r.Nodup) (hr : ∀ n ∈ r, n ∈ ends) (hg : r.map (fun m => K13.glass mid m h.ti) = gs'.map some) : (mid, cardSum h.w c gs') ∈ (behindRow h r).pl := by
  have hm := names_stay s.sound (s.mem.mpr (.inl rfl)) (fun z => s.nmid (hr _ z))
  obtain ⟨p, hp, e⟩ := List.mem_map.mp hm
  obtain ⟨q, hq, e1, e2⟩ := row_card s.sound s.good (s.may nd hr) hp
  have e : p.1 = mid := e
  rw [e] at e1 e2
  rw [fm_eq hg] at e2
  have hq2 : q.2 = c := by
    rcases List.mem_append.mp (s.pl.mem_iff.mp hq) with z | z
    · obtain ⟨x, hx, rfl⟩ := List.mem_map.mp z
      exact absurd (show x = mid from e1) (fun z => s.nmid (z ▸ hx))
    · have z : q = (mid, c) := by simpa using z
      rw [z]
  rw [hq2] at e2
  have : p = (mid, cardSum h.w c gs') := Prod.ext e e2
  rw [← this]
  exact hp
theorem swap_perm {α : Type} {xs : List α} {i j : Nat} (hi : i < xs.length) (hj : j < xs.length) : (swapL xs i j xs[i] xs[j]).Perm xs := List.set_set_perm hi hj
end
theorem card_eqb (a b : Int × Int) : (cardD a).eqb (cardD b) = decide (a = b) := by
  obtain ⟨a1, a2⟩ := a
  obtain ⟨b1, b2⟩ := b
  simp [cardD, D.eqb, D.py, pyL, PyData.eqv, PyData.eqvAll, Prod.mk.injEq, Bool.beq_eq_decide_eq, Bool.decide_and]
theorem size5_at {r : Int} (h0 : 0 ≤ r) (h1 : r < 5) : ∃ z : Int, 0 ≤ z ∧ atI [D.int 0, .int 2, .int 3, .int 12, .int 60] r = some (.int z) := by
  have : r = 0 ∨ r = 1 ∨ r = 2 ∨ r = 3 ∨ r = 4 := by omega
  rcases this with e | e | e | e | e <;> subst e
  · exact ⟨0, by decide, rfl⟩
  · exact ⟨2, by decide, rfl⟩
  · exact ⟨3, by decide, rfl⟩
  · exact ⟨12, by decide, rfl⟩
  · exact ⟨60, by decide, rfl⟩
theorem cut_from {α : Type} (xs : List α) (u : Nat) : cutL xs (some (u : Int)) none = xs.drop u := by
  unfold cutL
  rw [HT.sIx_nat, HT.sIx_none, List.take_of_length_le (by simp)]
  by_cases h : u ≤ xs.length
  · rw [Nat.min_eq_left h]
  · rw [Nat.min_eq_right (by omega), List.drop_of_length_le (by omega), List.drop_of_length_le (by omega)]
abbrev N__law_exchanged_right : List Str := ["_law_box_here", "_law_size", "_law_amount", "_law_callings_here", "_law_middle", "_law_ends", "_law_glasses", "_law_links_here", "_law_spots", "_law_yard", "_law_i", "_law_j", "_law_other", "_law_told", "_law_gap", "_law_due", "_law_who", "_law_glass"]
theorem nd__law_exchanged_right : N__law_exchanged_right.Nodup := by decide +kernel
theorem sc__law_exchanged_right : FnScope N__law_exchanged_right ["_law_box_here"] (defScope s__law_exchanged_right) := ⟨rfl, rfl, rfl, nd__law_exchanged_right, rfl, by decide +kernel, by decide +kernel⟩
def S__law_exchanged_right : FSp := fB (fun _ : Unit => []) (fun _ => True) (fun _ (_ : Unit) => True) (fun _ => .fz (.bl true))
theorem ok__law_exchanged_right (g : Pg K mg) (F : FnP K "_law_exchanged_right" s__law_exchanged_right f fd) : FnOk P w K mg base CX0 5 f fd ["_law_box_here"] (spOf K [0] 1 S__law_exchanged_right) := by
  have n_len := g.bi.len; have n_min := g.bi.min; have n_max := g.bi.max; have n_zip := g.bi.zip; have n_tuple := g.bi.tuple; have n_sorted := g.bi.sorted; have n_list := g.bi.list
  obtain ⟨aT, fdT, G_take, g_take, F_take, b_take⟩ := at_take (P := P) (w := w) (base := base) g
  obtain ⟨aR, fdR, G_round, g_round, F_round, b_round⟩ := at_round (P := P) (w := w) (base := base) g
  obtain ⟨aL, fdL, G_callings, g_callings, F_callings, b_callings⟩ := at_callings (P := P) (w := w) (base := base) g
  obtain ⟨aO, fdO, G_card_of, g_card_of, F_card_of, b_card_of⟩ := at_card_of (P := P) (w := w) (base := base) g
  obtain ⟨aB, fdB, G_behind, g_behind, F_behind, b_behind⟩ := at_behind (P := P) (w := w) (base := base) g
  refine fn_ok (S := S__law_exchanged_right) 16 (by decide) (by decide) F sc__law_exchanged_right fun cdv A outer s H E b cs Post hr hcl hS => ?_
  obtain ⟨x, u, rfl, _, q⟩ := hS
  have q : ∀ x' e, e[0]? = some (.ow (boxD x')) → Post (.fz (.bl true)) e := q () trivial
  have hu : (A.deeper (envOfC "_law_exchanged_right" (defScope s__law_exchanged_right) s.heap.objs.size f cdv)).units + 64 < cLine := hr.units
  have hu1 : (A.deeper (envOfC "_law_exchanged_right" (defScope s__law_exchanged_right) s.heap.objs.size f cdv)).units + 1 < cLine := by omega
  have nd := nd__law_exchanged_right
  change DSs _ b _ [.ow (boxD x), .no, .no, .no, .no, .no, .no, .no, .no, .no, .no, .no, .no, .no, .no, .no, .no, .no] _
  refine dss_cons ?_
  refine ds_parG (i := 1) (j := 2) ?hc ?hN ?hp ?hij ?hj1 ?hj2 ?h ?hw ?hs ?h1 ?hn ?hst
  case hc => rfl
  case hN => exact nd
  case hp => walk_at "puts"
  case hij => decide
  case hj1 => simp
  case hj2 => simp
  case hw => rfl
  case hs => rfl
  case h1 => rfl
  case hn => rfl
  case hst => rfl
  walk_at "d"
  refine de_callO (j := 0) G_take fB_mono (hr.mono (by decide)) rfl g_take F_take.kp b_take ?_
  walk_at "d"
  refine ⟨_, _, _, ⟨rfl, rfl, all2, rfl⟩, rfl, x, 5, rfl, ⟨by decide, by decide⟩, fun r hr1 x1 e he => ⟨_, he, ?_⟩⟩
  obtain ⟨sz, hsz, hat⟩ := size5_at hr1.1 hr1.2
  refine ix_lst (.ow _) (.fz _) hat ?_
  walk_at "d"
  refine de_callO (j := 0) G_take fB_mono (hr.mono (by decide)) rfl g_take F_take.kp b_take ?_
  walk_at "d"
  refine ⟨_, _, _, ⟨rfl, rfl, all2, rfl⟩, rfl, x1, 5, rfl, ⟨by decide, by decide⟩, fun r2 hr2 x2 e he => ⟨_, he, ?_⟩⟩
  obtain ⟨hr20, hr21⟩ := hr2
  obtain ⟨am, ham, ham2, ham6⟩ : ∃ am : Nat, (2 : Int) + r2 = ((am : Nat) : Int) ∧ 2 ≤ am ∧ am ≤ 6 := ⟨(2 + r2).toNat, by omega, by omega, by omega⟩
  walk_at "d"
  rw [ham]
  refine ⟨_, _, rfl, fun j z => (nomatch z), fun j z => (nomatch z), by simp, by simp, ?_⟩
  walk_at "d"
  refine de_callO (j := 0) G_callings fB_mono (hr.mono (by decide)) rfl g_callings F_callings.kp b_callings ?_
  walk_at "d"
  have ham1 : ((am : Nat) : Int) + 1 = ((am + 1 : Nat) : Int) := by omega
  refine ⟨_, _, _, ⟨rfl, rfl, all2, rfl⟩, rfl, x2, am + 1, by rw [ham1]; rfl, by show am + 1 ≤ 26; omega, fun ns hns x3 e he => ⟨_, he, ?_⟩⟩
  have hns : Names ns (am + 1) := hns
  obtain ⟨mid, ends, rfl⟩ : ∃ mid ends, ns = mid :: ends := by
    cases ns with
    | nil => have := hns.len; simp at this
    | cons a l => exact ⟨a, l, rfl⟩
  have hel : ends.length = am := by have := hns.len; simpa using this
  walk_at "d"
  change DS _ b _ [.ow (boxD x3), .fz (.int sz), .fz (.int (am : Nat)), .ow (.lst ((mid :: ends).map .str)), .no, .no, .no, .no, .no, .no, .no, .no, .no, .no, .no, .no, .no, .no] _
  refine ds_parG (i := 4) (j := 5) ?kc ?kN ?kp ?kij ?kj1 ?kj2 ?k0 ?kw ?ks ?k1 ?kn ?kst
  case kc => rfl
  case kN => exact nd
  case kp => walk_at "puts"
  case kij => decide
  case kj1 => simp
  case kj2 => simp
  case kw => rfl
  case ks => rfl
  case k1 => rfl
  case kn => rfl
  case kst => rfl
  have hat0 : atI ((mid :: ends).map D.str) 0 = some (.str mid) := atI_map D.str (xs := mid :: ends) (k := 0) (by simp)
  walk_at "d"
  have hcut : DL.cutD ((mid :: ends).map D.str) (some 1) none = ends.map .str := by
    rw [cut_map]
    exact congrArg (List.map D.str) (cut_from (mid :: ends) 1)
  rw [hcut]
  refine ⟨_, _, rfl, fun j z => (nomatch z), fun j z => (nomatch z), by simp, by simp, ?_⟩
  refine dss_freeze 5 rfl (by simp) ?_
  -- glasses
  refine dss_cons (ds_setLc (i := 6) [("_law_who", 16)] rfl nd rfl rfl (sw_true rfl rfl rfl (by decide +kernel)) (by change BlkOk N__law_exchanged_right (defScope s__law_exchanged_right) _ _; walk_at "blk") (by simp) (by simp) ?_)
  refine DI.a (di_list ?_)
  walk_at "var"
  refine ⟨_, .inl rfl, ?_⟩
  refine ⟨by simp; omega, fun k acc e => ∃ (x' : Box) (gs : List Int), acc = gs.map .int ∧ gs.length = k ∧ e = [.ow (boxD x'), .fz (.int sz), .fz (.int (am : Nat)), .ow (.lst ((mid :: ends).map .str)), .fz (.str mid), .fz (.lst (ends.map .str)), .no, .no, .no, .no, .no, .no, .no, .no, .no, .no, .no, .no], ⟨x3, [], rfl, rfl, rfl⟩, ?_, ?_, ?_⟩
  · rintro k acc e ⟨x', gs, rfl, hl, rfl⟩
    exact ⟨trivial, by rw [List.length_map, hl]; exact Nat.le_refl _, by simp⟩
  · rintro k d acc e hd ⟨x', gs, rfl, hl, rfl⟩ s1 H1 C1 cl1 fp1
    rw [List.getElem?_map] at hd
    cases hp : ends[k]? with
    | none => rw [hp] at hd; cases hd
    | some na =>
      rw [hp] at hd
      cases hd
      refine dgo_name (i := 16) nd rfl (loc_b rfl) (fn_b rfl) (by decide) (by simp) (by simp) (fun j z => nomatch z) ?_
      intro s2 H2 C2 cl2 fp2
      refine dts_nil (ite_b (fun _ => ?_) (fun z => nomatch z))
      intro s3 H3 C3 cl3 fp3
      refine de_call G_round fS_mono (hr.mono (by decide)) rfl g_round F_round.kp b_round ?_
      walk_at "d"
      refine de_callO (j := 0) G_take fB_mono (hr.mono (by decide)) rfl g_take F_take.kp b_take ?_
      walk_at "d"
      refine ⟨_, _, _, ⟨rfl, rfl, all2, rfl⟩, rfl, x', 60, rfl, ⟨by decide, by decide⟩, fun r4 hr4 x4 e he => ⟨_, he, ?_⟩⟩
      walk_at "d"
      refine ⟨(sz, r4 - 20), rfl, hsz, fun e => ?_⟩
      refine ⟨_, rfl, x4, gs ++ [counted sz (r4 - 20)], ?_, ?_, rfl⟩
      · rw [List.map_append]; rfl
      · rw [List.length_append, hl]; rfl
  rintro acc e ⟨x4, gs, rfl, hgl, rfl⟩
  have hgl : gs.length = ends.length := by rw [hgl, List.length_map]
  refine ⟨by simp, ?_⟩
  refine dss_freeze 6 rfl (by simp) ?_
  -- links
  refine dss_cons (ds_setLc (i := 7) [("_law_who", 16), ("_law_glass", 17)] rfl nd rfl rfl (sw_true rfl rfl rfl (by decide +kernel)) (by change BlkOk N__law_exchanged_right (defScope s__law_exchanged_right) _ _; walk_at "blk") (by simp) (by simp) ?_)
  refine DI.a (di_zip rfl n_zip ?_)
  walk_at "var"
  walk_at "var"
  refine ⟨_, _, .inl rfl, .inl rfl, ?_⟩
  have hzl : (zipD (ends.map D.str) (gs.map D.int)).length = ends.length := by rw [zipD_len, List.length_map, List.length_map]; omega
  have hzz : (ends.zip gs).length = ends.length := by rw [List.length_zip]; omega
  refine ⟨by rw [hzl]; omega, fun k acc e => acc = (((ends.zip gs).take k).map fun p => (sMin p.1 mid, sMax p.1 mid, p.2)).map tieD ∧ e = [.ow (boxD x4), .fz (.int sz), .fz (.int (am : Nat)), .ow (.lst ((mid :: ends).map .str)), .fz (.str mid), .fz (.lst (ends.map .str)), .fz (.lst (gs.map .int)), .no, .no, .no, .no, .no, .no, .no, .no, .no, .no, .no], ⟨rfl, rfl⟩, ?_, ?_, ?_⟩
  · rintro k acc e ⟨rfl, rfl⟩
    exact ⟨trivial, by rw [List.length_map, List.length_map, List.length_take]; omega, by simp⟩
  · rintro k d acc e hd ⟨rfl, rfl⟩ s1 H1 C1 cl1 fp1
    obtain ⟨d1, d2, h1, h2, rfl⟩ := zipD_get _ _ k d hd
    rw [List.getElem?_map] at h1 h2
    cases hp : ends[k]? with
    | none => rw [hp] at h1; cases h1
    | some na =>
      rw [hp] at h1
      cases h1
      cases hp2 : gs[k]? with
      | none => rw [hp2] at h2; cases h2
      | some gk =>
        rw [hp2] at h2
        cases h2
        have hzk : (ends.zip gs)[k]? = some (na, gk) := List.getElem?_zip_eq_some.mpr ⟨hp, hp2⟩
        have ht : (ends.zip gs).take (k + 1) = (ends.zip gs).take k ++ [(na, gk)] := by rw [List.take_add_one, hzk]; rfl
        refine dgo_tup (is := [16, 17]) rfl nd (by walk_at "puts") rfl rfl rfl (by simp) ?_
        intro s2 H2 C2 cl2 fp2
        refine dts_nil (ite_b (fun _ => ?_) (fun z => nomatch z))
        intro s3 H3 C3 cl3 fp3
        walk_at "d"
        refine ⟨?_, rfl⟩
        rw [ht, List.map_append, List.map_append]
        rfl
  rintro acc e ⟨rfl, rfl⟩
  refine ⟨by simp, ?_⟩
  have e0 : (ends.zip gs).take (zipD (ends.map D.str) (gs.map D.int)).length = ends.zip gs := List.take_of_length_le (by omega)
  rw [e0]
  -- spots
  walk_at "d"
  refine de_lc [("_law_who", 16)] rfl nd (by change BlkOk N__law_exchanged_right (defScope s__law_exchanged_right) _ _; walk_at "blk") (by simp) ?_
  refine DI.a (di_list ?_)
  walk_at "var"
  refine ⟨_, .inl rfl, ?_⟩
  refine ⟨by simp; omega, fun k acc e => acc = ((ends.take k).map fun n => (n, (1 : Int), (0 : Int))).map placeD ∧ e = [.ow (boxD x4), .fz (.int sz), .fz (.int (am : Nat)), .ow (.lst ((mid :: ends).map .str)), .fz (.str mid), .fz (.lst (ends.map .str)), .fz (.lst (gs.map .int)), .ow (.lst (((ends.zip gs).map fun p => (sMin p.1 mid, sMax p.1 mid, p.2)).map tieD)), .no, .no, .no, .no, .no, .no, .no, .no, .no, .no], ⟨rfl, rfl⟩, ?_, ?_, ?_⟩
  · rintro k acc e ⟨rfl, rfl⟩
    exact ⟨trivial, by rw [List.length_map, List.length_map, List.length_take]; omega, by simp⟩
  · rintro k d acc e hd ⟨rfl, rfl⟩ s1 H1 C1 cl1 fp1
    rw [List.getElem?_map] at hd
    cases hp : ends[k]? with
    | none => rw [hp] at hd; cases hd
    | some na =>
      rw [hp] at hd
      cases hd
      have ht : ends.take (k + 1) = ends.take k ++ [na] := by rw [List.take_add_one, hp]; rfl
      refine dgo_name (i := 16) nd rfl (loc_b rfl) (fn_b rfl) (by decide) (by simp) (by simp) (fun j z => nomatch z) ?_
      intro s2 H2 C2 cl2 fp2
      refine dts_nil (ite_b (fun _ => ?_) (fun z => nomatch z))
      intro s3 H3 C3 cl3 fp3
      walk_at "d"
      refine ⟨?_, rfl⟩
      rw [ht, List.map_append, List.map_append]
      rfl
  rintro acc e ⟨rfl, rfl⟩
  have e1 : ends.take (ends.map D.str).length = ends := by simp
  rw [e1]
  walk_at "d"
  refine de_callO (j := 0) G_take fB_mono (hr.mono (by decide)) rfl g_take F_take.kp b_take ?_
  walk_at "d"
  refine ⟨_, _, _, ⟨rfl, rfl, all2, rfl⟩, rfl, x4, 2, rfl, ⟨by decide, by decide⟩, fun fa hfa x5 e he => ⟨_, he, ?_⟩⟩
  obtain ⟨hfa0, hfa1⟩ := hfa
  walk_at "d"
  refine de_call G_round fS_mono (hr.mono (by decide)) rfl g_round F_round.kp b_round ?_
  walk_at "d"
  refine de_callO (j := 0) G_take fB_mono (hr.mono (by decide)) rfl g_take F_take.kp b_take ?_
  walk_at "d"
  refine ⟨_, _, _, ⟨rfl, rfl, all2, rfl⟩, rfl, x5, 60, rfl, ⟨by decide, by decide⟩, fun r6 hr6 x6 e he => ⟨_, he, ?_⟩⟩
  walk_at "d"
  refine ⟨(sz, r6 - 20), rfl, hsz, fun e => ?_⟩
  walk_at "d"
  refine add_lst (.ow _) (.ow _) (by simp; omega) ?_
  have espt : ((ends.map fun n => (n, (1 : Int), (0 : Int))).map placeD) ++ [D.tup [.str mid, .int fa, .int (counted sz (r6 - 20))]] = (ends.map (fun n => (n, (1 : Int), (0 : Int))) ++ [(mid, fa, counted sz (r6 - 20))]).map placeD := by rw [List.map_append]; rfl
  rw [espt]
  have hcc : counted sz (counted sz (r6 - 20)) = counted sz (r6 - 20) := counted_idem _ _
  revert hcc
  generalize counted sz (r6 - 20) = cc
  intro hcc
  have hok : ∀ n ∈ mid :: ends, PyData.strOk n = true := fun n hn => (hns.low n hn).1.ok
  walk_at "d"
  have hel6 : ends.length ≤ 6 := by omega
  refine sorted_c (.al rfl) (sortd_map (fun p hp => ?_) (fun a c => ?_) (fun a => ⟨_, _, rfl⟩) (by simp; omega)) ?_
  · have hm : p.1 ∈ mid :: ends := by
      rcases List.mem_append.mp hp with z | z
      · obtain ⟨n, hn, rfl⟩ := List.mem_map.mp z
        exact List.mem_cons_of_mem _ hn
      · have z : p = (mid, fa, cc) := by simpa using z
        subst z
        exact List.mem_cons_self ..
    refine .tup fun d hd => ?_
    simp at hd
    rcases hd with h | h | h <;> subst h
    · exact .str (hok _ hm)
    · exact .int _
    · exact .int _
  · simp [placeD, D.py, pyL, PySem.W.alike, PySem.W.alikeAll]
  obtain ⟨PL, hPL, hPp⟩ := dsort_map placeD (ends.map (fun n => (n, (1 : Int), (0 : Int))) ++ [(mid, fa, cc)])
  rw [hPL]
  walk_at "d"
  refine sorted_c (.al rfl) (sortd_map (fun p hp => ?_) (fun a c => ?_) (fun a => ⟨_, _, rfl⟩) (by simp; omega)) ?_
  · obtain ⟨z, hz, rfl⟩ := List.mem_map.mp hp
    have hzm : z.1 ∈ ends := (List.of_mem_zip (a := z.1) (b := z.2) hz).1
    refine .tup fun d hd => ?_
    simp at hd
    rcases minmax z.1 mid with ⟨a1, a2⟩ | ⟨a1, a2⟩ <;> rcases hd with h | h | h <;> subst h
    · rw [a1]; exact .str (hok _ (List.mem_cons_of_mem _ hzm))
    · rw [a2]; exact .str (hok _ (List.mem_cons_self ..))
    · exact .int _
    · rw [a1]; exact .str (hok _ (List.mem_cons_self ..))
    · rw [a2]; exact .str (hok _ (List.mem_cons_of_mem _ hzm))
    · exact .int _
  · simp [tieD, D.py, pyL, PySem.W.alike, PySem.W.alikeAll]
  obtain ⟨TL, hTL, hTp⟩ := dsort_map tieD ((ends.zip gs).map fun p => (sMin p.1 mid, sMax p.1 mid, p.2))
  rw [hTL]
  have hst : Star ⟨sz, PL, TL⟩ mid ends gs (fa, cc) := ⟨hgl, by omega, hns.nd, hPp, hTp, hok, by show fa = 0 ∨ fa = 1; omega, hcc, hsz⟩
  walk_at "d"
  change DS _ b _ [.ow (boxD x6), .fz (.int sz), .fz (.int (am : Nat)), .ow (.lst ((mid :: ends).map .str)), .fz (.str mid), .fz (.lst (ends.map .str)), .fz (.lst (gs.map .int)), .ow (.lst (((ends.zip gs).map fun p => (sMin p.1 mid, sMax p.1 mid, p.2)).map tieD)), .ow (.lst ((ends.map (fun n => (n, (1 : Int), (0 : Int))) ++ [(mid, fa, cc)]).map placeD)), .fz (hallD ⟨sz, PL, TL⟩), .no, .no, .no, .no, .no, .no, .no, .no] _
  refine ds_par (i := 10) (j := 11) ?lc ?lN ?li ?lj ?lij ?lx ?ly ?lj1 ?lj2 ?l0 ?lw ?ls
  case lc => rfl
  case lN => exact nd
  case li => rfl
  case lj => rfl
  case lij => decide
  case lx => rfl
  case ly => rfl
  case lj1 => simp
  case lj2 => simp
  case lw => rfl
  case ls => rfl
  walk_at "d"
  refine de_callO (j := 0) G_take fB_mono (hr.mono (by decide)) rfl g_take F_take.kp b_take ?_
  walk_at "d"
  refine ⟨_, _, _, ⟨rfl, rfl, all2, rfl⟩, rfl, x6, _, rfl, ⟨by omega, by omega⟩, fun ri hri x7 e he => ⟨_, he, ?_⟩⟩
  obtain ⟨hri0, hri1⟩ := hri
  obtain ⟨ii, rfl⟩ : ∃ ii : Nat, ri = (ii : Int) := ⟨ri.toNat, by omega⟩
  walk_at "d"
  refine de_callO (j := 0) G_take fB_mono (hr.mono (by decide)) rfl g_take F_take.kp b_take ?_
  walk_at "d"
  refine ⟨_, _, _, ⟨rfl, rfl, all2, rfl⟩, rfl, x7, _, rfl, ⟨by omega, by omega⟩, fun rj hrj x8 e he => ⟨_, he, ?_⟩⟩
  obtain ⟨hrj0, hrj1⟩ := hrj
  obtain ⟨jj, rfl⟩ : ∃ jj : Nat, rj = (jj : Int) := ⟨rj.toNat, by omega⟩
  walk_at "d"
  refine ⟨_, _, rfl, fun j z => (nomatch z), fun j z => (nomatch z), by simp, by simp, ?_⟩
  have hI : ii < ends.length := by omega
  have hJ : jj < ends.length := by omega
  have hI2 : ii < gs.length := by omega
  have hJ2 : jj < gs.length := by omega
  have hatEI := atI_map D.str hI
  have hatEJ := atI_map D.str hJ
  have hatGI := atI_map D.int hI2
  have hatGJ := atI_map D.int hJ2
  walk_at "d"
  change DS _ b _ [.ow (boxD x8), .fz (.int sz), .fz (.int (am : Nat)), .ow (.lst ((mid :: ends).map .str)), .fz (.str mid), .fz (.lst (ends.map .str)), .fz (.lst (gs.map .int)), .ow (.lst (((ends.zip gs).map fun p => (sMin p.1 mid, sMax p.1 mid, p.2)).map tieD)), .ow (.lst ((ends.map (fun n => (n, (1 : Int), (0 : Int))) ++ [(mid, fa, cc)]).map placeD)), .fz (hallD ⟨sz, PL, TL⟩), .fz (.int (ii : Nat)), .fz (.int (jj : Nat)), .ow (.lst (ends.map .str)), .no, .no, .no, .no, .no] _
  refine ds_asg ?_
  walk_at "d"
  refine dg_sub2 hu1 rfl ?_
  show DE _ b _ _ _
  walk_at "var"
  refine ⟨_, rfl, ?_⟩
  walk_at "var"
  refine ⟨_, _, _, rfl, rfl, Put.lst (j := ii) (by rw [List.length_map]; exact ixN_nat hI), ?_⟩
  show DE _ b _ _ _
  walk_at "var"
  refine ⟨_, rfl, ?_⟩
  walk_at "var"
  refine ⟨_, _, _, rfl, rfl, Put.lst (j := jj) (by rw [List.length_set, List.length_map]; exact ixN_nat hJ), ?_⟩
  have eo : ((ends.map D.str).set ii (.str ends[jj])).set jj (.str ends[ii]) = (swapL ends ii jj ends[ii] ends[jj]).map D.str := by
    unfold swapL
    rw [List.map_set, List.map_set]
  rw [eo]
  have hndE : ends.Nodup := (List.nodup_cons.mp hns.nd).2
  have hsp := swap_perm hI hJ
  have hndS : (swapL ends ii jj ends[ii] ends[jj]).Nodup := hsp.nodup_iff.mpr hndE
  have hmS : ∀ n ∈ swapL ends ii jj ends[ii] ends[jj], n ∈ ends := fun n hn => hsp.mem_iff.mp hn
  have hmapS : (swapL ends ii jj ends[ii] ends[jj]).map (fun m => K13.glass mid m TL) = (swapL gs ii jj gs[ii] gs[jj]).map some := by
    have e1 : (swapL ends ii jj ends[ii] ends[jj]).map (fun m => K13.glass mid m TL) = ((ends.map (fun m => K13.glass mid m TL)).set ii (K13.glass mid ends[jj] TL)).set jj (K13.glass mid ends[ii] TL) := by
      unfold swapL
      rw [List.map_set, List.map_set]
    have e2 : ends.map (fun m => K13.glass mid m TL) = gs.map some := hst.map
    have e3 : K13.glass mid ends[jj] TL = some gs[jj] := hst.glass hJ
    have e4 : K13.glass mid ends[ii] TL = some gs[ii] := hst.glass hI
    rw [e1, e2, e3, e4]
    unfold swapL
    rw [List.map_set, List.map_set]
  have sh1 := hst.shows hndE (fun n hn => hn) hst.map
  have sh2 := hst.shows hndS hmS hmapS
  have hlaw := swap_law (w := sz) (c := (fa, cc)) hI2 hJ2
  have hsS := hst.sound
  have hmay1 := hst.may hndE (fun n hn => hn)
  have hmay2 := hst.may hndS hmS
  revert hndS hmS hmapS sh1 sh2 hlaw hmay1 hmay2 hsp
  generalize swapL ends ii jj ends[ii] ends[jj] = oth
  generalize hs2 : swapL gs ii jj gs[ii] gs[jj] = gs2
  intro hsp hndS hmS hmapS sh1 sh2 hlaw hmay1 hmay2
  walk_at "d"
  refine de_call G_card_of fS_mono (hr.mono (by decide)) rfl g_card_of F_card_of.kp b_card_of ?_
  walk_at "d"
  refine de_call G_behind fS_mono (hr.mono (by decide)) rfl g_behind F_behind.kp b_behind ?_
  walk_at "d"
  refine ⟨(⟨sz, PL, TL⟩, ends, false), rfl, ⟨hsS, hsz, hmay1⟩, fun e => ?_⟩
  walk_at "d"
  refine ⟨(behindRow ⟨sz, PL, TL⟩ ends, mid, cardSum sz (fa, cc) gs), rfl, ⟨(hsS.row ends).pl, cards_get (hsS.row ends) sh1⟩, fun e => ?_⟩
  walk_at "d"
  refine de_call G_card_of fS_mono (hr.mono (by decide)) rfl g_card_of F_card_of.kp b_card_of ?_
  walk_at "a1"
  refine de_callKW G_behind fS_mono (hr.mono (by decide)) rfl g_behind F_behind.kp (F_behind.kwAll fun _ _ _ _ _ _ us hl => match us, hl with | [_, _], _ => rfl) ?_
  show DE _ b _ _ _
  walk_at "var"
  show DE _ b _ _ _
  walk_at "d"
  refine ⟨_, .cons (.cons .nil), rfl, (⟨sz, PL, TL⟩, oth, true), rfl, ⟨hsS, hsz, hmay2⟩, fun e => ?_⟩
  walk_at "d"
  refine ⟨(behindRow ⟨sz, PL, TL⟩ oth, mid, cardSum sz (fa, cc) gs2), rfl, ⟨(hsS.row oth).pl, cards_get (hsS.row oth) sh2⟩, fun e => ?_⟩
  walk_at "d"
  have shc : ∀ c : Int × Int, Sh 2 (cardD c) := fun c => .tup fun d hd => by
    simp at hd
    rcases hd with h | h <;> subst h <;> exact .int _
  have hl2 : gs2.length = gs.length := by rw [← hs2]; simp [swapL]
  have hface : (cardSum sz (fa, cc) gs).1 = (cardSum sz (fa, cc) gs2).1 := by unfold cardSum; rw [hl2]
  refine ite_b (fun hpar => ?_) (fun hpar => ?_)
  · have hb : (cardD (cardSum sz (fa, cc) gs)).eqb (cardD (cardSum sz (fa, cc) gs2)) = true := by rw [card_eqb]; exact decide_eq_true (hlaw.mpr (.inl (of_decide_eq_true hpar)))
    walk_at "d"
    refine eq_dat (.fz _) (.fz _) (shc _) (shc _) (by decide) ?_
    rw [hb]
    walk_at "d"
    exact fz_eq (q x8 _ rfl) (by congr 1; exact (decide_eq_true hface).symm)
  · walk_at "d"
    refine de_call G_round fS_mono (hr.mono (by decide)) rfl g_round F_round.kp b_round ?_
    walk_at "d"
    refine ⟨(sz, 2 * (gs[ii] - gs[jj])), rfl, hsz, fun e => ?_⟩
    have hb : (cardD (cardSum sz (fa, cc) gs)).eqb (cardD (cardSum sz (fa, cc) gs2)) = decide (counted sz (2 * (gs[ii] - gs[jj])) = 0) := by
      rw [card_eqb]
      exact decide_eq_decide.mpr ⟨fun h => (hlaw.mp h).resolve_left (of_decide_eq_false hpar), fun h => hlaw.mpr (.inr h)⟩
    walk_at "d"
    refine eq_dat (.fz _) (.fz _) (shc _) (shc _) (by decide) ?_
    rw [hb]
    walk_at "d"
    refine if_t (by simp) ?_
    walk_at "d"
    exact fz_eq (q x8 _ rfl) (by congr 1; exact (decide_eq_true hface).symm)
end
end K13



set_option Elab.async false
set_option linter.all false
set_option maxRecDepth 100000
set_option maxHeartbeats 20000000
set_option pp.deepTerms false
set_option pp.deepTerms.threshold 6
set_option pp.oneline false
set_option pp.proofs false
namespace K13
open PySem PySem.Spec PyProof.Rows L2 DL
set_option hygiene false
local macro_rules | `(tactic| walk_at "vw") => `(tactic| first
  | (with_reducible show Vw _ (Cell.fz _) _); exact Vw.fz _
  | (with_reducible show Vw _ (Cell.al _) _); exact Vw.al rfl
  | (with_reducible show Vw _ (Cell.ow _) _); exact Vw.ow _ rfl
  | exact Vw.fz _
  | exact Vw.al rfl
  | exact Vw.ow _ rfl)
local macro_rules | `(tactic| walk_at "puts") => `(tactic| repeat (first | exact DL.Puts.nil | refine DL.Puts.cons rfl (loc_b rfl) (fn_b rfl) rfl ?_))
local macro_rules | `(tactic| walk_at "blk") => `(tactic| exact ⟨rfl, by decide +kernel, by decide +kernel, by decide +kernel, by decide +kernel⟩)
local macro_rules | `(tactic| walk_at "vis") => `(tactic| first
  | exact vis_b rfl
  | exact Or.inl rfl
  | exact Or.inr (Or.inl rfl)
  | exact Or.inr (Or.inr rfl))
local macro_rules | `(tactic| walk_at "side") => `(tactic| first
  | assumption
  | omega
  | (simp only [List.length_set, List.length_cons, List.length_nil]; omega)
  | (simp only [DL.setAll, List.length_set, List.length_cons, List.length_nil]; omega)
  | exact fun j z => (nomatch z)
  | (refine Or.inl ⟨?_, ?_⟩ <;> omega)
  | (refine Or.inr ⟨?_, ?_⟩ <;> omega)
  | decide
  | ((with_reducible show _ = _); rfl))
local macro_rules | `(tactic| walk_at "var") => `(tactic| first
  | refine de_var (i := 0) rfl (by walk_at "vis") rfl ?_ | refine de_var_ow (i := 0) (by decide) rfl (by walk_at "vis") rfl ?_
  | refine de_var (i := 1) rfl (by walk_at "vis") rfl ?_ | refine de_var_ow (i := 1) (by decide) rfl (by walk_at "vis") rfl ?_
  | refine de_var (i := 2) rfl (by walk_at "vis") rfl ?_ | refine de_var_ow (i := 2) (by decide) rfl (by walk_at "vis") rfl ?_
  | refine de_var (i := 3) rfl (by walk_at "vis") rfl ?_ | refine de_var_ow (i := 3) (by decide) rfl (by walk_at "vis") rfl ?_
  | refine de_var (i := 4) rfl (by walk_at "vis") rfl ?_ | refine de_var_ow (i := 4) (by decide) rfl (by walk_at "vis") rfl ?_
  | refine de_var (i := 5) rfl (by walk_at "vis") rfl ?_ | refine de_var_ow (i := 5) (by decide) rfl (by walk_at "vis") rfl ?_
  | refine de_var (i := 6) rfl (by walk_at "vis") rfl ?_ | refine de_var_ow (i := 6) (by decide) rfl (by walk_at "vis") rfl ?_
  | refine de_var (i := 7) rfl (by walk_at "vis") rfl ?_ | refine de_var_ow (i := 7) (by decide) rfl (by walk_at "vis") rfl ?_
  | refine de_var (i := 8) rfl (by walk_at "vis") rfl ?_ | refine de_var_ow (i := 8) (by decide) rfl (by walk_at "vis") rfl ?_
  | refine de_var (i := 9) rfl (by walk_at "vis") rfl ?_ | refine de_var_ow (i := 9) (by decide) rfl (by walk_at "vis") rfl ?_
  | refine de_var (i := 10) rfl (by walk_at "vis") rfl ?_ | refine de_var_ow (i := 10) (by decide) rfl (by walk_at "vis") rfl ?_
  | refine de_var (i := 11) rfl (by walk_at "vis") rfl ?_ | refine de_var_ow (i := 11) (by decide) rfl (by walk_at "vis") rfl ?_
  | refine de_var (i := 12) rfl (by walk_at "vis") rfl ?_ | refine de_var_ow (i := 12) (by decide) rfl (by walk_at "vis") rfl ?_
  | refine de_var (i := 13) rfl (by walk_at "vis") rfl ?_ | refine de_var_ow (i := 13) (by decide) rfl (by walk_at "vis") rfl ?_
  | refine de_var (i := 14) rfl (by walk_at "vis") rfl ?_ | refine de_var_ow (i := 14) (by decide) rfl (by walk_at "vis") rfl ?_
  | refine de_var (i := 15) rfl (by walk_at "vis") rfl ?_ | refine de_var_ow (i := 15) (by decide) rfl (by walk_at "vis") rfl ?_
  | refine de_var (i := 16) rfl (by walk_at "vis") rfl ?_ | refine de_var_ow (i := 16) (by decide) rfl (by walk_at "vis") rfl ?_)
local macro_rules | `(tactic| walk_at "const") => `(tactic| first
  | with_reducible refine de_int ?_
  | with_reducible refine de_str ?_
  | with_reducible refine de_bl ?_
  | with_reducible refine de_non ?_)
local macro_rules | `(tactic| walk_at "e1") => `(tactic| first
  | (with_reducible show DE _ _ (Expr.Name _ _) _ _); walk_at "var"
  | (with_reducible show DE _ _ (Expr.Constant _ _ _) _ _); walk_at "const"
  | (with_reducible show DE _ _ (Expr.Call (Expr.Name _ _) _ [] _) _ _); walk_at "bi"
  | with_reducible refine de_add ?_
  | with_reducible refine de_sub ?_
  | with_reducible refine de_mul ?_
  | with_reducible refine de_mod ?_
  | with_reducible refine de_div ?_
  | with_reducible refine de_pow ?_
  | with_reducible refine de_neg ?_
  | with_reducible refine de_tuple ?_
  | with_reducible refine de_list ?_
  | with_reducible refine de_ifExp ?_
  | with_reducible refine de_not ?_
  | with_reducible refine de_bool1 ?_
  | with_reducible refine de_and ?_
  | with_reducible refine de_or ?_
  | with_reducible refine de_revL ?_
  | with_reducible refine de_slice ?_
  | (with_reducible show DE _ _ (Expr.Subscript _ _ _) _ _); refine de_ix hu1 (fun _ _ => rfl) ?_
  | (with_reducible show DE _ _ (Expr.Compare _ [CmpOp.Is] _ _) _ _); refine de_isN ?_
  | (with_reducible show DE _ _ (Expr.Compare _ [CmpOp.Eq] _ _) _ _); refine de_cmp (op_eqAll hu) (nobehind _ (by decide) (by decide)) ?_
  | (with_reducible show DE _ _ (Expr.Compare _ [CmpOp.NotEq] _ _) _ _); refine de_cmp (op_neAll hu) (nobehind _ (by decide) (by decide)) ?_
  | (with_reducible show DE _ _ (Expr.Compare _ [CmpOp.Lt] _ _) _ _); refine de_cmp op_ltAll (nobehind _ (by decide) (by decide)) ?_
  | (with_reducible show DE _ _ (Expr.Compare _ [CmpOp.LtE] _ _) _ _); refine de_cmp op_leAll (nobehind _ (by decide) (by decide)) ?_
  | (with_reducible show DE _ _ (Expr.Compare _ [CmpOp.Gt] _ _) _ _); refine de_cmp op_gtAll (nobehind _ (by decide) (by decide)) ?_
  | (with_reducible show DE _ _ (Expr.Compare _ [CmpOp.GtE] _ _) _ _); refine de_cmp op_geAll (nobehind _ (by decide) (by decide)) ?_
  | (with_reducible show DE _ _ (Expr.Compare _ [CmpOp.In] _ _) _ _); refine de_cmp (op_inAll hu1) rfl ?_
  | (with_reducible show DE _ _ (Expr.Compare _ [CmpOp.NotIn] _ _) _ _); refine de_cmp (op_notInAll hu1) rfl ?_
  | (with_reducible show DE _ _ (Expr.Call (Expr.Attribute _ "append" _) [_] _ _) _ _); refine de_append ?_
  | (with_reducible show DE _ _ (Expr.Call (Expr.Attribute _ "pop" _) [_] _ _) _ _); refine de_popAt ?_
  | (with_reducible show DE _ _ (Expr.Call (Expr.Attribute _ "join" _) [_] _ _) _ _); refine de_join ?_)
local macro_rules | `(tactic| walk_at "bi") => `(tactic| first
  | (with_reducible show DE _ _ (Expr.Call (Expr.Name "isinstance" _) [_, Expr.Name "list" _] [] _) _ _); refine de_isi1 rfl n_isinstance rfl n_list boot_list ?_
  | (with_reducible show DE _ _ (Expr.Call (Expr.Name "isinstance" _) [_, Expr.Name "tuple" _] [] _) _ _); refine de_isi1 rfl n_isinstance rfl n_tuple boot_tuple ?_
  | (with_reducible show DE _ _ (Expr.Call (Expr.Name "isinstance" _) [_, Expr.Name "str" _] [] _) _ _); refine de_isi1 rfl n_isinstance rfl n_str boot_str ?_
  | (with_reducible show DE _ _ (Expr.Call (Expr.Name "isinstance" _) [_, Expr.Name "bool" _] [] _) _ _); refine de_isi1 rfl n_isinstance rfl n_bool boot_bool ?_
  | (with_reducible show DE _ _ (Expr.Call (Expr.Name "isinstance" _) [_, Expr.Name "int" _] [] _) _ _); refine de_isi1 rfl n_isinstance rfl n_int boot_int ?_
  | (with_reducible show DE _ _ (Expr.Call (Expr.Name "isinstance" _) [_, Expr.Tuple [Expr.Name "list" _, Expr.Name "tuple" _] _ _] [] _) _ _); refine de_isi2 rfl n_isinstance rfl n_list boot_list rfl n_tuple boot_tuple ?_
  | (with_reducible show DE _ _ (Expr.Call (Expr.Name "isinstance" _) [_, Expr.Tuple [Expr.Name "str" _, Expr.Name "bool" _] _ _] [] _) _ _); refine de_isi2 rfl n_isinstance rfl n_str boot_str rfl n_bool boot_bool ?_
  | (with_reducible show DE _ _ (Expr.Call (Expr.Name "len" _) _ [] _) _ _); refine de_callB call_lenA rfl n_len boot_len ?_
  | (with_reducible show DE _ _ (Expr.Call (Expr.Name "abs" _) _ [] _) _ _); refine de_callB call_abs rfl n_abs boot_abs ?_
  | (with_reducible show DE _ _ (Expr.Call (Expr.Name "int" _) _ [] _) _ _); refine de_callTy call_int1 rfl n_int boot_int ?_
  | (with_reducible show DE _ _ (Expr.Call (Expr.Name "list" _) _ [] _) _ _); refine de_callTy call_list_of rfl n_list boot_list ?_
  | (with_reducible show DE _ _ (Expr.Call (Expr.Name "tuple" _) _ [] _) _ _); refine de_callTy call_tuple_of rfl n_tuple boot_tuple ?_
  | (with_reducible show DE _ _ (Expr.Call (Expr.Name "sorted" _) _ [] _) _ _); refine de_callB (cr_sortD hu) rfl n_sorted boot_sorted ?_
  | (with_reducible show DE _ _ (Expr.Call (Expr.Name "sum" _) _ [] _) _ _); refine de_callB (cr_sum rfl) rfl n_sum boot_sum ?_
  | (with_reducible show DE _ _ (Expr.Call (Expr.Name "all" _) _ [] _) _ _); refine de_callB (cr_all rfl) rfl n_all boot_all ?_
  | (with_reducible show DE _ _ (Expr.Call (Expr.Name "any" _) _ [] _) _ _); refine de_callB (cr_any rfl) rfl n_any boot_any ?_
  | (with_reducible show DE _ _ (Expr.Call (Expr.Name "min" _) _ [] _) _ _); refine de_callB (call_minA rfl) rfl n_min boot_min ?_
  | (with_reducible show DE _ _ (Expr.Call (Expr.Name "max" _) _ [] _) _ _); refine de_callB (call_maxA rfl) rfl n_max boot_max ?_
  | (with_reducible show DE _ _ (Expr.Call (Expr.Name "dict" _) _ [] _) _ _); refine de_callTy (call_dictP rfl) rfl n_dict boot_dict ?_)
local macro_rules | `(tactic| walk_at "oa") => `(tactic| first
  | refine len_c (by walk_at "vw") (by first | exact Ln.lst _ | exact Ln.tup _ | exact Ln.dk _) ?_
  | refine abs_c (.fz _) ?_
  | refine int_b (.fz _) ?_
  | refine int_i (.fz _) ?_
  | refine list_t (.fz _) ?_
  | refine list_l (by walk_at "vw") ?_
  | refine tuple_t (.fz _) ?_
  | refine tuple_l (by walk_at "vw") ?_
  | refine mm_str (.fz _) (.fz _) ?_
  | refine mm_int (.fz _) (.fz _) ?_)
local macro_rules | `(tactic| walk_at "t1") => `(tactic| first
  | (with_reducible show DT _ _ (Expr.Compare _ [CmpOp.Is] _ _) _ _); refine dt_isN ?_
  | (with_reducible show DT _ _ (Expr.Compare _ [CmpOp.Eq] _ _) _ _); refine dt_cmp (op_eqAll hu) (nobehind _ (by decide) (by decide)) ?_
  | (with_reducible show DT _ _ (Expr.Compare _ [CmpOp.NotEq] _ _) _ _); refine dt_cmp (op_neAll hu) (nobehind _ (by decide) (by decide)) ?_
  | (with_reducible show DT _ _ (Expr.Compare _ [CmpOp.Lt] _ _) _ _); refine dt_cmp op_ltAll (nobehind _ (by decide) (by decide)) ?_
  | (with_reducible show DT _ _ (Expr.Compare _ [CmpOp.LtE] _ _) _ _); refine dt_cmp op_leAll (nobehind _ (by decide) (by decide)) ?_
  | (with_reducible show DT _ _ (Expr.Compare _ [CmpOp.Gt] _ _) _ _); refine dt_cmp op_gtAll (nobehind _ (by decide) (by decide)) ?_
  | (with_reducible show DT _ _ (Expr.Compare _ [CmpOp.GtE] _ _) _ _); refine dt_cmp op_geAll (nobehind _ (by decide) (by decide)) ?_
  | (with_reducible show DT _ _ (Expr.Compare _ [CmpOp.In] _ _) _ _); refine dt_cmp (op_inAll hu1) rfl ?_
  | (with_reducible show DT _ _ (Expr.Compare _ [CmpOp.NotIn] _ _) _ _); refine dt_cmp (op_notInAll hu1) rfl ?_
  | with_reducible refine dt_not ?_
  | with_reducible refine dt_bool ?_
  | (with_reducible show DT _ _ (Expr.Call _ _ _ _) _ _); refine dt_val ?_)
local macro_rules | `(tactic| walk_at "w1") => `(tactic| first
  | with_reducible refine dw_and1 ?_
  | with_reducible refine dw_or1 ?_
  | with_reducible refine dw_and ?_
  | with_reducible refine dw_or ?_)
local macro_rules | `(tactic| walk_at "a1") => `(tactic| first
  | with_reducible refine da_nil ?_
  | refine da_cons ?_)
local macro_rules | `(tactic| walk_at "o2") => `(tactic| first
  | (with_reducible show Op2 _ _ (rAddAll _) _ _ _ _); first | refine add_int (.fz _) (.fz _) ?_ | refine add_str (.fz _) (.fz _) (by walk_at "side") ?_ | refine add_tup (.fz _) (.fz _) (by walk_at "side") ?_ | refine add_lst (by walk_at "vw") (by walk_at "vw") (by walk_at "side") ?_
  | (with_reducible show Op2 _ _ (rIxAll _) _ _ _ _); first | refine ix_tpl (.fz _) (.fz _) rfl ?_ | refine ix_lst (by walk_at "vw") (.fz _) rfl ?_ | refine ix_tpl (.fz _) (.fz _) (by assumption) ?_ | refine ix_lst (by walk_at "vw") (.fz _) (by assumption) ?_ | refine ix_dk (by walk_at "vw") (.fz _) (k := .inr _) rfl (by assumption) ?_
  | (with_reducible show Op2 _ _ (rEqAll _) _ _ _ _); first | refine eq_int (.fz _) (.fz _) ?_ | refine eq_str (.fz _) (.fz _) ?_ | refine eq_bl (.fz _) (.fz _) ?_
  | (with_reducible show Op2 _ _ (rNeAll _) _ _ _ _); first | refine ne_int (.fz _) (.fz _) ?_ | refine ne_str (.fz _) (.fz _) ?_ | refine ne_bl (.fz _) (.fz _) ?_
  | refine op_ib0 (.fz _) (.fz _) ?_
  | refine lt_int (.fz _) (.fz _) ?_
  | refine lt_str (.fz _) (.fz _) ?_
  | refine in_dk (by walk_at "vw") (by walk_at "vw") rfl ?_)
local macro_rules | `(tactic| walk_at "o1") => `(tactic| first
  | refine cut_t (.fz _) ?_
  | refine cut_l (by walk_at "vw") ?_)
local macro_rules | `(tactic| walk_at "x1") => `(tactic| first
  | (with_reducible show ∃ ds, AllFz _ ds ∧ _); first | refine ⟨_, (.cons (.cons .nil)), ?_⟩ | refine ⟨_, (.cons .nil), ?_⟩ | refine ⟨_, (.cons (.cons (.cons .nil))), ?_⟩ | refine ⟨_, (.cons (.cons (.cons (.cons .nil)))), ?_⟩ | refine ⟨_, .nil, ?_⟩ | refine ⟨_, (.cons (.cons (.cons (.cons (.cons .nil))))), ?_⟩ | refine ⟨_, (.cons (.cons (.cons (.cons (.cons (.cons .nil)))))), ?_⟩ | refine ⟨_, (.cons (.cons (.cons (.cons (.cons (.cons (.cons .nil))))))), ?_⟩
  | refine ⟨_, _, .fz _, rfl, kb_list rfl, ?_⟩
  | refine ⟨_, _, .fz _, rfl, kb_tuple rfl, ?_⟩
  | refine ⟨_, _, .fz _, rfl, kb_str rfl, ?_⟩
  | refine ⟨_, _, .fz _, rfl, kb_bool rfl, ?_⟩
  | refine ⟨_, _, .fz _, rfl, kb_int rfl, ?_⟩
  | refine ⟨_, _, _, .fz _, rfl, kb_list rfl, kb_tuple rfl, ?_⟩
  | refine ⟨_, _, _, .fz _, rfl, kb_str rfl, kb_bool rfl, ?_⟩
  | refine ⟨_, _, _, rfl, rfl, Put.lst rfl, ?_⟩
  | refine ⟨_, _, .fz _, .fz _, ?_⟩
  | refine ⟨_, .fz _, ?_⟩
  | refine ⟨_, rfl, ?_⟩
  | refine ⟨_, _, rfl, rfl, ?_⟩)
local macro_rules | `(tactic| walk_at "set") => `(tactic| first
  | refine ds_set (i := 0) nd rfl (by first | exact loc_b rfl | exact Or.inl rfl | exact Or.inr rfl) (by decide) ?_ (hf := by first | exact fn_b rfl | exact .inl rfl | exact .inr rfl)
  | refine ds_set (i := 1) nd rfl (by first | exact loc_b rfl | exact Or.inl rfl | exact Or.inr rfl) (by decide) ?_ (hf := by first | exact fn_b rfl | exact .inl rfl | exact .inr rfl)
  | refine ds_set (i := 2) nd rfl (by first | exact loc_b rfl | exact Or.inl rfl | exact Or.inr rfl) (by decide) ?_ (hf := by first | exact fn_b rfl | exact .inl rfl | exact .inr rfl)
  | refine ds_set (i := 3) nd rfl (by first | exact loc_b rfl | exact Or.inl rfl | exact Or.inr rfl) (by decide) ?_ (hf := by first | exact fn_b rfl | exact .inl rfl | exact .inr rfl)
  | refine ds_set (i := 4) nd rfl (by first | exact loc_b rfl | exact Or.inl rfl | exact Or.inr rfl) (by decide) ?_ (hf := by first | exact fn_b rfl | exact .inl rfl | exact .inr rfl)
  | refine ds_set (i := 5) nd rfl (by first | exact loc_b rfl | exact Or.inl rfl | exact Or.inr rfl) (by decide) ?_ (hf := by first | exact fn_b rfl | exact .inl rfl | exact .inr rfl)
  | refine ds_set (i := 6) nd rfl (by first | exact loc_b rfl | exact Or.inl rfl | exact Or.inr rfl) (by decide) ?_ (hf := by first | exact fn_b rfl | exact .inl rfl | exact .inr rfl)
  | refine ds_set (i := 7) nd rfl (by first | exact loc_b rfl | exact Or.inl rfl | exact Or.inr rfl) (by decide) ?_ (hf := by first | exact fn_b rfl | exact .inl rfl | exact .inr rfl)
  | refine ds_set (i := 8) nd rfl (by first | exact loc_b rfl | exact Or.inl rfl | exact Or.inr rfl) (by decide) ?_ (hf := by first | exact fn_b rfl | exact .inl rfl | exact .inr rfl)
  | refine ds_set (i := 9) nd rfl (by first | exact loc_b rfl | exact Or.inl rfl | exact Or.inr rfl) (by decide) ?_ (hf := by first | exact fn_b rfl | exact .inl rfl | exact .inr rfl)
  | refine ds_set (i := 10) nd rfl (by first | exact loc_b rfl | exact Or.inl rfl | exact Or.inr rfl) (by decide) ?_ (hf := by first | exact fn_b rfl | exact .inl rfl | exact .inr rfl)
  | refine ds_set (i := 11) nd rfl (by first | exact loc_b rfl | exact Or.inl rfl | exact Or.inr rfl) (by decide) ?_ (hf := by first | exact fn_b rfl | exact .inl rfl | exact .inr rfl)
  | refine ds_set (i := 12) nd rfl (by first | exact loc_b rfl | exact Or.inl rfl | exact Or.inr rfl) (by decide) ?_ (hf := by first | exact fn_b rfl | exact .inl rfl | exact .inr rfl)
  | refine ds_set (i := 13) nd rfl (by first | exact loc_b rfl | exact Or.inl rfl | exact Or.inr rfl) (by decide) ?_ (hf := by first | exact fn_b rfl | exact .inl rfl | exact .inr rfl)
  | refine ds_set (i := 14) nd rfl (by first | exact loc_b rfl | exact Or.inl rfl | exact Or.inr rfl) (by decide) ?_ (hf := by first | exact fn_b rfl | exact .inl rfl | exact .inr rfl)
  | refine ds_set (i := 15) nd rfl (by first | exact loc_b rfl | exact Or.inl rfl | exact Or.inr rfl) (by decide) ?_ (hf := by first | exact fn_b rfl | exact .inl rfl | exact .inr rfl)
  | refine ds_set (i := 16) nd rfl (by first | exact loc_b rfl | exact Or.inl rfl | exact Or.inr rfl) (by decide) ?_ (hf := by first | exact fn_b rfl | exact .inl rfl | exact .inr rfl))
local macro_rules | `(tactic| walk_at "s1") => `(tactic| first
  | (with_reducible show DS _ _ (Stmt.Assign [Expr.Name _ _] _ _) _ _); walk_at "set"
  | with_reducible refine ds_ret ?_
  | with_reducible refine ds_if ?_
  | refine ds_store hu1 ?_
  | (with_reducible show DS _ _ (Stmt.Expr _ _) _ _); refine ds_expr ?_)
local macro_rules | `(tactic| walk_at "ss1") => `(tactic| first
  | refine dss_cons ?_
  | refine dss_nil ?_)
local macro_rules | `(tactic| walk_at "d1") => `(tactic| first
  | (with_reducible show DE _ _ _ _ _); walk_at "e1"
  | (with_reducible show Op2 _ _ _ _ _ _ _); walk_at "o2"
  | (with_reducible show DA _ _ _ _ _); walk_at "a1"
  | (with_reducible show DT _ _ _ _ _); walk_at "t1"
  | (with_reducible show DTs _ _ _ _ _); first | with_reducible refine dts_one ?_ | with_reducible refine dts_nil ?_
  | (with_reducible show DO _ _ _ _ _); first | with_reducible refine do_none ?_ | with_reducible refine do_some ?_
  | (with_reducible show DW _ _ _ _ _); walk_at "w1"
  | (with_reducible show DSs _ _ _ _ _); walk_at "ss1"
  | (with_reducible show DS _ _ _ _ _); walk_at "s1"
  | (with_reducible show Op1 _ _ _ _ _ _); walk_at "o1"
  | (with_reducible show OpA _ _ _ _ _ _); walk_at "oa"
  | (with_reducible show ∃ _, _); walk_at "x1"
  | (with_reducible show DEnds.nx _ _); dsimp only
  | (with_reducible show if _ = true then _ else _); first | refine if_t rfl ?_ | refine if_f rfl ?_
  | (with_reducible show DEnds.rt _ _ _); dsimp only
  | (with_reducible show _ ∧ _); refine ⟨(by walk_at "side"), ?_⟩)
local macro_rules | `(tactic| walk_at "d") => `(tactic| repeat walk_at "d1")
local macro_rules | `(tactic| walk_at "var") => `(tactic| first
  | (with_reducible show DE _ _ (Expr.Name "_law_box_here" _) _ _); first | refine de_var (i := 0) rfl (by walk_at "vis") rfl ?_ | refine de_var_ow (i := 0) (by decide) rfl (by walk_at "vis") rfl ?_
  | (with_reducible show DE _ _ (Expr.Name "_law_yard" _) _ _); first | refine de_var (i := 1) rfl (by walk_at "vis") rfl ?_ | refine de_var_ow (i := 1) (by decide) rfl (by walk_at "vis") rfl ?_
  | (with_reducible show DE _ _ (Expr.Name "_law_turn" _) _ _); first | refine de_var (i := 2) rfl (by walk_at "vis") rfl ?_ | refine de_var_ow (i := 2) (by decide) rfl (by walk_at "vis") rfl ?_
  | (with_reducible show DE _ _ (Expr.Name "_law_again" _) _ _); first | refine de_var (i := 3) rfl (by walk_at "vis") rfl ?_ | refine de_var_ow (i := 3) (by decide) rfl (by walk_at "vis") rfl ?_)
local macro_rules | `(tactic| walk_at "set") => `(tactic| first
  | (with_reducible show DS _ _ (Stmt.Assign [Expr.Name "_law_box_here" _] _ _) _ _); refine ds_set (i := 0) nd rfl (loc_b rfl) (by decide) ?_ (hf := fn_b rfl)
  | (with_reducible show DS _ _ (Stmt.Assign [Expr.Name "_law_yard" _] _ _) _ _); refine ds_set (i := 1) nd rfl (loc_b rfl) (by decide) ?_ (hf := fn_b rfl)
  | (with_reducible show DS _ _ (Stmt.Assign [Expr.Name "_law_turn" _] _ _) _ _); refine ds_set (i := 2) nd rfl (loc_b rfl) (by decide) ?_ (hf := fn_b rfl)
  | (with_reducible show DS _ _ (Stmt.Assign [Expr.Name "_law_again" _] _ _) _ _); refine ds_set (i := 3) nd rfl (loc_b rfl) (by decide) ?_ (hf := fn_b rfl))
local macro_rules | `(tactic| walk_at "var") => `(tactic| first
  | (with_reducible show DE _ _ (Expr.Name "_law_script" _) _ _); first | refine de_var (i := 0) rfl (by walk_at "vis") rfl ?_ | refine de_var_ow (i := 0) (by decide) rfl (by walk_at "vis") rfl ?_
  | (with_reducible show DE _ _ (Expr.Name "_law_cells_here" _) _ _); first | refine de_var (i := 1) rfl (by walk_at "vis") rfl ?_ | refine de_var_ow (i := 1) (by decide) rfl (by walk_at "vis") rfl ?_
  | (with_reducible show DE _ _ (Expr.Name "_law_k" _) _ _); first | refine de_var (i := 2) rfl (by walk_at "vis") rfl ?_ | refine de_var_ow (i := 2) (by decide) rfl (by walk_at "vis") rfl ?_)
local macro_rules | `(tactic| walk_at "set") => `(tactic| first
  | (with_reducible show DS _ _ (Stmt.Assign [Expr.Name "_law_script" _] _ _) _ _); refine ds_set (i := 0) nd rfl (loc_b rfl) (by decide) ?_ (hf := fn_b rfl)
  | (with_reducible show DS _ _ (Stmt.Assign [Expr.Name "_law_cells_here" _] _ _) _ _); refine ds_set (i := 1) nd rfl (loc_b rfl) (by decide) ?_ (hf := fn_b rfl)
  | (with_reducible show DS _ _ (Stmt.Assign [Expr.Name "_law_k" _] _ _) _ _); refine ds_set (i := 2) nd rfl (loc_b rfl) (by decide) ?_ (hf := fn_b rfl))
section
variable {P : Program} {w : World} {K : PySem.W.Frag} {mg : Str → Option Value} {base : Heap} {f : Addr} {fd : FuncData}
theorem at_walk (g : Pg K mg) : ∃ a fd, FnOk P w K mg base CX0 5 a fd ["_law_box_here", "_law_yard"] (spOf K [0] 2 S__law_walk_right) ∧ mg "_law_walk_right" = some (.ref a) ∧ FnP K "_law_walk_right" s__law_walk_right a fd ∧ Binds K fd ["_law_box_here", "_law_yard"] [] := by
  obtain ⟨a, fd, F, e⟩ := g.walk_right
  exact ⟨a, fd, ok__law_walk_right g F, e, F, F.bindsN fun _ _ _ _ _ _ us hl => match us, hl with | [_, _], _ => rfl⟩
theorem at_exch (g : Pg K mg) : ∃ a fd, FnOk P w K mg base CX0 5 a fd ["_law_box_here"] (spOf K [0] 1 S__law_exchanged_right) ∧ mg "_law_exchanged_right" = some (.ref a) ∧ FnP K "_law_exchanged_right" s__law_exchanged_right a fd ∧ Binds K fd ["_law_box_here"] [] := by
  obtain ⟨a, fd, F, e⟩ := g.exchanged_right
  exact ⟨a, fd, ok__law_exchanged_right g F, e, F, F.bindsN fun _ _ _ _ _ _ us hl => match us, hl with | [_], _ => rfl⟩
theorem pick2 {a c r : Int} (ha : 0 ≤ a ∧ a < 5) (hc : 0 ≤ c ∧ c < 23) (hr : 0 ≤ r ∧ r < 2) : ∃ v : Nat, v ≤ 22 ∧ atI [D.int a, .int c] r = some (.int (v : Nat)) := by
  have : r = 0 ∨ r = 1 := by omega
  rcases this with e | e <;> subst e
  · exact ⟨a.toNat, by omega, by rw [Int.toNat_of_nonneg ha.1]; rfl⟩
  · exact ⟨c.toNat, by omega, by rw [Int.toNat_of_nonneg hc.1]; rfl⟩
/-! _law_right -/
abbrev N__law_right : List Str := ["_law_box_here", "_law_yard", "_law_turn", "_law_again"]
theorem nd__law_right : N__law_right.Nodup := by decide +kernel
theorem sc__law_right : FnScope N__law_right ["_law_box_here"] (defScope s__law_right) := ⟨rfl, rfl, rfl, nd__law_right, rfl, by decide +kernel, by decide +kernel⟩
theorem ok__law_right (g : Pg K mg) (F : FnP K "_law_right" s__law_right f fd) : FnOk P w K mg base CX0 6 f fd ["_law_box_here"] (spOf K [0] 1 S__law_exchanged_right) := by
  have n_range := g.bi.range; have n_all := g.bi.all
  obtain ⟨aT, fdT, G_take, g_take, F_take, b_take⟩ := at_take (P := P) (w := w) (base := base) g
  obtain ⟨aH, fdH, G_homely, g_homely, F_homely, b_homely⟩ := at_homely (P := P) (w := w) (base := base) g
  obtain ⟨aW, fdW, G_walk, g_walk, F_walk, b_walk⟩ := at_walk (P := P) (w := w) (base := base) g
  obtain ⟨aE, fdE, G_exch, g_exch, F_exch, b_exch⟩ := at_exch (P := P) (w := w) (base := base) g
  refine fn_ok (S := S__law_exchanged_right) 2 (by decide) (by decide) F sc__law_right fun cdv A outer s H E b cs Post hr hcl hS => ?_
  obtain ⟨x, u, rfl, _, q⟩ := hS
  have q : ∀ x' e, e[0]? = some (.ow (boxD x')) → Post (.fz (.bl true)) e := q () trivial
  have hu : (A.deeper (envOfC "_law_right" (defScope s__law_right) s.heap.objs.size f cdv)).units + 64 < cLine := hr.units
  have hu1 : (A.deeper (envOfC "_law_right" (defScope s__law_right) s.heap.objs.size f cdv)).units + 1 < cLine := by omega
  have nd := nd__law_right
  change DSs _ b _ [.ow (boxD x), .no, .no, .no] _
  refine dss_cons (ds_for rfl PassesOwn.never ?_)
  refine da_range1 rfl n_range ?_
  walk_at "e1"
  refine ⟨2, .fz _, by decide, by decide, ?_⟩
  refine ⟨fun k e => ∃ (x' : Box) (c1 c2 : Cell), (∀ j, c1 ≠ .al j) ∧ e = [.ow (boxD x'), c1, c2, .no], ⟨x, .no, .no, (fun j z => nomatch z), rfl⟩, fun _ _ _ => trivial, ?_, ?_⟩
  · rintro k d e hd ⟨x0, c1, c2, hc1, rfl⟩
    rw [List.getElem?_map] at hd
    cases hp : (List.range (2 : Int).toNat)[k]? with
    | none => rw [hp] at hd; cases hd
    | some kk =>
      rw [hp] at hd
      cases hd
      refine dg_name (i := 2) nd rfl (loc_b rfl) (fn_b rfl) (by simp) (by simp) (fun j z => nomatch z) ?_
      walk_at "d"
      refine de_callO (j := 0) G_homely fB_mono (hr.mono (by decide)) rfl g_homely F_homely.kp b_homely ?_
      walk_at "d"
      refine de_callO (j := 0) G_take fB_mono (hr.mono (by decide)) rfl g_take F_take.kp b_take ?_
      walk_at "d"
      refine ⟨_, _, _, ⟨rfl, rfl, all2, rfl⟩, rfl, x0, 5, rfl, ⟨by decide, by decide⟩, fun r1 hr1 x1 e he => ⟨_, he, ?_⟩⟩
      walk_at "d"
      refine de_callO (j := 0) G_take fB_mono (hr.mono (by decide)) rfl g_take F_take.kp b_take ?_
      walk_at "d"
      refine ⟨_, _, _, ⟨rfl, rfl, all2, rfl⟩, rfl, x1, 23, rfl, ⟨by decide, by decide⟩, fun r2 hr2 x2 e he => ⟨_, he, ?_⟩⟩
      walk_at "d"
      refine de_callO (j := 0) G_take fB_mono (hr.mono (by decide)) rfl g_take F_take.kp b_take ?_
      walk_at "d"
      refine ⟨_, _, _, ⟨rfl, rfl, all2, rfl⟩, rfl, x2, 2, rfl, ⟨by decide, by decide⟩, fun r3 hr3 x3 e he => ⟨_, he, ?_⟩⟩
      obtain ⟨v, hv, hat⟩ := pick2 hr1 hr2 hr3
      refine ix_lst (.ow _) (.fz _) hat ?_
      walk_at "d"
      have e2 : (2 : Int) + ((v : Nat) : Int) = ((2 + v : Nat) : Int) := by omega
      refine ⟨_, _, _, ⟨rfl, rfl, all2, rfl⟩, rfl, x3, 2 + v, by rw [e2]; rfl, ⟨by show 1 ≤ 2 + v; omega, by show 2 + v ≤ 26; omega⟩, fun h hL x4 e he => ⟨_, he, ?_⟩⟩
      have hL : Laid h (2 + v) := hL
      walk_at "d"
      refine de_lc [("_law_again", 3)] rfl nd (by change BlkOk N__law_right (defScope s__law_right) _ _; walk_at "blk") (by simp) ?_
      refine DI.a (da_range1 rfl n_range ?_)
      walk_at "e1"
      refine ⟨2, .fz _, by decide, by decide, ?_⟩
      refine ⟨by simp, fun k acc e => ∃ (x' : Box), acc = List.replicate k (.bl true) ∧ e = [.ow (boxD x'), .fz (hallD h), .fz (.int ((kk : Nat) : Int)), .no], ⟨x4, rfl, rfl⟩, ?_, ?_, ?_⟩
      · rintro k acc e ⟨x', rfl, rfl⟩
        exact ⟨trivial, by simp, by simp⟩
      · rintro k d acc e hd ⟨x', rfl, rfl⟩ s1 H1 C1 cl1 fp1
        rw [List.getElem?_map] at hd
        cases hp2 : (List.range (2 : Int).toNat)[k]? with
        | none => rw [hp2] at hd; cases hd
        | some k2 =>
          rw [hp2] at hd
          cases hd
          refine dgo_name (i := 3) nd rfl (loc_b rfl) (fn_b rfl) (by decide) (by simp) (by simp) (fun j z => nomatch z) ?_
          intro s2 H2 C2 cl2 fp2
          refine dts_nil (ite_b (fun _ => ?_) (fun z => nomatch z))
          intro s3 H3 C3 cl3 fp3
          refine de_callO (j := 0) G_walk fB_mono (hr.mono (by decide)) rfl g_walk F_walk.kp b_walk ?_
          walk_at "d"
          refine ⟨_, _, _, ⟨rfl, rfl, all2, rfl⟩, rfl, x', h, rfl, ⟨hL.sound, hL.good, hL.ties.uni, hL.w⟩, fun _ _ x5 e he => ⟨_, he, ?_⟩⟩
          refine ⟨_, rfl, x5, ?_, rfl⟩
          rw [List.replicate_succ']
      · rintro acc e ⟨x5, rfl, rfl⟩
        walk_at "d"
        refine all_c (.ow _) (bs := List.replicate 2 true) rfl ?_
        walk_at "d"
        exact ⟨x5, .fz (hallD h), _, (fun j z => nomatch z), rfl⟩
  rintro e ⟨x0, c1, c2, hc1, rfl⟩
  refine dss_no 2 (by simp) ?_
  walk_at "d"
  refine de_lc [("_law_turn", 2)] rfl nd (by change BlkOk N__law_right (defScope s__law_right) _ _; walk_at "blk") (by simp) ?_
  refine DI.a (da_range1 rfl n_range ?_)
  walk_at "e1"
  refine ⟨4, .fz _, by decide, by decide, ?_⟩
  refine ⟨by simp, fun k acc e => ∃ (x' : Box), acc = List.replicate k (.bl true) ∧ e = [.ow (boxD x'), c1, .no, .no], ⟨x0, rfl, rfl⟩, ?_, ?_, ?_⟩
  · rintro k acc e ⟨x', rfl, rfl⟩
    exact ⟨trivial, by simp, by simp⟩
  · rintro k d acc e hd ⟨x', rfl, rfl⟩ s1 H1 C1 cl1 fp1
    rw [List.getElem?_map] at hd
    cases hp2 : (List.range (4 : Int).toNat)[k]? with
    | none => rw [hp2] at hd; cases hd
    | some k2 =>
      rw [hp2] at hd
      cases hd
      refine dgo_name (i := 2) nd rfl (loc_b rfl) (fn_b rfl) (by decide) (by simp) (by simp) (fun j z => nomatch z) ?_
      intro s2 H2 C2 cl2 fp2
      refine dts_nil (ite_b (fun _ => ?_) (fun z => nomatch z))
      intro s3 H3 C3 cl3 fp3
      refine de_callO (j := 0) G_exch fB_mono (hr.mono (by decide)) rfl g_exch F_exch.kp b_exch ?_
      walk_at "d"
      refine ⟨_, _, _, ⟨rfl, rfl, all1, rfl⟩, rfl, x', (), rfl, trivial, fun _ _ x5 e he => ⟨_, he, ?_⟩⟩
      refine ⟨_, rfl, x5, ?_, rfl⟩
      rw [List.replicate_succ']
  · rintro acc e ⟨x5, rfl, rfl⟩
    walk_at "d"
    refine all_c (.ow _) (bs := List.replicate 4 true) rfl ?_
    walk_at "d"
    exact fz_eq (q x5 _ rfl) rfl
/-! law -/
abbrev N_law : List Str := ["_law_script", "_law_cells_here", "_law_k"]
theorem nd_law : N_law.Nodup := by decide +kernel
theorem sc_law : FnScope N_law ["_law_script"] (defScope s_law) := ⟨rfl, rfl, rfl, nd_law, rfl, by decide +kernel, by decide +kernel⟩
def S_law : FSp := fS (fun ns : List Int => [.fz (.lst (ns.map .int))]) (fun ns => ns.length ≤ 1000) (fun _ => .fz (.bl true))
theorem ok_law (g : Pg K mg) (F : FnP K "law" s_law f fd) : FnOk P w K mg base CX0 7 f fd ["_law_script"] (spOf K [] 1 S_law) := by
  have n_range := g.bi.range; have n_all := g.bi.all; have n_len := g.bi.len
  obtain ⟨aC, fdC, F_cells, g_cells⟩ := g.cells
  have G_cells : FnOk P w K mg base CX0 1 aC fdC _ _ := ok__law_cells g.bi F_cells
  have b_cells : Binds K fdC ["_law_script", "_law_utmost"] [] := F_cells.bindsN fun _ _ _ _ _ _ us hl => match us, hl with | [_, _], _ => rfl
  obtain ⟨aB, fdB, F_box, g_box⟩ := g.box
  have G_box : FnOk P w K mg base CX0 1 aB fdB _ _ := ok__law_box g.bi.abs g.bi.int F_box
  have b_box : Binds K fdB ["_law_cells_here", "_law_k"] [] := F_box.bindsN fun _ _ _ _ _ _ us hl => match us, hl with | [_, _], _ => rfl
  obtain ⟨aR, fdR, F_right, g_right⟩ := g.right
  have G_right : FnOk P w K mg base CX0 6 aR fdR _ _ := ok__law_right g F_right
  have b_right : Binds K fdR ["_law_box_here"] [] := F_right.bindsN fun _ _ _ _ _ _ us hl => match us, hl with | [_], _ => rfl
  refine fn_ok (S := S_law) 2 (by decide) (by decide) F sc_law fun cdv A outer s H E b cs Post hr hcl hS => ?_
  obtain ⟨ns, rfl, hz, q⟩ := hS
  have hz : ns.length ≤ 1000 := hz
  have q : ∀ e, Post (.fz (.bl true)) e := q
  have hu : (A.deeper (envOfC "law" (defScope s_law) s.heap.objs.size f cdv)).units + 64 < cLine := hr.units
  have hu1 : (A.deeper (envOfC "law" (defScope s_law) s.heap.objs.size f cdv)).units + 1 < cLine := by omega
  have nd := nd_law
  change DSs _ b _ [.fz (.lst (ns.map .int)), .no, .no] _
  refine dss_cons ?_
  walk_at "set"
  refine de_call G_cells fN_mono (hr.mono (by decide)) rfl g_cells F_cells.kp b_cells ?_
  walk_at "d"
  refine ⟨(ns, 3), rfl, ⟨by show 1 ≤ 3; decide, by show 3 ≤ 63; decide, hz⟩, fun out hout e => ?_⟩
  obtain ⟨ho1, ho3⟩ := hout
  have ho3 : out.length ≤ 3 := ho3
  refine ⟨(fun j z => nomatch z), by simp, ?_⟩
  refine dss_freeze 1 rfl (by simp) ?_
  walk_at "d"
  have hom : (out.map D.int).length = out.length := List.length_map ..
  refine de_lc [("_law_k", 2)] rfl nd (by change BlkOk N_law (defScope s_law) _ _; walk_at "blk") (by simp) ?_
  refine DI.a (da_range1 rfl n_range ?_)
  walk_at "e1"
  walk_at "a1"
  walk_at "e1"
  walk_at "a1"
  walk_at "oa"
  refine ⟨((out.map D.int).length : Nat), .fz _, by omega, by omega, ?_⟩
  refine ⟨by simp; omega, fun k acc e => acc = List.replicate k (.bl true) ∧ e = [.fz (.lst (ns.map .int)), .fz (.lst (out.map .int)), .no], ⟨rfl, rfl⟩, ?_, ?_, ?_⟩
  · rintro k acc e ⟨rfl, rfl⟩
    exact ⟨trivial, by simp, by simp⟩
  · rintro k d acc e hd ⟨rfl, rfl⟩ s1 H1 C1 cl1 fp1
    rw [List.getElem?_map] at hd
    cases hp : (List.range (((out.map D.int).length : Nat) : Int).toNat)[k]? with
    | none => rw [hp] at hd; cases hd
    | some kk =>
      rw [hp] at hd
      cases hd
      obtain ⟨hk1, hk2⟩ := List.getElem?_eq_some_iff.mp hp
      rw [List.getElem_range] at hk2
      subst hk2
      have hkl : k < out.length := by simp at hk1; omega
      refine dgo_name (i := 2) nd rfl (loc_b rfl) (fn_b rfl) (by decide) (by simp) (by simp) (fun j z => nomatch z) ?_
      intro s2 H2 C2 cl2 fp2
      refine dts_nil (ite_b (fun _ => ?_) (fun z => nomatch z))
      intro s3 H3 C3 cl3 fp3
      refine de_callT G_right fB_mono (hr.mono (by decide)) rfl g_right F_right.kp b_right ?_
      walk_at "a1"
      refine de_call G_box fN_mono (hr.mono (by decide)) rfl g_box F_box.kp b_box ?_
      walk_at "d"
      refine ⟨(out, k), rfl, hkl, fun bx _ e => ?_⟩
      walk_at "a1"
      refine ⟨_, rfl, bx, (), rfl, trivial, fun _ _ x' e he => ⟨⟨_, he⟩, ?_⟩⟩
      refine ⟨_, rfl, ?_, rfl⟩
      rw [List.replicate_succ']
  · rintro acc e ⟨rfl, rfl⟩
    walk_at "d"
    refine all_c (.ow _) (bs := List.replicate (List.map (fun i => D.int ((i : Nat) : Int)) (List.range (((out.map D.int).length : Nat) : Int).toNat)).length true) (by simp) ?_
    walk_at "d"
    exact fz_eq (q _) (by simp)
end
end K13



set_option Elab.async false
set_option linter.all false
set_option maxRecDepth 100000
set_option maxHeartbeats 0
set_option pp.deepTerms false
set_option pp.deepTerms.threshold 6
set_option pp.oneline false
set_option pp.proofs false
namespace K13
open PySem PySem.Spec PyProof.Rows L2 DL
section
theorem facts {P : Program} {w : World} {K : PySem.W.Frag} {h : Heap} {mg : Str → Option Value} {f : Addr} (X : K.In h) (G : h.Ns mainGlobals mg) (hfa : mg ("law" : Str) = some (.ref f)) (c : He.SaysD fa fn K) :
    ∃ fd : FuncData, (∀ (s : Shared) (v : Value), BindsTo s fd ⟨[v], []⟩ [("_law_script", v)]) ∧ ∀ base : Heap, K.In base → base.Ns mainGlobals mg → FnOk P w K mg base CX0 7 f fd ["_law_script"] (spOf K [] 1 S_law) := by
  have H_counted : Has K mg "counted" s_counted := by
    obtain ⟨fd, F⟩ := c.def_ 0 (d := d_counted) rfl
    exact ⟨_, fd, F, He.glo_ok X G (c.fact 0 (f := .glo "counted") rfl)⟩
  have H_mirrored : Has K mg "mirrored" s_mirrored := by
    obtain ⟨fd, F⟩ := c.def_ 1 (d := d_mirrored) rfl
    exact ⟨_, fd, F, He.glo_ok X G (c.fact 1 (f := .glo "mirrored") rfl)⟩
  have H_is_free : Has K mg "is_free" s_is_free := by
    obtain ⟨fd, F⟩ := c.def_ 2 (d := d_is_free) rfl
    exact ⟨_, fd, F, He.glo_ok X G (c.fact 2 (f := .glo "is_free") rfl)⟩
  have H_cards_by : Has K mg "cards_by" s_cards_by := by
    obtain ⟨fd, F⟩ := c.def_ 3 (d := d_cards_by) rfl
    exact ⟨_, fd, F, He.glo_ok X G (c.fact 3 (f := .glo "cards_by") rfl)⟩
  have H_ties_by : Has K mg "ties_by" s_ties_by := by
    obtain ⟨fd, F⟩ := c.def_ 4 (d := d_ties_by) rfl
    exact ⟨_, fd, F, He.glo_ok X G (c.fact 4 (f := .glo "ties_by") rfl)⟩
  have H_card_of : Has K mg "card_of" s_card_of := by
    obtain ⟨fd, F⟩ := c.def_ 5 (d := d_card_of) rfl
    exact ⟨_, fd, F, He.glo_ok X G (c.fact 5 (f := .glo "card_of") rfl)⟩
  have H_may_go : Has K mg "may_go" s_may_go := by
    obtain ⟨fd, F⟩ := c.def_ 6 (d := d_may_go) rfl
    exact ⟨_, fd, F, He.glo_ok X G (c.fact 6 (f := .glo "may_go") rfl)⟩
  have H_behind_one : Has K mg "behind_one" s_behind_one := by
    obtain ⟨fd, F⟩ := c.def_ 7 (d := d_behind_one) rfl
    exact ⟨_, fd, F, He.glo_ok X G (c.fact 7 (f := .glo "behind_one") rfl)⟩
  have H_behind : Has K mg "behind" s_behind := by
    obtain ⟨fd, F⟩ := c.def_ 8 (d := d_behind) rfl
    exact ⟨_, fd, F, He.glo_ok X G (c.fact 8 (f := .glo "behind") rfl)⟩
  have H__law_box : Has K mg "_law_box" s__law_box := by
    obtain ⟨fd, F⟩ := c.def_ 9 (d := d__law_box) rfl
    exact ⟨_, fd, F, He.glo_ok X G (c.fact 9 (f := .glo "_law_box") rfl)⟩
  have H__law_take : Has K mg "_law_take" s__law_take := by
    obtain ⟨fd, F⟩ := c.def_ 10 (d := d__law_take) rfl
    exact ⟨_, fd, F, He.glo_ok X G (c.fact 10 (f := .glo "_law_take") rfl)⟩
  have H__law_cells : Has K mg "_law_cells" s__law_cells := by
    obtain ⟨fd, F⟩ := c.def_ 11 (d := d__law_cells) rfl
    exact ⟨_, fd, F, He.glo_ok X G (c.fact 11 (f := .glo "_law_cells") rfl)⟩
  have H__law_same : Has K mg "_law_same" s__law_same := by
    obtain ⟨fd, F⟩ := c.def_ 12 (d := d__law_same) rfl
    exact ⟨_, fd, F, He.glo_ok X G (c.fact 12 (f := .glo "_law_same") rfl)⟩
  have H__law_callings : Has K mg "_law_callings" s__law_callings := by
    obtain ⟨fd, F⟩ := c.def_ 13 (d := d__law_callings) rfl
    exact ⟨_, fd, F, He.glo_ok X G (c.fact 13 (f := .glo "_law_callings") rfl)⟩
  have H__law_round : Has K mg "_law_round" s__law_round := by
    obtain ⟨fd, F⟩ := c.def_ 14 (d := d__law_round) rfl
    exact ⟨_, fd, F, He.glo_ok X G (c.fact 14 (f := .glo "_law_round") rfl)⟩
  have H__law_links : Has K mg "_law_links" s__law_links := by
    obtain ⟨fd, F⟩ := c.def_ 15 (d := d__law_links) rfl
    exact ⟨_, fd, F, He.glo_ok X G (c.fact 15 (f := .glo "_law_links") rfl)⟩
  have H__law_beside : Has K mg "_law_beside" s__law_beside := by
    obtain ⟨fd, F⟩ := c.def_ 16 (d := d__law_beside) rfl
    exact ⟨_, fd, F, He.glo_ok X G (c.fact 16 (f := .glo "_law_beside") rfl)⟩
  have H__law_homely : Has K mg "_law_homely" s__law_homely := by
    obtain ⟨fd, F⟩ := c.def_ 17 (d := d__law_homely) rfl
    exact ⟨_, fd, F, He.glo_ok X G (c.fact 17 (f := .glo "_law_homely") rfl)⟩
  have H__law_card : Has K mg "_law_card" s__law_card := by
    obtain ⟨fd, F⟩ := c.def_ 18 (d := d__law_card) rfl
    exact ⟨_, fd, F, He.glo_ok X G (c.fact 18 (f := .glo "_law_card") rfl)⟩
  have H__law_walk_right : Has K mg "_law_walk_right" s__law_walk_right := by
    obtain ⟨fd, F⟩ := c.def_ 19 (d := d__law_walk_right) rfl
    exact ⟨_, fd, F, He.glo_ok X G (c.fact 19 (f := .glo "_law_walk_right") rfl)⟩
  have H__law_exchanged_right : Has K mg "_law_exchanged_right" s__law_exchanged_right := by
    obtain ⟨fd, F⟩ := c.def_ 20 (d := d__law_exchanged_right) rfl
    exact ⟨_, fd, F, He.glo_ok X G (c.fact 20 (f := .glo "_law_exchanged_right") rfl)⟩
  have H__law_right : Has K mg "_law_right" s__law_right := by
    obtain ⟨fd, F⟩ := c.def_ 21 (d := d__law_right) rfl
    exact ⟨_, fd, F, He.glo_ok X G (c.fact 21 (f := .glo "_law_right") rfl)⟩
  have B : Bi mg := {
    len := He.free_ok X G (c.fact 36 (f := .free "len") rfl)
    abs := He.free_ok X G (c.fact 37 (f := .free "abs") rfl)
    int := He.free_ok X G (c.fact 35 (f := .free "int") rfl)
    list := He.free_ok X G (c.fact 33 (f := .free "list") rfl)
    tuple := He.free_ok X G (c.fact 34 (f := .free "tuple") rfl)
    sorted := He.free_ok X G (c.fact 30 (f := .free "sorted") rfl)
    all := He.free_ok X G (c.fact 32 (f := .free "all") rfl)
    min := He.free_ok X G (c.fact 40 (f := .free "min") rfl)
    max := He.free_ok X G (c.fact 41 (f := .free "max") rfl)
    dict := He.free_ok X G (c.fact 31 (f := .free "dict") rfl)
    isinstance := He.free_ok X G (c.fact 28 (f := .free "isinstance") rfl)
    str := He.free_ok X G (c.fact 38 (f := .free "str") rfl)
    bool := He.free_ok X G (c.fact 39 (f := .free "bool") rfl)
    range := He.free_ok X G (c.fact 29 (f := .free "range") rfl)
    enumerate := He.free_ok X G (c.fact 27 (f := .free "enumerate") rfl)
    zip := He.free_ok X G (c.fact 42 (f := .free "zip") rfl)
  }
  have g : Pg K mg := {
    bi := B
    light := He.int_ok X G (c.fact 25 (f := .int "LIGHT" 1) rfl)
    dark := He.int_ok X G (c.fact 24 (f := .int "DARK" 0) rfl)
    counted := H_counted
    mirrored := H_mirrored
    is_free := H_is_free
    cards_by := H_cards_by
    ties_by := H_ties_by
    card_of := H_card_of
    may_go := H_may_go
    behind_one := H_behind_one
    behind := H_behind
    box := H__law_box
    take := H__law_take
    cells := H__law_cells
    same := H__law_same
    callings := H__law_callings
    round := H__law_round
    links := H__law_links
    beside := H__law_beside
    homely := H__law_homely
    card := H__law_card
    walk_right := H__law_walk_right
    exchanged_right := H__law_exchanged_right
    right := H__law_right
  }
  obtain ⟨fd, F⟩ := c.def_ 22 (d := d_law) rfl
  have e := hfa.symm.trans (He.glo_ok X G (c.fact 22 (f := .glo "law") rfl))
  cases e
  have b := FunD.bindsA (ps := ["_law_script"]) F fun _ _ _ _ _ _ us hl => match us, hl with | [_], _ => rfl
  exact ⟨fd, fun s v => b s [v] rfl, fun base _ _ => ok_law g F⟩
end
end K13
open PySem PySem.W PySem.Calls PyProof.Rows
theorem PySem.Challenge.cw_mirrorwood_k13_whole_cards_behind_rows_holds : PySem.Challenge.rw_mirrorwood_k13_whole_cards_behind_rows.Holds := by
  w_on; o_law
  refine HandSHeadRun.head_any (r := OpenLaw.row PySem.Challenge.rw_mirrorwood_k13_whole_cards_behind_rows) (q := view (OpenLaw.row PySem.Challenge.rw_mirrorwood_k13_whole_cards_behind_rows).prog [30]) (H := K13.hk) (ob := K13.ob) (M := 3000) (loose := K13.loose) (d := HandSHeadRun.topDef (OpenLaw.row PySem.Challenge.rw_mirrorwood_k13_whole_cards_behind_rows).prog 30) (kwd := []) K13.ob_eq
    (by kernel_rfl) (fun s => by kernel_rfl) K13.run (by kernel_rfl) (by kernel_rfl) (by kernel_rfl) (by rfl) (by first | assumption | decide +kernel) (by decide +kernel) ⟨rfl, rfl, rfl, rfl, rfl, by decide +kernel⟩ ?hw ?hc
  case hw => w_witness2
  case hc =>
    refine L2.walk_ofE (l := PySem.Challenge.rw_mirrorwood_k13_whole_cards_behind_rows) (n := 63) (k := 7) (x := "_law_script") (CX := L2.CX0) rfl (by decide) (by kernel_rfl) ⟨rfl, by decide, by decide⟩ ?F (fun _ _ _ _ z => z)
    intro w mg fa h Y G hmg0
    obtain ⟨K, KX, c⟩ := Y
    have hmg : mg ("law" : PySem.Str) = some (.ref fa) := by
      have e : (HandSHeadRun.topDef (OpenLaw.row PySem.Challenge.rw_mirrorwood_k13_whole_cards_behind_rows).prog 30).name = ("law" : PySem.Str) := by kernel_rfl
      rw [← e]
      exact hmg0
    obtain ⟨fd, hb, hF⟩ := K13.facts (P := (PySem.Challenge.rw_mirrorwood_k13_whole_cards_behind_rows).prog) (w := w) KX G hmg c
    exact ⟨K, fd, DL.spOf K [] 1 K13.S_law, KX, hb, fun H a ns hl _ hS => DL.sp_start hS K13.fS_mono ⟨ns, rfl, Nat.le_trans hl (by decide), fun _ => rfl⟩, hF⟩

