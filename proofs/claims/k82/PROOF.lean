import PyProof.Rows.All
import Wide.All
import OpenK.AllK
import Wide.FinOn
import HandS.ForMost
import HandS.IsInst
import HandS.Deep
import HandS.Zip
import HandS.Style
import HandS.Flow
import HandS.Set
import HandS.SetFor
import PyProof.Rows.SortShellAny
import KE.LtData
import HandS.SortInts
import HandS.TupAny
import HandS.More
import KE.KDictDisplayH
import PySem.Challenge.RW_usewarden_k82_whole_shortest_breach
set_option Elab.async false
set_option linter.all false
set_option maxRecDepth 100000
/-! DI, part A: data, what represents it, modes, the environment. -/
namespace DI
open PySem PySem.Spec PyProof.Rows L2

abbrev D := PyData
def keyD : Key → D
  | .inl i => .int i
  | .inr x => .str x

/-! ### what represents what, in a heap -/
mutual
inductive R (K : PySem.W.Frag) (G : Hp) : V → D → Prop
  | non : R K G .non .none
  | bl (b : Bool) : R K G (.bl b) (.bool b)
  | int (i : Int) : R K G (.int i) (.int i)
  | str (x : Str) : R K G (.str x) (.str x)
  | lst {a : Addr} {xs : List V} {ds : List D} : SqL K G a xs → Rs K G xs ds → R K G (.ref a) (.list ds)
  | tup {a : Addr} {xs : List V} {ds : List D} : G a = some (.tup xs) → Rs K G xs ds → R K G (.ref a) (.tuple ds)
  | dic {a : Addr} {kvs : List (Key × V)} {ds : List (D × D)} : Rd G a (.dK kvs) → Rk K G kvs ds → R K G (.ref a) (.dict ds)
  | dit {a : Addr} {kvs : List (List Key × V)} {ds : List (D × D)} : Rd G a (.dT kvs) → Rt K G kvs ds → R K G (.ref a) (.dict ((.none, .none) :: ds))
inductive Rs (K : PySem.W.Frag) (G : Hp) : List V → List D → Prop
  | nil : Rs K G [] []
  | cons {v : V} {vs : List V} {d : D} {ds : List D} : R K G v d → Rs K G vs ds → Rs K G (v :: vs) (d :: ds)
inductive Rk (K : PySem.W.Frag) (G : Hp) : List (Key × V) → List (D × D) → Prop
  | nil : Rk K G [] []
  | cons {k : Key} {v : V} {vs : List (Key × V)} {d : D} {ds : List (D × D)} : R K G v d → Rk K G vs ds → Rk K G ((k, v) :: vs) ((keyD k, d) :: ds)
inductive Rt (K : PySem.W.Frag) (G : Hp) : List (List Key × V) → List (D × D) → Prop
  | nil : Rt K G [] []
  | cons {k : List Key} {v : V} {vs : List (List Key × V)} {d : D} {ds : List (D × D)} : R K G v d → Rt K G vs ds → Rt K G ((k, v) :: vs) ((.tuple (k.map keyD), d) :: ds)
end

def imm : HO → Bool
  | .tup _ => true
  | .frz _ _ => true
  | _ => false

section
variable {K : PySem.W.Frag} {G G' F F' F'' H H' H'' : Hp}
theorem rd_m {a : Addr} {u : HO} (e : Same G G') (h : Rd G a u) : Rd G' a u := h.elim (fun h => .inl (e _ _ h)) fun ⟨o, h⟩ => .inr ⟨o, e _ _ h⟩
theorem sq_l {a : Addr} {xs : List V} (e : Same G G') (h : SqL K G a xs) : SqL K G' a xs := e.seq h
theorem sq_t {a : Addr} {xs : List V} (e : Same G G') (h : SqT K G a xs) : SqT K G' a xs := by
  rcases h with (h | ⟨o, h⟩) | h
  · exact .inl (.inl (e _ _ h))
  · exact .inl (.inr ⟨o, e _ _ h⟩)
  · exact .inr h
mutual
theorem R.mono (e : Same G G') : ∀ {v : V} {d : D}, R K G v d → R K G' v d
  | _, _, .non => .non
  | _, _, .bl b => .bl b
  | _, _, .int i => .int i
  | _, _, .str x => .str x
  | _, _, .lst h r => .lst (sq_l e h) (Rs.mono e r)
  | _, _, .tup h r => .tup (e _ _ h) (Rs.mono e r)
  | _, _, .dic h r => .dic (rd_m e h) (Rk.mono e r)
  | _, _, .dit h r => .dit (rd_m e h) (Rt.mono e r)
theorem Rs.mono (e : Same G G') : ∀ {v : List V} {d : List D}, Rs K G v d → Rs K G' v d
  | _, _, .nil => .nil
  | _, _, .cons h r => .cons (R.mono e h) (Rs.mono e r)
theorem Rk.mono (e : Same G G') : ∀ {v : List (Key × V)} {d : List (D × D)}, Rk K G v d → Rk K G' v d
  | _, _, .nil => .nil
  | _, _, .cons h r => .cons (R.mono e h) (Rk.mono e r)
theorem Rt.mono (e : Same G G') : ∀ {v : List (List Key × V)} {d : List (D × D)}, Rt K G v d → Rt K G' v d
  | _, _, .nil => .nil
  | _, _, .cons h r => .cons (R.mono e h) (Rt.mono e r)
end
theorem Rs.length : ∀ {vs : List V} {ds : List D}, Rs K G vs ds → vs.length = ds.length
  | _, _, .nil => rfl
  | _, _, .cons _ r => by simp [Rs.length r]
theorem Rs.get : ∀ {vs : List V} {ds : List D} {i : Nat} {d : D}, Rs K G vs ds → ds[i]? = some d → ∃ v, vs[i]? = some v ∧ R K G v d
  | _, _, _, _, .nil, e => by simp at e
  | _, _, 0, _, .cons r _, e => by simp at e; subst e; exact ⟨_, rfl, r⟩
  | _, _, i + 1, _, .cons _ r, e => by
    obtain ⟨v, h1, h2⟩ := Rs.get (i := i) r (by simpa using e)
    exact ⟨v, by simpa using h1, h2⟩
theorem Rs.getV : ∀ {vs : List V} {ds : List D} {i : Nat} {v : V}, Rs K G vs ds → vs[i]? = some v → ∃ d, ds[i]? = some d ∧ R K G v d
  | _, _, _, _, .nil, e => by simp at e
  | _, _, 0, _, .cons r _, e => by simp at e; subst e; exact ⟨_, rfl, r⟩
  | _, _, i + 1, _, .cons _ r, e => by
    obtain ⟨v, h1, h2⟩ := Rs.getV (i := i) r (by simpa using e)
    exact ⟨v, by simpa using h1, h2⟩
theorem Rs.append : ∀ {xs ys : List V} {ds es : List D}, Rs K G xs ds → Rs K G ys es → Rs K G (xs ++ ys) (ds ++ es)
  | _, _, _, _, .nil, s => s
  | _, _, _, _, .cons r t, s => .cons r (Rs.append t s)
theorem Rs.set : ∀ {xs : List V} {ds : List D} (i : Nat) {v : V} {d : D}, Rs K G xs ds → R K G v d → Rs K G (xs.set i v) (ds.set i d)
  | _, _, _, _, _, .nil, _ => .nil
  | _, _, 0, _, _, .cons _ t, r => .cons r t
  | _, _, i + 1, _, _, .cons q t, r => .cons q (Rs.set i t r)
theorem Rs.take : ∀ {xs : List V} {ds : List D} (n : Nat), Rs K G xs ds → Rs K G (xs.take n) (ds.take n)
  | _, _, 0, _ => .nil
  | _, _, _ + 1, .nil => .nil
  | _, _, n + 1, .cons r t => .cons r (Rs.take n t)
theorem Rs.drop : ∀ {xs : List V} {ds : List D} (n : Nat), Rs K G xs ds → Rs K G (xs.drop n) (ds.drop n)
  | _, _, 0, r => r
  | _, _, _ + 1, .nil => .nil
  | _, _, n + 1, .cons _ t => Rs.drop n t
theorem Rs.snoc {xs : List V} {ds : List D} {v : V} {d : D} (r : Rs K G xs ds) (h : R K G v d) : Rs K G (xs ++ [v]) (ds ++ [d]) := r.append (.cons h .nil)
theorem Rs.reverse : ∀ {xs : List V} {ds : List D}, Rs K G xs ds → Rs K G xs.reverse ds.reverse
  | _, _, .nil => .nil
  | _, _, .cons r t => by rw [List.reverse_cons, List.reverse_cons]; exact (Rs.reverse t).snoc r
theorem Rs.dropLast : ∀ {xs : List V} {ds : List D}, Rs K G xs ds → Rs K G xs.dropLast ds.dropLast := fun {xs ds} r => by
  rw [List.dropLast_eq_take, List.dropLast_eq_take, r.length]
  exact r.take _

/-! ### data without lists and dicts -/
mutual
def flat : D → Bool
  | .list _ => false
  | .dict _ => false
  | .tuple xs => flats xs
  | _ => true
def flats : List D → Bool
  | [] => true
  | d :: ds => flat d && flats ds
end
theorem sqt_im {a : Addr} {xs : List V} (im : ∀ a o, G a = some o → imm o = true → F a = some o) (h : SqT K G a xs) : SqT K F a xs := by
  rcases h with (h | ⟨o, h⟩) | h
  · exact .inl (.inl (im _ _ h rfl))
  · exact .inl (.inr ⟨o, im _ _ h rfl⟩)
  · exact .inr h
mutual
theorem R.flat_im (im : ∀ a o, G a = some o → imm o = true → F a = some o) : ∀ {v : V} {d : D}, R K G v d → flat d = true → R K F v d
  | _, _, .non, _ => .non
  | _, _, .bl b, _ => .bl b
  | _, _, .int i, _ => .int i
  | _, _, .str x, _ => .str x
  | _, _, .lst _ _, e => by simp [flat] at e
  | _, _, .tup h r, e => .tup (im _ _ h rfl) (Rs.flat_im im r (by simpa [flat] using e))
  | _, _, .dic _ _, e => by simp [flat] at e
  | _, _, .dit _ _, e => by simp [flat] at e
theorem Rs.flat_im (im : ∀ a o, G a = some o → imm o = true → F a = some o) : ∀ {v : List V} {d : List D}, Rs K G v d → flats d = true → Rs K F v d
  | _, _, .nil, _ => .nil
  | _, _, .cons h r, e => by
    rw [flats, Bool.and_eq_true] at e
    exact .cons (R.flat_im im h e.1) (Rs.flat_im im r e.2)
end

/-! ### own trees -/
mutual
/-- all lists and dicts in it are its own, at the addresses L -/
inductive OT (K : PySem.W.Frag) (F H : Hp) : V → D → List Addr → Prop
  | flat {v : V} {d : D} : flat d = true → R K F v d → OT K F H v d []
  | lst {p : Addr} {vs : List V} {ds : List D} {L : List Addr} : F p = none → H p = some (.lst vs) → OTs K F H vs ds L → OT K F H (.ref p) (.list ds) (p :: L)
  | tup {a : Addr} {vs : List V} {ds : List D} {L : List Addr} : F a = some (.tup vs) → OTs K F H vs ds L → OT K F H (.ref a) (.tuple ds) L
  | dic {p : Addr} {kvs : List (Key × V)} {ds : List (D × D)} {L : List Addr} : F p = none → H p = some (.dK kvs) → OTk K F H kvs ds L → OT K F H (.ref p) (.dict ds) (p :: L)
  | dit {p : Addr} {kvs : List (List Key × V)} {ds : List (D × D)} {L : List Addr} : F p = none → H p = some (.dT kvs) → OTt K F H kvs ds L → OT K F H (.ref p) (.dict ((.none, .none) :: ds)) (p :: L)
inductive OTs (K : PySem.W.Frag) (F H : Hp) : List V → List D → List Addr → Prop
  | nil : OTs K F H [] [] []
  | cons {v : V} {vs : List V} {d : D} {ds : List D} {L L' : List Addr} : OT K F H v d L → OTs K F H vs ds L' → OTs K F H (v :: vs) (d :: ds) (L ++ L')
inductive OTk (K : PySem.W.Frag) (F H : Hp) : List (Key × V) → List (D × D) → List Addr → Prop
  | nil : OTk K F H [] [] []
  | cons {k : Key} {v : V} {vs : List (Key × V)} {d : D} {ds : List (D × D)} {L L' : List Addr} : OT K F H v d L → OTk K F H vs ds L' → OTk K F H ((k, v) :: vs) ((keyD k, d) :: ds) (L ++ L')
inductive OTt (K : PySem.W.Frag) (F H : Hp) : List (List Key × V) → List (D × D) → List Addr → Prop
  | nil : OTt K F H [] [] []
  | cons {k : List Key} {v : V} {vs : List (List Key × V)} {d : D} {ds : List (D × D)} {L L' : List Addr} : OT K F H v d L → OTt K F H vs ds L' → OTt K F H ((k, v) :: vs) ((.tuple (k.map keyD), d) :: ds) (L ++ L')
end
/-- the top is its own, at p; what it holds is frozen -/
inductive O1 (K : PySem.W.Frag) (F H : Hp) : V → D → List Addr → Prop
  | lst {p : Addr} {vs : List V} {ds : List D} : F p = none → H p = some (.lst vs) → Rs K F vs ds → O1 K F H (.ref p) (.list ds) [p]
  | dic {p : Addr} {kvs : List (Key × V)} {ds : List (D × D)} : F p = none → H p = some (.dK kvs) → Rk K F kvs ds → O1 K F H (.ref p) (.dict ds) [p]
  | dit {p : Addr} {kvs : List (List Key × V)} {ds : List (D × D)} : F p = none → H p = some (.dT kvs) → Rt K F kvs ds → O1 K F H (.ref p) (.dict ((.none, .none) :: ds)) [p]
/-- modes: borrowed, frozen, own at the top, own all through -/
inductive Md | B | c | F | o | T
  deriving DecidableEq
/-- a data environment: each name's mode and data -/
abbrev En := List (Option (Md × D))
/-- read through the heap, what it holds is frozen -/
inductive RC (K : PySem.W.Frag) (F H : Hp) : V → D → Prop
  | frz {v : V} {d : D} : R K F v d → RC K F H v d
  | lst {a : Addr} {xs : List V} {ds : List D} : SqL K H a xs → Rs K F xs ds → RC K F H (.ref a) (.list ds)
  | dic {a : Addr} {kvs : List (Key × V)} {ds : List (D × D)} : Rd H a (.dK kvs) → Rk K F kvs ds → RC K F H (.ref a) (.dict ds)
  | dit {a : Addr} {kvs : List (List Key × V)} {ds : List (D × D)} : Rd H a (.dT kvs) → Rt K F kvs ds → RC K F H (.ref a) (.dict ((.none, .none) :: ds))
def M (K : PySem.W.Frag) (m : Md) (F H : Hp) (v : V) (d : D) (L : List Addr) : Prop := match m with
  | .B => R K H v d ∧ L = []
  | .c => RC K F H v d ∧ L = []
  | .F => R K F v d ∧ L = []
  | .o => O1 K F H v d L
  | .T => OT K F H v d L

/-! ### growth -/
structure Grow (F H F' H' : Hp) : Prop where
  hh : Same H H'
  ff : Same F F'
  fh : Same F' H'
  fr : ∀ a o, F' a = some o → F a = some o ∨ H a = none
  im : ∀ a o, H' a = some o → imm o = true → F' a = some o
structure Base (F H : Hp) : Prop where
  fh : Same F H
  im : ∀ a o, H a = some o → imm o = true → F a = some o
theorem Base.refl (b : Base F H) : Grow F H F H := ⟨Same.refl _, Same.refl _, b.fh, fun _ _ e => .inl e, b.im⟩
theorem Grow.base (g : Grow F H F' H') : Base F' H' := ⟨g.fh, g.im⟩
theorem Grow.trans (g : Grow F H F' H') (k : Grow F' H' F'' H'') : Grow F H F'' H'' where
  hh := g.hh.trans k.hh
  ff := g.ff.trans k.ff
  fh := k.fh
  fr := fun a o e => by
    rcases k.fr a o e with h | h
    · exact g.fr a o h
    · exact .inr (g.hh.free h)
  im := k.im
theorem Grow.keepNone (g : Grow F H F' H') {a : Addr} {o : HO} (hF : F a = none) (hH : H a = some o) : F' a = none := by
  cases e : F' a with
  | none => rfl
  | some u =>
    rcases g.fr a u e with h | h
    · rw [hF] at h; cases h
    · rw [hH] at h; cases h
/-- a new object, own -/
theorem Grow.own {p : Addr} {o : HO} (b : Base F H) (hp : H p = none) (hi : imm o = false) : Grow F H F (upd H p o) where
  hh := fun a u e => by rw [upd_ne (ne_of_none e hp)]; exact e
  ff := Same.refl _
  fh := fun a u e => by rw [upd_ne (ne_of_none (b.fh a u e) hp)]; exact b.fh a u e
  fr := fun _ _ e => .inl e
  im := fun a u e i => by
    by_cases h : a = p
    · subst h; rw [upd_same] at e; cases e; rw [hi] at i; cases i
    · rw [upd_ne h] at e; exact b.im a u e i
/-- a new object, frozen -/
theorem Grow.new {p : Addr} {o : HO} (b : Base F H) (hp : H p = none) : Grow F H (upd F p o) (upd H p o) where
  hh := fun a u e => by rw [upd_ne (ne_of_none e hp)]; exact e
  ff := fun a u e => by rw [upd_ne (ne_of_none (b.fh a u e) hp)]; exact e
  fh := fun a u e => by
    by_cases h : a = p
    · subst h; rw [upd_same] at e ⊢; exact e
    · rw [upd_ne h] at e ⊢; exact b.fh a u e
  fr := fun a u e => by
    by_cases h : a = p
    · subst h; exact .inr hp
    · rw [upd_ne h] at e; exact .inl e
  im := fun a u e i => by
    by_cases h : a = p
    · subst h; rw [upd_same] at e ⊢; exact e
    · rw [upd_ne h] at e ⊢; exact b.im a u e i

mutual
theorem OT.grow (g : Grow F H F' H') : ∀ {v : V} {d : D} {L : List Addr}, OT K F H v d L → OT K F' H' v d L
  | _, _, _, .flat e r => .flat e (r.mono g.ff)
  | _, _, _, .lst a b c => .lst (g.keepNone a b) (g.hh _ _ b) (OTs.grow g c)
  | _, _, _, .tup a c => .tup (g.ff _ _ a) (OTs.grow g c)
  | _, _, _, .dic a b c => .dic (g.keepNone a b) (g.hh _ _ b) (OTk.grow g c)
  | _, _, _, .dit a b c => .dit (g.keepNone a b) (g.hh _ _ b) (OTt.grow g c)
theorem OTs.grow (g : Grow F H F' H') : ∀ {v : List V} {d : List D} {L : List Addr}, OTs K F H v d L → OTs K F' H' v d L
  | _, _, _, .nil => .nil
  | _, _, _, .cons a b => .cons (OT.grow g a) (OTs.grow g b)
theorem OTk.grow (g : Grow F H F' H') : ∀ {v : List (Key × V)} {d : List (D × D)} {L : List Addr}, OTk K F H v d L → OTk K F' H' v d L
  | _, _, _, .nil => .nil
  | _, _, _, .cons a b => .cons (OT.grow g a) (OTk.grow g b)
theorem OTt.grow (g : Grow F H F' H') : ∀ {v : List (List Key × V)} {d : List (D × D)} {L : List Addr}, OTt K F H v d L → OTt K F' H' v d L
  | _, _, _, .nil => .nil
  | _, _, _, .cons a b => .cons (OT.grow g a) (OTt.grow g b)
end
theorem O1.grow (g : Grow F H F' H') : ∀ {v : V} {d : D} {L : List Addr}, O1 K F H v d L → O1 K F' H' v d L
  | _, _, _, .lst a b c => .lst (g.keepNone a b) (g.hh _ _ b) (c.mono g.ff)
  | _, _, _, .dic a b c => .dic (g.keepNone a b) (g.hh _ _ b) (c.mono g.ff)
  | _, _, _, .dit a b c => .dit (g.keepNone a b) (g.hh _ _ b) (c.mono g.ff)
theorem RC.grow (g : Grow F H F' H') : ∀ {v : V} {d : D}, RC K F H v d → RC K F' H' v d
  | _, _, .frz r => .frz (r.mono g.ff)
  | _, _, .lst a b => .lst (sq_l g.hh a) (b.mono g.ff)
  | _, _, .dic a b => .dic (rd_m g.hh a) (b.mono g.ff)
  | _, _, .dit a b => .dit (rd_m g.hh a) (b.mono g.ff)
theorem RC.toR (f : Same F H) : ∀ {v : V} {d : D}, RC K F H v d → R K H v d
  | _, _, .frz r => r.mono f
  | _, _, .lst a b => .lst a (b.mono f)
  | _, _, .dic a b => .dic a (b.mono f)
  | _, _, .dit a b => .dit a (b.mono f)
theorem O1.toC : ∀ {v : V} {d : D} {L : List Addr}, O1 K F H v d L → RC K F H v d
  | _, _, _, .lst a b c => .lst (SqL.of b) c
  | _, _, _, .dic a b c => .dic (.inl b) c
  | _, _, _, .dit a b c => .dit (.inl b) c
theorem M.grow {m : Md} {v : V} {d : D} {L : List Addr} (g : Grow F H F' H') (h : M K m F H v d L) : M K m F' H' v d L := by
  cases m with
  | B => exact ⟨h.1.mono g.hh, h.2⟩
  | c => exact ⟨h.1.grow g, h.2⟩
  | F => exact ⟨h.1.mono g.ff, h.2⟩
  | o => exact O1.grow g h
  | T => exact OT.grow g h

/-! ### own cells -/
def Own (F H : Hp) (L : List Addr) : Prop := ∀ a ∈ L, F a = none ∧ ∃ o, H a = some o ∧ imm o = false
theorem Own.cons {p : Addr} {L : List Addr} {o : HO} (a : F p = none) (b : H p = some o) (i : imm o = false) (h : Own F H L) : Own F H (p :: L) := fun x hx => by
  rcases List.mem_cons.mp hx with rfl | hx
  · exact ⟨a, o, b, i⟩
  · exact h x hx
theorem Own.app {L L' : List Addr} (h : Own F H L) (h' : Own F H L') : Own F H (L ++ L') := fun x hx => by
  rcases List.mem_append.mp hx with hx | hx
  · exact h x hx
  · exact h' x hx
theorem Own.nil : Own F H [] := fun _ h => by cases h
mutual
theorem OT.own : ∀ {v : V} {d : D} {L : List Addr}, OT K F H v d L → Own F H L
  | _, _, _, .flat _ _ => .nil
  | _, _, _, .lst a b c => .cons a b rfl (OTs.own c)
  | _, _, _, .tup _ c => OTs.own c
  | _, _, _, .dic a b c => .cons a b rfl (OTk.own c)
  | _, _, _, .dit a b c => .cons a b rfl (OTt.own c)
theorem OTs.own : ∀ {v : List V} {d : List D} {L : List Addr}, OTs K F H v d L → Own F H L
  | _, _, _, .nil => .nil
  | _, _, _, .cons a b => .app (OT.own a) (OTs.own b)
theorem OTk.own : ∀ {v : List (Key × V)} {d : List (D × D)} {L : List Addr}, OTk K F H v d L → Own F H L
  | _, _, _, .nil => .nil
  | _, _, _, .cons a b => .app (OT.own a) (OTk.own b)
theorem OTt.own : ∀ {v : List (List Key × V)} {d : List (D × D)} {L : List Addr}, OTt K F H v d L → Own F H L
  | _, _, _, .nil => .nil
  | _, _, _, .cons a b => .app (OT.own a) (OTt.own b)
end
theorem M.own {m : Md} {v : V} {d : D} {L : List Addr} (h : M K m F H v d L) : Own F H L := by
  cases m with
  | B => rw [h.2]; exact .nil
  | c => rw [h.2]; exact .nil
  | F => rw [h.2]; exact .nil
  | o => cases h with
    | lst a b c => exact .cons a b rfl .nil
    | dic a b c => exact .cons a b rfl .nil
    | dit a b c => exact .cons a b rfl .nil
  | T => exact OT.own h

/-! ### freezing -/
def frzOn (F H : Hp) (L : List Addr) : Hp := fun a => if a ∈ L then H a else F a
theorem frzOn_in {L : List Addr} {a : Addr} (h : a ∈ L) : frzOn F H L a = H a := if_pos h
theorem frzOn_out {L : List Addr} {a : Addr} (h : a ∉ L) : frzOn F H L a = F a := if_neg h
theorem frzOn_same {L : List Addr} (o : Own F H L) : Same F (frzOn F H L) := fun a u e => by
  by_cases h : a ∈ L
  · rw [(o a h).1] at e; cases e
  · rw [frzOn_out h]; exact e
theorem frzOn_le {L : List Addr} (b : Same F H) : Same (frzOn F H L) H := fun a u e => by
  by_cases h : a ∈ L
  · rw [frzOn_in h] at e; exact e
  · rw [frzOn_out h] at e; exact b a u e
mutual
theorem OT.toR {G : Hp} (f : Same F G) : ∀ {v : V} {d : D} {L : List Addr}, OT K F H v d L → (∀ a ∈ L, G a = H a) → R K G v d
  | _, _, _, .flat _ r, _ => r.mono f
  | _, _, _, .lst a b c, e => .lst (SqL.of (by rw [e _ (by simp)]; exact b)) (OTs.toR f c fun x hx => e x (by simp [hx]))
  | _, _, _, .tup a c, e => .tup (f _ _ a) (OTs.toR f c e)
  | _, _, _, .dic a b c, e => .dic (.inl (by rw [e _ (by simp)]; exact b)) (OTk.toR f c fun x hx => e x (by simp [hx]))
  | _, _, _, .dit a b c, e => .dit (.inl (by rw [e _ (by simp)]; exact b)) (OTt.toR f c fun x hx => e x (by simp [hx]))
theorem OTs.toR {G : Hp} (f : Same F G) : ∀ {v : List V} {d : List D} {L : List Addr}, OTs K F H v d L → (∀ a ∈ L, G a = H a) → Rs K G v d
  | _, _, _, .nil, _ => .nil
  | _, _, _, .cons a b, e => .cons (OT.toR f a fun x hx => e x (by simp [hx])) (OTs.toR f b fun x hx => e x (by simp [hx]))
theorem OTk.toR {G : Hp} (f : Same F G) : ∀ {v : List (Key × V)} {d : List (D × D)} {L : List Addr}, OTk K F H v d L → (∀ a ∈ L, G a = H a) → Rk K G v d
  | _, _, _, .nil, _ => .nil
  | _, _, _, .cons a b, e => .cons (OT.toR f a fun x hx => e x (by simp [hx])) (OTk.toR f b fun x hx => e x (by simp [hx]))
theorem OTt.toR {G : Hp} (f : Same F G) : ∀ {v : List (List Key × V)} {d : List (D × D)} {L : List Addr}, OTt K F H v d L → (∀ a ∈ L, G a = H a) → Rt K G v d
  | _, _, _, .nil, _ => .nil
  | _, _, _, .cons a b, e => .cons (OT.toR f a fun x hx => e x (by simp [hx])) (OTt.toR f b fun x hx => e x (by simp [hx]))
end
theorem O1.toR {G : Hp} (f : Same F G) : ∀ {v : V} {d : D} {L : List Addr}, O1 K F H v d L → (∀ a ∈ L, G a = H a) → R K G v d
  | _, _, _, .lst a b c, e => .lst (SqL.of (by rw [e _ (by simp)]; exact b)) (c.mono f)
  | _, _, _, .dic a b c, e => .dic (.inl (by rw [e _ (by simp)]; exact b)) (c.mono f)
  | _, _, _, .dit a b c, e => .dit (.inl (by rw [e _ (by simp)]; exact b)) (c.mono f)
/-- whatever its mode is, it may be read in a heap that has it all -/
theorem M.toR {m : Md} {v : V} {d : D} {L : List Addr} (b : Same F H) (h : M K m F H v d L) : R K H v d := by
  cases m with
  | B => exact h.1
  | c => exact h.1.toR b
  | F => exact h.1.mono b
  | o => exact O1.toR b h fun _ _ => rfl
  | T => exact OT.toR b h fun _ _ => rfl
/-- frozen where it stands -/
def Md.st : Md → Bool
  | .B => false
  | .c => false
  | _ => true
theorem M.frz {m : Md} {v : V} {d : D} {L : List Addr} (hm : m.st = true) (h : M K m F H v d L) : R K (frzOn F H L) v d := by
  have ow := h.own
  cases m with
  | B => cases hm
  | c => cases hm
  | F => exact h.1.mono (frzOn_same ow)
  | o => exact O1.toR (frzOn_same ow) h fun a ha => frzOn_in ha
  | T => exact OT.toR (frzOn_same ow) h fun a ha => frzOn_in ha
theorem Grow.frz {L : List Addr} (g : Grow F H F' H') (ow : Own F' H' L) (hn : ∀ a ∈ L, H a = none) : Grow F H (frzOn F' H' L) H' where
  hh := g.hh
  ff := g.ff.trans (frzOn_same ow)
  fh := frzOn_le g.fh
  fr := fun a o e => by
    by_cases h : a ∈ L
    · exact .inr (hn a h)
    · rw [frzOn_out h] at e; exact g.fr a o e
  im := fun a o e i => by
    by_cases h : a ∈ L
    · rw [frzOn_in h]; exact e
    · rw [frzOn_out h]; exact g.im a o e i

/-! ### the environment -/
structure EnvR (K : PySem.W.Frag) (F H : Hp) (ρ : En) (σ : L2.St) (φ : Nat → List Addr) : Prop where
  base : Base F H
  sl : ∀ i m d, ρ[i]? = some (some (m, d)) → m.st = true ∧ ∃ v, σ[i]? = some (some v) ∧ M K m F H v d (φ i)
  em : ∀ i, (∀ m d, ρ[i]? ≠ some (some (m, d))) → φ i = []
  nd : ∀ i, (φ i).Nodup
  dj : ∀ i j a, a ∈ φ i → a ∈ φ j → i = j
  len : ρ.length = σ.length
section
variable {ρ : En} {σ : L2.St} {φ : Nat → List Addr}
theorem EnvR.own (e : EnvR K F H ρ σ φ) (i : Nat) : Own F H (φ i) := by
  by_cases h : ∃ m d, ρ[i]? = some (some (m, d))
  · obtain ⟨m, d, hd⟩ := h
    obtain ⟨_, v, _, m⟩ := e.sl i m d hd
    exact m.own
  · rw [e.em i fun m d hd => h ⟨m, d, hd⟩]
    exact .nil
theorem EnvR.grow (e : EnvR K F H ρ σ φ) (g : Grow F H F' H') : EnvR K F' H' ρ σ φ where
  base := g.base
  sl := fun i m d h => by
    obtain ⟨h0, v, h1, h2⟩ := e.sl i m d h
    exact ⟨h0, v, h1, h2.grow g⟩
  em := e.em
  nd := e.nd
  dj := e.dj
  len := e.len
end
end
end DI

set_option Elab.async false
set_option linter.all false
set_option maxRecDepth 100000
/-! DI, part B: judgements of expressions and tests. -/
namespace DI
open PySem PySem.Spec PyProof.Rows L2

/-! ### judgements -/
def Post (K : PySem.W.Frag) (m : Md) (F H : Hp) (d : D) (Q : VK) : Prop :=
  ∀ v F' H' L, Grow F H F' H' → M K m F' H' v d L → L.Nodup → (∀ a ∈ L, H a = none) → Q v H'
def tJ (K : PySem.W.Frag) (m : Md) (f : En → Option D) : TE := fun σ H Q =>
  ∃ F ρ φ d, EnvR K F H ρ σ φ ∧ f ρ = some d ∧ Post K m F H d Q
/-- the expression e, read in mode m, gives what f says -/
def EJ (X : Cx) (m : Md) (e : Expr) (f : En → Option D) : Prop := PE X e (tJ X.K m f)
def tTJ (K : PySem.W.Frag) (f : En → Option Bool) : TT := fun σ H Q =>
  ∃ F ρ φ b, EnvR K F H ρ σ φ ∧ f ρ = some b ∧ ∀ F' H', Grow F H F' H' → Q b H'
/-- the test c answers f -/
def CJ (X : Cx) (c : Expr) (f : En → Option Bool) : Prop := PT X c (tTJ X.K f)
def CJW (X : Cx) (c : Expr) (f : En → Option Bool) : Prop := PW X c (tTJ X.K f)
def Ms (K : PySem.W.Frag) (m : Md) (F H : Hp) (vs : List V) (ds : List D) (L : List Addr) : Prop := match m with
  | .B => Rs K H vs ds ∧ L = []
  | .F => Rs K F vs ds ∧ L = []
  | .o => False
  | .c => False
  | .T => OTs K F H vs ds L
def tAJ (K : PySem.W.Frag) (m : Md) (f : En → Option (List D)) : TA := fun σ H Q =>
  ∃ F ρ φ ds, EnvR K F H ρ σ φ ∧ f ρ = some ds ∧ ∀ vs F' H' L, Grow F H F' H' → Ms K m F' H' vs ds L → L.Nodup → (∀ a ∈ L, H a = none) → Q vs H'
def AJ (X : Cx) (m : Md) (es : List Expr) (f : En → Option (List D)) : Prop := PA X es (tAJ X.K m f)

theorem PE.imp {X : Cx} {e : Expr} {t t' : TE} (h : PE X e t) (i : ∀ σ H Q, t' σ H Q → t σ H Q) : PE X e t' :=
  ⟨fun pins s σ H Q I w => h.run pins s σ H Q I (i σ H Q w)⟩
theorem PT.imp {X : Cx} {e : Expr} {t t' : TT} (h : PT X e t) (i : ∀ σ H Q, t' σ H Q → t σ H Q) : PT X e t' :=
  ⟨fun pins s σ H Q I w => h.run pins s σ H Q I (i σ H Q w)⟩
theorem PW.imp {X : Cx} {e : Expr} {t t' : TT} (h : PW X e t) (i : ∀ σ H Q, t' σ H Q → t σ H Q) : PW X e t' :=
  ⟨fun w pins s σ H Q I q => h.run w pins s σ H Q I (i σ H Q q)⟩
theorem PA.imp {X : Cx} {e : List Expr} {t t' : TA} (h : PA X e t) (i : ∀ σ H Q, t' σ H Q → t σ H Q) : PA X e t' :=
  ⟨fun p pins s σ H Q I w => h.run p pins s σ H Q I (i σ H Q w)⟩

section
variable {X : Cx} {K : PySem.W.Frag} {F F' F'' H H' H'' : Hp} {d : D} {Q : VK} {v : V} {m : Md} {e a b c : Expr} {f g fa fb fc : En → Option D} {pos : Pos}
theorem Post.grow (p : Post K m F H d Q) (k : Grow F H F' H') : Post K m F' H' d Q := fun v F2 H2 L g h n fr => p v F2 H2 L (k.trans g) h n fun a ha => k.hh.free (fr a ha)
theorem Post.T0 (p : Post K .T F H d Q) (b : Base F H) (hf : flat d = true) (r : R K F v d) : Q v H := p v F H [] b.refl (.flat hf r) List.nodup_nil fun _ h => nomatch h
theorem Post.B0 (p : Post K .B F H d Q) (b : Base F H) (r : R K H v d) : Q v H := p v F H [] b.refl ⟨r, rfl⟩ List.nodup_nil fun _ h => nomatch h
theorem Post.F0 (p : Post K .F F H d Q) (b : Base F H) (r : R K F v d) : Q v H := p v F H [] b.refl ⟨r, rfl⟩ List.nodup_nil fun _ h => nomatch h

/-! ### from a mode to a weaker one -/
theorem EJ.frz (h : EJ X m e f) (hm : m.st = true := by rfl) : EJ X .F e f := PE.imp h fun σ H Q ⟨F, ρ, φ, d, en, e, p⟩ => ⟨F, ρ, φ, d, en, e, fun v F' H' L g mm n fr =>
  p v (frzOn F' H' L) H' [] (g.frz mm.own fr) ⟨mm.frz hm, rfl⟩ List.nodup_nil fun _ h => nomatch h⟩
theorem EJ.br (h : EJ X m e f) : EJ X .B e f := PE.imp h fun σ H Q ⟨F, ρ, φ, d, en, e, p⟩ => ⟨F, ρ, φ, d, en, e, fun v F' H' L g mm n fr =>
  p v F' H' [] g ⟨mm.toR g.fh, rfl⟩ List.nodup_nil fun _ h => nomatch h⟩
/-- a value without lists and dicts, checked as it comes -/
def fChk (f : En → Option D) : En → Option D := fun ρ => match f ρ with
  | some d => if flat d = true then some d else none
  | none => none
theorem fChk_some {ρ : En} (h : fChk f ρ = some d) : f ρ = some d ∧ flat d = true := by
  unfold fChk at h
  split at h
  · split at h
    · cases h; exact ⟨by assumption, by assumption⟩
    · cases h
  · cases h
theorem EJ.chk (h : EJ X .B e f) : EJ X .T e (fChk f) := PE.imp h fun σ H Q ⟨F, ρ, φ, d, en, e, p⟩ => ⟨F, ρ, φ, d, en, (fChk_some e).1, fun v F' H' L g mm n fr =>
  p v F' H' [] g (.flat (fChk_some e).2 (mm.1.flat_im g.im (fChk_some e).2)) List.nodup_nil fun _ h => nomatch h⟩

/-! ### names, constants -/
def fVar (i : Nat) : En → Option D := fun ρ => match ρ.getD i none with
  | some (_, d) => some d
  | none => none
def fVarF (i : Nat) : En → Option D := fun ρ => match ρ.getD i none with
  | some (.F, d) => some d
  | _ => none
def fVarC (i : Nat) : En → Option D := fun ρ => match ρ.getD i none with
  | some (.F, d) => some d
  | some (.o, d) => some d
  | _ => none
theorem getD_some {α : Type} {l : List (Option α)} {i : Nat} {x : α} (h : l.getD i none = some x) : l[i]? = some (some x) := by
  rw [List.getD_eq_getElem?_getD] at h
  cases q : l[i]? with
  | none => rw [q] at h; cases h
  | some y => rw [q] at h; exact congrArg some h
theorem fVar_some {i : Nat} {ρ : En} (h : fVar i ρ = some d) : ∃ m, ρ[i]? = some (some (m, d)) := by
  unfold fVar at h
  split at h
  · cases h; exact ⟨_, getD_some (by assumption)⟩
  · cases h
theorem fVarF_some {i : Nat} {ρ : En} (h : fVarF i ρ = some d) : ρ[i]? = some (some (.F, d)) := by
  unfold fVarF at h
  split at h
  · cases h; exact getD_some (by assumption)
  · cases h
theorem fVarC_some {i : Nat} {ρ : En} (h : fVarC i ρ = some d) : ρ[i]? = some (some (.F, d)) ∨ ρ[i]? = some (some (.o, d)) := by
  unfold fVarC at h
  split at h
  · cases h; exact .inl (getD_some (by assumption))
  · cases h; exact .inr (getD_some (by assumption))
  · cases h
theorem Post.c0 (p : Post K .c F H d Q) (b : Base F H) (r : RC K F H v d) : Q v H := p v F H [] b.refl ⟨r, rfl⟩ List.nodup_nil fun _ h => nomatch h
theorem ej_var (i : Nat) {x : Str} (h : PE X (.Name x pos) (tVar i)) : EJ X .B (.Name x pos) (fVar i) := PE.imp h fun σ H Q ⟨F, ρ, φ, d, en, e, p⟩ => by
  obtain ⟨m, e⟩ := fVar_some e
  obtain ⟨_, v, h1, h2⟩ := en.sl i m d e
  exact ⟨v, h1, p.B0 en.base (h2.toR en.base.fh)⟩
theorem ej_varF (i : Nat) {x : Str} (h : PE X (.Name x pos) (tVar i)) : EJ X .F (.Name x pos) (fVarF i) := PE.imp h fun σ H Q ⟨F, ρ, φ, d, en, e, p⟩ => by
  obtain ⟨_, v, h1, h2⟩ := en.sl i _ d (fVarF_some e)
  exact ⟨v, h1, p.F0 en.base h2.1⟩
theorem ej_varC (i : Nat) {x : Str} (h : PE X (.Name x pos) (tVar i)) : EJ X .c (.Name x pos) (fVarC i) := PE.imp h fun σ H Q ⟨F, ρ, φ, d, en, e, p⟩ => by
  rcases fVarC_some e with e | e
  · obtain ⟨_, v, h1, h2⟩ := en.sl i _ d e
    exact ⟨v, h1, p.c0 en.base (.frz h2.1)⟩
  · obtain ⟨_, v, h1, h2⟩ := en.sl i _ d e
    exact ⟨v, h1, p.c0 en.base (O1.toC h2)⟩
theorem EJ.cc (h : EJ X .F e f) : EJ X .c e f := PE.imp h fun σ H Q ⟨F, ρ, φ, d, en, e, p⟩ => ⟨F, ρ, φ, d, en, e, fun v F' H' L g mm n fr =>
  p v F' H' [] g ⟨.frz mm.1, rfl⟩ List.nodup_nil fun _ h => nomatch h⟩
/-- constants -/
def fC (d : D) : En → Option D := fun _ => some d
def scalV : V → D → Bool
  | .non, .none => true
  | .bl a, .bool b => a == b
  | .int a, .int b => a == b
  | .str a, .str b => a == b
  | _, _ => false
theorem scalV_R {G : Hp} : ∀ {v : V} {d : D}, scalV v d = true → R K G v d ∧ flat d = true
  | .non, .none, _ => ⟨.non, rfl⟩
  | .bl a, .bool b, h => by have e : a = b := by simpa [scalV] using h
                            subst e; exact ⟨.bl _, rfl⟩
  | .int a, .int b, h => by have e : a = b := by simpa [scalV] using h
                            subst e; exact ⟨.int _, rfl⟩
  | .str a, .str b, h => by have e : a = b := by simpa [scalV] using h
                            subst e; exact ⟨.str _, rfl⟩
theorem ej_const {v : V} {d : D} (h : PE X e (tC v)) (hs : ∀ G : Hp, R X.K G v d) (hf : flat d = true) : EJ X .T e (fC d) := PE.imp h fun σ H Q ⟨F, ρ, φ, d', en, e, p⟩ => by
  cases e
  exact p.T0 en.base hf (hs _)
theorem ej_int {i j} : EJ X .T (.Constant (.int i) j pos) (fC (.int i)) := ej_const pe_int (fun _ => .int i) rfl
theorem ej_bl {i j} : EJ X .T (.Constant (.bool i) j pos) (fC (.bool i)) := ej_const pe_bl (fun _ => .bl i) rfl
theorem ej_non {j} : EJ X .T (.Constant .none j pos) (fC .none) := ej_const pe_non (fun _ => .non) rfl
theorem ej_str {x j} : EJ X .T (.Constant (.str x) j pos) (fC (.str x)) := ej_const pe_str (fun _ => .str x) rfl

/-! ### operators -/
def fBin (g : D → D → Option D) (fa fb : En → Option D) : En → Option D := fun ρ => match fa ρ, fb ρ with
  | some x, some y => g x y
  | _, _ => none
theorem fBin_some {g : D → D → Option D} {ρ : En} (h : fBin g fa fb ρ = some d) : ∃ x y, fa ρ = some x ∧ fb ρ = some y ∧ g x y = some d := by
  unfold fBin at h
  split at h
  · exact ⟨_, _, by assumption, by assumption, h⟩
  · cases h
/-- a two-place operation on values does, in mode m, what g says of data -/
def Op2 (K : PySem.W.Frag) (m : Md) (r : R2) (g : D → D → Option D) : Prop :=
  ∀ F H x y dx dy dz Q, Base F H → R K H x dx → R K H y dy → g dx dy = some dz → Post K m F H dz Q → r x y H Q
theorem tJ_op {r : R2} {g : D → D → Option D} (hg : Op2 K m r g) : ∀ σ H Q, tJ K m (fBin g fa fb) σ H Q → tOp r (tJ K .B fa) (tJ K .B fb) σ H Q := fun σ H Q ⟨F, ρ, φ, d, en, e, p⟩ => by
  obtain ⟨x, y, e1, e2, e3⟩ := fBin_some e
  refine ⟨F, ρ, φ, x, en, e1, fun v F1 H1 L g1 m1 _ _ => ?_⟩
  refine ⟨F1, ρ, φ, y, en.grow g1, e2, fun u F2 H2 L g2 m2 _ _ => ?_⟩
  exact hg F2 H2 v u x y d Q g2.base (m1.1.mono g2.hh) m2.1 e3 (p.grow (g1.trans g2))
theorem ej_op {op : Operator} {r : R2} {g : D → D → Option D} (ho : OpR X (binaryOp op) r) (hg : Op2 X.K m r g) (ha : EJ X .B a fa) (hb : EJ X .B b fb) : EJ X m (.BinOp a op b pos) (fBin g fa fb) :=
  PE.imp (pe_op ho ha hb) (tJ_op hg)
def oOr (g g' : D → D → Option D) : D → D → Option D := fun x y => match g x y with
  | some d => some d
  | none => g' x y
theorem Op2.or {r r' : R2} {g g' : D → D → Option D} (h : Op2 K m r g) (h' : Op2 K m r' g') : Op2 K m (fun x y H Q => r x y H Q ∨ r' x y H Q) (oOr g g') := fun F H x y dx dy dz Q b rx ry e p => by
  unfold oOr at e
  split at e
  · exact .inl (h F H x y dx dy dz Q b rx ry (by rw [← e]; assumption) p)
  · exact .inr (h' F H x y dx dy dz Q b rx ry e p)
/-- ints -/
def dI (C : Int → Int → Bool) (g : Int → Int → D) : D → D → Option D
  | .int i, .int j => if C i j = true then some (g i j) else none
  | _, _ => none
theorem op2_I {C : Int → Int → Prop} {C' : Int → Int → Bool} {g : Int → Int → V} {g' : Int → Int → D} (hc : ∀ i j, C' i j = true → C i j) (hs : ∀ i j G, R K G (g i j) (g' i j) ∧ flat (g' i j) = true) : Op2 K .T (rI C g) (dI C' g') := fun F H x y dx dy dz Q b rx ry e p => by
  unfold dI at e
  split at e
  · split at e
    · cases e
      cases rx; cases ry
      exact ⟨_, _, rfl, rfl, hc _ _ (by assumption), p.T0 b (hs _ _ F).2 (hs _ _ F).1⟩
    · cases e
  · cases e
theorem op2_I0 {g : Int → Int → V} {g' : Int → Int → D} (hs : ∀ i j G, R K G (g i j) (g' i j) ∧ flat (g' i j) = true) : Op2 K .T (rI0 g) (dI (fun _ _ => true) g') := fun F H x y dx dy dz Q b rx ry e p => by
  unfold dI at e
  split at e
  · split at e
    · cases e
      cases rx; cases ry
      exact ⟨_, _, rfl, rfl, p.T0 b (hs _ _ F).2 (hs _ _ F).1⟩
    · cases e
  · cases e
def dAddI : D → D → Option D := dI (fun _ _ => true) fun i j => .int (i + j)
def rAddS : R2 := fun x y H Q => ∃ i j, x = .str i ∧ y = .str j ∧ i.length + j.length ≤ sizeLine ∧ Q (.str (i ++ j)) H
def dAddS : D → D → Option D
  | .str x, .str y => if x.length + y.length ≤ 1000000 then some (.str (x ++ y)) else none
  | _, _ => none
theorem op2_addS : Op2 K .T rAddS dAddS := fun F H x y dx dy dz Q b rx ry e p => by
  unfold dAddS at e
  split at e
  · split at e
    · cases e
      cases rx; cases ry
      rename_i hl
      exact ⟨_, _, rfl, rfl, Nat.le_trans hl (by rw [sizeLine_eq]; decide), p.T0 b rfl (.str _)⟩
    · cases e
  · cases e
/-- numbers or texts added -/
def dAdd : D → D → Option D := oOr dAddI dAddS
theorem ej_add (ha : EJ X .B a fa) (hb : EJ X .B b fb) : EJ X .T (.BinOp a .Add b pos) (fBin dAdd fa fb) :=
  ej_op (OpR.or op_add op_add_str) (Op2.or (op2_I0 fun i j G => ⟨.int _, rfl⟩) op2_addS) ha hb
def dSub : D → D → Option D := dI (fun _ _ => true) fun i j => .int (i - j)
theorem ej_sub (ha : EJ X .B a fa) (hb : EJ X .B b fb) : EJ X .T (.BinOp a .Sub b pos) (fBin dSub fa fb) := ej_op op_sub (op2_I0 fun i j G => ⟨.int _, rfl⟩) ha hb
def okMul (i j : Int) : Bool := (decide (-(2 ^ 64) < i) && decide (i < 2 ^ 64)) || (decide (-(2 ^ 64) < j) && decide (j < 2 ^ 64))
def dMul : D → D → Option D := dI okMul fun i j => .int (i * j)
theorem ej_mul (ha : EJ X .B a fa) (hb : EJ X .B b fb) : EJ X .T (.BinOp a .Mult b pos) (fBin dMul fa fb) := ej_op op_mul (op2_I (fun i j h => by
  simp only [okMul, Bool.or_eq_true, Bool.and_eq_true, decide_eq_true_eq] at h
  exact h) fun i j G => ⟨.int _, rfl⟩) ha hb
def dDiv : D → D → Option D := dI (fun _ j => decide (0 < j) && decide (j < 1073741824)) fun i j => .int (i / j)
theorem ej_div (ha : EJ X .B a fa) (hb : EJ X .B b fb) : EJ X .T (.BinOp a .FloorDiv b pos) (fBin dDiv fa fb) := ej_op op_fdiv (op2_I (fun i j h => by
  simp only [Bool.and_eq_true, decide_eq_true_eq] at h
  exact h) fun i j G => ⟨.int _, rfl⟩) ha hb
def dMod : D → D → Option D := dI (fun _ j => decide (0 < j)) fun i j => .int (i % j)
theorem ej_mod (ha : EJ X .B a fa) (hb : EJ X .B b fb) : EJ X .T (.BinOp a .Mod b pos) (fBin dMod fa fb) := ej_op op_mod (op2_I (fun i j h => of_decide_eq_true h) fun i j G => ⟨.int _, rfl⟩) ha hb
def dPow : D → D → Option D := dI (fun i j => decide (0 ≤ j) && decide (j ≤ 1000000) && decide (i.natAbs < 2 ^ 64)) fun i j => .int (i ^ j.toNat)
theorem ej_pow (ha : EJ X .B a fa) (hb : EJ X .B b fb) : EJ X .T (.BinOp a .Pow b pos) (fBin dPow fa fb) := ej_op op_pow (op2_I (fun i j h => by
  simp only [Bool.and_eq_true, decide_eq_true_eq] at h
  exact ⟨h.1.1, h.1.2, h.2⟩) fun i j G => ⟨.int _, rfl⟩) ha hb
def dShl : D → D → Option D := dI (fun i j => decide (0 ≤ j) && decide (j ≤ 1000000) && decide (i.natAbs < 2 ^ 64)) fun i j => .int (i * 2 ^ j.toNat)
theorem ej_shl (ha : EJ X .B a fa) (hb : EJ X .B b fb) : EJ X .T (.BinOp a .LShift b pos) (fBin dShl fa fb) := ej_op op_shl (op2_I (fun i j h => by
  simp only [Bool.and_eq_true, decide_eq_true_eq] at h
  exact ⟨h.1.1, h.1.2, h.2⟩) fun i j G => ⟨.int _, rfl⟩) ha hb
def dShr : D → D → Option D := dI (fun _ j => decide (0 ≤ j)) fun i j => .int (i / 2 ^ j.toNat)
theorem ej_shr (ha : EJ X .B a fa) (hb : EJ X .B b fb) : EJ X .T (.BinOp a .RShift b pos) (fBin dShr fa fb) := ej_op op_shr (op2_I (fun i j h => of_decide_eq_true h) fun i j G => ⟨.int _, rfl⟩) ha hb
def dAnd : D → D → Option D := dI (fun _ _ => true) fun i j => .int (Builtin.bitAnd i j)
theorem ej_and (ha : EJ X .B a fa) (hb : EJ X .B b fb) : EJ X .T (.BinOp a .BitAnd b pos) (fBin dAnd fa fb) := ej_op op_and (op2_I0 fun i j G => ⟨.int _, rfl⟩) ha hb
def dOr : D → D → Option D := dI (fun _ _ => true) fun i j => .int (Builtin.bitOr i j)
theorem ej_or (ha : EJ X .B a fa) (hb : EJ X .B b fb) : EJ X .T (.BinOp a .BitOr b pos) (fBin dOr fa fb) := ej_op op_or (op2_I0 fun i j G => ⟨.int _, rfl⟩) ha hb
def dXor : D → D → Option D := dI (fun _ _ => true) fun i j => .int (Builtin.bitXor i j)
theorem ej_xor (ha : EJ X .B a fa) (hb : EJ X .B b fb) : EJ X .T (.BinOp a .BitXor b pos) (fBin dXor fa fb) := ej_op op_xor (op2_I0 fun i j G => ⟨.int _, rfl⟩) ha hb
/-- one-place -/
def fUn (g : D → Option D) (f : En → Option D) : En → Option D := fun ρ => match f ρ with
  | some x => g x
  | none => none
theorem fUn_some {g : D → Option D} {ρ : En} (h : fUn g f ρ = some d) : ∃ x, f ρ = some x ∧ g x = some d := by
  unfold fUn at h
  split at h
  · exact ⟨_, by assumption, h⟩
  · cases h
def dNeg : D → Option D
  | .int i => some (.int (-i))
  | _ => none
theorem ej_neg (ha : EJ X .B a fa) : EJ X .T (.UnaryOp .USub a pos) (fUn dNeg fa) := PE.imp (pe_un un_neg ha) fun σ H Q ⟨F, ρ, φ, d, en, e, p⟩ => by
  obtain ⟨x, e1, e2⟩ := fUn_some e
  refine ⟨F, ρ, φ, x, en, e1, fun v F1 H1 L g1 m1 _ _ => ?_⟩
  unfold dNeg at e2
  split at e2
  · cases e2
    have r := m1.1
    cases r
    exact ⟨_, rfl, (p.grow g1).T0 g1.base rfl (.int _)⟩
  · cases e2

/-! ### comparisons -/
theorem ej_cmp {op : CmpOp} {r : R2} {g : D → D → Option D} (ho : OpR X (compareOp op) r) (hg : Op2 X.K m r g) (ha : EJ X .B a fa) (hb : EJ X .B b fb) (hm : behindInMarks op b = false) : EJ X m (.Compare a [op] [b] pos) (fBin g fa fb) :=
  PE.imp (pe_cmpR ho ha hb hm) (tJ_op hg)
def bOf : Option D → Option Bool
  | some (.bool b) => some b
  | _ => none
theorem bOf_some {o : Option D} {b : Bool} (h : bOf o = some b) : o = some (.bool b) := by
  unfold bOf at h
  split at h
  · cases h; rfl
  · cases h
theorem cj_cmp {op : CmpOp} {r : R2} {g : D → D → Option D} (ho : OpR X (compareOp op) r) (hg : Op2 X.K .B r g) (ha : EJ X .B a fa) (hb : EJ X .B b fb) (hm : behindInMarks op b = false) : CJ X (.Compare a [op] [b] pos) (fun ρ => bOf (fBin g fa fb ρ)) :=
  PT.imp (pt_cmpR ho ha hb hm) fun σ H Q ⟨F, ρ, φ, d, en, e, p⟩ => tJ_op hg σ H _ ⟨F, ρ, φ, _, en, bOf_some e, fun v F' H' L g m _ _ => by
    have r := m.1
    cases r
    exact ⟨d, rfl, p F' H' g⟩⟩
/-- a value that is a truth, as a test -/
theorem cj_val (h : EJ X .B e f) (he : ∀ whole, isTrue e X.env whole = (do let v ← whole; standAt e.pos; holding [v] (truthy v)) := by intro _; rfl) : CJ X e (fun ρ => bOf (f ρ)) :=
  PT.imp (pt_val h he) fun σ H Q ⟨F, ρ, φ, d, en, e, p⟩ => ⟨F, ρ, φ, _, en, bOf_some e, fun v F' H' L g m _ _ => by
    have r := m.1
    cases r
    exact ⟨d, rfl, p F' H' g⟩⟩
theorem Op2.br {r : R2} {g : D → D → Option D} (h : Op2 K m r g) : Op2 K .B r g := fun F H x y dx dy dz Q b rx ry e p => h F H x y dx dy dz Q b rx ry e fun v F' H' L g mm n fr => p v F' H' [] g ⟨mm.toR g.fh, rfl⟩ List.nodup_nil fun _ h => nomatch h
def dCmp (g : Int → Int → Bool) : D → D → Option D := dI (fun _ _ => true) fun i j => .bool (g i j)
def dLt : D → D → Option D := dCmp fun i j => decide (i < j)
def dLe : D → D → Option D := dCmp fun i j => decide (i ≤ j)
def dGt : D → D → Option D := dCmp fun i j => decide (j < i)
def dGe : D → D → Option D := dCmp fun i j => decide (j ≤ i)
theorem ej_lt (ha : EJ X .B a fa) (hb : EJ X .B b fb) : EJ X .T (.Compare a [.Lt] [b] pos) (fBin dLt fa fb) := ej_cmp op_lt (op2_I0 fun i j G => ⟨.bl _, rfl⟩) ha hb (nomark _)
theorem ej_le (ha : EJ X .B a fa) (hb : EJ X .B b fb) : EJ X .T (.Compare a [.LtE] [b] pos) (fBin dLe fa fb) := ej_cmp op_le (op2_I0 fun i j G => ⟨.bl _, rfl⟩) ha hb (nomark _)
theorem ej_gt (ha : EJ X .B a fa) (hb : EJ X .B b fb) : EJ X .T (.Compare a [.Gt] [b] pos) (fBin dGt fa fb) := ej_cmp op_gt (op2_I0 fun i j G => ⟨.bl _, rfl⟩) ha hb (nomark _)
theorem ej_ge (ha : EJ X .B a fa) (hb : EJ X .B b fb) : EJ X .T (.Compare a [.GtE] [b] pos) (fBin dGe fa fb) := ej_cmp op_ge (op2_I0 fun i j G => ⟨.bl _, rfl⟩) ha hb (nomark _)
theorem cj_lt (ha : EJ X .B a fa) (hb : EJ X .B b fb) : CJ X (.Compare a [.Lt] [b] pos) (fun ρ => bOf (fBin dLt fa fb ρ)) := cj_cmp op_lt (Op2.br (op2_I0 fun i j G => ⟨.bl _, rfl⟩)) ha hb (nomark _)
theorem cj_le (ha : EJ X .B a fa) (hb : EJ X .B b fb) : CJ X (.Compare a [.LtE] [b] pos) (fun ρ => bOf (fBin dLe fa fb ρ)) := cj_cmp op_le (Op2.br (op2_I0 fun i j G => ⟨.bl _, rfl⟩)) ha hb (nomark _)
theorem cj_gt (ha : EJ X .B a fa) (hb : EJ X .B b fb) : CJ X (.Compare a [.Gt] [b] pos) (fun ρ => bOf (fBin dGt fa fb ρ)) := cj_cmp op_gt (Op2.br (op2_I0 fun i j G => ⟨.bl _, rfl⟩)) ha hb (nomark _)
theorem cj_ge (ha : EJ X .B a fa) (hb : EJ X .B b fb) : CJ X (.Compare a [.GtE] [b] pos) (fun ρ => bOf (fBin dGe fa fb ρ)) := cj_cmp op_ge (Op2.br (op2_I0 fun i j G => ⟨.bl _, rfl⟩)) ha hb (nomark _)
mutual
theorem R.dp {G : Hp} : ∀ {v : V} {d : D}, R K G v d → d.canLay0 = true → Dp K G v d
  | _, _, .non, _ => .non
  | _, _, .bl b, _ => .bl b
  | _, _, .int i, _ => .int i
  | _, _, .str x, _ => .str x
  | _, _, .lst h r, e => .lst h (Rs.dp r (by simpa [PyData.canLay0] using e))
  | _, _, .tup h r, e => .tup (SqT.of h) (Rs.dp r (by simpa [PyData.canLay0] using e))
  | _, _, .dic _ _, e => by simp [PyData.canLay0] at e
  | _, _, .dit _ _, e => by simp [PyData.canLay0] at e
theorem Rs.dp {G : Hp} : ∀ {v : List V} {d : List D}, Rs K G v d → PyData.canLayAll0 d = true → DpAll K G v d
  | _, _, .nil, _ => .nil
  | _, _, .cons h r, e => by
    rw [PyData.canLayAll0, Bool.and_eq_true] at e
    exact .cons (R.dp h e.1) (Rs.dp r e.2)
end
def dEqB : D → D → Option Bool
  | .int i, .int j => some (decide (i = j))
  | .str i, .str j => some (decide (i = j))
  | x, y => if SeqAt.shaped x && SeqAt.shaped y then some (PyData.eqv x y) else none
def dEq (x y : D) : Option D := (dEqB x y).map .bool
def dNe (x y : D) : Option D := (dEqB x y).map fun b => .bool !b
def rEqA (K : PySem.W.Frag) : R2 := fun x y H Q => rEq x y H Q ∨ rEqD K x y H Q
def rNeA (K : PySem.W.Frag) : R2 := fun x y H Q => rNe x y H Q ∨ rNeD K x y H Q
theorem dEqB_ways {x y : D} {b : Bool} (h : dEqB x y = some b) : (∃ i j : Int, x = .int i ∧ y = .int j ∧ b = decide (i = j)) ∨ (∃ i j : Str, x = .str i ∧ y = .str j ∧ b = decide (i = j)) ∨ (SeqAt.shaped x = true ∧ SeqAt.shaped y = true ∧ b = PyData.eqv x y) := by
  unfold dEqB at h
  split at h
  · cases h; exact .inl ⟨_, _, rfl, rfl, rfl⟩
  · cases h; exact .inr (.inl ⟨_, _, rfl, rfl, rfl⟩)
  · split at h
    · rename_i q
      rw [Bool.and_eq_true] at q
      cases h; exact .inr (.inr ⟨q.1, q.2, rfl⟩)
    · cases h
theorem op2_eq : Op2 K .T (rEqA K) dEq := fun F H x y dx dy dz Q b rx ry e p => by
  unfold dEq at e
  cases q : dEqB dx dy with
  | none => rw [q] at e; cases e
  | some k =>
    rw [q] at e
    have e' : dz = .bool k := by cases e; rfl
    subst e'
    have fin : Q (.bl k) H := p.T0 b rfl (.bl _)
    rcases dEqB_ways q with ⟨i, j, rfl, rfl, rfl⟩ | ⟨i, j, rfl, rfl, rfl⟩ | ⟨s1, s2, rfl⟩
    · cases rx; cases ry
      exact .inl ⟨rfl, by simpa using fin⟩
    · cases rx; cases ry
      exact .inl ⟨rfl, by simpa using fin⟩
    · exact .inr ⟨dx, dy, rx.dp (SeqAt.canLay_of_shaped s1), ry.dp (SeqAt.canLay_of_shaped s2), s1, s2, fin⟩
theorem op2_ne : Op2 K .T (rNeA K) dNe := fun F H x y dx dy dz Q b rx ry e p => by
  unfold dNe at e
  cases q : dEqB dx dy with
  | none => rw [q] at e; cases e
  | some k =>
    rw [q] at e
    have e' : dz = .bool !k := by cases e; rfl
    subst e'
    have fin : Q (.bl !k) H := p.T0 b rfl (.bl _)
    rcases dEqB_ways q with ⟨i, j, rfl, rfl, rfl⟩ | ⟨i, j, rfl, rfl, rfl⟩ | ⟨s1, s2, rfl⟩
    · cases rx; cases ry
      exact .inl ⟨rfl, by simpa using fin⟩
    · cases rx; cases ry
      exact .inl ⟨rfl, by simpa using fin⟩
    · exact .inr ⟨dx, dy, rx.dp (SeqAt.canLay_of_shaped s1), ry.dp (SeqAt.canLay_of_shaped s2), s1, s2, fin⟩
theorem ej_eq (hu : X.A.units + 64 < cLine) (ha : EJ X .B a fa) (hb : EJ X .B b fb) : EJ X .T (.Compare a [.Eq] [b] pos) (fBin dEq fa fb) := ej_cmp (OpR.or op_eq (op_eqD hu)) op2_eq ha hb (nomark _)
theorem ej_ne (hu : X.A.units + 64 < cLine) (ha : EJ X .B a fa) (hb : EJ X .B b fb) : EJ X .T (.Compare a [.NotEq] [b] pos) (fBin dNe fa fb) := ej_cmp (OpR.or op_ne (op_neD hu)) op2_ne ha hb (nomark _)
theorem cj_eq (hu : X.A.units + 64 < cLine) (ha : EJ X .B a fa) (hb : EJ X .B b fb) : CJ X (.Compare a [.Eq] [b] pos) (fun ρ => bOf (fBin dEq fa fb ρ)) := cj_cmp (OpR.or op_eq (op_eqD hu)) op2_eq.br ha hb (nomark _)
theorem cj_ne (hu : X.A.units + 64 < cLine) (ha : EJ X .B a fa) (hb : EJ X .B b fb) : CJ X (.Compare a [.NotEq] [b] pos) (fun ρ => bOf (fBin dNe fa fb ρ)) := cj_cmp (OpR.or op_ne (op_neD hu)) op2_ne.br ha hb (nomark _)
/-- is None -/
def isNon : D → Bool
  | .none => true
  | _ => false
theorem R.isNon {G : Hp} (r : R K G v d) : decide (v = .non) = DI.isNon d := by
  cases r <;> rfl
def dIsN : D → D → Option D
  | x, .none => some (.bool (isNon x))
  | _, _ => none
def dNotN : D → D → Option D
  | x, .none => some (.bool !(isNon x))
  | _, _ => none
def rIsNon : R2 := fun x y H Q => y = .non ∧ Q (.bl (decide (x = .non))) H
def rNotNon : R2 := fun x y H Q => y = .non ∧ Q (.bl (!decide (x = .non))) H
theorem op2_isN : Op2 K .T rIsNon dIsN := fun F H x y dx dy dz Q b rx ry e p => by
  unfold dIsN at e
  split at e
  · cases e; cases ry
    exact ⟨rfl, by rw [rx.isNon]; exact p.T0 b rfl (.bl _)⟩
  · cases e
theorem op2_notN : Op2 K .T rNotNon dNotN := fun F H x y dx dy dz Q b rx ry e p => by
  unfold dNotN at e
  split at e
  · cases e; cases ry
    exact ⟨rfl, by rw [rx.isNon]; exact p.T0 b rfl (.bl _)⟩
  · cases e
theorem ej_isN (ha : EJ X .B a fa) (hb : EJ X .B b fb) : EJ X .T (.Compare a [.Is] [b] pos) (fBin dIsN fa fb) := ej_cmp (r := rIsNon) op_isN op2_isN ha hb (nomark _)
theorem ej_notN (ha : EJ X .B a fa) (hb : EJ X .B b fb) : EJ X .T (.Compare a [.IsNot] [b] pos) (fBin dNotN fa fb) := ej_cmp (r := rNotNon) op_notN op2_notN ha hb (nomark _)
theorem cj_isN (ha : EJ X .B a fa) (hb : EJ X .B b fb) : CJ X (.Compare a [.Is] [b] pos) (fun ρ => bOf (fBin dIsN fa fb ρ)) := cj_cmp (r := rIsNon) op_isN op2_isN.br ha hb (nomark _)
theorem cj_notN (ha : EJ X .B a fa) (hb : EJ X .B b fb) : CJ X (.Compare a [.IsNot] [b] pos) (fun ρ => bOf (fBin dNotN fa fb ρ)) := cj_cmp (r := rNotNon) op_notN op2_notN.br ha hb (nomark _)

/-! ### and, or, not, a if t else b -/
def cAnd (p q : En → Option Bool) : En → Option Bool := fun ρ => match p ρ with
  | some true => q ρ
  | some false => some false
  | none => none
def cOr (p q : En → Option Bool) : En → Option Bool := fun ρ => match p ρ with
  | some true => some true
  | some false => q ρ
  | none => none
def cNot (p : En → Option Bool) : En → Option Bool := fun ρ => match p ρ with
  | some k => some !k
  | none => none
theorem tAnd_of {p q : En → Option Bool} : ∀ σ H Q, tTJ K (cAnd p q) σ H Q → tAnd (tTJ K p) (tTJ K q) σ H Q := fun σ H Q ⟨F, ρ, φ, d, en, e, k⟩ => by
  unfold cAnd at e
  split at e
  · refine ⟨F, ρ, φ, true, en, by assumption, fun F1 H1 g1 => ?_⟩
    refine iteT ?_
    exact ⟨F1, ρ, φ, d, en.grow g1, e, fun F2 H2 g2 => k F2 H2 (g1.trans g2)⟩
  · cases e
    refine ⟨F, ρ, φ, false, en, by assumption, fun F1 H1 g1 => ?_⟩
    refine iteF ?_
    exact k F1 H1 g1
  · cases e
theorem tOr_of {p q : En → Option Bool} : ∀ σ H Q, tTJ K (cOr p q) σ H Q → tOr (tTJ K p) (tTJ K q) σ H Q := fun σ H Q ⟨F, ρ, φ, d, en, e, k⟩ => by
  unfold cOr at e
  split at e
  · cases e
    refine ⟨F, ρ, φ, true, en, by assumption, fun F1 H1 g1 => ?_⟩
    refine iteT ?_
    exact k F1 H1 g1
  · refine ⟨F, ρ, φ, false, en, by assumption, fun F1 H1 g1 => ?_⟩
    refine iteF ?_
    exact ⟨F1, ρ, φ, d, en.grow g1, e, fun F2 H2 g2 => k F2 H2 (g1.trans g2)⟩
  · cases e
theorem cw_and1 {p : En → Option Bool} (h : CJ X a p) : CJW X (.BoolOp .And [a] pos) p := pw_and1 h
theorem cw_or1 {p : En → Option Bool} (h : CJ X a p) : CJW X (.BoolOp .Or [a] pos) p := pw_or1 h
theorem cw_and {p q : En → Option Bool} {rest : List Expr} (h : CJ X a p) (k : CJW X (.BoolOp .And (b :: rest) pos) q) : CJW X (.BoolOp .And (a :: b :: rest) pos) (cAnd p q) := PW.imp (pw_and h k) tAnd_of
theorem cw_or {p q : En → Option Bool} {rest : List Expr} (h : CJ X a p) (k : CJW X (.BoolOp .Or (b :: rest) pos) q) : CJW X (.BoolOp .Or (a :: b :: rest) pos) (cOr p q) := PW.imp (pw_or h k) tOr_of
theorem CJW.cj {p : En → Option Bool} (h : CJW X a p) : CJ X a p := PW.pt h
theorem cj_not {p : En → Option Bool} (h : CJ X a p) : CJ X (.UnaryOp .Not a pos) (cNot p) := PT.imp (pt_not h) fun σ H Q ⟨F, ρ, φ, d, en, e, k⟩ => by
  unfold cNot at e
  split at e
  · cases e
    exact ⟨F, ρ, φ, _, en, by assumption, fun F1 H1 g1 => k F1 H1 g1⟩
  · cases e
/-- as values -/
def fB (p : En → Option Bool) : En → Option D := fun ρ => (p ρ).map .bool
theorem fB_some {p : En → Option Bool} {ρ : En} (h : fB p ρ = some d) : ∃ k, p ρ = some k ∧ d = .bool k := by
  unfold fB at h
  cases q : p ρ with
  | none => rw [q] at h; cases h
  | some k => rw [q] at h; cases h; exact ⟨k, rfl, rfl⟩
theorem ej_one {op} (h : EJ X m a f) : EJ X m (.BoolOp op [a] pos) f := pe_one h
theorem bOf_fB {p : En → Option Bool} {ρ : En} : bOf (fB p ρ) = p ρ := by
  unfold fB
  cases p ρ <;> rfl
theorem ej_andV {q : En → Option Bool} {rest : List Expr} (h : EJ X .B a fa) (k : EJ X .T (.BoolOp .And (b :: rest) pos) (fB q)) : EJ X .T (.BoolOp .And (a :: b :: rest) pos) (fB (cAnd (fun ρ => bOf (fa ρ)) q)) := PE.imp (pe_and h k) fun σ H Q ⟨F, ρ, φ, d, en, e, p⟩ => by
  obtain ⟨z, e1, rfl⟩ := fB_some e
  unfold cAnd at e1
  split at e1
  · refine ⟨F, ρ, φ, _, en, bOf_some (by assumption), fun v F1 H1 L g1 m1 _ _ => ?_⟩
    have r := m1.1
    cases r
    refine ⟨true, rfl, ?_⟩
    refine iteT ?_
    exact ⟨F1, ρ, φ, .bool z, en.grow g1, by unfold fB; rw [e1]; rfl, p.grow g1⟩
  · cases e1
    refine ⟨F, ρ, φ, _, en, bOf_some (by assumption), fun v F1 H1 L g1 m1 _ _ => ?_⟩
    have r := m1.1
    cases r
    refine ⟨false, rfl, ?_⟩
    refine iteF ?_
    exact (p.grow g1).T0 g1.base rfl (.bl _)
  · cases e1
theorem ej_orV {q : En → Option Bool} {rest : List Expr} (h : EJ X .B a fa) (k : EJ X .T (.BoolOp .Or (b :: rest) pos) (fB q)) : EJ X .T (.BoolOp .Or (a :: b :: rest) pos) (fB (cOr (fun ρ => bOf (fa ρ)) q)) := PE.imp (pe_or h k) fun σ H Q ⟨F, ρ, φ, d, en, e, p⟩ => by
  obtain ⟨z, e1, rfl⟩ := fB_some e
  unfold cOr at e1
  split at e1
  · cases e1
    refine ⟨F, ρ, φ, _, en, bOf_some (by assumption), fun v F1 H1 L g1 m1 _ _ => ?_⟩
    have r := m1.1
    cases r
    refine ⟨true, rfl, ?_⟩
    refine iteT ?_
    exact (p.grow g1).T0 g1.base rfl (.bl _)
  · refine ⟨F, ρ, φ, _, en, bOf_some (by assumption), fun v F1 H1 L g1 m1 _ _ => ?_⟩
    have r := m1.1
    cases r
    refine ⟨false, rfl, ?_⟩
    refine iteF ?_
    exact ⟨F1, ρ, φ, .bool z, en.grow g1, by unfold fB; rw [e1]; rfl, p.grow g1⟩
  · cases e1
theorem ej_oneV {op} (h : EJ X .T a f) : EJ X .T (.BoolOp op [a] pos) (fB fun ρ => bOf (f ρ)) := PE.imp (pe_one h) fun σ H Q ⟨F, ρ, φ, d, en, e, p⟩ => by
  obtain ⟨z, e1, rfl⟩ := fB_some e
  exact ⟨F, ρ, φ, _, en, bOf_some e1, p⟩
theorem ej_notV (h : EJ X .B a fa) : EJ X .T (.UnaryOp .Not a pos) (fB (cNot fun ρ => bOf (fa ρ))) := PE.imp (pe_not h) fun σ H Q ⟨F, ρ, φ, d, en, e, p⟩ => by
  obtain ⟨z, e1, rfl⟩ := fB_some e
  unfold cNot at e1
  split at e1
  · cases e1
    refine ⟨F, ρ, φ, _, en, bOf_some (by assumption), fun v F1 H1 L g1 m1 _ _ => ?_⟩
    have r := m1.1
    cases r
    exact ⟨_, rfl, (p.grow g1).T0 g1.base rfl (.bl _)⟩
  · cases e1
def fIf (c : En → Option Bool) (f g : En → Option D) : En → Option D := fun ρ => match c ρ with
  | some true => f ρ
  | some false => g ρ
  | none => none
theorem ej_if {p : En → Option Bool} (h : CJ X c p) (ha : EJ X m a fa) (hb : EJ X m b fb) : EJ X m (.IfExp c a b pos) (fIf p fa fb) := PE.imp (pe_ifExp h ha hb) fun σ H Q ⟨F, ρ, φ, d, en, e, k⟩ => by
  unfold fIf at e
  split at e
  · refine ⟨F, ρ, φ, true, en, by assumption, fun F1 H1 g1 => ?_⟩
    refine iteT ?_
    exact ⟨F1, ρ, φ, d, en.grow g1, e, k.grow g1⟩
  · refine ⟨F, ρ, φ, false, en, by assumption, fun F1 H1 g1 => ?_⟩
    refine iteF ?_
    exact ⟨F1, ρ, φ, d, en.grow g1, e, k.grow g1⟩
  · cases e
end
end DI

set_option Elab.async false
set_option linter.all false
set_option maxRecDepth 100000
/-! DI, part C: subscripts, membership, displays, calls of built-ins. -/
namespace DI
open PySem PySem.Spec PyProof.Rows L2

/-! ### keys and dicts -/
def isK : D → Bool
  | .int _ => true
  | .str _ => true
  | _ => false
def isKs : D → Bool
  | .tuple ks => ks.all isK
  | _ => false
/-- a dict with tuples as keys bears a mark -/
def isT : List (D × D) → Bool
  | (.none, _) :: _ => true
  | _ => false
def okKey (kvs : List (D × D)) (k : D) : Bool := if isT kvs then isKs k else isK k
def dLook (kvs : List (D × D)) (k : D) : Option D := (kvs.find? fun p => PyData.eqv p.1 k).map (·.2)
def dPut (kvs : List (D × D)) (k v : D) : List (D × D) :=
  if (kvs.any fun p => PyData.eqv p.1 k) = true then kvs.map (fun p => if PyData.eqv p.1 k = true then (p.1, v) else p) else kvs ++ [(k, v)]
theorem eqv_key (a b : Key) : PyData.eqv (keyD a) (keyD b) = decide (a = b) := by
  cases a <;> cases b <;> simp [keyD, PyData.eqv] <;> rfl
theorem eqvAll_keys : ∀ (a b : List Key), PyData.eqvAll (a.map keyD) (b.map keyD) = decide (a = b)
  | [], [] => rfl
  | [], _ :: _ => rfl
  | _ :: _, [] => rfl
  | x :: xs, y :: ys => by
    simp only [List.map_cons, PyData.eqvAll, eqv_key, eqvAll_keys xs ys]
    by_cases h1 : x = y <;> by_cases h2 : xs = ys <;> simp [h1, h2]
theorem eqv_keys (a b : List Key) : PyData.eqv (.tuple (a.map keyD)) (.tuple (b.map keyD)) = decide (a = b) := by
  simp only [PyData.eqv]; exact eqvAll_keys a b
theorem isK_of {d : D} (h : isK d = true) : ∃ k, d = keyD k := by
  cases d <;> first | (cases h; done) | skip
  · exact ⟨.inl _, rfl⟩
  · exact ⟨.inr _, rfl⟩
theorem isKs_of {ds : List D} (h : ds.all isK = true) : ∃ ks : List Key, ds = ks.map keyD := by
  induction ds with
  | nil => exact ⟨[], rfl⟩
  | cons d r ih =>
    rw [List.all_cons, Bool.and_eq_true] at h
    obtain ⟨k, rfl⟩ := isK_of h.1
    obtain ⟨ks, rfl⟩ := ih h.2
    exact ⟨k :: ks, rfl⟩

section
variable {K : PySem.W.Frag} {F F' F'' G H H' H'' : Hp} {d : D} {v : V}
theorem R.key {k : Key} (r : R K G v (keyD k)) : v = kV k := by
  cases k <;> (cases r; rfl)
theorem Rs.keys : ∀ {ks : List Key} {vs : List V}, Rs K G vs (ks.map keyD) → vs = ks.map kV
  | [], _, .nil => rfl
  | k :: ks, _, .cons h r => by rw [R.key h, Rs.keys r]; rfl
theorem R.tkey {ks : List Key} (r : R K G v (.tuple (ks.map keyD))) : ∃ b, v = .ref b ∧ G b = some (.tup (ks.map kV)) := by
  cases r with
  | tup h r => exact ⟨_, rfl, by rw [h, r.keys]⟩
theorem Rk.look (k : Key) : ∀ {kvs : List (Key × V)} {ds : List (D × D)}, Rk K G kvs ds → (∀ d, dLook ds (keyD k) = some d → ∃ v, valV kvs k = some v ∧ R K G v d) ∧ (dLook ds (keyD k) = none → valV kvs k = none)
  | _, _, .nil => ⟨fun _ h => by simp [dLook] at h, fun _ => rfl⟩
  | _, _, .cons (k := k') h r => by
    obtain ⟨i1, i2⟩ := Rk.look k r
    unfold dLook at i1 i2 ⊢
    rw [List.find?_cons]
    simp only [eqv_key]
    by_cases e : k' = k
    · rw [decide_eq_true e]
      refine ⟨fun d hd => ?_, fun hd => by simp at hd⟩
      have hd' := Option.some.inj hd
      dsimp only at hd'
      subst hd'
      exact ⟨_, valV_pos e, h⟩
    · rw [decide_eq_false e]
      refine ⟨fun d hd => ?_, fun hd => ?_⟩
      · obtain ⟨v, h1, h2⟩ := i1 d hd
        exact ⟨v, (valV_neg e).trans h1, h2⟩
      · exact (valV_neg e).trans (i2 hd)
theorem Rt.look (k : List Key) : ∀ {kvs : List (List Key × V)} {ds : List (D × D)}, Rt K G kvs ds → (∀ d, dLook ds (.tuple (k.map keyD)) = some d → ∃ v, valV kvs k = some v ∧ R K G v d) ∧ (dLook ds (.tuple (k.map keyD)) = none → valV kvs k = none)
  | _, _, .nil => ⟨fun _ h => by simp [dLook] at h, fun _ => rfl⟩
  | _, _, .cons (k := k') h r => by
    obtain ⟨i1, i2⟩ := Rt.look k r
    unfold dLook at i1 i2 ⊢
    rw [List.find?_cons]
    simp only [eqv_keys]
    by_cases e : k' = k
    · rw [decide_eq_true e]
      refine ⟨fun d hd => ?_, fun hd => by simp at hd⟩
      have hd' := Option.some.inj hd
      dsimp only at hd'
      subst hd'
      exact ⟨_, valV_pos e, h⟩
    · rw [decide_eq_false e]
      refine ⟨fun d hd => ?_, fun hd => ?_⟩
      · obtain ⟨v, h1, h2⟩ := i1 d hd
        exact ⟨v, (valV_neg e).trans h1, h2⟩
      · exact (valV_neg e).trans (i2 hd)
theorem isT_Rk {kvs : List (Key × V)} {ds : List (D × D)} (r : Rk K G kvs ds) : isT ds = false := by
  cases r with
  | nil => rfl
  | cons _ _ => rename_i k _ _ _ _ _ _; cases k <;> rfl
theorem look_mark {ds : List (D × D)} {k : D} (h : isKs k = true) : dLook ((.none, .none) :: ds) k = dLook ds k := by
  unfold dLook
  rw [List.find?_cons]
  cases k <;> first | (cases h; done) | rfl
/-- a look into a dict that is read at a, by a key that fits -/
theorem R.dget {Gv : Hp} {y : V} {k : D} {kvs : List (D × D)} (hk : okKey kvs k = true) (ry : R K H y k)
    (r : (∃ a kv, v = .ref a ∧ Rd H a (.dK kv) ∧ Rk K Gv kv kvs) ∨ ∃ a kv ds, v = .ref a ∧ Rd H a (.dT kv) ∧ kvs = (.none, .none) :: ds ∧ Rt K Gv kv ds) :
    ∃ a o, v = .ref a ∧ DGet H a y o ∧ (∀ d, dLook kvs k = some d → ∃ u, o = some u ∧ R K Gv u d) ∧ (dLook kvs k = none → o = none) := by
  rcases r with ⟨a, kv, rfl, ha, r⟩ | ⟨a, kv, ds, rfl, ha, rfl, r⟩
  · unfold okKey at hk
    rw [isT_Rk r] at hk
    obtain ⟨k', rfl⟩ := isK_of hk
    cases ry.key
    obtain ⟨h1, h2⟩ := r.look k'
    exact ⟨a, _, rfl, .inl ⟨_, k', ha, rfl, rfl⟩, h1, h2⟩
  · have hk' : isKs k = true := hk
    rw [look_mark hk']
    cases k <;> first | (cases hk'; done) | skip
    rename_i ks
    obtain ⟨ks', rfl⟩ := isKs_of hk'
    obtain ⟨b, rfl, hb⟩ := ry.tkey
    obtain ⟨h1, h2⟩ := r.look ks'
    exact ⟨a, _, rfl, .inr ⟨_, ks', b, ha, rfl, hb, rfl⟩, h1, h2⟩
theorem R.dways {kvs : List (D × D)} (r : R K H v (.dict kvs)) : (∃ a kv, v = .ref a ∧ Rd H a (.dK kv) ∧ Rk K H kv kvs) ∨ ∃ a kv ds, v = .ref a ∧ Rd H a (.dT kv) ∧ kvs = (.none, .none) :: ds ∧ Rt K H kv ds := by
  cases r with
  | dic h r => exact .inl ⟨_, _, rfl, h, r⟩
  | dit h r => exact .inr ⟨_, _, _, rfl, h, rfl, r⟩
theorem RC.lways {ds : List D} (b : Same F H) (r : RC K F H v (.list ds)) : ∃ a vs, v = .ref a ∧ SqL K H a vs ∧ Rs K F vs ds := by
  cases r with
  | lst h r => exact ⟨_, _, rfl, h, r⟩
  | frz r =>
    cases r with
    | lst h r => exact ⟨_, _, rfl, sq_l b h, r⟩
theorem RC.dways {kvs : List (D × D)} (b : Same F H) (r : RC K F H v (.dict kvs)) : (∃ a kv, v = .ref a ∧ Rd H a (.dK kv) ∧ Rk K F kv kvs) ∨ ∃ a kv ds, v = .ref a ∧ Rd H a (.dT kv) ∧ kvs = (.none, .none) :: ds ∧ Rt K F kv ds := by
  cases r with
  | dic h r => exact .inl ⟨_, _, rfl, h, r⟩
  | dit h r => exact .inr ⟨_, _, _, rfl, h, rfl, r⟩
  | frz r =>
    cases r with
    | dic h r => exact .inl ⟨_, _, rfl, rd_m b h, r⟩
    | dit h r => exact .inr ⟨_, _, _, rfl, rd_m b h, rfl, r⟩
end

section
variable {X : Cx} {K : PySem.W.Frag} {F F' F'' H H' H'' : Hp} {d : D} {Q : VK} {v : V} {m : Md} {e a b c : Expr} {es : List Expr} {f g fa fb fc : En → Option D} {pos : Pos}

/-! ### subscripts -/
def rIxD : R2 := fun x y H Q => ∃ a v, x = .ref a ∧ DGet H a y (some v) ∧ Q v H
theorem ix_dict (hu : X.A.units + 1 < cLine) : IxR X rIxD := by
  intro value slice pins s σ H x y v u Q I rx ry h hs
  obtain ⟨a, w, rfl, g, q⟩ := h
  obtain rfl : v = Value.ref a := rx
  exact tail_any (dict_typeIs I g) PySem.F.slot_dict_getitem.lookup (d_getItem hu I g ry fun w' s' I' rw' => ⟨w, H, I', rw', q⟩) hs
def rIxA (K : PySem.W.Frag) : R2 := fun x y H Q => rIx K x y H Q ∨ rIxD x y H Q
def dIx : D → D → Option D
  | .list xs, .int i => atI xs i
  | .tuple xs, .int i => atI xs i
  | .str z, .int i => if z.length ≤ 1000000 then (atI z.cps.toList i).map fun c => .str ⟨#[c]⟩ else none
  | .dict kvs, k => if okKey kvs k = true then dLook kvs k else none
  | _, _ => none
theorem Rs.atI {G : Hp} {vs : List V} {ds : List D} {i : Int} (r : Rs K G vs ds) (h : L2.atI ds i = some d) : ∃ u, L2.atI vs i = some u ∧ R K G u d := by
  unfold L2.atI at h ⊢
  rw [r.length]
  cases q : ixN ds.length i with
  | none => rw [q] at h; cases h
  | some j =>
    rw [q] at h
    exact r.get h
theorem scal1M {n : Nat} (h : n ≤ 1000000) : n ≤ sizeLine := Nat.le_trans h (by rw [sizeLine_eq]; decide)
theorem op2_ix : Op2 K .B (rIxA K) dIx := fun F H x y dx dy dz Q b rx ry e p => by
  unfold dIx at e
  split at e
  · cases ry
    cases rx with
    | lst h r =>
      obtain ⟨u, hu, ru⟩ := r.atI e
      exact .inl (.inl ⟨_, _, _, u, rfl, rfl, h, hu, p.B0 b ru⟩)
  · cases ry
    cases rx with
    | tup h r =>
      obtain ⟨u, hu, ru⟩ := r.atI e
      exact .inl (.inr (.inl ⟨_, _, _, u, rfl, rfl, SqT.of h, hu, p.B0 b ru⟩))
  · split at e
    · cases ry; cases rx
      rename_i hl
      obtain ⟨c, hc, e2⟩ := Option.map_eq_some_iff.mp e
      subst e2
      exact .inl (.inr (.inr ⟨_, _, c, rfl, rfl, scal1M hl, hc, p.B0 b (.str _)⟩))
    · cases e
  · split at e
    · rename_i hk
      obtain ⟨a, o, rfl, hg, h1, h2⟩ := R.dget hk ry rx.dways
      obtain ⟨u, rfl, ru⟩ := h1 _ e
      exact .inr ⟨a, u, rfl, hg, p.B0 b ru⟩
    · cases e
  · cases e
theorem ej_ix (hu : X.A.units + 64 < cLine) (ha : EJ X .B a fa) (hb : EJ X .B b fb) (hs : PlainIx b) : EJ X .B (.Subscript a b pos) (fBin dIx fa fb) :=
  PE.imp (pe_ix (IxR.or ix_seq (ix_dict (by omega))) ha hb hs) (tJ_op op2_ix)
/-- what it holds is frozen -/
theorem ej_ixF (hu : X.A.units + 64 < cLine) (ha : EJ X .c a fa) (hb : EJ X .B b fb) (hs : PlainIx b) : EJ X .F (.Subscript a b pos) (fBin dIx fa fb) :=
  PE.imp (pe_ix (IxR.or ix_seq (ix_dict (by omega))) ha hb hs) fun σ H Q ⟨F, ρ, φ, d, en, e, p⟩ => by
    obtain ⟨dx, dy, e1, e2, e⟩ := fBin_some e
    refine ⟨F, ρ, φ, dx, en, e1, fun x F1 H1 L g1 m1 _ _ => ?_⟩
    refine ⟨F1, ρ, φ, dy, en.grow g1, e2, fun y F2 H2 L g2 m2 _ _ => ?_⟩
    have rx : RC X.K F2 H2 x dx := m1.1.grow g2
    have ry : R X.K H2 y dy := m2.1
    have p := p.grow (g1.trans g2)
    have b := g2.base
    clear m1 m2
    unfold dIx at e
    split at e
    · cases ry
      obtain ⟨a, vs, rfl, h, r⟩ := rx.lways b.fh
      obtain ⟨u, hu, ru⟩ := r.atI e
      exact .inl (.inl ⟨_, _, _, u, rfl, rfl, h, hu, p.F0 b ru⟩)
    · cases ry
      cases rx with
      | frz r =>
        cases r with
        | tup h r =>
          obtain ⟨u, hu, ru⟩ := r.atI e
          exact .inl (.inr (.inl ⟨_, _, _, u, rfl, rfl, SqT.of (b.fh _ _ h), hu, p.F0 b ru⟩))
    · split at e
      · cases ry
        cases rx with
        | frz r =>
          cases r
          rename_i hl
          obtain ⟨c, hc, e2⟩ := Option.map_eq_some_iff.mp e
          subst e2
          exact .inl (.inr (.inr ⟨_, _, c, rfl, rfl, scal1M hl, hc, p.F0 b (.str _)⟩))
      · cases e
    · split at e
      · rename_i hk
        obtain ⟨a, o, rfl, hg, h1, h2⟩ := R.dget hk ry (rx.dways b.fh)
        obtain ⟨u, rfl, ru⟩ := h1 _ e
        exact .inr ⟨a, u, rfl, hg, p.F0 b ru⟩
      · cases e
    · cases e

/-! ### in, not in -/
def scD : D → Bool
  | .none => true
  | .bool _ => true
  | .int _ => true
  | .str _ => true
  | _ => false
theorem R.sc {G : Hp} (r : R K G v d) (h : scD d = true) : flatV v = true := by
  cases r <;> first | rfl | (cases h; done)
theorem R.eqSc {G G' : Hp} {u : V} {e : D} (r : R K G v d) (r' : R K G' u e) (h : scD d = true) (h' : scD e = true) : eqV v u = PyData.eqv d e := by
  cases r <;> first | (cases h; done) | skip
  all_goals (cases r' <;> first | (cases h'; done) | rfl)
theorem Rs.sc {G : Hp} : ∀ {vs : List V} {ds : List D}, Rs K G vs ds → ds.all scD = true → vs.all flatV = true
  | _, _, .nil, _ => rfl
  | _, _, .cons h r, e => by
    rw [List.all_cons, Bool.and_eq_true] at e ⊢
    exact ⟨h.sc e.1, Rs.sc r e.2⟩
theorem Rs.inSc {G G' : Hp} {u : V} {x : D} (hx : R K G' u x) (h : scD x = true) : ∀ {vs : List V} {ds : List D}, Rs K G vs ds → ds.all scD = true → inV u vs = ds.any fun y => PyData.eqv y x
  | _, _, .nil, _ => rfl
  | _, _, .cons h1 r, e => by
    rw [List.all_cons, Bool.and_eq_true] at e
    have ih := Rs.inSc hx h r e.2
    unfold inV at ih ⊢
    rw [List.any_cons, List.any_cons, ih, R.eqSc h1 hx e.1 h]
def dInB : D → D → Option Bool
  | x, .dict kvs => if okKey kvs x = true then some (dLook kvs x).isSome else none
  | x, .list ys => if scD x && ys.all scD then some (ys.any fun y => PyData.eqv y x) else if SeqAt.shaped x && SeqAt.shaped (.list ys) then some (ys.any fun y => PyData.eqv y x) else none
  | x, .tuple ys => if scD x && ys.all scD then some (ys.any fun y => PyData.eqv y x) else none
  | .str x, .str y => some (!(Builtin.Str.occurrences y x 0 y.length 1).isEmpty)
  | _, _ => none
def dIn (x y : D) : Option D := (dInB x y).map .bool
def dNotIn (x y : D) : Option D := (dInB x y).map fun b => .bool !b
def rInDict : R2 := fun x y H Q => ∃ a o, y = .ref a ∧ DGet H a x o ∧ Q (.bl o.isSome) H
def rNotInDict : R2 := fun x y H Q => ∃ a o, y = .ref a ∧ DGet H a x o ∧ Q (.bl (!o.isSome)) H
theorem op_inDict (hu : X.A.units + 1 < cLine) : OpR X (compareOp .In) rInDict := by
  intro pins s σ H x y v u Q I rx ry h
  obtain ⟨a, o, rfl, g, q⟩ := h
  obtain rfl : u = Value.ref a := ry
  exact d_in hu I g rx fun s3 I3 => ⟨.bl o.isSome, H, I3, rfl, q⟩
theorem op_notInDict (hu : X.A.units + 1 < cLine) : OpR X (compareOp .NotIn) rNotInDict := by
  intro pins s σ H x y v u Q I rx ry h
  obtain ⟨a, o, rfl, g, q⟩ := h
  obtain rfl : u = Value.ref a := ry
  exact d_notIn hu I g rx fun s3 I3 => ⟨.bl (!o.isSome), H, I3, rfl, q⟩
def rInStr : R2 := fun x y H Q => ∃ i j, x = .str i ∧ y = .str j ∧ Q (.bl (!(Builtin.Str.occurrences j i 0 j.length 1).isEmpty)) H
def rNotInStr : R2 := fun x y H Q => ∃ i j, x = .str i ∧ y = .str j ∧ Q (.bl (!(!(Builtin.Str.occurrences j i 0 j.length 1).isEmpty))) H
def rInA (K : PySem.W.Frag) : R2 := fun x y H Q => rInDict x y H Q ∨ rIn K false x y H Q ∨ rInD K x y H Q ∨ rInStr x y H Q
def rNotInA (K : PySem.W.Frag) : R2 := fun x y H Q => rNotInDict x y H Q ∨ rIn K true x y H Q ∨ rNotInD K x y H Q ∨ rNotInStr x y H Q
theorem op_inA (hu : X.A.units + 65 < cLine) : OpR X (compareOp .In) (rInA X.K) := OpR.or (op_inDict (by omega)) (OpR.or op_in_seq (OpR.or (op_inD hu) op_in_str))
theorem op_notInA (hu : X.A.units + 65 < cLine) : OpR X (compareOp .NotIn) (rNotInA X.K) := OpR.or (op_notInDict (by omega)) (OpR.or op_notIn_seq (OpR.or (op_notInD hu) op_notIn_str))
/-- one walk for both -/
theorem in_walk {x y : V} {dx dy : D} {k : Bool} (e : dInB dx dy = some k) (rx : R K H x dx) (ry : R K H y dy) :
    (∃ a o, y = .ref a ∧ DGet H a x o ∧ k = o.isSome) ∨ (∃ p xs, y = .ref p ∧ (SqL K H p xs ∨ SqT K H p xs) ∧ flatV x = true ∧ xs.all flatV = true ∧ k = inV x xs) ∨
    (∃ d ds, Dp K H x d ∧ Dp K H y (.list ds) ∧ SeqAt.shaped d = true ∧ SeqAt.shaped (.list ds) = true ∧ k = ds.any fun z => PyData.eqv z d) ∨
    (∃ i j, x = .str i ∧ y = .str j ∧ k = !(Builtin.Str.occurrences j i 0 j.length 1).isEmpty) := by
  unfold dInB at e
  split at e
  · split at e
    · rename_i hk
      obtain ⟨a, o, rfl, hg, h1, h2⟩ := R.dget hk rx ry.dways
      refine .inl ⟨a, o, rfl, hg, ?_⟩
      cases e
      cases q : dLook _ _ with
      | none => rw [h2 q]; rfl
      | some d => obtain ⟨u, rfl, _⟩ := h1 d q; rfl
    · cases e
  · split at e
    · rename_i hc
      rw [Bool.and_eq_true] at hc
      cases e
      cases ry with
      | lst h r => exact .inr (.inl ⟨_, _, rfl, .inl h, rx.sc hc.1, r.sc hc.2, (r.inSc rx hc.1 hc.2).symm⟩)
    · split at e
      · rename_i hc
        rw [Bool.and_eq_true] at hc
        cases e
        exact .inr (.inr (.inl ⟨_, _, rx.dp (SeqAt.canLay_of_shaped hc.1), ry.dp (SeqAt.canLay_of_shaped hc.2), hc.1, hc.2, rfl⟩))
      · cases e
  · split at e
    · rename_i hc
      rw [Bool.and_eq_true] at hc
      cases e
      cases ry with
      | tup h r => exact .inr (.inl ⟨_, _, rfl, .inr (SqT.of h), rx.sc hc.1, r.sc hc.2, (r.inSc rx hc.1 hc.2).symm⟩)
    · cases e
  · cases e
    cases rx; cases ry
    exact .inr (.inr (.inr ⟨_, _, rfl, rfl, rfl⟩))
  · cases e
theorem op2_in : Op2 K .T (rInA K) dIn := fun F H x y dx dy dz Q b rx ry e p => by
  unfold dIn at e
  obtain ⟨k, ek, rfl⟩ := Option.map_eq_some_iff.mp e
  have fin : Q (.bl k) H := p.T0 b rfl (.bl _)
  rcases in_walk ek rx ry with ⟨a, o, rfl, hg, rfl⟩ | ⟨l, xs, rfl, h, h1, h2, rfl⟩ | ⟨d, ds, h1, h2, h3, h4, rfl⟩ | ⟨i, j, rfl, rfl, rfl⟩
  · exact .inl ⟨a, o, rfl, hg, fin⟩
  · exact .inr (.inl ⟨l, xs, rfl, h, h1, h2, by rw [if_neg (by decide)]; exact fin⟩)
  · exact .inr (.inr (.inl ⟨d, ds, h1, h2, h3, h4, fin⟩))
  · exact .inr (.inr (.inr ⟨i, j, rfl, rfl, fin⟩))
theorem op2_notIn : Op2 K .T (rNotInA K) dNotIn := fun F H x y dx dy dz Q b rx ry e p => by
  unfold dNotIn at e
  obtain ⟨k, ek, rfl⟩ := Option.map_eq_some_iff.mp e
  have fin : Q (.bl !k) H := p.T0 b rfl (.bl _)
  rcases in_walk ek rx ry with ⟨a, o, rfl, hg, rfl⟩ | ⟨l, xs, rfl, h, h1, h2, rfl⟩ | ⟨d, ds, h1, h2, h3, h4, rfl⟩ | ⟨i, j, rfl, rfl, rfl⟩
  · exact .inl ⟨a, o, rfl, hg, fin⟩
  · exact .inr (.inl ⟨l, xs, rfl, h, h1, h2, by rw [if_pos rfl]; exact fin⟩)
  · exact .inr (.inr (.inl ⟨d, ds, h1, h2, h3, h4, fin⟩))
  · exact .inr (.inr (.inr ⟨i, j, rfl, rfl, fin⟩))
theorem ej_in (hu : X.A.units + 65 < cLine) (ha : EJ X .B a fa) (hb : EJ X .B b fb) (hm : behindInMarks .In b = false) : EJ X .T (.Compare a [.In] [b] pos) (fBin dIn fa fb) := ej_cmp (op_inA hu) op2_in ha hb hm
theorem ej_notIn (hu : X.A.units + 65 < cLine) (ha : EJ X .B a fa) (hb : EJ X .B b fb) (hm : behindInMarks .NotIn b = false) : EJ X .T (.Compare a [.NotIn] [b] pos) (fBin dNotIn fa fb) := ej_cmp (op_notInA hu) op2_notIn ha hb hm
theorem cj_in (hu : X.A.units + 65 < cLine) (ha : EJ X .B a fa) (hb : EJ X .B b fb) (hm : behindInMarks .In b = false) : CJ X (.Compare a [.In] [b] pos) (fun ρ => bOf (fBin dIn fa fb ρ)) := cj_cmp (op_inA hu) op2_in.br ha hb hm
theorem cj_notIn (hu : X.A.units + 65 < cLine) (ha : EJ X .B a fa) (hb : EJ X .B b fb) (hm : behindInMarks .NotIn b = false) : CJ X (.Compare a [.NotIn] [b] pos) (fun ρ => bOf (fBin dNotIn fa fb ρ)) := cj_cmp (op_notInA hu) op2_notIn.br ha hb hm

/-! ### argument lists, displays -/
def aNil : En → Option (List D) := fun _ => some []
def aCons (f : En → Option D) (fs : En → Option (List D)) : En → Option (List D) := fun ρ => match f ρ, fs ρ with
  | some d, some ds => some (d :: ds)
  | _, _ => none
theorem aCons_some {fs : En → Option (List D)} {ρ : En} {ds : List D} (h : aCons f fs ρ = some ds) : ∃ d r, f ρ = some d ∧ fs ρ = some r ∧ ds = d :: r := by
  unfold aCons at h
  split at h
  · cases h; exact ⟨_, _, by assumption, by assumption, rfl⟩
  · cases h
def Md.ar : Md → Bool
  | .B => true
  | .F => true
  | .T => true
  | _ => false
theorem Ms.grow {vs : List V} {ds : List D} {L : List Addr} (g : Grow F H F' H') (h : Ms K m F H vs ds L) : Ms K m F' H' vs ds L := by
  cases m with
  | B => exact ⟨h.1.mono g.hh, h.2⟩
  | c => exact h
  | F => exact ⟨h.1.mono g.ff, h.2⟩
  | o => exact h
  | T => exact OTs.grow g h
theorem Ms.nil (hm : m.ar = true := by rfl) : Ms K m F H [] [] [] := by
  cases m <;> first | (cases hm; done) | skip
  · exact ⟨.nil, rfl⟩
  · exact ⟨.nil, rfl⟩
  · exact OTs.nil
theorem Ms.cons {vs : List V} {ds : List D} {L L' : List Addr} (h : M K m F H v d L) (r : Ms K m F H vs ds L') : Ms K m F H (v :: vs) (d :: ds) (L ++ L') := by
  cases m with
  | B => exact ⟨.cons h.1 r.1, by rw [h.2, r.2]; rfl⟩
  | c => exact r
  | F => exact ⟨.cons h.1 r.1, by rw [h.2, r.2]; rfl⟩
  | o => exact r
  | T => exact OTs.cons h r
theorem Ms.own {vs : List V} {ds : List D} {L : List Addr} (h : Ms K m F H vs ds L) : Own F H L := by
  cases m with
  | B => rw [h.2]; exact .nil
  | c => exact h.elim
  | F => rw [h.2]; exact .nil
  | o => exact h.elim
  | T => exact OTs.own h
theorem aj_nil (hm : m.ar = true := by rfl) : AJ X m [] aNil := PA.imp pa_nil fun σ H Q ⟨F, ρ, φ, ds, en, e, p⟩ => by
  cases e
  exact p [] F H [] en.base.refl (.nil hm) List.nodup_nil fun _ h => nomatch h
theorem nodup_new {L L' : List Addr} (ow : Own F H L) (n : L.Nodup) (n' : L'.Nodup) (fr : ∀ a ∈ L', H a = none) : (L ++ L').Nodup := by
  refine List.nodup_append.mpr ⟨n, n', fun a ha b hb e => ?_⟩
  subst e
  obtain ⟨_, o, h, _⟩ := ow a ha
  rw [fr a hb] at h
  cases h
theorem aj_cons {fs : En → Option (List D)} (h : EJ X m e f) (hr : AJ X m es fs) (hs : starEach (e :: es) X.env = (false, eval e X.env) :: starEach es X.env := by rfl) : AJ X m (e :: es) (aCons f fs) :=
  PA.imp (pa_cons h hr hs) fun σ H Q ⟨F, ρ, φ, ds, en, e, p⟩ => by
    obtain ⟨d, r, e1, e2, rfl⟩ := aCons_some e
    refine ⟨F, ρ, φ, d, en, e1, fun v F1 H1 L1 g1 m1 n1 f1 => ?_⟩
    refine ⟨F1, ρ, φ, r, en.grow g1, e2, fun vs F2 H2 L2 g2 m2 n2 f2 => ?_⟩
    have m1' := m1.grow g2
    refine p (v :: vs) F2 H2 (L1 ++ L2) (g1.trans g2) (.cons m1' m2) (nodup_new m1.own n1 n2 f2) fun a ha => ?_
    rcases List.mem_append.mp ha with ha | ha
    · exact f1 a ha
    · exact g1.hh.free (f2 a ha)
theorem Ms.length {vs : List V} {ds : List D} {L : List Addr} (h : Ms K m F H vs ds L) : vs.length = ds.length := by
  cases m with
  | B => exact h.1.length
  | c => exact h.elim
  | F => exact h.1.length
  | o => exact h.elim
  | T =>
    have h' : OTs K F H vs ds L := h
    clear h
    induction vs generalizing ds L with
    | nil => cases h'; rfl
    | cons v vs ih => cases h' with | cons a b => rw [List.length_cons, List.length_cons, ih b]
def fLst (fs : En → Option (List D)) : En → Option D := fun ρ => match fs ρ with
  | some ds => if ds.length ≤ 1000000 then some (.list ds) else none
  | none => none
def fTup (fs : En → Option (List D)) : En → Option D := fun ρ => match fs ρ with
  | some ds => if ds.length ≤ 1000000 then some (.tuple ds) else none
  | none => none
theorem fLst_some {fs : En → Option (List D)} {ρ : En} (h : fLst fs ρ = some d) : ∃ ds, fs ρ = some ds ∧ ds.length ≤ 1000000 ∧ d = .list ds := by
  unfold fLst at h
  split at h
  · split at h
    · cases h; exact ⟨_, by assumption, by assumption, rfl⟩
    · cases h
  · cases h
theorem fTup_some {fs : En → Option (List D)} {ρ : En} (h : fTup fs ρ = some d) : ∃ ds, fs ρ = some ds ∧ ds.length ≤ 1000000 ∧ d = .tuple ds := by
  unfold fTup at h
  split at h
  · split at h
    · cases h; exact ⟨_, by assumption, by assumption, rfl⟩
    · cases h
  · cases h
/-- a new list of these is own -/
theorem Post.newLst {p : Addr} {vs : List V} {ds : List D} {L : List Addr} (hd : Post K .T F H (.list ds) Q) (g : Grow F H F' H') (h : OTs K F' H' vs ds L) (n : L.Nodup) (fr : ∀ a ∈ L, H a = none) (hp : H' p = none) : Q (.ref p) (upd H' p (.lst vs)) := by
  have g2 := Grow.own (o := .lst vs) g.base hp rfl
  have ow := OTs.own h
  have hpL : p ∉ L := fun hh => by obtain ⟨_, o, h, _⟩ := ow p hh; rw [hp] at h; cases h
  refine hd (.ref p) F' _ (p :: L) (g.trans g2) (OT.lst (Same.free g.fh hp) upd_same (OTs.grow g2 h)) (List.nodup_cons.mpr ⟨hpL, n⟩) fun a ha => ?_
  rcases List.mem_cons.mp ha with rfl | ha
  · exact g.hh.free hp
  · exact fr a ha
theorem Post.newLst1 {p : Addr} {vs : List V} {ds : List D} (hd : Post K .o F H (.list ds) Q) (g : Grow F H F' H') (h : Rs K F' vs ds) (hp : H' p = none) : Q (.ref p) (upd H' p (.lst vs)) := by
  have g2 := Grow.own (o := .lst vs) g.base hp rfl
  refine hd (.ref p) F' _ [p] (g.trans g2) (O1.lst (Same.free g.fh hp) upd_same h) (List.nodup_cons.mpr ⟨by simp, List.nodup_nil⟩) fun a ha => ?_
  rw [List.mem_singleton] at ha
  subst ha
  exact g.hh.free hp
theorem Post.newLstB {p : Addr} {vs : List V} {ds : List D} (hd : Post K .B F H (.list ds) Q) (g : Grow F H F' H') (h : Rs K H' vs ds) (hp : H' p = none) : Q (.ref p) (upd H' p (.lst vs)) := by
  have g2 := Grow.own (o := .lst vs) g.base hp rfl
  exact hd (.ref p) F' _ [] (g.trans g2) ⟨.lst (SqL.of upd_same) (h.mono g2.hh), rfl⟩ List.nodup_nil fun _ h => nomatch h
theorem ej_lst {fs : En → Option (List D)} (h : AJ X .T es fs) : EJ X .T (.List es pos) (fLst fs) := PE.imp (pe_lst h) fun σ H Q ⟨F, ρ, φ, d, en, e, k⟩ => by
  obtain ⟨ds, e1, hl, rfl⟩ := fLst_some e
  refine ⟨F, ρ, φ, ds, en, e1, fun vs F1 H1 L g1 m1 n1 f1 => ⟨?_, fun p hp => k.newLst g1 m1 n1 f1 hp⟩⟩
  rw [Ms.length m1]; exact scal1M hl
theorem ej_lst1 {fs : En → Option (List D)} (h : AJ X .F es fs) : EJ X .o (.List es pos) (fLst fs) := PE.imp (pe_lst h) fun σ H Q ⟨F, ρ, φ, d, en, e, k⟩ => by
  obtain ⟨ds, e1, hl, rfl⟩ := fLst_some e
  refine ⟨F, ρ, φ, ds, en, e1, fun vs F1 H1 L g1 m1 n1 f1 => ⟨?_, fun p hp => k.newLst1 g1 m1.1 hp⟩⟩
  rw [Ms.length m1]; exact scal1M hl
theorem ej_lstB {fs : En → Option (List D)} (h : AJ X .B es fs) : EJ X .B (.List es pos) (fLst fs) := PE.imp (pe_lst h) fun σ H Q ⟨F, ρ, φ, d, en, e, k⟩ => by
  obtain ⟨ds, e1, hl, rfl⟩ := fLst_some e
  refine ⟨F, ρ, φ, ds, en, e1, fun vs F1 H1 L g1 m1 n1 f1 => ⟨?_, fun p hp => k.newLstB g1 m1.1 hp⟩⟩
  rw [Ms.length m1]; exact scal1M hl
theorem Post.newTup {p : Addr} {vs : List V} {ds : List D} {L : List Addr} (hm : m.ar = true) (hd : Post K m F H (.tuple ds) Q) (g : Grow F H F' H') (h : Ms K m F' H' vs ds L) (n : L.Nodup) (fr : ∀ a ∈ L, H a = none) (hp : H' p = none) : Q (.ref p) (upd H' p (.tup vs)) := by
  have g2 := Grow.new (o := .tup vs) g.base hp
  have h2 := h.grow g2
  refine hd (.ref p) _ _ L (g.trans g2) ?_ n fr
  cases m with
  | B => exact ⟨.tup upd_same h2.1, h2.2⟩
  | c => exact h.elim
  | F => exact ⟨.tup upd_same h2.1, h2.2⟩
  | o => exact h.elim
  | T => exact OT.tup upd_same h2
theorem ej_tup {fs : En → Option (List D)} {x1} (h : AJ X m es fs) (hm : m.ar = true := by rfl) : EJ X m (.Tuple es x1 pos) (fTup fs) := PE.imp (pe_tup h) fun σ H Q ⟨F, ρ, φ, d, en, e, k⟩ => by
  obtain ⟨ds, e1, hl, rfl⟩ := fTup_some e
  refine ⟨F, ρ, φ, ds, en, e1, fun vs F1 H1 L g1 m1 n1 f1 => ⟨?_, fun p hp => k.newTup hm g1 m1 n1 f1 hp⟩⟩
  rw [Ms.length m1]; exact scal1M hl
end
end DI

set_option Elab.async false
set_option linter.all false
set_option maxRecDepth 100000
/-! DI, part D: moves, statements. -/
namespace DI
open PySem PySem.Spec PyProof.Rows L2

section
variable {K : PySem.W.Frag} {F F' F'' G H H' H'' : Hp} {d : D} {v : V} {m : Md} {ρ : En} {σ σ' : L2.St} {φ φ' φ'' : Nat → List Addr} {L : List Addr} {mv : List Nat}

/-! ### what is told of an own thing leans on its cells alone -/
mutual
theorem OT.keep (ff : Same F F') : ∀ {v : V} {d : D} {L : List Addr}, OT K F H v d L → (∀ a ∈ L, F' a = none ∧ H' a = H a) → OT K F' H' v d L
  | _, _, _, .flat e r, _ => .flat e (r.mono ff)
  | _, _, _, .lst a b c, h => .lst (h _ (by simp)).1 (by rw [(h _ (by simp)).2]; exact b) (OTs.keep ff c fun x hx => h x (by simp [hx]))
  | _, _, _, .tup a c, h => .tup (ff _ _ a) (OTs.keep ff c h)
  | _, _, _, .dic a b c, h => .dic (h _ (by simp)).1 (by rw [(h _ (by simp)).2]; exact b) (OTk.keep ff c fun x hx => h x (by simp [hx]))
  | _, _, _, .dit a b c, h => .dit (h _ (by simp)).1 (by rw [(h _ (by simp)).2]; exact b) (OTt.keep ff c fun x hx => h x (by simp [hx]))
theorem OTs.keep (ff : Same F F') : ∀ {v : List V} {d : List D} {L : List Addr}, OTs K F H v d L → (∀ a ∈ L, F' a = none ∧ H' a = H a) → OTs K F' H' v d L
  | _, _, _, .nil, _ => .nil
  | _, _, _, .cons a b, h => .cons (OT.keep ff a fun x hx => h x (by simp [hx])) (OTs.keep ff b fun x hx => h x (by simp [hx]))
theorem OTk.keep (ff : Same F F') : ∀ {v : List (Key × V)} {d : List (D × D)} {L : List Addr}, OTk K F H v d L → (∀ a ∈ L, F' a = none ∧ H' a = H a) → OTk K F' H' v d L
  | _, _, _, .nil, _ => .nil
  | _, _, _, .cons a b, h => .cons (OT.keep ff a fun x hx => h x (by simp [hx])) (OTk.keep ff b fun x hx => h x (by simp [hx]))
theorem OTt.keep (ff : Same F F') : ∀ {v : List (List Key × V)} {d : List (D × D)} {L : List Addr}, OTt K F H v d L → (∀ a ∈ L, F' a = none ∧ H' a = H a) → OTt K F' H' v d L
  | _, _, _, .nil, _ => .nil
  | _, _, _, .cons a b, h => .cons (OT.keep ff a fun x hx => h x (by simp [hx])) (OTt.keep ff b fun x hx => h x (by simp [hx]))
end
theorem O1.keep (ff : Same F F') : ∀ {v : V} {d : D} {L : List Addr}, O1 K F H v d L → (∀ a ∈ L, F' a = none ∧ H' a = H a) → O1 K F' H' v d L
  | _, _, _, .lst a b c, h => .lst (h _ (by simp)).1 (by rw [(h _ (by simp)).2]; exact b) (c.mono ff)
  | _, _, _, .dic a b c, h => .dic (h _ (by simp)).1 (by rw [(h _ (by simp)).2]; exact b) (c.mono ff)
  | _, _, _, .dit a b c, h => .dit (h _ (by simp)).1 (by rw [(h _ (by simp)).2]; exact b) (c.mono ff)
theorem M.keep (hm : m.st = true) (ff : Same F F') (h : M K m F H v d L) (k : ∀ a ∈ L, F' a = none ∧ H' a = H a) : M K m F' H' v d L := by
  cases m with
  | B => cases hm
  | c => cases hm
  | F => exact ⟨h.1.mono ff, h.2⟩
  | o => exact O1.keep ff h k
  | T => exact OT.keep ff h k

/-! ### a slot is set -/
def putφ (i : Nat) (L : List Addr) (φ : Nat → List Addr) : Nat → List Addr := fun j => if j = i then L else φ j
theorem putφ_same {i : Nat} : putφ i L φ i = L := if_pos rfl
theorem putφ_ne {i j : Nat} (h : j ≠ i) : putφ i L φ j = φ j := if_neg h
theorem EnvR.put {i : Nat} (e : EnvR K F H ρ σ φ) (b : Base F' H') (ff : Same F F') (hk : ∀ j, j ≠ i → ∀ a ∈ φ j, F' a = none ∧ H' a = H a) (hσ : ∀ j, j ≠ i → σ'[j]? = σ[j]?) (hl : σ'.length = σ.length) (hi : i < ρ.length)
    (hv : σ'[i]? = some (some v)) (hm : m.st = true) (hM : M K m F' H' v d L) (n : L.Nodup) (dj : ∀ j, j ≠ i → ∀ a ∈ L, a ∉ φ j) : EnvR K F' H' (ρ.set i (some (m, d))) σ' (putφ i L φ) where
  base := b
  sl := fun j m' d' h => by
    by_cases hj : j = i
    · subst hj
      rw [List.getElem?_set_self hi] at h
      cases h
      exact ⟨hm, v, hv, by rw [putφ_same]; exact hM⟩
    · rw [List.getElem?_set_ne (Ne.symm hj)] at h
      obtain ⟨h0, u, h1, h2⟩ := e.sl j m' d' h
      exact ⟨h0, u, (hσ j hj).trans h1, by rw [putφ_ne hj]; exact h2.keep h0 ff (hk j hj)⟩
  em := fun j h => by
    by_cases hj : j = i
    · subst hj
      exact absurd (List.getElem?_set_self hi) (h m d)
    · rw [putφ_ne hj]
      refine e.em j fun m' d' q => h m' d' ?_
      rw [List.getElem?_set_ne (Ne.symm hj)]
      exact q
  nd := fun j => by
    by_cases hj : j = i
    · subst hj; rw [putφ_same]; exact n
    · rw [putφ_ne hj]; exact e.nd j
  dj := fun j k a hj hk' => by
    by_cases h1 : j = i
    · subst h1
      rw [putφ_same] at hj
      by_cases h2 : k = j
      · exact h2.symm
      · rw [putφ_ne h2] at hk'
        exact absurd hk' (dj k h2 a hj)
    · rw [putφ_ne h1] at hj
      by_cases h2 : k = i
      · subst h2
        rw [putφ_same] at hk'
        exact absurd hj (dj j h1 a hk')
      · rw [putφ_ne h2] at hk'
        exact e.dj j k a hj hk'
  len := by rw [List.length_set, hl]; exact e.len

/-! ### moves -/
def clr : List Nat → En → En
  | [], ρ => ρ
  | i :: r, ρ => clr r (ρ.set i none)
theorem clr_length : ∀ (mv : List Nat) (ρ : En), (clr mv ρ).length = ρ.length
  | [], _ => rfl
  | i :: r, ρ => by rw [clr, clr_length r, List.length_set]
theorem clr_in : ∀ {mv : List Nat} {ρ : En} {i : Nat} {x : Md × D}, (clr mv ρ)[i]? = some (some x) → i ∉ mv ∧ ρ[i]? = some (some x)
  | [], _, _, _, h => ⟨by simp, h⟩
  | j :: r, ρ, i, x, h => by
    obtain ⟨h1, h2⟩ := clr_in (mv := r) h
    by_cases hj : j = i
    · subst hj
      by_cases hl : j < ρ.length
      · rw [List.getElem?_set_self hl] at h2; cases h2
      · rw [List.getElem?_eq_none (by rw [List.length_set]; omega)] at h2; cases h2
    · rw [List.getElem?_set_ne hj] at h2
      exact ⟨by simp only [List.mem_cons, not_or]; exact ⟨fun e => hj e.symm, h1⟩, h2⟩
theorem clr_out : ∀ {mv : List Nat} {ρ : En} {i : Nat}, i ∉ mv → (clr mv ρ)[i]? = ρ[i]?
  | [], _, _, _ => rfl
  | j :: r, ρ, i, h => by
    simp only [List.mem_cons, not_or] at h
    rw [clr, clr_out h.2, List.getElem?_set_ne (fun e => h.1 e.symm)]
def clrφ (mv : List Nat) (φ : Nat → List Addr) : Nat → List Addr := fun j => if j ∈ mv then [] else φ j
theorem clrφ_in {i : Nat} (h : i ∈ mv) : clrφ mv φ i = [] := if_pos h
theorem clrφ_out {i : Nat} (h : i ∉ mv) : clrφ mv φ i = φ i := if_neg h
theorem clrφ_sub {i : Nat} {a : Addr} (h : a ∈ clrφ mv φ i) : i ∉ mv ∧ a ∈ φ i := by
  unfold clrφ at h
  split at h
  · cases h
  · exact ⟨by assumption, h⟩
theorem clrφ_nil : clrφ [] φ = φ := by funext j; exact clrφ_out (by simp)
structure GrowM (F H F' H' : Hp) (φ : Nat → List Addr) (mv : List Nat) : Prop where
  hh : Same H H'
  ff : Same F F'
  fh : Same F' H'
  fr : ∀ a o, F' a = some o → F a = some o ∨ H a = none ∨ ∃ i ∈ mv, a ∈ φ i
  im : ∀ a o, H' a = some o → imm o = true → F' a = some o
theorem Grow.gm (g : Grow F H F' H') : GrowM F H F' H' φ mv := ⟨g.hh, g.ff, g.fh, fun a o e => (g.fr a o e).elim .inl fun h => .inr (.inl h), g.im⟩
theorem GrowM.g (g : GrowM F H F' H' φ []) : Grow F H F' H' where
  hh := g.hh
  ff := g.ff
  fh := g.fh
  fr := fun a o e => by
    rcases g.fr a o e with h | h | ⟨i, h, _⟩
    · exact .inl h
    · exact .inr h
    · cases h
  im := g.im
theorem EnvR.clr (e : EnvR K F H ρ σ φ) (g : GrowM F H F' H' φ mv) : EnvR K F' H' (clr mv ρ) σ (clrφ mv φ) where
  base := ⟨g.fh, g.im⟩
  sl := fun i m d h => by
    obtain ⟨h1, h2⟩ := clr_in h
    obtain ⟨h0, v, h3, h4⟩ := e.sl i m d h2
    refine ⟨h0, v, h3, ?_⟩
    rw [clrφ_out h1]
    refine h4.keep h0 g.ff fun a ha => ?_
    obtain ⟨f0, o, ho, _⟩ := e.own i a ha
    refine ⟨?_, (g.hh a o ho).trans ho.symm⟩
    cases q : F' a with
    | none => rfl
    | some u =>
      rcases g.fr a u q with h | h | ⟨j, hj, h⟩
      · rw [f0] at h; cases h
      · rw [ho] at h; cases h
      · exact absurd (e.dj i j a ha h ▸ hj) h1
  em := fun i h => by
    by_cases hi : i ∈ mv
    · exact clrφ_in hi
    · rw [clrφ_out hi]
      exact e.em i fun m d q => h m d (by rw [clr_out hi]; exact q)
  nd := fun i => by
    by_cases hi : i ∈ mv
    · rw [clrφ_in hi]; exact List.nodup_nil
    · rw [clrφ_out hi]; exact e.nd i
  dj := fun i j a h1 h2 => e.dj i j a (clrφ_sub h1).2 (clrφ_sub h2).2
  len := by rw [clr_length]; exact e.len
theorem GrowM.trans {mv' : List Nat} (g : GrowM F H F' H' φ mv) (k : GrowM F' H' F'' H'' (clrφ mv φ) mv') : GrowM F H F'' H'' φ (mv ++ mv') where
  hh := g.hh.trans k.hh
  ff := g.ff.trans k.ff
  fh := k.fh
  fr := fun a o e => by
    rcases k.fr a o e with h | h | ⟨i, hi, h⟩
    · rcases g.fr a o h with h | h | ⟨i, hi, h⟩
      · exact .inl h
      · exact .inr (.inl h)
      · exact .inr (.inr ⟨i, List.mem_append_left _ hi, h⟩)
    · exact .inr (.inl (g.hh.free h))
    · exact .inr (.inr ⟨i, List.mem_append_right _ hi, (clrφ_sub h).2⟩)
  im := k.im
/-- these cells are new, or come out of moved names -/
def From (H : Hp) (φ : Nat → List Addr) (mv : List Nat) (L : List Addr) : Prop := ∀ a ∈ L, H a = none ∨ ∃ i ∈ mv, a ∈ φ i
def PostM (K : PySem.W.Frag) (m : Md) (F H : Hp) (φ : Nat → List Addr) (mv : List Nat) (d : D) (Q : VK) : Prop :=
  ∀ v F' H' L, GrowM F H F' H' φ mv → M K m F' H' v d L → L.Nodup → From H φ mv L → Q v H'
def tMJ (K : PySem.W.Frag) (m : Md) (f : En → Option D) (mv : List Nat) : TE := fun σ H Q =>
  ∃ F ρ φ d, EnvR K F H ρ σ φ ∧ f ρ = some d ∧ PostM K m F H φ mv d Q
/-- e gives what f says, the names mv are given away -/
def EM (X : Cx) (m : Md) (e : Expr) (f : En → Option D) (mv : List Nat) : Prop := PE X e (tMJ X.K m f mv)
def tMA (K : PySem.W.Frag) (m : Md) (f : En → Option (List D)) (mv : List Nat) : TA := fun σ H Q =>
  ∃ F ρ φ ds, EnvR K F H ρ σ φ ∧ f ρ = some ds ∧ ∀ vs F' H' L, GrowM F H F' H' φ mv → Ms K m F' H' vs ds L → L.Nodup → From H φ mv L → Q vs H'
def AM (X : Cx) (m : Md) (es : List Expr) (f : En → Option (List D)) (mv : List Nat) : Prop := PA X es (tMA X.K m f mv)
end

section
variable {X : Cx} {K : PySem.W.Frag} {F F' F'' H H' H'' : Hp} {d : D} {Q : VK} {v : V} {m : Md} {e a b c : Expr} {es : List Expr} {f g fa fb fc : En → Option D} {pos : Pos} {mv mv' : List Nat}
theorem EJ.em (h : EJ X m e f) : EM X m e f [] := PE.imp h fun σ H Q ⟨F, ρ, φ, d, en, e, p⟩ => ⟨F, ρ, φ, d, en, e, fun v F' H' L g mm n fr => p v F' H' L g.gm mm n fun a ha => .inl (fr a ha)⟩
def fMv (m : Md) (i : Nat) : En → Option D := fun ρ => match ρ.getD i none with
    | some (k, d) => if k = m then some d else none
    | none => none
theorem em_var (m : Md) (i : Nat) {x : Str} (h : PE X (.Name x pos) (tVar i)) (hm : m.st = true := by rfl) : EM X m (.Name x pos) (fMv m i) [i] := PE.imp h fun σ H Q ⟨F, ρ, φ, d, en, e, p⟩ => by
  unfold fMv at e
  split at e
  · split at e
    · rename_i hk
      subst hk
      cases e
      obtain ⟨_, v, h1, h2⟩ := en.sl i _ d (getD_some (by assumption))
      exact ⟨v, h1, p v F H (φ i) (en.base.refl).gm h2 (en.nd i) fun a ha => .inr ⟨i, by simp, ha⟩⟩
    · cases e
  · cases e
theorem EM.frz (h : EM X m e f mv) (hm : m.st = true := by rfl) : EM X .F e f mv := PE.imp h fun σ H Q ⟨F, ρ, φ, d, en, e, p⟩ => ⟨F, ρ, φ, d, en, e, fun v F' H' L g mm n fr =>
  p v (frzOn F' H' L) H' [] ⟨g.hh, g.ff.trans (frzOn_same mm.own), frzOn_le g.fh, fun a o e => by
    by_cases h : a ∈ L
    · exact .inr (fr a h)
    · rw [frzOn_out h] at e; exact g.fr a o e, fun a o e i => by
    by_cases h : a ∈ L
    · rw [frzOn_in h]; exact e
    · rw [frzOn_out h]; exact g.im a o e i⟩ ⟨mm.frz hm, rfl⟩ List.nodup_nil fun _ h => nomatch h⟩
/-- an own top becomes own all through, where what it holds is flat -/
def fChkL (f : En → Option D) : En → Option D := fun ρ => match f ρ with
  | some (.list ds) => if flats ds = true then some (.list ds) else none
  | _ => none
theorem fChkL_some {ρ : En} (h : fChkL f ρ = some d) : ∃ ds, f ρ = some (.list ds) ∧ flats ds = true ∧ d = .list ds := by
  unfold fChkL at h
  split at h
  · split at h
    · cases h; exact ⟨_, by assumption, by assumption, rfl⟩
    · cases h
  · cases h
theorem Rs.ots : ∀ {vs : List V} {ds : List D}, Rs K F vs ds → flats ds = true → OTs K F H vs ds []
  | _, _, .nil, _ => .nil
  | _, _, .cons (d := d) (ds := ds) h r, e => by
    rw [flats, Bool.and_eq_true] at e
    exact OTs.cons (L := []) (L' := []) (.flat e.1 h) (Rs.ots r e.2)
theorem EM.chkL (h : EM X .o e f mv) : EM X .T e (fChkL f) mv := PE.imp h fun σ H Q ⟨F, ρ, φ, d, en, e, p⟩ => by
  obtain ⟨ds, e1, e2, rfl⟩ := fChkL_some e
  refine ⟨F, ρ, φ, _, en, e1, fun v F' H' L g mm n fr => p v F' H' L g ?_ n fr⟩
  cases mm with
  | lst a b c => exact OT.lst a b (c.ots e2)
theorem EJ.chkL (h : EJ X .o e f) : EJ X .T e (fChkL f) := PE.imp h fun σ H Q ⟨F, ρ, φ, d, en, e, p⟩ => by
  obtain ⟨ds, e1, e2, rfl⟩ := fChkL_some e
  refine ⟨F, ρ, φ, _, en, e1, fun v F' H' L g mm n fr => p v F' H' L g ?_ n fr⟩
  cases mm with
  | lst a b c => exact OT.lst a b (c.ots e2)
/-- displays with moved names -/
def aMCons (f : En → Option D) (mv : List Nat) (fs : En → Option (List D)) : En → Option (List D) := fun ρ => match f ρ, fs (clr mv ρ) with
  | some d, some ds => some (d :: ds)
  | _, _ => none
theorem am_nil (hm : m.ar = true := by rfl) : AM X m [] aNil [] := PA.imp pa_nil fun σ H Q ⟨F, ρ, φ, ds, en, e, p⟩ => by
  cases e
  exact p [] F H [] en.base.refl.gm (.nil hm) List.nodup_nil fun _ h => nomatch h
theorem Ms.keep (hm : m.st = true) {vs : List V} {ds : List D} {L : List Addr} (ff : Same F F') (h : Ms K m F H vs ds L) (k : ∀ a ∈ L, F' a = none ∧ H' a = H a) : Ms K m F' H' vs ds L := by
  cases m with
  | B => cases hm
  | c => cases hm
  | F => exact ⟨h.1.mono ff, h.2⟩
  | o => exact h
  | T => exact OTs.keep ff h k
theorem am_cons {fs : En → Option (List D)} (h : EM X m e f mv) (hr : AM X m es fs mv') (hm : m.st = true := by rfl) (hs : starEach (e :: es) X.env = (false, eval e X.env) :: starEach es X.env := by rfl) : AM X m (e :: es) (aMCons f mv fs) (mv ++ mv') :=
  PA.imp (pa_cons h hr hs) fun σ H Q ⟨F, ρ, φ, ds, en, e, p⟩ => by
    unfold aMCons at e
    split at e
    · cases e
      refine ⟨F, ρ, φ, _, en, by assumption, fun v F1 H1 L1 g1 m1 n1 f1 => ?_⟩
      refine ⟨F1, clr mv ρ, clrφ mv φ, _, en.clr g1, by assumption, fun vs F2 H2 L2 g2 m2 n2 f2 => ?_⟩
      have ow1 := m1.own
      -- the cells of the first stay its own
      have k1 : ∀ a ∈ L1, F2 a = none ∧ H2 a = H1 a := fun a ha => by
        obtain ⟨f0, o, ho, _⟩ := ow1 a ha
        refine ⟨?_, (g2.hh a o ho).trans ho.symm⟩
        cases q : F2 a with
        | none => rfl
        | some u =>
          rcases g2.fr a u q with h | h | ⟨j, hj, h⟩
          · rw [f0] at h; cases h
          · rw [ho] at h; cases h
          · obtain ⟨hj', h⟩ := clrφ_sub h
            rcases f1 a ha with q1 | ⟨i, hi, q1⟩
            · obtain ⟨_, o2, ho2, _⟩ := en.own j a h
              rw [q1] at ho2; cases ho2
            · exact absurd (en.dj i j a q1 h ▸ hi) hj'
      refine p (v :: vs) F2 H2 (L1 ++ L2) (g1.trans g2) (.cons (m1.keep hm g2.ff k1) m2) (List.nodup_append.mpr ⟨n1, n2, fun a ha b hb e => ?_⟩) fun a ha => ?_
      · subst e
        obtain ⟨f0, o, ho, _⟩ := ow1 a ha
        rcases f2 a hb with q | ⟨j, hj, q⟩
        · rw [ho] at q; cases q
        · obtain ⟨hj', q⟩ := clrφ_sub q
          rcases f1 a ha with q1 | ⟨i, hi, q1⟩
          · obtain ⟨_, o2, ho2, _⟩ := en.own j a q
            rw [q1] at ho2; cases ho2
          · exact absurd (en.dj i j a q1 q ▸ hi) hj'
      · rcases List.mem_append.mp ha with ha | ha
        · rcases f1 a ha with q | ⟨i, hi, q⟩
          · exact .inl q
          · exact .inr ⟨i, List.mem_append_left _ hi, q⟩
        · rcases f2 a ha with q | ⟨i, hi, q⟩
          · exact .inl (g1.hh.free q)
          · exact .inr ⟨i, List.mem_append_right _ hi, (clrφ_sub q).2⟩
    · cases e
theorem em_tup {fs : En → Option (List D)} {x1} (h : AM X m es fs mv) (hm : m.ar = true := by rfl) : EM X m (.Tuple es x1 pos) (fTup fs) mv := PE.imp (pe_tup h) fun σ H Q ⟨F, ρ, φ, d, en, e, k⟩ => by
  obtain ⟨ds, e1, hl, rfl⟩ := fTup_some e
  refine ⟨F, ρ, φ, ds, en, e1, fun vs F1 H1 L g1 m1 n1 f1 => ⟨?_, fun p hp => ?_⟩⟩
  · rw [Ms.length m1]; exact scal1M hl
  · have g2 := Grow.new (o := .tup vs) ⟨g1.fh, g1.im⟩ hp
    have h2 := m1.grow g2
    refine k (.ref p) _ _ L ⟨g1.hh.trans g2.hh, g1.ff.trans g2.ff, g2.fh, fun a o e => ?_, g2.im⟩ ?_ n1 f1
    · rcases g2.fr a o e with q | q
      · exact g1.fr a o q
      · exact .inr (.inl (g1.hh.free q))
    · cases m with
      | B => exact ⟨.tup upd_same h2.1, h2.2⟩
      | c => exact h2.elim
      | F => exact ⟨.tup upd_same h2.1, h2.2⟩
      | o => exact h2.elim
      | T => exact OT.tup upd_same h2
theorem em_lst {fs : En → Option (List D)} (h : AM X .T es fs mv) : EM X .T (.List es pos) (fLst fs) mv := PE.imp (pe_lst h) fun σ H Q ⟨F, ρ, φ, d, en, e, k⟩ => by
  obtain ⟨ds, e1, hl, rfl⟩ := fLst_some e
  refine ⟨F, ρ, φ, ds, en, e1, fun vs F1 H1 L g1 m1 n1 f1 => ⟨?_, fun p hp => ?_⟩⟩
  · rw [Ms.length m1]; exact scal1M hl
  · have g2 := Grow.own (o := .lst vs) ⟨g1.fh, g1.im⟩ hp rfl
    have ow : Own F1 H1 L := OTs.own m1
    have hpL : p ∉ L := fun hh => by obtain ⟨_, o, h, _⟩ := ow p hh; rw [hp] at h; cases h
    refine k (.ref p) F1 _ (p :: L) ⟨g1.hh.trans g2.hh, g1.ff, g2.fh, g1.fr, g2.im⟩ (OT.lst (Same.free g1.fh hp) upd_same (OTs.grow g2 m1)) (List.nodup_cons.mpr ⟨hpL, n1⟩) fun a ha => ?_
    rcases List.mem_cons.mp ha with rfl | ha
    · exact .inl (g1.hh.free hp)
    · exact f1 a ha
theorem em_if {p : En → Option Bool} (h : CJ X c p) (ha : EM X m a fa mv) (hb : EM X m b fb mv) : EM X m (.IfExp c a b pos) (fIf p fa fb) mv := PE.imp (pe_ifExp h ha hb) fun σ H Q ⟨F, ρ, φ, d, en, e, k⟩ => by
  have aft : ∀ {F1 H1}, Grow F H F1 H1 → PostM X.K m F1 H1 φ mv d Q := fun {F1 H1} g1 v F2 H2 L g2 mm n fr => k v F2 H2 L ⟨g1.hh.trans g2.hh, g1.ff.trans g2.ff, g2.fh, fun a o e => by
    rcases g2.fr a o e with q | q | q
    · rcases g1.fr a o q with q | q
      · exact .inl q
      · exact .inr (.inl q)
    · exact .inr (.inl (g1.hh.free q))
    · exact .inr (.inr q), g2.im⟩ mm n fun a ha => (fr a ha).elim (fun q => .inl (g1.hh.free q)) .inr
  unfold fIf at e
  split at e
  · refine ⟨F, ρ, φ, true, en, by assumption, fun F1 H1 g1 => ?_⟩
    refine iteT ?_
    exact ⟨F1, ρ, φ, d, en.grow g1, e, aft g1⟩
  · refine ⟨F, ρ, φ, false, en, by assumption, fun F1 H1 g1 => ?_⟩
    refine iteF ?_
    exact ⟨F1, ρ, φ, d, en.grow g1, e, aft g1⟩
  · cases e
end

/-! ### statements -/
inductive Out
  | nx (ρ : En) | rt (d : D) (ρ : En) | bk (ρ : En) | ct (ρ : En)
structure Step (F H : Hp) (φ : Nat → List Addr) (F' H' : Hp) (φ' : Nat → List Addr) : Prop where
  hh : ∀ a o, H a = some o → (∀ i, a ∉ φ i) → H' a = some o
  al : ∀ a, H' a = none → H a = none
  ff : Same F F'
  fr : ∀ a o, F' a = some o → F a = some o ∨ H a = none ∨ ∃ i, a ∈ φ i
  ph : ∀ i a, a ∈ φ' i → H a = none ∨ ∃ j, a ∈ φ j
/-- the names pn are not set -/
def Pin (pn : List Nat) (σ σ' : L2.St) : Prop := ∀ i ∈ pn, σ'[i]? = σ[i]?
def Fin (K : PySem.W.Frag) (rm : Md) (pn : List Nat) (F H : Hp) (φ : Nat → List Addr) (σ : L2.St) (D : Ends) : Out → Prop
  | .nx ρ' => ∀ σ' F' H' φ', Step F H φ F' H' φ' → EnvR K F' H' ρ' σ' φ' → Pin pn σ σ' → D.nx σ' H'
  | .bk ρ' => ∀ σ' F' H' φ', Step F H φ F' H' φ' → EnvR K F' H' ρ' σ' φ' → Pin pn σ σ' → D.bk σ' H'
  | .ct ρ' => ∀ σ' F' H' φ', Step F H φ F' H' φ' → EnvR K F' H' ρ' σ' φ' → Pin pn σ σ' → D.ct σ' H'
  | .rt d ρ' => ∀ v σ' F' H' φ' L, Step F H φ F' H' φ' → EnvR K F' H' ρ' σ' φ' → Pin pn σ σ' → M K rm F' H' v d L → L.Nodup → (∀ a ∈ L, H a = none ∨ ∃ j, a ∈ φ j) → (∀ a ∈ L, ∀ i, a ∉ φ' i) → D.rt v H'
def tSJ (K : PySem.W.Frag) (rm : Md) (pn : List Nat) (s : En → Option Out) : TS := fun D σ H =>
  ∃ F ρ φ o, EnvR K F H ρ σ φ ∧ s ρ = some o ∧ Fin K rm pn F H φ σ D o
/-- the statement does what s says; what is returned has mode rm -/
def SJ (X : Cx) (rm : Md) (pn : List Nat) (st : Stmt) (s : En → Option Out) : Prop := PS X st (tSJ X.K rm pn s)
def SSJ (X : Cx) (rm : Md) (pn : List Nat) (st : List Stmt) (s : En → Option Out) : Prop := PSs X st (tSJ X.K rm pn s)
theorem PS.imp {X : Cx} {st : Stmt} {t t' : TS} (h : PS X st t) (i : ∀ D σ H, t' D σ H → t D σ H) : PS X st t' := ⟨fun pins s σ H D I w => h.run pins s σ H D I (i D σ H w)⟩
theorem PSs.imp {X : Cx} {st : List Stmt} {t t' : TS} (h : PSs X st t) (i : ∀ D σ H, t' D σ H → t D σ H) : PSs X st t' := ⟨fun pins s σ H D I w => h.run pins s σ H D I (i D σ H w)⟩

section
variable {X : Cx} {K : PySem.W.Frag} {F F' F'' H H' H'' : Hp} {d : D} {v : V} {m rm : Md} {e a b c tg : Expr} {es : List Expr} {st : Stmt} {body orelse rest : List Stmt} {f g fa fb fc : En → Option D} {s s' t : En → Option Out} {pos pos' : Pos} {mv mv' : List Nat} {pn : List Nat}
  {ρ : En} {σ σ' σ'' : L2.St} {φ φ' φ'' : Nat → List Addr} {D : Ends} {o : Out}
theorem Step.refl (b : Base F H) : Step F H φ F H φ := ⟨fun _ _ e _ => e, fun _ e => e, Same.refl _, fun _ _ e => .inl e, fun i a h => .inr ⟨i, h⟩⟩
theorem Step.trans (g : Step F H φ F' H' φ') (k : Step F' H' φ' F'' H'' φ'') : Step F H φ F'' H'' φ'' where
  hh := fun a o e h => k.hh a o (g.hh a o e h) fun i hi => by
    rcases g.ph i a hi with q | ⟨j, q⟩
    · rw [e] at q; cases q
    · exact h j q
  al := fun a e => g.al a (k.al a e)
  ff := g.ff.trans k.ff
  fr := fun a o e => by
    rcases k.fr a o e with h | h | ⟨i, h⟩
    · exact g.fr a o h
    · exact .inr (.inl (g.al a h))
    · exact .inr (g.ph i a h)
  ph := fun i a h => by
    rcases k.ph i a h with q | ⟨j, q⟩
    · exact .inl (g.al a q)
    · exact g.ph j a q
theorem Pin.refl : Pin pn σ σ := fun _ _ => rfl
theorem Pin.trans (h : Pin pn σ σ') (k : Pin pn σ' σ'') : Pin pn σ σ'' := fun i hi => (k i hi).trans (h i hi)
theorem GrowM.step (g : GrowM F H F' H' φ mv) : Step F H φ F' H' (clrφ mv φ) where
  hh := fun a o e _ => g.hh a o e
  al := fun a e => g.hh.free e
  ff := g.ff
  fr := fun a o e => by
    rcases g.fr a o e with h | h | ⟨i, _, h⟩
    · exact .inl h
    · exact .inr (.inl h)
    · exact .inr (.inr ⟨i, h⟩)
  ph := fun i a h => .inr ⟨i, (clrφ_sub h).2⟩
theorem Grow.step (g : Grow F H F' H') : Step F H φ F' H' φ where
  hh := fun a o e _ => g.hh a o e
  al := fun a e => g.hh.free e
  ff := g.ff
  fr := fun a o e => (g.fr a o e).elim .inl fun h => .inr (.inl h)
  ph := fun i a h => .inr ⟨i, h⟩
theorem Fin.step (h : Fin K rm pn F H φ σ D o) (k : Step F H φ F' H' φ') (p : Pin pn σ σ') : Fin K rm pn F' H' φ' σ' D o := by
  cases o with
  | nx ρ' => exact fun σ2 F2 H2 φ2 g e q => h σ2 F2 H2 φ2 (k.trans g) e (p.trans q)
  | bk ρ' => exact fun σ2 F2 H2 φ2 g e q => h σ2 F2 H2 φ2 (k.trans g) e (p.trans q)
  | ct ρ' => exact fun σ2 F2 H2 φ2 g e q => h σ2 F2 H2 φ2 (k.trans g) e (p.trans q)
  | rt d ρ' => exact fun v σ2 F2 H2 φ2 L g e q mm n fr dj => h v σ2 F2 H2 φ2 L (k.trans g) e (p.trans q) mm n (fun a ha => by
      rcases fr a ha with z | ⟨j, z⟩
      · exact .inl (k.al a z)
      · exact k.ph j a z) dj

/-! blocks -/
def sNil : En → Option Out := fun ρ => some (.nx ρ)
def sSeq (s t : En → Option Out) : En → Option Out := fun ρ => match s ρ with
  | some (.nx ρ') => t ρ'
  | o => o
theorem ssj_nil : SSJ X rm pn [] sNil := PSs.imp pss_nil fun D σ H ⟨F, ρ, φ, o, en, e, k⟩ => by
  cases e
  exact k σ F H φ (Step.refl en.base) en Pin.refl
theorem ssj_cons (h : SJ X rm pn st s) (k : SSJ X rm pn rest t) : SSJ X rm pn (st :: rest) (sSeq s t) := PSs.imp (pss_cons h k) fun D σ H ⟨F, ρ, φ, o, en, e, k⟩ => by
  unfold sSeq at e
  split at e
  · rename_i ρ1 h1
    refine ⟨F, ρ, φ, .nx ρ1, en, h1, ?_⟩
    intro σ' F' H' φ' g en' p
    exact ⟨F', _, φ', o, en', e, k.step g p⟩
  · rename_i hne
    refine ⟨F, ρ, φ, o, en, e, ?_⟩
    cases o with
    | nx ρ' => exact absurd e (hne ρ')
    | bk ρ' => exact k
    | ct ρ' => exact k
    | rt d ρ' => exact k
theorem ssj_one (h : SJ X rm pn st s) : SSJ X rm pn [st] s := pss_one h
def sPass : En → Option Out := fun ρ => some (.nx ρ)
def sBrk : En → Option Out := fun ρ => some (.bk ρ)
def sCnt : En → Option Out := fun ρ => some (.ct ρ)
theorem sj_pass : SJ X rm pn (.Pass pos) sPass := PS.imp ps_pass fun D σ H ⟨F, ρ, φ, o, en, e, k⟩ => by
  cases e; exact k σ F H φ (Step.refl en.base) en Pin.refl
theorem sj_brk : SJ X rm pn (.Break pos) sBrk := PS.imp ps_break fun D σ H ⟨F, ρ, φ, o, en, e, k⟩ => by
  cases e; exact k σ F H φ (Step.refl en.base) en Pin.refl
theorem sj_cnt : SJ X rm pn (.Continue pos) sCnt := PS.imp ps_continue fun D σ H ⟨F, ρ, φ, o, en, e, k⟩ => by
  cases e; exact k σ F H φ (Step.refl en.base) en Pin.refl
def sNo : En → Option Out := fun _ => none
theorem sj_never : SJ X rm pn st sNo := PS.imp ps_never fun D σ H ⟨F, ρ, φ, o, en, e, k⟩ => by cases e
theorem ssj_never {sts : List Stmt} : SSJ X rm pn sts sNo := PSs.imp pss_never fun D σ H ⟨F, ρ, φ, o, en, e, k⟩ => by cases e
def sIf (c : En → Option Bool) (s t : En → Option Out) : En → Option Out := fun ρ => match c ρ with
  | some true => s ρ
  | some false => t ρ
  | none => none
theorem sj_if {p : En → Option Bool} (h : CJ X c p) (hs : SSJ X rm pn body s) (ht : SSJ X rm pn orelse t) : SJ X rm pn (.If c body orelse pos) (sIf p s t) := PS.imp (ps_if h hs ht) fun D σ H ⟨F, ρ, φ, o, en, e, k⟩ => by
  unfold sIf at e
  split at e
  · refine ⟨F, ρ, φ, true, en, by assumption, fun F1 H1 g1 => ?_⟩
    refine iteT ?_
    exact ⟨F1, ρ, φ, o, en.grow g1, e, k.step g1.step Pin.refl⟩
  · refine ⟨F, ρ, φ, false, en, by assumption, fun F1 H1 g1 => ?_⟩
    refine iteF ?_
    exact ⟨F1, ρ, φ, o, en.grow g1, e, k.step g1.step Pin.refl⟩
  · cases e
/-! return -/
def sRet (f : En → Option PyData) (mv : List Nat) : En → Option Out := fun ρ => match f ρ with
  | some d => some (.rt d (clr mv ρ))
  | none => none
theorem sj_ret (h : EM X rm e f mv) : SJ X rm pn (.Return (some e) pos) (sRet f mv) := PS.imp (ps_ret h) fun D σ H ⟨F, ρ, φ, o, en, e, k⟩ => by
  unfold sRet at e
  split at e
  · cases e
    refine ⟨F, ρ, φ, _, en, by assumption, fun v F' H' L g mm n fr => ?_⟩
    refine k v σ F' H' (clrφ mv φ) L g.step (en.clr g) Pin.refl mm n (fun a ha => (fr a ha).elim .inl fun ⟨i, _, q⟩ => .inr ⟨i, q⟩) fun a ha i hi => ?_
    obtain ⟨h1, h2⟩ := clrφ_sub hi
    rcases fr a ha with q | ⟨j, hj, q⟩
    · obtain ⟨_, o, ho, _⟩ := en.own i a h2
      rw [q] at ho; cases ho
    · exact h1 (en.dj i j a h2 q ▸ hj)
  · cases e
def sRetN : En → Option Out := fun ρ => some (.rt .none ρ)
theorem sj_retN (hm : rm = .T ∨ rm = .F) : SJ X rm pn (.Return none pos) sRetN := PS.imp ps_retN fun D σ H ⟨F, ρ, φ, o, en, e, k⟩ => by
  cases e
  refine k .non σ F H φ [] (Step.refl en.base) en Pin.refl ?_ List.nodup_nil (fun _ h => nomatch h) fun _ h => nomatch h
  rcases hm with rfl | rfl
  · exact OT.flat rfl .non
  · exact ⟨.non, rfl⟩
/-! names are set -/
def sAsg (i : Nat) (m : Md) (f : En → Option PyData) (mv : List Nat) : En → Option Out := fun ρ => match f ρ with
  | some d => if i < ρ.length then some (.nx ((clr mv ρ).set i (some (m, d)))) else none
  | none => none
/-- what lies behind a value that was made is disjoint from the names left -/
theorem from_dj {L : List Addr} (en : EnvR K F H ρ σ φ) (fr : From H φ mv L) : ∀ a ∈ L, ∀ i, a ∉ clrφ mv φ i := fun a ha i hi => by
  obtain ⟨h1, h2⟩ := clrφ_sub hi
  rcases fr a ha with q | ⟨j, hj, q⟩
  · obtain ⟨_, o, ho, _⟩ := en.own i a h2
    rw [q] at ho; cases ho
  · exact h1 (en.dj i j a h2 q ▸ hj)
theorem asg_core {i : Nat} {L : List Addr} (en : EnvR K F H ρ σ φ) (g : GrowM F H F' H' φ mv) (mm : M K m F' H' v d L) (n : L.Nodup) (fr : From H φ mv L) (hm : m.st = true) (hi : i < ρ.length) (hp : i ∉ pn)
    (k : Fin K rm pn F H φ σ D (.nx ((clr mv ρ).set i (some (m, d))))) : D.nx (σ.set i (some v)) H' := by
  have en1 := en.clr g
  have en2 : EnvR K F' H' ((clr mv ρ).set i (some (m, d))) (σ.set i (some v)) (putφ i L (clrφ mv φ)) :=
    en1.put (F' := F') (H' := H') en1.base (Same.refl _) (fun j _ a ha => ⟨(en1.own j a ha).1, rfl⟩) (fun j hj => List.getElem?_set_ne (Ne.symm hj)) (List.length_set ..) (by rw [clr_length]; exact hi)
      (List.getElem?_set_self (by rw [← en.len]; exact hi)) hm mm n (fun j _ a ha => from_dj en fr a ha j)
  refine k _ F' H' _ ⟨g.step.hh, g.step.al, g.step.ff, g.step.fr, fun j a hj => ?_⟩ en2 fun j hj => List.getElem?_set_ne (fun z => hp (by rw [z]; exact hj))
  by_cases h : j = i
  · subst h
    rw [putφ_same] at hj
    rcases fr a hj with q | ⟨j', _, q⟩
    · exact .inl q
    · exact .inr ⟨j', q⟩
  · rw [putφ_ne h] at hj
    exact .inr ⟨j, (clrφ_sub hj).2⟩
/-- x = e; the statement's own rule is handed in (ps_set, or ps_setLc for a comprehension) -/
theorem sj_asgP {i : Nat} (h : PS X st (tAsg (tMJ X.K m f mv) (gName i))) (hm : m.st = true := by rfl) (hp : i ∉ pn := by decide) : SJ X rm pn st (sAsg i m f mv) := PS.imp h fun D σ H ⟨F, ρ, φ, o, en, e, k⟩ => by
  unfold sAsg at e
  split at e
  · split at e
    · cases e
      rename_i hi
      exact ⟨F, ρ, φ, _, en, by assumption, fun v F' H' L g mm n fr => asg_core en g mm n fr hm hi hp k⟩
    · cases e
  · cases e
theorem sj_asg {i : Nat} {x : Str} (hN : X.N.Nodup) (hi : X.N[i]? = some x) (hx : Loc X.env.scope x) (he : EM X m e f mv) (hs : swapsWith e (some (.Name x pos')) pos.line X.env = pure false := by rfl)
    (hf : X.fn x = true ∨ X.env.scope.names.lookup x = some .local := by first | exact .inl rfl | exact .inr rfl) (hm : m.st = true := by rfl) (hp : i ∉ pn := by decide) :
    SJ X rm pn (.Assign [.Name x pos'] e pos) (sAsg i m f mv) := sj_asgP (ps_set hN hi hx he hs hf) hm hp
/-- a ghost: the name i is frozen ahead of a statement -/
def fz (i : Nat) (ρ : En) : En := match ρ.getD i none with
  | some (_, d) => ρ.set i (some (.F, d))
  | none => ρ
theorem EnvR.fz {i : Nat} (en : EnvR K F H ρ σ φ) : ∃ F', EnvR K F' H (DI.fz i ρ) σ (putφ i [] φ) ∧ Step F H φ F' H (putφ i [] φ) := by
  unfold DI.fz
  split
  · rename_i m d hg
    have hg' := getD_some hg
    obtain ⟨hm, v, hv, mm⟩ := en.sl i m d hg'
    have ow := en.own i
    have hi : i < ρ.length := (List.getElem?_eq_some_iff.mp hg').1
    have hk : ∀ j, j ≠ i → ∀ a ∈ φ j, frzOn F H (φ i) a = none ∧ H a = H a := fun j hj a ha => by
      have : a ∉ φ i := fun h => hj (en.dj j i a ha h)
      exact ⟨by rw [frzOn_out this]; exact (en.own j a ha).1, rfl⟩
    refine ⟨frzOn F H (φ i), en.put (v := v) (F' := frzOn F H (φ i)) (H' := H) ⟨frzOn_le en.base.fh, fun a o e im => ?_⟩ (frzOn_same ow) hk (fun _ _ => rfl) rfl hi hv rfl ⟨mm.frz hm, rfl⟩ List.nodup_nil (fun _ _ _ h => nomatch h), ?_⟩
    · by_cases h : a ∈ φ i
      · rw [frzOn_in h]; exact e
      · rw [frzOn_out h]; exact en.base.im a o e im
    · refine ⟨fun a o e _ => e, fun a e => e, frzOn_same ow, fun a o e => ?_, fun j a hj => ?_⟩
      · by_cases h : a ∈ φ i
        · exact .inr (.inr ⟨i, h⟩)
        · rw [frzOn_out h] at e; exact .inl e
      · by_cases h : j = i
        · subst h; rw [putφ_same] at hj; cases hj
        · rw [putφ_ne h] at hj; exact .inr ⟨j, hj⟩
  · rename_i hg
    have hn : ∀ m d, ρ[i]? ≠ some (some (m, d)) := fun m d q => by
      rw [List.getD_eq_getElem?_getD, q] at hg
      cases hg
    have e0 : putφ i [] φ = φ := by
      funext j
      by_cases h : j = i
      · subst h; rw [putφ_same, en.em j hn]
      · rw [putφ_ne h]
    rw [e0]
    exact ⟨F, en, Step.refl en.base⟩
def sFz (i : Nat) (s : En → Option Out) : En → Option Out := fun ρ => s (fz i ρ)
theorem sj_fz (i : Nat) (h : SJ X rm pn st s) : SJ X rm pn st (sFz i s) := PS.imp h fun D σ H ⟨F, ρ, φ, o, en, e, k⟩ => by
  obtain ⟨F', en', g⟩ := en.fz (i := i)
  exact ⟨F', _, _, o, en', e, k.step g Pin.refl⟩
/-- e alone -/
def sExp (f : En → Option PyData) (mv : List Nat) : En → Option Out := fun ρ => match f ρ with
  | some _ => some (.nx (clr mv ρ))
  | none => none
theorem sj_exp (h : EM X m e f mv) (hs : swapsWith e none pos.line X.env = pure false := by rfl) : SJ X rm pn (.Expr e pos) (sExp f mv) := PS.imp (ps_expr h hs) fun D σ H ⟨F, ρ, φ, o, en, e, k⟩ => by
  unfold sExp at e
  split at e
  · cases e
    exact ⟨F, ρ, φ, _, en, by assumption, fun v F' H' L g mm n fr => k σ F' H' _ g.step (en.clr g) Pin.refl⟩
  · cases e
/-! a name's list grows -/
def sApp (i : Nat) (m : Md) (f : En → Option PyData) (mv : List Nat) : En → Option Out := fun ρ => match ρ.getD i none, f ρ with
  | some (k, .list xs), some d => if k = m ∧ xs.length < 1000000 then some (.nx ((clr mv ρ).set i (some (m, .list (xs ++ [d]))))) else none
  | _, _ => none
/-- the mode of what is put into a thing of that mode -/
def Md.inn : Md → Md
  | .T => .T
  | _ => .F
theorem OTs.snoc : ∀ {vs : List V} {ds : List PyData} {L L' : List Addr} {v : V} {d : PyData}, OTs K F H vs ds L → OT K F H v d L' → OTs K F H (vs ++ [v]) (ds ++ [d]) (L ++ L')
  | _, _, _, L', _, _, .nil, h => by
    have := OTs.cons h (OTs.nil (K := K) (F := F) (H := H))
    rw [List.append_nil] at this
    exact this
  | _, _, _, L', _, _, .cons a b, h => by
    rw [List.append_assoc]
    exact OTs.cons a (OTs.snoc b h)
theorem mut_core {F1 H1 : Hp} {i : Nat} {p : Addr} {o2 : HO} {d2 : PyData} {L2 : List Addr} (en : EnvR K F H ρ σ φ) (g : GrowM F H F1 H1 φ mv) (hv : i ∉ mv) (hi : i < ρ.length) (hσ : σ[i]? = some (some v)) (hpi : p ∈ φ i) (hm : m.st = true) (io : imm o2 = false)
    (mm : M K m F1 (upd H1 p o2) v d2 L2) (n : L2.Nodup) (sub : ∀ a ∈ L2, a ∈ φ i ∨ H a = none ∨ ∃ j ∈ mv, a ∈ φ j) (k : Fin K rm pn F H φ σ D (.nx ((clr mv ρ).set i (some (m, d2))))) : D.nx σ (upd H1 p o2) := by
  have en1 := en.clr g
  have hpi1 : p ∈ clrφ mv φ i := by rw [clrφ_out hv]; exact hpi
  have hF : F1 p = none := (en1.own i p hpi1).1
  have b2 : Base F1 (upd H1 p o2) := ⟨fun a o e => by
    by_cases h : a = p
    · subst h; rw [hF] at e; cases e
    · rw [upd_ne h]; exact g.fh a o e, fun a o e im => by
    by_cases h : a = p
    · subst h; rw [upd_same] at e; cases e; rw [io] at im; cases im
    · rw [upd_ne h] at e; exact g.im a o e im⟩
  have dj2 : ∀ j, j ≠ i → ∀ a ∈ L2, a ∉ clrφ mv φ j := fun j hj a ha hja => by
    obtain ⟨h1, h2⟩ := clrφ_sub hja
    rcases sub a ha with q | q | ⟨j', hj', q⟩
    · exact hj (en.dj j i a h2 q)
    · obtain ⟨_, o, ho, _⟩ := en.own j a h2
      rw [q] at ho; cases ho
    · exact h1 (en.dj j j' a h2 q ▸ hj')
  have en2 := en1.put (F' := F1) (H' := upd H1 p o2) (σ' := σ) b2 (Same.refl _) (fun j hj a ha => ⟨(en1.own j a ha).1, upd_ne (fun z => hj (en1.dj j i a ha (by rw [z]; exact hpi1)))⟩) (fun _ _ => rfl) rfl (by rw [clr_length]; exact hi) hσ hm mm n dj2
  refine k σ F1 _ _ ⟨fun a o e h => ?_, fun a e => ?_, g.ff, g.step.fr, fun j a hj => ?_⟩ en2 Pin.refl
  · rw [upd_ne (fun z => h i (by rw [z]; exact hpi))]
    exact g.hh a o e
  · by_cases h : a = p
    · subst h; rw [upd_same] at e; cases e
    · rw [upd_ne h] at e; exact g.hh.free e
  · by_cases h : j = i
    · subst h
      rw [putφ_same] at hj
      rcases sub a hj with q | q | ⟨j', _, q⟩
      · exact .inr ⟨j, q⟩
      · exact .inl q
      · exact .inr ⟨j', q⟩
    · rw [putφ_ne h] at hj
      exact .inr ⟨j, (clrφ_sub hj).2⟩
theorem mem_new {L : List Addr} {p : Addr} (ow : Own F H L) (hp : H p = none) : p ∉ L := fun h => by
  obtain ⟨_, o, ho, _⟩ := ow p h
  rw [hp] at ho; cases ho
theorem sj_app {i : Nat} {x : Str} {apos cpos : Pos} (hx : PE X (.Name x pos') (tVar i)) (he : EM X m.inn e f mv) (hm : m = .o ∨ m = .T)
    (hb : PE X (.Call (.Attribute (.Name x pos') "append" apos) [e] [] cpos) (tBM X.K "list" rAppend (tVar i) (tCons (tMJ X.K m.inn f mv) tNil)))
    (hs : swapsWith (.Call (.Attribute (.Name x pos') "append" apos) [e] [] cpos) none pos.line X.env = pure false := by rfl) (hv : i ∉ mv := by decide) : SJ X rm pn (.Expr (.Call (.Attribute (.Name x pos') "append" apos) [e] [] cpos) pos) (sApp i m f mv) :=
  PS.imp (ps_expr hb hs) fun D σ H ⟨F, ρ, φ, o, en, e, k⟩ => by
    unfold sApp at e
    split at e
    · rename_i k0 xs d hg hf
      split at e
      · rename_i hc
        obtain ⟨rfl, hl⟩ := hc
        cases e
        have hg' := getD_some hg
        obtain ⟨hst, v, hv1, mm⟩ := en.sl i _ _ hg'
        have hi : i < ρ.length := (List.getElem?_eq_some_iff.mp hg').1
        generalize hφ : φ i = Lφ at mm
        rcases hm with rfl | rfl
        · cases mm with
          | lst a b c =>
            rename_i p vs
            refine ⟨.ref p, hv1, .inl ⟨rfl, _, SqL.of b⟩, F, ρ, φ, d, en, hf, fun u F1 H1 L g m1 n fr => ?_⟩
            have hpi : p ∈ φ i := by rw [hφ]; simp
            refine ⟨p, vs, u, rfl, rfl, g.hh _ _ b, by rw [sizeLine_eq, c.length]; omega, ?_⟩
            exact mut_core (m := .o) (L2 := [p]) en g hv hi hv1 hpi rfl rfl (O1.lst ((en.clr g).own i p (by rw [clrφ_out hv]; exact hpi)).1 upd_same ((c.mono g.ff).snoc m1.1)) (List.nodup_cons.mpr ⟨by simp, List.nodup_nil⟩) (fun a ha => .inl (by rw [hφ]; exact ha)) k
        · cases mm with
          | flat e _ => cases e
          | lst a b c =>
            rename_i p vs Lc
            refine ⟨.ref p, hv1, .inl ⟨rfl, _, SqL.of b⟩, F, ρ, φ, d, en, hf, fun u F1 H1 L g m1 n fr => ?_⟩
            have hpi : p ∈ φ i := by rw [hφ]; simp
            have ownφ : ∀ a ∈ φ i, F1 a = none ∧ H1 a = H a := fun a ha => by
              obtain ⟨_, o, ho, _⟩ := en.own i a ha
              exact ⟨((en.clr g).own i a (by rw [clrφ_out hv]; exact ha)).1, (g.hh _ _ ho).trans ho.symm⟩
            have nd := en.nd i
            rw [hφ, List.nodup_cons] at nd
            have hpL : p ∉ L := fun h => from_dj en fr p h i (by rw [clrφ_out hv]; exact hpi)
            have own1 : Own F1 H1 L := OT.own m1
            refine ⟨p, vs, u, rfl, rfl, g.hh _ _ b, by rw [sizeLine_eq, Ms.length (m := .T) c]; omega, ?_⟩
            refine mut_core (m := .T) (L2 := p :: (Lc ++ L)) en g hv hi hv1 hpi rfl rfl (OT.lst (ownφ p hpi).1 upd_same (OTs.snoc (OTs.keep g.ff c fun a ha => ?_) (OT.keep (Same.refl _) m1 fun a ha => ?_))) ?_ (fun a ha => ?_) k
            · have q := ownφ a (by rw [hφ]; exact List.mem_cons_of_mem _ ha)
              exact ⟨q.1, by rw [upd_ne (fun z => nd.1 (by rw [← z]; exact ha))]; exact q.2⟩
            · exact ⟨(own1 a ha).1, upd_ne (fun z => hpL (by rw [← z]; exact ha))⟩
            · refine List.nodup_cons.mpr ⟨?_, List.nodup_append.mpr ⟨nd.2, n, fun a ha b hb e => ?_⟩⟩
              · rw [List.mem_append]
                exact fun h => h.elim nd.1 hpL
              · subst e
                exact from_dj en fr a hb i (by rw [clrφ_out hv, hφ]; exact List.mem_cons_of_mem _ ha)
            · rcases List.mem_cons.mp ha with rfl | ha
              · exact .inl hpi
              · rcases List.mem_append.mp ha with ha | ha
                · exact .inl (by rw [hφ]; exact List.mem_cons_of_mem _ ha)
                · exact .inr (fr a ha)
      · cases e
    · cases e
end
end DI

set_option Elab.async false
set_option linter.all false
set_option maxRecDepth 100000
/-! DI, part E: stores into own things, targets, loops. -/
namespace DI
open PySem PySem.Spec PyProof.Rows L2

section
variable {X : Cx} {K : PySem.W.Frag} {F F' F'' H H' H'' : Hp} {d : D} {v : V} {m rm : Md} {e a b c tg o i₀ : Expr} {es : List Expr} {st : Stmt} {body orelse rest : List Stmt} {f g fa fb fc : En → Option D} {s s' t : En → Option Out} {pos pos' ppos : Pos} {mv mv' : List Nat} {pn : List Nat}
  {ρ : En} {σ σ' σ'' : L2.St} {φ φ' φ'' : Nat → List Addr} {D : Ends} {ou : Out}

/-! ### x[k] = e, x a list or a dict whose top is own -/
def rSetDict : V → V → V → Hp → (Hp → Prop) → Prop := fun o i v H Q => ∃ a H', o = .ref a ∧ DPut H a i v H' ∧ Q H'
theorem set_dict (hu : X.A.units + 1 < cLine) : PSet X rSetDict := by
  intro pins s σ H o i v ov iv u Q I r1 r2 r3 h
  obtain ⟨a, H', rfl, g, q⟩ := h
  obtain rfl : ov = Value.ref a := r1
  exact d_setItem hu I g r2 r3 fun s' I' => ⟨H', I', q⟩
def rSetA : V → V → V → Hp → (Hp → Prop) → Prop := fun o i v H Q => rSetL o i v H Q ∨ rSetDict o i v H Q
theorem set_any (hu : X.A.units + 1 < cLine) : PSet X rSetA := by
  intro pins s σ H o i v ov iv u Q I r1 r2 r3 h
  rcases h with h | h
  · exact set_list pins s σ H o i v ov iv u Q I r1 r2 r3 h
  · exact set_dict hu pins s σ H o i v ov iv u Q I r1 r2 r3 h
def dSet : PyData → PyData → PyData → Option PyData
  | .list xs, .int k, d => (ixN xs.length k).map fun j => .list (xs.set j d)
  | .dict kvs, k, d => if okKey kvs k = true ∧ kvs.length < 1000000 then some (.dict (dPut kvs k d)) else none
  | _, _, _ => none
theorem Rk.any {G : Hp} (k : Key) : ∀ {kvs : List (Key × V)} {ds : List (PyData × PyData)}, Rk K G kvs ds → (kvs.any fun kv => decide (kv.1 = k)) = ds.any fun p => PyData.eqv p.1 (keyD k)
  | _, _, .nil => rfl
  | _, _, .cons h r => by rw [List.any_cons, List.any_cons, Rk.any k r, eqv_key]
theorem Rk.repl {G : Hp} (k : Key) (r : R K G v d) : ∀ {kvs : List (Key × V)} {ds : List (PyData × PyData)}, Rk K G kvs ds → Rk K G (kvs.map fun kv => if kv.1 = k then (kv.1, v) else kv) (ds.map fun p => if PyData.eqv p.1 (keyD k) = true then (p.1, d) else p)
  | _, _, .nil => .nil
  | _, _, .cons (k := k') h q => by
    have ih := Rk.repl k r q
    rw [List.map_cons, List.map_cons]
    dsimp only
    rw [eqv_key]
    simp only [decide_eq_true_eq]
    by_cases e : k' = k
    · rw [if_pos e, if_pos e]; exact .cons r ih
    · rw [if_neg e, if_neg e]; exact .cons h ih
theorem Rk.snoc {G : Hp} (k : Key) (r : R K G v d) : ∀ {kvs : List (Key × V)} {ds : List (PyData × PyData)}, Rk K G kvs ds → Rk K G (kvs ++ [(k, v)]) (ds ++ [(keyD k, d)])
  | _, _, .nil => .cons r .nil
  | _, _, .cons h q => .cons h (Rk.snoc k r q)
theorem Rk.put {G : Hp} {k : Key} {kvs : List (Key × V)} {ds : List (PyData × PyData)} (h : Rk K G kvs ds) (r : R K G v d) : Rk K G (putK kvs k v) (DI.dPut ds (keyD k) d) := by
  unfold putK DI.dPut
  rw [h.any k]
  split
  · exact h.repl k r
  · exact h.snoc k r
theorem Rt.any {G : Hp} (k : List Key) : ∀ {kvs : List (List Key × V)} {ds : List (PyData × PyData)}, Rt K G kvs ds → (kvs.any fun kv => decide (kv.1 = k)) = ds.any fun p => PyData.eqv p.1 (.tuple (k.map keyD))
  | _, _, .nil => rfl
  | _, _, .cons h r => by rw [List.any_cons, List.any_cons, Rt.any k r, eqv_keys]
theorem Rt.repl {G : Hp} (k : List Key) (r : R K G v d) : ∀ {kvs : List (List Key × V)} {ds : List (PyData × PyData)}, Rt K G kvs ds → Rt K G (kvs.map fun kv => if kv.1 = k then (kv.1, v) else kv) (ds.map fun p => if PyData.eqv p.1 (.tuple (k.map keyD)) = true then (p.1, d) else p)
  | _, _, .nil => .nil
  | _, _, .cons (k := k') h q => by
    have ih := Rt.repl k r q
    rw [List.map_cons, List.map_cons]
    dsimp only
    rw [eqv_keys]
    simp only [decide_eq_true_eq]
    by_cases e : k' = k
    · rw [if_pos e, if_pos e]; exact .cons r ih
    · rw [if_neg e, if_neg e]; exact .cons h ih
theorem Rt.snoc {G : Hp} (k : List Key) (r : R K G v d) : ∀ {kvs : List (List Key × V)} {ds : List (PyData × PyData)}, Rt K G kvs ds → Rt K G (kvs ++ [(k, v)]) (ds ++ [(.tuple (k.map keyD), d)])
  | _, _, .nil => .cons r .nil
  | _, _, .cons h q => .cons h (Rt.snoc k r q)
theorem Rt.put {G : Hp} {k : List Key} {kvs : List (List Key × V)} {ds : List (PyData × PyData)} (h : Rt K G kvs ds) (r : R K G v d) : Rt K G (putK kvs k v) (DI.dPut ds (.tuple (k.map keyD)) d) := by
  unfold putK DI.dPut
  rw [h.any k]
  split
  · exact h.repl k r
  · exact h.snoc k r
theorem dPut_mark {ds : List (PyData × PyData)} {k d : PyData} (h : isKs k = true) : DI.dPut ((.none, .none) :: ds) k d = (.none, .none) :: DI.dPut ds k d := by
  have e0 : PyData.eqv .none k = false := by cases k <;> first | (cases h; done) | rfl
  unfold DI.dPut
  rw [List.any_cons]
  simp only [e0, Bool.false_or]
  split
  · rw [List.map_cons]
    simp only [e0, Bool.false_eq_true, if_false]
  · rfl
theorem Rk.length {G : Hp} : ∀ {kvs : List (Key × V)} {ds : List (PyData × PyData)}, Rk K G kvs ds → kvs.length = ds.length
  | _, _, .nil => rfl
  | _, _, .cons _ r => by rw [List.length_cons, List.length_cons, Rk.length r]
theorem Rt.length {G : Hp} : ∀ {kvs : List (List Key × V)} {ds : List (PyData × PyData)}, Rt K G kvs ds → kvs.length = ds.length
  | _, _, .nil => rfl
  | _, _, .cons _ r => by rw [List.length_cons, List.length_cons, Rt.length r]
def sSet (i : Nat) (f : En → Option PyData) (mv : List Nat) (g : En → Option PyData) : En → Option Out := fun ρ => match ρ.getD i none, f ρ, g (clr mv ρ) with
  | some (.o, x), some d, some k => match dSet x k d with
    | some x' => some (.nx ((clr mv ρ).set i (some (.o, x'))))
    | none => none
  | _, _, _ => none
theorem sj_set {i : Nat} {x : Str} (hu : X.A.units + 64 < cLine) (hx : PE X (.Name x ppos) (tVar i)) (he : EM X .F e f mv) (hi : EJ X .B b g)
    (hs : swapsWithSole [.Subscript (.Name x ppos) b pos'] e pos.line X.env = pure false := by rfl) (hw : swappedStores [.Subscript (.Name x ppos) b pos'] e X.env = pure none := by rfl)
    (ha : ∀ v, assign (.Subscript (.Name x ppos) b pos') X.env v = (do
      let ov ← holding [v] (eval (.Name x ppos) X.env)
      let iv ← holding [v, ov] (eval b X.env)
      standAt pos'
      holding [v, ov, iv] (setItem ov iv v)
      release [v, ov, iv] []) := by intro _; rfl) (hv : i ∉ mv := by decide) : SJ X rm pn (.Assign [.Subscript (.Name x ppos) b pos'] e pos) (sSet i f mv g) :=
  PS.imp (ps_asg he (pg_sub hx hi (set_any (by omega)) ha) hs hw) fun D σ H ⟨F, ρ, φ, o, en, e, k⟩ => by
    unfold sSet at e
    split at e
    · rename_i x0 d k0 hg hf hk
      split at e
      · rename_i x' hx'
        cases e
        have hg' := getD_some hg
        obtain ⟨hst, v, hv1, mm⟩ := en.sl i _ _ hg'
        have hil : i < ρ.length := (List.getElem?_eq_some_iff.mp hg').1
        refine ⟨F, ρ, φ, d, en, hf, fun u F1 H1 L g1 m1 n1 fr1 => ?_⟩
        refine ⟨v, hv1, ?_⟩
        have en1 := en.clr g1
        refine ⟨F1, clr mv ρ, clrφ mv φ, k0, en1, hk, fun kv F2 H2 L2 g2 m2 _ _ => ?_⟩
        have gm : GrowM F H F2 H2 φ mv := ⟨g1.hh.trans g2.hh, g1.ff.trans g2.ff, g2.fh, fun a o e => by
          rcases g2.fr a o e with q | q
          · exact g1.fr a o q
          · exact .inr (.inl (g1.hh.free q)), g2.im⟩
        have ru : R X.K F2 u d := m1.1.mono g2.ff
        have rk : R X.K H2 kv k0 := m2.1
        generalize hφ : φ i = Lφ at mm
        cases mm with
        | lst a b c =>
          rename_i p vs ds
          have hpi : p ∈ φ i := by rw [hφ]; simp
          cases k0 <;> first | (cases hx'; done) | skip
          cases rk
          obtain ⟨j, hj, rfl⟩ := Option.map_eq_some_iff.mp hx'
          have b2 : H2 p = some (.lst vs) := gm.hh _ _ b
          refine .inl ⟨p, vs, _, j, rfl, rfl, b2, by rw [c.length]; exact hj, ?_⟩
          exact mut_core (m := .o) (L2 := [p]) en gm hv hil hv1 hpi rfl rfl (O1.lst ((en.clr gm).own i p (by rw [clrφ_out hv]; exact hpi)).1 upd_same ((c.mono gm.ff).set j ru)) (List.nodup_cons.mpr ⟨by simp, List.nodup_nil⟩) (fun a ha => .inl (by rw [hφ]; exact ha)) k
        | dic a b c =>
          rename_i p kvs ds
          have hpi : p ∈ φ i := by rw [hφ]; simp
          have hx' : (if okKey ds k0 = true ∧ ds.length < 1000000 then some (PyData.dict (DI.dPut ds k0 d)) else none) = some x' := hx'
          split at hx'
          · rename_i hc
            cases hx'
            have hc1 := hc.1
            unfold okKey at hc1
            rw [isT_Rk c] at hc1
            obtain ⟨key, rfl⟩ := isK_of hc1
            cases rk.key
            have b2 : H2 p = some (.dK kvs) := gm.hh _ _ b
            refine .inr ⟨p, _, rfl, DPut.k b2 (by rw [sizeLine_eq, c.length]; omega), ?_⟩
            exact mut_core (m := .o) (L2 := [p]) en gm hv hil hv1 hpi rfl rfl (O1.dic ((en.clr gm).own i p (by rw [clrφ_out hv]; exact hpi)).1 upd_same ((c.mono gm.ff).put ru)) (List.nodup_cons.mpr ⟨by simp, List.nodup_nil⟩) (fun a ha => .inl (by rw [hφ]; exact ha)) k
          · cases hx'
        | dit a b c =>
          rename_i p kvs ds
          have hpi : p ∈ φ i := by rw [hφ]; simp
          have hx' : (if okKey ((.none, .none) :: ds) k0 = true ∧ ((PyData.none, PyData.none) :: ds).length < 1000000 then some (PyData.dict (DI.dPut ((.none, .none) :: ds) k0 d)) else none) = some x' := hx'
          split at hx'
          · rename_i hc
            cases hx'
            have hc1 : isKs k0 = true := hc.1
            rw [dPut_mark hc1] at k
            cases k0 <;> first | (cases hc1; done) | skip
            rename_i ks
            obtain ⟨ks', rfl⟩ := isKs_of hc1
            obtain ⟨bk, rfl, hbk⟩ := rk.tkey
            have b2 : H2 p = some (.dT kvs) := gm.hh _ _ b
            have hl := hc.2
            rw [List.length_cons] at hl
            refine .inr ⟨p, _, rfl, DPut.t b2 hbk (by rw [sizeLine_eq, c.length]; omega), ?_⟩
            exact mut_core (m := .o) (L2 := [p]) en gm hv hil hv1 hpi rfl rfl (O1.dit ((en.clr gm).own i p (by rw [clrφ_out hv]; exact hpi)).1 upd_same ((c.mono gm.ff).put ru)) (List.nodup_cons.mpr ⟨by simp, List.nodup_nil⟩) (fun a ha => .inl (by rw [hφ]; exact ha)) k
          · cases hx'
      · cases e
    · cases e

/-! ### x op= e, numbers and texts -/
def ipA (f : Int → Int → Int) : TIp := fun x y H Q => ipI f x y H Q
def sAug (i : Nat) (g : PyData → PyData → Option PyData) (f : En → Option PyData) : En → Option Out := fun ρ => match ρ.getD i none, f ρ with
  | some (_, x), some y => match g x y with
    | some d => some (.nx (ρ.set i (some (.F, d))))
    | none => none
  | _, _ => none
/-- in place, by values -/
def Ip2 (K : PySem.W.Frag) (r : TIp) (g : PyData → PyData → Option PyData) : Prop :=
  ∀ F H x y dx dy dz Q, Base F H → R K H x dx → R K H y dy → g dx dy = some dz → (∀ v, R K F v dz → Q v H) → r x y H Q
theorem ip2_I {g : Int → Int → Int} : Ip2 K (ipI g) (dI (fun _ _ => true) fun i j => .int (g i j)) := fun F H x y dx dy dz Q b rx ry e p => by
  unfold dI at e
  split at e
  · split at e
    · cases e
      cases rx; cases ry
      exact ⟨_, _, rfl, rfl, p _ (.int _)⟩
    · cases e
  · cases e
theorem sj_aug {i : Nat} {x : Str} {op : Operator} {r : TIp} {g : PyData → PyData → Option PyData} (hN : X.N.Nodup) (hi : X.N[i]? = some x) (hx : Loc X.env.scope x) (he : EJ X .B e f) (ho : PIp X op r) (hg : Ip2 X.K r g)
    (hf : X.fn x = true ∨ X.env.scope.names.lookup x = some .local := by first | exact .inl rfl | exact .inr rfl) (hp : i ∉ pn := by decide) : SJ X rm pn (.AugAssign (.Name x pos') op e pos) (sAug i g f) :=
  PS.imp (ps_aug hN hi hx he ho hf) fun D σ H ⟨F, ρ, φ, o, en, e, k⟩ => by
    unfold sAug at e
    split at e
    · rename_i m0 x0 y0 hgx hfy
      split at e
      · rename_i d hd
        cases e
        have hg' := getD_some hgx
        obtain ⟨hst, v, hv1, mm⟩ := en.sl i _ _ hg'
        have hil : i < ρ.length := (List.getElem?_eq_some_iff.mp hg').1
        refine ⟨v, hv1, F, ρ, φ, _, en, hfy, fun y F1 H1 L g1 m1 _ _ => ?_⟩
        refine hg F1 H1 v y x0 y0 d _ g1.base ((mm.toR en.base.fh).mono g1.hh) m1.1 hd fun u ru => ?_
        exact asg_core (m := .F) (mv := []) (L := []) en g1.gm ⟨ru, rfl⟩ List.nodup_nil (fun _ h => nomatch h) rfl hil hp k
      · cases e
    · cases e
theorem sj_augAdd {i : Nat} {x : Str} (hN : X.N.Nodup) (hi : X.N[i]? = some x) (hx : Loc X.env.scope x) (he : EJ X .B e f)
    (hf : X.fn x = true ∨ X.env.scope.names.lookup x = some .local := by first | exact .inl rfl | exact .inr rfl) (hp : i ∉ pn := by decide) : SJ X rm pn (.AugAssign (.Name x pos') .Add e pos) (sAug i dAddI f) := sj_aug hN hi hx he ip_add ip2_I hf hp
theorem sj_augSub {i : Nat} {x : Str} (hN : X.N.Nodup) (hi : X.N[i]? = some x) (hx : Loc X.env.scope x) (he : EJ X .B e f)
    (hf : X.fn x = true ∨ X.env.scope.names.lookup x = some .local := by first | exact .inl rfl | exact .inr rfl) (hp : i ∉ pn := by decide) : SJ X rm pn (.AugAssign (.Name x pos') .Sub e pos) (sAug i dSub f) := sj_aug hN hi hx he ip_sub ip2_I hf hp

/-! ### targets -/
def tGJ (K : PySem.W.Frag) (pn : List Nat) (b : PyData → En → Option En) : TG := fun v σ H Q =>
  ∃ F ρ φ d ρ', EnvR K F H ρ σ φ ∧ R K F v d ∧ b d ρ = some ρ' ∧ ∀ σ' φ', EnvR K F H ρ' σ' φ' → Step F H φ F H φ' → Pin pn σ σ' → σ'.length = σ.length → Q σ' H
def GJ (X : Cx) (pn : List Nat) (tg : Expr) (b : PyData → En → Option En) : Prop := PG X tg (tGJ X.K pn b)
def tGsJ (K : PySem.W.Frag) (pn : List Nat) (b : List PyData → En → Option En) : TGs := fun vs σ H Q =>
  ∃ F ρ φ ds ρ', EnvR K F H ρ σ φ ∧ Rs K F vs ds ∧ b ds ρ = some ρ' ∧ ∀ σ' φ', EnvR K F H ρ' σ' φ' → Step F H φ F H φ' → Pin pn σ σ' → σ'.length = σ.length → Q σ' H
def GsJ (X : Cx) (pn : List Nat) (tgs : List Expr) (b : List PyData → En → Option En) : Prop := PGs X tgs (tGsJ X.K pn b)
theorem PG.imp {X : Cx} {e : Expr} {t t' : TG} (h : PG X e t) (i : ∀ v σ H Q, t' v σ H Q → t v σ H Q) : PG X e t' := ⟨fun pins s σ H v u Q I r w => h.run pins s σ H v u Q I r (i v σ H Q w)⟩
theorem PGs.imp {X : Cx} {e : List Expr} {t t' : TGs} (h : PGs X e t) (i : ∀ v σ H Q, t' v σ H Q → t v σ H Q) : PGs X e t' := ⟨fun pins s σ H v u Q I r w => h.run pins s σ H v u Q I r (i v σ H Q w)⟩
def bName (i : Nat) : PyData → En → Option En := fun d ρ => if i < ρ.length then some (ρ.set i (some (.F, d))) else none
theorem gj_name {i : Nat} {x : Str} (hN : X.N.Nodup) (hi : X.N[i]? = some x) (hx : Loc X.env.scope x) (hf : X.fn x = true ∨ X.env.scope.names.lookup x = some .local := by first | exact .inl rfl | exact .inr rfl) (hp : i ∉ pn := by decide) : GJ X pn (.Name x pos) (bName i) :=
  PG.imp (pg_name hN hi hx hf) fun v σ H Q ⟨F, ρ, φ, d, ρ', en, r, e, k⟩ => by
    unfold bName at e
    split at e
    · cases e
      rename_i hil
      refine k (σ.set i (some v)) (putφ i [] φ) (en.put (F' := F) (H' := H) en.base (Same.refl _) (fun j hj a ha => ⟨(en.own j a ha).1, rfl⟩) (fun j hj => List.getElem?_set_ne (Ne.symm hj)) (List.length_set ..) hil
        (List.getElem?_set_self (by rw [← en.len]; exact hil)) rfl ⟨r, rfl⟩ List.nodup_nil fun _ _ _ h => nomatch h) ⟨fun _ _ e _ => e, fun _ e => e, Same.refl _, fun _ _ e => .inl e, fun j a hj => ?_⟩ (fun j hj => List.getElem?_set_ne (fun z => hp (by rw [z]; exact hj))) (List.length_set ..)
      by_cases h : j = i
      · subst h; rw [putφ_same] at hj; cases hj
      · rw [putφ_ne h] at hj; exact .inr ⟨j, hj⟩
    · cases e
def bNil : List PyData → En → Option En := fun ds ρ => match ds with
  | [] => some ρ
  | _ => none
def bCons (b : PyData → En → Option En) (bs : List PyData → En → Option En) : List PyData → En → Option En := fun ds ρ => match ds with
  | d :: r => match b d ρ with
    | some ρ' => bs r ρ'
    | none => none
  | [] => none
def bTup (n : Nat) (bs : List PyData → En → Option En) : PyData → En → Option En := fun d ρ => match d with
  | .tuple ds => if ds.length = n then bs ds ρ else none
  | _ => none
theorem gs_nil : GsJ X pn [] bNil := PGs.imp pgs_nil fun vs σ H Q ⟨F, ρ, φ, ds, ρ', en, r, e, k⟩ => by
  unfold bNil at e
  split at e
  · cases e
    cases r
    exact ⟨rfl, k σ φ en (Step.refl en.base) Pin.refl rfl⟩
  · cases e
theorem gs_cons {b : PyData → En → Option En} {bs : List PyData → En → Option En} (h : GJ X pn e b) (hr : GsJ X pn es bs) (hs : (assignEach (e :: es) X.env).map (·.2) = assign e X.env :: (assignEach es X.env).map (·.2) := by rfl) : GsJ X pn (e :: es) (bCons b bs) :=
  PGs.imp (pgs_cons h hr hs) fun vs σ H Q ⟨F, ρ, φ, ds, ρ', en, r, e, k⟩ => by
    unfold bCons at e
    split at e
    · split at e
      · rename_i h1
        cases r with
        | cons r1 r2 =>
          refine ⟨_, _, rfl, F, ρ, φ, _, _, en, r1, h1, fun σ' φ' en' st p hl => ?_⟩
          exact ⟨F, _, φ', _, ρ', en', r2, e, fun σ2 φ2 en2 st2 p2 hl2 => k σ2 φ2 en2 (st.trans st2) (p.trans p2) (hl2.trans hl)⟩
      · cases e
    · cases e
theorem gj_tup {bs : List PyData → En → Option En} {kk : Nat} {n : Nat} (hc : X.calm = true) (h : GsJ X pn es bs) (hn : (assignEach es X.env).length = n := by rfl) (hst : (assignEach es X.env).findIdx? (·.1) = none := by rfl) : GJ X pn (.Tuple es kk pos) (bTup n bs) :=
  PG.imp (pg_tup hc h hn hst) fun v σ H Q ⟨F, ρ, φ, d, ρ', en, r, e, k⟩ => by
    unfold bTup at e
    split at e
    · split at e
      · rename_i hl
        cases r with
        | tup h1 h2 => exact ⟨_, _, rfl, SqT.of (en.base.fh _ _ h1), by rw [h2.length]; exact hl, F, ρ, φ, _, ρ', en, h2, e, k⟩
      · cases e
    · cases e
/-- target = e -/
def sAsgT (b : PyData → En → Option En) (f : En → Option PyData) (mv : List Nat) : En → Option Out := fun ρ => match f ρ with
  | some d => match b d (clr mv ρ) with
    | some ρ' => some (.nx ρ')
    | none => none
  | none => none
theorem sj_asgT {bb : PyData → En → Option En} (hg : GJ X pn tg bb) (he : EM X .F e f mv) (hs : swapsWithSole [tg] e pos.line X.env = pure false := by rfl) (hw : swappedStores [tg] e X.env = pure none := by rfl)
    (h1 : (assignEach [tg] X.env).map (·.2) = [assign tg X.env] := by rfl) : SJ X rm pn (.Assign [tg] e pos) (sAsgT bb f mv) :=
  PS.imp (ps_asg he hg hs hw h1) fun D σ H ⟨F, ρ, φ, o, en, e, k⟩ => by
    unfold sAsgT at e
    split at e
    · split at e
      · cases e
        rename_i hf _ _ hb
        exact ⟨F, ρ, φ, _, en, hf, fun v F1 H1 L g m1 _ _ => ⟨F1, _, _, _, _, en.clr g, m1.1, hb, fun σ' φ' en' st p _ => k σ' F1 H1 φ' (g.step.trans st) en' p⟩⟩
      · cases e
    · cases e

/-! ### while -/
def wLoop (c : En → Option Bool) (s : En → Option Out) : Nat → En → Option Out
  | 0, _ => none
  | n + 1, ρ => match c ρ with
    | some false => some (.nx ρ)
    | some true => match s ρ with
      | some (.nx ρ') => wLoop c s n ρ'
      | some (.ct ρ') => wLoop c s n ρ'
      | some (.bk ρ') => some (.nx ρ')
      | some (.rt d ρ') => some (.rt d ρ')
      | none => none
    | none => none
theorem wLoop_mono {c : En → Option Bool} {s : En → Option Out} : ∀ {n k : Nat} {ρ : En} {o : Out}, wLoop c s n ρ = some o → n ≤ k → wLoop c s k ρ = some o
  | 0, _, _, _, h, _ => by cases h
  | n + 1, 0, _, _, _, hk => by omega
  | n + 1, k + 1, ρ, o, h, hk => by
    unfold wLoop at h ⊢
    split at h
    · exact h
    · split at h
      · exact wLoop_mono h (by omega)
      · exact wLoop_mono h (by omega)
      · exact h
      · exact h
      · cases h
    · cases h
def sWhile (c : En → Option Bool) (s : En → Option Out) : En → Option Out := wLoop c s 1000000
theorem sj_while {p : En → Option Bool} (hp : PassesOwn (model X.prog X.w) X.A X.env X.xe) (hc : CJ X c p) (hb : SSJ X rm pn body s) : SJ X rm pn (.While c body [] pos) (sWhile p s) :=
  PS.imp (ps_while hp hc hb) fun D σ H ⟨F, ρ, φ, o, en, e, k⟩ => by
    refine ⟨fun n σ1 H1 => ∃ F1 ρ1 φ1, EnvR X.K F1 H1 ρ1 σ1 φ1 ∧ wLoop p s n ρ1 = some o ∧ Fin X.K rm pn F1 H1 φ1 σ1 D o, ⟨_, F, ρ, φ, en, e, k⟩, ?_⟩
    rintro n σ1 H1 ⟨F1, ρ1, φ1, en1, e1, k1⟩
    cases n with
    | zero => cases e1
    | succ n =>
      unfold wLoop at e1
      split at e1
      · cases e1
        refine ⟨F1, ρ1, φ1, false, en1, by assumption, fun F2 H2 g => ?_⟩
        refine iteF ?_
        exact k1 σ1 F2 H2 φ1 g.step (en1.grow g) Pin.refl
      · refine ⟨F1, ρ1, φ1, true, en1, by assumption, fun F2 H2 g => ?_⟩
        refine iteT ?_
        refine ⟨fun σ' H' => ∃ m', m' < n + 1 ∧ ∃ F1 ρ1 φ1, EnvR X.K F1 H' ρ1 σ' φ1 ∧ wLoop p s m' ρ1 = some o ∧ Fin X.K rm pn F1 H' φ1 σ' D o, fun σ' H' h => h, ?_⟩
        have en2 := en1.grow g
        have k2 := k1.step g.step Pin.refl (σ' := σ1)
        split at e1
        · rename_i ρ' hs
          exact ⟨F2, ρ1, φ1, _, en2, hs, fun σ' F' H' φ' st en' pp => ⟨n, Nat.lt_succ_self n, F', ρ', φ', en', e1, k2.step st pp⟩⟩
        · rename_i ρ' hs
          exact ⟨F2, ρ1, φ1, _, en2, hs, fun σ' F' H' φ' st en' pp => ⟨n, Nat.lt_succ_self n, F', ρ', φ', en', e1, k2.step st pp⟩⟩
        · rename_i ρ' hs
          cases e1
          exact ⟨F2, ρ1, φ1, _, en2, hs, k2⟩
        · rename_i d ρ' hs
          cases e1
          exact ⟨F2, ρ1, φ1, _, en2, hs, k2⟩
        · cases e1
      · cases e1

/-! ### for -/
/-- an iterator that gives these data, as long as what is frozen stays -/
def Src (K : PySem.W.Frag) (J : It) (F : Hp) (ds : List PyData) : Prop :=
  (∀ i d F1 H1, ds[i]? = some d → Same F F1 → Base F1 H1 → J.go i H1 ∧ ∀ x H2, J.yld i H1 x H2 → ∃ F2, Grow F1 H1 F2 H2 ∧ R K F2 x d) ∧
  ∀ i F1 H1, ds.length ≤ i → Same F F1 → Base F1 H1 → J.stop i H1
def tI (K : PySem.W.Frag) (f : En → Option (List PyData)) : TI := fun σ H Rr =>
  ∃ F ρ φ ds, EnvR K F H ρ σ φ ∧ f ρ = some ds ∧ ∀ J F' H', Grow F H F' H' → Src K J F' ds → Rr J H'
def IJ (X : Cx) (tg it : Expr) (f : En → Option (List PyData)) : Prop := PI X tg it (tI X.K f)
theorem PI.imp {X : Cx} {tg e : Expr} {t t' : TI} (h : PI X tg e t) (i : ∀ σ H Q, t' σ H Q → t σ H Q) : PI X tg e t' := ⟨fun pins s σ H Q I w => h.run pins s σ H Q I (i σ H Q w)⟩
def fLoop (b : PyData → En → Option En) (s : En → Option Out) : List PyData → En → Option Out
  | [], ρ => some (.nx ρ)
  | d :: ds, ρ => match b d ρ with
    | none => none
    | some ρ1 => match s ρ1 with
      | some (.nx ρ') => fLoop b s ds ρ'
      | some (.ct ρ') => fLoop b s ds ρ'
      | some (.bk ρ') => some (.nx ρ')
      | some (.rt d ρ') => some (.rt d ρ')
      | none => none
def sFor (f : En → Option (List PyData)) (b : PyData → En → Option En) (s : En → Option Out) : En → Option Out := fun ρ => match f ρ with
  | some ds => fLoop b s ds ρ
  | none => none
theorem sj_for {it : Expr} {fi : En → Option (List PyData)} {bb : PyData → En → Option En} (hp : PassesOwn (model X.prog X.w) X.A X.env X.xe) (hc : X.calm = true) (hi : IJ X tg it fi) (hg : GJ X pn tg bb) (hb : SSJ X rm pn body s)
    (hs : ∀ x, foldedSetIterable it X.env x = pure x := by intro _; rfl) : SJ X rm pn (.For tg it body [] pos) (sFor fi bb s) :=
  PS.imp (ps_for hp hc hi hg hb hs) fun D σ H ⟨F, ρ, φ, o, en, e, k⟩ => by
    unfold sFor at e
    split at e
    · rename_i ds hds
      refine ⟨F, ρ, φ, ds, en, hds, fun J F0 H0 g0 src => ?_⟩
      refine ⟨fun i m σ1 H1 => m = ds.length - i ∧ i ≤ ds.length ∧ ∃ F1 ρ1 φ1, Same F0 F1 ∧ EnvR X.K F1 H1 ρ1 σ1 φ1 ∧ fLoop bb s (ds.drop i) ρ1 = some o ∧ Fin X.K rm pn F1 H1 φ1 σ1 D o, ⟨_, rfl, Nat.zero_le _, F0, ρ, φ, Same.refl _, en.grow g0, e, k.step g0.step Pin.refl⟩, ?_⟩
      rintro i m σ1 H1 ⟨rfl, hle, F1, ρ1, φ1, sm, en1, e1, k1⟩
      by_cases hlt : i < ds.length
      · right
        have hget : ds[i]? = some ds[i] := List.getElem?_eq_getElem hlt
        obtain ⟨go, yl⟩ := src.1 i _ F1 H1 hget sm en1.base
        rw [List.drop_eq_getElem_cons hlt, fLoop] at e1
        refine ⟨go, fun σ' H' => ∃ m', m' < ds.length - i ∧ (m' = ds.length - (i + 1) ∧ i + 1 ≤ ds.length ∧ ∃ F1 ρ1 φ1, Same F0 F1 ∧ EnvR X.K F1 H' ρ1 σ' φ1 ∧ fLoop bb s (ds.drop (i + 1)) ρ1 = some o ∧ Fin X.K rm pn F1 H' φ1 σ' D o), fun σ' H' h => h, fun x H2 y => ?_⟩
        obtain ⟨F2, g2, rx⟩ := yl x H2 y
        split at e1
        · cases e1
        · rename_i ρ2 hb2
          refine ⟨F2, ρ1, φ1, _, ρ2, en1.grow g2, rx, hb2, fun σ3 φ3 en3 st3 p3 _ => ?_⟩
          have k3 := k1.step (g2.step.trans st3) p3
          have lt : ds.length - (i + 1) < ds.length - i := by omega
          have sm3 := sm.trans g2.ff
          split at e1
          · rename_i ρ' hs
            exact ⟨F2, ρ2, φ3, _, en3, hs, fun σ' F' H' φ' st en' pp => ⟨_, lt, rfl, hlt, F', ρ', φ', sm3.trans st.ff, en', e1, k3.step st pp⟩⟩
          · rename_i ρ' hs
            exact ⟨F2, ρ2, φ3, _, en3, hs, fun σ' F' H' φ' st en' pp => ⟨_, lt, rfl, hlt, F', ρ', φ', sm3.trans st.ff, en', e1, k3.step st pp⟩⟩
          · rename_i ρ' hs
            cases e1
            exact ⟨F2, ρ2, φ3, _, en3, hs, k3⟩
          · rename_i d ρ' hs
            cases e1
            exact ⟨F2, ρ2, φ3, _, en3, hs, k3⟩
          · cases e1
      · left
        have hi : i = ds.length := by omega
        subst hi
        rw [List.drop_length, fLoop] at e1
        cases e1
        exact ⟨src.2 _ F1 H1 (Nat.le_refl _) sm en1.base, k1 σ1 F1 H1 φ1 (Step.refl en1.base) en1 Pin.refl⟩
    · cases e
end
end DI

set_option Elab.async false
set_option linter.all false
set_option maxRecDepth 100000
/-! DI, part F: defs, calls, what is walked. -/
namespace DI
open PySem PySem.Spec PyProof.Rows L2

/-! ### a def's promise -/
def spD (K : PySem.W.Frag) (n : Nat) (rm : Md) (g : List D → Option D) : Sp := fun vs H Q _ =>
  vs.length = n ∧ ∃ F ds d, Base F H ∧ Rs K F vs ds ∧ g ds = some d ∧ Post K rm F H d Q
/-- a body run from its arguments; N names in all -/
def runD (N : Nat) (s : En → Option Out) : List D → Option D := fun ds => match s (ds.map (fun d => some (.F, d)) ++ List.replicate (N - ds.length) none) with
  | some (.rt d _) => some d
  | some (.nx _) => some .none
  | _ => none

section
variable {P : Program} {w : World} {K : PySem.W.Frag} {mg : Str → Option Value} {base : Heap} {F F' F'' G H H' H'' : Hp} {d : D} {v : V} {m rm : Md}
theorem Rs.start {vs : List V} {ds : List D} {i : Nat} {k : Md} {d : D} {n : Nat} (r : Rs K F vs ds) (h : (ds.map (fun d => some (Md.F, d)) ++ List.replicate n none)[i]? = some (some (k, d))) : k = .F ∧ ∃ v, (vs.map some ++ List.replicate n none)[i]? = some (some v) ∧ R K F v d := by
  by_cases hi : i < ds.length
  · rw [List.getElem?_append_left (by rw [List.length_map]; exact hi), List.getElem?_map] at h
    rw [List.getElem?_append_left (by rw [List.length_map, r.length]; exact hi), List.getElem?_map]
    cases q : ds[i]? with
    | none => rw [q] at h; cases h
    | some d' =>
      rw [q] at h
      cases h
      obtain ⟨v, hv, rv⟩ := r.get q
      exact ⟨rfl, v, by rw [hv]; rfl, rv⟩
  · rw [List.getElem?_append_right (by rw [List.length_map]; omega), List.getElem?_replicate] at h
    split at h <;> cases h
theorem envR_start {vs : List V} {ds : List D} {n : Nat} (b : Base F H) (r : Rs K F vs ds) : EnvR K F H (ds.map (fun d => some (.F, d)) ++ List.replicate n none) (vs.map some ++ List.replicate n none) (fun _ => []) where
  base := b
  sl := fun i k d h => by
    obtain ⟨rfl, v, h1, h2⟩ := r.start h
    exact ⟨rfl, v, h1, h2, rfl⟩
  em := fun _ _ => rfl
  nd := fun _ => List.nodup_nil
  dj := fun _ _ _ h => nomatch h
  len := by simp [r.length]
theorem Step.grow0 {φ' : Nat → List Addr} (g : Step F H (fun _ => []) F' H' φ') (b : Base F' H') : Grow F H F' H' where
  hh := fun a o e => g.hh a o e fun _ h => nomatch h
  ff := g.ff
  fh := b.fh
  fr := fun a o e => by
    rcases g.fr a o e with h | h | ⟨i, h⟩
    · exact .inl h
    · exact .inr h
    · cases h
  im := b.im
/-- a def keeps its promise -/
theorem fn_d {x qual : Str} {st : Stmt} {f : Addr} {fd : FuncData} {N ps : List Str} {k : Nat} {c : En → Option Out} (Fn : Fun K x qual st f fd) (S : FnScope N ps (defScope st)) (hrm : rm = .T ∨ rm = .F)
    (hbody : ∀ (cdv : Value) (A : Around) (outer : List Env) (s : Shared) (H : Hp) (E : XK), Room k (A.deeper (envOfC qual (defScope st) s.heap.objs.size f cdv)) →
      SSJ (cxOf CX0 P w K mg base N qual (defScope st) f cdv A outer s H E).nox rm [] (defBody st) c) : FnOk P w K mg base CX0 (k + 1) f fd ps (spD K ps.length rm (runD N.length c)) := by
  refine Fn.ok S (fun vs H Q E h => h.1) (fun cdv A outer s H vs Q E hr h => ⟨_, hbody cdv A outer s H E hr, ?_⟩)
  obtain ⟨hl, F, ds, d, b, r, e, p⟩ := h
  unfold runD at e
  have en := envR_start (n := N.length - vs.length) b r
  rw [← r.length] at e
  split at e
  · rename_i d' ρ' hs
    cases e
    refine ⟨F, _, _, _, en, hs, ?_⟩
    intro v σ' F' H' φ' L g en' _ mm n fr _
    refine p v F' H' L (g.grow0 en'.base) mm n fun a ha => ?_
    rcases fr a ha with q | ⟨_, q⟩
    · exact q
    · cases q
  · rename_i ρ' hs
    cases e
    refine ⟨F, _, _, _, en, hs, ?_⟩
    intro σ' F' H' φ' g en' _
    refine p .non F' H' [] (g.grow0 en'.base) ?_ List.nodup_nil fun _ h => nomatch h
    rcases hrm with rfl | rfl
    · exact OT.flat rfl .non
    · exact ⟨.non, rfl⟩
  · cases e
/-- another function, where it answers -/
theorem spD_imp {k n : Nat} {f : Addr} {fd : FuncData} {ps : List Str} {g g' : List D → Option D} (h : FnOk P w K mg base CX0 k f fd ps (spD K n rm g)) (i : ∀ ds d, g' ds = some d → g ds = some d) : FnOk P w K mg base CX0 k f fd ps (spD K n rm g') :=
  h.imp fun vs H Q E ⟨hl, F, ds, d, b, r, e, p⟩ => ⟨hl, F, ds, d, b, r, i ds d e, p⟩

/-! ### calls -/
mutual
theorem OT.reF {F2 : Hp} (im : ∀ a o, F' a = some o → imm o = true → F2 a = some o) : ∀ {v : V} {d : D} {L : List Addr}, OT K F' H' v d L → (∀ a ∈ L, F2 a = none) → OT K F2 H' v d L
  | _, _, _, .flat e r, _ => .flat e (r.flat_im im e)
  | _, _, _, .lst a b c, h => .lst (h _ (by simp)) b (OTs.reF im c fun x hx => h x (by simp [hx]))
  | _, _, _, .tup a c, h => .tup (im _ _ a rfl) (OTs.reF im c h)
  | _, _, _, .dic a b c, h => .dic (h _ (by simp)) b (OTk.reF im c fun x hx => h x (by simp [hx]))
  | _, _, _, .dit a b c, h => .dit (h _ (by simp)) b (OTt.reF im c fun x hx => h x (by simp [hx]))
theorem OTs.reF {F2 : Hp} (im : ∀ a o, F' a = some o → imm o = true → F2 a = some o) : ∀ {v : List V} {d : List D} {L : List Addr}, OTs K F' H' v d L → (∀ a ∈ L, F2 a = none) → OTs K F2 H' v d L
  | _, _, _, .nil, _ => .nil
  | _, _, _, .cons a b, h => .cons (OT.reF im a fun x hx => h x (by simp [hx])) (OTs.reF im b fun x hx => h x (by simp [hx]))
theorem OTk.reF {F2 : Hp} (im : ∀ a o, F' a = some o → imm o = true → F2 a = some o) : ∀ {v : List (Key × V)} {d : List (D × D)} {L : List Addr}, OTk K F' H' v d L → (∀ a ∈ L, F2 a = none) → OTk K F2 H' v d L
  | _, _, _, .nil, _ => .nil
  | _, _, _, .cons a b, h => .cons (OT.reF im a fun x hx => h x (by simp [hx])) (OTk.reF im b fun x hx => h x (by simp [hx]))
theorem OTt.reF {F2 : Hp} (im : ∀ a o, F' a = some o → imm o = true → F2 a = some o) : ∀ {v : List (List Key × V)} {d : List (D × D)} {L : List Addr}, OTt K F' H' v d L → (∀ a ∈ L, F2 a = none) → OTt K F2 H' v d L
  | _, _, _, .nil, _ => .nil
  | _, _, _, .cons a b, h => .cons (OT.reF im a fun x hx => h x (by simp [hx])) (OTt.reF im b fun x hx => h x (by simp [hx]))
end
/-- what is frozen now, where the callee took all for frozen -/
def backF (F H F' : Hp) : Hp := fun a => if (H a).isSome = true then F a else F' a
theorem backF_grow (b : Base F H) (g : Grow H H F' H') : Grow F H (backF F H F') H' where
  hh := g.hh
  ff := fun a o e => by
    unfold backF
    rw [b.fh a o e]
    exact e
  fh := fun a o e => by
    unfold backF at e
    split at e
    · exact g.hh _ _ (b.fh a o e)
    · exact g.fh a o e
  fr := fun a o e => by
    unfold backF at e
    split at e
    · exact .inl e
    · rename_i h
      right
      cases q : H a with
      | none => rfl
      | some u => rw [q] at h; exact absurd rfl h
  im := fun a o e i => by
    unfold backF
    split
    · rename_i h
      cases q : H a with
      | none => rw [q] at h; cases h
      | some u =>
        have := g.hh a u q
        rw [e] at this
        cases this
        exact b.im a o q i
    · exact g.im a o e i
theorem Post.call (b : Base F H) {Q : VK} (p : Post K .T F H d Q) : Post K .T H H d Q := fun v F' H' L g mm n fr => by
  have g2 := backF_grow b g
  refine p v _ H' L g2 (OT.reF (fun a o e i => g2.im a o (g.fh a o e) i) mm fun a ha => ?_) n fr
  unfold backF
  rw [fr a ha]
  exact (OT.own mm a ha).1
end

section
variable {X : Cx} {K : PySem.W.Frag} {F F' F'' H H' H'' : Hp} {d : D} {Q : VK} {v : V} {m rm : Md} {e a b c tg : Expr} {es : List Expr} {f g fa fb fc : En → Option D} {fs : En → Option (List D)} {pos pos' p : Pos} {x : Str} {k n : Nat} {fa' : Addr} {fd : FuncData} {ps : List Str} {gg : List D → Option D}
def fCall (n : Nat) (g : List D → Option D) (fs : En → Option (List D)) : En → Option D := fun ρ => match fs ρ with
  | some ds => if ds.length = n then g ds else none
  | none => none
theorem fCall_some {ρ : En} (h : fCall n gg fs ρ = some d) : ∃ ds, fs ρ = some ds ∧ ds.length = n ∧ gg ds = some d := by
  unfold fCall at h
  split at h
  · split at h
    · exact ⟨_, by assumption, by assumption, h⟩
    · cases h
  · cases h
/-- the arguments frozen -/
theorem ej_call (Fn : FnOk X.prog X.w X.K X.mg X.base CX0 k fa' fd ps (spD X.K n rm gg)) (hr : Room k X.A) (hg : Gl X x) (hm : X.mg x = some (.ref fa')) (hk : PySem.W.keepIn X.K (.ref fa') = true) (hb : Binds X.K fd ps []) (ha : AJ X .F (e :: es) fs)
    (hdb : (x == ("__debug__" : Str)) = false := by decide) (he : starEach (e :: es) X.env = (false, eval e X.env) :: starEach es X.env := by rfl) (hpl : (backTo pos (starEach es X.env)).any (·.1) = false := by rfl) : EJ X rm (.Call (.Name x p) (e :: es) [] pos) (fCall n gg fs) :=
  PE.imp (pe_call (E := E0) Fn hr hg hm hk hb .nil pass0 ha hdb he hpl) fun σ H Q ⟨F, ρ, φ, d, en, e, q⟩ => by
    obtain ⟨ds, e1, e2, e3⟩ := fCall_some e
    refine ⟨F, ρ, φ, ds, en, e1, fun vs F1 H1 L g1 m1 _ _ => ?_⟩
    show spD X.K n _ gg (vs ++ []) H1 Q E0
    rw [List.append_nil]
    exact ⟨by rw [m1.1.length]; exact e2, F1, ds, d, g1.base, m1.1, e3, q.grow g1⟩
/-- the arguments borrowed, the answer new all through -/
theorem ej_callB (Fn : FnOk X.prog X.w X.K X.mg X.base CX0 k fa' fd ps (spD X.K n .T gg)) (hr : Room k X.A) (hg : Gl X x) (hm : X.mg x = some (.ref fa')) (hk : PySem.W.keepIn X.K (.ref fa') = true) (hb : Binds X.K fd ps []) (ha : AJ X .B (e :: es) fs)
    (hdb : (x == ("__debug__" : Str)) = false := by decide) (he : starEach (e :: es) X.env = (false, eval e X.env) :: starEach es X.env := by rfl) (hpl : (backTo pos (starEach es X.env)).any (·.1) = false := by rfl) : EJ X .T (.Call (.Name x p) (e :: es) [] pos) (fCall n gg fs) :=
  PE.imp (pe_call (E := E0) Fn hr hg hm hk hb .nil pass0 ha hdb he hpl) fun σ H Q ⟨F, ρ, φ, d, en, e, q⟩ => by
    obtain ⟨ds, e1, e2, e3⟩ := fCall_some e
    refine ⟨F, ρ, φ, ds, en, e1, fun vs F1 H1 L g1 m1 _ _ => ?_⟩
    show spD X.K n _ gg (vs ++ []) H1 Q E0
    rw [List.append_nil]
    exact ⟨by rw [m1.1.length]; exact e2, H1, ds, d, ⟨Same.refl _, fun _ _ e _ => e⟩, m1.1, e3, (q.grow g1).call g1.base⟩
/-- moved arguments would be lost: they are frozen -/
theorem em_call {mv : List Nat} (Fn : FnOk X.prog X.w X.K X.mg X.base CX0 k fa' fd ps (spD X.K n rm gg)) (hr : Room k X.A) (hg : Gl X x) (hm : X.mg x = some (.ref fa')) (hk : PySem.W.keepIn X.K (.ref fa') = true) (hb : Binds X.K fd ps []) (ha : AM X .F (e :: es) fs mv)
    (hdb : (x == ("__debug__" : Str)) = false := by decide) (he : starEach (e :: es) X.env = (false, eval e X.env) :: starEach es X.env := by rfl) (hpl : (backTo pos (starEach es X.env)).any (·.1) = false := by rfl) : EM X rm (.Call (.Name x p) (e :: es) [] pos) (fCall n gg fs) mv :=
  PE.imp (pe_call (E := E0) Fn hr hg hm hk hb .nil pass0 ha hdb he hpl) fun σ H Q ⟨F, ρ, φ, d, en, e, q⟩ => by
    obtain ⟨ds, e1, e2, e3⟩ := fCall_some e
    refine ⟨F, ρ, φ, ds, en, e1, fun vs F1 H1 L g1 m1 _ _ => ?_⟩
    show spD X.K n _ gg (vs ++ []) H1 Q E0
    rw [List.append_nil]
    refine ⟨by rw [m1.1.length]; exact e2, F1, ds, d, ⟨g1.fh, g1.im⟩, m1.1, e3, fun v F' H' L g mm n fr => q v F' H' L ⟨g1.hh.trans g.hh, g1.ff.trans g.ff, g.fh, fun a o e => ?_, g.im⟩ mm n fun a ha => .inl (g1.hh.free (fr a ha))⟩
    rcases g.fr a o e with z | z
    · exact g1.fr a o z
    · exact .inr (.inl (g1.hh.free z))

/-! ### what is walked -/
/-- the single argument of a built-in, borrowed -/
theorem pa1 (h : EJ X m e f) (hm : m.ar = true) (hs : starEach [e] X.env = (false, eval e X.env) :: starEach [] X.env := by rfl) : AJ X m [e] (aCons f aNil) := aj_cons h (aj_nil hm) hs
theorem Src.list {a : Addr} {ds : List D} (r : R K F (.ref a) (.list ds)) : Src K (Itl K a) F ds := by
  cases r with
  | lst h r =>
    refine ⟨fun i d F1 H1 hd sm b => ?_, fun i F1 H1 hl sm b => ⟨_, sq_l (sm.trans b.fh) h, by rw [r.length]; exact hl⟩⟩
    obtain ⟨v, hv, rv⟩ := r.get hd
    refine ⟨⟨_, v, sq_l (sm.trans b.fh) h, hv⟩, fun x H2 y => ?_⟩
    obtain ⟨rfl, y⟩ := y
    have e := y _ (sq_l (sm.trans b.fh) h)
    rw [hv] at e
    cases e
    exact ⟨F1, b.refl, rv.mono sm⟩
def fItems (f : En → Option D) : En → Option (List D) := fun ρ => match f ρ with
  | some (.list ds) => some ds
  | _ => none
theorem fItems_some {ρ : En} {ds : List D} (h : fItems f ρ = some ds) : f ρ = some (.list ds) := by
  unfold fItems at h
  split at h
  · cases h; assumption
  · cases h
theorem ij_list (h : EJ X .F e f) : IJ X tg e (fItems f) := PI.imp (pi_list h) fun σ H Rr ⟨F, ρ, φ, ds, en, e, k⟩ => by
  refine ⟨F, ρ, φ, _, en, fItems_some e, fun v F1 H1 L g m _ _ => ?_⟩
  have r := m.1
  cases r with
  | lst h r => exact ⟨_, rfl, ⟨_, sq_l g.fh h⟩, k _ F1 H1 g (Src.list (.lst h r))⟩
def fItemsT (f : En → Option D) : En → Option (List D) := fun ρ => match f ρ with
  | some (.tuple ds) => some ds
  | _ => none
theorem fItemsT_some {ρ : En} {ds : List D} (h : fItemsT f ρ = some ds) : f ρ = some (.tuple ds) := by
  unfold fItemsT at h
  split at h
  · cases h; assumption
  · cases h
theorem ij_tup (h : EJ X .F e f) : IJ X tg e (fItemsT f) := PI.imp (pi_tup h) fun σ H Rr ⟨F, ρ, φ, ds, en, e, k⟩ => by
  refine ⟨F, ρ, φ, _, en, fItemsT_some e, fun v F1 H1 L g m _ _ => ?_⟩
  have r := m.1
  cases r with
  | tup h r =>
    refine ⟨_, rfl, ⟨_, SqT.of (g.fh _ _ h)⟩, k _ F1 H1 g ⟨fun i d F2 H2 hd sm b => ?_, fun i F2 H2 hl sm b => ⟨_, SqT.of (b.fh _ _ (sm _ _ h)), by rw [r.length]; exact hl⟩⟩⟩
    obtain ⟨v, hv, rv⟩ := r.get hd
    refine ⟨⟨_, v, SqT.of (b.fh _ _ (sm _ _ h)), hv⟩, fun x H3 y => ?_⟩
    obtain ⟨rfl, y⟩ := y
    have e := y _ (SqT.of (b.fh _ _ (sm _ _ h)))
    rw [hv] at e
    cases e
    exact ⟨F2, b.refl, rv.mono sm⟩
def irng (lo : Int) (n : Nat) : List D := (List.range n).map fun (i : Nat) => .int (lo + (i : Nat))
theorem irng_get {lo : Int} {n i : Nat} {d : D} (h : (irng lo n)[i]? = some d) : i < n ∧ d = .int (lo + (i : Nat)) := by
  unfold irng at h
  rw [List.getElem?_map] at h
  by_cases hi : i < n
  · rw [List.getElem?_range hi] at h
    cases h
    exact ⟨hi, rfl⟩
  · rw [List.getElem?_eq_none (by rw [List.length_range]; omega)] at h
    cases h
theorem irng_length {lo : Int} {n : Nat} : (irng lo n).length = n := by unfold irng; rw [List.length_map, List.length_range]
theorem Src.irng {lo : Int} {n : Nat} : Src K (Itr lo n) F (irng lo n) := ⟨fun i d F1 H1 hd sm b => by
  obtain ⟨hi, rfl⟩ := irng_get hd
  refine ⟨hi, fun x H2 y => ?_⟩
  obtain ⟨rfl, rfl⟩ := y
  exact ⟨F1, b.refl, .int _⟩, fun i F1 H1 hl sm b => by rw [irng_length] at hl; exact hl⟩
def okR (i : Int) : Bool := decide (-(2 ^ 62) ≤ i) && decide (i < 2 ^ 62)
theorem okR_of {i : Int} (h : okR i = true) : -(2 ^ 62) ≤ i ∧ i < 2 ^ 62 := by
  simpa only [okR, Bool.and_eq_true, decide_eq_true_eq] using h
def fRange1 (f : En → Option D) : En → Option (List D) := fun ρ => match f ρ with
  | some (.int j) => if okR j = true then some (irng 0 j.toNat) else none
  | _ => none
def fRange2 (f g : En → Option D) : En → Option (List D) := fun ρ => match f ρ, g ρ with
  | some (.int i), some (.int j) => if okR i = true ∧ okR j = true then some (irng i (j - i).toNat) else none
  | _, _ => none
theorem ij_range1 (hg : Gl X "range") (hm : X.mg "range" = none) (h : EJ X .B e f) (hs : starEach [e] X.env = [(false, eval e X.env)] := by rfl) : IJ X tg (.Call (.Name "range" p) [e] [] pos) (fRange1 f) :=
  PI.imp (pi_range1 hg hm (pa1 h rfl hs) hs) fun σ H Rr ⟨F, ρ, φ, ds, en, e, k⟩ => by
    unfold fRange1 at e
    split at e
    · split at e
      · cases e
        rename_i j hf hj
        obtain ⟨h1, h2⟩ := okR_of hj
        refine ⟨F, ρ, φ, [.int j], en, by simp only [aCons, hf, aNil], fun vs F1 H1 L g m _ _ => ?_⟩
        have r := m.1
        cases r with
        | cons r1 r2 =>
          cases r1; cases r2
          exact ⟨j, rfl, h1, h2, k _ F1 H1 g Src.irng⟩
      · cases e
    · cases e
theorem ij_range2 (hg : Gl X "range") (hm : X.mg "range" = none) (ha : EJ X .B a fa) (hb : EJ X .B b fb) (hs : starEach [a, b] X.env = [(false, eval a X.env), (false, eval b X.env)] := by rfl) (hs2 : starEach [b] X.env = [(false, eval b X.env)] := by rfl) :
    IJ X tg (.Call (.Name "range" p) [a, b] [] pos) (fRange2 fa fb) :=
  PI.imp (pi_range2 hg hm (aj_cons ha (pa1 hb rfl hs2) (by rw [hs, hs2])) hs hs2) fun σ H Rr ⟨F, ρ, φ, ds, en, e, k⟩ => by
    unfold fRange2 at e
    split at e
    · split at e
      · cases e
        rename_i i j hf hgf hj
        obtain ⟨h1, h2⟩ := okR_of hj.1
        obtain ⟨h3, h4⟩ := okR_of hj.2
        refine ⟨F, ρ, φ, [.int i, .int j], en, by simp only [aCons, hf, hgf, aNil], fun vs F1 H1 L g m _ _ => ?_⟩
        have r := m.1
        cases r with
        | cons r1 r2 =>
          cases r1
          cases r2 with
          | cons r1 r2 =>
            cases r1; cases r2
            exact ⟨i, j, rfl, ⟨h1, h2, h3, h4⟩, k _ F1 H1 g Src.irng⟩
      · cases e
    · cases e
/-- each with its place -/
def enumD (ds : List D) : List D := ds.zipIdx.map fun p => .tuple [.int (p.2 : Nat), p.1]
theorem enumD_get {ds : List D} {i : Nat} {d : D} (h : (enumD ds)[i]? = some d) : ∃ x, ds[i]? = some x ∧ d = .tuple [.int (i : Nat), x] := by
  unfold enumD at h
  rw [List.getElem?_map, List.getElem?_zipIdx] at h
  cases q : ds[i]? with
  | none => rw [q] at h; cases h
  | some x => rw [q] at h; cases h; exact ⟨x, rfl, by simp⟩
theorem enumD_length {ds : List D} : (enumD ds).length = ds.length := by unfold enumD; rw [List.length_map, List.length_zipIdx]
theorem ij_enum {elts : List Expr} {kk : Nat} {tpos : Pos} (hg : Gl X "enumerate") (hm : X.mg "enumerate" = none) (h : EJ X .F e f) (hs : starEach [e] X.env = [(false, eval e X.env)] := by rfl) :
    IJ X (.Tuple elts kk tpos) (.Call (.Name "enumerate" p) [e] [] pos) (fun ρ => (fItems f ρ).map enumD) :=
  PI.imp (pi_enum hg hm (pa1 h rfl hs) hs) fun σ H Rr ⟨F, ρ, φ, ds, en, e, k⟩ => by
    obtain ⟨ds', e1, rfl⟩ := Option.map_eq_some_iff.mp e
    refine ⟨F, ρ, φ, [.list ds'], en, by simp only [aCons, fItems_some e1, aNil], fun vs F1 H1 L g m _ _ => ?_⟩
    have r := m.1
    cases r with
    | cons r1 r2 =>
      cases r2
      cases r1 with
      | lst h r =>
        rename_i a xs
        refine ⟨_, _, rfl, sq_l g.fh h, k _ F1 H1 g ⟨fun i d F2 H2 hd sm b => ?_, fun i F2 H2 hl sm b => ⟨_, sq_l (sm.trans b.fh) h, by rw [r.length]; rw [enumD_length] at hl; exact hl⟩⟩⟩
        obtain ⟨x, hx, rfl⟩ := enumD_get hd
        obtain ⟨v, hv, rv⟩ := r.get hx
        refine ⟨⟨_, v, sq_l (sm.trans b.fh) h, hv⟩, fun z H3 y => ?_⟩
        obtain ⟨T, x', rfl, hT, rfl, y⟩ := y
        have e := y _ (sq_l (sm.trans b.fh) h)
        rw [hv] at e
        cases e
        have g2 := Grow.new (o := .tup [.int (i : Nat), v]) b hT
        exact ⟨_, g2, .tup upd_same (.cons (.int _) (.cons ((rv.mono sm).mono g2.ff) .nil))⟩
/-- two lists side by side -/
def zipD (xs ys : List D) : List D := (xs.zip ys).map fun p => .tuple [p.1, p.2]
theorem zipD_get {xs ys : List D} {i : Nat} {d : D} (h : (zipD xs ys)[i]? = some d) : ∃ x y, xs[i]? = some x ∧ ys[i]? = some y ∧ d = .tuple [x, y] := by
  unfold zipD at h
  rw [List.getElem?_map] at h
  obtain ⟨p, hp, rfl⟩ := Option.map_eq_some_iff.mp h
  obtain ⟨h1, h2⟩ := List.getElem?_zip_eq_some.mp hp
  exact ⟨_, _, h1, h2, rfl⟩
theorem zipD_length {xs ys : List D} : (zipD xs ys).length = min xs.length ys.length := by unfold zipD; rw [List.length_map, List.length_zip]
def fZip (f g : En → Option D) : En → Option (List D) := fun ρ => match f ρ, g ρ with
  | some (.list xs), some (.list ys) => some (zipD xs ys)
  | _, _ => none
theorem ij_zip {elts : List Expr} {kk : Nat} {tpos : Pos} (hg : Gl X "zip") (hm : X.mg "zip" = none) (ha : EJ X .F a fa) (hb : EJ X .F b fb) (hs : starEach [a, b] X.env = (false, eval a X.env) :: starEach [b] X.env := by rfl) (hs2 : starEach [b] X.env = (false, eval b X.env) :: starEach [] X.env := by rfl)
    (hpl : (backTo pos (starEach [b] X.env)).any (·.1) = false := by rfl) : IJ X (.Tuple elts kk tpos) (.Call (.Name "zip" p) [a, b] [] pos) (fZip fa fb) :=
  PI.imp (pi_zip hg hm (aj_cons ha (aj_cons hb (aj_nil (m := .F)) hs2) hs) hs hpl) fun σ H Rr ⟨F, ρ, φ, ds, en, e, k⟩ => by
    unfold fZip at e
    split at e
    · cases e
      rename_i xs ys hf hgf
      refine ⟨F, ρ, φ, [.list xs, .list ys], en, by simp only [aCons, hf, hgf, aNil], fun vs F1 H1 L g m _ _ => ?_⟩
      have r := m.1
      cases r with
      | cons r1 r2 =>
        cases r2 with
        | cons r2 r3 =>
          cases r3
          cases r1 with
          | lst h r =>
            cases r2 with
            | lst h' r' =>
              refine ⟨_, _, _, _, rfl, sq_l g.fh h, sq_l g.fh h', k _ F1 H1 g ⟨fun i d F2 H2 hd sm b => ?_, fun i F2 H2 hl sm b => ⟨_, _, sq_l (sm.trans b.fh) h, sq_l (sm.trans b.fh) h', ?_⟩⟩⟩
              · obtain ⟨x, y, hx, hy, rfl⟩ := zipD_get hd
                obtain ⟨v, hv, rv⟩ := r.get hx
                obtain ⟨u, hu, ru⟩ := r'.get hy
                refine ⟨⟨_, _, v, u, sq_l (sm.trans b.fh) h, sq_l (sm.trans b.fh) h', hv, hu⟩, fun z H3 y => ?_⟩
                obtain ⟨T, x', y', rfl, hT, rfl, y1, y2⟩ := y
                have e := y1 _ (sq_l (sm.trans b.fh) h)
                rw [hv] at e
                cases e
                have e := y2 _ (sq_l (sm.trans b.fh) h')
                rw [hu] at e
                cases e
                have g2 := Grow.new (o := .tup [v, u]) b hT
                exact ⟨_, g2, .tup upd_same (.cons ((rv.mono sm).mono g2.ff) (.cons ((ru.mono sm).mono g2.ff) .nil))⟩
              · rw [r.length, r'.length]
                rw [zipD_length] at hl
                omega
    · cases e
end
end DI

set_option Elab.async false
set_option linter.all false
set_option maxRecDepth 100000
/-! DI, part G: comprehensions. -/
namespace DI
open PySem PySem.Spec PyProof.Rows L2

section
variable {X : Cx} {K : PySem.W.Frag} {F F' F'' H H' H'' : Hp} {d : D} {Q : VK} {v : V} {m rm : Md} {e a b c tg it elt : Expr} {es ifs : List Expr} {f g fa fb fc : En → Option D} {pos pos' p spos : Pos} {x : Str} {k n : Nat} {ρ : En} {σ σ' : L2.St} {φ : Nat → List Addr} {pn : List Nat}
def CJs (X : Cx) (ifs : List Expr) (f : En → Option Bool) : Prop := PTs X ifs (tTJ X.K f)
def cTrue : En → Option Bool := fun _ => some true
theorem cs_nil : CJs X [] cTrue := ⟨fun pins s σ H Q I h => by
  obtain ⟨F, ρ, φ, b, en, e, k⟩ := h
  cases e
  exact pts_nil.run pins s σ H Q I (k F H en.base.refl)⟩
theorem cs_one {q : En → Option Bool} (h : CJ X c q) : CJs X [c] q := pts_one h
def lcLoop (bb : D → En → Option En) (cc : En → Option Bool) (f : En → Option D) (ρ : En) : List D → Option (List D)
  | [] => some []
  | d :: ds => match bb d ρ with
    | none => none
    | some ρ1 => match cc ρ1 with
      | none => none
      | some false => lcLoop bb cc f ρ ds
      | some true => match f ρ1 with
        | none => none
        | some y => match lcLoop bb cc f ρ ds with
          | none => none
          | some ys => some (y :: ys)
def fLc (N : Nat) (own : List Nat) (fi : En → Option (List D)) (bb : D → En → Option En) (cc : En → Option Bool) (f : En → Option D) : En → Option D := fun ρ =>
  if ρ.length = N then match fi ρ with
    | none => none
    | some ds => if ds.length < 1000000 then match lcLoop bb cc f (clr own ρ) ds with
      | none => none
      | some ys => some (.list ys)
      else none
  else none
theorem fLc_some {N : Nat} {own : List Nat} {fi : En → Option (List D)} {bb : D → En → Option En} {cc : En → Option Bool} (h : fLc N own fi bb cc f ρ = some d) : ρ.length = N ∧ ∃ ds ys, fi ρ = some ds ∧ ds.length < 1000000 ∧ lcLoop bb cc f (clr own ρ) ds = some ys ∧ d = .list ys := by
  unfold fLc at h
  split at h
  · split at h
    · cases h
    · split at h
      · split at h
        · cases h
        · cases h
          exact ⟨by assumption, _, _, by assumption, by assumption, by assumption, rfl⟩
      · cases h
  · cases h
theorem wipe_clr (en : EnvR K F H ρ σ φ) : ∀ own : List Nat, EnvR K F H (clr own ρ) (wipe σ own) (clrφ own φ) := fun own => by
  have e1 := en.clr (mv := own) en.base.refl.gm
  refine ⟨e1.base, fun i m d h => ?_, e1.em, e1.nd, e1.dj, by rw [clr_length, wipe_length]; exact en.len⟩
  obtain ⟨h0, v, h1, h2⟩ := e1.sl i m d h
  refine ⟨h0, v, ?_, h2⟩
  rw [wipe_out (clr_in h).1]
  exact h1
theorem wipe_in {i : Nat} : ∀ {vs : List Nat}, i ∈ vs → (wipe σ vs)[i]? = if i < σ.length then some none else none
  | [], h => by cases h
  | j :: vs, h => by
    unfold wipe
    by_cases hj : j = i
    · subst hj
      by_cases hl : j < σ.length
      · rw [List.getElem?_set_self (by rw [wipe_length]; exact hl), if_pos hl]
      · rw [List.getElem?_eq_none (by rw [List.length_set, wipe_length]; omega), if_neg hl]
    · rw [List.getElem?_set_ne hj]
      exact wipe_in ((List.mem_cons.mp h).resolve_left fun e => hj e.symm)
theorem wipe_same {vs : List Nat} (hl : σ'.length = σ.length) (h : ∀ j, j < σ.length → j ∉ vs → σ'[j]? = σ[j]?) : wipe σ' vs = wipe σ vs := by
  apply List.ext_getElem?
  intro j
  by_cases hj : j ∈ vs
  · rw [wipe_in hj, wipe_in hj, hl]
  · rw [wipe_out hj, wipe_out hj]
    by_cases hlt : j < σ.length
    · exact h j hlt hj
    · rw [List.getElem?_eq_none (by omega), List.getElem?_eq_none (by omega)]
/-- the mode of a list of such elements -/
def Md.lc : Md → Md
  | .T => .T
  | _ => .o
theorem Ms.snoc {vs : List V} {ds : List D} {L L' : List Addr} (hm : m = .T ∨ m = .F) (h : Ms K m F H vs ds L) (r : M K m F H v d L') : Ms K m F H (vs ++ [v]) (ds ++ [d]) (L ++ L') := by
  rcases hm with rfl | rfl
  · exact OTs.snoc h r
  · exact ⟨h.1.snoc r.1, by rw [h.2, r.2]; rfl⟩
theorem lc_of {own : List (Str × Nat)} {N : Nat} {fi : En → Option (List D)} {bb : D → En → Option En} {cc : En → Option Bool} {mv : List Nat} (hm : m = .T ∨ m = .F) (hpn : ∀ j, j < N → j ∉ own.map (·.2) → j ∈ pn) (Ke : PySem.W.Frag) :
    ∀ σ H Q, tJ Ke m.lc (fLc N (own.map (·.2)) fi bb cc f) σ H Q → tLc (tI Ke fi) (tGJ Ke pn bb) (tTJ Ke cc) (tJ Ke m f) (own.map (·.2)) σ H Q := fun σ H Q ⟨F, ρ, φ, d, en, e, q⟩ => by
  obtain ⟨hN, ds, ys, e1, hz, e2, rfl⟩ := fLc_some e
  refine ⟨F, ρ, φ, ds, en, e1, fun J F1 H1 g1 src A hA => ?_⟩
  generalize hvs : own.map (·.2) = vs at *
  have hst : m.st = true := by rcases hm with rfl | rfl <;> rfl
  have har : m.ar = true := by rcases hm with rfl | rfl <;> rfl
  refine ⟨fun i k Hc => k = ds.length - i ∧ i ≤ ds.length ∧ ∃ Fc acc done rest L, Grow F1 H1 Fc Hc ∧ Fc A = none ∧ Hc A = some (.lst acc) ∧ Ms Ke m Fc Hc acc done L ∧ L.Nodup ∧ A ∉ L ∧ (∀ a ∈ L, H1 a = none) ∧ acc.length ≤ i ∧
    lcLoop bb cc f (clr vs ρ) (ds.drop i) = some rest ∧ done ++ rest = ys, ⟨_, rfl, Nat.zero_le _, F1, [], [], ys, [], Grow.own g1.base hA rfl, Same.free g1.fh hA, upd_same, .nil har, List.nodup_nil, by simp, by simp, Nat.le_refl _, e2, rfl⟩, ?_⟩
  rintro i k Hc ⟨rfl, hle, Fc, acc, done, rest, L, gc, hFA, hHA, ms, nd, hAL, fr, hacc, hl, hys⟩
  by_cases hlt : i < ds.length
  · right
    have hget : ds[i]? = some ds[i] := List.getElem?_eq_getElem hlt
    obtain ⟨go, yl⟩ := src.1 i _ Fc Hc hget gc.ff gc.base
    rw [List.drop_eq_getElem_cons hlt, lcLoop] at hl
    refine ⟨go, fun H' => ∃ m', m' < ds.length - i ∧ (m' = ds.length - (i + 1) ∧ i + 1 ≤ ds.length ∧ ∃ Fc acc done rest L, Grow F1 H1 Fc H' ∧ Fc A = none ∧ H' A = some (.lst acc) ∧ Ms Ke m Fc H' acc done L ∧ L.Nodup ∧ A ∉ L ∧ (∀ a ∈ L, H1 a = none) ∧ acc.length ≤ i + 1 ∧
      lcLoop bb cc f (clr vs ρ) (ds.drop (i + 1)) = some rest ∧ done ++ rest = ys), fun H' h => h, fun x H2 y => ?_⟩
    obtain ⟨F2, g2, rx⟩ := yl x H2 y
    split at hl
    · cases hl
    · rename_i ρ1 hb1
      have en2 := wipe_clr ((en.grow g1).grow (gc.trans g2)) vs
      refine ⟨F2, clr vs ρ, _, _, ρ1, en2, rx, hb1, fun σ3 φ3 en3 st3 p3 hl3 => ⟨?_, ?_⟩⟩
      · have hw : wipe σ3 vs = wipe (wipe σ vs) vs := wipe_same hl3 fun j hj hn => p3 j (hpn j (by rw [wipe_length, ← en.len, hN] at hj; exact hj) hn)
        rw [hw]
        exact wipe_same (wipe_length ..) fun j _ hn => wipe_out hn
      · have lt : ds.length - (i + 1) < ds.length - i := by omega
        split at hl
        · cases hl
        · rename_i hcc
          refine ⟨F2, ρ1, φ3, false, en3, hcc, fun F4 H4 g4 => ?_⟩
          refine iteF ?_
          have gg := gc.trans (g2.trans g4)
          exact ⟨_, lt, rfl, hlt, F4, acc, done, rest, L, gg, (g2.trans g4).keepNone hFA hHA, (g2.trans g4).hh _ _ hHA, ms.grow (g2.trans g4), nd, hAL, fr, by omega, hl, hys⟩
        · rename_i hcc
          split at hl
          · cases hl
          · rename_i yd hf
            split at hl
            · cases hl
            · rename_i ys' hrest
              cases hl
              refine ⟨F2, ρ1, φ3, true, en3, hcc, fun F4 H4 g4 => ?_⟩
              refine iteT ?_
              refine ⟨F4, ρ1, φ3, yd, en3.grow g4, hf, fun yv F5 H5 L5 g5 m5 n5 f5 => ?_⟩
              have g25 := g2.trans (g4.trans g5)
              have hA5 : H5 A = some (.lst acc) := g25.hh _ _ hHA
              have hF5 : F5 A = none := g25.keepNone hFA hHA
              have hA4 : H4 A = some (.lst acc) := (g2.trans g4).hh _ _ hHA
              refine ⟨acc, hA5, by rw [sizeLine_eq]; omega, _, lt, rfl, hlt, F5, acc ++ [yv], done ++ [yd], ys', L ++ L5, ?_, hF5, upd_same, ?_, ?_, ?_, ?_, ?_, hrest, by rw [List.append_assoc]; exact hys⟩
              · have gg := gc.trans g25
                refine ⟨fun a o e => ?_, gg.ff, fun a o e => ?_, gg.fr, fun a o e im => ?_⟩
                · rw [upd_ne (ne_of_none e hA)]; exact gg.hh a o e
                · rw [upd_ne (fun z => by rw [z, hF5] at e; cases e)]; exact gg.fh a o e
                · by_cases h : a = A
                  · subst h; rw [upd_same] at e; cases e; cases im
                  · rw [upd_ne h] at e; exact gg.im a o e im
              · have m1 := ms.grow g25
                have o1 := m1.own
                have o5 := m5.own
                have hA5L : A ∉ L5 := fun h => by
                  have := f5 A h
                  rw [hA4] at this
                  cases this
                exact Ms.snoc hm (m1.keep hst (Same.refl _) fun a ha => ⟨(o1 a ha).1, upd_ne (fun z => hAL (by rw [← z]; exact ha))⟩) (m5.keep hst (Same.refl _) fun a ha => ⟨(o5 a ha).1, upd_ne (fun z => hA5L (by rw [← z]; exact ha))⟩)
              · refine List.nodup_append.mpr ⟨nd, n5, fun a ha b hb e => ?_⟩
                subst e
                obtain ⟨_, o, ho, _⟩ := (ms.grow (g2.trans g4)).own a ha
                rw [f5 a hb] at ho
                cases ho
              · rw [List.mem_append]
                rintro (h | h)
                · exact hAL h
                · have := f5 A h
                  rw [hA4] at this
                  cases this
              · intro a ha
                rcases List.mem_append.mp ha with ha | ha
                · exact fr a ha
                · exact (gc.trans (g2.trans g4)).hh.free (f5 a ha)
              · rw [List.length_append, List.length_singleton]; omega
  · left
    have hi : i = ds.length := by omega
    subst hi
    rw [List.drop_length, lcLoop] at hl
    cases hl
    rw [List.append_nil] at hys
    subst hys
    refine ⟨src.2 _ Fc Hc (Nat.le_refl _) gc.ff gc.base, q (.ref A) Fc Hc (A :: L) (g1.trans gc) ?_ (List.nodup_cons.mpr ⟨hAL, nd⟩) fun a ha => ?_⟩
    · rcases hm with rfl | rfl
      · exact OT.lst hFA hHA ms
      · rw [ms.2]
        exact O1.lst hFA hHA ms.1
    · rcases List.mem_cons.mp ha with rfl | ha
      · exact g1.hh.free hA
      · exact g1.hh.free (fr a ha)
theorem ej_lc {scope : Scope} {own : List (Str × Nat)} {fi : En → Option (List D)} {bb : D → En → Option En} {cc : En → Option Bool} (m : Md) (pn : List Nat) (N : Nat) (hc : X.calm = true) (hN : X.N.Nodup) (hi : IJ X tg it fi) (ok : BlkOk X.N X.env.scope scope own)
    (hg : ∀ (s : Shared) (H : Hp) (C : Addr) (cl : List (Str × Addr)) (fp : List Addr), GJ (X.blk s H scope (compEnvC scope cl C X.env) fp) pn tg bb) (ht : ∀ (s : Shared) (H : Hp) (C : Addr) (cl : List (Str × Addr)) (fp : List Addr), CJs (X.blk s H scope (compEnvC scope cl C X.env) fp) ifs cc)
    (he : ∀ (s : Shared) (H : Hp) (C : Addr) (cl : List (Str × Addr)) (fp : List Addr), EJ (X.blk s H scope (compEnvC scope cl C X.env) fp) m elt f) (hm : m = .T ∨ m = .F) (hpn : ∀ j, j < N → j ∉ own.map (·.2) → j ∈ pn) (hs : ∀ x, foldedSetIterable it X.env x = pure x := by intro _; rfl) :
    EJ X m.lc (.ListComp elt [⟨tg, it, ifs, 0⟩] scope pos) (fLc N (own.map (·.2)) fi bb cc f) :=
  PE.imp (pe_lc (wi := tI X.K fi) (g := tGJ X.K pn bb) (tt := tTJ X.K cc) (te := tJ X.K m f) hc hN hi ok hg ht he hs) (lc_of (mv := []) hm hpn X.K)
/-- y = [..], told by the layer's own rule ps_setLc -/
theorem sj_asgLc {scope : Scope} {own : List (Str × Nat)} {fi : En → Option (List D)} {bb : D → En → Option En} {cc : En → Option Bool} {i : Nat} {y : Str} {py : Pos} (m : Md) (pn pn' : List Nat) (N : Nat) (hc : X.calm = true) (hN : X.N.Nodup) (hy : X.N[i]? = some y) (hyl : X.env.scope.names.lookup y = some .local)
    (hsw : swapsWith (.ListComp elt [⟨tg, it, ifs, 0⟩] scope pos) (some (.Name y py)) spos.line X.env = pure true) (hi : IJ X tg it fi) (ok : BlkOk X.N X.env.scope scope own)
    (hg : ∀ (s : Shared) (H : Hp) (C : Addr) (cl : List (Str × Addr)) (fp : List Addr), GJ (X.blk s H scope (compEnvC scope cl C X.env) fp) pn tg bb) (ht : ∀ (s : Shared) (H : Hp) (C : Addr) (cl : List (Str × Addr)) (fp : List Addr), CJs (X.blk s H scope (compEnvC scope cl C X.env) fp) ifs cc)
    (he : ∀ (s : Shared) (H : Hp) (C : Addr) (cl : List (Str × Addr)) (fp : List Addr), EJ (X.blk s H scope (compEnvC scope cl C X.env) fp) m elt f) (hm : m = .T ∨ m = .F) (hpn : ∀ j, j < N → j ∉ own.map (·.2) → j ∈ pn) (hs : ∀ x, foldedSetIterable it X.env x = pure x := by intro _; rfl) (hp : i ∉ pn' := by decide) :
    SJ X rm pn' (.Assign [.Name y py] (.ListComp elt [⟨tg, it, ifs, 0⟩] scope pos) spos) (sAsg i m.lc (fLc N (own.map (·.2)) fi bb cc f) []) :=
  sj_asgP (PS.imp (ps_setLc (wi := tI X.K fi) (g := tGJ X.K pn bb) (tt := tTJ X.K cc) (te := tJ X.K m f) hc hN hy hyl hsw hi ok hg ht he hs) fun D σ H h => lc_of (mv := []) hm hpn X.K σ H _ (by
    obtain ⟨F, ρ, φ, d, en, e, q⟩ := h
    exact ⟨F, ρ, φ, d, en, e, fun v F' H' L g mm n fr => q v F' H' L g.gm mm n fun a ha => .inl (fr a ha)⟩)) (by rcases hm with rfl | rfl <;> rfl) hp
/-- the same, frozen as it is stored -/
theorem sj_asgLcF {scope : Scope} {own : List (Str × Nat)} {fi : En → Option (List D)} {bb : D → En → Option En} {cc : En → Option Bool} {i : Nat} {y : Str} {py : Pos} (m : Md) (pn pn' : List Nat) (N : Nat) (hc : X.calm = true) (hN : X.N.Nodup) (hy : X.N[i]? = some y) (hyl : X.env.scope.names.lookup y = some .local)
    (hsw : swapsWith (.ListComp elt [⟨tg, it, ifs, 0⟩] scope pos) (some (.Name y py)) spos.line X.env = pure true) (hi : IJ X tg it fi) (ok : BlkOk X.N X.env.scope scope own)
    (hg : ∀ (s : Shared) (H : Hp) (C : Addr) (cl : List (Str × Addr)) (fp : List Addr), GJ (X.blk s H scope (compEnvC scope cl C X.env) fp) pn tg bb) (ht : ∀ (s : Shared) (H : Hp) (C : Addr) (cl : List (Str × Addr)) (fp : List Addr), CJs (X.blk s H scope (compEnvC scope cl C X.env) fp) ifs cc)
    (he : ∀ (s : Shared) (H : Hp) (C : Addr) (cl : List (Str × Addr)) (fp : List Addr), EJ (X.blk s H scope (compEnvC scope cl C X.env) fp) m elt f) (hm : m = .T ∨ m = .F) (hpn : ∀ j, j < N → j ∉ own.map (·.2) → j ∈ pn) (hs : ∀ x, foldedSetIterable it X.env x = pure x := by intro _; rfl) (hp : i ∉ pn' := by decide) :
    SJ X rm pn' (.Assign [.Name y py] (.ListComp elt [⟨tg, it, ifs, 0⟩] scope pos) spos) (sAsg i .F (fLc N (own.map (·.2)) fi bb cc f) []) :=
  sj_asgP (PS.imp (ps_setLc (wi := tI X.K fi) (g := tGJ X.K pn bb) (tt := tTJ X.K cc) (te := tJ X.K m f) hc hN hy hyl hsw hi ok hg ht he hs) fun D σ H h => lc_of (mv := []) hm hpn X.K σ H _ (by
    obtain ⟨F, ρ, φ, d, en, e, q⟩ := h
    exact ⟨F, ρ, φ, d, en, e, fun v F' H' L g mm n fr => q v _ H' [] (g.frz mm.own fr).gm ⟨mm.frz (by rcases hm with rfl | rfl <;> rfl), rfl⟩ List.nodup_nil fun _ h => nomatch h⟩)) rfl hp
end
end DI

set_option Elab.async false
set_option linter.all false
set_option maxRecDepth 100000
/-! DI, part S: a set made of a list, sorted; its elements are of one kind of key. -/
namespace DI
open PySem PySem.Spec PyProof.Rows L2

section
variable {P : Program} {w : World} {κ : Type} [DecidableEq κ] {knd : PySem.KeyKind P w κ} {kf : Value → κ} {h h' : Heap} {a : Addr} {l l' : List κ}
/-- at a stands a set whose elements' keys are just l, in some order; it can be walked -/
def SetG (knd : PySem.KeyKind P w κ) (kf : Value → κ) (h : Heap) (a : Addr) (l : List κ) : Prop :=
  ∃ o es ep t, h.get? a = some o ∧ o.ExactSet ∧ o.data = .set es ep t ∧ ElemsOf knd es.toList ∧ (es.toList.map fun e => kf e.2).Perm l ∧ l.Nodup ∧
    es.size < scanBound ∧ t.fits es.size = true ∧ Ris t.place.toList ∧ (w.params.followText "set-order" = true ∨ t.led = true)
/-- the key of an element is read off it -/
def Reads (knd : PySem.KeyKind P w κ) (kf : Value → κ) : Prop := ∀ k v, knd.is k v = true → kf v = k
theorem SetG.at (R : SetG knd kf h a l) (k : ∀ o, h.get? a = some o → h'.get? a = some o) : SetG knd kf h' a l := by
  obtain ⟨o, es, ep, t, ho, r⟩ := R
  exact ⟨o, es, ep, t, k o ho, r⟩
theorem elem_is (rd : Reads knd kf) {e : Int × Value} {es : List (Int × Value)} (g : ElemsOf knd es) (he : e ∈ es) (k : κ) : knd.is k e.2 = true ↔ kf e.2 = k := by
  obtain ⟨⟨k0, h1, _⟩, _⟩ := g e he
  refine ⟨fun q => rd k _ q, fun q => ?_⟩
  rw [← q, rd k0 _ h1]
  exact h1
theorem keys_mem (rd : Reads knd kf) {es : List (Int × Value)} (g : ElemsOf knd es) (k : κ) : k ∈ es.map (fun e => kf e.2) ↔ ∃ e ∈ es, knd.is k e.2 = true := by
  rw [List.mem_map]
  exact ⟨fun ⟨e, he, q⟩ => ⟨e, he, (elem_is rd g he k).2 q⟩, fun ⟨e, he, q⟩ => ⟨e, he, (elem_is rd g he k).1 q⟩⟩
end

section
variable {P : Program} {w : World} {κ : Type} [DecidableEq κ] {knd : PySem.KeyKind P w κ} {kf : Value → κ} {A : Around} {E : Value → Shared → Prop} {s : Shared} {a : Addr} {l : List κ}
/-- an element more, stored; the table may be laid anew -/
theorem setG_tail (rd : Reads knd kf) {g : Bool → Sem Unit} (hg : ∀ (b : Bool) (s1 : Shared) (Q1 : Unit → Shared → Prop), Q1 () s1 → wpAny (model P w) A (g b) Q1 E s1)
    {o : Obj} {es es1 : Array (Int × Value)} {ep : Nat} {t t2 : SetTable} (ho : s.heap.get? a = some o) (hex : o.ExactSet) (hd : o.data = .set es ep t)
    (g1 : ElemsOf knd es1.toList) (pm : (es1.toList.map fun e => kf e.2).Perm l) (nd : l.Nodup) (hb1 : es1.size < scanBound) (hf2 : t2.fits es1.size = true) (hr : Ris t2.place.toList) (hl : w.params.followText "set-order" = true ∨ t2.led = true)
    {was : Bool} {R : Option Bool → Shared → Prop} (hR : ∀ h2, Heap.SameBut a s.heap h2 → SetG knd kf h2 a l → R (some true) { s with heap := h2 }) :
    wpAny (model P w) A (do
        storeSet a es1 t2
        if (!was && t2.tooFull) = true then do
            g (relayAll t2 es1 (SetTable.grown es1.size)).2.2
            storeSet a (relayAll t2 es1 (SetTable.grown es1.size)).1 (relayAll t2 es1 (SetTable.grown es1.size)).2.1
            pure (some true)
          else pure (some true)) R E s := by
  refine wpAny_bind (wpAny_storeSet_of ho hd ?_ (fits_of_scanBound hb1))
  have at1 := store_at (es' := es1) (t' := t2) ho hd
  have sb1 := Heap.SameBut.update s.heap a (Obj.putSet es1 t2)
  split
  · have q1 := relayAll_perm t2 es1 (SetTable.grown es1.size)
    have q2 := relayAll_fits t2 es1 (SetTable.grown es1.size)
    have q3 := relayAll_ris t2 es1 (SetTable.grown es1.size)
    have q4 := relayAll_led t2 es1 (SetTable.grown es1.size)
    generalize relayAll t2 es1 (SetTable.grown es1.size) = Z at q1 q2 q3 q4 ⊢
    obtain ⟨es2, t3, gave⟩ := Z
    dsimp only at q1 q2 q3 q4 ⊢
    have sz : es2.size = es1.size := by rw [← Array.length_toList, q1.length_eq, Array.length_toList]
    have hb2 : es2.size < scanBound := by omega
    refine wpAny_bind (hg _ _ _ (wpAny_bind (wpAny_storeSet_of at1 rfl ?_ (fits_of_scanBound hb2))))
    have at2 := store_at (es' := es2) (t' := t3) at1 rfl
    refine wpAny_pure (hR _ (sb1.trans (Heap.SameBut.update _ a _)) ⟨_, es2, _, t3, at2, hex, rfl, fun e he => g1 e (q1.mem_iff.mp he), (q1.map _).trans pm, nd, hb2, q2, q3, ?_⟩)
    exact hl.imp id fun z => by rw [q4]; exact z
  · exact wpAny_pure (hR _ sb1 ⟨_, es1, _, t2, at1, hex, rfl, g1, pm, nd, hb1, hf2, hr, hl⟩)
theorem setG_add (rd : Reads knd kf) {k : κ} {x : Value} {Q : Bool → Shared → Prop} (R : SetG knd kf s.heap a l) (hk : knd.is k x = true) (hx : x.scannable = true) (room : l.length + 1 < scanBound)
    (hQ : ∀ h2 b, Heap.SameBut a s.heap h2 → SetG knd kf h2 a (if k ∈ l then l else k :: l) → Q b { s with heap := h2 }) : wpAny (model P w) A (setAddHashed a x (knd.hash k)) Q E s := by
  obtain ⟨o, es, ep, t, ho, hex, hd, g, pm, nd, hb, hf, hr, hl⟩ := R
  unfold setAddHashed setAddHashedIn
  refine wpAny_holding (wpAny_bind (wpAny_setState_of ho hd hf ?_))
  dsimp only
  rw [byScan_of hx hb g]
  simp only [↓reduceIte]
  unfold setAddByScan
  refine wpAny_bind (wpAny_bind (wpAny_rule (wpAny_bind (wpAny_setScan_of hk ho hd hf g ?_))))
  cases hfi : List.findIdx? (fun e => knd.is k e.2) es.toList with
  | some j =>
    dsimp only
    obtain ⟨hj, pj, _⟩ := List.findIdx?_eq_some_iff_getElem.mp hfi
    have km : k ∈ l := pm.mem_iff.mp ((keys_mem rd g k).2 ⟨es.toList[j], List.getElem_mem hj, pj⟩)
    refine wpAny_pure (wpAny_pure (hQ s.heap _ (Heap.SameBut.refl a s.heap) ?_))
    rw [if_pos km]
    exact ⟨o, es, ep, t, ho, hex, hd, g, pm, nd, hb, hf, hr, hl⟩
  | none =>
    dsimp only
    have km : k ∉ l := fun z => by
      obtain ⟨e, he, q⟩ := (keys_mem rd g k).1 (pm.mem_iff.mpr z)
      have c := List.findIdx?_eq_none_iff.mp hfi e he
      rw [q] at c
      cases c
    have gw : ∀ (b : Bool) {s1 : Shared} {Q1 : Unit → Shared → Prop}, Q1 () s1 → wpAny (model P w) A (match b with | true => rule "set.scan.the-table-gave-way" | false => pure ()) Q1 E s1 :=
      fun b s1 Q1 q => by cases b <;> first | exact wpAny_pure q | exact wpAny_rule q
    have p1 := layNew_perm t es (knd.hash k) x
    have p2 := layNew_fits t es (knd.hash k) x
    have p3 := layNew_ris t es (knd.hash k) x hr
    have p4 := layNew_led t es (knd.hash k) x
    generalize layNew t es (knd.hash k) x = Z at p1 p2 p3 p4 ⊢
    obtain ⟨es1, t1, was, gave⟩ := Z
    dsimp only at p1 p2 p3 p4 ⊢
    rw [Array.toList_push] at p1
    have pc : es1.toList.Perm ((knd.hash k, x) :: es.toList) := p1.trans (List.perm_append_singleton _ _)
    have pk : (es1.toList.map fun e => kf e.2).Perm (k :: l) := by
      have q := pc.map fun e => kf e.2
      rw [List.map_cons, show kf ((knd.hash k, x) : Int × Value).2 = k from rd k x hk] at q
      exact q.trans (pm.cons k)
    have g1 : ElemsOf knd es1.toList := fun e he => by
      rcases List.mem_cons.mp (pc.mem_iff.mp he) with z | z
      · rw [z]; exact ⟨⟨k, hk, rfl⟩, hx⟩
      · exact g e z
    have nd1 : (k :: l).Nodup := List.nodup_cons.mpr ⟨km, nd⟩
    have sz : es1.size = l.length + 1 := by
      have q := pk.length_eq
      rw [List.length_map, Array.length_toList] at q
      exact q
    have hb1 : es1.size < scanBound := by omega
    have hl1 : w.params.followText "set-order" = true ∨ t1.led = true := hl.imp id fun z => by rw [p4]; exact z
    have fin : ∀ h2, Heap.SameBut a s.heap h2 → SetG knd kf h2 a (k :: l) → Q true { s with heap := h2 } := fun h2 sb r => hQ h2 _ sb (by rw [if_neg km]; exact r)
    refine wpAny_bind (gw _ ?_)
    split
    · refine wpAny_bind ?_
      rw [hashByValue_scannable 8 hx]
      refine wpAny_pure (setG_tail rd ?_ ho hex hd g1 pk nd1 hb1 ?_ ?_ ?_ ?_)
      · intro b s1 Q1 q; cases b <;> first | exact wpAny_pure q | exact wpAny_rule q
      · first | (split <;> first | exact p2 | exact SetTable.fits_plain_off p2) | exact p2
      · first | (split <;> exact p3) | exact p3
      · first | (split <;> exact hl1) | exact hl1
      · intro h2 sb r; dsimp only; exact wpAny_pure (fin h2 sb r)
    · refine wpAny_bind (wpAny_pure ?_)
      simp only [↓reduceIte]
      refine setG_tail rd ?_ ho hex hd g1 pk nd1 hb1 p2 p3 hl1 ?_
      · intro b s1 Q1 q; cases b <;> first | exact wpAny_pure q | exact wpAny_rule q
      · intro h2 sb r; dsimp only; exact wpAny_pure (fin h2 sb r)
/-- the keys met, each once -/
def metK (ks : List κ) : List κ := ks.foldl (fun l k => if k ∈ l then l else k :: l) []
theorem metK_snoc (ks : List κ) (k : κ) : metK (ks ++ [k]) = if k ∈ metK ks then metK ks else k :: metK ks := by
  unfold metK; rw [List.foldl_append]; rfl
theorem foldl_met : ∀ (ks l : List κ), (∀ x, x ∈ ks.foldl (fun l k => if k ∈ l then l else k :: l) l ↔ x ∈ l ∨ x ∈ ks) ∧ (l.Nodup → (ks.foldl (fun l k => if k ∈ l then l else k :: l) l).Nodup) ∧ (ks.foldl (fun l k => if k ∈ l then l else k :: l) l).length ≤ l.length + ks.length
  | [], l => ⟨fun x => by simp, fun h => h, by simp⟩
  | k :: ks, l => by
    rw [List.foldl_cons]
    obtain ⟨h1, h2, h3⟩ := foldl_met ks (if k ∈ l then l else k :: l)
    refine ⟨fun x => ?_, fun nd => h2 ?_, Nat.le_trans h3 ?_⟩
    · rw [h1]
      by_cases c : k ∈ l
      · rw [if_pos c]
        constructor
        · rintro (h | h)
          · exact .inl h
          · exact .inr (List.mem_cons_of_mem _ h)
        · rintro (h | h)
          · exact .inl h
          · rcases List.mem_cons.mp h with rfl | h
            · exact .inl c
            · exact .inr h
      · rw [if_neg c]
        simp only [List.mem_cons]
        constructor
        · rintro ((h | h) | h)
          · exact .inr (.inl h)
          · exact .inl h
          · exact .inr (.inr h)
        · rintro (h | h | h)
          · exact .inl (.inr h)
          · exact .inl (.inl h)
          · exact .inr h
    · by_cases c : k ∈ l
      · rw [if_pos c]; exact nd
      · rw [if_neg c]; exact List.nodup_cons.mpr ⟨c, nd⟩
    · by_cases c : k ∈ l
      · rw [if_pos c, List.length_cons]; omega
      · rw [if_neg c, List.length_cons, List.length_cons]; omega
theorem mem_metK {ks : List κ} {x : κ} : x ∈ metK ks ↔ x ∈ ks := by
  unfold metK; rw [(foldl_met ks []).1]; simp
theorem metK_nodup {ks : List κ} : (metK ks).Nodup := (foldl_met ks []).2.1 List.nodup_nil
theorem metK_le {ks : List κ} : (metK ks).length ≤ ks.length := by
  have := (foldl_met ks []).2.2
  simpa [metK] using this
theorem setG_loop (rd : Reads knd kf) {I : Addr} {fp wr : List Addr} {G : Array GenState → Array GenState → Prop} {n : Nat} {Pv : Nat → Value → Prop} {St : Nat → Shared → Prop} {R : Result → Shared → Prop}
    (W : WalksS P w A.in1 I fp wr G n Pv St) (S : Addr) (hSf : S ∉ fp) (ks : List κ) (hn : n = ks.length) (hb : ks.length + 1 < scanBound) (hval : ∀ i v, Pv i v → ∃ k, ks[i]? = some k ∧ knd.is k v = true ∧ v.scannable = true) :
    ∀ (c i : Nat) (s : Shared), n - i = c → i ≤ n → St i s → SetG knd kf s.heap S (metK (ks.take i)) →
      (∀ s2, Moved (S :: wr) G s s2 → SetG knd kf s2.heap S (metK ks) → R (.ok (.ret .none)) s2) → codeAny (model P w) A (.builtin "set.update.loop" ⟨[.ref S, .ref I], []⟩) R s := by
  have hSw : S ∉ wr := fun z => hSf (W.sub _ z)
  have sub : ∀ b ∈ wr, b ∈ S :: wr := fun b hb => List.mem_cons_of_mem _ hb
  intro c
  induction c with
  | zero =>
    intro i s hc hi hst hS hR
    have e : i = n := by omega
    subst e
    refine codeAny_builtin F.entry_set_update_loop ?_
    rw [Around.under_plainId F.plain_set_update_loop _]
    show wpAny _ A.in1 (pyNext (.ref I) >>= _) _ _ s
    refine wpAny_bind (W.done s _ _ hst fun s2 hm => ?_)
    show wpAny _ A.in1 (ret Value.none) _ _ s2
    rw [List.take_of_length_le (by omega)] at hS
    exact wpAny_pure (hR s2 (hm.mono sub) (hS.at fun o e => hm.heap S o hSw e))
  | succ c ih =>
    intro i s hc hi hst hS hR
    have hlt : i < n := by omega
    refine codeAny_builtin F.entry_set_update_loop ?_
    rw [Around.under_plainId F.plain_set_update_loop _]
    show wpAny _ A.in1 (pyNext (.ref I) >>= _) _ _ s
    refine wpAny_bind (W.item i s _ _ hlt hst fun v s2 hP hst2 hm => ?_)
    obtain ⟨k, hk, hkv, hsc⟩ := hval i v hP
    have hS2 : SetG knd kf s2.heap S (metK (ks.take i)) := hS.at fun o e => hm.heap S o hSw e
    show wpAny _ A.in1 (holding [v] (setAdd S v) >>= _) _ _ s2
    refine wpAny_bind (wpAny_holding ?_)
    unfold setAdd
    refine wpAny_holding (wpAny_bind (knd.pyHash hkv ?_))
    have len : (metK (ks.take i)).length ≤ i := Nat.le_trans metK_le (by rw [List.length_take]; omega)
    refine setG_add (s := { s2 with toks := s2.toks + 1 }) rd hS2 hkv hsc (by omega) fun h2 b hsb hS3 => ?_
    have e1 : ks.take i ++ [k] = ks.take (i + 1) := by rw [List.take_add_one, hk]; rfl
    rw [← metK_snoc, e1] at hS3
    refine wpAny_pure ⟨plainId_quiet F.plain_set_update_loop _, ih (i + 1) _ (by omega) hlt (W.frame _ s2 _ _ hst2 (Nat.le_succ _) fun b hb o e => ?_) hS3 fun s3 hm3 hS4 => ?_⟩
    · exact (hsb.2 b (fun z : b = S => hSf (by rw [← z]; exact hb))).trans e
    · refine hR s3 (Moved.trans W.gtrans ((hm.mono sub).then_heap (Nat.le_succ _) fun b o hb e => ?_) hm3) hS4
      exact (hsb.2 b (fun z : b = S => hb (by rw [z]; exact List.mem_cons_self))).trans e
/-- an empty set's object -/
def newSetObj (w : World) : Obj := { cls := .type "set", dict := none, data := .set #[] 0 (.fresh 0 0 (!w.params.followText "set-order")) }
theorem setG_new {h : Heap} (ho : h.get? a = some (newSetObj w)) : SetG knd kf h a (metK []) :=
  ⟨_, #[], 0, _, ho, ⟨rfl, rfl, rfl⟩, rfl, (fun e he => by simp at he), List.Perm.nil, List.nodup_nil, (by decide), (by rfl), List.Pairwise.nil, by
    show _ ∨ (!w.params.followText "set-order") = true
    cases w.params.followText "set-order"
    · exact .inr rfl
    · exact .inl rfl⟩
set_option maxHeartbeats 3200000 in
/-- set(xs), xs a list -/
theorem call_setG (rd : Reads knd kf) {L : Addr} {items : Array Value} (ks : List κ) {Q : Value → Shared → Prop} (hh : A.handled = none) (hl : s.heap.IsList L items) (hlen : items.size = ks.length) (hit : ∀ (i : Nat) (v : Value), items[i]? = some v → ∃ k : κ, ks[i]? = some k ∧ knd.is k v = true ∧ v.scannable = true)
    (hb : ks.length + 1 < scanBound) (hQ : ∀ (h2 : Heap) (tk : Nat), SetG knd kf h2 s.heap.objs.size (metK ks) → (∀ b o, s.heap.get? b = some o → h2.get? b = some o) → Q (.ref s.heap.objs.size) { s with heap := h2, toks := tk }) :
    wpAny (model P w) A (call (.type "set") [.ref L]) Q E s := by
  obtain ⟨c, tl, hmro⟩ := F.called_set.mro
  have hmade := F.called_set.made
  have hsub := F.called_set.sub
  refine wpAny_call (codeAny_of_tree ?_)
  show wpAny _ _ (callAny (.type "set") _) _ _ _
  refine wpAny_pure ⟨Code.quiet_builtin _ (by decide +kernel), codeAny_builtin F.entry_type_call ?_⟩
  rw [Around.under_plain (weight_type_call_type "set" [.ref L] []) rfl]
  have h1 := F.called_set.notType
  have h2 := F.called_set.canCreate
  have hct := F.typeCall_set_1 (.ref L)
  repeat (any_goals (first | assumption | wp_step))
  refine codeAny_mono (code_set_led1 (.ref L) (E := E) (Q₁ := fun obj s1 => obj = .ref s.heap.objs.size ∧ s1 = { s with heap := s.heap.push (newSetObj w) }) ⟨rfl, rfl⟩) fun r s1 hr => ?_
  cases r with
  | error e => exact hr
  | ok fl =>
    cases fl with
    | ret obj =>
      obtain ⟨rfl, rfl⟩ := hr
      have hS : (s.heap.push (newSetObj w)).get? s.heap.objs.size = some (newSetObj w) := Heap.get?_push_size _ rfl
      have hT : Shared.TypeIs { s with heap := s.heap.push (newSetObj w) } (.ref s.heap.objs.size) "set" := ⟨_, hS, rfl⟩
      have hli := F.called_set.init.lookup
      have hbi := F.called_set.init.bind (.ref s.heap.objs.size)
      repeat (any_goals (first | assumption | wp_step))
      refine codeAny_mono (codeAny_call_builtin (R := wants (fun r s2 => r = .none ∧ ∃ h2 tk, s2 = { s with heap := h2, toks := tk } ∧ SetG knd kf h2 s.heap.objs.size (metK ks) ∧
          (∀ b o, s.heap.get? b = some o → h2.get? b = some o)) E) F.called_set.init.plain F.entry_set_init (check_set_init_1 hT ?_)) fun r2 s2 hr2 => ?_
      · obtain ⟨ol, hol, hcl, nl, hdl⟩ := hl
        obtain ⟨ocls, odict, odata, oslots⟩ := ol
        simp only at hcl hdl
        subst hcl; subst hdl
        have hol2 : (s.heap.push (newSetObj w)).get? L = some { cls := .type "list", dict := odict, data := .seq items nl, slots := oslots } := Heap.get?_push_of_some _ hol
        have f1 := F.sub_list_set
        have f2 := F.sub_list_frozenset
        have f3 : (Value.type "list" == Value.type "dict") = false := by decide
        have hl1 : (s.heap.push (newSetObj w)).IsList L items := ⟨_, hol2, rfl, nl, rfl⟩
        unfold Builtin.«set.__init__» noKeywords Builtin.Frozenset.updateFrom
        generalize hPI : pyIter = PI
        wp_walk
        subst hPI
        refine wpAny_pyIter_list hl1 ?_
        refine wpAny_bind (wpAny_runValue ?_)
        have lt : L < s.heap.objs.size := Heap.lt_size hol
        have hh3 : A.in1.in1.in1.handled = none := by simp [hh]
        have sz1 : (s.heap.push (newSetObj w)).objs.size = s.heap.objs.size + 1 := size_push' _ _
        have neI : L ≠ (s.heap.push (newSetObj w)).objs.size := by rw [sz1]; exact Nat.ne_of_lt (Nat.lt_succ_of_lt lt)
        have out : s.heap.objs.size ∉ [(s.heap.push (newSetObj w)).objs.size, L] := by
          rw [sz1]; simp only [List.mem_cons, List.not_mem_nil, or_false, not_or]
          exact ⟨Nat.ne_of_lt (Nat.lt_succ_self _), Nat.ne_of_gt lt⟩
        refine setG_loop rd ((Walks.list hh3 _ L neI items).toS) s.heap.objs.size out ks hlen hb hit (items.size - 0) 0 _ (by omega) (Nat.zero_le _)
          ⟨⟨_, Heap.get?_push_size _ rfl, rfl, rfl⟩, (hl1.push _)⟩ ?hS0 ?hR
        case hS0 => exact setG_new (Heap.get?_push_of_some _ hS)
        case hR =>
          intro s3 hm hS3
          obtain ⟨h3, g3, d3, tk3, os3⟩ := s3
          obtain rfl : g3 = s.gens := hm.gens
          obtain rfl : d3 = s.drawn := hm.drawn
          obtain rfl : os3 = s.os := hm.os
          show wpAny _ _ _ _ _ _
          refine wpAny_pure ?_
          show wpAny _ _ (ret Value.none) _ _ _
          refine wpAny_pure ⟨rfl, h3, tk3, rfl, hS3, fun b o e => ?_⟩
          have b0 : b < s.heap.objs.size := Heap.lt_size e
          refine hm.heap b o ?_ (Heap.get?_push_of_some _ (Heap.get?_push_of_some _ e))
          rw [sz1]
          simp only [List.mem_cons, List.not_mem_nil, or_false, not_or]
          exact ⟨Nat.ne_of_lt b0, Nat.ne_of_lt (Nat.lt_succ_of_lt b0)⟩
      · cases r2 with
        | error e => exact hr2
        | ok fl2 =>
          cases fl2 with
          | ret r =>
            obtain ⟨rfl, h3, tk, rfl, hS3, hk3⟩ := hr2
            repeat (any_goals (first | assumption | wp_step))
            exact hQ _ _ hS3 hk3
          | _ => exact hr2.elim
    | _ => exact hr.elim
end

/-! ### texts -/
section
variable {P : Program} {w : World} {A : Around} {E : Value → Shared → Prop} {s : Shared} {a : Addr}
theorem reads_str : Reads (PySem.strKind P w) strOf := fun k v h => by
  cases v <;> first | (cases h; done) | skip
  rename_i x t
  have h' : Value.isStrOf k (.str x t) = true := h
  show x = k
  simpa [Value.isStrOf] using h'
theorem strs_of_keys : ∀ {vs : List Value}, (∀ v ∈ vs, ∃ x t, v = Value.str x t) → StrsAre vs (vs.map strOf) := fun {vs} h => strsAre_map vs h
/-- sorted(a set of texts) -/
theorem sorted_setS {l : List Str} {Q : Value → Shared → Prop} (R : SetG (PySem.strKind P w) strOf s.heap a l) (hh : A.handled = none)
    (hQ : ∀ s2 p (out : Array Value) (c : Nat) (ss : List Str), (∀ b o, s.heap.get? b = some o → s2.heap.get? b = some o) → s2.gens = s.gens → s2.os = s.os → s.heap.objs.size ≤ p →
      s2.heap.get? p = some (seqObj "list" out c) → StrsAre out.toList ss → ss.Perm l → sortedS ss = true → Q (.ref p) s2) : wpAny (model P w) A (call (.builtin "sorted") [.ref a]) Q E s := by
  obtain ⟨o, es, ep, t, ho, hex, hd, g, pm, nd, hb, hf, hr, hl⟩ := R
  refine Calls.call_function_entry kind_sorted plain_sorted entry_sorted (args_sorted1 _) ?_
  unfold Builtin.«sorted»
  refine wpAny_bind (m := checkCount "sorted" 1 1 _) (wpAny_pure ?_)
  refine wpAny_bind (collect_set (A := A.in1) hh ⟨o, ho, hex.1, hd⟩ hf hb hr hl fun s1 vs k1 hz g1 o1 p1 => ?_)
  have allS : ∀ v ∈ vs, ∃ x t, v = Value.str x t := fun v hv => by
    obtain ⟨e, he, q⟩ := List.mem_map.mp (p1.mem_iff.mp hv)
    obtain ⟨⟨k, h1, _⟩, _⟩ := g e he
    rw [← q]
    generalize e.2 = u at h1
    cases u <;> first | (cases h1; done) | exact ⟨_, _, rfl⟩
  have hS : StrsAre vs (vs.map strOf) := strsAre_map vs allS
  have pk : (vs.map strOf).Perm l := by
    have q := p1.map strOf
    rw [List.map_map] at q
    exact q.trans pm
  have len : vs.length ≤ sizeLine := by
    rw [p1.length_eq, List.length_map, Array.length_toList]
    exact fits_of_scanBound hb
  refine wpAny_bind (wpAny_newList ?_ len)
  have hoL : (s1.heap.push (seqObj "list" vs.toArray 0)).get? s1.heap.objs.size = some (seqObj "list" vs.toArray 0) := Heap.get?_push_size _ rfl
  refine wpAny_bind (wpAny_holding (wpAny_call_entry slot_list_sort ⟨_, hoL, rfl⟩ entry_list_sort (list_sort_treeKAny strKind_oneLt hoL hS.keysOf (fun v1 v2 rest e => keyKind_strs (by rw [← e]; exact hS)) len fun st' a1 a2 => ⟨_, rfl, ?_⟩) (args_list_sort _)))
  obtain ⟨ss, q1, q2, q3⟩ := sorted_out_str hS a1 a2
  obtain ⟨c, hc⟩ := sortedHeap_at (vs := vs) (out := (arrOf st').map (·.2)) hoL
  refine wpAny_pure ⟨_, rfl, hQ _ s1.heap.objs.size _ c ss (fun b u e => ?_) g1 o1 hz hc q1 (q2.trans pk) q3⟩
  have q := k1 b u e
  have lt := Heap.lt_size q
  show (sortedHeap (s1.heap.push (seqObj "list" vs.toArray 0)) s1.heap.objs.size vs _).get? b = some u
  rw [sortedHeap_old (Nat.ne_of_lt lt) (by rw [size_push']; exact Nat.lt_succ_of_lt lt)]
  exact Heap.get?_push_of_some _ q
end
end DI

set_option Elab.async false
set_option linter.all false
set_option maxRecDepth 100000
/-! DI, part H: built-ins. -/
namespace DI
open PySem PySem.Spec PyProof.Rows L2

/-! ### lists of ints, of texts -/
def allInt : List D → Option (List Int)
  | [] => some []
  | .int i :: r => (allInt r).map (i :: ·)
  | _ => none
def allStr : List D → Option (List Str)
  | [] => some []
  | .str x :: r => (allStr r).map (x :: ·)
  | _ => none
def allBl : List D → Option (List Bool)
  | [] => some []
  | .bool x :: r => (allBl r).map (x :: ·)
  | _ => none
theorem allInt_map : ∀ ns : List Int, allInt (ns.map PyData.int) = some ns
  | [] => rfl
  | n :: r => by show (allInt (r.map PyData.int)).map (n :: ·) = _; rw [allInt_map r]; rfl
theorem allStr_map : ∀ ns : List Str, allStr (ns.map PyData.str) = some ns
  | [] => rfl
  | n :: r => by show (allStr (r.map PyData.str)).map (n :: ·) = _; rw [allStr_map r]; rfl
theorem allBl_map : ∀ ns : List Bool, allBl (ns.map PyData.bool) = some ns
  | [] => rfl
  | n :: r => by show (allBl (r.map PyData.bool)).map (n :: ·) = _; rw [allBl_map r]; rfl
section
variable {K : PySem.W.Frag} {G F F' H H' : Hp} {d : D} {Q : VK} {v : V} {m : Md}
theorem Rs.ints_ : ∀ {ds : List D} {vs : List V} {ns : List Int}, Rs K G vs ds → allInt ds = some ns → vs = ns.map V.int ∧ ds = ns.map PyData.int
  | [], _, _, .nil, e => by cases e; exact ⟨rfl, rfl⟩
  | .int i :: r, _, _, .cons h t, e => by
    obtain ⟨k, hk, rfl⟩ := Option.map_eq_some_iff.mp e
    obtain ⟨h1, h2⟩ := Rs.ints_ t hk
    cases h
    rw [h1, h2]; exact ⟨rfl, rfl⟩
theorem Rs.strs_ : ∀ {ds : List D} {vs : List V} {ns : List Str}, Rs K G vs ds → allStr ds = some ns → vs = ns.map V.str ∧ ds = ns.map PyData.str
  | [], _, _, .nil, e => by cases e; exact ⟨rfl, rfl⟩
  | .str i :: r, _, _, .cons h t, e => by
    obtain ⟨k, hk, rfl⟩ := Option.map_eq_some_iff.mp e
    obtain ⟨h1, h2⟩ := Rs.strs_ t hk
    cases h
    rw [h1, h2]; exact ⟨rfl, rfl⟩
theorem Rs.bls_ : ∀ {ds : List D} {vs : List V} {ns : List Bool}, Rs K G vs ds → allBl ds = some ns → vs = ns.map V.bl ∧ ds = ns.map PyData.bool
  | [], _, _, .nil, e => by cases e; exact ⟨rfl, rfl⟩
  | .bool i :: r, _, _, .cons h t, e => by
    obtain ⟨k, hk, rfl⟩ := Option.map_eq_some_iff.mp e
    obtain ⟨h1, h2⟩ := Rs.bls_ t hk
    cases h
    rw [h1, h2]; exact ⟨rfl, rfl⟩
theorem OTs.ints_ : ∀ {ns : List Int}, OTs K F H (ns.map V.int) (ns.map PyData.int) []
  | [] => .nil
  | n :: r => OTs.cons (L := []) (L' := []) (.flat rfl (.int n)) OTs.ints_
theorem OTs.strs_ : ∀ {ns : List Str}, OTs K F H (ns.map V.str) (ns.map PyData.str) []
  | [] => .nil
  | n :: r => OTs.cons (L := []) (L' := []) (.flat rfl (.str n)) OTs.strs_
end

/-! ### calls of built-ins -/
/-- what a call of a built-in does to borrowed arguments, in mode m -/
def CB (K : PySem.W.Frag) (m : Md) (r : List V → Hp → VK → Prop) (g : List D → Option D) : Prop :=
  ∀ F H vs ds d Q, Base F H → Rs K H vs ds → g ds = some d → Post K m F H d Q → r vs H Q
def fApp (g : List D → Option D) (fs : En → Option (List D)) : En → Option D := fun ρ => match fs ρ with
  | some ds => g ds
  | none => none
theorem fApp_some {g : List D → Option D} {fs : En → Option (List D)} {ρ : En} {d : D} (h : fApp g fs ρ = some d) : ∃ ds, fs ρ = some ds ∧ g ds = some d := by
  unfold fApp at h
  split at h
  · exact ⟨_, by assumption, h⟩
  · cases h
section
variable {X : Cx} {K : PySem.W.Frag} {F F' F'' H H' H'' : Hp} {d : D} {Q : VK} {v : V} {m : Md} {e a b c tg : Expr} {es : List Expr} {f g fa fb fc : En → Option D} {fs : En → Option (List D)} {pos pos' p : Pos} {x : Str} {id T : String} {r : List V → Hp → VK → Prop} {gg g' : List D → Option D}
theorem CB.imp (hc : CB X.K m r gg) (h : PE X e (tCB r (tAJ X.K .B fs))) : EJ X m e (fApp gg fs) := PE.imp h fun σ H Q ⟨F, ρ, φ, d, en, e, k⟩ => by
  obtain ⟨ds, e1, e2⟩ := fApp_some e
  exact ⟨F, ρ, φ, ds, en, e1, fun vs F1 H1 L g1 m1 _ _ => hc F1 H1 vs ds d Q g1.base m1.1 e2 (k.grow g1)⟩
theorem ej_bi (hc : CallR X (.builtin id) r) (hr : CB X.K m r gg) (hg : Gl X x) (hm : X.mg x = none) (hv : bootBuiltins x = some (.builtin id)) (ha : AJ X .B (e :: es) fs) (hn : x ≠ "__name__" := by decide) (hdb : (x == ("__debug__" : Str)) = false := by decide)
    (he : starEach (e :: es) X.env = (false, eval e X.env) :: starEach es X.env := by rfl) (hpl : (backTo pos (starEach es X.env)).any (·.1) = false := by rfl) : EJ X m (.Call (.Name x p) (e :: es) [] pos) (fApp gg fs) :=
  hr.imp (pe_callB hc hg hm hv ha hn hdb he hpl)
theorem ej_bt (hc : CallR X (.type T) r) (hr : CB X.K m r gg) (hg : Gl X x) (hm : X.mg x = none) (hv : bootBuiltins x = some (.type T)) (ha : AJ X .B (e :: es) fs) (hn : x ≠ "__name__" := by decide) (hdb : (x == ("__debug__" : Str)) = false := by decide)
    (he : starEach (e :: es) X.env = (false, eval e X.env) :: starEach es X.env := by rfl) (hpl : (backTo pos (starEach es X.env)).any (·.1) = false := by rfl) : EJ X m (.Call (.Name x p) (e :: es) [] pos) (fApp gg fs) :=
  hr.imp (pe_callTy hc hg hm hv ha hn hdb he hpl)
theorem CB.or {r' : List V → Hp → VK → Prop} (h : CB K m r gg) (h' : CB K m r' g') : CB K m (fun xs H Q => r xs H Q ∨ r' xs H Q) (fun ds => match gg ds with | some d => some d | none => g' ds) := fun F H vs ds d Q b rv e p => by
  dsimp only at e
  split at e
  · rename_i hq
    cases e
    exact .inl (h F H vs ds _ Q b rv hq p)
  · exact .inr (h' F H vs ds d Q b rv e p)

/-! ### len -/
def rLenA (K : PySem.W.Frag) : List V → Hp → VK → Prop := fun xs H Q => (∃ x n, xs = [x] ∧ LenV K x H n ∧ Q (.int n) H) ∨ (∃ a kvs, xs = [V.ref a] ∧ H a = some (.dK kvs) ∧ Q (.int kvs.length) H)
def dLen : List D → Option D
  | [.str z] => if z.length ≤ 1000000 then some (.int z.length) else none
  | [.list xs] => some (.int xs.length)
  | [.tuple xs] => some (.int xs.length)
  | _ => none
theorem cb_len : CB K .T (fun xs H Q => ∃ x n, xs = [x] ∧ LenV K x H n ∧ Q (.int n) H) dLen := fun F H vs ds d Q b rv e p => by
  unfold dLen at e
  split at e
  · split at e
    · cases e
      rename_i hl
      cases rv with | cons r t => cases t; cases r; exact ⟨_, _, rfl, ⟨scal1M hl, rfl⟩, p.T0 b rfl (.int _)⟩
    · cases e
  · cases e
    cases rv with | cons r t => cases t; cases r with | lst h r => exact ⟨_, _, rfl, .inl ⟨_, h, rfl⟩, by rw [r.length]; exact p.T0 b rfl (.int _)⟩
  · cases e
    cases rv with | cons r t => cases t; cases r with | tup h r => exact ⟨_, _, rfl, .inr ⟨_, SqT.of h, rfl⟩, by rw [r.length]; exact p.T0 b rfl (.int _)⟩
  · cases e
theorem ej_len (hg : Gl X "len") (hm : X.mg "len" = none) (ha : AJ X .B [e] fs) (he : starEach [e] X.env = (false, eval e X.env) :: starEach [] X.env := by rfl) : EJ X .T (.Call (.Name "len" p) [e] [] pos) (fApp dLen fs) :=
  ej_bi call_len cb_len hg hm rfl ha (by decide) (by decide) he rfl

/-! ### int, str, abs, min, max of two -/
def dInt : List D → Option D
  | [.int i] => some (.int i)
  | [.bool k] => some (.int (if k then 1 else 0))
  | _ => none
theorem ej_int1 (hg : Gl X "int") (hm : X.mg "int" = none) (ha : AJ X .B [e] fs) (he : starEach [e] X.env = (false, eval e X.env) :: starEach [] X.env := by rfl) : EJ X .T (.Call (.Name "int" p) [e] [] pos) (fApp dInt fs) :=
  ej_bt call_int1 (fun F H vs ds d Q b rv e p => by
    unfold dInt at e
    split at e
    · cases e
      cases rv with | cons r t => cases t; cases r; exact .inl ⟨_, rfl, p.T0 b rfl (.int _)⟩
    · cases e
      cases rv with | cons r t => cases t; cases r; exact .inr ⟨_, rfl, p.T0 b rfl (.int _)⟩
    · cases e) hg hm rfl ha (by decide) (by decide) he rfl
def dIntS : List D → Option D
  | [.str a] => if a.length ≤ 640 then (PySem.intText? a).map .int else none
  | _ => none
theorem ej_intS (hg : Gl X "int") (hm : X.mg "int" = none) (ha : AJ X .B [e] fs) (he : starEach [e] X.env = (false, eval e X.env) :: starEach [] X.env := by rfl) : EJ X .T (.Call (.Name "int" p) [e] [] pos) (fApp dIntS fs) :=
  ej_bt call_int_str (fun F H vs ds d Q b rv e p => by
    unfold dIntS at e
    split at e
    · split at e
      · rename_i hl
        obtain ⟨n, hn, rfl⟩ := Option.map_eq_some_iff.mp e
        cases rv with | cons r t => cases t; cases r; exact ⟨_, n, rfl, hn, hl, p.T0 b rfl (.int _)⟩
      · cases e
    · cases e) hg hm rfl ha (by decide) (by decide) he rfl
def dStr : List D → Option D
  | [.int i] => if i.natAbs.log2 < 1920 then some (.str (toString i)) else none
  | _ => none
theorem ej_strI (hg : Gl X "str") (hm : X.mg "str" = none) (ha : AJ X .B [e] fs) (he : starEach [e] X.env = (false, eval e X.env) :: starEach [] X.env := by rfl) : EJ X .T (.Call (.Name "str" p) [e] [] pos) (fApp dStr fs) :=
  ej_bt call_str_int (fun F H vs ds d Q b rv e p => by
    unfold dStr at e
    split at e
    · split at e
      · cases e
        rename_i hl
        cases rv with | cons r t => cases t; cases r; exact ⟨_, rfl, hl, p.T0 b rfl (.str _)⟩
      · cases e
    · cases e) hg hm rfl ha (by decide) (by decide) he rfl
def dAbs : List D → Option D
  | [.int i] => some (.int (if i < 0 then -i else i))
  | _ => none
theorem ej_abs (hg : Gl X "abs") (hm : X.mg "abs" = none) (ha : AJ X .B [e] fs) (he : starEach [e] X.env = (false, eval e X.env) :: starEach [] X.env := by rfl) : EJ X .T (.Call (.Name "abs" p) [e] [] pos) (fApp dAbs fs) :=
  ej_bi call_abs (fun F H vs ds d Q b rv e p => by
    unfold dAbs at e
    split at e
    · cases e
      cases rv with | cons r t => cases t; cases r; exact ⟨_, rfl, p.T0 b rfl (.int _)⟩
    · cases e) hg hm rfl ha (by decide) (by decide) he rfl
def dMin2 : List D → Option D
  | [.int i, .int j] => some (.int (if j < i then j else i))
  | _ => none
def dMax2 : List D → Option D
  | [.int i, .int j] => some (.int (if j > i then j else i))
  | _ => none
theorem ej_min2 (hc : X.calm = true) (hg : Gl X "min") (hm : X.mg "min" = none) (ha : AJ X .B [e, a] fs) (he : starEach [e, a] X.env = (false, eval e X.env) :: starEach [a] X.env := by rfl) (hpl : (backTo pos (starEach [a] X.env)).any (·.1) = false := by rfl) : EJ X .T (.Call (.Name "min" p) [e, a] [] pos) (fApp dMin2 fs) :=
  ej_bi (call_min2 hc) (fun F H vs ds d Q b rv e p => by
    unfold dMin2 at e
    split at e
    · cases e
      cases rv with | cons r t => cases t with | cons r2 t => cases t; cases r; cases r2; exact ⟨_, _, rfl, p.T0 b rfl (.int _)⟩
    · cases e) hg hm rfl ha (by decide) (by decide) he hpl
theorem ej_max2 (hc : X.calm = true) (hg : Gl X "max") (hm : X.mg "max" = none) (ha : AJ X .B [e, a] fs) (he : starEach [e, a] X.env = (false, eval e X.env) :: starEach [a] X.env := by rfl) (hpl : (backTo pos (starEach [a] X.env)).any (·.1) = false := by rfl) : EJ X .T (.Call (.Name "max" p) [e, a] [] pos) (fApp dMax2 fs) :=
  ej_bi (call_max2 hc) (fun F H vs ds d Q b rv e p => by
    unfold dMax2 at e
    split at e
    · cases e
      cases rv with | cons r t => cases t with | cons r2 t => cases t; cases r; cases r2; exact ⟨_, _, rfl, p.T0 b rfl (.int _)⟩
    · cases e) hg hm rfl ha (by decide) (by decide) he hpl
def dAny : List D → Option D
  | [.list xs] => (allBl xs).map fun bs => .bool (bs.any _root_.id)
  | _ => none
theorem ej_any (hc : X.calm = true) (hg : Gl X "any") (hm : X.mg "any" = none) (ha : AJ X .B [e] fs) (he : starEach [e] X.env = (false, eval e X.env) :: starEach [] X.env := by rfl) : EJ X .T (.Call (.Name "any" p) [e] [] pos) (fApp dAny fs) :=
  ej_bi (cr_any hc) (fun F H vs ds d Q b rv e p => by
    unfold dAny at e
    split at e
    · obtain ⟨n, hn, rfl⟩ := Option.map_eq_some_iff.mp e
      cases rv with | cons r t => cases t; cases r with | lst h r => exact ⟨_, n, rfl, by rw [← (r.bls_ hn).1]; exact h, p.T0 b rfl (.bl _)⟩
    · cases e) hg hm rfl ha (by decide) (by decide) he rfl
def dSum : List D → Option D
  | [.list xs] => (allInt xs).map fun bs => .int bs.sum
  | _ => none
theorem ej_sum (hc : X.calm = true) (hg : Gl X "sum") (hm : X.mg "sum" = none) (ha : AJ X .B [e] fs) (he : starEach [e] X.env = (false, eval e X.env) :: starEach [] X.env := by rfl) : EJ X .T (.Call (.Name "sum" p) [e] [] pos) (fApp dSum fs) :=
  ej_bi (cr_sum hc) (fun F H vs ds d Q b rv e p => by
    unfold dSum at e
    split at e
    · obtain ⟨n, hn, rfl⟩ := Option.map_eq_some_iff.mp e
      cases rv with | cons r t => cases t; cases r with | lst h r => exact ⟨_, n, rfl, by rw [← (r.ints_ hn).1]; exact h, p.T0 b rfl (.int _)⟩
    · cases e) hg hm rfl ha (by decide) (by decide) he rfl

/-! ### isinstance -/
def tyD : D → Option String
  | .none => some "NoneType"
  | .bool _ => some "bool"
  | .int _ => some "int"
  | .str _ => some "str"
  | .list _ => some "list"
  | .tuple _ => some "tuple"
  | .dict _ => Option.none
def isA (t T : String) : Bool := t == T || (t == "bool" && T == "int")
def okT (T : String) : Bool := ["NoneType", "bool", "int", "str", "list", "tuple"].all fun t => decide (kitB t T = some (isA t T))
theorem kit_isA {t : String} (hT : okT T = true) (ht : t ∈ ["NoneType", "bool", "int", "str", "list", "tuple"]) : PySem.W.kitOne K (.type t) (.type T) = some (isA t T) :=
  kit_ty (of_decide_eq_true (List.all_eq_true.mp hT t ht))
theorem tyD_mem {t : String} (h : tyD d = some t) : t ∈ ["NoneType", "bool", "int", "str", "list", "tuple"] := by
  cases d <;> cases h <;> simp
theorem R.tyx {t : String} (r : R K H v d) (h : tyD d = some t) : TyX K H v (.type t) := by
  cases r with
  | non => cases h; exact .base .non
  | bl b => cases h; exact .base (.bl b)
  | int b => cases h; exact .base (.int b)
  | str b => cases h; exact .base (.str b)
  | lst a b =>
    cases h
    rcases a with (a | ⟨o, a⟩) | ⟨o, its, n, hk, hc, _⟩
    · exact .base (.lst a)
    · exact .base (.frz a)
    · exact .kList hk hc
  | tup a b => cases h; exact .base (.tup a)
  | dic a b => cases h
  | dit a b => cases h
def fIsi (T : String) (f : En → Option D) : En → Option D := fun ρ => match f ρ with
  | some d => (tyD d).map fun t => .bool (isA t T)
  | none => none
theorem ej_isi (hg : Gl X "isinstance") (hm : X.mg "isinstance" = none) (hgT : Gl X x) (hmT : X.mg x = none) (hv : bootBuiltins x = some (.type T)) (hT : okT T = true) (ha : EJ X .B e f) (hn : x ≠ "__name__" := by decide) (hdb : (x == ("__debug__" : Str)) = false := by decide)
    (he : starEach [e, .Name x pos'] X.env = (false, eval e X.env) :: starEach [.Name x pos'] X.env := by rfl) (hpl : (backTo pos (starEach [.Name x pos'] X.env)).any (·.1) = false := by rfl) : EJ X .T (.Call (.Name "isinstance" p) [e, .Name x pos'] [] pos) (fIsi T f) :=
  PE.imp (pe_callB call_isi hg hm rfl (pa_cons ha (pa_cons (pe_bltn (v := .ty T) hgT hmT hv rfl hn hdb) pa_nil) he) (by decide) (by decide) he hpl) fun σ H Q ⟨F, ρ, φ, d, en, e, k⟩ => by
    unfold fIsi at e
    split at e
    · obtain ⟨t, ht, rfl⟩ := Option.map_eq_some_iff.mp e
      refine ⟨F, ρ, φ, _, en, by assumption, fun v F1 H1 L g1 m1 _ _ => ?_⟩
      exact ⟨v, .ty T, .type t, .type T, isA t T, rfl, .ty T, m1.1.tyx ht, kit_isA hT (tyD_mem ht), (k.grow g1).T0 g1.base rfl (.bl _)⟩
    · cases e
end
end DI

set_option Elab.async false
set_option linter.all false
set_option maxRecDepth 100000
/-! DI, part J: sorted, list(), tuple(), slices, concatenation, index. -/
namespace DI
open PySem PySem.Spec PyProof.Rows L2

/-! ### a sorted list, one way -/
def leS (a b : Str) : Bool := !(decide (b.cps.toList < a.cps.toList))
def sortS (ss : List Str) : List Str := ss.mergeSort leS
def sortZ (ns : List Int) : List Int := ns.mergeSort fun a b => decide (a ≤ b)
theorem leS_iff {a b : Str} : leS a b = true ↔ a.cps.toList ≤ b.cps.toList := by
  unfold leS; rw [Bool.not_eq_true', decide_eq_false_iff_not]; exact List.not_lt
theorem leS_trans (a b c : Str) (h : leS a b = true) (k : leS b c = true) : leS a c = true := by
  rw [leS_iff] at *; exact List.le_trans h k
theorem leS_total (a b : Str) : (leS a b || leS b a) = true := by
  rw [Bool.or_eq_true, leS_iff, leS_iff]; exact List.le_total _ _
theorem str_eq {a b : Str} (h : a.cps.toList = b.cps.toList) : a = b := by
  cases a; cases b; simp only at h; congr; exact Array.toList_inj.mp h
theorem leS_anti (a b : Str) (h : leS a b = true) (k : leS b a = true) : a = b := by
  rw [leS_iff] at *; exact str_eq (List.le_antisymm h k)
theorem risingS_le : ∀ (p : Str) (l : List Str), risingS p l = true → (p :: l).Pairwise fun a b => leS a b = true
  | p, [], _ => List.pairwise_singleton _ _
  | p, x :: r, h => by
    have h' : (!ltCps x.cps.toList p.cps.toList && risingS x r) = true := h
    rw [Bool.and_eq_true, ltCps_eq] at h'
    have ih := risingS_le x r h'.2
    refine List.pairwise_cons.mpr ⟨fun y hy => ?_, ih⟩
    rcases List.mem_cons.mp hy with rfl | hy
    · exact h'.1
    · exact leS_trans p x y h'.1 ((List.pairwise_cons.mp ih).1 y hy)
theorem sortedS_le {l : List Str} (h : sortedS l = true) : l.Pairwise fun a b => leS a b = true := by
  cases l with
  | nil => exact List.Pairwise.nil
  | cons x r => exact risingS_le x r h
theorem sortS_pw (ss : List Str) : (sortS ss).Pairwise fun a b => leS a b = true := List.pairwise_mergeSort leS_trans leS_total ss
theorem sortS_perm (ss : List Str) : (sortS ss).Perm ss := List.mergeSort_perm ss _
theorem sortS_of {ys xs : List Str} (p : ys.Perm xs) (h : ys.Pairwise fun a b => leS a b = true) : ys = sortS xs :=
  List.Perm.eq_of_pairwise (fun a b _ _ => leS_anti a b) h (sortS_pw xs) (p.trans (sortS_perm xs).symm)
theorem sortS_eq {ys xs : List Str} (p : ys.Perm xs) : sortS ys = sortS xs := sortS_of ((sortS_perm ys).trans p) (sortS_pw ys)
theorem sortZ_pw (ns : List Int) : (sortZ ns).Pairwise (· ≤ ·) := by
  have := List.pairwise_mergeSort (le := fun a b : Int => decide (a ≤ b)) (fun a b c h k => by simp only [decide_eq_true_eq] at *; omega) (fun a b => by simp only [Bool.or_eq_true, decide_eq_true_eq]; omega) ns
  exact this.imp fun h => of_decide_eq_true h
theorem sortZ_perm (ns : List Int) : (sortZ ns).Perm ns := List.mergeSort_perm ns _
theorem sortZ_of {ys xs : List Int} (p : ys.Perm xs) (h : ys.Pairwise (· ≤ ·)) : ys = sortZ xs :=
  List.Perm.eq_of_pairwise (fun a b _ _ h k => Int.le_antisymm h k) h (sortZ_pw xs) (p.trans (sortZ_perm xs).symm)

section
variable {X : Cx} {K : PySem.W.Frag} {F F' F'' H H' H'' : Hp} {d : D} {Q : VK} {v : V} {m : Md} {e a b c tg : Expr} {es : List Expr} {f g fa fb fc : En → Option D} {fs : En → Option (List D)} {pos pos' p p2 : Pos} {x : Str} {id T : String} {r : List V → Hp → VK → Prop} {gg g' : List D → Option D}
theorem Post.strs {p : Addr} {ss : List Str} (hd : Post K .T F H (.list (ss.map PyData.str)) Q) (b : Base F H) (hp : H p = none) : Q (.ref p) (upd H p (.lst (ss.map V.str))) :=
  hd.newLst b.refl OTs.strs_ List.nodup_nil (fun _ h => nomatch h) hp
theorem Post.ints {p : Addr} {ns : List Int} (hd : Post K .T F H (.list (ns.map PyData.int)) Q) (b : Base F H) (hp : H p = none) : Q (.ref p) (upd H p (.lst (ns.map V.int))) :=
  hd.newLst b.refl OTs.ints_ List.nodup_nil (fun _ h => nomatch h) hp
def dSortS : List D → Option D
  | [.list xs] => match allStr xs with
    | some ss => if ss.length < 64 then some (.list ((sortS ss).map .str)) else none
    | none => none
  | _ => none
def dSortZ : List D → Option D
  | [.list xs] => match allInt xs with
    | some ss => some (.list ((sortZ ss).map .int))
    | none => none
  | _ => none
theorem ej_sortS (hg : Gl X "sorted") (hm : X.mg "sorted" = none) (ha : AJ X .B [e] fs) (he : starEach [e] X.env = (false, eval e X.env) :: starEach [] X.env := by rfl) : EJ X .T (.Call (.Name "sorted" p) [e] [] pos) (fApp dSortS fs) :=
  ej_bi cr_sortedS (fun F H vs ds d Q b rv e k => by
    unfold dSortS at e
    split at e
    · split at e
      · split at e
        · cases e
          rename_i hs hl
          cases rv with | cons r t => cases t; cases r with | lst h r => exact ⟨_, _, rfl, by rw [← (r.strs_ hs).1]; exact h, hl, fun ys p hp hs hq => by
                                                                      rw [sortS_of hp (sortedS_le hs)]; exact k.strs b hq⟩
        · cases e
      · cases e
    · cases e) hg hm rfl ha (by decide) (by decide) he rfl
theorem ej_sortZ (hg : Gl X "sorted") (hm : X.mg "sorted" = none) (ha : AJ X .B [e] fs) (he : starEach [e] X.env = (false, eval e X.env) :: starEach [] X.env := by rfl) : EJ X .T (.Call (.Name "sorted" p) [e] [] pos) (fApp dSortZ fs) :=
  ej_bi cr_sortedI (fun F H vs ds d Q b rv e k => by
    unfold dSortZ at e
    split at e
    · split at e
      · cases e
        rename_i hs
        cases rv with | cons r t => cases t; cases r with | lst h r => exact ⟨_, _, rfl, by rw [← (r.ints_ hs).1]; exact h, fun ys p hp hs hq => by
                                                                    rw [sortZ_of hp hs]; exact k.ints b hq⟩
      · cases e
    · cases e) hg hm rfl ha (by decide) (by decide) he rfl

/-! ### one argument, its children frozen -/
theorem cj1_run {r : List V → Hp → VK → Prop} {ty : Bool} (h : PE X e (tCB r (tCons (tJ X.K .c f) tNil))) (hr : ∀ F H v d d' Q, Base F H → RC X.K F H v d → gg [d] = some d' → Post X.K m F H d' Q → r [v] H Q) :
    EJ X m e (fApp gg (aCons f aNil)) := PE.imp h fun σ H Q ⟨F, ρ, φ, d, en, e, k⟩ => by
  obtain ⟨ds, e1, e2⟩ := fApp_some e
  obtain ⟨d0, r0, e3, e4, rfl⟩ := aCons_some e1
  cases e4
  exact ⟨F, ρ, φ, d0, en, e3, fun v F1 H1 L g1 m1 _ _ => hr F1 H1 v d0 d Q g1.base m1.1 e2 (k.grow g1)⟩
def dListOf : List D → Option D
  | [.list xs] => some (.list xs)
  | [.tuple xs] => some (.list xs)
  | _ => none
theorem RC.seq {ds : List D} (b : Same F H) (h : RC K F H v (.list ds)) : ∃ a xs, v = .ref a ∧ SqL K H a xs ∧ Rs K F xs ds := h.lways b
theorem RC.tupl {ds : List D} (b : Same F H) (h : RC K F H v (.tuple ds)) : ∃ a xs, v = .ref a ∧ H a = some (.tup xs) ∧ Rs K F xs ds := by
  cases h with
  | frz r => cases r with | tup h r => exact ⟨_, _, rfl, b _ _ h, r⟩
theorem ej_listOf (hg : Gl X "list") (hm : X.mg "list" = none) (ha : EJ X .c e f) (he : starEach [e] X.env = (false, eval e X.env) :: starEach [] X.env := by rfl) : EJ X .o (.Call (.Name "list" p) [e] [] pos) (fApp dListOf (aCons f aNil)) :=
  cj1_run (ty := true) (pe_callTy call_list_of hg hm rfl (pa_cons ha pa_nil he) (by decide) (by decide) he rfl) fun F H v d d' Q b h e k => by
    unfold dListOf at e
    split at e
    · rename_i hq
      cases hq
      cases e
      obtain ⟨a, xs, rfl, h, r⟩ := h.seq b.fh
      exact ⟨a, xs, rfl, .inl h, fun l hl => k.newLst1 b.refl r hl⟩
    · rename_i hq
      cases hq
      cases e
      obtain ⟨a, xs, rfl, h, r⟩ := h.tupl b.fh
      exact ⟨a, xs, rfl, .inr (SqT.of h), fun l hl => k.newLst1 b.refl r hl⟩
    · cases e
def dTupOf : List D → Option D
  | [.list xs] => some (.tuple xs)
  | [.tuple xs] => some (.tuple xs)
  | _ => none
theorem ej_tupOf (hg : Gl X "tuple") (hm : X.mg "tuple" = none) (ha : EJ X .c e f) (he : starEach [e] X.env = (false, eval e X.env) :: starEach [] X.env := by rfl) : EJ X .F (.Call (.Name "tuple" p) [e] [] pos) (fApp dTupOf (aCons f aNil)) :=
  cj1_run (ty := true) (pe_callTy call_tuple_of hg hm rfl (pa_cons ha pa_nil he) (by decide) (by decide) he rfl) fun F H v d d' Q b h e k => by
    unfold dTupOf at e
    split at e
    · rename_i hq
      cases hq
      cases e
      obtain ⟨a, xs, rfl, h, r⟩ := h.seq b.fh
      exact ⟨a, xs, rfl, .inl ⟨h, fun l hl => k.newTup rfl b.refl ⟨r, rfl⟩ List.nodup_nil (fun _ h => nomatch h) hl⟩⟩
    · rename_i hq
      cases hq
      cases e
      have h0 := h
      obtain ⟨a, xs, rfl, h, r⟩ := h.tupl b.fh
      cases h0 with
      | frz r0 => exact ⟨a, xs, rfl, .inr ⟨SqT.of h, k.F0 b r0⟩⟩
    · cases e

/-! ### slices -/
def cutD (xs : List D) (lo hi : Option Int) : List D := (xs.drop (HT.sIx xs.length 0 lo)).take (HT.sIx xs.length xs.length hi - HT.sIx xs.length 0 lo)
theorem Rs.cut {G : Hp} {vs : List V} {ds : List D} (r : Rs K G vs ds) (lo hi : Option Int) : Rs K G (cutV vs lo hi) (cutD ds lo hi) := by
  unfold cutV cutD
  rw [r.length]
  exact (r.drop _).take _
def tOJ (K : PySem.W.Frag) (f : En → Option (Option Int)) : TO := fun σ H Q =>
  ∃ F ρ φ o, EnvR K F H ρ σ φ ∧ f ρ = some o ∧ ∀ F' H', Grow F H F' H' → Q o H'
def OJ (X : Cx) (o : Option Expr) (f : En → Option (Option Int)) : Prop := PO X o (tOJ X.K f)
theorem PO.imp {X : Cx} {e : Option Expr} {t t' : TO} (h : PO X e t) (i : ∀ σ H Q, t' σ H Q → t σ H Q) : PO X e t' :=
  ⟨fun pins s σ H Q I w => h.run pins s σ H Q I (i σ H Q w)⟩
def oN : En → Option (Option Int) := fun _ => some none
def oS (f : En → Option D) : En → Option (Option Int) := fun ρ => match f ρ with
  | some (.int i) => some (some i)
  | _ => none
theorem oj_none : OJ X none oN := PO.imp po_none fun σ H Q ⟨F, ρ, φ, o, en, e, k⟩ => by
  cases e
  exact k F H en.base.refl
theorem oj_some (h : EJ X .B e f) : OJ X (some e) (oS f) := PO.imp (po_some h) fun σ H Q ⟨F, ρ, φ, o, en, e, k⟩ => by
  unfold oS at e
  split at e
  · cases e
    refine ⟨F, ρ, φ, _, en, by assumption, fun v F1 H1 L g1 m1 _ _ => ?_⟩
    have m2 := m1.1
    cases m2
    exact ⟨_, rfl, k F1 H1 g1⟩
  · cases e
def fSl (g : D → Option Int → Option Int → Option D) (f : En → Option D) (lo hi : En → Option (Option Int)) : En → Option D := fun ρ => match f ρ, lo ρ, hi ρ with
  | some d, some l, some h => g d l h
  | _, _, _ => none
theorem fSl_some {g : D → Option Int → Option Int → Option D} {lo hi : En → Option (Option Int)} {ρ : En} (h : fSl g f lo hi ρ = some d) : ∃ x l u, f ρ = some x ∧ lo ρ = some l ∧ hi ρ = some u ∧ g x l u = some d := by
  unfold fSl at h
  split at h
  · exact ⟨_, _, _, by assumption, by assumption, by assumption, h⟩
  · cases h
def dSlL : D → Option Int → Option Int → Option D
  | .list xs, lo, hi => some (.list (cutD xs lo hi))
  | _, _, _ => none
theorem ej_slL {lo hi : Option Expr} {fl fh : En → Option (Option Int)} (h : EJ X .c e f) (hl : OJ X lo fl) (hh : OJ X hi fh) : EJ X .o (.Subscript e (.Slice lo hi none p2) pos) (fSl dSlL f fl fh) :=
  PE.imp (pe_slice sl_list h hl hh) fun σ H Q ⟨F, ρ, φ, d, en, e, k⟩ => by
    obtain ⟨x, l, u, e1, e2, e3, e4⟩ := fSl_some e
    refine ⟨F, ρ, φ, x, en, e1, fun v F1 H1 L g1 m1 _ _ => ⟨F1, ρ, φ, l, en.grow g1, e2, fun F2 H2 g2 => ⟨F2, ρ, φ, u, (en.grow g1).grow g2, e3, fun F3 H3 g3 => ?_⟩⟩⟩
    have g := (g1.trans g2).trans g3
    have m3 := (M.grow (m := .c) (g2.trans g3) m1).1
    unfold dSlL at e4
    split at e4
    · cases e4
      obtain ⟨a, xs, rfl, h, r⟩ := RC.seq g3.fh m3
      exact ⟨a, xs, rfl, h, fun p hp => k.newLst1 g (r.cut _ _) hp⟩
    · cases e4
def dSl : D → Option Int → Option Int → Option D
  | .list xs, lo, hi => some (.list (cutD xs lo hi))
  | .str z, lo, hi => if z.length ≤ 1000000 then some (.str (cutS z lo hi)) else none
  | .tuple xs, lo, hi => some (.tuple (cutD xs lo hi))
  | _, _, _ => none
theorem HT_sIx0 (n : Nat) (lo : Option Int) : HT.sIx n 0 lo ≤ n := HT.sIx_le _ _ (Nat.zero_le _) _
theorem cutD_whole {xs : List D} {lo hi : Option Int} (h : HT.sIx xs.length 0 lo = 0 ∧ HT.sIx xs.length xs.length hi = xs.length) : cutD xs lo hi = xs := by
  unfold cutD
  rw [h.1, h.2, List.drop_zero, Nat.sub_zero, List.take_length]
theorem ej_sl {lo hi : Option Expr} {fl fh : En → Option (Option Int)} (h : EJ X .F e f) (hl : OJ X lo fl) (hh : OJ X hi fh) : EJ X .F (.Subscript e (.Slice lo hi none p2) pos) (fSl dSl f fl fh) :=
  PE.imp (pe_slice (SlR.or sl_list (SlR.or sl_str sl_tupA)) h hl hh) fun σ H Q ⟨F, ρ, φ, d, en, e, k⟩ => by
    obtain ⟨x, l, u, e1, e2, e3, e4⟩ := fSl_some e
    refine ⟨F, ρ, φ, x, en, e1, fun v F1 H1 L g1 m1 _ _ => ⟨F1, ρ, φ, l, en.grow g1, e2, fun F2 H2 g2 => ⟨F2, ρ, φ, u, (en.grow g1).grow g2, e3, fun F3 H3 g3 => ?_⟩⟩⟩
    have g := (g1.trans g2).trans g3
    have k3 := k.grow g
    have m3 := (M.grow (m := .F) (g2.trans g3) m1).1
    unfold dSl at e4
    split at e4
    · cases e4
      cases m3 with
      | @lst a0 vs0 _ h r =>
        refine .inl ⟨_, _, rfl, sq_l g3.fh h, fun p hp => ?_⟩
        have g4 := Grow.new (o := .lst (cutV vs0 l u)) g3.base hp
        exact k3 (.ref p) _ _ [] g4 ⟨.lst (SqL.of upd_same) ((r.cut l u).mono g4.ff), rfl⟩ List.nodup_nil fun _ h => nomatch h
    · split at e4
      · cases e4
        rename_i hl
        cases m3
        exact .inr (.inl ⟨_, rfl, scal1M hl, k3.F0 g3.base (.str _)⟩)
      · cases e4
    · cases e4
      cases m3 with
      | tup h r =>
        refine .inr (.inr ⟨_, _, rfl, SqT.of (g3.fh _ _ h), fun hw => ?_, fun hw p hp => ?_⟩)
        · rw [r.length] at hw
          rw [cutD_whole hw] at k3
          exact k3.F0 g3.base (.tup h r)
        · exact k3.newTup rfl g3.base.refl ⟨r.cut l u, rfl⟩ List.nodup_nil (fun _ h => nomatch h) hp
    · cases e4
/-- .. by steps -/
def pickG {α : Type} (xs : List α) (lo hi st : Option Int) : List α :=
  (sliceRange (sliceBounds lo hi st xs.length).1 (sliceBounds lo hi st xs.length).2.1 (sliceBounds lo hi st xs.length).2.2).filterMap (xs[·]?)
theorem slicePick_G (xs : List Value) (lo hi st : Option Int) : slicePick xs.toArray lo hi st = (pickG xs lo hi st).toArray := by
  unfold slicePick pickG
  simp
theorem Rs.pickL {G : Hp} {vs : List V} {ds : List D} (r : Rs K G vs ds) : ∀ l : List Nat, Rs K G (l.filterMap (vs[·]?)) (l.filterMap (ds[·]?))
  | [] => .nil
  | i :: l => by
    by_cases h : i < ds.length
    · obtain ⟨v, hv, rv⟩ := r.get (List.getElem?_eq_getElem h)
      rw [List.filterMap_cons_some hv, List.filterMap_cons_some (List.getElem?_eq_getElem h)]
      exact .cons rv (Rs.pickL r l)
    · have h2 : ¬ i < vs.length := by rw [r.length]; exact h
      rw [List.filterMap_cons_none (List.getElem?_eq_none (by omega)), List.filterMap_cons_none (List.getElem?_eq_none (by omega))]
      exact Rs.pickL r l
theorem Rs.pick {G : Hp} {vs : List V} {ds : List D} (r : Rs K G vs ds) (lo hi st : Option Int) : Rs K G (pickG vs lo hi st) (pickG ds lo hi st) := by
  unfold pickG
  rw [r.length]
  exact r.pickL _
theorem vals_pickL {vs : List V} {us : List Value} (r : Vals vs us) : ∀ l : List Nat, Vals (l.filterMap (vs[·]?)) (l.filterMap (us[·]?))
  | [] => .nil
  | i :: l => by
    by_cases h : i < vs.length
    · obtain ⟨u, hu, ru⟩ := r.get (List.getElem?_eq_getElem h)
      rw [List.filterMap_cons_some (List.getElem?_eq_getElem h), List.filterMap_cons_some hu]
      exact .cons ru (vals_pickL r l)
    · have h2 : ¬ i < us.length := by rw [← r.length]; exact h
      rw [List.filterMap_cons_none (List.getElem?_eq_none (by omega)), List.filterMap_cons_none (List.getElem?_eq_none (by omega))]
      exact vals_pickL r l
theorem vals_pick {vs : List V} {us : List Value} (r : Vals vs us) (lo hi st : Option Int) : Vals (pickG vs lo hi st) (pickG us lo hi st) := by
  unfold pickG
  rw [r.length]
  exact vals_pickL r _
theorem pickV_le (us : List Value) (lo hi st : Option Int) : (pickG us lo hi st).length ≤ us.length := by
  have := slicePick_size_le us.toArray lo hi st
  rw [slicePick_G] at this
  simpa using this
def tStep (K : PySem.W.Frag) (te : TE) (tl th ts : TO) : TE := fun σ H Q => te σ H fun x H1 => tl σ H1 fun l H2 => th σ H2 fun u H3 => ts σ H3 fun st H4 => ∃ a xs, x = .ref a ∧ SqL K H4 a xs ∧ st ≠ some 0 ∧ ∀ p, H4 p = none → Q (.ref p) (upd H4 p (.lst (pickG xs l u st)))
theorem pe_stepL {te : TE} {tl th ts : TO} {lo hi st : Option Expr} (he : PE X e te) (hl : PO X lo tl) (hu : PO X hi th) (hs : PO X st ts)
    (hp : ∀ (a b : Addr), subscripted (.Slice lo hi st p2) false (.ref a) (.ref b) = operate [.ref a, .ref b] (getItem (.ref a) (.ref b)) := by intro _ _; with_unfolding_all rfl) :
    PE X (.Subscript e (.Slice lo hi st p2) pos) (tStep X.K te tl th ts) := by
  refine ⟨fun pins s σ H Q I h => ?_⟩
  refine Subscript_ (thn (he.run pins s σ H _ I h) fun v s1 ⟨x, H1, I1, r1, q1⟩ => ?_)
  refine wpAny_Slice (thn (hl.run pins s1 σ H1 _ I1 q1) fun vl s2 ⟨l, H2, I2, pl, q2⟩ => thn (hu.run pins s2 σ H2 _ I2 q2) fun vu s3 ⟨u, H3, I3, pu, q3⟩ => thn (hs.run pins s3 σ H3 _ I3 q3) fun vs s4 ⟨st, H4, I4, ps, q4⟩ => ?_)
  obtain ⟨a, xs, ex, hx, h0, q⟩ := q4
  subst ex
  cases r1
  have I5 : Inv X pins σ H4 { s4 with heap := s4.heap.push { cls := .type "slice", data := .fields #[vl, vu, vs] } } := I4.kept (t' := s4.toks) fun b ob q => Heap.get?_push_of_some _ q
  obtain ⟨its, r, ht, hz⟩ := I5.list hx
  have hlen := r.length
  refine tail_any (ops := [.ref a, .ref s4.heap.objs.size]) ht.isList.typeIs (PySem.slot_list_getitem.lookup) ?_ (hp _ _)
  refine wpAny_getItem_list_slice ht.isList (Heap.IsSliceOf.new _ vl vu vs) pl pu ps h0 ?_ (by rw [List.size_toArray]; omega)
  rw [slicePick_G]
  have r2 := vals_pick r l u st
  refine ⟨.ref _, _, I5.laid (t' := s4.toks) (o := .lst (pickG xs l u st)) (fun b ob q => Heap.get?_push_of_some _ q) (Nat.le_refl _) ?_, rfl, q _ (I5.hok.fresh (Nat.le_refl _))⟩
  exact ⟨by rw [r2.length]; exact Nat.le_trans (pickV_le _ _ _ _) (by omega), _, 0, r2, Heap.get?_push_size _ rfl⟩
def fStep (f : En → Option D) (lo hi st : En → Option (Option Int)) : En → Option D := fun ρ => match f ρ, lo ρ, hi ρ, st ρ with
  | some (.list xs), some l, some h, some t => if t ≠ some 0 then some (.list (pickG xs l h t)) else none
  | _, _, _, _ => none
theorem fStep_some {lo hi st : En → Option (Option Int)} {ρ : En} (h : fStep f lo hi st ρ = some d) : ∃ xs l u t, f ρ = some (.list xs) ∧ lo ρ = some l ∧ hi ρ = some u ∧ st ρ = some t ∧ t ≠ some 0 ∧ d = .list (pickG xs l u t) := by
  unfold fStep at h
  split at h
  · split at h
    · cases h
      exact ⟨_, _, _, _, by assumption, by assumption, by assumption, by assumption, by assumption, rfl⟩
    · cases h
  · cases h
theorem ej_step {lo hi st : Option Expr} {fl fh ft : En → Option (Option Int)} (h : EJ X .c e f) (hl : OJ X lo fl) (hh : OJ X hi fh) (ht : OJ X st ft)
    (hp : ∀ (a b : Addr), subscripted (.Slice lo hi st p2) false (.ref a) (.ref b) = operate [.ref a, .ref b] (getItem (.ref a) (.ref b)) := by intro _ _; with_unfolding_all rfl) : EJ X .o (.Subscript e (.Slice lo hi st p2) pos) (fStep f fl fh ft) :=
  PE.imp (pe_stepL h hl hh ht hp) fun σ H Q ⟨F, ρ, φ, d, en, e, k⟩ => by
    obtain ⟨xs, l, u, t, e1, e2, e3, e4, h0, rfl⟩ := fStep_some e
    refine ⟨F, ρ, φ, _, en, e1, fun v F1 H1 L g1 m1 _ _ => ⟨F1, ρ, φ, l, en.grow g1, e2, fun F2 H2 g2 => ⟨F2, ρ, φ, u, (en.grow g1).grow g2, e3, fun F3 H3 g3 => ⟨F3, ρ, φ, t, ((en.grow g1).grow g2).grow g3, e4, fun F4 H4 g4 => ?_⟩⟩⟩⟩
    have g := ((g1.trans g2).trans g3).trans g4
    have m3 := (M.grow (m := .c) ((g2.trans g3).trans g4) m1).1
    obtain ⟨a, vs, rfl, h, r⟩ := RC.seq g4.fh m3
    exact ⟨a, vs, rfl, h, h0, fun p hp => k.newLst1 g (r.pick _ _ _) hp⟩
/-- the whole, turned -/
def fRev (f : En → Option D) : En → Option D := fun ρ => match f ρ with
  | some (.list xs) => some (.list xs.reverse)
  | _ => none
theorem ej_rev {k : Nat} {p1 p3 p4 : Pos} (h : EJ X .c e f) : EJ X .o (.Subscript e (.Slice none none (some (.UnaryOp .USub (.Constant (.int 1) k p1) p3)) p4) pos) (fRev f) :=
  PE.imp (pe_revL h) fun σ H Q ⟨F, ρ, φ, d, en, e, k⟩ => by
    unfold fRev at e
    split at e
    · cases e
      refine ⟨F, ρ, φ, _, en, by assumption, fun v F1 H1 L g1 m1 _ _ => ?_⟩
      obtain ⟨a, vs, rfl, h, r⟩ := RC.seq g1.fh m1.1
      exact ⟨a, vs, rfl, h, fun p hp => k.newLst1 g1 r.reverse hp⟩
    · cases e

/-! ### list + list, list * int -/
def rCatL (K : PySem.W.Frag) : R2 := fun x y H Q => ∃ l b xs zs, x = .ref l ∧ y = .ref b ∧ SqL K H l xs ∧ SqL K H b zs ∧ xs.length + zs.length ≤ sizeLine ∧ ∀ p, H p = none → Q (.ref p) (upd H p (.lst (xs ++ zs)))
theorem op_catL : OpR X (binaryOp .Add) (rCatL X.K) := by
  intro pins s σ H x y v u Q I rx ry h
  obtain ⟨l, b, xs, zs, rfl, rfl, hH, hB, hz, q⟩ := h
  cases rx
  cases ry
  obtain ⟨its, r, p1, _⟩ := I.list hH
  obtain ⟨its2, r2, p2, _⟩ := I.list hB
  obtain ⟨⟨cls, dd, data, sl⟩, ho, hc, n, hd⟩ := p1.isList
  obtain ⟨⟨cls2, dd2, data2, sl2⟩, ho2, hc2, n2, hd2⟩ := p2.isList
  simp only at hc hd hc2 hd2
  subst hc hd hc2 hd2
  have e : its.toArray ++ its2.toArray = (its ++ its2).toArray := by simp
  have hl := r.length
  have hl2 := r2.length
  refine concat_meets ⟨_, ho, rfl⟩ ⟨_, ho2, rfl⟩ noFill_list_add seq_list_add PySem.F.slot_list_add PySem.F.entry_list_add (PySem.F.args_list_add_2 _ _) (list_addW l b its.toArray its2.toArray n n2 dd dd2 sl sl2 (by rw [List.size_toArray, List.size_toArray]; omega)) ⟨ho, ho2, ?_⟩
  rw [e]
  exact ⟨.ref _, _, I.lnew (t' := s.toks) (r.append r2) (by rw [List.length_append]; omega), rfl, q _ I.fresh⟩
/-- an operation on two things whose children are frozen -/
def Op2c (K : PySem.W.Frag) (m : Md) (r : R2) (g : D → D → Option D) : Prop :=
  ∀ F H x y dx dy dz Q, Base F H → RC K F H x dx → RC K F H y dy → g dx dy = some dz → Post K m F H dz Q → r x y H Q
theorem ej_opc {op : Operator} {r : R2} {g : D → D → Option D} (ho : OpR X (binaryOp op) r) (hg : Op2c X.K m r g) (ha : EJ X .c a fa) (hb : EJ X .c b fb) : EJ X m (.BinOp a op b pos) (fBin g fa fb) :=
  PE.imp (pe_op ho ha hb) fun σ H Q ⟨F, ρ, φ, d, en, e, p⟩ => by
    obtain ⟨x, y, e1, e2, e3⟩ := fBin_some e
    refine ⟨F, ρ, φ, x, en, e1, fun v F1 H1 L g1 m1 _ _ => ?_⟩
    refine ⟨F1, ρ, φ, y, en.grow g1, e2, fun u F2 H2 L g2 m2 _ _ => ?_⟩
    exact hg F2 H2 v u x y d Q g2.base (m1.1.grow g2) m2.1 e3 (p.grow (g1.trans g2))
def dCat : D → D → Option D
  | .list xs, .list ys => if xs.length + ys.length ≤ 1000000 then some (.list (xs ++ ys)) else none
  | _, _ => none
theorem ej_cat (ha : EJ X .c a fa) (hb : EJ X .c b fb) : EJ X .o (.BinOp a .Add b pos) (fBin dCat fa fb) := ej_opc op_catL (fun F H x y dx dy dz Q b rx ry e p => by
  unfold dCat at e
  split at e
  · split at e
    · cases e
      obtain ⟨a, xs, rfl, h, r⟩ := rx.seq b.fh
      obtain ⟨a2, xs2, rfl, h2, r2⟩ := ry.seq b.fh
      exact ⟨a, a2, xs, xs2, rfl, rfl, h, h2, by rw [r.length, r2.length]; exact scal1M (by assumption), fun p' hp => p.newLst1 b.refl (r.append r2) hp⟩
    · cases e
  · cases e) ha hb
/-- the list that is repeated is a new one -/
def dRep : D → D → Option D
  | .list xs, .int k => if k < 1000000 ∧ -1000000 < k ∧ xs.length * k.toNat ≤ 1000000 then some (.list (List.replicate k.toNat xs).flatten) else none
  | _, _ => none
theorem Rs.rep {G : Hp} {vs : List V} {ds : List D} (r : Rs K G vs ds) : ∀ n : Nat, Rs K G (List.replicate n vs).flatten (List.replicate n ds).flatten
  | 0 => .nil
  | n + 1 => by rw [List.replicate_succ, List.replicate_succ, List.flatten_cons, List.flatten_cons]; exact r.append (Rs.rep r n)
theorem ej_rep (ha : EJ X .o a fa) (hb : EJ X .B b fb) : EJ X .o (.BinOp a .Mult b pos) (fBin dRep fa fb) :=
  PE.imp (pe_op op_rep ha hb) fun σ H Q ⟨F, ρ, φ, d, en, e, p⟩ => by
    obtain ⟨x, y, e1, e2, e3⟩ := fBin_some e
    refine ⟨F, ρ, φ, x, en, e1, fun v F1 H1 L g1 m1 _ _ => ?_⟩
    refine ⟨F1, ρ, φ, y, en.grow g1, e2, fun u F2 H2 L g2 m2 _ _ => ?_⟩
    unfold dRep at e3
    split at e3
    · split at e3
      · cases e3
        rename_i hk
        have m3 := m2.1
        cases m3
        cases m1 with
        | lst a b c => exact ⟨_, _, _, rfl, rfl, g2.hh _ _ b, by omega, by omega, by rw [c.length]; exact scal1M hk.2.2, fun p' hp => p.newLst1 (g1.trans g2) ((c.mono g2.ff).rep _) hp⟩
      · cases e3
    · cases e3

/-! ### less, of lists and tuples -/
def dLtB (x y : D) : Option Bool := if PySem.W.alike x y && x.canLay0 && y.canLay0 && (decide (x.depth ≤ 60)) && !(PyData.eqv x .none) then some (PySem.W.dataLt x y) else none
def rLtD (K : PySem.W.Frag) : R2 := fun x y H Q => ∃ dx dy, Dp K H x dx ∧ Dp K H y dy ∧ PySem.W.alike dx dy = true ∧ dx ≠ .none ∧ dx.depth ≤ 60 ∧ Q (.bl (PySem.W.dataLt dx dy)) H
theorem op_ltD (hu : X.A.units + 65 < cLine) : OpR X (compareOp .Lt) (rLtD X.K) := by
  intro pins s σ H x y v u Q I rx ry h
  obtain ⟨dx, dy, h1, h2, h3, h4, h5, q⟩ := h
  obtain ⟨as, ra⟩ := Dp.reads I dx x v h1 rx
  obtain ⟨bs, rb⟩ := Dp.reads I dy y u h2 ry
  exact PySem.W.rcLt_alike dx dy X.A s v u as bs ra rb h3 h4 (by omega) _ _ _ _ ⟨.bl _, H, I, rfl, q⟩
def dLtL (x y : D) : Option D := (dLtB x y).map .bool
theorem ej_ltL (hu : X.A.units + 65 < cLine) (ha : EJ X .B a fa) (hb : EJ X .B b fb) (hm : behindInMarks .Lt b = false := by rfl) : EJ X .T (.Compare a [.Lt] [b] pos) (fBin dLtL fa fb) := ej_cmp (op_ltD hu) (fun F H x y dx dy dz Q b rx ry e p => by
  unfold dLtL at e
  obtain ⟨k, ek, rfl⟩ := Option.map_eq_some_iff.mp e
  unfold dLtB at ek
  split at ek
  · cases ek
    rename_i hc
    simp only [Bool.and_eq_true, decide_eq_true_eq, Bool.not_eq_true'] at hc
    exact ⟨dx, dy, rx.dp hc.1.1.1.2, ry.dp hc.1.1.2, hc.1.1.1.1, fun z => by rw [z] at hc; exact absurd hc.2 (by decide), hc.1.2, p.T0 b rfl (.bl _)⟩
  · cases ek) ha hb hm
end
end DI

set_option Elab.async false
set_option linter.all false
set_option maxRecDepth 100000
/-! DI, part K: index, dict displays and copies, loops over a dict's items, defs that change their first argument. -/
namespace DI
open PySem PySem.Spec PyProof.Rows L2

section
variable {X : Cx} {K : PySem.W.Frag} {F F' F'' G G' H H' H'' : Hp} {d : D} {Q : VK} {v : V} {m rm : Md} {e a b c tg : Expr} {es : List Expr} {f g fa fb fc : En → Option D} {fs : En → Option (List D)} {pos pos' p p2 : Pos} {x : Str} {id T : String} {r : List V → Hp → VK → Prop} {gg g' : List D → Option D} {pn : List Nat} {mv : List Nat}

/-! ### xs.index(y) -/
def dIndex : D → D → Option D
  | .list ys, y => if scD y && ys.all scD then (ys.findIdx? fun z => PyData.eqv z y).map fun j => .int (j : Nat) else none
  | _, _ => none
theorem Rs.scAt {vs : List V} {ds : List D} (r : Rs K G vs ds) (h : ds.all scD = true) {j : Nat} {u : V} (e : vs[j]? = some u) : ∃ z, ds[j]? = some z ∧ R K G u z ∧ scD z = true := by
  obtain ⟨z, h1, h2⟩ := r.getV e
  exact ⟨z, h1, h2, List.all_eq_true.mp h z (List.mem_of_getElem? h1)⟩
theorem ej_index {apos cpos : Pos} (ha : EJ X .B a fa) (hb : EJ X .B b fb)
    (hbase : attributeBase a "index" X.env (eval a X.env) = eval a X.env := by rfl)
    (hfew : ((backTo cpos (starEach [b] X.env)).all (fun x => !x.1) && (backToKw cpos (keywordEach [] X.env)).all (fun x => x.1.isSome)
      && decide ([b].length + ([] : List Keyword).length + (if ([] : List Keyword).isEmpty then 0 else 1) < 30)) = true := by rfl)
    (hline : (apos.endLine == cpos.line) = true := by rfl) (hs : starEach [b] X.env = (false, eval b X.env) :: starEach [] X.env := by rfl) : EJ X .T (.Call (.Attribute a "index" apos) [b] [] cpos) (fBin dIndex fa fb) :=
  PE.imp (pe_bm PySem.F.plainAttrs_list PySem.F.slot_list_index PySem.F.type_list_index mt_index ha (pa_cons hb pa_nil hs) hbase hfew hline hs rfl) fun σ H Q ⟨F, ρ, φ, d, en, e, k⟩ => by
    obtain ⟨x, y, e1, e2, e3⟩ := fBin_some e
    refine ⟨F, ρ, φ, x, en, e1, fun v F1 H1 L g1 m1 _ _ => ?_⟩
    unfold dIndex at e3
    split at e3
    · split at e3
      · rename_i hc
        rw [Bool.and_eq_true] at hc
        obtain ⟨j, hj, rfl⟩ := Option.map_eq_some_iff.mp e3
        have r1 := m1.1
        cases r1 with
        | @lst p vs _ h r =>
          refine ⟨.inl ⟨rfl, vs, h⟩, F1, ρ, φ, y, en.grow g1, e2, fun u F2 H2 L2 g2 m2 _ _ => ?_⟩
          have ru := m2.1
          obtain ⟨hl, h1, h2⟩ := List.findIdx?_eq_some_iff_getElem.mp hj
          obtain ⟨w, hw, rw'⟩ := r.get (List.getElem?_eq_getElem hl)
          have sw : scD _ = true := List.all_eq_true.mp hc.2 _ (List.getElem_mem hl)
          refine ⟨p, vs, u, j, w, rfl, rfl, sq_l g2.hh h, ru.sc hc.1, r.sc hc.2, hw, by rw [R.eqSc rw' ru sw hc.1]; exact h1, fun m' z' hm hz => ?_, (k.grow (g1.trans g2)).T0 g2.base rfl (.int _)⟩
          obtain ⟨z, q1, q2, q3⟩ := r.scAt hc.2 hz
          rw [R.eqSc q2 ru q3 hc.1]
          have q4 := h2 m' hm
          have q5 : m' < _ := (List.getElem?_eq_some_iff.mp q1).1
          rw [List.getElem?_eq_getElem q5] at q1
          cases q1
          simpa using q4
      · cases e3
    · cases e3

/-! ### range(i, j, -1) -/
def irngD (lo : Int) (n : Nat) : List D := (List.range n).map fun (i : Nat) => .int (lo - (i : Nat))
theorem irngD_get {lo : Int} {n i : Nat} {d : D} (h : (irngD lo n)[i]? = some d) : i < n ∧ d = .int (lo - (i : Nat)) := by
  unfold irngD at h
  rw [List.getElem?_map] at h
  by_cases hi : i < n
  · rw [List.getElem?_range hi] at h
    cases h
    exact ⟨hi, rfl⟩
  · rw [List.getElem?_eq_none (by rw [List.length_range]; omega)] at h
    cases h
theorem irngD_length {lo : Int} {n : Nat} : (irngD lo n).length = n := by unfold irngD; rw [List.length_map, List.length_range]
theorem Src.irngD {lo : Int} {n : Nat} : Src K (Itc lo (-1) n) F (irngD lo n) := ⟨fun i d F1 H1 hd sm b => by
  obtain ⟨hi, rfl⟩ := irngD_get hd
  refine ⟨hi, fun x H2 y => ?_⟩
  obtain ⟨rfl, rfl⟩ := y
  refine ⟨F1, b.refl, ?_⟩
  have e : lo + ((i : Nat) : Int) * (-1) = lo - (i : Nat) := by omega
  rw [e]
  exact .int _, fun i F1 H1 hl sm b => by rw [irngD_length] at hl; exact hl⟩
def fRange3 (f g h : En → Option D) : En → Option (List D) := fun ρ => match f ρ, g ρ, h ρ with
  | some (.int i), some (.int j), some (.int c) => if okR i = true ∧ okR j = true ∧ c = -1 then some (irngD i (i - j).toNat) else none
  | _, _, _ => none
theorem ij_range3 (hg : Gl X "range") (hm : X.mg "range" = none) (ha : EJ X .B a fa) (hb : EJ X .B b fb) (hc : EJ X .B c fc)
    (hs : starEach [a, b, c] X.env = (false, eval a X.env) :: starEach [b, c] X.env := by rfl) (hs2 : starEach [b, c] X.env = (false, eval b X.env) :: starEach [c] X.env := by rfl) (hs3 : starEach [c] X.env = (false, eval c X.env) :: starEach [] X.env := by rfl)
    (hpl : (backTo pos (starEach [b, c] X.env)).any (·.1) = false := by rfl) : IJ X tg (.Call (.Name "range" p) [a, b, c] [] pos) (fRange3 fa fb fc) :=
  PI.imp (pi_range3 hg hm (aj_cons ha (aj_cons hb (pa1 hc rfl hs3) hs2) hs) hs hpl) fun σ H Rr ⟨F, ρ, φ, ds, en, e, k⟩ => by
    unfold fRange3 at e
    split at e
    · split at e
      · cases e
        rename_i i j c hf hgf hh hj
        obtain ⟨h1, h2⟩ := okR_of hj.1
        obtain ⟨h3, h4⟩ := okR_of hj.2.1
        obtain rfl := hj.2.2
        refine ⟨F, ρ, φ, [.int i, .int j, .int (-1)], en, by simp only [aCons, hf, hgf, hh, aNil], fun vs F1 H1 L g m _ _ => ?_⟩
        have r := m.1
        cases r with | cons r1 t => cases t with | cons r2 t => cases t with | cons r3 t => cases t; cases r1; cases r2; cases r3; exact ⟨i, j, -1, _, rfl, RgC.neg h1 h2 h3 h4, k _ F1 H1 g Src.irngD⟩
      · cases e
    · cases e

/-! ### dict displays -/
/-- pairs of a display: keys flat -/
def pNil : En → Option (List (D × D)) := fun _ => some []
def pCons (fk fv : En → Option D) (fr : En → Option (List (D × D))) : En → Option (List (D × D)) := fun ρ => match fk ρ, fv ρ, fr ρ with
  | some k, some v, some r => if isK k = true then some ((k, v) :: r) else none
  | _, _, _ => none
theorem pCons_some {fk fv : En → Option D} {fr : En → Option (List (D × D))} {ρ : En} {ps : List (D × D)} (h : pCons fk fv fr ρ = some ps) : ∃ k v r, fk ρ = some (keyD k) ∧ fv ρ = some v ∧ fr ρ = some r ∧ ps = (keyD k, v) :: r := by
  unfold pCons at h
  split at h
  · split at h
    · rename_i hk
      obtain ⟨k', rfl⟩ := isK_of hk
      cases h
      exact ⟨k', _, _, by assumption, by assumption, by assumption, rfl⟩
    · cases h
  · cases h
/-- what tPairs does to them -/
def DpT (K : PySem.W.Frag) (trs : List (TE × TE)) (fs : En → Option (List (D × D))) : Prop :=
  ∀ σ H (Q : List (V × V) → Hp → Prop) F ρ φ ps, EnvR K F H ρ σ φ → fs ρ = some ps →
    (∀ (kvs : List (Key × V)) F' H', Grow F H F' H' → Rk K F' kvs ps → Q (kvs.map fun kv => (kV kv.1, kv.2)) H') → tPairs trs σ H Q
structure DPs (X : Cx) (pos : Pos) (keys : List (Option Expr)) (values : List Expr) (fs : En → Option (List (D × D))) : Prop where
  ex : ∃ trs, PPs X pos keys values trs ∧ DpT X.K trs fs
theorem Rk.mono' {kvs : List (Key × V)} {ps : List (D × D)} (e : Same F F') (r : Rk K F kvs ps) : Rk K F' kvs ps := r.mono e
theorem dp_nil : DPs X pos [] [] pNil := ⟨[], pps_nil, fun σ H Q F ρ φ ps en e k => by
  cases e
  exact k [] F H en.base.refl .nil⟩
theorem dp_cons {ks : List (Option Expr)} {vs : List Expr} {fk fv : En → Option D} {fr : En → Option (List (D × D))} (hk : EJ X .B a fk) (hv : EJ X .F b fv) (hr : DPs X pos ks vs fr) : DPs X pos (some a :: ks) (b :: vs) (pCons fk fv fr) := by
  obtain ⟨trs, h1, h2⟩ := hr.ex
  refine ⟨_, pps_cons hk hv h1, fun σ H Q F ρ φ ps en e k => ?_⟩
  obtain ⟨k', v', r', e1, e2, e3, rfl⟩ := pCons_some e
  refine ⟨F, ρ, φ, _, en, e1, fun x F1 H1 L1 g1 m1 _ _ => ⟨F1, ρ, φ, _, en.grow g1, e2, fun y F2 H2 L2 g2 m2 _ _ => ?_⟩⟩
  have hx := m1.1.key
  subst hx
  exact h2 σ H2 _ F2 ρ φ r' ((en.grow g1).grow g2) e3 fun kvs F3 H3 g3 r3 => k ((k', y) :: kvs) F3 H3 ((g1.trans g2).trans g3) (.cons (m2.1.mono g3.ff) r3)
def dMerge (ps : List (D × D)) : List (D × D) := ps.foldl (fun acc p => DI.dPut acc p.1 p.2) []
theorem Rk.merge {kvs : List (Key × V)} : ∀ {acc : List (Key × V)} {ps da : List (D × D)}, Rk K G kvs ps → Rk K G acc da → Rk K G (mergeK acc kvs) (ps.foldl (fun acc p => DI.dPut acc p.1 p.2) da) := by
  induction kvs with
  | nil => intro acc ps da h r; cases h; exact r
  | cons p kvs ih => intro acc ps da h r; cases h with | cons h t => rw [List.foldl_cons]; exact ih t (r.put h)
def fDisp (fs : En → Option (List (D × D))) : En → Option D := fun ρ => match fs ρ with
  | some ps => if ps.length ≤ 15 then some (.dict (dMerge ps)) else none
  | none => none
theorem upd_put {p : Addr} {o o' : HO} : upd (upd H p o) p o' = upd H p o' := by
  funext a
  unfold upd
  split <;> rfl
theorem Grow.rewrite {p : Addr} {o o' : HO} (g : Grow F H F' H') (hp : F' p = none) (hH : H p = none) (ho : imm o' = false) : Grow F H F' (upd H' p o') where
  hh := fun a u e => by rw [upd_ne (ne_of_none e hH)]; exact g.hh a u e
  ff := g.ff
  fh := fun a u e => by
    by_cases h : a = p
    · subst h; rw [hp] at e; cases e
    · rw [upd_ne h]; exact g.fh a u e
  fr := g.fr
  im := fun a u e i => by
    by_cases h : a = p
    · subst h; rw [upd_same] at e; cases e; rw [ho] at i; cases i
    · rw [upd_ne h] at e; exact g.im a u e i
theorem ej_disp {keys : List (Option Expr)} {values : List Expr} {fs : En → Option (List (D × D))} (h : DPs X pos keys values fs) (hall : keys.all (·.isSome) = true := by rfl) (hl : keys.length = values.length := by rfl) (h0 : keys ≠ [] := by simp) (h15 : keys.length ≤ 15 := by decide) : EJ X .o (.Dict keys values pos) (fDisp fs) := by
  obtain ⟨trs, h1, h2⟩ := h.ex
  refine PE.imp (pe_disp h1 hall hl h0 h15) fun σ H Q ⟨F, ρ, φ, d, en, e, k⟩ => ?_
  unfold fDisp at e
  split at e
  · split at e
    · cases e
      intro p hp
      have g1 := Grow.own (o := .dK []) en.base hp rfl
      refine h2 σ _ _ F ρ φ _ (en.grow g1) (by assumption) fun kvs F2 H2 g2 r2 => ?_
      have g := g1.trans g2
      have hF2 : F2 p = none := g2.keepNone (Same.free en.base.fh hp) upd_same
      refine ⟨g2.hh _ _ upd_same, kvs, rfl, by rw [r2.length]; assumption, ?_⟩
      refine k (.ref p) F2 _ [p] (g.rewrite (o := .dK []) hF2 hp rfl) (O1.dic hF2 upd_same (r2.merge .nil)) (List.nodup_cons.mpr ⟨by simp, List.nodup_nil⟩) fun a ha => ?_
      rw [List.mem_singleton] at ha
      subst ha
      exact hp
    · cases e
  · cases e
/-- {}, to be one with int and text keys, or one with tuple keys -/
def fNewK : En → Option D := fun _ => some (.dict [])
def fNewT : En → Option D := fun _ => some (.dict [(.none, .none)])
theorem ej_newK : EJ X .o (.Dict [] [] pos) fNewK := PE.imp pe_dnewK fun σ H Q ⟨F, ρ, φ, d, en, e, k⟩ => by
  cases e
  intro p hp
  refine k (.ref p) F _ [p] (Grow.own (o := .dK []) en.base hp rfl) (O1.dic (Same.free en.base.fh hp) upd_same .nil) (List.nodup_cons.mpr ⟨by simp, List.nodup_nil⟩) fun a ha => ?_
  rw [List.mem_singleton] at ha
  subst ha
  exact hp
theorem ej_newT : EJ X .o (.Dict [] [] pos) fNewT := PE.imp pe_dnewT fun σ H Q ⟨F, ρ, φ, d, en, e, k⟩ => by
  cases e
  intro p hp
  refine k (.ref p) F _ [p] (Grow.own (o := .dT []) en.base hp rfl) (O1.dit (Same.free en.base.fh hp) upd_same .nil) (List.nodup_cons.mpr ⟨by simp, List.nodup_nil⟩) fun a ha => ?_
  rw [List.mem_singleton] at ha
  subst ha
  exact hp
/-- {k: v}, k a tuple -/
def tDisp1T (tk tv : TE) : TE := fun σ H Q => ∀ p, H p = none → tk σ (upd H p (.dT [])) fun x H1 => tv σ H1 fun y H2 => H2 p = some (.dT []) ∧ ∃ b ks, x = .ref b ∧ H2 b = some (.tup (ks.map kV)) ∧ Q (.ref p) (upd H2 p (.dT [(ks, y)]))
theorem pe_disp1T {k v : Expr} {tk tv : TE} (hu : X.A.units + 1 < cLine) (hk : PE X k tk) (hv : PE X v tv) : PE X (.Dict [some k] [v] pos) (tDisp1T tk tv) := by
  refine ⟨fun pins s σ H Q I q => ?_⟩
  have hn := I.hok.fresh (Nat.le_refl s.heap.objs.size)
  have I1 := I.laid (a := s.heap.objs.size) (o := .dT []) (h' := s.heap.push { cls := .type "dict", data := .dict #[] }) (t' := s.toks) (fun _ _ q => Heap.get?_push_of_some _ q) (Nat.le_refl _) (dt_empty s.heap I.big)
  rw [arm_eval_Dict, zip_pairTrees [some k] [v] X.env pos rfl rfl, dictDisplay_pairs (pairTrees [some k] [v] X.env pos) (by intro z; cases z) (show 1 < 17 by decide)]
  refine wpAny_bind (wpAny_standAt (wpAny_bind (wpAny_subDictH (knd := tupleKind (mixKind X.prog X.w)) (Q := fun d s' => wpAny (model X.prog X.w) X.A (pure (Value.ref d)) (EP X pins σ Q) X.xe s') (show X.A.units < cLine by omega) (show 1 ≤ 15 by decide) ?_)))
  refine pairTrees_cons_walk (thn (hk.run pins _ σ _ _ I1 (q _ hn)) fun u s1 ⟨x, H1, I2, rx, q1⟩ => thn (hv.run pins s1 σ H1 _ I2 q1) fun w2 s2 ⟨y, H2, I3, ry, q2⟩ => ?_)
  obtain ⟨e, b, ks, rfl, eb, q2⟩ := q2
  cases (show u = Value.ref b from rx)
  refine pairTrees_nil_walk ?_
  obtain ⟨z, hd, xs, rel, dd⟩ := dt_of I3.hok e
  cases rel
  refine ⟨[(ks, b, w2)], ⟨rfl, rfl, key_of I3.hok eb, True.intro⟩, dd, fun h' tk dd' hs => wpAny_pure ⟨.ref s.heap.objs.size, _, ?_, rfl, q2⟩⟩
  obtain ⟨qo, es, ep, hq, h2, h3, h4, _, h5⟩ := dd'
  refine d_write I3 (by rw [e]; exact True.intro) hs ⟨qo, hq⟩ ⟨(show 1 ≤ sizeLine by decide), hd, [(ks, b, w2)], .cons ⟨rfl, ?_, ry⟩ .nil, qo, es, ep, hq, h2, h3, h4, h5⟩
  rw [upd_ne (ne_of eb e (fun z => nomatch z))]
  exact eb
def fDispT (fk fv : En → Option D) : En → Option D := fun ρ => match fk ρ, fv ρ with
  | some k, some v => if isKs k = true then some (.dict [(.none, .none), (k, v)]) else none
  | _, _ => none
theorem ej_dispT (hu : X.A.units + 1 < cLine) (ha : EJ X .B a fa) (hb : EJ X .F b fb) : EJ X .o (.Dict [some a] [b] pos) (fDispT fa fb) := PE.imp (pe_disp1T hu ha hb) fun σ H Q ⟨F, ρ, φ, d, en, e, k⟩ => by
  unfold fDispT at e
  split at e
  · split at e
    · cases e
      rename_i dk dv h1 h2 hk
      intro p hp
      have g1 := Grow.own (o := .dT []) en.base hp rfl
      refine ⟨F, ρ, φ, _, en.grow g1, h1, fun x F1 H1 L1 g2 m1 _ _ => ⟨F1, ρ, φ, _, (en.grow g1).grow g2, h2, fun y F2 H2 L2 g3 m2 _ _ => ?_⟩⟩
      have g := (g1.trans g2).trans g3
      have hF2 : F2 p = none := g3.keepNone (g2.keepNone (Same.free en.base.fh hp) upd_same) (g2.hh _ _ upd_same)
      have hH2 : H2 p = some (.dT []) := g3.hh _ _ (g2.hh _ _ upd_same)
      cases dk <;> first | (cases hk; done) | skip
      rename_i ks0
      obtain ⟨ks, rfl⟩ := isKs_of hk
      obtain ⟨b, rfl, hb'⟩ := m1.1.tkey
      refine ⟨hH2, b, ks, rfl, g3.hh _ _ hb', ?_⟩
      refine k (.ref p) F2 _ [p] (g.rewrite (o := .dT []) hF2 hp rfl) (O1.dit hF2 upd_same (.cons m2.1 .nil)) (List.nodup_cons.mpr ⟨by simp, List.nodup_nil⟩) fun a ha => ?_
      rw [List.mem_singleton] at ha
      subst ha
      exact hp
    · cases e
  · cases e

/-! ### dict(d) -/
def dDict : List D → Option D
  | [.dict ((.none, .none) :: _)] => none
  | [.dict kvs] => some (.dict kvs)
  | _ => none
theorem ej_dictOf (hg : Gl X "dict") (hm : X.mg "dict" = none) (ha : EJ X .c e f) (he : starEach [e] X.env = (false, eval e X.env) :: starEach [] X.env := by rfl) : EJ X .o (.Call (.Name "dict" p) [e] [] pos) (fApp dDict (aCons f aNil)) :=
  cj1_run (ty := true) (pe_callTy call_dictD hg hm rfl (pa_cons ha pa_nil he) (by decide) (by decide) he rfl) fun F H v d d' Q b h e k => by
    unfold dDict at e
    split at e
    · cases e
    · rename_i hq hq2
      cases hq2
      cases e
      rcases h.dways b.fh with ⟨a, kv, rfl, ha, r⟩ | ⟨a, kv, ds, rfl, ha, hz, r⟩
      · refine ⟨a, kv, rfl, ha, fun p hp => ?_⟩
        refine k (.ref p) F _ [p] (Grow.own (o := .dK kv) b hp rfl) (O1.dic (Same.free b.fh hp) upd_same r) (List.nodup_cons.mpr ⟨by simp, List.nodup_nil⟩) fun a ha => ?_
        rw [List.mem_singleton] at ha
        subst ha
        exact hp
      · exact absurd (by rw [hz]) (hq ds)
    · cases e
end
end DI

set_option Elab.async false
set_option linter.all false
set_option maxRecDepth 100000
/-! DI, part L: loops over a dict's items, under its lock; defs that change their first argument. -/
namespace DI
open PySem PySem.Spec PyProof.Rows L2

section
variable {K : PySem.W.Frag} {F F' F'' G G' H H' H'' : Hp} {d : D} {v : V} {m rm : Md}
/-! ### what is read stays so where a dict is locked, or unlocked -/
structure Lks (G G' : Hp) : Prop where
  tp : ∀ a xs, G a = some (.tup xs) → G' a = some (.tup xs)
  ls : ∀ a xs, Rd G a (.lst xs) → Rd G' a (.lst xs)
  dk : ∀ a xs, Rd G a (.dK xs) → Rd G' a (.dK xs)
  dt : ∀ a xs, Rd G a (.dT xs) → Rd G' a (.dT xs)
mutual
theorem R.lk (e : Lks G G') : ∀ {v : V} {d : D}, R K G v d → R K G' v d
  | _, _, .non => .non
  | _, _, .bl b => .bl b
  | _, _, .int i => .int i
  | _, _, .str x => .str x
  | _, _, .lst h r => .lst (h.elim (fun h => .inl (e.ls _ _ h)) .inr) (Rs.lk e r)
  | _, _, .tup h r => .tup (e.tp _ _ h) (Rs.lk e r)
  | _, _, .dic h r => .dic (e.dk _ _ h) (Rk.lk e r)
  | _, _, .dit h r => .dit (e.dt _ _ h) (Rt.lk e r)
theorem Rs.lk (e : Lks G G') : ∀ {v : List V} {d : List D}, Rs K G v d → Rs K G' v d
  | _, _, .nil => .nil
  | _, _, .cons h r => .cons (R.lk e h) (Rs.lk e r)
theorem Rk.lk (e : Lks G G') : ∀ {v : List (Key × V)} {d : List (D × D)}, Rk K G v d → Rk K G' v d
  | _, _, .nil => .nil
  | _, _, .cons h r => .cons (R.lk e h) (Rk.lk e r)
theorem Rt.lk (e : Lks G G') : ∀ {v : List (List Key × V)} {d : List (D × D)}, Rt K G v d → Rt K G' v d
  | _, _, .nil => .nil
  | _, _, .cons h r => .cons (R.lk e h) (Rt.lk e r)
end
mutual
theorem OT.lk (ff : Lks F F') : ∀ {v : V} {d : D} {L : List Addr}, OT K F H v d L → (∀ a ∈ L, F' a = none ∧ H' a = H a) → OT K F' H' v d L
  | _, _, _, .flat e r, _ => .flat e (r.lk ff)
  | _, _, _, .lst a b c, h => .lst (h _ (by simp)).1 (by rw [(h _ (by simp)).2]; exact b) (OTs.lk ff c fun x hx => h x (by simp [hx]))
  | _, _, _, .tup a c, h => .tup (ff.tp _ _ a) (OTs.lk ff c h)
  | _, _, _, .dic a b c, h => .dic (h _ (by simp)).1 (by rw [(h _ (by simp)).2]; exact b) (OTk.lk ff c fun x hx => h x (by simp [hx]))
  | _, _, _, .dit a b c, h => .dit (h _ (by simp)).1 (by rw [(h _ (by simp)).2]; exact b) (OTt.lk ff c fun x hx => h x (by simp [hx]))
theorem OTs.lk (ff : Lks F F') : ∀ {v : List V} {d : List D} {L : List Addr}, OTs K F H v d L → (∀ a ∈ L, F' a = none ∧ H' a = H a) → OTs K F' H' v d L
  | _, _, _, .nil, _ => .nil
  | _, _, _, .cons a b, h => .cons (OT.lk ff a fun x hx => h x (by simp [hx])) (OTs.lk ff b fun x hx => h x (by simp [hx]))
theorem OTk.lk (ff : Lks F F') : ∀ {v : List (Key × V)} {d : List (D × D)} {L : List Addr}, OTk K F H v d L → (∀ a ∈ L, F' a = none ∧ H' a = H a) → OTk K F' H' v d L
  | _, _, _, .nil, _ => .nil
  | _, _, _, .cons a b, h => .cons (OT.lk ff a fun x hx => h x (by simp [hx])) (OTk.lk ff b fun x hx => h x (by simp [hx]))
theorem OTt.lk (ff : Lks F F') : ∀ {v : List (List Key × V)} {d : List (D × D)} {L : List Addr}, OTt K F H v d L → (∀ a ∈ L, F' a = none ∧ H' a = H a) → OTt K F' H' v d L
  | _, _, _, .nil, _ => .nil
  | _, _, _, .cons a b, h => .cons (OT.lk ff a fun x hx => h x (by simp [hx])) (OTt.lk ff b fun x hx => h x (by simp [hx]))
end
theorem O1.lk (ff : Lks F F') : ∀ {v : V} {d : D} {L : List Addr}, O1 K F H v d L → (∀ a ∈ L, F' a = none ∧ H' a = H a) → O1 K F' H' v d L
  | _, _, _, .lst a b c, h => .lst (h _ (by simp)).1 (by rw [(h _ (by simp)).2]; exact b) (c.lk ff)
  | _, _, _, .dic a b c, h => .dic (h _ (by simp)).1 (by rw [(h _ (by simp)).2]; exact b) (c.lk ff)
  | _, _, _, .dit a b c, h => .dit (h _ (by simp)).1 (by rw [(h _ (by simp)).2]; exact b) (c.lk ff)
theorem M.lk {L : List Addr} (hm : m.st = true) (ff : Lks F F') (h : M K m F H v d L) (k : ∀ a ∈ L, F' a = none ∧ H' a = H a) : M K m F' H' v d L := by
  cases m with
  | B => cases hm
  | c => cases hm
  | F => exact ⟨h.1.lk ff, h.2⟩
  | o => exact O1.lk ff h k
  | T => exact OT.lk ff h k
theorem EnvR.lk {ρ : En} {σ : L2.St} {φ : Nat → List Addr} (e : EnvR K F H ρ σ φ) (ff : Lks F F') (b : Base F' H') (k : ∀ i, ∀ a ∈ φ i, F' a = none ∧ H' a = H a) : EnvR K F' H' ρ σ φ where
  base := b
  sl := fun i m d h => by
    obtain ⟨h0, v, h1, h2⟩ := e.sl i m d h
    exact ⟨h0, v, h1, h2.lk h0 ff (k i)⟩
  em := e.em
  nd := e.nd
  dj := e.dj
  len := e.len
theorem rd_at {a : Addr} {u w : HO} {od : Obj} (hu : u ≠ .frz od w) (hG : G a = some (.frz od w)) (h : Rd G a u) : u = w := by
  rcases h with h | ⟨o, h⟩
  · rw [hG] at h; cases h; exact absurd rfl hu
  · rw [hG] at h; cases h; rfl
theorem rd_at0 {a : Addr} {u : HO} {kv : List (Key × V)} (hG : G a = some (.dK kv)) (h : Rd G a u) : u = .dK kv := by
  rcases h with h | ⟨o, h⟩
  · rw [hG] at h; cases h; rfl
  · rw [hG] at h; cases h
theorem lks_lock {p : Addr} {kv : List (Key × V)} {od : Obj} (h : G p = some (.dK kv)) : Lks G (upd G p (.frz od (.dK kv))) where
  tp := fun a xs e => by rw [upd_ne (fun z => by subst z; rw [h] at e; cases e)]; exact e
  ls := fun a xs e => by
    by_cases z : a = p
    · subst z; cases rd_at0 h e
    · unfold Rd; rw [upd_ne z]; exact e
  dk := fun a xs e => by
    by_cases z : a = p
    · subst z; cases rd_at0 h e; exact .inr ⟨od, upd_same⟩
    · unfold Rd; rw [upd_ne z]; exact e
  dt := fun a xs e => by
    by_cases z : a = p
    · subst z; cases rd_at0 h e
    · unfold Rd; rw [upd_ne z]; exact e
theorem lks_unlock {p : Addr} {kv : List (Key × V)} {od : Obj} (h : G p = some (.frz od (.dK kv))) : Lks G (upd G p (.dK kv)) where
  tp := fun a xs e => by rw [upd_ne (fun z => by subst z; rw [h] at e; cases e)]; exact e
  ls := fun a xs e => by
    by_cases z : a = p
    · subst z; cases rd_at (by intro z; cases z) h e
    · unfold Rd; rw [upd_ne z]; exact e
  dk := fun a xs e => by
    by_cases z : a = p
    · subst z; cases rd_at (by intro z; cases z) h e; exact .inl upd_same
    · unfold Rd; rw [upd_ne z]; exact e
  dt := fun a xs e => by
    by_cases z : a = p
    · subst z; cases rd_at (by intro z; cases z) h e
    · unfold Rd; rw [upd_ne z]; exact e
theorem Base.upd2 {p : Addr} {o : HO} (b : Base F H) : Base (upd F p o) (upd H p o) := ⟨fun a u e => by
  by_cases h : a = p
  · subst h; rw [upd_same] at e ⊢; exact e
  · rw [upd_ne h] at e ⊢; exact b.fh a u e, fun a u e i => by
  by_cases h : a = p
  · subst h; rw [upd_same] at e ⊢; exact e
  · rw [upd_ne h] at e ⊢; exact b.im a u e i⟩
/-- from the locked run back -/
theorem Step.unlock {p : Addr} {kv : List (Key × V)} {od : Obj} {φ φ' : Nat → List Addr} (hF : F p = some (.dK kv)) (hH : H p = some (.dK kv)) (st : Step (upd F p (.frz od (.dK kv))) (upd H p (.frz od (.dK kv))) φ F' H' φ') :
    F' p = some (.frz od (.dK kv)) ∧ Step F H φ (upd F' p (.dK kv)) (upd H' p (.dK kv)) φ' := by
  have h1 : F' p = some (.frz od (.dK kv)) := st.ff _ _ upd_same
  refine ⟨h1, fun a o e hn => ?_, fun a e => ?_, fun a o e => ?_, fun a o e => ?_, fun i a ha => ?_⟩
  · by_cases z : a = p
    · subst z; rw [upd_same]; rw [hH] at e; exact e
    · rw [upd_ne z]; exact st.hh a o (by rw [upd_ne z]; exact e) hn
  · by_cases z : a = p
    · subst z; rw [upd_same] at e; cases e
    · rw [upd_ne z] at e; have := st.al a e; rw [upd_ne z] at this; exact this
  · by_cases z : a = p
    · subst z; rw [upd_same]; rw [hF] at e; exact e
    · rw [upd_ne z]; exact st.ff a o (by rw [upd_ne z]; exact e)
  · by_cases z : a = p
    · subst z; rw [upd_same] at e; exact .inl (hF.trans e)
    · rw [upd_ne z] at e
      rcases st.fr a o e with q | q | q
      · rw [upd_ne z] at q; exact .inl q
      · rw [upd_ne z] at q; exact .inr (.inl q)
      · exact .inr (.inr q)
  · rcases st.ph i a ha with q | q
    · left
      by_cases z : a = p
      · subst z; rw [upd_same] at q; cases q
      · rw [upd_ne z] at q; exact q
    · exact .inr q
end

section
variable {X : Cx} {K : PySem.W.Frag} {F F' F'' G G' H H' H'' : Hp} {d : D} {Q : VK} {v : V} {m rm : Md} {e a b c tg : Expr} {es : List Expr} {f g fa fb fc : En → Option D} {fs : En → Option (List D)} {pos pos' p p2 : Pos} {x : Str} {id T : String} {r : List V → Hp → VK → Prop} {gg g' : List D → Option D} {pn : List Nat} {mv : List Nat} {body : List Stmt} {s : En → Option Out}
theorem PS.or {st : Stmt} {t t' : TS} (h : PS X st t) (h' : PS X st t') : PS X st (fun D σ H => t D σ H ∨ t' D σ H) := ⟨fun pins s σ H D I w => w.elim (h.run pins s σ H D I) (h'.run pins s σ H D I)⟩
/-- a for loop, where its iterator is given -/
theorem for_core {wi : TI} {bb : D → En → Option En} {ds : List D} {J : It} {D : Ends} {σ : L2.St} {ρ : En} {φ : Nat → List Addr} {o : Out} (hw : ∀ Rr : It → Hp → Prop, Rr J H → wi σ H Rr) (src : Src X.K J F ds)
    (en : EnvR X.K F H ρ σ φ) (e : fLoop bb s ds ρ = some o) (k : Fin X.K rm pn F H φ σ D o) : tFor wi (tGJ X.K pn bb) (tSJ X.K rm pn s) D σ H := by
  refine hw _ ?_
  refine ⟨fun i m σ1 H1 => m = ds.length - i ∧ i ≤ ds.length ∧ ∃ F1 ρ1 φ1, Same F F1 ∧ EnvR X.K F1 H1 ρ1 σ1 φ1 ∧ fLoop bb s (ds.drop i) ρ1 = some o ∧ Fin X.K rm pn F1 H1 φ1 σ1 D o, ⟨_, rfl, Nat.zero_le _, F, ρ, φ, Same.refl _, en, e, k⟩, ?_⟩
  rintro i m σ1 H1 ⟨rfl, hle, F1, ρ1, φ1, sm, en1, e1, k1⟩
  by_cases hlt : i < ds.length
  · right
    have hget : ds[i]? = some ds[i] := List.getElem?_eq_getElem hlt
    obtain ⟨go, yl⟩ := src.1 i _ F1 H1 hget sm en1.base
    rw [List.drop_eq_getElem_cons hlt, fLoop] at e1
    refine ⟨go, fun σ' H' => ∃ m', m' < ds.length - i ∧ (m' = ds.length - (i + 1) ∧ i + 1 ≤ ds.length ∧ ∃ F1 ρ1 φ1, Same F F1 ∧ EnvR X.K F1 H' ρ1 σ' φ1 ∧ fLoop bb s (ds.drop (i + 1)) ρ1 = some o ∧ Fin X.K rm pn F1 H' φ1 σ' D o), fun σ' H' h => h, fun x H2 y => ?_⟩
    obtain ⟨F2, g2, rx⟩ := yl x H2 y
    split at e1
    · cases e1
    · rename_i ρ2 hb2
      refine ⟨F2, ρ1, φ1, _, ρ2, en1.grow g2, rx, hb2, fun σ3 φ3 en3 st3 p3 _ => ?_⟩
      have k3 := k1.step (g2.step.trans st3) p3
      have lt : ds.length - (i + 1) < ds.length - i := by omega
      have sm3 := sm.trans g2.ff
      split at e1
      · rename_i ρ' hs
        exact ⟨F2, ρ2, φ3, _, en3, hs, fun σ' F' H' φ' st en' pp => ⟨_, lt, rfl, hlt, F', ρ', φ', sm3.trans st.ff, en', e1, k3.step st pp⟩⟩
      · rename_i ρ' hs
        exact ⟨F2, ρ2, φ3, _, en3, hs, fun σ' F' H' φ' st en' pp => ⟨_, lt, rfl, hlt, F', ρ', φ', sm3.trans st.ff, en', e1, k3.step st pp⟩⟩
      · rename_i ρ' hs
        cases e1
        exact ⟨F2, ρ2, φ3, _, en3, hs, k3⟩
      · rename_i d ρ' hs
        cases e1
        exact ⟨F2, ρ2, φ3, _, en3, hs, k3⟩
      · cases e1
  · left
    have hi : i = ds.length := by omega
    subst hi
    rw [List.drop_length, fLoop] at e1
    cases e1
    exact ⟨src.2 _ F1 H1 (Nat.le_refl _) sm en1.base, k1 σ1 F1 H1 φ1 (Step.refl en1.base) en1 Pin.refl⟩
def itemsD (kvs : List (D × D)) : List D := kvs.map fun p => .tuple [p.1, p.2]
theorem Rk.at {kvs : List (Key × V)} : ∀ {ds : List (D × D)} {i : Nat} {d : D}, Rk K G kvs ds → (itemsD ds)[i]? = some d → ∃ k v e, kvs[i]? = some (k, v) ∧ R K G v e ∧ d = .tuple [keyD k, e] := by
  induction kvs with
  | nil => intro ds i d h e; cases h; simp [itemsD] at e
  | cons p kvs ih =>
    intro ds i d h e
    cases h with
    | cons h t =>
      cases i with
      | zero => simp [itemsD] at e; exact ⟨_, _, _, rfl, h, e.symm⟩
      | succ i => exact ih t (by simpa [itemsD] using e)
theorem Src.items {p : Addr} {od : Obj} {kv : List (Key × V)} {ds : List (D × D)} (h : F p = some (.frz od (.dK kv))) (r : Rk K F kv ds) : Src K (Iti p od kv) F (itemsD ds) := by
  have hl : (itemsD ds).length = kv.length := by unfold itemsD; rw [List.length_map, r.length]
  refine ⟨fun i d F1 H1 hd sm b => ?_, fun i F1 H1 hle sm b => ⟨b.fh _ _ (sm _ _ h), by omega⟩⟩
  obtain ⟨k, v, e, hk, re, rfl⟩ := r.at hd
  refine ⟨⟨b.fh _ _ (sm _ _ h), (List.getElem?_eq_some_iff.mp hk).1⟩, fun x H2 y => ?_⟩
  obtain ⟨t, k', v', hk', rfl, hn, rfl⟩ := y
  rw [hk] at hk'
  cases hk'
  have g := Grow.new (o := .tup [kV k, v]) b hn
  have kr : ∀ G : Hp, R K G (kV k) (keyD k) := fun G => by
    cases k with
    | inl i => exact .int i
    | inr z => exact .str z
  exact ⟨_, g, .tup upd_same (.cons (kr _) (.cons (re.mono (sm.trans g.ff)) .nil))⟩
/-- for k, v in x.items() -/
def sForItems (i : Nat) (b : D → En → Option En) (s : En → Option Out) : En → Option Out := fun ρ => match ρ.getD i none with
  | some (.F, .dict ((.none, .none) :: _)) => none
  | some (.F, .dict kvs) => fLoop b s (itemsD kvs) ρ
  | _ => none
theorem Fin.unlock {q : Addr} {kv : List (Key × V)} {od : Obj} {φ : Nat → List Addr} {σ : L2.St} {D : Ends} {o : Out} (hrm : rm = .T ∨ rm = .F) (hF : F q = some (.dK kv)) (b : Base F H) (k : Fin K rm pn F H φ σ D o) :
    Fin K rm pn (upd F q (.frz od (.dK kv))) (upd H q (.frz od (.dK kv))) φ σ ⟨fun σ' H' => H' q = some (.frz od (.dK kv)) ∧ D.nx σ' (upd H' q (.dK kv)), fun v H' => H' q = some (.frz od (.dK kv)) ∧ D.rt v (upd H' q (.dK kv)), fun σ' H' => H' q = some (.frz od (.dK kv)) ∧ D.bk σ' (upd H' q (.dK kv)), fun σ' H' => H' q = some (.frz od (.dK kv)) ∧ D.ct σ' (upd H' q (.dK kv))⟩ o := by
  have hH : H q = some (.dK kv) := b.fh _ _ hF
  have core : ∀ {ρ' : En} {σ' : L2.St} {F' H' : Hp} {φ' : Nat → List Addr}, Step (upd F q (.frz od (.dK kv))) (upd H q (.frz od (.dK kv))) φ F' H' φ' → EnvR K F' H' ρ' σ' φ' →
      H' q = some (.frz od (.dK kv)) ∧ Step F H φ (upd F' q (.dK kv)) (upd H' q (.dK kv)) φ' ∧ EnvR K (upd F' q (.dK kv)) (upd H' q (.dK kv)) ρ' σ' φ' := fun {ρ' σ' F' H' φ'} st en => by
    obtain ⟨h1, st2⟩ := st.unlock hF hH
    have hn : ∀ i, ∀ a ∈ φ' i, a ≠ q := fun i a ha z => by
      subst z
      have := (en.own i a ha).1
      rw [h1] at this; cases this
    exact ⟨en.base.fh _ _ h1, st2, en.lk (lks_unlock h1) en.base.upd2 fun i a ha => ⟨by rw [upd_ne (hn i a ha)]; exact (en.own i a ha).1, upd_ne (hn i a ha)⟩⟩
  cases o with
  | nx ρ' => exact fun σ' F' H' φ' st en pp => let ⟨a, b, c⟩ := core st en; ⟨a, k σ' _ _ φ' b c pp⟩
  | bk ρ' => exact fun σ' F' H' φ' st en pp => let ⟨a, b, c⟩ := core st en; ⟨a, k σ' _ _ φ' b c pp⟩
  | ct ρ' => exact fun σ' F' H' φ' st en pp => let ⟨a, b, c⟩ := core st en; ⟨a, k σ' _ _ φ' b c pp⟩
  | rt d ρ' =>
    intro v σ' F' H' φ' L st en pp mm n fr dj
    obtain ⟨a, b, c⟩ := core st en
    have h1 := (st.unlock hF hH).1
    have hm : rm.st = true := by rcases hrm with rfl | rfl <;> rfl
    have ow := mm.own
    refine ⟨a, k v σ' _ _ φ' L b c pp (mm.lk hm (lks_unlock h1) fun x hx => ?_) n (fun x hx => ?_) dj⟩
    · have hne : x ≠ q := fun z => by subst z; have := (ow x hx).1; rw [h1] at this; cases this
      exact ⟨by rw [upd_ne hne]; exact (ow x hx).1, upd_ne hne⟩
    · rcases fr x hx with z | z
      · left
        by_cases y : x = q
        · subst y; rw [upd_same] at z; cases z
        · rw [upd_ne y] at z; exact z
      · exact .inr z
theorem sj_forItems {i : Nat} {elts : List Expr} {kk : Nat} {tpos apos cpos : Pos} {bb : D → En → Option En} (hrm : rm = .T ∨ rm = .F) (hp : PassesOwn (model X.prog X.w) X.A X.env X.xe) (hc : X.calm = true) (hx : PE X (.Name x pos') (tVar i)) (hg : GJ X pn (.Tuple elts kk tpos) bb) (hb : SSJ X rm pn body s)
    (hbase : attributeBase (.Name x pos') "items" X.env (eval (.Name x pos') X.env) = eval (.Name x pos') X.env := by rfl) (hline : (apos.endLine == cpos.line) = true := by rfl)
    (hs : ∀ y, foldedSetIterable (.Call (.Attribute (.Name x pos') "items" apos) [] [] cpos) X.env y = pure y := by intro _; rfl) : SJ X rm pn (.For (.Tuple elts kk tpos) (.Call (.Attribute (.Name x pos') "items" apos) [] [] cpos) body [] pos) (sForItems i bb s) := by
  have h0 := ps_for (pos := pos) hp hc (pi_items hx hbase hline) hg hb hs
  refine PS.imp (PS.or (ps_lock h0) h0) fun D σ H ⟨F, ρ, φ, o, en, e, k⟩ => ?_
  unfold sForItems at e
  split at e
  · cases e
  · rename_i kvs hgk hnk
    obtain ⟨_, v, hv, mm⟩ := en.sl i _ _ (getD_some hnk)
    have r := mm.1
    cases r with
    | @dic q kv _ hd rk =>
      rcases hd with hd | ⟨od, hd⟩
      · refine .inl ⟨q, .dK kv, en.base.fh _ _ hd, trivial, fun od => ?_⟩
        have hn : ∀ i, ∀ a ∈ φ i, a ≠ q := fun i a ha z => by
          subst z
          have := (en.own i a ha).1
          rw [hd] at this; cases this
        have en1 : EnvR X.K (upd F q (.frz od (.dK kv))) (upd H q (.frz od (.dK kv))) ρ σ φ := en.lk (lks_lock hd) en.base.upd2 fun i a ha => ⟨by rw [upd_ne (hn i a ha)]; exact (en.own i a ha).1, upd_ne (hn i a ha)⟩
        exact for_core (fun Rr hR => ⟨_, hv, q, od, kv, rfl, upd_same, hR⟩) (Src.items upd_same (rk.lk (lks_lock hd))) en1 e (k.unlock hrm hd en.base)
      · exact .inr (for_core (fun Rr hR => ⟨_, hv, q, od, kv, rfl, en.base.fh _ _ hd, hR⟩) (Src.items hd rk) en e k)
    | dit hd rk => exact absurd rfl (hgk _)
  · cases e
end
end DI

set_option Elab.async false
set_option linter.all false
set_option maxRecDepth 100000
/-! DI, part M: defs that change their first argument; list methods as statements. -/
namespace DI
open PySem PySem.Spec PyProof.Rows L2

/-! ### a def whose first argument is the asker's own, and is changed -/
def spU (K : PySem.W.Frag) (n : Nat) (m rm : Md) (g : D → List D → Option (D × D)) : Sp := fun vs H Q _ =>
  vs.length = n ∧ ∃ F v0 vr d0 ds d d1 L0, vs = v0 :: vr ∧ Base F H ∧ M K m F H v0 d0 L0 ∧ L0.Nodup ∧ Rs K F vr ds ∧ g d0 ds = some (d, d1) ∧
  ∀ v F' H' L L1, (∀ a o, H a = some o → a ∉ L0 → H' a = some o) → (∀ a, H' a = none → H a = none) → Same F F' → Base F' H' → (∀ a o, F' a = some o → F a = some o ∨ H a = none ∨ a ∈ L0) →
    M K rm F' H' v d L → L.Nodup → M K m F' H' v0 d1 L1 → L1.Nodup → (∀ a ∈ L, H a = none ∨ a ∈ L0) → (∀ a ∈ L1, H a = none ∨ a ∈ L0) → (∀ a ∈ L, a ∉ L1) → Q v H'
/-- such a body run; N names in all -/
def runU (N : Nat) (m : Md) (s : En → Option Out) : D → List D → Option (D × D) := fun d0 ds =>
  match s (some (m, d0) :: (ds.map (fun d => some (.F, d)) ++ List.replicate (N - (ds.length + 1)) none)) with
  | some (.rt d ρ') => match ρ'.getD 0 none with
    | some (k, d1) => if k = m then some (d, d1) else none
    | none => none
  | some (.nx ρ') => match ρ'.getD 0 none with
    | some (k, d1) => if k = m then some (.none, d1) else none
    | none => none
  | _ => none
section
variable {P : Program} {w : World} {K : PySem.W.Frag} {mg : Str → Option Value} {base : Heap} {F F' F'' G H H' H'' : Hp} {d : D} {v : V} {m rm : Md}
def φ0 (L0 : List Addr) : Nat → List Addr := fun i => if i = 0 then L0 else []
theorem φ0_mem {L0 : List Addr} {i : Nat} {a : Addr} (h : a ∈ φ0 L0 i) : i = 0 ∧ a ∈ L0 := by
  unfold φ0 at h
  split at h
  · exact ⟨by assumption, h⟩
  · cases h
theorem envR_startU {v0 : V} {vr : List V} {d0 : D} {ds : List D} {n : Nat} {L0 : List Addr} (hm : m.st = true) (b : Base F H) (m0 : M K m F H v0 d0 L0) (nd : L0.Nodup) (r : Rs K F vr ds) :
    EnvR K F H (some (m, d0) :: (ds.map (fun d => some (.F, d)) ++ List.replicate n none)) ((v0 :: vr).map some ++ List.replicate n none) (φ0 L0) where
  base := b
  sl := fun i k d h => by
    cases i with
    | zero => cases h; exact ⟨hm, v0, rfl, m0⟩
    | succ i =>
      obtain ⟨rfl, v, h1, h2⟩ := r.start (by simpa using h)
      exact ⟨rfl, v, by simpa using h1, h2, rfl⟩
  em := fun i h => by
    cases i with
    | zero => exact absurd rfl (h m d0)
    | succ i => rfl
  nd := fun i => by
    unfold φ0
    split
    · exact nd
    · exact List.nodup_nil
  dj := fun i j a h1 h2 => by rw [(φ0_mem h1).1, (φ0_mem h2).1]
  len := by simp [r.length]
theorem fn_u {x qual : Str} {st : Stmt} {f : Addr} {fd : FuncData} {N ps : List Str} {k : Nat} {c : En → Option Out} (Fn : Fun K x qual st f fd) (S : FnScope N ps (defScope st)) (hm : m.st = true) (hrm : rm = .T ∨ rm = .F)
    (hbody : ∀ (cdv : Value) (A : Around) (outer : List Env) (s : Shared) (H : Hp) (E : XK), Room k (A.deeper (envOfC qual (defScope st) s.heap.objs.size f cdv)) →
      SSJ (cxOf CX0 P w K mg base N qual (defScope st) f cdv A outer s H E).nox rm [0] (defBody st) c) : FnOk P w K mg base CX0 (k + 1) f fd ps (spU K ps.length m rm (runU N.length m c)) := by
  refine Fn.ok S (fun vs H Q E h => h.1) (fun cdv A outer s H vs Q E hr h => ⟨_, hbody cdv A outer s H E hr, ?_⟩)
  obtain ⟨hl, F, v0, vr, d0, ds, d, d1, L0, rfl, b, m0, nd, r, e, p⟩ := h
  unfold runU at e
  have el : (v0 :: vr).length = ds.length + 1 := by rw [List.length_cons, r.length]
  have en : EnvR K F H (some (m, d0) :: (ds.map (fun d => some (.F, d)) ++ List.replicate (N.length - (ds.length + 1)) none)) (L2.start N (v0 :: vr)) (φ0 L0) := by
    have q := envR_startU (n := N.length - (ds.length + 1)) hm b m0 nd r
    have e2 : L2.start N (v0 :: vr) = (v0 :: vr).map some ++ List.replicate (N.length - (ds.length + 1)) none := by unfold L2.start; rw [el]
    rw [e2]; exact q
  have fin : ∀ {ρ' : En} {σ' : L2.St} {F' H' : Hp} {φ' : Nat → List Addr} {v : V} {L : List Addr}, (match ρ'.getD 0 none with | some (k, d1) => if k = m then some (d, d1) else none | none => none) = some (d, d1) → Step F H (φ0 L0) F' H' φ' → EnvR K F' H' ρ' σ' φ' →
      Pin [0] (L2.start N (v0 :: vr)) σ' → M K rm F' H' v d L → L.Nodup → (∀ a ∈ L, H a = none ∨ ∃ j, a ∈ φ0 L0 j) → (∀ a ∈ L, ∀ i, a ∉ φ' i) → Q v H' := fun {ρ' σ' F' H' φ' v L} hk g en' pp mm n fr dj => by
    have hq : ρ'.getD 0 none = some (m, d1) := by
      revert hk
      cases ρ'.getD 0 none with
      | none => intro z; cases z
      | some q =>
        obtain ⟨k, d2⟩ := q
        dsimp only
        intro z
        split at z
        · rename_i hk; subst hk; cases z; rfl
        · cases z
    obtain ⟨_, u, hu, mu⟩ := en'.sl 0 _ _ (getD_some hq)
    have hv0 : u = v0 := by
      have h2 := pp 0 (by simp)
      rw [hu] at h2
      simpa [L2.start] using h2
    subst hv0
    refine p v F' H' L (φ' 0) (fun a o e h => g.hh a o e fun i hi => h (φ0_mem hi).2) g.al g.ff en'.base (fun a o e => ?_) mm n mu (en'.nd 0) (fun a ha => ?_) (fun a ha => ?_) (fun a ha => dj a ha 0)
    · rcases g.fr a o e with z | z | ⟨i, z⟩
      · exact .inl z
      · exact .inr (.inl z)
      · exact .inr (.inr (φ0_mem z).2)
    · rcases fr a ha with z | ⟨i, z⟩
      · exact .inl z
      · exact .inr (φ0_mem z).2
    · rcases g.ph 0 a ha with z | ⟨i, z⟩
      · exact .inl z
      · exact .inr (φ0_mem z).2
  split at e
  · rename_i d' ρ' hs
    have hd : d' = d := by
      revert e
      cases ρ'.getD 0 none with
      | none => intro z; cases z
      | some q => obtain ⟨k, d2⟩ := q; dsimp only; intro z; split at z <;> cases z; rfl
    subst hd
    exact ⟨F, _, _, _, en, hs, fun v σ' F' H' φ' L g en' pp mm n fr dj => fin e g en' pp mm n fr dj⟩
  · rename_i ρ' hs
    have hd : (PyData.none : D) = d := by
      revert e
      cases ρ'.getD 0 none with
      | none => intro z; cases z
      | some q => obtain ⟨k, d2⟩ := q; dsimp only; intro z; split at z <;> cases z; rfl
    subst hd
    refine ⟨F, _, _, _, en, hs, fun σ' F' H' φ' g en' pp => fin (L := []) e g en' pp ?_ List.nodup_nil (fun _ h => nomatch h) (fun _ h => nomatch h)⟩
    rcases hrm with rfl | rfl
    · exact OT.flat rfl .non
    · exact ⟨.non, rfl⟩
  · cases e
end

section
variable {X : Cx} {K : PySem.W.Frag} {F F' F'' H H' H'' : Hp} {d : D} {Q : VK} {v : V} {m rm rm' : Md} {e a b c tg : Expr} {es : List Expr} {f g fa fb fc : En → Option D} {fs : En → Option (List D)} {pos pos' p p' : Pos} {x y : Str} {k n : Nat} {fa' : Addr} {fd : FuncData} {ps : List Str} {gg : D → List D → Option (D × D)} {pn : List Nat}
/-- f(x, ..): what x holds is changed -/
def sCallU (i : Nat) (m : Md) (n : Nat) (g : D → List D → Option (D × D)) (fs : En → Option (List D)) : En → Option Out := fun ρ => match ρ.getD i none, fs ρ with
  | some (k, d0), some ds => if k = m ∧ ds.length + 1 = n then match g d0 ds with
      | some (_, d1) => some (.nx (ρ.set i (some (m, d1))))
      | none => none
    else none
  | _, _ => none
theorem EnvR.chg {i : Nat} {ρ : En} {σ : L2.St} {φ : Nat → List Addr} {d1 : D} {L1 : List Addr} (en : EnvR K F H ρ σ φ) (hm : m.st = true) (hi : i < ρ.length) (hσ : σ[i]? = some (some v)) (hh : ∀ a o, H a = some o → a ∉ φ i → H' a = some o) (al : ∀ a, H' a = none → H a = none) (ff : Same F F') (b : Base F' H')
    (fr : ∀ a o, F' a = some o → F a = some o ∨ H a = none ∨ a ∈ φ i) (mm : M K m F' H' v d1 L1) (nd : L1.Nodup) (sub : ∀ a ∈ L1, H a = none ∨ a ∈ φ i) :
    EnvR K F' H' (ρ.set i (some (m, d1))) σ (putφ i L1 φ) ∧ Step F H φ F' H' (putφ i L1 φ) := by
  refine ⟨en.put (F' := F') (H' := H') (σ' := σ) b ff (fun j hj a ha => ?_) (fun _ _ => rfl) rfl hi hσ hm mm nd (fun j hj a ha hja => ?_), ⟨fun a o e h => hh a o e (h i), al, ff, fun a o e => ?_, fun j a hj => ?_⟩⟩
  · obtain ⟨f0, o, ho, _⟩ := en.own j a ha
    have hni : a ∉ φ i := fun z => hj (en.dj j i a ha z)
    refine ⟨?_, (hh a o ho hni).trans ho.symm⟩
    cases q : F' a with
    | none => rfl
    | some u =>
      rcases fr a u q with z | z | z
      · rw [f0] at z; cases z
      · rw [ho] at z; cases z
      · exact absurd z hni
  · rcases sub a ha with z | z
    · obtain ⟨_, o, ho, _⟩ := en.own j a hja
      rw [z] at ho; cases ho
    · exact hj (en.dj j i a hja z)
  · rcases fr a o e with z | z | z
    · exact .inl z
    · exact .inr (.inl z)
    · exact .inr (.inr ⟨i, z⟩)
  · by_cases h : j = i
    · subst h
      rw [putφ_same] at hj
      rcases sub a hj with z | z
      · exact .inl z
      · exact .inr ⟨j, z⟩
    · rw [putφ_ne h] at hj
      exact .inr ⟨j, hj⟩
theorem sj_callU {i : Nat} (Fn : FnOk X.prog X.w X.K X.mg X.base CX0 k fa' fd ps (spU X.K n m rm' gg)) (hr : Room k X.A) (hg : Gl X x) (hmg : X.mg x = some (.ref fa')) (hk : PySem.W.keepIn X.K (.ref fa') = true) (hb : Binds X.K fd ps []) (hx : PE X (.Name y p') (tVar i)) (ha : AJ X .F es fs) (hm : m.st = true := by rfl)
    (hdb : (x == ("__debug__" : Str)) = false := by decide) (he : starEach (.Name y p' :: es) X.env = (false, eval (.Name y p') X.env) :: starEach es X.env := by rfl) (hpl : (backTo pos (starEach es X.env)).any (·.1) = false := by rfl)
    (hs : swapsWith (.Call (.Name x p) (.Name y p' :: es) [] pos) none pos'.line X.env = pure false := by rfl) : SJ X rm pn (.Expr (.Call (.Name x p) (.Name y p' :: es) [] pos) pos') (sCallU i m n gg fs) :=
  PS.imp (ps_expr (pe_call (E := E0) Fn hr hg hmg hk hb .nil pass0 (pa_cons hx ha he) hdb he hpl) hs) fun D σ H ⟨F, ρ, φ, o, en, e, q⟩ => by
    unfold sCallU at e
    split at e
    · split at e
      · split at e
        · cases e
          rename_i hgk hfs hc _ _ d1 hgg
          obtain ⟨rfl, hn⟩ := hc
          have hg' := getD_some hgk
          obtain ⟨hst, v, hv1, mm⟩ := en.sl i _ _ hg'
          have hil : i < ρ.length := (List.getElem?_eq_some_iff.mp hg').1
          refine ⟨v, hv1, F, ρ, φ, _, en, hfs, fun vs F1 H1 L g1 m1 _ _ => ?_⟩
          have en1 := en.grow g1
          show spU X.K n _ _ gg ((v :: vs) ++ []) H1 _ E0
          rw [List.append_nil]
          refine ⟨by rw [List.length_cons, m1.1.length]; exact hn, F1, v, vs, _, _, _, d1, φ i, rfl, g1.base, mm.grow g1, en.nd i, m1.1, hgg, ?_⟩
          intro u F' H' L L1 hh al ff b fr _ _ mm1 nd1 _ sub1 _
          obtain ⟨en2, st2⟩ := en1.chg hm hil hv1 hh al ff b fr mm1 nd1 sub1
          exact q σ F' H' _ (g1.step.trans st2) en2 Pin.refl
        · cases e
      · cases e
    · cases e
end
end DI

set_option Elab.async false
set_option linter.all false
set_option maxRecDepth 100000
/-! DI, part N: defs by their promise alone; short forms for printed texts. -/
namespace DI
open PySem PySem.Spec PyProof.Rows L2

theorem hu_1 {A : Around} {k : Nat} (hr : Room k A) : A.units + 1 < cLine := hu_of hr
theorem hu_64 {A : Around} {k : Nat} (hr : Room k A) : A.units + 64 < cLine := by have := hr.un; omega
theorem hu_65 {A : Around} {k : Nat} (hr : Room k A) : A.units + 65 < cLine := by have := hr.un; omega
/-- a def of that name keeps the promise -/
structure HasF (P : Program) (w : World) (K : PySem.W.Frag) (mg : Str → Option Value) (base : Heap) (k : Nat) (x : Str) (n : Nat) (rm : Md) (g : List D → Option D) : Prop where
  ex : ∃ (a : Addr) (fd : FuncData) (ps : List Str), FnOk P w K mg base CX0 k a fd ps (spD K n rm g) ∧ mg x = some (.ref a) ∧ PySem.W.keepIn K (.ref a) = true ∧ Binds K fd ps []
structure HasU (P : Program) (w : World) (K : PySem.W.Frag) (mg : Str → Option Value) (base : Heap) (k : Nat) (x : Str) (n : Nat) (m rm : Md) (g : D → List D → Option (D × D)) : Prop where
  ex : ∃ (a : Addr) (fd : FuncData) (ps : List Str), FnOk P w K mg base CX0 k a fd ps (spU K n m rm g) ∧ mg x = some (.ref a) ∧ PySem.W.keepIn K (.ref a) = true ∧ Binds K fd ps []
section
variable {P : Program} {w : World} {K : PySem.W.Frag} {mg : Str → Option Value} {base : Heap} {k n : Nat} {x : Str} {m rm : Md} {a : Addr} {fd : FuncData} {ps : List Str}
theorem HasF.mk' {g : List D → Option D} (hm : mg x = some (.ref a)) (hk : PySem.W.keepIn K (.ref a) = true) (hb : Binds K fd ps []) (h : FnOk P w K mg base CX0 k a fd ps (spD K n rm g)) : HasF P w K mg base k x n rm g := ⟨a, fd, ps, h, hm, hk, hb⟩
theorem HasU.mk' {g : D → List D → Option (D × D)} (hm : mg x = some (.ref a)) (hk : PySem.W.keepIn K (.ref a) = true) (hb : Binds K fd ps []) (h : FnOk P w K mg base CX0 k a fd ps (spU K n m rm g)) : HasU P w K mg base k x n m rm g := ⟨a, fd, ps, h, hm, hk, hb⟩
theorem HasF.imp {g g' : List D → Option D} (h : HasF P w K mg base k x n rm g) (i : ∀ ds d, g' ds = some d → g ds = some d) : HasF P w K mg base k x n rm g' := by
  obtain ⟨a, fd, ps, h, hm, hk, hb⟩ := h.ex
  exact ⟨a, fd, ps, spD_imp h i, hm, hk, hb⟩
end
section
variable {X : Cx} {e a b c tg : Expr} {es : List Expr} {f g fa fb fc : En → Option D} {fs : En → Option (List D)} {pos pos' p p' ppos : Pos} {x y : Str} {j k n : Nat} {m rm rm' : Md} {gg : List D → Option D} {gu : D → List D → Option (D × D)} {pn mv : List Nat}
theorem ej_callH (h : HasF X.prog X.w X.K X.mg X.base k x n rm gg) (hr : Room j X.A) (hj : k ≤ j) (hg : Gl X x) (ha : AJ X .F (e :: es) fs)
    (hdb : (x == ("__debug__" : Str)) = false := by decide) (he : starEach (e :: es) X.env = (false, eval e X.env) :: starEach es X.env := by rfl) (hpl : (backTo pos (starEach es X.env)).any (·.1) = false := by rfl) : EJ X rm (.Call (.Name x p) (e :: es) [] pos) (fCall n gg fs) := by
  obtain ⟨a, fd, ps, F, hm, hk, hb⟩ := h.ex
  exact ej_call F (hr.mono hj) hg hm hk hb ha hdb he hpl
/-- arguments borrowed, the answer new all through -/
theorem ej_callHB (h : HasF X.prog X.w X.K X.mg X.base k x n .T gg) (hr : Room j X.A) (hj : k ≤ j) (hg : Gl X x) (ha : AJ X .B (e :: es) fs)
    (hdb : (x == ("__debug__" : Str)) = false := by decide) (he : starEach (e :: es) X.env = (false, eval e X.env) :: starEach es X.env := by rfl) (hpl : (backTo pos (starEach es X.env)).any (·.1) = false := by rfl) : EJ X .T (.Call (.Name x p) (e :: es) [] pos) (fCall n gg fs) := by
  obtain ⟨a, fd, ps, F, hm, hk, hb⟩ := h.ex
  exact ej_callB F (hr.mono hj) hg hm hk hb ha hdb he hpl
theorem sj_callUH {i : Nat} (h : HasU X.prog X.w X.K X.mg X.base k x n m rm' gu) (hr : Room j X.A) (hj : k ≤ j) (hg : Gl X x) (hx : PE X (.Name y p') (tVar i)) (ha : AJ X .F es fs) (hm : m.st = true := by rfl)
    (hdb : (x == ("__debug__" : Str)) = false := by decide) (he : starEach (.Name y p' :: es) X.env = (false, eval (.Name y p') X.env) :: starEach es X.env := by rfl) (hpl : (backTo pos (starEach es X.env)).any (·.1) = false := by rfl)
    (hs : swapsWith (.Call (.Name x p) (.Name y p' :: es) [] pos) none pos'.line X.env = pure false := by rfl) : SJ X rm pn (.Expr (.Call (.Name x p) (.Name y p' :: es) [] pos) pos') (sCallU i m n gu fs) := by
  obtain ⟨a, fd, ps, F, hmm, hk, hb⟩ := h.ex
  exact sj_callU F (hr.mono hj) hg hmm hk hb hx ha hm hdb he hpl hs
theorem SJ.of {st : Stmt} {s s' : En → Option Out} (h : s' = s) (q : SJ X rm pn st s) : SJ X rm pn st s' := h ▸ q
theorem EJ.of {f' : En → Option D} (h : f' = f) (q : EJ X m e f) : EJ X m e f' := h ▸ q
theorem SJ.asgOf {st : Stmt} {i : Nat} {f' : En → Option D} (h : f' = f) (q : SJ X rm pn st (sAsg i m f mv)) : SJ X rm pn st (sAsg i m f' mv) := h ▸ q
/-- x.append(e) -/
theorem sj_append {i : Nat} {x : Str} {apos cpos : Pos} (hx : PE X (.Name x pos') (tVar i)) (he : EM X m.inn e f mv) (hm : m = .o ∨ m = .T)
    (hbase : attributeBase (.Name x pos') "append" X.env (eval (.Name x pos') X.env) = eval (.Name x pos') X.env := by rfl)
    (hfew : ((backTo cpos (starEach [e] X.env)).all (fun x => !x.1) && (backToKw cpos (keywordEach [] X.env)).all (fun x => x.1.isSome)
      && decide ([e].length + ([] : List Keyword).length + (if ([] : List Keyword).isEmpty then 0 else 1) < 30)) = true := by rfl)
    (hline : (apos.endLine == cpos.line) = true := by rfl) (hst : starEach [e] X.env = (false, eval e X.env) :: starEach [] X.env := by rfl)
    (hs : swapsWith (.Call (.Attribute (.Name x pos') "append" apos) [e] [] cpos) none pos.line X.env = pure false := by rfl) (hv : i ∉ mv := by decide) : SJ X rm pn (.Expr (.Call (.Attribute (.Name x pos') "append" apos) [e] [] cpos) pos) (sApp i m f mv) :=
  sj_app hx he hm (pe_bm PySem.F.plainAttrs_list PySem.F.slot_list_append PySem.F.type_list_append mt_append hx (pa_cons he pa_nil hst) hbase hfew hline hst rfl) hs hv
end
end DI
namespace DI
open PySem PySem.Spec PyProof.Rows L2
/-- what law(script) promises: for a list of at most 63 ints the answer is True -/
def spLaw (K : PySem.W.Frag) : Sp := fun vs H Q _ => ∃ (a : Addr) (ns : List Int), vs = [.ref a] ∧ SqL K H a (ns.map V.int) ∧ ns.length ≤ 63 ∧ ∀ H', Q (.bl true) H'
theorem rs_ints {K : PySem.W.Frag} {G : Hp} : ∀ ns : List Int, Rs K G (ns.map V.int) (ns.map PyData.int)
  | [] => .nil
  | n :: r => .cons (.int n) (rs_ints r)
theorem law_of {P : Program} {w : World} {K : PySem.W.Frag} {mg : Str → Option Value} {base : Heap} {k : Nat} {a : Addr} {fd : FuncData} {ps : List Str} {g : List D → Option D} (h : FnOk P w K mg base CX0 k a fd ps (spD K 1 .F g)) (hp : ∀ ns : List Int, ns.length ≤ 63 → g [.list (ns.map .int)] = some (.bool true)) :
    FnOk P w K mg base CX0 k a fd ps (spLaw K) := h.imp fun vs H Q E ⟨p, ns, e, hS, hl, q⟩ => by
  subst e
  refine ⟨rfl, H, _, _, ⟨Same.refl _, fun _ _ e _ => e⟩, .cons (.lst hS (rs_ints ns)) .nil, hp ns hl, fun v F' H' L _ mm _ _ => ?_⟩
  have r := mm.1
  cases r
  exact q H'
theorem walk {l : PySem.W.OpenLaw} {k : Nat} {q : Program} {loose : List Str} {XP : (Str → Option Value) → Heap → Prop} {YP : World → Heap → Prop} {d : DefRec} {K : Params → PySem.W.Frag} (hr : Room k callerA) (hn : l.most = some 63) (hdf : d.params.defaults = [])
    (hY : ∀ (w : World) (h : Heap), YP w h → (K w.params).In h)
    (F : ∀ (w : World) (mg : Str → Option Value) (fa : Addr) (h : Heap), (K w.params).In h → h.Ns mainGlobals mg → mg d.name = some (.ref fa) →
      ∃ fd : FuncData, (∀ (s : Shared) (u : Value), BindsTo s fd ⟨[u], []⟩ [("_law_script", u)]) ∧ ∀ base : Heap, (K w.params).In base → base.Ns mainGlobals mg → FnOk l.prog w (K w.params) mg base CX0 k fa fd ["_law_script"] (spLaw (K w.params))) :
    PySem.W.WalkO q loose XP YP l.row.toRowW d [] (fun f vs => PySem.call f vs) :=
  L2.walk_of (n := 63) (k := k) (x := "_law_script") (CX := fun _ => CX0) (sp := fun w => spLaw (K w.params)) hn (by decide) hdf hr hY F (fun _ _ a ns hl _ hS => ⟨a, ns, rfl, hS, hl, fun _ => rfl⟩) fun _ _ _ _ _ z => z
end DI

set_option Elab.async false
set_option linter.all false
set_option maxRecDepth 100000
/-! DI, part P: plain laws. -/
namespace DI
open PySem PySem.Spec PyProof.Rows L2

/-! ### what the operations say of numbers and texts -/
theorem dAdd_i (a b : Int) : dAdd (.int a) (.int b) = some (.int (a + b)) := (rfl)
theorem dAdd_s (a b : Str) (h : a.length + b.length ≤ 1000000) : dAdd (.str a) (.str b) = some (.str (a ++ b)) := by
  show (if a.length + b.length ≤ 1000000 then some (PyData.str (a ++ b)) else none) = _
  rw [if_pos h]
theorem dSub_i (a b : Int) : dSub (.int a) (.int b) = some (.int (a - b)) := (rfl)
theorem dMul_i (a b : Int) (h : (-(2 ^ 64) < a ∧ a < 2 ^ 64) ∨ (-(2 ^ 64) < b ∧ b < 2 ^ 64)) : dMul (.int a) (.int b) = some (.int (a * b)) := by
  have : okMul a b = true := by unfold okMul; simpa using h
  show (if okMul a b = true then some (PyData.int (a * b)) else none) = _
  rw [if_pos this]
theorem dMod_i (a b : Int) (h : 0 < b) : dMod (.int a) (.int b) = some (.int (a % b)) := by
  show (if decide (0 < b) = true then some (PyData.int (a % b)) else none) = _
  rw [if_pos (decide_eq_true h)]
theorem dDiv_i (a b : Int) (h : 0 < b) (h2 : b < 1073741824) : dDiv (.int a) (.int b) = some (.int (a / b)) := by
  show (if (decide (0 < b) && decide (b < 1073741824)) = true then some (PyData.int (a / b)) else none) = _
  rw [if_pos (by simp [h, h2])]
theorem dEq_i (a b : Int) : dEq (.int a) (.int b) = some (.bool (decide (a = b))) := (rfl)
theorem dNe_i (a b : Int) : dNe (.int a) (.int b) = some (.bool (!decide (a = b))) := (rfl)
theorem dEq_s (a b : Str) : dEq (.str a) (.str b) = some (.bool (decide (a = b))) := (rfl)
theorem dLt_i (a b : Int) : dLt (.int a) (.int b) = some (.bool (decide (a < b))) := (rfl)
theorem dLe_i (a b : Int) : dLe (.int a) (.int b) = some (.bool (decide (a ≤ b))) := (rfl)
theorem dGt_i (a b : Int) : dGt (.int a) (.int b) = some (.bool (decide (a > b))) := (rfl)
theorem dGe_i (a b : Int) : dGe (.int a) (.int b) = some (.bool (decide (a ≥ b))) := (rfl)
theorem bOf_b (b : Bool) : bOf (some (.bool b)) = some b := (rfl)
theorem oMap_some {α β : Type} (f : α → β) (a : α) : Option.map f (some a) = some (f a) := (rfl)
theorem okR_i {j : Int} (h0 : 0 ≤ j) (h : j < 1000000000) : okR j = true := by
  unfold okR
  rw [Bool.and_eq_true, decide_eq_true_eq, decide_eq_true_eq]
  omega
def rg (n : Nat) : List D := (List.range n).map fun (i : Nat) => .int (i : Nat)
theorem irng_rg (n : Nat) : irng 0 n = rg n := by
  unfold irng rg
  congr; funext i; rw [Int.zero_add]
theorem fRange1_i {f : En → Option D} {ρ : En} {j : Int} (h : f ρ = some (.int j)) (h0 : 0 ≤ j) (h1 : j < 1000000000) : fRange1 f ρ = some (rg j.toNat) := by
  unfold fRange1
  rw [h]
  show (if okR j = true then some (irng 0 j.toNat) else none) = _
  rw [if_pos (okR_i h0 h1), irng_rg]
theorem fLoop_inv {b : D → En → Option En} {s : En → Option Out} (I : Nat → En → Prop) : ∀ (ds : List D) (k : Nat) (ρ : En), I k ρ → (∀ i d ρ, ds[i]? = some d → I (k + i) ρ → ∃ ρ1 ρ2, b d ρ = some ρ1 ∧ (s ρ1 = some (.nx ρ2) ∨ s ρ1 = some (.ct ρ2)) ∧ I (k + i + 1) ρ2) →
    ∃ ρ', fLoop b s ds ρ = some (.nx ρ') ∧ I (k + ds.length) ρ'
  | [], k, ρ, h0, _ => ⟨ρ, rfl, h0⟩
  | d :: ds, k, ρ, h0, hs => by
    obtain ⟨ρ1, ρ2, h1, h2, h3⟩ := hs 0 d ρ rfl h0
    obtain ⟨ρ', h4, h5⟩ := fLoop_inv I ds (k + 1) ρ2 h3 fun i e r h hi => by
      have := hs (i + 1) e r (by simpa using h) (by rw [show k + (i + 1) = k + 1 + i by omega]; exact hi)
      rw [show k + (i + 1) + 1 = k + 1 + i + 1 by omega] at this
      exact this
    refine ⟨ρ', ?_, by rw [List.length_cons, show k + (ds.length + 1) = k + 1 + ds.length by omega]; exact h5⟩
    rcases h2 with h2 | h2 <;> (simp only [fLoop, h1, h2]; exact h4)
section
variable {b : D → En → Option En} {s : En → Option Out} {d d' : D} {ds : List D} {ρ ρ1 ρ2 : En}
theorem fLoop_nx (h1 : b d ρ = some ρ1) (h2 : s ρ1 = some (.nx ρ2)) : fLoop b s (d :: ds) ρ = fLoop b s ds ρ2 := by simp only [fLoop, h1, h2]
theorem fLoop_ct (h1 : b d ρ = some ρ1) (h2 : s ρ1 = some (.ct ρ2)) : fLoop b s (d :: ds) ρ = fLoop b s ds ρ2 := by simp only [fLoop, h1, h2]
theorem fLoop_rt (h1 : b d ρ = some ρ1) (h2 : s ρ1 = some (.rt d' ρ2)) : fLoop b s (d :: ds) ρ = some (.rt d' ρ2) := by simp only [fLoop, h1, h2]
theorem fLoop_bk (h1 : b d ρ = some ρ1) (h2 : s ρ1 = some (.bk ρ2)) : fLoop b s (d :: ds) ρ = some (.nx ρ2) := by simp only [fLoop, h1, h2]
end
theorem wLoop_f {c : En → Option Bool} {s : En → Option Out} {n : Nat} {ρ : En} (h : c ρ = some false) : wLoop c s (n + 1) ρ = some (.nx ρ) := by simp only [wLoop, h]
theorem wLoop_t {c : En → Option Bool} {s : En → Option Out} {n : Nat} {ρ ρ' : En} (h : c ρ = some true) (h2 : s ρ = some (.nx ρ')) : wLoop c s (n + 1) ρ = wLoop c s n ρ' := by simp only [wLoop, h, h2]
theorem rg_get {n i : Nat} {d : D} (h : (rg n)[i]? = some d) : i < n ∧ d = .int (i : Nat) := by
  rw [← irng_rg] at h
  obtain ⟨h1, rfl⟩ := irng_get h
  exact ⟨h1, by rw [Int.zero_add]⟩
theorem rg_length (n : Nat) : (rg n).length = n := by rw [← irng_rg, irng_length]
theorem rLoop_inv {b : D → En → Option En} {s : En → Option Out} (I : Nat → En → Prop) {n : Nat} {ρ : En} (h0 : I 0 ρ) (hs : ∀ i ρ, i < n → I i ρ → ∃ ρ1 ρ2, b (.int (i : Nat)) ρ = some ρ1 ∧ (s ρ1 = some (.nx ρ2) ∨ s ρ1 = some (.ct ρ2)) ∧ I (i + 1) ρ2) :
    ∃ ρ', fLoop b s (rg n) ρ = some (.nx ρ') ∧ I n ρ' := by
  obtain ⟨ρ', h1, h2⟩ := fLoop_inv I (rg n) 0 ρ h0 fun i d r h hi => by
    obtain ⟨hl, rfl⟩ := rg_get h
    rw [Nat.zero_add] at hi ⊢
    exact hs i r hl hi
  rw [Nat.zero_add, rg_length] at h2
  exact ⟨ρ', h1, h2⟩
theorem sForR_inv {f : En → Option D} {b : D → En → Option En} {s : En → Option Out} (I : Nat → En → Prop) {n : Nat} {ρ : En} (hf : fRange1 f ρ = some (rg n)) (h0 : I 0 ρ) (hs : ∀ i ρ, i < n → I i ρ → ∃ ρ1 ρ2, b (.int (i : Nat)) ρ = some ρ1 ∧ (s ρ1 = some (.nx ρ2) ∨ s ρ1 = some (.ct ρ2)) ∧ I (i + 1) ρ2) :
    ∃ ρ', sFor (fRange1 f) b s ρ = some (.nx ρ') ∧ I n ρ' := by
  unfold sFor
  rw [hf]
  exact rLoop_inv I h0 hs
theorem fRange1_n {f : En → Option D} {ρ : En} {n : Nat} (h : f ρ = some (.int (n : Nat))) (h1 : n < 1000000000) : fRange1 f ρ = some (rg n) := by
  have := fRange1_i h (by omega) (by omega)
  rw [Int.toNat_natCast] at this
  exact this
/-! subscripts -/
theorem atI_pos {α : Type} {l : List α} {i : Nat} (h : i < l.length) : atI l (i : Int) = some l[i] := by
  exact atI_nat (List.getElem?_eq_getElem h)
theorem dIx_l {xs : List D} {i : Nat} (h : i < xs.length) : dIx (.list xs) (.int (i : Nat)) = some xs[i] := atI_pos h
theorem dIx_t {xs : List D} {i : Nat} (h : i < xs.length) : dIx (.tuple xs) (.int (i : Nat)) = some xs[i] := atI_pos h
theorem dIx_s {z : Str} {i : Int} (h0 : 0 ≤ i) (h : i < z.length) (hl : z.length ≤ 1000000) : ∃ c, dIx (.str z) (.int i) = some (.str ⟨#[c]⟩) ∧ (PyData.strOk z = true → PyData.strOk ⟨#[c]⟩ = true) := by
  obtain ⟨k, rfl⟩ : ∃ k : Nat, i = k := ⟨i.toNat, by omega⟩
  have hk : k < z.cps.toList.length := by
    have : z.length = z.cps.toList.length := by simp [Str.length]
    omega
  refine ⟨z.cps.toList[k], ?_, fun h => ?_⟩
  rotate_left
  · unfold PyData.strOk at h ⊢
    rw [← Array.all_toList, List.all_eq_true] at h
    have := h _ (List.getElem_mem hk)
    simpa using this
  show (if z.length ≤ 1000000 then (atI z.cps.toList (k : Int)).map fun c => (PyData.str ⟨#[c]⟩) else none) = _
  rw [if_pos hl, atI_pos hk]
  rfl
theorem scD_strs (ws : List Str) : (ws.map PyData.str).all scD = true := by
  rw [List.all_eq_true]
  intro d hd
  obtain ⟨w, _, rfl⟩ := List.mem_map.mp hd
  rfl
theorem eqv_str (a b : Str) : PyData.eqv (.str a) (.str b) = decide (a = b) := by
  rw [PyData.eqv]
  by_cases h : a = b
  · subst h; simp
  · rw [decide_eq_false h]; exact beq_eq_false_iff_ne.mpr h
theorem any_strs (w : Str) : ∀ ws : List Str, ((ws.map PyData.str).any fun y => PyData.eqv y (.str w)) = decide (w ∈ ws)
  | [] => rfl
  | a :: ws => by
    rw [List.map_cons, List.any_cons, any_strs w ws, eqv_str]
    by_cases h : a = w
    · subst h; simp
    · have h' : ¬ w = a := fun z => h z.symm
      simp [h, h', List.mem_cons]
theorem dInB_strs (w : Str) (ws : List Str) : dInB (.str w) (.list (ws.map .str)) = some (decide (w ∈ ws)) := by
  show (if scD (.str w) && (ws.map PyData.str).all scD then some ((ws.map PyData.str).any fun y => PyData.eqv y (.str w)) else _) = _
  rw [scD_strs, any_strs]
  rfl
theorem dIn_strs (w : Str) (ws : List Str) : dIn (.str w) (.list (ws.map .str)) = some (.bool (decide (w ∈ ws))) := by
  unfold dIn; rw [dInB_strs]; rfl
theorem dNotIn_strs (w : Str) (ws : List Str) : dNotIn (.str w) (.list (ws.map .str)) = some (.bool (!decide (w ∈ ws))) := by
  unfold dNotIn; rw [dInB_strs]; rfl
theorem find_strs (w : Str) : ∀ ws : List Str, ((ws.map PyData.str).findIdx? fun z => PyData.eqv z (.str w)) = ws.findIdx? fun z => decide (z = w)
  | [] => rfl
  | a :: ws => by rw [List.map_cons, List.findIdx?_cons, List.findIdx?_cons, eqv_str, find_strs w ws]
theorem dIndex_strs (w : Str) (ws : List Str) : dIndex (.list (ws.map .str)) (.str w) = (ws.findIdx? fun z => decide (z = w)).map fun j => .int (j : Nat) := by
  show (if scD (.str w) && (ws.map PyData.str).all scD then ((ws.map PyData.str).findIdx? fun z => PyData.eqv z (.str w)).map (fun j => PyData.int (j : Nat)) else none) = _
  rw [scD_strs, find_strs]
  rfl
theorem dIsN_n (d : D) : dIsN d .none = some (.bool (isNon d)) := by cases d <;> rfl
theorem dNotN_n (d : D) : dNotN d .none = some (.bool (!isNon d)) := by cases d <;> rfl
def encO : Option Nat → D
  | none => .none
  | some n => .int (n : Nat)
theorem encO_n : encO none = .none := (rfl)
theorem encO_s (n : Nat) : encO (some n) = .int (n : Nat) := (rfl)
theorem isNon_encO (o : Option Nat) : isNon (encO o) = o.isNone := by cases o <;> rfl
theorem dLen_l (xs : List D) : dLen [.list xs] = some (.int xs.length) := rfl
theorem strOk_app {a b : Str} (h : PyData.strOk a = true) (k : PyData.strOk b = true) : PyData.strOk (a ++ b) = true := by
  unfold PyData.strOk at *
  rw [Str.cps_append, Array.all_append, h, k]
  rfl
theorem lcLoop_map {α : Type} {bb : D → En → Option En} {cc : En → Option Bool} {f : En → Option D} {ρ : En} (e g : α → D) : ∀ xs : List α, (∀ x ∈ xs, ∃ ρ1, bb (e x) ρ = some ρ1 ∧ cc ρ1 = some true ∧ f ρ1 = some (g x)) → lcLoop bb cc f ρ (xs.map e) = some (xs.map g)
  | [], _ => rfl
  | x :: xs, h => by
    obtain ⟨ρ1, h1, h2, h3⟩ := h x List.mem_cons_self
    have ih := lcLoop_map e g xs fun y hy => h y (List.mem_cons_of_mem _ hy)
    simp only [List.map_cons, lcLoop, h1, h2, h3, ih]
theorem fLc_map {α : Type} {N : Nat} {own : List Nat} {fi : En → Option (List D)} {bb : D → En → Option En} {cc : En → Option Bool} {f : En → Option D} {ρ : En} (e g : α → D) (xs : List α) (hN : ρ.length = N) (hi : fi ρ = some (xs.map e)) (hl : xs.length < 1000000)
    (h : ∀ x ∈ xs, ∃ ρ1, bb (e x) (clr own ρ) = some ρ1 ∧ cc ρ1 = some true ∧ f ρ1 = some (g x)) : fLc N own fi bb cc f ρ = some (.list (xs.map g)) := by
  unfold fLc
  rw [if_pos hN, hi]
  show (if (xs.map e).length < 1000000 then _ else _) = _
  rw [if_pos (by rw [List.length_map]; exact hl), lcLoop_map e g xs h]
theorem dIx_last (xs : List D) (d : D) : dIx (.list (xs ++ [d])) (.int (-1)) = some d := by
  show atI (xs ++ [d]) (-1) = some d
  unfold atI ixN
  simp only [List.length_append, List.length_cons, List.length_nil]
  rw [if_neg (by decide)]
  split
  · rename_i h
    simp only [Option.bind_some]
    rw [show (-1 + ((xs.length + (0 + 1) : Nat) : Int)).toNat = xs.length by omega, List.getElem?_append_right (Nat.le_refl _)]
    simp
  · omega
end DI

set_option Elab.async false
set_option linter.all false
set_option maxRecDepth 100000
noncomputable section
namespace K82
open PySem PySem.Spec PyProof.Rows L2 DI
def top (i : Nat) : Stmt := PySem.Challenge.pw_usewarden_k82_whole_shortest_breach.main.body.getD i (.Pass ⟨0, 0, 0, 0⟩)
section
variable {P : Program} {w : World} {K : PySem.W.Frag} {mg : Str → Option Value} {base : Heap}
abbrev s__law_mixed : Stmt := top 10
def c__law_mixed : En → Option Out := (sSeq (sAsg 2 .F (fBin dMod (fBin dMul (fBin dAdd (fBin dAdd (fBin dMod (fVar 0) (fC (.int 2147483647))) (fBin dMul (fBin dMul (fC (.int 7919)) (fVar 1)) (fVar 1))) (fVar 1)) (fC (.int 48271))) (fC (.int 2147483647))) []) (sRet (fBin dMod (fBin dMul (fVar 2) (fVar 2)) (fC (.int 1000003))) []))
theorem x__law_mixed : ∃ g : List D → Option D, g = runD 3 c__law_mixed := ⟨_, rfl⟩
noncomputable def f__law_mixed : List D → Option D := Classical.choose x__law_mixed
theorem e__law_mixed : f__law_mixed = runD 3 c__law_mixed := Classical.choose_spec x__law_mixed
theorem sc__law_mixed : FnScope ["_law_cell", "_law_k", "_law_number"] ["_law_cell", "_law_k"] (defScope s__law_mixed) := ⟨rfl, rfl, rfl, by decide +kernel, rfl, by decide +kernel, by decide +kernel⟩
theorem ok__law_mixed  {a : Addr} {fd : FuncData} (F : Fun K "_law_mixed" "_law_mixed" s__law_mixed a fd) (m : mg "_law_mixed" = some (.ref a)) : HasF P w K mg base 1 "_law_mixed" 2 .F f__law_mixed := by
  rw [e__law_mixed]
  refine HasF.mk' m F.kp (F.binds (ps := ["_law_cell", "_law_k"]) fun _ _ _ _ _ _ us hl => match us, hl with | [_, _], _ => rfl) (fn_d F sc__law_mixed (.inr rfl) fun cdv A outer s H E hr => ?_)
  have hu1 := hu_1 hr
  have hu64 := hu_64 hr
  have hu65 := hu_65 hr
  exact ssj_cons (sj_asg (sc__law_mixed.nd) (by rfl) (by first | exact Or.inl rfl | exact Or.inr rfl) (EJ.em (EJ.frz (ej_mod ((EJ.br (ej_mul ((EJ.br (ej_add ((EJ.br (ej_add ((EJ.br (ej_mod ((ej_var 0 (pv 0))) ((EJ.br ej_int))))) ((EJ.br (ej_mul ((EJ.br (ej_mul ((EJ.br ej_int)) ((ej_var 1 (pv 1)))))) ((ej_var 1 (pv 1))))))))) ((ej_var 1 (pv 1)))))) ((EJ.br ej_int))))) ((EJ.br ej_int)))))) (ssj_one (sj_ret (EJ.em (EJ.frz (ej_mod ((EJ.br (ej_mul ((ej_var 2 (pv 2))) ((ej_var 2 (pv 2)))))) ((EJ.br ej_int)))))))
abbrev s__law_words : Stmt := top 11
theorem x_L1__law_words : ∃ g : En → Option Out, g = sFor (fRange1 (fVar 3)) (bName 8) (sAsg 7 .F (fBin dAdd (fVar 7) (fBin dIx (fVar 2) (fBin dMod (fBin dAdd (fCall 2 f__law_mixed (aCons (fVarF 0) (aCons (fVarF 8) aNil))) (fBin dMul (fBin dMul (fC (.int 5)) (fVar 6)) (fApp dInt (aCons (fBin dEq (fVar 8) (fVar 4)) aNil)))) (fC (.int 26))))) []) := ⟨_, rfl⟩
def L1__law_words : En → Option Out := Classical.choose x_L1__law_words
theorem e_L1__law_words : L1__law_words = sFor (fRange1 (fVar 3)) (bName 8) (sAsg 7 .F (fBin dAdd (fVar 7) (fBin dIx (fVar 2) (fBin dMod (fBin dAdd (fCall 2 f__law_mixed (aCons (fVarF 0) (aCons (fVarF 8) aNil))) (fBin dMul (fBin dMul (fC (.int 5)) (fVar 6)) (fApp dInt (aCons (fBin dEq (fVar 8) (fVar 4)) aNil)))) (fC (.int 26))))) []) := Classical.choose_spec x_L1__law_words
theorem x_L2__law_words : ∃ g : En → Option Out, g = sFor (fRange1 (fVar 1)) (bName 6) (sSeq (sAsg 7 .F (fC (.str "")) []) (sSeq L1__law_words (sApp 5 .o (fVarF 7) []))) := ⟨_, rfl⟩
def L2__law_words : En → Option Out := Classical.choose x_L2__law_words
theorem e_L2__law_words : L2__law_words = sFor (fRange1 (fVar 1)) (bName 6) (sSeq (sAsg 7 .F (fC (.str "")) []) (sSeq L1__law_words (sApp 5 .o (fVarF 7) []))) := Classical.choose_spec x_L2__law_words
def c__law_words : En → Option Out := (sSeq (sAsg 2 .F (fC (.str "abcdefghijklmnopqrstuvwxyz")) []) (sSeq (sAsg 3 .F (fBin dAdd (fC (.int 1)) (fBin dMod (fVar 0) (fC (.int 8)))) []) (sSeq (sAsg 4 .F (fBin dMod (fBin dDiv (fVar 0) (fC (.int 8))) (fVar 3)) []) (sSeq (sAsg 5 .o (fLst aNil) []) (sSeq L2__law_words (sFz 5 (sRet (fVarF 5) [])))))))
theorem x__law_words : ∃ g : List D → Option D, g = runD 9 c__law_words := ⟨_, rfl⟩
noncomputable def f__law_words : List D → Option D := Classical.choose x__law_words
theorem e__law_words : f__law_words = runD 9 c__law_words := Classical.choose_spec x__law_words
theorem sc__law_words : FnScope ["_law_cell", "_law_many", "_law_letters", "_law_size", "_law_at", "_law_words_here", "_law_k", "_law_word", "_law_j"] ["_law_cell", "_law_many"] (defScope s__law_words) := ⟨rfl, rfl, rfl, by decide +kernel, rfl, by decide +kernel, by decide +kernel⟩
theorem ok__law_words (h__law_mixed : HasF P w K mg base 1 "_law_mixed" 2 .F f__law_mixed) (z_int : mg "int" = none) (z_range : mg "range" = none) {a : Addr} {fd : FuncData} (F : Fun K "_law_words" "_law_words" s__law_words a fd) (m : mg "_law_words" = some (.ref a)) : HasF P w K mg base 2 "_law_words" 2 .F f__law_words := by
  rw [e__law_words]
  refine HasF.mk' m F.kp (F.binds (ps := ["_law_cell", "_law_many"]) fun _ _ _ _ _ _ us hl => match us, hl with | [_, _], _ => rfl) (fn_d F sc__law_words (.inr rfl) fun cdv A outer s H E hr => ?_)
  have hu1 := hu_1 hr
  have hu64 := hu_64 hr
  have hu65 := hu_65 hr
  exact ssj_cons (sj_asg (sc__law_words.nd) (by rfl) (by first | exact Or.inl rfl | exact Or.inr rfl) (EJ.em (EJ.frz ej_str))) (ssj_cons (sj_asg (sc__law_words.nd) (by rfl) (by first | exact Or.inl rfl | exact Or.inr rfl) (EJ.em (EJ.frz (ej_add ((EJ.br ej_int)) ((EJ.br (ej_mod ((ej_var 0 (pv 0))) ((EJ.br ej_int))))))))) (ssj_cons (sj_asg (sc__law_words.nd) (by rfl) (by first | exact Or.inl rfl | exact Or.inr rfl) (EJ.em (EJ.frz (ej_mod ((EJ.br (ej_div ((ej_var 0 (pv 0))) ((EJ.br ej_int))))) ((ej_var 3 (pv 3))))))) (ssj_cons (sj_asg (sc__law_words.nd) (by rfl) (by first | exact Or.inl rfl | exact Or.inr rfl) (EJ.em (ej_lst1 (aj_nil)))) (ssj_cons (SJ.of e_L2__law_words (sj_for PassesOwn.never (by rfl) (ij_range1 (by rfl) z_range ((ej_var 1 (pv 1)))) (gj_name (sc__law_words.nd) (by rfl) (by first | exact Or.inl rfl | exact Or.inr rfl)) (ssj_cons (sj_asg (sc__law_words.nd) (by rfl) (by first | exact Or.inl rfl | exact Or.inr rfl) (EJ.em (EJ.frz ej_str))) (ssj_cons (SJ.of e_L1__law_words (sj_for PassesOwn.never (by rfl) (ij_range1 (by rfl) z_range ((ej_var 3 (pv 3)))) (gj_name (sc__law_words.nd) (by rfl) (by first | exact Or.inl rfl | exact Or.inr rfl)) (ssj_one (sj_asg (sc__law_words.nd) (by rfl) (by first | exact Or.inl rfl | exact Or.inr rfl) (EJ.em (EJ.frz (ej_add ((ej_var 7 (pv 7))) ((ej_ix hu64 ((ej_var 2 (pv 2))) ((EJ.br (ej_mod ((EJ.br (ej_add ((EJ.br (ej_callH h__law_mixed hr (by decide) (by rfl) (aj_cons ((ej_varF 0 (pv 0))) ((aj_cons ((ej_varF 8 (pv 8))) (aj_nil))))))) ((EJ.br (ej_mul ((EJ.br (ej_mul ((EJ.br ej_int)) ((ej_var 6 (pv 6)))))) ((EJ.br (ej_int1 (by rfl) z_int (aj_cons ((EJ.br (ej_eq hu64 ((ej_var 8 (pv 8))) ((ej_var 4 (pv 4)))))) (aj_nil))))))))))) ((EJ.br ej_int))))) (fun _ _ => (by rfl))))))))))) (ssj_one (sj_append (pv 5) (EJ.em (ej_varF 7 (pv 7))) (.inl (by rfl)))))))) (ssj_one (sj_fz 5 (sj_ret (EJ.em (ej_varF 5 (pv 5))))))))))
abbrev s__law_rule : Stmt := top 13
theorem x_Q1__law_rule : ∃ g : En → Option D, g = fLc 11 [10] (fRange1 (fBin dAdd (fC (.int 1)) (fBin dMod (fBin dDiv (fVar 0) (fC (.int 2))) (fC (.int 5))))) (bName 10) cTrue (fBin dIx (fVarC 1) (fVar 10)) := ⟨_, rfl⟩
def Q1__law_rule : En → Option D := Classical.choose x_Q1__law_rule
theorem e_Q1__law_rule : Q1__law_rule = fLc 11 [10] (fRange1 (fBin dAdd (fC (.int 1)) (fBin dMod (fBin dDiv (fVar 0) (fC (.int 2))) (fC (.int 5))))) (bName 10) cTrue (fBin dIx (fVarC 1) (fVar 10)) := Classical.choose_spec x_Q1__law_rule
theorem x_Q2__law_rule : ∃ g : En → Option D, g = fLc 11 [10] (fRange1 (fApp dLen (aCons (fVar 3) aNil))) (bName 10) cTrue (fBin dAdd (fBin dIx (fLst (aCons (fC (.str "1.")) (aCons (fC (.str "2.")) aNil))) (fBin dMod (fCall 2 f__law_mixed (aCons (fVarF 0) (aCons (fBin dAdd (fC (.int 60)) (fVar 10)) aNil))) (fC (.int 2)))) (fBin dIx (fVar 3) (fVar 10))) := ⟨_, rfl⟩
def Q2__law_rule : En → Option D := Classical.choose x_Q2__law_rule
theorem e_Q2__law_rule : Q2__law_rule = fLc 11 [10] (fRange1 (fApp dLen (aCons (fVar 3) aNil))) (bName 10) cTrue (fBin dAdd (fBin dIx (fLst (aCons (fC (.str "1.")) (aCons (fC (.str "2.")) aNil))) (fBin dMod (fCall 2 f__law_mixed (aCons (fVarF 0) (aCons (fBin dAdd (fC (.int 60)) (fVar 10)) aNil))) (fC (.int 2)))) (fBin dIx (fVar 3) (fVar 10))) := Classical.choose_spec x_Q2__law_rule
theorem x_L3__law_rule : ∃ g : En → Option Out, g = sFor (fRange1 (fApp dLen (aCons (fVar 3) aNil))) (bName 8) (sSeq (sAsg 9 .F (fCall 2 f__law_mixed (aCons (fVarF 0) (aCons (fBin dAdd (fBin dAdd (fC (.int 100)) (fBin dMul (fC (.int 17)) (fVar 6))) (fVar 8)) aNil))) []) (sIf (fun ρ => bOf (fBin dEq (fBin dMod (fBin dDiv (fVar 9) (fC (.int 60))) (fBin dIx (fLst (aCons (fC (.int 6)) (aCons (fC (.int 12)) aNil))) (fBin dMod (fBin dDiv (fVar 0) (fC (.int 2))) (fC (.int 2))))) (fC (.int 0)) ρ)) (sApp 7 .o (fC .none) []) (sIf (cAnd (fun ρ => bOf (fBin dGt (fBin dMod (fVar 9) (fC (.int 3))) (fC (.int 0)) ρ)) (fun ρ => bOf (fBin dEq (fBin dMod (fBin dDiv (fVar 0) (fC (.int 100))) (fC (.int 2))) (fC (.int 1)) ρ))) (sApp 7 .o (fBin dMod (fBin dAdd (fVar 6) (fC (.int 1))) (fVar 4)) []) (sApp 7 .o (fBin dMod (fVar 9) (fVar 4)) [])))) := ⟨_, rfl⟩
def L3__law_rule : En → Option Out := Classical.choose x_L3__law_rule
theorem e_L3__law_rule : L3__law_rule = sFor (fRange1 (fApp dLen (aCons (fVar 3) aNil))) (bName 8) (sSeq (sAsg 9 .F (fCall 2 f__law_mixed (aCons (fVarF 0) (aCons (fBin dAdd (fBin dAdd (fC (.int 100)) (fBin dMul (fC (.int 17)) (fVar 6))) (fVar 8)) aNil))) []) (sIf (fun ρ => bOf (fBin dEq (fBin dMod (fBin dDiv (fVar 9) (fC (.int 60))) (fBin dIx (fLst (aCons (fC (.int 6)) (aCons (fC (.int 12)) aNil))) (fBin dMod (fBin dDiv (fVar 0) (fC (.int 2))) (fC (.int 2))))) (fC (.int 0)) ρ)) (sApp 7 .o (fC .none) []) (sIf (cAnd (fun ρ => bOf (fBin dGt (fBin dMod (fVar 9) (fC (.int 3))) (fC (.int 0)) ρ)) (fun ρ => bOf (fBin dEq (fBin dMod (fBin dDiv (fVar 0) (fC (.int 100))) (fC (.int 2))) (fC (.int 1)) ρ))) (sApp 7 .o (fBin dMod (fBin dAdd (fVar 6) (fC (.int 1))) (fVar 4)) []) (sApp 7 .o (fBin dMod (fVar 9) (fVar 4)) [])))) := Classical.choose_spec x_L3__law_rule
theorem x_L4__law_rule : ∃ g : En → Option Out, g = sFor (fRange1 (fVar 4)) (bName 6) (sSeq (sAsg 7 .o (fLst aNil) []) (sSeq L3__law_rule (sFz 7 (sApp 5 .o (fVarF 7) [])))) := ⟨_, rfl⟩
def L4__law_rule : En → Option Out := Classical.choose x_L4__law_rule
theorem e_L4__law_rule : L4__law_rule = sFor (fRange1 (fVar 4)) (bName 6) (sSeq (sAsg 7 .o (fLst aNil) []) (sSeq L3__law_rule (sFz 7 (sApp 5 .o (fVarF 7) [])))) := Classical.choose_spec x_L4__law_rule
def c__law_rule : En → Option Out := (sSeq (sAsg 2 .F (fBin dAdd (fC (.int 1)) (fBin dMod (fVar 0) (fC (.int 2)))) []) (sSeq (sAsg 3 .F (fApp dSortS (aCons Q1__law_rule aNil)) []) (sSeq (sIf (fun ρ => bOf (fBin dEq (fVar 2) (fC (.int 2)) ρ)) (sAsg 3 .F (fApp dSortS (aCons Q2__law_rule aNil)) []) sNil) (sSeq (sAsg 4 .F (fBin dAdd (fC (.int 2)) (fBin dMod (fBin dDiv (fVar 0) (fC (.int 10))) (fC (.int 5)))) []) (sSeq (sIf (fun ρ => bOf (fBin dEq (fBin dMod (fBin dDiv (fVar 0) (fC (.int 50))) (fC (.int 8))) (fC (.int 1)) ρ)) (sAsg 4 .F (fBin dAdd (fC (.int 1)) (fBin dMod (fBin dDiv (fVar 0) (fC (.int 400))) (fC (.int 60)))) []) sNil) (sSeq (sAsg 5 .o (fLst aNil) []) (sSeq L4__law_rule (sFz 5 (sRet (fTup (aCons (fVarF 2) (aCons (fVarF 3) (aCons (fVarF 5) aNil)))) [])))))))))
theorem x__law_rule : ∃ g : List D → Option D, g = runD 11 c__law_rule := ⟨_, rfl⟩
noncomputable def f__law_rule : List D → Option D := Classical.choose x__law_rule
theorem e__law_rule : f__law_rule = runD 11 c__law_rule := Classical.choose_spec x__law_rule
theorem sc__law_rule : FnScope ["_law_cell", "_law_words_here", "_law_sides", "_law_texts", "_law_many", "_law_rooms", "_law_room", "_law_row", "_law_j", "_law_number", "_law_k"] ["_law_cell", "_law_words_here"] (defScope s__law_rule) := ⟨rfl, rfl, rfl, by decide +kernel, rfl, by decide +kernel, by decide +kernel⟩
theorem ok__law_rule (h__law_mixed : HasF P w K mg base 1 "_law_mixed" 2 .F f__law_mixed) (z_len : mg "len" = none) (z_range : mg "range" = none) (z_sorted : mg "sorted" = none) {a : Addr} {fd : FuncData} (F : Fun K "_law_rule" "_law_rule" s__law_rule a fd) (m : mg "_law_rule" = some (.ref a)) : HasF P w K mg base 2 "_law_rule" 2 .F f__law_rule := by
  rw [e__law_rule]
  refine HasF.mk' m F.kp (F.binds (ps := ["_law_cell", "_law_words_here"]) fun _ _ _ _ _ _ us hl => match us, hl with | [_, _], _ => rfl) (fn_d F sc__law_rule (.inr rfl) fun cdv A outer s H E hr => ?_)
  have hu1 := hu_1 hr
  have hu64 := hu_64 hr
  have hu65 := hu_65 hr
  exact ssj_cons (sj_asg (sc__law_rule.nd) (by rfl) (by first | exact Or.inl rfl | exact Or.inr rfl) (EJ.em (EJ.frz (ej_add ((EJ.br ej_int)) ((EJ.br (ej_mod ((ej_var 0 (pv 0))) ((EJ.br ej_int))))))))) (ssj_cons (sj_asg (sc__law_rule.nd) (by rfl) (by first | exact Or.inl rfl | exact Or.inr rfl) (EJ.em (EJ.frz (ej_sortS (by rfl) z_sorted (aj_cons ((EJ.br (EJ.of e_Q1__law_rule (ej_lc (own := [("_law_k", 10)]) .F [0, 1, 2, 3, 4, 5, 6, 7, 8, 9] 11 (by rfl) (sc__law_rule.nd) ((ij_range1 (by rfl) z_range ((EJ.br (ej_add ((EJ.br ej_int)) ((EJ.br (ej_mod ((EJ.br (ej_div ((ej_var 0 (pv 0))) ((EJ.br ej_int))))) ((EJ.br ej_int)))))))))) (blkOk_by (by rfl)) (fun _ _ _ _ _ => (gj_name (sc__law_rule.nd) (by rfl) (by first | exact Or.inl rfl | exact Or.inr rfl))) (fun _ _ _ _ _ => cs_nil) (fun _ _ _ _ _ => (ej_ixF hu64 ((ej_varC 1 (pv 1))) ((ej_var 10 (pv 10))) (fun _ _ => (by rfl)))) (.inr (by rfl)) (by decide))))) (aj_nil)))))) (ssj_cons (sj_if (cj_eq hu64 ((ej_var 2 (pv 2))) ((EJ.br ej_int))) (ssj_one (sj_asg (sc__law_rule.nd) (by rfl) (by first | exact Or.inl rfl | exact Or.inr rfl) (EJ.em (EJ.frz (ej_sortS (by rfl) z_sorted (aj_cons ((EJ.br (EJ.of e_Q2__law_rule (ej_lc (own := [("_law_k", 10)]) .F [0, 1, 2, 3, 4, 5, 6, 7, 8, 9] 11 (by rfl) (sc__law_rule.nd) ((ij_range1 (by rfl) z_range ((EJ.br (ej_len (by rfl) z_len (aj_cons ((ej_var 3 (pv 3))) (aj_nil))))))) (blkOk_by (by rfl)) (fun _ _ _ _ _ => (gj_name (sc__law_rule.nd) (by rfl) (by first | exact Or.inl rfl | exact Or.inr rfl))) (fun _ _ _ _ _ => cs_nil) (fun _ _ _ _ _ => (EJ.frz (ej_add ((ej_ix hu64 ((ej_lstB ((aj_cons ((EJ.br ej_str)) ((aj_cons ((EJ.br ej_str)) (aj_nil))))))) ((EJ.br (ej_mod ((EJ.br (ej_callH h__law_mixed hr (by decide) (by rfl) (aj_cons ((ej_varF 0 (pv 0))) ((aj_cons ((EJ.frz (ej_add ((EJ.br ej_int)) ((ej_var 10 (pv 10)))))) (aj_nil))))))) ((EJ.br ej_int))))) (fun _ _ => (by rfl)))) ((ej_ix hu64 ((ej_var 3 (pv 3))) ((ej_var 10 (pv 10))) (fun _ _ => (by rfl))))))) (.inr (by rfl)) (by decide))))) (aj_nil))))))) (ssj_nil)) (ssj_cons (sj_asg (sc__law_rule.nd) (by rfl) (by first | exact Or.inl rfl | exact Or.inr rfl) (EJ.em (EJ.frz (ej_add ((EJ.br ej_int)) ((EJ.br (ej_mod ((EJ.br (ej_div ((ej_var 0 (pv 0))) ((EJ.br ej_int))))) ((EJ.br ej_int))))))))) (ssj_cons (sj_if (cj_eq hu64 ((EJ.br (ej_mod ((EJ.br (ej_div ((ej_var 0 (pv 0))) ((EJ.br ej_int))))) ((EJ.br ej_int))))) ((EJ.br ej_int))) (ssj_one (sj_asg (sc__law_rule.nd) (by rfl) (by first | exact Or.inl rfl | exact Or.inr rfl) (EJ.em (EJ.frz (ej_add ((EJ.br ej_int)) ((EJ.br (ej_mod ((EJ.br (ej_div ((ej_var 0 (pv 0))) ((EJ.br ej_int))))) ((EJ.br ej_int)))))))))) (ssj_nil)) (ssj_cons (sj_asg (sc__law_rule.nd) (by rfl) (by first | exact Or.inl rfl | exact Or.inr rfl) (EJ.em (ej_lst1 (aj_nil)))) (ssj_cons (SJ.of e_L4__law_rule (sj_for PassesOwn.never (by rfl) (ij_range1 (by rfl) z_range ((ej_var 4 (pv 4)))) (gj_name (sc__law_rule.nd) (by rfl) (by first | exact Or.inl rfl | exact Or.inr rfl)) (ssj_cons (sj_asg (sc__law_rule.nd) (by rfl) (by first | exact Or.inl rfl | exact Or.inr rfl) (EJ.em (ej_lst1 (aj_nil)))) (ssj_cons (SJ.of e_L3__law_rule (sj_for PassesOwn.never (by rfl) (ij_range1 (by rfl) z_range ((EJ.br (ej_len (by rfl) z_len (aj_cons ((ej_var 3 (pv 3))) (aj_nil)))))) (gj_name (sc__law_rule.nd) (by rfl) (by first | exact Or.inl rfl | exact Or.inr rfl)) (ssj_cons (sj_asg (sc__law_rule.nd) (by rfl) (by first | exact Or.inl rfl | exact Or.inr rfl) (EJ.em (ej_callH h__law_mixed hr (by decide) (by rfl) (aj_cons ((ej_varF 0 (pv 0))) ((aj_cons ((EJ.frz (ej_add ((EJ.br (ej_add ((EJ.br ej_int)) ((EJ.br (ej_mul ((EJ.br ej_int)) ((ej_var 6 (pv 6))))))))) ((ej_var 8 (pv 8)))))) (aj_nil))))))) (ssj_one (sj_if (cj_eq hu64 ((EJ.br (ej_mod ((EJ.br (ej_div ((ej_var 9 (pv 9))) ((EJ.br ej_int))))) ((ej_ix hu64 ((ej_lstB ((aj_cons ((EJ.br ej_int)) ((aj_cons ((EJ.br ej_int)) (aj_nil))))))) ((EJ.br (ej_mod ((EJ.br (ej_div ((ej_var 0 (pv 0))) ((EJ.br ej_int))))) ((EJ.br ej_int))))) (fun _ _ => (by rfl))))))) ((EJ.br ej_int))) (ssj_one (sj_append (pv 7) (EJ.em (EJ.frz ej_non)) (.inl (by rfl)))) (ssj_one (sj_if (CJW.cj (cw_and (cj_gt ((EJ.br (ej_mod ((ej_var 9 (pv 9))) ((EJ.br ej_int))))) ((EJ.br ej_int))) (cw_and1 (cj_eq hu64 ((EJ.br (ej_mod ((EJ.br (ej_div ((ej_var 0 (pv 0))) ((EJ.br ej_int))))) ((EJ.br ej_int))))) ((EJ.br ej_int)))))) (ssj_one (sj_append (pv 7) (EJ.em (EJ.frz (ej_mod ((EJ.br (ej_add ((ej_var 6 (pv 6))) ((EJ.br ej_int))))) ((ej_var 4 (pv 4)))))) (.inl (by rfl)))) (ssj_one (sj_append (pv 7) (EJ.em (EJ.frz (ej_mod ((ej_var 9 (pv 9))) ((ej_var 4 (pv 4)))))) (.inl (by rfl))))))))))) (ssj_one (sj_fz 7 (sj_append (pv 5) (EJ.em (ej_varF 7 (pv 7))) (.inl (by rfl))))))))) (ssj_one (sj_fz 5 (sj_ret (EJ.em (ej_tup ((aj_cons ((ej_varF 2 (pv 2))) ((aj_cons ((ej_varF 3 (pv 3))) ((aj_cons ((ej_varF 5 (pv 5))) (aj_nil))))))))))))))))))
abbrev s__law_next : Stmt := top 14
def c__law_next : En → Option Out := (sSeq (sIf (fun ρ => bOf (fBin dIn (fVar 2) (fBin dIx (fVar 0) (fC (.int 1))) ρ)) (sRet (fBin dIx (fBin dIx (fBin dIx (fVarC 0) (fC (.int 2))) (fVar 1)) (fBin dIndex (fBin dIx (fVar 0) (fC (.int 1))) (fVar 2))) []) sNil) (sRet (fVarF 1) []))
theorem x__law_next : ∃ g : List D → Option D, g = runD 3 c__law_next := ⟨_, rfl⟩
noncomputable def f__law_next : List D → Option D := Classical.choose x__law_next
theorem e__law_next : f__law_next = runD 3 c__law_next := Classical.choose_spec x__law_next
theorem sc__law_next : FnScope ["_law_rule_here", "_law_room", "_law_text"] ["_law_rule_here", "_law_room", "_law_text"] (defScope s__law_next) := ⟨rfl, rfl, rfl, by decide +kernel, rfl, by decide +kernel, by decide +kernel⟩
theorem ok__law_next  {a : Addr} {fd : FuncData} (F : Fun K "_law_next" "_law_next" s__law_next a fd) (m : mg "_law_next" = some (.ref a)) : HasF P w K mg base 1 "_law_next" 3 .F f__law_next := by
  rw [e__law_next]
  refine HasF.mk' m F.kp (F.binds (ps := ["_law_rule_here", "_law_room", "_law_text"]) fun _ _ _ _ _ _ us hl => match us, hl with | [_, _, _], _ => rfl) (fn_d F sc__law_next (.inr rfl) fun cdv A outer s H E hr => ?_)
  have hu1 := hu_1 hr
  have hu64 := hu_64 hr
  have hu65 := hu_65 hr
  exact ssj_cons (sj_if (cj_in hu65 ((ej_var 2 (pv 2))) ((ej_ix hu64 ((ej_var 0 (pv 0))) ((EJ.br ej_int)) (fun _ _ => (by rfl)))) (by rfl)) (ssj_one (sj_ret (EJ.em (ej_ixF hu64 ((EJ.cc (ej_ixF hu64 ((EJ.cc (ej_ixF hu64 ((ej_varC 0 (pv 0))) ((EJ.br ej_int)) (fun _ _ => (by rfl))))) ((ej_var 1 (pv 1))) (fun _ _ => (by rfl))))) ((EJ.br (ej_index ((ej_ix hu64 ((ej_var 0 (pv 0))) ((EJ.br ej_int)) (fun _ _ => (by rfl)))) ((ej_var 2 (pv 2)))))) (fun _ _ => (by rfl)))))) (ssj_nil)) (ssj_one (sj_ret (EJ.em (ej_varF 1 (pv 1)))))
abbrev s__law_upto_breach : Stmt := top 15
theorem x_L1__law_upto_breach : ∃ g : En → Option Out, g = sFor (fun ρ => (fItems (fVarF 1) ρ).map enumD) (bTup 2 (bCons (bName 3) (bCons (bName 4) bNil))) (sSeq (sAsg 2 .F (fCall 3 f__law_next (aCons (fVarF 0) (aCons (fVarF 2) (aCons (fVarF 4) aNil)))) []) (sIf (fun ρ => bOf (fBin dIsN (fVar 2) (fC .none) ρ)) (sRet (fSl dSlL (fVarC 1) oN (oS (fBin dAdd (fVar 3) (fC (.int 1))))) []) sNil)) := ⟨_, rfl⟩
def L1__law_upto_breach : En → Option Out := Classical.choose x_L1__law_upto_breach
theorem e_L1__law_upto_breach : L1__law_upto_breach = sFor (fun ρ => (fItems (fVarF 1) ρ).map enumD) (bTup 2 (bCons (bName 3) (bCons (bName 4) bNil))) (sSeq (sAsg 2 .F (fCall 3 f__law_next (aCons (fVarF 0) (aCons (fVarF 2) (aCons (fVarF 4) aNil)))) []) (sIf (fun ρ => bOf (fBin dIsN (fVar 2) (fC .none) ρ)) (sRet (fSl dSlL (fVarC 1) oN (oS (fBin dAdd (fVar 3) (fC (.int 1))))) []) sNil)) := Classical.choose_spec x_L1__law_upto_breach
def c__law_upto_breach : En → Option Out := (sSeq (sAsg 2 .F (fC (.int 0)) []) (sSeq L1__law_upto_breach (sRet (fC .none) [])))
theorem x__law_upto_breach : ∃ g : List D → Option D, g = runD 5 c__law_upto_breach := ⟨_, rfl⟩
noncomputable def f__law_upto_breach : List D → Option D := Classical.choose x__law_upto_breach
theorem e__law_upto_breach : f__law_upto_breach = runD 5 c__law_upto_breach := Classical.choose_spec x__law_upto_breach
theorem sc__law_upto_breach : FnScope ["_law_rule_here", "_law_row", "_law_room", "_law_at", "_law_text"] ["_law_rule_here", "_law_row"] (defScope s__law_upto_breach) := ⟨rfl, rfl, rfl, by decide +kernel, rfl, by decide +kernel, by decide +kernel⟩
theorem ok__law_upto_breach (h__law_next : HasF P w K mg base 1 "_law_next" 3 .F f__law_next) (z_enumerate : mg "enumerate" = none) {a : Addr} {fd : FuncData} (F : Fun K "_law_upto_breach" "_law_upto_breach" s__law_upto_breach a fd) (m : mg "_law_upto_breach" = some (.ref a)) : HasF P w K mg base 2 "_law_upto_breach" 2 .F f__law_upto_breach := by
  rw [e__law_upto_breach]
  refine HasF.mk' m F.kp (F.binds (ps := ["_law_rule_here", "_law_row"]) fun _ _ _ _ _ _ us hl => match us, hl with | [_, _], _ => rfl) (fn_d F sc__law_upto_breach (.inr rfl) fun cdv A outer s H E hr => ?_)
  have hu1 := hu_1 hr
  have hu64 := hu_64 hr
  have hu65 := hu_65 hr
  exact ssj_cons (sj_asg (sc__law_upto_breach.nd) (by rfl) (by first | exact Or.inl rfl | exact Or.inr rfl) (EJ.em (EJ.frz ej_int))) (ssj_cons (SJ.of e_L1__law_upto_breach (sj_for PassesOwn.never (by rfl) (ij_enum (by rfl) z_enumerate ((ej_varF 1 (pv 1)))) (gj_tup (by rfl) (gs_cons (gj_name (sc__law_upto_breach.nd) (by rfl) (by first | exact Or.inl rfl | exact Or.inr rfl)) (gs_cons (gj_name (sc__law_upto_breach.nd) (by rfl) (by first | exact Or.inl rfl | exact Or.inr rfl)) gs_nil))) (ssj_cons (sj_asg (sc__law_upto_breach.nd) (by rfl) (by first | exact Or.inl rfl | exact Or.inr rfl) (EJ.em (ej_callH h__law_next hr (by decide) (by rfl) (aj_cons ((ej_varF 0 (pv 0))) ((aj_cons ((ej_varF 2 (pv 2))) ((aj_cons ((ej_varF 4 (pv 4))) (aj_nil))))))))) (ssj_one (sj_if (cj_isN ((ej_var 2 (pv 2))) ((EJ.br ej_non))) (ssj_one (sj_ret (EJ.em (EJ.frz (ej_slL ((ej_varC 1 (pv 1))) oj_none (oj_some ((EJ.br (ej_add ((ej_var 3 (pv 3))) ((EJ.br ej_int))))))))))) (ssj_nil)))))) (ssj_one (sj_ret (EJ.em (EJ.frz ej_non)))))
abbrev s_next_room : Stmt := top 1
def c_next_room : En → Option Out := (sSeq (sIf (fun ρ => bOf (fBin dNotIn (fVar 2) (fBin dIx (fVar 0) (fC (.int 1))) ρ)) (sRet (fVarF 1) []) sNil) (sRet (fBin dIx (fBin dIx (fBin dIx (fVarC 0) (fC (.int 2))) (fVar 1)) (fBin dIndex (fBin dIx (fVar 0) (fC (.int 1))) (fVar 2))) []))
theorem x_next_room : ∃ g : List D → Option D, g = runD 3 c_next_room := ⟨_, rfl⟩
noncomputable def f_next_room : List D → Option D := Classical.choose x_next_room
theorem e_next_room : f_next_room = runD 3 c_next_room := Classical.choose_spec x_next_room
theorem sc_next_room : FnScope ["rule", "room", "word"] ["rule", "room", "word"] (defScope s_next_room) := ⟨rfl, rfl, rfl, by decide +kernel, rfl, by decide +kernel, by decide +kernel⟩
theorem ok_next_room  {a : Addr} {fd : FuncData} (F : Fun K "next_room" "next_room" s_next_room a fd) (m : mg "next_room" = some (.ref a)) : HasF P w K mg base 1 "next_room" 3 .F f_next_room := by
  rw [e_next_room]
  refine HasF.mk' m F.kp (F.binds (ps := ["rule", "room", "word"]) fun _ _ _ _ _ _ us hl => match us, hl with | [_, _, _], _ => rfl) (fn_d F sc_next_room (.inr rfl) fun cdv A outer s H E hr => ?_)
  have hu1 := hu_1 hr
  have hu64 := hu_64 hr
  have hu65 := hu_65 hr
  exact ssj_cons (sj_if (cj_notIn hu65 ((ej_var 2 (pv 2))) ((ej_ix hu64 ((ej_var 0 (pv 0))) ((EJ.br ej_int)) (fun _ _ => (by rfl)))) (by rfl)) (ssj_one (sj_ret (EJ.em (ej_varF 1 (pv 1))))) (ssj_nil)) (ssj_one (sj_ret (EJ.em (ej_ixF hu64 ((EJ.cc (ej_ixF hu64 ((EJ.cc (ej_ixF hu64 ((ej_varC 0 (pv 0))) ((EJ.br ej_int)) (fun _ _ => (by rfl))))) ((ej_var 1 (pv 1))) (fun _ _ => (by rfl))))) ((EJ.br (ej_index ((ej_ix hu64 ((ej_var 0 (pv 0))) ((EJ.br ej_int)) (fun _ _ => (by rfl)))) ((ej_var 2 (pv 2)))))) (fun _ _ => (by rfl))))))
abbrev s_fewer : Stmt := top 6
theorem x_L1_fewer : ∃ g : En → Option Out, g = sFor (fRange1 (fApp dLen (aCons (fBin dIx (fVar 0) (fC (.int 2))) aNil))) (bName 4) (sSeq (sAsg 5 .F (fBin dIx (fVarC 2) (fVar 4)) []) (sSeq (sAsg 6 .F (fCall 3 f_next_room (aCons (fVarF 0) (aCons (fVarF 4) (aCons (fVarF 1) aNil)))) []) (sSeq (sIf (cAnd (fun ρ => bOf (fBin dNotN (fVar 6) (fC .none) ρ)) (cAnd (fun ρ => bOf (fBin dNotN (fBin dIx (fVar 2) (fVar 6)) (fC .none) ρ)) (cOr (fun ρ => bOf (fBin dIsN (fVar 5) (fC .none) ρ)) (fun ρ => bOf (fBin dLe (fBin dAdd (fBin dIx (fVar 2) (fVar 6)) (fC (.int 1))) (fVar 5) ρ))))) (sAsg 5 .F (fBin dAdd (fBin dIx (fVar 2) (fVar 6)) (fC (.int 1))) []) sNil) (sApp 3 .o (fVarF 5) [])))) := ⟨_, rfl⟩
def L1_fewer : En → Option Out := Classical.choose x_L1_fewer
theorem e_L1_fewer : L1_fewer = sFor (fRange1 (fApp dLen (aCons (fBin dIx (fVar 0) (fC (.int 2))) aNil))) (bName 4) (sSeq (sAsg 5 .F (fBin dIx (fVarC 2) (fVar 4)) []) (sSeq (sAsg 6 .F (fCall 3 f_next_room (aCons (fVarF 0) (aCons (fVarF 4) (aCons (fVarF 1) aNil)))) []) (sSeq (sIf (cAnd (fun ρ => bOf (fBin dNotN (fVar 6) (fC .none) ρ)) (cAnd (fun ρ => bOf (fBin dNotN (fBin dIx (fVar 2) (fVar 6)) (fC .none) ρ)) (cOr (fun ρ => bOf (fBin dIsN (fVar 5) (fC .none) ρ)) (fun ρ => bOf (fBin dLe (fBin dAdd (fBin dIx (fVar 2) (fVar 6)) (fC (.int 1))) (fVar 5) ρ))))) (sAsg 5 .F (fBin dAdd (fBin dIx (fVar 2) (fVar 6)) (fC (.int 1))) []) sNil) (sApp 3 .o (fVarF 5) [])))) := Classical.choose_spec x_L1_fewer
def c_fewer : En → Option Out := (sSeq (sAsg 3 .o (fLst aNil) []) (sSeq L1_fewer (sFz 3 (sRet (fVarF 3) []))))
theorem x_fewer : ∃ g : List D → Option D, g = runD 7 c_fewer := ⟨_, rfl⟩
noncomputable def f_fewer : List D → Option D := Classical.choose x_fewer
theorem e_fewer : f_fewer = runD 7 c_fewer := Classical.choose_spec x_fewer
theorem sc_fewer : FnScope ["rule", "word", "behind", "found", "room", "few", "there"] ["rule", "word", "behind"] (defScope s_fewer) := ⟨rfl, rfl, rfl, by decide +kernel, rfl, by decide +kernel, by decide +kernel⟩
theorem ok_fewer (h_next_room : HasF P w K mg base 1 "next_room" 3 .F f_next_room) (z_len : mg "len" = none) (z_range : mg "range" = none) {a : Addr} {fd : FuncData} (F : Fun K "fewer" "fewer" s_fewer a fd) (m : mg "fewer" = some (.ref a)) : HasF P w K mg base 2 "fewer" 3 .F f_fewer := by
  rw [e_fewer]
  refine HasF.mk' m F.kp (F.binds (ps := ["rule", "word", "behind"]) fun _ _ _ _ _ _ us hl => match us, hl with | [_, _, _], _ => rfl) (fn_d F sc_fewer (.inr rfl) fun cdv A outer s H E hr => ?_)
  have hu1 := hu_1 hr
  have hu64 := hu_64 hr
  have hu65 := hu_65 hr
  exact ssj_cons (sj_asg (sc_fewer.nd) (by rfl) (by first | exact Or.inl rfl | exact Or.inr rfl) (EJ.em (ej_lst1 (aj_nil)))) (ssj_cons (SJ.of e_L1_fewer (sj_for PassesOwn.never (by rfl) (ij_range1 (by rfl) z_range ((EJ.br (ej_len (by rfl) z_len (aj_cons ((ej_ix hu64 ((ej_var 0 (pv 0))) ((EJ.br ej_int)) (fun _ _ => (by rfl)))) (aj_nil)))))) (gj_name (sc_fewer.nd) (by rfl) (by first | exact Or.inl rfl | exact Or.inr rfl)) (ssj_cons (sj_asg (sc_fewer.nd) (by rfl) (by first | exact Or.inl rfl | exact Or.inr rfl) (EJ.em (ej_ixF hu64 ((ej_varC 2 (pv 2))) ((ej_var 4 (pv 4))) (fun _ _ => (by rfl))))) (ssj_cons (sj_asg (sc_fewer.nd) (by rfl) (by first | exact Or.inl rfl | exact Or.inr rfl) (EJ.em (ej_callH h_next_room hr (by decide) (by rfl) (aj_cons ((ej_varF 0 (pv 0))) ((aj_cons ((ej_varF 4 (pv 4))) ((aj_cons ((ej_varF 1 (pv 1))) (aj_nil))))))))) (ssj_cons (sj_if (CJW.cj (cw_and (cj_notN ((ej_var 6 (pv 6))) ((EJ.br ej_non))) (cw_and (cj_notN ((ej_ix hu64 ((ej_var 2 (pv 2))) ((ej_var 6 (pv 6))) (fun _ _ => (by rfl)))) ((EJ.br ej_non))) (cw_and1 (CJW.cj (cw_or (cj_isN ((ej_var 5 (pv 5))) ((EJ.br ej_non))) (cw_or1 (cj_le ((EJ.br (ej_add ((ej_ix hu64 ((ej_var 2 (pv 2))) ((ej_var 6 (pv 6))) (fun _ _ => (by rfl)))) ((EJ.br ej_int))))) ((ej_var 5 (pv 5))))))))))) (ssj_one (sj_asg (sc_fewer.nd) (by rfl) (by first | exact Or.inl rfl | exact Or.inr rfl) (EJ.em (EJ.frz (ej_add ((ej_ix hu64 ((ej_var 2 (pv 2))) ((ej_var 6 (pv 6))) (fun _ _ => (by rfl)))) ((EJ.br ej_int))))))) (ssj_nil)) (ssj_one (sj_append (pv 3) (EJ.em (ej_varF 5 (pv 5))) (.inl (by rfl))))))))) (ssj_one (sj_fz 3 (sj_ret (EJ.em (ej_varF 3 (pv 3)))))))
abbrev s_steps_left : Stmt := top 5
theorem x_Q1_steps_left : ∃ g : En → Option D, g = fLc 8 [6] (fRange1 (fApp dLen (aCons (fBin dIx (fVar 0) (fC (.int 2))) aNil))) (bName 6) cTrue (fApp dInt (aCons (fBin dIsN (fCall 3 f_next_room (aCons (fVarF 0) (aCons (fVarF 6) (aCons (fBin dIx (fVarC 1) (fVar 2)) aNil)))) (fC .none)) aNil)) := ⟨_, rfl⟩
def Q1_steps_left : En → Option D := Classical.choose x_Q1_steps_left
theorem e_Q1_steps_left : Q1_steps_left = fLc 8 [6] (fRange1 (fApp dLen (aCons (fBin dIx (fVar 0) (fC (.int 2))) aNil))) (bName 6) cTrue (fApp dInt (aCons (fBin dIsN (fCall 3 f_next_room (aCons (fVarF 0) (aCons (fVarF 6) (aCons (fBin dIx (fVarC 1) (fVar 2)) aNil)))) (fC .none)) aNil)) := Classical.choose_spec x_Q1_steps_left
theorem x_Q2_steps_left : ∃ g : En → Option D, g = fLc 8 [7] (fItems (fVarF 3)) (bName 7) cTrue (fIf (fun ρ => bOf (fBin dEq (fVar 7) (fC (.int 1)) ρ)) (fVarF 7) (fC .none)) := ⟨_, rfl⟩
def Q2_steps_left : En → Option D := Classical.choose x_Q2_steps_left
theorem e_Q2_steps_left : Q2_steps_left = fLc 8 [7] (fItems (fVarF 3)) (bName 7) cTrue (fIf (fun ρ => bOf (fBin dEq (fVar 7) (fC (.int 1)) ρ)) (fVarF 7) (fC .none)) := Classical.choose_spec x_Q2_steps_left
theorem x_L3_steps_left : ∃ g : En → Option Out, g = sFor (fRange3 (fBin dSub (fVar 2) (fC (.int 1))) (fUn dNeg (fC (.int 1))) (fUn dNeg (fC (.int 1)))) (bName 5) (sApp 4 .o (fCall 3 f_fewer (aCons (fVarF 0) (aCons (fBin dIx (fVarC 1) (fVar 5)) (aCons (fBin dIx (fVarC 4) (fUn dNeg (fC (.int 1)))) aNil)))) []) := ⟨_, rfl⟩
def L3_steps_left : En → Option Out := Classical.choose x_L3_steps_left
theorem e_L3_steps_left : L3_steps_left = sFor (fRange3 (fBin dSub (fVar 2) (fC (.int 1))) (fUn dNeg (fC (.int 1))) (fUn dNeg (fC (.int 1)))) (bName 5) (sApp 4 .o (fCall 3 f_fewer (aCons (fVarF 0) (aCons (fBin dIx (fVarC 1) (fVar 5)) (aCons (fBin dIx (fVarC 4) (fUn dNeg (fC (.int 1)))) aNil)))) []) := Classical.choose_spec x_L3_steps_left
def c_steps_left : En → Option Out := (sSeq (sAsg 2 .F (fBin dSub (fApp dLen (aCons (fVar 1) aNil)) (fC (.int 1))) []) (sSeq (sAsg 3 .F Q1_steps_left []) (sSeq (sAsg 4 .o (fLst (aCons Q2_steps_left aNil)) []) (sSeq L3_steps_left (sRet (fRev (fVarC 4)) [])))))
theorem x_steps_left : ∃ g : List D → Option D, g = runD 8 c_steps_left := ⟨_, rfl⟩
noncomputable def f_steps_left : List D → Option D := Classical.choose x_steps_left
theorem e_steps_left : f_steps_left = runD 8 c_steps_left := Classical.choose_spec x_steps_left
theorem sc_steps_left : FnScope ["rule", "row", "last", "left", "table", "at", "room", "few"] ["rule", "row"] (defScope s_steps_left) := ⟨rfl, rfl, rfl, by decide +kernel, rfl, by decide +kernel, by decide +kernel⟩
theorem ok_steps_left (h_fewer : HasF P w K mg base 2 "fewer" 3 .F f_fewer) (h_next_room : HasF P w K mg base 1 "next_room" 3 .F f_next_room) (z_int : mg "int" = none) (z_len : mg "len" = none) (z_range : mg "range" = none) {a : Addr} {fd : FuncData} (F : Fun K "steps_left" "steps_left" s_steps_left a fd) (m : mg "steps_left" = some (.ref a)) : HasF P w K mg base 3 "steps_left" 2 .F f_steps_left := by
  rw [e_steps_left]
  refine HasF.mk' m F.kp (F.binds (ps := ["rule", "row"]) fun _ _ _ _ _ _ us hl => match us, hl with | [_, _], _ => rfl) (fn_d F sc_steps_left (.inr rfl) fun cdv A outer s H E hr => ?_)
  have hu1 := hu_1 hr
  have hu64 := hu_64 hr
  have hu65 := hu_65 hr
  exact ssj_cons (sj_asg (sc_steps_left.nd) (by rfl) (by first | exact Or.inl rfl | exact Or.inr rfl) (EJ.em (EJ.frz (ej_sub ((EJ.br (ej_len (by rfl) z_len (aj_cons ((ej_var 1 (pv 1))) (aj_nil))))) ((EJ.br ej_int)))))) (ssj_cons (SJ.asgOf e_Q1_steps_left (by first | exact (sj_asgLcF (own := [("room", 6)]) .F [0, 1, 2, 3, 4, 5, 7] [] 8 (by rfl) (sc_steps_left.nd) (by rfl) (by rfl) (by rfl) ((ij_range1 (by rfl) z_range ((EJ.br (ej_len (by rfl) z_len (aj_cons ((ej_ix hu64 ((ej_var 0 (pv 0))) ((EJ.br ej_int)) (fun _ _ => (by rfl)))) (aj_nil))))))) (blkOk_by (by rfl)) (fun _ _ _ _ _ => (gj_name (sc_steps_left.nd) (by rfl) (by first | exact Or.inl rfl | exact Or.inr rfl))) (fun _ _ _ _ _ => cs_nil) (fun _ _ _ _ _ => (EJ.frz (ej_int1 (by rfl) z_int (aj_cons ((EJ.br (ej_isN ((EJ.br (ej_callH h_next_room hr (by decide) (by rfl) (aj_cons ((ej_varF 0 (pv 0))) ((aj_cons ((ej_varF 6 (pv 6))) ((aj_cons ((ej_ixF hu64 ((ej_varC 1 (pv 1))) ((ej_var 2 (pv 2))) (fun _ _ => (by rfl)))) (aj_nil))))))))) ((EJ.br ej_non))))) (aj_nil))))) (.inr (by rfl)) (by decide)) | exact (sj_asg (sc_steps_left.nd) (by rfl) (by first | exact Or.inl rfl | exact Or.inr rfl) (EJ.em (EJ.frz (ej_lc (own := [("room", 6)]) .F [0, 1, 2, 3, 4, 5, 7] 8 (by rfl) (sc_steps_left.nd) ((ij_range1 (by rfl) z_range ((EJ.br (ej_len (by rfl) z_len (aj_cons ((ej_ix hu64 ((ej_var 0 (pv 0))) ((EJ.br ej_int)) (fun _ _ => (by rfl)))) (aj_nil))))))) (blkOk_by (by rfl)) (fun _ _ _ _ _ => (gj_name (sc_steps_left.nd) (by rfl) (by first | exact Or.inl rfl | exact Or.inr rfl))) (fun _ _ _ _ _ => cs_nil) (fun _ _ _ _ _ => (EJ.frz (ej_int1 (by rfl) z_int (aj_cons ((EJ.br (ej_isN ((EJ.br (ej_callH h_next_room hr (by decide) (by rfl) (aj_cons ((ej_varF 0 (pv 0))) ((aj_cons ((ej_varF 6 (pv 6))) ((aj_cons ((ej_ixF hu64 ((ej_varC 1 (pv 1))) ((ej_var 2 (pv 2))) (fun _ _ => (by rfl)))) (aj_nil))))))))) ((EJ.br ej_non))))) (aj_nil))))) (.inr (by rfl)) (by decide))))))) (ssj_cons (sj_asg (sc_steps_left.nd) (by rfl) (by first | exact Or.inl rfl | exact Or.inr rfl) (EJ.em (ej_lst1 ((aj_cons ((EJ.frz (EJ.of e_Q2_steps_left (ej_lc (own := [("few", 7)]) .F [0, 1, 2, 3, 4, 5, 6] 8 (by rfl) (sc_steps_left.nd) ((ij_list ((ej_varF 3 (pv 3))))) (blkOk_by (by rfl)) (fun _ _ _ _ _ => (gj_name (sc_steps_left.nd) (by rfl) (by first | exact Or.inl rfl | exact Or.inr rfl))) (fun _ _ _ _ _ => cs_nil) (fun _ _ _ _ _ => (ej_if (cj_eq hu64 ((ej_var 7 (pv 7))) ((EJ.br ej_int))) ((ej_varF 7 (pv 7))) ((EJ.frz ej_non)))) (.inr (by rfl)) (by decide))))) (aj_nil)))))) (ssj_cons (SJ.of e_L3_steps_left (sj_for PassesOwn.never (by rfl) (ij_range3 (by rfl) z_range ((EJ.br (ej_sub ((ej_var 2 (pv 2))) ((EJ.br ej_int))))) ((EJ.br (ej_neg ((EJ.br ej_int))))) ((EJ.br (ej_neg ((EJ.br ej_int)))))) (gj_name (sc_steps_left.nd) (by rfl) (by first | exact Or.inl rfl | exact Or.inr rfl)) (ssj_one (sj_append (pv 4) (EJ.em (ej_callH h_fewer hr (by decide) (by rfl) (aj_cons ((ej_varF 0 (pv 0))) ((aj_cons ((ej_ixF hu64 ((ej_varC 1 (pv 1))) ((ej_var 5 (pv 5))) (fun _ _ => (by rfl)))) ((aj_cons ((ej_ixF hu64 ((ej_varC 4 (pv 4))) ((EJ.br (ej_neg ((EJ.br ej_int))))) (fun _ _ => (by rfl)))) (aj_nil)))))))) (.inl (by rfl)))))) (ssj_one (sj_ret (EJ.em (EJ.frz (ej_rev ((ej_varC 4 (pv 4)))))))))))
abbrev s_room_after : Stmt := top 2
theorem x_L1_room_after : ∃ g : En → Option Out, g = sFor (fItems (fVarF 1)) (bName 3) (sSeq (sAsg 2 .F (fCall 3 f_next_room (aCons (fVarF 0) (aCons (fVarF 2) (aCons (fVarF 3) aNil)))) []) (sIf (fun ρ => bOf (fBin dIsN (fVar 2) (fC .none) ρ)) (sRet (fC .none) []) sNil)) := ⟨_, rfl⟩
def L1_room_after : En → Option Out := Classical.choose x_L1_room_after
theorem e_L1_room_after : L1_room_after = sFor (fItems (fVarF 1)) (bName 3) (sSeq (sAsg 2 .F (fCall 3 f_next_room (aCons (fVarF 0) (aCons (fVarF 2) (aCons (fVarF 3) aNil)))) []) (sIf (fun ρ => bOf (fBin dIsN (fVar 2) (fC .none) ρ)) (sRet (fC .none) []) sNil)) := Classical.choose_spec x_L1_room_after
def c_room_after : En → Option Out := (sSeq (sAsg 2 .F (fC (.int 0)) []) (sSeq L1_room_after (sRet (fVarF 2) [])))
theorem x_room_after : ∃ g : List D → Option D, g = runD 4 c_room_after := ⟨_, rfl⟩
noncomputable def f_room_after : List D → Option D := Classical.choose x_room_after
theorem e_room_after : f_room_after = runD 4 c_room_after := Classical.choose_spec x_room_after
theorem sc_room_after : FnScope ["rule", "row", "room", "word"] ["rule", "row"] (defScope s_room_after) := ⟨rfl, rfl, rfl, by decide +kernel, rfl, by decide +kernel, by decide +kernel⟩
theorem ok_room_after (h_next_room : HasF P w K mg base 1 "next_room" 3 .F f_next_room) {a : Addr} {fd : FuncData} (F : Fun K "room_after" "room_after" s_room_after a fd) (m : mg "room_after" = some (.ref a)) : HasF P w K mg base 2 "room_after" 2 .F f_room_after := by
  rw [e_room_after]
  refine HasF.mk' m F.kp (F.binds (ps := ["rule", "row"]) fun _ _ _ _ _ _ us hl => match us, hl with | [_, _], _ => rfl) (fn_d F sc_room_after (.inr rfl) fun cdv A outer s H E hr => ?_)
  have hu1 := hu_1 hr
  have hu64 := hu_64 hr
  have hu65 := hu_65 hr
  exact ssj_cons (sj_asg (sc_room_after.nd) (by rfl) (by first | exact Or.inl rfl | exact Or.inr rfl) (EJ.em (EJ.frz ej_int))) (ssj_cons (SJ.of e_L1_room_after (sj_for PassesOwn.never (by rfl) (ij_list ((ej_varF 1 (pv 1)))) (gj_name (sc_room_after.nd) (by rfl) (by first | exact Or.inl rfl | exact Or.inr rfl)) (ssj_cons (sj_asg (sc_room_after.nd) (by rfl) (by first | exact Or.inl rfl | exact Or.inr rfl) (EJ.em (ej_callH h_next_room hr (by decide) (by rfl) (aj_cons ((ej_varF 0 (pv 0))) ((aj_cons ((ej_varF 2 (pv 2))) ((aj_cons ((ej_varF 3 (pv 3))) (aj_nil))))))))) (ssj_one (sj_if (cj_isN ((ej_var 2 (pv 2))) ((EJ.br ej_non))) (ssj_one (sj_ret (EJ.em (EJ.frz ej_non)))) (ssj_nil)))))) (ssj_one (sj_ret (EJ.em (ej_varF 2 (pv 2))))))
abbrev s_breaks_now : Stmt := top 4
def c_breaks_now : En → Option Out := (sRet (fB (cAnd (fun ρ => bOf ((fBin dNe (fVar 1) (fLst aNil)) ρ)) (cAnd (fun ρ => bOf ((fBin dNotN (fCall 2 f_room_after (aCons (fVarF 0) (aCons (fSl dSlL (fVarC 1) oN (oS (fUn dNeg (fC (.int 1))))) aNil))) (fC .none)) ρ)) (fun ρ => bOf ((fBin dIsN (fCall 2 f_room_after (aCons (fVarF 0) (aCons (fVarF 1) aNil))) (fC .none)) ρ))))) [])
theorem x_breaks_now : ∃ g : List D → Option D, g = runD 2 c_breaks_now := ⟨_, rfl⟩
noncomputable def f_breaks_now : List D → Option D := Classical.choose x_breaks_now
theorem e_breaks_now : f_breaks_now = runD 2 c_breaks_now := Classical.choose_spec x_breaks_now
theorem sc_breaks_now : FnScope ["rule", "row"] ["rule", "row"] (defScope s_breaks_now) := ⟨rfl, rfl, rfl, by decide +kernel, rfl, by decide +kernel, by decide +kernel⟩
theorem ok_breaks_now (h_room_after : HasF P w K mg base 2 "room_after" 2 .F f_room_after) {a : Addr} {fd : FuncData} (F : Fun K "breaks_now" "breaks_now" s_breaks_now a fd) (m : mg "breaks_now" = some (.ref a)) : HasF P w K mg base 3 "breaks_now" 2 .F f_breaks_now := by
  rw [e_breaks_now]
  refine HasF.mk' m F.kp (F.binds (ps := ["rule", "row"]) fun _ _ _ _ _ _ us hl => match us, hl with | [_, _], _ => rfl) (fn_d F sc_breaks_now (.inr rfl) fun cdv A outer s H E hr => ?_)
  have hu1 := hu_1 hr
  have hu64 := hu_64 hr
  have hu65 := hu_65 hr
  exact ssj_one (sj_ret (EJ.em (EJ.frz (ej_andV ((EJ.br (ej_ne hu64 ((ej_var 1 (pv 1))) ((ej_lstB (aj_nil)))))) (ej_andV ((EJ.br (ej_notN ((EJ.br (ej_callH h_room_after hr (by decide) (by rfl) (aj_cons ((ej_varF 0 (pv 0))) ((aj_cons ((EJ.frz (ej_slL ((ej_varC 1 (pv 1))) oj_none (oj_some ((EJ.br (ej_neg ((EJ.br ej_int))))))))) (aj_nil))))))) ((EJ.br ej_non))))) (ej_oneV ((ej_isN ((EJ.br (ej_callH h_room_after hr (by decide) (by rfl) (aj_cons ((ej_varF 0 (pv 0))) ((aj_cons ((ej_varF 1 (pv 1))) (aj_nil))))))) ((EJ.br ej_non))))))))))
abbrev s_shortest_breach : Stmt := top 7
theorem x_L1_shortest_breach : ∃ g : En → Option Out, g = sWhile (fun ρ => bOf (fBin dLt (fVar 6) (fVar 3) ρ)) (sSeq (sAsg 7 .F (fCall 3 f_next_room (aCons (fVarF 0) (aCons (fVarF 4) (aCons (fBin dIx (fVarC 1) (fVar 6)) aNil)))) []) (sSeq (sIf (cAnd (fun ρ => bOf (fBin dNotN (fVar 7) (fC .none) ρ)) (cAnd (fun ρ => bOf (fBin dNotN (fBin dIx (fBin dIx (fVar 2) (fBin dAdd (fVar 6) (fC (.int 1)))) (fVar 7)) (fC .none) ρ)) (fun ρ => bOf (fBin dEq (fBin dAdd (fBin dIx (fBin dIx (fVar 2) (fBin dAdd (fVar 6) (fC (.int 1)))) (fVar 7)) (fC (.int 1))) (fBin dIx (fBin dIx (fVar 2) (fVar 6)) (fVar 4)) ρ)))) (sSeq (sApp 5 .o (fVarF 6) []) (sAsg 4 .F (fVarF 7) [])) sNil) (sAsg 6 .F (fBin dAdd (fVar 6) (fC (.int 1))) []))) := ⟨_, rfl⟩
def L1_shortest_breach : En → Option Out := Classical.choose x_L1_shortest_breach
theorem e_L1_shortest_breach : L1_shortest_breach = sWhile (fun ρ => bOf (fBin dLt (fVar 6) (fVar 3) ρ)) (sSeq (sAsg 7 .F (fCall 3 f_next_room (aCons (fVarF 0) (aCons (fVarF 4) (aCons (fBin dIx (fVarC 1) (fVar 6)) aNil)))) []) (sSeq (sIf (cAnd (fun ρ => bOf (fBin dNotN (fVar 7) (fC .none) ρ)) (cAnd (fun ρ => bOf (fBin dNotN (fBin dIx (fBin dIx (fVar 2) (fBin dAdd (fVar 6) (fC (.int 1)))) (fVar 7)) (fC .none) ρ)) (fun ρ => bOf (fBin dEq (fBin dAdd (fBin dIx (fBin dIx (fVar 2) (fBin dAdd (fVar 6) (fC (.int 1)))) (fVar 7)) (fC (.int 1))) (fBin dIx (fBin dIx (fVar 2) (fVar 6)) (fVar 4)) ρ)))) (sSeq (sApp 5 .o (fVarF 6) []) (sAsg 4 .F (fVarF 7) [])) sNil) (sAsg 6 .F (fBin dAdd (fVar 6) (fC (.int 1))) []))) := Classical.choose_spec x_L1_shortest_breach
def c_shortest_breach : En → Option Out := (sSeq (sIf (cNot (fun ρ => bOf ((fCall 2 f_breaks_now (aCons (fVarF 0) (aCons (fVarF 1) aNil))) ρ))) (sRet (fC .none) []) sNil) (sSeq (sAsg 2 .F (fCall 2 f_steps_left (aCons (fVarF 0) (aCons (fVarF 1) aNil))) []) (sSeq (sAsg 3 .F (fBin dSub (fApp dLen (aCons (fVar 1) aNil)) (fC (.int 1))) []) (sSeq (sAsg 4 .F (fC (.int 0)) []) (sSeq (sAsg 5 .o (fLst aNil) []) (sSeq (sAsg 6 .F (fC (.int 0)) []) (sSeq L1_shortest_breach (sRet (fBin dCat (fVarC 5) (fLst (aCons (fVarF 3) aNil))) []))))))))
theorem x_shortest_breach : ∃ g : List D → Option D, g = runD 8 c_shortest_breach := ⟨_, rfl⟩
noncomputable def f_shortest_breach : List D → Option D := Classical.choose x_shortest_breach
theorem e_shortest_breach : f_shortest_breach = runD 8 c_shortest_breach := Classical.choose_spec x_shortest_breach
theorem sc_shortest_breach : FnScope ["rule", "row", "table", "last", "room", "places", "at", "there"] ["rule", "row"] (defScope s_shortest_breach) := ⟨rfl, rfl, rfl, by decide +kernel, rfl, by decide +kernel, by decide +kernel⟩
theorem ok_shortest_breach (h_breaks_now : HasF P w K mg base 3 "breaks_now" 2 .F f_breaks_now) (h_next_room : HasF P w K mg base 1 "next_room" 3 .F f_next_room) (h_steps_left : HasF P w K mg base 3 "steps_left" 2 .F f_steps_left) (z_len : mg "len" = none) {a : Addr} {fd : FuncData} (F : Fun K "shortest_breach" "shortest_breach" s_shortest_breach a fd) (m : mg "shortest_breach" = some (.ref a)) : HasF P w K mg base 4 "shortest_breach" 2 .F f_shortest_breach := by
  rw [e_shortest_breach]
  refine HasF.mk' m F.kp (F.binds (ps := ["rule", "row"]) fun _ _ _ _ _ _ us hl => match us, hl with | [_, _], _ => rfl) (fn_d F sc_shortest_breach (.inr rfl) fun cdv A outer s H E hr => ?_)
  have hu1 := hu_1 hr
  have hu64 := hu_64 hr
  have hu65 := hu_65 hr
  exact ssj_cons (sj_if (cj_not (cj_val ((EJ.br (ej_callH h_breaks_now hr (by decide) (by rfl) (aj_cons ((ej_varF 0 (pv 0))) ((aj_cons ((ej_varF 1 (pv 1))) (aj_nil))))))))) (ssj_one (sj_ret (EJ.em (EJ.frz ej_non)))) (ssj_nil)) (ssj_cons (sj_asg (sc_shortest_breach.nd) (by rfl) (by first | exact Or.inl rfl | exact Or.inr rfl) (EJ.em (ej_callH h_steps_left hr (by decide) (by rfl) (aj_cons ((ej_varF 0 (pv 0))) ((aj_cons ((ej_varF 1 (pv 1))) (aj_nil))))))) (ssj_cons (sj_asg (sc_shortest_breach.nd) (by rfl) (by first | exact Or.inl rfl | exact Or.inr rfl) (EJ.em (EJ.frz (ej_sub ((EJ.br (ej_len (by rfl) z_len (aj_cons ((ej_var 1 (pv 1))) (aj_nil))))) ((EJ.br ej_int)))))) (ssj_cons (sj_asg (sc_shortest_breach.nd) (by rfl) (by first | exact Or.inl rfl | exact Or.inr rfl) (EJ.em (EJ.frz ej_int))) (ssj_cons (sj_asg (sc_shortest_breach.nd) (by rfl) (by first | exact Or.inl rfl | exact Or.inr rfl) (EJ.em (ej_lst1 (aj_nil)))) (ssj_cons (sj_asg (sc_shortest_breach.nd) (by rfl) (by first | exact Or.inl rfl | exact Or.inr rfl) (EJ.em (EJ.frz ej_int))) (ssj_cons (SJ.of e_L1_shortest_breach (sj_while PassesOwn.never (cj_lt ((ej_var 6 (pv 6))) ((ej_var 3 (pv 3)))) (ssj_cons (sj_asg (sc_shortest_breach.nd) (by rfl) (by first | exact Or.inl rfl | exact Or.inr rfl) (EJ.em (ej_callH h_next_room hr (by decide) (by rfl) (aj_cons ((ej_varF 0 (pv 0))) ((aj_cons ((ej_varF 4 (pv 4))) ((aj_cons ((ej_ixF hu64 ((ej_varC 1 (pv 1))) ((ej_var 6 (pv 6))) (fun _ _ => (by rfl)))) (aj_nil))))))))) (ssj_cons (sj_if (CJW.cj (cw_and (cj_notN ((ej_var 7 (pv 7))) ((EJ.br ej_non))) (cw_and (cj_notN ((ej_ix hu64 ((ej_ix hu64 ((ej_var 2 (pv 2))) ((EJ.br (ej_add ((ej_var 6 (pv 6))) ((EJ.br ej_int))))) (fun _ _ => (by rfl)))) ((ej_var 7 (pv 7))) (fun _ _ => (by rfl)))) ((EJ.br ej_non))) (cw_and1 (cj_eq hu64 ((EJ.br (ej_add ((ej_ix hu64 ((ej_ix hu64 ((ej_var 2 (pv 2))) ((EJ.br (ej_add ((ej_var 6 (pv 6))) ((EJ.br ej_int))))) (fun _ _ => (by rfl)))) ((ej_var 7 (pv 7))) (fun _ _ => (by rfl)))) ((EJ.br ej_int))))) ((ej_ix hu64 ((ej_ix hu64 ((ej_var 2 (pv 2))) ((ej_var 6 (pv 6))) (fun _ _ => (by rfl)))) ((ej_var 4 (pv 4))) (fun _ _ => (by rfl))))))))) (ssj_cons (sj_append (pv 5) (EJ.em (ej_varF 6 (pv 6))) (.inl (by rfl))) (ssj_one (sj_asg (sc_shortest_breach.nd) (by rfl) (by first | exact Or.inl rfl | exact Or.inr rfl) (EJ.em (ej_varF 7 (pv 7)))))) (ssj_nil)) (ssj_one (sj_asg (sc_shortest_breach.nd) (by rfl) (by first | exact Or.inl rfl | exact Or.inr rfl) (EJ.em (EJ.frz (ej_add ((ej_var 6 (pv 6))) ((EJ.br ej_int))))))))))) (ssj_one (sj_ret (EJ.em (EJ.frz (ej_cat ((ej_varC 5 (pv 5))) ((EJ.cc (EJ.frz (ej_lst1 ((aj_cons ((ej_varF 3 (pv 3))) (aj_nil))))))))))))))))))
abbrev s__law_cell_at : Stmt := top 9
def c__law_cell_at : En → Option Out := (sSeq (sIf (fun ρ => bOf (fBin dLt (fVar 1) (fApp dLen (aCons (fVar 0) aNil)) ρ)) (sRet (fBin dIx (fVarC 0) (fVar 1)) []) sNil) (sRet (fC (.int 0)) []))
theorem x__law_cell_at : ∃ g : List D → Option D, g = runD 2 c__law_cell_at := ⟨_, rfl⟩
noncomputable def f__law_cell_at : List D → Option D := Classical.choose x__law_cell_at
theorem e__law_cell_at : f__law_cell_at = runD 2 c__law_cell_at := Classical.choose_spec x__law_cell_at
theorem sc__law_cell_at : FnScope ["_law_script", "_law_k"] ["_law_script", "_law_k"] (defScope s__law_cell_at) := ⟨rfl, rfl, rfl, by decide +kernel, rfl, by decide +kernel, by decide +kernel⟩
theorem ok__law_cell_at (z_len : mg "len" = none) {a : Addr} {fd : FuncData} (F : Fun K "_law_cell_at" "_law_cell_at" s__law_cell_at a fd) (m : mg "_law_cell_at" = some (.ref a)) : HasF P w K mg base 1 "_law_cell_at" 2 .F f__law_cell_at := by
  rw [e__law_cell_at]
  refine HasF.mk' m F.kp (F.binds (ps := ["_law_script", "_law_k"]) fun _ _ _ _ _ _ us hl => match us, hl with | [_, _], _ => rfl) (fn_d F sc__law_cell_at (.inr rfl) fun cdv A outer s H E hr => ?_)
  have hu1 := hu_1 hr
  have hu64 := hu_64 hr
  have hu65 := hu_65 hr
  exact ssj_cons (sj_if (cj_lt ((ej_var 1 (pv 1))) ((EJ.br (ej_len (by rfl) z_len (aj_cons ((ej_var 0 (pv 0))) (aj_nil)))))) (ssj_one (sj_ret (EJ.em (ej_ixF hu64 ((ej_varC 0 (pv 0))) ((ej_var 1 (pv 1))) (fun _ _ => (by rfl)))))) (ssj_nil)) (ssj_one (sj_ret (EJ.em (EJ.frz ej_int))))
abbrev s__law_less : Stmt := top 16
def c__law_less : En → Option Out := (sSeq (sIf (fun ρ => bOf (fBin dNe (fApp dLen (aCons (fVar 0) aNil)) (fApp dLen (aCons (fVar 1) aNil)) ρ)) (sRet (fBin dLt (fApp dLen (aCons (fVar 0) aNil)) (fApp dLen (aCons (fVar 1) aNil))) []) sNil) (sRet (fBin dLtL (fVar 0) (fVar 1)) []))
theorem x__law_less : ∃ g : List D → Option D, g = runD 2 c__law_less := ⟨_, rfl⟩
noncomputable def f__law_less : List D → Option D := Classical.choose x__law_less
theorem e__law_less : f__law_less = runD 2 c__law_less := Classical.choose_spec x__law_less
theorem sc__law_less : FnScope ["_law_one", "_law_other"] ["_law_one", "_law_other"] (defScope s__law_less) := ⟨rfl, rfl, rfl, by decide +kernel, rfl, by decide +kernel, by decide +kernel⟩
theorem ok__law_less (z_len : mg "len" = none) {a : Addr} {fd : FuncData} (F : Fun K "_law_less" "_law_less" s__law_less a fd) (m : mg "_law_less" = some (.ref a)) : HasF P w K mg base 1 "_law_less" 2 .F f__law_less := by
  rw [e__law_less]
  refine HasF.mk' m F.kp (F.binds (ps := ["_law_one", "_law_other"]) fun _ _ _ _ _ _ us hl => match us, hl with | [_, _], _ => rfl) (fn_d F sc__law_less (.inr rfl) fun cdv A outer s H E hr => ?_)
  have hu1 := hu_1 hr
  have hu64 := hu_64 hr
  have hu65 := hu_65 hr
  exact ssj_cons (sj_if (cj_ne hu64 ((EJ.br (ej_len (by rfl) z_len (aj_cons ((ej_var 0 (pv 0))) (aj_nil))))) ((EJ.br (ej_len (by rfl) z_len (aj_cons ((ej_var 1 (pv 1))) (aj_nil)))))) (ssj_one (sj_ret (EJ.em (EJ.frz (ej_lt ((EJ.br (ej_len (by rfl) z_len (aj_cons ((ej_var 0 (pv 0))) (aj_nil))))) ((EJ.br (ej_len (by rfl) z_len (aj_cons ((ej_var 1 (pv 1))) (aj_nil)))))))))) (ssj_nil)) (ssj_one (sj_ret (EJ.em (EJ.frz (ej_ltL hu65 ((ej_var 0 (pv 0))) ((ej_var 1 (pv 1))) (nomark _))))))
abbrev s__law_put : Stmt := top 17
def c__law_put : En → Option Out := (sIf (cOr (fun ρ => bOf (fBin dNotIn (fVar 1) (fVar 0) ρ)) (fun ρ => bOf ((fCall 2 f__law_less (aCons (fVarF 2) (aCons (fBin dIx (fVarC 0) (fVar 1)) aNil))) ρ))) (sSet 0 (fVarF 2) [] (fVar 1)) sNil)
theorem x__law_put : ∃ g : D → List D → Option (D × D), g = runU 3 .o c__law_put := ⟨_, rfl⟩
noncomputable def f__law_put : D → List D → Option (D × D) := Classical.choose x__law_put
theorem e__law_put : f__law_put = runU 3 .o c__law_put := Classical.choose_spec x__law_put
theorem sc__law_put : FnScope ["_law_known", "_law_room", "_law_places"] ["_law_known", "_law_room", "_law_places"] (defScope s__law_put) := ⟨rfl, rfl, rfl, by decide +kernel, rfl, by decide +kernel, by decide +kernel⟩
theorem ok__law_put (h__law_less : HasF P w K mg base 1 "_law_less" 2 .F f__law_less) {a : Addr} {fd : FuncData} (F : Fun K "_law_put" "_law_put" s__law_put a fd) (m : mg "_law_put" = some (.ref a)) : HasU P w K mg base 2 "_law_put" 3 .o .F f__law_put := by
  rw [e__law_put]
  refine HasU.mk' m F.kp (F.binds (ps := ["_law_known", "_law_room", "_law_places"]) fun _ _ _ _ _ _ us hl => match us, hl with | [_, _, _], _ => rfl) (fn_u F sc__law_put rfl (.inr rfl) fun cdv A outer s H E hr => ?_)
  have hu1 := hu_1 hr
  have hu64 := hu_64 hr
  have hu65 := hu_65 hr
  exact ssj_one (sj_if (CJW.cj (cw_or (cj_notIn hu65 ((ej_var 1 (pv 1))) ((ej_var 0 (pv 0))) (by rfl)) (cw_or1 (cj_val ((EJ.br (ej_callH h__law_less hr (by decide) (by rfl) (aj_cons ((ej_varF 2 (pv 2))) ((aj_cons ((ej_ixF hu64 ((ej_varC 0 (pv 0))) ((ej_var 1 (pv 1))) (fun _ _ => (by rfl)))) (aj_nil))))))))))) (ssj_one (sj_set hu64 (pv 0) (EJ.em (ej_varF 2 (pv 2))) ((ej_var 1 (pv 1))))) (ssj_nil))
abbrev s__law_least : Stmt := top 18
theorem x_L1__law_least : ∃ g : En → Option Out, g = sForItems 2 (bTup 2 (bCons (bName 6) (bCons (bName 7) bNil))) (sSeq (sAsg 8 .F (fCall 3 f__law_next (aCons (fVarF 0) (aCons (fVarF 6) (aCons (fBin dIx (fVarC 1) (fVar 3)) aNil)))) []) (sIf (fun ρ => bOf (fBin dNotN (fVar 8) (fC .none) ρ)) (sCallU 5 .o 3 f__law_put (aCons (fVarF 8) (aCons (fBin dCat (fVarC 7) (fLst (aCons (fVarF 3) aNil))) aNil))) sNil)) := ⟨_, rfl⟩
def L1__law_least : En → Option Out := Classical.choose x_L1__law_least
theorem e_L1__law_least : L1__law_least = sForItems 2 (bTup 2 (bCons (bName 6) (bCons (bName 7) bNil))) (sSeq (sAsg 8 .F (fCall 3 f__law_next (aCons (fVarF 0) (aCons (fVarF 6) (aCons (fBin dIx (fVarC 1) (fVar 3)) aNil)))) []) (sIf (fun ρ => bOf (fBin dNotN (fVar 8) (fC .none) ρ)) (sCallU 5 .o 3 f__law_put (aCons (fVarF 8) (aCons (fBin dCat (fVarC 7) (fLst (aCons (fVarF 3) aNil))) aNil))) sNil)) := Classical.choose_spec x_L1__law_least
theorem x_L2__law_least : ∃ g : En → Option Out, g = sFor (fRange1 (fBin dSub (fApp dLen (aCons (fVar 1) aNil)) (fC (.int 1)))) (bName 3) (sSeq (sAsg 5 .o (fApp dDict (aCons (fVarC 2) aNil)) []) (sSeq L1__law_least (sFz 5 (sAsg 2 .F (fVarF 5) [])))) := ⟨_, rfl⟩
def L2__law_least : En → Option Out := Classical.choose x_L2__law_least
theorem e_L2__law_least : L2__law_least = sFor (fRange1 (fBin dSub (fApp dLen (aCons (fVar 1) aNil)) (fC (.int 1)))) (bName 3) (sSeq (sAsg 5 .o (fApp dDict (aCons (fVarC 2) aNil)) []) (sSeq L1__law_least (sFz 5 (sAsg 2 .F (fVarF 5) [])))) := Classical.choose_spec x_L2__law_least
theorem x_L3__law_least : ∃ g : En → Option Out, g = sForItems 2 (bTup 2 (bCons (bName 6) (bCons (bName 7) bNil))) (sIf (cAnd (fun ρ => bOf (fBin dIsN (fCall 3 f__law_next (aCons (fVarF 0) (aCons (fVarF 6) (aCons (fBin dIx (fVarC 1) (fUn dNeg (fC (.int 1)))) aNil)))) (fC .none) ρ)) (cOr (fun ρ => bOf (fBin dIsN (fVar 4) (fC .none) ρ)) (fun ρ => bOf ((fCall 2 f__law_less (aCons (fVarF 7) (aCons (fVarF 4) aNil))) ρ)))) (sAsg 4 .F (fVarF 7) []) sNil) := ⟨_, rfl⟩
def L3__law_least : En → Option Out := Classical.choose x_L3__law_least
theorem e_L3__law_least : L3__law_least = sForItems 2 (bTup 2 (bCons (bName 6) (bCons (bName 7) bNil))) (sIf (cAnd (fun ρ => bOf (fBin dIsN (fCall 3 f__law_next (aCons (fVarF 0) (aCons (fVarF 6) (aCons (fBin dIx (fVarC 1) (fUn dNeg (fC (.int 1)))) aNil)))) (fC .none) ρ)) (cOr (fun ρ => bOf (fBin dIsN (fVar 4) (fC .none) ρ)) (fun ρ => bOf ((fCall 2 f__law_less (aCons (fVarF 7) (aCons (fVarF 4) aNil))) ρ)))) (sAsg 4 .F (fVarF 7) []) sNil) := Classical.choose_spec x_L3__law_least
def c__law_least : En → Option Out := (sSeq (sAsg 2 .F (fDisp (pCons (fC (.int 0)) (fLst aNil) pNil)) []) (sSeq L2__law_least (sSeq (sAsg 4 .F (fC .none) []) (sSeq L3__law_least (sRet (fBin dCat (fVarC 4) (fLst (aCons (fBin dSub (fApp dLen (aCons (fVar 1) aNil)) (fC (.int 1))) aNil))) [])))))
theorem x__law_least : ∃ g : List D → Option D, g = runD 9 c__law_least := ⟨_, rfl⟩
noncomputable def f__law_least : List D → Option D := Classical.choose x__law_least
theorem e__law_least : f__law_least = runD 9 c__law_least := Classical.choose_spec x__law_least
theorem sc__law_least : FnScope ["_law_rule_here", "_law_row", "_law_known", "_law_at", "_law_found", "_law_behind", "_law_room", "_law_places", "_law_there"] ["_law_rule_here", "_law_row"] (defScope s__law_least) := ⟨rfl, rfl, rfl, by decide +kernel, rfl, by decide +kernel, by decide +kernel⟩
theorem ok__law_least (h__law_less : HasF P w K mg base 1 "_law_less" 2 .F f__law_less) (h__law_next : HasF P w K mg base 1 "_law_next" 3 .F f__law_next) (h__law_put : HasU P w K mg base 2 "_law_put" 3 .o .F f__law_put) (z_dict : mg "dict" = none) (z_len : mg "len" = none) (z_range : mg "range" = none) {a : Addr} {fd : FuncData} (F : Fun K "_law_least" "_law_least" s__law_least a fd) (m : mg "_law_least" = some (.ref a)) : HasF P w K mg base 3 "_law_least" 2 .F f__law_least := by
  rw [e__law_least]
  refine HasF.mk' m F.kp (F.binds (ps := ["_law_rule_here", "_law_row"]) fun _ _ _ _ _ _ us hl => match us, hl with | [_, _], _ => rfl) (fn_d F sc__law_least (.inr rfl) fun cdv A outer s H E hr => ?_)
  have hu1 := hu_1 hr
  have hu64 := hu_64 hr
  have hu65 := hu_65 hr
  exact ssj_cons (sj_asg (sc__law_least.nd) (by rfl) (by first | exact Or.inl rfl | exact Or.inr rfl) (EJ.em (EJ.frz (ej_disp (dp_cons ((EJ.br ej_int)) ((EJ.frz (ej_lst1 (aj_nil)))) dp_nil))))) (ssj_cons (SJ.of e_L2__law_least (sj_for PassesOwn.never (by rfl) (ij_range1 (by rfl) z_range ((EJ.br (ej_sub ((EJ.br (ej_len (by rfl) z_len (aj_cons ((ej_var 1 (pv 1))) (aj_nil))))) ((EJ.br ej_int)))))) (gj_name (sc__law_least.nd) (by rfl) (by first | exact Or.inl rfl | exact Or.inr rfl)) (ssj_cons (sj_asg (sc__law_least.nd) (by rfl) (by first | exact Or.inl rfl | exact Or.inr rfl) (EJ.em (ej_dictOf (by rfl) z_dict ((ej_varC 2 (pv 2)))))) (ssj_cons (SJ.of e_L1__law_least (sj_forItems (.inr (by rfl)) PassesOwn.never (by rfl) (pv 2) (gj_tup (by rfl) (gs_cons (gj_name (sc__law_least.nd) (by rfl) (by first | exact Or.inl rfl | exact Or.inr rfl)) (gs_cons (gj_name (sc__law_least.nd) (by rfl) (by first | exact Or.inl rfl | exact Or.inr rfl)) gs_nil))) (ssj_cons (sj_asg (sc__law_least.nd) (by rfl) (by first | exact Or.inl rfl | exact Or.inr rfl) (EJ.em (ej_callH h__law_next hr (by decide) (by rfl) (aj_cons ((ej_varF 0 (pv 0))) ((aj_cons ((ej_varF 6 (pv 6))) ((aj_cons ((ej_ixF hu64 ((ej_varC 1 (pv 1))) ((ej_var 3 (pv 3))) (fun _ _ => (by rfl)))) (aj_nil))))))))) (ssj_one (sj_if (cj_notN ((ej_var 8 (pv 8))) ((EJ.br ej_non))) (ssj_one (sj_callUH h__law_put hr (by decide) (by rfl) (pv 5) (aj_cons ((ej_varF 8 (pv 8))) ((aj_cons ((EJ.frz (ej_cat ((ej_varC 7 (pv 7))) ((EJ.cc (EJ.frz (ej_lst1 ((aj_cons ((ej_varF 3 (pv 3))) (aj_nil)))))))))) (aj_nil)))))) (ssj_nil)))))) (ssj_one (sj_fz 5 (sj_asg (sc__law_least.nd) (by rfl) (by first | exact Or.inl rfl | exact Or.inr rfl) (EJ.em (ej_varF 5 (pv 5)))))))))) (ssj_cons (sj_asg (sc__law_least.nd) (by rfl) (by first | exact Or.inl rfl | exact Or.inr rfl) (EJ.em (EJ.frz ej_non))) (ssj_cons (SJ.of e_L3__law_least (sj_forItems (.inr (by rfl)) PassesOwn.never (by rfl) (pv 2) (gj_tup (by rfl) (gs_cons (gj_name (sc__law_least.nd) (by rfl) (by first | exact Or.inl rfl | exact Or.inr rfl)) (gs_cons (gj_name (sc__law_least.nd) (by rfl) (by first | exact Or.inl rfl | exact Or.inr rfl)) gs_nil))) (ssj_one (sj_if (CJW.cj (cw_and (cj_isN ((EJ.br (ej_callH h__law_next hr (by decide) (by rfl) (aj_cons ((ej_varF 0 (pv 0))) ((aj_cons ((ej_varF 6 (pv 6))) ((aj_cons ((ej_ixF hu64 ((ej_varC 1 (pv 1))) ((EJ.br (ej_neg ((EJ.br ej_int))))) (fun _ _ => (by rfl)))) (aj_nil))))))))) ((EJ.br ej_non))) (cw_and1 (CJW.cj (cw_or (cj_isN ((ej_var 4 (pv 4))) ((EJ.br ej_non))) (cw_or1 (cj_val ((EJ.br (ej_callH h__law_less hr (by decide) (by rfl) (aj_cons ((ej_varF 7 (pv 7))) ((aj_cons ((ej_varF 4 (pv 4))) (aj_nil)))))))))))))) (ssj_one (sj_asg (sc__law_least.nd) (by rfl) (by first | exact Or.inl rfl | exact Or.inr rfl) (EJ.em (ej_varF 7 (pv 7))))) (ssj_nil))))) (ssj_one (sj_ret (EJ.em (EJ.frz (ej_cat ((ej_varC 4 (pv 4))) ((EJ.cc (EJ.frz (ej_lst1 ((aj_cons ((EJ.frz (ej_sub ((EJ.br (ej_len (by rfl) z_len (aj_cons ((ej_var 1 (pv 1))) (aj_nil))))) ((EJ.br ej_int))))) (aj_nil)))))))))))))))
abbrev s__law_whole : Stmt := top 12
def c__law_whole : En → Option Out := (sRet (fB (cAnd (fun ρ => bOf ((fIsi "int" (fVar 0)) ρ)) (fun ρ => bOf ((fB (cNot fun ρ => bOf ((fIsi "bool" (fVar 0)) ρ))) ρ)))) [])
theorem x__law_whole : ∃ g : List D → Option D, g = runD 1 c__law_whole := ⟨_, rfl⟩
noncomputable def f__law_whole : List D → Option D := Classical.choose x__law_whole
theorem e__law_whole : f__law_whole = runD 1 c__law_whole := Classical.choose_spec x__law_whole
theorem sc__law_whole : FnScope ["_law_found"] ["_law_found"] (defScope s__law_whole) := ⟨rfl, rfl, rfl, by decide +kernel, rfl, by decide +kernel, by decide +kernel⟩
theorem ok__law_whole (z_bool : mg "bool" = none) (z_int : mg "int" = none) (z_isinstance : mg "isinstance" = none) {a : Addr} {fd : FuncData} (F : Fun K "_law_whole" "_law_whole" s__law_whole a fd) (m : mg "_law_whole" = some (.ref a)) : HasF P w K mg base 1 "_law_whole" 1 .F f__law_whole := by
  rw [e__law_whole]
  refine HasF.mk' m F.kp (F.binds (ps := ["_law_found"]) fun _ _ _ _ _ _ us hl => match us, hl with | [_], _ => rfl) (fn_d F sc__law_whole (.inr rfl) fun cdv A outer s H E hr => ?_)
  have hu1 := hu_1 hr
  have hu64 := hu_64 hr
  have hu65 := hu_65 hr
  exact ssj_one (sj_ret (EJ.em (EJ.frz (ej_andV ((EJ.br (ej_isi (by rfl) z_isinstance (by rfl) z_int (by rfl) (by decide +kernel) ((ej_var 0 (pv 0)))))) (ej_oneV ((ej_notV ((EJ.br (ej_isi (by rfl) z_isinstance (by rfl) z_bool (by rfl) (by decide +kernel) ((ej_var 0 (pv 0)))))))))))))
abbrev s_law : Stmt := top 19
theorem x_Q1_law : ∃ g : En → Option D, g = fLc 12 [9] (fItems (fSl dSlL (fVarC 0) (oS (fC (.int 2))) (oS (fC (.int 72))))) (bName 9) cTrue (fBin dIx (fVarC 3) (fBin dMod (fCall 2 f__law_mixed (aCons (fVarF 9) (aCons (fC (.int 3)) aNil))) (fApp dLen (aCons (fVar 3) aNil)))) := ⟨_, rfl⟩
def Q1_law : En → Option D := Classical.choose x_Q1_law
theorem e_Q1_law : Q1_law = fLc 12 [9] (fItems (fSl dSlL (fVarC 0) (oS (fC (.int 2))) (oS (fC (.int 72))))) (bName 9) cTrue (fBin dIx (fVarC 3) (fBin dMod (fCall 2 f__law_mixed (aCons (fVarF 9) (aCons (fC (.int 3)) aNil))) (fApp dLen (aCons (fVar 3) aNil)))) := Classical.choose_spec x_Q1_law
theorem x_Q2_law : ∃ g : En → Option D, g = fLc 12 [10] (fItems (fBin dIx (fVarC 2) (fC (.int 2)))) (bName 10) cTrue (fApp dListOf (aCons (fVarC 10) aNil)) := ⟨_, rfl⟩
def Q2_law : En → Option D := Classical.choose x_Q2_law
theorem e_Q2_law : Q2_law = fLc 12 [10] (fItems (fBin dIx (fVarC 2) (fC (.int 2)))) (bName 10) cTrue (fApp dListOf (aCons (fVarC 10) aNil)) := Classical.choose_spec x_Q2_law
theorem x_Q3_law : ∃ g : En → Option D, g = fLc 12 [11] (fItems (fVarF 8)) (bName 11) (cNot (fun ρ => bOf ((fCall 1 f__law_whole (aCons (fVarF 11) aNil)) ρ))) (fVarF 11) := ⟨_, rfl⟩
def Q3_law : En → Option D := Classical.choose x_Q3_law
theorem e_Q3_law : Q3_law = fLc 12 [11] (fItems (fVarF 8)) (bName 11) (cNot (fun ρ => bOf ((fCall 1 f__law_whole (aCons (fVarF 11) aNil)) ρ))) (fVarF 11) := Classical.choose_spec x_Q3_law
def c_law : En → Option Out := (sSeq (sAsg 1 .F (fCall 2 f__law_words (aCons (fCall 2 f__law_cell_at (aCons (fVarF 0) (aCons (fC (.int 0)) aNil))) (aCons (fC (.int 6)) aNil))) []) (sSeq (sAsg 2 .F (fCall 2 f__law_rule (aCons (fCall 2 f__law_cell_at (aCons (fVarF 0) (aCons (fC (.int 1)) aNil))) (aCons (fSl dSlL (fVarC 1) oN (oS (fC (.int 5)))) aNil))) []) (sSeq (sAsg 3 .F (fBin dCat (fBin dIx (fVarC 2) (fC (.int 1))) (fLst (aCons (fBin dAdd (fBin dIx (fLst (aCons (fC (.str "")) (aCons (fC (.str "2.")) aNil))) (fBin dSub (fBin dIx (fVar 2) (fC (.int 0))) (fC (.int 1)))) (fBin dIx (fVar 1) (fC (.int 5)))) aNil))) []) (sSeq (sAsg 4 .F Q1_law []) (sSeq (sAsg 5 .F (fTup (aCons (fBin dIx (fVarC 2) (fC (.int 0))) (aCons (fApp dListOf (aCons (fBin dIx (fVarC 2) (fC (.int 1))) aNil)) (aCons Q2_law aNil)))) []) (sSeq (sAsg 6 .F (fCall 2 f__law_upto_breach (aCons (fVarF 2) (aCons (fVarF 4) aNil))) []) (sSeq (sIf (fun ρ => bOf (fBin dIsN (fVar 6) (fC .none) ρ)) (sRet (fBin dIsN (fCall 2 f_shortest_breach (aCons (fVarF 2) (aCons (fVarF 4) aNil))) (fC .none)) []) sNil) (sSeq (sAsg 7 .F (fApp dListOf (aCons (fVarC 6) aNil)) []) (sSeq (sAsg 8 .F (fCall 2 f_shortest_breach (aCons (fVarF 2) (aCons (fVarF 7) aNil))) []) (sSeq (sIf (cOr (cNot (fun ρ => bOf ((fIsi "list" (fVar 8)) ρ))) (fun ρ => bOf (fBin dNe Q3_law (fLst aNil) ρ))) (sRet (fC (.bool false)) []) sNil) (sRet (fB (cAnd (fun ρ => bOf ((fBin dEq (fVar 8) (fCall 2 f__law_least (aCons (fVarF 5) (aCons (fVarF 6) aNil)))) ρ)) (cAnd (fun ρ => bOf ((fBin dEq (fVar 7) (fVar 6)) ρ)) (fun ρ => bOf ((fBin dEq (fVar 2) (fVar 5)) ρ))))) [])))))))))))
theorem x_law : ∃ g : List D → Option D, g = runD 12 c_law := ⟨_, rfl⟩
noncomputable def f_law : List D → Option D := Classical.choose x_law
theorem e_law : f_law = runD 12 c_law := Classical.choose_spec x_law
theorem sc_law : FnScope ["_law_script", "_law_words_here", "_law_rule_here", "_law_texts", "_law_row", "_law_kept", "_law_cut", "_law_handed", "_law_found", "_law_cell", "_law_room", "_law_at"] ["_law_script"] (defScope s_law) := ⟨rfl, rfl, rfl, by decide +kernel, rfl, by decide +kernel, by decide +kernel⟩
theorem ok_law (h__law_cell_at : HasF P w K mg base 1 "_law_cell_at" 2 .F f__law_cell_at) (h__law_least : HasF P w K mg base 3 "_law_least" 2 .F f__law_least) (h__law_mixed : HasF P w K mg base 1 "_law_mixed" 2 .F f__law_mixed) (h__law_rule : HasF P w K mg base 2 "_law_rule" 2 .F f__law_rule) (h__law_upto_breach : HasF P w K mg base 2 "_law_upto_breach" 2 .F f__law_upto_breach) (h__law_whole : HasF P w K mg base 1 "_law_whole" 1 .F f__law_whole) (h__law_words : HasF P w K mg base 2 "_law_words" 2 .F f__law_words) (h_shortest_breach : HasF P w K mg base 4 "shortest_breach" 2 .F f_shortest_breach) (z_isinstance : mg "isinstance" = none) (z_len : mg "len" = none) (z_list : mg "list" = none) {a : Addr} {fd : FuncData} (F : Fun K "law" "law" s_law a fd) : FnOk P w K mg base CX0 5 a fd ["_law_script"] (spD K 1 .F f_law) := by
  rw [e_law]
  refine fn_d F sc_law (.inr rfl) fun cdv A outer s H E hr => ?_
  have hu1 := hu_1 hr
  have hu64 := hu_64 hr
  have hu65 := hu_65 hr
  exact ssj_cons (sj_asg (sc_law.nd) (by rfl) (by first | exact Or.inl rfl | exact Or.inr rfl) (EJ.em (ej_callH h__law_words hr (by decide) (by rfl) (aj_cons ((ej_callH h__law_cell_at hr (by decide) (by rfl) (aj_cons ((ej_varF 0 (pv 0))) ((aj_cons ((EJ.frz ej_int)) (aj_nil)))))) ((aj_cons ((EJ.frz ej_int)) (aj_nil))))))) (ssj_cons (sj_asg (sc_law.nd) (by rfl) (by first | exact Or.inl rfl | exact Or.inr rfl) (EJ.em (ej_callH h__law_rule hr (by decide) (by rfl) (aj_cons ((ej_callH h__law_cell_at hr (by decide) (by rfl) (aj_cons ((ej_varF 0 (pv 0))) ((aj_cons ((EJ.frz ej_int)) (aj_nil)))))) ((aj_cons ((EJ.frz (ej_slL ((ej_varC 1 (pv 1))) oj_none (oj_some ((EJ.br ej_int)))))) (aj_nil))))))) (ssj_cons (sj_asg (sc_law.nd) (by rfl) (by first | exact Or.inl rfl | exact Or.inr rfl) (EJ.em (EJ.frz (ej_cat ((EJ.cc (ej_ixF hu64 ((ej_varC 2 (pv 2))) ((EJ.br ej_int)) (fun _ _ => (by rfl))))) ((EJ.cc (EJ.frz (ej_lst1 ((aj_cons ((EJ.frz (ej_add ((ej_ix hu64 ((ej_lstB ((aj_cons ((EJ.br ej_str)) ((aj_cons ((EJ.br ej_str)) (aj_nil))))))) ((EJ.br (ej_sub ((ej_ix hu64 ((ej_var 2 (pv 2))) ((EJ.br ej_int)) (fun _ _ => (by rfl)))) ((EJ.br ej_int))))) (fun _ _ => (by rfl)))) ((ej_ix hu64 ((ej_var 1 (pv 1))) ((EJ.br ej_int)) (fun _ _ => (by rfl))))))) (aj_nil))))))))))) (ssj_cons (SJ.asgOf e_Q1_law (by first | exact (sj_asgLcF (own := [("_law_cell", 9)]) .F [0, 1, 2, 3, 4, 5, 6, 7, 8, 10, 11] [] 12 (by rfl) (sc_law.nd) (by rfl) (by rfl) (by rfl) ((ij_list ((EJ.frz (ej_slL ((ej_varC 0 (pv 0))) (oj_some ((EJ.br ej_int))) (oj_some ((EJ.br ej_int)))))))) (blkOk_by (by rfl)) (fun _ _ _ _ _ => (gj_name (sc_law.nd) (by rfl) (by first | exact Or.inl rfl | exact Or.inr rfl))) (fun _ _ _ _ _ => cs_nil) (fun _ _ _ _ _ => (ej_ixF hu64 ((ej_varC 3 (pv 3))) ((EJ.br (ej_mod ((EJ.br (ej_callH h__law_mixed hr (by decide) (by rfl) (aj_cons ((ej_varF 9 (pv 9))) ((aj_cons ((EJ.frz ej_int)) (aj_nil))))))) ((EJ.br (ej_len (by rfl) z_len (aj_cons ((ej_var 3 (pv 3))) (aj_nil)))))))) (fun _ _ => (by rfl)))) (.inr (by rfl)) (by decide)) | exact (sj_asg (sc_law.nd) (by rfl) (by first | exact Or.inl rfl | exact Or.inr rfl) (EJ.em (EJ.frz (ej_lc (own := [("_law_cell", 9)]) .F [0, 1, 2, 3, 4, 5, 6, 7, 8, 10, 11] 12 (by rfl) (sc_law.nd) ((ij_list ((EJ.frz (ej_slL ((ej_varC 0 (pv 0))) (oj_some ((EJ.br ej_int))) (oj_some ((EJ.br ej_int)))))))) (blkOk_by (by rfl)) (fun _ _ _ _ _ => (gj_name (sc_law.nd) (by rfl) (by first | exact Or.inl rfl | exact Or.inr rfl))) (fun _ _ _ _ _ => cs_nil) (fun _ _ _ _ _ => (ej_ixF hu64 ((ej_varC 3 (pv 3))) ((EJ.br (ej_mod ((EJ.br (ej_callH h__law_mixed hr (by decide) (by rfl) (aj_cons ((ej_varF 9 (pv 9))) ((aj_cons ((EJ.frz ej_int)) (aj_nil))))))) ((EJ.br (ej_len (by rfl) z_len (aj_cons ((ej_var 3 (pv 3))) (aj_nil)))))))) (fun _ _ => (by rfl)))) (.inr (by rfl)) (by decide))))))) (ssj_cons (sj_asg (sc_law.nd) (by rfl) (by first | exact Or.inl rfl | exact Or.inr rfl) (EJ.em (ej_tup ((aj_cons ((ej_ixF hu64 ((ej_varC 2 (pv 2))) ((EJ.br ej_int)) (fun _ _ => (by rfl)))) ((aj_cons ((EJ.frz (ej_listOf (by rfl) z_list ((EJ.cc (ej_ixF hu64 ((ej_varC 2 (pv 2))) ((EJ.br ej_int)) (fun _ _ => (by rfl)))))))) ((aj_cons ((EJ.frz (EJ.of e_Q2_law (ej_lc (own := [("_law_room", 10)]) .F [0, 1, 2, 3, 4, 5, 6, 7, 8, 9, 11] 12 (by rfl) (sc_law.nd) ((ij_list ((ej_ixF hu64 ((ej_varC 2 (pv 2))) ((EJ.br ej_int)) (fun _ _ => (by rfl)))))) (blkOk_by (by rfl)) (fun _ _ _ _ _ => (gj_name (sc_law.nd) (by rfl) (by first | exact Or.inl rfl | exact Or.inr rfl))) (fun _ _ _ _ _ => cs_nil) (fun _ _ _ _ _ => (EJ.frz (ej_listOf (by rfl) z_list ((ej_varC 10 (pv 10)))))) (.inr (by rfl)) (by decide))))) (aj_nil)))))))))) (ssj_cons (sj_asg (sc_law.nd) (by rfl) (by first | exact Or.inl rfl | exact Or.inr rfl) (EJ.em (ej_callH h__law_upto_breach hr (by decide) (by rfl) (aj_cons ((ej_varF 2 (pv 2))) ((aj_cons ((ej_varF 4 (pv 4))) (aj_nil))))))) (ssj_cons (sj_if (cj_isN ((ej_var 6 (pv 6))) ((EJ.br ej_non))) (ssj_one (sj_ret (EJ.em (EJ.frz (ej_isN ((EJ.br (ej_callH h_shortest_breach hr (by decide) (by rfl) (aj_cons ((ej_varF 2 (pv 2))) ((aj_cons ((ej_varF 4 (pv 4))) (aj_nil))))))) ((EJ.br ej_non))))))) (ssj_nil)) (ssj_cons (sj_asg (sc_law.nd) (by rfl) (by first | exact Or.inl rfl | exact Or.inr rfl) (EJ.em (EJ.frz (ej_listOf (by rfl) z_list ((ej_varC 6 (pv 6))))))) (ssj_cons (sj_asg (sc_law.nd) (by rfl) (by first | exact Or.inl rfl | exact Or.inr rfl) (EJ.em (ej_callH h_shortest_breach hr (by decide) (by rfl) (aj_cons ((ej_varF 2 (pv 2))) ((aj_cons ((ej_varF 7 (pv 7))) (aj_nil))))))) (ssj_cons (sj_if (CJW.cj (cw_or (cj_not (cj_val ((EJ.br (ej_isi (by rfl) z_isinstance (by rfl) z_list (by rfl) (by decide +kernel) ((ej_var 8 (pv 8)))))))) (cw_or1 (cj_ne hu64 ((EJ.br (EJ.of e_Q3_law (ej_lc (own := [("_law_at", 11)]) .F [0, 1, 2, 3, 4, 5, 6, 7, 8, 9, 10] 12 (by rfl) (sc_law.nd) ((ij_list ((ej_varF 8 (pv 8))))) (blkOk_by (by rfl)) (fun _ _ _ _ _ => (gj_name (sc_law.nd) (by rfl) (by first | exact Or.inl rfl | exact Or.inr rfl))) (fun _ _ _ _ _ => (cs_one (cj_not (cj_val ((EJ.br (ej_callH h__law_whole hr (by decide) (by rfl) (aj_cons ((ej_varF 11 (pv 11))) (aj_nil))))))))) (fun _ _ _ _ _ => (ej_varF 11 (pv 11))) (.inr (by rfl)) (by decide))))) ((ej_lstB (aj_nil))))))) (ssj_one (sj_ret (EJ.em (EJ.frz ej_bl)))) (ssj_nil)) (ssj_one (sj_ret (EJ.em (EJ.frz (ej_andV ((EJ.br (ej_eq hu64 ((ej_var 8 (pv 8))) ((EJ.br (ej_callH h__law_least hr (by decide) (by rfl) (aj_cons ((ej_varF 5 (pv 5))) ((aj_cons ((ej_varF 6 (pv 6))) (aj_nil)))))))))) (ej_andV ((EJ.br (ej_eq hu64 ((ej_var 7 (pv 7))) ((ej_var 6 (pv 6)))))) (ej_oneV ((ej_eq hu64 ((ej_var 2 (pv 2))) ((ej_var 5 (pv 5)))))))))))))))))))))
end
theorem all_mk {l : PySem.W.OpenLaw} {w : World} {K : PySem.W.Frag} {h : Heap} {mg : Str → Option Value} {fa : Addr} (X : K.In h) (G : h.Ns mainGlobals mg) (hfa : mg "law" = some (.ref fa))
    {f0 : Addr} {od0 an0 : Option Addr} {sl0 : Array (Option Value)} {oc0 kV0 dc0 pm0 cd0 ct0 : Value} (a0 : PySem.W.nsIn K mainGlobals "_law_mixed" = some (some (.ref f0))) (l0 : K.lookup f0 = some ⟨oc0, od0, .func (PySem.W.fnOf "_law_mixed" "_law_mixed" (defArgs s__law_mixed) (defBody s__law_mixed) (defScope s__law_mixed) .none kV0 dc0 pm0 an0 cd0 ct0), sl0⟩) (c0 : PySem.W.codeIn K cd0 "_law_mixed" = true) (k0 : PySem.W.keepIn K (.ref f0) = true)
    {f1 : Addr} {od1 an1 : Option Addr} {sl1 : Array (Option Value)} {oc1 kV1 dc1 pm1 cd1 ct1 : Value} (a1 : PySem.W.nsIn K mainGlobals "_law_words" = some (some (.ref f1))) (l1 : K.lookup f1 = some ⟨oc1, od1, .func (PySem.W.fnOf "_law_words" "_law_words" (defArgs s__law_words) (defBody s__law_words) (defScope s__law_words) .none kV1 dc1 pm1 an1 cd1 ct1), sl1⟩) (c1 : PySem.W.codeIn K cd1 "_law_words" = true) (k1 : PySem.W.keepIn K (.ref f1) = true)
    {f2 : Addr} {od2 an2 : Option Addr} {sl2 : Array (Option Value)} {oc2 kV2 dc2 pm2 cd2 ct2 : Value} (a2 : PySem.W.nsIn K mainGlobals "_law_rule" = some (some (.ref f2))) (l2 : K.lookup f2 = some ⟨oc2, od2, .func (PySem.W.fnOf "_law_rule" "_law_rule" (defArgs s__law_rule) (defBody s__law_rule) (defScope s__law_rule) .none kV2 dc2 pm2 an2 cd2 ct2), sl2⟩) (c2 : PySem.W.codeIn K cd2 "_law_rule" = true) (k2 : PySem.W.keepIn K (.ref f2) = true)
    {f3 : Addr} {od3 an3 : Option Addr} {sl3 : Array (Option Value)} {oc3 kV3 dc3 pm3 cd3 ct3 : Value} (a3 : PySem.W.nsIn K mainGlobals "_law_next" = some (some (.ref f3))) (l3 : K.lookup f3 = some ⟨oc3, od3, .func (PySem.W.fnOf "_law_next" "_law_next" (defArgs s__law_next) (defBody s__law_next) (defScope s__law_next) .none kV3 dc3 pm3 an3 cd3 ct3), sl3⟩) (c3 : PySem.W.codeIn K cd3 "_law_next" = true) (k3 : PySem.W.keepIn K (.ref f3) = true)
    {f4 : Addr} {od4 an4 : Option Addr} {sl4 : Array (Option Value)} {oc4 kV4 dc4 pm4 cd4 ct4 : Value} (a4 : PySem.W.nsIn K mainGlobals "_law_upto_breach" = some (some (.ref f4))) (l4 : K.lookup f4 = some ⟨oc4, od4, .func (PySem.W.fnOf "_law_upto_breach" "_law_upto_breach" (defArgs s__law_upto_breach) (defBody s__law_upto_breach) (defScope s__law_upto_breach) .none kV4 dc4 pm4 an4 cd4 ct4), sl4⟩) (c4 : PySem.W.codeIn K cd4 "_law_upto_breach" = true) (k4 : PySem.W.keepIn K (.ref f4) = true)
    {f5 : Addr} {od5 an5 : Option Addr} {sl5 : Array (Option Value)} {oc5 kV5 dc5 pm5 cd5 ct5 : Value} (a5 : PySem.W.nsIn K mainGlobals "next_room" = some (some (.ref f5))) (l5 : K.lookup f5 = some ⟨oc5, od5, .func (PySem.W.fnOf "next_room" "next_room" (defArgs s_next_room) (defBody s_next_room) (defScope s_next_room) .none kV5 dc5 pm5 an5 cd5 ct5), sl5⟩) (c5 : PySem.W.codeIn K cd5 "next_room" = true) (k5 : PySem.W.keepIn K (.ref f5) = true)
    {f6 : Addr} {od6 an6 : Option Addr} {sl6 : Array (Option Value)} {oc6 kV6 dc6 pm6 cd6 ct6 : Value} (a6 : PySem.W.nsIn K mainGlobals "fewer" = some (some (.ref f6))) (l6 : K.lookup f6 = some ⟨oc6, od6, .func (PySem.W.fnOf "fewer" "fewer" (defArgs s_fewer) (defBody s_fewer) (defScope s_fewer) .none kV6 dc6 pm6 an6 cd6 ct6), sl6⟩) (c6 : PySem.W.codeIn K cd6 "fewer" = true) (k6 : PySem.W.keepIn K (.ref f6) = true)
    {f7 : Addr} {od7 an7 : Option Addr} {sl7 : Array (Option Value)} {oc7 kV7 dc7 pm7 cd7 ct7 : Value} (a7 : PySem.W.nsIn K mainGlobals "steps_left" = some (some (.ref f7))) (l7 : K.lookup f7 = some ⟨oc7, od7, .func (PySem.W.fnOf "steps_left" "steps_left" (defArgs s_steps_left) (defBody s_steps_left) (defScope s_steps_left) .none kV7 dc7 pm7 an7 cd7 ct7), sl7⟩) (c7 : PySem.W.codeIn K cd7 "steps_left" = true) (k7 : PySem.W.keepIn K (.ref f7) = true)
    {f8 : Addr} {od8 an8 : Option Addr} {sl8 : Array (Option Value)} {oc8 kV8 dc8 pm8 cd8 ct8 : Value} (a8 : PySem.W.nsIn K mainGlobals "room_after" = some (some (.ref f8))) (l8 : K.lookup f8 = some ⟨oc8, od8, .func (PySem.W.fnOf "room_after" "room_after" (defArgs s_room_after) (defBody s_room_after) (defScope s_room_after) .none kV8 dc8 pm8 an8 cd8 ct8), sl8⟩) (c8 : PySem.W.codeIn K cd8 "room_after" = true) (k8 : PySem.W.keepIn K (.ref f8) = true)
    {f9 : Addr} {od9 an9 : Option Addr} {sl9 : Array (Option Value)} {oc9 kV9 dc9 pm9 cd9 ct9 : Value} (a9 : PySem.W.nsIn K mainGlobals "breaks_now" = some (some (.ref f9))) (l9 : K.lookup f9 = some ⟨oc9, od9, .func (PySem.W.fnOf "breaks_now" "breaks_now" (defArgs s_breaks_now) (defBody s_breaks_now) (defScope s_breaks_now) .none kV9 dc9 pm9 an9 cd9 ct9), sl9⟩) (c9 : PySem.W.codeIn K cd9 "breaks_now" = true) (k9 : PySem.W.keepIn K (.ref f9) = true)
    {f10 : Addr} {od10 an10 : Option Addr} {sl10 : Array (Option Value)} {oc10 kV10 dc10 pm10 cd10 ct10 : Value} (a10 : PySem.W.nsIn K mainGlobals "shortest_breach" = some (some (.ref f10))) (l10 : K.lookup f10 = some ⟨oc10, od10, .func (PySem.W.fnOf "shortest_breach" "shortest_breach" (defArgs s_shortest_breach) (defBody s_shortest_breach) (defScope s_shortest_breach) .none kV10 dc10 pm10 an10 cd10 ct10), sl10⟩) (c10 : PySem.W.codeIn K cd10 "shortest_breach" = true) (k10 : PySem.W.keepIn K (.ref f10) = true)
    {f11 : Addr} {od11 an11 : Option Addr} {sl11 : Array (Option Value)} {oc11 kV11 dc11 pm11 cd11 ct11 : Value} (a11 : PySem.W.nsIn K mainGlobals "_law_cell_at" = some (some (.ref f11))) (l11 : K.lookup f11 = some ⟨oc11, od11, .func (PySem.W.fnOf "_law_cell_at" "_law_cell_at" (defArgs s__law_cell_at) (defBody s__law_cell_at) (defScope s__law_cell_at) .none kV11 dc11 pm11 an11 cd11 ct11), sl11⟩) (c11 : PySem.W.codeIn K cd11 "_law_cell_at" = true) (k11 : PySem.W.keepIn K (.ref f11) = true)
    {f12 : Addr} {od12 an12 : Option Addr} {sl12 : Array (Option Value)} {oc12 kV12 dc12 pm12 cd12 ct12 : Value} (a12 : PySem.W.nsIn K mainGlobals "_law_less" = some (some (.ref f12))) (l12 : K.lookup f12 = some ⟨oc12, od12, .func (PySem.W.fnOf "_law_less" "_law_less" (defArgs s__law_less) (defBody s__law_less) (defScope s__law_less) .none kV12 dc12 pm12 an12 cd12 ct12), sl12⟩) (c12 : PySem.W.codeIn K cd12 "_law_less" = true) (k12 : PySem.W.keepIn K (.ref f12) = true)
    {f13 : Addr} {od13 an13 : Option Addr} {sl13 : Array (Option Value)} {oc13 kV13 dc13 pm13 cd13 ct13 : Value} (a13 : PySem.W.nsIn K mainGlobals "_law_put" = some (some (.ref f13))) (l13 : K.lookup f13 = some ⟨oc13, od13, .func (PySem.W.fnOf "_law_put" "_law_put" (defArgs s__law_put) (defBody s__law_put) (defScope s__law_put) .none kV13 dc13 pm13 an13 cd13 ct13), sl13⟩) (c13 : PySem.W.codeIn K cd13 "_law_put" = true) (k13 : PySem.W.keepIn K (.ref f13) = true)
    {f14 : Addr} {od14 an14 : Option Addr} {sl14 : Array (Option Value)} {oc14 kV14 dc14 pm14 cd14 ct14 : Value} (a14 : PySem.W.nsIn K mainGlobals "_law_least" = some (some (.ref f14))) (l14 : K.lookup f14 = some ⟨oc14, od14, .func (PySem.W.fnOf "_law_least" "_law_least" (defArgs s__law_least) (defBody s__law_least) (defScope s__law_least) .none kV14 dc14 pm14 an14 cd14 ct14), sl14⟩) (c14 : PySem.W.codeIn K cd14 "_law_least" = true) (k14 : PySem.W.keepIn K (.ref f14) = true)
    {f15 : Addr} {od15 an15 : Option Addr} {sl15 : Array (Option Value)} {oc15 kV15 dc15 pm15 cd15 ct15 : Value} (a15 : PySem.W.nsIn K mainGlobals "_law_whole" = some (some (.ref f15))) (l15 : K.lookup f15 = some ⟨oc15, od15, .func (PySem.W.fnOf "_law_whole" "_law_whole" (defArgs s__law_whole) (defBody s__law_whole) (defScope s__law_whole) .none kV15 dc15 pm15 an15 cd15 ct15), sl15⟩) (c15 : PySem.W.codeIn K cd15 "_law_whole" = true) (k15 : PySem.W.keepIn K (.ref f15) = true)
    {f16 : Addr} {od16 an16 : Option Addr} {sl16 : Array (Option Value)} {oc16 kV16 dc16 pm16 cd16 ct16 : Value} (a16 : PySem.W.nsIn K mainGlobals "law" = some (some (.ref f16))) (l16 : K.lookup f16 = some ⟨oc16, od16, .func (PySem.W.fnOf "law" "law" (defArgs s_law) (defBody s_law) (defScope s_law) .none kV16 dc16 pm16 an16 cd16 ct16), sl16⟩) (c16 : PySem.W.codeIn K cd16 "law" = true) (k16 : PySem.W.keepIn K (.ref f16) = true)
    (z_bool : PySem.W.nsIn K mainGlobals "bool" = some none)
    (z_dict : PySem.W.nsIn K mainGlobals "dict" = some none)
    (z_enumerate : PySem.W.nsIn K mainGlobals "enumerate" = some none)
    (z_int : PySem.W.nsIn K mainGlobals "int" = some none)
    (z_isinstance : PySem.W.nsIn K mainGlobals "isinstance" = some none)
    (z_len : PySem.W.nsIn K mainGlobals "len" = some none)
    (z_list : PySem.W.nsIn K mainGlobals "list" = some none)
    (z_range : PySem.W.nsIn K mainGlobals "range" = some none)
    (z_sorted : PySem.W.nsIn K mainGlobals "sorted" = some none)
    (hp : ∀ ns : List Int, ns.length ≤ 63 → f_law [.list (ns.map .int)] = some (.bool true)) :
    ∃ fd : FuncData, (∀ (s : Shared) (v : Value), BindsTo s fd ⟨[v], []⟩ [("_law_script", v)]) ∧ ∀ base : Heap, K.In base → base.Ns mainGlobals mg → FnOk l.prog w K mg base CX0 5 fa fd ["_law_script"] (spLaw K) := by
  have e := hfa.symm.trans (PySem.W.mg_of X G a16)
  cases e
  have z_bool := PySem.W.mg_none_of X G z_bool
  have z_dict := PySem.W.mg_none_of X G z_dict
  have z_enumerate := PySem.W.mg_none_of X G z_enumerate
  have z_int := PySem.W.mg_none_of X G z_int
  have z_isinstance := PySem.W.mg_none_of X G z_isinstance
  have z_len := PySem.W.mg_none_of X G z_len
  have z_list := PySem.W.mg_none_of X G z_list
  have z_range := PySem.W.mg_none_of X G z_range
  have z_sorted := PySem.W.mg_none_of X G z_sorted
  have F0 := fun_mk (st := s__law_mixed) l0 c0 k0
  have h__law_mixed : ∀ base, HasF l.prog w K mg base 1 "_law_mixed" 2 .F f__law_mixed := fun base => ok__law_mixed (P := l.prog) (w := w) (base := base)    F0 (PySem.W.mg_of X G a0)
  have F1 := fun_mk (st := s__law_words) l1 c1 k1
  have h__law_words : ∀ base, HasF l.prog w K mg base 2 "_law_words" 2 .F f__law_words := fun base => ok__law_words (P := l.prog) (w := w) (base := base) (h__law_mixed base) z_int z_range  F1 (PySem.W.mg_of X G a1)
  have F2 := fun_mk (st := s__law_rule) l2 c2 k2
  have h__law_rule : ∀ base, HasF l.prog w K mg base 2 "_law_rule" 2 .F f__law_rule := fun base => ok__law_rule (P := l.prog) (w := w) (base := base) (h__law_mixed base) z_len z_range z_sorted  F2 (PySem.W.mg_of X G a2)
  have F3 := fun_mk (st := s__law_next) l3 c3 k3
  have h__law_next : ∀ base, HasF l.prog w K mg base 1 "_law_next" 3 .F f__law_next := fun base => ok__law_next (P := l.prog) (w := w) (base := base)    F3 (PySem.W.mg_of X G a3)
  have F4 := fun_mk (st := s__law_upto_breach) l4 c4 k4
  have h__law_upto_breach : ∀ base, HasF l.prog w K mg base 2 "_law_upto_breach" 2 .F f__law_upto_breach := fun base => ok__law_upto_breach (P := l.prog) (w := w) (base := base) (h__law_next base) z_enumerate  F4 (PySem.W.mg_of X G a4)
  have F5 := fun_mk (st := s_next_room) l5 c5 k5
  have h_next_room : ∀ base, HasF l.prog w K mg base 1 "next_room" 3 .F f_next_room := fun base => ok_next_room (P := l.prog) (w := w) (base := base)    F5 (PySem.W.mg_of X G a5)
  have F6 := fun_mk (st := s_fewer) l6 c6 k6
  have h_fewer : ∀ base, HasF l.prog w K mg base 2 "fewer" 3 .F f_fewer := fun base => ok_fewer (P := l.prog) (w := w) (base := base) (h_next_room base) z_len z_range  F6 (PySem.W.mg_of X G a6)
  have F7 := fun_mk (st := s_steps_left) l7 c7 k7
  have h_steps_left : ∀ base, HasF l.prog w K mg base 3 "steps_left" 2 .F f_steps_left := fun base => ok_steps_left (P := l.prog) (w := w) (base := base) (h_fewer base) (h_next_room base) z_int z_len z_range  F7 (PySem.W.mg_of X G a7)
  have F8 := fun_mk (st := s_room_after) l8 c8 k8
  have h_room_after : ∀ base, HasF l.prog w K mg base 2 "room_after" 2 .F f_room_after := fun base => ok_room_after (P := l.prog) (w := w) (base := base) (h_next_room base)   F8 (PySem.W.mg_of X G a8)
  have F9 := fun_mk (st := s_breaks_now) l9 c9 k9
  have h_breaks_now : ∀ base, HasF l.prog w K mg base 3 "breaks_now" 2 .F f_breaks_now := fun base => ok_breaks_now (P := l.prog) (w := w) (base := base) (h_room_after base)   F9 (PySem.W.mg_of X G a9)
  have F10 := fun_mk (st := s_shortest_breach) l10 c10 k10
  have h_shortest_breach : ∀ base, HasF l.prog w K mg base 4 "shortest_breach" 2 .F f_shortest_breach := fun base => ok_shortest_breach (P := l.prog) (w := w) (base := base) (h_breaks_now base) (h_next_room base) (h_steps_left base) z_len  F10 (PySem.W.mg_of X G a10)
  have F11 := fun_mk (st := s__law_cell_at) l11 c11 k11
  have h__law_cell_at : ∀ base, HasF l.prog w K mg base 1 "_law_cell_at" 2 .F f__law_cell_at := fun base => ok__law_cell_at (P := l.prog) (w := w) (base := base)  z_len  F11 (PySem.W.mg_of X G a11)
  have F12 := fun_mk (st := s__law_less) l12 c12 k12
  have h__law_less : ∀ base, HasF l.prog w K mg base 1 "_law_less" 2 .F f__law_less := fun base => ok__law_less (P := l.prog) (w := w) (base := base)  z_len  F12 (PySem.W.mg_of X G a12)
  have F13 := fun_mk (st := s__law_put) l13 c13 k13
  have h__law_put : ∀ base, HasU l.prog w K mg base 2 "_law_put" 3 .o .F f__law_put := fun base => ok__law_put (P := l.prog) (w := w) (base := base) (h__law_less base)   F13 (PySem.W.mg_of X G a13)
  have F14 := fun_mk (st := s__law_least) l14 c14 k14
  have h__law_least : ∀ base, HasF l.prog w K mg base 3 "_law_least" 2 .F f__law_least := fun base => ok__law_least (P := l.prog) (w := w) (base := base) (h__law_less base) (h__law_next base) (h__law_put base) z_dict z_len z_range  F14 (PySem.W.mg_of X G a14)
  have F15 := fun_mk (st := s__law_whole) l15 c15 k15
  have h__law_whole : ∀ base, HasF l.prog w K mg base 1 "_law_whole" 1 .F f__law_whole := fun base => ok__law_whole (P := l.prog) (w := w) (base := base)  z_bool z_int z_isinstance  F15 (PySem.W.mg_of X G a15)
  have F16 := fun_mk (st := s_law) l16 c16 k16
  exact ⟨PySem.W.fnOf "law" "law" (defArgs s_law) (defBody s_law) (defScope s_law) .none kV16 dc16 pm16 an16 cd16 ct16, fun s v => .of_eq rfl, fun base _ _ => law_of (ok_law (P := l.prog) (w := w) (base := base) (h__law_cell_at base) (h__law_least base) (h__law_mixed base) (h__law_rule base) (h__law_upto_breach base) (h__law_whole base) (h__law_words base) (h_shortest_breach base) z_isinstance z_len z_list  F16) hp⟩
end K82
end

set_option Elab.async false
set_option linter.all false
set_option maxRecDepth 100000
namespace K82
open PySem PySem.Spec PyProof.Rows L2 DI

def mixed (c k : Int) : Int :=
  let n := (c % 2147483647 + 7919 * k * k + k) * 48271 % 2147483647
  n * n % 1000003
theorem mixed_ok (c k : Int) (h0 : 0 ≤ k) (h1 : k ≤ 100000) : f__law_mixed [.int c, .int k] = some (.int (mixed c k)) := by
  rw [e__law_mixed]; unfold c__law_mixed
  have hb : (c % 2147483647 + 7919 * k * k + k) * 48271 % 2147483647 < 2147483647 := Int.emod_lt_of_pos _ (by decide)
  have ha : 0 ≤ (c % 2147483647 + 7919 * k * k + k) * 48271 % 2147483647 := Int.emod_nonneg _ (by decide)
  simp only [runD, sSeq, sNil, sAsg, sRet, sRetN, sIf, sFor, sExp, sFz, fz, sApp, sSet, sNo, sPass, sBrk, sCnt, fVar, fVarF, fVarC, fC, fBin, fUn, fIf, fB, bOf_b, cAnd, cOr, cNot, fCall, fApp, aCons, aNil, fLst, fTup, bName, bTup, bCons, bNil, sAsgT, List.getD_cons_zero, List.getD_cons_succ, List.map_cons, List.map_nil, List.cons_append, List.nil_append, List.length_cons, List.length_nil, List.replicate_succ, List.replicate_zero, clr, List.set_cons_zero, List.set_cons_succ, Nat.reduceAdd, Nat.reduceSub, Nat.reduceLT, Nat.reduceLeDiff, if_true, if_false, ↓reduceIte, ite_true, oMap_some, dAdd_i, dSub_i, dEq_i, dNe_i, dEq_s, dLt_i, dLe_i, dGt_i, dGe_i, dMod_i _ 2147483647 (by decide), dMod_i _ 1000003 (by decide), dMul_i 7919 k (.inl (by decide)), dMul_i (7919 * k) k (.inr (by omega)), dMul_i _ 48271 (.inr (by decide)), dMul_i ((c % 2147483647 + 7919 * k * k + k) * 48271 % 2147483647) ((c % 2147483647 + 7919 * k * k + k) * 48271 % 2147483647) (.inl (by omega))]
  rfl
theorem mixed_lt (c k : Int) : 0 ≤ mixed c k ∧ mixed c k < 1000003 := ⟨Int.emod_nonneg _ (by decide), Int.emod_lt_of_pos _ (by decide)⟩
/-- texts of at most n signs -/
def Short (n : Nat) (ws : List Str) : Prop := ∀ w ∈ ws, w.length ≤ n ∧ PyData.strOk w = true
def alph : Str := "abcdefghijklmnopqrstuvwxyz"
theorem alph_ok : PyData.strOk alph = true := by decide +kernel
theorem alph_len : alph.length = 26 := by decide +kernel
def bit (b : Bool) : Int := if b = true then 1 else 0
theorem one_len (c : Nat) : (⟨#[c]⟩ : Str).length = 1 := rfl
theorem app_len (a b : Str) : (a ++ b).length = a.length + b.length := Str.length_append a b
abbrev Ew (c k at' : Int) (n : Nat) (m ws : Option (Md × D)) (w : Str) (y8 : Option (Md × D)) : En := [some (.F, .int c), m, some (.F, .str alph), some (.F, .int (n : Nat)), some (.F, .int at'), ws, some (.F, .int k), some (.F, .str w), y8]
theorem word_loop (c k : Int) (at' : Int) (n : Nat) (hn : n ≤ 8) (hk : 0 ≤ k) (hk2 : k < 1000) (m ws x8) :
    ∃ ρ', L1__law_words (Ew c k at' n m ws "" x8) = some (.nx ρ') ∧ ∃ w y8, w.length = n ∧ PyData.strOk w = true ∧ ρ' = Ew c k at' n m ws w y8 := by
  rw [e_L1__law_words]
  refine sForR_inv (fun i ρ => ∃ w y8, w.length = i ∧ PyData.strOk w = true ∧ ρ = Ew c k at' n m ws w y8) ?_ ?_ ?_
  · exact fRange1_n (n := n) rfl (by omega)
  · exact ⟨"", x8, rfl, by decide +kernel, rfl⟩
  · rintro i ρ hi ⟨w, y8, hw, hok, rfl⟩
    obtain ⟨ch, hc, hco⟩ := dIx_s (z := alph) (i := (mixed c i + 5 * k * (if decide ((i : Int) = at') = true then 1 else 0)) % 26) (Int.emod_nonneg _ (by decide)) (by rw [alph_len]; exact Int.emod_lt_of_pos _ (by decide)) (by rw [alph_len]; decide)
    refine ⟨Ew c k at' n m ws w (some (.F, .int (i : Nat))), Ew c k at' n m ws (w ++ ⟨#[ch]⟩) (some (.F, .int (i : Nat))), rfl, .inl ?_, w ++ ⟨#[ch]⟩, _, by rw [app_len, one_len, hw], strOk_app hok (hco alph_ok), rfl⟩
    simp only [runD, sSeq, sNil, sAsg, sRet, sRetN, sIf, sFor, sExp, sFz, fz, sApp, sSet, sNo, sPass, sBrk, sCnt, fVar, fVarF, fVarC, fC, fBin, fUn, fIf, fB, bOf_b, cAnd, cOr, cNot, fCall, fApp, aCons, aNil, fLst, fTup, bName, bTup, bCons, bNil, sAsgT, List.getD_cons_zero, List.getD_cons_succ, List.map_cons, List.map_nil, List.cons_append, List.nil_append, List.length_cons, List.length_nil, List.replicate_succ, List.replicate_zero, clr, List.set_cons_zero, List.set_cons_succ, Nat.reduceAdd, Nat.reduceSub, Nat.reduceLT, Nat.reduceLeDiff, if_true, if_false, ↓reduceIte, ite_true, oMap_some, dAdd_i, dSub_i, dEq_i, dNe_i, dEq_s, dLt_i, dLe_i, dGt_i, dGe_i, mixed_ok c i (by omega) (by omega), dMul_i 5 k (.inl (by decide)), dMod_i _ 26 (by decide), dInt, dMul_i (5 * k) _ (.inl (by omega)), hc, dAdd_s w ⟨#[ch]⟩ (by rw [hw, one_len]; omega)]
theorem words_ok (c : Int) (m : Nat) (hm : m ≤ 100) : ∃ ws : List Str, ws.length = m ∧ Short 8 ws ∧ f__law_words [.int c, .int (m : Nat)] = some (.list (ws.map .str)) := by
  rw [e__law_words]; unfold c__law_words
  have h8 : 0 ≤ c % 8 := Int.emod_nonneg _ (by decide)
  have h8' : c % 8 < 8 := Int.emod_lt_of_pos _ (by decide)
  simp only [runD, sSeq, sNil, sAsg, sRet, sRetN, sIf, sFor, sExp, sFz, fz, sApp, sSet, sNo, sPass, sBrk, sCnt, fVar, fVarF, fVarC, fC, fBin, fUn, fIf, fB, bOf_b, cAnd, cOr, cNot, fCall, fApp, aCons, aNil, fLst, fTup, bName, bTup, bCons, bNil, sAsgT, List.getD_cons_zero, List.getD_cons_succ, List.map_cons, List.map_nil, List.cons_append, List.nil_append, List.length_cons, List.length_nil, List.replicate_succ, List.replicate_zero, clr, List.set_cons_zero, List.set_cons_succ, Nat.reduceAdd, Nat.reduceSub, Nat.reduceLT, Nat.reduceLeDiff, if_true, if_false, ↓reduceIte, ite_true, oMap_some, dAdd_i, dSub_i, dEq_i, dNe_i, dEq_s, dLt_i, dLe_i, dGt_i, dGe_i, dMod_i _ 8 (by decide), dDiv_i _ 8 (by decide) (by decide), dMod_i _ (1 + c % 8) (by omega)]
  obtain ⟨n, hn⟩ : ∃ n : Nat, 1 + c % 8 = n := ⟨(1 + c % 8).toNat, by omega⟩
  rw [hn]
  have key : ∃ ρ', L2__law_words [some (.F, .int c), some (.F, .int (m : Nat)), some (.F, .str alph), some (.F, .int (n : Nat)), some (.F, .int (c / 8 % (n : Nat))), some (.o, .list []), none, none, none] = some (.nx ρ') ∧
      ∃ ws x6 x7 x8, ws.length = m ∧ Short 8 ws ∧ ρ' = [some (.F, .int c), some (.F, .int (m : Nat)), some (.F, .str alph), some (.F, .int (n : Nat)), some (.F, .int (c / 8 % (n : Nat))), some (.o, .list (ws.map .str)), x6, x7, x8] := by
    rw [e_L2__law_words]
    refine sForR_inv (fun i ρ => ∃ ws x6 x7 x8, ws.length = i ∧ Short 8 ws ∧ ρ = [some (.F, .int c), some (.F, .int (m : Nat)), some (.F, .str alph), some (.F, .int (n : Nat)), some (.F, .int (c / 8 % (n : Nat))), some (.o, .list (ws.map .str)), x6, x7, x8]) ?_ ?_ ?_
    · exact fRange1_n (n := m) rfl (by omega)
    · exact ⟨[], none, none, none, rfl, (fun _ h => nomatch h), rfl⟩
    · rintro i ρ hi ⟨ws, x6, x7, x8, hw, hs, rfl⟩
      obtain ⟨ρ', h1, w, y8, hl, hlo, rfl⟩ := word_loop c i (c / 8 % (n : Nat)) n (by omega) (by omega) (by omega) (some (.F, .int (m : Nat))) (some (.o, .list (ws.map .str))) x8
      refine ⟨_, _, rfl, .inl ?_, ws ++ [w], some (.F, .int (i : Nat)), some (.F, .str w), y8, by rw [List.length_append, hw]; rfl, ?_, rfl⟩
      · have h1' : L1__law_words [some (.F, .int c), some (.F, .int (m : Nat)), some (.F, .str alph), some (.F, .int (n : Nat)), some (.F, .int (c / 8 % (n : Nat))), some (.o, .list (ws.map .str)), some (.F, .int (i : Nat)), some (.F, .str ""), x8] = _ := h1
        simp only [runD, sSeq, sNil, sAsg, sRet, sRetN, sIf, sFor, sExp, sFz, fz, sApp, sSet, sNo, sPass, sBrk, sCnt, fVar, fVarF, fVarC, fC, fBin, fUn, fIf, fB, bOf_b, cAnd, cOr, cNot, fCall, fApp, aCons, aNil, fLst, fTup, bName, bTup, bCons, bNil, sAsgT, List.getD_cons_zero, List.getD_cons_succ, List.map_cons, List.map_nil, List.cons_append, List.nil_append, List.length_cons, List.length_nil, List.replicate_succ, List.replicate_zero, clr, List.set_cons_zero, List.set_cons_succ, Nat.reduceAdd, Nat.reduceSub, Nat.reduceLT, Nat.reduceLeDiff, if_true, if_false, ↓reduceIte, ite_true, oMap_some, dAdd_i, dSub_i, dEq_i, dNe_i, dEq_s, dLt_i, dLe_i, dGt_i, dGe_i, h1', List.length_map, hw]
        rw [if_pos ⟨trivial, by omega⟩, List.map_append]
        rfl
      · intro x hx
        rcases List.mem_append.mp hx with h | h
        · exact hs x h
        · rw [List.mem_singleton] at h; subst h; exact ⟨by omega, hlo⟩
  obtain ⟨ρ', h1, ws, x6, x7, x8, hl, hs, rfl⟩ := key
  refine ⟨ws, hl, hs, ?_⟩
  have h1' : L2__law_words [some (.F, .int c), some (.F, .int (m : Nat)), some (.F, .str "abcdefghijklmnopqrstuvwxyz"), some (.F, .int (n : Nat)), some (.F, .int (c / 8 % (n : Nat))), some (.o, .list []), none, none, none] = _ := h1
  simp only [runD, sSeq, sNil, sAsg, sRet, sRetN, sIf, sFor, sExp, sFz, fz, sApp, sSet, sNo, sPass, sBrk, sCnt, fVar, fVarF, fVarC, fC, fBin, fUn, fIf, fB, bOf_b, cAnd, cOr, cNot, fCall, fApp, aCons, aNil, fLst, fTup, bName, bTup, bCons, bNil, sAsgT, List.getD_cons_zero, List.getD_cons_succ, List.map_cons, List.map_nil, List.cons_append, List.nil_append, List.length_cons, List.length_nil, List.replicate_succ, List.replicate_zero, clr, List.set_cons_zero, List.set_cons_succ, Nat.reduceAdd, Nat.reduceSub, Nat.reduceLT, Nat.reduceLeDiff, if_true, if_false, ↓reduceIte, ite_true, oMap_some, dAdd_i, dSub_i, dEq_i, dNe_i, dEq_s, dLt_i, dLe_i, dGt_i, dGe_i, h1']
/-! ### rules -/
structure Rl where
  sides : Int
  ws : List Str
  rooms : List (List (Option Nat))
def Rl.ok (q : Rl) : Prop := ∀ r ∈ q.rooms, r.length = q.ws.length ∧ ∀ t, some t ∈ r → t < q.rooms.length
def encR (rooms : List (List (Option Nat))) : D := .list (rooms.map fun r => .list (r.map encO))
def enc (q : Rl) : D := .tuple [.int q.sides, .list (q.ws.map .str), encR q.rooms]
def nxt (q : Rl) (room : Nat) (w : Str) : Option Nat := match q.ws.findIdx? fun z => decide (z = w) with
  | none => some room
  | some j => (q.rooms.getD room []).getD j none
theorem find_mem {w : Str} {ws : List Str} : (ws.findIdx? fun z => decide (z = w)) = none ↔ w ∉ ws := by
  rw [List.findIdx?_eq_none_iff]
  constructor
  · intro h hm
    have := h w hm
    simp at this
  · intro h x hx
    rw [decide_eq_false_iff_not]
    intro e
    subst e
    exact h hx
theorem nxt_at {q : Rl} (hq : q.ok) {room j : Nat} {w : Str} (hr : room < q.rooms.length) (hj : (q.ws.findIdx? fun z => decide (z = w)) = some j) :
    fBin dIx (fBin dIx (fBin dIx (fVarC 0) (fC (.int 2))) (fVar 1)) (fBin dIndex (fBin dIx (fVar 0) (fC (.int 1))) (fVar 2)) [some (.F, enc q), some (.F, .int (room : Nat)), some (.F, .str w)] = some (encO (nxt q room w)) := by
  have h2 : dIx (enc q) (.int 2) = some (encR q.rooms) := rfl
  have h1 : dIx (enc q) (.int 1) = some (.list (q.ws.map .str)) := rfl
  have h3 : dIx (encR q.rooms) (.int (room : Nat)) = some (.list (q.rooms[room].map encO)) := by
    unfold encR
    rw [dIx_l (by simpa using hr)]
    simp
  have hlen := (hq _ (List.getElem_mem hr)).1
  have hjl : j < q.rooms[room].length := by
    rw [hlen]
    exact (List.findIdx?_eq_some_iff_getElem.mp hj).1
  have h4 : dIx (.list (q.rooms[room].map encO)) (.int (j : Nat)) = some (encO (nxt q room w)) := by
    rw [dIx_l (by simpa using hjl)]
    unfold nxt
    rw [hj]
    simp [hr, hjl]
  have h5 : fVarC 0 [some (.F, enc q), some (.F, .int (room : Nat)), some (.F, .str w)] = some (enc q) := rfl
  simp only [runD, sSeq, sNil, sAsg, sRet, sRetN, sIf, sFor, sExp, sFz, fz, sApp, sSet, sNo, sPass, sBrk, sCnt, fVar, fVarF, fVarC, fC, fBin, fUn, fIf, fB, bOf_b, cAnd, cOr, cNot, fCall, fApp, aCons, aNil, fLst, fTup, bName, bTup, bCons, bNil, sAsgT, List.getD_cons_zero, List.getD_cons_succ, List.map_cons, List.map_nil, List.cons_append, List.nil_append, List.length_cons, List.length_nil, List.replicate_succ, List.replicate_zero, clr, List.set_cons_zero, List.set_cons_succ, Nat.reduceAdd, Nat.reduceSub, Nat.reduceLT, Nat.reduceLeDiff, if_true, if_false, ↓reduceIte, ite_true, oMap_some, dAdd_i, dSub_i, dEq_i, dNe_i, dEq_s, dLt_i, dLe_i, dGt_i, dGe_i, h1, h2, h3, h4, h5, dIndex_strs, hj]
theorem next_ok {q : Rl} (hq : q.ok) {room : Nat} (hr : room < q.rooms.length) (w : Str) : f_next_room [enc q, .int (room : Nat), .str w] = some (encO (nxt q room w)) := by
  rw [e_next_room]; unfold c_next_room
  have h1 : dIx (enc q) (.int 1) = some (.list (q.ws.map .str)) := rfl
  cases hj : q.ws.findIdx? fun z => decide (z = w) with
  | none =>
    simp only [runD, sSeq, sNil, sAsg, sRet, sRetN, sIf, sFor, sExp, sFz, fz, sApp, sSet, sNo, sPass, sBrk, sCnt, fVar, fVarF, fVarC, fC, fBin, fUn, fIf, fB, bOf_b, cAnd, cOr, cNot, fCall, fApp, aCons, aNil, fLst, fTup, bName, bTup, bCons, bNil, sAsgT, List.getD_cons_zero, List.getD_cons_succ, List.map_cons, List.map_nil, List.cons_append, List.nil_append, List.length_cons, List.length_nil, List.replicate_succ, List.replicate_zero, clr, List.set_cons_zero, List.set_cons_succ, Nat.reduceAdd, Nat.reduceSub, Nat.reduceLT, Nat.reduceLeDiff, if_true, if_false, ↓reduceIte, ite_true, oMap_some, dAdd_i, dSub_i, dEq_i, dNe_i, dEq_s, dLt_i, dLe_i, dGt_i, dGe_i, h1, dNotIn_strs, decide_eq_false (find_mem.mp hj), Bool.not_false]
    unfold nxt
    rw [hj]
    rfl
  | some j =>
    have hm : w ∈ q.ws := Classical.byContradiction fun h => by rw [find_mem.mpr h] at hj; cases hj
    have k := nxt_at hq hr hj
    simp only [runD, sSeq, sNil, sAsg, sRet, sRetN, sIf, sFor, sExp, sFz, fz, sApp, sSet, sNo, sPass, sBrk, sCnt, fVar, fVarF, fVarC, fC, fBin, fUn, fIf, fB, bOf_b, cAnd, cOr, cNot, fCall, fApp, aCons, aNil, fLst, fTup, bName, bTup, bCons, bNil, sAsgT, List.getD_cons_zero, List.getD_cons_succ, List.map_cons, List.map_nil, List.cons_append, List.nil_append, List.length_cons, List.length_nil, List.replicate_succ, List.replicate_zero, clr, List.set_cons_zero, List.set_cons_succ, Nat.reduceAdd, Nat.reduceSub, Nat.reduceLT, Nat.reduceLeDiff, if_true, if_false, ↓reduceIte, ite_true, oMap_some, dAdd_i, dSub_i, dEq_i, dNe_i, dEq_s, dLt_i, dLe_i, dGt_i, dGe_i, h1, dNotIn_strs, decide_eq_true hm, Bool.not_true] at k ⊢
    rw [k]
theorem law_next_ok {q : Rl} (hq : q.ok) {room : Nat} (hr : room < q.rooms.length) (w : Str) : f__law_next [enc q, .int (room : Nat), .str w] = some (encO (nxt q room w)) := by
  rw [e__law_next]; unfold c__law_next
  have h1 : dIx (enc q) (.int 1) = some (.list (q.ws.map .str)) := rfl
  cases hj : q.ws.findIdx? fun z => decide (z = w) with
  | none =>
    simp only [runD, sSeq, sNil, sAsg, sRet, sRetN, sIf, sFor, sExp, sFz, fz, sApp, sSet, sNo, sPass, sBrk, sCnt, fVar, fVarF, fVarC, fC, fBin, fUn, fIf, fB, bOf_b, cAnd, cOr, cNot, fCall, fApp, aCons, aNil, fLst, fTup, bName, bTup, bCons, bNil, sAsgT, List.getD_cons_zero, List.getD_cons_succ, List.map_cons, List.map_nil, List.cons_append, List.nil_append, List.length_cons, List.length_nil, List.replicate_succ, List.replicate_zero, clr, List.set_cons_zero, List.set_cons_succ, Nat.reduceAdd, Nat.reduceSub, Nat.reduceLT, Nat.reduceLeDiff, if_true, if_false, ↓reduceIte, ite_true, oMap_some, dAdd_i, dSub_i, dEq_i, dNe_i, dEq_s, dLt_i, dLe_i, dGt_i, dGe_i, h1, dIn_strs, decide_eq_false (find_mem.mp hj)]
    unfold nxt
    rw [hj]
    rfl
  | some j =>
    have hm : w ∈ q.ws := Classical.byContradiction fun h => by rw [find_mem.mpr h] at hj; cases hj
    have k := nxt_at hq hr hj
    simp only [runD, sSeq, sNil, sAsg, sRet, sRetN, sIf, sFor, sExp, sFz, fz, sApp, sSet, sNo, sPass, sBrk, sCnt, fVar, fVarF, fVarC, fC, fBin, fUn, fIf, fB, bOf_b, cAnd, cOr, cNot, fCall, fApp, aCons, aNil, fLst, fTup, bName, bTup, bCons, bNil, sAsgT, List.getD_cons_zero, List.getD_cons_succ, List.map_cons, List.map_nil, List.cons_append, List.nil_append, List.length_cons, List.length_nil, List.replicate_succ, List.replicate_zero, clr, List.set_cons_zero, List.set_cons_succ, Nat.reduceAdd, Nat.reduceSub, Nat.reduceLT, Nat.reduceLeDiff, if_true, if_false, ↓reduceIte, ite_true, oMap_some, dAdd_i, dSub_i, dEq_i, dNe_i, dEq_s, dLt_i, dLe_i, dGt_i, dGe_i, h1, dIn_strs, decide_eq_true hm] at k ⊢
    rw [k]
theorem nxt_lt {q : Rl} (hq : q.ok) {room t : Nat} {w : Str} (hr : room < q.rooms.length) (h : nxt q room w = some t) : t < q.rooms.length := by
  unfold nxt at h
  split at h
  · cases h; exact hr
  · rename_i j hj
    have h0 : q.rooms.getD room [] = q.rooms[room] := by simp [hr]
    rw [h0] at h
    refine (hq _ (List.getElem_mem hr)).2 t ?_
    by_cases hl : j < q.rooms[room].length
    · have : q.rooms[room].getD j none = q.rooms[room][j] := by simp [hl]
      rw [this] at h
      rw [← h]
      exact List.getElem_mem hl
    · have : q.rooms[room].getD j none = none := by simp [List.getD_eq_getElem?_getD, List.getElem?_eq_none (by omega : q.rooms[room].length ≤ j)]
      rw [this] at h; cases h
end K82

set_option Elab.async false
set_option linter.all false
set_option maxRecDepth 100000
namespace K82
open PySem PySem.Spec PyProof.Rows L2 DI
/-! ### the room behind a row, the first breach -/
def after (q : Rl) : Nat → List Str → Option Nat
  | r, [] => some r
  | r, w :: ws => match nxt q r w with
    | none => none
    | some t => after q t ws
def brkAt (q : Rl) : Nat → List Str → Option Nat
  | _, [] => none
  | r, w :: ws => match nxt q r w with
    | none => some 0
    | some t => (brkAt q t ws).map (· + 1)
def LD (ws : List Str) : D := .list (ws.map .str)
theorem after_loop {q : Rl} (hq : q.ok) (row : Option (Md × D)) : ∀ (ws : List Str) (r : Nat) (x3 : Option (Md × D)), r < q.rooms.length →
    ∃ x3', fLoop (bName 3) (sSeq (sAsg 2 .F (fCall 3 f_next_room (aCons (fVarF 0) (aCons (fVarF 2) (aCons (fVarF 3) aNil)))) []) (sIf (fun ρ => bOf (fBin dIsN (fVar 2) (fC .none) ρ)) (sRet (fC .none) []) sNil)) (ws.map .str) [some (.F, enc q), row, some (.F, .int (r : Nat)), x3] =
      match after q r ws with
      | some t => some (.nx [some (.F, enc q), row, some (.F, .int (t : Nat)), x3'])
      | none => some (.rt .none [some (.F, enc q), row, some (.F, .none), x3'])
  | [], r, x3, _ => ⟨x3, rfl⟩
  | w :: ws, r, x3, hr => by
    cases hn : nxt q r w with
    | none =>
      refine ⟨some (.F, .str w), ?_⟩
      unfold after
      rw [hn, List.map_cons]
      exact fLoop_rt rfl (by simp only [runD, sSeq, sNil, sAsg, sRet, sRetN, sIf, sFor, sExp, sFz, fz, sApp, sSet, sNo, sPass, sBrk, sCnt, fVar, fVarF, fVarC, fC, fBin, fUn, fIf, fB, bOf_b, cAnd, cOr, cNot, fCall, fApp, aCons, aNil, fLst, fTup, bName, bTup, bCons, bNil, sAsgT, List.getD_cons_zero, List.getD_cons_succ, List.map_cons, List.map_nil, List.cons_append, List.nil_append, List.length_cons, List.length_nil, List.replicate_succ, List.replicate_zero, clr, List.set_cons_zero, List.set_cons_succ, Nat.reduceAdd, Nat.reduceSub, Nat.reduceLT, Nat.reduceLeDiff, if_true, if_false, ↓reduceIte, ite_true, oMap_some, dAdd_i, dSub_i, dEq_i, dNe_i, dEq_s, dLt_i, dLe_i, dGt_i, dGe_i, next_ok hq hr w, hn, encO, dIsN_n, DI.isNon])
    | some t =>
      obtain ⟨x3', h⟩ := after_loop hq row ws t (some (.F, .str w)) (nxt_lt hq hr hn)
      refine ⟨x3', ?_⟩
      unfold after
      rw [hn]
      dsimp only
      rw [← h, List.map_cons]
      exact fLoop_nx rfl (by simp only [runD, sSeq, sNil, sAsg, sRet, sRetN, sIf, sFor, sExp, sFz, fz, sApp, sSet, sNo, sPass, sBrk, sCnt, fVar, fVarF, fVarC, fC, fBin, fUn, fIf, fB, bOf_b, cAnd, cOr, cNot, fCall, fApp, aCons, aNil, fLst, fTup, bName, bTup, bCons, bNil, sAsgT, List.getD_cons_zero, List.getD_cons_succ, List.map_cons, List.map_nil, List.cons_append, List.nil_append, List.length_cons, List.length_nil, List.replicate_succ, List.replicate_zero, clr, List.set_cons_zero, List.set_cons_succ, Nat.reduceAdd, Nat.reduceSub, Nat.reduceLT, Nat.reduceLeDiff, if_true, if_false, ↓reduceIte, ite_true, oMap_some, dAdd_i, dSub_i, dEq_i, dNe_i, dEq_s, dLt_i, dLe_i, dGt_i, dGe_i, next_ok hq hr w, hn, encO, dIsN_n, DI.isNon])
theorem room_after_ok {q : Rl} (hq : q.ok) (h0 : 0 < q.rooms.length) (ws : List Str) : f_room_after [enc q, LD ws] = some (encO (after q 0 ws)) := by
  rw [e_room_after]; unfold c_room_after
  obtain ⟨x3, h⟩ := after_loop hq (some (.F, LD ws)) ws 0 none h0
  have hL := (congrFun e_L1_room_after [some (.F, enc q), some (.F, LD ws), some (.F, .int 0), none]).trans h
  simp only [runD, sSeq, sNil, sAsg, sRet, sRetN, sIf, sFor, sExp, sFz, fz, sApp, sSet, sNo, sPass, sBrk, sCnt, fVar, fVarF, fVarC, fC, fBin, fUn, fIf, fB, bOf_b, cAnd, cOr, cNot, fCall, fApp, aCons, aNil, fLst, fTup, bName, bTup, bCons, bNil, sAsgT, List.getD_cons_zero, List.getD_cons_succ, List.map_cons, List.map_nil, List.cons_append, List.nil_append, List.length_cons, List.length_nil, List.replicate_succ, List.replicate_zero, clr, List.set_cons_zero, List.set_cons_succ, Nat.reduceAdd, Nat.reduceSub, Nat.reduceLT, Nat.reduceLeDiff, if_true, if_false, ↓reduceIte, ite_true, oMap_some, dAdd_i, dSub_i, dEq_i, dNe_i, dEq_s, dLt_i, dLe_i, dGt_i, dGe_i, hL]
  cases after q 0 ws with
  | none => rfl
  | some t => rfl
theorem upto_loop {q : Rl} (hq : q.ok) (row : List Str) : ∀ (ws : List Str) (k r : Nat) (x3 x4 : Option (Md × D)), r < q.rooms.length → row.drop k = ws →
    ∃ ρ', fLoop (bTup 2 (bCons (bName 3) (bCons (bName 4) bNil))) (sSeq (sAsg 2 .F (fCall 3 f__law_next (aCons (fVarF 0) (aCons (fVarF 2) (aCons (fVarF 4) aNil)))) []) (sIf (fun ρ => bOf (fBin dIsN (fVar 2) (fC .none) ρ)) (sRet (fSl dSlL (fVarC 1) oN (oS (fBin dAdd (fVar 3) (fC (.int 1))))) []) sNil))
      (((ws.map PyData.str).zipIdx k).map fun p => .tuple [.int (p.2 : Nat), p.1]) [some (.F, enc q), some (.F, LD row), some (.F, .int (r : Nat)), x3, x4] =
      match brkAt q r ws with
      | some j => some (.rt (LD (row.take (k + j + 1))) ρ')
      | none => some (.nx ρ')
  | [], k, r, x3, x4, _, _ => ⟨_, rfl⟩
  | w :: ws, k, r, x3, x4, hr, hd => by
    cases hn : nxt q r w with
    | none =>
      refine ⟨[some (.F, enc q), some (.F, LD row), some (.F, .none), some (.F, .int (k : Nat)), some (.F, .str w)], ?_⟩
      unfold brkAt
      rw [hn, List.map_cons, List.zipIdx_cons, List.map_cons]
      have hk : k < row.length := by
        have := congrArg List.length hd
        rw [List.length_drop, List.length_cons] at this
        omega
      have hs : dSlL (LD row) none (some ((k : Int) + 1)) = some (LD (row.take (k + 0 + 1))) := by
        show some (PyData.list (DI.cutD (row.map .str) none (some ((k : Int) + 1)))) = _
        unfold DI.cutD LD
        rw [HT.sIx_none, List.drop_zero, show ((k : Int) + 1) = ((k + 1 : Nat) : Int) by omega, HT.sIx_nat, List.length_map, Nat.min_eq_left hk, Nat.sub_zero, List.map_take]
      exact fLoop_rt rfl (by simp only [runD, sSeq, sNil, sAsg, sRet, sRetN, sIf, sFor, sExp, sFz, fz, sApp, sSet, sNo, sPass, sBrk, sCnt, fVar, fVarF, fVarC, fC, fBin, fUn, fIf, fB, bOf_b, cAnd, cOr, cNot, fCall, fApp, aCons, aNil, fLst, fTup, bName, bTup, bCons, bNil, sAsgT, List.getD_cons_zero, List.getD_cons_succ, List.map_cons, List.map_nil, List.cons_append, List.nil_append, List.length_cons, List.length_nil, List.replicate_succ, List.replicate_zero, clr, List.set_cons_zero, List.set_cons_succ, Nat.reduceAdd, Nat.reduceSub, Nat.reduceLT, Nat.reduceLeDiff, if_true, if_false, ↓reduceIte, ite_true, oMap_some, dAdd_i, dSub_i, dEq_i, dNe_i, dEq_s, dLt_i, dLe_i, dGt_i, dGe_i, law_next_ok hq hr w, hn, encO, dIsN_n, DI.isNon, fSl, oN, oS, hs])
    | some t =>
      have hd' : row.drop (k + 1) = ws := by rw [← List.drop_drop, hd]; rfl
      obtain ⟨ρ', h⟩ := upto_loop hq row ws (k + 1) t (some (.F, .int (k : Nat))) (some (.F, .str w)) (nxt_lt hq hr hn) hd'
      refine ⟨ρ', ?_⟩
      unfold brkAt
      rw [hn, List.map_cons, List.zipIdx_cons, List.map_cons]
      refine Eq.trans (fLoop_nx (ρ2 := [some (.F, enc q), some (.F, LD row), some (.F, .int (t : Nat)), some (.F, .int (k : Nat)), some (.F, .str w)]) rfl (by simp only [runD, sSeq, sNil, sAsg, sRet, sRetN, sIf, sFor, sExp, sFz, fz, sApp, sSet, sNo, sPass, sBrk, sCnt, fVar, fVarF, fVarC, fC, fBin, fUn, fIf, fB, bOf_b, cAnd, cOr, cNot, fCall, fApp, aCons, aNil, fLst, fTup, bName, bTup, bCons, bNil, sAsgT, List.getD_cons_zero, List.getD_cons_succ, List.map_cons, List.map_nil, List.cons_append, List.nil_append, List.length_cons, List.length_nil, List.replicate_succ, List.replicate_zero, clr, List.set_cons_zero, List.set_cons_succ, Nat.reduceAdd, Nat.reduceSub, Nat.reduceLT, Nat.reduceLeDiff, if_true, if_false, ↓reduceIte, ite_true, oMap_some, dAdd_i, dSub_i, dEq_i, dNe_i, dEq_s, dLt_i, dLe_i, dGt_i, dGe_i, law_next_ok hq hr w, hn, encO, dIsN_n, DI.isNon])) ?_
      rw [h]
      dsimp only
      cases brkAt q t ws with
      | none => rfl
      | some j =>
        show some (Out.rt (LD (row.take (k + 1 + j + 1))) ρ') = some (Out.rt (LD (row.take (k + (j + 1) + 1))) ρ')
        rw [show k + 1 + j + 1 = k + (j + 1) + 1 by omega]
theorem upto_ok {q : Rl} (hq : q.ok) (h0 : 0 < q.rooms.length) (ws : List Str) : f__law_upto_breach [enc q, LD ws] = some (match brkAt q 0 ws with | none => .none | some k => LD (ws.take (k + 1))) := by
  rw [e__law_upto_breach]; unfold c__law_upto_breach
  obtain ⟨ρ', h⟩ := upto_loop hq ws ws 0 0 none none h0 rfl
  have hL := (congrFun e_L1__law_upto_breach [some (.F, enc q), some (.F, LD ws), some (.F, .int 0), none, none]).trans h
  simp only [runD, sSeq, sNil, sAsg, sRet, sRetN, sIf, sFor, sExp, sFz, fz, sApp, sSet, sNo, sPass, sBrk, sCnt, fVar, fVarF, fVarC, fC, fBin, fUn, fIf, fB, bOf_b, cAnd, cOr, cNot, fCall, fApp, aCons, aNil, fLst, fTup, bName, bTup, bCons, bNil, sAsgT, List.getD_cons_zero, List.getD_cons_succ, List.map_cons, List.map_nil, List.cons_append, List.nil_append, List.length_cons, List.length_nil, List.replicate_succ, List.replicate_zero, clr, List.set_cons_zero, List.set_cons_succ, Nat.reduceAdd, Nat.reduceSub, Nat.reduceLT, Nat.reduceLeDiff, if_true, if_false, ↓reduceIte, ite_true, oMap_some, dAdd_i, dSub_i, dEq_i, dNe_i, dEq_s, dLt_i, dLe_i, dGt_i, dGe_i, hL]
  cases brkAt q 0 ws with
  | none => rfl
  | some k =>
    show some (LD (ws.take (0 + k + 1))) = some (LD (ws.take (k + 1)))
    rw [Nat.zero_add]
/-! ### does it break now -/
def OkS (ws : List Str) : Prop := ∀ w ∈ ws, PyData.strOk w = true
theorem canLay_strs {ws : List Str} (h : OkS ws) : PyData.canLayAll0 (ws.map .str) = true := by
  induction ws with
  | nil => rfl
  | cons w ws ih =>
    rw [List.map_cons, PyData.canLayAll0, ih fun x hx => h x (List.mem_cons_of_mem _ hx), PyData.canLay0, h w List.mem_cons_self]
    rfl
theorem depth_strs : ∀ ws : List Str, PyData.depthAll (ws.map .str) ≤ 1
  | [] => by simp [PyData.depthAll]
  | w :: ws => by
    have := depth_strs ws
    simp only [List.map_cons, PyData.depthAll, PyData.depth]
    omega
theorem shaped_LD {ws : List Str} (h : OkS ws) : SeqAt.shaped (LD ws) = true := by
  have := depth_strs ws
  unfold SeqAt.shaped LD
  rw [Bool.and_eq_true]
  refine ⟨by rw [PyData.canLay0, canLay_strs h], decide_eq_true ?_⟩
  rw [PyData.depth]
  omega
theorem dNe_LD {ws : List Str} (h : OkS ws) : dNe (LD ws) (.list []) = some (.bool (!ws.isEmpty)) := by
  have h1 := shaped_LD h
  have h2 : SeqAt.shaped (.list []) = true := by decide +kernel
  show ((if SeqAt.shaped (LD ws) && SeqAt.shaped (.list []) then some (PyData.eqv (LD ws) (.list [])) else none).map fun b => PyData.bool !b) = _
  rw [h1, h2]
  cases ws with
  | nil => rfl
  | cons w ws => rfl
theorem breaks_ok {q : Rl} (hq : q.ok) (h0 : 0 < q.rooms.length) (ws : List Str) (hw : OkS ws) : f_breaks_now [enc q, LD ws] = some (.bool (!ws.isEmpty && (after q 0 ws.dropLast).isSome && (after q 0 ws).isNone)) := by
  rw [e_breaks_now]; unfold c_breaks_now
  have hs : dSlL (LD ws) none (some (-1)) = some (LD ws.dropLast) := by
    show some (PyData.list (DI.cutD (ws.map .str) none (some (-1)))) = _
    unfold DI.cutD LD
    rw [HT.sIx_none, List.drop_zero, Nat.sub_zero, List.length_map]
    have e : HT.sIx ws.length ws.length (some (-1)) = ws.length - 1 := by
      show (if (-1 : Int) < 0 then ((-1 : Int) + (ws.length : Int)).toNat else min (-1 : Int).toNat ws.length) = _
      rw [if_pos (by decide)]; omega
    rw [e, List.dropLast_eq_take, List.map_take]
  have hn : dNeg (.int 1) = some (.int (-1)) := rfl
  simp only [runD, sSeq, sNil, sAsg, sRet, sRetN, sIf, sFor, sExp, sFz, fz, sApp, sSet, sNo, sPass, sBrk, sCnt, fVar, fVarF, fVarC, fC, fBin, fUn, fIf, fB, bOf_b, cAnd, cOr, cNot, fCall, fApp, aCons, aNil, fLst, fTup, bName, bTup, bCons, bNil, sAsgT, List.getD_cons_zero, List.getD_cons_succ, List.map_cons, List.map_nil, List.cons_append, List.nil_append, List.length_cons, List.length_nil, List.replicate_succ, List.replicate_zero, clr, List.set_cons_zero, List.set_cons_succ, Nat.reduceAdd, Nat.reduceSub, Nat.reduceLT, Nat.reduceLeDiff, if_true, if_false, ↓reduceIte, ite_true, oMap_some, dAdd_i, dSub_i, dEq_i, dNe_i, dEq_s, dLt_i, dLe_i, dGt_i, dGe_i, dNe_LD hw, fSl, oN, oS, hn, hs, room_after_ok hq h0, dIsN_n, dNotN_n, isNon_encO]
  cases ws.isEmpty <;> cases after q 0 ws.dropLast <;> cases after q 0 ws <;> rfl
end K82

set_option Elab.async false
set_option linter.all false
set_option maxRecDepth 100000
namespace K82
open PySem PySem.Spec PyProof.Rows L2 DI
/-! ### the table of steps left -/
def encT (xs : List (Option Nat)) : D := .list (xs.map encO)
/-- the fewest steps to the breach by the letters xs and then w -/
def tb (q : Rl) (w : Str) : List Str → Nat → Option Nat
  | [], r => if nxt q r w = none then some 1 else none
  | x :: xs, r => match nxt q r x with
    | none => tb q w xs r
    | some t => match tb q w xs t with
      | none => tb q w xs r
      | some b => match tb q w xs r with
        | none => some (b + 1)
        | some f => if b + 1 ≤ f then some (b + 1) else some f
def rowT (q : Rl) (w : Str) (xs : List Str) : List (Option Nat) := (List.range q.rooms.length).map (tb q w xs)
theorem rowT_ix {q : Rl} {w : Str} {xs : List Str} {t : Nat} (h : t < q.rooms.length) : dIx (encT (rowT q w xs)) (.int (t : Nat)) = some (encO (tb q w xs t)) := by
  unfold encT rowT
  rw [dIx_l (by simpa using h)]
  simp
def Ef (q : Rl) (w x : Str) (xs : List Str) (i : Nat) (x4 x5 x6 : Option (Md × D)) : En := [some (.F, enc q), some (.F, .str x), some (.F, encT (rowT q w xs)), some (.o, .list ((List.range i).map fun r => encO (tb q w (x :: xs) r))), x4, x5, x6]
theorem fewer_step {i : Nat} (L : List D) (d : D) (x0 x1 x2 x4 x5 x6 : Option (Md × D)) (hl : L.length < 1000000) (h5 : x5 = some (.F, d)) : sApp 3 .o (fVarF 5) [] [x0, x1, x2, some (.o, .list L), x4, x5, x6] = some (.nx [x0, x1, x2, some (.o, .list (L ++ [d])), x4, x5, x6]) := by
  subst h5
  simp only [runD, sSeq, sNil, sAsg, sRet, sRetN, sIf, sFor, sExp, sFz, fz, sApp, sSet, sNo, sPass, sBrk, sCnt, fVar, fVarF, fVarC, fC, fBin, fUn, fIf, fB, bOf_b, cAnd, cOr, cNot, fCall, fApp, aCons, aNil, fLst, fTup, bName, bTup, bCons, bNil, sAsgT, List.getD_cons_zero, List.getD_cons_succ, List.map_cons, List.map_nil, List.cons_append, List.nil_append, List.length_cons, List.length_nil, List.replicate_succ, List.replicate_zero, clr, List.set_cons_zero, List.set_cons_succ, Nat.reduceAdd, Nat.reduceSub, Nat.reduceLT, Nat.reduceLeDiff, if_true, if_false, ↓reduceIte, ite_true, oMap_some, dAdd_i, dSub_i, dEq_i, dNe_i, dEq_s, dLt_i, dLe_i, dGt_i, dGe_i]
  rw [if_pos ⟨trivial, hl⟩]
theorem fewer_loop {q : Rl} (hq : q.ok) (hm : q.rooms.length ≤ 1000) (w x : Str) (xs : List Str) : ∃ ρ', L1_fewer (Ef q w x xs 0 none none none) = some (.nx ρ') ∧ ∃ x4 x5 x6, ρ' = Ef q w x xs q.rooms.length x4 x5 x6 := by
  rw [e_L1_fewer]
  refine sForR_inv (fun i ρ => ∃ x4 x5 x6, ρ = Ef q w x xs i x4 x5 x6) ?_ ?_ ?_
  · refine fRange1_n (n := q.rooms.length) ?_ (by omega)
    have h2 : dIx (enc q) (.int 2) = some (encR q.rooms) := rfl
    have h3 : dLen [encR q.rooms] = some (.int (q.rooms.length : Nat)) := by
      show some (PyData.int (((q.rooms.map fun r => PyData.list (r.map encO)).length : Nat) : Int)) = _
      rw [List.length_map]
    unfold Ef
    simp only [runD, sSeq, sNil, sAsg, sRet, sRetN, sIf, sFor, sExp, sFz, fz, sApp, sSet, sNo, sPass, sBrk, sCnt, fVar, fVarF, fVarC, fC, fBin, fUn, fIf, fB, bOf_b, cAnd, cOr, cNot, fCall, fApp, aCons, aNil, fLst, fTup, bName, bTup, bCons, bNil, sAsgT, List.getD_cons_zero, List.getD_cons_succ, List.map_cons, List.map_nil, List.cons_append, List.nil_append, List.length_cons, List.length_nil, List.replicate_succ, List.replicate_zero, clr, List.set_cons_zero, List.set_cons_succ, Nat.reduceAdd, Nat.reduceSub, Nat.reduceLT, Nat.reduceLeDiff, if_true, if_false, ↓reduceIte, ite_true, oMap_some, dAdd_i, dSub_i, dEq_i, dNe_i, dEq_s, dLt_i, dLe_i, dGt_i, dGe_i, h2, h3]
  · exact ⟨none, none, none, rfl⟩
  · rintro i ρ hi ⟨x4, x5, x6, rfl⟩
    have hr := rowT_ix (w := w) (xs := xs) hi
    have hn := next_ok hq hi x
    have ec : fVarC 2 [some (.F, enc q), some (.F, .str x), some (.F, encT (rowT q w xs)), some (.o, .list ((List.range i).map fun r => encO (tb q w (x :: xs) r))), some (.F, .int (i : Nat)), x5, x6] = some (encT (rowT q w xs)) := rfl
    have hL : ((List.range i).map fun r => encO (tb q w (x :: xs) r)).length < 1000000 := by rw [List.length_map, List.length_range]; omega
    have fin : ∀ x4 x5 x6 d, x5 = some (.F, d) → d = encO (tb q w (x :: xs) i) → sApp 3 .o (fVarF 5) [] [some (.F, enc q), some (.F, .str x), some (.F, encT (rowT q w xs)), some (.o, .list ((List.range i).map fun r => encO (tb q w (x :: xs) r))), x4, x5, x6] = some (.nx (Ef q w x xs (i + 1) x4 x5 x6)) := fun x4 x5 x6 d h5 hd => by
      rw [fewer_step (i := i) _ d _ _ _ _ _ _ hL h5, hd]
      unfold Ef
      rw [List.range_succ, List.map_append]
      rfl
    have hI : ∀ x4 x5 x6, ∃ y4 y5 y6, Ef q w x xs (i + 1) x4 x5 x6 = Ef q w x xs (i + 1) y4 y5 y6 := fun x4 x5 x6 => ⟨x4, x5, x6, rfl⟩
    cases ht : nxt q i x with
    | none =>
      have hd : encO (tb q w xs i) = encO (tb q w (x :: xs) i) := by rw [tb, ht]
      refine ⟨_, Ef q w x xs (i + 1) (some (.F, .int (i : Nat))) (some (.F, encO (tb q w xs i))) (some (.F, .none)), rfl, .inl ?_, _, _, _, rfl⟩
      rw [← fin _ _ _ _ rfl hd]
      rw [ht] at hn
      simp only [sSeq, sNil, sAsg, sIf, cAnd, fBin, fVar, fCall, aCons, aNil, fVarF, fC, List.getD_cons_zero, List.getD_cons_succ, bOf_b, List.length_cons, List.length_nil, Nat.reduceAdd, Nat.reduceLT, ↓reduceIte, if_true, clr, List.set_cons_zero, List.set_cons_succ, Ef, ec, hr, hn, encO_n, encO_s, dNotN_n, DI.isNon, Bool.not_true]
    | some t =>
      have htl := nxt_lt hq hi ht
      have hr2 := rowT_ix (w := w) (xs := xs) htl
      rw [ht] at hn
      cases hb : tb q w xs t with
      | none =>
        have hd : encO (tb q w xs i) = encO (tb q w (x :: xs) i) := by rw [tb, ht]; dsimp only; rw [hb]
        refine ⟨_, Ef q w x xs (i + 1) (some (.F, .int (i : Nat))) (some (.F, encO (tb q w xs i))) (some (.F, .int (t : Nat))), rfl, .inl ?_, _, _, _, rfl⟩
        rw [← fin _ _ _ _ rfl hd]
        rw [hb] at hr2
        simp only [sSeq, sNil, sAsg, sIf, cAnd, fBin, fVar, fCall, aCons, aNil, fVarF, fC, List.getD_cons_zero, List.getD_cons_succ, bOf_b, List.length_cons, List.length_nil, Nat.reduceAdd, Nat.reduceLT, ↓reduceIte, if_true, clr, List.set_cons_zero, List.set_cons_succ, Ef, ec, hr, hr2, hn, encO_n, encO_s, dNotN_n, DI.isNon, Bool.not_true, Bool.not_false]
      | some b =>
        rw [hb] at hr2
        cases hf : tb q w xs i with
        | none =>
          have hd : PyData.int ((b : Int) + 1) = encO (tb q w (x :: xs) i) := by rw [tb, ht]; dsimp only; rw [hb, hf]; rfl
          refine ⟨_, Ef q w x xs (i + 1) (some (.F, .int (i : Nat))) (some (.F, .int ((b : Int) + 1))) (some (.F, .int (t : Nat))), rfl, .inl ?_, _, _, _, rfl⟩
          rw [← fin _ _ _ _ rfl hd]
          rw [hf] at hr
          simp only [sSeq, sNil, sAsg, sIf, cAnd, cOr, fBin, fVar, fCall, aCons, aNil, fVarF, fC, List.getD_cons_zero, List.getD_cons_succ, bOf_b, List.length_cons, List.length_nil, Nat.reduceAdd, Nat.reduceLT, ↓reduceIte, if_true, clr, List.set_cons_zero, List.set_cons_succ, Ef, ec, hr, hr2, hn, encO_n, encO_s, dNotN_n, dIsN_n, DI.isNon, Bool.not_true, Bool.not_false, dAdd_i]
        | some f =>
          rw [hf] at hr
          by_cases hle : b + 1 ≤ f
          · have hd : PyData.int ((b : Int) + 1) = encO (tb q w (x :: xs) i) := by rw [tb, ht]; dsimp only; rw [hb, hf]; dsimp only; rw [if_pos hle]; rfl
            refine ⟨_, Ef q w x xs (i + 1) (some (.F, .int (i : Nat))) (some (.F, .int ((b : Int) + 1))) (some (.F, .int (t : Nat))), rfl, .inl ?_, _, _, _, rfl⟩
            rw [← fin _ _ _ _ rfl hd]
            have hle' : decide (((b : Nat) : Int) + 1 ≤ ((f : Nat) : Int)) = true := decide_eq_true (by omega)
            simp only [sSeq, sNil, sAsg, sIf, cAnd, cOr, fBin, fVar, fCall, aCons, aNil, fVarF, fC, List.getD_cons_zero, List.getD_cons_succ, bOf_b, List.length_cons, List.length_nil, Nat.reduceAdd, Nat.reduceLT, ↓reduceIte, if_true, clr, List.set_cons_zero, List.set_cons_succ, Ef, ec, hr, hr2, hn, encO_n, encO_s, dNotN_n, dIsN_n, DI.isNon, Bool.not_true, Bool.not_false, dAdd_i, dLe_i, hle']
          · have hd : PyData.int (f : Int) = encO (tb q w (x :: xs) i) := by rw [tb, ht]; dsimp only; rw [hb, hf]; dsimp only; rw [if_neg hle]; rfl
            refine ⟨_, Ef q w x xs (i + 1) (some (.F, .int (i : Nat))) (some (.F, .int (f : Int))) (some (.F, .int (t : Nat))), rfl, .inl ?_, _, _, _, rfl⟩
            rw [← fin _ _ _ _ rfl hd]
            have hle' : decide (((b : Nat) : Int) + 1 ≤ ((f : Nat) : Int)) = false := decide_eq_false (by omega)
            simp only [sSeq, sNil, sAsg, sIf, cAnd, cOr, fBin, fVar, fCall, aCons, aNil, fVarF, fC, List.getD_cons_zero, List.getD_cons_succ, bOf_b, List.length_cons, List.length_nil, Nat.reduceAdd, Nat.reduceLT, ↓reduceIte, if_true, clr, List.set_cons_zero, List.set_cons_succ, Ef, ec, hr, hr2, hn, encO_n, encO_s, dNotN_n, dIsN_n, DI.isNon, Bool.not_true, Bool.not_false, dAdd_i, dLe_i, hle']
theorem fewer_ok {q : Rl} (hq : q.ok) (hm : q.rooms.length ≤ 1000) (w x : Str) (xs : List Str) : f_fewer [enc q, .str x, encT (rowT q w xs)] = some (encT (rowT q w (x :: xs))) := by
  rw [e_fewer]; unfold c_fewer
  obtain ⟨ρ', h1, x4, x5, x6, rfl⟩ := fewer_loop hq hm w x xs
  have h1' : L1_fewer [some (.F, enc q), some (.F, .str x), some (.F, encT (rowT q w xs)), some (.o, .list []), none, none, none] = _ := h1
  have e : (PyData.list ((List.range q.rooms.length).map fun r => encO (tb q w (x :: xs) r)) : D) = encT (rowT q w (x :: xs)) := by
    unfold encT rowT
    rw [List.map_map]
    rfl
  simp only [runD, sSeq, sNil, sAsg, sRet, sRetN, sIf, sFor, sExp, sFz, fz, sApp, sSet, sNo, sPass, sBrk, sCnt, fVar, fVarF, fVarC, fC, fBin, fUn, fIf, fB, bOf_b, cAnd, cOr, cNot, fCall, fApp, aCons, aNil, fLst, fTup, bName, bTup, bCons, bNil, sAsgT, List.getD_cons_zero, List.getD_cons_succ, List.map_cons, List.map_nil, List.cons_append, List.nil_append, List.length_cons, List.length_nil, List.replicate_succ, List.replicate_zero, clr, List.set_cons_zero, List.set_cons_succ, Nat.reduceAdd, Nat.reduceSub, Nat.reduceLT, Nat.reduceLeDiff, if_true, if_false, ↓reduceIte, ite_true, oMap_some, dAdd_i, dSub_i, dEq_i, dNe_i, dEq_s, dLt_i, dLe_i, dGt_i, dGe_i, h1', Ef]
  rw [e]
end K82

set_option Elab.async false
set_option linter.all false
set_option maxRecDepth 100000
namespace K82
open PySem PySem.Spec PyProof.Rows L2 DI
/-! ### the whole table -/
def TB (q : Rl) (w : Str) (pre : List Str) (a : Nat) : D := encT (rowT q w (pre.drop a))
def Rg : List Nat → List D := fun l => l.map fun (i : Nat) => .int (i : Nat)
theorem len_enc (q : Rl) : dLen [encR q.rooms] = some (.int (q.rooms.length : Nat)) := by
  show some (PyData.int (((q.rooms.map fun r => PyData.list (r.map encO)).length : Nat) : Int)) = _
  rw [List.length_map]
theorem enc_2 (q : Rl) : dIx (enc q) (.int 2) = some (encR q.rooms) := rfl
theorem LD_last (pre : List Str) (w : Str) : dIx (LD (pre ++ [w])) (.int (pre.length : Nat)) = some (.str w) := by
  unfold LD
  rw [dIx_l (by simp)]
  simp
theorem LD_at {pre : List Str} {w : Str} {i : Nat} (h : i < pre.length) : dIx (LD (pre ++ [w])) (.int (i : Nat)) = some (.str pre[i]) := by
  unfold LD
  rw [List.map_append, dIx_l (by simp; omega), List.getElem_append_left (by simpa using h), List.getElem_map]
def b01 (b : Bool) : Int := if b then 1 else 0
theorem q1_ok {q : Rl} (hq : q.ok) (hm : q.rooms.length ≤ 1000) (pre : List Str) (w : Str) (x3 x4 x5 x6 x7 : Option (Md × D)) :
    Q1_steps_left [some (.F, enc q), some (.F, LD (pre ++ [w])), some (.F, .int (pre.length : Nat)), x3, x4, x5, x6, x7] = some (.list ((List.range q.rooms.length).map fun r => .int (b01 (nxt q r w).isNone))) := by
  rw [e_Q1_steps_left]
  refine fLc_map (fun (i : Nat) => .int (i : Nat)) _ (List.range q.rooms.length) rfl ?_ (by rw [List.length_range]; omega) ?_
  · refine fRange1_n (n := q.rooms.length) ?_ (by omega)
    simp only [runD, sSeq, sNil, sAsg, sRet, sRetN, sIf, sFor, sExp, sFz, fz, sApp, sSet, sNo, sPass, sBrk, sCnt, fVar, fVarF, fVarC, fC, fBin, fUn, fIf, fB, bOf_b, cAnd, cOr, cNot, fCall, fApp, aCons, aNil, fLst, fTup, bName, bTup, bCons, bNil, sAsgT, List.getD_cons_zero, List.getD_cons_succ, List.map_cons, List.map_nil, List.cons_append, List.nil_append, List.length_cons, List.length_nil, List.replicate_succ, List.replicate_zero, clr, List.set_cons_zero, List.set_cons_succ, Nat.reduceAdd, Nat.reduceSub, Nat.reduceLT, Nat.reduceLeDiff, if_true, if_false, ↓reduceIte, ite_true, oMap_some, dAdd_i, dSub_i, dEq_i, dNe_i, dEq_s, dLt_i, dLe_i, dGt_i, dGe_i, enc_2, len_enc]
  · intro i hi
    have hil := List.mem_range.mp hi
    have hn := next_ok hq hil w
    have ec : fVarC 1 [some (.F, enc q), some (.F, LD (pre ++ [w])), some (.F, .int (pre.length : Nat)), x3, x4, x5, some (.F, .int (i : Nat)), x7] = some (LD (pre ++ [w])) := rfl
    refine ⟨_, rfl, rfl, ?_⟩
    simp only [runD, sSeq, sNil, sAsg, sRet, sRetN, sIf, sFor, sExp, sFz, fz, sApp, sSet, sNo, sPass, sBrk, sCnt, fVar, fVarF, fVarC, fC, fBin, fUn, fIf, fB, bOf_b, cAnd, cOr, cNot, fCall, fApp, aCons, aNil, fLst, fTup, bName, bTup, bCons, bNil, sAsgT, List.getD_cons_zero, List.getD_cons_succ, List.map_cons, List.map_nil, List.cons_append, List.nil_append, List.length_cons, List.length_nil, List.replicate_succ, List.replicate_zero, clr, List.set_cons_zero, List.set_cons_succ, Nat.reduceAdd, Nat.reduceSub, Nat.reduceLT, Nat.reduceLeDiff, if_true, if_false, ↓reduceIte, ite_true, oMap_some, dAdd_i, dSub_i, dEq_i, dNe_i, dEq_s, dLt_i, dLe_i, dGt_i, dGe_i, ec, LD_last, hn, dIsN_n, isNon_encO, dInt]
    rfl
theorem q2_ok (q : Rl) (w : Str) (hm : q.rooms.length ≤ 1000) (x0 x1 x2 x4 x5 x6 x7 : Option (Md × D)) :
    Q2_steps_left [x0, x1, x2, some (.F, .list ((List.range q.rooms.length).map fun r => .int (b01 (nxt q r w).isNone))), x4, x5, x6, x7] = some (encT (rowT q w [])) := by
  rw [e_Q2_steps_left]
  unfold encT rowT
  rw [List.map_map]
  refine fLc_map (fun r => .int (b01 (nxt q r w).isNone)) _ (List.range q.rooms.length) rfl rfl (by rw [List.length_range]; omega) ?_
  intro i hi
  refine ⟨_, rfl, rfl, ?_⟩
  cases hn : nxt q i w with
  | none =>
    have e : tb q w [] i = some 1 := by rw [tb, if_pos hn]
    simp only [runD, sSeq, sNil, sAsg, sRet, sRetN, sIf, sFor, sExp, sFz, fz, sApp, sSet, sNo, sPass, sBrk, sCnt, fVar, fVarF, fVarC, fC, fBin, fUn, fIf, fB, bOf_b, cAnd, cOr, cNot, fCall, fApp, aCons, aNil, fLst, fTup, bName, bTup, bCons, bNil, sAsgT, List.getD_cons_zero, List.getD_cons_succ, List.map_cons, List.map_nil, List.cons_append, List.nil_append, List.length_cons, List.length_nil, List.replicate_succ, List.replicate_zero, clr, List.set_cons_zero, List.set_cons_succ, Nat.reduceAdd, Nat.reduceSub, Nat.reduceLT, Nat.reduceLeDiff, if_true, if_false, ↓reduceIte, ite_true, oMap_some, dAdd_i, dSub_i, dEq_i, dNe_i, dEq_s, dLt_i, dLe_i, dGt_i, dGe_i, Option.isNone_none, Option.isNone_some, b01, Function.comp, e, encO_s]
    all_goals rfl
  | some t =>
    have e : tb q w [] i = none := by rw [tb, if_neg (by rw [hn]; simp)]
    simp only [runD, sSeq, sNil, sAsg, sRet, sRetN, sIf, sFor, sExp, sFz, fz, sApp, sSet, sNo, sPass, sBrk, sCnt, fVar, fVarF, fVarC, fC, fBin, fUn, fIf, fB, bOf_b, cAnd, cOr, cNot, fCall, fApp, aCons, aNil, fLst, fTup, bName, bTup, bCons, bNil, sAsgT, List.getD_cons_zero, List.getD_cons_succ, List.map_cons, List.map_nil, List.cons_append, List.nil_append, List.length_cons, List.length_nil, List.replicate_succ, List.replicate_zero, clr, List.set_cons_zero, List.set_cons_succ, Nat.reduceAdd, Nat.reduceSub, Nat.reduceLT, Nat.reduceLeDiff, if_true, if_false, ↓reduceIte, ite_true, oMap_some, dAdd_i, dSub_i, dEq_i, dNe_i, dEq_s, dLt_i, dLe_i, dGt_i, dGe_i, Option.isNone_none, Option.isNone_some, b01, Function.comp, e, encO_n]
    all_goals rfl
def Es (q : Rl) (w : Str) (pre : List Str) (i : Nat) (x3 x5 x6 x7 : Option (Md × D)) : En := [some (.F, enc q), some (.F, LD (pre ++ [w])), some (.F, .int (pre.length : Nat)), x3, some (.o, .list ((List.range (i + 1)).map fun j => TB q w pre (pre.length - j))), x5, x6, x7]
theorem steps_loop {q : Rl} (hq : q.ok) (hm : q.rooms.length ≤ 1000) (w : Str) (pre : List Str) (hp : pre.length ≤ 1000) (x3 x6 x7 : Option (Md × D)) :
    ∃ ρ', L3_steps_left (Es q w pre 0 x3 none x6 x7) = some (.nx ρ') ∧ ∃ x5, ρ' = Es q w pre pre.length x3 x5 x6 x7 := by
  rw [e_L3_steps_left]
  unfold sFor
  have hr : fRange3 (fBin dSub (fVar 2) (fC (.int 1))) (fUn dNeg (fC (.int 1))) (fUn dNeg (fC (.int 1))) (Es q w pre 0 x3 none x6 x7) = some (irngD ((pre.length : Int) - 1) pre.length) := by
    have hn : dNeg (.int 1) = some (.int (-1)) := rfl
    unfold fRange3 Es
    simp only [runD, sSeq, sNil, sAsg, sRet, sRetN, sIf, sFor, sExp, sFz, fz, sApp, sSet, sNo, sPass, sBrk, sCnt, fVar, fVarF, fVarC, fC, fBin, fUn, fIf, fB, bOf_b, cAnd, cOr, cNot, fCall, fApp, aCons, aNil, fLst, fTup, bName, bTup, bCons, bNil, sAsgT, List.getD_cons_zero, List.getD_cons_succ, List.map_cons, List.map_nil, List.cons_append, List.nil_append, List.length_cons, List.length_nil, List.replicate_succ, List.replicate_zero, clr, List.set_cons_zero, List.set_cons_succ, Nat.reduceAdd, Nat.reduceSub, Nat.reduceLT, Nat.reduceLeDiff, if_true, if_false, ↓reduceIte, ite_true, oMap_some, dAdd_i, dSub_i, dEq_i, dNe_i, dEq_s, dLt_i, dLe_i, dGt_i, dGe_i, hn]
    have hok : okR ((pre.length : Int) - 1) = true := by
      unfold okR
      rw [Bool.and_eq_true, decide_eq_true_eq, decide_eq_true_eq]
      omega
    rw [if_pos ⟨hok, by decide, trivial⟩, show ((pre.length : Int) - 1 - -1).toNat = pre.length by omega]
  rw [hr]
  obtain ⟨ρ', h1, x5, h2⟩ := fLoop_inv (b := bName 5) (s := sApp 4 .o (fCall 3 f_fewer (aCons (fVarF 0) (aCons (fBin dIx (fVarC 1) (fVar 5)) (aCons (fBin dIx (fVarC 4) (fUn dNeg (fC (.int 1)))) aNil)))) []) (fun i ρ => ∃ x5, ρ = Es q w pre i x3 x5 x6 x7) (irngD ((pre.length : Int) - 1) pre.length) 0 _ ⟨none, rfl⟩ (by
    rintro i d ρ hd ⟨x5, rfl⟩
    obtain ⟨hil, rfl⟩ := irngD_get hd
    rw [Nat.zero_add]
    have hat : ((pre.length : Int) - 1 - (i : Nat)) = ((pre.length - 1 - i : Nat) : Int) := by omega
    rw [hat]
    have hlt : pre.length - 1 - i < pre.length := by omega
    have hf := fewer_ok hq hm w pre[pre.length - 1 - i] (pre.drop (pre.length - i))
    have hdr : pre[pre.length - 1 - i] :: pre.drop (pre.length - i) = pre.drop (pre.length - (i + 1)) := by
      rw [show pre.length - (i + 1) = pre.length - 1 - i by omega, List.drop_eq_getElem_cons hlt, show pre.length - 1 - i + 1 = pre.length - i by omega]
    rw [hdr] at hf
    have hn : dNeg (.int 1) = some (.int (-1)) := rfl
    have hl : dIx (.list ((List.range (i + 1)).map fun j => TB q w pre (pre.length - j))) (.int (-1)) = some (encT (rowT q w (pre.drop (pre.length - i)))) := by
      rw [List.range_succ, List.map_append]
      exact dIx_last _ _
    have ec1 : fVarC 1 [some (.F, enc q), some (.F, LD (pre ++ [w])), some (.F, .int (pre.length : Nat)), x3, some (.o, .list ((List.range (i + 1)).map fun j => TB q w pre (pre.length - j))), some (.F, .int ((pre.length - 1 - i : Nat) : Int)), x6, x7] = some (LD (pre ++ [w])) := rfl
    have ec4 : fVarC 4 [some (.F, enc q), some (.F, LD (pre ++ [w])), some (.F, .int (pre.length : Nat)), x3, some (.o, .list ((List.range (i + 1)).map fun j => TB q w pre (pre.length - j))), some (.F, .int ((pre.length - 1 - i : Nat) : Int)), x6, x7] = some (.list ((List.range (i + 1)).map fun j => TB q w pre (pre.length - j))) := rfl
    refine ⟨_, Es q w pre (i + 1) x3 (some (.F, .int ((pre.length - 1 - i : Nat) : Int))) x6 x7, rfl, .inl ?_, _, rfl⟩
    unfold Es
    simp only [runD, sSeq, sNil, sAsg, sRet, sRetN, sIf, sFor, sExp, sFz, fz, sApp, sSet, sNo, sPass, sBrk, sCnt, fVar, fVarF, fVarC, fC, fBin, fUn, fIf, fB, bOf_b, cAnd, cOr, cNot, fCall, fApp, aCons, aNil, fLst, fTup, bName, bTup, bCons, bNil, sAsgT, List.getD_cons_zero, List.getD_cons_succ, List.map_cons, List.map_nil, List.cons_append, List.nil_append, List.length_cons, List.length_nil, List.replicate_succ, List.replicate_zero, clr, List.set_cons_zero, List.set_cons_succ, Nat.reduceAdd, Nat.reduceSub, Nat.reduceLT, Nat.reduceLeDiff, if_true, if_false, ↓reduceIte, ite_true, oMap_some, dAdd_i, dSub_i, dEq_i, dNe_i, dEq_s, dLt_i, dLe_i, dGt_i, dGe_i, ec1, ec4, LD_at hlt, hn, hl, hf]
    rw [if_pos ⟨trivial, by rw [List.length_map, List.length_range]; omega⟩, List.range_succ (n := i + 1), List.map_append]
    rfl)
  rw [Nat.zero_add, irngD_length] at h2
  exact ⟨ρ', h1, x5, h2⟩
theorem steps_ok {q : Rl} (hq : q.ok) (hm : q.rooms.length ≤ 1000) (w : Str) (pre : List Str) (hp : pre.length ≤ 1000) : f_steps_left [enc q, LD (pre ++ [w])] = some (.list ((List.range (pre.length + 1)).map (TB q w pre))) := by
  rw [e_steps_left]; unfold c_steps_left
  have hl : dLen [LD (pre ++ [w])] = some (.int ((pre.length : Int) + 1)) := by
    unfold LD
    rw [dLen_l, List.length_map, List.length_append]
    rfl
  have e1 : ((pre.length : Int) + 1 - 1) = ((pre.length : Nat) : Int) := by omega
  obtain ⟨ρ', h1, x5, rfl⟩ := steps_loop hq hm w pre hp (some (.F, .list ((List.range q.rooms.length).map fun r => .int (b01 (nxt q r w).isNone)))) none none
  have e0 : ([some (.F, enc q), some (.F, LD (pre ++ [w])), some (.F, .int (pre.length : Nat)), some (.F, .list ((List.range q.rooms.length).map fun r => .int (b01 (nxt q r w).isNone))), some (.o, .list [encT (rowT q w [])]), none, none, none] : En) = Es q w pre 0 (some (.F, .list ((List.range q.rooms.length).map fun r => .int (b01 (nxt q r w).isNone)))) none none none := by
    unfold Es TB
    simp
  have h1' := (congrArg L3_steps_left e0).trans h1
  simp only [runD, sSeq, sNil, sAsg, sRet, sRetN, sIf, sFor, sExp, sFz, fz, sApp, sSet, sNo, sPass, sBrk, sCnt, fVar, fVarF, fVarC, fC, fBin, fUn, fIf, fB, bOf_b, cAnd, cOr, cNot, fCall, fApp, aCons, aNil, fLst, fTup, bName, bTup, bCons, bNil, sAsgT, List.getD_cons_zero, List.getD_cons_succ, List.map_cons, List.map_nil, List.cons_append, List.nil_append, List.length_cons, List.length_nil, List.replicate_succ, List.replicate_zero, clr, List.set_cons_zero, List.set_cons_succ, Nat.reduceAdd, Nat.reduceSub, Nat.reduceLT, Nat.reduceLeDiff, if_true, if_false, ↓reduceIte, ite_true, oMap_some, dAdd_i, dSub_i, dEq_i, dNe_i, dEq_s, dLt_i, dLe_i, dGt_i, dGe_i, hl, e1, q1_ok hq hm, q2_ok q w hm]
  have hrev : ((List.range (pre.length + 1)).map fun j => TB q w pre (pre.length - j)).reverse = (List.range (pre.length + 1)).map (TB q w pre) := by
    refine List.ext_getElem (by simp) fun i h1 h2 => ?_
    have : i < pre.length + 1 := by simpa using h2
    simp only [List.getElem_reverse, List.getElem_map, List.getElem_range, List.length_map, List.length_range]
    congr 1
    omega
  have ec : fVarC 4 (Es q w pre pre.length (some (.F, .list ((List.range q.rooms.length).map fun r => .int (b01 (nxt q r w).isNone)))) x5 none none) = some (.list ((List.range (pre.length + 1)).map fun j => TB q w pre (pre.length - j))) := rfl
  simp only [List.length_cons, List.length_nil, Nat.reduceAdd, Nat.reduceLeDiff, ↓reduceIte, List.set_cons_zero, List.set_cons_succ, h1', fRev, ec, hrev]
end K82

set_option Elab.async false
set_option linter.all false
set_option maxRecDepth 100000
namespace K82
open PySem PySem.Spec PyProof.Rows L2 DI
/-- the places that are taken -/
def pk (q : Rl) (w : Str) : List Str → Nat → Nat → List Nat
  | [], _, _ => []
  | x :: xs, a, r => match nxt q r x with
    | none => pk q w xs (a + 1) r
    | some t => match tb q w xs t with
      | none => pk q w xs (a + 1) r
      | some b => if tb q w (x :: xs) r = some (b + 1) then a :: pk q w xs (a + 1) t else pk q w xs (a + 1) r
def LZ (ns : List Nat) : D := .list (ns.map fun n => .int (n : Nat))
def Ep (q : Rl) (w : Str) (pre : List Str) (r : Nat) (acc : List Nat) (a : Nat) (x7 : Option (Md × D)) : En :=
  [some (.F, enc q), some (.F, LD (pre ++ [w])), some (.F, .list ((List.range (pre.length + 1)).map (TB q w pre))), some (.F, .int (pre.length : Nat)), some (.F, .int (r : Nat)), some (.o, LZ acc), some (.F, .int (a : Nat)), x7]
theorem tb_some {q : Rl} {w x : Str} {xs : List Str} {r t b : Nat} (h : nxt q r x = some t) (h2 : tb q w xs t = some b) : ∃ f, tb q w (x :: xs) r = some f := by
  rw [tb, h]
  dsimp only
  rw [h2]
  dsimp only
  cases tb q w xs r with
  | none => exact ⟨_, rfl⟩
  | some f => dsimp only; split <;> exact ⟨_, rfl⟩
theorem tab_at {q : Rl} {w : Str} {pre : List Str} {a r : Nat} (ha : a ≤ pre.length) (hr : r < q.rooms.length) : dIx (.list ((List.range (pre.length + 1)).map (TB q w pre))) (.int (a : Nat)) = some (TB q w pre a) ∧ dIx (TB q w pre a) (.int (r : Nat)) = some (encO (tb q w (pre.drop a) r)) := by
  refine ⟨?_, rowT_ix hr⟩
  rw [dIx_l (by simp; omega)]
  simp
theorem LZ_app (acc : List Nat) (a : Nat) : ∀ L, LZ acc = .list L → PyData.list (L ++ [.int (a : Nat)]) = LZ (acc ++ [a]) := fun L h => by
  unfold LZ at *
  cases h
  simp
theorem pick_loop {q : Rl} (hq : q.ok) (w : Str) (pre : List Str) (hp : pre.length ≤ 1000) : ∀ (xs : List Str) (a r : Nat) (acc : List Nat) (x7 : Option (Md × D)), pre.drop a = xs → a ≤ pre.length → r < q.rooms.length → acc.length ≤ a →
    ∃ r' x7', wLoop (fun ρ => bOf (fBin dLt (fVar 6) (fVar 3) ρ)) (sSeq (sAsg 7 .F (fCall 3 f_next_room (aCons (fVarF 0) (aCons (fVarF 4) (aCons (fBin dIx (fVarC 1) (fVar 6)) aNil)))) []) (sSeq (sIf (cAnd (fun ρ => bOf (fBin dNotN (fVar 7) (fC .none) ρ)) (cAnd (fun ρ => bOf (fBin dNotN (fBin dIx (fBin dIx (fVar 2) (fBin dAdd (fVar 6) (fC (.int 1)))) (fVar 7)) (fC .none) ρ)) (fun ρ => bOf (fBin dEq (fBin dAdd (fBin dIx (fBin dIx (fVar 2) (fBin dAdd (fVar 6) (fC (.int 1)))) (fVar 7)) (fC (.int 1))) (fBin dIx (fBin dIx (fVar 2) (fVar 6)) (fVar 4)) ρ)))) (sSeq (sApp 5 .o (fVarF 6) []) (sAsg 4 .F (fVarF 7) [])) sNil) (sAsg 6 .F (fBin dAdd (fVar 6) (fC (.int 1))) []))) (xs.length + 1) (Ep q w pre r acc a x7) =
      some (.nx (Ep q w pre r' (acc ++ pk q w xs a r) pre.length x7'))
  | [], a, r, acc, x7, hd, ha, hr, hac => by
    have hal : a = pre.length := by
      have := List.drop_eq_nil_iff.mp hd
      omega
    subst hal
    refine ⟨r, x7, ?_⟩
    have hc : (fun ρ => bOf (fBin dLt (fVar 6) (fVar 3) ρ)) (Ep q w pre r acc pre.length x7) = some false := by
      unfold Ep
      simp only [runD, sSeq, sNil, sAsg, sRet, sRetN, sIf, sFor, sExp, sFz, fz, sApp, sSet, sNo, sPass, sBrk, sCnt, fVar, fVarF, fVarC, fC, fBin, fUn, fIf, fB, bOf_b, cAnd, cOr, cNot, fCall, fApp, aCons, aNil, fLst, fTup, bName, bTup, bCons, bNil, sAsgT, List.getD_cons_zero, List.getD_cons_succ, List.map_cons, List.map_nil, List.cons_append, List.nil_append, List.length_cons, List.length_nil, List.replicate_succ, List.replicate_zero, clr, List.set_cons_zero, List.set_cons_succ, Nat.reduceAdd, Nat.reduceSub, Nat.reduceLT, Nat.reduceLeDiff, if_true, if_false, ↓reduceIte, ite_true, oMap_some, dAdd_i, dSub_i, dEq_i, dNe_i, dEq_s, dLt_i, dLe_i, dGt_i, dGe_i, decide_eq_false (Int.lt_irrefl _)]
    rw [pk, List.append_nil]
    exact wLoop_f hc
  | x :: xs, a, r, acc, x7, hd, ha, hr, hac => by
    have hal : a < pre.length := by
      rcases Nat.lt_or_ge a pre.length with h | h
      · exact h
      · rw [List.drop_eq_nil_of_le h] at hd; cases hd
    have hx : pre[a] = x ∧ pre.drop (a + 1) = xs := by
      rw [List.drop_eq_getElem_cons hal] at hd
      injection hd with h1 h2
      exact ⟨h1, h2⟩
    have hc : (fun ρ => bOf (fBin dLt (fVar 6) (fVar 3) ρ)) (Ep q w pre r acc a x7) = some true := by
      unfold Ep
      simp only [runD, sSeq, sNil, sAsg, sRet, sRetN, sIf, sFor, sExp, sFz, fz, sApp, sSet, sNo, sPass, sBrk, sCnt, fVar, fVarF, fVarC, fC, fBin, fUn, fIf, fB, bOf_b, cAnd, cOr, cNot, fCall, fApp, aCons, aNil, fLst, fTup, bName, bTup, bCons, bNil, sAsgT, List.getD_cons_zero, List.getD_cons_succ, List.map_cons, List.map_nil, List.cons_append, List.nil_append, List.length_cons, List.length_nil, List.replicate_succ, List.replicate_zero, clr, List.set_cons_zero, List.set_cons_succ, Nat.reduceAdd, Nat.reduceSub, Nat.reduceLT, Nat.reduceLeDiff, if_true, if_false, ↓reduceIte, ite_true, oMap_some, dAdd_i, dSub_i, dEq_i, dNe_i, dEq_s, dLt_i, dLe_i, dGt_i, dGe_i, decide_eq_true (show ((a : Nat) : Int) < (pre.length : Nat) by omega)]
    have hn := next_ok hq hr x
    have hrow := LD_at (w := w) hal
    rw [hx.1] at hrow
    have ec1 : ∀ a b c d e f g, fVarC 1 [a, some (.F, LD (pre ++ [w])), b, c, d, e, f, g] = some (LD (pre ++ [w])) := fun _ _ _ _ _ _ _ => rfl
    have ea : ((a : Nat) : Int) + 1 = ((a + 1 : Nat) : Int) := by omega
    have ht1 := fun t (h : t < q.rooms.length) => tab_at (q := q) (w := w) (pre := pre) (a := a + 1) hal h
    have ht0 := tab_at (q := q) (w := w) (pre := pre) (a := a) ha hr
    rw [hd] at ht0
    -- one turn
    have turn : ∃ r2 acc2 x72, r2 < q.rooms.length ∧ acc2.length ≤ a + 1 ∧ acc2 ++ pk q w xs (a + 1) r2 = acc ++ pk q w (x :: xs) a r ∧
        (sSeq (sAsg 7 .F (fCall 3 f_next_room (aCons (fVarF 0) (aCons (fVarF 4) (aCons (fBin dIx (fVarC 1) (fVar 6)) aNil)))) []) (sSeq (sIf (cAnd (fun ρ => bOf (fBin dNotN (fVar 7) (fC .none) ρ)) (cAnd (fun ρ => bOf (fBin dNotN (fBin dIx (fBin dIx (fVar 2) (fBin dAdd (fVar 6) (fC (.int 1)))) (fVar 7)) (fC .none) ρ)) (fun ρ => bOf (fBin dEq (fBin dAdd (fBin dIx (fBin dIx (fVar 2) (fBin dAdd (fVar 6) (fC (.int 1)))) (fVar 7)) (fC (.int 1))) (fBin dIx (fBin dIx (fVar 2) (fVar 6)) (fVar 4)) ρ)))) (sSeq (sApp 5 .o (fVarF 6) []) (sAsg 4 .F (fVarF 7) [])) sNil) (sAsg 6 .F (fBin dAdd (fVar 6) (fC (.int 1))) []))) (Ep q w pre r acc a x7) =
          some (.nx (Ep q w pre r2 acc2 (a + 1) x72)) := by
      cases ht : nxt q r x with
      | none =>
        rw [ht] at hn
        refine ⟨r, acc, some (.F, .none), hr, by omega, by rw [pk, ht], ?_⟩
        unfold Ep
        simp only [runD, sSeq, sNil, sAsg, sRet, sRetN, sIf, sFor, sExp, sFz, fz, sApp, sSet, sNo, sPass, sBrk, sCnt, fVar, fVarF, fVarC, fC, fBin, fUn, fIf, fB, bOf_b, cAnd, cOr, cNot, fCall, fApp, aCons, aNil, fLst, fTup, bName, bTup, bCons, bNil, sAsgT, List.getD_cons_zero, List.getD_cons_succ, List.map_cons, List.map_nil, List.cons_append, List.nil_append, List.length_cons, List.length_nil, List.replicate_succ, List.replicate_zero, clr, List.set_cons_zero, List.set_cons_succ, Nat.reduceAdd, Nat.reduceSub, Nat.reduceLT, Nat.reduceLeDiff, if_true, if_false, ↓reduceIte, ite_true, oMap_some, dAdd_i, dSub_i, dEq_i, dNe_i, dEq_s, dLt_i, dLe_i, dGt_i, dGe_i, ec1, hrow, hn, encO_n, dNotN_n, DI.isNon, Bool.not_true, ea]
      | some t =>
        have htl := nxt_lt hq hr ht
        have h1 := ht1 t htl
        rw [hx.2] at h1
        rw [ht] at hn
        cases hb : tb q w xs t with
        | none =>
          rw [hb] at h1
          refine ⟨r, acc, some (.F, .int (t : Nat)), hr, by omega, by rw [pk, ht]; dsimp only; rw [hb], ?_⟩
          unfold Ep
          simp only [runD, sSeq, sNil, sAsg, sRet, sRetN, sIf, sFor, sExp, sFz, fz, sApp, sSet, sNo, sPass, sBrk, sCnt, fVar, fVarF, fVarC, fC, fBin, fUn, fIf, fB, bOf_b, cAnd, cOr, cNot, fCall, fApp, aCons, aNil, fLst, fTup, bName, bTup, bCons, bNil, sAsgT, List.getD_cons_zero, List.getD_cons_succ, List.map_cons, List.map_nil, List.cons_append, List.nil_append, List.length_cons, List.length_nil, List.replicate_succ, List.replicate_zero, clr, List.set_cons_zero, List.set_cons_succ, Nat.reduceAdd, Nat.reduceSub, Nat.reduceLT, Nat.reduceLeDiff, if_true, if_false, ↓reduceIte, ite_true, oMap_some, dAdd_i, dSub_i, dEq_i, dNe_i, dEq_s, dLt_i, dLe_i, dGt_i, dGe_i, ec1, hrow, hn, encO_n, encO_s, dNotN_n, DI.isNon, Bool.not_true, Bool.not_false, ea, h1.1, h1.2]
        | some b =>
          rw [hb] at h1
          obtain ⟨f, hf⟩ := tb_some (w := w) ht hb
          rw [hf] at ht0
          by_cases he : f = b + 1
          · subst he
            refine ⟨t, acc ++ [a], some (.F, .int (t : Nat)), htl, by rw [List.length_append]; simp; omega, by rw [pk, ht]; dsimp only; rw [hb]; dsimp only; rw [if_pos hf]; simp, ?_⟩
            have hde : decide (((b : Nat) : Int) + 1 = ((b + 1 : Nat) : Int)) = true := decide_eq_true (by omega)
            have happ : ∀ x1 x2 x3 x4 x5 x7, sApp 5 .o (fVarF 6) [] [x1, x2, x3, x4, x5, some (.o, LZ acc), some (.F, .int (a : Nat)), x7] = some (.nx [x1, x2, x3, x4, x5, some (.o, LZ (acc ++ [a])), some (.F, .int (a : Nat)), x7]) := fun _ _ _ _ _ _ => by
              rw [← LZ_app acc a _ rfl]
              unfold LZ
              simp only [runD, sSeq, sNil, sAsg, sRet, sRetN, sIf, sFor, sExp, sFz, fz, sApp, sSet, sNo, sPass, sBrk, sCnt, fVar, fVarF, fVarC, fC, fBin, fUn, fIf, fB, bOf_b, cAnd, cOr, cNot, fCall, fApp, aCons, aNil, fLst, fTup, bName, bTup, bCons, bNil, sAsgT, List.getD_cons_zero, List.getD_cons_succ, List.map_cons, List.map_nil, List.cons_append, List.nil_append, List.length_cons, List.length_nil, List.replicate_succ, List.replicate_zero, clr, List.set_cons_zero, List.set_cons_succ, Nat.reduceAdd, Nat.reduceSub, Nat.reduceLT, Nat.reduceLeDiff, if_true, if_false, ↓reduceIte, ite_true, oMap_some, dAdd_i, dSub_i, dEq_i, dNe_i, dEq_s, dLt_i, dLe_i, dGt_i, dGe_i]
              rw [if_pos ⟨trivial, by rw [List.length_map]; omega⟩]
            unfold Ep
            simp only [sSeq, sNil, sAsg, sIf, cAnd, cOr, fBin, fVar, fCall, aCons, aNil, fVarF, fC, List.getD_cons_zero, List.getD_cons_succ, bOf_b, List.length_cons, List.length_nil, Nat.reduceAdd, Nat.reduceLT, ↓reduceIte, if_true, clr, List.set_cons_zero, List.set_cons_succ, ec1, hrow, hn, encO_n, encO_s, dNotN_n, DI.isNon, Bool.not_true, Bool.not_false, ea, h1.1, h1.2, ht0.1, ht0.2, dAdd_i, dEq_i, hde, happ]
          · refine ⟨r, acc, some (.F, .int (t : Nat)), hr, by omega, by rw [pk, ht]; dsimp only; rw [hb]; dsimp only; rw [if_neg (by rw [hf]; simpa using he)], ?_⟩
            have hde : decide (((b : Nat) : Int) + 1 = ((f : Nat) : Int)) = false := decide_eq_false (by omega)
            unfold Ep
            simp only [sSeq, sNil, sAsg, sIf, cAnd, cOr, fBin, fVar, fCall, aCons, aNil, fVarF, fC, List.getD_cons_zero, List.getD_cons_succ, bOf_b, List.length_cons, List.length_nil, Nat.reduceAdd, Nat.reduceLT, ↓reduceIte, if_true, clr, List.set_cons_zero, List.set_cons_succ, ec1, hrow, hn, encO_n, encO_s, dNotN_n, DI.isNon, Bool.not_true, Bool.not_false, ea, h1.1, h1.2, ht0.1, ht0.2, dAdd_i, dEq_i, hde]
    obtain ⟨r2, acc2, x72, hr2, hac2, hpk, hs⟩ := turn
    obtain ⟨r', x7', hw⟩ := pick_loop hq w pre hp xs (a + 1) r2 acc2 x72 hx.2 hal hr2 hac2
    refine ⟨r', x7', ?_⟩
    rw [← hpk, ← hw]
    exact wLoop_t hc hs
theorem pk_len (q : Rl) (w : Str) : ∀ (xs : List Str) (a r : Nat), (pk q w xs a r).length ≤ xs.length
  | [], _, _ => Nat.le_refl _
  | x :: xs, a, r => by
    have h := fun r => pk_len q w xs (a + 1) r
    rw [pk, List.length_cons]
    split
    · exact Nat.le_succ_of_le (h _)
    · split
      · exact Nat.le_succ_of_le (h _)
      · split
        · exact Nat.succ_le_succ (h _)
        · exact Nat.le_succ_of_le (h _)
theorem dCat_LZ (xs : List Nat) (n : Nat) (h : xs.length < 1000000) : dCat (LZ xs) (.list [.int (n : Nat)]) = some (LZ (xs ++ [n])) := by
  unfold LZ
  show (if (xs.map fun n => PyData.int (n : Nat)).length + 1 ≤ 1000000 then some (PyData.list ((xs.map fun n => PyData.int (n : Nat)) ++ [.int (n : Nat)])) else none) = _
  rw [if_pos (by rw [List.length_map]; omega), List.map_append]
  rfl
theorem shortest_ok {q : Rl} (hq : q.ok) (h0 : 0 < q.rooms.length) (hm : q.rooms.length ≤ 1000) (w : Str) (pre : List Str) (hp : pre.length ≤ 1000) (hs : OkS (pre ++ [w])) (h1 : (after q 0 pre).isSome = true) (h2 : after q 0 (pre ++ [w]) = none) :
    f_shortest_breach [enc q, LD (pre ++ [w])] = some (LZ (pk q w pre 0 0 ++ [pre.length])) := by
  rw [e_shortest_breach]; unfold c_shortest_breach
  have hl : dLen [LD (pre ++ [w])] = some (.int ((pre.length : Int) + 1)) := by
    unfold LD
    rw [dLen_l, List.length_map, List.length_append]
    rfl
  have e1 : ((pre.length : Int) + 1 - 1) = ((pre.length : Nat) : Int) := by omega
  have hb := breaks_ok hq h0 (pre ++ [w]) hs
  rw [List.dropLast_concat, h1, h2, show (pre ++ [w]).isEmpty = false by simp] at hb
  obtain ⟨r', x7', hw⟩ := pick_loop hq w pre hp pre 0 0 [] none rfl (Nat.zero_le _) h0 (Nat.le_refl _)
  have hL := (congrFun e_L1_shortest_breach (Ep q w pre 0 [] 0 none)).trans (wLoop_mono hw (k := 1000000) (by omega))
  have hL' : L1_shortest_breach [some (.F, enc q), some (.F, LD (pre ++ [w])), some (.F, .list ((List.range (pre.length + 1)).map (TB q w pre))), some (.F, .int (pre.length : Nat)), some (.F, .int 0), some (.o, .list []), some (.F, .int 0), none] = some (.nx (Ep q w pre r' ([] ++ pk q w pre 0 0) pre.length x7')) := hL
  have ec : fVarC 5 (Ep q w pre r' ([] ++ pk q w pre 0 0) pre.length x7') = some (LZ (pk q w pre 0 0)) := rfl
  have ec3 : fVar 3 (Ep q w pre r' ([] ++ pk q w pre 0 0) pre.length x7') = some (.int (pre.length : Nat)) := rfl
  simp only [runD, sSeq, sNil, sAsg, sRet, sRetN, sIf, sFor, sExp, sFz, fz, sApp, sSet, sNo, sPass, sBrk, sCnt, fVar, fVarF, fVarC, fC, fBin, fUn, fIf, fB, bOf_b, cAnd, cOr, cNot, fCall, fApp, aCons, aNil, fLst, fTup, bName, bTup, bCons, bNil, sAsgT, List.getD_cons_zero, List.getD_cons_succ, List.map_cons, List.map_nil, List.cons_append, List.nil_append, List.length_cons, List.length_nil, List.replicate_succ, List.replicate_zero, clr, List.set_cons_zero, List.set_cons_succ, Nat.reduceAdd, Nat.reduceSub, Nat.reduceLT, Nat.reduceLeDiff, if_true, if_false, ↓reduceIte, ite_true, oMap_some, dAdd_i, dSub_i, dEq_i, dNe_i, dEq_s, dLt_i, dLe_i, dGt_i, dGe_i, hb, Bool.not_true, Bool.not_false, Bool.true_and, Bool.and_true, Option.isNone_none, steps_ok hq hm w pre hp, hl, e1, hL', ec, ec3]
  unfold Ep
  have hpl := pk_len q w pre 0 0
  simp only [List.getD_cons_zero, List.getD_cons_succ, List.length_cons, List.length_nil, Nat.reduceAdd, Nat.reduceLeDiff, ↓reduceIte, dCat_LZ _ _ (show (pk q w pre 0 0).length < 1000000 by omega)]
end K82

set_option Elab.async false
set_option linter.all false
set_option maxRecDepth 100000
namespace K82
open PySem PySem.Spec PyProof.Rows L2 DI
/-! ### the order of lists of places -/
def lx : List Nat → List Nat → Bool
  | [], [] => false
  | [], _ :: _ => true
  | _ :: _, [] => false
  | x :: xs, y :: ys => if x = y then lx xs ys else decide (x < y)
def less (a b : List Nat) : Bool := if a.length ≠ b.length then decide (a.length < b.length) else lx a b
def le (a b : List Nat) : Prop := less b a = false
theorem lx_irr : ∀ a, lx a a = false
  | [] => rfl
  | x :: xs => by rw [lx, if_pos rfl, lx_irr xs]
theorem lx_tot : ∀ a b : List Nat, a.length = b.length → lx a b = false → lx b a = false → a = b
  | [], [], _, _, _ => rfl
  | [], _ :: _, h, _, _ => by cases h
  | _ :: _, [], h, _, _ => by cases h
  | x :: xs, y :: ys, hl, h1, h2 => by
    rw [lx] at h1 h2
    by_cases e : x = y
    · subst e
      rw [if_pos rfl] at h1 h2
      rw [lx_tot xs ys (by simpa using hl) h1 h2]
    · rw [if_neg e] at h1
      rw [if_neg (Ne.symm e)] at h2
      simp at h1 h2
      omega
theorem lx_trans : ∀ a b c : List Nat, a.length = b.length → b.length = c.length → lx b a = false → lx c b = false → lx c a = false
  | [], [], [], _, _, _, _ => rfl
  | x :: xs, y :: ys, z :: zs, h1, h2, h3, h4 => by
    rw [lx] at h3 h4 ⊢
    by_cases e : y = x
    · subst e
      rw [if_pos rfl] at h3
      by_cases e2 : z = y
      · subst e2
        rw [if_pos rfl] at h4 ⊢
        exact lx_trans xs ys zs (by simpa using h1) (by simpa using h2) h3 h4
      · rw [if_neg e2] at h4 ⊢; exact h4
    · rw [if_neg e] at h3
      by_cases e2 : z = y
      · subst e2
        rw [if_neg e]; exact h3
      · rw [if_neg e2] at h4
        have h5 : ¬ y < x := by simpa using h3
        have h6 : ¬ z < y := by simpa using h4
        rw [if_neg (by omega)]
        simp; omega
  | [], _ :: _, _, h, _, _, _ => by cases h
  | _ :: _, [], _, h, _, _, _ => by cases h
  | [], [], _ :: _, _, h, _, _ => by cases h
  | _ :: _, _ :: _, [], _, h, _, _ => by cases h
theorem lx_snoc (n : Nat) : ∀ a b : List Nat, a.length = b.length → lx (a ++ [n]) (b ++ [n]) = lx a b
  | [], [], _ => by simp [lx]
  | x :: xs, y :: ys, h => by
    rw [List.cons_append, List.cons_append, lx, lx, lx_snoc n xs ys (by simpa using h)]
  | [], _ :: _, h => by cases h
  | _ :: _, [], h => by cases h
theorem le_iff {a b : List Nat} : le a b ↔ a.length < b.length ∨ (a.length = b.length ∧ lx b a = false) := by
  unfold le less
  by_cases h : b.length = a.length
  · rw [if_neg (by simpa using h)]
    constructor
    · intro q; exact .inr ⟨h.symm, q⟩
    · rintro (q | q)
      · omega
      · exact q.2
  · rw [if_pos h]
    constructor
    · intro q
      have : ¬ b.length < a.length := by simpa using q
      exact .inl (by omega)
    · rintro (q | q)
      · simp; omega
      · omega
theorem le_refl (a : List Nat) : le a a := le_iff.mpr (.inr ⟨rfl, lx_irr a⟩)
theorem le_trans {a b c : List Nat} (h : le a b) (k : le b c) : le a c := by
  rw [le_iff] at *
  rcases h with h | h <;> rcases k with k | k
  · exact .inl (by omega)
  · exact .inl (by omega)
  · exact .inl (by omega)
  · exact .inr ⟨by omega, lx_trans a b c h.1 k.1 h.2 k.2⟩
theorem le_anti {a b : List Nat} (h : le a b) (k : le b a) : a = b := by
  rw [le_iff] at *
  rcases h with h | h <;> rcases k with k | k
  · omega
  · omega
  · omega
  · exact lx_tot a b h.1 k.2 h.2
theorem lx_asym : ∀ a b : List Nat, lx a b = true → lx b a = false
  | [], [], h => by cases h
  | [], _ :: _, _ => rfl
  | _ :: _, [], h => by cases h
  | x :: xs, y :: ys, h => by
    rw [lx] at h ⊢
    by_cases e : x = y
    · subst e
      rw [if_pos rfl] at h ⊢
      exact lx_asym xs ys h
    · rw [if_neg e] at h
      rw [if_neg (Ne.symm e)]
      simp at h ⊢
      omega
theorem le_of_less {a b : List Nat} (h : less a b = true) : le a b := by
  rw [le_iff]
  unfold less at h
  by_cases e : a.length = b.length
  · rw [if_neg (by simpa using e)] at h
    exact .inr ⟨e, lx_asym a b h⟩
  · rw [if_pos e] at h
    exact .inl (by simpa using h)
theorem le_snoc {a b : List Nat} (n : Nat) (h : le a b) : le (a ++ [n]) (b ++ [n]) := by
  rw [le_iff] at *
  rw [List.length_append, List.length_append]
  rcases h with h | h
  · exact .inl (by simp; omega)
  · exact .inr ⟨by simp; omega, by rw [lx_snoc n b a h.1.symm]; exact h.2⟩
theorem le_cons {a b : List Nat} (n : Nat) (h : le a b) : le (n :: a) (n :: b) := by
  rw [le_iff] at *
  rcases h with h | h
  · exact .inl (by simp; omega)
  · exact .inr ⟨by simp; omega, by rw [lx, if_pos rfl]; exact h.2⟩
/-! ### selections -/
inductive Sel (q : Rl) : List Str → Nat → Nat → List Nat → Nat → Prop
  | nil {a r} : Sel q [] a r [] r
  | skip {x xs a r S r'} : Sel q xs (a + 1) r S r' → Sel q (x :: xs) a r S r'
  | take {x xs a r t S r'} : nxt q r x = some t → Sel q xs (a + 1) t S r' → Sel q (x :: xs) a r (a :: S) r'
theorem Sel.ge {q : Rl} {xs : List Str} {a r r' : Nat} {S : List Nat} (h : Sel q xs a r S r') : ∀ s ∈ S, a ≤ s := by
  induction h with
  | nil => intro s hs; cases hs
  | skip _ ih => intro s hs; have := ih s hs; omega
  | take _ _ ih =>
    intro s hs
    rcases List.mem_cons.mp hs with rfl | hs
    · exact Nat.le_refl _
    · have := ih s hs; omega
theorem Sel.snoc {q : Rl} {x : Str} {xs : List Str} {a r r' : Nat} {S : List Nat} : Sel q (xs ++ [x]) a r S r' ↔ Sel q xs a r S r' ∨ ∃ S0 r0, Sel q xs a r S0 r0 ∧ nxt q r0 x = some r' ∧ S = S0 ++ [a + xs.length] := by
  induction xs generalizing a r S with
  | nil =>
    constructor
    · intro h
      cases h with
      | skip h => cases h; exact .inl .nil
      | take h1 h2 => cases h2; exact .inr ⟨[], r, .nil, h1, by simp⟩
    · rintro (h | ⟨S0, r0, h, h1, rfl⟩)
      · cases h; exact .skip .nil
      · cases h; exact .take h1 .nil
  | cons y ys ih =>
    constructor
    · intro h
      cases h with
      | skip h =>
        rcases ih.mp h with h' | ⟨S0, r0, h', h1, rfl⟩
        · exact .inl (.skip h')
        · exact .inr ⟨S0, r0, .skip h', h1, by rw [List.length_cons, show a + 1 + ys.length = a + (ys.length + 1) by omega]⟩
      | take h1 h2 =>
        rcases ih.mp h2 with h | ⟨S0, r0, h, h3, rfl⟩
        · exact .inl (.take h1 h)
        · exact .inr ⟨a :: S0, r0, .take h1 h, h3, by rw [List.length_cons, show a + 1 + ys.length = a + (ys.length + 1) by omega]; rfl⟩
    · rintro (h | ⟨S0, r0, h, h1, rfl⟩)
      · cases h with
        | skip h => exact .skip (ih.mpr (.inl h))
        | take h1 h2 => exact .take h1 (ih.mpr (.inl h2))
      · cases h with
        | skip h => exact .skip (ih.mpr (.inr ⟨S0, r0, h, h1, by rw [List.length_cons, show a + 1 + ys.length = a + (ys.length + 1) by omega]⟩))
        | take h2 h3 =>
          rename_i S1
          exact .take h2 (ih.mpr (.inr ⟨S1, r0, h3, h1, by rw [List.length_cons, show a + 1 + ys.length = a + (ys.length + 1) by omega]; rfl⟩))
/-- what the table and its walk tell -/
theorem pk_least (q : Rl) (w : Str) : ∀ (xs : List Str) (a r : Nat), match tb q w xs r with
    | none => ∀ S r', Sel q xs a r S r' → nxt q r' w ≠ none
    | some m => (∃ r', Sel q xs a r (pk q w xs a r) r' ∧ nxt q r' w = none) ∧ (pk q w xs a r).length + 1 = m ∧ ∀ S r', Sel q xs a r S r' → nxt q r' w = none → le (pk q w xs a r) S
  | [], a, r => by
    rw [tb]
    by_cases h : nxt q r w = none
    · rw [if_pos h]
      refine ⟨⟨r, .nil, h⟩, rfl, fun S r' hs _ => ?_⟩
      cases hs
      exact le_refl _
    · rw [if_neg h]
      intro S r' hs
      cases hs
      exact h
  | x :: xs, a, r => by
    have ihr := pk_least q w xs (a + 1) r
    -- no step by x helps
    have skipped : (∀ t, nxt q r x = some t → tb q w xs t = none) → tb q w (x :: xs) r = tb q w xs r → pk q w (x :: xs) a r = pk q w xs (a + 1) r → (match tb q w (x :: xs) r with
        | none => ∀ S r', Sel q (x :: xs) a r S r' → nxt q r' w ≠ none
        | some m => (∃ r', Sel q (x :: xs) a r (pk q w (x :: xs) a r) r' ∧ nxt q r' w = none) ∧ (pk q w (x :: xs) a r).length + 1 = m ∧ ∀ S r', Sel q (x :: xs) a r S r' → nxt q r' w = none → le (pk q w (x :: xs) a r) S) := fun hx e1 e2 => by
      have bad : ∀ t S r', nxt q r x = some t → Sel q xs (a + 1) t S r' → nxt q r' w ≠ none := fun t S r' h1 h2 => by
        have iht := pk_least q w xs (a + 1) t
        rw [hx t h1] at iht
        exact iht S r' h2
      rw [e1, e2]
      cases ht : tb q w xs r with
      | none =>
        rw [ht] at ihr
        intro S r' hs
        cases hs with
        | skip h => exact ihr S r' h
        | take h1 h2 => exact bad _ _ _ h1 h2
      | some m =>
        rw [ht] at ihr
        obtain ⟨⟨r', h1, h2⟩, h3, h4⟩ := ihr
        refine ⟨⟨r', .skip h1, h2⟩, h3, fun S r'' hs hn => ?_⟩
        cases hs with
        | skip h => exact h4 S r'' h hn
        | take h1 h2 => exact absurd hn (bad _ _ _ h1 h2)
    cases hx : nxt q r x with
    | none => exact skipped (fun t h => by rw [hx] at h; cases h) (by rw [tb, hx]) (by rw [pk, hx])
    | some t =>
      have iht := pk_least q w xs (a + 1) t
      cases hb : tb q w xs t with
      | none => exact skipped (fun t' h => by rw [hx] at h; cases h; exact hb) (by rw [tb, hx]; dsimp only; rw [hb]) (by rw [pk, hx]; dsimp only; rw [hb])
      | some b =>
        rw [hb] at iht
        obtain ⟨⟨r', h1, h2⟩, h3, h4⟩ := iht
        -- to take x is best
        have taken : tb q w (x :: xs) r = some (b + 1) → (∀ S r'', Sel q xs (a + 1) r S r'' → nxt q r'' w = none → b ≤ S.length) → (match tb q w (x :: xs) r with
            | none => ∀ S r', Sel q (x :: xs) a r S r' → nxt q r' w ≠ none
            | some m => (∃ r', Sel q (x :: xs) a r (pk q w (x :: xs) a r) r' ∧ nxt q r' w = none) ∧ (pk q w (x :: xs) a r).length + 1 = m ∧ ∀ S r', Sel q (x :: xs) a r S r' → nxt q r' w = none → le (pk q w (x :: xs) a r) S) := fun e1 hS => by
          have e2 : pk q w (x :: xs) a r = a :: pk q w xs (a + 1) t := by rw [pk, hx]; dsimp only; rw [hb]; dsimp only; rw [if_pos e1]
          rw [e1, e2]
          refine ⟨⟨r', .take hx h1, h2⟩, by rw [List.length_cons]; omega, fun S r'' hs hn => ?_⟩
          cases hs with
          | skip h =>
            have hl := hS S r'' h hn
            rw [le_iff, List.length_cons]
            rcases Nat.lt_or_ge ((pk q w xs (a + 1) t).length + 1) S.length with hlt | hge
            · exact .inl hlt
            · refine .inr ⟨by omega, ?_⟩
              cases S with
              | nil => rw [List.length_nil] at hl; omega
              | cons s S =>
                have := h.ge s List.mem_cons_self
                rw [lx, if_neg (by omega)]
                simp; omega
          | take h5 h6 =>
            rw [hx] at h5
            cases h5
            exact le_cons a (h4 _ _ h6 hn)
        cases hf : tb q w xs r with
        | none =>
          rw [hf] at ihr
          exact taken (by rw [tb, hx]; dsimp only; rw [hb, hf]) fun S r'' hs hn => absurd hn (ihr S r'' hs)
        | some f =>
          rw [hf] at ihr
          obtain ⟨⟨s', g1, g2⟩, g3, g4⟩ := ihr
          have hmin : ∀ S r'', Sel q xs (a + 1) r S r'' → nxt q r'' w = none → f ≤ S.length + 1 := fun S r'' hs hn => by
            have := g4 S r'' hs hn
            rw [le_iff] at this
            omega
          by_cases hle : b + 1 ≤ f
          · exact taken (by rw [tb, hx]; dsimp only; rw [hb, hf]; dsimp only; rw [if_pos hle]) fun S r'' hs hn => by have := hmin S r'' hs hn; omega
          · have e1 : tb q w (x :: xs) r = some f := by rw [tb, hx]; dsimp only; rw [hb, hf]; dsimp only; rw [if_neg hle]
            have e2 : pk q w (x :: xs) a r = pk q w xs (a + 1) r := by rw [pk, hx]; dsimp only; rw [hb]; dsimp only; rw [if_neg (by rw [e1]; simp; omega)]
            rw [e1, e2]
            refine ⟨⟨s', .skip g1, g2⟩, g3, fun S r'' hs hn => ?_⟩
            cases hs with
            | skip h => exact g4 S r'' h hn
            | take h5 h6 =>
              rw [hx] at h5
              cases h5
              have := h4 _ _ h6 hn
              rw [le_iff] at this ⊢
              rw [List.length_cons]
              exact .inl (by omega)
end K82

set_option Elab.async false
set_option linter.all false
set_option maxRecDepth 100000
namespace K82
open PySem PySem.Spec PyProof.Rows L2 DI
/-! ### less, on data -/
theorem toks_lx : ∀ xs ys : List Nat, PyProof.Rows.lexLt itemOrd (PySem.W.keyToksAll (xs.map fun n => .int (n : Nat))) (PySem.W.keyToksAll (ys.map fun n => .int (n : Nat))) = lx xs ys
  | [], [] => by simp only [List.map_nil, PySem.W.keyToksAll]; rw [lx]; exact PyProof.Rows.lex_irrefl (O := itemOrd) _
  | [], y :: ys => by
    simp only [List.map_nil, List.map_cons, PySem.W.keyToksAll, lx]
    rw [PySem.W.lex_atom (by simp), PySem.W.lex_one]
    rfl
  | x :: xs, [] => by
    simp only [List.map_nil, List.map_cons, PySem.W.keyToksAll, lx]
    rw [PySem.W.lex_atom (by simp), PySem.W.lex_one]
    rfl
  | x :: xs, y :: ys => by
    have ih := toks_lx xs ys
    simp only [List.map_cons, PySem.W.keyToksAll, PySem.W.keyToks, lx]
    refine (PySem.W.lex_pre [Sum.inl 1] _ _).trans ?_
    by_cases e : x = y
    · subst e
      rw [if_pos rfl]
      exact (PySem.W.lex_pre [Sum.inl (x : Int)] _ _).trans ih
    · rw [if_neg e]
      refine (PySem.W.lex_atom (p := Sum.inl (x : Int)) (q := Sum.inl (y : Int)) (fun z => e (Int.ofNat.inj (Sum.inl.inj z))) _ _).trans ?_
      rw [PySem.W.lex_one]
      show decide ((x : Int) < (y : Int)) = decide (x < y)
      by_cases h : x < y
      · rw [decide_eq_true h, decide_eq_true (by omega)]
      · rw [decide_eq_false h, decide_eq_false (by omega)]
theorem alike_LZ : ∀ xs ys : List Nat, PySem.W.alikeAll (xs.map fun n => .int (n : Nat)) (ys.map fun n => .int (n : Nat)) = true
  | [], _ => by rw [List.map_nil, PySem.W.alikeAll]
  | _ :: _, [] => by rw [List.map_nil, List.map_cons, PySem.W.alikeAll]
  | x :: xs, y :: ys => by rw [List.map_cons, List.map_cons, PySem.W.alikeAll, alike_LZ xs ys, PySem.W.alike]; rfl
theorem lay_ints : ∀ xs : List Nat, PyData.canLayAll0 (xs.map fun n => .int (n : Nat)) = true
  | [] => rfl
  | x :: xs => by rw [List.map_cons, PyData.canLayAll0, lay_ints xs, PyData.canLay0]; rfl
theorem depth_ints : ∀ xs : List Nat, PyData.depthAll (xs.map fun n => .int (n : Nat)) ≤ 1
  | [] => by simp [PyData.depthAll]
  | w :: ws => by
    have := depth_ints ws
    simp only [List.map_cons, PyData.depthAll, PyData.depth]
    omega
theorem shaped_LZ (xs : List Nat) : SeqAt.shaped (LZ xs) = true := by
  have := depth_ints xs
  unfold SeqAt.shaped LZ
  rw [Bool.and_eq_true]
  refine ⟨by rw [PyData.canLay0, lay_ints], decide_eq_true ?_⟩
  rw [PyData.depth]
  omega
theorem dLtL_LZ (xs ys : List Nat) : dLtL (LZ xs) (LZ ys) = some (.bool (lx xs ys)) := by
  unfold dLtL dLtB
  have h1 : PySem.W.alike (LZ xs) (LZ ys) = true := by unfold LZ; rw [PySem.W.alike, alike_LZ]
  have h2 : (LZ xs).canLay0 = true := by unfold LZ; rw [PyData.canLay0, lay_ints]
  have h3 : (LZ ys).canLay0 = true := by unfold LZ; rw [PyData.canLay0, lay_ints]
  have h4 : (LZ xs).depth ≤ 60 := by unfold LZ; rw [PyData.depth]; have := depth_ints xs; omega
  have h5 : PyData.eqv (LZ xs) .none = false := rfl
  rw [if_pos (by rw [h1, h2, h3, h5, decide_eq_true h4]; rfl)]
  have h6 : PySem.W.dataLt (LZ xs) (LZ ys) = lx xs ys := by
    unfold LZ
    rw [PySem.W.dataLt_list, toks_lx]
  rw [h6]
  rfl
theorem dLen_LZ (xs : List Nat) : dLen [LZ xs] = some (.int (xs.length : Nat)) := by
  unfold LZ
  rw [dLen_l, List.length_map]
theorem less_ok (a b : List Nat) : f__law_less [LZ a, LZ b] = some (.bool (less a b)) := by
  rw [e__law_less]; unfold c__law_less less
  by_cases h : a.length = b.length
  · rw [if_neg (by simpa using h)]
    simp only [runD, sSeq, sNil, sAsg, sRet, sRetN, sIf, sFor, sExp, sFz, fz, sApp, sSet, sNo, sPass, sBrk, sCnt, fVar, fVarF, fVarC, fC, fBin, fUn, fIf, fB, bOf_b, cAnd, cOr, cNot, fCall, fApp, aCons, aNil, fLst, fTup, bName, bTup, bCons, bNil, sAsgT, List.getD_cons_zero, List.getD_cons_succ, List.map_cons, List.map_nil, List.cons_append, List.nil_append, List.length_cons, List.length_nil, List.replicate_succ, List.replicate_zero, clr, List.set_cons_zero, List.set_cons_succ, Nat.reduceAdd, Nat.reduceSub, Nat.reduceLT, Nat.reduceLeDiff, if_true, if_false, ↓reduceIte, ite_true, oMap_some, dAdd_i, dSub_i, dEq_i, dNe_i, dEq_s, dLt_i, dLe_i, dGt_i, dGe_i, dLen_LZ, decide_eq_true (show ((a.length : Nat) : Int) = (b.length : Nat) by omega), Bool.not_true, dLtL_LZ]
  · rw [if_pos h]
    have h2 : decide (((a.length : Nat) : Int) < (b.length : Nat)) = decide (a.length < b.length) := by
      by_cases h : a.length < b.length
      · rw [decide_eq_true h, decide_eq_true (by omega)]
      · rw [decide_eq_false h, decide_eq_false (by omega)]
    simp only [runD, sSeq, sNil, sAsg, sRet, sRetN, sIf, sFor, sExp, sFz, fz, sApp, sSet, sNo, sPass, sBrk, sCnt, fVar, fVarF, fVarC, fC, fBin, fUn, fIf, fB, bOf_b, cAnd, cOr, cNot, fCall, fApp, aCons, aNil, fLst, fTup, bName, bTup, bCons, bNil, sAsgT, List.getD_cons_zero, List.getD_cons_succ, List.map_cons, List.map_nil, List.cons_append, List.nil_append, List.length_cons, List.length_nil, List.replicate_succ, List.replicate_zero, clr, List.set_cons_zero, List.set_cons_succ, Nat.reduceAdd, Nat.reduceSub, Nat.reduceLT, Nat.reduceLeDiff, if_true, if_false, ↓reduceIte, ite_true, oMap_some, dAdd_i, dSub_i, dEq_i, dNe_i, dEq_s, dLt_i, dLe_i, dGt_i, dGe_i, dLen_LZ, decide_eq_false (show ¬ ((a.length : Nat) : Int) = (b.length : Nat) by omega), Bool.not_false, h2]
/-! ### what is known of rooms -/
abbrev Kn := List (Nat × List Nat)
def encK (kn : Kn) : List (D × D) := kn.map fun p => (.int (p.1 : Nat), LZ p.2)
def getN (kn : Kn) (t : Nat) : Option (List Nat) := (kn.find? fun p => decide (p.1 = t)).map (·.2)
def putN (kn : Kn) (t : Nat) (P : List Nat) : Kn := if (kn.any fun p => decide (p.1 = t)) = true then kn.map (fun p => if p.1 = t then (p.1, P) else p) else kn ++ [(t, P)]
theorem eqv_nat (a b : Nat) : PyData.eqv (.int (a : Nat)) (.int (b : Nat)) = decide (a = b) := by
  rw [PyData.eqv]
  by_cases h : a = b
  · subst h; simp
  · rw [decide_eq_false h]; exact beq_eq_false_iff_ne.mpr (by omega)
theorem look_N (t : Nat) : ∀ kn : Kn, dLook (encK kn) (.int (t : Nat)) = (getN kn t).map LZ
  | [] => rfl
  | p :: kn => by
    have ih := look_N t kn
    unfold dLook getN encK at *
    rw [List.map_cons, List.find?_cons, List.find?_cons]
    dsimp only
    rw [eqv_nat]
    by_cases h : p.1 = t
    · rw [decide_eq_true h]; rfl
    · rw [decide_eq_false h]; exact ih
theorem any_N (t : Nat) : ∀ kn : Kn, ((encK kn).any fun p => PyData.eqv p.1 (.int (t : Nat))) = kn.any fun p => decide (p.1 = t)
  | [] => rfl
  | p :: kn => by
    have ih := any_N t kn
    unfold encK at *
    rw [List.map_cons, List.any_cons, List.any_cons, ih]
    dsimp only
    rw [eqv_nat]
theorem put_N (t : Nat) (P : List Nat) (kn : Kn) : DI.dPut (encK kn) (.int (t : Nat)) (LZ P) = encK (putN kn t P) := by
  unfold DI.dPut putN
  rw [any_N]
  split
  · unfold encK
    rw [List.map_map, List.map_map]
    refine List.map_congr_left fun p _ => ?_
    simp only [Function.comp]
    rw [eqv_nat]
    by_cases h : p.1 = t
    · rw [decide_eq_true h, if_pos rfl, if_pos h]
    · rw [decide_eq_false h, if_neg Bool.false_ne_true, if_neg h]
  · unfold encK
    rw [List.map_append]
    rfl
theorem okKey_N (kn : Kn) (t : Nat) : okKey (encK kn) (.int (t : Nat)) = true := by
  cases kn with
  | nil => rfl
  | cons p kn => rfl
def DN (kn : Kn) : D := .dict (encK kn)
theorem notIn_N (kn : Kn) (t : Nat) : dNotIn (.int (t : Nat)) (DN kn) = some (.bool (getN kn t).isNone) := by
  unfold dNotIn
  show (if okKey (encK kn) (.int (t : Nat)) = true then some (dLook (encK kn) (.int (t : Nat))).isSome else none).map (fun b => PyData.bool !b) = _
  rw [if_pos (okKey_N kn t), look_N]
  cases getN kn t <;> rfl
theorem ix_N (kn : Kn) (t : Nat) : dIx (DN kn) (.int (t : Nat)) = (getN kn t).map LZ := by
  show (if okKey (encK kn) (.int (t : Nat)) = true then dLook (encK kn) (.int (t : Nat)) else none) = _
  rw [if_pos (okKey_N kn t), look_N]
def upd1 (kn : Kn) (t : Nat) (P : List Nat) : Kn := match getN kn t with
  | none => putN kn t P
  | some P0 => if less P P0 = true then putN kn t P else kn
theorem put_ok (kn : Kn) (t : Nat) (P : List Nat) (hl : kn.length < 1000000) : f__law_put (DN kn) [.int (t : Nat), LZ P] = some (.none, DN (upd1 kn t P)) := by
  rw [e__law_put]; unfold c__law_put runU upd1
  have ec : ∀ a b, fVarC 0 [some (.o, DN kn), a, b] = some (DN kn) := fun _ _ => rfl
  have hset : ∀ a b : Option (Md × D), sSet 0 (fVarF 2) [] (fVar 1) [some (.o, DN kn), some (.F, .int (t : Nat)), some (.F, LZ P)] = some (.nx [some (.o, DN (putN kn t P)), some (.F, .int (t : Nat)), some (.F, LZ P)]) := fun _ _ => by
    have hd : dSet (DN kn) (.int (t : Nat)) (LZ P) = some (DN (putN kn t P)) := by
      show (if okKey (encK kn) (.int (t : Nat)) = true ∧ (encK kn).length < 1000000 then some (PyData.dict (DI.dPut (encK kn) (.int (t : Nat)) (LZ P))) else none) = _
      rw [if_pos ⟨okKey_N kn t, by unfold encK; rw [List.length_map]; exact hl⟩, put_N]
      rfl
    simp only [runD, sSeq, sNil, sAsg, sRet, sRetN, sIf, sFor, sExp, sFz, fz, sApp, sSet, sNo, sPass, sBrk, sCnt, fVar, fVarF, fVarC, fC, fBin, fUn, fIf, fB, bOf_b, cAnd, cOr, cNot, fCall, fApp, aCons, aNil, fLst, fTup, bName, bTup, bCons, bNil, sAsgT, List.getD_cons_zero, List.getD_cons_succ, List.map_cons, List.map_nil, List.cons_append, List.nil_append, List.length_cons, List.length_nil, List.replicate_succ, List.replicate_zero, clr, List.set_cons_zero, List.set_cons_succ, Nat.reduceAdd, Nat.reduceSub, Nat.reduceLT, Nat.reduceLeDiff, if_true, if_false, ↓reduceIte, ite_true, oMap_some, dAdd_i, dSub_i, dEq_i, dNe_i, dEq_s, dLt_i, dLe_i, dGt_i, dGe_i, hd]
  cases hg : getN kn t with
  | none =>
    simp only [sIf, cOr, fBin, fVar, bOf_b, List.map_cons, List.map_nil, List.length_cons, List.length_nil, Nat.reduceAdd, Nat.reduceSub, List.replicate_zero, List.append_nil, List.cons_append, List.nil_append, List.getD_cons_zero, List.getD_cons_succ, notIn_N, hg, Option.isNone_none, hset none none, ↓reduceIte]
  | some P0 =>
    have hi := ix_N kn t
    rw [hg] at hi
    cases hl2 : less P P0 with
    | true =>
      simp only [sIf, cOr, fBin, fVar, fVarF, fCall, aCons, aNil, bOf_b, List.map_cons, List.map_nil, List.length_cons, List.length_nil, Nat.reduceAdd, Nat.reduceSub, List.replicate_zero, List.append_nil, List.cons_append, List.nil_append, List.getD_cons_zero, List.getD_cons_succ, notIn_N, hg, Option.isNone_some, ec, hi, oMap_some, less_ok, hl2, hset none none, ↓reduceIte]
    | false =>
      simp only [sIf, sNil, cOr, fBin, fVar, fVarF, fCall, aCons, aNil, bOf_b, List.map_cons, List.map_nil, List.length_cons, List.length_nil, Nat.reduceAdd, Nat.reduceSub, List.replicate_zero, List.append_nil, List.cons_append, List.nil_append, List.getD_cons_zero, List.getD_cons_succ, notIn_N, hg, Option.isNone_some, ec, hi, oMap_some, less_ok, hl2, ↓reduceIte]
      rw [if_neg Bool.false_ne_true]
end K82

set_option Elab.async false
set_option linter.all false
set_option maxRecDepth 100000
namespace K82
open PySem PySem.Spec PyProof.Rows L2 DI
theorem nodup_le : ∀ (m : Nat) (l : List Nat), l.Nodup → (∀ x ∈ l, x < m) → l.length ≤ m
  | 0, l, _, h => by
    cases l with
    | nil => exact Nat.le_refl _
    | cons x l => have := h x List.mem_cons_self; omega
  | m + 1, l, nd, h => by
    have h1 := nodup_le m (l.erase m) (nd.erase m) fun x hx => by
      obtain ⟨h2, h3⟩ := (nd.mem_erase_iff).mp hx
      have := h x h3
      omega
    have h2 := List.length_erase (a := m) (l := l)
    split at h2 <;> omega
def NK (m : Nat) (b : Kn) : Prop := (b.map (·.1)).Nodup ∧ ∀ p ∈ b, p.1 < m
theorem NK.len {m : Nat} {b : Kn} (h : NK m b) : b.length ≤ m := by
  have := nodup_le m _ h.1 fun x hx => by
    obtain ⟨p, hp, rfl⟩ := List.mem_map.mp hx
    exact h.2 p hp
  rwa [List.length_map] at this
theorem getN_none {kn : Kn} {t : Nat} : getN kn t = none ↔ ∀ p ∈ kn, p.1 ≠ t := by
  unfold getN
  rw [Option.map_eq_none_iff, List.find?_eq_none]
  simp
theorem getN_some {kn : Kn} {t : Nat} {P : List Nat} (h : getN kn t = some P) : (t, P) ∈ kn := by
  unfold getN at h
  obtain ⟨p, hp, rfl⟩ := Option.map_eq_some_iff.mp h
  have h1 := List.mem_of_find?_eq_some hp
  have h2 := List.find?_some hp
  have : p.1 = t := by simpa using h2
  subst this
  exact h1
theorem any_get {kn : Kn} {t : Nat} : (kn.any fun p => decide (p.1 = t)) = (getN kn t).isSome := by
  cases h : getN kn t with
  | none =>
    rw [getN_none] at h
    rw [Option.isSome_none, List.any_eq_false]
    intro p hp
    simpa using h p hp
  | some P =>
    rw [Option.isSome_some, List.any_eq_true]
    exact ⟨(t, P), getN_some h, by simp⟩
theorem uniq {m : Nat} {kn : Kn} (h : NK m kn) {t : Nat} {P P' : List Nat} (h1 : (t, P) ∈ kn) (h2 : (t, P') ∈ kn) : P = P' := by
  have nd := h.1
  clear h
  induction kn with
  | nil => cases h1
  | cons p kn ih =>
    rw [List.map_cons, List.nodup_cons] at nd
    rcases List.mem_cons.mp h1 with e1 | h1 <;> rcases List.mem_cons.mp h2 with e2 | h2
    · rw [← e1] at e2; cases e2; rfl
    · exact absurd (List.mem_map.mpr ⟨(t, P'), h2, rfl⟩) (by rw [← e1] at nd; exact nd.1)
    · exact absurd (List.mem_map.mpr ⟨(t, P), h1, rfl⟩) (by rw [← e2] at nd; exact nd.1)
    · exact ih h1 h2 nd.2
theorem NK.put {m : Nat} {kn : Kn} {t : Nat} {P : List Nat} (h : NK m kn) (ht : t < m) : NK m (putN kn t P) := by
  unfold putN
  split
  · have e : (kn.map fun p => if p.1 = t then (p.1, P) else p).map (·.1) = kn.map (·.1) := by
      rw [List.map_map]
      refine List.map_congr_left fun p _ => ?_
      simp only [Function.comp]
      split <;> rfl
    refine ⟨by rw [e]; exact h.1, fun p hp => ?_⟩
    have : p.1 ∈ (kn.map fun p => if p.1 = t then (p.1, P) else p).map (·.1) := List.mem_map.mpr ⟨p, hp, rfl⟩
    rw [e] at this
    obtain ⟨p', hp', e'⟩ := List.mem_map.mp this
    rw [← e']
    exact h.2 p' hp'
  · rename_i hn
    rw [any_get] at hn
    have hg : getN kn t = none := by
      cases q : getN kn t with
      | none => rfl
      | some _ => rw [q] at hn; exact absurd rfl hn
    rw [getN_none] at hg
    refine ⟨?_, fun p hp => ?_⟩
    · rw [List.map_append]
      refine List.nodup_append.mpr ⟨h.1, by simp, fun a ha b hb e => ?_⟩
      obtain ⟨p, hp, rfl⟩ := List.mem_map.mp ha
      simp at hb
      exact hg p hp (e.trans hb)
    · rcases List.mem_append.mp hp with hp | hp
      · exact h.2 p hp
      · rw [List.mem_singleton] at hp; subst hp; exact ht
theorem mem_putN {kn : Kn} {t : Nat} {P : List Nat} {t' : Nat} {P' : List Nat} : (t', P') ∈ putN kn t P ↔ (t' = t ∧ P' = P) ∨ (t' ≠ t ∧ (t', P') ∈ kn) := by
  unfold putN
  split
  · rename_i ha
    rw [List.mem_map]
    constructor
    · rintro ⟨p, hp, e⟩
      by_cases h : p.1 = t
      · rw [if_pos h] at e; cases e; exact .inl ⟨h, rfl⟩
      · rw [if_neg h] at e; subst e; exact .inr ⟨h, hp⟩
    · rintro (⟨rfl, rfl⟩ | ⟨h, hp⟩)
      · rw [List.any_eq_true] at ha
        obtain ⟨p, hp, e⟩ := ha
        have e : p.1 = t' := by simpa using e
        exact ⟨p, hp, by rw [if_pos e, e]⟩
      · exact ⟨_, hp, if_neg h⟩
  · rename_i hn
    rw [any_get] at hn
    have hg : getN kn t = none := by
      cases q : getN kn t with
      | none => rfl
      | some _ => rw [q] at hn; exact absurd rfl hn
    rw [getN_none] at hg
    rw [List.mem_append, List.mem_singleton]
    constructor
    · rintro (h | h)
      · exact .inr ⟨hg _ h, h⟩
      · cases h; exact .inl ⟨rfl, rfl⟩
    · rintro (⟨rfl, rfl⟩ | ⟨_, h⟩)
      · exact .inr rfl
      · exact .inl h
theorem NK.upd {m : Nat} {kn : Kn} {t : Nat} {P : List Nat} (h : NK m kn) (ht : t < m) : NK m (upd1 kn t P) := by
  unfold upd1
  split
  · exact h.put ht
  · split
    · exact h.put ht
    · exact h
/-- what upd1 holds comes from before, or is the new one; for each that was, and for the new one, there is one as good -/
theorem upd1_ok {m : Nat} {kn : Kn} {t : Nat} {P : List Nat} (h : NK m kn) :
    (∀ t' P', (t', P') ∈ upd1 kn t P → (t', P') ∈ kn ∨ (t' = t ∧ P' = P)) ∧ (∃ P', (t, P') ∈ upd1 kn t P ∧ le P' P) ∧ ∀ t' P0, (t', P0) ∈ kn → ∃ P', (t', P') ∈ upd1 kn t P ∧ le P' P0 := by
  unfold upd1
  cases hg : getN kn t with
  | none =>
    have hg' := getN_none.mp hg
    refine ⟨fun t' P' hm => ?_, ⟨P, mem_putN.mpr (.inl ⟨rfl, rfl⟩), le_refl P⟩, fun t' P0 hm => ⟨P0, mem_putN.mpr (.inr ⟨hg' _ hm, hm⟩), le_refl _⟩⟩
    rcases mem_putN.mp hm with h | h
    · exact .inr h
    · exact .inl h.2
  | some P0 =>
    have hm0 := getN_some hg
    dsimp only
    split
    · rename_i hl
      refine ⟨fun t' P' hm => ?_, ⟨P, mem_putN.mpr (.inl ⟨rfl, rfl⟩), le_refl P⟩, fun t' P1 hm => ?_⟩
      · rcases mem_putN.mp hm with h | h
        · exact .inr h
        · exact .inl h.2
      · by_cases e : t' = t
        · subst e
          have := uniq h hm hm0
          subst this
          exact ⟨P, mem_putN.mpr (.inl ⟨rfl, rfl⟩), le_of_less hl⟩
        · exact ⟨P1, mem_putN.mpr (.inr ⟨e, hm⟩), le_refl _⟩
    · rename_i hl
      exact ⟨fun _ _ hm => .inl hm, ⟨P0, hm0, by unfold le; simpa using hl⟩, fun t' P1 hm => ⟨P1, hm, le_refl _⟩⟩
/-! ### one letter more -/
def stepK (q : Rl) (x : Str) (k : Nat) (rest b : Kn) : Kn := rest.foldl (fun b p => match nxt q p.1 x with
  | none => b
  | some t => upd1 b t (p.2 ++ [k])) b
theorem stepK_ok {q : Rl} (hq : q.ok) (x : Str) (k : Nat) : ∀ (rest b : Kn), (∀ p ∈ rest, p.1 < q.rooms.length) → NK q.rooms.length b →
    NK q.rooms.length (stepK q x k rest b) ∧ (∀ t P, (t, P) ∈ stepK q x k rest b → (t, P) ∈ b ∨ ∃ r S, (r, S) ∈ rest ∧ nxt q r x = some t ∧ P = S ++ [k]) ∧
    (∀ t P, (t, P) ∈ b → ∃ P', (t, P') ∈ stepK q x k rest b ∧ le P' P) ∧ (∀ r S t, (r, S) ∈ rest → nxt q r x = some t → ∃ P', (t, P') ∈ stepK q x k rest b ∧ le P' (S ++ [k]))
  | [], b, _, hb => ⟨hb, fun t P h => .inl h, fun t P h => ⟨P, h, le_refl _⟩, fun r S t h => nomatch h⟩
  | (r0, S0) :: rest, b, hr, hb => by
    have hr0 : r0 < q.rooms.length := hr (r0, S0) List.mem_cons_self
    have hr' : ∀ p ∈ rest, p.1 < q.rooms.length := fun p hp => hr p (List.mem_cons_of_mem _ hp)
    cases hn : nxt q r0 x with
    | none =>
      have e : stepK q x k ((r0, S0) :: rest) b = stepK q x k rest b := by unfold stepK; rw [List.foldl_cons, hn]
      rw [e]
      obtain ⟨i1, i2, i3, i4⟩ := stepK_ok hq x k rest b hr' hb
      refine ⟨i1, fun t P h => ?_, i3, fun r S t h h2 => ?_⟩
      · rcases i2 t P h with h | ⟨r, S, h, h2⟩
        · exact .inl h
        · exact .inr ⟨r, S, List.mem_cons_of_mem _ h, h2⟩
      · rcases List.mem_cons.mp h with h | h
        · cases h; rw [hn] at h2; cases h2
        · exact i4 r S t h h2
    | some t0 =>
      have e : stepK q x k ((r0, S0) :: rest) b = stepK q x k rest (upd1 b t0 (S0 ++ [k])) := by unfold stepK; rw [List.foldl_cons, hn]
      rw [e]
      have ht0 := nxt_lt hq hr0 hn
      obtain ⟨u1, ⟨P1, u2, u2'⟩, u3⟩ := upd1_ok (t := t0) (P := S0 ++ [k]) hb
      obtain ⟨i1, i2, i3, i4⟩ := stepK_ok hq x k rest (upd1 b t0 (S0 ++ [k])) hr' (hb.upd ht0)
      refine ⟨i1, fun t P h => ?_, fun t P h => ?_, fun r S t h h2 => ?_⟩
      · rcases i2 t P h with h | ⟨r, S, h, h2⟩
        · rcases u1 t P h with h | ⟨rfl, rfl⟩
          · exact .inl h
          · exact .inr ⟨r0, S0, List.mem_cons_self, hn, rfl⟩
        · exact .inr ⟨r, S, List.mem_cons_of_mem _ h, h2⟩
      · obtain ⟨P', h1, h2⟩ := u3 t P h
        obtain ⟨P'', h3, h4⟩ := i3 t P' h1
        exact ⟨P'', h3, le_trans h4 h2⟩
      · rcases List.mem_cons.mp h with h | h
        · cases h
          rw [hn] at h2
          cases h2
          obtain ⟨P'', h3, h4⟩ := i3 _ P1 u2
          exact ⟨P'', h3, le_trans h4 u2'⟩
        · exact i4 r S t h h2
/-- known after k letters -/
def known (q : Rl) : List Str → Kn
  | [] => [(0, [])]
  | _ => []
theorem Sel.len {q : Rl} {xs : List Str} {a r r' : Nat} {S : List Nat} (h : Sel q xs a r S r') : S.length ≤ xs.length := by
  induction h with
  | nil => exact Nat.le_refl _
  | skip _ ih => rw [List.length_cons]; omega
  | take _ _ ih => rw [List.length_cons, List.length_cons]; omega
structure KI (q : Rl) (xs : List Str) (kn : Kn) : Prop where
  nk : NK q.rooms.length kn
  sel : ∀ r S, (r, S) ∈ kn → Sel q xs 0 0 S r
  min : ∀ r S', Sel q xs 0 0 S' r → ∃ S, (r, S) ∈ kn ∧ le S S'
theorem KI.start {q : Rl} (h0 : 0 < q.rooms.length) : KI q [] [(0, [])] where
  nk := ⟨by simp, fun p hp => by rw [List.mem_singleton] at hp; subst hp; exact h0⟩
  sel := fun r S h => by rw [List.mem_singleton] at h; cases h; exact .nil
  min := fun r S' h => by cases h; exact ⟨[], by simp, le_refl _⟩
theorem KI.step {q : Rl} (hq : q.ok) {xs : List Str} {x : Str} {kn : Kn} (h : KI q xs kn) : KI q (xs ++ [x]) (stepK q x xs.length kn kn) := by
  obtain ⟨i1, i2, i3, i4⟩ := stepK_ok hq x xs.length kn kn h.nk.2 h.nk
  refine ⟨i1, fun r S hm => ?_, fun r S' hs => ?_⟩
  · rcases i2 r S hm with hm' | ⟨r0, S0, hm', hn, rfl⟩
    · exact Sel.snoc.mpr (.inl (h.sel r S hm'))
    · exact Sel.snoc.mpr (.inr ⟨S0, r0, h.sel r0 S0 hm', hn, by rw [Nat.zero_add]⟩)
  · rcases Sel.snoc.mp hs with hs' | ⟨S0, r0, hs', hn, rfl⟩
    · obtain ⟨S, h1, h2⟩ := h.min r S' hs'
      obtain ⟨P, h3, h4⟩ := i3 r S h1
      exact ⟨P, h3, le_trans h4 h2⟩
    · obtain ⟨S, h1, h2⟩ := h.min r0 S0 hs'
      obtain ⟨P, h3, h4⟩ := i4 r0 S r h1 hn
      exact ⟨P, h3, le_trans h4 (by rw [Nat.zero_add]; exact le_snoc _ h2)⟩
/-! the best at the end -/
def best (q : Rl) (w : Str) (kn : Kn) (f : Option (List Nat)) : Option (List Nat) := kn.foldl (fun f p => if nxt q p.1 w = none then (match f with
  | none => some p.2
  | some g => if less p.2 g = true then some p.2 else some g) else f) f
theorem best_ok (q : Rl) (w : Str) : ∀ (kn : Kn) (f : Option (List Nat)), (∀ g, best q w kn f = some g → f = some g ∨ ∃ r, (r, g) ∈ kn ∧ nxt q r w = none) ∧
    (∀ g0, f = some g0 → ∃ g, best q w kn f = some g ∧ le g g0) ∧ ∀ r S, (r, S) ∈ kn → nxt q r w = none → ∃ g, best q w kn f = some g ∧ le g S
  | [], f => ⟨fun g h => .inl h, fun g0 h => ⟨g0, h, le_refl _⟩, fun r S h => nomatch h⟩
  | (r0, S0) :: kn, f => by
    by_cases hn : nxt q r0 w = none
    · have key : ∀ f', best q w ((r0, S0) :: kn) f = best q w kn f' → (f' = some S0 ∨ f' = f) → (∃ g, f' = some g ∧ le g S0) → (∀ g0, f = some g0 → ∃ g, f' = some g ∧ le g g0) →
          (∀ g, best q w ((r0, S0) :: kn) f = some g → f = some g ∨ ∃ r, (r, g) ∈ (r0, S0) :: kn ∧ nxt q r w = none) ∧
          (∀ g0, f = some g0 → ∃ g, best q w ((r0, S0) :: kn) f = some g ∧ le g g0) ∧ ∀ r S, (r, S) ∈ (r0, S0) :: kn → nxt q r w = none → ∃ g, best q w ((r0, S0) :: kn) f = some g ∧ le g S := fun f' e hf h1 h2 => by
        rw [e]
        obtain ⟨i1, i2, i3⟩ := best_ok q w kn f'
        refine ⟨fun g hg => ?_, fun g0 hg => ?_, fun r S hm hr => ?_⟩
        · rcases i1 g hg with h | ⟨r, h, h'⟩
          · rcases hf with hf | hf
            · rw [hf] at h; cases h; exact .inr ⟨r0, List.mem_cons_self, hn⟩
            · exact .inl (hf ▸ h)
          · exact .inr ⟨r, List.mem_cons_of_mem _ h, h'⟩
        · obtain ⟨g, h3, h4⟩ := h2 g0 hg
          obtain ⟨g', h5, h6⟩ := i2 g h3
          exact ⟨g', h5, le_trans h6 h4⟩
        · rcases List.mem_cons.mp hm with hm | hm
          · cases hm
            obtain ⟨g, h3, h4⟩ := h1
            obtain ⟨g', h5, h6⟩ := i2 g h3
            exact ⟨g', h5, le_trans h6 h4⟩
          · exact i3 r S hm hr
      cases f with
      | none => exact key (some S0) (by unfold best; rw [List.foldl_cons, if_pos hn]) (.inl rfl) ⟨S0, rfl, le_refl _⟩ fun g0 h => nomatch h
      | some g =>
        cases hl : less S0 g with
        | true => exact key (some S0) (by unfold best; rw [List.foldl_cons, if_pos hn]; dsimp only; rw [hl]; rfl) (.inl rfl) ⟨S0, rfl, le_refl _⟩ fun g0 h => by cases h; exact ⟨S0, rfl, le_of_less hl⟩
        | false => exact key (some g) (by unfold best; rw [List.foldl_cons, if_pos hn]; dsimp only; rw [hl]; rfl) (.inr rfl) ⟨g, rfl, hl⟩ fun g0 h => by cases h; exact ⟨g, rfl, le_refl _⟩
    · have e : best q w ((r0, S0) :: kn) f = best q w kn f := by unfold best; rw [List.foldl_cons, if_neg hn]
      rw [e]
      obtain ⟨i1, i2, i3⟩ := best_ok q w kn f
      refine ⟨fun g hg => ?_, i2, fun r S hm hr => ?_⟩
      · rcases i1 g hg with h | ⟨r, h, h'⟩
        · exact .inl h
        · exact .inr ⟨r, List.mem_cons_of_mem _ h, h'⟩
      · rcases List.mem_cons.mp hm with hm | hm
        · cases hm; exact absurd hr hn
        · exact i3 r S hm hr
/-- the law's list is the program's -/
theorem best_pk {q : Rl} (w : Str) (pre : List Str) (kn : Kn) (h : KI q pre kn) {r1 : Nat} (hs : Sel q pre 0 0 (List.range pre.length) r1) (hb : nxt q r1 w = none) : best q w kn none = some (pk q w pre 0 0) := by
  have hp := pk_least q w pre 0 0
  cases ht : tb q w pre 0 with
  | none => rw [ht] at hp; exact absurd hb (hp _ _ hs)
  | some m =>
    rw [ht] at hp
    obtain ⟨⟨r', h1, h2⟩, _, h4⟩ := hp
    obtain ⟨i1, _, i3⟩ := best_ok q w kn none
    obtain ⟨S, h5, h6⟩ := h.min r' _ h1
    obtain ⟨g, h7, h8⟩ := i3 r' S h5 h2
    rcases i1 g h7 with e | ⟨r'', h9, h10⟩
    · cases e
    · rw [h7, le_anti (le_trans h8 h6) (h4 g r'' (h.sel r'' g h9) h10)]
theorem sel_all {q : Rl} : ∀ (xs : List Str) (a r r1 : Nat), after q r xs = some r1 → Sel q xs a r ((List.range xs.length).map (a + ·)) r1
  | [], a, r, r1, h => by cases h; exact .nil
  | x :: xs, a, r, r1, h => by
    rw [after] at h
    split at h
    · cases h
    · rename_i t ht
      have ih := sel_all xs (a + 1) t r1 h
      have e : (List.range (x :: xs).length).map (a + ·) = a :: (List.range xs.length).map (a + 1 + ·) := by
        rw [List.length_cons, List.range_succ_eq_map, List.map_cons, List.map_map]
        congr 1
        refine List.map_congr_left fun i _ => ?_
        simp only [Function.comp]
        omega
      rw [e]
      exact .take ht ih
end K82

set_option Elab.async false
set_option linter.all false
set_option maxRecDepth 100000
namespace K82
open PySem PySem.Spec PyProof.Rows L2 DI
def itN (kn : Kn) : List D := kn.map fun p => .tuple [.int (p.1 : Nat), LZ p.2]
theorem items_N (kn : Kn) : itemsD (encK kn) = itN kn := by unfold itemsD encK itN; rw [List.map_map]; rfl
theorem forItems_N {i : Nat} {b : D → En → Option En} {s : En → Option Out} {ρ : En} {kn : Kn} (h : ρ.getD i none = some (.F, DN kn)) : sForItems i b s ρ = fLoop b s (itN kn) ρ := by
  unfold sForItems
  rw [h]
  unfold DN
  cases kn with
  | nil => rw [← items_N]; rfl
  | cons p kn => rw [← items_N]; rfl
def El (q : Rl) (row : List Str) (KD : Option (Md × D)) (k : Nat) (f4 : Option (Md × D)) (b : Kn) (x6 x7 x8 : Option (Md × D)) : En :=
  [some (.F, enc q), some (.F, LD row), KD, some (.F, .int (k : Nat)), f4, some (.o, DN b), x6, x7, x8]
theorem least_loop1 {q : Rl} (hq : q.ok) (hm : q.rooms.length ≤ 1000) (row : List Str) (KD : Option (Md × D)) (k : Nat) (hk : k < row.length) (hk2 : k ≤ 1000) (f4 : Option (Md × D)) : ∀ (rest b : Kn) (x6 x7 x8 : Option (Md × D)), (∀ p ∈ rest, p.1 < q.rooms.length ∧ p.2.length ≤ 1000) → NK q.rooms.length b →
    ∃ x6' x7' x8', fLoop (bTup 2 (bCons (bName 6) (bCons (bName 7) bNil))) (sSeq (sAsg 8 .F (fCall 3 f__law_next (aCons (fVarF 0) (aCons (fVarF 6) (aCons (fBin dIx (fVarC 1) (fVar 3)) aNil)))) []) (sIf (fun ρ => bOf (fBin dNotN (fVar 8) (fC .none) ρ)) (sCallU 5 .o 3 f__law_put (aCons (fVarF 8) (aCons (fBin dCat (fVarC 7) (fLst (aCons (fVarF 3) aNil))) aNil))) sNil)) (itN rest) (El q row KD k f4 b x6 x7 x8) =
      some (.nx (El q row KD k f4 (stepK q row[k] k rest b) x6' x7' x8'))
  | [], b, x6, x7, x8, _, _ => ⟨x6, x7, x8, rfl⟩
  | (r, S) :: rest, b, x6, x7, x8, hr, hb => by
    have hr0 : r < q.rooms.length := (hr (r, S) List.mem_cons_self).1
    have hS : S.length ≤ 1000 := (hr (r, S) List.mem_cons_self).2
    have hr' : ∀ p ∈ rest, p.1 < q.rooms.length ∧ p.2.length ≤ 1000 := fun p hp => hr p (List.mem_cons_of_mem _ hp)
    have hn := law_next_ok hq hr0 row[k]
    have hrow : dIx (LD row) (.int (k : Nat)) = some (.str row[k]) := by
      unfold LD
      rw [dIx_l (by simpa using hk), List.getElem_map]
    have ec1 : ∀ a b c d e f g h, fVarC 1 [a, some (.F, LD row), b, c, d, e, f, g, h] = some (LD row) := fun _ _ _ _ _ _ _ _ => rfl
    have ec7 : ∀ a b c d e f g h, fVarC 7 [a, b, c, d, e, f, g, some (.F, LZ S), h] = some (LZ S) := fun _ _ _ _ _ _ _ _ => rfl
    cases ht : nxt q r row[k] with
    | none =>
      rw [ht] at hn
      obtain ⟨x6', x7', x8', ih⟩ := least_loop1 hq hm row KD k hk hk2 f4 rest b (some (.F, .int (r : Nat))) (some (.F, LZ S)) (some (.F, .none)) hr' hb
      have e : stepK q row[k] k ((r, S) :: rest) b = stepK q row[k] k rest b := by unfold stepK; rw [List.foldl_cons, ht]
      refine ⟨x6', x7', x8', ?_⟩
      rw [e, ← ih]
      refine fLoop_nx rfl ?_
      unfold El
      simp only [runD, sSeq, sNil, sAsg, sRet, sRetN, sIf, sFor, sExp, sFz, fz, sApp, sSet, sNo, sPass, sBrk, sCnt, fVar, fVarF, fVarC, fC, fBin, fUn, fIf, fB, bOf_b, cAnd, cOr, cNot, fCall, fApp, aCons, aNil, fLst, fTup, bName, bTup, bCons, bNil, sAsgT, List.getD_cons_zero, List.getD_cons_succ, List.map_cons, List.map_nil, List.cons_append, List.nil_append, List.length_cons, List.length_nil, List.replicate_succ, List.replicate_zero, clr, List.set_cons_zero, List.set_cons_succ, Nat.reduceAdd, Nat.reduceSub, Nat.reduceLT, Nat.reduceLeDiff, if_true, if_false, ↓reduceIte, ite_true, oMap_some, dAdd_i, dSub_i, dEq_i, dNe_i, dEq_s, dLt_i, dLe_i, dGt_i, dGe_i, ec1, hrow, hn, encO_n, dNotN_n, DI.isNon, Bool.not_true]
    | some t =>
      rw [ht] at hn
      have ht0 := nxt_lt hq hr0 ht
      obtain ⟨x6', x7', x8', ih⟩ := least_loop1 hq hm row KD k hk hk2 f4 rest (upd1 b t (S ++ [k])) (some (.F, .int (r : Nat))) (some (.F, LZ S)) (some (.F, .int (t : Nat))) hr' (hb.upd ht0)
      have e : stepK q row[k] k ((r, S) :: rest) b = stepK q row[k] k rest (upd1 b t (S ++ [k])) := by unfold stepK; rw [List.foldl_cons, ht]
      have hput := put_ok b t (S ++ [k]) (by have := hb.len; omega)
      refine ⟨x6', x7', x8', ?_⟩
      rw [e, ← ih]
      refine fLoop_nx rfl ?_
      unfold El
      simp only [sSeq, sNil, sAsg, sIf, fBin, fVar, fCall, aCons, aNil, fVarF, fC, fLst, List.getD_cons_zero, List.getD_cons_succ, bOf_b, List.length_cons, List.length_nil, Nat.reduceAdd, Nat.reduceLT, Nat.reduceLeDiff, ↓reduceIte, if_true, clr, List.set_cons_zero, List.set_cons_succ, ec1, ec7, hrow, hn, encO_n, encO_s, dNotN_n, DI.isNon, Bool.not_true, Bool.not_false, sCallU, dCat_LZ S k (by omega), hput, and_self]
def E2 (q : Rl) (row : List Str) (kn : Kn) (x3 x4 x5 x6 x7 x8 : Option (Md × D)) : En := [some (.F, enc q), some (.F, LD row), some (.F, DN kn), x3, x4, x5, x6, x7, x8]
theorem dict_N (kn : Kn) : dDict [DN kn] = some (DN kn) := by
  unfold DN
  cases kn with
  | nil => rfl
  | cons p kn => rfl
theorem least_loop2 {q : Rl} (hq : q.ok) (h0 : 0 < q.rooms.length) (hm : q.rooms.length ≤ 1000) (pre : List Str) (w : Str) (hp : pre.length ≤ 1000) (x4 x6 x7 x8 : Option (Md × D)) :
    ∃ ρ', L2__law_least (E2 q (pre ++ [w]) [(0, [])] none x4 none x6 x7 x8) = some (.nx ρ') ∧ ∃ kn x3 x5 x6 x7 x8, KI q pre kn ∧ ρ' = E2 q (pre ++ [w]) kn x3 x4 x5 x6 x7 x8 := by
  rw [e_L2__law_least]
  have hmain := sForR_inv (f := fBin dSub (fApp dLen (aCons (fVar 1) aNil)) (fC (.int 1))) (b := bName 3) (s := sSeq (sAsg 5 .o (fApp dDict (aCons (fVarC 2) aNil)) []) (sSeq L1__law_least (sFz 5 (sAsg 2 .F (fVarF 5) [])))) (n := pre.length) (ρ := E2 q (pre ++ [w]) [(0, [])] none x4 none x6 x7 x8)
    (fun i ρ => ∃ kn x3 x5 x6 x7 x8, KI q (pre.take i) kn ∧ ρ = E2 q (pre ++ [w]) kn x3 x4 x5 x6 x7 x8) ?_ ⟨[(0, [])], none, none, x6, x7, x8, KI.start h0, rfl⟩ ?_
  · obtain ⟨ρ', h1, kn, x3, x5, x6, x7, x8, h2, h3⟩ := hmain
    rw [List.take_length] at h2
    exact ⟨ρ', h1, kn, x3, x5, x6, x7, x8, h2, h3⟩
  · refine fRange1_n (n := pre.length) ?_ (by omega)
    have hl : dLen [LD (pre ++ [w])] = some (.int ((pre.length : Int) + 1)) := by
      unfold LD
      rw [dLen_l, List.length_map, List.length_append]
      rfl
    have e1 : ((pre.length : Int) + 1 - 1) = ((pre.length : Nat) : Int) := by omega
    unfold E2
    simp only [runD, sSeq, sNil, sAsg, sRet, sRetN, sIf, sFor, sExp, sFz, fz, sApp, sSet, sNo, sPass, sBrk, sCnt, fVar, fVarF, fVarC, fC, fBin, fUn, fIf, fB, bOf_b, cAnd, cOr, cNot, fCall, fApp, aCons, aNil, fLst, fTup, bName, bTup, bCons, bNil, sAsgT, List.getD_cons_zero, List.getD_cons_succ, List.map_cons, List.map_nil, List.cons_append, List.nil_append, List.length_cons, List.length_nil, List.replicate_succ, List.replicate_zero, clr, List.set_cons_zero, List.set_cons_succ, Nat.reduceAdd, Nat.reduceSub, Nat.reduceLT, Nat.reduceLeDiff, if_true, if_false, ↓reduceIte, ite_true, oMap_some, dAdd_i, dSub_i, dEq_i, dNe_i, dEq_s, dLt_i, dLe_i, dGt_i, dGe_i, hl, e1]
  · rintro i ρ hi ⟨kn, x3, x5, x6, x7, x8, hk, rfl⟩
    have hrl : i < (pre ++ [w]).length := by rw [List.length_append]; omega
    have hlen : (pre.take i).length = i := by rw [List.length_take]; omega
    have hrest : ∀ p ∈ kn, p.1 < q.rooms.length ∧ p.2.length ≤ 1000 := fun p hp' => ⟨hk.nk.2 p hp', by
      have := (hk.sel p.1 p.2 hp').len
      omega⟩
    obtain ⟨x6', x7', x8', hl⟩ := least_loop1 hq hm (pre ++ [w]) (some (.F, DN kn)) i hrl (by omega) x4 kn kn x6 x7 x8 hrest hk.nk
    have hL := (congrFun e_L1__law_least (El q (pre ++ [w]) (some (.F, DN kn)) i x4 kn x6 x7 x8)).trans ((forItems_N rfl).trans hl)
    have hat : (pre ++ [w])[i] = pre[i] := List.getElem_append_left hi
    have hk' := hk.step hq (x := pre[i])
    rw [hlen, List.take_append_getElem hi] at hk'
    rw [hat] at hL
    refine ⟨_, E2 q (pre ++ [w]) (stepK q pre[i] i kn kn) (some (.F, .int (i : Nat))) x4 (some (.F, DN (stepK q pre[i] i kn kn))) x6' x7' x8', rfl, .inl ?_, _, _, _, _, _, _, hk', rfl⟩
    unfold El at hL
    unfold E2
    have ec2 : ∀ a b c d e f g h, fVarC 2 [a, b, some (.F, DN kn), c, d, e, f, g, h] = some (DN kn) := fun _ _ _ _ _ _ _ _ => rfl
    simp only [runD, sSeq, sNil, sAsg, sRet, sRetN, sIf, sFor, sExp, sFz, fz, sApp, sSet, sNo, sPass, sBrk, sCnt, fVar, fVarF, fVarC, fC, fBin, fUn, fIf, fB, bOf_b, cAnd, cOr, cNot, fCall, fApp, aCons, aNil, fLst, fTup, bName, bTup, bCons, bNil, sAsgT, List.getD_cons_zero, List.getD_cons_succ, List.map_cons, List.map_nil, List.cons_append, List.nil_append, List.length_cons, List.length_nil, List.replicate_succ, List.replicate_zero, clr, List.set_cons_zero, List.set_cons_succ, Nat.reduceAdd, Nat.reduceSub, Nat.reduceLT, Nat.reduceLeDiff, if_true, if_false, ↓reduceIte, ite_true, oMap_some, dAdd_i, dSub_i, dEq_i, dNe_i, dEq_s, dLt_i, dLe_i, dGt_i, dGe_i, ec2, dict_N, hL]
def E3 (q : Rl) (row : List Str) (kn : Kn) (x3 : Option (Md × D)) (f : Option (List Nat)) (x5 x6 x7 x8 : Option (Md × D)) : En := [some (.F, enc q), some (.F, LD row), some (.F, DN kn), x3, some (.F, match f with | none => .none | some g => LZ g), x5, x6, x7, x8]
theorem least_loop3 {q : Rl} (hq : q.ok) (pre : List Str) (w : Str) (kn0 : Kn) (x3 x5 : Option (Md × D)) : ∀ (kn : Kn) (f : Option (List Nat)) (x6 x7 x8 : Option (Md × D)), (∀ p ∈ kn, p.1 < q.rooms.length) →
    ∃ x6' x7', fLoop (bTup 2 (bCons (bName 6) (bCons (bName 7) bNil))) (sIf (cAnd (fun ρ => bOf (fBin dIsN (fCall 3 f__law_next (aCons (fVarF 0) (aCons (fVarF 6) (aCons (fBin dIx (fVarC 1) (fUn dNeg (fC (.int 1)))) aNil)))) (fC .none) ρ)) (cOr (fun ρ => bOf (fBin dIsN (fVar 4) (fC .none) ρ)) (fun ρ => bOf ((fCall 2 f__law_less (aCons (fVarF 7) (aCons (fVarF 4) aNil))) ρ)))) (sAsg 4 .F (fVarF 7) []) sNil) (itN kn) (E3 q (pre ++ [w]) kn0 x3 f x5 x6 x7 x8) =
      some (.nx (E3 q (pre ++ [w]) kn0 x3 (best q w kn f) x5 x6' x7' x8))
  | [], f, x6, x7, x8, _ => ⟨x6, x7, rfl⟩
  | (r, S) :: kn, f, x6, x7, x8, hr => by
    have hr0 : r < q.rooms.length := hr (r, S) List.mem_cons_self
    have hn := law_next_ok hq hr0 w
    have hneg : dNeg (.int 1) = some (.int (-1)) := rfl
    have hlast : dIx (LD (pre ++ [w])) (.int (-1)) = some (.str w) := by
      unfold LD
      rw [List.map_append]
      exact dIx_last _ _
    have ec1 : ∀ a b c d e f g h, fVarC 1 [a, some (.F, LD (pre ++ [w])), b, c, d, e, f, g, h] = some (LD (pre ++ [w])) := fun _ _ _ _ _ _ _ _ => rfl
    have go : ∀ f', best q w ((r, S) :: kn) f = best q w kn f' → sIf (cAnd (fun ρ => bOf (fBin dIsN (fCall 3 f__law_next (aCons (fVarF 0) (aCons (fVarF 6) (aCons (fBin dIx (fVarC 1) (fUn dNeg (fC (.int 1)))) aNil)))) (fC .none) ρ)) (cOr (fun ρ => bOf (fBin dIsN (fVar 4) (fC .none) ρ)) (fun ρ => bOf ((fCall 2 f__law_less (aCons (fVarF 7) (aCons (fVarF 4) aNil))) ρ)))) (sAsg 4 .F (fVarF 7) []) sNil (E3 q (pre ++ [w]) kn0 x3 f x5 (some (.F, .int (r : Nat))) (some (.F, LZ S)) x8) = some (.nx (E3 q (pre ++ [w]) kn0 x3 f' x5 (some (.F, .int (r : Nat))) (some (.F, LZ S)) x8)) →
        ∃ x6' x7', fLoop (bTup 2 (bCons (bName 6) (bCons (bName 7) bNil))) (sIf (cAnd (fun ρ => bOf (fBin dIsN (fCall 3 f__law_next (aCons (fVarF 0) (aCons (fVarF 6) (aCons (fBin dIx (fVarC 1) (fUn dNeg (fC (.int 1)))) aNil)))) (fC .none) ρ)) (cOr (fun ρ => bOf (fBin dIsN (fVar 4) (fC .none) ρ)) (fun ρ => bOf ((fCall 2 f__law_less (aCons (fVarF 7) (aCons (fVarF 4) aNil))) ρ)))) (sAsg 4 .F (fVarF 7) []) sNil) (itN ((r, S) :: kn)) (E3 q (pre ++ [w]) kn0 x3 f x5 x6 x7 x8) =
          some (.nx (E3 q (pre ++ [w]) kn0 x3 (best q w ((r, S) :: kn) f) x5 x6' x7' x8)) := fun f' e hs => by
      obtain ⟨x6', x7', ih⟩ := least_loop3 hq pre w kn0 x3 x5 kn f' (some (.F, .int (r : Nat))) (some (.F, LZ S)) x8 fun p hp => hr p (List.mem_cons_of_mem _ hp)
      refine ⟨x6', x7', ?_⟩
      rw [e, ← ih]
      exact fLoop_nx rfl hs
    cases ht : nxt q r w with
    | some t =>
      rw [ht] at hn
      refine go f (by unfold best; rw [List.foldl_cons, if_neg (by rw [ht]; simp)]) ?_
      unfold E3
      simp only [sNil, sIf, cAnd, cOr, fBin, fUn, fVar, fCall, aCons, aNil, fVarF, fC, List.getD_cons_zero, List.getD_cons_succ, bOf_b, List.length_cons, List.length_nil, Nat.reduceAdd, ↓reduceIte, hneg, ec1, hlast, hn, encO_s, dIsN_n, DI.isNon]
    | none =>
      rw [ht] at hn
      cases f with
      | none =>
        refine go (some S) (by unfold best; rw [List.foldl_cons, if_pos ht]) ?_
        unfold E3
        simp only [sNil, sIf, sAsg, cAnd, cOr, fBin, fUn, fVar, fCall, aCons, aNil, fVarF, fC, List.getD_cons_zero, List.getD_cons_succ, bOf_b, List.length_cons, List.length_nil, Nat.reduceAdd, Nat.reduceLT, ↓reduceIte, hneg, ec1, hlast, hn, encO_n, dIsN_n, DI.isNon, clr, List.set_cons_zero, List.set_cons_succ]
      | some g =>
        have hz : DI.isNon (LZ g) = false := rfl
        have hzn : DI.isNon (.none : D) = true := rfl
        cases hl : less S g with
        | true =>
          refine go (some S) (by unfold best; rw [List.foldl_cons, if_pos ht]; dsimp only; rw [hl]; rfl) ?_
          unfold E3
          simp only [sNil, sIf, sAsg, cAnd, cOr, fBin, fUn, fVar, fCall, aCons, aNil, fVarF, fC, List.getD_cons_zero, List.getD_cons_succ, bOf_b, List.length_cons, List.length_nil, Nat.reduceAdd, Nat.reduceLT, ↓reduceIte, hneg, ec1, hlast, hn, encO_n, dIsN_n, hzn, clr, List.set_cons_zero, List.set_cons_succ, hz, less_ok, hl]
        | false =>
          refine go (some g) (by unfold best; rw [List.foldl_cons, if_pos ht]; dsimp only; rw [hl]; rfl) ?_
          unfold E3
          simp only [sNil, sIf, sAsg, cAnd, cOr, fBin, fUn, fVar, fCall, aCons, aNil, fVarF, fC, List.getD_cons_zero, List.getD_cons_succ, bOf_b, List.length_cons, List.length_nil, Nat.reduceAdd, Nat.reduceLT, ↓reduceIte, hneg, ec1, hlast, hn, encO_n, dIsN_n, hzn, clr, List.set_cons_zero, List.set_cons_succ, hz, less_ok, hl]
theorem least_ok {q : Rl} (hq : q.ok) (h0 : 0 < q.rooms.length) (hm : q.rooms.length ≤ 1000) (w : Str) (pre : List Str) (hp : pre.length ≤ 1000) {r1 : Nat} (h1 : after q 0 pre = some r1) (h2 : nxt q r1 w = none) :
    f__law_least [enc q, LD (pre ++ [w])] = some (LZ (pk q w pre 0 0 ++ [pre.length])) := by
  rw [e__law_least]; unfold c__law_least
  obtain ⟨ρ', g1, kn, x3, x5, x6, x7, x8, hk, rfl⟩ := least_loop2 hq h0 hm pre w hp none none none none
  obtain ⟨x6', x7', g2⟩ := least_loop3 hq pre w kn x3 x5 kn none x6 x7 x8 hk.nk.2
  have hall := sel_all pre 0 0 r1 h1
  have e0 : (List.range pre.length).map (0 + ·) = List.range pre.length := by
    rw [show ((0 + ·) : Nat → Nat) = id from funext fun k => Nat.zero_add k, List.map_id]
  rw [e0] at hall
  rw [best_pk w pre kn hk hall h2] at g2
  have hd : fDisp (pCons (fC (.int 0)) (fLst aNil) pNil) [some (.F, enc q), some (.F, LD (pre ++ [w])), none, none, none, none, none, none, none] = some (DN [(0, [])]) := rfl
  have hl : dLen [LD (pre ++ [w])] = some (.int ((pre.length : Int) + 1)) := by
    unfold LD
    rw [dLen_l, List.length_map, List.length_append]
    rfl
  have e1 : ((pre.length : Int) + 1 - 1) = ((pre.length : Nat) : Int) := by omega
  have hpl := pk_len q w pre 0 0
  have hL3 := (congrFun e_L3__law_least (E3 q (pre ++ [w]) kn x3 none x5 x6 x7 x8)).trans ((forItems_N rfl).trans g2)
  unfold E2 at g1
  unfold E3 at hL3
  have ec : ∀ a b c d e f g h, fVarC 4 [a, b, c, d, some (.F, LZ (pk q w pre 0 0)), e, f, g, h] = some (LZ (pk q w pre 0 0)) := fun _ _ _ _ _ _ _ _ => rfl
  simp only [runD, sSeq, sNil, sAsg, sRet, sRetN, sIf, sFor, sExp, sFz, fz, sApp, sSet, sNo, sPass, sBrk, sCnt, fVar, fVarF, fVarC, fC, fBin, fUn, fIf, fB, bOf_b, cAnd, cOr, cNot, fCall, fApp, aCons, aNil, fLst, fTup, bName, bTup, bCons, bNil, sAsgT, List.getD_cons_zero, List.getD_cons_succ, List.map_cons, List.map_nil, List.cons_append, List.nil_append, List.length_cons, List.length_nil, List.replicate_succ, List.replicate_zero, clr, List.set_cons_zero, List.set_cons_succ, Nat.reduceAdd, Nat.reduceSub, Nat.reduceLT, Nat.reduceLeDiff, if_true, if_false, ↓reduceIte, ite_true, oMap_some, dAdd_i, dSub_i, dEq_i, dNe_i, dEq_s, dLt_i, dLe_i, dGt_i, dGe_i, hd, g1, hL3, ec, hl, e1, dCat_LZ _ _ (show (pk q w pre 0 0).length < 1000000 by omega)]
end K82

set_option Elab.async false
set_option linter.all false
set_option maxRecDepth 100000
namespace K82
open PySem PySem.Spec PyProof.Rows L2 DI
theorem sort_LD (ts : List Str) (h : ts.length < 64) : dSortS [LD ts] = some (LD (sortS ts)) := by
  show (match allStr (ts.map .str) with | some ss => if ss.length < 64 then some (PyData.list ((sortS ss).map .str)) else none | none => none) = _
  rw [allStr_map]
  show (if ts.length < 64 then _ else _) = _
  rw [if_pos h]
  rfl
def W (n : Nat) (ts : List Str) : Prop := Short n ts
theorem q1r_ok (c : Int) (ws : List Str) (m : Nat) (hw : ws.length = 5) (hm : 1 + c / 2 % 5 = (m : Nat)) (x2 x3 x4 x5 x6 x7 x8 x9 x10 : Option (Md × D)) :
    Q1__law_rule [some (.F, .int c), some (.F, LD ws), x2, x3, x4, x5, x6, x7, x8, x9, x10] = some (LD ((List.range m).map fun k => ws.getD k "")) := by
  have h5 : 0 ≤ c / 2 % 5 := Int.emod_nonneg _ (by decide)
  have h5' : c / 2 % 5 < 5 := Int.emod_lt_of_pos _ (by decide)
  rw [e_Q1__law_rule]
  unfold LD
  rw [List.map_map]
  refine fLc_map (fun (i : Nat) => .int (i : Nat)) _ (List.range m) rfl ?_ (by rw [List.length_range]; omega) ?_
  · refine fRange1_n (n := m) ?_ (by omega)
    simp only [runD, sSeq, sNil, sAsg, sRet, sRetN, sIf, sFor, sExp, sFz, fz, sApp, sSet, sNo, sPass, sBrk, sCnt, fVar, fVarF, fVarC, fC, fBin, fUn, fIf, fB, bOf_b, cAnd, cOr, cNot, fCall, fApp, aCons, aNil, fLst, fTup, bName, bTup, bCons, bNil, sAsgT, List.getD_cons_zero, List.getD_cons_succ, List.map_cons, List.map_nil, List.cons_append, List.nil_append, List.length_cons, List.length_nil, List.replicate_succ, List.replicate_zero, clr, List.set_cons_zero, List.set_cons_succ, Nat.reduceAdd, Nat.reduceSub, Nat.reduceLT, Nat.reduceLeDiff, if_true, if_false, ↓reduceIte, ite_true, oMap_some, dAdd_i, dSub_i, dEq_i, dNe_i, dEq_s, dLt_i, dLe_i, dGt_i, dGe_i, dMod_i _ 5 (by decide), dDiv_i _ 2 (by decide) (by decide), hm]
  · intro i hi
    have hil := List.mem_range.mp hi
    have hil5 : i < ws.length := by omega
    have ec : ∀ a b c d e f g h i j, fVarC 1 [a, some (.F, .list (ws.map .str)), b, c, d, e, f, g, h, i, j] = some (.list (ws.map .str)) := fun _ _ _ _ _ _ _ _ _ _ => rfl
    refine ⟨_, rfl, rfl, ?_⟩
    have hix : dIx (.list (ws.map .str)) (.int (i : Nat)) = some (.str ws[i]) := by
      rw [dIx_l (by simpa using hil5), List.getElem_map]
    simp only [runD, sSeq, sNil, sAsg, sRet, sRetN, sIf, sFor, sExp, sFz, fz, sApp, sSet, sNo, sPass, sBrk, sCnt, fVar, fVarF, fVarC, fC, fBin, fUn, fIf, fB, bOf_b, cAnd, cOr, cNot, fCall, fApp, aCons, aNil, fLst, fTup, bName, bTup, bCons, bNil, sAsgT, List.getD_cons_zero, List.getD_cons_succ, List.map_cons, List.map_nil, List.cons_append, List.nil_append, List.length_cons, List.length_nil, List.replicate_succ, List.replicate_zero, clr, List.set_cons_zero, List.set_cons_succ, Nat.reduceAdd, Nat.reduceSub, Nat.reduceLT, Nat.reduceLeDiff, if_true, if_false, ↓reduceIte, ite_true, oMap_some, dAdd_i, dSub_i, dEq_i, dNe_i, dEq_s, dLt_i, dLe_i, dGt_i, dGe_i, ec, hix]
    simp [Function.comp, hil5]
def p12 (n : Int) : Str := if n = 0 then "1." else "2."
theorem p12_len (n : Int) : (p12 n).length = 2 := by unfold p12; split <;> decide +kernel
theorem p12_ok (n : Int) : PyData.strOk (p12 n) = true := by unfold p12; split <;> decide +kernel
theorem q2r_ok (c : Int) (ts : List Str) (ht : ts.length ≤ 5) (hs : Short 8 ts) (x1 x2 x4 x5 x6 x7 x8 x9 x10 : Option (Md × D)) :
    ∃ us : List Str, us.length = ts.length ∧ Short 10 us ∧ Q2__law_rule [some (.F, .int c), x1, x2, some (.F, LD ts), x4, x5, x6, x7, x8, x9, x10] = some (LD us) := by
  refine ⟨(List.range ts.length).map fun k => (p12 (mixed c (60 + (k : Nat)) % 2)) ++ ts.getD k "", by simp, ?_, ?_⟩
  · intro w hw
    obtain ⟨k, hk, rfl⟩ := List.mem_map.mp hw
    have hkl := List.mem_range.mp hk
    have e : ts.getD k "" = ts[k] := by simp [hkl]
    rw [e]
    obtain ⟨h1, h2⟩ := hs _ (List.getElem_mem hkl)
    refine ⟨?_, strOk_app (p12_ok _) h2⟩
    rw [app_len, p12_len]
    omega
  · rw [e_Q2__law_rule]
    unfold LD
    rw [List.map_map]
    refine fLc_map (fun (i : Nat) => .int (i : Nat)) _ (List.range ts.length) rfl ?_ (by rw [List.length_range]; omega) ?_
    · refine fRange1_n (n := ts.length) ?_ (by omega)
      simp only [runD, sSeq, sNil, sAsg, sRet, sRetN, sIf, sFor, sExp, sFz, fz, sApp, sSet, sNo, sPass, sBrk, sCnt, fVar, fVarF, fVarC, fC, fBin, fUn, fIf, fB, bOf_b, cAnd, cOr, cNot, fCall, fApp, aCons, aNil, fLst, fTup, bName, bTup, bCons, bNil, sAsgT, List.getD_cons_zero, List.getD_cons_succ, List.map_cons, List.map_nil, List.cons_append, List.nil_append, List.length_cons, List.length_nil, List.replicate_succ, List.replicate_zero, clr, List.set_cons_zero, List.set_cons_succ, Nat.reduceAdd, Nat.reduceSub, Nat.reduceLT, Nat.reduceLeDiff, if_true, if_false, ↓reduceIte, ite_true, oMap_some, dAdd_i, dSub_i, dEq_i, dNe_i, dEq_s, dLt_i, dLe_i, dGt_i, dGe_i, dLen_l, List.length_map]
    · intro k hk
      have hkl := List.mem_range.mp hk
      have e : ts.getD k "" = ts[k] := by simp [hkl]
      have hix : dIx (.list (ts.map .str)) (.int (k : Nat)) = some (.str ts[k]) := by
        rw [dIx_l (by simpa using hkl), List.getElem_map]
      have hmx := mixed_ok c (60 + (k : Nat)) (by omega) (by omega)
      have h12 : dIx (.list [.str "1.", .str "2."]) (.int (mixed c (60 + (k : Nat)) % 2)) = some (.str (p12 (mixed c (60 + (k : Nat)) % 2))) := by
        have h0 : 0 ≤ mixed c (60 + (k : Nat)) % 2 := Int.emod_nonneg _ (by decide)
        have h1 : mixed c (60 + (k : Nat)) % 2 < 2 := Int.emod_lt_of_pos _ (by decide)
        by_cases h : mixed c (60 + (k : Nat)) % 2 = 0
        · rw [h]; rfl
        · have : mixed c (60 + (k : Nat)) % 2 = 1 := by omega
          rw [this]; rfl
      have hadd : dAdd (.str (p12 (mixed c (60 + (k : Nat)) % 2))) (.str ts[k]) = some (.str ((p12 (mixed c (60 + (k : Nat)) % 2)) ++ ts[k])) := by
        refine dAdd_s _ _ ?_
        have h1 := (hs _ (List.getElem_mem hkl)).1
        rw [p12_len]
        omega
      refine ⟨_, rfl, rfl, ?_⟩
      simp only [runD, sSeq, sNil, sAsg, sRet, sRetN, sIf, sFor, sExp, sFz, fz, sApp, sSet, sNo, sPass, sBrk, sCnt, fVar, fVarF, fVarC, fC, fBin, fUn, fIf, fB, bOf_b, cAnd, cOr, cNot, fCall, fApp, aCons, aNil, fLst, fTup, bName, bTup, bCons, bNil, sAsgT, List.getD_cons_zero, List.getD_cons_succ, List.map_cons, List.map_nil, List.cons_append, List.nil_append, List.length_cons, List.length_nil, List.replicate_succ, List.replicate_zero, clr, List.set_cons_zero, List.set_cons_succ, Nat.reduceAdd, Nat.reduceSub, Nat.reduceLT, Nat.reduceLeDiff, if_true, if_false, ↓reduceIte, ite_true, oMap_some, dAdd_i, dSub_i, dEq_i, dNe_i, dEq_s, dLt_i, dLe_i, dGt_i, dGe_i, hmx, dMod_i _ 2 (by decide), h12, hix, hadd]
      simp only [Function.comp, e]
/-! ### rooms -/
def Er (c : Int) (w1 : Option (Md × D)) (x2 : Option (Md × D)) (ts : List Str) (many : Nat) (x5 : Option (Md × D)) (room : Nat) (row : List (Option Nat)) (x8 x9 x10 : Option (Md × D)) : En :=
  [some (.F, .int c), w1, x2, some (.F, LD ts), some (.F, .int (many : Nat)), x5, some (.F, .int (room : Nat)), some (.o, encT row), x8, x9, x10]
theorem append_T (xs : List (Option Nat)) (o : Option Nat) : PyData.list (xs.map encO ++ [encO o]) = encT (xs ++ [o]) := by
  unfold encT; rw [List.map_append]; rfl
theorem sApp_T (i : Nat) (f : En → Option D) (ρ : En) (xs : List (Option Nat)) (o : Option Nat) (h1 : ρ.getD i none = some (.o, encT xs)) (h2 : f ρ = some (encO o)) (hl : xs.length < 1000000) : sApp i .o f [] ρ = some (.nx (ρ.set i (some (.o, encT (xs ++ [o]))))) := by
  unfold sApp
  rw [h1, h2]
  show (if Md.o = Md.o ∧ (xs.map encO).length < 1000000 then _ else _) = _
  rw [if_pos ⟨rfl, by rw [List.length_map]; exact hl⟩, append_T]
  rfl
theorem row_loop (c : Int) (w1 x2 x5 : Option (Md × D)) (ts : List Str) (ht : ts.length ≤ 5) (many : Nat) (h0 : 0 < many) (hm : many ≤ 60) (room : Nat) (hr : room < many) (x8 x9 x10 : Option (Md × D)) :
    ∃ ρ', L3__law_rule (Er c w1 x2 ts many x5 room [] x8 x9 x10) = some (.nx ρ') ∧ ∃ row x8 x9, row.length = ts.length ∧ (∀ t, some t ∈ row → t < many) ∧ ρ' = Er c w1 x2 ts many x5 room row x8 x9 x10 := by
  rw [e_L3__law_rule]
  refine sForR_inv (fun i ρ => ∃ row x8 x9, row.length = i ∧ (∀ t, some t ∈ row → t < many) ∧ ρ = Er c w1 x2 ts many x5 room row x8 x9 x10) ?_ ?_ ?_
  · refine fRange1_n (n := ts.length) ?_ (by omega)
    unfold Er LD
    simp only [runD, sSeq, sNil, sAsg, sRet, sRetN, sIf, sFor, sExp, sFz, fz, sApp, sSet, sNo, sPass, sBrk, sCnt, fVar, fVarF, fVarC, fC, fBin, fUn, fIf, fB, bOf_b, cAnd, cOr, cNot, fCall, fApp, aCons, aNil, fLst, fTup, bName, bTup, bCons, bNil, sAsgT, List.getD_cons_zero, List.getD_cons_succ, List.map_cons, List.map_nil, List.cons_append, List.nil_append, List.length_cons, List.length_nil, List.replicate_succ, List.replicate_zero, clr, List.set_cons_zero, List.set_cons_succ, Nat.reduceAdd, Nat.reduceSub, Nat.reduceLT, Nat.reduceLeDiff, if_true, if_false, ↓reduceIte, ite_true, oMap_some, dAdd_i, dSub_i, dEq_i, dNe_i, dEq_s, dLt_i, dLe_i, dGt_i, dGe_i, dLen_l, List.length_map]
  · exact ⟨[], x8, x9, rfl, (fun _ h => nomatch h), rfl⟩
  · rintro j ρ hj ⟨row, x8, x9, hl, hlt, rfl⟩
    have hmx := mixed_ok c (100 + 17 * (room : Nat) + (j : Nat)) (by omega) (by omega)
    generalize hN : mixed c (100 + 17 * (room : Nat) + (j : Nat)) = N at hmx
    have hNr := mixed_lt c (100 + 17 * (room : Nat) + (j : Nat))
    rw [hN] at hNr
    obtain ⟨d, hd, hdp⟩ : ∃ d : Int, dIx (.list [.int 6, .int 12]) (.int (c / 2 % 2)) = some (.int d) ∧ 0 < d := by
      have h0 : 0 ≤ c / 2 % 2 := Int.emod_nonneg _ (by decide)
      have h1 : c / 2 % 2 < 2 := Int.emod_lt_of_pos _ (by decide)
      by_cases h : c / 2 % 2 = 0
      · rw [h]; exact ⟨6, rfl, by decide⟩
      · have : c / 2 % 2 = 1 := by omega
        rw [this]; exact ⟨12, rfl, by decide⟩
    -- whichever is put
    have fin : ∀ o : Option Nat, (∀ t, o = some t → t < many) → ∀ y8 y9, (row ++ [o]).length = j + 1 ∧ (∀ t, some t ∈ row ++ [o] → t < many) ∧ Er c w1 x2 ts many x5 room (row ++ [o]) y8 y9 x10 = Er c w1 x2 ts many x5 room (row ++ [o]) y8 y9 x10 := fun o ho y8 y9 => by
      refine ⟨by rw [List.length_append, hl]; rfl, fun t h => ?_, rfl⟩
      rcases List.mem_append.mp h with h | h
      · exact hlt t h
      · rw [List.mem_singleton] at h; exact ho t h.symm
    have hap : ∀ (o : Option Nat) (f : En → Option D), f (Er c w1 x2 ts many x5 room row (some (.F, .int (j : Nat))) (some (.F, .int N)) x10) = some (encO o) → sApp 7 .o f [] (Er c w1 x2 ts many x5 room row (some (.F, .int (j : Nat))) (some (.F, .int N)) x10) = some (.nx (Er c w1 x2 ts many x5 room (row ++ [o]) (some (.F, .int (j : Nat))) (some (.F, .int N)) x10)) := fun o f hf =>
      sApp_T 7 f _ row o rfl hf (by omega)
    unfold Er at hap
    have hm1 : ((room : Int) + 1) % (many : Nat) = (((room + 1) % many : Nat) : Int) := by rw [Int.natCast_emod]; rfl
    have hm2 : N % (many : Nat) = ((N.toNat % many : Nat) : Int) := by
      rw [Int.natCast_emod, Int.toNat_of_nonneg hNr.1]
    by_cases h1 : N / 60 % d = 0
    · obtain ⟨g1, g2, g3⟩ := fin none (fun _ h => nomatch h) (some (.F, .int (j : Nat))) (some (.F, .int N))
      refine ⟨_, _, rfl, .inl ?_, _, _, _, g1, g2, g3⟩
      unfold Er
      have ha := hap none (fC .none) rfl
      simp only [sSeq, sNil, sAsg, sIf, cAnd, fBin, fVar, fCall, aCons, aNil, fVarF, fC, fLst, List.getD_cons_zero, List.getD_cons_succ, bOf_b, List.length_cons, List.length_nil, Nat.reduceAdd, Nat.reduceLT, Nat.reduceLeDiff, ↓reduceIte, if_true, clr, List.set_cons_zero, List.set_cons_succ, dAdd_i, dMul_i 17 _ (.inl (by decide)), hmx, dDiv_i _ 60 (by decide) (by decide), dDiv_i _ 2 (by decide) (by decide), dMod_i _ 2 (by decide), hd, dMod_i _ d hdp, dEq_i, decide_eq_true h1] at ha ⊢
      exact ha
    · by_cases h2 : N % 3 > 0 ∧ c / 100 % 2 = 1
      · obtain ⟨g1, g2, g3⟩ := fin (some ((room + 1) % many)) (fun t h => by cases h; exact Nat.mod_lt _ h0) (some (.F, .int (j : Nat))) (some (.F, .int N))
        refine ⟨_, _, rfl, .inl ?_, _, _, _, g1, g2, g3⟩
        unfold Er
        have ha := hap (some ((room + 1) % many)) (fBin dMod (fBin dAdd (fVar 6) (fC (.int 1))) (fVar 4)) (by
          simp only [runD, sSeq, sNil, sAsg, sRet, sRetN, sIf, sFor, sExp, sFz, fz, sApp, sSet, sNo, sPass, sBrk, sCnt, fVar, fVarF, fVarC, fC, fBin, fUn, fIf, fB, bOf_b, cAnd, cOr, cNot, fCall, fApp, aCons, aNil, fLst, fTup, bName, bTup, bCons, bNil, sAsgT, List.getD_cons_zero, List.getD_cons_succ, List.map_cons, List.map_nil, List.cons_append, List.nil_append, List.length_cons, List.length_nil, List.replicate_succ, List.replicate_zero, clr, List.set_cons_zero, List.set_cons_succ, Nat.reduceAdd, Nat.reduceSub, Nat.reduceLT, Nat.reduceLeDiff, if_true, if_false, ↓reduceIte, ite_true, oMap_some, dAdd_i, dSub_i, dEq_i, dNe_i, dEq_s, dLt_i, dLe_i, dGt_i, dGe_i, dMod_i _ (many : Nat) (by omega), hm1, encO_s])
        simp only [sSeq, sNil, sAsg, sIf, cAnd, fBin, fVar, fCall, aCons, aNil, fVarF, fC, fLst, List.getD_cons_zero, List.getD_cons_succ, bOf_b, List.length_cons, List.length_nil, Nat.reduceAdd, Nat.reduceLT, Nat.reduceLeDiff, ↓reduceIte, if_true, clr, List.set_cons_zero, List.set_cons_succ, dAdd_i, dMul_i 17 _ (.inl (by decide)), hmx, dDiv_i _ 60 (by decide) (by decide), dDiv_i _ 2 (by decide) (by decide), dDiv_i _ 100 (by decide) (by decide), dMod_i _ 2 (by decide), dMod_i _ 3 (by decide), hd, dMod_i _ d hdp, dEq_i, dGt_i, decide_eq_false h1, decide_eq_true h2.1, decide_eq_true h2.2] at ha ⊢
        exact ha
      · obtain ⟨g1, g2, g3⟩ := fin (some (N.toNat % many)) (fun t h => by cases h; exact Nat.mod_lt _ h0) (some (.F, .int (j : Nat))) (some (.F, .int N))
        refine ⟨_, _, rfl, .inl ?_, _, _, _, g1, g2, g3⟩
        unfold Er
        have ha := hap (some (N.toNat % many)) (fBin dMod (fVar 9) (fVar 4)) (by
          simp only [runD, sSeq, sNil, sAsg, sRet, sRetN, sIf, sFor, sExp, sFz, fz, sApp, sSet, sNo, sPass, sBrk, sCnt, fVar, fVarF, fVarC, fC, fBin, fUn, fIf, fB, bOf_b, cAnd, cOr, cNot, fCall, fApp, aCons, aNil, fLst, fTup, bName, bTup, bCons, bNil, sAsgT, List.getD_cons_zero, List.getD_cons_succ, List.map_cons, List.map_nil, List.cons_append, List.nil_append, List.length_cons, List.length_nil, List.replicate_succ, List.replicate_zero, clr, List.set_cons_zero, List.set_cons_succ, Nat.reduceAdd, Nat.reduceSub, Nat.reduceLT, Nat.reduceLeDiff, if_true, if_false, ↓reduceIte, ite_true, oMap_some, dAdd_i, dSub_i, dEq_i, dNe_i, dEq_s, dLt_i, dLe_i, dGt_i, dGe_i, dMod_i _ (many : Nat) (by omega), hm2, encO_s])
        by_cases h3 : N % 3 > 0
        · have h4 : ¬ c / 100 % 2 = 1 := fun h => h2 ⟨h3, h⟩
          simp only [sSeq, sNil, sAsg, sIf, cAnd, fBin, fVar, fCall, aCons, aNil, fVarF, fC, fLst, List.getD_cons_zero, List.getD_cons_succ, bOf_b, List.length_cons, List.length_nil, Nat.reduceAdd, Nat.reduceLT, Nat.reduceLeDiff, ↓reduceIte, if_true, clr, List.set_cons_zero, List.set_cons_succ, dAdd_i, dMul_i 17 _ (.inl (by decide)), hmx, dDiv_i _ 60 (by decide) (by decide), dDiv_i _ 2 (by decide) (by decide), dDiv_i _ 100 (by decide) (by decide), dMod_i _ 2 (by decide), dMod_i _ 3 (by decide), hd, dMod_i _ d hdp, dEq_i, dGt_i, decide_eq_false h1, decide_eq_true h3, decide_eq_false h4] at ha ⊢
          exact ha
        · simp only [sSeq, sNil, sAsg, sIf, cAnd, fBin, fVar, fCall, aCons, aNil, fVarF, fC, fLst, List.getD_cons_zero, List.getD_cons_succ, bOf_b, List.length_cons, List.length_nil, Nat.reduceAdd, Nat.reduceLT, Nat.reduceLeDiff, ↓reduceIte, if_true, clr, List.set_cons_zero, List.set_cons_succ, dAdd_i, dMul_i 17 _ (.inl (by decide)), hmx, dDiv_i _ 60 (by decide) (by decide), dDiv_i _ 2 (by decide) (by decide), dDiv_i _ 100 (by decide) (by decide), dMod_i _ 2 (by decide), dMod_i _ 3 (by decide), hd, dMod_i _ d hdp, dEq_i, dGt_i, decide_eq_false h1, decide_eq_false h3] at ha ⊢
          exact ha
end K82

set_option Elab.async false
set_option linter.all false
set_option maxRecDepth 100000
namespace K82
open PySem PySem.Spec PyProof.Rows L2 DI
theorem room_loop (c : Int) (w1 x2 x6 x7 x8 x9 x10 : Option (Md × D)) (ts : List Str) (ht : ts.length ≤ 5) (many : Nat) (h0 : 0 < many) (hm : many ≤ 60) :
    ∃ ρ', L4__law_rule [some (.F, .int c), w1, x2, some (.F, LD ts), some (.F, .int (many : Nat)), some (.o, encR []), x6, x7, x8, x9, x10] = some (.nx ρ') ∧
      ∃ rooms x6 x7 x8 x9, rooms.length = many ∧ (∀ r ∈ rooms, r.length = ts.length ∧ ∀ t, some t ∈ r → t < many) ∧ ρ' = [some (.F, .int c), w1, x2, some (.F, LD ts), some (.F, .int (many : Nat)), some (.o, encR rooms), x6, x7, x8, x9, x10] := by
  rw [e_L4__law_rule]
  refine sForR_inv (fun i ρ => ∃ rooms x6 x7 x8 x9, rooms.length = i ∧ (∀ r ∈ rooms, r.length = ts.length ∧ ∀ t, some t ∈ r → t < many) ∧ ρ = [some (.F, .int c), w1, x2, some (.F, LD ts), some (.F, .int (many : Nat)), some (.o, encR rooms), x6, x7, x8, x9, x10]) ?_ ?_ ?_
  · exact fRange1_n (n := many) rfl (by omega)
  · exact ⟨[], x6, x7, x8, x9, rfl, (fun _ h => nomatch h), rfl⟩
  · rintro i ρ hi ⟨rooms, x6, x7, x8, x9, hl, hr, rfl⟩
    obtain ⟨ρ', h1, row, y8, y9, g1, g2, rfl⟩ := row_loop c w1 x2 (some (.o, encR rooms)) ts ht many h0 hm i hi x8 x9 x10
    have h1' : L3__law_rule [some (.F, .int c), w1, x2, some (.F, LD ts), some (.F, .int (many : Nat)), some (.o, encR rooms), some (.F, .int (i : Nat)), some (.o, .list []), x8, x9, x10] = _ := h1
    have hap : ∀ a b c d e f g h i, sApp 5 .o (fVarF 7) [] [a, b, c, d, e, some (.o, encR rooms), f, some (.F, encT row), g, h, i] = some (.nx [a, b, c, d, e, some (.o, encR (rooms ++ [row])), f, some (.F, encT row), g, h, i]) := fun a b c d e f g h i => by
      have e0 : PyData.list (rooms.map (fun r => .list (r.map encO)) ++ [encT row]) = encR (rooms ++ [row]) := by
        unfold encR; rw [List.map_append]; rfl
      show (if Md.o = Md.o ∧ (rooms.map fun r => PyData.list (r.map encO)).length < 1000000 then some (Out.nx [a, b, c, d, e, some (.o, PyData.list (rooms.map (fun r => .list (r.map encO)) ++ [encT row])), f, some (.F, encT row), g, h, i]) else none) = _
      rw [if_pos ⟨rfl, by rw [List.length_map]; omega⟩, e0]
    refine ⟨_, [some (.F, .int c), w1, x2, some (.F, LD ts), some (.F, .int (many : Nat)), some (.o, encR (rooms ++ [row])), some (.F, .int (i : Nat)), some (.F, encT row), y8, y9, x10], rfl, .inl ?_, _, _, _, _, _, ?_, ?_, rfl⟩
    · unfold Er at h1'
      simp only [sSeq, sAsg, fLst, aNil, List.length_nil, Nat.zero_le, Nat.reduceLeDiff, Nat.reduceLT, List.length_cons, Nat.reduceAdd, ↓reduceIte, clr, List.set_cons_zero, List.set_cons_succ, h1', sFz, fz, List.getD_cons_zero, List.getD_cons_succ]
      exact hap _ _ _ _ _ _ _ _ _
    · rw [List.length_append, hl]; rfl
    · intro r h
      rcases List.mem_append.mp h with h | h
      · exact hr r h
      · rw [List.mem_singleton] at h; subst h; exact ⟨g1, g2⟩
theorem sort_short {n : Nat} {ts : List Str} (h : Short n ts) : Short n (sortS ts) := fun w hw => h w ((sortS_perm ts).mem_iff.mp hw)
theorem rule_ok (c : Int) (ws : List Str) (hw : ws.length = 5) (hs : Short 8 ws) : ∃ q : Rl, q.ok ∧ 0 < q.rooms.length ∧ q.rooms.length ≤ 60 ∧ Short 10 q.ws ∧ q.ws.length ≤ 5 ∧ q.sides = 1 + c % 2 ∧ f__law_rule [.int c, LD ws] = some (enc q) := by
  rw [e__law_rule]; unfold c__law_rule
  have h5 : 0 ≤ c / 2 % 5 := Int.emod_nonneg _ (by decide)
  have h5' : c / 2 % 5 < 5 := Int.emod_lt_of_pos _ (by decide)
  obtain ⟨m, hm⟩ : ∃ m : Nat, 1 + c / 2 % 5 = (m : Nat) := ⟨(1 + c / 2 % 5).toNat, by omega⟩
  have hm5 : m ≤ 5 := by omega
  have ht0 : Short 8 ((List.range m).map fun k => ws.getD k "") := fun w h => by
    obtain ⟨k, hk, rfl⟩ := List.mem_map.mp h
    have hkl := List.mem_range.mp hk
    have hk5 : k < ws.length := by omega
    have e : ws.getD k "" = ws[k] := by simp [hk5]
    rw [e]
    exact hs _ (List.getElem_mem hk5)
  generalize hts : ((List.range m).map fun k => ws.getD k "") = ts0 at ht0
  have hl0 : ts0.length = m := by rw [← hts]; simp
  have hq1 := q1r_ok c ws m hw hm
  rw [hts] at hq1
  -- the rest, from any texts
  have rest : ∀ ts : List Str, Short 10 ts → ts.length ≤ 5 → ∃ q : Rl, q.ok ∧ 0 < q.rooms.length ∧ q.rooms.length ≤ 60 ∧ Short 10 q.ws ∧ q.ws.length ≤ 5 ∧ q.sides = 1 + c % 2 ∧
      ∃ ρ', (sSeq (sAsg 4 .F (fBin dAdd (fC (.int 2)) (fBin dMod (fBin dDiv (fVar 0) (fC (.int 10))) (fC (.int 5)))) []) (sSeq (sIf (fun ρ => bOf (fBin dEq (fBin dMod (fBin dDiv (fVar 0) (fC (.int 50))) (fC (.int 8))) (fC (.int 1)) ρ)) (sAsg 4 .F (fBin dAdd (fC (.int 1)) (fBin dMod (fBin dDiv (fVar 0) (fC (.int 400))) (fC (.int 60)))) []) sNil) (sSeq (sAsg 5 .o (fLst aNil) []) (sSeq L4__law_rule (sFz 5 (sRet (fTup (aCons (fVarF 2) (aCons (fVarF 3) (aCons (fVarF 5) aNil)))) []))))))
        [some (.F, .int c), some (.F, LD ws), some (.F, .int (1 + c % 2)), some (.F, LD ts), none, none, none, none, none, none, none] = some (.rt (enc q) ρ') := fun ts hts htl => by
    have many : ∃ n : Nat, 0 < n ∧ n ≤ 60 ∧ (sSeq (sAsg 4 .F (fBin dAdd (fC (.int 2)) (fBin dMod (fBin dDiv (fVar 0) (fC (.int 10))) (fC (.int 5)))) []) (sIf (fun ρ => bOf (fBin dEq (fBin dMod (fBin dDiv (fVar 0) (fC (.int 50))) (fC (.int 8))) (fC (.int 1)) ρ)) (sAsg 4 .F (fBin dAdd (fC (.int 1)) (fBin dMod (fBin dDiv (fVar 0) (fC (.int 400))) (fC (.int 60)))) []) sNil)) [some (.F, .int c), some (.F, LD ws), some (.F, .int (1 + c % 2)), some (.F, LD ts), none, none, none, none, none, none, none] =
        some (.nx [some (.F, .int c), some (.F, LD ws), some (.F, .int (1 + c % 2)), some (.F, LD ts), some (.F, .int (n : Nat)), none, none, none, none, none, none]) := by
      have a1 : 0 ≤ c / 10 % 5 := Int.emod_nonneg _ (by decide)
      have a2 : c / 10 % 5 < 5 := Int.emod_lt_of_pos _ (by decide)
      have b1 : 0 ≤ c / 400 % 60 := Int.emod_nonneg _ (by decide)
      have b2 : c / 400 % 60 < 60 := Int.emod_lt_of_pos _ (by decide)
      by_cases h : c / 50 % 8 = 1
      · refine ⟨(1 + c / 400 % 60).toNat, by omega, by omega, ?_⟩
        rw [Int.toNat_of_nonneg (by omega)]
        simp only [runD, sSeq, sNil, sAsg, sRet, sRetN, sIf, sFor, sExp, sFz, fz, sApp, sSet, sNo, sPass, sBrk, sCnt, fVar, fVarF, fVarC, fC, fBin, fUn, fIf, fB, bOf_b, cAnd, cOr, cNot, fCall, fApp, aCons, aNil, fLst, fTup, bName, bTup, bCons, bNil, sAsgT, List.getD_cons_zero, List.getD_cons_succ, List.map_cons, List.map_nil, List.cons_append, List.nil_append, List.length_cons, List.length_nil, List.replicate_succ, List.replicate_zero, clr, List.set_cons_zero, List.set_cons_succ, Nat.reduceAdd, Nat.reduceSub, Nat.reduceLT, Nat.reduceLeDiff, if_true, if_false, ↓reduceIte, ite_true, oMap_some, dAdd_i, dSub_i, dEq_i, dNe_i, dEq_s, dLt_i, dLe_i, dGt_i, dGe_i, dMod_i _ 5 (by decide), dDiv_i _ 10 (by decide) (by decide), dDiv_i _ 50 (by decide) (by decide), dMod_i _ 8 (by decide), dDiv_i _ 400 (by decide) (by decide), dMod_i _ 60 (by decide), decide_eq_true h]
      · refine ⟨(2 + c / 10 % 5).toNat, by omega, by omega, ?_⟩
        rw [Int.toNat_of_nonneg (by omega)]
        simp only [runD, sSeq, sNil, sAsg, sRet, sRetN, sIf, sFor, sExp, sFz, fz, sApp, sSet, sNo, sPass, sBrk, sCnt, fVar, fVarF, fVarC, fC, fBin, fUn, fIf, fB, bOf_b, cAnd, cOr, cNot, fCall, fApp, aCons, aNil, fLst, fTup, bName, bTup, bCons, bNil, sAsgT, List.getD_cons_zero, List.getD_cons_succ, List.map_cons, List.map_nil, List.cons_append, List.nil_append, List.length_cons, List.length_nil, List.replicate_succ, List.replicate_zero, clr, List.set_cons_zero, List.set_cons_succ, Nat.reduceAdd, Nat.reduceSub, Nat.reduceLT, Nat.reduceLeDiff, if_true, if_false, ↓reduceIte, ite_true, oMap_some, dAdd_i, dSub_i, dEq_i, dNe_i, dEq_s, dLt_i, dLe_i, dGt_i, dGe_i, dMod_i _ 5 (by decide), dDiv_i _ 10 (by decide) (by decide), dDiv_i _ 50 (by decide) (by decide), dMod_i _ 8 (by decide), decide_eq_false h]
    obtain ⟨n, n0, n60, hn⟩ := many
    obtain ⟨ρ', g1, rooms, y6, y7, y8, y9, g2, g3, rfl⟩ := room_loop c (some (.F, LD ws)) (some (.F, .int (1 + c % 2))) none none none none none ts htl n n0 n60
    refine ⟨⟨1 + c % 2, ts, rooms⟩, fun r hr => ?_, by show 0 < rooms.length; omega, by show rooms.length ≤ 60; omega, hts, htl, rfl, ?_⟩
    · obtain ⟨k1, k2⟩ := g3 r hr
      exact ⟨k1, fun t h => by show t < rooms.length; rw [g2]; exact k2 t h⟩
    · have assoc : ∀ (s t u : En → Option Out) ρ ρ1, sSeq s t ρ = some (.nx ρ1) → sSeq s (sSeq t u) ρ = u ρ1 := fun s t u ρ ρ1 h => by
        unfold sSeq at h ⊢
        revert h
        cases s ρ with
        | none => intro h; cases h
        | some o =>
          cases o with
          | nx ρ' => dsimp only; intro h; rw [h]
          | rt _ _ => intro h; cases h
          | bk _ => intro h; cases h
          | ct _ => intro h; cases h
      have g1' : L4__law_rule [some (.F, .int c), some (.F, LD ws), some (.F, .int (1 + c % 2)), some (.F, LD ts), some (.F, .int (n : Nat)), some (.o, .list []), none, none, none, none, none] = _ := g1
      refine ⟨[some (.F, .int c), some (.F, LD ws), some (.F, .int (1 + c % 2)), some (.F, LD ts), some (.F, .int (n : Nat)), some (.F, encR rooms), y6, y7, y8, y9, none], (assoc _ _ _ _ _ hn).trans ?_⟩
      simp only [sSeq, sAsg, fLst, aNil, List.length_nil, Nat.zero_le, Nat.reduceLeDiff, Nat.reduceLT, List.length_cons, Nat.reduceAdd, ↓reduceIte, clr, List.set_cons_zero, List.set_cons_succ, g1', sFz, fz, List.getD_cons_zero, List.getD_cons_succ, sRet, fTup, aCons, fVarF]
      rfl
  have hs1 := sort_LD ts0 (by omega)
  by_cases hc : 1 + c % 2 = 2
  · obtain ⟨us, u1, u2, u3⟩ := q2r_ok c (sortS ts0) (by rw [(sortS_perm ts0).length_eq]; omega) (sort_short ht0) (some (.F, LD ws)) (some (.F, .int (1 + c % 2))) none none none none none none none
    have hul : us.length ≤ 5 := by rw [u1, (sortS_perm ts0).length_eq]; omega
    have hs2 := sort_LD us (by omega)
    obtain ⟨q, k1, k2, k3, k4, k5, k6, ρ', k7⟩ := rest (sortS us) (sort_short u2) (by rw [(sortS_perm us).length_eq]; exact hul)
    refine ⟨q, k1, k2, k3, k4, k5, k6, ?_⟩
    generalize hR : (sSeq (sAsg 4 .F (fBin dAdd (fC (.int 2)) (fBin dMod (fBin dDiv (fVar 0) (fC (.int 10))) (fC (.int 5)))) []) _ : En → Option Out) = R at k7 ⊢
    simp only [runD, sSeq, sNil, sAsg, sRet, sRetN, sIf, sFor, sExp, sFz, fz, sApp, sSet, sNo, sPass, sBrk, sCnt, fVar, fVarF, fVarC, fC, fBin, fUn, fIf, fB, bOf_b, cAnd, cOr, cNot, fCall, fApp, aCons, aNil, fLst, fTup, bName, bTup, bCons, bNil, sAsgT, List.getD_cons_zero, List.getD_cons_succ, List.map_cons, List.map_nil, List.cons_append, List.nil_append, List.length_cons, List.length_nil, List.replicate_succ, List.replicate_zero, clr, List.set_cons_zero, List.set_cons_succ, Nat.reduceAdd, Nat.reduceSub, Nat.reduceLT, Nat.reduceLeDiff, if_true, if_false, ↓reduceIte, ite_true, oMap_some, dAdd_i, dSub_i, dEq_i, dNe_i, dEq_s, dLt_i, dLe_i, dGt_i, dGe_i, dMod_i _ 2 (by decide), hq1, hs1, decide_eq_true hc, u3, hs2, k7]
  · obtain ⟨q, k1, k2, k3, k4, k5, k6, ρ', k7⟩ := rest (sortS ts0) (fun w h => by obtain ⟨z1, z2⟩ := sort_short ht0 w h; exact ⟨by omega, z2⟩) (by rw [(sortS_perm ts0).length_eq]; omega)
    refine ⟨q, k1, k2, k3, k4, k5, k6, ?_⟩
    generalize hR : (sSeq (sAsg 4 .F (fBin dAdd (fC (.int 2)) (fBin dMod (fBin dDiv (fVar 0) (fC (.int 10))) (fC (.int 5)))) []) _ : En → Option Out) = R at k7 ⊢
    simp only [runD, sSeq, sNil, sAsg, sRet, sRetN, sIf, sFor, sExp, sFz, fz, sApp, sSet, sNo, sPass, sBrk, sCnt, fVar, fVarF, fVarC, fC, fBin, fUn, fIf, fB, bOf_b, cAnd, cOr, cNot, fCall, fApp, aCons, aNil, fLst, fTup, bName, bTup, bCons, bNil, sAsgT, List.getD_cons_zero, List.getD_cons_succ, List.map_cons, List.map_nil, List.cons_append, List.nil_append, List.length_cons, List.length_nil, List.replicate_succ, List.replicate_zero, clr, List.set_cons_zero, List.set_cons_succ, Nat.reduceAdd, Nat.reduceSub, Nat.reduceLT, Nat.reduceLeDiff, if_true, if_false, ↓reduceIte, ite_true, oMap_some, dAdd_i, dSub_i, dEq_i, dNe_i, dEq_s, dLt_i, dLe_i, dGt_i, dGe_i, dMod_i _ 2 (by decide), hq1, hs1, decide_eq_false hc, k7]
end K82

set_option Elab.async false
set_option linter.all false
set_option maxRecDepth 100000
namespace K82
open PySem PySem.Spec PyProof.Rows L2 DI
theorem dEq_self {d : D} (h : SeqAt.shaped d = true) : dEq d d = some (.bool true) := by
  have e : dEqB d d = some true := by
    cases d with
    | int i => show some (decide (i = i)) = _; rw [decide_eq_true rfl]
    | str i => show some (decide (i = i)) = _; rw [decide_eq_true rfl]
    | none => rfl
    | bool b => cases b <;> rfl
    | list xs => show (if SeqAt.shaped (.list xs) && SeqAt.shaped (.list xs) then some (PyData.eqv (.list xs) (.list xs)) else none) = _; rw [h, SeqAt.eqv_refl _ (SeqAt.canLay_of_shaped h)]; rfl
    | tuple xs => show (if SeqAt.shaped (.tuple xs) && SeqAt.shaped (.tuple xs) then some (PyData.eqv (.tuple xs) (.tuple xs)) else none) = _; rw [h, SeqAt.eqv_refl _ (SeqAt.canLay_of_shaped h)]; rfl
    | dict xs => have := SeqAt.canLay_of_shaped h; simp [PyData.canLay0] at this
  unfold dEq
  rw [e]
  rfl
theorem lay_T : ∀ xs : List (Option Nat), PyData.canLayAll0 (xs.map encO) = true
  | [] => rfl
  | x :: xs => by rw [List.map_cons, PyData.canLayAll0, lay_T xs]; cases x <;> simp [encO, PyData.canLay0]
theorem depth_T : ∀ xs : List (Option Nat), PyData.depthAll (xs.map encO) ≤ 1
  | [] => by simp [PyData.depthAll]
  | x :: xs => by
    have := depth_T xs
    cases x <;> (simp only [List.map_cons, PyData.depthAll, encO, PyData.depth]; omega)
theorem lay_R : ∀ xs : List (List (Option Nat)), PyData.canLayAll0 (xs.map fun r => .list (r.map encO)) = true
  | [] => rfl
  | x :: xs => by rw [List.map_cons, PyData.canLayAll0, lay_R xs, PyData.canLay0, lay_T]; rfl
theorem depth_R : ∀ xs : List (List (Option Nat)), PyData.depthAll (xs.map fun r => .list (r.map encO)) ≤ 2
  | [] => by simp [PyData.depthAll]
  | x :: xs => by
    have := depth_R xs
    have := depth_T x
    simp only [List.map_cons, PyData.depthAll, PyData.depth]; omega
theorem shaped_enc {q : Rl} (h : OkS q.ws) : SeqAt.shaped (enc q) = true := by
  have h1 := depth_strs q.ws
  have h2 := depth_R q.rooms
  unfold SeqAt.shaped enc encR
  rw [Bool.and_eq_true]
  refine ⟨?_, decide_eq_true ?_⟩
  · simp only [PyData.canLay0, PyData.canLayAll0, canLay_strs h, lay_R, Bool.and_self]
  · simp only [PyData.depth, PyData.depthAll]
    omega
theorem cell_ok (ns : List Int) (k : Nat) : ∃ x : Int, f__law_cell_at [.list (ns.map .int), .int (k : Nat)] = some (.int x) := by
  rw [e__law_cell_at]; unfold c__law_cell_at
  have ec : fVarC 0 [some (.F, .list (ns.map .int)), some (.F, .int (k : Nat))] = some (.list (ns.map .int)) := rfl
  by_cases h : k < ns.length
  · have hix : dIx (.list (ns.map .int)) (.int (k : Nat)) = some (.int ns[k]) := by
      rw [dIx_l (by simpa using h), List.getElem_map]
    refine ⟨ns[k], ?_⟩
    simp only [runD, sSeq, sNil, sAsg, sRet, sRetN, sIf, sFor, sExp, sFz, fz, sApp, sSet, sNo, sPass, sBrk, sCnt, fVar, fVarF, fVarC, fC, fBin, fUn, fIf, fB, bOf_b, cAnd, cOr, cNot, fCall, fApp, aCons, aNil, fLst, fTup, bName, bTup, bCons, bNil, sAsgT, List.getD_cons_zero, List.getD_cons_succ, List.map_cons, List.map_nil, List.cons_append, List.nil_append, List.length_cons, List.length_nil, List.replicate_succ, List.replicate_zero, clr, List.set_cons_zero, List.set_cons_succ, Nat.reduceAdd, Nat.reduceSub, Nat.reduceLT, Nat.reduceLeDiff, if_true, if_false, ↓reduceIte, ite_true, oMap_some, dAdd_i, dSub_i, dEq_i, dNe_i, dEq_s, dLt_i, dLe_i, dGt_i, dGe_i, dLen_l, List.length_map, decide_eq_true (show ((k : Nat) : Int) < (ns.length : Nat) by omega), ec, hix]
  · refine ⟨0, ?_⟩
    simp only [runD, sSeq, sNil, sAsg, sRet, sRetN, sIf, sFor, sExp, sFz, fz, sApp, sSet, sNo, sPass, sBrk, sCnt, fVar, fVarF, fVarC, fC, fBin, fUn, fIf, fB, bOf_b, cAnd, cOr, cNot, fCall, fApp, aCons, aNil, fLst, fTup, bName, bTup, bCons, bNil, sAsgT, List.getD_cons_zero, List.getD_cons_succ, List.map_cons, List.map_nil, List.cons_append, List.nil_append, List.length_cons, List.length_nil, List.replicate_succ, List.replicate_zero, clr, List.set_cons_zero, List.set_cons_succ, Nat.reduceAdd, Nat.reduceSub, Nat.reduceLT, Nat.reduceLeDiff, if_true, if_false, ↓reduceIte, ite_true, oMap_some, dAdd_i, dSub_i, dEq_i, dNe_i, dEq_s, dLt_i, dLe_i, dGt_i, dGe_i, dLen_l, List.length_map, decide_eq_false (show ¬ ((k : Nat) : Int) < (ns.length : Nat) by omega)]
theorem cut_map {α : Type} (f : α → D) (xs : List α) (lo hi : Option Int) : ∃ ys : List α, (∀ y ∈ ys, y ∈ xs) ∧ ys.length ≤ xs.length ∧ DI.cutD (xs.map f) lo hi = ys.map f := by
  unfold DI.cutD
  refine ⟨(xs.drop (HT.sIx xs.length 0 lo)).take (HT.sIx xs.length xs.length hi - HT.sIx xs.length 0 lo), fun y hy => List.mem_of_mem_drop (List.mem_of_mem_take hy), ?_, ?_⟩
  · rw [List.length_take, List.length_drop]; omega
  · rw [List.length_map, List.map_take, List.map_drop]
theorem row_ok (ns : List Int) (hn : ns.length ≤ 63) (ts : List Str) (h0 : 0 < ts.length) (h6 : ts.length ≤ 100) (hs : OkS ts) (x1 x2 x4 x5 x6 x7 x8 x9 x10 x11 : Option (Md × D)) :
    ∃ row : List Str, row.length ≤ 63 ∧ OkS row ∧ Q1_law [some (.F, .list (ns.map .int)), x1, x2, some (.F, LD ts), x4, x5, x6, x7, x8, x9, x10, x11] = some (LD row) := by
  obtain ⟨ys, h1, h2, h3⟩ := cut_map PyData.int ns (some 2) (some 72)
  refine ⟨ys.map fun y => ts.getD ((mixed y 3 % (ts.length : Nat)).toNat) "", by rw [List.length_map]; omega, fun w hw => ?_, ?_⟩
  · obtain ⟨y, _, rfl⟩ := List.mem_map.mp hw
    have a1 : 0 ≤ mixed y 3 % (ts.length : Nat) := Int.emod_nonneg _ (by omega)
    have a2 : mixed y 3 % (ts.length : Nat) < (ts.length : Nat) := Int.emod_lt_of_pos _ (by omega)
    have hl : (mixed y 3 % (ts.length : Nat)).toNat < ts.length := by omega
    have e : ts.getD ((mixed y 3 % (ts.length : Nat)).toNat) "" = ts[(mixed y 3 % (ts.length : Nat)).toNat] := by simp [hl]
    rw [e]
    exact hs _ (List.getElem_mem hl)
  · rw [e_Q1_law]
    unfold LD
    rw [List.map_map]
    refine fLc_map PyData.int _ ys rfl ?_ (by omega) ?_
    · have ec : fVarC 0 [some (.F, .list (ns.map .int)), x1, x2, some (.F, .list (ts.map .str)), x4, x5, x6, x7, x8, x9, x10, x11] = some (.list (ns.map .int)) := rfl
      unfold fItems fSl
      simp only [runD, sSeq, sNil, sAsg, sRet, sRetN, sIf, sFor, sExp, sFz, fz, sApp, sSet, sNo, sPass, sBrk, sCnt, fVar, fVarF, fVarC, fC, fBin, fUn, fIf, fB, bOf_b, cAnd, cOr, cNot, fCall, fApp, aCons, aNil, fLst, fTup, bName, bTup, bCons, bNil, sAsgT, List.getD_cons_zero, List.getD_cons_succ, List.map_cons, List.map_nil, List.cons_append, List.nil_append, List.length_cons, List.length_nil, List.replicate_succ, List.replicate_zero, clr, List.set_cons_zero, List.set_cons_succ, Nat.reduceAdd, Nat.reduceSub, Nat.reduceLT, Nat.reduceLeDiff, if_true, if_false, ↓reduceIte, ite_true, oMap_some, dAdd_i, dSub_i, dEq_i, dNe_i, dEq_s, dLt_i, dLe_i, dGt_i, dGe_i, ec, oS]
      show (match (some (PyData.list (DI.cutD (ns.map .int) (some 2) (some 72))) : Option D) with | some (.list ds) => some ds | _ => none) = _
      rw [h3]
    · intro y hy
      have a1 : 0 ≤ mixed y 3 % (ts.length : Nat) := Int.emod_nonneg _ (by omega)
      have a2 : mixed y 3 % (ts.length : Nat) < (ts.length : Nat) := Int.emod_lt_of_pos _ (by omega)
      have hl : (mixed y 3 % (ts.length : Nat)).toNat < ts.length := by omega
      have hix : dIx (.list (ts.map .str)) (.int (mixed y 3 % (ts.length : Nat))) = some (.str (ts.getD ((mixed y 3 % (ts.length : Nat)).toNat) "")) := by
        obtain ⟨j, hj⟩ : ∃ j : Nat, mixed y 3 % (ts.length : Nat) = (j : Nat) := ⟨(mixed y 3 % (ts.length : Nat)).toNat, by omega⟩
        rw [hj] at hl ⊢
        rw [Int.toNat_natCast] at hl ⊢
        rw [dIx_l (by simpa using hl), List.getElem_map]
        simp [hl]
      refine ⟨_, rfl, rfl, ?_⟩
      have ec : ∀ a b c d e f g h i j k, fVarC 3 [a, b, c, some (.F, .list (ts.map .str)), d, e, f, g, h, i, j, k] = some (.list (ts.map .str)) := fun _ _ _ _ _ _ _ _ _ _ _ => rfl
      simp only [runD, sSeq, sNil, sAsg, sRet, sRetN, sIf, sFor, sExp, sFz, fz, sApp, sSet, sNo, sPass, sBrk, sCnt, fVar, fVarF, fVarC, fC, fBin, fUn, fIf, fB, bOf_b, cAnd, cOr, cNot, fCall, fApp, aCons, aNil, fLst, fTup, bName, bTup, bCons, bNil, sAsgT, List.getD_cons_zero, List.getD_cons_succ, List.map_cons, List.map_nil, List.cons_append, List.nil_append, List.length_cons, List.length_nil, List.replicate_succ, List.replicate_zero, clr, List.set_cons_zero, List.set_cons_succ, Nat.reduceAdd, Nat.reduceSub, Nat.reduceLT, Nat.reduceLeDiff, if_true, if_false, ↓reduceIte, ite_true, oMap_some, dAdd_i, dSub_i, dEq_i, dNe_i, dEq_s, dLt_i, dLe_i, dGt_i, dGe_i, ec, mixed_ok y 3 (by decide) (by decide), dLen_l, List.length_map, dMod_i _ (ts.length : Nat) (by omega), hix, Function.comp]
theorem copy_ok (q : Rl) (hm : q.rooms.length ≤ 1000) (x0 x1 x3 x4 x5 x6 x7 x8 x9 x10 x11 : Option (Md × D)) : Q2_law [x0, x1, some (.F, enc q), x3, x4, x5, x6, x7, x8, x9, x10, x11] = some (encR q.rooms) := by
  rw [e_Q2_law]
  unfold encR
  refine fLc_map (fun r : List (Option Nat) => .list (r.map encO)) _ q.rooms rfl ?_ (by omega) ?_
  · unfold fItems
    simp only [runD, sSeq, sNil, sAsg, sRet, sRetN, sIf, sFor, sExp, sFz, fz, sApp, sSet, sNo, sPass, sBrk, sCnt, fVar, fVarF, fVarC, fC, fBin, fUn, fIf, fB, bOf_b, cAnd, cOr, cNot, fCall, fApp, aCons, aNil, fLst, fTup, bName, bTup, bCons, bNil, sAsgT, List.getD_cons_zero, List.getD_cons_succ, List.map_cons, List.map_nil, List.cons_append, List.nil_append, List.length_cons, List.length_nil, List.replicate_succ, List.replicate_zero, clr, List.set_cons_zero, List.set_cons_succ, Nat.reduceAdd, Nat.reduceSub, Nat.reduceLT, Nat.reduceLeDiff, if_true, if_false, ↓reduceIte, ite_true, oMap_some, dAdd_i, dSub_i, dEq_i, dNe_i, dEq_s, dLt_i, dLe_i, dGt_i, dGe_i, enc_2]
    rfl
  · intro r hr
    exact ⟨_, rfl, rfl, rfl⟩
theorem whole_ok (n : Int) : f__law_whole [.int n] = some (.bool true) := by
  rw [e__law_whole]; unfold c__law_whole
  rfl
theorem filt_ok (xs : List Nat) (hl : xs.length < 1000000) (x0 x1 x2 x3 x4 x5 x6 x7 x9 x10 x11 : Option (Md × D)) : Q3_law [x0, x1, x2, x3, x4, x5, x6, x7, some (.F, LZ xs), x9, x10, x11] = some (.list []) := by
  rw [e_Q3_law]
  unfold fLc
  have key : ∀ ys : List Nat, lcLoop (bName 11) (cNot (fun ρ => bOf ((fCall 1 f__law_whole (aCons (fVarF 11) aNil)) ρ))) (fVarF 11) (clr [11] [x0, x1, x2, x3, x4, x5, x6, x7, some (.F, LZ xs), x9, x10, x11]) (ys.map fun n => .int (n : Nat)) = some [] := fun ys => by
    induction ys with
    | nil => rfl
    | cons y ys ih =>
      rw [List.map_cons]
      unfold lcLoop
      have h1 : bName 11 (.int (y : Nat)) (clr [11] [x0, x1, x2, x3, x4, x5, x6, x7, some (.F, LZ xs), x9, x10, x11]) = some [x0, x1, x2, x3, x4, x5, x6, x7, some (.F, LZ xs), x9, x10, some (.F, .int (y : Nat))] := rfl
      have h2 : cNot (fun ρ => bOf ((fCall 1 f__law_whole (aCons (fVarF 11) aNil)) ρ)) [x0, x1, x2, x3, x4, x5, x6, x7, some (.F, LZ xs), x9, x10, some (.F, .int (y : Nat))] = some false := by
        simp only [runD, sSeq, sNil, sAsg, sRet, sRetN, sIf, sFor, sExp, sFz, fz, sApp, sSet, sNo, sPass, sBrk, sCnt, fVar, fVarF, fVarC, fC, fBin, fUn, fIf, fB, bOf_b, cAnd, cOr, cNot, fCall, fApp, aCons, aNil, fLst, fTup, bName, bTup, bCons, bNil, sAsgT, List.getD_cons_zero, List.getD_cons_succ, List.map_cons, List.map_nil, List.cons_append, List.nil_append, List.length_cons, List.length_nil, List.replicate_succ, List.replicate_zero, clr, List.set_cons_zero, List.set_cons_succ, Nat.reduceAdd, Nat.reduceSub, Nat.reduceLT, Nat.reduceLeDiff, if_true, if_false, ↓reduceIte, ite_true, oMap_some, dAdd_i, dSub_i, dEq_i, dNe_i, dEq_s, dLt_i, dLe_i, dGt_i, dGe_i, whole_ok, Bool.not_true]
      simp only [h1, h2]
      exact ih
  rw [if_pos (show ([x0, x1, x2, x3, x4, x5, x6, x7, some (.F, LZ xs), x9, x10, x11] : En).length = 12 from rfl)]
  have hf : fItems (fVarF 8) [x0, x1, x2, x3, x4, x5, x6, x7, some (.F, LZ xs), x9, x10, x11] = some (xs.map fun n => .int (n : Nat)) := rfl
  rw [hf]
  dsimp only
  rw [if_pos (by rw [List.length_map]; exact hl), key]
theorem brk_none {q : Rl} : ∀ (ws : List Str) (r : Nat), brkAt q r ws = none → ∃ t, after q r ws = some t
  | [], r, _ => ⟨r, rfl⟩
  | w :: ws, r, h => by
    rw [brkAt] at h
    rw [after]
    cases hn : nxt q r w with
    | none => rw [hn] at h; cases h
    | some t =>
      rw [hn] at h
      exact brk_none ws t (Option.map_eq_none_iff.mp h)
theorem brk_some {q : Rl} : ∀ (ws : List Str) (r k : Nat), brkAt q r ws = some k → ∃ pre w t, ws.take (k + 1) = pre ++ [w] ∧ after q r pre = some t ∧ nxt q t w = none
  | [], r, k, h => by cases h
  | w :: ws, r, k, h => by
    rw [brkAt] at h
    cases hn : nxt q r w with
    | none =>
      rw [hn] at h
      cases h
      exact ⟨[], w, r, rfl, rfl, hn⟩
    | some t =>
      rw [hn] at h
      obtain ⟨j, hj, rfl⟩ := Option.map_eq_some_iff.mp h
      obtain ⟨pre, w', t', h1, h2, h3⟩ := brk_some ws t j hj
      exact ⟨w :: pre, w', t', by rw [List.take_succ_cons, h1]; rfl, by rw [after, hn]; exact h2, h3⟩
theorem after_snoc {q : Rl} {w : Str} : ∀ (pre : List Str) (r t : Nat), after q r pre = some t → after q r (pre ++ [w]) = nxt q t w
  | [], r, t, h => by
    cases h
    rw [List.nil_append, after]
    cases nxt q r w <;> rfl
  | x :: pre, r, t, h => by
    rw [after] at h
    rw [List.cons_append, after]
    cases hn : nxt q r x with
    | none => rw [hn] at h; cases h
    | some t' => rw [hn] at h; exact after_snoc pre t' t h
theorem shortest_none {q : Rl} (hq : q.ok) (h0 : 0 < q.rooms.length) (ws : List Str) (hs : OkS ws) {t : Nat} (h : after q 0 ws = some t) : f_shortest_breach [enc q, LD ws] = some .none := by
  rw [e_shortest_breach]; unfold c_shortest_breach
  have hb := breaks_ok hq h0 ws hs
  rw [h, Option.isNone_some, Bool.and_false] at hb
  simp only [runD, sSeq, sNil, sAsg, sRet, sRetN, sIf, sFor, sExp, sFz, fz, sApp, sSet, sNo, sPass, sBrk, sCnt, fVar, fVarF, fVarC, fC, fBin, fUn, fIf, fB, bOf_b, cAnd, cOr, cNot, fCall, fApp, aCons, aNil, fLst, fTup, bName, bTup, bCons, bNil, sAsgT, List.getD_cons_zero, List.getD_cons_succ, List.map_cons, List.map_nil, List.cons_append, List.nil_append, List.length_cons, List.length_nil, List.replicate_succ, List.replicate_zero, clr, List.set_cons_zero, List.set_cons_succ, Nat.reduceAdd, Nat.reduceSub, Nat.reduceLT, Nat.reduceLeDiff, if_true, if_false, ↓reduceIte, ite_true, oMap_some, dAdd_i, dSub_i, dEq_i, dNe_i, dEq_s, dLt_i, dLe_i, dGt_i, dGe_i, hb, Bool.not_false]
end K82

set_option Elab.async false
set_option linter.all false
set_option maxRecDepth 100000
namespace K82
open PySem PySem.Spec PyProof.Rows L2 DI
theorem listOf_LD (ts : List Str) : dListOf [LD ts] = some (LD ts) := rfl
theorem law_true (ns : List Int) (hn : ns.length ≤ 63) : f_law [.list (ns.map .int)] = some (.bool true) := by
  rw [e_law]; unfold c_law
  obtain ⟨c0, hc0⟩ := cell_ok ns 0
  obtain ⟨c1, hc1⟩ := cell_ok ns 1
  obtain ⟨ws, hw1, hw2, hw3⟩ := words_ok c0 6 (by omega)
  have hsl : dSlL (LD ws) none (some 5) = some (LD (ws.take 5)) := by
    show some (PyData.list (DI.cutD (ws.map .str) none (some 5))) = _
    unfold DI.cutD LD
    rw [HT.sIx_none, List.drop_zero, Nat.sub_zero, List.length_map, show (5 : Int) = ((5 : Nat) : Int) from rfl, HT.sIx_nat, hw1, List.map_take]
    rfl
  obtain ⟨q, hq, h0, hm, hsh, hq5, hsd, hr⟩ := rule_ok c1 (ws.take 5) (by rw [List.length_take, hw1]; rfl) fun w h => hw2 w (List.mem_of_mem_take h)
  have h5 : 5 < ws.length := by omega
  obtain ⟨hl5, ho5⟩ := hw2 _ (List.getElem_mem h5)
  -- the texts of the row
  obtain ⟨px, hpx, hpl, hpo⟩ : ∃ px : Str, dIx (.list [.str "", .str "2."]) (.int (q.sides - 1)) = some (.str px) ∧ px.length ≤ 2 ∧ PyData.strOk px = true := by
    have g0 : 0 ≤ c1 % 2 := Int.emod_nonneg _ (by decide)
    have g1 : c1 % 2 < 2 := Int.emod_lt_of_pos _ (by decide)
    by_cases h : c1 % 2 = 0
    · have : q.sides - 1 = 0 := by omega
      rw [this]
      exact ⟨"", rfl, by decide +kernel, by decide +kernel⟩
    · have : q.sides - 1 = 1 := by omega
      rw [this]
      exact ⟨"2.", rfl, by decide +kernel, by decide +kernel⟩
  have hadd : dAdd (.str px) (.str ws[5]) = some (.str (px ++ ws[5])) := dAdd_s _ _ (by omega)
  have hcat : dCat (LD q.ws) (.list [.str (px ++ ws[5])]) = some (LD (q.ws ++ [px ++ ws[5]])) := by
    unfold LD
    show (if (q.ws.map PyData.str).length + 1 ≤ 1000000 then some (PyData.list ((q.ws.map PyData.str) ++ [.str (px ++ ws[5])])) else none) = _
    rw [if_pos (by rw [List.length_map]; omega), List.map_append]
    rfl
  have hok : OkS (q.ws ++ [px ++ ws[5]]) := fun w h => by
    rcases List.mem_append.mp h with h | h
    · exact (hsh w h).2
    · rw [List.mem_singleton] at h; subst h; exact strOk_app hpo ho5
  have hqs : OkS q.ws := fun w h => (hsh w h).2
  have hE0 : dIx (enc q) (.int 0) = some (.int q.sides) := rfl
  have hE1 : dIx (enc q) (.int 1) = some (LD q.ws) := rfl
  have hW5 : dIx (LD ws) (.int 5) = some (.str ws[5]) := by
    unfold LD
    rw [show (5 : Int) = ((5 : Nat) : Int) from rfl, dIx_l (by rw [List.length_map]; exact h5), List.getElem_map]
  obtain ⟨row, hr1, hr2, hr3⟩ := row_ok ns hn (q.ws ++ [px ++ ws[5]]) (by simp) (by rw [List.length_append]; simp; omega) hok (some (.F, LD ws)) (some (.F, enc q)) none none none none none none none none
  have hcp := copy_ok q (by omega) (some (.F, .list (ns.map .int))) (some (.F, LD ws)) (some (.F, LD (q.ws ++ [px ++ ws[5]]))) (some (.F, LD row)) none none none none none none none
  have hup := upto_ok hq h0 row
  have hF1 : ∀ a b c d e f g h i j k, fVarC 1 [a, some (.F, LD ws), b, c, d, e, f, g, h, i, j, k] = some (LD ws) := fun _ _ _ _ _ _ _ _ _ _ _ => rfl
  have hF2 : ∀ a b c d e f g h i j k, fVarC 2 [a, b, some (.F, enc q), c, d, e, f, g, h, i, j, k] = some (enc q) := fun _ _ _ _ _ _ _ _ _ _ _ => rfl
  have hc0' : f__law_cell_at [.list (ns.map .int), .int 0] = some (.int c0) := hc0
  have hc1' : f__law_cell_at [.list (ns.map .int), .int 1] = some (.int c1) := hc1
  have hw3' : f__law_words [.int c0, .int 6] = some (LD ws) := hw3
  have henc : (PyData.tuple [.int q.sides, LD q.ws, encR q.rooms] : D) = enc q := rfl
  cases hb : brkAt q 0 row with
  | none =>
    rw [hb] at hup
    obtain ⟨t, ht⟩ := brk_none row 0 hb
    have hsn := shortest_none hq h0 row hr2 ht
    have hz : DI.isNon (.none : D) = true := rfl
    simp only [runD, sSeq, sNil, sAsg, sRet, sRetN, sIf, sFor, sExp, sFz, fz, sApp, sSet, sNo, sPass, sBrk, sCnt, fVar, fVarF, fVarC, fC, fBin, fUn, fIf, fB, bOf_b, cAnd, cOr, cNot, fCall, fApp, aCons, aNil, fLst, fTup, bName, bTup, bCons, bNil, sAsgT, List.getD_cons_zero, List.getD_cons_succ, List.map_cons, List.map_nil, List.cons_append, List.nil_append, List.length_cons, List.length_nil, List.replicate_succ, List.replicate_zero, clr, List.set_cons_zero, List.set_cons_succ, Nat.reduceAdd, Nat.reduceSub, Nat.reduceLT, Nat.reduceLeDiff, if_true, if_false, ↓reduceIte, ite_true, oMap_some, dAdd_i, dSub_i, dEq_i, dNe_i, dEq_s, dLt_i, dLe_i, dGt_i, dGe_i, hc0', hc1', hw3', hF1, hF2, fSl, oN, oS, hsl, hr, hE0, hE1, hW5, hpx, hadd, hcat, hr3, hcp, listOf_LD, henc, hup, dIsN_n, hz, hsn]
  | some k =>
    rw [hb] at hup
    dsimp only at hup
    obtain ⟨pre, w, t, h1, h2, h3⟩ := brk_some row 0 k hb
    rw [h1] at hup
    have hlen : pre.length + 1 ≤ 63 := by
      have := congrArg List.length h1
      rw [List.length_take, List.length_append, List.length_singleton] at this
      omega
    have hcs : OkS (pre ++ [w]) := fun x hx => hr2 x (List.mem_of_mem_take (by rw [h1]; exact hx))
    have haf := after_snoc (w := w) pre 0 t h2
    rw [h3] at haf
    have hsh := shortest_ok hq h0 (by omega) w pre (by omega) hcs (by rw [h2]; rfl) haf
    have hle := least_ok hq h0 (by omega) w pre (by omega) h2 h3
    have hpk := pk_len q w pre 0 0
    generalize hS : pk q w pre 0 0 ++ [pre.length] = S at hsh hle
    have hSl : S.length < 1000000 := by rw [← hS, List.length_append]; simp; omega
    have hfl := filt_ok S hSl (some (.F, .list (ns.map .int))) (some (.F, LD ws)) (some (.F, enc q)) (some (.F, LD (q.ws ++ [px ++ ws[5]]))) (some (.F, LD row)) (some (.F, enc q)) (some (.F, LD (pre ++ [w]))) (some (.F, LD (pre ++ [w]))) none none none
    have hz : DI.isNon (LD (pre ++ [w])) = false := rfl
    have hty : tyD (LZ S) = some "list" := rfl
    have hne : dNe (.list []) (.list []) = some (.bool false) := dNe_LD (ws := []) (fun _ h => nomatch h)
    have hisa : isA "list" "list" = true := by decide +kernel
    have hF6 : ∀ a b c d e f g h i j k, fVarC 6 [a, b, c, d, e, f, some (.F, LD (pre ++ [w])), g, h, i, j, k] = some (LD (pre ++ [w])) := fun _ _ _ _ _ _ _ _ _ _ _ => rfl
    simp only [runD, sSeq, sNil, sAsg, sRet, sRetN, sIf, sFor, sExp, sFz, fz, sApp, sSet, sNo, sPass, sBrk, sCnt, fVar, fVarF, fVarC, fC, fBin, fUn, fIf, fB, bOf_b, cAnd, cOr, cNot, fCall, fApp, aCons, aNil, fLst, fTup, bName, bTup, bCons, bNil, sAsgT, List.getD_cons_zero, List.getD_cons_succ, List.map_cons, List.map_nil, List.cons_append, List.nil_append, List.length_cons, List.length_nil, List.replicate_succ, List.replicate_zero, clr, List.set_cons_zero, List.set_cons_succ, Nat.reduceAdd, Nat.reduceSub, Nat.reduceLT, Nat.reduceLeDiff, if_true, if_false, ↓reduceIte, ite_true, oMap_some, dAdd_i, dSub_i, dEq_i, dNe_i, dEq_s, dLt_i, dLe_i, dGt_i, dGe_i, hc0', hc1', hw3', hF1, hF2, hF6, fSl, oN, oS, hsl, hr, hE0, hE1, hW5, hpx, hadd, hcat, hr3, hcp, listOf_LD, henc, hup, dIsN_n, hz, hsh, hle, fIsi, hty, hisa, Bool.not_true, hfl, hne, dEq_self (shaped_LZ S), dEq_self (shaped_LD hcs), dEq_self (shaped_enc hqs)]
end K82

set_option Elab.async false
open PySem PySem.W PyProof.Rows
set_option maxRecDepth 100000 in
set_option maxHeartbeats 0 in
theorem PySem.Challenge.cw_usewarden_k82_whole_shortest_breach_holds : PySem.Challenge.rw_usewarden_k82_whole_shortest_breach.Holds := by
  w_on; o_law; k_head; (case hw => w_witness2)
  k_fill
  refine DI.walk (k := 5) (l := PySem.Challenge.rw_usewarden_k82_whole_shortest_breach) ⟨rfl, by decide, by decide⟩ rfl rfl (fun w h Y => PySem.W.kIn_of Y) ?F
  case F =>
    intro w mg fa h KX G hmg
    refine' K82.all_mk KX G hmg ?a0 ?l0 ?c0 ?k0 ?a1 ?l1 ?c1 ?k1 ?a2 ?l2 ?c2 ?k2 ?a3 ?l3 ?c3 ?k3 ?a4 ?l4 ?c4 ?k4 ?a5 ?l5 ?c5 ?k5 ?a6 ?l6 ?c6 ?k6 ?a7 ?l7 ?c7 ?k7 ?a8 ?l8 ?c8 ?k8 ?a9 ?l9 ?c9 ?k9 ?a10 ?l10 ?c10 ?k10 ?a11 ?l11 ?c11 ?k11 ?a12 ?l12 ?c12 ?k12 ?a13 ?l13 ?c13 ?k13 ?a14 ?l14 ?c14 ?k14 ?a15 ?l15 ?c15 ?k15 ?a16 ?l16 ?c16 ?k16 ?z_bool ?z_dict ?z_enumerate ?z_int ?z_isinstance ?z_len ?z_list ?z_range ?z_sorted K82.law_true
    (case a0 => k_is)
    (case l0 => k_is)
    (case c0 => k_is)
    (case k0 => k_is)
    (case a1 => k_is)
    (case l1 => k_is)
    (case c1 => k_is)
    (case k1 => k_is)
    (case a2 => k_is)
    (case l2 => k_is)
    (case c2 => k_is)
    (case k2 => k_is)
    (case a3 => k_is)
    (case l3 => k_is)
    (case c3 => k_is)
    (case k3 => k_is)
    (case a4 => k_is)
    (case l4 => k_is)
    (case c4 => k_is)
    (case k4 => k_is)
    (case a5 => k_is)
    (case l5 => k_is)
    (case c5 => k_is)
    (case k5 => k_is)
    (case a6 => k_is)
    (case l6 => k_is)
    (case c6 => k_is)
    (case k6 => k_is)
    (case a7 => k_is)
    (case l7 => k_is)
    (case c7 => k_is)
    (case k7 => k_is)
    (case a8 => k_is)
    (case l8 => k_is)
    (case c8 => k_is)
    (case k8 => k_is)
    (case a9 => k_is)
    (case l9 => k_is)
    (case c9 => k_is)
    (case k9 => k_is)
    (case a10 => k_is)
    (case l10 => k_is)
    (case c10 => k_is)
    (case k10 => k_is)
    (case a11 => k_is)
    (case l11 => k_is)
    (case c11 => k_is)
    (case k11 => k_is)
    (case a12 => k_is)
    (case l12 => k_is)
    (case c12 => k_is)
    (case k12 => k_is)
    (case a13 => k_is)
    (case l13 => k_is)
    (case c13 => k_is)
    (case k13 => k_is)
    (case a14 => k_is)
    (case l14 => k_is)
    (case c14 => k_is)
    (case k14 => k_is)
    (case a15 => k_is)
    (case l15 => k_is)
    (case c15 => k_is)
    (case k15 => k_is)
    (case a16 => k_is)
    (case l16 => k_is)
    (case c16 => k_is)
    (case k16 => k_is)
    (case z_bool => k_is)
    (case z_dict => k_is)
    (case z_enumerate => k_is)
    (case z_int => k_is)
    (case z_isinstance => k_is)
    (case z_len => k_is)
    (case z_list => k_is)
    (case z_range => k_is)
    (case z_sorted => k_is)


