import PyProof.Rows.All
import Wide.All
import OpenK.AllK
import Wide.FinOn
import HandS.ForMost
import HandS.IsInst
import HandS.Wide
import HandS.TupAny
import HandS.TupMul
import HandS.Style
import HandS.More
import PySem.Challenge.RW_shiftcases_k05_bounds_recognized
set_option Elab.async false
set_option linter.all false
set_option maxRecDepth 100000
set_option maxHeartbeats 1000000
/-! IL1: data, what stands for it in the heap, steps. -/
namespace IL
open PySem PySem.Spec PyProof.Rows L2

/-- data: what a value of the program is worth; cell n: the n-th shared object -/
inductive D where
  | non | bl (b : Bool) | int (i : Int) | str (s : Str)
  | tup (ds : List D) | lst (ds : List D)
  | dk (ks : List Key) (ds : List D) | dt (ks : List (List Key)) (ds : List D)
  | cell (n : Nat)
  | scr (ns : List Int)
  deriving Inhabited

/-- an address list: the shared objects, each with a second address of its own -/
abbrev Cad := List (Addr × Addr)
abbrev Own := Addr → Prop

/-- a list, a tuple that stands still: not owned, or written by the module -/
def Fz (K : PySem.W.Frag) (H : Hp) (O : Own) (a : Addr) (u : HO) : Prop := Rd H a u ∧ ¬ O a
def KpL (K : PySem.W.Frag) (a : Addr) (xs : List V) : Prop :=
  ∃ (o : Obj) (its : Array Value) (n : Nat), K.lookup a = some o ∧ o.cls = .type "list" ∧ o.dict = none ∧ o.data = .seq its n ∧ its.size ≤ sizeLine ∧ Vals xs its.toList

mutual
inductive RV (K : PySem.W.Frag) (ι : Cad) (H : Hp) (O : Own) : V → D → Prop
  | non : RV K ι H O .non .non
  | bl (b : Bool) : RV K ι H O (.bl b) (.bl b)
  | int (i : Int) : RV K ι H O (.int i) (.int i)
  | str (x : Str) : RV K ι H O (.str x) (.str x)
  | tup {a : Addr} {vs : List V} {ds : List D} : H a = some (.tup vs) → ¬ O a → RVs K ι H O vs ds → RV K ι H O (.ref a) (.tup ds)
  | lst {a : Addr} {vs : List V} {ds : List D} : H a = some (.lst vs) → ¬ O a → RVs K ι H O vs ds → RV K ι H O (.ref a) (.lst ds)
  | dk {a : Addr} {ks : List Key} {vs : List V} {ds : List D} : H a = some (.dK (ks.zip vs)) → ks.length = vs.length → ¬ O a → RVs K ι H O vs ds → RV K ι H O (.ref a) (.dk ks ds)
  | dt {a : Addr} {ks : List (List Key)} {vs : List V} {ds : List D} : H a = some (.dT (ks.zip vs)) → ks.length = vs.length → ¬ O a → RVs K ι H O vs ds → RV K ι H O (.ref a) (.dt ks ds)
  | cell {n : Nat} {p : Addr × Addr} : ι[n]? = some p → RV K ι H O (.ref p.1) (.cell n)
  | scr {a : Addr} {ns : List Int} : (Fz K H O a (.lst (ns.map V.int)) ∨ KpL K a (ns.map V.int)) → RV K ι H O (.ref a) (.scr ns)
inductive RVs (K : PySem.W.Frag) (ι : Cad) (H : Hp) (O : Own) : List V → List D → Prop
  | nil : RVs K ι H O [] []
  | cons {v : V} {vs : List V} {d : D} {ds : List D} : RV K ι H O v d → RVs K ι H O vs ds → RVs K ι H O (v :: vs) (d :: ds)
end

section
variable {K : PySem.W.Frag} {ι ι' : Cad} {H H' : Hp} {O O' : Own}

/-- what stood still stands still -/
structure Keep (ι : Cad) (H : Hp) (O : Own) (ι' : Cad) (H' : Hp) (O' : Own) : Prop where
  h : ∀ a o, H a = some o → ¬ O a → H' a = some o
  o : ∀ a, ¬ O a → H a ≠ none → ¬ O' a
  c : ∀ (n : Nat) (p : Addr × Addr), ι[n]? = some p → ι'[n]? = some p
theorem Keep.refl : Keep ι H O ι H O := ⟨fun _ _ h _ => h, fun _ h _ => h, fun _ _ h => h⟩
theorem Keep.trans {ι2 : Cad} {H2 : Hp} {O2 : Own} (a : Keep ι H O ι' H' O') (b : Keep ι' H' O' ι2 H2 O2) : Keep ι H O ι2 H2 O2 where
  h := fun x o e n => b.h x o (a.h x o e n) (a.o x n (by rw [e]; simp))
  o := fun x n e => by
    cases q : H x with
    | none => exact absurd q e
    | some o => exact b.o x (a.o x n e) (by rw [a.h x o q n]; simp)
  c := fun n p e => b.c n p (a.c n p e)
theorem Fz.keep {a : Addr} {u : HO} (k : Keep ι H O ι' H' O') (f : Fz K H O a u) : Fz K H' O' a u := by
  obtain ⟨r, n⟩ := f
  rcases r with r | ⟨o, r⟩
  · exact ⟨.inl (k.h _ _ r n), k.o _ n (by rw [r]; simp)⟩
  · exact ⟨.inr ⟨o, k.h _ _ r n⟩, k.o _ n (by rw [r]; simp)⟩
mutual
theorem RV.keep (k : Keep ι H O ι' H' O') : ∀ {v : V} {d : D}, RV K ι H O v d → RV K ι' H' O' v d
  | _, _, .non => .non
  | _, _, .bl b => .bl b
  | _, _, .int i => .int i
  | _, _, .str x => .str x
  | _, _, .tup e n r => .tup (k.h _ _ e n) (k.o _ n (by rw [e]; simp)) (RVs.keep k r)
  | _, _, .lst e n r => .lst (k.h _ _ e n) (k.o _ n (by rw [e]; simp)) (RVs.keep k r)
  | _, _, .dk e l n r => .dk (k.h _ _ e n) l (k.o _ n (by rw [e]; simp)) (RVs.keep k r)
  | _, _, .dt e l n r => .dt (k.h _ _ e n) l (k.o _ n (by rw [e]; simp)) (RVs.keep k r)
  | _, _, .cell e => .cell (k.c _ _ e)
  | _, _, .scr e => .scr (e.imp (Fz.keep k) id)
theorem RVs.keep (k : Keep ι H O ι' H' O') : ∀ {vs : List V} {ds : List D}, RVs K ι H O vs ds → RVs K ι' H' O' vs ds
  | _, _, .nil => .nil
  | _, _, .cons a b => .cons (RV.keep k a) (RVs.keep k b)
end
theorem Keep.sub (h : ∀ a, O' a → O a) : Keep ι H O ι H O' := ⟨fun _ _ e _ => e, fun a n _ q => n (h a q), fun _ _ e => e⟩

theorem RVs.length : ∀ {vs : List V} {ds : List D}, RVs K ι H O vs ds → vs.length = ds.length
  | _, _, .nil => rfl
  | _, _, .cons _ t => by simp [RVs.length t]
theorem RVs.get : ∀ {vs : List V} {ds : List D} {i : Nat} {d : D}, RVs K ι H O vs ds → ds[i]? = some d → ∃ v, vs[i]? = some v ∧ RV K ι H O v d
  | _, _, _, _, .nil, e => by simp at e
  | _, _, 0, _, .cons r _, e => by simp at e; subst e; exact ⟨_, rfl, r⟩
  | _, _, i + 1, d, .cons _ t, e => by
    obtain ⟨v, h1, h2⟩ := RVs.get (i := i) (d := d) t (by simpa using e)
    exact ⟨v, by simpa using h1, h2⟩
theorem RVs.get' {vs : List V} {ds : List D} {i : Nat} {v : V} (r : RVs K ι H O vs ds) (e : vs[i]? = some v) : ∃ d, ds[i]? = some d ∧ RV K ι H O v d := by
  have l := r.length
  have hi : i < ds.length := by rw [← l]; exact (List.getElem?_eq_some_iff.mp e).1
  obtain ⟨v', h1, h2⟩ := r.get (i := i) (List.getElem?_eq_getElem hi)
  rw [e] at h1; cases h1
  exact ⟨_, List.getElem?_eq_getElem hi, h2⟩
theorem RVs.append : ∀ {vs ws : List V} {ds es : List D}, RVs K ι H O vs ds → RVs K ι H O ws es → RVs K ι H O (vs ++ ws) (ds ++ es)
  | _, _, _, _, .nil, s => s
  | _, _, _, _, .cons r t, s => .cons r (RVs.append t s)
theorem RVs.take : ∀ {vs : List V} {ds : List D} (n : Nat), RVs K ι H O vs ds → RVs K ι H O (vs.take n) (ds.take n)
  | _, _, 0, _ => by simp; exact .nil
  | _, _, _ + 1, .nil => .nil
  | _, _, n + 1, .cons r t => .cons r (RVs.take n t)
theorem RVs.drop : ∀ {vs : List V} {ds : List D} (n : Nat), RVs K ι H O vs ds → RVs K ι H O (vs.drop n) (ds.drop n)
  | _, _, 0, r => by simpa using r
  | _, _, _ + 1, .nil => .nil
  | _, _, n + 1, .cons _ t => RVs.drop n t
theorem RVs.set {v : V} {d : D} (r : RV K ι H O v d) : ∀ {vs : List V} {ds : List D} (i : Nat), RVs K ι H O vs ds → RVs K ι H O (vs.set i v) (ds.set i d)
  | _, _, _, .nil => .nil
  | _, _, 0, .cons _ t => .cons r t
  | _, _, i + 1, .cons q t => .cons q (RVs.set r i t)
theorem RVs.eraseIdx : ∀ {vs : List V} {ds : List D} (i : Nat), RVs K ι H O vs ds → RVs K ι H O (vs.eraseIdx i) (ds.eraseIdx i)
  | _, _, _, .nil => .nil
  | _, _, 0, .cons _ t => t
  | _, _, i + 1, .cons q t => .cons q (RVs.eraseIdx i t)
theorem RVs.reverse : ∀ {vs : List V} {ds : List D}, RVs K ι H O vs ds → RVs K ι H O vs.reverse ds.reverse
  | _, _, .nil => .nil
  | _, _, .cons r t => by simp only [List.reverse_cons]; exact (RVs.reverse t).append (.cons r .nil)
theorem RVs.rep {vs : List V} {ds : List D} (r : RVs K ι H O vs ds) : ∀ n : Nat, RVs K ι H O (List.replicate n vs).flatten (List.replicate n ds).flatten
  | 0 => by simp; exact .nil
  | n + 1 => by simp only [List.replicate_succ, List.flatten_cons]; exact r.append (RVs.rep r n)
theorem RVs.ints : ∀ (ns : List Int), RVs K ι H O (ns.map V.int) (ns.map D.int)
  | [] => .nil
  | n :: ns => .cons (.int n) (RVs.ints ns)
theorem RVs.ints_inv : ∀ {ns : List Int} {vs : List V}, RVs K ι H O vs (ns.map D.int) → vs = ns.map V.int
  | [], _, .nil => rfl
  | n :: ns, _, .cons (.int _) t => by rw [RVs.ints_inv (ns := ns) t]; rfl
theorem RVs.bls_inv : ∀ {ns : List Bool} {vs : List V}, RVs K ι H O vs (ns.map D.bl) → vs = ns.map V.bl
  | [], _, .nil => rfl
  | n :: ns, _, .cons (.bl _) t => by rw [RVs.bls_inv (ns := ns) t]; rfl
theorem RVs.strs_inv : ∀ {ns : List Str} {vs : List V}, RVs K ι H O vs (ns.map D.str) → vs = ns.map V.str
  | [], _, .nil => rfl
  | n :: ns, _, .cons (.str _) t => by rw [RVs.strs_inv (ns := ns) t]; rfl
theorem RVs.strs : ∀ (ns : List Str), RVs K ι H O (ns.map V.str) (ns.map D.str)
  | [] => .nil
  | n :: ns => .cons (.str n) (RVs.strs ns)

/-- a list or dict that is owned, its items standing still -/
def OV (K : PySem.W.Frag) (ι : Cad) (H : Hp) (O : Own) (a : Addr) : D → Prop
  | .lst ds => ∃ vs, H a = some (.lst vs) ∧ RVs K ι H O vs ds
  | .dk ks ds => ∃ vs, H a = some (.dK (ks.zip vs)) ∧ ks.length = vs.length ∧ RVs K ι H O vs ds
  | .dt ks ds => ∃ vs, H a = some (.dT (ks.zip vs)) ∧ ks.length = vs.length ∧ RVs K ι H O vs ds
  | _ => False
theorem OV.there {a : Addr} {d : D} (h : OV K ι H O a d) : H a ≠ none := by
  cases d <;> simp only [OV] at h
  all_goals (obtain ⟨vs, e, _⟩ := h; rw [e]; simp)
/-- kept: its own object and all that stands still -/
theorem OV.keep {a : Addr} {d : D} (k : Keep ι H O ι' H' O') (e : H' a = H a) (h : OV K ι H O a d) : OV K ι' H' O' a d := by
  cases d <;> simp only [OV] at h ⊢
  · obtain ⟨vs, e1, r⟩ := h; exact ⟨vs, e.trans e1, r.keep k⟩
  · obtain ⟨vs, e1, l, r⟩ := h; exact ⟨vs, e.trans e1, l, r.keep k⟩
  · obtain ⟨vs, e1, l, r⟩ := h; exact ⟨vs, e.trans e1, l, r.keep k⟩
/-- no longer owned -/
theorem OV.rv {a : Addr} {d : D} (h : OV K ι H O a d) (n : ¬ O a) : RV K ι H O (.ref a) d := by
  cases d <;> simp only [OV] at h
  · obtain ⟨vs, e, r⟩ := h; exact .lst e n r
  · obtain ⟨vs, e, l, r⟩ := h; exact .dk e l n r
  · obtain ⟨vs, e, l, r⟩ := h; exact .dt e l n r

/-- none of the shared objects -/
def NC (ι : Cad) (a : Addr) : Prop := ∀ p ∈ ι, p.1 ≠ a
/-- a value that is looked at: its own object may be owned -/
def KV (K : PySem.W.Frag) (ι : Cad) (H : Hp) (O : Own) (v : V) : D → Prop
  | .lst ds => ∃ a vs, v = .ref a ∧ H a = some (.lst vs) ∧ NC ι a ∧ RVs K ι H O vs ds
  | .dk ks ds => ∃ a vs, v = .ref a ∧ H a = some (.dK (ks.zip vs)) ∧ NC ι a ∧ ks.length = vs.length ∧ RVs K ι H O vs ds
  | .dt ks ds => ∃ a vs, v = .ref a ∧ H a = some (.dT (ks.zip vs)) ∧ NC ι a ∧ ks.length = vs.length ∧ RVs K ι H O vs ds
  | d => RV K ι H O v d
theorem RV.kv (hc : ∀ p ∈ ι, O p.1) {v : V} {d : D} (h : RV K ι H O v d) : KV K ι H O v d := by
  have nc : ∀ a, ¬ O a → NC ι a := fun a n p hp e => n (e ▸ hc p hp)
  cases h with
  | lst e n r => exact ⟨_, _, rfl, e, nc _ n, r⟩
  | dk e l n r => exact ⟨_, _, rfl, e, nc _ n, l, r⟩
  | dt e l n r => exact ⟨_, _, rfl, e, nc _ n, l, r⟩
  | non => exact .non
  | bl b => exact .bl b
  | int i => exact .int i
  | str x => exact .str x
  | tup e n r => exact .tup e n r
  | cell e => exact .cell e
  | scr e => exact .scr e
theorem OV.kv {a : Addr} {d : D} (h : OV K ι H O a d) (n : NC ι a) : KV K ι H O (.ref a) d := by
  cases d <;> simp only [OV] at h
  · obtain ⟨vs, e, r⟩ := h; exact ⟨_, vs, rfl, e, n, r⟩
  · obtain ⟨vs, e, l, r⟩ := h; exact ⟨_, vs, rfl, e, n, l, r⟩
  · obtain ⟨vs, e, l, r⟩ := h; exact ⟨_, vs, rfl, e, n, l, r⟩

/-- one step of reckoning: nothing but shared objects changes -/
structure Stp (ι : Cad) (H : Hp) (O : Own) (ι' : Cad) (H' : Hp) (O' : Own) : Prop where
  k : Keep ι H O ι' H' O'
  h2 : ∀ a o, H a = some o → NC ι a → H' a = some o
  n : ∀ p ∈ ι', p ∈ ι ∨ (H p.1 = none ∧ H p.2 = none)
  t : ∀ a, H a ≠ none → H' a ≠ none
theorem Stp.refl : Stp ι H O ι H O := ⟨.refl, fun _ _ h _ => h, fun _ h => .inl h, fun _ h => h⟩
theorem Stp.nc {a : Addr} (s : Stp ι H O ι' H' O') (n : NC ι a) (t : H a ≠ none) : NC ι' a := fun p hp e => by
  rcases s.n p hp with h | ⟨h, _⟩
  · exact n p h e
  · rw [e] at h; exact t h
theorem Stp.trans {ι2 : Cad} {H2 : Hp} {O2 : Own} (a : Stp ι H O ι' H' O') (b : Stp ι' H' O' ι2 H2 O2) : Stp ι H O ι2 H2 O2 where
  k := a.k.trans b.k
  h2 := fun x o e n => b.h2 x o (a.h2 x o e n) (a.nc n (by rw [e]; simp))
  n := fun p hp => by
    rcases b.n p hp with h | h
    · exact a.n p h
    · have back : ∀ x, H' x = none → H x = none := fun x h => by
        cases q : H x with
        | none => rfl
        | some o => exact absurd h (a.t _ (by rw [q]; simp))
      exact .inr ⟨back _ h.1, back _ h.2⟩
  t := fun x h => b.t x (a.t x h)
theorem Stp.sub (h : ∀ a, O' a → O a) : Stp ι H O ι H O' := ⟨.sub h, fun _ _ e _ => e, fun _ h => .inl h, fun _ h => h⟩
/-- a new object is laid; it may be owned -/
theorem Stp.new {p : Addr} {o : HO} (hp : H p = none) (h : ∀ a, O' a → O a ∨ a = p) : Stp ι H O ι (upd H p o) O' where
  k := ⟨fun a o e _ => by rw [upd_ne (ne_of_none e hp)]; exact e, fun a n e q => (h a q).elim n fun z => e (z ▸ hp), fun _ _ e => e⟩
  h2 := fun a o e _ => by rw [upd_ne (ne_of_none e hp)]; exact e
  n := fun _ h => .inl h
  t := fun a e => by
    cases q : H a with
    | none => exact absurd q e
    | some o => rw [upd_ne (ne_of_none q hp), q]; simp
theorem KV.stp (s : Stp ι H O ι' H' O') {v : V} {d : D} (h : KV K ι H O v d) : KV K ι' H' O' v d := by
  cases d with
  | lst ds => obtain ⟨a, vs, rfl, e, n, r⟩ := h; exact ⟨a, vs, rfl, s.h2 _ _ e n, s.nc n (by rw [e]; simp), r.keep s.k⟩
  | dk ks ds => obtain ⟨a, vs, rfl, e, n, l, r⟩ := h; exact ⟨a, vs, rfl, s.h2 _ _ e n, s.nc n (by rw [e]; simp), l, r.keep s.k⟩
  | dt ks ds => obtain ⟨a, vs, rfl, e, n, l, r⟩ := h; exact ⟨a, vs, rfl, s.h2 _ _ e n, s.nc n (by rw [e]; simp), l, r.keep s.k⟩
  | non => exact RV.keep s.k (d := .non) h
  | bl b => exact RV.keep s.k (d := .bl b) h
  | int i => exact RV.keep s.k (d := .int i) h
  | str x => exact RV.keep s.k (d := .str x) h
  | tup ds => exact RV.keep s.k (d := .tup ds) h
  | cell n => exact RV.keep s.k (d := .cell n) h
  | scr ns => exact RV.keep s.k (d := .scr ns) h
theorem KV.lst_inv {v : V} {ds : List D} (h : KV K ι H O v (.lst ds)) : ∃ a vs, v = .ref a ∧ H a = some (.lst vs) ∧ RVs K ι H O vs ds := by
  obtain ⟨a, vs, rfl, e, n, r⟩ := h
  exact ⟨a, vs, rfl, e, r⟩
theorem KV.scr_inv {v : V} {ns : List Int} (h : KV K ι H O v (.scr ns)) : ∃ a, v = .ref a ∧ SqL K H a (ns.map V.int) := by
  have h : RV K ι H O v (.scr ns) := h
  cases h with
  | scr e => exact ⟨_, rfl, e.imp (fun f => f.1) id⟩
theorem KV.cell_inv {v : V} {n : Nat} (h : KV K ι H O v (.cell n)) : ∃ p, v = .ref p.1 ∧ ι[n]? = some p := by
  have h : RV K ι H O v (.cell n) := h
  cases h with
  | cell e => exact ⟨_, rfl, e⟩
theorem KV.tup_inv {v : V} {ds : List D} (h : KV K ι H O v (.tup ds)) : ∃ a vs, v = .ref a ∧ H a = some (.tup vs) ∧ ¬ O a ∧ RVs K ι H O vs ds := by
  have h : RV K ι H O v (.tup ds) := h
  cases h with
  | tup e n r => exact ⟨_, _, rfl, e, n, r⟩
theorem KV.int_inv {v : V} {i : Int} (h : KV K ι H O v (.int i)) : v = .int i := by
  have h : RV K ι H O v (.int i) := h
  cases h; rfl
theorem KV.bl_inv {v : V} {i : Bool} (h : KV K ι H O v (.bl i)) : v = .bl i := by
  have h : RV K ι H O v (.bl i) := h
  cases h; rfl
theorem KV.str_inv {v : V} {i : Str} (h : KV K ι H O v (.str i)) : v = .str i := by
  have h : RV K ι H O v (.str i) := h
  cases h; rfl
theorem KV.non_inv {v : V} (h : KV K ι H O v .non) : v = .non := by
  have h : RV K ι H O v .non := h
  cases h; rfl
theorem KV.dk_inv {v : V} {ks : List Key} {ds : List D} (h : KV K ι H O v (.dk ks ds)) : ∃ a vs, v = .ref a ∧ H a = some (.dK (ks.zip vs)) ∧ ks.length = vs.length ∧ RVs K ι H O vs ds := by
  obtain ⟨a, vs, rfl, e, n, l, r⟩ := h
  exact ⟨a, vs, rfl, e, l, r⟩
theorem KV.dt_inv {v : V} {ks : List (List Key)} {ds : List D} (h : KV K ι H O v (.dt ks ds)) : ∃ a vs, v = .ref a ∧ H a = some (.dT (ks.zip vs)) ∧ ks.length = vs.length ∧ RVs K ι H O vs ds := by
  obtain ⟨a, vs, rfl, e, n, l, r⟩ := h
  exact ⟨a, vs, rfl, e, l, r⟩
end
end IL

/-! IL2: slots, the relation, the readings. -/
namespace IL
open PySem PySem.Spec PyProof.Rows L2

inductive Slot where
  | dat (d : D)
  | own (d : D)
abbrev Rho := List (Option Slot)
/-- a shared object: the tape of draws -/
inductive Cell where
  | tape (ns : List Int) (p x : Int)
abbrev Store := List Cell
inductive Kd where
  | dat | fresh | bor (i : Nat)
inductive Res (α : Type) where
  | ok (a : α) (ρ : Rho) (S : Store)
  | stuck
abbrev M (α : Type) := Rho → Store → Res α
def bnd {α β : Type} (m : M α) (f : α → M β) : M β := fun ρ S => match m ρ S with
  | .ok a ρ' S' => f a ρ' S'
  | .stuck => .stuck
def ret {α : Type} (a : α) : M α := fun ρ S => .ok a ρ S
def lift {α : Type} (o : Option α) : M α := fun ρ S => match o with
  | some a => .ok a ρ S
  | none => .stuck
def fz (k : Kd) (ρ : Rho) : Rho := match k with
  | .bor i => (match ρ[i]? with
    | some (some (.own d)) => ρ.set i (some (.dat d))
    | _ => ρ)
  | _ => ρ
abbrev KD := Kd × D
def frz (m : M KD) : M D := bnd m fun kd ρ S => .ok kd.2 (fz kd.1 ρ) S
def pek (m : M KD) : M D := bnd m fun kd => ret kd.2

def CellAt (H : Hp) (O : Own) : Cell → Addr × Addr → Prop
  | .tape ns p x, ab => H ab.1 = some (.lst [.ref ab.2, .int p, .int x]) ∧ H ab.2 = some (.lst (ns.map V.int)) ∧ ¬ O ab.2
theorem CellAt.keep {ι ι' : Cad} {H H' : Hp} {O O' : Own} {c : Cell} {p : Addr × Addr} (k : Keep ι H O ι' H' O') (e : H' p.1 = H p.1) (h : CellAt H O c p) : CellAt H' O' c p := by
  cases c with
  | tape ns q x =>
    obtain ⟨h1, h2, h3⟩ := h
    exact ⟨e.trans h1, k.h _ _ h2 h3, k.o _ h3 (by rw [h2]; simp)⟩

structure Bs where
  K : PySem.W.Frag
  H0 : Hp
  O0 : Own
  ι0 : Cad
  P : Own := fun _ => False

structure Rel (B : Bs) (ρ : Rho) (S : Store) (σ : L2.St) (ι : Cad) (H : Hp) (O : Own) : Prop where
  dat : ∀ (i : Nat) (d : D), ρ[i]? = some (some (.dat d)) → ∃ v, σ[i]? = some (some v) ∧ RV B.K ι H O v d
  own : ∀ (i : Nat) (d : D), ρ[i]? = some (some (.own d)) → ∃ a, σ[i]? = some (some (.ref a)) ∧ O a ∧ B.H0 a = none ∧ NC ι a ∧ OV B.K ι H O a d
  sep : ∀ (i j : Nat) (d e : D) (a : Addr), i ≠ j → ρ[i]? = some (some (.own d)) → ρ[j]? = some (some (.own e)) → σ[i]? = some (some (.ref a)) → σ[j]? ≠ some (some (.ref a))
  oh : ∀ a, O a → H a ≠ none
  stp : Stp B.ι0 B.H0 B.O0 ι H O
  cl : S.length = ι.length
  cells : ∀ (k : Nat) (c : Cell) (p : Addr × Addr), S[k]? = some c → ι[k]? = some p → CellAt H O c p
  co : ∀ p ∈ ι, O p.1
  cd : ∀ (k l : Nat) (p q : Addr × Addr), ι[k]? = some p → ι[l]? = some q → p.1 = q.1 → k = l
  len : ρ.length = σ.length
  pin : ∀ a, B.P a → O a
  ownP : ∀ (i : Nat) (d : D) (a : Addr), ρ[i]? = some (some (.own d)) → σ[i]? = some (some (.ref a)) → ¬ B.P a

section
variable {B : Bs} {ρ ρ' : Rho} {S S' : Store} {σ : L2.St} {ι ι' : Cad} {H H' : Hp} {O O' : Own} {k : Kd} {v : V} {d : D}
/-- a result and its kind -/
def RK (B : Bs) (k : Kd) (ρ : Rho) (σ : L2.St) (ι : Cad) (H : Hp) (O : Own) (v : V) (d : D) : Prop := match k with
  | .dat => RV B.K ι H O v d
  | .fresh => ∃ a, v = .ref a ∧ O a ∧ B.H0 a = none ∧ NC ι a ∧ OV B.K ι H O a d ∧ (∀ (i : Nat) (e : D), ρ[i]? = some (some (.own e)) → σ[i]? ≠ some (some (.ref a))) ∧ ¬ B.P a
  | .bor i => σ[i]? = some (some v) ∧ (ρ[i]? = some (some (.own d)) ∨ ρ[i]? = some (some (.dat d)))

theorem Rel.new (R : Rel B ρ S σ ι H O) {p : Addr} (hp : H p = none) : B.H0 p = none := by
  cases q : B.H0 p with
  | none => rfl
  | some o => exact absurd hp (R.stp.t p (by rw [q]; simp))
theorem Rel.ncNew (R : Rel B ρ S σ ι H O) {p : Addr} (hp : H p = none) : NC ι p := fun q hq e => R.oh _ (R.co q hq) (e ▸ hp)
theorem Rel.notO (R : Rel B ρ S σ ι H O) {p : Addr} (hp : H p = none) : ¬ O p := fun o => R.oh p o hp
theorem RK.kv (R : Rel B ρ S σ ι H O) (h : RK B k ρ σ ι H O v d) : KV B.K ι H O v d := by
  cases k with
  | dat => exact RV.kv R.co h
  | fresh => obtain ⟨a, rfl, _, _, n, o, _⟩ := h; exact o.kv n
  | bor i =>
    obtain ⟨e, h | h⟩ := h
    · obtain ⟨a, e', _, _, n, o⟩ := R.own i d h
      rw [e'] at e; cases e
      exact o.kv n
    · obtain ⟨v', e', r⟩ := R.dat i d h
      rw [e'] at e; cases e
      exact r.kv R.co
/-- an address that is no slot's is owned no more -/
theorem Rel.drop (R : Rel B ρ S σ ι H O) {a : Addr} (n : NC ι a) (h0 : B.H0 a = none) (hs : ∀ (i : Nat) (e : D), ρ[i]? = some (some (.own e)) → σ[i]? ≠ some (some (.ref a))) (hp : ¬ B.P a) :
    Rel B ρ S σ ι H (fun b => O b ∧ b ≠ a) := by
  have s : Stp ι H O ι H (fun b => O b ∧ b ≠ a) := .sub fun b h => h.1
  exact {
    dat := fun i d e => let ⟨v, h1, h2⟩ := R.dat i d e; ⟨v, h1, h2.keep s.k⟩
    own := fun i d e => let ⟨b, h1, h2, h3, h4, h5⟩ := R.own i d e; ⟨b, h1, ⟨h2, fun z => hs i d e (by rw [h1, z])⟩, h3, h4, h5.keep s.k rfl⟩
    sep := R.sep
    oh := fun b h => R.oh b h.1
    stp := R.stp.trans s
    cl := R.cl
    cells := fun k c p e1 e2 => (R.cells k c p e1 e2).keep s.k rfl
    co := fun p hp => ⟨R.co p hp, n p hp⟩
    cd := R.cd
    len := R.len
    pin := fun b h => ⟨R.pin b h, fun z => hp (z ▸ h)⟩
    ownP := R.ownP }
theorem fz_dat (ρ : Rho) : fz .dat ρ = ρ := rfl
theorem fz_fresh (ρ : Rho) : fz .fresh ρ = ρ := rfl
/-- a slot's object is owned no more -/
theorem Rel.slotDat (R : Rel B ρ S σ ι H O) {i : Nat} (h : ρ[i]? = some (some (.own d))) :
    ∃ a, σ[i]? = some (some (.ref a)) ∧ Rel B (ρ.set i (some (.dat d))) S σ ι H (fun b => O b ∧ b ≠ a) ∧ RV B.K ι H (fun b => O b ∧ b ≠ a) (.ref a) d := by
  obtain ⟨a, e, ho, h0, n, o⟩ := R.own i d h
  have s : Stp ι H O ι H (fun b => O b ∧ b ≠ a) := .sub fun b h => h.1
  have rv : RV B.K ι H (fun b => O b ∧ b ≠ a) (.ref a) d := (o.keep s.k rfl).rv fun z => z.2 rfl
  have hi : i < ρ.length := (List.getElem?_eq_some_iff.mp h).1
  have at' : ∀ (j : Nat) (z : Slot), (ρ.set i (some (.dat d)))[j]? = some (some z) → (j = i ∧ z = .dat d) ∨ (j ≠ i ∧ ρ[j]? = some (some z)) := fun j z q => by
    by_cases hj : j = i
    · subst hj; rw [List.getElem?_set_self hi] at q; cases q; exact .inl ⟨rfl, rfl⟩
    · rw [List.getElem?_set_ne (Ne.symm hj)] at q; exact .inr ⟨hj, q⟩
  refine ⟨a, e, {
    dat := fun j d' q => ?_, own := fun j d' q => ?_, sep := fun j l d1 d2 b hne q1 q2 => ?_, oh := fun b h => R.oh b h.1, stp := R.stp.trans s, cl := R.cl
    cells := fun k c p e1 e2 => (R.cells k c p e1 e2).keep s.k rfl
    co := fun p hp => ⟨R.co p hp, n p hp⟩
    cd := R.cd
    len := by rw [List.length_set]; exact R.len
    pin := fun b hb => ⟨R.pin b hb, fun z => R.ownP i d a h e (z ▸ hb)⟩
    ownP := fun j d' b q1 q2 => ?_ }, rv⟩
  · rcases at' j _ q with ⟨rfl, z⟩ | ⟨hj, q⟩
    · cases z; exact ⟨_, e, rv⟩
    · obtain ⟨v, h1, h2⟩ := R.dat j d' q; exact ⟨v, h1, h2.keep s.k⟩
  · rcases at' j _ q with ⟨rfl, z⟩ | ⟨hj, q⟩
    · cases z
    · obtain ⟨b, h1, h2, h3, h4, h5⟩ := R.own j d' q
      refine ⟨b, h1, ⟨h2, fun z => R.sep i j d d' a (Ne.symm hj) h q e (by rw [h1, z])⟩, h3, h4, h5.keep s.k rfl⟩
  · rcases at' j _ q1 with ⟨rfl, z⟩ | ⟨hj, q1⟩
    · cases z
    rcases at' l _ q2 with ⟨rfl, z⟩ | ⟨hl, q2⟩
    · cases z
    exact R.sep j l d1 d2 b hne q1 q2
  · rcases at' j _ q1 with ⟨rfl, z⟩ | ⟨hj, q1⟩
    · cases z
    · exact R.ownP j d' b q1 q2
/-- a result is made to stand still -/
theorem RK.fz (R : Rel B ρ S σ ι H O) (h : RK B k ρ σ ι H O v d) : ∃ O', Stp ι H O ι H O' ∧ Rel B (fz k ρ) S σ ι H O' ∧ RV B.K ι H O' v d := by
  cases k with
  | dat => exact ⟨O, .refl, R, h⟩
  | fresh =>
    obtain ⟨a, rfl, ho, h0, n, o, hs⟩ := h
    have s : Stp ι H O ι H (fun b => O b ∧ b ≠ a) := .sub fun b h => h.1
    exact ⟨_, s, R.drop n h0 hs.1 hs.2, (o.keep s.k rfl).rv fun z => z.2 rfl⟩
  | bor i =>
    obtain ⟨e, h | h⟩ := h
    · obtain ⟨a, e', R', rv⟩ := R.slotDat h
      rw [e'] at e; cases e
      refine ⟨_, .sub fun b h => h.1, ?_, rv⟩
      have : IL.fz (.bor i) ρ = ρ.set i (some (.dat d)) := by simp only [IL.fz, h]
      rw [this]; exact R'
    · obtain ⟨v', e', r⟩ := R.dat i d h
      rw [e'] at e; cases e
      refine ⟨O, .refl, ?_, r⟩
      have : IL.fz (.bor i) ρ = ρ := by simp only [IL.fz, h]
      rw [this]; exact R
/-- the relation behind a step that leaves the slots' objects -/
theorem Rel.step (R : Rel B ρ S σ ι H O) (s : Stp ι H O ι' H' O') (ho : ∀ (i : Nat) (e : D) (a : Addr), ρ[i]? = some (some (.own e)) → σ[i]? = some (some (.ref a)) → O' a) (oh : ∀ a, O' a → H' a ≠ none) (cl : S'.length = ι'.length)
    (cells : ∀ (k : Nat) (c : Cell) (p : Addr × Addr), S'[k]? = some c → ι'[k]? = some p → CellAt H' O' c p) (co : ∀ p ∈ ι', O' p.1) (cd : ∀ (k l : Nat) (p q : Addr × Addr), ι'[k]? = some p → ι'[l]? = some q → p.1 = q.1 → k = l) (pin : ∀ a, B.P a → O' a) :
    Rel B ρ S' σ ι' H' O' where
  dat := fun i d e => let ⟨v, h1, h2⟩ := R.dat i d e; ⟨v, h1, h2.keep s.k⟩
  own := fun i d e => by
    obtain ⟨b, h1, h2, h3, h4, h5⟩ := R.own i d e
    have ht := h5.there
    refine ⟨b, h1, ho i d b e h1, h3, s.nc h4 ht, h5.keep s.k ?_⟩
    cases q : H b with
    | none => exact absurd q ht
    | some o => exact s.h2 b o q h4
  sep := R.sep
  oh := oh
  stp := R.stp.trans s
  cl := cl
  cells := cells
  co := co
  cd := cd
  len := R.len
  pin := pin
  ownP := R.ownP
/-- .. where a new object is laid -/
theorem Rel.laid (R : Rel B ρ S σ ι H O) {p : Addr} {o : HO} (hp : H p = none) (h1 : ∀ a, O' a → O a ∨ a = p) (h2 : ∀ a, O a → O' a) : Rel B ρ S σ ι (upd H p o) O' := by
  have s : Stp ι H O ι (upd H p o) O' := .new hp h1
  refine R.step s (fun i e a q1 q2 => ?_) (fun a h => ?_) R.cl (fun k c q e1 e2 => ?_) (fun q hq => h2 _ (R.co q hq)) R.cd fun a h => h2 _ (R.pin a h)
  · obtain ⟨b, e1, e2, _⟩ := R.own i e q1
    rw [e1] at q2; cases q2; exact h2 _ e2
  · rcases h1 a h with h | rfl
    · exact s.t a (R.oh a h)
    · rw [upd_same]; simp
  · refine (R.cells k c q e1 e2).keep s.k (upd_ne fun z => ?_)
    exact R.oh _ (R.co q (List.mem_of_getElem? e2)) (z ▸ hp)
/-- a new tuple, standing still -/
theorem Rel.newTup (R : Rel B ρ S σ ι H O) {p : Addr} {vs : List V} {ds : List D} (hp : H p = none) (r : RVs B.K ι H O vs ds) :
    Stp ι H O ι (upd H p (.tup vs)) O ∧ Rel B ρ S σ ι (upd H p (.tup vs)) O ∧ RV B.K ι (upd H p (.tup vs)) O (.ref p) (.tup ds) := by
  have s : Stp ι H O ι (upd H p (.tup vs)) O := .new hp fun _ h => .inl h
  exact ⟨s, R.laid hp (fun _ h => .inl h) fun _ h => h, .tup upd_same (R.notO hp) (r.keep s.k)⟩
/-- a new list or dict, owned by nobody yet -/
theorem Rel.newOwn (R : Rel B ρ S σ ι H O) {p : Addr} {o : HO} {d : D} (hp : H p = none) (r : OV B.K ι (upd H p o) (fun a => O a ∨ a = p) p d) :
    Stp ι H O ι (upd H p o) (fun a => O a ∨ a = p) ∧ Rel B ρ S σ ι (upd H p o) (fun a => O a ∨ a = p) ∧ RK B .fresh ρ σ ι (upd H p o) (fun a => O a ∨ a = p) (.ref p) d := by
  have s : Stp ι H O ι (upd H p o) (fun a => O a ∨ a = p) := .new hp fun _ h => h
  refine ⟨s, R.laid hp (fun _ h => h) fun _ h => .inl h, p, rfl, .inr rfl, R.new hp, R.ncNew hp, r, fun i e q z => ?_, fun z => R.oh _ (R.pin _ z) hp⟩
  obtain ⟨b, e1, e2, _, _, o5⟩ := R.own i e q
  rw [e1] at z; cases z
  exact o5.there hp
theorem Rel.newLst (R : Rel B ρ S σ ι H O) {p : Addr} {vs : List V} {ds : List D} (hp : H p = none) (r : RVs B.K ι H O vs ds) :
    Stp ι H O ι (upd H p (.lst vs)) (fun a => O a ∨ a = p) ∧ Rel B ρ S σ ι (upd H p (.lst vs)) (fun a => O a ∨ a = p) ∧ RK B .fresh ρ σ ι (upd H p (.lst vs)) (fun a => O a ∨ a = p) (.ref p) (.lst ds) :=
  R.newOwn hp ⟨vs, upd_same, r.keep (Stp.new (ι := ι) (O' := fun a => O a ∨ a = p) hp fun _ h => h).k⟩
end

/-! ### readings -/
def tE (B : Bs) (m : M KD) : TE := fun σ H Q => ∃ ρ S ι O, Rel B ρ S σ ι H O ∧ match m ρ S with
  | .ok kd ρ' S' => ∀ v ι' H' O', Stp ι H O ι' H' O' → Rel B ρ' S' σ ι' H' O' → RK B kd.1 ρ' σ ι' H' O' v kd.2 → Q v H'
  | .stuck => False
/-- the result stands still -/
def tF (B : Bs) (m : M D) : TE := fun σ H Q => ∃ ρ S ι O, Rel B ρ S σ ι H O ∧ match m ρ S with
  | .ok d ρ' S' => ∀ v ι' H' O', Stp ι H O ι' H' O' → Rel B ρ' S' σ ι' H' O' → RV B.K ι' H' O' v d → Q v H'
  | .stuck => False
/-- the result is looked at -/
def tP (B : Bs) (m : M D) : TE := fun σ H Q => ∃ ρ S ι O, Rel B ρ S σ ι H O ∧ match m ρ S with
  | .ok d ρ' S' => ∀ v ι' H' O', Stp ι H O ι' H' O' → Rel B ρ' S' σ ι' H' O' → KV B.K ι' H' O' v d → Q v H'
  | .stuck => False
/-- a test -/
def tT (B : Bs) (m : M D) : TT := fun σ H Q => ∃ ρ S ι O, Rel B ρ S σ ι H O ∧ match m ρ S with
  | .ok (.bl b) ρ' S' => ∀ ι' H' O', Stp ι H O ι' H' O' → Rel B ρ' S' σ ι' H' O' → Q b H'
  | _ => False
/-- arguments: each stands still -/
def tA (B : Bs) (m : M (List D)) : TA := fun σ H Q => ∃ ρ S ι O, Rel B ρ S σ ι H O ∧ match m ρ S with
  | .ok ds ρ' S' => ∀ vs ι' H' O', Stp ι H O ι' H' O' → Rel B ρ' S' σ ι' H' O' → RVs B.K ι' H' O' vs ds → Q vs H'
  | .stuck => False

theorem PE.weak {X : Cx} {e : Expr} {t t' : TE} (h : PE X e t) (w : ∀ σ H Q, t' σ H Q → t σ H Q) : PE X e t' := ⟨fun pins s σ H Q I q => h.run pins s σ H Q I (w _ _ _ q)⟩
theorem PT.weak {X : Cx} {e : Expr} {t t' : TT} (h : PT X e t) (w : ∀ σ H Q, t' σ H Q → t σ H Q) : PT X e t' := ⟨fun pins s σ H Q I q => h.run pins s σ H Q I (w _ _ _ q)⟩
theorem PW.weak {X : Cx} {e : Expr} {t t' : TT} (h : PW X e t) (w : ∀ σ H Q, t' σ H Q → t σ H Q) : PW X e t' := ⟨fun whole pins s σ H Q I q => h.run whole pins s σ H Q I (w _ _ _ q)⟩
theorem PA.weak {X : Cx} {e : List Expr} {t t' : TA} (h : PA X e t) (w : ∀ σ H Q, t' σ H Q → t σ H Q) : PA X e t' := ⟨fun pos pins s σ H Q I q => h.run pos pins s σ H Q I (w _ _ _ q)⟩
theorem PS.weak {X : Cx} {e : Stmt} {t t' : TS} (h : PS X e t) (w : ∀ D σ H, t' D σ H → t D σ H) : PS X e t' := ⟨fun pins s σ H D I q => h.run pins s σ H D I (w _ _ _ q)⟩
theorem PSs.weak {X : Cx} {e : List Stmt} {t t' : TS} (h : PSs X e t) (w : ∀ D σ H, t' D σ H → t D σ H) : PSs X e t' := ⟨fun pins s σ H D I q => h.run pins s σ H D I (w _ _ _ q)⟩

section
variable {X : Cx} {B : Bs} {e : Expr} {m : M KD}
theorem tF_E {σ : L2.St} {H : Hp} {Q : VK} (h : tF B (frz m) σ H Q) : tE B m σ H Q := by
  obtain ⟨ρ, S, ι, O, R, h⟩ := h
  refine ⟨ρ, S, ι, O, R, ?_⟩
  simp only [frz, bnd] at h
  cases q : m ρ S with
  | stuck => rw [q] at h; exact h
  | ok kd ρ' S' =>
    rw [q] at h
    intro v ι' H' O' s R' rk
    obtain ⟨O2, s2, R2, rv⟩ := rk.fz R'
    exact h v ι' H' O2 (s.trans s2) R2 rv
theorem tP_E {σ : L2.St} {H : Hp} {Q : VK} (h : tP B (pek m) σ H Q) : tE B m σ H Q := by
  obtain ⟨ρ, S, ι, O, R, h⟩ := h
  refine ⟨ρ, S, ι, O, R, ?_⟩
  simp only [pek, bnd] at h
  cases q : m ρ S with
  | stuck => rw [q] at h; exact h
  | ok kd ρ' S' =>
    rw [q] at h
    intro v ι' H' O' s R' rk
    exact h v ι' H' O' s R' (rk.kv R')
theorem _root_.L2.PE.F (h : PE X e (tE B m)) : PE X e (tF B (frz m)) := PE.weak h fun _ _ _ => tF_E
theorem _root_.L2.PE.P (h : PE X e (tE B m)) : PE X e (tP B (pek m)) := PE.weak h fun _ _ _ => tP_E

/-! ### steps of one value, two values -/
/-- a value-level operation, right by its reading r -/
def Op1 (B : Bs) (f : D → Option KD) (r : V → Hp → VK → Prop) : Prop :=
  ∀ (ρ : Rho) (S : Store) (σ : L2.St) (ι : Cad) (H : Hp) (O : Own) (x : V) (d : D) (kd : KD) (Q : VK), Rel B ρ S σ ι H O → KV B.K ι H O x d → f d = some kd →
    (∀ v H' O', Stp ι H O ι H' O' → Rel B ρ S σ ι H' O' → RK B kd.1 ρ σ ι H' O' v kd.2 → Q v H') → r x H Q
def Op2 (B : Bs) (f : D → D → Option KD) (r : R2) : Prop :=
  ∀ (ρ : Rho) (S : Store) (σ : L2.St) (ι : Cad) (H : Hp) (O : Own) (x y : V) (d e : D) (kd : KD) (Q : VK), Rel B ρ S σ ι H O → KV B.K ι H O x d → KV B.K ι H O y e → f d e = some kd →
    (∀ v H' O', Stp ι H O ι H' O' → Rel B ρ S σ ι H' O' → RK B kd.1 ρ σ ι H' O' v kd.2 → Q v H') → r x y H Q
def m1 (f : D → Option KD) (ma : M KD) : M KD := bnd (pek ma) fun d => lift (f d)
def m2 (f : D → D → Option KD) (ma mb : M KD) : M KD := bnd (pek ma) fun d => bnd (pek mb) fun e => lift (f d e)
variable {ma mb mc : M KD}
theorem tE_m1 {f : D → Option KD} {r : V → Hp → VK → Prop} (ho : Op1 B f r) {σ : L2.St} {H : Hp} {Q : VK} (h : tE B (m1 f ma) σ H Q) : tUn r (tP B (pek ma)) σ H Q := by
  obtain ⟨ρ, S, ι, O, R, h⟩ := h
  refine ⟨ρ, S, ι, O, R, ?_⟩
  simp only [m1, bnd, lift] at h
  cases q : pek ma ρ S with
  | stuck => rw [q] at h; exact h
  | ok d ρ' S' =>
    rw [q] at h; dsimp only at h
    intro v ι' H' O' s R' kv
    cases z : f d with
    | none => rw [z] at h; exact False.elim h
    | some kd =>
      rw [z] at h
      exact ho _ _ _ _ _ _ _ _ _ _ R' kv z fun v2 H2 O2 s2 R2 rk => h v2 ι' H2 O2 (s.trans s2) R2 rk
theorem tE_m2 {f : D → D → Option KD} {r : R2} (ho : Op2 B f r) {σ : L2.St} {H : Hp} {Q : VK} (h : tE B (m2 f ma mb) σ H Q) : tOp r (tP B (pek ma)) (tP B (pek mb)) σ H Q := by
  obtain ⟨ρ, S, ι, O, R, h⟩ := h
  refine ⟨ρ, S, ι, O, R, ?_⟩
  simp only [m2, bnd, lift] at h
  cases q : pek ma ρ S with
  | stuck => rw [q] at h; exact h
  | ok d ρ' S' =>
    rw [q] at h; dsimp only at h
    intro v ι' H' O' s R' kv
    refine ⟨ρ', S', ι', O', R', ?_⟩
    cases q2 : pek mb ρ' S' with
    | stuck => rw [q2] at h; exact h
    | ok e ρ2 S2 =>
      rw [q2] at h; dsimp only at h
      intro v2 ι2 H2 O2 s2 R2 kv2
      cases z : f d e with
      | none => rw [z] at h; exact False.elim h
      | some kd =>
        rw [z] at h
        exact ho _ _ _ _ _ _ _ _ _ _ _ _ R2 (kv.stp s2) kv2 z fun v3 H3 O3 s3 R3 rk => h v3 ι2 H3 O3 (s.trans (s2.trans s3)) R3 rk
theorem Op2.or {f g : D → D → Option KD} {r r' : R2} (h : Op2 B f r) (h' : Op2 B g r') : Op2 B (fun d e => (f d e).or (g d e)) (fun x y H Q => r x y H Q ∨ r' x y H Q) := by
  intro ρ S σ ι H O x y d e kd Q R k1 k2 q hq
  cases z : f d e with
  | some kd' => dsimp only at q; rw [z] at q; cases q; exact .inl (h _ _ _ _ _ _ _ _ _ _ _ _ R k1 k2 z hq)
  | none => dsimp only at q; rw [z] at q; exact .inr (h' _ _ _ _ _ _ _ _ _ _ _ _ R k1 k2 q hq)
theorem Op1.or {f g : D → Option KD} {r r' : V → Hp → VK → Prop} (h : Op1 B f r) (h' : Op1 B g r') : Op1 B (fun d => (f d).or (g d)) (fun x H Q => r x H Q ∨ r' x H Q) := by
  intro ρ S σ ι H O x d kd Q R k1 q hq
  cases z : f d with
  | some kd' => dsimp only at q; rw [z] at q; cases q; exact .inl (h _ _ _ _ _ _ _ _ _ _ R k1 z hq)
  | none => dsimp only at q; rw [z] at q; exact .inr (h' _ _ _ _ _ _ _ _ _ _ R k1 q hq)
end
end IL

/-! IL3: operations on data. -/
namespace IL
open PySem PySem.Spec PyProof.Rows L2

/-! ### binary operators -/
def mulOk (i j : Int) : Bool := decide (i.natAbs < 2 ^ 64) || decide (j.natAbs < 2 ^ 64) || decide (i.natAbs.log2 + j.natAbs.log2 < 1000000)
def bAdd : D → D → Option KD
  | .int i, .int j => some (.dat, .int (i + j))
  | .str x, .str y => if x.length + y.length ≤ sizeLine then some (.dat, .str (x ++ y)) else none
  | .tup a, .tup b => if a.length + b.length ≤ sizeLine then some (.dat, .tup (a ++ b)) else none
  | .lst a, .lst b => if a.length + b.length ≤ sizeLine then some (.fresh, .lst (a ++ b)) else none
  | _, _ => none
def bSub : D → D → Option KD
  | .int i, .int j => some (.dat, .int (i - j))
  | _, _ => none
def bMul : D → D → Option KD
  | .int i, .int j => if mulOk i j then some (.dat, .int (i * j)) else none
  | .tup a, .int k => if a ≠ [] ∧ 2 ≤ k ∧ k ≤ 1000 ∧ a.length ≤ 1000 then some (.dat, .tup (List.replicate k.toNat a).flatten) else none
  | _, _ => none
def bMod : D → D → Option KD
  | .int i, .int j => if 0 < j then some (.dat, .int (i % j)) else none
  | _, _ => none
def bDiv : D → D → Option KD
  | .int i, .int j => if 0 < j ∧ j.natAbs.log2 < 9000 then some (.dat, .int (i / j)) else none
  | _, _ => none
def bPow : D → D → Option KD
  | .int i, .int j => if 0 ≤ j ∧ j ≤ 1000000 ∧ i.natAbs < 2 ^ 64 then some (.dat, .int (i ^ j.toNat)) else none
  | _, _ => none
inductive BOp where | add | sub | mul | mod | div | pow
  deriving DecidableEq
def BOp.py : BOp → Operator
  | .add => .Add | .sub => .Sub | .mul => .Mult | .mod => .Mod | .div => .FloorDiv | .pow => .Pow
def BOp.f : BOp → D → D → Option KD
  | .add => bAdd | .sub => bSub | .mul => bMul | .mod => bMod | .div => bDiv | .pow => bPow

section
variable {B : Bs}
theorem RK.of {ρ : Rho} {σ : L2.St} {ι : Cad} {H : Hp} {O : Own} {v : V} {d : D} (h : RV B.K ι H O v d) : RK B .dat ρ σ ι H O v d := h
end
end IL
namespace IL
open PySem PySem.Spec PyProof.Rows L2
section
variable {B : Bs}
/-- ints in, a value out -/
theorem op2_ints {f : D → D → Option KD} {r : R2} (h : ∀ (i j : Int) (kd : KD) (H : Hp) (Q : VK), f (.int i) (.int j) = some kd → ∃ v, kd.1 = .dat ∧ (∀ K ι O, RV K ι H O v kd.2) ∧ (Q v H → r (.int i) (.int j) H Q))
    (hn : ∀ d e kd, f d e = some kd → ∃ i j, d = .int i ∧ e = .int j) : Op2 B f r := by
  intro ρ S σ ι H O x y d e kd Q R k1 k2 q hq
  obtain ⟨i, j, rfl, rfl⟩ := hn d e kd q
  obtain rfl := k1.int_inv
  obtain rfl := k2.int_inv
  obtain ⟨v, e1, e2, e3⟩ := h i j kd H Q q
  refine e3 (hq v H O .refl R ?_)
  obtain ⟨k, d⟩ := kd
  cases e1
  exact e2 _ _ _
def rAddD (K : PySem.W.Frag) : R2 := fun x y H Q => rI0 (fun i j => .int (i + j)) x y H Q ∨ (∃ i j, x = .str i ∧ y = .str j ∧ i.length + j.length ≤ sizeLine ∧ Q (.str (i ++ j)) H) ∨ rCatA K x y H Q ∨ rCat x y H Q
theorem op_addD {X : Cx} : OpR X (binaryOp .Add) (rAddD X.K) := OpR.or op_add (OpR.or op_add_str (OpR.or op_catA op_cat))
theorem add_ok : Op2 B bAdd (rAddD B.K) := by
  intro ρ S σ ι H O x y d e kd Q R k1 k2 q hq
  unfold bAdd at q
  split at q
  · cases q
    obtain rfl := k1.int_inv
    obtain rfl := k2.int_inv
    exact .inl ⟨_, _, rfl, rfl, hq _ H O .refl R (RV.int _)⟩
  · split at q
    · cases q
      obtain rfl := k1.str_inv
      obtain rfl := k2.str_inv
      exact .inr (.inl ⟨_, _, rfl, rfl, by assumption, hq _ H O .refl R (RV.str _)⟩)
    · cases q
  · rename_i a b
    split at q
    · rename_i hz
      cases q
      obtain ⟨p1, vs, rfl, e1, n1, r1⟩ := k1.tup_inv
      obtain ⟨p2, ws, rfl, e2, n2, r2⟩ := k2.tup_inv
      refine .inr (.inr (.inl ⟨p1, p2, vs, ws, rfl, rfl, SqT.of e1, SqT.of e2, by rw [r1.length, r2.length]; exact hz, fun z => ?_, fun _ z => ?_, fun _ _ p hp => ?_⟩))
      · subst z; cases r1
        exact hq _ H O .refl R (RV.tup e2 n2 r2)
      · subst z; cases r2
        rw [List.append_nil] at hq
        exact hq _ H O .refl R (RV.tup e1 n1 r1)
      · obtain ⟨s, R', rv⟩ := R.newTup hp (r1.append r2)
        exact hq _ _ O s R' rv
    · cases q
  · rename_i a b
    split at q
    · rename_i hz
      cases q
      obtain ⟨p1, vs, rfl, e1, r1⟩ := k1.lst_inv
      obtain ⟨p2, ws, rfl, e2, r2⟩ := k2.lst_inv
      refine .inr (.inr (.inr ⟨p1, p2, vs, ws, rfl, rfl, e1, e2, by rw [r1.length, r2.length]; exact hz, fun p hp => ?_⟩))
      obtain ⟨s, R', rk⟩ := R.newLst hp (r1.append r2)
      exact hq _ _ _ s R' rk
    · cases q
  · cases q
theorem sub_ok : Op2 B bSub (rI0 fun i j => .int (i - j)) := by
  refine op2_ints (fun i j kd H Q q => ?_) fun d e kd q => ?_
  · cases q; exact ⟨_, rfl, fun _ _ _ => .int _, fun q => ⟨_, _, rfl, rfl, q⟩⟩
  · unfold bSub at q; split at q
    · exact ⟨_, _, rfl, rfl⟩
    · cases q
def rMulD (K : PySem.W.Frag) : R2 := fun x y H Q => rI CMul (fun i j => .int (i * j)) x y H Q ∨ rI CMulW (fun i j => .int (i * j)) x y H Q ∨ rRepT K x y H Q
theorem op_mulD {X : Cx} : OpR X (binaryOp .Mult) (rMulD X.K) := OpR.or op_mul (OpR.or op_mulW op_repT)
theorem natAbs64 {i : Int} (h : i.natAbs < 2 ^ 64) : -(2 ^ 64) < i ∧ i < 2 ^ 64 := by
  have e : (2 : Int) ^ 64 = 18446744073709551616 := by decide +kernel
  have e' : (2 : Nat) ^ 64 = 18446744073709551616 := by decide +kernel
  rw [e] at *; rw [e'] at h; omega
theorem mul_ok : Op2 B bMul (rMulD B.K) := by
  intro ρ S σ ι H O x y d e kd Q R k1 k2 q hq
  unfold bMul at q
  split at q
  · split at q
    · rename_i i j hz
      cases q
      obtain rfl := k1.int_inv
      obtain rfl := k2.int_inv
      have q := hq _ H O .refl R (RV.int _)
      simp only [mulOk, Bool.or_eq_true, decide_eq_true_eq] at hz
      rcases hz with (hz | hz) | hz
      · exact .inl ⟨_, _, rfl, rfl, .inl (natAbs64 hz), q⟩
      · exact .inl ⟨_, _, rfl, rfl, .inr (natAbs64 hz), q⟩
      · exact .inr (.inl ⟨_, _, rfl, rfl, hz, q⟩)
    · cases q
  · split at q
    · rename_i a k hz
      cases q
      obtain ⟨p1, vs, rfl, e1, n1, r1⟩ := k1.tup_inv
      obtain rfl := k2.int_inv
      refine .inr (.inr ⟨p1, k, vs, rfl, rfl, SqT.of e1, ?_, hz.2.1, hz.2.2.1, by rw [r1.length]; exact hz.2.2.2, fun p hp => ?_⟩)
      · intro z; subst z; cases r1; exact hz.1 rfl
      · obtain ⟨s, R', rv⟩ := R.newTup hp (r1.rep k.toNat)
        exact hq _ _ O s R' rv
    · cases q
  · cases q
theorem mod_ok : Op2 B bMod (rI (fun _ j => 0 < j) fun i j => .int (i % j)) := by
  refine op2_ints (fun i j kd H Q q => ?_) fun d e kd q => ?_
  · unfold bMod at q; dsimp only at q; split at q
    · cases q; exact ⟨_, rfl, fun _ _ _ => .int _, fun q => ⟨_, _, rfl, rfl, by assumption, q⟩⟩
    · cases q
  · unfold bMod at q; split at q
    · exact ⟨_, _, rfl, rfl⟩
    · cases q
theorem div_ok : Op2 B bDiv (rI CDivW fun i j => .int (i / j)) := by
  refine op2_ints (fun i j kd H Q q => ?_) fun d e kd q => ?_
  · unfold bDiv at q; dsimp only at q; split at q
    · cases q; exact ⟨_, rfl, fun _ _ _ => .int _, fun q => ⟨_, _, rfl, rfl, by assumption, q⟩⟩
    · cases q
  · unfold bDiv at q; split at q
    · exact ⟨_, _, rfl, rfl⟩
    · cases q
theorem pow_ok : Op2 B bPow (rI CPow fun i j => .int (i ^ j.toNat)) := by
  refine op2_ints (fun i j kd H Q q => ?_) fun d e kd q => ?_
  · unfold bPow at q; dsimp only at q; split at q
    · cases q; exact ⟨_, rfl, fun _ _ _ => .int _, fun q => ⟨_, _, rfl, rfl, by assumption, q⟩⟩
    · cases q
  · unfold bPow at q; split at q
    · exact ⟨_, _, rfl, rfl⟩
    · cases q
theorem bop_ok (X : Cx) (hK : X.K = B.K) (o : BOp) : ∃ r, OpR X (binaryOp o.py) r ∧ Op2 B o.f r := by
  cases o with
  | add => exact ⟨_, op_addD, by rw [hK]; exact add_ok⟩
  | sub => exact ⟨_, op_sub, sub_ok⟩
  | mul => exact ⟨_, op_mulD, by rw [hK]; exact mul_ok⟩
  | mod => exact ⟨_, op_mod, mod_ok⟩
  | div => exact ⟨_, op_fdivW, div_ok⟩
  | pow => exact ⟨_, op_pow, pow_ok⟩
def uNeg : D → Option KD
  | .int i => some (.dat, .int (-i))
  | _ => none
theorem neg_ok : Op1 B uNeg (rU fun i => .int (-i)) := by
  intro ρ S σ ι H O x d kd Q R k1 q hq
  unfold uNeg at q; split at q
  · cases q; obtain rfl := k1.int_inv
    exact ⟨_, rfl, hq _ H O .refl R (RV.int _)⟩
  · cases q

/-! ### equality -/
def flatEq : D → D → Option Bool
  | .int i, .int j => some (i == j)
  | .str i, .str j => some (i == j)
  | .bl i, .bl j => some (i == j)
  | .non, .non => some true
  | .non, .int _ => some false | .int _, .non => some false
  | .non, .bl _ => some false | .bl _, .non => some false
  | .non, .str _ => some false | .str _, .non => some false
  | .int _, .str _ => some false | .str _, .int _ => some false
  | .bl _, .str _ => some false | .str _, .bl _ => some false
  | _, _ => none
mutual
def D.py : D → Option PyData
  | .non => some .none
  | .bl b => some (.bool b)
  | .int i => some (.int i)
  | .str x => some (.str x)
  | .tup ds => (D.pyAll ds).map .tuple
  | .lst ds => (D.pyAll ds).map .list
  | _ => none
def D.pyAll : List D → Option (List PyData)
  | [] => some []
  | d :: ds => match D.py d, D.pyAll ds with
    | some p, some ps => some (p :: ps)
    | _, _ => none
end
def deepEq (d e : D) : Option Bool := match D.py d, D.py e with
  | some p, some q => if SeqAt.shaped p && SeqAt.shaped q then some (PyData.eqv p q) else none
  | _, _ => none
def eqB (d e : D) : Option Bool := (flatEq d e).or (deepEq d e)
section
variable {K : PySem.W.Frag} {ι : Cad} {H : Hp} {O : Own}
mutual
theorem RV.dp : ∀ {v : V} {d : D} {p : PyData}, RV K ι H O v d → D.py d = some p → Dp K H v p
  | _, _, _, .non, e => by simp only [D.py, Option.some.injEq] at e; subst e; exact .non
  | _, _, _, .bl b, e => by simp only [D.py, Option.some.injEq] at e; subst e; exact .bl b
  | _, _, _, .int i, e => by simp only [D.py, Option.some.injEq] at e; subst e; exact .int i
  | _, _, _, .str x, e => by simp only [D.py, Option.some.injEq] at e; subst e; exact .str x
  | _, _, _, .tup h n r, e => by
    simp only [D.py, Option.map_eq_some_iff] at e
    obtain ⟨ps, e1, rfl⟩ := e
    exact .tup (SqT.of h) (RVs.dp r e1)
  | _, _, _, .lst h n r, e => by
    simp only [D.py, Option.map_eq_some_iff] at e
    obtain ⟨ps, e1, rfl⟩ := e
    exact .lst (SqL.of h) (RVs.dp r e1)
  | _, _, _, .dk _ _ _ _, e => by simp [D.py] at e
  | _, _, _, .dt _ _ _ _, e => by simp [D.py] at e
  | _, _, _, .cell _, e => by simp [D.py] at e
  | _, _, _, .scr _, e => by simp [D.py] at e
theorem RVs.dp : ∀ {vs : List V} {ds : List D} {ps : List PyData}, RVs K ι H O vs ds → D.pyAll ds = some ps → DpAll K H vs ps
  | _, _, _, .nil, e => by simp only [D.pyAll, Option.some.injEq] at e; subst e; exact .nil
  | _, _, _, .cons a b, e => by
    simp only [D.pyAll] at e
    split at e
    · rename_i p ps e1 e2; cases e; exact .cons (RV.dp a e1) (RVs.dp b e2)
    · cases e
end
theorem KV.dp {v : V} {d : D} {p : PyData} (h : KV K ι H O v d) (e : D.py d = some p) : Dp K H v p := by
  cases d with
  | lst ds =>
    obtain ⟨a, vs, rfl, h, r⟩ := h.lst_inv
    simp only [D.py, Option.map_eq_some_iff] at e
    obtain ⟨ps, e1, rfl⟩ := e
    exact .lst (SqL.of h) (r.dp e1)
  | dk _ _ => simp [D.py] at e
  | dt _ _ => simp [D.py] at e
  | _ => exact RV.dp h e
end
def rEqA (K : PySem.W.Frag) : R2 := fun x y H Q => rEq x y H Q ∨ rEqD K x y H Q
def rNeA (K : PySem.W.Frag) : R2 := fun x y H Q => rNe x y H Q ∨ rNeD K x y H Q
theorem flat_V {K : PySem.W.Frag} {ι : Cad} {H : Hp} {O : Own} {d e : D} {b : Bool} {x y : V} (k1 : KV K ι H O x d) (k2 : KV K ι H O y e) (h : flatEq d e = some b) : scal x y = true ∧ decide (x = y) = b := by
  unfold flatEq at h
  split at h <;> first | cases h | skip
  · obtain rfl := k1.int_inv; obtain rfl := k2.int_inv; exact ⟨rfl, dec_int⟩
  · obtain rfl := k1.str_inv; obtain rfl := k2.str_inv; exact ⟨rfl, dec_str⟩
  · obtain rfl := k1.bl_inv; obtain rfl := k2.bl_inv; exact ⟨rfl, dec_bl⟩
  · obtain rfl := k1.non_inv; obtain rfl := k2.non_inv; exact ⟨rfl, rfl⟩
  · obtain rfl := k1.non_inv; obtain rfl := k2.int_inv; exact ⟨rfl, rfl⟩
  · obtain rfl := k1.int_inv; obtain rfl := k2.non_inv; exact ⟨rfl, rfl⟩
  · obtain rfl := k1.non_inv; obtain rfl := k2.bl_inv; exact ⟨rfl, rfl⟩
  · obtain rfl := k1.bl_inv; obtain rfl := k2.non_inv; exact ⟨rfl, rfl⟩
  · obtain rfl := k1.non_inv; obtain rfl := k2.str_inv; exact ⟨rfl, rfl⟩
  · obtain rfl := k1.str_inv; obtain rfl := k2.non_inv; exact ⟨rfl, rfl⟩
  · obtain rfl := k1.int_inv; obtain rfl := k2.str_inv; exact ⟨rfl, rfl⟩
  · obtain rfl := k1.str_inv; obtain rfl := k2.int_inv; exact ⟨rfl, rfl⟩
  · obtain rfl := k1.bl_inv; obtain rfl := k2.str_inv; exact ⟨rfl, rfl⟩
  · obtain rfl := k1.str_inv; obtain rfl := k2.bl_inv; exact ⟨rfl, rfl⟩
def cEq (d e : D) : Option KD := (eqB d e).map fun b => (.dat, .bl b)
def cNe (d e : D) : Option KD := (eqB d e).map fun b => (.dat, .bl !b)
theorem eq_ok : Op2 B cEq (rEqA B.K) := by
  intro ρ S σ ι H O x y d e kd Q R k1 k2 q hq
  simp only [cEq, Option.map_eq_some_iff, eqB] at q
  obtain ⟨b, q, rfl⟩ := q
  cases z : flatEq d e with
  | some c =>
    rw [z] at q; cases q
    obtain ⟨h1, h2⟩ := flat_V k1 k2 z
    exact .inl ⟨h1, by rw [h2]; exact hq _ H O .refl R (RV.bl _)⟩
  | none =>
    rw [z] at q
    simp only [Option.none_or, deepEq] at q
    split at q
    · rename_i p p' e1 e2
      split at q
      · rename_i hs
        cases q
        rw [Bool.and_eq_true] at hs
        exact .inr ⟨p, p', k1.dp e1, k2.dp e2, hs.1, hs.2, hq _ H O .refl R (RV.bl _)⟩
      · cases q
    · cases q
theorem ne_ok : Op2 B cNe (rNeA B.K) := by
  intro ρ S σ ι H O x y d e kd Q R k1 k2 q hq
  simp only [cNe, Option.map_eq_some_iff, eqB] at q
  obtain ⟨b, q, rfl⟩ := q
  cases z : flatEq d e with
  | some c =>
    rw [z] at q; cases q
    obtain ⟨h1, h2⟩ := flat_V k1 k2 z
    exact .inl ⟨h1, by rw [h2]; exact hq _ H O .refl R (RV.bl _)⟩
  | none =>
    rw [z] at q
    simp only [Option.none_or, deepEq] at q
    split at q
    · rename_i p p' e1 e2
      split at q
      · rename_i hs
        cases q
        rw [Bool.and_eq_true] at hs
        exact .inr ⟨p, p', k1.dp e1, k2.dp e2, hs.1, hs.2, hq _ H O .refl R (RV.bl _)⟩
      · cases q
    · cases q
/-! ### order -/
def cOrd (p : Int → Int → Bool) (s : List Nat → List Nat → Bool) : D → D → Option KD
  | .int i, .int j => some (.dat, .bl (p i j))
  | .str x, .str y => some (.dat, .bl (s x.cps.toList y.cps.toList))
  | _, _ => none
theorem ord_ok {p : Int → Int → Bool} {s : List Nat → List Nat → Bool} : Op2 B (cOrd p s) (fun x y H Q => rI0 (fun i j => .bl (p i j)) x y H Q ∨ ∃ i j, x = .str i ∧ y = .str j ∧ Q (.bl (s i.cps.toList j.cps.toList)) H) := by
  intro ρ S σ ι H O x y d e kd Q R k1 k2 q hq
  unfold cOrd at q
  split at q
  · cases q; obtain rfl := k1.int_inv; obtain rfl := k2.int_inv
    exact .inl ⟨_, _, rfl, rfl, hq _ H O .refl R (RV.bl _)⟩
  · cases q; obtain rfl := k1.str_inv; obtain rfl := k2.str_inv
    exact .inr ⟨_, _, rfl, rfl, hq _ H O .refl R (RV.bl _)⟩
  · cases q
/-! ### in: flat items; one sign of a text -/
def D.flat : D → Bool
  | .non => true | .bl _ => true | .int _ => true | .str _ => true
  | _ => false
def flatEqv : D → D → Bool
  | .non, .non => true
  | .bl a, .bl b => a == b
  | .bl a, .int b => (if a then 1 else 0) == b
  | .int a, .bl b => a == (if b then 1 else 0)
  | .int a, .int b => a == b
  | .str a, .str b => a == b
  | _, _ => false
def inB : D → D → Option Bool
  | d, .lst es => if d.flat && es.all D.flat then some (es.any fun e => flatEqv e d) else none
  | d, .tup es => if d.flat && es.all D.flat then some (es.any fun e => flatEqv e d) else none
  | .str c, .str z => if c.cps.size = 1 then some (decide (c.cps.getD 0 0 ∈ z.cps.toList)) else none
  | _, _ => none
theorem flat_inv {K : PySem.W.Frag} {ι : Cad} {H : Hp} {O : Own} {v : V} {d : D} (h : RV K ι H O v d) (f : d.flat = true) : flatV v = true ∧ ∀ {w : V} {e : D}, RV K ι H O w e → e.flat = true → eqV w v = flatEqv e d := by
  cases h <;> simp only [D.flat, Bool.false_eq_true] at f
  all_goals (refine ⟨rfl, fun {w e} h' f' => ?_⟩; cases h' <;> first | rfl | (simp [D.flat] at f'))
theorem flat_all {K : PySem.W.Frag} {ι : Cad} {H : Hp} {O : Own} {v : V} {d : D} (h : RV K ι H O v d) (f : d.flat = true) : ∀ {vs : List V} {ds : List D}, RVs K ι H O vs ds → ds.all D.flat = true → vs.all flatV = true ∧ inV v vs = ds.any fun e => flatEqv e d
  | _, _, .nil, _ => ⟨rfl, rfl⟩
  | _, _, .cons a b, q => by
    rw [List.all_cons, Bool.and_eq_true] at q
    obtain ⟨h1, h2⟩ := flat_all h f b q.2
    refine ⟨?_, ?_⟩
    · rw [List.all_cons, (flat_inv a q.1).1, h1]; rfl
    · unfold inV at h2 ⊢
      rw [List.any_cons, List.any_cons, h2, (flat_inv h f).2 a q.1]
theorem KV.flat {K : PySem.W.Frag} {ι : Cad} {H : Hp} {O : Own} {v : V} {d : D} (h : KV K ι H O v d) (f : d.flat = true) : RV K ι H O v d := by
  cases d <;> first | exact h | (simp [D.flat] at f)
def rInA (K : PySem.W.Frag) (neg : Bool) : R2 := fun x y H Q => rIn K neg x y H Q ∨ ∃ (c : Nat) (z : Str), x = .str ⟨#[c]⟩ ∧ y = .str z ∧ Q (.bl (if neg then !decide (c ∈ z.cps.toList) else decide (c ∈ z.cps.toList))) H
def cIn (neg : Bool) (d e : D) : Option KD := (inB d e).map fun b => (.dat, .bl (if neg then !b else b))
theorem in_ok {neg : Bool} : Op2 B (cIn neg) (rInA B.K neg) := by
  intro ρ S σ ι H O x y d e kd Q R k1 k2 q hq
  simp only [cIn, Option.map_eq_some_iff] at q
  obtain ⟨b, q, rfl⟩ := q
  unfold inB at q
  split at q
  · split at q
    · rename_i hf; cases q
      rw [Bool.and_eq_true] at hf
      obtain ⟨a, vs, rfl, ha, r⟩ := k2.lst_inv
      obtain ⟨h1, h2⟩ := flat_all (k1.flat hf.1) hf.1 r hf.2
      refine .inl ⟨a, vs, rfl, .inl (SqL.of ha), (flat_inv (k1.flat hf.1) hf.1).1, h1, ?_⟩
      rw [h2]; exact hq _ H O .refl R (RV.bl _)
    · cases q
  · split at q
    · rename_i hf; cases q
      rw [Bool.and_eq_true] at hf
      obtain ⟨a, vs, rfl, ha, _, r⟩ := k2.tup_inv
      obtain ⟨h1, h2⟩ := flat_all (k1.flat hf.1) hf.1 r hf.2
      refine .inl ⟨a, vs, rfl, .inr (SqT.of ha), (flat_inv (k1.flat hf.1) hf.1).1, h1, ?_⟩
      rw [h2]; exact hq _ H O .refl R (RV.bl _)
    · cases q
  · split at q
    · rename_i c z hc; cases q
      obtain rfl := k1.str_inv; obtain rfl := k2.str_inv
      obtain ⟨⟨l⟩⟩ := c
      obtain ⟨n, rfl⟩ : ∃ n, l = [n] := by
        match l, hc with
        | [n], _ => exact ⟨n, rfl⟩
      exact .inr ⟨n, z, rfl, rfl, hq _ H O .refl R (RV.bl _)⟩
    · cases q
  · cases q
/-! ### is -/
def isB : D → D → Option Bool
  | .non, .non => some true
  | .bl _, .non => some false | .int _, .non => some false | .str _, .non => some false | .tup _, .non => some false | .lst _, .non => some false
  | .dk _ _, .non => some false | .dt _ _, .non => some false | .cell _, .non => some false
  | .bl a, .bl b => some (decide (a = b))
  | _, _ => none
def cIs (neg : Bool) (d e : D) : Option KD := (isB d e).map fun b => (.dat, .bl (if neg then !b else b))
def rIsA (neg : Bool) : R2 := fun x y H Q => (y = .non ∧ Q (.bl (if neg then !decide (x = .non) else decide (x = .non))) H) ∨ (∃ a b : Bool, x = .bl a ∧ y = .bl b ∧ Q (.bl (if neg then !decide (a = b) else decide (a = b))) H)
theorem is_ok {neg : Bool} : Op2 B (cIs neg) (rIsA neg) := by
  intro ρ S σ ι H O x y d e kd Q R k1 k2 q hq
  simp only [cIs, Option.map_eq_some_iff] at q
  obtain ⟨b, q, rfl⟩ := q
  have fin : ∀ {b'}, y = V.non → decide (x = .non) = b' → isB d e = some b' → rIsA neg x y H Q := fun {b'} e1 e2 e3 => by
    rw [q] at e3; cases e3
    exact .inl ⟨e1, by rw [e2]; exact hq _ H O .refl R (RV.bl _)⟩
  unfold isB at q
  split at q
  · obtain rfl := k1.non_inv; exact fin k2.non_inv rfl rfl
  · obtain rfl := k1.bl_inv; exact fin k2.non_inv rfl rfl
  · obtain rfl := k1.int_inv; exact fin k2.non_inv rfl rfl
  · obtain rfl := k1.str_inv; exact fin k2.non_inv rfl rfl
  · obtain ⟨_, _, rfl, _⟩ := k1.tup_inv; exact fin k2.non_inv rfl rfl
  · obtain ⟨_, _, rfl, _⟩ := k1.lst_inv; exact fin k2.non_inv rfl rfl
  · obtain ⟨_, _, rfl, _⟩ := k1.dk_inv; exact fin k2.non_inv rfl rfl
  · obtain ⟨_, _, rfl, _⟩ := k1.dt_inv; exact fin k2.non_inv rfl rfl
  · obtain ⟨_, rfl, _⟩ := k1.cell_inv; exact fin k2.non_inv rfl rfl
  · cases q; obtain rfl := k1.bl_inv; obtain rfl := k2.bl_inv
    exact .inr ⟨_, _, rfl, rfl, hq _ H O .refl R (RV.bl _)⟩
  · cases q
inductive COp where | eq | ne | lt | le | gt | ge | inn | nin | is | isnot
  deriving DecidableEq
def COp.py : COp → CmpOp
  | .eq => .Eq | .ne => .NotEq | .lt => .Lt | .le => .LtE | .gt => .Gt | .ge => .GtE | .inn => .In | .nin => .NotIn | .is => .Is | .isnot => .IsNot
def COp.f : COp → D → D → Option KD
  | .eq => cEq | .ne => cNe
  | .lt => cOrd (fun i j => decide (i < j)) (fun x y => decide (x < y))
  | .le => cOrd (fun i j => decide (i ≤ j)) (fun x y => !decide (y < x))
  | .gt => cOrd (fun i j => decide (j < i)) (fun x y => decide (y < x))
  | .ge => cOrd (fun i j => decide (j ≤ i)) (fun x y => !decide (x < y))
  | .inn => cIn false | .nin => cIn true
  | .is => cIs false | .isnot => cIs true
theorem op_notIn_sign' {X : Cx} : OpR X (compareOp .NotIn) (fun x y H Q => ∃ (c : Nat) (z : Str), x = .str ⟨#[c]⟩ ∧ y = .str z ∧ Q (.bl (!decide (c ∈ z.cps.toList))) H) := op_notIn_sign
theorem cop_ok (X : Cx) (hK : X.K = B.K) (hu : X.A.units + 64 < cLine) (o : COp) : ∃ r, OpR X (compareOp o.py) r ∧ Op2 B o.f r := by
  cases o with
  | eq => exact ⟨_, OpR.or op_eq (op_eqD hu), by rw [hK]; exact eq_ok⟩
  | ne => exact ⟨_, OpR.or op_ne (op_neD hu), by rw [hK]; exact ne_ok⟩
  | lt => exact ⟨_, OpR.or op_lt op_lt_str, ord_ok (p := fun i j => decide (i < j)) (s := fun x y => decide (x < y))⟩
  | le => exact ⟨_, OpR.or op_le op_le_str, ord_ok (p := fun i j => decide (i ≤ j)) (s := fun x y => !decide (y < x))⟩
  | gt => exact ⟨_, OpR.or op_gt op_gt_str, ord_ok (p := fun i j => decide (j < i)) (s := fun x y => decide (y < x))⟩
  | ge => exact ⟨_, OpR.or op_ge op_ge_str, ord_ok (p := fun i j => decide (j ≤ i)) (s := fun x y => !decide (x < y))⟩
  | inn => exact ⟨rInA X.K false, OpR.or op_in_seq op_in_sign, by rw [hK]; exact in_ok⟩
  | nin => exact ⟨rInA X.K true, OpR.or op_notIn_seq op_notIn_sign', by rw [hK]; exact in_ok⟩
  | is => exact ⟨rIsA false, OpR.or op_isN op_isBl, is_ok⟩
  | isnot => exact ⟨rIsA true, OpR.or op_notN op_notBl, is_ok⟩
end
end IL

/-! IL4: subscripts, slices, calls of built-ins. -/
namespace IL
open PySem PySem.Spec PyProof.Rows L2

/-! ### dicts -/
def D.key : D → Option Key
  | .int i => some (.inl i)
  | .str s => some (.inr s)
  | _ => none
def keysOf : List D → Option (List Key)
  | [] => some []
  | d :: ds => match d.key, keysOf ds with
    | some k, some ks => some (k :: ks)
    | _, _ => none
def lookK {κ : Type} [DecidableEq κ] (ks : List κ) (ds : List D) (k : κ) : Option D := match ks, ds with
  | j :: ks, d :: ds => if j = k then some d else lookK ks ds k
  | _, _ => none
/-- what a dict holds at a key; none: no such dict or key; some none: nothing there -/
def dget : D → D → Option (Option D)
  | .dk ks ds, k => k.key.map fun k => lookK ks ds k
  | .dt ks ds, .tup k => (keysOf k).map fun k => lookK ks ds k
  | _, _ => none
section
variable {K : PySem.W.Frag} {ι : Cad} {H : Hp} {O : Own}
theorem RV.key {v : V} {d : D} {k : Key} (h : RV K ι H O v d) (e : d.key = some k) : v = kV k := by
  cases h <;> simp only [D.key, Option.some.injEq, reduceCtorEq] at e
  all_goals (subst e; rfl)
theorem RVs.keys : ∀ {vs : List V} {ds : List D} {ks : List Key}, RVs K ι H O vs ds → keysOf ds = some ks → vs = ks.map kV
  | _, _, _, .nil, e => by simp only [keysOf, Option.some.injEq] at e; subst e; rfl
  | _, _, _, .cons a b, e => by
    simp only [keysOf] at e
    split at e
    · rename_i k ks e1 e2; cases e
      rw [RV.key a e1, RVs.keys b e2]; rfl
    · cases e
def RelOV (K : PySem.W.Frag) (ι : Cad) (H : Hp) (O : Own) : Option V → Option D → Prop
  | some v, some d => RV K ι H O v d
  | none, none => True
  | _, _ => False
theorem look_val {κ : Type} [DecidableEq κ] (k : κ) : ∀ {ks : List κ} {vs : List V} {ds : List D}, ks.length = vs.length → RVs K ι H O vs ds → RelOV K ι H O (valV (ks.zip vs) k) (lookK ks ds k)
  | [], _, _, _, .nil => trivial
  | j :: ks, v :: vs, d :: ds, l, .cons a b => by
    rw [List.zip_cons_cons]
    by_cases e : j = k
    · rw [valV_pos (p := (j, v)) e]; simp only [lookK, if_pos e]; exact a
    · rw [valV_neg (p := (j, v)) e]; simp only [lookK, if_neg e]; exact look_val k (by simpa using l) b
theorem dget_ok {x y : V} {d e : D} {o : Option D} (k1 : KV K ι H O x d) (k2 : RV K ι H O y e) (h : dget d e = some o) : ∃ a ov, x = .ref a ∧ DGet H a y ov ∧ RelOV K ι H O ov o := by
  unfold dget at h
  split at h
  · rename_i ks ds k
    obtain ⟨a, vs, rfl, e1, l, r⟩ := k1.dk_inv
    simp only [Option.map_eq_some_iff] at h
    obtain ⟨k', h1, rfl⟩ := h
    obtain rfl := k2.key h1
    exact ⟨a, _, rfl, DGet.k e1, look_val k' l r⟩
  · rename_i ks ds k
    obtain ⟨a, vs, rfl, e1, l, r⟩ := k1.dt_inv
    simp only [Option.map_eq_some_iff] at h
    obtain ⟨k', h1, rfl⟩ := h
    cases k2 with
    | tup e2 n r2 =>
      obtain rfl := r2.keys h1
      exact ⟨a, _, rfl, DGet.t e1 e2, look_val k' l r⟩
  · cases h
end
section
variable {X : Cx}
def rInDict (neg : Bool) : R2 := fun x y H Q => ∃ a o, y = .ref a ∧ DGet H a x o ∧ Q (.bl (if neg then !o.isSome else o.isSome)) H
theorem op_in_dict (hu : X.A.units + 1 < cLine) : OpR X (compareOp .In) (rInDict false) := by
  intro pins s σ H x y v u Q I rx ry h
  obtain ⟨a, o, rfl, g, q⟩ := h
  obtain rfl : u = Value.ref a := ry
  exact d_in hu I g rx fun s3 I3 => ⟨.bl o.isSome, H, I3, rfl, q⟩
theorem op_notin_dict (hu : X.A.units + 1 < cLine) : OpR X (compareOp .NotIn) (rInDict true) := by
  intro pins s σ H x y v u Q I rx ry h
  obtain ⟨a, o, rfl, g, q⟩ := h
  obtain rfl : u = Value.ref a := ry
  exact d_notIn hu I g rx fun s3 I3 => ⟨.bl (!o.isSome), H, I3, rfl, q⟩
def rIxDict : R2 := fun x y H Q => ∃ a v, x = .ref a ∧ DGet H a y (some v) ∧ Q v H
theorem ix_dict (hu : X.A.units + 1 < cLine) : IxR X rIxDict := by
  intro value slice pins s σ H x y v u Q I rx ry h hs
  obtain ⟨a, z, rfl, g, q⟩ := h
  obtain rfl : v = Value.ref a := rx
  have hT := dict_typeIs I g
  unfold subscriptTail
  refine wpAny_bind ?_
  rw [getitemInPython_of_ne hT.not_modules]
  refine wpAny_bind (wpAny_specialOf hT PySem.F.slot_dict_getitem.lookup ?_)
  have fin : wpAny (model X.prog X.w) X.A (subscripted slice false (.ref a) u) (fun r s₃ => wpAny (model X.prog X.w) X.A (letTemporaryGo value (.ref a) r >>= fun _ => pure r) (EP X pins σ Q) X.xe s₃) X.xe s := by
    rw [hs]
    exact wpAny_operating (d_getItem hu I g ry fun w' s3 I3 rw' => wpAny_bind (wpAny_letTemporaryGo (wpAny_pure ⟨z, H, I3, rw', q⟩)))
  first
    | exact wpAny_pure (wpAny_bind fin)
    | exact wpAny_bind (wpAny_pure (wpAny_bind fin))
    | exact wpAny_bind fin
end
section
variable {B : Bs}
/-! ### in, on dicts too -/
def rInAll (K : PySem.W.Frag) (neg : Bool) : R2 := fun x y H Q => rInA K neg x y H Q ∨ rInDict neg x y H Q
def inD (d e : D) : Option Bool := (dget e d).map Option.isSome
def cInD (neg : Bool) (d e : D) : Option KD := (inD d e).map fun b => (.dat, .bl (if neg then !b else b))
theorem RelOV.isSome {K : PySem.W.Frag} {ι : Cad} {H : Hp} {O : Own} : ∀ {a : Option V} {b : Option D}, RelOV K ι H O a b → a.isSome = b.isSome
  | some _, some _, _ => rfl
  | none, none, _ => rfl
theorem KV.keyed {K : PySem.W.Frag} {ι : Cad} {H : Hp} {O : Own} {x : V} {d e : D} {o : Option D} (h : KV K ι H O x e) (q : dget d e = some o) : RV K ι H O x e := by
  cases e with
  | lst _ => unfold dget at q; split at q <;> first | (simp [D.key] at q; done) | (rename_i h; cases h)
  | dk _ _ => unfold dget at q; split at q <;> first | (simp [D.key] at q; done) | (rename_i h; cases h)
  | dt _ _ => unfold dget at q; split at q <;> first | (simp [D.key] at q; done) | (rename_i h; cases h)
  | _ => exact h
theorem inD_ok {neg : Bool} : Op2 B (cInD neg) (rInDict neg) := by
  intro ρ S σ ι H O x y d e kd Q R k1 k2 q hq
  simp only [cInD, inD, Option.map_eq_some_iff] at q
  obtain ⟨b, ⟨o, q, rfl⟩, rfl⟩ := q
  obtain ⟨a, ov, rfl, g, r⟩ := dget_ok k2 (k1.keyed q) q
  exact ⟨a, ov, rfl, g, by rw [r.isSome]; exact hq _ H O .refl R (RV.bl _)⟩
def COp.g : COp → D → D → Option KD
  | .inn => fun d e => (cIn false d e).or (cInD false d e)
  | .nin => fun d e => (cIn true d e).or (cInD true d e)
  | o => o.f
theorem cop_ok' (X : Cx) (hK : X.K = B.K) (hu : X.A.units + 64 < cLine) (o : COp) : ∃ r, OpR X (compareOp o.py) r ∧ Op2 B o.g r := by
  cases o with
  | inn => exact ⟨_, OpR.or (OpR.or op_in_seq op_in_sign) (op_in_dict (by omega)), Op2.or (by rw [hK]; exact in_ok (neg := false)) (inD_ok (neg := false))⟩
  | nin => exact ⟨_, OpR.or (OpR.or op_notIn_seq op_notIn_sign') (op_notin_dict (by omega)), Op2.or (by rw [hK]; exact in_ok (neg := true)) (inD_ok (neg := true))⟩
  | eq => exact cop_ok X hK hu .eq
  | ne => exact cop_ok X hK hu .ne
  | lt => exact cop_ok X hK hu .lt
  | le => exact cop_ok X hK hu .le
  | gt => exact cop_ok X hK hu .gt
  | ge => exact cop_ok X hK hu .ge
  | is => exact cop_ok X hK hu .is
  | isnot => exact cop_ok X hK hu .isnot

/-! ### subscripts, with the store -/
def Op2S (B : Bs) (f : Store → D → D → Option KD) (r : R2) : Prop :=
  ∀ (ρ : Rho) (S : Store) (σ : L2.St) (ι : Cad) (H : Hp) (O : Own) (x y : V) (d e : D) (kd : KD) (Q : VK), Rel B ρ S σ ι H O → KV B.K ι H O x d → KV B.K ι H O y e → f S d e = some kd →
    (∀ v H' O', Stp ι H O ι H' O' → Rel B ρ S σ ι H' O' → RK B kd.1 ρ σ ι H' O' v kd.2 → Q v H') → r x y H Q
def m2S (f : Store → D → D → Option KD) (ma mb : M KD) : M KD := bnd (pek ma) fun d => bnd (pek mb) fun e ρ S => lift (f S d e) ρ S
theorem tE_m2S {f : Store → D → D → Option KD} {r : R2} {ma mb : M KD} (ho : Op2S B f r) {σ : L2.St} {H : Hp} {Q : VK} (h : tE B (m2S f ma mb) σ H Q) : tOp r (tP B (pek ma)) (tP B (pek mb)) σ H Q := by
  obtain ⟨ρ, S, ι, O, R, h⟩ := h
  refine ⟨ρ, S, ι, O, R, ?_⟩
  simp only [m2S, bnd, lift] at h
  cases q : pek ma ρ S with
  | stuck => rw [q] at h; exact h
  | ok d ρ' S' =>
    rw [q] at h; dsimp only at h
    intro v ι' H' O' s R' kv
    refine ⟨ρ', S', ι', O', R', ?_⟩
    cases q2 : pek mb ρ' S' with
    | stuck => rw [q2] at h; exact h
    | ok e ρ2 S2 =>
      rw [q2] at h; dsimp only at h
      intro v2 ι2 H2 O2 s2 R2 kv2
      cases z : f S2 d e with
      | none => rw [z] at h; exact False.elim h
      | some kd =>
        rw [z] at h
        exact ho _ _ _ _ _ _ _ _ _ _ _ _ R2 (kv.stp s2) kv2 z fun v3 H3 O3 s3 R3 rk => h v3 ι2 H3 O3 (s.trans (s2.trans s3)) R3 rk
/-- an item at a place of any sign -/
def atD {α : Type} (xs : List α) (i : Int) : Option α := atI xs i
def cellAt : Cell → Int → Option D
  | .tape ns p x, i => if i = 0 then some (.lst (ns.map D.int)) else if i = 1 then some (.int p) else if i = 2 then some (.int x) else none
def ixB (S : Store) : D → D → Option D
  | .lst ds, .int i => atI ds i
  | .tup ds, .int i => atI ds i
  | .str z, .int i => if z.length ≤ sizeLine then (atI z.cps.toList i).map fun c => .str ⟨#[c]⟩ else none
  | .cell n, .int i => match S[n]? with
    | some c => cellAt c i
    | none => none
  | .dk ks ds, e => (dget (.dk ks ds) e).join
  | .dt ks ds, e => (dget (.dt ks ds) e).join
  | _, _ => none
def ixD (S : Store) (d e : D) : Option KD := (ixB S d e).map fun d => (.dat, d)
def rIxA (K : PySem.W.Frag) : R2 := fun x y H Q => rIx K x y H Q ∨ rIxDict x y H Q
theorem ix_all {X : Cx} (hu : X.A.units + 1 < cLine) : IxR X (rIxA X.K) := ix_seq.or (ix_dict hu)
theorem atI_rv {K : PySem.W.Frag} {ι : Cad} {H : Hp} {O : Own} {vs : List V} {ds : List D} {i : Int} {d : D} (r : RVs K ι H O vs ds) (h : atI ds i = some d) : ∃ v, atI vs i = some v ∧ RV K ι H O v d := by
  unfold atI at h ⊢
  rw [r.length]
  obtain ⟨j, h1, h2⟩ := Option.bind_eq_some_iff.mp h
  obtain ⟨v, h3, h4⟩ := r.get h2
  exact ⟨v, by rw [h1]; exact h3, h4⟩
theorem ixD_ok : Op2S B ixD (rIxA B.K) := by
  intro ρ S σ ι H O x y d e kd Q R k1 k2 q hq
  simp only [ixD, Option.map_eq_some_iff] at q
  obtain ⟨z, q, rfl⟩ := q
  have fin : ∀ {v : V}, RV B.K ι H O v z → Q v H := fun {v} h => hq v H O .refl R h
  unfold ixB at q
  split at q
  · obtain ⟨a, vs, rfl, e1, r⟩ := k1.lst_inv
    obtain rfl := k2.int_inv
    obtain ⟨v, h1, h2⟩ := atI_rv r q
    exact .inl (.inl ⟨a, vs, _, v, rfl, rfl, SqL.of e1, h1, fin h2⟩)
  · obtain ⟨a, vs, rfl, e1, _, r⟩ := k1.tup_inv
    obtain rfl := k2.int_inv
    obtain ⟨v, h1, h2⟩ := atI_rv r q
    exact .inl (.inr (.inl ⟨a, vs, _, v, rfl, rfl, SqT.of e1, h1, fin h2⟩))
  · split at q
    · rename_i hz
      obtain rfl := k1.str_inv
      obtain rfl := k2.int_inv
      simp only [Option.map_eq_some_iff] at q
      obtain ⟨c, q, rfl⟩ := q
      exact .inl (.inr (.inr ⟨_, _, c, rfl, rfl, hz, q, fin (.str _)⟩))
    · cases q
  · obtain ⟨p, rfl, hp⟩ := k1.cell_inv
    obtain rfl := k2.int_inv
    split at q
    · rename_i n i _ c hc
      have ca := R.cells _ _ _ hc hp
      cases c with
      | tape ns a b =>
        obtain ⟨h1, h2, h3⟩ := ca
        simp only [cellAt] at q
        split at q
        · rename_i hi; subst hi; cases q
          exact .inl (.inl ⟨_, _, 0, _, rfl, rfl, SqL.of h1, by simp [atI, ixN], fin (.lst h2 h3 (RVs.ints ns))⟩)
        · split at q
          · rename_i hi; subst hi; cases q
            exact .inl (.inl ⟨_, _, 1, _, rfl, rfl, SqL.of h1, by simp [atI, ixN], fin (.int _)⟩)
          · split at q
            · rename_i hi; subst hi; cases q
              exact .inl (.inl ⟨_, _, 2, _, rfl, rfl, SqL.of h1, by simp [atI, ixN], fin (.int _)⟩)
            · cases q
    · cases q
  · rename_i ks ds
    cases w : dget (.dk ks ds) e with
    | none => rw [w] at q; cases q
    | some o =>
      rw [w] at q
      obtain rfl : o = some z := by simpa using q
      obtain ⟨a, ov, rfl, g, r⟩ := dget_ok k1 (k2.keyed w) w
      cases ov with
      | none => exact r.elim
      | some v => exact .inr ⟨a, v, rfl, g, fin r⟩
  · rename_i ks ds
    cases w : dget (.dt ks ds) e with
    | none => rw [w] at q; cases q
    | some o =>
      rw [w] at q
      obtain rfl : o = some z := by simpa using q
      obtain ⟨a, ov, rfl, g, r⟩ := dget_ok k1 (k2.keyed w) w
      cases ov with
      | none => exact r.elim
      | some v => exact .inr ⟨a, v, rfl, g, fin r⟩
  · cases q

/-! ### slices -/
def cutD (xs : List D) (lo hi : Option Int) : List D := (xs.drop (HT.sIx xs.length 0 lo)).take (HT.sIx xs.length xs.length hi - HT.sIx xs.length 0 lo)
def slB : D → Option Int → Option Int → Option KD
  | .lst ds, lo, hi => some (.fresh, .lst (cutD ds lo hi))
  | .tup ds, lo, hi => some (.dat, .tup (cutD ds lo hi))
  | .str z, lo, hi => if z.length ≤ sizeLine then some (.dat, .str (cutS z lo hi)) else none
  | _, _, _ => none
def rSlAll (K : PySem.W.Frag) : V → Option Int → Option Int → Hp → VK → Prop := fun x lo hi H Q => rSlL K x lo hi H Q ∨ rSlA K x lo hi H Q ∨ rSlS x lo hi H Q
theorem sl_all {X : Cx} : SlR X (rSlAll X.K) := sl_list.or (sl_tupA.or sl_str)
theorem RVs.cut {K : PySem.W.Frag} {ι : Cad} {H : Hp} {O : Own} {vs : List V} {ds : List D} (r : RVs K ι H O vs ds) (lo hi : Option Int) : RVs K ι H O (cutV vs lo hi) (cutD ds lo hi) := by
  unfold cutV cutD
  rw [r.length]
  exact (r.drop _).take _
theorem cutV_whole {xs : List V} {lo hi : Option Int} (h : HT.sIx xs.length 0 lo = 0 ∧ HT.sIx xs.length xs.length hi = xs.length) : cutV xs lo hi = xs := by
  unfold cutV; rw [h.1, h.2]; simp
theorem sl_ok {ρ : Rho} {S : Store} {σ : L2.St} {ι : Cad} {H : Hp} {O : Own} {x : V} {d : D} {lo hi : Option Int} {kd : KD} {Q : VK} (R : Rel B ρ S σ ι H O) (k1 : KV B.K ι H O x d) (q : slB d lo hi = some kd)
    (hq : ∀ v H' O', Stp ι H O ι H' O' → Rel B ρ S σ ι H' O' → RK B kd.1 ρ σ ι H' O' v kd.2 → Q v H') : rSlAll B.K x lo hi H Q := by
  unfold slB at q
  split at q
  · cases q
    obtain ⟨a, vs, rfl, e1, r⟩ := k1.lst_inv
    refine .inl ⟨a, vs, rfl, SqL.of e1, fun p hp => ?_⟩
    obtain ⟨s, R', rk⟩ := R.newLst hp (r.cut lo hi)
    exact hq _ _ _ s R' rk
  · cases q
    obtain ⟨a, vs, rfl, e1, n, r⟩ := k1.tup_inv
    refine .inr (.inl ⟨a, vs, rfl, SqT.of e1, fun h => ?_, fun _ p hp => ?_⟩)
    · have rc := r.cut lo hi
      rw [cutV_whole h] at rc
      exact hq _ H O .refl R (RV.tup e1 n rc)
    · obtain ⟨s, R', rv⟩ := R.newTup hp (r.cut lo hi)
      exact hq _ _ O s R' rv
  · split at q
    · rename_i hz
      cases q
      obtain rfl := k1.str_inv
      exact .inr (.inr ⟨_, rfl, hz, hq _ H O .refl R (RV.str _)⟩)
    · cases q
  · cases q
end
end IL

/-! IL5: the small language, its evaluator, and the look whether a Python tree is written in it. -/
namespace IL
open PySem PySem.Spec PyProof.Rows L2

inductive Lit where | non | bl (b : Bool) | int (i : Int) | str (s : Str)
  deriving DecidableEq
def Lit.d : Lit → D
  | .non => .non | .bl b => .bl b | .int i => .int i | .str s => .str s
def Lit.v : Lit → V
  | .non => .non | .bl b => .bl b | .int i => .int i | .str s => .str s
def Lit.c : Lit → Const → Bool
  | .non, .none => true
  | .bl b, .bool c => b == c
  | .int i, .int j => i == j
  | .str s, .str t => decide (s = t)
  | _, _ => false
inductive Ty where | int | bool | str | tuple | list
  deriving DecidableEq
def Ty.n : Ty → String
  | .int => "int" | .bool => "bool" | .str => "str" | .tuple => "tuple" | .list => "list"
def Ty.s : Ty → Str
  | .int => "int" | .bool => "bool" | .str => "str" | .tuple => "tuple" | .list => "list"
def D.ty : D → String
  | .non => "NoneType" | .bl _ => "bool" | .int _ => "int" | .str _ => "str" | .tup _ => "tuple" | .lst _ => "list" | .dk _ _ => "dict" | .dt _ _ => "dict" | .cell _ => "list" | .scr _ => "list"
/-- whether data is of a kind -/
def isTy : D → Ty → Bool
  | .bl _, .bool => true | .bl _, .int => true
  | .int _, .int => true
  | .str _, .str => true
  | .tup _, .tuple => true
  | .lst _, .list => true
  | .cell _, .list => true
  | .scr _, .list => true
  | _, _ => false
inductive BI where | len | int | list | tuple | max | min | abs | all | any | sum
  deriving DecidableEq
inductive Tg where | nm (i : Nat) | tup (as : Tg) | nil | cons (a b : Tg)
inductive IE where
  | lit (c : Lit) | gl (x : Str) (c : Lit) | var (i : Nat)
  | nil | cons (a b : IE)
  | tup (as : IE) | lst (as : IE)
  | op (o : BOp) (a b : IE) | neg (a : IE)
  | cmp (c : COp) (a b : IE) | chain (c d : COp) (a b e : IE)
  | and (a b : IE) | or (a b : IE) | not (a : IE) | ite (c a b : IE)
  | idx (a b : IE) | slc (a lo hi : IE) | rev (a : IE)
  | call (f : Nat) (as : IE)
  | isi (a : IE) (ts : List Ty) (one : Bool)
  | bi (b : BI) (as : IE)
  | comp (own : List (Str × Nat)) (tg : Tg) (it c e : IE)
  | rg1 (a : IE) | rg2 (a b : IE) | som (a : IE) | sq (a : IE)

/-! ### the evaluator -/
abbrev Fn := Nat → List D → Store → Option (KD × Store)
def stk {α : Type} : M α := fun _ _ => .stuck
def tst (m : M KD) (a b : M α) : M α := bnd (pek m) fun d => match d with
  | .bl true => a
  | .bl false => b
  | _ => stk
mutual
def D.noMut : D → Bool
  | .non => true | .bl _ => true | .int _ => true | .str _ => true | .cell _ => true
  | .tup ds => D.noMutAll ds
  | .lst _ => false | .dk _ _ => false | .dt _ _ => false | .scr _ => false
def D.noMutAll : List D → Bool
  | [] => true
  | d :: ds => D.noMut d && D.noMutAll ds
end
def D.isMut : D → Bool
  | .lst _ => true | .dk _ _ => true | .dt _ _ => true
  | _ => false
def fzAll : List Nat → Rho → Rho
  | [], ρ => ρ
  | i :: is, ρ => fzAll is (fz (.bor i) ρ)
/-- behind a call: the borrowed slots are theirs again, unless the answer could hold them -/
def keepB (bs : List Nat) (d : D) (ρ : Rho) : Rho := match bs with
  | [] => ρ
  | _ => if d.noMut then ρ else fzAll bs ρ
/-- the slots that are lent, each still a list or dict -/
def lent (ρ : Rho) : List (Option Nat × D) → Option (List Nat)
  | [] => some []
  | (none, _) :: r => lent ρ r
  | (some i, d) :: r => match ρ[i]?, lent ρ r with
    | some (some (.own _)), some bs => some (i :: bs)
    | some (some (.dat d')), some bs => if d'.isMut then some (i :: bs) else none
    | _, _ => none
def argOf (kd : KD) : M (Option Nat × D) := match kd.1 with
  | .bor i => if kd.2.isMut then ret (some i, kd.2) else stk
  | _ => ret (none, kd.2)
def slicePart : D → Option Int
  | .int i => some i
  | _ => none
def D.isB : D → Bool | .bl _ => true | _ => false
def D.toB : D → Bool | .bl b => b | _ => false
def D.isI : D → Bool | .int _ => true | _ => false
def D.toI : D → Int | .int i => i | _ => 0
def biLen : List D → Option KD
  | [.str z] => if z.length ≤ sizeLine then some (.dat, .int z.length) else none
  | [.lst ds] => some (.dat, .int ds.length)
  | [.tup ds] => some (.dat, .int ds.length)
  | [.dk ks ds] => some (.dat, .int ds.length)
  | _ => none
def biInt : List D → Option KD
  | [.int i] => some (.dat, .int i)
  | _ => none
def biList : List D → Option KD
  | [.lst ds] => some (.fresh, .lst ds)
  | [.tup ds] => some (.fresh, .lst ds)
  | [.scr ns] => some (.fresh, .lst (ns.map D.int))
  | _ => none
def biTuple : List D → Option KD
  | [.lst ds] => some (.dat, .tup ds)
  | [.tup ds] => some (.dat, .tup ds)
  | _ => none
def biMax : List D → Option KD
  | [.int i, .int j] => some (.dat, .int (if j > i then j else i))
  | _ => none
def biMin : List D → Option KD
  | [.int i, .int j] => some (.dat, .int (if j < i then j else i))
  | _ => none
def biAbs : List D → Option KD
  | [.int i] => some (.dat, .int (if i < 0 then -i else i))
  | _ => none
def biAll : List D → Option KD
  | [.lst ds] => if ds.all D.isB then some (.dat, .bl (ds.all D.toB)) else none
  | _ => none
def biAny : List D → Option KD
  | [.lst ds] => if ds.all D.isB then some (.dat, .bl (ds.any D.toB)) else none
  | _ => none
def biSum : List D → Option KD
  | [.lst ds] => if ds.all D.isI then some (.dat, .int (ds.foldr (fun d a => D.toI d + a) 0)) else none
  | _ => none
def BI.f : BI → List D → Option KD
  | .len => biLen | .int => biInt | .list => biList | .tuple => biTuple | .max => biMax | .min => biMin | .abs => biAbs | .all => biAll | .any => biAny | .sum => biSum
/-- a target's store -/
def setTgs : Tg → List D → Rho → Option Rho
  | .nm i, [d], ρ => if i < ρ.length then some (ρ.set i (some (.dat d))) else none
  | .tup as, [.tup ds], ρ => setTgs as ds ρ
  | .nil, [], ρ => some ρ
  | .cons a b, d :: ds, ρ => match setTgs a [d] ρ with
    | some ρ' => setTgs b ds ρ'
    | none => none
  | _, _, _ => none
def setTg (t : Tg) (d : D) : M Unit := fun ρ S => match setTgs t [d] ρ with
  | some ρ' => .ok () ρ' S
  | none => .stuck
def wipeR (ρ : Rho) : List Nat → Rho
  | [] => ρ
  | v :: vs => (wipeR ρ vs).set v none
/-- the slots behind a comprehension -/
def restR (ρ r : Rho) : List Nat → Rho
  | [] => r
  | v :: vs => (restR ρ r vs).set v ((ρ[v]?).getD none)
def noOwn (ρ : Rho) : List Nat → Bool
  | [] => true
  | v :: vs => (match ρ[v]? with | some (some (.own _)) => false | _ => true) && noOwn ρ vs
def wiped (vs : List Nat) : M Unit := fun ρ S => .ok () (wipeR ρ vs) S
def compTurn (vs : List Nat) (tg : Tg) (mc : M KD) (me : M KD) (d : D) : M (Option D) :=
  bnd (setTg tg d) fun _ => bnd (tst mc (bnd (frz me) fun x => ret (some x)) (ret none)) fun o => bnd (wiped vs) fun _ => ret o
def compLoop (turn : D → M (Option D)) : List D → M (List D)
  | [] => ret []
  | d :: ds => bnd (turn d) fun o => bnd (compLoop turn ds) fun r => ret (o.toList ++ r)
/-- what is walked: lists, tuples, texts -/
def itemsOf : D → Option (List D)
  | .lst ds => some ds
  | .tup ds => some ds
  | .str z => some (z.cps.toList.map fun c => .str ⟨#[c]⟩)
  | _ => none
def rngOf : List D → Option (List D)
  | [.int j] => if -(2 ^ 62) ≤ j ∧ j < 2 ^ 62 then some ((List.range j.toNat).map fun k => .int ((0 : Int) + (k : Nat))) else none
  | [.int i, .int j] => if (-(2 ^ 62) ≤ i ∧ i < 2 ^ 62) ∧ (-(2 ^ 62) ≤ j ∧ j < 2 ^ 62) then some ((List.range (j - i).toNat).map fun k => .int (i + (k : Nat))) else none
  | _ => none
def many (m : M (List D)) : M KD := bnd m fun ds => if ds.length ≤ sizeLine then ret (.fresh, .lst ds) else stk
def compM (vs : List Nat) (src : M (List D)) (turn : D → M (Option D)) : M KD :=
  bnd src fun ds ρ S => if noOwn ρ vs && decide (ds.length < sizeLine) then (match compLoop turn ds (wipeR ρ vs) S with
    | .ok r ρ' S' => .ok (.fresh, .lst r) (restR ρ ρ' vs) S'
    | .stuck => .stuck) else .stuck
section
variable (call : Fn)
mutual
def evE : IE → M KD
  | .lit c => ret (.dat, c.d)
  | .gl _ c => ret (.dat, c.d)
  | .var i => fun ρ S => match ρ[i]? with
    | some (some (.dat d)) => .ok (.dat, d) ρ S
    | some (some (.own d)) => .ok (.bor i, d) ρ S
    | _ => .stuck
  | .tup as => bnd (evL as) fun ds => if ds.length ≤ sizeLine then ret (.dat, .tup ds) else stk
  | .lst as => bnd (evL as) fun ds => if ds.length ≤ sizeLine then ret (.fresh, .lst ds) else stk
  | .op o a b => m2 o.f (evE a) (evE b)
  | .neg a => m1 uNeg (evE a)
  | .cmp c a b => m2 c.g (evE a) (evE b)
  | .chain c d a b e => bnd (pek (evE a)) fun x => bnd (pek (evE b)) fun y => bnd (lift (c.g x y)) fun r => match r.2 with
    | .bl true => bnd (pek (evE e)) fun z => lift (d.g y z)
    | .bl false => ret (.dat, .bl false)
    | _ => stk
  | .and a b => tst (evE a) (evE b) (ret (.dat, .bl false))
  | .or a b => tst (evE a) (ret (.dat, .bl true)) (evE b)
  | .not a => tst (evE a) (ret (.dat, .bl false)) (ret (.dat, .bl true))
  | .ite c a b => tst (evE c) (evE a) (evE b)
  | .idx a b => m2S ixD (evE a) (evE b)
  | .slc a lo hi => bnd (pek (evE a)) fun d => bnd (evO lo) fun l => bnd (evO hi) fun h => lift (slB d l h)
  | .rev a => bnd (pek (evE a)) fun d => match d with
    | .lst ds => ret (.fresh, .lst ds.reverse)
    | _ => stk
  | .call f as => bnd (evA as) fun xs ρ S => match lent ρ xs, call f (xs.map (·.2)) S with
    | some bs, some (kd, S') => .ok kd (keepB bs kd.2 ρ) S'
    | _, _ => .stuck
  | .isi a ts _ => m1 (fun d => some (.dat, .bl (ts.any fun t => isTy d t))) (evE a)
  | .bi b as => bnd (evP as) fun ds => lift (b.f ds)
  | .comp own tg it c e => compM (own.map (·.2)) (evS it) (compTurn (own.map (·.2)) tg (evC c) (evE e))
  | .rg1 _ => stk
  | .rg2 _ _ => stk
  | .som _ => stk
  | .sq _ => stk
  | .nil => stk
  | .cons _ _ => stk
/-- each stands still -/
def evL : IE → M (List D)
  | .nil => ret []
  | .cons a b => bnd (frz (evE a)) fun d => bnd (evL b) fun ds => ret (d :: ds)
  | _ => stk
/-- each is looked at -/
def evP : IE → M (List D)
  | .nil => ret []
  | .cons a b => bnd (pek (evE a)) fun d => bnd (evP b) fun ds => ret (d :: ds)
  | _ => stk
/-- a def's arguments -/
def evA : IE → M (List (Option Nat × D))
  | .nil => ret []
  | .cons a b => bnd (evE a) fun kd => bnd (argOf kd) fun x => bnd (evA b) fun xs => ret (x :: xs)
  | _ => stk
/-- a slice's part -/
def evO : IE → M (Option Int)
  | .nil => ret none
  | .som e => bnd (pek (evE e)) fun d => lift ((slicePart d).map some)
  | _ => stk
/-- what is walked -/
def evS : IE → M (List D)
  | .rg1 a => bnd (pek (evE a)) fun d => lift (rngOf [d])
  | .rg2 a b => bnd (pek (evE a)) fun d => bnd (pek (evE b)) fun e => lift (rngOf [d, e])
  | .sq a => bnd (frz (evE a)) fun d => lift (itemsOf d)
  | _ => stk
/-- a comprehension's test -/
def evC : IE → M KD
  | .nil => ret (.dat, .bl true)
  | .som a => evE a
  | _ => stk
end
theorem evE_neg (a : IE) : evE call (.neg a) = m1 uNeg (evE call a) := rfl
end
end IL

/-! IL6: the look, and the soundness of the evaluator on expressions. -/
namespace IL
open PySem PySem.Spec PyProof.Rows L2

structure Tab where
  fns : List (Str × Nat)
  consts : List (Str × Lit)
  blt : List Str
structure Inf where
  N : List Str
  sc : Scope
  blk : Option Scope := none
def visB (sc : Scope) (x : Str) : Bool := match sc.names.lookup x with
  | some .local => true | some .cell => true | some .free => true
  | _ => false
def locB (sc : Scope) (x : Str) : Bool := match sc.names.lookup x with
  | some .local => true | some .cell => true
  | _ => false
def globB (sc : Scope) (x : Str) : Bool := (match sc.names.lookup x with
  | some .globalImplicit => true
  | _ => false) && !(x == ("__debug__" : Str)) && !decide (x = "__name__")
def bltB (T : Tab) (I : Inf) (x : Str) : Bool := globB I.sc x && T.blt.contains x
def BI.s : BI → Str
  | .len => "len" | .int => "int" | .list => "list" | .tuple => "tuple" | .max => "max" | .min => "min" | .abs => "abs" | .all => "all" | .any => "any" | .sum => "sum"
def notStar : Expr → Bool
  | .Starred _ _ => false
  | _ => true
def notSlice : Expr → Bool
  | .Slice _ _ _ _ => false
  | _ => true
def notSet : Expr → Bool
  | .Set _ _ _ => false
  | _ => true
def tstOk : Expr → Bool
  | .IfExp _ _ _ _ => false
  | _ => true
def chkTys : List Ty → List Expr → Bool
  | [], [] => true
  | t :: ts, .Name x _ :: es => decide (x = t.s) && chkTys ts es
  | _, _ => false
/-- what may be stored to -/
def Inf.tgt (I : Inf) (x : Str) : Bool := match I.blk with
  | none => true
  | some s => locB s x
mutual
def chkTg (I : Inf) : Tg → Expr → Bool
  | .nm i, e => (match e with
    | .Name x _ => decide (I.N[i]? = some x) && locB I.sc x && I.tgt x
    | _ => false)
  | .tup as, e => (match e with
    | .Tuple es _ _ => chkTgs I as es
    | _ => false)
  | _, _ => false
def chkTgs (I : Inf) : Tg → List Expr → Bool
  | .nil, es => es.isEmpty
  | .cons a b, es => (match es with
    | e :: es => notStar e && chkTg I a e && chkTgs I b es
    | _ => false)
  | _, _ => false
end
def Tg.slots : Tg → List Nat
  | .nm i => [i]
  | .tup as => as.slots
  | .nil => []
  | .cons a b => a.slots ++ b.slots
def isiArg (ts : List Ty) (one : Bool) (r : Expr) : Bool := match one, r with
  | true, .Name _ _ => chkTys ts [r]
  | false, .Tuple es _ _ => chkTys ts es
  | _, _ => false
variable (T : Tab)
mutual
def chk : IE → Inf → Expr → Bool
  | .lit c, I, e => (match e with
    | .Constant k _ _ => c.c k
    | _ => false)
  | .gl y c, I, e => (match e with
    | .Name x _ => decide (x = y) && globB I.sc x && decide (T.consts.lookup x = some c)
    | _ => false)
  | .var i, I, e => (match e with
    | .Name x _ => decide (I.N[i]? = some x) && visB I.sc x && !(x == ("__debug__" : Str)) && !(x == ("__classdict__" : Str))
    | _ => false)
  | .tup as, I, e => (match e with
    | .Tuple es _ _ => chkL as I es
    | _ => false)
  | .lst as, I, e => (match e with
    | .List es _ => chkL as I es
    | _ => false)
  | .op o a b, I, e => (match e with
    | .BinOp l p r _ => decide (o.py = p) && chk a I l && chk b I r
    | _ => false)
  | .neg a, I, e => (match e with
    | .UnaryOp .USub r _ => chk a I r
    | _ => false)
  | .cmp c a b, I, e => (match e with
    | .Compare l [p] [r] _ => decide (c.py = p) && notSet r && chk a I l && chk b I r
    | _ => false)
  | .chain c d a b z, I, e => (match e with
    | .Compare l [p, q] [r, s] _ => decide (c.py = p) && decide (d.py = q) && notSet s && chk a I l && chk b I r && chk z I s
    | _ => false)
  | .and a b, I, e => (match e with
    | .BoolOp .And (l :: r :: rest) p => tstOk l && chk a I l && (match rest with | [] => tstOk r && chk b I r | _ => chk b I (.BoolOp .And (r :: rest) p))
    | _ => false)
  | .or a b, I, e => (match e with
    | .BoolOp .Or (l :: r :: rest) p => tstOk l && chk a I l && (match rest with | [] => tstOk r && chk b I r | _ => chk b I (.BoolOp .Or (r :: rest) p))
    | _ => false)
  | .not a, I, e => (match e with
    | .UnaryOp .Not r _ => tstOk r && chk a I r
    | _ => false)
  | .ite c a b, I, e => (match e with
    | .IfExp t l r _ => tstOk t && chk c I t && chk a I l && chk b I r
    | _ => false)
  | .idx a b, I, e => (match e with
    | .Subscript l r _ => notSlice r && chk a I l && chk b I r
    | _ => false)
  | .slc a lo hi, I, e => (match e with
    | .Subscript l (.Slice x y none _) _ => chk a I l && chkO lo I x && chkO hi I y
    | _ => false)
  | .rev a, I, e => (match e with
    | .Subscript l (.Slice none none (some (.UnaryOp .USub (.Constant (.int 1) _ _) _)) _) _ => chk a I l
    | _ => false)
  | .call f as, I, e => (match e with
    | .Call (.Name x _) (a :: es) [] _ => globB I.sc x && decide (T.fns.lookup x = some f) && chkL as I (a :: es)
    | _ => false)
  | .isi a ts one, I, e => (match e with
    | .Call (.Name x _) [l, r] [] _ => decide (x = "isinstance") && bltB T I x && decide (ts.length ≤ 8) && notStar l && notStar r && chk a I l && (ts.all fun t => bltB T I t.s) && isiArg ts one r
    | _ => false)
  | .bi b as, I, e => (match e with
    | .Call (.Name x _) (a :: es) [] _ => decide (x = b.s) && bltB T I x && chkL as I (a :: es)
    | _ => false)
  | .comp own tg it c z, I, e => (match e with
    | .ListComp elt [⟨target, iter, ifs, 0⟩] scope _ =>
      chkS it I iter && blkC I.N I.sc scope own && chkTg ⟨I.N, relS scope I.sc, some scope⟩ tg target && tg.slots.all (fun i => (own.map (·.2)).contains i) &&
      chkC c ⟨I.N, relS scope I.sc, some scope⟩ ifs && chk z ⟨I.N, relS scope I.sc, some scope⟩ elt
    | _ => false)
  | .rg1 _, _, _ => false
  | .rg2 _ _, _, _ => false
  | .som _, _, _ => false
  | .sq _, _, _ => false
  | .nil, _, _ => false
  | .cons _ _, _, _ => false
def chkL : IE → Inf → List Expr → Bool
  | .nil, _, es => es.isEmpty
  | .cons a b, I, es => (match es with
    | e :: es => notStar e && chk a I e && chkL b I es
    | _ => false)
  | _, _, _ => false
def chkS : IE → Inf → Expr → Bool
  | .rg1 a, I, e => (match e with
    | .Call (.Name x _) [l] [] _ => decide (x = "range") && bltB T I x && notStar l && chk a I l
    | _ => false)
  | .rg2 a b, I, e => (match e with
    | .Call (.Name x _) [l, r] [] _ => decide (x = "range") && bltB T I x && notStar l && notStar r && chk a I l && chk b I r
    | _ => false)
  | .sq a, I, e => notSet e && chk a I e
  | _, _, _ => false
def chkC : IE → Inf → List Expr → Bool
  | .nil, _, es => es.isEmpty
  | .som a, I, es => (match es with
    | [e] => tstOk e && chk a I e
    | _ => false)
  | _, _, _ => false
def chkO : IE → Inf → Option Expr → Bool
  | .nil, _, o => o.isNone
  | .som a, I, o => (match o with
    | some e => chk a I e
    | none => false)
  | _, _, _ => false
end
end IL

/-! IL7: the constructs of expressions, one lemma each. -/
namespace IL
open PySem PySem.Spec PyProof.Rows L2

/-- the shared objects stand -/
structure SO (S : Store) (ι : Cad) (H : Hp) (O : Own) : Prop where
  oh : ∀ a, O a → H a ≠ none
  cl : S.length = ι.length
  cells : ∀ (k : Nat) (c : Cell) (p : Addr × Addr), S[k]? = some c → ι[k]? = some p → CellAt H O c p
  co : ∀ p ∈ ι, O p.1
  cd : ∀ (k l : Nat) (p q : Addr × Addr), ι[k]? = some p → ι[l]? = some q → p.1 = q.1 → k = l
theorem Rel.so {B : Bs} {ρ : Rho} {S : Store} {σ : L2.St} {ι : Cad} {H : Hp} {O : Own} (R : Rel B ρ S σ ι H O) : SO S ι H O := ⟨R.oh, R.cl, R.cells, R.co, R.cd⟩
/-- a def's answer: it stands still, or it is new and owned by nobody -/
def RF (K : PySem.W.Frag) (H0 : Hp) (k : Kd) (ι : Cad) (H : Hp) (O : Own) (v : V) (d : D) : Prop := match k with
  | .dat => RV K ι H O v d
  | .fresh => ∃ a, v = .ref a ∧ O a ∧ H0 a = none ∧ NC ι a ∧ OV K ι H O a d
  | .bor _ => False
/-- a def's promise: its answer is what the evaluator's function says -/
def spF (K : PySem.W.Frag) (call : Fn) (f : Nat) : Sp := fun vs H Q _ => ∃ ds S ι O, RVs K ι H O vs ds ∧ SO S ι H O ∧ match call f ds S with
  | some (kd, S') => ∀ v ι' H' O', Stp ι H O ι' H' O' → (∀ a, O a → O' a) → SO S' ι' H' O' → RF K H kd.1 ι' H' O' v kd.2 → Q v H'
  | none => False
structure Glob (T : Tab) (call : Fn) (n : Nat) (X : Cx) : Prop where
  fn : ∀ x f, T.fns.lookup x = some f → ∃ (a : Addr) (fd : FuncData) (ps : List Str), X.mg x = some (.ref a) ∧ FnOk X.prog X.w X.K X.mg X.base CX0 n a fd ps (spF X.K call f) ∧ PySem.W.keepIn X.K (.ref a) = true ∧ Binds X.K fd ps []
  const : ∀ x c, T.consts.lookup x = some c → ∃ u, X.mg x = some u ∧ RelV c.v u
  blt : ∀ x, T.blt.contains x = true → X.mg x = none
structure Ctx (T : Tab) (call : Fn) (n : Nat) (I : Inf) (X : Cx) : Prop where
  g : Glob T call n X
  calm : X.calm = true
  N : X.N = I.N
  nd : X.N.Nodup
  sc : X.env.scope = I.sc
  room : Room n X.A
  fn : ∀ x, I.tgt x = true → X.fn x = true ∨ X.env.scope.names.lookup x = some .local
  nev : X.xe = fun _ _ => False
  kind : X.env.scope.kind = .function

section
variable {T : Tab} {call : Fn} {n : Nat} {I : Inf} {X : Cx} {B : Bs}
theorem vis_of {sc : Scope} {x : Str} (h : visB sc x = true) : Vis sc x := by
  unfold visB at h
  split at h
  · exact .inl (by assumption)
  · exact .inr (.inl (by assumption))
  · exact .inr (.inr (by assumption))
  · cases h
theorem loc_of {sc : Scope} {x : Str} (h : locB sc x = true) : Loc sc x := by
  unfold locB at h
  split at h
  · exact .inl (by assumption)
  · exact .inr (by assumption)
  · cases h
theorem Ctx.gl (c : Ctx T call n I X) {x : Str} (h : globB I.sc x = true) : Gl X x ∧ (x == ("__debug__" : Str)) = false ∧ x ≠ "__name__" := by
  simp only [globB, Bool.and_eq_true, Bool.not_eq_true', decide_eq_false_iff_not] at h
  obtain ⟨⟨h1, h2⟩, h3⟩ := h
  refine ⟨?_, h2, h3⟩
  split at h1
  · show X.env.scope.names.lookup x = _
    rw [c.sc]; assumption
  · cases h1
theorem Ctx.bl (c : Ctx T call n I X) {x : Str} (h : bltB T I x = true) : Gl X x ∧ (x == ("__debug__" : Str)) = false ∧ x ≠ "__name__" ∧ X.mg x = none := by
  simp only [bltB, Bool.and_eq_true] at h
  obtain ⟨a, b, d⟩ := c.gl h.1
  exact ⟨a, b, d, c.g.blt x h.2⟩
theorem Lit.rv (c : Lit) {K : PySem.W.Frag} {ι : Cad} {H : Hp} {O : Own} : RV K ι H O c.v c.d := by
  cases c <;> constructor
/-- a reading that only asks the value -/
theorem tE_ret {d : D} {v : V} (hv : ∀ {ι H O}, RV B.K ι H O v d) {σ : L2.St} {H : Hp} {Q : VK} (h : tE B (ret (.dat, d)) σ H Q) : Q v H := by
  obtain ⟨ρ, S, ι, O, R, h⟩ := h
  exact h v ι H O .refl R hv
theorem pe_lit {c : Lit} {k : Const} {j pos} (h : c.c k = true) : PE X (.Constant k j pos) (tE B (ret (.dat, c.d))) := by
  cases c <;> cases k <;> simp only [Lit.c, Bool.false_eq_true, beq_iff_eq, decide_eq_true_eq] at h
  · exact PE.weak pe_non fun _ _ _ => tE_ret RV.non
  · subst h; exact PE.weak pe_bl fun _ _ _ => tE_ret (RV.bl _)
  · subst h; exact PE.weak pe_int fun _ _ _ => tE_ret (RV.int _)
  · subst h; exact PE.weak pe_str fun _ _ _ => tE_ret (RV.str _)
theorem pe_gl (c : Ctx T call n I X) {x : Str} {l : Lit} {pos : Pos} (h1 : globB I.sc x = true) (h2 : T.consts.lookup x = some l) : PE X (.Name x pos) (tE B (ret (.dat, l.d))) := by
  obtain ⟨g, d, _⟩ := c.gl h1
  obtain ⟨u, e, r⟩ := c.g.const x l h2
  exact PE.weak (pe_glob g e r d) fun _ _ _ => tE_ret (Lit.rv l)
theorem pe_vr (c : Ctx T call n I X) {x : Str} {i : Nat} {pos : Pos} (h1 : I.N[i]? = some x) (h2 : visB I.sc x = true) (h3 : (x == ("__debug__" : Str)) = false) (h4 : (x == ("__classdict__" : Str)) = false) :
    PE X (.Name x pos) (tE B (evE call (.var i))) := by
  refine PE.weak (pe_var (i := i) (by rw [c.N]; exact h1) (by rw [c.sc]; exact vis_of h2) h3 h4) fun σ H Q h => ?_
  obtain ⟨ρ, S, ι, O, R, h⟩ := h
  simp only [evE] at h
  cases q : ρ[i]? with
  | none => rw [q] at h; exact h.elim
  | some o => cases o with
    | none => rw [q] at h; exact h.elim
    | some s => cases s with
      | dat d =>
        rw [q] at h
        obtain ⟨v, e, r⟩ := R.dat i d q
        exact ⟨v, e, h v ι H O .refl R r⟩
      | own d =>
        rw [q] at h
        obtain ⟨a, e, _⟩ := R.own i d q
        exact ⟨_, e, h _ ι H O .refl R ⟨e, .inl q⟩⟩

/-! ### tests -/
theorem tT_P {m : M KD} {σ : L2.St} {H : Hp} {Q : Bool → Hp → Prop} (h : tT B (pek m) σ H Q) : tB (tP B (pek m)) σ H Q := by
  obtain ⟨ρ, S, ι, O, R, h⟩ := h
  refine ⟨ρ, S, ι, O, R, ?_⟩
  cases q : pek m ρ S with
  | stuck => rw [q] at h; exact h
  | ok d ρ' S' =>
    rw [q] at h
    intro v ι' H' O' s R' kv
    cases d with
    | bl b => obtain rfl := kv.bl_inv; exact ⟨b, rfl, h ι' H' O' s R'⟩
    | _ => exact h.elim
theorem tT_tst {m : M KD} {a b : M KD} {σ : L2.St} {H : Hp} {Q : VK} (h : tE B (tst m a b) σ H Q) : tT B (pek m) σ H fun k H1 => if k = true then tE B a σ H1 Q else tE B b σ H1 Q := by
  obtain ⟨ρ, S, ι, O, R, h⟩ := h
  refine ⟨ρ, S, ι, O, R, ?_⟩
  simp only [tst, bnd] at h
  cases q : pek m ρ S with
  | stuck => rw [q] at h; exact h
  | ok d ρ' S' =>
    rw [q] at h; dsimp only at h
    cases d with
    | bl k =>
      intro ι' H' O' s R'
      cases k with
      | true =>
        rw [if_pos rfl]
        refine ⟨ρ', S', ι', O', R', ?_⟩
        dsimp only at h
        cases z : a ρ' S' with
        | stuck => rw [z] at h; exact h
        | ok kd ρ2 S2 => rw [z] at h; exact fun v ι2 H2 O2 s2 R2 rk => h v ι2 H2 O2 (s.trans s2) R2 rk
      | false =>
        rw [if_neg Bool.false_ne_true]
        refine ⟨ρ', S', ι', O', R', ?_⟩
        dsimp only at h
        cases z : b ρ' S' with
        | stuck => rw [z] at h; exact h
        | ok kd ρ2 S2 => rw [z] at h; exact fun v ι2 H2 O2 s2 R2 rk => h v ι2 H2 O2 (s.trans s2) R2 rk
    | _ => exact h.elim
theorem pek_tst {m a b : M KD} : pek (tst m a b) = tst m (pek a) (pek b) := by
  funext ρ S
  simp only [pek, tst, bnd]
  cases m ρ S with
  | stuck => rfl
  | ok kd ρ' S' =>
    dsimp only [ret]
    cases kd.2 with
    | bl k => cases k <;> rfl
    | _ => rfl
/-- the same in the wording of a test's value -/
theorem tT_tstD {m : M KD} {a b : M D} {σ : L2.St} {H : Hp} {Q : Bool → Hp → Prop} (h : tT B (tst m a b) σ H Q) : tT B (pek m) σ H fun k H1 => if k = true then tT B a σ H1 Q else tT B b σ H1 Q := by
  obtain ⟨ρ, S, ι, O, R, h⟩ := h
  refine ⟨ρ, S, ι, O, R, ?_⟩
  simp only [tst, bnd] at h
  cases q : pek m ρ S with
  | stuck => rw [q] at h; exact h
  | ok d ρ' S' =>
    rw [q] at h; dsimp only at h
    cases d with
    | bl k =>
      intro ι' H' O' s R'
      have go : ∀ c : M D, (match c ρ' S' with | .ok (.bl b) ρ2 S2 => ∀ ι2 H2 O2, Stp ι H O ι2 H2 O2 → Rel B ρ2 S2 σ ι2 H2 O2 → Q b H2 | _ => False) → tT B c σ H' Q := fun c h => by
        refine ⟨ρ', S', ι', O', R', ?_⟩
        cases z : c ρ' S' with
        | stuck => rw [z] at h; exact h
        | ok e ρ2 S2 =>
          rw [z] at h
          cases e with
          | bl k2 => exact fun ι2 H2 O2 s2 R2 => h ι2 H2 O2 (s.trans s2) R2
          | _ => exact h.elim
      cases k with
      | true => rw [if_pos rfl]; exact go a h
      | false => rw [if_neg Bool.false_ne_true]; exact go b h
    | _ => exact h.elim
theorem tT_tstT {m : M KD} {a b : M KD} {σ : L2.St} {H : Hp} {Q : Bool → Hp → Prop} (h : tT B (pek (tst m a b)) σ H Q) : tT B (pek m) σ H fun k H1 => if k = true then tT B (pek a) σ H1 Q else tT B (pek b) σ H1 Q := by
  rw [pek_tst] at h; exact tT_tstD h
theorem tT_lit {b : Bool} {σ : L2.St} {H : Hp} {Q : Bool → Hp → Prop} (h : tT B (pek (ret (.dat, .bl b))) σ H Q) : Q b H := by
  obtain ⟨ρ, S, ι, O, R, h⟩ := h
  exact h ι H O .refl R
end
end IL

/-! IL8: displays, operators, subscripts, slices, built-ins, isinstance. -/
namespace IL
open PySem PySem.Spec PyProof.Rows L2
section
variable {T : Tab} {call : Fn} {n : Nat} {I : Inf} {X : Cx} {B : Bs}
/-! ### sequences of arguments -/
/-- binding: the first part's reading hands on to the second's -/
theorem star_of {e : Expr} {es : List Expr} {env : PySem.Env} (h : notStar e = true) : starEach (e :: es) env = (false, eval e env) :: starEach es env := by
  cases e <;> first | rfl | (simp [notStar] at h)
theorem pa_nilD : PA X [] (tA B (ret [])) := PA.weak pa_nil fun σ H Q h => by
  obtain ⟨ρ, S, ι, O, R, h⟩ := h
  exact h [] ι H O .refl R .nil
theorem pa_consD {e : Expr} {es : List Expr} {m : M KD} {ms : M (List D)} (hs : notStar e = true) (ha : PE X e (tE B m)) (hr : PA X es (tA B ms)) :
    PA X (e :: es) (tA B (bnd (frz m) fun d => bnd ms fun ds => ret (d :: ds))) := by
  refine PA.weak (pa_cons ha.F hr (star_of hs)) fun σ H Q h => ?_
  obtain ⟨ρ, S, ι, O, R, h⟩ := h
  refine ⟨ρ, S, ι, O, R, ?_⟩
  simp only [bnd] at h
  cases q : frz m ρ S with
  | stuck => rw [q] at h; exact h
  | ok d ρ' S' =>
    rw [q] at h; dsimp only at h
    intro v ι' H' O' s R' rv
    refine ⟨ρ', S', ι', O', R', ?_⟩
    cases q2 : ms ρ' S' with
    | stuck => rw [q2] at h; exact h
    | ok ds ρ2 S2 =>
      rw [q2] at h; dsimp only [ret] at h
      exact fun vs ι2 H2 O2 s2 R2 rvs => h (v :: vs) ι2 H2 O2 (s.trans s2) R2 (.cons (rv.keep s2.k) rvs)
/-- each is looked at -/
inductive KVs (K : PySem.W.Frag) (ι : Cad) (H : Hp) (O : Own) : List V → List D → Prop
  | nil : KVs K ι H O [] []
  | cons {v : V} {vs : List V} {d : D} {ds : List D} : KV K ι H O v d → KVs K ι H O vs ds → KVs K ι H O (v :: vs) (d :: ds)
def tAP (B : Bs) (m : M (List D)) : TA := fun σ H Q => ∃ ρ S ι O, Rel B ρ S σ ι H O ∧ match m ρ S with
  | .ok ds ρ' S' => ∀ vs ι' H' O', Stp ι H O ι' H' O' → Rel B ρ' S' σ ι' H' O' → KVs B.K ι' H' O' vs ds → Q vs H'
  | .stuck => False
theorem pa_nilP : PA X [] (tAP B (ret [])) := PA.weak pa_nil fun σ H Q h => by
  obtain ⟨ρ, S, ι, O, R, h⟩ := h
  exact h [] ι H O .refl R .nil
theorem pa_consP {e : Expr} {es : List Expr} {m : M KD} {ms : M (List D)} (hs : notStar e = true) (ha : PE X e (tE B m)) (hr : PA X es (tAP B ms)) :
    PA X (e :: es) (tAP B (bnd (pek m) fun d => bnd ms fun ds => ret (d :: ds))) := by
  refine PA.weak (pa_cons ha.P hr (star_of hs)) fun σ H Q h => ?_
  obtain ⟨ρ, S, ι, O, R, h⟩ := h
  refine ⟨ρ, S, ι, O, R, ?_⟩
  simp only [bnd] at h
  cases q : pek m ρ S with
  | stuck => rw [q] at h; exact h
  | ok d ρ' S' =>
    rw [q] at h; dsimp only at h
    intro v ι' H' O' s R' rv
    refine ⟨ρ', S', ι', O', R', ?_⟩
    cases q2 : ms ρ' S' with
    | stuck => rw [q2] at h; exact h
    | ok ds ρ2 S2 =>
      rw [q2] at h; dsimp only [ret] at h
      exact fun vs ι2 H2 O2 s2 R2 rvs => h (v :: vs) ι2 H2 O2 (s.trans s2) R2 (.cons (rv.stp s2) rvs)
/-! ### displays -/
theorem pe_tupD {es : List Expr} {k : Nat} {pos : Pos} {m : M (List D)} (h : PA X es (tA B m)) : PE X (.Tuple es k pos) (tE B (bnd m fun ds => if ds.length ≤ sizeLine then ret (.dat, .tup ds) else stk)) := by
  refine PE.weak (pe_tup h) fun σ H Q h => ?_
  obtain ⟨ρ, S, ι, O, R, h⟩ := h
  refine ⟨ρ, S, ι, O, R, ?_⟩
  simp only [bnd] at h
  cases q : m ρ S with
  | stuck => rw [q] at h; exact h
  | ok ds ρ' S' =>
    rw [q] at h; dsimp only at h
    intro vs ι' H' O' s R' rvs
    by_cases hz : ds.length ≤ sizeLine
    · rw [if_pos hz] at h
      refine ⟨by rw [rvs.length]; exact hz, fun p hp => ?_⟩
      obtain ⟨s2, R2, rv⟩ := R'.newTup hp rvs
      exact h _ _ _ _ (s.trans s2) R2 rv
    · rw [if_neg hz] at h; exact h.elim
theorem pe_lstD {es : List Expr} {pos : Pos} {m : M (List D)} (h : PA X es (tA B m)) : PE X (.List es pos) (tE B (bnd m fun ds => if ds.length ≤ sizeLine then ret (.fresh, .lst ds) else stk)) := by
  refine PE.weak (pe_lst h) fun σ H Q h => ?_
  obtain ⟨ρ, S, ι, O, R, h⟩ := h
  refine ⟨ρ, S, ι, O, R, ?_⟩
  simp only [bnd] at h
  cases q : m ρ S with
  | stuck => rw [q] at h; exact h
  | ok ds ρ' S' =>
    rw [q] at h; dsimp only at h
    intro vs ι' H' O' s R' rvs
    by_cases hz : ds.length ≤ sizeLine
    · rw [if_pos hz] at h
      refine ⟨by rw [rvs.length]; exact hz, fun p hp => ?_⟩
      obtain ⟨s2, R2, rv⟩ := R'.newLst hp rvs
      exact h _ _ _ _ (s.trans s2) R2 rv
    · rw [if_neg hz] at h; exact h.elim
/-! ### operators -/
variable {a b c : Expr} {ma mb mc : M KD} {pos : Pos}
theorem pe_opD (hK : X.K = B.K) (o : BOp) (ha : PE X a (tE B ma)) (hb : PE X b (tE B mb)) : PE X (.BinOp a o.py b pos) (tE B (m2 o.f ma mb)) := by
  obtain ⟨r, h1, h2⟩ := bop_ok (B := B) X hK o
  exact PE.weak (pe_op h1 ha.P hb.P) fun σ H Q => tE_m2 h2
theorem pe_negD (ha : PE X a (tE B ma)) : PE X (.UnaryOp .USub a pos) (tE B (m1 uNeg ma)) := PE.weak (pe_un un_neg ha.P) fun σ H Q => tE_m1 neg_ok
theorem nomark_of {o : CmpOp} {e : Expr} (h : notSet e = true) : behindInMarks o e = false := by
  cases e <;> first | rfl | (simp [notSet] at h)
theorem pe_cmpD (hK : X.K = B.K) (hu : X.A.units + 64 < cLine) (o : COp) (hs : notSet b = true) (ha : PE X a (tE B ma)) (hb : PE X b (tE B mb)) : PE X (.Compare a [o.py] [b] pos) (tE B (m2 o.g ma mb)) := by
  obtain ⟨r, h1, h2⟩ := cop_ok' (B := B) X hK hu o
  exact PE.weak (pe_cmpR h1 ha.P hb.P (nomark_of hs)) fun σ H Q => tE_m2 h2
theorem tT_tE {m : M KD} {t : TE} (h : ∀ σ H Q, tE B m σ H Q → t σ H Q) {σ : L2.St} {H : Hp} {Q : Bool → Hp → Prop} (q : tT B (pek m) σ H Q) : tTest t σ H Q := by
  refine h _ _ _ ?_
  obtain ⟨ρ, S, ι, O, R, q⟩ := q
  refine ⟨ρ, S, ι, O, R, ?_⟩
  simp only [pek, bnd] at q
  cases z : m ρ S with
  | stuck => rw [z] at q; exact q
  | ok kd ρ' S' =>
    rw [z] at q; dsimp only [ret] at q
    intro v ι' H' O' s R' rk
    have kv := rk.kv R'
    cases e : kd.2 with
    | bl k => rw [e] at q kv; obtain rfl := kv.bl_inv; exact ⟨k, rfl, q ι' H' O' s R'⟩
    | _ => rw [e] at q; exact q.elim
theorem pt_cmpD (hK : X.K = B.K) (hu : X.A.units + 64 < cLine) (o : COp) (hs : notSet b = true) (ha : PE X a (tE B ma)) (hb : PE X b (tE B mb)) : PT X (.Compare a [o.py] [b] pos) (tT B (pek (m2 o.g ma mb))) := by
  obtain ⟨r, h1, h2⟩ := cop_ok' (B := B) X hK hu o
  exact PT.weak (pt_cmpR h1 ha.P hb.P (nomark_of hs)) fun σ H Q => tT_tE fun σ H Q => tE_m2 h2
/-- a op b op c -/
def mch (f g : D → D → Option KD) (ma mb mc : M KD) : M KD := bnd (pek ma) fun x => bnd (pek mb) fun y => bnd (lift (f x y)) fun r => match r.2 with
    | .bl true => bnd (pek mc) fun z => lift (g y z)
    | .bl false => ret (.dat, .bl false)
    | _ => stk
theorem tE_mch {f g : D → D → Option KD} {r r' : R2} (h1 : Op2 B f r) (h2 : Op2 B g r') {σ : L2.St} {H : Hp} {Q : VK} (h : tE B (mch f g ma mb mc) σ H Q) : tChain r r' (tP B (pek ma)) (tP B (pek mb)) (tP B (pek mc)) σ H Q := by
  obtain ⟨ρ, S, ι, O, R, h⟩ := h
  refine ⟨ρ, S, ι, O, R, ?_⟩
  simp only [mch, bnd] at h
  cases q : pek ma ρ S with
  | stuck => rw [q] at h; exact h
  | ok d ρ' S' =>
    rw [q] at h; dsimp only at h
    intro v ι' H' O' s R' kv
    refine ⟨ρ', S', ι', O', R', ?_⟩
    cases q2 : pek mb ρ' S' with
    | stuck => rw [q2] at h; exact h
    | ok e ρ2 S2 =>
      rw [q2] at h; dsimp only [lift] at h
      intro v2 ι2 H2 O2 s2 R2 kv2
      cases z : f d e with
      | none => rw [z] at h; exact h.elim
      | some kd =>
        rw [z] at h; dsimp only at h
        refine h1 _ _ _ _ _ _ _ _ _ _ _ _ R2 (kv.stp s2) kv2 z fun v3 H3 O3 s3 R3 rk => ?_
        have kv3 := rk.kv R3
        cases e3 : kd.2 with
        | bl k =>
          rw [e3] at h kv3
          obtain rfl := kv3.bl_inv
          refine ⟨k, rfl, ?_⟩
          cases k with
          | false => rw [if_neg Bool.false_ne_true]; exact h _ ι2 H3 O3 (s.trans (s2.trans s3)) R3 (RV.bl _)
          | true =>
            rw [if_pos rfl]
            dsimp only [bnd] at h
            refine ⟨ρ2, S2, ι2, O3, R3, ?_⟩
            cases q4 : pek mc ρ2 S2 with
            | stuck => rw [q4] at h; exact h
            | ok w ρ4 S4 =>
              rw [q4] at h; dsimp only [lift] at h
              intro v4 ι4 H4 O4 s4 R4 kv4
              cases z4 : g e w with
              | none => rw [z4] at h; exact h.elim
              | some kd4 =>
                rw [z4] at h; dsimp only at h
                exact h2 _ _ _ _ _ _ _ _ _ _ _ _ R4 ((kv2.stp s3).stp s4) kv4 z4 fun v5 H5 O5 s5 R5 rk5 => h v5 ι4 H5 O5 (s.trans (s2.trans (s3.trans (s4.trans s5)))) R5 rk5
        | _ => rw [e3] at h; exact h.elim
theorem lastm {o p : CmpOp} {b c : Expr} (h : notSet c = true) : lastMarks [o, p] [b, c] = false := nomark_of h
theorem pe_chainD (hK : X.K = B.K) (hu : X.A.units + 64 < cLine) (o p : COp) (hs : notSet c = true) (ha : PE X a (tE B ma)) (hb : PE X b (tE B mb)) (hc : PE X c (tE B mc)) : PE X (.Compare a [o.py, p.py] [b, c] pos) (tE B (mch o.g p.g ma mb mc)) := by
  obtain ⟨r, h1, h2⟩ := cop_ok' (B := B) X hK hu o
  obtain ⟨r', h3, h4⟩ := cop_ok' (B := B) X hK hu p
  exact PE.weak (pe_chain h1 h3 ha.P hb.P hc.P (lastm hs)) fun σ H Q => tE_mch h2 h4
theorem pt_chainD (hK : X.K = B.K) (hu : X.A.units + 64 < cLine) (o p : COp) (hs : notSet c = true) (ha : PE X a (tE B ma)) (hb : PE X b (tE B mb)) (hc : PE X c (tE B mc)) : PT X (.Compare a [o.py, p.py] [b, c] pos) (tT B (pek (mch o.g p.g ma mb mc))) := by
  obtain ⟨r, h1, h2⟩ := cop_ok' (B := B) X hK hu o
  obtain ⟨r', h3, h4⟩ := cop_ok' (B := B) X hK hu p
  exact PT.weak (pt_chain h1 h3 ha.P hb.P hc.P (lastm hs)) fun σ H Q => tT_tE fun σ H Q => tE_mch h2 h4
/-! ### and, or, not, if else -/
theorem tE_and {σ : L2.St} {H : Hp} {Q : VK} (h : tE B (tst ma mb (ret (.dat, .bl false))) σ H Q) : tAndV (tP B (pek ma)) (tE B mb) σ H Q := by
  have h := tT_P (tT_tst h)
  obtain ⟨ρ, S, ι, O, R, h⟩ := h
  refine ⟨ρ, S, ι, O, R, ?_⟩
  cases q : pek ma ρ S with
  | stuck => rw [q] at h; exact h
  | ok d ρ' S' =>
    rw [q] at h
    intro v ι' H' O' s R' kv
    obtain ⟨k, e, h⟩ := h v ι' H' O' s R' kv
    refine ⟨k, e, ?_⟩
    split
    · rename_i hk; rw [if_pos hk] at h; exact h
    · rename_i hk; rw [if_neg hk] at h; exact tE_ret (RV.bl _) h
theorem tE_or {σ : L2.St} {H : Hp} {Q : VK} (h : tE B (tst ma (ret (.dat, .bl true)) mb) σ H Q) : tOrV (tP B (pek ma)) (tE B mb) σ H Q := by
  have h := tT_P (tT_tst h)
  obtain ⟨ρ, S, ι, O, R, h⟩ := h
  refine ⟨ρ, S, ι, O, R, ?_⟩
  cases q : pek ma ρ S with
  | stuck => rw [q] at h; exact h
  | ok d ρ' S' =>
    rw [q] at h
    intro v ι' H' O' s R' kv
    obtain ⟨k, e, h⟩ := h v ι' H' O' s R' kv
    refine ⟨k, e, ?_⟩
    split
    · rename_i hk; rw [if_pos hk] at h; exact tE_ret (RV.bl _) h
    · rename_i hk; rw [if_neg hk] at h; exact h
theorem tE_not {σ : L2.St} {H : Hp} {Q : VK} (h : tE B (tst ma (ret (.dat, .bl false)) (ret (.dat, .bl true))) σ H Q) : tNotV (tP B (pek ma)) σ H Q := by
  have h := tT_P (tT_tst h)
  obtain ⟨ρ, S, ι, O, R, h⟩ := h
  refine ⟨ρ, S, ι, O, R, ?_⟩
  cases q : pek ma ρ S with
  | stuck => rw [q] at h; exact h
  | ok d ρ' S' =>
    rw [q] at h
    intro v ι' H' O' s R' kv
    obtain ⟨k, e, h⟩ := h v ι' H' O' s R' kv
    refine ⟨k, e, ?_⟩
    cases k with
    | true => rw [if_pos rfl] at h; exact tE_ret (RV.bl _) h
    | false => rw [if_neg Bool.false_ne_true] at h; exact tE_ret (RV.bl _) h
theorem pe_andD {rest : List Expr} (ha : PE X a (tE B ma)) (hb : PE X (.BoolOp .And (b :: rest) pos) (tE B mb)) : PE X (.BoolOp .And (a :: b :: rest) pos) (tE B (tst ma mb (ret (.dat, .bl false)))) :=
  PE.weak (pe_and ha.P hb) fun σ H Q => tE_and
theorem pe_orD {rest : List Expr} (ha : PE X a (tE B ma)) (hb : PE X (.BoolOp .Or (b :: rest) pos) (tE B mb)) : PE X (.BoolOp .Or (a :: b :: rest) pos) (tE B (tst ma (ret (.dat, .bl true)) mb)) :=
  PE.weak (pe_or ha.P hb) fun σ H Q => tE_or
theorem pe_notD (ha : PE X a (tE B ma)) : PE X (.UnaryOp .Not a pos) (tE B (tst ma (ret (.dat, .bl false)) (ret (.dat, .bl true)))) := PE.weak (pe_not ha.P) fun σ H Q => tE_not
/-- a test's reading under another test -/
theorem tT_mono {m : M D} {σ : L2.St} {H : Hp} {Q Q' : Bool → Hp → Prop} (h : tT B m σ H Q) (q : ∀ b H, Q b H → Q' b H) : tT B m σ H Q' := by
  obtain ⟨ρ, S, ι, O, R, h⟩ := h
  refine ⟨ρ, S, ι, O, R, ?_⟩
  cases z : m ρ S with
  | stuck => rw [z] at h; exact h
  | ok d ρ' S' =>
    rw [z] at h
    cases d with
    | bl k => exact fun ι' H' O' s R' => q _ _ (h ι' H' O' s R')
    | _ => exact h.elim
theorem pw_andD {rest : List Expr} (ha : PT X a (tT B (pek ma))) (hb : PW X (.BoolOp .And (b :: rest) pos) (tT B (pek mb))) : PW X (.BoolOp .And (a :: b :: rest) pos) (tT B (pek (tst ma mb (ret (.dat, .bl false))))) :=
  PW.weak (pw_and ha hb) fun σ H Q h => tT_mono (tT_tstT h) fun k H1 h => by
    cases k with
    | true => rw [if_pos rfl] at h ⊢; exact h
    | false => rw [if_neg Bool.false_ne_true] at h ⊢; exact tT_lit h
theorem pw_orD {rest : List Expr} (ha : PT X a (tT B (pek ma))) (hb : PW X (.BoolOp .Or (b :: rest) pos) (tT B (pek mb))) : PW X (.BoolOp .Or (a :: b :: rest) pos) (tT B (pek (tst ma (ret (.dat, .bl true)) mb))) :=
  PW.weak (pw_or ha hb) fun σ H Q h => tT_mono (tT_tstT h) fun k H1 h => by
    cases k with
    | true => rw [if_pos rfl] at h ⊢; exact tT_lit h
    | false => rw [if_neg Bool.false_ne_true] at h ⊢; exact h
theorem pt_notD (ha : PT X a (tT B (pek ma))) : PT X (.UnaryOp .Not a pos) (tT B (pek (tst ma (ret (.dat, .bl false)) (ret (.dat, .bl true))))) :=
  PT.weak (pt_not ha) fun σ H Q h => tT_mono (tT_tstT h) fun k H1 h => by
    cases k with
    | true => rw [if_pos rfl] at h; exact tT_lit h
    | false => rw [if_neg Bool.false_ne_true] at h; exact tT_lit h
theorem pe_iteD (hc : PT X c (tT B (pek mc))) (ha : PE X a (tE B ma)) (hb : PE X b (tE B mb)) : PE X (.IfExp c a b pos) (tE B (tst mc ma mb)) := PE.weak (pe_ifExp hc ha hb) fun σ H Q h => tT_tst h
/-- an expression as a test: its value is a bool -/
theorem pt_valD (ha : PE X a (tE B ma)) (he : ∀ whole, isTrue a X.env whole = (do let v ← whole; standAt a.pos; holding [v] (truthy v))) : PT X a (tT B (pek ma)) := PT.weak (pt_val ha.P he) fun σ H Q => tT_P
/-! ### subscripts, slices -/
theorem plain_of (h : notSlice b = true) : PlainIx b := by
  intro o i
  cases b <;> first | rfl | (simp [notSlice] at h)
theorem pe_idxD (hK : X.K = B.K) (hu : X.A.units + 64 < cLine) (hs : notSlice b = true) (ha : PE X a (tE B ma)) (hb : PE X b (tE B mb)) : PE X (.Subscript a b pos) (tE B (m2S ixD ma mb)) := by
  refine PE.weak (pe_ix (ix_all (by omega)) ha.P hb.P (plain_of hs)) fun σ H Q => ?_
  rw [hK]; exact tE_m2S ixD_ok
/-- a slice's part -/
def tO (B : Bs) (m : M (Option Int)) : TO := fun σ H Q => ∃ ρ S ι O, Rel B ρ S σ ι H O ∧ match m ρ S with
  | .ok o ρ' S' => ∀ ι' H' O', Stp ι H O ι' H' O' → Rel B ρ' S' σ ι' H' O' → Q o H'
  | .stuck => False
theorem PO.weak {e : Option Expr} {t t' : TO} (h : PO X e t) (w : ∀ σ H Q, t' σ H Q → t σ H Q) : PO X e t' := ⟨fun pins s σ H Q I q => h.run pins s σ H Q I (w _ _ _ q)⟩
theorem po_noneD : PO X none (tO B (ret none)) := PO.weak po_none fun σ H Q h => by
  obtain ⟨ρ, S, ι, O, R, h⟩ := h
  exact h ι H O .refl R
theorem po_someD (ha : PE X a (tE B ma)) : PO X (some a) (tO B (bnd (pek ma) fun d => lift ((slicePart d).map some))) := PO.weak (po_some ha.P) fun σ H Q h => by
  obtain ⟨ρ, S, ι, O, R, h⟩ := h
  refine ⟨ρ, S, ι, O, R, ?_⟩
  simp only [bnd] at h
  cases z : pek ma ρ S with
  | stuck => rw [z] at h; exact h
  | ok d ρ' S' =>
    rw [z] at h; dsimp only [lift] at h
    intro v ι' H' O' s R' kv
    cases d with
    | int i => obtain rfl := kv.int_inv; exact ⟨i, rfl, h ι' H' O' s R'⟩
    | _ => exact h.elim
theorem pe_slcD (hK : X.K = B.K) {lo hi : Option Expr} {ml mh : M (Option Int)} {p2 : Pos} (ha : PE X a (tE B ma)) (hl : PO X lo (tO B ml)) (hh : PO X hi (tO B mh)) :
    PE X (.Subscript a (.Slice lo hi none p2) pos) (tE B (bnd (pek ma) fun d => bnd ml fun l => bnd mh fun h => lift (slB d l h))) := by
  refine PE.weak (pe_slice sl_all ha.P hl hh) fun σ H Q h => ?_
  obtain ⟨ρ, S, ι, O, R, h⟩ := h
  refine ⟨ρ, S, ι, O, R, ?_⟩
  simp only [bnd] at h
  cases z : pek ma ρ S with
  | stuck => rw [z] at h; exact h
  | ok d ρ' S' =>
    rw [z] at h; dsimp only at h
    intro v ι' H' O' s R' kv
    refine ⟨ρ', S', ι', O', R', ?_⟩
    cases z2 : ml ρ' S' with
    | stuck => rw [z2] at h; exact h
    | ok l ρ2 S2 =>
      rw [z2] at h; dsimp only at h
      intro ι2 H2 O2 s2 R2
      refine ⟨ρ2, S2, ι2, O2, R2, ?_⟩
      cases z3 : mh ρ2 S2 with
      | stuck => rw [z3] at h; exact h
      | ok u ρ3 S3 =>
        rw [z3] at h; dsimp only [lift] at h
        intro ι3 H3 O3 s3 R3
        cases z4 : slB d l u with
        | none => rw [z4] at h; exact h.elim
        | some kd =>
          rw [z4] at h; dsimp only at h
          rw [hK]
          exact sl_ok R3 ((kv.stp s2).stp s3) z4 fun v4 H4 O4 s4 R4 rk => h v4 ι3 H4 O4 (s.trans (s2.trans (s3.trans s4))) R4 rk
theorem pe_revD (hK : X.K = B.K) {k : Nat} {p1 p2 p3 : Pos} (ha : PE X a (tE B ma)) : PE X (.Subscript a (.Slice none none (some (.UnaryOp .USub (.Constant (.int 1) k p1) p2)) p3) pos) (tE B (bnd (pek ma) fun d => match d with
    | .lst ds => ret (.fresh, .lst ds.reverse)
    | _ => stk)) := by
  refine PE.weak (pe_revL ha.P) fun σ H Q h => ?_
  obtain ⟨ρ, S, ι, O, R, h⟩ := h
  refine ⟨ρ, S, ι, O, R, ?_⟩
  simp only [bnd] at h
  cases z : pek ma ρ S with
  | stuck => rw [z] at h; exact h
  | ok d ρ' S' =>
    rw [z] at h; dsimp only at h
    intro v ι' H' O' s R' kv
    cases d with
    | lst ds =>
      obtain ⟨q, vs, rfl, e, r⟩ := kv.lst_inv
      refine ⟨q, vs, rfl, SqL.of e, fun p hp => ?_⟩
      obtain ⟨s2, R2, rk⟩ := R'.newLst hp r.reverse
      exact h _ _ _ _ (s.trans s2) R2 rk
    | _ => exact h.elim
end
end IL

/-! IL9: calls of built-ins, isinstance, calls of defs. -/
namespace IL
open PySem PySem.Spec PyProof.Rows L2
section
variable {X : Cx}
theorem CallR.or {f : Value} {r r' : List V → Hp → VK → Prop} (h : CallR X f r) (h' : CallR X f r') : CallR X f (fun xs H Q => r xs H Q ∨ r' xs H Q) := by
  intro pins s σ H xs us Q I rx q
  rcases q with q | q
  · exact h pins s σ H xs us Q I rx q
  · exact h' pins s σ H xs us Q I rx q
end
section
variable {T : Tab} {call : Fn} {n : Nat} {I : Inf} {X : Cx} {B : Bs}
/-- an operation on a list of values -/
def OpC (B : Bs) (f : List D → Option KD) (r : List V → Hp → VK → Prop) : Prop :=
  ∀ (ρ : Rho) (S : Store) (σ : L2.St) (ι : Cad) (H : Hp) (O : Own) (xs : List V) (ds : List D) (kd : KD) (Q : VK), Rel B ρ S σ ι H O → KVs B.K ι H O xs ds → f ds = some kd →
    (∀ v H' O', Stp ι H O ι H' O' → Rel B ρ S σ ι H' O' → RK B kd.1 ρ σ ι H' O' v kd.2 → Q v H') → r xs H Q
theorem KVs.one {K : PySem.W.Frag} {ι : Cad} {H : Hp} {O : Own} {xs : List V} {d : D} (h : KVs K ι H O xs [d]) : ∃ x, xs = [x] ∧ KV K ι H O x d := by
  cases h with
  | cons a b => cases b; exact ⟨_, rfl, a⟩
theorem KVs.two {K : PySem.W.Frag} {ι : Cad} {H : Hp} {O : Own} {xs : List V} {d e : D} (h : KVs K ι H O xs [d, e]) : ∃ x y, xs = [x, y] ∧ KV K ι H O x d ∧ KV K ι H O y e := by
  cases h with
  | cons a b => cases b with
    | cons b c => cases c; exact ⟨_, _, rfl, a, b⟩
def isBl : D → Bool
  | .bl _ => true
  | _ => false
theorem bls_of : ∀ {ds : List D}, ds.all D.isB = true → ∃ bs : List Bool, ds = bs.map D.bl ∧ (ds.all D.toB) = bs.all id ∧ (ds.any D.toB) = bs.any id
  | [], _ => ⟨[], rfl, rfl, rfl⟩
  | d :: ds, h => by
    rw [List.all_cons, Bool.and_eq_true] at h
    obtain ⟨bs, e1, e2, e3⟩ := bls_of h.2
    cases d <;> simp only [D.isB, Bool.false_eq_true, false_and] at h
    rename_i b
    exact ⟨b :: bs, by rw [e1]; rfl, by rw [List.all_cons, List.all_cons, e2]; rfl, by rw [List.any_cons, List.any_cons, e3]; rfl⟩
theorem ints_of : ∀ {ds : List D}, ds.all D.isI = true → ∃ bs : List Int, ds = bs.map D.int ∧ (ds.foldr (fun d a => D.toI d + a) 0) = bs.sum
  | [], _ => ⟨[], rfl, rfl⟩
  | d :: ds, h => by
    rw [List.all_cons, Bool.and_eq_true] at h
    obtain ⟨bs, e1, e2⟩ := ints_of h.2
    cases d <;> simp only [D.isI, Bool.false_eq_true, false_and] at h
    rename_i b
    exact ⟨b :: bs, by rw [e1]; rfl, by rw [List.foldr_cons, List.sum_cons, e2]; rfl⟩
/-- a built-in as its value, right by a reading -/
theorem bi_ok (X : Cx) (hK : X.K = B.K) (hc : X.calm = true) (b : BI) :
    (∃ id r, bootBuiltins b.s = some (.builtin id) ∧ CallR X (.builtin id) r ∧ OpC B b.f r) ∨ (∃ t r, bootBuiltins b.s = some (.type t) ∧ CallR X (.type t) r ∧ OpC B b.f r) := by
  cases b with
  | len =>
    refine .inl ⟨_, _, PySem.boot_len, CallR.or call_len call_lenD, ?_⟩
    intro ρ S σ ι H O xs ds kd Q R ks q hq
    replace q : biLen ds = some kd := q
    unfold biLen at q
    split at q <;> first | cases q | skip
    · obtain ⟨x, rfl, k⟩ := ks.one
      split at q
      · cases q; obtain rfl := k.str_inv
        exact .inl ⟨_, _, rfl, ⟨by assumption, rfl⟩, hq _ H O .refl R (RV.int _)⟩
      · cases q
    · obtain ⟨x, rfl, k⟩ := ks.one
      obtain ⟨a, vs, rfl, e, r⟩ := k.lst_inv
      exact .inl ⟨_, _, rfl, .inl ⟨vs, SqL.of e, rfl⟩, by rw [r.length]; exact hq _ H O .refl R (RV.int _)⟩
    · obtain ⟨x, rfl, k⟩ := ks.one
      obtain ⟨a, vs, rfl, e, _, r⟩ := k.tup_inv
      exact .inl ⟨_, _, rfl, .inr ⟨vs, SqT.of e, rfl⟩, by rw [r.length]; exact hq _ H O .refl R (RV.int _)⟩
    · obtain ⟨x, rfl, k⟩ := ks.one
      obtain ⟨a, vs, rfl, e, l, r⟩ := k.dk_inv
      refine .inr ⟨a, _, rfl, e, ?_⟩
      rw [List.length_zip, l, Nat.min_self, r.length]
      exact hq _ H O .refl R (RV.int _)
  | int =>
    refine .inr ⟨_, _, boot_int, call_int1, ?_⟩
    intro ρ S σ ι H O xs ds kd Q R ks q hq
    replace q : biInt ds = some kd := q
    unfold biInt at q
    split at q <;> first | cases q | skip
    obtain ⟨x, rfl, k⟩ := ks.one
    obtain rfl := k.int_inv
    exact .inl ⟨_, rfl, hq _ H O .refl R (RV.int _)⟩
  | list =>
    refine .inr ⟨_, _, boot_list, call_list_of, ?_⟩
    intro ρ S σ ι H O xs ds kd Q R ks q hq
    replace q : biList ds = some kd := q
    unfold biList at q
    split at q <;> first | cases q | skip
    · obtain ⟨x, rfl, k⟩ := ks.one
      obtain ⟨a, vs, rfl, e, r⟩ := k.lst_inv
      refine ⟨a, vs, rfl, .inl (SqL.of e), fun l hl => ?_⟩
      obtain ⟨s2, R2, rk⟩ := R.newLst hl r
      exact hq _ _ _ s2 R2 rk
    · obtain ⟨x, rfl, k⟩ := ks.one
      obtain ⟨a, vs, rfl, e, _, r⟩ := k.tup_inv
      refine ⟨a, vs, rfl, .inr (SqT.of e), fun l hl => ?_⟩
      obtain ⟨s2, R2, rk⟩ := R.newLst hl r
      exact hq _ _ _ s2 R2 rk
    · obtain ⟨x, rfl, k⟩ := ks.one
      obtain ⟨a, rfl, e⟩ := k.scr_inv
      refine ⟨a, _, rfl, .inl (by rw [hK]; exact e), fun l hl => ?_⟩
      obtain ⟨s2, R2, rk⟩ := R.newLst hl (RVs.ints _)
      exact hq _ _ _ s2 R2 rk
  | tuple =>
    refine .inr ⟨_, _, boot_tuple, call_tuple_of, ?_⟩
    intro ρ S σ ι H O xs ds kd Q R ks q hq
    replace q : biTuple ds = some kd := q
    unfold biTuple at q
    split at q <;> first | cases q | skip
    · obtain ⟨x, rfl, k⟩ := ks.one
      obtain ⟨a, vs, rfl, e, r⟩ := k.lst_inv
      refine ⟨a, vs, rfl, .inl ⟨SqL.of e, fun l hl => ?_⟩⟩
      obtain ⟨s2, R2, rk⟩ := R.newTup hl r
      exact hq _ _ _ s2 R2 rk
    · obtain ⟨x, rfl, k⟩ := ks.one
      obtain ⟨a, vs, rfl, e, no, r⟩ := k.tup_inv
      exact ⟨a, vs, rfl, .inr ⟨SqT.of e, hq _ H O .refl R (RV.tup e no r)⟩⟩
  | max =>
    refine .inl ⟨_, _, boot_max, call_max2 hc, ?_⟩
    intro ρ S σ ι H O xs ds kd Q R ks q hq
    replace q : biMax ds = some kd := q
    unfold biMax at q
    split at q <;> first | cases q | skip
    obtain ⟨x, y, rfl, k, k'⟩ := ks.two
    obtain rfl := k.int_inv; obtain rfl := k'.int_inv
    exact ⟨_, _, rfl, hq _ H O .refl R (RV.int _)⟩
  | min =>
    refine .inl ⟨_, _, boot_min, call_min2 hc, ?_⟩
    intro ρ S σ ι H O xs ds kd Q R ks q hq
    replace q : biMin ds = some kd := q
    unfold biMin at q
    split at q <;> first | cases q | skip
    obtain ⟨x, y, rfl, k, k'⟩ := ks.two
    obtain rfl := k.int_inv; obtain rfl := k'.int_inv
    exact ⟨_, _, rfl, hq _ H O .refl R (RV.int _)⟩
  | abs =>
    refine .inl ⟨_, _, show bootBuiltins "abs" = some (.builtin "abs") by decide +kernel, call_abs, ?_⟩
    intro ρ S σ ι H O xs ds kd Q R ks q hq
    replace q : biAbs ds = some kd := q
    unfold biAbs at q
    split at q <;> first | cases q | skip
    obtain ⟨x, rfl, k⟩ := ks.one
    obtain rfl := k.int_inv
    exact ⟨_, rfl, hq _ H O .refl R (RV.int _)⟩
  | all =>
    refine .inl ⟨_, _, show bootBuiltins "all" = some (.builtin "all") by decide +kernel, cr_all hc, ?_⟩
    intro ρ S σ ι H O xs ds kd Q R ks q hq
    replace q : biAll ds = some kd := q
    unfold biAll at q
    split at q <;> first | cases q | skip
    rename_i ds
    split at q
    · rename_i hb
      cases q
      obtain ⟨x, rfl, k⟩ := ks.one
      obtain ⟨a, vs, rfl, e, r⟩ := k.lst_inv
      obtain ⟨bs, e1, e2, e3⟩ := bls_of hb
      rw [e2] at hq
      subst e1
      obtain rfl := r.bls_inv
      exact ⟨a, bs, rfl, SqL.of e, hq _ H O .refl R (RV.bl _)⟩
    · cases q
  | any =>
    refine .inl ⟨_, _, show bootBuiltins "any" = some (.builtin "any") by decide +kernel, cr_any hc, ?_⟩
    intro ρ S σ ι H O xs ds kd Q R ks q hq
    replace q : biAny ds = some kd := q
    unfold biAny at q
    split at q <;> first | cases q | skip
    rename_i ds
    split at q
    · rename_i hb
      cases q
      obtain ⟨x, rfl, k⟩ := ks.one
      obtain ⟨a, vs, rfl, e, r⟩ := k.lst_inv
      obtain ⟨bs, e1, e2, e3⟩ := bls_of hb
      rw [e3] at hq
      subst e1
      obtain rfl := r.bls_inv
      exact ⟨a, bs, rfl, SqL.of e, hq _ H O .refl R (RV.bl _)⟩
    · cases q
  | sum =>
    refine .inl ⟨_, _, boot_sum, cr_sum hc, ?_⟩
    intro ρ S σ ι H O xs ds kd Q R ks q hq
    replace q : biSum ds = some kd := q
    unfold biSum at q
    split at q <;> first | cases q | skip
    rename_i ds
    split at q
    · rename_i hb
      cases q
      obtain ⟨x, rfl, k⟩ := ks.one
      obtain ⟨a, vs, rfl, e, r⟩ := k.lst_inv
      obtain ⟨bs, e1, e2⟩ := ints_of hb
      rw [e2] at hq
      subst e1
      obtain rfl := r.ints_inv
      exact ⟨a, bs, rfl, SqL.of e, hq _ H O .refl R (RV.int _)⟩
    · cases q
theorem back_of {pos : Pos} {es : List Expr} {env : PySem.Env} (h : ∀ e ∈ es, notStar e = true) : (backTo pos (starEach es env)).any (·.1) = false := by
  induction es with
  | nil => rfl
  | cons e es ih =>
    rw [star_of (h e List.mem_cons_self)]
    show (false || (backTo pos (starEach es env)).any (·.1)) = false
    rw [ih fun x hx => h x (List.mem_cons_of_mem _ hx)]; rfl
theorem tE_C {f : List D → Option KD} {r : List V → Hp → VK → Prop} {m : M (List D)} (ho : OpC B f r) {σ : L2.St} {H : Hp} {Q : VK} (h : tE B (bnd m fun ds => lift (f ds)) σ H Q) : tCB r (tAP B m) σ H Q := by
  obtain ⟨ρ, S, ι, O, R, h⟩ := h
  refine ⟨ρ, S, ι, O, R, ?_⟩
  simp only [bnd, lift] at h
  cases q : m ρ S with
  | stuck => rw [q] at h; exact h
  | ok ds ρ' S' =>
    rw [q] at h; dsimp only at h
    intro vs ι' H' O' s R' kv
    cases z : f ds with
    | none => rw [z] at h; exact h.elim
    | some kd =>
      rw [z] at h
      exact ho _ _ _ _ _ _ _ _ _ _ R' kv z fun v2 H2 O2 s2 R2 rk => h v2 ι' H2 O2 (s.trans s2) R2 rk
theorem pe_biD (c : Ctx T call n I X) (hK : X.K = B.K) {b : BI} {x : Str} {p pos : Pos} {e : Expr} {es : List Expr} {m : M (List D)} (hx : x = b.s) (hb : bltB T I x = true) (hs : ∀ a ∈ e :: es, notStar a = true) (ha : PA X (e :: es) (tAP B m)) :
    PE X (.Call (.Name x p) (e :: es) [] pos) (tE B (bnd m fun ds => lift (b.f ds))) := by
  obtain ⟨g1, g2, g3, g4⟩ := c.bl hb
  subst hx
  have hst := star_of (es := es) (env := X.env) (hs e List.mem_cons_self)
  have hpl := back_of (pos := pos) (env := X.env) fun a h => hs a (List.mem_cons_of_mem e h)
  rcases bi_ok (B := B) X hK c.calm b with ⟨id, r, h1, h2, h3⟩ | ⟨t, r, h1, h2, h3⟩
  · exact PE.weak (pe_callB h2 g1 g4 h1 ha g3 g2 hst hpl) fun σ H Q => tE_C h3
  · exact PE.weak (pe_callTy h2 g1 g4 h1 ha g3 g2 hst hpl) fun σ H Q => tE_C h3
/-! ### isinstance -/
theorem boot_ty (t : Ty) : bootBuiltins t.s = some (.type t.n) := by
  cases t <;> decide +kernel
def subTy (a : String) (t : Ty) : Bool := match t with
  | .int => a == "int" || a == "bool"
  | .bool => a == "bool" | .str => a == "str" | .tuple => a == "tuple" | .list => a == "list"
theorem kitB_sub (t : Ty) : ∀ a ∈ ["NoneType", "bool", "int", "str", "tuple", "list", "dict"], kitB a t.n = some (subTy a t) := by
  cases t <;> decide +kernel
theorem kitB_ty (d : D) (t : Ty) : kitB d.ty t.n = some (isTy d t) := by
  rw [kitB_sub t d.ty (by cases d <;> simp [D.ty])]
  cases d <;> cases t <;> rfl
theorem KV.tyx {K : PySem.W.Frag} {ι : Cad} {H : Hp} {O : Own} {S : Store} {x : V} {d : D} (so : SO S ι H O) (h : KV K ι H O x d) : TyX K H x (.type d.ty) := by
  cases d with
  | non => obtain rfl := h.non_inv; exact .base .non
  | bl b => obtain rfl := h.bl_inv; exact .base (.bl b)
  | int i => obtain rfl := h.int_inv; exact .base (.int i)
  | str i => obtain rfl := h.str_inv; exact .base (.str i)
  | tup ds => obtain ⟨a, vs, rfl, e, _⟩ := h.tup_inv; exact .base (.tup e)
  | lst ds => obtain ⟨a, vs, rfl, e, _⟩ := h.lst_inv; exact .base (.lst e)
  | dk _ _ => obtain ⟨a, vs, rfl, e, _⟩ := h.dk_inv; exact .base (.dK e)
  | dt _ _ => obtain ⟨a, vs, rfl, e, _⟩ := h.dt_inv; exact .base (.dT e)
  | cell k =>
    obtain ⟨p, rfl, e⟩ := h.cell_inv
    have hk : k < S.length := by rw [so.cl]; exact (List.getElem?_eq_some_iff.mp e).1
    have ca := so.cells k _ p (List.getElem?_eq_getElem hk) e
    generalize S[k] = c at ca
    cases c with
    | tape ns q x => exact .base (.lst ca.1)
  | scr ns =>
    have h : RV K ι H O x (.scr ns) := h
    cases h with
    | scr e =>
      rcases e with ⟨e | ⟨o, e⟩, _⟩ | ⟨o, its, m, e1, e2, _⟩
      · exact .base (.lst e)
      · exact .base (.frz e)
      · exact .kList e1 e2
theorem kitAny_ty {K : PySem.W.Frag} (d : D) : ∀ ts : List Ty, PySem.W.kitAny K (.type d.ty) (ts.map fun t => .type t.n) = some (ts.any fun t => isTy d t)
  | [] => kitAny_nil
  | t :: ts => by
    refine kitAny_cons (kit_ty (kitB_ty d t)) (fun h => ?_) fun h => ?_
    · rw [List.any_cons, h, Bool.false_or]; exact kitAny_ty d ts
    · rw [List.any_cons, h, Bool.true_or]
/-- one class as an argument -/
theorem pe_cls (c : Ctx T call n I X) {t : Ty} {x : Str} {pos : Pos} (hx : x = t.s) (hb : bltB T I x = true) : PE X (.Name x pos) (tC (.ty t.n)) := by
  obtain ⟨g1, g2, g3, g4⟩ := c.bl hb
  subst hx
  exact pe_bltn g1 g4 (boot_ty t) rfl g3 g2
theorem pa_cls (c : Ctx T call n I X) : ∀ {ts : List Ty} {es : List Expr}, chkTys ts es = true → (ts.all fun t => bltB T I t.s) = true → PA X es (fun _ H Q => Q (ts.map fun t => V.ty t.n) H)
  | [], [], _, _ => pa_nil
  | [], _ :: _, h, _ => by simp [chkTys] at h
  | _ :: _, [], h, _ => by simp [chkTys] at h
  | t :: ts, e :: es, h, hb => by
    rw [List.all_cons, Bool.and_eq_true] at hb
    cases e <;> simp only [chkTys, Bool.false_eq_true, Bool.and_eq_true, decide_eq_true_eq] at h
    rename_i x p
    exact PA.weak (pa_cons (pe_cls c h.1 (by rw [h.1]; exact hb.1)) (pa_cls c h.2 hb.2) rfl) fun _ _ _ q => q
theorem Paired.tys : ∀ ts : List Ty, Paired ClsV (ts.map fun t => V.ty t.n) (ts.map fun t => Value.type t.n)
  | [] => .nil
  | t :: ts => .cons (.ty _) (Paired.tys ts)
theorem pe_isiD (c : Ctx T call n I X) (hK : X.K = B.K) {a r : Expr} {ts : List Ty} {one : Bool} {x : Str} {p pos : Pos} {m : M KD} (hx : x = "isinstance") (hb : bltB T I x = true) (ha : PE X a (tE B m)) (hs : notStar a = true) (hs2 : notStar r = true) (ht : (ts.all fun t => bltB T I t.s) = true) (hl : ts.length ≤ 8)
    (hr : isiArg ts one r = true) : PE X (.Call (.Name x p) [a, r] [] pos) (tE B (m1 (fun d => some (.dat, .bl (ts.any fun t => isTy d t))) m)) := by
  obtain ⟨g1, g2, g3, g4⟩ := c.bl hb
  have hst := star_of (es := [r]) (env := X.env) hs
  have hpl : (backTo pos (starEach [r] X.env)).any (·.1) = false := back_of fun e h => by
    obtain rfl := List.mem_singleton.mp h; exact hs2
  have hv : bootBuiltins x = some (.builtin "isinstance") := by rw [hx]; exact boot_isinstance
  have fin : ∀ {σ : L2.St} {H : Hp} {Q : VK} (k : V → Hp → Prop), (∀ v ι H' O ρ S, Rel B ρ S σ ι H' O → ∀ d, KV B.K ι H' O v d → (∀ H2 O2, Stp ι H' O ι H2 O2 → Rel B ρ S σ ι H2 O2 → Q (.bl (ts.any fun t => isTy d t)) H2) → k v H') → tE B (m1 (fun d => some (.dat, .bl (ts.any fun t => isTy d t))) m) σ H Q → tP B (pek m) σ H k := fun {σ H Q} k hk h => by
    obtain ⟨ρ, S, ι, O, R, h⟩ := h
    refine ⟨ρ, S, ι, O, R, ?_⟩
    simp only [m1, bnd, lift] at h
    cases q : pek m ρ S with
    | stuck => rw [q] at h; exact h
    | ok d ρ' S' =>
      rw [q] at h; dsimp only at h
      exact fun v ι' H' O' s R' kv => hk v ι' H' O' ρ' S' R' d kv fun H2 O2 s2 R2 => h _ ι' H2 O2 (s.trans s2) R2 (RV.bl _)
  cases one with
  | true =>
    cases r <;> simp only [isiArg, Bool.false_eq_true] at hr
    rename_i y py
    obtain ⟨t, rfl⟩ : ∃ t, ts = [t] := by
      match ts, hr with
      | [t], _ => exact ⟨t, rfl⟩
      | t :: u :: ts, hr => simp [chkTys] at hr
    simp only [chkTys, Bool.and_eq_true, decide_eq_true_eq, List.all_cons, List.all_nil] at hr ht
    refine PE.weak (pe_callB call_isi g1 g4 hv (pa_cons ha.P (pa_cons (pe_cls c hr.1 (by rw [hr.1]; exact ht.1)) pa_nil rfl) hst) g3 g2 hst hpl) fun σ H Q h => ?_
    refine fin _ (fun v ι H' O ρ S R d kv q => ?_) h
    exact ⟨v, _, _, _, _, rfl, .ty _, by rw [hK]; exact kv.tyx R.so, kit_ty (kitB_ty d t), by simpa using q H' O .refl R⟩
  | false =>
    cases r <;> simp only [isiArg, Bool.false_eq_true] at hr
    rename_i es k py
    refine PE.weak (pe_callB call_isiT g1 g4 hv (pa_cons ha.P (pa_cons (pe_tup (pa_cls c hr ht)) pa_nil rfl) hst) g3 g2 hst hpl) fun σ H Q h => ?_
    refine fin _ (fun v ι H' O ρ S R d kv q => ?_) h
    refine ⟨by rw [List.length_map]; exact Nat.le_trans hl (by decide), fun p hp => ?_⟩
    have s2 : Stp ι H' O ι (upd H' p (.tup (ts.map fun t => V.ty t.n))) O := .new hp fun _ h => .inl h
    have R2 : Rel B ρ S σ ι (upd H' p (.tup (ts.map fun t => V.ty t.n))) O := R.laid hp (fun _ h => .inl h) fun _ h => h
    exact ⟨v, p, _, _, _, _, rfl, upd_same, Paired.tys ts, by rw [hK]; exact (kv.stp s2).tyx R2.so, kitAny_ty d ts, q _ _ s2 R2⟩
end
end IL

/-! IL10: calls of defs. -/
namespace IL
open PySem PySem.Spec PyProof.Rows L2
section
variable {T : Tab} {call : Fn} {n : Nat} {I : Inf} {X : Cx} {B : Bs}
def AK (B : Bs) (σ : L2.St) (ι : Cad) (H : Hp) (O : Own) (v : V) (x : Option Nat × D) : Prop := match x.1 with
  | none => RV B.K ι H O v x.2
  | some i => σ[i]? = some (some v) ∧ KV B.K ι H O v x.2 ∧ x.2.isMut = true
inductive AKs (B : Bs) (σ : L2.St) (ι : Cad) (H : Hp) (O : Own) : List V → List (Option Nat × D) → Prop
  | nil : AKs B σ ι H O [] []
  | cons {v : V} {vs : List V} {d : Option Nat × D} {ds : List (Option Nat × D)} : AK B σ ι H O v d → AKs B σ ι H O vs ds → AKs B σ ι H O (v :: vs) (d :: ds)
theorem AK.stp {σ : L2.St} {ι ι' : Cad} {H H' : Hp} {O O' : Own} {v : V} {x : Option Nat × D} (s : Stp ι H O ι' H' O') (h : AK B σ ι H O v x) : AK B σ ι' H' O' v x := by
  obtain ⟨k, d⟩ := x
  cases k with
  | none => exact RV.keep s.k h
  | some i => exact ⟨h.1, h.2.1.stp s, h.2.2⟩
def tAA (B : Bs) (m : M (List (Option Nat × D))) : TA := fun σ H Q => ∃ ρ S ι O, Rel B ρ S σ ι H O ∧ match m ρ S with
  | .ok ds ρ' S' => ∀ vs ι' H' O', Stp ι H O ι' H' O' → Rel B ρ' S' σ ι' H' O' → AKs B σ ι' H' O' vs ds → Q vs H'
  | .stuck => False
theorem pa_nilA : PA X [] (tAA B (ret [])) := PA.weak pa_nil fun σ H Q h => by
  obtain ⟨ρ, S, ι, O, R, h⟩ := h
  exact h [] ι H O .refl R .nil
theorem pa_consA {e : Expr} {es : List Expr} {m : M KD} {ms : M (List (Option Nat × D))} (hs : notStar e = true) (ha : PE X e (tE B m)) (hr : PA X es (tAA B ms)) :
    PA X (e :: es) (tAA B (bnd m fun kd => bnd (argOf kd) fun x => bnd ms fun xs => ret (x :: xs))) := by
  refine PA.weak (pa_cons ha hr (star_of hs)) fun σ H Q h => ?_
  obtain ⟨ρ, S, ι, O, R, h⟩ := h
  refine ⟨ρ, S, ι, O, R, ?_⟩
  simp only [bnd] at h
  cases q : m ρ S with
  | stuck => rw [q] at h; exact h
  | ok kd ρ' S' =>
    rw [q] at h; dsimp only at h
    intro v ι' H' O' s R' rk
    -- the argument as it goes
    have arg : ∃ O2 x, argOf kd ρ' S' = .ok x ρ' S' ∧ Stp ι' H' O' ι' H' O2 ∧ Rel B ρ' S' σ ι' H' O2 ∧ AK B σ ι' H' O2 v x ∨ argOf kd ρ' S' = .stuck := by
      obtain ⟨k, d⟩ := kd
      cases k with
      | dat => exact ⟨O', (none, d), .inl ⟨rfl, .refl, R', rk⟩⟩
      | fresh =>
        obtain ⟨O2, s2, R2, rv⟩ := rk.fz R'
        exact ⟨O2, (none, d), .inl ⟨rfl, s2, R2, rv⟩⟩
      | bor i =>
        cases hm : d.isMut with
        | true => exact ⟨O', (some i, d), .inl ⟨by simp [argOf, hm, ret], .refl, R', rk.1, RK.kv R' rk, hm⟩⟩
        | false => exact ⟨O', (none, d), .inr (by simp [argOf, hm, stk])⟩
    obtain ⟨O2, x, ⟨e1, s2, R2, ak⟩ | e1⟩ := arg
    · rw [e1] at h; dsimp only at h
      refine ⟨ρ', S', ι', O2, R2, ?_⟩
      cases q2 : ms ρ' S' with
      | stuck => rw [q2] at h; exact h
      | ok ds ρ2 S2 =>
        rw [q2] at h; dsimp only [ret] at h
        exact fun vs ι3 H3 O3 s3 R3 rvs => h (v :: vs) ι3 H3 O3 ((s.trans s2).trans s3) R3 (.cons (ak.stp s3) rvs)
    · rw [e1] at h; exact h.elim

/-- what is owned while the slots bs are lent -/
def Om (O : Own) (ρ : Rho) (σ : L2.St) (bs : List Nat) : Own := fun a => O a ∧ ¬ ∃ i ∈ bs, ∃ d, ρ[i]? = some (some (.own d)) ∧ σ[i]? = some (some (.ref a))
theorem Rel.ext {ρ : Rho} {S : Store} {σ : L2.St} {ι : Cad} {H : Hp} {O O' : Own} (R : Rel B ρ S σ ι H O) (h : ∀ a, O a ↔ O' a) : Rel B ρ S σ ι H O' := by
  have e : O = O' := funext fun a => propext (h a)
  rw [← e]; exact R
theorem fz_own {ρ : Rho} {i : Nat} {d : D} (h : ρ[i]? = some (some (.own d))) : fz (.bor i) ρ = ρ.set i (some (.dat d)) := by simp only [fz, h]
theorem fz_other {ρ : Rho} {i : Nat} (h : ∀ d, ρ[i]? ≠ some (some (.own d))) : fz (.bor i) ρ = ρ := by
  unfold fz
  dsimp only
  split
  · rename_i d q; exact absurd q (h d)
  · rfl
theorem Rel.fzAll {S : Store} {σ : L2.St} {ι : Cad} {H : Hp} : ∀ {bs : List Nat} {ρ : Rho} {O : Own}, Rel B ρ S σ ι H O → Rel B (fzAll bs ρ) S σ ι H (Om O ρ σ bs)
  | [], ρ, O, R => R.ext fun a => ⟨fun h => ⟨h, fun ⟨i, hi, _⟩ => nomatch hi⟩, fun h => h.1⟩
  | i :: is, ρ, O, R => by
    show Rel B (IL.fzAll is (fz (.bor i) ρ)) S σ ι H _
    by_cases hd : ∃ d, ρ[i]? = some (some (.own d))
    · obtain ⟨d, hd⟩ := hd
      obtain ⟨a, e, R', rv⟩ := R.slotDat hd
      rw [fz_own hd]
      have hi : i < ρ.length := (List.getElem?_eq_some_iff.mp hd).1
      refine (Rel.fzAll (bs := is) R').ext fun b => ⟨fun ⟨⟨h1, h2⟩, h3⟩ => ⟨h1, fun ⟨j, hj, d', q1, q2⟩ => ?_⟩, fun ⟨h1, h2⟩ => ⟨⟨h1, fun z => h2 ⟨i, List.mem_cons_self, d, hd, by rw [e, z]⟩⟩, fun ⟨j, hj, d', q1, q2⟩ => ?_⟩⟩
      · by_cases hji : j = i
        · subst hji; rw [e] at q2; cases q2; exact h2 rfl
        · rcases List.mem_cons.mp hj with z | hj
          · exact hji z
          · exact h3 ⟨j, hj, d', by rw [List.getElem?_set_ne (Ne.symm hji)]; exact q1, q2⟩
      · by_cases hji : j = i
        · subst hji; rw [List.getElem?_set_self hi] at q1; cases q1
        · rw [List.getElem?_set_ne (Ne.symm hji)] at q1
          exact h2 ⟨j, List.mem_cons_of_mem _ hj, d', q1, q2⟩
    · have hn : ∀ d, ρ[i]? ≠ some (some (.own d)) := fun d h => hd ⟨d, h⟩
      rw [fz_other hn]
      refine (Rel.fzAll (bs := is) R).ext fun b => ⟨fun ⟨h1, h3⟩ => ⟨h1, fun ⟨j, hj, d', q1, q2⟩ => ?_⟩, fun ⟨h1, h2⟩ => ⟨h1, fun ⟨j, hj, d', q1, q2⟩ => h2 ⟨j, List.mem_cons_of_mem _ hj, d', q1, q2⟩⟩⟩
      rcases List.mem_cons.mp hj with z | hj
      · subst z; exact hn d' q1
      · exact h3 ⟨j, hj, d', q1, q2⟩
theorem isMut_kv {K : PySem.W.Frag} {ι : Cad} {H : Hp} {O O' : Own} {v : V} {d : D} (h : KV K ι H O v d) (m : d.isMut = true) (sub : ∀ a, O' a → O a) (n : ∀ a, v = .ref a → ¬ O' a) : RV K ι H O' v d := by
  have k : Keep ι H O ι H O' := .sub sub
  cases d <;> simp only [D.isMut, Bool.false_eq_true] at m
  · obtain ⟨a, vs, rfl, e, r⟩ := h.lst_inv; exact .lst e (n a rfl) (r.keep k)
  · obtain ⟨a, vs, rfl, e, l, r⟩ := h.dk_inv; exact .dk e l (n a rfl) (r.keep k)
  · obtain ⟨a, vs, rfl, e, l, r⟩ := h.dt_inv; exact .dt e l (n a rfl) (r.keep k)
theorem isMut_rv {K : PySem.W.Frag} {ι : Cad} {H : Hp} {O : Own} {a : Addr} {d : D} (h : RV K ι H O (.ref a) d) (m : d.isMut = true) : ¬ O a := by
  cases h <;> simp only [D.isMut, Bool.false_eq_true] at m
  · assumption
  · assumption
  · assumption
theorem lent_rvs {ρ : Rho} {S : Store} {σ : L2.St} {ι : Cad} {H : Hp} {O : Own} (R : Rel B ρ S σ ι H O) {bs : List Nat} : ∀ {vs : List V} {xs : List (Option Nat × D)} {bs' : List Nat}, AKs B σ ι H O vs xs → lent ρ xs = some bs' → (∀ i ∈ bs', i ∈ bs) →
    RVs B.K ι H (Om O ρ σ bs) vs (xs.map (·.2))
  | _, _, _, .nil, _, _ => .nil
  | v :: vs, (none, d) :: xs, bs', .cons a r, e, hb => by
    refine .cons (RV.keep (.sub fun a h => h.1) a) (lent_rvs R r (bs' := bs') ?_ hb)
    simpa [lent] using e
  | v :: vs, (some i, d) :: xs, bs', .cons a r, e, hb => by
    obtain ⟨e1, kv, hm⟩ := a
    simp only [lent] at e
    split at e
    · rename_i d' bs2 q1 q2
      cases e
      refine .cons (isMut_kv kv hm (fun a h => h.1) fun a z h => h.2 ⟨i, hb i List.mem_cons_self, d', q1, by rw [e1, z]⟩) (lent_rvs R r q2 fun j hj => hb j (List.mem_cons_of_mem _ hj))
    · rename_i d' bs2 q1 q2
      split at e
      · rename_i hm'
        cases e
        obtain ⟨v', e2, rv⟩ := R.dat i d' q1
        rw [e2] at e1; cases e1
        refine .cons (isMut_kv kv hm (fun a h => h.1) fun a z h => ?_) (lent_rvs R r q2 fun j hj => hb j (List.mem_cons_of_mem _ hj))
        subst z
        exact isMut_rv rv hm' h.1
      · cases e
    · cases e
mutual
theorem RV.free {K : PySem.W.Frag} {ι : Cad} {H : Hp} {O O' : Own} (h : ∀ a vs, H a = some (.tup vs) → ¬ O a → ¬ O' a) : ∀ {v : V} {d : D}, RV K ι H O v d → d.noMut = true → RV K ι H O' v d
  | _, _, .non, _ => .non
  | _, _, .bl b, _ => .bl b
  | _, _, .int i, _ => .int i
  | _, _, .str x, _ => .str x
  | _, _, .tup e n r, m => .tup e (h _ _ e n) (RVs.free h r (by simpa [D.noMut] using m))
  | _, _, .cell e, _ => .cell e
  | _, _, .lst _ _ _, m => by simp [D.noMut] at m
  | _, _, .dk _ _ _ _, m => by simp [D.noMut] at m
  | _, _, .dt _ _ _ _, m => by simp [D.noMut] at m
  | _, _, .scr _, m => by simp [D.noMut] at m
theorem RVs.free {K : PySem.W.Frag} {ι : Cad} {H : Hp} {O O' : Own} (h : ∀ a vs, H a = some (.tup vs) → ¬ O a → ¬ O' a) : ∀ {vs : List V} {ds : List D}, RVs K ι H O vs ds → D.noMutAll ds = true → RVs K ι H O' vs ds
  | _, _, .nil, _ => .nil
  | _, _, .cons a b, m => by
    simp only [D.noMutAll, Bool.and_eq_true] at m
    exact .cons (RV.free h a m.1) (RVs.free h b m.2)
end
theorem OV.notTup {K : PySem.W.Frag} {ι : Cad} {H : Hp} {O : Own} {a : Addr} {d : D} (h : OV K ι H O a d) {vs : List V} (e : H a = some (.tup vs)) : False := by
  cases d <;> simp only [OV] at h
  all_goals (obtain ⟨ws, e', _⟩ := h; rw [e] at e'; cases e')
theorem OV.noMut {K : PySem.W.Frag} {ι : Cad} {H : Hp} {O : Own} {a : Addr} {d : D} (h : OV K ι H O a d) : d.noMut = false := by
  cases d <;> simp only [OV] at h <;> rfl
/-- behind the call of a def -/
theorem call_back {ρ : Rho} {S S' : Store} {σ : L2.St} {ι ι' : Cad} {H H' : Hp} {O O' : Own} {bs : List Nat} {kd : KD} {v : V} (R : Rel B ρ S σ ι H O) (s : Stp ι H (Om O ρ σ bs) ι' H' O') (hO : ∀ a, Om O ρ σ bs a → O' a) (so : SO S' ι' H' O')
    (rf : RF B.K H kd.1 ι' H' O' v kd.2) : ∃ O2, Stp ι H O ι' H' O2 ∧ Rel B (keepB bs kd.2 ρ) S' σ ι' H' O2 ∧ RK B kd.1 (keepB bs kd.2 ρ) σ ι' H' O2 v kd.2 := by
  -- the freezing way
  have froz : ∀ ρ2, ρ2 = fzAll bs ρ → ∃ O2, Stp ι H O ι' H' O2 ∧ Rel B ρ2 S' σ ι' H' O2 ∧ RK B kd.1 ρ2 σ ι' H' O2 v kd.2 := fun ρ2 e => by
    subst e
    have R1 := R.fzAll (bs := bs)
    have s0 : Stp ι H O ι H (Om O ρ σ bs) := .sub fun a h => h.1
    have own : ∀ (i : Nat) (e : D) (a : Addr), (fzAll bs ρ)[i]? = some (some (.own e)) → σ[i]? = some (some (.ref a)) → O' a := fun i e a q1 q2 => by
      obtain ⟨b, e1, e2, _⟩ := R1.own i e q1
      rw [e1] at q2; cases q2
      exact hO _ e2
    refine ⟨O', s0.trans s, R1.step s own so.oh so.cl so.cells so.co so.cd fun a h => hO a (R1.pin a h), ?_⟩
    obtain ⟨k, d⟩ := kd
    cases k with
    | dat => exact rf
    | fresh =>
      obtain ⟨a, rfl, ha, h0, nc, o⟩ := rf
      refine ⟨a, rfl, ha, R.new h0, nc, o, fun i e q z => ?_, fun z => R.oh _ (R.pin _ z) h0⟩
      obtain ⟨b, e1, e2, _, _, o5⟩ := R1.own i e q
      rw [e1] at z; cases z
      exact o5.there h0
    | bor i => exact rf.elim
  cases bs with
  | nil => exact froz _ rfl
  | cons i is =>
    show ∃ O2, Stp ι H O ι' H' O2 ∧ Rel B (if kd.2.noMut = true then ρ else fzAll (i :: is) ρ) S' σ ι' H' O2 ∧ RK B kd.1 (if kd.2.noMut = true then ρ else fzAll (i :: is) ρ) σ ι' H' O2 v kd.2
    cases hm : kd.2.noMut with
    | false => rw [if_neg Bool.false_ne_true]; exact froz _ rfl
    | true =>
      rw [if_pos rfl]
      let P : Own := fun a => ∃ j ∈ i :: is, ∃ d, ρ[j]? = some (some (.own d)) ∧ σ[j]? = some (some (.ref a))
      have hP : ∀ a, P a → O a ∧ H a ≠ none ∧ NC ι a ∧ H' a = H a ∧ ∀ vs, H a ≠ some (.tup vs) := fun a ⟨j, _, d, q1, q2⟩ => by
        obtain ⟨b, e1, e2, e3, e4, o⟩ := R.own j d q1
        rw [e1] at q2; cases q2
        refine ⟨e2, o.there, e4, ?_, fun vs e => o.notTup e⟩
        cases q : H a with
        | none => exact absurd q o.there
        | some u => exact s.h2 _ _ q e4
      have s2 : Stp ι H O ι' H' (fun a => O' a ∨ P a) := {
        k := ⟨fun a o e h => s.k.h a o e fun z => h z.1, fun a h e z => z.elim (s.k.o a (fun z => h z.1) e) fun z => h (hP a z).1, s.k.c⟩
        h2 := s.h2
        n := s.n
        t := s.t }
      refine ⟨fun a => O' a ∨ P a, s2, R.step s2 (fun j d a q1 q2 => ?_) (fun a h => ?_) so.cl (fun k c p e1 e2 => ?_) (fun p hp => .inl (so.co p hp)) so.cd (fun a h => ?_), ?_⟩
      · obtain ⟨b, e1, e2, _⟩ := R.own j d q1
        by_cases hb : P a
        · exact .inr hb
        · refine .inl (hO a ⟨?_, hb⟩)
          rw [e1] at q2; cases q2; exact e2
      · rcases h with h | h
        · exact so.oh a h
        · rw [(hP a h).2.2.2.1]; exact (hP a h).2.1
      · have ca := so.cells k c p e1 e2
        have hp := List.mem_of_getElem? e2
        cases c with
        | tape ns q x =>
          obtain ⟨h1, h2, h3⟩ := ca
          refine ⟨h1, h2, fun z => z.elim h3 fun z => ?_⟩
          rcases s.n p hp with h | h
          · obtain ⟨m, hm1, hm2⟩ := List.mem_iff_getElem.mp h
            have hmS : m < S.length := by rw [R.cl]; exact hm1
            have c0 := R.cells m _ p (List.getElem?_eq_getElem hmS) (by rw [← hm2]; exact List.getElem?_eq_getElem hm1)
            generalize S[m] = c at c0
            cases c with
            | tape _ _ _ => exact c0.2.2 (hP _ z).1
          · exact (hP _ z).2.1 h.2
      · by_cases hb : P a
        · exact .inr hb
        · exact .inl (hO a ⟨R.pin a h, hb⟩)
      · obtain ⟨k, d⟩ := kd
        cases k with
        | dat =>
          refine RV.free (O := O') (fun a vs e h z => z.elim h fun z => ?_) rf hm
          have q := (hP a z).2.2.2.1
          rw [e] at q
          exact (hP a z).2.2.2.2 vs q.symm
        | fresh =>
          obtain ⟨a, rfl, ha, h0, nc, o⟩ := rf
          have q := o.noMut
          rw [show d.noMut = true from hm] at q; cases q
        | bor i => exact rf.elim
theorem so_om {ρ : Rho} {S : Store} {σ : L2.St} {ι : Cad} {H : Hp} {O : Own} (R : Rel B ρ S σ ι H O) (bs : List Nat) : SO S ι H (Om O ρ σ bs) where
  oh := fun a h => R.oh a h.1
  cl := R.cl
  cells := fun k c p e1 e2 => (R.cells k c p e1 e2).keep (Keep.sub (ι := ι) (H := H) (O := O) fun a h => h.1) rfl
  co := fun p hp => ⟨R.co p hp, fun ⟨i, _, d, q1, q2⟩ => by
    obtain ⟨b, e1, e2, e3, e4, o⟩ := R.own i d q1
    rw [e1] at q2; cases q2
    exact e4 p hp rfl⟩
  cd := R.cd
theorem pe_callD (c : Ctx T call n I X) (hK : X.K = B.K) {f : Nat} {x : Str} {p pos : Pos} {e : Expr} {es : List Expr} {m : M (List (Option Nat × D))} (hx : globB I.sc x = true) (hf : T.fns.lookup x = some f) (hs : ∀ a ∈ e :: es, notStar a = true) (ha : PA X (e :: es) (tAA B m)) :
    PE X (.Call (.Name x p) (e :: es) [] pos) (tE B (bnd m fun xs ρ S => match lent ρ xs, call f (xs.map (·.2)) S with
    | some bs, some (kd, S') => .ok kd (keepB bs kd.2 ρ) S'
    | _, _ => .stuck)) := by
  obtain ⟨g1, g2, g3⟩ := c.gl hx
  obtain ⟨a, fd, ps, h1, h2, h3, h4⟩ := c.g.fn x f hf
  refine PE.weak (pe_call h2 c.room g1 h1 h3 h4 .nil pass0 ha g2 (star_of (hs e List.mem_cons_self)) (back_of fun a h => hs a (List.mem_cons_of_mem _ h))) fun σ H Q h => ?_
  obtain ⟨ρ, S, ι, O, R, h⟩ := h
  refine ⟨ρ, S, ι, O, R, ?_⟩
  simp only [bnd] at h
  cases q : m ρ S with
  | stuck => rw [q] at h; exact h
  | ok xs ρ' S' =>
    rw [q] at h; dsimp only at h
    intro vs ι' H' O' s R' ak
    rw [List.append_nil]
    cases q1 : lent ρ' xs with
    | none => rw [q1] at h; exact h.elim
    | some bs =>
      cases q2 : call f (xs.map (·.2)) S' with
      | none => rw [q1, q2] at h; exact h.elim
      | some r =>
        obtain ⟨kd, S2⟩ := r
        rw [q1, q2] at h; dsimp only at h
        refine ⟨xs.map (·.2), S', ι', Om O' ρ' σ bs, by rw [hK]; exact lent_rvs R' ak q1 fun _ h => h, so_om R' bs, ?_⟩
        rw [q2]
        intro v ι2 H2 O2 s2 hO so rf
        rw [hK] at rf
        obtain ⟨O3, s3, R3, rk⟩ := call_back R' s2 hO so rf
        exact h v ι2 H2 O3 (s.trans s3) R3 rk
end
end IL

/-! IL11: targets, what is walked, comprehensions. -/
namespace IL
open PySem PySem.Spec PyProof.Rows L2
section
variable {T : Tab} {call : Fn} {n : Nat} {I : Inf} {X : Cx} {B : Bs}
/-! ### targets -/
def SameOff (is : List Nat) (σ σ' : L2.St) : Prop := σ'.length = σ.length ∧ ∀ i, i ∉ is → σ'[i]? = σ[i]?
theorem SameOff.refl {is : List Nat} {σ : L2.St} : SameOff is σ σ := ⟨rfl, fun _ _ => rfl⟩
theorem Rel.setDat {ρ : Rho} {S : Store} {σ : L2.St} {ι : Cad} {H : Hp} {O : Own} {v : V} {d : D} {i : Nat} (R : Rel B ρ S σ ι H O) (hi : i < ρ.length) (r : RV B.K ι H O v d) : Rel B (ρ.set i (some (.dat d))) S (σ.set i (some v)) ι H O := by
  have hσ : i < σ.length := by rw [← R.len]; exact hi
  have at' : ∀ (j : Nat) (z : Slot), (ρ.set i (some (.dat d)))[j]? = some (some z) → (j = i ∧ z = .dat d) ∨ (j ≠ i ∧ ρ[j]? = some (some z)) := fun j z q => by
    by_cases hj : j = i
    · subst hj; rw [List.getElem?_set_self hi] at q; cases q; exact .inl ⟨rfl, rfl⟩
    · rw [List.getElem?_set_ne (Ne.symm hj)] at q; exact .inr ⟨hj, q⟩
  have off : ∀ {j : Nat}, j ≠ i → (σ.set i (some v))[j]? = σ[j]? := fun hj => List.getElem?_set_ne (Ne.symm hj)
  refine { R with
    dat := fun j d' q => ?_, own := fun j d' q => ?_, sep := fun j l d1 d2 b hne q1 q2 => ?_, len := by rw [List.length_set, List.length_set]; exact R.len
    ownP := fun j d' b q1 q2 => ?_ }
  · rcases at' j _ q with ⟨rfl, z⟩ | ⟨hj, q⟩
    · cases z; exact ⟨v, List.getElem?_set_self hσ, r⟩
    · rw [off hj]; exact R.dat j d' q
  · rcases at' j _ q with ⟨rfl, z⟩ | ⟨hj, q⟩
    · cases z
    · rw [off hj]; exact R.own j d' q
  · rcases at' j _ q1 with ⟨rfl, z⟩ | ⟨hj, q1⟩
    · cases z
    rcases at' l _ q2 with ⟨rfl, z⟩ | ⟨hl, q2⟩
    · cases z
    rw [off hj, off hl]
    exact R.sep j l d1 d2 b hne q1 q2
  · rcases at' j _ q1 with ⟨rfl, z⟩ | ⟨hj, q1⟩
    · cases z
    · rw [off hj] at q2; exact R.ownP j d' b q1 q2
def tG (B : Bs) (tg : Tg) : TG := fun v σ H Q => ∃ ρ S ι O d ρ', Rel B ρ S σ ι H O ∧ RV B.K ι H O v d ∧ setTgs tg [d] ρ = some ρ' ∧ ∀ σ', SameOff tg.slots σ σ' → Rel B ρ' S σ' ι H O → Q σ' H
def tGs (B : Bs) (tg : Tg) : TGs := fun vs σ H Q => ∃ ρ S ι O ds ρ', Rel B ρ S σ ι H O ∧ RVs B.K ι H O vs ds ∧ setTgs tg ds ρ = some ρ' ∧ ∀ σ', SameOff tg.slots σ σ' → Rel B ρ' S σ' ι H O → Q σ' H
theorem PG.weak {e : Expr} {t t' : TG} (h : PG X e t) (w : ∀ v σ H Q, t' v σ H Q → t v σ H Q) : PG X e t' := ⟨fun pins s σ H v u Q I r q => h.run pins s σ H v u Q I r (w _ _ _ _ q)⟩
theorem PGs.weak {e : List Expr} {t t' : TGs} (h : PGs X e t) (w : ∀ v σ H Q, t' v σ H Q → t v σ H Q) : PGs X e t' := ⟨fun pins s σ H v u Q I r q => h.run pins s σ H v u Q I r (w _ _ _ _ q)⟩
theorem asg_of {e : Expr} {es : List Expr} {env : PySem.Env} (h : notStar e = true) : assignEach (e :: es) env = (false, assign e env) :: assignEach es env := by
  cases e <;> first | rfl | (simp [notStar] at h)
theorem chkTgs_len {I : Inf} : ∀ {tg : Tg} {es : List Expr} {ds : List D} {ρ ρ' : Rho} {env : PySem.Env}, chkTgs I tg es = true → setTgs tg ds ρ = some ρ' → ds.length = es.length ∧ (assignEach es env).length = es.length ∧ (assignEach es env).findIdx? (·.1) = none
  | .nil, es, ds, ρ, ρ', env, h, q => by
    simp only [chkTgs, List.isEmpty_iff] at h; subst h
    cases ds with
    | nil => exact ⟨rfl, rfl, rfl⟩
    | cons d ds => simp [setTgs] at q
  | .cons a b, es, ds, ρ, ρ', env, h, q => by
    cases es with
    | nil => simp [chkTgs] at h
    | cons e es =>
      simp only [chkTgs, Bool.and_eq_true] at h
      cases ds with
      | nil => simp [setTgs] at q
      | cons d ds =>
        simp only [setTgs] at q
        split at q
        · obtain ⟨h1, h2, h3⟩ := chkTgs_len (tg := b) (env := env) h.2 q
          rw [asg_of h.1.1]
          refine ⟨by simp [h1], by simp [h2], ?_⟩
          rw [List.findIdx?_cons]; simp [h3]
        · cases q
  | .nm i, es, _, _, _, _, h, _ => by simp [chkTgs] at h
  | .tup _, es, _, _, _, _, h, _ => by simp [chkTgs] at h
theorem SameOff.trans {is js : List Nat} {a b c : L2.St} (h : SameOff is a b) (h' : SameOff js b c) : SameOff (is ++ js) a c :=
  ⟨h'.1.trans h.1, fun i hi => (h'.2 i fun z => hi (List.mem_append_right _ z)).trans (h.2 i fun z => hi (List.mem_append_left _ z))⟩
theorem pg_all (hc : X.calm = true) (hf : ∀ x, I.tgt x = true → X.fn x = true ∨ X.env.scope.names.lookup x = some .local) (hK : X.K = B.K) (hN : X.N = I.N) (nd : X.N.Nodup) (hs : X.env.scope = I.sc) : ∀ tg : Tg, (∀ e, chkTg I tg e = true → PG X e (tG B tg)) ∧ (∀ es, chkTgs I tg es = true → PGs X es (tGs B tg)) := by
  intro tg
  induction tg with
  | nm i =>
    refine ⟨fun e h => ?_, fun es h => by simp [chkTgs] at h⟩
    cases e <;> simp only [chkTg, Bool.false_eq_true, Bool.and_eq_true, decide_eq_true_eq] at h
    rename_i x p
    have hl : locB X.env.scope x = true := by rw [hs]; exact h.1.2
    refine PG.weak (pg_name (i := i) nd (by rw [hN]; exact h.1.1) (loc_of hl) (hf x h.2)) fun v σ H Q q => ?_
    · obtain ⟨ρ, S, ι, O, d, ρ', R, r, e, q⟩ := q
      simp only [setTgs] at e
      split at e
      · cases e
        refine q _ ⟨by rw [List.length_set], fun j hj => List.getElem?_set_ne fun z => hj ?_⟩ (R.setDat (by assumption) r)
        rw [← z]; exact List.mem_cons_self
      · cases e
  | tup as ih =>
    refine ⟨fun e h => ?_, fun es h => by simp [chkTgs] at h⟩
    cases e <;> simp only [chkTg, Bool.false_eq_true] at h
    rename_i es k p
    refine ⟨fun pins s σ H v u Q I' r q => ?_⟩
    obtain ⟨ρ, S, ι, O, d, ρ', R, rv, e, q⟩ := q
    cases d <;> simp only [setTgs, reduceCtorEq] at e
    rename_i ds
    obtain ⟨l1, l2, l3⟩ := chkTgs_len (env := X.env) h e
    refine (pg_tup hc (ih.2 es h) rfl l3).run pins s σ H v u Q I' r ?_
    cases rv with
    | tup e1 n1 r1 => exact ⟨_, _, rfl, by rw [hK]; exact SqT.of e1, by rw [r1.length, l1, l2], ρ, S, ι, O, ds, ρ', R, r1, e, q⟩
  | nil =>
    refine ⟨fun e h => by simp [chkTg] at h, fun es h => ?_⟩
    simp only [chkTgs, List.isEmpty_iff] at h; subst h
    refine PGs.weak pgs_nil fun v σ H Q q => ?_
    obtain ⟨ρ, S, ι, O, ds, ρ', R, r, e, q⟩ := q
    cases r with
    | nil => cases e; exact ⟨rfl, q _ .refl R⟩
    | cons _ _ => simp [setTgs] at e
  | cons a b iha ihb =>
    refine ⟨fun e h => by simp [chkTg] at h, fun es h => ?_⟩
    cases es with
    | nil => simp [chkTgs] at h
    | cons e es =>
      simp only [chkTgs, Bool.and_eq_true] at h
      refine PGs.weak (pgs_cons (iha.1 e h.1.2) (ihb.2 es h.2) (by rw [asg_of h.1.1]; rfl)) fun v σ H Q q => ?_
      obtain ⟨ρ, S, ι, O, ds, ρ', R, r, e, q⟩ := q
      cases r with
      | nil => simp [setTgs] at e
      | cons r1 r2 =>
        rename_i v vs d ds
        simp only [setTgs] at e
        split at e
        · rename_i ρ1 e1
          refine ⟨v, vs, rfl, ρ, S, ι, O, d, ρ1, R, r1, e1, fun σ1 so1 R1 => ?_⟩
          exact ⟨ρ1, S, ι, O, ds, ρ', R1, r2, e, fun σ2 so2 R2 => q σ2 (so1.trans so2) R2⟩
        · cases e

/-! ### what is walked -/
structure ItOk (B : Bs) (J : It) (ds : List D) (G : Cad → Hp → Own → Prop) : Prop where
  go : ∀ i ι H O, G ι H O → i < ds.length → J.go i H
  stop : ∀ ι H O, G ι H O → J.stop ds.length H
  yld : ∀ (i : Nat) (d : D) (x : V) (ρ : Rho) (S : Store) (σ : L2.St) (ι : Cad) (H : Hp) (O : Own) (H' : Hp), ds[i]? = some d → Rel B ρ S σ ι H O → G ι H O → J.yld i H x H' → Stp ι H O ι H' O ∧ Rel B ρ S σ ι H' O ∧ RV B.K ι H' O x d
  keep : ∀ ι H O ι' H' O', Keep ι H O ι' H' O' → G ι H O → G ι' H' O'
def tI (B : Bs) (m : M (List D)) : TI := fun σ H Q => ∃ ρ S ι O, Rel B ρ S σ ι H O ∧ match m ρ S with
  | .ok ds ρ' S' => ∀ J ι' H' O' G, Stp ι H O ι' H' O' → Rel B ρ' S' σ ι' H' O' → ItOk B J ds G → G ι' H' O' → Q J H'
  | .stuck => False
theorem PI.weak {tg e : Expr} {t t' : TI} (h : PI X tg e t) (w : ∀ σ H Q, t' σ H Q → t σ H Q) : PI X tg e t' := ⟨fun pins s σ H Q I q => h.run pins s σ H Q I (w _ _ _ q)⟩
def iSeq (K : PySem.W.Frag) (tl : TE) : TI := fun σ H R => tl σ H fun x H1 => (∃ a xs, x = .ref a ∧ SqL K H1 a xs ∧ R (Itl K a) H1) ∨ (∃ a xs, x = .ref a ∧ SqT K H1 a xs ∧ R (Itt K a) H1) ∨ ∃ z, x = .str z ∧ R (Its z) H1
theorem pi_seq {tg l : Expr} {tl : TE} (hl : PE X l tl) : PI X tg l (iSeq X.K tl) := by
  refine ⟨fun pins s σ H R I h => ?_⟩
  refine thn (hl.run pins s σ H _ I h) fun v s1 ⟨x, H1, I1, r1, q1⟩ => ?_
  rcases q1 with ⟨a, xs, rfl, hq, q⟩ | ⟨a, xs, rfl, hq, q⟩ | ⟨z, rfl, q⟩
  · cases r1
    obtain ⟨its, rv, p, hz⟩ := I1.list hq
    refine wpAny_pyIter_list p.isList ?_
    refine ⟨s1.heap.objs.size, [s1.heap.objs.size], _, _, H1, rfl, I1.kept (t' := s1.toks) fun b o e => Heap.get?_push_of_some _ e, turn_list a _, ⟨_, Heap.get?_push_size _ rfl, rfl, rfl⟩, fun b hb => ?_, q⟩
    have e : b = s1.heap.objs.size := by simpa using hb
    subst e
    exact I1.fpOk (Nat.le_refl _) (I1.hok.fresh (Nat.le_refl _))
  · cases r1
    obtain ⟨its, rv, p, hz⟩ := I1.tuple hq
    refine wpAny_pyIter_tuple (show s1.heap.IsTuple a its.toArray from p) ?_
    refine ⟨s1.heap.objs.size, [s1.heap.objs.size], _, _, H1, rfl, I1.kept (t' := s1.toks) fun b o e => Heap.get?_push_of_some _ e, turn_tuple a _, ⟨_, Heap.get?_push_size _ rfl, rfl, rfl⟩, fun b hb => ?_, q⟩
    have e : b = s1.heap.objs.size := by simpa using hb
    subst e
    exact I1.fpOk (Nat.le_refl _) (I1.hok.fresh (Nat.le_refl _))
  · obtain ⟨t, rfl⟩ := r1
    cases ha : z.cps.all (· < 128)
    · exact wpAny_pyIter_wide ha (pi_one (tk := s1.toks) I1 _ (turn_str _ z t "str_iterator" (.inr rfl)) ⟨_, Heap.get?_push_size _ rfl, rfl, rfl⟩ q)
    · exact wpAny_pyIter_ascii ha (pi_one (tk := s1.toks) I1 _ (turn_str _ z t "str_ascii_iterator" (.inl rfl)) ⟨_, Heap.get?_push_size _ rfl, rfl, rfl⟩ q)
theorem it_lst {a : Addr} {ds : List D} : ItOk B (Itl B.K a) ds (fun ι H O => RV B.K ι H O (.ref a) (.lst ds)) where
  go := fun i ι H O g hi => by
    cases g with
    | lst e n r =>
      obtain ⟨v, h1, _⟩ := r.get (List.getElem?_eq_getElem hi)
      exact ⟨_, v, SqL.of e, h1⟩
  stop := fun ι H O g => by
    cases g with
    | lst e n r => exact ⟨_, SqL.of e, by rw [r.length]; exact Nat.le_refl _⟩
  yld := fun i d x ρ S σ ι H O H' hd R g h => by
    obtain ⟨rfl, h⟩ := h
    cases g with
    | lst e n r =>
      obtain ⟨v, h1, h2⟩ := r.get hd
      have h3 := h _ (SqL.of e)
      rw [h1] at h3; cases h3
      exact ⟨.refl, R, h2⟩
  keep := fun ι H O ι' H' O' k g => g.keep k
theorem it_tup {a : Addr} {ds : List D} : ItOk B (Itt B.K a) ds (fun ι H O => RV B.K ι H O (.ref a) (.tup ds)) where
  go := fun i ι H O g hi => by
    cases g with
    | tup e n r =>
      obtain ⟨v, h1, _⟩ := r.get (List.getElem?_eq_getElem hi)
      exact ⟨_, v, SqT.of e, h1⟩
  stop := fun ι H O g => by
    cases g with
    | tup e n r => exact ⟨_, SqT.of e, by rw [r.length]; exact Nat.le_refl _⟩
  yld := fun i d x ρ S σ ι H O H' hd R g h => by
    obtain ⟨rfl, h⟩ := h
    cases g with
    | tup e n r =>
      obtain ⟨v, h1, h2⟩ := r.get hd
      have h3 := h _ (SqT.of e)
      rw [h1] at h3; cases h3
      exact ⟨.refl, R, h2⟩
  keep := fun ι H O ι' H' O' k g => g.keep k
theorem it_str {z : Str} : ItOk B (Its z) (z.cps.toList.map fun c => .str ⟨#[c]⟩) (fun _ _ _ => True) where
  go := fun i ι H O _ hi => by
    rw [List.length_map] at hi
    exact hi
  stop := fun ι H O _ => by
    show z.cps.size ≤ (z.cps.toList.map fun c => D.str ⟨#[c]⟩).length
    rw [List.length_map, Array.length_toList]; exact Nat.le_refl _
  yld := fun i d x ρ S σ ι H O H' hd R g h => by
    obtain ⟨rfl, c, h1, rfl⟩ := h
    rw [List.getElem?_map, Array.getElem?_toList, h1] at hd
    cases hd
    exact ⟨.refl, R, .str _⟩
  keep := fun _ _ _ _ _ _ _ _ => trivial
theorem it_rng {lo : Int} {k : Nat} : ItOk B (Itr lo k) ((List.range k).map fun i => .int (lo + (i : Nat))) (fun _ _ _ => True) where
  go := fun i ι H O _ hi => by
    rw [List.length_map, List.length_range] at hi
    exact hi
  stop := fun ι H O _ => by
    show k ≤ ((List.range k).map fun i => D.int (lo + (i : Nat))).length
    rw [List.length_map, List.length_range]; exact Nat.le_refl _
  yld := fun i d x ρ S σ ι H O H' hd R g h => by
    obtain ⟨rfl, rfl⟩ := h
    rw [List.getElem?_map] at hd
    cases e : (List.range k)[i]? with
    | none => rw [e] at hd; cases hd
    | some j =>
      rw [e] at hd; cases hd
      have : j = i := by
        rw [List.getElem?_range] at e
        · exact (Option.some.inj e).symm
        · by_cases hk : i < k
          · exact hk
          · rw [List.getElem?_eq_none_iff.mpr (by rw [List.length_range]; omega)] at e; cases e
      subst this
      exact ⟨.refl, R, .int _⟩
  keep := fun _ _ _ _ _ _ _ _ => trivial
theorem pi_seqD (hK : X.K = B.K) {tg l : Expr} {m : M KD} (hl : PE X l (tE B m)) : PI X tg l (tI B (bnd (frz m) fun d => lift (itemsOf d))) := by
  refine PI.weak (pi_seq hl.F) fun σ H Q h => ?_
  obtain ⟨ρ, S, ι, O, R, h⟩ := h
  refine ⟨ρ, S, ι, O, R, ?_⟩
  simp only [bnd] at h
  cases q : frz m ρ S with
  | stuck => rw [q] at h; exact h
  | ok d ρ' S' =>
    rw [q] at h; dsimp only [lift] at h
    intro v ι' H' O' s R' rv
    rw [hK]
    cases d with
    | lst ds =>
      cases rv with
      | lst e n r => exact .inl ⟨_, _, rfl, SqL.of e, h _ ι' H' O' _ s R' it_lst (.lst e n r)⟩
    | tup ds =>
      cases rv with
      | tup e n r => exact .inr (.inl ⟨_, _, rfl, SqT.of e, h _ ι' H' O' _ s R' it_tup (.tup e n r)⟩)
    | str z =>
      cases rv with
      | str _ => exact .inr (.inr ⟨z, rfl, h _ ι' H' O' _ s R' it_str trivial⟩)
    | _ => exact h.elim
theorem pi_rg1D (c : Ctx T call n I X) {tg : Expr} {x : Str} {p pos : Pos} {a : Expr} {ma : M KD} (hx : x = "range") (hb : bltB T I x = true) (hs : notStar a = true) (ha : PE X a (tE B ma)) :
    PI X tg (.Call (.Name x p) [a] [] pos) (tI B (bnd (pek ma) fun d => lift (rngOf [d]))) := by
  obtain ⟨g1, g2, g3, g4⟩ := c.bl hb
  subst hx
  refine PI.weak (pi_range1 g1 g4 (pa_cons ha.P pa_nil (star_of hs)) (star_of hs)) fun σ H Q h => ?_
  obtain ⟨ρ, S, ι, O, R, h⟩ := h
  refine ⟨ρ, S, ι, O, R, ?_⟩
  simp only [bnd] at h
  cases q : pek ma ρ S with
  | stuck => rw [q] at h; exact h
  | ok d ρ' S' =>
    rw [q] at h; dsimp only [lift] at h
    intro v ι' H' O' s R' kv
    cases d with
    | int j =>
      obtain rfl := kv.int_inv
      by_cases hj : -(2 ^ 62) ≤ j ∧ j < 2 ^ 62
      · rw [show rngOf [D.int j] = some ((List.range j.toNat).map fun k => .int ((0 : Int) + (k : Nat))) from if_pos hj] at h
        exact ⟨j, rfl, hj.1, hj.2, h _ ι' H' O' _ s R' it_rng trivial⟩
      · rw [show rngOf [D.int j] = none from if_neg hj] at h; exact h.elim
    | _ => exact h.elim
theorem pi_rg2D (c : Ctx T call n I X) {tg : Expr} {x : Str} {p pos : Pos} {a b : Expr} {ma mb : M KD} (hx : x = "range") (hb : bltB T I x = true) (hs : notStar a = true) (hs2 : notStar b = true) (ha : PE X a (tE B ma)) (hb2 : PE X b (tE B mb)) :
    PI X tg (.Call (.Name x p) [a, b] [] pos) (tI B (bnd (pek ma) fun d => bnd (pek mb) fun e => lift (rngOf [d, e]))) := by
  obtain ⟨g1, g2, g3, g4⟩ := c.bl hb
  subst hx
  refine PI.weak (pi_range2 g1 g4 (pa_cons ha.P (pa_cons hb2.P pa_nil (star_of hs2)) (star_of hs)) (by rw [star_of hs, star_of hs2]; rfl) (by rw [star_of hs2]; rfl)) fun σ H Q h => ?_
  obtain ⟨ρ, S, ι, O, R, h⟩ := h
  refine ⟨ρ, S, ι, O, R, ?_⟩
  simp only [bnd] at h
  cases q : pek ma ρ S with
  | stuck => rw [q] at h; exact h
  | ok d ρ' S' =>
    rw [q] at h; dsimp only at h
    intro v ι' H' O' s R' kv
    refine ⟨ρ', S', ι', O', R', ?_⟩
    cases q2 : pek mb ρ' S' with
    | stuck => rw [q2] at h; exact h
    | ok e ρ2 S2 =>
      rw [q2] at h; dsimp only [lift] at h
      intro v2 ι2 H2 O2 s2 R2 kv2
      cases z : rngOf [d, e] with
      | none => rw [z] at h; exact h.elim
      | some ks =>
        rw [z] at h; dsimp only at h
        unfold rngOf at z
        split at z
        · rename_i hh; cases hh
        · rename_i i j hh
          cases hh
          split at z
          · rename_i hj
            cases z
            obtain rfl := (kv.stp s2).int_inv; obtain rfl := kv2.int_inv
            exact ⟨i, j, rfl, ⟨hj.1.1, hj.1.2, hj.2.1, hj.2.2⟩, h _ ι2 H2 O2 _ (s.trans s2) R2 it_rng trivial⟩
          · cases z
        · cases z
end
end IL

/-! IL12: comprehensions. -/
namespace IL
open PySem PySem.Spec PyProof.Rows L2
/-! ### no slot comes to own -/
def OwnLe (ρ ρ' : Rho) : Prop := ∀ (j : Nat) (e : D), ρ'[j]? = some (some (.own e)) → ρ[j]? = some (some (.own e))
theorem OwnLe.refl {ρ : Rho} : OwnLe ρ ρ := fun _ _ h => h
theorem OwnLe.trans {a b c : Rho} (h : OwnLe a b) (h' : OwnLe b c) : OwnLe a c := fun j e q => h j e (h' j e q)
def Mono {α : Type} (m : M α) : Prop := ∀ ρ S a ρ' S', m ρ S = .ok a ρ' S' → OwnLe ρ ρ'
theorem Mono.ret {α : Type} (a : α) : Mono (ret a) := fun ρ S _ _ _ h => by cases h; exact .refl
theorem Mono.stk {α : Type} : Mono (stk : M α) := fun ρ S _ _ _ h => by cases h
theorem Mono.lift {α : Type} (o : Option α) : Mono (lift o) := fun ρ S a ρ' S' h => by
  unfold IL.lift at h
  cases o with
  | none => cases h
  | some a => cases h; exact .refl
theorem Mono.bnd {α β : Type} {m : M α} {f : α → M β} (h : Mono m) (k : ∀ a, Mono (f a)) : Mono (bnd m f) := fun ρ S a ρ' S' q => by
  unfold IL.bnd at q
  cases z : m ρ S with
  | stuck => rw [z] at q; cases q
  | ok b ρ1 S1 => rw [z] at q; exact (h _ _ _ _ _ z).trans (k b _ _ _ _ _ q)
theorem OwnLe.set {ρ : Rho} {i : Nat} {s : Option Slot} (h : ∀ d, s ≠ some (.own d)) : OwnLe ρ (ρ.set i s) := fun j e q => by
  by_cases hj : j = i
  · subst hj
    by_cases hi : j < ρ.length
    · rw [List.getElem?_set_self hi] at q
      exact absurd (Option.some.inj q) (h e)
    · rw [List.getElem?_eq_none_iff.mpr (by rw [List.length_set]; omega)] at q; cases q
  · rwa [List.getElem?_set_ne (Ne.symm hj)] at q
theorem OwnLe.fz {k : Kd} {ρ : Rho} : OwnLe ρ (fz k ρ) := by
  cases k with
  | dat => exact .refl
  | fresh => exact .refl
  | bor i =>
    unfold IL.fz; dsimp only
    split
    · exact .set fun d z => nomatch z
    · exact .refl
theorem OwnLe.fzAll : ∀ {bs : List Nat} {ρ : Rho}, OwnLe ρ (fzAll bs ρ)
  | [], _ => .refl
  | _ :: bs, _ => OwnLe.fz.trans (OwnLe.fzAll (bs := bs))
theorem OwnLe.keepB {bs : List Nat} {d : D} {ρ : Rho} : OwnLe ρ (keepB bs d ρ) := by
  unfold IL.keepB
  split
  · exact .refl
  · split
    · exact .refl
    · exact .fzAll
theorem Mono.frz {m : M KD} (h : Mono m) : Mono (frz m) := h.bnd fun kd ρ S a ρ' S' q => by cases q; exact .fz
theorem Mono.pek {m : M KD} (h : Mono m) : Mono (pek m) := h.bnd fun kd => .ret _
theorem Mono.tst {α : Type} {m : M KD} {a b : M α} (h : Mono m) (ha : Mono a) (hb : Mono b) : Mono (tst m a b) := h.pek.bnd fun d => by
  cases d with
  | bl k => cases k; exact hb; exact ha
  | _ => exact .stk
theorem OwnLe.setTgs : ∀ {tg : Tg} {ds : List D} {ρ ρ' : Rho}, setTgs tg ds ρ = some ρ' → OwnLe ρ ρ'
  | .nm i, ds, ρ, ρ', h => by
    unfold IL.setTgs at h
    split at h
    · split at h
      · cases h; rename_i heq _; cases heq; exact .set fun d z => nomatch z
      · cases h
    · rename_i heq; cases heq
    · rename_i heq; cases heq
    · rename_i heq; cases heq
    · cases h
  | .tup as, ds, ρ, ρ', h => by
    unfold IL.setTgs at h
    split at h
    · rename_i heq; cases heq
    · rename_i heq; cases heq; exact OwnLe.setTgs (tg := as) h
    · rename_i heq; cases heq
    · rename_i heq; cases heq
    · cases h
  | .nil, ds, ρ, ρ', h => by
    unfold IL.setTgs at h
    split at h
    · rename_i heq; cases heq
    · rename_i heq; cases heq
    · cases h; exact .refl
    · rename_i heq; cases heq
    · cases h
  | .cons a b, ds, ρ, ρ', h => by
    unfold IL.setTgs at h
    split at h
    · rename_i heq; cases heq
    · rename_i heq; cases heq
    · rename_i heq; cases heq
    · rename_i heq; cases heq
      split at h
      · rename_i q
        exact (OwnLe.setTgs (tg := a) q).trans (OwnLe.setTgs (tg := b) h)
      · cases h
    · cases h
theorem OwnLe.wipeR {ρ : Rho} : ∀ {vs : List Nat}, OwnLe ρ (wipeR ρ vs)
  | [] => .refl
  | v :: vs => (OwnLe.wipeR (vs := vs)).trans (.set fun d z => nomatch z)
theorem wipeR_some {ρ : Rho} {i : Nat} {x : Slot} : ∀ {vs : List Nat}, (wipeR ρ vs)[i]? = some (some x) → ρ[i]? = some (some x) ∧ i ∉ vs
  | [], h => ⟨h, (fun z => nomatch z)⟩
  | v :: vs, h => by
    unfold wipeR at h
    by_cases hi : i = v
    · subst hi
      by_cases hl : i < (wipeR ρ vs).length
      · rw [List.getElem?_set_self hl] at h; cases h
      · rw [List.getElem?_eq_none_iff.mpr (by rw [List.length_set]; omega)] at h; cases h
    · rw [List.getElem?_set_ne (Ne.symm hi)] at h
      obtain ⟨h1, h2⟩ := wipeR_some h
      exact ⟨h1, fun z => (List.mem_cons.mp z).elim hi h2⟩
theorem wipeR_length {ρ : Rho} : ∀ {vs : List Nat}, (wipeR ρ vs).length = ρ.length
  | [] => rfl
  | v :: vs => by unfold wipeR; rw [List.length_set, wipeR_length]
theorem restR_length {ρ r : Rho} : ∀ {vs : List Nat}, (restR ρ r vs).length = r.length
  | [] => rfl
  | v :: vs => by unfold restR; rw [List.length_set, restR_length]
theorem restR_some {ρ r : Rho} {i : Nat} {x : Slot} : ∀ {vs : List Nat}, (restR ρ r vs)[i]? = some (some x) → (i ∈ vs ∧ ρ[i]? = some (some x)) ∨ (i ∉ vs ∧ r[i]? = some (some x))
  | [], h => .inr ⟨(fun z => nomatch z), h⟩
  | v :: vs, h => by
    unfold restR at h
    by_cases hi : i = v
    · subst hi
      by_cases hl : i < (restR ρ r vs).length
      · rw [List.getElem?_set_self hl] at h
        refine .inl ⟨List.mem_cons_self, ?_⟩
        cases q : ρ[i]? with
        | none => rw [q] at h; cases h
        | some o => rw [q] at h; exact h
      · rw [List.getElem?_eq_none_iff.mpr (by rw [List.length_set]; omega)] at h; cases h
    · rw [List.getElem?_set_ne (Ne.symm hi)] at h
      rcases restR_some h with ⟨h1, h2⟩ | ⟨h1, h2⟩
      · exact .inl ⟨List.mem_cons_of_mem _ h1, h2⟩
      · exact .inr ⟨fun z => (List.mem_cons.mp z).elim hi h1, h2⟩
theorem noOwn_not {ρ : Rho} {i : Nat} {e : D} : ∀ {vs : List Nat}, noOwn ρ vs = true → i ∈ vs → ρ[i]? ≠ some (some (.own e))
  | v :: vs, h, hm, q => by
    simp only [noOwn, Bool.and_eq_true] at h
    rcases List.mem_cons.mp hm with z | hm
    · subst z
      have h1 := h.1
      rw [q] at h1; cases h1
    · exact noOwn_not h.2 hm q
theorem OwnLe.restR {ρ r : Rho} {vs : List Nat} (h : noOwn ρ vs = true) (q : OwnLe (IL.wipeR ρ vs) r) : OwnLe ρ (restR ρ r vs) := fun j e z => by
  rcases restR_some z with ⟨_, h2⟩ | ⟨_, h2⟩
  · exact h2
  · exact OwnLe.wipeR j e (q j e h2)
theorem Mono.compLoop {turn : D → M (Option D)} (h : ∀ d, Mono (turn d)) : ∀ ds, Mono (compLoop turn ds)
  | [] => .ret _
  | d :: ds => (h d).bnd fun o => (Mono.compLoop h ds).bnd fun r => .ret _
theorem Mono.compTurn {vs : List Nat} {tg : Tg} {mc me : M KD} (hc : Mono mc) (he : Mono me) (d : D) : Mono (compTurn vs tg mc me d) := by
  refine Mono.bnd (fun ρ S a ρ' S' q => ?_) fun _ => ((hc.tst (he.frz.bnd fun x => .ret _) (.ret _)).bnd fun o => Mono.bnd (fun ρ S a ρ' S' q => ?_) fun _ => .ret _)
  · unfold setTg at q
    split at q
    · cases q; exact OwnLe.setTgs (by assumption)
    · cases q
  · cases q; exact .wipeR
theorem Mono.compM {vs : List Nat} {src : M (List D)} {turn : D → M (Option D)} (h1 : Mono src) (h2 : ∀ d, Mono (turn d)) : Mono (compM vs src turn) := h1.bnd fun ds ρ S a ρ' S' q => by
  split at q
  · rename_i hz
    rw [Bool.and_eq_true] at hz
    split at q
    · rename_i r ρ1 S1 e
      cases q
      exact OwnLe.restR hz.1 (Mono.compLoop h2 ds _ _ _ _ _ e)
    · cases q
  · cases q
theorem mono_all (call : Fn) : ∀ e : IE, Mono (evE call e) ∧ Mono (evL call e) ∧ Mono (evP call e) ∧ Mono (evA call e) ∧ Mono (evO call e) ∧ Mono (evS call e) ∧ Mono (evC call e) := by
  intro e
  induction e with
  | lit c => exact ⟨.ret _, .stk, .stk, .stk, .stk, .stk, .stk⟩
  | gl x c => exact ⟨.ret _, .stk, .stk, .stk, .stk, .stk, .stk⟩
  | var i =>
    refine ⟨fun ρ S a ρ' S' q => ?_, .stk, .stk, .stk, .stk, .stk, .stk⟩
    simp only [evE] at q
    split at q <;> first | (cases q; exact .refl) | cases q
  | nil => exact ⟨.stk, .ret _, .ret _, .ret _, .ret _, .stk, .ret _⟩
  | cons a b iha ihb =>
    refine ⟨.stk, iha.1.frz.bnd fun d => ihb.2.1.bnd fun ds => .ret _, iha.1.pek.bnd fun d => ihb.2.2.1.bnd fun ds => .ret _, iha.1.bnd fun kd => Mono.bnd ?_ fun x => ihb.2.2.2.1.bnd fun xs => .ret _, .stk, .stk, .stk⟩
    unfold argOf
    split
    · split
      · exact .ret _
      · exact .stk
    · exact .ret _
  | tup as ih => exact ⟨ih.2.1.bnd fun ds => by split; exact .ret _; exact .stk, .stk, .stk, .stk, .stk, .stk, .stk⟩
  | lst as ih => exact ⟨ih.2.1.bnd fun ds => by split; exact .ret _; exact .stk, .stk, .stk, .stk, .stk, .stk, .stk⟩
  | op o a b iha ihb => exact ⟨iha.1.pek.bnd fun d => ihb.1.pek.bnd fun e => .lift _, .stk, .stk, .stk, .stk, .stk, .stk⟩
  | neg a iha => exact ⟨iha.1.pek.bnd fun d => .lift _, .stk, .stk, .stk, .stk, .stk, .stk⟩
  | cmp c a b iha ihb => exact ⟨iha.1.pek.bnd fun d => ihb.1.pek.bnd fun e => .lift _, .stk, .stk, .stk, .stk, .stk, .stk⟩
  | chain c d a b e iha ihb ihe =>
    refine ⟨iha.1.pek.bnd fun x => ihb.1.pek.bnd fun y => Mono.bnd (.lift _) fun r => ?_, .stk, .stk, .stk, .stk, .stk, .stk⟩
    split
    · exact ihe.1.pek.bnd fun z => .lift _
    · exact .ret _
    · exact .stk
  | and a b iha ihb => exact ⟨iha.1.tst ihb.1 (.ret _), .stk, .stk, .stk, .stk, .stk, .stk⟩
  | or a b iha ihb => exact ⟨iha.1.tst (.ret _) ihb.1, .stk, .stk, .stk, .stk, .stk, .stk⟩
  | not a iha => exact ⟨iha.1.tst (.ret _) (.ret _), .stk, .stk, .stk, .stk, .stk, .stk⟩
  | ite c a b ihc iha ihb => exact ⟨ihc.1.tst iha.1 ihb.1, .stk, .stk, .stk, .stk, .stk, .stk⟩
  | idx a b iha ihb => exact ⟨iha.1.pek.bnd fun d => ihb.1.pek.bnd fun e ρ S => Mono.lift _ ρ S, .stk, .stk, .stk, .stk, .stk, .stk⟩
  | slc a lo hi iha ihl ihh => exact ⟨iha.1.pek.bnd fun d => ihl.2.2.2.2.1.bnd fun l => ihh.2.2.2.2.1.bnd fun h => .lift _, .stk, .stk, .stk, .stk, .stk, .stk⟩
  | rev a iha => exact ⟨iha.1.pek.bnd fun d => by split; exact .ret _; exact .stk, .stk, .stk, .stk, .stk, .stk, .stk⟩
  | call f as ih =>
    refine ⟨ih.2.2.2.1.bnd fun xs ρ S a ρ' S' q => ?_, .stk, .stk, .stk, .stk, .stk, .stk⟩
    split at q
    · cases q; exact .keepB
    · cases q
  | isi a ts one iha => exact ⟨iha.1.pek.bnd fun d => .lift _, .stk, .stk, .stk, .stk, .stk, .stk⟩
  | bi b as ih => exact ⟨ih.2.2.1.bnd fun ds => .lift _, .stk, .stk, .stk, .stk, .stk, .stk⟩
  | comp own tg it c e iht ihc ihe => exact ⟨Mono.compM iht.2.2.2.2.2.1 fun d => Mono.compTurn ihc.2.2.2.2.2.2 ihe.1 d, .stk, .stk, .stk, .stk, .stk, .stk⟩
  | rg1 a ih => exact ⟨.stk, .stk, .stk, .stk, .stk, ih.1.pek.bnd fun d => .lift _, .stk⟩
  | rg2 a b iha ihb => exact ⟨.stk, .stk, .stk, .stk, .stk, iha.1.pek.bnd fun d => ihb.1.pek.bnd fun e => .lift _, .stk⟩
  | som a ih => exact ⟨.stk, .stk, .stk, .stk, ih.1.pek.bnd fun d => .lift _, .stk, ih.1⟩
  | sq a ih => exact ⟨.stk, .stk, .stk, .stk, .stk, ih.1.frz.bnd fun d => .lift _, .stk⟩
end IL

/-! IL13: a list comprehension's promise. -/
namespace IL
open PySem PySem.Spec PyProof.Rows L2
section
variable {T : Tab} {call : Fn} {n : Nat} {I : Inf} {X : Cx} {B : Bs}
theorem Stp.mut {ι0 ι : Cad} {H0 H : Hp} {O0 O : Own} (s : Stp ι0 H0 O0 ι H O) {D : Addr} {o : HO} (h : H0 D = none) : Stp ι0 H0 O0 ι (upd H D o) O where
  k := ⟨fun a u e n => by rw [upd_ne (ne_of_none e h)]; exact s.k.h a u e n, s.k.o, s.k.c⟩
  h2 := fun a u e n => by rw [upd_ne (ne_of_none e h)]; exact s.h2 a u e n
  n := s.n
  t := fun a e => by
    by_cases q : a = D
    · subst q; exact absurd h e
    · rw [upd_ne q]; exact s.t a e
/-- an owned object that is no slot's is changed -/
theorem Rel.mutFree {ρ : Rho} {S : Store} {σ : L2.St} {ι : Cad} {H : Hp} {O : Own} (R : Rel B ρ S σ ι H O) {D : Addr} {o : HO} (hO : O D) (n : NC ι D) (h0 : B.H0 D = none) (hs : ∀ (i : Nat) (e : IL.D), ρ[i]? = some (some (.own e)) → σ[i]? ≠ some (some (.ref D))) :
    Rel B ρ S σ ι (upd H D o) O ∧ Keep ι H O ι (upd H D o) O := by
  have k : Keep ι H O ι (upd H D o) O := ⟨fun a u e m => by rw [upd_ne fun z => m (by rw [z]; exact hO)]; exact e, fun a m _ => m, fun _ _ e => e⟩
  refine ⟨{
    dat := fun i d e => let ⟨v, h1, h2⟩ := R.dat i d e; ⟨v, h1, h2.keep k⟩
    own := fun i d e => by
      obtain ⟨b, h1, h2, h3, h4, h5⟩ := R.own i d e
      exact ⟨b, h1, h2, h3, h4, h5.keep k (upd_ne fun z => hs i d e (by rw [h1, z]))⟩
    sep := R.sep
    oh := fun a h => by
      by_cases q : a = D
      · subst q; rw [upd_same]; simp
      · rw [upd_ne q]; exact R.oh a h
    stp := R.stp.mut h0
    cl := R.cl
    cells := fun m c p e1 e2 => (R.cells m c p e1 e2).keep k (upd_ne fun z => n p (List.mem_of_getElem? e2) z)
    co := R.co
    cd := R.cd
    len := R.len
    pin := R.pin
    ownP := R.ownP }, k⟩
theorem Rel.wiped {ρ : Rho} {S : Store} {σ : L2.St} {ι : Cad} {H : Hp} {O : Own} (R : Rel B ρ S σ ι H O) (vs : List Nat) : Rel B (wipeR ρ vs) S (wipe σ vs) ι H O := by
  refine { R with
    dat := fun i d e => ?_, own := fun i d e => ?_, sep := fun i j d1 d2 a hne q1 q2 => ?_, len := by rw [wipeR_length, wipe_length]; exact R.len
    ownP := fun i d a q1 q2 => ?_ }
  · obtain ⟨h1, h2⟩ := wipeR_some e
    rw [wipe_out h2]; exact R.dat i d h1
  · obtain ⟨h1, h2⟩ := wipeR_some e
    rw [wipe_out h2]; exact R.own i d h1
  · obtain ⟨h1, h2⟩ := wipeR_some q1
    obtain ⟨h3, h4⟩ := wipeR_some q2
    rw [wipe_out h2, wipe_out h4]; exact R.sep i j d1 d2 a hne h1 h3
  · obtain ⟨h1, h2⟩ := wipeR_some q1
    rw [wipe_out h2] at q2; exact R.ownP i d a h1 q2
theorem wipe_same {σ σ' : L2.St} {is : List Nat} : ∀ {vs : List Nat}, (∀ i ∈ is, i ∈ vs) → SameOff is σ σ' → wipe σ' vs = wipe σ vs := by
  intro vs hs so
  apply List.ext_getElem?
  intro i
  by_cases hi : i ∈ vs
  · -- both forgotten, or beyond the end
    have go : ∀ (τ : L2.St) (ws : List Nat), i ∈ ws → (wipe τ ws)[i]? = if i < τ.length then some none else none := by
      intro τ ws
      induction ws with
      | nil => intro z; cases z
      | cons w ws ih =>
        intro z
        show ((wipe τ ws).set w none)[i]? = _
        by_cases hw : i = w
        · subst hw
          by_cases hl : i < τ.length
          · rw [List.getElem?_set_self (by rw [wipe_length]; exact hl), if_pos hl]
          · rw [if_neg hl]; exact List.getElem?_eq_none_iff.mpr (by rw [List.length_set, wipe_length]; omega)
        · rw [List.getElem?_set_ne (Ne.symm hw)]
          exact ih ((List.mem_cons.mp z).resolve_left hw)
    rw [go _ _ hi, go _ _ hi, so.1]
  · rw [wipe_out hi, wipe_out hi]
    exact so.2 i fun z => hi (hs i z)
theorem Rel.rest {ρ r : Rho} {S S' : Store} {σ : L2.St} {ι ι' : Cad} {H H' : Hp} {O O' : Own} {vs : List Nat} (R : Rel B ρ S σ ι H O) (s : Stp ι H O ι' H' O') (hn : noOwn ρ vs = true) (R' : Rel B r S' (wipe σ vs) ι' H' O') : Rel B (restR ρ r vs) S' σ ι' H' O' := by
  refine { R' with
    dat := fun i d e => ?_, own := fun i d e => ?_, sep := fun i j d1 d2 a hne q1 q2 => ?_, len := ?_, ownP := fun i d a q1 q2 => ?_ }
  · rcases restR_some e with ⟨h1, h2⟩ | ⟨h1, h2⟩
    · obtain ⟨v, e1, e2⟩ := R.dat i d h2; exact ⟨v, e1, e2.keep s.k⟩
    · obtain ⟨v, e1, e2⟩ := R'.dat i d h2
      rw [wipe_out h1] at e1; exact ⟨v, e1, e2⟩
  · rcases restR_some e with ⟨h1, h2⟩ | ⟨h1, h2⟩
    · exact absurd h2 (noOwn_not hn h1)
    · obtain ⟨a, e1, e2⟩ := R'.own i d h2
      rw [wipe_out h1] at e1; exact ⟨a, e1, e2⟩
  · rcases restR_some q1 with ⟨h1, h2⟩ | ⟨h1, h2⟩
    · exact absurd h2 (noOwn_not hn h1)
    rcases restR_some q2 with ⟨h3, h4⟩ | ⟨h3, h4⟩
    · exact absurd h4 (noOwn_not hn h3)
    have q := R'.sep i j d1 d2 a hne h2 h4
    rw [wipe_out h1, wipe_out h3] at q
    exact q
  · rw [restR_length, R'.len, wipe_length]
  · rcases restR_some q1 with ⟨h1, h2⟩ | ⟨h1, h2⟩
    · exact absurd h2 (noOwn_not hn h1)
    · exact R'.ownP i d a h2 (by rw [wipe_out h1]; exact q2)
/-- what the turns from the i-th on make of a state -/
theorem compLoop_cons {turn : D → M (Option D)} {ds : List D} {i : Nat} {d : D} (h : ds[i]? = some d) (ρ : Rho) (S : Store) :
    compLoop turn (ds.drop i) ρ S = match turn d ρ S with
      | .ok o ρ' S' => (match compLoop turn (ds.drop (i + 1)) ρ' S' with
        | .ok r ρ2 S2 => .ok (o.toList ++ r) ρ2 S2
        | .stuck => .stuck)
      | .stuck => .stuck := by
  obtain ⟨hi, rfl⟩ := List.getElem?_eq_some_iff.mp h
  rw [List.drop_eq_getElem_cons hi]
  show bnd (turn ds[i]) (fun o => bnd (compLoop turn (ds.drop (i + 1))) fun r => ret (o.toList ++ r)) ρ S = _
  unfold bnd
  cases turn ds[i] ρ S with
  | stuck => rfl
  | ok o ρ' S' =>
    dsimp only
    cases compLoop turn (ds.drop (i + 1)) ρ' S' with
    | stuck => rfl
    | ok r ρ2 S2 => rfl
/-- one turn's end -/
def turnM (mc : M KD) (me : M KD) : M (Option D) := tst mc (bnd (frz me) fun x => ret (some x)) (ret none)
/-- a reading under some pins -/
def exE (B : Bs) (f : Bs → TE) : TE := fun σ H Q => ∃ P, f { B with P := P } σ H Q
def exT (B : Bs) (f : Bs → TT) : TT := fun σ H Q => ∃ P, f { B with P := P } σ H Q
def exG (B : Bs) (f : Bs → TG) : TG := fun v σ H Q => ∃ P, f { B with P := P } v σ H Q
theorem Rel.pinOff {ρ : Rho} {S : Store} {σ : L2.St} {ι : Cad} {H : Hp} {O P : Own} (R : Rel { B with P := P } ρ S σ ι H O) (h : ∀ a, B.P a → P a) : Rel B ρ S σ ι H O :=
  { dat := R.dat, own := R.own, sep := R.sep, oh := R.oh, stp := R.stp, cl := R.cl, cells := R.cells, co := R.co, cd := R.cd, len := R.len, pin := fun a z => R.pin a (h a z), ownP := fun i d a q1 q2 z => R.ownP i d a q1 q2 (h a z) }
theorem Rel.pinOn {ρ : Rho} {S : Store} {σ : L2.St} {ι : Cad} {H : Hp} {O P : Own} (R : Rel B ρ S σ ι H O) (h : ∀ a, P a → O a) (h2 : ∀ (i : Nat) (d : IL.D) (a : Addr), ρ[i]? = some (some (.own d)) → σ[i]? = some (some (.ref a)) → ¬ P a) : Rel { B with P := P } ρ S σ ι H O :=
  { dat := R.dat, own := R.own, sep := R.sep, oh := R.oh, stp := R.stp, cl := R.cl, cells := R.cells, co := R.co, cd := R.cd, len := R.len, pin := h, ownP := h2 }
theorem tLc_ok {src : M (List D)} {vs : List Nat} {tg : Tg} {mc me : M KD} (hm : ∀ d, Mono (compTurn vs tg mc me d)) (hts : ∀ i ∈ tg.slots, i ∈ vs) {tt : TT} (htt : ∀ σ H Q, exT B (fun B => tT B (pek mc)) σ H Q → tt σ H Q) {σ : L2.St} {H : Hp} {Q : VK}
    (h : tE B (compM vs src (compTurn vs tg mc me)) σ H Q) : tLc (tI B src) (exG B fun B => tG B tg) tt (exE B fun B => tF B (frz me)) vs σ H Q := by
  obtain ⟨ρ, S, ι, O, R, h⟩ := h
  refine ⟨ρ, S, ι, O, R, ?_⟩
  simp only [compM, bnd] at h
  cases q : src ρ S with
  | stuck => rw [q] at h; exact h
  | ok ds ρ1 S1 =>
    rw [q] at h; dsimp only at h
    intro J ι1 H1 O1 G s1 R1 it g1 D hD
    by_cases hz : (noOwn ρ1 vs && decide (ds.length < sizeLine)) = true
    case neg => rw [if_neg hz] at h; exact h.elim
    rw [if_pos hz] at h
    rw [Bool.and_eq_true, decide_eq_true_eq] at hz
    cases q2 : compLoop (compTurn vs tg mc me) ds (wipeR ρ1 vs) S1 with
    | stuck => rw [q2] at h; exact h.elim
    | ok r ρf Sf =>
    rw [q2] at h; dsimp only at h
    let P : Own := fun a => B.P a ∨ a = D
    let B' : Bs := { B with P := P }
    -- the invariant
    let W : Nat → Nat → Hp → Prop := fun i m H' => m = ds.length - i ∧ i ≤ ds.length ∧ ∃ (ρi : Rho) (Si : Store) (ιi : Cad) (Oi : Own) (acc : List IL.D) (vacc : List V) (ri : List IL.D),
      Rel B' ρi Si (wipe σ vs) ιi H' Oi ∧ Stp ι1 H1 O1 ιi H' Oi ∧ G ιi H' Oi ∧ H' D = some (.lst vacc) ∧ RVs B.K ιi H' Oi vacc acc ∧ acc.length ≤ i ∧ OwnLe (wipeR ρ1 vs) ρi ∧ NC ιi D ∧
      compLoop (compTurn vs tg mc me) (ds.drop i) ρi Si = .ok ri ρf Sf ∧ acc ++ ri = r
    have hB0 : B.H0 D = none := R1.new hD
    have hPD : ¬ B.P D := fun z => R1.oh _ (R1.pin _ z) hD
    have nos : ∀ {ρi : Rho}, OwnLe (wipeR ρ1 vs) ρi → ∀ (j : Nat) (e : IL.D), ρi[j]? = some (some (.own e)) → (wipe σ vs)[j]? ≠ some (some (.ref D)) := fun {ρi} hle j e z z2 => by
      obtain ⟨b, e1, _, _, _, o⟩ := (R1.wiped vs).own j e (hle j e z)
      rw [e1] at z2; cases z2
      exact o.there hD
    -- a turn's end
    have next : ∀ (i : Nat) (ρ5 : Rho) (S5 : Store) (σ2 : L2.St) (ι4 : Cad) (H4 : Hp) (O4 : Own) (acc : List IL.D) (vacc : List V) (ri : List IL.D) (H' : Hp), i < ds.length → Rel B' ρ5 S5 σ2 ι4 H4 O4 → wipe σ2 vs = wipe σ vs → Stp ι1 H1 O1 ι4 H4 O4 → G ι4 H4 O4 → (H' = H4 ∧ H4 D = some (.lst vacc) ∨ H' = upd H4 D (.lst vacc)) → RVs B.K ι4 H4 O4 vacc acc →
        acc.length ≤ i + 1 → OwnLe (wipeR ρ1 vs) (wipeR ρ5 vs) → NC ι4 D → compLoop (compTurn vs tg mc me) (ds.drop (i + 1)) (wipeR ρ5 vs) S5 = .ok ri ρf Sf → acc ++ ri = r → W (i + 1) (ds.length - (i + 1)) H' := by
      intro i ρ5 S5 σ2 ι4 H4 O4 acc vacc ri H' hi R5 hw s4 g4 hH racc hacc hle hnc hrun hr
      have R6 := R5.wiped vs
      rw [hw] at R6
      refine ⟨rfl, by omega, wipeR ρ5 vs, S5, ι4, O4, acc, vacc, ri, ?_⟩
      rcases hH with ⟨rfl, hH⟩ | rfl
      · exact ⟨R6, s4, g4, hH, racc, hacc, hle, hnc, hrun, hr⟩
      · obtain ⟨R7, k7⟩ := R6.mutFree (o := .lst vacc) (R6.pin D (.inr rfl)) hnc hB0 fun j e z => nos hle j e z
        exact ⟨R7, s4.mut hD, it.keep _ _ _ _ _ _ k7 g4, upd_same, racc.keep k7, hacc, hle, hnc, hrun, hr⟩
    refine ⟨W, ⟨ds.length, rfl, Nat.zero_le _, ?_⟩, ?_⟩
    · have R2 : Rel B (wipeR ρ1 vs) S1 (wipe σ vs) ι1 (upd H1 D (.lst [])) (fun a => O1 a ∨ a = D) := (R1.wiped vs).laid hD (fun _ h => h) fun _ h => .inl h
      have s2 : Stp ι1 H1 O1 ι1 (upd H1 D (.lst [])) (fun a => O1 a ∨ a = D) := .new hD fun _ h => h
      have R3 : Rel B' (wipeR ρ1 vs) S1 (wipe σ vs) ι1 (upd H1 D (.lst [])) (fun a => O1 a ∨ a = D) := R2.pinOn (fun a z => z.imp (R1.pin a) id) fun j d a z1 z2 z3 => z3.elim (R2.ownP j d a z1 z2) fun z => nos .refl j d z1 (by rw [← z]; exact z2)
      exact ⟨_, _, _, _, [], [], r, R3, s2, it.keep _ _ _ _ _ _ s2.k g1, upd_same, .nil, Nat.le_refl _, .refl, R1.ncNew hD, by rw [List.drop_zero]; exact q2, rfl⟩
    · rintro i m H' ⟨rfl, hi, ρi, Si, ιi, Oi, acc, vacc, ri, Ri, si, gi, hDi, racc, hacc, hle, hnc, hrun, hr⟩
      by_cases hlast : i = ds.length
      · -- the end
        left
        subst hlast
        refine ⟨it.stop _ _ _ gi, ?_⟩
        rw [List.drop_length] at hrun
        cases hrun
        rw [List.append_nil] at hr
        subst hr
        have Rf := R1.rest si hz.1 (Ri.pinOff fun a z => .inl z)
        refine h (.ref D) ιi H' Oi (s1.trans si) Rf ⟨D, rfl, Ri.pin D (.inr rfl), hB0, hnc, ⟨vacc, hDi, racc⟩, fun j e z z2 => ?_, hPD⟩
        rcases restR_some z with ⟨w1, w2⟩ | ⟨w1, w2⟩
        · exact noOwn_not hz.1 w1 w2
        · exact nos hle j e w2 (by rw [wipe_out w1]; exact z2)
      · right
        have hi' : i < ds.length := by omega
        obtain ⟨d, hd⟩ : ∃ d, ds[i]? = some d := ⟨_, List.getElem?_eq_getElem hi'⟩
        refine ⟨it.go i _ _ _ gi hi', fun H'' => W (i + 1) (ds.length - (i + 1)) H'', fun H'' w => ⟨_, by omega, w⟩, fun x H2 hy => ?_⟩
        obtain ⟨s2, R2', rx⟩ := it.yld i d x _ _ _ _ _ _ H2 hd (Ri.pinOff fun a z => .inl z) gi hy
        have R2 : Rel B' ρi Si (wipe σ vs) ιi H2 Oi := R2'.pinOn Ri.pin Ri.ownP
        rw [compLoop_cons hd] at hrun
        -- the turn
        cases qt : compTurn vs tg mc me d ρi Si with
        | stuck => rw [qt] at hrun; cases hrun
        | ok o ρ4 S4 =>
        rw [qt] at hrun; dsimp only at hrun
        have hle4 : OwnLe (wipeR ρ1 vs) ρ4 := hle.trans (hm d _ _ _ _ _ qt)
        cases ql : compLoop (compTurn vs tg mc me) (ds.drop (i + 1)) ρ4 S4 with
        | stuck => rw [ql] at hrun; cases hrun
        | ok r' ρf' Sf' =>
        rw [ql] at hrun; dsimp only at hrun
        have e1 := hrun
        simp only [Res.ok.injEq] at e1
        obtain ⟨er, rfl, rfl⟩ := e1
        simp only [compTurn, bnd, setTg] at qt
        cases qs : setTgs tg [d] ρi with
        | none => rw [qs] at qt; cases qt
        | some ρ2 =>
        rw [qs] at qt; dsimp only at qt
        refine ⟨P, ρi, Si, ιi, Oi, d, ρ2, R2, rx, qs, fun σ2 so2 R3 => ?_⟩
        have hw2 : wipe σ2 vs = wipe σ vs := by
          have z : wipe σ2 vs = wipe (wipe σ vs) vs := wipe_same hts so2
          rw [z]
          exact wipe_same (is := vs) (fun i hi => hi) ⟨wipe_length _ _, fun i hi => wipe_out hi⟩
        refine ⟨hw2, htt _ _ _ ⟨P, ρ2, Si, ιi, Oi, R3, ?_⟩⟩
        -- the test
        simp only [tst, bnd] at qt
        cases qc : pek mc ρ2 Si with
        | stuck => rw [qc] at qt; cases qt
        | ok c ρ3 S3 =>
        rw [qc] at qt; dsimp only at qt
        cases c with
        | bl b =>
          intro ι3 H3 O3 s3 R4
          have hD3 : H3 D = some (.lst vacc) := s3.h2 _ _ (s2.h2 _ _ hDi hnc) hnc
          have hnc3 : NC ι3 D := s3.nc hnc (by rw [s2.h2 _ _ hDi hnc]; simp)
          have s23 := s2.trans s3
          cases b with
          | false =>
            rw [if_neg Bool.false_ne_true]
            simp only [ret, wiped] at qt
            cases qt
            exact next i ρ3 S4 σ2 ι3 H3 O3 acc vacc r' H3 hi' R4 hw2 (si.trans s23) (it.keep _ _ _ _ _ _ s23.k gi) (.inl ⟨rfl, hD3⟩) (racc.keep s23.k) (by omega) hle4 hnc3 ql (by rw [← hr, ← er]; rfl)
          | true =>
            rw [if_pos rfl]
            refine ⟨P, ρ3, S3, ι3, O3, R4, ?_⟩
            dsimp only [bnd] at qt
            cases qe : frz me ρ3 S3 with
            | stuck => rw [qe] at qt; cases qt
            | ok y ρ5 S5 =>
              rw [qe] at qt; dsimp only [ret, wiped] at qt
              cases qt
              intro vy ι4 H4 O4 s4 R5 ry
              have hD4 : H4 D = some (.lst vacc) := s4.h2 _ _ hD3 hnc3
              have hnc4 : NC ι4 D := s4.nc hnc3 (by rw [hD3]; simp)
              have s24 := s23.trans s4
              refine ⟨vacc, hD4, by rw [racc.length]; omega, ?_⟩
              exact next i ρ5 S4 σ2 ι4 H4 O4 (acc ++ [y]) (vacc ++ [vy]) r' _ hi' R5 hw2 (si.trans s24) (it.keep _ _ _ _ _ _ s24.k gi) (.inr rfl) ((racc.keep s24.k).append (.cons ry .nil)) (by rw [List.length_append, List.length_singleton]; omega) hle4 hnc4 ql (by rw [← hr, ← er, List.append_assoc]; rfl)
        | _ => cases qt
end
end IL

/-! IL14: the evaluator is right on expressions. -/
namespace IL
open PySem PySem.Spec PyProof.Rows L2
section
variable {T : Tab} {call : Fn} {n : Nat}
theorem relabel_eq (scope : Scope) (env : PySem.Env) : relabel scope env = relS scope env.scope := rfl
theorem Ctx.blk {I : Inf} {X : Cx} (c : Ctx T call n I X) {own : List (Str × Nat)} {scope : Scope} (hb : BlkOk I.N I.sc scope own) (s : Shared) (H : Hp) (C : Addr) (cl : List (Str × Addr)) (fp : List Addr) : Ctx T call n ⟨I.N, relS scope I.sc, some scope⟩ (X.blk s H scope (compEnvC scope cl C X.env) fp) where
  g := ⟨c.g.fn, c.g.const, c.g.blt⟩
  calm := c.calm
  N := c.N
  nd := c.nd
  sc := by
    show relabel scope X.env = relS scope I.sc
    rw [relabel_eq, c.sc]
  room := c.room
  fn := fun x h => by
    have h : locB scope x = true := h
    unfold locB at h
    split at h
    · rename_i q
      right
      show (relabel scope X.env).names.lookup x = some .local
      exact lookup_relabel_local q
    · rename_i q
      left
      show (scope.names.lookup x == some .cell) = true
      rw [q]; rfl
    · cases h
  nev := rfl
  kind := hb.kind
structure SoundE (T : Tab) (call : Fn) (n : Nat) (ir : IE) (I : Inf) (X : Cx) (B : Bs) : Prop where
  e : ∀ e, chk T ir I e = true → PE X e (tE B (evE call ir))
  t : ∀ e, chk T ir I e = true → tstOk e = true → PT X e (tT B (pek (evE call ir)))
  w : ∀ op vs p, chk T ir I (.BoolOp op vs p) = true → PW X (.BoolOp op vs p) (tT B (pek (evE call ir)))
  l : ∀ es, chkL T ir I es = true → PA X es (tA B (evL call ir)) ∧ PA X es (tAP B (evP call ir)) ∧ PA X es (tAA B (evA call ir)) ∧ ∀ a ∈ es, notStar a = true
  s : ∀ tg e, chkS T ir I e = true → PI X tg e (tI B (evS call ir))
  o : ∀ o, chkO T ir I o = true → PO X o (tO B (evO call ir))
  c : ∀ es, chkC T ir I es = true → PTs X es (tT B (pek (evC call ir)))
theorem pts_nilD {X : Cx} {B : Bs} : PTs X [] (tT B (pek (ret (.dat, .bl true)))) := ⟨fun pins s σ H Q I q => pts_nil.run pins s σ H Q I (tT_lit q)⟩
/-- for a node that is no list, source, part -/
theorem SoundE.of {ir : IE} {I : Inf} {X : Cx} {B : Bs} (he : ∀ e, chk T ir I e = true → PE X e (tE B (evE call ir))) (ht : ∀ e, chk T ir I e = true → tstOk e = true → PT X e (tT B (pek (evE call ir))))
    (hw : ∀ op vs p, chk T ir I (.BoolOp op vs p) = true → PW X (.BoolOp op vs p) (tT B (pek (evE call ir))))
    (hl : ∀ es, chkL T ir I es = false) (hs : ∀ e, chkS T ir I e = false) (ho : ∀ o, chkO T ir I o = false) (hc : ∀ es, chkC T ir I es = false) : SoundE T call n ir I X B :=
  ⟨he, ht, hw, fun es h => (by rw [hl] at h; cases h), fun tg e h => (by rw [hs] at h; cases h), fun o h => (by rw [ho] at h; cases h), fun es h => (by rw [hc] at h; cases h)⟩
/-- .. and whose tests are its value's -/
theorem SoundE.val {ir : IE} {I : Inf} {X : Cx} {B : Bs} (he : ∀ e, chk T ir I e = true → PE X e (tE B (evE call ir)))
    (hi : ∀ e, chk T ir I e = true → tstOk e = true → (∀ env whole, isTrue e env whole = (do let v ← whole; standAt e.pos; holding [v] (truthy v)))) (hw : ∀ op vs p, chk T ir I (.BoolOp op vs p) = false)
    (hl : ∀ es, chkL T ir I es = false) (hs : ∀ e, chkS T ir I e = false) (ho : ∀ o, chkO T ir I o = false) (hc : ∀ es, chkC T ir I es = false) : SoundE T call n ir I X B :=
  .of he (fun e h t => pt_valD (he e h) (hi e h t X.env)) (fun op vs p h => (by rw [hw] at h; cases h)) hl hs ho hc
theorem sound_e : ∀ (ir : IE) (I : Inf) (X : Cx) (B : Bs), Ctx T call n I X → X.K = B.K → SoundE T call n ir I X B := by
  intro ir
  induction ir with
  | lit c =>
    intro I X B cx hK
    refine .val (fun e h => ?_) (fun e h _ env whole => ?_) (fun _ _ _ => rfl) (fun _ => rfl) (fun _ => rfl) (fun _ => rfl) (fun _ => rfl)
    · cases e <;> simp only [chk, Bool.false_eq_true] at h
      exact pe_lit h
    · cases e <;> simp only [chk, Bool.false_eq_true] at h
      rfl
  | gl x c =>
    intro I X B cx hK
    refine .val (fun e h => ?_) (fun e h _ env whole => ?_) (fun _ _ _ => rfl) (fun _ => rfl) (fun _ => rfl) (fun _ => rfl) (fun _ => rfl)
    · cases e <;> simp only [chk, Bool.false_eq_true, Bool.and_eq_true, decide_eq_true_eq] at h
      exact pe_gl cx h.1.2 h.2
    · cases e <;> simp only [chk, Bool.false_eq_true] at h
      rfl
  | var i =>
    intro I X B cx hK
    refine .val (fun e h => ?_) (fun e h _ env whole => ?_) (fun _ _ _ => rfl) (fun _ => rfl) (fun _ => rfl) (fun _ => rfl) (fun _ => rfl)
    · cases e <;> simp only [chk, Bool.false_eq_true, Bool.and_eq_true, decide_eq_true_eq, Bool.not_eq_true'] at h
      exact pe_vr cx h.1.1.1 h.1.1.2 h.1.2 h.2
    · cases e <;> simp only [chk, Bool.false_eq_true] at h
      rfl
  | nil =>
    intro I X B cx hK
    refine ⟨fun e h => (by simp [chk] at h), fun e h => (by simp [chk] at h), fun _ _ _ h => (by simp [chk] at h), fun es h => ?_, fun tg e h => (by simp [chkS] at h), fun o h => ?_, fun es h => ?_⟩
    · simp only [chkL, List.isEmpty_iff] at h; subst h
      exact ⟨pa_nilD, pa_nilP, pa_nilA, fun a h => nomatch h⟩
    · simp only [chkO, Option.isNone_iff_eq_none] at h; subst h
      exact po_noneD
    · simp only [chkC, List.isEmpty_iff] at h; subst h
      exact pts_nilD
  | cons a b iha ihb =>
    intro I X B cx hK
    refine ⟨fun e h => (by simp [chk] at h), fun e h => (by simp [chk] at h), fun _ _ _ h => (by simp [chk] at h), fun es h => ?_, fun tg e h => (by simp [chkS] at h), fun o h => (by simp [chkO] at h), fun es h => (by simp [chkC] at h)⟩
    cases es with
    | nil => simp [chkL] at h
    | cons e es =>
      simp only [chkL, Bool.and_eq_true] at h
      have ha := (iha I X B cx hK).e e h.1.2
      obtain ⟨h1, h2, h3, h4⟩ := (ihb I X B cx hK).l es h.2
      refine ⟨pa_consD h.1.1 ha h1, pa_consP h.1.1 ha h2, pa_consA h.1.1 ha h3, fun x hx => ?_⟩
      rcases List.mem_cons.mp hx with rfl | hx
      · exact h.1.1
      · exact h4 x hx
  | tup as ih =>
    intro I X B cx hK
    refine .val (fun e h => ?_) (fun e h _ env whole => ?_) (fun _ _ _ => rfl) (fun _ => rfl) (fun _ => rfl) (fun _ => rfl) (fun _ => rfl)
    · cases e <;> simp only [chk, Bool.false_eq_true] at h
      exact pe_tupD ((ih I X B cx hK).l _ h).1
    · cases e <;> simp only [chk, Bool.false_eq_true] at h
      rfl
  | lst as ih =>
    intro I X B cx hK
    refine .val (fun e h => ?_) (fun e h _ env whole => ?_) (fun _ _ _ => rfl) (fun _ => rfl) (fun _ => rfl) (fun _ => rfl) (fun _ => rfl)
    · cases e <;> simp only [chk, Bool.false_eq_true] at h
      exact pe_lstD ((ih I X B cx hK).l _ h).1
    · cases e <;> simp only [chk, Bool.false_eq_true] at h
      rfl
  | op o a b iha ihb =>
    intro I X B cx hK
    refine .val (fun e h => ?_) (fun e h _ env whole => ?_) (fun _ _ _ => rfl) (fun _ => rfl) (fun _ => rfl) (fun _ => rfl) (fun _ => rfl)
    · cases e <;> simp only [chk, Bool.false_eq_true, Bool.and_eq_true, decide_eq_true_eq] at h
      obtain ⟨⟨rfl, h1⟩, h2⟩ := h
      exact pe_opD hK o ((iha I X B cx hK).e _ h1) ((ihb I X B cx hK).e _ h2)
    · cases e <;> simp only [chk, Bool.false_eq_true] at h
      rfl
  | neg a iha =>
    intro I X B cx hK
    have inv : ∀ e, chk T (.neg a) I e = true → ∃ r p, e = .UnaryOp .USub r p ∧ chk T a I r = true := fun e h => by
      unfold chk at h
      split at h
      · exact ⟨_, _, rfl, h⟩
      · cases h
    refine .val (fun e h => ?_) (fun e h _ env whole => ?_) (fun _ _ _ => rfl) (fun _ => rfl) (fun _ => rfl) (fun _ => rfl) (fun _ => rfl)
    · obtain ⟨r, p, rfl, h⟩ := inv e h
      exact pe_negD ((iha I X B cx hK).e _ h)
    · obtain ⟨r, p, rfl, h⟩ := inv e h; rfl
  | cmp c a b iha ihb =>
    intro I X B cx hK
    have inv : ∀ e, chk T (.cmp c a b) I e = true → ∃ l r p, e = .Compare l [c.py] [r] p ∧ notSet r = true ∧ chk T a I l = true ∧ chk T b I r = true := fun e h => by
      cases e <;> simp only [chk, Bool.false_eq_true] at h
      rename_i l ops rs p
      split at h
      · rename_i heq; cases heq
        simp only [Bool.and_eq_true, decide_eq_true_eq] at h
        obtain ⟨⟨⟨rfl, h1⟩, h2⟩, h3⟩ := h
        exact ⟨_, _, _, rfl, h1, h2, h3⟩
      · cases h
    refine .of (fun e h => ?_) (fun e h _ => ?_) (fun op vs p h => ?_) (fun _ => rfl) (fun _ => rfl) (fun _ => rfl) (fun _ => rfl)
    · obtain ⟨l, r, p, rfl, h1, h2, h3⟩ := inv e h
      exact pe_cmpD hK cx.room.units c h1 ((iha I X B cx hK).e _ h2) ((ihb I X B cx hK).e _ h3)
    · obtain ⟨l, r, p, rfl, h1, h2, h3⟩ := inv e h
      exact pt_cmpD hK cx.room.units c h1 ((iha I X B cx hK).e _ h2) ((ihb I X B cx hK).e _ h3)
    · obtain ⟨l, r, p, h, _⟩ := inv _ h; cases h
  | chain c d a b z iha ihb ihz =>
    intro I X B cx hK
    have inv : ∀ e, chk T (.chain c d a b z) I e = true → ∃ l r s p, e = .Compare l [c.py, d.py] [r, s] p ∧ notSet s = true ∧ chk T a I l = true ∧ chk T b I r = true ∧ chk T z I s = true := fun e h => by
      cases e <;> simp only [chk, Bool.false_eq_true] at h
      rename_i l ops rs p
      split at h
      · rename_i heq; cases heq
        simp only [Bool.and_eq_true, decide_eq_true_eq] at h
        obtain ⟨⟨⟨⟨⟨rfl, rfl⟩, h1⟩, h2⟩, h3⟩, h4⟩ := h
        exact ⟨_, _, _, _, rfl, h1, h2, h3, h4⟩
      · cases h
    refine .of (fun e h => ?_) (fun e h _ => ?_) (fun op vs p h => ?_) (fun _ => rfl) (fun _ => rfl) (fun _ => rfl) (fun _ => rfl)
    · obtain ⟨l, r, s, p, rfl, h1, h2, h3, h4⟩ := inv e h
      exact pe_chainD hK cx.room.units c d h1 ((iha I X B cx hK).e _ h2) ((ihb I X B cx hK).e _ h3) ((ihz I X B cx hK).e _ h4)
    · obtain ⟨l, r, s, p, rfl, h1, h2, h3, h4⟩ := inv e h
      exact pt_chainD hK cx.room.units c d h1 ((iha I X B cx hK).e _ h2) ((ihb I X B cx hK).e _ h3) ((ihz I X B cx hK).e _ h4)
    · obtain ⟨l, r, s, p, h, _⟩ := inv _ h; cases h
  | and a b iha ihb =>
    intro I X B cx hK
    have inv : ∀ e, chk T (.and a b) I e = true → ∃ l r rest p, e = .BoolOp .And (l :: r :: rest) p ∧ tstOk l = true ∧ chk T a I l = true ∧ ((rest = [] ∧ tstOk r = true ∧ chk T b I r = true) ∨ chk T b I (.BoolOp .And (r :: rest) p) = true) := fun e h => by
      cases e <;> simp only [chk, Bool.false_eq_true] at h
      split at h
      · rename_i heq heq2; cases heq2
        simp only [Bool.and_eq_true] at h
        refine ⟨_, _, _, _, rfl, h.1.1, h.1.2, ?_⟩
        have h2 := h.2
        split at h2
        · simp only [Bool.and_eq_true] at h2; exact .inl ⟨rfl, h2⟩
        · exact .inr h2
      · cases h
    have pw : ∀ e, chk T (.and a b) I e = true → PW X e (tT B (pek (evE call (.and a b)))) := fun e h => by
      obtain ⟨l, r, rest, p, rfl, h0, h1, ⟨rfl, h2, h3⟩ | h2⟩ := inv e h
      · exact pw_andD ((iha I X B cx hK).t _ h1 h0) (pw_and1 ((ihb I X B cx hK).t _ h3 h2))
      · exact pw_andD ((iha I X B cx hK).t _ h1 h0) ((ihb I X B cx hK).w _ _ _ h2)
    refine .of (fun e h => ?_) (fun e h _ => ?_) (fun op vs p h => pw _ h) (fun _ => rfl) (fun _ => rfl) (fun _ => rfl) (fun _ => rfl)
    · obtain ⟨l, r, rest, p, rfl, h0, h1, ⟨rfl, h2, h3⟩ | h2⟩ := inv e h
      · exact pe_andD ((iha I X B cx hK).e _ h1) (pe_one ((ihb I X B cx hK).e _ h3))
      · exact pe_andD ((iha I X B cx hK).e _ h1) ((ihb I X B cx hK).e _ h2)
    · exact (pw e h).pt
  | or a b iha ihb =>
    intro I X B cx hK
    have inv : ∀ e, chk T (.or a b) I e = true → ∃ l r rest p, e = .BoolOp .Or (l :: r :: rest) p ∧ tstOk l = true ∧ chk T a I l = true ∧ ((rest = [] ∧ tstOk r = true ∧ chk T b I r = true) ∨ chk T b I (.BoolOp .Or (r :: rest) p) = true) := fun e h => by
      cases e <;> simp only [chk, Bool.false_eq_true] at h
      split at h
      · rename_i heq heq2; cases heq2
        simp only [Bool.and_eq_true] at h
        refine ⟨_, _, _, _, rfl, h.1.1, h.1.2, ?_⟩
        have h2 := h.2
        split at h2
        · simp only [Bool.and_eq_true] at h2; exact .inl ⟨rfl, h2⟩
        · exact .inr h2
      · cases h
    have pw : ∀ e, chk T (.or a b) I e = true → PW X e (tT B (pek (evE call (.or a b)))) := fun e h => by
      obtain ⟨l, r, rest, p, rfl, h0, h1, ⟨rfl, h2, h3⟩ | h2⟩ := inv e h
      · exact pw_orD ((iha I X B cx hK).t _ h1 h0) (pw_or1 ((ihb I X B cx hK).t _ h3 h2))
      · exact pw_orD ((iha I X B cx hK).t _ h1 h0) ((ihb I X B cx hK).w _ _ _ h2)
    refine .of (fun e h => ?_) (fun e h _ => ?_) (fun op vs p h => pw _ h) (fun _ => rfl) (fun _ => rfl) (fun _ => rfl) (fun _ => rfl)
    · obtain ⟨l, r, rest, p, rfl, h0, h1, ⟨rfl, h2, h3⟩ | h2⟩ := inv e h
      · exact pe_orD ((iha I X B cx hK).e _ h1) (pe_one ((ihb I X B cx hK).e _ h3))
      · exact pe_orD ((iha I X B cx hK).e _ h1) ((ihb I X B cx hK).e _ h2)
    · exact (pw e h).pt
  | not a iha =>
    intro I X B cx hK
    have inv : ∀ e, chk T (.not a) I e = true → ∃ r p, e = .UnaryOp .Not r p ∧ tstOk r = true ∧ chk T a I r = true := fun e h => by
      cases e <;> simp only [chk, Bool.false_eq_true] at h
      rename_i op r p
      cases op <;> simp only [Bool.false_eq_true, Bool.and_eq_true] at h
      exact ⟨_, _, rfl, h.1, h.2⟩
    refine .of (fun e h => ?_) (fun e h _ => ?_) (fun op vs p h => ?_) (fun _ => rfl) (fun _ => rfl) (fun _ => rfl) (fun _ => rfl)
    · obtain ⟨r, p, rfl, h1, h2⟩ := inv e h
      exact pe_notD ((iha I X B cx hK).e _ h2)
    · obtain ⟨r, p, rfl, h1, h2⟩ := inv e h
      exact pt_notD ((iha I X B cx hK).t _ h2 h1)
    · obtain ⟨r, p, h, _⟩ := inv _ h; cases h
  | ite c a b ihc iha ihb =>
    intro I X B cx hK
    refine .of (fun e h => ?_) (fun e h t => ?_) (fun op vs p h => (by simp [chk] at h)) (fun _ => rfl) (fun _ => rfl) (fun _ => rfl) (fun _ => rfl)
    · cases e <;> simp only [chk, Bool.false_eq_true, Bool.and_eq_true] at h
      exact pe_iteD ((ihc I X B cx hK).t _ h.1.1.2 h.1.1.1) ((iha I X B cx hK).e _ h.1.2) ((ihb I X B cx hK).e _ h.2)
    · cases e <;> simp only [chk, Bool.false_eq_true] at h
      simp [tstOk] at t
  | idx a b iha ihb =>
    intro I X B cx hK
    refine .val (fun e h => ?_) (fun e h _ env whole => ?_) (fun _ _ _ => rfl) (fun _ => rfl) (fun _ => rfl) (fun _ => rfl) (fun _ => rfl)
    · cases e <;> simp only [chk, Bool.false_eq_true, Bool.and_eq_true] at h
      exact pe_idxD hK cx.room.units h.1.1 ((iha I X B cx hK).e _ h.1.2) ((ihb I X B cx hK).e _ h.2)
    · cases e <;> simp only [chk, Bool.false_eq_true] at h
      rfl
  | slc a lo hi iha ihl ihh =>
    intro I X B cx hK
    have inv : ∀ e, chk T (.slc a lo hi) I e = true → ∃ l x y p2 p, e = .Subscript l (.Slice x y none p2) p ∧ chk T a I l = true ∧ chkO T lo I x = true ∧ chkO T hi I y = true := fun e h => by
      cases e <;> simp only [chk, Bool.false_eq_true] at h
      split at h
      · rename_i heq; cases heq
        simp only [Bool.and_eq_true] at h
        exact ⟨_, _, _, _, _, rfl, h.1.1, h.1.2, h.2⟩
      · cases h
    refine .val (fun e h => ?_) (fun e h _ env whole => ?_) (fun op vs p => ?_) (fun _ => rfl) (fun _ => rfl) (fun _ => rfl) (fun _ => rfl)
    · obtain ⟨l, x, y, p2, p, rfl, h1, h2, h3⟩ := inv e h
      exact pe_slcD hK ((iha I X B cx hK).e _ h1) ((ihl I X B cx hK).o _ h2) ((ihh I X B cx hK).o _ h3)
    · obtain ⟨l, x, y, p2, p, rfl, _⟩ := inv e h; rfl
    · rfl
  | rev a iha =>
    intro I X B cx hK
    have inv : ∀ e, chk T (.rev a) I e = true → ∃ l k p1 p2 p3 p, e = .Subscript l (.Slice none none (some (.UnaryOp .USub (.Constant (.int 1) k p1) p2)) p3) p ∧ chk T a I l = true := fun e h => by
      cases e <;> simp only [chk, Bool.false_eq_true] at h
      split at h
      · rename_i heq; cases heq
        exact ⟨_, _, _, _, _, _, rfl, h⟩
      · cases h
    refine .val (fun e h => ?_) (fun e h _ env whole => ?_) (fun op vs p => ?_) (fun _ => rfl) (fun _ => rfl) (fun _ => rfl) (fun _ => rfl)
    · obtain ⟨l, k, p1, p2, p3, p, rfl, h1⟩ := inv e h
      exact pe_revD hK ((iha I X B cx hK).e _ h1)
    · obtain ⟨l, k, p1, p2, p3, p, rfl, h1⟩ := inv e h; rfl
    · rfl
  | call f as ih =>
    intro I X B cx hK
    have inv : ∀ e, chk T (.call f as) I e = true → ∃ x p1 a es p, e = .Call (.Name x p1) (a :: es) [] p ∧ globB I.sc x = true ∧ T.fns.lookup x = some f ∧ chkL T as I (a :: es) = true := fun e h => by
      cases e <;> simp only [chk, Bool.false_eq_true] at h
      split at h
      · rename_i heq; cases heq
        simp only [Bool.and_eq_true, decide_eq_true_eq] at h
        exact ⟨_, _, _, _, _, rfl, h.1.1, h.1.2, h.2⟩
      · cases h
    refine .val (fun e h => ?_) (fun e h _ env whole => ?_) (fun op vs p => ?_) (fun _ => rfl) (fun _ => rfl) (fun _ => rfl) (fun _ => rfl)
    · obtain ⟨x, p1, a, es, p, rfl, h1, h2, h3⟩ := inv e h
      obtain ⟨_, _, h4, h5⟩ := (ih I X B cx hK).l _ h3
      exact pe_callD cx hK h1 h2 h5 h4
    · obtain ⟨x, p1, a, es, p, rfl, _⟩ := inv e h; rfl
    · rfl
  | isi a ts one iha =>
    intro I X B cx hK
    have inv : ∀ e, chk T (.isi a ts one) I e = true → ∃ x p1 l r p, e = .Call (.Name x p1) [l, r] [] p ∧ x = "isinstance" ∧ bltB T I x = true ∧ ts.length ≤ 8 ∧ notStar l = true ∧ notStar r = true ∧ chk T a I l = true ∧ (ts.all fun t => bltB T I t.s) = true ∧ isiArg ts one r = true := fun e h => by
      cases e <;> simp only [chk, Bool.false_eq_true] at h
      split at h
      · rename_i heq; cases heq
        simp only [Bool.and_eq_true, decide_eq_true_eq] at h
        obtain ⟨⟨⟨⟨⟨⟨⟨h1, h2⟩, h3⟩, h4⟩, h5⟩, h6⟩, h7⟩, h8⟩ := h
        exact ⟨_, _, _, _, _, rfl, h1, h2, h3, h4, h5, h6, h7, h8⟩
      · cases h
    refine .val (fun e h => ?_) (fun e h _ env whole => ?_) (fun op vs p => ?_) (fun _ => rfl) (fun _ => rfl) (fun _ => rfl) (fun _ => rfl)
    · obtain ⟨x, p1, l, r, p, rfl, h1, h2, h3, h4, h5, h6, h7, h8⟩ := inv e h
      exact pe_isiD cx hK h1 h2 ((iha I X B cx hK).e _ h6) h4 h5 h7 h3 h8
    · obtain ⟨x, p1, l, r, p, rfl, _⟩ := inv e h; rfl
    · rfl
  | bi b as ih =>
    intro I X B cx hK
    have inv : ∀ e, chk T (.bi b as) I e = true → ∃ x p1 a es p, e = .Call (.Name x p1) (a :: es) [] p ∧ x = b.s ∧ bltB T I x = true ∧ chkL T as I (a :: es) = true := fun e h => by
      cases e <;> simp only [chk, Bool.false_eq_true] at h
      split at h
      · rename_i heq; cases heq
        simp only [Bool.and_eq_true, decide_eq_true_eq] at h
        exact ⟨_, _, _, _, _, rfl, h.1.1, h.1.2, h.2⟩
      · cases h
    refine .val (fun e h => ?_) (fun e h _ env whole => ?_) (fun op vs p => ?_) (fun _ => rfl) (fun _ => rfl) (fun _ => rfl) (fun _ => rfl)
    · obtain ⟨x, p1, a, es, p, rfl, h1, h2, h3⟩ := inv e h
      obtain ⟨_, h4, _, h5⟩ := (ih I X B cx hK).l _ h3
      exact pe_biD cx hK h1 h2 h5 h4
    · obtain ⟨x, p1, a, es, p, rfl, _⟩ := inv e h; rfl
    · rfl
  | comp own tg it c z iht ihc ihz =>
    intro I X B cx hK
    have inv : ∀ e, chk T (.comp own tg it c z) I e = true → ∃ elt target iter ifs scope p, e = .ListComp elt [⟨target, iter, ifs, 0⟩] scope p ∧ chkS T it I iter = true ∧ blkC I.N I.sc scope own = true ∧ chkTg ⟨I.N, relS scope I.sc, some scope⟩ tg target = true ∧
        (tg.slots.all fun i => (own.map (·.2)).contains i) = true ∧ chkC T c ⟨I.N, relS scope I.sc, some scope⟩ ifs = true ∧ chk T z ⟨I.N, relS scope I.sc, some scope⟩ elt = true := fun e h => by
      cases e <;> simp only [chk, Bool.false_eq_true] at h
      split at h
      · rename_i heq; cases heq
        simp only [Bool.and_eq_true] at h
        obtain ⟨⟨⟨⟨⟨h1, h2⟩, h3⟩, h4⟩, h5⟩, h6⟩ := h
        exact ⟨_, _, _, _, _, _, rfl, h1, h2, h3, h4, h5, h6⟩
      · cases h
    refine .val (fun e h => ?_) (fun e h _ env whole => ?_) (fun op vs p => ?_) (fun _ => rfl) (fun _ => rfl) (fun _ => rfl) (fun _ => rfl)
    · obtain ⟨elt, target, iter, ifs, scope, p, rfl, h1, h2, h3, h4, h5, h6⟩ := inv e h
      have hts : ∀ i ∈ tg.slots, i ∈ own.map (·.2) := fun i hi => by
        have := List.all_eq_true.mp h4 i hi
        simpa using this
      have hset : ∀ x, foldedSetIterable iter X.env x = pure x := fun x => by
        cases iter <;> first | rfl | (exfalso; revert h1; cases it <;> simp [chkS, notSet])
      refine PE.weak (pe_lc (own := own) (tt := exT B fun B => tT B (pek (evC call c))) (g := exG B fun B => tG B tg) (te := exE B fun B => tF B (frz (evE call z))) cx.calm cx.nd ((iht I X B cx hK).s target iter h1) (by rw [cx.N, cx.sc]; exact blkOk_by h2) (fun s H C cl fp => ?_) (fun s H C cl fp => ?_) (fun s H C cl fp => ?_) hset) fun σ H Q h => ?_
      · refine ⟨fun pins s' σ H' v u Q I' r q => ?_⟩
        obtain ⟨P, q⟩ := q
        have cb := cx.blk (blkOk_by h2) s H C cl fp
        exact ((pg_all (B := { B with P := P }) (I := ⟨I.N, relS scope I.sc, some scope⟩) cb.calm cb.fn hK cb.N cb.nd cb.sc tg).1 _ h3).run pins s' σ _ v u Q I' r q
      · refine ⟨fun pins s' σ H Q I' q => ?_⟩
        obtain ⟨P, q⟩ := q
        exact ((ihc _ _ { B with P := P } (cx.blk (blkOk_by h2) s _ C cl fp) hK).c _ h5).run pins s' σ _ Q I' q
      · refine ⟨fun pins s' σ H Q I' q => ?_⟩
        obtain ⟨P, q⟩ := q
        exact ((ihz _ _ { B with P := P } (cx.blk (blkOk_by h2) s _ C cl fp) hK).e _ h6).F.run pins s' σ _ Q I' q
      · refine tLc_ok (Mono.compTurn (mono_all call c).2.2.2.2.2.2 (mono_all call z).1) hts (fun _ _ _ q => q) h
    · obtain ⟨elt, target, iter, ifs, scope, p, rfl, _⟩ := inv e h; rfl
    · rfl
  | rg1 a iha =>
    intro I X B cx hK
    refine ⟨fun e h => (by simp [chk] at h), fun e h => (by simp [chk] at h), fun _ _ _ h => (by simp [chk] at h), fun es h => (by simp [chkL] at h), fun tg e h => ?_, fun o h => (by simp [chkO] at h), fun es h => (by simp [chkC] at h)⟩
    simp only [chkS] at h
    split at h
    · simp only [Bool.and_eq_true, decide_eq_true_eq] at h
      exact pi_rg1D cx h.1.1.1 h.1.1.2 h.1.2 ((iha I X B cx hK).e _ h.2)
    · cases h
  | rg2 a b iha ihb =>
    intro I X B cx hK
    refine ⟨fun e h => (by simp [chk] at h), fun e h => (by simp [chk] at h), fun _ _ _ h => (by simp [chk] at h), fun es h => (by simp [chkL] at h), fun tg e h => ?_, fun o h => (by simp [chkO] at h), fun es h => (by simp [chkC] at h)⟩
    simp only [chkS] at h
    split at h
    · simp only [Bool.and_eq_true, decide_eq_true_eq] at h
      exact pi_rg2D cx h.1.1.1.1.1 h.1.1.1.1.2 h.1.1.1.2 h.1.1.2 ((iha I X B cx hK).e _ h.1.2) ((ihb I X B cx hK).e _ h.2)
    · cases h
  | som a iha =>
    intro I X B cx hK
    refine ⟨fun e h => (by simp [chk] at h), fun e h => (by simp [chk] at h), fun _ _ _ h => (by simp [chk] at h), fun es h => (by simp [chkL] at h), fun tg e h => (by simp [chkS] at h), fun o h => ?_, fun es h => ?_⟩
    · cases o with
      | none => simp [chkO] at h
      | some e => exact po_someD ((iha I X B cx hK).e _ h)
    · simp only [chkC] at h
      split at h
      · simp only [Bool.and_eq_true] at h
        exact pts_one ((iha I X B cx hK).t _ h.2 h.1)
      · cases h
  | sq a iha =>
    intro I X B cx hK
    refine ⟨fun e h => (by simp [chk] at h), fun e h => (by simp [chk] at h), fun _ _ _ h => (by simp [chk] at h), fun es h => (by simp [chkL] at h), fun tg e h => ?_, fun o h => (by simp [chkO] at h), fun es h => (by simp [chkC] at h)⟩
    simp only [chkS, Bool.and_eq_true] at h
    exact pi_seqD hK ((iha I X B cx hK).e _ h.2)
end
end IL

/-! IL15: statements: the evaluator, the look. -/
namespace IL
open PySem PySem.Spec PyProof.Rows L2

inductive Fl where | next | brk | cont | ret (kd : KD)
inductive Mut where | append | insert | pop | popAt | extend
  deriving DecidableEq
inductive IS where
  | nil | cons (a b : IS)
  | asg (i : Nat) (e : IE) (own : Bool)
  | asgT (tg : Tg) (e : IE)
  | tape (i : Nat) (e : IE)
  | setI (o i v : IE)
  | mt (m : Mut) (i : Nat) (as : IE)
  | ret (e : IE) | retN
  | iff (c : IE) (a b : IS)
  | fors (tg : Tg) (it : IE) (b : IS)
  | whl (c : IE) (b : IS)
  | exp (e : IE)
  | pass | brk | cont | never

/-! ### the evaluator -/
def asgK (i : Nat) (own : Bool) (kd : KD) : M Fl := fun ρ S =>
  if i < ρ.length then (match kd.1, own with
    | .fresh, true => .ok .next (ρ.set i (some (.own kd.2))) S
    | k, _ => .ok .next ((fz k ρ).set i (some (.dat kd.2))) S) else .stuck
def retK (kd : KD) : M Fl := fun ρ S => match kd.1 with
  | .bor i => (match ρ[i]? with
    | some (some (.own _)) => .ok (.ret (.fresh, kd.2)) ρ S
    | _ => .ok (.ret (.dat, kd.2)) ρ S)
  | k => .ok (.ret (k, kd.2)) ρ S
def putKD {κ : Type} [DecidableEq κ] (ks : List κ) (ds : List D) (k : κ) (e : D) : List κ × List D :=
  if k ∈ ks then (ks, List.zipWith (fun j d => if j = k then e else d) ks ds) else (ks ++ [k], ds ++ [e])
/-- an owned list or dict with an item set -/
def setOwn : D → D → D → Option D
  | .lst ds, .int k, v => (ixN ds.length k).map fun j => .lst (ds.set j v)
  | .dk ks ds, e, v => match e.key with
    | some k => if ks.length < sizeLine then some (.dk (putKD ks ds k v).1 (putKD ks ds k v).2) else none
    | none => none
  | .dt ks ds, .tup e, v => match keysOf e with
    | some k => if ks.length < sizeLine then some (.dt (putKD ks ds k v).1 (putKD ks ds k v).2) else none
    | none => none
  | _, _, _ => none
def setCell : Cell → Int → D → Option Cell
  | .tape ns p x, i, .int v => if i = 1 then some (.tape ns v x) else if i = 2 then some (.tape ns p v) else none
  | _, _, _ => none
def setAt (v : D) (o : KD) (i : D) : M Fl := fun ρ S => match o.1, o.2 with
  | .bor s, _ => (match ρ[s]? with
    | some (some (.own d)) => (match setOwn d i v with
      | some d' => .ok .next (ρ.set s (some (.own d'))) S
      | none => .stuck)
    | _ => .stuck)
  | .dat, .cell n => (match i, S[n]? with
    | .int k, some c => (match setCell c k v with
      | some c' => .ok .next ρ (S.set n c')
      | none => .stuck)
    | _, _ => .stuck)
  | _, _ => .stuck
def mutOwn : Mut → List D → List D → Option (List D)
  | .append, ds, [v] => if ds.length < sizeLine then some (ds ++ [v]) else none
  | .insert, ds, [.int i, v] => if ds.length < sizeLine ∧ 0 ≤ i ∧ i < 2 ^ 63 then some (ds.take i.toNat ++ [v] ++ ds.drop i.toNat) else none
  | .pop, ds, [] => if ds ≠ [] then some ds.dropLast else none
  | .popAt, ds, [.int i] => if -(2 ^ 63) ≤ i ∧ i < 2 ^ 63 then (seqIndex? i ds.length).bind fun k => if k < ds.length then some (ds.eraseIdx k) else none else none
  | .extend, ds, [.lst es] => if ds.length + es.length ≤ sizeLine then some (ds ++ es) else none
  | _, _, _ => none
def mutAt (m : Mut) (i : Nat) (as : List D) : M Fl := fun ρ S => match ρ[i]? with
  | some (some (.own (.lst ds))) => (match mutOwn m ds as with
    | some ds' => .ok .next (ρ.set i (some (.own (.lst ds')))) S
    | none => .stuck)
  | _ => .stuck
def thenM (m k : M Fl) : M Fl := bnd m fun f => match f with
  | .next => k
  | f => ret f
def forLoop (step : D → M Fl) : List D → M Fl
  | [] => ret .next
  | d :: ds => bnd (step d) fun f => match f with
    | .next => forLoop step ds
    | .cont => forLoop step ds
    | .brk => ret .next
    | .ret kd => ret (.ret kd)
def whileLoop (c : M KD) (b : M Fl) : Nat → M Fl
  | 0 => stk
  | k + 1 => tst c (bnd b fun f => match f with
    | .next => whileLoop c b k
    | .cont => whileLoop c b k
    | .brk => ret .next
    | .ret kd => ret (.ret kd)) (ret .next)
/-- the most turns of a while -/
def turnsMost : Nat := 1000000
def tapeM (i : Nat) (kd : KD) : M Fl := fun ρ S => match kd with
  | (.fresh, .lst ds) => if ds.all D.isI && decide (i < ρ.length) then .ok .next (ρ.set i (some (.dat (.cell S.length)))) (S ++ [.tape (ds.map D.toI) 0 0]) else .stuck
  | _ => .stuck
section
variable (call : Fn)
def evI : IS → M Fl
  | .nil => ret .next
  | .cons a b => thenM (evI a) (evI b)
  | .asg i e own => bnd (evE call e) fun kd => asgK i own kd
  | .asgT tg e => bnd (frz (evE call e)) fun d => bnd (setTg tg d) fun _ => ret .next
  | .tape i e => bnd (evE call e) (tapeM i)
  | .setI o i v => bnd (frz (evE call v)) fun dv => bnd (evE call o) fun ko => bnd (pek (evE call i)) fun di => setAt dv ko di
  | .mt m i as => bnd (evL call as) fun ds => mutAt m i ds
  | .ret e => bnd (evE call e) retK
  | .retN => ret (.ret (.dat, .non))
  | .iff c a b => tst (evE call c) (evI a) (evI b)
  | .fors tg it b => bnd (evS call it) fun ds => forLoop (fun d => bnd (setTg tg d) fun _ => evI b) ds
  | .whl c b => whileLoop (evE call c) (evI b) turnsMost
  | .exp e => bnd (evE call e) fun _ => ret .next
  | .pass => ret .next
  | .brk => ret .brk
  | .cont => ret .cont
  | .never => stk
end
/-! ### the look -/
def Mut.s : Mut → Str
  | .append => "append" | .insert => "insert" | .pop => "pop" | .popAt => "pop" | .extend => "extend"
def Mut.ar : Mut → Nat
  | .append => 1 | .insert => 2 | .pop => 0 | .popAt => 1 | .extend => 1
/-- a value that a name's store swaps with: a comprehension on the target's line -/
def swapB (I : Inf) (x : Str) (p : Pos) : Expr → Bool
  | .ListComp _ _ scope pos => decide (I.sc.names.lookup x = some .local) && decide (p.line = pos.line) && !(scope.names.any fun (n, k) => n == x && (k == .local || k == .cell))
  | .SetComp _ _ _ _ => true
  | .DictComp _ _ _ _ _ => true
  | _ => false
def notComp : Expr → Bool
  | .ListComp _ _ _ _ => false
  | .SetComp _ _ _ _ => false
  | .DictComp _ _ _ _ _ => false
  | _ => true
def notTup : Expr → Bool
  | .Tuple _ _ _ => false
  | _ => true
section
variable (T : Tab)
mutual
def chkI : IS → Inf → Stmt → Bool
  | .asg i e own, I, st => (match st with
    | .Assign [.Name x p] v _ => decide (I.N[i]? = some x) && locB I.sc x && I.tgt x && chk T e I v && (!(swapB I x p v) || !(notComp v))
    | _ => false)
  | .asgT tg e, I, st => (match st with
    | .Assign [.Tuple ts k p] v _ => chkTg I tg (.Tuple ts k p) && notTup v && notComp v && chk T e I v
    | _ => false)
  | .tape i e, I, st => (match st with
    | .Assign [.Name x p] (.List [a, .Constant (.int 0) _ _, .Constant (.int 0) _ _] _) _ => decide (I.N[i]? = some x) && locB I.sc x && I.tgt x && notStar a && chk T e I a
    | _ => false)
  | .setI o i v, I, st => (match st with
    | .Assign [.Subscript a b _] w _ => notSlice b && chk T v I w && chk T o I a && chk T i I b
    | _ => false)
  | .mt m i as, I, st => (match st with
    | .Expr (.Call (.Attribute (.Name x xp) f ap) es [] p) _ => decide (f = m.s) && decide (es.length = m.ar) && (ap.endLine == p.line) && chk T (.var i) I (.Name x xp) && chkL T as I es
    | _ => false)
  | .ret e, I, st => (match st with
    | .Return (some v) _ => chk T e I v
    | _ => false)
  | .retN, I, st => (match st with
    | .Return none _ => true
    | _ => false)
  | .iff c a b, I, st => (match st with
    | .If t x y _ => tstOk t && chk T c I t && chkB a I x && chkB b I y
    | _ => false)
  | .fors tg it b, I, st => (match st with
    | .For t e x [] _ => chkTg I tg t && chkS T it I e && chkB b I x
    | _ => false)
  | .whl c b, I, st => (match st with
    | .While t x [] _ => tstOk t && chk T c I t && chkB b I x
    | _ => false)
  | .exp e, I, st => (match st with
    | .Expr v _ => notComp v && chk T e I v
    | _ => false)
  | .pass, _, st => (match st with
    | .Pass _ => true
    | _ => false)
  | .brk, _, st => (match st with
    | .Break _ => true
    | _ => false)
  | .cont, _, st => (match st with
    | .Continue _ => true
    | _ => false)
  | .never, _, _ => true
  | .nil, _, _ => false
  | .cons _ _, _, _ => false
def chkB : IS → Inf → List Stmt → Bool
  | .nil, _, sts => sts.isEmpty
  | .cons a b, I, sts => (match sts with
    | st :: sts => chkI a I st && chkB b I sts
    | _ => false)
  | .never, _, _ => true
  | _, _, _ => false
end
end
end IL

/-! IL16: the evaluator is right on statements. -/
namespace IL
open PySem PySem.Spec PyProof.Rows L2
/-- what is wanted behind a statement that came to an end so -/
def FinS (B : Bs) (D : Ends) (ι : Cad) (H : Hp) (O : Own) : Res Fl → Prop
  | .ok .next ρ' S' => ∀ σ' ι' H' O', Keep ι H O ι' H' O' → Rel B ρ' S' σ' ι' H' O' → D.nx σ' H'
  | .ok .brk ρ' S' => ∀ σ' ι' H' O', Keep ι H O ι' H' O' → Rel B ρ' S' σ' ι' H' O' → D.bk σ' H'
  | .ok .cont ρ' S' => ∀ σ' ι' H' O', Keep ι H O ι' H' O' → Rel B ρ' S' σ' ι' H' O' → D.ct σ' H'
  | .ok (.ret kd) ρ' S' => ∀ v ι' H' O', Stp B.ι0 B.H0 B.O0 ι' H' O' → (∀ a, B.P a → O' a) → SO S' ι' H' O' → RF B.K B.H0 kd.1 ι' H' O' v kd.2 → D.rt v H'
  | .stuck => False
def tS (B : Bs) (m : M Fl) : TS := fun D σ H => ∃ ρ S ι O, Rel B ρ S σ ι H O ∧ FinS B D ι H O (m ρ S)
theorem FinS.keep {B : Bs} {D : Ends} {ι ι' : Cad} {H H' : Hp} {O O' : Own} {r : Res Fl} (k : Keep ι H O ι' H' O') (h : FinS B D ι H O r) : FinS B D ι' H' O' r := by
  cases r with
  | stuck => exact h
  | ok f ρ S => cases f with
    | next => exact fun σ' ι2 H2 O2 k2 => h σ' ι2 H2 O2 (k.trans k2)
    | brk => exact fun σ' ι2 H2 O2 k2 => h σ' ι2 H2 O2 (k.trans k2)
    | cont => exact fun σ' ι2 H2 O2 k2 => h σ' ι2 H2 O2 (k.trans k2)
    | ret kd => exact h
section
variable {T : Tab} {call : Fn} {n : Nat} {I : Inf} {X : Cx} {B : Bs}
theorem pss_nilD : PSs X [] (tS B (ret .next)) := PSs.weak pss_nil fun D σ H h => by
  obtain ⟨ρ, S, ι, O, R, h⟩ := h
  exact h σ ι H O .refl R
theorem pss_consD {st : Stmt} {sts : List Stmt} {m k : M Fl} (h1 : PS X st (tS B m)) (h2 : PSs X sts (tS B k)) : PSs X (st :: sts) (tS B (thenM m k)) := by
  refine PSs.weak (pss_cons h1 h2) fun D σ H h => ?_
  obtain ⟨ρ, S, ι, O, R, h⟩ := h
  refine ⟨ρ, S, ι, O, R, ?_⟩
  simp only [thenM, bnd] at h
  cases q : m ρ S with
  | stuck => rw [q] at h; exact h
  | ok f ρ' S' =>
    rw [q] at h; dsimp only at h
    cases f with
    | next => exact fun σ' ι' H' O' k R' => ⟨ρ', S', ι', O', R', h.keep k⟩
    | brk => exact h
    | cont => exact h
    | ret kd => exact h
theorem ps_passD {pos : Pos} : PS X (.Pass pos) (tS B (ret .next)) := PS.weak ps_pass fun D σ H h => by
  obtain ⟨ρ, S, ι, O, R, h⟩ := h
  exact h σ ι H O .refl R
theorem ps_brkD {pos : Pos} : PS X (.Break pos) (tS B (ret .brk)) := PS.weak ps_break fun D σ H h => by
  obtain ⟨ρ, S, ι, O, R, h⟩ := h
  exact h σ ι H O .refl R
theorem ps_contD {pos : Pos} : PS X (.Continue pos) (tS B (ret .cont)) := PS.weak ps_continue fun D σ H h => by
  obtain ⟨ρ, S, ι, O, R, h⟩ := h
  exact h σ ι H O .refl R
theorem ps_neverD {st : Stmt} : PS X st (tS B stk) := PS.weak ps_never fun D σ H h => by
  obtain ⟨ρ, S, ι, O, R, h⟩ := h
  exact h
theorem pss_neverD {sts : List Stmt} : PSs X sts (tS B stk) := PSs.weak pss_never fun D σ H h => by
  obtain ⟨ρ, S, ι, O, R, h⟩ := h
  exact h
/-- an expression first -/
theorem tS_E {m : M KD} {f : KD → M Fl} {D : Ends} {σ : L2.St} {H : Hp} {Q : VK} (h : tS B (bnd m f) D σ H)
    (hq : ∀ kd ρ S v ι H1 O, Rel B ρ S σ ι H1 O → RK B kd.1 ρ σ ι H1 O v kd.2 → FinS B D ι H1 O (f kd ρ S) → Q v H1) : tE B m σ H Q := by
  obtain ⟨ρ, S, ι, O, R, h⟩ := h
  refine ⟨ρ, S, ι, O, R, ?_⟩
  simp only [bnd] at h
  cases q : m ρ S with
  | stuck => rw [q] at h; exact h
  | ok kd ρ' S' =>
    rw [q] at h; dsimp only at h
    exact fun v ι' H' O' s R' rk => hq kd ρ' S' v ι' H' O' R' rk (h.keep s.k)
theorem tS_F {m : M D} {f : D → M Fl} {E : Ends} {σ : L2.St} {H : Hp} {Q : VK} (h : tS B (bnd m f) E σ H)
    (hq : ∀ d ρ S v ι H1 O, Rel B ρ S σ ι H1 O → RV B.K ι H1 O v d → FinS B E ι H1 O (f d ρ S) → Q v H1) : tF B m σ H Q := by
  obtain ⟨ρ, S, ι, O, R, h⟩ := h
  refine ⟨ρ, S, ι, O, R, ?_⟩
  simp only [bnd] at h
  cases q : m ρ S with
  | stuck => rw [q] at h; exact h
  | ok kd ρ' S' =>
    rw [q] at h; dsimp only at h
    exact fun v ι' H' O' s R' rk => hq kd ρ' S' v ι' H' O' R' rk (h.keep s.k)
theorem tS_P {m : M D} {f : D → M Fl} {E : Ends} {σ : L2.St} {H : Hp} {Q : VK} (h : tS B (bnd m f) E σ H)
    (hq : ∀ d ρ S v ι H1 O, Rel B ρ S σ ι H1 O → KV B.K ι H1 O v d → FinS B E ι H1 O (f d ρ S) → Q v H1) : tP B m σ H Q := by
  obtain ⟨ρ, S, ι, O, R, h⟩ := h
  refine ⟨ρ, S, ι, O, R, ?_⟩
  simp only [bnd] at h
  cases q : m ρ S with
  | stuck => rw [q] at h; exact h
  | ok kd ρ' S' =>
    rw [q] at h; dsimp only at h
    exact fun v ι' H' O' s R' rk => hq kd ρ' S' v ι' H' O' R' rk (h.keep s.k)
theorem Rel.setOwnS {ρ : Rho} {S : Store} {σ : L2.St} {ι : Cad} {H : Hp} {O : Own} {v : V} {d : D} {i : Nat} (R : Rel B ρ S σ ι H O) (hi : i < ρ.length) (r : RK B .fresh ρ σ ι H O v d) : Rel B (ρ.set i (some (.own d))) S (σ.set i (some v)) ι H O := by
  obtain ⟨a, rfl, ho, h0, nc, o, hs, hp⟩ := r
  have hσ : i < σ.length := by rw [← R.len]; exact hi
  have at' : ∀ (j : Nat) (z : Slot), (ρ.set i (some (.own d)))[j]? = some (some z) → (j = i ∧ z = .own d) ∨ (j ≠ i ∧ ρ[j]? = some (some z)) := fun j z q => by
    by_cases hj : j = i
    · subst hj; rw [List.getElem?_set_self hi] at q; cases q; exact .inl ⟨rfl, rfl⟩
    · rw [List.getElem?_set_ne (Ne.symm hj)] at q; exact .inr ⟨hj, q⟩
  have off : ∀ {j : Nat}, j ≠ i → (σ.set i (some (V.ref a)))[j]? = σ[j]? := fun hj => List.getElem?_set_ne (Ne.symm hj)
  have on : (σ.set i (some (V.ref a)))[i]? = some (some (.ref a)) := List.getElem?_set_self hσ
  refine { R with
    dat := fun j d' q => ?_, own := fun j d' q => ?_, sep := fun j l d1 d2 b hne q1 q2 z1 z2 => ?_, len := by rw [List.length_set, List.length_set]; exact R.len
    ownP := fun j d' b q1 q2 => ?_ }
  · rcases at' j _ q with ⟨rfl, z⟩ | ⟨hj, q⟩
    · cases z
    · rw [off hj]; exact R.dat j d' q
  · rcases at' j _ q with ⟨rfl, z⟩ | ⟨hj, q⟩
    · cases z; exact ⟨a, on, ho, h0, nc, o⟩
    · rw [off hj]; exact R.own j d' q
  · rcases at' j _ q1 with ⟨ej, _⟩ | ⟨hj, r1⟩
    · rcases at' l _ q2 with ⟨el, _⟩ | ⟨hl, r2⟩
      · exact hne (ej.trans el.symm)
      · rw [ej, on] at z1; cases z1
        rw [off hl] at z2
        exact hs l _ r2 z2
    · rcases at' l _ q2 with ⟨el, _⟩ | ⟨hl, r2⟩
      · rw [el, on] at z2; cases z2
        rw [off hj] at z1
        exact hs j _ r1 z1
      · rw [off hj] at z1; rw [off hl] at z2
        exact R.sep j l d1 d2 b hne r1 r2 z1 z2
  · rcases at' j _ q1 with ⟨rfl, z⟩ | ⟨hj, q1⟩
    · rw [on] at q2; cases q2; exact hp
    · rw [off hj] at q2; exact R.ownP j d' b q1 q2
theorem fz_length {k : Kd} {ρ : Rho} : (fz k ρ).length = ρ.length := by
  cases k with
  | dat => rfl
  | fresh => rfl
  | bor i =>
    unfold fz; dsimp only
    split
    · rw [List.length_set]
    · rfl
/-- name = value -/
theorem asg_fin {i : Nat} {own : Bool} {kd : KD} {D : Ends} {ρ : Rho} {S : Store} {σ : L2.St} {ι : Cad} {H : Hp} {O : Own} {v : V} (R : Rel B ρ S σ ι H O) (rk : RK B kd.1 ρ σ ι H O v kd.2) (h : FinS B D ι H O (asgK i own kd ρ S)) : D.nx (σ.set i (some v)) H := by
  unfold asgK at h
  by_cases hi : i < ρ.length
  case neg => rw [if_neg hi] at h; exact h.elim
  rw [if_pos hi] at h
  have dat : FinS B D ι H O (.ok .next ((fz kd.1 ρ).set i (some (.dat kd.2))) S) → D.nx (σ.set i (some v)) H := fun h => by
    obtain ⟨O', s, R', rv⟩ := rk.fz R
    exact h _ ι H O' s.k (R'.setDat (by rw [fz_length]; exact hi) rv)
  obtain ⟨k, d⟩ := kd
  cases k with
  | dat => exact dat h
  | bor j => exact dat h
  | fresh =>
    cases own with
    | true => exact h _ ι H O .refl (R.setOwnS hi rk)
    | false => exact dat h
theorem ps_asgD (c : Ctx T call n I X) {i : Nat} {x : Str} {e : Expr} {p pos : Pos} {m : M KD} {own : Bool} (hi : I.N[i]? = some x) (hx : locB I.sc x = true) (ht : I.tgt x = true) (he : PE X e (tE B m)) (hs : swapsWith e (some (.Name x p)) pos.line X.env = pure false) :
    PS X (.Assign [.Name x p] e pos) (tS B (bnd m fun kd => asgK i own kd)) := by
  refine PS.weak (ps_set c.nd (by rw [c.N]; exact hi) (by rw [c.sc]; exact loc_of hx) he hs (c.fn x ht)) fun D σ H h => ?_
  exact tS_E h fun kd ρ S v ι H1 O R rk q => asg_fin R rk q
theorem swap_no {I : Inf} (c : Ctx T call n I X) {x : Str} {p : Pos} {v : Expr} {l : Nat} (h : swapB I x p v = false) : swapsWith v (some (.Name x p)) l X.env = pure false := by
  cases v <;> first | rfl | (simp [swapB] at h; done) | skip
  rename_i elt gens scope pos
  simp only [swapB] at h
  show (pure (X.env.blockKind == .function && X.env.kindOf x == some .local && p.line == pos.line && !(scope.names.any fun (n, k) => n == x && (k == .local || k == .cell))) : Sem Bool) = pure false
  congr 1
  have hk : X.env.kindOf x = I.sc.names.lookup x := by show X.env.scope.names.lookup x = _; rw [c.sc]
  have h' : (X.env.kindOf x == some .local && p.line == pos.line && !(scope.names.any fun (n, k) => n == x && (k == .local || k == .cell))) = false := by
    rw [hk, ← h]
    have e1 : (I.sc.names.lookup x == some NameKind.local) = decide (I.sc.names.lookup x = some .local) := by
      rcases I.sc.names.lookup x with _ | k
      · rfl
      · cases k <;> rfl
    rw [e1]; rfl
  rw [Bool.and_assoc] at h'
  rw [Bool.and_assoc, Bool.and_assoc, h', Bool.and_false]
/-- return -/
theorem ps_retD {e : Expr} {pos : Pos} {m : M KD} (he : PE X e (tE B m)) : PS X (.Return (some e) pos) (tS B (bnd m retK)) := by
  refine PS.weak (ps_ret he) fun D σ H h => ?_
  refine tS_E h fun kd ρ S v ι H1 O R rk q => ?_
  obtain ⟨k, d⟩ := kd
  cases k with
  | dat => exact q v ι H1 O R.stp R.pin R.so rk
  | fresh =>
    obtain ⟨a, rfl, ho, h0, nc, o, hs, hp⟩ := rk
    exact q _ ι H1 O R.stp R.pin R.so ⟨a, rfl, ho, h0, nc, o⟩
  | bor i =>
    obtain ⟨e, h | h⟩ := rk
    · have q' : FinS B D ι H1 O (.ok (.ret (.fresh, d)) ρ S) := by
        unfold retK at q; dsimp only at q; rw [h] at q; exact q
      obtain ⟨a, e', ho, h0, nc, o⟩ := R.own i d h
      rw [e'] at e; cases e
      exact q' _ ι H1 O R.stp R.pin R.so ⟨a, rfl, ho, h0, nc, o⟩
    · have q' : FinS B D ι H1 O (.ok (.ret (.dat, d)) ρ S) := by
        unfold retK at q; dsimp only at q; rw [h] at q; exact q
      obtain ⟨v', e', rv⟩ := R.dat i d h
      rw [e'] at e; cases e
      exact q' _ ι H1 O R.stp R.pin R.so rv
theorem ps_retND {pos : Pos} : PS X (.Return none pos) (tS B (ret (.ret (.dat, .non)))) := PS.weak ps_retN fun D σ H h => by
  obtain ⟨ρ, S, ι, O, R, h⟩ := h
  exact h .non ι H O R.stp R.pin R.so .non
/-- if -/
theorem tS_tst {m : M KD} {a b : M Fl} {D : Ends} {σ : L2.St} {H : Hp} (h : tS B (tst m a b) D σ H) : tT B (pek m) σ H fun k H1 => if k = true then tS B a D σ H1 else tS B b D σ H1 := by
  obtain ⟨ρ, S, ι, O, R, h⟩ := h
  refine ⟨ρ, S, ι, O, R, ?_⟩
  simp only [tst, bnd] at h
  cases q : pek m ρ S with
  | stuck => rw [q] at h; exact h
  | ok d ρ' S' =>
    rw [q] at h; dsimp only at h
    cases d with
    | bl k =>
      intro ι' H' O' s R'
      cases k with
      | true => rw [if_pos rfl]; exact ⟨ρ', S', ι', O', R', FinS.keep s.k h⟩
      | false => rw [if_neg Bool.false_ne_true]; exact ⟨ρ', S', ι', O', R', FinS.keep s.k h⟩
    | _ => exact h.elim
theorem ps_iffD {t : Expr} {x y : List Stmt} {pos : Pos} {m : M KD} {a b : M Fl} (hc : PT X t (tT B (pek m))) (ha : PSs X x (tS B a)) (hb : PSs X y (tS B b)) : PS X (.If t x y pos) (tS B (tst m a b)) :=
  PS.weak (ps_if hc ha hb) fun D σ H h => tS_tst h
theorem ps_expD {e : Expr} {pos : Pos} {m : M KD} (he : PE X e (tE B m)) (hs : notComp e = true) : PS X (.Expr e pos) (tS B (bnd m fun _ => ret .next)) := by
  refine PS.weak (ps_expr he (by cases e <;> first | rfl | (simp [notComp] at hs))) fun D σ H h => ?_
  exact tS_E h fun kd ρ S v ι H1 O R rk q => q σ ι H1 O .refl R
/-! ### stores into what a slot owns -/
theorem Rel.mutSlot {ρ : Rho} {S : Store} {σ : L2.St} {ι : Cad} {H : Hp} {O : Own} {s : Nat} {d d' : D} {a : Addr} {o : HO} (R : Rel B ρ S σ ι H O) (hs : ρ[s]? = some (some (.own d))) (ha : σ[s]? = some (some (.ref a))) (ov : Keep ι H O ι (upd H a o) O → OV B.K ι (upd H a o) O a d') :
    Rel B (ρ.set s (some (.own d'))) S σ ι (upd H a o) O ∧ Keep ι H O ι (upd H a o) O := by
  obtain ⟨b, e, ho, h0, nc, ovd⟩ := R.own s d hs
  rw [e] at ha; cases ha
  have k : Keep ι H O ι (upd H a o) O := ⟨fun x u e m => by rw [upd_ne fun z => m (by rw [z]; exact ho)]; exact e, fun x m _ => m, fun _ _ e => e⟩
  have hi : s < ρ.length := (List.getElem?_eq_some_iff.mp hs).1
  have at' : ∀ (j : Nat) (z : Slot), (ρ.set s (some (.own d')))[j]? = some (some z) → (j = s ∧ z = .own d') ∨ (j ≠ s ∧ ρ[j]? = some (some z)) := fun j z q => by
    by_cases hj : j = s
    · subst hj; rw [List.getElem?_set_self hi] at q; cases q; exact .inl ⟨rfl, rfl⟩
    · rw [List.getElem?_set_ne (Ne.symm hj)] at q; exact .inr ⟨hj, q⟩
  refine ⟨{
    dat := fun j d2 q => ?_, own := fun j d2 q => ?_, sep := fun j l d1 d2 b hne q1 q2 z1 z2 => ?_
    oh := fun x h => by
      by_cases q : x = a
      · subst q; rw [upd_same]; simp
      · rw [upd_ne q]; exact R.oh x h
    stp := R.stp.mut h0
    cl := R.cl
    cells := fun m c p e1 e2 => (R.cells m c p e1 e2).keep k (upd_ne fun z => nc p (List.mem_of_getElem? e2) z)
    co := R.co
    cd := R.cd
    len := by rw [List.length_set]; exact R.len
    pin := R.pin
    ownP := fun j d2 b q1 q2 => ?_ }, k⟩
  · rcases at' j _ q with ⟨rfl, z⟩ | ⟨hj, q⟩
    · cases z
    · obtain ⟨v, h1, h2⟩ := R.dat j d2 q; exact ⟨v, h1, h2.keep k⟩
  · rcases at' j _ q with ⟨rfl, z⟩ | ⟨hj, q⟩
    · cases z; exact ⟨a, e, ho, h0, nc, ov k⟩
    · obtain ⟨b, h1, h2, h3, h4, h5⟩ := R.own j d2 q
      exact ⟨b, h1, h2, h3, h4, h5.keep k (upd_ne fun z => R.sep j s d2 d b hj q hs h1 (by rw [e, z]))⟩
  · rcases at' j _ q1 with ⟨ej, _⟩ | ⟨hj, r1⟩
    · rcases at' l _ q2 with ⟨el, _⟩ | ⟨hl, r2⟩
      · exact hne (ej.trans el.symm)
      · exact R.sep j l d d2 b hne (by rw [ej]; exact hs) r2 z1 z2
    · rcases at' l _ q2 with ⟨el, _⟩ | ⟨hl, r2⟩
      · exact R.sep j l d1 d b hne r1 (by rw [el]; exact hs) z1 z2
      · exact R.sep j l d1 d2 b hne r1 r2 z1 z2
  · rcases at' j _ q1 with ⟨rfl, z⟩ | ⟨hj, q1⟩
    · exact R.ownP j d b hs q2
    · exact R.ownP j d2 b q1 q2
theorem PSet.or {t t' : TSet} (h : PSet X t) (h' : PSet X t') : PSet X (fun o i v H Q => t o i v H Q ∨ t' o i v H Q) := by
  intro pins s σ H o i v ov iv u Q I r1 r2 r3 q
  rcases q with q | q
  · exact h pins s σ H o i v ov iv u Q I r1 r2 r3 q
  · exact h' pins s σ H o i v ov iv u Q I r1 r2 r3 q
def rSetD : V → V → V → Hp → (Hp → Prop) → Prop := fun o i v H Q => ∃ a H', o = .ref a ∧ DPut H a i v H' ∧ Q H'
theorem set_dict (hu : X.A.units + 1 < cLine) : PSet X rSetD := by
  intro pins s σ H o i v ov iv u Q I r1 r2 r3 q
  obtain ⟨a, H', rfl, g, q⟩ := q
  obtain rfl : ov = Value.ref a := r1
  exact d_setItem hu I g r2 r3 fun s4 I4 => ⟨H', I4, q⟩
theorem any_key {κ : Type} [DecidableEq κ] (k : κ) : ∀ {ks : List κ} {vs : List V}, ks.length = vs.length → ((ks.zip vs).any fun kv => decide (kv.1 = k)) = decide (k ∈ ks)
  | [], [], _ => by simp
  | j :: ks, v :: vs, l => by
    rw [List.zip_cons_cons, List.any_cons, any_key k (by simpa using l)]
    by_cases e : j = k
    · subst e; simp
    · have e' : ¬ k = j := fun z => e z.symm
      simp [e, e']
theorem map_put {κ : Type} [DecidableEq κ] {K : PySem.W.Frag} {ι : Cad} {H : Hp} {O : Own} (k : κ) {v : V} {e : D} (rv : RV K ι H O v e) : ∀ {ks : List κ} {vs : List V} {ds : List D}, ks.length = vs.length → RVs K ι H O vs ds →
    ∃ ws, (ks.zip vs).map (fun kv => if kv.1 = k then (kv.1, v) else kv) = ks.zip ws ∧ ks.length = ws.length ∧ RVs K ι H O ws (List.zipWith (fun j d => if j = k then e else d) ks ds)
  | [], _, _, _, _ => ⟨[], rfl, rfl, by simp; exact .nil⟩
  | j :: ks, v' :: vs, d :: ds, l, .cons a b => by
    obtain ⟨ws, h1, h2, h3⟩ := map_put k rv (ks := ks) (by simpa using l) b
    by_cases q : j = k
    · exact ⟨v :: ws, by simp [q, h1], by simp [h2], by simp only [List.zipWith_cons_cons, if_pos q]; exact .cons rv h3⟩
    · exact ⟨v' :: ws, by simp [q, h1], by simp [h2], by simp only [List.zipWith_cons_cons, if_neg q]; exact .cons a h3⟩
theorem put_val {κ : Type} [DecidableEq κ] {K : PySem.W.Frag} {ι : Cad} {H : Hp} {O : Own} (k : κ) {v : V} {e : D} (rv : RV K ι H O v e) {ks : List κ} {vs : List V} {ds : List D} (l : ks.length = vs.length) (r : RVs K ι H O vs ds) :
    ∃ ws, putK (ks.zip vs) k v = (putKD ks ds k e).1.zip ws ∧ (putKD ks ds k e).1.length = ws.length ∧ RVs K ι H O ws (putKD ks ds k e).2 := by
  unfold putK putKD
  rw [any_key k l]
  by_cases h : k ∈ ks
  · rw [if_pos (decide_eq_true h), if_pos h]
    exact map_put k rv l r
  · rw [if_neg (by simp [h]), if_neg h]
    refine ⟨vs ++ [v], ?_, by simp [l], r.append (.cons rv .nil)⟩
    rw [List.zip_append l]; rfl
/-- o[i] = v -/
def rSetAll : V → V → V → Hp → (Hp → Prop) → Prop := fun o i v H Q => rSetL o i v H Q ∨ rSetD o i v H Q
theorem setOwn_ok {ρ : Rho} {S : Store} {σ : L2.St} {ι : Cad} {H : Hp} {O : Own} {s : Nat} {d d' i v : D} {a : Addr} {x y : V} {Q : Hp → Prop} (R : Rel B ρ S σ ι H O) (hs : ρ[s]? = some (some (.own d))) (ha : σ[s]? = some (some (.ref a)))
    (ki : KV B.K ι H O x i) (rv : RV B.K ι H O y v) (h : setOwn d i v = some d') (q : ∀ H', Rel B (ρ.set s (some (.own d'))) S σ ι H' O → Keep ι H O ι H' O → Q H') : rSetAll (.ref a) x y H Q := by
  obtain ⟨b, e, ho, h0, nc, ov⟩ := R.own s d hs
  rw [e] at ha; cases ha
  unfold setOwn at h
  split at h
  · obtain ⟨vs, e1, r⟩ := ov
    obtain rfl := ki.int_inv
    simp only [Option.map_eq_some_iff] at h
    obtain ⟨j, hj, rfl⟩ := h
    refine .inl ⟨a, vs, _, j, rfl, rfl, e1, by rw [r.length]; exact hj, ?_⟩
    obtain ⟨R', k⟩ := R.mutSlot (o := .lst (vs.set j y)) (d' := .lst (List.set _ j v)) hs e fun k => ⟨_, upd_same, (r.keep k).set (rv.keep k) j⟩
    exact q _ R' k
  · rename_i ks ds
    obtain ⟨vs, e1, l, r⟩ := ov
    split at h
    · rename_i k hk
      split at h
      · rename_i hz
        cases h
        have ki' : RV B.K ι H O x i := by
          cases i <;> first | exact ki | (simp [D.key] at hk)
        obtain rfl := ki'.key hk
        obtain ⟨ws, h1, h2, h3⟩ := put_val k rv l r
        refine .inr ⟨a, _, rfl, DPut.k e1 (by rw [List.length_zip, ← l, Nat.min_self]; exact hz), ?_⟩
        rw [h1]
        obtain ⟨R', kk⟩ := R.mutSlot (o := .dK ((putKD ks ds k v).1.zip ws)) (d' := .dk (putKD ks ds k v).1 (putKD ks ds k v).2) hs e fun k => ⟨_, upd_same, h2, h3.keep k⟩
        exact q _ R' kk
      · cases h
    · cases h
  · rename_i ks ds ek
    obtain ⟨vs, e1, l, r⟩ := ov
    split at h
    · rename_i k hk
      split at h
      · rename_i hz
        cases h
        obtain ⟨p, us, rfl, e2, n2, r2⟩ := ki.tup_inv
        obtain rfl := r2.keys hk
        obtain ⟨ws, h1, h2, h3⟩ := put_val k rv l r
        refine .inr ⟨a, _, rfl, DPut.t e1 e2 (by rw [List.length_zip, ← l, Nat.min_self]; exact hz), ?_⟩
        rw [h1]
        obtain ⟨R', kk⟩ := R.mutSlot (o := .dT ((putKD ks ds k v).1.zip ws)) (d' := .dt (putKD ks ds k v).1 (putKD ks ds k v).2) hs e fun k => ⟨_, upd_same, h2, h3.keep k⟩
        exact q _ R' kk
      · cases h
    · cases h
  · cases h
/-- a shared object is changed -/
theorem Rel.mutCell {ρ : Rho} {S : Store} {σ : L2.St} {ι : Cad} {H : Hp} {O : Own} {k : Nat} {p : Addr × Addr} {c' : Cell} {o : HO} (R : Rel B ρ S σ ι H O) (hk : ι[k]? = some p) (hc : Keep ι H O ι (upd H p.1 o) O → CellAt (upd H p.1 o) O c' p) :
    Rel B ρ (S.set k c') σ ι (upd H p.1 o) O ∧ Keep ι H O ι (upd H p.1 o) O := by
  have hp := List.mem_of_getElem? hk
  have ho : O p.1 := R.co p hp
  have kp : Keep ι H O ι (upd H p.1 o) O := ⟨fun x u e m => by rw [upd_ne fun z => m (by rw [z]; exact ho)]; exact e, fun x m _ => m, fun _ _ e => e⟩
  refine ⟨{
    dat := fun j d2 q => let ⟨v, h1, h2⟩ := R.dat j d2 q; ⟨v, h1, h2.keep kp⟩
    own := fun j d2 q => by
      obtain ⟨b, h1, h2, h3, h4, h5⟩ := R.own j d2 q
      exact ⟨b, h1, h2, h3, h4, h5.keep kp (upd_ne fun z => h4 p hp z.symm)⟩
    sep := R.sep
    oh := fun x h => by
      by_cases q : x = p.1
      · subst q; rw [upd_same]; simp
      · rw [upd_ne q]; exact R.oh x h
    stp := {
      k := ⟨fun a u e n => by
        by_cases q : a = p.1
        · subst q
          exact absurd ho (R.stp.k.o p.1 n (by rw [e]; simp))
        · rw [upd_ne q]; exact R.stp.k.h a u e n, R.stp.k.o, R.stp.k.c⟩
      h2 := fun a u e n => by
        by_cases q : a = p.1
        · subst q
          rcases R.stp.n p hp with z | z
          · exact absurd rfl (n p z)
          · rw [z.1] at e; cases e
        · rw [upd_ne q]; exact R.stp.h2 a u e n
      n := R.stp.n
      t := fun a e => by
        by_cases q : a = p.1
        · subst q; rw [upd_same]; simp
        · rw [upd_ne q]; exact R.stp.t a e }
    cl := by rw [List.length_set]; exact R.cl
    cells := fun m c p2 e1 e2 => by
      by_cases q : m = k
      · subst q
        rw [hk] at e2; cases e2
        have hl : m < S.length := by rw [R.cl]; exact (List.getElem?_eq_some_iff.mp hk).1
        rw [List.getElem?_set_self hl] at e1; cases e1
        exact hc kp
      · rw [List.getElem?_set_ne (Ne.symm q)] at e1
        exact (R.cells m c p2 e1 e2).keep kp (upd_ne fun z => q (R.cd m k p2 p e2 hk z))
    co := R.co
    cd := R.cd
    len := R.len
    pin := R.pin
    ownP := R.ownP }, kp⟩
theorem setCell_ok {ρ : Rho} {S : Store} {σ : L2.St} {ι : Cad} {H : Hp} {O : Own} {n : Nat} {k : Int} {c c' : Cell} {v : D} {x y o : V} {Q : Hp → Prop} (R : Rel B ρ S σ ι H O) (hc : S[n]? = some c) (ho : RV B.K ι H O o (.cell n)) (ki : KV B.K ι H O x (.int k)) (rv : RV B.K ι H O y v)
    (h : setCell c k v = some c') (q : ∀ H', Rel B ρ (S.set n c') σ ι H' O → Keep ι H O ι H' O → Q H') : rSetAll o x y H Q := by
  cases ho with
  | @cell m p hp =>
  obtain rfl := ki.int_inv
  have ca := R.cells _ _ _ hc hp
  unfold setCell at h
  split at h
  · rename_i ns a b w
    cases rv
    obtain ⟨h1, h2, h3⟩ := ca
    have hne : p.2 ≠ p.1 := fun z => h3 (by rw [z]; exact R.co p (List.mem_of_getElem? hp))
    split at h
    · rename_i hi; subst hi; cases h
      refine .inl ⟨p.1, _, 1, 1, rfl, rfl, h1, rfl, ?_⟩
      obtain ⟨R', kk⟩ := R.mutCell (o := .lst [.ref p.2, .int w, .int b]) (c' := .tape ns w b) hp fun k => ⟨upd_same, by rw [upd_ne hne]; exact h2, h3⟩
      exact q _ R' kk
    · split at h
      · rename_i hi; subst hi; cases h
        refine .inl ⟨p.1, _, 2, 2, rfl, rfl, h1, rfl, ?_⟩
        obtain ⟨R', kk⟩ := R.mutCell (o := .lst [.ref p.2, .int a, .int w]) (c' := .tape ns a w) hp fun k => ⟨upd_same, by rw [upd_ne hne]; exact h2, h3⟩
        exact q _ R' kk
      · cases h
  · cases h
theorem ps_setID (hu : X.A.units + 64 < cLine) {a b w : Expr} {p pos : Pos} {mv mo mi : M KD} (hb : notSlice b = true) (hv : PE X w (tE B mv)) (ho : PE X a (tE B mo)) (hi : PE X b (tE B mi)) :
    PS X (.Assign [.Subscript a b p] w pos) (tS B (bnd (frz mv) fun dv => bnd mo fun ko => bnd (pek mi) fun di => setAt dv ko di)) := by
  have hs : swapsWithSole [.Subscript a b p] w pos.line X.env = pure false := by cases w <;> rfl
  refine PS.weak (ps_asg hv.F (pg_sub ho hi.P (PSet.or set_list (set_dict (by omega))) (fun v => by cases b <;> first | rfl | (simp [notSlice] at hb))) hs (by cases w <;> rfl) rfl) fun D σ H h => ?_
  refine tS_F h fun dv ρ1 S1 v ι1 H1 O1 R1 rv h => ?_
  have h' : tS B (bnd mo fun ko => bnd (pek mi) fun di => setAt dv ko di) D σ H1 := ⟨ρ1, S1, ι1, O1, R1, h⟩
  -- the object
  refine ⟨ρ1, S1, ι1, O1, R1, ?_⟩
  simp only [bnd] at h
  cases q : mo ρ1 S1 with
  | stuck => rw [q] at h; exact h
  | ok ko ρ2 S2 =>
    rw [q] at h; dsimp only at h
    intro o ι2 H2 O2 s2 R2 rk
    refine ⟨ρ2, S2, ι2, O2, R2, ?_⟩
    cases q2 : pek mi ρ2 S2 with
    | stuck => rw [q2] at h; exact h
    | ok di ρ3 S3 =>
      rw [q2] at h; dsimp only at h
      intro x ι3 H3 O3 s3 R3 ki
      have rv3 := (rv.keep s2.k).keep s3.k
      have k13 := (s2.k.trans s3.k)
      obtain ⟨kk, d⟩ := ko
      cases kk with
      | dat =>
        cases d with
        | cell m =>
          unfold setAt at h; dsimp only at h
          split at h
          · rename_i _ _ k c hk
            split at h
            · rename_i c' hc'
              exact setCell_ok R3 hk (RV.keep s3.k rk) ki rv3 hc' fun H' R' k' => h σ ι3 H' O3 (k13.trans k') R'
            · exact h.elim
          · exact h.elim
        | _ => exact h.elim
      | fresh => exact h.elim
      | bor s =>
        unfold setAt at h; dsimp only at h
        split at h
        · rename_i d2 hs
          split at h
          · rename_i d' hd'
            obtain ⟨a, e, _⟩ := R3.own s d2 hs
            have e2 := rk.1
            rw [e] at e2; cases e2
            exact setOwn_ok R3 hs e ki rv3 hd' fun H' R' k' => h σ ι3 H' O3 (k13.trans k') R'
          · exact h.elim
        · exact h.elim
end
end IL

/-! IL17: methods that change a list, tuple targets, loops; statements as a whole. -/
namespace IL
open PySem PySem.Spec PyProof.Rows L2
section
variable {T : Tab} {call : Fn} {n : Nat} {I : Inf} {X : Cx} {B : Bs}
/-! ### x.append(..) and its like -/
theorem hfew_of {es : List Expr} {pos : Pos} {env : PySem.Env} (h : ∀ e ∈ es, notStar e = true) (l : es.length < 29) : ((backTo pos (starEach es env)).all (fun x => !x.1) && (backToKw pos (keywordEach [] env)).all (fun x => x.1.isSome)
      && decide (es.length + ([] : List Keyword).length + (if ([] : List Keyword).isEmpty then 0 else 1) < 30)) = true := by
  have h1 : (backTo pos (starEach es env)).all (fun x => !x.1) = true := by
    induction es with
    | nil => rfl
    | cons e es ih =>
      rw [star_of (h e List.mem_cons_self)]
      show (true && (backTo pos (starEach es env)).all (fun x => !x.1)) = true
      rw [Bool.true_and]
      exact ih (fun x hx => h x (List.mem_cons_of_mem _ hx)) (by simp at l; omega)
  rw [h1]
  simp [backToKw, keywordEach]
  omega
def Mut.r : Mut → V → List V → Hp → VK → Prop
  | .append => rAppend
  | .insert => fun x vs H Q => ∃ (l : Addr) (xs : List V) (i : Int) (y : V), x = .ref l ∧ vs = [.int i, y] ∧ H l = some (.lst xs) ∧ xs.length < sizeLine ∧ 0 ≤ i ∧ i < 2 ^ 63 ∧
    Q .non (upd H l (.lst (xs.take i.toNat ++ [y] ++ xs.drop i.toNat)))
  | .pop => rPop
  | .popAt => rPopAt
  | .extend => rExtend
def Mut.id : Mut → String
  | .append => "list.append" | .insert => "list.insert" | .pop => "list.pop" | .popAt => "list.pop" | .extend => "list.extend"
theorem Mut.mt (m : Mut) : MtR X m.id m.r := by
  cases m with
  | append => exact mt_append
  | insert => exact mt_insert
  | pop => exact mt_pop
  | popAt => exact mt_popAt
  | extend => exact mt_extend
theorem Mut.slot (m : Mut) : PySem.Slot "list" m.s m.id := by
  cases m with
  | append => exact PySem.F.slot_list_append
  | insert => exact PySem.F.slot_list_insert
  | pop => exact PySem.F.slot_list_pop
  | popAt => exact PySem.F.slot_list_pop
  | extend => exact PySem.F.slot_list_extend
theorem Mut.ty (m : Mut) : typeOf (.builtin m.id) = pure (.type "method_descriptor") := by
  cases m with
  | append => exact PySem.F.type_list_append
  | insert => exact PySem.F.type_list_insert
  | pop => exact PySem.F.type_list_pop
  | popAt => exact PySem.F.type_list_pop
  | extend => exact PySem.F.type_list_extend
/-- by values: the list at a, its new items -/
theorem mutOwn_ok (m : Mut) {ι : Cad} {H : Hp} {O : Own} {a : Addr} {vs as : List V} {ds ds' es : List D} {Q : VK} (e : H a = some (.lst vs)) (r : RVs B.K ι H O vs ds) (ra : RVs B.K ι H O as es) (h : mutOwn m ds es = some ds')
    (q : ∀ u ws, RVs B.K ι H O ws ds' → Q u (upd H a (.lst ws))) : m.r (.ref a) as H Q := by
  unfold mutOwn at h
  split at h
  · split at h
    · rename_i hz; cases h
      cases ra with
      | cons r1 r2 => cases r2; exact ⟨a, vs, _, rfl, rfl, e, by rw [r.length]; exact hz, q _ _ (r.append (.cons r1 .nil))⟩
    · cases h
  · split at h
    · rename_i hz; cases h
      cases ra with
      | cons r1 r2 =>
        cases r2 with
        | cons r2 r3 =>
          cases r3; cases r1
          exact ⟨a, vs, _, _, rfl, rfl, e, by rw [r.length]; exact hz.1, hz.2.1, hz.2.2, q _ _ (((r.take _).append (.cons r2 .nil)).append (r.drop _))⟩
    · cases h
  · split at h
    · rename_i hz; cases h
      cases ra
      have hl : 0 < vs.length := by
        rw [r.length]; exact List.length_pos_iff.mpr hz
      refine ⟨a, vs, vs[vs.length - 1]'(by omega), rfl, rfl, e, List.getElem?_eq_getElem (by omega), q _ _ ?_⟩
      rw [List.dropLast_eq_take, List.dropLast_eq_take, r.length]
      exact r.take _
    · cases h
  · split at h
    · rename_i hz
      cases hk : seqIndex? _ _ with
      | none => rw [hk] at h; cases h
      | some k =>
        rw [hk] at h
        simp only [Option.bind_some] at h
        split at h
        · rename_i hl; cases h
          cases ra with
          | cons r1 r2 =>
            cases r2; cases r1
            have hl' : k < vs.length := by rw [r.length]; exact hl
            exact ⟨a, vs, _, k, vs[k], rfl, rfl, e, hz.1, hz.2, by rw [r.length]; exact hk, List.getElem?_eq_getElem hl', q _ _ (r.eraseIdx k)⟩
        · cases h
    · cases h
  · split at h
    · rename_i hz; cases h
      cases ra with
      | cons r1 r2 =>
        cases r2
        cases r1 with
        | lst e2 n2 r2 => exact ⟨a, _, vs, _, rfl, rfl, e, e2, by rw [r.length, r2.length]; exact hz, q _ _ (r.append r2)⟩
    · cases h
  · cases h
theorem ps_mutD (c : Ctx T call n I X) (hK : X.K = B.K) {m : Mut} {i : Nat} {x f : Str} {xp ap p pos : Pos} {es : List Expr} {as : IE} (hf : f = m.s) (hl : es.length = m.ar) (hp : (ap.endLine == p.line) = true) (hx : PE X (.Name x xp) (tE B (evE call (.var i)))) (ha : PA X es (tA B (evL call as))) (hs : ∀ e ∈ es, notStar e = true) (hn : es = [] → as = .nil) :
    PS X (.Expr (.Call (.Attribute (.Name x xp) f ap) es [] p) pos) (tS B (bnd (evL call as) fun ds => mutAt m i ds)) := by
  subst hf
  have core : ∀ {D : Ends} {σ : L2.St} {H : Hp}, tS B (bnd (evL call as) fun ds => mutAt m i ds) D σ H → tE B (evE call (.var i)) σ H fun x H1 => tyV X.K "list" x H1 ∧ tA B (evL call as) σ H1 fun xs H2 => m.r x xs H2 fun _ H3 => D.nx σ H3 := fun {D σ H} h => by
    obtain ⟨ρ, S, ι, O, R, h⟩ := h
    refine ⟨ρ, S, ι, O, R, ?_⟩
    simp only [bnd] at h
    cases q : evL call as ρ S with
    | stuck => rw [q] at h; exact h.elim
    | ok ds ρ2 S2 =>
      rw [q] at h; dsimp only at h
      unfold mutAt at h
      split at h
      · rename_i xs hs2
        split at h
        · rename_i xs' hm
          have hs1 : ρ[i]? = some (some (.own (.lst xs))) := (mono_all call as).2.1 _ _ _ _ _ q i _ hs2
          simp only [evE, hs1]
          intro v ι1 H1 O1 s1 R1 rk
          have e := rk.1
          obtain ⟨a, e', _, _, _, ov⟩ := R1.own i _ hs1
          rw [e'] at e; cases e
          obtain ⟨vs, ev, rv⟩ := ov
          refine ⟨.inl ⟨rfl, vs, SqL.of ev⟩, ρ, S, ι1, O1, R1, ?_⟩
          rw [q]
          intro ws ι2 H2 O2 s2 R2 ra
          obtain ⟨b, e2, _, _, nc2, ov2⟩ := R2.own i _ hs2
          rw [e'] at e2; cases e2
          obtain ⟨vs2, ev2, rv2⟩ := ov2
          refine mutOwn_ok m ev2 rv2 ra hm fun u us ru => ?_
          obtain ⟨R3, k3⟩ := R2.mutSlot (o := .lst us) (d' := .lst xs') hs2 e' fun k => ⟨us, upd_same, ru.keep k⟩
          exact h σ ι2 _ O2 ((s1.k.trans s2.k).trans k3) R3
        · exact h.elim
      · exact h.elim
  cases es with
  | nil =>
    refine PS.weak (ps_expr (pe_bm0 PySem.F.plainAttrs_list m.slot m.ty m.mt hx rfl hp)) fun D σ H h => ?_
    obtain ⟨ρ, S, ι, O, R, h'⟩ := core h
    refine ⟨ρ, S, ι, O, R, ?_⟩
    cases q : evE call (.var i) ρ S with
    | stuck => rw [q] at h'; exact h'
    | ok kd ρ' S' =>
      rw [q] at h'
      intro v ι' H' O' s R' rk
      obtain ⟨h1, h2⟩ := h' v ι' H' O' s R' rk
      refine ⟨h1, ?_⟩
      -- no arguments
      obtain ⟨ρ3, S3, ι3, O3, R3, h3⟩ := h2
      obtain rfl := hn rfl
      exact h3 [] ι3 H' O3 .refl R3 .nil
  | cons e es =>
    have hl29 : (e :: es).length < 29 := by rw [hl]; cases m <;> decide
    exact PS.weak (ps_expr (pe_bm PySem.F.plainAttrs_list m.slot m.ty m.mt hx ha rfl (hfew_of hs hl29) hp (star_of (hs e List.mem_cons_self)) (back_of fun a h => hs a (List.mem_cons_of_mem _ h)))) fun D σ H h => core h
/-! ### a tuple's items to names -/
theorem swapSole_of {ts : List Expr} {k : Nat} {p : Pos} {v : Expr} {l : Nat} {env : PySem.Env} (h : notComp v = true) : swapsWithSole [.Tuple ts k p] v l env = pure false := by
  cases v <;> first | rfl | (simp [notComp] at h)
theorem swapped_of {ts : List Expr} {k : Nat} {p : Pos} {v : Expr} {env : PySem.Env} (h : notTup v = true) : swappedStores [.Tuple ts k p] v env = pure none := by
  cases v <;> first | rfl | (simp [notTup] at h)
theorem ps_asgTD (c : Ctx T call n I X) (hK : X.K = B.K) {tg : Tg} {ts : List Expr} {k : Nat} {p pos : Pos} {v : Expr} {m : M KD} (ht : chkTg I tg (.Tuple ts k p) = true) (h1 : notTup v = true) (h2 : notComp v = true) (hv : PE X v (tE B m)) :
    PS X (.Assign [.Tuple ts k p] v pos) (tS B (bnd (frz m) fun d => bnd (setTg tg d) fun _ => ret .next)) := by
  refine PS.weak (ps_asg hv.F ((pg_all (B := B) c.calm c.fn hK c.N c.nd c.sc tg).1 _ ht) (swapSole_of h2) (swapped_of h1) rfl) fun D σ H h => ?_
  refine tS_F h fun d ρ S v ι H1 O R rv q => ?_
  simp only [bnd, setTg] at q
  cases z : setTgs tg [d] ρ with
  | none => rw [z] at q; exact q.elim
  | some ρ' =>
    rw [z] at q
    exact ⟨ρ, S, ι, O, d, ρ', R, rv, z, fun σ' _ R' => q σ' ι H1 O .refl R'⟩
/-! ### a comprehension to a name on its line -/
theorem ps_setLcD (c : Ctx T call n I X) (hK : X.K = B.K) {i : Nat} {x : Str} {p pos p2 : Pos} {elt target iter : Expr} {ifs : List Expr} {scope : Scope} {own : Bool} {ow : List (Str × Nat)} {tg : Tg} {it co z : IE}
    (hi : I.N[i]? = some x) (hsw : swapB I x p (.ListComp elt [⟨target, iter, ifs, 0⟩] scope p2) = true) (h : chk T (.comp ow tg it co z) I (.ListComp elt [⟨target, iter, ifs, 0⟩] scope p2) = true) :
    PS X (.Assign [.Name x p] (.ListComp elt [⟨target, iter, ifs, 0⟩] scope p2) pos) (tS B (bnd (evE call (.comp ow tg it co z)) fun kd => asgK i own kd)) := by
  simp only [chk, Bool.and_eq_true] at h
  obtain ⟨⟨⟨⟨⟨h1, h2⟩, h3⟩, h4⟩, h5⟩, h6⟩ := h
  simp only [swapB, Bool.and_eq_true, decide_eq_true_eq, Bool.not_eq_true'] at hsw
  obtain ⟨⟨s1, s2⟩, s3⟩ := hsw
  have hts : ∀ i ∈ tg.slots, i ∈ ow.map (·.2) := fun i hi => by
    have := List.all_eq_true.mp h4 i hi
    simpa using this
  have hset : ∀ x, foldedSetIterable iter X.env x = pure x := fun x => by
    cases iter <;> first | rfl | (exfalso; revert h1; cases it <;> simp [chkS, notSet])
  have hy : X.env.scope.names.lookup x = some .local := by rw [c.sc]; exact s1
  refine PS.weak (ps_setLc (own := ow) (tt := exT B fun B => tT B (pek (evC call co))) (g := exG B fun B => tG B tg) (te := exE B fun B => tF B (frz (evE call z))) c.calm c.nd (by rw [c.N]; exact hi) hy (sw_true c.kind hy (by rw [s2]; exact beq_self_eq_true _) s3) ((sound_e it I X B c hK).s target iter h1) (by rw [c.N, c.sc]; exact blkOk_by h2) (fun s H C cl fp => ?_) (fun s H C cl fp => ?_) (fun s H C cl fp => ?_) hset) fun D σ H h => ?_
  · refine ⟨fun pins s' σ H' v u Q I' r q => ?_⟩
    obtain ⟨P, q⟩ := q
    have cb := c.blk (blkOk_by h2) s H C cl fp
    exact ((pg_all (B := { B with P := P }) (I := ⟨I.N, relS scope I.sc, some scope⟩) cb.calm cb.fn hK cb.N cb.nd cb.sc tg).1 _ h3).run pins s' σ _ v u Q I' r q
  · refine ⟨fun pins s' σ H Q I' q => ?_⟩
    obtain ⟨P, q⟩ := q
    exact ((sound_e co _ _ { B with P := P } (c.blk (blkOk_by h2) s _ C cl fp) hK).c _ h5).run pins s' σ _ Q I' q
  · refine ⟨fun pins s' σ H Q I' q => ?_⟩
    obtain ⟨P, q⟩ := q
    exact ((sound_e z _ _ { B with P := P } (c.blk (blkOk_by h2) s _ C cl fp) hK).e _ h6).F.run pins s' σ _ Q I' q
  · refine tLc_ok (Mono.compTurn (mono_all call co).2.2.2.2.2.2 (mono_all call z).1) hts (fun _ _ _ q => q) ?_
    exact tS_E h fun kd ρ S v ι H1 O R rk q => asg_fin R rk q
/-! ### the tape -/
theorem ints_back : ∀ {ds : List D}, ds.all D.isI = true → ds = (ds.map D.toI).map D.int
  | [], _ => rfl
  | d :: ds, h => by
    rw [List.all_cons, Bool.and_eq_true] at h
    cases d <;> simp only [D.isI, Bool.false_eq_true, false_and] at h
    rw [List.map_cons, List.map_cons, ← ints_back h.2]; rfl
theorem Rel.newCell {ρ : Rho} {S : Store} {σ : L2.St} {ι : Cad} {H : Hp} {O : Own} {P b : Addr} {ns : List Int} {i : Nat} (R : Rel B ρ S σ ι H O) (hP : H P = none) (hb : H b = some (.lst (ns.map V.int))) (nb : ¬ O b) (b0 : B.H0 b = none) (hi : i < ρ.length) :
    Rel B (ρ.set i (some (.dat (.cell S.length)))) (S ++ [.tape ns 0 0]) (σ.set i (some (.ref P))) (ι ++ [(P, b)]) (upd H P (.lst [.ref b, .int 0, .int 0])) (fun a => O a ∨ a = P) ∧ Keep ι H O (ι ++ [(P, b)]) (upd H P (.lst [.ref b, .int 0, .int 0])) (fun a => O a ∨ a = P) := by
  have ex : ∀ (n : Nat) (p : Addr × Addr), ι[n]? = some p → (ι ++ [(P, b)])[n]? = some p := fun n p e => by
    rw [List.getElem?_append_left (List.getElem?_eq_some_iff.mp e).1]; exact e
  have neP : ∀ {a : Addr} {o : HO}, H a = some o → a ≠ P := fun e => ne_of_none e hP
  have k : Keep ι H O (ι ++ [(P, b)]) (upd H P (.lst [.ref b, .int 0, .int 0])) (fun a => O a ∨ a = P) :=
    ⟨fun a o e _ => by rw [upd_ne (neP e)]; exact e, fun a n e q => q.elim n fun z => e (z ▸ hP), ex⟩
  have s : Stp ι H O ι (upd H P (.lst [.ref b, .int 0, .int 0])) (fun a => O a ∨ a = P) := .new hP fun _ h => h
  have bP : b ≠ P := neP hb
  have st : Stp B.ι0 B.H0 B.O0 (ι ++ [(P, b)]) (upd H P (.lst [.ref b, .int 0, .int 0])) (fun a => O a ∨ a = P) := by
    have s2 := R.stp.trans s
    exact ⟨⟨s2.k.h, s2.k.o, fun n p e => ex n p (R.stp.k.c n p e)⟩, s2.h2, fun p hp => by
      rcases List.mem_append.mp hp with hp | hp
      · exact R.stp.n p hp
      · obtain rfl := List.mem_singleton.mp hp
        exact .inr ⟨R.new hP, b0⟩, s2.t⟩
  have R1 : Rel B ρ (S ++ [.tape ns 0 0]) σ (ι ++ [(P, b)]) (upd H P (.lst [.ref b, .int 0, .int 0])) (fun a => O a ∨ a = P) := {
    dat := fun j d q => let ⟨v, h1, h2⟩ := R.dat j d q; ⟨v, h1, h2.keep k⟩
    own := fun j d q => by
      obtain ⟨a, h1, h2, h3, h4, h5⟩ := R.own j d q
      refine ⟨a, h1, .inl h2, h3, fun p hp e => ?_, h5.keep k ?_⟩
      · rcases List.mem_append.mp hp with hp | hp
        · exact h4 p hp e
        · obtain rfl := List.mem_singleton.mp hp
          exact h5.there (by rw [← e]; exact hP)
      · exact upd_ne fun z => h5.there (by rw [z]; exact hP)
    sep := R.sep
    oh := fun a h => by
      rcases h with h | rfl
      · exact s.t a (R.oh a h)
      · rw [upd_same]; simp
    stp := st
    cl := by rw [List.length_append, List.length_append, R.cl]; rfl
    cells := fun m c p e1 e2 => by
      by_cases hm : m < S.length
      · rw [List.getElem?_append_left hm] at e1
        rw [List.getElem?_append_left (by rw [← R.cl]; exact hm)] at e2
        have hp := List.mem_of_getElem? e2
        exact (R.cells m c p e1 e2).keep k (upd_ne fun z => R.oh _ (R.co p hp) (by rw [z]; exact hP))
      · rw [List.getElem?_append_right (by omega)] at e1
        rw [List.getElem?_append_right (by rw [← R.cl]; omega)] at e2
        have hm0 : m - S.length = 0 := by
          have := (List.getElem?_eq_some_iff.mp e1).1
          simp at this; omega
        rw [hm0] at e1; rw [← R.cl, hm0] at e2
        cases e1; cases e2
        exact ⟨upd_same, by rw [upd_ne bP]; exact hb, fun q => q.elim nb bP⟩
    co := fun p hp => by
      rcases List.mem_append.mp hp with hp | hp
      · exact .inl (R.co p hp)
      · obtain rfl := List.mem_singleton.mp hp; exact .inr rfl
    cd := fun k l p q e1 e2 e => by
      have old : ∀ {k : Nat} {p : Addr × Addr}, (ι ++ [(P, b)])[k]? = some p → (ι[k]? = some p ∧ p.1 ≠ P) ∨ (k = ι.length ∧ p.1 = P) := fun {k p} e => by
        by_cases hk : k < ι.length
        · rw [List.getElem?_append_left hk] at e
          exact .inl ⟨e, fun z => R.oh _ (R.co p (List.mem_of_getElem? e)) (by rw [z]; exact hP)⟩
        · rw [List.getElem?_append_right (by omega)] at e
          have hk0 : k - ι.length = 0 := by
            have := (List.getElem?_eq_some_iff.mp e).1
            simp at this; omega
          rw [hk0] at e; cases e
          exact .inr ⟨by omega, rfl⟩
      rcases old e1 with ⟨a1, a2⟩ | ⟨a1, a2⟩ <;> rcases old e2 with ⟨b1, b2⟩ | ⟨b1, b2⟩
      · exact R.cd k l p q a1 b1 e
      · exact absurd (e.trans b2) a2
      · exact absurd (e.symm.trans a2) b2
      · rw [a1, b1]
    len := R.len
    pin := fun a h => .inl (R.pin a h)
    ownP := R.ownP }
  refine ⟨R1.setDat hi (RV.cell (p := (P, b)) ?_), k⟩
  rw [R.cl, List.getElem?_append_right (Nat.le_refl _), Nat.sub_self]; rfl
theorem ps_tapeD (c : Ctx T call n I X) {i : Nat} {x : Str} {p p1 pos : Pos} {a : Expr} {k1 k2 : Nat} {q1 q2 : Pos} {m : M KD} (hi : I.N[i]? = some x) (hx : locB I.sc x = true) (ht : I.tgt x = true) (hs : notStar a = true) (ha : PE X a (tE B m)) :
    PS X (.Assign [.Name x p] (.List [a, .Constant (.int 0) k1 q1, .Constant (.int 0) k2 q2] p1) pos) (tS B (bnd m (tapeM i))) := by
  refine PS.weak (ps_set c.nd (by rw [c.N]; exact hi) (by rw [c.sc]; exact loc_of hx) (pe_lst (pa_cons ha (pa_cons pe_int (pa_cons pe_int pa_nil rfl) rfl) (star_of hs))) rfl (c.fn x ht)) fun D σ H h => ?_
  refine tS_E h fun kd ρ S v ι H1 O R rk q => ?_
  refine ⟨by show 3 ≤ sizeLine; decide, fun P hP => ?_⟩
  unfold tapeM at q
  split at q
  · rename_i ds
    split at q
    · rename_i hz
      rw [Bool.and_eq_true, decide_eq_true_eq] at hz
      obtain ⟨b, rfl, ho, h0, nc, ⟨vs, e, r⟩, hs, hp⟩ := rk
      have R' := R.drop nc h0 hs hp
      have eq := ints_back hz.1
      rw [eq] at r
      obtain rfl := r.ints_inv
      obtain ⟨R2, k2⟩ := R'.newCell hP e (fun z => z.2 rfl) h0 hz.2
      exact q _ _ _ _ ((Keep.sub fun a h => h.1).trans k2) R2
    · exact q.elim
  · exact q.elim
/-! ### loops -/
theorem forLoop_cons {step : D → M Fl} {ds : List D} {i : Nat} {d : D} (h : ds[i]? = some d) (ρ : Rho) (S : Store) :
    forLoop step (ds.drop i) ρ S = match step d ρ S with
      | .ok .next ρ' S' => forLoop step (ds.drop (i + 1)) ρ' S'
      | .ok .cont ρ' S' => forLoop step (ds.drop (i + 1)) ρ' S'
      | .ok .brk ρ' S' => .ok .next ρ' S'
      | .ok (.ret kd) ρ' S' => .ok (.ret kd) ρ' S'
      | .stuck => .stuck := by
  obtain ⟨hi, rfl⟩ := List.getElem?_eq_some_iff.mp h
  rw [List.drop_eq_getElem_cons hi]
  show bnd (step ds[i]) _ ρ S = _
  unfold bnd
  cases step ds[i] ρ S with
  | stuck => rfl
  | ok f ρ' S' => cases f <;> rfl
theorem never_pass (c : Ctx T call n I X) : PassesOwn (model X.prog X.w) X.A X.env X.xe := by
  rw [c.nev]; exact PassesOwn.never
theorem ps_forD (c : Ctx T call n I X) (hK : X.K = B.K) {tg : Tg} {t e : Expr} {x : List Stmt} {pos : Pos} {src : M (List D)} {b : M Fl} (ht : chkTg I tg t = true) (hi : PI X t e (tI B src)) (hb : PSs X x (tS B b)) (hs : ∀ x, foldedSetIterable e X.env x = pure x) :
    PS X (.For t e x [] pos) (tS B (bnd src fun ds => forLoop (fun d => bnd (setTg tg d) fun _ => b) ds)) := by
  refine PS.weak (ps_for (never_pass c) c.calm hi ((pg_all (B := B) c.calm c.fn hK c.N c.nd c.sc tg).1 _ ht) hb hs) fun D σ H h => ?_
  obtain ⟨ρ, S, ι, O, R, h⟩ := h
  refine ⟨ρ, S, ι, O, R, ?_⟩
  simp only [bnd] at h
  cases q : src ρ S with
  | stuck => rw [q] at h; exact h
  | ok ds ρ1 S1 =>
    rw [q] at h; dsimp only at h
    intro J ι1 H1 O1 G s1 R1 it g1
    let step : IL.D → M Fl := fun d => bnd (setTg tg d) fun _ => b
    let W : Nat → Nat → L2.St → Hp → Prop := fun i m σ' H' => m = ds.length - i ∧ i ≤ ds.length ∧ ∃ ρi Si ιi Oi, Rel B ρi Si σ' ιi H' Oi ∧ G ιi H' Oi ∧ FinS B D ιi H' Oi (forLoop step (ds.drop i) ρi Si)
    refine ⟨W, ⟨ds.length, rfl, Nat.zero_le _, ρ1, S1, ι1, O1, R1, g1, FinS.keep s1.k h⟩, ?_⟩
    rintro i m σ' H' ⟨rfl, hi, ρi, Si, ιi, Oi, Ri, gi, hf⟩
    by_cases hlast : i = ds.length
    · left
      subst hlast
      rw [List.drop_length] at hf
      exact ⟨it.stop _ _ _ gi, hf σ' ιi H' Oi .refl Ri⟩
    · right
      have hi' : i < ds.length := by omega
      obtain ⟨d, hd⟩ : ∃ d, ds[i]? = some d := ⟨_, List.getElem?_eq_getElem hi'⟩
      refine ⟨it.go i _ _ _ gi hi', fun σ2 H2 => W (i + 1) (ds.length - (i + 1)) σ2 H2, fun σ2 H2 w => ⟨_, by omega, w⟩, fun x H2 hy => ?_⟩
      obtain ⟨s2, R2, rx⟩ := it.yld i d x _ _ _ _ _ _ H2 hd Ri gi hy
      rw [forLoop_cons hd] at hf
      have hst : step d ρi Si = match setTgs tg [d] ρi with
        | some ρ2 => b ρ2 Si
        | none => .stuck := by
        show bnd (setTg tg d) (fun _ => b) ρi Si = _
        unfold bnd setTg
        cases setTgs tg [d] ρi <;> rfl
      rw [hst] at hf
      cases qs : setTgs tg [d] ρi with
      | none => rw [qs] at hf; exact hf.elim
      | some ρ2 =>
      rw [qs] at hf; dsimp only at hf
      refine ⟨ρi, Si, ιi, Oi, d, ρ2, R2, rx, qs, fun σ2 so2 R3 => ⟨ρ2, Si, ιi, Oi, R3, ?_⟩⟩
      have hf := FinS.keep s2.k hf
      have g2 := it.keep _ _ _ _ _ _ s2.k gi
      cases qb : b ρ2 Si with
      | stuck => rw [qb] at hf; exact hf.elim
      | ok f ρ3 S3 =>
        rw [qb] at hf
        cases f with
        | next => exact fun σ4 ι4 H4 O4 k4 R4 => ⟨rfl, by omega, ρ3, S3, ι4, O4, R4, it.keep _ _ _ _ _ _ k4 g2, hf.keep k4⟩
        | cont => exact fun σ4 ι4 H4 O4 k4 R4 => ⟨rfl, by omega, ρ3, S3, ι4, O4, R4, it.keep _ _ _ _ _ _ k4 g2, hf.keep k4⟩
        | brk => exact hf
        | ret kd => exact hf
theorem ps_whlD (c : Ctx T call n I X) {t : Expr} {x : List Stmt} {pos : Pos} {mc : M KD} {b : M Fl} (N : Nat) (hc : PT X t (tT B (pek mc))) (hb : PSs X x (tS B b)) : PS X (.While t x [] pos) (tS B (whileLoop mc b N)) := by
  refine PS.weak (ps_while (never_pass c) hc hb) fun D σ H h => ?_
  refine ⟨fun m σ' H' => tS B (whileLoop mc b m) D σ' H', ⟨N, h⟩, fun m σ' H' h => ?_⟩
  cases m with
  | zero =>
    obtain ⟨ρ, S, ι, O, R, h⟩ := h
    exact h.elim
  | succ m =>
    refine tT_mono (tS_tst h) fun k H1 h => ?_
    cases k with
    | true =>
      rw [if_pos rfl] at h ⊢
      refine ⟨fun σ2 H2 => tS B (whileLoop mc b m) D σ2 H2, fun σ2 H2 w => ⟨m, Nat.lt_succ_self m, w⟩, ?_⟩
      obtain ⟨ρ, S, ι, O, R, h⟩ := h
      refine ⟨ρ, S, ι, O, R, ?_⟩
      simp only [bnd] at h
      cases q : b ρ S with
      | stuck => rw [q] at h; exact h
      | ok f ρ' S' =>
        rw [q] at h; dsimp only at h
        cases f with
        | next => exact fun σ' ι' H' O' k R' => ⟨ρ', S', ι', O', R', h.keep k⟩
        | cont => exact fun σ' ι' H' O' k R' => ⟨ρ', S', ι', O', R', h.keep k⟩
        | brk => exact h
        | ret kd => exact h
    | false =>
      rw [if_neg Bool.false_ne_true] at h ⊢
      obtain ⟨ρ, S, ι, O, R, h⟩ := h
      exact h σ' ι H1 O .refl R
end
end IL

/-! IL18: statements as a whole; defs; a program. -/
namespace IL
open PySem PySem.Spec PyProof.Rows L2
section
variable {T : Tab} {call : Fn} {n : Nat}
structure SoundS (T : Tab) (call : Fn) (n : Nat) (ir : IS) (I : Inf) (X : Cx) (B : Bs) : Prop where
  s : ∀ st, chkI T ir I st = true → PS X st (tS B (evI call ir))
  b : ∀ sts, chkB T ir I sts = true → PSs X sts (tS B (evI call ir))
theorem set_of {T : Tab} {it : IE} {I : Inf} {iter : Expr} (h1 : chkS T it I iter = true) (env : PySem.Env) : ∀ x, foldedSetIterable iter env x = pure x := fun x => by
  cases iter <;> first | rfl | (exfalso; revert h1; cases it <;> simp [chkS, notSet])
theorem sound_s : ∀ (ir : IS) (I : Inf) (X : Cx) (B : Bs), Ctx T call n I X → X.K = B.K → SoundS T call n ir I X B := by
  intro ir
  induction ir with
  | nil =>
    intro I X B c hK
    refine ⟨fun st h => (by simp [chkI] at h), fun sts h => ?_⟩
    simp only [chkB, List.isEmpty_iff] at h; subst h
    exact pss_nilD
  | cons a b iha ihb =>
    intro I X B c hK
    refine ⟨fun st h => (by simp [chkI] at h), fun sts h => ?_⟩
    cases sts with
    | nil => simp [chkB] at h
    | cons st sts =>
      simp only [chkB, Bool.and_eq_true] at h
      exact pss_consD ((iha I X B c hK).s _ h.1) ((ihb I X B c hK).b _ h.2)
  | asg i e own =>
    intro I X B c hK
    refine ⟨fun st h => ?_, fun sts h => (by simp [chkB] at h)⟩
    simp only [chkI] at h
    split at h
    · rename_i x p v pos
      simp only [Bool.and_eq_true, decide_eq_true_eq, Bool.or_eq_true, Bool.not_eq_true'] at h
      obtain ⟨⟨⟨⟨h1, h2⟩, h3⟩, h4⟩, h5⟩ := h
      cases hb : swapB I x p v with
      | false => exact ps_asgD c h1 h2 h3 ((sound_e e I X B c hK).e _ h4) (swap_no c hb)
      | true =>
        cases v <;> first | (simp [swapB] at hb; done) | skip
        · rename_i elt gens scope p2
          cases e <;> first | (simp [chk] at h4; done) | skip
          rename_i ow tg it co z
          have h4' := h4
          simp only [chk] at h4
          split at h4
          · rename_i heq; cases heq
            exact ps_setLcD c hK h1 hb h4'
          · cases h4
        · cases e <;> (simp [chk] at h4)
        · cases e <;> (simp [chk] at h4)
    · cases h
  | asgT tg e =>
    intro I X B c hK
    refine ⟨fun st h => ?_, fun sts h => (by simp [chkB] at h)⟩
    simp only [chkI] at h
    split at h
    · simp only [Bool.and_eq_true] at h
      exact ps_asgTD c hK h.1.1.1 h.1.1.2 h.1.2 ((sound_e e I X B c hK).e _ h.2)
    · cases h
  | tape i e =>
    intro I X B c hK
    refine ⟨fun st h => ?_, fun sts h => (by simp [chkB] at h)⟩
    simp only [chkI] at h
    split at h
    · simp only [Bool.and_eq_true, decide_eq_true_eq] at h
      exact ps_tapeD c h.1.1.1.1 h.1.1.1.2 h.1.1.2 h.1.2 ((sound_e e I X B c hK).e _ h.2)
    · cases h
  | setI o i v =>
    intro I X B c hK
    refine ⟨fun st h => ?_, fun sts h => (by simp [chkB] at h)⟩
    simp only [chkI] at h
    split at h
    · simp only [Bool.and_eq_true] at h
      exact ps_setID c.room.units h.1.1.1 ((sound_e v I X B c hK).e _ h.1.1.2) ((sound_e o I X B c hK).e _ h.1.2) ((sound_e i I X B c hK).e _ h.2)
    · cases h
  | mt m i as =>
    intro I X B c hK
    refine ⟨fun st h => ?_, fun sts h => (by simp [chkB] at h)⟩
    simp only [chkI] at h
    split at h
    · rename_i x xp f ap es p pos
      simp only [Bool.and_eq_true, decide_eq_true_eq] at h
      obtain ⟨⟨⟨⟨h1, h2⟩, h3⟩, h4⟩, h5⟩ := h
      obtain ⟨h6, _, _, h7⟩ := (sound_e as I X B c hK).l _ h5
      refine ps_mutD c hK h1 h2 h3 ((sound_e (.var i) I X B c hK).e _ h4) h6 h7 fun z => ?_
      subst z
      cases as <;> first | rfl | (simp [chkL] at h5)
    · cases h
  | ret e =>
    intro I X B c hK
    refine ⟨fun st h => ?_, fun sts h => (by simp [chkB] at h)⟩
    simp only [chkI] at h
    split at h
    · exact ps_retD ((sound_e e I X B c hK).e _ h)
    · cases h
  | retN =>
    intro I X B c hK
    refine ⟨fun st h => ?_, fun sts h => (by simp [chkB] at h)⟩
    simp only [chkI] at h
    split at h
    · exact ps_retND
    · cases h
  | iff e a b iha ihb =>
    intro I X B c hK
    refine ⟨fun st h => ?_, fun sts h => (by simp [chkB] at h)⟩
    simp only [chkI] at h
    split at h
    · simp only [Bool.and_eq_true] at h
      exact ps_iffD ((sound_e e I X B c hK).t _ h.1.1.2 h.1.1.1) ((iha I X B c hK).b _ h.1.2) ((ihb I X B c hK).b _ h.2)
    · cases h
  | fors tg it b ih =>
    intro I X B c hK
    refine ⟨fun st h => ?_, fun sts h => (by simp [chkB] at h)⟩
    simp only [chkI] at h
    split at h
    · simp only [Bool.and_eq_true] at h
      exact ps_forD c hK h.1.1 ((sound_e it I X B c hK).s _ _ h.1.2) ((ih I X B c hK).b _ h.2) (set_of h.1.2 X.env)
    · cases h
  | whl e b ih =>
    intro I X B c hK
    refine ⟨fun st h => ?_, fun sts h => (by simp [chkB] at h)⟩
    simp only [chkI] at h
    split at h
    · simp only [Bool.and_eq_true] at h
      exact ps_whlD c turnsMost ((sound_e e I X B c hK).t _ h.1.2 h.1.1) ((ih I X B c hK).b _ h.2)
    · cases h
  | exp e =>
    intro I X B c hK
    refine ⟨fun st h => ?_, fun sts h => (by simp [chkB] at h)⟩
    simp only [chkI] at h
    split at h
    · simp only [Bool.and_eq_true] at h
      exact ps_expD ((sound_e e I X B c hK).e _ h.2) h.1
    · cases h
  | pass =>
    intro I X B c hK
    refine ⟨fun st h => ?_, fun sts h => (by simp [chkB] at h)⟩
    simp only [chkI] at h
    split at h
    · exact ps_passD
    · cases h
  | brk =>
    intro I X B c hK
    refine ⟨fun st h => ?_, fun sts h => (by simp [chkB] at h)⟩
    simp only [chkI] at h
    split at h
    · exact ps_brkD
    · cases h
  | cont =>
    intro I X B c hK
    refine ⟨fun st h => ?_, fun sts h => (by simp [chkB] at h)⟩
    simp only [chkI] at h
    split at h
    · exact ps_contD
    · cases h
  | never => exact fun I X B c hK => ⟨fun st h => ps_neverD, fun sts h => pss_neverD⟩
end
/-! ### defs -/
structure FD where
  np : Nat
  nl : Nat
  body : IS
def runDef (call : Fn) (fd : FD) (ds : List D) (S : Store) : Option (KD × Store) :=
  if ds.length = fd.np then (match evI call fd.body (ds.map (fun d => some (.dat d)) ++ List.replicate (fd.nl - fd.np) none) S with
    | .ok (.ret kd) _ S' => some (kd, S')
    | .ok .next _ S' => some ((.dat, .non), S')
    | _ => none) else none
def fam (fds : List FD) : Nat → Fn
  | 0, _, _, _ => none
  | n + 1, f, ds, S => match fds[f]? with
    | some fd => runDef (fam fds n) fd ds S
    | none => none
/-- what of a def is looked at -/
structure Rec where
  name : Str
  st : Stmt
  N : List Str
  fd : FD
def Rec.ps (r : Rec) : List Str := r.N.take r.fd.np
/-- by computation: the def's tree is the written one -/
def Rec.ok (T : Tab) (r : Rec) : Bool := chkB T r.fd.body ⟨r.N, defScope r.st, none⟩ (defBody r.st) && decide (r.N.length = r.fd.nl) && decide (r.fd.np ≤ r.fd.nl)
theorem RVs.slots {K : PySem.W.Frag} {ι : Cad} {H : Hp} {O : Own} : ∀ {vs : List V} {ds : List D} {k : Nat} {i : Nat} {d : D}, RVs K ι H O vs ds → (ds.map (fun d => some (Slot.dat d)) ++ List.replicate k none)[i]? = some (some (.dat d)) → ∃ v, (vs.map some ++ List.replicate k none)[i]? = some (some v) ∧ RV K ι H O v d
  | _, _, k, i, d, .nil, h => by
    rw [List.map_nil, List.nil_append] at h
    by_cases hi : i < k
    · rw [List.getElem?_replicate, if_pos hi] at h; cases h
    · rw [List.getElem?_replicate, if_neg hi] at h; cases h
  | _, _, k, 0, d, .cons r _, h => by
    simp at h; subst h
    exact ⟨_, by simp, r⟩
  | _, _, k, i + 1, d, .cons _ t, h => by
    obtain ⟨v, h1, h2⟩ := RVs.slots (i := i) t (by simpa using h)
    exact ⟨v, by simpa using h1, h2⟩
theorem no_own {ds : List D} {k i : Nat} {d : D} : (ds.map (fun d => some (Slot.dat d)) ++ List.replicate k none)[i]? ≠ some (some (.own d)) := by
  intro h
  by_cases hi : i < ds.length
  · rw [List.getElem?_append_left (by rw [List.length_map]; exact hi), List.getElem?_map] at h
    cases q : ds[i]? with
    | none => rw [q] at h; cases h
    | some e => rw [q] at h; cases h
  · rw [List.getElem?_append_right (by rw [List.length_map]; omega), List.getElem?_replicate] at h
    split at h <;> cases h
/-- THE RULE of a def: its promise one level up -/
theorem def_ok {P : Program} {w : World} {K : PySem.W.Frag} {mg : Str → Option Value} {base : Heap} {T : Tab} {call : Fn} {n : Nat} {r : Rec} {f : Nat} {call' : Fn} {a : Addr} {fdt : FuncData} {qual : Str}
    (F : Fun K r.name qual r.st a fdt) (S : FnScope r.N r.ps (defScope r.st)) (hr : r.ok T = true) (hc : ∀ ds S, call' f ds S = runDef call r.fd ds S)
    (G : ∀ X : Cx, X.prog = P → X.w = w → X.K = K → X.mg = mg → X.base = base → Glob T call n X) :
    FnOk P w K mg base CX0 (n + 1) a fdt r.ps (spF K call' f) := by
  simp only [Rec.ok, Bool.and_eq_true, decide_eq_true_eq] at hr
  obtain ⟨⟨hr, hN⟩, hnp⟩ := hr
  have hps : r.ps.length = r.fd.np := by unfold Rec.ps; rw [List.length_take, hN]; omega
  refine F.ok S (fun vs H Q E h => ?_) (fun cdv A outer s H vs Q E hrm h => ?_)
  · obtain ⟨ds, S', ι, O, rv, so, h⟩ := h
    rw [hc] at h
    unfold runDef at h
    by_cases hl : ds.length = r.fd.np
    · rw [rv.length, hl, hps]
    · rw [if_neg hl] at h; exact h.elim
  · obtain ⟨ds, S', ι, O, rv, so, h⟩ := h
    rw [hc] at h
    unfold runDef at h
    by_cases hl : ds.length = r.fd.np
    case neg => rw [if_neg hl] at h; exact h.elim
    rw [if_pos hl] at h
    let X : Cx := (cxOf CX0 P w K mg base r.N qual (defScope r.st) a cdv A outer s H E).nox
    have c : Ctx T call n ⟨r.N, defScope r.st, none⟩ X := {
      g := G X rfl rfl rfl rfl rfl
      calm := rfl
      N := rfl
      nd := S.nd
      sc := rfl
      room := hrm
      fn := fun x _ => .inl rfl
      nev := rfl
      kind := S.kind }
    let B : Bs := { K := K, H0 := H, O0 := O, ι0 := ι, P := O }
    refine ⟨_, (sound_s r.fd.body _ X B c rfl).b _ hr, ?_⟩
    have hst : L2.start r.N vs = vs.map some ++ List.replicate (r.fd.nl - r.fd.np) none := by
      unfold L2.start; rw [hN, rv.length, hl]
    rw [hst]
    have R : Rel B (ds.map (fun d => some (.dat d)) ++ List.replicate (r.fd.nl - r.fd.np) none) S' (vs.map some ++ List.replicate (r.fd.nl - r.fd.np) none) ι H O := {
      dat := fun i d e => rv.slots e
      own := fun i d e => absurd e no_own
      sep := fun i j d e a _ q => absurd q no_own
      oh := so.oh
      stp := .refl
      cl := so.cl
      cells := so.cells
      co := so.co
      cd := so.cd
      len := by simp [rv.length]
      pin := fun a h => h
      ownP := fun i d a q => absurd q no_own }
    refine ⟨_, _, _, _, R, ?_⟩
    cases q : evI call r.fd.body (ds.map (fun d => some (.dat d)) ++ List.replicate (r.fd.nl - r.fd.np) none) S' with
    | stuck => rw [q] at h; exact h.elim
    | ok fl ρ' S2 =>
      rw [q] at h
      cases fl with
      | next => exact fun σ' ι' H' O' k R' => h .non ι' H' O' R'.stp R'.pin R'.so .non
      | brk => exact h.elim
      | cont => exact h.elim
      | ret kd => exact fun v ι' H' O' s2 hp so' rf => h v ι' H' O' s2 hp so' rf
theorem FnOk.zero {P : Program} {w : World} {K : PySem.W.Frag} {mg : Str → Option Value} {base : Heap} {a : Addr} {fdt : FuncData} {ps : List Str} {fds : List FD} {f : Nat} : FnOk P w K mg base CX0 0 a fdt ps (spF K (fam fds 0) f) :=
  ⟨fun vs H Q E h => (by obtain ⟨_, _, _, _, _, _, h⟩ := h; exact h.elim), fun A outer s H args us vs Q E _ _ _ _ h => (by obtain ⟨_, _, _, _, _, _, h⟩ := h; exact h.elim)⟩
theorem lookup_mem {β : Type} : ∀ {l : List (Str × β)} {x : Str} {b : β}, l.lookup x = some b → (x, b) ∈ l
  | [], _, _, h => by simp at h
  | (y, c) :: l, x, b, h => by
    rw [List.lookup_cons] at h
    split at h
    · rename_i e
      cases h
      rw [eq_of_beq e]
      exact List.mem_cons_self
    · exact List.mem_cons_of_mem _ (lookup_mem h)
theorem contains_mem {l : List Str} {x : Str} (h : l.contains x = true) : x ∈ l := List.contains_iff_mem.mp h
/-- what the top has left of a def -/
structure Left (K : PySem.W.Frag) (r : Rec) (a : Addr) : Prop where
  fn : ∃ fdt, Fun K r.name r.name r.st a fdt ∧ Binds K fdt r.ps []
  kp : PySem.W.keepIn K (.ref a) = true
structure Prog (K : PySem.W.Frag) (mg : Str → Option Value) (T : Tab) (rs : List Rec) : Prop where
  sc : ∀ r ∈ rs, FnScope r.N r.ps (defScope r.st)
  ok : ∀ r ∈ rs, r.ok T = true
  tab : ∀ x f, T.fns.lookup x = some f → ∃ r a, rs[f]? = some r ∧ mg x = some (.ref a) ∧ Left K r a
  const : ∀ x c, T.consts.lookup x = some c → ∃ u, mg x = some u ∧ RelV c.v u
  blt : ∀ x, T.blt.contains x = true → mg x = none
theorem prog_glob {P : Program} {w : World} {K : PySem.W.Frag} {mg : Str → Option Value} {base : Heap} {T : Tab} {rs : List Rec} (p : Prog K mg T rs) : ∀ n : Nat, ∀ X : Cx, X.prog = P → X.w = w → X.K = K → X.mg = mg → X.base = base → Glob T (fam (rs.map fun r : Rec => r.fd) n) n X := by
  intro n
  induction n with
  | zero =>
    rintro X rfl rfl rfl rfl rfl
    refine ⟨fun x f h => ?_, p.const, p.blt⟩
    obtain ⟨r, a, hr, hm, l⟩ := p.tab x f h
    obtain ⟨fdt, F, b⟩ := l.fn
    exact ⟨a, fdt, r.ps, hm, FnOk.zero, l.kp, b⟩
  | succ n ih =>
    rintro X rfl rfl rfl rfl rfl
    refine ⟨fun x f h => ?_, p.const, p.blt⟩
    obtain ⟨r, a, hr, hm, l⟩ := p.tab x f h
    have hmem := List.mem_of_getElem? hr
    obtain ⟨fdt, F, b⟩ := l.fn
    refine ⟨a, fdt, r.ps, hm, def_ok F (p.sc r hmem) (p.ok r hmem) (fun ds S => ?_) ih, l.kp, b⟩
    show (match (rs.map fun r : Rec => r.fd)[f]? with | some fd => runDef (fam (rs.map fun r : Rec => r.fd) n) fd ds S | none => none) = _
    rw [List.getElem?_map, hr]; rfl
/-- the law itself: its promise, from the evaluator's answer -/
theorem law_fn {P : Program} {w : World} {K : PySem.W.Frag} {mg : Str → Option Value} {base : Heap} {T : Tab} {rs : List Rec} (p : Prog K mg T rs) {n f : Nat} {r : Rec} {fa : Addr} {fdt : FuncData} (hr : rs[f]? = some r) (F : Fun K r.name r.name r.st fa fdt) :
    FnOk P w K mg base CX0 (n + 1) fa fdt r.ps (spF K (fam (rs.map fun r : Rec => r.fd) (n + 1)) f) :=
  def_ok F (p.sc r (List.mem_of_getElem? hr)) (p.ok r (List.mem_of_getElem? hr)) (fun ds S => by
    show (match (rs.map fun r : Rec => r.fd)[f]? with | some fd => runDef (fam (rs.map fun r : Rec => r.fd) n) fd ds S | none => none) = _
    rw [List.getElem?_map, hr]; rfl) (prog_glob p n)
theorem law_sp {K : PySem.W.Frag} {call : Fn} {f : Nat} {H : Hp} {a : Addr} {ns : List Int} {E : XK} (h : ∃ S', call f [.scr ns] [] = some ((.dat, .bl true), S')) (hS : SqL K H a (ns.map V.int)) : spF K call f [.ref a] H (fun v _ => v = .bl true) E := by
  obtain ⟨S', h⟩ := h
  refine ⟨[.scr ns], [], [], fun _ => False, .cons (.scr ?_) .nil, ⟨(fun _ h => h.elim), rfl, (fun k c p e _ => by simp at e), (fun p h => nomatch h), (fun k l p q e _ _ => by simp at e)⟩, ?_⟩
  · rcases hS with hS | hS
    · exact .inl ⟨hS, id⟩
    · exact .inr hS
  · rw [h]
    intro v ι' H' O' _ _ _ rv
    cases rv; rfl
end IL

/-! IL19: what a run of the evaluator must show: rules. -/
namespace IL
open PySem

def wp0 {α : Type} (m : M α) (ρ : Rho) (S : Store) (Q : α → Rho → Store → Prop) : Prop := match m ρ S with
  | .ok a ρ' S' => Q a ρ' S'
  | .stuck => False
structure wp {α : Type} (m : M α) (ρ : Rho) (S : Store) (Q : α → Rho → Store → Prop) : Prop where
  run : wp0 m ρ S Q
theorem wp_eq {α : Type} {m : M α} {ρ : Rho} {S : Store} {Q : α → Rho → Store → Prop} : wp m ρ S Q = wp0 m ρ S Q := propext ⟨fun h => h.run, fun h => ⟨h⟩⟩
def onO {α : Type} (o : Option α) (P : α → Prop) : Prop := match o with
  | some a => P a
  | none => False
def brB (d : D) (P Q : Prop) : Prop := match d with
  | .bl true => P
  | .bl false => Q
  | _ => False
/-- plain data of at most N parts a level, k levels deep -/
def Fit (N : Nat) : Nat → D → Prop
  | _, .non => True
  | _, .bl _ => True
  | _, .int _ => True
  | _, .str s => s.length ≤ N ∧ PyData.strOk s = true
  | k + 1, .tup ds => ds.length ≤ N ∧ ∀ d ∈ ds, Fit N k d
  | k + 1, .lst ds => ds.length ≤ N ∧ ∀ d ∈ ds, Fit N k d
  | _, _ => False
theorem Fit.non {N k : Nat} : Fit N k .non := by cases k <;> exact trivial
theorem Fit.bl {N k : Nat} {b : Bool} : Fit N k (.bl b) := by cases k <;> exact trivial
theorem Fit.int {N k : Nat} {i : Int} : Fit N k (.int i) := by cases k <;> exact trivial
theorem Fit.str {N k : Nat} {s : Str} (h : s.length ≤ N ∧ PyData.strOk s = true) : Fit N k (.str s) := by cases k <;> exact h
theorem Fit.mono {N N' : Nat} (hN : N ≤ N') : ∀ {k k' : Nat} {d : D}, k ≤ k' → Fit N k d → Fit N' k' d
  | _, _, .non, _, _ => Fit.non
  | _, _, .bl _, _, _ => Fit.bl
  | _, _, .int _, _, _ => Fit.int
  | k, _, .str s, _, h => by
    have h' : s.length ≤ N ∧ PyData.strOk s = true := by cases k <;> exact h
    exact Fit.str ⟨Nat.le_trans h'.1 hN, h'.2⟩
  | k + 1, k' + 1, .tup ds, hk, h => ⟨Nat.le_trans h.1 hN, fun d hd => Fit.mono hN (Nat.le_of_succ_le_succ hk) (h.2 d hd)⟩
  | k + 1, k' + 1, .lst ds, hk, h => ⟨Nat.le_trans h.1 hN, fun d hd => Fit.mono hN (Nat.le_of_succ_le_succ hk) (h.2 d hd)⟩
  | k + 1, 0, .tup ds, hk, h => absurd hk (by omega)
  | k + 1, 0, .lst ds, hk, h => absurd hk (by omega)
  | 0, _, .tup _, _, h => h.elim
  | 0, _, .lst _, _, h => h.elim
  | 0, _, .dk _ _, _, h => h.elim
  | 0, _, .dt _ _, _, h => h.elim
  | 0, _, .cell _, _, h => h.elim
  | 0, _, .scr _, _, h => h.elim
  | _ + 1, _, .dk _ _, _, h => h.elim
  | _ + 1, _, .dt _ _, _, h => h.elim
  | _ + 1, _, .cell _, _, h => h.elim
  | _ + 1, _, .scr _, _, h => h.elim
theorem cutS_two (z : Str) {r : Int} (h0 : 0 ≤ r) (h1 : r ≤ z.length) : (L2.cutS z none (some r)).length + (L2.cutS z (some r) none).length = z.length := by
  obtain ⟨k, rfl⟩ := Int.eq_ofNat_of_zero_le h0
  show (((z.cps.toList.drop (HT.sIx z.length 0 none)).take (HT.sIx z.length z.length (some (k : Int)) - HT.sIx z.length 0 none)).toArray).size + (((z.cps.toList.drop (HT.sIx z.length 0 (some (k : Int)))).take (HT.sIx z.length z.length none - HT.sIx z.length 0 (some (k : Int)))).toArray).size = z.cps.size
  rw [HT.sIx_nat, HT.sIx_nat, HT.sIx_none, HT.sIx_none, List.size_toArray, List.size_toArray, List.length_take, List.length_take, List.length_drop, List.length_drop, Array.length_toList]
  have : z.length = z.cps.size := rfl
  omega
def isW : D → Bool
  | .int _ => true
  | _ => false
theorem strOk_iff {s : Str} : PyData.strOk s = true ↔ ∀ c ∈ s.cps.toList, c < 0x110000 := by
  unfold PyData.strOk
  rw [Array.all_eq_true']
  simp
theorem strOk_app {a b : Str} (ha : PyData.strOk a = true) (hb : PyData.strOk b = true) : PyData.strOk (a ++ b) = true := by
  rw [strOk_iff] at ha hb ⊢
  intro c hc
  have e : (a ++ b).cps.toList = a.cps.toList ++ b.cps.toList := by
    show (a.cps ++ b.cps).toList = _
    simp
  rw [e] at hc
  rcases List.mem_append.mp hc with h | h
  · exact ha c h
  · exact hb c h
theorem strOk_cut {a : Str} {lo hi : Option Int} (ha : PyData.strOk a = true) : PyData.strOk (L2.cutS a lo hi) = true := by
  rw [strOk_iff] at ha ⊢
  intro c hc
  exact ha c (List.mem_of_mem_drop (List.mem_of_mem_take hc))
mutual
theorem Fit.py {N : Nat} : ∀ (k : Nat) (d : D), Fit N k d → ∃ p, D.py d = some p ∧ p.canLay0 = true ∧ p.depth ≤ k
  | k, .non, _ => ⟨.none, by simp only [D.py], by simp only [PyData.canLay0], by simp only [PyData.depth]; omega⟩
  | k, .bl b, _ => ⟨.bool b, by simp only [D.py], by simp only [PyData.canLay0], by simp only [PyData.depth]; omega⟩
  | k, .int b, _ => ⟨.int b, by simp only [D.py], by simp only [PyData.canLay0], by simp only [PyData.depth]; omega⟩
  | k, .str s, h => by
    have h' : s.length ≤ N ∧ PyData.strOk s = true := by cases k <;> exact h
    exact ⟨.str s, by simp only [D.py], by simp only [PyData.canLay0]; exact h'.2, by simp only [PyData.depth]; omega⟩
  | k + 1, .tup ds, h => by
    obtain ⟨ps, h1, h2, h3, _⟩ := Fit.pyAll k ds h.2
    exact ⟨.tuple ps, by simp only [D.py, h1, Option.map_some], by simp only [PyData.canLay0]; exact h2, by simp only [PyData.depth]; omega⟩
  | k + 1, .lst ds, h => by
    obtain ⟨ps, h1, h2, h3, _⟩ := Fit.pyAll k ds h.2
    exact ⟨.list ps, by simp only [D.py, h1, Option.map_some], by simp only [PyData.canLay0]; exact h2, by simp only [PyData.depth]; omega⟩
  | 0, .tup _, h => h.elim
  | 0, .lst _, h => h.elim
  | 0, .dk _ _, h => h.elim
  | 0, .dt _ _, h => h.elim
  | 0, .cell _, h => h.elim
  | 0, .scr _, h => h.elim
  | _ + 1, .dk _ _, h => h.elim
  | _ + 1, .dt _ _, h => h.elim
  | _ + 1, .cell _, h => h.elim
  | _ + 1, .scr _, h => h.elim
theorem Fit.pyAll {N : Nat} : ∀ (k : Nat) (ds : List D), (∀ d ∈ ds, Fit N k d) → ∃ ps, D.pyAll ds = some ps ∧ PyData.canLayAll0 ps = true ∧ PyData.depthAll ps ≤ k ∧ ps.isEmpty = ds.isEmpty
  | k, [], _ => ⟨[], by simp only [D.pyAll], by simp only [PyData.canLayAll0], by simp only [PyData.depthAll]; omega, rfl⟩
  | k, d :: ds, h => by
    obtain ⟨p, h1, h2, h3⟩ := Fit.py k d (h d (by simp))
    obtain ⟨ps, g1, g2, g3, _⟩ := Fit.pyAll k ds fun e he => h e (by simp [he])
    refine ⟨p :: ps, by simp only [D.pyAll, h1, g1], by simp only [PyData.canLayAll0, h2, g2, Bool.and_true], by simp only [PyData.depthAll]; omega, rfl⟩
end
theorem deep_nil {N k : Nat} {xs : List D} (hk : k ≤ 60) (h : ∀ x ∈ xs, Fit N k x) : eqB (.lst xs) (.lst []) = some xs.isEmpty := by
  obtain ⟨ps, h1, h2, h3, h4⟩ := Fit.pyAll k xs h
  unfold eqB
  rw [show flatEq (.lst xs) (.lst []) = none from rfl, Option.none_or]
  unfold deepEq
  have e1 : D.py (.lst xs) = some (.list ps) := by simp only [D.py, h1, Option.map_some]
  have e2 : D.py (.lst []) = some (.list []) := by simp only [D.py, D.pyAll, Option.map_some]
  have s1 : PySem.SeqAt.shaped (.list ps) = true := by
    unfold PySem.SeqAt.shaped; rw [Bool.and_eq_true, decide_eq_true_eq]
    exact ⟨by simp only [PyData.canLay0]; exact h2, by simp only [PyData.depth]; omega⟩
  have s2 : PySem.SeqAt.shaped (.list []) = true := by
    unfold PySem.SeqAt.shaped; rw [Bool.and_eq_true, decide_eq_true_eq]
    exact ⟨by simp only [PyData.canLay0, PyData.canLayAll0], by simp only [PyData.depth, PyData.depthAll]; omega⟩
  rw [e1, e2]
  dsimp only
  rw [s1, s2, Bool.and_true, if_pos rfl, ← h4]
  cases ps <;> simp [PyData.eqv, PyData.eqvAll]
theorem ne_nil {N k : Nat} {xs : List D} {P : KD → Prop} (hk : k ≤ 60) (h : ∀ x ∈ xs, Fit N k x) (q : P (.dat, .bl (!xs.isEmpty))) : onO (COp.ne.g (.lst xs) (.lst [])) P := by
  show onO (cNe (.lst xs) (.lst [])) P
  unfold cNe
  rw [deep_nil hk h]
  exact q
theorem eq_nil {N k : Nat} {xs : List D} {P : KD → Prop} (hk : k ≤ 60) (h : ∀ x ∈ xs, Fit N k x) (q : P (.dat, .bl xs.isEmpty)) : onO (COp.eq.g (.lst xs) (.lst [])) P := by
  show onO (cEq (.lst xs) (.lst [])) P
  unfold cEq
  rw [deep_nil hk h]
  exact q
theorem log2_small {m : Int} (h0 : 0 < m) (h : m < 10000000000000000000000000000000000000000) : m.natAbs.log2 < 9000 := by
  have h1 : m.natAbs ≠ 0 := by omega
  refine Nat.lt_of_lt_of_le ((Nat.log2_lt (k := 200) h1).mpr ?_) (by decide)
  have h2 : (2 : Nat) ^ 200 = 1606938044258990275541962092341162602522202993782792835301376 := by decide
  omega
def Nxt (I : Rho → Store → Prop) (f : Fl) (ρ : Rho) (S : Store) : Prop := f = .next ∧ I ρ S
/-- the run stands at these slots and this store -/
def At (ρ0 : Rho) (S0 : Store) (ρ : Rho) (S : Store) : Prop := ρ0 = ρ ∧ S0 = S
theorem at_mk {ρ : Rho} {S : Store} : At ρ S ρ S := ⟨rfl, rfl⟩
section
variable {α β : Type} {ρ : Rho} {S : Store}
theorem onO_some {a : α} {P : α → Prop} : onO (some a) P = P a := rfl
theorem onO_none {P : α → Prop} : onO none P = False := rfl
theorem onO_mono {o : Option α} {P Q : α → Prop} (h : onO o P) (k : ∀ a, P a → Q a) : onO o Q := by
  cases o with
  | none => exact h
  | some a => exact k a h
theorem onO_ite {c : Prop} [Decidable c] {a : α} {P : α → Prop} : onO (if c then some a else none) P = (c ∧ P a) := by
  by_cases h : c
  · rw [if_pos h]; exact propext ⟨fun p => ⟨h, p⟩, fun p => p.2⟩
  · rw [if_neg h]; exact propext ⟨fun p => p.elim, fun p => absurd p.1 h⟩
theorem onO_ite' {c : Prop} [Decidable c] {a b : Option α} {P : α → Prop} : onO (if c then a else b) P = ((c → onO a P) ∧ (¬ c → onO b P)) := by
  by_cases h : c
  · rw [if_pos h]; exact propext ⟨fun p => ⟨fun _ => p, fun z => absurd h z⟩, fun p => p.1 h⟩
  · rw [if_neg h]; exact propext ⟨fun p => ⟨fun z => absurd z h, fun _ => p⟩, fun p => p.2 h⟩
theorem onO_map {o : Option α} {f : α → β} {P : β → Prop} : onO (o.map f) P = onO o fun a => P (f a) := by cases o <;> rfl
theorem onO_ex {o : Option α} {P : α → Prop} (h : onO o P) : ∃ a, o = some a ∧ P a := by
  cases o with
  | none => exact h.elim
  | some a => exact ⟨a, rfl, h⟩
theorem brB_bl {b : Bool} {P Q : Prop} : brB (.bl b) P Q = ((b = true → P) ∧ (b = false → Q)) := by
  cases b <;> simp [brB]
theorem brB_t {P Q : Prop} : brB (.bl true) P Q = P := rfl
theorem brB_f {P Q : Prop} : brB (.bl false) P Q = Q := rfl
theorem brB_of {b : Bool} {P Q : Prop} (h1 : b = true → P) (h2 : b = false → Q) : brB (.bl b) P Q := by
  cases b
  · exact h2 rfl
  · exact h1 rfl
variable {m : M α} {f : α → M β} {Q : α → Rho → Store → Prop} {R : β → Rho → Store → Prop}
theorem wp_mono {Q' : α → Rho → Store → Prop} (h : wp m ρ S Q) (k : ∀ a ρ' S', Q a ρ' S' → Q' a ρ' S') : wp m ρ S Q' := by
  simp only [wp_eq] at h ⊢; unfold wp0 at h ⊢
  cases e : m ρ S with
  | stuck => rw [e] at h; exact h
  | ok a ρ' S' => rw [e] at h; exact k _ _ _ h
theorem wp_ex (h : wp m ρ S Q) : ∃ a ρ' S', m ρ S = .ok a ρ' S' ∧ Q a ρ' S' := by
  rw [wp_eq] at h; unfold wp0 at h
  cases e : m ρ S with
  | stuck => rw [e] at h; exact h.elim
  | ok a ρ' S' => rw [e] at h; exact ⟨_, _, _, rfl, h⟩
theorem wp_bnd : wp (bnd m f) ρ S R = wp m ρ S fun a ρ' S' => wp (f a) ρ' S' R := by
  simp only [wp_eq]; unfold wp0 bnd
  cases m ρ S <;> rfl
theorem wp_ret {a : α} : wp (ret a) ρ S Q = Q a ρ S := by rw [wp_eq]; rfl
theorem wp_lift {o : Option α} : wp (lift o) ρ S Q = onO o fun a => Q a ρ S := by rw [wp_eq]; cases o <;> rfl
theorem wp_stk : wp (stk : M α) ρ S Q = False := by rw [wp_eq]; rfl
theorem wp_ite {c : Prop} [Decidable c] {a b : M α} : wp (if c then a else b) ρ S Q = ((c → wp a ρ S Q) ∧ (¬ c → wp b ρ S Q)) := by
  by_cases h : c
  · rw [if_pos h]; exact propext ⟨fun p => ⟨fun _ => p, fun z => absurd h z⟩, fun p => p.1 h⟩
  · rw [if_neg h]; exact propext ⟨fun p => ⟨fun z => absurd z h, fun _ => p⟩, fun p => p.2 h⟩
theorem wp_ifS {c : Prop} [Decidable c] {a : M α} : wp (if c then a else stk) ρ S Q = (c ∧ wp a ρ S Q) := by
  by_cases h : c
  · rw [if_pos h]; exact propext ⟨fun p => ⟨h, p⟩, fun p => p.2⟩
  · rw [if_neg h, wp_stk]; exact propext ⟨fun p => p.elim, fun p => absurd p.1 h⟩
theorem wp_pek {m : M KD} {Q : D → Rho → Store → Prop} : wp (pek m) ρ S Q = wp m ρ S fun kd ρ' S' => Q kd.2 ρ' S' := by
  unfold pek; rw [wp_bnd]; simp only [wp_ret]
theorem wp_frz {m : M KD} {Q : D → Rho → Store → Prop} : wp (frz m) ρ S Q = wp m ρ S fun kd ρ' S' => Q kd.2 (fz kd.1 ρ') S' := by
  unfold frz; rw [wp_bnd]; simp only [wp_eq]; rfl
theorem wp_tst {c : M KD} {a b : M α} : wp (tst c a b) ρ S Q = wp c ρ S fun kd ρ' S' => brB kd.2 (wp a ρ' S' Q) (wp b ρ' S' Q) := by
  unfold tst; rw [wp_bnd, wp_pek]
  congr 1; funext kd ρ' S'
  obtain ⟨k, d⟩ := kd
  cases d <;> first | exact wp_stk | skip
  rename_i x; cases x <;> rfl
end
section
variable {call : Fn} {ρ : Rho} {S : Store} {Q : KD → Rho → Store → Prop}
def varP (o : Option (Option Slot)) (i : Nat) (P : KD → Prop) : Prop := match o with
  | some (some (.dat d)) => P (.dat, d)
  | some (some (.own d)) => P (.bor i, d)
  | _ => False
theorem varP_dat {i : Nat} {d : D} {P : KD → Prop} : varP (some (some (.dat d))) i P = P (.dat, d) := rfl
theorem varP_own {i : Nat} {d : D} {P : KD → Prop} : varP (some (some (.own d))) i P = P (.bor i, d) := rfl
theorem we_lit {c : Lit} : wp (evE call (.lit c)) ρ S Q = Q (.dat, c.d) ρ S := by rw [wp_eq]; unfold evE; rfl
theorem we_gl {x : Str} {c : Lit} : wp (evE call (.gl x c)) ρ S Q = Q (.dat, c.d) ρ S := by rw [wp_eq]; unfold evE; rfl
theorem we_var {i : Nat} : wp (evE call (.var i)) ρ S Q = varP ρ[i]? i fun kd => Q kd ρ S := by
  rw [wp_eq]; unfold evE wp0 varP
  dsimp only
  split <;> split <;> simp_all
theorem we_tup {as : IE} : wp (evE call (.tup as)) ρ S Q = wp (evL call as) ρ S fun ds ρ' S' => ds.length ≤ sizeLine ∧ Q (.dat, .tup ds) ρ' S' := by
  rw [show evE call (.tup as) = bnd (evL call as) (fun ds => if ds.length ≤ sizeLine then ret (.dat, .tup ds) else stk) from rfl]; rw [wp_bnd]; congr 1; funext ds ρ' S'; rw [wp_ifS, wp_ret]
theorem we_lst {as : IE} : wp (evE call (.lst as)) ρ S Q = wp (evL call as) ρ S fun ds ρ' S' => ds.length ≤ sizeLine ∧ Q (.fresh, .lst ds) ρ' S' := by
  rw [show evE call (.lst as) = bnd (evL call as) (fun ds => if ds.length ≤ sizeLine then ret (.fresh, .lst ds) else stk) from rfl]; rw [wp_bnd]; congr 1; funext ds ρ' S'; rw [wp_ifS, wp_ret]
theorem wp_m2 {f : D → D → Option KD} {a b : M KD} : wp (m2 f a b) ρ S Q = wp a ρ S fun x ρ1 S1 => wp b ρ1 S1 fun y ρ2 S2 => onO (f x.2 y.2) fun r => Q r ρ2 S2 := by
  unfold m2; rw [wp_bnd, wp_pek]; congr 1; funext x ρ1 S1; rw [wp_bnd, wp_pek]; congr 1; funext y ρ2 S2; rw [wp_lift]
theorem wp_m1 {f : D → Option KD} {a : M KD} : wp (m1 f a) ρ S Q = wp a ρ S fun x ρ1 S1 => onO (f x.2) fun r => Q r ρ1 S1 := by
  unfold m1; rw [wp_bnd, wp_pek]; congr 1; funext x ρ1 S1; rw [wp_lift]
theorem we_op {o : BOp} {a b : IE} : wp (evE call (.op o a b)) ρ S Q = wp (evE call a) ρ S fun x ρ1 S1 => wp (evE call b) ρ1 S1 fun y ρ2 S2 => onO (o.f x.2 y.2) fun r => Q r ρ2 S2 := by
  rw [show evE call (.op o a b) = m2 o.f (evE call a) (evE call b) from rfl]; exact wp_m2
theorem we_neg {a : IE} : wp (evE call (.neg a)) ρ S Q = wp (evE call a) ρ S fun x ρ1 S1 => onO (uNeg x.2) fun r => Q r ρ1 S1 := by
  rw [show evE call (.neg a) = m1 uNeg (evE call a) from rfl]; exact wp_m1
theorem we_cmp {o : COp} {a b : IE} : wp (evE call (.cmp o a b)) ρ S Q = wp (evE call a) ρ S fun x ρ1 S1 => wp (evE call b) ρ1 S1 fun y ρ2 S2 => onO (o.g x.2 y.2) fun r => Q r ρ2 S2 := by
  rw [show evE call (.cmp o a b) = m2 o.g (evE call a) (evE call b) from rfl]; exact wp_m2
theorem we_chain {c d : COp} {a b e : IE} : wp (evE call (.chain c d a b e)) ρ S Q = wp (evE call a) ρ S fun x ρ1 S1 => wp (evE call b) ρ1 S1 fun y ρ2 S2 => onO (c.g x.2 y.2) fun r =>
    brB r.2 (wp (evE call e) ρ2 S2 fun z ρ3 S3 => onO (d.g y.2 z.2) fun r => Q r ρ3 S3) (Q (.dat, .bl false) ρ2 S2) := by
  rw [show evE call (.chain c d a b e) = (bnd (pek (evE call a)) fun x => bnd (pek (evE call b)) fun y => bnd (lift (c.g x y)) fun r => match r.2 with
    | .bl true => bnd (pek (evE call e)) fun z => lift (d.g y z)
    | .bl false => ret (.dat, .bl false)
    | _ => stk) from rfl]
  rw [wp_bnd, wp_pek]; congr 1; funext x ρ1 S1; rw [wp_bnd, wp_pek]; congr 1; funext y ρ2 S2; rw [wp_bnd, wp_lift]; congr 1; funext r
  obtain ⟨k, r⟩ := r
  cases r <;> first | exact wp_stk | skip
  rename_i t; cases t
  · exact wp_ret
  · show wp (bnd _ _) _ _ _ = _
    rw [wp_bnd, wp_pek]
    show _ = wp _ _ _ _
    congr 1; funext z ρ3 S3; rw [wp_lift]
theorem we_and {a b : IE} : wp (evE call (.and a b)) ρ S Q = wp (evE call a) ρ S fun x ρ1 S1 => brB x.2 (wp (evE call b) ρ1 S1 Q) (Q (.dat, .bl false) ρ1 S1) := by
  rw [show evE call (.and a b) = tst (evE call a) (evE call b) (ret (.dat, .bl false)) from rfl, wp_tst]; simp only [wp_ret]
theorem we_or {a b : IE} : wp (evE call (.or a b)) ρ S Q = wp (evE call a) ρ S fun x ρ1 S1 => brB x.2 (Q (.dat, .bl true) ρ1 S1) (wp (evE call b) ρ1 S1 Q) := by
  rw [show evE call (.or a b) = tst (evE call a) (ret (.dat, .bl true)) (evE call b) from rfl, wp_tst]; simp only [wp_ret]
theorem we_not {a : IE} : wp (evE call (.not a)) ρ S Q = wp (evE call a) ρ S fun x ρ1 S1 => brB x.2 (Q (.dat, .bl false) ρ1 S1) (Q (.dat, .bl true) ρ1 S1) := by
  rw [show evE call (.not a) = tst (evE call a) (ret (.dat, .bl false)) (ret (.dat, .bl true)) from rfl, wp_tst]; simp only [wp_ret]
theorem we_ite {c a b : IE} : wp (evE call (.ite c a b)) ρ S Q = wp (evE call c) ρ S fun x ρ1 S1 => brB x.2 (wp (evE call a) ρ1 S1 Q) (wp (evE call b) ρ1 S1 Q) := by
  rw [show evE call (.ite c a b) = tst (evE call c) (evE call a) (evE call b) from rfl, wp_tst]
theorem we_idx {a b : IE} : wp (evE call (.idx a b)) ρ S Q = wp (evE call a) ρ S fun x ρ1 S1 => wp (evE call b) ρ1 S1 fun y ρ2 S2 => onO (ixB S2 x.2 y.2) fun r => Q (.dat, r) ρ2 S2 := by
  rw [show evE call (.idx a b) = m2S ixD (evE call a) (evE call b) from rfl]; unfold m2S; rw [wp_bnd, wp_pek]; congr 1; funext x ρ1 S1; rw [wp_bnd, wp_pek]; congr 1; funext y ρ2 S2
  have e : wp (fun ρ S => lift (ixD S x.2 y.2) ρ S) ρ2 S2 Q = wp (lift (ixD S2 x.2 y.2)) ρ2 S2 Q := by simp only [wp_eq]; rfl
  refine e.trans ?_
  rw [wp_lift]; unfold ixD; rw [onO_map]
theorem we_slc {a lo hi : IE} : wp (evE call (.slc a lo hi)) ρ S Q = wp (evE call a) ρ S fun x ρ1 S1 => wp (evO call lo) ρ1 S1 fun l ρ2 S2 => wp (evO call hi) ρ2 S2 fun h ρ3 S3 => onO (slB x.2 l h) fun r => Q r ρ3 S3 := by
  rw [show evE call (.slc a lo hi) = bnd (pek (evE call a)) (fun d => bnd (evO call lo) fun l => bnd (evO call hi) fun h => lift (slB d l h)) from rfl]; rw [wp_bnd, wp_pek]; congr 1; funext x ρ1 S1; rw [wp_bnd]; congr 1; funext l ρ2 S2; rw [wp_bnd]; congr 1; funext h ρ3 S3; rw [wp_lift]
def revD : D → Option KD
  | .lst ds => some (.fresh, .lst ds.reverse)
  | _ => none
theorem rev_l {ds : List D} {P : KD → Prop} : onO (revD (.lst ds)) P = P (.fresh, .lst ds.reverse) := rfl
theorem we_rev {a : IE} : wp (evE call (.rev a)) ρ S Q = wp (evE call a) ρ S fun x ρ1 S1 => onO (revD x.2) fun r => Q r ρ1 S1 := by
  rw [show evE call (.rev a) = (bnd (pek (evE call a)) fun d => match d with
    | .lst ds => ret (.fresh, .lst ds.reverse)
    | _ => stk) from rfl]
  rw [wp_bnd, wp_pek]; congr 1; funext x ρ1 S1
  obtain ⟨k, d⟩ := x
  cases d <;> first | exact wp_stk | exact wp_ret
def callP (call : Fn) (f : Nat) (xs : List (Option Nat × D)) (ρ : Rho) (S : Store) (Q : KD → Rho → Store → Prop) : Prop :=
  onO (lent ρ xs) fun bs => onO (call f (xs.map fun x => x.2) S) fun p => Q p.1 (keepB bs p.1.2 ρ) p.2
theorem we_call {f : Nat} {as : IE} : wp (evE call (.call f as)) ρ S Q = wp (evA call as) ρ S fun xs ρ1 S1 => callP call f xs ρ1 S1 Q := by
  rw [show evE call (.call f as) = bnd (evA call as) (fun xs ρ S => match lent ρ xs, call f (xs.map (·.2)) S with
    | some bs, some (kd, S') => .ok kd (keepB bs kd.2 ρ) S'
    | _, _ => .stuck) from rfl]; rw [wp_bnd]; congr 1; funext xs ρ1 S1
  simp only [wp_eq]; unfold wp0 callP
  dsimp only
  cases lent ρ1 xs with
  | none => rfl
  | some bs =>
    cases call f (xs.map fun x => x.2) S1 with
    | none => rfl
    | some p => rfl
theorem callP1 {f : Nat} {a : D} : callP call f [(none, a)] ρ S Q = onO (call f [a] S) fun p => Q p.1 ρ p.2 := rfl
theorem callP2 {f : Nat} {a b : D} : callP call f [(none, a), (none, b)] ρ S Q = onO (call f [a, b] S) fun p => Q p.1 ρ p.2 := rfl
theorem callP3 {f : Nat} {a b c : D} : callP call f [(none, a), (none, b), (none, c)] ρ S Q = onO (call f [a, b, c] S) fun p => Q p.1 ρ p.2 := rfl
theorem callP4 {f : Nat} {a b c d : D} : callP call f [(none, a), (none, b), (none, c), (none, d)] ρ S Q = onO (call f [a, b, c, d] S) fun p => Q p.1 ρ p.2 := rfl
theorem callP5 {f : Nat} {a b c d e : D} : callP call f [(none, a), (none, b), (none, c), (none, d), (none, e)] ρ S Q = onO (call f [a, b, c, d, e] S) fun p => Q p.1 ρ p.2 := rfl
theorem we_isi {a : IE} {ts : List Ty} {o : Bool} : wp (evE call (.isi a ts o)) ρ S Q = wp (evE call a) ρ S fun x ρ1 S1 => Q (.dat, .bl (ts.any fun t => isTy x.2 t)) ρ1 S1 := by
  rw [show evE call (.isi a ts o) = m1 (fun d => some (.dat, .bl (ts.any fun t => isTy d t))) (evE call a) from rfl]; rw [wp_m1]; rfl
theorem we_bi {b : BI} {as : IE} : wp (evE call (.bi b as)) ρ S Q = wp (evP call as) ρ S fun ds ρ1 S1 => onO (b.f ds) fun r => Q r ρ1 S1 := by
  rw [show evE call (.bi b as) = bnd (evP call as) (fun ds => lift (b.f ds)) from rfl]; rw [wp_bnd]; congr 1; funext ds ρ1 S1; rw [wp_lift]
def compP (vs : List Nat) (turn : D → M (Option D)) (ds : List D) (ρ : Rho) (S : Store) (Q : KD → Rho → Store → Prop) : Prop :=
  noOwn ρ vs = true ∧ ds.length < sizeLine ∧ wp (compLoop turn ds) (wipeR ρ vs) S fun r ρ2 S2 => Q (.fresh, .lst r) (restR ρ ρ2 vs) S2
theorem wp_compM {vs : List Nat} {src : M (List D)} {turn : D → M (Option D)} : wp (compM vs src turn) ρ S Q = wp src ρ S fun ds ρ1 S1 => compP vs turn ds ρ1 S1 Q := by
  unfold compM; rw [wp_bnd]; congr 1; funext ds ρ1 S1
  simp only [wp_eq]; unfold wp0 compP
  by_cases h : (noOwn ρ1 vs && decide (ds.length < sizeLine)) = true
  · dsimp only
    rw [if_pos h]
    rw [Bool.and_eq_true, decide_eq_true_eq] at h
    simp only [wp_eq]; unfold wp0
    cases compLoop turn ds (wipeR ρ1 vs) S1 with
    | stuck => simp
    | ok r ρ' S' => simp [h]
  · dsimp only
    rw [if_neg h]
    rw [Bool.and_eq_true, decide_eq_true_eq] at h
    simp only [eq_iff_iff, false_iff]
    exact fun z => h ⟨z.1, z.2.1⟩
theorem we_comp {own : List (Str × Nat)} {tg : Tg} {it c e : IE} : wp (evE call (.comp own tg it c e)) ρ S Q = wp (evS call it) ρ S fun ds ρ1 S1 => compP (own.map fun x => x.2) (compTurn (own.map fun x => x.2) tg (evC call c) (evE call e)) ds ρ1 S1 Q := by
  rw [show evE call (.comp own tg it c e) = compM (own.map (·.2)) (evS call it) (compTurn (own.map (·.2)) tg (evC call c) (evE call e)) from rfl]; exact wp_compM
end
section
variable {call : Fn} {ρ : Rho} {S : Store}
theorem wl_nil {Q : List D → Rho → Store → Prop} : wp (evL call .nil) ρ S Q = Q [] ρ S := by rw [wp_eq]; unfold evL; rfl
theorem wl_cons {a b : IE} {Q : List D → Rho → Store → Prop} : wp (evL call (.cons a b)) ρ S Q = wp (evE call a) ρ S fun x ρ1 S1 => wp (evL call b) (fz x.1 ρ1) S1 fun ds ρ2 S2 => Q (x.2 :: ds) ρ2 S2 := by
  rw [show evL call (.cons a b) = (bnd (frz (evE call a)) fun d => bnd (evL call b) fun ds => ret (d :: ds)) from rfl]
  rw [wp_bnd, wp_frz]; congr 1; funext x ρ1 S1; rw [wp_bnd]; simp only [wp_ret]
theorem wpp_nil {Q : List D → Rho → Store → Prop} : wp (evP call .nil) ρ S Q = Q [] ρ S := by rw [wp_eq]; unfold evP; rfl
theorem wpp_cons {a b : IE} {Q : List D → Rho → Store → Prop} : wp (evP call (.cons a b)) ρ S Q = wp (evE call a) ρ S fun x ρ1 S1 => wp (evP call b) ρ1 S1 fun ds ρ2 S2 => Q (x.2 :: ds) ρ2 S2 := by
  rw [show evP call (.cons a b) = (bnd (pek (evE call a)) fun d => bnd (evP call b) fun ds => ret (d :: ds)) from rfl]
  rw [wp_bnd, wp_pek]; congr 1; funext x ρ1 S1; rw [wp_bnd]; simp only [wp_ret]
def argP (kd : KD) (P : Option Nat × D → Prop) : Prop := match kd.1 with
  | .bor i => kd.2.isMut = true ∧ P (some i, kd.2)
  | _ => P (none, kd.2)
theorem argP_dat {d : D} {P : Option Nat × D → Prop} : argP (.dat, d) P = P (none, d) := rfl
theorem argP_fresh {d : D} {P : Option Nat × D → Prop} : argP (.fresh, d) P = P (none, d) := rfl
theorem argP_bor {i : Nat} {d : D} {P : Option Nat × D → Prop} : argP (.bor i, d) P = (d.isMut = true ∧ P (some i, d)) := rfl
theorem wa_nil {Q : List (Option Nat × D) → Rho → Store → Prop} : wp (evA call .nil) ρ S Q = Q [] ρ S := by rw [wp_eq]; unfold evA; rfl
theorem wa_cons {a b : IE} {Q : List (Option Nat × D) → Rho → Store → Prop} : wp (evA call (.cons a b)) ρ S Q = wp (evE call a) ρ S fun kd ρ1 S1 => argP kd fun x => wp (evA call b) ρ1 S1 fun xs ρ2 S2 => Q (x :: xs) ρ2 S2 := by
  rw [show evA call (.cons a b) = (bnd (evE call a) fun kd => bnd (argOf kd) fun x => bnd (evA call b) fun xs => ret (x :: xs)) from rfl]
  rw [wp_bnd]; congr 1; funext x ρ1 S1; rw [wp_bnd]
  obtain ⟨k, d⟩ := x
  have e : ∀ x : Option Nat × D, wp (bnd (evA call b) fun xs => ret (x :: xs)) ρ1 S1 Q = wp (evA call b) ρ1 S1 fun xs ρ2 S2 => Q (x :: xs) ρ2 S2 := fun x => by rw [wp_bnd]; simp only [wp_ret]
  cases k with
  | dat => simp only [argOf, argP]; rw [wp_ret, e]
  | fresh => simp only [argOf, argP]; rw [wp_ret, e]
  | bor i =>
    simp only [argOf, argP]
    rw [wp_ifS, wp_ret, e]
theorem wo_nil {Q : Option Int → Rho → Store → Prop} : wp (evO call .nil) ρ S Q = Q none ρ S := by rw [wp_eq]; unfold evO; rfl
theorem wo_som {a : IE} {Q : Option Int → Rho → Store → Prop} : wp (evO call (.som a)) ρ S Q = wp (evE call a) ρ S fun x ρ1 S1 => onO (slicePart x.2) fun i => Q (some i) ρ1 S1 := by
  rw [show evO call (.som a) = bnd (pek (evE call a)) (fun d => lift ((slicePart d).map some)) from rfl]; rw [wp_bnd, wp_pek]; congr 1; funext x ρ1 S1; rw [wp_lift, onO_map]
theorem ws_rg1 {a : IE} {Q : List D → Rho → Store → Prop} : wp (evS call (.rg1 a)) ρ S Q = wp (evE call a) ρ S fun x ρ1 S1 => onO (rngOf [x.2]) fun ds => Q ds ρ1 S1 := by
  rw [show evS call (.rg1 a) = bnd (pek (evE call a)) (fun d => lift (rngOf [d])) from rfl]; rw [wp_bnd, wp_pek]; congr 1; funext x ρ1 S1; rw [wp_lift]
theorem ws_rg2 {a b : IE} {Q : List D → Rho → Store → Prop} : wp (evS call (.rg2 a b)) ρ S Q = wp (evE call a) ρ S fun x ρ1 S1 => wp (evE call b) ρ1 S1 fun y ρ2 S2 => onO (rngOf [x.2, y.2]) fun ds => Q ds ρ2 S2 := by
  rw [show evS call (.rg2 a b) = bnd (pek (evE call a)) (fun d => bnd (pek (evE call b)) fun e => lift (rngOf [d, e])) from rfl]; rw [wp_bnd, wp_pek]; congr 1; funext x ρ1 S1; rw [wp_bnd, wp_pek]; congr 1; funext y ρ2 S2; rw [wp_lift]
theorem ws_sq {a : IE} {Q : List D → Rho → Store → Prop} : wp (evS call (.sq a)) ρ S Q = wp (evE call a) ρ S fun x ρ1 S1 => onO (itemsOf x.2) fun ds => Q ds (fz x.1 ρ1) S1 := by
  rw [show evS call (.sq a) = bnd (frz (evE call a)) (fun d => lift (itemsOf d)) from rfl]; rw [wp_bnd, wp_frz]; congr 1; funext x ρ1 S1; rw [wp_lift]
theorem wc_nil {Q : KD → Rho → Store → Prop} : wp (evC call .nil) ρ S Q = Q (.dat, .bl true) ρ S := by rw [wp_eq]; unfold evC; rfl
theorem wc_som {a : IE} {Q : KD → Rho → Store → Prop} : wp (evC call (.som a)) ρ S Q = wp (evE call a) ρ S Q := by unfold evC; rfl
theorem rng1 {j : Int} {P : List D → Prop} : onO (rngOf [.int j]) P = ((-(2 ^ 62) ≤ j ∧ j < 2 ^ 62) ∧ P ((List.range j.toNat).map fun k => .int ((0 : Int) + (k : Nat)))) := onO_ite
theorem rng2 {i j : Int} {P : List D → Prop} : onO (rngOf [.int i, .int j]) P = (((-(2 ^ 62) ≤ i ∧ i < 2 ^ 62) ∧ (-(2 ^ 62) ≤ j ∧ j < 2 ^ 62)) ∧ P ((List.range (j - i).toNat).map fun k => .int (i + (k : Nat)))) := onO_ite
/-! ### comprehensions, loops -/
theorem wp_setTg {t : Tg} {d : D} {Q : Unit → Rho → Store → Prop} : wp (setTg t d) ρ S Q = onO (setTgs t [d] ρ) fun ρ' => Q () ρ' S := by
  rw [wp_eq]; unfold wp0 setTg
  cases h : setTgs t [d] ρ <;> simp [h, onO]
theorem wp_wiped {vs : List Nat} {Q : Unit → Rho → Store → Prop} : wp (wiped vs) ρ S Q = Q () (wipeR ρ vs) S := by rw [wp_eq]; rfl
theorem wp_turn {vs : List Nat} {tg : Tg} {mc me : M KD} {d : D} {Q : Option D → Rho → Store → Prop} : wp (compTurn vs tg mc me d) ρ S Q = onO (setTgs tg [d] ρ) fun ρ1 =>
    wp mc ρ1 S fun kd ρ2 S2 => brB kd.2 (wp me ρ2 S2 fun x ρ3 S3 => Q (some x.2) (wipeR (fz x.1 ρ3) vs) S3) (Q none (wipeR ρ2 vs) S2) := by
  unfold compTurn
  rw [wp_bnd, wp_setTg]; congr 1; funext ρ1
  rw [wp_bnd, wp_tst]; congr 1; funext kd ρ2 S2
  simp only [wp_bnd, wp_frz, wp_ret, wp_wiped]
theorem setTgs_nm {i : Nat} {d : D} {ρ : Rho} {P : Rho → Prop} : onO (setTgs (.nm i) [d] ρ) P = (i < ρ.length ∧ P (ρ.set i (some (.dat d)))) := by
  unfold setTgs; exact onO_ite
theorem compP_eq {vs : List Nat} {turn : D → M (Option D)} {ds : List D} {Q : KD → Rho → Store → Prop} : compP vs turn ds ρ S Q = (noOwn ρ vs = true ∧ ds.length < sizeLine ∧ wp (compLoop turn ds) (wipeR ρ vs) S fun r ρ2 S2 => Q (.fresh, .lst r) (restR ρ ρ2 vs) S2) := rfl
theorem comp_pure {turn : D → M (Option D)} {g : D → Option D} {Q : List D → Rho → Store → Prop} : ∀ {ds : List D}, (∀ d ∈ ds, wp (turn d) ρ S fun o ρ' S' => o = g d ∧ ρ' = ρ ∧ S' = S) → Q (ds.filterMap g) ρ S → wp (compLoop turn ds) ρ S Q := by
  intro ds
  induction ds generalizing Q with
  | nil => intro _ q; unfold compLoop; rw [wp_ret]; exact q
  | cons d ds ih =>
    intro h q
    unfold compLoop; rw [wp_bnd]
    refine wp_mono (h d (by simp)) fun o ρ' S' => ?_
    rintro ⟨rfl, rfl, rfl⟩
    rw [wp_bnd]
    refine ih (fun e he => h e (by simp [he])) ?_
    rw [wp_ret]
    cases e : g d with
    | none => rw [List.filterMap_cons_none e] at q; exact q
    | some z => rw [List.filterMap_cons_some e] at q; exact q
theorem comp_inv {turn : D → M (Option D)} {J : Store → Prop} {P : D → Prop} {Q : List D → Rho → Store → Prop} : ∀ {ds : List D} {S : Store}, (∀ d ∈ ds, ∀ S, J S → wp (turn d) ρ S fun o ρ' S' => (∀ e, o = some e → P e) ∧ ρ' = ρ ∧ J S') → J S → (∀ r S', (∀ e ∈ r, P e) → r.length ≤ ds.length → J S' → Q r ρ S') → wp (compLoop turn ds) ρ S Q := by
  intro ds
  induction ds generalizing Q with
  | nil => intro S _ j q; unfold compLoop; rw [wp_ret]; exact q [] S (fun _ h => nomatch h) (Nat.le_refl _) j
  | cons d ds ih =>
    intro S h j q
    unfold compLoop; rw [wp_bnd]
    refine wp_mono (h d (by simp) S j) fun o ρ' S' => ?_
    rintro ⟨ho, rfl, j'⟩
    rw [wp_bnd]
    refine ih (fun e he => h e (by simp [he])) j' fun r S2 hr hl j2 => ?_
    rw [wp_ret]
    cases o with
    | none => exact q _ _ hr (by simp; omega) j2
    | some z => exact q _ _ (fun e he => by
        rcases List.mem_cons.mp he with rfl | he
        · exact ho _ rfl
        · exact hr e he) (by simp; omega) j2
def afterF (I : Rho → Store → Prop) (Q : Fl → Rho → Store → Prop) (f : Fl) (ρ : Rho) (S : Store) : Prop := match f with
  | .next => I ρ S
  | .cont => I ρ S
  | .brk => Q .next ρ S
  | .ret kd => Q (.ret kd) ρ S
theorem after_next {I : Rho → Store → Prop} {Q : Fl → Rho → Store → Prop} : afterF I Q .next ρ S = I ρ S := rfl
theorem after_cont {I : Rho → Store → Prop} {Q : Fl → Rho → Store → Prop} : afterF I Q .cont ρ S = I ρ S := rfl
theorem after_brk {I : Rho → Store → Prop} {Q : Fl → Rho → Store → Prop} : afterF I Q .brk ρ S = Q .next ρ S := rfl
theorem after_ret {I : Rho → Store → Prop} {Q : Fl → Rho → Store → Prop} {kd : KD} : afterF I Q (.ret kd) ρ S = Q (.ret kd) ρ S := rfl
theorem items_t {ds : List D} {P : List D → Prop} : onO (itemsOf (.tup ds)) P = P ds := rfl
theorem items_l {ds : List D} {P : List D → Prop} : onO (itemsOf (.lst ds)) P = P ds := rfl
theorem wp_forNil {step : D → M Fl} {Q : Fl → Rho → Store → Prop} : wp (forLoop step []) ρ S Q = Q .next ρ S := by rw [wp_eq]; rfl
theorem wp_forCons {step : D → M Fl} {d : D} {ds : List D} {Q : Fl → Rho → Store → Prop} : wp (forLoop step (d :: ds)) ρ S Q = wp (step d) ρ S (afterF (fun ρ S => wp (forLoop step ds) ρ S Q) Q) := by
  rw [show forLoop step (d :: ds) = bnd (step d) (fun f => match f with
    | .next => forLoop step ds
    | .cont => forLoop step ds
    | .brk => ret .next
    | .ret kd => ret (.ret kd)) from rfl, wp_bnd]
  congr 1; funext f ρ' S'
  cases f <;> first | rfl | exact wp_ret
theorem wp_for {step : D → M Fl} {Q : Fl → Rho → Store → Prop} (I : List D → Rho → Store → Prop) (hs : ∀ d r ρ S, I (d :: r) ρ S → wp (step d) ρ S (afterF (I r) Q)) (he : ∀ ρ S, I [] ρ S → Q .next ρ S) : ∀ {ds : List D} {ρ : Rho} {S : Store}, I ds ρ S → wp (forLoop step ds) ρ S Q
  | [], ρ, S, h => by rw [wp_forNil]; exact he ρ S h
  | d :: ds, ρ, S, h => by
    rw [wp_forCons]
    refine wp_mono (hs d ds ρ S h) fun f ρ' S' h' => ?_
    cases f with
    | next => exact wp_for I hs he h'
    | cont => exact wp_for I hs he h'
    | brk => exact h'
    | ret kd => exact h'
theorem wp_while0 {c : M KD} {b : M Fl} {n : Nat} {Q : Fl → Rho → Store → Prop} : wp (whileLoop c b (n + 1)) ρ S Q = wp c ρ S fun x ρ1 S1 => brB x.2 (wp b ρ1 S1 (afterF (fun ρ S => wp (whileLoop c b n) ρ S Q) Q)) (Q .next ρ1 S1) := by
  rw [show whileLoop c b (n + 1) = tst c (bnd b fun f => match f with
    | .next => whileLoop c b n
    | .cont => whileLoop c b n
    | .brk => ret .next
    | .ret kd => ret (.ret kd)) (ret .next) from rfl, wp_tst]
  congr 1; funext x ρ1 S1
  rw [wp_bnd]
  rw [wp_ret]
  congr 1
  congr 1; funext f ρ' S'
  cases f <;> first | rfl | exact wp_ret
/-- a while: k turns are enough -/
theorem wp_while {c : M KD} {b : M Fl} {Q : Fl → Rho → Store → Prop} (I : Nat → Rho → Store → Prop) (hs : ∀ k ρ S, I k ρ S → wp c ρ S fun x ρ1 S1 => ∃ t, x.2 = .bl t ∧ (t = true → ∃ j, k = j + 1 ∧ wp b ρ1 S1 (afterF (I j) Q)) ∧ (t = false → Q .next ρ1 S1)) :
    ∀ {k n : Nat} {ρ : Rho} {S : Store}, k < n → I k ρ S → wp (whileLoop c b n) ρ S Q := by
  intro k n
  induction n generalizing k with
  | zero => intro _ _ h; omega
  | succ n ih =>
    intro ρ S hk h
    rw [wp_while0]
    refine wp_mono (hs k ρ S h) fun x ρ1 S1 => ?_
    rintro ⟨t, e, h1, h2⟩
    rw [e]
    refine brB_of (fun z => ?_) h2
    obtain ⟨j, rfl, h3⟩ := h1 z
    refine wp_mono h3 fun f ρ' S' h' => ?_
    cases f with
    | next => exact ih (by omega) h'
    | cont => exact ih (by omega) h'
    | brk => exact h'
    | ret kd => exact h'
/-! ### statements -/
variable {Q : Fl → Rho → Store → Prop}
def seqP (f : Fl) (P : Prop) (Q : Fl → Prop) : Prop := match f with
  | .next => P
  | f => Q f
theorem seq_next {P : Prop} {Q : Fl → Prop} : seqP .next P Q = P := rfl
theorem seq_ret {P : Prop} {Q : Fl → Prop} {kd : KD} : seqP (.ret kd) P Q = Q (.ret kd) := rfl
theorem seq_brk {P : Prop} {Q : Fl → Prop} : seqP .brk P Q = Q .brk := rfl
theorem seq_cont {P : Prop} {Q : Fl → Prop} : seqP .cont P Q = Q .cont := rfl
theorem wi_nil : wp (evI call .nil) ρ S Q = Q .next ρ S := by rw [wp_eq]; unfold evI; rfl
theorem wi_cons {a b : IS} : wp (evI call (.cons a b)) ρ S Q = wp (evI call a) ρ S fun f ρ1 S1 => seqP f (wp (evI call b) ρ1 S1 Q) fun f => Q f ρ1 S1 := by
  rw [show evI call (.cons a b) = thenM (evI call a) (evI call b) from rfl]
  unfold thenM; rw [wp_bnd]; congr 1; funext f ρ1 S1
  cases f <;> first | rfl | exact wp_ret
theorem wi_cut {a b : IS} (I : Rho → Store → Prop) (h1 : wp (evI call a) ρ S fun f ρ' S' => seqP f (I ρ' S') fun f => Q f ρ' S') (h2 : ∀ ρ' S', I ρ' S' → wp (evI call b) ρ' S' Q) : wp (evI call (.cons a b)) ρ S Q := by
  rw [wi_cons]
  refine wp_mono h1 fun f ρ' S' h => ?_
  cases f with
  | next => exact h2 _ _ h
  | brk => exact h
  | cont => exact h
  | ret kd => exact h
def asgP (i : Nat) (own : Bool) (kd : KD) (ρ : Rho) (P : Rho → Prop) : Prop := match kd.1, own with
  | .fresh, true => P (ρ.set i (some (.own kd.2)))
  | k, _ => P ((fz k ρ).set i (some (.dat kd.2)))
theorem asgP_dat {i : Nat} {own : Bool} {d : D} {P : Rho → Prop} : asgP i own (.dat, d) ρ P = P (ρ.set i (some (.dat d))) := rfl
theorem asgP_own {i : Nat} {d : D} {P : Rho → Prop} : asgP i true (.fresh, d) ρ P = P (ρ.set i (some (.own d))) := rfl
theorem asgP_fr {i : Nat} {d : D} {P : Rho → Prop} : asgP i false (.fresh, d) ρ P = P (ρ.set i (some (.dat d))) := rfl
theorem asgP_bor {i j : Nat} {own : Bool} {d : D} {P : Rho → Prop} : asgP i own (.bor j, d) ρ P = P ((fz (.bor j) ρ).set i (some (.dat d))) := rfl
theorem wi_asg {i : Nat} {e : IE} {own : Bool} : wp (evI call (.asg i e own)) ρ S Q = wp (evE call e) ρ S fun kd ρ1 S1 => i < ρ1.length ∧ asgP i own kd ρ1 fun ρ2 => Q .next ρ2 S1 := by
  rw [show evI call (.asg i e own) = bnd (evE call e) (fun kd => asgK i own kd) from rfl]; rw [wp_bnd]; congr 1; funext kd ρ1 S1
  obtain ⟨k, d⟩ := kd
  simp only [wp_eq]; unfold wp0 asgK
  by_cases h : i < ρ1.length
  · simp only [h, if_true, true_and]
    cases k <;> cases own <;> rfl
  · simp only [h, if_false, false_and]
theorem wi_asgT {tg : Tg} {e : IE} : wp (evI call (.asgT tg e)) ρ S Q = wp (evE call e) ρ S fun kd ρ1 S1 => onO (setTgs tg [kd.2] (fz kd.1 ρ1)) fun ρ2 => Q .next ρ2 S1 := by
  rw [show evI call (.asgT tg e) = bnd (frz (evE call e)) (fun d => bnd (setTg tg d) fun _ => ret .next) from rfl]; rw [wp_bnd, wp_frz]; congr 1; funext kd ρ1 S1; rw [wp_bnd, wp_setTg]; simp only [wp_ret]
def tapeP (i : Nat) (kd : KD) (ρ : Rho) (S : Store) (P : Rho → Store → Prop) : Prop := match kd with
  | (.fresh, .lst ds) => ds.all D.isI = true ∧ i < ρ.length ∧ P (ρ.set i (some (.dat (.cell S.length)))) (S ++ [.tape (ds.map D.toI) 0 0])
  | _ => False
theorem tapeP_l {i : Nat} {ds : List D} {P : Rho → Store → Prop} : tapeP i (.fresh, .lst ds) ρ S P = (ds.all D.isI = true ∧ i < ρ.length ∧ P (ρ.set i (some (.dat (.cell S.length)))) (S ++ [.tape (ds.map D.toI) 0 0])) := rfl
theorem wi_tape {i : Nat} {e : IE} : wp (evI call (.tape i e)) ρ S Q = wp (evE call e) ρ S fun kd ρ1 S1 => tapeP i kd ρ1 S1 fun ρ2 S2 => Q .next ρ2 S2 := by
  rw [show evI call (.tape i e) = bnd (evE call e) (tapeM i) from rfl]; rw [wp_bnd]; congr 1; funext kd ρ1 S1
  obtain ⟨k, d⟩ := kd
  simp only [wp_eq]; unfold wp0 tapeM tapeP
  cases k <;> cases d <;> dsimp only
  rename_i ds
  by_cases h : (ds.all D.isI && decide (i < ρ1.length)) = true
  · rw [if_pos h]
    rw [Bool.and_eq_true, decide_eq_true_eq] at h
    simp [h]
  · rw [if_neg h]
    rw [Bool.and_eq_true, decide_eq_true_eq] at h
    simp only [eq_iff_iff, false_iff]
    exact fun z => h ⟨z.1, z.2.1⟩
def setP (v : D) (o : KD) (i : D) (ρ : Rho) (S : Store) (P : Rho → Store → Prop) : Prop := wp (setAt v o i) ρ S fun f ρ' S' => f = .next ∧ P ρ' S'
theorem wi_setI {o i v : IE} : wp (evI call (.setI o i v)) ρ S Q = wp (evE call v) ρ S fun kv ρ1 S1 => wp (evE call o) (fz kv.1 ρ1) S1 fun ko ρ2 S2 => wp (evE call i) ρ2 S2 fun ki ρ3 S3 => wp (setAt kv.2 ko ki.2) ρ3 S3 Q := by
  rw [show evI call (.setI o i v) = bnd (frz (evE call v)) (fun dv => bnd (evE call o) fun ko => bnd (pek (evE call i)) fun di => setAt dv ko di) from rfl]; rw [wp_bnd, wp_frz]; congr 1; funext kd ρ1 S1; rw [wp_bnd]; congr 1; funext ko ρ2 S2; rw [wp_bnd, wp_pek]
theorem set_tape1 {ns : List Int} {p x k : Int} {v : Int} {i : Int} (hi : i = 1) : wp (setAt (.int v) (.dat, .cell 0) (.int i)) ρ [.tape ns p x] Q = Q .next ρ [.tape ns v x] := by subst hi; rw [wp_eq]; rfl
theorem set_tape2 {ns : List Int} {p x k : Int} {v : Int} {i : Int} (hi : i = 2) : wp (setAt (.int v) (.dat, .cell 0) (.int i)) ρ [.tape ns p x] Q = Q .next ρ [.tape ns p v] := by subst hi; rw [wp_eq]; rfl
theorem set_own {v i d d' : D} {s : Nat} (h : ρ[s]? = some (some (.own d))) (h2 : setOwn d i v = some d') (q : Q .next (ρ.set s (some (.own d'))) S) : wp (setAt v (.bor s, d) i) ρ S Q := by
  simp only [wp_eq]; unfold wp0 setAt; simp only [h, h2]; exact q
def mtP (m : Mut) (i : Nat) (as : List D) (ρ : Rho) (S : Store) (Q : Fl → Rho → Store → Prop) : Prop := wp (mutAt m i as) ρ S Q
theorem wi_mt {m : Mut} {i : Nat} {as : IE} : wp (evI call (.mt m i as)) ρ S Q = wp (evL call as) ρ S fun ds ρ1 S1 => mtP m i ds ρ1 S1 Q := by
  rw [show evI call (.mt m i as) = bnd (evL call as) (fun ds => mutAt m i ds) from rfl, wp_bnd]
  unfold mtP; rfl
theorem mtP_mono {m : Mut} {i : Nat} {as : List D} {Q' : Fl → Rho → Store → Prop} (h : mtP m i as ρ S Q) (k : ∀ a ρ' S', Q a ρ' S' → Q' a ρ' S') : mtP m i as ρ S Q' := by
  unfold mtP at h ⊢; exact wp_mono h k
theorem mut_own {m : Mut} {i : Nat} {as ds ds' : List D} (h : ρ[i]? = some (some (.own (.lst ds)))) (h2 : mutOwn m ds as = some ds') (q : Q .next (ρ.set i (some (.own (.lst ds')))) S) : mtP m i as ρ S Q := by
  unfold mtP; rw [wp_eq]; unfold wp0 mutAt; simp only [h, h2]; exact q
theorem mut_popAt {ds : List D} {c : Nat} (hc : c < ds.length) (hz : ds.length ≤ sizeLine) : mutOwn .popAt ds [.int c] = some (ds.eraseIdx c) := by
  have hcj : L2.ixN ds.length (c : Int) = some c := by
    unfold L2.ixN; rw [if_pos (by omega), if_pos (by omega)]; rfl
  have h2 : -(2 ^ 63) ≤ (c : Int) ∧ (c : Int) < 2 ^ 63 := by
    simp only [sizeLine] at hz
    omega
  rw [mutOwn, if_pos h2, (L2.ixN_seq hcj).1]
  simp only [Option.bind_some, if_pos hc]
theorem mut_insert {ds : List D} {c : Nat} {v : D} (hc : c ≤ ds.length) (hz : ds.length < sizeLine) : mutOwn .insert ds [.int c, v] = some (ds.take c ++ [v] ++ ds.drop c) := by
  have h2 : ds.length < sizeLine ∧ 0 ≤ (c : Int) ∧ (c : Int) < 2 ^ 63 := by
    refine ⟨hz, ?_⟩
    simp only [sizeLine] at hz
    omega
  rw [mutOwn, if_pos h2, Int.toNat_natCast]
def retP (kd : KD) (ρ : Rho) (P : KD → Prop) : Prop := match kd.1 with
  | .bor i => (match ρ[i]? with
    | some (some (.own _)) => P (.fresh, kd.2)
    | _ => P (.dat, kd.2))
  | k => P (k, kd.2)
theorem retP_dat {d : D} {P : KD → Prop} : retP (.dat, d) ρ P = P (.dat, d) := rfl
theorem retP_fresh {d : D} {P : KD → Prop} : retP (.fresh, d) ρ P = P (.fresh, d) := rfl
theorem retP_bor {i : Nat} {d e : D} {P : KD → Prop} (h : ρ[i]? = some (some (.own e))) : retP (.bor i, d) ρ P = P (.fresh, d) := by
  unfold retP; dsimp only; rw [h]
theorem wi_ret {e : IE} : wp (evI call (.ret e)) ρ S Q = wp (evE call e) ρ S fun kd ρ1 S1 => retP kd ρ1 fun k => Q (.ret k) ρ1 S1 := by
  rw [show evI call (.ret e) = bnd (evE call e) retK from rfl]; rw [wp_bnd]; congr 1; funext kd ρ1 S1
  obtain ⟨k, d⟩ := kd
  simp only [wp_eq]; unfold wp0 retK retP
  cases k with
  | dat => rfl
  | fresh => rfl
  | bor i =>
    dsimp only
    cases h : ρ1[i]? with
    | none => rfl
    | some o =>
      cases o with
      | none => rfl
      | some z => cases z <;> rfl
theorem wi_retN : wp (evI call .retN) ρ S Q = Q (.ret (.dat, .non)) ρ S := by rw [wp_eq]; unfold evI; rfl
theorem wi_iff {c : IE} {a b : IS} : wp (evI call (.iff c a b)) ρ S Q = wp (evE call c) ρ S fun x ρ1 S1 => brB x.2 (wp (evI call a) ρ1 S1 Q) (wp (evI call b) ρ1 S1 Q) := by
  rw [show evI call (.iff c a b) = tst (evE call c) (evI call a) (evI call b) from rfl]; exact wp_tst
theorem wi_if {c : IE} {a b : IS} (I : Bool → Rho → Store → Prop) (h : wp (evE call c) ρ S fun x ρ1 S1 => ∃ t, x.2 = .bl t ∧ I t ρ1 S1) (h1 : ∀ ρ1 S1, I true ρ1 S1 → wp (evI call a) ρ1 S1 Q) (h2 : ∀ ρ1 S1, I false ρ1 S1 → wp (evI call b) ρ1 S1 Q) : wp (evI call (.iff c a b)) ρ S Q := by
  rw [wi_iff]
  refine wp_mono h fun x ρ1 S1 h => ?_
  obtain ⟨t, e, h⟩ := h
  rw [e]
  cases t
  · exact h2 _ _ h
  · exact h1 _ _ h
theorem wi_fors {tg : Tg} {it : IE} {b : IS} : wp (evI call (.fors tg it b)) ρ S Q = wp (evS call it) ρ S fun ds ρ1 S1 => wp (forLoop (fun d => bnd (setTg tg d) fun _ => evI call b) ds) ρ1 S1 Q := by
  rw [show evI call (.fors tg it b) = bnd (evS call it) (fun ds => forLoop (fun d => bnd (setTg tg d) fun _ => evI call b) ds) from rfl]; rw [wp_bnd]
theorem wp_step {tg : Tg} {d : D} {b : IS} : wp (bnd (setTg tg d) fun _ => evI call b) ρ S Q = onO (setTgs tg [d] ρ) fun ρ1 => wp (evI call b) ρ1 S Q := by
  rw [wp_bnd, wp_setTg]
theorem wi_whl {c : IE} {b : IS} : wp (evI call (.whl c b)) ρ S Q = wp (whileLoop (evE call c) (evI call b) turnsMost) ρ S Q := by
  rw [evI]
theorem wi_exp {e : IE} : wp (evI call (.exp e)) ρ S Q = wp (evE call e) ρ S fun _ ρ1 S1 => Q .next ρ1 S1 := by
  rw [show evI call (.exp e) = bnd (evE call e) (fun _ => ret .next) from rfl]; rw [wp_bnd]; simp only [wp_ret]
theorem wi_pass : wp (evI call .pass) ρ S Q = Q .next ρ S := by rw [wp_eq]; unfold evI; rfl
theorem wi_brk : wp (evI call .brk) ρ S Q = Q .brk ρ S := by rw [wp_eq]; unfold evI; rfl
theorem wi_cont : wp (evI call .cont) ρ S Q = Q .cont ρ S := by rw [wp_eq]; unfold evI; rfl
def doneP (f : Fl) (S : Store) (P : KD × Store → Prop) : Prop := match f with
  | .ret kd => P (kd, S)
  | .next => P ((.dat, .non), S)
  | _ => False
theorem done_ret {kd : KD} {P : KD × Store → Prop} : doneP (.ret kd) S P = P (kd, S) := rfl
theorem done_next {P : KD × Store → Prop} : doneP .next S P = P ((.dat, .non), S) := rfl
theorem run_of {fds : List FD} {n f : Nat} {fd : FD} {ds : List D} {P : KD × Store → Prop} (hf : fds[f]? = some fd) (hl : ds.length = fd.np) (hr : ds.map (fun d => some (Slot.dat d)) ++ List.replicate (fd.nl - fd.np) none = ρ)
    (h : wp (evI (fam fds n) fd.body) ρ S fun f _ S' => doneP f S' P) : onO (fam fds (n + 1) f ds S) P := by
  subst hr
  unfold fam; rw [hf]; dsimp only; unfold runDef; rw [if_pos hl]
  rw [wp_eq] at h; unfold wp0 at h
  cases e : evI (fam fds n) fd.body (ds.map (fun d => some (Slot.dat d)) ++ List.replicate (fd.nl - fd.np) none) S with
  | stuck => rw [e] at h; exact h.elim
  | ok fl ρ' S' =>
    rw [e] at h
    cases fl <;> first | exact h | exact h.elim
end
/-! ### operators on known kinds -/
theorem mulOk_l {i j : Int} (h : i.natAbs < 2 ^ 64) : mulOk i j = true := by
  unfold mulOk; rw [decide_eq_true h]; rfl
theorem mulOk_r {i j : Int} (h : j.natAbs < 2 ^ 64) : mulOk i j = true := by
  unfold mulOk; rw [decide_eq_true h, Bool.or_true]; rfl
theorem add_ii {i j : Int} {P : KD → Prop} : onO (BOp.add.f (.int i) (.int j)) P = P (.dat, .int (i + j)) := rfl
theorem sub_ii {i j : Int} {P : KD → Prop} : onO (BOp.sub.f (.int i) (.int j)) P = P (.dat, .int (i - j)) := rfl
theorem mul_ii {i j : Int} {P : KD → Prop} : onO (BOp.mul.f (.int i) (.int j)) P = (mulOk i j = true ∧ P (.dat, .int (i * j))) := onO_ite
theorem mod_ii {i j : Int} {P : KD → Prop} : onO (BOp.mod.f (.int i) (.int j)) P = (0 < j ∧ P (.dat, .int (i % j))) := onO_ite
theorem div_ii {i j : Int} {P : KD → Prop} : onO (BOp.div.f (.int i) (.int j)) P = ((0 < j ∧ j.natAbs.log2 < 9000) ∧ P (.dat, .int (i / j))) := onO_ite
theorem pow_ii {i j : Int} {P : KD → Prop} : onO (BOp.pow.f (.int i) (.int j)) P = ((0 ≤ j ∧ j ≤ 1000000 ∧ i.natAbs < 2 ^ 64) ∧ P (.dat, .int (i ^ j.toNat))) := onO_ite
theorem add_tt {a b : List D} {P : KD → Prop} : onO (BOp.add.f (.tup a) (.tup b)) P = (a.length + b.length ≤ sizeLine ∧ P (.dat, .tup (a ++ b))) := onO_ite
theorem add_ll {a b : List D} {P : KD → Prop} : onO (BOp.add.f (.lst a) (.lst b)) P = (a.length + b.length ≤ sizeLine ∧ P (.fresh, .lst (a ++ b))) := onO_ite
theorem add_ss {a b : Str} {P : KD → Prop} : onO (BOp.add.f (.str a) (.str b)) P = (a.length + b.length ≤ sizeLine ∧ P (.dat, .str (a ++ b))) := onO_ite
theorem mul_ti {a : List D} {k : Int} {P : KD → Prop} : onO (BOp.mul.f (.tup a) (.int k)) P = ((a ≠ [] ∧ 2 ≤ k ∧ k ≤ 1000 ∧ a.length ≤ 1000) ∧ P (.dat, .tup (List.replicate k.toNat a).flatten)) := onO_ite
theorem natAbs10 : Int.natAbs 10 = 10 := rfl
theorem neg_i {i : Int} {P : KD → Prop} : onO (uNeg (.int i)) P = P (.dat, .int (-i)) := rfl
theorem lt_ii {i j : Int} {P : KD → Prop} : onO (COp.lt.g (.int i) (.int j)) P = P (.dat, .bl (decide (i < j))) := rfl
theorem le_ii {i j : Int} {P : KD → Prop} : onO (COp.le.g (.int i) (.int j)) P = P (.dat, .bl (decide (i ≤ j))) := rfl
theorem gt_ii {i j : Int} {P : KD → Prop} : onO (COp.gt.g (.int i) (.int j)) P = P (.dat, .bl (decide (j < i))) := rfl
theorem ge_ii {i j : Int} {P : KD → Prop} : onO (COp.ge.g (.int i) (.int j)) P = P (.dat, .bl (decide (j ≤ i))) := rfl
theorem eq_ii {i j : Int} {P : KD → Prop} : onO (COp.eq.g (.int i) (.int j)) P = P (.dat, .bl (i == j)) := rfl
theorem ne_ii {i j : Int} {P : KD → Prop} : onO (COp.ne.g (.int i) (.int j)) P = P (.dat, .bl (!(i == j))) := rfl
theorem eq_bb {i j : Bool} {P : KD → Prop} : onO (COp.eq.g (.bl i) (.bl j)) P = P (.dat, .bl (i == j)) := rfl
theorem ne_bb {i j : Bool} {P : KD → Prop} : onO (COp.ne.g (.bl i) (.bl j)) P = P (.dat, .bl (!(i == j))) := rfl
theorem eq_ss {i j : Str} {P : KD → Prop} : onO (COp.eq.g (.str i) (.str j)) P = P (.dat, .bl (i == j)) := rfl
theorem ne_ss {i j : Str} {P : KD → Prop} : onO (COp.ne.g (.str i) (.str j)) P = P (.dat, .bl (!(i == j))) := rfl
theorem len_t {ds : List D} {P : KD → Prop} : onO (BI.len.f [.tup ds]) P = P (.dat, .int ds.length) := rfl
theorem len_l {ds : List D} {P : KD → Prop} : onO (BI.len.f [.lst ds]) P = P (.dat, .int ds.length) := rfl
theorem len_s {z : Str} {P : KD → Prop} : onO (BI.len.f [.str z]) P = (z.length ≤ sizeLine ∧ P (.dat, .int z.length)) := onO_ite
theorem int_i {i : Int} {P : KD → Prop} : onO (BI.int.f [.int i]) P = P (.dat, .int i) := rfl
theorem list_t {ds : List D} {P : KD → Prop} : onO (BI.list.f [.tup ds]) P = P (.fresh, .lst ds) := rfl
theorem list_l {ds : List D} {P : KD → Prop} : onO (BI.list.f [.lst ds]) P = P (.fresh, .lst ds) := rfl
theorem list_s {ns : List Int} {P : KD → Prop} : onO (BI.list.f [.scr ns]) P = P (.fresh, .lst (ns.map D.int)) := rfl
theorem tuple_t {ds : List D} {P : KD → Prop} : onO (BI.tuple.f [.tup ds]) P = P (.dat, .tup ds) := rfl
theorem tuple_l {ds : List D} {P : KD → Prop} : onO (BI.tuple.f [.lst ds]) P = P (.dat, .tup ds) := rfl
theorem max_ii {i j : Int} {P : KD → Prop} : onO (BI.max.f [.int i, .int j]) P = P (.dat, .int (if j > i then j else i)) := rfl
theorem min_ii {i j : Int} {P : KD → Prop} : onO (BI.min.f [.int i, .int j]) P = P (.dat, .int (if j < i then j else i)) := rfl
theorem all_l {ds : List D} {P : KD → Prop} : onO (BI.all.f [.lst ds]) P = (ds.all D.isB = true ∧ P (.dat, .bl (ds.all D.toB))) := onO_ite
theorem any_l {ds : List D} {P : KD → Prop} : onO (BI.any.f [.lst ds]) P = (ds.all D.isB = true ∧ P (.dat, .bl (ds.any D.toB))) := onO_ite
theorem cell0 {ns : List Int} {p x : Int} {P : D → Prop} : onO (ixB [.tape ns p x] (.cell 0) (.int 0)) P = P (.lst (ns.map D.int)) := rfl
theorem cell1 {ns : List Int} {p x : Int} {P : D → Prop} : onO (ixB [.tape ns p x] (.cell 0) (.int 1)) P = P (.int p) := rfl
theorem cell2 {ns : List Int} {p x : Int} {P : D → Prop} : onO (ixB [.tape ns p x] (.cell 0) (.int 2)) P = P (.int x) := rfl
theorem atI_of {α : Type} {xs : List α} {k : Nat} {i : Int} {a : α} (hi : i = (k : Int)) (h : xs[k]? = some a) : L2.atI xs i = some a := by
  subst hi
  have hk : k < xs.length := (List.getElem?_eq_some_iff.mp h).1
  unfold L2.atI L2.ixN
  rw [if_pos (by omega), if_pos (by omega)]
  exact h
theorem ix_t {S : Store} {ds : List D} {k : Nat} {i : Int} {a : D} {P : D → Prop} (hi : i = (k : Int)) (h : ds[k]? = some a) (q : P a) : onO (ixB S (.tup ds) (.int i)) P := by
  rw [show ixB S (.tup ds) (.int i) = some a from atI_of hi h]; exact q
theorem getElem?_ix {α : Type} {xs : List α} {i : Int} (h0 : 0 ≤ i) (h1 : i < xs.length) : ∃ k a, i = ((k : Nat) : Int) ∧ xs[k]? = some a ∧ a ∈ xs := by
  obtain ⟨k, rfl⟩ := Int.eq_ofNat_of_zero_le h0
  have hk : k < xs.length := by omega
  exact ⟨k, xs[k], rfl, List.getElem?_eq_getElem hk, List.getElem_mem hk⟩
theorem ix_l {S : Store} {ds : List D} {k : Nat} {i : Int} {a : D} {P : D → Prop} (hi : i = (k : Int)) (h : ds[k]? = some a) (q : P a) : onO (ixB S (.lst ds) (.int i)) P := by
  rw [show ixB S (.lst ds) (.int i) = some a from atI_of hi h]; exact q
end IL
namespace LP
open PySem L2 IL
abbrev ix_is_integer : Nat := 0
abbrev ix_is_bound : Nat := 1
abbrev ix_is_bounds : Nat := 2
abbrev ix__law_draw : Nat := 3
abbrev ix__law_whole : Nat := 4
abbrev ix__law_like : Nat := 5
abbrev ix__law_spoilt : Nat := 6
abbrev ix__law_any : Nat := 7
abbrev ix__law_near : Nat := 8
abbrev ix__law_bounds : Nat := 9
abbrev ix__law_is_bounds : Nat := 10
abbrev ix_law : Nat := 11
def b_is_integer : IS := (.cons (.ret (.and (.isi (.var 0) [.int] true) (.not (.isi (.var 0) [.bool] true))))
    .nil)
def f_is_integer : FD := ⟨1, 1, b_is_integer⟩
def b_is_bound : IS := (.cons (.iff (.or (.not (.isi (.var 0) [.tuple] true)) (.or (.cmp .ne (.bi .len (.cons (.var 0) .nil)) (.lit (.int 3))) (.not (.bi .all (.cons (.comp [("part", 1)] (.nm 1) (.sq (.var 0)) .nil (.call ix_is_integer (.cons (.var 1) .nil))) .nil))))) (.cons (.ret (.lit (.bl false)))
    .nil) .nil)
    (.cons (.ret (.and (.chain .le .le (.lit (.int 0)) (.idx (.var 0) (.lit (.int 0))) (.gl "MOST_POINTS" (.int 6))) (.and (.chain .le .le (.lit (.int 0)) (.idx (.var 0) (.lit (.int 1))) (.gl "MOST_POINTS" (.int 6))) (.cmp .ne (.idx (.var 0) (.lit (.int 0))) (.idx (.var 0) (.lit (.int 1)))))))
    .nil))
def f_is_bound : FD := ⟨1, 2, b_is_bound⟩
def b_is_bounds : IS := (.cons (.iff (.or (.not (.isi (.var 0) [.tuple] true)) (.cmp .gt (.bi .len (.cons (.var 0) .nil)) (.gl "MOST_BOUNDS" (.int 60)))) (.cons (.ret (.lit (.bl false)))
    .nil) .nil)
    (.cons (.ret (.bi .all (.cons (.comp [("part", 1)] (.nm 1) (.sq (.var 0)) .nil (.call ix_is_bound (.cons (.var 1) .nil))) .nil)))
    .nil))
def f_is_bounds : FD := ⟨1, 2, b_is_bounds⟩
def b__law_draw : IS := (.cons (.asg 2 (.lit (.int 2305843009213693951)) false)
    (.cons (.iff (.cmp .lt (.idx (.var 0) (.lit (.int 2))) (.var 1)) (.cons (.asg 4 (.lit (.int 0)) false)
    (.cons (.iff (.cmp .gt (.bi .len (.cons (.idx (.var 0) (.lit (.int 0))) .nil)) (.lit (.int 0))) (.cons (.asg 4 (.idx (.idx (.var 0) (.lit (.int 0))) (.op .mod (.bi .int (.cons (.idx (.var 0) (.lit (.int 1))) .nil)) (.bi .len (.cons (.idx (.var 0) (.lit (.int 0))) .nil)))) false)
    .nil) .nil)
    (.cons (.iff (.or (.cmp .ge (.idx (.var 0) (.lit (.int 1))) (.bi .len (.cons (.idx (.var 0) (.lit (.int 0))) .nil))) (.cmp .lt (.var 4) (.op .pow (.lit (.int 10)) (.lit (.int 18))))) (.cons (.asg 4 (.op .mod (.bi .int (.cons (.op .add (.var 4) (.op .mul (.lit (.int 1000003)) (.idx (.var 0) (.lit (.int 1))))) .nil)) (.var 2)) false)
    (.cons (.asg 4 (.op .mod (.bi .int (.cons (.op .add (.op .add (.op .mul (.var 4) (.var 4)) (.op .mul (.lit (.int 1181783497276652981)) (.var 4))) (.lit (.int 2049848353892358983))) .nil)) (.var 2)) false)
    (.cons (.asg 4 (.op .mod (.bi .int (.cons (.op .add (.op .mul (.var 4) (.var 4)) (.lit (.int 1442695040888963407))) .nil)) (.var 2)) false)
    .nil))) .nil)
    (.cons (.setI (.var 0) (.lit (.int 1)) (.op .add (.idx (.var 0) (.lit (.int 1))) (.lit (.int 1))))
    (.cons (.setI (.var 0) (.lit (.int 2)) (.var 4))
    .nil))))) .nil)
    (.cons (.asg 3 (.op .mod (.bi .int (.cons (.idx (.var 0) (.lit (.int 2))) .nil)) (.var 1)) false)
    (.cons (.setI (.var 0) (.lit (.int 2)) (.op .div (.idx (.var 0) (.lit (.int 2))) (.var 1)))
    (.cons (.ret (.var 3))
    .nil)))))
def f__law_draw : FD := ⟨2, 5, b__law_draw⟩
def b__law_whole : IS := (.cons (.ret (.and (.isi (.var 0) [.int] true) (.not (.isi (.var 0) [.bool] true))))
    .nil)
def f__law_whole : FD := ⟨1, 1, b__law_whole⟩
def b__law_like : IS := (.cons (.iff (.isi (.var 0) [.list, .tuple] false) (.cons (.iff (.or (.cmp .ne (.isi (.var 0) [.list] true) (.isi (.var 1) [.list] true)) (.cmp .ne (.isi (.var 0) [.tuple] true) (.isi (.var 1) [.tuple] true))) (.cons (.ret (.lit (.bl false)))
    .nil) .nil)
    (.cons (.iff (.cmp .ne (.bi .len (.cons (.var 0) .nil)) (.bi .len (.cons (.var 1) .nil))) (.cons (.ret (.lit (.bl false)))
    .nil) .nil)
    (.cons (.ret (.cmp .eq (.comp [("_law_k", 2)] (.nm 2) (.rg1 (.bi .len (.cons (.var 0) .nil))) (.som (.not (.call ix__law_like (.cons (.idx (.var 0) (.var 2)) (.cons (.idx (.var 1) (.var 2)) .nil))))) (.var 2)) (.lst .nil)))
    .nil))) .nil)
    (.cons (.iff (.isi (.var 1) [.list, .tuple] false) (.cons (.ret (.lit (.bl false)))
    .nil) .nil)
    (.cons (.ret (.and (.cmp .eq (.isi (.var 0) [.bool] true) (.isi (.var 1) [.bool] true)) (.cmp .eq (.var 0) (.var 1))))
    .nil)))
def f__law_like : FD := ⟨2, 3, b__law_like⟩
def b__law_spoilt : IS := (.cons (.iff (.and (.isi (.var 1) [.tuple, .list] false) (.and (.cmp .gt (.bi .len (.cons (.var 1) .nil)) (.lit (.int 0))) (.cmp .gt (.call ix__law_draw (.cons (.var 0) (.cons (.lit (.int 7)) .nil))) (.lit (.int 0))))) (.cons (.asg 2 (.call ix__law_draw (.cons (.var 0) (.cons (.bi .len (.cons (.var 1) .nil)) .nil))) false)
    (.cons (.asg 3 (.bi .list (.cons (.var 1) .nil)) true)
    (.cons (.asg 4 (.call ix__law_draw (.cons (.var 0) (.cons (.lit (.int 12)) .nil))) false)
    (.cons (.iff (.cmp .lt (.var 4) (.lit (.int 8))) (.cons (.setI (.var 3) (.var 2) (.call ix__law_spoilt (.cons (.var 0) (.cons (.idx (.var 3) (.var 2)) .nil))))
    .nil) (.cons (.iff (.cmp .eq (.var 4) (.lit (.int 8))) (.cons (.mt .popAt 3 (.cons (.var 2) .nil))
    .nil) (.cons (.iff (.cmp .eq (.var 4) (.lit (.int 9))) (.cons (.mt .insert 3 (.cons (.var 2) (.cons (.idx (.var 3) (.call ix__law_draw (.cons (.var 0) (.cons (.bi .len (.cons (.var 3) .nil)) .nil)))) .nil)))
    .nil) (.cons (.iff (.cmp .eq (.var 4) (.lit (.int 10))) (.cons (.asg 3 (.rev (.var 3)) true)
    .nil) (.cons (.mt .insert 3 (.cons (.var 2) (.cons (.call ix__law_any (.cons (.var 0) (.cons (.lit (.int 1)) .nil))) .nil)))
    .nil))
    .nil))
    .nil))
    .nil))
    (.cons (.ret (.ite (.isi (.var 1) [.tuple] true) (.bi .tuple (.cons (.var 3) .nil)) (.var 3)))
    .nil))))) .nil)
    (.cons (.iff (.and (.call ix__law_whole (.cons (.var 1) .nil)) (.cmp .gt (.call ix__law_draw (.cons (.var 0) (.cons (.lit (.int 6)) .nil))) (.lit (.int 0)))) (.cons (.ret (.op .add (.var 1) (.idx (.lst (.cons (.lit (.int 1)) (.cons (.neg (.lit (.int 1))) (.cons (.lit (.int 2)) (.cons (.neg (.lit (.int 2))) (.cons (.lit (.int 9)) (.cons (.lit (.int 1000)) .nil))))))) (.call ix__law_draw (.cons (.var 0) (.cons (.lit (.int 6)) .nil))))))
    .nil) .nil)
    (.cons (.iff (.and (.isi (.var 1) [.str] true) (.cmp .gt (.call ix__law_draw (.cons (.var 0) (.cons (.lit (.int 3)) .nil))) (.lit (.int 0)))) (.cons (.asg 5 (.call ix__law_draw (.cons (.var 0) (.cons (.op .add (.bi .len (.cons (.var 1) .nil)) (.lit (.int 1))) .nil))) false)
    (.cons (.ret (.op .add (.op .add (.slc (.var 1) .nil (.som (.var 5))) (.idx (.lst (.cons (.lit (.str " ")) (.cons (.lit (.str "z")) (.cons (.lit (.str "A")) (.cons (.lit (.str "|")) (.cons (.lit (.str "abcdefgh")) (.cons (.lit (.str "")) .nil))))))) (.call ix__law_draw (.cons (.var 0) (.cons (.lit (.int 6)) .nil))))) (.slc (.var 1) (.som (.var 5)) .nil)))
    .nil)) .nil)
    (.cons (.iff (.and (.isi (.var 1) [.tuple, .list] false) (.cmp .eq (.call ix__law_draw (.cons (.var 0) (.cons (.lit (.int 2)) .nil))) (.lit (.int 0)))) (.cons (.ret (.ite (.isi (.var 1) [.tuple] true) (.bi .list (.cons (.var 1) .nil)) (.bi .tuple (.cons (.var 1) .nil))))
    .nil) .nil)
    (.cons (.ret (.call ix__law_any (.cons (.var 0) (.cons (.lit (.int 2)) .nil))))
    .nil)))))
def f__law_spoilt : FD := ⟨2, 6, b__law_spoilt⟩
def b__law_any : IS := (.cons (.asg 2 (.call ix__law_draw (.cons (.var 0) (.cons (.lit (.int 13)) .nil))) false)
    (.cons (.iff (.and (.cmp .lt (.var 2) (.lit (.int 4))) (.cmp .gt (.var 1) (.lit (.int 0)))) (.cons (.asg 3 (.comp [("_law_k", 4)] (.nm 4) (.rg1 (.call ix__law_draw (.cons (.var 0) (.cons (.lit (.int 4)) .nil)))) .nil (.call ix__law_any (.cons (.var 0) (.cons (.op .sub (.var 1) (.lit (.int 1))) .nil)))) false)
    (.cons (.ret (.idx (.lst (.cons (.var 3) (.cons (.bi .tuple (.cons (.var 3) .nil)) (.cons (.bi .tuple (.cons (.var 3) .nil)) (.cons (.bi .tuple (.cons (.var 3) .nil)) .nil))))) (.var 2)))
    .nil)) .nil)
    (.cons (.iff (.cmp .lt (.var 2) (.lit (.int 8))) (.cons (.ret (.idx (.lst (.cons (.op .sub (.call ix__law_draw (.cons (.var 0) (.cons (.lit (.int 12)) .nil))) (.lit (.int 2))) (.cons (.call ix__law_draw (.cons (.var 0) (.cons (.op .pow (.lit (.int 10)) (.lit (.int 12))) .nil))) (.cons (.lit (.int 0)) (.cons (.lit (.int 3)) .nil))))) (.bi .max (.cons (.lit (.int 0)) (.cons (.op .sub (.var 2) (.lit (.int 4))) .nil)))))
    .nil) .nil)
    (.cons (.asg 3 (.lst (.cons (.lit (.str "")) (.cons (.lit (.str "0")) (.cons (.lit (.str "a")) (.cons (.lit (.str "when")) (.cons (.lit (.str "give")) (.cons (.lit (.str "let")) (.cons (.lit (.str "try")) .nil)))))))) false)
    (.cons (.ret (.idx (.lst (.cons (.lit (.bl true)) (.cons (.lit (.bl false)) (.cons (.lit .non) (.cons (.idx (.var 3) (.call ix__law_draw (.cons (.var 0) (.cons (.lit (.int 7)) .nil)))) (.cons (.tup (.cons (.lit (.int 1)) (.cons (.lit (.int 2)) .nil))) .nil)))))) (.op .sub (.var 2) (.lit (.int 8)))))
    .nil)))))
def f__law_any : FD := ⟨2, 5, b__law_any⟩
def b__law_near : IS := (.cons (.ret (.op .sub (.call ix__law_draw (.cons (.var 0) (.cons (.op .add (.op .mul (.lit (.int 2)) (.var 1)) (.lit (.int 1))) .nil))) (.var 1)))
    .nil)
def f__law_near : FD := ⟨2, 2, b__law_near⟩
def b__law_bounds : IS := (.cons (.asg 4 (.tup .nil) false)
    (.cons (.fors (.nm 5) (.rg1 (.call ix__law_draw (.cons (.var 0) (.cons (.op .add (.var 2) (.lit (.int 1))) .nil)))) (.cons (.asg 6 (.call ix__law_draw (.cons (.var 0) (.cons (.var 1) .nil))) false)
    (.cons (.asg 7 (.op .mod (.bi .int (.cons (.op .add (.op .add (.var 6) (.lit (.int 1))) (.call ix__law_draw (.cons (.var 0) (.cons (.op .sub (.var 1) (.lit (.int 1))) .nil)))) .nil)) (.var 1)) false)
    (.cons (.asg 4 (.op .add (.var 4) (.tup (.cons (.tup (.cons (.var 6) (.cons (.var 7) (.cons (.call ix__law_near (.cons (.var 0) (.cons (.var 3) .nil))) .nil)))) .nil))) false)
    .nil))))
    (.cons (.ret (.var 4))
    .nil)))
def f__law_bounds : FD := ⟨4, 8, b__law_bounds⟩
def b__law_is_bounds : IS := (.cons (.iff (.or (.not (.isi (.var 0) [.tuple] true)) (.cmp .gt (.bi .len (.cons (.var 0) .nil)) (.lit (.int 60)))) (.cons (.ret (.lit (.bl false)))
    .nil) .nil)
    (.cons (.fors (.nm 1) (.sq (.var 0)) (.cons (.iff (.or (.not (.isi (.var 1) [.tuple] true)) (.or (.cmp .ne (.bi .len (.cons (.var 1) .nil)) (.lit (.int 3))) (.cmp .ne (.comp [("_law_part", 2)] (.nm 2) (.sq (.var 1)) (.som (.not (.call ix__law_whole (.cons (.var 2) .nil)))) (.var 2)) (.lst .nil)))) (.cons (.ret (.lit (.bl false)))
    .nil) .nil)
    (.cons (.iff (.or (.not (.chain .le .le (.lit (.int 0)) (.idx (.var 1) (.lit (.int 0))) (.lit (.int 6)))) (.or (.not (.chain .le .le (.lit (.int 0)) (.idx (.var 1) (.lit (.int 1))) (.lit (.int 6)))) (.cmp .eq (.idx (.var 1) (.lit (.int 0))) (.idx (.var 1) (.lit (.int 1)))))) (.cons (.ret (.lit (.bl false)))
    .nil) .nil)
    .nil)))
    (.cons (.ret (.lit (.bl true)))
    .nil)))
def f__law_is_bounds : FD := ⟨1, 3, b__law_is_bounds⟩
def b_law : IS := (.cons (.tape 1 (.bi .list (.cons (.var 0) .nil)))
    (.cons (.fors (.nm 2) (.rg1 (.lit (.int 14))) (.cons (.asg 3 (.call ix__law_bounds (.cons (.var 1) (.cons (.lit (.int 7)) (.cons (.lit (.int 8)) (.cons (.idx (.lst (.cons (.lit (.int 3)) (.cons (.op .pow (.lit (.int 10)) (.lit (.int 30))) .nil))) (.call ix__law_draw (.cons (.var 1) (.cons (.lit (.int 2)) .nil)))) .nil))))) false)
    (.cons (.asg 4 (.lst (.cons (.var 3) (.cons (.bi .list (.cons (.var 3) .nil)) (.cons (.tup .nil) (.cons (.op .add (.var 3) (.tup (.cons (.tup (.cons (.lit (.int 1)) (.cons (.lit (.int 1)) (.cons (.lit (.int 0)) .nil)))) .nil))) (.cons (.op .add (.var 3) (.tup (.cons (.tup (.cons (.lit (.int 7)) (.cons (.lit (.int 1)) (.cons (.lit (.int 0)) .nil)))) .nil))) (.cons (.call ix__law_any (.cons (.var 1) (.cons (.lit (.int 2)) .nil))) .nil))))))) false)
    (.cons (.asg 4 (.op .add (.var 4) (.lst (.cons (.op .mul (.tup (.cons (.tup (.cons (.lit (.int 0)) (.cons (.lit (.int 1)) (.cons (.lit (.int 5)) .nil)))) .nil)) (.op .add (.lit (.int 59)) (.call ix__law_draw (.cons (.var 1) (.cons (.lit (.int 3)) .nil))))) (.cons (.tup (.cons (.tup (.cons (.lit (.bl true)) (.cons (.lit (.int 0)) (.cons (.lit (.int 5)) .nil)))) .nil)) (.cons (.tup (.cons (.tup (.cons (.lit (.int 1)) (.cons (.lit (.int 0)) .nil))) .nil)) (.cons (.tup (.cons (.lit (.int 1)) (.cons (.lit (.int 0)) (.cons (.lit (.int 5)) .nil)))) .nil)))))) false)
    (.cons (.fors (.nm 5) (.sq (.op .add (.var 4) (.comp [("_law_part", 6)] (.nm 6) (.rg1 (.lit (.int 8))) .nil (.call ix__law_spoilt (.cons (.var 1) (.cons (.var 3) .nil)))))) (.cons (.iff (.not (.call ix__law_like (.cons (.call ix_is_bounds (.cons (.var 5) .nil)) (.cons (.call ix__law_is_bounds (.cons (.var 5) .nil)) .nil)))) (.cons (.ret (.lit (.bl false)))
    .nil) .nil)
    .nil))
    .nil)))))
    (.cons (.ret (.lit (.bl true)))
    .nil)))
def f_law : FD := ⟨1, 7, b_law⟩
def fds : List FD := [f_is_integer, f_is_bound, f_is_bounds, f__law_draw, f__law_whole, f__law_like, f__law_spoilt, f__law_any, f__law_near, f__law_bounds, f__law_is_bounds, f_law]
end LP
namespace LP
open PySem L2 IL
def TS (S : Store) : Prop := ∃ ns p x, S = [.tape ns p x]
def Draw (call : Fn) : Prop := ∀ (m : Int) (S : Store) (P : KD × Store → Prop), 0 < m → m < 10000000000000000000000000000000000000000 → TS S → (∀ r S', 0 ≤ r → r < m → TS S' → P ((.dat, .int r), S')) → onO (call ix__law_draw [.cell 0, .int m] S) P
theorem draw_ok (n : Nat) : Draw (fam fds (n + 1)) := by
  intro m S P hm hl hS hP
  obtain ⟨ns, p, x, rfl⟩ := hS
  refine run_of (fd := f__law_draw) rfl rfl rfl ?_
  show wp (evI (fam fds n) b__law_draw) [some (.dat (.cell 0)), some (.dat (.int m)), none, none, none] _ _
  unfold b__law_draw
  have hq : (2305843009213693951 : Int) ≠ 0 := by decide
  have hb : ∀ z : Int, (z % 2305843009213693951).natAbs < 2 ^ 64 := fun z => by
    have h1 := Int.emod_nonneg z hq
    have h2 := Int.emod_lt_of_pos z (show (0 : Int) < 2305843009213693951 by decide)
    have h3 : (2 : Nat) ^ 64 = 18446744073709551616 := by decide
    omega
  refine wi_cut (fun ρ S => At [some (.dat (.cell 0)), some (.dat (.int m)), some (.dat (.int 2305843009213693951)), none, none] [.tape ns p x] ρ S) ?_ ?_
  · simp only [↓wi_nil (ρ := _ :: _), ↓wi_cons (ρ := _ :: _), ↓wi_asg (ρ := _ :: _), ↓wi_tape (ρ := _ :: _), ↓wi_asgT (ρ := _ :: _), ↓wi_setI (ρ := _ :: _), ↓wi_mt (ρ := _ :: _), ↓wi_ret (ρ := _ :: _), ↓wi_retN (ρ := _ :: _), ↓wi_iff (ρ := _ :: _), ↓wi_exp (ρ := _ :: _), ↓wi_pass (ρ := _ :: _), ↓wi_brk (ρ := _ :: _), ↓wi_cont (ρ := _ :: _), ↓we_lit (ρ := _ :: _), ↓we_gl (ρ := _ :: _), ↓we_var (ρ := _ :: _), ↓we_tup (ρ := _ :: _), ↓we_lst (ρ := _ :: _), ↓we_op (ρ := _ :: _), ↓we_neg (ρ := _ :: _), ↓we_cmp (ρ := _ :: _), ↓we_chain (ρ := _ :: _), ↓we_and (ρ := _ :: _), ↓we_or (ρ := _ :: _), ↓we_not (ρ := _ :: _), ↓we_ite (ρ := _ :: _), ↓we_idx (ρ := _ :: _), ↓we_slc (ρ := _ :: _), ↓we_rev (ρ := _ :: _), ↓we_call (ρ := _ :: _), ↓we_isi (ρ := _ :: _), ↓we_bi (ρ := _ :: _), ↓we_comp (ρ := _ :: _), ↓wl_nil (ρ := _ :: _), ↓wl_cons (ρ := _ :: _), ↓wpp_nil (ρ := _ :: _), ↓wpp_cons (ρ := _ :: _), ↓wa_nil (ρ := _ :: _), ↓wa_cons (ρ := _ :: _), ↓wo_nil (ρ := _ :: _), ↓wo_som (ρ := _ :: _), ↓ws_rg1 (ρ := _ :: _), ↓ws_rg2 (ρ := _ :: _), ↓ws_sq (ρ := _ :: _), ↓wc_nil (ρ := _ :: _), ↓wc_som (ρ := _ :: _), ↓brB_t, ↓brB_f, ↓varP_dat, ↓varP_own, ↓argP_dat, ↓argP_fresh, ↓callP1, ↓callP2, ↓callP3, ↓callP4, ↓callP5, ↓seq_next, ↓seq_ret, ↓seq_brk, ↓seq_cont, ↓asgP_dat, ↓asgP_own, ↓asgP_fr, ↓retP_dat, ↓retP_fresh, ↓done_ret, ↓done_next, ↓onO_some, ↓fz_dat, ↓fz_fresh, ↓add_ii, ↓sub_ii, ↓mul_ii, ↓mod_ii, ↓div_ii, ↓pow_ii, ↓add_tt, ↓add_ll, ↓add_ss, ↓mul_ti, ↓neg_i, ↓lt_ii, ↓le_ii, ↓gt_ii, ↓ge_ii, ↓eq_ii, ↓ne_ii, ↓eq_bb, ↓ne_bb, ↓eq_ss, ↓ne_ss, ↓len_t, ↓len_l, ↓len_s, ↓int_i, ↓list_t, ↓list_l, ↓list_s, ↓tuple_t, ↓tuple_l, ↓max_ii, ↓min_ii, ↓all_l, ↓any_l, ↓cell0, ↓cell1, ↓cell2, ↓rng1, ↓rng2, ↓Lit.d, ↓List.getElem?_cons_zero, ↓List.getElem?_cons_succ, ↓List.set_cons_zero, ↓List.set_cons_succ, ↓List.length_cons, ↓List.length_nil, ↓List.length_set, ↓natAbs10, ↓tapeP_l, ↓after_next, ↓after_cont, ↓after_brk, ↓after_ret, ↓items_t, ↓items_l, ↓rev_l, ↓List.map_cons, ↓List.map_nil, ↓wipeR, ↓restR, ↓Option.getD_some, ↓Option.getD_none, ↓setTgs_nm, ↓compP_eq, Nat.reduceAdd, Nat.reduceLT, Nat.reduceLeDiff, Int.reduceLE, Int.reduceLT, Nat.reducePow, true_and, Int.reduceToNat, Int.reducePow, Int.reduceNeg]
    exact at_mk
  rintro _ _ ⟨rfl, rfl⟩
  refine wi_cut (fun ρ S => ∃ c, ∃ S0, TS S0 ∧ At [some (.dat (.cell 0)), some (.dat (.int m)), some (.dat (.int 2305843009213693951)), none, c] S0 ρ S) ?_ ?_
  · refine wi_if (fun t ρ S => At [some (.dat (.cell 0)), some (.dat (.int m)), some (.dat (.int 2305843009213693951)), none, none] [.tape ns p x] ρ S) ?_ ?_ ?_
    · simp only [↓wi_nil (ρ := _ :: _), ↓wi_cons (ρ := _ :: _), ↓wi_asg (ρ := _ :: _), ↓wi_tape (ρ := _ :: _), ↓wi_asgT (ρ := _ :: _), ↓wi_setI (ρ := _ :: _), ↓wi_mt (ρ := _ :: _), ↓wi_ret (ρ := _ :: _), ↓wi_retN (ρ := _ :: _), ↓wi_iff (ρ := _ :: _), ↓wi_exp (ρ := _ :: _), ↓wi_pass (ρ := _ :: _), ↓wi_brk (ρ := _ :: _), ↓wi_cont (ρ := _ :: _), ↓we_lit (ρ := _ :: _), ↓we_gl (ρ := _ :: _), ↓we_var (ρ := _ :: _), ↓we_tup (ρ := _ :: _), ↓we_lst (ρ := _ :: _), ↓we_op (ρ := _ :: _), ↓we_neg (ρ := _ :: _), ↓we_cmp (ρ := _ :: _), ↓we_chain (ρ := _ :: _), ↓we_and (ρ := _ :: _), ↓we_or (ρ := _ :: _), ↓we_not (ρ := _ :: _), ↓we_ite (ρ := _ :: _), ↓we_idx (ρ := _ :: _), ↓we_slc (ρ := _ :: _), ↓we_rev (ρ := _ :: _), ↓we_call (ρ := _ :: _), ↓we_isi (ρ := _ :: _), ↓we_bi (ρ := _ :: _), ↓we_comp (ρ := _ :: _), ↓wl_nil (ρ := _ :: _), ↓wl_cons (ρ := _ :: _), ↓wpp_nil (ρ := _ :: _), ↓wpp_cons (ρ := _ :: _), ↓wa_nil (ρ := _ :: _), ↓wa_cons (ρ := _ :: _), ↓wo_nil (ρ := _ :: _), ↓wo_som (ρ := _ :: _), ↓ws_rg1 (ρ := _ :: _), ↓ws_rg2 (ρ := _ :: _), ↓ws_sq (ρ := _ :: _), ↓wc_nil (ρ := _ :: _), ↓wc_som (ρ := _ :: _), ↓brB_t, ↓brB_f, ↓varP_dat, ↓varP_own, ↓argP_dat, ↓argP_fresh, ↓callP1, ↓callP2, ↓callP3, ↓callP4, ↓callP5, ↓seq_next, ↓seq_ret, ↓seq_brk, ↓seq_cont, ↓asgP_dat, ↓asgP_own, ↓asgP_fr, ↓retP_dat, ↓retP_fresh, ↓done_ret, ↓done_next, ↓onO_some, ↓fz_dat, ↓fz_fresh, ↓add_ii, ↓sub_ii, ↓mul_ii, ↓mod_ii, ↓div_ii, ↓pow_ii, ↓add_tt, ↓add_ll, ↓add_ss, ↓mul_ti, ↓neg_i, ↓lt_ii, ↓le_ii, ↓gt_ii, ↓ge_ii, ↓eq_ii, ↓ne_ii, ↓eq_bb, ↓ne_bb, ↓eq_ss, ↓ne_ss, ↓len_t, ↓len_l, ↓len_s, ↓int_i, ↓list_t, ↓list_l, ↓list_s, ↓tuple_t, ↓tuple_l, ↓max_ii, ↓min_ii, ↓all_l, ↓any_l, ↓cell0, ↓cell1, ↓cell2, ↓rng1, ↓rng2, ↓Lit.d, ↓List.getElem?_cons_zero, ↓List.getElem?_cons_succ, ↓List.set_cons_zero, ↓List.set_cons_succ, ↓List.length_cons, ↓List.length_nil, ↓List.length_set, ↓natAbs10, ↓tapeP_l, ↓after_next, ↓after_cont, ↓after_brk, ↓after_ret, ↓items_t, ↓items_l, ↓rev_l, ↓List.map_cons, ↓List.map_nil, ↓wipeR, ↓restR, ↓Option.getD_some, ↓Option.getD_none, ↓setTgs_nm, ↓compP_eq, Nat.reduceAdd, Nat.reduceLT, Nat.reduceLeDiff, Int.reduceLE, Int.reduceLT, Nat.reducePow, true_and, Int.reduceToNat, Int.reducePow, Int.reduceNeg]
      exact ⟨_, rfl, at_mk⟩
    · rintro _ _ ⟨rfl, rfl⟩
      refine wi_cut (fun ρ S => At [some (.dat (.cell 0)), some (.dat (.int m)), some (.dat (.int 2305843009213693951)), none, some (.dat (.int 0))] [.tape ns p x] ρ S) ?_ ?_
      · simp only [↓wi_nil (ρ := _ :: _), ↓wi_cons (ρ := _ :: _), ↓wi_asg (ρ := _ :: _), ↓wi_tape (ρ := _ :: _), ↓wi_asgT (ρ := _ :: _), ↓wi_setI (ρ := _ :: _), ↓wi_mt (ρ := _ :: _), ↓wi_ret (ρ := _ :: _), ↓wi_retN (ρ := _ :: _), ↓wi_iff (ρ := _ :: _), ↓wi_exp (ρ := _ :: _), ↓wi_pass (ρ := _ :: _), ↓wi_brk (ρ := _ :: _), ↓wi_cont (ρ := _ :: _), ↓we_lit (ρ := _ :: _), ↓we_gl (ρ := _ :: _), ↓we_var (ρ := _ :: _), ↓we_tup (ρ := _ :: _), ↓we_lst (ρ := _ :: _), ↓we_op (ρ := _ :: _), ↓we_neg (ρ := _ :: _), ↓we_cmp (ρ := _ :: _), ↓we_chain (ρ := _ :: _), ↓we_and (ρ := _ :: _), ↓we_or (ρ := _ :: _), ↓we_not (ρ := _ :: _), ↓we_ite (ρ := _ :: _), ↓we_idx (ρ := _ :: _), ↓we_slc (ρ := _ :: _), ↓we_rev (ρ := _ :: _), ↓we_call (ρ := _ :: _), ↓we_isi (ρ := _ :: _), ↓we_bi (ρ := _ :: _), ↓we_comp (ρ := _ :: _), ↓wl_nil (ρ := _ :: _), ↓wl_cons (ρ := _ :: _), ↓wpp_nil (ρ := _ :: _), ↓wpp_cons (ρ := _ :: _), ↓wa_nil (ρ := _ :: _), ↓wa_cons (ρ := _ :: _), ↓wo_nil (ρ := _ :: _), ↓wo_som (ρ := _ :: _), ↓ws_rg1 (ρ := _ :: _), ↓ws_rg2 (ρ := _ :: _), ↓ws_sq (ρ := _ :: _), ↓wc_nil (ρ := _ :: _), ↓wc_som (ρ := _ :: _), ↓brB_t, ↓brB_f, ↓varP_dat, ↓varP_own, ↓argP_dat, ↓argP_fresh, ↓callP1, ↓callP2, ↓callP3, ↓callP4, ↓callP5, ↓seq_next, ↓seq_ret, ↓seq_brk, ↓seq_cont, ↓asgP_dat, ↓asgP_own, ↓asgP_fr, ↓retP_dat, ↓retP_fresh, ↓done_ret, ↓done_next, ↓onO_some, ↓fz_dat, ↓fz_fresh, ↓add_ii, ↓sub_ii, ↓mul_ii, ↓mod_ii, ↓div_ii, ↓pow_ii, ↓add_tt, ↓add_ll, ↓add_ss, ↓mul_ti, ↓neg_i, ↓lt_ii, ↓le_ii, ↓gt_ii, ↓ge_ii, ↓eq_ii, ↓ne_ii, ↓eq_bb, ↓ne_bb, ↓eq_ss, ↓ne_ss, ↓len_t, ↓len_l, ↓len_s, ↓int_i, ↓list_t, ↓list_l, ↓list_s, ↓tuple_t, ↓tuple_l, ↓max_ii, ↓min_ii, ↓all_l, ↓any_l, ↓cell0, ↓cell1, ↓cell2, ↓rng1, ↓rng2, ↓Lit.d, ↓List.getElem?_cons_zero, ↓List.getElem?_cons_succ, ↓List.set_cons_zero, ↓List.set_cons_succ, ↓List.length_cons, ↓List.length_nil, ↓List.length_set, ↓natAbs10, ↓tapeP_l, ↓after_next, ↓after_cont, ↓after_brk, ↓after_ret, ↓items_t, ↓items_l, ↓rev_l, ↓List.map_cons, ↓List.map_nil, ↓wipeR, ↓restR, ↓Option.getD_some, ↓Option.getD_none, ↓setTgs_nm, ↓compP_eq, Nat.reduceAdd, Nat.reduceLT, Nat.reduceLeDiff, Int.reduceLE, Int.reduceLT, Nat.reducePow, true_and, Int.reduceToNat, Int.reducePow, Int.reduceNeg]
        exact at_mk
      rintro _ _ ⟨rfl, rfl⟩
      refine wi_cut (fun ρ S => ∃ c : Int, At [some (.dat (.cell 0)), some (.dat (.int m)), some (.dat (.int 2305843009213693951)), none, some (.dat (.int c))] [.tape ns p x] ρ S) ?_ ?_
      · simp only [↓wi_nil (ρ := _ :: _), ↓wi_cons (ρ := _ :: _), ↓wi_asg (ρ := _ :: _), ↓wi_tape (ρ := _ :: _), ↓wi_asgT (ρ := _ :: _), ↓wi_setI (ρ := _ :: _), ↓wi_mt (ρ := _ :: _), ↓wi_ret (ρ := _ :: _), ↓wi_retN (ρ := _ :: _), ↓wi_iff (ρ := _ :: _), ↓wi_exp (ρ := _ :: _), ↓wi_pass (ρ := _ :: _), ↓wi_brk (ρ := _ :: _), ↓wi_cont (ρ := _ :: _), ↓we_lit (ρ := _ :: _), ↓we_gl (ρ := _ :: _), ↓we_var (ρ := _ :: _), ↓we_tup (ρ := _ :: _), ↓we_lst (ρ := _ :: _), ↓we_op (ρ := _ :: _), ↓we_neg (ρ := _ :: _), ↓we_cmp (ρ := _ :: _), ↓we_chain (ρ := _ :: _), ↓we_and (ρ := _ :: _), ↓we_or (ρ := _ :: _), ↓we_not (ρ := _ :: _), ↓we_ite (ρ := _ :: _), ↓we_idx (ρ := _ :: _), ↓we_slc (ρ := _ :: _), ↓we_rev (ρ := _ :: _), ↓we_call (ρ := _ :: _), ↓we_isi (ρ := _ :: _), ↓we_bi (ρ := _ :: _), ↓we_comp (ρ := _ :: _), ↓wl_nil (ρ := _ :: _), ↓wl_cons (ρ := _ :: _), ↓wpp_nil (ρ := _ :: _), ↓wpp_cons (ρ := _ :: _), ↓wa_nil (ρ := _ :: _), ↓wa_cons (ρ := _ :: _), ↓wo_nil (ρ := _ :: _), ↓wo_som (ρ := _ :: _), ↓ws_rg1 (ρ := _ :: _), ↓ws_rg2 (ρ := _ :: _), ↓ws_sq (ρ := _ :: _), ↓wc_nil (ρ := _ :: _), ↓wc_som (ρ := _ :: _), ↓brB_t, ↓brB_f, ↓varP_dat, ↓varP_own, ↓argP_dat, ↓argP_fresh, ↓callP1, ↓callP2, ↓callP3, ↓callP4, ↓callP5, ↓seq_next, ↓seq_ret, ↓seq_brk, ↓seq_cont, ↓asgP_dat, ↓asgP_own, ↓asgP_fr, ↓retP_dat, ↓retP_fresh, ↓done_ret, ↓done_next, ↓onO_some, ↓fz_dat, ↓fz_fresh, ↓add_ii, ↓sub_ii, ↓mul_ii, ↓mod_ii, ↓div_ii, ↓pow_ii, ↓add_tt, ↓add_ll, ↓add_ss, ↓mul_ti, ↓neg_i, ↓lt_ii, ↓le_ii, ↓gt_ii, ↓ge_ii, ↓eq_ii, ↓ne_ii, ↓eq_bb, ↓ne_bb, ↓eq_ss, ↓ne_ss, ↓len_t, ↓len_l, ↓len_s, ↓int_i, ↓list_t, ↓list_l, ↓list_s, ↓tuple_t, ↓tuple_l, ↓max_ii, ↓min_ii, ↓all_l, ↓any_l, ↓cell0, ↓cell1, ↓cell2, ↓rng1, ↓rng2, ↓Lit.d, ↓List.getElem?_cons_zero, ↓List.getElem?_cons_succ, ↓List.set_cons_zero, ↓List.set_cons_succ, ↓List.length_cons, ↓List.length_nil, ↓List.length_set, ↓natAbs10, ↓tapeP_l, ↓after_next, ↓after_cont, ↓after_brk, ↓after_ret, ↓items_t, ↓items_l, ↓rev_l, ↓List.map_cons, ↓List.map_nil, ↓wipeR, ↓restR, ↓Option.getD_some, ↓Option.getD_none, ↓setTgs_nm, ↓compP_eq, Nat.reduceAdd, Nat.reduceLT, Nat.reduceLeDiff, Int.reduceLE, Int.reduceLT, Nat.reducePow, true_and, Int.reduceToNat, Int.reducePow, Int.reduceNeg]
        refine brB_of (fun h => ?_) (fun _ => ⟨_, at_mk⟩)
        rw [decide_eq_true_eq] at h
        refine ⟨h, ?_⟩
        obtain ⟨k, a, e1, e2, e3⟩ := getElem?_ix (xs := ns.map D.int) (Int.emod_nonneg p (Int.ne_of_gt h)) (Int.emod_lt_of_pos p h)
        obtain ⟨c, _, rfl⟩ := List.mem_map.mp e3
        exact ix_l e1 e2 ⟨_, at_mk⟩
      rintro _ _ ⟨c, rfl, rfl⟩
      refine wi_cut (fun ρ S => ∃ c : Int, At [some (.dat (.cell 0)), some (.dat (.int m)), some (.dat (.int 2305843009213693951)), none, some (.dat (.int c))] [.tape ns p x] ρ S) ?_ ?_
      · refine wi_if (fun t ρ' S' => At [some (.dat (.cell 0)), some (.dat (.int m)), some (.dat (.int 2305843009213693951)), none, some (.dat (.int c))] [.tape ns p x] ρ' S') ?_ ?_ ?_
        · simp only [↓wi_nil (ρ := _ :: _), ↓wi_cons (ρ := _ :: _), ↓wi_asg (ρ := _ :: _), ↓wi_tape (ρ := _ :: _), ↓wi_asgT (ρ := _ :: _), ↓wi_setI (ρ := _ :: _), ↓wi_mt (ρ := _ :: _), ↓wi_ret (ρ := _ :: _), ↓wi_retN (ρ := _ :: _), ↓wi_iff (ρ := _ :: _), ↓wi_exp (ρ := _ :: _), ↓wi_pass (ρ := _ :: _), ↓wi_brk (ρ := _ :: _), ↓wi_cont (ρ := _ :: _), ↓we_lit (ρ := _ :: _), ↓we_gl (ρ := _ :: _), ↓we_var (ρ := _ :: _), ↓we_tup (ρ := _ :: _), ↓we_lst (ρ := _ :: _), ↓we_op (ρ := _ :: _), ↓we_neg (ρ := _ :: _), ↓we_cmp (ρ := _ :: _), ↓we_chain (ρ := _ :: _), ↓we_and (ρ := _ :: _), ↓we_or (ρ := _ :: _), ↓we_not (ρ := _ :: _), ↓we_ite (ρ := _ :: _), ↓we_idx (ρ := _ :: _), ↓we_slc (ρ := _ :: _), ↓we_rev (ρ := _ :: _), ↓we_call (ρ := _ :: _), ↓we_isi (ρ := _ :: _), ↓we_bi (ρ := _ :: _), ↓we_comp (ρ := _ :: _), ↓wl_nil (ρ := _ :: _), ↓wl_cons (ρ := _ :: _), ↓wpp_nil (ρ := _ :: _), ↓wpp_cons (ρ := _ :: _), ↓wa_nil (ρ := _ :: _), ↓wa_cons (ρ := _ :: _), ↓wo_nil (ρ := _ :: _), ↓wo_som (ρ := _ :: _), ↓ws_rg1 (ρ := _ :: _), ↓ws_rg2 (ρ := _ :: _), ↓ws_sq (ρ := _ :: _), ↓wc_nil (ρ := _ :: _), ↓wc_som (ρ := _ :: _), ↓brB_t, ↓brB_f, ↓varP_dat, ↓varP_own, ↓argP_dat, ↓argP_fresh, ↓callP1, ↓callP2, ↓callP3, ↓callP4, ↓callP5, ↓seq_next, ↓seq_ret, ↓seq_brk, ↓seq_cont, ↓asgP_dat, ↓asgP_own, ↓asgP_fr, ↓retP_dat, ↓retP_fresh, ↓done_ret, ↓done_next, ↓onO_some, ↓fz_dat, ↓fz_fresh, ↓add_ii, ↓sub_ii, ↓mul_ii, ↓mod_ii, ↓div_ii, ↓pow_ii, ↓add_tt, ↓add_ll, ↓add_ss, ↓mul_ti, ↓neg_i, ↓lt_ii, ↓le_ii, ↓gt_ii, ↓ge_ii, ↓eq_ii, ↓ne_ii, ↓eq_bb, ↓ne_bb, ↓eq_ss, ↓ne_ss, ↓len_t, ↓len_l, ↓len_s, ↓int_i, ↓list_t, ↓list_l, ↓list_s, ↓tuple_t, ↓tuple_l, ↓max_ii, ↓min_ii, ↓all_l, ↓any_l, ↓cell0, ↓cell1, ↓cell2, ↓rng1, ↓rng2, ↓Lit.d, ↓List.getElem?_cons_zero, ↓List.getElem?_cons_succ, ↓List.set_cons_zero, ↓List.set_cons_succ, ↓List.length_cons, ↓List.length_nil, ↓List.length_set, ↓natAbs10, ↓tapeP_l, ↓after_next, ↓after_cont, ↓after_brk, ↓after_ret, ↓items_t, ↓items_l, ↓rev_l, ↓List.map_cons, ↓List.map_nil, ↓wipeR, ↓restR, ↓Option.getD_some, ↓Option.getD_none, ↓setTgs_nm, ↓compP_eq, Nat.reduceAdd, Nat.reduceLT, Nat.reduceLeDiff, Int.reduceLE, Int.reduceLT, Nat.reducePow, true_and, Int.reduceToNat, Int.reducePow, Int.reduceNeg]
          refine brB_of (fun _ => ⟨_, rfl, at_mk⟩) fun _ => ?_
          exact ⟨_, rfl, at_mk⟩
        · rintro _ _ ⟨rfl, rfl⟩
          simp only [↓wi_nil (ρ := _ :: _), ↓wi_cons (ρ := _ :: _), ↓wi_asg (ρ := _ :: _), ↓wi_tape (ρ := _ :: _), ↓wi_asgT (ρ := _ :: _), ↓wi_setI (ρ := _ :: _), ↓wi_mt (ρ := _ :: _), ↓wi_ret (ρ := _ :: _), ↓wi_retN (ρ := _ :: _), ↓wi_iff (ρ := _ :: _), ↓wi_exp (ρ := _ :: _), ↓wi_pass (ρ := _ :: _), ↓wi_brk (ρ := _ :: _), ↓wi_cont (ρ := _ :: _), ↓we_lit (ρ := _ :: _), ↓we_gl (ρ := _ :: _), ↓we_var (ρ := _ :: _), ↓we_tup (ρ := _ :: _), ↓we_lst (ρ := _ :: _), ↓we_op (ρ := _ :: _), ↓we_neg (ρ := _ :: _), ↓we_cmp (ρ := _ :: _), ↓we_chain (ρ := _ :: _), ↓we_and (ρ := _ :: _), ↓we_or (ρ := _ :: _), ↓we_not (ρ := _ :: _), ↓we_ite (ρ := _ :: _), ↓we_idx (ρ := _ :: _), ↓we_slc (ρ := _ :: _), ↓we_rev (ρ := _ :: _), ↓we_call (ρ := _ :: _), ↓we_isi (ρ := _ :: _), ↓we_bi (ρ := _ :: _), ↓we_comp (ρ := _ :: _), ↓wl_nil (ρ := _ :: _), ↓wl_cons (ρ := _ :: _), ↓wpp_nil (ρ := _ :: _), ↓wpp_cons (ρ := _ :: _), ↓wa_nil (ρ := _ :: _), ↓wa_cons (ρ := _ :: _), ↓wo_nil (ρ := _ :: _), ↓wo_som (ρ := _ :: _), ↓ws_rg1 (ρ := _ :: _), ↓ws_rg2 (ρ := _ :: _), ↓ws_sq (ρ := _ :: _), ↓wc_nil (ρ := _ :: _), ↓wc_som (ρ := _ :: _), ↓brB_t, ↓brB_f, ↓varP_dat, ↓varP_own, ↓argP_dat, ↓argP_fresh, ↓callP1, ↓callP2, ↓callP3, ↓callP4, ↓callP5, ↓seq_next, ↓seq_ret, ↓seq_brk, ↓seq_cont, ↓asgP_dat, ↓asgP_own, ↓asgP_fr, ↓retP_dat, ↓retP_fresh, ↓done_ret, ↓done_next, ↓onO_some, ↓fz_dat, ↓fz_fresh, ↓add_ii, ↓sub_ii, ↓mul_ii, ↓mod_ii, ↓div_ii, ↓pow_ii, ↓add_tt, ↓add_ll, ↓add_ss, ↓mul_ti, ↓neg_i, ↓lt_ii, ↓le_ii, ↓gt_ii, ↓ge_ii, ↓eq_ii, ↓ne_ii, ↓eq_bb, ↓ne_bb, ↓eq_ss, ↓ne_ss, ↓len_t, ↓len_l, ↓len_s, ↓int_i, ↓list_t, ↓list_l, ↓list_s, ↓tuple_t, ↓tuple_l, ↓max_ii, ↓min_ii, ↓all_l, ↓any_l, ↓cell0, ↓cell1, ↓cell2, ↓rng1, ↓rng2, ↓Lit.d, ↓List.getElem?_cons_zero, ↓List.getElem?_cons_succ, ↓List.set_cons_zero, ↓List.set_cons_succ, ↓List.length_cons, ↓List.length_nil, ↓List.length_set, ↓natAbs10, ↓tapeP_l, ↓after_next, ↓after_cont, ↓after_brk, ↓after_ret, ↓items_t, ↓items_l, ↓rev_l, ↓List.map_cons, ↓List.map_nil, ↓wipeR, ↓restR, ↓Option.getD_some, ↓Option.getD_none, ↓setTgs_nm, ↓compP_eq, Nat.reduceAdd, Nat.reduceLT, Nat.reduceLeDiff, Int.reduceLE, Int.reduceLT, Nat.reducePow, true_and, Int.reduceToNat, Int.reducePow, Int.reduceNeg]
          refine ⟨mulOk_l (by decide), ?_⟩
          refine ⟨mulOk_l (hb _), mulOk_r (hb _), ?_⟩
          exact ⟨mulOk_l (hb _), _, at_mk⟩
        · rintro _ _ ⟨rfl, rfl⟩
          simp only [↓wi_nil (ρ := _ :: _), ↓wi_cons (ρ := _ :: _), ↓wi_asg (ρ := _ :: _), ↓wi_tape (ρ := _ :: _), ↓wi_asgT (ρ := _ :: _), ↓wi_setI (ρ := _ :: _), ↓wi_mt (ρ := _ :: _), ↓wi_ret (ρ := _ :: _), ↓wi_retN (ρ := _ :: _), ↓wi_iff (ρ := _ :: _), ↓wi_exp (ρ := _ :: _), ↓wi_pass (ρ := _ :: _), ↓wi_brk (ρ := _ :: _), ↓wi_cont (ρ := _ :: _), ↓we_lit (ρ := _ :: _), ↓we_gl (ρ := _ :: _), ↓we_var (ρ := _ :: _), ↓we_tup (ρ := _ :: _), ↓we_lst (ρ := _ :: _), ↓we_op (ρ := _ :: _), ↓we_neg (ρ := _ :: _), ↓we_cmp (ρ := _ :: _), ↓we_chain (ρ := _ :: _), ↓we_and (ρ := _ :: _), ↓we_or (ρ := _ :: _), ↓we_not (ρ := _ :: _), ↓we_ite (ρ := _ :: _), ↓we_idx (ρ := _ :: _), ↓we_slc (ρ := _ :: _), ↓we_rev (ρ := _ :: _), ↓we_call (ρ := _ :: _), ↓we_isi (ρ := _ :: _), ↓we_bi (ρ := _ :: _), ↓we_comp (ρ := _ :: _), ↓wl_nil (ρ := _ :: _), ↓wl_cons (ρ := _ :: _), ↓wpp_nil (ρ := _ :: _), ↓wpp_cons (ρ := _ :: _), ↓wa_nil (ρ := _ :: _), ↓wa_cons (ρ := _ :: _), ↓wo_nil (ρ := _ :: _), ↓wo_som (ρ := _ :: _), ↓ws_rg1 (ρ := _ :: _), ↓ws_rg2 (ρ := _ :: _), ↓ws_sq (ρ := _ :: _), ↓wc_nil (ρ := _ :: _), ↓wc_som (ρ := _ :: _), ↓brB_t, ↓brB_f, ↓varP_dat, ↓varP_own, ↓argP_dat, ↓argP_fresh, ↓callP1, ↓callP2, ↓callP3, ↓callP4, ↓callP5, ↓seq_next, ↓seq_ret, ↓seq_brk, ↓seq_cont, ↓asgP_dat, ↓asgP_own, ↓asgP_fr, ↓retP_dat, ↓retP_fresh, ↓done_ret, ↓done_next, ↓onO_some, ↓fz_dat, ↓fz_fresh, ↓add_ii, ↓sub_ii, ↓mul_ii, ↓mod_ii, ↓div_ii, ↓pow_ii, ↓add_tt, ↓add_ll, ↓add_ss, ↓mul_ti, ↓neg_i, ↓lt_ii, ↓le_ii, ↓gt_ii, ↓ge_ii, ↓eq_ii, ↓ne_ii, ↓eq_bb, ↓ne_bb, ↓eq_ss, ↓ne_ss, ↓len_t, ↓len_l, ↓len_s, ↓int_i, ↓list_t, ↓list_l, ↓list_s, ↓tuple_t, ↓tuple_l, ↓max_ii, ↓min_ii, ↓all_l, ↓any_l, ↓cell0, ↓cell1, ↓cell2, ↓rng1, ↓rng2, ↓Lit.d, ↓List.getElem?_cons_zero, ↓List.getElem?_cons_succ, ↓List.set_cons_zero, ↓List.set_cons_succ, ↓List.length_cons, ↓List.length_nil, ↓List.length_set, ↓natAbs10, ↓tapeP_l, ↓after_next, ↓after_cont, ↓after_brk, ↓after_ret, ↓items_t, ↓items_l, ↓rev_l, ↓List.map_cons, ↓List.map_nil, ↓wipeR, ↓restR, ↓Option.getD_some, ↓Option.getD_none, ↓setTgs_nm, ↓compP_eq, Nat.reduceAdd, Nat.reduceLT, Nat.reduceLeDiff, Int.reduceLE, Int.reduceLT, Nat.reducePow, true_and, Int.reduceToNat, Int.reducePow, Int.reduceNeg]
          exact ⟨_, at_mk⟩
      rintro _ _ ⟨c, rfl, rfl⟩
      simp only [↓wi_nil (ρ := _ :: _), ↓wi_cons (ρ := _ :: _), ↓wi_asg (ρ := _ :: _), ↓wi_tape (ρ := _ :: _), ↓wi_asgT (ρ := _ :: _), ↓wi_setI (ρ := _ :: _), ↓wi_mt (ρ := _ :: _), ↓wi_ret (ρ := _ :: _), ↓wi_retN (ρ := _ :: _), ↓wi_iff (ρ := _ :: _), ↓wi_exp (ρ := _ :: _), ↓wi_pass (ρ := _ :: _), ↓wi_brk (ρ := _ :: _), ↓wi_cont (ρ := _ :: _), ↓we_lit (ρ := _ :: _), ↓we_gl (ρ := _ :: _), ↓we_var (ρ := _ :: _), ↓we_tup (ρ := _ :: _), ↓we_lst (ρ := _ :: _), ↓we_op (ρ := _ :: _), ↓we_neg (ρ := _ :: _), ↓we_cmp (ρ := _ :: _), ↓we_chain (ρ := _ :: _), ↓we_and (ρ := _ :: _), ↓we_or (ρ := _ :: _), ↓we_not (ρ := _ :: _), ↓we_ite (ρ := _ :: _), ↓we_idx (ρ := _ :: _), ↓we_slc (ρ := _ :: _), ↓we_rev (ρ := _ :: _), ↓we_call (ρ := _ :: _), ↓we_isi (ρ := _ :: _), ↓we_bi (ρ := _ :: _), ↓we_comp (ρ := _ :: _), ↓wl_nil (ρ := _ :: _), ↓wl_cons (ρ := _ :: _), ↓wpp_nil (ρ := _ :: _), ↓wpp_cons (ρ := _ :: _), ↓wa_nil (ρ := _ :: _), ↓wa_cons (ρ := _ :: _), ↓wo_nil (ρ := _ :: _), ↓wo_som (ρ := _ :: _), ↓ws_rg1 (ρ := _ :: _), ↓ws_rg2 (ρ := _ :: _), ↓ws_sq (ρ := _ :: _), ↓wc_nil (ρ := _ :: _), ↓wc_som (ρ := _ :: _), ↓brB_t, ↓brB_f, ↓varP_dat, ↓varP_own, ↓argP_dat, ↓argP_fresh, ↓callP1, ↓callP2, ↓callP3, ↓callP4, ↓callP5, ↓seq_next, ↓seq_ret, ↓seq_brk, ↓seq_cont, ↓asgP_dat, ↓asgP_own, ↓asgP_fr, ↓retP_dat, ↓retP_fresh, ↓done_ret, ↓done_next, ↓onO_some, ↓fz_dat, ↓fz_fresh, ↓add_ii, ↓sub_ii, ↓mul_ii, ↓mod_ii, ↓div_ii, ↓pow_ii, ↓add_tt, ↓add_ll, ↓add_ss, ↓mul_ti, ↓neg_i, ↓lt_ii, ↓le_ii, ↓gt_ii, ↓ge_ii, ↓eq_ii, ↓ne_ii, ↓eq_bb, ↓ne_bb, ↓eq_ss, ↓ne_ss, ↓len_t, ↓len_l, ↓len_s, ↓int_i, ↓list_t, ↓list_l, ↓list_s, ↓tuple_t, ↓tuple_l, ↓max_ii, ↓min_ii, ↓all_l, ↓any_l, ↓cell0, ↓cell1, ↓cell2, ↓rng1, ↓rng2, ↓Lit.d, ↓List.getElem?_cons_zero, ↓List.getElem?_cons_succ, ↓List.set_cons_zero, ↓List.set_cons_succ, ↓List.length_cons, ↓List.length_nil, ↓List.length_set, ↓natAbs10, ↓tapeP_l, ↓after_next, ↓after_cont, ↓after_brk, ↓after_ret, ↓items_t, ↓items_l, ↓rev_l, ↓List.map_cons, ↓List.map_nil, ↓wipeR, ↓restR, ↓Option.getD_some, ↓Option.getD_none, ↓setTgs_nm, ↓compP_eq, Nat.reduceAdd, Nat.reduceLT, Nat.reduceLeDiff, Int.reduceLE, Int.reduceLT, Nat.reducePow, true_and, Int.reduceToNat, Int.reducePow, Int.reduceNeg, ↓set_tape1 (k := 0) rfl, ↓set_tape2 (k := 0) rfl]
      exact ⟨_, _, ⟨_, _, _, rfl⟩, at_mk⟩
    · rintro _ _ ⟨rfl, rfl⟩
      simp only [↓wi_nil (ρ := _ :: _), ↓wi_cons (ρ := _ :: _), ↓wi_asg (ρ := _ :: _), ↓wi_tape (ρ := _ :: _), ↓wi_asgT (ρ := _ :: _), ↓wi_setI (ρ := _ :: _), ↓wi_mt (ρ := _ :: _), ↓wi_ret (ρ := _ :: _), ↓wi_retN (ρ := _ :: _), ↓wi_iff (ρ := _ :: _), ↓wi_exp (ρ := _ :: _), ↓wi_pass (ρ := _ :: _), ↓wi_brk (ρ := _ :: _), ↓wi_cont (ρ := _ :: _), ↓we_lit (ρ := _ :: _), ↓we_gl (ρ := _ :: _), ↓we_var (ρ := _ :: _), ↓we_tup (ρ := _ :: _), ↓we_lst (ρ := _ :: _), ↓we_op (ρ := _ :: _), ↓we_neg (ρ := _ :: _), ↓we_cmp (ρ := _ :: _), ↓we_chain (ρ := _ :: _), ↓we_and (ρ := _ :: _), ↓we_or (ρ := _ :: _), ↓we_not (ρ := _ :: _), ↓we_ite (ρ := _ :: _), ↓we_idx (ρ := _ :: _), ↓we_slc (ρ := _ :: _), ↓we_rev (ρ := _ :: _), ↓we_call (ρ := _ :: _), ↓we_isi (ρ := _ :: _), ↓we_bi (ρ := _ :: _), ↓we_comp (ρ := _ :: _), ↓wl_nil (ρ := _ :: _), ↓wl_cons (ρ := _ :: _), ↓wpp_nil (ρ := _ :: _), ↓wpp_cons (ρ := _ :: _), ↓wa_nil (ρ := _ :: _), ↓wa_cons (ρ := _ :: _), ↓wo_nil (ρ := _ :: _), ↓wo_som (ρ := _ :: _), ↓ws_rg1 (ρ := _ :: _), ↓ws_rg2 (ρ := _ :: _), ↓ws_sq (ρ := _ :: _), ↓wc_nil (ρ := _ :: _), ↓wc_som (ρ := _ :: _), ↓brB_t, ↓brB_f, ↓varP_dat, ↓varP_own, ↓argP_dat, ↓argP_fresh, ↓callP1, ↓callP2, ↓callP3, ↓callP4, ↓callP5, ↓seq_next, ↓seq_ret, ↓seq_brk, ↓seq_cont, ↓asgP_dat, ↓asgP_own, ↓asgP_fr, ↓retP_dat, ↓retP_fresh, ↓done_ret, ↓done_next, ↓onO_some, ↓fz_dat, ↓fz_fresh, ↓add_ii, ↓sub_ii, ↓mul_ii, ↓mod_ii, ↓div_ii, ↓pow_ii, ↓add_tt, ↓add_ll, ↓add_ss, ↓mul_ti, ↓neg_i, ↓lt_ii, ↓le_ii, ↓gt_ii, ↓ge_ii, ↓eq_ii, ↓ne_ii, ↓eq_bb, ↓ne_bb, ↓eq_ss, ↓ne_ss, ↓len_t, ↓len_l, ↓len_s, ↓int_i, ↓list_t, ↓list_l, ↓list_s, ↓tuple_t, ↓tuple_l, ↓max_ii, ↓min_ii, ↓all_l, ↓any_l, ↓cell0, ↓cell1, ↓cell2, ↓rng1, ↓rng2, ↓Lit.d, ↓List.getElem?_cons_zero, ↓List.getElem?_cons_succ, ↓List.set_cons_zero, ↓List.set_cons_succ, ↓List.length_cons, ↓List.length_nil, ↓List.length_set, ↓natAbs10, ↓tapeP_l, ↓after_next, ↓after_cont, ↓after_brk, ↓after_ret, ↓items_t, ↓items_l, ↓rev_l, ↓List.map_cons, ↓List.map_nil, ↓wipeR, ↓restR, ↓Option.getD_some, ↓Option.getD_none, ↓setTgs_nm, ↓compP_eq, Nat.reduceAdd, Nat.reduceLT, Nat.reduceLeDiff, Int.reduceLE, Int.reduceLT, Nat.reducePow, true_and, Int.reduceToNat, Int.reducePow, Int.reduceNeg]
      exact ⟨_, _, ⟨_, _, _, rfl⟩, at_mk⟩
  rintro _ _ ⟨c, _, ⟨ns, p, x, rfl⟩, rfl, rfl⟩
  simp only [↓wi_nil (ρ := _ :: _), ↓wi_cons (ρ := _ :: _), ↓wi_asg (ρ := _ :: _), ↓wi_tape (ρ := _ :: _), ↓wi_asgT (ρ := _ :: _), ↓wi_setI (ρ := _ :: _), ↓wi_mt (ρ := _ :: _), ↓wi_ret (ρ := _ :: _), ↓wi_retN (ρ := _ :: _), ↓wi_iff (ρ := _ :: _), ↓wi_exp (ρ := _ :: _), ↓wi_pass (ρ := _ :: _), ↓wi_brk (ρ := _ :: _), ↓wi_cont (ρ := _ :: _), ↓we_lit (ρ := _ :: _), ↓we_gl (ρ := _ :: _), ↓we_var (ρ := _ :: _), ↓we_tup (ρ := _ :: _), ↓we_lst (ρ := _ :: _), ↓we_op (ρ := _ :: _), ↓we_neg (ρ := _ :: _), ↓we_cmp (ρ := _ :: _), ↓we_chain (ρ := _ :: _), ↓we_and (ρ := _ :: _), ↓we_or (ρ := _ :: _), ↓we_not (ρ := _ :: _), ↓we_ite (ρ := _ :: _), ↓we_idx (ρ := _ :: _), ↓we_slc (ρ := _ :: _), ↓we_rev (ρ := _ :: _), ↓we_call (ρ := _ :: _), ↓we_isi (ρ := _ :: _), ↓we_bi (ρ := _ :: _), ↓we_comp (ρ := _ :: _), ↓wl_nil (ρ := _ :: _), ↓wl_cons (ρ := _ :: _), ↓wpp_nil (ρ := _ :: _), ↓wpp_cons (ρ := _ :: _), ↓wa_nil (ρ := _ :: _), ↓wa_cons (ρ := _ :: _), ↓wo_nil (ρ := _ :: _), ↓wo_som (ρ := _ :: _), ↓ws_rg1 (ρ := _ :: _), ↓ws_rg2 (ρ := _ :: _), ↓ws_sq (ρ := _ :: _), ↓wc_nil (ρ := _ :: _), ↓wc_som (ρ := _ :: _), ↓brB_t, ↓brB_f, ↓varP_dat, ↓varP_own, ↓argP_dat, ↓argP_fresh, ↓callP1, ↓callP2, ↓callP3, ↓callP4, ↓callP5, ↓seq_next, ↓seq_ret, ↓seq_brk, ↓seq_cont, ↓asgP_dat, ↓asgP_own, ↓asgP_fr, ↓retP_dat, ↓retP_fresh, ↓done_ret, ↓done_next, ↓onO_some, ↓fz_dat, ↓fz_fresh, ↓add_ii, ↓sub_ii, ↓mul_ii, ↓mod_ii, ↓div_ii, ↓pow_ii, ↓add_tt, ↓add_ll, ↓add_ss, ↓mul_ti, ↓neg_i, ↓lt_ii, ↓le_ii, ↓gt_ii, ↓ge_ii, ↓eq_ii, ↓ne_ii, ↓eq_bb, ↓ne_bb, ↓eq_ss, ↓ne_ss, ↓len_t, ↓len_l, ↓len_s, ↓int_i, ↓list_t, ↓list_l, ↓list_s, ↓tuple_t, ↓tuple_l, ↓max_ii, ↓min_ii, ↓all_l, ↓any_l, ↓cell0, ↓cell1, ↓cell2, ↓rng1, ↓rng2, ↓Lit.d, ↓List.getElem?_cons_zero, ↓List.getElem?_cons_succ, ↓List.set_cons_zero, ↓List.set_cons_succ, ↓List.length_cons, ↓List.length_nil, ↓List.length_set, ↓natAbs10, ↓tapeP_l, ↓after_next, ↓after_cont, ↓after_brk, ↓after_ret, ↓items_t, ↓items_l, ↓rev_l, ↓List.map_cons, ↓List.map_nil, ↓wipeR, ↓restR, ↓Option.getD_some, ↓Option.getD_none, ↓setTgs_nm, ↓compP_eq, Nat.reduceAdd, Nat.reduceLT, Nat.reduceLeDiff, Int.reduceLE, Int.reduceLT, Nat.reducePow, true_and, Int.reduceToNat, Int.reducePow, Int.reduceNeg]
  refine ⟨hm, ⟨hm, log2_small hm hl⟩, ?_⟩
  simp only [↓wi_nil (ρ := _ :: _), ↓wi_cons (ρ := _ :: _), ↓wi_asg (ρ := _ :: _), ↓wi_tape (ρ := _ :: _), ↓wi_asgT (ρ := _ :: _), ↓wi_setI (ρ := _ :: _), ↓wi_mt (ρ := _ :: _), ↓wi_ret (ρ := _ :: _), ↓wi_retN (ρ := _ :: _), ↓wi_iff (ρ := _ :: _), ↓wi_exp (ρ := _ :: _), ↓wi_pass (ρ := _ :: _), ↓wi_brk (ρ := _ :: _), ↓wi_cont (ρ := _ :: _), ↓we_lit (ρ := _ :: _), ↓we_gl (ρ := _ :: _), ↓we_var (ρ := _ :: _), ↓we_tup (ρ := _ :: _), ↓we_lst (ρ := _ :: _), ↓we_op (ρ := _ :: _), ↓we_neg (ρ := _ :: _), ↓we_cmp (ρ := _ :: _), ↓we_chain (ρ := _ :: _), ↓we_and (ρ := _ :: _), ↓we_or (ρ := _ :: _), ↓we_not (ρ := _ :: _), ↓we_ite (ρ := _ :: _), ↓we_idx (ρ := _ :: _), ↓we_slc (ρ := _ :: _), ↓we_rev (ρ := _ :: _), ↓we_call (ρ := _ :: _), ↓we_isi (ρ := _ :: _), ↓we_bi (ρ := _ :: _), ↓we_comp (ρ := _ :: _), ↓wl_nil (ρ := _ :: _), ↓wl_cons (ρ := _ :: _), ↓wpp_nil (ρ := _ :: _), ↓wpp_cons (ρ := _ :: _), ↓wa_nil (ρ := _ :: _), ↓wa_cons (ρ := _ :: _), ↓wo_nil (ρ := _ :: _), ↓wo_som (ρ := _ :: _), ↓ws_rg1 (ρ := _ :: _), ↓ws_rg2 (ρ := _ :: _), ↓ws_sq (ρ := _ :: _), ↓wc_nil (ρ := _ :: _), ↓wc_som (ρ := _ :: _), ↓brB_t, ↓brB_f, ↓varP_dat, ↓varP_own, ↓argP_dat, ↓argP_fresh, ↓callP1, ↓callP2, ↓callP3, ↓callP4, ↓callP5, ↓seq_next, ↓seq_ret, ↓seq_brk, ↓seq_cont, ↓asgP_dat, ↓asgP_own, ↓asgP_fr, ↓retP_dat, ↓retP_fresh, ↓done_ret, ↓done_next, ↓onO_some, ↓fz_dat, ↓fz_fresh, ↓add_ii, ↓sub_ii, ↓mul_ii, ↓mod_ii, ↓div_ii, ↓pow_ii, ↓add_tt, ↓add_ll, ↓add_ss, ↓mul_ti, ↓neg_i, ↓lt_ii, ↓le_ii, ↓gt_ii, ↓ge_ii, ↓eq_ii, ↓ne_ii, ↓eq_bb, ↓ne_bb, ↓eq_ss, ↓ne_ss, ↓len_t, ↓len_l, ↓len_s, ↓int_i, ↓list_t, ↓list_l, ↓list_s, ↓tuple_t, ↓tuple_l, ↓max_ii, ↓min_ii, ↓all_l, ↓any_l, ↓cell0, ↓cell1, ↓cell2, ↓rng1, ↓rng2, ↓Lit.d, ↓List.getElem?_cons_zero, ↓List.getElem?_cons_succ, ↓List.set_cons_zero, ↓List.set_cons_succ, ↓List.length_cons, ↓List.length_nil, ↓List.length_set, ↓natAbs10, ↓tapeP_l, ↓after_next, ↓after_cont, ↓after_brk, ↓after_ret, ↓items_t, ↓items_l, ↓rev_l, ↓List.map_cons, ↓List.map_nil, ↓wipeR, ↓restR, ↓Option.getD_some, ↓Option.getD_none, ↓setTgs_nm, ↓compP_eq, Nat.reduceAdd, Nat.reduceLT, Nat.reduceLeDiff, Int.reduceLE, Int.reduceLT, Nat.reducePow, true_and, Int.reduceToNat, Int.reducePow, Int.reduceNeg, ↓set_tape2 (k := 0) rfl]
  exact hP _ _ (Int.emod_nonneg _ (Int.ne_of_gt hm)) (Int.emod_lt_of_pos _ hm) ⟨_, _, _, rfl⟩
def Any (call : Fn) (j : Nat) : Prop := ∀ (S : Store) (P : KD × Store → Prop), TS S → (∀ d S', Fit 10 (j + 1) d → TS S' → P ((.dat, d), S')) → onO (call ix__law_any [.cell 0, .int j] S) P
theorem any_step {n j : Nat} (hd : Draw (fam fds n)) (ih : ∀ i, j = i + 1 → Any (fam fds n) i) : Any (fam fds (n + 1)) j := by
  intro S P hS hP
  refine run_of (fd := f__law_any) rfl rfl rfl ?_
  show wp (evI (fam fds n) b__law_any) [some (.dat (.cell 0)), some (.dat (.int j)), none, none, none] _ _
  unfold b__law_any
  refine wi_cut (fun ρ S => ∃ c S0, (0 ≤ c ∧ c < 13) ∧ TS S0 ∧ At [some (.dat (.cell 0)), some (.dat (.int j)), some (.dat (.int c)), none, none] S0 ρ S) ?_ ?_
  · simp only [↓wi_nil (ρ := _ :: _), ↓wi_cons (ρ := _ :: _), ↓wi_asg (ρ := _ :: _), ↓wi_tape (ρ := _ :: _), ↓wi_asgT (ρ := _ :: _), ↓wi_setI (ρ := _ :: _), ↓wi_mt (ρ := _ :: _), ↓wi_ret (ρ := _ :: _), ↓wi_retN (ρ := _ :: _), ↓wi_iff (ρ := _ :: _), ↓wi_exp (ρ := _ :: _), ↓wi_pass (ρ := _ :: _), ↓wi_brk (ρ := _ :: _), ↓wi_cont (ρ := _ :: _), ↓we_lit (ρ := _ :: _), ↓we_gl (ρ := _ :: _), ↓we_var (ρ := _ :: _), ↓we_tup (ρ := _ :: _), ↓we_lst (ρ := _ :: _), ↓we_op (ρ := _ :: _), ↓we_neg (ρ := _ :: _), ↓we_cmp (ρ := _ :: _), ↓we_chain (ρ := _ :: _), ↓we_and (ρ := _ :: _), ↓we_or (ρ := _ :: _), ↓we_not (ρ := _ :: _), ↓we_ite (ρ := _ :: _), ↓we_idx (ρ := _ :: _), ↓we_slc (ρ := _ :: _), ↓we_rev (ρ := _ :: _), ↓we_call (ρ := _ :: _), ↓we_isi (ρ := _ :: _), ↓we_bi (ρ := _ :: _), ↓we_comp (ρ := _ :: _), ↓wl_nil (ρ := _ :: _), ↓wl_cons (ρ := _ :: _), ↓wpp_nil (ρ := _ :: _), ↓wpp_cons (ρ := _ :: _), ↓wa_nil (ρ := _ :: _), ↓wa_cons (ρ := _ :: _), ↓wo_nil (ρ := _ :: _), ↓wo_som (ρ := _ :: _), ↓ws_rg1 (ρ := _ :: _), ↓ws_rg2 (ρ := _ :: _), ↓ws_sq (ρ := _ :: _), ↓wc_nil (ρ := _ :: _), ↓wc_som (ρ := _ :: _), ↓brB_t, ↓brB_f, ↓varP_dat, ↓varP_own, ↓argP_dat, ↓argP_fresh, ↓callP1, ↓callP2, ↓callP3, ↓callP4, ↓callP5, ↓seq_next, ↓seq_ret, ↓seq_brk, ↓seq_cont, ↓asgP_dat, ↓asgP_own, ↓asgP_fr, ↓retP_dat, ↓retP_fresh, ↓done_ret, ↓done_next, ↓onO_some, ↓fz_dat, ↓fz_fresh, ↓add_ii, ↓sub_ii, ↓mul_ii, ↓mod_ii, ↓div_ii, ↓pow_ii, ↓add_tt, ↓add_ll, ↓add_ss, ↓mul_ti, ↓neg_i, ↓lt_ii, ↓le_ii, ↓gt_ii, ↓ge_ii, ↓eq_ii, ↓ne_ii, ↓eq_bb, ↓ne_bb, ↓eq_ss, ↓ne_ss, ↓len_t, ↓len_l, ↓len_s, ↓int_i, ↓list_t, ↓list_l, ↓list_s, ↓tuple_t, ↓tuple_l, ↓max_ii, ↓min_ii, ↓all_l, ↓any_l, ↓cell0, ↓cell1, ↓cell2, ↓rng1, ↓rng2, ↓Lit.d, ↓List.getElem?_cons_zero, ↓List.getElem?_cons_succ, ↓List.set_cons_zero, ↓List.set_cons_succ, ↓List.length_cons, ↓List.length_nil, ↓List.length_set, ↓natAbs10, ↓tapeP_l, ↓after_next, ↓after_cont, ↓after_brk, ↓after_ret, ↓items_t, ↓items_l, ↓rev_l, ↓List.map_cons, ↓List.map_nil, ↓wipeR, ↓restR, ↓Option.getD_some, ↓Option.getD_none, ↓setTgs_nm, ↓compP_eq, Nat.reduceAdd, Nat.reduceLT, Nat.reduceLeDiff, Int.reduceLE, Int.reduceLT, Nat.reducePow, true_and, Int.reduceToNat, Int.reducePow, Int.reduceNeg]
    refine hd _ _ _ (by decide) (by decide) hS fun r S' h0 h1 hS' => ?_
    simp only [↓wi_nil (ρ := _ :: _), ↓wi_cons (ρ := _ :: _), ↓wi_asg (ρ := _ :: _), ↓wi_tape (ρ := _ :: _), ↓wi_asgT (ρ := _ :: _), ↓wi_setI (ρ := _ :: _), ↓wi_mt (ρ := _ :: _), ↓wi_ret (ρ := _ :: _), ↓wi_retN (ρ := _ :: _), ↓wi_iff (ρ := _ :: _), ↓wi_exp (ρ := _ :: _), ↓wi_pass (ρ := _ :: _), ↓wi_brk (ρ := _ :: _), ↓wi_cont (ρ := _ :: _), ↓we_lit (ρ := _ :: _), ↓we_gl (ρ := _ :: _), ↓we_var (ρ := _ :: _), ↓we_tup (ρ := _ :: _), ↓we_lst (ρ := _ :: _), ↓we_op (ρ := _ :: _), ↓we_neg (ρ := _ :: _), ↓we_cmp (ρ := _ :: _), ↓we_chain (ρ := _ :: _), ↓we_and (ρ := _ :: _), ↓we_or (ρ := _ :: _), ↓we_not (ρ := _ :: _), ↓we_ite (ρ := _ :: _), ↓we_idx (ρ := _ :: _), ↓we_slc (ρ := _ :: _), ↓we_rev (ρ := _ :: _), ↓we_call (ρ := _ :: _), ↓we_isi (ρ := _ :: _), ↓we_bi (ρ := _ :: _), ↓we_comp (ρ := _ :: _), ↓wl_nil (ρ := _ :: _), ↓wl_cons (ρ := _ :: _), ↓wpp_nil (ρ := _ :: _), ↓wpp_cons (ρ := _ :: _), ↓wa_nil (ρ := _ :: _), ↓wa_cons (ρ := _ :: _), ↓wo_nil (ρ := _ :: _), ↓wo_som (ρ := _ :: _), ↓ws_rg1 (ρ := _ :: _), ↓ws_rg2 (ρ := _ :: _), ↓ws_sq (ρ := _ :: _), ↓wc_nil (ρ := _ :: _), ↓wc_som (ρ := _ :: _), ↓brB_t, ↓brB_f, ↓varP_dat, ↓varP_own, ↓argP_dat, ↓argP_fresh, ↓callP1, ↓callP2, ↓callP3, ↓callP4, ↓callP5, ↓seq_next, ↓seq_ret, ↓seq_brk, ↓seq_cont, ↓asgP_dat, ↓asgP_own, ↓asgP_fr, ↓retP_dat, ↓retP_fresh, ↓done_ret, ↓done_next, ↓onO_some, ↓fz_dat, ↓fz_fresh, ↓add_ii, ↓sub_ii, ↓mul_ii, ↓mod_ii, ↓div_ii, ↓pow_ii, ↓add_tt, ↓add_ll, ↓add_ss, ↓mul_ti, ↓neg_i, ↓lt_ii, ↓le_ii, ↓gt_ii, ↓ge_ii, ↓eq_ii, ↓ne_ii, ↓eq_bb, ↓ne_bb, ↓eq_ss, ↓ne_ss, ↓len_t, ↓len_l, ↓len_s, ↓int_i, ↓list_t, ↓list_l, ↓list_s, ↓tuple_t, ↓tuple_l, ↓max_ii, ↓min_ii, ↓all_l, ↓any_l, ↓cell0, ↓cell1, ↓cell2, ↓rng1, ↓rng2, ↓Lit.d, ↓List.getElem?_cons_zero, ↓List.getElem?_cons_succ, ↓List.set_cons_zero, ↓List.set_cons_succ, ↓List.length_cons, ↓List.length_nil, ↓List.length_set, ↓natAbs10, ↓tapeP_l, ↓after_next, ↓after_cont, ↓after_brk, ↓after_ret, ↓items_t, ↓items_l, ↓rev_l, ↓List.map_cons, ↓List.map_nil, ↓wipeR, ↓restR, ↓Option.getD_some, ↓Option.getD_none, ↓setTgs_nm, ↓compP_eq, Nat.reduceAdd, Nat.reduceLT, Nat.reduceLeDiff, Int.reduceLE, Int.reduceLT, Nat.reducePow, true_and, Int.reduceToNat, Int.reducePow, Int.reduceNeg]
    exact ⟨_, _, ⟨h0, h1⟩, hS', at_mk⟩
  rintro _ _ ⟨c, S0, ⟨h0, h1⟩, hS0, rfl, rfl⟩
  refine wi_cut (fun ρ S => (4 ≤ c ∨ j = 0) ∧ At [some (.dat (.cell 0)), some (.dat (.int j)), some (.dat (.int c)), none, none] S0 ρ S) ?_ ?_
  · refine wi_if (fun t ρ S => (t = true → c < 4 ∧ 0 < j) ∧ (t = false → 4 ≤ c ∨ j = 0) ∧ At [some (.dat (.cell 0)), some (.dat (.int j)), some (.dat (.int c)), none, none] S0 ρ S) ?_ ?_ ?_
    · simp only [↓wi_nil (ρ := _ :: _), ↓wi_cons (ρ := _ :: _), ↓wi_asg (ρ := _ :: _), ↓wi_tape (ρ := _ :: _), ↓wi_asgT (ρ := _ :: _), ↓wi_setI (ρ := _ :: _), ↓wi_mt (ρ := _ :: _), ↓wi_ret (ρ := _ :: _), ↓wi_retN (ρ := _ :: _), ↓wi_iff (ρ := _ :: _), ↓wi_exp (ρ := _ :: _), ↓wi_pass (ρ := _ :: _), ↓wi_brk (ρ := _ :: _), ↓wi_cont (ρ := _ :: _), ↓we_lit (ρ := _ :: _), ↓we_gl (ρ := _ :: _), ↓we_var (ρ := _ :: _), ↓we_tup (ρ := _ :: _), ↓we_lst (ρ := _ :: _), ↓we_op (ρ := _ :: _), ↓we_neg (ρ := _ :: _), ↓we_cmp (ρ := _ :: _), ↓we_chain (ρ := _ :: _), ↓we_and (ρ := _ :: _), ↓we_or (ρ := _ :: _), ↓we_not (ρ := _ :: _), ↓we_ite (ρ := _ :: _), ↓we_idx (ρ := _ :: _), ↓we_slc (ρ := _ :: _), ↓we_rev (ρ := _ :: _), ↓we_call (ρ := _ :: _), ↓we_isi (ρ := _ :: _), ↓we_bi (ρ := _ :: _), ↓we_comp (ρ := _ :: _), ↓wl_nil (ρ := _ :: _), ↓wl_cons (ρ := _ :: _), ↓wpp_nil (ρ := _ :: _), ↓wpp_cons (ρ := _ :: _), ↓wa_nil (ρ := _ :: _), ↓wa_cons (ρ := _ :: _), ↓wo_nil (ρ := _ :: _), ↓wo_som (ρ := _ :: _), ↓ws_rg1 (ρ := _ :: _), ↓ws_rg2 (ρ := _ :: _), ↓ws_sq (ρ := _ :: _), ↓wc_nil (ρ := _ :: _), ↓wc_som (ρ := _ :: _), ↓brB_t, ↓brB_f, ↓varP_dat, ↓varP_own, ↓argP_dat, ↓argP_fresh, ↓callP1, ↓callP2, ↓callP3, ↓callP4, ↓callP5, ↓seq_next, ↓seq_ret, ↓seq_brk, ↓seq_cont, ↓asgP_dat, ↓asgP_own, ↓asgP_fr, ↓retP_dat, ↓retP_fresh, ↓done_ret, ↓done_next, ↓onO_some, ↓fz_dat, ↓fz_fresh, ↓add_ii, ↓sub_ii, ↓mul_ii, ↓mod_ii, ↓div_ii, ↓pow_ii, ↓add_tt, ↓add_ll, ↓add_ss, ↓mul_ti, ↓neg_i, ↓lt_ii, ↓le_ii, ↓gt_ii, ↓ge_ii, ↓eq_ii, ↓ne_ii, ↓eq_bb, ↓ne_bb, ↓eq_ss, ↓ne_ss, ↓len_t, ↓len_l, ↓len_s, ↓int_i, ↓list_t, ↓list_l, ↓list_s, ↓tuple_t, ↓tuple_l, ↓max_ii, ↓min_ii, ↓all_l, ↓any_l, ↓cell0, ↓cell1, ↓cell2, ↓rng1, ↓rng2, ↓Lit.d, ↓List.getElem?_cons_zero, ↓List.getElem?_cons_succ, ↓List.set_cons_zero, ↓List.set_cons_succ, ↓List.length_cons, ↓List.length_nil, ↓List.length_set, ↓natAbs10, ↓tapeP_l, ↓after_next, ↓after_cont, ↓after_brk, ↓after_ret, ↓items_t, ↓items_l, ↓rev_l, ↓List.map_cons, ↓List.map_nil, ↓wipeR, ↓restR, ↓Option.getD_some, ↓Option.getD_none, ↓setTgs_nm, ↓compP_eq, Nat.reduceAdd, Nat.reduceLT, Nat.reduceLeDiff, Int.reduceLE, Int.reduceLT, Nat.reducePow, true_and, Int.reduceToNat, Int.reducePow, Int.reduceNeg]
      refine brB_of (fun h => ⟨_, rfl, fun z => ?_, fun z => ?_, at_mk⟩) (fun h => ⟨_, rfl, fun z => ?_, fun z => ?_, at_mk⟩)
      all_goals (simp only [decide_eq_true_eq, decide_eq_false_iff_not, Bool.false_eq_true] at *)
      all_goals omega
    · rintro _ _ ⟨hc, _, rfl, rfl⟩
      obtain ⟨hc, hj⟩ := hc rfl
      obtain ⟨i, rfl⟩ : ∃ i, j = i + 1 := ⟨j - 1, by omega⟩
      refine wi_cut (fun ρ S => ∃ ds S0, (∀ d ∈ ds, Fit 10 (i + 1) d) ∧ ds.length ≤ 4 ∧ TS S0 ∧ At [some (.dat (.cell 0)), some (.dat (.int ((i + 1 : Nat) : Int))), some (.dat (.int c)), some (.dat (.lst ds)), none] S0 ρ S) ?_ ?_
      · simp only [↓wi_nil (ρ := _ :: _), ↓wi_cons (ρ := _ :: _), ↓wi_asg (ρ := _ :: _), ↓wi_tape (ρ := _ :: _), ↓wi_asgT (ρ := _ :: _), ↓wi_setI (ρ := _ :: _), ↓wi_mt (ρ := _ :: _), ↓wi_ret (ρ := _ :: _), ↓wi_retN (ρ := _ :: _), ↓wi_iff (ρ := _ :: _), ↓wi_exp (ρ := _ :: _), ↓wi_pass (ρ := _ :: _), ↓wi_brk (ρ := _ :: _), ↓wi_cont (ρ := _ :: _), ↓we_lit (ρ := _ :: _), ↓we_gl (ρ := _ :: _), ↓we_var (ρ := _ :: _), ↓we_tup (ρ := _ :: _), ↓we_lst (ρ := _ :: _), ↓we_op (ρ := _ :: _), ↓we_neg (ρ := _ :: _), ↓we_cmp (ρ := _ :: _), ↓we_chain (ρ := _ :: _), ↓we_and (ρ := _ :: _), ↓we_or (ρ := _ :: _), ↓we_not (ρ := _ :: _), ↓we_ite (ρ := _ :: _), ↓we_idx (ρ := _ :: _), ↓we_slc (ρ := _ :: _), ↓we_rev (ρ := _ :: _), ↓we_call (ρ := _ :: _), ↓we_isi (ρ := _ :: _), ↓we_bi (ρ := _ :: _), ↓we_comp (ρ := _ :: _), ↓wl_nil (ρ := _ :: _), ↓wl_cons (ρ := _ :: _), ↓wpp_nil (ρ := _ :: _), ↓wpp_cons (ρ := _ :: _), ↓wa_nil (ρ := _ :: _), ↓wa_cons (ρ := _ :: _), ↓wo_nil (ρ := _ :: _), ↓wo_som (ρ := _ :: _), ↓ws_rg1 (ρ := _ :: _), ↓ws_rg2 (ρ := _ :: _), ↓ws_sq (ρ := _ :: _), ↓wc_nil (ρ := _ :: _), ↓wc_som (ρ := _ :: _), ↓brB_t, ↓brB_f, ↓varP_dat, ↓varP_own, ↓argP_dat, ↓argP_fresh, ↓callP1, ↓callP2, ↓callP3, ↓callP4, ↓callP5, ↓seq_next, ↓seq_ret, ↓seq_brk, ↓seq_cont, ↓asgP_dat, ↓asgP_own, ↓asgP_fr, ↓retP_dat, ↓retP_fresh, ↓done_ret, ↓done_next, ↓onO_some, ↓fz_dat, ↓fz_fresh, ↓add_ii, ↓sub_ii, ↓mul_ii, ↓mod_ii, ↓div_ii, ↓pow_ii, ↓add_tt, ↓add_ll, ↓add_ss, ↓mul_ti, ↓neg_i, ↓lt_ii, ↓le_ii, ↓gt_ii, ↓ge_ii, ↓eq_ii, ↓ne_ii, ↓eq_bb, ↓ne_bb, ↓eq_ss, ↓ne_ss, ↓len_t, ↓len_l, ↓len_s, ↓int_i, ↓list_t, ↓list_l, ↓list_s, ↓tuple_t, ↓tuple_l, ↓max_ii, ↓min_ii, ↓all_l, ↓any_l, ↓cell0, ↓cell1, ↓cell2, ↓rng1, ↓rng2, ↓Lit.d, ↓List.getElem?_cons_zero, ↓List.getElem?_cons_succ, ↓List.set_cons_zero, ↓List.set_cons_succ, ↓List.length_cons, ↓List.length_nil, ↓List.length_set, ↓natAbs10, ↓tapeP_l, ↓after_next, ↓after_cont, ↓after_brk, ↓after_ret, ↓items_t, ↓items_l, ↓rev_l, ↓List.map_cons, ↓List.map_nil, ↓wipeR, ↓restR, ↓Option.getD_some, ↓Option.getD_none, ↓setTgs_nm, ↓compP_eq, Nat.reduceAdd, Nat.reduceLT, Nat.reduceLeDiff, Int.reduceLE, Int.reduceLT, Nat.reducePow, true_and, Int.reduceToNat, Int.reducePow, Int.reduceNeg]
        refine hd _ _ _ (by decide) (by decide) hS0 fun r S' h0 h1 hS' => ?_
        simp only [↓wi_nil (ρ := _ :: _), ↓wi_cons (ρ := _ :: _), ↓wi_asg (ρ := _ :: _), ↓wi_tape (ρ := _ :: _), ↓wi_asgT (ρ := _ :: _), ↓wi_setI (ρ := _ :: _), ↓wi_mt (ρ := _ :: _), ↓wi_ret (ρ := _ :: _), ↓wi_retN (ρ := _ :: _), ↓wi_iff (ρ := _ :: _), ↓wi_exp (ρ := _ :: _), ↓wi_pass (ρ := _ :: _), ↓wi_brk (ρ := _ :: _), ↓wi_cont (ρ := _ :: _), ↓we_lit (ρ := _ :: _), ↓we_gl (ρ := _ :: _), ↓we_var (ρ := _ :: _), ↓we_tup (ρ := _ :: _), ↓we_lst (ρ := _ :: _), ↓we_op (ρ := _ :: _), ↓we_neg (ρ := _ :: _), ↓we_cmp (ρ := _ :: _), ↓we_chain (ρ := _ :: _), ↓we_and (ρ := _ :: _), ↓we_or (ρ := _ :: _), ↓we_not (ρ := _ :: _), ↓we_ite (ρ := _ :: _), ↓we_idx (ρ := _ :: _), ↓we_slc (ρ := _ :: _), ↓we_rev (ρ := _ :: _), ↓we_call (ρ := _ :: _), ↓we_isi (ρ := _ :: _), ↓we_bi (ρ := _ :: _), ↓we_comp (ρ := _ :: _), ↓wl_nil (ρ := _ :: _), ↓wl_cons (ρ := _ :: _), ↓wpp_nil (ρ := _ :: _), ↓wpp_cons (ρ := _ :: _), ↓wa_nil (ρ := _ :: _), ↓wa_cons (ρ := _ :: _), ↓wo_nil (ρ := _ :: _), ↓wo_som (ρ := _ :: _), ↓ws_rg1 (ρ := _ :: _), ↓ws_rg2 (ρ := _ :: _), ↓ws_sq (ρ := _ :: _), ↓wc_nil (ρ := _ :: _), ↓wc_som (ρ := _ :: _), ↓brB_t, ↓brB_f, ↓varP_dat, ↓varP_own, ↓argP_dat, ↓argP_fresh, ↓callP1, ↓callP2, ↓callP3, ↓callP4, ↓callP5, ↓seq_next, ↓seq_ret, ↓seq_brk, ↓seq_cont, ↓asgP_dat, ↓asgP_own, ↓asgP_fr, ↓retP_dat, ↓retP_fresh, ↓done_ret, ↓done_next, ↓onO_some, ↓fz_dat, ↓fz_fresh, ↓add_ii, ↓sub_ii, ↓mul_ii, ↓mod_ii, ↓div_ii, ↓pow_ii, ↓add_tt, ↓add_ll, ↓add_ss, ↓mul_ti, ↓neg_i, ↓lt_ii, ↓le_ii, ↓gt_ii, ↓ge_ii, ↓eq_ii, ↓ne_ii, ↓eq_bb, ↓ne_bb, ↓eq_ss, ↓ne_ss, ↓len_t, ↓len_l, ↓len_s, ↓int_i, ↓list_t, ↓list_l, ↓list_s, ↓tuple_t, ↓tuple_l, ↓max_ii, ↓min_ii, ↓all_l, ↓any_l, ↓cell0, ↓cell1, ↓cell2, ↓rng1, ↓rng2, ↓Lit.d, ↓List.getElem?_cons_zero, ↓List.getElem?_cons_succ, ↓List.set_cons_zero, ↓List.set_cons_succ, ↓List.length_cons, ↓List.length_nil, ↓List.length_set, ↓natAbs10, ↓tapeP_l, ↓after_next, ↓after_cont, ↓after_brk, ↓after_ret, ↓items_t, ↓items_l, ↓rev_l, ↓List.map_cons, ↓List.map_nil, ↓wipeR, ↓restR, ↓Option.getD_some, ↓Option.getD_none, ↓setTgs_nm, ↓compP_eq, Nat.reduceAdd, Nat.reduceLT, Nat.reduceLeDiff, Int.reduceLE, Int.reduceLT, Nat.reducePow, true_and, Int.reduceToNat, Int.reducePow, Int.reduceNeg]
        refine ⟨⟨by omega, by omega⟩, rfl, by simp [sizeLine]; omega, ?_⟩
        refine comp_inv (J := TS) (P := Fit 10 (i + 1)) (fun d _ S hS => ?_) hS' (fun r S' hr hl hS' => ?_)
        · rw [wp_turn]
          simp only [↓wi_nil (ρ := _ :: _), ↓wi_cons (ρ := _ :: _), ↓wi_asg (ρ := _ :: _), ↓wi_tape (ρ := _ :: _), ↓wi_asgT (ρ := _ :: _), ↓wi_setI (ρ := _ :: _), ↓wi_mt (ρ := _ :: _), ↓wi_ret (ρ := _ :: _), ↓wi_retN (ρ := _ :: _), ↓wi_iff (ρ := _ :: _), ↓wi_exp (ρ := _ :: _), ↓wi_pass (ρ := _ :: _), ↓wi_brk (ρ := _ :: _), ↓wi_cont (ρ := _ :: _), ↓we_lit (ρ := _ :: _), ↓we_gl (ρ := _ :: _), ↓we_var (ρ := _ :: _), ↓we_tup (ρ := _ :: _), ↓we_lst (ρ := _ :: _), ↓we_op (ρ := _ :: _), ↓we_neg (ρ := _ :: _), ↓we_cmp (ρ := _ :: _), ↓we_chain (ρ := _ :: _), ↓we_and (ρ := _ :: _), ↓we_or (ρ := _ :: _), ↓we_not (ρ := _ :: _), ↓we_ite (ρ := _ :: _), ↓we_idx (ρ := _ :: _), ↓we_slc (ρ := _ :: _), ↓we_rev (ρ := _ :: _), ↓we_call (ρ := _ :: _), ↓we_isi (ρ := _ :: _), ↓we_bi (ρ := _ :: _), ↓we_comp (ρ := _ :: _), ↓wl_nil (ρ := _ :: _), ↓wl_cons (ρ := _ :: _), ↓wpp_nil (ρ := _ :: _), ↓wpp_cons (ρ := _ :: _), ↓wa_nil (ρ := _ :: _), ↓wa_cons (ρ := _ :: _), ↓wo_nil (ρ := _ :: _), ↓wo_som (ρ := _ :: _), ↓ws_rg1 (ρ := _ :: _), ↓ws_rg2 (ρ := _ :: _), ↓ws_sq (ρ := _ :: _), ↓wc_nil (ρ := _ :: _), ↓wc_som (ρ := _ :: _), ↓brB_t, ↓brB_f, ↓varP_dat, ↓varP_own, ↓argP_dat, ↓argP_fresh, ↓callP1, ↓callP2, ↓callP3, ↓callP4, ↓callP5, ↓seq_next, ↓seq_ret, ↓seq_brk, ↓seq_cont, ↓asgP_dat, ↓asgP_own, ↓asgP_fr, ↓retP_dat, ↓retP_fresh, ↓done_ret, ↓done_next, ↓onO_some, ↓fz_dat, ↓fz_fresh, ↓add_ii, ↓sub_ii, ↓mul_ii, ↓mod_ii, ↓div_ii, ↓pow_ii, ↓add_tt, ↓add_ll, ↓add_ss, ↓mul_ti, ↓neg_i, ↓lt_ii, ↓le_ii, ↓gt_ii, ↓ge_ii, ↓eq_ii, ↓ne_ii, ↓eq_bb, ↓ne_bb, ↓eq_ss, ↓ne_ss, ↓len_t, ↓len_l, ↓len_s, ↓int_i, ↓list_t, ↓list_l, ↓list_s, ↓tuple_t, ↓tuple_l, ↓max_ii, ↓min_ii, ↓all_l, ↓any_l, ↓cell0, ↓cell1, ↓cell2, ↓rng1, ↓rng2, ↓Lit.d, ↓List.getElem?_cons_zero, ↓List.getElem?_cons_succ, ↓List.set_cons_zero, ↓List.set_cons_succ, ↓List.length_cons, ↓List.length_nil, ↓List.length_set, ↓natAbs10, ↓tapeP_l, ↓after_next, ↓after_cont, ↓after_brk, ↓after_ret, ↓items_t, ↓items_l, ↓rev_l, ↓List.map_cons, ↓List.map_nil, ↓wipeR, ↓restR, ↓Option.getD_some, ↓Option.getD_none, ↓setTgs_nm, ↓compP_eq, Nat.reduceAdd, Nat.reduceLT, Nat.reduceLeDiff, Int.reduceLE, Int.reduceLT, Nat.reducePow, true_and, Int.reduceToNat, Int.reducePow, Int.reduceNeg]
          rw [show ((i + 1 : Nat) : Int) - 1 = (i : Int) from by omega]
          refine ih i rfl _ _ hS fun d S' hd hS' => ?_
          exact ⟨fun e he => by cases he; exact hd, rfl, hS'⟩
        · simp only [List.length_map, List.length_range] at hl
          simp only [↓wi_nil (ρ := _ :: _), ↓wi_cons (ρ := _ :: _), ↓wi_asg (ρ := _ :: _), ↓wi_tape (ρ := _ :: _), ↓wi_asgT (ρ := _ :: _), ↓wi_setI (ρ := _ :: _), ↓wi_mt (ρ := _ :: _), ↓wi_ret (ρ := _ :: _), ↓wi_retN (ρ := _ :: _), ↓wi_iff (ρ := _ :: _), ↓wi_exp (ρ := _ :: _), ↓wi_pass (ρ := _ :: _), ↓wi_brk (ρ := _ :: _), ↓wi_cont (ρ := _ :: _), ↓we_lit (ρ := _ :: _), ↓we_gl (ρ := _ :: _), ↓we_var (ρ := _ :: _), ↓we_tup (ρ := _ :: _), ↓we_lst (ρ := _ :: _), ↓we_op (ρ := _ :: _), ↓we_neg (ρ := _ :: _), ↓we_cmp (ρ := _ :: _), ↓we_chain (ρ := _ :: _), ↓we_and (ρ := _ :: _), ↓we_or (ρ := _ :: _), ↓we_not (ρ := _ :: _), ↓we_ite (ρ := _ :: _), ↓we_idx (ρ := _ :: _), ↓we_slc (ρ := _ :: _), ↓we_rev (ρ := _ :: _), ↓we_call (ρ := _ :: _), ↓we_isi (ρ := _ :: _), ↓we_bi (ρ := _ :: _), ↓we_comp (ρ := _ :: _), ↓wl_nil (ρ := _ :: _), ↓wl_cons (ρ := _ :: _), ↓wpp_nil (ρ := _ :: _), ↓wpp_cons (ρ := _ :: _), ↓wa_nil (ρ := _ :: _), ↓wa_cons (ρ := _ :: _), ↓wo_nil (ρ := _ :: _), ↓wo_som (ρ := _ :: _), ↓ws_rg1 (ρ := _ :: _), ↓ws_rg2 (ρ := _ :: _), ↓ws_sq (ρ := _ :: _), ↓wc_nil (ρ := _ :: _), ↓wc_som (ρ := _ :: _), ↓brB_t, ↓brB_f, ↓varP_dat, ↓varP_own, ↓argP_dat, ↓argP_fresh, ↓callP1, ↓callP2, ↓callP3, ↓callP4, ↓callP5, ↓seq_next, ↓seq_ret, ↓seq_brk, ↓seq_cont, ↓asgP_dat, ↓asgP_own, ↓asgP_fr, ↓retP_dat, ↓retP_fresh, ↓done_ret, ↓done_next, ↓onO_some, ↓fz_dat, ↓fz_fresh, ↓add_ii, ↓sub_ii, ↓mul_ii, ↓mod_ii, ↓div_ii, ↓pow_ii, ↓add_tt, ↓add_ll, ↓add_ss, ↓mul_ti, ↓neg_i, ↓lt_ii, ↓le_ii, ↓gt_ii, ↓ge_ii, ↓eq_ii, ↓ne_ii, ↓eq_bb, ↓ne_bb, ↓eq_ss, ↓ne_ss, ↓len_t, ↓len_l, ↓len_s, ↓int_i, ↓list_t, ↓list_l, ↓list_s, ↓tuple_t, ↓tuple_l, ↓max_ii, ↓min_ii, ↓all_l, ↓any_l, ↓cell0, ↓cell1, ↓cell2, ↓rng1, ↓rng2, ↓Lit.d, ↓List.getElem?_cons_zero, ↓List.getElem?_cons_succ, ↓List.set_cons_zero, ↓List.set_cons_succ, ↓List.length_cons, ↓List.length_nil, ↓List.length_set, ↓natAbs10, ↓tapeP_l, ↓after_next, ↓after_cont, ↓after_brk, ↓after_ret, ↓items_t, ↓items_l, ↓rev_l, ↓List.map_cons, ↓List.map_nil, ↓wipeR, ↓restR, ↓Option.getD_some, ↓Option.getD_none, ↓setTgs_nm, ↓compP_eq, Nat.reduceAdd, Nat.reduceLT, Nat.reduceLeDiff, Int.reduceLE, Int.reduceLT, Nat.reducePow, true_and, Int.reduceToNat, Int.reducePow, Int.reduceNeg]
          exact ⟨_, _, hr, by omega, hS', at_mk⟩
      rintro _ _ ⟨ds, S1, hds, hl, hS1, rfl, rfl⟩
      simp only [↓wi_nil (ρ := _ :: _), ↓wi_cons (ρ := _ :: _), ↓wi_asg (ρ := _ :: _), ↓wi_tape (ρ := _ :: _), ↓wi_asgT (ρ := _ :: _), ↓wi_setI (ρ := _ :: _), ↓wi_mt (ρ := _ :: _), ↓wi_ret (ρ := _ :: _), ↓wi_retN (ρ := _ :: _), ↓wi_iff (ρ := _ :: _), ↓wi_exp (ρ := _ :: _), ↓wi_pass (ρ := _ :: _), ↓wi_brk (ρ := _ :: _), ↓wi_cont (ρ := _ :: _), ↓we_lit (ρ := _ :: _), ↓we_gl (ρ := _ :: _), ↓we_var (ρ := _ :: _), ↓we_tup (ρ := _ :: _), ↓we_lst (ρ := _ :: _), ↓we_op (ρ := _ :: _), ↓we_neg (ρ := _ :: _), ↓we_cmp (ρ := _ :: _), ↓we_chain (ρ := _ :: _), ↓we_and (ρ := _ :: _), ↓we_or (ρ := _ :: _), ↓we_not (ρ := _ :: _), ↓we_ite (ρ := _ :: _), ↓we_idx (ρ := _ :: _), ↓we_slc (ρ := _ :: _), ↓we_rev (ρ := _ :: _), ↓we_call (ρ := _ :: _), ↓we_isi (ρ := _ :: _), ↓we_bi (ρ := _ :: _), ↓we_comp (ρ := _ :: _), ↓wl_nil (ρ := _ :: _), ↓wl_cons (ρ := _ :: _), ↓wpp_nil (ρ := _ :: _), ↓wpp_cons (ρ := _ :: _), ↓wa_nil (ρ := _ :: _), ↓wa_cons (ρ := _ :: _), ↓wo_nil (ρ := _ :: _), ↓wo_som (ρ := _ :: _), ↓ws_rg1 (ρ := _ :: _), ↓ws_rg2 (ρ := _ :: _), ↓ws_sq (ρ := _ :: _), ↓wc_nil (ρ := _ :: _), ↓wc_som (ρ := _ :: _), ↓brB_t, ↓brB_f, ↓varP_dat, ↓varP_own, ↓argP_dat, ↓argP_fresh, ↓callP1, ↓callP2, ↓callP3, ↓callP4, ↓callP5, ↓seq_next, ↓seq_ret, ↓seq_brk, ↓seq_cont, ↓asgP_dat, ↓asgP_own, ↓asgP_fr, ↓retP_dat, ↓retP_fresh, ↓done_ret, ↓done_next, ↓onO_some, ↓fz_dat, ↓fz_fresh, ↓add_ii, ↓sub_ii, ↓mul_ii, ↓mod_ii, ↓div_ii, ↓pow_ii, ↓add_tt, ↓add_ll, ↓add_ss, ↓mul_ti, ↓neg_i, ↓lt_ii, ↓le_ii, ↓gt_ii, ↓ge_ii, ↓eq_ii, ↓ne_ii, ↓eq_bb, ↓ne_bb, ↓eq_ss, ↓ne_ss, ↓len_t, ↓len_l, ↓len_s, ↓int_i, ↓list_t, ↓list_l, ↓list_s, ↓tuple_t, ↓tuple_l, ↓max_ii, ↓min_ii, ↓all_l, ↓any_l, ↓cell0, ↓cell1, ↓cell2, ↓rng1, ↓rng2, ↓Lit.d, ↓List.getElem?_cons_zero, ↓List.getElem?_cons_succ, ↓List.set_cons_zero, ↓List.set_cons_succ, ↓List.length_cons, ↓List.length_nil, ↓List.length_set, ↓natAbs10, ↓tapeP_l, ↓after_next, ↓after_cont, ↓after_brk, ↓after_ret, ↓items_t, ↓items_l, ↓rev_l, ↓List.map_cons, ↓List.map_nil, ↓wipeR, ↓restR, ↓Option.getD_some, ↓Option.getD_none, ↓setTgs_nm, ↓compP_eq, Nat.reduceAdd, Nat.reduceLT, Nat.reduceLeDiff, Int.reduceLE, Int.reduceLT, Nat.reducePow, true_and, Int.reduceToNat, Int.reducePow, Int.reduceNeg]
      refine ⟨by decide, ?_⟩
      have hf : ∀ d ∈ [D.lst ds, D.tup ds, D.tup ds, D.tup ds], Fit 10 (i + 1 + 1) d := by
        intro d hd
        simp only [List.mem_cons, List.not_mem_nil, or_false] at hd
        rcases hd with rfl | rfl | rfl | rfl <;> exact ⟨by omega, hds⟩
      obtain ⟨k, a, e1, e2, e3⟩ := getElem?_ix (xs := [D.lst ds, D.tup ds, D.tup ds, D.tup ds]) h0 (by simpa using hc)
      refine ix_l e1 e2 ?_
      exact hP _ _ (hf a e3) hS1
    · rintro _ _ ⟨_, hc, rfl, rfl⟩
      simp only [↓wi_nil (ρ := _ :: _), ↓wi_cons (ρ := _ :: _), ↓wi_asg (ρ := _ :: _), ↓wi_tape (ρ := _ :: _), ↓wi_asgT (ρ := _ :: _), ↓wi_setI (ρ := _ :: _), ↓wi_mt (ρ := _ :: _), ↓wi_ret (ρ := _ :: _), ↓wi_retN (ρ := _ :: _), ↓wi_iff (ρ := _ :: _), ↓wi_exp (ρ := _ :: _), ↓wi_pass (ρ := _ :: _), ↓wi_brk (ρ := _ :: _), ↓wi_cont (ρ := _ :: _), ↓we_lit (ρ := _ :: _), ↓we_gl (ρ := _ :: _), ↓we_var (ρ := _ :: _), ↓we_tup (ρ := _ :: _), ↓we_lst (ρ := _ :: _), ↓we_op (ρ := _ :: _), ↓we_neg (ρ := _ :: _), ↓we_cmp (ρ := _ :: _), ↓we_chain (ρ := _ :: _), ↓we_and (ρ := _ :: _), ↓we_or (ρ := _ :: _), ↓we_not (ρ := _ :: _), ↓we_ite (ρ := _ :: _), ↓we_idx (ρ := _ :: _), ↓we_slc (ρ := _ :: _), ↓we_rev (ρ := _ :: _), ↓we_call (ρ := _ :: _), ↓we_isi (ρ := _ :: _), ↓we_bi (ρ := _ :: _), ↓we_comp (ρ := _ :: _), ↓wl_nil (ρ := _ :: _), ↓wl_cons (ρ := _ :: _), ↓wpp_nil (ρ := _ :: _), ↓wpp_cons (ρ := _ :: _), ↓wa_nil (ρ := _ :: _), ↓wa_cons (ρ := _ :: _), ↓wo_nil (ρ := _ :: _), ↓wo_som (ρ := _ :: _), ↓ws_rg1 (ρ := _ :: _), ↓ws_rg2 (ρ := _ :: _), ↓ws_sq (ρ := _ :: _), ↓wc_nil (ρ := _ :: _), ↓wc_som (ρ := _ :: _), ↓brB_t, ↓brB_f, ↓varP_dat, ↓varP_own, ↓argP_dat, ↓argP_fresh, ↓callP1, ↓callP2, ↓callP3, ↓callP4, ↓callP5, ↓seq_next, ↓seq_ret, ↓seq_brk, ↓seq_cont, ↓asgP_dat, ↓asgP_own, ↓asgP_fr, ↓retP_dat, ↓retP_fresh, ↓done_ret, ↓done_next, ↓onO_some, ↓fz_dat, ↓fz_fresh, ↓add_ii, ↓sub_ii, ↓mul_ii, ↓mod_ii, ↓div_ii, ↓pow_ii, ↓add_tt, ↓add_ll, ↓add_ss, ↓mul_ti, ↓neg_i, ↓lt_ii, ↓le_ii, ↓gt_ii, ↓ge_ii, ↓eq_ii, ↓ne_ii, ↓eq_bb, ↓ne_bb, ↓eq_ss, ↓ne_ss, ↓len_t, ↓len_l, ↓len_s, ↓int_i, ↓list_t, ↓list_l, ↓list_s, ↓tuple_t, ↓tuple_l, ↓max_ii, ↓min_ii, ↓all_l, ↓any_l, ↓cell0, ↓cell1, ↓cell2, ↓rng1, ↓rng2, ↓Lit.d, ↓List.getElem?_cons_zero, ↓List.getElem?_cons_succ, ↓List.set_cons_zero, ↓List.set_cons_succ, ↓List.length_cons, ↓List.length_nil, ↓List.length_set, ↓natAbs10, ↓tapeP_l, ↓after_next, ↓after_cont, ↓after_brk, ↓after_ret, ↓items_t, ↓items_l, ↓rev_l, ↓List.map_cons, ↓List.map_nil, ↓wipeR, ↓restR, ↓Option.getD_some, ↓Option.getD_none, ↓setTgs_nm, ↓compP_eq, Nat.reduceAdd, Nat.reduceLT, Nat.reduceLeDiff, Int.reduceLE, Int.reduceLT, Nat.reducePow, true_and, Int.reduceToNat, Int.reducePow, Int.reduceNeg]
      exact ⟨hc rfl, at_mk⟩
  rintro _ _ ⟨hc, rfl, rfl⟩
  refine wi_cut (fun ρ S => 8 ≤ c ∧ At [some (.dat (.cell 0)), some (.dat (.int j)), some (.dat (.int c)), none, none] S0 ρ S) ?_ ?_
  · refine wi_if (fun t ρ S => t = decide (c < 8) ∧ At [some (.dat (.cell 0)), some (.dat (.int j)), some (.dat (.int c)), none, none] S0 ρ S) ?_ ?_ ?_
    · simp only [↓wi_nil (ρ := _ :: _), ↓wi_cons (ρ := _ :: _), ↓wi_asg (ρ := _ :: _), ↓wi_tape (ρ := _ :: _), ↓wi_asgT (ρ := _ :: _), ↓wi_setI (ρ := _ :: _), ↓wi_mt (ρ := _ :: _), ↓wi_ret (ρ := _ :: _), ↓wi_retN (ρ := _ :: _), ↓wi_iff (ρ := _ :: _), ↓wi_exp (ρ := _ :: _), ↓wi_pass (ρ := _ :: _), ↓wi_brk (ρ := _ :: _), ↓wi_cont (ρ := _ :: _), ↓we_lit (ρ := _ :: _), ↓we_gl (ρ := _ :: _), ↓we_var (ρ := _ :: _), ↓we_tup (ρ := _ :: _), ↓we_lst (ρ := _ :: _), ↓we_op (ρ := _ :: _), ↓we_neg (ρ := _ :: _), ↓we_cmp (ρ := _ :: _), ↓we_chain (ρ := _ :: _), ↓we_and (ρ := _ :: _), ↓we_or (ρ := _ :: _), ↓we_not (ρ := _ :: _), ↓we_ite (ρ := _ :: _), ↓we_idx (ρ := _ :: _), ↓we_slc (ρ := _ :: _), ↓we_rev (ρ := _ :: _), ↓we_call (ρ := _ :: _), ↓we_isi (ρ := _ :: _), ↓we_bi (ρ := _ :: _), ↓we_comp (ρ := _ :: _), ↓wl_nil (ρ := _ :: _), ↓wl_cons (ρ := _ :: _), ↓wpp_nil (ρ := _ :: _), ↓wpp_cons (ρ := _ :: _), ↓wa_nil (ρ := _ :: _), ↓wa_cons (ρ := _ :: _), ↓wo_nil (ρ := _ :: _), ↓wo_som (ρ := _ :: _), ↓ws_rg1 (ρ := _ :: _), ↓ws_rg2 (ρ := _ :: _), ↓ws_sq (ρ := _ :: _), ↓wc_nil (ρ := _ :: _), ↓wc_som (ρ := _ :: _), ↓brB_t, ↓brB_f, ↓varP_dat, ↓varP_own, ↓argP_dat, ↓argP_fresh, ↓callP1, ↓callP2, ↓callP3, ↓callP4, ↓callP5, ↓seq_next, ↓seq_ret, ↓seq_brk, ↓seq_cont, ↓asgP_dat, ↓asgP_own, ↓asgP_fr, ↓retP_dat, ↓retP_fresh, ↓done_ret, ↓done_next, ↓onO_some, ↓fz_dat, ↓fz_fresh, ↓add_ii, ↓sub_ii, ↓mul_ii, ↓mod_ii, ↓div_ii, ↓pow_ii, ↓add_tt, ↓add_ll, ↓add_ss, ↓mul_ti, ↓neg_i, ↓lt_ii, ↓le_ii, ↓gt_ii, ↓ge_ii, ↓eq_ii, ↓ne_ii, ↓eq_bb, ↓ne_bb, ↓eq_ss, ↓ne_ss, ↓len_t, ↓len_l, ↓len_s, ↓int_i, ↓list_t, ↓list_l, ↓list_s, ↓tuple_t, ↓tuple_l, ↓max_ii, ↓min_ii, ↓all_l, ↓any_l, ↓cell0, ↓cell1, ↓cell2, ↓rng1, ↓rng2, ↓Lit.d, ↓List.getElem?_cons_zero, ↓List.getElem?_cons_succ, ↓List.set_cons_zero, ↓List.set_cons_succ, ↓List.length_cons, ↓List.length_nil, ↓List.length_set, ↓natAbs10, ↓tapeP_l, ↓after_next, ↓after_cont, ↓after_brk, ↓after_ret, ↓items_t, ↓items_l, ↓rev_l, ↓List.map_cons, ↓List.map_nil, ↓wipeR, ↓restR, ↓Option.getD_some, ↓Option.getD_none, ↓setTgs_nm, ↓compP_eq, Nat.reduceAdd, Nat.reduceLT, Nat.reduceLeDiff, Int.reduceLE, Int.reduceLT, Nat.reducePow, true_and, Int.reduceToNat, Int.reducePow, Int.reduceNeg]
      exact ⟨_, rfl, rfl, at_mk⟩
    · rintro _ _ ⟨h, rfl, rfl⟩
      simp only [↓wi_nil (ρ := _ :: _), ↓wi_cons (ρ := _ :: _), ↓wi_asg (ρ := _ :: _), ↓wi_tape (ρ := _ :: _), ↓wi_asgT (ρ := _ :: _), ↓wi_setI (ρ := _ :: _), ↓wi_mt (ρ := _ :: _), ↓wi_ret (ρ := _ :: _), ↓wi_retN (ρ := _ :: _), ↓wi_iff (ρ := _ :: _), ↓wi_exp (ρ := _ :: _), ↓wi_pass (ρ := _ :: _), ↓wi_brk (ρ := _ :: _), ↓wi_cont (ρ := _ :: _), ↓we_lit (ρ := _ :: _), ↓we_gl (ρ := _ :: _), ↓we_var (ρ := _ :: _), ↓we_tup (ρ := _ :: _), ↓we_lst (ρ := _ :: _), ↓we_op (ρ := _ :: _), ↓we_neg (ρ := _ :: _), ↓we_cmp (ρ := _ :: _), ↓we_chain (ρ := _ :: _), ↓we_and (ρ := _ :: _), ↓we_or (ρ := _ :: _), ↓we_not (ρ := _ :: _), ↓we_ite (ρ := _ :: _), ↓we_idx (ρ := _ :: _), ↓we_slc (ρ := _ :: _), ↓we_rev (ρ := _ :: _), ↓we_call (ρ := _ :: _), ↓we_isi (ρ := _ :: _), ↓we_bi (ρ := _ :: _), ↓we_comp (ρ := _ :: _), ↓wl_nil (ρ := _ :: _), ↓wl_cons (ρ := _ :: _), ↓wpp_nil (ρ := _ :: _), ↓wpp_cons (ρ := _ :: _), ↓wa_nil (ρ := _ :: _), ↓wa_cons (ρ := _ :: _), ↓wo_nil (ρ := _ :: _), ↓wo_som (ρ := _ :: _), ↓ws_rg1 (ρ := _ :: _), ↓ws_rg2 (ρ := _ :: _), ↓ws_sq (ρ := _ :: _), ↓wc_nil (ρ := _ :: _), ↓wc_som (ρ := _ :: _), ↓brB_t, ↓brB_f, ↓varP_dat, ↓varP_own, ↓argP_dat, ↓argP_fresh, ↓callP1, ↓callP2, ↓callP3, ↓callP4, ↓callP5, ↓seq_next, ↓seq_ret, ↓seq_brk, ↓seq_cont, ↓asgP_dat, ↓asgP_own, ↓asgP_fr, ↓retP_dat, ↓retP_fresh, ↓done_ret, ↓done_next, ↓onO_some, ↓fz_dat, ↓fz_fresh, ↓add_ii, ↓sub_ii, ↓mul_ii, ↓mod_ii, ↓div_ii, ↓pow_ii, ↓add_tt, ↓add_ll, ↓add_ss, ↓mul_ti, ↓neg_i, ↓lt_ii, ↓le_ii, ↓gt_ii, ↓ge_ii, ↓eq_ii, ↓ne_ii, ↓eq_bb, ↓ne_bb, ↓eq_ss, ↓ne_ss, ↓len_t, ↓len_l, ↓len_s, ↓int_i, ↓list_t, ↓list_l, ↓list_s, ↓tuple_t, ↓tuple_l, ↓max_ii, ↓min_ii, ↓all_l, ↓any_l, ↓cell0, ↓cell1, ↓cell2, ↓rng1, ↓rng2, ↓Lit.d, ↓List.getElem?_cons_zero, ↓List.getElem?_cons_succ, ↓List.set_cons_zero, ↓List.set_cons_succ, ↓List.length_cons, ↓List.length_nil, ↓List.length_set, ↓natAbs10, ↓tapeP_l, ↓after_next, ↓after_cont, ↓after_brk, ↓after_ret, ↓items_t, ↓items_l, ↓rev_l, ↓List.map_cons, ↓List.map_nil, ↓wipeR, ↓restR, ↓Option.getD_some, ↓Option.getD_none, ↓setTgs_nm, ↓compP_eq, Nat.reduceAdd, Nat.reduceLT, Nat.reduceLeDiff, Int.reduceLE, Int.reduceLT, Nat.reducePow, true_and, Int.reduceToNat, Int.reducePow, Int.reduceNeg]
      refine hd _ _ _ (by decide) (by decide) hS0 fun r S1 g0 g1 hS1 => ?_
      simp only [↓wi_nil (ρ := _ :: _), ↓wi_cons (ρ := _ :: _), ↓wi_asg (ρ := _ :: _), ↓wi_tape (ρ := _ :: _), ↓wi_asgT (ρ := _ :: _), ↓wi_setI (ρ := _ :: _), ↓wi_mt (ρ := _ :: _), ↓wi_ret (ρ := _ :: _), ↓wi_retN (ρ := _ :: _), ↓wi_iff (ρ := _ :: _), ↓wi_exp (ρ := _ :: _), ↓wi_pass (ρ := _ :: _), ↓wi_brk (ρ := _ :: _), ↓wi_cont (ρ := _ :: _), ↓we_lit (ρ := _ :: _), ↓we_gl (ρ := _ :: _), ↓we_var (ρ := _ :: _), ↓we_tup (ρ := _ :: _), ↓we_lst (ρ := _ :: _), ↓we_op (ρ := _ :: _), ↓we_neg (ρ := _ :: _), ↓we_cmp (ρ := _ :: _), ↓we_chain (ρ := _ :: _), ↓we_and (ρ := _ :: _), ↓we_or (ρ := _ :: _), ↓we_not (ρ := _ :: _), ↓we_ite (ρ := _ :: _), ↓we_idx (ρ := _ :: _), ↓we_slc (ρ := _ :: _), ↓we_rev (ρ := _ :: _), ↓we_call (ρ := _ :: _), ↓we_isi (ρ := _ :: _), ↓we_bi (ρ := _ :: _), ↓we_comp (ρ := _ :: _), ↓wl_nil (ρ := _ :: _), ↓wl_cons (ρ := _ :: _), ↓wpp_nil (ρ := _ :: _), ↓wpp_cons (ρ := _ :: _), ↓wa_nil (ρ := _ :: _), ↓wa_cons (ρ := _ :: _), ↓wo_nil (ρ := _ :: _), ↓wo_som (ρ := _ :: _), ↓ws_rg1 (ρ := _ :: _), ↓ws_rg2 (ρ := _ :: _), ↓ws_sq (ρ := _ :: _), ↓wc_nil (ρ := _ :: _), ↓wc_som (ρ := _ :: _), ↓brB_t, ↓brB_f, ↓varP_dat, ↓varP_own, ↓argP_dat, ↓argP_fresh, ↓callP1, ↓callP2, ↓callP3, ↓callP4, ↓callP5, ↓seq_next, ↓seq_ret, ↓seq_brk, ↓seq_cont, ↓asgP_dat, ↓asgP_own, ↓asgP_fr, ↓retP_dat, ↓retP_fresh, ↓done_ret, ↓done_next, ↓onO_some, ↓fz_dat, ↓fz_fresh, ↓add_ii, ↓sub_ii, ↓mul_ii, ↓mod_ii, ↓div_ii, ↓pow_ii, ↓add_tt, ↓add_ll, ↓add_ss, ↓mul_ti, ↓neg_i, ↓lt_ii, ↓le_ii, ↓gt_ii, ↓ge_ii, ↓eq_ii, ↓ne_ii, ↓eq_bb, ↓ne_bb, ↓eq_ss, ↓ne_ss, ↓len_t, ↓len_l, ↓len_s, ↓int_i, ↓list_t, ↓list_l, ↓list_s, ↓tuple_t, ↓tuple_l, ↓max_ii, ↓min_ii, ↓all_l, ↓any_l, ↓cell0, ↓cell1, ↓cell2, ↓rng1, ↓rng2, ↓Lit.d, ↓List.getElem?_cons_zero, ↓List.getElem?_cons_succ, ↓List.set_cons_zero, ↓List.set_cons_succ, ↓List.length_cons, ↓List.length_nil, ↓List.length_set, ↓natAbs10, ↓tapeP_l, ↓after_next, ↓after_cont, ↓after_brk, ↓after_ret, ↓items_t, ↓items_l, ↓rev_l, ↓List.map_cons, ↓List.map_nil, ↓wipeR, ↓restR, ↓Option.getD_some, ↓Option.getD_none, ↓setTgs_nm, ↓compP_eq, Nat.reduceAdd, Nat.reduceLT, Nat.reduceLeDiff, Int.reduceLE, Int.reduceLT, Nat.reducePow, true_and, Int.reduceToNat, Int.reducePow, Int.reduceNeg]
      refine hd _ _ _ (by decide) (by decide) hS1 fun r2 S2 g2 g3 hS2 => ?_
      simp only [↓wi_nil (ρ := _ :: _), ↓wi_cons (ρ := _ :: _), ↓wi_asg (ρ := _ :: _), ↓wi_tape (ρ := _ :: _), ↓wi_asgT (ρ := _ :: _), ↓wi_setI (ρ := _ :: _), ↓wi_mt (ρ := _ :: _), ↓wi_ret (ρ := _ :: _), ↓wi_retN (ρ := _ :: _), ↓wi_iff (ρ := _ :: _), ↓wi_exp (ρ := _ :: _), ↓wi_pass (ρ := _ :: _), ↓wi_brk (ρ := _ :: _), ↓wi_cont (ρ := _ :: _), ↓we_lit (ρ := _ :: _), ↓we_gl (ρ := _ :: _), ↓we_var (ρ := _ :: _), ↓we_tup (ρ := _ :: _), ↓we_lst (ρ := _ :: _), ↓we_op (ρ := _ :: _), ↓we_neg (ρ := _ :: _), ↓we_cmp (ρ := _ :: _), ↓we_chain (ρ := _ :: _), ↓we_and (ρ := _ :: _), ↓we_or (ρ := _ :: _), ↓we_not (ρ := _ :: _), ↓we_ite (ρ := _ :: _), ↓we_idx (ρ := _ :: _), ↓we_slc (ρ := _ :: _), ↓we_rev (ρ := _ :: _), ↓we_call (ρ := _ :: _), ↓we_isi (ρ := _ :: _), ↓we_bi (ρ := _ :: _), ↓we_comp (ρ := _ :: _), ↓wl_nil (ρ := _ :: _), ↓wl_cons (ρ := _ :: _), ↓wpp_nil (ρ := _ :: _), ↓wpp_cons (ρ := _ :: _), ↓wa_nil (ρ := _ :: _), ↓wa_cons (ρ := _ :: _), ↓wo_nil (ρ := _ :: _), ↓wo_som (ρ := _ :: _), ↓ws_rg1 (ρ := _ :: _), ↓ws_rg2 (ρ := _ :: _), ↓ws_sq (ρ := _ :: _), ↓wc_nil (ρ := _ :: _), ↓wc_som (ρ := _ :: _), ↓brB_t, ↓brB_f, ↓varP_dat, ↓varP_own, ↓argP_dat, ↓argP_fresh, ↓callP1, ↓callP2, ↓callP3, ↓callP4, ↓callP5, ↓seq_next, ↓seq_ret, ↓seq_brk, ↓seq_cont, ↓asgP_dat, ↓asgP_own, ↓asgP_fr, ↓retP_dat, ↓retP_fresh, ↓done_ret, ↓done_next, ↓onO_some, ↓fz_dat, ↓fz_fresh, ↓add_ii, ↓sub_ii, ↓mul_ii, ↓mod_ii, ↓div_ii, ↓pow_ii, ↓add_tt, ↓add_ll, ↓add_ss, ↓mul_ti, ↓neg_i, ↓lt_ii, ↓le_ii, ↓gt_ii, ↓ge_ii, ↓eq_ii, ↓ne_ii, ↓eq_bb, ↓ne_bb, ↓eq_ss, ↓ne_ss, ↓len_t, ↓len_l, ↓len_s, ↓int_i, ↓list_t, ↓list_l, ↓list_s, ↓tuple_t, ↓tuple_l, ↓max_ii, ↓min_ii, ↓all_l, ↓any_l, ↓cell0, ↓cell1, ↓cell2, ↓rng1, ↓rng2, ↓Lit.d, ↓List.getElem?_cons_zero, ↓List.getElem?_cons_succ, ↓List.set_cons_zero, ↓List.set_cons_succ, ↓List.length_cons, ↓List.length_nil, ↓List.length_set, ↓natAbs10, ↓tapeP_l, ↓after_next, ↓after_cont, ↓after_brk, ↓after_ret, ↓items_t, ↓items_l, ↓rev_l, ↓List.map_cons, ↓List.map_nil, ↓wipeR, ↓restR, ↓Option.getD_some, ↓Option.getD_none, ↓setTgs_nm, ↓compP_eq, Nat.reduceAdd, Nat.reduceLT, Nat.reduceLeDiff, Int.reduceLE, Int.reduceLT, Nat.reducePow, true_and, Int.reduceToNat, Int.reducePow, Int.reduceNeg]
      refine ⟨by decide, ?_⟩
      have h8 : c < 8 := of_decide_eq_true h.symm
      obtain ⟨k, a, e1, e2, e3⟩ := getElem?_ix (xs := [D.int (r - 2), D.int r2, D.int 0, D.int 3]) (i := if c - 4 > 0 then c - 4 else 0) (by split <;> omega) (by show _ < (4 : Int); split <;> omega)
      refine ix_l e1 e2 ?_
      refine hP _ _ ?_ hS2
      simp only [List.mem_cons, List.not_mem_nil, or_false] at e3
      rcases e3 with rfl | rfl | rfl | rfl <;> exact Fit.int
    · rintro _ _ ⟨h, rfl, rfl⟩
      simp only [↓wi_nil (ρ := _ :: _), ↓wi_cons (ρ := _ :: _), ↓wi_asg (ρ := _ :: _), ↓wi_tape (ρ := _ :: _), ↓wi_asgT (ρ := _ :: _), ↓wi_setI (ρ := _ :: _), ↓wi_mt (ρ := _ :: _), ↓wi_ret (ρ := _ :: _), ↓wi_retN (ρ := _ :: _), ↓wi_iff (ρ := _ :: _), ↓wi_exp (ρ := _ :: _), ↓wi_pass (ρ := _ :: _), ↓wi_brk (ρ := _ :: _), ↓wi_cont (ρ := _ :: _), ↓we_lit (ρ := _ :: _), ↓we_gl (ρ := _ :: _), ↓we_var (ρ := _ :: _), ↓we_tup (ρ := _ :: _), ↓we_lst (ρ := _ :: _), ↓we_op (ρ := _ :: _), ↓we_neg (ρ := _ :: _), ↓we_cmp (ρ := _ :: _), ↓we_chain (ρ := _ :: _), ↓we_and (ρ := _ :: _), ↓we_or (ρ := _ :: _), ↓we_not (ρ := _ :: _), ↓we_ite (ρ := _ :: _), ↓we_idx (ρ := _ :: _), ↓we_slc (ρ := _ :: _), ↓we_rev (ρ := _ :: _), ↓we_call (ρ := _ :: _), ↓we_isi (ρ := _ :: _), ↓we_bi (ρ := _ :: _), ↓we_comp (ρ := _ :: _), ↓wl_nil (ρ := _ :: _), ↓wl_cons (ρ := _ :: _), ↓wpp_nil (ρ := _ :: _), ↓wpp_cons (ρ := _ :: _), ↓wa_nil (ρ := _ :: _), ↓wa_cons (ρ := _ :: _), ↓wo_nil (ρ := _ :: _), ↓wo_som (ρ := _ :: _), ↓ws_rg1 (ρ := _ :: _), ↓ws_rg2 (ρ := _ :: _), ↓ws_sq (ρ := _ :: _), ↓wc_nil (ρ := _ :: _), ↓wc_som (ρ := _ :: _), ↓brB_t, ↓brB_f, ↓varP_dat, ↓varP_own, ↓argP_dat, ↓argP_fresh, ↓callP1, ↓callP2, ↓callP3, ↓callP4, ↓callP5, ↓seq_next, ↓seq_ret, ↓seq_brk, ↓seq_cont, ↓asgP_dat, ↓asgP_own, ↓asgP_fr, ↓retP_dat, ↓retP_fresh, ↓done_ret, ↓done_next, ↓onO_some, ↓fz_dat, ↓fz_fresh, ↓add_ii, ↓sub_ii, ↓mul_ii, ↓mod_ii, ↓div_ii, ↓pow_ii, ↓add_tt, ↓add_ll, ↓add_ss, ↓mul_ti, ↓neg_i, ↓lt_ii, ↓le_ii, ↓gt_ii, ↓ge_ii, ↓eq_ii, ↓ne_ii, ↓eq_bb, ↓ne_bb, ↓eq_ss, ↓ne_ss, ↓len_t, ↓len_l, ↓len_s, ↓int_i, ↓list_t, ↓list_l, ↓list_s, ↓tuple_t, ↓tuple_l, ↓max_ii, ↓min_ii, ↓all_l, ↓any_l, ↓cell0, ↓cell1, ↓cell2, ↓rng1, ↓rng2, ↓Lit.d, ↓List.getElem?_cons_zero, ↓List.getElem?_cons_succ, ↓List.set_cons_zero, ↓List.set_cons_succ, ↓List.length_cons, ↓List.length_nil, ↓List.length_set, ↓natAbs10, ↓tapeP_l, ↓after_next, ↓after_cont, ↓after_brk, ↓after_ret, ↓items_t, ↓items_l, ↓rev_l, ↓List.map_cons, ↓List.map_nil, ↓wipeR, ↓restR, ↓Option.getD_some, ↓Option.getD_none, ↓setTgs_nm, ↓compP_eq, Nat.reduceAdd, Nat.reduceLT, Nat.reduceLeDiff, Int.reduceLE, Int.reduceLT, Nat.reducePow, true_and, Int.reduceToNat, Int.reducePow, Int.reduceNeg]
      exact ⟨by have := of_decide_eq_false h.symm; omega, at_mk⟩
  rintro _ _ ⟨h8, rfl, rfl⟩
  simp only [↓wi_nil (ρ := _ :: _), ↓wi_cons (ρ := _ :: _), ↓wi_asg (ρ := _ :: _), ↓wi_tape (ρ := _ :: _), ↓wi_asgT (ρ := _ :: _), ↓wi_setI (ρ := _ :: _), ↓wi_mt (ρ := _ :: _), ↓wi_ret (ρ := _ :: _), ↓wi_retN (ρ := _ :: _), ↓wi_iff (ρ := _ :: _), ↓wi_exp (ρ := _ :: _), ↓wi_pass (ρ := _ :: _), ↓wi_brk (ρ := _ :: _), ↓wi_cont (ρ := _ :: _), ↓we_lit (ρ := _ :: _), ↓we_gl (ρ := _ :: _), ↓we_var (ρ := _ :: _), ↓we_tup (ρ := _ :: _), ↓we_lst (ρ := _ :: _), ↓we_op (ρ := _ :: _), ↓we_neg (ρ := _ :: _), ↓we_cmp (ρ := _ :: _), ↓we_chain (ρ := _ :: _), ↓we_and (ρ := _ :: _), ↓we_or (ρ := _ :: _), ↓we_not (ρ := _ :: _), ↓we_ite (ρ := _ :: _), ↓we_idx (ρ := _ :: _), ↓we_slc (ρ := _ :: _), ↓we_rev (ρ := _ :: _), ↓we_call (ρ := _ :: _), ↓we_isi (ρ := _ :: _), ↓we_bi (ρ := _ :: _), ↓we_comp (ρ := _ :: _), ↓wl_nil (ρ := _ :: _), ↓wl_cons (ρ := _ :: _), ↓wpp_nil (ρ := _ :: _), ↓wpp_cons (ρ := _ :: _), ↓wa_nil (ρ := _ :: _), ↓wa_cons (ρ := _ :: _), ↓wo_nil (ρ := _ :: _), ↓wo_som (ρ := _ :: _), ↓ws_rg1 (ρ := _ :: _), ↓ws_rg2 (ρ := _ :: _), ↓ws_sq (ρ := _ :: _), ↓wc_nil (ρ := _ :: _), ↓wc_som (ρ := _ :: _), ↓brB_t, ↓brB_f, ↓varP_dat, ↓varP_own, ↓argP_dat, ↓argP_fresh, ↓callP1, ↓callP2, ↓callP3, ↓callP4, ↓callP5, ↓seq_next, ↓seq_ret, ↓seq_brk, ↓seq_cont, ↓asgP_dat, ↓asgP_own, ↓asgP_fr, ↓retP_dat, ↓retP_fresh, ↓done_ret, ↓done_next, ↓onO_some, ↓fz_dat, ↓fz_fresh, ↓add_ii, ↓sub_ii, ↓mul_ii, ↓mod_ii, ↓div_ii, ↓pow_ii, ↓add_tt, ↓add_ll, ↓add_ss, ↓mul_ti, ↓neg_i, ↓lt_ii, ↓le_ii, ↓gt_ii, ↓ge_ii, ↓eq_ii, ↓ne_ii, ↓eq_bb, ↓ne_bb, ↓eq_ss, ↓ne_ss, ↓len_t, ↓len_l, ↓len_s, ↓int_i, ↓list_t, ↓list_l, ↓list_s, ↓tuple_t, ↓tuple_l, ↓max_ii, ↓min_ii, ↓all_l, ↓any_l, ↓cell0, ↓cell1, ↓cell2, ↓rng1, ↓rng2, ↓Lit.d, ↓List.getElem?_cons_zero, ↓List.getElem?_cons_succ, ↓List.set_cons_zero, ↓List.set_cons_succ, ↓List.length_cons, ↓List.length_nil, ↓List.length_set, ↓natAbs10, ↓tapeP_l, ↓after_next, ↓after_cont, ↓after_brk, ↓after_ret, ↓items_t, ↓items_l, ↓rev_l, ↓List.map_cons, ↓List.map_nil, ↓wipeR, ↓restR, ↓Option.getD_some, ↓Option.getD_none, ↓setTgs_nm, ↓compP_eq, Nat.reduceAdd, Nat.reduceLT, Nat.reduceLeDiff, Int.reduceLE, Int.reduceLT, Nat.reducePow, true_and, Int.reduceToNat, Int.reducePow, Int.reduceNeg]
  refine ⟨by decide, ?_⟩
  refine hd _ _ _ (by decide) (by decide) hS0 fun r S1 g0 g1 hS1 => ?_
  obtain ⟨k, a, e1, e2, e3⟩ := getElem?_ix (xs := [D.str "", D.str "0", D.str "a", D.str "when", D.str "give", D.str "let", D.str "try"]) g0 (by exact g1)
  refine ix_l e1 e2 ?_
  simp only [↓wi_nil (ρ := _ :: _), ↓wi_cons (ρ := _ :: _), ↓wi_asg (ρ := _ :: _), ↓wi_tape (ρ := _ :: _), ↓wi_asgT (ρ := _ :: _), ↓wi_setI (ρ := _ :: _), ↓wi_mt (ρ := _ :: _), ↓wi_ret (ρ := _ :: _), ↓wi_retN (ρ := _ :: _), ↓wi_iff (ρ := _ :: _), ↓wi_exp (ρ := _ :: _), ↓wi_pass (ρ := _ :: _), ↓wi_brk (ρ := _ :: _), ↓wi_cont (ρ := _ :: _), ↓we_lit (ρ := _ :: _), ↓we_gl (ρ := _ :: _), ↓we_var (ρ := _ :: _), ↓we_tup (ρ := _ :: _), ↓we_lst (ρ := _ :: _), ↓we_op (ρ := _ :: _), ↓we_neg (ρ := _ :: _), ↓we_cmp (ρ := _ :: _), ↓we_chain (ρ := _ :: _), ↓we_and (ρ := _ :: _), ↓we_or (ρ := _ :: _), ↓we_not (ρ := _ :: _), ↓we_ite (ρ := _ :: _), ↓we_idx (ρ := _ :: _), ↓we_slc (ρ := _ :: _), ↓we_rev (ρ := _ :: _), ↓we_call (ρ := _ :: _), ↓we_isi (ρ := _ :: _), ↓we_bi (ρ := _ :: _), ↓we_comp (ρ := _ :: _), ↓wl_nil (ρ := _ :: _), ↓wl_cons (ρ := _ :: _), ↓wpp_nil (ρ := _ :: _), ↓wpp_cons (ρ := _ :: _), ↓wa_nil (ρ := _ :: _), ↓wa_cons (ρ := _ :: _), ↓wo_nil (ρ := _ :: _), ↓wo_som (ρ := _ :: _), ↓ws_rg1 (ρ := _ :: _), ↓ws_rg2 (ρ := _ :: _), ↓ws_sq (ρ := _ :: _), ↓wc_nil (ρ := _ :: _), ↓wc_som (ρ := _ :: _), ↓brB_t, ↓brB_f, ↓varP_dat, ↓varP_own, ↓argP_dat, ↓argP_fresh, ↓callP1, ↓callP2, ↓callP3, ↓callP4, ↓callP5, ↓seq_next, ↓seq_ret, ↓seq_brk, ↓seq_cont, ↓asgP_dat, ↓asgP_own, ↓asgP_fr, ↓retP_dat, ↓retP_fresh, ↓done_ret, ↓done_next, ↓onO_some, ↓fz_dat, ↓fz_fresh, ↓add_ii, ↓sub_ii, ↓mul_ii, ↓mod_ii, ↓div_ii, ↓pow_ii, ↓add_tt, ↓add_ll, ↓add_ss, ↓mul_ti, ↓neg_i, ↓lt_ii, ↓le_ii, ↓gt_ii, ↓ge_ii, ↓eq_ii, ↓ne_ii, ↓eq_bb, ↓ne_bb, ↓eq_ss, ↓ne_ss, ↓len_t, ↓len_l, ↓len_s, ↓int_i, ↓list_t, ↓list_l, ↓list_s, ↓tuple_t, ↓tuple_l, ↓max_ii, ↓min_ii, ↓all_l, ↓any_l, ↓cell0, ↓cell1, ↓cell2, ↓rng1, ↓rng2, ↓Lit.d, ↓List.getElem?_cons_zero, ↓List.getElem?_cons_succ, ↓List.set_cons_zero, ↓List.set_cons_succ, ↓List.length_cons, ↓List.length_nil, ↓List.length_set, ↓natAbs10, ↓tapeP_l, ↓after_next, ↓after_cont, ↓after_brk, ↓after_ret, ↓items_t, ↓items_l, ↓rev_l, ↓List.map_cons, ↓List.map_nil, ↓wipeR, ↓restR, ↓Option.getD_some, ↓Option.getD_none, ↓setTgs_nm, ↓compP_eq, Nat.reduceAdd, Nat.reduceLT, Nat.reduceLeDiff, Int.reduceLE, Int.reduceLT, Nat.reducePow, true_and, Int.reduceToNat, Int.reducePow, Int.reduceNeg]
  refine ⟨by decide, by decide, ?_⟩
  have ha : ∀ k, Fit 10 k a := fun k => by
    simp only [List.mem_cons, List.not_mem_nil, or_false] at e3
    rcases e3 with rfl | rfl | rfl | rfl | rfl | rfl | rfl <;> exact Fit.str ⟨by decide, strOk_iff.mpr (by decide)⟩
  obtain ⟨k2, b, f1, f2, f3⟩ := getElem?_ix (xs := [D.bl true, D.bl false, D.non, a, D.tup [D.int 1, D.int 2]]) (i := c - 8) (by omega) (by show _ < (5 : Int); omega)
  refine ix_l f1 f2 ?_
  refine hP _ _ ?_ hS1
  simp only [List.mem_cons, List.not_mem_nil, or_false] at f3
  rcases f3 with rfl | rfl | rfl | rfl | rfl
  · exact Fit.bl
  · exact Fit.bl
  · exact Fit.non
  · exact ha _
  · exact ⟨by decide, fun d hd => by
      simp only [List.mem_cons, List.not_mem_nil, or_false] at hd
      rcases hd with rfl | rfl <;> exact Fit.int⟩
theorem any_ok : ∀ (j n : Nat), Any (fam fds (j + n + 2)) j
  | 0, n => by
    rw [show 0 + n + 2 = n + 1 + 1 from by omega]
    exact any_step (draw_ok n) fun i h => nomatch h
  | j + 1, n => by
    rw [show j + 1 + n + 2 = j + n + 2 + 1 from by omega]
    exact any_step (draw_ok _) fun i h => by cases h; exact any_ok j n
def Whole (call : Fn) : Prop := ∀ (d : D) (S : Store) (P : KD × Store → Prop), P ((.dat, .bl (isW d)), S) → onO (call ix__law_whole [d] S) P
theorem whole_ok (n : Nat) : Whole (fam fds (n + 1)) := by
  intro d S P hP
  refine run_of (fd := f__law_whole) rfl rfl rfl ?_
  show wp (evI (fam fds n) b__law_whole) [some (.dat d)] _ _
  unfold b__law_whole
  cases d <;> (simp only [↓wi_nil (ρ := _ :: _), ↓wi_cons (ρ := _ :: _), ↓wi_asg (ρ := _ :: _), ↓wi_tape (ρ := _ :: _), ↓wi_asgT (ρ := _ :: _), ↓wi_setI (ρ := _ :: _), ↓wi_mt (ρ := _ :: _), ↓wi_ret (ρ := _ :: _), ↓wi_retN (ρ := _ :: _), ↓wi_iff (ρ := _ :: _), ↓wi_exp (ρ := _ :: _), ↓wi_pass (ρ := _ :: _), ↓wi_brk (ρ := _ :: _), ↓wi_cont (ρ := _ :: _), ↓we_lit (ρ := _ :: _), ↓we_gl (ρ := _ :: _), ↓we_var (ρ := _ :: _), ↓we_tup (ρ := _ :: _), ↓we_lst (ρ := _ :: _), ↓we_op (ρ := _ :: _), ↓we_neg (ρ := _ :: _), ↓we_cmp (ρ := _ :: _), ↓we_chain (ρ := _ :: _), ↓we_and (ρ := _ :: _), ↓we_or (ρ := _ :: _), ↓we_not (ρ := _ :: _), ↓we_ite (ρ := _ :: _), ↓we_idx (ρ := _ :: _), ↓we_slc (ρ := _ :: _), ↓we_rev (ρ := _ :: _), ↓we_call (ρ := _ :: _), ↓we_isi (ρ := _ :: _), ↓we_bi (ρ := _ :: _), ↓we_comp (ρ := _ :: _), ↓wl_nil (ρ := _ :: _), ↓wl_cons (ρ := _ :: _), ↓wpp_nil (ρ := _ :: _), ↓wpp_cons (ρ := _ :: _), ↓wa_nil (ρ := _ :: _), ↓wa_cons (ρ := _ :: _), ↓wo_nil (ρ := _ :: _), ↓wo_som (ρ := _ :: _), ↓ws_rg1 (ρ := _ :: _), ↓ws_rg2 (ρ := _ :: _), ↓ws_sq (ρ := _ :: _), ↓wc_nil (ρ := _ :: _), ↓wc_som (ρ := _ :: _), ↓brB_t, ↓brB_f, ↓varP_dat, ↓varP_own, ↓argP_dat, ↓argP_fresh, ↓callP1, ↓callP2, ↓callP3, ↓callP4, ↓callP5, ↓seq_next, ↓seq_ret, ↓seq_brk, ↓seq_cont, ↓asgP_dat, ↓asgP_own, ↓asgP_fr, ↓retP_dat, ↓retP_fresh, ↓done_ret, ↓done_next, ↓onO_some, ↓fz_dat, ↓fz_fresh, ↓add_ii, ↓sub_ii, ↓mul_ii, ↓mod_ii, ↓div_ii, ↓pow_ii, ↓add_tt, ↓add_ll, ↓add_ss, ↓mul_ti, ↓neg_i, ↓lt_ii, ↓le_ii, ↓gt_ii, ↓ge_ii, ↓eq_ii, ↓ne_ii, ↓eq_bb, ↓ne_bb, ↓eq_ss, ↓ne_ss, ↓len_t, ↓len_l, ↓len_s, ↓int_i, ↓list_t, ↓list_l, ↓list_s, ↓tuple_t, ↓tuple_l, ↓max_ii, ↓min_ii, ↓all_l, ↓any_l, ↓cell0, ↓cell1, ↓cell2, ↓rng1, ↓rng2, ↓Lit.d, ↓List.getElem?_cons_zero, ↓List.getElem?_cons_succ, ↓List.set_cons_zero, ↓List.set_cons_succ, ↓List.length_cons, ↓List.length_nil, ↓List.length_set, ↓natAbs10, ↓tapeP_l, ↓after_next, ↓after_cont, ↓after_brk, ↓after_ret, ↓items_t, ↓items_l, ↓rev_l, ↓List.map_cons, ↓List.map_nil, ↓wipeR, ↓restR, ↓Option.getD_some, ↓Option.getD_none, ↓setTgs_nm, ↓compP_eq, Nat.reduceAdd, Nat.reduceLT, Nat.reduceLeDiff, Int.reduceLE, Int.reduceLT, Nat.reducePow, true_and, Int.reduceToNat, Int.reducePow, Int.reduceNeg, List.any_cons, List.any_nil, isTy, Bool.or_false]; exact hP)
def LikeB (call : Fn) : Prop := ∀ (a b : Bool) (S : Store) (P : KD × Store → Prop), P ((.dat, .bl (a == b)), S) → onO (call ix__law_like [.bl a, .bl b] S) P
theorem likeB_ok (n : Nat) : LikeB (fam fds (n + 1)) := by
  intro a b S P hP
  refine run_of (fd := f__law_like) rfl rfl rfl ?_
  show wp (evI (fam fds n) b__law_like) [some (.dat (.bl a)), some (.dat (.bl b)), none] _ _
  unfold b__law_like
  simp only [↓wi_nil (ρ := _ :: _), ↓wi_cons (ρ := _ :: _), ↓wi_asg (ρ := _ :: _), ↓wi_tape (ρ := _ :: _), ↓wi_asgT (ρ := _ :: _), ↓wi_setI (ρ := _ :: _), ↓wi_mt (ρ := _ :: _), ↓wi_ret (ρ := _ :: _), ↓wi_retN (ρ := _ :: _), ↓wi_iff (ρ := _ :: _), ↓wi_exp (ρ := _ :: _), ↓wi_pass (ρ := _ :: _), ↓wi_brk (ρ := _ :: _), ↓wi_cont (ρ := _ :: _), ↓we_lit (ρ := _ :: _), ↓we_gl (ρ := _ :: _), ↓we_var (ρ := _ :: _), ↓we_tup (ρ := _ :: _), ↓we_lst (ρ := _ :: _), ↓we_op (ρ := _ :: _), ↓we_neg (ρ := _ :: _), ↓we_cmp (ρ := _ :: _), ↓we_chain (ρ := _ :: _), ↓we_and (ρ := _ :: _), ↓we_or (ρ := _ :: _), ↓we_not (ρ := _ :: _), ↓we_ite (ρ := _ :: _), ↓we_idx (ρ := _ :: _), ↓we_slc (ρ := _ :: _), ↓we_rev (ρ := _ :: _), ↓we_call (ρ := _ :: _), ↓we_isi (ρ := _ :: _), ↓we_bi (ρ := _ :: _), ↓we_comp (ρ := _ :: _), ↓wl_nil (ρ := _ :: _), ↓wl_cons (ρ := _ :: _), ↓wpp_nil (ρ := _ :: _), ↓wpp_cons (ρ := _ :: _), ↓wa_nil (ρ := _ :: _), ↓wa_cons (ρ := _ :: _), ↓wo_nil (ρ := _ :: _), ↓wo_som (ρ := _ :: _), ↓ws_rg1 (ρ := _ :: _), ↓ws_rg2 (ρ := _ :: _), ↓ws_sq (ρ := _ :: _), ↓wc_nil (ρ := _ :: _), ↓wc_som (ρ := _ :: _), ↓brB_t, ↓brB_f, ↓varP_dat, ↓varP_own, ↓argP_dat, ↓argP_fresh, ↓callP1, ↓callP2, ↓callP3, ↓callP4, ↓callP5, ↓seq_next, ↓seq_ret, ↓seq_brk, ↓seq_cont, ↓asgP_dat, ↓asgP_own, ↓asgP_fr, ↓retP_dat, ↓retP_fresh, ↓done_ret, ↓done_next, ↓onO_some, ↓fz_dat, ↓fz_fresh, ↓add_ii, ↓sub_ii, ↓mul_ii, ↓mod_ii, ↓div_ii, ↓pow_ii, ↓add_tt, ↓add_ll, ↓add_ss, ↓mul_ti, ↓neg_i, ↓lt_ii, ↓le_ii, ↓gt_ii, ↓ge_ii, ↓eq_ii, ↓ne_ii, ↓eq_bb, ↓ne_bb, ↓eq_ss, ↓ne_ss, ↓len_t, ↓len_l, ↓len_s, ↓int_i, ↓list_t, ↓list_l, ↓list_s, ↓tuple_t, ↓tuple_l, ↓max_ii, ↓min_ii, ↓all_l, ↓any_l, ↓cell0, ↓cell1, ↓cell2, ↓rng1, ↓rng2, ↓Lit.d, ↓List.getElem?_cons_zero, ↓List.getElem?_cons_succ, ↓List.set_cons_zero, ↓List.set_cons_succ, ↓List.length_cons, ↓List.length_nil, ↓List.length_set, ↓natAbs10, ↓tapeP_l, ↓after_next, ↓after_cont, ↓after_brk, ↓after_ret, ↓items_t, ↓items_l, ↓rev_l, ↓List.map_cons, ↓List.map_nil, ↓wipeR, ↓restR, ↓Option.getD_some, ↓Option.getD_none, ↓setTgs_nm, ↓compP_eq, Nat.reduceAdd, Nat.reduceLT, Nat.reduceLeDiff, Int.reduceLE, Int.reduceLT, Nat.reducePow, true_and, Int.reduceToNat, Int.reducePow, Int.reduceNeg, List.any_cons, List.any_nil, isTy, Bool.or_false]
  exact hP
def Near (call : Fn) : Prop := ∀ (w : Int) (S : Store) (P : KD × Store → Prop), 0 ≤ w → w < 1000000000000000000000000000000000000000 → TS S → (∀ r S', -w ≤ r → r ≤ w → TS S' → P ((.dat, .int r), S')) → onO (call ix__law_near [.cell 0, .int w] S) P
theorem near_ok (n : Nat) : Near (fam fds (n + 2)) := by
  intro w S P h0 h1 hS hP
  refine run_of (fd := f__law_near) rfl rfl rfl ?_
  show wp (evI (fam fds (n + 1)) b__law_near) [some (.dat (.cell 0)), some (.dat (.int w))] _ _
  unfold b__law_near
  simp only [↓wi_nil (ρ := _ :: _), ↓wi_cons (ρ := _ :: _), ↓wi_asg (ρ := _ :: _), ↓wi_tape (ρ := _ :: _), ↓wi_asgT (ρ := _ :: _), ↓wi_setI (ρ := _ :: _), ↓wi_mt (ρ := _ :: _), ↓wi_ret (ρ := _ :: _), ↓wi_retN (ρ := _ :: _), ↓wi_iff (ρ := _ :: _), ↓wi_exp (ρ := _ :: _), ↓wi_pass (ρ := _ :: _), ↓wi_brk (ρ := _ :: _), ↓wi_cont (ρ := _ :: _), ↓we_lit (ρ := _ :: _), ↓we_gl (ρ := _ :: _), ↓we_var (ρ := _ :: _), ↓we_tup (ρ := _ :: _), ↓we_lst (ρ := _ :: _), ↓we_op (ρ := _ :: _), ↓we_neg (ρ := _ :: _), ↓we_cmp (ρ := _ :: _), ↓we_chain (ρ := _ :: _), ↓we_and (ρ := _ :: _), ↓we_or (ρ := _ :: _), ↓we_not (ρ := _ :: _), ↓we_ite (ρ := _ :: _), ↓we_idx (ρ := _ :: _), ↓we_slc (ρ := _ :: _), ↓we_rev (ρ := _ :: _), ↓we_call (ρ := _ :: _), ↓we_isi (ρ := _ :: _), ↓we_bi (ρ := _ :: _), ↓we_comp (ρ := _ :: _), ↓wl_nil (ρ := _ :: _), ↓wl_cons (ρ := _ :: _), ↓wpp_nil (ρ := _ :: _), ↓wpp_cons (ρ := _ :: _), ↓wa_nil (ρ := _ :: _), ↓wa_cons (ρ := _ :: _), ↓wo_nil (ρ := _ :: _), ↓wo_som (ρ := _ :: _), ↓ws_rg1 (ρ := _ :: _), ↓ws_rg2 (ρ := _ :: _), ↓ws_sq (ρ := _ :: _), ↓wc_nil (ρ := _ :: _), ↓wc_som (ρ := _ :: _), ↓brB_t, ↓brB_f, ↓varP_dat, ↓varP_own, ↓argP_dat, ↓argP_fresh, ↓callP1, ↓callP2, ↓callP3, ↓callP4, ↓callP5, ↓seq_next, ↓seq_ret, ↓seq_brk, ↓seq_cont, ↓asgP_dat, ↓asgP_own, ↓asgP_fr, ↓retP_dat, ↓retP_fresh, ↓done_ret, ↓done_next, ↓onO_some, ↓fz_dat, ↓fz_fresh, ↓add_ii, ↓sub_ii, ↓mul_ii, ↓mod_ii, ↓div_ii, ↓pow_ii, ↓add_tt, ↓add_ll, ↓add_ss, ↓mul_ti, ↓neg_i, ↓lt_ii, ↓le_ii, ↓gt_ii, ↓ge_ii, ↓eq_ii, ↓ne_ii, ↓eq_bb, ↓ne_bb, ↓eq_ss, ↓ne_ss, ↓len_t, ↓len_l, ↓len_s, ↓int_i, ↓list_t, ↓list_l, ↓list_s, ↓tuple_t, ↓tuple_l, ↓max_ii, ↓min_ii, ↓all_l, ↓any_l, ↓cell0, ↓cell1, ↓cell2, ↓rng1, ↓rng2, ↓Lit.d, ↓List.getElem?_cons_zero, ↓List.getElem?_cons_succ, ↓List.set_cons_zero, ↓List.set_cons_succ, ↓List.length_cons, ↓List.length_nil, ↓List.length_set, ↓natAbs10, ↓tapeP_l, ↓after_next, ↓after_cont, ↓after_brk, ↓after_ret, ↓items_t, ↓items_l, ↓rev_l, ↓List.map_cons, ↓List.map_nil, ↓wipeR, ↓restR, ↓Option.getD_some, ↓Option.getD_none, ↓setTgs_nm, ↓compP_eq, Nat.reduceAdd, Nat.reduceLT, Nat.reduceLeDiff, Int.reduceLE, Int.reduceLT, Nat.reducePow, true_and, Int.reduceToNat, Int.reducePow, Int.reduceNeg]
  refine ⟨mulOk_l (by decide), ?_⟩
  refine draw_ok _ _ _ _ (by omega) (by omega) hS fun r S' g0 g1 hS' => ?_
  simp only [↓wi_nil (ρ := _ :: _), ↓wi_cons (ρ := _ :: _), ↓wi_asg (ρ := _ :: _), ↓wi_tape (ρ := _ :: _), ↓wi_asgT (ρ := _ :: _), ↓wi_setI (ρ := _ :: _), ↓wi_mt (ρ := _ :: _), ↓wi_ret (ρ := _ :: _), ↓wi_retN (ρ := _ :: _), ↓wi_iff (ρ := _ :: _), ↓wi_exp (ρ := _ :: _), ↓wi_pass (ρ := _ :: _), ↓wi_brk (ρ := _ :: _), ↓wi_cont (ρ := _ :: _), ↓we_lit (ρ := _ :: _), ↓we_gl (ρ := _ :: _), ↓we_var (ρ := _ :: _), ↓we_tup (ρ := _ :: _), ↓we_lst (ρ := _ :: _), ↓we_op (ρ := _ :: _), ↓we_neg (ρ := _ :: _), ↓we_cmp (ρ := _ :: _), ↓we_chain (ρ := _ :: _), ↓we_and (ρ := _ :: _), ↓we_or (ρ := _ :: _), ↓we_not (ρ := _ :: _), ↓we_ite (ρ := _ :: _), ↓we_idx (ρ := _ :: _), ↓we_slc (ρ := _ :: _), ↓we_rev (ρ := _ :: _), ↓we_call (ρ := _ :: _), ↓we_isi (ρ := _ :: _), ↓we_bi (ρ := _ :: _), ↓we_comp (ρ := _ :: _), ↓wl_nil (ρ := _ :: _), ↓wl_cons (ρ := _ :: _), ↓wpp_nil (ρ := _ :: _), ↓wpp_cons (ρ := _ :: _), ↓wa_nil (ρ := _ :: _), ↓wa_cons (ρ := _ :: _), ↓wo_nil (ρ := _ :: _), ↓wo_som (ρ := _ :: _), ↓ws_rg1 (ρ := _ :: _), ↓ws_rg2 (ρ := _ :: _), ↓ws_sq (ρ := _ :: _), ↓wc_nil (ρ := _ :: _), ↓wc_som (ρ := _ :: _), ↓brB_t, ↓brB_f, ↓varP_dat, ↓varP_own, ↓argP_dat, ↓argP_fresh, ↓callP1, ↓callP2, ↓callP3, ↓callP4, ↓callP5, ↓seq_next, ↓seq_ret, ↓seq_brk, ↓seq_cont, ↓asgP_dat, ↓asgP_own, ↓asgP_fr, ↓retP_dat, ↓retP_fresh, ↓done_ret, ↓done_next, ↓onO_some, ↓fz_dat, ↓fz_fresh, ↓add_ii, ↓sub_ii, ↓mul_ii, ↓mod_ii, ↓div_ii, ↓pow_ii, ↓add_tt, ↓add_ll, ↓add_ss, ↓mul_ti, ↓neg_i, ↓lt_ii, ↓le_ii, ↓gt_ii, ↓ge_ii, ↓eq_ii, ↓ne_ii, ↓eq_bb, ↓ne_bb, ↓eq_ss, ↓ne_ss, ↓len_t, ↓len_l, ↓len_s, ↓int_i, ↓list_t, ↓list_l, ↓list_s, ↓tuple_t, ↓tuple_l, ↓max_ii, ↓min_ii, ↓all_l, ↓any_l, ↓cell0, ↓cell1, ↓cell2, ↓rng1, ↓rng2, ↓Lit.d, ↓List.getElem?_cons_zero, ↓List.getElem?_cons_succ, ↓List.set_cons_zero, ↓List.set_cons_succ, ↓List.length_cons, ↓List.length_nil, ↓List.length_set, ↓natAbs10, ↓tapeP_l, ↓after_next, ↓after_cont, ↓after_brk, ↓after_ret, ↓items_t, ↓items_l, ↓rev_l, ↓List.map_cons, ↓List.map_nil, ↓wipeR, ↓restR, ↓Option.getD_some, ↓Option.getD_none, ↓setTgs_nm, ↓compP_eq, Nat.reduceAdd, Nat.reduceLT, Nat.reduceLeDiff, Int.reduceLE, Int.reduceLT, Nat.reducePow, true_and, Int.reduceToNat, Int.reducePow, Int.reduceNeg]
  exact hP _ _ (by omega) (by omega) hS'
def brow (r : Int × Int × Int) : D := .tup [.int r.1, .int r.2.1, .int r.2.2]
def RowIn (p w : Int) (r : Int × Int × Int) : Prop := (0 ≤ r.1 ∧ r.1 < p) ∧ (0 ≤ r.2.1 ∧ r.2.1 < p) ∧ r.1 ≠ r.2.1 ∧ -w ≤ r.2.2 ∧ r.2.2 ≤ w
def Bounds (call : Fn) : Prop := ∀ (p m w : Int) (S : Store) (P : KD × Store → Prop), 2 ≤ p → p < 1000 → 0 ≤ m → m ≤ 1000 → 0 ≤ w → w < 1000000000000000000000000000000000000000 → TS S →
  (∀ (rs : List (Int × Int × Int)) S', (rs.length : Int) ≤ m → (∀ r ∈ rs, RowIn p w r) → TS S' → P ((.dat, .tup (rs.map brow)), S')) → onO (call ix__law_bounds [.cell 0, .int p, .int m, .int w] S) P
theorem bounds_ok (n : Nat) : Bounds (fam fds (n + 3)) := by
  intro p m w S P hp hp2 hm hm2 hw hw2 hS hP
  refine run_of (fd := f__law_bounds) rfl rfl rfl ?_
  show wp (evI (fam fds (n + 2)) b__law_bounds) [some (.dat (.cell 0)), some (.dat (.int p)), some (.dat (.int m)), some (.dat (.int w)), none, none, none, none] _ _
  unfold b__law_bounds
  let R : List (Int × Int × Int) → Option Slot → Option Slot → Option Slot → Rho := fun rs a b c => [some (.dat (.cell 0)), some (.dat (.int p)), some (.dat (.int m)), some (.dat (.int w)), some (.dat (.tup (rs.map brow))), a, b, c]
  refine wi_cut (fun ρ S' => At (R [] none none none) S ρ S') ?_ ?_
  · simp only [↓wi_nil (ρ := _ :: _), ↓wi_cons (ρ := _ :: _), ↓wi_asg (ρ := _ :: _), ↓wi_tape (ρ := _ :: _), ↓wi_asgT (ρ := _ :: _), ↓wi_setI (ρ := _ :: _), ↓wi_mt (ρ := _ :: _), ↓wi_ret (ρ := _ :: _), ↓wi_retN (ρ := _ :: _), ↓wi_iff (ρ := _ :: _), ↓wi_exp (ρ := _ :: _), ↓wi_pass (ρ := _ :: _), ↓wi_brk (ρ := _ :: _), ↓wi_cont (ρ := _ :: _), ↓we_lit (ρ := _ :: _), ↓we_gl (ρ := _ :: _), ↓we_var (ρ := _ :: _), ↓we_tup (ρ := _ :: _), ↓we_lst (ρ := _ :: _), ↓we_op (ρ := _ :: _), ↓we_neg (ρ := _ :: _), ↓we_cmp (ρ := _ :: _), ↓we_chain (ρ := _ :: _), ↓we_and (ρ := _ :: _), ↓we_or (ρ := _ :: _), ↓we_not (ρ := _ :: _), ↓we_ite (ρ := _ :: _), ↓we_idx (ρ := _ :: _), ↓we_slc (ρ := _ :: _), ↓we_rev (ρ := _ :: _), ↓we_call (ρ := _ :: _), ↓we_isi (ρ := _ :: _), ↓we_bi (ρ := _ :: _), ↓we_comp (ρ := _ :: _), ↓wl_nil (ρ := _ :: _), ↓wl_cons (ρ := _ :: _), ↓wpp_nil (ρ := _ :: _), ↓wpp_cons (ρ := _ :: _), ↓wa_nil (ρ := _ :: _), ↓wa_cons (ρ := _ :: _), ↓wo_nil (ρ := _ :: _), ↓wo_som (ρ := _ :: _), ↓ws_rg1 (ρ := _ :: _), ↓ws_rg2 (ρ := _ :: _), ↓ws_sq (ρ := _ :: _), ↓wc_nil (ρ := _ :: _), ↓wc_som (ρ := _ :: _), ↓brB_t, ↓brB_f, ↓varP_dat, ↓varP_own, ↓argP_dat, ↓argP_fresh, ↓callP1, ↓callP2, ↓callP3, ↓callP4, ↓callP5, ↓seq_next, ↓seq_ret, ↓seq_brk, ↓seq_cont, ↓asgP_dat, ↓asgP_own, ↓asgP_fr, ↓retP_dat, ↓retP_fresh, ↓done_ret, ↓done_next, ↓onO_some, ↓fz_dat, ↓fz_fresh, ↓add_ii, ↓sub_ii, ↓mul_ii, ↓mod_ii, ↓div_ii, ↓pow_ii, ↓add_tt, ↓add_ll, ↓add_ss, ↓mul_ti, ↓neg_i, ↓lt_ii, ↓le_ii, ↓gt_ii, ↓ge_ii, ↓eq_ii, ↓ne_ii, ↓eq_bb, ↓ne_bb, ↓eq_ss, ↓ne_ss, ↓len_t, ↓len_l, ↓len_s, ↓int_i, ↓list_t, ↓list_l, ↓list_s, ↓tuple_t, ↓tuple_l, ↓max_ii, ↓min_ii, ↓all_l, ↓any_l, ↓cell0, ↓cell1, ↓cell2, ↓rng1, ↓rng2, ↓Lit.d, ↓List.getElem?_cons_zero, ↓List.getElem?_cons_succ, ↓List.set_cons_zero, ↓List.set_cons_succ, ↓List.length_cons, ↓List.length_nil, ↓List.length_set, ↓natAbs10, ↓tapeP_l, ↓after_next, ↓after_cont, ↓after_brk, ↓after_ret, ↓items_t, ↓items_l, ↓rev_l, ↓List.map_cons, ↓List.map_nil, ↓wipeR, ↓restR, ↓Option.getD_some, ↓Option.getD_none, ↓setTgs_nm, ↓compP_eq, Nat.reduceAdd, Nat.reduceLT, Nat.reduceLeDiff, Int.reduceLE, Int.reduceLT, Nat.reducePow, true_and, Int.reduceToNat, Int.reducePow, Int.reduceNeg]
    exact ⟨by decide, at_mk⟩
  rintro _ _ ⟨rfl, rfl⟩
  refine wi_cut (fun ρ S => ∃ S0 a b c, ∃ rs : List (Int × Int × Int), (rs.length : Int) ≤ m ∧ (∀ r ∈ rs, RowIn p w r) ∧ TS S0 ∧ At (R rs a b c) S0 ρ S) ?_ ?_
  · rw [wi_fors]
    simp only [R, ↓wi_nil (ρ := _ :: _), ↓wi_cons (ρ := _ :: _), ↓wi_asg (ρ := _ :: _), ↓wi_tape (ρ := _ :: _), ↓wi_asgT (ρ := _ :: _), ↓wi_setI (ρ := _ :: _), ↓wi_mt (ρ := _ :: _), ↓wi_ret (ρ := _ :: _), ↓wi_retN (ρ := _ :: _), ↓wi_iff (ρ := _ :: _), ↓wi_exp (ρ := _ :: _), ↓wi_pass (ρ := _ :: _), ↓wi_brk (ρ := _ :: _), ↓wi_cont (ρ := _ :: _), ↓we_lit (ρ := _ :: _), ↓we_gl (ρ := _ :: _), ↓we_var (ρ := _ :: _), ↓we_tup (ρ := _ :: _), ↓we_lst (ρ := _ :: _), ↓we_op (ρ := _ :: _), ↓we_neg (ρ := _ :: _), ↓we_cmp (ρ := _ :: _), ↓we_chain (ρ := _ :: _), ↓we_and (ρ := _ :: _), ↓we_or (ρ := _ :: _), ↓we_not (ρ := _ :: _), ↓we_ite (ρ := _ :: _), ↓we_idx (ρ := _ :: _), ↓we_slc (ρ := _ :: _), ↓we_rev (ρ := _ :: _), ↓we_call (ρ := _ :: _), ↓we_isi (ρ := _ :: _), ↓we_bi (ρ := _ :: _), ↓we_comp (ρ := _ :: _), ↓wl_nil (ρ := _ :: _), ↓wl_cons (ρ := _ :: _), ↓wpp_nil (ρ := _ :: _), ↓wpp_cons (ρ := _ :: _), ↓wa_nil (ρ := _ :: _), ↓wa_cons (ρ := _ :: _), ↓wo_nil (ρ := _ :: _), ↓wo_som (ρ := _ :: _), ↓ws_rg1 (ρ := _ :: _), ↓ws_rg2 (ρ := _ :: _), ↓ws_sq (ρ := _ :: _), ↓wc_nil (ρ := _ :: _), ↓wc_som (ρ := _ :: _), ↓brB_t, ↓brB_f, ↓varP_dat, ↓varP_own, ↓argP_dat, ↓argP_fresh, ↓callP1, ↓callP2, ↓callP3, ↓callP4, ↓callP5, ↓seq_next, ↓seq_ret, ↓seq_brk, ↓seq_cont, ↓asgP_dat, ↓asgP_own, ↓asgP_fr, ↓retP_dat, ↓retP_fresh, ↓done_ret, ↓done_next, ↓onO_some, ↓fz_dat, ↓fz_fresh, ↓add_ii, ↓sub_ii, ↓mul_ii, ↓mod_ii, ↓div_ii, ↓pow_ii, ↓add_tt, ↓add_ll, ↓add_ss, ↓mul_ti, ↓neg_i, ↓lt_ii, ↓le_ii, ↓gt_ii, ↓ge_ii, ↓eq_ii, ↓ne_ii, ↓eq_bb, ↓ne_bb, ↓eq_ss, ↓ne_ss, ↓len_t, ↓len_l, ↓len_s, ↓int_i, ↓list_t, ↓list_l, ↓list_s, ↓tuple_t, ↓tuple_l, ↓max_ii, ↓min_ii, ↓all_l, ↓any_l, ↓cell0, ↓cell1, ↓cell2, ↓rng1, ↓rng2, ↓Lit.d, ↓List.getElem?_cons_zero, ↓List.getElem?_cons_succ, ↓List.set_cons_zero, ↓List.set_cons_succ, ↓List.length_cons, ↓List.length_nil, ↓List.length_set, ↓natAbs10, ↓tapeP_l, ↓after_next, ↓after_cont, ↓after_brk, ↓after_ret, ↓items_t, ↓items_l, ↓rev_l, ↓List.map_cons, ↓List.map_nil, ↓wipeR, ↓restR, ↓Option.getD_some, ↓Option.getD_none, ↓setTgs_nm, ↓compP_eq, Nat.reduceAdd, Nat.reduceLT, Nat.reduceLeDiff, Int.reduceLE, Int.reduceLT, Nat.reducePow, true_and, Int.reduceToNat, Int.reducePow, Int.reduceNeg]
    refine draw_ok _ _ _ _ (by omega) (by omega) hS fun r S' g0 g1 hS' => ?_
    simp only [↓wi_nil (ρ := _ :: _), ↓wi_cons (ρ := _ :: _), ↓wi_asg (ρ := _ :: _), ↓wi_tape (ρ := _ :: _), ↓wi_asgT (ρ := _ :: _), ↓wi_setI (ρ := _ :: _), ↓wi_mt (ρ := _ :: _), ↓wi_ret (ρ := _ :: _), ↓wi_retN (ρ := _ :: _), ↓wi_iff (ρ := _ :: _), ↓wi_exp (ρ := _ :: _), ↓wi_pass (ρ := _ :: _), ↓wi_brk (ρ := _ :: _), ↓wi_cont (ρ := _ :: _), ↓we_lit (ρ := _ :: _), ↓we_gl (ρ := _ :: _), ↓we_var (ρ := _ :: _), ↓we_tup (ρ := _ :: _), ↓we_lst (ρ := _ :: _), ↓we_op (ρ := _ :: _), ↓we_neg (ρ := _ :: _), ↓we_cmp (ρ := _ :: _), ↓we_chain (ρ := _ :: _), ↓we_and (ρ := _ :: _), ↓we_or (ρ := _ :: _), ↓we_not (ρ := _ :: _), ↓we_ite (ρ := _ :: _), ↓we_idx (ρ := _ :: _), ↓we_slc (ρ := _ :: _), ↓we_rev (ρ := _ :: _), ↓we_call (ρ := _ :: _), ↓we_isi (ρ := _ :: _), ↓we_bi (ρ := _ :: _), ↓we_comp (ρ := _ :: _), ↓wl_nil (ρ := _ :: _), ↓wl_cons (ρ := _ :: _), ↓wpp_nil (ρ := _ :: _), ↓wpp_cons (ρ := _ :: _), ↓wa_nil (ρ := _ :: _), ↓wa_cons (ρ := _ :: _), ↓wo_nil (ρ := _ :: _), ↓wo_som (ρ := _ :: _), ↓ws_rg1 (ρ := _ :: _), ↓ws_rg2 (ρ := _ :: _), ↓ws_sq (ρ := _ :: _), ↓wc_nil (ρ := _ :: _), ↓wc_som (ρ := _ :: _), ↓brB_t, ↓brB_f, ↓varP_dat, ↓varP_own, ↓argP_dat, ↓argP_fresh, ↓callP1, ↓callP2, ↓callP3, ↓callP4, ↓callP5, ↓seq_next, ↓seq_ret, ↓seq_brk, ↓seq_cont, ↓asgP_dat, ↓asgP_own, ↓asgP_fr, ↓retP_dat, ↓retP_fresh, ↓done_ret, ↓done_next, ↓onO_some, ↓fz_dat, ↓fz_fresh, ↓add_ii, ↓sub_ii, ↓mul_ii, ↓mod_ii, ↓div_ii, ↓pow_ii, ↓add_tt, ↓add_ll, ↓add_ss, ↓mul_ti, ↓neg_i, ↓lt_ii, ↓le_ii, ↓gt_ii, ↓ge_ii, ↓eq_ii, ↓ne_ii, ↓eq_bb, ↓ne_bb, ↓eq_ss, ↓ne_ss, ↓len_t, ↓len_l, ↓len_s, ↓int_i, ↓list_t, ↓list_l, ↓list_s, ↓tuple_t, ↓tuple_l, ↓max_ii, ↓min_ii, ↓all_l, ↓any_l, ↓cell0, ↓cell1, ↓cell2, ↓rng1, ↓rng2, ↓Lit.d, ↓List.getElem?_cons_zero, ↓List.getElem?_cons_succ, ↓List.set_cons_zero, ↓List.set_cons_succ, ↓List.length_cons, ↓List.length_nil, ↓List.length_set, ↓natAbs10, ↓tapeP_l, ↓after_next, ↓after_cont, ↓after_brk, ↓after_ret, ↓items_t, ↓items_l, ↓rev_l, ↓List.map_cons, ↓List.map_nil, ↓wipeR, ↓restR, ↓Option.getD_some, ↓Option.getD_none, ↓setTgs_nm, ↓compP_eq, Nat.reduceAdd, Nat.reduceLT, Nat.reduceLeDiff, Int.reduceLE, Int.reduceLT, Nat.reducePow, true_and, Int.reduceToNat, Int.reducePow, Int.reduceNeg]
    refine ⟨⟨by omega, by omega⟩, ?_⟩
    refine wp_for (fun l ρ S => ∃ S0 a b c, ∃ rs : List (Int × Int × Int), (rs.length : Int) + l.length ≤ m ∧ (∀ r ∈ rs, RowIn p w r) ∧ TS S0 ∧ At (R rs a b c) S0 ρ S) ?_ ?_ ⟨S', none, none, none, [], by simp; omega, fun r h => (nomatch h), hS', at_mk⟩
    · rintro d l _ _ ⟨S0, a, b, c, rs, hl, hrs, hS0, rfl, rfl⟩
      rw [wp_step]
      simp only [R, ↓wi_nil (ρ := _ :: _), ↓wi_cons (ρ := _ :: _), ↓wi_asg (ρ := _ :: _), ↓wi_tape (ρ := _ :: _), ↓wi_asgT (ρ := _ :: _), ↓wi_setI (ρ := _ :: _), ↓wi_mt (ρ := _ :: _), ↓wi_ret (ρ := _ :: _), ↓wi_retN (ρ := _ :: _), ↓wi_iff (ρ := _ :: _), ↓wi_exp (ρ := _ :: _), ↓wi_pass (ρ := _ :: _), ↓wi_brk (ρ := _ :: _), ↓wi_cont (ρ := _ :: _), ↓we_lit (ρ := _ :: _), ↓we_gl (ρ := _ :: _), ↓we_var (ρ := _ :: _), ↓we_tup (ρ := _ :: _), ↓we_lst (ρ := _ :: _), ↓we_op (ρ := _ :: _), ↓we_neg (ρ := _ :: _), ↓we_cmp (ρ := _ :: _), ↓we_chain (ρ := _ :: _), ↓we_and (ρ := _ :: _), ↓we_or (ρ := _ :: _), ↓we_not (ρ := _ :: _), ↓we_ite (ρ := _ :: _), ↓we_idx (ρ := _ :: _), ↓we_slc (ρ := _ :: _), ↓we_rev (ρ := _ :: _), ↓we_call (ρ := _ :: _), ↓we_isi (ρ := _ :: _), ↓we_bi (ρ := _ :: _), ↓we_comp (ρ := _ :: _), ↓wl_nil (ρ := _ :: _), ↓wl_cons (ρ := _ :: _), ↓wpp_nil (ρ := _ :: _), ↓wpp_cons (ρ := _ :: _), ↓wa_nil (ρ := _ :: _), ↓wa_cons (ρ := _ :: _), ↓wo_nil (ρ := _ :: _), ↓wo_som (ρ := _ :: _), ↓ws_rg1 (ρ := _ :: _), ↓ws_rg2 (ρ := _ :: _), ↓ws_sq (ρ := _ :: _), ↓wc_nil (ρ := _ :: _), ↓wc_som (ρ := _ :: _), ↓brB_t, ↓brB_f, ↓varP_dat, ↓varP_own, ↓argP_dat, ↓argP_fresh, ↓callP1, ↓callP2, ↓callP3, ↓callP4, ↓callP5, ↓seq_next, ↓seq_ret, ↓seq_brk, ↓seq_cont, ↓asgP_dat, ↓asgP_own, ↓asgP_fr, ↓retP_dat, ↓retP_fresh, ↓done_ret, ↓done_next, ↓onO_some, ↓fz_dat, ↓fz_fresh, ↓add_ii, ↓sub_ii, ↓mul_ii, ↓mod_ii, ↓div_ii, ↓pow_ii, ↓add_tt, ↓add_ll, ↓add_ss, ↓mul_ti, ↓neg_i, ↓lt_ii, ↓le_ii, ↓gt_ii, ↓ge_ii, ↓eq_ii, ↓ne_ii, ↓eq_bb, ↓ne_bb, ↓eq_ss, ↓ne_ss, ↓len_t, ↓len_l, ↓len_s, ↓int_i, ↓list_t, ↓list_l, ↓list_s, ↓tuple_t, ↓tuple_l, ↓max_ii, ↓min_ii, ↓all_l, ↓any_l, ↓cell0, ↓cell1, ↓cell2, ↓rng1, ↓rng2, ↓Lit.d, ↓List.getElem?_cons_zero, ↓List.getElem?_cons_succ, ↓List.set_cons_zero, ↓List.set_cons_succ, ↓List.length_cons, ↓List.length_nil, ↓List.length_set, ↓natAbs10, ↓tapeP_l, ↓after_next, ↓after_cont, ↓after_brk, ↓after_ret, ↓items_t, ↓items_l, ↓rev_l, ↓List.map_cons, ↓List.map_nil, ↓wipeR, ↓restR, ↓Option.getD_some, ↓Option.getD_none, ↓setTgs_nm, ↓compP_eq, Nat.reduceAdd, Nat.reduceLT, Nat.reduceLeDiff, Int.reduceLE, Int.reduceLT, Nat.reducePow, true_and, Int.reduceToNat, Int.reducePow, Int.reduceNeg]
      refine draw_ok _ _ _ _ (by omega) (by omega) hS0 fun x S1 x0 x1 hS1 => ?_
      simp only [↓wi_nil (ρ := _ :: _), ↓wi_cons (ρ := _ :: _), ↓wi_asg (ρ := _ :: _), ↓wi_tape (ρ := _ :: _), ↓wi_asgT (ρ := _ :: _), ↓wi_setI (ρ := _ :: _), ↓wi_mt (ρ := _ :: _), ↓wi_ret (ρ := _ :: _), ↓wi_retN (ρ := _ :: _), ↓wi_iff (ρ := _ :: _), ↓wi_exp (ρ := _ :: _), ↓wi_pass (ρ := _ :: _), ↓wi_brk (ρ := _ :: _), ↓wi_cont (ρ := _ :: _), ↓we_lit (ρ := _ :: _), ↓we_gl (ρ := _ :: _), ↓we_var (ρ := _ :: _), ↓we_tup (ρ := _ :: _), ↓we_lst (ρ := _ :: _), ↓we_op (ρ := _ :: _), ↓we_neg (ρ := _ :: _), ↓we_cmp (ρ := _ :: _), ↓we_chain (ρ := _ :: _), ↓we_and (ρ := _ :: _), ↓we_or (ρ := _ :: _), ↓we_not (ρ := _ :: _), ↓we_ite (ρ := _ :: _), ↓we_idx (ρ := _ :: _), ↓we_slc (ρ := _ :: _), ↓we_rev (ρ := _ :: _), ↓we_call (ρ := _ :: _), ↓we_isi (ρ := _ :: _), ↓we_bi (ρ := _ :: _), ↓we_comp (ρ := _ :: _), ↓wl_nil (ρ := _ :: _), ↓wl_cons (ρ := _ :: _), ↓wpp_nil (ρ := _ :: _), ↓wpp_cons (ρ := _ :: _), ↓wa_nil (ρ := _ :: _), ↓wa_cons (ρ := _ :: _), ↓wo_nil (ρ := _ :: _), ↓wo_som (ρ := _ :: _), ↓ws_rg1 (ρ := _ :: _), ↓ws_rg2 (ρ := _ :: _), ↓ws_sq (ρ := _ :: _), ↓wc_nil (ρ := _ :: _), ↓wc_som (ρ := _ :: _), ↓brB_t, ↓brB_f, ↓varP_dat, ↓varP_own, ↓argP_dat, ↓argP_fresh, ↓callP1, ↓callP2, ↓callP3, ↓callP4, ↓callP5, ↓seq_next, ↓seq_ret, ↓seq_brk, ↓seq_cont, ↓asgP_dat, ↓asgP_own, ↓asgP_fr, ↓retP_dat, ↓retP_fresh, ↓done_ret, ↓done_next, ↓onO_some, ↓fz_dat, ↓fz_fresh, ↓add_ii, ↓sub_ii, ↓mul_ii, ↓mod_ii, ↓div_ii, ↓pow_ii, ↓add_tt, ↓add_ll, ↓add_ss, ↓mul_ti, ↓neg_i, ↓lt_ii, ↓le_ii, ↓gt_ii, ↓ge_ii, ↓eq_ii, ↓ne_ii, ↓eq_bb, ↓ne_bb, ↓eq_ss, ↓ne_ss, ↓len_t, ↓len_l, ↓len_s, ↓int_i, ↓list_t, ↓list_l, ↓list_s, ↓tuple_t, ↓tuple_l, ↓max_ii, ↓min_ii, ↓all_l, ↓any_l, ↓cell0, ↓cell1, ↓cell2, ↓rng1, ↓rng2, ↓Lit.d, ↓List.getElem?_cons_zero, ↓List.getElem?_cons_succ, ↓List.set_cons_zero, ↓List.set_cons_succ, ↓List.length_cons, ↓List.length_nil, ↓List.length_set, ↓natAbs10, ↓tapeP_l, ↓after_next, ↓after_cont, ↓after_brk, ↓after_ret, ↓items_t, ↓items_l, ↓rev_l, ↓List.map_cons, ↓List.map_nil, ↓wipeR, ↓restR, ↓Option.getD_some, ↓Option.getD_none, ↓setTgs_nm, ↓compP_eq, Nat.reduceAdd, Nat.reduceLT, Nat.reduceLeDiff, Int.reduceLE, Int.reduceLT, Nat.reducePow, true_and, Int.reduceToNat, Int.reducePow, Int.reduceNeg]
      refine draw_ok _ _ _ _ (by omega) (by omega) hS1 fun y S2 y0 y1 hS2 => ?_
      simp only [↓wi_nil (ρ := _ :: _), ↓wi_cons (ρ := _ :: _), ↓wi_asg (ρ := _ :: _), ↓wi_tape (ρ := _ :: _), ↓wi_asgT (ρ := _ :: _), ↓wi_setI (ρ := _ :: _), ↓wi_mt (ρ := _ :: _), ↓wi_ret (ρ := _ :: _), ↓wi_retN (ρ := _ :: _), ↓wi_iff (ρ := _ :: _), ↓wi_exp (ρ := _ :: _), ↓wi_pass (ρ := _ :: _), ↓wi_brk (ρ := _ :: _), ↓wi_cont (ρ := _ :: _), ↓we_lit (ρ := _ :: _), ↓we_gl (ρ := _ :: _), ↓we_var (ρ := _ :: _), ↓we_tup (ρ := _ :: _), ↓we_lst (ρ := _ :: _), ↓we_op (ρ := _ :: _), ↓we_neg (ρ := _ :: _), ↓we_cmp (ρ := _ :: _), ↓we_chain (ρ := _ :: _), ↓we_and (ρ := _ :: _), ↓we_or (ρ := _ :: _), ↓we_not (ρ := _ :: _), ↓we_ite (ρ := _ :: _), ↓we_idx (ρ := _ :: _), ↓we_slc (ρ := _ :: _), ↓we_rev (ρ := _ :: _), ↓we_call (ρ := _ :: _), ↓we_isi (ρ := _ :: _), ↓we_bi (ρ := _ :: _), ↓we_comp (ρ := _ :: _), ↓wl_nil (ρ := _ :: _), ↓wl_cons (ρ := _ :: _), ↓wpp_nil (ρ := _ :: _), ↓wpp_cons (ρ := _ :: _), ↓wa_nil (ρ := _ :: _), ↓wa_cons (ρ := _ :: _), ↓wo_nil (ρ := _ :: _), ↓wo_som (ρ := _ :: _), ↓ws_rg1 (ρ := _ :: _), ↓ws_rg2 (ρ := _ :: _), ↓ws_sq (ρ := _ :: _), ↓wc_nil (ρ := _ :: _), ↓wc_som (ρ := _ :: _), ↓brB_t, ↓brB_f, ↓varP_dat, ↓varP_own, ↓argP_dat, ↓argP_fresh, ↓callP1, ↓callP2, ↓callP3, ↓callP4, ↓callP5, ↓seq_next, ↓seq_ret, ↓seq_brk, ↓seq_cont, ↓asgP_dat, ↓asgP_own, ↓asgP_fr, ↓retP_dat, ↓retP_fresh, ↓done_ret, ↓done_next, ↓onO_some, ↓fz_dat, ↓fz_fresh, ↓add_ii, ↓sub_ii, ↓mul_ii, ↓mod_ii, ↓div_ii, ↓pow_ii, ↓add_tt, ↓add_ll, ↓add_ss, ↓mul_ti, ↓neg_i, ↓lt_ii, ↓le_ii, ↓gt_ii, ↓ge_ii, ↓eq_ii, ↓ne_ii, ↓eq_bb, ↓ne_bb, ↓eq_ss, ↓ne_ss, ↓len_t, ↓len_l, ↓len_s, ↓int_i, ↓list_t, ↓list_l, ↓list_s, ↓tuple_t, ↓tuple_l, ↓max_ii, ↓min_ii, ↓all_l, ↓any_l, ↓cell0, ↓cell1, ↓cell2, ↓rng1, ↓rng2, ↓Lit.d, ↓List.getElem?_cons_zero, ↓List.getElem?_cons_succ, ↓List.set_cons_zero, ↓List.set_cons_succ, ↓List.length_cons, ↓List.length_nil, ↓List.length_set, ↓natAbs10, ↓tapeP_l, ↓after_next, ↓after_cont, ↓after_brk, ↓after_ret, ↓items_t, ↓items_l, ↓rev_l, ↓List.map_cons, ↓List.map_nil, ↓wipeR, ↓restR, ↓Option.getD_some, ↓Option.getD_none, ↓setTgs_nm, ↓compP_eq, Nat.reduceAdd, Nat.reduceLT, Nat.reduceLeDiff, Int.reduceLE, Int.reduceLT, Nat.reducePow, true_and, Int.reduceToNat, Int.reducePow, Int.reduceNeg]
      refine ⟨by omega, ?_⟩
      refine near_ok _ _ _ _ hw hw2 hS2 fun z S3 z0 z1 hS3 => ?_
      simp only [↓wi_nil (ρ := _ :: _), ↓wi_cons (ρ := _ :: _), ↓wi_asg (ρ := _ :: _), ↓wi_tape (ρ := _ :: _), ↓wi_asgT (ρ := _ :: _), ↓wi_setI (ρ := _ :: _), ↓wi_mt (ρ := _ :: _), ↓wi_ret (ρ := _ :: _), ↓wi_retN (ρ := _ :: _), ↓wi_iff (ρ := _ :: _), ↓wi_exp (ρ := _ :: _), ↓wi_pass (ρ := _ :: _), ↓wi_brk (ρ := _ :: _), ↓wi_cont (ρ := _ :: _), ↓we_lit (ρ := _ :: _), ↓we_gl (ρ := _ :: _), ↓we_var (ρ := _ :: _), ↓we_tup (ρ := _ :: _), ↓we_lst (ρ := _ :: _), ↓we_op (ρ := _ :: _), ↓we_neg (ρ := _ :: _), ↓we_cmp (ρ := _ :: _), ↓we_chain (ρ := _ :: _), ↓we_and (ρ := _ :: _), ↓we_or (ρ := _ :: _), ↓we_not (ρ := _ :: _), ↓we_ite (ρ := _ :: _), ↓we_idx (ρ := _ :: _), ↓we_slc (ρ := _ :: _), ↓we_rev (ρ := _ :: _), ↓we_call (ρ := _ :: _), ↓we_isi (ρ := _ :: _), ↓we_bi (ρ := _ :: _), ↓we_comp (ρ := _ :: _), ↓wl_nil (ρ := _ :: _), ↓wl_cons (ρ := _ :: _), ↓wpp_nil (ρ := _ :: _), ↓wpp_cons (ρ := _ :: _), ↓wa_nil (ρ := _ :: _), ↓wa_cons (ρ := _ :: _), ↓wo_nil (ρ := _ :: _), ↓wo_som (ρ := _ :: _), ↓ws_rg1 (ρ := _ :: _), ↓ws_rg2 (ρ := _ :: _), ↓ws_sq (ρ := _ :: _), ↓wc_nil (ρ := _ :: _), ↓wc_som (ρ := _ :: _), ↓brB_t, ↓brB_f, ↓varP_dat, ↓varP_own, ↓argP_dat, ↓argP_fresh, ↓callP1, ↓callP2, ↓callP3, ↓callP4, ↓callP5, ↓seq_next, ↓seq_ret, ↓seq_brk, ↓seq_cont, ↓asgP_dat, ↓asgP_own, ↓asgP_fr, ↓retP_dat, ↓retP_fresh, ↓done_ret, ↓done_next, ↓onO_some, ↓fz_dat, ↓fz_fresh, ↓add_ii, ↓sub_ii, ↓mul_ii, ↓mod_ii, ↓div_ii, ↓pow_ii, ↓add_tt, ↓add_ll, ↓add_ss, ↓mul_ti, ↓neg_i, ↓lt_ii, ↓le_ii, ↓gt_ii, ↓ge_ii, ↓eq_ii, ↓ne_ii, ↓eq_bb, ↓ne_bb, ↓eq_ss, ↓ne_ss, ↓len_t, ↓len_l, ↓len_s, ↓int_i, ↓list_t, ↓list_l, ↓list_s, ↓tuple_t, ↓tuple_l, ↓max_ii, ↓min_ii, ↓all_l, ↓any_l, ↓cell0, ↓cell1, ↓cell2, ↓rng1, ↓rng2, ↓Lit.d, ↓List.getElem?_cons_zero, ↓List.getElem?_cons_succ, ↓List.set_cons_zero, ↓List.set_cons_succ, ↓List.length_cons, ↓List.length_nil, ↓List.length_set, ↓natAbs10, ↓tapeP_l, ↓after_next, ↓after_cont, ↓after_brk, ↓after_ret, ↓items_t, ↓items_l, ↓rev_l, ↓List.map_cons, ↓List.map_nil, ↓wipeR, ↓restR, ↓Option.getD_some, ↓Option.getD_none, ↓setTgs_nm, ↓compP_eq, Nat.reduceAdd, Nat.reduceLT, Nat.reduceLeDiff, Int.reduceLE, Int.reduceLT, Nat.reducePow, true_and, Int.reduceToNat, Int.reducePow, Int.reduceNeg]
      simp only [List.length_cons] at hl
      refine ⟨by decide, by decide, ?_, S3, some (.dat d), some (.dat (.int x)), some (.dat (.int ((x + 1 + y) % p))), rs ++ [(x, (x + 1 + y) % p, z)], ?_, ?_, hS3, ?_⟩
      · rw [List.length_map]; simp only [sizeLine]; omega
      · rw [List.length_append]; simp only [List.length_cons, List.length_nil]; omega
      · intro r hr
        rcases List.mem_append.mp hr with hr | hr
        · exact hrs r hr
        · simp only [List.mem_cons, List.not_mem_nil, or_false] at hr
          subst hr
          have e0 := Int.emod_nonneg (x + 1 + y) (show p ≠ 0 by omega)
          have e1 := Int.emod_lt_of_pos (x + 1 + y) (show 0 < p by omega)
          refine ⟨⟨x0, x1⟩, ⟨e0, e1⟩, ?_, z0, z1⟩
          show x ≠ (x + 1 + y) % p
          by_cases hx : x + 1 + y < p
          · rw [Int.emod_eq_of_lt (by omega) hx]; omega
          · rw [show x + 1 + y = (x + 1 + y - p) + p from by omega, Int.add_emod_right, Int.emod_eq_of_lt (by omega) (by omega)]; omega
      · simp only [R, List.map_append, List.map_cons, List.map_nil, brow]
        exact at_mk
    · rintro _ _ ⟨S0, a, b, c, rs, hl, hrs, hS0, rfl, rfl⟩
      simp only [seq_next]
      exact ⟨S0, a, b, c, rs, by simpa using hl, hrs, hS0, at_mk⟩
  rintro _ _ ⟨S0, a, b, c, rs, hl, hrs, hS0, rfl, rfl⟩
  simp only [R, ↓wi_nil (ρ := _ :: _), ↓wi_cons (ρ := _ :: _), ↓wi_asg (ρ := _ :: _), ↓wi_tape (ρ := _ :: _), ↓wi_asgT (ρ := _ :: _), ↓wi_setI (ρ := _ :: _), ↓wi_mt (ρ := _ :: _), ↓wi_ret (ρ := _ :: _), ↓wi_retN (ρ := _ :: _), ↓wi_iff (ρ := _ :: _), ↓wi_exp (ρ := _ :: _), ↓wi_pass (ρ := _ :: _), ↓wi_brk (ρ := _ :: _), ↓wi_cont (ρ := _ :: _), ↓we_lit (ρ := _ :: _), ↓we_gl (ρ := _ :: _), ↓we_var (ρ := _ :: _), ↓we_tup (ρ := _ :: _), ↓we_lst (ρ := _ :: _), ↓we_op (ρ := _ :: _), ↓we_neg (ρ := _ :: _), ↓we_cmp (ρ := _ :: _), ↓we_chain (ρ := _ :: _), ↓we_and (ρ := _ :: _), ↓we_or (ρ := _ :: _), ↓we_not (ρ := _ :: _), ↓we_ite (ρ := _ :: _), ↓we_idx (ρ := _ :: _), ↓we_slc (ρ := _ :: _), ↓we_rev (ρ := _ :: _), ↓we_call (ρ := _ :: _), ↓we_isi (ρ := _ :: _), ↓we_bi (ρ := _ :: _), ↓we_comp (ρ := _ :: _), ↓wl_nil (ρ := _ :: _), ↓wl_cons (ρ := _ :: _), ↓wpp_nil (ρ := _ :: _), ↓wpp_cons (ρ := _ :: _), ↓wa_nil (ρ := _ :: _), ↓wa_cons (ρ := _ :: _), ↓wo_nil (ρ := _ :: _), ↓wo_som (ρ := _ :: _), ↓ws_rg1 (ρ := _ :: _), ↓ws_rg2 (ρ := _ :: _), ↓ws_sq (ρ := _ :: _), ↓wc_nil (ρ := _ :: _), ↓wc_som (ρ := _ :: _), ↓brB_t, ↓brB_f, ↓varP_dat, ↓varP_own, ↓argP_dat, ↓argP_fresh, ↓callP1, ↓callP2, ↓callP3, ↓callP4, ↓callP5, ↓seq_next, ↓seq_ret, ↓seq_brk, ↓seq_cont, ↓asgP_dat, ↓asgP_own, ↓asgP_fr, ↓retP_dat, ↓retP_fresh, ↓done_ret, ↓done_next, ↓onO_some, ↓fz_dat, ↓fz_fresh, ↓add_ii, ↓sub_ii, ↓mul_ii, ↓mod_ii, ↓div_ii, ↓pow_ii, ↓add_tt, ↓add_ll, ↓add_ss, ↓mul_ti, ↓neg_i, ↓lt_ii, ↓le_ii, ↓gt_ii, ↓ge_ii, ↓eq_ii, ↓ne_ii, ↓eq_bb, ↓ne_bb, ↓eq_ss, ↓ne_ss, ↓len_t, ↓len_l, ↓len_s, ↓int_i, ↓list_t, ↓list_l, ↓list_s, ↓tuple_t, ↓tuple_l, ↓max_ii, ↓min_ii, ↓all_l, ↓any_l, ↓cell0, ↓cell1, ↓cell2, ↓rng1, ↓rng2, ↓Lit.d, ↓List.getElem?_cons_zero, ↓List.getElem?_cons_succ, ↓List.set_cons_zero, ↓List.set_cons_succ, ↓List.length_cons, ↓List.length_nil, ↓List.length_set, ↓natAbs10, ↓tapeP_l, ↓after_next, ↓after_cont, ↓after_brk, ↓after_ret, ↓items_t, ↓items_l, ↓rev_l, ↓List.map_cons, ↓List.map_nil, ↓wipeR, ↓restR, ↓Option.getD_some, ↓Option.getD_none, ↓setTgs_nm, ↓compP_eq, Nat.reduceAdd, Nat.reduceLT, Nat.reduceLeDiff, Int.reduceLE, Int.reduceLT, Nat.reducePow, true_and, Int.reduceToNat, Int.reducePow, Int.reduceNeg]
  exact hP _ _ hl hrs hS0
def Spoilt (call : Fn) (N k : Nat) : Prop := ∀ (d : D) (S : Store) (P : KD × Store → Prop), Fit N k d → TS S → (∀ kd d' S', (kd = Kd.dat ∨ kd = Kd.fresh) → Fit (N + 10) (k + 3) d' → TS S' → P ((kd, d'), S')) → onO (call ix__law_spoilt [.cell 0, d] S) P
def seqD : D → Option (List D)
  | .tup ds => some ds
  | .lst ds => some ds
  | _ => none
theorem seq_is {d : D} : ((isTy d .tuple || (isTy d .list || false)) = true → (∃ ds, seqD d = some ds) ∨ ∃ n, d = .cell n ∨ ∃ ns, d = .scr ns) := by
  cases d <;> simp [isTy, seqD]
theorem spoilt_tail {n N k : Nat} {d : D} {S : Store} {P : KD × Store → Prop} (hN : N ≤ 100000) (hd : Draw (fam fds n)) (hw : Whole (fam fds n)) (ha : Any (fam fds n) 2) (hf : Fit N k d) (hS : TS S)
    (hP : ∀ kd d' S', (kd = Kd.dat ∨ kd = Kd.fresh) → Fit (N + 10) (k + 3) d' → TS S' → P ((kd, d'), S')) (x3 x5 : Option Slot) :
    ∀ T, (∃ A, b__law_spoilt = .cons A T) → wp (evI (fam fds n) T) [some (.dat (.cell 0)), some (.dat d), none, none, none, none] S fun f _ S' => doneP f S' P := by
  rintro T ⟨A, hT⟩
  unfold b__law_spoilt at hT
  cases hT
  refine wi_cut (fun ρ S => ∃ S0, TS S0 ∧ At [some (.dat (.cell 0)), some (.dat d), none, none, none, none] S0 ρ S) ?_ ?_
  · refine wi_if (fun t ρ S => (t = true → isW d = true) ∧ ∃ S0, TS S0 ∧ At [some (.dat (.cell 0)), some (.dat d), none, none, none, none] S0 ρ S) ?_ ?_ ?_
    · simp only [↓wi_nil (ρ := _ :: _), ↓wi_cons (ρ := _ :: _), ↓wi_asg (ρ := _ :: _), ↓wi_tape (ρ := _ :: _), ↓wi_asgT (ρ := _ :: _), ↓wi_setI (ρ := _ :: _), ↓wi_mt (ρ := _ :: _), ↓wi_ret (ρ := _ :: _), ↓wi_retN (ρ := _ :: _), ↓wi_iff (ρ := _ :: _), ↓wi_exp (ρ := _ :: _), ↓wi_pass (ρ := _ :: _), ↓wi_brk (ρ := _ :: _), ↓wi_cont (ρ := _ :: _), ↓we_lit (ρ := _ :: _), ↓we_gl (ρ := _ :: _), ↓we_var (ρ := _ :: _), ↓we_tup (ρ := _ :: _), ↓we_lst (ρ := _ :: _), ↓we_op (ρ := _ :: _), ↓we_neg (ρ := _ :: _), ↓we_cmp (ρ := _ :: _), ↓we_chain (ρ := _ :: _), ↓we_and (ρ := _ :: _), ↓we_or (ρ := _ :: _), ↓we_not (ρ := _ :: _), ↓we_ite (ρ := _ :: _), ↓we_idx (ρ := _ :: _), ↓we_slc (ρ := _ :: _), ↓we_rev (ρ := _ :: _), ↓we_call (ρ := _ :: _), ↓we_isi (ρ := _ :: _), ↓we_bi (ρ := _ :: _), ↓we_comp (ρ := _ :: _), ↓wl_nil (ρ := _ :: _), ↓wl_cons (ρ := _ :: _), ↓wpp_nil (ρ := _ :: _), ↓wpp_cons (ρ := _ :: _), ↓wa_nil (ρ := _ :: _), ↓wa_cons (ρ := _ :: _), ↓wo_nil (ρ := _ :: _), ↓wo_som (ρ := _ :: _), ↓ws_rg1 (ρ := _ :: _), ↓ws_rg2 (ρ := _ :: _), ↓ws_sq (ρ := _ :: _), ↓wc_nil (ρ := _ :: _), ↓wc_som (ρ := _ :: _), ↓brB_t, ↓brB_f, ↓varP_dat, ↓varP_own, ↓argP_dat, ↓argP_fresh, ↓callP1, ↓callP2, ↓callP3, ↓callP4, ↓callP5, ↓seq_next, ↓seq_ret, ↓seq_brk, ↓seq_cont, ↓asgP_dat, ↓asgP_own, ↓asgP_fr, ↓retP_dat, ↓retP_fresh, ↓done_ret, ↓done_next, ↓onO_some, ↓fz_dat, ↓fz_fresh, ↓add_ii, ↓sub_ii, ↓mul_ii, ↓mod_ii, ↓div_ii, ↓pow_ii, ↓add_tt, ↓add_ll, ↓add_ss, ↓mul_ti, ↓neg_i, ↓lt_ii, ↓le_ii, ↓gt_ii, ↓ge_ii, ↓eq_ii, ↓ne_ii, ↓eq_bb, ↓ne_bb, ↓eq_ss, ↓ne_ss, ↓len_t, ↓len_l, ↓len_s, ↓int_i, ↓list_t, ↓list_l, ↓list_s, ↓tuple_t, ↓tuple_l, ↓max_ii, ↓min_ii, ↓all_l, ↓any_l, ↓cell0, ↓cell1, ↓cell2, ↓rng1, ↓rng2, ↓Lit.d, ↓List.getElem?_cons_zero, ↓List.getElem?_cons_succ, ↓List.set_cons_zero, ↓List.set_cons_succ, ↓List.length_cons, ↓List.length_nil, ↓List.length_set, ↓natAbs10, ↓tapeP_l, ↓after_next, ↓after_cont, ↓after_brk, ↓after_ret, ↓items_t, ↓items_l, ↓rev_l, ↓List.map_cons, ↓List.map_nil, ↓wipeR, ↓restR, ↓Option.getD_some, ↓Option.getD_none, ↓setTgs_nm, ↓compP_eq, Nat.reduceAdd, Nat.reduceLT, Nat.reduceLeDiff, Int.reduceLE, Int.reduceLT, Nat.reducePow, true_and, Int.reduceToNat, Int.reducePow, Int.reduceNeg]
      refine hw _ _ _ ?_
      simp only [↓wi_nil (ρ := _ :: _), ↓wi_cons (ρ := _ :: _), ↓wi_asg (ρ := _ :: _), ↓wi_tape (ρ := _ :: _), ↓wi_asgT (ρ := _ :: _), ↓wi_setI (ρ := _ :: _), ↓wi_mt (ρ := _ :: _), ↓wi_ret (ρ := _ :: _), ↓wi_retN (ρ := _ :: _), ↓wi_iff (ρ := _ :: _), ↓wi_exp (ρ := _ :: _), ↓wi_pass (ρ := _ :: _), ↓wi_brk (ρ := _ :: _), ↓wi_cont (ρ := _ :: _), ↓we_lit (ρ := _ :: _), ↓we_gl (ρ := _ :: _), ↓we_var (ρ := _ :: _), ↓we_tup (ρ := _ :: _), ↓we_lst (ρ := _ :: _), ↓we_op (ρ := _ :: _), ↓we_neg (ρ := _ :: _), ↓we_cmp (ρ := _ :: _), ↓we_chain (ρ := _ :: _), ↓we_and (ρ := _ :: _), ↓we_or (ρ := _ :: _), ↓we_not (ρ := _ :: _), ↓we_ite (ρ := _ :: _), ↓we_idx (ρ := _ :: _), ↓we_slc (ρ := _ :: _), ↓we_rev (ρ := _ :: _), ↓we_call (ρ := _ :: _), ↓we_isi (ρ := _ :: _), ↓we_bi (ρ := _ :: _), ↓we_comp (ρ := _ :: _), ↓wl_nil (ρ := _ :: _), ↓wl_cons (ρ := _ :: _), ↓wpp_nil (ρ := _ :: _), ↓wpp_cons (ρ := _ :: _), ↓wa_nil (ρ := _ :: _), ↓wa_cons (ρ := _ :: _), ↓wo_nil (ρ := _ :: _), ↓wo_som (ρ := _ :: _), ↓ws_rg1 (ρ := _ :: _), ↓ws_rg2 (ρ := _ :: _), ↓ws_sq (ρ := _ :: _), ↓wc_nil (ρ := _ :: _), ↓wc_som (ρ := _ :: _), ↓brB_t, ↓brB_f, ↓varP_dat, ↓varP_own, ↓argP_dat, ↓argP_fresh, ↓callP1, ↓callP2, ↓callP3, ↓callP4, ↓callP5, ↓seq_next, ↓seq_ret, ↓seq_brk, ↓seq_cont, ↓asgP_dat, ↓asgP_own, ↓asgP_fr, ↓retP_dat, ↓retP_fresh, ↓done_ret, ↓done_next, ↓onO_some, ↓fz_dat, ↓fz_fresh, ↓add_ii, ↓sub_ii, ↓mul_ii, ↓mod_ii, ↓div_ii, ↓pow_ii, ↓add_tt, ↓add_ll, ↓add_ss, ↓mul_ti, ↓neg_i, ↓lt_ii, ↓le_ii, ↓gt_ii, ↓ge_ii, ↓eq_ii, ↓ne_ii, ↓eq_bb, ↓ne_bb, ↓eq_ss, ↓ne_ss, ↓len_t, ↓len_l, ↓len_s, ↓int_i, ↓list_t, ↓list_l, ↓list_s, ↓tuple_t, ↓tuple_l, ↓max_ii, ↓min_ii, ↓all_l, ↓any_l, ↓cell0, ↓cell1, ↓cell2, ↓rng1, ↓rng2, ↓Lit.d, ↓List.getElem?_cons_zero, ↓List.getElem?_cons_succ, ↓List.set_cons_zero, ↓List.set_cons_succ, ↓List.length_cons, ↓List.length_nil, ↓List.length_set, ↓natAbs10, ↓tapeP_l, ↓after_next, ↓after_cont, ↓after_brk, ↓after_ret, ↓items_t, ↓items_l, ↓rev_l, ↓List.map_cons, ↓List.map_nil, ↓wipeR, ↓restR, ↓Option.getD_some, ↓Option.getD_none, ↓setTgs_nm, ↓compP_eq, Nat.reduceAdd, Nat.reduceLT, Nat.reduceLeDiff, Int.reduceLE, Int.reduceLT, Nat.reducePow, true_and, Int.reduceToNat, Int.reducePow, Int.reduceNeg]
      refine brB_of (fun h => ?_) (fun h => ⟨_, rfl, (fun z => nomatch z), _, hS, at_mk⟩)
      refine hd _ _ _ (by decide) (by decide) hS fun r S' g0 g1 hS' => ?_
      simp only [↓wi_nil (ρ := _ :: _), ↓wi_cons (ρ := _ :: _), ↓wi_asg (ρ := _ :: _), ↓wi_tape (ρ := _ :: _), ↓wi_asgT (ρ := _ :: _), ↓wi_setI (ρ := _ :: _), ↓wi_mt (ρ := _ :: _), ↓wi_ret (ρ := _ :: _), ↓wi_retN (ρ := _ :: _), ↓wi_iff (ρ := _ :: _), ↓wi_exp (ρ := _ :: _), ↓wi_pass (ρ := _ :: _), ↓wi_brk (ρ := _ :: _), ↓wi_cont (ρ := _ :: _), ↓we_lit (ρ := _ :: _), ↓we_gl (ρ := _ :: _), ↓we_var (ρ := _ :: _), ↓we_tup (ρ := _ :: _), ↓we_lst (ρ := _ :: _), ↓we_op (ρ := _ :: _), ↓we_neg (ρ := _ :: _), ↓we_cmp (ρ := _ :: _), ↓we_chain (ρ := _ :: _), ↓we_and (ρ := _ :: _), ↓we_or (ρ := _ :: _), ↓we_not (ρ := _ :: _), ↓we_ite (ρ := _ :: _), ↓we_idx (ρ := _ :: _), ↓we_slc (ρ := _ :: _), ↓we_rev (ρ := _ :: _), ↓we_call (ρ := _ :: _), ↓we_isi (ρ := _ :: _), ↓we_bi (ρ := _ :: _), ↓we_comp (ρ := _ :: _), ↓wl_nil (ρ := _ :: _), ↓wl_cons (ρ := _ :: _), ↓wpp_nil (ρ := _ :: _), ↓wpp_cons (ρ := _ :: _), ↓wa_nil (ρ := _ :: _), ↓wa_cons (ρ := _ :: _), ↓wo_nil (ρ := _ :: _), ↓wo_som (ρ := _ :: _), ↓ws_rg1 (ρ := _ :: _), ↓ws_rg2 (ρ := _ :: _), ↓ws_sq (ρ := _ :: _), ↓wc_nil (ρ := _ :: _), ↓wc_som (ρ := _ :: _), ↓brB_t, ↓brB_f, ↓varP_dat, ↓varP_own, ↓argP_dat, ↓argP_fresh, ↓callP1, ↓callP2, ↓callP3, ↓callP4, ↓callP5, ↓seq_next, ↓seq_ret, ↓seq_brk, ↓seq_cont, ↓asgP_dat, ↓asgP_own, ↓asgP_fr, ↓retP_dat, ↓retP_fresh, ↓done_ret, ↓done_next, ↓onO_some, ↓fz_dat, ↓fz_fresh, ↓add_ii, ↓sub_ii, ↓mul_ii, ↓mod_ii, ↓div_ii, ↓pow_ii, ↓add_tt, ↓add_ll, ↓add_ss, ↓mul_ti, ↓neg_i, ↓lt_ii, ↓le_ii, ↓gt_ii, ↓ge_ii, ↓eq_ii, ↓ne_ii, ↓eq_bb, ↓ne_bb, ↓eq_ss, ↓ne_ss, ↓len_t, ↓len_l, ↓len_s, ↓int_i, ↓list_t, ↓list_l, ↓list_s, ↓tuple_t, ↓tuple_l, ↓max_ii, ↓min_ii, ↓all_l, ↓any_l, ↓cell0, ↓cell1, ↓cell2, ↓rng1, ↓rng2, ↓Lit.d, ↓List.getElem?_cons_zero, ↓List.getElem?_cons_succ, ↓List.set_cons_zero, ↓List.set_cons_succ, ↓List.length_cons, ↓List.length_nil, ↓List.length_set, ↓natAbs10, ↓tapeP_l, ↓after_next, ↓after_cont, ↓after_brk, ↓after_ret, ↓items_t, ↓items_l, ↓rev_l, ↓List.map_cons, ↓List.map_nil, ↓wipeR, ↓restR, ↓Option.getD_some, ↓Option.getD_none, ↓setTgs_nm, ↓compP_eq, Nat.reduceAdd, Nat.reduceLT, Nat.reduceLeDiff, Int.reduceLE, Int.reduceLT, Nat.reducePow, true_and, Int.reduceToNat, Int.reducePow, Int.reduceNeg]
      exact ⟨_, rfl, fun _ => h, _, hS', at_mk⟩
    · rintro _ _ ⟨h, S0, hS0, rfl, rfl⟩
      obtain ⟨i, rfl⟩ : ∃ i, d = .int i := by
        have h := h rfl
        cases d <;> first | exact ⟨_, rfl⟩ | (simp [isW] at h)
      simp only [↓wi_nil (ρ := _ :: _), ↓wi_cons (ρ := _ :: _), ↓wi_asg (ρ := _ :: _), ↓wi_tape (ρ := _ :: _), ↓wi_asgT (ρ := _ :: _), ↓wi_setI (ρ := _ :: _), ↓wi_mt (ρ := _ :: _), ↓wi_ret (ρ := _ :: _), ↓wi_retN (ρ := _ :: _), ↓wi_iff (ρ := _ :: _), ↓wi_exp (ρ := _ :: _), ↓wi_pass (ρ := _ :: _), ↓wi_brk (ρ := _ :: _), ↓wi_cont (ρ := _ :: _), ↓we_lit (ρ := _ :: _), ↓we_gl (ρ := _ :: _), ↓we_var (ρ := _ :: _), ↓we_tup (ρ := _ :: _), ↓we_lst (ρ := _ :: _), ↓we_op (ρ := _ :: _), ↓we_neg (ρ := _ :: _), ↓we_cmp (ρ := _ :: _), ↓we_chain (ρ := _ :: _), ↓we_and (ρ := _ :: _), ↓we_or (ρ := _ :: _), ↓we_not (ρ := _ :: _), ↓we_ite (ρ := _ :: _), ↓we_idx (ρ := _ :: _), ↓we_slc (ρ := _ :: _), ↓we_rev (ρ := _ :: _), ↓we_call (ρ := _ :: _), ↓we_isi (ρ := _ :: _), ↓we_bi (ρ := _ :: _), ↓we_comp (ρ := _ :: _), ↓wl_nil (ρ := _ :: _), ↓wl_cons (ρ := _ :: _), ↓wpp_nil (ρ := _ :: _), ↓wpp_cons (ρ := _ :: _), ↓wa_nil (ρ := _ :: _), ↓wa_cons (ρ := _ :: _), ↓wo_nil (ρ := _ :: _), ↓wo_som (ρ := _ :: _), ↓ws_rg1 (ρ := _ :: _), ↓ws_rg2 (ρ := _ :: _), ↓ws_sq (ρ := _ :: _), ↓wc_nil (ρ := _ :: _), ↓wc_som (ρ := _ :: _), ↓brB_t, ↓brB_f, ↓varP_dat, ↓varP_own, ↓argP_dat, ↓argP_fresh, ↓callP1, ↓callP2, ↓callP3, ↓callP4, ↓callP5, ↓seq_next, ↓seq_ret, ↓seq_brk, ↓seq_cont, ↓asgP_dat, ↓asgP_own, ↓asgP_fr, ↓retP_dat, ↓retP_fresh, ↓done_ret, ↓done_next, ↓onO_some, ↓fz_dat, ↓fz_fresh, ↓add_ii, ↓sub_ii, ↓mul_ii, ↓mod_ii, ↓div_ii, ↓pow_ii, ↓add_tt, ↓add_ll, ↓add_ss, ↓mul_ti, ↓neg_i, ↓lt_ii, ↓le_ii, ↓gt_ii, ↓ge_ii, ↓eq_ii, ↓ne_ii, ↓eq_bb, ↓ne_bb, ↓eq_ss, ↓ne_ss, ↓len_t, ↓len_l, ↓len_s, ↓int_i, ↓list_t, ↓list_l, ↓list_s, ↓tuple_t, ↓tuple_l, ↓max_ii, ↓min_ii, ↓all_l, ↓any_l, ↓cell0, ↓cell1, ↓cell2, ↓rng1, ↓rng2, ↓Lit.d, ↓List.getElem?_cons_zero, ↓List.getElem?_cons_succ, ↓List.set_cons_zero, ↓List.set_cons_succ, ↓List.length_cons, ↓List.length_nil, ↓List.length_set, ↓natAbs10, ↓tapeP_l, ↓after_next, ↓after_cont, ↓after_brk, ↓after_ret, ↓items_t, ↓items_l, ↓rev_l, ↓List.map_cons, ↓List.map_nil, ↓wipeR, ↓restR, ↓Option.getD_some, ↓Option.getD_none, ↓setTgs_nm, ↓compP_eq, Nat.reduceAdd, Nat.reduceLT, Nat.reduceLeDiff, Int.reduceLE, Int.reduceLT, Nat.reducePow, true_and, Int.reduceToNat, Int.reducePow, Int.reduceNeg]
      refine ⟨by decide, ?_⟩
      refine hd _ _ _ (by decide) (by decide) hS0 fun r S' g0 g1 hS' => ?_
      simp only [↓wi_nil (ρ := _ :: _), ↓wi_cons (ρ := _ :: _), ↓wi_asg (ρ := _ :: _), ↓wi_tape (ρ := _ :: _), ↓wi_asgT (ρ := _ :: _), ↓wi_setI (ρ := _ :: _), ↓wi_mt (ρ := _ :: _), ↓wi_ret (ρ := _ :: _), ↓wi_retN (ρ := _ :: _), ↓wi_iff (ρ := _ :: _), ↓wi_exp (ρ := _ :: _), ↓wi_pass (ρ := _ :: _), ↓wi_brk (ρ := _ :: _), ↓wi_cont (ρ := _ :: _), ↓we_lit (ρ := _ :: _), ↓we_gl (ρ := _ :: _), ↓we_var (ρ := _ :: _), ↓we_tup (ρ := _ :: _), ↓we_lst (ρ := _ :: _), ↓we_op (ρ := _ :: _), ↓we_neg (ρ := _ :: _), ↓we_cmp (ρ := _ :: _), ↓we_chain (ρ := _ :: _), ↓we_and (ρ := _ :: _), ↓we_or (ρ := _ :: _), ↓we_not (ρ := _ :: _), ↓we_ite (ρ := _ :: _), ↓we_idx (ρ := _ :: _), ↓we_slc (ρ := _ :: _), ↓we_rev (ρ := _ :: _), ↓we_call (ρ := _ :: _), ↓we_isi (ρ := _ :: _), ↓we_bi (ρ := _ :: _), ↓we_comp (ρ := _ :: _), ↓wl_nil (ρ := _ :: _), ↓wl_cons (ρ := _ :: _), ↓wpp_nil (ρ := _ :: _), ↓wpp_cons (ρ := _ :: _), ↓wa_nil (ρ := _ :: _), ↓wa_cons (ρ := _ :: _), ↓wo_nil (ρ := _ :: _), ↓wo_som (ρ := _ :: _), ↓ws_rg1 (ρ := _ :: _), ↓ws_rg2 (ρ := _ :: _), ↓ws_sq (ρ := _ :: _), ↓wc_nil (ρ := _ :: _), ↓wc_som (ρ := _ :: _), ↓brB_t, ↓brB_f, ↓varP_dat, ↓varP_own, ↓argP_dat, ↓argP_fresh, ↓callP1, ↓callP2, ↓callP3, ↓callP4, ↓callP5, ↓seq_next, ↓seq_ret, ↓seq_brk, ↓seq_cont, ↓asgP_dat, ↓asgP_own, ↓asgP_fr, ↓retP_dat, ↓retP_fresh, ↓done_ret, ↓done_next, ↓onO_some, ↓fz_dat, ↓fz_fresh, ↓add_ii, ↓sub_ii, ↓mul_ii, ↓mod_ii, ↓div_ii, ↓pow_ii, ↓add_tt, ↓add_ll, ↓add_ss, ↓mul_ti, ↓neg_i, ↓lt_ii, ↓le_ii, ↓gt_ii, ↓ge_ii, ↓eq_ii, ↓ne_ii, ↓eq_bb, ↓ne_bb, ↓eq_ss, ↓ne_ss, ↓len_t, ↓len_l, ↓len_s, ↓int_i, ↓list_t, ↓list_l, ↓list_s, ↓tuple_t, ↓tuple_l, ↓max_ii, ↓min_ii, ↓all_l, ↓any_l, ↓cell0, ↓cell1, ↓cell2, ↓rng1, ↓rng2, ↓Lit.d, ↓List.getElem?_cons_zero, ↓List.getElem?_cons_succ, ↓List.set_cons_zero, ↓List.set_cons_succ, ↓List.length_cons, ↓List.length_nil, ↓List.length_set, ↓natAbs10, ↓tapeP_l, ↓after_next, ↓after_cont, ↓after_brk, ↓after_ret, ↓items_t, ↓items_l, ↓rev_l, ↓List.map_cons, ↓List.map_nil, ↓wipeR, ↓restR, ↓Option.getD_some, ↓Option.getD_none, ↓setTgs_nm, ↓compP_eq, Nat.reduceAdd, Nat.reduceLT, Nat.reduceLeDiff, Int.reduceLE, Int.reduceLT, Nat.reducePow, true_and, Int.reduceToNat, Int.reducePow, Int.reduceNeg]
      obtain ⟨j, a, e1, e2, e3⟩ := getElem?_ix (xs := [D.int 1, D.int (-1), D.int 2, D.int (-2), D.int 9, D.int 1000]) g0 (by exact g1)
      refine ix_l e1 e2 ?_
      simp only [List.mem_cons, List.not_mem_nil, or_false] at e3
      rcases e3 with rfl | rfl | rfl | rfl | rfl | rfl <;> (simp only [↓wi_nil (ρ := _ :: _), ↓wi_cons (ρ := _ :: _), ↓wi_asg (ρ := _ :: _), ↓wi_tape (ρ := _ :: _), ↓wi_asgT (ρ := _ :: _), ↓wi_setI (ρ := _ :: _), ↓wi_mt (ρ := _ :: _), ↓wi_ret (ρ := _ :: _), ↓wi_retN (ρ := _ :: _), ↓wi_iff (ρ := _ :: _), ↓wi_exp (ρ := _ :: _), ↓wi_pass (ρ := _ :: _), ↓wi_brk (ρ := _ :: _), ↓wi_cont (ρ := _ :: _), ↓we_lit (ρ := _ :: _), ↓we_gl (ρ := _ :: _), ↓we_var (ρ := _ :: _), ↓we_tup (ρ := _ :: _), ↓we_lst (ρ := _ :: _), ↓we_op (ρ := _ :: _), ↓we_neg (ρ := _ :: _), ↓we_cmp (ρ := _ :: _), ↓we_chain (ρ := _ :: _), ↓we_and (ρ := _ :: _), ↓we_or (ρ := _ :: _), ↓we_not (ρ := _ :: _), ↓we_ite (ρ := _ :: _), ↓we_idx (ρ := _ :: _), ↓we_slc (ρ := _ :: _), ↓we_rev (ρ := _ :: _), ↓we_call (ρ := _ :: _), ↓we_isi (ρ := _ :: _), ↓we_bi (ρ := _ :: _), ↓we_comp (ρ := _ :: _), ↓wl_nil (ρ := _ :: _), ↓wl_cons (ρ := _ :: _), ↓wpp_nil (ρ := _ :: _), ↓wpp_cons (ρ := _ :: _), ↓wa_nil (ρ := _ :: _), ↓wa_cons (ρ := _ :: _), ↓wo_nil (ρ := _ :: _), ↓wo_som (ρ := _ :: _), ↓ws_rg1 (ρ := _ :: _), ↓ws_rg2 (ρ := _ :: _), ↓ws_sq (ρ := _ :: _), ↓wc_nil (ρ := _ :: _), ↓wc_som (ρ := _ :: _), ↓brB_t, ↓brB_f, ↓varP_dat, ↓varP_own, ↓argP_dat, ↓argP_fresh, ↓callP1, ↓callP2, ↓callP3, ↓callP4, ↓callP5, ↓seq_next, ↓seq_ret, ↓seq_brk, ↓seq_cont, ↓asgP_dat, ↓asgP_own, ↓asgP_fr, ↓retP_dat, ↓retP_fresh, ↓done_ret, ↓done_next, ↓onO_some, ↓fz_dat, ↓fz_fresh, ↓add_ii, ↓sub_ii, ↓mul_ii, ↓mod_ii, ↓div_ii, ↓pow_ii, ↓add_tt, ↓add_ll, ↓add_ss, ↓mul_ti, ↓neg_i, ↓lt_ii, ↓le_ii, ↓gt_ii, ↓ge_ii, ↓eq_ii, ↓ne_ii, ↓eq_bb, ↓ne_bb, ↓eq_ss, ↓ne_ss, ↓len_t, ↓len_l, ↓len_s, ↓int_i, ↓list_t, ↓list_l, ↓list_s, ↓tuple_t, ↓tuple_l, ↓max_ii, ↓min_ii, ↓all_l, ↓any_l, ↓cell0, ↓cell1, ↓cell2, ↓rng1, ↓rng2, ↓Lit.d, ↓List.getElem?_cons_zero, ↓List.getElem?_cons_succ, ↓List.set_cons_zero, ↓List.set_cons_succ, ↓List.length_cons, ↓List.length_nil, ↓List.length_set, ↓natAbs10, ↓tapeP_l, ↓after_next, ↓after_cont, ↓after_brk, ↓after_ret, ↓items_t, ↓items_l, ↓rev_l, ↓List.map_cons, ↓List.map_nil, ↓wipeR, ↓restR, ↓Option.getD_some, ↓Option.getD_none, ↓setTgs_nm, ↓compP_eq, Nat.reduceAdd, Nat.reduceLT, Nat.reduceLeDiff, Int.reduceLE, Int.reduceLT, Nat.reducePow, true_and, Int.reduceToNat, Int.reducePow, Int.reduceNeg]; exact hP _ _ _ (.inl rfl) Fit.int hS')
    · rintro _ _ ⟨_, S0, hS0, rfl, rfl⟩
      simp only [↓wi_nil (ρ := _ :: _), ↓wi_cons (ρ := _ :: _), ↓wi_asg (ρ := _ :: _), ↓wi_tape (ρ := _ :: _), ↓wi_asgT (ρ := _ :: _), ↓wi_setI (ρ := _ :: _), ↓wi_mt (ρ := _ :: _), ↓wi_ret (ρ := _ :: _), ↓wi_retN (ρ := _ :: _), ↓wi_iff (ρ := _ :: _), ↓wi_exp (ρ := _ :: _), ↓wi_pass (ρ := _ :: _), ↓wi_brk (ρ := _ :: _), ↓wi_cont (ρ := _ :: _), ↓we_lit (ρ := _ :: _), ↓we_gl (ρ := _ :: _), ↓we_var (ρ := _ :: _), ↓we_tup (ρ := _ :: _), ↓we_lst (ρ := _ :: _), ↓we_op (ρ := _ :: _), ↓we_neg (ρ := _ :: _), ↓we_cmp (ρ := _ :: _), ↓we_chain (ρ := _ :: _), ↓we_and (ρ := _ :: _), ↓we_or (ρ := _ :: _), ↓we_not (ρ := _ :: _), ↓we_ite (ρ := _ :: _), ↓we_idx (ρ := _ :: _), ↓we_slc (ρ := _ :: _), ↓we_rev (ρ := _ :: _), ↓we_call (ρ := _ :: _), ↓we_isi (ρ := _ :: _), ↓we_bi (ρ := _ :: _), ↓we_comp (ρ := _ :: _), ↓wl_nil (ρ := _ :: _), ↓wl_cons (ρ := _ :: _), ↓wpp_nil (ρ := _ :: _), ↓wpp_cons (ρ := _ :: _), ↓wa_nil (ρ := _ :: _), ↓wa_cons (ρ := _ :: _), ↓wo_nil (ρ := _ :: _), ↓wo_som (ρ := _ :: _), ↓ws_rg1 (ρ := _ :: _), ↓ws_rg2 (ρ := _ :: _), ↓ws_sq (ρ := _ :: _), ↓wc_nil (ρ := _ :: _), ↓wc_som (ρ := _ :: _), ↓brB_t, ↓brB_f, ↓varP_dat, ↓varP_own, ↓argP_dat, ↓argP_fresh, ↓callP1, ↓callP2, ↓callP3, ↓callP4, ↓callP5, ↓seq_next, ↓seq_ret, ↓seq_brk, ↓seq_cont, ↓asgP_dat, ↓asgP_own, ↓asgP_fr, ↓retP_dat, ↓retP_fresh, ↓done_ret, ↓done_next, ↓onO_some, ↓fz_dat, ↓fz_fresh, ↓add_ii, ↓sub_ii, ↓mul_ii, ↓mod_ii, ↓div_ii, ↓pow_ii, ↓add_tt, ↓add_ll, ↓add_ss, ↓mul_ti, ↓neg_i, ↓lt_ii, ↓le_ii, ↓gt_ii, ↓ge_ii, ↓eq_ii, ↓ne_ii, ↓eq_bb, ↓ne_bb, ↓eq_ss, ↓ne_ss, ↓len_t, ↓len_l, ↓len_s, ↓int_i, ↓list_t, ↓list_l, ↓list_s, ↓tuple_t, ↓tuple_l, ↓max_ii, ↓min_ii, ↓all_l, ↓any_l, ↓cell0, ↓cell1, ↓cell2, ↓rng1, ↓rng2, ↓Lit.d, ↓List.getElem?_cons_zero, ↓List.getElem?_cons_succ, ↓List.set_cons_zero, ↓List.set_cons_succ, ↓List.length_cons, ↓List.length_nil, ↓List.length_set, ↓natAbs10, ↓tapeP_l, ↓after_next, ↓after_cont, ↓after_brk, ↓after_ret, ↓items_t, ↓items_l, ↓rev_l, ↓List.map_cons, ↓List.map_nil, ↓wipeR, ↓restR, ↓Option.getD_some, ↓Option.getD_none, ↓setTgs_nm, ↓compP_eq, Nat.reduceAdd, Nat.reduceLT, Nat.reduceLeDiff, Int.reduceLE, Int.reduceLT, Nat.reducePow, true_and, Int.reduceToNat, Int.reducePow, Int.reduceNeg]
      exact ⟨_, hS0, at_mk⟩
  rintro _ _ ⟨S0, hS0, rfl, rfl⟩
  refine wi_cut (fun ρ S => ∃ S0, TS S0 ∧ At [some (.dat (.cell 0)), some (.dat d), none, none, none, none] S0 ρ S) ?_ ?_
  · refine wi_if (fun t ρ S => (t = true → isTy d .str = true) ∧ ∃ S0, TS S0 ∧ At [some (.dat (.cell 0)), some (.dat d), none, none, none, none] S0 ρ S) ?_ ?_ ?_
    · simp only [↓wi_nil (ρ := _ :: _), ↓wi_cons (ρ := _ :: _), ↓wi_asg (ρ := _ :: _), ↓wi_tape (ρ := _ :: _), ↓wi_asgT (ρ := _ :: _), ↓wi_setI (ρ := _ :: _), ↓wi_mt (ρ := _ :: _), ↓wi_ret (ρ := _ :: _), ↓wi_retN (ρ := _ :: _), ↓wi_iff (ρ := _ :: _), ↓wi_exp (ρ := _ :: _), ↓wi_pass (ρ := _ :: _), ↓wi_brk (ρ := _ :: _), ↓wi_cont (ρ := _ :: _), ↓we_lit (ρ := _ :: _), ↓we_gl (ρ := _ :: _), ↓we_var (ρ := _ :: _), ↓we_tup (ρ := _ :: _), ↓we_lst (ρ := _ :: _), ↓we_op (ρ := _ :: _), ↓we_neg (ρ := _ :: _), ↓we_cmp (ρ := _ :: _), ↓we_chain (ρ := _ :: _), ↓we_and (ρ := _ :: _), ↓we_or (ρ := _ :: _), ↓we_not (ρ := _ :: _), ↓we_ite (ρ := _ :: _), ↓we_idx (ρ := _ :: _), ↓we_slc (ρ := _ :: _), ↓we_rev (ρ := _ :: _), ↓we_call (ρ := _ :: _), ↓we_isi (ρ := _ :: _), ↓we_bi (ρ := _ :: _), ↓we_comp (ρ := _ :: _), ↓wl_nil (ρ := _ :: _), ↓wl_cons (ρ := _ :: _), ↓wpp_nil (ρ := _ :: _), ↓wpp_cons (ρ := _ :: _), ↓wa_nil (ρ := _ :: _), ↓wa_cons (ρ := _ :: _), ↓wo_nil (ρ := _ :: _), ↓wo_som (ρ := _ :: _), ↓ws_rg1 (ρ := _ :: _), ↓ws_rg2 (ρ := _ :: _), ↓ws_sq (ρ := _ :: _), ↓wc_nil (ρ := _ :: _), ↓wc_som (ρ := _ :: _), ↓brB_t, ↓brB_f, ↓varP_dat, ↓varP_own, ↓argP_dat, ↓argP_fresh, ↓callP1, ↓callP2, ↓callP3, ↓callP4, ↓callP5, ↓seq_next, ↓seq_ret, ↓seq_brk, ↓seq_cont, ↓asgP_dat, ↓asgP_own, ↓asgP_fr, ↓retP_dat, ↓retP_fresh, ↓done_ret, ↓done_next, ↓onO_some, ↓fz_dat, ↓fz_fresh, ↓add_ii, ↓sub_ii, ↓mul_ii, ↓mod_ii, ↓div_ii, ↓pow_ii, ↓add_tt, ↓add_ll, ↓add_ss, ↓mul_ti, ↓neg_i, ↓lt_ii, ↓le_ii, ↓gt_ii, ↓ge_ii, ↓eq_ii, ↓ne_ii, ↓eq_bb, ↓ne_bb, ↓eq_ss, ↓ne_ss, ↓len_t, ↓len_l, ↓len_s, ↓int_i, ↓list_t, ↓list_l, ↓list_s, ↓tuple_t, ↓tuple_l, ↓max_ii, ↓min_ii, ↓all_l, ↓any_l, ↓cell0, ↓cell1, ↓cell2, ↓rng1, ↓rng2, ↓Lit.d, ↓List.getElem?_cons_zero, ↓List.getElem?_cons_succ, ↓List.set_cons_zero, ↓List.set_cons_succ, ↓List.length_cons, ↓List.length_nil, ↓List.length_set, ↓natAbs10, ↓tapeP_l, ↓after_next, ↓after_cont, ↓after_brk, ↓after_ret, ↓items_t, ↓items_l, ↓rev_l, ↓List.map_cons, ↓List.map_nil, ↓wipeR, ↓restR, ↓Option.getD_some, ↓Option.getD_none, ↓setTgs_nm, ↓compP_eq, Nat.reduceAdd, Nat.reduceLT, Nat.reduceLeDiff, Int.reduceLE, Int.reduceLT, Nat.reducePow, true_and, Int.reduceToNat, Int.reducePow, Int.reduceNeg, List.any_cons, List.any_nil, Bool.or_false]
      refine brB_of (fun h => ?_) (fun h => ⟨_, rfl, (fun z => nomatch z), _, hS0, at_mk⟩)
      refine hd _ _ _ (by decide) (by decide) hS0 fun r S' g0 g1 hS' => ?_
      simp only [↓wi_nil (ρ := _ :: _), ↓wi_cons (ρ := _ :: _), ↓wi_asg (ρ := _ :: _), ↓wi_tape (ρ := _ :: _), ↓wi_asgT (ρ := _ :: _), ↓wi_setI (ρ := _ :: _), ↓wi_mt (ρ := _ :: _), ↓wi_ret (ρ := _ :: _), ↓wi_retN (ρ := _ :: _), ↓wi_iff (ρ := _ :: _), ↓wi_exp (ρ := _ :: _), ↓wi_pass (ρ := _ :: _), ↓wi_brk (ρ := _ :: _), ↓wi_cont (ρ := _ :: _), ↓we_lit (ρ := _ :: _), ↓we_gl (ρ := _ :: _), ↓we_var (ρ := _ :: _), ↓we_tup (ρ := _ :: _), ↓we_lst (ρ := _ :: _), ↓we_op (ρ := _ :: _), ↓we_neg (ρ := _ :: _), ↓we_cmp (ρ := _ :: _), ↓we_chain (ρ := _ :: _), ↓we_and (ρ := _ :: _), ↓we_or (ρ := _ :: _), ↓we_not (ρ := _ :: _), ↓we_ite (ρ := _ :: _), ↓we_idx (ρ := _ :: _), ↓we_slc (ρ := _ :: _), ↓we_rev (ρ := _ :: _), ↓we_call (ρ := _ :: _), ↓we_isi (ρ := _ :: _), ↓we_bi (ρ := _ :: _), ↓we_comp (ρ := _ :: _), ↓wl_nil (ρ := _ :: _), ↓wl_cons (ρ := _ :: _), ↓wpp_nil (ρ := _ :: _), ↓wpp_cons (ρ := _ :: _), ↓wa_nil (ρ := _ :: _), ↓wa_cons (ρ := _ :: _), ↓wo_nil (ρ := _ :: _), ↓wo_som (ρ := _ :: _), ↓ws_rg1 (ρ := _ :: _), ↓ws_rg2 (ρ := _ :: _), ↓ws_sq (ρ := _ :: _), ↓wc_nil (ρ := _ :: _), ↓wc_som (ρ := _ :: _), ↓brB_t, ↓brB_f, ↓varP_dat, ↓varP_own, ↓argP_dat, ↓argP_fresh, ↓callP1, ↓callP2, ↓callP3, ↓callP4, ↓callP5, ↓seq_next, ↓seq_ret, ↓seq_brk, ↓seq_cont, ↓asgP_dat, ↓asgP_own, ↓asgP_fr, ↓retP_dat, ↓retP_fresh, ↓done_ret, ↓done_next, ↓onO_some, ↓fz_dat, ↓fz_fresh, ↓add_ii, ↓sub_ii, ↓mul_ii, ↓mod_ii, ↓div_ii, ↓pow_ii, ↓add_tt, ↓add_ll, ↓add_ss, ↓mul_ti, ↓neg_i, ↓lt_ii, ↓le_ii, ↓gt_ii, ↓ge_ii, ↓eq_ii, ↓ne_ii, ↓eq_bb, ↓ne_bb, ↓eq_ss, ↓ne_ss, ↓len_t, ↓len_l, ↓len_s, ↓int_i, ↓list_t, ↓list_l, ↓list_s, ↓tuple_t, ↓tuple_l, ↓max_ii, ↓min_ii, ↓all_l, ↓any_l, ↓cell0, ↓cell1, ↓cell2, ↓rng1, ↓rng2, ↓Lit.d, ↓List.getElem?_cons_zero, ↓List.getElem?_cons_succ, ↓List.set_cons_zero, ↓List.set_cons_succ, ↓List.length_cons, ↓List.length_nil, ↓List.length_set, ↓natAbs10, ↓tapeP_l, ↓after_next, ↓after_cont, ↓after_brk, ↓after_ret, ↓items_t, ↓items_l, ↓rev_l, ↓List.map_cons, ↓List.map_nil, ↓wipeR, ↓restR, ↓Option.getD_some, ↓Option.getD_none, ↓setTgs_nm, ↓compP_eq, Nat.reduceAdd, Nat.reduceLT, Nat.reduceLeDiff, Int.reduceLE, Int.reduceLT, Nat.reducePow, true_and, Int.reduceToNat, Int.reducePow, Int.reduceNeg]
      exact ⟨_, rfl, fun _ => h, _, hS', at_mk⟩
    · rintro _ _ ⟨h, S1, hS1, rfl, rfl⟩
      obtain ⟨s, rfl⟩ : ∃ s, d = .str s := by
        have h := h rfl
        cases d <;> first | exact ⟨_, rfl⟩ | (simp [isTy] at h)
      have hl : s.length ≤ N ∧ PyData.strOk s = true := by cases k <;> exact hf
      obtain ⟨hl, hok⟩ := hl
      have hz : s.length ≤ sizeLine := by simp only [sizeLine]; omega
      simp only [↓wi_nil (ρ := _ :: _), ↓wi_cons (ρ := _ :: _), ↓wi_asg (ρ := _ :: _), ↓wi_tape (ρ := _ :: _), ↓wi_asgT (ρ := _ :: _), ↓wi_setI (ρ := _ :: _), ↓wi_mt (ρ := _ :: _), ↓wi_ret (ρ := _ :: _), ↓wi_retN (ρ := _ :: _), ↓wi_iff (ρ := _ :: _), ↓wi_exp (ρ := _ :: _), ↓wi_pass (ρ := _ :: _), ↓wi_brk (ρ := _ :: _), ↓wi_cont (ρ := _ :: _), ↓we_lit (ρ := _ :: _), ↓we_gl (ρ := _ :: _), ↓we_var (ρ := _ :: _), ↓we_tup (ρ := _ :: _), ↓we_lst (ρ := _ :: _), ↓we_op (ρ := _ :: _), ↓we_neg (ρ := _ :: _), ↓we_cmp (ρ := _ :: _), ↓we_chain (ρ := _ :: _), ↓we_and (ρ := _ :: _), ↓we_or (ρ := _ :: _), ↓we_not (ρ := _ :: _), ↓we_ite (ρ := _ :: _), ↓we_idx (ρ := _ :: _), ↓we_slc (ρ := _ :: _), ↓we_rev (ρ := _ :: _), ↓we_call (ρ := _ :: _), ↓we_isi (ρ := _ :: _), ↓we_bi (ρ := _ :: _), ↓we_comp (ρ := _ :: _), ↓wl_nil (ρ := _ :: _), ↓wl_cons (ρ := _ :: _), ↓wpp_nil (ρ := _ :: _), ↓wpp_cons (ρ := _ :: _), ↓wa_nil (ρ := _ :: _), ↓wa_cons (ρ := _ :: _), ↓wo_nil (ρ := _ :: _), ↓wo_som (ρ := _ :: _), ↓ws_rg1 (ρ := _ :: _), ↓ws_rg2 (ρ := _ :: _), ↓ws_sq (ρ := _ :: _), ↓wc_nil (ρ := _ :: _), ↓wc_som (ρ := _ :: _), ↓brB_t, ↓brB_f, ↓varP_dat, ↓varP_own, ↓argP_dat, ↓argP_fresh, ↓callP1, ↓callP2, ↓callP3, ↓callP4, ↓callP5, ↓seq_next, ↓seq_ret, ↓seq_brk, ↓seq_cont, ↓asgP_dat, ↓asgP_own, ↓asgP_fr, ↓retP_dat, ↓retP_fresh, ↓done_ret, ↓done_next, ↓onO_some, ↓fz_dat, ↓fz_fresh, ↓add_ii, ↓sub_ii, ↓mul_ii, ↓mod_ii, ↓div_ii, ↓pow_ii, ↓add_tt, ↓add_ll, ↓add_ss, ↓mul_ti, ↓neg_i, ↓lt_ii, ↓le_ii, ↓gt_ii, ↓ge_ii, ↓eq_ii, ↓ne_ii, ↓eq_bb, ↓ne_bb, ↓eq_ss, ↓ne_ss, ↓len_t, ↓len_l, ↓len_s, ↓int_i, ↓list_t, ↓list_l, ↓list_s, ↓tuple_t, ↓tuple_l, ↓max_ii, ↓min_ii, ↓all_l, ↓any_l, ↓cell0, ↓cell1, ↓cell2, ↓rng1, ↓rng2, ↓Lit.d, ↓List.getElem?_cons_zero, ↓List.getElem?_cons_succ, ↓List.set_cons_zero, ↓List.set_cons_succ, ↓List.length_cons, ↓List.length_nil, ↓List.length_set, ↓natAbs10, ↓tapeP_l, ↓after_next, ↓after_cont, ↓after_brk, ↓after_ret, ↓items_t, ↓items_l, ↓rev_l, ↓List.map_cons, ↓List.map_nil, ↓wipeR, ↓restR, ↓Option.getD_some, ↓Option.getD_none, ↓setTgs_nm, ↓compP_eq, Nat.reduceAdd, Nat.reduceLT, Nat.reduceLeDiff, Int.reduceLE, Int.reduceLT, Nat.reducePow, true_and, Int.reduceToNat, Int.reducePow, Int.reduceNeg]
      refine ⟨hz, ?_⟩
      refine hd _ _ _ (by omega) (by omega) hS1 fun r S2 g0 g1 hS2 => ?_
      simp only [↓wi_nil (ρ := _ :: _), ↓wi_cons (ρ := _ :: _), ↓wi_asg (ρ := _ :: _), ↓wi_tape (ρ := _ :: _), ↓wi_asgT (ρ := _ :: _), ↓wi_setI (ρ := _ :: _), ↓wi_mt (ρ := _ :: _), ↓wi_ret (ρ := _ :: _), ↓wi_retN (ρ := _ :: _), ↓wi_iff (ρ := _ :: _), ↓wi_exp (ρ := _ :: _), ↓wi_pass (ρ := _ :: _), ↓wi_brk (ρ := _ :: _), ↓wi_cont (ρ := _ :: _), ↓we_lit (ρ := _ :: _), ↓we_gl (ρ := _ :: _), ↓we_var (ρ := _ :: _), ↓we_tup (ρ := _ :: _), ↓we_lst (ρ := _ :: _), ↓we_op (ρ := _ :: _), ↓we_neg (ρ := _ :: _), ↓we_cmp (ρ := _ :: _), ↓we_chain (ρ := _ :: _), ↓we_and (ρ := _ :: _), ↓we_or (ρ := _ :: _), ↓we_not (ρ := _ :: _), ↓we_ite (ρ := _ :: _), ↓we_idx (ρ := _ :: _), ↓we_slc (ρ := _ :: _), ↓we_rev (ρ := _ :: _), ↓we_call (ρ := _ :: _), ↓we_isi (ρ := _ :: _), ↓we_bi (ρ := _ :: _), ↓we_comp (ρ := _ :: _), ↓wl_nil (ρ := _ :: _), ↓wl_cons (ρ := _ :: _), ↓wpp_nil (ρ := _ :: _), ↓wpp_cons (ρ := _ :: _), ↓wa_nil (ρ := _ :: _), ↓wa_cons (ρ := _ :: _), ↓wo_nil (ρ := _ :: _), ↓wo_som (ρ := _ :: _), ↓ws_rg1 (ρ := _ :: _), ↓ws_rg2 (ρ := _ :: _), ↓ws_sq (ρ := _ :: _), ↓wc_nil (ρ := _ :: _), ↓wc_som (ρ := _ :: _), ↓brB_t, ↓brB_f, ↓varP_dat, ↓varP_own, ↓argP_dat, ↓argP_fresh, ↓callP1, ↓callP2, ↓callP3, ↓callP4, ↓callP5, ↓seq_next, ↓seq_ret, ↓seq_brk, ↓seq_cont, ↓asgP_dat, ↓asgP_own, ↓asgP_fr, ↓retP_dat, ↓retP_fresh, ↓done_ret, ↓done_next, ↓onO_some, ↓fz_dat, ↓fz_fresh, ↓add_ii, ↓sub_ii, ↓mul_ii, ↓mod_ii, ↓div_ii, ↓pow_ii, ↓add_tt, ↓add_ll, ↓add_ss, ↓mul_ti, ↓neg_i, ↓lt_ii, ↓le_ii, ↓gt_ii, ↓ge_ii, ↓eq_ii, ↓ne_ii, ↓eq_bb, ↓ne_bb, ↓eq_ss, ↓ne_ss, ↓len_t, ↓len_l, ↓len_s, ↓int_i, ↓list_t, ↓list_l, ↓list_s, ↓tuple_t, ↓tuple_l, ↓max_ii, ↓min_ii, ↓all_l, ↓any_l, ↓cell0, ↓cell1, ↓cell2, ↓rng1, ↓rng2, ↓Lit.d, ↓List.getElem?_cons_zero, ↓List.getElem?_cons_succ, ↓List.set_cons_zero, ↓List.set_cons_succ, ↓List.length_cons, ↓List.length_nil, ↓List.length_set, ↓natAbs10, ↓tapeP_l, ↓after_next, ↓after_cont, ↓after_brk, ↓after_ret, ↓items_t, ↓items_l, ↓rev_l, ↓List.map_cons, ↓List.map_nil, ↓wipeR, ↓restR, ↓Option.getD_some, ↓Option.getD_none, ↓setTgs_nm, ↓compP_eq, Nat.reduceAdd, Nat.reduceLT, Nat.reduceLeDiff, Int.reduceLE, Int.reduceLT, Nat.reducePow, true_and, Int.reduceToNat, Int.reducePow, Int.reduceNeg]
      have sl : ∀ (lo hi : Option Int) (P : KD → Prop), P (.dat, .str (cutS s lo hi)) → onO (slB (.str s) lo hi) P := fun lo hi P h => by
        unfold slB; dsimp only; rw [if_pos hz]; exact h
      refine sl _ _ _ ?_
      simp only [↓wi_nil (ρ := _ :: _), ↓wi_cons (ρ := _ :: _), ↓wi_asg (ρ := _ :: _), ↓wi_tape (ρ := _ :: _), ↓wi_asgT (ρ := _ :: _), ↓wi_setI (ρ := _ :: _), ↓wi_mt (ρ := _ :: _), ↓wi_ret (ρ := _ :: _), ↓wi_retN (ρ := _ :: _), ↓wi_iff (ρ := _ :: _), ↓wi_exp (ρ := _ :: _), ↓wi_pass (ρ := _ :: _), ↓wi_brk (ρ := _ :: _), ↓wi_cont (ρ := _ :: _), ↓we_lit (ρ := _ :: _), ↓we_gl (ρ := _ :: _), ↓we_var (ρ := _ :: _), ↓we_tup (ρ := _ :: _), ↓we_lst (ρ := _ :: _), ↓we_op (ρ := _ :: _), ↓we_neg (ρ := _ :: _), ↓we_cmp (ρ := _ :: _), ↓we_chain (ρ := _ :: _), ↓we_and (ρ := _ :: _), ↓we_or (ρ := _ :: _), ↓we_not (ρ := _ :: _), ↓we_ite (ρ := _ :: _), ↓we_idx (ρ := _ :: _), ↓we_slc (ρ := _ :: _), ↓we_rev (ρ := _ :: _), ↓we_call (ρ := _ :: _), ↓we_isi (ρ := _ :: _), ↓we_bi (ρ := _ :: _), ↓we_comp (ρ := _ :: _), ↓wl_nil (ρ := _ :: _), ↓wl_cons (ρ := _ :: _), ↓wpp_nil (ρ := _ :: _), ↓wpp_cons (ρ := _ :: _), ↓wa_nil (ρ := _ :: _), ↓wa_cons (ρ := _ :: _), ↓wo_nil (ρ := _ :: _), ↓wo_som (ρ := _ :: _), ↓ws_rg1 (ρ := _ :: _), ↓ws_rg2 (ρ := _ :: _), ↓ws_sq (ρ := _ :: _), ↓wc_nil (ρ := _ :: _), ↓wc_som (ρ := _ :: _), ↓brB_t, ↓brB_f, ↓varP_dat, ↓varP_own, ↓argP_dat, ↓argP_fresh, ↓callP1, ↓callP2, ↓callP3, ↓callP4, ↓callP5, ↓seq_next, ↓seq_ret, ↓seq_brk, ↓seq_cont, ↓asgP_dat, ↓asgP_own, ↓asgP_fr, ↓retP_dat, ↓retP_fresh, ↓done_ret, ↓done_next, ↓onO_some, ↓fz_dat, ↓fz_fresh, ↓add_ii, ↓sub_ii, ↓mul_ii, ↓mod_ii, ↓div_ii, ↓pow_ii, ↓add_tt, ↓add_ll, ↓add_ss, ↓mul_ti, ↓neg_i, ↓lt_ii, ↓le_ii, ↓gt_ii, ↓ge_ii, ↓eq_ii, ↓ne_ii, ↓eq_bb, ↓ne_bb, ↓eq_ss, ↓ne_ss, ↓len_t, ↓len_l, ↓len_s, ↓int_i, ↓list_t, ↓list_l, ↓list_s, ↓tuple_t, ↓tuple_l, ↓max_ii, ↓min_ii, ↓all_l, ↓any_l, ↓cell0, ↓cell1, ↓cell2, ↓rng1, ↓rng2, ↓Lit.d, ↓List.getElem?_cons_zero, ↓List.getElem?_cons_succ, ↓List.set_cons_zero, ↓List.set_cons_succ, ↓List.length_cons, ↓List.length_nil, ↓List.length_set, ↓natAbs10, ↓tapeP_l, ↓after_next, ↓after_cont, ↓after_brk, ↓after_ret, ↓items_t, ↓items_l, ↓rev_l, ↓List.map_cons, ↓List.map_nil, ↓wipeR, ↓restR, ↓Option.getD_some, ↓Option.getD_none, ↓setTgs_nm, ↓compP_eq, Nat.reduceAdd, Nat.reduceLT, Nat.reduceLeDiff, Int.reduceLE, Int.reduceLT, Nat.reducePow, true_and, Int.reduceToNat, Int.reducePow, Int.reduceNeg]
      refine ⟨by decide, ?_⟩
      refine hd _ _ _ (by decide) (by decide) hS2 fun r2 S3 g2 g3 hS3 => ?_
      simp only [↓wi_nil (ρ := _ :: _), ↓wi_cons (ρ := _ :: _), ↓wi_asg (ρ := _ :: _), ↓wi_tape (ρ := _ :: _), ↓wi_asgT (ρ := _ :: _), ↓wi_setI (ρ := _ :: _), ↓wi_mt (ρ := _ :: _), ↓wi_ret (ρ := _ :: _), ↓wi_retN (ρ := _ :: _), ↓wi_iff (ρ := _ :: _), ↓wi_exp (ρ := _ :: _), ↓wi_pass (ρ := _ :: _), ↓wi_brk (ρ := _ :: _), ↓wi_cont (ρ := _ :: _), ↓we_lit (ρ := _ :: _), ↓we_gl (ρ := _ :: _), ↓we_var (ρ := _ :: _), ↓we_tup (ρ := _ :: _), ↓we_lst (ρ := _ :: _), ↓we_op (ρ := _ :: _), ↓we_neg (ρ := _ :: _), ↓we_cmp (ρ := _ :: _), ↓we_chain (ρ := _ :: _), ↓we_and (ρ := _ :: _), ↓we_or (ρ := _ :: _), ↓we_not (ρ := _ :: _), ↓we_ite (ρ := _ :: _), ↓we_idx (ρ := _ :: _), ↓we_slc (ρ := _ :: _), ↓we_rev (ρ := _ :: _), ↓we_call (ρ := _ :: _), ↓we_isi (ρ := _ :: _), ↓we_bi (ρ := _ :: _), ↓we_comp (ρ := _ :: _), ↓wl_nil (ρ := _ :: _), ↓wl_cons (ρ := _ :: _), ↓wpp_nil (ρ := _ :: _), ↓wpp_cons (ρ := _ :: _), ↓wa_nil (ρ := _ :: _), ↓wa_cons (ρ := _ :: _), ↓wo_nil (ρ := _ :: _), ↓wo_som (ρ := _ :: _), ↓ws_rg1 (ρ := _ :: _), ↓ws_rg2 (ρ := _ :: _), ↓ws_sq (ρ := _ :: _), ↓wc_nil (ρ := _ :: _), ↓wc_som (ρ := _ :: _), ↓brB_t, ↓brB_f, ↓varP_dat, ↓varP_own, ↓argP_dat, ↓argP_fresh, ↓callP1, ↓callP2, ↓callP3, ↓callP4, ↓callP5, ↓seq_next, ↓seq_ret, ↓seq_brk, ↓seq_cont, ↓asgP_dat, ↓asgP_own, ↓asgP_fr, ↓retP_dat, ↓retP_fresh, ↓done_ret, ↓done_next, ↓onO_some, ↓fz_dat, ↓fz_fresh, ↓add_ii, ↓sub_ii, ↓mul_ii, ↓mod_ii, ↓div_ii, ↓pow_ii, ↓add_tt, ↓add_ll, ↓add_ss, ↓mul_ti, ↓neg_i, ↓lt_ii, ↓le_ii, ↓gt_ii, ↓ge_ii, ↓eq_ii, ↓ne_ii, ↓eq_bb, ↓ne_bb, ↓eq_ss, ↓ne_ss, ↓len_t, ↓len_l, ↓len_s, ↓int_i, ↓list_t, ↓list_l, ↓list_s, ↓tuple_t, ↓tuple_l, ↓max_ii, ↓min_ii, ↓all_l, ↓any_l, ↓cell0, ↓cell1, ↓cell2, ↓rng1, ↓rng2, ↓Lit.d, ↓List.getElem?_cons_zero, ↓List.getElem?_cons_succ, ↓List.set_cons_zero, ↓List.set_cons_succ, ↓List.length_cons, ↓List.length_nil, ↓List.length_set, ↓natAbs10, ↓tapeP_l, ↓after_next, ↓after_cont, ↓after_brk, ↓after_ret, ↓items_t, ↓items_l, ↓rev_l, ↓List.map_cons, ↓List.map_nil, ↓wipeR, ↓restR, ↓Option.getD_some, ↓Option.getD_none, ↓setTgs_nm, ↓compP_eq, Nat.reduceAdd, Nat.reduceLT, Nat.reduceLeDiff, Int.reduceLE, Int.reduceLT, Nat.reducePow, true_and, Int.reduceToNat, Int.reducePow, Int.reduceNeg]
      obtain ⟨j, a, e1, e2, e3⟩ := getElem?_ix (xs := [D.str " ", D.str "z", D.str "A", D.str "|", D.str "abcdefgh", D.str ""]) g2 (by exact g3)
      refine ix_l e1 e2 ?_
      obtain ⟨t, rfl, ht, htk⟩ : ∃ t : Str, a = .str t ∧ t.length ≤ 8 ∧ PyData.strOk t = true := by
        simp only [List.mem_cons, List.not_mem_nil, or_false] at e3
        rcases e3 with rfl | rfl | rfl | rfl | rfl | rfl <;> exact ⟨_, rfl, by decide, strOk_iff.mpr (by decide)⟩
      have c1 := cutS_length s none (some r)
      have c2 := cutS_length s (some r) none
      simp only [↓wi_nil (ρ := _ :: _), ↓wi_cons (ρ := _ :: _), ↓wi_asg (ρ := _ :: _), ↓wi_tape (ρ := _ :: _), ↓wi_asgT (ρ := _ :: _), ↓wi_setI (ρ := _ :: _), ↓wi_mt (ρ := _ :: _), ↓wi_ret (ρ := _ :: _), ↓wi_retN (ρ := _ :: _), ↓wi_iff (ρ := _ :: _), ↓wi_exp (ρ := _ :: _), ↓wi_pass (ρ := _ :: _), ↓wi_brk (ρ := _ :: _), ↓wi_cont (ρ := _ :: _), ↓we_lit (ρ := _ :: _), ↓we_gl (ρ := _ :: _), ↓we_var (ρ := _ :: _), ↓we_tup (ρ := _ :: _), ↓we_lst (ρ := _ :: _), ↓we_op (ρ := _ :: _), ↓we_neg (ρ := _ :: _), ↓we_cmp (ρ := _ :: _), ↓we_chain (ρ := _ :: _), ↓we_and (ρ := _ :: _), ↓we_or (ρ := _ :: _), ↓we_not (ρ := _ :: _), ↓we_ite (ρ := _ :: _), ↓we_idx (ρ := _ :: _), ↓we_slc (ρ := _ :: _), ↓we_rev (ρ := _ :: _), ↓we_call (ρ := _ :: _), ↓we_isi (ρ := _ :: _), ↓we_bi (ρ := _ :: _), ↓we_comp (ρ := _ :: _), ↓wl_nil (ρ := _ :: _), ↓wl_cons (ρ := _ :: _), ↓wpp_nil (ρ := _ :: _), ↓wpp_cons (ρ := _ :: _), ↓wa_nil (ρ := _ :: _), ↓wa_cons (ρ := _ :: _), ↓wo_nil (ρ := _ :: _), ↓wo_som (ρ := _ :: _), ↓ws_rg1 (ρ := _ :: _), ↓ws_rg2 (ρ := _ :: _), ↓ws_sq (ρ := _ :: _), ↓wc_nil (ρ := _ :: _), ↓wc_som (ρ := _ :: _), ↓brB_t, ↓brB_f, ↓varP_dat, ↓varP_own, ↓argP_dat, ↓argP_fresh, ↓callP1, ↓callP2, ↓callP3, ↓callP4, ↓callP5, ↓seq_next, ↓seq_ret, ↓seq_brk, ↓seq_cont, ↓asgP_dat, ↓asgP_own, ↓asgP_fr, ↓retP_dat, ↓retP_fresh, ↓done_ret, ↓done_next, ↓onO_some, ↓fz_dat, ↓fz_fresh, ↓add_ii, ↓sub_ii, ↓mul_ii, ↓mod_ii, ↓div_ii, ↓pow_ii, ↓add_tt, ↓add_ll, ↓add_ss, ↓mul_ti, ↓neg_i, ↓lt_ii, ↓le_ii, ↓gt_ii, ↓ge_ii, ↓eq_ii, ↓ne_ii, ↓eq_bb, ↓ne_bb, ↓eq_ss, ↓ne_ss, ↓len_t, ↓len_l, ↓len_s, ↓int_i, ↓list_t, ↓list_l, ↓list_s, ↓tuple_t, ↓tuple_l, ↓max_ii, ↓min_ii, ↓all_l, ↓any_l, ↓cell0, ↓cell1, ↓cell2, ↓rng1, ↓rng2, ↓Lit.d, ↓List.getElem?_cons_zero, ↓List.getElem?_cons_succ, ↓List.set_cons_zero, ↓List.set_cons_succ, ↓List.length_cons, ↓List.length_nil, ↓List.length_set, ↓natAbs10, ↓tapeP_l, ↓after_next, ↓after_cont, ↓after_brk, ↓after_ret, ↓items_t, ↓items_l, ↓rev_l, ↓List.map_cons, ↓List.map_nil, ↓wipeR, ↓restR, ↓Option.getD_some, ↓Option.getD_none, ↓setTgs_nm, ↓compP_eq, Nat.reduceAdd, Nat.reduceLT, Nat.reduceLeDiff, Int.reduceLE, Int.reduceLT, Nat.reducePow, true_and, Int.reduceToNat, Int.reducePow, Int.reduceNeg]
      refine ⟨by simp only [sizeLine]; omega, ?_⟩
      refine sl _ _ _ ?_
      simp only [↓wi_nil (ρ := _ :: _), ↓wi_cons (ρ := _ :: _), ↓wi_asg (ρ := _ :: _), ↓wi_tape (ρ := _ :: _), ↓wi_asgT (ρ := _ :: _), ↓wi_setI (ρ := _ :: _), ↓wi_mt (ρ := _ :: _), ↓wi_ret (ρ := _ :: _), ↓wi_retN (ρ := _ :: _), ↓wi_iff (ρ := _ :: _), ↓wi_exp (ρ := _ :: _), ↓wi_pass (ρ := _ :: _), ↓wi_brk (ρ := _ :: _), ↓wi_cont (ρ := _ :: _), ↓we_lit (ρ := _ :: _), ↓we_gl (ρ := _ :: _), ↓we_var (ρ := _ :: _), ↓we_tup (ρ := _ :: _), ↓we_lst (ρ := _ :: _), ↓we_op (ρ := _ :: _), ↓we_neg (ρ := _ :: _), ↓we_cmp (ρ := _ :: _), ↓we_chain (ρ := _ :: _), ↓we_and (ρ := _ :: _), ↓we_or (ρ := _ :: _), ↓we_not (ρ := _ :: _), ↓we_ite (ρ := _ :: _), ↓we_idx (ρ := _ :: _), ↓we_slc (ρ := _ :: _), ↓we_rev (ρ := _ :: _), ↓we_call (ρ := _ :: _), ↓we_isi (ρ := _ :: _), ↓we_bi (ρ := _ :: _), ↓we_comp (ρ := _ :: _), ↓wl_nil (ρ := _ :: _), ↓wl_cons (ρ := _ :: _), ↓wpp_nil (ρ := _ :: _), ↓wpp_cons (ρ := _ :: _), ↓wa_nil (ρ := _ :: _), ↓wa_cons (ρ := _ :: _), ↓wo_nil (ρ := _ :: _), ↓wo_som (ρ := _ :: _), ↓ws_rg1 (ρ := _ :: _), ↓ws_rg2 (ρ := _ :: _), ↓ws_sq (ρ := _ :: _), ↓wc_nil (ρ := _ :: _), ↓wc_som (ρ := _ :: _), ↓brB_t, ↓brB_f, ↓varP_dat, ↓varP_own, ↓argP_dat, ↓argP_fresh, ↓callP1, ↓callP2, ↓callP3, ↓callP4, ↓callP5, ↓seq_next, ↓seq_ret, ↓seq_brk, ↓seq_cont, ↓asgP_dat, ↓asgP_own, ↓asgP_fr, ↓retP_dat, ↓retP_fresh, ↓done_ret, ↓done_next, ↓onO_some, ↓fz_dat, ↓fz_fresh, ↓add_ii, ↓sub_ii, ↓mul_ii, ↓mod_ii, ↓div_ii, ↓pow_ii, ↓add_tt, ↓add_ll, ↓add_ss, ↓mul_ti, ↓neg_i, ↓lt_ii, ↓le_ii, ↓gt_ii, ↓ge_ii, ↓eq_ii, ↓ne_ii, ↓eq_bb, ↓ne_bb, ↓eq_ss, ↓ne_ss, ↓len_t, ↓len_l, ↓len_s, ↓int_i, ↓list_t, ↓list_l, ↓list_s, ↓tuple_t, ↓tuple_l, ↓max_ii, ↓min_ii, ↓all_l, ↓any_l, ↓cell0, ↓cell1, ↓cell2, ↓rng1, ↓rng2, ↓Lit.d, ↓List.getElem?_cons_zero, ↓List.getElem?_cons_succ, ↓List.set_cons_zero, ↓List.set_cons_succ, ↓List.length_cons, ↓List.length_nil, ↓List.length_set, ↓natAbs10, ↓tapeP_l, ↓after_next, ↓after_cont, ↓after_brk, ↓after_ret, ↓items_t, ↓items_l, ↓rev_l, ↓List.map_cons, ↓List.map_nil, ↓wipeR, ↓restR, ↓Option.getD_some, ↓Option.getD_none, ↓setTgs_nm, ↓compP_eq, Nat.reduceAdd, Nat.reduceLT, Nat.reduceLeDiff, Int.reduceLE, Int.reduceLT, Nat.reducePow, true_and, Int.reduceToNat, Int.reducePow, Int.reduceNeg]
      refine ⟨by rw [Str.length_append]; simp only [sizeLine]; omega, ?_⟩
      refine hP _ _ _ (.inl rfl) (Fit.str ⟨?_, strOk_app (strOk_app (strOk_cut hok) htk) (strOk_cut hok)⟩) hS3
      have c3 : (cutS s none (some r) ++ t ++ cutS s (some r) none).length ≤ s.length + 8 := by
        rw [Str.length_append, Str.length_append]
        have := cutS_two s g0 (by omega)
        omega
      omega
    · rintro _ _ ⟨_, S1, hS1, rfl, rfl⟩
      simp only [↓wi_nil (ρ := _ :: _), ↓wi_cons (ρ := _ :: _), ↓wi_asg (ρ := _ :: _), ↓wi_tape (ρ := _ :: _), ↓wi_asgT (ρ := _ :: _), ↓wi_setI (ρ := _ :: _), ↓wi_mt (ρ := _ :: _), ↓wi_ret (ρ := _ :: _), ↓wi_retN (ρ := _ :: _), ↓wi_iff (ρ := _ :: _), ↓wi_exp (ρ := _ :: _), ↓wi_pass (ρ := _ :: _), ↓wi_brk (ρ := _ :: _), ↓wi_cont (ρ := _ :: _), ↓we_lit (ρ := _ :: _), ↓we_gl (ρ := _ :: _), ↓we_var (ρ := _ :: _), ↓we_tup (ρ := _ :: _), ↓we_lst (ρ := _ :: _), ↓we_op (ρ := _ :: _), ↓we_neg (ρ := _ :: _), ↓we_cmp (ρ := _ :: _), ↓we_chain (ρ := _ :: _), ↓we_and (ρ := _ :: _), ↓we_or (ρ := _ :: _), ↓we_not (ρ := _ :: _), ↓we_ite (ρ := _ :: _), ↓we_idx (ρ := _ :: _), ↓we_slc (ρ := _ :: _), ↓we_rev (ρ := _ :: _), ↓we_call (ρ := _ :: _), ↓we_isi (ρ := _ :: _), ↓we_bi (ρ := _ :: _), ↓we_comp (ρ := _ :: _), ↓wl_nil (ρ := _ :: _), ↓wl_cons (ρ := _ :: _), ↓wpp_nil (ρ := _ :: _), ↓wpp_cons (ρ := _ :: _), ↓wa_nil (ρ := _ :: _), ↓wa_cons (ρ := _ :: _), ↓wo_nil (ρ := _ :: _), ↓wo_som (ρ := _ :: _), ↓ws_rg1 (ρ := _ :: _), ↓ws_rg2 (ρ := _ :: _), ↓ws_sq (ρ := _ :: _), ↓wc_nil (ρ := _ :: _), ↓wc_som (ρ := _ :: _), ↓brB_t, ↓brB_f, ↓varP_dat, ↓varP_own, ↓argP_dat, ↓argP_fresh, ↓callP1, ↓callP2, ↓callP3, ↓callP4, ↓callP5, ↓seq_next, ↓seq_ret, ↓seq_brk, ↓seq_cont, ↓asgP_dat, ↓asgP_own, ↓asgP_fr, ↓retP_dat, ↓retP_fresh, ↓done_ret, ↓done_next, ↓onO_some, ↓fz_dat, ↓fz_fresh, ↓add_ii, ↓sub_ii, ↓mul_ii, ↓mod_ii, ↓div_ii, ↓pow_ii, ↓add_tt, ↓add_ll, ↓add_ss, ↓mul_ti, ↓neg_i, ↓lt_ii, ↓le_ii, ↓gt_ii, ↓ge_ii, ↓eq_ii, ↓ne_ii, ↓eq_bb, ↓ne_bb, ↓eq_ss, ↓ne_ss, ↓len_t, ↓len_l, ↓len_s, ↓int_i, ↓list_t, ↓list_l, ↓list_s, ↓tuple_t, ↓tuple_l, ↓max_ii, ↓min_ii, ↓all_l, ↓any_l, ↓cell0, ↓cell1, ↓cell2, ↓rng1, ↓rng2, ↓Lit.d, ↓List.getElem?_cons_zero, ↓List.getElem?_cons_succ, ↓List.set_cons_zero, ↓List.set_cons_succ, ↓List.length_cons, ↓List.length_nil, ↓List.length_set, ↓natAbs10, ↓tapeP_l, ↓after_next, ↓after_cont, ↓after_brk, ↓after_ret, ↓items_t, ↓items_l, ↓rev_l, ↓List.map_cons, ↓List.map_nil, ↓wipeR, ↓restR, ↓Option.getD_some, ↓Option.getD_none, ↓setTgs_nm, ↓compP_eq, Nat.reduceAdd, Nat.reduceLT, Nat.reduceLeDiff, Int.reduceLE, Int.reduceLT, Nat.reducePow, true_and, Int.reduceToNat, Int.reducePow, Int.reduceNeg]
      exact ⟨_, hS1, at_mk⟩
  rintro _ _ ⟨S1, hS1, rfl, rfl⟩
  refine wi_cut (fun ρ S => ∃ S0, TS S0 ∧ At [some (.dat (.cell 0)), some (.dat d), none, none, none, none] S0 ρ S) ?_ ?_
  · refine wi_if (fun t ρ S => (t = true → ∃ ds, d = .tup ds ∨ d = .lst ds) ∧ ∃ S0, TS S0 ∧ At [some (.dat (.cell 0)), some (.dat d), none, none, none, none] S0 ρ S) ?_ ?_ ?_
    · simp only [↓wi_nil (ρ := _ :: _), ↓wi_cons (ρ := _ :: _), ↓wi_asg (ρ := _ :: _), ↓wi_tape (ρ := _ :: _), ↓wi_asgT (ρ := _ :: _), ↓wi_setI (ρ := _ :: _), ↓wi_mt (ρ := _ :: _), ↓wi_ret (ρ := _ :: _), ↓wi_retN (ρ := _ :: _), ↓wi_iff (ρ := _ :: _), ↓wi_exp (ρ := _ :: _), ↓wi_pass (ρ := _ :: _), ↓wi_brk (ρ := _ :: _), ↓wi_cont (ρ := _ :: _), ↓we_lit (ρ := _ :: _), ↓we_gl (ρ := _ :: _), ↓we_var (ρ := _ :: _), ↓we_tup (ρ := _ :: _), ↓we_lst (ρ := _ :: _), ↓we_op (ρ := _ :: _), ↓we_neg (ρ := _ :: _), ↓we_cmp (ρ := _ :: _), ↓we_chain (ρ := _ :: _), ↓we_and (ρ := _ :: _), ↓we_or (ρ := _ :: _), ↓we_not (ρ := _ :: _), ↓we_ite (ρ := _ :: _), ↓we_idx (ρ := _ :: _), ↓we_slc (ρ := _ :: _), ↓we_rev (ρ := _ :: _), ↓we_call (ρ := _ :: _), ↓we_isi (ρ := _ :: _), ↓we_bi (ρ := _ :: _), ↓we_comp (ρ := _ :: _), ↓wl_nil (ρ := _ :: _), ↓wl_cons (ρ := _ :: _), ↓wpp_nil (ρ := _ :: _), ↓wpp_cons (ρ := _ :: _), ↓wa_nil (ρ := _ :: _), ↓wa_cons (ρ := _ :: _), ↓wo_nil (ρ := _ :: _), ↓wo_som (ρ := _ :: _), ↓ws_rg1 (ρ := _ :: _), ↓ws_rg2 (ρ := _ :: _), ↓ws_sq (ρ := _ :: _), ↓wc_nil (ρ := _ :: _), ↓wc_som (ρ := _ :: _), ↓brB_t, ↓brB_f, ↓varP_dat, ↓varP_own, ↓argP_dat, ↓argP_fresh, ↓callP1, ↓callP2, ↓callP3, ↓callP4, ↓callP5, ↓seq_next, ↓seq_ret, ↓seq_brk, ↓seq_cont, ↓asgP_dat, ↓asgP_own, ↓asgP_fr, ↓retP_dat, ↓retP_fresh, ↓done_ret, ↓done_next, ↓onO_some, ↓fz_dat, ↓fz_fresh, ↓add_ii, ↓sub_ii, ↓mul_ii, ↓mod_ii, ↓div_ii, ↓pow_ii, ↓add_tt, ↓add_ll, ↓add_ss, ↓mul_ti, ↓neg_i, ↓lt_ii, ↓le_ii, ↓gt_ii, ↓ge_ii, ↓eq_ii, ↓ne_ii, ↓eq_bb, ↓ne_bb, ↓eq_ss, ↓ne_ss, ↓len_t, ↓len_l, ↓len_s, ↓int_i, ↓list_t, ↓list_l, ↓list_s, ↓tuple_t, ↓tuple_l, ↓max_ii, ↓min_ii, ↓all_l, ↓any_l, ↓cell0, ↓cell1, ↓cell2, ↓rng1, ↓rng2, ↓Lit.d, ↓List.getElem?_cons_zero, ↓List.getElem?_cons_succ, ↓List.set_cons_zero, ↓List.set_cons_succ, ↓List.length_cons, ↓List.length_nil, ↓List.length_set, ↓natAbs10, ↓tapeP_l, ↓after_next, ↓after_cont, ↓after_brk, ↓after_ret, ↓items_t, ↓items_l, ↓rev_l, ↓List.map_cons, ↓List.map_nil, ↓wipeR, ↓restR, ↓Option.getD_some, ↓Option.getD_none, ↓setTgs_nm, ↓compP_eq, Nat.reduceAdd, Nat.reduceLT, Nat.reduceLeDiff, Int.reduceLE, Int.reduceLT, Nat.reducePow, true_and, Int.reduceToNat, Int.reducePow, Int.reduceNeg, List.any_cons, List.any_nil]
      refine brB_of (fun h => ?_) (fun h => ⟨_, rfl, (fun z => nomatch z), _, hS1, at_mk⟩)
      refine hd _ _ _ (by decide) (by decide) hS1 fun r S' g0 g1 hS' => ?_
      simp only [↓wi_nil (ρ := _ :: _), ↓wi_cons (ρ := _ :: _), ↓wi_asg (ρ := _ :: _), ↓wi_tape (ρ := _ :: _), ↓wi_asgT (ρ := _ :: _), ↓wi_setI (ρ := _ :: _), ↓wi_mt (ρ := _ :: _), ↓wi_ret (ρ := _ :: _), ↓wi_retN (ρ := _ :: _), ↓wi_iff (ρ := _ :: _), ↓wi_exp (ρ := _ :: _), ↓wi_pass (ρ := _ :: _), ↓wi_brk (ρ := _ :: _), ↓wi_cont (ρ := _ :: _), ↓we_lit (ρ := _ :: _), ↓we_gl (ρ := _ :: _), ↓we_var (ρ := _ :: _), ↓we_tup (ρ := _ :: _), ↓we_lst (ρ := _ :: _), ↓we_op (ρ := _ :: _), ↓we_neg (ρ := _ :: _), ↓we_cmp (ρ := _ :: _), ↓we_chain (ρ := _ :: _), ↓we_and (ρ := _ :: _), ↓we_or (ρ := _ :: _), ↓we_not (ρ := _ :: _), ↓we_ite (ρ := _ :: _), ↓we_idx (ρ := _ :: _), ↓we_slc (ρ := _ :: _), ↓we_rev (ρ := _ :: _), ↓we_call (ρ := _ :: _), ↓we_isi (ρ := _ :: _), ↓we_bi (ρ := _ :: _), ↓we_comp (ρ := _ :: _), ↓wl_nil (ρ := _ :: _), ↓wl_cons (ρ := _ :: _), ↓wpp_nil (ρ := _ :: _), ↓wpp_cons (ρ := _ :: _), ↓wa_nil (ρ := _ :: _), ↓wa_cons (ρ := _ :: _), ↓wo_nil (ρ := _ :: _), ↓wo_som (ρ := _ :: _), ↓ws_rg1 (ρ := _ :: _), ↓ws_rg2 (ρ := _ :: _), ↓ws_sq (ρ := _ :: _), ↓wc_nil (ρ := _ :: _), ↓wc_som (ρ := _ :: _), ↓brB_t, ↓brB_f, ↓varP_dat, ↓varP_own, ↓argP_dat, ↓argP_fresh, ↓callP1, ↓callP2, ↓callP3, ↓callP4, ↓callP5, ↓seq_next, ↓seq_ret, ↓seq_brk, ↓seq_cont, ↓asgP_dat, ↓asgP_own, ↓asgP_fr, ↓retP_dat, ↓retP_fresh, ↓done_ret, ↓done_next, ↓onO_some, ↓fz_dat, ↓fz_fresh, ↓add_ii, ↓sub_ii, ↓mul_ii, ↓mod_ii, ↓div_ii, ↓pow_ii, ↓add_tt, ↓add_ll, ↓add_ss, ↓mul_ti, ↓neg_i, ↓lt_ii, ↓le_ii, ↓gt_ii, ↓ge_ii, ↓eq_ii, ↓ne_ii, ↓eq_bb, ↓ne_bb, ↓eq_ss, ↓ne_ss, ↓len_t, ↓len_l, ↓len_s, ↓int_i, ↓list_t, ↓list_l, ↓list_s, ↓tuple_t, ↓tuple_l, ↓max_ii, ↓min_ii, ↓all_l, ↓any_l, ↓cell0, ↓cell1, ↓cell2, ↓rng1, ↓rng2, ↓Lit.d, ↓List.getElem?_cons_zero, ↓List.getElem?_cons_succ, ↓List.set_cons_zero, ↓List.set_cons_succ, ↓List.length_cons, ↓List.length_nil, ↓List.length_set, ↓natAbs10, ↓tapeP_l, ↓after_next, ↓after_cont, ↓after_brk, ↓after_ret, ↓items_t, ↓items_l, ↓rev_l, ↓List.map_cons, ↓List.map_nil, ↓wipeR, ↓restR, ↓Option.getD_some, ↓Option.getD_none, ↓setTgs_nm, ↓compP_eq, Nat.reduceAdd, Nat.reduceLT, Nat.reduceLeDiff, Int.reduceLE, Int.reduceLT, Nat.reducePow, true_and, Int.reduceToNat, Int.reducePow, Int.reduceNeg]
      refine ⟨_, rfl, fun _ => ?_, _, hS', at_mk⟩
      cases d <;> first | exact ⟨_, .inl rfl⟩ | exact ⟨_, .inr rfl⟩ | (simp [isTy] at h; done) | (cases k <;> exact hf.elim)
    · rintro _ _ ⟨h, S2, hS2, rfl, rfl⟩
      obtain ⟨ds, rfl | rfl⟩ := h rfl
      · simp only [↓wi_nil (ρ := _ :: _), ↓wi_cons (ρ := _ :: _), ↓wi_asg (ρ := _ :: _), ↓wi_tape (ρ := _ :: _), ↓wi_asgT (ρ := _ :: _), ↓wi_setI (ρ := _ :: _), ↓wi_mt (ρ := _ :: _), ↓wi_ret (ρ := _ :: _), ↓wi_retN (ρ := _ :: _), ↓wi_iff (ρ := _ :: _), ↓wi_exp (ρ := _ :: _), ↓wi_pass (ρ := _ :: _), ↓wi_brk (ρ := _ :: _), ↓wi_cont (ρ := _ :: _), ↓we_lit (ρ := _ :: _), ↓we_gl (ρ := _ :: _), ↓we_var (ρ := _ :: _), ↓we_tup (ρ := _ :: _), ↓we_lst (ρ := _ :: _), ↓we_op (ρ := _ :: _), ↓we_neg (ρ := _ :: _), ↓we_cmp (ρ := _ :: _), ↓we_chain (ρ := _ :: _), ↓we_and (ρ := _ :: _), ↓we_or (ρ := _ :: _), ↓we_not (ρ := _ :: _), ↓we_ite (ρ := _ :: _), ↓we_idx (ρ := _ :: _), ↓we_slc (ρ := _ :: _), ↓we_rev (ρ := _ :: _), ↓we_call (ρ := _ :: _), ↓we_isi (ρ := _ :: _), ↓we_bi (ρ := _ :: _), ↓we_comp (ρ := _ :: _), ↓wl_nil (ρ := _ :: _), ↓wl_cons (ρ := _ :: _), ↓wpp_nil (ρ := _ :: _), ↓wpp_cons (ρ := _ :: _), ↓wa_nil (ρ := _ :: _), ↓wa_cons (ρ := _ :: _), ↓wo_nil (ρ := _ :: _), ↓wo_som (ρ := _ :: _), ↓ws_rg1 (ρ := _ :: _), ↓ws_rg2 (ρ := _ :: _), ↓ws_sq (ρ := _ :: _), ↓wc_nil (ρ := _ :: _), ↓wc_som (ρ := _ :: _), ↓brB_t, ↓brB_f, ↓varP_dat, ↓varP_own, ↓argP_dat, ↓argP_fresh, ↓callP1, ↓callP2, ↓callP3, ↓callP4, ↓callP5, ↓seq_next, ↓seq_ret, ↓seq_brk, ↓seq_cont, ↓asgP_dat, ↓asgP_own, ↓asgP_fr, ↓retP_dat, ↓retP_fresh, ↓done_ret, ↓done_next, ↓onO_some, ↓fz_dat, ↓fz_fresh, ↓add_ii, ↓sub_ii, ↓mul_ii, ↓mod_ii, ↓div_ii, ↓pow_ii, ↓add_tt, ↓add_ll, ↓add_ss, ↓mul_ti, ↓neg_i, ↓lt_ii, ↓le_ii, ↓gt_ii, ↓ge_ii, ↓eq_ii, ↓ne_ii, ↓eq_bb, ↓ne_bb, ↓eq_ss, ↓ne_ss, ↓len_t, ↓len_l, ↓len_s, ↓int_i, ↓list_t, ↓list_l, ↓list_s, ↓tuple_t, ↓tuple_l, ↓max_ii, ↓min_ii, ↓all_l, ↓any_l, ↓cell0, ↓cell1, ↓cell2, ↓rng1, ↓rng2, ↓Lit.d, ↓List.getElem?_cons_zero, ↓List.getElem?_cons_succ, ↓List.set_cons_zero, ↓List.set_cons_succ, ↓List.length_cons, ↓List.length_nil, ↓List.length_set, ↓natAbs10, ↓tapeP_l, ↓after_next, ↓after_cont, ↓after_brk, ↓after_ret, ↓items_t, ↓items_l, ↓rev_l, ↓List.map_cons, ↓List.map_nil, ↓wipeR, ↓restR, ↓Option.getD_some, ↓Option.getD_none, ↓setTgs_nm, ↓compP_eq, Nat.reduceAdd, Nat.reduceLT, Nat.reduceLeDiff, Int.reduceLE, Int.reduceLT, Nat.reducePow, true_and, Int.reduceToNat, Int.reducePow, Int.reduceNeg, List.any_cons, List.any_nil, isTy, Bool.or_false]
        exact hP _ _ _ (.inr rfl) (by cases k with
          | zero => exact hf.elim
          | succ k => exact Fit.mono (N := N) (k := k + 1) (by omega) (by omega) (show Fit N (k + 1) (.lst ds) from hf)) hS2
      · simp only [↓wi_nil (ρ := _ :: _), ↓wi_cons (ρ := _ :: _), ↓wi_asg (ρ := _ :: _), ↓wi_tape (ρ := _ :: _), ↓wi_asgT (ρ := _ :: _), ↓wi_setI (ρ := _ :: _), ↓wi_mt (ρ := _ :: _), ↓wi_ret (ρ := _ :: _), ↓wi_retN (ρ := _ :: _), ↓wi_iff (ρ := _ :: _), ↓wi_exp (ρ := _ :: _), ↓wi_pass (ρ := _ :: _), ↓wi_brk (ρ := _ :: _), ↓wi_cont (ρ := _ :: _), ↓we_lit (ρ := _ :: _), ↓we_gl (ρ := _ :: _), ↓we_var (ρ := _ :: _), ↓we_tup (ρ := _ :: _), ↓we_lst (ρ := _ :: _), ↓we_op (ρ := _ :: _), ↓we_neg (ρ := _ :: _), ↓we_cmp (ρ := _ :: _), ↓we_chain (ρ := _ :: _), ↓we_and (ρ := _ :: _), ↓we_or (ρ := _ :: _), ↓we_not (ρ := _ :: _), ↓we_ite (ρ := _ :: _), ↓we_idx (ρ := _ :: _), ↓we_slc (ρ := _ :: _), ↓we_rev (ρ := _ :: _), ↓we_call (ρ := _ :: _), ↓we_isi (ρ := _ :: _), ↓we_bi (ρ := _ :: _), ↓we_comp (ρ := _ :: _), ↓wl_nil (ρ := _ :: _), ↓wl_cons (ρ := _ :: _), ↓wpp_nil (ρ := _ :: _), ↓wpp_cons (ρ := _ :: _), ↓wa_nil (ρ := _ :: _), ↓wa_cons (ρ := _ :: _), ↓wo_nil (ρ := _ :: _), ↓wo_som (ρ := _ :: _), ↓ws_rg1 (ρ := _ :: _), ↓ws_rg2 (ρ := _ :: _), ↓ws_sq (ρ := _ :: _), ↓wc_nil (ρ := _ :: _), ↓wc_som (ρ := _ :: _), ↓brB_t, ↓brB_f, ↓varP_dat, ↓varP_own, ↓argP_dat, ↓argP_fresh, ↓callP1, ↓callP2, ↓callP3, ↓callP4, ↓callP5, ↓seq_next, ↓seq_ret, ↓seq_brk, ↓seq_cont, ↓asgP_dat, ↓asgP_own, ↓asgP_fr, ↓retP_dat, ↓retP_fresh, ↓done_ret, ↓done_next, ↓onO_some, ↓fz_dat, ↓fz_fresh, ↓add_ii, ↓sub_ii, ↓mul_ii, ↓mod_ii, ↓div_ii, ↓pow_ii, ↓add_tt, ↓add_ll, ↓add_ss, ↓mul_ti, ↓neg_i, ↓lt_ii, ↓le_ii, ↓gt_ii, ↓ge_ii, ↓eq_ii, ↓ne_ii, ↓eq_bb, ↓ne_bb, ↓eq_ss, ↓ne_ss, ↓len_t, ↓len_l, ↓len_s, ↓int_i, ↓list_t, ↓list_l, ↓list_s, ↓tuple_t, ↓tuple_l, ↓max_ii, ↓min_ii, ↓all_l, ↓any_l, ↓cell0, ↓cell1, ↓cell2, ↓rng1, ↓rng2, ↓Lit.d, ↓List.getElem?_cons_zero, ↓List.getElem?_cons_succ, ↓List.set_cons_zero, ↓List.set_cons_succ, ↓List.length_cons, ↓List.length_nil, ↓List.length_set, ↓natAbs10, ↓tapeP_l, ↓after_next, ↓after_cont, ↓after_brk, ↓after_ret, ↓items_t, ↓items_l, ↓rev_l, ↓List.map_cons, ↓List.map_nil, ↓wipeR, ↓restR, ↓Option.getD_some, ↓Option.getD_none, ↓setTgs_nm, ↓compP_eq, Nat.reduceAdd, Nat.reduceLT, Nat.reduceLeDiff, Int.reduceLE, Int.reduceLT, Nat.reducePow, true_and, Int.reduceToNat, Int.reducePow, Int.reduceNeg, List.any_cons, List.any_nil, isTy, Bool.or_false]
        exact hP _ _ _ (.inl rfl) (by cases k with
          | zero => exact hf.elim
          | succ k => exact Fit.mono (N := N) (k := k + 1) (by omega) (by omega) (show Fit N (k + 1) (.tup ds) from hf)) hS2
    · rintro _ _ ⟨_, S2, hS2, rfl, rfl⟩
      simp only [↓wi_nil (ρ := _ :: _), ↓wi_cons (ρ := _ :: _), ↓wi_asg (ρ := _ :: _), ↓wi_tape (ρ := _ :: _), ↓wi_asgT (ρ := _ :: _), ↓wi_setI (ρ := _ :: _), ↓wi_mt (ρ := _ :: _), ↓wi_ret (ρ := _ :: _), ↓wi_retN (ρ := _ :: _), ↓wi_iff (ρ := _ :: _), ↓wi_exp (ρ := _ :: _), ↓wi_pass (ρ := _ :: _), ↓wi_brk (ρ := _ :: _), ↓wi_cont (ρ := _ :: _), ↓we_lit (ρ := _ :: _), ↓we_gl (ρ := _ :: _), ↓we_var (ρ := _ :: _), ↓we_tup (ρ := _ :: _), ↓we_lst (ρ := _ :: _), ↓we_op (ρ := _ :: _), ↓we_neg (ρ := _ :: _), ↓we_cmp (ρ := _ :: _), ↓we_chain (ρ := _ :: _), ↓we_and (ρ := _ :: _), ↓we_or (ρ := _ :: _), ↓we_not (ρ := _ :: _), ↓we_ite (ρ := _ :: _), ↓we_idx (ρ := _ :: _), ↓we_slc (ρ := _ :: _), ↓we_rev (ρ := _ :: _), ↓we_call (ρ := _ :: _), ↓we_isi (ρ := _ :: _), ↓we_bi (ρ := _ :: _), ↓we_comp (ρ := _ :: _), ↓wl_nil (ρ := _ :: _), ↓wl_cons (ρ := _ :: _), ↓wpp_nil (ρ := _ :: _), ↓wpp_cons (ρ := _ :: _), ↓wa_nil (ρ := _ :: _), ↓wa_cons (ρ := _ :: _), ↓wo_nil (ρ := _ :: _), ↓wo_som (ρ := _ :: _), ↓ws_rg1 (ρ := _ :: _), ↓ws_rg2 (ρ := _ :: _), ↓ws_sq (ρ := _ :: _), ↓wc_nil (ρ := _ :: _), ↓wc_som (ρ := _ :: _), ↓brB_t, ↓brB_f, ↓varP_dat, ↓varP_own, ↓argP_dat, ↓argP_fresh, ↓callP1, ↓callP2, ↓callP3, ↓callP4, ↓callP5, ↓seq_next, ↓seq_ret, ↓seq_brk, ↓seq_cont, ↓asgP_dat, ↓asgP_own, ↓asgP_fr, ↓retP_dat, ↓retP_fresh, ↓done_ret, ↓done_next, ↓onO_some, ↓fz_dat, ↓fz_fresh, ↓add_ii, ↓sub_ii, ↓mul_ii, ↓mod_ii, ↓div_ii, ↓pow_ii, ↓add_tt, ↓add_ll, ↓add_ss, ↓mul_ti, ↓neg_i, ↓lt_ii, ↓le_ii, ↓gt_ii, ↓ge_ii, ↓eq_ii, ↓ne_ii, ↓eq_bb, ↓ne_bb, ↓eq_ss, ↓ne_ss, ↓len_t, ↓len_l, ↓len_s, ↓int_i, ↓list_t, ↓list_l, ↓list_s, ↓tuple_t, ↓tuple_l, ↓max_ii, ↓min_ii, ↓all_l, ↓any_l, ↓cell0, ↓cell1, ↓cell2, ↓rng1, ↓rng2, ↓Lit.d, ↓List.getElem?_cons_zero, ↓List.getElem?_cons_succ, ↓List.set_cons_zero, ↓List.set_cons_succ, ↓List.length_cons, ↓List.length_nil, ↓List.length_set, ↓natAbs10, ↓tapeP_l, ↓after_next, ↓after_cont, ↓after_brk, ↓after_ret, ↓items_t, ↓items_l, ↓rev_l, ↓List.map_cons, ↓List.map_nil, ↓wipeR, ↓restR, ↓Option.getD_some, ↓Option.getD_none, ↓setTgs_nm, ↓compP_eq, Nat.reduceAdd, Nat.reduceLT, Nat.reduceLeDiff, Int.reduceLE, Int.reduceLT, Nat.reducePow, true_and, Int.reduceToNat, Int.reducePow, Int.reduceNeg]
      exact ⟨_, hS2, at_mk⟩
  rintro _ _ ⟨S2, hS2, rfl, rfl⟩
  simp only [↓wi_nil (ρ := _ :: _), ↓wi_cons (ρ := _ :: _), ↓wi_asg (ρ := _ :: _), ↓wi_tape (ρ := _ :: _), ↓wi_asgT (ρ := _ :: _), ↓wi_setI (ρ := _ :: _), ↓wi_mt (ρ := _ :: _), ↓wi_ret (ρ := _ :: _), ↓wi_retN (ρ := _ :: _), ↓wi_iff (ρ := _ :: _), ↓wi_exp (ρ := _ :: _), ↓wi_pass (ρ := _ :: _), ↓wi_brk (ρ := _ :: _), ↓wi_cont (ρ := _ :: _), ↓we_lit (ρ := _ :: _), ↓we_gl (ρ := _ :: _), ↓we_var (ρ := _ :: _), ↓we_tup (ρ := _ :: _), ↓we_lst (ρ := _ :: _), ↓we_op (ρ := _ :: _), ↓we_neg (ρ := _ :: _), ↓we_cmp (ρ := _ :: _), ↓we_chain (ρ := _ :: _), ↓we_and (ρ := _ :: _), ↓we_or (ρ := _ :: _), ↓we_not (ρ := _ :: _), ↓we_ite (ρ := _ :: _), ↓we_idx (ρ := _ :: _), ↓we_slc (ρ := _ :: _), ↓we_rev (ρ := _ :: _), ↓we_call (ρ := _ :: _), ↓we_isi (ρ := _ :: _), ↓we_bi (ρ := _ :: _), ↓we_comp (ρ := _ :: _), ↓wl_nil (ρ := _ :: _), ↓wl_cons (ρ := _ :: _), ↓wpp_nil (ρ := _ :: _), ↓wpp_cons (ρ := _ :: _), ↓wa_nil (ρ := _ :: _), ↓wa_cons (ρ := _ :: _), ↓wo_nil (ρ := _ :: _), ↓wo_som (ρ := _ :: _), ↓ws_rg1 (ρ := _ :: _), ↓ws_rg2 (ρ := _ :: _), ↓ws_sq (ρ := _ :: _), ↓wc_nil (ρ := _ :: _), ↓wc_som (ρ := _ :: _), ↓brB_t, ↓brB_f, ↓varP_dat, ↓varP_own, ↓argP_dat, ↓argP_fresh, ↓callP1, ↓callP2, ↓callP3, ↓callP4, ↓callP5, ↓seq_next, ↓seq_ret, ↓seq_brk, ↓seq_cont, ↓asgP_dat, ↓asgP_own, ↓asgP_fr, ↓retP_dat, ↓retP_fresh, ↓done_ret, ↓done_next, ↓onO_some, ↓fz_dat, ↓fz_fresh, ↓add_ii, ↓sub_ii, ↓mul_ii, ↓mod_ii, ↓div_ii, ↓pow_ii, ↓add_tt, ↓add_ll, ↓add_ss, ↓mul_ti, ↓neg_i, ↓lt_ii, ↓le_ii, ↓gt_ii, ↓ge_ii, ↓eq_ii, ↓ne_ii, ↓eq_bb, ↓ne_bb, ↓eq_ss, ↓ne_ss, ↓len_t, ↓len_l, ↓len_s, ↓int_i, ↓list_t, ↓list_l, ↓list_s, ↓tuple_t, ↓tuple_l, ↓max_ii, ↓min_ii, ↓all_l, ↓any_l, ↓cell0, ↓cell1, ↓cell2, ↓rng1, ↓rng2, ↓Lit.d, ↓List.getElem?_cons_zero, ↓List.getElem?_cons_succ, ↓List.set_cons_zero, ↓List.set_cons_succ, ↓List.length_cons, ↓List.length_nil, ↓List.length_set, ↓natAbs10, ↓tapeP_l, ↓after_next, ↓after_cont, ↓after_brk, ↓after_ret, ↓items_t, ↓items_l, ↓rev_l, ↓List.map_cons, ↓List.map_nil, ↓wipeR, ↓restR, ↓Option.getD_some, ↓Option.getD_none, ↓setTgs_nm, ↓compP_eq, Nat.reduceAdd, Nat.reduceLT, Nat.reduceLeDiff, Int.reduceLE, Int.reduceLT, Nat.reducePow, true_and, Int.reduceToNat, Int.reducePow, Int.reduceNeg]
  refine ha _ _ hS2 fun d' S' hd' hS' => ?_
  simp only [↓wi_nil (ρ := _ :: _), ↓wi_cons (ρ := _ :: _), ↓wi_asg (ρ := _ :: _), ↓wi_tape (ρ := _ :: _), ↓wi_asgT (ρ := _ :: _), ↓wi_setI (ρ := _ :: _), ↓wi_mt (ρ := _ :: _), ↓wi_ret (ρ := _ :: _), ↓wi_retN (ρ := _ :: _), ↓wi_iff (ρ := _ :: _), ↓wi_exp (ρ := _ :: _), ↓wi_pass (ρ := _ :: _), ↓wi_brk (ρ := _ :: _), ↓wi_cont (ρ := _ :: _), ↓we_lit (ρ := _ :: _), ↓we_gl (ρ := _ :: _), ↓we_var (ρ := _ :: _), ↓we_tup (ρ := _ :: _), ↓we_lst (ρ := _ :: _), ↓we_op (ρ := _ :: _), ↓we_neg (ρ := _ :: _), ↓we_cmp (ρ := _ :: _), ↓we_chain (ρ := _ :: _), ↓we_and (ρ := _ :: _), ↓we_or (ρ := _ :: _), ↓we_not (ρ := _ :: _), ↓we_ite (ρ := _ :: _), ↓we_idx (ρ := _ :: _), ↓we_slc (ρ := _ :: _), ↓we_rev (ρ := _ :: _), ↓we_call (ρ := _ :: _), ↓we_isi (ρ := _ :: _), ↓we_bi (ρ := _ :: _), ↓we_comp (ρ := _ :: _), ↓wl_nil (ρ := _ :: _), ↓wl_cons (ρ := _ :: _), ↓wpp_nil (ρ := _ :: _), ↓wpp_cons (ρ := _ :: _), ↓wa_nil (ρ := _ :: _), ↓wa_cons (ρ := _ :: _), ↓wo_nil (ρ := _ :: _), ↓wo_som (ρ := _ :: _), ↓ws_rg1 (ρ := _ :: _), ↓ws_rg2 (ρ := _ :: _), ↓ws_sq (ρ := _ :: _), ↓wc_nil (ρ := _ :: _), ↓wc_som (ρ := _ :: _), ↓brB_t, ↓brB_f, ↓varP_dat, ↓varP_own, ↓argP_dat, ↓argP_fresh, ↓callP1, ↓callP2, ↓callP3, ↓callP4, ↓callP5, ↓seq_next, ↓seq_ret, ↓seq_brk, ↓seq_cont, ↓asgP_dat, ↓asgP_own, ↓asgP_fr, ↓retP_dat, ↓retP_fresh, ↓done_ret, ↓done_next, ↓onO_some, ↓fz_dat, ↓fz_fresh, ↓add_ii, ↓sub_ii, ↓mul_ii, ↓mod_ii, ↓div_ii, ↓pow_ii, ↓add_tt, ↓add_ll, ↓add_ss, ↓mul_ti, ↓neg_i, ↓lt_ii, ↓le_ii, ↓gt_ii, ↓ge_ii, ↓eq_ii, ↓ne_ii, ↓eq_bb, ↓ne_bb, ↓eq_ss, ↓ne_ss, ↓len_t, ↓len_l, ↓len_s, ↓int_i, ↓list_t, ↓list_l, ↓list_s, ↓tuple_t, ↓tuple_l, ↓max_ii, ↓min_ii, ↓all_l, ↓any_l, ↓cell0, ↓cell1, ↓cell2, ↓rng1, ↓rng2, ↓Lit.d, ↓List.getElem?_cons_zero, ↓List.getElem?_cons_succ, ↓List.set_cons_zero, ↓List.set_cons_succ, ↓List.length_cons, ↓List.length_nil, ↓List.length_set, ↓natAbs10, ↓tapeP_l, ↓after_next, ↓after_cont, ↓after_brk, ↓after_ret, ↓items_t, ↓items_l, ↓rev_l, ↓List.map_cons, ↓List.map_nil, ↓wipeR, ↓restR, ↓Option.getD_some, ↓Option.getD_none, ↓setTgs_nm, ↓compP_eq, Nat.reduceAdd, Nat.reduceLT, Nat.reduceLeDiff, Int.reduceLE, Int.reduceLT, Nat.reducePow, true_and, Int.reduceToNat, Int.reducePow, Int.reduceNeg]
  exact hP _ _ _ (.inl rfl) (Fit.mono (by omega) (by omega) hd') hS'
theorem spoilt_step {n N k : Nat} (hN : N ≤ 100000) (hd : Draw (fam fds n)) (hw : Whole (fam fds n)) (ha1 : Any (fam fds n) 1) (ha2 : Any (fam fds n) 2) (ih : ∀ i, k = i + 1 → Spoilt (fam fds n) N i) : Spoilt (fam fds (n + 1)) N k := by
  intro d S P hf hS hP
  refine run_of (fd := f__law_spoilt) rfl rfl rfl ?_
  show wp (evI (fam fds n) b__law_spoilt) [some (.dat (.cell 0)), some (.dat d), none, none, none, none] _ _
  have tail := fun S (hS : TS S) => spoilt_tail hN hd hw ha2 hf hS hP none none
  unfold b__law_spoilt at tail ⊢
  refine wi_cut (fun ρ S => ∃ S0, TS S0 ∧ At [some (.dat (.cell 0)), some (.dat d), none, none, none, none] S0 ρ S) ?_ ?_
  rotate_left
  · rintro _ _ ⟨S0, hS0, rfl, rfl⟩
    exact tail S0 hS0 _ ⟨_, rfl⟩
  clear tail
  refine wi_if (fun t ρ S => (t = true → ∃ ds, ds ≠ [] ∧ (d = .tup ds ∨ d = .lst ds)) ∧ ∃ S0, TS S0 ∧ At [some (.dat (.cell 0)), some (.dat d), none, none, none, none] S0 ρ S) ?_ ?_ ?_
  · simp only [↓wi_nil (ρ := _ :: _), ↓wi_cons (ρ := _ :: _), ↓wi_asg (ρ := _ :: _), ↓wi_tape (ρ := _ :: _), ↓wi_asgT (ρ := _ :: _), ↓wi_setI (ρ := _ :: _), ↓wi_mt (ρ := _ :: _), ↓wi_ret (ρ := _ :: _), ↓wi_retN (ρ := _ :: _), ↓wi_iff (ρ := _ :: _), ↓wi_exp (ρ := _ :: _), ↓wi_pass (ρ := _ :: _), ↓wi_brk (ρ := _ :: _), ↓wi_cont (ρ := _ :: _), ↓we_lit (ρ := _ :: _), ↓we_gl (ρ := _ :: _), ↓we_var (ρ := _ :: _), ↓we_tup (ρ := _ :: _), ↓we_lst (ρ := _ :: _), ↓we_op (ρ := _ :: _), ↓we_neg (ρ := _ :: _), ↓we_cmp (ρ := _ :: _), ↓we_chain (ρ := _ :: _), ↓we_and (ρ := _ :: _), ↓we_or (ρ := _ :: _), ↓we_not (ρ := _ :: _), ↓we_ite (ρ := _ :: _), ↓we_idx (ρ := _ :: _), ↓we_slc (ρ := _ :: _), ↓we_rev (ρ := _ :: _), ↓we_call (ρ := _ :: _), ↓we_isi (ρ := _ :: _), ↓we_bi (ρ := _ :: _), ↓we_comp (ρ := _ :: _), ↓wl_nil (ρ := _ :: _), ↓wl_cons (ρ := _ :: _), ↓wpp_nil (ρ := _ :: _), ↓wpp_cons (ρ := _ :: _), ↓wa_nil (ρ := _ :: _), ↓wa_cons (ρ := _ :: _), ↓wo_nil (ρ := _ :: _), ↓wo_som (ρ := _ :: _), ↓ws_rg1 (ρ := _ :: _), ↓ws_rg2 (ρ := _ :: _), ↓ws_sq (ρ := _ :: _), ↓wc_nil (ρ := _ :: _), ↓wc_som (ρ := _ :: _), ↓brB_t, ↓brB_f, ↓varP_dat, ↓varP_own, ↓argP_dat, ↓argP_fresh, ↓callP1, ↓callP2, ↓callP3, ↓callP4, ↓callP5, ↓seq_next, ↓seq_ret, ↓seq_brk, ↓seq_cont, ↓asgP_dat, ↓asgP_own, ↓asgP_fr, ↓retP_dat, ↓retP_fresh, ↓done_ret, ↓done_next, ↓onO_some, ↓fz_dat, ↓fz_fresh, ↓add_ii, ↓sub_ii, ↓mul_ii, ↓mod_ii, ↓div_ii, ↓pow_ii, ↓add_tt, ↓add_ll, ↓add_ss, ↓mul_ti, ↓neg_i, ↓lt_ii, ↓le_ii, ↓gt_ii, ↓ge_ii, ↓eq_ii, ↓ne_ii, ↓eq_bb, ↓ne_bb, ↓eq_ss, ↓ne_ss, ↓len_t, ↓len_l, ↓len_s, ↓int_i, ↓list_t, ↓list_l, ↓list_s, ↓tuple_t, ↓tuple_l, ↓max_ii, ↓min_ii, ↓all_l, ↓any_l, ↓cell0, ↓cell1, ↓cell2, ↓rng1, ↓rng2, ↓Lit.d, ↓List.getElem?_cons_zero, ↓List.getElem?_cons_succ, ↓List.set_cons_zero, ↓List.set_cons_succ, ↓List.length_cons, ↓List.length_nil, ↓List.length_set, ↓natAbs10, ↓tapeP_l, ↓after_next, ↓after_cont, ↓after_brk, ↓after_ret, ↓items_t, ↓items_l, ↓rev_l, ↓List.map_cons, ↓List.map_nil, ↓wipeR, ↓restR, ↓Option.getD_some, ↓Option.getD_none, ↓setTgs_nm, ↓compP_eq, Nat.reduceAdd, Nat.reduceLT, Nat.reduceLeDiff, Int.reduceLE, Int.reduceLT, Nat.reducePow, true_and, Int.reduceToNat, Int.reducePow, Int.reduceNeg, List.any_cons, List.any_nil]
    refine brB_of (fun h => ?_) (fun h => ⟨_, rfl, (fun z => nomatch z), _, hS, at_mk⟩)
    obtain ⟨ds, hds⟩ : ∃ ds, d = .tup ds ∨ d = .lst ds := by
      cases d <;> first | exact ⟨_, .inl rfl⟩ | exact ⟨_, .inr rfl⟩ | (simp [isTy] at h; done) | (cases k <;> exact hf.elim)
    rw [show ∀ P, onO (BI.len.f [d]) P = P (.dat, .int ds.length) from by rcases hds with rfl | rfl <;> (intro P; rfl)]
    simp only [↓wi_nil (ρ := _ :: _), ↓wi_cons (ρ := _ :: _), ↓wi_asg (ρ := _ :: _), ↓wi_tape (ρ := _ :: _), ↓wi_asgT (ρ := _ :: _), ↓wi_setI (ρ := _ :: _), ↓wi_mt (ρ := _ :: _), ↓wi_ret (ρ := _ :: _), ↓wi_retN (ρ := _ :: _), ↓wi_iff (ρ := _ :: _), ↓wi_exp (ρ := _ :: _), ↓wi_pass (ρ := _ :: _), ↓wi_brk (ρ := _ :: _), ↓wi_cont (ρ := _ :: _), ↓we_lit (ρ := _ :: _), ↓we_gl (ρ := _ :: _), ↓we_var (ρ := _ :: _), ↓we_tup (ρ := _ :: _), ↓we_lst (ρ := _ :: _), ↓we_op (ρ := _ :: _), ↓we_neg (ρ := _ :: _), ↓we_cmp (ρ := _ :: _), ↓we_chain (ρ := _ :: _), ↓we_and (ρ := _ :: _), ↓we_or (ρ := _ :: _), ↓we_not (ρ := _ :: _), ↓we_ite (ρ := _ :: _), ↓we_idx (ρ := _ :: _), ↓we_slc (ρ := _ :: _), ↓we_rev (ρ := _ :: _), ↓we_call (ρ := _ :: _), ↓we_isi (ρ := _ :: _), ↓we_bi (ρ := _ :: _), ↓we_comp (ρ := _ :: _), ↓wl_nil (ρ := _ :: _), ↓wl_cons (ρ := _ :: _), ↓wpp_nil (ρ := _ :: _), ↓wpp_cons (ρ := _ :: _), ↓wa_nil (ρ := _ :: _), ↓wa_cons (ρ := _ :: _), ↓wo_nil (ρ := _ :: _), ↓wo_som (ρ := _ :: _), ↓ws_rg1 (ρ := _ :: _), ↓ws_rg2 (ρ := _ :: _), ↓ws_sq (ρ := _ :: _), ↓wc_nil (ρ := _ :: _), ↓wc_som (ρ := _ :: _), ↓brB_t, ↓brB_f, ↓varP_dat, ↓varP_own, ↓argP_dat, ↓argP_fresh, ↓callP1, ↓callP2, ↓callP3, ↓callP4, ↓callP5, ↓seq_next, ↓seq_ret, ↓seq_brk, ↓seq_cont, ↓asgP_dat, ↓asgP_own, ↓asgP_fr, ↓retP_dat, ↓retP_fresh, ↓done_ret, ↓done_next, ↓onO_some, ↓fz_dat, ↓fz_fresh, ↓add_ii, ↓sub_ii, ↓mul_ii, ↓mod_ii, ↓div_ii, ↓pow_ii, ↓add_tt, ↓add_ll, ↓add_ss, ↓mul_ti, ↓neg_i, ↓lt_ii, ↓le_ii, ↓gt_ii, ↓ge_ii, ↓eq_ii, ↓ne_ii, ↓eq_bb, ↓ne_bb, ↓eq_ss, ↓ne_ss, ↓len_t, ↓len_l, ↓len_s, ↓int_i, ↓list_t, ↓list_l, ↓list_s, ↓tuple_t, ↓tuple_l, ↓max_ii, ↓min_ii, ↓all_l, ↓any_l, ↓cell0, ↓cell1, ↓cell2, ↓rng1, ↓rng2, ↓Lit.d, ↓List.getElem?_cons_zero, ↓List.getElem?_cons_succ, ↓List.set_cons_zero, ↓List.set_cons_succ, ↓List.length_cons, ↓List.length_nil, ↓List.length_set, ↓natAbs10, ↓tapeP_l, ↓after_next, ↓after_cont, ↓after_brk, ↓after_ret, ↓items_t, ↓items_l, ↓rev_l, ↓List.map_cons, ↓List.map_nil, ↓wipeR, ↓restR, ↓Option.getD_some, ↓Option.getD_none, ↓setTgs_nm, ↓compP_eq, Nat.reduceAdd, Nat.reduceLT, Nat.reduceLeDiff, Int.reduceLE, Int.reduceLT, Nat.reducePow, true_and, Int.reduceToNat, Int.reducePow, Int.reduceNeg]
    refine brB_of (fun h2 => ?_) (fun h => ⟨_, rfl, (fun z => nomatch z), _, hS, at_mk⟩)
    refine hd _ _ _ (by decide) (by decide) hS fun r S' g0 g1 hS' => ?_
    simp only [↓wi_nil (ρ := _ :: _), ↓wi_cons (ρ := _ :: _), ↓wi_asg (ρ := _ :: _), ↓wi_tape (ρ := _ :: _), ↓wi_asgT (ρ := _ :: _), ↓wi_setI (ρ := _ :: _), ↓wi_mt (ρ := _ :: _), ↓wi_ret (ρ := _ :: _), ↓wi_retN (ρ := _ :: _), ↓wi_iff (ρ := _ :: _), ↓wi_exp (ρ := _ :: _), ↓wi_pass (ρ := _ :: _), ↓wi_brk (ρ := _ :: _), ↓wi_cont (ρ := _ :: _), ↓we_lit (ρ := _ :: _), ↓we_gl (ρ := _ :: _), ↓we_var (ρ := _ :: _), ↓we_tup (ρ := _ :: _), ↓we_lst (ρ := _ :: _), ↓we_op (ρ := _ :: _), ↓we_neg (ρ := _ :: _), ↓we_cmp (ρ := _ :: _), ↓we_chain (ρ := _ :: _), ↓we_and (ρ := _ :: _), ↓we_or (ρ := _ :: _), ↓we_not (ρ := _ :: _), ↓we_ite (ρ := _ :: _), ↓we_idx (ρ := _ :: _), ↓we_slc (ρ := _ :: _), ↓we_rev (ρ := _ :: _), ↓we_call (ρ := _ :: _), ↓we_isi (ρ := _ :: _), ↓we_bi (ρ := _ :: _), ↓we_comp (ρ := _ :: _), ↓wl_nil (ρ := _ :: _), ↓wl_cons (ρ := _ :: _), ↓wpp_nil (ρ := _ :: _), ↓wpp_cons (ρ := _ :: _), ↓wa_nil (ρ := _ :: _), ↓wa_cons (ρ := _ :: _), ↓wo_nil (ρ := _ :: _), ↓wo_som (ρ := _ :: _), ↓ws_rg1 (ρ := _ :: _), ↓ws_rg2 (ρ := _ :: _), ↓ws_sq (ρ := _ :: _), ↓wc_nil (ρ := _ :: _), ↓wc_som (ρ := _ :: _), ↓brB_t, ↓brB_f, ↓varP_dat, ↓varP_own, ↓argP_dat, ↓argP_fresh, ↓callP1, ↓callP2, ↓callP3, ↓callP4, ↓callP5, ↓seq_next, ↓seq_ret, ↓seq_brk, ↓seq_cont, ↓asgP_dat, ↓asgP_own, ↓asgP_fr, ↓retP_dat, ↓retP_fresh, ↓done_ret, ↓done_next, ↓onO_some, ↓fz_dat, ↓fz_fresh, ↓add_ii, ↓sub_ii, ↓mul_ii, ↓mod_ii, ↓div_ii, ↓pow_ii, ↓add_tt, ↓add_ll, ↓add_ss, ↓mul_ti, ↓neg_i, ↓lt_ii, ↓le_ii, ↓gt_ii, ↓ge_ii, ↓eq_ii, ↓ne_ii, ↓eq_bb, ↓ne_bb, ↓eq_ss, ↓ne_ss, ↓len_t, ↓len_l, ↓len_s, ↓int_i, ↓list_t, ↓list_l, ↓list_s, ↓tuple_t, ↓tuple_l, ↓max_ii, ↓min_ii, ↓all_l, ↓any_l, ↓cell0, ↓cell1, ↓cell2, ↓rng1, ↓rng2, ↓Lit.d, ↓List.getElem?_cons_zero, ↓List.getElem?_cons_succ, ↓List.set_cons_zero, ↓List.set_cons_succ, ↓List.length_cons, ↓List.length_nil, ↓List.length_set, ↓natAbs10, ↓tapeP_l, ↓after_next, ↓after_cont, ↓after_brk, ↓after_ret, ↓items_t, ↓items_l, ↓rev_l, ↓List.map_cons, ↓List.map_nil, ↓wipeR, ↓restR, ↓Option.getD_some, ↓Option.getD_none, ↓setTgs_nm, ↓compP_eq, Nat.reduceAdd, Nat.reduceLT, Nat.reduceLeDiff, Int.reduceLE, Int.reduceLT, Nat.reducePow, true_and, Int.reduceToNat, Int.reducePow, Int.reduceNeg]
    refine ⟨_, rfl, fun _ => ⟨ds, ?_, hds⟩, _, hS', at_mk⟩
    rintro rfl
    simp at h2
  rotate_left
  · rintro _ _ ⟨_, S0, hS0, rfl, rfl⟩
    simp only [↓wi_nil (ρ := _ :: _), ↓wi_cons (ρ := _ :: _), ↓wi_asg (ρ := _ :: _), ↓wi_tape (ρ := _ :: _), ↓wi_asgT (ρ := _ :: _), ↓wi_setI (ρ := _ :: _), ↓wi_mt (ρ := _ :: _), ↓wi_ret (ρ := _ :: _), ↓wi_retN (ρ := _ :: _), ↓wi_iff (ρ := _ :: _), ↓wi_exp (ρ := _ :: _), ↓wi_pass (ρ := _ :: _), ↓wi_brk (ρ := _ :: _), ↓wi_cont (ρ := _ :: _), ↓we_lit (ρ := _ :: _), ↓we_gl (ρ := _ :: _), ↓we_var (ρ := _ :: _), ↓we_tup (ρ := _ :: _), ↓we_lst (ρ := _ :: _), ↓we_op (ρ := _ :: _), ↓we_neg (ρ := _ :: _), ↓we_cmp (ρ := _ :: _), ↓we_chain (ρ := _ :: _), ↓we_and (ρ := _ :: _), ↓we_or (ρ := _ :: _), ↓we_not (ρ := _ :: _), ↓we_ite (ρ := _ :: _), ↓we_idx (ρ := _ :: _), ↓we_slc (ρ := _ :: _), ↓we_rev (ρ := _ :: _), ↓we_call (ρ := _ :: _), ↓we_isi (ρ := _ :: _), ↓we_bi (ρ := _ :: _), ↓we_comp (ρ := _ :: _), ↓wl_nil (ρ := _ :: _), ↓wl_cons (ρ := _ :: _), ↓wpp_nil (ρ := _ :: _), ↓wpp_cons (ρ := _ :: _), ↓wa_nil (ρ := _ :: _), ↓wa_cons (ρ := _ :: _), ↓wo_nil (ρ := _ :: _), ↓wo_som (ρ := _ :: _), ↓ws_rg1 (ρ := _ :: _), ↓ws_rg2 (ρ := _ :: _), ↓ws_sq (ρ := _ :: _), ↓wc_nil (ρ := _ :: _), ↓wc_som (ρ := _ :: _), ↓brB_t, ↓brB_f, ↓varP_dat, ↓varP_own, ↓argP_dat, ↓argP_fresh, ↓callP1, ↓callP2, ↓callP3, ↓callP4, ↓callP5, ↓seq_next, ↓seq_ret, ↓seq_brk, ↓seq_cont, ↓asgP_dat, ↓asgP_own, ↓asgP_fr, ↓retP_dat, ↓retP_fresh, ↓done_ret, ↓done_next, ↓onO_some, ↓fz_dat, ↓fz_fresh, ↓add_ii, ↓sub_ii, ↓mul_ii, ↓mod_ii, ↓div_ii, ↓pow_ii, ↓add_tt, ↓add_ll, ↓add_ss, ↓mul_ti, ↓neg_i, ↓lt_ii, ↓le_ii, ↓gt_ii, ↓ge_ii, ↓eq_ii, ↓ne_ii, ↓eq_bb, ↓ne_bb, ↓eq_ss, ↓ne_ss, ↓len_t, ↓len_l, ↓len_s, ↓int_i, ↓list_t, ↓list_l, ↓list_s, ↓tuple_t, ↓tuple_l, ↓max_ii, ↓min_ii, ↓all_l, ↓any_l, ↓cell0, ↓cell1, ↓cell2, ↓rng1, ↓rng2, ↓Lit.d, ↓List.getElem?_cons_zero, ↓List.getElem?_cons_succ, ↓List.set_cons_zero, ↓List.set_cons_succ, ↓List.length_cons, ↓List.length_nil, ↓List.length_set, ↓natAbs10, ↓tapeP_l, ↓after_next, ↓after_cont, ↓after_brk, ↓after_ret, ↓items_t, ↓items_l, ↓rev_l, ↓List.map_cons, ↓List.map_nil, ↓wipeR, ↓restR, ↓Option.getD_some, ↓Option.getD_none, ↓setTgs_nm, ↓compP_eq, Nat.reduceAdd, Nat.reduceLT, Nat.reduceLeDiff, Int.reduceLE, Int.reduceLT, Nat.reducePow, true_and, Int.reduceToNat, Int.reducePow, Int.reduceNeg]
    exact ⟨_, hS0, at_mk⟩
  rintro _ _ ⟨h, S0, hS0, rfl, rfl⟩
  obtain ⟨ds, hne, hds⟩ := h rfl
  have hlen := fun P => show onO (BI.len.f [d]) P = P (.dat, .int ds.length) from by rcases hds with rfl | rfl <;> rfl
  have hlist := fun P => show onO (BI.list.f [d]) P = P (.fresh, .lst ds) from by rcases hds with rfl | rfl <;> rfl
  obtain ⟨i, rfl⟩ : ∃ i, k = i + 1 := by
    cases k with
    | zero => rcases hds with rfl | rfl <;> exact hf.elim
    | succ i => exact ⟨i, rfl⟩
  have hl : ds.length ≤ N ∧ ∀ d ∈ ds, Fit N i d := by rcases hds with rfl | rfl <;> exact hf
  have hpos : 0 < ds.length := List.length_pos_iff.mpr hne
  refine wi_cut (fun ρ S => ∃ (c : Nat) (S0 : Store), c < ds.length ∧ TS S0 ∧ At [some (.dat (.cell 0)), some (.dat d), some (.dat (.int c)), none, none, none] S0 ρ S) ?_ ?_
  · simp only [↓wi_nil (ρ := _ :: _), ↓wi_cons (ρ := _ :: _), ↓wi_asg (ρ := _ :: _), ↓wi_tape (ρ := _ :: _), ↓wi_asgT (ρ := _ :: _), ↓wi_setI (ρ := _ :: _), ↓wi_mt (ρ := _ :: _), ↓wi_ret (ρ := _ :: _), ↓wi_retN (ρ := _ :: _), ↓wi_iff (ρ := _ :: _), ↓wi_exp (ρ := _ :: _), ↓wi_pass (ρ := _ :: _), ↓wi_brk (ρ := _ :: _), ↓wi_cont (ρ := _ :: _), ↓we_lit (ρ := _ :: _), ↓we_gl (ρ := _ :: _), ↓we_var (ρ := _ :: _), ↓we_tup (ρ := _ :: _), ↓we_lst (ρ := _ :: _), ↓we_op (ρ := _ :: _), ↓we_neg (ρ := _ :: _), ↓we_cmp (ρ := _ :: _), ↓we_chain (ρ := _ :: _), ↓we_and (ρ := _ :: _), ↓we_or (ρ := _ :: _), ↓we_not (ρ := _ :: _), ↓we_ite (ρ := _ :: _), ↓we_idx (ρ := _ :: _), ↓we_slc (ρ := _ :: _), ↓we_rev (ρ := _ :: _), ↓we_call (ρ := _ :: _), ↓we_isi (ρ := _ :: _), ↓we_bi (ρ := _ :: _), ↓we_comp (ρ := _ :: _), ↓wl_nil (ρ := _ :: _), ↓wl_cons (ρ := _ :: _), ↓wpp_nil (ρ := _ :: _), ↓wpp_cons (ρ := _ :: _), ↓wa_nil (ρ := _ :: _), ↓wa_cons (ρ := _ :: _), ↓wo_nil (ρ := _ :: _), ↓wo_som (ρ := _ :: _), ↓ws_rg1 (ρ := _ :: _), ↓ws_rg2 (ρ := _ :: _), ↓ws_sq (ρ := _ :: _), ↓wc_nil (ρ := _ :: _), ↓wc_som (ρ := _ :: _), ↓brB_t, ↓brB_f, ↓varP_dat, ↓varP_own, ↓argP_dat, ↓argP_fresh, ↓callP1, ↓callP2, ↓callP3, ↓callP4, ↓callP5, ↓seq_next, ↓seq_ret, ↓seq_brk, ↓seq_cont, ↓asgP_dat, ↓asgP_own, ↓asgP_fr, ↓retP_dat, ↓retP_fresh, ↓done_ret, ↓done_next, ↓onO_some, ↓fz_dat, ↓fz_fresh, ↓add_ii, ↓sub_ii, ↓mul_ii, ↓mod_ii, ↓div_ii, ↓pow_ii, ↓add_tt, ↓add_ll, ↓add_ss, ↓mul_ti, ↓neg_i, ↓lt_ii, ↓le_ii, ↓gt_ii, ↓ge_ii, ↓eq_ii, ↓ne_ii, ↓eq_bb, ↓ne_bb, ↓eq_ss, ↓ne_ss, ↓len_t, ↓len_l, ↓len_s, ↓int_i, ↓list_t, ↓list_l, ↓list_s, ↓tuple_t, ↓tuple_l, ↓max_ii, ↓min_ii, ↓all_l, ↓any_l, ↓cell0, ↓cell1, ↓cell2, ↓rng1, ↓rng2, ↓Lit.d, ↓List.getElem?_cons_zero, ↓List.getElem?_cons_succ, ↓List.set_cons_zero, ↓List.set_cons_succ, ↓List.length_cons, ↓List.length_nil, ↓List.length_set, ↓natAbs10, ↓tapeP_l, ↓after_next, ↓after_cont, ↓after_brk, ↓after_ret, ↓items_t, ↓items_l, ↓rev_l, ↓List.map_cons, ↓List.map_nil, ↓wipeR, ↓restR, ↓Option.getD_some, ↓Option.getD_none, ↓setTgs_nm, ↓compP_eq, Nat.reduceAdd, Nat.reduceLT, Nat.reduceLeDiff, Int.reduceLE, Int.reduceLT, Nat.reducePow, true_and, Int.reduceToNat, Int.reducePow, Int.reduceNeg, hlen]
    refine hd _ _ _ (by omega) (by omega) hS0 fun r S' g0 g1 hS' => ?_
    simp only [↓wi_nil (ρ := _ :: _), ↓wi_cons (ρ := _ :: _), ↓wi_asg (ρ := _ :: _), ↓wi_tape (ρ := _ :: _), ↓wi_asgT (ρ := _ :: _), ↓wi_setI (ρ := _ :: _), ↓wi_mt (ρ := _ :: _), ↓wi_ret (ρ := _ :: _), ↓wi_retN (ρ := _ :: _), ↓wi_iff (ρ := _ :: _), ↓wi_exp (ρ := _ :: _), ↓wi_pass (ρ := _ :: _), ↓wi_brk (ρ := _ :: _), ↓wi_cont (ρ := _ :: _), ↓we_lit (ρ := _ :: _), ↓we_gl (ρ := _ :: _), ↓we_var (ρ := _ :: _), ↓we_tup (ρ := _ :: _), ↓we_lst (ρ := _ :: _), ↓we_op (ρ := _ :: _), ↓we_neg (ρ := _ :: _), ↓we_cmp (ρ := _ :: _), ↓we_chain (ρ := _ :: _), ↓we_and (ρ := _ :: _), ↓we_or (ρ := _ :: _), ↓we_not (ρ := _ :: _), ↓we_ite (ρ := _ :: _), ↓we_idx (ρ := _ :: _), ↓we_slc (ρ := _ :: _), ↓we_rev (ρ := _ :: _), ↓we_call (ρ := _ :: _), ↓we_isi (ρ := _ :: _), ↓we_bi (ρ := _ :: _), ↓we_comp (ρ := _ :: _), ↓wl_nil (ρ := _ :: _), ↓wl_cons (ρ := _ :: _), ↓wpp_nil (ρ := _ :: _), ↓wpp_cons (ρ := _ :: _), ↓wa_nil (ρ := _ :: _), ↓wa_cons (ρ := _ :: _), ↓wo_nil (ρ := _ :: _), ↓wo_som (ρ := _ :: _), ↓ws_rg1 (ρ := _ :: _), ↓ws_rg2 (ρ := _ :: _), ↓ws_sq (ρ := _ :: _), ↓wc_nil (ρ := _ :: _), ↓wc_som (ρ := _ :: _), ↓brB_t, ↓brB_f, ↓varP_dat, ↓varP_own, ↓argP_dat, ↓argP_fresh, ↓callP1, ↓callP2, ↓callP3, ↓callP4, ↓callP5, ↓seq_next, ↓seq_ret, ↓seq_brk, ↓seq_cont, ↓asgP_dat, ↓asgP_own, ↓asgP_fr, ↓retP_dat, ↓retP_fresh, ↓done_ret, ↓done_next, ↓onO_some, ↓fz_dat, ↓fz_fresh, ↓add_ii, ↓sub_ii, ↓mul_ii, ↓mod_ii, ↓div_ii, ↓pow_ii, ↓add_tt, ↓add_ll, ↓add_ss, ↓mul_ti, ↓neg_i, ↓lt_ii, ↓le_ii, ↓gt_ii, ↓ge_ii, ↓eq_ii, ↓ne_ii, ↓eq_bb, ↓ne_bb, ↓eq_ss, ↓ne_ss, ↓len_t, ↓len_l, ↓len_s, ↓int_i, ↓list_t, ↓list_l, ↓list_s, ↓tuple_t, ↓tuple_l, ↓max_ii, ↓min_ii, ↓all_l, ↓any_l, ↓cell0, ↓cell1, ↓cell2, ↓rng1, ↓rng2, ↓Lit.d, ↓List.getElem?_cons_zero, ↓List.getElem?_cons_succ, ↓List.set_cons_zero, ↓List.set_cons_succ, ↓List.length_cons, ↓List.length_nil, ↓List.length_set, ↓natAbs10, ↓tapeP_l, ↓after_next, ↓after_cont, ↓after_brk, ↓after_ret, ↓items_t, ↓items_l, ↓rev_l, ↓List.map_cons, ↓List.map_nil, ↓wipeR, ↓restR, ↓Option.getD_some, ↓Option.getD_none, ↓setTgs_nm, ↓compP_eq, Nat.reduceAdd, Nat.reduceLT, Nat.reduceLeDiff, Int.reduceLE, Int.reduceLT, Nat.reducePow, true_and, Int.reduceToNat, Int.reducePow, Int.reduceNeg]
    obtain ⟨c, rfl⟩ := Int.eq_ofNat_of_zero_le g0
    exact ⟨c, _, by omega, hS', at_mk⟩
  rintro _ _ ⟨c, S1, hc, hS1, rfl, rfl⟩
  refine wi_cut (fun ρ S => At [some (.dat (.cell 0)), some (.dat d), some (.dat (.int c)), some (.own (.lst ds)), none, none] S1 ρ S) ?_ ?_
  · simp only [↓wi_nil (ρ := _ :: _), ↓wi_cons (ρ := _ :: _), ↓wi_asg (ρ := _ :: _), ↓wi_tape (ρ := _ :: _), ↓wi_asgT (ρ := _ :: _), ↓wi_setI (ρ := _ :: _), ↓wi_mt (ρ := _ :: _), ↓wi_ret (ρ := _ :: _), ↓wi_retN (ρ := _ :: _), ↓wi_iff (ρ := _ :: _), ↓wi_exp (ρ := _ :: _), ↓wi_pass (ρ := _ :: _), ↓wi_brk (ρ := _ :: _), ↓wi_cont (ρ := _ :: _), ↓we_lit (ρ := _ :: _), ↓we_gl (ρ := _ :: _), ↓we_var (ρ := _ :: _), ↓we_tup (ρ := _ :: _), ↓we_lst (ρ := _ :: _), ↓we_op (ρ := _ :: _), ↓we_neg (ρ := _ :: _), ↓we_cmp (ρ := _ :: _), ↓we_chain (ρ := _ :: _), ↓we_and (ρ := _ :: _), ↓we_or (ρ := _ :: _), ↓we_not (ρ := _ :: _), ↓we_ite (ρ := _ :: _), ↓we_idx (ρ := _ :: _), ↓we_slc (ρ := _ :: _), ↓we_rev (ρ := _ :: _), ↓we_call (ρ := _ :: _), ↓we_isi (ρ := _ :: _), ↓we_bi (ρ := _ :: _), ↓we_comp (ρ := _ :: _), ↓wl_nil (ρ := _ :: _), ↓wl_cons (ρ := _ :: _), ↓wpp_nil (ρ := _ :: _), ↓wpp_cons (ρ := _ :: _), ↓wa_nil (ρ := _ :: _), ↓wa_cons (ρ := _ :: _), ↓wo_nil (ρ := _ :: _), ↓wo_som (ρ := _ :: _), ↓ws_rg1 (ρ := _ :: _), ↓ws_rg2 (ρ := _ :: _), ↓ws_sq (ρ := _ :: _), ↓wc_nil (ρ := _ :: _), ↓wc_som (ρ := _ :: _), ↓brB_t, ↓brB_f, ↓varP_dat, ↓varP_own, ↓argP_dat, ↓argP_fresh, ↓callP1, ↓callP2, ↓callP3, ↓callP4, ↓callP5, ↓seq_next, ↓seq_ret, ↓seq_brk, ↓seq_cont, ↓asgP_dat, ↓asgP_own, ↓asgP_fr, ↓retP_dat, ↓retP_fresh, ↓done_ret, ↓done_next, ↓onO_some, ↓fz_dat, ↓fz_fresh, ↓add_ii, ↓sub_ii, ↓mul_ii, ↓mod_ii, ↓div_ii, ↓pow_ii, ↓add_tt, ↓add_ll, ↓add_ss, ↓mul_ti, ↓neg_i, ↓lt_ii, ↓le_ii, ↓gt_ii, ↓ge_ii, ↓eq_ii, ↓ne_ii, ↓eq_bb, ↓ne_bb, ↓eq_ss, ↓ne_ss, ↓len_t, ↓len_l, ↓len_s, ↓int_i, ↓list_t, ↓list_l, ↓list_s, ↓tuple_t, ↓tuple_l, ↓max_ii, ↓min_ii, ↓all_l, ↓any_l, ↓cell0, ↓cell1, ↓cell2, ↓rng1, ↓rng2, ↓Lit.d, ↓List.getElem?_cons_zero, ↓List.getElem?_cons_succ, ↓List.set_cons_zero, ↓List.set_cons_succ, ↓List.length_cons, ↓List.length_nil, ↓List.length_set, ↓natAbs10, ↓tapeP_l, ↓after_next, ↓after_cont, ↓after_brk, ↓after_ret, ↓items_t, ↓items_l, ↓rev_l, ↓List.map_cons, ↓List.map_nil, ↓wipeR, ↓restR, ↓Option.getD_some, ↓Option.getD_none, ↓setTgs_nm, ↓compP_eq, Nat.reduceAdd, Nat.reduceLT, Nat.reduceLeDiff, Int.reduceLE, Int.reduceLT, Nat.reducePow, true_and, Int.reduceToNat, Int.reducePow, Int.reduceNeg, hlist]
    exact at_mk
  rintro _ _ ⟨rfl, rfl⟩
  refine wi_cut (fun ρ S => ∃ (e : Int) (S0 : Store), TS S0 ∧ At [some (.dat (.cell 0)), some (.dat d), some (.dat (.int c)), some (.own (.lst ds)), some (.dat (.int e)), none] S0 ρ S) ?_ ?_
  · simp only [↓wi_nil (ρ := _ :: _), ↓wi_cons (ρ := _ :: _), ↓wi_asg (ρ := _ :: _), ↓wi_tape (ρ := _ :: _), ↓wi_asgT (ρ := _ :: _), ↓wi_setI (ρ := _ :: _), ↓wi_mt (ρ := _ :: _), ↓wi_ret (ρ := _ :: _), ↓wi_retN (ρ := _ :: _), ↓wi_iff (ρ := _ :: _), ↓wi_exp (ρ := _ :: _), ↓wi_pass (ρ := _ :: _), ↓wi_brk (ρ := _ :: _), ↓wi_cont (ρ := _ :: _), ↓we_lit (ρ := _ :: _), ↓we_gl (ρ := _ :: _), ↓we_var (ρ := _ :: _), ↓we_tup (ρ := _ :: _), ↓we_lst (ρ := _ :: _), ↓we_op (ρ := _ :: _), ↓we_neg (ρ := _ :: _), ↓we_cmp (ρ := _ :: _), ↓we_chain (ρ := _ :: _), ↓we_and (ρ := _ :: _), ↓we_or (ρ := _ :: _), ↓we_not (ρ := _ :: _), ↓we_ite (ρ := _ :: _), ↓we_idx (ρ := _ :: _), ↓we_slc (ρ := _ :: _), ↓we_rev (ρ := _ :: _), ↓we_call (ρ := _ :: _), ↓we_isi (ρ := _ :: _), ↓we_bi (ρ := _ :: _), ↓we_comp (ρ := _ :: _), ↓wl_nil (ρ := _ :: _), ↓wl_cons (ρ := _ :: _), ↓wpp_nil (ρ := _ :: _), ↓wpp_cons (ρ := _ :: _), ↓wa_nil (ρ := _ :: _), ↓wa_cons (ρ := _ :: _), ↓wo_nil (ρ := _ :: _), ↓wo_som (ρ := _ :: _), ↓ws_rg1 (ρ := _ :: _), ↓ws_rg2 (ρ := _ :: _), ↓ws_sq (ρ := _ :: _), ↓wc_nil (ρ := _ :: _), ↓wc_som (ρ := _ :: _), ↓brB_t, ↓brB_f, ↓varP_dat, ↓varP_own, ↓argP_dat, ↓argP_fresh, ↓callP1, ↓callP2, ↓callP3, ↓callP4, ↓callP5, ↓seq_next, ↓seq_ret, ↓seq_brk, ↓seq_cont, ↓asgP_dat, ↓asgP_own, ↓asgP_fr, ↓retP_dat, ↓retP_fresh, ↓done_ret, ↓done_next, ↓onO_some, ↓fz_dat, ↓fz_fresh, ↓add_ii, ↓sub_ii, ↓mul_ii, ↓mod_ii, ↓div_ii, ↓pow_ii, ↓add_tt, ↓add_ll, ↓add_ss, ↓mul_ti, ↓neg_i, ↓lt_ii, ↓le_ii, ↓gt_ii, ↓ge_ii, ↓eq_ii, ↓ne_ii, ↓eq_bb, ↓ne_bb, ↓eq_ss, ↓ne_ss, ↓len_t, ↓len_l, ↓len_s, ↓int_i, ↓list_t, ↓list_l, ↓list_s, ↓tuple_t, ↓tuple_l, ↓max_ii, ↓min_ii, ↓all_l, ↓any_l, ↓cell0, ↓cell1, ↓cell2, ↓rng1, ↓rng2, ↓Lit.d, ↓List.getElem?_cons_zero, ↓List.getElem?_cons_succ, ↓List.set_cons_zero, ↓List.set_cons_succ, ↓List.length_cons, ↓List.length_nil, ↓List.length_set, ↓natAbs10, ↓tapeP_l, ↓after_next, ↓after_cont, ↓after_brk, ↓after_ret, ↓items_t, ↓items_l, ↓rev_l, ↓List.map_cons, ↓List.map_nil, ↓wipeR, ↓restR, ↓Option.getD_some, ↓Option.getD_none, ↓setTgs_nm, ↓compP_eq, Nat.reduceAdd, Nat.reduceLT, Nat.reduceLeDiff, Int.reduceLE, Int.reduceLT, Nat.reducePow, true_and, Int.reduceToNat, Int.reducePow, Int.reduceNeg]
    refine hd _ _ _ (by decide) (by decide) hS1 fun r S' g0 g1 hS' => ?_
    simp only [↓wi_nil (ρ := _ :: _), ↓wi_cons (ρ := _ :: _), ↓wi_asg (ρ := _ :: _), ↓wi_tape (ρ := _ :: _), ↓wi_asgT (ρ := _ :: _), ↓wi_setI (ρ := _ :: _), ↓wi_mt (ρ := _ :: _), ↓wi_ret (ρ := _ :: _), ↓wi_retN (ρ := _ :: _), ↓wi_iff (ρ := _ :: _), ↓wi_exp (ρ := _ :: _), ↓wi_pass (ρ := _ :: _), ↓wi_brk (ρ := _ :: _), ↓wi_cont (ρ := _ :: _), ↓we_lit (ρ := _ :: _), ↓we_gl (ρ := _ :: _), ↓we_var (ρ := _ :: _), ↓we_tup (ρ := _ :: _), ↓we_lst (ρ := _ :: _), ↓we_op (ρ := _ :: _), ↓we_neg (ρ := _ :: _), ↓we_cmp (ρ := _ :: _), ↓we_chain (ρ := _ :: _), ↓we_and (ρ := _ :: _), ↓we_or (ρ := _ :: _), ↓we_not (ρ := _ :: _), ↓we_ite (ρ := _ :: _), ↓we_idx (ρ := _ :: _), ↓we_slc (ρ := _ :: _), ↓we_rev (ρ := _ :: _), ↓we_call (ρ := _ :: _), ↓we_isi (ρ := _ :: _), ↓we_bi (ρ := _ :: _), ↓we_comp (ρ := _ :: _), ↓wl_nil (ρ := _ :: _), ↓wl_cons (ρ := _ :: _), ↓wpp_nil (ρ := _ :: _), ↓wpp_cons (ρ := _ :: _), ↓wa_nil (ρ := _ :: _), ↓wa_cons (ρ := _ :: _), ↓wo_nil (ρ := _ :: _), ↓wo_som (ρ := _ :: _), ↓ws_rg1 (ρ := _ :: _), ↓ws_rg2 (ρ := _ :: _), ↓ws_sq (ρ := _ :: _), ↓wc_nil (ρ := _ :: _), ↓wc_som (ρ := _ :: _), ↓brB_t, ↓brB_f, ↓varP_dat, ↓varP_own, ↓argP_dat, ↓argP_fresh, ↓callP1, ↓callP2, ↓callP3, ↓callP4, ↓callP5, ↓seq_next, ↓seq_ret, ↓seq_brk, ↓seq_cont, ↓asgP_dat, ↓asgP_own, ↓asgP_fr, ↓retP_dat, ↓retP_fresh, ↓done_ret, ↓done_next, ↓onO_some, ↓fz_dat, ↓fz_fresh, ↓add_ii, ↓sub_ii, ↓mul_ii, ↓mod_ii, ↓div_ii, ↓pow_ii, ↓add_tt, ↓add_ll, ↓add_ss, ↓mul_ti, ↓neg_i, ↓lt_ii, ↓le_ii, ↓gt_ii, ↓ge_ii, ↓eq_ii, ↓ne_ii, ↓eq_bb, ↓ne_bb, ↓eq_ss, ↓ne_ss, ↓len_t, ↓len_l, ↓len_s, ↓int_i, ↓list_t, ↓list_l, ↓list_s, ↓tuple_t, ↓tuple_l, ↓max_ii, ↓min_ii, ↓all_l, ↓any_l, ↓cell0, ↓cell1, ↓cell2, ↓rng1, ↓rng2, ↓Lit.d, ↓List.getElem?_cons_zero, ↓List.getElem?_cons_succ, ↓List.set_cons_zero, ↓List.set_cons_succ, ↓List.length_cons, ↓List.length_nil, ↓List.length_set, ↓natAbs10, ↓tapeP_l, ↓after_next, ↓after_cont, ↓after_brk, ↓after_ret, ↓items_t, ↓items_l, ↓rev_l, ↓List.map_cons, ↓List.map_nil, ↓wipeR, ↓restR, ↓Option.getD_some, ↓Option.getD_none, ↓setTgs_nm, ↓compP_eq, Nat.reduceAdd, Nat.reduceLT, Nat.reduceLeDiff, Int.reduceLE, Int.reduceLT, Nat.reducePow, true_and, Int.reduceToNat, Int.reducePow, Int.reduceNeg]
    exact ⟨_, _, hS', at_mk⟩
  rintro _ _ ⟨e, S2, hS2, rfl, rfl⟩
  have hfit : ∀ x ∈ ds, Fit (N + 10) (i + 3) x := fun x hx => Fit.mono (by omega) (by omega) (hl.2 x hx)
  have hcj : L2.ixN ds.length (c : Int) = some c := by
    unfold L2.ixN; rw [if_pos (by omega), if_pos (by omega)]; rfl
  have hget := List.getElem?_eq_getElem hc
  obtain ⟨J, eJ⟩ : ∃ J : Rho → Store → Prop, J = fun ρ S => ∃ (es : List D) (S0 : Store), (es.length ≤ N + 10 ∧ ∀ x ∈ es, Fit (N + 10) (i + 3) x) ∧ TS S0 ∧ At [some (.dat (.cell 0)), some (.dat d), some (.dat (.int c)), some (.own (.lst es)), some (.dat (.int e)), none] S0 ρ S := ⟨_, rfl⟩
  have hJ : ∀ (es : List D) (S0 : Store), (es.length ≤ N + 10 ∧ ∀ x ∈ es, Fit (N + 10) (i + 3) x) → TS S0 → J [some (.dat (.cell 0)), some (.dat d), some (.dat (.int c)), some (.own (.lst es)), some (.dat (.int e)), none] S0 := fun es S0 h1 h2 => by rw [eJ]; exact ⟨es, S0, h1, h2, at_mk⟩
  have hJ' : ∀ ρ S, J ρ S → ∃ (es : List D) (S0 : Store), (es.length ≤ N + 10 ∧ ∀ x ∈ es, Fit (N + 10) (i + 3) x) ∧ TS S0 ∧ At [some (.dat (.cell 0)), some (.dat d), some (.dat (.int c)), some (.own (.lst es)), some (.dat (.int e)), none] S0 ρ S := fun _ _ h => by rw [eJ] at h; exact h
  clear eJ
  refine wi_cut J ?_ ?_
  · refine wi_if (fun t ρ S => At [some (.dat (.cell 0)), some (.dat d), some (.dat (.int c)), some (.own (.lst ds)), some (.dat (.int e)), none] S2 ρ S) (by simp only [↓wi_nil (ρ := _ :: _), ↓wi_cons (ρ := _ :: _), ↓wi_asg (ρ := _ :: _), ↓wi_tape (ρ := _ :: _), ↓wi_asgT (ρ := _ :: _), ↓wi_setI (ρ := _ :: _), ↓wi_mt (ρ := _ :: _), ↓wi_ret (ρ := _ :: _), ↓wi_retN (ρ := _ :: _), ↓wi_iff (ρ := _ :: _), ↓wi_exp (ρ := _ :: _), ↓wi_pass (ρ := _ :: _), ↓wi_brk (ρ := _ :: _), ↓wi_cont (ρ := _ :: _), ↓we_lit (ρ := _ :: _), ↓we_gl (ρ := _ :: _), ↓we_var (ρ := _ :: _), ↓we_tup (ρ := _ :: _), ↓we_lst (ρ := _ :: _), ↓we_op (ρ := _ :: _), ↓we_neg (ρ := _ :: _), ↓we_cmp (ρ := _ :: _), ↓we_chain (ρ := _ :: _), ↓we_and (ρ := _ :: _), ↓we_or (ρ := _ :: _), ↓we_not (ρ := _ :: _), ↓we_ite (ρ := _ :: _), ↓we_idx (ρ := _ :: _), ↓we_slc (ρ := _ :: _), ↓we_rev (ρ := _ :: _), ↓we_call (ρ := _ :: _), ↓we_isi (ρ := _ :: _), ↓we_bi (ρ := _ :: _), ↓we_comp (ρ := _ :: _), ↓wl_nil (ρ := _ :: _), ↓wl_cons (ρ := _ :: _), ↓wpp_nil (ρ := _ :: _), ↓wpp_cons (ρ := _ :: _), ↓wa_nil (ρ := _ :: _), ↓wa_cons (ρ := _ :: _), ↓wo_nil (ρ := _ :: _), ↓wo_som (ρ := _ :: _), ↓ws_rg1 (ρ := _ :: _), ↓ws_rg2 (ρ := _ :: _), ↓ws_sq (ρ := _ :: _), ↓wc_nil (ρ := _ :: _), ↓wc_som (ρ := _ :: _), ↓brB_t, ↓brB_f, ↓varP_dat, ↓varP_own, ↓argP_dat, ↓argP_fresh, ↓callP1, ↓callP2, ↓callP3, ↓callP4, ↓callP5, ↓seq_next, ↓seq_ret, ↓seq_brk, ↓seq_cont, ↓asgP_dat, ↓asgP_own, ↓asgP_fr, ↓retP_dat, ↓retP_fresh, ↓done_ret, ↓done_next, ↓onO_some, ↓fz_dat, ↓fz_fresh, ↓add_ii, ↓sub_ii, ↓mul_ii, ↓mod_ii, ↓div_ii, ↓pow_ii, ↓add_tt, ↓add_ll, ↓add_ss, ↓mul_ti, ↓neg_i, ↓lt_ii, ↓le_ii, ↓gt_ii, ↓ge_ii, ↓eq_ii, ↓ne_ii, ↓eq_bb, ↓ne_bb, ↓eq_ss, ↓ne_ss, ↓len_t, ↓len_l, ↓len_s, ↓int_i, ↓list_t, ↓list_l, ↓list_s, ↓tuple_t, ↓tuple_l, ↓max_ii, ↓min_ii, ↓all_l, ↓any_l, ↓cell0, ↓cell1, ↓cell2, ↓rng1, ↓rng2, ↓Lit.d, ↓List.getElem?_cons_zero, ↓List.getElem?_cons_succ, ↓List.set_cons_zero, ↓List.set_cons_succ, ↓List.length_cons, ↓List.length_nil, ↓List.length_set, ↓natAbs10, ↓tapeP_l, ↓after_next, ↓after_cont, ↓after_brk, ↓after_ret, ↓items_t, ↓items_l, ↓rev_l, ↓List.map_cons, ↓List.map_nil, ↓wipeR, ↓restR, ↓Option.getD_some, ↓Option.getD_none, ↓setTgs_nm, ↓compP_eq, Nat.reduceAdd, Nat.reduceLT, Nat.reduceLeDiff, Int.reduceLE, Int.reduceLT, Nat.reducePow, true_and, Int.reduceToNat, Int.reducePow, Int.reduceNeg]; exact ⟨_, rfl, at_mk⟩) ?_ ?_
    · rintro _ _ ⟨rfl, rfl⟩
      simp only [↓wi_nil (ρ := _ :: _), ↓wi_cons (ρ := _ :: _), ↓wi_asg (ρ := _ :: _), ↓wi_tape (ρ := _ :: _), ↓wi_asgT (ρ := _ :: _), ↓wi_setI (ρ := _ :: _), ↓wi_mt (ρ := _ :: _), ↓wi_ret (ρ := _ :: _), ↓wi_retN (ρ := _ :: _), ↓wi_iff (ρ := _ :: _), ↓wi_exp (ρ := _ :: _), ↓wi_pass (ρ := _ :: _), ↓wi_brk (ρ := _ :: _), ↓wi_cont (ρ := _ :: _), ↓we_lit (ρ := _ :: _), ↓we_gl (ρ := _ :: _), ↓we_var (ρ := _ :: _), ↓we_tup (ρ := _ :: _), ↓we_lst (ρ := _ :: _), ↓we_op (ρ := _ :: _), ↓we_neg (ρ := _ :: _), ↓we_cmp (ρ := _ :: _), ↓we_chain (ρ := _ :: _), ↓we_and (ρ := _ :: _), ↓we_or (ρ := _ :: _), ↓we_not (ρ := _ :: _), ↓we_ite (ρ := _ :: _), ↓we_idx (ρ := _ :: _), ↓we_slc (ρ := _ :: _), ↓we_rev (ρ := _ :: _), ↓we_call (ρ := _ :: _), ↓we_isi (ρ := _ :: _), ↓we_bi (ρ := _ :: _), ↓we_comp (ρ := _ :: _), ↓wl_nil (ρ := _ :: _), ↓wl_cons (ρ := _ :: _), ↓wpp_nil (ρ := _ :: _), ↓wpp_cons (ρ := _ :: _), ↓wa_nil (ρ := _ :: _), ↓wa_cons (ρ := _ :: _), ↓wo_nil (ρ := _ :: _), ↓wo_som (ρ := _ :: _), ↓ws_rg1 (ρ := _ :: _), ↓ws_rg2 (ρ := _ :: _), ↓ws_sq (ρ := _ :: _), ↓wc_nil (ρ := _ :: _), ↓wc_som (ρ := _ :: _), ↓brB_t, ↓brB_f, ↓varP_dat, ↓varP_own, ↓argP_dat, ↓argP_fresh, ↓callP1, ↓callP2, ↓callP3, ↓callP4, ↓callP5, ↓seq_next, ↓seq_ret, ↓seq_brk, ↓seq_cont, ↓asgP_dat, ↓asgP_own, ↓asgP_fr, ↓retP_dat, ↓retP_fresh, ↓done_ret, ↓done_next, ↓onO_some, ↓fz_dat, ↓fz_fresh, ↓add_ii, ↓sub_ii, ↓mul_ii, ↓mod_ii, ↓div_ii, ↓pow_ii, ↓add_tt, ↓add_ll, ↓add_ss, ↓mul_ti, ↓neg_i, ↓lt_ii, ↓le_ii, ↓gt_ii, ↓ge_ii, ↓eq_ii, ↓ne_ii, ↓eq_bb, ↓ne_bb, ↓eq_ss, ↓ne_ss, ↓len_t, ↓len_l, ↓len_s, ↓int_i, ↓list_t, ↓list_l, ↓list_s, ↓tuple_t, ↓tuple_l, ↓max_ii, ↓min_ii, ↓all_l, ↓any_l, ↓cell0, ↓cell1, ↓cell2, ↓rng1, ↓rng2, ↓Lit.d, ↓List.getElem?_cons_zero, ↓List.getElem?_cons_succ, ↓List.set_cons_zero, ↓List.set_cons_succ, ↓List.length_cons, ↓List.length_nil, ↓List.length_set, ↓natAbs10, ↓tapeP_l, ↓after_next, ↓after_cont, ↓after_brk, ↓after_ret, ↓items_t, ↓items_l, ↓rev_l, ↓List.map_cons, ↓List.map_nil, ↓wipeR, ↓restR, ↓Option.getD_some, ↓Option.getD_none, ↓setTgs_nm, ↓compP_eq, Nat.reduceAdd, Nat.reduceLT, Nat.reduceLeDiff, Int.reduceLE, Int.reduceLT, Nat.reducePow, true_and, Int.reduceToNat, Int.reducePow, Int.reduceNeg]
      refine ix_l rfl hget ?_
      refine ih i rfl _ _ _ (hl.2 _ (List.getElem_mem hc)) hS2 fun kd d' S3 hk hd' hS3 => ?_
      have ek : ∀ ρ, fz kd ρ = ρ := fun ρ => by rcases hk with rfl | rfl <;> rfl
      simp only [ek, ↓wi_nil (ρ := _ :: _), ↓wi_cons (ρ := _ :: _), ↓wi_asg (ρ := _ :: _), ↓wi_tape (ρ := _ :: _), ↓wi_asgT (ρ := _ :: _), ↓wi_setI (ρ := _ :: _), ↓wi_mt (ρ := _ :: _), ↓wi_ret (ρ := _ :: _), ↓wi_retN (ρ := _ :: _), ↓wi_iff (ρ := _ :: _), ↓wi_exp (ρ := _ :: _), ↓wi_pass (ρ := _ :: _), ↓wi_brk (ρ := _ :: _), ↓wi_cont (ρ := _ :: _), ↓we_lit (ρ := _ :: _), ↓we_gl (ρ := _ :: _), ↓we_var (ρ := _ :: _), ↓we_tup (ρ := _ :: _), ↓we_lst (ρ := _ :: _), ↓we_op (ρ := _ :: _), ↓we_neg (ρ := _ :: _), ↓we_cmp (ρ := _ :: _), ↓we_chain (ρ := _ :: _), ↓we_and (ρ := _ :: _), ↓we_or (ρ := _ :: _), ↓we_not (ρ := _ :: _), ↓we_ite (ρ := _ :: _), ↓we_idx (ρ := _ :: _), ↓we_slc (ρ := _ :: _), ↓we_rev (ρ := _ :: _), ↓we_call (ρ := _ :: _), ↓we_isi (ρ := _ :: _), ↓we_bi (ρ := _ :: _), ↓we_comp (ρ := _ :: _), ↓wl_nil (ρ := _ :: _), ↓wl_cons (ρ := _ :: _), ↓wpp_nil (ρ := _ :: _), ↓wpp_cons (ρ := _ :: _), ↓wa_nil (ρ := _ :: _), ↓wa_cons (ρ := _ :: _), ↓wo_nil (ρ := _ :: _), ↓wo_som (ρ := _ :: _), ↓ws_rg1 (ρ := _ :: _), ↓ws_rg2 (ρ := _ :: _), ↓ws_sq (ρ := _ :: _), ↓wc_nil (ρ := _ :: _), ↓wc_som (ρ := _ :: _), ↓brB_t, ↓brB_f, ↓varP_dat, ↓varP_own, ↓argP_dat, ↓argP_fresh, ↓callP1, ↓callP2, ↓callP3, ↓callP4, ↓callP5, ↓seq_next, ↓seq_ret, ↓seq_brk, ↓seq_cont, ↓asgP_dat, ↓asgP_own, ↓asgP_fr, ↓retP_dat, ↓retP_fresh, ↓done_ret, ↓done_next, ↓onO_some, ↓fz_dat, ↓fz_fresh, ↓add_ii, ↓sub_ii, ↓mul_ii, ↓mod_ii, ↓div_ii, ↓pow_ii, ↓add_tt, ↓add_ll, ↓add_ss, ↓mul_ti, ↓neg_i, ↓lt_ii, ↓le_ii, ↓gt_ii, ↓ge_ii, ↓eq_ii, ↓ne_ii, ↓eq_bb, ↓ne_bb, ↓eq_ss, ↓ne_ss, ↓len_t, ↓len_l, ↓len_s, ↓int_i, ↓list_t, ↓list_l, ↓list_s, ↓tuple_t, ↓tuple_l, ↓max_ii, ↓min_ii, ↓all_l, ↓any_l, ↓cell0, ↓cell1, ↓cell2, ↓rng1, ↓rng2, ↓Lit.d, ↓List.getElem?_cons_zero, ↓List.getElem?_cons_succ, ↓List.set_cons_zero, ↓List.set_cons_succ, ↓List.length_cons, ↓List.length_nil, ↓List.length_set, ↓natAbs10, ↓tapeP_l, ↓after_next, ↓after_cont, ↓after_brk, ↓after_ret, ↓items_t, ↓items_l, ↓rev_l, ↓List.map_cons, ↓List.map_nil, ↓wipeR, ↓restR, ↓Option.getD_some, ↓Option.getD_none, ↓setTgs_nm, ↓compP_eq, Nat.reduceAdd, Nat.reduceLT, Nat.reduceLeDiff, Int.reduceLE, Int.reduceLT, Nat.reducePow, true_and, Int.reduceToNat, Int.reducePow, Int.reduceNeg]
      refine set_own (d := .lst ds) (by simp only [List.getElem?_cons_succ, List.getElem?_cons_zero]) (d' := .lst (ds.set c d')) (by show (L2.ixN ds.length (c : Int)).map _ = _; rw [hcj]; rfl) ?_
      simp only [↓wi_nil (ρ := _ :: _), ↓wi_cons (ρ := _ :: _), ↓wi_asg (ρ := _ :: _), ↓wi_tape (ρ := _ :: _), ↓wi_asgT (ρ := _ :: _), ↓wi_setI (ρ := _ :: _), ↓wi_mt (ρ := _ :: _), ↓wi_ret (ρ := _ :: _), ↓wi_retN (ρ := _ :: _), ↓wi_iff (ρ := _ :: _), ↓wi_exp (ρ := _ :: _), ↓wi_pass (ρ := _ :: _), ↓wi_brk (ρ := _ :: _), ↓wi_cont (ρ := _ :: _), ↓we_lit (ρ := _ :: _), ↓we_gl (ρ := _ :: _), ↓we_var (ρ := _ :: _), ↓we_tup (ρ := _ :: _), ↓we_lst (ρ := _ :: _), ↓we_op (ρ := _ :: _), ↓we_neg (ρ := _ :: _), ↓we_cmp (ρ := _ :: _), ↓we_chain (ρ := _ :: _), ↓we_and (ρ := _ :: _), ↓we_or (ρ := _ :: _), ↓we_not (ρ := _ :: _), ↓we_ite (ρ := _ :: _), ↓we_idx (ρ := _ :: _), ↓we_slc (ρ := _ :: _), ↓we_rev (ρ := _ :: _), ↓we_call (ρ := _ :: _), ↓we_isi (ρ := _ :: _), ↓we_bi (ρ := _ :: _), ↓we_comp (ρ := _ :: _), ↓wl_nil (ρ := _ :: _), ↓wl_cons (ρ := _ :: _), ↓wpp_nil (ρ := _ :: _), ↓wpp_cons (ρ := _ :: _), ↓wa_nil (ρ := _ :: _), ↓wa_cons (ρ := _ :: _), ↓wo_nil (ρ := _ :: _), ↓wo_som (ρ := _ :: _), ↓ws_rg1 (ρ := _ :: _), ↓ws_rg2 (ρ := _ :: _), ↓ws_sq (ρ := _ :: _), ↓wc_nil (ρ := _ :: _), ↓wc_som (ρ := _ :: _), ↓brB_t, ↓brB_f, ↓varP_dat, ↓varP_own, ↓argP_dat, ↓argP_fresh, ↓callP1, ↓callP2, ↓callP3, ↓callP4, ↓callP5, ↓seq_next, ↓seq_ret, ↓seq_brk, ↓seq_cont, ↓asgP_dat, ↓asgP_own, ↓asgP_fr, ↓retP_dat, ↓retP_fresh, ↓done_ret, ↓done_next, ↓onO_some, ↓fz_dat, ↓fz_fresh, ↓add_ii, ↓sub_ii, ↓mul_ii, ↓mod_ii, ↓div_ii, ↓pow_ii, ↓add_tt, ↓add_ll, ↓add_ss, ↓mul_ti, ↓neg_i, ↓lt_ii, ↓le_ii, ↓gt_ii, ↓ge_ii, ↓eq_ii, ↓ne_ii, ↓eq_bb, ↓ne_bb, ↓eq_ss, ↓ne_ss, ↓len_t, ↓len_l, ↓len_s, ↓int_i, ↓list_t, ↓list_l, ↓list_s, ↓tuple_t, ↓tuple_l, ↓max_ii, ↓min_ii, ↓all_l, ↓any_l, ↓cell0, ↓cell1, ↓cell2, ↓rng1, ↓rng2, ↓Lit.d, ↓List.getElem?_cons_zero, ↓List.getElem?_cons_succ, ↓List.set_cons_zero, ↓List.set_cons_succ, ↓List.length_cons, ↓List.length_nil, ↓List.length_set, ↓natAbs10, ↓tapeP_l, ↓after_next, ↓after_cont, ↓after_brk, ↓after_ret, ↓items_t, ↓items_l, ↓rev_l, ↓List.map_cons, ↓List.map_nil, ↓wipeR, ↓restR, ↓Option.getD_some, ↓Option.getD_none, ↓setTgs_nm, ↓compP_eq, Nat.reduceAdd, Nat.reduceLT, Nat.reduceLeDiff, Int.reduceLE, Int.reduceLT, Nat.reducePow, true_and, Int.reduceToNat, Int.reducePow, Int.reduceNeg]
      refine hJ _ _ ⟨?_, fun x hx => ?_⟩ hS3
      · rw [List.length_set]; omega
      · rcases List.mem_or_eq_of_mem_set hx with hx | rfl
        · exact hfit x hx
        · exact hd'
    rintro _ _ ⟨rfl, rfl⟩
    rw [wi_cons]
    refine wp_mono (Q := Nxt J) ?_ (by
      rintro f ρ S ⟨rfl, h⟩
      rw [seq_next, wi_nil]
      exact h)
    refine wi_if (fun t ρ S => At [some (.dat (.cell 0)), some (.dat d), some (.dat (.int c)), some (.own (.lst ds)), some (.dat (.int e)), none] S2 ρ S) (by simp only [↓wi_nil (ρ := _ :: _), ↓wi_cons (ρ := _ :: _), ↓wi_asg (ρ := _ :: _), ↓wi_tape (ρ := _ :: _), ↓wi_asgT (ρ := _ :: _), ↓wi_setI (ρ := _ :: _), ↓wi_mt (ρ := _ :: _), ↓wi_ret (ρ := _ :: _), ↓wi_retN (ρ := _ :: _), ↓wi_iff (ρ := _ :: _), ↓wi_exp (ρ := _ :: _), ↓wi_pass (ρ := _ :: _), ↓wi_brk (ρ := _ :: _), ↓wi_cont (ρ := _ :: _), ↓we_lit (ρ := _ :: _), ↓we_gl (ρ := _ :: _), ↓we_var (ρ := _ :: _), ↓we_tup (ρ := _ :: _), ↓we_lst (ρ := _ :: _), ↓we_op (ρ := _ :: _), ↓we_neg (ρ := _ :: _), ↓we_cmp (ρ := _ :: _), ↓we_chain (ρ := _ :: _), ↓we_and (ρ := _ :: _), ↓we_or (ρ := _ :: _), ↓we_not (ρ := _ :: _), ↓we_ite (ρ := _ :: _), ↓we_idx (ρ := _ :: _), ↓we_slc (ρ := _ :: _), ↓we_rev (ρ := _ :: _), ↓we_call (ρ := _ :: _), ↓we_isi (ρ := _ :: _), ↓we_bi (ρ := _ :: _), ↓we_comp (ρ := _ :: _), ↓wl_nil (ρ := _ :: _), ↓wl_cons (ρ := _ :: _), ↓wpp_nil (ρ := _ :: _), ↓wpp_cons (ρ := _ :: _), ↓wa_nil (ρ := _ :: _), ↓wa_cons (ρ := _ :: _), ↓wo_nil (ρ := _ :: _), ↓wo_som (ρ := _ :: _), ↓ws_rg1 (ρ := _ :: _), ↓ws_rg2 (ρ := _ :: _), ↓ws_sq (ρ := _ :: _), ↓wc_nil (ρ := _ :: _), ↓wc_som (ρ := _ :: _), ↓brB_t, ↓brB_f, ↓varP_dat, ↓varP_own, ↓argP_dat, ↓argP_fresh, ↓callP1, ↓callP2, ↓callP3, ↓callP4, ↓callP5, ↓seq_next, ↓seq_ret, ↓seq_brk, ↓seq_cont, ↓asgP_dat, ↓asgP_own, ↓asgP_fr, ↓retP_dat, ↓retP_fresh, ↓done_ret, ↓done_next, ↓onO_some, ↓fz_dat, ↓fz_fresh, ↓add_ii, ↓sub_ii, ↓mul_ii, ↓mod_ii, ↓div_ii, ↓pow_ii, ↓add_tt, ↓add_ll, ↓add_ss, ↓mul_ti, ↓neg_i, ↓lt_ii, ↓le_ii, ↓gt_ii, ↓ge_ii, ↓eq_ii, ↓ne_ii, ↓eq_bb, ↓ne_bb, ↓eq_ss, ↓ne_ss, ↓len_t, ↓len_l, ↓len_s, ↓int_i, ↓list_t, ↓list_l, ↓list_s, ↓tuple_t, ↓tuple_l, ↓max_ii, ↓min_ii, ↓all_l, ↓any_l, ↓cell0, ↓cell1, ↓cell2, ↓rng1, ↓rng2, ↓Lit.d, ↓List.getElem?_cons_zero, ↓List.getElem?_cons_succ, ↓List.set_cons_zero, ↓List.set_cons_succ, ↓List.length_cons, ↓List.length_nil, ↓List.length_set, ↓natAbs10, ↓tapeP_l, ↓after_next, ↓after_cont, ↓after_brk, ↓after_ret, ↓items_t, ↓items_l, ↓rev_l, ↓List.map_cons, ↓List.map_nil, ↓wipeR, ↓restR, ↓Option.getD_some, ↓Option.getD_none, ↓setTgs_nm, ↓compP_eq, Nat.reduceAdd, Nat.reduceLT, Nat.reduceLeDiff, Int.reduceLE, Int.reduceLT, Nat.reducePow, true_and, Int.reduceToNat, Int.reducePow, Int.reduceNeg]; exact ⟨_, rfl, at_mk⟩) ?_ ?_
    · rintro _ _ ⟨rfl, rfl⟩
      have hh : mtP .popAt 3 [.int c] [some (.dat (.cell 0)), some (.dat d), some (.dat (.int c)), some (.own (.lst ds)), some (.dat (.int e)), none] S2 (Nxt J) := by
        refine mut_own (ds := ds) (by simp only [List.getElem?_cons_succ, List.getElem?_cons_zero]) (ds' := ds.eraseIdx c) ?_ ?_
        · exact mut_popAt hc (by simp only [sizeLine]; omega)
        · refine ⟨rfl, hJ _ _ ⟨?_, fun x hx => hfit x (List.mem_of_mem_eraseIdx hx)⟩ hS2⟩
          have := List.length_eraseIdx_le ds c
          omega
      simp only [↓wi_nil (ρ := _ :: _), ↓wi_cons (ρ := _ :: _), ↓wi_asg (ρ := _ :: _), ↓wi_tape (ρ := _ :: _), ↓wi_asgT (ρ := _ :: _), ↓wi_setI (ρ := _ :: _), ↓wi_mt (ρ := _ :: _), ↓wi_ret (ρ := _ :: _), ↓wi_retN (ρ := _ :: _), ↓wi_iff (ρ := _ :: _), ↓wi_exp (ρ := _ :: _), ↓wi_pass (ρ := _ :: _), ↓wi_brk (ρ := _ :: _), ↓wi_cont (ρ := _ :: _), ↓we_lit (ρ := _ :: _), ↓we_gl (ρ := _ :: _), ↓we_var (ρ := _ :: _), ↓we_tup (ρ := _ :: _), ↓we_lst (ρ := _ :: _), ↓we_op (ρ := _ :: _), ↓we_neg (ρ := _ :: _), ↓we_cmp (ρ := _ :: _), ↓we_chain (ρ := _ :: _), ↓we_and (ρ := _ :: _), ↓we_or (ρ := _ :: _), ↓we_not (ρ := _ :: _), ↓we_ite (ρ := _ :: _), ↓we_idx (ρ := _ :: _), ↓we_slc (ρ := _ :: _), ↓we_rev (ρ := _ :: _), ↓we_call (ρ := _ :: _), ↓we_isi (ρ := _ :: _), ↓we_bi (ρ := _ :: _), ↓we_comp (ρ := _ :: _), ↓wl_nil (ρ := _ :: _), ↓wl_cons (ρ := _ :: _), ↓wpp_nil (ρ := _ :: _), ↓wpp_cons (ρ := _ :: _), ↓wa_nil (ρ := _ :: _), ↓wa_cons (ρ := _ :: _), ↓wo_nil (ρ := _ :: _), ↓wo_som (ρ := _ :: _), ↓ws_rg1 (ρ := _ :: _), ↓ws_rg2 (ρ := _ :: _), ↓ws_sq (ρ := _ :: _), ↓wc_nil (ρ := _ :: _), ↓wc_som (ρ := _ :: _), ↓brB_t, ↓brB_f, ↓varP_dat, ↓varP_own, ↓argP_dat, ↓argP_fresh, ↓callP1, ↓callP2, ↓callP3, ↓callP4, ↓callP5, ↓seq_next, ↓seq_ret, ↓seq_brk, ↓seq_cont, ↓asgP_dat, ↓asgP_own, ↓asgP_fr, ↓retP_dat, ↓retP_fresh, ↓done_ret, ↓done_next, ↓onO_some, ↓fz_dat, ↓fz_fresh, ↓add_ii, ↓sub_ii, ↓mul_ii, ↓mod_ii, ↓div_ii, ↓pow_ii, ↓add_tt, ↓add_ll, ↓add_ss, ↓mul_ti, ↓neg_i, ↓lt_ii, ↓le_ii, ↓gt_ii, ↓ge_ii, ↓eq_ii, ↓ne_ii, ↓eq_bb, ↓ne_bb, ↓eq_ss, ↓ne_ss, ↓len_t, ↓len_l, ↓len_s, ↓int_i, ↓list_t, ↓list_l, ↓list_s, ↓tuple_t, ↓tuple_l, ↓max_ii, ↓min_ii, ↓all_l, ↓any_l, ↓cell0, ↓cell1, ↓cell2, ↓rng1, ↓rng2, ↓Lit.d, ↓List.getElem?_cons_zero, ↓List.getElem?_cons_succ, ↓List.set_cons_zero, ↓List.set_cons_succ, ↓List.length_cons, ↓List.length_nil, ↓List.length_set, ↓natAbs10, ↓tapeP_l, ↓after_next, ↓after_cont, ↓after_brk, ↓after_ret, ↓items_t, ↓items_l, ↓rev_l, ↓List.map_cons, ↓List.map_nil, ↓wipeR, ↓restR, ↓Option.getD_some, ↓Option.getD_none, ↓setTgs_nm, ↓compP_eq, Nat.reduceAdd, Nat.reduceLT, Nat.reduceLeDiff, Int.reduceLE, Int.reduceLT, Nat.reducePow, true_and, Int.reduceToNat, Int.reducePow, Int.reduceNeg]
      refine mtP_mono hh ?_
      rintro f ρ S ⟨rfl, h⟩
      rw [seq_next, wi_nil]
      exact ⟨rfl, h⟩
    rintro _ _ ⟨rfl, rfl⟩
    have ins : ∀ (v : D) (S0 : Store), Fit (N + 10) (i + 3) v → TS S0 → mtP .insert 3 [.int c, v] [some (.dat (.cell 0)), some (.dat d), some (.dat (.int c)), some (.own (.lst ds)), some (.dat (.int e)), none] S0 (Nxt J) := by
      intro v S0 hv hS0
      refine mut_own (ds := ds) (by simp only [List.getElem?_cons_succ, List.getElem?_cons_zero]) (ds' := ds.take c ++ [v] ++ ds.drop c) ?_ ?_
      · exact mut_insert (by omega) (by simp only [sizeLine]; omega)
      · refine ⟨rfl, hJ _ _ ⟨?_, fun x hx => ?_⟩ hS0⟩
        · rw [List.length_append, List.length_append, List.length_take, List.length_drop]
          simp only [List.length_cons, List.length_nil]
          omega
        · rcases List.mem_append.mp hx with hx | hx
          · rcases List.mem_append.mp hx with hx | hx
            · exact hfit x (List.mem_of_mem_take hx)
            · rw [List.mem_singleton] at hx; subst hx; exact hv
          · exact hfit x (List.mem_of_mem_drop hx)
    rw [wi_cons]
    refine wp_mono (Q := Nxt J) ?_ (by
      rintro f ρ S ⟨rfl, h⟩
      rw [seq_next, wi_nil]
      exact ⟨rfl, h⟩)
    refine wi_if (fun t ρ S => At [some (.dat (.cell 0)), some (.dat d), some (.dat (.int c)), some (.own (.lst ds)), some (.dat (.int e)), none] S2 ρ S) (by simp only [↓wi_nil (ρ := _ :: _), ↓wi_cons (ρ := _ :: _), ↓wi_asg (ρ := _ :: _), ↓wi_tape (ρ := _ :: _), ↓wi_asgT (ρ := _ :: _), ↓wi_setI (ρ := _ :: _), ↓wi_mt (ρ := _ :: _), ↓wi_ret (ρ := _ :: _), ↓wi_retN (ρ := _ :: _), ↓wi_iff (ρ := _ :: _), ↓wi_exp (ρ := _ :: _), ↓wi_pass (ρ := _ :: _), ↓wi_brk (ρ := _ :: _), ↓wi_cont (ρ := _ :: _), ↓we_lit (ρ := _ :: _), ↓we_gl (ρ := _ :: _), ↓we_var (ρ := _ :: _), ↓we_tup (ρ := _ :: _), ↓we_lst (ρ := _ :: _), ↓we_op (ρ := _ :: _), ↓we_neg (ρ := _ :: _), ↓we_cmp (ρ := _ :: _), ↓we_chain (ρ := _ :: _), ↓we_and (ρ := _ :: _), ↓we_or (ρ := _ :: _), ↓we_not (ρ := _ :: _), ↓we_ite (ρ := _ :: _), ↓we_idx (ρ := _ :: _), ↓we_slc (ρ := _ :: _), ↓we_rev (ρ := _ :: _), ↓we_call (ρ := _ :: _), ↓we_isi (ρ := _ :: _), ↓we_bi (ρ := _ :: _), ↓we_comp (ρ := _ :: _), ↓wl_nil (ρ := _ :: _), ↓wl_cons (ρ := _ :: _), ↓wpp_nil (ρ := _ :: _), ↓wpp_cons (ρ := _ :: _), ↓wa_nil (ρ := _ :: _), ↓wa_cons (ρ := _ :: _), ↓wo_nil (ρ := _ :: _), ↓wo_som (ρ := _ :: _), ↓ws_rg1 (ρ := _ :: _), ↓ws_rg2 (ρ := _ :: _), ↓ws_sq (ρ := _ :: _), ↓wc_nil (ρ := _ :: _), ↓wc_som (ρ := _ :: _), ↓brB_t, ↓brB_f, ↓varP_dat, ↓varP_own, ↓argP_dat, ↓argP_fresh, ↓callP1, ↓callP2, ↓callP3, ↓callP4, ↓callP5, ↓seq_next, ↓seq_ret, ↓seq_brk, ↓seq_cont, ↓asgP_dat, ↓asgP_own, ↓asgP_fr, ↓retP_dat, ↓retP_fresh, ↓done_ret, ↓done_next, ↓onO_some, ↓fz_dat, ↓fz_fresh, ↓add_ii, ↓sub_ii, ↓mul_ii, ↓mod_ii, ↓div_ii, ↓pow_ii, ↓add_tt, ↓add_ll, ↓add_ss, ↓mul_ti, ↓neg_i, ↓lt_ii, ↓le_ii, ↓gt_ii, ↓ge_ii, ↓eq_ii, ↓ne_ii, ↓eq_bb, ↓ne_bb, ↓eq_ss, ↓ne_ss, ↓len_t, ↓len_l, ↓len_s, ↓int_i, ↓list_t, ↓list_l, ↓list_s, ↓tuple_t, ↓tuple_l, ↓max_ii, ↓min_ii, ↓all_l, ↓any_l, ↓cell0, ↓cell1, ↓cell2, ↓rng1, ↓rng2, ↓Lit.d, ↓List.getElem?_cons_zero, ↓List.getElem?_cons_succ, ↓List.set_cons_zero, ↓List.set_cons_succ, ↓List.length_cons, ↓List.length_nil, ↓List.length_set, ↓natAbs10, ↓tapeP_l, ↓after_next, ↓after_cont, ↓after_brk, ↓after_ret, ↓items_t, ↓items_l, ↓rev_l, ↓List.map_cons, ↓List.map_nil, ↓wipeR, ↓restR, ↓Option.getD_some, ↓Option.getD_none, ↓setTgs_nm, ↓compP_eq, Nat.reduceAdd, Nat.reduceLT, Nat.reduceLeDiff, Int.reduceLE, Int.reduceLT, Nat.reducePow, true_and, Int.reduceToNat, Int.reducePow, Int.reduceNeg]; exact ⟨_, rfl, at_mk⟩) ?_ ?_
    · rintro _ _ ⟨rfl, rfl⟩
      simp only [↓wi_nil (ρ := _ :: _), ↓wi_cons (ρ := _ :: _), ↓wi_asg (ρ := _ :: _), ↓wi_tape (ρ := _ :: _), ↓wi_asgT (ρ := _ :: _), ↓wi_setI (ρ := _ :: _), ↓wi_mt (ρ := _ :: _), ↓wi_ret (ρ := _ :: _), ↓wi_retN (ρ := _ :: _), ↓wi_iff (ρ := _ :: _), ↓wi_exp (ρ := _ :: _), ↓wi_pass (ρ := _ :: _), ↓wi_brk (ρ := _ :: _), ↓wi_cont (ρ := _ :: _), ↓we_lit (ρ := _ :: _), ↓we_gl (ρ := _ :: _), ↓we_var (ρ := _ :: _), ↓we_tup (ρ := _ :: _), ↓we_lst (ρ := _ :: _), ↓we_op (ρ := _ :: _), ↓we_neg (ρ := _ :: _), ↓we_cmp (ρ := _ :: _), ↓we_chain (ρ := _ :: _), ↓we_and (ρ := _ :: _), ↓we_or (ρ := _ :: _), ↓we_not (ρ := _ :: _), ↓we_ite (ρ := _ :: _), ↓we_idx (ρ := _ :: _), ↓we_slc (ρ := _ :: _), ↓we_rev (ρ := _ :: _), ↓we_call (ρ := _ :: _), ↓we_isi (ρ := _ :: _), ↓we_bi (ρ := _ :: _), ↓we_comp (ρ := _ :: _), ↓wl_nil (ρ := _ :: _), ↓wl_cons (ρ := _ :: _), ↓wpp_nil (ρ := _ :: _), ↓wpp_cons (ρ := _ :: _), ↓wa_nil (ρ := _ :: _), ↓wa_cons (ρ := _ :: _), ↓wo_nil (ρ := _ :: _), ↓wo_som (ρ := _ :: _), ↓ws_rg1 (ρ := _ :: _), ↓ws_rg2 (ρ := _ :: _), ↓ws_sq (ρ := _ :: _), ↓wc_nil (ρ := _ :: _), ↓wc_som (ρ := _ :: _), ↓brB_t, ↓brB_f, ↓varP_dat, ↓varP_own, ↓argP_dat, ↓argP_fresh, ↓callP1, ↓callP2, ↓callP3, ↓callP4, ↓callP5, ↓seq_next, ↓seq_ret, ↓seq_brk, ↓seq_cont, ↓asgP_dat, ↓asgP_own, ↓asgP_fr, ↓retP_dat, ↓retP_fresh, ↓done_ret, ↓done_next, ↓onO_some, ↓fz_dat, ↓fz_fresh, ↓add_ii, ↓sub_ii, ↓mul_ii, ↓mod_ii, ↓div_ii, ↓pow_ii, ↓add_tt, ↓add_ll, ↓add_ss, ↓mul_ti, ↓neg_i, ↓lt_ii, ↓le_ii, ↓gt_ii, ↓ge_ii, ↓eq_ii, ↓ne_ii, ↓eq_bb, ↓ne_bb, ↓eq_ss, ↓ne_ss, ↓len_t, ↓len_l, ↓len_s, ↓int_i, ↓list_t, ↓list_l, ↓list_s, ↓tuple_t, ↓tuple_l, ↓max_ii, ↓min_ii, ↓all_l, ↓any_l, ↓cell0, ↓cell1, ↓cell2, ↓rng1, ↓rng2, ↓Lit.d, ↓List.getElem?_cons_zero, ↓List.getElem?_cons_succ, ↓List.set_cons_zero, ↓List.set_cons_succ, ↓List.length_cons, ↓List.length_nil, ↓List.length_set, ↓natAbs10, ↓tapeP_l, ↓after_next, ↓after_cont, ↓after_brk, ↓after_ret, ↓items_t, ↓items_l, ↓rev_l, ↓List.map_cons, ↓List.map_nil, ↓wipeR, ↓restR, ↓Option.getD_some, ↓Option.getD_none, ↓setTgs_nm, ↓compP_eq, Nat.reduceAdd, Nat.reduceLT, Nat.reduceLeDiff, Int.reduceLE, Int.reduceLT, Nat.reducePow, true_and, Int.reduceToNat, Int.reducePow, Int.reduceNeg]
      refine hd _ _ _ (by omega) (by omega) hS2 fun r S3 g0 g1 hS3 => ?_
      obtain ⟨j, a, e1, e2, e3⟩ := getElem?_ix (xs := ds) g0 g1
      refine ix_l e1 e2 ?_
      simp only [↓wi_nil (ρ := _ :: _), ↓wi_cons (ρ := _ :: _), ↓wi_asg (ρ := _ :: _), ↓wi_tape (ρ := _ :: _), ↓wi_asgT (ρ := _ :: _), ↓wi_setI (ρ := _ :: _), ↓wi_mt (ρ := _ :: _), ↓wi_ret (ρ := _ :: _), ↓wi_retN (ρ := _ :: _), ↓wi_iff (ρ := _ :: _), ↓wi_exp (ρ := _ :: _), ↓wi_pass (ρ := _ :: _), ↓wi_brk (ρ := _ :: _), ↓wi_cont (ρ := _ :: _), ↓we_lit (ρ := _ :: _), ↓we_gl (ρ := _ :: _), ↓we_var (ρ := _ :: _), ↓we_tup (ρ := _ :: _), ↓we_lst (ρ := _ :: _), ↓we_op (ρ := _ :: _), ↓we_neg (ρ := _ :: _), ↓we_cmp (ρ := _ :: _), ↓we_chain (ρ := _ :: _), ↓we_and (ρ := _ :: _), ↓we_or (ρ := _ :: _), ↓we_not (ρ := _ :: _), ↓we_ite (ρ := _ :: _), ↓we_idx (ρ := _ :: _), ↓we_slc (ρ := _ :: _), ↓we_rev (ρ := _ :: _), ↓we_call (ρ := _ :: _), ↓we_isi (ρ := _ :: _), ↓we_bi (ρ := _ :: _), ↓we_comp (ρ := _ :: _), ↓wl_nil (ρ := _ :: _), ↓wl_cons (ρ := _ :: _), ↓wpp_nil (ρ := _ :: _), ↓wpp_cons (ρ := _ :: _), ↓wa_nil (ρ := _ :: _), ↓wa_cons (ρ := _ :: _), ↓wo_nil (ρ := _ :: _), ↓wo_som (ρ := _ :: _), ↓ws_rg1 (ρ := _ :: _), ↓ws_rg2 (ρ := _ :: _), ↓ws_sq (ρ := _ :: _), ↓wc_nil (ρ := _ :: _), ↓wc_som (ρ := _ :: _), ↓brB_t, ↓brB_f, ↓varP_dat, ↓varP_own, ↓argP_dat, ↓argP_fresh, ↓callP1, ↓callP2, ↓callP3, ↓callP4, ↓callP5, ↓seq_next, ↓seq_ret, ↓seq_brk, ↓seq_cont, ↓asgP_dat, ↓asgP_own, ↓asgP_fr, ↓retP_dat, ↓retP_fresh, ↓done_ret, ↓done_next, ↓onO_some, ↓fz_dat, ↓fz_fresh, ↓add_ii, ↓sub_ii, ↓mul_ii, ↓mod_ii, ↓div_ii, ↓pow_ii, ↓add_tt, ↓add_ll, ↓add_ss, ↓mul_ti, ↓neg_i, ↓lt_ii, ↓le_ii, ↓gt_ii, ↓ge_ii, ↓eq_ii, ↓ne_ii, ↓eq_bb, ↓ne_bb, ↓eq_ss, ↓ne_ss, ↓len_t, ↓len_l, ↓len_s, ↓int_i, ↓list_t, ↓list_l, ↓list_s, ↓tuple_t, ↓tuple_l, ↓max_ii, ↓min_ii, ↓all_l, ↓any_l, ↓cell0, ↓cell1, ↓cell2, ↓rng1, ↓rng2, ↓Lit.d, ↓List.getElem?_cons_zero, ↓List.getElem?_cons_succ, ↓List.set_cons_zero, ↓List.set_cons_succ, ↓List.length_cons, ↓List.length_nil, ↓List.length_set, ↓natAbs10, ↓tapeP_l, ↓after_next, ↓after_cont, ↓after_brk, ↓after_ret, ↓items_t, ↓items_l, ↓rev_l, ↓List.map_cons, ↓List.map_nil, ↓wipeR, ↓restR, ↓Option.getD_some, ↓Option.getD_none, ↓setTgs_nm, ↓compP_eq, Nat.reduceAdd, Nat.reduceLT, Nat.reduceLeDiff, Int.reduceLE, Int.reduceLT, Nat.reducePow, true_and, Int.reduceToNat, Int.reducePow, Int.reduceNeg]
      refine mtP_mono (ins a S3 (hfit a e3) hS3) ?_
      rintro f ρ S ⟨rfl, h⟩
      rw [seq_next, wi_nil]
      exact ⟨rfl, h⟩
    rintro _ _ ⟨rfl, rfl⟩
    rw [wi_cons]
    refine wp_mono (Q := Nxt J) ?_ (by
      rintro f ρ S ⟨rfl, h⟩
      rw [seq_next, wi_nil]
      exact ⟨rfl, h⟩)
    refine wi_if (fun t ρ S => At [some (.dat (.cell 0)), some (.dat d), some (.dat (.int c)), some (.own (.lst ds)), some (.dat (.int e)), none] S2 ρ S) (by simp only [↓wi_nil (ρ := _ :: _), ↓wi_cons (ρ := _ :: _), ↓wi_asg (ρ := _ :: _), ↓wi_tape (ρ := _ :: _), ↓wi_asgT (ρ := _ :: _), ↓wi_setI (ρ := _ :: _), ↓wi_mt (ρ := _ :: _), ↓wi_ret (ρ := _ :: _), ↓wi_retN (ρ := _ :: _), ↓wi_iff (ρ := _ :: _), ↓wi_exp (ρ := _ :: _), ↓wi_pass (ρ := _ :: _), ↓wi_brk (ρ := _ :: _), ↓wi_cont (ρ := _ :: _), ↓we_lit (ρ := _ :: _), ↓we_gl (ρ := _ :: _), ↓we_var (ρ := _ :: _), ↓we_tup (ρ := _ :: _), ↓we_lst (ρ := _ :: _), ↓we_op (ρ := _ :: _), ↓we_neg (ρ := _ :: _), ↓we_cmp (ρ := _ :: _), ↓we_chain (ρ := _ :: _), ↓we_and (ρ := _ :: _), ↓we_or (ρ := _ :: _), ↓we_not (ρ := _ :: _), ↓we_ite (ρ := _ :: _), ↓we_idx (ρ := _ :: _), ↓we_slc (ρ := _ :: _), ↓we_rev (ρ := _ :: _), ↓we_call (ρ := _ :: _), ↓we_isi (ρ := _ :: _), ↓we_bi (ρ := _ :: _), ↓we_comp (ρ := _ :: _), ↓wl_nil (ρ := _ :: _), ↓wl_cons (ρ := _ :: _), ↓wpp_nil (ρ := _ :: _), ↓wpp_cons (ρ := _ :: _), ↓wa_nil (ρ := _ :: _), ↓wa_cons (ρ := _ :: _), ↓wo_nil (ρ := _ :: _), ↓wo_som (ρ := _ :: _), ↓ws_rg1 (ρ := _ :: _), ↓ws_rg2 (ρ := _ :: _), ↓ws_sq (ρ := _ :: _), ↓wc_nil (ρ := _ :: _), ↓wc_som (ρ := _ :: _), ↓brB_t, ↓brB_f, ↓varP_dat, ↓varP_own, ↓argP_dat, ↓argP_fresh, ↓callP1, ↓callP2, ↓callP3, ↓callP4, ↓callP5, ↓seq_next, ↓seq_ret, ↓seq_brk, ↓seq_cont, ↓asgP_dat, ↓asgP_own, ↓asgP_fr, ↓retP_dat, ↓retP_fresh, ↓done_ret, ↓done_next, ↓onO_some, ↓fz_dat, ↓fz_fresh, ↓add_ii, ↓sub_ii, ↓mul_ii, ↓mod_ii, ↓div_ii, ↓pow_ii, ↓add_tt, ↓add_ll, ↓add_ss, ↓mul_ti, ↓neg_i, ↓lt_ii, ↓le_ii, ↓gt_ii, ↓ge_ii, ↓eq_ii, ↓ne_ii, ↓eq_bb, ↓ne_bb, ↓eq_ss, ↓ne_ss, ↓len_t, ↓len_l, ↓len_s, ↓int_i, ↓list_t, ↓list_l, ↓list_s, ↓tuple_t, ↓tuple_l, ↓max_ii, ↓min_ii, ↓all_l, ↓any_l, ↓cell0, ↓cell1, ↓cell2, ↓rng1, ↓rng2, ↓Lit.d, ↓List.getElem?_cons_zero, ↓List.getElem?_cons_succ, ↓List.set_cons_zero, ↓List.set_cons_succ, ↓List.length_cons, ↓List.length_nil, ↓List.length_set, ↓natAbs10, ↓tapeP_l, ↓after_next, ↓after_cont, ↓after_brk, ↓after_ret, ↓items_t, ↓items_l, ↓rev_l, ↓List.map_cons, ↓List.map_nil, ↓wipeR, ↓restR, ↓Option.getD_some, ↓Option.getD_none, ↓setTgs_nm, ↓compP_eq, Nat.reduceAdd, Nat.reduceLT, Nat.reduceLeDiff, Int.reduceLE, Int.reduceLT, Nat.reducePow, true_and, Int.reduceToNat, Int.reducePow, Int.reduceNeg]; exact ⟨_, rfl, at_mk⟩) ?_ ?_
    · rintro _ _ ⟨rfl, rfl⟩
      simp only [↓wi_nil (ρ := _ :: _), ↓wi_cons (ρ := _ :: _), ↓wi_asg (ρ := _ :: _), ↓wi_tape (ρ := _ :: _), ↓wi_asgT (ρ := _ :: _), ↓wi_setI (ρ := _ :: _), ↓wi_mt (ρ := _ :: _), ↓wi_ret (ρ := _ :: _), ↓wi_retN (ρ := _ :: _), ↓wi_iff (ρ := _ :: _), ↓wi_exp (ρ := _ :: _), ↓wi_pass (ρ := _ :: _), ↓wi_brk (ρ := _ :: _), ↓wi_cont (ρ := _ :: _), ↓we_lit (ρ := _ :: _), ↓we_gl (ρ := _ :: _), ↓we_var (ρ := _ :: _), ↓we_tup (ρ := _ :: _), ↓we_lst (ρ := _ :: _), ↓we_op (ρ := _ :: _), ↓we_neg (ρ := _ :: _), ↓we_cmp (ρ := _ :: _), ↓we_chain (ρ := _ :: _), ↓we_and (ρ := _ :: _), ↓we_or (ρ := _ :: _), ↓we_not (ρ := _ :: _), ↓we_ite (ρ := _ :: _), ↓we_idx (ρ := _ :: _), ↓we_slc (ρ := _ :: _), ↓we_rev (ρ := _ :: _), ↓we_call (ρ := _ :: _), ↓we_isi (ρ := _ :: _), ↓we_bi (ρ := _ :: _), ↓we_comp (ρ := _ :: _), ↓wl_nil (ρ := _ :: _), ↓wl_cons (ρ := _ :: _), ↓wpp_nil (ρ := _ :: _), ↓wpp_cons (ρ := _ :: _), ↓wa_nil (ρ := _ :: _), ↓wa_cons (ρ := _ :: _), ↓wo_nil (ρ := _ :: _), ↓wo_som (ρ := _ :: _), ↓ws_rg1 (ρ := _ :: _), ↓ws_rg2 (ρ := _ :: _), ↓ws_sq (ρ := _ :: _), ↓wc_nil (ρ := _ :: _), ↓wc_som (ρ := _ :: _), ↓brB_t, ↓brB_f, ↓varP_dat, ↓varP_own, ↓argP_dat, ↓argP_fresh, ↓callP1, ↓callP2, ↓callP3, ↓callP4, ↓callP5, ↓seq_next, ↓seq_ret, ↓seq_brk, ↓seq_cont, ↓asgP_dat, ↓asgP_own, ↓asgP_fr, ↓retP_dat, ↓retP_fresh, ↓done_ret, ↓done_next, ↓onO_some, ↓fz_dat, ↓fz_fresh, ↓add_ii, ↓sub_ii, ↓mul_ii, ↓mod_ii, ↓div_ii, ↓pow_ii, ↓add_tt, ↓add_ll, ↓add_ss, ↓mul_ti, ↓neg_i, ↓lt_ii, ↓le_ii, ↓gt_ii, ↓ge_ii, ↓eq_ii, ↓ne_ii, ↓eq_bb, ↓ne_bb, ↓eq_ss, ↓ne_ss, ↓len_t, ↓len_l, ↓len_s, ↓int_i, ↓list_t, ↓list_l, ↓list_s, ↓tuple_t, ↓tuple_l, ↓max_ii, ↓min_ii, ↓all_l, ↓any_l, ↓cell0, ↓cell1, ↓cell2, ↓rng1, ↓rng2, ↓Lit.d, ↓List.getElem?_cons_zero, ↓List.getElem?_cons_succ, ↓List.set_cons_zero, ↓List.set_cons_succ, ↓List.length_cons, ↓List.length_nil, ↓List.length_set, ↓natAbs10, ↓tapeP_l, ↓after_next, ↓after_cont, ↓after_brk, ↓after_ret, ↓items_t, ↓items_l, ↓rev_l, ↓List.map_cons, ↓List.map_nil, ↓wipeR, ↓restR, ↓Option.getD_some, ↓Option.getD_none, ↓setTgs_nm, ↓compP_eq, Nat.reduceAdd, Nat.reduceLT, Nat.reduceLeDiff, Int.reduceLE, Int.reduceLT, Nat.reducePow, true_and, Int.reduceToNat, Int.reducePow, Int.reduceNeg]
      refine ⟨rfl, hJ _ _ ⟨?_, fun x hx => hfit x (List.mem_reverse.mp hx)⟩ hS2⟩
      rw [List.length_reverse]; omega
    rintro _ _ ⟨rfl, rfl⟩
    simp only [↓wi_nil (ρ := _ :: _), ↓wi_cons (ρ := _ :: _), ↓wi_asg (ρ := _ :: _), ↓wi_tape (ρ := _ :: _), ↓wi_asgT (ρ := _ :: _), ↓wi_setI (ρ := _ :: _), ↓wi_mt (ρ := _ :: _), ↓wi_ret (ρ := _ :: _), ↓wi_retN (ρ := _ :: _), ↓wi_iff (ρ := _ :: _), ↓wi_exp (ρ := _ :: _), ↓wi_pass (ρ := _ :: _), ↓wi_brk (ρ := _ :: _), ↓wi_cont (ρ := _ :: _), ↓we_lit (ρ := _ :: _), ↓we_gl (ρ := _ :: _), ↓we_var (ρ := _ :: _), ↓we_tup (ρ := _ :: _), ↓we_lst (ρ := _ :: _), ↓we_op (ρ := _ :: _), ↓we_neg (ρ := _ :: _), ↓we_cmp (ρ := _ :: _), ↓we_chain (ρ := _ :: _), ↓we_and (ρ := _ :: _), ↓we_or (ρ := _ :: _), ↓we_not (ρ := _ :: _), ↓we_ite (ρ := _ :: _), ↓we_idx (ρ := _ :: _), ↓we_slc (ρ := _ :: _), ↓we_rev (ρ := _ :: _), ↓we_call (ρ := _ :: _), ↓we_isi (ρ := _ :: _), ↓we_bi (ρ := _ :: _), ↓we_comp (ρ := _ :: _), ↓wl_nil (ρ := _ :: _), ↓wl_cons (ρ := _ :: _), ↓wpp_nil (ρ := _ :: _), ↓wpp_cons (ρ := _ :: _), ↓wa_nil (ρ := _ :: _), ↓wa_cons (ρ := _ :: _), ↓wo_nil (ρ := _ :: _), ↓wo_som (ρ := _ :: _), ↓ws_rg1 (ρ := _ :: _), ↓ws_rg2 (ρ := _ :: _), ↓ws_sq (ρ := _ :: _), ↓wc_nil (ρ := _ :: _), ↓wc_som (ρ := _ :: _), ↓brB_t, ↓brB_f, ↓varP_dat, ↓varP_own, ↓argP_dat, ↓argP_fresh, ↓callP1, ↓callP2, ↓callP3, ↓callP4, ↓callP5, ↓seq_next, ↓seq_ret, ↓seq_brk, ↓seq_cont, ↓asgP_dat, ↓asgP_own, ↓asgP_fr, ↓retP_dat, ↓retP_fresh, ↓done_ret, ↓done_next, ↓onO_some, ↓fz_dat, ↓fz_fresh, ↓add_ii, ↓sub_ii, ↓mul_ii, ↓mod_ii, ↓div_ii, ↓pow_ii, ↓add_tt, ↓add_ll, ↓add_ss, ↓mul_ti, ↓neg_i, ↓lt_ii, ↓le_ii, ↓gt_ii, ↓ge_ii, ↓eq_ii, ↓ne_ii, ↓eq_bb, ↓ne_bb, ↓eq_ss, ↓ne_ss, ↓len_t, ↓len_l, ↓len_s, ↓int_i, ↓list_t, ↓list_l, ↓list_s, ↓tuple_t, ↓tuple_l, ↓max_ii, ↓min_ii, ↓all_l, ↓any_l, ↓cell0, ↓cell1, ↓cell2, ↓rng1, ↓rng2, ↓Lit.d, ↓List.getElem?_cons_zero, ↓List.getElem?_cons_succ, ↓List.set_cons_zero, ↓List.set_cons_succ, ↓List.length_cons, ↓List.length_nil, ↓List.length_set, ↓natAbs10, ↓tapeP_l, ↓after_next, ↓after_cont, ↓after_brk, ↓after_ret, ↓items_t, ↓items_l, ↓rev_l, ↓List.map_cons, ↓List.map_nil, ↓wipeR, ↓restR, ↓Option.getD_some, ↓Option.getD_none, ↓setTgs_nm, ↓compP_eq, Nat.reduceAdd, Nat.reduceLT, Nat.reduceLeDiff, Int.reduceLE, Int.reduceLT, Nat.reducePow, true_and, Int.reduceToNat, Int.reducePow, Int.reduceNeg]
    refine ha1 _ _ hS2 fun v S3 hv hS3 => ?_
    simp only [↓wi_nil (ρ := _ :: _), ↓wi_cons (ρ := _ :: _), ↓wi_asg (ρ := _ :: _), ↓wi_tape (ρ := _ :: _), ↓wi_asgT (ρ := _ :: _), ↓wi_setI (ρ := _ :: _), ↓wi_mt (ρ := _ :: _), ↓wi_ret (ρ := _ :: _), ↓wi_retN (ρ := _ :: _), ↓wi_iff (ρ := _ :: _), ↓wi_exp (ρ := _ :: _), ↓wi_pass (ρ := _ :: _), ↓wi_brk (ρ := _ :: _), ↓wi_cont (ρ := _ :: _), ↓we_lit (ρ := _ :: _), ↓we_gl (ρ := _ :: _), ↓we_var (ρ := _ :: _), ↓we_tup (ρ := _ :: _), ↓we_lst (ρ := _ :: _), ↓we_op (ρ := _ :: _), ↓we_neg (ρ := _ :: _), ↓we_cmp (ρ := _ :: _), ↓we_chain (ρ := _ :: _), ↓we_and (ρ := _ :: _), ↓we_or (ρ := _ :: _), ↓we_not (ρ := _ :: _), ↓we_ite (ρ := _ :: _), ↓we_idx (ρ := _ :: _), ↓we_slc (ρ := _ :: _), ↓we_rev (ρ := _ :: _), ↓we_call (ρ := _ :: _), ↓we_isi (ρ := _ :: _), ↓we_bi (ρ := _ :: _), ↓we_comp (ρ := _ :: _), ↓wl_nil (ρ := _ :: _), ↓wl_cons (ρ := _ :: _), ↓wpp_nil (ρ := _ :: _), ↓wpp_cons (ρ := _ :: _), ↓wa_nil (ρ := _ :: _), ↓wa_cons (ρ := _ :: _), ↓wo_nil (ρ := _ :: _), ↓wo_som (ρ := _ :: _), ↓ws_rg1 (ρ := _ :: _), ↓ws_rg2 (ρ := _ :: _), ↓ws_sq (ρ := _ :: _), ↓wc_nil (ρ := _ :: _), ↓wc_som (ρ := _ :: _), ↓brB_t, ↓brB_f, ↓varP_dat, ↓varP_own, ↓argP_dat, ↓argP_fresh, ↓callP1, ↓callP2, ↓callP3, ↓callP4, ↓callP5, ↓seq_next, ↓seq_ret, ↓seq_brk, ↓seq_cont, ↓asgP_dat, ↓asgP_own, ↓asgP_fr, ↓retP_dat, ↓retP_fresh, ↓done_ret, ↓done_next, ↓onO_some, ↓fz_dat, ↓fz_fresh, ↓add_ii, ↓sub_ii, ↓mul_ii, ↓mod_ii, ↓div_ii, ↓pow_ii, ↓add_tt, ↓add_ll, ↓add_ss, ↓mul_ti, ↓neg_i, ↓lt_ii, ↓le_ii, ↓gt_ii, ↓ge_ii, ↓eq_ii, ↓ne_ii, ↓eq_bb, ↓ne_bb, ↓eq_ss, ↓ne_ss, ↓len_t, ↓len_l, ↓len_s, ↓int_i, ↓list_t, ↓list_l, ↓list_s, ↓tuple_t, ↓tuple_l, ↓max_ii, ↓min_ii, ↓all_l, ↓any_l, ↓cell0, ↓cell1, ↓cell2, ↓rng1, ↓rng2, ↓Lit.d, ↓List.getElem?_cons_zero, ↓List.getElem?_cons_succ, ↓List.set_cons_zero, ↓List.set_cons_succ, ↓List.length_cons, ↓List.length_nil, ↓List.length_set, ↓natAbs10, ↓tapeP_l, ↓after_next, ↓after_cont, ↓after_brk, ↓after_ret, ↓items_t, ↓items_l, ↓rev_l, ↓List.map_cons, ↓List.map_nil, ↓wipeR, ↓restR, ↓Option.getD_some, ↓Option.getD_none, ↓setTgs_nm, ↓compP_eq, Nat.reduceAdd, Nat.reduceLT, Nat.reduceLeDiff, Int.reduceLE, Int.reduceLT, Nat.reducePow, true_and, Int.reduceToNat, Int.reducePow, Int.reduceNeg]
    refine mtP_mono (ins v S3 (Fit.mono (by omega) (by omega) hv) hS3) ?_
    rintro f ρ S ⟨rfl, h⟩
    rw [seq_next, wi_nil]
    exact ⟨rfl, h⟩
  intro ρ' S' hh
  obtain ⟨es, S3, hes, hS3, rfl, rfl⟩ := hJ' _ _ hh
  rcases hds with rfl | rfl
  · simp only [↓wi_nil (ρ := _ :: _), ↓wi_cons (ρ := _ :: _), ↓wi_asg (ρ := _ :: _), ↓wi_tape (ρ := _ :: _), ↓wi_asgT (ρ := _ :: _), ↓wi_setI (ρ := _ :: _), ↓wi_mt (ρ := _ :: _), ↓wi_ret (ρ := _ :: _), ↓wi_retN (ρ := _ :: _), ↓wi_iff (ρ := _ :: _), ↓wi_exp (ρ := _ :: _), ↓wi_pass (ρ := _ :: _), ↓wi_brk (ρ := _ :: _), ↓wi_cont (ρ := _ :: _), ↓we_lit (ρ := _ :: _), ↓we_gl (ρ := _ :: _), ↓we_var (ρ := _ :: _), ↓we_tup (ρ := _ :: _), ↓we_lst (ρ := _ :: _), ↓we_op (ρ := _ :: _), ↓we_neg (ρ := _ :: _), ↓we_cmp (ρ := _ :: _), ↓we_chain (ρ := _ :: _), ↓we_and (ρ := _ :: _), ↓we_or (ρ := _ :: _), ↓we_not (ρ := _ :: _), ↓we_ite (ρ := _ :: _), ↓we_idx (ρ := _ :: _), ↓we_slc (ρ := _ :: _), ↓we_rev (ρ := _ :: _), ↓we_call (ρ := _ :: _), ↓we_isi (ρ := _ :: _), ↓we_bi (ρ := _ :: _), ↓we_comp (ρ := _ :: _), ↓wl_nil (ρ := _ :: _), ↓wl_cons (ρ := _ :: _), ↓wpp_nil (ρ := _ :: _), ↓wpp_cons (ρ := _ :: _), ↓wa_nil (ρ := _ :: _), ↓wa_cons (ρ := _ :: _), ↓wo_nil (ρ := _ :: _), ↓wo_som (ρ := _ :: _), ↓ws_rg1 (ρ := _ :: _), ↓ws_rg2 (ρ := _ :: _), ↓ws_sq (ρ := _ :: _), ↓wc_nil (ρ := _ :: _), ↓wc_som (ρ := _ :: _), ↓brB_t, ↓brB_f, ↓varP_dat, ↓varP_own, ↓argP_dat, ↓argP_fresh, ↓callP1, ↓callP2, ↓callP3, ↓callP4, ↓callP5, ↓seq_next, ↓seq_ret, ↓seq_brk, ↓seq_cont, ↓asgP_dat, ↓asgP_own, ↓asgP_fr, ↓retP_dat, ↓retP_fresh, ↓done_ret, ↓done_next, ↓onO_some, ↓fz_dat, ↓fz_fresh, ↓add_ii, ↓sub_ii, ↓mul_ii, ↓mod_ii, ↓div_ii, ↓pow_ii, ↓add_tt, ↓add_ll, ↓add_ss, ↓mul_ti, ↓neg_i, ↓lt_ii, ↓le_ii, ↓gt_ii, ↓ge_ii, ↓eq_ii, ↓ne_ii, ↓eq_bb, ↓ne_bb, ↓eq_ss, ↓ne_ss, ↓len_t, ↓len_l, ↓len_s, ↓int_i, ↓list_t, ↓list_l, ↓list_s, ↓tuple_t, ↓tuple_l, ↓max_ii, ↓min_ii, ↓all_l, ↓any_l, ↓cell0, ↓cell1, ↓cell2, ↓rng1, ↓rng2, ↓Lit.d, ↓List.getElem?_cons_zero, ↓List.getElem?_cons_succ, ↓List.set_cons_zero, ↓List.set_cons_succ, ↓List.length_cons, ↓List.length_nil, ↓List.length_set, ↓natAbs10, ↓tapeP_l, ↓after_next, ↓after_cont, ↓after_brk, ↓after_ret, ↓items_t, ↓items_l, ↓rev_l, ↓List.map_cons, ↓List.map_nil, ↓wipeR, ↓restR, ↓Option.getD_some, ↓Option.getD_none, ↓setTgs_nm, ↓compP_eq, Nat.reduceAdd, Nat.reduceLT, Nat.reduceLeDiff, Int.reduceLE, Int.reduceLT, Nat.reducePow, true_and, Int.reduceToNat, Int.reducePow, Int.reduceNeg, List.any_cons, List.any_nil, isTy, Bool.or_false]
    exact hP _ _ _ (.inl rfl) hes hS3
  · simp only [↓wi_nil (ρ := _ :: _), ↓wi_cons (ρ := _ :: _), ↓wi_asg (ρ := _ :: _), ↓wi_tape (ρ := _ :: _), ↓wi_asgT (ρ := _ :: _), ↓wi_setI (ρ := _ :: _), ↓wi_mt (ρ := _ :: _), ↓wi_ret (ρ := _ :: _), ↓wi_retN (ρ := _ :: _), ↓wi_iff (ρ := _ :: _), ↓wi_exp (ρ := _ :: _), ↓wi_pass (ρ := _ :: _), ↓wi_brk (ρ := _ :: _), ↓wi_cont (ρ := _ :: _), ↓we_lit (ρ := _ :: _), ↓we_gl (ρ := _ :: _), ↓we_var (ρ := _ :: _), ↓we_tup (ρ := _ :: _), ↓we_lst (ρ := _ :: _), ↓we_op (ρ := _ :: _), ↓we_neg (ρ := _ :: _), ↓we_cmp (ρ := _ :: _), ↓we_chain (ρ := _ :: _), ↓we_and (ρ := _ :: _), ↓we_or (ρ := _ :: _), ↓we_not (ρ := _ :: _), ↓we_ite (ρ := _ :: _), ↓we_idx (ρ := _ :: _), ↓we_slc (ρ := _ :: _), ↓we_rev (ρ := _ :: _), ↓we_call (ρ := _ :: _), ↓we_isi (ρ := _ :: _), ↓we_bi (ρ := _ :: _), ↓we_comp (ρ := _ :: _), ↓wl_nil (ρ := _ :: _), ↓wl_cons (ρ := _ :: _), ↓wpp_nil (ρ := _ :: _), ↓wpp_cons (ρ := _ :: _), ↓wa_nil (ρ := _ :: _), ↓wa_cons (ρ := _ :: _), ↓wo_nil (ρ := _ :: _), ↓wo_som (ρ := _ :: _), ↓ws_rg1 (ρ := _ :: _), ↓ws_rg2 (ρ := _ :: _), ↓ws_sq (ρ := _ :: _), ↓wc_nil (ρ := _ :: _), ↓wc_som (ρ := _ :: _), ↓brB_t, ↓brB_f, ↓varP_dat, ↓varP_own, ↓argP_dat, ↓argP_fresh, ↓callP1, ↓callP2, ↓callP3, ↓callP4, ↓callP5, ↓seq_next, ↓seq_ret, ↓seq_brk, ↓seq_cont, ↓asgP_dat, ↓asgP_own, ↓asgP_fr, ↓retP_dat, ↓retP_fresh, ↓done_ret, ↓done_next, ↓onO_some, ↓fz_dat, ↓fz_fresh, ↓add_ii, ↓sub_ii, ↓mul_ii, ↓mod_ii, ↓div_ii, ↓pow_ii, ↓add_tt, ↓add_ll, ↓add_ss, ↓mul_ti, ↓neg_i, ↓lt_ii, ↓le_ii, ↓gt_ii, ↓ge_ii, ↓eq_ii, ↓ne_ii, ↓eq_bb, ↓ne_bb, ↓eq_ss, ↓ne_ss, ↓len_t, ↓len_l, ↓len_s, ↓int_i, ↓list_t, ↓list_l, ↓list_s, ↓tuple_t, ↓tuple_l, ↓max_ii, ↓min_ii, ↓all_l, ↓any_l, ↓cell0, ↓cell1, ↓cell2, ↓rng1, ↓rng2, ↓Lit.d, ↓List.getElem?_cons_zero, ↓List.getElem?_cons_succ, ↓List.set_cons_zero, ↓List.set_cons_succ, ↓List.length_cons, ↓List.length_nil, ↓List.length_set, ↓natAbs10, ↓tapeP_l, ↓after_next, ↓after_cont, ↓after_brk, ↓after_ret, ↓items_t, ↓items_l, ↓rev_l, ↓List.map_cons, ↓List.map_nil, ↓wipeR, ↓restR, ↓Option.getD_some, ↓Option.getD_none, ↓setTgs_nm, ↓compP_eq, Nat.reduceAdd, Nat.reduceLT, Nat.reduceLeDiff, Int.reduceLE, Int.reduceLT, Nat.reducePow, true_and, Int.reduceToNat, Int.reducePow, Int.reduceNeg, List.any_cons, List.any_nil, isTy, Bool.or_false]
    rw [retP_bor (e := .lst es) rfl]
    exact hP _ _ _ (.inr rfl) hes hS3
theorem spoilt_ok {N : Nat} (hN : N ≤ 100000) : ∀ (k n : Nat), Spoilt (fam fds (k + n + 5)) N k
  | 0, n => by
    rw [show 0 + n + 5 = n + 4 + 1 from by omega]
    exact spoilt_step hN (draw_ok _) (whole_ok _) (by have := any_ok 1 (n + 1); rwa [show 1 + (n + 1) + 2 = n + 4 from by omega] at this) (by have := any_ok 2 n; rwa [show 2 + n + 2 = n + 4 from by omega] at this) fun i h => nomatch h
  | k + 1, n => by
    rw [show k + 1 + n + 5 = k + n + 5 + 1 from by omega]
    exact spoilt_step hN (draw_ok _) (whole_ok _) (by have := any_ok 1 (k + n + 2); rwa [show 1 + (k + n + 2) + 2 = k + n + 5 from by omega] at this) (by have := any_ok 2 (k + n + 1); rwa [show 2 + (k + n + 1) + 2 = k + n + 5 from by omega] at this) fun i h => by cases h; exact spoilt_ok hN k n
def isBoundD : D → Bool
  | .tup [.int x, .int y, .int _] => (decide (0 ≤ x) && decide (x ≤ 6)) && (decide (0 ≤ y) && decide (y ≤ 6)) && !(x == y)
  | _ => false
def isBoundsD : D → Bool
  | .tup ds => decide (ds.length ≤ 60) && ds.all isBoundD
  | _ => false
theorem isInt_ok (n : Nat) : ∀ (d : D) (S : Store) (P : KD × Store → Prop), P ((.dat, .bl (isW d)), S) → onO (fam fds (n + 1) ix_is_integer [d] S) P := by
  intro d S P hP
  refine run_of (fd := f_is_integer) rfl rfl rfl ?_
  show wp (evI (fam fds n) b_is_integer) [some (.dat d)] _ _
  unfold b_is_integer
  cases d <;> (simp only [↓wi_nil (ρ := _ :: _), ↓wi_cons (ρ := _ :: _), ↓wi_asg (ρ := _ :: _), ↓wi_tape (ρ := _ :: _), ↓wi_asgT (ρ := _ :: _), ↓wi_setI (ρ := _ :: _), ↓wi_mt (ρ := _ :: _), ↓wi_ret (ρ := _ :: _), ↓wi_retN (ρ := _ :: _), ↓wi_iff (ρ := _ :: _), ↓wi_exp (ρ := _ :: _), ↓wi_pass (ρ := _ :: _), ↓wi_brk (ρ := _ :: _), ↓wi_cont (ρ := _ :: _), ↓we_lit (ρ := _ :: _), ↓we_gl (ρ := _ :: _), ↓we_var (ρ := _ :: _), ↓we_tup (ρ := _ :: _), ↓we_lst (ρ := _ :: _), ↓we_op (ρ := _ :: _), ↓we_neg (ρ := _ :: _), ↓we_cmp (ρ := _ :: _), ↓we_chain (ρ := _ :: _), ↓we_and (ρ := _ :: _), ↓we_or (ρ := _ :: _), ↓we_not (ρ := _ :: _), ↓we_ite (ρ := _ :: _), ↓we_idx (ρ := _ :: _), ↓we_slc (ρ := _ :: _), ↓we_rev (ρ := _ :: _), ↓we_call (ρ := _ :: _), ↓we_isi (ρ := _ :: _), ↓we_bi (ρ := _ :: _), ↓we_comp (ρ := _ :: _), ↓wl_nil (ρ := _ :: _), ↓wl_cons (ρ := _ :: _), ↓wpp_nil (ρ := _ :: _), ↓wpp_cons (ρ := _ :: _), ↓wa_nil (ρ := _ :: _), ↓wa_cons (ρ := _ :: _), ↓wo_nil (ρ := _ :: _), ↓wo_som (ρ := _ :: _), ↓ws_rg1 (ρ := _ :: _), ↓ws_rg2 (ρ := _ :: _), ↓ws_sq (ρ := _ :: _), ↓wc_nil (ρ := _ :: _), ↓wc_som (ρ := _ :: _), ↓brB_t, ↓brB_f, ↓varP_dat, ↓varP_own, ↓argP_dat, ↓argP_fresh, ↓callP1, ↓callP2, ↓callP3, ↓callP4, ↓callP5, ↓seq_next, ↓seq_ret, ↓seq_brk, ↓seq_cont, ↓asgP_dat, ↓asgP_own, ↓asgP_fr, ↓retP_dat, ↓retP_fresh, ↓done_ret, ↓done_next, ↓onO_some, ↓fz_dat, ↓fz_fresh, ↓add_ii, ↓sub_ii, ↓mul_ii, ↓mod_ii, ↓div_ii, ↓pow_ii, ↓add_tt, ↓add_ll, ↓add_ss, ↓mul_ti, ↓neg_i, ↓lt_ii, ↓le_ii, ↓gt_ii, ↓ge_ii, ↓eq_ii, ↓ne_ii, ↓eq_bb, ↓ne_bb, ↓eq_ss, ↓ne_ss, ↓len_t, ↓len_l, ↓len_s, ↓int_i, ↓list_t, ↓list_l, ↓list_s, ↓tuple_t, ↓tuple_l, ↓max_ii, ↓min_ii, ↓all_l, ↓any_l, ↓cell0, ↓cell1, ↓cell2, ↓rng1, ↓rng2, ↓Lit.d, ↓List.getElem?_cons_zero, ↓List.getElem?_cons_succ, ↓List.set_cons_zero, ↓List.set_cons_succ, ↓List.length_cons, ↓List.length_nil, ↓List.length_set, ↓natAbs10, ↓tapeP_l, ↓after_next, ↓after_cont, ↓after_brk, ↓after_ret, ↓items_t, ↓items_l, ↓rev_l, ↓List.map_cons, ↓List.map_nil, ↓wipeR, ↓restR, ↓Option.getD_some, ↓Option.getD_none, ↓setTgs_nm, ↓compP_eq, Nat.reduceAdd, Nat.reduceLT, Nat.reduceLeDiff, Int.reduceLE, Int.reduceLT, Nat.reducePow, true_and, Int.reduceToNat, Int.reducePow, Int.reduceNeg, List.any_cons, List.any_nil, isTy, Bool.or_false]; exact hP)
theorem three {ds : List D} (h : ds.length = 3) : ∃ a b c, ds = [a, b, c] := by
  match ds, h with
  | [a, b, c], _ => exact ⟨a, b, c, rfl⟩
theorem isBound_ok (n : Nat) : ∀ (d : D) (S : Store) (P : KD × Store → Prop), P ((.dat, .bl (isBoundD d)), S) → onO (fam fds (n + 2) ix_is_bound [d] S) P := by
  intro d S P hP
  refine run_of (fd := f_is_bound) rfl rfl rfl ?_
  show wp (evI (fam fds (n + 1)) b_is_bound) [some (.dat d), none] _ _
  unfold b_is_bound
  by_cases hd : ∃ a b c, d = .tup [a, b, c]
  · obtain ⟨a, b, c, rfl⟩ := hd
    refine wi_cut (fun ρ S' => (isW a && isW b && isW c) = true ∧ At [some (.dat (.tup [a, b, c])), none] S ρ S') ?_ ?_
    · refine wi_if (fun t ρ S' => t = !(isW a && isW b && isW c) ∧ At [some (.dat (.tup [a, b, c])), none] S ρ S') ?_ ?_ ?_
      · simp only [↓wi_nil (ρ := _ :: _), ↓wi_cons (ρ := _ :: _), ↓wi_asg (ρ := _ :: _), ↓wi_tape (ρ := _ :: _), ↓wi_asgT (ρ := _ :: _), ↓wi_setI (ρ := _ :: _), ↓wi_mt (ρ := _ :: _), ↓wi_ret (ρ := _ :: _), ↓wi_retN (ρ := _ :: _), ↓wi_iff (ρ := _ :: _), ↓wi_exp (ρ := _ :: _), ↓wi_pass (ρ := _ :: _), ↓wi_brk (ρ := _ :: _), ↓wi_cont (ρ := _ :: _), ↓we_lit (ρ := _ :: _), ↓we_gl (ρ := _ :: _), ↓we_var (ρ := _ :: _), ↓we_tup (ρ := _ :: _), ↓we_lst (ρ := _ :: _), ↓we_op (ρ := _ :: _), ↓we_neg (ρ := _ :: _), ↓we_cmp (ρ := _ :: _), ↓we_chain (ρ := _ :: _), ↓we_and (ρ := _ :: _), ↓we_or (ρ := _ :: _), ↓we_not (ρ := _ :: _), ↓we_ite (ρ := _ :: _), ↓we_idx (ρ := _ :: _), ↓we_slc (ρ := _ :: _), ↓we_rev (ρ := _ :: _), ↓we_call (ρ := _ :: _), ↓we_isi (ρ := _ :: _), ↓we_bi (ρ := _ :: _), ↓we_comp (ρ := _ :: _), ↓wl_nil (ρ := _ :: _), ↓wl_cons (ρ := _ :: _), ↓wpp_nil (ρ := _ :: _), ↓wpp_cons (ρ := _ :: _), ↓wa_nil (ρ := _ :: _), ↓wa_cons (ρ := _ :: _), ↓wo_nil (ρ := _ :: _), ↓wo_som (ρ := _ :: _), ↓ws_rg1 (ρ := _ :: _), ↓ws_rg2 (ρ := _ :: _), ↓ws_sq (ρ := _ :: _), ↓wc_nil (ρ := _ :: _), ↓wc_som (ρ := _ :: _), ↓brB_t, ↓brB_f, ↓varP_dat, ↓varP_own, ↓argP_dat, ↓argP_fresh, ↓callP1, ↓callP2, ↓callP3, ↓callP4, ↓callP5, ↓seq_next, ↓seq_ret, ↓seq_brk, ↓seq_cont, ↓asgP_dat, ↓asgP_own, ↓asgP_fr, ↓retP_dat, ↓retP_fresh, ↓done_ret, ↓done_next, ↓onO_some, ↓fz_dat, ↓fz_fresh, ↓add_ii, ↓sub_ii, ↓mul_ii, ↓mod_ii, ↓div_ii, ↓pow_ii, ↓add_tt, ↓add_ll, ↓add_ss, ↓mul_ti, ↓neg_i, ↓lt_ii, ↓le_ii, ↓gt_ii, ↓ge_ii, ↓eq_ii, ↓ne_ii, ↓eq_bb, ↓ne_bb, ↓eq_ss, ↓ne_ss, ↓len_t, ↓len_l, ↓len_s, ↓int_i, ↓list_t, ↓list_l, ↓list_s, ↓tuple_t, ↓tuple_l, ↓max_ii, ↓min_ii, ↓all_l, ↓any_l, ↓cell0, ↓cell1, ↓cell2, ↓rng1, ↓rng2, ↓Lit.d, ↓List.getElem?_cons_zero, ↓List.getElem?_cons_succ, ↓List.set_cons_zero, ↓List.set_cons_succ, ↓List.length_cons, ↓List.length_nil, ↓List.length_set, ↓natAbs10, ↓tapeP_l, ↓after_next, ↓after_cont, ↓after_brk, ↓after_ret, ↓items_t, ↓items_l, ↓rev_l, ↓List.map_cons, ↓List.map_nil, ↓wipeR, ↓restR, ↓Option.getD_some, ↓Option.getD_none, ↓setTgs_nm, ↓compP_eq, Nat.reduceAdd, Nat.reduceLT, Nat.reduceLeDiff, Int.reduceLE, Int.reduceLT, Nat.reducePow, true_and, Int.reduceToNat, Int.reducePow, Int.reduceNeg, List.any_cons, List.any_nil, isTy, Bool.or_false]
        refine brB_of (fun h => ?_) (fun h => ?_)
        · exact absurd h (by decide)
        refine ⟨rfl, by show 3 < sizeLine; decide, ?_⟩
        refine comp_pure (g := fun d => some (.bl (isW d))) (fun d _ => ?_) ?_
        · rw [wp_turn]
          simp only [↓wi_nil (ρ := _ :: _), ↓wi_cons (ρ := _ :: _), ↓wi_asg (ρ := _ :: _), ↓wi_tape (ρ := _ :: _), ↓wi_asgT (ρ := _ :: _), ↓wi_setI (ρ := _ :: _), ↓wi_mt (ρ := _ :: _), ↓wi_ret (ρ := _ :: _), ↓wi_retN (ρ := _ :: _), ↓wi_iff (ρ := _ :: _), ↓wi_exp (ρ := _ :: _), ↓wi_pass (ρ := _ :: _), ↓wi_brk (ρ := _ :: _), ↓wi_cont (ρ := _ :: _), ↓we_lit (ρ := _ :: _), ↓we_gl (ρ := _ :: _), ↓we_var (ρ := _ :: _), ↓we_tup (ρ := _ :: _), ↓we_lst (ρ := _ :: _), ↓we_op (ρ := _ :: _), ↓we_neg (ρ := _ :: _), ↓we_cmp (ρ := _ :: _), ↓we_chain (ρ := _ :: _), ↓we_and (ρ := _ :: _), ↓we_or (ρ := _ :: _), ↓we_not (ρ := _ :: _), ↓we_ite (ρ := _ :: _), ↓we_idx (ρ := _ :: _), ↓we_slc (ρ := _ :: _), ↓we_rev (ρ := _ :: _), ↓we_call (ρ := _ :: _), ↓we_isi (ρ := _ :: _), ↓we_bi (ρ := _ :: _), ↓we_comp (ρ := _ :: _), ↓wl_nil (ρ := _ :: _), ↓wl_cons (ρ := _ :: _), ↓wpp_nil (ρ := _ :: _), ↓wpp_cons (ρ := _ :: _), ↓wa_nil (ρ := _ :: _), ↓wa_cons (ρ := _ :: _), ↓wo_nil (ρ := _ :: _), ↓wo_som (ρ := _ :: _), ↓ws_rg1 (ρ := _ :: _), ↓ws_rg2 (ρ := _ :: _), ↓ws_sq (ρ := _ :: _), ↓wc_nil (ρ := _ :: _), ↓wc_som (ρ := _ :: _), ↓brB_t, ↓brB_f, ↓varP_dat, ↓varP_own, ↓argP_dat, ↓argP_fresh, ↓callP1, ↓callP2, ↓callP3, ↓callP4, ↓callP5, ↓seq_next, ↓seq_ret, ↓seq_brk, ↓seq_cont, ↓asgP_dat, ↓asgP_own, ↓asgP_fr, ↓retP_dat, ↓retP_fresh, ↓done_ret, ↓done_next, ↓onO_some, ↓fz_dat, ↓fz_fresh, ↓add_ii, ↓sub_ii, ↓mul_ii, ↓mod_ii, ↓div_ii, ↓pow_ii, ↓add_tt, ↓add_ll, ↓add_ss, ↓mul_ti, ↓neg_i, ↓lt_ii, ↓le_ii, ↓gt_ii, ↓ge_ii, ↓eq_ii, ↓ne_ii, ↓eq_bb, ↓ne_bb, ↓eq_ss, ↓ne_ss, ↓len_t, ↓len_l, ↓len_s, ↓int_i, ↓list_t, ↓list_l, ↓list_s, ↓tuple_t, ↓tuple_l, ↓max_ii, ↓min_ii, ↓all_l, ↓any_l, ↓cell0, ↓cell1, ↓cell2, ↓rng1, ↓rng2, ↓Lit.d, ↓List.getElem?_cons_zero, ↓List.getElem?_cons_succ, ↓List.set_cons_zero, ↓List.set_cons_succ, ↓List.length_cons, ↓List.length_nil, ↓List.length_set, ↓natAbs10, ↓tapeP_l, ↓after_next, ↓after_cont, ↓after_brk, ↓after_ret, ↓items_t, ↓items_l, ↓rev_l, ↓List.map_cons, ↓List.map_nil, ↓wipeR, ↓restR, ↓Option.getD_some, ↓Option.getD_none, ↓setTgs_nm, ↓compP_eq, Nat.reduceAdd, Nat.reduceLT, Nat.reduceLeDiff, Int.reduceLE, Int.reduceLT, Nat.reducePow, true_and, Int.reduceToNat, Int.reducePow, Int.reduceNeg]
          refine isInt_ok n _ _ _ ?_
          exact ⟨rfl, rfl, rfl⟩
        · simp only [↓wi_nil (ρ := _ :: _), ↓wi_cons (ρ := _ :: _), ↓wi_asg (ρ := _ :: _), ↓wi_tape (ρ := _ :: _), ↓wi_asgT (ρ := _ :: _), ↓wi_setI (ρ := _ :: _), ↓wi_mt (ρ := _ :: _), ↓wi_ret (ρ := _ :: _), ↓wi_retN (ρ := _ :: _), ↓wi_iff (ρ := _ :: _), ↓wi_exp (ρ := _ :: _), ↓wi_pass (ρ := _ :: _), ↓wi_brk (ρ := _ :: _), ↓wi_cont (ρ := _ :: _), ↓we_lit (ρ := _ :: _), ↓we_gl (ρ := _ :: _), ↓we_var (ρ := _ :: _), ↓we_tup (ρ := _ :: _), ↓we_lst (ρ := _ :: _), ↓we_op (ρ := _ :: _), ↓we_neg (ρ := _ :: _), ↓we_cmp (ρ := _ :: _), ↓we_chain (ρ := _ :: _), ↓we_and (ρ := _ :: _), ↓we_or (ρ := _ :: _), ↓we_not (ρ := _ :: _), ↓we_ite (ρ := _ :: _), ↓we_idx (ρ := _ :: _), ↓we_slc (ρ := _ :: _), ↓we_rev (ρ := _ :: _), ↓we_call (ρ := _ :: _), ↓we_isi (ρ := _ :: _), ↓we_bi (ρ := _ :: _), ↓we_comp (ρ := _ :: _), ↓wl_nil (ρ := _ :: _), ↓wl_cons (ρ := _ :: _), ↓wpp_nil (ρ := _ :: _), ↓wpp_cons (ρ := _ :: _), ↓wa_nil (ρ := _ :: _), ↓wa_cons (ρ := _ :: _), ↓wo_nil (ρ := _ :: _), ↓wo_som (ρ := _ :: _), ↓ws_rg1 (ρ := _ :: _), ↓ws_rg2 (ρ := _ :: _), ↓ws_sq (ρ := _ :: _), ↓wc_nil (ρ := _ :: _), ↓wc_som (ρ := _ :: _), ↓brB_t, ↓brB_f, ↓varP_dat, ↓varP_own, ↓argP_dat, ↓argP_fresh, ↓callP1, ↓callP2, ↓callP3, ↓callP4, ↓callP5, ↓seq_next, ↓seq_ret, ↓seq_brk, ↓seq_cont, ↓asgP_dat, ↓asgP_own, ↓asgP_fr, ↓retP_dat, ↓retP_fresh, ↓done_ret, ↓done_next, ↓onO_some, ↓fz_dat, ↓fz_fresh, ↓add_ii, ↓sub_ii, ↓mul_ii, ↓mod_ii, ↓div_ii, ↓pow_ii, ↓add_tt, ↓add_ll, ↓add_ss, ↓mul_ti, ↓neg_i, ↓lt_ii, ↓le_ii, ↓gt_ii, ↓ge_ii, ↓eq_ii, ↓ne_ii, ↓eq_bb, ↓ne_bb, ↓eq_ss, ↓ne_ss, ↓len_t, ↓len_l, ↓len_s, ↓int_i, ↓list_t, ↓list_l, ↓list_s, ↓tuple_t, ↓tuple_l, ↓max_ii, ↓min_ii, ↓all_l, ↓any_l, ↓cell0, ↓cell1, ↓cell2, ↓rng1, ↓rng2, ↓Lit.d, ↓List.getElem?_cons_zero, ↓List.getElem?_cons_succ, ↓List.set_cons_zero, ↓List.set_cons_succ, ↓List.length_cons, ↓List.length_nil, ↓List.length_set, ↓natAbs10, ↓tapeP_l, ↓after_next, ↓after_cont, ↓after_brk, ↓after_ret, ↓items_t, ↓items_l, ↓rev_l, ↓List.map_cons, ↓List.map_nil, ↓wipeR, ↓restR, ↓Option.getD_some, ↓Option.getD_none, ↓setTgs_nm, ↓compP_eq, Nat.reduceAdd, Nat.reduceLT, Nat.reduceLeDiff, Int.reduceLE, Int.reduceLT, Nat.reducePow, true_and, Int.reduceToNat, Int.reducePow, Int.reduceNeg, List.filterMap_cons, List.filterMap_nil, List.all_cons, List.all_nil, D.isB, D.toB, Bool.and_true]
          cases isW a <;> cases isW b <;> cases isW c <;> exact ⟨_, rfl, rfl, at_mk⟩
      · rintro _ _ ⟨h, rfl, rfl⟩
        simp only [↓wi_nil (ρ := _ :: _), ↓wi_cons (ρ := _ :: _), ↓wi_asg (ρ := _ :: _), ↓wi_tape (ρ := _ :: _), ↓wi_asgT (ρ := _ :: _), ↓wi_setI (ρ := _ :: _), ↓wi_mt (ρ := _ :: _), ↓wi_ret (ρ := _ :: _), ↓wi_retN (ρ := _ :: _), ↓wi_iff (ρ := _ :: _), ↓wi_exp (ρ := _ :: _), ↓wi_pass (ρ := _ :: _), ↓wi_brk (ρ := _ :: _), ↓wi_cont (ρ := _ :: _), ↓we_lit (ρ := _ :: _), ↓we_gl (ρ := _ :: _), ↓we_var (ρ := _ :: _), ↓we_tup (ρ := _ :: _), ↓we_lst (ρ := _ :: _), ↓we_op (ρ := _ :: _), ↓we_neg (ρ := _ :: _), ↓we_cmp (ρ := _ :: _), ↓we_chain (ρ := _ :: _), ↓we_and (ρ := _ :: _), ↓we_or (ρ := _ :: _), ↓we_not (ρ := _ :: _), ↓we_ite (ρ := _ :: _), ↓we_idx (ρ := _ :: _), ↓we_slc (ρ := _ :: _), ↓we_rev (ρ := _ :: _), ↓we_call (ρ := _ :: _), ↓we_isi (ρ := _ :: _), ↓we_bi (ρ := _ :: _), ↓we_comp (ρ := _ :: _), ↓wl_nil (ρ := _ :: _), ↓wl_cons (ρ := _ :: _), ↓wpp_nil (ρ := _ :: _), ↓wpp_cons (ρ := _ :: _), ↓wa_nil (ρ := _ :: _), ↓wa_cons (ρ := _ :: _), ↓wo_nil (ρ := _ :: _), ↓wo_som (ρ := _ :: _), ↓ws_rg1 (ρ := _ :: _), ↓ws_rg2 (ρ := _ :: _), ↓ws_sq (ρ := _ :: _), ↓wc_nil (ρ := _ :: _), ↓wc_som (ρ := _ :: _), ↓brB_t, ↓brB_f, ↓varP_dat, ↓varP_own, ↓argP_dat, ↓argP_fresh, ↓callP1, ↓callP2, ↓callP3, ↓callP4, ↓callP5, ↓seq_next, ↓seq_ret, ↓seq_brk, ↓seq_cont, ↓asgP_dat, ↓asgP_own, ↓asgP_fr, ↓retP_dat, ↓retP_fresh, ↓done_ret, ↓done_next, ↓onO_some, ↓fz_dat, ↓fz_fresh, ↓add_ii, ↓sub_ii, ↓mul_ii, ↓mod_ii, ↓div_ii, ↓pow_ii, ↓add_tt, ↓add_ll, ↓add_ss, ↓mul_ti, ↓neg_i, ↓lt_ii, ↓le_ii, ↓gt_ii, ↓ge_ii, ↓eq_ii, ↓ne_ii, ↓eq_bb, ↓ne_bb, ↓eq_ss, ↓ne_ss, ↓len_t, ↓len_l, ↓len_s, ↓int_i, ↓list_t, ↓list_l, ↓list_s, ↓tuple_t, ↓tuple_l, ↓max_ii, ↓min_ii, ↓all_l, ↓any_l, ↓cell0, ↓cell1, ↓cell2, ↓rng1, ↓rng2, ↓Lit.d, ↓List.getElem?_cons_zero, ↓List.getElem?_cons_succ, ↓List.set_cons_zero, ↓List.set_cons_succ, ↓List.length_cons, ↓List.length_nil, ↓List.length_set, ↓natAbs10, ↓tapeP_l, ↓after_next, ↓after_cont, ↓after_brk, ↓after_ret, ↓items_t, ↓items_l, ↓rev_l, ↓List.map_cons, ↓List.map_nil, ↓wipeR, ↓restR, ↓Option.getD_some, ↓Option.getD_none, ↓setTgs_nm, ↓compP_eq, Nat.reduceAdd, Nat.reduceLT, Nat.reduceLeDiff, Int.reduceLE, Int.reduceLT, Nat.reducePow, true_and, Int.reduceToNat, Int.reducePow, Int.reduceNeg]
        have e : isBoundD (.tup [a, b, c]) = false := by
          cases a <;> cases b <;> cases c <;> first | rfl | (simp [isW] at h)
        rw [e] at hP; exact hP
      · rintro _ _ ⟨h, rfl, rfl⟩
        simp only [↓wi_nil (ρ := _ :: _), ↓wi_cons (ρ := _ :: _), ↓wi_asg (ρ := _ :: _), ↓wi_tape (ρ := _ :: _), ↓wi_asgT (ρ := _ :: _), ↓wi_setI (ρ := _ :: _), ↓wi_mt (ρ := _ :: _), ↓wi_ret (ρ := _ :: _), ↓wi_retN (ρ := _ :: _), ↓wi_iff (ρ := _ :: _), ↓wi_exp (ρ := _ :: _), ↓wi_pass (ρ := _ :: _), ↓wi_brk (ρ := _ :: _), ↓wi_cont (ρ := _ :: _), ↓we_lit (ρ := _ :: _), ↓we_gl (ρ := _ :: _), ↓we_var (ρ := _ :: _), ↓we_tup (ρ := _ :: _), ↓we_lst (ρ := _ :: _), ↓we_op (ρ := _ :: _), ↓we_neg (ρ := _ :: _), ↓we_cmp (ρ := _ :: _), ↓we_chain (ρ := _ :: _), ↓we_and (ρ := _ :: _), ↓we_or (ρ := _ :: _), ↓we_not (ρ := _ :: _), ↓we_ite (ρ := _ :: _), ↓we_idx (ρ := _ :: _), ↓we_slc (ρ := _ :: _), ↓we_rev (ρ := _ :: _), ↓we_call (ρ := _ :: _), ↓we_isi (ρ := _ :: _), ↓we_bi (ρ := _ :: _), ↓we_comp (ρ := _ :: _), ↓wl_nil (ρ := _ :: _), ↓wl_cons (ρ := _ :: _), ↓wpp_nil (ρ := _ :: _), ↓wpp_cons (ρ := _ :: _), ↓wa_nil (ρ := _ :: _), ↓wa_cons (ρ := _ :: _), ↓wo_nil (ρ := _ :: _), ↓wo_som (ρ := _ :: _), ↓ws_rg1 (ρ := _ :: _), ↓ws_rg2 (ρ := _ :: _), ↓ws_sq (ρ := _ :: _), ↓wc_nil (ρ := _ :: _), ↓wc_som (ρ := _ :: _), ↓brB_t, ↓brB_f, ↓varP_dat, ↓varP_own, ↓argP_dat, ↓argP_fresh, ↓callP1, ↓callP2, ↓callP3, ↓callP4, ↓callP5, ↓seq_next, ↓seq_ret, ↓seq_brk, ↓seq_cont, ↓asgP_dat, ↓asgP_own, ↓asgP_fr, ↓retP_dat, ↓retP_fresh, ↓done_ret, ↓done_next, ↓onO_some, ↓fz_dat, ↓fz_fresh, ↓add_ii, ↓sub_ii, ↓mul_ii, ↓mod_ii, ↓div_ii, ↓pow_ii, ↓add_tt, ↓add_ll, ↓add_ss, ↓mul_ti, ↓neg_i, ↓lt_ii, ↓le_ii, ↓gt_ii, ↓ge_ii, ↓eq_ii, ↓ne_ii, ↓eq_bb, ↓ne_bb, ↓eq_ss, ↓ne_ss, ↓len_t, ↓len_l, ↓len_s, ↓int_i, ↓list_t, ↓list_l, ↓list_s, ↓tuple_t, ↓tuple_l, ↓max_ii, ↓min_ii, ↓all_l, ↓any_l, ↓cell0, ↓cell1, ↓cell2, ↓rng1, ↓rng2, ↓Lit.d, ↓List.getElem?_cons_zero, ↓List.getElem?_cons_succ, ↓List.set_cons_zero, ↓List.set_cons_succ, ↓List.length_cons, ↓List.length_nil, ↓List.length_set, ↓natAbs10, ↓tapeP_l, ↓after_next, ↓after_cont, ↓after_brk, ↓after_ret, ↓items_t, ↓items_l, ↓rev_l, ↓List.map_cons, ↓List.map_nil, ↓wipeR, ↓restR, ↓Option.getD_some, ↓Option.getD_none, ↓setTgs_nm, ↓compP_eq, Nat.reduceAdd, Nat.reduceLT, Nat.reduceLeDiff, Int.reduceLE, Int.reduceLT, Nat.reducePow, true_and, Int.reduceToNat, Int.reducePow, Int.reduceNeg]
        exact ⟨by cases hh : (isW a && isW b && isW c) <;> simp [hh] at h ⊢, at_mk⟩
    rintro _ _ ⟨h, rfl, rfl⟩
    obtain ⟨x, rfl⟩ : ∃ x, a = .int x := by cases a <;> first | exact ⟨_, rfl⟩ | (simp [isW] at h)
    obtain ⟨y, rfl⟩ : ∃ y, b = .int y := by cases b <;> first | exact ⟨_, rfl⟩ | (simp [isW] at h)
    obtain ⟨z, rfl⟩ : ∃ z, c = .int z := by cases c <;> first | exact ⟨_, rfl⟩ | (simp [isW] at h)
    have hP : ∀ t, t = isBoundD (.tup [.int x, .int y, .int z]) → P ((.dat, .bl t), S) := fun t e => e ▸ hP
    unfold isBoundD at hP
    have i0 : ∀ P : D → Prop, onO (ixB S (.tup [.int x, .int y, .int z]) (.int 0)) P = P (.int x) := fun P => rfl
    have i1 : ∀ P : D → Prop, onO (ixB S (.tup [.int x, .int y, .int z]) (.int 1)) P = P (.int y) := fun P => rfl
    simp only [↓wi_nil (ρ := _ :: _), ↓wi_cons (ρ := _ :: _), ↓wi_asg (ρ := _ :: _), ↓wi_tape (ρ := _ :: _), ↓wi_asgT (ρ := _ :: _), ↓wi_setI (ρ := _ :: _), ↓wi_mt (ρ := _ :: _), ↓wi_ret (ρ := _ :: _), ↓wi_retN (ρ := _ :: _), ↓wi_iff (ρ := _ :: _), ↓wi_exp (ρ := _ :: _), ↓wi_pass (ρ := _ :: _), ↓wi_brk (ρ := _ :: _), ↓wi_cont (ρ := _ :: _), ↓we_lit (ρ := _ :: _), ↓we_gl (ρ := _ :: _), ↓we_var (ρ := _ :: _), ↓we_tup (ρ := _ :: _), ↓we_lst (ρ := _ :: _), ↓we_op (ρ := _ :: _), ↓we_neg (ρ := _ :: _), ↓we_cmp (ρ := _ :: _), ↓we_chain (ρ := _ :: _), ↓we_and (ρ := _ :: _), ↓we_or (ρ := _ :: _), ↓we_not (ρ := _ :: _), ↓we_ite (ρ := _ :: _), ↓we_idx (ρ := _ :: _), ↓we_slc (ρ := _ :: _), ↓we_rev (ρ := _ :: _), ↓we_call (ρ := _ :: _), ↓we_isi (ρ := _ :: _), ↓we_bi (ρ := _ :: _), ↓we_comp (ρ := _ :: _), ↓wl_nil (ρ := _ :: _), ↓wl_cons (ρ := _ :: _), ↓wpp_nil (ρ := _ :: _), ↓wpp_cons (ρ := _ :: _), ↓wa_nil (ρ := _ :: _), ↓wa_cons (ρ := _ :: _), ↓wo_nil (ρ := _ :: _), ↓wo_som (ρ := _ :: _), ↓ws_rg1 (ρ := _ :: _), ↓ws_rg2 (ρ := _ :: _), ↓ws_sq (ρ := _ :: _), ↓wc_nil (ρ := _ :: _), ↓wc_som (ρ := _ :: _), ↓brB_t, ↓brB_f, ↓varP_dat, ↓varP_own, ↓argP_dat, ↓argP_fresh, ↓callP1, ↓callP2, ↓callP3, ↓callP4, ↓callP5, ↓seq_next, ↓seq_ret, ↓seq_brk, ↓seq_cont, ↓asgP_dat, ↓asgP_own, ↓asgP_fr, ↓retP_dat, ↓retP_fresh, ↓done_ret, ↓done_next, ↓onO_some, ↓fz_dat, ↓fz_fresh, ↓add_ii, ↓sub_ii, ↓mul_ii, ↓mod_ii, ↓div_ii, ↓pow_ii, ↓add_tt, ↓add_ll, ↓add_ss, ↓mul_ti, ↓neg_i, ↓lt_ii, ↓le_ii, ↓gt_ii, ↓ge_ii, ↓eq_ii, ↓ne_ii, ↓eq_bb, ↓ne_bb, ↓eq_ss, ↓ne_ss, ↓len_t, ↓len_l, ↓len_s, ↓int_i, ↓list_t, ↓list_l, ↓list_s, ↓tuple_t, ↓tuple_l, ↓max_ii, ↓min_ii, ↓all_l, ↓any_l, ↓cell0, ↓cell1, ↓cell2, ↓rng1, ↓rng2, ↓Lit.d, ↓List.getElem?_cons_zero, ↓List.getElem?_cons_succ, ↓List.set_cons_zero, ↓List.set_cons_succ, ↓List.length_cons, ↓List.length_nil, ↓List.length_set, ↓natAbs10, ↓tapeP_l, ↓after_next, ↓after_cont, ↓after_brk, ↓after_ret, ↓items_t, ↓items_l, ↓rev_l, ↓List.map_cons, ↓List.map_nil, ↓wipeR, ↓restR, ↓Option.getD_some, ↓Option.getD_none, ↓setTgs_nm, ↓compP_eq, Nat.reduceAdd, Nat.reduceLT, Nat.reduceLeDiff, Int.reduceLE, Int.reduceLT, Nat.reducePow, true_and, Int.reduceToNat, Int.reducePow, Int.reduceNeg, i0, i1]
    refine brB_of (fun h0 => brB_of (fun h1 => brB_of (fun h2 => brB_of (fun h3 => ?_) (fun h3 => ?_)) (fun h2 => ?_)) (fun h1 => ?_)) (fun h0 => ?_)
    · exact hP _ (by simp [h0, h1, h2, h3])
    · exact hP _ (by simp [h0, h1, h2, h3])
    · exact hP _ (by simp [h0, h1, h2])
    · exact hP _ (by simp [h0, h1])
    · exact hP _ (by simp [h0])
  · have e : isBoundD d = false := by
      unfold isBoundD
      split
      · exact absurd ⟨_, _, _, rfl⟩ hd
      · rfl
    rw [e] at hP
    cases d with
    | tup ds =>
      have hl : ((ds.length : Int) == 3) = false := by
        rw [beq_eq_false_iff_ne]
        intro h
        obtain ⟨a, b, c, rfl⟩ := three (ds := ds) (by omega)
        exact hd ⟨a, b, c, rfl⟩
      simp only [↓wi_nil (ρ := _ :: _), ↓wi_cons (ρ := _ :: _), ↓wi_asg (ρ := _ :: _), ↓wi_tape (ρ := _ :: _), ↓wi_asgT (ρ := _ :: _), ↓wi_setI (ρ := _ :: _), ↓wi_mt (ρ := _ :: _), ↓wi_ret (ρ := _ :: _), ↓wi_retN (ρ := _ :: _), ↓wi_iff (ρ := _ :: _), ↓wi_exp (ρ := _ :: _), ↓wi_pass (ρ := _ :: _), ↓wi_brk (ρ := _ :: _), ↓wi_cont (ρ := _ :: _), ↓we_lit (ρ := _ :: _), ↓we_gl (ρ := _ :: _), ↓we_var (ρ := _ :: _), ↓we_tup (ρ := _ :: _), ↓we_lst (ρ := _ :: _), ↓we_op (ρ := _ :: _), ↓we_neg (ρ := _ :: _), ↓we_cmp (ρ := _ :: _), ↓we_chain (ρ := _ :: _), ↓we_and (ρ := _ :: _), ↓we_or (ρ := _ :: _), ↓we_not (ρ := _ :: _), ↓we_ite (ρ := _ :: _), ↓we_idx (ρ := _ :: _), ↓we_slc (ρ := _ :: _), ↓we_rev (ρ := _ :: _), ↓we_call (ρ := _ :: _), ↓we_isi (ρ := _ :: _), ↓we_bi (ρ := _ :: _), ↓we_comp (ρ := _ :: _), ↓wl_nil (ρ := _ :: _), ↓wl_cons (ρ := _ :: _), ↓wpp_nil (ρ := _ :: _), ↓wpp_cons (ρ := _ :: _), ↓wa_nil (ρ := _ :: _), ↓wa_cons (ρ := _ :: _), ↓wo_nil (ρ := _ :: _), ↓wo_som (ρ := _ :: _), ↓ws_rg1 (ρ := _ :: _), ↓ws_rg2 (ρ := _ :: _), ↓ws_sq (ρ := _ :: _), ↓wc_nil (ρ := _ :: _), ↓wc_som (ρ := _ :: _), ↓brB_t, ↓brB_f, ↓varP_dat, ↓varP_own, ↓argP_dat, ↓argP_fresh, ↓callP1, ↓callP2, ↓callP3, ↓callP4, ↓callP5, ↓seq_next, ↓seq_ret, ↓seq_brk, ↓seq_cont, ↓asgP_dat, ↓asgP_own, ↓asgP_fr, ↓retP_dat, ↓retP_fresh, ↓done_ret, ↓done_next, ↓onO_some, ↓fz_dat, ↓fz_fresh, ↓add_ii, ↓sub_ii, ↓mul_ii, ↓mod_ii, ↓div_ii, ↓pow_ii, ↓add_tt, ↓add_ll, ↓add_ss, ↓mul_ti, ↓neg_i, ↓lt_ii, ↓le_ii, ↓gt_ii, ↓ge_ii, ↓eq_ii, ↓ne_ii, ↓eq_bb, ↓ne_bb, ↓eq_ss, ↓ne_ss, ↓len_t, ↓len_l, ↓len_s, ↓int_i, ↓list_t, ↓list_l, ↓list_s, ↓tuple_t, ↓tuple_l, ↓max_ii, ↓min_ii, ↓all_l, ↓any_l, ↓cell0, ↓cell1, ↓cell2, ↓rng1, ↓rng2, ↓Lit.d, ↓List.getElem?_cons_zero, ↓List.getElem?_cons_succ, ↓List.set_cons_zero, ↓List.set_cons_succ, ↓List.length_cons, ↓List.length_nil, ↓List.length_set, ↓natAbs10, ↓tapeP_l, ↓after_next, ↓after_cont, ↓after_brk, ↓after_ret, ↓items_t, ↓items_l, ↓rev_l, ↓List.map_cons, ↓List.map_nil, ↓wipeR, ↓restR, ↓Option.getD_some, ↓Option.getD_none, ↓setTgs_nm, ↓compP_eq, Nat.reduceAdd, Nat.reduceLT, Nat.reduceLeDiff, Int.reduceLE, Int.reduceLT, Nat.reducePow, true_and, Int.reduceToNat, Int.reducePow, Int.reduceNeg, List.any_cons, List.any_nil, isTy, Bool.or_false, hl, Bool.not_false]
      exact hP
    | _ =>
      simp only [↓wi_nil (ρ := _ :: _), ↓wi_cons (ρ := _ :: _), ↓wi_asg (ρ := _ :: _), ↓wi_tape (ρ := _ :: _), ↓wi_asgT (ρ := _ :: _), ↓wi_setI (ρ := _ :: _), ↓wi_mt (ρ := _ :: _), ↓wi_ret (ρ := _ :: _), ↓wi_retN (ρ := _ :: _), ↓wi_iff (ρ := _ :: _), ↓wi_exp (ρ := _ :: _), ↓wi_pass (ρ := _ :: _), ↓wi_brk (ρ := _ :: _), ↓wi_cont (ρ := _ :: _), ↓we_lit (ρ := _ :: _), ↓we_gl (ρ := _ :: _), ↓we_var (ρ := _ :: _), ↓we_tup (ρ := _ :: _), ↓we_lst (ρ := _ :: _), ↓we_op (ρ := _ :: _), ↓we_neg (ρ := _ :: _), ↓we_cmp (ρ := _ :: _), ↓we_chain (ρ := _ :: _), ↓we_and (ρ := _ :: _), ↓we_or (ρ := _ :: _), ↓we_not (ρ := _ :: _), ↓we_ite (ρ := _ :: _), ↓we_idx (ρ := _ :: _), ↓we_slc (ρ := _ :: _), ↓we_rev (ρ := _ :: _), ↓we_call (ρ := _ :: _), ↓we_isi (ρ := _ :: _), ↓we_bi (ρ := _ :: _), ↓we_comp (ρ := _ :: _), ↓wl_nil (ρ := _ :: _), ↓wl_cons (ρ := _ :: _), ↓wpp_nil (ρ := _ :: _), ↓wpp_cons (ρ := _ :: _), ↓wa_nil (ρ := _ :: _), ↓wa_cons (ρ := _ :: _), ↓wo_nil (ρ := _ :: _), ↓wo_som (ρ := _ :: _), ↓ws_rg1 (ρ := _ :: _), ↓ws_rg2 (ρ := _ :: _), ↓ws_sq (ρ := _ :: _), ↓wc_nil (ρ := _ :: _), ↓wc_som (ρ := _ :: _), ↓brB_t, ↓brB_f, ↓varP_dat, ↓varP_own, ↓argP_dat, ↓argP_fresh, ↓callP1, ↓callP2, ↓callP3, ↓callP4, ↓callP5, ↓seq_next, ↓seq_ret, ↓seq_brk, ↓seq_cont, ↓asgP_dat, ↓asgP_own, ↓asgP_fr, ↓retP_dat, ↓retP_fresh, ↓done_ret, ↓done_next, ↓onO_some, ↓fz_dat, ↓fz_fresh, ↓add_ii, ↓sub_ii, ↓mul_ii, ↓mod_ii, ↓div_ii, ↓pow_ii, ↓add_tt, ↓add_ll, ↓add_ss, ↓mul_ti, ↓neg_i, ↓lt_ii, ↓le_ii, ↓gt_ii, ↓ge_ii, ↓eq_ii, ↓ne_ii, ↓eq_bb, ↓ne_bb, ↓eq_ss, ↓ne_ss, ↓len_t, ↓len_l, ↓len_s, ↓int_i, ↓list_t, ↓list_l, ↓list_s, ↓tuple_t, ↓tuple_l, ↓max_ii, ↓min_ii, ↓all_l, ↓any_l, ↓cell0, ↓cell1, ↓cell2, ↓rng1, ↓rng2, ↓Lit.d, ↓List.getElem?_cons_zero, ↓List.getElem?_cons_succ, ↓List.set_cons_zero, ↓List.set_cons_succ, ↓List.length_cons, ↓List.length_nil, ↓List.length_set, ↓natAbs10, ↓tapeP_l, ↓after_next, ↓after_cont, ↓after_brk, ↓after_ret, ↓items_t, ↓items_l, ↓rev_l, ↓List.map_cons, ↓List.map_nil, ↓wipeR, ↓restR, ↓Option.getD_some, ↓Option.getD_none, ↓setTgs_nm, ↓compP_eq, Nat.reduceAdd, Nat.reduceLT, Nat.reduceLeDiff, Int.reduceLE, Int.reduceLT, Nat.reducePow, true_and, Int.reduceToNat, Int.reducePow, Int.reduceNeg, List.any_cons, List.any_nil, isTy, Bool.or_false]
      exact hP
theorem isBounds_ok (n : Nat) : ∀ (d : D) (S : Store) (P : KD × Store → Prop), P ((.dat, .bl (isBoundsD d)), S) → onO (fam fds (n + 3) ix_is_bounds [d] S) P := by
  intro d S P hP
  refine run_of (fd := f_is_bounds) rfl rfl rfl ?_
  show wp (evI (fam fds (n + 2)) b_is_bounds) [some (.dat d), none] _ _
  unfold b_is_bounds
  cases d with
  | tup ds =>
    refine wi_cut (fun ρ S' => ds.length ≤ 60 ∧ At [some (.dat (.tup ds)), none] S ρ S') ?_ ?_
    · refine wi_if (fun t ρ S' => t = decide (60 < (ds.length : Int)) ∧ At [some (.dat (.tup ds)), none] S ρ S') ?_ ?_ ?_
      · simp only [↓wi_nil (ρ := _ :: _), ↓wi_cons (ρ := _ :: _), ↓wi_asg (ρ := _ :: _), ↓wi_tape (ρ := _ :: _), ↓wi_asgT (ρ := _ :: _), ↓wi_setI (ρ := _ :: _), ↓wi_mt (ρ := _ :: _), ↓wi_ret (ρ := _ :: _), ↓wi_retN (ρ := _ :: _), ↓wi_iff (ρ := _ :: _), ↓wi_exp (ρ := _ :: _), ↓wi_pass (ρ := _ :: _), ↓wi_brk (ρ := _ :: _), ↓wi_cont (ρ := _ :: _), ↓we_lit (ρ := _ :: _), ↓we_gl (ρ := _ :: _), ↓we_var (ρ := _ :: _), ↓we_tup (ρ := _ :: _), ↓we_lst (ρ := _ :: _), ↓we_op (ρ := _ :: _), ↓we_neg (ρ := _ :: _), ↓we_cmp (ρ := _ :: _), ↓we_chain (ρ := _ :: _), ↓we_and (ρ := _ :: _), ↓we_or (ρ := _ :: _), ↓we_not (ρ := _ :: _), ↓we_ite (ρ := _ :: _), ↓we_idx (ρ := _ :: _), ↓we_slc (ρ := _ :: _), ↓we_rev (ρ := _ :: _), ↓we_call (ρ := _ :: _), ↓we_isi (ρ := _ :: _), ↓we_bi (ρ := _ :: _), ↓we_comp (ρ := _ :: _), ↓wl_nil (ρ := _ :: _), ↓wl_cons (ρ := _ :: _), ↓wpp_nil (ρ := _ :: _), ↓wpp_cons (ρ := _ :: _), ↓wa_nil (ρ := _ :: _), ↓wa_cons (ρ := _ :: _), ↓wo_nil (ρ := _ :: _), ↓wo_som (ρ := _ :: _), ↓ws_rg1 (ρ := _ :: _), ↓ws_rg2 (ρ := _ :: _), ↓ws_sq (ρ := _ :: _), ↓wc_nil (ρ := _ :: _), ↓wc_som (ρ := _ :: _), ↓brB_t, ↓brB_f, ↓varP_dat, ↓varP_own, ↓argP_dat, ↓argP_fresh, ↓callP1, ↓callP2, ↓callP3, ↓callP4, ↓callP5, ↓seq_next, ↓seq_ret, ↓seq_brk, ↓seq_cont, ↓asgP_dat, ↓asgP_own, ↓asgP_fr, ↓retP_dat, ↓retP_fresh, ↓done_ret, ↓done_next, ↓onO_some, ↓fz_dat, ↓fz_fresh, ↓add_ii, ↓sub_ii, ↓mul_ii, ↓mod_ii, ↓div_ii, ↓pow_ii, ↓add_tt, ↓add_ll, ↓add_ss, ↓mul_ti, ↓neg_i, ↓lt_ii, ↓le_ii, ↓gt_ii, ↓ge_ii, ↓eq_ii, ↓ne_ii, ↓eq_bb, ↓ne_bb, ↓eq_ss, ↓ne_ss, ↓len_t, ↓len_l, ↓len_s, ↓int_i, ↓list_t, ↓list_l, ↓list_s, ↓tuple_t, ↓tuple_l, ↓max_ii, ↓min_ii, ↓all_l, ↓any_l, ↓cell0, ↓cell1, ↓cell2, ↓rng1, ↓rng2, ↓Lit.d, ↓List.getElem?_cons_zero, ↓List.getElem?_cons_succ, ↓List.set_cons_zero, ↓List.set_cons_succ, ↓List.length_cons, ↓List.length_nil, ↓List.length_set, ↓natAbs10, ↓tapeP_l, ↓after_next, ↓after_cont, ↓after_brk, ↓after_ret, ↓items_t, ↓items_l, ↓rev_l, ↓List.map_cons, ↓List.map_nil, ↓wipeR, ↓restR, ↓Option.getD_some, ↓Option.getD_none, ↓setTgs_nm, ↓compP_eq, Nat.reduceAdd, Nat.reduceLT, Nat.reduceLeDiff, Int.reduceLE, Int.reduceLT, Nat.reducePow, true_and, Int.reduceToNat, Int.reducePow, Int.reduceNeg, List.any_cons, List.any_nil, isTy, Bool.or_false]
        exact ⟨_, rfl, rfl, at_mk⟩
      · rintro _ _ ⟨h, rfl, rfl⟩
        simp only [↓wi_nil (ρ := _ :: _), ↓wi_cons (ρ := _ :: _), ↓wi_asg (ρ := _ :: _), ↓wi_tape (ρ := _ :: _), ↓wi_asgT (ρ := _ :: _), ↓wi_setI (ρ := _ :: _), ↓wi_mt (ρ := _ :: _), ↓wi_ret (ρ := _ :: _), ↓wi_retN (ρ := _ :: _), ↓wi_iff (ρ := _ :: _), ↓wi_exp (ρ := _ :: _), ↓wi_pass (ρ := _ :: _), ↓wi_brk (ρ := _ :: _), ↓wi_cont (ρ := _ :: _), ↓we_lit (ρ := _ :: _), ↓we_gl (ρ := _ :: _), ↓we_var (ρ := _ :: _), ↓we_tup (ρ := _ :: _), ↓we_lst (ρ := _ :: _), ↓we_op (ρ := _ :: _), ↓we_neg (ρ := _ :: _), ↓we_cmp (ρ := _ :: _), ↓we_chain (ρ := _ :: _), ↓we_and (ρ := _ :: _), ↓we_or (ρ := _ :: _), ↓we_not (ρ := _ :: _), ↓we_ite (ρ := _ :: _), ↓we_idx (ρ := _ :: _), ↓we_slc (ρ := _ :: _), ↓we_rev (ρ := _ :: _), ↓we_call (ρ := _ :: _), ↓we_isi (ρ := _ :: _), ↓we_bi (ρ := _ :: _), ↓we_comp (ρ := _ :: _), ↓wl_nil (ρ := _ :: _), ↓wl_cons (ρ := _ :: _), ↓wpp_nil (ρ := _ :: _), ↓wpp_cons (ρ := _ :: _), ↓wa_nil (ρ := _ :: _), ↓wa_cons (ρ := _ :: _), ↓wo_nil (ρ := _ :: _), ↓wo_som (ρ := _ :: _), ↓ws_rg1 (ρ := _ :: _), ↓ws_rg2 (ρ := _ :: _), ↓ws_sq (ρ := _ :: _), ↓wc_nil (ρ := _ :: _), ↓wc_som (ρ := _ :: _), ↓brB_t, ↓brB_f, ↓varP_dat, ↓varP_own, ↓argP_dat, ↓argP_fresh, ↓callP1, ↓callP2, ↓callP3, ↓callP4, ↓callP5, ↓seq_next, ↓seq_ret, ↓seq_brk, ↓seq_cont, ↓asgP_dat, ↓asgP_own, ↓asgP_fr, ↓retP_dat, ↓retP_fresh, ↓done_ret, ↓done_next, ↓onO_some, ↓fz_dat, ↓fz_fresh, ↓add_ii, ↓sub_ii, ↓mul_ii, ↓mod_ii, ↓div_ii, ↓pow_ii, ↓add_tt, ↓add_ll, ↓add_ss, ↓mul_ti, ↓neg_i, ↓lt_ii, ↓le_ii, ↓gt_ii, ↓ge_ii, ↓eq_ii, ↓ne_ii, ↓eq_bb, ↓ne_bb, ↓eq_ss, ↓ne_ss, ↓len_t, ↓len_l, ↓len_s, ↓int_i, ↓list_t, ↓list_l, ↓list_s, ↓tuple_t, ↓tuple_l, ↓max_ii, ↓min_ii, ↓all_l, ↓any_l, ↓cell0, ↓cell1, ↓cell2, ↓rng1, ↓rng2, ↓Lit.d, ↓List.getElem?_cons_zero, ↓List.getElem?_cons_succ, ↓List.set_cons_zero, ↓List.set_cons_succ, ↓List.length_cons, ↓List.length_nil, ↓List.length_set, ↓natAbs10, ↓tapeP_l, ↓after_next, ↓after_cont, ↓after_brk, ↓after_ret, ↓items_t, ↓items_l, ↓rev_l, ↓List.map_cons, ↓List.map_nil, ↓wipeR, ↓restR, ↓Option.getD_some, ↓Option.getD_none, ↓setTgs_nm, ↓compP_eq, Nat.reduceAdd, Nat.reduceLT, Nat.reduceLeDiff, Int.reduceLE, Int.reduceLT, Nat.reducePow, true_and, Int.reduceToNat, Int.reducePow, Int.reduceNeg]
        have h := of_decide_eq_true h.symm
        have e : isBoundsD (.tup ds) = false := by
          show (decide (ds.length ≤ 60) && ds.all isBoundD) = false
          rw [decide_eq_false (by omega)]; rfl
        rw [e] at hP; exact hP
      · rintro _ _ ⟨h, rfl, rfl⟩
        simp only [↓wi_nil (ρ := _ :: _), ↓wi_cons (ρ := _ :: _), ↓wi_asg (ρ := _ :: _), ↓wi_tape (ρ := _ :: _), ↓wi_asgT (ρ := _ :: _), ↓wi_setI (ρ := _ :: _), ↓wi_mt (ρ := _ :: _), ↓wi_ret (ρ := _ :: _), ↓wi_retN (ρ := _ :: _), ↓wi_iff (ρ := _ :: _), ↓wi_exp (ρ := _ :: _), ↓wi_pass (ρ := _ :: _), ↓wi_brk (ρ := _ :: _), ↓wi_cont (ρ := _ :: _), ↓we_lit (ρ := _ :: _), ↓we_gl (ρ := _ :: _), ↓we_var (ρ := _ :: _), ↓we_tup (ρ := _ :: _), ↓we_lst (ρ := _ :: _), ↓we_op (ρ := _ :: _), ↓we_neg (ρ := _ :: _), ↓we_cmp (ρ := _ :: _), ↓we_chain (ρ := _ :: _), ↓we_and (ρ := _ :: _), ↓we_or (ρ := _ :: _), ↓we_not (ρ := _ :: _), ↓we_ite (ρ := _ :: _), ↓we_idx (ρ := _ :: _), ↓we_slc (ρ := _ :: _), ↓we_rev (ρ := _ :: _), ↓we_call (ρ := _ :: _), ↓we_isi (ρ := _ :: _), ↓we_bi (ρ := _ :: _), ↓we_comp (ρ := _ :: _), ↓wl_nil (ρ := _ :: _), ↓wl_cons (ρ := _ :: _), ↓wpp_nil (ρ := _ :: _), ↓wpp_cons (ρ := _ :: _), ↓wa_nil (ρ := _ :: _), ↓wa_cons (ρ := _ :: _), ↓wo_nil (ρ := _ :: _), ↓wo_som (ρ := _ :: _), ↓ws_rg1 (ρ := _ :: _), ↓ws_rg2 (ρ := _ :: _), ↓ws_sq (ρ := _ :: _), ↓wc_nil (ρ := _ :: _), ↓wc_som (ρ := _ :: _), ↓brB_t, ↓brB_f, ↓varP_dat, ↓varP_own, ↓argP_dat, ↓argP_fresh, ↓callP1, ↓callP2, ↓callP3, ↓callP4, ↓callP5, ↓seq_next, ↓seq_ret, ↓seq_brk, ↓seq_cont, ↓asgP_dat, ↓asgP_own, ↓asgP_fr, ↓retP_dat, ↓retP_fresh, ↓done_ret, ↓done_next, ↓onO_some, ↓fz_dat, ↓fz_fresh, ↓add_ii, ↓sub_ii, ↓mul_ii, ↓mod_ii, ↓div_ii, ↓pow_ii, ↓add_tt, ↓add_ll, ↓add_ss, ↓mul_ti, ↓neg_i, ↓lt_ii, ↓le_ii, ↓gt_ii, ↓ge_ii, ↓eq_ii, ↓ne_ii, ↓eq_bb, ↓ne_bb, ↓eq_ss, ↓ne_ss, ↓len_t, ↓len_l, ↓len_s, ↓int_i, ↓list_t, ↓list_l, ↓list_s, ↓tuple_t, ↓tuple_l, ↓max_ii, ↓min_ii, ↓all_l, ↓any_l, ↓cell0, ↓cell1, ↓cell2, ↓rng1, ↓rng2, ↓Lit.d, ↓List.getElem?_cons_zero, ↓List.getElem?_cons_succ, ↓List.set_cons_zero, ↓List.set_cons_succ, ↓List.length_cons, ↓List.length_nil, ↓List.length_set, ↓natAbs10, ↓tapeP_l, ↓after_next, ↓after_cont, ↓after_brk, ↓after_ret, ↓items_t, ↓items_l, ↓rev_l, ↓List.map_cons, ↓List.map_nil, ↓wipeR, ↓restR, ↓Option.getD_some, ↓Option.getD_none, ↓setTgs_nm, ↓compP_eq, Nat.reduceAdd, Nat.reduceLT, Nat.reduceLeDiff, Int.reduceLE, Int.reduceLT, Nat.reducePow, true_and, Int.reduceToNat, Int.reducePow, Int.reduceNeg]
        have h := of_decide_eq_false h.symm
        exact ⟨by omega, at_mk⟩
    rintro _ _ ⟨h, rfl, rfl⟩
    simp only [↓wi_nil (ρ := _ :: _), ↓wi_cons (ρ := _ :: _), ↓wi_asg (ρ := _ :: _), ↓wi_tape (ρ := _ :: _), ↓wi_asgT (ρ := _ :: _), ↓wi_setI (ρ := _ :: _), ↓wi_mt (ρ := _ :: _), ↓wi_ret (ρ := _ :: _), ↓wi_retN (ρ := _ :: _), ↓wi_iff (ρ := _ :: _), ↓wi_exp (ρ := _ :: _), ↓wi_pass (ρ := _ :: _), ↓wi_brk (ρ := _ :: _), ↓wi_cont (ρ := _ :: _), ↓we_lit (ρ := _ :: _), ↓we_gl (ρ := _ :: _), ↓we_var (ρ := _ :: _), ↓we_tup (ρ := _ :: _), ↓we_lst (ρ := _ :: _), ↓we_op (ρ := _ :: _), ↓we_neg (ρ := _ :: _), ↓we_cmp (ρ := _ :: _), ↓we_chain (ρ := _ :: _), ↓we_and (ρ := _ :: _), ↓we_or (ρ := _ :: _), ↓we_not (ρ := _ :: _), ↓we_ite (ρ := _ :: _), ↓we_idx (ρ := _ :: _), ↓we_slc (ρ := _ :: _), ↓we_rev (ρ := _ :: _), ↓we_call (ρ := _ :: _), ↓we_isi (ρ := _ :: _), ↓we_bi (ρ := _ :: _), ↓we_comp (ρ := _ :: _), ↓wl_nil (ρ := _ :: _), ↓wl_cons (ρ := _ :: _), ↓wpp_nil (ρ := _ :: _), ↓wpp_cons (ρ := _ :: _), ↓wa_nil (ρ := _ :: _), ↓wa_cons (ρ := _ :: _), ↓wo_nil (ρ := _ :: _), ↓wo_som (ρ := _ :: _), ↓ws_rg1 (ρ := _ :: _), ↓ws_rg2 (ρ := _ :: _), ↓ws_sq (ρ := _ :: _), ↓wc_nil (ρ := _ :: _), ↓wc_som (ρ := _ :: _), ↓brB_t, ↓brB_f, ↓varP_dat, ↓varP_own, ↓argP_dat, ↓argP_fresh, ↓callP1, ↓callP2, ↓callP3, ↓callP4, ↓callP5, ↓seq_next, ↓seq_ret, ↓seq_brk, ↓seq_cont, ↓asgP_dat, ↓asgP_own, ↓asgP_fr, ↓retP_dat, ↓retP_fresh, ↓done_ret, ↓done_next, ↓onO_some, ↓fz_dat, ↓fz_fresh, ↓add_ii, ↓sub_ii, ↓mul_ii, ↓mod_ii, ↓div_ii, ↓pow_ii, ↓add_tt, ↓add_ll, ↓add_ss, ↓mul_ti, ↓neg_i, ↓lt_ii, ↓le_ii, ↓gt_ii, ↓ge_ii, ↓eq_ii, ↓ne_ii, ↓eq_bb, ↓ne_bb, ↓eq_ss, ↓ne_ss, ↓len_t, ↓len_l, ↓len_s, ↓int_i, ↓list_t, ↓list_l, ↓list_s, ↓tuple_t, ↓tuple_l, ↓max_ii, ↓min_ii, ↓all_l, ↓any_l, ↓cell0, ↓cell1, ↓cell2, ↓rng1, ↓rng2, ↓Lit.d, ↓List.getElem?_cons_zero, ↓List.getElem?_cons_succ, ↓List.set_cons_zero, ↓List.set_cons_succ, ↓List.length_cons, ↓List.length_nil, ↓List.length_set, ↓natAbs10, ↓tapeP_l, ↓after_next, ↓after_cont, ↓after_brk, ↓after_ret, ↓items_t, ↓items_l, ↓rev_l, ↓List.map_cons, ↓List.map_nil, ↓wipeR, ↓restR, ↓Option.getD_some, ↓Option.getD_none, ↓setTgs_nm, ↓compP_eq, Nat.reduceAdd, Nat.reduceLT, Nat.reduceLeDiff, Int.reduceLE, Int.reduceLT, Nat.reducePow, true_and, Int.reduceToNat, Int.reducePow, Int.reduceNeg]
    refine ⟨rfl, by simp only [sizeLine]; omega, ?_⟩
    refine comp_pure (g := fun d => some (.bl (isBoundD d))) (fun d _ => ?_) ?_
    · rw [wp_turn]
      simp only [↓wi_nil (ρ := _ :: _), ↓wi_cons (ρ := _ :: _), ↓wi_asg (ρ := _ :: _), ↓wi_tape (ρ := _ :: _), ↓wi_asgT (ρ := _ :: _), ↓wi_setI (ρ := _ :: _), ↓wi_mt (ρ := _ :: _), ↓wi_ret (ρ := _ :: _), ↓wi_retN (ρ := _ :: _), ↓wi_iff (ρ := _ :: _), ↓wi_exp (ρ := _ :: _), ↓wi_pass (ρ := _ :: _), ↓wi_brk (ρ := _ :: _), ↓wi_cont (ρ := _ :: _), ↓we_lit (ρ := _ :: _), ↓we_gl (ρ := _ :: _), ↓we_var (ρ := _ :: _), ↓we_tup (ρ := _ :: _), ↓we_lst (ρ := _ :: _), ↓we_op (ρ := _ :: _), ↓we_neg (ρ := _ :: _), ↓we_cmp (ρ := _ :: _), ↓we_chain (ρ := _ :: _), ↓we_and (ρ := _ :: _), ↓we_or (ρ := _ :: _), ↓we_not (ρ := _ :: _), ↓we_ite (ρ := _ :: _), ↓we_idx (ρ := _ :: _), ↓we_slc (ρ := _ :: _), ↓we_rev (ρ := _ :: _), ↓we_call (ρ := _ :: _), ↓we_isi (ρ := _ :: _), ↓we_bi (ρ := _ :: _), ↓we_comp (ρ := _ :: _), ↓wl_nil (ρ := _ :: _), ↓wl_cons (ρ := _ :: _), ↓wpp_nil (ρ := _ :: _), ↓wpp_cons (ρ := _ :: _), ↓wa_nil (ρ := _ :: _), ↓wa_cons (ρ := _ :: _), ↓wo_nil (ρ := _ :: _), ↓wo_som (ρ := _ :: _), ↓ws_rg1 (ρ := _ :: _), ↓ws_rg2 (ρ := _ :: _), ↓ws_sq (ρ := _ :: _), ↓wc_nil (ρ := _ :: _), ↓wc_som (ρ := _ :: _), ↓brB_t, ↓brB_f, ↓varP_dat, ↓varP_own, ↓argP_dat, ↓argP_fresh, ↓callP1, ↓callP2, ↓callP3, ↓callP4, ↓callP5, ↓seq_next, ↓seq_ret, ↓seq_brk, ↓seq_cont, ↓asgP_dat, ↓asgP_own, ↓asgP_fr, ↓retP_dat, ↓retP_fresh, ↓done_ret, ↓done_next, ↓onO_some, ↓fz_dat, ↓fz_fresh, ↓add_ii, ↓sub_ii, ↓mul_ii, ↓mod_ii, ↓div_ii, ↓pow_ii, ↓add_tt, ↓add_ll, ↓add_ss, ↓mul_ti, ↓neg_i, ↓lt_ii, ↓le_ii, ↓gt_ii, ↓ge_ii, ↓eq_ii, ↓ne_ii, ↓eq_bb, ↓ne_bb, ↓eq_ss, ↓ne_ss, ↓len_t, ↓len_l, ↓len_s, ↓int_i, ↓list_t, ↓list_l, ↓list_s, ↓tuple_t, ↓tuple_l, ↓max_ii, ↓min_ii, ↓all_l, ↓any_l, ↓cell0, ↓cell1, ↓cell2, ↓rng1, ↓rng2, ↓Lit.d, ↓List.getElem?_cons_zero, ↓List.getElem?_cons_succ, ↓List.set_cons_zero, ↓List.set_cons_succ, ↓List.length_cons, ↓List.length_nil, ↓List.length_set, ↓natAbs10, ↓tapeP_l, ↓after_next, ↓after_cont, ↓after_brk, ↓after_ret, ↓items_t, ↓items_l, ↓rev_l, ↓List.map_cons, ↓List.map_nil, ↓wipeR, ↓restR, ↓Option.getD_some, ↓Option.getD_none, ↓setTgs_nm, ↓compP_eq, Nat.reduceAdd, Nat.reduceLT, Nat.reduceLeDiff, Int.reduceLE, Int.reduceLT, Nat.reducePow, true_and, Int.reduceToNat, Int.reducePow, Int.reduceNeg]
      refine isBound_ok n _ _ _ ?_
      exact ⟨rfl, rfl, rfl⟩
    · simp only [↓wi_nil (ρ := _ :: _), ↓wi_cons (ρ := _ :: _), ↓wi_asg (ρ := _ :: _), ↓wi_tape (ρ := _ :: _), ↓wi_asgT (ρ := _ :: _), ↓wi_setI (ρ := _ :: _), ↓wi_mt (ρ := _ :: _), ↓wi_ret (ρ := _ :: _), ↓wi_retN (ρ := _ :: _), ↓wi_iff (ρ := _ :: _), ↓wi_exp (ρ := _ :: _), ↓wi_pass (ρ := _ :: _), ↓wi_brk (ρ := _ :: _), ↓wi_cont (ρ := _ :: _), ↓we_lit (ρ := _ :: _), ↓we_gl (ρ := _ :: _), ↓we_var (ρ := _ :: _), ↓we_tup (ρ := _ :: _), ↓we_lst (ρ := _ :: _), ↓we_op (ρ := _ :: _), ↓we_neg (ρ := _ :: _), ↓we_cmp (ρ := _ :: _), ↓we_chain (ρ := _ :: _), ↓we_and (ρ := _ :: _), ↓we_or (ρ := _ :: _), ↓we_not (ρ := _ :: _), ↓we_ite (ρ := _ :: _), ↓we_idx (ρ := _ :: _), ↓we_slc (ρ := _ :: _), ↓we_rev (ρ := _ :: _), ↓we_call (ρ := _ :: _), ↓we_isi (ρ := _ :: _), ↓we_bi (ρ := _ :: _), ↓we_comp (ρ := _ :: _), ↓wl_nil (ρ := _ :: _), ↓wl_cons (ρ := _ :: _), ↓wpp_nil (ρ := _ :: _), ↓wpp_cons (ρ := _ :: _), ↓wa_nil (ρ := _ :: _), ↓wa_cons (ρ := _ :: _), ↓wo_nil (ρ := _ :: _), ↓wo_som (ρ := _ :: _), ↓ws_rg1 (ρ := _ :: _), ↓ws_rg2 (ρ := _ :: _), ↓ws_sq (ρ := _ :: _), ↓wc_nil (ρ := _ :: _), ↓wc_som (ρ := _ :: _), ↓brB_t, ↓brB_f, ↓varP_dat, ↓varP_own, ↓argP_dat, ↓argP_fresh, ↓callP1, ↓callP2, ↓callP3, ↓callP4, ↓callP5, ↓seq_next, ↓seq_ret, ↓seq_brk, ↓seq_cont, ↓asgP_dat, ↓asgP_own, ↓asgP_fr, ↓retP_dat, ↓retP_fresh, ↓done_ret, ↓done_next, ↓onO_some, ↓fz_dat, ↓fz_fresh, ↓add_ii, ↓sub_ii, ↓mul_ii, ↓mod_ii, ↓div_ii, ↓pow_ii, ↓add_tt, ↓add_ll, ↓add_ss, ↓mul_ti, ↓neg_i, ↓lt_ii, ↓le_ii, ↓gt_ii, ↓ge_ii, ↓eq_ii, ↓ne_ii, ↓eq_bb, ↓ne_bb, ↓eq_ss, ↓ne_ss, ↓len_t, ↓len_l, ↓len_s, ↓int_i, ↓list_t, ↓list_l, ↓list_s, ↓tuple_t, ↓tuple_l, ↓max_ii, ↓min_ii, ↓all_l, ↓any_l, ↓cell0, ↓cell1, ↓cell2, ↓rng1, ↓rng2, ↓Lit.d, ↓List.getElem?_cons_zero, ↓List.getElem?_cons_succ, ↓List.set_cons_zero, ↓List.set_cons_succ, ↓List.length_cons, ↓List.length_nil, ↓List.length_set, ↓natAbs10, ↓tapeP_l, ↓after_next, ↓after_cont, ↓after_brk, ↓after_ret, ↓items_t, ↓items_l, ↓rev_l, ↓List.map_cons, ↓List.map_nil, ↓wipeR, ↓restR, ↓Option.getD_some, ↓Option.getD_none, ↓setTgs_nm, ↓compP_eq, Nat.reduceAdd, Nat.reduceLT, Nat.reduceLeDiff, Int.reduceLE, Int.reduceLT, Nat.reducePow, true_and, Int.reduceToNat, Int.reducePow, Int.reduceNeg]
      rw [List.filterMap_eq_map' ]
      have e1 : (ds.map fun d => D.bl (isBoundD d)).all D.isB = true := by simp [D.isB]
      have e2 : (ds.map fun d => D.bl (isBoundD d)).all D.toB = ds.all isBoundD := by simp [D.toB, Function.comp_def]
      refine ⟨e1, ?_⟩
      rw [e2]
      have e : isBoundsD (.tup ds) = ds.all isBoundD := by show (decide (ds.length ≤ 60) && ds.all isBoundD) = _; rw [decide_eq_true h, Bool.true_and]
      rw [e] at hP; exact hP
  | _ =>
    simp only [↓wi_nil (ρ := _ :: _), ↓wi_cons (ρ := _ :: _), ↓wi_asg (ρ := _ :: _), ↓wi_tape (ρ := _ :: _), ↓wi_asgT (ρ := _ :: _), ↓wi_setI (ρ := _ :: _), ↓wi_mt (ρ := _ :: _), ↓wi_ret (ρ := _ :: _), ↓wi_retN (ρ := _ :: _), ↓wi_iff (ρ := _ :: _), ↓wi_exp (ρ := _ :: _), ↓wi_pass (ρ := _ :: _), ↓wi_brk (ρ := _ :: _), ↓wi_cont (ρ := _ :: _), ↓we_lit (ρ := _ :: _), ↓we_gl (ρ := _ :: _), ↓we_var (ρ := _ :: _), ↓we_tup (ρ := _ :: _), ↓we_lst (ρ := _ :: _), ↓we_op (ρ := _ :: _), ↓we_neg (ρ := _ :: _), ↓we_cmp (ρ := _ :: _), ↓we_chain (ρ := _ :: _), ↓we_and (ρ := _ :: _), ↓we_or (ρ := _ :: _), ↓we_not (ρ := _ :: _), ↓we_ite (ρ := _ :: _), ↓we_idx (ρ := _ :: _), ↓we_slc (ρ := _ :: _), ↓we_rev (ρ := _ :: _), ↓we_call (ρ := _ :: _), ↓we_isi (ρ := _ :: _), ↓we_bi (ρ := _ :: _), ↓we_comp (ρ := _ :: _), ↓wl_nil (ρ := _ :: _), ↓wl_cons (ρ := _ :: _), ↓wpp_nil (ρ := _ :: _), ↓wpp_cons (ρ := _ :: _), ↓wa_nil (ρ := _ :: _), ↓wa_cons (ρ := _ :: _), ↓wo_nil (ρ := _ :: _), ↓wo_som (ρ := _ :: _), ↓ws_rg1 (ρ := _ :: _), ↓ws_rg2 (ρ := _ :: _), ↓ws_sq (ρ := _ :: _), ↓wc_nil (ρ := _ :: _), ↓wc_som (ρ := _ :: _), ↓brB_t, ↓brB_f, ↓varP_dat, ↓varP_own, ↓argP_dat, ↓argP_fresh, ↓callP1, ↓callP2, ↓callP3, ↓callP4, ↓callP5, ↓seq_next, ↓seq_ret, ↓seq_brk, ↓seq_cont, ↓asgP_dat, ↓asgP_own, ↓asgP_fr, ↓retP_dat, ↓retP_fresh, ↓done_ret, ↓done_next, ↓onO_some, ↓fz_dat, ↓fz_fresh, ↓add_ii, ↓sub_ii, ↓mul_ii, ↓mod_ii, ↓div_ii, ↓pow_ii, ↓add_tt, ↓add_ll, ↓add_ss, ↓mul_ti, ↓neg_i, ↓lt_ii, ↓le_ii, ↓gt_ii, ↓ge_ii, ↓eq_ii, ↓ne_ii, ↓eq_bb, ↓ne_bb, ↓eq_ss, ↓ne_ss, ↓len_t, ↓len_l, ↓len_s, ↓int_i, ↓list_t, ↓list_l, ↓list_s, ↓tuple_t, ↓tuple_l, ↓max_ii, ↓min_ii, ↓all_l, ↓any_l, ↓cell0, ↓cell1, ↓cell2, ↓rng1, ↓rng2, ↓Lit.d, ↓List.getElem?_cons_zero, ↓List.getElem?_cons_succ, ↓List.set_cons_zero, ↓List.set_cons_succ, ↓List.length_cons, ↓List.length_nil, ↓List.length_set, ↓natAbs10, ↓tapeP_l, ↓after_next, ↓after_cont, ↓after_brk, ↓after_ret, ↓items_t, ↓items_l, ↓rev_l, ↓List.map_cons, ↓List.map_nil, ↓wipeR, ↓restR, ↓Option.getD_some, ↓Option.getD_none, ↓setTgs_nm, ↓compP_eq, Nat.reduceAdd, Nat.reduceLT, Nat.reduceLeDiff, Int.reduceLE, Int.reduceLT, Nat.reducePow, true_and, Int.reduceToNat, Int.reducePow, Int.reduceNeg, List.any_cons, List.any_nil, isTy, Bool.or_false]
    exact hP
theorem lawIsBounds_ok (n : Nat) {N k : Nat} (hk : k ≤ 50) (hN : N ≤ 100000) : ∀ (d : D) (S : Store) (P : KD × Store → Prop), Fit N k d → P ((.dat, .bl (isBoundsD d)), S) → onO (fam fds (n + 2) ix__law_is_bounds [d] S) P := by
  intro d S P hf hP
  refine run_of (fd := f__law_is_bounds) rfl rfl rfl ?_
  show wp (evI (fam fds (n + 1)) b__law_is_bounds) [some (.dat d), none, none] _ _
  unfold b__law_is_bounds
  by_cases hd : ∃ ds, d = .tup ds
  case neg =>
    cases d with
    | tup ds => exact absurd ⟨ds, rfl⟩ hd
    | _ =>
      simp only [↓wi_nil (ρ := _ :: _), ↓wi_cons (ρ := _ :: _), ↓wi_asg (ρ := _ :: _), ↓wi_tape (ρ := _ :: _), ↓wi_asgT (ρ := _ :: _), ↓wi_setI (ρ := _ :: _), ↓wi_mt (ρ := _ :: _), ↓wi_ret (ρ := _ :: _), ↓wi_retN (ρ := _ :: _), ↓wi_iff (ρ := _ :: _), ↓wi_exp (ρ := _ :: _), ↓wi_pass (ρ := _ :: _), ↓wi_brk (ρ := _ :: _), ↓wi_cont (ρ := _ :: _), ↓we_lit (ρ := _ :: _), ↓we_gl (ρ := _ :: _), ↓we_var (ρ := _ :: _), ↓we_tup (ρ := _ :: _), ↓we_lst (ρ := _ :: _), ↓we_op (ρ := _ :: _), ↓we_neg (ρ := _ :: _), ↓we_cmp (ρ := _ :: _), ↓we_chain (ρ := _ :: _), ↓we_and (ρ := _ :: _), ↓we_or (ρ := _ :: _), ↓we_not (ρ := _ :: _), ↓we_ite (ρ := _ :: _), ↓we_idx (ρ := _ :: _), ↓we_slc (ρ := _ :: _), ↓we_rev (ρ := _ :: _), ↓we_call (ρ := _ :: _), ↓we_isi (ρ := _ :: _), ↓we_bi (ρ := _ :: _), ↓we_comp (ρ := _ :: _), ↓wl_nil (ρ := _ :: _), ↓wl_cons (ρ := _ :: _), ↓wpp_nil (ρ := _ :: _), ↓wpp_cons (ρ := _ :: _), ↓wa_nil (ρ := _ :: _), ↓wa_cons (ρ := _ :: _), ↓wo_nil (ρ := _ :: _), ↓wo_som (ρ := _ :: _), ↓ws_rg1 (ρ := _ :: _), ↓ws_rg2 (ρ := _ :: _), ↓ws_sq (ρ := _ :: _), ↓wc_nil (ρ := _ :: _), ↓wc_som (ρ := _ :: _), ↓brB_t, ↓brB_f, ↓varP_dat, ↓varP_own, ↓argP_dat, ↓argP_fresh, ↓callP1, ↓callP2, ↓callP3, ↓callP4, ↓callP5, ↓seq_next, ↓seq_ret, ↓seq_brk, ↓seq_cont, ↓asgP_dat, ↓asgP_own, ↓asgP_fr, ↓retP_dat, ↓retP_fresh, ↓done_ret, ↓done_next, ↓onO_some, ↓fz_dat, ↓fz_fresh, ↓add_ii, ↓sub_ii, ↓mul_ii, ↓mod_ii, ↓div_ii, ↓pow_ii, ↓add_tt, ↓add_ll, ↓add_ss, ↓mul_ti, ↓neg_i, ↓lt_ii, ↓le_ii, ↓gt_ii, ↓ge_ii, ↓eq_ii, ↓ne_ii, ↓eq_bb, ↓ne_bb, ↓eq_ss, ↓ne_ss, ↓len_t, ↓len_l, ↓len_s, ↓int_i, ↓list_t, ↓list_l, ↓list_s, ↓tuple_t, ↓tuple_l, ↓max_ii, ↓min_ii, ↓all_l, ↓any_l, ↓cell0, ↓cell1, ↓cell2, ↓rng1, ↓rng2, ↓Lit.d, ↓List.getElem?_cons_zero, ↓List.getElem?_cons_succ, ↓List.set_cons_zero, ↓List.set_cons_succ, ↓List.length_cons, ↓List.length_nil, ↓List.length_set, ↓natAbs10, ↓tapeP_l, ↓after_next, ↓after_cont, ↓after_brk, ↓after_ret, ↓items_t, ↓items_l, ↓rev_l, ↓List.map_cons, ↓List.map_nil, ↓wipeR, ↓restR, ↓Option.getD_some, ↓Option.getD_none, ↓setTgs_nm, ↓compP_eq, Nat.reduceAdd, Nat.reduceLT, Nat.reduceLeDiff, Int.reduceLE, Int.reduceLT, Nat.reducePow, true_and, Int.reduceToNat, Int.reducePow, Int.reduceNeg, List.any_cons, List.any_nil, isTy, Bool.or_false]
      exact hP
  obtain ⟨ds, rfl⟩ := hd
  obtain ⟨j, rfl⟩ : ∃ j, k = j + 1 := by
    cases k with
    | zero => exact hf.elim
    | succ j => exact ⟨j, rfl⟩
  have hf : ds.length ≤ N ∧ ∀ x ∈ ds, Fit N j x := hf
  refine wi_cut (fun ρ S' => ds.length ≤ 60 ∧ At [some (.dat (.tup ds)), none, none] S ρ S') ?_ ?_
  · refine wi_if (fun t ρ S' => t = decide (60 < (ds.length : Int)) ∧ At [some (.dat (.tup ds)), none, none] S ρ S') ?_ ?_ ?_
    · simp only [↓wi_nil (ρ := _ :: _), ↓wi_cons (ρ := _ :: _), ↓wi_asg (ρ := _ :: _), ↓wi_tape (ρ := _ :: _), ↓wi_asgT (ρ := _ :: _), ↓wi_setI (ρ := _ :: _), ↓wi_mt (ρ := _ :: _), ↓wi_ret (ρ := _ :: _), ↓wi_retN (ρ := _ :: _), ↓wi_iff (ρ := _ :: _), ↓wi_exp (ρ := _ :: _), ↓wi_pass (ρ := _ :: _), ↓wi_brk (ρ := _ :: _), ↓wi_cont (ρ := _ :: _), ↓we_lit (ρ := _ :: _), ↓we_gl (ρ := _ :: _), ↓we_var (ρ := _ :: _), ↓we_tup (ρ := _ :: _), ↓we_lst (ρ := _ :: _), ↓we_op (ρ := _ :: _), ↓we_neg (ρ := _ :: _), ↓we_cmp (ρ := _ :: _), ↓we_chain (ρ := _ :: _), ↓we_and (ρ := _ :: _), ↓we_or (ρ := _ :: _), ↓we_not (ρ := _ :: _), ↓we_ite (ρ := _ :: _), ↓we_idx (ρ := _ :: _), ↓we_slc (ρ := _ :: _), ↓we_rev (ρ := _ :: _), ↓we_call (ρ := _ :: _), ↓we_isi (ρ := _ :: _), ↓we_bi (ρ := _ :: _), ↓we_comp (ρ := _ :: _), ↓wl_nil (ρ := _ :: _), ↓wl_cons (ρ := _ :: _), ↓wpp_nil (ρ := _ :: _), ↓wpp_cons (ρ := _ :: _), ↓wa_nil (ρ := _ :: _), ↓wa_cons (ρ := _ :: _), ↓wo_nil (ρ := _ :: _), ↓wo_som (ρ := _ :: _), ↓ws_rg1 (ρ := _ :: _), ↓ws_rg2 (ρ := _ :: _), ↓ws_sq (ρ := _ :: _), ↓wc_nil (ρ := _ :: _), ↓wc_som (ρ := _ :: _), ↓brB_t, ↓brB_f, ↓varP_dat, ↓varP_own, ↓argP_dat, ↓argP_fresh, ↓callP1, ↓callP2, ↓callP3, ↓callP4, ↓callP5, ↓seq_next, ↓seq_ret, ↓seq_brk, ↓seq_cont, ↓asgP_dat, ↓asgP_own, ↓asgP_fr, ↓retP_dat, ↓retP_fresh, ↓done_ret, ↓done_next, ↓onO_some, ↓fz_dat, ↓fz_fresh, ↓add_ii, ↓sub_ii, ↓mul_ii, ↓mod_ii, ↓div_ii, ↓pow_ii, ↓add_tt, ↓add_ll, ↓add_ss, ↓mul_ti, ↓neg_i, ↓lt_ii, ↓le_ii, ↓gt_ii, ↓ge_ii, ↓eq_ii, ↓ne_ii, ↓eq_bb, ↓ne_bb, ↓eq_ss, ↓ne_ss, ↓len_t, ↓len_l, ↓len_s, ↓int_i, ↓list_t, ↓list_l, ↓list_s, ↓tuple_t, ↓tuple_l, ↓max_ii, ↓min_ii, ↓all_l, ↓any_l, ↓cell0, ↓cell1, ↓cell2, ↓rng1, ↓rng2, ↓Lit.d, ↓List.getElem?_cons_zero, ↓List.getElem?_cons_succ, ↓List.set_cons_zero, ↓List.set_cons_succ, ↓List.length_cons, ↓List.length_nil, ↓List.length_set, ↓natAbs10, ↓tapeP_l, ↓after_next, ↓after_cont, ↓after_brk, ↓after_ret, ↓items_t, ↓items_l, ↓rev_l, ↓List.map_cons, ↓List.map_nil, ↓wipeR, ↓restR, ↓Option.getD_some, ↓Option.getD_none, ↓setTgs_nm, ↓compP_eq, Nat.reduceAdd, Nat.reduceLT, Nat.reduceLeDiff, Int.reduceLE, Int.reduceLT, Nat.reducePow, true_and, Int.reduceToNat, Int.reducePow, Int.reduceNeg, List.any_cons, List.any_nil, isTy, Bool.or_false]
      exact ⟨_, rfl, rfl, at_mk⟩
    · rintro _ _ ⟨h, rfl, rfl⟩
      simp only [↓wi_nil (ρ := _ :: _), ↓wi_cons (ρ := _ :: _), ↓wi_asg (ρ := _ :: _), ↓wi_tape (ρ := _ :: _), ↓wi_asgT (ρ := _ :: _), ↓wi_setI (ρ := _ :: _), ↓wi_mt (ρ := _ :: _), ↓wi_ret (ρ := _ :: _), ↓wi_retN (ρ := _ :: _), ↓wi_iff (ρ := _ :: _), ↓wi_exp (ρ := _ :: _), ↓wi_pass (ρ := _ :: _), ↓wi_brk (ρ := _ :: _), ↓wi_cont (ρ := _ :: _), ↓we_lit (ρ := _ :: _), ↓we_gl (ρ := _ :: _), ↓we_var (ρ := _ :: _), ↓we_tup (ρ := _ :: _), ↓we_lst (ρ := _ :: _), ↓we_op (ρ := _ :: _), ↓we_neg (ρ := _ :: _), ↓we_cmp (ρ := _ :: _), ↓we_chain (ρ := _ :: _), ↓we_and (ρ := _ :: _), ↓we_or (ρ := _ :: _), ↓we_not (ρ := _ :: _), ↓we_ite (ρ := _ :: _), ↓we_idx (ρ := _ :: _), ↓we_slc (ρ := _ :: _), ↓we_rev (ρ := _ :: _), ↓we_call (ρ := _ :: _), ↓we_isi (ρ := _ :: _), ↓we_bi (ρ := _ :: _), ↓we_comp (ρ := _ :: _), ↓wl_nil (ρ := _ :: _), ↓wl_cons (ρ := _ :: _), ↓wpp_nil (ρ := _ :: _), ↓wpp_cons (ρ := _ :: _), ↓wa_nil (ρ := _ :: _), ↓wa_cons (ρ := _ :: _), ↓wo_nil (ρ := _ :: _), ↓wo_som (ρ := _ :: _), ↓ws_rg1 (ρ := _ :: _), ↓ws_rg2 (ρ := _ :: _), ↓ws_sq (ρ := _ :: _), ↓wc_nil (ρ := _ :: _), ↓wc_som (ρ := _ :: _), ↓brB_t, ↓brB_f, ↓varP_dat, ↓varP_own, ↓argP_dat, ↓argP_fresh, ↓callP1, ↓callP2, ↓callP3, ↓callP4, ↓callP5, ↓seq_next, ↓seq_ret, ↓seq_brk, ↓seq_cont, ↓asgP_dat, ↓asgP_own, ↓asgP_fr, ↓retP_dat, ↓retP_fresh, ↓done_ret, ↓done_next, ↓onO_some, ↓fz_dat, ↓fz_fresh, ↓add_ii, ↓sub_ii, ↓mul_ii, ↓mod_ii, ↓div_ii, ↓pow_ii, ↓add_tt, ↓add_ll, ↓add_ss, ↓mul_ti, ↓neg_i, ↓lt_ii, ↓le_ii, ↓gt_ii, ↓ge_ii, ↓eq_ii, ↓ne_ii, ↓eq_bb, ↓ne_bb, ↓eq_ss, ↓ne_ss, ↓len_t, ↓len_l, ↓len_s, ↓int_i, ↓list_t, ↓list_l, ↓list_s, ↓tuple_t, ↓tuple_l, ↓max_ii, ↓min_ii, ↓all_l, ↓any_l, ↓cell0, ↓cell1, ↓cell2, ↓rng1, ↓rng2, ↓Lit.d, ↓List.getElem?_cons_zero, ↓List.getElem?_cons_succ, ↓List.set_cons_zero, ↓List.set_cons_succ, ↓List.length_cons, ↓List.length_nil, ↓List.length_set, ↓natAbs10, ↓tapeP_l, ↓after_next, ↓after_cont, ↓after_brk, ↓after_ret, ↓items_t, ↓items_l, ↓rev_l, ↓List.map_cons, ↓List.map_nil, ↓wipeR, ↓restR, ↓Option.getD_some, ↓Option.getD_none, ↓setTgs_nm, ↓compP_eq, Nat.reduceAdd, Nat.reduceLT, Nat.reduceLeDiff, Int.reduceLE, Int.reduceLT, Nat.reducePow, true_and, Int.reduceToNat, Int.reducePow, Int.reduceNeg]
      have h := of_decide_eq_true h.symm
      have e : isBoundsD (.tup ds) = false := by
        show (decide (ds.length ≤ 60) && ds.all isBoundD) = false
        rw [decide_eq_false (by omega)]; rfl
      rw [e] at hP; exact hP
    · rintro _ _ ⟨h, rfl, rfl⟩
      simp only [↓wi_nil (ρ := _ :: _), ↓wi_cons (ρ := _ :: _), ↓wi_asg (ρ := _ :: _), ↓wi_tape (ρ := _ :: _), ↓wi_asgT (ρ := _ :: _), ↓wi_setI (ρ := _ :: _), ↓wi_mt (ρ := _ :: _), ↓wi_ret (ρ := _ :: _), ↓wi_retN (ρ := _ :: _), ↓wi_iff (ρ := _ :: _), ↓wi_exp (ρ := _ :: _), ↓wi_pass (ρ := _ :: _), ↓wi_brk (ρ := _ :: _), ↓wi_cont (ρ := _ :: _), ↓we_lit (ρ := _ :: _), ↓we_gl (ρ := _ :: _), ↓we_var (ρ := _ :: _), ↓we_tup (ρ := _ :: _), ↓we_lst (ρ := _ :: _), ↓we_op (ρ := _ :: _), ↓we_neg (ρ := _ :: _), ↓we_cmp (ρ := _ :: _), ↓we_chain (ρ := _ :: _), ↓we_and (ρ := _ :: _), ↓we_or (ρ := _ :: _), ↓we_not (ρ := _ :: _), ↓we_ite (ρ := _ :: _), ↓we_idx (ρ := _ :: _), ↓we_slc (ρ := _ :: _), ↓we_rev (ρ := _ :: _), ↓we_call (ρ := _ :: _), ↓we_isi (ρ := _ :: _), ↓we_bi (ρ := _ :: _), ↓we_comp (ρ := _ :: _), ↓wl_nil (ρ := _ :: _), ↓wl_cons (ρ := _ :: _), ↓wpp_nil (ρ := _ :: _), ↓wpp_cons (ρ := _ :: _), ↓wa_nil (ρ := _ :: _), ↓wa_cons (ρ := _ :: _), ↓wo_nil (ρ := _ :: _), ↓wo_som (ρ := _ :: _), ↓ws_rg1 (ρ := _ :: _), ↓ws_rg2 (ρ := _ :: _), ↓ws_sq (ρ := _ :: _), ↓wc_nil (ρ := _ :: _), ↓wc_som (ρ := _ :: _), ↓brB_t, ↓brB_f, ↓varP_dat, ↓varP_own, ↓argP_dat, ↓argP_fresh, ↓callP1, ↓callP2, ↓callP3, ↓callP4, ↓callP5, ↓seq_next, ↓seq_ret, ↓seq_brk, ↓seq_cont, ↓asgP_dat, ↓asgP_own, ↓asgP_fr, ↓retP_dat, ↓retP_fresh, ↓done_ret, ↓done_next, ↓onO_some, ↓fz_dat, ↓fz_fresh, ↓add_ii, ↓sub_ii, ↓mul_ii, ↓mod_ii, ↓div_ii, ↓pow_ii, ↓add_tt, ↓add_ll, ↓add_ss, ↓mul_ti, ↓neg_i, ↓lt_ii, ↓le_ii, ↓gt_ii, ↓ge_ii, ↓eq_ii, ↓ne_ii, ↓eq_bb, ↓ne_bb, ↓eq_ss, ↓ne_ss, ↓len_t, ↓len_l, ↓len_s, ↓int_i, ↓list_t, ↓list_l, ↓list_s, ↓tuple_t, ↓tuple_l, ↓max_ii, ↓min_ii, ↓all_l, ↓any_l, ↓cell0, ↓cell1, ↓cell2, ↓rng1, ↓rng2, ↓Lit.d, ↓List.getElem?_cons_zero, ↓List.getElem?_cons_succ, ↓List.set_cons_zero, ↓List.set_cons_succ, ↓List.length_cons, ↓List.length_nil, ↓List.length_set, ↓natAbs10, ↓tapeP_l, ↓after_next, ↓after_cont, ↓after_brk, ↓after_ret, ↓items_t, ↓items_l, ↓rev_l, ↓List.map_cons, ↓List.map_nil, ↓wipeR, ↓restR, ↓Option.getD_some, ↓Option.getD_none, ↓setTgs_nm, ↓compP_eq, Nat.reduceAdd, Nat.reduceLT, Nat.reduceLeDiff, Int.reduceLE, Int.reduceLT, Nat.reducePow, true_and, Int.reduceToNat, Int.reducePow, Int.reduceNeg]
      have h := of_decide_eq_false h.symm
      exact ⟨by omega, at_mk⟩
  rintro _ _ ⟨h60, rfl, rfl⟩
  have eB : isBoundsD (.tup ds) = ds.all isBoundD := by
    show (decide (ds.length ≤ 60) && ds.all isBoundD) = _
    rw [decide_eq_true h60, Bool.true_and]
  rw [eB] at hP
  refine wi_cut (fun ρ S' => ds.all isBoundD = true ∧ ∃ a, At [some (.dat (.tup ds)), a, none] S ρ S') ?_ ?_
  rotate_left
  · rintro _ _ ⟨h, a, rfl, rfl⟩
    simp only [↓wi_nil (ρ := _ :: _), ↓wi_cons (ρ := _ :: _), ↓wi_asg (ρ := _ :: _), ↓wi_tape (ρ := _ :: _), ↓wi_asgT (ρ := _ :: _), ↓wi_setI (ρ := _ :: _), ↓wi_mt (ρ := _ :: _), ↓wi_ret (ρ := _ :: _), ↓wi_retN (ρ := _ :: _), ↓wi_iff (ρ := _ :: _), ↓wi_exp (ρ := _ :: _), ↓wi_pass (ρ := _ :: _), ↓wi_brk (ρ := _ :: _), ↓wi_cont (ρ := _ :: _), ↓we_lit (ρ := _ :: _), ↓we_gl (ρ := _ :: _), ↓we_var (ρ := _ :: _), ↓we_tup (ρ := _ :: _), ↓we_lst (ρ := _ :: _), ↓we_op (ρ := _ :: _), ↓we_neg (ρ := _ :: _), ↓we_cmp (ρ := _ :: _), ↓we_chain (ρ := _ :: _), ↓we_and (ρ := _ :: _), ↓we_or (ρ := _ :: _), ↓we_not (ρ := _ :: _), ↓we_ite (ρ := _ :: _), ↓we_idx (ρ := _ :: _), ↓we_slc (ρ := _ :: _), ↓we_rev (ρ := _ :: _), ↓we_call (ρ := _ :: _), ↓we_isi (ρ := _ :: _), ↓we_bi (ρ := _ :: _), ↓we_comp (ρ := _ :: _), ↓wl_nil (ρ := _ :: _), ↓wl_cons (ρ := _ :: _), ↓wpp_nil (ρ := _ :: _), ↓wpp_cons (ρ := _ :: _), ↓wa_nil (ρ := _ :: _), ↓wa_cons (ρ := _ :: _), ↓wo_nil (ρ := _ :: _), ↓wo_som (ρ := _ :: _), ↓ws_rg1 (ρ := _ :: _), ↓ws_rg2 (ρ := _ :: _), ↓ws_sq (ρ := _ :: _), ↓wc_nil (ρ := _ :: _), ↓wc_som (ρ := _ :: _), ↓brB_t, ↓brB_f, ↓varP_dat, ↓varP_own, ↓argP_dat, ↓argP_fresh, ↓callP1, ↓callP2, ↓callP3, ↓callP4, ↓callP5, ↓seq_next, ↓seq_ret, ↓seq_brk, ↓seq_cont, ↓asgP_dat, ↓asgP_own, ↓asgP_fr, ↓retP_dat, ↓retP_fresh, ↓done_ret, ↓done_next, ↓onO_some, ↓fz_dat, ↓fz_fresh, ↓add_ii, ↓sub_ii, ↓mul_ii, ↓mod_ii, ↓div_ii, ↓pow_ii, ↓add_tt, ↓add_ll, ↓add_ss, ↓mul_ti, ↓neg_i, ↓lt_ii, ↓le_ii, ↓gt_ii, ↓ge_ii, ↓eq_ii, ↓ne_ii, ↓eq_bb, ↓ne_bb, ↓eq_ss, ↓ne_ss, ↓len_t, ↓len_l, ↓len_s, ↓int_i, ↓list_t, ↓list_l, ↓list_s, ↓tuple_t, ↓tuple_l, ↓max_ii, ↓min_ii, ↓all_l, ↓any_l, ↓cell0, ↓cell1, ↓cell2, ↓rng1, ↓rng2, ↓Lit.d, ↓List.getElem?_cons_zero, ↓List.getElem?_cons_succ, ↓List.set_cons_zero, ↓List.set_cons_succ, ↓List.length_cons, ↓List.length_nil, ↓List.length_set, ↓natAbs10, ↓tapeP_l, ↓after_next, ↓after_cont, ↓after_brk, ↓after_ret, ↓items_t, ↓items_l, ↓rev_l, ↓List.map_cons, ↓List.map_nil, ↓wipeR, ↓restR, ↓Option.getD_some, ↓Option.getD_none, ↓setTgs_nm, ↓compP_eq, Nat.reduceAdd, Nat.reduceLT, Nat.reduceLeDiff, Int.reduceLE, Int.reduceLT, Nat.reducePow, true_and, Int.reduceToNat, Int.reducePow, Int.reduceNeg]
    rw [h] at hP; exact hP
  rw [wi_fors]
  simp only [↓wi_nil (ρ := _ :: _), ↓wi_cons (ρ := _ :: _), ↓wi_asg (ρ := _ :: _), ↓wi_tape (ρ := _ :: _), ↓wi_asgT (ρ := _ :: _), ↓wi_setI (ρ := _ :: _), ↓wi_mt (ρ := _ :: _), ↓wi_ret (ρ := _ :: _), ↓wi_retN (ρ := _ :: _), ↓wi_iff (ρ := _ :: _), ↓wi_exp (ρ := _ :: _), ↓wi_pass (ρ := _ :: _), ↓wi_brk (ρ := _ :: _), ↓wi_cont (ρ := _ :: _), ↓we_lit (ρ := _ :: _), ↓we_gl (ρ := _ :: _), ↓we_var (ρ := _ :: _), ↓we_tup (ρ := _ :: _), ↓we_lst (ρ := _ :: _), ↓we_op (ρ := _ :: _), ↓we_neg (ρ := _ :: _), ↓we_cmp (ρ := _ :: _), ↓we_chain (ρ := _ :: _), ↓we_and (ρ := _ :: _), ↓we_or (ρ := _ :: _), ↓we_not (ρ := _ :: _), ↓we_ite (ρ := _ :: _), ↓we_idx (ρ := _ :: _), ↓we_slc (ρ := _ :: _), ↓we_rev (ρ := _ :: _), ↓we_call (ρ := _ :: _), ↓we_isi (ρ := _ :: _), ↓we_bi (ρ := _ :: _), ↓we_comp (ρ := _ :: _), ↓wl_nil (ρ := _ :: _), ↓wl_cons (ρ := _ :: _), ↓wpp_nil (ρ := _ :: _), ↓wpp_cons (ρ := _ :: _), ↓wa_nil (ρ := _ :: _), ↓wa_cons (ρ := _ :: _), ↓wo_nil (ρ := _ :: _), ↓wo_som (ρ := _ :: _), ↓ws_rg1 (ρ := _ :: _), ↓ws_rg2 (ρ := _ :: _), ↓ws_sq (ρ := _ :: _), ↓wc_nil (ρ := _ :: _), ↓wc_som (ρ := _ :: _), ↓brB_t, ↓brB_f, ↓varP_dat, ↓varP_own, ↓argP_dat, ↓argP_fresh, ↓callP1, ↓callP2, ↓callP3, ↓callP4, ↓callP5, ↓seq_next, ↓seq_ret, ↓seq_brk, ↓seq_cont, ↓asgP_dat, ↓asgP_own, ↓asgP_fr, ↓retP_dat, ↓retP_fresh, ↓done_ret, ↓done_next, ↓onO_some, ↓fz_dat, ↓fz_fresh, ↓add_ii, ↓sub_ii, ↓mul_ii, ↓mod_ii, ↓div_ii, ↓pow_ii, ↓add_tt, ↓add_ll, ↓add_ss, ↓mul_ti, ↓neg_i, ↓lt_ii, ↓le_ii, ↓gt_ii, ↓ge_ii, ↓eq_ii, ↓ne_ii, ↓eq_bb, ↓ne_bb, ↓eq_ss, ↓ne_ss, ↓len_t, ↓len_l, ↓len_s, ↓int_i, ↓list_t, ↓list_l, ↓list_s, ↓tuple_t, ↓tuple_l, ↓max_ii, ↓min_ii, ↓all_l, ↓any_l, ↓cell0, ↓cell1, ↓cell2, ↓rng1, ↓rng2, ↓Lit.d, ↓List.getElem?_cons_zero, ↓List.getElem?_cons_succ, ↓List.set_cons_zero, ↓List.set_cons_succ, ↓List.length_cons, ↓List.length_nil, ↓List.length_set, ↓natAbs10, ↓tapeP_l, ↓after_next, ↓after_cont, ↓after_brk, ↓after_ret, ↓items_t, ↓items_l, ↓rev_l, ↓List.map_cons, ↓List.map_nil, ↓wipeR, ↓restR, ↓Option.getD_some, ↓Option.getD_none, ↓setTgs_nm, ↓compP_eq, Nat.reduceAdd, Nat.reduceLT, Nat.reduceLeDiff, Int.reduceLE, Int.reduceLT, Nat.reducePow, true_and, Int.reduceToNat, Int.reducePow, Int.reduceNeg]
  refine wp_for (fun l ρ S' => (∀ x ∈ l, Fit N j x) ∧ ds.all isBoundD = l.all isBoundD ∧ ∃ a, At [some (.dat (.tup ds)), a, none] S ρ S') ?_ ?_ ⟨hf.2, rfl, none, at_mk⟩
  rotate_left
  · rintro _ _ ⟨_, h, a, rfl, rfl⟩
    simp only [↓wi_nil (ρ := _ :: _), ↓wi_cons (ρ := _ :: _), ↓wi_asg (ρ := _ :: _), ↓wi_tape (ρ := _ :: _), ↓wi_asgT (ρ := _ :: _), ↓wi_setI (ρ := _ :: _), ↓wi_mt (ρ := _ :: _), ↓wi_ret (ρ := _ :: _), ↓wi_retN (ρ := _ :: _), ↓wi_iff (ρ := _ :: _), ↓wi_exp (ρ := _ :: _), ↓wi_pass (ρ := _ :: _), ↓wi_brk (ρ := _ :: _), ↓wi_cont (ρ := _ :: _), ↓we_lit (ρ := _ :: _), ↓we_gl (ρ := _ :: _), ↓we_var (ρ := _ :: _), ↓we_tup (ρ := _ :: _), ↓we_lst (ρ := _ :: _), ↓we_op (ρ := _ :: _), ↓we_neg (ρ := _ :: _), ↓we_cmp (ρ := _ :: _), ↓we_chain (ρ := _ :: _), ↓we_and (ρ := _ :: _), ↓we_or (ρ := _ :: _), ↓we_not (ρ := _ :: _), ↓we_ite (ρ := _ :: _), ↓we_idx (ρ := _ :: _), ↓we_slc (ρ := _ :: _), ↓we_rev (ρ := _ :: _), ↓we_call (ρ := _ :: _), ↓we_isi (ρ := _ :: _), ↓we_bi (ρ := _ :: _), ↓we_comp (ρ := _ :: _), ↓wl_nil (ρ := _ :: _), ↓wl_cons (ρ := _ :: _), ↓wpp_nil (ρ := _ :: _), ↓wpp_cons (ρ := _ :: _), ↓wa_nil (ρ := _ :: _), ↓wa_cons (ρ := _ :: _), ↓wo_nil (ρ := _ :: _), ↓wo_som (ρ := _ :: _), ↓ws_rg1 (ρ := _ :: _), ↓ws_rg2 (ρ := _ :: _), ↓ws_sq (ρ := _ :: _), ↓wc_nil (ρ := _ :: _), ↓wc_som (ρ := _ :: _), ↓brB_t, ↓brB_f, ↓varP_dat, ↓varP_own, ↓argP_dat, ↓argP_fresh, ↓callP1, ↓callP2, ↓callP3, ↓callP4, ↓callP5, ↓seq_next, ↓seq_ret, ↓seq_brk, ↓seq_cont, ↓asgP_dat, ↓asgP_own, ↓asgP_fr, ↓retP_dat, ↓retP_fresh, ↓done_ret, ↓done_next, ↓onO_some, ↓fz_dat, ↓fz_fresh, ↓add_ii, ↓sub_ii, ↓mul_ii, ↓mod_ii, ↓div_ii, ↓pow_ii, ↓add_tt, ↓add_ll, ↓add_ss, ↓mul_ti, ↓neg_i, ↓lt_ii, ↓le_ii, ↓gt_ii, ↓ge_ii, ↓eq_ii, ↓ne_ii, ↓eq_bb, ↓ne_bb, ↓eq_ss, ↓ne_ss, ↓len_t, ↓len_l, ↓len_s, ↓int_i, ↓list_t, ↓list_l, ↓list_s, ↓tuple_t, ↓tuple_l, ↓max_ii, ↓min_ii, ↓all_l, ↓any_l, ↓cell0, ↓cell1, ↓cell2, ↓rng1, ↓rng2, ↓Lit.d, ↓List.getElem?_cons_zero, ↓List.getElem?_cons_succ, ↓List.set_cons_zero, ↓List.set_cons_succ, ↓List.length_cons, ↓List.length_nil, ↓List.length_set, ↓natAbs10, ↓tapeP_l, ↓after_next, ↓after_cont, ↓after_brk, ↓after_ret, ↓items_t, ↓items_l, ↓rev_l, ↓List.map_cons, ↓List.map_nil, ↓wipeR, ↓restR, ↓Option.getD_some, ↓Option.getD_none, ↓setTgs_nm, ↓compP_eq, Nat.reduceAdd, Nat.reduceLT, Nat.reduceLeDiff, Int.reduceLE, Int.reduceLT, Nat.reducePow, true_and, Int.reduceToNat, Int.reducePow, Int.reduceNeg]
    exact ⟨h, a, at_mk⟩
  rintro r l _ _ ⟨hl, hall, a, rfl, rfl⟩
  rw [wp_step, setTgs_nm]
  refine ⟨by show 1 < 3; decide, ?_⟩
  simp only [List.set_cons_succ, List.set_cons_zero]
  have hr := hl r (by simp)
  have no : isBoundD r = false → P ((.dat, .bl false), S) := fun h => by
    rw [hall, List.all_cons, h, Bool.false_and] at hP; exact hP
  have yes : isBoundD r = true → (∀ x ∈ l, Fit N j x) ∧ ds.all isBoundD = l.all isBoundD := fun h => by
    rw [hall, List.all_cons, h, Bool.true_and]
    exact ⟨fun x hx => hl x (by simp [hx]), rfl⟩
  by_cases hd : ∃ a b c, r = .tup [a, b, c]
  case neg =>
    have e : isBoundD r = false := by
      unfold isBoundD
      split
      · exact absurd ⟨_, _, _, rfl⟩ hd
      · rfl
    have no2 := no e
    clear no
    cases r with
    | tup rs =>
      have hl : ((rs.length : Int) == 3) = false := by
        rw [beq_eq_false_iff_ne]
        intro h
        obtain ⟨a, b, c, rfl⟩ := three (ds := rs) (by omega)
        exact hd ⟨a, b, c, rfl⟩
      simp only [↓wi_nil (ρ := _ :: _), ↓wi_cons (ρ := _ :: _), ↓wi_asg (ρ := _ :: _), ↓wi_tape (ρ := _ :: _), ↓wi_asgT (ρ := _ :: _), ↓wi_setI (ρ := _ :: _), ↓wi_mt (ρ := _ :: _), ↓wi_ret (ρ := _ :: _), ↓wi_retN (ρ := _ :: _), ↓wi_iff (ρ := _ :: _), ↓wi_exp (ρ := _ :: _), ↓wi_pass (ρ := _ :: _), ↓wi_brk (ρ := _ :: _), ↓wi_cont (ρ := _ :: _), ↓we_lit (ρ := _ :: _), ↓we_gl (ρ := _ :: _), ↓we_var (ρ := _ :: _), ↓we_tup (ρ := _ :: _), ↓we_lst (ρ := _ :: _), ↓we_op (ρ := _ :: _), ↓we_neg (ρ := _ :: _), ↓we_cmp (ρ := _ :: _), ↓we_chain (ρ := _ :: _), ↓we_and (ρ := _ :: _), ↓we_or (ρ := _ :: _), ↓we_not (ρ := _ :: _), ↓we_ite (ρ := _ :: _), ↓we_idx (ρ := _ :: _), ↓we_slc (ρ := _ :: _), ↓we_rev (ρ := _ :: _), ↓we_call (ρ := _ :: _), ↓we_isi (ρ := _ :: _), ↓we_bi (ρ := _ :: _), ↓we_comp (ρ := _ :: _), ↓wl_nil (ρ := _ :: _), ↓wl_cons (ρ := _ :: _), ↓wpp_nil (ρ := _ :: _), ↓wpp_cons (ρ := _ :: _), ↓wa_nil (ρ := _ :: _), ↓wa_cons (ρ := _ :: _), ↓wo_nil (ρ := _ :: _), ↓wo_som (ρ := _ :: _), ↓ws_rg1 (ρ := _ :: _), ↓ws_rg2 (ρ := _ :: _), ↓ws_sq (ρ := _ :: _), ↓wc_nil (ρ := _ :: _), ↓wc_som (ρ := _ :: _), ↓brB_t, ↓brB_f, ↓varP_dat, ↓varP_own, ↓argP_dat, ↓argP_fresh, ↓callP1, ↓callP2, ↓callP3, ↓callP4, ↓callP5, ↓seq_next, ↓seq_ret, ↓seq_brk, ↓seq_cont, ↓asgP_dat, ↓asgP_own, ↓asgP_fr, ↓retP_dat, ↓retP_fresh, ↓done_ret, ↓done_next, ↓onO_some, ↓fz_dat, ↓fz_fresh, ↓add_ii, ↓sub_ii, ↓mul_ii, ↓mod_ii, ↓div_ii, ↓pow_ii, ↓add_tt, ↓add_ll, ↓add_ss, ↓mul_ti, ↓neg_i, ↓lt_ii, ↓le_ii, ↓gt_ii, ↓ge_ii, ↓eq_ii, ↓ne_ii, ↓eq_bb, ↓ne_bb, ↓eq_ss, ↓ne_ss, ↓len_t, ↓len_l, ↓len_s, ↓int_i, ↓list_t, ↓list_l, ↓list_s, ↓tuple_t, ↓tuple_l, ↓max_ii, ↓min_ii, ↓all_l, ↓any_l, ↓cell0, ↓cell1, ↓cell2, ↓rng1, ↓rng2, ↓Lit.d, ↓List.getElem?_cons_zero, ↓List.getElem?_cons_succ, ↓List.set_cons_zero, ↓List.set_cons_succ, ↓List.length_cons, ↓List.length_nil, ↓List.length_set, ↓natAbs10, ↓tapeP_l, ↓after_next, ↓after_cont, ↓after_brk, ↓after_ret, ↓items_t, ↓items_l, ↓rev_l, ↓List.map_cons, ↓List.map_nil, ↓wipeR, ↓restR, ↓Option.getD_some, ↓Option.getD_none, ↓setTgs_nm, ↓compP_eq, Nat.reduceAdd, Nat.reduceLT, Nat.reduceLeDiff, Int.reduceLE, Int.reduceLT, Nat.reducePow, true_and, Int.reduceToNat, Int.reducePow, Int.reduceNeg, List.any_cons, List.any_nil, isTy, Bool.or_false, hl, Bool.not_false]
      exact no2
    | _ =>
      simp only [↓wi_nil (ρ := _ :: _), ↓wi_cons (ρ := _ :: _), ↓wi_asg (ρ := _ :: _), ↓wi_tape (ρ := _ :: _), ↓wi_asgT (ρ := _ :: _), ↓wi_setI (ρ := _ :: _), ↓wi_mt (ρ := _ :: _), ↓wi_ret (ρ := _ :: _), ↓wi_retN (ρ := _ :: _), ↓wi_iff (ρ := _ :: _), ↓wi_exp (ρ := _ :: _), ↓wi_pass (ρ := _ :: _), ↓wi_brk (ρ := _ :: _), ↓wi_cont (ρ := _ :: _), ↓we_lit (ρ := _ :: _), ↓we_gl (ρ := _ :: _), ↓we_var (ρ := _ :: _), ↓we_tup (ρ := _ :: _), ↓we_lst (ρ := _ :: _), ↓we_op (ρ := _ :: _), ↓we_neg (ρ := _ :: _), ↓we_cmp (ρ := _ :: _), ↓we_chain (ρ := _ :: _), ↓we_and (ρ := _ :: _), ↓we_or (ρ := _ :: _), ↓we_not (ρ := _ :: _), ↓we_ite (ρ := _ :: _), ↓we_idx (ρ := _ :: _), ↓we_slc (ρ := _ :: _), ↓we_rev (ρ := _ :: _), ↓we_call (ρ := _ :: _), ↓we_isi (ρ := _ :: _), ↓we_bi (ρ := _ :: _), ↓we_comp (ρ := _ :: _), ↓wl_nil (ρ := _ :: _), ↓wl_cons (ρ := _ :: _), ↓wpp_nil (ρ := _ :: _), ↓wpp_cons (ρ := _ :: _), ↓wa_nil (ρ := _ :: _), ↓wa_cons (ρ := _ :: _), ↓wo_nil (ρ := _ :: _), ↓wo_som (ρ := _ :: _), ↓ws_rg1 (ρ := _ :: _), ↓ws_rg2 (ρ := _ :: _), ↓ws_sq (ρ := _ :: _), ↓wc_nil (ρ := _ :: _), ↓wc_som (ρ := _ :: _), ↓brB_t, ↓brB_f, ↓varP_dat, ↓varP_own, ↓argP_dat, ↓argP_fresh, ↓callP1, ↓callP2, ↓callP3, ↓callP4, ↓callP5, ↓seq_next, ↓seq_ret, ↓seq_brk, ↓seq_cont, ↓asgP_dat, ↓asgP_own, ↓asgP_fr, ↓retP_dat, ↓retP_fresh, ↓done_ret, ↓done_next, ↓onO_some, ↓fz_dat, ↓fz_fresh, ↓add_ii, ↓sub_ii, ↓mul_ii, ↓mod_ii, ↓div_ii, ↓pow_ii, ↓add_tt, ↓add_ll, ↓add_ss, ↓mul_ti, ↓neg_i, ↓lt_ii, ↓le_ii, ↓gt_ii, ↓ge_ii, ↓eq_ii, ↓ne_ii, ↓eq_bb, ↓ne_bb, ↓eq_ss, ↓ne_ss, ↓len_t, ↓len_l, ↓len_s, ↓int_i, ↓list_t, ↓list_l, ↓list_s, ↓tuple_t, ↓tuple_l, ↓max_ii, ↓min_ii, ↓all_l, ↓any_l, ↓cell0, ↓cell1, ↓cell2, ↓rng1, ↓rng2, ↓Lit.d, ↓List.getElem?_cons_zero, ↓List.getElem?_cons_succ, ↓List.set_cons_zero, ↓List.set_cons_succ, ↓List.length_cons, ↓List.length_nil, ↓List.length_set, ↓natAbs10, ↓tapeP_l, ↓after_next, ↓after_cont, ↓after_brk, ↓after_ret, ↓items_t, ↓items_l, ↓rev_l, ↓List.map_cons, ↓List.map_nil, ↓wipeR, ↓restR, ↓Option.getD_some, ↓Option.getD_none, ↓setTgs_nm, ↓compP_eq, Nat.reduceAdd, Nat.reduceLT, Nat.reduceLeDiff, Int.reduceLE, Int.reduceLT, Nat.reducePow, true_and, Int.reduceToNat, Int.reducePow, Int.reduceNeg, List.any_cons, List.any_nil, isTy, Bool.or_false]
      exact no2
  obtain ⟨x, y, z, rfl⟩ := hd
  obtain ⟨i, rfl⟩ : ∃ i, j = i + 1 := by
    cases j with
    | zero => exact hr.elim
    | succ i => exact ⟨i, rfl⟩
  have hr : [x, y, z].length ≤ N ∧ ∀ q ∈ [x, y, z], Fit N i q := hr
  refine wi_cut (fun ρ S' => (isW x && isW y && isW z) = true ∧ At [some (.dat (.tup ds)), some (.dat (.tup [x, y, z])), none] S ρ S') ?_ ?_
  · refine wi_if (fun t ρ S' => t = !(isW x && isW y && isW z) ∧ At [some (.dat (.tup ds)), some (.dat (.tup [x, y, z])), none] S ρ S') ?_ ?_ ?_
    · simp only [↓wi_nil (ρ := _ :: _), ↓wi_cons (ρ := _ :: _), ↓wi_asg (ρ := _ :: _), ↓wi_tape (ρ := _ :: _), ↓wi_asgT (ρ := _ :: _), ↓wi_setI (ρ := _ :: _), ↓wi_mt (ρ := _ :: _), ↓wi_ret (ρ := _ :: _), ↓wi_retN (ρ := _ :: _), ↓wi_iff (ρ := _ :: _), ↓wi_exp (ρ := _ :: _), ↓wi_pass (ρ := _ :: _), ↓wi_brk (ρ := _ :: _), ↓wi_cont (ρ := _ :: _), ↓we_lit (ρ := _ :: _), ↓we_gl (ρ := _ :: _), ↓we_var (ρ := _ :: _), ↓we_tup (ρ := _ :: _), ↓we_lst (ρ := _ :: _), ↓we_op (ρ := _ :: _), ↓we_neg (ρ := _ :: _), ↓we_cmp (ρ := _ :: _), ↓we_chain (ρ := _ :: _), ↓we_and (ρ := _ :: _), ↓we_or (ρ := _ :: _), ↓we_not (ρ := _ :: _), ↓we_ite (ρ := _ :: _), ↓we_idx (ρ := _ :: _), ↓we_slc (ρ := _ :: _), ↓we_rev (ρ := _ :: _), ↓we_call (ρ := _ :: _), ↓we_isi (ρ := _ :: _), ↓we_bi (ρ := _ :: _), ↓we_comp (ρ := _ :: _), ↓wl_nil (ρ := _ :: _), ↓wl_cons (ρ := _ :: _), ↓wpp_nil (ρ := _ :: _), ↓wpp_cons (ρ := _ :: _), ↓wa_nil (ρ := _ :: _), ↓wa_cons (ρ := _ :: _), ↓wo_nil (ρ := _ :: _), ↓wo_som (ρ := _ :: _), ↓ws_rg1 (ρ := _ :: _), ↓ws_rg2 (ρ := _ :: _), ↓ws_sq (ρ := _ :: _), ↓wc_nil (ρ := _ :: _), ↓wc_som (ρ := _ :: _), ↓brB_t, ↓brB_f, ↓varP_dat, ↓varP_own, ↓argP_dat, ↓argP_fresh, ↓callP1, ↓callP2, ↓callP3, ↓callP4, ↓callP5, ↓seq_next, ↓seq_ret, ↓seq_brk, ↓seq_cont, ↓asgP_dat, ↓asgP_own, ↓asgP_fr, ↓retP_dat, ↓retP_fresh, ↓done_ret, ↓done_next, ↓onO_some, ↓fz_dat, ↓fz_fresh, ↓add_ii, ↓sub_ii, ↓mul_ii, ↓mod_ii, ↓div_ii, ↓pow_ii, ↓add_tt, ↓add_ll, ↓add_ss, ↓mul_ti, ↓neg_i, ↓lt_ii, ↓le_ii, ↓gt_ii, ↓ge_ii, ↓eq_ii, ↓ne_ii, ↓eq_bb, ↓ne_bb, ↓eq_ss, ↓ne_ss, ↓len_t, ↓len_l, ↓len_s, ↓int_i, ↓list_t, ↓list_l, ↓list_s, ↓tuple_t, ↓tuple_l, ↓max_ii, ↓min_ii, ↓all_l, ↓any_l, ↓cell0, ↓cell1, ↓cell2, ↓rng1, ↓rng2, ↓Lit.d, ↓List.getElem?_cons_zero, ↓List.getElem?_cons_succ, ↓List.set_cons_zero, ↓List.set_cons_succ, ↓List.length_cons, ↓List.length_nil, ↓List.length_set, ↓natAbs10, ↓tapeP_l, ↓after_next, ↓after_cont, ↓after_brk, ↓after_ret, ↓items_t, ↓items_l, ↓rev_l, ↓List.map_cons, ↓List.map_nil, ↓wipeR, ↓restR, ↓Option.getD_some, ↓Option.getD_none, ↓setTgs_nm, ↓compP_eq, Nat.reduceAdd, Nat.reduceLT, Nat.reduceLeDiff, Int.reduceLE, Int.reduceLT, Nat.reducePow, true_and, Int.reduceToNat, Int.reducePow, Int.reduceNeg, List.any_cons, List.any_nil, isTy, Bool.or_false]
      refine brB_of (fun h => ?_) (fun h => ?_)
      · exact absurd h (by decide)
      refine ⟨rfl, by show 3 < sizeLine; decide, ?_⟩
      refine comp_pure (g := fun d => if isW d then none else some d) (fun d _ => ?_) ?_
      · rw [wp_turn]
        simp only [↓wi_nil (ρ := _ :: _), ↓wi_cons (ρ := _ :: _), ↓wi_asg (ρ := _ :: _), ↓wi_tape (ρ := _ :: _), ↓wi_asgT (ρ := _ :: _), ↓wi_setI (ρ := _ :: _), ↓wi_mt (ρ := _ :: _), ↓wi_ret (ρ := _ :: _), ↓wi_retN (ρ := _ :: _), ↓wi_iff (ρ := _ :: _), ↓wi_exp (ρ := _ :: _), ↓wi_pass (ρ := _ :: _), ↓wi_brk (ρ := _ :: _), ↓wi_cont (ρ := _ :: _), ↓we_lit (ρ := _ :: _), ↓we_gl (ρ := _ :: _), ↓we_var (ρ := _ :: _), ↓we_tup (ρ := _ :: _), ↓we_lst (ρ := _ :: _), ↓we_op (ρ := _ :: _), ↓we_neg (ρ := _ :: _), ↓we_cmp (ρ := _ :: _), ↓we_chain (ρ := _ :: _), ↓we_and (ρ := _ :: _), ↓we_or (ρ := _ :: _), ↓we_not (ρ := _ :: _), ↓we_ite (ρ := _ :: _), ↓we_idx (ρ := _ :: _), ↓we_slc (ρ := _ :: _), ↓we_rev (ρ := _ :: _), ↓we_call (ρ := _ :: _), ↓we_isi (ρ := _ :: _), ↓we_bi (ρ := _ :: _), ↓we_comp (ρ := _ :: _), ↓wl_nil (ρ := _ :: _), ↓wl_cons (ρ := _ :: _), ↓wpp_nil (ρ := _ :: _), ↓wpp_cons (ρ := _ :: _), ↓wa_nil (ρ := _ :: _), ↓wa_cons (ρ := _ :: _), ↓wo_nil (ρ := _ :: _), ↓wo_som (ρ := _ :: _), ↓ws_rg1 (ρ := _ :: _), ↓ws_rg2 (ρ := _ :: _), ↓ws_sq (ρ := _ :: _), ↓wc_nil (ρ := _ :: _), ↓wc_som (ρ := _ :: _), ↓brB_t, ↓brB_f, ↓varP_dat, ↓varP_own, ↓argP_dat, ↓argP_fresh, ↓callP1, ↓callP2, ↓callP3, ↓callP4, ↓callP5, ↓seq_next, ↓seq_ret, ↓seq_brk, ↓seq_cont, ↓asgP_dat, ↓asgP_own, ↓asgP_fr, ↓retP_dat, ↓retP_fresh, ↓done_ret, ↓done_next, ↓onO_some, ↓fz_dat, ↓fz_fresh, ↓add_ii, ↓sub_ii, ↓mul_ii, ↓mod_ii, ↓div_ii, ↓pow_ii, ↓add_tt, ↓add_ll, ↓add_ss, ↓mul_ti, ↓neg_i, ↓lt_ii, ↓le_ii, ↓gt_ii, ↓ge_ii, ↓eq_ii, ↓ne_ii, ↓eq_bb, ↓ne_bb, ↓eq_ss, ↓ne_ss, ↓len_t, ↓len_l, ↓len_s, ↓int_i, ↓list_t, ↓list_l, ↓list_s, ↓tuple_t, ↓tuple_l, ↓max_ii, ↓min_ii, ↓all_l, ↓any_l, ↓cell0, ↓cell1, ↓cell2, ↓rng1, ↓rng2, ↓Lit.d, ↓List.getElem?_cons_zero, ↓List.getElem?_cons_succ, ↓List.set_cons_zero, ↓List.set_cons_succ, ↓List.length_cons, ↓List.length_nil, ↓List.length_set, ↓natAbs10, ↓tapeP_l, ↓after_next, ↓after_cont, ↓after_brk, ↓after_ret, ↓items_t, ↓items_l, ↓rev_l, ↓List.map_cons, ↓List.map_nil, ↓wipeR, ↓restR, ↓Option.getD_some, ↓Option.getD_none, ↓setTgs_nm, ↓compP_eq, Nat.reduceAdd, Nat.reduceLT, Nat.reduceLeDiff, Int.reduceLE, Int.reduceLT, Nat.reducePow, true_and, Int.reduceToNat, Int.reducePow, Int.reduceNeg]
        refine whole_ok n _ _ _ ?_
        simp only [↓wi_nil (ρ := _ :: _), ↓wi_cons (ρ := _ :: _), ↓wi_asg (ρ := _ :: _), ↓wi_tape (ρ := _ :: _), ↓wi_asgT (ρ := _ :: _), ↓wi_setI (ρ := _ :: _), ↓wi_mt (ρ := _ :: _), ↓wi_ret (ρ := _ :: _), ↓wi_retN (ρ := _ :: _), ↓wi_iff (ρ := _ :: _), ↓wi_exp (ρ := _ :: _), ↓wi_pass (ρ := _ :: _), ↓wi_brk (ρ := _ :: _), ↓wi_cont (ρ := _ :: _), ↓we_lit (ρ := _ :: _), ↓we_gl (ρ := _ :: _), ↓we_var (ρ := _ :: _), ↓we_tup (ρ := _ :: _), ↓we_lst (ρ := _ :: _), ↓we_op (ρ := _ :: _), ↓we_neg (ρ := _ :: _), ↓we_cmp (ρ := _ :: _), ↓we_chain (ρ := _ :: _), ↓we_and (ρ := _ :: _), ↓we_or (ρ := _ :: _), ↓we_not (ρ := _ :: _), ↓we_ite (ρ := _ :: _), ↓we_idx (ρ := _ :: _), ↓we_slc (ρ := _ :: _), ↓we_rev (ρ := _ :: _), ↓we_call (ρ := _ :: _), ↓we_isi (ρ := _ :: _), ↓we_bi (ρ := _ :: _), ↓we_comp (ρ := _ :: _), ↓wl_nil (ρ := _ :: _), ↓wl_cons (ρ := _ :: _), ↓wpp_nil (ρ := _ :: _), ↓wpp_cons (ρ := _ :: _), ↓wa_nil (ρ := _ :: _), ↓wa_cons (ρ := _ :: _), ↓wo_nil (ρ := _ :: _), ↓wo_som (ρ := _ :: _), ↓ws_rg1 (ρ := _ :: _), ↓ws_rg2 (ρ := _ :: _), ↓ws_sq (ρ := _ :: _), ↓wc_nil (ρ := _ :: _), ↓wc_som (ρ := _ :: _), ↓brB_t, ↓brB_f, ↓varP_dat, ↓varP_own, ↓argP_dat, ↓argP_fresh, ↓callP1, ↓callP2, ↓callP3, ↓callP4, ↓callP5, ↓seq_next, ↓seq_ret, ↓seq_brk, ↓seq_cont, ↓asgP_dat, ↓asgP_own, ↓asgP_fr, ↓retP_dat, ↓retP_fresh, ↓done_ret, ↓done_next, ↓onO_some, ↓fz_dat, ↓fz_fresh, ↓add_ii, ↓sub_ii, ↓mul_ii, ↓mod_ii, ↓div_ii, ↓pow_ii, ↓add_tt, ↓add_ll, ↓add_ss, ↓mul_ti, ↓neg_i, ↓lt_ii, ↓le_ii, ↓gt_ii, ↓ge_ii, ↓eq_ii, ↓ne_ii, ↓eq_bb, ↓ne_bb, ↓eq_ss, ↓ne_ss, ↓len_t, ↓len_l, ↓len_s, ↓int_i, ↓list_t, ↓list_l, ↓list_s, ↓tuple_t, ↓tuple_l, ↓max_ii, ↓min_ii, ↓all_l, ↓any_l, ↓cell0, ↓cell1, ↓cell2, ↓rng1, ↓rng2, ↓Lit.d, ↓List.getElem?_cons_zero, ↓List.getElem?_cons_succ, ↓List.set_cons_zero, ↓List.set_cons_succ, ↓List.length_cons, ↓List.length_nil, ↓List.length_set, ↓natAbs10, ↓tapeP_l, ↓after_next, ↓after_cont, ↓after_brk, ↓after_ret, ↓items_t, ↓items_l, ↓rev_l, ↓List.map_cons, ↓List.map_nil, ↓wipeR, ↓restR, ↓Option.getD_some, ↓Option.getD_none, ↓setTgs_nm, ↓compP_eq, Nat.reduceAdd, Nat.reduceLT, Nat.reduceLeDiff, Int.reduceLE, Int.reduceLT, Nat.reducePow, true_and, Int.reduceToNat, Int.reducePow, Int.reduceNeg]
        refine brB_of (fun h => ?_) (fun h => ?_)
        · simp only [↓wi_nil (ρ := _ :: _), ↓wi_cons (ρ := _ :: _), ↓wi_asg (ρ := _ :: _), ↓wi_tape (ρ := _ :: _), ↓wi_asgT (ρ := _ :: _), ↓wi_setI (ρ := _ :: _), ↓wi_mt (ρ := _ :: _), ↓wi_ret (ρ := _ :: _), ↓wi_retN (ρ := _ :: _), ↓wi_iff (ρ := _ :: _), ↓wi_exp (ρ := _ :: _), ↓wi_pass (ρ := _ :: _), ↓wi_brk (ρ := _ :: _), ↓wi_cont (ρ := _ :: _), ↓we_lit (ρ := _ :: _), ↓we_gl (ρ := _ :: _), ↓we_var (ρ := _ :: _), ↓we_tup (ρ := _ :: _), ↓we_lst (ρ := _ :: _), ↓we_op (ρ := _ :: _), ↓we_neg (ρ := _ :: _), ↓we_cmp (ρ := _ :: _), ↓we_chain (ρ := _ :: _), ↓we_and (ρ := _ :: _), ↓we_or (ρ := _ :: _), ↓we_not (ρ := _ :: _), ↓we_ite (ρ := _ :: _), ↓we_idx (ρ := _ :: _), ↓we_slc (ρ := _ :: _), ↓we_rev (ρ := _ :: _), ↓we_call (ρ := _ :: _), ↓we_isi (ρ := _ :: _), ↓we_bi (ρ := _ :: _), ↓we_comp (ρ := _ :: _), ↓wl_nil (ρ := _ :: _), ↓wl_cons (ρ := _ :: _), ↓wpp_nil (ρ := _ :: _), ↓wpp_cons (ρ := _ :: _), ↓wa_nil (ρ := _ :: _), ↓wa_cons (ρ := _ :: _), ↓wo_nil (ρ := _ :: _), ↓wo_som (ρ := _ :: _), ↓ws_rg1 (ρ := _ :: _), ↓ws_rg2 (ρ := _ :: _), ↓ws_sq (ρ := _ :: _), ↓wc_nil (ρ := _ :: _), ↓wc_som (ρ := _ :: _), ↓brB_t, ↓brB_f, ↓varP_dat, ↓varP_own, ↓argP_dat, ↓argP_fresh, ↓callP1, ↓callP2, ↓callP3, ↓callP4, ↓callP5, ↓seq_next, ↓seq_ret, ↓seq_brk, ↓seq_cont, ↓asgP_dat, ↓asgP_own, ↓asgP_fr, ↓retP_dat, ↓retP_fresh, ↓done_ret, ↓done_next, ↓onO_some, ↓fz_dat, ↓fz_fresh, ↓add_ii, ↓sub_ii, ↓mul_ii, ↓mod_ii, ↓div_ii, ↓pow_ii, ↓add_tt, ↓add_ll, ↓add_ss, ↓mul_ti, ↓neg_i, ↓lt_ii, ↓le_ii, ↓gt_ii, ↓ge_ii, ↓eq_ii, ↓ne_ii, ↓eq_bb, ↓ne_bb, ↓eq_ss, ↓ne_ss, ↓len_t, ↓len_l, ↓len_s, ↓int_i, ↓list_t, ↓list_l, ↓list_s, ↓tuple_t, ↓tuple_l, ↓max_ii, ↓min_ii, ↓all_l, ↓any_l, ↓cell0, ↓cell1, ↓cell2, ↓rng1, ↓rng2, ↓Lit.d, ↓List.getElem?_cons_zero, ↓List.getElem?_cons_succ, ↓List.set_cons_zero, ↓List.set_cons_succ, ↓List.length_cons, ↓List.length_nil, ↓List.length_set, ↓natAbs10, ↓tapeP_l, ↓after_next, ↓after_cont, ↓after_brk, ↓after_ret, ↓items_t, ↓items_l, ↓rev_l, ↓List.map_cons, ↓List.map_nil, ↓wipeR, ↓restR, ↓Option.getD_some, ↓Option.getD_none, ↓setTgs_nm, ↓compP_eq, Nat.reduceAdd, Nat.reduceLT, Nat.reduceLeDiff, Int.reduceLE, Int.reduceLT, Nat.reducePow, true_and, Int.reduceToNat, Int.reducePow, Int.reduceNeg, h]
          exact ⟨by simp, trivial⟩
        · simp only [↓wi_nil (ρ := _ :: _), ↓wi_cons (ρ := _ :: _), ↓wi_asg (ρ := _ :: _), ↓wi_tape (ρ := _ :: _), ↓wi_asgT (ρ := _ :: _), ↓wi_setI (ρ := _ :: _), ↓wi_mt (ρ := _ :: _), ↓wi_ret (ρ := _ :: _), ↓wi_retN (ρ := _ :: _), ↓wi_iff (ρ := _ :: _), ↓wi_exp (ρ := _ :: _), ↓wi_pass (ρ := _ :: _), ↓wi_brk (ρ := _ :: _), ↓wi_cont (ρ := _ :: _), ↓we_lit (ρ := _ :: _), ↓we_gl (ρ := _ :: _), ↓we_var (ρ := _ :: _), ↓we_tup (ρ := _ :: _), ↓we_lst (ρ := _ :: _), ↓we_op (ρ := _ :: _), ↓we_neg (ρ := _ :: _), ↓we_cmp (ρ := _ :: _), ↓we_chain (ρ := _ :: _), ↓we_and (ρ := _ :: _), ↓we_or (ρ := _ :: _), ↓we_not (ρ := _ :: _), ↓we_ite (ρ := _ :: _), ↓we_idx (ρ := _ :: _), ↓we_slc (ρ := _ :: _), ↓we_rev (ρ := _ :: _), ↓we_call (ρ := _ :: _), ↓we_isi (ρ := _ :: _), ↓we_bi (ρ := _ :: _), ↓we_comp (ρ := _ :: _), ↓wl_nil (ρ := _ :: _), ↓wl_cons (ρ := _ :: _), ↓wpp_nil (ρ := _ :: _), ↓wpp_cons (ρ := _ :: _), ↓wa_nil (ρ := _ :: _), ↓wa_cons (ρ := _ :: _), ↓wo_nil (ρ := _ :: _), ↓wo_som (ρ := _ :: _), ↓ws_rg1 (ρ := _ :: _), ↓ws_rg2 (ρ := _ :: _), ↓ws_sq (ρ := _ :: _), ↓wc_nil (ρ := _ :: _), ↓wc_som (ρ := _ :: _), ↓brB_t, ↓brB_f, ↓varP_dat, ↓varP_own, ↓argP_dat, ↓argP_fresh, ↓callP1, ↓callP2, ↓callP3, ↓callP4, ↓callP5, ↓seq_next, ↓seq_ret, ↓seq_brk, ↓seq_cont, ↓asgP_dat, ↓asgP_own, ↓asgP_fr, ↓retP_dat, ↓retP_fresh, ↓done_ret, ↓done_next, ↓onO_some, ↓fz_dat, ↓fz_fresh, ↓add_ii, ↓sub_ii, ↓mul_ii, ↓mod_ii, ↓div_ii, ↓pow_ii, ↓add_tt, ↓add_ll, ↓add_ss, ↓mul_ti, ↓neg_i, ↓lt_ii, ↓le_ii, ↓gt_ii, ↓ge_ii, ↓eq_ii, ↓ne_ii, ↓eq_bb, ↓ne_bb, ↓eq_ss, ↓ne_ss, ↓len_t, ↓len_l, ↓len_s, ↓int_i, ↓list_t, ↓list_l, ↓list_s, ↓tuple_t, ↓tuple_l, ↓max_ii, ↓min_ii, ↓all_l, ↓any_l, ↓cell0, ↓cell1, ↓cell2, ↓rng1, ↓rng2, ↓Lit.d, ↓List.getElem?_cons_zero, ↓List.getElem?_cons_succ, ↓List.set_cons_zero, ↓List.set_cons_succ, ↓List.length_cons, ↓List.length_nil, ↓List.length_set, ↓natAbs10, ↓tapeP_l, ↓after_next, ↓after_cont, ↓after_brk, ↓after_ret, ↓items_t, ↓items_l, ↓rev_l, ↓List.map_cons, ↓List.map_nil, ↓wipeR, ↓restR, ↓Option.getD_some, ↓Option.getD_none, ↓setTgs_nm, ↓compP_eq, Nat.reduceAdd, Nat.reduceLT, Nat.reduceLeDiff, Int.reduceLE, Int.reduceLT, Nat.reducePow, true_and, Int.reduceToNat, Int.reducePow, Int.reduceNeg, h]
          exact ⟨by simp, trivial⟩
      · simp only [↓wi_nil (ρ := _ :: _), ↓wi_cons (ρ := _ :: _), ↓wi_asg (ρ := _ :: _), ↓wi_tape (ρ := _ :: _), ↓wi_asgT (ρ := _ :: _), ↓wi_setI (ρ := _ :: _), ↓wi_mt (ρ := _ :: _), ↓wi_ret (ρ := _ :: _), ↓wi_retN (ρ := _ :: _), ↓wi_iff (ρ := _ :: _), ↓wi_exp (ρ := _ :: _), ↓wi_pass (ρ := _ :: _), ↓wi_brk (ρ := _ :: _), ↓wi_cont (ρ := _ :: _), ↓we_lit (ρ := _ :: _), ↓we_gl (ρ := _ :: _), ↓we_var (ρ := _ :: _), ↓we_tup (ρ := _ :: _), ↓we_lst (ρ := _ :: _), ↓we_op (ρ := _ :: _), ↓we_neg (ρ := _ :: _), ↓we_cmp (ρ := _ :: _), ↓we_chain (ρ := _ :: _), ↓we_and (ρ := _ :: _), ↓we_or (ρ := _ :: _), ↓we_not (ρ := _ :: _), ↓we_ite (ρ := _ :: _), ↓we_idx (ρ := _ :: _), ↓we_slc (ρ := _ :: _), ↓we_rev (ρ := _ :: _), ↓we_call (ρ := _ :: _), ↓we_isi (ρ := _ :: _), ↓we_bi (ρ := _ :: _), ↓we_comp (ρ := _ :: _), ↓wl_nil (ρ := _ :: _), ↓wl_cons (ρ := _ :: _), ↓wpp_nil (ρ := _ :: _), ↓wpp_cons (ρ := _ :: _), ↓wa_nil (ρ := _ :: _), ↓wa_cons (ρ := _ :: _), ↓wo_nil (ρ := _ :: _), ↓wo_som (ρ := _ :: _), ↓ws_rg1 (ρ := _ :: _), ↓ws_rg2 (ρ := _ :: _), ↓ws_sq (ρ := _ :: _), ↓wc_nil (ρ := _ :: _), ↓wc_som (ρ := _ :: _), ↓brB_t, ↓brB_f, ↓varP_dat, ↓varP_own, ↓argP_dat, ↓argP_fresh, ↓callP1, ↓callP2, ↓callP3, ↓callP4, ↓callP5, ↓seq_next, ↓seq_ret, ↓seq_brk, ↓seq_cont, ↓asgP_dat, ↓asgP_own, ↓asgP_fr, ↓retP_dat, ↓retP_fresh, ↓done_ret, ↓done_next, ↓onO_some, ↓fz_dat, ↓fz_fresh, ↓add_ii, ↓sub_ii, ↓mul_ii, ↓mod_ii, ↓div_ii, ↓pow_ii, ↓add_tt, ↓add_ll, ↓add_ss, ↓mul_ti, ↓neg_i, ↓lt_ii, ↓le_ii, ↓gt_ii, ↓ge_ii, ↓eq_ii, ↓ne_ii, ↓eq_bb, ↓ne_bb, ↓eq_ss, ↓ne_ss, ↓len_t, ↓len_l, ↓len_s, ↓int_i, ↓list_t, ↓list_l, ↓list_s, ↓tuple_t, ↓tuple_l, ↓max_ii, ↓min_ii, ↓all_l, ↓any_l, ↓cell0, ↓cell1, ↓cell2, ↓rng1, ↓rng2, ↓Lit.d, ↓List.getElem?_cons_zero, ↓List.getElem?_cons_succ, ↓List.set_cons_zero, ↓List.set_cons_succ, ↓List.length_cons, ↓List.length_nil, ↓List.length_set, ↓natAbs10, ↓tapeP_l, ↓after_next, ↓after_cont, ↓after_brk, ↓after_ret, ↓items_t, ↓items_l, ↓rev_l, ↓List.map_cons, ↓List.map_nil, ↓wipeR, ↓restR, ↓Option.getD_some, ↓Option.getD_none, ↓setTgs_nm, ↓compP_eq, Nat.reduceAdd, Nat.reduceLT, Nat.reduceLeDiff, Int.reduceLE, Int.reduceLT, Nat.reducePow, true_and, Int.reduceToNat, Int.reducePow, Int.reduceNeg]
        refine ⟨by decide, ne_nil (N := N) (k := i) (by omega) (fun q hq => ?_) ?_⟩
        · obtain ⟨p, hp, e⟩ := List.mem_filterMap.mp hq
          split at e <;> cases e
          exact hr.2 _ hp
        · refine ⟨_, rfl, ?_, at_mk⟩
          cases hx : isW x <;> cases hy : isW y <;> cases hz : isW z <;> simp [hx, hy, hz]
    · rintro _ _ ⟨h, rfl, rfl⟩
      simp only [↓wi_nil (ρ := _ :: _), ↓wi_cons (ρ := _ :: _), ↓wi_asg (ρ := _ :: _), ↓wi_tape (ρ := _ :: _), ↓wi_asgT (ρ := _ :: _), ↓wi_setI (ρ := _ :: _), ↓wi_mt (ρ := _ :: _), ↓wi_ret (ρ := _ :: _), ↓wi_retN (ρ := _ :: _), ↓wi_iff (ρ := _ :: _), ↓wi_exp (ρ := _ :: _), ↓wi_pass (ρ := _ :: _), ↓wi_brk (ρ := _ :: _), ↓wi_cont (ρ := _ :: _), ↓we_lit (ρ := _ :: _), ↓we_gl (ρ := _ :: _), ↓we_var (ρ := _ :: _), ↓we_tup (ρ := _ :: _), ↓we_lst (ρ := _ :: _), ↓we_op (ρ := _ :: _), ↓we_neg (ρ := _ :: _), ↓we_cmp (ρ := _ :: _), ↓we_chain (ρ := _ :: _), ↓we_and (ρ := _ :: _), ↓we_or (ρ := _ :: _), ↓we_not (ρ := _ :: _), ↓we_ite (ρ := _ :: _), ↓we_idx (ρ := _ :: _), ↓we_slc (ρ := _ :: _), ↓we_rev (ρ := _ :: _), ↓we_call (ρ := _ :: _), ↓we_isi (ρ := _ :: _), ↓we_bi (ρ := _ :: _), ↓we_comp (ρ := _ :: _), ↓wl_nil (ρ := _ :: _), ↓wl_cons (ρ := _ :: _), ↓wpp_nil (ρ := _ :: _), ↓wpp_cons (ρ := _ :: _), ↓wa_nil (ρ := _ :: _), ↓wa_cons (ρ := _ :: _), ↓wo_nil (ρ := _ :: _), ↓wo_som (ρ := _ :: _), ↓ws_rg1 (ρ := _ :: _), ↓ws_rg2 (ρ := _ :: _), ↓ws_sq (ρ := _ :: _), ↓wc_nil (ρ := _ :: _), ↓wc_som (ρ := _ :: _), ↓brB_t, ↓brB_f, ↓varP_dat, ↓varP_own, ↓argP_dat, ↓argP_fresh, ↓callP1, ↓callP2, ↓callP3, ↓callP4, ↓callP5, ↓seq_next, ↓seq_ret, ↓seq_brk, ↓seq_cont, ↓asgP_dat, ↓asgP_own, ↓asgP_fr, ↓retP_dat, ↓retP_fresh, ↓done_ret, ↓done_next, ↓onO_some, ↓fz_dat, ↓fz_fresh, ↓add_ii, ↓sub_ii, ↓mul_ii, ↓mod_ii, ↓div_ii, ↓pow_ii, ↓add_tt, ↓add_ll, ↓add_ss, ↓mul_ti, ↓neg_i, ↓lt_ii, ↓le_ii, ↓gt_ii, ↓ge_ii, ↓eq_ii, ↓ne_ii, ↓eq_bb, ↓ne_bb, ↓eq_ss, ↓ne_ss, ↓len_t, ↓len_l, ↓len_s, ↓int_i, ↓list_t, ↓list_l, ↓list_s, ↓tuple_t, ↓tuple_l, ↓max_ii, ↓min_ii, ↓all_l, ↓any_l, ↓cell0, ↓cell1, ↓cell2, ↓rng1, ↓rng2, ↓Lit.d, ↓List.getElem?_cons_zero, ↓List.getElem?_cons_succ, ↓List.set_cons_zero, ↓List.set_cons_succ, ↓List.length_cons, ↓List.length_nil, ↓List.length_set, ↓natAbs10, ↓tapeP_l, ↓after_next, ↓after_cont, ↓after_brk, ↓after_ret, ↓items_t, ↓items_l, ↓rev_l, ↓List.map_cons, ↓List.map_nil, ↓wipeR, ↓restR, ↓Option.getD_some, ↓Option.getD_none, ↓setTgs_nm, ↓compP_eq, Nat.reduceAdd, Nat.reduceLT, Nat.reduceLeDiff, Int.reduceLE, Int.reduceLT, Nat.reducePow, true_and, Int.reduceToNat, Int.reducePow, Int.reduceNeg]
      refine no ?_
      cases x <;> cases y <;> cases z <;> first | rfl | (simp [isW] at h)
    · rintro _ _ ⟨h, rfl, rfl⟩
      simp only [↓wi_nil (ρ := _ :: _), ↓wi_cons (ρ := _ :: _), ↓wi_asg (ρ := _ :: _), ↓wi_tape (ρ := _ :: _), ↓wi_asgT (ρ := _ :: _), ↓wi_setI (ρ := _ :: _), ↓wi_mt (ρ := _ :: _), ↓wi_ret (ρ := _ :: _), ↓wi_retN (ρ := _ :: _), ↓wi_iff (ρ := _ :: _), ↓wi_exp (ρ := _ :: _), ↓wi_pass (ρ := _ :: _), ↓wi_brk (ρ := _ :: _), ↓wi_cont (ρ := _ :: _), ↓we_lit (ρ := _ :: _), ↓we_gl (ρ := _ :: _), ↓we_var (ρ := _ :: _), ↓we_tup (ρ := _ :: _), ↓we_lst (ρ := _ :: _), ↓we_op (ρ := _ :: _), ↓we_neg (ρ := _ :: _), ↓we_cmp (ρ := _ :: _), ↓we_chain (ρ := _ :: _), ↓we_and (ρ := _ :: _), ↓we_or (ρ := _ :: _), ↓we_not (ρ := _ :: _), ↓we_ite (ρ := _ :: _), ↓we_idx (ρ := _ :: _), ↓we_slc (ρ := _ :: _), ↓we_rev (ρ := _ :: _), ↓we_call (ρ := _ :: _), ↓we_isi (ρ := _ :: _), ↓we_bi (ρ := _ :: _), ↓we_comp (ρ := _ :: _), ↓wl_nil (ρ := _ :: _), ↓wl_cons (ρ := _ :: _), ↓wpp_nil (ρ := _ :: _), ↓wpp_cons (ρ := _ :: _), ↓wa_nil (ρ := _ :: _), ↓wa_cons (ρ := _ :: _), ↓wo_nil (ρ := _ :: _), ↓wo_som (ρ := _ :: _), ↓ws_rg1 (ρ := _ :: _), ↓ws_rg2 (ρ := _ :: _), ↓ws_sq (ρ := _ :: _), ↓wc_nil (ρ := _ :: _), ↓wc_som (ρ := _ :: _), ↓brB_t, ↓brB_f, ↓varP_dat, ↓varP_own, ↓argP_dat, ↓argP_fresh, ↓callP1, ↓callP2, ↓callP3, ↓callP4, ↓callP5, ↓seq_next, ↓seq_ret, ↓seq_brk, ↓seq_cont, ↓asgP_dat, ↓asgP_own, ↓asgP_fr, ↓retP_dat, ↓retP_fresh, ↓done_ret, ↓done_next, ↓onO_some, ↓fz_dat, ↓fz_fresh, ↓add_ii, ↓sub_ii, ↓mul_ii, ↓mod_ii, ↓div_ii, ↓pow_ii, ↓add_tt, ↓add_ll, ↓add_ss, ↓mul_ti, ↓neg_i, ↓lt_ii, ↓le_ii, ↓gt_ii, ↓ge_ii, ↓eq_ii, ↓ne_ii, ↓eq_bb, ↓ne_bb, ↓eq_ss, ↓ne_ss, ↓len_t, ↓len_l, ↓len_s, ↓int_i, ↓list_t, ↓list_l, ↓list_s, ↓tuple_t, ↓tuple_l, ↓max_ii, ↓min_ii, ↓all_l, ↓any_l, ↓cell0, ↓cell1, ↓cell2, ↓rng1, ↓rng2, ↓Lit.d, ↓List.getElem?_cons_zero, ↓List.getElem?_cons_succ, ↓List.set_cons_zero, ↓List.set_cons_succ, ↓List.length_cons, ↓List.length_nil, ↓List.length_set, ↓natAbs10, ↓tapeP_l, ↓after_next, ↓after_cont, ↓after_brk, ↓after_ret, ↓items_t, ↓items_l, ↓rev_l, ↓List.map_cons, ↓List.map_nil, ↓wipeR, ↓restR, ↓Option.getD_some, ↓Option.getD_none, ↓setTgs_nm, ↓compP_eq, Nat.reduceAdd, Nat.reduceLT, Nat.reduceLeDiff, Int.reduceLE, Int.reduceLT, Nat.reducePow, true_and, Int.reduceToNat, Int.reducePow, Int.reduceNeg]
      exact ⟨by cases hh : (isW x && isW y && isW z) <;> simp [hh] at h ⊢, at_mk⟩
  rintro _ _ ⟨h, rfl, rfl⟩
  obtain ⟨x, rfl⟩ : ∃ t, x = .int t := by cases x <;> first | exact ⟨_, rfl⟩ | (simp [isW] at h)
  obtain ⟨y, rfl⟩ : ∃ t, y = .int t := by cases y <;> first | exact ⟨_, rfl⟩ | (simp [isW] at h)
  obtain ⟨z, rfl⟩ : ∃ t, z = .int t := by cases z <;> first | exact ⟨_, rfl⟩ | (simp [isW] at h)
  have i0 : ∀ P : D → Prop, onO (ixB S (.tup [.int x, .int y, .int z]) (.int 0)) P = P (.int x) := fun P => rfl
  have i1 : ∀ P : D → Prop, onO (ixB S (.tup [.int x, .int y, .int z]) (.int 1)) P = P (.int y) := fun P => rfl
  have eb : isBoundD (.tup [.int x, .int y, .int z]) = ((decide (0 ≤ x) && decide (x ≤ 6)) && (decide (0 ≤ y) && decide (y ≤ 6)) && !(x == y)) := rfl
  simp only [↓wi_nil (ρ := _ :: _), ↓wi_cons (ρ := _ :: _), ↓wi_asg (ρ := _ :: _), ↓wi_tape (ρ := _ :: _), ↓wi_asgT (ρ := _ :: _), ↓wi_setI (ρ := _ :: _), ↓wi_mt (ρ := _ :: _), ↓wi_ret (ρ := _ :: _), ↓wi_retN (ρ := _ :: _), ↓wi_iff (ρ := _ :: _), ↓wi_exp (ρ := _ :: _), ↓wi_pass (ρ := _ :: _), ↓wi_brk (ρ := _ :: _), ↓wi_cont (ρ := _ :: _), ↓we_lit (ρ := _ :: _), ↓we_gl (ρ := _ :: _), ↓we_var (ρ := _ :: _), ↓we_tup (ρ := _ :: _), ↓we_lst (ρ := _ :: _), ↓we_op (ρ := _ :: _), ↓we_neg (ρ := _ :: _), ↓we_cmp (ρ := _ :: _), ↓we_chain (ρ := _ :: _), ↓we_and (ρ := _ :: _), ↓we_or (ρ := _ :: _), ↓we_not (ρ := _ :: _), ↓we_ite (ρ := _ :: _), ↓we_idx (ρ := _ :: _), ↓we_slc (ρ := _ :: _), ↓we_rev (ρ := _ :: _), ↓we_call (ρ := _ :: _), ↓we_isi (ρ := _ :: _), ↓we_bi (ρ := _ :: _), ↓we_comp (ρ := _ :: _), ↓wl_nil (ρ := _ :: _), ↓wl_cons (ρ := _ :: _), ↓wpp_nil (ρ := _ :: _), ↓wpp_cons (ρ := _ :: _), ↓wa_nil (ρ := _ :: _), ↓wa_cons (ρ := _ :: _), ↓wo_nil (ρ := _ :: _), ↓wo_som (ρ := _ :: _), ↓ws_rg1 (ρ := _ :: _), ↓ws_rg2 (ρ := _ :: _), ↓ws_sq (ρ := _ :: _), ↓wc_nil (ρ := _ :: _), ↓wc_som (ρ := _ :: _), ↓brB_t, ↓brB_f, ↓varP_dat, ↓varP_own, ↓argP_dat, ↓argP_fresh, ↓callP1, ↓callP2, ↓callP3, ↓callP4, ↓callP5, ↓seq_next, ↓seq_ret, ↓seq_brk, ↓seq_cont, ↓asgP_dat, ↓asgP_own, ↓asgP_fr, ↓retP_dat, ↓retP_fresh, ↓done_ret, ↓done_next, ↓onO_some, ↓fz_dat, ↓fz_fresh, ↓add_ii, ↓sub_ii, ↓mul_ii, ↓mod_ii, ↓div_ii, ↓pow_ii, ↓add_tt, ↓add_ll, ↓add_ss, ↓mul_ti, ↓neg_i, ↓lt_ii, ↓le_ii, ↓gt_ii, ↓ge_ii, ↓eq_ii, ↓ne_ii, ↓eq_bb, ↓ne_bb, ↓eq_ss, ↓ne_ss, ↓len_t, ↓len_l, ↓len_s, ↓int_i, ↓list_t, ↓list_l, ↓list_s, ↓tuple_t, ↓tuple_l, ↓max_ii, ↓min_ii, ↓all_l, ↓any_l, ↓cell0, ↓cell1, ↓cell2, ↓rng1, ↓rng2, ↓Lit.d, ↓List.getElem?_cons_zero, ↓List.getElem?_cons_succ, ↓List.set_cons_zero, ↓List.set_cons_succ, ↓List.length_cons, ↓List.length_nil, ↓List.length_set, ↓natAbs10, ↓tapeP_l, ↓after_next, ↓after_cont, ↓after_brk, ↓after_ret, ↓items_t, ↓items_l, ↓rev_l, ↓List.map_cons, ↓List.map_nil, ↓wipeR, ↓restR, ↓Option.getD_some, ↓Option.getD_none, ↓setTgs_nm, ↓compP_eq, Nat.reduceAdd, Nat.reduceLT, Nat.reduceLeDiff, Int.reduceLE, Int.reduceLT, Nat.reducePow, true_and, Int.reduceToNat, Int.reducePow, Int.reduceNeg, i0, i1]
  refine brB_of (fun h0 => brB_of (fun h1 => brB_of (fun h2 => brB_of (fun h3 => brB_of (fun h4 => ?_) (fun h4 => ?_)) (fun h3 => ?_)) (fun h2 => ?_)) (fun h1 => ?_)) (fun h0 => ?_)
  · exact no (by rw [eb]; simp [h0, h1, h2, h3, h4])
  · obtain ⟨g1, g2⟩ := yes (by rw [eb]; simp [h0, h1, h2, h3, h4])
    exact ⟨g1, g2, _, at_mk⟩
  · exact no (by rw [eb]; simp [h0, h1, h2, h3])
  · exact no (by rw [eb]; simp [h0, h1, h2])
  · exact no (by rw [eb]; simp [h0, h1])
  · exact no (by rw [eb]; simp [h0])
def levels : Nat := 40
theorem fit_row {p w : Int} {r : Int × Int × Int} {k : Nat} : Fit 1000 (k + 1) (brow r) := ⟨by show 3 ≤ 1000; decide, fun d hd => by
  simp only [List.mem_cons, List.not_mem_nil, or_false] at hd
  rcases hd with rfl | rfl | rfl <;> exact Fit.int⟩
theorem law_true : ∀ ns : List Int, ns.length ≤ 63 → ∃ S', fam fds (levels + 1) ix_law [.scr ns] [] = some ((.dat, .bl true), S') := by
  intro ns _
  have h : onO (fam fds 41 ix_law [.scr ns] []) (fun p => p.1 = (Kd.dat, D.bl true)) := by
    refine run_of (fd := f_law) rfl rfl rfl ?_
    show wp (evI (fam fds 40) b_law) [some (.dat (.scr ns)), none, none, none, none, none, none] _ _
    unfold b_law
    refine wi_cut (fun ρ S => ∃ S0, TS S0 ∧ At [some (.dat (.scr ns)), some (.dat (.cell 0)), none, none, none, none, none] S0 ρ S) ?_ ?_
    · simp only [↓wi_nil (ρ := _ :: _), ↓wi_cons (ρ := _ :: _), ↓wi_asg (ρ := _ :: _), ↓wi_tape (ρ := _ :: _), ↓wi_asgT (ρ := _ :: _), ↓wi_setI (ρ := _ :: _), ↓wi_mt (ρ := _ :: _), ↓wi_ret (ρ := _ :: _), ↓wi_retN (ρ := _ :: _), ↓wi_iff (ρ := _ :: _), ↓wi_exp (ρ := _ :: _), ↓wi_pass (ρ := _ :: _), ↓wi_brk (ρ := _ :: _), ↓wi_cont (ρ := _ :: _), ↓we_lit (ρ := _ :: _), ↓we_gl (ρ := _ :: _), ↓we_var (ρ := _ :: _), ↓we_tup (ρ := _ :: _), ↓we_lst (ρ := _ :: _), ↓we_op (ρ := _ :: _), ↓we_neg (ρ := _ :: _), ↓we_cmp (ρ := _ :: _), ↓we_chain (ρ := _ :: _), ↓we_and (ρ := _ :: _), ↓we_or (ρ := _ :: _), ↓we_not (ρ := _ :: _), ↓we_ite (ρ := _ :: _), ↓we_idx (ρ := _ :: _), ↓we_slc (ρ := _ :: _), ↓we_rev (ρ := _ :: _), ↓we_call (ρ := _ :: _), ↓we_isi (ρ := _ :: _), ↓we_bi (ρ := _ :: _), ↓we_comp (ρ := _ :: _), ↓wl_nil (ρ := _ :: _), ↓wl_cons (ρ := _ :: _), ↓wpp_nil (ρ := _ :: _), ↓wpp_cons (ρ := _ :: _), ↓wa_nil (ρ := _ :: _), ↓wa_cons (ρ := _ :: _), ↓wo_nil (ρ := _ :: _), ↓wo_som (ρ := _ :: _), ↓ws_rg1 (ρ := _ :: _), ↓ws_rg2 (ρ := _ :: _), ↓ws_sq (ρ := _ :: _), ↓wc_nil (ρ := _ :: _), ↓wc_som (ρ := _ :: _), ↓brB_t, ↓brB_f, ↓varP_dat, ↓varP_own, ↓argP_dat, ↓argP_fresh, ↓callP1, ↓callP2, ↓callP3, ↓callP4, ↓callP5, ↓seq_next, ↓seq_ret, ↓seq_brk, ↓seq_cont, ↓asgP_dat, ↓asgP_own, ↓asgP_fr, ↓retP_dat, ↓retP_fresh, ↓done_ret, ↓done_next, ↓onO_some, ↓fz_dat, ↓fz_fresh, ↓add_ii, ↓sub_ii, ↓mul_ii, ↓mod_ii, ↓div_ii, ↓pow_ii, ↓add_tt, ↓add_ll, ↓add_ss, ↓mul_ti, ↓neg_i, ↓lt_ii, ↓le_ii, ↓gt_ii, ↓ge_ii, ↓eq_ii, ↓ne_ii, ↓eq_bb, ↓ne_bb, ↓eq_ss, ↓ne_ss, ↓len_t, ↓len_l, ↓len_s, ↓int_i, ↓list_t, ↓list_l, ↓list_s, ↓tuple_t, ↓tuple_l, ↓max_ii, ↓min_ii, ↓all_l, ↓any_l, ↓cell0, ↓cell1, ↓cell2, ↓rng1, ↓rng2, ↓Lit.d, ↓List.getElem?_cons_zero, ↓List.getElem?_cons_succ, ↓List.set_cons_zero, ↓List.set_cons_succ, ↓List.length_cons, ↓List.length_nil, ↓List.length_set, ↓natAbs10, ↓tapeP_l, ↓after_next, ↓after_cont, ↓after_brk, ↓after_ret, ↓items_t, ↓items_l, ↓rev_l, ↓List.map_cons, ↓List.map_nil, ↓wipeR, ↓restR, ↓Option.getD_some, ↓Option.getD_none, ↓setTgs_nm, ↓compP_eq, Nat.reduceAdd, Nat.reduceLT, Nat.reduceLeDiff, Int.reduceLE, Int.reduceLT, Nat.reducePow, true_and, Int.reduceToNat, Int.reducePow, Int.reduceNeg]
      exact ⟨by simp [D.isI], _, ⟨_, _, _, rfl⟩, at_mk⟩
    rintro _ _ ⟨S0, hS0, rfl, rfl⟩
    refine wi_cut (fun ρ S => ∃ S0 a b c d, TS S0 ∧ At [some (.dat (.scr ns)), some (.dat (.cell 0)), a, b, c, d, none] S0 ρ S) ?_ ?_
    rotate_left
    · rintro _ _ ⟨S0, a, b, c, d, hS0, rfl, rfl⟩
      simp only [↓wi_nil (ρ := _ :: _), ↓wi_cons (ρ := _ :: _), ↓wi_asg (ρ := _ :: _), ↓wi_tape (ρ := _ :: _), ↓wi_asgT (ρ := _ :: _), ↓wi_setI (ρ := _ :: _), ↓wi_mt (ρ := _ :: _), ↓wi_ret (ρ := _ :: _), ↓wi_retN (ρ := _ :: _), ↓wi_iff (ρ := _ :: _), ↓wi_exp (ρ := _ :: _), ↓wi_pass (ρ := _ :: _), ↓wi_brk (ρ := _ :: _), ↓wi_cont (ρ := _ :: _), ↓we_lit (ρ := _ :: _), ↓we_gl (ρ := _ :: _), ↓we_var (ρ := _ :: _), ↓we_tup (ρ := _ :: _), ↓we_lst (ρ := _ :: _), ↓we_op (ρ := _ :: _), ↓we_neg (ρ := _ :: _), ↓we_cmp (ρ := _ :: _), ↓we_chain (ρ := _ :: _), ↓we_and (ρ := _ :: _), ↓we_or (ρ := _ :: _), ↓we_not (ρ := _ :: _), ↓we_ite (ρ := _ :: _), ↓we_idx (ρ := _ :: _), ↓we_slc (ρ := _ :: _), ↓we_rev (ρ := _ :: _), ↓we_call (ρ := _ :: _), ↓we_isi (ρ := _ :: _), ↓we_bi (ρ := _ :: _), ↓we_comp (ρ := _ :: _), ↓wl_nil (ρ := _ :: _), ↓wl_cons (ρ := _ :: _), ↓wpp_nil (ρ := _ :: _), ↓wpp_cons (ρ := _ :: _), ↓wa_nil (ρ := _ :: _), ↓wa_cons (ρ := _ :: _), ↓wo_nil (ρ := _ :: _), ↓wo_som (ρ := _ :: _), ↓ws_rg1 (ρ := _ :: _), ↓ws_rg2 (ρ := _ :: _), ↓ws_sq (ρ := _ :: _), ↓wc_nil (ρ := _ :: _), ↓wc_som (ρ := _ :: _), ↓brB_t, ↓brB_f, ↓varP_dat, ↓varP_own, ↓argP_dat, ↓argP_fresh, ↓callP1, ↓callP2, ↓callP3, ↓callP4, ↓callP5, ↓seq_next, ↓seq_ret, ↓seq_brk, ↓seq_cont, ↓asgP_dat, ↓asgP_own, ↓asgP_fr, ↓retP_dat, ↓retP_fresh, ↓done_ret, ↓done_next, ↓onO_some, ↓fz_dat, ↓fz_fresh, ↓add_ii, ↓sub_ii, ↓mul_ii, ↓mod_ii, ↓div_ii, ↓pow_ii, ↓add_tt, ↓add_ll, ↓add_ss, ↓mul_ti, ↓neg_i, ↓lt_ii, ↓le_ii, ↓gt_ii, ↓ge_ii, ↓eq_ii, ↓ne_ii, ↓eq_bb, ↓ne_bb, ↓eq_ss, ↓ne_ss, ↓len_t, ↓len_l, ↓len_s, ↓int_i, ↓list_t, ↓list_l, ↓list_s, ↓tuple_t, ↓tuple_l, ↓max_ii, ↓min_ii, ↓all_l, ↓any_l, ↓cell0, ↓cell1, ↓cell2, ↓rng1, ↓rng2, ↓Lit.d, ↓List.getElem?_cons_zero, ↓List.getElem?_cons_succ, ↓List.set_cons_zero, ↓List.set_cons_succ, ↓List.length_cons, ↓List.length_nil, ↓List.length_set, ↓natAbs10, ↓tapeP_l, ↓after_next, ↓after_cont, ↓after_brk, ↓after_ret, ↓items_t, ↓items_l, ↓rev_l, ↓List.map_cons, ↓List.map_nil, ↓wipeR, ↓restR, ↓Option.getD_some, ↓Option.getD_none, ↓setTgs_nm, ↓compP_eq, Nat.reduceAdd, Nat.reduceLT, Nat.reduceLeDiff, Int.reduceLE, Int.reduceLT, Nat.reducePow, true_and, Int.reduceToNat, Int.reducePow, Int.reduceNeg]
    rw [wi_fors]
    simp only [↓wi_nil (ρ := _ :: _), ↓wi_cons (ρ := _ :: _), ↓wi_asg (ρ := _ :: _), ↓wi_tape (ρ := _ :: _), ↓wi_asgT (ρ := _ :: _), ↓wi_setI (ρ := _ :: _), ↓wi_mt (ρ := _ :: _), ↓wi_ret (ρ := _ :: _), ↓wi_retN (ρ := _ :: _), ↓wi_iff (ρ := _ :: _), ↓wi_exp (ρ := _ :: _), ↓wi_pass (ρ := _ :: _), ↓wi_brk (ρ := _ :: _), ↓wi_cont (ρ := _ :: _), ↓we_lit (ρ := _ :: _), ↓we_gl (ρ := _ :: _), ↓we_var (ρ := _ :: _), ↓we_tup (ρ := _ :: _), ↓we_lst (ρ := _ :: _), ↓we_op (ρ := _ :: _), ↓we_neg (ρ := _ :: _), ↓we_cmp (ρ := _ :: _), ↓we_chain (ρ := _ :: _), ↓we_and (ρ := _ :: _), ↓we_or (ρ := _ :: _), ↓we_not (ρ := _ :: _), ↓we_ite (ρ := _ :: _), ↓we_idx (ρ := _ :: _), ↓we_slc (ρ := _ :: _), ↓we_rev (ρ := _ :: _), ↓we_call (ρ := _ :: _), ↓we_isi (ρ := _ :: _), ↓we_bi (ρ := _ :: _), ↓we_comp (ρ := _ :: _), ↓wl_nil (ρ := _ :: _), ↓wl_cons (ρ := _ :: _), ↓wpp_nil (ρ := _ :: _), ↓wpp_cons (ρ := _ :: _), ↓wa_nil (ρ := _ :: _), ↓wa_cons (ρ := _ :: _), ↓wo_nil (ρ := _ :: _), ↓wo_som (ρ := _ :: _), ↓ws_rg1 (ρ := _ :: _), ↓ws_rg2 (ρ := _ :: _), ↓ws_sq (ρ := _ :: _), ↓wc_nil (ρ := _ :: _), ↓wc_som (ρ := _ :: _), ↓brB_t, ↓brB_f, ↓varP_dat, ↓varP_own, ↓argP_dat, ↓argP_fresh, ↓callP1, ↓callP2, ↓callP3, ↓callP4, ↓callP5, ↓seq_next, ↓seq_ret, ↓seq_brk, ↓seq_cont, ↓asgP_dat, ↓asgP_own, ↓asgP_fr, ↓retP_dat, ↓retP_fresh, ↓done_ret, ↓done_next, ↓onO_some, ↓fz_dat, ↓fz_fresh, ↓add_ii, ↓sub_ii, ↓mul_ii, ↓mod_ii, ↓div_ii, ↓pow_ii, ↓add_tt, ↓add_ll, ↓add_ss, ↓mul_ti, ↓neg_i, ↓lt_ii, ↓le_ii, ↓gt_ii, ↓ge_ii, ↓eq_ii, ↓ne_ii, ↓eq_bb, ↓ne_bb, ↓eq_ss, ↓ne_ss, ↓len_t, ↓len_l, ↓len_s, ↓int_i, ↓list_t, ↓list_l, ↓list_s, ↓tuple_t, ↓tuple_l, ↓max_ii, ↓min_ii, ↓all_l, ↓any_l, ↓cell0, ↓cell1, ↓cell2, ↓rng1, ↓rng2, ↓Lit.d, ↓List.getElem?_cons_zero, ↓List.getElem?_cons_succ, ↓List.set_cons_zero, ↓List.set_cons_succ, ↓List.length_cons, ↓List.length_nil, ↓List.length_set, ↓natAbs10, ↓tapeP_l, ↓after_next, ↓after_cont, ↓after_brk, ↓after_ret, ↓items_t, ↓items_l, ↓rev_l, ↓List.map_cons, ↓List.map_nil, ↓wipeR, ↓restR, ↓Option.getD_some, ↓Option.getD_none, ↓setTgs_nm, ↓compP_eq, Nat.reduceAdd, Nat.reduceLT, Nat.reduceLeDiff, Int.reduceLE, Int.reduceLT, Nat.reducePow, true_and, Int.reduceToNat, Int.reducePow, Int.reduceNeg]
    refine wp_for (fun l ρ S => ∃ S0 a b c d, TS S0 ∧ At [some (.dat (.scr ns)), some (.dat (.cell 0)), a, b, c, d, none] S0 ρ S) ?_ (fun ρ S h => h) ⟨S0, none, none, none, none, hS0, at_mk⟩
    rintro t l _ _ ⟨S1, a, b, c, d, hS1, rfl, rfl⟩
    rw [wp_step, setTgs_nm]
    refine ⟨by show 2 < 7; decide, ?_⟩
    simp only [List.set_cons_succ, List.set_cons_zero]
    refine wi_cut (fun ρ S => ∃ (S0 : Store) (rs : List (Int × Int × Int)), rs.length ≤ 8 ∧ TS S0 ∧ At [some (.dat (.scr ns)), some (.dat (.cell 0)), some (.dat t), some (.dat (.tup (rs.map brow))), c, d, none] S0 ρ S) ?_ ?_
    · simp only [↓wi_nil (ρ := _ :: _), ↓wi_cons (ρ := _ :: _), ↓wi_asg (ρ := _ :: _), ↓wi_tape (ρ := _ :: _), ↓wi_asgT (ρ := _ :: _), ↓wi_setI (ρ := _ :: _), ↓wi_mt (ρ := _ :: _), ↓wi_ret (ρ := _ :: _), ↓wi_retN (ρ := _ :: _), ↓wi_iff (ρ := _ :: _), ↓wi_exp (ρ := _ :: _), ↓wi_pass (ρ := _ :: _), ↓wi_brk (ρ := _ :: _), ↓wi_cont (ρ := _ :: _), ↓we_lit (ρ := _ :: _), ↓we_gl (ρ := _ :: _), ↓we_var (ρ := _ :: _), ↓we_tup (ρ := _ :: _), ↓we_lst (ρ := _ :: _), ↓we_op (ρ := _ :: _), ↓we_neg (ρ := _ :: _), ↓we_cmp (ρ := _ :: _), ↓we_chain (ρ := _ :: _), ↓we_and (ρ := _ :: _), ↓we_or (ρ := _ :: _), ↓we_not (ρ := _ :: _), ↓we_ite (ρ := _ :: _), ↓we_idx (ρ := _ :: _), ↓we_slc (ρ := _ :: _), ↓we_rev (ρ := _ :: _), ↓we_call (ρ := _ :: _), ↓we_isi (ρ := _ :: _), ↓we_bi (ρ := _ :: _), ↓we_comp (ρ := _ :: _), ↓wl_nil (ρ := _ :: _), ↓wl_cons (ρ := _ :: _), ↓wpp_nil (ρ := _ :: _), ↓wpp_cons (ρ := _ :: _), ↓wa_nil (ρ := _ :: _), ↓wa_cons (ρ := _ :: _), ↓wo_nil (ρ := _ :: _), ↓wo_som (ρ := _ :: _), ↓ws_rg1 (ρ := _ :: _), ↓ws_rg2 (ρ := _ :: _), ↓ws_sq (ρ := _ :: _), ↓wc_nil (ρ := _ :: _), ↓wc_som (ρ := _ :: _), ↓brB_t, ↓brB_f, ↓varP_dat, ↓varP_own, ↓argP_dat, ↓argP_fresh, ↓callP1, ↓callP2, ↓callP3, ↓callP4, ↓callP5, ↓seq_next, ↓seq_ret, ↓seq_brk, ↓seq_cont, ↓asgP_dat, ↓asgP_own, ↓asgP_fr, ↓retP_dat, ↓retP_fresh, ↓done_ret, ↓done_next, ↓onO_some, ↓fz_dat, ↓fz_fresh, ↓add_ii, ↓sub_ii, ↓mul_ii, ↓mod_ii, ↓div_ii, ↓pow_ii, ↓add_tt, ↓add_ll, ↓add_ss, ↓mul_ti, ↓neg_i, ↓lt_ii, ↓le_ii, ↓gt_ii, ↓ge_ii, ↓eq_ii, ↓ne_ii, ↓eq_bb, ↓ne_bb, ↓eq_ss, ↓ne_ss, ↓len_t, ↓len_l, ↓len_s, ↓int_i, ↓list_t, ↓list_l, ↓list_s, ↓tuple_t, ↓tuple_l, ↓max_ii, ↓min_ii, ↓all_l, ↓any_l, ↓cell0, ↓cell1, ↓cell2, ↓rng1, ↓rng2, ↓Lit.d, ↓List.getElem?_cons_zero, ↓List.getElem?_cons_succ, ↓List.set_cons_zero, ↓List.set_cons_succ, ↓List.length_cons, ↓List.length_nil, ↓List.length_set, ↓natAbs10, ↓tapeP_l, ↓after_next, ↓after_cont, ↓after_brk, ↓after_ret, ↓items_t, ↓items_l, ↓rev_l, ↓List.map_cons, ↓List.map_nil, ↓wipeR, ↓restR, ↓Option.getD_some, ↓Option.getD_none, ↓setTgs_nm, ↓compP_eq, Nat.reduceAdd, Nat.reduceLT, Nat.reduceLeDiff, Int.reduceLE, Int.reduceLT, Nat.reducePow, true_and, Int.reduceToNat, Int.reducePow, Int.reduceNeg]
      refine ⟨by decide, ?_⟩
      refine draw_ok 39 _ _ _ (by decide) (by decide) hS1 fun r S2 g0 g1 hS2 => ?_
      obtain ⟨k, e, e1, e2, e3⟩ := getElem?_ix (xs := [D.int 3, D.int 1000000000000000000000000000000]) g0 (by exact g1)
      refine ix_l e1 e2 ?_
      obtain ⟨w, rfl, hw⟩ : ∃ w : Int, e = .int w ∧ 0 ≤ w ∧ w < 1000000000000000000000000000000000000000 := by
        simp only [List.mem_cons, List.not_mem_nil, or_false] at e3
        rcases e3 with rfl | rfl <;> exact ⟨_, rfl, by decide, by decide⟩
      simp only [↓wi_nil (ρ := _ :: _), ↓wi_cons (ρ := _ :: _), ↓wi_asg (ρ := _ :: _), ↓wi_tape (ρ := _ :: _), ↓wi_asgT (ρ := _ :: _), ↓wi_setI (ρ := _ :: _), ↓wi_mt (ρ := _ :: _), ↓wi_ret (ρ := _ :: _), ↓wi_retN (ρ := _ :: _), ↓wi_iff (ρ := _ :: _), ↓wi_exp (ρ := _ :: _), ↓wi_pass (ρ := _ :: _), ↓wi_brk (ρ := _ :: _), ↓wi_cont (ρ := _ :: _), ↓we_lit (ρ := _ :: _), ↓we_gl (ρ := _ :: _), ↓we_var (ρ := _ :: _), ↓we_tup (ρ := _ :: _), ↓we_lst (ρ := _ :: _), ↓we_op (ρ := _ :: _), ↓we_neg (ρ := _ :: _), ↓we_cmp (ρ := _ :: _), ↓we_chain (ρ := _ :: _), ↓we_and (ρ := _ :: _), ↓we_or (ρ := _ :: _), ↓we_not (ρ := _ :: _), ↓we_ite (ρ := _ :: _), ↓we_idx (ρ := _ :: _), ↓we_slc (ρ := _ :: _), ↓we_rev (ρ := _ :: _), ↓we_call (ρ := _ :: _), ↓we_isi (ρ := _ :: _), ↓we_bi (ρ := _ :: _), ↓we_comp (ρ := _ :: _), ↓wl_nil (ρ := _ :: _), ↓wl_cons (ρ := _ :: _), ↓wpp_nil (ρ := _ :: _), ↓wpp_cons (ρ := _ :: _), ↓wa_nil (ρ := _ :: _), ↓wa_cons (ρ := _ :: _), ↓wo_nil (ρ := _ :: _), ↓wo_som (ρ := _ :: _), ↓ws_rg1 (ρ := _ :: _), ↓ws_rg2 (ρ := _ :: _), ↓ws_sq (ρ := _ :: _), ↓wc_nil (ρ := _ :: _), ↓wc_som (ρ := _ :: _), ↓brB_t, ↓brB_f, ↓varP_dat, ↓varP_own, ↓argP_dat, ↓argP_fresh, ↓callP1, ↓callP2, ↓callP3, ↓callP4, ↓callP5, ↓seq_next, ↓seq_ret, ↓seq_brk, ↓seq_cont, ↓asgP_dat, ↓asgP_own, ↓asgP_fr, ↓retP_dat, ↓retP_fresh, ↓done_ret, ↓done_next, ↓onO_some, ↓fz_dat, ↓fz_fresh, ↓add_ii, ↓sub_ii, ↓mul_ii, ↓mod_ii, ↓div_ii, ↓pow_ii, ↓add_tt, ↓add_ll, ↓add_ss, ↓mul_ti, ↓neg_i, ↓lt_ii, ↓le_ii, ↓gt_ii, ↓ge_ii, ↓eq_ii, ↓ne_ii, ↓eq_bb, ↓ne_bb, ↓eq_ss, ↓ne_ss, ↓len_t, ↓len_l, ↓len_s, ↓int_i, ↓list_t, ↓list_l, ↓list_s, ↓tuple_t, ↓tuple_l, ↓max_ii, ↓min_ii, ↓all_l, ↓any_l, ↓cell0, ↓cell1, ↓cell2, ↓rng1, ↓rng2, ↓Lit.d, ↓List.getElem?_cons_zero, ↓List.getElem?_cons_succ, ↓List.set_cons_zero, ↓List.set_cons_succ, ↓List.length_cons, ↓List.length_nil, ↓List.length_set, ↓natAbs10, ↓tapeP_l, ↓after_next, ↓after_cont, ↓after_brk, ↓after_ret, ↓items_t, ↓items_l, ↓rev_l, ↓List.map_cons, ↓List.map_nil, ↓wipeR, ↓restR, ↓Option.getD_some, ↓Option.getD_none, ↓setTgs_nm, ↓compP_eq, Nat.reduceAdd, Nat.reduceLT, Nat.reduceLeDiff, Int.reduceLE, Int.reduceLT, Nat.reducePow, true_and, Int.reduceToNat, Int.reducePow, Int.reduceNeg]
      refine bounds_ok 37 _ _ _ _ _ (by decide) (by decide) (by decide) (by decide) hw.1 hw.2 hS2 fun rs S3 hl _ hS3 => ?_
      simp only [↓wi_nil (ρ := _ :: _), ↓wi_cons (ρ := _ :: _), ↓wi_asg (ρ := _ :: _), ↓wi_tape (ρ := _ :: _), ↓wi_asgT (ρ := _ :: _), ↓wi_setI (ρ := _ :: _), ↓wi_mt (ρ := _ :: _), ↓wi_ret (ρ := _ :: _), ↓wi_retN (ρ := _ :: _), ↓wi_iff (ρ := _ :: _), ↓wi_exp (ρ := _ :: _), ↓wi_pass (ρ := _ :: _), ↓wi_brk (ρ := _ :: _), ↓wi_cont (ρ := _ :: _), ↓we_lit (ρ := _ :: _), ↓we_gl (ρ := _ :: _), ↓we_var (ρ := _ :: _), ↓we_tup (ρ := _ :: _), ↓we_lst (ρ := _ :: _), ↓we_op (ρ := _ :: _), ↓we_neg (ρ := _ :: _), ↓we_cmp (ρ := _ :: _), ↓we_chain (ρ := _ :: _), ↓we_and (ρ := _ :: _), ↓we_or (ρ := _ :: _), ↓we_not (ρ := _ :: _), ↓we_ite (ρ := _ :: _), ↓we_idx (ρ := _ :: _), ↓we_slc (ρ := _ :: _), ↓we_rev (ρ := _ :: _), ↓we_call (ρ := _ :: _), ↓we_isi (ρ := _ :: _), ↓we_bi (ρ := _ :: _), ↓we_comp (ρ := _ :: _), ↓wl_nil (ρ := _ :: _), ↓wl_cons (ρ := _ :: _), ↓wpp_nil (ρ := _ :: _), ↓wpp_cons (ρ := _ :: _), ↓wa_nil (ρ := _ :: _), ↓wa_cons (ρ := _ :: _), ↓wo_nil (ρ := _ :: _), ↓wo_som (ρ := _ :: _), ↓ws_rg1 (ρ := _ :: _), ↓ws_rg2 (ρ := _ :: _), ↓ws_sq (ρ := _ :: _), ↓wc_nil (ρ := _ :: _), ↓wc_som (ρ := _ :: _), ↓brB_t, ↓brB_f, ↓varP_dat, ↓varP_own, ↓argP_dat, ↓argP_fresh, ↓callP1, ↓callP2, ↓callP3, ↓callP4, ↓callP5, ↓seq_next, ↓seq_ret, ↓seq_brk, ↓seq_cont, ↓asgP_dat, ↓asgP_own, ↓asgP_fr, ↓retP_dat, ↓retP_fresh, ↓done_ret, ↓done_next, ↓onO_some, ↓fz_dat, ↓fz_fresh, ↓add_ii, ↓sub_ii, ↓mul_ii, ↓mod_ii, ↓div_ii, ↓pow_ii, ↓add_tt, ↓add_ll, ↓add_ss, ↓mul_ti, ↓neg_i, ↓lt_ii, ↓le_ii, ↓gt_ii, ↓ge_ii, ↓eq_ii, ↓ne_ii, ↓eq_bb, ↓ne_bb, ↓eq_ss, ↓ne_ss, ↓len_t, ↓len_l, ↓len_s, ↓int_i, ↓list_t, ↓list_l, ↓list_s, ↓tuple_t, ↓tuple_l, ↓max_ii, ↓min_ii, ↓all_l, ↓any_l, ↓cell0, ↓cell1, ↓cell2, ↓rng1, ↓rng2, ↓Lit.d, ↓List.getElem?_cons_zero, ↓List.getElem?_cons_succ, ↓List.set_cons_zero, ↓List.set_cons_succ, ↓List.length_cons, ↓List.length_nil, ↓List.length_set, ↓natAbs10, ↓tapeP_l, ↓after_next, ↓after_cont, ↓after_brk, ↓after_ret, ↓items_t, ↓items_l, ↓rev_l, ↓List.map_cons, ↓List.map_nil, ↓wipeR, ↓restR, ↓Option.getD_some, ↓Option.getD_none, ↓setTgs_nm, ↓compP_eq, Nat.reduceAdd, Nat.reduceLT, Nat.reduceLeDiff, Int.reduceLE, Int.reduceLT, Nat.reducePow, true_and, Int.reduceToNat, Int.reducePow, Int.reduceNeg]
      exact ⟨_, rs, by omega, hS3, at_mk⟩
    rintro _ _ ⟨S2, rs, hrs, hS2, rfl, rfl⟩
    have hrows : ∀ x ∈ rs.map brow, ∀ k, Fit 1000 (k + 1) x := fun x hx k => by
      obtain ⟨r, _, rfl⟩ := List.mem_map.mp hx
      exact fit_row (p := 0) (w := 0)
    have hb : ∀ k, Fit 1000 (k + 2) (.tup (rs.map brow)) := fun k => ⟨by rw [List.length_map]; omega, fun x hx => hrows x hx k⟩
    have happ : ∀ r, Fit 1000 9 (.tup (rs.map brow ++ [brow r])) := fun r => ⟨by rw [List.length_append, List.length_map]; simp only [List.length_cons, List.length_nil]; omega, fun x hx => by
      rcases List.mem_append.mp hx with hx | hx
      · exact hrows x hx 7
      · rw [List.mem_singleton] at hx; subst hx; exact fit_row (p := 0) (w := 0)⟩
    refine wi_cut (fun ρ S => ∃ (S0 : Store) (L : List D), L.length = 6 ∧ (∀ x ∈ L, Fit 1000 9 x) ∧ TS S0 ∧ At [some (.dat (.scr ns)), some (.dat (.cell 0)), some (.dat t), some (.dat (.tup (rs.map brow))), some (.dat (.lst L)), d, none] S0 ρ S) ?_ ?_
    · simp only [↓wi_nil (ρ := _ :: _), ↓wi_cons (ρ := _ :: _), ↓wi_asg (ρ := _ :: _), ↓wi_tape (ρ := _ :: _), ↓wi_asgT (ρ := _ :: _), ↓wi_setI (ρ := _ :: _), ↓wi_mt (ρ := _ :: _), ↓wi_ret (ρ := _ :: _), ↓wi_retN (ρ := _ :: _), ↓wi_iff (ρ := _ :: _), ↓wi_exp (ρ := _ :: _), ↓wi_pass (ρ := _ :: _), ↓wi_brk (ρ := _ :: _), ↓wi_cont (ρ := _ :: _), ↓we_lit (ρ := _ :: _), ↓we_gl (ρ := _ :: _), ↓we_var (ρ := _ :: _), ↓we_tup (ρ := _ :: _), ↓we_lst (ρ := _ :: _), ↓we_op (ρ := _ :: _), ↓we_neg (ρ := _ :: _), ↓we_cmp (ρ := _ :: _), ↓we_chain (ρ := _ :: _), ↓we_and (ρ := _ :: _), ↓we_or (ρ := _ :: _), ↓we_not (ρ := _ :: _), ↓we_ite (ρ := _ :: _), ↓we_idx (ρ := _ :: _), ↓we_slc (ρ := _ :: _), ↓we_rev (ρ := _ :: _), ↓we_call (ρ := _ :: _), ↓we_isi (ρ := _ :: _), ↓we_bi (ρ := _ :: _), ↓we_comp (ρ := _ :: _), ↓wl_nil (ρ := _ :: _), ↓wl_cons (ρ := _ :: _), ↓wpp_nil (ρ := _ :: _), ↓wpp_cons (ρ := _ :: _), ↓wa_nil (ρ := _ :: _), ↓wa_cons (ρ := _ :: _), ↓wo_nil (ρ := _ :: _), ↓wo_som (ρ := _ :: _), ↓ws_rg1 (ρ := _ :: _), ↓ws_rg2 (ρ := _ :: _), ↓ws_sq (ρ := _ :: _), ↓wc_nil (ρ := _ :: _), ↓wc_som (ρ := _ :: _), ↓brB_t, ↓brB_f, ↓varP_dat, ↓varP_own, ↓argP_dat, ↓argP_fresh, ↓callP1, ↓callP2, ↓callP3, ↓callP4, ↓callP5, ↓seq_next, ↓seq_ret, ↓seq_brk, ↓seq_cont, ↓asgP_dat, ↓asgP_own, ↓asgP_fr, ↓retP_dat, ↓retP_fresh, ↓done_ret, ↓done_next, ↓onO_some, ↓fz_dat, ↓fz_fresh, ↓add_ii, ↓sub_ii, ↓mul_ii, ↓mod_ii, ↓div_ii, ↓pow_ii, ↓add_tt, ↓add_ll, ↓add_ss, ↓mul_ti, ↓neg_i, ↓lt_ii, ↓le_ii, ↓gt_ii, ↓ge_ii, ↓eq_ii, ↓ne_ii, ↓eq_bb, ↓ne_bb, ↓eq_ss, ↓ne_ss, ↓len_t, ↓len_l, ↓len_s, ↓int_i, ↓list_t, ↓list_l, ↓list_s, ↓tuple_t, ↓tuple_l, ↓max_ii, ↓min_ii, ↓all_l, ↓any_l, ↓cell0, ↓cell1, ↓cell2, ↓rng1, ↓rng2, ↓Lit.d, ↓List.getElem?_cons_zero, ↓List.getElem?_cons_succ, ↓List.set_cons_zero, ↓List.set_cons_succ, ↓List.length_cons, ↓List.length_nil, ↓List.length_set, ↓natAbs10, ↓tapeP_l, ↓after_next, ↓after_cont, ↓after_brk, ↓after_ret, ↓items_t, ↓items_l, ↓rev_l, ↓List.map_cons, ↓List.map_nil, ↓wipeR, ↓restR, ↓Option.getD_some, ↓Option.getD_none, ↓setTgs_nm, ↓compP_eq, Nat.reduceAdd, Nat.reduceLT, Nat.reduceLeDiff, Int.reduceLE, Int.reduceLT, Nat.reducePow, true_and, Int.reduceToNat, Int.reducePow, Int.reduceNeg]
      refine ⟨by decide, by decide, by decide, ?_⟩
      have hlm : (rs.map brow).length ≤ 8 := by rw [List.length_map]; exact hrs
      refine ⟨by simp only [sizeLine]; omega, by decide, by decide, by simp only [sizeLine]; omega, ?_⟩
      refine (any_ok 2 36) _ _ hS2 fun v S3 hv hS3 => ?_
      simp only [↓wi_nil (ρ := _ :: _), ↓wi_cons (ρ := _ :: _), ↓wi_asg (ρ := _ :: _), ↓wi_tape (ρ := _ :: _), ↓wi_asgT (ρ := _ :: _), ↓wi_setI (ρ := _ :: _), ↓wi_mt (ρ := _ :: _), ↓wi_ret (ρ := _ :: _), ↓wi_retN (ρ := _ :: _), ↓wi_iff (ρ := _ :: _), ↓wi_exp (ρ := _ :: _), ↓wi_pass (ρ := _ :: _), ↓wi_brk (ρ := _ :: _), ↓wi_cont (ρ := _ :: _), ↓we_lit (ρ := _ :: _), ↓we_gl (ρ := _ :: _), ↓we_var (ρ := _ :: _), ↓we_tup (ρ := _ :: _), ↓we_lst (ρ := _ :: _), ↓we_op (ρ := _ :: _), ↓we_neg (ρ := _ :: _), ↓we_cmp (ρ := _ :: _), ↓we_chain (ρ := _ :: _), ↓we_and (ρ := _ :: _), ↓we_or (ρ := _ :: _), ↓we_not (ρ := _ :: _), ↓we_ite (ρ := _ :: _), ↓we_idx (ρ := _ :: _), ↓we_slc (ρ := _ :: _), ↓we_rev (ρ := _ :: _), ↓we_call (ρ := _ :: _), ↓we_isi (ρ := _ :: _), ↓we_bi (ρ := _ :: _), ↓we_comp (ρ := _ :: _), ↓wl_nil (ρ := _ :: _), ↓wl_cons (ρ := _ :: _), ↓wpp_nil (ρ := _ :: _), ↓wpp_cons (ρ := _ :: _), ↓wa_nil (ρ := _ :: _), ↓wa_cons (ρ := _ :: _), ↓wo_nil (ρ := _ :: _), ↓wo_som (ρ := _ :: _), ↓ws_rg1 (ρ := _ :: _), ↓ws_rg2 (ρ := _ :: _), ↓ws_sq (ρ := _ :: _), ↓wc_nil (ρ := _ :: _), ↓wc_som (ρ := _ :: _), ↓brB_t, ↓brB_f, ↓varP_dat, ↓varP_own, ↓argP_dat, ↓argP_fresh, ↓callP1, ↓callP2, ↓callP3, ↓callP4, ↓callP5, ↓seq_next, ↓seq_ret, ↓seq_brk, ↓seq_cont, ↓asgP_dat, ↓asgP_own, ↓asgP_fr, ↓retP_dat, ↓retP_fresh, ↓done_ret, ↓done_next, ↓onO_some, ↓fz_dat, ↓fz_fresh, ↓add_ii, ↓sub_ii, ↓mul_ii, ↓mod_ii, ↓div_ii, ↓pow_ii, ↓add_tt, ↓add_ll, ↓add_ss, ↓mul_ti, ↓neg_i, ↓lt_ii, ↓le_ii, ↓gt_ii, ↓ge_ii, ↓eq_ii, ↓ne_ii, ↓eq_bb, ↓ne_bb, ↓eq_ss, ↓ne_ss, ↓len_t, ↓len_l, ↓len_s, ↓int_i, ↓list_t, ↓list_l, ↓list_s, ↓tuple_t, ↓tuple_l, ↓max_ii, ↓min_ii, ↓all_l, ↓any_l, ↓cell0, ↓cell1, ↓cell2, ↓rng1, ↓rng2, ↓Lit.d, ↓List.getElem?_cons_zero, ↓List.getElem?_cons_succ, ↓List.set_cons_zero, ↓List.set_cons_succ, ↓List.length_cons, ↓List.length_nil, ↓List.length_set, ↓natAbs10, ↓tapeP_l, ↓after_next, ↓after_cont, ↓after_brk, ↓after_ret, ↓items_t, ↓items_l, ↓rev_l, ↓List.map_cons, ↓List.map_nil, ↓wipeR, ↓restR, ↓Option.getD_some, ↓Option.getD_none, ↓setTgs_nm, ↓compP_eq, Nat.reduceAdd, Nat.reduceLT, Nat.reduceLeDiff, Int.reduceLE, Int.reduceLT, Nat.reducePow, true_and, Int.reduceToNat, Int.reducePow, Int.reduceNeg]
      refine ⟨by decide, _, _, ?_, fun x hx => ?_, hS3, at_mk⟩
      · rfl
      · simp only [List.mem_cons, List.not_mem_nil, or_false] at hx
        rcases hx with rfl | rfl | rfl | rfl | rfl | rfl
        · exact hb 7
        · exact hb 7
        · exact ⟨by decide, fun d hd => nomatch hd⟩
        · exact happ (1, 1, 0)
        · exact happ (7, 1, 0)
        · exact Fit.mono (by decide) (by decide) hv
    rintro _ _ ⟨S3, L, hL, hLf, hS3, rfl, rfl⟩
    refine wi_cut (fun ρ S => ∃ (S0 : Store) (L : List D), L.length = 10 ∧ (∀ x ∈ L, Fit 1000 9 x) ∧ TS S0 ∧ At [some (.dat (.scr ns)), some (.dat (.cell 0)), some (.dat t), some (.dat (.tup (rs.map brow))), some (.dat (.lst L)), d, none] S0 ρ S) ?_ ?_
    · simp only [↓wi_nil (ρ := _ :: _), ↓wi_cons (ρ := _ :: _), ↓wi_asg (ρ := _ :: _), ↓wi_tape (ρ := _ :: _), ↓wi_asgT (ρ := _ :: _), ↓wi_setI (ρ := _ :: _), ↓wi_mt (ρ := _ :: _), ↓wi_ret (ρ := _ :: _), ↓wi_retN (ρ := _ :: _), ↓wi_iff (ρ := _ :: _), ↓wi_exp (ρ := _ :: _), ↓wi_pass (ρ := _ :: _), ↓wi_brk (ρ := _ :: _), ↓wi_cont (ρ := _ :: _), ↓we_lit (ρ := _ :: _), ↓we_gl (ρ := _ :: _), ↓we_var (ρ := _ :: _), ↓we_tup (ρ := _ :: _), ↓we_lst (ρ := _ :: _), ↓we_op (ρ := _ :: _), ↓we_neg (ρ := _ :: _), ↓we_cmp (ρ := _ :: _), ↓we_chain (ρ := _ :: _), ↓we_and (ρ := _ :: _), ↓we_or (ρ := _ :: _), ↓we_not (ρ := _ :: _), ↓we_ite (ρ := _ :: _), ↓we_idx (ρ := _ :: _), ↓we_slc (ρ := _ :: _), ↓we_rev (ρ := _ :: _), ↓we_call (ρ := _ :: _), ↓we_isi (ρ := _ :: _), ↓we_bi (ρ := _ :: _), ↓we_comp (ρ := _ :: _), ↓wl_nil (ρ := _ :: _), ↓wl_cons (ρ := _ :: _), ↓wpp_nil (ρ := _ :: _), ↓wpp_cons (ρ := _ :: _), ↓wa_nil (ρ := _ :: _), ↓wa_cons (ρ := _ :: _), ↓wo_nil (ρ := _ :: _), ↓wo_som (ρ := _ :: _), ↓ws_rg1 (ρ := _ :: _), ↓ws_rg2 (ρ := _ :: _), ↓ws_sq (ρ := _ :: _), ↓wc_nil (ρ := _ :: _), ↓wc_som (ρ := _ :: _), ↓brB_t, ↓brB_f, ↓varP_dat, ↓varP_own, ↓argP_dat, ↓argP_fresh, ↓callP1, ↓callP2, ↓callP3, ↓callP4, ↓callP5, ↓seq_next, ↓seq_ret, ↓seq_brk, ↓seq_cont, ↓asgP_dat, ↓asgP_own, ↓asgP_fr, ↓retP_dat, ↓retP_fresh, ↓done_ret, ↓done_next, ↓onO_some, ↓fz_dat, ↓fz_fresh, ↓add_ii, ↓sub_ii, ↓mul_ii, ↓mod_ii, ↓div_ii, ↓pow_ii, ↓add_tt, ↓add_ll, ↓add_ss, ↓mul_ti, ↓neg_i, ↓lt_ii, ↓le_ii, ↓gt_ii, ↓ge_ii, ↓eq_ii, ↓ne_ii, ↓eq_bb, ↓ne_bb, ↓eq_ss, ↓ne_ss, ↓len_t, ↓len_l, ↓len_s, ↓int_i, ↓list_t, ↓list_l, ↓list_s, ↓tuple_t, ↓tuple_l, ↓max_ii, ↓min_ii, ↓all_l, ↓any_l, ↓cell0, ↓cell1, ↓cell2, ↓rng1, ↓rng2, ↓Lit.d, ↓List.getElem?_cons_zero, ↓List.getElem?_cons_succ, ↓List.set_cons_zero, ↓List.set_cons_succ, ↓List.length_cons, ↓List.length_nil, ↓List.length_set, ↓natAbs10, ↓tapeP_l, ↓after_next, ↓after_cont, ↓after_brk, ↓after_ret, ↓items_t, ↓items_l, ↓rev_l, ↓List.map_cons, ↓List.map_nil, ↓wipeR, ↓restR, ↓Option.getD_some, ↓Option.getD_none, ↓setTgs_nm, ↓compP_eq, Nat.reduceAdd, Nat.reduceLT, Nat.reduceLeDiff, Int.reduceLE, Int.reduceLT, Nat.reducePow, true_and, Int.reduceToNat, Int.reducePow, Int.reduceNeg]
      refine ⟨by decide, by decide, ?_⟩
      refine draw_ok 39 _ _ _ (by decide) (by decide) hS3 fun r S4 g0 g1 hS4 => ?_
      simp only [↓wi_nil (ρ := _ :: _), ↓wi_cons (ρ := _ :: _), ↓wi_asg (ρ := _ :: _), ↓wi_tape (ρ := _ :: _), ↓wi_asgT (ρ := _ :: _), ↓wi_setI (ρ := _ :: _), ↓wi_mt (ρ := _ :: _), ↓wi_ret (ρ := _ :: _), ↓wi_retN (ρ := _ :: _), ↓wi_iff (ρ := _ :: _), ↓wi_exp (ρ := _ :: _), ↓wi_pass (ρ := _ :: _), ↓wi_brk (ρ := _ :: _), ↓wi_cont (ρ := _ :: _), ↓we_lit (ρ := _ :: _), ↓we_gl (ρ := _ :: _), ↓we_var (ρ := _ :: _), ↓we_tup (ρ := _ :: _), ↓we_lst (ρ := _ :: _), ↓we_op (ρ := _ :: _), ↓we_neg (ρ := _ :: _), ↓we_cmp (ρ := _ :: _), ↓we_chain (ρ := _ :: _), ↓we_and (ρ := _ :: _), ↓we_or (ρ := _ :: _), ↓we_not (ρ := _ :: _), ↓we_ite (ρ := _ :: _), ↓we_idx (ρ := _ :: _), ↓we_slc (ρ := _ :: _), ↓we_rev (ρ := _ :: _), ↓we_call (ρ := _ :: _), ↓we_isi (ρ := _ :: _), ↓we_bi (ρ := _ :: _), ↓we_comp (ρ := _ :: _), ↓wl_nil (ρ := _ :: _), ↓wl_cons (ρ := _ :: _), ↓wpp_nil (ρ := _ :: _), ↓wpp_cons (ρ := _ :: _), ↓wa_nil (ρ := _ :: _), ↓wa_cons (ρ := _ :: _), ↓wo_nil (ρ := _ :: _), ↓wo_som (ρ := _ :: _), ↓ws_rg1 (ρ := _ :: _), ↓ws_rg2 (ρ := _ :: _), ↓ws_sq (ρ := _ :: _), ↓wc_nil (ρ := _ :: _), ↓wc_som (ρ := _ :: _), ↓brB_t, ↓brB_f, ↓varP_dat, ↓varP_own, ↓argP_dat, ↓argP_fresh, ↓callP1, ↓callP2, ↓callP3, ↓callP4, ↓callP5, ↓seq_next, ↓seq_ret, ↓seq_brk, ↓seq_cont, ↓asgP_dat, ↓asgP_own, ↓asgP_fr, ↓retP_dat, ↓retP_fresh, ↓done_ret, ↓done_next, ↓onO_some, ↓fz_dat, ↓fz_fresh, ↓add_ii, ↓sub_ii, ↓mul_ii, ↓mod_ii, ↓div_ii, ↓pow_ii, ↓add_tt, ↓add_ll, ↓add_ss, ↓mul_ti, ↓neg_i, ↓lt_ii, ↓le_ii, ↓gt_ii, ↓ge_ii, ↓eq_ii, ↓ne_ii, ↓eq_bb, ↓ne_bb, ↓eq_ss, ↓ne_ss, ↓len_t, ↓len_l, ↓len_s, ↓int_i, ↓list_t, ↓list_l, ↓list_s, ↓tuple_t, ↓tuple_l, ↓max_ii, ↓min_ii, ↓all_l, ↓any_l, ↓cell0, ↓cell1, ↓cell2, ↓rng1, ↓rng2, ↓Lit.d, ↓List.getElem?_cons_zero, ↓List.getElem?_cons_succ, ↓List.set_cons_zero, ↓List.set_cons_succ, ↓List.length_cons, ↓List.length_nil, ↓List.length_set, ↓natAbs10, ↓tapeP_l, ↓after_next, ↓after_cont, ↓after_brk, ↓after_ret, ↓items_t, ↓items_l, ↓rev_l, ↓List.map_cons, ↓List.map_nil, ↓wipeR, ↓restR, ↓Option.getD_some, ↓Option.getD_none, ↓setTgs_nm, ↓compP_eq, Nat.reduceAdd, Nat.reduceLT, Nat.reduceLeDiff, Int.reduceLE, Int.reduceLT, Nat.reducePow, true_and, Int.reduceToNat, Int.reducePow, Int.reduceNeg]
      refine ⟨⟨by simp, by omega, by omega, by decide⟩, ?_⟩
      refine ⟨by decide, by decide, by decide, by decide, by decide, by decide, by simp only [sizeLine]; omega, ?_⟩
      have hrep : ∀ (m : Nat) (v : D), m ≤ 1000 → Fit 1000 8 v → Fit 1000 9 (.tup (List.replicate m [v]).flatten) := fun m v hm hv => ⟨by simp; omega, fun x hx => by
        obtain ⟨l, h1, h2⟩ := List.mem_flatten.mp hx
        rw [List.mem_replicate] at h1
        rw [h1.2, List.mem_singleton] at h2
        subst h2; exact hv⟩
      refine ⟨_, _, ?_, fun x hx => ?_, hS4, at_mk⟩
      · rw [List.length_append, hL]; rfl
      · rcases List.mem_append.mp hx with hx | hx
        · exact hLf x hx
        · simp only [List.mem_cons, List.not_mem_nil, or_false] at hx
          rcases hx with rfl | rfl | rfl | rfl
          · exact hrep _ _ (by omega) (fit_row (p := 0) (w := 0) (r := (0, 1, 5)) (k := 7))
          · refine ⟨by decide, fun d hd => ?_⟩
            rw [List.mem_singleton] at hd; subst hd
            refine ⟨by decide, fun d hd => ?_⟩
            simp only [List.mem_cons, List.not_mem_nil, or_false] at hd
            rcases hd with rfl | rfl | rfl <;> first | exact Fit.int | exact Fit.bl
          · refine ⟨by decide, fun d hd => ?_⟩
            rw [List.mem_singleton] at hd; subst hd
            refine ⟨by decide, fun d hd => ?_⟩
            simp only [List.mem_cons, List.not_mem_nil, or_false] at hd
            rcases hd with rfl | rfl <;> exact Fit.int
          · exact fit_row (p := 0) (w := 0) (r := (1, 0, 5)) (k := 8)
    rintro _ _ ⟨S4, L2, hL2, hLf2, hS4, rfl, rfl⟩
    refine wi_cut (fun ρ S => ∃ S0 a b c d, TS S0 ∧ At [some (.dat (.scr ns)), some (.dat (.cell 0)), a, b, c, d, none] S0 ρ S) ?_ ?_
    rotate_left
    · rintro _ _ ⟨S0, a, b, c, d, hS0, rfl, rfl⟩
      simp only [↓wi_nil (ρ := _ :: _), ↓wi_cons (ρ := _ :: _), ↓wi_asg (ρ := _ :: _), ↓wi_tape (ρ := _ :: _), ↓wi_asgT (ρ := _ :: _), ↓wi_setI (ρ := _ :: _), ↓wi_mt (ρ := _ :: _), ↓wi_ret (ρ := _ :: _), ↓wi_retN (ρ := _ :: _), ↓wi_iff (ρ := _ :: _), ↓wi_exp (ρ := _ :: _), ↓wi_pass (ρ := _ :: _), ↓wi_brk (ρ := _ :: _), ↓wi_cont (ρ := _ :: _), ↓we_lit (ρ := _ :: _), ↓we_gl (ρ := _ :: _), ↓we_var (ρ := _ :: _), ↓we_tup (ρ := _ :: _), ↓we_lst (ρ := _ :: _), ↓we_op (ρ := _ :: _), ↓we_neg (ρ := _ :: _), ↓we_cmp (ρ := _ :: _), ↓we_chain (ρ := _ :: _), ↓we_and (ρ := _ :: _), ↓we_or (ρ := _ :: _), ↓we_not (ρ := _ :: _), ↓we_ite (ρ := _ :: _), ↓we_idx (ρ := _ :: _), ↓we_slc (ρ := _ :: _), ↓we_rev (ρ := _ :: _), ↓we_call (ρ := _ :: _), ↓we_isi (ρ := _ :: _), ↓we_bi (ρ := _ :: _), ↓we_comp (ρ := _ :: _), ↓wl_nil (ρ := _ :: _), ↓wl_cons (ρ := _ :: _), ↓wpp_nil (ρ := _ :: _), ↓wpp_cons (ρ := _ :: _), ↓wa_nil (ρ := _ :: _), ↓wa_cons (ρ := _ :: _), ↓wo_nil (ρ := _ :: _), ↓wo_som (ρ := _ :: _), ↓ws_rg1 (ρ := _ :: _), ↓ws_rg2 (ρ := _ :: _), ↓ws_sq (ρ := _ :: _), ↓wc_nil (ρ := _ :: _), ↓wc_som (ρ := _ :: _), ↓brB_t, ↓brB_f, ↓varP_dat, ↓varP_own, ↓argP_dat, ↓argP_fresh, ↓callP1, ↓callP2, ↓callP3, ↓callP4, ↓callP5, ↓seq_next, ↓seq_ret, ↓seq_brk, ↓seq_cont, ↓asgP_dat, ↓asgP_own, ↓asgP_fr, ↓retP_dat, ↓retP_fresh, ↓done_ret, ↓done_next, ↓onO_some, ↓fz_dat, ↓fz_fresh, ↓add_ii, ↓sub_ii, ↓mul_ii, ↓mod_ii, ↓div_ii, ↓pow_ii, ↓add_tt, ↓add_ll, ↓add_ss, ↓mul_ti, ↓neg_i, ↓lt_ii, ↓le_ii, ↓gt_ii, ↓ge_ii, ↓eq_ii, ↓ne_ii, ↓eq_bb, ↓ne_bb, ↓eq_ss, ↓ne_ss, ↓len_t, ↓len_l, ↓len_s, ↓int_i, ↓list_t, ↓list_l, ↓list_s, ↓tuple_t, ↓tuple_l, ↓max_ii, ↓min_ii, ↓all_l, ↓any_l, ↓cell0, ↓cell1, ↓cell2, ↓rng1, ↓rng2, ↓Lit.d, ↓List.getElem?_cons_zero, ↓List.getElem?_cons_succ, ↓List.set_cons_zero, ↓List.set_cons_succ, ↓List.length_cons, ↓List.length_nil, ↓List.length_set, ↓natAbs10, ↓tapeP_l, ↓after_next, ↓after_cont, ↓after_brk, ↓after_ret, ↓items_t, ↓items_l, ↓rev_l, ↓List.map_cons, ↓List.map_nil, ↓wipeR, ↓restR, ↓Option.getD_some, ↓Option.getD_none, ↓setTgs_nm, ↓compP_eq, Nat.reduceAdd, Nat.reduceLT, Nat.reduceLeDiff, Int.reduceLE, Int.reduceLT, Nat.reducePow, true_and, Int.reduceToNat, Int.reducePow, Int.reduceNeg]
      exact ⟨_, _, _, _, _, hS0, at_mk⟩
    rw [wi_fors]
    simp only [↓wi_nil (ρ := _ :: _), ↓wi_cons (ρ := _ :: _), ↓wi_asg (ρ := _ :: _), ↓wi_tape (ρ := _ :: _), ↓wi_asgT (ρ := _ :: _), ↓wi_setI (ρ := _ :: _), ↓wi_mt (ρ := _ :: _), ↓wi_ret (ρ := _ :: _), ↓wi_retN (ρ := _ :: _), ↓wi_iff (ρ := _ :: _), ↓wi_exp (ρ := _ :: _), ↓wi_pass (ρ := _ :: _), ↓wi_brk (ρ := _ :: _), ↓wi_cont (ρ := _ :: _), ↓we_lit (ρ := _ :: _), ↓we_gl (ρ := _ :: _), ↓we_var (ρ := _ :: _), ↓we_tup (ρ := _ :: _), ↓we_lst (ρ := _ :: _), ↓we_op (ρ := _ :: _), ↓we_neg (ρ := _ :: _), ↓we_cmp (ρ := _ :: _), ↓we_chain (ρ := _ :: _), ↓we_and (ρ := _ :: _), ↓we_or (ρ := _ :: _), ↓we_not (ρ := _ :: _), ↓we_ite (ρ := _ :: _), ↓we_idx (ρ := _ :: _), ↓we_slc (ρ := _ :: _), ↓we_rev (ρ := _ :: _), ↓we_call (ρ := _ :: _), ↓we_isi (ρ := _ :: _), ↓we_bi (ρ := _ :: _), ↓we_comp (ρ := _ :: _), ↓wl_nil (ρ := _ :: _), ↓wl_cons (ρ := _ :: _), ↓wpp_nil (ρ := _ :: _), ↓wpp_cons (ρ := _ :: _), ↓wa_nil (ρ := _ :: _), ↓wa_cons (ρ := _ :: _), ↓wo_nil (ρ := _ :: _), ↓wo_som (ρ := _ :: _), ↓ws_rg1 (ρ := _ :: _), ↓ws_rg2 (ρ := _ :: _), ↓ws_sq (ρ := _ :: _), ↓wc_nil (ρ := _ :: _), ↓wc_som (ρ := _ :: _), ↓brB_t, ↓brB_f, ↓varP_dat, ↓varP_own, ↓argP_dat, ↓argP_fresh, ↓callP1, ↓callP2, ↓callP3, ↓callP4, ↓callP5, ↓seq_next, ↓seq_ret, ↓seq_brk, ↓seq_cont, ↓asgP_dat, ↓asgP_own, ↓asgP_fr, ↓retP_dat, ↓retP_fresh, ↓done_ret, ↓done_next, ↓onO_some, ↓fz_dat, ↓fz_fresh, ↓add_ii, ↓sub_ii, ↓mul_ii, ↓mod_ii, ↓div_ii, ↓pow_ii, ↓add_tt, ↓add_ll, ↓add_ss, ↓mul_ti, ↓neg_i, ↓lt_ii, ↓le_ii, ↓gt_ii, ↓ge_ii, ↓eq_ii, ↓ne_ii, ↓eq_bb, ↓ne_bb, ↓eq_ss, ↓ne_ss, ↓len_t, ↓len_l, ↓len_s, ↓int_i, ↓list_t, ↓list_l, ↓list_s, ↓tuple_t, ↓tuple_l, ↓max_ii, ↓min_ii, ↓all_l, ↓any_l, ↓cell0, ↓cell1, ↓cell2, ↓rng1, ↓rng2, ↓Lit.d, ↓List.getElem?_cons_zero, ↓List.getElem?_cons_succ, ↓List.set_cons_zero, ↓List.set_cons_succ, ↓List.length_cons, ↓List.length_nil, ↓List.length_set, ↓natAbs10, ↓tapeP_l, ↓after_next, ↓after_cont, ↓after_brk, ↓after_ret, ↓items_t, ↓items_l, ↓rev_l, ↓List.map_cons, ↓List.map_nil, ↓wipeR, ↓restR, ↓Option.getD_some, ↓Option.getD_none, ↓setTgs_nm, ↓compP_eq, Nat.reduceAdd, Nat.reduceLT, Nat.reduceLeDiff, Int.reduceLE, Int.reduceLT, Nat.reducePow, true_and, Int.reduceToNat, Int.reducePow, Int.reduceNeg]
    refine ⟨rfl, by decide, ?_⟩
    refine comp_inv (J := TS) (P := Fit 1010 9) (fun e _ S hS => ?_) hS4 (fun r S5 hr hrl hS5 => ?_)
    · rw [wp_turn]
      simp only [↓wi_nil (ρ := _ :: _), ↓wi_cons (ρ := _ :: _), ↓wi_asg (ρ := _ :: _), ↓wi_tape (ρ := _ :: _), ↓wi_asgT (ρ := _ :: _), ↓wi_setI (ρ := _ :: _), ↓wi_mt (ρ := _ :: _), ↓wi_ret (ρ := _ :: _), ↓wi_retN (ρ := _ :: _), ↓wi_iff (ρ := _ :: _), ↓wi_exp (ρ := _ :: _), ↓wi_pass (ρ := _ :: _), ↓wi_brk (ρ := _ :: _), ↓wi_cont (ρ := _ :: _), ↓we_lit (ρ := _ :: _), ↓we_gl (ρ := _ :: _), ↓we_var (ρ := _ :: _), ↓we_tup (ρ := _ :: _), ↓we_lst (ρ := _ :: _), ↓we_op (ρ := _ :: _), ↓we_neg (ρ := _ :: _), ↓we_cmp (ρ := _ :: _), ↓we_chain (ρ := _ :: _), ↓we_and (ρ := _ :: _), ↓we_or (ρ := _ :: _), ↓we_not (ρ := _ :: _), ↓we_ite (ρ := _ :: _), ↓we_idx (ρ := _ :: _), ↓we_slc (ρ := _ :: _), ↓we_rev (ρ := _ :: _), ↓we_call (ρ := _ :: _), ↓we_isi (ρ := _ :: _), ↓we_bi (ρ := _ :: _), ↓we_comp (ρ := _ :: _), ↓wl_nil (ρ := _ :: _), ↓wl_cons (ρ := _ :: _), ↓wpp_nil (ρ := _ :: _), ↓wpp_cons (ρ := _ :: _), ↓wa_nil (ρ := _ :: _), ↓wa_cons (ρ := _ :: _), ↓wo_nil (ρ := _ :: _), ↓wo_som (ρ := _ :: _), ↓ws_rg1 (ρ := _ :: _), ↓ws_rg2 (ρ := _ :: _), ↓ws_sq (ρ := _ :: _), ↓wc_nil (ρ := _ :: _), ↓wc_som (ρ := _ :: _), ↓brB_t, ↓brB_f, ↓varP_dat, ↓varP_own, ↓argP_dat, ↓argP_fresh, ↓callP1, ↓callP2, ↓callP3, ↓callP4, ↓callP5, ↓seq_next, ↓seq_ret, ↓seq_brk, ↓seq_cont, ↓asgP_dat, ↓asgP_own, ↓asgP_fr, ↓retP_dat, ↓retP_fresh, ↓done_ret, ↓done_next, ↓onO_some, ↓fz_dat, ↓fz_fresh, ↓add_ii, ↓sub_ii, ↓mul_ii, ↓mod_ii, ↓div_ii, ↓pow_ii, ↓add_tt, ↓add_ll, ↓add_ss, ↓mul_ti, ↓neg_i, ↓lt_ii, ↓le_ii, ↓gt_ii, ↓ge_ii, ↓eq_ii, ↓ne_ii, ↓eq_bb, ↓ne_bb, ↓eq_ss, ↓ne_ss, ↓len_t, ↓len_l, ↓len_s, ↓int_i, ↓list_t, ↓list_l, ↓list_s, ↓tuple_t, ↓tuple_l, ↓max_ii, ↓min_ii, ↓all_l, ↓any_l, ↓cell0, ↓cell1, ↓cell2, ↓rng1, ↓rng2, ↓Lit.d, ↓List.getElem?_cons_zero, ↓List.getElem?_cons_succ, ↓List.set_cons_zero, ↓List.set_cons_succ, ↓List.length_cons, ↓List.length_nil, ↓List.length_set, ↓natAbs10, ↓tapeP_l, ↓after_next, ↓after_cont, ↓after_brk, ↓after_ret, ↓items_t, ↓items_l, ↓rev_l, ↓List.map_cons, ↓List.map_nil, ↓wipeR, ↓restR, ↓Option.getD_some, ↓Option.getD_none, ↓setTgs_nm, ↓compP_eq, Nat.reduceAdd, Nat.reduceLT, Nat.reduceLeDiff, Int.reduceLE, Int.reduceLT, Nat.reducePow, true_and, Int.reduceToNat, Int.reducePow, Int.reduceNeg]
      refine spoilt_ok (N := 1000) (by decide) 2 33 _ _ _ (hb 0) hS fun kd v S6 hk hv hS6 => ?_
      simp only [↓wi_nil (ρ := _ :: _), ↓wi_cons (ρ := _ :: _), ↓wi_asg (ρ := _ :: _), ↓wi_tape (ρ := _ :: _), ↓wi_asgT (ρ := _ :: _), ↓wi_setI (ρ := _ :: _), ↓wi_mt (ρ := _ :: _), ↓wi_ret (ρ := _ :: _), ↓wi_retN (ρ := _ :: _), ↓wi_iff (ρ := _ :: _), ↓wi_exp (ρ := _ :: _), ↓wi_pass (ρ := _ :: _), ↓wi_brk (ρ := _ :: _), ↓wi_cont (ρ := _ :: _), ↓we_lit (ρ := _ :: _), ↓we_gl (ρ := _ :: _), ↓we_var (ρ := _ :: _), ↓we_tup (ρ := _ :: _), ↓we_lst (ρ := _ :: _), ↓we_op (ρ := _ :: _), ↓we_neg (ρ := _ :: _), ↓we_cmp (ρ := _ :: _), ↓we_chain (ρ := _ :: _), ↓we_and (ρ := _ :: _), ↓we_or (ρ := _ :: _), ↓we_not (ρ := _ :: _), ↓we_ite (ρ := _ :: _), ↓we_idx (ρ := _ :: _), ↓we_slc (ρ := _ :: _), ↓we_rev (ρ := _ :: _), ↓we_call (ρ := _ :: _), ↓we_isi (ρ := _ :: _), ↓we_bi (ρ := _ :: _), ↓we_comp (ρ := _ :: _), ↓wl_nil (ρ := _ :: _), ↓wl_cons (ρ := _ :: _), ↓wpp_nil (ρ := _ :: _), ↓wpp_cons (ρ := _ :: _), ↓wa_nil (ρ := _ :: _), ↓wa_cons (ρ := _ :: _), ↓wo_nil (ρ := _ :: _), ↓wo_som (ρ := _ :: _), ↓ws_rg1 (ρ := _ :: _), ↓ws_rg2 (ρ := _ :: _), ↓ws_sq (ρ := _ :: _), ↓wc_nil (ρ := _ :: _), ↓wc_som (ρ := _ :: _), ↓brB_t, ↓brB_f, ↓varP_dat, ↓varP_own, ↓argP_dat, ↓argP_fresh, ↓callP1, ↓callP2, ↓callP3, ↓callP4, ↓callP5, ↓seq_next, ↓seq_ret, ↓seq_brk, ↓seq_cont, ↓asgP_dat, ↓asgP_own, ↓asgP_fr, ↓retP_dat, ↓retP_fresh, ↓done_ret, ↓done_next, ↓onO_some, ↓fz_dat, ↓fz_fresh, ↓add_ii, ↓sub_ii, ↓mul_ii, ↓mod_ii, ↓div_ii, ↓pow_ii, ↓add_tt, ↓add_ll, ↓add_ss, ↓mul_ti, ↓neg_i, ↓lt_ii, ↓le_ii, ↓gt_ii, ↓ge_ii, ↓eq_ii, ↓ne_ii, ↓eq_bb, ↓ne_bb, ↓eq_ss, ↓ne_ss, ↓len_t, ↓len_l, ↓len_s, ↓int_i, ↓list_t, ↓list_l, ↓list_s, ↓tuple_t, ↓tuple_l, ↓max_ii, ↓min_ii, ↓all_l, ↓any_l, ↓cell0, ↓cell1, ↓cell2, ↓rng1, ↓rng2, ↓Lit.d, ↓List.getElem?_cons_zero, ↓List.getElem?_cons_succ, ↓List.set_cons_zero, ↓List.set_cons_succ, ↓List.length_cons, ↓List.length_nil, ↓List.length_set, ↓natAbs10, ↓tapeP_l, ↓after_next, ↓after_cont, ↓after_brk, ↓after_ret, ↓items_t, ↓items_l, ↓rev_l, ↓List.map_cons, ↓List.map_nil, ↓wipeR, ↓restR, ↓Option.getD_some, ↓Option.getD_none, ↓setTgs_nm, ↓compP_eq, Nat.reduceAdd, Nat.reduceLT, Nat.reduceLeDiff, Int.reduceLE, Int.reduceLT, Nat.reducePow, true_and, Int.reduceToNat, Int.reducePow, Int.reduceNeg]
      exact ⟨fun e he => by cases he; exact Fit.mono (by decide) (by decide) hv, by rcases hk with rfl | rfl <;> rfl, hS6⟩
    simp only [List.length_map, List.length_range] at hrl
    simp only [↓wi_nil (ρ := _ :: _), ↓wi_cons (ρ := _ :: _), ↓wi_asg (ρ := _ :: _), ↓wi_tape (ρ := _ :: _), ↓wi_asgT (ρ := _ :: _), ↓wi_setI (ρ := _ :: _), ↓wi_mt (ρ := _ :: _), ↓wi_ret (ρ := _ :: _), ↓wi_retN (ρ := _ :: _), ↓wi_iff (ρ := _ :: _), ↓wi_exp (ρ := _ :: _), ↓wi_pass (ρ := _ :: _), ↓wi_brk (ρ := _ :: _), ↓wi_cont (ρ := _ :: _), ↓we_lit (ρ := _ :: _), ↓we_gl (ρ := _ :: _), ↓we_var (ρ := _ :: _), ↓we_tup (ρ := _ :: _), ↓we_lst (ρ := _ :: _), ↓we_op (ρ := _ :: _), ↓we_neg (ρ := _ :: _), ↓we_cmp (ρ := _ :: _), ↓we_chain (ρ := _ :: _), ↓we_and (ρ := _ :: _), ↓we_or (ρ := _ :: _), ↓we_not (ρ := _ :: _), ↓we_ite (ρ := _ :: _), ↓we_idx (ρ := _ :: _), ↓we_slc (ρ := _ :: _), ↓we_rev (ρ := _ :: _), ↓we_call (ρ := _ :: _), ↓we_isi (ρ := _ :: _), ↓we_bi (ρ := _ :: _), ↓we_comp (ρ := _ :: _), ↓wl_nil (ρ := _ :: _), ↓wl_cons (ρ := _ :: _), ↓wpp_nil (ρ := _ :: _), ↓wpp_cons (ρ := _ :: _), ↓wa_nil (ρ := _ :: _), ↓wa_cons (ρ := _ :: _), ↓wo_nil (ρ := _ :: _), ↓wo_som (ρ := _ :: _), ↓ws_rg1 (ρ := _ :: _), ↓ws_rg2 (ρ := _ :: _), ↓ws_sq (ρ := _ :: _), ↓wc_nil (ρ := _ :: _), ↓wc_som (ρ := _ :: _), ↓brB_t, ↓brB_f, ↓varP_dat, ↓varP_own, ↓argP_dat, ↓argP_fresh, ↓callP1, ↓callP2, ↓callP3, ↓callP4, ↓callP5, ↓seq_next, ↓seq_ret, ↓seq_brk, ↓seq_cont, ↓asgP_dat, ↓asgP_own, ↓asgP_fr, ↓retP_dat, ↓retP_fresh, ↓done_ret, ↓done_next, ↓onO_some, ↓fz_dat, ↓fz_fresh, ↓add_ii, ↓sub_ii, ↓mul_ii, ↓mod_ii, ↓div_ii, ↓pow_ii, ↓add_tt, ↓add_ll, ↓add_ss, ↓mul_ti, ↓neg_i, ↓lt_ii, ↓le_ii, ↓gt_ii, ↓ge_ii, ↓eq_ii, ↓ne_ii, ↓eq_bb, ↓ne_bb, ↓eq_ss, ↓ne_ss, ↓len_t, ↓len_l, ↓len_s, ↓int_i, ↓list_t, ↓list_l, ↓list_s, ↓tuple_t, ↓tuple_l, ↓max_ii, ↓min_ii, ↓all_l, ↓any_l, ↓cell0, ↓cell1, ↓cell2, ↓rng1, ↓rng2, ↓Lit.d, ↓List.getElem?_cons_zero, ↓List.getElem?_cons_succ, ↓List.set_cons_zero, ↓List.set_cons_succ, ↓List.length_cons, ↓List.length_nil, ↓List.length_set, ↓natAbs10, ↓tapeP_l, ↓after_next, ↓after_cont, ↓after_brk, ↓after_ret, ↓items_t, ↓items_l, ↓rev_l, ↓List.map_cons, ↓List.map_nil, ↓wipeR, ↓restR, ↓Option.getD_some, ↓Option.getD_none, ↓setTgs_nm, ↓compP_eq, Nat.reduceAdd, Nat.reduceLT, Nat.reduceLeDiff, Int.reduceLE, Int.reduceLT, Nat.reducePow, true_and, Int.reduceToNat, Int.reducePow, Int.reduceNeg]
    refine ⟨by simp only [sizeLine]; have : (Int.toNat 8) = 8 := rfl; omega, ?_⟩
    have hall : ∀ x ∈ L2 ++ r, Fit 1010 9 x := fun x hx => by
      rcases List.mem_append.mp hx with hx | hx
      · exact Fit.mono (by decide) (by decide) (hLf2 x hx)
      · exact hr x hx
    refine wp_for (fun l ρ S => (∀ x ∈ l, Fit 1010 9 x) ∧ ∃ S0 a b c d, TS S0 ∧ At [some (.dat (.scr ns)), some (.dat (.cell 0)), a, b, c, d, none] S0 ρ S) ?_ ?_ ⟨hall, S5, _, _, _, _, hS5, at_mk⟩
    · rintro v l _ _ ⟨hl, S6, a, b, c, d, hS6, rfl, rfl⟩
      rw [wp_step, setTgs_nm]
      refine ⟨by show 5 < 7; decide, ?_⟩
      simp only [List.set_cons_succ, List.set_cons_zero]
      simp only [↓wi_nil (ρ := _ :: _), ↓wi_cons (ρ := _ :: _), ↓wi_asg (ρ := _ :: _), ↓wi_tape (ρ := _ :: _), ↓wi_asgT (ρ := _ :: _), ↓wi_setI (ρ := _ :: _), ↓wi_mt (ρ := _ :: _), ↓wi_ret (ρ := _ :: _), ↓wi_retN (ρ := _ :: _), ↓wi_iff (ρ := _ :: _), ↓wi_exp (ρ := _ :: _), ↓wi_pass (ρ := _ :: _), ↓wi_brk (ρ := _ :: _), ↓wi_cont (ρ := _ :: _), ↓we_lit (ρ := _ :: _), ↓we_gl (ρ := _ :: _), ↓we_var (ρ := _ :: _), ↓we_tup (ρ := _ :: _), ↓we_lst (ρ := _ :: _), ↓we_op (ρ := _ :: _), ↓we_neg (ρ := _ :: _), ↓we_cmp (ρ := _ :: _), ↓we_chain (ρ := _ :: _), ↓we_and (ρ := _ :: _), ↓we_or (ρ := _ :: _), ↓we_not (ρ := _ :: _), ↓we_ite (ρ := _ :: _), ↓we_idx (ρ := _ :: _), ↓we_slc (ρ := _ :: _), ↓we_rev (ρ := _ :: _), ↓we_call (ρ := _ :: _), ↓we_isi (ρ := _ :: _), ↓we_bi (ρ := _ :: _), ↓we_comp (ρ := _ :: _), ↓wl_nil (ρ := _ :: _), ↓wl_cons (ρ := _ :: _), ↓wpp_nil (ρ := _ :: _), ↓wpp_cons (ρ := _ :: _), ↓wa_nil (ρ := _ :: _), ↓wa_cons (ρ := _ :: _), ↓wo_nil (ρ := _ :: _), ↓wo_som (ρ := _ :: _), ↓ws_rg1 (ρ := _ :: _), ↓ws_rg2 (ρ := _ :: _), ↓ws_sq (ρ := _ :: _), ↓wc_nil (ρ := _ :: _), ↓wc_som (ρ := _ :: _), ↓brB_t, ↓brB_f, ↓varP_dat, ↓varP_own, ↓argP_dat, ↓argP_fresh, ↓callP1, ↓callP2, ↓callP3, ↓callP4, ↓callP5, ↓seq_next, ↓seq_ret, ↓seq_brk, ↓seq_cont, ↓asgP_dat, ↓asgP_own, ↓asgP_fr, ↓retP_dat, ↓retP_fresh, ↓done_ret, ↓done_next, ↓onO_some, ↓fz_dat, ↓fz_fresh, ↓add_ii, ↓sub_ii, ↓mul_ii, ↓mod_ii, ↓div_ii, ↓pow_ii, ↓add_tt, ↓add_ll, ↓add_ss, ↓mul_ti, ↓neg_i, ↓lt_ii, ↓le_ii, ↓gt_ii, ↓ge_ii, ↓eq_ii, ↓ne_ii, ↓eq_bb, ↓ne_bb, ↓eq_ss, ↓ne_ss, ↓len_t, ↓len_l, ↓len_s, ↓int_i, ↓list_t, ↓list_l, ↓list_s, ↓tuple_t, ↓tuple_l, ↓max_ii, ↓min_ii, ↓all_l, ↓any_l, ↓cell0, ↓cell1, ↓cell2, ↓rng1, ↓rng2, ↓Lit.d, ↓List.getElem?_cons_zero, ↓List.getElem?_cons_succ, ↓List.set_cons_zero, ↓List.set_cons_succ, ↓List.length_cons, ↓List.length_nil, ↓List.length_set, ↓natAbs10, ↓tapeP_l, ↓after_next, ↓after_cont, ↓after_brk, ↓after_ret, ↓items_t, ↓items_l, ↓rev_l, ↓List.map_cons, ↓List.map_nil, ↓wipeR, ↓restR, ↓Option.getD_some, ↓Option.getD_none, ↓setTgs_nm, ↓compP_eq, Nat.reduceAdd, Nat.reduceLT, Nat.reduceLeDiff, Int.reduceLE, Int.reduceLT, Nat.reducePow, true_and, Int.reduceToNat, Int.reducePow, Int.reduceNeg]
      refine isBounds_ok 37 _ _ _ ?_
      simp only [↓wi_nil (ρ := _ :: _), ↓wi_cons (ρ := _ :: _), ↓wi_asg (ρ := _ :: _), ↓wi_tape (ρ := _ :: _), ↓wi_asgT (ρ := _ :: _), ↓wi_setI (ρ := _ :: _), ↓wi_mt (ρ := _ :: _), ↓wi_ret (ρ := _ :: _), ↓wi_retN (ρ := _ :: _), ↓wi_iff (ρ := _ :: _), ↓wi_exp (ρ := _ :: _), ↓wi_pass (ρ := _ :: _), ↓wi_brk (ρ := _ :: _), ↓wi_cont (ρ := _ :: _), ↓we_lit (ρ := _ :: _), ↓we_gl (ρ := _ :: _), ↓we_var (ρ := _ :: _), ↓we_tup (ρ := _ :: _), ↓we_lst (ρ := _ :: _), ↓we_op (ρ := _ :: _), ↓we_neg (ρ := _ :: _), ↓we_cmp (ρ := _ :: _), ↓we_chain (ρ := _ :: _), ↓we_and (ρ := _ :: _), ↓we_or (ρ := _ :: _), ↓we_not (ρ := _ :: _), ↓we_ite (ρ := _ :: _), ↓we_idx (ρ := _ :: _), ↓we_slc (ρ := _ :: _), ↓we_rev (ρ := _ :: _), ↓we_call (ρ := _ :: _), ↓we_isi (ρ := _ :: _), ↓we_bi (ρ := _ :: _), ↓we_comp (ρ := _ :: _), ↓wl_nil (ρ := _ :: _), ↓wl_cons (ρ := _ :: _), ↓wpp_nil (ρ := _ :: _), ↓wpp_cons (ρ := _ :: _), ↓wa_nil (ρ := _ :: _), ↓wa_cons (ρ := _ :: _), ↓wo_nil (ρ := _ :: _), ↓wo_som (ρ := _ :: _), ↓ws_rg1 (ρ := _ :: _), ↓ws_rg2 (ρ := _ :: _), ↓ws_sq (ρ := _ :: _), ↓wc_nil (ρ := _ :: _), ↓wc_som (ρ := _ :: _), ↓brB_t, ↓brB_f, ↓varP_dat, ↓varP_own, ↓argP_dat, ↓argP_fresh, ↓callP1, ↓callP2, ↓callP3, ↓callP4, ↓callP5, ↓seq_next, ↓seq_ret, ↓seq_brk, ↓seq_cont, ↓asgP_dat, ↓asgP_own, ↓asgP_fr, ↓retP_dat, ↓retP_fresh, ↓done_ret, ↓done_next, ↓onO_some, ↓fz_dat, ↓fz_fresh, ↓add_ii, ↓sub_ii, ↓mul_ii, ↓mod_ii, ↓div_ii, ↓pow_ii, ↓add_tt, ↓add_ll, ↓add_ss, ↓mul_ti, ↓neg_i, ↓lt_ii, ↓le_ii, ↓gt_ii, ↓ge_ii, ↓eq_ii, ↓ne_ii, ↓eq_bb, ↓ne_bb, ↓eq_ss, ↓ne_ss, ↓len_t, ↓len_l, ↓len_s, ↓int_i, ↓list_t, ↓list_l, ↓list_s, ↓tuple_t, ↓tuple_l, ↓max_ii, ↓min_ii, ↓all_l, ↓any_l, ↓cell0, ↓cell1, ↓cell2, ↓rng1, ↓rng2, ↓Lit.d, ↓List.getElem?_cons_zero, ↓List.getElem?_cons_succ, ↓List.set_cons_zero, ↓List.set_cons_succ, ↓List.length_cons, ↓List.length_nil, ↓List.length_set, ↓natAbs10, ↓tapeP_l, ↓after_next, ↓after_cont, ↓after_brk, ↓after_ret, ↓items_t, ↓items_l, ↓rev_l, ↓List.map_cons, ↓List.map_nil, ↓wipeR, ↓restR, ↓Option.getD_some, ↓Option.getD_none, ↓setTgs_nm, ↓compP_eq, Nat.reduceAdd, Nat.reduceLT, Nat.reduceLeDiff, Int.reduceLE, Int.reduceLT, Nat.reducePow, true_and, Int.reduceToNat, Int.reducePow, Int.reduceNeg]
      refine lawIsBounds_ok 38 (N := 1010) (k := 9) (by decide) (by decide) _ _ _ (hl v (by simp)) ?_
      simp only [↓wi_nil (ρ := _ :: _), ↓wi_cons (ρ := _ :: _), ↓wi_asg (ρ := _ :: _), ↓wi_tape (ρ := _ :: _), ↓wi_asgT (ρ := _ :: _), ↓wi_setI (ρ := _ :: _), ↓wi_mt (ρ := _ :: _), ↓wi_ret (ρ := _ :: _), ↓wi_retN (ρ := _ :: _), ↓wi_iff (ρ := _ :: _), ↓wi_exp (ρ := _ :: _), ↓wi_pass (ρ := _ :: _), ↓wi_brk (ρ := _ :: _), ↓wi_cont (ρ := _ :: _), ↓we_lit (ρ := _ :: _), ↓we_gl (ρ := _ :: _), ↓we_var (ρ := _ :: _), ↓we_tup (ρ := _ :: _), ↓we_lst (ρ := _ :: _), ↓we_op (ρ := _ :: _), ↓we_neg (ρ := _ :: _), ↓we_cmp (ρ := _ :: _), ↓we_chain (ρ := _ :: _), ↓we_and (ρ := _ :: _), ↓we_or (ρ := _ :: _), ↓we_not (ρ := _ :: _), ↓we_ite (ρ := _ :: _), ↓we_idx (ρ := _ :: _), ↓we_slc (ρ := _ :: _), ↓we_rev (ρ := _ :: _), ↓we_call (ρ := _ :: _), ↓we_isi (ρ := _ :: _), ↓we_bi (ρ := _ :: _), ↓we_comp (ρ := _ :: _), ↓wl_nil (ρ := _ :: _), ↓wl_cons (ρ := _ :: _), ↓wpp_nil (ρ := _ :: _), ↓wpp_cons (ρ := _ :: _), ↓wa_nil (ρ := _ :: _), ↓wa_cons (ρ := _ :: _), ↓wo_nil (ρ := _ :: _), ↓wo_som (ρ := _ :: _), ↓ws_rg1 (ρ := _ :: _), ↓ws_rg2 (ρ := _ :: _), ↓ws_sq (ρ := _ :: _), ↓wc_nil (ρ := _ :: _), ↓wc_som (ρ := _ :: _), ↓brB_t, ↓brB_f, ↓varP_dat, ↓varP_own, ↓argP_dat, ↓argP_fresh, ↓callP1, ↓callP2, ↓callP3, ↓callP4, ↓callP5, ↓seq_next, ↓seq_ret, ↓seq_brk, ↓seq_cont, ↓asgP_dat, ↓asgP_own, ↓asgP_fr, ↓retP_dat, ↓retP_fresh, ↓done_ret, ↓done_next, ↓onO_some, ↓fz_dat, ↓fz_fresh, ↓add_ii, ↓sub_ii, ↓mul_ii, ↓mod_ii, ↓div_ii, ↓pow_ii, ↓add_tt, ↓add_ll, ↓add_ss, ↓mul_ti, ↓neg_i, ↓lt_ii, ↓le_ii, ↓gt_ii, ↓ge_ii, ↓eq_ii, ↓ne_ii, ↓eq_bb, ↓ne_bb, ↓eq_ss, ↓ne_ss, ↓len_t, ↓len_l, ↓len_s, ↓int_i, ↓list_t, ↓list_l, ↓list_s, ↓tuple_t, ↓tuple_l, ↓max_ii, ↓min_ii, ↓all_l, ↓any_l, ↓cell0, ↓cell1, ↓cell2, ↓rng1, ↓rng2, ↓Lit.d, ↓List.getElem?_cons_zero, ↓List.getElem?_cons_succ, ↓List.set_cons_zero, ↓List.set_cons_succ, ↓List.length_cons, ↓List.length_nil, ↓List.length_set, ↓natAbs10, ↓tapeP_l, ↓after_next, ↓after_cont, ↓after_brk, ↓after_ret, ↓items_t, ↓items_l, ↓rev_l, ↓List.map_cons, ↓List.map_nil, ↓wipeR, ↓restR, ↓Option.getD_some, ↓Option.getD_none, ↓setTgs_nm, ↓compP_eq, Nat.reduceAdd, Nat.reduceLT, Nat.reduceLeDiff, Int.reduceLE, Int.reduceLT, Nat.reducePow, true_and, Int.reduceToNat, Int.reducePow, Int.reduceNeg]
      refine likeB_ok 39 _ _ _ _ ?_
      simp only [↓wi_nil (ρ := _ :: _), ↓wi_cons (ρ := _ :: _), ↓wi_asg (ρ := _ :: _), ↓wi_tape (ρ := _ :: _), ↓wi_asgT (ρ := _ :: _), ↓wi_setI (ρ := _ :: _), ↓wi_mt (ρ := _ :: _), ↓wi_ret (ρ := _ :: _), ↓wi_retN (ρ := _ :: _), ↓wi_iff (ρ := _ :: _), ↓wi_exp (ρ := _ :: _), ↓wi_pass (ρ := _ :: _), ↓wi_brk (ρ := _ :: _), ↓wi_cont (ρ := _ :: _), ↓we_lit (ρ := _ :: _), ↓we_gl (ρ := _ :: _), ↓we_var (ρ := _ :: _), ↓we_tup (ρ := _ :: _), ↓we_lst (ρ := _ :: _), ↓we_op (ρ := _ :: _), ↓we_neg (ρ := _ :: _), ↓we_cmp (ρ := _ :: _), ↓we_chain (ρ := _ :: _), ↓we_and (ρ := _ :: _), ↓we_or (ρ := _ :: _), ↓we_not (ρ := _ :: _), ↓we_ite (ρ := _ :: _), ↓we_idx (ρ := _ :: _), ↓we_slc (ρ := _ :: _), ↓we_rev (ρ := _ :: _), ↓we_call (ρ := _ :: _), ↓we_isi (ρ := _ :: _), ↓we_bi (ρ := _ :: _), ↓we_comp (ρ := _ :: _), ↓wl_nil (ρ := _ :: _), ↓wl_cons (ρ := _ :: _), ↓wpp_nil (ρ := _ :: _), ↓wpp_cons (ρ := _ :: _), ↓wa_nil (ρ := _ :: _), ↓wa_cons (ρ := _ :: _), ↓wo_nil (ρ := _ :: _), ↓wo_som (ρ := _ :: _), ↓ws_rg1 (ρ := _ :: _), ↓ws_rg2 (ρ := _ :: _), ↓ws_sq (ρ := _ :: _), ↓wc_nil (ρ := _ :: _), ↓wc_som (ρ := _ :: _), ↓brB_t, ↓brB_f, ↓varP_dat, ↓varP_own, ↓argP_dat, ↓argP_fresh, ↓callP1, ↓callP2, ↓callP3, ↓callP4, ↓callP5, ↓seq_next, ↓seq_ret, ↓seq_brk, ↓seq_cont, ↓asgP_dat, ↓asgP_own, ↓asgP_fr, ↓retP_dat, ↓retP_fresh, ↓done_ret, ↓done_next, ↓onO_some, ↓fz_dat, ↓fz_fresh, ↓add_ii, ↓sub_ii, ↓mul_ii, ↓mod_ii, ↓div_ii, ↓pow_ii, ↓add_tt, ↓add_ll, ↓add_ss, ↓mul_ti, ↓neg_i, ↓lt_ii, ↓le_ii, ↓gt_ii, ↓ge_ii, ↓eq_ii, ↓ne_ii, ↓eq_bb, ↓ne_bb, ↓eq_ss, ↓ne_ss, ↓len_t, ↓len_l, ↓len_s, ↓int_i, ↓list_t, ↓list_l, ↓list_s, ↓tuple_t, ↓tuple_l, ↓max_ii, ↓min_ii, ↓all_l, ↓any_l, ↓cell0, ↓cell1, ↓cell2, ↓rng1, ↓rng2, ↓Lit.d, ↓List.getElem?_cons_zero, ↓List.getElem?_cons_succ, ↓List.set_cons_zero, ↓List.set_cons_succ, ↓List.length_cons, ↓List.length_nil, ↓List.length_set, ↓natAbs10, ↓tapeP_l, ↓after_next, ↓after_cont, ↓after_brk, ↓after_ret, ↓items_t, ↓items_l, ↓rev_l, ↓List.map_cons, ↓List.map_nil, ↓wipeR, ↓restR, ↓Option.getD_some, ↓Option.getD_none, ↓setTgs_nm, ↓compP_eq, Nat.reduceAdd, Nat.reduceLT, Nat.reduceLeDiff, Int.reduceLE, Int.reduceLT, Nat.reducePow, true_and, Int.reduceToNat, Int.reducePow, Int.reduceNeg, beq_self_eq_true]
      exact ⟨fun x hx => hl x (by simp [hx]), S6, _, _, _, _, hS6, at_mk⟩
    · rintro _ _ ⟨_, S6, a, b, c, d, hS6, rfl, rfl⟩
      simp only [↓wi_nil (ρ := _ :: _), ↓wi_cons (ρ := _ :: _), ↓wi_asg (ρ := _ :: _), ↓wi_tape (ρ := _ :: _), ↓wi_asgT (ρ := _ :: _), ↓wi_setI (ρ := _ :: _), ↓wi_mt (ρ := _ :: _), ↓wi_ret (ρ := _ :: _), ↓wi_retN (ρ := _ :: _), ↓wi_iff (ρ := _ :: _), ↓wi_exp (ρ := _ :: _), ↓wi_pass (ρ := _ :: _), ↓wi_brk (ρ := _ :: _), ↓wi_cont (ρ := _ :: _), ↓we_lit (ρ := _ :: _), ↓we_gl (ρ := _ :: _), ↓we_var (ρ := _ :: _), ↓we_tup (ρ := _ :: _), ↓we_lst (ρ := _ :: _), ↓we_op (ρ := _ :: _), ↓we_neg (ρ := _ :: _), ↓we_cmp (ρ := _ :: _), ↓we_chain (ρ := _ :: _), ↓we_and (ρ := _ :: _), ↓we_or (ρ := _ :: _), ↓we_not (ρ := _ :: _), ↓we_ite (ρ := _ :: _), ↓we_idx (ρ := _ :: _), ↓we_slc (ρ := _ :: _), ↓we_rev (ρ := _ :: _), ↓we_call (ρ := _ :: _), ↓we_isi (ρ := _ :: _), ↓we_bi (ρ := _ :: _), ↓we_comp (ρ := _ :: _), ↓wl_nil (ρ := _ :: _), ↓wl_cons (ρ := _ :: _), ↓wpp_nil (ρ := _ :: _), ↓wpp_cons (ρ := _ :: _), ↓wa_nil (ρ := _ :: _), ↓wa_cons (ρ := _ :: _), ↓wo_nil (ρ := _ :: _), ↓wo_som (ρ := _ :: _), ↓ws_rg1 (ρ := _ :: _), ↓ws_rg2 (ρ := _ :: _), ↓ws_sq (ρ := _ :: _), ↓wc_nil (ρ := _ :: _), ↓wc_som (ρ := _ :: _), ↓brB_t, ↓brB_f, ↓varP_dat, ↓varP_own, ↓argP_dat, ↓argP_fresh, ↓callP1, ↓callP2, ↓callP3, ↓callP4, ↓callP5, ↓seq_next, ↓seq_ret, ↓seq_brk, ↓seq_cont, ↓asgP_dat, ↓asgP_own, ↓asgP_fr, ↓retP_dat, ↓retP_fresh, ↓done_ret, ↓done_next, ↓onO_some, ↓fz_dat, ↓fz_fresh, ↓add_ii, ↓sub_ii, ↓mul_ii, ↓mod_ii, ↓div_ii, ↓pow_ii, ↓add_tt, ↓add_ll, ↓add_ss, ↓mul_ti, ↓neg_i, ↓lt_ii, ↓le_ii, ↓gt_ii, ↓ge_ii, ↓eq_ii, ↓ne_ii, ↓eq_bb, ↓ne_bb, ↓eq_ss, ↓ne_ss, ↓len_t, ↓len_l, ↓len_s, ↓int_i, ↓list_t, ↓list_l, ↓list_s, ↓tuple_t, ↓tuple_l, ↓max_ii, ↓min_ii, ↓all_l, ↓any_l, ↓cell0, ↓cell1, ↓cell2, ↓rng1, ↓rng2, ↓Lit.d, ↓List.getElem?_cons_zero, ↓List.getElem?_cons_succ, ↓List.set_cons_zero, ↓List.set_cons_succ, ↓List.length_cons, ↓List.length_nil, ↓List.length_set, ↓natAbs10, ↓tapeP_l, ↓after_next, ↓after_cont, ↓after_brk, ↓after_ret, ↓items_t, ↓items_l, ↓rev_l, ↓List.map_cons, ↓List.map_nil, ↓wipeR, ↓restR, ↓Option.getD_some, ↓Option.getD_none, ↓setTgs_nm, ↓compP_eq, Nat.reduceAdd, Nat.reduceLT, Nat.reduceLeDiff, Int.reduceLE, Int.reduceLT, Nat.reducePow, true_and, Int.reduceToNat, Int.reducePow, Int.reduceNeg]
      exact ⟨S6, _, _, _, _, hS6, at_mk⟩
  obtain ⟨⟨kd, S'⟩, h1, h2⟩ := onO_ex h
  exact ⟨S', by rw [show levels + 1 = 41 from rfl, h1]; dsimp only at h2; rw [h2]⟩
end LP

namespace LP
open PySem L2 IL PyProof.Rows
def top (i : Nat) : Stmt := PySem.Challenge.pw_shiftcases_k05_bounds_recognized.main.body.getD i (.Pass ⟨0, 0, 0, 0⟩)
abbrev s_is_integer : Stmt := top 3
def r_is_integer : Rec := ⟨"is_integer", s_is_integer, ["thing"], f_is_integer⟩
abbrev s_is_bound : Stmt := top 4
def r_is_bound : Rec := ⟨"is_bound", s_is_bound, ["thing", "part"], f_is_bound⟩
abbrev s_is_bounds : Stmt := top 5
def r_is_bounds : Rec := ⟨"is_bounds", s_is_bounds, ["thing", "part"], f_is_bounds⟩
abbrev s__law_draw : Stmt := top 7
def r__law_draw : Rec := ⟨"_law_draw", s__law_draw, ["_law_tape", "_law_many", "_law_prime", "_law_found", "_law_cell"], f__law_draw⟩
abbrev s__law_whole : Stmt := top 8
def r__law_whole : Rec := ⟨"_law_whole", s__law_whole, ["_law_item"], f__law_whole⟩
abbrev s__law_like : Stmt := top 9
def r__law_like : Rec := ⟨"_law_like", s__law_like, ["_law_one", "_law_two", "_law_k"], f__law_like⟩
abbrev s__law_spoilt : Stmt := top 10
def r__law_spoilt : Rec := ⟨"_law_spoilt", s__law_spoilt, ["_law_tape", "_law_item", "_law_k", "_law_rest", "_law_course", "_law_at"], f__law_spoilt⟩
abbrev s__law_any : Stmt := top 11
def r__law_any : Rec := ⟨"_law_any", s__law_any, ["_law_tape", "_law_deep", "_law_course", "_law_some", "_law_k"], f__law_any⟩
abbrev s__law_near : Stmt := top 12
def r__law_near : Rec := ⟨"_law_near", s__law_near, ["_law_tape", "_law_wide"], f__law_near⟩
abbrev s__law_bounds : Stmt := top 13
def r__law_bounds : Rec := ⟨"_law_bounds", s__law_bounds, ["_law_tape", "_law_points", "_law_most", "_law_wide", "_law_found", "_law_part", "_law_x", "_law_y"], f__law_bounds⟩
abbrev s__law_is_bounds : Stmt := top 14
def r__law_is_bounds : Rec := ⟨"_law_is_bounds", s__law_is_bounds, ["_law_thing", "_law_row", "_law_part"], f__law_is_bounds⟩
abbrev s_law : Stmt := top 15
def r_law : Rec := ⟨"law", s_law, ["_law_script", "_law_tape", "_law_turn", "_law_bounds_here", "_law_things", "_law_thing", "_law_part"], f_law⟩
def recs : List Rec := [r_is_integer, r_is_bound, r_is_bounds, r__law_draw, r__law_whole, r__law_like, r__law_spoilt, r__law_any, r__law_near, r__law_bounds, r__law_is_bounds, r_law]
def tab : Tab := { fns := [("_law_any", 7), ("_law_bounds", 9), ("_law_draw", 3), ("_law_is_bounds", 10), ("_law_like", 5), ("_law_near", 8), ("_law_spoilt", 6), ("_law_whole", 4), ("is_bound", 1), ("is_bounds", 2), ("is_integer", 0)], consts := [("MOST_BOUNDS", (.int 60)), ("MOST_POINTS", (.int 6))], blt := ["all", "bool", "int", "isinstance", "len", "list", "max", "range", "str", "tuple"] }
theorem sc_is_integer : FnScope ["thing"] ["thing"] (defScope s_is_integer) := ⟨rfl, rfl, rfl, by decide +kernel, rfl, by decide +kernel, by decide +kernel⟩
theorem ok_is_integer : r_is_integer.ok tab = true := by decide +kernel
theorem sc_is_bound : FnScope ["thing", "part"] ["thing"] (defScope s_is_bound) := ⟨rfl, rfl, rfl, by decide +kernel, rfl, by decide +kernel, by decide +kernel⟩
theorem ok_is_bound : r_is_bound.ok tab = true := by decide +kernel
theorem sc_is_bounds : FnScope ["thing", "part"] ["thing"] (defScope s_is_bounds) := ⟨rfl, rfl, rfl, by decide +kernel, rfl, by decide +kernel, by decide +kernel⟩
theorem ok_is_bounds : r_is_bounds.ok tab = true := by decide +kernel
theorem sc__law_draw : FnScope ["_law_tape", "_law_many", "_law_prime", "_law_found", "_law_cell"] ["_law_tape", "_law_many"] (defScope s__law_draw) := ⟨rfl, rfl, rfl, by decide +kernel, rfl, by decide +kernel, by decide +kernel⟩
theorem ok__law_draw : r__law_draw.ok tab = true := by decide +kernel
theorem sc__law_whole : FnScope ["_law_item"] ["_law_item"] (defScope s__law_whole) := ⟨rfl, rfl, rfl, by decide +kernel, rfl, by decide +kernel, by decide +kernel⟩
theorem ok__law_whole : r__law_whole.ok tab = true := by decide +kernel
theorem sc__law_like : FnScope ["_law_one", "_law_two", "_law_k"] ["_law_one", "_law_two"] (defScope s__law_like) := ⟨rfl, rfl, rfl, by decide +kernel, rfl, by decide +kernel, by decide +kernel⟩
theorem ok__law_like : r__law_like.ok tab = true := by decide +kernel
theorem sc__law_spoilt : FnScope ["_law_tape", "_law_item", "_law_k", "_law_rest", "_law_course", "_law_at"] ["_law_tape", "_law_item"] (defScope s__law_spoilt) := ⟨rfl, rfl, rfl, by decide +kernel, rfl, by decide +kernel, by decide +kernel⟩
theorem ok__law_spoilt : r__law_spoilt.ok tab = true := by decide +kernel
theorem sc__law_any : FnScope ["_law_tape", "_law_deep", "_law_course", "_law_some", "_law_k"] ["_law_tape", "_law_deep"] (defScope s__law_any) := ⟨rfl, rfl, rfl, by decide +kernel, rfl, by decide +kernel, by decide +kernel⟩
theorem ok__law_any : r__law_any.ok tab = true := by decide +kernel
theorem sc__law_near : FnScope ["_law_tape", "_law_wide"] ["_law_tape", "_law_wide"] (defScope s__law_near) := ⟨rfl, rfl, rfl, by decide +kernel, rfl, by decide +kernel, by decide +kernel⟩
theorem ok__law_near : r__law_near.ok tab = true := by decide +kernel
theorem sc__law_bounds : FnScope ["_law_tape", "_law_points", "_law_most", "_law_wide", "_law_found", "_law_part", "_law_x", "_law_y"] ["_law_tape", "_law_points", "_law_most", "_law_wide"] (defScope s__law_bounds) := ⟨rfl, rfl, rfl, by decide +kernel, rfl, by decide +kernel, by decide +kernel⟩
theorem ok__law_bounds : r__law_bounds.ok tab = true := by decide +kernel
theorem sc__law_is_bounds : FnScope ["_law_thing", "_law_row", "_law_part"] ["_law_thing"] (defScope s__law_is_bounds) := ⟨rfl, rfl, rfl, by decide +kernel, rfl, by decide +kernel, by decide +kernel⟩
theorem ok__law_is_bounds : r__law_is_bounds.ok tab = true := by decide +kernel
theorem sc_law : FnScope ["_law_script", "_law_tape", "_law_turn", "_law_bounds_here", "_law_things", "_law_thing", "_law_part"] ["_law_script"] (defScope s_law) := ⟨rfl, rfl, rfl, by decide +kernel, rfl, by decide +kernel, by decide +kernel⟩
theorem ok_law : r_law.ok tab = true := by decide +kernel
theorem all_sc : ∀ r ∈ recs, FnScope r.N r.ps (defScope r.st) := by
  intro r h
  simp only [recs, List.mem_cons, List.not_mem_nil, or_false] at h
  rcases h with rfl | rfl | rfl | rfl | rfl | rfl | rfl | rfl | rfl | rfl | rfl | rfl
  · exact sc_is_integer
  · exact sc_is_bound
  · exact sc_is_bounds
  · exact sc__law_draw
  · exact sc__law_whole
  · exact sc__law_like
  · exact sc__law_spoilt
  · exact sc__law_any
  · exact sc__law_near
  · exact sc__law_bounds
  · exact sc__law_is_bounds
  · exact sc_law
theorem all_ok : ∀ r ∈ recs, r.ok tab = true := by
  intro r h
  simp only [recs, List.mem_cons, List.not_mem_nil, or_false] at h
  rcases h with rfl | rfl | rfl | rfl | rfl | rfl | rfl | rfl | rfl | rfl | rfl | rfl
  · exact ok_is_integer
  · exact ok_is_bound
  · exact ok_is_bounds
  · exact ok__law_draw
  · exact ok__law_whole
  · exact ok__law_like
  · exact ok__law_spoilt
  · exact ok__law_any
  · exact ok__law_near
  · exact ok__law_bounds
  · exact ok__law_is_bounds
  · exact ok_law
section
variable {K : PySem.W.Frag}
theorem left_is_integer {f : Addr} {oc : Value} {od an : Option Addr} {sl : Array (Option Value)} {kV dc pm cd ct : Value} (l : K.lookup f = some ⟨oc, od, .func (PySem.W.fnOf "is_integer" "is_integer" (defArgs s_is_integer) (defBody s_is_integer) (defScope s_is_integer) .none kV dc pm an cd ct), sl⟩) (c : PySem.W.codeIn K cd "is_integer" = true) (k : PySem.W.keepIn K (.ref f) = true) : Left K r_is_integer f :=
  ⟨⟨_, fun_mk (st := s_is_integer) l c k, (fun_mk (st := s_is_integer) l c k).binds (ps := r_is_integer.ps) fun _ _ _ _ _ _ us hl => match us, hl with | [_], _ => rfl⟩, k⟩
theorem left_is_bound {f : Addr} {oc : Value} {od an : Option Addr} {sl : Array (Option Value)} {kV dc pm cd ct : Value} (l : K.lookup f = some ⟨oc, od, .func (PySem.W.fnOf "is_bound" "is_bound" (defArgs s_is_bound) (defBody s_is_bound) (defScope s_is_bound) .none kV dc pm an cd ct), sl⟩) (c : PySem.W.codeIn K cd "is_bound" = true) (k : PySem.W.keepIn K (.ref f) = true) : Left K r_is_bound f :=
  ⟨⟨_, fun_mk (st := s_is_bound) l c k, (fun_mk (st := s_is_bound) l c k).binds (ps := r_is_bound.ps) fun _ _ _ _ _ _ us hl => match us, hl with | [_], _ => rfl⟩, k⟩
theorem left_is_bounds {f : Addr} {oc : Value} {od an : Option Addr} {sl : Array (Option Value)} {kV dc pm cd ct : Value} (l : K.lookup f = some ⟨oc, od, .func (PySem.W.fnOf "is_bounds" "is_bounds" (defArgs s_is_bounds) (defBody s_is_bounds) (defScope s_is_bounds) .none kV dc pm an cd ct), sl⟩) (c : PySem.W.codeIn K cd "is_bounds" = true) (k : PySem.W.keepIn K (.ref f) = true) : Left K r_is_bounds f :=
  ⟨⟨_, fun_mk (st := s_is_bounds) l c k, (fun_mk (st := s_is_bounds) l c k).binds (ps := r_is_bounds.ps) fun _ _ _ _ _ _ us hl => match us, hl with | [_], _ => rfl⟩, k⟩
theorem left__law_draw {f : Addr} {oc : Value} {od an : Option Addr} {sl : Array (Option Value)} {kV dc pm cd ct : Value} (l : K.lookup f = some ⟨oc, od, .func (PySem.W.fnOf "_law_draw" "_law_draw" (defArgs s__law_draw) (defBody s__law_draw) (defScope s__law_draw) .none kV dc pm an cd ct), sl⟩) (c : PySem.W.codeIn K cd "_law_draw" = true) (k : PySem.W.keepIn K (.ref f) = true) : Left K r__law_draw f :=
  ⟨⟨_, fun_mk (st := s__law_draw) l c k, (fun_mk (st := s__law_draw) l c k).binds (ps := r__law_draw.ps) fun _ _ _ _ _ _ us hl => match us, hl with | [_, _], _ => rfl⟩, k⟩
theorem left__law_whole {f : Addr} {oc : Value} {od an : Option Addr} {sl : Array (Option Value)} {kV dc pm cd ct : Value} (l : K.lookup f = some ⟨oc, od, .func (PySem.W.fnOf "_law_whole" "_law_whole" (defArgs s__law_whole) (defBody s__law_whole) (defScope s__law_whole) .none kV dc pm an cd ct), sl⟩) (c : PySem.W.codeIn K cd "_law_whole" = true) (k : PySem.W.keepIn K (.ref f) = true) : Left K r__law_whole f :=
  ⟨⟨_, fun_mk (st := s__law_whole) l c k, (fun_mk (st := s__law_whole) l c k).binds (ps := r__law_whole.ps) fun _ _ _ _ _ _ us hl => match us, hl with | [_], _ => rfl⟩, k⟩
theorem left__law_like {f : Addr} {oc : Value} {od an : Option Addr} {sl : Array (Option Value)} {kV dc pm cd ct : Value} (l : K.lookup f = some ⟨oc, od, .func (PySem.W.fnOf "_law_like" "_law_like" (defArgs s__law_like) (defBody s__law_like) (defScope s__law_like) .none kV dc pm an cd ct), sl⟩) (c : PySem.W.codeIn K cd "_law_like" = true) (k : PySem.W.keepIn K (.ref f) = true) : Left K r__law_like f :=
  ⟨⟨_, fun_mk (st := s__law_like) l c k, (fun_mk (st := s__law_like) l c k).binds (ps := r__law_like.ps) fun _ _ _ _ _ _ us hl => match us, hl with | [_, _], _ => rfl⟩, k⟩
theorem left__law_spoilt {f : Addr} {oc : Value} {od an : Option Addr} {sl : Array (Option Value)} {kV dc pm cd ct : Value} (l : K.lookup f = some ⟨oc, od, .func (PySem.W.fnOf "_law_spoilt" "_law_spoilt" (defArgs s__law_spoilt) (defBody s__law_spoilt) (defScope s__law_spoilt) .none kV dc pm an cd ct), sl⟩) (c : PySem.W.codeIn K cd "_law_spoilt" = true) (k : PySem.W.keepIn K (.ref f) = true) : Left K r__law_spoilt f :=
  ⟨⟨_, fun_mk (st := s__law_spoilt) l c k, (fun_mk (st := s__law_spoilt) l c k).binds (ps := r__law_spoilt.ps) fun _ _ _ _ _ _ us hl => match us, hl with | [_, _], _ => rfl⟩, k⟩
theorem left__law_any {f : Addr} {oc : Value} {od an : Option Addr} {sl : Array (Option Value)} {kV dc pm cd ct : Value} (l : K.lookup f = some ⟨oc, od, .func (PySem.W.fnOf "_law_any" "_law_any" (defArgs s__law_any) (defBody s__law_any) (defScope s__law_any) .none kV dc pm an cd ct), sl⟩) (c : PySem.W.codeIn K cd "_law_any" = true) (k : PySem.W.keepIn K (.ref f) = true) : Left K r__law_any f :=
  ⟨⟨_, fun_mk (st := s__law_any) l c k, (fun_mk (st := s__law_any) l c k).binds (ps := r__law_any.ps) fun _ _ _ _ _ _ us hl => match us, hl with | [_, _], _ => rfl⟩, k⟩
theorem left__law_near {f : Addr} {oc : Value} {od an : Option Addr} {sl : Array (Option Value)} {kV dc pm cd ct : Value} (l : K.lookup f = some ⟨oc, od, .func (PySem.W.fnOf "_law_near" "_law_near" (defArgs s__law_near) (defBody s__law_near) (defScope s__law_near) .none kV dc pm an cd ct), sl⟩) (c : PySem.W.codeIn K cd "_law_near" = true) (k : PySem.W.keepIn K (.ref f) = true) : Left K r__law_near f :=
  ⟨⟨_, fun_mk (st := s__law_near) l c k, (fun_mk (st := s__law_near) l c k).binds (ps := r__law_near.ps) fun _ _ _ _ _ _ us hl => match us, hl with | [_, _], _ => rfl⟩, k⟩
theorem left__law_bounds {f : Addr} {oc : Value} {od an : Option Addr} {sl : Array (Option Value)} {kV dc pm cd ct : Value} (l : K.lookup f = some ⟨oc, od, .func (PySem.W.fnOf "_law_bounds" "_law_bounds" (defArgs s__law_bounds) (defBody s__law_bounds) (defScope s__law_bounds) .none kV dc pm an cd ct), sl⟩) (c : PySem.W.codeIn K cd "_law_bounds" = true) (k : PySem.W.keepIn K (.ref f) = true) : Left K r__law_bounds f :=
  ⟨⟨_, fun_mk (st := s__law_bounds) l c k, (fun_mk (st := s__law_bounds) l c k).binds (ps := r__law_bounds.ps) fun _ _ _ _ _ _ us hl => match us, hl with | [_, _, _, _], _ => rfl⟩, k⟩
theorem left__law_is_bounds {f : Addr} {oc : Value} {od an : Option Addr} {sl : Array (Option Value)} {kV dc pm cd ct : Value} (l : K.lookup f = some ⟨oc, od, .func (PySem.W.fnOf "_law_is_bounds" "_law_is_bounds" (defArgs s__law_is_bounds) (defBody s__law_is_bounds) (defScope s__law_is_bounds) .none kV dc pm an cd ct), sl⟩) (c : PySem.W.codeIn K cd "_law_is_bounds" = true) (k : PySem.W.keepIn K (.ref f) = true) : Left K r__law_is_bounds f :=
  ⟨⟨_, fun_mk (st := s__law_is_bounds) l c k, (fun_mk (st := s__law_is_bounds) l c k).binds (ps := r__law_is_bounds.ps) fun _ _ _ _ _ _ us hl => match us, hl with | [_], _ => rfl⟩, k⟩
theorem left_law {f : Addr} {oc : Value} {od an : Option Addr} {sl : Array (Option Value)} {kV dc pm cd ct : Value} (l : K.lookup f = some ⟨oc, od, .func (PySem.W.fnOf "law" "law" (defArgs s_law) (defBody s_law) (defScope s_law) .none kV dc pm an cd ct), sl⟩) (c : PySem.W.codeIn K cd "law" = true) (k : PySem.W.keepIn K (.ref f) = true) : Left K r_law f :=
  ⟨⟨_, fun_mk (st := s_law) l c k, (fun_mk (st := s_law) l c k).binds (ps := r_law.ps) fun _ _ _ _ _ _ us hl => match us, hl with | [_], _ => rfl⟩, k⟩
end
theorem prog_of {K : PySem.W.Frag} {h : Heap} {mg : Str → Option Value} (X : K.In h) (G : h.Ns mainGlobals mg)
    {f0 : Addr} {od0 an0 : Option Addr} {sl0 : Array (Option Value)} {oc0 kV0 dc0 pm0 cd0 ct0 : Value}
    (l0 : K.lookup f0 = some ⟨oc0, od0, .func (PySem.W.fnOf "is_integer" "is_integer" (defArgs s_is_integer) (defBody s_is_integer) (defScope s_is_integer) .none kV0 dc0 pm0 an0 cd0 ct0), sl0⟩) (c0 : PySem.W.codeIn K cd0 "is_integer" = true) (k0 : PySem.W.keepIn K (.ref f0) = true)
    {f1 : Addr} {od1 an1 : Option Addr} {sl1 : Array (Option Value)} {oc1 kV1 dc1 pm1 cd1 ct1 : Value}
    (l1 : K.lookup f1 = some ⟨oc1, od1, .func (PySem.W.fnOf "is_bound" "is_bound" (defArgs s_is_bound) (defBody s_is_bound) (defScope s_is_bound) .none kV1 dc1 pm1 an1 cd1 ct1), sl1⟩) (c1 : PySem.W.codeIn K cd1 "is_bound" = true) (k1 : PySem.W.keepIn K (.ref f1) = true)
    {f2 : Addr} {od2 an2 : Option Addr} {sl2 : Array (Option Value)} {oc2 kV2 dc2 pm2 cd2 ct2 : Value}
    (l2 : K.lookup f2 = some ⟨oc2, od2, .func (PySem.W.fnOf "is_bounds" "is_bounds" (defArgs s_is_bounds) (defBody s_is_bounds) (defScope s_is_bounds) .none kV2 dc2 pm2 an2 cd2 ct2), sl2⟩) (c2 : PySem.W.codeIn K cd2 "is_bounds" = true) (k2 : PySem.W.keepIn K (.ref f2) = true)
    {f3 : Addr} {od3 an3 : Option Addr} {sl3 : Array (Option Value)} {oc3 kV3 dc3 pm3 cd3 ct3 : Value}
    (l3 : K.lookup f3 = some ⟨oc3, od3, .func (PySem.W.fnOf "_law_draw" "_law_draw" (defArgs s__law_draw) (defBody s__law_draw) (defScope s__law_draw) .none kV3 dc3 pm3 an3 cd3 ct3), sl3⟩) (c3 : PySem.W.codeIn K cd3 "_law_draw" = true) (k3 : PySem.W.keepIn K (.ref f3) = true)
    {f4 : Addr} {od4 an4 : Option Addr} {sl4 : Array (Option Value)} {oc4 kV4 dc4 pm4 cd4 ct4 : Value}
    (l4 : K.lookup f4 = some ⟨oc4, od4, .func (PySem.W.fnOf "_law_whole" "_law_whole" (defArgs s__law_whole) (defBody s__law_whole) (defScope s__law_whole) .none kV4 dc4 pm4 an4 cd4 ct4), sl4⟩) (c4 : PySem.W.codeIn K cd4 "_law_whole" = true) (k4 : PySem.W.keepIn K (.ref f4) = true)
    {f5 : Addr} {od5 an5 : Option Addr} {sl5 : Array (Option Value)} {oc5 kV5 dc5 pm5 cd5 ct5 : Value}
    (l5 : K.lookup f5 = some ⟨oc5, od5, .func (PySem.W.fnOf "_law_like" "_law_like" (defArgs s__law_like) (defBody s__law_like) (defScope s__law_like) .none kV5 dc5 pm5 an5 cd5 ct5), sl5⟩) (c5 : PySem.W.codeIn K cd5 "_law_like" = true) (k5 : PySem.W.keepIn K (.ref f5) = true)
    {f6 : Addr} {od6 an6 : Option Addr} {sl6 : Array (Option Value)} {oc6 kV6 dc6 pm6 cd6 ct6 : Value}
    (l6 : K.lookup f6 = some ⟨oc6, od6, .func (PySem.W.fnOf "_law_spoilt" "_law_spoilt" (defArgs s__law_spoilt) (defBody s__law_spoilt) (defScope s__law_spoilt) .none kV6 dc6 pm6 an6 cd6 ct6), sl6⟩) (c6 : PySem.W.codeIn K cd6 "_law_spoilt" = true) (k6 : PySem.W.keepIn K (.ref f6) = true)
    {f7 : Addr} {od7 an7 : Option Addr} {sl7 : Array (Option Value)} {oc7 kV7 dc7 pm7 cd7 ct7 : Value}
    (l7 : K.lookup f7 = some ⟨oc7, od7, .func (PySem.W.fnOf "_law_any" "_law_any" (defArgs s__law_any) (defBody s__law_any) (defScope s__law_any) .none kV7 dc7 pm7 an7 cd7 ct7), sl7⟩) (c7 : PySem.W.codeIn K cd7 "_law_any" = true) (k7 : PySem.W.keepIn K (.ref f7) = true)
    {f8 : Addr} {od8 an8 : Option Addr} {sl8 : Array (Option Value)} {oc8 kV8 dc8 pm8 cd8 ct8 : Value}
    (l8 : K.lookup f8 = some ⟨oc8, od8, .func (PySem.W.fnOf "_law_near" "_law_near" (defArgs s__law_near) (defBody s__law_near) (defScope s__law_near) .none kV8 dc8 pm8 an8 cd8 ct8), sl8⟩) (c8 : PySem.W.codeIn K cd8 "_law_near" = true) (k8 : PySem.W.keepIn K (.ref f8) = true)
    {f9 : Addr} {od9 an9 : Option Addr} {sl9 : Array (Option Value)} {oc9 kV9 dc9 pm9 cd9 ct9 : Value}
    (l9 : K.lookup f9 = some ⟨oc9, od9, .func (PySem.W.fnOf "_law_bounds" "_law_bounds" (defArgs s__law_bounds) (defBody s__law_bounds) (defScope s__law_bounds) .none kV9 dc9 pm9 an9 cd9 ct9), sl9⟩) (c9 : PySem.W.codeIn K cd9 "_law_bounds" = true) (k9 : PySem.W.keepIn K (.ref f9) = true)
    {f10 : Addr} {od10 an10 : Option Addr} {sl10 : Array (Option Value)} {oc10 kV10 dc10 pm10 cd10 ct10 : Value}
    (l10 : K.lookup f10 = some ⟨oc10, od10, .func (PySem.W.fnOf "_law_is_bounds" "_law_is_bounds" (defArgs s__law_is_bounds) (defBody s__law_is_bounds) (defScope s__law_is_bounds) .none kV10 dc10 pm10 an10 cd10 ct10), sl10⟩) (c10 : PySem.W.codeIn K cd10 "_law_is_bounds" = true) (k10 : PySem.W.keepIn K (.ref f10) = true)
    {f11 : Addr} {od11 an11 : Option Addr} {sl11 : Array (Option Value)} {oc11 kV11 dc11 pm11 cd11 ct11 : Value}
    (l11 : K.lookup f11 = some ⟨oc11, od11, .func (PySem.W.fnOf "law" "law" (defArgs s_law) (defBody s_law) (defScope s_law) .none kV11 dc11 pm11 an11 cd11 ct11), sl11⟩) (c11 : PySem.W.codeIn K cd11 "law" = true) (k11 : PySem.W.keepIn K (.ref f11) = true)
    (a__law_any : PySem.W.nsIn K mainGlobals "_law_any" = some (some (.ref f7)))
    (a__law_bounds : PySem.W.nsIn K mainGlobals "_law_bounds" = some (some (.ref f9)))
    (a__law_draw : PySem.W.nsIn K mainGlobals "_law_draw" = some (some (.ref f3)))
    (a__law_is_bounds : PySem.W.nsIn K mainGlobals "_law_is_bounds" = some (some (.ref f10)))
    (a__law_like : PySem.W.nsIn K mainGlobals "_law_like" = some (some (.ref f5)))
    (a__law_near : PySem.W.nsIn K mainGlobals "_law_near" = some (some (.ref f8)))
    (a__law_spoilt : PySem.W.nsIn K mainGlobals "_law_spoilt" = some (some (.ref f6)))
    (a__law_whole : PySem.W.nsIn K mainGlobals "_law_whole" = some (some (.ref f4)))
    (a_is_bound : PySem.W.nsIn K mainGlobals "is_bound" = some (some (.ref f1)))
    (a_is_bounds : PySem.W.nsIn K mainGlobals "is_bounds" = some (some (.ref f2)))
    (a_is_integer : PySem.W.nsIn K mainGlobals "is_integer" = some (some (.ref f0)))
    (a_law : PySem.W.nsIn K mainGlobals "law" = some (some (.ref f11)))
    {t_MOST_BOUNDS : Tok} (c_MOST_BOUNDS : PySem.W.nsIn K mainGlobals "MOST_BOUNDS" = some (some (.int 60 t_MOST_BOUNDS)))
    {t_MOST_POINTS : Tok} (c_MOST_POINTS : PySem.W.nsIn K mainGlobals "MOST_POINTS" = some (some (.int 6 t_MOST_POINTS)))
    (z_all : PySem.W.nsIn K mainGlobals "all" = some none)
    (z_bool : PySem.W.nsIn K mainGlobals "bool" = some none)
    (z_int : PySem.W.nsIn K mainGlobals "int" = some none)
    (z_isinstance : PySem.W.nsIn K mainGlobals "isinstance" = some none)
    (z_len : PySem.W.nsIn K mainGlobals "len" = some none)
    (z_list : PySem.W.nsIn K mainGlobals "list" = some none)
    (z_max : PySem.W.nsIn K mainGlobals "max" = some none)
    (z_range : PySem.W.nsIn K mainGlobals "range" = some none)
    (z_str : PySem.W.nsIn K mainGlobals "str" = some none)
    (z_tuple : PySem.W.nsIn K mainGlobals "tuple" = some none) : Prog K mg tab recs where
  sc := all_sc
  ok := all_ok
  tab := fun x f hx => by
    have hm : (x, f) ∈ tab.fns := IL.lookup_mem hx
    simp only [tab, List.mem_cons, List.not_mem_nil, or_false, Prod.mk.injEq] at hm
    rcases hm with ⟨rfl, rfl⟩ | ⟨rfl, rfl⟩ | ⟨rfl, rfl⟩ | ⟨rfl, rfl⟩ | ⟨rfl, rfl⟩ | ⟨rfl, rfl⟩ | ⟨rfl, rfl⟩ | ⟨rfl, rfl⟩ | ⟨rfl, rfl⟩ | ⟨rfl, rfl⟩ | ⟨rfl, rfl⟩
    · exact ⟨r__law_any, f7, rfl, PySem.W.mg_of X G a__law_any, left__law_any l7 c7 k7⟩
    · exact ⟨r__law_bounds, f9, rfl, PySem.W.mg_of X G a__law_bounds, left__law_bounds l9 c9 k9⟩
    · exact ⟨r__law_draw, f3, rfl, PySem.W.mg_of X G a__law_draw, left__law_draw l3 c3 k3⟩
    · exact ⟨r__law_is_bounds, f10, rfl, PySem.W.mg_of X G a__law_is_bounds, left__law_is_bounds l10 c10 k10⟩
    · exact ⟨r__law_like, f5, rfl, PySem.W.mg_of X G a__law_like, left__law_like l5 c5 k5⟩
    · exact ⟨r__law_near, f8, rfl, PySem.W.mg_of X G a__law_near, left__law_near l8 c8 k8⟩
    · exact ⟨r__law_spoilt, f6, rfl, PySem.W.mg_of X G a__law_spoilt, left__law_spoilt l6 c6 k6⟩
    · exact ⟨r__law_whole, f4, rfl, PySem.W.mg_of X G a__law_whole, left__law_whole l4 c4 k4⟩
    · exact ⟨r_is_bound, f1, rfl, PySem.W.mg_of X G a_is_bound, left_is_bound l1 c1 k1⟩
    · exact ⟨r_is_bounds, f2, rfl, PySem.W.mg_of X G a_is_bounds, left_is_bounds l2 c2 k2⟩
    · exact ⟨r_is_integer, f0, rfl, PySem.W.mg_of X G a_is_integer, left_is_integer l0 c0 k0⟩
  const := fun x c hx => by
    have hm : (x, c) ∈ tab.consts := IL.lookup_mem hx
    simp only [tab, List.mem_cons, List.not_mem_nil, or_false, Prod.mk.injEq] at hm
    rcases hm with ⟨rfl, rfl⟩ | ⟨rfl, rfl⟩
    · exact ⟨_, PySem.W.mg_of X G c_MOST_BOUNDS, _, rfl⟩
    · exact ⟨_, PySem.W.mg_of X G c_MOST_POINTS, _, rfl⟩
  blt := fun x hx => by
    have hm : x ∈ tab.blt := IL.contains_mem hx
    simp only [tab, List.mem_cons, List.not_mem_nil, or_false] at hm
    rcases hm with rfl | rfl | rfl | rfl | rfl | rfl | rfl | rfl | rfl | rfl
    · exact PySem.W.mg_none_of X G z_all
    · exact PySem.W.mg_none_of X G z_bool
    · exact PySem.W.mg_none_of X G z_int
    · exact PySem.W.mg_none_of X G z_isinstance
    · exact PySem.W.mg_none_of X G z_len
    · exact PySem.W.mg_none_of X G z_list
    · exact PySem.W.mg_none_of X G z_max
    · exact PySem.W.mg_none_of X G z_range
    · exact PySem.W.mg_none_of X G z_str
    · exact PySem.W.mg_none_of X G z_tuple
theorem law_of (n : Nat) {l : PySem.W.OpenLaw} {w : World} {K : PySem.W.Frag} {h : Heap} {mg : Str → Option Value} {fa : Addr} (X : K.In h) (G : h.Ns mainGlobals mg) (hfa : mg "law" = some (.ref fa))
    {f0 : Addr} {od0 an0 : Option Addr} {sl0 : Array (Option Value)} {oc0 kV0 dc0 pm0 cd0 ct0 : Value}
    (l0 : K.lookup f0 = some ⟨oc0, od0, .func (PySem.W.fnOf "is_integer" "is_integer" (defArgs s_is_integer) (defBody s_is_integer) (defScope s_is_integer) .none kV0 dc0 pm0 an0 cd0 ct0), sl0⟩) (c0 : PySem.W.codeIn K cd0 "is_integer" = true) (k0 : PySem.W.keepIn K (.ref f0) = true)
    {f1 : Addr} {od1 an1 : Option Addr} {sl1 : Array (Option Value)} {oc1 kV1 dc1 pm1 cd1 ct1 : Value}
    (l1 : K.lookup f1 = some ⟨oc1, od1, .func (PySem.W.fnOf "is_bound" "is_bound" (defArgs s_is_bound) (defBody s_is_bound) (defScope s_is_bound) .none kV1 dc1 pm1 an1 cd1 ct1), sl1⟩) (c1 : PySem.W.codeIn K cd1 "is_bound" = true) (k1 : PySem.W.keepIn K (.ref f1) = true)
    {f2 : Addr} {od2 an2 : Option Addr} {sl2 : Array (Option Value)} {oc2 kV2 dc2 pm2 cd2 ct2 : Value}
    (l2 : K.lookup f2 = some ⟨oc2, od2, .func (PySem.W.fnOf "is_bounds" "is_bounds" (defArgs s_is_bounds) (defBody s_is_bounds) (defScope s_is_bounds) .none kV2 dc2 pm2 an2 cd2 ct2), sl2⟩) (c2 : PySem.W.codeIn K cd2 "is_bounds" = true) (k2 : PySem.W.keepIn K (.ref f2) = true)
    {f3 : Addr} {od3 an3 : Option Addr} {sl3 : Array (Option Value)} {oc3 kV3 dc3 pm3 cd3 ct3 : Value}
    (l3 : K.lookup f3 = some ⟨oc3, od3, .func (PySem.W.fnOf "_law_draw" "_law_draw" (defArgs s__law_draw) (defBody s__law_draw) (defScope s__law_draw) .none kV3 dc3 pm3 an3 cd3 ct3), sl3⟩) (c3 : PySem.W.codeIn K cd3 "_law_draw" = true) (k3 : PySem.W.keepIn K (.ref f3) = true)
    {f4 : Addr} {od4 an4 : Option Addr} {sl4 : Array (Option Value)} {oc4 kV4 dc4 pm4 cd4 ct4 : Value}
    (l4 : K.lookup f4 = some ⟨oc4, od4, .func (PySem.W.fnOf "_law_whole" "_law_whole" (defArgs s__law_whole) (defBody s__law_whole) (defScope s__law_whole) .none kV4 dc4 pm4 an4 cd4 ct4), sl4⟩) (c4 : PySem.W.codeIn K cd4 "_law_whole" = true) (k4 : PySem.W.keepIn K (.ref f4) = true)
    {f5 : Addr} {od5 an5 : Option Addr} {sl5 : Array (Option Value)} {oc5 kV5 dc5 pm5 cd5 ct5 : Value}
    (l5 : K.lookup f5 = some ⟨oc5, od5, .func (PySem.W.fnOf "_law_like" "_law_like" (defArgs s__law_like) (defBody s__law_like) (defScope s__law_like) .none kV5 dc5 pm5 an5 cd5 ct5), sl5⟩) (c5 : PySem.W.codeIn K cd5 "_law_like" = true) (k5 : PySem.W.keepIn K (.ref f5) = true)
    {f6 : Addr} {od6 an6 : Option Addr} {sl6 : Array (Option Value)} {oc6 kV6 dc6 pm6 cd6 ct6 : Value}
    (l6 : K.lookup f6 = some ⟨oc6, od6, .func (PySem.W.fnOf "_law_spoilt" "_law_spoilt" (defArgs s__law_spoilt) (defBody s__law_spoilt) (defScope s__law_spoilt) .none kV6 dc6 pm6 an6 cd6 ct6), sl6⟩) (c6 : PySem.W.codeIn K cd6 "_law_spoilt" = true) (k6 : PySem.W.keepIn K (.ref f6) = true)
    {f7 : Addr} {od7 an7 : Option Addr} {sl7 : Array (Option Value)} {oc7 kV7 dc7 pm7 cd7 ct7 : Value}
    (l7 : K.lookup f7 = some ⟨oc7, od7, .func (PySem.W.fnOf "_law_any" "_law_any" (defArgs s__law_any) (defBody s__law_any) (defScope s__law_any) .none kV7 dc7 pm7 an7 cd7 ct7), sl7⟩) (c7 : PySem.W.codeIn K cd7 "_law_any" = true) (k7 : PySem.W.keepIn K (.ref f7) = true)
    {f8 : Addr} {od8 an8 : Option Addr} {sl8 : Array (Option Value)} {oc8 kV8 dc8 pm8 cd8 ct8 : Value}
    (l8 : K.lookup f8 = some ⟨oc8, od8, .func (PySem.W.fnOf "_law_near" "_law_near" (defArgs s__law_near) (defBody s__law_near) (defScope s__law_near) .none kV8 dc8 pm8 an8 cd8 ct8), sl8⟩) (c8 : PySem.W.codeIn K cd8 "_law_near" = true) (k8 : PySem.W.keepIn K (.ref f8) = true)
    {f9 : Addr} {od9 an9 : Option Addr} {sl9 : Array (Option Value)} {oc9 kV9 dc9 pm9 cd9 ct9 : Value}
    (l9 : K.lookup f9 = some ⟨oc9, od9, .func (PySem.W.fnOf "_law_bounds" "_law_bounds" (defArgs s__law_bounds) (defBody s__law_bounds) (defScope s__law_bounds) .none kV9 dc9 pm9 an9 cd9 ct9), sl9⟩) (c9 : PySem.W.codeIn K cd9 "_law_bounds" = true) (k9 : PySem.W.keepIn K (.ref f9) = true)
    {f10 : Addr} {od10 an10 : Option Addr} {sl10 : Array (Option Value)} {oc10 kV10 dc10 pm10 cd10 ct10 : Value}
    (l10 : K.lookup f10 = some ⟨oc10, od10, .func (PySem.W.fnOf "_law_is_bounds" "_law_is_bounds" (defArgs s__law_is_bounds) (defBody s__law_is_bounds) (defScope s__law_is_bounds) .none kV10 dc10 pm10 an10 cd10 ct10), sl10⟩) (c10 : PySem.W.codeIn K cd10 "_law_is_bounds" = true) (k10 : PySem.W.keepIn K (.ref f10) = true)
    {f11 : Addr} {od11 an11 : Option Addr} {sl11 : Array (Option Value)} {oc11 kV11 dc11 pm11 cd11 ct11 : Value}
    (l11 : K.lookup f11 = some ⟨oc11, od11, .func (PySem.W.fnOf "law" "law" (defArgs s_law) (defBody s_law) (defScope s_law) .none kV11 dc11 pm11 an11 cd11 ct11), sl11⟩) (c11 : PySem.W.codeIn K cd11 "law" = true) (k11 : PySem.W.keepIn K (.ref f11) = true)
    (a__law_any : PySem.W.nsIn K mainGlobals "_law_any" = some (some (.ref f7)))
    (a__law_bounds : PySem.W.nsIn K mainGlobals "_law_bounds" = some (some (.ref f9)))
    (a__law_draw : PySem.W.nsIn K mainGlobals "_law_draw" = some (some (.ref f3)))
    (a__law_is_bounds : PySem.W.nsIn K mainGlobals "_law_is_bounds" = some (some (.ref f10)))
    (a__law_like : PySem.W.nsIn K mainGlobals "_law_like" = some (some (.ref f5)))
    (a__law_near : PySem.W.nsIn K mainGlobals "_law_near" = some (some (.ref f8)))
    (a__law_spoilt : PySem.W.nsIn K mainGlobals "_law_spoilt" = some (some (.ref f6)))
    (a__law_whole : PySem.W.nsIn K mainGlobals "_law_whole" = some (some (.ref f4)))
    (a_is_bound : PySem.W.nsIn K mainGlobals "is_bound" = some (some (.ref f1)))
    (a_is_bounds : PySem.W.nsIn K mainGlobals "is_bounds" = some (some (.ref f2)))
    (a_is_integer : PySem.W.nsIn K mainGlobals "is_integer" = some (some (.ref f0)))
    (a_law : PySem.W.nsIn K mainGlobals "law" = some (some (.ref f11)))
    {t_MOST_BOUNDS : Tok} (c_MOST_BOUNDS : PySem.W.nsIn K mainGlobals "MOST_BOUNDS" = some (some (.int 60 t_MOST_BOUNDS)))
    {t_MOST_POINTS : Tok} (c_MOST_POINTS : PySem.W.nsIn K mainGlobals "MOST_POINTS" = some (some (.int 6 t_MOST_POINTS)))
    (z_all : PySem.W.nsIn K mainGlobals "all" = some none)
    (z_bool : PySem.W.nsIn K mainGlobals "bool" = some none)
    (z_int : PySem.W.nsIn K mainGlobals "int" = some none)
    (z_isinstance : PySem.W.nsIn K mainGlobals "isinstance" = some none)
    (z_len : PySem.W.nsIn K mainGlobals "len" = some none)
    (z_list : PySem.W.nsIn K mainGlobals "list" = some none)
    (z_max : PySem.W.nsIn K mainGlobals "max" = some none)
    (z_range : PySem.W.nsIn K mainGlobals "range" = some none)
    (z_str : PySem.W.nsIn K mainGlobals "str" = some none)
    (z_tuple : PySem.W.nsIn K mainGlobals "tuple" = some none) :
    ∃ fd : FuncData, (∀ (s : Shared) (u : Value), BindsTo s fd ⟨[u], []⟩ [("_law_script", u)]) ∧ ∀ base : Heap, K.In base → base.Ns mainGlobals mg → FnOk l.prog w K mg base CX0 (n + 1) fa fd ["_law_script"] (spF K (fam fds (n + 1)) ix_law) := by
  have e := hfa.symm.trans (PySem.W.mg_of X G a_law)
  cases e
  exact ⟨PySem.W.fnOf "law" "law" (defArgs s_law) (defBody s_law) (defScope s_law) .none kV11 dc11 pm11 an11 cd11 ct11, fun s v => .of_eq rfl, fun base _ _ =>
    law_fn (prog_of X G l0 c0 k0 l1 c1 k1 l2 c2 k2 l3 c3 k3 l4 c4 k4 l5 c5 k5 l6 c6 k6 l7 c7 k7 l8 c8 k8 l9 c9 k9 l10 c10 k10 l11 c11 k11 a__law_any a__law_bounds a__law_draw a__law_is_bounds a__law_like a__law_near a__law_spoilt a__law_whole a_is_bound a_is_bounds a_is_integer a_law c_MOST_BOUNDS c_MOST_POINTS z_all z_bool z_int z_isinstance z_len z_list z_max z_range z_str z_tuple) (r := r_law) (f := ix_law) rfl (fun_mk (st := s_law) l11 c11 k11)⟩
end LP

namespace LP
open PySem L2 IL PyProof.Rows
theorem walk {l : PySem.W.OpenLaw} {q : Program} {loose : List Str} {XP : (Str → Option Value) → Heap → Prop} {YP : World → Heap → Prop} {d : DefRec} {K : Params → PySem.W.Frag} (hn : l.most = some 63) (hdf : d.params.defaults = [])
    (hY : ∀ (w : World) (h : Heap), YP w h → (K w.params).In h)
    (F : ∀ (w : World) (mg : Str → Option Value) (fa : Addr) (h : Heap), (K w.params).In h → h.Ns mainGlobals mg → mg d.name = some (.ref fa) →
      ∃ fd : FuncData, (∀ (s : Shared) (u : Value), BindsTo s fd ⟨[u], []⟩ [("_law_script", u)]) ∧ ∀ base : Heap, (K w.params).In base → base.Ns mainGlobals mg → FnOk l.prog w (K w.params) mg base CX0 (levels + 1) fa fd ["_law_script"] (spF (K w.params) (fam fds (levels + 1)) ix_law)) :
    PySem.W.WalkO q loose XP YP l.row.toRowW d [] (fun f vs => PySem.call f vs) :=
  L2.walk_of (n := 63) (k := levels + 1) (x := "_law_script") (CX := fun _ => CX0) (sp := fun w => spF (K w.params) (fam fds (levels + 1)) ix_law) hn (by decide) hdf ⟨rfl, by decide, by decide⟩ hY F (fun _ _ _ ns hl _ hS => law_sp (law_true ns hl) hS) fun _ _ _ _ _ z => z
end LP
open PySem PySem.W PyProof.Rows in
set_option maxRecDepth 100000 in
set_option maxHeartbeats 0 in
theorem PySem.Challenge.cw_shiftcases_k05_bounds_recognized_holds : PySem.Challenge.rw_shiftcases_k05_bounds_recognized.Holds := by
  w_on; o_law; k_head; (case hw => w_witness2)
  k_fill
  refine LP.walk (l := PySem.Challenge.rw_shiftcases_k05_bounds_recognized) rfl rfl (fun w h Y => PySem.W.kIn_of Y) ?F
  case F =>
    intro w mg fa h KX G hmg
    refine' LP.law_of LP.levels KX G hmg ?l0 ?c0 ?k0 ?l1 ?c1 ?k1 ?l2 ?c2 ?k2 ?l3 ?c3 ?k3 ?l4 ?c4 ?k4 ?l5 ?c5 ?k5 ?l6 ?c6 ?k6 ?l7 ?c7 ?k7 ?l8 ?c8 ?k8 ?l9 ?c9 ?k9 ?l10 ?c10 ?k10 ?l11 ?c11 ?k11 ?a__law_any ?a__law_bounds ?a__law_draw ?a__law_is_bounds ?a__law_like ?a__law_near ?a__law_spoilt ?a__law_whole ?a_is_bound ?a_is_bounds ?a_is_integer ?a_law ?c_MOST_BOUNDS ?c_MOST_POINTS ?z_all ?z_bool ?z_int ?z_isinstance ?z_len ?z_list ?z_max ?z_range ?z_str ?z_tuple
    (case a__law_any => k_is)
    (case a__law_bounds => k_is)
    (case a__law_draw => k_is)
    (case a__law_is_bounds => k_is)
    (case a__law_like => k_is)
    (case a__law_near => k_is)
    (case a__law_spoilt => k_is)
    (case a__law_whole => k_is)
    (case a_is_bound => k_is)
    (case a_is_bounds => k_is)
    (case a_is_integer => k_is)
    (case a_law => k_is)
    (case c_MOST_BOUNDS => k_is)
    (case c_MOST_POINTS => k_is)
    (case z_all => k_is)
    (case z_bool => k_is)
    (case z_int => k_is)
    (case z_isinstance => k_is)
    (case z_len => k_is)
    (case z_list => k_is)
    (case z_max => k_is)
    (case z_range => k_is)
    (case z_str => k_is)
    (case z_tuple => k_is)
    (case l0 => k_is)
    (case c0 => k_is)
    (case k0 => k_is)
    (case l1 => k_is)
    (case c1 => k_is)
    (case k1 => k_is)
    (case l2 => k_is)
    (case c2 => k_is)
    (case k2 => k_is)
    (case l3 => k_is)
    (case c3 => k_is)
    (case k3 => k_is)
    (case l4 => k_is)
    (case c4 => k_is)
    (case k4 => k_is)
    (case l5 => k_is)
    (case c5 => k_is)
    (case k5 => k_is)
    (case l6 => k_is)
    (case c6 => k_is)
    (case k6 => k_is)
    (case l7 => k_is)
    (case c7 => k_is)
    (case k7 => k_is)
    (case l8 => k_is)
    (case c8 => k_is)
    (case k8 => k_is)
    (case l9 => k_is)
    (case c9 => k_is)
    (case k9 => k_is)
    (case l10 => k_is)
    (case c10 => k_is)
    (case k10 => k_is)
    (case l11 => k_is)
    (case c11 => k_is)
    (case k11 => k_is)
