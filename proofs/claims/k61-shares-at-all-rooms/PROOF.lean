import PyProof.Rows.All
import Wide.All
import OpenK.AllK
import Wide.FinOn
import KE.KStateDown
import HandS.ForMost
import HandS.ForExc
import HandS.Wide
import HandS.Style
import HandS.Defaults
import HandS.CallSlots
import HandS.IsInst
import HandS.ExcIs
import HandS.ExcValue
import HandS.Flow
import HandS.Conv
import HandS.HeadHook2
import HandS.TupAny
import PyProof.ReprRoads
import HandS.RaiseMore
import HandS.Ends
import HandS.TryOnly
import HandS.More
import HandS.Iter
import HandS.ClsMeth
import HandS.Strs
import HandS.TupSets
import HandS.SetFor
import HandS.HeadHook3
import HandS.Head0
import HandS.Head1
import HandS.Head2
import HandS.HeadEnd
import KE.KIsAll
import HandS.Codes
import KE.IntTextLaws
import PySem.Challenge.RW_widthwise_k61_shares_at_all_rooms
set_option Elab.async false
set_option linter.all false
set_option maxRecDepth 100000
set_option maxHeartbeats 4000000
namespace Dw
open PySem L2
/-! ### data -/
inductive D where
  | non
  | bl (b : Bool)
  | int (i : Int)
  | str (x : Str)
  | ty (n : String)
  | tup (ds : List D)
  | lst (ds : List D)
  | kst (ds : List D)
  | dct (ks : List Key) (ds : List D)
  | obj (C : Str) (fs : List Str) (ds : List D)
  | exc (C : Str)
/-- an exception object of the class at C, caught and kept -/
def ExH (C a : Addr) : HO := .ext fun h => ∃ (oe : Obj) (vs : Array Value), h.get? a = some oe ∧ Zc (.ref C) none oe ∧ oe.data = .fields vs
mutual
inductive Dr (K : PySem.W.Frag) (H : Hp) : V → D → Prop
  | non : Dr K H .non .non
  | bl (b : Bool) : Dr K H (.bl b) (.bl b)
  | int (i : Int) : Dr K H (.int i) (.int i)
  | str (x : Str) : Dr K H (.str x) (.str x)
  | ty (n : String) : Dr K H (.ty n) (.ty n)
  | tup {a : Addr} {xs : List V} {ds : List D} : SqT K H a xs → DrAll K H xs ds → Dr K H (.ref a) (.tup ds)
  | lst {a : Addr} {xs : List V} {ds : List D} : Rd H a (.lst xs) → DrAll K H xs ds → Dr K H (.ref a) (.lst ds)
  | kst {a : Addr} {xs : List V} {ds : List D} : SqL K H a xs → DrAll K H xs ds → Dr K H (.ref a) (.kst ds)
  | dct {a : Addr} {kvs : List (Key × V)} {ds : List D} : H a = some (.dK kvs) → DrAll K H (kvs.map (·.2)) ds → Dr K H (.ref a) (.dct (kvs.map (·.1)) ds)
  | obj {a : Addr} {C : Str} {dx : Addr} {fs : List (Str × V)} {ds : List D} : H a = some (.ins (He.ga K C) dx fs) → DrAll K H (fs.map (·.2)) ds → Dr K H (.ref a) (.obj C (fs.map (·.1)) ds)
  | exc {a : Addr} {C : Str} : H a = some (ExH (He.ga K C) a) → Dr K H (.ref a) (.exc C)
inductive DrAll (K : PySem.W.Frag) (H : Hp) : List V → List D → Prop
  | nil : DrAll K H [] []
  | cons {v : V} {vs : List V} {d : D} {ds : List D} : Dr K H v d → DrAll K H vs ds → DrAll K H (v :: vs) (d :: ds)
end
section
variable {K : PySem.W.Frag} {H H' : Hp}
theorem rd_mono {a : Addr} {o : HO} (e : Same H H') (h : Rd H a o) : Rd H' a o := by
  rcases h with h | ⟨u, h⟩
  · exact .inl (e _ _ h)
  · exact .inr ⟨u, e _ _ h⟩
theorem sqT_mono {a : Addr} {xs : List V} (e : Same H H') (h : SqT K H a xs) : SqT K H' a xs := by
  rcases h with (h | ⟨o, h⟩) | h
  · exact .inl (.inl (e _ _ h))
  · exact .inl (.inr ⟨o, e _ _ h⟩)
  · exact .inr h
mutual
theorem Dr.mono (e : Same H H') : ∀ (d : D) {v : V}, Dr K H v d → Dr K H' v d
  | .non, _, h => by cases h; exact .non
  | .bl b, _, h => by cases h; exact .bl b
  | .int i, _, h => by cases h; exact .int i
  | .str x, _, h => by cases h; exact .str x
  | .ty n, _, h => by cases h; exact .ty n
  | .tup ds, _, h => by
    cases h with
    | tup q r => exact .tup (sqT_mono e q) (DrAll.mono e ds r)
  | .lst ds, _, h => by
    cases h with
    | lst q r => exact .lst (rd_mono e q) (DrAll.mono e ds r)
  | .kst ds, _, h => by
    cases h with
    | kst q r => exact .kst (e.seq q) (DrAll.mono e ds r)
  | .dct ks ds, _, h => by
    cases h with
    | dct q r => exact .dct (e _ _ q) (DrAll.mono e ds r)
  | .obj C fs ds, _, h => by
    cases h with
    | obj q r => exact .obj (e _ _ q) (DrAll.mono e ds r)
  | .exc C, _, h => by
    cases h with
    | exc q => exact .exc (e _ _ q)
theorem DrAll.mono (e : Same H H') : ∀ (ds : List D) {vs : List V}, DrAll K H vs ds → DrAll K H' vs ds
  | [], _, h => by cases h; exact .nil
  | d :: ds, _, h => by
    cases h with
    | cons h1 h2 => exact .cons (Dr.mono e d h1) (DrAll.mono e ds h2)
end
theorem DrAll.length : ∀ {vs : List V} {ds : List D}, DrAll K H vs ds → vs.length = ds.length
  | _, _, .nil => rfl
  | _, _, .cons _ t => congrArg (· + 1) (DrAll.length t)
theorem DrAll.get : ∀ {vs : List V} {ds : List D} {i : Nat} {d : D}, DrAll K H vs ds → ds[i]? = some d → ∃ v, vs[i]? = some v ∧ Dr K H v d
  | _, _, _, _, .nil, e => by simp at e
  | _, _, 0, _, .cons r _, e => by simp at e; subst e; exact ⟨_, rfl, r⟩
  | _, _, i + 1, d, .cons _ t, e => by
    obtain ⟨v, h1, h2⟩ := DrAll.get (i := i) (d := d) t (by simpa using e)
    exact ⟨v, by simpa using h1, h2⟩
theorem DrAll.getV : ∀ {vs : List V} {ds : List D} {i : Nat} {v : V}, DrAll K H vs ds → vs[i]? = some v → ∃ d, ds[i]? = some d ∧ Dr K H v d
  | _, _, _, _, .nil, e => by simp at e
  | _, _, 0, _, .cons r _, e => by simp at e; subst e; exact ⟨_, rfl, r⟩
  | _, _, i + 1, v, .cons _ t, e => by
    obtain ⟨d, h1, h2⟩ := DrAll.getV (i := i) (v := v) t (by simpa using e)
    exact ⟨d, by simpa using h1, h2⟩
theorem DrAll.append : ∀ {vs ws : List V} {ds es : List D}, DrAll K H vs ds → DrAll K H ws es → DrAll K H (vs ++ ws) (ds ++ es)
  | _, _, _, _, .nil, h => h
  | _, _, _, _, .cons r t, h => .cons r (DrAll.append t h)
theorem DrAll.set {v : V} {d : D} (r : Dr K H v d) : ∀ {vs : List V} {ds : List D} (i : Nat), DrAll K H vs ds → DrAll K H (vs.set i v) (ds.set i d)
  | _, _, _, .nil => .nil
  | _, _, 0, .cons _ t => .cons r t
  | _, _, i + 1, .cons q t => .cons q (DrAll.set r i t)
theorem DrAll.take : ∀ {vs : List V} {ds : List D} (n : Nat), DrAll K H vs ds → DrAll K H (vs.take n) (ds.take n)
  | _, _, 0, _ => .nil
  | _, _, _ + 1, .nil => .nil
  | _, _, n + 1, .cons r t => .cons r (DrAll.take n t)
theorem DrAll.drop : ∀ {vs : List V} {ds : List D} (n : Nat), DrAll K H vs ds → DrAll K H (vs.drop n) (ds.drop n)
  | _, _, 0, r => r
  | _, _, _ + 1, .nil => .nil
  | _, _, n + 1, .cons _ t => DrAll.drop n t
theorem DrAll.rev : ∀ {vs : List V} {ds : List D}, DrAll K H vs ds → DrAll K H vs.reverse ds.reverse
  | _, _, .nil => .nil
  | _, _, .cons r t => by
    rw [List.reverse_cons, List.reverse_cons]
    exact (DrAll.rev t).append (.cons r .nil)
theorem DrAll.rep {vs : List V} {ds : List D} (h : DrAll K H vs ds) : ∀ n : Nat, DrAll K H (List.replicate n vs).flatten (List.replicate n ds).flatten
  | 0 => .nil
  | n + 1 => by
    rw [List.replicate_succ, List.replicate_succ, List.flatten_cons, List.flatten_cons]
    exact h.append (h.rep n)
/-- without lists and dicts (and objects): what no store can touch -/
def D.flat : D → Bool
  | .tup ds => flats ds
  | .lst _ => false
  | .kst _ => false
  | .dct _ _ => false
  | .obj _ _ _ => false
  | .exc _ => false
  | _ => true
where flats : List D → Bool
  | [] => true
  | d :: ds => d.flat && flats ds
/-- what may be of one's own: lists, dicts with tuples for keys -/
def Ownk : HO → Prop
  | .lst _ => True
  | .dT _ => True
  | .dK _ => True
  | .ins _ _ _ => True
  | .own _ => True
  | _ => False
/-- lists taken out of the heap: flat data stand -/
theorem sqT_cut {G : Hp} {a : Addr} {xs : List V} (e : ∀ b o, H b = some o → ¬ Ownk o → G b = some o) (h : SqT K H a xs) : SqT K G a xs := by
  rcases h with (h | ⟨o, h⟩) | h
  · exact .inl (.inl (e _ _ h fun z => z.elim))
  · exact .inl (.inr ⟨o, e _ _ h fun z => z.elim⟩)
  · exact .inr h
mutual
theorem Dr.cut {G : Hp} (e : ∀ b o, H b = some o → ¬ Ownk o → G b = some o) : ∀ (d : D) {v : V}, d.flat = true → Dr K H v d → Dr K G v d
  | .non, _, _, h => by cases h; exact .non
  | .bl b, _, _, h => by cases h; exact .bl b
  | .int i, _, _, h => by cases h; exact .int i
  | .str x, _, _, h => by cases h; exact .str x
  | .ty n, _, _, h => by cases h; exact .ty n
  | .tup ds, _, f, h => by
    cases h with
    | tup q r => exact .tup (sqT_cut e q) (DrAll.cut e ds f r)
  | .lst ds, _, f, _ => by cases f
  | .kst ds, _, f, _ => by cases f
  | .dct ks ds, _, f, _ => by cases f
  | .obj C fs ds, _, f, _ => by cases f
  | .exc C, _, f, _ => by cases f
theorem DrAll.cut {G : Hp} (e : ∀ b o, H b = some o → ¬ Ownk o → G b = some o) : ∀ (ds : List D) {vs : List V}, D.flat.flats ds = true → DrAll K H vs ds → DrAll K G vs ds
  | [], _, _, h => by cases h; exact .nil
  | d :: ds, _, f, h => by
    cases h with
    | cons h1 h2 =>
      have f' := Bool.and_eq_true_iff.mp (show (d.flat && D.flat.flats ds) = true from f)
      exact .cons (Dr.cut e d f'.1 h1) (DrAll.cut e ds f'.2 h2)
end
end
/-! ### heaps: what is known (H0) of what stands (H) -/
structure Stp (H0 H H0' H' : Hp) : Prop where
  e0 : Same H0 H0'
  e : Same H H'
  k : Same H0' H'
  n : ∀ a o, H0 a = none → H a = some o → Ownk o → H0' a = none
theorem Stp.refl {H0 H : Hp} (h : Same H0 H) : Stp H0 H H0 H := ⟨Same.refl _, Same.refl _, h, fun _ _ z _ _ => z⟩
theorem Stp.trans {H0 H H1 G H2 J : Hp} (a : Stp H0 H H1 G) (b : Stp H1 G H2 J) : Stp H0 H H2 J :=
  ⟨a.e0.trans b.e0, a.e.trans b.e, b.k, fun c o z w u => b.n c o (a.n c o z w u) (a.e c o w) u⟩
theorem Same.new {H : Hp} {p : Addr} {o : HO} (h : H p = none) : Same H (upd H p o) := fun a u e => by
  rw [upd_ne (ne_of_none e h)]
  exact e
/-- a new thing that is known, a new thing of one's own -/
theorem Stp.new {H0 H : Hp} {p : Addr} {o : HO} (h : Same H0 H) (hp : H p = none) : Stp H0 H (upd H0 p o) (upd H p o) :=
  ⟨Same.new (h.free hp), Same.new hp, fun a u e => by
    by_cases q : a = p
    · subst q; rw [upd_same] at e ⊢; exact e
    · rw [upd_ne q] at e ⊢; exact h a u e, fun a u z w _ => by rw [upd_ne (ne_of_none w hp)]; exact z⟩
theorem Stp.own {H0 H : Hp} {p : Addr} {o : HO} (h : Same H0 H) (hp : H p = none) : Stp H0 H H0 (upd H p o) :=
  ⟨Same.refl _, Same.new hp, h.trans (Same.new hp), fun _ _ z _ _ => z⟩
/-! ### trees of one's own: lists, objects, tuples that stand in the heap; leaves are known -/
inductive O where
  | lf (d : D)
  | ls (os : List O)
  | tp (os : List O)
  | ob (C : Str) (fs : List Str) (os : List O)
mutual
def O.d : O → D
  | .lf d => d
  | .ls os => .lst (O.ds os)
  | .tp os => .tup (O.ds os)
  | .ob C fs os => .obj C fs (O.ds os)
def O.ds : List O → List D
  | [] => []
  | o :: os => o.d :: O.ds os
end
mutual
inductive Ow (K : PySem.W.Frag) (H0 H : Hp) : V → O → List Addr → Prop
  | lf {v : V} {d : D} : Dr K H0 v d → Ow K H0 H v (.lf d) []
  | ls {p : Addr} {vs : List V} {os : List O} {f : List Addr} : H p = some (.lst vs) → OwA K H0 H vs os f → p ∉ f → Ow K H0 H (.ref p) (.ls os) (p :: f)
  | tp {a : Addr} {vs : List V} {os : List O} {f : List Addr} : H0 a = some (.tup vs) → OwA K H0 H vs os f → Ow K H0 H (.ref a) (.tp os) f
  | ob {p dx : Addr} {C : Str} {fvs : List (Str × V)} {os : List O} {f : List Addr} : H p = some (.ins (He.ga K C) dx fvs) → H dx = some (.own p) → OwA K H0 H (fvs.map (·.2)) os f → p ∉ f → dx ∉ f → dx ≠ p → Ow K H0 H (.ref p) (.ob C (fvs.map (·.1)) os) (p :: dx :: f)
inductive OwA (K : PySem.W.Frag) (H0 H : Hp) : List V → List O → List Addr → Prop
  | nil : OwA K H0 H [] [] []
  | cons {v : V} {vs : List V} {o : O} {os : List O} {f g : List Addr} : Ow K H0 H v o f → OwA K H0 H vs os g → (∀ a ∈ f, a ∉ g) → OwA K H0 H (v :: vs) (o :: os) (f ++ g)
end
section
variable {K : PySem.W.Frag} {H0 H H0' H' : Hp}
mutual
theorem Ow.mono (e0 : Same H0 H0') : ∀ (o : O) {v : V} {f : List Addr}, (∀ a ∈ f, ∀ u, H a = some u → H' a = some u) → Ow K H0 H v o f → Ow K H0' H' v o f
  | .lf d, _, _, _, h => by
    cases h with
    | lf q => exact .lf (q.mono e0)
  | .ls os, _, _, e, h => by
    cases h with
    | ls q r n => exact .ls (e _ List.mem_cons_self _ q) (OwA.mono e0 os (fun a m => e a (List.mem_cons_of_mem _ m)) r) n
  | .tp os, _, _, e, h => by
    cases h with
    | tp q r => exact .tp (e0 _ _ q) (OwA.mono e0 os e r)
  | .ob C fs os, _, _, e, h => by
    cases h with
    | ob q w r n1 n2 n3 => exact .ob (e _ List.mem_cons_self _ q) (e _ (List.mem_cons_of_mem _ List.mem_cons_self) _ w) (OwA.mono e0 os (fun a m => e a (List.mem_cons_of_mem _ (List.mem_cons_of_mem _ m))) r) n1 n2 n3
theorem OwA.mono (e0 : Same H0 H0') : ∀ (os : List O) {vs : List V} {f : List Addr}, (∀ a ∈ f, ∀ u, H a = some u → H' a = some u) → OwA K H0 H vs os f → OwA K H0' H' vs os f
  | [], _, _, _, h => by cases h; exact .nil
  | o :: os, _, _, e, h => by
    cases h with
    | cons q r n => exact .cons (Ow.mono e0 o (fun a m => e a (List.mem_append_left _ m)) q) (OwA.mono e0 os (fun a m => e a (List.mem_append_right _ m)) r) n
end
mutual
theorem Ow.there : ∀ (o : O) {v : V} {f : List Addr} {a : Addr}, Ow K H0 H v o f → a ∈ f → ∃ u, H a = some u ∧ Ownk u
  | .lf d, _, _, _, h, m => by
    cases h with
    | lf q => cases m
  | .ls os, _, _, a, h, m => by
    cases h with
    | ls q r n =>
      rcases List.mem_cons.mp m with e | m
      · rw [e]; exact ⟨_, q, trivial⟩
      · exact OwA.there os r m
  | .tp os, _, _, a, h, m => by
    cases h with
    | tp q r => exact OwA.there os r m
  | .ob C fs os, _, _, a, h, m => by
    cases h with
    | ob q w r n1 n2 n3 =>
      rcases List.mem_cons.mp m with e | m
      · rw [e]; exact ⟨_, q, trivial⟩
      · rcases List.mem_cons.mp m with e | m
        · rw [e]; exact ⟨_, w, trivial⟩
        · exact OwA.there os r m
theorem OwA.there : ∀ (os : List O) {vs : List V} {f : List Addr} {a : Addr}, OwA K H0 H vs os f → a ∈ f → ∃ u, H a = some u ∧ Ownk u
  | [], _, _, _, h, m => by cases h; cases m
  | o :: os, _, _, _, h, m => by
    cases h with
    | cons q r n =>
      rcases List.mem_append.mp m with m | m
      · exact Ow.there o q m
      · exact OwA.there os r m
end
mutual
/-- own trees looked at as known ones -/
theorem Ow.known (e0 : Same H0 H0') : ∀ (o : O) {v : V} {f : List Addr}, (∀ a ∈ f, H0' a = H a) → Ow K H0 H v o f → Dr K H0' v o.d
  | .lf d, _, _, _, h => by
    cases h with
    | lf q => unfold O.d; exact q.mono e0
  | .ls os, _, _, e, h => by
    cases h with
    | ls q r n =>
      unfold O.d
      exact .lst (.inl ((e _ List.mem_cons_self).trans q)) (OwA.known e0 os (fun a m => e a (List.mem_cons_of_mem _ m)) r)
  | .tp os, _, _, e, h => by
    cases h with
    | tp q r =>
      unfold O.d
      exact .tup (.inl (.inl (e0 _ _ q))) (OwA.known e0 os e r)
  | .ob C fs os, _, _, e, h => by
    cases h with
    | ob q w r n1 n2 n3 =>
      unfold O.d
      exact .obj ((e _ List.mem_cons_self).trans q) (OwA.known e0 os (fun a m => e a (List.mem_cons_of_mem _ (List.mem_cons_of_mem _ m))) r)
theorem OwA.known (e0 : Same H0 H0') : ∀ (os : List O) {vs : List V} {f : List Addr}, (∀ a ∈ f, H0' a = H a) → OwA K H0 H vs os f → DrAll K H0' vs (O.ds os)
  | [], _, _, _, h => by cases h; unfold O.ds; exact .nil
  | o :: os, _, _, e, h => by
    cases h with
    | cons q r n =>
      unfold O.ds
      exact .cons (Ow.known e0 o (fun a m => e a (List.mem_append_left _ m)) q) (OwA.known e0 os (fun a m => e a (List.mem_append_right _ m)) r)
end
theorem OwA.length : ∀ {vs : List V} {os : List O} {f : List Addr}, OwA K H0 H vs os f → vs.length = os.length
  | _, _, _, .nil => rfl
  | _, _, _, .cons _ t _ => congrArg (· + 1) (OwA.length t)
/-- a kid of a row of trees, and the row with another one there -/
theorem OwA.get : ∀ {vs : List V} {os : List O} {f : List Addr} {k : Nat} {o : O}, OwA K H0 H vs os f → os[k]? = some o → ∃ v g, vs[k]? = some v ∧ Ow K H0 H v o g ∧ (∀ a ∈ g, a ∈ f) ∧
    ∀ (H0' H' : Hp) (v' : V) (o' : O) (g' : List Addr), Same H0 H0' → (∀ a ∈ f, a ∉ g → ∀ u, H a = some u → H' a = some u) → Ow K H0' H' v' o' g' → (∀ a ∈ g', a ∈ f → a ∈ g) → ∃ f', OwA K H0' H' (vs.set k v') (os.set k o') f' ∧ ∀ a ∈ f', a ∈ g' ∨ (a ∈ f ∧ a ∉ g)
  | _, _, _, _, _, .nil, e => by simp at e
  | _, _, _, 0, _, .cons (v := v) (vs := vs) (os := os) (f := f) (g := h) q t n, e => by
    simp at e
    subst e
    refine ⟨v, f, rfl, q, fun a m => List.mem_append_left _ m, fun H0' H' v' o' g' e0 eh q' ng => ⟨g' ++ h, ?_, fun a m => ?_⟩⟩
    · refine .cons q' (OwA.mono e0 os (fun a m u z => eh a (List.mem_append_right _ m) (fun m2 => n a m2 m) u z) t) fun a m m2 => ?_
      exact n a (ng a m (List.mem_append_right _ m2)) m2
    · rcases List.mem_append.mp m with m | m
      · exact .inl m
      · exact .inr ⟨List.mem_append_right _ m, fun m2 => n a m2 m⟩
  | _, _, _, k + 1, o, .cons (v := v0) (vs := vs) (o := o0) (os := os) (f := f) (g := h) q t n, e => by
    obtain ⟨v, g, h1, h2, h3, h4⟩ := OwA.get (k := k) (o := o) t (by simpa using e)
    refine ⟨v, g, by simpa using h1, h2, fun a m => List.mem_append_right _ (h3 a m), fun H0' H' v' o' g' e0 eh q' ng => ?_⟩
    obtain ⟨f', w1, w2⟩ := h4 H0' H' v' o' g' e0 (fun a m nm u z => eh a (List.mem_append_right _ m) nm u z) q' fun a m m2 => ng a m (List.mem_append_right _ m2)
    refine ⟨f ++ f', ?_, fun a m => ?_⟩
    · refine .cons (Ow.mono e0 o0 (fun a m u z => eh a (List.mem_append_left _ m) (fun m2 => n a m (h3 a m2)) u z) q) w1 fun a m m2 => ?_
      rcases w2 a m2 with m3 | ⟨m3, _⟩
      · exact n a m (h3 a (ng a m3 (List.mem_append_left _ m)))
      · exact n a m m3
    · rcases List.mem_append.mp m with m | m
      · exact .inr ⟨List.mem_append_left _ m, fun m2 => n a m (h3 a m2)⟩
      · rcases w2 a m with m3 | ⟨m3, m4⟩
        · exact .inl m3
        · exact .inr ⟨List.mem_append_right _ m3, m4⟩
theorem OwA.app : ∀ {vs ws : List V} {os ps : List O} {f g : List Addr}, OwA K H0 H vs os f → OwA K H0 H ws ps g → (∀ a ∈ f, a ∉ g) → OwA K H0 H (vs ++ ws) (os ++ ps) (f ++ g)
  | _, _, _, _, _, _, .nil, h, _ => h
  | _, _, _, _, _, g, .cons (f := f1) (g := f2) q t n, h, d => by
    rw [List.append_assoc]
    refine .cons q (OwA.app t h fun a m => d a (List.mem_append_right _ m)) fun a m m2 => ?_
    rcases List.mem_append.mp m2 with m2 | m2
    · exact n a m m2
    · exact d a (List.mem_append_left _ m) m2
theorem OwA.leaves : ∀ {vs : List V} {ds : List D}, DrAll K H0 vs ds → OwA K H0 H vs (ds.map O.lf) []
  | _, _, .nil => .nil
  | _, _, .cons a r => .cons (f := []) (g := []) (.lf a) (OwA.leaves r) (fun _ m => nomatch m)
end
/-! ### a def's slots -/
inductive Sl where
  | un
  | pu (d : D)
  | ow (ds : List D)
  | oo (dss : List (List D))
  | od (ks : List (List Key))
  | nt (ds : List D)
  | os (C : Str) (fs : List Str) (ds : List D)
  | tr (o : O)
/-- lists of one's own, at ps -/
inductive OoAll (K : PySem.W.Frag) (H0 H : Hp) : List Addr → List (List D) → Prop
  | nil : OoAll K H0 H [] []
  | cons {p : Addr} {ps : List Addr} {vs : List V} {ds : List D} {dss : List (List D)} : H p = some (.lst vs) → DrAll K H0 vs ds → OoAll K H0 H ps dss → OoAll K H0 H (p :: ps) (ds :: dss)
def dictHO (ks : List (List Key)) : HO := .dT (ks.map fun k => (k, V.bl true))
/-- what a slot owns: f are the places -/
def OwnO (K : PySem.W.Frag) (H0 H : Hp) (s : Option Sl) (x : Option (Option V)) (f : List Addr) : Prop := match s with
  | some (.ow ds) => ∃ p vs, x = some (some (.ref p)) ∧ f = [p] ∧ H p = some (.lst vs) ∧ DrAll K H0 vs ds
  | some (.oo dss) => ∃ p ps, x = some (some (.ref p)) ∧ f = p :: ps ∧ (p :: ps).Nodup ∧ H p = some (.lst (ps.map V.ref)) ∧ OoAll K H0 H ps dss
  | some (.od ks) => ∃ p, x = some (some (.ref p)) ∧ f = [p] ∧ H p = some (dictHO ks)
  | some (.os C fs ds) => ∃ p dx fvs, x = some (some (.ref p)) ∧ f = [p, dx] ∧ dx ≠ p ∧ H p = some (.ins (He.ga K C) dx fvs) ∧ H dx = some (.own p) ∧ fvs.map (·.1) = fs ∧ DrAll K H0 (fvs.map (·.2)) ds
  | some (.tr o) => ∃ v, x = some (some v) ∧ Ow K H0 H v o f
  | _ => f = []
section
variable {K : PySem.W.Frag} {H0 H H0' H' : Hp}
theorem OoAll.mono (e0 : Same H0 H0') : ∀ {ps : List Addr} {dss : List (List D)}, (∀ a ∈ ps, ∀ o, H a = some o → H' a = some o) → OoAll K H0 H ps dss → OoAll K H0' H' ps dss
  | _, _, _, .nil => .nil
  | _, _, e, .cons h r t => .cons (e _ List.mem_cons_self _ h) (r.mono e0) (OoAll.mono e0 (fun a ha => e a (List.mem_cons_of_mem _ ha)) t)
theorem OoAll.there : ∀ {ps : List Addr} {dss : List (List D)} {a : Addr}, OoAll K H0 H ps dss → a ∈ ps → ∃ vs, H a = some (.lst vs)
  | _, _, _, .nil, h => nomatch h
  | _, _, a, .cons (p := p) h r t, hm => by
    rcases List.mem_cons.mp hm with e | hm
    · subst e; exact ⟨_, h⟩
    · exact OoAll.there t hm
theorem OwnO.mono {s : Option Sl} {x : Option (Option V)} {f : List Addr} (h : OwnO K H0 H s x f) (e0 : Same H0 H0') (e : ∀ a ∈ f, ∀ o, H a = some o → H' a = some o) : OwnO K H0' H' s x f := by
  match s, h with
  | some (.ow ds), ⟨p, vs, a, b, c, d⟩ =>
    subst b
    exact ⟨p, vs, a, rfl, e p List.mem_cons_self _ c, d.mono e0⟩
  | some (.oo dss), ⟨p, ps, a, b, nd, c, d⟩ =>
    subst b
    exact ⟨p, ps, a, rfl, nd, e p List.mem_cons_self _ c, d.mono e0 fun b hb => e b (List.mem_cons_of_mem _ hb)⟩
  | some (.od ks), ⟨p, a, b, c⟩ =>
    subst b
    exact ⟨p, a, rfl, e p List.mem_cons_self _ c⟩
  | some (.os C fs ds), ⟨p, dx, fvs, a, b, ne, c, o, n, d⟩ =>
    subst b
    exact ⟨p, dx, fvs, a, rfl, ne, e p List.mem_cons_self _ c, e dx (List.mem_cons_of_mem _ List.mem_cons_self) _ o, n, d.mono e0⟩
  | some (.tr o), ⟨v, a, b⟩ => exact ⟨v, a, b.mono e0 o e⟩
  | some .un, h => exact h
  | some (.pu _), h => exact h
  | some (.nt _), h => exact h
  | none, h => exact h
theorem OwnO.there {s : Option Sl} {x : Option (Option V)} {f : List Addr} {a : Addr} (h : OwnO K H0 H s x f) (m : a ∈ f) : ∃ o, H a = some o ∧ Ownk o := by
  match s, h with
  | some (.ow ds), ⟨p, vs, a, b, c, d⟩ =>
    subst b
    rw [List.mem_singleton.mp m]
    exact ⟨_, c, trivial⟩
  | some (.oo dss), ⟨p, ps, a, b, nd, c, d⟩ =>
    subst b
    rcases List.mem_cons.mp m with e | m
    · rw [e]; exact ⟨_, c, trivial⟩
    · obtain ⟨vs, q⟩ := d.there m
      exact ⟨_, q, trivial⟩
  | some (.od ks), ⟨p, a, b, c⟩ =>
    subst b
    rw [List.mem_singleton.mp m]
    exact ⟨_, c, trivial⟩
  | some (.os C fs ds), ⟨p, dx, fvs, a, b, ne, c, o, n, d⟩ =>
    subst b
    rcases List.mem_cons.mp m with e | m
    · rw [e]; exact ⟨_, c, trivial⟩
    · rw [List.mem_singleton.mp m]; exact ⟨_, o, trivial⟩
  | some (.tr o), ⟨v, x, b⟩ => exact b.there o m
  | some .un, h => subst h; cases m
  | some (.pu _), h => subst h; cases m
  | some (.nt _), h => subst h; cases m
  | none, h => subst h; cases m
end
structure OwnF (K : PySem.W.Frag) (G H0 H : Hp) (δ : List Sl) (σ : L2.St) (fp : Nat → List Addr) : Prop where
  s : ∀ i, OwnO K H0 H (δ[i]?) (σ[i]?) (fp i)
  d : ∀ i j a, a ∈ fp i → a ∈ fp j → i = j
  n : ∀ i a, a ∈ fp i → G a = none ∧ H0 a = none
/-- a tuple that stands in the heap as such -/
def TupK (K : PySem.W.Frag) (H0 : Hp) (v : V) (ds : List D) : Prop := ∃ a vs, v = .ref a ∧ H0 a = some (.tup vs) ∧ DrAll K H0 vs ds
theorem TupK.mono {K : PySem.W.Frag} {H0 H0' : Hp} {v : V} {ds : List D} (h : TupK K H0 v ds) (e : Same H0 H0') : TupK K H0' v ds := by
  obtain ⟨a, vs, b, c, d⟩ := h
  exact ⟨a, vs, b, e _ _ c, d.mono e⟩
theorem TupK.dr {K : PySem.W.Frag} {H0 : Hp} {v : V} {ds : List D} (h : TupK K H0 v ds) : Dr K H0 v (.tup ds) := by
  obtain ⟨a, vs, rfl, c, d⟩ := h
  exact .tup (.inl (.inl c)) d
/-- G0, G: what was known and stood at the def's entry -/
structure Rel (K : PySem.W.Frag) (G0 G : Hp) (δ : List Sl) (σ : L2.St) (H0 H : Hp) : Prop where
  st : Stp G0 G H0 H
  len : σ.length = δ.length
  pu : ∀ (i : Nat) (d : D), δ[i]? = some (.pu d) → ∃ v, σ[i]? = some (some v) ∧ Dr K H0 v d
  nt : ∀ (i : Nat) (ds : List D), δ[i]? = some (.nt ds) → ∃ v, σ[i]? = some (some v) ∧ TupK K H0 v ds
  own : ∃ fp, OwnF K G H0 H δ σ fp
section
variable {K : PySem.W.Frag} {G0 G H0 H H0' H' : Hp} {δ : List Sl} {σ : L2.St}
theorem Rel.same (r : Rel K G0 G δ σ H0 H) : Same H0 H := r.st.k
theorem Rel.ow (r : Rel K G0 G δ σ H0 H) (i : Nat) (ds : List D) (e : δ[i]? = some (.ow ds)) : ∃ p vs, σ[i]? = some (some (.ref p)) ∧ G p = none ∧ H0 p = none ∧ H p = some (.lst vs) ∧ DrAll K H0 vs ds := by
  obtain ⟨fp, o⟩ := r.own
  have z := o.s i
  rw [e] at z
  obtain ⟨p, vs, a, b, c, d⟩ := z
  have n := o.n i p (by rw [b]; exact List.mem_cons_self)
  exact ⟨p, vs, a, n.1, n.2, c, d⟩
theorem OwnF.step {fp : Nat → List Addr} (o : OwnF K G H0 H δ σ fp) (s : Stp H0 H H0' H') : OwnF K G H0' H' δ σ fp :=
  ⟨fun i => (o.s i).mono s.e0 fun a _ u z => s.e a u z, o.d, fun i a m => by
    obtain ⟨u, h1, h2⟩ := (o.s i).there m
    exact ⟨(o.n i a m).1, s.n a u (o.n i a m).2 h1 h2⟩⟩
theorem Rel.step (r : Rel K G0 G δ σ H0 H) (s : Stp H0 H H0' H') : Rel K G0 G δ σ H0' H' where
  st := r.st.trans s
  len := r.len
  pu := fun i d e => by
    obtain ⟨v, a, b⟩ := r.pu i d e
    exact ⟨v, a, b.mono s.e0⟩
  nt := fun i d e => by
    obtain ⟨v, a, b⟩ := r.nt i d e
    exact ⟨v, a, b.mono s.e0⟩
  own := by
    obtain ⟨fp, o⟩ := r.own
    exact ⟨fp, o.step s⟩
theorem set_get {α : Type} {l : List α} {i j : Nat} {x y : α} (h : (l.set i x)[j]? = some y) : (i = j ∧ x = y ∧ i < l.length) ∨ (i ≠ j ∧ l[j]? = some y) := by
  by_cases e : i = j
  · subst e
    by_cases hl : i < l.length
    · rw [List.getElem?_set_self hl] at h
      exact .inl ⟨rfl, Option.some.inj h, hl⟩
    · rw [List.getElem?_eq_none (by simpa using hl)] at h
      cases h
  · rw [List.getElem?_set_ne e] at h
    exact .inr ⟨e, h⟩
/-- slot i is set, and owns what lies at f -/
theorem OwnF.set {fp : Nat → List Addr} (o : OwnF K G H0 H δ σ fp) (len : σ.length = δ.length) {i : Nat} {s : Sl} {x : Option V} {f : List Addr} (h : OwnO K H0 H (some s) (some x) f) (nf : ∀ a ∈ f, G a = none ∧ H0 a = none) (nw : ∀ a ∈ f, ∀ j, j ≠ i → a ∉ fp j) :
    OwnF K G H0 H (δ.set i s) (σ.set i x) (fun j => if j = i then (if i < δ.length then f else []) else fp j) := by
  refine ⟨fun j => ?_, fun j k a h1 h2 => ?_, fun j a h1 => ?_⟩
  · by_cases e : j = i
    · subst e
      show OwnO K H0 H _ _ (if j = j then _ else _)
      rw [if_pos rfl]
      by_cases hl : j < δ.length
      · rw [if_pos hl, List.getElem?_set_self hl, List.getElem?_set_self (by rw [len]; exact hl)]
        exact h
      · rw [if_neg hl, List.getElem?_eq_none (by rw [List.length_set]; exact Nat.le_of_not_lt hl)]
        exact rfl
    · show OwnO K H0 H _ _ (if j = i then _ else _)
      rw [if_neg e, List.getElem?_set_ne (Ne.symm e), List.getElem?_set_ne (Ne.symm e)]
      exact o.s j
  · have q : ∀ {j}, a ∈ (if j = i then (if i < δ.length then f else []) else fp j) → (j = i ∧ a ∈ f) ∨ (j ≠ i ∧ a ∈ fp j) := fun {j} h => by
      by_cases e : j = i
      · rw [if_pos e] at h
        split at h
        · exact .inl ⟨e, h⟩
        · cases h
      · rw [if_neg e] at h
        exact .inr ⟨e, h⟩
    rcases q h1 with ⟨e1, m1⟩ | ⟨e1, m1⟩
    · rcases q h2 with ⟨e2, m2⟩ | ⟨e2, m2⟩
      · rw [e1, e2]
      · exact absurd m2 (nw a m1 k e2)
    · rcases q h2 with ⟨e2, m2⟩ | ⟨e2, m2⟩
      · exact absurd m1 (nw a m2 j e1)
      · exact o.d j k a m1 m2
  · have h1' : a ∈ (if j = i then (if i < δ.length then f else []) else fp j) := h1
    by_cases e : j = i
    · rw [if_pos e] at h1'
      split at h1'
      · exact nf a h1'
      · cases h1'
    · rw [if_neg e] at h1'
      exact o.n j a h1'
theorem Rel.setX (r : Rel K G0 G δ σ H0 H) {i : Nat} {s : Sl} {x : Option V} {f : List Addr} {fp : Nat → List Addr} (o : OwnF K G H0 H δ σ fp) (h : OwnO K H0 H (some s) (some x) f) (nf : ∀ a ∈ f, G a = none ∧ H0 a = none) (nw : ∀ a ∈ f, ∀ j, j ≠ i → a ∉ fp j)
    (hp : ∀ d, s = .pu d → ∃ v, x = some v ∧ Dr K H0 v d) (ht : ∀ d, s = .nt d → ∃ v, x = some v ∧ TupK K H0 v d) : Rel K G0 G (δ.set i s) (σ.set i x) H0 H where
  st := r.st
  len := by rw [List.length_set, List.length_set]; exact r.len
  pu := fun j e q => by
    rcases set_get q with ⟨rfl, z, hl⟩ | ⟨ne, z⟩
    · obtain ⟨v, rfl, dv⟩ := hp e z
      exact ⟨v, List.getElem?_set_self (by rw [r.len]; exact hl), dv⟩
    · rw [List.getElem?_set_ne ne]; exact r.pu j e z
  nt := fun j e q => by
    rcases set_get q with ⟨rfl, z, hl⟩ | ⟨ne, z⟩
    · obtain ⟨v, rfl, dv⟩ := ht e z
      exact ⟨v, List.getElem?_set_self (by rw [r.len]; exact hl), dv⟩
    · rw [List.getElem?_set_ne ne]; exact r.nt j e z
  own := ⟨_, o.set r.len h nf nw⟩
/-- a slot is set to a known thing -/
theorem Rel.setP (r : Rel K G0 G δ σ H0 H) {i : Nat} {v : V} {d : D} (h : Dr K H0 v d) : Rel K G0 G (δ.set i (.pu d)) (σ.set i (some v)) H0 H := by
  obtain ⟨fp, o⟩ := r.own
  exact r.setX (f := []) o rfl (fun _ m => nomatch m) (fun _ m => nomatch m) (fun d' e => by cases e; exact ⟨v, rfl, h⟩) fun _ e => nomatch e
theorem Rel.setT (r : Rel K G0 G δ σ H0 H) {i : Nat} {v : V} {ds : List D} (h : TupK K H0 v ds) : Rel K G0 G (δ.set i (.nt ds)) (σ.set i (some v)) H0 H := by
  obtain ⟨fp, o⟩ := r.own
  exact r.setX (f := []) o rfl (fun _ m => nomatch m) (fun _ m => nomatch m) (fun _ e => nomatch e) fun d' e => by cases e; exact ⟨v, rfl, h⟩
/-- .. to a list of one's own: p is new, or no other slot's -/
theorem Rel.setO (r : Rel K G0 G δ σ H0 H) {i : Nat} {p : Addr} {vs : List V} {ds : List D} {fp : Nat → List Addr} (o : OwnF K G H0 H δ σ fp) (g : G p = none) (n : H0 p = none) (h : H p = some (.lst vs)) (q : DrAll K H0 vs ds)
    (nw : ∀ j, p ∉ fp j) : Rel K G0 G (δ.set i (.ow ds)) (σ.set i (some (.ref p))) H0 H :=
  r.setX (f := [p]) o ⟨p, vs, rfl, rfl, h, q⟩ (fun a m => by rw [List.mem_singleton.mp m]; exact ⟨g, n⟩) (fun a m j _ => by rw [List.mem_singleton.mp m]; exact nw j) (fun _ e => nomatch e) fun _ e => nomatch e
theorem Rel.setU (r : Rel K G0 G δ σ H0 H) {i : Nat} : Rel K G0 G (δ.set i .un) (σ.set i none) H0 H := by
  obtain ⟨fp, o⟩ := r.own
  exact r.setX (f := []) o rfl (fun _ m => nomatch m) (fun _ m => nomatch m) (fun _ e => nomatch e) fun _ e => nomatch e
/-- what a slot owns is changed -/
theorem Rel.putX (r : Rel K G0 G δ σ H0 H) {i : Nat} {s s' : Sl} {H' : Hp} {fp : Nat → List Addr} (o : OwnF K G H0 H δ σ fp) (hi : δ[i]? = some s) (h : ∀ a, a ∉ fp i → H' a = H a) (new : OwnO K H0 H' (some s') (σ[i]?) (fp i)) (np : ∀ d, s' ≠ .pu d) (nn : ∀ d, s' ≠ .nt d) : Rel K G0 G (δ.set i s') σ H0 H' := by
  have hl : i < δ.length := (List.getElem?_eq_some_iff.mp hi).1
  have out : ∀ a, (G a ≠ none ∨ H0 a ≠ none) → H' a = H a := fun a c => h a fun m => by
    obtain ⟨n1, n2⟩ := o.n i a m
    rcases c with c | c
    · exact c n1
    · exact c n2
  refine ⟨⟨r.st.e0, fun c u e => ?_, fun c u e => ?_, r.st.n⟩, by rw [List.length_set]; exact r.len, fun j d z => ?_, fun j d z => ?_, fp, ⟨fun j => ?_, o.d, o.n⟩⟩
  · rw [out c (.inl (by rw [e]; exact fun z => nomatch z))]; exact r.st.e c u e
  · rw [out c (.inr (by rw [e]; exact fun z => nomatch z))]; exact r.st.k c u e
  · rcases set_get z with ⟨rfl, z, _⟩ | ⟨ne, z⟩
    · exact absurd z (np d)
    · exact r.pu j d z
  · rcases set_get z with ⟨rfl, z, _⟩ | ⟨ne, z⟩
    · exact absurd z (nn d)
    · exact r.nt j d z
  · by_cases e : i = j
    · subst e
      rw [List.getElem?_set_self hl]
      exact new
    · rw [List.getElem?_set_ne e]
      refine (o.s j).mono (Same.refl _) fun a m u z => ?_
      rw [h a fun m2 => e (o.d i j a m2 m)]
      exact z
/-- an own list's content is changed -/
theorem Rel.put (r : Rel K G0 G δ σ H0 H) {i : Nat} {p : Addr} {ds es : List D} {ws : List V} (hi : δ[i]? = some (.ow ds)) (hs : σ[i]? = some (some (.ref p))) (q : DrAll K H0 ws es) : Rel K G0 G (δ.set i (.ow es)) σ H0 (upd H p (.lst ws)) := by
  obtain ⟨fp, o⟩ := r.own
  have z := o.s i
  rw [hi] at z
  obtain ⟨p', vs, a, b, c, d⟩ := z
  rw [a] at hs
  cases hs
  exact r.putX o hi (fun a m => upd_ne fun e => m (by rw [b, e]; exact List.mem_cons_self)) ⟨p, ws, a, b, upd_same, q⟩ (fun _ e => nomatch e) fun _ e => nomatch e
/-- an own list becomes known (and is never stored into again) -/
theorem Rel.freeze (r : Rel K G0 G δ σ H0 H) {i : Nat} {ds : List D} (hi : δ[i]? = some (.ow ds)) : ∃ J0, Same H0 J0 ∧ Rel K G0 G (δ.set i (.pu (.lst ds))) σ J0 H := by
  obtain ⟨fp, o⟩ := r.own
  have z := o.s i
  rw [hi] at z
  obtain ⟨p, vs, a, f, h, b⟩ := z
  have hl : i < δ.length := (List.getElem?_eq_some_iff.mp hi).1
  have mp : p ∈ fp i := by rw [f]; exact List.mem_cons_self
  obtain ⟨g, n⟩ := o.n i p mp
  have e0 : Same H0 (upd H0 p (.lst vs)) := Same.new n
  have hq : (σ.set i (some (V.ref p))) = σ := by
    apply List.ext_getElem?
    intro j
    by_cases e : i = j
    · subst e
      rw [List.getElem?_set_self (by rw [r.len]; exact hl), a]
    · rw [List.getElem?_set_ne e]
  have o1 : OwnF K G (upd H0 p (.lst vs)) H (δ.set i .un) σ (fun j => if j = i then [] else fp j) := by
    refine ⟨fun j => ?_, fun j k c h1 h2 => ?_, fun j c h1 => ?_⟩
    · by_cases e : j = i
      · subst e
        rw [List.getElem?_set_self hl]
        show (if j = j then [] else fp j) = []
        rw [if_pos rfl]
      · rw [List.getElem?_set_ne (Ne.symm e)]
        show OwnO K _ H _ _ (if j = i then [] else fp j)
        rw [if_neg e]
        exact (o.s j).mono e0 fun _ _ _ z => z
    · have h1' : c ∈ (if j = i then [] else fp j) := h1
      have h2' : c ∈ (if k = i then [] else fp k) := h2
      split at h1'
      · cases h1'
      · split at h2'
        · cases h2'
        · exact o.d j k c h1' h2'
    · have h1' : c ∈ (if j = i then [] else fp j) := h1
      split at h1'
      · cases h1'
      · rename_i e
        have ne : c ≠ p := fun z => e (o.d j i c h1' (by rw [z]; exact mp))
        rw [upd_ne ne]
        exact o.n j c h1'
  have r1 : Rel K G0 G (δ.set i .un) σ (upd H0 p (.lst vs)) H := by
    refine ⟨⟨r.st.e0.trans e0, r.st.e, fun c o e => ?_, fun c o z w u => ?_⟩, by rw [List.length_set]; exact r.len, fun j d z => ?_, fun j d z => ?_, _, o1⟩
    · by_cases q : c = p
      · subst q; rw [upd_same] at e; rw [h]; exact e
      · rw [upd_ne q] at e; exact r.st.k c o e
    · rw [upd_ne (ne_of_none w g)]; exact r.st.n c o z w u
    · rcases set_get z with ⟨rfl, z, _⟩ | ⟨ne, z⟩
      · cases z
      · obtain ⟨v, a2, b2⟩ := r.pu j d z
        exact ⟨v, a2, b2.mono e0⟩
    · rcases set_get z with ⟨rfl, z, _⟩ | ⟨ne, z⟩
      · cases z
      · obtain ⟨v, a2, b2⟩ := r.nt j d z
        exact ⟨v, a2, b2.mono e0⟩
  have r2 := r1.setP (i := i) (v := .ref p) (d := .lst ds) (.lst (.inl upd_same) (b.mono e0))
  rw [List.set_set, hq] at r2
  exact ⟨_, e0, r2⟩
/-- a tree that is new since H -/
def TrK (K : PySem.W.Frag) (H H0' H' : Hp) (v : V) (o : O) : Prop := ∃ f, Ow K H0' H' v o f ∧ ∀ a ∈ f, H a = none ∧ H0' a = none
theorem Rel.setTr (r : Rel K G0 G δ σ H0 H) {i : Nat} {v : V} {o : O} {f : List Addr} {fp : Nat → List Addr} (w : OwnF K G H0 H δ σ fp) (h : Ow K H0 H v o f) (nf : ∀ a ∈ f, G a = none ∧ H0 a = none) (nw : ∀ a ∈ f, ∀ j, j ≠ i → a ∉ fp j) : Rel K G0 G (δ.set i (.tr o)) (σ.set i (some v)) H0 H :=
  r.setX (f := f) w ⟨v, rfl, h⟩ nf nw (fun _ e => nomatch e) fun _ e => nomatch e
/-- a tree of one's own is known from here on -/
theorem TrK.know (s : Stp H0 H H0' H') {v : V} {o : O} (t : TrK K H H0' H' v o) : ∃ J, Stp H0 H J H' ∧ Dr K J v o.d := by
  classical
  obtain ⟨f, w, n⟩ := t
  let J : Hp := fun b => if b ∈ f then H' b else H0' b
  have j1 : ∀ b, b ∈ f → J b = H' b := fun b m => if_pos m
  have j2 : ∀ b, b ∉ f → J b = H0' b := fun b m => if_neg m
  have e0 : Same H0' J := fun b u z => by
    by_cases m : b ∈ f
    · rw [(n b m).2] at z; cases z
    · rw [j2 b m]; exact z
  refine ⟨J, ⟨s.e0.trans e0, s.e, fun b u z => ?_, fun a u z w' k => ?_⟩, w.known e0 o j1⟩
  · by_cases m : b ∈ f
    · rw [← j1 b m]; exact z
    · rw [j2 b m] at z; exact s.k b u z
  · by_cases m : a ∈ f
    · rw [(n a m).1] at w'; cases w'
    · rw [j2 a m]; exact s.n a u z w' k
/-- what a slot owns is changed, and it owns no more than it did (and what is new) -/
theorem Rel.putG (r : Rel K G0 G δ σ H0 H) {i : Nat} {s s' : Sl} {H0' H' : Hp} {f : List Addr} {fp : Nat → List Addr} (o : OwnF K G H0 H δ σ fp) (hi : δ[i]? = some s) (e0 : Same H0 H0') (k : Same H0' H') (h : ∀ a, a ∉ fp i → ∀ u, H a = some u → H' a = some u) (n : ∀ a u, H0 a = none → H a = some u → Ownk u → H0' a = none) (new : OwnO K H0' H' (some s') (σ[i]?) f) (nf : ∀ a ∈ f, a ∈ fp i ∨ (G a = none ∧ H0' a = none ∧ ∀ j, a ∉ fp j)) (np : ∀ d, s' ≠ .pu d) (nn : ∀ d, s' ≠ .nt d) : Rel K G0 G (δ.set i s') σ H0' H' := by
  have hl : i < δ.length := (List.getElem?_eq_some_iff.mp hi).1
  have gn : ∀ a ∈ f, G a = none ∧ H0' a = none := fun a m => by
    rcases nf a m with m | ⟨m1, m2, _⟩
    · obtain ⟨u, h1, h2⟩ := (o.s i).there m
      exact ⟨(o.n i a m).1, n a u (o.n i a m).2 h1 h2⟩
    · exact ⟨m1, m2⟩
  refine ⟨⟨r.st.e0.trans e0, fun c u e => h c (fun m => by rw [(o.n i c m).1] at e; cases e) u (r.st.e c u e), k, fun a u z w q => ?_⟩, by rw [List.length_set]; exact r.len, fun j d z => ?_, fun j d z => ?_, fun j => if j = i then f else fp j, ⟨fun j => ?_, fun j l a m1 m2 => ?_, fun j a m => ?_⟩⟩
  · exact n a u (r.st.n a u z w q) (r.st.e a u w) q
  · rcases set_get z with ⟨rfl, z, _⟩ | ⟨ne, z⟩
    · exact absurd z (np d)
    · obtain ⟨v, a, b⟩ := r.pu j d z
      exact ⟨v, a, b.mono e0⟩
  · rcases set_get z with ⟨rfl, z, _⟩ | ⟨ne, z⟩
    · exact absurd z (nn d)
    · obtain ⟨v, a, b⟩ := r.nt j d z
      exact ⟨v, a, b.mono e0⟩
  · by_cases e : j = i
    · subst e
      rw [List.getElem?_set_self hl]
      show OwnO K H0' H' _ _ (if j = j then f else fp j)
      rw [if_pos rfl]
      exact new
    · rw [List.getElem?_set_ne (Ne.symm e)]
      show OwnO K H0' H' _ _ (if j = i then f else fp j)
      rw [if_neg e]
      exact (o.s j).mono e0 fun a m u z => h a (fun m2 => e (o.d j i a m m2)) u z
  · have m1' : a ∈ (if j = i then f else fp j) := m1
    have m2' : a ∈ (if l = i then f else fp l) := m2
    have cross : ∀ {j}, j ≠ i → a ∈ fp j → a ∈ f → False := fun {j} ne m mf => by
      rcases nf a mf with q | ⟨_, _, q⟩
      · exact ne (o.d j i a m q)
      · exact q j m
    by_cases ej : j = i
    · by_cases el : l = i
      · rw [ej, el]
      · rw [if_pos ej] at m1'
        rw [if_neg el] at m2'
        exact (cross el m2' m1').elim
    · by_cases el : l = i
      · rw [if_neg ej] at m1'
        rw [if_pos el] at m2'
        exact (cross ej m1' m2').elim
      · rw [if_neg ej] at m1'
        rw [if_neg el] at m2'
        exact o.d j l a m1' m2'
  · have m' : a ∈ (if j = i then f else fp j) := m
    by_cases ej : j = i
    · rw [if_pos ej] at m'
      exact gn a m'
    · rw [if_neg ej] at m'
      obtain ⟨u, h1, h2⟩ := (o.s j).there m'
      exact ⟨(o.n j a m').1, n a u (o.n j a m').2 h1 h2⟩
end
end Dw
namespace Dw
open PySem L2
/-! ### answers -/
inductive R (α : Type) where
  | ok (a : α)
  | ex (C : Str)
  | no
def R.bind {α β : Type} : R α → (α → R β) → R β
  | .ok a, f => f a
  | .ex C, _ => .ex C
  | .no, _ => .no
abbrev Sat (α β : Type) := Hp → Hp → Hp → β → α → Prop
def Post {α β : Type} (K : PySem.W.Frag) (W : WX) (σ : L2.St) (H0 H : Hp) (S : Sat α β) (r : R α) (Q : β → Hp → Prop) : Prop :=
  match r with
  | .ok a => ∀ H0' H' b, Stp H0 H H0' H' → S H H0' H' b a → Q b H'
  | .ex C => ∀ H0' H', Stp H0 H H0' H' → W (.ref (He.ga K C)) none σ H'
  | .no => False
def Down {α β : Type} (S : Sat α β) : Prop := ∀ Hs Hs' H0 H b a, Same Hs Hs' → S Hs' H0 H b a → S Hs H0 H b a
section
variable {α β γ ξ : Type} {K : PySem.W.Frag} {W : WX} {σ : L2.St} {H0 H H0' H' : Hp} {S : Sat α β} {r : R α} {Q Q' : β → Hp → Prop}
theorem Post.mono (hS : Down S) (h : Post K W σ H0 H S r Q) (st : Stp H0 H H0' H') : Post K W σ H0' H' S r Q := by
  cases r with
  | ok a => exact fun A B b s q => h A B b (st.trans s) (hS _ _ _ _ _ _ st.e q)
  | ex C => exact fun A B s => h A B (st.trans s)
  | no => exact h
theorem Post.imp (h : Post K W σ H0 H S r Q) (k : ∀ b G, Q b G → Q' b G) : Post K W σ H0 H S r Q' := by
  cases r with
  | ok a => exact fun A B b s q => k _ _ (h A B b s q)
  | ex C => exact h
  | no => exact h
theorem Post.here {a : α} {b : β} (h : Post K W σ H0 H S (.ok a) Q) (e : Same H0 H) (s : S H H0 H b a) : Q b H := h H0 H b (Stp.refl e) s
end
/-- t evaluates as c tells -/
def Ev {α β : Type} (K : PySem.W.Frag) (W : WX) (S : Sat α β) (t : L2.St → Hp → (β → Hp → Prop) → Prop) (c : List Sl → R α) : Prop :=
  ∀ G0 G δ σ H0 H Q, Rel K G0 G δ σ H0 H → Post K W σ H0 H S (c δ) Q → t σ H Q
section
variable {α β γ ξ : Type} {K : PySem.W.Frag} {W : WX} {Sa : Sat α β} {Sc : Sat ξ γ}
theorem Ev.bind (hc : Down Sc) {ta : L2.St → Hp → (β → Hp → Prop) → Prop} {ca : List Sl → R α} (ha : Ev K W Sa ta ca) {k : β → L2.St → Hp → (γ → Hp → Prop) → Prop} {f : α → List Sl → R ξ}
    (hk : ∀ a b G0 G δ σ Hs H0 H Q, Rel K G0 G δ σ H0 H → Sa Hs H0 H b a → Post K W σ H0 H Sc (f a δ) Q → k b σ H Q) : Ev K W Sc (fun σ H Q => ta σ H fun x H1 => k x σ H1 Q) (fun δ => (ca δ).bind fun a => f a δ) := by
  intro G0 G δ σ H0 H Q r p
  have p' : Post K W σ H0 H Sc ((ca δ).bind fun a => f a δ) Q := p
  refine ha G0 G δ σ H0 H _ r ?_
  cases e : ca δ with
  | ok a =>
    rw [e] at p'
    exact fun A B b s q => hk a b G0 G δ σ H A B Q (r.step s) q (Post.mono hc p' s)
  | ex C =>
    rw [e] at p'
    exact p'
  | no =>
    rw [e] at p'
    exact p'
end
/-! ### the four kinds: values, tests, argument lists, new lists -/
def SV (K : PySem.W.Frag) : Sat D V := fun _ H0 _ v d => Dr K H0 v d
def SB : Sat Bool Bool := fun _ _ _ b a => b = a
def SA (K : PySem.W.Frag) : Sat (List D) (List V) := fun _ H0 _ vs ds => DrAll K H0 vs ds
def SW (K : PySem.W.Frag) : Sat (List D) V := fun Hs H0 H v ds => ∃ p vs, v = .ref p ∧ Hs p = none ∧ H0 p = none ∧ H p = some (.lst vs) ∧ DrAll K H0 vs ds
theorem downV {K : PySem.W.Frag} : Down (SV K) := fun _ _ _ _ _ _ _ h => h
theorem downB : Down SB := fun _ _ _ _ _ _ _ h => h
theorem downA {K : PySem.W.Frag} : Down (SA K) := fun _ _ _ _ _ _ _ h => h
theorem downW {K : PySem.W.Frag} : Down (SW K) := fun _ _ _ _ _ _ e ⟨p, vs, a, n, h⟩ => ⟨p, vs, a, e.free n, h⟩
abbrev C := List Sl → R D
abbrev CB := List Sl → R Bool
abbrev CA := List Sl → R (List D)
def SE (X : Cx) (W : WX) (e : Expr) (c : C) : Prop := ∃ t, PE X e t ∧ Ev X.K W (SV X.K) t c
def ST (X : Cx) (W : WX) (e : Expr) (c : CB) : Prop := ∃ t, PT X e t ∧ Ev X.K W SB t c
def SL (X : Cx) (W : WX) (es : List Expr) (c : CA) : Prop := ∃ t, PA X es t ∧ Ev X.K W (SA X.K) t c
def SN (X : Cx) (W : WX) (e : Expr) (c : CA) : Prop := ∃ t, PE X e t ∧ Ev X.K W (SW X.K) t c
/-- a closure that stops always is right -/
theorem se_no {X : Cx} {W : WX} {e : Expr} {c : C} (t : TE) (h : PE X e t) (hc : ∀ δ, c δ = .no) : SE X W e c := ⟨t, h, fun _ _ δ _ _ _ _ _ p => by
  have z : Post _ _ _ _ _ _ (c δ) _ := p
  rw [hc δ] at z
  exact z.elim⟩
theorem pe_never {X : Cx} {e : Expr} : PE X e (fun _ _ _ => False) := ⟨fun _ _ _ _ _ _ h => h.elim⟩
theorem pt_never {X : Cx} {e : Expr} : PT X e (fun _ _ _ => False) := ⟨fun _ _ _ _ _ _ h => h.elim⟩
theorem pa_never {X : Cx} {e : List Expr} : PA X e (fun _ _ _ => False) := ⟨fun _ _ _ _ _ _ _ h => h.elim⟩
def cNo : C := fun _ => .no
def cNoB : CB := fun _ => .no
def cNoA : CA := fun _ => .no
section
variable {X : Cx} {W : WX}
theorem se_none {e : Expr} : SE X W e cNo := ⟨_, pe_never, fun _ _ _ _ _ _ _ _ p => p⟩
theorem st_none {e : Expr} : ST X W e cNoB := ⟨_, pt_never, fun _ _ _ _ _ _ _ _ p => p⟩
theorem sl_none {e : List Expr} : SL X W e cNoA := ⟨_, pa_never, fun _ _ _ _ _ _ _ _ p => p⟩
theorem sn_none {e : Expr} : SN X W e cNoA := ⟨_, pe_never, fun _ _ _ _ _ _ _ _ p => p⟩
/-! ### names and constants -/
def cVar (i : Nat) : C := fun δ => match δ[i]? with
  | some (.pu d) => .ok d
  | some (.nt ds) => .ok (.tup ds)
  | _ => .no
theorem ev_var {K : PySem.W.Frag} {i : Nat} : Ev K W (SV K) (tVar i) (cVar i) := fun G0 G δ σ H0 H Q r p => by
  unfold cVar at p
  cases e : δ[i]? with
  | none =>
    rw [e] at p
    exact p.elim
  | some s =>
    rw [e] at p
    cases s with
    | pu d =>
      obtain ⟨v, h, q⟩ := r.pu i d e
      exact ⟨v, h, Post.here p r.same q⟩
    | nt ds =>
      obtain ⟨v, h, q⟩ := r.nt i ds e
      exact ⟨v, h, Post.here p r.same q.dr⟩
    | un => exact p.elim
    | ow ds => exact p.elim
    | oo ds => exact p.elim
    | od ds => exact p.elim
    | os C fs ds => exact p.elim
    | tr o => exact p.elim
def cC (d : D) : C := fun _ => .ok d
theorem ev_c {K : PySem.W.Frag} {v : V} {d : D} (h : ∀ H, Dr K H v d) : Ev K W (SV K) (tC v) (cC d) := fun G0 G δ σ H0 H Q r p => Post.here (show Post K W σ H0 H (SV K) (.ok d) Q from p) r.same (h H0)
/-! ### two operands, one operand -/
def OpD (K : PySem.W.Frag) (W : WX) (r : R2) (f : D → D → R D) : Prop := ∀ σ H0 H x y d e Q, Same H0 H → Dr K H0 x d → Dr K H0 y e → Post K W σ H0 H (SV K) (f d e) Q → r x y H Q
def UnD (K : PySem.W.Frag) (W : WX) (r : V → Hp → VK → Prop) (f : D → R D) : Prop := ∀ σ H0 H x d Q, Same H0 H → Dr K H0 x d → Post K W σ H0 H (SV K) (f d) Q → r x H Q
/-- .. with a new list for an answer -/
def OpN (K : PySem.W.Frag) (W : WX) (r : R2) (f : D → D → R (List D)) : Prop := ∀ σ H0 H x y d e Q, Same H0 H → Dr K H0 x d → Dr K H0 y e → Post K W σ H0 H (SW K) (f d e) Q → r x y H Q
def CallD (K : PySem.W.Frag) (W : WX) (r : List V → Hp → VK → Prop) (f : List D → R D) : Prop := ∀ σ H0 H xs ds Q, Same H0 H → DrAll K H0 xs ds → Post K W σ H0 H (SV K) (f ds) Q → r xs H Q
def CallN (K : PySem.W.Frag) (W : WX) (r : List V → Hp → VK → Prop) (f : List D → R (List D)) : Prop := ∀ σ H0 H xs ds Q, Same H0 H → DrAll K H0 xs ds → Post K W σ H0 H (SW K) (f ds) Q → r xs H Q
def cBin {α : Type} (f : D → D → R α) (a b : C) : List Sl → R α := fun δ => (a δ).bind fun x => (b δ).bind fun y => f x y
def cUn {α : Type} (f : D → R α) (a : C) : List Sl → R α := fun δ => (a δ).bind f
def cApp {α : Type} (f : List D → R α) (a : CA) : List Sl → R α := fun δ => (a δ).bind f
theorem ev_binG {K : PySem.W.Frag} {α β : Type} {S : Sat α β} (hS : Down S) {ta tb : TE} {ca cb : C} {r : V → V → Hp → (β → Hp → Prop) → Prop} {f : D → D → R α} (ha : Ev K W (SV K) ta ca) (hb : Ev K W (SV K) tb cb)
    (hr : ∀ σ H0 H x y d e Q, Same H0 H → Dr K H0 x d → Dr K H0 y e → Post K W σ H0 H S (f d e) Q → r x y H Q) : Ev K W S (fun σ H Q => ta σ H fun x H1 => tb σ H1 fun y H2 => r x y H2 Q) (cBin f ca cb) := by
  intro G0 G δ σ H0 H Q rl p
  have p' : Post K W σ H0 H S ((ca δ).bind fun x => (cb δ).bind fun y => f x y) Q := p
  refine ha G0 G δ σ H0 H _ rl ?_
  cases e : ca δ with
  | ok d =>
    rw [e] at p'
    intro A B x s q
    refine hb G0 G δ σ A B _ (rl.step s) ?_
    have p2 : Post K W σ H0 H S ((cb δ).bind fun y => f d y) Q := p'
    cases e2 : cb δ with
    | ok d2 =>
      rw [e2] at p2
      intro A2 B2 y s2 q2
      exact hr σ A2 B2 x y d d2 Q (rl.step (s.trans s2)).same (Dr.mono s2.e0 _ q) q2 (Post.mono hS p2 (s.trans s2))
    | ex C =>
      rw [e2] at p2
      exact Post.mono (S := S) hS p2 s
    | no =>
      rw [e2] at p2
      exact p2
  | ex C =>
    rw [e] at p'
    exact p'
  | no =>
    rw [e] at p'
    exact p'
theorem ev_unG {K : PySem.W.Frag} {α β : Type} {S : Sat α β} (hS : Down S) {ta : TE} {ca : C} {r : V → Hp → (β → Hp → Prop) → Prop} {f : D → R α} (ha : Ev K W (SV K) ta ca)
    (hr : ∀ σ H0 H x d Q, Same H0 H → Dr K H0 x d → Post K W σ H0 H S (f d) Q → r x H Q) : Ev K W S (fun σ H Q => ta σ H fun x H1 => r x H1 Q) (cUn f ca) :=
  Ev.bind (f := fun a _ => f a) hS ha fun a b G0 G δ σ Hs H0 H Q rl q p => hr σ H0 H b a Q rl.same q p
theorem ev_appG {K : PySem.W.Frag} {α β : Type} {S : Sat α β} (hS : Down S) {ta : TA} {ca : CA} {r : List V → Hp → (β → Hp → Prop) → Prop} {f : List D → R α} (ha : Ev K W (SA K) ta ca)
    (hr : ∀ σ H0 H x d Q, Same H0 H → DrAll K H0 x d → Post K W σ H0 H S (f d) Q → r x H Q) : Ev K W S (fun σ H Q => ta σ H fun x H1 => r x H1 Q) (cApp f ca) :=
  Ev.bind (f := fun a _ => f a) hS ha fun a b G0 G δ σ Hs H0 H Q rl q p => hr σ H0 H b a Q rl.same q p
theorem OpR.or {f : Value → Value → Sem Value} {r r' : R2} (a : OpR X f r) (b : OpR X f r') : OpR X f (fun x y H Q => r x y H Q ∨ r' x y H Q) := by
  intro pins s σ H x y v u Q I rx ry h
  rcases h with h | h
  · exact a pins s σ H x y v u Q I rx ry h
  · exact b pins s σ H x y v u Q I rx ry h
theorem CallR.or {f : Value} {r r' : List V → Hp → VK → Prop} (a : CallR X f r) (b : CallR X f r') : CallR X f (fun x H Q => r x H Q ∨ r' x H Q) := by
  intro pins s σ H xs us Q I rx h
  rcases h with h | h
  · exact a pins s σ H xs us Q I rx h
  · exact b pins s σ H xs us Q I rx h
/-! ### argument lists -/
def cNil : CA := fun _ => .ok []
def cCons (a : C) (r : CA) : CA := fun δ => (a δ).bind fun d => (r δ).bind fun ds => .ok (d :: ds)
theorem ev_nil {K : PySem.W.Frag} : Ev K W (SA K) tNil cNil := fun G0 G δ σ H0 H Q r p => Post.here (show Post K W σ H0 H (SA K) (.ok []) Q from p) r.same .nil
theorem ev_cons {K : PySem.W.Frag} {ta : TE} {tr : TA} {ca : C} {cr : CA} (ha : Ev K W (SV K) ta ca) (hr : Ev K W (SA K) tr cr) : Ev K W (SA K) (tCons ta tr) (cCons ca cr) := by
  intro G0 G δ σ H0 H Q rl p
  have p' : Post K W σ H0 H (SA K) ((ca δ).bind fun d => (cr δ).bind fun ds => .ok (d :: ds)) Q := p
  refine ha G0 G δ σ H0 H _ rl ?_
  cases e : ca δ with
  | ok d =>
    rw [e] at p'
    intro A B x s q
    refine hr G0 G δ σ A B _ (rl.step s) ?_
    have p2 : Post K W σ H0 H (SA K) ((cr δ).bind fun ds => .ok (d :: ds)) Q := p'
    cases e2 : cr δ with
    | ok ds =>
      rw [e2] at p2
      intro A2 B2 y s2 q2
      exact p2 A2 B2 (x :: y) (s.trans s2) (.cons (Dr.mono s2.e0 _ q) q2)
    | ex C =>
      rw [e2] at p2
      exact Post.mono (S := SA K) downA p2 s
    | no =>
      rw [e2] at p2
      exact p2
  | ex C =>
    rw [e] at p'
    exact p'
  | no =>
    rw [e] at p'
    exact p'
theorem sl_nil : SL X W [] cNil := ⟨_, pa_nil, ev_nil⟩
/-- no star -/
def plainArg : Expr → Bool
  | .Starred _ _ => false
  | _ => true
theorem star_of {e : Expr} {es : List Expr} {env : Env} (h : plainArg e = true) : starEach (e :: es) env = (false, eval e env) :: starEach es env := by
  cases e <;> first | rfl | cases h
theorem star_all : ∀ {es : List Expr} {env : Env} {pos : Pos}, es.all plainArg = true → (backTo pos (starEach es env)).any (·.1) = false
  | [], _, _, _ => rfl
  | e :: es, env, pos, h => by
    have h' := Bool.and_eq_true_iff.mp (show (plainArg e && es.all plainArg) = true from h)
    rw [star_of h'.1]
    have ih := star_all (es := es) (env := env) (pos := pos) h'.2
    cases es with
    | nil => first | rfl | simp [backTo, starEach]
    | cons b r =>
      have h2 := Bool.and_eq_true_iff.mp (show (plainArg b && r.all plainArg) = true from h'.2)
      rw [star_of h2.1] at ih ⊢
      simpa [backTo] using ih
theorem sl_cons {e : Expr} {es : List Expr} {ca : C} {cr : CA} (ha : SE X W e ca) (hr : SL X W es cr) (h : plainArg e = true) : SL X W (e :: es) (cCons ca cr) := by
  obtain ⟨t, p, v⟩ := ha
  obtain ⟨u, q, w⟩ := hr
  exact ⟨_, pa_cons p q (star_of h), ev_cons v w⟩
end
end Dw
namespace Dw
open PySem L2 PyProof.Rows
/-! ### scalars -/
def D.sv : D → Option V
  | .non => some .non
  | .bl b => some (.bl b)
  | .int i => some (.int i)
  | .str x => some (.str x)
  | _ => none
section
variable {K : PySem.W.Frag} {H H0 : Hp}
theorem Dr.sv {v u : V} {d : D} (h : Dr K H v d) (e : d.sv = some u) : v = u := by
  cases h <;> first | exact Option.some.inj e | cases e
theorem sv_flat {d : D} {u : V} (e : d.sv = some u) : flatV u = true := by
  cases d <;> first | cases e | skip
  all_goals rfl
def svs : List D → Option (List V)
  | [] => some []
  | d :: ds => match d.sv, svs ds with
    | some u, some us => some (u :: us)
    | _, _ => none
theorem DrAll.svs : ∀ {vs us : List V} {ds : List D}, DrAll K H vs ds → Dw.svs ds = some us → vs = us
  | _, _, _, .nil, e => by
    unfold Dw.svs at e
    exact Option.some.inj e
  | _, _, _, .cons (d := d) (ds := ds) a r, e => by
    unfold Dw.svs at e
    cases e1 : d.sv with
    | none => rw [e1] at e; cases e
    | some u =>
      cases e2 : Dw.svs ds with
      | none => rw [e1, e2] at e; cases e
      | some us =>
        rw [e1, e2] at e
        rw [← Option.some.inj e, a.sv e1, DrAll.svs r e2]
theorem svs_flat : ∀ {ds : List D} {us : List V}, svs ds = some us → us.all flatV = true
  | [], _, e => by
    unfold svs at e
    rw [← Option.some.inj e]
    rfl
  | d :: ds, us, e => by
    unfold svs at e
    cases e1 : d.sv with
    | none => rw [e1] at e; cases e
    | some u =>
      cases e2 : svs ds with
      | none => rw [e1, e2] at e; cases e
      | some ws =>
        rw [e1, e2] at e
        rw [← Option.some.inj e, List.all_cons, sv_flat e1, svs_flat e2]
        rfl
end
theorem Dr.lstK {K : PySem.W.Frag} {H : Hp} {v : V} {ds : List D} (h : Dr K H v (.lst ds)) : ∃ a xs, v = .ref a ∧ Rd H a (.lst xs) ∧ DrAll K H xs ds := by
  cases h with
  | lst q r => exact ⟨_, _, rfl, q, r⟩
theorem Dr.tupK {K : PySem.W.Frag} {H : Hp} {v : V} {ds : List D} (h : Dr K H v (.tup ds)) : ∃ a xs, v = .ref a ∧ SqT K H a xs ∧ DrAll K H xs ds := by
  cases h with
  | tup q r => exact ⟨_, _, rfl, q, r⟩
theorem Dr.kstK {K : PySem.W.Frag} {H : Hp} {v : V} {ds : List D} (h : Dr K H v (.kst ds)) : ∃ a xs, v = .ref a ∧ SqL K H a xs ∧ DrAll K H xs ds := by
  cases h with
  | kst q r => exact ⟨_, _, rfl, q, r⟩
/-- a list of any of the two kinds, a tuple -/
def D.seq : D → Option (List D)
  | .lst ds => some ds
  | .kst ds => some ds
  | .tup ds => some ds
  | _ => none
theorem Dr.seqK {K : PySem.W.Frag} {H : Hp} {v : V} {d : D} {ds : List D} (h : Dr K H v d) (e : d.seq = some ds) : ∃ a xs, v = .ref a ∧ (SqL K H a xs ∨ SqT K H a xs) ∧ DrAll K H xs ds := by
  cases h with
  | tup q r => cases e; exact ⟨_, _, rfl, .inr q, r⟩
  | lst q r => cases e; exact ⟨_, _, rfl, .inl (.inl q), r⟩
  | kst q r => cases e; exact ⟨_, _, rfl, .inl q, r⟩
  | _ => cases e
/-! ### answers: here, a new tuple, a new list -/
section
variable {K : PySem.W.Frag} {W : WX} {σ : L2.St} {H0 H : Hp} {Q : VK}
theorem Post.v {d : D} {v : V} (p : Post K W σ H0 H (SV K) (.ok d) Q) (e : Same H0 H) (h : Dr K H0 v d) : Q v H := Post.here p e h
theorem Post.newT {ds : List D} {vs : List V} {p : Addr} (q : Post K W σ H0 H (SV K) (.ok (.tup ds)) Q) (e : Same H0 H) (h : DrAll K H0 vs ds) (hp : H p = none) : Q (.ref p) (upd H p (.tup vs)) :=
  q _ _ _ (Stp.new e hp) (.tup (.inl (.inl upd_same)) (h.mono (Same.new (e.free hp))))
theorem Post.newL {ds : List D} {vs : List V} {p : Addr} (q : Post K W σ H0 H (SV K) (.ok (.lst ds)) Q) (e : Same H0 H) (h : DrAll K H0 vs ds) (hp : H p = none) : Q (.ref p) (upd H p (.lst vs)) :=
  q _ _ _ (Stp.new e hp) (.lst (.inl upd_same) (h.mono (Same.new (e.free hp))))
theorem Post.newO {ds : List D} {vs : List V} {p : Addr} (q : Post K W σ H0 H (SW K) (.ok ds) Q) (e : Same H0 H) (h : DrAll K H0 vs ds) (hp : H p = none) : Q (.ref p) (upd H p (.lst vs)) :=
  q _ _ _ (Stp.own e hp) ⟨p, vs, rfl, hp, e.free hp, upd_same, h⟩
end
/-- a new list, told as a known one -/
def toL : R (List D) → R D
  | .ok ds => .ok (.lst ds)
  | .ex C => .ex C
  | .no => .no
def cL (c : CA) : C := fun δ => toL (c δ)
theorem ev_L {K : PySem.W.Frag} {W : WX} {t : TE} {c : CA} (h : Ev K W (SW K) t c) : Ev K W (SV K) t (cL c) := by
  intro G0 G δ σ H0 H Q r p
  refine h G0 G δ σ H0 H Q r ?_
  unfold cL at p
  cases e : c δ with
  | ok ds =>
    rw [e] at p
    intro A B v s q
    obtain ⟨a, vs, rfl, n1, n2, hb, hr⟩ := q
    refine p (upd A a (.lst vs)) B (.ref a) ⟨s.e0.trans (Same.new n2), s.e, fun b o z => ?_, fun b o z w k => ?_⟩ (.lst (.inl upd_same) (hr.mono (Same.new n2)))
    · by_cases q : b = a
      · subst q; rw [upd_same] at z; rw [hb]; exact z
      · rw [upd_ne q] at z; exact s.k b o z
    · rw [upd_ne (ne_of_none w n1)]; exact s.n b o z w k
  | ex C =>
    rw [e] at p
    exact p
  | no =>
    rw [e] at p
    exact p
theorem se_of_sn {X : Cx} {W : WX} {e : Expr} {c : CA} (h : SN X W e c) : SE X W e (cL c) := by
  obtain ⟨t, p, v⟩ := h
  exact ⟨t, p, ev_L v⟩
/-! ### + - * // % ** >> & -/
def rCatQ : R2 := fun x y H Q => ∃ l b xs zs, x = .ref l ∧ y = .ref b ∧ Rd H l (.lst xs) ∧ Rd H b (.lst zs) ∧ xs.length + zs.length ≤ sizeLine ∧ ∀ p, H p = none → Q (.ref p) (upd H p (.lst (xs ++ zs)))
theorem op_catQ {X : Cx} : OpR X (binaryOp .Add) rCatQ := by
  intro pins s σ H x y v u Q I rx ry h
  obtain ⟨l, b, xs, zs, rfl, rfl, h1, h2, hz, q⟩ := h
  cases rx
  cases ry
  obtain ⟨za, ia, na, ra, ea⟩ := h1.ok I.hok
  obtain ⟨zb, ib, nb, rb, eb⟩ := h2.ok I.hok
  have la := ra.length
  have lb := rb.length
  refine PySem.P.add_list ea eb ?_ (by rw [List.size_toArray, List.size_toArray]; omega)
  have e3 : ia.toArray ++ ib.toArray = (ia ++ ib).toArray := by simp
  rw [e3]
  exact ⟨.ref _, _, I.lnew (t' := s.toks) (ra.append rb) (by rw [List.length_append]; exact hz), rfl, q _ I.fresh⟩
def dAdd : D → D → R D
  | .int i, .int j => .ok (.int (i + j))
  | .str x, .str y => if x.length + y.length ≤ sizeLine then .ok (.str (x ++ y)) else .no
  | .tup xs, .tup ys => if xs.length + ys.length ≤ sizeLine then .ok (.tup (xs ++ ys)) else .no
  | .int i, .bl b => .ok (.int (i + b2i b))
  | _, _ => .no
def dAddN : D → D → R (List D)
  | .lst xs, .lst ys => if xs.length + ys.length ≤ sizeLine then .ok (xs ++ ys) else .no
  | _, _ => .no
/-- either: what is no list sum, else the list -/
def dAddA (d e : D) : R D := match d, e with
  | .lst xs, .lst ys => toL (dAddN (.lst xs) (.lst ys))
  | _, _ => dAdd d e
abbrev rAddS : R2 := fun x y H Q => ∃ i j, x = .str i ∧ y = .str j ∧ i.length + j.length ≤ sizeLine ∧ Q (.str (i ++ j)) H
abbrev rAddIB : R2 := fun x y H Q => ∃ i k, x = .int i ∧ y = .bl k ∧ Q (.int (i + b2i k)) H
def rAddAll (K : PySem.W.Frag) : R2 := fun x y H Q => rI0 (fun i j => .int (i + j)) x y H Q ∨ rAddS x y H Q ∨ rCatA K x y H Q ∨ rAddIB x y H Q ∨ rCatQ x y H Q
theorem op_addAll {X : Cx} : OpR X (binaryOp .Add) (rAddAll X.K) := OpR.or op_add (OpR.or op_add_str (OpR.or op_catA (OpR.or op_add_ib op_catQ)))
theorem opd_addN {K : PySem.W.Frag} {W : WX} : OpN K W (rAddAll K) dAddN := by
  intro σ H0 H x y d e Q s hx hy p
  unfold dAddN at p
  split at p
  · split at p
    · rename_i xs ys hz
      obtain ⟨a, us, rfl, q1, r1⟩ := hx.lstK
      obtain ⟨b, ws, rfl, q2, r2⟩ := hy.lstK
      refine .inr (.inr (.inr (.inr ⟨a, b, us, ws, rfl, rfl, rd_mono s q1, rd_mono s q2, by rw [r1.length, r2.length]; exact hz, fun n hn => ?_⟩)))
      exact p.newO s (r1.append r2) hn
    · exact p.elim
  · exact p.elim
theorem opd_add {K : PySem.W.Frag} {W : WX} : OpD K W (rAddAll K) dAdd := by
  intro σ H0 H x y d e Q s hx hy p
  unfold dAdd at p
  split at p
  · cases hx
    cases hy
    exact .inl ⟨_, _, rfl, rfl, p.v s (.int _)⟩
  · split at p
    · cases hx
      cases hy
      exact .inr (.inl ⟨_, _, rfl, rfl, by assumption, p.v s (.str _)⟩)
    · exact p.elim
  · split at p
    · rename_i xs ys hz
      obtain ⟨a, us, rfl, q1, r1⟩ := hx.tupK
      obtain ⟨b, ws, rfl, q2, r2⟩ := hy.tupK
      refine .inr (.inr (.inl ⟨a, b, us, ws, rfl, rfl, sqT_mono s q1, sqT_mono s q2, by rw [r1.length, r2.length]; exact hz, fun z => ?_, fun z1 z2 => ?_, fun z1 z2 n hn => ?_⟩))
      · subst z
        cases r1
        exact p.v s (.tup q2 r2)
      · subst z2
        cases r2
        rw [List.append_nil] at p
        exact p.v s (.tup q1 r1)
      · exact p.newT s (r1.append r2) hn
    · exact p.elim
  · cases hx
    cases hy
    exact .inr (.inr (.inr (.inl ⟨_, _, rfl, rfl, p.v s (.int _)⟩)))
  · exact p.elim
def dInt (C : Int → Int → Prop) [DecidableRel C] (g : Int → Int → Int) : D → D → R D
  | .int i, .int j => if C i j then .ok (.int (g i j)) else .no
  | _, _ => .no
theorem opd_int {K : PySem.W.Frag} {W : WX} {C C' : Int → Int → Prop} [DecidableRel C] {g g' : Int → Int → Int} (h : ∀ i j, C i j → C' i j) (hg : ∀ i j, C i j → g' i j = g i j) : OpD K W (rI C' fun i j => .int (g' i j)) (dInt C g) := by
  intro σ H0 H x y d e Q s hx hy p
  unfold dInt at p
  split at p
  · split at p
    · rename_i i j c
      cases hx
      cases hy
      refine ⟨i, j, rfl, rfl, h i j c, ?_⟩
      have z := p.v s (.int _)
      rw [← hg i j c] at z
      exact z
    · exact p.elim
  · exact p.elim
abbrev cAny (_ _ : Int) : Prop := True
def cMul (i j : Int) : Prop := i.natAbs.log2 + j.natAbs.log2 < 1000000
def cDiv (_ j : Int) : Prop := j ≠ 0 ∧ j.natAbs.log2 < 9000
def cMod (_ j : Int) : Prop := j ≠ 0
def cPow (i j : Int) : Prop := 0 ≤ j ∧ j ≤ 1000000 ∧ i.natAbs < 2 ^ 64
def cShr (_ j : Int) : Prop := 0 ≤ j
instance : DecidableRel cMul := fun i j => inferInstanceAs (Decidable (i.natAbs.log2 + j.natAbs.log2 < 1000000))
instance : DecidableRel cDiv := fun _ j => inferInstanceAs (Decidable (j ≠ 0 ∧ j.natAbs.log2 < 9000))
instance : DecidableRel cMod := fun _ j => inferInstanceAs (Decidable (j ≠ 0))
instance : DecidableRel cPow := fun i j => inferInstanceAs (Decidable (0 ≤ j ∧ j ≤ 1000000 ∧ i.natAbs < 2 ^ 64))
instance : DecidableRel cShr := fun _ j => inferInstanceAs (Decidable (0 ≤ j))
def dSub : D → D → R D := dInt cAny fun i j => i - j
def dMul : D → D → R D
  | .str z, .int n => if z.length ≤ 1000 ∧ n ≤ 1000 ∧ -1000 ≤ n then .ok (.str (Txt.mul z n)) else .no
  | .int i, .int j => if cMul i j then .ok (.int (i * j)) else .no
  | _, _ => .no
def rMulS : R2 := fun x y H Q => ∃ z n, x = .str z ∧ y = .int n ∧ MulOk z n ∧ Q (.str (Txt.mul z n)) H
theorem op_mulS {X : Cx} : OpR X (binaryOp .Mult) rMulS := by
  intro pins s σ H x y v u Q I rx ry h
  obtain ⟨z, n, rfl, rfl, hm, q⟩ := h
  obtain ⟨t, rfl⟩ := rx
  obtain ⟨t', rfl⟩ := ry
  exact SB.mul hm fun t2 k => ⟨.str _, H, I.tok _, ⟨_, rfl⟩, q⟩
theorem mulOk_small {z : Str} {n : Int} (h : z.length ≤ 1000 ∧ n ≤ 1000 ∧ -1000 ≤ n) : MulOk z n := by
  obtain ⟨h1, h2, h3⟩ := h
  refine ⟨?_, fun a _ => ?_, fun a _ => ?_⟩
  · rw [Bool.or_eq_false_iff]
    exact ⟨decide_eq_false (by omega), decide_eq_false (by omega)⟩
  · have : (1000 : Int) ≤ (2 ^ 63 - 1) / n := by
      rw [Int.le_ediv_iff_mul_le (by omega)]
      have : (1000 : Int) * n ≤ 1000 * 1000 := Int.mul_le_mul_of_nonneg_left h2 (by decide)
      omega
    omega
  · have e : z.length * n.toNat ≤ 1000 * 1000 := Nat.mul_le_mul h1 (by omega)
    have : z.length * n.toNat ≤ sizeLine := Nat.le_trans e (by decide)
    exact decide_eq_false (show ¬ z.length * n.toNat > sizeLine by omega)
def dDiv : D → D → R D := dInt cDiv fun i j => i.fdiv j
def dMod : D → D → R D := dInt cMod fun i j => i.fmod j
def dPow : D → D → R D := dInt cPow fun i j => i ^ j.toNat
def dShr : D → D → R D := dInt cShr fun i j => i / 2 ^ j.toNat
def dAnd : D → D → R D := dInt cAny fun i j => Builtin.bitAnd i j
theorem op_subC {X : Cx} : OpR X (binaryOp .Sub) (rI cAny fun i j => .int (i - j)) := opI fun _ _ _ _ _ _ _ _ q => sub_int q
theorem op_andC {X : Cx} : OpR X (binaryOp .BitAnd) (rI cAny fun i j => .int (Builtin.bitAnd i j)) := opI fun _ _ _ _ _ _ _ _ q => and_int q
theorem op_divC {X : Cx} : OpR X (binaryOp .FloorDiv) (rI cDiv fun i j => .int (i.fdiv j)) := opI fun _ _ _ _ _ _ _ hc q => floordiv_int hc.1 q (.inl (PyProof.noPylong_of_log2 hc.2))
theorem opd_sub {K : PySem.W.Frag} {W : WX} : OpD K W (rI cAny fun i j => .int (i - j)) dSub := opd_int (fun _ _ c => c) fun _ _ _ => rfl
theorem opd_mul {K : PySem.W.Frag} {W : WX} : OpD K W (fun x y H Q => rI CMulW (fun i j => .int (i * j)) x y H Q ∨ rMulS x y H Q) dMul := by
  intro σ H0 H x y d e Q s hx hy p
  unfold dMul at p
  split at p
  · split at p
    · rename_i c
      cases hx
      cases hy
      exact .inr ⟨_, _, rfl, rfl, mulOk_small c, p.v s (.str _)⟩
    · exact p.elim
  · split at p
    · rename_i c
      cases hx
      cases hy
      exact .inl ⟨_, _, rfl, rfl, c, p.v s (.int _)⟩
    · exact p.elim
  · exact p.elim
theorem opd_div {K : PySem.W.Frag} {W : WX} : OpD K W (rI cDiv fun i j => .int (i.fdiv j)) dDiv := opd_int (fun _ _ c => c) fun _ _ _ => rfl
theorem opd_mod {K : PySem.W.Frag} {W : WX} : OpD K W (rI (fun _ j => j ≠ 0) fun i j => .int (i.fmod j)) dMod := opd_int (fun _ _ c => c) fun _ _ _ => rfl
theorem opd_pow {K : PySem.W.Frag} {W : WX} : OpD K W (rI CPow fun i j => .int (i ^ j.toNat)) dPow := opd_int (fun _ _ c => c) fun _ _ _ => rfl
theorem opd_shr {K : PySem.W.Frag} {W : WX} : OpD K W (rI (fun _ j => 0 ≤ j) fun i j => .int (i / 2 ^ j.toNat)) dShr := opd_int (fun _ _ c => c) fun _ _ _ => rfl
theorem opd_and {K : PySem.W.Frag} {W : WX} : OpD K W (rI cAny fun i j => .int (Builtin.bitAnd i j)) dAnd := opd_int (fun _ _ c => c) fun _ _ _ => rfl
def dNeg : D → R D
  | .int i => .ok (.int (-i))
  | _ => .no
theorem und_neg {K : PySem.W.Frag} {W : WX} : UnD K W (rU fun i => .int (-i)) dNeg := by
  intro σ H0 H x d Q s hx p
  unfold dNeg at p
  split at p
  · cases hx
    exact ⟨_, rfl, p.v s (.int _)⟩
  · exact p.elim
/-- a list times an int, the list just made -/
def dRep (ds : List D) : D → R (List D)
  | .int k => if k < 2 ^ 24 ∧ ds.length * k.toNat ≤ sizeLine ∧ -(2 ^ 24) < k then .ok (List.replicate k.toNat ds).flatten else .no
  | _ => .no
def cRep (a : CA) (b : C) : CA := fun δ => (a δ).bind fun ds => (b δ).bind fun e => dRep ds e
theorem ev_rep {K : PySem.W.Frag} {W : WX} {ta tb : TE} {ca : CA} {cb : C} (ha : Ev K W (SW K) ta ca) (hb : Ev K W (SV K) tb cb) : Ev K W (SW K) (tOp rRep ta tb) (cRep ca cb) := by
  intro G0 G δ σ H0 H Q rl p
  have p' : Post K W σ H0 H (SW K) ((ca δ).bind fun ds => (cb δ).bind fun e => dRep ds e) Q := p
  refine ha G0 G δ σ H0 H _ rl ?_
  cases e : ca δ with
  | ok ds =>
    rw [e] at p'
    intro A B x s q
    refine hb G0 G δ σ A B _ (rl.step s) ?_
    have p2 : Post K W σ H0 H (SW K) ((cb δ).bind fun e => dRep ds e) Q := p'
    cases e2 : cb δ with
    | ok d2 =>
      rw [e2] at p2
      intro A2 B2 y s2 q2
      have p3 : Post K W σ A2 B2 (SW K) (dRep ds d2) Q := Post.mono downW p2 (s.trans s2)
      obtain ⟨a, vs, rfl, n1, n2, hb, hr⟩ := q
      unfold dRep at p3
      split at p3
      · split at p3
        · rename_i k c
          cases (show Dr K A2 y (.int k) from q2)
          refine ⟨a, k, vs, rfl, rfl, s2.e _ _ hb, by omega, by omega, by rw [hr.length]; exact c.2.1, fun n hn => ?_⟩
          exact p3.newO (rl.step (s.trans s2)).same ((hr.mono s2.e0).rep k.toNat) hn
        · exact p3.elim
      · exact p3.elim
    | ex C =>
      rw [e2] at p2
      exact Post.mono (S := SW K) downW p2 s
    | no =>
      rw [e2] at p2
      exact p2
  | ex C =>
    rw [e] at p'
    exact p'
  | no =>
    rw [e] at p'
    exact p'
end Dw
namespace Dw
open PySem L2 PyProof.Rows
theorem post_L {K : PySem.W.Frag} {W : WX} {σ : L2.St} {H0 H : Hp} {Q : VK} {r : R (List D)} (p : Post K W σ H0 H (SV K) (toL r) Q) : Post K W σ H0 H (SW K) r Q := by
  cases r with
  | ok ds =>
    intro A B v s q
    obtain ⟨a, vs, rfl, n1, n2, hb, hr⟩ := q
    refine p (upd A a (.lst vs)) B (.ref a) ⟨s.e0.trans (Same.new n2), s.e, fun b o z => ?_, fun b o z w k => ?_⟩ (.lst (.inl upd_same) (hr.mono (Same.new n2)))
    · by_cases q : b = a
      · subst q; rw [upd_same] at z; rw [hb]; exact z
      · rw [upd_ne q] at z; exact s.k b o z
    · rw [upd_ne (ne_of_none w n1)]; exact s.n b o z w k
  | ex C => exact p
  | no => exact p
theorem opd_addA {K : PySem.W.Frag} {W : WX} : OpD K W (rAddAll K) dAddA := by
  intro σ H0 H x y d e Q s hx hy p
  unfold dAddA at p
  split at p
  · exact opd_addN σ H0 H x y _ _ Q s hx hy (post_L p)
  · exact opd_add σ H0 H x y d e Q s hx hy p
/-! ### data for == : no classes, objects; of few levels -/
def D.good : Nat → D → Bool
  | _, .non => true
  | _, .bl _ => true
  | _, .int _ => true
  | _, .str x => PyData.strOk x
  | n + 1, .tup ds => ds.all (D.good n)
  | n + 1, .lst ds => ds.all (D.good n)
  | n + 1, .kst ds => ds.all (D.good n)
  | _, _ => false
mutual
def D.toPy : D → PyData
  | .non => .none
  | .bl b => .bool b
  | .int i => .int i
  | .str x => .str x
  | .tup ds => .tuple (D.toPys ds)
  | .lst ds => .list (D.toPys ds)
  | .kst ds => .list (D.toPys ds)
  | _ => .none
def D.toPys : List D → List PyData
  | [] => []
  | d :: ds => d.toPy :: D.toPys ds
end
section
variable {K : PySem.W.Frag} {H : Hp}
theorem good_all {n : Nat} (ih : ∀ (d : D) (v : V), d.good n = true → Dr K H v d → Dp K H v d.toPy ∧ d.toPy.canLay0 = true ∧ d.toPy.depth ≤ n) :
    ∀ (ds : List D) (vs : List V), ds.all (D.good n) = true → DrAll K H vs ds → DpAll K H vs (D.toPys ds) ∧ PyData.canLayAll0 (D.toPys ds) = true ∧ PyData.depthAll (D.toPys ds) ≤ n
  | [], _, _, h => by
    cases h
    exact ⟨.nil, rfl, Nat.zero_le _⟩
  | d :: ds, _, g, h => by
    cases h with
    | cons a r =>
      have g' := Bool.and_eq_true_iff.mp (show (d.good n && ds.all (D.good n)) = true from g)
      obtain ⟨p1, p2, p3⟩ := ih d _ g'.1 a
      obtain ⟨q1, q2, q3⟩ := good_all ih ds _ g'.2 r
      refine ⟨.cons p1 q1, ?_, ?_⟩
      · show (PyData.canLay0 d.toPy && PyData.canLayAll0 (D.toPys ds)) = true
        rw [p2, q2]
        rfl
      · show max (PyData.depth d.toPy) (PyData.depthAll (D.toPys ds)) ≤ n
        omega
theorem good_dp : ∀ (n : Nat) (d : D) (v : V), d.good n = true → Dr K H v d → Dp K H v d.toPy ∧ d.toPy.canLay0 = true ∧ d.toPy.depth ≤ n
  | n, .non, _, _, h => by cases h; exact ⟨by unfold D.toPy; exact .non, by unfold D.toPy; rfl, by unfold D.toPy; exact Nat.zero_le _⟩
  | n, .bl b, _, _, h => by cases h; exact ⟨by unfold D.toPy; exact .bl b, by unfold D.toPy; rfl, by unfold D.toPy; exact Nat.zero_le _⟩
  | n, .int i, _, _, h => by cases h; exact ⟨by unfold D.toPy; exact .int i, by unfold D.toPy; rfl, by unfold D.toPy; exact Nat.zero_le _⟩
  | n, .str x, _, g, h => by
    cases h
    have g' : PyData.strOk x = true := by
      cases n <;> exact g
    exact ⟨by unfold D.toPy; exact .str x, by unfold D.toPy; exact g', by unfold D.toPy; exact Nat.zero_le _⟩
  | n, .ty x, _, g, _ => by cases n <;> cases g
  | 0, .tup ds, _, g, _ => by cases g
  | 0, .lst ds, _, g, _ => by cases g
  | 0, .kst ds, _, g, _ => by cases g
  | n + 1, .tup ds, _, g, h => by
    obtain ⟨a, xs, rfl, q, r⟩ := h.tupK
    obtain ⟨q1, q2, q3⟩ := good_all (good_dp n) ds _ g r
    unfold D.toPy
    exact ⟨.tup q q1, q2, Nat.succ_le_succ q3⟩
  | n + 1, .lst ds, _, g, h => by
    obtain ⟨a, xs, rfl, q, r⟩ := h.lstK
    obtain ⟨q1, q2, q3⟩ := good_all (good_dp n) ds _ g r
    unfold D.toPy
    exact ⟨.lst (.inl q) q1, q2, Nat.succ_le_succ q3⟩
  | n + 1, .kst ds, _, g, h => by
    obtain ⟨a, xs, rfl, q, r⟩ := h.kstK
    obtain ⟨q1, q2, q3⟩ := good_all (good_dp n) ds _ g r
    unfold D.toPy
    exact ⟨.lst q q1, q2, Nat.succ_le_succ q3⟩
  | n, .dct _ _, _, g, _ => by cases n <;> cases g
  | n, .obj _ _ _, _, g, _ => by cases n <;> cases g
  | n, .exc _, _, g, _ => by cases n <;> cases g
theorem good_shaped {d : D} {v : V} (g : d.good 20 = true) (h : Dr K H v d) : Dp K H v d.toPy ∧ SeqAt.shaped d.toPy = true := by
  obtain ⟨a, b, c⟩ := good_dp 20 d v g h
  refine ⟨a, ?_⟩
  show (PyData.canLay0 d.toPy && decide (PyData.depth d.toPy ≤ 64)) = true
  rw [b, decide_eq_true (Nat.le_trans c (by decide))]
  rfl
end
def dEqB (d e : D) : R Bool := match d.sv, e.sv with
  | some u, some w => if scal u w = true then .ok (decide (u = w)) else .no
  | _, _ => if d.good 20 = true ∧ e.good 20 = true then .ok (PyData.eqv d.toPy e.toPy) else .no
def rmap {α β : Type} (f : α → β) : R α → R β
  | .ok a => .ok (f a)
  | .ex C => .ex C
  | .no => .no
def dEq (d e : D) : R D := rmap D.bl (dEqB d e)
def dNe (d e : D) : R D := rmap (fun b => D.bl (!b)) (dEqB d e)
def rEqAll (K : PySem.W.Frag) : R2 := fun x y H Q => rEq x y H Q ∨ rEqD K x y H Q
def rNeAll (K : PySem.W.Frag) : R2 := fun x y H Q => rNe x y H Q ∨ rNeD K x y H Q
theorem op_eqAll {X : Cx} (hu : X.A.units + 64 < cLine) : OpR X (compareOp .Eq) (rEqAll X.K) := OpR.or op_eq (op_eqD hu)
theorem op_neAll {X : Cx} (hu : X.A.units + 64 < cLine) : OpR X (compareOp .NotEq) (rNeAll X.K) := OpR.or op_ne (op_neD hu)
theorem opd_eq {K : PySem.W.Frag} {W : WX} : OpD K W (rEqAll K) dEq := by
  intro σ H0 H x y d e Q s hx hy p
  unfold dEq dEqB at p
  split at p
  · rename_i u w e1 e2
    split at p
    · rename_i c
      have ex := hx.sv e1
      have ey := hy.sv e2
      subst ex ey
      exact .inl ⟨c, p.v s (.bl _)⟩
    · exact p.elim
  · split at p
    · rename_i c
      obtain ⟨a1, a2⟩ := good_shaped c.1 (hx.mono s)
      obtain ⟨b1, b2⟩ := good_shaped c.2 (hy.mono s)
      exact .inr ⟨_, _, a1, b1, a2, b2, p.v s (.bl _)⟩
    · exact p.elim
theorem opd_ne {K : PySem.W.Frag} {W : WX} : OpD K W (rNeAll K) dNe := by
  intro σ H0 H x y d e Q s hx hy p
  unfold dNe dEqB at p
  split at p
  · rename_i u w e1 e2
    split at p
    · rename_i c
      have ex := hx.sv e1
      have ey := hy.sv e2
      subst ex ey
      exact .inl ⟨c, p.v s (.bl _)⟩
    · exact p.elim
  · split at p
    · rename_i c
      obtain ⟨a1, a2⟩ := good_shaped c.1 (hx.mono s)
      obtain ⟨b1, b2⟩ := good_shaped c.2 (hy.mono s)
      exact .inr ⟨_, _, a1, b1, a2, b2, p.v s (.bl _)⟩
    · exact p.elim
/-! ### < <= > >= of ints -/
def dCmp (g : Int → Int → Bool) : D → D → R D
  | .int i, .int j => .ok (.bl (g i j))
  | _, _ => .no
theorem opd_cmp {K : PySem.W.Frag} {W : WX} {g : Int → Int → Bool} : OpD K W (rI0 fun i j => .bl (g i j)) (dCmp g) := by
  intro σ H0 H x y d e Q s hx hy p
  unfold dCmp at p
  split at p
  · cases hx
    cases hy
    exact ⟨_, _, rfl, rfl, p.v s (.bl _)⟩
  · exact p.elim
def dLt : D → D → R D := dCmp fun i j => decide (i < j)
def dLe : D → D → R D := dCmp fun i j => decide (i ≤ j)
def dGt : D → D → R D := dCmp fun i j => decide (j < i)
def dGe : D → D → R D := dCmp fun i j => decide (j ≤ i)
/-! ### is, is not: of None, of truths -/
def D.isNon : D → Bool
  | .non => true
  | _ => false
def dIsB : D → D → R Bool
  | d, .non => .ok d.isNon
  | .bl a, .bl b => .ok (decide (a = b))
  | _, _ => .no
def dIs (d e : D) : R D := rmap D.bl (dIsB d e)
def dNot (d e : D) : R D := rmap (fun b => D.bl (!b)) (dIsB d e)
def rIsAll : R2 := fun x y H Q => (y = .non ∧ Q (.bl (decide (x = .non))) H) ∨ rIsB x y H Q
def rNotAll : R2 := fun x y H Q => (y = .non ∧ Q (.bl (!decide (x = .non))) H) ∨ rNotB x y H Q
theorem op_isAll {X : Cx} : OpR X (compareOp .Is) rIsAll := OpR.or op_isN op_isBl
theorem op_notAll {X : Cx} : OpR X (compareOp .IsNot) rNotAll := OpR.or op_notN op_notBl
theorem Dr.isNon {K : PySem.W.Frag} {H : Hp} {v : V} {d : D} (h : Dr K H v d) : decide (v = .non) = d.isNon := by
  cases h <;> first | rfl | exact decide_eq_false (fun z => nomatch z)
theorem opd_is {K : PySem.W.Frag} {W : WX} : OpD K W rIsAll dIs := by
  intro σ H0 H x y d e Q s hx hy p
  unfold dIs dIsB at p
  split at p
  · cases hy
    refine .inl ⟨rfl, ?_⟩
    rw [hx.isNon]
    exact p.v s (.bl _)
  · cases hx
    cases hy
    exact .inr ⟨_, _, rfl, rfl, p.v s (.bl _)⟩
  · exact p.elim
theorem opd_not {K : PySem.W.Frag} {W : WX} : OpD K W rNotAll dNot := by
  intro σ H0 H x y d e Q s hx hy p
  unfold dNot dIsB at p
  split at p
  · cases hy
    refine .inl ⟨rfl, ?_⟩
    rw [hx.isNon]
    exact p.v s (.bl _)
  · cases hx
    cases hy
    exact .inr ⟨_, _, rfl, rfl, p.v s (.bl _)⟩
  · exact p.elim
/-! ### in, not in: a scalar in a list or tuple of scalars; a sign in a text -/
def dInB : D → D → R Bool
  | .str x, .str z => match x.cps.toList with
    | [c] => .ok (decide (c ∈ z.cps.toList))
    | _ => .no
  | d, e => match d.sv, e.seq with
    | some u, some es => (match svs es with
      | some us => .ok (inV u us)
      | none => .no)
    | _, _ => (match e with
      | .tup es => if d.good 20 = true ∧ (D.tup es).good 20 = true then .ok ((D.toPys es).any fun z => PyData.eqv z d.toPy) else .no
      | .lst es => if d.good 20 = true ∧ (D.lst es).good 20 = true then .ok ((D.toPys es).any fun z => PyData.eqv z d.toPy) else .no
      | _ => .no)
def dIn (d e : D) : R D := rmap D.bl (dInB d e)
def dNin (d e : D) : R D := rmap (fun b => D.bl (!b)) (dInB d e)
abbrev rInSg : R2 := fun x y H Q => ∃ (c : Nat) (z : Str), x = .str ⟨#[c]⟩ ∧ y = .str z ∧ Q (.bl (decide (c ∈ z.cps.toList))) H
abbrev rNinSg : R2 := fun x y H Q => ∃ (c : Nat) (z : Str), x = .str ⟨#[c]⟩ ∧ y = .str z ∧ Q (.bl (!decide (c ∈ z.cps.toList))) H
/-- in a tuple of data -/
def rInT (K : PySem.W.Frag) (g : Bool → Bool) : R2 := fun x y H Q => ∃ d ds, Dp K H x d ∧ Dp K H y (.tuple ds) ∧ SeqAt.shaped d = true ∧ SeqAt.shaped (.tuple ds) = true ∧ Q (.bl (g (ds.any fun z => PyData.eqv z d))) H
theorem op_inT {X : Cx} (hu : X.A.units + 65 < cLine) : OpR X (compareOp .In) (rInT X.K fun b => b) := by
  rintro pins s σ H x y v u Q I rx ry ⟨d, ds, hd, he, sd, se, q⟩
  obtain ⟨as, r1⟩ := Dp.reads I d x v hd rx
  obtain ⟨bs, r2⟩ := Dp.reads I (.tuple ds) y u he ry
  exact SeqAt.in_tuple_reads r2 r1 (SeqAt.canLay_of_shaped se) (SeqAt.canLay_of_shaped sd) (room_in_shaped sd hu) ⟨.bl _, H, I, rfl, q⟩
theorem op_ninT {X : Cx} (hu : X.A.units + 65 < cLine) : OpR X (compareOp .NotIn) (rInT X.K fun b => !b) := by
  rintro pins s σ H x y v u Q I rx ry ⟨d, ds, hd, he, sd, se, q⟩
  obtain ⟨as, r1⟩ := Dp.reads I d x v hd rx
  obtain ⟨bs, r2⟩ := Dp.reads I (.tuple ds) y u he ry
  exact SeqAt.notIn_tuple_reads r2 r1 (SeqAt.canLay_of_shaped se) (SeqAt.canLay_of_shaped sd) (room_in_shaped sd hu) ⟨.bl _, H, I, rfl, q⟩
/-- in a list of data -/
def rInD (K : PySem.W.Frag) (g : Bool → Bool) : R2 := fun x y H Q => ∃ d ds, Dp K H x d ∧ Dp K H y (.list ds) ∧ SeqAt.shaped d = true ∧ SeqAt.shaped (.list ds) = true ∧ Q (.bl (g (ds.any fun z => PyData.eqv z d))) H
theorem op_inD {X : Cx} (hu : X.A.units + 65 < cLine) : OpR X (compareOp .In) (rInD X.K fun b => b) := by
  rintro pins s σ H x y v u Q I rx ry ⟨d, ds, hd, he, sd, se, q⟩
  obtain ⟨as, r1⟩ := Dp.reads I d x v hd rx
  obtain ⟨bs, r2⟩ := Dp.reads I (.list ds) y u he ry
  exact SeqAt.in_list_reads r2 r1 (SeqAt.canLay_of_shaped se) (SeqAt.canLay_of_shaped sd) (room_in_shaped sd hu) ⟨.bl _, H, I, rfl, q⟩
theorem op_ninD {X : Cx} (hu : X.A.units + 65 < cLine) : OpR X (compareOp .NotIn) (rInD X.K fun b => !b) := by
  rintro pins s σ H x y v u Q I rx ry ⟨d, ds, hd, he, sd, se, q⟩
  obtain ⟨as, r1⟩ := Dp.reads I d x v hd rx
  obtain ⟨bs, r2⟩ := Dp.reads I (.list ds) y u he ry
  exact SeqAt.notIn_list_reads r2 r1 (SeqAt.canLay_of_shaped se) (SeqAt.canLay_of_shaped sd) (room_in_shaped sd hu) ⟨.bl _, H, I, rfl, q⟩
def rInAll (K : PySem.W.Frag) : R2 := fun x y H Q => ((rInSg x y H Q ∨ rIn K false x y H Q) ∨ rInT K (fun b => b) x y H Q) ∨ rInD K (fun b => b) x y H Q
def rNinAll (K : PySem.W.Frag) : R2 := fun x y H Q => ((rNinSg x y H Q ∨ rIn K true x y H Q) ∨ rInT K (fun b => !b) x y H Q) ∨ rInD K (fun b => !b) x y H Q
theorem op_inAll {X : Cx} (hu : X.A.units + 65 < cLine) : OpR X (compareOp .In) (rInAll X.K) := OpR.or (OpR.or (OpR.or op_in_sign op_in_seq) (op_inT hu)) (op_inD hu)
theorem op_ninAll {X : Cx} (hu : X.A.units + 65 < cLine) : OpR X (compareOp .NotIn) (rNinAll X.K) := OpR.or (OpR.or (OpR.or op_notIn_sign op_notIn_seq) (op_ninT hu)) (op_ninD hu)
theorem toPy_lst (es : List D) : (D.lst es).toPy = .list (D.toPys es) := by rw [D.toPy]
theorem toPy_tup (es : List D) : (D.tup es).toPy = .tuple (D.toPys es) := by rw [D.toPy]
theorem str_one {x : Str} {c : Nat} (h : x.cps.toList = [c]) : x = ⟨#[c]⟩ := by
  obtain ⟨a⟩ := x
  congr 1
  exact Array.ext' h
theorem opd_in {K : PySem.W.Frag} {W : WX} : OpD K W (rInAll K) dIn := by
  intro σ H0 H x y d e Q s hx hy p
  unfold dIn dInB at p
  split at p
  · split at p
    · rename_i c hc
      cases hx
      cases hy
      rw [str_one hc]
      exact .inl (.inl (.inl ⟨_, _, rfl, rfl, p.v s (.bl _)⟩))
    · exact p.elim
  · split at p
    · rename_i u es e1 e2
      split at p
      · rename_i us e3
        obtain ⟨a, xs, rfl, q, r⟩ := hy.seqK e2
        have ex := hx.sv e1
        have ey := r.svs e3
        subst ex ey
        refine .inl (.inl (.inr ⟨a, xs, rfl, ?_, sv_flat e1, svs_flat e3, p.v s (.bl _)⟩))
        rcases q with q | q
        · exact .inl (s.seq q)
        · exact .inr (sqT_mono s q)
      · exact p.elim
    · split at p
      · split at p
        · rename_i c
          obtain ⟨a1, a2⟩ := good_shaped c.1 (hx.mono s)
          obtain ⟨b1, b2⟩ := good_shaped c.2 (hy.mono s)
          rw [toPy_tup] at b1 b2
          exact .inl (.inr ⟨_, _, a1, b1, a2, b2, p.v s (.bl _)⟩)
        · exact p.elim
      · split at p
        · rename_i c
          obtain ⟨a1, a2⟩ := good_shaped c.1 (hx.mono s)
          obtain ⟨b1, b2⟩ := good_shaped c.2 (hy.mono s)
          rw [toPy_lst] at b1 b2
          exact .inr ⟨_, _, a1, b1, a2, b2, p.v s (.bl _)⟩
        · exact p.elim
      · exact p.elim
theorem opd_nin {K : PySem.W.Frag} {W : WX} : OpD K W (rNinAll K) dNin := by
  intro σ H0 H x y d e Q s hx hy p
  unfold dNin dInB at p
  split at p
  · split at p
    · rename_i c hc
      cases hx
      cases hy
      rw [str_one hc]
      exact .inl (.inl (.inl ⟨_, _, rfl, rfl, p.v s (.bl _)⟩))
    · exact p.elim
  · split at p
    · rename_i u es e1 e2
      split at p
      · rename_i us e3
        obtain ⟨a, xs, rfl, q, r⟩ := hy.seqK e2
        have ex := hx.sv e1
        have ey := r.svs e3
        subst ex ey
        refine .inl (.inl (.inr ⟨a, xs, rfl, ?_, sv_flat e1, svs_flat e3, p.v s (.bl _)⟩))
        rcases q with q | q
        · exact .inl (s.seq q)
        · exact .inr (sqT_mono s q)
      · exact p.elim
    · split at p
      · split at p
        · rename_i c
          obtain ⟨a1, a2⟩ := good_shaped c.1 (hx.mono s)
          obtain ⟨b1, b2⟩ := good_shaped c.2 (hy.mono s)
          rw [toPy_tup] at b1 b2
          exact .inl (.inr ⟨_, _, a1, b1, a2, b2, p.v s (.bl _)⟩)
        · exact p.elim
      · split at p
        · rename_i c
          obtain ⟨a1, a2⟩ := good_shaped c.1 (hx.mono s)
          obtain ⟨b1, b2⟩ := good_shaped c.2 (hy.mono s)
          rw [toPy_lst] at b1 b2
          exact .inr ⟨_, _, a1, b1, a2, b2, p.v s (.bl _)⟩
        · exact p.elim
      · exact p.elim
/-! ### an item, a slice -/
def atD (ds : List D) (i : Int) : R D := match ixN ds.length i with
  | some j => (match ds[j]? with
    | some d => .ok d
    | none => .no)
  | none => .no
def D.key : D → Option Key
  | .int i => some (.inl i)
  | .str x => some (.inr x)
  | _ => none
theorem Dr.key {K : PySem.W.Frag} {H : Hp} {v : V} {d : D} {k : Key} (h : Dr K H v d) (e : d.key = some k) : v = kV k := by
  cases h <;> first | (cases e; rfl) | cases e
def dGetK : List Key → List D → Key → Option D
  | a :: ks, d :: ds, k => if a = k then some d else dGetK ks ds k
  | _, _, _ => none
theorem dGetK_ok {K : PySem.W.Frag} {H : Hp} : ∀ {kvs : List (Key × V)} {ds : List D} {k : Key} {d : D}, DrAll K H (kvs.map (·.2)) ds → dGetK (kvs.map (·.1)) ds k = some d → ∃ v, valV kvs k = some v ∧ Dr K H v d
  | [], _, _, _, h, e => by cases h; cases e
  | (a, v) :: r, _, k, d, h, e => by
    cases h with
    | @cons _ _ d0 ds q t =>
      have e' : (if a = k then some d0 else dGetK (r.map (·.1)) ds k) = some d := e
      by_cases c : a = k
      · rw [if_pos c] at e'
        cases e'
        exact ⟨v, valV_pos (p := (a, v)) c, q⟩
      · rw [if_neg c] at e'
        obtain ⟨u, hu, du⟩ := dGetK_ok t e'
        exact ⟨u, (valV_neg (p := (a, v)) c).trans hu, du⟩
def rDk : R2 := fun x y H Q => ∃ a v, x = .ref a ∧ DGet H a y (some v) ∧ Q v H
def rIxA (K : PySem.W.Frag) : R2 := fun x y H Q => rIx K x y H Q ∨ rDk x y H Q
theorem ix_dk {X : Cx} (hu : X.A.units + 1 < cLine) : IxR X rDk := by
  intro value slice pins s σ H x y v u Q I rx ry h hs
  obtain ⟨a, z, ex, g, q⟩ := h
  subst ex
  cases (show v = Value.ref a from rx)
  exact tail_any (dict_typeIs I g) slot_dict_getitem.lookup (d_getItem hu I g ry fun w' s' I' rw' => ⟨z, H, I', rw', q⟩) hs
def dIx : D → D → R D
  | .dct ks ds, e => (match e.key with
    | some k => (match dGetK ks ds k with
      | some d => .ok d
      | none => .no)
    | none => .no)
  | .str z, .int i => if z.length ≤ sizeLine then (match atI z.cps.toList i with
    | some c => .ok (.str ⟨#[c]⟩)
    | none => .no) else .no
  | d, .int i => (match d.seq with
    | some ds => atD ds i
    | none => .no)
  | _, _ => .no
theorem atD_ok {K : PySem.W.Frag} {H : Hp} {vs : List V} {ds : List D} {i : Int} {d : D} (r : DrAll K H vs ds) (h : atD ds i = .ok d) : ∃ v, atI vs i = some v ∧ Dr K H v d := by
  unfold atD at h
  split at h
  · rename_i j hj
    split at h
    · rename_i d' hd
      cases h
      obtain ⟨v, hv, q⟩ := r.get hd
      refine ⟨v, ?_, q⟩
      unfold atI
      rw [r.length, hj]
      exact hv
    · cases h
  · cases h
theorem atD_ex {ds : List D} {i : Int} : (∃ d, atD ds i = .ok d) ∨ atD ds i = .no := by
  unfold atD
  split
  · split
    · exact .inl ⟨_, rfl⟩
    · exact .inr rfl
  · exact .inr rfl
theorem opd_ix {K : PySem.W.Frag} {W : WX} : OpD K W (rIxA K) dIx := by
  intro σ H0 H x y d e Q s hx hy p
  unfold dIx at p
  split at p
  · split at p
    · rename_i k ek
      split at p
      · rename_i d' ed
        cases hx with
        | dct q r =>
          obtain ⟨u, hu, du⟩ := dGetK_ok r ed
          have ey := hy.key ek
          subst ey
          refine .inr ⟨_, u, rfl, ?_, p.v s du⟩
          rw [← hu]
          exact DGet.k (s _ _ q)
      · exact p.elim
    · exact p.elim
  · split at p
    · split at p
      · cases hx
        cases hy
        exact .inl (.inr (.inr ⟨_, _, _, rfl, rfl, by assumption, by assumption, p.v s (.str _)⟩))
      · exact p.elim
    · exact p.elim
  · split at p
    · rename_i i _ _ _ ds e1
      cases hy
      obtain ⟨a, xs, rfl, q, r⟩ := hx.seqK e1
      rcases atD_ex (ds := ds) (i := i) with ⟨f, hf⟩ | hf
      · rw [hf] at p
        obtain ⟨v, hv, h2⟩ := atD_ok r hf
        rcases q with q | q
        · exact .inl (.inl ⟨a, xs, i, v, rfl, rfl, s.seq q, hv, p.v s h2⟩)
        · exact .inl (.inr (.inl ⟨a, xs, i, v, rfl, rfl, sqT_mono s q, hv, p.v s h2⟩))
      · rw [hf] at p
        exact p.elim
    · exact p.elim
  · exact p.elim
def cutD (ds : List D) (lo hi : Option Int) : List D := (ds.drop (HT.sIx ds.length 0 lo)).take (HT.sIx ds.length ds.length hi - HT.sIx ds.length 0 lo)
theorem cutD_ok {K : PySem.W.Frag} {H : Hp} {vs : List V} {ds : List D} {lo hi : Option Int} (r : DrAll K H vs ds) : DrAll K H (cutV vs lo hi) (cutD ds lo hi) := by
  unfold cutV cutD
  rw [r.length]
  exact (r.drop _).take _
def dSl (lo hi : Option Int) : D → R D
  | .str z => if z.length ≤ sizeLine then .ok (.str (cutS z lo hi)) else .no
  | .tup ds => .ok (.tup (cutD ds lo hi))
  | _ => .no
def dSlN (lo hi : Option Int) : D → R (List D)
  | .lst ds => .ok (cutD ds lo hi)
  | .kst ds => .ok (cutD ds lo hi)
  | _ => .no
def rSlAll (K : PySem.W.Frag) : V → Option Int → Option Int → Hp → VK → Prop := fun x lo hi H Q => rSlS x lo hi H Q ∨ rSlA K x lo hi H Q ∨ rSlL K x lo hi H Q
theorem sl_all {X : Cx} : SlR X (rSlAll X.K) := SlR.or sl_str (SlR.or sl_tupA sl_list)
theorem sld {K : PySem.W.Frag} {W : WX} {lo hi : Option Int} : UnD K W (fun x H Q => rSlAll K x lo hi H Q) (dSl lo hi) := by
  intro σ H0 H x d Q s hx p
  unfold dSl at p
  split at p
  · split at p
    · cases hx
      exact .inl ⟨_, rfl, by assumption, p.v s (.str _)⟩
    · exact p.elim
  · rename_i ds
    obtain ⟨a, xs, rfl, q, r⟩ := hx.tupK
    refine .inr (.inl ⟨a, xs, rfl, sqT_mono s q, fun z => ?_, fun _ n hn => ?_⟩)
    · have e : cutD ds lo hi = ds := by
        unfold cutD
        rw [← r.length, z.1, z.2, List.drop_zero, Nat.sub_zero, r.length, List.take_length]
      rw [e] at p
      exact p.v s (.tup q r)
    · exact p.newT s (cutD_ok r) hn
  · exact p.elim
theorem sldN {K : PySem.W.Frag} {W : WX} {lo hi : Option Int} : ∀ σ H0 H x d Q, Same H0 H → Dr K H0 x d → Post K W σ H0 H (SW K) (dSlN lo hi d) Q → rSlAll K x lo hi H Q := by
  intro σ H0 H x d Q s hx p
  unfold dSlN at p
  split at p
  · obtain ⟨a, xs, rfl, q, r⟩ := hx.lstK
    exact .inr (.inr ⟨a, xs, rfl, s.seq (.inl q), fun n hn => p.newO s (cutD_ok r) hn⟩)
  · obtain ⟨a, xs, rfl, q, r⟩ := hx.kstK
    exact .inr (.inr ⟨a, xs, rfl, s.seq q, fun n hn => p.newO s (cutD_ok r) hn⟩)
  · exact p.elim
/-! ### displays -/
def dTup (ds : List D) : R D := if ds.length ≤ sizeLine then .ok (.tup ds) else .no
def dLst (ds : List D) : R (List D) := if ds.length ≤ sizeLine then .ok ds else .no
theorem ev_tup {K : PySem.W.Frag} {W : WX} {t : TA} {c : CA} (h : Ev K W (SA K) t c) : Ev K W (SV K) (tTup t) (cApp dTup c) := ev_appG downV h fun σ H0 H x d Q s q p => by
  unfold dTup at p
  split at p
  · exact ⟨by rw [q.length]; assumption, fun n hn => p.newT s q hn⟩
  · exact p.elim
theorem ev_lst {K : PySem.W.Frag} {W : WX} {t : TA} {c : CA} (h : Ev K W (SA K) t c) : Ev K W (SW K) (tLst t) (cApp dLst c) := ev_appG downW h fun σ H0 H x d Q s q p => by
  unfold dLst at p
  split at p
  · exact ⟨by rw [q.length]; assumption, fun n hn => p.newO s q hn⟩
  · exact p.elim
end Dw
namespace Dw
open PySem L2 PyProof.Rows
/-! ### built-ins -/
def intsD : List D → Option (List Int)
  | [] => some []
  | .int i :: ds => (match intsD ds with
    | some is => some (i :: is)
    | none => none)
  | _ :: _ => none
def boolsD : List D → Option (List Bool)
  | [] => some []
  | .bl i :: ds => (match boolsD ds with
    | some is => some (i :: is)
    | none => none)
  | _ :: _ => none
theorem intsD_ok {K : PySem.W.Frag} {H : Hp} : ∀ {ds : List D} {vs : List V} {is : List Int}, intsD ds = some is → DrAll K H vs ds → vs = is.map V.int
  | [], _, _, e, h => by
    cases h
    unfold intsD at e
    rw [← Option.some.inj e]
    rfl
  | d :: ds, _, is, e, h => by
    cases h with
    | cons a r =>
      unfold intsD at e
      split at e
      · rename_i he
        cases he
      · rename_i i ds' he
        cases he
        split at e
        · rename_i js e2
          cases a
          rw [← Option.some.inj e, intsD_ok e2 r]
          rfl
        · cases e
      · cases e
theorem boolsD_ok {K : PySem.W.Frag} {H : Hp} : ∀ {ds : List D} {vs : List V} {is : List Bool}, boolsD ds = some is → DrAll K H vs ds → vs = is.map V.bl
  | [], _, _, e, h => by
    cases h
    unfold boolsD at e
    rw [← Option.some.inj e]
    rfl
  | d :: ds, _, is, e, h => by
    cases h with
    | cons a r =>
      unfold boolsD at e
      split at e
      · rename_i he
        cases he
      · rename_i i ds' he
        cases he
        split at e
        · rename_i js e2
          cases a
          rw [← Option.some.inj e, boolsD_ok e2 r]
          rfl
        · cases e
      · cases e
theorem DrAll.one {K : PySem.W.Frag} {H : Hp} {vs : List V} {d : D} (h : DrAll K H vs [d]) : ∃ v, vs = [v] ∧ Dr K H v d := by
  cases h with
  | cons a r => cases r; exact ⟨_, rfl, a⟩
theorem DrAll.two {K : PySem.W.Frag} {H : Hp} {vs : List V} {d e : D} (h : DrAll K H vs [d, e]) : ∃ v w, vs = [v, w] ∧ Dr K H v d ∧ Dr K H w e := by
  cases h with
  | cons a r =>
    obtain ⟨w, rfl, b⟩ := r.one
    exact ⟨_, _, rfl, a, b⟩
def dLen : List D → R D
  | [.str z] => if z.length ≤ sizeLine then .ok (.int z.length) else .no
  | [d] => (match d.seq with
    | some ds => .ok (.int ds.length)
    | none => .no)
  | _ => .no
abbrev rLenA (K : PySem.W.Frag) : List V → Hp → VK → Prop := fun xs H Q => ∃ x n, xs = [x] ∧ LenV K x H n ∧ Q (.int n) H
theorem cd_len {K : PySem.W.Frag} {W : WX} : CallD K W (rLenA K) dLen := by
  intro σ H0 H xs ds Q s h p
  unfold dLen at p
  split at p
  · split at p
    · obtain ⟨v, rfl, a⟩ := h.one
      cases a
      exact ⟨_, _, rfl, ⟨by assumption, rfl⟩, p.v s (.int _)⟩
    · exact p.elim
  · split at p
    · rename_i es e1
      obtain ⟨v, rfl, hv⟩ := h.one
      obtain ⟨a, xs, rfl, q, r⟩ := hv.seqK e1
      refine ⟨_, xs.length, rfl, ?_, by rw [r.length]; exact p.v s (.int _)⟩
      rcases q with q | q
      · exact .inl ⟨xs, s.seq q, rfl⟩
      · exact .inr ⟨xs, sqT_mono s q, rfl⟩
    · exact p.elim
  · exact p.elim
def dAbs : List D → R D
  | [.int i] => .ok (.int (if i < 0 then -i else i))
  | _ => .no
theorem cd_abs {K : PySem.W.Frag} {W : WX} : CallD K W (fun xs H Q => ∃ i, xs = [.int i] ∧ Q (.int (if i < 0 then -i else i)) H) dAbs := by
  intro σ H0 H xs ds Q s h p
  unfold dAbs at p
  split at p
  · obtain ⟨v, rfl, a⟩ := h.one
    cases a
    exact ⟨_, rfl, p.v s (.int _)⟩
  · exact p.elim
/-! max and min: of two intsD, of one list of intsD -/
def imax (a : Int) (l : List Int) : Int := l.foldl (fun m x => if m < x then x else m) a
def imin (a : Int) (l : List Int) : Int := l.foldl (fun m x => if x < m then x else m) a
theorem imax_spec : ∀ (l : List Int) (a : Int), (imax a l ∈ a :: l) ∧ ∀ y ∈ a :: l, y ≤ imax a l
  | [], a => ⟨List.mem_cons_self, fun y h => by
    have e : y = a := by simpa using h
    rw [e]
    exact Int.le_refl _⟩
  | b :: l, a => by
    have e : imax a (b :: l) = imax (if a < b then b else a) l := rfl
    rw [e]
    by_cases hab : a < b
    · rw [if_pos hab]
      obtain ⟨m, u⟩ := imax_spec l b
      refine ⟨List.mem_cons_of_mem _ m, fun y h => ?_⟩
      rcases List.mem_cons.mp h with z | z
      · have u0 := u b List.mem_cons_self
        omega
      · exact u y z
    · rw [if_neg hab]
      obtain ⟨m, u⟩ := imax_spec l a
      refine ⟨?_, fun y h => ?_⟩
      · rcases List.mem_cons.mp m with z | z
        · rw [z]
          exact List.mem_cons_self
        · exact List.mem_cons_of_mem _ (List.mem_cons_of_mem _ z)
      · have u0 := u a List.mem_cons_self
        rcases List.mem_cons.mp h with z | z
        · omega
        · rcases List.mem_cons.mp z with z | z
          · omega
          · exact u y (List.mem_cons_of_mem _ z)
theorem imin_spec : ∀ (l : List Int) (a : Int), (imin a l ∈ a :: l) ∧ ∀ y ∈ a :: l, imin a l ≤ y
  | [], a => ⟨List.mem_cons_self, fun y h => by
    have e : y = a := by simpa using h
    rw [e]
    exact Int.le_refl _⟩
  | b :: l, a => by
    have e : imin a (b :: l) = imin (if b < a then b else a) l := rfl
    rw [e]
    by_cases hab : b < a
    · rw [if_pos hab]
      obtain ⟨m, u⟩ := imin_spec l b
      refine ⟨List.mem_cons_of_mem _ m, fun y h => ?_⟩
      rcases List.mem_cons.mp h with z | z
      · have u0 := u b List.mem_cons_self
        omega
      · exact u y z
    · rw [if_neg hab]
      obtain ⟨m, u⟩ := imin_spec l a
      refine ⟨?_, fun y h => ?_⟩
      · rcases List.mem_cons.mp m with z | z
        · rw [z]
          exact List.mem_cons_self
        · exact List.mem_cons_of_mem _ (List.mem_cons_of_mem _ z)
      · have u0 := u a List.mem_cons_self
        rcases List.mem_cons.mp h with z | z
        · omega
        · rcases List.mem_cons.mp z with z | z
          · omega
          · exact u y (List.mem_cons_of_mem _ z)
def dMax : List D → R D
  | [.int i, .int j] => .ok (.int (if j > i then j else i))
  | [.lst ds] => (match intsD ds with
    | some (i :: is) => .ok (.int (imax i is))
    | _ => .no)
  | _ => .no
def dMin : List D → R D
  | [.int i, .int j] => .ok (.int (if j < i then j else i))
  | [.lst ds] => (match intsD ds with
    | some (i :: is) => .ok (.int (imin i is))
    | _ => .no)
  | _ => .no
abbrev rMax2 : List V → Hp → VK → Prop := fun xs H Q => ∃ i j, xs = [.int i, .int j] ∧ Q (.int (if j > i then j else i)) H
abbrev rMin2 : List V → Hp → VK → Prop := fun xs H Q => ∃ i j, xs = [.int i, .int j] ∧ Q (.int (if j < i then j else i)) H
theorem cd_max {K : PySem.W.Frag} {W : WX} : CallD K W (fun xs H Q => rMax2 xs H Q ∨ rMax K xs H Q) dMax := by
  intro σ H0 H xs ds Q s h p
  unfold dMax at p
  split at p
  · obtain ⟨v, w, rfl, a, b⟩ := h.two
    cases a
    cases b
    exact .inl ⟨_, _, rfl, p.v s (.int _)⟩
  · split at p
    · rename_i i is e
      obtain ⟨v, rfl, hv⟩ := h.one
      obtain ⟨a, ws, rfl, q, r⟩ := hv.lstK
      have ew := intsD_ok e r
      subst ew
      refine .inr ⟨a, i :: is, rfl, s.seq (.inl q), Nat.succ_pos _, fun m hm hu => ?_⟩
      obtain ⟨m2, u2⟩ := imax_spec is i
      have em : m = imax i is := Int.le_antisymm (u2 m hm) (hu _ m2)
      rw [em]
      exact p.v s (.int _)
    · exact p.elim
  · exact p.elim
theorem cd_min {K : PySem.W.Frag} {W : WX} : CallD K W (fun xs H Q => rMin2 xs H Q ∨ rMin K xs H Q) dMin := by
  intro σ H0 H xs ds Q s h p
  unfold dMin at p
  split at p
  · obtain ⟨v, w, rfl, a, b⟩ := h.two
    cases a
    cases b
    exact .inl ⟨_, _, rfl, p.v s (.int _)⟩
  · split at p
    · rename_i i is e
      obtain ⟨v, rfl, hv⟩ := h.one
      obtain ⟨a, ws, rfl, q, r⟩ := hv.lstK
      have ew := intsD_ok e r
      subst ew
      refine .inr ⟨a, i :: is, rfl, s.seq (.inl q), Nat.succ_pos _, fun m hm hu => ?_⟩
      obtain ⟨m2, u2⟩ := imin_spec is i
      have em : m = imin i is := Int.le_antisymm (hu _ m2) (u2 m hm)
      rw [em]
      exact p.v s (.int _)
    · exact p.elim
  · exact p.elim
def dSum : List D → R D
  | [.lst ds] => (match intsD ds with
    | some is => .ok (.int is.sum)
    | _ => .no)
  | _ => .no
theorem cd_sum {K : PySem.W.Frag} {W : WX} : CallD K W (rSum K) dSum := by
  intro σ H0 H xs ds Q s h p
  unfold dSum at p
  split at p
  · split at p
    · rename_i is e
      obtain ⟨v, rfl, hv⟩ := h.one
      obtain ⟨a, ws, rfl, q, r⟩ := hv.lstK
      have ew := intsD_ok e r
      subst ew
      exact ⟨a, is, rfl, s.seq (.inl q), p.v s (.int _)⟩
    · exact p.elim
  · exact p.elim
def dAllOf (f : List Bool → Bool) : List D → R D
  | [.lst ds] => (match boolsD ds with
    | some is => .ok (.bl (f is))
    | _ => .no)
  | _ => .no
def dAll : List D → R D := dAllOf fun bs => bs.all id
def dAny : List D → R D := dAllOf fun bs => bs.any id
theorem cd_allOf {K : PySem.W.Frag} {W : WX} {f : List Bool → Bool} : CallD K W (fun vs H Q => ∃ (a : Addr) (bs : List Bool), vs = [V.ref a] ∧ SqL K H a (bs.map V.bl) ∧ Q (.bl (f bs)) H) (dAllOf f) := by
  intro σ H0 H xs ds Q s h p
  unfold dAllOf at p
  split at p
  · split at p
    · rename_i is e
      obtain ⟨v, rfl, hv⟩ := h.one
      obtain ⟨a, ws, rfl, q, r⟩ := hv.lstK
      have ew := boolsD_ok e r
      subst ew
      exact ⟨a, is, rfl, s.seq (.inl q), p.v s (.bl _)⟩
    · exact p.elim
  · exact p.elim
def dInt1 : List D → R D
  | [.int i] => .ok (.int i)
  | [.bl b] => .ok (.int (if b then 1 else 0))
  | [.str x] => if x.length ≤ 640 then (match PySem.intText? x with
    | some n => .ok (.int n)
    | none => .no) else .no
  | _ => .no
abbrev rInt1 : List V → Hp → VK → Prop := fun xs H Q => (∃ i, xs = [.int i] ∧ Q (.int i) H) ∨ ∃ k, xs = [.bl k] ∧ Q (.int (if k then 1 else 0)) H
abbrev rIntS : List V → Hp → VK → Prop := fun xs H Q => ∃ a n, xs = [.str a] ∧ PySem.intText? a = some n ∧ a.length ≤ 640 ∧ Q (.int n) H
theorem cd_int {K : PySem.W.Frag} {W : WX} : CallD K W (fun xs H Q => rInt1 xs H Q ∨ rIntS xs H Q) dInt1 := by
  intro σ H0 H xs ds Q s h p
  unfold dInt1 at p
  split at p
  · obtain ⟨v, rfl, a⟩ := h.one
    cases a
    exact .inl (.inl ⟨_, rfl, p.v s (.int _)⟩)
  · obtain ⟨v, rfl, a⟩ := h.one
    cases a
    exact .inl (.inr ⟨_, rfl, p.v s (.int _)⟩)
  · split at p
    · split at p
      · obtain ⟨v, rfl, a⟩ := h.one
        cases a
        exact .inr ⟨_, _, rfl, by assumption, by assumption, p.v s (.int _)⟩
      · exact p.elim
    · exact p.elim
  · exact p.elim
def dStr1 : List D → R D
  | [.int i] => if i.natAbs.log2 < 1920 then .ok (.str (toString i)) else .no
  | _ => .no
theorem cd_str {K : PySem.W.Frag} {W : WX} : CallD K W (fun xs H Q => ∃ i, xs = [.int i] ∧ i.natAbs.log2 < 1920 ∧ Q (.str (toString i)) H) dStr1 := by
  intro σ H0 H xs ds Q s h p
  unfold dStr1 at p
  split at p
  · split at p
    · obtain ⟨v, rfl, a⟩ := h.one
      cases a
      exact ⟨_, rfl, by assumption, p.v s (.str _)⟩
    · exact p.elim
  · exact p.elim
def dListOf : List D → R (List D)
  | [d] => (match d.seq with
    | some ds => .ok ds
    | none => .no)
  | _ => .no
theorem cn_list {K : PySem.W.Frag} {W : WX} : CallN K W (fun xs H Q => ∃ p ys, xs = [.ref p] ∧ (SqL K H p ys ∨ SqT K H p ys) ∧ ∀ l, H l = none → Q (.ref l) (upd H l (.lst ys))) dListOf := by
  intro σ H0 H xs ds Q s h p
  unfold dListOf at p
  split at p
  · split at p
    · rename_i es e
      obtain ⟨v, rfl, hv⟩ := h.one
      obtain ⟨a, ws, rfl, q, r⟩ := hv.seqK e
      refine ⟨a, ws, rfl, ?_, fun n hn => p.newO s r hn⟩
      rcases q with q | q
      · exact .inl (s.seq q)
      · exact .inr (sqT_mono s q)
    · exact p.elim
  · exact p.elim
def dTupOf : List D → R D
  | [d] => (match d.seq with
    | some ds => .ok (.tup ds)
    | none => .no)
  | _ => .no
theorem cd_tuple {K : PySem.W.Frag} {W : WX} : CallD K W (fun xs H Q => ∃ p ys, xs = [.ref p] ∧ ((SqL K H p ys ∧ ∀ l, H l = none → Q (.ref l) (upd H l (.tup ys))) ∨ (SqT K H p ys ∧ Q (.ref p) H))) dTupOf := by
  intro σ H0 H xs ds Q s h p
  unfold dTupOf at p
  split at p
  · split at p
    · rename_i es e
      obtain ⟨v, rfl, hv⟩ := h.one
      obtain ⟨a, ws, rfl, q, r⟩ := hv.seqK e
      refine ⟨a, ws, rfl, ?_⟩
      rcases q with q | q
      · exact .inl ⟨s.seq q, fun n hn => p.newT s r hn⟩
      · exact .inr ⟨sqT_mono s q, p.v s (.tup q r)⟩
    · exact p.elim
  · exact p.elim
/-! ### isinstance -/
inductive Ty where
  | bool | int | str | tuple | list | dict
def Ty.s : Ty → String
  | .bool => "bool" | .int => "int" | .str => "str" | .tuple => "tuple" | .list => "list" | .dict => "dict"
def isBt : Ty → D → Option Bool
  | .bool, .bl _ => some true
  | .int, .bl _ => some true
  | .int, .int _ => some true
  | .str, .str _ => some true
  | .tuple, .tup _ => some true
  | .list, .lst _ => some true
  | .list, .kst _ => some true
  | .dict, .dct _ _ => some true
  | _, .ty _ => none
  | _, .obj _ _ _ => none
  | _, .exc _ => none
  | _, _ => some false
/-- f tells isinstance(v, u) -/
def IsOf (K : PySem.W.Frag) (u : Value) (f : D → Option Bool) : Prop := ∀ H v d b, Dr K H v d → f d = some b →
  (∃ t, TyX K H v t ∧ PySem.W.kitOne K t u = some b) ∨ (∃ a E, v = .ref a ∧ H a = some (ExH E a) ∧ ExcC K E ∧ PySem.W.kitOne K (.ref E) u = some b)
theorem ty_of {K : PySem.W.Frag} {H : Hp} {v : V} {d : D} (h : Dr K H v d) : match d with
    | .non => TyX K H v (.type "NoneType")
    | .bl _ => TyX K H v (.type "bool")
    | .int _ => TyX K H v (.type "int")
    | .str _ => TyX K H v (.type "str")
    | .tup _ => TyX K H v (.type "tuple")
    | .lst _ => TyX K H v (.type "list")
    | .kst _ => TyX K H v (.type "list")
    | .dct _ _ => TyX K H v (.type "dict")
    | _ => True := by
  cases h with
  | non => exact .base .non
  | bl b => exact .base (.bl b)
  | int i => exact .base (.int i)
  | str x => exact .base (.str x)
  | ty n => trivial
  | tup q r =>
    rcases q with (q | ⟨o, q⟩) | ⟨o, _, _, e, c, _⟩
    · exact .base (.tup q)
    · exact .fTuple q
    · exact .kTuple e c
  | lst q r =>
    rcases q with q | ⟨o, q⟩
    · exact .base (.lst q)
    · exact .base (.frz q)
  | kst q r =>
    rcases q with (q | ⟨o, q⟩) | ⟨o, _, _, e, c, _⟩
    · exact .base (.lst q)
    · exact .base (.frz q)
    · exact .kList e c
  | dct q r => exact .base (.dK q)
  | obj q r => trivial
  | exc q => trivial
theorem isOf_bt {K : PySem.W.Frag} (t : Ty) : IsOf K (.type t.s) (isBt t) := by
  intro H v d b h e
  have z := ty_of h
  refine .inl ?_
  cases d with
  | ty n => cases t <;> cases e
  | obj a b c => cases t <;> cases e
  | exc a => cases t <;> cases e
  | non => cases t <;> (cases e; exact ⟨_, z, kit_ty (by decide +kernel)⟩)
  | bl x => cases t <;> (cases e; exact ⟨_, z, kit_ty (by decide +kernel)⟩)
  | int x => cases t <;> (cases e; exact ⟨_, z, kit_ty (by decide +kernel)⟩)
  | str x => cases t <;> (cases e; exact ⟨_, z, kit_ty (by decide +kernel)⟩)
  | tup x => cases t <;> (cases e; exact ⟨_, z, kit_ty (by decide +kernel)⟩)
  | lst x => cases t <;> (cases e; exact ⟨_, z, kit_ty (by decide +kernel)⟩)
  | kst x => cases t <;> (cases e; exact ⟨_, z, kit_ty (by decide +kernel)⟩)
  | dct x y => cases t <;> (cases e; exact ⟨_, z, kit_ty (by decide +kernel)⟩)
def rIsX (K : PySem.W.Frag) : List V → Hp → VK → Prop := fun xs H Q => ∃ (a E : Addr) (c : V) (u : Value) (b : Bool), xs = [.ref a, c] ∧ ClsV c u ∧ H a = some (ExH E a) ∧ ExcC K E ∧ PySem.W.kitOne K (.ref E) u = some b ∧ Q (.bl b) H
theorem call_isX {X : Cx} : CallR X (.builtin "isinstance") (rIsX X.K) := by
  intro pins s σ H xs us Q I r h
  obtain ⟨a, E, c, u, b, rfl, k, ha, C, e, q⟩ := h
  obtain ⟨u1, u2, rfl, r1, r2⟩ := vals2 r
  have e2 := k.eq r2
  subst e2
  cases r1
  obtain ⟨⟨oe, vs, g, hz, hf⟩, _, _⟩ := I.hok a _ ha
  have J : PySem.W.InstAt s.heap a oe E none := by
    obtain ⟨oc, od, oda, osl⟩ := oe
    obtain ⟨h1, h2⟩ := hz
    dsimp only at h1 h2 hf
    subst h1 h2 hf
    exact ⟨g, rfl, rfl, trivial⟩
  exact PySem.W.kia_one (PySem.W.handS_kitx_exc C.hg C.hk C.hs C.hd C.ha C.hn C.ht C.hm) I.kIn J e (fun z => nomatch z) fun tk => ⟨.bl b, H, I.kept (t' := tk) fun _ _ z => z, rfl, q⟩
def rIsAny (K : PySem.W.Frag) : List V → Hp → VK → Prop := fun xs H Q => rIsi K xs H Q ∨ rIsX K xs H Q
theorem call_isAny {X : Cx} : CallR X (.builtin "isinstance") (rIsAny X.K) := CallR.or call_isi call_isX
def dIsi (f : D → Option Bool) (d : D) : R D := match f d with
  | some b => .ok (.bl b)
  | none => .no
theorem ev_isi {K : PySem.W.Frag} {W : WX} {ta : TE} {ca : C} {f : D → Option Bool} {c : V} {u : Value} (hc : ClsV c u) (hf : IsOf K u f) (ha : Ev K W (SV K) ta ca) : Ev K W (SV K) (tCB (rIsAny K) (tCons ta (tCons (tC c) tNil))) (cUn (dIsi f) ca) :=
  ev_unG (r := fun x H Q => rIsAny K [x, c] H Q) downV ha fun σ H0 H x d Q s q p => by
    unfold dIsi at p
    split at p
    · rename_i b e
      rcases hf H x d b (q.mono s) e with ⟨t, ty, k⟩ | ⟨a, E, rfl, h1, h2, k⟩
      · exact .inl ⟨x, c, t, u, b, rfl, hc, ty, k, p.v s (.bl b)⟩
      · exact .inr ⟨a, E, c, u, b, rfl, hc, h1, h2, k, p.v s (.bl b)⟩
    · exact p.elim
end Dw
namespace Dw
open PySem L2 PyProof.Rows
/-! ### a def's promise where no repr is under way -/
structure FnG (P : Program) (w : World) (K : PySem.W.Frag) (mg : Str → Option Value) (base : Heap) (k : Nat) (f : Addr) (fd : FuncData) (ps : List Str) (sp : Sp) : Prop where
  arity : ∀ vs H Q E, sp vs H Q E → vs.length = ps.length
  go : ∀ (A : Around) (fr : List Env) (s : Shared) (H : Hp) (ar : Args) (us : List Value) (vs : List V) (Q : VK) (E : XK), Room k A ∧ A.guards = some [] → Env0 P w K mg base A fr s H → BindsTo s fd ar (ps.zip us) → Vals vs us → sp vs H Q E →
    codeAny (model P w) A (.call (.ref f) ar) (CR (L2.CX P w) fr P w H s Q E) s
theorem FnG.mono {P : Program} {w : World} {K : PySem.W.Frag} {mg : Str → Option Value} {base : Heap} {j k : Nat} {f : Addr} {fd : FuncData} {ps : List Str} {sp : Sp} (F : FnG P w K mg base j f fd ps sp) (h : j ≤ k) : FnG P w K mg base k f fd ps sp where
  arity := F.arity
  go := fun A fr s H ar us vs Q E hr => F.go A fr s H ar us vs Q E ⟨hr.1.mono h, hr.2⟩
section
variable {X : Cx} {k : Nat} {f : Addr} {fd : FuncData} {ps : List Str} {sp : Sp} {dvs : List V} {ds : List Value} {E : L2.St → XK} {x : Str} {p pos : Pos} {e : Expr} {es : List Expr} {t : TA}
theorem call_G {pins : List (Addr × Obj)} {σ : L2.St} {H : Hp} {s : Shared} {Q : VK} {us : List Value} {vs : List V} (F : FnG X.prog X.w X.K X.mg X.base k f fd ps sp) (hr : Room k X.A ∧ X.A.guards = some []) (hb : Binds X.K fd ps ds) (hd : Vals dvs ds)
    (hx : PassesAt (L2.CX X.prog X.w) X σ (E σ)) (I : Inv X pins σ H s) (r : Vals vs us) (h : sp (vs ++ dvs) H Q (E σ)) : wpAny (model X.prog X.w) X.A (call (.ref f) us) (EP X pins σ Q) X.xe s := by
  have all := r.append hd
  have num : (us ++ ds).length = ps.length := all.length.symm.trans (F.arity _ _ _ _ h)
  have c := F.go X.A X.stack s H ⟨us, []⟩ (us ++ ds) (vs ++ dvs) Q (E σ) hr I.env0 (hb s us I.kIn num) all h
  refine wpAny_call (codeAny_mono c ?_)
  rintro (e | fl) s2 hq
  · exact hx pins H s e s2 I hq
  · rcases fl with _ | _ | _ | u
    all_goals first | exact I.after hq | exact False.elim hq
theorem pe_callG (F : FnG X.prog X.w X.K X.mg X.base k f fd ps sp) (hr : Room k X.A ∧ X.A.guards = some []) (hg : Gl X x) (hm : X.mg x = some (.ref f)) (hk : PySem.W.keepIn X.K (.ref f) = true) (hb : Binds X.K fd ps ds) (hd : Vals dvs ds) (hx : ∀ σ, PassesAt (L2.CX X.prog X.w) X σ (E σ))
    (ha : PA X (e :: es) t) (hdb : (x == ("__debug__" : Str)) = false) (he : starEach (e :: es) X.env = (false, eval e X.env) :: starEach es X.env) (hpl : (backTo pos (starEach es X.env)).any (·.1) = false) :
    PE X (.Call (.Name x p) (e :: es) [] pos) (tCallSD sp dvs E t) := by
  constructor
  intro pins s σ H Q I h
  apply wpAny_Call_Name_kw
  refine ld_glob I hg hm ?_ hdb
  refine PySem.W.callWith_K (h₀ := X.base) I.ok.mod.kin hk ?_ he hpl
  refine thn (ha.run pos pins s σ H _ I h) ?_
  rintro us s1 ⟨vs, H1, I1, r, q⟩
  exact ⟨I1.kIn, call_G F hr hb hd (hx σ) I1 r q⟩
end
section
variable {P : Program} {w : World} {K : PySem.W.Frag} {mg : Str → Option Value} {base : Heap} {x qual : Str} {params : Arguments} {bd : List Stmt} {scope : Scope} {dvs : List V} {kws : List (Str × V)} {f : Addr} {fd : FuncData} {N ps : List Str} {k : Nat} {sp : Sp}
/-- a def keeps its promise by its body -/
theorem fnG_of (F : FunD K x qual params bd scope dvs kws f fd) (S : FnScope N ps scope) (ar : ∀ vs H Q E, sp vs H Q E → vs.length = ps.length)
    (hb : ∀ (cd : Value) (A : Around) (fr : List Env) (s : Shared) (H : Hp) (vs : List V) (Q : VK) (E : XK), Room k (A.deeper (envOfC qual scope s.heap.objs.size f cd)) → A.guards = some [] → sp vs H Q E →
      ∃ t, PSs (cxOf (L2.CX P w) P w K mg base N qual scope f cd A fr s H E) bd t ∧ t { nx := fun _ J => Q .non J, rt := Q } (start N vs) H) : FnG P w K mg base (k + 1) f fd ps sp := by
  obtain ⟨oc, od, dV, kV, doc, pm, an, cdv, ct, osl, rfl, lk, hcd, -, -⟩ := F.ex
  refine ⟨ar, fun A fr s H a us vs Q E hr e0 bi r hs => ?_⟩
  obtain ⟨hr, hgu⟩ := hr
  have old : ∀ b o, base.get? b = some o → s.heap.get? b = some o := fun b o e => (e0.bs b o e).1
  have KX := e0.mod.kin.keeps old
  have lim := e0.mod.nolimit.keeps old
  have kinds : ∀ y ∈ ps.zip us, scope.names.lookup y.1 = some .local ∨ (scope.names.lookup y.1 = some .cell ∧ ((cellsFrom (s.heap.objs.size + 1) scope.names []).lookup y.1).isSome = true) := by
    rintro ⟨n, v⟩ hy
    exact (S.par n (List.of_mem_zip hy).1).imp (fun q => q) fun q => ⟨q, PySem.W.cellsFrom_some _ _ _ (.inl q)⟩
  obtain ⟨t, pt, qt⟩ := hb cdv A fr s H vs Q E (hr.deeper _) hgu hs
  apply codeAny_call_function hr.depth (KX _ _ lk) rfl S.co S.gen rfl (PySem.W.codeRec_of KX hcd)
  apply bi
  apply wpAny_newFunctionEnv_cells S.kind kinds
  rintro env rfl s1 new
  have I : Inv (cxOf (L2.CX P w) P w K mg base N qual scope f cdv A fr s H E) [] (start N vs) H s1 := inv_start S hr.hd e0 (ar _ _ _ _ hs) r new
  refine ⟨lim.keeps new.toInCall.keep, codeAny_func (wpAny_mono (pt.run [] s1 _ H _ I qt) ?_ fun _ _ z => z)⟩
  rintro (_ | _ | _ | u) s2 z
  · obtain ⟨σ', J, I2, q⟩ := z
    exact ⟨V.non, J, I2.os, I2.bare, I2.base, I2.hok, rfl, q⟩
  · obtain ⟨_, _, _, q⟩ := z
    exact q.elim
  · obtain ⟨_, _, _, q⟩ := z
    exact q.elim
  · obtain ⟨v, σ', J, I2, rv, q⟩ := z
    exact ⟨v, J, I2.os, I2.bare, I2.base, I2.hok, rv, q⟩
end
/-! ### repr -/
def rRepr (K : PySem.W.Frag) : List V → Hp → VK → Prop := fun xs H Q => ∃ x d, xs = [x] ∧ ((Dp K H x d ∧ d.canLay0 = true ∧ d.depth ≤ 20) ∨ (d = .dict [] ∧ ∃ a, x = .ref a ∧ H a = some (.dK []))) ∧ d.showable = true ∧ d.shown.length ≤ sizeLine ∧ Q (.str d.shown) H
theorem call_repr {X : Cx} (gu : X.A.guards = some []) (hu : X.A.units + 40 < cLine) : CallR X (.builtin "repr") (rRepr X.K) := by
  intro pins s σ H xs us Q I r h
  obtain ⟨x, d, rfl, hd, hs, hz, q⟩ := h
  obtain ⟨u, rfl, ru⟩ := r.one
  have big : ∀ {a : Addr} {as : List Addr}, Reads s.heap (.ref a) d as → (d.hasDict = true → sysModules ∉ as) → d.depth ≤ 20 → wpAny (model X.prog X.w) X.A (call (.builtin "repr") [.ref a]) (EP X pins σ Q) X.xe s := fun {a as} rd hn hdep =>
    repr_of_reads' rd hs hn gu (by omega) (fun _ _ e => e) (fun h' u tk hk => ⟨.str _, H, I.kept hk, ⟨_, rfl⟩, q⟩) hz
  rcases hd with ⟨hd, hc, hdep⟩ | ⟨rfl, a, rfl, ha⟩
  · obtain ⟨as, rd⟩ := Dp.reads I d x u hd ru
    have nd := PyData.noDict_hsm (as := as) (PyData.hasDict_of_canLay d hc)
    cases rd with
    | none => exact PySem.P.repr_of_none ⟨.str _, H, I.tok _, ⟨_, rfl⟩, q⟩
    | bool b => exact PySem.P.repr_of_bool ⟨.str _, H, I.tok _, ⟨_, rfl⟩, q⟩
    | int i t => exact PySem.P.repr_of_int (by simpa [PyData.showable] using hs) ⟨.str _, H, I.tok _, ⟨_, rfl⟩, q⟩
    | str y t => exact PySem.P.repr_of_str ⟨.str _, H, I.tok _, ⟨_, rfl⟩, q⟩ (by simpa only [PyData.shown] using hz)
    | list h1 h2 h3 h4 => exact big (.list h1 h2 h3 h4) nd hdep
    | tuple h1 h2 h3 h4 => exact big (.tuple h1 h2 h3 h4) nd hdep
    | dict h1 h2 h3 h4 h5 => cases hc
  · cases ru
    obtain ⟨_, hsm, vs, kv, o, ees, ep, ho, hx, hda, -, hp, -⟩ := dk_of I.hok ha
    have hv : vs = [] := by cases kv; rfl
    subst hv
    have he : ees.toList = [] := List.length_eq_zero_iff.mp (Pairs.length hp)
    refine big (as := [a]) (.dict (kvs := []) (as := []) (bs := []) ho hx.1 hda ?_ ?_) (fun _ hm => ?_) (by simp [PyData.depth, PyData.depthKv])
    · rw [he]; exact .nil
    · rw [he]; exact .nil
    · rw [← List.mem_singleton.mp hm] at hsm
      simp at hsm
end Dw
namespace Dw
open PySem L2 PyProof.Rows
/-! ### truth -/
def dTru : D → R Bool
  | .non => .ok false
  | .bl b => .ok b
  | .int i => .ok (i != 0)
  | .str y => if y.length ≤ sizeLine then .ok ((y.length : Int) != 0) else .no
  | .tup ds => .ok (!ds.isEmpty)
  | .lst ds => .ok (!ds.isEmpty)
  | .kst ds => .ok (!ds.isEmpty)
  | .dct _ ds => .ok (!ds.isEmpty)
  | _ => .no
theorem DrAll.isEmpty {K : PySem.W.Frag} {H : Hp} {vs : List V} {ds : List D} (h : DrAll K H vs ds) : vs.isEmpty = ds.isEmpty := by
  cases h <;> rfl
theorem tru_ok {K : PySem.W.Frag} {W : WX} : ∀ σ H0 H x d Q, Same H0 H → Dr K H0 x d → Post K W σ H0 H SB (dTru d) Q → ∃ k, TruV K x H k ∧ Q k H := by
  intro σ H0 H x d Q s h p
  have fin : ∀ k, dTru d = .ok k → TruV K x H k → ∃ k, TruV K x H k ∧ Q k H := fun k e t => by
    rw [e] at p
    exact ⟨k, t, Post.here p s rfl⟩
  cases h with
  | non => exact fin _ rfl rfl
  | bl b => exact fin _ rfl rfl
  | int i => exact fin _ rfl rfl
  | str y =>
    have p' : Post K W σ H0 H SB (if y.length ≤ sizeLine then R.ok ((y.length : Int) != 0) else R.no) Q := p
    split at p'
    · exact ⟨_, ⟨by assumption, rfl⟩, Post.here p' s rfl⟩
    · exact p'.elim
  | ty n => exact p.elim
  | tup q r => exact fin _ rfl (.inr (.inl ⟨_, sqT_mono s q, by rw [r.isEmpty]⟩))
  | lst q r => exact fin _ rfl (.inl ⟨_, s.seq (.inl q), by rw [r.isEmpty]⟩)
  | kst q r => exact fin _ rfl (.inl ⟨_, s.seq q, by rw [r.isEmpty]⟩)
  | dct q r => exact fin _ rfl (.inr (.inr ⟨_, s _ _ q, by rw [← r.isEmpty, List.isEmpty_map]⟩))
  | obj q r => exact p.elim
  | exc q => exact p.elim
def plainTest : Expr → Bool
  | .UnaryOp .Not _ _ => false
  | .BoolOp _ _ _ => false
  | .IfExp _ _ _ _ => false
  | .Compare _ _ _ _ => false
  | _ => true
theorem isTrue_of {e : Expr} {env : Env} (h : plainTest e = true) : ∀ whole, isTrue e env whole = (do let v ← whole; standAt e.pos; holding [v] (truthy v)) := by
  intro whole
  cases e with
  | UnaryOp op x p => cases op <;> first | rfl | cases h
  | BoolOp _ _ _ => cases h
  | IfExp _ _ _ _ => cases h
  | Compare _ _ _ _ => cases h
  | _ => rfl
def asB : D → R Bool
  | .bl b => .ok b
  | _ => .no
section
variable {X : Cx} {W : WX}
theorem st_tru {e : Expr} {c : C} (h : SE X W e c) (hp : plainTest e = true) : ST X W e (cUn dTru c) := by
  obtain ⟨t, p, v⟩ := h
  exact ⟨_, pt_truth p (isTrue_of hp), ev_unG downB v tru_ok⟩
/-- a comparison as a test -/
theorem st_cmp {a b : Expr} {op : CmpOp} {pos : Pos} {r : R2} {f : D → D → R D} {ca cb : C} (ho : OpR X (compareOp op) r) (hd : OpD X.K W r f) (ha : SE X W a ca) (hb : SE X W b cb) (hm : behindInMarks op b = false) :
    ST X W (.Compare a [op] [b] pos) (cBin (fun d e => (f d e).bind asB) ca cb) := by
  obtain ⟨t, p, v⟩ := ha
  obtain ⟨u, q, w⟩ := hb
  refine ⟨_, pt_cmpR ho p q hm, ev_binG (r := fun x y H Q => r x y H fun z H' => ∃ k, z = .bl k ∧ Q k H') downB v w fun σ H0 H x y d e Q s h1 h2 p => ?_⟩
  refine hd σ H0 H x y d e _ s h1 h2 ?_
  cases z : f d e with
  | ok g =>
    rw [z] at p
    intro A B x2 st q2
    cases q2 with
    | bl k => exact ⟨k, rfl, p A B k st rfl⟩
    | _ => exact p.elim
  | ex C =>
    rw [z] at p
    exact p
  | no =>
    rw [z] at p
    exact p
theorem se_cmp {a b : Expr} {op : CmpOp} {pos : Pos} {r : R2} {f : D → D → R D} {ca cb : C} (ho : OpR X (compareOp op) r) (hd : OpD X.K W r f) (ha : SE X W a ca) (hb : SE X W b cb) (hm : behindInMarks op b = false) :
    SE X W (.Compare a [op] [b] pos) (cBin f ca cb) := by
  obtain ⟨t, p, v⟩ := ha
  obtain ⟨u, q, w⟩ := hb
  exact ⟨_, pe_cmpR ho p q hm, ev_binG downV v w hd⟩
/-- a < b < c -/
def kChain (g : D → D → R D) (cc : C) (y : D) (δ : List Sl) : D → R D
  | .bl true => (cc δ).bind fun w => g y w
  | .bl false => .ok (.bl false)
  | _ => .no
def cChain (f g : D → D → R D) (ca cb cc : C) : C := fun δ => (ca δ).bind fun x => (cb δ).bind fun y => (f x y).bind fun z => kChain g cc y δ z
theorem ev_chain {K : PySem.W.Frag} {ta tb tc : TE} {ca cb cc : C} {r r' : R2} {f g : D → D → R D} (hd : OpD K W r f) (hd' : OpD K W r' g) (ha : Ev K W (SV K) ta ca) (hb : Ev K W (SV K) tb cb) (hc : Ev K W (SV K) tc cc) :
    Ev K W (SV K) (tChain r r' ta tb tc) (cChain f g ca cb cc) := by
  intro G0 G δ σ H0 H Q rl p
  have p' : Post K W σ H0 H (SV K) ((ca δ).bind fun x => (cb δ).bind fun y => (f x y).bind fun z => kChain g cc y δ z) Q := p
  refine ha G0 G δ σ H0 H _ rl ?_
  cases e : ca δ with
  | ok d =>
    rw [e] at p'
    intro A B x s q
    refine hb G0 G δ σ A B _ (rl.step s) ?_
    have p2 : Post K W σ H0 H (SV K) ((cb δ).bind fun y => (f d y).bind fun z => kChain g cc y δ z) Q := p'
    cases e2 : cb δ with
    | ok d2 =>
      rw [e2] at p2
      intro A2 B2 y s2 q2
      refine hd σ A2 B2 x y d d2 _ (rl.step (s.trans s2)).same (Dr.mono s2.e0 _ q) q2 ?_
      have p3 : Post K W σ A2 B2 (SV K) ((f d d2).bind fun z => kChain g cc d2 δ z) Q := Post.mono downV p2 (s.trans s2)
      cases e3 : f d d2 with
      | ok z =>
        rw [e3] at p3
        have p4 : Post K W σ A2 B2 (SV K) (kChain g cc d2 δ z) Q := p3
        intro A3 B3 v s3 q3
        cases q3 with
        | bl k =>
          refine ⟨k, rfl, ?_⟩
          cases k with
          | true =>
            have p5 : Post K W σ A2 B2 (SV K) ((cc δ).bind fun w => g d2 w) Q := p4
            rw [if_pos rfl]
            refine hc G0 G δ σ A3 B3 _ ((rl.step (s.trans s2)).step s3) ?_
            cases e4 : cc δ with
            | ok d4 =>
              rw [e4] at p5
              intro A4 B4 w s4 q4
              exact hd' σ A4 B4 y w d2 d4 Q ((rl.step (s.trans s2)).step (s3.trans s4)).same (Dr.mono (s3.trans s4).e0 _ q2) q4 (Post.mono downV p5 (s3.trans s4))
            | ex C =>
              rw [e4] at p5
              exact Post.mono (S := SV K) downV p5 s3
            | no =>
              rw [e4] at p5
              exact p5
          | false =>
            rw [if_neg (by decide)]
            have p5 : Post K W σ A2 B2 (SV K) (.ok (.bl false)) Q := p4
            exact p5 A3 B3 _ s3 (.bl false)
        | _ => exact p4.elim
      | ex C =>
        rw [e3] at p3
        exact p3
      | no =>
        rw [e3] at p3
        exact p3
    | ex C =>
      rw [e2] at p2
      exact Post.mono (S := SV K) downV p2 s
    | no =>
      rw [e2] at p2
      exact p2
  | ex C =>
    rw [e] at p'
    exact p'
  | no =>
    rw [e] at p'
    exact p'
theorem se_chain {a b c : Expr} {op op' : CmpOp} {pos : Pos} {r r' : R2} {f g : D → D → R D} {ca cb cc : C} (ho : OpR X (compareOp op) r) (hd : OpD X.K W r f) (ho' : OpR X (compareOp op') r') (hd' : OpD X.K W r' g) (ha : SE X W a ca) (hb : SE X W b cb) (hc : SE X W c cc) (hm : lastMarks [op, op'] [b, c] = false) :
    SE X W (.Compare a [op, op'] [b, c] pos) (cChain f g ca cb cc) := by
  obtain ⟨t, p, v⟩ := ha
  obtain ⟨u, q, w⟩ := hb
  obtain ⟨u2, q2, w2⟩ := hc
  exact ⟨_, pe_chain ho ho' p q q2 hm, ev_chain hd hd' v w w2⟩
theorem se_op {a b : Expr} {op : Operator} {pos : Pos} {r : R2} {f : D → D → R D} {ca cb : C} (ho : OpR X (binaryOp op) r) (hd : OpD X.K W r f) (ha : SE X W a ca) (hb : SE X W b cb) : SE X W (.BinOp a op b pos) (cBin f ca cb) := by
  obtain ⟨t, p, v⟩ := ha
  obtain ⟨u, q, w⟩ := hb
  exact ⟨_, pe_op ho p q, ev_binG downV v w hd⟩
theorem sn_op {a b : Expr} {op : Operator} {pos : Pos} {r : R2} {f : D → D → R (List D)} {ca cb : C} (ho : OpR X (binaryOp op) r) (hd : OpN X.K W r f) (ha : SE X W a ca) (hb : SE X W b cb) : SN X W (.BinOp a op b pos) (cBin f ca cb) := by
  obtain ⟨t, p, v⟩ := ha
  obtain ⟨u, q, w⟩ := hb
  exact ⟨_, pe_op ho p q, ev_binG downW v w hd⟩
/-! ### not, and, or -/
def cNotB (c : CB) : CB := fun δ => (c δ).bind fun b => .ok (!b)
theorem st_not {e : Expr} {pos : Pos} {c : CB} (h : ST X W e c) : ST X W (.UnaryOp .Not e pos) (cNotB c) := by
  obtain ⟨t, p, v⟩ := h
  refine ⟨_, pt_not p, Ev.bind (Sa := SB) (f := fun b _ => .ok (!b)) downB v fun a b G0 G δ σ Hs H0 H Q r q p => ?_⟩
  cases q
  exact Post.here p r.same rfl
def dNotV : D → R D
  | .bl b => .ok (.bl (!b))
  | _ => .no
theorem se_not {e : Expr} {pos : Pos} {c : C} (h : SE X W e c) : SE X W (.UnaryOp .Not e pos) (cUn dNotV c) := by
  obtain ⟨t, p, v⟩ := h
  refine ⟨_, pe_not p, ev_unG (r := fun x H1 Q => ∃ c, x = .bl c ∧ Q (.bl (!c)) H1) downV v fun σ H0 H x d Q s h p => ?_⟩
  unfold dNotV at p
  split at p
  · cases h
    exact ⟨_, rfl, p.v s (.bl _)⟩
  · exact p.elim
def cAndB : List CB → CB
  | [] => cNoB
  | [c] => c
  | c :: cs => fun δ => (c δ).bind fun b => if b = true then cAndB cs δ else .ok false
def cOrB : List CB → CB
  | [] => cNoB
  | [c] => c
  | c :: cs => fun δ => (c δ).bind fun b => if b = true then .ok true else cOrB cs δ
inductive All2 {α β : Type} (P : α → β → Prop) : List α → List β → Prop
  | nil : All2 P [] []
  | cons {a : α} {b : β} {as : List α} {bs : List β} : P a b → All2 P as bs → All2 P (a :: as) (b :: bs)
theorem sw_and {pos : Pos} : ∀ {es : List Expr} {cs : List CB}, All2 (ST X W) es cs → ∃ t, PW X (.BoolOp .And es pos) t ∧ Ev X.K W SB t (cAndB cs)
  | _, _, .nil => ⟨fun _ _ _ => False, ⟨fun _ _ _ _ _ _ _ h => h.elim⟩, fun _ _ _ _ _ _ _ _ p => p⟩
  | _, _, .cons h .nil => by
    obtain ⟨t, p, v⟩ := h
    exact ⟨t, pw_and1 p, v⟩
  | _, _, .cons h (.cons h2 r) => by
    obtain ⟨t, p, v⟩ := h
    obtain ⟨u, q, w⟩ := sw_and (.cons h2 r)
    refine ⟨_, pw_and p q, Ev.bind (Sa := SB) (f := fun b δ => if b = true then cAndB _ δ else .ok false) downB v fun a b G0 G δ σ Hs H0 H Q rl e p => ?_⟩
    have e : b = a := e
    subst e
    cases b with
    | true => exact w G0 G δ σ H0 H Q rl p
    | false => exact Post.here p rl.same rfl
theorem sw_or {pos : Pos} : ∀ {es : List Expr} {cs : List CB}, All2 (ST X W) es cs → ∃ t, PW X (.BoolOp .Or es pos) t ∧ Ev X.K W SB t (cOrB cs)
  | _, _, .nil => ⟨fun _ _ _ => False, ⟨fun _ _ _ _ _ _ _ h => h.elim⟩, fun _ _ _ _ _ _ _ _ p => p⟩
  | _, _, .cons h .nil => by
    obtain ⟨t, p, v⟩ := h
    exact ⟨t, pw_or1 p, v⟩
  | _, _, .cons h (.cons h2 r) => by
    obtain ⟨t, p, v⟩ := h
    obtain ⟨u, q, w⟩ := sw_or (.cons h2 r)
    refine ⟨_, pw_or p q, Ev.bind (Sa := SB) (f := fun b δ => if b = true then .ok true else cOrB _ δ) downB v fun a b G0 G δ σ Hs H0 H Q rl e p => ?_⟩
    have e : b = a := e
    subst e
    cases b with
    | true => exact Post.here p rl.same rfl
    | false => exact w G0 G δ σ H0 H Q rl p
theorem st_and {pos : Pos} {es : List Expr} {cs : List CB} (h : All2 (ST X W) es cs) : ST X W (.BoolOp .And es pos) (cAndB cs) := by
  obtain ⟨t, p, v⟩ := sw_and (pos := pos) h
  exact ⟨t, p.pt, v⟩
theorem st_or {pos : Pos} {es : List Expr} {cs : List CB} (h : All2 (ST X W) es cs) : ST X W (.BoolOp .Or es pos) (cOrB cs) := by
  obtain ⟨t, p, v⟩ := sw_or (pos := pos) h
  exact ⟨t, p.pt, v⟩
/-- .. as values, truths all but the last -/
def cAndV : List C → C
  | [] => cNo
  | [c] => c
  | c :: cs => fun δ => (c δ).bind fun d => match d with
    | .bl true => cAndV cs δ
    | .bl false => .ok (.bl false)
    | _ => .no
def cOrV : List C → C
  | [] => cNo
  | [c] => c
  | c :: cs => fun δ => (c δ).bind fun d => match d with
    | .bl true => .ok (.bl true)
    | .bl false => cOrV cs δ
    | _ => .no
theorem se_and {pos : Pos} : ∀ {es : List Expr} {cs : List C}, All2 (SE X W) es cs → SE X W (.BoolOp .And es pos) (cAndV cs)
  | _, _, .nil => se_none
  | _, _, .cons h .nil => by
    obtain ⟨t, p, v⟩ := h
    exact ⟨t, pe_one p, v⟩
  | _, _, .cons h (.cons h2 r) => by
    obtain ⟨t, p, v⟩ := h
    obtain ⟨u, q, w⟩ := se_and (pos := pos) (.cons h2 r)
    refine ⟨_, pe_and p q, Ev.bind (f := fun d δ => match d with
      | .bl true => cAndV _ δ
      | .bl false => .ok (.bl false)
      | _ => .no) downV v fun a b G0 G δ σ Hs H0 H Q rl e p => ?_⟩
    cases e with
    | bl k =>
      cases k with
      | true => exact ⟨true, rfl, w G0 G δ σ H0 H Q rl p⟩
      | false => exact ⟨false, rfl, p.v rl.same (.bl _)⟩
    | _ => exact p.elim
theorem se_or {pos : Pos} : ∀ {es : List Expr} {cs : List C}, All2 (SE X W) es cs → SE X W (.BoolOp .Or es pos) (cOrV cs)
  | _, _, .nil => se_none
  | _, _, .cons h .nil => by
    obtain ⟨t, p, v⟩ := h
    exact ⟨t, pe_one p, v⟩
  | _, _, .cons h (.cons h2 r) => by
    obtain ⟨t, p, v⟩ := h
    obtain ⟨u, q, w⟩ := se_or (pos := pos) (.cons h2 r)
    refine ⟨_, pe_or p q, Ev.bind (f := fun d δ => match d with
      | .bl true => .ok (.bl true)
      | .bl false => cOrV _ δ
      | _ => .no) downV v fun a b G0 G δ σ Hs H0 H Q rl e p => ?_⟩
    cases e with
    | bl k =>
      cases k with
      | true => exact ⟨true, rfl, p.v rl.same (.bl _)⟩
      | false => exact ⟨false, rfl, w G0 G δ σ H0 H Q rl p⟩
    | _ => exact p.elim
/-! ### a if t else b -/
def cIf {α : Type} (t : CB) (a b : List Sl → R α) : List Sl → R α := fun δ => (t δ).bind fun k => if k = true then a δ else b δ
theorem ev_if {K : PySem.W.Frag} {S : Sat D V} (hS : Down S) {tt : TT} {ta tb : TE} {ct : CB} {ca cb : C} (h : Ev K W SB tt ct) (ha : Ev K W S ta ca) (hb : Ev K W S tb cb) : Ev K W S (tIf tt ta tb) (cIf ct ca cb) :=
  Ev.bind (Sa := SB) (f := fun k δ => if k = true then ca δ else cb δ) hS h fun a b G0 G δ σ Hs H0 H Q rl e p => by
    have e : b = a := e
    subst e
    cases b with
    | true => exact ha G0 G δ σ H0 H Q rl p
    | false => exact hb G0 G δ σ H0 H Q rl p
theorem se_if {t a b : Expr} {pos : Pos} {ct : CB} {ca cb : C} (h : ST X W t ct) (ha : SE X W a ca) (hb : SE X W b cb) : SE X W (.IfExp t a b pos) (cIf ct ca cb) := by
  obtain ⟨t, p, v⟩ := h
  obtain ⟨u, q, w⟩ := ha
  obtain ⟨u2, q2, w2⟩ := hb
  exact ⟨_, pe_ifExp p q q2, ev_if downV v w w2⟩
end
/-! ### defs -/
inductive Rs where
  | ok (d : D)
  | okl (ds : List D)
  | okt (ds : List D)
  | okr (o : O)
  | ex (C : Str)
  | no
/-- what a def answers: sem, of its arguments -/
def Ans (K : PySem.W.Frag) (H0 H : Hp) (r : Rs) (Q : VK) (E : XK) : Prop := match r with
  | .ok d => ∀ H0' H' v, Stp H0 H H0' H' → Dr K H0' v d → Q v H'
  | .okl es => ∀ H0' H' v, Stp H0 H H0' H' → SW K H H0' H' v es → Q v H'
  | .okt es => ∀ H0' H' v, Stp H0 H H0' H' → TupK K H0' v es → Q v H'
  | .okr o => ∀ H0' H' v, Stp H0 H H0' H' → TrK K H H0' H' v o → Q v H'
  | .ex C => ∀ H0' H', Stp H0 H H0' H' → E (.ref (He.ga K C)) none H'
  | .no => False
def spF (K : PySem.W.Frag) (n : Nat) (sem : List D → Rs) : Sp := fun vs H Q E => vs.length = n ∧ ∃ H0 ds, Same H0 H ∧ DrAll K H0 vs ds ∧ Ans K H0 H (sem ds) Q E
/-- the def of the name x, called with m arguments, answers sem -/
structure FK (P : Program) (w : World) (K : PySem.W.Frag) (mg : Str → Option Value) (base : Heap) (k : Nat) (x : Str) (m : Nat) (sem : List D → Rs) : Prop where
  ex : ∃ (fd : FuncData) (ps : List Str) (ds : List Value) (dvs : List V) (dd : List D) (sem0 : List D → Rs), FnG P w K mg base k (He.ga K x) fd ps (spF K ps.length sem0) ∧ Binds K fd ps ds ∧ Vals dvs ds ∧
    (∀ H, DrAll K H dvs dd) ∧ m + dd.length = ps.length ∧ ∀ as, as.length = m → sem as = sem0 (as ++ dd)
  gl : mg x = some (.ref (He.ga K x))
  kp : PySem.W.keepIn K (.ref (He.ga K x)) = true
  db : (x == ("__debug__" : Str)) = false
def rsV : Rs → R D
  | .ok d => .ok d
  | .okl es => .ok (.lst es)
  | .okt es => .ok (.tup es)
  | .okr o => .ok o.d
  | .ex C => .ex C
  | .no => .no
def rsN : Rs → R (List D)
  | .okl es => .ok es
  | .ex C => .ex C
  | _ => .no
def cCall (m : Nat) (f : List D → Rs) (a : CA) : C := fun δ => (a δ).bind fun ds => if ds.length = m then rsV (f ds) else .no
def cCallN (m : Nat) (f : List D → Rs) (a : CA) : CA := fun δ => (a δ).bind fun ds => if ds.length = m then rsN (f ds) else .no
section
variable {X : Cx} {W : WX}
theorem ans_of {K : PySem.W.Frag} {σ : L2.St} {H0 H : Hp} {r : Rs} {Q : VK} (p : Post K W σ H0 H (SV K) (rsV r) Q) : Ans K H0 H r Q (WE W σ) := by
  cases r with
  | ok d => exact p
  | okl es => exact post_L (r := .ok es) p
  | okt es => exact fun A B v s q => p A B v s q.dr
  | okr o =>
    intro A B v s q
    obtain ⟨J, sj, dr⟩ := q.know s
    exact p J B v sj dr
  | ex C => exact p
  | no => exact p
theorem ansN_of {K : PySem.W.Frag} {σ : L2.St} {H0 H : Hp} {r : Rs} {Q : VK} (p : Post K W σ H0 H (SW K) (rsN r) Q) : Ans K H0 H r Q (WE W σ) := by
  cases r with
  | ok d => exact p.elim
  | okt d => exact p.elim
  | okr o => exact p.elim
  | okl es => exact p
  | ex C => exact p
  | no => exact p
theorem ev_fk {K : PySem.W.Frag} {α : Type} {S : Sat α V} (hS : Down S) {m : Nat} {sem sem0 : List D → Rs} {dvs : List V} {dd : List D} {n : Nat} {t : TA} {ca : CA} (g : Rs → R α) (hg : ∀ σ H0 H r Q, Post K W σ H0 H S (g r) Q → Ans K H0 H r Q (WE W σ))
    (rd : ∀ H, DrAll K H dvs dd) (hm : m + dd.length = n) (hs : ∀ as, as.length = m → sem as = sem0 (as ++ dd)) (v : Ev K W (SA K) t ca) :
    Ev K W S (tCallSD (spF K n sem0) dvs (WE W) t) (fun δ => (ca δ).bind fun ds => if ds.length = m then g (sem ds) else .no) :=
  Ev.bind (f := fun ds _ => if ds.length = m then g (sem ds) else .no) hS v fun ds vs G0 G δ σ Hs H0 H Q rl q p => by
    split at p
    · rename_i hl
      have hv := DrAll.length q
      refine ⟨?_, H0, ds ++ dd, rl.same, DrAll.append q (rd H0), ?_⟩
      · have h3 := (rd H0).length
        rw [List.length_append]
        omega
      · rw [← hs ds hl]
        exact hg _ _ _ _ _ p
    · exact p.elim
theorem se_call {k m : Nat} {x : Str} {sem : List D → Rs} {e : Expr} {es : List Expr} {p pos : Pos} {ca : CA} (F : FK X.prog X.w X.K X.mg X.base k x m sem) (hr : Room k X.A ∧ X.A.guards = some []) (hg : Gl X x) (tk : Takes X W) (ha : SL X W (e :: es) ca) (h1 : plainArg e = true) (h2 : es.all plainArg = true) :
    SE X W (.Call (.Name x p) (e :: es) [] pos) (cCall m sem ca) := by
  obtain ⟨fd, ps, ds, dvs, dd, sem0, G, b, rv, rd, hm, hs⟩ := F.ex
  obtain ⟨t, pa, v⟩ := ha
  exact ⟨_, pe_callG G hr hg F.gl F.kp b rv (fun σ => passAt tk σ) pa F.db (star_of h1) (star_all h2), ev_fk downV rsV (fun _ _ _ _ _ p => ans_of p) rd hm hs v⟩
theorem sn_call {k m : Nat} {x : Str} {sem : List D → Rs} {e : Expr} {es : List Expr} {p pos : Pos} {ca : CA} (F : FK X.prog X.w X.K X.mg X.base k x m sem) (hr : Room k X.A ∧ X.A.guards = some []) (hg : Gl X x) (tk : Takes X W) (ha : SL X W (e :: es) ca) (h1 : plainArg e = true) (h2 : es.all plainArg = true) :
    SN X W (.Call (.Name x p) (e :: es) [] pos) (cCallN m sem ca) := by
  obtain ⟨fd, ps, ds, dvs, dd, sem0, G, b, rv, rd, hm, hs⟩ := F.ex
  obtain ⟨t, pa, v⟩ := ha
  exact ⟨_, pe_callG G hr hg F.gl F.kp b rv (fun σ => passAt tk σ) pa F.db (star_of h1) (star_all h2), ev_fk downW rsN (fun _ _ _ _ _ p => ansN_of p) rd hm hs v⟩
end
end Dw
namespace Dw
open PySem L2 PyProof.Rows
/-! ### what is walked -/
def Wk (K : PySem.W.Frag) (J : It) (Hk : Hp) (ds : List D) : Prop := ∀ (i : Nat) (H0 H : Hp), Same Hk H0 → Same H0 H →
  (∀ d, ds[i]? = some d → J.go i H ∧ ∀ x H', J.yld i H x H' → ∃ H0', Stp H0 H H0' H' ∧ Dr K H0' x d) ∧ (ds[i]? = none → J.stop i H)
def SI0 (K : PySem.W.Frag) : Sat (List D) It := fun _ H0 _ J ds => Wk K J H0 ds
theorem downI {K : PySem.W.Frag} : Down (SI0 K) := fun _ _ _ _ _ _ _ h => h
def SI (X : Cx) (W : WX) (tg iter : Expr) (c : CA) : Prop := ∃ wi, PI X tg iter wi ∧ Ev X.K W (SI0 X.K) wi c
section
variable {K : PySem.W.Frag} {Hk : Hp}
theorem wk_list {a : Addr} {xs : List V} {ds : List D} (h : SqL K Hk a xs) (r : DrAll K Hk xs ds) : Wk K (Itl K a) Hk ds := fun i H0 H e0 e => by
  have q : SqL K H a xs := (e0.trans e).seq h
  refine ⟨fun d hd => ?_, fun hn => ?_⟩
  · obtain ⟨v, hv, dv⟩ := r.get hd
    refine ⟨⟨xs, v, q, hv⟩, fun x H' y => ?_⟩
    obtain ⟨rfl, y⟩ := y
    have z := y xs q
    rw [hv] at z
    cases z
    exact ⟨H0, Stp.refl e, dv.mono e0⟩
  · refine ⟨xs, q, ?_⟩
    rw [r.length]
    exact List.getElem?_eq_none_iff.mp hn
theorem wk_tup {a : Addr} {xs : List V} {ds : List D} (h : SqT K Hk a xs) (r : DrAll K Hk xs ds) : Wk K (Itt K a) Hk ds := fun i H0 H e0 e => by
  have q : SqT K H a xs := sqT_mono (e0.trans e) h
  refine ⟨fun d hd => ?_, fun hn => ?_⟩
  · obtain ⟨v, hv, dv⟩ := r.get hd
    refine ⟨⟨xs, v, q, hv⟩, fun x H' y => ?_⟩
    obtain ⟨rfl, y⟩ := y
    have z := y xs q
    rw [hv] at z
    cases z
    exact ⟨H0, Stp.refl e, dv.mono e0⟩
  · refine ⟨xs, q, ?_⟩
    rw [r.length]
    exact List.getElem?_eq_none_iff.mp hn
def rangeD (lo : Int) (n : Nat) : List D := (List.range n).map fun (k : Nat) => D.int (lo + (k : Int))
theorem rangeD_get {lo : Int} {n i : Nat} : (rangeD lo n)[i]? = if i < n then some (.int (lo + (i : Int))) else none := by
  unfold rangeD
  rw [List.getElem?_map]
  by_cases h : i < n
  · rw [if_pos h, List.getElem?_range h]
    rfl
  · rw [if_neg h, List.getElem?_eq_none (by simpa using h)]
    rfl
theorem wk_range {lo : Int} {n : Nat} : Wk K (Itr lo n) Hk (rangeD lo n) := fun i H0 H e0 e => by
  rw [rangeD_get]
  refine ⟨fun d hd => ?_, fun hn => ?_⟩
  · split at hd
    · rename_i hi
      cases hd
      refine ⟨hi, fun x H' y => ?_⟩
      obtain ⟨rfl, rfl⟩ := y
      exact ⟨H0, Stp.refl e, .int _⟩
    · cases hd
  · split at hn
    · cases hn
    · rename_i hi
      exact Nat.le_of_not_lt hi
def stepD (lo c : Int) (n : Nat) : List D := (List.range n).map fun (k : Nat) => D.int (lo + (k : Int) * c)
def charsD (z : Str) : List D := z.cps.toList.map fun c => D.str ⟨#[c]⟩
theorem wk_str {z : Str} : Wk K (Its z) Hk (charsD z) := fun i H0 H e0 e => by
  unfold charsD
  rw [List.getElem?_map]
  refine ⟨fun d hd => ?_, fun hn => ?_⟩
  · cases hc : z.cps.toList[i]? with
    | none => rw [hc] at hd; cases hd
    | some c =>
      rw [hc] at hd
      cases hd
      have hi : i < z.cps.size := by
        have := (List.getElem?_eq_some_iff.mp hc).1
        simpa using this
      refine ⟨hi, fun x H' y => ?_⟩
      obtain ⟨rfl, c', h1, rfl⟩ := y
      have h2 : z.cps.toList[i]? = some c' := by rw [Array.getElem?_toList]; exact h1
      rw [hc] at h2
      cases h2
      exact ⟨H0, Stp.refl e, .str _⟩
  · cases hc : z.cps.toList[i]? with
    | none =>
      have := List.getElem?_eq_none_iff.mp hc
      show z.cps.size ≤ i
      simpa using this
    | some c => rw [hc] at hn; cases hn
def enumD : Nat → List D → List D
  | _, [] => []
  | n, d :: ds => .tup [.int (n : Int), d] :: enumD (n + 1) ds
theorem enumD_get : ∀ (ds : List D) (n i : Nat), (enumD n ds)[i]? = (ds[i]?).map fun d => .tup [.int ((n + i : Nat) : Int), d]
  | [], _, _ => by simp [enumD]
  | d :: ds, n, 0 => by simp [enumD]
  | d :: ds, n, i + 1 => by
    show (enumD (n + 1) ds)[i]? = _
    rw [enumD_get ds (n + 1) i]
    have e : n + 1 + i = n + (i + 1) := by omega
    rw [e]
    rfl
theorem wk_enum {a : Addr} {xs : List V} {ds : List D} (h : SqL K Hk a xs) (r : DrAll K Hk xs ds) : Wk K (Ite K a) Hk (enumD 0 ds) := fun i H0 H e0 e => by
  have q : SqL K H a xs := (e0.trans e).seq h
  rw [enumD_get]
  refine ⟨fun d hd => ?_, fun hn => ?_⟩
  · cases hc : ds[i]? with
    | none => rw [hc] at hd; cases hd
    | some f =>
      rw [hc] at hd
      cases hd
      obtain ⟨v, hv, dv⟩ := r.get hc
      refine ⟨⟨xs, v, q, hv⟩, fun x H' y => ?_⟩
      obtain ⟨T, w, rfl, hT, rfl, y⟩ := y
      have z := y xs q
      rw [hv] at z
      cases z
      refine ⟨_, Stp.new e hT, .tup (.inl (.inl upd_same)) (.cons ?_ (.cons (Dr.mono (e0.trans (Same.new (e.free hT))) _ dv) .nil))⟩
      rw [Nat.zero_add]
      exact .int _
  · refine ⟨xs, q, ?_⟩
    rw [r.length]
    cases hc : ds[i]? with
    | none => exact List.getElem?_eq_none_iff.mp hc
    | some f => rw [hc] at hn; cases hn
def zipD : List D → List D → List D
  | a :: as, b :: bs => .tup [a, b] :: zipD as bs
  | _, _ => []
end
/-- a list, a tuple, a text -/
def dItems : D → R (List D)
  | .str z => .ok (charsD z)
  | d => (match d.seq with
    | some ds => .ok ds
    | none => .no)
def iSeq (K : PySem.W.Frag) (tl : TE) : TI := fun σ H R => tl σ H fun x H1 => (∃ a, x = .ref a ∧ (∃ xs, SqL K H1 a xs) ∧ R (Itl K a) H1) ∨ (∃ a, x = .ref a ∧ (∃ xs, SqT K H1 a xs) ∧ R (Itt K a) H1) ∨ ∃ z, x = .str z ∧ R (Its z) H1
section
variable {X : Cx} {W : WX} {tg : Expr}
theorem pi_seqA {l : Expr} {tl : TE} (hl : PE X l tl) : PI X tg l (iSeq X.K tl) := by
  refine ⟨fun pins s σ H R I h => ?_⟩
  refine thn (hl.run pins s σ H _ I h) fun v s1 ⟨x, H1, I1, r1, q1⟩ => ?_
  rcases q1 with ⟨a, e, ⟨xs, hq⟩, q⟩ | ⟨a, e, ⟨xs, hq⟩, q⟩ | ⟨z, e, q⟩
  · subst e
    cases r1
    obtain ⟨its, _, p, _⟩ := I1.list hq
    exact wpAny_pyIter_list p.isList (pi_one (tk := s1.toks) I1 _ (turn_list a _) ⟨_, Heap.get?_push_size _ rfl, rfl, rfl⟩ q)
  · subst e
    cases r1
    obtain ⟨its, _, p, _⟩ := I1.tuple hq
    exact wpAny_pyIter_tuple (show s1.heap.IsTuple a its.toArray from p) (pi_one (tk := s1.toks) I1 _ (turn_tuple a _) ⟨_, Heap.get?_push_size _ rfl, rfl, rfl⟩ q)
  · subst e
    obtain ⟨t, rfl⟩ := r1
    cases ha : z.cps.all (· < 128)
    · exact wpAny_pyIter_wide ha (pi_one (tk := s1.toks) I1 _ (turn_str _ z t "str_iterator" (.inr rfl)) ⟨_, Heap.get?_push_size _ rfl, rfl, rfl⟩ q)
    · exact wpAny_pyIter_ascii ha (pi_one (tk := s1.toks) I1 _ (turn_str _ z t "str_ascii_iterator" (.inl rfl)) ⟨_, Heap.get?_push_size _ rfl, rfl, rfl⟩ q)
theorem si_seq {l : Expr} {c : C} (h : SE X W l c) : SI X W tg l (cUn dItems c) := by
  obtain ⟨t, p, v⟩ := h
  refine ⟨_, pi_seqA p, ev_unG downI v fun σ H0 H x d Q s h p => ?_⟩
  unfold dItems at p
  split at p
  · cases h
    exact .inr (.inr ⟨_, rfl, Post.here p s wk_str⟩)
  · split at p
    · rename_i es e
      obtain ⟨a, xs, rfl, q, r⟩ := h.seqK e
      rcases q with q | q
      · exact .inl ⟨a, rfl, ⟨xs, s.seq q⟩, Post.here p s (wk_list q r)⟩
      · exact .inr (.inl ⟨a, rfl, ⟨xs, sqT_mono s q⟩, Post.here p s (wk_tup q r)⟩)
    · exact p.elim
def dRng1 : List D → R (List D)
  | [.int j] => if -(2 ^ 62) ≤ j ∧ j < 2 ^ 62 then .ok (rangeD 0 j.toNat) else .no
  | _ => .no
def dRng2 : List D → R (List D)
  | [.int i, .int j] => if -(2 ^ 62) ≤ i ∧ i < 2 ^ 62 ∧ -(2 ^ 62) ≤ j ∧ j < 2 ^ 62 then .ok (rangeD i (j - i).toNat) else .no
  | _ => .no
theorem si_range1 {a : Expr} {p pos : Pos} {c : CA} (hg : Gl X "range") (hm : X.mg "range" = none) (h : SL X W [a] c) (h1 : plainArg a = true) : SI X W tg (.Call (.Name "range" p) [a] [] pos) (cApp dRng1 c) := by
  obtain ⟨t, pa, v⟩ := h
  refine ⟨_, pi_range1 hg hm pa (star_of h1), ev_appG downI v fun σ H0 H x d Q s h p => ?_⟩
  unfold dRng1 at p
  split at p
  · split at p
    · rename_i j c
      obtain ⟨v, rfl, a⟩ := h.one
      cases a
      exact ⟨j, rfl, c.1, c.2, Post.here p s wk_range⟩
    · exact p.elim
  · exact p.elim
theorem si_range2 {a b : Expr} {p pos : Pos} {c : CA} (hg : Gl X "range") (hm : X.mg "range" = none) (h : SL X W [a, b] c) (h1 : plainArg a = true) (h2 : plainArg b = true) : SI X W tg (.Call (.Name "range" p) [a, b] [] pos) (cApp dRng2 c) := by
  obtain ⟨t, pa, v⟩ := h
  refine ⟨_, pi_range2 hg hm pa (by rw [star_of h1, star_of h2]; rfl) (by rw [star_of h2]; rfl), ev_appG downI v fun σ H0 H x d Q s h p => ?_⟩
  unfold dRng2 at p
  split at p
  · split at p
    · rename_i i j c
      obtain ⟨v, w, rfl, a, b⟩ := h.two
      cases a
      cases b
      exact ⟨i, j, rfl, c, Post.here p s wk_range⟩
    · exact p.elim
  · exact p.elim
def dEnum : List D → R (List D)
  | [.lst ds] => .ok (enumD 0 ds)
  | [.kst ds] => .ok (enumD 0 ds)
  | _ => .no
theorem si_enum {a : Expr} {elts : List Expr} {kk : Nat} {tpos p pos : Pos} {c : CA} (hg : Gl X "enumerate") (hm : X.mg "enumerate" = none) (h : SL X W [a] c) (h1 : plainArg a = true) : SI X W (.Tuple elts kk tpos) (.Call (.Name "enumerate" p) [a] [] pos) (cApp dEnum c) := by
  obtain ⟨t, pa, v⟩ := h
  refine ⟨_, pi_enum hg hm pa (star_of h1), ev_appG downI v fun σ H0 H x d Q s h p => ?_⟩
  unfold dEnum at p
  split at p
  · obtain ⟨v, rfl, hv⟩ := h.one
    obtain ⟨a, xs, rfl, q, r⟩ := hv.lstK
    exact ⟨a, xs, rfl, s.seq (.inl q), Post.here p s (wk_enum (.inl q) r)⟩
  · obtain ⟨v, rfl, hv⟩ := h.one
    obtain ⟨a, xs, rfl, q, r⟩ := hv.kstK
    exact ⟨a, xs, rfl, s.seq q, Post.here p s (wk_enum q r)⟩
  · exact p.elim
theorem si_none {iter : Expr} : SI X W tg iter cNoA := ⟨fun _ _ _ => False, ⟨fun _ _ _ _ _ _ h => h.elim⟩, fun _ _ _ _ _ _ _ _ p => p⟩
end
/-! ### targets: names, tuples of targets -/
abbrev CT := D → List Sl → Option (List Sl)
/-- outside of ix the slots stay -/
def Out (ix : List Nat) (σ σ' : L2.St) : Prop := ∀ vs, (∀ i ∈ ix, i ∈ vs) → wipe σ' vs = wipe σ vs
theorem Out.refl {ix : List Nat} {σ : L2.St} : Out ix σ σ := fun _ _ => rfl
theorem Out.trans {ix iy : List Nat} {σ σ1 σ2 : L2.St} (a : Out ix σ σ1) (b : Out iy σ1 σ2) : Out (ix ++ iy) σ σ2 := fun vs h =>
  (b vs fun i hi => h i (List.mem_append_right _ hi)).trans (a vs fun i hi => h i (List.mem_append_left _ hi))
theorem wipe_set {σ : L2.St} {i : Nat} {x : Option V} : ∀ {vs : List Nat}, i ∈ vs → wipe (σ.set i x) vs = wipe σ vs
  | v :: vs, h => by
    unfold wipe
    by_cases e : i = v
    · subst e
      by_cases hm : i ∈ vs
      · rw [wipe_set hm]
      · have : wipe (σ.set i x) vs = (wipe σ vs).set i x := by
          clear h
          induction vs with
          | nil => rfl
          | cons w ws ih =>
            have hw : i ≠ w := fun z => hm (by rw [z]; exact List.mem_cons_self)
            unfold wipe
            rw [ih fun z => hm (List.mem_cons_of_mem _ z), List.set_comm _ _ hw]
        rw [this, List.set_set]
    · rw [wipe_set ((List.mem_cons.mp h).resolve_left e)]
def EvG (K : PySem.W.Frag) (g : TG) (ct : CT) (ix : List Nat) : Prop := ∀ G0 G δ σ H0 H x d Q, Rel K G0 G δ σ H0 H → Dr K H0 x d →
  (match ct d δ with
    | some δ' => ∀ σ', Rel K G0 G δ' σ' H0 H → Out ix σ σ' → Q σ' H
    | none => False) → g x σ H Q
def EvGs (K : PySem.W.Frag) (g : TGs) (ct : List D → List Sl → Option (List Sl)) (ix : List Nat) : Prop := ∀ G0 G δ σ H0 H xs ds Q, Rel K G0 G δ σ H0 H → DrAll K H0 xs ds →
  (match ct ds δ with
    | some δ' => ∀ σ', Rel K G0 G δ' σ' H0 H → Out ix σ σ' → Q σ' H
    | none => False) → g xs σ H Q
def SG (X : Cx) (tg : Expr) (ct : CT) (ix : List Nat) : Prop := ∃ g, PG X tg g ∧ EvG X.K g ct ix
def tName (i : Nat) : CT := fun d δ => some (δ.set i (.pu d))
def tNo : CT := fun _ _ => none
theorem evg_name {K : PySem.W.Frag} {i : Nat} : EvG K (gName i) (tName i) [i] := fun G0 G δ σ H0 H x d Q r h p => p _ (r.setP h) fun vs hv => wipe_set (hv i List.mem_cons_self)
def tTupT (n : Nat) (cts : List D → List Sl → Option (List Sl)) : CT := fun d δ => match d.seq with
  | some ds => if ds.length = n then cts ds δ else none
  | none => none
theorem pg_or {X : Cx} {tg : Expr} {g g' : TG} (a : PG X tg g) (b : PG X tg g') : PG X tg (fun v σ H Q => g v σ H Q ∨ g' v σ H Q) := ⟨fun pins s σ H v u Q I r h => by
  rcases h with h | h
  · exact a.run pins s σ H v u Q I r h
  · exact b.run pins s σ H v u Q I r h⟩
def tNil' : List D → List Sl → Option (List Sl) := fun ds δ => match ds with
  | [] => some δ
  | _ => none
def tCons' (a : CT) (r : List D → List Sl → Option (List Sl)) : List D → List Sl → Option (List Sl) := fun ds δ => match ds with
  | d :: ds => (a d δ).bind fun δ' => r ds δ'
  | [] => none
theorem evgs_nil {K : PySem.W.Frag} : EvGs K gNil tNil' [] := fun G0 G δ σ H0 H xs ds Q r h p => by
  cases h with
  | nil => exact ⟨rfl, p σ r Out.refl⟩
  | cons a b => exact p.elim
theorem evgs_cons {K : PySem.W.Frag} {g : TG} {gs : TGs} {a : CT} {r : List D → List Sl → Option (List Sl)} {ix iy : List Nat} (h1 : EvG K g a ix) (h2 : EvGs K gs r iy) : EvGs K (gCons g gs) (tCons' a r) (ix ++ iy) := fun G0 G δ σ H0 H xs ds Q rl h p => by
  cases h with
  | nil => exact p.elim
  | @cons v vs d ds hv hr =>
    refine ⟨v, vs, rfl, h1 G0 G δ σ H0 H v d _ rl hv ?_⟩
    have p' : match (a d δ).bind fun δ' => r ds δ' with
      | some δ' => ∀ σ', Rel K G0 G δ' σ' H0 H → Out (ix ++ iy) σ σ' → Q σ' H
      | none => False := p
    cases e : a d δ with
    | none =>
      rw [e] at p'
      exact p'
    | some δ1 =>
      rw [e] at p'
      intro σ1 r1 o1
      refine h2 G0 G δ1 σ1 H0 H vs ds Q r1 hr ?_
      have p2 : match r ds δ1 with
        | some δ' => ∀ σ', Rel K G0 G δ' σ' H0 H → Out (ix ++ iy) σ σ' → Q σ' H
        | none => False := p'
      cases e2 : r ds δ1 with
      | none =>
        rw [e2] at p2
        exact p2
      | some δ2 =>
        rw [e2] at p2
        exact fun σ2 r2 o2 => p2 σ2 r2 (o1.trans o2)
section
variable {X : Cx}
theorem sg_none {tg : Expr} : SG X tg tNo [] := ⟨fun _ _ _ _ => False, ⟨fun _ _ _ _ _ _ _ _ _ h => h.elim⟩, fun _ _ _ _ _ _ _ _ _ _ _ p => p⟩
theorem sg_name {i : Nat} {x : Str} {pos : Pos} (hN : X.N.Nodup) (hi : X.N[i]? = some x) (hx : Loc X.env.scope x) (hf : X.fn x = true ∨ X.env.scope.names.lookup x = some .local) : SG X (.Name x pos) (tName i) [i] := ⟨_, pg_name hN hi hx hf, evg_name⟩
/-- no star among targets -/
theorem assign_of {e : Expr} {es : List Expr} {env : Env} (h : plainArg e = true) : assignEach (e :: es) env = (false, assign e env) :: assignEach es env := by
  cases e <;> first | rfl | cases h
theorem assign_len {env : Env} : ∀ {es : List Expr}, es.all plainArg = true → (assignEach es env).length = es.length
  | [], _ => rfl
  | e :: es, h => by
    have h' := Bool.and_eq_true_iff.mp (show (plainArg e && es.all plainArg) = true from h)
    rw [assign_of h'.1, List.length_cons, List.length_cons, assign_len h'.2]
theorem assign_idx {env : Env} : ∀ {es : List Expr}, es.all plainArg = true → (assignEach es env).findIdx? (·.1) = none
  | [], _ => rfl
  | e :: es, h => by
    have h' := Bool.and_eq_true_iff.mp (show (plainArg e && es.all plainArg) = true from h)
    rw [assign_of h'.1, List.findIdx?_cons]
    have ih := assign_idx (env := env) h'.2
    simp [ih]
theorem sg_tup {es : List Expr} {k : Nat} {pos : Pos} {cts : List D → List Sl → Option (List Sl)} {ix : List Nat} (hc : X.calm = true) (hp : es.all plainArg = true) (h : ∃ g, PGs X es g ∧ EvGs X.K g cts ix) : SG X (.Tuple es k pos) (tTupT es.length cts) ix := by
  obtain ⟨g, p, v⟩ := h
  refine ⟨_, pg_or (pg_tup hc p (assign_len hp) (assign_idx hp)) (pg_lst hc p (assign_len hp) (assign_idx hp)), fun G0 G δ σ H0 H x d Q rl hd q => ?_⟩
  unfold tTupT at q
  cases e : d.seq with
  | none => rw [e] at q; exact q.elim
  | some ds =>
    rw [e] at q
    have q' : match (if ds.length = es.length then cts ds δ else none) with
      | some δ' => ∀ σ', Rel X.K G0 G δ' σ' H0 H → Out ix σ σ' → Q σ' H
      | none => False := q
    obtain ⟨a, xs, rfl, hx, r⟩ := hd.seqK e
    split at q'
    · rename_i δ' e2
      split at e2
      · rename_i hl
        have hxl : xs.length = es.length := by rw [r.length]; exact hl
        have fin := v G0 G δ σ H0 H xs ds Q rl r (by rw [e2]; exact q')
        rcases hx with hx | hx
        · exact .inr ⟨a, xs, rfl, rl.same.seq hx, hxl, fin⟩
        · exact .inl ⟨a, xs, rfl, sqT_mono rl.same hx, hxl, fin⟩
      · cases e2
    · exact q'.elim
theorem pgs_consP {e : Expr} {es : List Expr} {ct : CT} {cts : List D → List Sl → Option (List Sl)} {ix iy : List Nat} (hp : plainArg e = true) (h1 : SG X e ct ix) (h2 : ∃ g, PGs X es g ∧ EvGs X.K g cts iy) : ∃ g, PGs X (e :: es) g ∧ EvGs X.K g (tCons' ct cts) (ix ++ iy) := by
  obtain ⟨g, p, v⟩ := h1
  obtain ⟨gs, q, w⟩ := h2
  exact ⟨_, pgs_cons p q (by rw [assign_of hp]; rfl), evgs_cons v w⟩
end
end Dw
namespace Dw
open PySem L2 PyProof.Rows
/-! ### the reading that a closure tells by itself -/
def tOf {α β : Type} (K : PySem.W.Frag) (W : WX) (S : Sat α β) (c : List Sl → R α) : L2.St → Hp → (β → Hp → Prop) → Prop := fun σ H Q => ∃ G0 G δ H0, Rel K G0 G δ σ H0 H ∧ Post K W σ H0 H S (c δ) Q
theorem ev_of {α β : Type} {K : PySem.W.Frag} {W : WX} {S : Sat α β} {c : List Sl → R α} : Ev K W S (tOf K W S c) c := fun G0 G δ σ H0 H Q r p => ⟨G0, G, δ, H0, r, p⟩
theorem of_ev {α β : Type} {K : PySem.W.Frag} {W : WX} {S : Sat α β} {t : L2.St → Hp → (β → Hp → Prop) → Prop} {c : List Sl → R α} (h : Ev K W S t c) {σ : L2.St} {H : Hp} {Q : β → Hp → Prop} (q : tOf K W S c σ H Q) : t σ H Q := by
  obtain ⟨G0, G, δ, H0, r, p⟩ := q
  exact h G0 G δ σ H0 H Q r p
def tgOf (K : PySem.W.Frag) (ct : CT) (ix : List Nat) : TG := fun x σ H Q => ∃ G0 G δ H0 d, Rel K G0 G δ σ H0 H ∧ Dr K H0 x d ∧ (match ct d δ with
    | some δ' => ∀ σ', Rel K G0 G δ' σ' H0 H → Out ix σ σ' → Q σ' H
    | none => False)
section
variable {X : Cx} {W : WX}
theorem SE.pe {e : Expr} {c : C} (h : SE X W e c) : PE X e (tOf X.K W (SV X.K) c) := by
  obtain ⟨t, p, v⟩ := h
  exact ⟨fun pins s σ H Q I q => p.run pins s σ H Q I (of_ev v q)⟩
theorem SN.pe {e : Expr} {c : CA} (h : SN X W e c) : PE X e (tOf X.K W (SW X.K) c) := by
  obtain ⟨t, p, v⟩ := h
  exact ⟨fun pins s σ H Q I q => p.run pins s σ H Q I (of_ev v q)⟩
theorem ST.pt {e : Expr} {c : CB} (h : ST X W e c) : PT X e (tOf X.K W SB c) := by
  obtain ⟨t, p, v⟩ := h
  exact ⟨fun pins s σ H Q I q => p.run pins s σ H Q I (of_ev v q)⟩
theorem SG.pg {tg : Expr} {ct : CT} {ix : List Nat} (h : SG X tg ct ix) : PG X tg (tgOf X.K ct ix) := by
  obtain ⟨g, p, v⟩ := h
  refine ⟨fun pins s σ H x u Q I r q => p.run pins s σ H x u Q I r ?_⟩
  obtain ⟨G0, G, δ, H0, d, rl, hd, q⟩ := q
  exact v G0 G δ σ H0 H x d Q rl hd q
end
/-! ### comprehensions -/
def wipeD (δ : List Sl) : List Nat → List Sl
  | [] => δ
  | v :: vs => (wipeD δ vs).set v .un
section
variable {K : PySem.W.Frag} {G0 G H0 H : Hp} {δ : List Sl} {σ : L2.St}
theorem Rel.wipe (r : Rel K G0 G δ σ H0 H) : ∀ vs, Rel K G0 G (wipeD δ vs) (L2.wipe σ vs) H0 H
  | [] => r
  | v :: vs => (r.wipe vs).setU
theorem wipe_idem (σ : L2.St) (vs : List Nat) : L2.wipe (L2.wipe σ vs) vs = L2.wipe σ vs := by
  have key : ∀ (ws : List Nat), (∀ i ∈ ws, i ∈ vs) → L2.wipe (L2.wipe σ ws) vs = L2.wipe σ vs := by
    intro ws
    induction ws with
    | nil => intro _; rfl
    | cons w ws ih =>
      intro h
      show L2.wipe ((L2.wipe σ ws).set w none) vs = _
      rw [wipe_set (h w List.mem_cons_self), ih fun i hi => h i (List.mem_cons_of_mem _ hi)]
  exact key vs fun _ h => h
end
def lcGo (ct : CT) (ctest : CB) (celt : C) (δ : List Sl) : List D → List D → R (List D)
  | [], acc => .ok acc
  | d :: ds, acc => match ct d δ with
    | none => .no
    | some δ1 => match ctest δ1 with
      | .ok true => (match celt δ1 with
        | .ok y => if acc.length < sizeLine then lcGo ct ctest celt δ ds (acc ++ [y]) else .no
        | _ => .no)
      | .ok false => lcGo ct ctest celt δ ds acc
      | _ => .no
def cLc (ci : CA) (ct : CT) (ctest : CB) (celt : C) (vs : List Nat) : CA := fun δ => (ci δ).bind fun ds => lcGo ct ctest celt (wipeD δ vs) ds []
def W0 : WX := fun _ _ _ _ => False
theorem ev_lc {K : PySem.W.Frag} {W : WX} {wi : TI} {ci : CA} {ct : CT} {ctest : CB} {celt : C} {vs ix : List Nat} (hi : Ev K W (SI0 K) wi ci) (hx : ∀ i ∈ ix, i ∈ vs) :
    Ev K W (SW K) (tLc wi (tgOf K ct ix) (tOf K W0 SB ctest) (tOf K W0 (SV K) celt) vs) (cLc ci ct ctest celt vs) := by
  intro G0 G δ σ Z0 Z Q rl p
  have p' : Post K W σ Z0 Z (SW K) ((ci δ).bind fun ds => lcGo ct ctest celt (wipeD δ vs) ds []) Q := p
  refine hi G0 G δ σ Z0 Z _ rl ?_
  cases e : ci δ with
  | ex C =>
    rw [e] at p'
    exact p'
  | no =>
    rw [e] at p'
    exact p'
  | ok ds =>
    rw [e] at p'
    have p2 : Post K W σ Z0 Z (SW K) (lcGo ct ctest celt (wipeD δ vs) ds []) Q := p'
    intro A1 H1 J s1 wk
    intro Dn hD
    cases er : lcGo ct ctest celt (wipeD δ vs) ds [] with
    | ex C =>
      exfalso
      clear p2 p' p
      have nox : ∀ (ds acc : List D), lcGo ct ctest celt (wipeD δ vs) ds acc ≠ .ex C := by
        intro ds
        induction ds with
        | nil => intro acc z; cases z
        | cons d ds ih =>
          intro acc z
          unfold lcGo at z
          split at z
          · cases z
          · split at z
            · split at z
              · split at z
                · exact ih _ z
                · cases z
              · cases z
            · exact ih _ z
            · cases z
      exact nox ds [] er
    | no =>
      rw [er] at p2
      exact p2.elim
    | ok res =>
      rw [er] at p2
      have zD : Z Dn = none := s1.e.free hD
      refine ⟨fun i m H => m = ds.length - i ∧ i ≤ ds.length ∧ ∃ A acc vacc, Stp Z0 Z A H ∧ Same A1 A ∧ A Dn = none ∧ H Dn = some (.lst vacc) ∧ DrAll K A vacc acc ∧ lcGo ct ctest celt (wipeD δ vs) (ds.drop i) acc = .ok res,
        ⟨ds.length, by simp, Nat.zero_le _, A1, [], [], s1.trans (Stp.own s1.k hD), Same.refl _, s1.k.free hD, upd_same, .nil, er⟩, ?_⟩
      rintro i m H ⟨rfl, hi, A, acc, vacc, S, e1, nA, hH, hacc, hgo⟩
      have wki := wk i A H e1 S.k
      by_cases hlt : i < ds.length
      · have hd : ds[i]? = some ds[i] := List.getElem?_eq_getElem hlt
        obtain ⟨go, yl⟩ := wki.1 _ hd
        rw [List.drop_eq_getElem_cons hlt] at hgo
        unfold lcGo at hgo
        split at hgo
        · cases hgo
        · rename_i δ1 ect
          have key : ∀ (A' H' : Hp) (acc' : List D) (vacc' : List V), Stp Z0 Z A' H' → Same A A' → A' Dn = none → H' Dn = some (.lst vacc') → DrAll K A' vacc' acc' → lcGo ct ctest celt (wipeD δ vs) (ds.drop (i + 1)) acc' = .ok res →
              ((ds.length - (i + 1) = ds.length - (i + 1)) ∧ i + 1 ≤ ds.length ∧ ∃ A acc vacc, Stp Z0 Z A H' ∧ Same A1 A ∧ A Dn = none ∧ H' Dn = some (.lst vacc) ∧ DrAll K A vacc acc ∧ lcGo ct ctest celt (wipeD δ vs) (ds.drop (i + 1)) acc = .ok res) :=
            fun A' H' acc' vacc' a1 a2 a3 a4 a5 a6 => ⟨rfl, hlt, A', acc', vacc', a1, e1.trans a2, a3, a4, a5, a6⟩
          refine .inr ⟨go, fun H' => i + 1 ≤ ds.length ∧ ∃ A acc vacc, Stp Z0 Z A H' ∧ Same A1 A ∧ A Dn = none ∧ H' Dn = some (.lst vacc) ∧ DrAll K A vacc acc ∧ lcGo ct ctest celt (wipeD δ vs) (ds.drop (i + 1)) acc = .ok res, fun H' q => ⟨ds.length - (i + 1), by omega, rfl, q⟩, fun x H' y => ?_⟩
          obtain ⟨A', S', dx⟩ := yl x H' y
          have S1 := S.trans S'
          refine ⟨G0, G, wipeD δ vs, A', _, (rl.step S1).wipe vs, dx, ?_⟩
          rw [ect]
          intro σ2 r2 o2
          refine ⟨?_, G0, G, δ1, A', r2, ?_⟩
          · rw [o2 vs hx, wipe_idem]
          · cases et : ctest δ1 with
            | ex C => rw [et] at hgo; cases hgo
            | no => rw [et] at hgo; cases hgo
            | ok b =>
              rw [et] at hgo
              intro A2 H2 b' S2 eb
              have eb : b' = b := eb
              subst eb
              cases b' with
              | false =>
                rw [if_neg Bool.false_ne_true]
                have n2 : A2 Dn = none := (S'.trans S2).n Dn _ nA hH trivial
                exact (key A2 H2 acc vacc (S1.trans S2) (S'.e0.trans S2.e0) n2 (S2.e _ _ (S'.e _ _ hH)) (hacc.mono (S'.e0.trans S2.e0)) hgo).2
              | true =>
                rw [if_pos rfl]
                have hgo' : (match celt δ1 with
                  | .ok y => if acc.length < sizeLine then lcGo ct ctest celt (wipeD δ vs) (ds.drop (i + 1)) (acc ++ [y]) else R.no
                  | _ => .no) = .ok res := hgo
                refine ⟨G0, G, δ1, A2, r2.step S2, ?_⟩
                cases ec : celt δ1 with
                | ex C => rw [ec] at hgo'; cases hgo'
                | no => rw [ec] at hgo'; cases hgo'
                | ok y =>
                  rw [ec] at hgo'
                  intro A3 H3 v S3 dv
                  have hgo2 : (if acc.length < sizeLine then lcGo ct ctest celt (wipeD δ vs) (ds.drop (i + 1)) (acc ++ [y]) else R.no) = .ok res := hgo'
                  split at hgo2
                  · rename_i hsz
                    have S23 := (S'.trans S2).trans S3
                    have n3 : A3 Dn = none := S23.n Dn _ nA hH trivial
                    have T := S.trans S23
                    refine ⟨vacc, S23.e _ _ hH, by rw [hacc.length]; exact hsz, (key A3 _ (acc ++ [y]) (vacc ++ [v]) ⟨T.e0, fun a o z => ?_, fun a o z => ?_, T.n⟩ S23.e0 n3 upd_same ((hacc.mono S23.e0).append (.cons dv .nil)) hgo2).2⟩
                    · rw [upd_ne (ne_of_none z zD)]; exact T.e a o z
                    · rw [upd_ne (ne_of_none z n3)]; exact T.k a o z
                  · cases hgo2
      · have ei : i = ds.length := by omega
        subst ei
        refine .inl ⟨wki.2 (List.getElem?_eq_none (Nat.le_refl _)), ?_⟩
        rw [List.drop_length] at hgo
        have ea : acc = res := R.ok.inj hgo
        subst ea
        exact p2 A H (.ref Dn) S ⟨Dn, vacc, rfl, zD, nA, hH, hacc⟩
end Dw
namespace Dw
open PySem L2 PyProof.Rows
/-! ### own lists looked at as known ones -/
def borS : Sl → Sl
  | .ow ds => .pu (.lst ds)
  | .oo dss => .pu (.lst (dss.map D.lst))
  | .os C fs ds => .pu (.obj C fs ds)
  | .tr o => .pu o.d
  | s => s
def bor (δ : List Sl) : List Sl := δ.map borS
def keepS : Option Sl → Bool
  | some (.od _) => true
  | _ => false
section
variable {K : PySem.W.Frag} {G0 G H0 H : Hp} {δ : List Sl} {σ : L2.St}
theorem oo_known {J0 : Hp} (e0 : Same H0 J0) : ∀ {ps : List Addr} {dss : List (List D)}, (∀ a ∈ ps, J0 a = H a) → OoAll K H0 H ps dss → DrAll K J0 (ps.map V.ref) (dss.map D.lst)
  | _, _, _, .nil => .nil
  | _, _, e, .cons h r t => .cons (.lst (.inl ((e _ List.mem_cons_self).trans h)) (r.mono e0)) (oo_known e0 (fun a ha => e a (List.mem_cons_of_mem _ ha)) t)
open Classical in
theorem Rel.bor (r : Rel K G0 G δ σ H0 H) : ∃ J0, Same H0 J0 ∧ Rel K G0 G (bor δ) σ J0 H ∧ ∀ b o, J0 b = some o → H0 b = some o ∨ (H b = some o ∧ Ownk o) := by
  obtain ⟨fp, ow⟩ := r.own
  let own : Addr → Prop := fun b => ∃ i, keepS (δ[i]?) = false ∧ b ∈ fp i
  let J0 : Hp := fun b => match H0 b with
    | some o => some o
    | none => if own b then H b else none
  have j1 : ∀ b o, H0 b = some o → J0 b = some o := fun b o e => by
    show (match H0 b with
      | some o => some o
      | none => if own b then H b else none) = _
    rw [e]
  have j2 : ∀ b, H0 b = none → J0 b = if own b then H b else none := fun b e => by
    show (match H0 b with
      | some o => some o
      | none => if own b then H b else none) = _
    rw [e]
  have j3 : ∀ b o, J0 b = some o → H0 b = some o ∨ (H0 b = none ∧ own b ∧ H b = some o) := fun b o e => by
    cases h : H0 b with
    | some u =>
      rw [j1 b u h] at e
      exact .inl e
    | none =>
      rw [j2 b h] at e
      split at e
      · exact .inr ⟨rfl, by assumption, e⟩
      · cases e
  have j4 : ∀ i b, keepS (δ[i]?) = false → b ∈ fp i → J0 b = H b := fun i b h m => by
    rw [j2 b (ow.n i b m).2, if_pos ⟨i, h, m⟩]
  refine ⟨J0, j1, ⟨⟨r.st.e0.trans j1, r.st.e, fun b o e => ?_, fun a o z w u => ?_⟩, by rw [Dw.bor, List.length_map]; exact r.len, fun i d e => ?_, fun i d e => ?_, fun i => if keepS (δ[i]?) = true then fp i else [], ⟨fun i => ?_, fun i j a h1 h2 => ?_, fun i a h1 => ?_⟩⟩, fun b o e => ?_⟩
  · rcases j3 b o e with h | ⟨_, _, h⟩
    · exact r.st.k b o h
    · exact h
  · rw [j2 a (r.st.n a o z w u)]
    rw [if_neg]
    rintro ⟨i, _, h2⟩
    rw [(ow.n i a h2).1] at w
    cases w
  · rw [Dw.bor, List.getElem?_map] at e
    have os := ow.s i
    cases h : δ[i]? with
    | none => rw [h] at e; cases e
    | some s =>
      rw [h] at e
      rw [h] at os
      cases s with
      | un => cases e
      | nt d' => cases e
      | od d' => cases e
      | pu d' =>
        cases e
        obtain ⟨v, a, b⟩ := r.pu i _ h
        exact ⟨v, a, b.mono j1⟩
      | ow ds =>
        cases e
        obtain ⟨p, vs, a, f, hp, q⟩ := os
        refine ⟨_, a, .lst (.inl ?_) (q.mono j1)⟩
        rw [j4 i p (by rw [h]; rfl) (by rw [f]; exact List.mem_cons_self)]
        exact hp
      | oo dss =>
        cases e
        obtain ⟨p, ps, a, f, nd, hp, q⟩ := os
        refine ⟨_, a, .lst (.inl ?_) (oo_known j1 (fun b hb => j4 i b (by rw [h]; rfl) (by rw [f]; exact List.mem_cons_of_mem _ hb)) q)⟩
        rw [j4 i p (by rw [h]; rfl) (by rw [f]; exact List.mem_cons_self)]
        exact hp
      | os C fs ds =>
        cases e
        obtain ⟨p, dx, fvs, a, f, ne, hp, ho, hn, q⟩ := os
        subst hn
        refine ⟨_, a, .obj (dx := dx) ?_ (q.mono j1)⟩
        rw [j4 i p (by rw [h]; rfl) (by rw [f]; exact List.mem_cons_self)]
        exact hp
      | tr o =>
        cases e
        obtain ⟨v, a, w⟩ := os
        exact ⟨v, a, w.known j1 o fun b m => j4 i b (by rw [h]; rfl) m⟩
  · rw [Dw.bor, List.getElem?_map] at e
    cases h : δ[i]? with
    | none => rw [h] at e; cases e
    | some s =>
      rw [h] at e
      cases s <;> cases e
      obtain ⟨v, a, b⟩ := r.nt i _ h
      exact ⟨v, a, b.mono j1⟩
  · rw [Dw.bor, List.getElem?_map]
    have os := ow.s i
    cases h : δ[i]? with
    | none => exact rfl
    | some s =>
      rw [h] at os
      cases s with
      | un => exact rfl
      | nt d' => exact rfl
      | pu d' => exact rfl
      | ow ds => exact rfl
      | oo dss => exact rfl
      | os C fs ds => exact rfl
      | tr o => exact rfl
      | od ks => exact OwnO.mono os j1 fun _ _ _ z => z
  · have h1' : a ∈ (if keepS (δ[i]?) = true then fp i else []) := h1
    have h2' : a ∈ (if keepS (δ[j]?) = true then fp j else []) := h2
    split at h1'
    · split at h2'
      · exact ow.d i j a h1' h2'
      · cases h2'
    · cases h1'
  · have h1' : a ∈ (if keepS (δ[i]?) = true then fp i else []) := h1
    split at h1'
    · rename_i hk
      refine ⟨(ow.n i a h1').1, ?_⟩
      rw [j2 a (ow.n i a h1').2, if_neg]
      rintro ⟨j, h3, h4⟩
      rw [ow.d j i a h4 h1', hk] at h3
      cases h3
    · cases h1'
  · rcases j3 b o e with h | ⟨_, ⟨i, _, h2⟩, h⟩
    · exact .inl h
    · obtain ⟨u, h3, h4⟩ := (ow.s i).there h2
      rw [h] at h3
      cases h3
      exact .inr ⟨h, h4⟩
open Classical in
/-- what was known grows, without the own lists -/
theorem back {J0 J1 H' : Hp} (e : Same H0 H) (e0 : Same H0 J0) (hl : ∀ b o, J0 b = some o → H0 b = some o ∨ (H b = some o ∧ Ownk o)) (s : Stp J0 H J1 H') :
    ∃ H1, Stp H0 H H1 H' ∧ (∀ b o, J1 b = some o → ¬ Ownk o → H1 b = some o) ∧ ∀ b, J1 b = none → H1 b = none := by
  let H1 : Hp := fun a => if H0 a = none ∧ ∃ o, H a = some o ∧ Ownk o then none else J1 a
  have h1 : ∀ a, ¬ (H0 a = none ∧ ∃ o, H a = some o ∧ Ownk o) → H1 a = J1 a := fun a c => if_neg c
  have h2 : ∀ a, (H0 a = none ∧ ∃ o, H a = some o ∧ Ownk o) → H1 a = none := fun a c => if_pos c
  refine ⟨H1, ⟨fun a o z => ?_, s.e, fun a o z => ?_, fun a o z w u => h2 a ⟨z, o, w, u⟩⟩, fun b o z nl => ?_, fun b z => ?_⟩
  · rw [h1 a (fun c => by rw [c.1] at z; cases z)]
    exact s.e0 a o (e0 a o z)
  · by_cases c : H0 a = none ∧ ∃ o, H a = some o ∧ Ownk o
    · rw [h2 a c] at z; cases z
    · rw [h1 a c] at z; exact s.k a o z
  · rw [h1 b]
    · exact z
    · rintro ⟨c1, u, c2, c3⟩
      have q1 := s.e b u c2
      have q2 := s.k b o z
      rw [q1] at q2
      cases q2
      exact nl c3
  · by_cases c : H0 b = none ∧ ∃ o, H b = some o ∧ Ownk o
    · exact h2 b c
    · rw [h1 b c]; exact z
end
/-! ### an expression in a statement: as it is; else own lists are looked at; else they are known from here on -/
def evA (c : C) (δ : List Sl) : R (D × List Sl) := match c δ with
  | .ok d => .ok (d, δ)
  | .ex C => .ex C
  | .no => match c (bor δ) with
    | .ok d => if d.flat = true then .ok (d, δ) else .ok (d, bor δ)
    | .ex C => .ex C
    | .no => .no
def evN (c : CA) (δ : List Sl) : R (List D × List Sl) := match c δ with
  | .ok d => .ok (d, δ)
  | .ex C => .ex C
  | .no => match c (bor δ) with
    | .ok d => if D.flat.flats d = true then .ok (d, δ) else .ok (d, bor δ)
    | .ex C => .ex C
    | .no => .no
def evT (c : CB) (δ : List Sl) : R Bool := c (bor δ)
def evI (c : CA) (δ : List Sl) : R (List D × List Sl) := match c δ with
  | .ok d => .ok (d, δ)
  | .ex C => .ex C
  | .no => match c (bor δ) with
    | .ok d => .ok (d, bor δ)
    | .ex C => .ex C
    | .no => .no
section
variable {K : PySem.W.Frag} {W : WX} {G0 G H0 H : Hp} {δ : List Sl} {σ : L2.St}
theorem evA_ok {te : TE} {c : C} (h : Ev K W (SV K) te c) (r : Rel K G0 G δ σ H0 H) {Q : VK} (p : match evA c δ with
    | .ok (d, δ') => ∀ H0' H' v, Same H0 H0' → Rel K G0 G δ' σ H0' H' → Dr K H0' v d → Q v H'
    | .ex C => ∀ H0' H', Same H0 H0' → Rel K G0 G δ σ H0' H' → W (.ref (He.ga K C)) none σ H'
    | .no => False) : te σ H Q := by
  unfold evA at p
  cases e : c δ with
  | ok d =>
    rw [e] at p
    refine h G0 G δ σ H0 H Q r ?_
    rw [e]
    exact fun A B v s q => p A B v s.e0 (r.step s) q
  | ex C =>
    rw [e] at p
    refine h G0 G δ σ H0 H Q r ?_
    rw [e]
    exact fun A B s => p A B s.e0 (r.step s)
  | no =>
    rw [e] at p
    obtain ⟨J0, e0, rb, hl⟩ := r.bor
    refine h G0 G (bor δ) σ J0 H Q rb ?_
    cases e2 : c (bor δ) with
    | ok d =>
      have p' : match (if d.flat = true then R.ok (d, δ) else R.ok (d, bor δ)) with
        | .ok (d, δ') => ∀ H0' H' v, Same H0 H0' → Rel K G0 G δ' σ H0' H' → Dr K H0' v d → Q v H'
        | .ex C => ∀ H0' H', Same H0 H0' → Rel K G0 G δ σ H0' H' → W (.ref (He.ga K C)) none σ H'
        | .no => False := by
        rw [e2] at p
        exact p
      intro A B v s q
      by_cases hf : d.flat = true
      · rw [if_pos hf] at p'
        obtain ⟨H1, s1, cut, _⟩ := back r.same e0 hl s
        exact p' H1 B v s1.e0 (r.step s1) (Dr.cut cut d hf q)
      · rw [if_neg hf] at p'
        exact p' A B v (e0.trans s.e0) (rb.step s) q
    | ex C =>
      rw [e2] at p
      intro A B s
      obtain ⟨H1, s1, _, _⟩ := back r.same e0 hl s
      exact p H1 B s1.e0 (r.step s1)
    | no =>
      rw [e2] at p
      exact p
theorem evT_ok {tt : TT} {c : CB} (h : Ev K W SB tt c) (r : Rel K G0 G δ σ H0 H) {Q : Bool → Hp → Prop} (p : match evT c δ with
    | .ok b => ∀ H0' H', Same H0 H0' → Rel K G0 G δ σ H0' H' → Q b H'
    | .ex C => ∀ H0' H', Same H0 H0' → Rel K G0 G δ σ H0' H' → W (.ref (He.ga K C)) none σ H'
    | .no => False) : tt σ H Q := by
  unfold evT at p
  obtain ⟨J0, e0, rb, hl⟩ := r.bor
  refine h G0 G (bor δ) σ J0 H Q rb ?_
  cases e2 : c (bor δ) with
  | ok d =>
    rw [e2] at p
    intro A B v s q
    have q : v = d := q
    subst q
    obtain ⟨H1, s1, cut, _⟩ := back r.same e0 hl s
    exact p H1 B s1.e0 (r.step s1)
  | ex C =>
    rw [e2] at p
    intro A B s
    obtain ⟨H1, s1, _, _⟩ := back r.same e0 hl s
    exact p H1 B s1.e0 (r.step s1)
  | no =>
    rw [e2] at p
    exact p
/-- p is a new list, in no slot -/
def NewL (K : PySem.W.Frag) (G H0 H : Hp) (δ : List Sl) (σ : L2.St) (v : V) (ds : List D) : Prop := ∃ p vs, v = .ref p ∧ G p = none ∧ H0 p = none ∧ H p = some (.lst vs) ∧ DrAll K H0 vs ds ∧ ∃ fp, OwnF K G H0 H δ σ fp ∧ ∀ j, p ∉ fp j
theorem evN_ok {te : TE} {c : CA} (h : Ev K W (SW K) te c) (r : Rel K G0 G δ σ H0 H) {Q : VK} (p : match evN c δ with
    | .ok (d, δ') => ∀ H0' H' v, Same H0 H0' → Rel K G0 G δ' σ H0' H' → NewL K G H0' H' δ' σ v d → Q v H'
    | .ex C => ∀ H0' H', Same H0 H0' → Rel K G0 G δ σ H0' H' → W (.ref (He.ga K C)) none σ H'
    | .no => False) : te σ H Q := by
  have nw : ∀ {a : Addr} {A B : Hp}, H a = none → Stp H0 H A B → ∃ fp, OwnF K G A B δ σ fp ∧ ∀ j, a ∉ fp j := fun {a A B} ha st => by
    obtain ⟨fp, o⟩ := r.own
    refine ⟨fp, o.step st, fun j m => ?_⟩
    obtain ⟨u, h1, _⟩ := (o.s j).there m
    rw [ha] at h1
    cases h1
  unfold evN at p
  cases e : c δ with
  | ok d =>
    rw [e] at p
    refine h G0 G δ σ H0 H Q r ?_
    rw [e]
    intro A B v s q
    obtain ⟨a, vs, rfl, n1, n2, hb, hr⟩ := q
    exact p A B _ s.e0 (r.step s) ⟨a, vs, rfl, r.st.e.free n1, n2, hb, hr, nw n1 s⟩
  | ex C =>
    rw [e] at p
    refine h G0 G δ σ H0 H Q r ?_
    rw [e]
    exact fun A B s => p A B s.e0 (r.step s)
  | no =>
    rw [e] at p
    obtain ⟨J0, e0, rb, hl⟩ := r.bor
    refine h G0 G (bor δ) σ J0 H Q rb ?_
    cases e2 : c (bor δ) with
    | ok d =>
      have p' : match (if D.flat.flats d = true then R.ok (d, δ) else R.ok (d, bor δ)) with
        | .ok (d, δ') => ∀ H0' H' v, Same H0 H0' → Rel K G0 G δ' σ H0' H' → NewL K G H0' H' δ' σ v d → Q v H'
        | .ex C => ∀ H0' H', Same H0 H0' → Rel K G0 G δ σ H0' H' → W (.ref (He.ga K C)) none σ H'
        | .no => False := by
        rw [e2] at p
        exact p
      intro A B v s q
      obtain ⟨a, vs, rfl, n1, n2, hb, hr⟩ := q
      by_cases hf : D.flat.flats d = true
      · rw [if_pos hf] at p'
        obtain ⟨H1, s1, cut, cn⟩ := back r.same e0 hl s
        exact p' H1 B _ s1.e0 (r.step s1) ⟨a, vs, rfl, r.st.e.free n1, cn a n2, hb, DrAll.cut cut d hf hr, nw n1 s1⟩
      · rw [if_neg hf] at p'
        obtain ⟨fp, o⟩ := rb.own
        refine p' A B _ (e0.trans s.e0) (rb.step s) ⟨a, vs, rfl, r.st.e.free n1, n2, hb, hr, fp, o.step s, fun j m => ?_⟩
        obtain ⟨u, h1, _⟩ := (o.s j).there m
        rw [n1] at h1
        cases h1
    | ex C =>
      rw [e2] at p
      intro A B s
      obtain ⟨H1, s1, _, _⟩ := back r.same e0 hl s
      exact p H1 B s1.e0 (r.step s1)
    | no =>
      rw [e2] at p
      exact p
theorem evI_ok {wi : TI} {c : CA} (h : Ev K W (SI0 K) wi c) (r : Rel K G0 G δ σ H0 H) {Q : It → Hp → Prop} (p : match evI c δ with
    | .ok (d, δ') => ∀ H0' H' J, Same H0 H0' → Rel K G0 G δ' σ H0' H' → Wk K J H0' d → Q J H'
    | .ex C => ∀ H0' H', Same H0 H0' → Rel K G0 G δ σ H0' H' → W (.ref (He.ga K C)) none σ H'
    | .no => False) : wi σ H Q := by
  unfold evI at p
  cases e : c δ with
  | ok d =>
    rw [e] at p
    refine h G0 G δ σ H0 H Q r ?_
    rw [e]
    exact fun A B v s q => p A B v s.e0 (r.step s) q
  | ex C =>
    rw [e] at p
    refine h G0 G δ σ H0 H Q r ?_
    rw [e]
    exact fun A B s => p A B s.e0 (r.step s)
  | no =>
    rw [e] at p
    obtain ⟨J0, e0, rb, hl⟩ := r.bor
    refine h G0 G (bor δ) σ J0 H Q rb ?_
    cases e2 : c (bor δ) with
    | ok d =>
      rw [e2] at p
      exact fun A B v s q => p A B v (e0.trans s.e0) (rb.step s) q
    | ex C =>
      rw [e2] at p
      intro A B s
      obtain ⟨H1, s1, _, _⟩ := back r.same e0 hl s
      exact p H1 B s1.e0 (r.step s1)
    | no =>
      rw [e2] at p
      exact p
end
end Dw
namespace Dw
open PySem L2 PyProof.Rows
/-! ### statements -/
inductive Fl where
  | nx (δ : List Sl)
  | rt (d : D)
  | rtl (ds : List D)
  | rtt (ds : List D)
  | rtr (o : O)
  | bk (δ : List Sl)
  | ct (δ : List Sl)
  | ex (C : Str) (δ : List Sl)
  | no
abbrev CS := List Sl → Fl
def PostS (K : PySem.W.Frag) (W : WX) (G0 G H0 : Hp) (E : Ends) : Fl → Prop
  | .nx δ => ∀ σ H0' H', Same H0 H0' → Rel K G0 G δ σ H0' H' → E.nx σ H'
  | .rt d => ∀ H0' H' v, Same H0 H0' → Stp G0 G H0' H' → Dr K H0' v d → E.rt v H'
  | .rtl ds => ∀ H0' H' v, Same H0 H0' → Stp G0 G H0' H' → SW K G H0' H' v ds → E.rt v H'
  | .rtt ds => ∀ H0' H' v, Same H0 H0' → Stp G0 G H0' H' → TupK K H0' v ds → E.rt v H'
  | .rtr o => ∀ H0' H' v, Same H0 H0' → Stp G0 G H0' H' → TrK K G H0' H' v o → E.rt v H'
  | .bk δ => ∀ σ H0' H', Same H0 H0' → Rel K G0 G δ σ H0' H' → E.bk σ H'
  | .ct δ => ∀ σ H0' H', Same H0 H0' → Rel K G0 G δ σ H0' H' → E.ct σ H'
  | .ex C δ => ∀ σ H0' H', Same H0 H0' → Rel K G0 G δ σ H0' H' → W (.ref (He.ga K C)) none σ H'
  | .no => False
def EvS (K : PySem.W.Frag) (W : WX) (t : TS) (c : CS) : Prop := ∀ G0 G δ σ H0 H E, Rel K G0 G δ σ H0 H → PostS K W G0 G H0 E (c δ) → t E σ H
def SS (X : Cx) (W : WX) (st : Stmt) (c : CS) : Prop := ∃ t, PS X st t ∧ EvS X.K W t c
def SSs (X : Cx) (W : WX) (st : List Stmt) (c : CS) : Prop := ∃ t, PSs X st t ∧ EvS X.K W t c
theorem PostS.mono {K : PySem.W.Frag} {W : WX} {G0 G H0 J0 : Hp} {E : Ends} {r : Fl} (h : PostS K W G0 G H0 E r) (s : Same H0 J0) : PostS K W G0 G J0 E r := by
  cases r with
  | nx δ => exact fun σ A B e q => h σ A B (s.trans e) q
  | rt d => exact fun A B v e q => h A B v (s.trans e) q
  | rtl d => exact fun A B v e q => h A B v (s.trans e) q
  | rtt d => exact fun A B v e q => h A B v (s.trans e) q
  | rtr d => exact fun A B v e q => h A B v (s.trans e) q
  | bk δ => exact fun σ A B e q => h σ A B (s.trans e) q
  | ct δ => exact fun σ A B e q => h σ A B (s.trans e) q
  | ex C δ => exact fun σ A B e q => h σ A B (s.trans e) q
  | no => exact h
def cNoS : CS := fun _ => .no
def cNx : CS := fun δ => .nx δ
def fSeq : Fl → CS → Fl
  | .nx δ, k => k δ
  | r, _ => r
def cSeq (a b : CS) : CS := fun δ => fSeq (a δ) b
section
variable {X : Cx} {W : WX}
theorem ss_none {st : Stmt} : SS X W st cNoS := ⟨_, ps_never, fun _ _ _ _ _ _ _ _ p => p⟩
theorem sss_none {st : List Stmt} : SSs X W st cNoS := ⟨_, pss_never, fun _ _ _ _ _ _ _ _ p => p⟩
theorem sss_nil : SSs X W [] cNx := ⟨_, pss_nil, fun G0 G δ σ H0 H E r p => p σ H0 H (Same.refl _) r⟩
theorem sss_cons {st : Stmt} {sts : List Stmt} {a b : CS} (h1 : SS X W st a) (h2 : SSs X W sts b) : SSs X W (st :: sts) (cSeq a b) := by
  obtain ⟨t, p, v⟩ := h1
  obtain ⟨u, q, w⟩ := h2
  refine ⟨_, pss_cons p q, fun G0 G δ σ H0 H E r po => ?_⟩
  refine v G0 G δ σ H0 H { E with nx := u E } r ?_
  have po' : PostS X.K W G0 G H0 E (fSeq (a δ) b) := po
  cases e : a δ with
  | nx δ' =>
    rw [e] at po'
    exact fun σ' A B s r' => w G0 G δ' σ' A B E r' (PostS.mono po' s)
  | rt d => rw [e] at po'; exact po'
  | rtl d => rw [e] at po'; exact po'
  | rtt d => rw [e] at po'; exact po'
  | rtr d => rw [e] at po'; exact po'
  | bk δ' => rw [e] at po'; exact po'
  | ct δ' => rw [e] at po'; exact po'
  | ex C δ' => rw [e] at po'; exact po'
  | no => rw [e] at po'; exact po'
theorem ss_pass {pos : Pos} : SS X W (.Pass pos) cNx := ⟨_, ps_pass, fun G0 G δ σ H0 H E r p => p σ H0 H (Same.refl _) r⟩
def cBk : CS := fun δ => .bk δ
def cCt : CS := fun δ => .ct δ
theorem ss_break {pos : Pos} : SS X W (.Break pos) cBk := ⟨_, ps_break, fun G0 G δ σ H0 H E r p => p σ H0 H (Same.refl _) r⟩
theorem ss_cont {pos : Pos} : SS X W (.Continue pos) cCt := ⟨_, ps_continue, fun G0 G δ σ H0 H E r p => p σ H0 H (Same.refl _) r⟩
/-! an expression alone -/
def isComp : Expr → Bool
  | .ListComp _ _ _ _ => true
  | .SetComp _ _ _ _ => true
  | .DictComp _ _ _ _ _ => true
  | _ => false
theorem swaps_of {e : Expr} {tg : Option Expr} {l : Nat} {env : Env} (h : isComp e = false) : swapsWith e tg l env = pure false := by
  cases e <;> first | rfl | cases h
def fA {α : Type} (r : R (α × List Sl)) (δ : List Sl) (k : α → List Sl → Fl) : Fl := match r with
  | .ok (d, δ') => k d δ'
  | .ex C => .ex C δ
  | .no => .no
def cExp (c : C) : CS := fun δ => fA (evA c δ) δ fun _ δ' => .nx δ'
theorem ss_expr {e : Expr} {pos : Pos} {c : C} (h : SE X W e c) (hc : isComp e = false) : SS X W (.Expr e pos) (cExp c) := by
  obtain ⟨t, p, v⟩ := h
  refine ⟨_, ps_expr p (swaps_of hc), fun G0 G δ σ H0 H E r po => evA_ok v r ?_⟩
  have po' : PostS X.K W G0 G H0 E (fA (evA c δ) δ fun _ δ' => .nx δ') := po
  split
  · rename_i d δ' e
    rw [e] at po'
    exact fun A B x s r' _ => po' σ A B s r'
  · rename_i C e
    rw [e] at po'
    exact fun A B s r' => po' σ A B s r'
  · rename_i e
    rw [e] at po'
    exact po'
/-! return -/
def cRetV (c : C) : CS := fun δ => fA (evA c δ) δ fun d _ => .rt d
def cRetN (cn : CA) : CS := fun δ => fA (evN cn δ) δ fun d _ => .rtl d
def cRetO (i : Nat) : CS := fun δ => match δ[i]? with
  | some (.ow ds) => .rtl ds
  | some (.pu d) => .rt d
  | some (.nt ds) => .rt (.tup ds)
  | some (.tr o) => .rtr o
  | _ => .no
def cRetN0 : CS := fun _ => .rt .non
theorem evs_ret {K : PySem.W.Frag} {t : TE} {c : C} (v : Ev K W (SV K) t c) : EvS K W (tRet t) (cRetV c) := fun G0 G δ σ H0 H E r po => by
  refine evA_ok v r ?_
  have po' : PostS K W G0 G H0 E (fA (evA c δ) δ fun d _ => .rt d) := po
  split
  · rename_i d δ' e
    rw [e] at po'
    exact fun A B x s r' hd => po' A B x s r'.st hd
  · rename_i C e
    rw [e] at po'
    exact fun A B s r' => po' σ A B s r'
  · rename_i e
    rw [e] at po'
    exact po'
theorem ss_retV {e : Expr} {pos : Pos} {c : C} (h : SE X W e c) : SS X W (.Return (some e) pos) (cRetV c) := by
  obtain ⟨t, p, v⟩ := h
  exact ⟨_, ps_ret p, evs_ret v⟩
theorem ss_retN {e : Expr} {pos : Pos} {c : CA} (h : SN X W e c) : SS X W (.Return (some e) pos) (cRetN c) := by
  obtain ⟨t, p, v⟩ := h
  refine ⟨_, ps_ret p, fun G0 G δ σ H0 H E r po => evN_ok v r ?_⟩
  have po' : PostS X.K W G0 G H0 E (fA (evN c δ) δ fun d _ => .rtl d) := po
  split
  · rename_i d δ' e
    rw [e] at po'
    intro A B x s r' hd
    obtain ⟨a, vs, rfl, g, n, hb, hr, _⟩ := hd
    exact po' A B _ s r'.st ⟨a, vs, rfl, g, n, hb, hr⟩
  · rename_i C e
    rw [e] at po'
    exact fun A B s r' => po' σ A B s r'
  · rename_i e
    rw [e] at po'
    exact po'
/-- two readings of one expression -/
theorem pe_or2 {e : Expr} {t u : TE} (a : PE X e t) (b : PE X e u) : PE X e (fun σ H Q => t σ H Q ∨ u σ H Q) := ⟨fun pins s σ H Q I h => by
  rcases h with h | h
  · exact a.run pins s σ H Q I h
  · exact b.run pins s σ H Q I h⟩
/-- the first closure that does not stop -/
def cOrS (a b : CS) : CS := fun δ => match a δ with
  | .no => b δ
  | r => r
theorem ps_or2 {st : Stmt} {t u : TS} (a : PS X st t) (b : PS X st u) : PS X st (fun E σ H => t E σ H ∨ u E σ H) := ⟨fun pins s σ H Q I h => by
  rcases h with h | h
  · exact a.run pins s σ H Q I h
  · exact b.run pins s σ H Q I h⟩
theorem ss_or {st : Stmt} {a b : CS} (ha : SS X W st a) (hb : SS X W st b) : SS X W st (cOrS a b) := by
  obtain ⟨t, p, v⟩ := ha
  obtain ⟨u, q, w⟩ := hb
  refine ⟨_, ps_or2 p q, fun G0 G δ σ H0 H E r po => ?_⟩
  have po' : PostS X.K W G0 G H0 E (match a δ with
    | .no => b δ
    | r => r) := po
  cases e : a δ with
  | no =>
    rw [e] at po'
    exact .inr (w G0 G δ σ H0 H E r po')
  | nx δ' => rw [e] at po'; exact .inl (v G0 G δ σ H0 H E r (by rw [e]; exact po'))
  | rt d => rw [e] at po'; exact .inl (v G0 G δ σ H0 H E r (by rw [e]; exact po'))
  | rtl d => rw [e] at po'; exact .inl (v G0 G δ σ H0 H E r (by rw [e]; exact po'))
  | rtt d => rw [e] at po'; exact .inl (v G0 G δ σ H0 H E r (by rw [e]; exact po'))
  | rtr d => rw [e] at po'; exact .inl (v G0 G δ σ H0 H E r (by rw [e]; exact po'))
  | bk δ' => rw [e] at po'; exact .inl (v G0 G δ σ H0 H E r (by rw [e]; exact po'))
  | ct δ' => rw [e] at po'; exact .inl (v G0 G δ σ H0 H E r (by rw [e]; exact po'))
  | ex C δ' => rw [e] at po'; exact .inl (v G0 G δ σ H0 H E r (by rw [e]; exact po'))
theorem ss_retO {i : Nat} {x : Str} {p pos : Pos} (hN : X.N[i]? = some x) (hv : Vis X.env.scope x) (hd : (x == ("__debug__" : Str)) = false) (hcd : (x == ("__classdict__" : Str)) = false) : SS X W (.Return (some (.Name x p)) pos) (cRetO i) := by
  refine ⟨_, ps_ret (pe_var hN hv hd hcd), fun G0 G δ σ H0 H E r po => ?_⟩
  have po' : PostS X.K W G0 G H0 E (match δ[i]? with
    | some (.ow ds) => Fl.rtl ds
    | some (.pu d) => .rt d
    | some (.nt ds) => .rt (.tup ds)
    | some (.tr o) => .rtr o
    | _ => .no) := po
  cases e : δ[i]? with
  | none => rw [e] at po'; exact po'.elim
  | some s =>
    rw [e] at po'
    cases s with
    | un => exact po'.elim
    | oo d => exact po'.elim
    | od d => exact po'.elim
    | os C fs ds => exact po'.elim
    | tr o =>
      obtain ⟨fp, w⟩ := r.own
      have z := w.s i
      rw [e] at z
      obtain ⟨v, h, q⟩ := z
      exact ⟨v, h, po' H0 H v (Same.refl _) r.st ⟨_, q, fun a m => w.n i a m⟩⟩
    | nt d =>
      obtain ⟨v, h, q⟩ := r.nt i d e
      exact ⟨v, h, po' H0 H v (Same.refl _) r.st q.dr⟩
    | pu d =>
      obtain ⟨v, h, q⟩ := r.pu i d e
      exact ⟨v, h, po' H0 H v (Same.refl _) r.st q⟩
    | ow ds =>
      obtain ⟨p, vs, h, g, n, hp, q⟩ := r.ow i ds e
      exact ⟨_, h, po' H0 H _ (Same.refl _) r.st ⟨p, vs, rfl, g, n, hp, q⟩⟩
theorem ss_ret0 {pos : Pos} : SS X W (.Return none pos) cRetN0 := ⟨_, ps_retN, fun G0 G δ σ H0 H E r p => p H0 H .non (Same.refl _) r.st .non⟩
/-! a name is set -/
def cAsg (i : Nat) (c : C) : CS := fun δ => fA (evA c δ) δ fun d δ' => .nx (δ'.set i (.pu d))
def cAsgN (i : Nat) (c : CA) : CS := fun δ => fA (evN c δ) δ fun d δ' => .nx (δ'.set i (.ow d))
theorem evs_asg {K : PySem.W.Frag} {t : TE} {c : C} {i : Nat} (v : Ev K W (SV K) t c) : EvS K W (tAsg t (gName i)) (cAsg i c) := fun G0 G δ σ H0 H E r po => by
  refine evA_ok v r ?_
  have po' : PostS K W G0 G H0 E (fA (evA c δ) δ fun d δ' => .nx (δ'.set i (.pu d))) := po
  split
  · rename_i d δ' e
    rw [e] at po'
    exact fun A B x s r' hd => po' _ A B s (r'.setP hd)
  · rename_i C e
    rw [e] at po'
    exact fun A B s r' => po' σ A B s r'
  · rename_i e
    rw [e] at po'
    exact po'
theorem evs_asgN {K : PySem.W.Frag} {t : TE} {c : CA} {i : Nat} (v : Ev K W (SW K) t c) : EvS K W (tAsg t (gName i)) (cAsgN i c) := fun G0 G δ σ H0 H E r po => by
  refine evN_ok v r ?_
  have po' : PostS K W G0 G H0 E (fA (evN c δ) δ fun d δ' => .nx (δ'.set i (.ow d))) := po
  split
  · rename_i d δ' e
    rw [e] at po'
    intro A B x s r' hd
    obtain ⟨a, vs, rfl, g, n, hb, hr, fp, o, nw⟩ := hd
    exact po' _ A B s (r'.setO o g n hb hr nw)
  · rename_i C e
    rw [e] at po'
    exact fun A B s r' => po' σ A B s r'
  · rename_i e
    rw [e] at po'
    exact po'
theorem ss_set {i : Nat} {x : Str} {e : Expr} {p pos : Pos} {c : C} (hN : X.N.Nodup) (hi : X.N[i]? = some x) (hx : Loc X.env.scope x) (hf : X.fn x = true) (h : SE X W e c) (hc : isComp e = false) : SS X W (.Assign [.Name x p] e pos) (cAsg i c) := by
  obtain ⟨t, p, v⟩ := h
  exact ⟨_, ps_set hN hi hx p (swaps_of hc) (.inl hf), evs_asg v⟩
theorem ss_setN {i : Nat} {x : Str} {e : Expr} {p pos : Pos} {c : CA} (hN : X.N.Nodup) (hi : X.N[i]? = some x) (hx : Loc X.env.scope x) (hf : X.fn x = true) (h : SN X W e c) (hc : isComp e = false) : SS X W (.Assign [.Name x p] e pos) (cAsgN i c) := by
  obtain ⟨t, p, v⟩ := h
  exact ⟨_, ps_set hN hi hx p (swaps_of hc) (.inl hf), evs_asgN v⟩
/-! a target of another kind: a tuple of names, from a value -/
def cAsgT (ct : CT) (c : C) : CS := fun δ => fA (evA c δ) δ fun d δ' => match ct d δ' with
  | some δ2 => .nx δ2
  | none => .no
theorem ss_asgT {tg e : Expr} {pos : Pos} {ct : CT} {ix : List Nat} {c : C} (hg : SG X tg ct ix) (h : SE X W e c) (hc : isComp e = false) (hp : plainArg tg = true) (hw : swappedStores [tg] e X.env = pure none) : SS X W (.Assign [tg] e pos) (cAsgT ct c) := by
  obtain ⟨t, p, v⟩ := h
  obtain ⟨g, q, w⟩ := hg
  refine ⟨_, ps_asg p q (show swapsWith e (some tg) pos.line X.env = pure false from swaps_of hc) hw (by rw [assign_of hp]; rfl), fun G0 G δ σ H0 H E r po => evA_ok v r ?_⟩
  have po' : PostS X.K W G0 G H0 E (fA (evA c δ) δ fun d δ' => match ct d δ' with
    | some δ2 => .nx δ2
    | none => .no) := po
  split
  · rename_i d δ' e
    rw [e] at po'
    intro A B x s r' hd
    refine w G0 G δ' σ A B x d _ r' hd ?_
    have po2 : PostS X.K W G0 G H0 E (match ct d δ' with
      | some δ2 => .nx δ2
      | none => .no) := po'
    cases e2 : ct d δ' with
    | none => rw [e2] at po2; exact po2
    | some δ2 =>
      rw [e2] at po2
      exact fun σ' r2 _ => po2 σ' A B s r2
  · rename_i C e
    rw [e] at po'
    exact fun A B s r' => po' σ A B s r'
  · rename_i e
    rw [e] at po'
    exact po'
/-! name op= int -/
def kAug (i : Nat) (f : Int → Int → Int) (a : Int) (d : D) (δ' : List Sl) : Fl := match d with
  | .int b => .nx (δ'.set i (.pu (.int (f a b))))
  | _ => .no
def cAug (i : Nat) (f : Int → Int → Int) (c : C) : CS := fun δ => match δ[i]? with
  | some (.pu (.int a)) => fA (evA c δ) δ fun d δ' => kAug i f a d δ'
  | _ => .no
/-! if -/
def cIfS (t : CB) (a b : CS) : CS := fun δ => match evT t δ with
  | .ok true => a δ
  | .ok false => b δ
  | .ex C => .ex C δ
  | .no => .no
theorem ss_if {t : Expr} {as bs : List Stmt} {pos : Pos} {ct : CB} {a b : CS} (h : ST X W t ct) (ha : SSs X W as a) (hb : SSs X W bs b) : SS X W (.If t as bs pos) (cIfS ct a b) := by
  obtain ⟨tt, p, v⟩ := h
  obtain ⟨u, q, w⟩ := ha
  obtain ⟨u2, q2, w2⟩ := hb
  refine ⟨_, ps_if p q q2, fun G0 G δ σ H0 H E r po => evT_ok v r ?_⟩
  have po' : PostS X.K W G0 G H0 E (match evT ct δ with
    | .ok true => a δ
    | .ok false => b δ
    | .ex C => .ex C δ
    | .no => .no) := po
  cases e : evT ct δ with
  | ok k =>
    rw [e] at po'
    intro A B s r'
    cases k with
    | true => exact w G0 G δ σ A B E r' (PostS.mono po' s)
    | false => exact w2 G0 G δ σ A B E r' (PostS.mono po' s)
  | ex C =>
    rw [e] at po'
    exact fun A B s r' => po' σ A B s r'
  | no => rw [e] at po'; exact po'
/-! for -/
def fLoop (r : Fl) (k : List Sl → Fl) : Fl := match r with
  | .nx δ => k δ
  | .ct δ => k δ
  | .bk δ => .nx δ
  | r => r
def forGo (ct : CT) (cb : CS) : List D → List Sl → Fl
  | [], δ => .nx δ
  | d :: ds, δ => match ct d δ with
    | none => .no
    | some δ1 => fLoop (cb δ1) (forGo ct cb ds)
def cFor (ci : CA) (ct : CT) (cb : CS) : CS := fun δ => fA (evI ci δ) δ fun ds δ' => forGo ct cb ds δ'
theorem for_core {g : TG} {tb : TS} {ct : CT} {ix : List Nat} {cb : CS} (w : EvG X.K g ct ix) (vb : EvS X.K W tb cb) {G0 G Z0 A1 B1 : Hp} {J : It} {ds : List D} {δ0 : List Sl} {σ : L2.St} {E : Ends} (s1 : Same Z0 A1) (r1 : Rel X.K G0 G δ0 σ A1 B1) (wk : Wk X.K J A1 ds) (po2 : PostS X.K W G0 G Z0 E (forGo ct cb ds δ0)) :
    ∃ Wi : Nat → Nat → L2.St → Hp → Prop, (∃ m, Wi 0 m σ B1) ∧ ∀ i m σ H, Wi i m σ H →
      (J.stop i H ∧ E.nx σ H) ∨ (J.go i H ∧ ∃ N : L2.St → Hp → Prop, (∀ σ' H', N σ' H' → ∃ m', m' < m ∧ Wi (i + 1) m' σ' H') ∧ ∀ x H', J.yld i H x H' → g x σ H' fun σ2 H2 => tb { E with nx := N, ct := N, bk := E.nx } σ2 H2) := by
  generalize er : forGo ct cb ds δ0 = r at po2
  refine ⟨fun i m σ H => m = ds.length - i ∧ i ≤ ds.length ∧ ∃ δ A, Same A1 A ∧ Same Z0 A ∧ Rel X.K G0 G δ σ A H ∧ forGo ct cb (ds.drop i) δ = r, ⟨ds.length, by simp, Nat.zero_le _, δ0, A1, Same.refl _, s1, r1, er⟩, ?_⟩
  rintro i m σ H ⟨rfl, hi, δ, A, e1, e2, rl, hgo⟩
  have wki := wk i A H e1 rl.same
  by_cases hlt : i < ds.length
  · have hd : ds[i]? = some ds[i] := List.getElem?_eq_getElem hlt
    obtain ⟨go, yl⟩ := wki.1 _ hd
    rw [List.drop_eq_getElem_cons hlt] at hgo
    refine .inr ⟨go, fun σ' H' => i + 1 ≤ ds.length ∧ ∃ δ A, Same A1 A ∧ Same Z0 A ∧ Rel X.K G0 G δ σ' A H' ∧ forGo ct cb (ds.drop (i + 1)) δ = r, fun σ' H' z => ⟨ds.length - (i + 1), by omega, rfl, z⟩, fun x H' y => ?_⟩
    obtain ⟨A', S', dx⟩ := yl x H' y
    have rl' := rl.step S'
    refine w G0 G δ σ A' H' x _ _ rl' dx ?_
    have hgo' : (match ct ds[i] δ with
      | none => Fl.no
      | some δ1 => fLoop (cb δ1) (forGo ct cb (ds.drop (i + 1)))) = r := hgo
    cases ec : ct ds[i] δ with
    | none =>
      rw [ec] at hgo'
      rw [← hgo'] at po2
      exact po2
    | some δ1 =>
      rw [ec] at hgo'
      intro σ2 r2 _
      refine vb G0 G δ1 σ2 A' H' _ r2 ?_
      have hgo2 : fLoop (cb δ1) (forGo ct cb (ds.drop (i + 1))) = r := hgo'
      have go2 : ∀ δ2, fLoop (.nx δ2) (forGo ct cb (ds.drop (i + 1))) = r → ∀ σ' A2 H2, Same A' A2 → Rel X.K G0 G δ2 σ' A2 H2 → i + 1 ≤ ds.length ∧ ∃ δ A, Same A1 A ∧ Same Z0 A ∧ Rel X.K G0 G δ σ' A H2 ∧ forGo ct cb (ds.drop (i + 1)) δ = r :=
        fun δ2 h σ' A2 H2 s2 r3 => ⟨hlt, δ2, A2, (e1.trans S'.e0).trans s2, (e2.trans S'.e0).trans s2, r3, h⟩
      cases eb : cb δ1 with
      | nx δ2 =>
        rw [eb] at hgo2
        exact fun σ' A2 H2 s2 r3 => go2 δ2 hgo2 σ' A2 H2 s2 r3
      | ct δ2 =>
        rw [eb] at hgo2
        exact fun σ' A2 H2 s2 r3 => go2 δ2 hgo2 σ' A2 H2 s2 r3
      | bk δ2 =>
        rw [eb] at hgo2
        rw [← hgo2] at po2
        exact fun σ' A2 H2 s2 r3 => po2 σ' A2 H2 ((e2.trans S'.e0).trans s2) r3
      | rt d =>
        rw [eb] at hgo2
        rw [← hgo2] at po2
        exact PostS.mono (r := .rt d) po2 (e2.trans S'.e0)
      | rtl d =>
        rw [eb] at hgo2
        rw [← hgo2] at po2
        exact PostS.mono (r := .rtl d) po2 (e2.trans S'.e0)
      | rtt d =>
        rw [eb] at hgo2
        rw [← hgo2] at po2
        exact PostS.mono (r := .rtt d) po2 (e2.trans S'.e0)
      | rtr d =>
        rw [eb] at hgo2
        rw [← hgo2] at po2
        exact PostS.mono (r := .rtr d) po2 (e2.trans S'.e0)
      | ex C δ2 =>
        rw [eb] at hgo2
        rw [← hgo2] at po2
        exact PostS.mono (r := .ex C δ2) po2 (e2.trans S'.e0)
      | no =>
        rw [eb] at hgo2
        rw [← hgo2] at po2
        exact po2
  · have ei : i = ds.length := by omega
    subst ei
    refine .inl ⟨wki.2 (List.getElem?_eq_none (Nat.le_refl _)), ?_⟩
    rw [List.drop_length] at hgo
    rw [← hgo] at po2
    exact po2 σ A H e2 rl
theorem ss_for {tg iter : Expr} {body : List Stmt} {pos : Pos} {ci : CA} {ct : CT} {ix : List Nat} {cb : CS} (hp : PassesOwn (model X.prog X.w) X.A X.env X.xe) (hc : X.calm = true) (hi : SI X W tg iter ci) (hg : SG X tg ct ix) (hb : SSs X W body cb)
    (hs : ∀ x, foldedSetIterable iter X.env x = pure x) : SS X W (.For tg iter body [] pos) (cFor ci ct cb) := by
  obtain ⟨wi, p, v⟩ := hi
  obtain ⟨g, q, w⟩ := hg
  obtain ⟨tb, pb, vb⟩ := hb
  refine ⟨_, ps_for hp hc p q pb hs, fun G0 G δ σ Z0 Z E rl po => ?_⟩
  have po' : PostS X.K W G0 G Z0 E (fA (evI ci δ) δ fun ds δ' => forGo ct cb ds δ') := po
  refine evI_ok v rl ?_
  split
  · rename_i ds δ0 e
    rw [e] at po'
    intro A1 B1 J s1 r1 wk
    have po2 : PostS X.K W G0 G Z0 E (forGo ct cb ds δ0) := po'
    exact for_core w vb s1 r1 wk po2
  · rename_i C e
    rw [e] at po'
    exact fun A B s r' => po' σ A B s r'
  · rename_i e
    rw [e] at po'
    exact po'
/-! while -/
def whN (t : CB) (b : CS) : Nat → List Sl → Fl
  | 0, _ => .no
  | n + 1, δ => match evT t δ with
    | .ok true => fLoop (b δ) (whN t b n)
    | .ok false => .nx δ
    | .ex C => .ex C δ
    | .no => .no
end
end Dw
namespace Dw
open PySem L2 PyProof.Rows
/-! ### while: what some number of turns answers -/
theorem whN_mono {t : CB} {b : CS} : ∀ (n : Nat) (δ : List Sl), whN t b n δ ≠ .no → whN t b (n + 1) δ = whN t b n δ
  | 0, δ, h => absurd rfl h
  | n + 1, δ, h => by
    have e1 : whN t b (n + 1) δ = match evT t δ with
      | .ok true => fLoop (b δ) (whN t b n)
      | .ok false => .nx δ
      | .ex C => .ex C δ
      | .no => .no := rfl
    have e2 : whN t b (n + 1 + 1) δ = match evT t δ with
      | .ok true => fLoop (b δ) (whN t b (n + 1))
      | .ok false => .nx δ
      | .ex C => .ex C δ
      | .no => .no := rfl
    rw [e1] at h ⊢
    rw [e2]
    cases et : evT t δ with
    | no => rfl
    | ex C => rfl
    | ok k =>
      cases k with
      | false => rfl
      | true =>
        rw [et] at h
        have h' : fLoop (b δ) (whN t b n) ≠ .no := h
        show fLoop (b δ) (whN t b (n + 1)) = fLoop (b δ) (whN t b n)
        cases eb : b δ with
        | nx δ' => rw [eb] at h'; exact whN_mono n δ' h'
        | ct δ' => rw [eb] at h'; exact whN_mono n δ' h'
        | _ => rfl
theorem whN_le {t : CB} {b : CS} {δ : List Sl} {n : Nat} (h : whN t b n δ ≠ .no) : ∀ k, whN t b (n + k) δ = whN t b n δ
  | 0 => rfl
  | k + 1 => by
    have ih := whN_le h k
    rw [← Nat.add_assoc, whN_mono (n + k) δ (by rw [ih]; exact h), ih]
open Classical in
noncomputable def cWh (t : CB) (b : CS) : CS := fun δ => if h : ∃ n, whN t b n δ ≠ .no then whN t b (Classical.choose h) δ else .no
theorem cWh_of {t : CB} {b : CS} {δ : List Sl} {n : Nat} {r : Fl} (h : whN t b n δ = r) (hr : r ≠ .no) : cWh t b δ = r := by
  have hx : ∃ n, whN t b n δ ≠ .no := ⟨n, by rw [h]; exact hr⟩
  unfold cWh
  rw [dif_pos hx]
  have hm := Classical.choose_spec hx
  have a := whN_le hm n
  have b' := whN_le (n := n) (by rw [h]; exact hr) (Classical.choose hx)
  rw [Nat.add_comm, b'] at a
  rw [← a, h]
theorem cWh_some {t : CB} {b : CS} {δ : List Sl} (h : cWh t b δ ≠ .no) : ∃ n, whN t b n δ = cWh t b δ := by
  unfold cWh at h ⊢
  split at h
  · rename_i hx
    rw [dif_pos hx]
    exact ⟨_, rfl⟩
  · exact absurd rfl h
section
variable {X : Cx} {W : WX}
theorem ss_while {t : Expr} {body : List Stmt} {pos : Pos} {ct : CB} {cb : CS} (hp : PassesOwn (model X.prog X.w) X.A X.env X.xe) (ht : ST X W t ct) (hb : SSs X W body cb) : SS X W (.While t body [] pos) (cWh ct cb) := by
  obtain ⟨tt, p, v⟩ := ht
  obtain ⟨tb, q, w⟩ := hb
  refine ⟨_, ps_while hp p q, fun G0 G δ σ Z0 Z E rl po => ?_⟩
  have nn : cWh ct cb δ ≠ .no := fun z => by rw [z] at po; exact po
  obtain ⟨n, hn⟩ := cWh_some nn
  generalize cWh ct cb δ = r at po hn nn
  refine ⟨fun m σ H => ∃ δ A, Same Z0 A ∧ Rel X.K G0 G δ σ A H ∧ whN ct cb m δ = r, ⟨n, δ, Z0, Same.refl _, rl, hn⟩, ?_⟩
  rintro m σ H ⟨δ, A, e0, rl, hm⟩
  cases m with
  | zero => exact absurd hm.symm nn
  | succ m =>
    refine evT_ok v rl ?_
    have hm' : (match evT ct δ with
      | .ok true => fLoop (cb δ) (whN ct cb m)
      | .ok false => .nx δ
      | .ex C => .ex C δ
      | .no => .no) = r := hm
    cases et : evT ct δ with
    | no =>
      rw [et] at hm'
      exact nn hm'.symm
    | ex C =>
      rw [et] at hm'
      rw [← hm'] at po
      exact fun A2 B2 s r2 => po σ A2 B2 (e0.trans s) r2
    | ok k =>
      rw [et] at hm'
      intro A2 B2 s r2
      cases k with
      | false =>
        rw [if_neg Bool.false_ne_true]
        rw [← hm'] at po
        exact po σ A2 B2 (e0.trans s) r2
      | true =>
        rw [if_pos rfl]
        have h2 : fLoop (cb δ) (whN ct cb m) = r := hm'
        refine ⟨fun σ' H' => ∃ δ A, Same Z0 A ∧ Rel X.K G0 G δ σ' A H' ∧ whN ct cb m δ = r, fun σ' H' z => ⟨m, Nat.lt_succ_self _, z⟩, ?_⟩
        refine w G0 G δ σ A2 B2 _ r2 ?_
        cases eb : cb δ with
        | nx δ2 => rw [eb] at h2; exact fun σ' A3 B3 s3 r3 => ⟨δ2, A3, (e0.trans s).trans s3, r3, h2⟩
        | ct δ2 => rw [eb] at h2; exact fun σ' A3 B3 s3 r3 => ⟨δ2, A3, (e0.trans s).trans s3, r3, h2⟩
        | bk δ2 =>
          rw [eb] at h2
          rw [← h2] at po
          exact fun σ' A3 B3 s3 r3 => po σ' A3 B3 ((e0.trans s).trans s3) r3
        | rt d => rw [eb] at h2; rw [← h2] at po; exact PostS.mono (r := .rt d) po (e0.trans s)
        | rtl d => rw [eb] at h2; rw [← h2] at po; exact PostS.mono (r := .rtl d) po (e0.trans s)
        | rtt d => rw [eb] at h2; rw [← h2] at po; exact PostS.mono (r := .rtt d) po (e0.trans s)
        | rtr d => rw [eb] at h2; rw [← h2] at po; exact PostS.mono (r := .rtr d) po (e0.trans s)
        | ex C δ2 => rw [eb] at h2; rw [← h2] at po; exact PostS.mono (r := .ex C δ2) po (e0.trans s)
        | no => rw [eb] at h2; exact nn h2.symm
/-! ### own lists are stored into -/
def cAppd (i : Nat) (c : C) : CS := fun δ => match δ[i]? with
  | some (.ow _) => fA (evA c δ) δ fun d δ' => (match δ'[i]? with
    | some (.ow ds) => if ds.length < sizeLine then .nx (δ'.set i (.ow (ds ++ [d]))) else .no
    | _ => .no)
  | _ => .no
theorem few_one {e : Expr} {env : Env} {cpos : Pos} (h : plainArg e = true) : ((backTo cpos (starEach [e] env)).all (fun x => !x.1) && (backToKw cpos (keywordEach [] env)).all (fun x => x.1.isSome)
      && decide ([e].length + ([] : List Keyword).length + (if ([] : List Keyword).isEmpty then 0 else 1) < 30)) = true := by
  rw [star_of h]
  rfl
theorem few_two {e f : Expr} {env : Env} {cpos : Pos} (h : plainArg e = true) (h2 : plainArg f = true) : ((backTo cpos (starEach [e, f] env)).all (fun x => !x.1) && (backToKw cpos (keywordEach [] env)).all (fun x => x.1.isSome)
      && decide ([e, f].length + ([] : List Keyword).length + (if ([] : List Keyword).isEmpty then 0 else 1) < 30)) = true := by
  rw [star_of h, star_of h2]
  rfl
theorem ss_append {i : Nat} {x : Str} {e : Expr} {p ap cp pos : Pos} {c : C} (hN : X.N[i]? = some x) (hv : Vis X.env.scope x) (hd : (x == ("__debug__" : Str)) = false) (hcd : (x == ("__classdict__" : Str)) = false) (h : SE X W e c) (he : plainArg e = true) (hl : (ap.endLine == cp.line) = true) :
    SS X W (.Expr (.Call (.Attribute (.Name x p) "append" ap) [e] [] cp) pos) (cAppd i c) := by
  obtain ⟨t, q, v⟩ := h
  refine ⟨_, ps_expr (pe_bm PySem.F.plainAttrs_list PySem.F.slot_list_append PySem.F.type_list_append mt_append (pe_var hN hv hd hcd) (pa_cons q pa_nil (star_of he)) rfl (few_one he) hl (star_of he) rfl) rfl, fun G0 G δ σ H0 H E r po => ?_⟩
  have po' : PostS X.K W G0 G H0 E (match δ[i]? with
    | some (.ow _) => fA (evA c δ) δ fun d δ' => (match δ'[i]? with
      | some (.ow ds) => if ds.length < sizeLine then .nx (δ'.set i (.ow (ds ++ [d]))) else .no
      | _ => .no)
    | _ => .no) := po
  split at po'
  · rename_i ds0 e0
    obtain ⟨a, vs, hs, g, n, ha, hr⟩ := r.ow i ds0 e0
    refine ⟨_, hs, .inl ⟨rfl, vs, SqL.of ha⟩, ?_⟩
    refine evA_ok v r ?_
    split
    · rename_i d δ' e1
      rw [e1] at po'
      intro A B x s r' hd
      have po2 : PostS X.K W G0 G H0 E (match δ'[i]? with
        | some (.ow ds) => if ds.length < sizeLine then .nx (δ'.set i (.ow (ds ++ [d]))) else .no
        | _ => .no) := po'
      split at po2
      · rename_i ds e2
        split at po2
        · rename_i hz
          obtain ⟨a', ws, hs', g', n', ha', hr'⟩ := r'.ow i ds e2
          rw [hs] at hs'
          cases hs'
          exact ⟨a, ws, x, rfl, rfl, ha', by rw [hr'.length]; exact hz, po2 σ A _ s (r'.put e2 hs (hr'.append (.cons hd .nil)))⟩
        · exact po2.elim
      · exact po2.elim
    · rename_i C e1
      rw [e1] at po'
      exact fun A B s r' => po' σ A B s r'
    · rename_i e1
      rw [e1] at po'
      exact po'
  · exact po'.elim
def kIns (i : Nat) (k d : D) (δ' : List Sl) : Fl := match δ'[i]? with
  | some (.ow ds) => (match k with
    | .int j => if ds.length < sizeLine ∧ 0 ≤ j ∧ j < 2 ^ 63 then .nx (δ'.set i (.ow (ds.take j.toNat ++ [d] ++ ds.drop j.toNat))) else .no
    | _ => .no)
  | _ => .no
def cIns (i : Nat) (c1 c2 : C) : CS := fun δ => match δ[i]? with
  | some (.ow _) => fA (evA c1 δ) δ fun k δ1 => fA (evA c2 δ1) δ1 fun d δ' => kIns i k d δ'
  | _ => .no
theorem ss_insert {i : Nat} {x : Str} {e f : Expr} {p ap cp pos : Pos} {c1 c2 : C} (hN : X.N[i]? = some x) (hv : Vis X.env.scope x) (hd : (x == ("__debug__" : Str)) = false) (hcd : (x == ("__classdict__" : Str)) = false) (h : SE X W e c1) (h2 : SE X W f c2) (he : plainArg e = true) (hf : plainArg f = true) (hl : (ap.endLine == cp.line) = true) :
    SS X W (.Expr (.Call (.Attribute (.Name x p) "insert" ap) [e, f] [] cp) pos) (cIns i c1 c2) := by
  obtain ⟨t, q, v⟩ := h
  obtain ⟨u, q2, v2⟩ := h2
  refine ⟨_, ps_expr (pe_bm PySem.F.plainAttrs_list PySem.F.slot_list_insert PySem.F.type_list_insert mt_insert (pe_var hN hv hd hcd) (pa_cons q (pa_cons q2 pa_nil (star_of hf)) (star_of he)) rfl (few_two he hf) hl (star_of he) (by rw [star_of hf]; rfl)) rfl, fun G0 G δ σ H0 H E r po => ?_⟩
  unfold cIns at po
  split at po
  · rename_i ds0 e0
    obtain ⟨a, vs, hs, g, n, ha, hr⟩ := r.ow i ds0 e0
    refine ⟨_, hs, .inl ⟨rfl, vs, SqL.of ha⟩, ?_⟩
    refine evA_ok v r ?_
    cases e1 : evA c1 δ with
    | no => rw [e1] at po; exact po
    | ex C => rw [e1] at po; exact fun A B s r' => po σ A B s r'
    | ok z =>
      obtain ⟨k, δ1⟩ := z
      rw [e1] at po
      intro A B x s r' hk
      have po2 : PostS X.K W G0 G H0 E (fA (evA c2 δ1) δ1 fun d δ' => kIns i k d δ') := po
      refine evA_ok v2 r' ?_
      cases e2 : evA c2 δ1 with
      | no => rw [e2] at po2; exact po2
      | ex C => rw [e2] at po2; exact fun A2 B2 s2 r2 => po2 σ A2 B2 (s.trans s2) r2
      | ok z =>
        obtain ⟨d, δ'⟩ := z
        rw [e2] at po2
        intro A2 B2 y s2 r2 hd
        have po3 : PostS X.K W G0 G H0 E (kIns i k d δ') := po2
        unfold kIns at po3
        split at po3
        · rename_i ds e3
          split at po3
          · rename_i j
            split at po3
            · rename_i hz
              obtain ⟨a', ws, hs', g', n', ha', hr'⟩ := r2.ow i ds e3
              rw [hs] at hs'
              cases hs'
              cases hk
              exact ⟨a, ws, j, y, rfl, rfl, ha', by rw [hr'.length]; exact hz.1, hz.2.1, hz.2.2, po3 σ A2 _ (s.trans s2) (r2.put e3 hs (((hr'.take _).append (.cons hd .nil)).append (hr'.drop _)))⟩
            · exact po3.elim
          · exact po3.elim
        · exact po3.elim
  · exact po.elim
/-- x[k] = e -/
def kSetI (i : Nat) (d k : D) (δ' : List Sl) : Fl := match δ'[i]? with
  | some (.ow ds) => (match k with
    | .int j => (match ixN ds.length j with
      | some m => .nx (δ'.set i (.ow (ds.set m d)))
      | none => .no)
    | _ => .no)
  | _ => .no
def kSetJ (i : Nat) (ck : C) (d : D) (δ1 : List Sl) : Fl := match δ1[i]? with
  | some (.ow _) => fA (evA ck δ1) δ1 fun k δ' => kSetI i d k δ'
  | _ => .no
def cSetI (i : Nat) (ck c : C) : CS := fun δ => fA (evA c δ) δ fun d δ1 => kSetJ i ck d δ1
def notSlice : Expr → Bool
  | .Slice _ _ _ _ => false
  | _ => true
theorem asub_of {o k : Expr} {pos : Pos} {env : Env} (h : notSlice k = true) : ∀ v, assign (.Subscript o k pos) env v = (do
      let ov ← holding [v] (eval o env)
      let iv ← holding [v, ov] (eval k env)
      standAt pos
      holding [v, ov, iv] (setItem ov iv v)
      release [v, ov, iv] []) := by
  intro v
  cases k <;> first | rfl | cases h
theorem ss_setI {i : Nat} {x : Str} {e k : Expr} {p sp pos : Pos} {ck c : C} (hN : X.N[i]? = some x) (hv : Vis X.env.scope x) (hd : (x == ("__debug__" : Str)) = false) (hcd : (x == ("__classdict__" : Str)) = false) (hk : SE X W k ck) (h : SE X W e c) (hc : isComp e = false) (hs : notSlice k = true) :
    SS X W (.Assign [.Subscript (.Name x p) k sp] e pos) (cSetI i ck c) := by
  obtain ⟨t, q, v⟩ := h
  obtain ⟨u, q2, v2⟩ := hk
  refine ⟨_, ps_asg q (pg_sub (pe_var hN hv hd hcd) q2 set_list (asub_of hs)) (show swapsWith e (some (.Subscript (.Name x p) k sp)) pos.line X.env = pure false from swaps_of hc) rfl rfl, fun G0 G δ σ H0 H E r po => ?_⟩
  have po' : PostS X.K W G0 G H0 E (fA (evA c δ) δ fun d δ1 => kSetJ i ck d δ1) := po
  refine evA_ok v r ?_
  cases e1 : evA c δ with
  | no => rw [e1] at po'; exact po'
  | ex C => rw [e1] at po'; exact fun A B s r' => po' σ A B s r'
  | ok z =>
    obtain ⟨d, δ1⟩ := z
    rw [e1] at po'
    intro A B x s r' hd
    have po2 : PostS X.K W G0 G H0 E (kSetJ i ck d δ1) := po'
    unfold kSetJ at po2
    split at po2
    · rename_i ds0 e0
      obtain ⟨a, vs, hs, g, n, ha, hr⟩ := r'.ow i ds0 e0
      refine ⟨_, hs, ?_⟩
      refine evA_ok v2 r' ?_
      cases e2 : evA ck δ1 with
      | no => rw [e2] at po2; exact po2
      | ex C => rw [e2] at po2; exact fun A2 B2 s2 r2 => po2 σ A2 B2 (s.trans s2) r2
      | ok z =>
        obtain ⟨k2, δ'⟩ := z
        rw [e2] at po2
        intro A2 B2 y s2 r2 hk
        have po3 : PostS X.K W G0 G H0 E (kSetI i d k2 δ') := po2
        unfold kSetI at po3
        split at po3
        · rename_i ds e3
          split at po3
          · rename_i j
            split at po3
            · rename_i m hm
              obtain ⟨a', ws, hs', g', n', ha', hr'⟩ := r2.ow i ds e3
              rw [hs] at hs'
              cases hs'
              cases hk
              exact ⟨a, ws, j, m, rfl, rfl, ha', by rw [hr'.length]; exact hm, po3 σ A2 _ (s.trans s2) (r2.put e3 hs (hr'.set (Dr.mono s2 _ hd) m))⟩
            · exact po3.elim
          · exact po3.elim
        · exact po3.elim
    · exact po2.elim
/-! ### name += int -/
theorem ss_aug {i : Nat} {x : Str} {e : Expr} {op : Operator} {f : Int → Int → Int} {p pos : Pos} {c : C} (hN : X.N.Nodup) (hi : X.N[i]? = some x) (hx : Loc X.env.scope x) (hf : X.fn x = true) (ho : PIp X op (ipI f)) (h : SE X W e c) : SS X W (.AugAssign (.Name x p) op e pos) (cAug i f c) := by
  obtain ⟨t, q, v⟩ := h
  refine ⟨_, ps_aug hN hi hx q ho (.inl hf), fun G0 G δ σ H0 H E r po => ?_⟩
  unfold cAug at po
  split at po
  · rename_i a e0
    obtain ⟨v0, hs, hv⟩ := r.pu i _ e0
    cases hv
    refine ⟨_, hs, evA_ok v r ?_⟩
    cases e1 : evA c δ with
    | no => rw [e1] at po; exact po
    | ex C => rw [e1] at po; exact fun A B s r' => po σ A B s r'
    | ok z =>
      obtain ⟨d, δ'⟩ := z
      rw [e1] at po
      intro A B y s r' hd
      have po2 : PostS X.K W G0 G H0 E (kAug i f a d δ') := po
      unfold kAug at po2
      split at po2
      · rename_i b
        cases hd
        exact ⟨a, b, rfl, rfl, po2 _ A B s (r'.setP (.int _))⟩
      · exact po2.elim
  · exact po.elim
/-! ### a, b = e, f -/
def evL (c : CA) (δ : List Sl) : R (List D × List Sl) := match c δ with
  | .ok d => .ok (d, δ)
  | .ex C => .ex C
  | .no => match c (bor δ) with
    | .ok d => if D.flat.flats d = true then .ok (d, δ) else .ok (d, bor δ)
    | .ex C => .ex C
    | .no => .no
theorem evL_ok {K : PySem.W.Frag} {G0 G H0 H : Hp} {δ : List Sl} {σ : L2.St} {te : TA} {c : CA} (h : Ev K W (SA K) te c) (r : Rel K G0 G δ σ H0 H) {Q : List V → Hp → Prop} (p : match evL c δ with
    | .ok (d, δ') => ∀ H0' H' v, Same H0 H0' → Rel K G0 G δ' σ H0' H' → DrAll K H0' v d → Q v H'
    | .ex C => ∀ H0' H', Same H0 H0' → Rel K G0 G δ σ H0' H' → W (.ref (He.ga K C)) none σ H'
    | .no => False) : te σ H Q := by
  unfold evL at p
  cases e : c δ with
  | ok d =>
    rw [e] at p
    refine h G0 G δ σ H0 H Q r ?_
    rw [e]
    exact fun A B v s q => p A B v s.e0 (r.step s) q
  | ex C =>
    rw [e] at p
    refine h G0 G δ σ H0 H Q r ?_
    rw [e]
    exact fun A B s => p A B s.e0 (r.step s)
  | no =>
    rw [e] at p
    obtain ⟨J0, e0, rb, hl⟩ := r.bor
    refine h G0 G (bor δ) σ J0 H Q rb ?_
    cases e2 : c (bor δ) with
    | ok d =>
      have p' : match (if D.flat.flats d = true then R.ok (d, δ) else R.ok (d, bor δ)) with
        | .ok (d, δ') => ∀ H0' H' v, Same H0 H0' → Rel K G0 G δ' σ H0' H' → DrAll K H0' v d → Q v H'
        | .ex C => ∀ H0' H', Same H0 H0' → Rel K G0 G δ σ H0' H' → W (.ref (He.ga K C)) none σ H'
        | .no => False := by
        rw [e2] at p
        exact p
      intro A B v s q
      by_cases hf : D.flat.flats d = true
      · rw [if_pos hf] at p'
        obtain ⟨H1, s1, cut, _⟩ := back r.same e0 hl s
        exact p' H1 B v s1.e0 (r.step s1) (DrAll.cut cut d hf q)
      · rw [if_neg hf] at p'
        exact p' A B v (e0.trans s.e0) (rb.step s) q
    | ex C =>
      rw [e2] at p
      intro A B s
      obtain ⟨H1, s1, _, _⟩ := back r.same e0 hl s
      exact p H1 B s1.e0 (r.step s1)
    | no =>
      rw [e2] at p
      exact p
def kPar2 (i j : Nat) (ds : List D) (δ' : List Sl) : Fl := match ds with
  | [d, e] => .nx ((δ'.set i (.pu d)).set j (.pu e))
  | _ => .no
def cPar2 (i j : Nat) (c : CA) : CS := fun δ => fA (evL c δ) δ fun ds δ' => kPar2 i j ds δ'
def isStar : Expr → Bool
  | .Starred .. => true
  | _ => false
theorem star_no {e : Expr} (h : plainArg e = true) : isStar e = false := by
  cases e <;> first | rfl | exact Bool.noConfusion h
theorem sw_some {x y : Str} {px py pt p2 : Pos} {kt k2 : Nat} {a b : Expr} {env : Env} (hb : env.blockKind = .function) (h1 : plainArg a = true) (h2 : plainArg b = true) (hx : env.kindOf x = some .local) (hy : env.kindOf y = some .local) (hl : (py.line == px.line) = true) (hne : x ≠ y)
    (hf : ([a, b].all (foldedForSure 8)) = false) (hc : ([a, b].all (constantsAlone 8)) = false) : swappedStores [.Tuple [.Name x px, .Name y py] kt pt] (.Tuple [a, b] k2 p2) env = pure (some [x, y]) := by
  have nd : [x, y].eraseDups = [x, y] := by
    have hne' : (y == x) = false := beq_eq_false_iff_ne.mpr (Ne.symm hne)
    simp [List.eraseDups_cons, hne']
  have hl' : py.line = px.line := eq_of_beq hl
  have hf' : ¬ (foldedForSure 8 a = true ∧ foldedForSure 8 b = true) := fun z => by
    rw [List.all_cons, List.all_cons, List.all_nil, z.1, z.2] at hf
    cases hf
  have hc' : ¬ (constantsAlone 8 a = true ∧ constantsAlone 8 b = true) := fun z => by
    rw [List.all_cons, List.all_cons, List.all_nil, z.1, z.2] at hc
    cases hc
  unfold swappedStores
  simp only [hb, List.length_cons, List.length_nil, List.head?_cons, Option.map_some, Option.getD_some, Expr.pos]
  simp only [List.any_cons, List.any_nil, Bool.or_false]
  refine Eq.trans (if_neg (by decide)) ?_
  refine Eq.trans (if_neg (show ¬ ((isStar a || isStar b) = true) by rw [star_no h1, star_no h2]; decide)) ?_
  simp [hx, hy, hl', nd, hf', hc']
theorem ss_par2 {i j : Nat} {x y : Str} {a b : Expr} {px py pt p2 pos : Pos} {kt k2 : Nat} {c : CA} (hcm : X.calm = true) (hN : X.N.Nodup) (hi : X.N[i]? = some x) (hj : X.N[j]? = some y) (hij : i ≠ j)
    (hx : X.env.scope.names.lookup x = some .local) (hy : X.env.scope.names.lookup y = some .local) (h : SL X W [a, b] c) (hw : swappedStores [.Tuple [.Name x px, .Name y py] kt pt] (.Tuple [a, b] k2 p2) X.env = pure (some [x, y])) :
    SS X W (.Assign [.Tuple [.Name x px, .Name y py] kt pt] (.Tuple [a, b] k2 p2) pos) (cPar2 i j c) := by
  obtain ⟨t, q, v⟩ := h
  refine ⟨_, ps_par hcm hN hi hj hij hx hy q hw rfl, fun G0 G δ σ H0 H E r po => evL_ok v r ?_⟩
  have po' : PostS X.K W G0 G H0 E (fA (evL c δ) δ fun ds δ' => kPar2 i j ds δ') := po
  cases e1 : evL c δ with
  | no => rw [e1] at po'; exact po'
  | ex C => rw [e1] at po'; exact fun A B s r' => po' σ A B s r'
  | ok z =>
    obtain ⟨ds, δ'⟩ := z
    rw [e1] at po'
    intro A B vs s r' hd
    have po2 : PostS X.K W G0 G H0 E (kPar2 i j ds δ') := po'
    unfold kPar2 at po2
    split at po2
    · rename_i d e
      obtain ⟨v, w, rfl, h1, h2⟩ := hd.two
      exact ⟨v, w, rfl, po2 _ A B s ((r'.setP h1).setP h2)⟩
    · exact po2.elim
end
end Dw
namespace Dw
open PySem L2 PyProof.Rows
/-! ### an item of a name's list, own or known -/
def cIxV (i : Nat) (k : C) : C := fun δ => match δ[i]? with
  | some (.pu d) => (k δ).bind fun e => dIx d e
  | some (.ow ds) => (k δ).bind fun e => (match e with
    | .int j => atD ds j
    | _ => .no)
  | _ => .no
section
variable {X : Cx} {W : WX}
theorem ev_ixV {K : PySem.W.Frag} {i : Nat} {t : TE} {c : C} (h : Ev K W (SV K) t c) : Ev K W (SV K) (tOp (rIxA K) (tVar i) t) (cIxV i c) := by
  intro G0 G δ σ H0 H Q r p
  unfold cIxV at p
  split at p
  · rename_i d e
    obtain ⟨v, hs, hv⟩ := r.pu i d e
    refine ⟨v, hs, h G0 G δ σ H0 H _ r ?_⟩
    cases ec : c δ with
    | no => rw [ec] at p; exact p
    | ex C => rw [ec] at p; exact p
    | ok f =>
      rw [ec] at p
      exact fun A B y s hy => opd_ix (W := W) σ A B v y d f Q (r.step s).same (Dr.mono s.e0 _ hv) hy (Post.mono downV p s)
  · rename_i ds e
    obtain ⟨a, vs, hs, g, n, ha, hr⟩ := r.ow i ds e
    refine ⟨_, hs, h G0 G δ σ H0 H _ r ?_⟩
    cases ec : c δ with
    | no => rw [ec] at p; exact p
    | ex C => rw [ec] at p; exact p
    | ok f =>
      rw [ec] at p
      intro A B y s hy
      cases hy with
      | int j =>
        have p' : Post K W σ H0 H (SV K) (atD ds j) Q := p
        rcases atD_ex (ds := ds) (i := j) with ⟨z, hz⟩ | hz
        · rw [hz] at p'
          obtain ⟨w, hw, hd⟩ := atD_ok hr hz
          exact .inl (.inl ⟨a, vs, j, w, rfl, rfl, SqL.of (s.e _ _ ha), hw, p' A B w s (Dr.mono s.e0 _ hd)⟩)
        · rw [hz] at p'
          exact p'.elim
      | _ => exact p.elim
  · exact p.elim
theorem ix_plain {k : Expr} (h : notSlice k = true) : PlainIx k := by
  intro o i
  cases k <;> first | rfl | cases h
theorem se_ix {a k : Expr} {pos : Pos} {ca ck : C} (hu : X.A.units + 1 < cLine) (ha : SE X W a ca) (hk : SE X W k ck) (h : notSlice k = true) : SE X W (.Subscript a k pos) (cBin dIx ca ck) := by
  obtain ⟨t, p, v⟩ := ha
  obtain ⟨u, q, w⟩ := hk
  exact ⟨_, pe_ix (ix_seq.or (ix_dk hu)) p q (ix_plain h), ev_binG downV v w opd_ix⟩
theorem se_ixV {i : Nat} {x : Str} {k : Expr} {p pos : Pos} {ck : C} (hu : X.A.units + 1 < cLine) (hN : X.N[i]? = some x) (hv : Vis X.env.scope x) (hd : (x == ("__debug__" : Str)) = false) (hcd : (x == ("__classdict__" : Str)) = false) (hk : SE X W k ck) (h : notSlice k = true) : SE X W (.Subscript (.Name x p) k pos) (cIxV i ck) := by
  obtain ⟨u, q, w⟩ := hk
  exact ⟨_, pe_ix (ix_seq.or (ix_dk hu)) (pe_var hN hv hd hcd) q (ix_plain h), ev_ixV w⟩
/-! ### slices -/
abbrev CO := List Sl → R (Option Int)
def SO0 : Sat (Option Int) (Option Int) := fun _ _ _ b a => b = a
theorem downO : Down SO0 := fun _ _ _ _ _ _ _ h => h
def SP (X : Cx) (W : WX) (e : Option Expr) (c : CO) : Prop := ∃ t, PO X e t ∧ Ev X.K W SO0 t c
def cNoP : CO := fun _ => .ok none
def dPt : D → R (Option Int)
  | .int i => .ok (some i)
  | _ => .no
theorem sp_none : SP X W none cNoP := ⟨_, po_none, fun G0 G δ σ H0 H Q r p => Post.here (show Post X.K W σ H0 H SO0 (.ok none) Q from p) r.same rfl⟩
theorem sp_some {e : Expr} {c : C} (h : SE X W e c) : SP X W (some e) (cUn dPt c) := by
  obtain ⟨t, p, v⟩ := h
  refine ⟨_, po_some p, ev_unG (r := fun x H Q => ∃ i, x = .int i ∧ Q (some i) H) downO v fun σ H0 H x d Q s h p => ?_⟩
  unfold dPt at p
  split at p
  · cases h
    exact ⟨_, rfl, Post.here p s rfl⟩
  · exact p.elim
def cSlG {α : Type} (f : Option Int → Option Int → D → R α) (a : C) (lo hi : CO) : List Sl → R α := fun δ => (a δ).bind fun d => (lo δ).bind fun l => (hi δ).bind fun h => f l h d
theorem ev_sl {K : PySem.W.Frag} {α : Type} {S : Sat α V} (hS : Down S) {f : Option Int → Option Int → D → R α} {te : TE} {tl th : TO} {ca : C} {cl ch : CO} (ha : Ev K W (SV K) te ca) (hl : Ev K W SO0 tl cl) (hh : Ev K W SO0 th ch)
    (hf : ∀ l h σ H0 H x d Q, Same H0 H → Dr K H0 x d → Post K W σ H0 H S (f l h d) Q → rSlAll K x l h H Q) : Ev K W S (tSl (rSlAll K) te tl th) (cSlG f ca cl ch) := by
  intro G0 G δ σ H0 H Q r p
  have p' : Post K W σ H0 H S ((ca δ).bind fun d => (cl δ).bind fun l => (ch δ).bind fun h => f l h d) Q := p
  refine ha G0 G δ σ H0 H _ r ?_
  cases e1 : ca δ with
  | no => rw [e1] at p'; exact p'
  | ex C => rw [e1] at p'; exact p'
  | ok d =>
    rw [e1] at p'
    intro A B x s hx
    refine hl G0 G δ σ A B _ (r.step s) ?_
    have p2 : Post K W σ H0 H S ((cl δ).bind fun l => (ch δ).bind fun h => f l h d) Q := p'
    cases e2 : cl δ with
    | no => rw [e2] at p2; exact p2
    | ex C => rw [e2] at p2; exact Post.mono (S := S) hS p2 s
    | ok l =>
      rw [e2] at p2
      intro A2 B2 l' s2 el
      have el : l' = l := el
      subst el
      refine hh G0 G δ σ A2 B2 _ ((r.step s).step s2) ?_
      have p3 : Post K W σ H0 H S ((ch δ).bind fun h => f l' h d) Q := p2
      cases e3 : ch δ with
      | no => rw [e3] at p3; exact p3
      | ex C => rw [e3] at p3; exact Post.mono (S := S) hS p3 (s.trans s2)
      | ok h =>
        rw [e3] at p3
        intro A3 B3 h' s3 eh
        have eh : h' = h := eh
        subst eh
        have S3 := (s.trans s2).trans s3
        exact hf l' h' σ A3 B3 x d Q (r.step S3).same (Dr.mono (s2.trans s3).e0 _ hx) (Post.mono hS p3 S3)
def dSlA (lo hi : Option Int) : D → R D
  | .lst ds => toL (dSlN lo hi (.lst ds))
  | .kst ds => toL (dSlN lo hi (.kst ds))
  | d => dSl lo hi d
theorem se_sl {a : Expr} {lo hi : Option Expr} {p2 pos : Pos} {ca : C} {cl ch : CO} (ha : SE X W a ca) (hl : SP X W lo cl) (hh : SP X W hi ch) : SE X W (.Subscript a (.Slice lo hi none p2) pos) (cSlG dSlA ca cl ch) := by
  obtain ⟨t, p, v⟩ := ha
  obtain ⟨u, q, w⟩ := hl
  obtain ⟨u2, q2, w2⟩ := hh
  refine ⟨_, pe_slice sl_all p q q2, ev_sl downV v w w2 fun l h σ H0 H x d Q s hx po => ?_⟩
  unfold dSlA at po
  split at po
  · exact sldN σ H0 H x _ Q s hx (post_L po)
  · exact sldN σ H0 H x _ Q s hx (post_L po)
  · exact sld σ H0 H x d Q s hx po
theorem sn_sl {a : Expr} {lo hi : Option Expr} {p2 pos : Pos} {ca : C} {cl ch : CO} (ha : SE X W a ca) (hl : SP X W lo cl) (hh : SP X W hi ch) : SN X W (.Subscript a (.Slice lo hi none p2) pos) (cSlG dSlN ca cl ch) := by
  obtain ⟨t, p, v⟩ := ha
  obtain ⟨u, q, w⟩ := hl
  obtain ⟨u2, q2, w2⟩ := hh
  exact ⟨_, pe_slice sl_all p q q2, ev_sl downW v w w2 fun l h σ H0 H x d Q s hx po => sldN σ H0 H x d Q s hx po⟩
def dRevN : D → R (List D)
  | .lst ds => .ok ds.reverse
  | .kst ds => .ok ds.reverse
  | _ => .no
theorem sn_rev {a : Expr} {k : Nat} {p1 p2 p3 pos : Pos} {ca : C} (ha : SE X W a ca) : SN X W (.Subscript a (.Slice none none (some (.UnaryOp .USub (.Constant (.int 1) k p1) p2)) p3) pos) (cUn dRevN ca) := by
  obtain ⟨t, p, v⟩ := ha
  refine ⟨_, pe_revL p, ev_unG (r := fun x H1 Q => ∃ a xs, x = .ref a ∧ SqL X.K H1 a xs ∧ ∀ p, H1 p = none → Q (.ref p) (upd H1 p (.lst xs.reverse))) downW v fun σ H0 H x d Q s h p => ?_⟩
  unfold dRevN at p
  split at p
  · obtain ⟨a, xs, rfl, q, r⟩ := h.lstK
    exact ⟨a, xs, rfl, s.seq (.inl q), fun n hn => p.newO s r.rev hn⟩
  · obtain ⟨a, xs, rfl, q, r⟩ := h.kstK
    exact ⟨a, xs, rfl, s.seq q, fun n hn => p.newO s r.rev hn⟩
  · exact p.elim
/-! ### {} -/
def cDct0 : C := fun _ => .ok (.dct [] [])
theorem se_dct0 {pos : Pos} : SE X W (.Dict [] [] pos) cDct0 := ⟨_, pe_dnewK, fun G0 G δ σ H0 H Q r p => fun a ha => (show Post X.K W σ H0 H (SV X.K) (.ok (.dct [] [])) Q from p) _ _ _ (Stp.new r.same ha) (.dct (kvs := []) upd_same .nil)⟩
/-! ### calls of built-ins -/
theorem se_blt {x : Str} {id : String} {e : Expr} {es : List Expr} {p pos : Pos} {r : List V → Hp → VK → Prop} {f : List D → R D} {ca : CA} (hc : CallR X (.builtin id) r) (hd : CallD X.K W r f) (hg : Gl X x) (hm : X.mg x = none) (hv : bootBuiltins x = some (.builtin id)) (hn : x ≠ "__name__") (hdb : (x == ("__debug__" : Str)) = false)
    (ha : SL X W (e :: es) ca) (h1 : plainArg e = true) (h2 : es.all plainArg = true) : SE X W (.Call (.Name x p) (e :: es) [] pos) (cApp f ca) := by
  obtain ⟨t, q, v⟩ := ha
  exact ⟨_, pe_callB hc hg hm hv q hn hdb (star_of h1) (star_all h2), ev_appG downV v hd⟩
theorem se_bty {x : Str} {id : String} {e : Expr} {es : List Expr} {p pos : Pos} {r : List V → Hp → VK → Prop} {f : List D → R D} {ca : CA} (hc : CallR X (.type id) r) (hd : CallD X.K W r f) (hg : Gl X x) (hm : X.mg x = none) (hv : bootBuiltins x = some (.type id)) (hn : x ≠ "__name__") (hdb : (x == ("__debug__" : Str)) = false)
    (ha : SL X W (e :: es) ca) (h1 : plainArg e = true) (h2 : es.all plainArg = true) : SE X W (.Call (.Name x p) (e :: es) [] pos) (cApp f ca) := by
  obtain ⟨t, q, v⟩ := ha
  exact ⟨_, pe_callTy hc hg hm hv q hn hdb (star_of h1) (star_all h2), ev_appG downV v hd⟩
theorem sn_bty {x : Str} {id : String} {e : Expr} {es : List Expr} {p pos : Pos} {r : List V → Hp → VK → Prop} {f : List D → R (List D)} {ca : CA} (hc : CallR X (.type id) r) (hd : CallN X.K W r f) (hg : Gl X x) (hm : X.mg x = none) (hv : bootBuiltins x = some (.type id)) (hn : x ≠ "__name__") (hdb : (x == ("__debug__" : Str)) = false)
    (ha : SL X W (e :: es) ca) (h1 : plainArg e = true) (h2 : es.all plainArg = true) : SN X W (.Call (.Name x p) (e :: es) [] pos) (cApp f ca) := by
  obtain ⟨t, q, v⟩ := ha
  exact ⟨_, pe_callTy hc hg hm hv q hn hdb (star_of h1) (star_all h2), ev_appG downW v hd⟩
theorem se_isi {e c : Expr} {p pos : Pos} {v : V} {u : Value} {f : D → Option Bool} {ca : C} (hg : Gl X "isinstance") (hm : X.mg "isinstance" = none) (hc : PE X c (tC v)) (hp : plainArg c = true) (hv : ClsV v u) (hf : IsOf X.K u f) (ha : SE X W e ca) (h1 : plainArg e = true) :
    SE X W (.Call (.Name "isinstance" p) [e, c] [] pos) (cUn (dIsi f) ca) := by
  obtain ⟨t, q, w⟩ := ha
  exact ⟨_, pe_callB call_isAny hg hm boot_isinstance (pa_cons q (pa_cons hc pa_nil (star_of hp)) (star_of h1)) (by decide) (by decide) (star_of h1) (by rw [star_of hp]; rfl), ev_isi hv hf w⟩
/-! ### raise X("..") -/
structure RzK (K : PySem.W.Frag) (mg : Str → Option Value) (x : Str) : Prop where
  gl : mg x = some (.ref (He.ga K x))
  xi : PySem.W.excIn K (He.ga K x) He.veBase "ValueError.__new__" = true
  kp : PySem.W.keepIn K (.ref (He.ga K x)) = true
  sb : PySem.W.subIn K (.ref (He.ga K x)) (.type "BaseException") = some true
  ty : PySem.W.typeIn K (.ref (He.ga K x)) = some (.type "type")
  db : (x == ("__debug__" : Str)) = false
def cRz (x : Str) : CS := fun δ => .ex x δ
theorem ss_raise {x m : Str} {j : Nat} {p p2 p3 pos : Pos} (hc : X.calm = true) (tk : Takes X W) (z : RzK X.K X.mg x) (hg : Gl X x) : SS X W (.Raise (some (.Call (.Name x p) [.Constant (.str m) j p2] [] p3)) none pos) (cRz x) :=
  ⟨_, ps_raise hc tk (pmk_own PySem.F.excBase_ValueError z.xi z.gl z.kp (raises_own z.sb z.ty) hg z.db), fun G0 G δ σ H0 H E r p => p σ H0 H (Same.refl _) r⟩
end
end Dw
namespace Dw
open PySem L2 PyProof.Rows
/-! ### repr -/
def isD0 : D → Bool
  | .dct [] [] => true
  | _ => false
def dRepr : List D → R D
  | [d] => if d.good 20 = true then (if d.toPy.showable = true ∧ d.toPy.shown.length ≤ sizeLine then .ok (.str d.toPy.shown) else .no) else if isD0 d = true then .ok (.str "{}") else .no
  | _ => .no
theorem cd_repr {K : PySem.W.Frag} {W : WX} : CallD K W (rRepr K) dRepr := by
  intro σ H0 H xs ds Q s h p
  unfold dRepr at p
  split at p
  · rename_i d
    obtain ⟨v, rfl, hv⟩ := h.one
    split at p
    · rename_i g
      split at p
      · rename_i c
        obtain ⟨a, b, e⟩ := good_dp 20 d v g (hv.mono s)
        exact ⟨v, d.toPy, rfl, .inl ⟨a, b, e⟩, c.1, c.2, p.v s (.str _)⟩
      · exact p.elim
    · split at p
      · rename_i c
        have e : d = .dct [] [] := by
          cases d with
          | dct ks ds => cases ks <;> cases ds <;> first | rfl | cases c
          | _ => cases c
        subst e
        have key : ∀ (v : V), Dr K H0 v (.dct [] []) → ∃ a, v = .ref a ∧ H0 a = some (.dK []) := fun v h => by
          generalize hd : D.dct [] [] = d at h
          cases h with
          | dct q r =>
            rename_i a kvs ds
            injection hd with h1 h2
            cases kvs with
            | nil => exact ⟨a, rfl, q⟩
            | cons x y => cases h1
          | _ => cases hd
        obtain ⟨a, rfl, ha⟩ := key v hv
        refine ⟨_, .dict [], rfl, .inr ⟨rfl, a, rfl, s _ _ ha⟩, by decide, ?_, ?_⟩
        · show (dictText []).length ≤ sizeLine
          decide +kernel
        · have e : (PyData.dict []).shown = "{}" := by
            show dictText [] = _
            decide +kernel
          rw [e]
          exact p.v s (.str _)
      · exact p.elim
  · exact p.elim
/-! ### x.m(e) of built-in kinds -/
def cM1 (ok : D → Bool) (f : D → D → R D) (a b : C) : C := fun δ => (a δ).bind fun d => if ok d = true then (b δ).bind fun e => f d e else .no
structure M1 (X : Cx) (W : WX) (name : Str) (ok : D → Bool) (f : D → D → R D) : Prop where
  ex : ∃ (T id : String) (r : V → List V → Hp → VK → Prop), PlainAttrs T ∧ Slot T name id ∧ typeOf (.builtin id) = pure (.type "method_descriptor") ∧ MtR X id r ∧
    (∀ H0 H x d, Same H0 H → Dr X.K H0 x d → ok d = true → tyV X.K T x H) ∧
    ∀ σ H0 H x y d e Q, Same H0 H → Dr X.K H0 x d → Dr X.K H0 y e → Post X.K W σ H0 H (SV X.K) (f d e) Q → r x [y] H Q
def okBase : Expr → Bool
  | .Call (.Name _ _) [] [] _ => false
  | _ => true
theorem base_of {o : Expr} {attr : Str} {env : Env} {t : Sem Value} (h : okBase o = true) : attributeBase o attr env t = t := by
  unfold attributeBase
  split
  · cases h
  · rfl
section
variable {X : Cx} {W : WX}
theorem se_m1 {o e : Expr} {name : Str} {apos cpos : Pos} {ok : D → Bool} {f : D → D → R D} {co ce : C} (m : M1 X W name ok f) (ho : SE X W o co) (he : SE X W e ce) (hb : okBase o = true) (hp : plainArg e = true) (hl : (apos.endLine == cpos.line) = true) :
    SE X W (.Call (.Attribute o name apos) [e] [] cpos) (cM1 ok f co ce) := by
  obtain ⟨T, id, r, pa, sl, ty, mt, h1, h2⟩ := m.ex
  obtain ⟨t, p, v⟩ := ho
  obtain ⟨u, q, w⟩ := he
  refine ⟨_, pe_bm pa sl ty mt p (pa_cons q pa_nil (star_of hp)) (base_of hb) (few_one hp) hl (star_of hp) rfl, ?_⟩
  refine Ev.bind (f := fun d δ => if ok d = true then (ce δ).bind fun e => f d e else .no) downV v fun d x G0 G δ σ Hs H0 H Q rl hd po => ?_
  split at po
  · rename_i c
    refine ⟨h1 H0 H x d rl.same hd c, ?_⟩
    refine w G0 G δ σ H0 H _ rl ?_
    cases z : ce δ with
    | ok e =>
      rw [z] at po
      intro A B y st hy
      exact h2 σ A B x y d e Q (rl.step st).same (Dr.mono st.e0 _ hd) hy (Post.mono downV po st)
    | ex C => rw [z] at po; exact po
    | no => rw [z] at po; exact po
  · exact po.elim
def isLD : D → Bool
  | .lst _ => true
  | .kst _ => true
  | _ => false
def dIndex (d e : D) : R D := match d.seq, e.sv with
  | some ds, some y => (match svs ds with
    | some us => (match us.findIdx? (fun z => eqV z y) with
      | some j => .ok (.int (j : Nat))
      | none => .no)
    | none => .no)
  | _, _ => .no
def dCount (d e : D) : R D := match d.seq, e.sv with
  | some ds, some y => (match svs ds with
    | some us => .ok (.int (us.countP (fun z => eqV z y) : Nat))
    | none => .no)
  | _, _ => .no
theorem isL_ty {K : PySem.W.Frag} {H0 H : Hp} {x : V} {d : D} (s : Same H0 H) (h : Dr K H0 x d) (c : isLD d = true) : ∃ a xs ds, x = .ref a ∧ d.seq = some ds ∧ SqL K H a xs ∧ DrAll K H0 xs ds := by
  cases d with
  | lst ds =>
    obtain ⟨a, xs, rfl, q, r⟩ := h.lstK
    exact ⟨a, xs, ds, rfl, rfl, s.seq (.inl q), r⟩
  | kst ds =>
    obtain ⟨a, xs, rfl, q, r⟩ := h.kstK
    exact ⟨a, xs, ds, rfl, rfl, s.seq q, r⟩
  | _ => cases c
def gIdx (d e : D) : R D := if isLD d = true then dIndex d e else .no
def gCnt (d e : D) : R D := if isLD d = true then dCount d e else .no
theorem m1_index : M1 X W "index" isLD gIdx := by
  refine ⟨"list", "list.index", _, PySem.F.plainAttrs_list, PySem.F.slot_list_index, PySem.F.type_list_index, mt_index, fun H0 H x d s h c => ?_, fun σ H0 H x y d e Q s hx hy p => ?_⟩
  · obtain ⟨a, xs, ds, rfl, _, q, _⟩ := isL_ty s h c
    exact .inl ⟨rfl, xs, q⟩
  · unfold gIdx at p
    split at p
    · rename_i c
      obtain ⟨a, xs, ds, rfl, e1, q, r⟩ := isL_ty s hx c
      unfold dIndex at p
      rw [e1] at p
      cases e2 : e.sv with
      | none => rw [e2] at p; exact p.elim
      | some yv =>
        rw [e2] at p
        cases e3 : svs ds with
        | none => simp only [e3] at p; exact p.elim
        | some us =>
          simp only [e3] at p
          have hxs := DrAll.svs r e3
          have hyv := Dr.sv hy e2
          subst hxs hyv
          cases e4 : xs.findIdx? (fun z => eqV z y) with
          | none => simp only [e4] at p; exact p.elim
          | some j =>
            simp only [e4] at p
            obtain ⟨hj, h1, h2⟩ := List.findIdx?_eq_some_iff_getElem.mp e4
            refine ⟨a, xs, y, j, xs[j], rfl, rfl, q, sv_flat e2, svs_flat e3, List.getElem?_eq_getElem hj, h1, fun m z hm hz => ?_, p.v s (.int _)⟩
            have hm' : m < xs.length := by omega
            rw [List.getElem?_eq_getElem hm'] at hz
            cases hz
            have := h2 m hm
            simpa using this
    · exact p.elim
theorem countU {y : V} : ∀ {xs : List V} {us : List Value}, Vals xs us → xs.all flatV = true → us.countP (eqU y) = xs.countP (fun z => eqV z y)
  | _, _, .nil, _ => rfl
  | x :: xs, u :: us, .cons r t, f => by
    rw [List.all_cons, Bool.and_eq_true] at f
    rw [List.countP_cons, List.countP_cons, countU t f.2, eqU_of r f.1]
theorem mt_cnt : MtR X "list.count" (fun x xs H Q => ∃ (a : Addr) (ys : List V) (y : V), x = .ref a ∧ xs = [y] ∧ SqL X.K H a ys ∧ flatV y = true ∧ ys.all flatV = true ∧ Q (.int (ys.countP (fun z => eqV z y) : Nat)) H) := by
  intro pins s σ H x xs v us Q I rx rxs h
  obtain ⟨a, ys, y, rfl, rfl, hs, fy, fys, q⟩ := h
  cases rx
  obtain ⟨u, rfl, ru⟩ := rxs.one
  obtain ⟨its, rv, ⟨⟨cls, dd, data, sl⟩, n, ho, hc, hdn, hd⟩, hlen⟩ := I.list hs
  simp only at hc hd
  subst hc hd
  have cnt := countU (y := y) rv fys
  refine call_meets PySem.F.slot_list_count ⟨_, ho, rfl⟩ PySem.F.entry_list_count (PySem.F.args_list_count_2 _ _) (SeqAt.list_countAt a its.toArray n dd sl u (eqU y)) ⟨ho, ?_, ?_⟩
  · intro z hz
    exact mem_eqAt ru fy rv fys z (by simpa using hz)
  · refine ⟨.int (ys.countP (fun z => eqV z y) : Nat), H, I.tok _, ⟨s.toks, ?_⟩, q⟩
    show Value.int ((its.toArray.toList.countP (eqU y) : Nat) : Int) s.toks = _
    rw [show its.toArray.toList = its from rfl, cnt]
theorem m1_count : M1 X W "count" isLD gCnt := by
  refine ⟨"list", "list.count", _, PySem.F.plainAttrs_list, PySem.F.slot_list_count, PySem.F.type_list_count, mt_cnt, fun H0 H x d s h c => ?_, fun σ H0 H x y d e Q s hx hy p => ?_⟩
  · obtain ⟨a, xs, ds, rfl, _, q, _⟩ := isL_ty s h c
    exact .inl ⟨rfl, xs, q⟩
  · unfold gCnt at p
    split at p
    · rename_i c
      obtain ⟨a, xs, ds, rfl, e1, q, r⟩ := isL_ty s hx c
      unfold dCount at p
      rw [e1] at p
      cases e2 : e.sv with
      | none => rw [e2] at p; exact p.elim
      | some yv =>
        rw [e2] at p
        cases e3 : svs ds with
        | none => simp only [e3] at p; exact p.elim
        | some us =>
          simp only [e3] at p
          have hxs := DrAll.svs r e3
          have hyv := Dr.sv hy e2
          subst hxs hyv
          exact ⟨a, xs, y, rfl, rfl, q, sv_flat e2, svs_flat e3, p.v s (.int _)⟩
    · exact p.elim
def isSD : D → Bool
  | .str _ => true
  | _ => false
theorem isS_ty {K : PySem.W.Frag} {H0 : Hp} {x : V} {d : D} (h : Dr K H0 x d) (c : isSD d = true) : ∃ a, x = .str a ∧ d = .str a := by
  cases d with
  | str a => cases h; exact ⟨a, rfl, rfl⟩
  | _ => cases c
def gPart : D → D → R D
  | .str a, .str b => if (b.length == 0) = false ∧ a.length ≤ sizeLine then .ok (.tup [.str (Txt.partition a b).1, .str (Txt.partition a b).2.1, .str (Txt.partition a b).2.2]) else .no
  | _, _ => .no
def gSpl : D → D → R D
  | .str a, .str b => if (b.length == 0) = false ∧ a.length + 2 ≤ sizeLine then .ok (.lst ((Txt.split a b).map D.str)) else .no
  | _, _ => .no
def gStW : D → D → R D
  | .str a, .str b => .ok (.bl (Txt.startswith a b))
  | _, _ => .no
theorem strs_dr {K : PySem.W.Frag} {H : Hp} : ∀ ys : List Str, DrAll K H (ys.map V.str) (ys.map D.str)
  | [] => .nil
  | y :: ys => .cons (.str y) (strs_dr ys)
theorem m1_part : M1 X W "partition" isSD gPart := by
  refine ⟨"str", "str.partition", _, PySem.F.plainAttrs_str, PySem.F.slot_str_partition, PySem.F.type_str_partition, mt_partition, fun H0 H x d s h c => ?_, fun σ H0 H x y d e Q s hx hy p => ?_⟩
  · obtain ⟨a, rfl, _⟩ := isS_ty h c
    rfl
  · unfold gPart at p
    split at p
    · split at p
      · rename_i a b c
        cases hx
        cases hy
        exact ⟨a, b, rfl, rfl, c.1, c.2, fun q hq => p.newT s (.cons (.str _) (.cons (.str _) (.cons (.str _) .nil))) hq⟩
      · exact p.elim
    · exact p.elim
theorem m1_spl : M1 X W "split" isSD gSpl := by
  refine ⟨"str", "str.split", _, PySem.F.plainAttrs_str, PySem.F.slot_str_split, PySem.F.type_str_split, mt_split, fun H0 H x d s h c => ?_, fun σ H0 H x y d e Q s hx hy p => ?_⟩
  · obtain ⟨a, rfl, _⟩ := isS_ty h c
    rfl
  · unfold gSpl at p
    split at p
    · split at p
      · rename_i a b c
        cases hx
        cases hy
        exact ⟨a, b, rfl, rfl, c.1, c.2, fun q hq => p.newL s (strs_dr _) hq⟩
      · exact p.elim
    · exact p.elim
theorem m1_stw : M1 X W "startswith" isSD gStW := by
  refine ⟨"str", "str.startswith", _, PySem.F.plainAttrs_str, PySem.F.slot_str_startswith, PySem.F.type_str_startswith, mt_startswith, fun H0 H x d s h c => ?_, fun σ H0 H x y d e Q s hx hy p => ?_⟩
  · obtain ⟨a, rfl, _⟩ := isS_ty h c
    rfl
  · unfold gStW at p
    split at p
    · rename_i a b
      cases hx
      cases hy
      exact ⟨a, b, rfl, rfl, p.v s (.bl _)⟩
    · exact p.elim
def meth1 (name : Str) : Option ((D → Bool) × (D → D → R D)) := if name = "index" then some (isLD, gIdx) else if name = "count" then some (isLD, gCnt) else if name = "partition" then some (isSD, gPart) else if name = "split" then some (isSD, gSpl) else if name = "startswith" then some (isSD, gStW) else none
theorem meth1_ok {name : Str} {ok : D → Bool} {f : D → D → R D} (h : meth1 name = some (ok, f)) : M1 X W name ok f := by
  unfold meth1 at h
  split at h
  · subst name; cases h; exact m1_index
  split at h
  · subst name; cases h; exact m1_count
  split at h
  · subst name; cases h; exact m1_part
  split at h
  · subst name; cases h; exact m1_spl
  split at h
  · subst name; cases h; exact m1_stw
  · cases h
/-! ### zip, range with a step of -1 -/
section
variable {K : PySem.W.Frag} {Hk : Hp}
theorem zipD_get : ∀ (as bs : List D) (i : Nat), (zipD as bs)[i]? = match as[i]?, bs[i]? with
    | some a, some b => some (.tup [a, b])
    | _, _ => none
  | [], bs, i => by simp [zipD]
  | a :: as, [], i => by
    simp [zipD]
  | a :: as, b :: bs, 0 => by simp [zipD]
  | a :: as, b :: bs, i + 1 => by
    show (zipD as bs)[i]? = _
    rw [zipD_get as bs i]
    rfl
theorem wk_zip {a b : Addr} {xs ys : List V} {ds es : List D} (h : SqL K Hk a xs) (r : DrAll K Hk xs ds) (h2 : SqL K Hk b ys) (r2 : DrAll K Hk ys es) : Wk K (Itz K a b) Hk (zipD ds es) := fun i H0 H e0 e => by
  have q : SqL K H a xs := (e0.trans e).seq h
  have q2 : SqL K H b ys := (e0.trans e).seq h2
  rw [zipD_get]
  refine ⟨fun d hd => ?_, fun hn => ?_⟩
  · cases hc : ds[i]? with
    | none => rw [hc] at hd; cases hd
    | some f =>
      cases hc2 : es[i]? with
      | none => rw [hc, hc2] at hd; cases hd
      | some f2 =>
        rw [hc, hc2] at hd
        cases hd
        obtain ⟨v, hv, dv⟩ := r.get hc
        obtain ⟨v2, hv2, dv2⟩ := r2.get hc2
        refine ⟨⟨xs, ys, v, v2, q, q2, hv, hv2⟩, fun x H' y => ?_⟩
        obtain ⟨T, w, w2, rfl, hT, rfl, y, y2⟩ := y
        have z := y xs q
        rw [hv] at z
        cases z
        have z2 := y2 ys q2
        rw [hv2] at z2
        cases z2
        have m := e0.trans (Same.new (o := .tup [v, v2]) (e.free hT))
        exact ⟨_, Stp.new e hT, .tup (.inl (.inl upd_same)) (.cons (Dr.mono m _ dv) (.cons (Dr.mono m _ dv2) .nil))⟩
  · refine ⟨xs, ys, q, q2, ?_⟩
    rw [r.length, r2.length]
    cases hc : ds[i]? with
    | none => exact .inl (List.getElem?_eq_none_iff.mp hc)
    | some f =>
      cases hc2 : es[i]? with
      | none => exact .inr (List.getElem?_eq_none_iff.mp hc2)
      | some f2 => rw [hc, hc2] at hn; cases hn
theorem stepD_get {lo c : Int} {n i : Nat} : (stepD lo c n)[i]? = if i < n then some (.int (lo + (i : Int) * c)) else none := by
  unfold stepD
  rw [List.getElem?_map]
  by_cases h : i < n
  · rw [if_pos h, List.getElem?_range h]; rfl
  · rw [if_neg h, List.getElem?_eq_none (by simp; omega)]; rfl
theorem wk_step {lo c : Int} {n : Nat} : Wk K (Itc lo c n) Hk (stepD lo c n) := fun i H0 H e0 e => by
  rw [stepD_get]
  refine ⟨fun d hd => ?_, fun hn => ?_⟩
  · split at hd
    · rename_i h
      cases hd
      refine ⟨h, fun x H' y => ?_⟩
      obtain ⟨rfl, rfl⟩ := y
      exact ⟨H0, Stp.refl e, .int _⟩
    · cases hd
  · split at hn
    · cases hn
    · rename_i h
      exact Nat.le_of_not_lt h
end
def dZip : List D → R (List D)
  | [d, e] => if isLD d = true ∧ isLD e = true then (match d.seq, e.seq with
    | some ds, some es => .ok (zipD ds es)
    | _, _ => .no) else .no
  | _ => .no
theorem si_zip {a b : Expr} {elts : List Expr} {kk : Nat} {tpos p pos : Pos} {c : CA} (hg : Gl X "zip") (hm : X.mg "zip" = none) (h : SL X W [a, b] c) (h1 : plainArg a = true) (h2 : plainArg b = true) : SI X W (.Tuple elts kk tpos) (.Call (.Name "zip" p) [a, b] [] pos) (cApp dZip c) := by
  obtain ⟨t, pa, v⟩ := h
  refine ⟨_, pi_zip hg hm pa (star_of h1) (star_all (by simp [h2])), ev_appG downI v fun σ H0 H x d Q s h p => ?_⟩
  unfold dZip at p
  split at p
  · split at p
    · rename_i c
      obtain ⟨v1, v2, rfl, hv1, hv2⟩ := h.two
      obtain ⟨a, xs, ds, rfl, e1, q1, r1⟩ := isL_ty (Same.refl _) hv1 c.1
      obtain ⟨b, ys, es, rfl, e2, q2, r2⟩ := isL_ty (Same.refl _) hv2 c.2
      rw [e1, e2] at p
      exact ⟨a, b, xs, ys, rfl, s.seq q1, s.seq q2, Post.here p s (wk_zip q1 r1 q2 r2)⟩
    · exact p.elim
  · exact p.elim
def dRng3 : List D → R (List D)
  | [.int i, .int j, .int c] => if c = -1 ∧ -(2 ^ 62) ≤ i ∧ i < 2 ^ 62 ∧ -(2 ^ 62) ≤ j ∧ j < 2 ^ 62 then .ok (stepD i (-1) (i - j).toNat) else .no
  | _ => .no
theorem DrAll.three {K : PySem.W.Frag} {H : Hp} {vs : List V} {d e f : D} (h : DrAll K H vs [d, e, f]) : ∃ v w u, vs = [v, w, u] ∧ Dr K H v d ∧ Dr K H w e ∧ Dr K H u f := by
  cases h with
  | cons a r =>
    obtain ⟨w, u, rfl, b, c⟩ := r.two
    exact ⟨_, _, _, rfl, a, b, c⟩
theorem si_range3 {tg a b e : Expr} {p pos : Pos} {c : CA} (hg : Gl X "range") (hm : X.mg "range" = none) (h : SL X W [a, b, e] c) (h1 : plainArg a = true) (h2 : [b, e].all plainArg = true) : SI X W tg (.Call (.Name "range" p) [a, b, e] [] pos) (cApp dRng3 c) := by
  obtain ⟨t, pa, v⟩ := h
  refine ⟨_, pi_range3 hg hm pa (star_of h1) (star_all h2), ev_appG downI v fun σ H0 H x d Q s h p => ?_⟩
  unfold dRng3 at p
  split at p
  · split at p
    · rename_i cc
      obtain ⟨rfl, c1, c2, c3, c4⟩ := cc
      obtain ⟨v1, v2, v3, rfl, hv1, hv2, hv3⟩ := h.three
      cases hv1
      cases hv2
      cases hv3
      exact ⟨_, _, _, _, rfl, RgC.neg c1 c2 c3 c4, Post.here p s wk_step⟩
    · exact p.elim
  · exact p.elim
/-! ### a chain as a test -/
theorem st_chain {a b c : Expr} {op op' : CmpOp} {pos : Pos} {r r' : R2} {f g : D → D → R D} {ca cb cc : C} (ho : OpR X (compareOp op) r) (hd : OpD X.K W r f) (ho' : OpR X (compareOp op') r') (hd' : OpD X.K W r' g) (ha : SE X W a ca) (hb : SE X W b cb) (hc : SE X W c cc) (hm : lastMarks [op, op'] [b, c] = false) :
    ST X W (.Compare a [op, op'] [b, c] pos) (cUn asB (cChain f g ca cb cc)) := by
  obtain ⟨t, p, v⟩ := ha
  obtain ⟨u, q, w⟩ := hb
  obtain ⟨u2, q2, w2⟩ := hc
  refine ⟨_, pt_chain ho ho' p q q2 hm, ev_unG (r := fun x H Q => ∃ k, x = .bl k ∧ Q k H) downB (ev_chain hd hd' v w w2) fun σ H0 H x d Q s hx p => ?_⟩
  unfold asB at p
  split at p
  · cases hx
    exact ⟨_, rfl, Post.here p s rfl⟩
  · exact p.elim
end
end Dw
namespace Dw
open PySem L2 PyProof.Rows
/-! ### a new list that is known from here on, the others staying one's own -/
def evAN (c : CA) (δ : List Sl) : R (D × List Sl) := match evN c δ with
  | .ok (ds, δ') => .ok (.lst ds, δ')
  | .ex C => .ex C
  | .no => .no
section
variable {K : PySem.W.Frag} {W : WX} {G0 G H0 H : Hp} {δ : List Sl} {σ : L2.St}
theorem new_known (r : Rel K G0 G δ σ H0 H) {v : V} {ds : List D} (h : NewL K G H0 H δ σ v ds) : ∃ J0, Same H0 J0 ∧ Rel K G0 G δ σ J0 H ∧ Dr K J0 v (.lst ds) := by
  obtain ⟨p, vs, rfl, g, n, hp, hr, fp, o, nw⟩ := h
  have e0 : Same H0 (upd H0 p (.lst vs)) := Same.new n
  refine ⟨_, e0, ⟨⟨r.st.e0.trans e0, r.st.e, fun c u e => ?_, fun c u z w k => ?_⟩, r.len, fun j d z => ?_, fun j d z => ?_, fp, fun i => (o.s i).mono e0 fun _ _ _ z => z, o.d, fun i a m => ⟨(o.n i a m).1, ?_⟩⟩, .lst (.inl upd_same) (hr.mono e0)⟩
  · by_cases q : c = p
    · subst q; rw [upd_same] at e; rw [hp]; exact e
    · rw [upd_ne q] at e; exact r.st.k c u e
  · rw [upd_ne (ne_of_none w g)]; exact r.st.n c u z w k
  · obtain ⟨v, a, b⟩ := r.pu j d z
    exact ⟨v, a, b.mono e0⟩
  · obtain ⟨v, a, b⟩ := r.nt j d z
    exact ⟨v, a, b.mono e0⟩
  · rw [upd_ne fun z => nw i (by rw [← z]; exact m)]
    exact (o.n i a m).2
theorem evAN_ok {te : TE} {c : CA} (h : Ev K W (SW K) te c) (r : Rel K G0 G δ σ H0 H) {Q : VK} (p : match evAN c δ with
    | .ok (d, δ') => ∀ H0' H' v, Same H0 H0' → Rel K G0 G δ' σ H0' H' → Dr K H0' v d → Q v H'
    | .ex C => ∀ H0' H', Same H0 H0' → Rel K G0 G δ σ H0' H' → W (.ref (He.ga K C)) none σ H'
    | .no => False) : te σ H Q := by
  refine evN_ok h r ?_
  unfold evAN at p
  cases e : evN c δ with
  | no => rw [e] at p; exact p
  | ex C => rw [e] at p; exact p
  | ok z =>
    obtain ⟨ds, δ'⟩ := z
    rw [e] at p
    intro A B v s r' nl
    obtain ⟨J0, e0, r2, dv⟩ := new_known r' nl
    exact p J0 B v (s.trans e0) r2 dv
end
def cSetIN (i : Nat) (ck : C) (c : CA) : CS := fun δ => fA (evAN c δ) δ fun d δ1 => kSetJ i ck d δ1
section
variable {X : Cx} {W : WX}
theorem ss_setIN {i : Nat} {x : Str} {e k : Expr} {p sp pos : Pos} {ck : C} {c : CA} (hN : X.N[i]? = some x) (hv : Vis X.env.scope x) (hd : (x == ("__debug__" : Str)) = false) (hcd : (x == ("__classdict__" : Str)) = false) (hk : SE X W k ck) (h : SN X W e c) (hc : isComp e = false) (hs : notSlice k = true) :
    SS X W (.Assign [.Subscript (.Name x p) k sp] e pos) (cSetIN i ck c) := by
  obtain ⟨t, q, v⟩ := h
  obtain ⟨u, q2, v2⟩ := hk
  refine ⟨_, ps_asg q (pg_sub (pe_var hN hv hd hcd) q2 set_list (asub_of hs)) (show swapsWith e (some (.Subscript (.Name x p) k sp)) pos.line X.env = pure false from swaps_of hc) rfl rfl, fun G0 G δ σ H0 H E r po => ?_⟩
  have po' : PostS X.K W G0 G H0 E (fA (evAN c δ) δ fun d δ1 => kSetJ i ck d δ1) := po
  refine evAN_ok v r ?_
  cases e1 : evAN c δ with
  | no => rw [e1] at po'; exact po'
  | ex C => rw [e1] at po'; exact fun A B s r' => po' σ A B s r'
  | ok z =>
    obtain ⟨d, δ1⟩ := z
    rw [e1] at po'
    intro A B x s r' hd
    have po2 : PostS X.K W G0 G H0 E (kSetJ i ck d δ1) := po'
    unfold kSetJ at po2
    split at po2
    · rename_i ds0 e0
      obtain ⟨a, vs, hs, g, n, ha, hr⟩ := r'.ow i ds0 e0
      refine ⟨_, hs, ?_⟩
      refine evA_ok v2 r' ?_
      cases e2 : evA ck δ1 with
      | no => rw [e2] at po2; exact po2
      | ex C => rw [e2] at po2; exact fun A2 B2 s2 r2 => po2 σ A2 B2 (s.trans s2) r2
      | ok z =>
        obtain ⟨k2, δ'⟩ := z
        rw [e2] at po2
        intro A2 B2 y s2 r2 hk
        have po3 : PostS X.K W G0 G H0 E (kSetI i d k2 δ') := po2
        unfold kSetI at po3
        split at po3
        · rename_i ds e3
          split at po3
          · rename_i j
            split at po3
            · rename_i m hm
              obtain ⟨a', ws, hs', g', n', ha', hr'⟩ := r2.ow i ds e3
              rw [hs] at hs'
              cases hs'
              cases hk
              exact ⟨a, ws, j, m, rfl, rfl, ha', by rw [hr'.length]; exact hm, po3 σ A2 _ (s.trans s2) (r2.put e3 hs (hr'.set (Dr.mono s2 _ hd) m))⟩
            · exact po3.elim
          · exact po3.elim
        · exact po3.elim
    · exact po2.elim
/-! ### a list of lists, all of one's own -/
def SWs (K : PySem.W.Frag) : Sat (List (List D)) (List V) := fun Hs H0 H vs dss => ∃ ps : List Addr, vs = ps.map V.ref ∧ ps.Nodup ∧ (∀ a ∈ ps, Hs a = none ∧ H0 a = none) ∧ OoAll K H0 H ps dss
theorem downWs {K : PySem.W.Frag} : Down (SWs K) := fun _ _ _ _ _ _ e ⟨ps, a, n, f, h⟩ => ⟨ps, a, n, fun b m => ⟨e.free (f b m).1, (f b m).2⟩, h⟩
def ooGo : List CA → List Sl → R (List (List D))
  | [], _ => .ok []
  | c :: cs, δ => (c δ).bind fun ds => (ooGo cs δ).bind fun r => .ok (ds :: r)
theorem ev_ooNil {K : PySem.W.Frag} : Ev K W (SWs K) tNil (ooGo []) := fun G0 G δ σ H0 H Q r p => Post.here (show Post K W σ H0 H (SWs K) (.ok []) Q from p) r.same ⟨[], rfl, List.nodup_nil, fun _ m => (nomatch m), .nil⟩
theorem ev_ooCons {K : PySem.W.Frag} {ta : TE} {tr : TA} {ca : CA} {cs : List CA} (ha : Ev K W (SW K) ta ca) (hr : Ev K W (SWs K) tr (ooGo cs)) : Ev K W (SWs K) (tCons ta tr) (ooGo (ca :: cs)) := by
  intro G0 G δ σ H0 H Q rl p
  have p' : Post K W σ H0 H (SWs K) ((ca δ).bind fun d => (ooGo cs δ).bind fun ds => .ok (d :: ds)) Q := p
  refine ha G0 G δ σ H0 H _ rl ?_
  cases e : ca δ with
  | ok d =>
    rw [e] at p'
    intro A B x s q
    refine hr G0 G δ σ A B _ (rl.step s) ?_
    have p2 : Post K W σ H0 H (SWs K) ((ooGo cs δ).bind fun ds => .ok (d :: ds)) Q := p'
    cases e2 : ooGo cs δ with
    | ok ds =>
      rw [e2] at p2
      intro A2 B2 y s2 q2
      obtain ⟨p1, vs, rfl, n1, n2, hb, hd⟩ := q
      obtain ⟨ps, rfl, nd, nn, oo⟩ := q2
      refine p2 A2 B2 (.ref p1 :: ps.map V.ref) (s.trans s2) ⟨p1 :: ps, rfl, List.nodup_cons.mpr ⟨fun m => ?_, nd⟩, fun a m => ?_, .cons (s2.e _ _ hb) (hd.mono s2.e0) oo⟩
      · have z := (nn p1 m).1
        rw [hb] at z
        cases z
      · rcases List.mem_cons.mp m with z | m
        · rw [z]; exact ⟨n1, s2.n p1 _ n2 hb trivial⟩
        · exact ⟨s.e.free (nn a m).1, (nn a m).2⟩
    | ex C =>
      rw [e2] at p2
      exact Post.mono (S := SWs K) downWs p2 s
    | no =>
      rw [e2] at p2
      exact p2
  | ex C =>
    rw [e] at p'
    exact p'
  | no =>
    rw [e] at p'
    exact p'
theorem oo_args {f : Expr → CA} (h : ∀ e, SN X W e (f e)) : ∀ {es : List Expr}, es.all plainArg = true → ∃ t, PA X es t ∧ Ev X.K W (SWs X.K) t (ooGo (es.map f))
  | [], _ => ⟨_, pa_nil, ev_ooNil⟩
  | e :: es, hp => by
    have h' := Bool.and_eq_true_iff.mp (show (plainArg e && es.all plainArg) = true from hp)
    obtain ⟨t, p, v⟩ := h e
    obtain ⟨u, q, w⟩ := oo_args h h'.2
    exact ⟨_, pa_cons p q (star_of h'.1), ev_ooCons v w⟩
def kOO (i : Nat) (δ : List Sl) : R (List (List D)) → Fl
  | .ok dss => if dss.length ≤ sizeLine then .nx (δ.set i (.oo dss)) else .no
  | .ex C => .ex C δ
  | .no => .no
def cAsgOO (i : Nat) (cs : List CA) : CS := fun δ => kOO i δ (ooGo cs δ)
theorem OoAll.len {K : PySem.W.Frag} {H0 H : Hp} : ∀ {ps : List Addr} {dss : List (List D)}, OoAll K H0 H ps dss → ps.length = dss.length
  | _, _, .nil => rfl
  | _, _, .cons _ _ t => congrArg (· + 1) (OoAll.len t)
theorem OoAll.get {K : PySem.W.Frag} {H0 H : Hp} : ∀ {ps : List Addr} {dss : List (List D)} {k : Nat} {ds : List D}, OoAll K H0 H ps dss → dss[k]? = some ds → ∃ a vs, ps[k]? = some a ∧ H a = some (.lst vs) ∧ DrAll K H0 vs ds
  | _, _, _, _, .nil, e => by simp at e
  | _, _, 0, _, .cons h r _, e => by simp at e; subst e; exact ⟨_, _, rfl, h, r⟩
  | _, _, k + 1, ds, .cons _ _ t, e => by
    obtain ⟨a, vs, h1, h2, h3⟩ := OoAll.get (k := k) (ds := ds) t (by simpa using e)
    exact ⟨a, vs, by simpa using h1, h2, h3⟩
theorem OoAll.put {K : PySem.W.Frag} {H0 H : Hp} {vs : List V} {ds : List D} {a : Addr} (hr : DrAll K H0 vs ds) {ps : List Addr} {dss : List (List D)} (h : OoAll K H0 H ps dss) : ∀ {k : Nat}, ps.Nodup → ps[k]? = some a → OoAll K H0 (upd H a (.lst vs)) ps (dss.set k ds) := by
  induction h with
  | nil => intro k _ e; simp at e
  | @cons p ps ws es dss h r t ih =>
    intro k nd e
    cases k with
    | zero =>
      simp at e
      subst e
      refine .cons upd_same hr (t.mono (Same.refl _) fun b m o z => ?_)
      rw [upd_ne fun z => (List.nodup_cons.mp nd).1 (by rw [← z]; exact m)]
      exact z
    | succ k =>
      have e' : ps[k]? = some a := by simpa using e
      have ma := List.mem_of_getElem? e'
      refine .cons ?_ r (ih (List.nodup_cons.mp nd).2 e')
      rw [upd_ne fun z => (List.nodup_cons.mp nd).1 (by rw [z]; exact ma)]
      exact h
theorem ss_asgOO {i : Nat} {x : Str} {es : List Expr} {p lp pos : Pos} {f : Expr → CA} (hN : X.N.Nodup) (hi : X.N[i]? = some x) (hx : L2.Loc X.env.scope x) (hf : X.fn x = true ∨ X.env.scope.names.lookup x = some .local) (h : ∀ e, SN X W e (f e)) (hp : es.all plainArg = true) : SS X W (.Assign [.Name x p] (.List es lp) pos) (cAsgOO i (es.map f)) := by
  obtain ⟨t, q, v⟩ := oo_args h hp
  refine ⟨_, ps_set hN hi hx (pe_lst q) (swaps_of rfl) hf, fun G0 G δ σ H0 H E r po => ?_⟩
  have po' : PostS X.K W G0 G H0 E (kOO i δ (ooGo (es.map f) δ)) := po
  refine v G0 G δ σ H0 H _ r ?_
  cases e : ooGo (es.map f) δ with
  | no => rw [e] at po'; exact po'
  | ex C => rw [e] at po'; exact fun A B s => po' σ A B s.e0 (r.step s)
  | ok dss =>
    rw [e] at po'
    have po' : PostS X.K W G0 G H0 E (if dss.length ≤ sizeLine then .nx (δ.set i (.oo dss)) else .no) := po'
    split at po'
    · rename_i hz
      intro A B vs s w
      obtain ⟨ps, rfl, nd, nn, oo⟩ := w
      refine ⟨by rw [List.length_map, oo.len]; exact hz, fun n hn => ?_⟩
      have st : Stp A B A (upd B n (.lst (ps.map V.ref))) := Stp.own s.k hn
      obtain ⟨fp, o⟩ := r.own
      have o2 := o.step (s.trans st)
      have free : ∀ a, H a = none → ∀ j, a ∉ fp j := fun a ha j m => by
        obtain ⟨u, h1, _⟩ := (o.s j).there m
        rw [ha] at h1
        cases h1
      have hn0 : H n = none := s.e.free hn
      have all : ∀ a ∈ n :: ps, H a = none ∧ A a = none := fun a m => by
        rcases List.mem_cons.mp m with z | m
        · rw [z]; exact ⟨hn0, s.k.free hn⟩
        · exact nn a m
      refine po' _ A _ s.e0 ((r.step (s.trans st)).setX (f := n :: ps) o2 ⟨n, ps, rfl, rfl, List.nodup_cons.mpr ⟨fun m => ?_, nd⟩, upd_same, oo.mono (Same.refl _) fun a m u z => ?_⟩ (fun a m => ⟨r.st.e.free (all a m).1, (all a m).2⟩) (fun a m j _ => free a (all a m).1 j) (fun _ e => nomatch e) fun _ e => nomatch e)
      · obtain ⟨ws, z⟩ := oo.there m
        rw [hn] at z
        cases z
      · rw [upd_ne fun e => by rw [e, hn] at z; cases z]
        exact z
    · exact po'.elim
/-! x[k].append(e), x[k].clear() -/
def kAppOO (i k : Nat) (δ : List Sl) (d : D) : Option Sl → Fl
  | some (.oo dss) => (match dss[k]? with
    | some ds => if ds.length < sizeLine then .nx (δ.set i (.oo (dss.set k (ds ++ [d])))) else .no
    | none => .no)
  | _ => .no
def cAppOO (i k : Nat) (c : C) : CS := fun δ => match c δ with
  | .ok d => kAppOO i k δ d δ[i]?
  | _ => .no
def kClrOO (i k : Nat) (δ : List Sl) : Option Sl → Fl
  | some (.oo dss) => (match dss[k]? with
    | some _ => .nx (δ.set i (.oo (dss.set k [])))
    | none => .no)
  | _ => .no
def cClrOO (i k : Nat) : CS := fun δ => kClrOO i k δ δ[i]?
theorem Rel.oo {K : PySem.W.Frag} {G0 G H0 H : Hp} {δ : List Sl} {σ : L2.St} (r : Rel K G0 G δ σ H0 H) {i k : Nat} {dss : List (List D)} {ds : List D} (e : δ[i]? = some (.oo dss)) (hk : dss[k]? = some ds) : ∃ (p : Addr) (ps : List Addr) (a : Addr) (vs : List V), σ[i]? = some (some (.ref p)) ∧ H p = some (.lst (ps.map V.ref)) ∧ ps[k]? = some a ∧ H a = some (.lst vs) ∧ DrAll K H0 vs ds ∧
    ∀ ws es, DrAll K H0 ws es → Rel K G0 G (δ.set i (.oo (dss.set k es))) σ H0 (upd H a (.lst ws)) := by
  obtain ⟨fp, o⟩ := r.own
  have z := o.s i
  rw [e] at z
  obtain ⟨p, ps, hs, f, nd, hp, oo⟩ := z
  obtain ⟨a, vs, h1, h2, h3⟩ := oo.get hk
  have ma := List.mem_of_getElem? h1
  have np : p ≠ a := fun z => (List.nodup_cons.mp nd).1 (by rw [z]; exact ma)
  refine ⟨p, ps, a, vs, hs, hp, h1, h2, h3, fun ws es hw => ?_⟩
  refine r.putX o e (fun b m => upd_ne fun z => m (by rw [f, z]; exact List.mem_cons_of_mem _ ma)) ?_ (fun _ z => nomatch z) fun _ z => nomatch z
  exact ⟨p, ps, hs, f, nd, by rw [upd_ne np]; exact hp, oo.put hw (List.nodup_cons.mp nd).2 h1⟩
theorem ix_at {ps : List Addr} {k : Nat} {a : Addr} (h : ps[k]? = some a) : atI (ps.map V.ref) (k : Int) = some (.ref a) := by
  have hl : k < ps.length := (List.getElem?_eq_some_iff.mp h).1
  unfold atI
  have e : ixN (ps.map V.ref).length (k : Int) = some k := by
    unfold ixN
    simp [hl]
  rw [e]
  simp [h]
theorem ss_appOO {i k : Nat} {x : Str} {e : Expr} {p sp ap cp pos : Pos} {kk : Nat} {kp : Pos} {c : C} (hN : X.N[i]? = some x) (hv : Vis X.env.scope x) (hd : (x == ("__debug__" : Str)) = false) (hcd : (x == ("__classdict__" : Str)) = false) (h : SE X W e c) (he : plainArg e = true) (hl : (ap.endLine == cp.line) = true) :
    SS X W (.Expr (.Call (.Attribute (.Subscript (.Name x p) (.Constant (.int (k : Int)) kk kp) sp) "append" ap) [e] [] cp) pos) (cAppOO i k c) := by
  obtain ⟨t, q, v⟩ := h
  refine ⟨_, ps_expr (pe_bm PySem.F.plainAttrs_list PySem.F.slot_list_append PySem.F.type_list_append mt_append (pe_ix ix_seq (pe_var hN hv hd hcd) pe_int (ix_plain rfl)) (pa_cons q pa_nil (star_of he)) rfl (few_one he) hl (star_of he) rfl) rfl, fun G0 G δ σ H0 H E r po => ?_⟩
  unfold cAppOO at po
  split at po
  · rename_i d ec
    unfold kAppOO at po
    split at po
    · rename_i dss e0
      split at po
      · rename_i ds hk
        split at po
        · rename_i hz
          obtain ⟨p0, ps, a, vs, hs, hp, ha, h2, h3, _⟩ := r.oo e0 hk
          refine ⟨_, hs, .inl ⟨p0, _, (k : Int), .ref a, rfl, rfl, SqL.of hp, ix_at ha, .inl ⟨rfl, vs, SqL.of h2⟩, ?_⟩⟩
          refine v G0 G δ σ H0 H _ r ?_
          rw [ec]
          intro A B y s hy
          obtain ⟨p1, ps1, a1, vs1, hs1, hp1, ha1, h21, h31, w⟩ := (r.step s).oo e0 hk
          rw [hs] at hs1
          cases hs1
          have z := s.e _ _ hp
          rw [hp1] at z
          have z2 : ps1.map V.ref = ps.map V.ref := by injection z with z; injection z
          have z3 := congrArg (fun l : List V => l[k]?) z2
          simp only [List.getElem?_map, ha1, ha, Option.map_some] at z3
          injection z3 with z3
          injection z3 with z3
          subst z3
          exact ⟨_, vs1, y, rfl, rfl, h21, by rw [h31.length]; exact hz, po σ A _ s.e0 (w _ _ (h31.append (.cons hy .nil)))⟩
        · exact po.elim
      · exact po.elim
    · exact po.elim
  · exact po.elim
theorem ss_clrOO {i k : Nat} {x : Str} {p sp ap cp pos : Pos} {kk : Nat} {kp : Pos} (hN : X.N[i]? = some x) (hv : Vis X.env.scope x) (hd : (x == ("__debug__" : Str)) = false) (hcd : (x == ("__classdict__" : Str)) = false) (hl : (ap.endLine == cp.line) = true) :
    SS X W (.Expr (.Call (.Attribute (.Subscript (.Name x p) (.Constant (.int (k : Int)) kk kp) sp) "clear" ap) [] [] cp) pos) (cClrOO i k) := by
  refine ⟨_, ps_expr (pe_bm0 PySem.F.plainAttrs_list PySem.F.slot_list_clear PySem.F.type_list_clear mt_clear (pe_ix ix_seq (pe_var hN hv hd hcd) pe_int (ix_plain rfl)) rfl hl) rfl, fun G0 G δ σ H0 H E r po => ?_⟩
  have po' : PostS X.K W G0 G H0 E (kClrOO i k δ δ[i]?) := po
  unfold kClrOO at po'
  split at po'
  · rename_i dss e0
    split at po'
    · rename_i ds hk
      obtain ⟨p0, ps, a, vs, hs, hp, ha, h2, h3, w⟩ := r.oo e0 hk
      exact ⟨_, hs, .inl ⟨p0, _, (k : Int), .ref a, rfl, rfl, SqL.of hp, ix_at ha, .inl ⟨rfl, vs, SqL.of h2⟩, a, vs, rfl, rfl, h2, po' σ H0 _ (Same.refl _) (w _ _ .nil)⟩⟩
    · exact po'.elim
  · exact po'.elim
theorem ss_appOI {i : Nat} {k : Int} (h0 : 0 ≤ k) {x : Str} {e : Expr} {p sp ap cp pos : Pos} {kk : Nat} {kp : Pos} {c : C} (hN : X.N[i]? = some x) (hv : Vis X.env.scope x) (hd : (x == ("__debug__" : Str)) = false) (hcd : (x == ("__classdict__" : Str)) = false) (h : SE X W e c) (he : plainArg e = true) (hl : (ap.endLine == cp.line) = true) :
    SS X W (.Expr (.Call (.Attribute (.Subscript (.Name x p) (.Constant (.int k) kk kp) sp) "append" ap) [e] [] cp) pos) (cAppOO i k.toNat c) := by
  obtain ⟨n, rfl⟩ := Int.eq_ofNat_of_zero_le h0
  exact ss_appOO hN hv hd hcd h he hl
theorem ss_clrOI {i : Nat} {k : Int} (h0 : 0 ≤ k) {x : Str} {p sp ap cp pos : Pos} {kk : Nat} {kp : Pos} (hN : X.N[i]? = some x) (hv : Vis X.env.scope x) (hd : (x == ("__debug__" : Str)) = false) (hcd : (x == ("__classdict__" : Str)) = false) (hl : (ap.endLine == cp.line) = true) :
    SS X W (.Expr (.Call (.Attribute (.Subscript (.Name x p) (.Constant (.int k) kk kp) sp) "clear" ap) [] [] cp) pos) (cClrOO i k.toNat) := by
  obtain ⟨n, rfl⟩ := Int.eq_ofNat_of_zero_le h0
  exact ss_clrOO hN hv hd hcd hl
end
end Dw
namespace Dw
open PySem L2 PyProof.Rows
/-! ### dicts of one's own, with tuples for keys -/
def keyD : Key → D
  | .inl i => .int i
  | .inr x => .str x
def keysOf : List D → Option (List Key)
  | [] => some []
  | d :: ds => match d.key, keysOf ds with
    | some k, some ks => some (k :: ks)
    | _, _ => none
section
variable {K : PySem.W.Frag} {H H0 : Hp}
theorem DrAll.keys : ∀ {vs : List V} {ds : List D} {ks : List Key}, DrAll K H vs ds → keysOf ds = some ks → vs = ks.map kV
  | _, _, _, .nil, e => by
    unfold keysOf at e
    cases e
    rfl
  | _, _, _, .cons (d := d) (ds := ds) a r, e => by
    unfold keysOf at e
    cases e1 : d.key with
    | none => rw [e1] at e; cases e
    | some k =>
      cases e2 : keysOf ds with
      | none => rw [e1, e2] at e; cases e
      | some ks =>
        rw [e1, e2] at e
        cases e
        rw [a.key e1, DrAll.keys r e2]
        rfl
theorem keyD_all : ∀ ks : List Key, DrAll K H (ks.map kV) (ks.map keyD)
  | [] => .nil
  | .inl i :: ks => .cons (.int i) (keyD_all ks)
  | .inr x :: ks => .cons (.str x) (keyD_all ks)
end
def putKs (ks : List (List Key)) (k : List Key) : List (List Key) := if (ks.any fun y => decide (y = k)) = true then ks else ks ++ [k]
theorem putKs_ok {ks : List (List Key)} {k : List Key} : putK (ks.map fun k => (k, V.bl true)) k (.bl true) = (putKs ks k).map fun k => (k, V.bl true) := by
  unfold putK putKs
  have e : ((ks.map fun k => (k, V.bl true)).any fun kv => decide (kv.1 = k)) = (ks.any fun y => decide (y = k)) := by
    rw [List.any_map]
    rfl
  rw [e]
  split
  · rw [List.map_map]
    apply List.map_congr_left
    intro y _
    show (if y = k then (y, V.bl true) else (y, V.bl true)) = _
    split <;> rfl
  · rw [List.map_append]
    rfl
section
variable {X : Cx} {W : WX}
/-! x = {} -/
def cNewD (i : Nat) : CS := fun δ => .nx (δ.set i (.od []))
theorem ss_newD {i : Nat} {x : Str} {p dp pos : Pos} (hN : X.N.Nodup) (hi : X.N[i]? = some x) (hx : L2.Loc X.env.scope x) (hf : X.fn x = true ∨ X.env.scope.names.lookup x = some .local) : SS X W (.Assign [.Name x p] (.Dict [] [] dp) pos) (cNewD i) := by
  refine ⟨_, ps_set hN hi hx pe_dnewT (swaps_of rfl) hf, fun G0 G δ σ H0 H E r po => ?_⟩
  have po' : PostS X.K W G0 G H0 E (.nx (δ.set i (.od []))) := po
  intro n hn
  have st : Stp H0 H H0 (upd H n (.dT [])) := Stp.own r.same hn
  obtain ⟨fp, o⟩ := r.own
  refine po' _ H0 _ (Same.refl _) ((r.step st).setX (f := [n]) (o.step st) ⟨n, rfl, rfl, upd_same⟩ (fun a m => ?_) (fun a m j _ mj => ?_) (fun _ e => nomatch e) fun _ e => nomatch e)
  · rw [List.mem_singleton.mp m]
    exact ⟨r.st.e.free hn, r.same.free hn⟩
  · rw [List.mem_singleton.mp m] at mj
    obtain ⟨u, h1, _⟩ := (o.s j).there mj
    rw [hn] at h1
    cases h1
/-! x[y] = True, y a tuple that stands as such -/
def kPutD (i : Nat) (δ : List Sl) : Option Sl → Option Sl → Fl
  | some (.od ks), some (.nt ds) => (match keysOf ds with
    | some k => if ks.length < sizeLine then .nx (δ.set i (.od (putKs ks k))) else .no
    | none => .no)
  | _, _ => .no
def cPutD (i j : Nat) : CS := fun δ => kPutD i δ δ[i]? δ[j]?
theorem ss_putD {i j : Nat} {x y : Str} {p q sp pos tp : Pos} {tk : Nat} (hu : X.A.units + 1 < cLine) (hN : X.N[i]? = some x) (hv : Vis X.env.scope x) (hd : (x == ("__debug__" : Str)) = false) (hcd : (x == ("__classdict__" : Str)) = false) (hN2 : X.N[j]? = some y) (hv2 : Vis X.env.scope y) (hd2 : (y == ("__debug__" : Str)) = false) (hcd2 : (y == ("__classdict__" : Str)) = false) :
    SS X W (.Assign [.Subscript (.Name x p) (.Name y q) sp] (.Constant (.bool true) tk tp) pos) (cPutD i j) := by
  refine ⟨_, ps_dput hu (pe_var hN hv hd hcd) (pe_var hN2 hv2 hd2 hcd2) pe_bl (swaps_of rfl), fun G0 G δ σ H0 H E r po => ?_⟩
  have po' : PostS X.K W G0 G H0 E (kPutD i δ δ[i]? δ[j]?) := po
  unfold kPutD at po'
  split at po'
  · rename_i ks ds e1 e2
    split at po'
    · rename_i k ek
      split at po'
      · rename_i hz
        obtain ⟨fp, o⟩ := r.own
        have os := o.s i
        rw [e1] at os
        obtain ⟨a, hs, f, ha⟩ := os
        obtain ⟨v, hs2, b, vs, rfl, hb, hr⟩ := r.nt j ds e2
        have ev := hr.keys ek
        subst ev
        refine ⟨_, hs, _, hs2, a, _, rfl, DPut.t ha (r.same _ _ hb) (by rw [List.length_map]; exact hz), ?_⟩
        rw [putKs_ok]
        exact po' σ H0 _ (Same.refl _) (r.putX o e1 (fun c m => upd_ne fun z => m (by rw [f, z]; exact List.mem_cons_self)) ⟨a, hs, f, upd_same⟩ (fun _ z => nomatch z) fun _ z => nomatch z)
      · exact po'.elim
    · exact po'.elim
  · exact po'.elim
end
/-! ### for y in x: the dict is locked meanwhile -/
def Fd : HO → Prop
  | .frz _ (.dT _) => True
  | _ => False
section
variable {K : PySem.W.Frag} {A B : Hp}
mutual
theorem Dr.cutF (e : ∀ b o, A b = some o → ¬ Fd o → B b = some o) : ∀ (d : D) {v : V}, Dr K A v d → Dr K B v d
  | .non, _, h => by cases h; exact .non
  | .bl b, _, h => by cases h; exact .bl b
  | .int i, _, h => by cases h; exact .int i
  | .str x, _, h => by cases h; exact .str x
  | .ty n, _, h => by cases h; exact .ty n
  | .tup ds, _, h => by
    cases h with
    | tup q r =>
      refine .tup ?_ (DrAll.cutF e ds r)
      rcases q with (q | ⟨o, q⟩) | q
      · exact .inl (.inl (e _ _ q fun z => z))
      · exact .inl (.inr ⟨o, e _ _ q fun z => z⟩)
      · exact .inr q
  | .lst ds, _, h => by
    cases h with
    | lst q r =>
      refine .lst ?_ (DrAll.cutF e ds r)
      rcases q with q | ⟨o, q⟩
      · exact .inl (e _ _ q fun z => z)
      · exact .inr ⟨o, e _ _ q fun z => z⟩
  | .kst ds, _, h => by
    cases h with
    | kst q r =>
      refine .kst ?_ (DrAll.cutF e ds r)
      rcases q with (q | ⟨o, q⟩) | q
      · exact .inl (.inl (e _ _ q fun z => z))
      · exact .inl (.inr ⟨o, e _ _ q fun z => z⟩)
      · exact .inr q
  | .dct ks ds, _, h => by
    cases h with
    | dct q r => exact .dct (e _ _ q fun z => z) (DrAll.cutF e ds r)
  | .obj C fs ds, _, h => by
    cases h with
    | obj q r => exact .obj (e _ _ q fun z => z) (DrAll.cutF e ds r)
  | .exc C, _, h => by
    cases h with
    | exc q => exact .exc (e _ _ q fun z => z)
theorem DrAll.cutF (e : ∀ b o, A b = some o → ¬ Fd o → B b = some o) : ∀ (ds : List D) {vs : List V}, DrAll K A vs ds → DrAll K B vs ds
  | [], _, h => by cases h; exact .nil
  | d :: ds, _, h => by
    cases h with
    | cons h1 h2 => exact .cons (Dr.cutF e d h1) (DrAll.cutF e ds h2)
end
theorem OoAll.cutF {H H' : Hp} (e : ∀ b o, A b = some o → ¬ Fd o → B b = some o) {ps : List Addr} {dss : List (List D)} (h : OoAll K A H ps dss) (eh : ∀ a ∈ ps, ∀ o, H a = some o → H' a = some o) : OoAll K B H' ps dss := by
  induction h with
  | nil => exact .nil
  | cons h r t ih => exact .cons (eh _ List.mem_cons_self _ h) (r.cutF e) (ih fun a m => eh a (List.mem_cons_of_mem _ m))
mutual
theorem Ow.cutF {H H' : Hp} (e : ∀ b o, A b = some o → ¬ Fd o → B b = some o) : ∀ (o : O) {v : V} {f : List Addr}, (∀ a ∈ f, ∀ u, H a = some u → H' a = some u) → Ow K A H v o f → Ow K B H' v o f
  | .lf d, _, _, _, h => by
    cases h with
    | lf q => exact .lf (q.cutF e)
  | .ls os, _, _, eh, h => by
    cases h with
    | ls q r n => exact .ls (eh _ List.mem_cons_self _ q) (OwA.cutF e os (fun a m => eh a (List.mem_cons_of_mem _ m)) r) n
  | .tp os, _, _, eh, h => by
    cases h with
    | tp q r => exact .tp (e _ _ q fun z => z) (OwA.cutF e os eh r)
  | .ob C fs os, _, _, eh, h => by
    cases h with
    | ob q w r n1 n2 n3 => exact .ob (eh _ List.mem_cons_self _ q) (eh _ (List.mem_cons_of_mem _ List.mem_cons_self) _ w) (OwA.cutF e os (fun a m => eh a (List.mem_cons_of_mem _ (List.mem_cons_of_mem _ m))) r) n1 n2 n3
theorem OwA.cutF {H H' : Hp} (e : ∀ b o, A b = some o → ¬ Fd o → B b = some o) : ∀ (os : List O) {vs : List V} {f : List Addr}, (∀ a ∈ f, ∀ u, H a = some u → H' a = some u) → OwA K A H vs os f → OwA K B H' vs os f
  | [], _, _, _, h => by cases h; exact .nil
  | o :: os, _, _, eh, h => by
    cases h with
    | cons q r n => exact .cons (Ow.cutF e o (fun a m => eh a (List.mem_append_left _ m)) q) (OwA.cutF e os (fun a m => eh a (List.mem_append_right _ m)) r) n
end
theorem OwnO.cutF {H H' : Hp} {s : Option Sl} {x : Option (Option V)} {f : List Addr} (h : OwnO K A H s x f) (e : ∀ b o, A b = some o → ¬ Fd o → B b = some o) (eh : ∀ a ∈ f, ∀ o, H a = some o → H' a = some o) : OwnO K B H' s x f := by
  match s, h with
  | some (.ow ds), ⟨p, vs, a, b, c, d⟩ =>
    subst b
    exact ⟨p, vs, a, rfl, eh p List.mem_cons_self _ c, d.cutF e⟩
  | some (.oo dss), ⟨p, ps, a, b, nd, c, d⟩ =>
    subst b
    exact ⟨p, ps, a, rfl, nd, eh p List.mem_cons_self _ c, d.cutF e fun b hb => eh b (List.mem_cons_of_mem _ hb)⟩
  | some (.od ks), ⟨p, a, b, c⟩ =>
    subst b
    exact ⟨p, a, rfl, eh p List.mem_cons_self _ c⟩
  | some (.os C fs ds), ⟨p, dx, fvs, a, b, ne, c, o, n, d⟩ =>
    subst b
    exact ⟨p, dx, fvs, a, rfl, ne, eh p List.mem_cons_self _ c, eh dx (List.mem_cons_of_mem _ List.mem_cons_self) _ o, n, d.cutF e⟩
  | some (.tr o), ⟨v, a, b⟩ => exact ⟨v, a, b.cutF e o eh⟩
  | some .un, h => exact h
  | some (.pu _), h => exact h
  | some (.nt _), h => exact h
  | none, h => exact h
open Classical in
theorem wk_keys {p : Addr} {o : Obj} {ks : List (List Key)} (h : A p = some (.frz o (dictHO ks))) : Wk K (Itkt p o (ks.map fun k => (k, V.bl true))) A (ks.map fun k => D.tup (k.map keyD)) := fun i H0 H e0 e => by
  have hp : H p = some (.frz o (dictHO ks)) := e _ _ (e0 _ _ h)
  refine ⟨fun d hd => ?_, fun hn => ?_⟩
  · rw [List.getElem?_map] at hd
    obtain ⟨k, hk, rfl⟩ := Option.map_eq_some_iff.mp hd
    have hl : i < ks.length := (List.getElem?_eq_some_iff.mp hk).1
    refine ⟨⟨hp, by rw [List.length_map]; exact hl⟩, fun x H' y => ?_⟩
    obtain ⟨rfl, k', v, q, hk', rfl, hq⟩ := y
    rw [List.getElem?_map, hk] at hk'
    cases hk'
    by_cases c : H0 q = none
    · refine ⟨upd H0 q (.tup (k.map kV)), ⟨Same.new c, Same.refl _, fun b u z => ?_, fun b u z w g => ?_⟩, .tup (.inl (.inl upd_same)) (keyD_all k)⟩
      · by_cases eb : b = q
        · subst eb; rw [upd_same] at z; rw [hq]; exact z
        · rw [upd_ne eb] at z; exact e b u z
      · by_cases eb : b = q
        · subst eb; rw [hq] at w; cases w; exact g.elim
        · rw [upd_ne eb]; exact z
    · obtain ⟨u, hu⟩ := Option.ne_none_iff_exists'.mp c
      have z := e _ _ hu
      rw [hq] at z
      cases z
      exact ⟨H0, Stp.refl e, .tup (.inl (.inl hu)) (keyD_all k)⟩
  · rw [List.getElem?_map, Option.map_eq_none_iff] at hn
    exact ⟨hp, by rw [List.length_map]; exact List.getElem?_eq_none_iff.mp hn⟩
end
def cutH (A : Hp) (p : Addr) : Hp := fun a => if a = p then none else A a
section
variable {K : PySem.W.Frag} {G0 G H0 H A : Hp} {δ : List Sl} {σ : L2.St}
theorem Rel.lock (r : Rel K G0 G δ σ H0 H) {i : Nat} {ks : List (List Key)} (hi : δ[i]? = some (.od ks)) : ∃ p, σ[i]? = some (some (.ref p)) ∧ H p = some (dictHO ks) ∧ G p = none ∧ G0 p = none ∧ H0 p = none ∧ ∀ o, Rel K G0 G (δ.set i .un) σ (upd H0 p (.frz o (dictHO ks))) (upd H p (.frz o (dictHO ks))) := by
  obtain ⟨fp, ow⟩ := r.own
  have z := ow.s i
  rw [hi] at z
  obtain ⟨p, a, f, hp⟩ := z
  have hl : i < δ.length := (List.getElem?_eq_some_iff.mp hi).1
  have mp : p ∈ fp i := by rw [f]; exact List.mem_cons_self
  obtain ⟨g, n⟩ := ow.n i p mp
  refine ⟨p, a, hp, g, r.st.e0.free n, n, fun o => ?_⟩
  have e0 : Same H0 (upd H0 p (.frz o (dictHO ks))) := Same.new n
  have oth : ∀ j c, c ∈ (if j = i then [] else fp j) → c ≠ p ∧ c ∈ fp j := fun j c h1 => by
    split at h1
    · cases h1
    · rename_i e
      exact ⟨fun z => e (ow.d j i c h1 (by rw [z]; exact mp)), h1⟩
  refine ⟨⟨r.st.e0.trans e0, fun c u e => ?_, fun c u e => ?_, fun c u z w k => ?_⟩, by rw [List.length_set]; exact r.len, fun j d z => ?_, fun j d z => ?_, fun j => if j = i then [] else fp j, ⟨fun j => ?_, fun j k c h1 h2 => ow.d j k c (oth j c h1).2 (oth k c h2).2, fun j c h1 => ?_⟩⟩
  · rw [upd_ne (ne_of_none e g)]; exact r.st.e c u e
  · by_cases q : c = p
    · subst q; rw [upd_same] at e ⊢; exact e
    · rw [upd_ne q] at e ⊢; exact r.st.k c u e
  · rw [upd_ne (ne_of_none w g)]; exact r.st.n c u z w k
  · rcases set_get z with ⟨rfl, z, _⟩ | ⟨ne, z⟩
    · cases z
    · obtain ⟨v, a2, b2⟩ := r.pu j d z
      exact ⟨v, a2, b2.mono e0⟩
  · rcases set_get z with ⟨rfl, z, _⟩ | ⟨ne, z⟩
    · cases z
    · obtain ⟨v, a2, b2⟩ := r.nt j d z
      exact ⟨v, a2, b2.mono e0⟩
  · by_cases e : j = i
    · subst e
      rw [List.getElem?_set_self hl]
      show (if j = j then [] else fp j) = []
      rw [if_pos rfl]
    · rw [List.getElem?_set_ne (Ne.symm e)]
      show OwnO K _ _ _ _ (if j = i then [] else fp j)
      rw [if_neg e]
      refine (ow.s j).mono e0 fun c m u z => ?_
      rw [upd_ne (oth j c (by rw [if_neg e]; exact m)).1]
      exact z
  · obtain ⟨q1, q2⟩ := oth j c h1
    rw [upd_ne q1]
    exact ow.n j c q2
theorem Rel.unlock (r : Rel K G0 G δ σ A H) {p : Addr} {o : Obj} {ks : List (List Key)} (hA : A p = some (.frz o (dictHO ks))) (g : G p = none) (g0 : G0 p = none) : Rel K G0 G δ σ (cutH A p) (upd H p (dictHO ks)) := by
  have ct : ∀ b u, A b = some u → ¬ Fd u → cutH A p b = some u := fun b u z nf => by
    unfold cutH
    rw [if_neg]
    · exact z
    · intro e
      rw [e, hA] at z
      cases z
      exact nf trivial
  have sub : ∀ b u, cutH A p b = some u → b ≠ p ∧ A b = some u := fun b u z => by
    unfold cutH at z
    split at z
    · cases z
    · exact ⟨by assumption, z⟩
  obtain ⟨fp, ow⟩ := r.own
  have np : ∀ j c, c ∈ fp j → c ≠ p := fun j c m z => by
    have q := (ow.n j c m).2
    rw [z, hA] at q
    cases q
  refine ⟨⟨fun c u e => ?_, fun c u e => ?_, fun c u e => ?_, fun c u z w k => ?_⟩, r.len, fun j d z => ?_, fun j d z => ?_, fp, ⟨fun j => (ow.s j).cutF ct fun c m u z => ?_, ow.d, fun j c m => ⟨(ow.n j c m).1, ?_⟩⟩⟩
  · unfold cutH
    rw [if_neg (ne_of_none e g0)]
    exact r.st.e0 c u e
  · rw [upd_ne (ne_of_none e g)]
    exact r.st.e c u e
  · obtain ⟨q1, q2⟩ := sub c u e
    rw [upd_ne q1]
    exact r.st.k c u q2
  · unfold cutH
    split
    · rfl
    · exact r.st.n c u z w k
  · obtain ⟨v, a2, b2⟩ := r.pu j d z
    exact ⟨v, a2, b2.cutF ct⟩
  · obtain ⟨v, a2, b, vs, e1, e2, e3⟩ := r.nt j d z
    exact ⟨v, a2, b, vs, e1, ct _ _ e2 (fun z => z), e3.cutF ct⟩
  · rw [upd_ne (np j c m)]
    exact z
  · unfold cutH
    rw [if_neg (np j c m)]
    exact (ow.n j c m).2
end
def onlyNx : Fl → Fl
  | .nx δ => .nx δ
  | _ => .no
def kForD (i : Nat) (ct : CT) (cb : CS) (δ : List Sl) : Option Sl → Fl
  | some (.od ks) => onlyNx (forGo ct cb (ks.map fun k => D.tup (k.map keyD)) (δ.set i .un))
  | _ => .no
def cForD (i : Nat) (ct : CT) (cb : CS) : CS := fun δ => kForD i ct cb δ δ[i]?
section
variable {X : Cx} {W : WX}
theorem ss_forD {i : Nat} {x : Str} {tg : Expr} {p pos : Pos} {body : List Stmt} {ct : CT} {ix : List Nat} {cb : CS} (hp : PassesOwn (model X.prog X.w) X.A X.env X.xe) (hc : X.calm = true) (hN : X.N[i]? = some x) (hv : Vis X.env.scope x) (hd : (x == ("__debug__" : Str)) = false) (hcd : (x == ("__classdict__" : Str)) = false) (hg : SG X tg ct ix) (hb : SSs X W body cb) :
    SS X W (.For tg (.Name x p) body [] pos) (cForD i ct cb) := by
  obtain ⟨g, q, w⟩ := hg
  obtain ⟨tb, pb, vb⟩ := hb
  refine ⟨_, ps_lock (ps_for hp hc (pi_keys (pe_var hN hv hd hcd)) q pb fun _ => rfl), fun G0 G δ σ H0 H E r po => ?_⟩
  have po' : PostS X.K W G0 G H0 E (kForD i ct cb δ δ[i]?) := po
  unfold kForD at po'
  split at po'
  · rename_i ks e
    obtain ⟨a, hs, ha, ga, g0a, na, rl⟩ := r.lock e
    refine ⟨a, dictHO ks, ha, trivial, fun o => ⟨_, hs, a, o, rfl, .inr ⟨_, upd_same, ?_⟩⟩⟩
    refine for_core w vb (Same.refl _) (rl o) (wk_keys upd_same) ?_
    cases ef : forGo ct cb (ks.map fun k => D.tup (k.map keyD)) (δ.set i .un) with
    | nx δ' =>
      rw [ef] at po'
      intro σ' A B s r'
      have hA : A a = some (.frz o (dictHO ks)) := s _ _ upd_same
      refine ⟨r'.same _ _ hA, po' σ' (cutH A a) _ (fun c u z => ?_) (r'.unlock hA ga g0a)⟩
      unfold cutH
      rw [if_neg (ne_of_none z na)]
      refine s _ _ ?_
      rw [upd_ne (ne_of_none z na)]
      exact z
    | rt d => rw [ef] at po'; exact po'.elim
    | rtl d => rw [ef] at po'; exact po'.elim
    | rtt d => rw [ef] at po'; exact po'.elim
    | rtr d => rw [ef] at po'; exact po'.elim
    | bk d => rw [ef] at po'; exact po'.elim
    | ct d => rw [ef] at po'; exact po'.elim
    | ex C d => rw [ef] at po'; exact po'.elim
    | no => rw [ef] at po'; exact po'.elim
  · exact po'.elim
end
end Dw
namespace Dw
open PySem L2 PyProof.Rows
/-! ### returns that tell a tuple as one that stands in the heap -/
def SR (X : Cx) (W : WX) (e : Expr) (c : CS) : Prop := ∃ te, PE X e te ∧ EvS X.K W (tRet te) c
def kRetT (ds : List D) (_ : List Sl) : Fl := if ds.length ≤ sizeLine then .rtt ds else .no
def cRetT (c : CA) : CS := fun δ => fA (evL c δ) δ kRetT
def fRs (δ : List Sl) : Rs → Fl
  | .ok d => .rt d
  | .okl ds => .rtl ds
  | .okt ds => .rtt ds
  | .okr o => .rtr o
  | .ex C => .ex C δ
  | .no => .no
def fAr (m : Nat) (f : List D → Rs) (δ : List Sl) (k : List Sl → Rs → Fl) : R (List D) → Fl
  | .ok ds => if ds.length = m then k δ (f ds) else .no
  | .ex C => .ex C δ
  | .no => .no
def cRetF (m : Nat) (f : List D → Rs) (c : CA) : CS := fun δ => fAr m f δ fRs (c δ)
def fAs (i : Nat) (δ : List Sl) : Rs → Fl
  | .ok d => .nx (δ.set i (.pu d))
  | .okt ds => .nx (δ.set i (.nt ds))
  | .okr o => .nx (δ.set i (.tr o))
  | .ex C => .ex C δ
  | _ => .no
def cAsgF (i m : Nat) (f : List D → Rs) (c : CA) : CS := fun δ => fAr m f δ (fAs i) (c δ)
section
variable {X : Cx} {W : WX}
theorem ss_of_sr {e : Expr} {pos : Pos} {c : CS} (h : SR X W e c) : SS X W (.Return (some e) pos) c := by
  obtain ⟨t, p, v⟩ := h
  exact ⟨_, ps_ret p, v⟩
theorem sr_v {e : Expr} {c : C} (h : SE X W e c) : SR X W e (cRetV c) := by
  obtain ⟨t, p, v⟩ := h
  exact ⟨_, p, evs_ret v⟩
theorem sr_if {t a b : Expr} {pos : Pos} {ct : CB} {ca cb : CS} (h : ST X W t ct) (ha : SR X W a ca) (hb : SR X W b cb) : SR X W (.IfExp t a b pos) (cIfS ct ca cb) := by
  obtain ⟨tt, p, v⟩ := h
  obtain ⟨u, q, w⟩ := ha
  obtain ⟨u2, q2, w2⟩ := hb
  refine ⟨_, pe_ifExp p q q2, fun G0 G δ σ H0 H E r po => evT_ok v r ?_⟩
  have po' : PostS X.K W G0 G H0 E (match evT ct δ with
    | .ok true => ca δ
    | .ok false => cb δ
    | .ex C => .ex C δ
    | .no => .no) := po
  cases e : evT ct δ with
  | ok k =>
    rw [e] at po'
    intro A B s r'
    cases k with
    | true => exact w G0 G δ σ A B E r' (PostS.mono po' s)
    | false => exact w2 G0 G δ σ A B E r' (PostS.mono po' s)
  | ex C =>
    rw [e] at po'
    exact fun A B s r' => po' σ A B s r'
  | no => rw [e] at po'; exact po'
theorem sr_tup {es : List Expr} {k : Nat} {pos : Pos} {c : CA} (h : SL X W es c) : SR X W (.Tuple es k pos) (cRetT c) := by
  obtain ⟨t, p, v⟩ := h
  refine ⟨_, pe_tup p, fun G0 G δ σ H0 H E r po => evL_ok v r ?_⟩
  have po' : PostS X.K W G0 G H0 E (fA (evL c δ) δ kRetT) := po
  cases e1 : evL c δ with
  | no => rw [e1] at po'; exact po'
  | ex C => rw [e1] at po'; exact fun A B s r' => po' σ A B s r'
  | ok z =>
    obtain ⟨ds, δ'⟩ := z
    rw [e1] at po'
    intro A B vs s r' hd
    have po2 : PostS X.K W G0 G H0 E (if ds.length ≤ sizeLine then .rtt ds else .no) := po'
    split at po2
    · rename_i hz
      refine ⟨by rw [hd.length]; exact hz, fun n hn => ?_⟩
      have st : Stp A B (upd A n (.tup vs)) (upd B n (.tup vs)) := Stp.new r'.same hn
      exact po2 _ _ _ (s.trans st.e0) (r'.step st).st ⟨n, vs, rfl, upd_same, hd.mono st.e0⟩
    · exact po2.elim
theorem call_core {k m : Nat} {x : Str} {sem : List D → Rs} {e : Expr} {es : List Expr} {p pos : Pos} {ca : CA} (F : FK X.prog X.w X.K X.mg X.base k x m sem) (hr : Room k X.A ∧ X.A.guards = some []) (hg : Gl X x) (tk : Takes X W) (ha : SL X W (e :: es) ca) (h1 : plainArg e = true) (h2 : es.all plainArg = true) :
    ∃ te, PE X (.Call (.Name x p) (e :: es) [] pos) te ∧ ∀ G0 G δ σ H0 H Q, Rel X.K G0 G δ σ H0 H → (match ca δ with
      | .ok ds => ds.length = m ∧ ∀ A B, Stp H0 H A B → Ans X.K A B (sem ds) Q (WE W σ)
      | .ex C => ∀ A B, Stp H0 H A B → W (.ref (He.ga X.K C)) none σ B
      | .no => False) → te σ H Q := by
  obtain ⟨fd, ps, ds, dvs, dd, sem0, G, b, rv, rd, hm, hs⟩ := F.ex
  obtain ⟨t, pa, v⟩ := ha
  refine ⟨_, pe_callG G hr hg F.gl F.kp b rv (fun σ => passAt tk σ) pa F.db (star_of h1) (star_all h2), fun G0 G δ σ H0 H Q r po => ?_⟩
  refine v G0 G δ σ H0 H _ r ?_
  cases ec : ca δ with
  | no => rw [ec] at po; exact po
  | ex C => rw [ec] at po; exact po
  | ok ds =>
    rw [ec] at po
    intro A B vs s q
    have hv := DrAll.length q
    have hl := po.1
    refine ⟨?_, A, ds ++ dd, s.k, DrAll.append q (rd A), ?_⟩
    · have h3 := (rd A).length
      rw [List.length_append]
      omega
    · rw [← hs ds hl]
      exact po.2 A B s
theorem sr_call {k m : Nat} {x : Str} {sem : List D → Rs} {e : Expr} {es : List Expr} {p pos : Pos} {ca : CA} (F : FK X.prog X.w X.K X.mg X.base k x m sem) (hr : Room k X.A ∧ X.A.guards = some []) (hg : Gl X x) (tk : Takes X W) (ha : SL X W (e :: es) ca) (h1 : plainArg e = true) (h2 : es.all plainArg = true) :
    SR X W (.Call (.Name x p) (e :: es) [] pos) (cRetF m sem ca) := by
  obtain ⟨te, q, v⟩ := call_core (W := W) (p := p) (pos := pos) F hr hg tk ha h1 h2
  refine ⟨te, q, fun G0 G δ σ H0 H E r po => v G0 G δ σ H0 H _ r ?_⟩
  have po' : PostS X.K W G0 G H0 E (fAr m sem δ fRs (ca δ)) := po
  cases ec : ca δ with
  | no => rw [ec] at po'; exact po'
  | ex C => rw [ec] at po'; exact fun A B s => po' σ A B s.e0 (r.step s)
  | ok ds =>
    rw [ec] at po'
    have po2 : PostS X.K W G0 G H0 E (if ds.length = m then fRs δ (sem ds) else .no) := po'
    split at po2
    · rename_i hl
      refine ⟨hl, fun A B s => ?_⟩
      cases es : sem ds with
      | ok d => rw [es] at po2; exact fun A' B' v st dv => po2 A' B' v (s.e0.trans st.e0) (r.step (s.trans st)).st dv
      | okl d =>
        rw [es] at po2
        intro A' B' v st dv
        obtain ⟨a, vs, e1, e2, e3⟩ := dv
        exact po2 A' B' v (s.e0.trans st.e0) (r.step (s.trans st)).st ⟨a, vs, e1, (r.step s).st.e.free e2, e3⟩
      | okt d => rw [es] at po2; exact fun A' B' v st dv => po2 A' B' v (s.e0.trans st.e0) (r.step (s.trans st)).st dv
      | okr o =>
        rw [es] at po2
        intro A' B' v st dv
        obtain ⟨f, w, n⟩ := dv
        exact po2 A' B' v (s.e0.trans st.e0) (r.step (s.trans st)).st ⟨f, w, fun a m => ⟨(r.step s).st.e.free (n a m).1, (n a m).2⟩⟩
      | ex C => rw [es] at po2; exact fun A' B' st => po2 σ A' B' (s.e0.trans st.e0) (r.step (s.trans st))
      | no => rw [es] at po2; exact po2
    · exact po2.elim
theorem ss_asgF {k m i : Nat} {y x : Str} {sem : List D → Rs} {e : Expr} {es : List Expr} {p pos py apos : Pos} {ca : CA} (hN : X.N.Nodup) (hi : X.N[i]? = some y) (hy : L2.Loc X.env.scope y) (hf : X.fn y = true ∨ X.env.scope.names.lookup y = some .local) (F : FK X.prog X.w X.K X.mg X.base k x m sem) (hr : Room k X.A ∧ X.A.guards = some []) (hg : Gl X x) (tk : Takes X W) (ha : SL X W (e :: es) ca) (h1 : plainArg e = true) (h2 : es.all plainArg = true) :
    SS X W (.Assign [.Name y py] (.Call (.Name x p) (e :: es) [] pos) apos) (cAsgF i m sem ca) := by
  obtain ⟨te, q, v⟩ := call_core (W := W) (p := p) (pos := pos) F hr hg tk ha h1 h2
  refine ⟨_, ps_set hN hi hy q (swaps_of rfl) hf, fun G0 G δ σ H0 H E r po => v G0 G δ σ H0 H _ r ?_⟩
  have po' : PostS X.K W G0 G H0 E (fAr m sem δ (fAs i) (ca δ)) := po
  cases ec : ca δ with
  | no => rw [ec] at po'; exact po'
  | ex C => rw [ec] at po'; exact fun A B s => po' σ A B s.e0 (r.step s)
  | ok ds =>
    rw [ec] at po'
    have po2 : PostS X.K W G0 G H0 E (if ds.length = m then fAs i δ (sem ds) else .no) := po'
    split at po2
    · rename_i hl
      refine ⟨hl, fun A B s => ?_⟩
      cases es : sem ds with
      | ok d => rw [es] at po2; exact fun A' B' v st dv => po2 _ A' B' (s.e0.trans st.e0) ((r.step (s.trans st)).setP dv)
      | okl d => rw [es] at po2; exact po2.elim
      | okt d => rw [es] at po2; exact fun A' B' v st dv => po2 _ A' B' (s.e0.trans st.e0) ((r.step (s.trans st)).setT dv)
      | okr o =>
        rw [es] at po2
        intro A' B' v st dv
        obtain ⟨f, w, n⟩ := dv
        obtain ⟨fp, ow⟩ := (r.step s).own
        refine po2 _ A' B' (s.e0.trans st.e0) ((r.step (s.trans st)).setTr (fp := fp) (ow.step st) w (fun a m => ⟨(r.step s).st.e.free (n a m).1, (n a m).2⟩) fun a m j _ m2 => ?_)
        obtain ⟨u, h1, _⟩ := (ow.s j).there m2
        rw [(n a m).1] at h1
        cases h1
      | ex C => rw [es] at po2; exact fun A' B' st => po2 σ A' B' (s.e0.trans st.e0) (r.step (s.trans st))
      | no => rw [es] at po2; exact po2
    · exact po2.elim
end
end Dw
namespace Dw
open PySem L2 PyProof.Rows
/-! ### objects: fields -/
def fLook : List Str → List D → Str → Option D
  | f :: fs, d :: ds, x => if x = f then some d else fLook fs ds x
  | _, _, _ => none
def fPutN : List Str → Str → List Str
  | [], x => [x]
  | f :: fs, x => if f = x then f :: fs else f :: fPutN fs x
def fPutD : List Str → List D → Str → D → List D
  | f :: fs, e :: ds, x, d => if f = x then d :: ds else e :: fPutD fs ds x d
  | _, _, _, d => [d]
section
variable {K : PySem.W.Frag} {H : Hp}
theorem fLook_ok : ∀ {fvs : List (Str × V)} {ds : List D} {x : Str} {d : D}, DrAll K H (fvs.map (·.2)) ds → fLook (fvs.map (·.1)) ds x = some d → ∃ v, fvs.lookup x = some v ∧ Dr K H v d
  | [], _, _, _, h, e => by cases h; cases e
  | (f, v) :: r, _, x, d, h, e => by
    cases h with
    | @cons _ _ d0 ds a t =>
      have e' : (if x = f then some d0 else fLook (r.map (·.1)) ds x) = some d := e
      by_cases c : x = f
      · rw [if_pos c] at e'
        cases e'
        subst c
        exact ⟨v, by simp [List.lookup], a⟩
      · rw [if_neg c] at e'
        obtain ⟨u, hu, du⟩ := fLook_ok t e'
        refine ⟨u, ?_, du⟩
        have hb : (x == f) = false := by simpa using c
        rw [List.lookup_cons, hb]
        exact hu
theorem lookup_out : ∀ {fvs : List (Str × V)} {x : Str}, (fvs.map (·.1)).contains x = false → fvs.lookup x = none
  | [], _, _ => rfl
  | (f, v) :: r, x, h => by
    have h' : ((x == f) || (r.map (·.1)).contains x) = false := by simpa [List.contains_cons] using h
    obtain ⟨h1, h2⟩ := Bool.or_eq_false_iff.mp h'
    rw [List.lookup_cons, h1]
    exact lookup_out h2
theorem putF_n (f : Str) (v : V) : ∀ fvs : List (Str × V), (putF f v fvs).map (·.1) = fPutN (fvs.map (·.1)) f
  | [] => rfl
  | (g, x) :: r => by
    have e : putF f v ((g, x) :: r) = if g = f then (g, v) :: r else (g, x) :: putF f v r := rfl
    have e2 : fPutN (((g, x) :: r).map (·.1)) f = if g = f then g :: r.map (·.1) else g :: fPutN (r.map (·.1)) f := rfl
    rw [e, e2]
    split
    · rfl
    · rw [List.map_cons, putF_n f v r]
theorem putF_d {f : Str} {v : V} {d : D} (hv : Dr K H v d) : ∀ {fvs : List (Str × V)} {ds : List D}, DrAll K H (fvs.map (·.2)) ds → DrAll K H ((putF f v fvs).map (·.2)) (fPutD (fvs.map (·.1)) ds f d)
  | [], _, h => by cases h; exact .cons hv .nil
  | (g, x) :: r, _, h => by
    cases h with
    | @cons _ _ d0 ds a t =>
      have e : putF f v ((g, x) :: r) = if g = f then (g, v) :: r else (g, x) :: putF f v r := rfl
      have e2 : fPutD (((g, x) :: r).map (·.1)) (d0 :: ds) f d = if g = f then d :: ds else d0 :: fPutD (r.map (·.1)) ds f d := rfl
      rw [e, e2]
      split
      · exact .cons hv t
      · exact .cons a (putF_d hv t)
end
/-- classes and their fields: what the text says of them -/
structure ClF (K : PySem.W.Frag) (ok : Str → Str → Bool) : Prop where
  cl : ∀ C f, ok C f = true → Cls K (He.ga K C) ∧ NoAttr K (He.ga K C) f
def dFld (ok : Str → Str → Bool) (f : Str) : D → R D
  | .obj C fs ds => if ok C f = true then (match fLook fs ds f with
    | some d => .ok d
    | none => .no) else .no
  | _ => .no
section
variable {X : Cx} {W : WX}
theorem se_fld {e : Expr} {f : Str} {pos : Pos} {ok : Str → Str → Bool} {c : C} (h : SE X W e c) (hb : okBase e = true) (hk : ClF X.K ok) : SE X W (.Attribute e f pos) (cUn (dFld ok f) c) := by
  obtain ⟨t, p, v⟩ := h
  refine ⟨_, pe_fld p (base_of hb), ev_unG (r := fun x H1 Q => ∃ a C dx fs v, x = .ref a ∧ H1 a = some (.ins C dx fs) ∧ Cls X.K C ∧ NoAttr X.K C f ∧ fs.lookup f = some v ∧ Q v H1) downV v fun σ H0 H x d Q s hx po => ?_⟩
  unfold dFld at po
  split at po
  · split at po
    · rename_i C fs ds hok
      split at po
      · rename_i d' hl
        cases hx with
        | obj q r =>
          obtain ⟨u, hu, du⟩ := fLook_ok r hl
          obtain ⟨c1, c2⟩ := hk.cl _ _ hok
          exact ⟨_, _, _, _, u, rfl, s _ _ q, c1, c2, hu, po.v s du⟩
      · exact po.elim
    · exact po.elim
  · exact po.elim
/-! ### self.f = e -/
def kSetF (ok : Str → Str → Bool) (i : Nat) (f : Str) (d : D) (δ : List Sl) : Option Sl → Fl
  | some (.os C fs ds) => if ok C f = true ∧ fs.length < 1000 then .nx (δ.set i (.os C (fPutN fs f) (fPutD fs ds f d))) else .no
  | _ => .no
def cSetF (ok : Str → Str → Bool) (i : Nat) (f : Str) (c : C) : CS := fun δ => fA (evA c δ) δ fun d δ' => kSetF ok i f d δ' δ'[i]?
theorem Rel.os {K : PySem.W.Frag} {G0 G H0 H : Hp} {δ : List Sl} {σ : L2.St} (r : Rel K G0 G δ σ H0 H) {i : Nat} {C : Str} {fs : List Str} {ds : List D} (e : δ[i]? = some (.os C fs ds)) : ∃ p dx fvs, σ[i]? = some (some (.ref p)) ∧ dx ≠ p ∧ G p = none ∧ G dx = none ∧ H0 p = none ∧ H0 dx = none ∧ H p = some (.ins (He.ga K C) dx fvs) ∧ H dx = some (.own p) ∧ fvs.map (·.1) = fs ∧ DrAll K H0 (fvs.map (·.2)) ds ∧
    ∀ fs' ds' gvs, gvs.map (·.1) = fs' → DrAll K H0 (gvs.map (·.2)) ds' → Rel K G0 G (δ.set i (.os C fs' ds')) σ H0 (upd H p (.ins (He.ga K C) dx gvs)) := by
  obtain ⟨fp, o⟩ := r.own
  have z := o.s i
  rw [e] at z
  obtain ⟨p, dx, fvs, a, f, ne, hp, ho, hn, hd⟩ := z
  have n1 := o.n i p (by rw [f]; exact List.mem_cons_self)
  have n2 := o.n i dx (by rw [f]; exact List.mem_cons_of_mem _ List.mem_cons_self)
  refine ⟨p, dx, fvs, a, ne, n1.1, n2.1, n1.2, n2.2, hp, ho, hn, hd, fun fs' ds' gvs g1 g2 => ?_⟩
  exact r.putX o e (fun b m => upd_ne fun z => m (by rw [f, z]; exact List.mem_cons_self)) ⟨p, dx, gvs, a, f, ne, upd_same, by rw [upd_ne ne]; exact ho, g1, g2⟩ (fun _ z => nomatch z) fun _ z => nomatch z
theorem ss_setF {i : Nat} {x f : Str} {e : Expr} {p ap pos : Pos} {ok : Str → Str → Bool} {c : C} (hN : X.N[i]? = some x) (hv : Vis X.env.scope x) (hd : (x == ("__debug__" : Str)) = false) (hcd : (x == ("__classdict__" : Str)) = false) (h : SE X W e c) (hc : isComp e = false) (hk : ClF X.K ok) :
    SS X W (.Assign [.Attribute (.Name x p) f ap] e pos) (cSetF ok i f c) := by
  obtain ⟨t, q, v⟩ := h
  refine ⟨_, ps_fld (pe_var hN hv hd hcd) q (swaps_of hc), fun G0 G δ σ H0 H E r po => ?_⟩
  have po' : PostS X.K W G0 G H0 E (fA (evA c δ) δ fun d δ' => kSetF ok i f d δ' δ'[i]?) := po
  refine evA_ok v r ?_
  cases ea : evA c δ with
  | no => rw [ea] at po'; exact po'
  | ex C => rw [ea] at po'; exact fun A B s rl => po' σ A B s rl
  | ok w =>
    obtain ⟨d, δ'⟩ := w
    rw [ea] at po'
    intro A B y s rl dy
    have po2 : PostS X.K W G0 G H0 E (kSetF ok i f d δ' δ'[i]?) := po'
    unfold kSetF at po2
    split at po2
    · rename_i C fs ds e0
      split at po2
      · rename_i hok
        obtain ⟨p0, dx, fvs, hs, ne, g1, g2, n1, n2, hp, ho, hn, hd, put⟩ := rl.os e0
        obtain ⟨c1, c2⟩ := hk.cl _ _ hok.1
        refine ⟨_, hs, p0, _, dx, fvs, rfl, hp, c1, c2, ?_, ?_⟩
        · rw [← hn, List.length_map] at hok
          exact hok.2
        · refine po2 _ A _ s (put _ _ _ ?_ ?_)
          · rw [putF_n, hn]
          · rw [← hn]
            exact putF_d dy hd
      · exact po2.elim
    · exact po2.elim
end
/-! ### the tree of a method's call -/
theorem few_all {args : List Expr} {env : Env} {cpos : Pos} (h : args.all plainArg = true) (hl : args.length < 29) : ((backTo cpos (starEach args env)).all (fun x => !x.1) && (backToKw cpos (keywordEach [] env)).all (fun x => x.1.isSome)
      && decide (args.length + ([] : List Keyword).length + (if ([] : List Keyword).isEmpty then 0 else 1) < 30)) = true := by
  have h1 := star_all (env := env) (pos := cpos) h
  have h2 : (backTo cpos (starEach args env)).all (fun x => !x.1) = true := by
    rw [List.all_eq_true]
    intro x hx
    have z := List.any_eq_false.mp h1 x hx
    simpa using z
  rw [h2]
  have h3 : (backToKw cpos (keywordEach [] env)).all (fun x => x.1.isSome) = true := rfl
  rw [h3]
  simp
  omega
theorem call_meth {prog : Program} {w : World} {A : Around} {E : Value → Shared → Prop} {s : Shared} {env : Env} {o : Expr} {name : Str} {apos pos : Pos} {args : List Expr} {Q : Value → Shared → Prop} (hb : okBase o = true) (hp : args.all plainArg = true) (hn : args.length < 29) (hline : (apos.endLine == pos.line) = true)
    (h : wpAny (model prog w) A (eval o env) (fun ov s₁ => wpAny (model prog w) A (getMethod ov name (do return (← importBound o env).getD true)) (fun r s2 => wpAny (model prog w) A (callWith pos r.1 r.2 (backTo pos (starEach args env)) (backToKw pos (keywordEach [] env))) Q E s2) E s₁) E s) :
    wpAny (model prog w) A (eval (.Call (.Attribute o name apos) args [] pos) env) Q E s := by
  rw [arm_eval_Call, base_of hb]
  refine wpAny_bind (wpAny_mono h (fun ov s₁ h₁ => ?_) fun _ _ e => e)
  refine wpAny_bind (wpAny_standAt ?_)
  have hform : methodCallForm (args.length + ([] : List Keyword).length) (backTo pos (starEach args env)) (backToKw pos (keywordEach [] env)) = true := few_all hp hn
  have hpos : methodCallPos true o env apos pos = pure pos := by unfold methodCallPos; simp [hline]
  unfold methodCall
  rw [hform]
  refine wpAny_bind (wpAny_holding (wpAny_mono h₁ (fun r s2 h2 => ?_) fun _ _ e => e))
  exact wpAny_bind (wpAny_of_eq hpos h2)
def cArgs (f : Expr → C) : List Expr → CA
  | [] => cNil
  | e :: es => cCons (f e) (cArgs f es)
theorem sl_args {X : Cx} {W : WX} {f : Expr → C} (h : ∀ e, SE X W e (f e)) : ∀ {es : List Expr}, es.all plainArg = true → SL X W es (cArgs f es)
  | [], _ => sl_nil
  | e :: es, hp => by
    have h' := Bool.and_eq_true_iff.mp (show (plainArg e && es.all plainArg) = true from hp)
    exact sl_cons (h e) (sl_args h h'.2) h'.1
/-! ### o.m(..): the class of o tells the def -/
structure MtK (P : Program) (w : World) (K : PySem.W.Frag) (mg : Str → Option Value) (base : Heap) (k : Nat) (m : Str) (n : Nat) (tab : Str → Option (List D → Rs)) : Prop where
  ex : ∀ C sem, tab C = some sem → ∃ (f : Addr) (fd : FuncData) (ps : List Str), Cls K (He.ga K C) ∧ Meth K (He.ga K C) m f ∧ FnG P w K mg base k f fd ps (spF K ps.length sem) ∧ Binds K fd ps [] ∧ ps.length = n + 1
theorem MtK.mono {P : Program} {w : World} {K : PySem.W.Frag} {mg : Str → Option Value} {base : Heap} {j k : Nat} {m : Str} {n : Nat} {tab : Str → Option (List D → Rs)} (F : MtK P w K mg base j m n tab) (h : j ≤ k) : MtK P w K mg base k m n tab where
  ex := fun C sem e => by
    obtain ⟨f, fd, ps, a, b, c, d⟩ := F.ex C sem e
    exact ⟨f, fd, ps, a, b, c.mono h, d⟩
def kMth {α : Type} (m : Str) (n : Nat) (tab : Str → Option (List D → Rs)) (g : Rs → R α) (ca : CA) (δ : List Sl) : D → R α
  | .obj C fs ds => (match tab C with
    | some sem => if fs.contains m = true then .no else (ca δ).bind fun as => if as.length = n then g (sem (.obj C fs ds :: as)) else .no
    | none => .no)
  | _ => .no
def cMth (m : Str) (n : Nat) (tab : Str → Option (List D → Rs)) (co : C) (ca : CA) : C := fun δ => (co δ).bind (kMth m n tab rsV ca δ)
def cMthN (m : Str) (n : Nat) (tab : Str → Option (List D → Rs)) (co : C) (ca : CA) : CA := fun δ => (co δ).bind (kMth m n tab rsN ca δ)
def tMthG (X : Cx) (k : Nat) (m : Str) (E : L2.St → XK) (to : TE) (ta : TA) : TE := fun σ H Q => to σ H fun x H1 => ∃ (a C dx : Addr) (fs : List (Str × V)) (f : Addr) (fd : FuncData) (ps : List Str) (sp : Sp), x = .ref a ∧ H1 a = some (.ins C dx fs) ∧ Cls X.K C ∧ Meth X.K C m f ∧ FnG X.prog X.w X.K X.mg X.base k f fd ps sp ∧ Binds X.K fd ps [] ∧ fs.lookup m = none ∧
  ta σ H1 fun vs H2 => sp (.ref a :: vs) H2 Q (E σ)
section
variable {X : Cx} {W : WX} {k : Nat} {m : Str} {E : L2.St → XK} {o e : Expr} {es : List Expr} {to : TE} {ta : TA} {apos pos : Pos}
theorem pe_mthG (he : PE X o to) (hr : Room k X.A ∧ X.A.guards = some []) (hx : ∀ σ, PassesAt (L2.CX X.prog X.w) X σ (E σ)) (ha : PA X (e :: es) ta) (hb : okBase o = true) (hp : (e :: es).all plainArg = true) (hn : (e :: es).length < 29) (hline : (apos.endLine == pos.line) = true) :
    PE X (.Call (.Attribute o m apos) (e :: es) [] pos) (tMthG X k m E to ta) := by
  refine ⟨fun pins s σ H Q I h => ?_⟩
  refine call_meth hb hp hn hline (thn (he.run pins s σ H _ I h) fun u s1 ⟨x, H1, I1, rx, a, C, dx, fs, f, fd, ps, sp, ex, ea, c, hm, F, bd, l, q⟩ => ?_)
  subst ex
  obtain rfl : u = Value.ref a := rx
  refine getmeth_ok I1 ea c hm l ?_
  have key : wpAny (model X.prog X.w) X.A (spliced (backTo pos (starEach (e :: es) X.env))) (fun us s2 => X.K.In s2.heap ∧ wpAny (model X.prog X.w) X.A (call (.ref f) ([.ref a] ++ us)) (EP X pins σ Q) X.xe s2) X.xe s1 := by
    refine thn (ha.run pos pins s1 σ H1 _ I1 q) fun us s2 ⟨vs, H2, I2, r, q2⟩ => ⟨I2.kIn, ?_⟩
    refine call_G (us := .ref a :: us) (vs := .ref a :: vs) F hr bd .nil (hx σ) I2 (.cons rfl r) ?_
    rw [List.append_nil]
    exact q2
  have h1 := Bool.and_eq_true_iff.mp (show (plainArg e && es.all plainArg) = true from hp)
  exact PySem.W.callWith_K (first := [.ref a]) (h₀ := X.base) I.ok.mod.kin hm.kp key (star_of h1.1) (star_all h1.2)
theorem pe_mthG0 (he : PE X o to) (hr : Room k X.A ∧ X.A.guards = some []) (hx : ∀ σ, PassesAt (L2.CX X.prog X.w) X σ (E σ)) (hb : okBase o = true) (hline : (apos.endLine == pos.line) = true) :
    PE X (.Call (.Attribute o m apos) [] [] pos) (tMthG X k m E to tNil) := by
  refine ⟨fun pins s σ H Q I h => ?_⟩
  refine call_meth hb rfl (by decide) hline (thn (he.run pins s σ H _ I h) fun u s1 ⟨x, H1, I1, rx, a, C, dx, fs, f, fd, ps, sp, ex, ea, c, hm, F, bd, l, q⟩ => ?_)
  subst ex
  obtain rfl : u = Value.ref a := rx
  refine getmeth_ok I1 ea c hm l ?_
  refine PySem.W.callWith_K0 (first := [.ref a]) I1.kIn hm.kp ?_
  exact call_G (us := [.ref a]) (vs := [.ref a]) F hr bd .nil (hx σ) I1 (.cons rfl .nil) q
/-- the readings -/
theorem ev_mth {α : Type} {S : Sat α V} (hS : Down S) {n : Nat} {tab : Str → Option (List D → Rs)} {co : C} {ca : CA} (F : MtK X.prog X.w X.K X.mg X.base k m n tab) (g : Rs → R α) (hg : ∀ σ H0 H r Q, Post X.K W σ H0 H S (g r) Q → Ans X.K H0 H r Q (WE W σ))
    (v : Ev X.K W (SV X.K) to co) (w : Ev X.K W (SA X.K) ta ca) : Ev X.K W S (tMthG X k m (WE W) to ta) (fun δ => (co δ).bind (kMth m n tab g ca δ)) := by
  refine Ev.bind (f := fun d δ => kMth m n tab g ca δ d) hS v fun d x G0 G δ σ Hs H0 H Q rl hd po => ?_
  unfold kMth at po
  split at po
  · rename_i C fs ds
    split at po
    · rename_i sem hs
      split at po
      · exact po.elim
      · rename_i hc
        obtain ⟨f, fd, ps, c1, c2, c3, c4, c5⟩ := F.ex C sem hs
        have hd' : Dr X.K H0 x (.obj C fs ds) := hd
        cases hd' with
        | @obj a _ dx fvs _ q r =>
          refine ⟨a, _, dx, fvs, f, fd, ps, _, rfl, rl.same _ _ q, c1, c2, c3, c4, lookup_out (by simpa using hc), ?_⟩
          refine w G0 G δ σ H0 H _ rl ?_
          cases ec : ca δ with
          | no => rw [ec] at po; exact po
          | ex E => rw [ec] at po; exact po
          | ok as =>
            rw [ec] at po
            intro A B vs s dv
            have po2 : Post X.K W σ H0 H S (if as.length = n then g (sem (.obj C (fvs.map (·.1)) ds :: as)) else .no) Q := po
            split at po2
            · rename_i hl
              have hv := DrAll.length dv
              refine ⟨by rw [List.length_cons, c5]; omega, A, .obj C (fvs.map (·.1)) ds :: as, s.k, .cons (Dr.mono s.e0 _ (.obj q r)) dv, ?_⟩
              exact hg _ _ _ _ _ (Post.mono hS po2 s)
            · exact po2.elim
    · exact po.elim
  · exact po.elim
theorem se_mth {n : Nat} {tab : Str → Option (List D → Rs)} {args : List Expr} {co : C} (F : MtK X.prog X.w X.K X.mg X.base k m n tab) (hr : Room k X.A ∧ X.A.guards = some []) (tk : Takes X W) (ho : SE X W o co) (f : Expr → C) (hf : ∀ e, SE X W e (f e)) (hb : okBase o = true) (hp : args.all plainArg = true) (hn : args.length < 29) (hline : (apos.endLine == pos.line) = true) :
    SE X W (.Call (.Attribute o m apos) args [] pos) (cMth m n tab co (cArgs f args)) ∧ SN X W (.Call (.Attribute o m apos) args [] pos) (cMthN m n tab co (cArgs f args)) := by
  obtain ⟨t, p, v⟩ := ho
  cases args with
  | nil => exact ⟨⟨_, pe_mthG0 p hr (fun σ => passAt tk σ) hb hline, ev_mth downV F rsV (fun _ _ _ _ _ p => ans_of p) v ev_nil⟩, ⟨_, pe_mthG0 p hr (fun σ => passAt tk σ) hb hline, ev_mth downW F rsN (fun _ _ _ _ _ p => ansN_of p) v ev_nil⟩⟩
  | cons e es =>
    obtain ⟨u, q, w⟩ := sl_args hf hp
    exact ⟨⟨_, pe_mthG p hr (fun σ => passAt tk σ) q hb hp hn hline, ev_mth downV F rsV (fun _ _ _ _ _ p => ans_of p) v w⟩, ⟨_, pe_mthG p hr (fun σ => passAt tk σ) q hb hp hn hline, ev_mth downW F rsN (fun _ _ _ _ _ p => ansN_of p) v w⟩⟩
end
end Dw
namespace Dw
open PySem L2 PyProof.Rows
/-! ### __init__: what it makes of the object -/
inductive Ro where
  | ok (fs : List Str) (ds : List D)
  | ex (C : Str)
  | no
abbrev Ini := Str → List Str → List D → List D → Ro
def cut2 (H : Hp) (x y : Addr) : Hp := fun a => if a = x ∨ a = y then none else H a
theorem cut2_some {H : Hp} {x y a : Addr} {o : HO} (h : cut2 H x y a = some o) : a ≠ x ∧ a ≠ y ∧ H a = some o := by
  unfold cut2 at h
  split at h
  · cases h
  · rename_i c
    exact ⟨fun e => c (.inl e), fun e => c (.inr e), h⟩
theorem cut2_of {H : Hp} {x y a : Addr} {o : HO} (h : H a = some o) (h1 : a ≠ x) (h2 : a ≠ y) : cut2 H x y a = some o := by
  unfold cut2
  rw [if_neg (fun c => c.elim h1 h2)]
  exact h
theorem cut2_x {H : Hp} {x y : Addr} : cut2 H x y x = none := if_pos (.inl rfl)
theorem cut2_y {H : Hp} {x y : Addr} : cut2 H x y y = none := if_pos (.inr rfl)
def AnsI (K : PySem.W.Frag) (H0 H : Hp) (x dx : Addr) (C : Str) (r : Ro) (Q : VK) (E : XK) : Prop := match r with
  | .ok fs ds => ∀ H0' H' fvs, Stp H0 (cut2 H x dx) H0' H' → H0' x = none → H0' dx = none → H' x = some (.ins (He.ga K C) dx fvs) → H' dx = some (.own x) → fvs.map (·.1) = fs → DrAll K H0' (fvs.map (·.2)) ds → Q .non H'
  | .ex B => ∀ H0' H', Stp H0 (cut2 H x dx) H0' H' → E (.ref (He.ga K B)) none H'
  | .no => False
def spI (K : PySem.W.Frag) (C : Str) (n : Nat) (ini : Ini) : Sp := fun vs H Q E => vs.length = n + 1 ∧ ∃ (H0 : Hp) (x dx : Addr) (fvs : List (Str × V)) (us : List V) (ds as : List D), vs = .ref x :: us ∧ Same H0 H ∧ H0 x = none ∧ H0 dx = none ∧ dx ≠ x ∧ H x = some (.ins (He.ga K C) dx fvs) ∧ H dx = some (.own x) ∧
  DrAll K H0 (fvs.map (·.2)) ds ∧ DrAll K H0 us as ∧ AnsI K H0 H x dx C (ini C (fvs.map (·.1)) ds as) Q E
/-! ### C(..) -/
structure MkK (P : Program) (w : World) (K : PySem.W.Frag) (mg : Str → Option Value) (base : Heap) (k : Nat) (x : Str) (n : Nat) (ini : Ini) : Prop where
  ex : ∃ (f : Addr) (fd : FuncData) (ps : List Str), Mk K (He.ga K x) f ∧ FnG P w K mg base k f fd ps (spI K x n ini) ∧ Binds K fd ps []
  gl : mg x = some (.ref (He.ga K x))
  db : (x == ("__debug__" : Str)) = false
theorem MkK.mono {P : Program} {w : World} {K : PySem.W.Frag} {mg : Str → Option Value} {base : Heap} {j k : Nat} {x : Str} {n : Nat} {ini : Ini} (F : MkK P w K mg base j x n ini) (h : j ≤ k) : MkK P w K mg base k x n ini where
  ex := by
    obtain ⟨f, fd, ps, a, b, c⟩ := F.ex
    exact ⟨f, fd, ps, a, b.mono h, c⟩
  gl := F.gl
  db := F.db
def roV (C : Str) : Ro → R D
  | .ok fs ds => .ok (.obj C fs ds)
  | .ex B => .ex B
  | .no => .no
def cMake (x : Str) (n : Nat) (ini : Ini) (ca : CA) : C := fun δ => (ca δ).bind fun as => if as.length = n then roV x (ini x [] [] as) else .no
def tMakeG (C : Addr) (sp : Sp) (E : L2.St → XK) (t : TA) : TE := fun σ H Q => t σ H fun vs H1 => ∀ x dx, H1 x = none → H1 dx = none → dx ≠ x → sp (.ref x :: vs) (upd (upd H1 dx (.own x)) x (.ins C dx [])) (fun v H2 => v = .non ∧ Q (.ref x) H2) (E σ)
theorem make_guards {A : Around} {C : Addr} {us : List Value} {kw : List (Str × Value)} (h : A.guards = some []) : (A.under (.builtin "type.__call__" ⟨.ref C :: us, kw⟩)).guards = some [] := by
  first | exact h | (simp [Around.under, Code.weight, Code.isCreation, Code.isGuard, Code.isCaller, Code.frames, Code.isFrame, guardIds, h])
section
variable {X : Cx} {W : WX} {k : Nat} {C f : Addr} {fd : FuncData} {ps : List Str} {sp : Sp} {E : L2.St → XK} {x : Str} {p pos : Pos} {e : Expr} {es : List Expr} {t : TA}
theorem run_makeG {pins : List (Addr × Obj)} {σ : L2.St} {H : Hp} {s : Shared} {Q : VK} {us : List Value} {vs : List V} (M : Mk X.K C f) (F : FnG X.prog X.w X.K X.mg X.base k f fd ps sp) (hr : Room (k + 1) X.A ∧ X.A.guards = some []) (hb : Binds X.K fd ps [])
    (hx : PassesAt (L2.CX X.prog X.w) X σ (E σ)) (I : Inv X pins σ H s) (r : Vals vs us)
    (h : ∀ x dx, H x = none → H dx = none → dx ≠ x → sp (.ref x :: vs) (upd (upd H dx (.own x)) x (.ins C dx [])) (fun v H2 => v = .non ∧ Q (.ref x) H2) (E σ)) :
    wpAny (model X.prog X.w) X.A (call (.ref C) us) (EP X pins σ Q) X.xe s := by
  have hq := h (s.heap.objs.size + 1) s.heap.objs.size (I.hok.fresh (Nat.le_succ _)) (I.hok.fresh (Nat.le_refl _)) (Nat.ne_of_lt (Nat.lt_succ_self _))
  have I2 := Inv.made (C := C) I
  have r2 : Vals (V.ref (s.heap.objs.size + 1) :: vs) (Value.ref (s.heap.objs.size + 1) :: us) := .cons rfl r
  have hl : (Value.ref (s.heap.objs.size + 1) :: us ++ []).length = ps.length := by
    have e := r2.length
    rw [F.arity _ _ _ _ hq] at e
    rw [List.append_nil]
    exact e.symm
  have hbb := hb _ (Value.ref (s.heap.objs.size + 1) :: us) I2.kIn hl
  rw [List.append_nil] at hbb
  refine wpAny_call (make_map (f := f) I.kIn M.makes M.init (beq_iff_eq.mp M.fn) (codeAny_mono (F.go _ X.stack _ _ ⟨Value.ref (s.heap.objs.size + 1) :: us, []⟩ (Value.ref (s.heap.objs.size + 1) :: us) _ _ (E σ) ⟨hr.1.make C us [], make_guards hr.2⟩
    (I2.env0.make C us []) hbb r2 hq) fun r s' hq' => ?_))
  cases r with
  | error e => exact hx pins _ _ e s' I2 hq'
  | ok fl =>
    cases fl with
    | ret u =>
      obtain ⟨v, H', I3, rv, ev, q3⟩ := I2.after hq'
      subst ev
      exact ⟨rv, ⟨V.ref (s.heap.objs.size + 1), H', I3, rfl, q3⟩⟩
    | next => exact False.elim hq'
    | brk => exact False.elim hq'
    | cont => exact False.elim hq'
theorem pe_makeG (M : Mk X.K C f) (F : FnG X.prog X.w X.K X.mg X.base k f fd ps sp) (hr : Room (k + 1) X.A ∧ X.A.guards = some []) (hg : Gl X x) (hm : X.mg x = some (.ref C)) (hb : Binds X.K fd ps []) (hx : ∀ σ, PassesAt (L2.CX X.prog X.w) X σ (E σ))
    (ha : PA X (e :: es) t) (hdb : (x == ("__debug__" : Str)) = false) (he : starEach (e :: es) X.env = (false, eval e X.env) :: starEach es X.env) (hpl : (backTo pos (starEach es X.env)).any (·.1) = false) :
    PE X (.Call (.Name x p) (e :: es) [] pos) (tMakeG C sp E t) := by
  refine ⟨fun pins s σ H Q I h => ?_⟩
  refine wpAny_Call_Name_kw (ld_glob I hg hm ?_ hdb)
  refine PySem.W.callWith_K (h₀ := X.base) I.ok.mod.kin M.kp (thn (ha.run pos pins s σ H _ I h) fun us s1 ⟨vs, H1, I1, r, q⟩ => ⟨I1.kIn, ?_⟩) he hpl
  exact run_makeG M F hr hb (hx σ) I1 r q
/-- the object behind its __init__ becomes known -/
theorem Stp.made {K : PySem.W.Frag} {H0 H H0' H' : Hp} {x dx : Addr} {o o' : HO} (st : Stp H0 H H0' H') (hx : H x = none) (hdx : H dx = none) (nx : H0' x = none) (ndx : H0' dx = none) (ne : dx ≠ x) (h1 : H' x = some o) (h2 : H' dx = some o') : Stp H0 H (upd (upd H0' dx o') x o) H' := by
  have e1 : Same H0' (upd (upd H0' dx o') x o) := fun a u z => by
    rw [upd_ne (ne_of_none z nx), upd_ne (ne_of_none z ndx)]
    exact z
  refine ⟨st.e0.trans e1, st.e, fun a u z => ?_, fun a u z w k => ?_⟩
  · by_cases q : a = x
    · subst q; rw [upd_same] at z; cases z; exact h1
    · rw [upd_ne q] at z
      by_cases q2 : a = dx
      · subst q2; rw [upd_same] at z; cases z; exact h2
      · rw [upd_ne q2] at z; exact st.k a u z
  · rw [upd_ne (ne_of_none w hx), upd_ne (ne_of_none w hdx)]
    exact st.n a u z w k
theorem cut2_upd {H : Hp} {x dx : Addr} {o o' : HO} (hx : H x = none) (hdx : H dx = none) : cut2 (upd (upd H dx o') x o) x dx = H := by
  funext a
  unfold cut2
  split
  · rename_i c
    rcases c with c | c
    · rw [c, hx]
    · rw [c, hdx]
  · rename_i c
    rw [upd_ne fun e => c (.inl e), upd_ne fun e => c (.inr e)]
theorem se_make {n : Nat} {ini : Ini} {ca : CA} (F : MkK X.prog X.w X.K X.mg X.base k x n ini) (hr : Room (k + 1) X.A ∧ X.A.guards = some []) (hg : Gl X x) (tk : Takes X W) (ha : SL X W (e :: es) ca) (h1 : plainArg e = true) (h2 : es.all plainArg = true) :
    SE X W (.Call (.Name x p) (e :: es) [] pos) (cMake x n ini ca) := by
  obtain ⟨f, fd, ps, M, G, b⟩ := F.ex
  obtain ⟨t, pa, v⟩ := ha
  refine ⟨_, pe_makeG M G hr hg F.gl b (fun σ => passAt tk σ) pa F.db (star_of h1) (star_all h2), ?_⟩
  refine Ev.bind (f := fun as _ => if as.length = n then roV x (ini x [] [] as) else .no) downV v fun as vs G0 G δ σ Hs H0 H Q rl q po => ?_
  split at po
  · rename_i hl
    intro y dy hy hdy ne
    have st : Same H0 H := rl.same
    have hv := DrAll.length q
    refine ⟨by rw [List.length_cons]; omega, H0, y, dy, [], vs, [], as, rfl, ?_, st.free hy, st.free hdy, ne, upd_same, by rw [upd_ne ne, upd_same], .nil, q, ?_⟩
    · exact st.trans fun a u z => by rw [upd_ne (ne_of_none z hy), upd_ne (ne_of_none z hdy)]; exact z
    · show AnsI X.K H0 _ y dy x (ini x [] [] as) _ _
      unfold AnsI
      cases er : ini x [] [] as with
      | no => rw [er] at po; exact po
      | ex B =>
        rw [er] at po
        intro A C' s
        rw [cut2_upd hy hdy] at s
        exact po A C' s
      | ok fs ds =>
        rw [er] at po
        intro A C' fvs s n1 n2 g1 g2 g3 g4
        rw [cut2_upd hy hdy] at s
        have s2 := s.made (K := X.K) hy hdy n1 n2 ne g1 g2
        refine ⟨rfl, po _ _ _ s2 ?_⟩
        subst g3
        refine .obj (dx := dy) upd_same (g4.mono fun a u z => ?_)
        rw [upd_ne (ne_of_none z n1), upd_ne (ne_of_none z n2)]
        exact z
  · exact po.elim
end
/-! ### B.__init__(self, ..) in an __init__ -/
structure IbK (P : Program) (w : World) (K : PySem.W.Frag) (mg : Str → Option Value) (base : Heap) (k : Nat) (x : Str) (n : Nat) (ini : Ini) : Prop where
  ex : ∃ (f : Addr) (fd : FuncData) (ps : List Str), ClX.CRead K (He.ga K x) (.type "type") ∧ ClX.CVal K (He.ga K x) (.type "type") "__init__" (.ref f) (.ref f) ∧ PySem.W.keepIn K (.ref f) = true ∧ (∀ C, FnG P w K mg base k f fd ps (spI K C n ini)) ∧ Binds K fd ps []
  gl : mg x = some (.ref (He.ga K x))
  db : (x == ("__debug__" : Str)) = false
theorem IbK.mono {P : Program} {w : World} {K : PySem.W.Frag} {mg : Str → Option Value} {base : Heap} {j k : Nat} {x : Str} {n : Nat} {ini : Ini} (F : IbK P w K mg base j x n ini) (h : j ≤ k) : IbK P w K mg base k x n ini where
  ex := by
    obtain ⟨f, fd, ps, a, b, c, d, e⟩ := F.ex
    exact ⟨f, fd, ps, a, b, c, fun C => (d C).mono h, e⟩
  gl := F.gl
  db := F.db
def kIni (C : Str) (i : Nat) (δ : List Sl) : Ro → Fl
  | .ok fs ds => .nx (δ.set i (.os C fs ds))
  | .ex B => .ex B (δ.set i .un)
  | .no => .no
def kIniB (i n : Nat) (ini : Ini) (ca : CA) (δ : List Sl) : Option Sl → Fl
  | some (.os C fs ds) => (match ca δ with
    | .ok as => if as.length = n then kIni C i δ (ini C fs ds as) else .no
    | .ex B => .ex B δ
    | .no => .no)
  | _ => .no
def cIniB (i n : Nat) (ini : Ini) (ca : CA) : CS := fun δ => kIniB i n ini ca δ δ[i]?
theorem Rel.through {K : PySem.W.Frag} {G0 G A B A' B' : Hp} {δ : List Sl} {σ : L2.St} (r : Rel K G0 G δ σ A B) {i : Nat} {C : Str} {fs : List Str} {ds : List D} (e : δ[i]? = some (.os C fs ds)) {p dx : Addr} (hs : σ[i]? = some (some (.ref p))) (hB : ∃ fvs, B p = some (.ins (He.ga K C) dx fvs)) (st : Stp A (cut2 B p dx) A' B') :
    Rel K G0 G (δ.set i .un) σ A' B' ∧ ∀ C' fs' ds' gvs, A' p = none → A' dx = none → B' p = some (.ins (He.ga K C') dx gvs) → B' dx = some (.own p) → gvs.map (·.1) = fs' → DrAll K A' (gvs.map (·.2)) ds' → Rel K G0 G (δ.set i (.os C' fs' ds')) σ A' B' := by
  obtain ⟨fp, o⟩ := r.own
  have z := o.s i
  rw [e] at z
  obtain ⟨p', dx', fvs, a, f, ne, hp, ho, hn, hd⟩ := z
  rw [a] at hs
  cases hs
  obtain ⟨fv2, hB⟩ := hB
  rw [hp] at hB
  cases hB
  have hl : i < δ.length := (List.getElem?_eq_some_iff.mp e).1
  have mp : p ∈ fp i := by rw [f]; exact List.mem_cons_self
  have md : dx ∈ fp i := by rw [f]; exact List.mem_cons_of_mem _ List.mem_cons_self
  have gp := o.n i p mp
  have gd := o.n i dx md
  have s1 : Stp G0 G A' B' := ⟨r.st.e0.trans st.e0, fun c u q => st.e c u (cut2_of (r.st.e c u q) (ne_of_none q gp.1) (ne_of_none q gd.1)), st.k, fun c u q w k => st.n c u (r.st.n c u q w k) (cut2_of (r.st.e c u w) (ne_of_none w gp.1) (ne_of_none w gd.1)) k⟩
  have oth : ∀ j c, j ≠ i → c ∈ fp j → c ≠ p ∧ c ≠ dx := fun j c nj m => ⟨fun q => nj (o.d j i c m (by rw [q]; exact mp)), fun q => nj (o.d j i c m (by rw [q]; exact md))⟩
  have base : ∀ (s' : Sl) (g : List Addr), OwnO K A' B' (some s') (σ[i]?) g → (∀ c ∈ g, c ∈ fp i ∧ A' c = none) → (∀ d, s' ≠ .pu d) → (∀ d, s' ≠ .nt d) → Rel K G0 G (δ.set i s') σ A' B' := fun s' g hg hsub np1 np2 => by
    refine ⟨s1, by rw [List.length_set]; exact r.len, fun j d q => ?_, fun j d q => ?_, fun j => if j = i then g else fp j, ⟨fun j => ?_, fun j k c h1 h2 => ?_, fun j c h1 => ?_⟩⟩
    · rcases set_get q with ⟨rfl, q, _⟩ | ⟨nj, q⟩
      · exact absurd q (np1 d)
      · obtain ⟨v, a2, b2⟩ := r.pu j d q
        exact ⟨v, a2, b2.mono st.e0⟩
    · rcases set_get q with ⟨rfl, q, _⟩ | ⟨nj, q⟩
      · exact absurd q (np2 d)
      · obtain ⟨v, a2, b2⟩ := r.nt j d q
        exact ⟨v, a2, b2.mono st.e0⟩
    · by_cases ej : j = i
      · subst ej
        rw [List.getElem?_set_self hl]
        show OwnO K A' B' _ _ (if j = j then g else fp j)
        rw [if_pos rfl]
        exact hg
      · rw [List.getElem?_set_ne (Ne.symm ej)]
        show OwnO K A' B' _ _ (if j = i then g else fp j)
        rw [if_neg ej]
        exact (o.s j).mono st.e0 fun c m u q => st.e c u (cut2_of q (oth j c ej m).1 (oth j c ej m).2)
    · have up : ∀ {j}, c ∈ (if j = i then g else fp j) → c ∈ fp j := fun {j} h => by
        split at h
        · rename_i q; rw [q]; exact (hsub c h).1
        · exact h
      exact o.d j k c (up h1) (up h2)
    · have h1' : c ∈ (if j = i then g else fp j) := h1
      split at h1'
      · have hm := hsub c h1'
        exact ⟨(o.n i c hm.1).1, hm.2⟩
      · rename_i ej
        obtain ⟨u, hu, ku⟩ := (o.s j).there h1'
        exact ⟨(o.n j c h1').1, st.n c u (o.n j c h1').2 (cut2_of hu (oth j c ej h1').1 (oth j c ej h1').2) ku⟩
  have u : Rel K G0 G (δ.set i .un) σ A' B' := base .un [] rfl (fun _ m => nomatch m) (fun _ q => nomatch q) (fun _ q => nomatch q)
  refine ⟨u, fun C' fs' ds' gvs np nd h1 h2 h3 h4 => ?_⟩
  refine base (.os C' fs' ds') [p, dx] ?_ (fun c m => ⟨by rw [f]; exact m, ?_⟩) (fun _ q => nomatch q) fun _ q => nomatch q
  rotate_left
  · rcases List.mem_cons.mp m with q | q
    · rw [q]; exact np
    · rw [List.mem_singleton.mp q]; exact nd
  rw [a]
  exact ⟨p, dx, gvs, rfl, rfl, ne, h1, h2, h3, h4⟩
section
variable {X : Cx} {W : WX} {k : Nat} {C f : Addr} {fd : FuncData} {ps : List Str} {sp : Sp} {E : L2.St → XK} {x m : Str} {p pos apos : Pos} {e : Expr} {es : List Expr} {t : TA}
theorem pe_clsG (cr : ClX.CRead X.K C (.type "type")) (cv : ClX.CVal X.K C (.type "type") m (.ref f) (.ref f)) (kp : PySem.W.keepIn X.K (.ref f) = true) (F : FnG X.prog X.w X.K X.mg X.base k f fd ps sp) (hr : Room k X.A ∧ X.A.guards = some []) (hg : Gl X x) (hm : X.mg x = some (.ref C)) (hb : Binds X.K fd ps []) (hx : ∀ σ, PassesAt (L2.CX X.prog X.w) X σ (E σ))
    (ha : PA X (e :: es) t) (hdb : (x == ("__debug__" : Str)) = false) (hp : (e :: es).all plainArg = true) (hn : (e :: es).length < 29) (hline : (apos.endLine == pos.line) = true) :
    PE X (.Call (.Attribute (.Name x p) m apos) (e :: es) [] pos) (tCallSD sp [] E t) := by
  refine ⟨fun pins s σ H Q I h => ?_⟩
  refine call_meth rfl hp hn hline (ld_glob I hg hm ?_ hdb)
  refine PySem.W.method_cls I.kIn cr.ga (ClX.getcval_ok I cr cv fun s1 I1 => ?_)
  have h1 := Bool.and_eq_true_iff.mp (show (plainArg e && es.all plainArg) = true from hp)
  refine PySem.W.callWith_K (first := []) (h₀ := X.base) I.ok.mod.kin kp (thn (ha.run pos pins s1 σ H _ I1 h) fun us s2 ⟨vs, H2, I2, r, q2⟩ => ⟨I2.kIn, ?_⟩) (star_of h1.1) (star_all h1.2)
  exact call_G F hr hb .nil (hx σ) I2 r q2
theorem ss_iniB {i n : Nat} {y : Str} {ini : Ini} {ca : CA} {py epos : Pos} (F : IbK X.prog X.w X.K X.mg X.base k x n ini) (hr : Room k X.A ∧ X.A.guards = some []) (hg : Gl X x) (tk : Takes X W) (hN : X.N[i]? = some y) (hv : Vis X.env.scope y) (hd : (y == ("__debug__" : Str)) = false) (hcd : (y == ("__classdict__" : Str)) = false)
    (ha : SL X W es ca) (hp : es.all plainArg = true) (hn : es.length < 28) (hline : (apos.endLine == pos.line) = true) :
    SS X W (.Expr (.Call (.Attribute (.Name x p) "__init__" apos) (.Name y py :: es) [] pos) epos) (cIniB i n ini ca) := by
  obtain ⟨f, fd, ps, cr, cv, kp, G, b⟩ := F.ex
  obtain ⟨t, pa, v⟩ := ha
  have key : PS X (.Expr (.Call (.Attribute (.Name x p) "__init__" apos) (.Name y py :: es) [] pos) epos) (fun E σ H => ∃ C', tCallSD (spI X.K C' n ini) [] (WE W) (tCons (tVar i) t) σ H fun _ H' => E.nx σ H') := by
    refine ⟨fun pins s σ H En I h => ?_⟩
    obtain ⟨C', h⟩ := h
    have pe := pe_clsG (E := WE W) (pos := pos) cr cv kp (G C') hr hg F.gl b (fun σ => passAt tk σ) (pa_cons (pe_var (pos := py) hN hv hd hcd) pa (star_of rfl)) F.db (show ((.Name y py :: es : List Expr)).all plainArg = true from hp) (by rw [List.length_cons]; omega) hline (p := p)
    exact (ps_expr pe rfl).run pins s σ H En I h
  refine ⟨_, key, fun G0 G1 δ σ H0 H En r po => ?_⟩
  have po' : PostS X.K W G0 G1 H0 En (kIniB i n ini ca δ δ[i]?) := po
  unfold kIniB at po'
  split at po'
  · rename_i C' fs ds e0
    refine ⟨C', ?_⟩
    obtain ⟨q, dx, fvs, hs, ne, g1, g2, n1, n2, hq, ho, hn', hd', _⟩ := r.os e0
    refine ⟨_, hs, ?_⟩
    refine v G0 G1 δ σ H0 H _ r ?_
    cases ec : ca δ with
    | no => rw [ec] at po'; exact po'
    | ex B => rw [ec] at po'; exact fun A B' s => po' σ A B' s.e0 (r.step s)
    | ok as =>
      rw [ec] at po'
      have po2 : PostS X.K W G0 G1 H0 En (if as.length = n then kIni C' i δ (ini C' fs ds as) else .no) := po'
      split at po2
      · rename_i hl
        intro A B vs s dv
        have r2 := r.step s
        obtain ⟨q', dx', fvs', hs', ne', g1', g2', n1', n2', hq', ho', hn2, hd2, _⟩ := r2.os e0
        rw [hs] at hs'
        cases hs'
        have hv := DrAll.length dv
        show spI X.K C' n ini ((V.ref q :: vs) ++ []) B _ _
        rw [List.append_nil]
        refine ⟨by rw [List.length_cons]; omega, A, q, dx', fvs', vs, ds, as, rfl, r2.same, n1', n2', ne', hq', ho', hd2, dv, ?_⟩
        rw [hn2]
        unfold AnsI
        cases er : ini C' fs ds as with
        | no => rw [er] at po2; exact po2
        | ex B' =>
          rw [er] at po2
          intro A2 B2 st
          exact po2 σ A2 B2 (s.e0.trans st.e0) (r2.through e0 hs ⟨fvs', hq'⟩ st).1
        | ok fs' ds' =>
          rw [er] at po2
          intro A2 B2 gvs st m1 m2 m3 m4 m5 m6
          exact po2 σ A2 B2 (s.e0.trans st.e0) ((r2.through e0 hs ⟨fvs', hq'⟩ st).2 C' fs' ds' gvs m1 m2 m3 m4 m5 m6)
      · exact po2.elim
  · exact po'.elim
end
end Dw
namespace Dw
open PySem L2 PyProof.Rows
/-! ### xs += ys -/
def rExtQ : TIp := fun x y H Q => ∃ l b xs zs, x = .ref l ∧ y = .ref b ∧ H l = some (.lst xs) ∧ Rd H b (.lst zs) ∧ xs.length + zs.length ≤ sizeLine ∧ Q (.ref l) (upd H l (.lst (xs ++ zs)))
section
variable {X : Cx} {W : WX}
theorem ip_extQ : PIp X .Add rExtQ := by
  intro pins s σ H x y v u Q I rx ry h
  obtain ⟨l, b, xs, zs, rfl, rfl, h1, h2, hz, q⟩ := h
  cases rx
  cases ry
  obtain ⟨za, ia, na, ra, la, ea⟩ := I.lstM h1
  obtain ⟨zb, ib, nb, rb, eb⟩ := h2.ok I.hok
  have l1 := ra.length
  have l2 := rb.length
  have sz : ia.toArray.size + ib.toArray.size ≤ sizeLine := by rw [List.size_toArray, List.size_toArray]; omega
  have fits : ¬ (!ia.toArray.isEmpty && Builtin.List.listTooLong (ia.toArray.size + ib.toArray.size)) = true := by
    rw [notLongL sz, Bool.and_false]
    decide
  refine iadd_road ⟨_, ea, rfl⟩ ⟨_, eb, rfl⟩ (call_meets PySem.F.slot_list_iadd ⟨_, ea, rfl⟩ PySem.F.entry_list_iadd (PySem.F.args_list_iadd_2 _ _) (AutoSeq1.list___iadd___list_list_0 l ia.toArray na b ib.toArray nb fits (by rw [List.size_toArray]; omega) (by omega)) ⟨ea, eb, ?_⟩)
  exact ⟨.ref l, _, I.lset (its' := ia ++ ib) (t' := s.toks) h1 ea (by simp) (ra.append rb) (by rw [List.length_append]; omega), rfl, q⟩
def kAugL (i : Nat) (d : D) (δ : List Sl) : Option Sl → Fl
  | some (.ow xs) => (match d with
    | .lst ys => if xs.length + ys.length ≤ sizeLine then .nx (δ.set i (.ow (xs ++ ys))) else .no
    | _ => .no)
  | _ => .no
def isOw : Option Sl → Bool
  | some (.ow _) => true
  | _ => false
def cAugL (i : Nat) (c : C) : CS := fun δ => if isOw δ[i]? = true then fA (evA c δ) δ fun d δ' => kAugL i d δ' δ'[i]? else .no
theorem st_same {σ : L2.St} {i : Nat} {v : V} (h : σ[i]? = some (some v)) : σ.set i (some v) = σ := by
  apply List.ext_getElem?
  intro j
  by_cases e : i = j
  · subst e
    rw [List.getElem?_set_self (List.getElem?_eq_some_iff.mp h).1, h]
  · rw [List.getElem?_set_ne e]
theorem ss_augL {i : Nat} {x : Str} {e : Expr} {p pos : Pos} {c : C} (hN : X.N.Nodup) (hi : X.N[i]? = some x) (hx : L2.Loc X.env.scope x) (hf : X.fn x = true ∨ X.env.scope.names.lookup x = some .local) (h : SE X W e c) : SS X W (.AugAssign (.Name x p) .Add e pos) (cAugL i c) := by
  obtain ⟨t, q, v⟩ := h
  refine ⟨_, ps_aug hN hi hx q ip_extQ hf, fun G0 G δ σ H0 H E r po => ?_⟩
  have po' : PostS X.K W G0 G H0 E (if isOw δ[i]? = true then fA (evA c δ) δ fun d δ' => kAugL i d δ' δ'[i]? else .no) := po
  split at po'
  · rename_i ho
    obtain ⟨ds, e0⟩ : ∃ ds, δ[i]? = some (.ow ds) := by
      unfold isOw at ho
      split at ho
      · rename_i ds e; exact ⟨ds, e⟩
      · cases ho
    obtain ⟨a, vs, hs, _⟩ := r.ow i ds e0
    refine ⟨_, hs, evA_ok v r ?_⟩
    cases e1 : evA c δ with
    | no => rw [e1] at po'; exact po'
    | ex C => rw [e1] at po'; exact fun A B s r' => po' σ A B s r'
    | ok z =>
      obtain ⟨d, δ'⟩ := z
      rw [e1] at po'
      intro A B y s r' hd
      have po2 : PostS X.K W G0 G H0 E (kAugL i d δ' δ'[i]?) := po'
      unfold kAugL at po2
      split at po2
      · rename_i xs e2
        split at po2
        · rename_i ys
          split at po2
          · rename_i hz
            obtain ⟨a', vs', hs', g', n', ha', hr'⟩ := r'.ow i xs e2
            rw [hs] at hs'
            cases hs'
            obtain ⟨b, ws, rfl, hb, hw⟩ := hd.lstK
            refine ⟨a, b, vs', ws, rfl, rfl, ha', rd_mono r'.same hb, by rw [hr'.length, hw.length]; exact hz, ?_⟩
            show E.nx (σ.set i (some (.ref a))) _
            rw [st_same hs]
            exact po2 σ A _ s (r'.put e2 hs (hr'.append hw))
          · exact po2.elim
        · exact po2.elim
      · exact po2.elim
  · exact po'.elim
/-! ### dict([(k, v), ..]) -/
def pairK : D → Option (Key × D)
  | .tup [a, b] => (a.key).map fun k => (k, b)
  | _ => none
def pairsK : List D → Option (List (Key × D))
  | [] => some []
  | d :: ds => match pairK d, pairsK ds with
    | some p, some r => some (p :: r)
    | _, _ => none
def putD (kds : List (Key × D)) (k : Key) (d : D) : List (Key × D) :=
  if (kds.any fun kv => decide (kv.1 = k)) = true then kds.map (fun kv => if kv.1 = k then (kv.1, d) else kv) else kds ++ [(k, d)]
def mergeD (kds more : List (Key × D)) : List (Key × D) := more.foldl (fun acc kv => putD acc kv.1 kv.2) kds
def dDictOf : List D → R D
  | [d] => (match d with
    | .lst ds => (match pairsK ds with
      | some kds => .ok (.dct ((mergeD [] kds).map (·.1)) ((mergeD [] kds).map (·.2)))
      | none => .no)
    | _ => .no)
  | _ => .no
end
section
variable {K : PySem.W.Frag} {H : Hp}
/-- pairs by pairs -/
inductive KvAll (K : PySem.W.Frag) (H : Hp) : List (Key × V) → List (Key × D) → Prop
  | nil : KvAll K H [] []
  | cons {k : Key} {v : V} {d : D} {kvs : List (Key × V)} {kds : List (Key × D)} : Dr K H v d → KvAll K H kvs kds → KvAll K H ((k, v) :: kvs) ((k, d) :: kds)
theorem KvAll.keys {kvs : List (Key × V)} {kds : List (Key × D)} (h : KvAll K H kvs kds) : kvs.map (·.1) = kds.map (·.1) := by
  induction h with
  | nil => rfl
  | cons a b ih => rw [List.map_cons, List.map_cons, ih]
theorem KvAll.vals {kvs : List (Key × V)} {kds : List (Key × D)} (h : KvAll K H kvs kds) : DrAll K H (kvs.map (·.2)) (kds.map (·.2)) := by
  induction h with
  | nil => exact .nil
  | cons a b ih => exact .cons a ih
theorem KvAll.any {kvs : List (Key × V)} {kds : List (Key × D)} (h : KvAll K H kvs kds) (k : Key) : (kvs.any fun kv => decide (kv.1 = k)) = (kds.any fun kv => decide (kv.1 = k)) := by
  induction h with
  | nil => rfl
  | cons a b ih => rw [List.any_cons, List.any_cons, ih]
theorem KvAll.upd {kvs : List (Key × V)} {kds : List (Key × D)} (h : KvAll K H kvs kds) {k : Key} {v : V} {d : D} (hv : Dr K H v d) : KvAll K H (kvs.map (fun kv => if kv.1 = k then (kv.1, v) else kv)) (kds.map (fun kv => if kv.1 = k then (kv.1, d) else kv)) := by
  induction h with
  | nil => exact .nil
  | @cons k0 v0 d0 _ _ a b ih =>
    rw [List.map_cons, List.map_cons]
    by_cases c : k0 = k
    · simp only [c, if_true]
      exact .cons hv ih
    · simp only [c, if_false]
      exact .cons a ih
theorem KvAll.app {kvs : List (Key × V)} {kds : List (Key × D)} (h : KvAll K H kvs kds) {k : Key} {v : V} {d : D} (hv : Dr K H v d) : KvAll K H (kvs ++ [(k, v)]) (kds ++ [(k, d)]) := by
  induction h with
  | nil => exact .cons hv .nil
  | cons a b ih => exact .cons a ih
theorem KvAll.put {kvs : List (Key × V)} {kds : List (Key × D)} (h : KvAll K H kvs kds) {k : Key} {v : V} {d : D} (hv : Dr K H v d) : KvAll K H (putK kvs k v) (putD kds k d) := by
  unfold putK putD
  rw [h.any k]
  split
  · exact h.upd hv
  · exact h.app hv
theorem KvAll.merge {more : List (Key × V)} {dmore : List (Key × D)} (h : KvAll K H more dmore) : ∀ {kvs : List (Key × V)} {kds : List (Key × D)}, KvAll K H kvs kds → KvAll K H (mergeK kvs more) (mergeD kds dmore) := by
  induction h with
  | nil => exact fun q => q
  | cons a b ih => exact fun q => ih (q.put a)
theorem pairsK_ok : ∀ {ds : List D} {xs : List V} {kds : List (Key × D)}, DrAll K H xs ds → pairsK ds = some kds → ∃ (ps : List Addr) (kvs : List (Key × V)), xs = ps.map V.ref ∧ Paired (fun p kv => SqT K H p [kV kv.1, kv.2]) ps kvs ∧ KvAll K H kvs kds
  | [], _, _, h, e => by
    cases h
    unfold pairsK at e
    cases e
    exact ⟨[], [], rfl, .nil, .nil⟩
  | d :: ds, _, kds, h, e => by
    cases h with
    | @cons v vs _ _ a t =>
      unfold pairsK at e
      cases e1 : pairK d with
      | none => rw [e1] at e; cases e
      | some p =>
        cases e2 : pairsK ds with
        | none => rw [e1, e2] at e; cases e
        | some r =>
          rw [e1, e2] at e
          cases e
          obtain ⟨ps, kvs, rfl, h2, h3⟩ := pairsK_ok t e2
          unfold pairK at e1
          split at e1
          · rename_i x y
            obtain ⟨k, ek, rfl⟩ := Option.map_eq_some_iff.mp e1
            obtain ⟨b, ys, rfl, q, r2⟩ := a.tupK
            obtain ⟨v1, v2, rfl, d1, d2⟩ := r2.two
            have ev := d1.key ek
            subst ev
            exact ⟨b :: ps, (k, v2) :: kvs, rfl, .cons q h2, .cons d2 h3⟩
          · cases e1
end
abbrev rDictP (K : PySem.W.Frag) : List V → Hp → VK → Prop := fun xs H Q => ∃ (a : Addr) (ps : List Addr) (kvs : List (Key × V)), xs = [.ref a] ∧ SqL K H a (ps.map V.ref) ∧ Paired (fun p kv => SqT K H p [kV kv.1, kv.2]) ps kvs ∧ ∀ p, H p = none → Q (.ref p) (upd H p (.dK (mergeK [] kvs)))
theorem paired_mono {K : PySem.W.Frag} {H H' : Hp} (s : Same H H') {ps : List Addr} {kvs : List (Key × V)} (h : Paired (fun p kv => SqT K H p [kV kv.1, kv.2]) ps kvs) : Paired (fun p kv => SqT K H' p [kV kv.1, kv.2]) ps kvs := by
  induction h with
  | nil => exact .nil
  | cons a b ih => exact .cons (sqT_mono s a) ih
theorem cd_dict {K : PySem.W.Frag} {W : WX} : CallD K W (rDictP K) dDictOf := by
  intro σ H0 H xs ds Q s h p
  unfold dDictOf at p
  split at p
  · obtain ⟨v, rfl, hv⟩ := h.one
    split at p
    · rename_i es
      split at p
      · rename_i kds ek
        obtain ⟨a, ys, rfl, q, r⟩ := hv.lstK
        obtain ⟨ps, kvs, rfl, h2, h3⟩ := pairsK_ok r ek
        refine ⟨a, ps, kvs, rfl, s.seq (.inl q), paired_mono s h2, fun n hn => ?_⟩
        have m := h3.merge KvAll.nil
        refine p _ _ _ (Stp.new s hn) ?_
        rw [← m.keys]
        exact .dct upd_same (m.vals.mono (Same.new (s.free hn)))
      · exact p.elim
    · exact p.elim
  · exact p.elim
/-! ### isinstance(x, (A, B)) -/
def orIs (f g : D → Option Bool) (d : D) : Option Bool := match f d, g d with
  | some a, some b => some (a || b)
  | _, _ => none
/-- for objects and built-in kinds alone -/
def IsTy (K : PySem.W.Frag) (u : Value) (f : D → Option Bool) : Prop := ∀ H v d, Dr K H v d → (f d).isSome = true → ∃ t, TyX K H v t ∧ ∀ b, f d = some b → PySem.W.kitOne K t u = some b
structure Is2 (K : PySem.W.Frag) (u u' : Value) (f g : D → Option Bool) : Prop where
  ex : ∀ H v d a b, Dr K H v d → f d = some a → g d = some b → ∃ t, TyX K H v t ∧ PySem.W.kitOne K t u = some a ∧ PySem.W.kitOne K t u' = some b
section
variable {X : Cx} {W : WX}
theorem se_isi2 {e c c' : Expr} {p pos tpos : Pos} {kt : Nat} {v v' : V} {u u' : Value} {f g : D → Option Bool} {ca : C} (hg : Gl X "isinstance") (hm : X.mg "isinstance" = none) (hc : PE X c (tC v)) (hc' : PE X c' (tC v')) (hp : plainArg c = true) (hp' : plainArg c' = true) (hv : ClsV v u) (hv' : ClsV v' u') (hf : Is2 X.K u u' f g) (ha : SE X W e ca) (h1 : plainArg e = true) :
    SE X W (.Call (.Name "isinstance" p) [e, .Tuple [c, c'] kt tpos] [] pos) (cUn (dIsi (orIs f g)) ca) := by
  obtain ⟨t, q, w⟩ := ha
  have pt : PE X (.Tuple [c, c'] kt tpos) (tTup (tCons (tC v) (tCons (tC v') tNil))) := pe_tup (pa_cons hc (pa_cons hc' pa_nil (star_of hp')) (star_of hp))
  refine ⟨_, pe_callB call_isiT hg hm boot_isinstance (pa_cons q (pa_cons pt pa_nil (star_of rfl)) (star_of h1)) (by decide) (by decide) (star_of h1) (by rw [star_of rfl]; rfl), ?_⟩
  refine ev_unG (r := fun x H1 Q => tTup (tCons (tC v) (tCons (tC v') tNil)) [] H1 fun y H2 => rIsiT X.K [x, y] H2 Q) downV w fun σ H0 H x d Q s hx po => ?_
  unfold dIsi at po
  split at po
  · rename_i b eb
    unfold orIs at eb
    cases ef : f d with
    | none => rw [ef] at eb; cases eb
    | some b1 =>
      cases eg : g d with
      | none => rw [ef, eg] at eb; cases eb
      | some b2 =>
        rw [ef, eg] at eb
        cases eb
        refine ⟨show 2 ≤ sizeLine by decide, fun n hn => ?_⟩
        have st : Stp H0 H (upd H0 n (.tup [v, v'])) (upd H n (.tup [v, v'])) := Stp.new s hn
        obtain ⟨t, ty, k1, k2⟩ := hf.ex _ x d b1 b2 (hx.mono (st.e0.trans st.k)) ef eg
        refine ⟨x, n, [v, v'], t, [u, u'], b1 || b2, rfl, upd_same, .cons hv (.cons hv' .nil), ty, ?_, po _ _ _ st (.bl _)⟩
        cases b1 with
        | true => exact kitAny_cons k1 (fun z => nomatch z) fun _ => rfl
        | false =>
          refine kitAny_cons k1 (fun _ => ?_) fun z => nomatch z
          cases b2 with
          | true => exact kitAny_cons k2 (fun z => nomatch z) fun _ => rfl
          | false => exact kitAny_cons k2 (fun _ => rfl) fun z => nomatch z
  · exact po.elim
end
end Dw
namespace Dw
open PySem L2 PyProof.Rows
/-! ### len(set(xs)), xs a list of texts -/
def nubS (xs : List Str) : List Str := xs.foldl (fun acc x => if acc.any (· == x) = true then acc else acc ++ [x]) []
theorem nubS_app (xs : List Str) (x : Str) : nubS (xs ++ [x]) = if (nubS xs).any (· == x) = true then nubS xs else nubS xs ++ [x] := by
  unfold nubS
  rw [List.foldl_append]
  rfl
theorem nubS_len (xs : List Str) : (nubS xs).length ≤ xs.length := by
  have key : ∀ (l acc : List Str), (l.foldl (fun acc x => if acc.any (· == x) = true then acc else acc ++ [x]) acc).length ≤ acc.length + l.length := by
    intro l
    induction l with
    | nil => intro acc; exact Nat.le_refl _
    | cons a l ih =>
      intro acc
      rw [List.foldl_cons]
      refine Nat.le_trans (ih _) ?_
      split <;> simp <;> omega
  have z := key xs []
  simp only [List.length_nil, Nat.zero_add] at z
  exact z
theorem take_snoc {xs : List Str} {i : Nat} (h : i < xs.length) : xs.take (i + 1) = xs.take i ++ [xs.getD i Str.empty] := by
  rw [List.take_add_one, List.getElem?_eq_getElem h]
  simp [List.getD, List.getElem?_eq_getElem h]
abbrev SetS (P : Program) (w : World) (h : Heap) (S : Addr) (l : List Str) : Prop := h.SetOf (PySem.strKind P w) S (fun k => l.any (· == k)) l.length
theorem SetS.keep {P : Program} {w : World} {h h' : Heap} {S : Addr} {l : List Str} (q : SetS P w h S l) (k : ∀ o, h.get? S = some o → h'.get? S = some o) : SetS P w h' S l := by
  obtain ⟨o, es, ep, t, ho, rest⟩ := q
  exact ⟨o, es, ep, t, k o ho, rest⟩
section
variable {P : Program} {w : World} {A : Around} {R : Result → Shared → Prop} {I : Addr} {fp wr : List Addr} {G : Array GenState → Array GenState → Prop} {n : Nat} {Pv : Nat → Value → Prop} {St : Nat → Shared → Prop}
/-- one text more -/
theorem add_one {s : Shared} {S : Addr} {l : List Str} {x : Str} {t : Tok} {E : Value → Shared → Prop} {Q : Bool → Shared → Prop} (hS : SetS P w s.heap S l) (hl : l.length + 1 < scanBound) (q : ∀ h' b, Heap.SameBut S s.heap h' → SetS P w h' S (if l.any (· == x) = true then l else l ++ [x]) → Q b { s with heap := h', toks := s.toks + 1 }) :
    wpAny (model P w) A (holding [Value.str x t] (setAdd S (.str x t))) Q E s := by
  refine wpAny_holding ?_
  unfold setAdd
  refine wpAny_holding (wpAny_bind ((PySem.strKind P w).pyHash (k := x) (strKind_is _ _ _ _) ?_))
  refine wpAny_setAddHashed_of (knd := PySem.strKind P w) (s := { s with toks := s.toks + 1 }) (strKind_is _ _ _ _) rfl hS hl fun h' hb h2 => q h' _ hb ?_
  refine SetOf_congr h2 (fun k => ?_) ?_
  · by_cases c : l.any (· == x) = true
    · rw [if_pos c]
      by_cases e : k = x
      · subst e; simp [c]
      · simp [e]
    · rw [if_neg c, List.any_append]
      by_cases e : k = x
      · subst e; simp
      · have : (x == k) = false := by simpa using fun z => e z.symm
        simp [e, this]
  · by_cases c : l.any (· == x) = true
    · rw [if_pos c, if_pos c]
    · rw [if_neg c, if_neg c, List.length_append]
      rfl
theorem set_loop (W : WalksS P w A.in1 I fp wr G n Pv St) (S : Addr) (hS0 : S ∉ fp) (xs : List Str) (hn : xs.length = n) (hb : n + 1 < scanBound) (hv : ∀ i v, Pv i v → ∃ t, v = .str (xs.getD i Str.empty) t) :
    ∀ (k i : Nat) (s : Shared), i + k = n → St i s → SetS P w s.heap S (nubS (xs.take i)) → (∀ s', Moved (S :: wr) G s s' → SetS P w s'.heap S (nubS xs) → R (.ok (.ret .none)) s') →
      codeAny (model P w) A (.builtin "set.update.loop" ⟨[.ref S, .ref I], []⟩) R s := by
  have nw : S ∉ wr := fun h => hS0 (W.sub _ h)
  have up : ∀ b ∈ wr, b ∈ S :: wr := fun b h => List.mem_cons_of_mem _ h
  intro k
  induction k with
  | zero =>
    intro i s e st q fin
    refine codeAny_builtin PyProof.Rows.F.entry_set_update_loop ?_
    rw [Around.under_plainId PyProof.Rows.F.plain_set_update_loop _]
    have ei : i = n := e
    subst ei
    refine wpAny_bind (W.done s _ _ st fun s' m => wpAny_pure (fin s' (m.mono up) ?_))
    rw [List.take_of_length_le (Nat.le_of_eq hn)] at q
    exact q.keep fun o ho => m.heap S o nw ho
  | succ k ih =>
    intro i s e st q fin
    have lt : i < n := by omega
    refine codeAny_builtin PyProof.Rows.F.entry_set_update_loop ?_
    rw [Around.under_plainId PyProof.Rows.F.plain_set_update_loop _]
    refine wpAny_bind (W.item i s _ _ lt st fun v s' pv st' m => ?_)
    obtain ⟨t, rfl⟩ := hv i v pv
    have q1 := q.keep fun o ho => m.heap S o nw ho
    have hlen : (nubS (xs.take i)).length + 1 < scanBound := by
      have := nubS_len (xs.take i)
      rw [List.length_take] at this
      omega
    refine wpAny_bind (add_one q1 hlen fun h' b sb q2 => ?_)
    have q3 : SetS P w h' S (nubS (xs.take (i + 1))) := by
      rw [take_snoc (by omega), nubS_app]
      exact q2
    have fr : St (i + 1) { s' with heap := h', toks := s'.toks + 1 } := W.frame _ s' _ _ st' (Nat.le_succ _) fun c hc o ho => by
      rw [sb.2 c fun z => hS0 (z ▸ hc)]
      exact ho
    have mv : Moved (S :: wr) G s { s' with heap := h', toks := s'.toks + 1 } := (m.mono up).then_heap (Nat.le_succ _) fun c o hc ho => by
      rw [sb.2 c fun z => hc (by rw [z]; exact List.mem_cons_self)]
      exact ho
    exact wpAny_pure ⟨plainId_quiet PyProof.Rows.F.plain_set_update_loop _, ih (i + 1) _ (by omega) fr q3 fun s2 m2 q4 => fin s2 (Moved.trans W.gtrans mv m2) q4⟩
end
abbrev set0 (led : Bool) : Obj := { cls := .type "set", dict := none, data := .set #[] 0 (.fresh 0 0 led) }
section
variable {P : Program} {w : World} {A : Around} {E : Value → Shared → Prop} {s : Shared}
theorem call_setS {l : Addr} {its : Array Value} {xs : List Str} {Q : Value → Shared → Prop} (hh : A.handled = none) (hl : s.heap.IsList l its) (hx : PyProof.Rows.StrsAre its.toList xs) (hb : its.size + 1 < scanBound) (he : xs.length = its.size)
    (q : ∀ h' tk, SetS P w h' s.heap.objs.size (nubS xs) → (∀ b o, b < s.heap.objs.size → s.heap.get? b = some o → h'.get? b = some o) → Q (.ref s.heap.objs.size) { s with heap := h', toks := tk }) :
    wpAny (model P w) A (call (.type "set") [.ref l]) Q E s := by
  obtain ⟨mc, ml, hmro⟩ := PySem.F.called_set.mro
  have hmade := PySem.F.called_set.made
  have hsub := PySem.F.called_set.sub
  have hnt := PySem.F.called_set.notType
  have hcc := PySem.F.called_set.canCreate
  have htc := PySem.F.typeCall_set_1 (.ref l)
  refine wpAny_call (codeAny_of_tree ?_)
  show wpAny _ _ (callAny (.type "set") _) _ _ _
  refine wpAny_pure ⟨Code.quiet_builtin _ (by decide +kernel), codeAny_builtin PySem.F.entry_type_call ?_⟩
  rw [Around.under_plain (weight_type_call_type "set" [.ref l] []) rfl]
  repeat (any_goals (first | assumption | wp_step))
  refine codeAny_mono (code_set_new_1 (.ref l) (E := E) (Q₁ := fun o s1 => ∃ led : Bool, o = .ref s.heap.objs.size ∧ s1 = { s with heap := s.heap.push (set0 led) }) fun led => ⟨led, rfl, rfl⟩) fun r s1 hr => ?_
  cases r with
  | error e => exact hr
  | ok fl =>
    cases fl with
    | ret o =>
      obtain ⟨led, rfl, rfl⟩ := hr
      have hS : (s.heap.push (set0 led)).get? s.heap.objs.size = some (set0 led) := Heap.get?_push_size _ rfl
      have hT : Shared.TypeIs { s with heap := s.heap.push (set0 led) } (.ref s.heap.objs.size) "set" := ⟨_, hS, rfl⟩
      have hli := PySem.F.called_set.init.lookup
      have hbi := PySem.F.called_set.init.bind (.ref s.heap.objs.size)
      repeat (any_goals (first | assumption | wp_step))
      refine codeAny_mono (codeAny_call_builtin (R := wants (fun r s2 => r = .none ∧ ∃ h' tk, s2 = { s with heap := h', toks := tk } ∧ SetS P w h' s.heap.objs.size (nubS xs) ∧
          (∀ b o, b < s.heap.objs.size → s.heap.get? b = some o → h'.get? b = some o)) E) PySem.F.called_set.init.plain PySem.F.entry_set_init (check_set_init_1 hT ?_)) fun r2 s2 hr2 => ?_
      · obtain ⟨ol, hol, hcl, nl, hdl⟩ := hl
        obtain ⟨oc, od, odt, osl⟩ := ol
        simp only at hcl hdl
        subst hcl hdl
        have ho1 : (s.heap.push (set0 led)).get? l = some { cls := .type "list", dict := od, data := .seq its nl, slots := osl } := Heap.get?_push_of_some _ hol
        have hl1 : (s.heap.push (set0 led)).IsList l its := ⟨_, ho1, rfl, nl, rfl⟩
        have hs1 := PySem.F.sub_list_set
        have hs2 := PySem.F.sub_list_frozenset
        have hs3 : (Value.type "list" == Value.type "dict") = false := by decide
        unfold Builtin.«set.__init__» noKeywords Builtin.Frozenset.updateFrom
        generalize hPI : pyIter = PI
        wp_walk
        subst hPI
        refine wpAny_pyIter_list hl1 (wpAny_bind (wpAny_runValue ?_))
        have lt : l < s.heap.objs.size := Heap.lt_size hol
        have hd3 : A.in1.in1.in1.handled = none := by simp [hh]
        have ne1 : l ≠ (s.heap.push (set0 led)).objs.size := by rw [Heap.size_push]; exact Nat.ne_of_lt (Nat.lt_succ_of_lt lt)
        have nf : s.heap.objs.size ∉ [(s.heap.push (set0 led)).objs.size, l] := by
          rw [Heap.size_push]
          simp only [List.mem_cons, List.not_mem_nil, or_false, not_or]
          exact ⟨Nat.ne_of_lt (Nat.lt_succ_self _), Nat.ne_of_gt lt⟩
        have val : ∀ (i : Nat) (v : Value), its[i]? = some v → ∃ t, v = .str (xs.getD i Str.empty) t := fun i v hv => SS.strs_at hx i v (by rw [Array.getElem?_toList]; exact hv)
        refine set_loop ((Walks.list hd3 _ l ne1 its).toS) s.heap.objs.size nf xs he hb val its.size 0 _ (Nat.zero_add _) ⟨⟨_, Heap.get?_push_size _ rfl, rfl, rfl⟩, (hl1.push _)⟩ ?mineA ?mineB
        case mineA =>
          have g0 : ((s.heap.push (set0 led)).push { cls := .type "list_iterator", data := .fields #[.ref l, .int 0 0] }).get? s.heap.objs.size = some (set0 led) := Heap.get?_push_of_some _ hS
          exact PyProof.Rows.SetOf_congr ((PyProof.Rows.setObjOf_fresh (knd := PySem.strKind P w) led).setOf g0 (by unfold scanBound; omega)) (fun _ => rfl) rfl
        case mineB =>
          intro s' m hS'
          obtain ⟨h', g', d', tk', os'⟩ := s'
          have e1 : g' = s.gens := m.gens
          have e2 : d' = s.drawn := m.drawn
          have e3 : os' = s.os := m.os
          subst e1 e2 e3
          show wpAny _ _ _ _ _ _
          refine wpAny_pure ?_
          show wpAny _ _ (ret Value.none) _ _ _
          refine wpAny_pure ⟨rfl, h', tk', rfl, hS', fun b o hb e => ?_⟩
          refine m.heap b o ?_ (Heap.get?_push_of_some _ (Heap.get?_push_of_some _ e))
          simp only [List.mem_cons, List.not_mem_nil, or_false, not_or, Heap.size_push]
          exact ⟨Nat.ne_of_lt hb, Nat.ne_of_lt (Nat.lt_succ_of_lt hb)⟩
      · cases r2 with
        | error e => exact hr2
        | ok f2 =>
          cases f2 with
          | ret r =>
            obtain ⟨rfl, h', tk, rfl, hS', hk'⟩ := hr2
            repeat (any_goals (first | assumption | wp_step))
            exact q _ _ hS' hk'
          | _ => exact hr2.elim
    | _ => exact hr.elim
end
def strsD : List D → Option (List Str)
  | [] => some []
  | .str x :: ds => (match strsD ds with
    | some xs => some (x :: xs)
    | none => none)
  | _ :: _ => none
theorem strsD_ok {K : PySem.W.Frag} {H : Hp} : ∀ {ds : List D} {vs : List V} {xs : List Str}, strsD ds = some xs → DrAll K H vs ds → vs = xs.map V.str
  | [], _, _, e, h => by
    cases h
    unfold strsD at e
    cases e
    rfl
  | d :: ds, _, xs, e, h => by
    cases h with
    | cons a t =>
      unfold strsD at e
      split at e
      · cases e; rename_i z; cases z
      · rename_i x ds' ed
        injection ed with e1 e2
        subst e1 e2
        cases er : strsD ds with
        | none => rw [er] at e; cases e
        | some ys =>
          rw [er] at e
          cases e
          cases a
          rw [strsD_ok er t]
          rfl
      · cases e
def dLenSet : D → R D
  | .lst ds => (match strsD ds with
    | some xs => if xs.length < 64 then .ok (.int (nubS xs).length) else .no
    | none => .no)
  | _ => .no
theorem strs_of : ∀ {xs : List Str} {us : List Value}, Vals (xs.map V.str) us → PyProof.Rows.StrsAre us xs
  | [], _, h => by cases h; exact .nil
  | x :: xs, _, h => by
    cases h with
    | cons a t =>
      obtain ⟨tk, rfl⟩ := a
      exact .cons x tk (strs_of t)
section
variable {X : Cx} {W : WX}
theorem se_lenSet {a : Expr} {p p2 q pos : Pos} {ca : C} (hc : X.calm = true) (hg : Gl X "len") (hm : X.mg "len" = none) (hg2 : Gl X "set") (hm2 : X.mg "set" = none) (ha : SE X W a ca) (h1 : plainArg a = true) :
    SE X W (.Call (.Name "len" p) [.Call (.Name "set" p2) [a] [] q] [] pos) (cUn dLenSet ca) := by
  obtain ⟨t, pa, v⟩ := ha
  have pe : PE X (.Call (.Name "len" p) [.Call (.Name "set" p2) [a] [] q] [] pos) (fun σ H Q => t σ H fun x H1 => ∃ (l : Addr) (xs : List Str), x = .ref l ∧ SqL X.K H1 l (xs.map V.str) ∧ xs.length < 64 ∧ Q (.int (nubS xs).length) H1) := by
    refine ⟨fun pins s σ H Q I h => ?_⟩
    refine Call_ (ld_blt I hg hm PySem.boot_len ?_)
    refine PyProof.Rows.callWith_builtin1 (PyProof.Rows.args_cons ?_ rfl) rfl rfl
    refine Call_ (ld_blt I hg2 hm2 PyProof.Rows.boot_set ?_)
    refine PyProof.Rows.callWith_type1 (PyProof.Rows.args_cons (thn (pa.run pins s σ H _ I h) fun u s1 ⟨x, H1, I1, r1, w⟩ => PyProof.Rows.args_nil ?_) (star_of h1)) (star_of h1) rfl
    obtain ⟨l, xs, rfl, hq, hz, w⟩ := w
    cases r1
    obtain ⟨its, r, pl, _⟩ := I1.list hq
    have hl : its.toArray.size = xs.length := by rw [List.size_toArray, ← r.length, List.length_map]
    refine call_setS (I1.ok.hd hc) pl.isList (xs := xs) (by simpa using strs_of r) (by unfold scanBound; omega) hl.symm fun h' tk hS hk => PyProof.Rows.args_nil ?_
    obtain ⟨o, es, ep, tb, ho, hex, hd, _, _, _, hf, hn⟩ := hS
    have I2 : Inv X pins σ H1 { s1 with heap := h', toks := tk } := I1.kept fun b o e => hk b o (Heap.lt_size e) e
    have := nubS_len xs
    exact call_len_set ho hex hd hf (by rw [hn]; omega) ⟨.int _, H1, I2.tok _, ⟨_, by rw [hn]⟩, w⟩
  refine ⟨_, pe, ev_unG (r := fun x H1 Q => ∃ (l : Addr) (xs : List Str), x = .ref l ∧ SqL X.K H1 l (xs.map V.str) ∧ xs.length < 64 ∧ Q (.int (nubS xs).length) H1) downV v fun σ H0 H x d Q s hx po => ?_⟩
  unfold dLenSet at po
  split at po
  · split at po
    · rename_i xs es
      split at po
      · rename_i hz
        obtain ⟨l, vs, rfl, hq, hr⟩ := hx.lstK
        have ev := strsD_ok es hr
        subst ev
        exact ⟨l, xs, rfl, s.seq (.inl hq), hz, po.v s (.int _)⟩
      · exact po.elim
    · exact po.elim
  · exact po.elim
/-! ### a table of the module: x[e] -/
structure KtK (K : PySem.W.Frag) (w : World) (mg : Str → Option Value) (x : Str) (tab : Str → Option D) : Prop where
  gl : mg x = some (.ref (He.ga K x))
  db : (x == ("__debug__" : Str)) = false
  kd : ∀ z d, tab z = some d → ∃ v, KDct K w (He.ga K x) z v ∧ ∀ H, Dr K H v d
def dTab (tab : Str → Option D) : D → R D
  | .str z => (match tab z with
    | some d => .ok d
    | none => .no)
  | _ => .no
theorem se_tab {x : Str} {k : Expr} {p pos : Pos} {tab : Str → Option D} {ck : C} (T : KtK X.K X.w X.mg x tab) (hg : Gl X x) (hk : SE X W k ck) (h : notSlice k = true) : SE X W (.Subscript (.Name x p) k pos) (cUn (dTab tab) ck) := by
  obtain ⟨u, q, w⟩ := hk
  refine ⟨_, pe_ix ix_kdict (pe_glob hg T.gl (v := .ref (He.ga X.K x)) rfl T.db) q (ix_plain h), ?_⟩
  refine ev_unG (r := fun y H1 Q => rIxD X.K X.w (.ref (He.ga X.K x)) y H1 Q) downV w fun σ H0 H y d Q s hy po => ?_
  unfold dTab at po
  split at po
  · split at po
    · rename_i z d' ed
      cases hy
      obtain ⟨v, kv, dv⟩ := T.kd _ _ ed
      exact ⟨_, _, v, rfl, rfl, kv, po.v s (dv H0)⟩
    · exact po.elim
  · exact po.elim
/-! ### list(range(n)) -/
def rgD (n : Nat) : List D := (List.range n).map fun i => D.int (i : Nat)
theorem rgD_ok {K : PySem.W.Frag} {H : Hp} (f : Nat → Int) : ∀ l : List Nat, DrAll K H (l.map fun i => V.int (f i)) (l.map fun i => D.int (f i))
  | [] => .nil
  | a :: l => .cons (.int _) (rgD_ok f l)
def dRgN : D → R (List D)
  | .int n => if 0 ≤ n ∧ n ≤ 16777216 then .ok (rgD n.toNat) else .no
  | _ => .no
theorem sn_listRg {a : Expr} {p p2 q pos : Pos} {ca : C} (hc : X.calm = true) (hg : Gl X "list") (hm : X.mg "list" = none) (hg2 : Gl X "range") (hm2 : X.mg "range" = none) (ha : SE X W a ca) (h1 : plainArg a = true) :
    SN X W (.Call (.Name "list" p) [.Call (.Name "range" p2) [a] [] q] [] pos) (cUn dRgN ca) := by
  obtain ⟨t, pa, v⟩ := ha
  refine ⟨_, pe_listRg hc hg hm (prg_1 hg2 hm2 pa (star_of h1)), ?_⟩
  refine ev_unG (r := fun x H1 Q => ∃ n, x = .int n ∧ RgOk 0 n ∧ ∀ q, H1 q = none → Q (.ref q) (upd H1 q (.lst (rgV 0 n)))) downW v fun σ H0 H x d Q s hx po => ?_
  unfold dRgN at po
  split at po
  · rename_i n
    split at po
    · rename_i hz
      cases hx
      refine ⟨n, rfl, RgOk.of_le (Int.le_refl _) hz.2 (by decide) hz.1, fun z hn => po.newO s ?_ hn⟩
      unfold rgV rgD
      have e : (fun i : Nat => V.int (0 + (i : Nat))) = fun i : Nat => V.int (i : Nat) := funext fun i => by rw [Int.zero_add]
      rw [e, Int.sub_zero]
      exact rgD_ok (fun i => (i : Int)) _
    · exact po.elim
  · exact po.elim
end
end Dw
namespace Dw
open PySem PySem.Spec L2 PyProof.Rows
/-! ### sorted(set(xs)), xs a list of whole numbers -/
/-- a set just made -/
abbrev nSet (w : World) : Obj := { cls := .type "set", dict := none, data := .set #[] 0 (.fresh 0 0 (!w.params.followText "set-order")) }
section
variable {P : Program} {w : World} {A : Around} {E : Value → Shared → Prop} {s : Shared}
theorem int_val {items : Array Value} {ns : List Int} (hi : IntsAre items.toList ns) (hz : items.size = ns.length) (i : Nat) (v : Value) (hv : items[i]? = some v) : ∃ k t, ns[i]? = some k ∧ v = .int k t := by
  have q : i < ns.length := by rw [← hz]; exact (Array.getElem?_eq_some_iff.mp hv).1
  obtain ⟨t, e⟩ := hi.int_at i v (by rw [Array.getElem?_toList, hv])
  exact ⟨ns[i], t, List.getElem?_eq_getElem q, by rw [e, List.getD_eq_getElem?_getD, List.getElem?_eq_getElem q]; rfl⟩
/-- set(l), l a list of whole numbers: with what sorted wants to know of it -/
theorem set_listR {l : Addr} {items : Array Value} {ns : List Int} {Q : Value → Shared → Prop} (hh : A.handled = none) (hl : s.heap.IsList l items) (hi : IntsAre items.toList ns) (hb : ns.length + 1 < scanBound)
    (h : ∀ (h' : Heap) (tk c : Nat), SetR w h' s.heap.objs.size (fun j => decide (j ∈ ns)) c → c ≤ ns.length → (∀ b o, s.heap.get? b = some o → h'.get? b = some o) → Q (.ref s.heap.objs.size) { s with heap := h', toks := tk }) :
    wpAny (model P w) A (call (.type "set") [.ref l]) Q E s := by
  have hz : items.size = ns.length := by have q := IntsAre.length hi; rwa [Array.length_toList] at q
  obtain ⟨m1, m2, m3⟩ := F.called_set.mro; have f1 := F.called_set.made; have f2 := F.called_set.sub
  refine wpAny_call (codeAny_of_tree (show wpAny _ _ (callAny (.type "set") _) _ _ _ from wpAny_pure ⟨Code.quiet_builtin _ (by decide +kernel), codeAny_builtin F.entry_type_call ?_⟩))
  rw [Around.under_plain (weight_type_call_type "set" [.ref l] []) rfl]; have f3 := F.called_set.notType; have f4 := F.called_set.canCreate; have f5 := F.typeCall_set_1 (.ref l)
  repeat (any_goals (first | assumption | wp_step))
  refine codeAny_mono (code_set_led1 (.ref l) (E := E) (Q₁ := fun obj s₁ => obj = .ref s.heap.objs.size ∧ s₁ = { s with heap := s.heap.push (nSet w) }) ⟨rfl, rfl⟩) fun r s₁ hr => ?_
  match r, hr with
  | .error e, hr => exact hr
  | .ok (.ret obj), hr =>
    obtain ⟨rfl, rfl⟩ := hr
    have gS : (s.heap.push (nSet w)).get? s.heap.objs.size = some (nSet w) := Heap.get?_push_size _ rfl
    have tS : Shared.TypeIs { s with heap := s.heap.push (nSet w) } (.ref s.heap.objs.size) "set" := ⟨_, gS, rfl⟩
    have f6 := F.called_set.init.lookup; have f7 := F.called_set.init.bind (.ref s.heap.objs.size)
    repeat (any_goals (first | assumption | wp_step))
    refine codeAny_mono (codeAny_call_builtin (R := wants (fun r s₂ => r = .none ∧ ∃ h' tk c, s₂ = { s with heap := h', toks := tk } ∧ SetR w h' s.heap.objs.size (fun j => decide (j ∈ ns)) c ∧ c ≤ ns.length ∧ (∀ b o, s.heap.get? b = some o → h'.get? b = some o)) E) F.called_set.init.plain F.entry_set_init (check_set_init_1 tS ?_)) fun r₂ s₂ hr₂ => ?_
    · obtain ⟨⟨ocls, odict, odata, oslots⟩, hol, hcl, nl, hdl⟩ := hl
      dsimp only at hcl hdl
      subst hcl hdl
      have gl : (s.heap.push (nSet w)).get? l = some { cls := .type "list", dict := odict, data := .seq items nl, slots := oslots } := Heap.get?_push_of_some _ hol
      have f8 := F.sub_list_set; have f9 := F.sub_list_frozenset
      have nd : (Value.type "list" == Value.type "dict") = false := by decide
      have hl1 : (s.heap.push (nSet w)).IsList l items := ⟨_, gl, rfl, nl, rfl⟩
      unfold Builtin.«set.__init__» noKeywords Builtin.Frozenset.updateFrom
      generalize ePI : pyIter = PI; wp_walk; subst ePI
      refine wpAny_pyIter_list hl1 (wpAny_bind (wpAny_runValue ?_))
      have lS : l < s.heap.objs.size := Heap.lt_size hol
      have sp : (s.heap.push (nSet w)).objs.size = s.heap.objs.size + 1 := Heap.size_push ..
      refine set_update_ints ((Walks.list (by simp [hh]) _ l (sp ▸ Nat.ne_of_lt (Nat.lt_succ_of_lt lS)) items).toS) s.heap.objs.size (by rw [sp]; simp only [List.mem_cons, List.not_mem_nil, or_false]; exact fun z => z.elim (Nat.ne_of_lt (Nat.lt_succ_self _)) (Nat.ne_of_gt lS)) ns hz hb (int_val hi hz) (items.size - 0) 0 _ (by omega) (Nat.zero_le _) ⟨⟨_, Heap.get?_push_size _ rfl, rfl, rfl⟩, hl1.push _⟩ ⟨0, Nat.le_refl 0, setR_new_at (Heap.get?_push_of_some _ gS)⟩ ?_
      intro s' c' hm hc' hS'
      obtain ⟨h', g', d', tk', os'⟩ := s'
      obtain rfl : g' = s.gens := hm.gens
      obtain rfl : d' = s.drawn := hm.drawn
      obtain rfl : os' = s.os := hm.os
      refine wpAny_pure (show wpAny _ _ (ret Value.none) _ _ _ from wpAny_pure ⟨rfl, h', tk', c', rfl, hS', by omega, fun b o e => ?_⟩)
      have lb : b < s.heap.objs.size := Heap.lt_size e
      exact hm.heap b o (by rw [sp]; simp only [List.mem_cons, List.not_mem_nil, or_false]; exact fun z => z.elim (Nat.ne_of_lt lb) (Nat.ne_of_lt (Nat.lt_succ_of_lt lb))) (Heap.get?_push_of_some _ (Heap.get?_push_of_some _ e))
    · match r₂, hr₂ with
      | .error e, hr₂ => exact hr₂
      | .ok (.ret r), hr₂ =>
        obtain ⟨rfl, h', tk, c', rfl, hS', hc', hk'⟩ := hr₂
        repeat (any_goals (first | assumption | wp_step))
        exact h _ _ _ hS' hc' hk'
end
def sortI : List Int → List Int
  | [] => []
  | x :: r => insI x (sortI r)
where insI (x : Int) : List Int → List Int
  | [] => [x]
  | y :: r => if x < y then x :: y :: r else if x = y then y :: r else y :: insI x r
theorem insI_mem {x z : Int} : ∀ {l : List Int}, z ∈ sortI.insI x l ↔ z = x ∨ z ∈ l
  | [] => by simp [sortI.insI]
  | y :: r => by
    unfold sortI.insI
    have ih := insI_mem (x := x) (z := z) (l := r)
    split
    · simp
    · split
      · rename_i e
        subst e
        simp
      · simp [ih]
        constructor
        · rintro (h | h | h) <;> simp [h]
        · rintro (h | h | h) <;> simp [h]
theorem sortI_mem {z : Int} : ∀ {l : List Int}, z ∈ sortI l ↔ z ∈ l
  | [] => by simp [sortI]
  | x :: r => by
    unfold sortI
    rw [insI_mem, sortI_mem (l := r), List.mem_cons]
theorem insI_pw {x : Int} : ∀ {l : List Int}, l.Pairwise (· < ·) → (sortI.insI x l).Pairwise (· < ·)
  | [], _ => by simp [sortI.insI]
  | y :: r, h => by
    obtain ⟨h1, h2⟩ := List.pairwise_cons.mp h
    unfold sortI.insI
    split
    · rename_i c
      refine List.pairwise_cons.mpr ⟨fun z hz => ?_, h⟩
      rcases List.mem_cons.mp hz with rfl | hz
      · exact c
      · have := h1 z hz
        omega
    · split
      · exact h
      · refine List.pairwise_cons.mpr ⟨fun z hz => ?_, insI_pw h2⟩
        rcases insI_mem.mp hz with rfl | hz
        · omega
        · exact h1 z hz
theorem sortI_pw : ∀ l : List Int, (sortI l).Pairwise (· < ·)
  | [] => by simp [sortI]
  | x :: r => insI_pw (sortI_pw r)
/-- rising lists of the same members are one -/
theorem rise_uniq : ∀ {l m : List Int}, l.Pairwise (· < ·) → m.Pairwise (· < ·) → (∀ z, z ∈ l ↔ z ∈ m) → l = m
  | [], [], _, _, _ => rfl
  | [], b :: m, _, _, e => absurd ((e b).mpr List.mem_cons_self) (by simp)
  | a :: l, [], _, _, e => absurd ((e a).mp List.mem_cons_self) (by simp)
  | a :: l, b :: m, hl, hm, e => by
    obtain ⟨l1, l2⟩ := List.pairwise_cons.mp hl
    obtain ⟨m1, m2⟩ := List.pairwise_cons.mp hm
    have ab : a = b := by
      rcases List.mem_cons.mp ((e a).mp List.mem_cons_self) with q | q
      · exact q
      · rcases List.mem_cons.mp ((e b).mpr List.mem_cons_self) with q' | q'
        · exact q'.symm
        · have := m1 a q
          have := l1 b q'
          omega
    subst ab
    congr 1
    refine rise_uniq l2 m2 fun z => ⟨fun hz => ?_, fun hz => ?_⟩
    · rcases List.mem_cons.mp ((e z).mp (List.mem_cons_of_mem _ hz)) with rfl | q
      · have := l1 z hz
        omega
      · exact q
    · rcases List.mem_cons.mp ((e z).mpr (List.mem_cons_of_mem _ hz)) with rfl | q
      · have := m1 z hz
        omega
      · exact q
def dSortSet : D → R (List D)
  | .lst ds => (match intsD ds with
    | some ns => if ns.length < 64 then .ok ((sortI ns).map D.int) else .no
    | none => .no)
  | _ => .no
theorem ints_of_V : ∀ {ns : List Int} {us : List Value}, Vals (ns.map V.int) us → IntsAre us ns
  | [], _, h => by cases h; exact .nil
  | x :: r, _, h => by
    cases h with
    | cons a t =>
      obtain ⟨tk, rfl⟩ := a
      exact .cons x tk (ints_of_V t)
theorem dr_ints {K : PySem.W.Frag} {H : Hp} : ∀ l : List Int, DrAll K H (l.map V.int) (l.map D.int)
  | [] => .nil
  | a :: l => .cons (.int _) (dr_ints l)
section
variable {X : Cx} {W : WX}
theorem sn_sortSet {a : Expr} {p p2 q pos : Pos} {ca : C} (hc : X.calm = true) (hg : Gl X "sorted") (hm : X.mg "sorted" = none) (hg2 : Gl X "set") (hm2 : X.mg "set" = none) (ha : SE X W a ca) (h1 : plainArg a = true) :
    SN X W (.Call (.Name "sorted" p) [.Call (.Name "set" p2) [a] [] q] [] pos) (cUn dSortSet ca) := by
  obtain ⟨t, pa, v⟩ := ha
  have pe : PE X (.Call (.Name "sorted" p) [.Call (.Name "set" p2) [a] [] q] [] pos) (fun σ H Q => t σ H fun x H1 => ∃ (l : Addr) (ns : List Int), x = .ref l ∧ SqL X.K H1 l (ns.map V.int) ∧ ns.length < 64 ∧ ∀ z, H1 z = none → Q (.ref z) (upd H1 z (.lst ((sortI ns).map V.int)))) := by
    refine ⟨fun pins s σ H Q I h => ?_⟩
    refine Call_ (ld_blt I hg hm PyProof.Rows.boot_sorted ?_)
    refine PyProof.Rows.callWith_builtin1 (PyProof.Rows.args_cons ?_ rfl) rfl rfl
    refine Call_ (ld_blt I hg2 hm2 PyProof.Rows.boot_set ?_)
    refine PyProof.Rows.callWith_type1 (PyProof.Rows.args_cons (thn (pa.run pins s σ H _ I h) fun u s1 ⟨x, H1, I1, r1, w⟩ => PyProof.Rows.args_nil ?_) (star_of h1)) (star_of h1) rfl
    obtain ⟨l, ns, rfl, hq, hz, w⟩ := w
    cases r1
    obtain ⟨its, r, pl, _⟩ := I1.list hq
    refine set_listR (I1.ok.hd hc) pl.isList (ns := ns) (by simpa using ints_of_V r) (by unfold scanBound; omega) fun h' tk c R hcn hk => PyProof.Rows.args_nil ?_
    have I2 : Inv X pins σ H1 { s1 with heap := h', toks := tk } := I1.kept fun b o e => hk b o e
    generalize hs2 : ({ s1 with heap := h', toks := tk } : Shared) = s2 at I2 ⊢
    have R2 : SetR X.w s2.heap s1.heap.objs.size (fun j => decide (j ∈ ns)) c := by rw [← hs2]; exact R
    refine sorted_set (s := s2) R2 (I2.ok.hd hc) (by omega) fun s' z out c' ms k g o hp hgz hiz hs hmem hl => ?_
    have em : ms = sortI ns := rise_uniq hs (sortI_pw ns) fun y => by
      rw [hmem y, sortI_mem]
      simp
    subst em
    have hn : H1 z = none := I2.hok.fresh hp
    have J : Inv X pins σ (upd H1 z (.lst ((sortI ns).map V.int))) { s2 with heap := s'.heap, gens := s'.gens, drawn := s'.drawn, toks := s'.toks } :=
      I2.call (ch := []) (Un.laid k hp hn) (I2.hok.laid k hp ⟨by rw [List.length_map, hl, sizeLine_eq]; omega, out.toList, c', vals_of_ints hiz, hgz⟩) (by rw [g]; exact I2.bare) (fun _ z => nomatch z)
    have e : s' = { s2 with heap := s'.heap, gens := s'.gens, drawn := s'.drawn, toks := s'.toks } := by cases s'; cases s2; cases o; rfl
    rw [e]
    exact ⟨.ref z, _, J, rfl, w z hn⟩
  refine ⟨_, pe, ?_⟩
  refine ev_unG (r := fun x H1 Q => ∃ (l : Addr) (ns : List Int), x = .ref l ∧ SqL X.K H1 l (ns.map V.int) ∧ ns.length < 64 ∧ ∀ z, H1 z = none → Q (.ref z) (upd H1 z (.lst ((sortI ns).map V.int)))) downW v fun σ H0 H x d Q s hx po => ?_
  unfold dSortSet at po
  split at po
  · split at po
    · rename_i ns es
      split at po
      · rename_i hz
        obtain ⟨l, vs, rfl, hq, hr⟩ := hx.lstK
        have ev := intsD_ok es hr
        subst ev
        exact ⟨l, ns, rfl, s.seq (.inl hq), hz, fun z hn => po.newO s (dr_ints _) hn⟩
      · exact po.elim
    · exact po.elim
  · exact po.elim
end
end Dw
namespace Dw
open PySem PySem.Spec L2 PyProof.Rows
/-! ### {text: value, ..} -/
def cDisp (ks : List Str) (cv : CA) : C := fun δ => match cv δ with
  | .ok ds => if ks.Nodup ∧ ds.length = ks.length ∧ ks.length ≤ 15 then .ok (.dct (ks.map .inr) ds) else .no
  | _ => .no
/-- pairs of a display: texts, and values by closures -/
def SD (X : Cx) (W : WX) (pos : Pos) (keys : List (Option Expr)) (values : List Expr) (ks : List Str) (cv : CA) : Prop :=
  ∃ trs, PPs X pos keys values trs ∧ ∀ G0 G δ σ H0 H (Qp : List (V × V) → Hp → Prop) ds, Rel X.K G0 G δ σ H0 H → cv δ = .ok ds →
    (∀ H0' H' vs, Stp H0 H H0' H' → DrAll X.K H0' vs ds → Qp (List.zipWith (fun k v => (V.str k, v)) ks vs) H') → tPairs trs σ H Qp
section
variable {X : Cx} {W : WX}
theorem sd_nil {pos : Pos} : SD X W pos [] [] [] cNil := ⟨[], pps_nil, fun G0 G δ σ H0 H Qp ds r e h => by
  cases e
  exact h H0 H [] (Stp.refl r.same) .nil⟩
theorem sd_cons {pos : Pos} {ke ve : Expr} {keys : List (Option Expr)} {values : List Expr} {k : Str} {ks : List Str} {c : C} {cv : CA} (hk : PE X ke (fun _ H Q => Q (.str k) H)) (hv : SE X W ve c) (hr : SD X W pos keys values ks cv) : SD X W pos (some ke :: keys) (ve :: values) (k :: ks) (cCons c cv) := by
  obtain ⟨tv, pv, ev⟩ := hv
  obtain ⟨trs, pr, er⟩ := hr
  refine ⟨_, pps_cons hk pv pr, fun G0 G δ σ H0 H Qp ds r e h => ?_⟩
  have e : ((c δ).bind fun d => (cv δ).bind fun ds => .ok (d :: ds)) = .ok ds := e
  cases e1 : c δ with
  | ex C => rw [e1] at e; cases e
  | no => rw [e1] at e; cases e
  | ok d =>
    rw [e1] at e
    cases e2 : cv δ with
    | ex C =>
      have e : ((cv δ).bind fun ds => R.ok (d :: ds)) = .ok ds := e
      rw [e2] at e
      cases e
    | no =>
      have e : ((cv δ).bind fun ds => R.ok (d :: ds)) = .ok ds := e
      rw [e2] at e
      cases e
    | ok ds' =>
      have e : ((cv δ).bind fun ds => R.ok (d :: ds)) = .ok ds := e
      rw [e2] at e
      cases e
      refine ev G0 G δ σ H0 H _ r ?_
      rw [e1]
      intro A B v s q
      refine er G0 G δ σ A B _ ds' (r.step s) e2 fun A' B' vs s' qs => ?_
      exact h A' B' (v :: vs) (s.trans s') (.cons (q.mono s'.e0) qs)
theorem kvs_of : ∀ (ks : List Str) (vs : List V), vs.length = ks.length → ((List.zipWith (fun k v => ((.inr k : Key), v)) ks vs).map (·.1)) = ks.map .inr ∧ ((List.zipWith (fun k v => ((.inr k : Key), v)) ks vs).map (·.2)) = vs
  | [], [], _ => ⟨rfl, rfl⟩
  | [], _ :: _, h => by cases h
  | _ :: _, [], h => by cases h
  | k :: ks, v :: vs, h => by
    obtain ⟨a, b⟩ := kvs_of ks vs (by simpa using h)
    refine ⟨?_, ?_⟩
    · rw [List.zipWith_cons_cons, List.map_cons, a]; rfl
    · rw [List.zipWith_cons_cons, List.map_cons, b]
theorem mergeK_nd : ∀ (l acc : List (Key × V)), ((acc ++ l).map (·.1)).Nodup → mergeK acc l = acc ++ l
  | [], acc, _ => by rw [List.append_nil]; rfl
  | a :: r, acc, h => by
    have e : putK acc a.1 a.2 = acc ++ [a] := by
      unfold putK
      rw [if_neg]
      intro z
      obtain ⟨x, hx, e⟩ := List.any_eq_true.mp z
      have e := of_decide_eq_true e
      rw [List.map_append, List.nodup_append] at h
      exact h.2.2 x.1 (List.mem_map_of_mem hx) a.1 (by rw [List.map_cons]; exact List.mem_cons_self) e
    show mergeK (putK acc a.1 a.2) r = _
    rw [e, mergeK_nd r (acc ++ [a]) (by rw [List.append_assoc]; exact h), List.append_assoc]
    rfl
theorem drall_len {K : PySem.W.Frag} {H : Hp} : ∀ {vs : List V} {ds : List D}, DrAll K H vs ds → vs.length = ds.length
  | _, _, .nil => rfl
  | _, _, .cons _ t => congrArg (· + 1) (drall_len t)
theorem zip_str : ∀ (ks : List Str) (vs : List V), List.zipWith (fun k v => (V.str k, v)) ks vs = (List.zipWith (fun k v => ((.inr k : Key), v)) ks vs).map fun kv => (kV kv.1, kv.2)
  | [], _ => rfl
  | _ :: _, [] => rfl
  | k :: ks, v :: vs => by
    rw [List.zipWith_cons_cons, List.zipWith_cons_cons, List.map_cons, zip_str ks vs]
    rfl
theorem se_disp {pos : Pos} {keys : List (Option Expr)} {values : List Expr} {ks : List Str} {cv : CA} (h : SD X W pos keys values ks cv) (hall : keys.all (·.isSome) = true) (hl : keys.length = values.length) (h0 : keys ≠ []) (h15 : keys.length ≤ 15) : SE X W (.Dict keys values pos) (cDisp ks cv) := by
  obtain ⟨trs, pp, ev⟩ := h
  refine ⟨_, pe_disp pp hall hl h0 h15, fun G0 G δ σ H0 H Q r p => ?_⟩
  have p : Post X.K W σ H0 H (SV X.K) (match cv δ with
    | .ok ds => if ks.Nodup ∧ ds.length = ks.length ∧ ks.length ≤ 15 then .ok (.dct (ks.map .inr) ds) else .no
    | _ => .no) Q := p
  cases e : cv δ with
  | ex C => rw [e] at p; exact p.elim
  | no => rw [e] at p; exact p.elim
  | ok ds =>
    rw [e] at p
    by_cases c : ks.Nodup ∧ ds.length = ks.length ∧ ks.length ≤ 15
    · have p : Post X.K W σ H0 H (SV X.K) (if ks.Nodup ∧ ds.length = ks.length ∧ ks.length ≤ 15 then .ok (.dct (ks.map .inr) ds) else .no) Q := p
      rw [if_pos c] at p
      intro a ha
      refine ev G0 G δ σ H0 (upd H a (.dK [])) _ ds (r.step (Stp.own r.same ha)) e fun A B vs s q => ?_
      have vl := drall_len q
      obtain ⟨k1, k2⟩ := kvs_of ks vs (by omega)
      have nd : ((List.zipWith (fun k v => ((.inr k : Key), v)) ks vs).map (·.1)).Nodup := by
        rw [k1]
        show List.Pairwise _ _
        rw [List.pairwise_map]
        exact List.Pairwise.imp (fun n z => n (Sum.inr.inj z)) c.1
      refine ⟨s.e a _ upd_same, _, zip_str ks vs, by rw [List.length_zipWith]; omega, ?_⟩
      rw [mergeK_nd _ [] (by rw [List.nil_append]; exact nd), List.nil_append]
      have a0 : H0 a = none := r.same.free ha
      have aA : A a = none := s.n a _ a0 upd_same True.intro
      refine p (upd A a (.dK (List.zipWith (fun k v => ((.inr k : Key), v)) ks vs))) _ _ ⟨s.e0.trans (Same.new aA), fun b o z => ?_, fun b o z => ?_, fun b o z w u => ?_⟩ ?_
      · have nb : b ≠ a := ne_of_none z ha
        rw [upd_ne nb]
        exact s.e b o (by rw [upd_ne nb]; exact z)
      · by_cases nb : b = a
        · subst nb; rw [upd_same] at z ⊢; exact z
        · rw [upd_ne nb] at z ⊢; exact s.k b o z
      · have nb : b ≠ a := ne_of_none w ha
        rw [upd_ne nb]
        exact s.n b o z (by rw [upd_ne nb]; exact w) u
      · have q2 : DrAll X.K (upd A a (.dK (List.zipWith (fun k v => ((.inr k : Key), v)) ks vs))) ((List.zipWith (fun k v => ((.inr k : Key), v)) ks vs).map (·.2)) ds := by
          rw [k2]
          exact q.mono (Same.new aA)
        have d := Dr.dct (K := X.K) (a := a) (H := upd A a (.dK (List.zipWith (fun k v => ((.inr k : Key), v)) ks vs))) upd_same q2
        rw [k1] at d
        exact d
    · have p : Post X.K W σ H0 H (SV X.K) (if ks.Nodup ∧ ds.length = ks.length ∧ ks.length ≤ 15 then .ok (.dct (ks.map .inr) ds) else .no) Q := p
      rw [if_neg c] at p
      exact p.elim
def dispKs : List (Option Expr) → Option (List Str)
  | [] => some []
  | some (.Constant (.str k) _ _) :: r => (match dispKs r with
    | some ks => some (k :: ks)
    | none => none)
  | _ => none
theorem sd_of {pos : Pos} {q : Expr → C} (h : ∀ v, SE X W v (q v)) : ∀ (keys : List (Option Expr)) (values : List Expr) (ks : List Str), dispKs keys = some ks → keys.length = values.length → SD X W pos keys values ks (cArgs q values)
  | [], [], ks, e, _ => by cases e; exact sd_nil
  | [], _ :: _, _, _, l => by cases l
  | _ :: _, [], _, _, l => by cases l
  | k :: keys, v :: values, ks, e, l => by
    unfold dispKs at e
    split at e
    · cases ‹_ = []›
    · rename_i e1
      cases e1
      split at e
      · rename_i ks' e2
        cases e
        exact sd_cons pe_str (h v) (sd_of h keys values ks' e2 (by simpa using l))
      · cases e
    · cases e
theorem disp_all : ∀ (keys : List (Option Expr)) (ks : List Str), dispKs keys = some ks → keys.all (·.isSome) = true
  | [], _, _ => rfl
  | none :: _, _, e => by cases e
  | some k :: keys, ks, e => by
    unfold dispKs at e
    split at e
    · cases ‹_ = []›
    · rename_i e1
      cases e1
      split at e
      · rename_i ks' e2
        show (true && keys.all (·.isSome)) = true
        rw [disp_all keys ks' e2]
        rfl
      · cases e
    · cases e
end
end Dw
namespace Dw
open PySem PySem.Spec L2 PyProof.Rows
/-! ### x.clear(), x.pop() as statements, x a list of one's own -/
def kClr (i : Nat) (δ : List Sl) : Option Sl → Fl
  | some (.ow _) => .nx (δ.set i (.ow []))
  | _ => .no
def cClr (i : Nat) : CS := fun δ => kClr i δ δ[i]?
def kPopS (i : Nat) (δ : List Sl) : Option Sl → Fl
  | some (.ow (d :: ds)) => .nx (δ.set i (.ow (d :: ds).dropLast))
  | _ => .no
def cPopS (i : Nat) : CS := fun δ => kPopS i δ δ[i]?
theorem DrAll.dropLast {K : PySem.W.Frag} {H : Hp} {vs : List V} {ds : List D} (h : DrAll K H vs ds) : DrAll K H vs.dropLast ds.dropLast := by
  rw [List.dropLast_eq_take, List.dropLast_eq_take, h.length]
  exact h.take _
section
variable {X : Cx} {W : WX}
theorem ss_clr {i : Nat} {x : Str} {p ap cp pos : Pos} (hN : X.N[i]? = some x) (hv : Vis X.env.scope x) (hd : (x == ("__debug__" : Str)) = false) (hcd : (x == ("__classdict__" : Str)) = false) (hl : (ap.endLine == cp.line) = true) :
    SS X W (.Expr (.Call (.Attribute (.Name x p) "clear" ap) [] [] cp) pos) (cClr i) := by
  refine ⟨_, ps_expr (pe_bm0 PySem.F.plainAttrs_list PySem.F.slot_list_clear PySem.F.type_list_clear mt_clear (pe_var hN hv hd hcd) rfl hl) rfl, fun G0 G δ σ H0 H E r po => ?_⟩
  have po' : PostS X.K W G0 G H0 E (kClr i δ δ[i]?) := po
  unfold kClr at po'
  split at po'
  · rename_i ds e0
    obtain ⟨a, vs, hs, g, n, ha, hr⟩ := r.ow i ds e0
    exact ⟨_, hs, .inl ⟨rfl, vs, SqL.of ha⟩, a, vs, rfl, rfl, ha, po' σ H0 _ (Same.refl _) (r.put e0 hs .nil)⟩
  · exact po'.elim
theorem ss_popS {i : Nat} {x : Str} {p ap cp pos : Pos} (hN : X.N[i]? = some x) (hv : Vis X.env.scope x) (hd : (x == ("__debug__" : Str)) = false) (hcd : (x == ("__classdict__" : Str)) = false) (hl : (ap.endLine == cp.line) = true) :
    SS X W (.Expr (.Call (.Attribute (.Name x p) "pop" ap) [] [] cp) pos) (cPopS i) := by
  refine ⟨_, ps_expr (pe_bm0 PySem.F.plainAttrs_list PySem.F.slot_list_pop PySem.F.type_list_pop mt_pop (pe_var hN hv hd hcd) rfl hl) rfl, fun G0 G δ σ H0 H E r po => ?_⟩
  have po' : PostS X.K W G0 G H0 E (kPopS i δ δ[i]?) := po
  unfold kPopS at po'
  split at po'
  · rename_i d ds e0
    obtain ⟨a, vs, hs, g, n, ha, hr⟩ := r.ow i (d :: ds) e0
    have hl := hr.length
    have hp : vs.length - 1 < vs.length := by rw [hl, List.length_cons]; omega
    exact ⟨_, hs, .inl ⟨rfl, vs, SqL.of ha⟩, a, vs, vs[vs.length - 1], rfl, rfl, ha, List.getElem?_eq_getElem hp, po' σ H0 _ (Same.refl _) (r.put e0 hs hr.dropLast)⟩
  · exact po'.elim
end
end Dw
namespace Dw
open PySem PySem.Spec L2 PyProof.Rows
/-! ### trees of one's own: what has kids in a row -/
def O.kids : O → Option (List O)
  | .ls os => some os
  | .tp os => some os
  | _ => none
def O.wk : O → List O → O
  | .ls _, os => .ls os
  | .tp _, os => .tp os
  | o, _ => o
section
variable {K : PySem.W.Frag} {H0 H : Hp}
/-- a kid of a tree -/
theorem Ow.kid (s : Same H0 H) {v : V} {o o1 : O} {os : List O} {f : List Addr} {k : Nat} (h : Ow K H0 H v o f) (e : o.kids = some os) (ek : os[k]? = some o1) : ∃ (p : Addr) (vs : List V) (v1 : V) (g : List Addr), v = .ref p ∧ (SqL K H p vs ∨ SqT K H p vs) ∧ vs[k]? = some v1 ∧ vs.length = os.length ∧ Ow K H0 H v1 o1 g ∧ (∀ a ∈ g, a ∈ f) ∧
    ∀ (H0' H' : Hp) (o1' : O) (g' : List Addr), Same H0 H0' → (∀ a ∈ f, a ∉ g → ∀ u, H a = some u → H' a = some u) → Ow K H0' H' v1 o1' g' → (∀ a ∈ g', a ∈ f → a ∈ g) → ∃ f', Ow K H0' H' v (o.wk (os.set k o1')) f' ∧ ∀ a ∈ f', a ∈ g' ∨ (a ∈ f ∧ a ∉ g) := by
  cases h with
  | lf q => cases e
  | ob q w r n1 n2 n3 => cases e
  | @ls p vs os' f0 q r n =>
    cases e
    obtain ⟨v1, g, h1, h2, h3, h4⟩ := r.get ek
    refine ⟨p, vs, v1, g, rfl, .inl (SqL.of q), h1, r.length, h2, fun a m => List.mem_cons_of_mem _ (h3 a m), fun H0' H' o1' g' e0 eh w ng => ?_⟩
    obtain ⟨f', w1, w2⟩ := h4 H0' H' v1 o1' g' e0 (fun a m nm u z => eh a (List.mem_cons_of_mem _ m) nm u z) w fun a m m2 => ng a m (List.mem_cons_of_mem _ m2)
    have es : vs.set k v1 = vs := by
      apply List.ext_getElem?
      intro j
      by_cases ej : k = j
      · subst ej
        rw [List.getElem?_set_self (List.getElem?_eq_some_iff.mp h1).1, h1]
      · rw [List.getElem?_set_ne ej]
    rw [es] at w1
    have pg : p ∉ g := fun m => n (h3 p m)
    refine ⟨p :: f', .ls (eh p List.mem_cons_self pg _ q) w1 fun m => ?_, fun a m => ?_⟩
    · rcases w2 p m with m | ⟨m, _⟩
      · exact pg (ng p m List.mem_cons_self)
      · exact n m
    · rcases List.mem_cons.mp m with rfl | m
      · exact .inr ⟨List.mem_cons_self, pg⟩
      · rcases w2 a m with m | ⟨m1, m2⟩
        · exact .inl m
        · exact .inr ⟨List.mem_cons_of_mem _ m1, m2⟩
  | @tp p vs os' f0 q r =>
    cases e
    obtain ⟨v1, g, h1, h2, h3, h4⟩ := r.get ek
    refine ⟨p, vs, v1, g, rfl, .inr (.inl (.inl (s _ _ q))), h1, r.length, h2, h3, fun H0' H' o1' g' e0 eh w ng => ?_⟩
    obtain ⟨f', w1, w2⟩ := h4 H0' H' v1 o1' g' e0 eh w ng
    have es : vs.set k v1 = vs := by
      apply List.ext_getElem?
      intro j
      by_cases ej : k = j
      · subst ej
        rw [List.getElem?_set_self (List.getElem?_eq_some_iff.mp h1).1, h1]
      · rw [List.getElem?_set_ne ej]
    rw [es] at w1
    exact ⟨f', .tp (e0 _ _ q) w1, w2⟩
end
/-! ### expressions that make trees -/
def STr (K : PySem.W.Frag) : Sat O V := fun Hs H0 H v o => TrK K Hs H0 H v o
theorem downTr {K : PySem.W.Frag} : Down (STr K) := fun _ _ _ _ _ _ e ⟨f, w, n⟩ => ⟨f, w, fun a m => ⟨e.free (n a m).1, (n a m).2⟩⟩
def SATr (K : PySem.W.Frag) : Sat (List O) (List V) := fun Hs H0 H vs os => ∃ f, OwA K H0 H vs os f ∧ ∀ a ∈ f, Hs a = none ∧ H0 a = none
theorem downATr {K : PySem.W.Frag} : Down (SATr K) := fun _ _ _ _ _ _ e ⟨f, w, n⟩ => ⟨f, w, fun a m => ⟨e.free (n a m).1, (n a m).2⟩⟩
abbrev CTr := List Sl → R O
abbrev CATr := List Sl → R (List O)
def SXt (X : Cx) (W : WX) (e : Expr) (c : CTr) : Prop := ∃ t, PE X e t ∧ Ev X.K W (STr X.K) t c
def SXts (X : Cx) (W : WX) (es : List Expr) (c : CATr) : Prop := ∃ t, PA X es t ∧ Ev X.K W (SATr X.K) t c
def toLf : R D → R O
  | .ok d => .ok (.lf d)
  | .ex C => .ex C
  | .no => .no
def cLf (c : C) : CTr := fun δ => toLf (c δ)
def toLs : R (List O) → R O
  | .ok os => if os.length ≤ sizeLine then .ok (.ls os) else .no
  | .ex C => .ex C
  | .no => .no
def cLs (c : CATr) : CTr := fun δ => toLs (c δ)
def cNilT : CATr := fun _ => .ok []
def cConsT (a : CTr) (r : CATr) : CATr := fun δ => (a δ).bind fun o => (r δ).bind fun os => .ok (o :: os)
def kPick (os : List O) : D → R O
  | .int i => (match ixN os.length i with
    | some k => (match os[k]? with
      | some o => .ok o
      | none => .no)
    | none => .no)
  | _ => .no
def cPick (a : CATr) (b : C) : CTr := fun δ => (a δ).bind fun os => if os.length ≤ sizeLine then (b δ).bind fun d => kPick os d else .no
section
variable {X : Cx} {W : WX}
theorem sx_v {e : Expr} {c : C} (h : SE X W e c) : SXt X W e (cLf c) := by
  obtain ⟨t, p, v⟩ := h
  refine ⟨t, p, fun G0 G δ σ H0 H Q r po => v G0 G δ σ H0 H Q r ?_⟩
  have po' : Post X.K W σ H0 H (STr X.K) (toLf (c δ)) Q := po
  cases e : c δ with
  | ok d => rw [e] at po'; exact fun A B x s q => po' A B x s ⟨[], .lf q, fun _ m => nomatch m⟩
  | ex C => rw [e] at po'; exact po'
  | no => rw [e] at po'; exact po'
theorem sxs_nil : SXts X W [] cNilT := ⟨_, pa_nil, fun G0 G δ σ H0 H Q r p => Post.here (show Post X.K W σ H0 H (SATr X.K) (.ok []) Q from p) r.same ⟨[], .nil, fun _ m => nomatch m⟩⟩
theorem sxs_cons {e : Expr} {es : List Expr} {a : CTr} {b : CATr} (ha : SXt X W e a) (hb : SXts X W es b) (h : plainArg e = true) : SXts X W (e :: es) (cConsT a b) := by
  obtain ⟨t, p, v⟩ := ha
  obtain ⟨u, q, w⟩ := hb
  refine ⟨_, pa_cons p q (star_of h), fun G0 G δ σ H0 H Q r po => ?_⟩
  have po' : Post X.K W σ H0 H (SATr X.K) ((a δ).bind fun o => (b δ).bind fun os => .ok (o :: os)) Q := po
  refine v G0 G δ σ H0 H _ r ?_
  cases e1 : a δ with
  | no => rw [e1] at po'; exact po'
  | ex C => rw [e1] at po'; exact po'
  | ok o =>
    rw [e1] at po'
    intro A B x s hx
    obtain ⟨f, w1, n1⟩ := hx
    refine w G0 G δ σ A B _ (r.step s) ?_
    have po2 : Post X.K W σ H0 H (SATr X.K) ((b δ).bind fun os => .ok (o :: os)) Q := po'
    cases e2 : b δ with
    | no => rw [e2] at po2; exact po2
    | ex C => rw [e2] at po2; exact Post.mono (S := SATr X.K) downATr po2 s
    | ok os =>
      rw [e2] at po2
      intro A2 B2 xs s2 hxs
      obtain ⟨g, w2, n2⟩ := hxs
      refine po2 A2 B2 (x :: xs) (s.trans s2) ⟨f ++ g, .cons (w1.mono s2.e0 o fun a _ u z => s2.e a u z) w2 fun a m m2 => ?_, fun a m => ?_⟩
      · obtain ⟨u, h1, _⟩ := w1.there o m
        rw [(n2 a m2).1] at h1
        cases h1
      · rcases List.mem_append.mp m with m | m
        · obtain ⟨u, h1, h2⟩ := w1.there o m
          exact ⟨(n1 a m).1, s2.n a u (n1 a m).2 h1 h2⟩
        · exact ⟨s.e.free (n2 a m).1, (n2 a m).2⟩
theorem sx_ls {es : List Expr} {pos : Pos} {c : CATr} (h : SXts X W es c) : SXt X W (.List es pos) (cLs c) := by
  obtain ⟨t, p, v⟩ := h
  refine ⟨_, pe_lst p, fun G0 G δ σ H0 H Q r po => v G0 G δ σ H0 H _ r ?_⟩
  have po' : Post X.K W σ H0 H (STr X.K) (toLs (c δ)) Q := po
  cases e : c δ with
  | no => rw [e] at po'; exact po'
  | ex C => rw [e] at po'; exact po'
  | ok os =>
    rw [e] at po'
    intro A B vs s hv
    obtain ⟨f, w, n⟩ := hv
    have po2 : Post X.K W σ H0 H (STr X.K) (if os.length ≤ sizeLine then .ok (.ls os) else .no) Q := po'
    split at po2
    · rename_i hz
      refine ⟨by rw [w.length]; exact hz, fun q hq => ?_⟩
      have nq : ∀ a ∈ f, a ≠ q := fun a m z => by
        obtain ⟨u, h1, _⟩ := w.there os m
        rw [z, hq] at h1
        cases h1
      have qA : A q = none := s.k.free hq
      refine po2 A (upd B q (.lst vs)) (.ref q) (s.trans (Stp.own s.k hq)) ⟨q :: f, .ls upd_same (w.mono (Same.refl _) os fun a m u z => by rw [upd_ne (nq a m)]; exact z) fun m => nq q m rfl, fun a m => ?_⟩
      rcases List.mem_cons.mp m with rfl | m
      · exact ⟨s.e.free hq, qA⟩
      · exact n a m
    · exact po2.elim
theorem sx_pick {es : List Expr} {k : Expr} {p1 pos : Pos} {a : CATr} {b : C} (ha : SXts X W es a) (hb : SE X W k b) (hk : notSlice k = true) : SXt X W (.Subscript (.List es p1) k pos) (cPick a b) := by
  obtain ⟨t, p, v⟩ := ha
  obtain ⟨u, q, w⟩ := hb
  refine ⟨_, pe_ix ix_seq (pe_lst p) q (ix_plain hk), fun G0 G δ σ H0 H Q r po => v G0 G δ σ H0 H _ r ?_⟩
  have po' : Post X.K W σ H0 H (STr X.K) ((a δ).bind fun os => if os.length ≤ sizeLine then (b δ).bind fun d => kPick os d else .no) Q := po
  cases e : a δ with
  | no => rw [e] at po'; exact po'
  | ex C => rw [e] at po'; exact po'
  | ok os =>
    rw [e] at po'
    intro A B vs s hv
    obtain ⟨f, wt, n⟩ := hv
    have po2 : Post X.K W σ H0 H (STr X.K) (if os.length ≤ sizeLine then (b δ).bind fun d => kPick os d else .no) Q := po'
    split at po2
    · rename_i hz
      refine ⟨by rw [wt.length]; exact hz, fun z hq => ?_⟩
      refine w G0 G δ σ A (upd B z (.lst vs)) _ (r.step (s.trans (Stp.own s.k hq))) ?_
      cases eb : b δ with
      | no => rw [eb] at po2; exact po2.elim
      | ex C =>
        rw [eb] at po2
        exact fun A2 B2 s2 => po2 A2 B2 ((s.trans (Stp.own s.k hq)).trans s2)
      | ok d =>
        rw [eb] at po2
        have po3 : Post X.K W σ H0 H (STr X.K) (kPick os d) Q := po2
        intro A2 B2 y s2 hy
        unfold kPick at po3
        split at po3
        · rename_i i
          split at po3
          · rename_i kk hkk
            split at po3
            · rename_i o ho
              cases hy
              have z2 : B2 z = some (.lst vs) := s2.e _ _ upd_same
              obtain ⟨v1, g, h1, h2, h3, -⟩ := wt.get ho
              have at1 : atI vs i = some v1 := by
                unfold atI
                rw [wt.length, hkk]
                exact h1
              have nz : ∀ a ∈ f, a ≠ z := fun a m e => by
                obtain ⟨u, h1, _⟩ := wt.there os m
                rw [e, hq] at h1
                cases h1
              refine .inl ⟨z, vs, i, v1, rfl, rfl, SqL.of z2, at1, po3 A2 B2 v1 ((s.trans (Stp.own s.k hq)).trans s2) ⟨g, h2.mono s2.e0 o fun a m u e => s2.e a u (by rw [upd_ne (nz a (h3 a m))]; exact e), fun a m => ?_⟩⟩
              have := n a (h3 a m)
              obtain ⟨u, q1, q2⟩ := wt.there os (h3 a m)
              exact ⟨this.1, s2.n a u this.2 (by rw [upd_ne (nz a (h3 a m))]; exact q1) q2⟩
            · exact po3.elim
          · exact po3.elim
        · exact po3.elim
    · exact po2.elim
end
end Dw
namespace Dw
open PySem PySem.Spec L2 PyProof.Rows
/-! ### statements on trees of one's own -/
def kAsgX (i : Nat) (δ : List Sl) : R O → Fl
  | .ok o => .nx (δ.set i (.tr o))
  | .ex C => .ex C δ
  | .no => .no
def cAsgX (i : Nat) (c : CTr) : CS := fun δ => kAsgX i δ (c δ)
def kAppX (i : Nat) (δ : List Sl) : Option Sl → R O → Fl
  | some (.tr (.ls os)), .ok o => if os.length < sizeLine then .nx (δ.set i (.tr (.ls (os ++ [o])))) else .no
  | some (.tr (.ls _)), .ex C => .ex C δ
  | _, _ => .no
def cAppX (i : Nat) (c : CTr) : CS := fun δ => kAppX i δ δ[i]? (c δ)
/-- x[k].append(e), x[k].clear() -/
def kApp1 (d : D) : O → Option O
  | .ls es => if es.length < sizeLine then some (.ls (es ++ [.lf d])) else none
  | _ => none
def kClr1 : O → Option O
  | .ls _ => some (.ls [])
  | _ => none
def kAtX (i : Nat) (δ : List Sl) (g : O → Option O) : Option Sl → R D → Fl
  | some (.tr o), .ok (.int j) => (match o.kids with
    | some os => (match ixN os.length j with
      | some k => (match os[k]? with
        | some o1 => (match g o1 with
          | some o2 => .nx (δ.set i (.tr (o.wk (os.set k o2))))
          | none => .no)
        | none => .no)
      | none => .no)
    | none => .no)
  | some (.tr _), .ex C => .ex C δ
  | _, _ => .no
def kAppXI (i : Nat) (δ : List Sl) (s : Option Sl) (rk : R D) : R D → Fl
  | .ok d => kAtX i δ (kApp1 d) s rk
  | _ => .no
def cAppXI (i : Nat) (ck c : C) : CS := fun δ => kAppXI i δ δ[i]? (ck δ) (c δ)
def cClrXI (i : Nat) (ck : C) : CS := fun δ => kAtX i δ kClr1 δ[i]? (ck δ)
section
variable {X : Cx} {W : WX}
theorem ss_asgX {i : Nat} {x : Str} {e : Expr} {p pos : Pos} {c : CTr} (hN : X.N.Nodup) (hi : X.N[i]? = some x) (hx : L2.Loc X.env.scope x) (hf : X.fn x = true ∨ X.env.scope.names.lookup x = some .local) (h : SXt X W e c) (hc : isComp e = false) : SS X W (.Assign [.Name x p] e pos) (cAsgX i c) := by
  obtain ⟨t, q, v⟩ := h
  refine ⟨_, ps_set hN hi hx q (swaps_of hc) hf, fun G0 G δ σ H0 H E r po => v G0 G δ σ H0 H _ r ?_⟩
  have po' : PostS X.K W G0 G H0 E (kAsgX i δ (c δ)) := po
  cases e : c δ with
  | no => rw [e] at po'; exact po'
  | ex C => rw [e] at po'; exact fun A B s => po' σ A B s.e0 (r.step s)
  | ok o =>
    rw [e] at po'
    intro A B v s hv
    obtain ⟨f, w, n⟩ := hv
    obtain ⟨fp, ow⟩ := r.own
    refine po' _ A B s.e0 ((r.step s).setTr (fp := fp) (ow.step s) w (fun a m => ⟨r.st.e.free (n a m).1, (n a m).2⟩) fun a m j _ m2 => ?_)
    obtain ⟨u, h1, _⟩ := (ow.s j).there m2
    rw [(n a m).1] at h1
    cases h1
theorem ss_appX {i : Nat} {x : Str} {e : Expr} {p ap cp pos : Pos} {c : CTr} (hN : X.N[i]? = some x) (hv : Vis X.env.scope x) (hd : (x == ("__debug__" : Str)) = false) (hcd : (x == ("__classdict__" : Str)) = false) (h : SXt X W e c) (he : plainArg e = true) (hl : (ap.endLine == cp.line) = true) :
    SS X W (.Expr (.Call (.Attribute (.Name x p) "append" ap) [e] [] cp) pos) (cAppX i c) := by
  obtain ⟨t, q, v⟩ := h
  refine ⟨_, ps_expr (pe_bm PySem.F.plainAttrs_list PySem.F.slot_list_append PySem.F.type_list_append mt_append (pe_var hN hv hd hcd) (pa_cons q pa_nil (star_of he)) rfl (few_one he) hl (star_of he) rfl) rfl, fun G0 G δ σ H0 H E r po => ?_⟩
  have po' : PostS X.K W G0 G H0 E (kAppX i δ δ[i]? (c δ)) := po
  unfold kAppX at po'
  split at po'
  · rename_i os o e0 e1
    split at po'
    · rename_i hz
      obtain ⟨fp, ow⟩ := r.own
      have z := ow.s i
      rw [e0] at z
      obtain ⟨v0, hs, w⟩ := z
      generalize hfp : fp i = f at w
      cases w with
      | @ls a vs os f0 ha wa na =>
        refine ⟨_, hs, .inl ⟨rfl, vs, SqL.of ha⟩, ?_⟩
        refine v G0 G δ σ H0 H _ r ?_
        rw [e1]
        intro A B y s hy
        obtain ⟨g, wg, ng⟩ := hy
        have haB := s.e _ _ ha
        refine ⟨a, vs, y, rfl, rfl, haB, by rw [wa.length]; exact hz, ?_⟩
        have r1 := r.step s
        have ow1 := ow.step s
        have inn : ∀ b ∈ f0, ∃ u, H b = some u := fun b m => by
          obtain ⟨u, h1, _⟩ := wa.there os m
          exact ⟨u, h1⟩
        have nga : ∀ b ∈ g, b ≠ a := fun b m e => by
          have := (ng b m).1
          rw [e, ha] at this
          cases this
        have w1 : OwA X.K A (upd B a (.lst (vs ++ [y]))) (vs ++ [y]) (os ++ [o]) (f0 ++ (g ++ [])) := by
          refine OwA.app (wa.mono s.e0 os fun b m u z => ?_) (.cons (wg.mono (Same.refl _) o fun b m u z => ?_) .nil fun _ _ m => nomatch m) fun b m m2 => ?_
          · rw [upd_ne (fun e => na (by rw [← e]; exact m))]
            exact s.e b u z
          · rw [upd_ne (nga b m)]; exact z
          · rw [List.append_nil] at m2
            obtain ⟨u, h1⟩ := inn b m
            rw [(ng b m2).1] at h1
            cases h1
        refine po' σ A _ s.e0 (r1.putG (H' := upd B a (.lst (vs ++ [y]))) ow1 e0 (Same.refl _) (fun b u z => ?_) (fun b m u z => ?_) (fun b u z _ _ => z) (s' := .tr (.ls (os ++ [o]))) (f := a :: (f0 ++ (g ++ []))) ⟨_, hs, .ls upd_same w1 fun m => ?_⟩ (fun b m => ?_) (fun _ e => nomatch e) fun _ e => nomatch e)
        · have n1 := (ow1.n i a (by rw [hfp]; exact List.mem_cons_self)).2
          rw [upd_ne (fun e => by rw [e] at z; rw [n1] at z; cases z)]
          exact r1.same b u z
        · rw [upd_ne (fun e => m (by rw [hfp, e]; exact List.mem_cons_self))]; exact z
        · rcases List.mem_append.mp m with m | m
          · exact na m
          · rw [List.append_nil] at m
            exact nga a m rfl
        · rcases List.mem_cons.mp m with rfl | m
          · exact .inl (by rw [hfp]; exact List.mem_cons_self)
          · rcases List.mem_append.mp m with m | m
            · exact .inl (by rw [hfp]; exact List.mem_cons_of_mem _ m)
            · rw [List.append_nil] at m
              refine .inr ⟨r.st.e.free (ng b m).1, (ng b m).2, fun j m2 => ?_⟩
              obtain ⟨u, h1, _⟩ := (ow.s j).there m2
              rw [(ng b m).1] at h1
              cases h1
    · exact po'.elim
  · rename_i os C e0 e1
    obtain ⟨fp, ow⟩ := r.own
    have z := ow.s i
    rw [e0] at z
    obtain ⟨v0, hs, w⟩ := z
    generalize fp i = f at w
    cases w with
    | @ls a vs os f0 ha wa na =>
      refine ⟨_, hs, .inl ⟨rfl, vs, SqL.of ha⟩, ?_⟩
      refine v G0 G δ σ H0 H _ r ?_
      rw [e1]
      exact fun A B s => po' σ A B s.e0 (r.step s)
  · exact po'.elim
theorem ss_appXI {i : Nat} {x : Str} {e k : Expr} {p sp ap cp pos : Pos} {ck c : C} (hN : X.N[i]? = some x) (hv : Vis X.env.scope x) (hd : (x == ("__debug__" : Str)) = false) (hcd : (x == ("__classdict__" : Str)) = false) (hk : SE X W k ck) (hks : notSlice k = true) (h : SE X W e c) (he : plainArg e = true) (hl : (ap.endLine == cp.line) = true) :
    SS X W (.Expr (.Call (.Attribute (.Subscript (.Name x p) k sp) "append" ap) [e] [] cp) pos) (cAppXI i ck c) := by
  obtain ⟨tk, qk, vk⟩ := hk
  obtain ⟨te, qe, ve⟩ := h
  refine ⟨_, ps_expr (pe_bm PySem.F.plainAttrs_list PySem.F.slot_list_append PySem.F.type_list_append mt_append (pe_ix ix_seq (pe_var hN hv hd hcd) qk (ix_plain hks)) (pa_cons qe pa_nil (star_of he)) rfl (few_one he) hl (star_of he) rfl) rfl, fun G0 G δ σ H0 H E r po => ?_⟩
  have po' : PostS X.K W G0 G H0 E (kAppXI i δ δ[i]? (ck δ) (c δ)) := po
  cases ec : c δ with
  | no => rw [ec] at po'; exact po'.elim
  | ex C => rw [ec] at po'; exact po'.elim
  | ok d =>
    rw [ec] at po'
    have po2 : PostS X.K W G0 G H0 E (kAtX i δ (kApp1 d) δ[i]? (ck δ)) := po'
    unfold kAtX at po2
    split at po2
    · rename_i o j e0 e1
      split at po2
      · rename_i os ekids
        split at po2
        · rename_i kk eix
          split at po2
          · rename_i o1 ek
            split at po2
            · rename_i o2 eg
              obtain ⟨fp, ow⟩ := r.own
              have z := ow.s i
              rw [e0] at z
              obtain ⟨v0, hs, w⟩ := z
              refine ⟨_, hs, ?_⟩
              refine vk G0 G δ σ H0 H _ r ?_
              rw [e1]
              intro A B y s hy
              cases hy
              have w1 := w.mono s.e0 o fun a m u z => s.e a u z
              obtain ⟨pp, vs, v1, g, rfl, hsq, hv1, hvl, w2, sb, rep⟩ := w1.kid (r.step s).same ekids ek
              unfold kApp1 at eg
              split at eg
              · rename_i es
                split at eg
                · rename_i hz
                  cases eg
                  cases w2 with
                  | @ls q ws _ fe hq wa nq =>
                    have at1 : atI vs j = some (.ref q) := by
                      unfold atI
                      rw [hvl, eix]
                      exact hv1
                    rcases hsq with hsq | hsq <;> first | refine .inl ⟨pp, vs, j, .ref q, rfl, rfl, hsq, at1, .inl ⟨rfl, ws, SqL.of hq⟩, ?_⟩ | refine .inr (.inl ⟨pp, vs, j, .ref q, rfl, rfl, hsq, at1, .inl ⟨rfl, ws, SqL.of hq⟩, ?_⟩)
                    all_goals
                      refine ve G0 G δ σ A B _ (r.step s) ?_
                      rw [ec]
                      intro A2 B2 x2 s2 hx
                      have hq2 := s2.e _ _ hq
                      refine ⟨q, ws, x2, rfl, rfl, hq2, by rw [wa.length]; exact hz, ?_⟩
                      have wn : Ow X.K A2 (upd B2 q (.lst (ws ++ [x2]))) (.ref q) (.ls (es ++ [.lf d])) (q :: (fe ++ ([] ++ []))) := by
                        refine .ls upd_same (OwA.app (wa.mono s2.e0 es fun b m u z => ?_) (.cons (.lf hx) .nil fun _ m => nomatch m) fun b m m2 => by simp at m2) (by simpa using nq)
                        rw [upd_ne (fun e => nq (by rw [← e]; exact m))]
                        exact s2.e b u z
                      obtain ⟨f', wr, sb'⟩ := rep A2 (upd B2 q (.lst (ws ++ [x2]))) _ _ s2.e0 (fun b m nm u z => by
                        rw [upd_ne (fun e => nm (by rw [e]; exact List.mem_cons_self))]
                        exact s2.e b u z) wn (fun b m _ => by simpa using m)
                      have ow2 := (ow.step s).step s2
                      have qf : q ∈ fp i := sb q List.mem_cons_self
                      refine po2 σ A2 _ (s.e0.trans s2.e0) (((r.step s).step s2).putG (H' := upd B2 q (.lst (ws ++ [x2]))) ow2 e0 (Same.refl _) (fun b u z => ?_) (fun b m u z => ?_) (fun b u z _ _ => z) (s' := .tr (o.wk (os.set kk (.ls (es ++ [.lf d]))))) (f := f') ⟨_, hs, wr⟩ (fun b m => ?_) (fun _ e => nomatch e) fun _ e => nomatch e)
                      · have n1 := (ow2.n i q qf).2
                        rw [upd_ne (fun e => by rw [e] at z; rw [n1] at z; cases z)]
                        exact ((r.step s).step s2).same b u z
                      · rw [upd_ne (fun e => m (by rw [e]; exact qf))]; exact z
                      · rcases sb' b m with m | ⟨m, _⟩
                        · exact .inl (sb b (by simpa using m))
                        · exact .inl m
                · cases eg
              · cases eg
            · exact po2.elim
          · exact po2.elim
        · exact po2.elim
      · exact po2.elim
    · rename_i o C e0 e1
      obtain ⟨fp, ow⟩ := r.own
      have z := ow.s i
      rw [e0] at z
      obtain ⟨v0, hs, w⟩ := z
      refine ⟨_, hs, ?_⟩
      refine vk G0 G δ σ H0 H _ r ?_
      rw [e1]
      exact fun A B s => po2 σ A B s.e0 (r.step s)
    · exact po2.elim
theorem ss_clrXI {i : Nat} {x : Str} {k : Expr} {p sp ap cp pos : Pos} {ck : C} (hN : X.N[i]? = some x) (hv : Vis X.env.scope x) (hd : (x == ("__debug__" : Str)) = false) (hcd : (x == ("__classdict__" : Str)) = false) (hk : SE X W k ck) (hks : notSlice k = true) (hl : (ap.endLine == cp.line) = true) :
    SS X W (.Expr (.Call (.Attribute (.Subscript (.Name x p) k sp) "clear" ap) [] [] cp) pos) (cClrXI i ck) := by
  obtain ⟨tk, qk, vk⟩ := hk
  refine ⟨_, ps_expr (pe_bm0 PySem.F.plainAttrs_list PySem.F.slot_list_clear PySem.F.type_list_clear mt_clear (pe_ix ix_seq (pe_var hN hv hd hcd) qk (ix_plain hks)) rfl hl) rfl, fun G0 G δ σ H0 H E r po => ?_⟩
  have po2 : PostS X.K W G0 G H0 E (kAtX i δ kClr1 δ[i]? (ck δ)) := po
  unfold kAtX at po2
  split at po2
  · rename_i o j e0 e1
    split at po2
    · rename_i os ekids
      split at po2
      · rename_i kk eix
        split at po2
        · rename_i o1 ek
          split at po2
          · rename_i o2 eg
            obtain ⟨fp, ow⟩ := r.own
            have z := ow.s i
            rw [e0] at z
            obtain ⟨v0, hs, w⟩ := z
            refine ⟨_, hs, ?_⟩
            refine vk G0 G δ σ H0 H _ r ?_
            rw [e1]
            intro A B y s hy
            cases hy
            have w1 := w.mono s.e0 o fun a m u z => s.e a u z
            obtain ⟨pp, vs, v1, g, rfl, hsq, hv1, hvl, w2, sb, rep⟩ := w1.kid (r.step s).same ekids ek
            unfold kClr1 at eg
            split at eg
            · rename_i es
              cases eg
              cases w2 with
              | @ls q ws _ fe hq wa nq =>
                have at1 : atI vs j = some (.ref q) := by
                  unfold atI
                  rw [hvl, eix]
                  exact hv1
                rcases hsq with hsq | hsq <;> first | refine .inl ⟨pp, vs, j, .ref q, rfl, rfl, hsq, at1, .inl ⟨rfl, ws, SqL.of hq⟩, ?_⟩ | refine .inr (.inl ⟨pp, vs, j, .ref q, rfl, rfl, hsq, at1, .inl ⟨rfl, ws, SqL.of hq⟩, ?_⟩)
                all_goals
                  refine ⟨q, ws, rfl, rfl, hq, ?_⟩
                  have wn : Ow X.K A (upd B q (.lst [])) (.ref q) (.ls []) [q] := .ls upd_same .nil fun m => nomatch m
                  obtain ⟨f', wr, sb'⟩ := rep A (upd B q (.lst [])) _ _ (Same.refl _) (fun b m nm u z => by
                    rw [upd_ne (fun e => nm (by rw [e]; exact List.mem_cons_self))]
                    exact z) wn (fun b m _ => by rw [List.mem_singleton.mp m]; exact List.mem_cons_self)
                  have ow2 := ow.step s
                  have qf : q ∈ fp i := sb q List.mem_cons_self
                  refine po2 σ A _ s.e0 ((r.step s).putG (H' := upd B q (.lst [])) ow2 e0 (Same.refl _) (fun b u z => ?_) (fun b m u z => ?_) (fun b u z _ _ => z) (s' := .tr (o.wk (os.set kk (.ls [])))) (f := f') ⟨_, hs, wr⟩ (fun b m => ?_) (fun _ e => nomatch e) fun _ e => nomatch e)
                  · have n1 := (ow2.n i q qf).2
                    rw [upd_ne (fun e => by rw [e] at z; rw [n1] at z; cases z)]
                    exact (r.step s).same b u z
                  · rw [upd_ne (fun e => m (by rw [e]; exact qf))]; exact z
                  · rcases sb' b m with m | ⟨m, _⟩
                    · rw [List.mem_singleton.mp m]; exact .inl qf
                    · exact .inl m
            · cases eg
          · exact po2.elim
        · exact po2.elim
      · exact po2.elim
    · exact po2.elim
  · rename_i o C e0 e1
    obtain ⟨fp, ow⟩ := r.own
    have z := ow.s i
    rw [e0] at z
    obtain ⟨v0, hs, w⟩ := z
    refine ⟨_, hs, ?_⟩
    refine vk G0 G δ σ H0 H _ r ?_
    rw [e1]
    exact fun A B s => po2 σ A B s.e0 (r.step s)
  · exact po2.elim
/-! ### a tuple told, with lists of one's own in it -/
def mvI : Option Sl → R O
  | some (.ow ds) => .ok (.ls (ds.map O.lf))
  | some (.tr o) => .ok o
  | _ => .no
def mvO (δ : List Sl) : Sum C Nat → R O
  | .inl c => toLf (c δ)
  | .inr i => mvI δ[i]?
def mvGo : List (Sum C Nat) → List Sl → R (List O)
  | [], _ => .ok []
  | m :: ms, δ => (mvO δ m).bind fun o => (mvGo ms δ).bind fun os => .ok (o :: os)
def mvIx : List (Sum C Nat) → List Nat
  | [] => []
  | .inl _ :: ms => mvIx ms
  | .inr i :: ms => i :: mvIx ms
def kRetX (δ : List Sl) : R (List O) → Fl
  | .ok os => if os.length ≤ sizeLine then .rtr (.tp os) else .no
  | .ex C => .ex C δ
  | .no => .no
def cRetX (ms : List (Sum C Nat)) : CS := fun δ => if (mvIx ms).Nodup then kRetX δ (mvGo ms δ) else .no
/-- the elements: e told by m -/
inductive Mvs (X : Cx) (W : WX) : List Expr → List (Sum C Nat) → Prop
  | nil : Mvs X W [] []
  | val {e : Expr} {es : List Expr} {c : C} {ms : List (Sum C Nat)} : SE X W e c → plainArg e = true → Mvs X W es ms → Mvs X W (e :: es) (.inl c :: ms)
  | mv {i : Nat} {x : Str} {p : Pos} {es : List Expr} {ms : List (Sum C Nat)} : X.N[i]? = some x → Vis X.env.scope x → (x == ("__debug__" : Str)) = false → (x == ("__classdict__" : Str)) = false → Mvs X W es ms → Mvs X W (.Name x p :: es) (.inr i :: ms)
theorem mvs_ok : ∀ {es : List Expr} {ms : List (Sum C Nat)}, Mvs X W es ms → ∃ t, PA X es t ∧ ∀ G0 G δ σ H0 H Q fp, Rel X.K G0 G δ σ H0 H → OwnF X.K G H0 H δ σ fp → (mvIx ms).Nodup → (match mvGo ms δ with
    | .ok os => ∀ A B vs f, Stp H0 H A B → OwA X.K A B vs os f → (∀ a ∈ f, ∃ j ∈ mvIx ms, a ∈ fp j) → Q vs B
    | .ex C => ∀ A B, Stp H0 H A B → W (.ref (He.ga X.K C)) none σ B
    | .no => False) → t σ H Q
  | _, _, .nil => ⟨_, pa_nil, fun G0 G δ σ H0 H Q fp r o nd po => po H0 H [] [] (Stp.refl r.same) .nil fun _ m => nomatch m⟩
  | _, _, .val (c := c) (ms := ms) h he hr => by
    obtain ⟨t, p, v⟩ := h
    obtain ⟨u, q, w⟩ := mvs_ok hr
    refine ⟨_, pa_cons p q (star_of he), fun G0 G δ σ H0 H Q fp r o nd po => ?_⟩
    have po' : match (toLf (c δ)).bind fun o => (mvGo ms δ).bind fun os => R.ok (o :: os) with
      | .ok os => ∀ A B vs f, Stp H0 H A B → OwA X.K A B vs os f → (∀ a ∈ f, ∃ j ∈ mvIx ms, a ∈ fp j) → Q vs B
      | .ex C => ∀ A B, Stp H0 H A B → W (.ref (He.ga X.K C)) none σ B
      | .no => False := po
    refine v G0 G δ σ H0 H _ r ?_
    cases e1 : c δ with
    | no => rw [e1] at po'; exact po'
    | ex C => rw [e1] at po'; exact po'
    | ok d =>
      rw [e1] at po'
      intro A B x s hx
      refine w G0 G δ σ A B _ fp (r.step s) (o.step s) nd ?_
      have po2 : match (mvGo ms δ).bind fun os => R.ok (O.lf d :: os) with
        | .ok os => ∀ A B vs f, Stp H0 H A B → OwA X.K A B vs os f → (∀ a ∈ f, ∃ j ∈ mvIx ms, a ∈ fp j) → Q vs B
        | .ex C => ∀ A B, Stp H0 H A B → W (.ref (He.ga X.K C)) none σ B
        | .no => False := po'
      cases e2 : mvGo ms δ with
      | no => rw [e2] at po2; exact po2
      | ex C => rw [e2] at po2; exact fun A2 B2 s2 => po2 A2 B2 (s.trans s2)
      | ok os =>
        rw [e2] at po2
        exact fun A2 B2 vs f s2 wa nf => po2 A2 B2 (x :: vs) ([] ++ f) (s.trans s2) (.cons (.lf (hx.mono s2.e0)) wa fun _ m => nomatch m) nf
  | _, _, .mv (i := i) (ms := ms) hN hv hd hcd hr => by
    obtain ⟨u, q, w⟩ := mvs_ok hr
    refine ⟨_, pa_cons (pe_var hN hv hd hcd) q (star_of rfl), fun G0 G δ σ H0 H Q fp r o nd po => ?_⟩
    have nd' := List.nodup_cons.mp (show (i :: mvIx ms).Nodup from nd)
    have po' : match (mvI δ[i]?).bind fun o => (mvGo ms δ).bind fun os => R.ok (o :: os) with
      | .ok os => ∀ A B vs f, Stp H0 H A B → OwA X.K A B vs os f → (∀ a ∈ f, ∃ j ∈ i :: mvIx ms, a ∈ fp j) → Q vs B
      | .ex C => ∀ A B, Stp H0 H A B → W (.ref (He.ga X.K C)) none σ B
      | .no => False := po
    have fin : ∀ (v : V) (o1 : O), σ[i]? = some (some v) → Ow X.K H0 H v o1 (fp i) → (match (mvGo ms δ).bind fun os => R.ok (o1 :: os) with
        | .ok os => ∀ A B vs f, Stp H0 H A B → OwA X.K A B vs os f → (∀ a ∈ f, ∃ j ∈ i :: mvIx ms, a ∈ fp j) → Q vs B
        | .ex C => ∀ A B, Stp H0 H A B → W (.ref (He.ga X.K C)) none σ B
        | .no => False) → ∃ v, σ[i]? = some (some v) ∧ u σ H fun xs H2 => Q (v :: xs) H2 := by
      intro v o1 hs wo po2
      refine ⟨v, hs, w G0 G δ σ H0 H _ fp r o nd'.2 ?_⟩
      cases e2 : mvGo ms δ with
      | no => rw [e2] at po2; exact po2
      | ex C => rw [e2] at po2; exact po2
      | ok os =>
        rw [e2] at po2
        intro A B vs f s wa nf
        refine po2 A B (v :: vs) (fp i ++ f) s (.cons (wo.mono s.e0 o1 fun a m u z => s.e a u z) wa fun a m m2 => ?_) fun a m => ?_
        · obtain ⟨j, hj, m3⟩ := nf a m2
          have := o.d i j a m m3
          subst this
          exact nd'.1 hj
        · rcases List.mem_append.mp m with m | m
          · exact ⟨i, List.mem_cons_self, m⟩
          · obtain ⟨j, hj, m3⟩ := nf a m
            exact ⟨j, List.mem_cons_of_mem _ hj, m3⟩
    have z := o.s i
    cases e : δ[i]? with
    | none => rw [e] at po'; exact po'.elim
    | some s =>
      rw [e] at po' z
      cases s with
      | ow ds =>
        obtain ⟨p, vs, hs, hf, hp, hr'⟩ := z
        refine fin _ (.ls (ds.map O.lf)) hs ?_ po'
        rw [hf]
        exact .ls hp (OwA.leaves hr') fun m => nomatch m
      | tr o1 =>
        obtain ⟨v, hs, wo⟩ := z
        exact fin v o1 hs wo po'
      | un => exact po'.elim
      | pu d => exact po'.elim
      | oo d => exact po'.elim
      | od d => exact po'.elim
      | nt d => exact po'.elim
      | os C fs d => exact po'.elim
theorem sr_retX {es : List Expr} {k : Nat} {pos : Pos} {ms : List (Sum C Nat)} (h : Mvs X W es ms) : SR X W (.Tuple es k pos) (cRetX ms) := by
  obtain ⟨t, p, v⟩ := mvs_ok h
  refine ⟨_, pe_tup p, fun G0 G δ σ H0 H E r po => ?_⟩
  have po' : PostS X.K W G0 G H0 E (if (mvIx ms).Nodup then kRetX δ (mvGo ms δ) else .no) := po
  split at po'
  · rename_i nd
    obtain ⟨fp, ow⟩ := r.own
    refine v G0 G δ σ H0 H _ fp r ow nd ?_
    cases e : mvGo ms δ with
    | no => rw [e] at po'; exact po'
    | ex C => rw [e] at po'; exact fun A B s => po' σ A B s.e0 (r.step s)
    | ok os =>
      rw [e] at po'
      have po2 : PostS X.K W G0 G H0 E (if os.length ≤ sizeLine then .rtr (.tp os) else .no) := po'
      intro A B vs f s wa nf
      split at po2
      · rename_i hz
        refine ⟨by rw [wa.length]; exact hz, fun n hn => ?_⟩
        have r1 := r.step s
        have st : Stp A B (upd A n (.tup vs)) (upd B n (.tup vs)) := Stp.new r1.same hn
        refine po2 _ _ _ (s.e0.trans st.e0) (r1.step st).st ⟨f, .tp upd_same (wa.mono st.e0 os fun a m u z => st.e a u z), fun a m => ?_⟩
        obtain ⟨j, _, m2⟩ := nf a m
        have o2 := (ow.step s).step st
        exact o2.n j a m2
      · exact po2.elim
  · exact po'.elim
end
end Dw
namespace Dw
open PySem PySem.Spec L2 PyProof.Rows
/-! ### own lists are looked at, and stay one's own: what comes out has no list in it -/
def kFz : R D → R D
  | .ok d => if d.flat = true then .ok d else .no
  | .ex C => .ex C
  | .no => .no
def jFz (c : C) (δ : List Sl) : R D → R D
  | .ok d => .ok d
  | .ex C => .ex C
  | .no => kFz (c (bor δ))
def cFz (c : C) : C := fun δ => jFz c δ (c δ)
def kFzN : R (List D) → R (List D)
  | .ok d => if D.flat.flats d = true then .ok d else .no
  | .ex C => .ex C
  | .no => .no
def jFzN (c : CA) (δ : List Sl) : R (List D) → R (List D)
  | .ok d => .ok d
  | .ex C => .ex C
  | .no => kFzN (c (bor δ))
def cFzN (c : CA) : CA := fun δ => jFzN c δ (c δ)
section
variable {X : Cx} {W : WX}
theorem se_fz {e : Expr} {c : C} (h : SE X W e c) : SE X W e (cFz c) := by
  obtain ⟨t, p, v⟩ := h
  refine ⟨t, p, fun G0 G δ σ H0 H Q r po => ?_⟩
  have po' : Post X.K W σ H0 H (SV X.K) (jFz c δ (c δ)) Q := po
  cases e : c δ with
  | ok d =>
    rw [e] at po'
    exact v G0 G δ σ H0 H Q r (by rw [e]; exact po')
  | ex C =>
    rw [e] at po'
    exact v G0 G δ σ H0 H Q r (by rw [e]; exact po')
  | no =>
    rw [e] at po'
    obtain ⟨J0, e0, rb, hl⟩ := r.bor
    refine v G0 G (bor δ) σ J0 H Q rb ?_
    have po2 : Post X.K W σ H0 H (SV X.K) (kFz (c (bor δ))) Q := po'
    cases e2 : c (bor δ) with
    | ok d =>
      rw [e2] at po2
      have po3 : Post X.K W σ H0 H (SV X.K) (if d.flat = true then .ok d else .no) Q := po2
      intro A B x s q
      split at po3
      · rename_i hf
        obtain ⟨H1, s1, cut, _⟩ := back r.same e0 hl s
        exact po3 H1 B x s1 (Dr.cut cut d hf q)
      · exact po3.elim
    | ex C =>
      rw [e2] at po2
      intro A B s
      obtain ⟨H1, s1, _, _⟩ := back r.same e0 hl s
      exact po2 H1 B s1
    | no => rw [e2] at po2; exact po2
theorem sn_fz {e : Expr} {c : CA} (h : SN X W e c) : SN X W e (cFzN c) := by
  obtain ⟨t, p, v⟩ := h
  refine ⟨t, p, fun G0 G δ σ H0 H Q r po => ?_⟩
  have po' : Post X.K W σ H0 H (SW X.K) (jFzN c δ (c δ)) Q := po
  cases e : c δ with
  | ok d =>
    rw [e] at po'
    exact v G0 G δ σ H0 H Q r (by rw [e]; exact po')
  | ex C =>
    rw [e] at po'
    exact v G0 G δ σ H0 H Q r (by rw [e]; exact po')
  | no =>
    rw [e] at po'
    obtain ⟨J0, e0, rb, hl⟩ := r.bor
    refine v G0 G (bor δ) σ J0 H Q rb ?_
    have po2 : Post X.K W σ H0 H (SW X.K) (kFzN (c (bor δ))) Q := po'
    cases e2 : c (bor δ) with
    | ok d =>
      rw [e2] at po2
      have po3 : Post X.K W σ H0 H (SW X.K) (if D.flat.flats d = true then .ok d else .no) Q := po2
      intro A B x s q
      split at po3
      · rename_i hf
        obtain ⟨H1, s1, cut, cn⟩ := back r.same e0 hl s
        obtain ⟨a, vs, rfl, n1, n2, hb, hr⟩ := q
        exact po3 H1 B _ s1 ⟨a, vs, rfl, n1, cn a n2, hb, DrAll.cut cut d hf hr⟩
      · exact po3.elim
    | ex C =>
      rw [e2] at po2
      intro A B s
      obtain ⟨H1, s1, _, _⟩ := back r.same e0 hl s
      exact po2 H1 B s1
    | no => rw [e2] at po2; exact po2
end
end Dw
namespace Dw
open PySem L2 PyProof.Rows
/-! ### what the compiler knows -/
structure Ctx where
  N : List Str
  F : Str → Nat → Option (List D → Rs)
  Gc : Str → Option D
  isi : Str → Option (D → Option Bool)
  M : List Str
  exs : List Str
  exm : Str → Option (Str → Option Bool)
  L : List Str
  O : List Str := []
  Dn : List Str := []
  Tn : List Str := []
  Z : List Str := []
  st : Bool := false
  Fo : Str → Str → Bool := fun _ _ => false
  Mt : Str → Nat → Option (Str → Option (List D → Rs)) := fun _ _ => none
  Mk : Str → Nat → Option Ini := fun _ _ => none
  Ib : Str → Nat → Option Ini := fun _ _ => none
  Kt : Str → Option (Str → Option D) := fun _ => none
  i2 : Str → Str → Option ((D → Option Bool) × (D → Option Bool)) := fun _ _ => none
def findIx : List Str → Str → Option Nat
  | [], _ => none
  | y :: ys, x => if y = x then some 0 else (findIx ys x).map (· + 1)
theorem findIx_ok : ∀ {N : List Str} {x : Str} {i : Nat}, findIx N x = some i → N[i]? = some x
  | [], _, _, h => by cases h
  | y :: ys, x, i, h => by
    unfold findIx at h
    split at h
    · rename_i e
      cases h
      rw [e]
      rfl
    · cases e : findIx ys x with
      | none => rw [e] at h; cases h
      | some j =>
        rw [e] at h
        cases h
        show ys[j]? = some x
        exact findIx_ok e
def okName (x : Str) : Bool := !(x == ("__debug__" : Str)) && !(x == ("__classdict__" : Str))
theorem okName_ok {x : Str} (h : okName x = true) : (x == ("__debug__" : Str)) = false ∧ (x == ("__classdict__" : Str)) = false := by
  have h' := Bool.and_eq_true_iff.mp (show (!(x == ("__debug__" : Str)) && !(x == ("__classdict__" : Str))) = true from h)
  exact ⟨by simpa using h'.1, by simpa using h'.2⟩
def isVis (sc : Scope) (x : Str) : Bool := match sc.names.lookup x with
  | some .local => true
  | some .cell => true
  | some .free => true
  | _ => false
def isLoc (sc : Scope) (x : Str) : Bool := match sc.names.lookup x with
  | some .local => true
  | some .cell => true
  | _ => false
def isLc (sc : Scope) (x : Str) : Bool := match sc.names.lookup x with
  | some .local => true
  | _ => false
def isGl (sc : Scope) (x : Str) : Bool := match sc.names.lookup x with
  | some .globalImplicit => true
  | _ => false
theorem isVis_ok {sc : Scope} {x : Str} (h : isVis sc x = true) : Vis sc x := by
  unfold isVis at h
  split at h
  · exact .inl (by assumption)
  · exact .inr (.inl (by assumption))
  · exact .inr (.inr (by assumption))
  · cases h
theorem isLoc_ok {sc : Scope} {x : Str} (h : isLoc sc x = true) : L2.Loc sc x := by
  unfold isLoc at h
  split at h
  · exact .inl (by assumption)
  · exact .inr (by assumption)
  · cases h
theorem isLc_ok {sc : Scope} {x : Str} (h : isLc sc x = true) : sc.names.lookup x = some .local := by
  unfold isLc at h
  split at h
  · assumption
  · cases h
theorem isGl_ok {sc : Scope} {x : Str} (h : isGl sc x = true) : sc.names.lookup x = some .globalImplicit := by
  unfold isGl at h
  split at h
  · assumption
  · cases h
def slot (Γ : Ctx) (sc : Scope) (x : Str) : Option Nat := if (isVis sc x && okName x) = true then findIx Γ.N x else none
def slotL (Γ : Ctx) (sc : Scope) (x : Str) : Option Nat := if (isLoc sc x && okName x) = true then findIx Γ.N x else none
/-- built-in names that no law's module binds -/
def blts : List Str := ["len", "abs", "max", "min", "sum", "all", "any", "int", "str", "tuple", "list", "isinstance", "range", "enumerate", "bool", "dict", "repr", "zip", "set", "sorted"]
/-- what is known of classes -/
structure ObK (P : Program) (w : World) (K : PySem.W.Frag) (mg : Str → Option Value) (base : Heap) (k : Nat) (Γ : Ctx) : Prop where
  fo : ClF K Γ.Fo
  mt : ∀ m n tab, Γ.Mt m n = some tab → MtK P w K mg base k m n tab
  mkr : ∀ x n ini, Γ.Mk x n = some ini → ∃ j, j + 1 ≤ k ∧ MkK P w K mg base j x n ini
  ib : ∀ x n ini, Γ.Ib x n = some ini → IbK P w K mg base k x n ini
  kt : ∀ x tab, Γ.Kt x = some tab → KtK K w mg x tab
  i2 : ∀ x y f h, Γ.i2 x y = some (f, h) → (x == ("__debug__" : Str)) = false ∧ (y == ("__debug__" : Str)) = false ∧ ∃ v u v' u', mg x = some u ∧ RelV v u ∧ ClsV v u ∧ mg y = some u' ∧ RelV v' u' ∧ ClsV v' u' ∧ Is2 K u u' f h
/-- a text without classes -/
theorem obK_no {P : Program} {w : World} {K : PySem.W.Frag} {mg : Str → Option Value} {base : Heap} {k : Nat} {Γ : Ctx} (h1 : ∀ C f, Γ.Fo C f = false) (h2 : ∀ m n, Γ.Mt m n = none) (h3 : ∀ x n, Γ.Mk x n = none) (h4 : ∀ x n, Γ.Ib x n = none) (h5 : ∀ x, Γ.Kt x = none) (h6 : ∀ x y, Γ.i2 x y = none) : ObK P w K mg base k Γ where
  fo := ⟨fun C f h => by rw [h1] at h; cases h⟩
  mt := fun m n tab h => by rw [h2] at h; cases h
  mkr := fun x n ini h => by rw [h3] at h; cases h
  ib := fun x n ini h => by rw [h4] at h; cases h
  kt := fun x tab h => by rw [h5] at h; cases h
  i2 := fun x y f g h => by rw [h6] at h; cases h
structure Gd (k : Nat) (Γ : Ctx) (sc : Scope) (W : WX) (X : Cx) : Prop where
  N : X.N = Γ.N
  nd : X.N.Nodup
  hsc : ∀ x kd, sc.names.lookup x = some kd → ∃ kd', X.env.scope.names.lookup x = some kd' ∧ (kd' = kd ∨ (kd = .free ∧ kd' = .cell))
  kind : sc.kind = .function
  room : Room k X.A
  gu : X.A.guards = some []
  calm : X.calm = true
  tk : Takes X W
  po : PassesOwn (model X.prog X.w) X.A X.env X.xe
  fnc : ∀ x, sc.names.lookup x = some .cell → X.fn x = true
  fns : ∀ x m sem, Γ.F x m = some sem → FK X.prog X.w X.K X.mg X.base k x m sem
  bl : ∀ x ∈ blts, X.mg x = none
  cn : ∀ x d, Γ.Gc x = some d → (x == ("__debug__" : Str)) = false ∧ ∃ v u, X.mg x = some u ∧ RelV v u ∧ ∀ H, Dr X.K H v d
  cl : ∀ x f, Γ.isi x = some f → (x == ("__debug__" : Str)) = false ∧ ∃ v u, (X.mg x = some u ∨ (X.mg x = none ∧ bootBuiltins x = some u ∧ x ≠ "__name__")) ∧ RelV v u ∧ ClsV v u ∧ IsOf X.K u f
  rz : ∀ x ∈ Γ.exs, RzK X.K X.mg x
  xm : ∀ x m, Γ.exm x = some m → (x == ("__debug__" : Str)) = false ∧ ∃ c, X.mg x = some c ∧ ∀ C b, m C = some b → PySem.W.exmOne X.K (.ref (He.ga X.K C)) c = some b
  ob : ObK X.prog X.w X.K X.mg X.base k Γ
section
variable {k : Nat} {Γ : Ctx} {sc : Scope} {W : WX} {X : Cx} (g : Gd k Γ sc W X)
include g
theorem Gd.vis {x : Str} (h : isVis sc x = true) : Vis X.env.scope x := by
  rcases isVis_ok h with h | h | h
  · obtain ⟨kd, e, z | ⟨z, _⟩⟩ := g.hsc x _ h
    · rw [z] at e; exact .inl e
    · cases z
  · obtain ⟨kd, e, z | ⟨z, _⟩⟩ := g.hsc x _ h
    · rw [z] at e; exact .inr (.inl e)
    · cases z
  · obtain ⟨kd, e, z | ⟨_, z⟩⟩ := g.hsc x _ h
    · rw [z] at e; exact .inr (.inr e)
    · rw [z] at e; exact .inr (.inl e)
theorem Gd.lc {x : Str} (h : sc.names.lookup x = some .local) : X.env.scope.names.lookup x = some .local := by
  obtain ⟨kd, e, z | ⟨z, _⟩⟩ := g.hsc x _ h
  · rw [z] at e; exact e
  · cases z
theorem Gd.cell {x : Str} (h : sc.names.lookup x = some .cell) : X.env.scope.names.lookup x = some .cell := by
  obtain ⟨kd, e, z | ⟨z, _⟩⟩ := g.hsc x _ h
  · rw [z] at e; exact e
  · cases z
theorem Gd.slot {x : Str} {i : Nat} (h : Dw.slot Γ sc x = some i) : X.N[i]? = some x ∧ Vis X.env.scope x ∧ (x == ("__debug__" : Str)) = false ∧ (x == ("__classdict__" : Str)) = false := by
  unfold Dw.slot at h
  split at h
  · rename_i c
    have c' := Bool.and_eq_true_iff.mp c
    have o := okName_ok c'.2
    rw [g.N]
    exact ⟨findIx_ok h, g.vis c'.1, o.1, o.2⟩
  · cases h
theorem Gd.slotL {x : Str} {i : Nat} (h : Dw.slotL Γ sc x = some i) : X.N[i]? = some x ∧ L2.Loc X.env.scope x ∧ (X.fn x = true ∨ X.env.scope.names.lookup x = some .local) := by
  unfold Dw.slotL at h
  split at h
  · rename_i c
    have c' := Bool.and_eq_true_iff.mp c
    rw [g.N]
    rcases isLoc_ok c'.1 with l | l
    · exact ⟨findIx_ok h, .inl (g.lc l), .inr (g.lc l)⟩
    · exact ⟨findIx_ok h, .inr (g.cell l), .inl (g.fnc x l)⟩
  · cases h
theorem Gd.gl {x : Str} (h : isGl sc x = true) : Gl X x := by
  obtain ⟨kd, e, z | ⟨z, _⟩⟩ := g.hsc x _ (isGl_ok h)
  · rw [z] at e; exact e
  · cases z
theorem Gd.blkOk {scope : Scope} {own : List (Str × Nat)} (ok : BlkOk Γ.N sc scope own) : BlkOk X.N X.env.scope scope own where
  kind := ok.kind
  uniq := ok.uniq
  ix := by rw [g.N]; exact ok.ix
  free := fun y hy e => by
    rcases ok.free y hy e with h | h
    · exact .inl (g.cell h)
    · obtain ⟨kd, e, z | ⟨_, z⟩⟩ := g.hsc _ _ h
      · rw [z] at e; exact .inr e
      · rw [z] at e; exact .inl e
  own := by rw [g.N]; exact ok.own
end
/-! ### the compiler -/
structure Cp where
  e : Expr → C
  n : Expr → CA
  t : Expr → CB
  i : Expr → Expr → CA
  g : Expr → CT × List Nat
structure Ok (X : Cx) (W : WX) (q : Cp) : Prop where
  e : ∀ e, SE X W e (q.e e)
  n : ∀ e, SN X W e (q.n e)
  t : ∀ e, ST X W e (q.t e)
  i : ∀ tg it, SI X W tg it (q.i tg it)
  g : ∀ tg, SG X tg (q.g tg).1 (q.g tg).2
theorem all2_map {α β : Type} {P : α → β → Prop} {f : α → β} (h : ∀ a, P a (f a)) : ∀ as : List α, All2 P as (as.map f)
  | [] => .nil
  | a :: as => .cons (h a) (all2_map h as)
def binD : Operator → Option (D → D → R D)
  | .Add => some dAddA
  | .Sub => some dSub
  | .Mult => some dMul
  | .FloorDiv => some dDiv
  | .Mod => some dMod
  | .Pow => some dPow
  | .RShift => some dShr
  | .BitAnd => some dAnd
  | _ => none
theorem binD_ok {X : Cx} {W : WX} {op : Operator} {f : D → D → R D} (h : binD op = some f) : ∃ r, OpR X (binaryOp op) r ∧ OpD X.K W r f := by
  cases op <;> cases h
  · exact ⟨_, op_addAll, opd_addA⟩
  · exact ⟨_, op_subC, opd_sub⟩
  · exact ⟨_, OpR.or op_mulW op_mulS, opd_mul⟩
  · exact ⟨_, op_modN, opd_mod⟩
  · exact ⟨_, op_pow, opd_pow⟩
  · exact ⟨_, op_shr, opd_shr⟩
  · exact ⟨_, op_andC, opd_and⟩
  · exact ⟨_, op_divC, opd_div⟩
def cmpD : CmpOp → Option (D → D → R D)
  | .Eq => some dEq
  | .NotEq => some dNe
  | .Lt => some dLt
  | .LtE => some dLe
  | .Gt => some dGt
  | .GtE => some dGe
  | .Is => some dIs
  | .IsNot => some dNot
  | .In => some dIn
  | .NotIn => some dNin
theorem un65 {k : Nat} {A : Around} (r : Room k A) : A.units + 65 < cLine := by have := r.un; omega
theorem cmpD_ok {X : Cx} {W : WX} {op : CmpOp} {f : D → D → R D} (hu5 : X.A.units + 65 < cLine) (h : cmpD op = some f) : ∃ r, OpR X (compareOp op) r ∧ OpD X.K W r f := by
  have hu : X.A.units + 64 < cLine := by omega
  cases op <;> cases h
  · exact ⟨_, op_eqAll hu, opd_eq⟩
  · exact ⟨_, op_neAll hu, opd_ne⟩
  · exact ⟨_, op_lt, opd_cmp⟩
  · exact ⟨_, op_le, opd_cmp⟩
  · exact ⟨_, op_gt, opd_cmp⟩
  · exact ⟨_, op_ge, opd_cmp⟩
  · exact ⟨_, op_isAll, opd_is⟩
  · exact ⟨_, op_notAll, opd_not⟩
  · exact ⟨_, op_inAll hu5, opd_in⟩
  · exact ⟨_, op_ninAll hu5, opd_nin⟩
def vblt (x : Str) : Option (List D → R D) :=
  if x = "len" then some dLen else if x = "abs" then some dAbs else if x = "max" then some dMax else if x = "min" then some dMin else if x = "sum" then some dSum else
  if x = "all" then some dAll else if x = "any" then some dAny else if x = "int" then some dInt1 else if x = "str" then some dStr1 else if x = "tuple" then some dTupOf else if x = "repr" then some dRepr else if x = "dict" then some dDictOf else none
def nblt (x : Str) : Option (List D → R (List D)) := if x = "list" then some dListOf else none
section
variable {X : Cx} {W : WX} {q : Cp} {k : Nat} {Γ : Ctx} {sc : Scope}
theorem vblt_ok {x : Str} {f : List D → R D} {e : Expr} {es : List Expr} {p pos : Pos} {ca : CA} (g : Gd k Γ sc W X) (h : vblt x = some f) (hg : isGl sc x = true) (ha : SL X W (e :: es) ca) (h1 : plainArg e = true) (h2 : es.all plainArg = true) : SE X W (.Call (.Name x p) (e :: es) [] pos) (cApp f ca) := by
  unfold vblt at h
  split at h
  · subst x; cases h
    exact se_blt call_len cd_len (g.gl hg) (g.bl _ (by decide +kernel)) (by decide +kernel) (by decide) (by decide) ha h1 h2
  split at h
  · subst x; cases h
    exact se_blt call_abs cd_abs (g.gl hg) (g.bl _ (by decide +kernel)) (by decide +kernel) (by decide) (by decide) ha h1 h2
  split at h
  · subst x; cases h
    exact se_blt (CallR.or (call_max2 g.calm) (cr_max g.calm)) cd_max (g.gl hg) (g.bl _ (by decide +kernel)) (by decide +kernel) (by decide) (by decide) ha h1 h2
  split at h
  · subst x; cases h
    exact se_blt (CallR.or (call_min2 g.calm) (cr_min g.calm)) cd_min (g.gl hg) (g.bl _ (by decide +kernel)) (by decide +kernel) (by decide) (by decide) ha h1 h2
  split at h
  · subst x; cases h
    exact se_blt (cr_sum g.calm) cd_sum (g.gl hg) (g.bl _ (by decide +kernel)) (by decide +kernel) (by decide) (by decide) ha h1 h2
  split at h
  · subst x; cases h
    exact se_blt (cr_all g.calm) (cd_allOf (f := fun bs => bs.all id)) (g.gl hg) (g.bl _ (by decide +kernel)) (by decide +kernel) (by decide) (by decide) ha h1 h2
  split at h
  · subst x; cases h
    exact se_blt (cr_any g.calm) (cd_allOf (f := fun bs => bs.any id)) (g.gl hg) (g.bl _ (by decide +kernel)) (by decide +kernel) (by decide) (by decide) ha h1 h2
  split at h
  · subst x; cases h
    exact se_bty (CallR.or call_int1 call_int_str) cd_int (g.gl hg) (g.bl _ (by decide +kernel)) (by decide +kernel) (by decide) (by decide) ha h1 h2
  split at h
  · subst x; cases h
    exact se_bty call_str_int cd_str (g.gl hg) (g.bl _ (by decide +kernel)) (by decide +kernel) (by decide) (by decide) ha h1 h2
  split at h
  · subst x; cases h
    exact se_bty call_tuple_of cd_tuple (g.gl hg) (g.bl _ (by decide +kernel)) (by decide +kernel) (by decide) (by decide) ha h1 h2
  split at h
  · subst x; cases h
    exact se_blt (call_repr g.gu (by have := g.room.un; omega)) cd_repr (g.gl hg) (g.bl _ (by decide +kernel)) (by decide +kernel) (by decide) (by decide) ha h1 h2
  split at h
  · subst x; cases h
    exact se_bty (call_dictP g.calm) cd_dict (g.gl hg) (g.bl _ (by decide +kernel)) (by decide +kernel) (by decide) (by decide) ha h1 h2
  · cases h
theorem nblt_ok {x : Str} {f : List D → R (List D)} {e : Expr} {es : List Expr} {p pos : Pos} {ca : CA} (g : Gd k Γ sc W X) (h : nblt x = some f) (hg : isGl sc x = true) (ha : SL X W (e :: es) ca) (h1 : plainArg e = true) (h2 : es.all plainArg = true) : SN X W (.Call (.Name x p) (e :: es) [] pos) (cApp f ca) := by
  unfold nblt at h
  split at h
  · subst x; cases h
    exact sn_bty call_list_of cn_list (g.gl hg) (g.bl _ (by decide +kernel)) (by decide +kernel) (by decide) (by decide) ha h1 h2
  · cases h
end
def bty (x : Str) : Option Ty :=
  if x = "int" then some .int else if x = "bool" then some .bool else if x = "str" then some .str else if x = "tuple" then some .tuple else if x = "list" then some .list else if x = "dict" then some .dict else none
/-- isinstance's class: a built-in, an own one -/
def clsF (Γ : Ctx) (sc : Scope) : Expr → Option (D → Option Bool)
  | .Name x _ => if isGl sc x = true then (match bty x with
    | some t => some (isBt t)
    | none => Γ.isi x) else none
  | _ => none
theorem bty_ok {x : Str} {t : Ty} (h : bty x = some t) : x ∈ blts ∧ bootBuiltins x = some (.type t.s) ∧ x ≠ "__name__" ∧ (x == ("__debug__" : Str)) = false := by
  unfold bty at h
  split at h
  · subst x; cases h; decide +kernel
  split at h
  · subst x; cases h; decide +kernel
  split at h
  · subst x; cases h; decide +kernel
  split at h
  · subst x; cases h; decide +kernel
  split at h
  · subst x; cases h; decide +kernel
  split at h
  · subst x; cases h; decide +kernel
  · cases h
theorem clsF_ok {X : Cx} {W : WX} {k : Nat} {Γ : Ctx} {sc : Scope} (g : Gd k Γ sc W X) {e : Expr} {f : D → Option Bool} (h : clsF Γ sc e = some f) : ∃ v u, PE X e (tC v) ∧ ClsV v u ∧ IsOf X.K u f ∧ plainArg e = true := by
  unfold clsF at h
  split at h
  · split at h
    · rename_i hg
      split at h
      · rename_i t ht
        cases h
        obtain ⟨b1, b2, b3, b4⟩ := bty_ok ht
        exact ⟨.ty t.s, .type t.s, pe_bltn (g.gl hg) (g.bl _ b1) b2 rfl b3 b4, .ty _, isOf_bt t, rfl⟩
      · obtain ⟨db, v, u, hm, rv, cv, io⟩ := g.cl _ _ h
        rcases hm with hm | ⟨h1, h2, h3⟩
        · exact ⟨v, u, pe_glob (g.gl hg) hm rv db, cv, io, rfl⟩
        · exact ⟨v, u, pe_bltn (g.gl hg) h1 h2 rv h3 db, cv, io, rfl⟩
    · cases h
  · cases h
/-! calls -/
/-- the argument of len(set(..)) -/
def setArg (sc : Scope) : Expr → Option Expr
  | .Call (.Name y _) [a] [] _ => if (isGl sc y && (decide (y = "set") && plainArg a)) = true then some a else none
  | _ => none
/-- two classes in a tuple -/
def cls2 (Γ : Ctx) (sc : Scope) : Expr → Option ((D → Option Bool) × (D → Option Bool))
  | .Tuple [.Name a _, .Name b _] _ _ => if (isGl sc a && isGl sc b) = true then Γ.i2 a b else none
  | _ => none
/-- the argument of list(range(..)), sorted(set(..)), and what is made of it -/
def rngArg (sc : Scope) : Str → List Expr → Option ((D → R (List D)) × Expr)
  | x, [.Call (.Name y _) [a] [] _] => if (decide (x = "list") && (isGl sc y && (decide (y = "range") && plainArg a))) = true then some (dRgN, a) else if (decide (x = "sorted") && (isGl sc y && (decide (y = "set") && plainArg a))) = true then some (dSortSet, a) else none
  | _, _ => none
/-- a list of one's own that is looked at and stays one's own -/
def zName (Γ : Ctx) : Expr → Bool
  | .Name x _ => Γ.Z.contains x
  | _ => false
def zGs (Γ : Ctx) : List Comprehension → Bool
  | [⟨_, iter, _, _⟩] => zName Γ iter
  | _ => false
def eMake (Γ : Ctx) (q : Cp) (x : Str) (es : List Expr) : C := match Γ.F x es.length with
  | some sem => cCall es.length sem (cArgs q.e es)
  | none => (match Γ.Mk x es.length with
    | some ini => cMake x es.length ini (cArgs q.e es)
    | none => cNo)
def eCall (Γ : Ctx) (sc : Scope) (q : Cp) (x : Str) (args : List Expr) : C := match rngArg sc x args with
  | some b => if isGl sc x = true then cL (cUn b.1 (q.e b.2)) else cNo
  | none => if (isGl sc x && args.all plainArg) = true then (match args with
    | [] => cNo
    | [a, c] => if x = "isinstance" then (match clsF Γ sc c with
        | some f => cUn (dIsi f) (q.e a)
        | none => (match cls2 Γ sc c with
          | some f => cUn (dIsi (orIs f.1 f.2)) (q.e a)
          | none => cNo))
      else (match vblt x with
        | some f => cApp f (cArgs q.e [a, c])
        | none => eMake Γ q x [a, c])
    | [a] => if x = "len" then (match setArg sc a with
        | some b => cUn dLenSet (q.e b)
        | none => if zName Γ a = true then cFz (cApp dLen (cArgs q.e [a])) else cApp dLen (cArgs q.e [a]))
      else (match vblt x with
        | some f => cApp f (cArgs q.e [a])
        | none => (match nblt x with
          | some f => cL (cApp f (cArgs q.e [a]))
          | none => eMake Γ q x [a]))
    | es => (match vblt x with
      | some f => cApp f (cArgs q.e es)
      | none => (match nblt x with
        | some f => cL (cApp f (cArgs q.e es))
        | none => eMake Γ q x es)))
  else cNo
def nCall (Γ : Ctx) (sc : Scope) (q : Cp) (x : Str) (args : List Expr) : CA := match rngArg sc x args with
  | some b => if isGl sc x = true then cUn b.1 (q.e b.2) else cNoA
  | none => if (isGl sc x && args.all plainArg) = true then (match args with
    | [] => cNoA
    | es => (match nblt x with
      | some f => cApp f (cArgs q.e es)
      | none => (match Γ.F x es.length with
        | some sem => cCallN es.length sem (cArgs q.e es)
        | none => cNoA)))
  else cNoA
section
variable {X : Cx} {W : WX} {q : Cp} {k : Nat} {Γ : Ctx} {sc : Scope} (g : Gd k Γ sc W X) (o : Ok X W q)
include g o
theorem eMake_ok {x : Str} {a : Expr} {es : List Expr} {p pos : Pos} (hg : isGl sc x = true) (h : (a :: es).all plainArg = true) : SE X W (.Call (.Name x p) (a :: es) [] pos) (eMake Γ q x (a :: es)) := by
  have h1 := Bool.and_eq_true_iff.mp (show (plainArg a && es.all plainArg) = true from h)
  have sl := sl_args o.e h
  unfold eMake
  split
  · rename_i sem hs
    exact se_call (g.fns _ _ _ hs) ⟨g.room, g.gu⟩ (g.gl hg) g.tk sl h1.1 h1.2
  · split
    · rename_i ini hi
      obtain ⟨j, hj, M⟩ := g.ob.mkr _ _ _ hi
      exact se_make M ⟨g.room.mono hj, g.gu⟩ (g.gl hg) g.tk sl h1.1 h1.2
    · exact se_none
theorem rngArg_ok {x : Str} {args : List Expr} {b : (D → R (List D)) × Expr} {p pos : Pos} (h : rngArg sc x args = some b) (hg : isGl sc x = true) : SN X W (.Call (.Name x p) args [] pos) (cUn b.1 (q.e b.2)) := by
  unfold rngArg at h
  split at h
  · split at h
    · rename_i c
      cases h
      have c1 := Bool.and_eq_true_iff.mp c
      have c2 := Bool.and_eq_true_iff.mp c1.2
      have c3 := Bool.and_eq_true_iff.mp c2.2
      have e1 := of_decide_eq_true c1.1
      have e2 := of_decide_eq_true c3.1
      subst e1 e2
      exact sn_listRg g.calm (g.gl hg) (g.bl _ (by decide +kernel)) (g.gl c2.1) (g.bl _ (by decide +kernel)) (o.e _) c3.2
    · split at h
      · rename_i c
        cases h
        have c1 := Bool.and_eq_true_iff.mp c
        have c2 := Bool.and_eq_true_iff.mp c1.2
        have c3 := Bool.and_eq_true_iff.mp c2.2
        have e1 := of_decide_eq_true c1.1
        have e2 := of_decide_eq_true c3.1
        subst e1 e2
        exact sn_sortSet g.calm (g.gl hg) (g.bl _ (by decide +kernel)) (g.gl c2.1) (g.bl _ (by decide +kernel)) (o.e _) c3.2
      · cases h
  · cases h
theorem eCall_ok {x : Str} {args : List Expr} {p pos : Pos} : SE X W (.Call (.Name x p) args [] pos) (eCall Γ sc q x args) := by
  unfold eCall
  split
  · rename_i b hb
    split
    · rename_i hg
      exact se_of_sn (rngArg_ok g o hb hg)
    · exact se_none
  rename_i hnone
  clear hnone
  split
  · rename_i c
    have c' := Bool.and_eq_true_iff.mp c
    have hg := c'.1
    split
    · exact se_none
    · rename_i a b
      have h1 := Bool.and_eq_true_iff.mp (show (plainArg a && [b].all plainArg) = true from c'.2)
      have sl := sl_args o.e c'.2
      split
      · rename_i ex
        split
        · rename_i f hf
          obtain ⟨v, u, pc, cv, io, pl⟩ := clsF_ok g hf
          subst ex
          exact se_isi (g.gl hg) (g.bl _ (by decide +kernel)) pc pl cv io (o.e a) h1.1
        · split
          · rename_i f hf
            subst ex
            unfold cls2 at hf
            split at hf
            · rename_i y _ z _ _ _
              split at hf
              · rename_i c2
                have c3 := Bool.and_eq_true_iff.mp c2
                obtain ⟨f1, f2⟩ := f
                obtain ⟨d1, d2, v, u, v', u', m1, r1, k1, m2, r2, k2, i2⟩ := g.ob.i2 _ _ _ _ hf
                exact se_isi2 (g.gl hg) (g.bl _ (by decide +kernel)) (pe_glob (g.gl c3.1) m1 r1 d1) (pe_glob (g.gl c3.2) m2 r2 d2) rfl rfl k1 k2 i2 (o.e a) h1.1
              · cases hf
            · cases hf
          · exact se_none
      · split
        · rename_i f hf
          exact vblt_ok g hf hg sl h1.1 h1.2
        · exact eMake_ok g o hg c'.2
    · rename_i a
      have h1 := Bool.and_eq_true_iff.mp (show (plainArg a && [].all plainArg) = true from c'.2)
      have sl := sl_args o.e c'.2
      split
      · rename_i ex
        subst ex
        split
        · rename_i b hb
          unfold setArg at hb
          split at hb
          · split at hb
            · rename_i c2
              cases hb
              have c3 := Bool.and_eq_true_iff.mp c2
              have c4 := Bool.and_eq_true_iff.mp c3.2
              have ey := of_decide_eq_true c4.1
              subst ey
              exact se_lenSet g.calm (g.gl hg) (g.bl _ (by decide +kernel)) (g.gl c3.1) (g.bl _ (by decide +kernel)) (o.e _) c4.2
            · cases hb
          · cases hb
        · split
          · exact se_fz (vblt_ok g rfl hg sl h1.1 h1.2)
          · exact vblt_ok g rfl hg sl h1.1 h1.2
      · split
        · rename_i f hf
          exact vblt_ok g hf hg sl h1.1 h1.2
        · split
          · rename_i f hf
            exact se_of_sn (nblt_ok g hf hg sl h1.1 h1.2)
          · exact eMake_ok g o hg c'.2
    · cases args with
      | nil => exact absurd rfl (by assumption)
      | cons a es =>
        have h1 := Bool.and_eq_true_iff.mp (show (plainArg a && es.all plainArg) = true from c'.2)
        have sl := sl_args o.e c'.2
        split
        · rename_i f hf
          exact vblt_ok g hf hg sl h1.1 h1.2
        · split
          · rename_i f hf
            exact se_of_sn (nblt_ok g hf hg sl h1.1 h1.2)
          · exact eMake_ok g o hg c'.2
  · exact se_none
theorem nCall_ok {x : Str} {args : List Expr} {p pos : Pos} : SN X W (.Call (.Name x p) args [] pos) (nCall Γ sc q x args) := by
  unfold nCall
  split
  · rename_i b hb
    split
    · rename_i hg
      exact rngArg_ok g o hb hg
    · exact sn_none
  rename_i hnone
  clear hnone
  split
  · rename_i c
    have c' := Bool.and_eq_true_iff.mp c
    have hg := c'.1
    cases args with
    | nil => exact sn_none
    | cons a es =>
      have h1 := Bool.and_eq_true_iff.mp (show (plainArg a && es.all plainArg) = true from c'.2)
      have sl := sl_args o.e c'.2
      dsimp only
      split
      · rename_i f hf
        exact nblt_ok g hf hg sl h1.1 h1.2
      · split
        · rename_i sem hs
          exact sn_call (g.fns _ _ _ hs) ⟨g.room, g.gu⟩ (g.gl hg) g.tk sl h1.1 h1.2
        · exact sn_none
  · exact sn_none
end
end Dw
namespace Dw
open PySem L2 PyProof.Rows
/-! ### comprehensions in a context -/
def cTrue : CB := fun _ => .ok true
def ownOf (Γ : Ctx) : Expr → Option (List (Str × Nat))
  | .Name x _ => (match findIx Γ.N x with
    | some i => some [(x, i)]
    | none => none)
  | .Tuple es _ _ => es.foldr (fun e r => match e, r with
    | .Name x _, some l => (match findIx Γ.N x with
      | some i => some ((x, i) :: l)
      | none => none)
    | _, _ => none) (some [])
  | _ => none
def subset (a b : List Nat) : Bool := a.all fun i => b.contains i
def lcTest (q : Cp) : List Expr → Option CB
  | [] => some cTrue
  | [c] => some (q.t c)
  | _ => none
def foldOk : Expr → Bool
  | .Set _ _ _ => false
  | _ => true
theorem fold_of {e : Expr} {env : Env} (h : foldOk e = true) : ∀ x, foldedSetIterable e env x = pure x := by
  intro x
  cases e <;> first | rfl | cases h
/-- q: the block's compiler; p: that of the context around -/
def nLc (Γ : Ctx) (sc : Scope) (p q : Cp) (elt tg iter : Expr) (ifs : List Expr) (scope : Scope) : CA := match ownOf Γ tg, lcTest q ifs with
  | some own, some ct => if (blkC Γ.N sc scope own && (subset (q.g tg).2 (own.map (·.2)) && foldOk iter)) = true then cLc (p.i tg iter) (q.g tg).1 ct (q.e elt) (own.map (·.2)) else cNoA
  | _, _ => cNoA
theorem lookup_re {env : Env} {x : Str} {kd : NameKind} : ∀ {names : List (Str × NameKind)}, names.lookup x = some kd →
    ∃ kd', (names.map fun (n, k) => if (k == NameKind.free && env.scope.kind == .function && env.kindOf n == some .cell) then (n, NameKind.cell) else (n, k)).lookup x = some kd' ∧ (kd' = kd ∨ (kd = .free ∧ kd' = .cell))
  | [], h => by cases h
  | (n, k) :: r, h => by
    rw [List.map_cons, List.lookup_cons] at *
    cases e : x == n with
    | true =>
      rw [e] at h
      have hk : k = kd := Option.some.inj h
      subst hk
      by_cases c : (k == NameKind.free && env.scope.kind == .function && env.kindOf n == some .cell) = true
      · refine ⟨.cell, ?_, .inr ⟨?_, rfl⟩⟩
        · simp [c, e]
        · have z := (Bool.and_eq_true_iff.mp (Bool.and_eq_true_iff.mp c).1).1
          exact eq_of_beq z
      · refine ⟨k, ?_, .inl rfl⟩
        simp [c, e]
    | false =>
      rw [e] at h
      obtain ⟨kd', h1, h2⟩ := lookup_re (env := env) (names := r) h
      refine ⟨kd', ?_, h2⟩
      by_cases c : (k == NameKind.free && env.scope.kind == .function && env.kindOf n == some .cell) = true
      · rw [if_pos c, e]
        exact h1
      · rw [if_neg c, e]
        exact h1
section
variable {X : Cx} {W : WX} {p q : Cp} {k : Nat} {Γ : Ctx} {sc : Scope}
theorem Gd.blk (g : Gd k Γ sc W X) {scope : Scope} {own : List (Str × Nat)} (ok : BlkOk Γ.N sc scope own) (s : Shared) (H : Hp) (cl : List (Str × Addr)) (C : Addr) (fp : List Addr) : Gd k Γ scope W0 (X.blk s H scope (compEnvC scope cl C X.env) fp) where
  N := g.N
  nd := g.nd
  hsc := fun x kd h => lookup_re h
  kind := ok.kind
  room := g.room
  gu := g.gu
  calm := g.calm
  tk := takes0
  po := PassesOwn.never
  fnc := fun x h => by
    show (scope.names.lookup x == some .cell) = true
    rw [h]
    rfl
  fns := g.fns
  bl := g.bl
  cn := g.cn
  cl := g.cl
  rz := g.rz
  xm := g.xm
  ob := g.ob
theorem nLc_ok (g : Gd k Γ sc W X) (op : Ok X W p) (oq : ∀ X', Gd k Γ scope W0 X' → Ok X' W0 q) {elt tg iter : Expr} {ifs : List Expr} :
    ∃ t, (∀ pos, PE X (.ListComp elt [⟨tg, iter, ifs, 0⟩] scope pos) t) ∧ (∀ (i : Nat) (y : Str) (py pos spos : Pos), X.N[i]? = some y → (X.fn y = true ∨ X.env.scope.names.lookup y = some .local) → L2.Loc X.env.scope y →
      PS X (.Assign [.Name y py] (.ListComp elt [⟨tg, iter, ifs, 0⟩] scope pos) spos) (tAsg t (gName i))) ∧ Ev X.K W (SW X.K) t (nLc Γ sc p q elt tg iter ifs scope) := by
  unfold nLc
  split
  · rename_i own ct e1 e2
    split
    · rename_i c
      have c' := Bool.and_eq_true_iff.mp c
      have c2 := Bool.and_eq_true_iff.mp c'.2
      have ok' : BlkOk Γ.N sc scope own := blkOk_by c'.1
      have ok : BlkOk X.N X.env.scope scope own := g.blkOk ok'
      have bo : ∀ (s : Shared) (H : Hp) (C : Addr) (cl : List (Str × Addr)) (fp : List Addr), Ok (X.blk s H scope (compEnvC scope cl C X.env) fp) W0 q := fun s H C cl fp => oq _ (g.blk ok' s H cl C fp)
      obtain ⟨wi, pi, vi⟩ := op.i tg iter
      have hg : ∀ (s : Shared) (H : Hp) (C : Addr) (cl : List (Str × Addr)) (fp : List Addr), PG (X.blk s H scope (compEnvC scope cl C X.env) fp) tg (tgOf X.K (q.g tg).1 (q.g tg).2) := fun s H C cl fp => ((bo s H C cl fp).g tg).pg
      have he : ∀ (s : Shared) (H : Hp) (C : Addr) (cl : List (Str × Addr)) (fp : List Addr), PE (X.blk s H scope (compEnvC scope cl C X.env) fp) elt (tOf X.K W0 (SV X.K) (q.e elt)) := fun s H C cl fp => ((bo s H C cl fp).e elt).pe
      have ht : ∀ (s : Shared) (H : Hp) (C : Addr) (cl : List (Str × Addr)) (fp : List Addr), PTs (X.blk s H scope (compEnvC scope cl C X.env) fp) ifs (tOf X.K W0 SB ct) := fun s H C cl fp => by
        unfold lcTest at e2
        split at e2
        · cases e2
          refine ⟨fun pins s2 σ H2 Q I z => pts_nil.run pins s2 σ H2 Q I ?_⟩
          obtain ⟨G0, G, δ, H0, r, pq⟩ := z
          exact Post.here (show Post X.K W0 σ H0 H2 SB (.ok true) Q from pq) r.same rfl
        · cases e2
          exact pts_one ((bo s H C cl fp).t _).pt
        · cases e2
      have hf := fold_of (env := X.env) c2.2
      refine ⟨_, fun pos => pe_lc g.calm g.nd pi ok hg ht he hf, fun i y py pos spos hi hfn hl => ?_, ev_lc vi fun i hi => ?_⟩
      · have sw : swapsWith (.ListComp elt [⟨tg, iter, ifs, 0⟩] scope pos) (some (.Name y py)) spos.line X.env = pure (X.env.blockKind == .function && X.env.kindOf y == some .local && py.line == pos.line && !(scope.names.any fun (n, k) => n == y && (k == .local || k == .cell))) := rfl
        cases eb : (X.env.blockKind == .function && X.env.kindOf y == some .local && py.line == pos.line && !(scope.names.any fun (n, k) => n == y && (k == .local || k == .cell))) with
        | false =>
          rw [eb] at sw
          exact ps_set g.nd hi hl (pe_lc g.calm g.nd pi ok hg ht he hf) sw hfn
        | true =>
          rw [eb] at sw
          have yl : X.env.scope.names.lookup y = some .local := by
            have z1 := (Bool.and_eq_true_iff.mp (Bool.and_eq_true_iff.mp (Bool.and_eq_true_iff.mp eb).1).1).2
            have z2 : (X.env.scope.names.lookup y == some .local) = true := z1
            cases ez : X.env.scope.names.lookup y with
            | none => rw [ez] at z2; cases z2
            | some kd =>
              rw [ez] at z2
              cases kd <;> first | rfl | cases z2
          exact ps_setLc g.calm g.nd hi yl sw pi ok hg ht he hf
      · have z := List.all_eq_true.mp (show ((q.g tg).2.all fun i => (own.map (·.2)).contains i) = true from c2.1) i hi
        exact List.contains_iff_mem.mp z
    · refine ⟨fun _ _ _ => False, fun pos => pe_never, fun i y py pos spos _ _ _ => ⟨fun _ _ _ _ _ _ z => z.elim⟩, fun _ _ _ _ _ _ _ _ z => z⟩
  · refine ⟨fun _ _ _ => False, fun pos => pe_never, fun i y py pos spos _ _ _ => ⟨fun _ _ _ _ _ _ z => z.elim⟩, fun _ _ _ _ _ _ _ _ z => z⟩
end
/-! ### one step of the compiler -/
def gStep (Γ : Ctx) (sc : Scope) (q : Cp) : Expr → CT × List Nat
  | .Name x _ => (match slotL Γ sc x with
    | some i => (tName i, [i])
    | none => (tNo, []))
  | .Tuple es _ _ => if es.all plainArg = true then
      (tTupT es.length (es.foldr (fun e r => tCons' (q.g e).1 r) tNil'), es.foldr (fun e r => (q.g e).2 ++ r) [])
    else (tNo, [])
  | _ => (tNo, [])
theorem gs_ok {X : Cx} {q : Cp} (h : ∀ tg, SG X tg (q.g tg).1 (q.g tg).2) : ∀ {es : List Expr}, es.all plainArg = true → ∃ g, PGs X es g ∧ EvGs X.K g (es.foldr (fun e r => tCons' (q.g e).1 r) tNil') (es.foldr (fun e r => (q.g e).2 ++ r) [])
  | [], _ => ⟨_, pgs_nil, evgs_nil⟩
  | e :: es, hp => by
    have h' := Bool.and_eq_true_iff.mp (show (plainArg e && es.all plainArg) = true from hp)
    exact pgs_consP h'.1 (h e) (gs_ok h h'.2)
def iStep (Γ : Ctx) (sc : Scope) (q : Cp) (tg : Expr) : Expr → CA
  | .Call (.Name x p) args [] pos => if (isGl sc x && args.all plainArg) = true then (
      if x = "range" then (match args with
        | [a] => cApp dRng1 (cArgs q.e [a])
        | [a, b] => cApp dRng2 (cArgs q.e [a, b])
        | [a, b, c] => cApp dRng3 (cArgs q.e [a, b, c])
        | _ => cNoA)
      else if x = "enumerate" then (match args, tg with
        | [a], .Tuple _ _ _ => cApp dEnum (cArgs q.e [a])
        | _, _ => cNoA)
      else if x = "zip" then (match args, tg with
        | [a, b], .Tuple _ _ _ => cApp dZip (cArgs q.e [a, b])
        | _, _ => cNoA)
      else cUn dItems (q.e (.Call (.Name x p) args [] pos)))
    else cNoA
  | e => cUn dItems (q.e e)
def isMul : Operator → Bool
  | .Mult => true
  | _ => false
def isList : Expr → Bool
  | .List _ _ => true
  | _ => false
def pPart (q : Cp) : Option Expr → CO
  | none => cNoP
  | some e => cUn dPt (q.e e)
theorem sp_part {X : Cx} {W : WX} {q : Cp} (o : Ok X W q) : ∀ e, SP X W e (pPart q e)
  | none => sp_none
  | some e => sp_some (o.e e)
def mthC (o : Expr) (args : List Expr) (apos cpos : Pos) : Bool := okBase o && (args.all plainArg && (decide (args.length < 29) && (apos.endLine == cpos.line)))
def nStep (Γ : Ctx) (sc : Scope) (p : Scope → Cp) : Expr → CA
  | .List es _ => if es.all plainArg = true then cApp dLst (cArgs (p sc).e es) else cNoA
  | .ListComp elt [⟨tg, iter, ifs, 0⟩] scope _ => nLc Γ sc (p sc) (p scope) elt tg iter ifs scope
  | .BinOp a op b _ => (match op with
    | .Add => cBin dAddN ((p sc).e a) ((p sc).e b)
    | .Mult => cRep ((p sc).n a) ((p sc).e b)
    | _ => cNoA)
  | .Subscript a (.Slice lo hi none _) _ => cSlG dSlN ((p sc).e a) (pPart (p sc) lo) (pPart (p sc) hi)
  | .Subscript a (.Slice none none (some (.UnaryOp .USub (.Constant (.int 1) _ _) _)) _) _ => cUn dRevN ((p sc).e a)
  | .IfExp t a b _ => cIf (evT ((p sc).t t)) ((p sc).n a) ((p sc).n b)
  | .Call (.Name x _) args [] _ => nCall Γ sc (p sc) x args
  | .Call (.Attribute o name apos) args [] cpos => if mthC o args apos cpos = true then (match Γ.Mt name args.length with
    | some tab => cMthN name args.length tab ((p sc).e o) (cArgs (p sc).e args)
    | none => cNoA) else cNoA
  | _ => cNoA
def eStep (Γ : Ctx) (sc : Scope) (p : Scope → Cp) : Expr → C
  | .Name x _ => (match slot Γ sc x with
    | some i => cVar i
    | none => (match Γ.Gc x with
      | some d => if isGl sc x = true then cC d else cNo
      | none => cNo))
  | .Constant c _ _ => (match c with
    | .int i => cC (.int i)
    | .bool b => cC (.bl b)
    | .none => cC .non
    | .str x => cC (.str x)
    | _ => cNo)
  | .BinOp a op b pos => if (isMul op && isList a) = true then cL (nStep Γ sc p (.BinOp a op b pos)) else (match binD op with
    | some f => cBin f ((p sc).e a) ((p sc).e b)
    | none => cNo)
  | .UnaryOp op a _ => (match op with
    | .USub => cUn dNeg ((p sc).e a)
    | .Not => cUn dNotV ((p sc).e a)
    | _ => cNo)
  | .Compare a [op] [b] _ => (match cmpD op with
    | some f => if behindInMarks op b = false then cBin f ((p sc).e a) ((p sc).e b) else cNo
    | none => cNo)
  | .Compare a [op, op'] [b, c] _ => (match cmpD op, cmpD op' with
    | some f, some g => if lastMarks [op, op'] [b, c] = false then cChain f g ((p sc).e a) ((p sc).e b) ((p sc).e c) else cNo
    | _, _ => cNo)
  | .BoolOp op vs _ => (match op with
    | .And => cAndV (vs.map (p sc).e)
    | .Or => cOrV (vs.map (p sc).e))
  | .IfExp t a b _ => cIf (evT ((p sc).t t)) ((p sc).e a) ((p sc).e b)
  | .Tuple es _ _ => if es.all plainArg = true then cApp dTup (cArgs (p sc).e es) else cNo
  | .List es pos => cL (nStep Γ sc p (.List es pos))
  | .ListComp elt gs scope pos => if zGs Γ gs = true then cL (cFzN (nStep Γ sc p (.ListComp elt gs scope pos))) else cL (nStep Γ sc p (.ListComp elt gs scope pos))
  | .Dict [] [] _ => cDct0
  | .Dict (k :: ks) vs _ => (match dispKs (k :: ks) with
    | some ns => if (k :: ks).length = vs.length ∧ (k :: ks).length ≤ 15 then cDisp ns (cArgs (p sc).e vs) else cNo
    | none => cNo)
  | .Attribute e f _ => if okBase e = true then cUn (dFld Γ.Fo f) ((p sc).e e) else cNo
  | .Subscript a k pos => if notSlice k = true then (match a with
      | .Name x _ => (match slot Γ sc x with
        | some i => cIxV i ((p sc).e k)
        | none => (match Γ.Kt x with
          | some tab => if isGl sc x = true then cUn (dTab tab) ((p sc).e k) else cNo
          | none => cBin dIx ((p sc).e a) ((p sc).e k)))
      | _ => cBin dIx ((p sc).e a) ((p sc).e k))
    else (match k with
      | .Slice lo hi none _ => cSlG dSlA ((p sc).e a) (pPart (p sc) lo) (pPart (p sc) hi)
      | .Slice lo hi (some st) p2 => cL (nStep Γ sc p (.Subscript a (.Slice lo hi (some st) p2) pos))
      | _ => cNo)
  | .Call (.Name x _) args [] _ => eCall Γ sc (p sc) x args
  | .Call (.Attribute o name apos) args [] cpos => if mthC o args apos cpos = true then (match Γ.Mt name args.length with
    | some tab => cMth name args.length tab ((p sc).e o) (cArgs (p sc).e args)
    | none => (match args with
      | [a] => (match meth1 name with
        | some f => cM1 f.1 f.2 ((p sc).e o) ((p sc).e a)
        | none => cNo)
      | _ => cNo)) else cNo
  | _ => cNo
def tStep (Γ : Ctx) (sc : Scope) (p : Scope → Cp) : Expr → CB
  | .UnaryOp op a pos => (match op with
    | .Not => cNotB ((p sc).t a)
    | op => if plainTest (.UnaryOp op a pos) = true then cUn dTru (eStep Γ sc p (.UnaryOp op a pos)) else cNoB)
  | .BoolOp op vs _ => (match op with
    | .And => cAndB (vs.map (p sc).t)
    | .Or => cOrB (vs.map (p sc).t))
  | .Compare a [op] [b] _ => (match cmpD op with
    | some f => if behindInMarks op b = false then cBin (fun d e => (f d e).bind asB) ((p sc).e a) ((p sc).e b) else cNoB
    | none => cNoB)
  | .Compare a [op, op'] [b, c] _ => (match cmpD op, cmpD op' with
    | some f, some g => if lastMarks [op, op'] [b, c] = false then cUn asB (cChain f g ((p sc).e a) ((p sc).e b) ((p sc).e c)) else cNoB
    | _, _ => cNoB)
  | e => if plainTest e = true then cUn dTru (eStep Γ sc p e) else cNoB
def step (Γ : Ctx) (p : Scope → Cp) (sc : Scope) : Cp := ⟨eStep Γ sc p, nStep Γ sc p, tStep Γ sc p, iStep Γ sc (p sc), gStep Γ sc (p sc)⟩
def comp (Γ : Ctx) : Nat → Scope → Cp
  | 0 => fun _ => ⟨fun _ => cNo, fun _ => cNoA, fun _ => cNoB, fun _ _ => cNoA, fun _ => (tNo, [])⟩
  | n + 1 => step Γ (comp Γ n)
end Dw
namespace Dw
open PySem L2 PyProof.Rows
section
variable {X : Cx} {W : WX} {k : Nat} {Γ : Ctx} {sc : Scope} {p : Scope → Cp}
theorem ev_ifG {K : PySem.W.Frag} {α : Type} {S : Sat α V} (hS : Down S) {tt : TT} {ta tb : TE} {ct : CB} {ca cb : List Sl → R α} (h : Ev K W SB tt ct) (ha : Ev K W S ta ca) (hb : Ev K W S tb cb) : Ev K W S (tIf tt ta tb) (cIf ct ca cb) :=
  Ev.bind (Sa := SB) (f := fun k δ => if k = true then ca δ else cb δ) hS h fun a b G0 G δ σ Hs H0 H Q rl e p => by
    have e : b = a := e
    subst e
    cases b with
    | true => exact ha G0 G δ σ H0 H Q rl p
    | false => exact hb G0 G δ σ H0 H Q rl p
theorem ev_borT {K : PySem.W.Frag} {tt : TT} {c : CB} (h : Ev K W SB tt c) : Ev K W SB tt (evT c) := by
  intro G0 G δ σ H0 H Q r p
  have p' : Post K W σ H0 H SB (c (bor δ)) Q := p
  obtain ⟨J0, e0, rb, hl⟩ := r.bor
  refine h G0 G (bor δ) σ J0 H Q rb ?_
  cases e : c (bor δ) with
  | ok b =>
    rw [e] at p'
    intro A B v s q
    obtain ⟨H1, s1, _, _⟩ := back r.same e0 hl s
    exact p' H1 B v s1 q
  | ex C =>
    rw [e] at p'
    intro A B s
    obtain ⟨H1, s1, _, _⟩ := back r.same e0 hl s
    exact p' H1 B s1
  | no => rw [e] at p'; exact p'
theorem nStep_ok (hp : ∀ sc' W' X', Gd k Γ sc' W' X' → Ok X' W' (p sc')) (g : Gd k Γ sc W X) (e : Expr) : SN X W e (nStep Γ sc p e) := by
  have o := hp sc W X g
  unfold nStep
  split
  · split
    · rename_i h
      obtain ⟨t, q, v⟩ := sl_args o.e h
      exact ⟨_, pe_lst q, ev_lst v⟩
    · exact sn_none
  · obtain ⟨t, q, _, v⟩ := nLc_ok g o (fun X' g' => hp _ W0 X' g')
    exact ⟨t, q _, v⟩
  · split
    · exact sn_op op_addAll opd_addN (o.e _) (o.e _)
    · obtain ⟨t, q, v⟩ := o.n _
      obtain ⟨u, q2, v2⟩ := o.e _
      exact ⟨_, pe_op op_rep q q2, ev_rep v v2⟩
    · exact sn_none
  · exact sn_sl (o.e _) (sp_part o _) (sp_part o _)
  · exact sn_rev (o.e _)
  · obtain ⟨tt, pt, vt⟩ := o.t _
    obtain ⟨t, q, v⟩ := o.n _
    obtain ⟨u, q2, v2⟩ := o.n _
    exact ⟨_, pe_ifExp pt q q2, ev_ifG downW (ev_borT vt) v v2⟩
  · exact nCall_ok g o
  · split
    · rename_i h
      have h1 := Bool.and_eq_true_iff.mp h
      have h2 := Bool.and_eq_true_iff.mp h1.2
      have h3 := Bool.and_eq_true_iff.mp h2.2
      split
      · rename_i tab ht
        exact (se_mth (g.ob.mt _ _ _ ht) ⟨g.room, g.gu⟩ g.tk (o.e _) _ o.e h1.1 h2.1 (of_decide_eq_true h3.1) h3.2).2
      · exact sn_none
    · exact sn_none
  · exact sn_none
theorem eStep_ok (hp : ∀ sc' W' X', Gd k Γ sc' W' X' → Ok X' W' (p sc')) (g : Gd k Γ sc W X) (e : Expr) : SE X W e (eStep Γ sc p e) := by
  have o := hp sc W X g
  have nn := fun e => se_of_sn (nStep_ok hp g e)
  unfold eStep
  split
  · split
    · rename_i i hs
      obtain ⟨h1, h2, h3, h4⟩ := g.slot hs
      exact ⟨_, pe_var h1 h2 h3 h4, ev_var⟩
    · split
      · rename_i d hd
        split
        · rename_i hg
          obtain ⟨db, v, u, hm, rv, dv⟩ := g.cn _ _ hd
          exact ⟨_, pe_glob (g.gl hg) hm rv db, ev_c dv⟩
        · exact se_none
      · exact se_none
  · split
    · exact ⟨_, pe_int, ev_c fun _ => .int _⟩
    · exact ⟨_, pe_bl, ev_c fun _ => .bl _⟩
    · exact ⟨_, pe_non, ev_c fun _ => .non⟩
    · exact ⟨_, pe_str, ev_c fun _ => .str _⟩
    · exact se_none
  · split
    · exact nn _
    · split
      · rename_i f hf
        obtain ⟨r, h1, h2⟩ := binD_ok (X := X) (W := W) hf
        exact se_op h1 h2 (o.e _) (o.e _)
      · exact se_none
  · split
    · obtain ⟨t, q, v⟩ := o.e _
      exact ⟨_, pe_un un_neg q, ev_unG (r := rU fun i => .int (-i)) downV v und_neg⟩
    · exact se_not (o.e _)
    · exact se_none
  · split
    · rename_i f hf
      split
      · rename_i hm
        obtain ⟨r, h1, h2⟩ := cmpD_ok (X := X) (W := W) (un65 g.room) hf
        exact se_cmp h1 h2 (o.e _) (o.e _) hm
      · exact se_none
    · exact se_none
  · split
    · rename_i f g hf hg
      split
      · rename_i hm
        obtain ⟨r, h1, h2⟩ := cmpD_ok (X := X) (W := W) (un65 ‹Gd _ _ _ _ _›.room) hf
        obtain ⟨r', h3, h4⟩ := cmpD_ok (X := X) (W := W) (un65 ‹Gd _ _ _ _ _›.room) hg
        exact se_chain h1 h2 h3 h4 (o.e _) (o.e _) (o.e _) hm
      · exact se_none
    · exact se_none
  · split
    · exact se_and (all2_map o.e _)
    · exact se_or (all2_map o.e _)
  · obtain ⟨tt, pt, vt⟩ := o.t _
    exact se_if ⟨tt, pt, ev_borT vt⟩ (o.e _) (o.e _)
  · split
    · rename_i h
      obtain ⟨t, q, v⟩ := sl_args o.e h
      exact ⟨_, pe_tup q, ev_tup v⟩
    · exact se_none
  · exact nn _
  · split
    · exact se_of_sn (sn_fz (nStep_ok hp g _))
    · exact nn _
  · exact se_dct0
  · split
    · rename_i ns e
      split
      · rename_i c
        exact se_disp (sd_of o.e _ _ _ e c.1) (disp_all _ _ e) c.1 (by simp) c.2
      · exact se_none
    · exact se_none
  · split
    · rename_i h
      exact se_fld (o.e _) h g.ob.fo
    · exact se_none
  · split
    · rename_i hk
      split
      · split
        · rename_i i hs
          obtain ⟨h1, h2, h3, h4⟩ := g.slot hs
          exact se_ixV (by have := g.room.un; omega) h1 h2 h3 h4 (o.e _) hk
        · split
          · rename_i tab ht
            split
            · rename_i hg
              exact se_tab (g.ob.kt _ _ ht) (g.gl hg) (o.e _) hk
            · exact se_none
          · exact se_ix (by have := g.room.un; omega) (o.e _) (o.e _) hk
      · exact se_ix (by have := g.room.un; omega) (o.e _) (o.e _) hk
    · split
      · exact se_sl (o.e _) (sp_part o _) (sp_part o _)
      · exact nn _
      · exact se_none
  · exact eCall_ok g o
  · split
    · rename_i h
      have h1 := Bool.and_eq_true_iff.mp h
      have h2 := Bool.and_eq_true_iff.mp h1.2
      have h3 := Bool.and_eq_true_iff.mp h2.2
      split
      · rename_i tab ht
        exact (se_mth (g.ob.mt _ _ _ ht) ⟨g.room, g.gu⟩ g.tk (o.e _) _ o.e h1.1 h2.1 (of_decide_eq_true h3.1) h3.2).1
      · split
        · split
          · rename_i f hf
            exact se_m1 (meth1_ok (ok := f.1) (f := f.2) hf) (o.e _) (o.e _) h1.1 (by simpa using h2.1) h3.2
          · exact se_none
        · exact se_none
    · exact se_none
  · exact se_none
theorem tStep_ok (hp : ∀ sc' W' X', Gd k Γ sc' W' X' → Ok X' W' (p sc')) (g : Gd k Γ sc W X) (e : Expr) : ST X W e (tStep Γ sc p e) := by
  have o := hp sc W X g
  unfold tStep
  split
  · split
    · exact st_not (o.t _)
    · split
      · rename_i h
        exact st_tru (eStep_ok hp g _) h
      · exact st_none
  · split
    · exact st_and (all2_map o.t _)
    · exact st_or (all2_map o.t _)
  · split
    · rename_i f hf
      split
      · rename_i hm
        obtain ⟨r, h1, h2⟩ := cmpD_ok (X := X) (W := W) (un65 g.room) hf
        exact st_cmp h1 h2 (o.e _) (o.e _) hm
      · exact st_none
    · exact st_none
  · split
    · rename_i f g hf hg
      split
      · rename_i hm
        obtain ⟨r, h1, h2⟩ := cmpD_ok (X := X) (W := W) (un65 ‹Gd _ _ _ _ _›.room) hf
        obtain ⟨r', h3, h4⟩ := cmpD_ok (X := X) (W := W) (un65 ‹Gd _ _ _ _ _›.room) hg
        exact st_chain h1 h2 h3 h4 (o.e _) (o.e _) (o.e _) hm
      · exact st_none
    · exact st_none
  · split
    · rename_i h
      exact st_tru (eStep_ok hp g _) h
    · exact st_none
theorem iStep_ok (g : Gd k Γ sc W X) {q : Cp} (o : Ok X W q) (tg e : Expr) : SI X W tg e (iStep Γ sc q tg e) := by
  unfold iStep
  split
  · split
    · rename_i x p args pos c
      have c' := Bool.and_eq_true_iff.mp c
      split
      · rename_i ex
        subst ex
        split
        · rename_i a
          have h1 := Bool.and_eq_true_iff.mp (show (plainArg a && [].all plainArg) = true from c'.2)
          exact si_range1 (g.gl c'.1) (g.bl _ (by decide +kernel)) (sl_args o.e c'.2) h1.1
        · rename_i a b
          have h1 := Bool.and_eq_true_iff.mp (show (plainArg a && [b].all plainArg) = true from c'.2)
          have h2 := Bool.and_eq_true_iff.mp (show (plainArg b && [].all plainArg) = true from h1.2)
          exact si_range2 (g.gl c'.1) (g.bl _ (by decide +kernel)) (sl_args o.e c'.2) h1.1 h2.1
        · rename_i a b e
          have h1 := Bool.and_eq_true_iff.mp (show (plainArg a && [b, e].all plainArg) = true from c'.2)
          exact si_range3 (g.gl c'.1) (g.bl _ (by decide +kernel)) (sl_args o.e c'.2) h1.1 h1.2
        · exact si_none
      · split
        · rename_i ex
          subst ex
          split
          · rename_i a _ _ _
            have h1 := Bool.and_eq_true_iff.mp (show (plainArg a && [].all plainArg) = true from c'.2)
            exact si_enum (g.gl c'.1) (g.bl _ (by decide +kernel)) (sl_args o.e c'.2) h1.1
          · exact si_none
        · split
          · rename_i ex
            subst ex
            split
            · rename_i a b _ _ _
              have h1 := Bool.and_eq_true_iff.mp (show (plainArg a && [b].all plainArg) = true from c'.2)
              have h2 := Bool.and_eq_true_iff.mp (show (plainArg b && [].all plainArg) = true from h1.2)
              exact si_zip (g.gl c'.1) (g.bl _ (by decide +kernel)) (sl_args o.e c'.2) h1.1 h2.1
            · exact si_none
          · exact si_seq (o.e _)
    · exact si_none
  · exact si_seq (o.e _)
theorem gStep_ok (g : Gd k Γ sc W X) {q : Cp} (o : Ok X W q) (tg : Expr) : SG X tg (gStep Γ sc q tg).1 (gStep Γ sc q tg).2 := by
  unfold gStep
  split
  · split
    · rename_i i hs
      obtain ⟨h1, h2, h3⟩ := g.slotL hs
      exact sg_name g.nd h1 h2 h3
    · exact sg_none
  · split
    · rename_i h
      exact sg_tup g.calm h (gs_ok o.g h)
    · exact sg_none
  · exact sg_none
theorem comp_ok : ∀ (n : Nat) (sc : Scope) (W : WX) (X : Cx), Gd k Γ sc W X → Ok X W (comp Γ n sc)
  | 0, _, _, _, _ => ⟨fun _ => se_none, fun _ => sn_none, fun _ => st_none, fun _ _ => si_none, fun _ => sg_none⟩
  | n + 1, sc, W, X, g => ⟨eStep_ok (comp_ok n) g, nStep_ok (comp_ok n) g, tStep_ok (comp_ok n) g, iStep_ok g (comp_ok n sc W X g), gStep_ok g (comp_ok n sc W X g)⟩
end
end Dw
namespace Dw
open PySem L2 PyProof.Rows
/-! ### try: body / except x as n: y = n : the exception is kept, and known to be one of its class -/
def tsOf (K : PySem.W.Frag) (W : WX) (c : CS) : TS := fun E σ H => ∃ G0 G δ H0, Rel K G0 G δ σ H0 H ∧ PostS K W G0 G H0 E (c δ)
theorem SSs.pss {X : Cx} {W : WX} {sts : List Stmt} {c : CS} (h : SSs X W sts c) : PSs X sts (tsOf X.K W c) := by
  obtain ⟨t, p, v⟩ := h
  refine ⟨fun pins s σ H E I q => p.run pins s σ H E I ?_⟩
  obtain ⟨G0, G, δ, H0, r, po⟩ := q
  exact v G0 G δ σ H0 H E r po
/-- what is wished of an exception in the body -/
def wKeep (K : PySem.W.Frag) (c : Value) (i j : Nat) (Wo : WX) (En : Ends) : WX := fun cls d σ H => ∃ (C : Addr) (b : Bool), cls = .ref C ∧ d = none ∧ PySem.W.exmOne K (.ref C) c = some b ∧
  (b = true → ∀ a, H a = none → En.nx (((σ.set i (some (V.ref a))).set j (some (V.ref a))).set i none) (upd H a (ExH C a))) ∧ (b = false → Wo cls d σ H)
section
variable {X : Cx} {pins : List (Addr × Obj)} {σ : L2.St} {H : Hp} {s : Shared}
/-- behind the suite the exception's object is no longer pinned: it is tracked -/
theorem inv_keepExc {a C : Addr} {oe : Obj} {vs : Array Value} (I : Inv X ((a, oe) :: pins) σ H s) (hz : Zc (.ref C) none oe) (hf : oe.data = .fields vs) (h0 : X.s_0.heap.get? a = none) (hp : ∀ q ∈ X.pn ++ pins, q.1 ≠ a) : Inv X pins σ (upd H a (ExH C a)) s := by
  obtain ⟨ga, na, nl, nf, nc⟩ := I.pin (a, oe) (List.mem_append_right _ List.mem_cons_self)
  have ne : ∀ {b : Addr} {o : HO}, H b = some o → b ≠ a := fun e => ne_of_none e na
  refine ⟨I.ok, I.os, I.bare, ⟨I.base.keep, I.base.slot, fun b o q n hx => ?_, I.base.there, fun b xs q => ?_, fun b o u q => ?_, fun b ps q => ?_⟩, I.loc, I.cell, ?_, fun x c e => ?_, fun q hq => ?_, fun b u e => ?_, I.len⟩
  · have nb : b ≠ a := fun z => by
      rw [z, h0] at q
      cases q
    rw [upd_ne nb]
    exact I.base.free b o q n hx
  · have z := I.base.tups b xs q
    rw [upd_ne (ne z)]
    exact z
  · have z := I.base.frzs b o u q
    rw [upd_ne (ne z)]
    exact z
  · obtain ⟨m, z⟩ := I.base.tbls b ps q
    exact ⟨m, by rw [upd_ne (ne z)]; exact z⟩
  · have nl' : X.env.locals ≠ a := fun z => nl z.symm
    rw [upd_ne nl']
    exact I.free
  · have nc' : c ≠ a := fun z => by
      obtain ⟨v, o, ho, hd⟩ := I.cell x c e
      rw [z, ga] at ho
      cases ho
      exact nc v hd
    rw [upd_ne nc']
    exact I.freeC x c e
  · have hq' : q ∈ X.pn ++ (a, oe) :: pins := by
      rcases List.mem_append.mp hq with z | z
      · exact List.mem_append_left _ z
      · exact List.mem_append_right _ (List.mem_cons_of_mem _ z)
    obtain ⟨b1, b2, b3, b4, b5⟩ := I.pin q hq'
    exact ⟨b1, by rw [upd_ne (hp q hq)]; exact b2, b3, b4, b5⟩
  · by_cases eb : b = a
    · subst eb
      rw [upd_same] at e
      cases e
      exact ⟨⟨oe, vs, ga, hz, hf⟩, ⟨oe, ga⟩, fun g1 g2 ⟨o1, v1, q1, q2, q3⟩ st => ⟨o1, v1, st o1 q1, q2, q3⟩⟩
    · rw [upd_ne eb] at e
      exact (I.hok b u e).stay (fun _ _ _ z => z) (fun c z => by rw [upd_ne (ne z)]; exact z) fun c xs z => by rw [upd_ne (ne z)]; exact z
theorem inv_pinned {a : Addr} {oe : Obj} {pn' : List (Addr × Obj)} (I : Inv (X.suite a ((a, oe) :: (X.pn ++ pins))) pn' σ H s) (ok : X.Ok) : Inv X ((a, oe) :: pins) σ H s :=
  ⟨ok, I.os, I.bare, I.base, I.loc, I.cell, I.free, I.freeC, fun q hq => I.pin q (List.mem_append_left _ (by
    rcases List.mem_append.mp hq with z | z
    · exact List.mem_cons_of_mem _ (List.mem_append_left _ z)
    · rcases List.mem_cons.mp z with z | z
      · rw [z]; exact List.mem_cons_self
      · exact List.mem_cons_of_mem _ (List.mem_append_right _ z))), I.hok, I.len⟩
end
section
variable {X : Cx} {x n y : Str} {c : Value} {i j : Nat} {bd : List Stmt} {np pos pos' py pn2 pa : Pos} {tb : WX → TS} {Wo : WX}
theorem ps_try_keep (hst : X.stack = X.env :: X.outer) (hfl : X.env.frame = some X.env.locals) (hex : X.ex = []) (hN : X.N.Nodup) (hi : X.N[i]? = some n) (hj : X.N[j]? = some y) (hln : X.env.kindOf n = some .local) (hly : X.env.kindOf y = some .local)
    (hd1 : (n == ("__debug__" : Str)) = false) (hd2 : (n == ("__classdict__" : Str)) = false) (hc : Names X x c) (tk : Takes X Wo)
    (hb : ∀ (W : WX) (pn : List (Addr × Obj)) (xe : Value → Shared → Prop), Takes (X.tr pn xe) W → PassesOwn (model X.prog X.w) X.A X.env xe → PSs (X.tr pn xe) bd (tb W)) :
    PS X (.Try bd [.ExceptHandler (some (.Name x np)) (some n) [.Assign [.Name y py] (.Name n pn2) pa] pos'] [] [] pos) (fun En σ H => tb (wKeep X.K c i j Wo En) En σ H) := by
  refine ⟨fun pins s σ H En I h => ?_⟩
  have okX := I.ok
  have frm : X.A.frames = some (X.env :: X.outer) := okX.frames.trans (congrArg some hst)
  have locn : L2.Loc X.env.scope n := .inl hln
  have caught : Takes (X.tr (X.pn ++ pins) fun e s₁ => wpAny (model X.prog X.w) X.A (noteFrame e X.env) (fun _ s₂ => wpAny (model X.prog X.w) X.A (setFlight e none) (fun _ s₃ =>
      wpAny (model X.prog X.w) X.A (handleBy e X.env [.ExceptHandler (some (.Name x np)) (some n) [.Assign [.Name y py] (.Name n pn2) pa] pos']) (L2.SP X pins En) X.xe s₃) X.xe s₂) X.xe s₁) (wKeep X.K c i j Wo En) := by
    intro u s' xx
    obtain ⟨a, B, sI, pins', σ', H', cls, d, rfl, J', nb, up, sky, na, os, ag, C, b, rfl, rfl, hb1, hyes, hno⟩ := xx
    have J : Inv X pins σ' H' sI := J'.ofTry okX
    have sky2 : Sky B (X.env :: X.outer) a (Zc (.ref C) none) X.env.locals s'.heap := hst ▸ sky
    show wpAny (model X.prog X.w) X.A (noteFrame (.ref a) X.env) _ _ _
    refine Sky.land Zc.steady frm hfl sky2 fun h3 fl3 up3 => ?_
    have J3 : Inv X pins σ' H' { s' with heap := h3 } := J.landed nb fl3.1 (up.trans up3) os ag
    obtain ⟨oe3, vs3, he3, hz3, hd3⟩ := fl3.there
    have nfr : a ∉ frs (X.env :: X.outer) := fun hm => by
      obtain ⟨_, o', e', hnf⟩ := fl3.2.2.1.mem hm
      rw [he3] at e'
      cases e'
      exact hnf _ hd3
    have nL : a ≠ X.env.locals := fun z => nfr (List.mem_filterMap.mpr ⟨X.env, List.mem_cons_self, by rw [hfl, z]⟩)
    have nF : a ∉ X.fs := fun hm => by
      obtain ⟨e, he, q⟩ := List.mem_filterMap.mp hm
      exact nfr (List.mem_filterMap.mpr ⟨e, List.mem_cons_of_mem _ he, q⟩)
    have nB : B.get? a = none := fl3.2.1
    have stk : ∀ b, b ∈ frs X.stack → b ∈ frs (X.env :: X.outer) := fun b hb => by rw [hst] at hb; exact hb
    have a0 : X.s_0.heap.get? a = none := by
      cases e : X.s_0.heap.get? a with
      | none => rfl
      | some o =>
        obtain ⟨o', e1⟩ := J.base.there a o e (by rw [hex]; exact fun z => nomatch z)
        have e2 := nb a o' e1 fun hm => nfr (stk a hm)
        rw [nB] at e2
        cases e2
    have pa' : ∀ q ∈ X.pn ++ pins, q.1 ≠ a := fun q hq z => by
      obtain ⟨b1, _, b3, b4, _⟩ := J.pin q hq
      have e2 := nb q.1 q.2 b1 fun hm => by
        have hm2 : q.1 ∈ frs (X.env :: X.outer) := stk _ hm
        unfold frs at hm2
        rw [List.filterMap_cons, hfl] at hm2
        rcases List.mem_cons.mp hm2 with w | w
        · exact b3 w
        · exact b4 w
      rw [z, nB] at e2
      cases e2
    have S3 := J3.suite he3 hd3 na nL nF
    refine wpAny_handleBy_cons (codeAny_handlers_test ?_) (by intro q; cases q)
    have LT : PySem.W.Looks (model X.prog X.w) h3 (typeOf (.ref a)) (.ref C) := fun A Q E s kp q => wpAny_typeOf_ref (kp _ _ he3) (by rw [hz3.1]; exact q)
    have LM := PySem.W.exm_one (M := model X.prog X.w) J3.kIn LT hb1
    have test : ∀ {Q : Value → Shared → Prop} {E : Value → Shared → Prop}, Q c { s' with heap := h3 } → wpAny (model X.prog X.w) (X.A.mark (some (.ref a))) (eval (.Name x np) X.env) Q E { s' with heap := h3 } := fun {Q E} q => by
      obtain ⟨hg, hdbg, hm | ⟨hm, hv, hnn⟩⟩ := hc
      · exact ld_glob (X := X.suite a ((a, oe3) :: (X.pn ++ pins))) S3 hg hm q hdbg
      · exact ld_blt (X := X.suite a ((a, oe3) :: (X.pn ++ pins))) S3 hg hm hv q hnn hdbg
    refine test (LM.here ?_)
    cases b with
    | true =>
      refine codeAny_handlers_suite_as ?_
      refine HandSPX.lands_againZ fl3 fun h4 fl4 up4 => ?_
      have J4 : Inv X pins σ' H' { s' with heap := h4 } := J.landed nb fl4.1 ((up.trans up3).trans up4) os ag
      obtain ⟨oe4, vs4, he4, hz4, hd4⟩ := fl4.there
      have S4 := J4.suite he4 hd4 na nL nF
      refine store_ok (X := X.suite a ((a, oe4) :: (X.pn ++ pins))) (v := .ref a) S4 hN hi locn rfl (fun s5 S5 => ?_) (.inr hln)
      have ps1 : PSs (X.suite a ((a, oe4) :: (X.pn ++ pins))) [.Assign [.Name y py] (.Name n pn2) pa] (tAsg (tVar i) (gName j)) := pss_one (ps_set hN hj (.inl hly) (pe_var hi (.inl hln) hd1 hd2) rfl (.inr hly))
      have hil : i < (σ'.set i (some (V.ref a))).length := by
        rw [List.length_set, J.len]
        exact (List.getElem?_eq_some_iff.mp hi).1
      refine wpAny_mono (ps1.run [] s5 _ H' { nx := fun σ6 H6 => σ6 = (σ'.set i (some (V.ref a))).set j (some (V.ref a)) ∧ H6 = H', rt := fun _ _ => False, bk := fun _ _ => False, ct := fun _ _ => False } S5 ⟨_, by rw [List.length_set] at hil; exact List.getElem?_set_self hil, rfl, rfl⟩) (fun f s6 hsp => ?_) (fun _ _ z => False.elim z)
      cases f with
      | next =>
        obtain ⟨σ6, H6, S6, rfl, rfl⟩ := hsp
        refine gone_ok (inv_pinned S6 okX) hN hi hln fun s7 J7 => ?_
        exact ⟨_, _, inv_keepExc J7 hz4 hd4 a0 pa', hyes rfl a na⟩
      | brk =>
        obtain ⟨_, _, _, z⟩ := hsp
        exact z.elim
      | cont =>
        obtain ⟨_, _, _, z⟩ := hsp
        exact z.elim
      | ret u =>
        obtain ⟨_, _, _, _, _, z⟩ := hsp
        exact z.elim
    | false =>
      show wpAny _ X.A (handleBy (.ref a) X.env []) _ _ _
      refine wpAny_handleBy_nil ?_
      obtain ⟨k1, k2, k3, oe, vs, T, oT, ts', he, hz, hd, h1, hr⟩ := id fl3
      unfold PySem.passOn
      refine wpAny_bind (wpAny_field he hd h1 ?_)
      rw [if_neg (show ¬ ((Value.ref T == Value.none) = true) from by simp)]
      have fin : wpAny (model X.prog X.w) X.A (setFlight (.ref a) X.env.frame) (fun _ s4 => wpAny (model X.prog X.w) X.A (throw (.ref a) : Sem Flow) (L2.SP X pins En) X.xe s4) X.xe { s' with heap := h3 } := by
        rw [hfl]
        refine HandSPX.setFlight_upZ fl3 fun h4 hh4 up4 => wpAny_throw (tk _ _ ?_)
        exact ⟨a, B, sI, pins, σ', H', .ref C, none, rfl, J, nb, (up.trans up3).trans up4, .inr (.inr (by rw [hst]; exact hh4)), na, os, ag, hno rfl⟩
      first
        | exact wpAny_bind (wpAny_pure (wpAny_bind fin))
        | exact wpAny_bind fin
  refine wpAny_Try_except (wpAny_mono ((hb _ (X.pn ++ pins) _ caught PassesOwn.looking).run [] s σ H En (I.toTry _) h) (fun f s1 q => ?_) fun _ _ z => z)
  cases f with
  | next =>
    obtain ⟨σ2, H2, J2, w2⟩ := q
    exact wpAny_execs_nil ⟨σ2, H2, J2.ofTry okX, w2⟩
  | brk =>
    obtain ⟨σ2, H2, J2, w2⟩ := q
    exact ⟨σ2, H2, J2.ofTry okX, w2⟩
  | cont =>
    obtain ⟨σ2, H2, J2, w2⟩ := q
    exact ⟨σ2, H2, J2.ofTry okX, w2⟩
  | ret u =>
    obtain ⟨v2, σ2, H2, J2, r2, w2⟩ := q
    exact ⟨v2, σ2, H2, J2.ofTry okX, r2, w2⟩
end
/-! the closures -/
def fTry (m : Str → Option Bool) (k : Str → List Sl → Fl) : Fl → Fl
  | .ex C δ => (match m C with
    | some true => k C δ
    | some false => .ex C δ
    | none => .no)
  | r => r
def cTryK (m : Str → Option Bool) (i j : Nat) (cb : CS) : CS := fun δ => fTry m (fun C δ1 => .nx (((δ1.set i (.pu (.exc C))).set j (.pu (.exc C))).set i .un)) (cb δ)
def cTryN (m : Str → Option Bool) (j : Nat) (cb : CS) : CS := fun δ => fTry m (fun _ δ1 => .nx (δ1.set j (.pu .non))) (cb δ)
section
variable {X : Cx} {W : WX} {x n y : Str} {c : Value} {i j : Nat} {bd : List Stmt} {np pos pos' py pn2 pa : Pos} {m : Str → Option Bool} {cb : CS}
theorem ss_tryK (hst : X.stack = X.env :: X.outer) (hfl : X.env.frame = some X.env.locals) (hex : X.ex = []) (hN : X.N.Nodup) (hi : X.N[i]? = some n) (hj : X.N[j]? = some y) (hln : X.env.kindOf n = some .local) (hly : X.env.kindOf y = some .local)
    (hd1 : (n == ("__debug__" : Str)) = false) (hd2 : (n == ("__classdict__" : Str)) = false) (hc : Names X x c) (tk : Takes X W) (hm : ∀ C b, m C = some b → PySem.W.exmOne X.K (.ref (He.ga X.K C)) c = some b)
    (hb : ∀ (W : WX) (pn : List (Addr × Obj)) (xe : Value → Shared → Prop), Takes (X.tr pn xe) W → PassesOwn (model X.prog X.w) X.A X.env xe → SSs (X.tr pn xe) W bd cb) :
    SS X W (.Try bd [.ExceptHandler (some (.Name x np)) (some n) [.Assign [.Name y py] (.Name n pn2) pa] pos'] [] [] pos) (cTryK m i j cb) := by
  refine ⟨_, ps_try_keep (tb := fun W => tsOf X.K W cb) hst hfl hex hN hi hj hln hly hd1 hd2 hc tk fun W' pn xe t p => (hb W' pn xe t p).pss, fun G0 G δ σ H0 H E r po => ⟨G0, G, δ, H0, r, ?_⟩⟩
  have po' : PostS X.K W G0 G H0 E (fTry m (fun C δ1 => .nx (((δ1.set i (.pu (.exc C))).set j (.pu (.exc C))).set i .un)) (cb δ)) := po
  cases e : cb δ with
  | nx d => rw [e] at po'; exact po'
  | rt d => rw [e] at po'; exact po'
  | rtl d => rw [e] at po'; exact po'
  | rtt d => rw [e] at po'; exact po'
  | rtr d => rw [e] at po'; exact po'
  | bk d => rw [e] at po'; exact po'
  | ct d => rw [e] at po'; exact po'
  | no => rw [e] at po'; exact po'
  | ex C δ1 =>
    rw [e] at po'
    have po2 : PostS X.K W G0 G H0 E (match m C with
      | some true => .nx (((δ1.set i (.pu (.exc C))).set j (.pu (.exc C))).set i .un)
      | some false => .ex C δ1
      | none => .no) := po'
    intro σ' A B s r'
    cases em : m C with
    | none => rw [em] at po2; exact po2.elim
    | some b =>
      rw [em] at po2
      refine ⟨He.ga X.K C, b, rfl, rfl, hm C b em, fun eb a na => ?_, fun eb => ?_⟩
      · subst eb
        have st : Stp A B (upd A a (ExH (He.ga X.K C) a)) (upd B a (ExH (He.ga X.K C) a)) := Stp.new r'.same na
        have dx : Dr X.K (upd A a (ExH (He.ga X.K C) a)) (.ref a) (.exc C) := .exc upd_same
        exact po2 _ _ _ (s.trans st.e0) ((((r'.step st).setP dx).setP dx).setU)
      · subst eb
        exact po2 σ' A B s r'
theorem ss_tryN (hst : X.stack = X.env :: X.outer) (hfl : X.env.frame = some X.env.locals) (hN : X.N.Nodup) (hj : X.N[j]? = some y) (hly : L2.Loc X.env.scope y) (hfy : X.fn y = true ∨ X.env.scope.names.lookup y = some .local) (hc : Names X x c) (tk : Takes X W) (hm : ∀ C b, m C = some b → PySem.W.exmOne X.K (.ref (He.ga X.K C)) c = some b)
    (hb : ∀ (W : WX) (pn : List (Addr × Obj)) (xe : Value → Shared → Prop), Takes (X.tr pn xe) W → PassesOwn (model X.prog X.w) X.A X.env xe → SSs (X.tr pn xe) W bd cb) {kk : Nat} :
    SS X W (.Try bd [.ExceptHandler (some (.Name x np)) none [.Assign [.Name y py] (.Constant .none kk pn2) pa] pos'] [] [] pos) (cTryN m j cb) := by
  refine ⟨_, ps_try_only (tb := fun W => tsOf X.K W cb) (ts := fun _ _ _ => tAsg (tC .non) (gName j)) hst hfl hc tk (fun W' pn xe t p => (hb W' pn xe t p).pss) (fun a oe cls d pn _ _ => pss_one (ps_set hN hj hly pe_non rfl hfy)), fun G0 G δ σ H0 H E r po => ⟨G0, G, δ, H0, r, ?_⟩⟩
  have po' : PostS X.K W G0 G H0 E (fTry m (fun _ δ1 => .nx (δ1.set j (.pu .non))) (cb δ)) := po
  cases e : cb δ with
  | nx d => rw [e] at po'; exact po'
  | rt d => rw [e] at po'; exact po'
  | rtl d => rw [e] at po'; exact po'
  | rtt d => rw [e] at po'; exact po'
  | rtr d => rw [e] at po'; exact po'
  | bk d => rw [e] at po'; exact po'
  | ct d => rw [e] at po'; exact po'
  | no => rw [e] at po'; exact po'
  | ex C δ1 =>
    rw [e] at po'
    have po2 : PostS X.K W G0 G H0 E (match m C with
      | some true => .nx (δ1.set j (.pu .non))
      | some false => .ex C δ1
      | none => .no) := po'
    intro σ' A B s r'
    cases em : m C with
    | none => rw [em] at po2; exact po2.elim
    | some b =>
      rw [em] at po2
      refine ⟨b, hm C b em, fun eb a na => ?_, fun eb => ?_⟩
      · subst eb
        exact po2 _ A B s (r'.setP .non)
      · subst eb
        exact po2 σ' A B s r'
end
end Dw
namespace Dw
open PySem L2 PyProof.Rows
/-! ### several names at once -/
theorem sw_none1 {ts : List Expr} {kt : Nat} {pt : Pos} {e : Expr} {env : Env} (h : ∀ vs k p, e ≠ .Tuple vs k p) : swappedStores [.Tuple ts kt pt] e env = pure none := by
  cases e <;> first | rfl | exact absurd rfl (h _ _ _)
def lcName (sc : Scope) : Expr → Bool
  | .Name x _ => isLc sc x
  | _ => false
def isTup : Expr → Bool
  | .Tuple _ _ _ => true
  | _ => false
theorem fm_le {f : Expr → Option Str} : ∀ (ts : List Expr), (ts.filterMap f).length ≤ ts.length := fun ts => List.length_filterMap_le f ts
theorem fm_lt {f : Expr → Option Str} : ∀ {ts : List Expr}, (∃ t ∈ ts, f t = none) → (ts.filterMap f).length < ts.length
  | [], h => by
    obtain ⟨t, ht, _⟩ := h
    cases ht
  | t :: ts, h => by
    cases e : f t with
    | none =>
      rw [List.filterMap_cons_none e, List.length_cons]
      exact Nat.lt_succ_of_le (fm_le ts)
    | some y =>
      rw [List.filterMap_cons_some e, List.length_cons, List.length_cons]
      refine Nat.succ_lt_succ (fm_lt ?_)
      obtain ⟨u, hu, eu⟩ := h
      rcases List.mem_cons.mp hu with z | z
      · rw [z, e] at eu; cases eu
      · exact ⟨u, z, eu⟩
theorem sw_none2 {ts vs : List Expr} {kt k2 : Nat} {pt p2 : Pos} {env : Env} (h : ∃ t ∈ ts, ∀ x p, t = .Name x p → ¬ env.kindOf x = some .local) : swappedStores [.Tuple ts kt pt] (.Tuple vs k2 p2) env = pure none := by
  unfold swappedStores
  simp only []
  split
  · rfl
  split
  · rfl
  split
  · rfl
  · rename_i h3
    exfalso
    apply h3
    have hlt : ∀ f : Expr → Option Str, (∀ t x p, t = Expr.Name x p → ¬ env.kindOf x = some .local → f t = none) → (∀ t, (∀ x p, t ≠ Expr.Name x p) → f t = none) → (ts.filterMap f).length < ts.length := fun f h1 h2 => by
      obtain ⟨t, ht, hn⟩ := h
      refine fm_lt ⟨t, ht, ?_⟩
      cases t with
      | Name x p => exact h1 _ x p rfl (hn x p rfl)
      | _ => exact h2 _ (fun x p z => nomatch z)
    rw [Bool.or_eq_true]
    refine .inl ?_
    refine bne_iff_ne.mpr (Nat.ne_of_lt (hlt _ ?_ ?_))
    · rintro t x p rfl hk
      simp [hk]
    · intro t ht
      cases t <;> first | rfl | exact absurd rfl (ht _ _)
/-! ### statements -/
def sSs (f : Stmt → CS) : List Stmt → CS
  | [] => cNx
  | [s] => f s
  | s :: ss => cSeq (f s) (sSs f ss)
/-- an expression that makes a list, by its look -/
def listy (Γ : Ctx) : Nat → Expr → Bool
  | 0, _ => false
  | _ + 1, .List _ _ => true
  | _ + 1, .ListComp _ _ _ _ => true
  | n + 1, .BinOp a .Add _ _ => listy Γ n a
  | n + 1, .BinOp a .Mult _ _ => listy Γ n a
  | n + 1, .IfExp _ a b _ => listy Γ n a && listy Γ n b
  | _ + 1, .Call (.Name x _) _ _ _ => Γ.L.contains x || decide (x = "list")
  | _ + 1, _ => false
def sAsg (Γ : Ctx) (sc : Scope) (p : Scope → Cp) (x : Str) : Expr → CS
  | .ListComp elt [⟨tg, iter, ifs, 0⟩] scope _ => (match slotL Γ sc x with
    | some i => if Γ.M.contains x = true then cAsgN i (nLc Γ sc (p sc) (p scope) elt tg iter ifs scope) else cAsg i (cL (nLc Γ sc (p sc) (p scope) elt tg iter ifs scope))
    | none => cNoS)
  | .List es lp => (match slotL Γ sc x with
    | some i => if Γ.O.contains x = true then (if es.all plainArg = true then cAsgOO i (es.map (p sc).n) else cNoS) else if Γ.M.contains x = true then cAsgN i ((p sc).n (.List es lp)) else cAsg i ((p sc).e (.List es lp))
    | none => cNoS)
  | .Dict [] [] dp => (match slotL Γ sc x with
    | some i => if Γ.Dn.contains x = true then cNewD i else cAsg i ((p sc).e (.Dict [] [] dp))
    | none => cNoS)
  | .Call (.Name f fp) (a :: as) [] cp => (match slotL Γ sc x with
    | some i => if (Γ.Tn.contains x && (isGl sc f && (a :: as).all plainArg)) = true then (match Γ.F f (as.length + 1) with
        | some sem => cAsgF i (as.length + 1) sem (cArgs (p sc).e (a :: as))
        | none => cNoS)
      else if Γ.M.contains x = true then (if listy Γ 6 (.Call (.Name f fp) (a :: as) [] cp) = true then cAsgN i ((p sc).n (.Call (.Name f fp) (a :: as) [] cp)) else cOrS (cAsgN i ((p sc).n (.Call (.Name f fp) (a :: as) [] cp))) (cAsg i ((p sc).e (.Call (.Name f fp) (a :: as) [] cp)))) else cAsg i ((p sc).e (.Call (.Name f fp) (a :: as) [] cp))
    | none => cNoS)
  | e => (match slotL Γ sc x with
    | some i => if isComp e = true then cNoS else if Γ.M.contains x = true then (if listy Γ 6 e = true then cAsgN i ((p sc).n e) else cOrS (cAsgN i ((p sc).n e)) (cAsg i ((p sc).e e))) else cAsg i ((p sc).e e)
    | none => cNoS)
def sTup (Γ : Ctx) (sc : Scope) (p : Scope → Cp) (ts : List Expr) (kt : Nat) (pt : Pos) (e : Expr) : CS :=
  if isComp e = true then cNoS else
  if isTup e = false then cAsgT ((p sc).g (.Tuple ts kt pt)).1 ((p sc).e e) else
  if (ts.any fun t => !lcName sc t) = true then cAsgT ((p sc).g (.Tuple ts kt pt)).1 ((p sc).e e) else
  match ts, e with
  | [.Name x px, .Name y py], .Tuple [a, b] _ _ => (match slotL Γ sc x, slotL Γ sc y with
    | some i, some j => if (plainArg a && plainArg b && (py.line == px.line) && !(decide (x = y)) && !(decide (i = j)) && !([a, b].all (foldedForSure 8)) && !([a, b].all (constantsAlone 8))) = true then cPar2 i j (cArgs (p sc).e [a, b]) else cNoS
    | _, _ => cNoS)
  | _, _ => cNoS
def sExp (Γ : Ctx) (sc : Scope) (q : Cp) : Expr → CS
  | .Call (.Attribute (.Name x pp) m ap) args [] cp => (match slot Γ sc x with
    | some i => if (ap.endLine == cp.line && args.all plainArg) = true then (
        if m = "append" then (match args with
          | [e] => cAppd i (q.e e)
          | _ => cNoS)
        else if m = "insert" then (match args with
          | [e, f] => cIns i (q.e e) (q.e f)
          | _ => cNoS)
        else if m = "clear" then (match args with
          | [] => cClr i
          | _ => cNoS)
        else if m = "pop" then (match args with
          | [] => cPopS i
          | _ => cNoS)
        else cExp (q.e (.Call (.Attribute (.Name x pp) m ap) args [] cp))) else cNoS
    | none => if m = "__init__" then (match args with
        | .Name y py :: es => (match slot Γ sc y, Γ.Ib x es.length with
          | some i, some n => if (isGl sc x && (es.all plainArg && (decide (es.length < 28) && (ap.endLine == cp.line)))) = true then cIniB i es.length n (cArgs q.e es) else cNoS
          | _, _ => cNoS)
        | _ => cNoS)
      else cExp (q.e (.Call (.Attribute (.Name x pp) m ap) args [] cp)))
  | .Call (.Attribute (.Subscript (.Name x pp) (.Constant (.int k) kk kp) sp) m ap) args [] cp => (match slot Γ sc x with
    | some i => if (ap.endLine == cp.line && (args.all plainArg && decide (0 ≤ k))) = true then (
        if m = "append" then (match args with
          | [e] => if Γ.Tn.contains x = true then cAppXI i (q.e (.Constant (.int k) kk kp)) (q.e e) else cAppOO i k.toNat (q.e e)
          | _ => cNoS)
        else if m = "clear" then (match args with
          | [] => if Γ.Tn.contains x = true then cClrXI i (q.e (.Constant (.int k) kk kp)) else cClrOO i k.toNat
          | _ => cNoS)
        else cNoS) else cNoS
    | none => cNoS)
  | e => if isComp e = true then cNoS else cExp (q.e e)
def isSl : Expr → Bool
  | .Subscript _ k _ => !notSlice k
  | _ => false
def sRet (Γ : Ctx) (sc : Scope) (q : Cp) : Expr → CS
  | .Name x pp => (match slot Γ sc x with
    | some i => cRetO i
    | none => cRetV (q.e (.Name x pp)))
  | e => if listy Γ 6 e = true then cRetN (q.n e) else if isSl e = true then cOrS (cRetN (q.n e)) (cRetV (q.e e)) else cRetV (q.e e)
/-- an element of a told tuple: a list of one's own, or a value -/
def mvN (Γ : Ctx) : Expr → Bool
  | .Name x _ => Γ.M.contains x
  | _ => false
def mvOne (Γ : Ctx) (sc : Scope) (q : Cp) : Expr → Sum C Nat
  | .Name x p => if Γ.M.contains x = true then (match slot Γ sc x with
    | some i => .inr i
    | none => .inl (q.e (.Name x p))) else .inl (q.e (.Name x p))
  | e => .inl (q.e e)
def sRetT (Γ : Ctx) (sc : Scope) (q : Cp) : Nat → Expr → CS
  | 0, _ => cNoS
  | n + 1, .Tuple es _ _ => if es.all plainArg = true then (if es.any (mvN Γ) = true then cRetX (es.map (mvOne Γ sc q)) else cRetT (cArgs q.e es)) else cNoS
  | n + 1, .IfExp t a b _ => cIfS (q.t t) (sRetT Γ sc q n a) (sRetT Γ sc q n b)
  | n + 1, .Call (.Name x _) (a :: as) [] _ => if (isGl sc x && (a :: as).all plainArg) = true then (match Γ.F x (as.length + 1) with
      | some sem => cRetF (as.length + 1) sem (cArgs q.e (a :: as))
      | none => cNoS) else cNoS
  | n + 1, e => cRetV (q.e e)
noncomputable def sStep (Γ : Ctx) (sc : Scope) (p : Scope → Cp) (r : List Stmt → CS) : Stmt → CS
  | .Return none _ => cRetN0
  | .Return (some e) _ => if Γ.st = true then sRetT Γ sc (p sc) 5 e else sRet Γ sc (p sc) e
  | .Assign [.Name x _] e _ => sAsg Γ sc p x e
  | .Assign [.Tuple ts kt pt] e _ => sTup Γ sc p ts kt pt e
  | .Assign [.Subscript (.Name x _) (.Name y _) _] (.Constant (.bool true) _ _) _ => (match slot Γ sc x, slot Γ sc y with
    | some i, some j => if Γ.Dn.contains x = true then cPutD i j else cNoS
    | _, _ => cNoS)
  | .Assign [.Subscript (.Name x _) k _] e _ => (match slot Γ sc x with
    | some i => if (notSlice k && !isComp e) = true then (if listy Γ 6 e = true then cSetIN i ((p sc).e k) ((p sc).n e) else cSetI i ((p sc).e k) ((p sc).e e)) else cNoS
    | none => cNoS)
  | .Assign [.Attribute (.Name x _) f _] e _ => (match slot Γ sc x with
    | some i => if isComp e = true then cNoS else cSetF Γ.Fo i f ((p sc).e e)
    | none => cNoS)
  | .AugAssign (.Name x _) op e _ => (match slotL Γ sc x, op with
    | some i, .Add => if Γ.M.contains x = true then cAugL i ((p sc).e e) else cAug i (fun a b => a + b) ((p sc).e e)
    | some i, .Sub => cAug i (fun a b => a - b) ((p sc).e e)
    | _, _ => cNoS)
  | .For tg (.Name x px) body [] _ => if Γ.Dn.contains x = true then (match slot Γ sc x with
      | some i => cForD i ((p sc).g tg).1 (r body)
      | none => cNoS)
    else if foldOk (.Name x px) = true then cFor ((p sc).i tg (.Name x px)) ((p sc).g tg).1 (r body) else cNoS
  | .For tg iter body [] _ => if foldOk iter = true then cFor ((p sc).i tg iter) ((p sc).g tg).1 (r body) else cNoS
  | .While t body [] _ => cWh ((p sc).t t) (r body)
  | .If t a b _ => cIfS ((p sc).t t) (r a) (r b)
  | .Raise (some (.Call (.Name x _) [.Constant (.str _) _ _] [] _)) none _ => if (isGl sc x && Γ.exs.contains x) = true then cRz x else cNoS
  | .Try bd [.ExceptHandler (some (.Name x _)) (some n) [.Assign [.Name y _] (.Name n2 _) _] _] [] [] _ => (match Γ.exm x, slotL Γ sc n, slotL Γ sc y with
    | some m, some i, some j => if (isGl sc x && decide (n2 = n) && isLc sc n && isLc sc y && okName n) = true then cTryK m i j (r bd) else cNoS
    | _, _, _ => cNoS)
  | .Try bd [.ExceptHandler (some (.Name x _)) none [.Assign [.Name y _] (.Constant .none _ _) _] _] [] [] _ => (match Γ.exm x, slotL Γ sc y with
    | some m, some j => if isGl sc x = true then cTryN m j (r bd) else cNoS
    | _, _ => cNoS)
  | .Expr e _ => sExp Γ sc (p sc) e
  | .Pass _ => cNx
  | .Break _ => cBk
  | .Continue _ => cCt
  | _ => cNoS
noncomputable def sComp (Γ : Ctx) (sc : Scope) (p : Scope → Cp) : Nat → Stmt → CS
  | 0 => fun _ => cNoS
  | n + 1 => sStep Γ sc p (sSs (sComp Γ sc p n))
section
variable {X : Cx} {W : WX} {k : Nat} {Γ : Ctx} {sc : Scope} {p : Scope → Cp}
theorem sss_ok {f : Stmt → CS} (h : ∀ st, SS X W st (f st)) : ∀ sts, SSs X W sts (sSs f sts)
  | [] => sss_nil
  | [s] => by
    obtain ⟨t, p, v⟩ := h s
    exact ⟨t, pss_one p, v⟩
  | s :: s2 :: ss => sss_cons (h s) (sss_ok h (s2 :: ss))
theorem sAsg_ok (hp : ∀ sc' W' X', Gd k Γ sc' W' X' → Ok X' W' (p sc')) (g : Gd k Γ sc W X) {x : Str} {e : Expr} {px pos : Pos} : SS X W (.Assign [.Name x px] e pos) (sAsg Γ sc p x e) := by
  have o := hp sc W X g
  unfold sAsg
  split
  · split
    · rename_i i hs
      obtain ⟨h1, h2, h3⟩ := g.slotL hs
      obtain ⟨t, _, q, v⟩ := nLc_ok g o (fun X' g' => hp _ W0 X' g')
      split
      · exact ⟨_, q _ _ _ _ _ h1 h3 h2, evs_asgN v⟩
      · exact ⟨_, q _ _ _ _ _ h1 h3 h2, evs_asg (ev_L v)⟩
    · exact ss_none
  · split
    · rename_i i hs
      obtain ⟨h1, h2, h3⟩ := g.slotL hs
      split
      · split
        · rename_i hp
          exact ss_asgOO g.nd h1 h2 h3 o.n hp
        · exact ss_none
      · split
        · obtain ⟨t, q, v⟩ := o.n (.List _ _)
          exact ⟨_, ps_set g.nd h1 h2 q (swaps_of rfl) h3, evs_asgN v⟩
        · obtain ⟨t, q, v⟩ := o.e (.List _ _)
          exact ⟨_, ps_set g.nd h1 h2 q (swaps_of rfl) h3, evs_asg v⟩
    · exact ss_none
  · split
    · rename_i i hs
      obtain ⟨h1, h2, h3⟩ := g.slotL hs
      split
      · exact ss_newD g.nd h1 h2 h3
      · obtain ⟨t, q, v⟩ := o.e (.Dict [] [] _)
        exact ⟨_, ps_set g.nd h1 h2 q (swaps_of rfl) h3, evs_asg v⟩
    · exact ss_none
  · rename_i f fp a as cp
    split
    · rename_i i hs
      obtain ⟨h1, h2, h3⟩ := g.slotL hs
      split
      · rename_i c
        have c' := Bool.and_eq_true_iff.mp c
        have c2 := Bool.and_eq_true_iff.mp c'.2
        have c3 := Bool.and_eq_true_iff.mp (show (plainArg a && as.all plainArg) = true from c2.2)
        split
        · rename_i sem hsem
          exact ss_asgF g.nd h1 h2 h3 (g.fns _ _ _ hsem) ⟨g.room, g.gu⟩ (g.gl c2.1) g.tk (sl_args o.e c2.2) c3.1 c3.2
        · exact ss_none
      · have a1 : SS X W (.Assign [.Name x px] (.Call (.Name f fp) (a :: as) [] cp) pos) (cAsg i ((p sc).e (.Call (.Name f fp) (a :: as) [] cp))) := by
          obtain ⟨t, q, v⟩ := o.e (.Call (.Name f fp) (a :: as) [] cp)
          exact ⟨_, ps_set g.nd h1 h2 q (swaps_of rfl) h3, evs_asg v⟩
        have b1 : SS X W (.Assign [.Name x px] (.Call (.Name f fp) (a :: as) [] cp) pos) (cAsgN i ((p sc).n (.Call (.Name f fp) (a :: as) [] cp))) := by
          obtain ⟨t, q, v⟩ := o.n (.Call (.Name f fp) (a :: as) [] cp)
          exact ⟨_, ps_set g.nd h1 h2 q (swaps_of rfl) h3, evs_asgN v⟩
        split
        · split
          · exact b1
          · exact ss_or b1 a1
        · exact a1
    · exact ss_none
  · split
    · rename_i i hs
      obtain ⟨h1, h2, h3⟩ := g.slotL hs
      split
      · exact ss_none
      · rename_i hc
        have hc := Bool.not_eq_true _ ▸ hc
        have a : SS X W (.Assign [.Name x px] e pos) (cAsg i ((p sc).e e)) := by
          obtain ⟨t, q, v⟩ := o.e e
          exact ⟨_, ps_set g.nd h1 h2 q (swaps_of (by simpa using hc)) h3, evs_asg v⟩
        have b : SS X W (.Assign [.Name x px] e pos) (cAsgN i ((p sc).n e)) := by
          obtain ⟨t, q, v⟩ := o.n e
          exact ⟨_, ps_set g.nd h1 h2 q (swaps_of (by simpa using hc)) h3, evs_asgN v⟩
        split
        · split
          · exact b
          · exact ss_or b a
        · exact a
    · exact ss_none
theorem sTup_ok (hp : ∀ sc' W' X', Gd k Γ sc' W' X' → Ok X' W' (p sc')) (g : Gd k Γ sc W X) (hk : X.env.scope.kind = .function) (hN : ∀ x, X.env.scope.names.lookup x = some .local → sc.names.lookup x = some .local) {ts : List Expr} {kt : Nat} {pt pos : Pos} {e : Expr} : SS X W (.Assign [.Tuple ts kt pt] e pos) (sTup Γ sc p ts kt pt e) := by
  have o := hp sc W X g
  unfold sTup
  split
  · exact ss_none
  · rename_i hc
    have hc : isComp e = false := by simpa using hc
    split
    · rename_i ht
      refine ss_asgT (o.g _) (o.e e) hc rfl (sw_none1 fun vs k p z => ?_)
      rw [z] at ht
      cases ht
    · split
      · rename_i ht ha
        cases e with
        | Tuple vs k2 p2 =>
          refine ss_asgT (o.g _) (o.e _) hc rfl (sw_none2 ?_)
          obtain ⟨t, hm, hl⟩ := List.any_eq_true.mp ha
          refine ⟨t, hm, fun x p z hk2 => ?_⟩
          subst z
          have z := hN x hk2
          have z2 : isLc sc x = true := by
            unfold isLc
            rw [z]
          have hl' : (!isLc sc x) = true := hl
          rw [z2] at hl'
          cases hl'
        | _ => exact absurd rfl ht
      · rename_i ha
        have ha : (ts.any fun t => !lcName sc t) = false := by simpa using ha
        split
        · split
          · rename_i i j hi hj
            split
            · rename_i c
              simp only [Bool.and_eq_true, Bool.not_eq_true', decide_eq_false_iff_not] at c
              obtain ⟨⟨⟨⟨⟨⟨c1, c2⟩, c3⟩, c4⟩, c5⟩, c6⟩, c7⟩ := c
              have l1 := List.any_eq_false.mp ha _ List.mem_cons_self
              have l2 := List.any_eq_false.mp ha _ (List.mem_cons_of_mem _ List.mem_cons_self)
              simp only [lcName, Bool.not_eq_true', Bool.not_eq_false] at l1 l2
              have lx := g.lc (isLc_ok l1)
              have ly := g.lc (isLc_ok l2)
              obtain ⟨h1, _, _⟩ := g.slotL hi
              obtain ⟨h2, _, _⟩ := g.slotL hj
              have hb : X.env.blockKind = .function := by
                unfold Env.blockKind
                rw [hk]
                rfl
              exact ss_par2 g.calm g.nd h1 h2 c5 lx ly (sl_args o.e (by simp [c1, c2])) (sw_some hb c1 c2 lx ly c3 c4 c6 c7)
            · exact ss_none
          · exact ss_none
        · exact ss_none
theorem sExp_ok (g : Gd k Γ sc W X) {q : Cp} (o : Ok X W q) {e : Expr} {pos : Pos} : SS X W (.Expr e pos) (sExp Γ sc q e) := by
  unfold sExp
  split
  · split
    · rename_i i hs
      obtain ⟨h1, h2, h3, h4⟩ := g.slot hs
      split
      · rename_i c
        have c' := Bool.and_eq_true_iff.mp c
        split
        · rename_i em
          subst em
          split
          · rename_i e
            have z := Bool.and_eq_true_iff.mp (show (plainArg e && [].all plainArg) = true from c'.2)
            exact ss_append h1 h2 h3 h4 (o.e _) z.1 c'.1
          · exact ss_none
        · split
          · rename_i em
            subst em
            split
            · rename_i e f
              have z := Bool.and_eq_true_iff.mp (show (plainArg e && [f].all plainArg) = true from c'.2)
              have z2 := Bool.and_eq_true_iff.mp (show (plainArg f && [].all plainArg) = true from z.2)
              exact ss_insert h1 h2 h3 h4 (o.e _) (o.e _) z.1 z2.1 c'.1
            · exact ss_none
          · split
            · rename_i em
              subst em
              split
              · exact ss_clr h1 h2 h3 h4 c'.1
              · exact ss_none
            · split
              · rename_i em
                subst em
                split
                · exact ss_popS h1 h2 h3 h4 c'.1
                · exact ss_none
              · exact ss_expr (o.e _) rfl
      · exact ss_none
    · split
      · rename_i em
        subst em
        split
        · split
          · rename_i i n hs hi
            obtain ⟨h1, h2, h3, h4⟩ := g.slot hs
            split
            · rename_i c
              have c1 := Bool.and_eq_true_iff.mp c
              have c2 := Bool.and_eq_true_iff.mp c1.2
              have c3 := Bool.and_eq_true_iff.mp c2.2
              exact ss_iniB (g.ob.ib _ _ _ hi) ⟨g.room, g.gu⟩ (g.gl c1.1) g.tk h1 h2 h3 h4 (sl_args o.e c2.1) c2.1 (of_decide_eq_true c3.1) c3.2
            · exact ss_none
          · exact ss_none
        · exact ss_none
      · exact ss_expr (o.e _) rfl
  · split
    · rename_i i hs
      obtain ⟨h1, h2, h3, h4⟩ := g.slot hs
      split
      · rename_i c
        have c' := Bool.and_eq_true_iff.mp c
        have c2 := Bool.and_eq_true_iff.mp c'.2
        have c3 := of_decide_eq_true c2.2
        split
        · rename_i em
          subst em
          split
          · rename_i e
            have z := Bool.and_eq_true_iff.mp (show (plainArg e && [].all plainArg) = true from c2.1)
            split
            · exact ss_appXI h1 h2 h3 h4 (o.e _) rfl (o.e e) z.1 c'.1
            · exact ss_appOI c3 h1 h2 h3 h4 (o.e e) z.1 c'.1
          · exact ss_none
        · split
          · rename_i em
            subst em
            split
            · split
              · exact ss_clrXI h1 h2 h3 h4 (o.e _) rfl c'.1
              · exact ss_clrOI c3 h1 h2 h3 h4 c'.1
            · exact ss_none
          · exact ss_none
      · exact ss_none
    · exact ss_none
  · split
    · exact ss_none
    · rename_i hc
      exact ss_expr (o.e _) (by simpa using hc)
theorem sRet_ok (g : Gd k Γ sc W X) {q : Cp} (o : Ok X W q) {e : Expr} {pos : Pos} : SS X W (.Return (some e) pos) (sRet Γ sc q e) := by
  unfold sRet
  split
  · split
    · rename_i i hs
      obtain ⟨h1, h2, h3, h4⟩ := g.slot hs
      exact ss_retO h1 h2 h3 h4
    · exact ss_retV (o.e _)
  · split
    · exact ss_retN (o.n _)
    · split
      · exact ss_or (ss_retN (o.n _)) (ss_retV (o.e _))
      · exact ss_retV (o.e _)
theorem mvs_of (g : Gd k Γ sc W X) {q : Cp} (o : Ok X W q) : ∀ es : List Expr, es.all plainArg = true → Mvs X W es (es.map (mvOne Γ sc q))
  | [], _ => .nil
  | e :: es, h => by
    have h' := Bool.and_eq_true_iff.mp (show (plainArg e && es.all plainArg) = true from h)
    have ih := mvs_of g o es h'.2
    show Mvs X W (e :: es) (mvOne Γ sc q e :: es.map (mvOne Γ sc q))
    unfold mvOne
    split
    · split
      · split
        · rename_i i hs
          obtain ⟨h1, h2, h3, h4⟩ := g.slot hs
          exact .mv h1 h2 h3 h4 ih
        · exact .val (o.e _) h'.1 ih
      · exact .val (o.e _) h'.1 ih
    · exact .val (o.e _) h'.1 ih
theorem srT_none {e : Expr} : SR X W e cNoS := ⟨_, pe_never, fun _ _ _ _ _ _ _ _ p => p⟩
theorem sRetT_ok (g : Gd k Γ sc W X) {q : Cp} (o : Ok X W q) : ∀ (n : Nat) (e : Expr), SR X W e (sRetT Γ sc q n e) := by
  intro n
  induction n with
  | zero => intro e; unfold sRetT; exact srT_none
  | succ n ih =>
    intro e
    unfold sRetT
    split
    · rename_i heq; cases heq
    · split
      · rename_i h
        split
        · exact sr_retX (mvs_of g o _ h)
        · exact sr_tup (sl_args o.e h)
      · exact srT_none
    · rename_i heq
      cases heq
      exact sr_if (o.t _) (ih _) (ih _)
    · split
      · rename_i c
        have c' := Bool.and_eq_true_iff.mp c
        rename_i x p a as pos _
        have c3 := Bool.and_eq_true_iff.mp (show (plainArg a && as.all plainArg) = true from c'.2)
        split
        · rename_i sem hsem
          exact sr_call (g.fns _ _ _ hsem) ⟨g.room, g.gu⟩ (g.gl c'.1) g.tk (sl_args o.e c'.2) c3.1 c3.2
        · exact srT_none
      · exact srT_none
    · exact sr_v (o.e _)
/-- the context of a def's body (or of a try's within it) -/
structure Df (sc : Scope) (X : Cx) : Prop where
  kind : X.env.scope.kind = .function
  loc : ∀ x, X.env.scope.names.lookup x = some .local → sc.names.lookup x = some .local
  fn : ∀ x, X.fn x = true
  st : X.stack = X.env :: X.outer
  fr : X.env.frame = some X.env.locals
  ex : X.ex = []
theorem Gd.tr (g : Gd k Γ sc W X) {W' : WX} {pn : List (Addr × Obj)} {xe : Value → Shared → Prop} (tk : Takes (X.tr pn xe) W') (po : PassesOwn (model X.prog X.w) X.A X.env xe) : Gd k Γ sc W' (X.tr pn xe) where
  N := g.N
  nd := g.nd
  hsc := g.hsc
  kind := g.kind
  room := g.room
  gu := g.gu
  calm := g.calm
  tk := tk
  po := po
  fnc := g.fnc
  fns := g.fns
  bl := g.bl
  cn := g.cn
  cl := g.cl
  rz := g.rz
  xm := g.xm
  ob := g.ob
theorem Df.tr (d : Df sc X) {pn : List (Addr × Obj)} {xe : Value → Shared → Prop} : Df sc (X.tr pn xe) := ⟨d.kind, d.loc, d.fn, d.st, d.fr, d.ex⟩
theorem sStep_ok (hp : ∀ sc' W' X', Gd k Γ sc' W' X' → Ok X' W' (p sc')) (g : Gd k Γ sc W X) (df : Df sc X) {r : List Stmt → CS} (hr : ∀ W' X', Gd k Γ sc W' X' → Df sc X' → ∀ sts, SSs X' W' sts (r sts)) (st : Stmt) : SS X W st (sStep Γ sc p r st) := by
  have o := hp sc W X g
  unfold sStep
  split
  · exact ss_ret0
  · split
    · exact ss_of_sr (sRetT_ok g o 5 _)
    · exact sRet_ok g o
  · exact sAsg_ok hp g
  · exact sTup_ok hp g df.kind df.loc
  · split
    · rename_i i j hs hs2
      obtain ⟨h1, h2, h3, h4⟩ := g.slot hs
      obtain ⟨h5, h6, h7, h8⟩ := g.slot hs2
      split
      · exact ss_putD (by have := g.room.un; omega) h1 h2 h3 h4 h5 h6 h7 h8
      · exact ss_none
    · exact ss_none
  · split
    · rename_i i hs
      obtain ⟨h1, h2, h3, h4⟩ := g.slot hs
      split
      · rename_i c
        have c' := Bool.and_eq_true_iff.mp c
        split
        · exact ss_setIN h1 h2 h3 h4 (o.e _) (o.n _) (by simpa using c'.2) c'.1
        · exact ss_setI h1 h2 h3 h4 (o.e _) (o.e _) (by simpa using c'.2) c'.1
      · exact ss_none
    · exact ss_none
  · split
    · rename_i i hs
      obtain ⟨h1, h2, h3, h4⟩ := g.slot hs
      split
      · exact ss_none
      · rename_i hc
        exact ss_setF h1 h2 h3 h4 (o.e _) (by simpa using hc) g.ob.fo
    · exact ss_none
  · split
    · rename_i i hs
      obtain ⟨h1, h2, h3⟩ := g.slotL hs
      split
      · exact ss_augL g.nd h1 h2 h3 (o.e _)
      · exact ss_aug g.nd h1 h2 (df.fn _) ip_add (o.e _)
    · rename_i i hs
      obtain ⟨h1, h2, h3⟩ := g.slotL hs
      exact ss_aug g.nd h1 h2 (df.fn _) ip_sub (o.e _)
    · exact ss_none
  · split
    · split
      · rename_i i hs
        obtain ⟨h1, h2, h3, h4⟩ := g.slot hs
        exact ss_forD g.po g.calm h1 h2 h3 h4 (o.g _) (hr W X g df _)
      · exact ss_none
    · split
      · rename_i h
        exact ss_for g.po g.calm (o.i _ _) (o.g _) (hr W X g df _) (fold_of h)
      · exact ss_none
  · split
    · rename_i h
      exact ss_for g.po g.calm (o.i _ _) (o.g _) (hr W X g df _) (fold_of h)
    · exact ss_none
  · exact ss_while g.po (o.t _) (hr W X g df _)
  · exact ss_if (o.t _) (hr W X g df _) (hr W X g df _)
  · split
    · rename_i c
      have c' := Bool.and_eq_true_iff.mp c
      exact ss_raise g.calm g.tk (g.rz _ (List.contains_iff_mem.mp c'.2)) (g.gl c'.1)
    · exact ss_none
  · split
    · rename_i m i j e1 e2 e3
      split
      · rename_i c
        simp only [Bool.and_eq_true, decide_eq_true_eq] at c
        obtain ⟨⟨⟨⟨c1, c2⟩, c3⟩, c4⟩, c5⟩ := c
        subst c2
        obtain ⟨db, cv, hm, hx⟩ := g.xm _ _ e1
        obtain ⟨h1, _, _⟩ := g.slotL e2
        obtain ⟨h2, _, _⟩ := g.slotL e3
        have on := okName_ok c5
        exact ss_tryK df.st df.fr df.ex g.nd h1 h2 (g.lc (isLc_ok c3)) (g.lc (isLc_ok c4)) on.1 on.2 ⟨g.gl c1, db, .inl hm⟩ g.tk hx fun W' pn xe tk po => hr W' _ (g.tr tk po) df.tr _
      · exact ss_none
    · exact ss_none
  · split
    · rename_i m j e1 e3
      split
      · rename_i c1
        obtain ⟨db, cv, hm, hx⟩ := g.xm _ _ e1
        obtain ⟨h2, h3, h4⟩ := g.slotL e3
        exact ss_tryN df.st df.fr g.nd h2 h3 h4 ⟨g.gl c1, db, .inl hm⟩ g.tk hx fun W' pn xe tk po => hr W' _ (g.tr tk po) df.tr _
      · exact ss_none
    · exact ss_none
  · exact sExp_ok g o
  · exact ss_pass
  · exact ss_break
  · exact ss_cont
  · exact ss_none
theorem sComp_ok (hp : ∀ sc' W' X', Gd k Γ sc' W' X' → Ok X' W' (p sc')) : ∀ (n : Nat) (W : WX) (X : Cx), Gd k Γ sc W X → Df sc X → ∀ st : Stmt, SS X W st (sComp Γ sc p n st)
  | 0, _, _, _, _, _ => ss_none
  | n + 1, W, X, g, df, st => sStep_ok hp g df (fun W' X' g' df' => sss_ok (sComp_ok hp n W' X' g' df')) st
end
end Dw
namespace Dw
open PySem L2 PyProof.Rows
/-! ### a def -/
def ini (n : Nat) (ds : List D) : List Sl := ds.map Sl.pu ++ List.replicate (n - ds.length) Sl.un
def outF : Fl → Rs
  | .nx _ => .ok .non
  | .rt d => .ok d
  | .rtl es => .okl es
  | .rtt es => .okt es
  | .rtr o => .okr o
  | .ex C _ => .ex C
  | _ => .no
def run (n : Nat) (c : CS) (ds : List D) : Rs := outF (c (ini n ds))
/-- what is known of the module -/
structure Kn (P : Program) (w : World) (K : PySem.W.Frag) (mg : Str → Option Value) (base : Heap) (k : Nat) (Γ : Ctx) : Prop where
  fns : ∀ x m sem, Γ.F x m = some sem → FK P w K mg base k x m sem
  bl : ∀ x ∈ blts, mg x = none
  cn : ∀ x d, Γ.Gc x = some d → (x == ("__debug__" : Str)) = false ∧ ∃ v u, mg x = some u ∧ RelV v u ∧ ∀ H, Dr K H v d
  cl : ∀ x f, Γ.isi x = some f → (x == ("__debug__" : Str)) = false ∧ ∃ v u, (mg x = some u ∨ (mg x = none ∧ bootBuiltins x = some u ∧ x ≠ "__name__")) ∧ RelV v u ∧ ClsV v u ∧ IsOf K u f
  rz : ∀ x ∈ Γ.exs, RzK K mg x
  xm : ∀ x m, Γ.exm x = some m → (x == ("__debug__" : Str)) = false ∧ ∃ c, mg x = some c ∧ ∀ C b, m C = some b → PySem.W.exmOne K (.ref (He.ga K C)) c = some b
  ob : ObK P w K mg base k Γ
noncomputable def body (Γ : Ctx) (sc : Scope) (n m : Nat) (sts : List Stmt) : CS := sSs (sComp Γ sc (comp Γ n) m) sts
section
variable {P : Program} {w : World} {K : PySem.W.Frag} {mg : Str → Option Value} {base : Heap}
theorem rel_ini {N : List Str} {H0 H : Hp} {vs : List V} {ds : List D} (e : Same H0 H) (h : DrAll K H0 vs ds) : Rel K H0 H (ini N.length ds) (L2.start N vs) H0 H := by
  have hl := h.length
  refine ⟨Stp.refl e, ?_, fun i d hd => ?_, fun i es hd => ?_, (fun _ => []), ⟨fun i => ?_, fun _ _ _ m => (nomatch m), fun _ _ m => (nomatch m)⟩⟩
  · unfold L2.start ini
    rw [List.length_append, List.length_append, List.length_map, List.length_map, List.length_replicate, List.length_replicate, hl]
  · unfold ini at hd
    by_cases hi : i < ds.length
    · rw [List.getElem?_append_left (by rw [List.length_map]; exact hi), List.getElem?_map] at hd
      cases hx : ds[i]? with
      | none => rw [hx] at hd; cases hd
      | some d' =>
        rw [hx] at hd
        cases hd
        obtain ⟨v, hv, q⟩ := h.get hx
        refine ⟨v, ?_, q⟩
        unfold L2.start
        rw [List.getElem?_append_left (by rw [List.length_map, hl]; exact hi), List.getElem?_map, hv]
        rfl
    · rw [List.getElem?_append_right (by rw [List.length_map]; exact Nat.le_of_not_lt hi), List.getElem?_replicate] at hd
      split at hd <;> cases hd
  · unfold ini at hd
    by_cases hi : i < ds.length
    · rw [List.getElem?_append_left (by rw [List.length_map]; exact hi), List.getElem?_map] at hd
      cases hx : ds[i]? with
      | none => rw [hx] at hd; cases hd
      | some d' => rw [hx] at hd; cases hd
    · rw [List.getElem?_append_right (by rw [List.length_map]; exact Nat.le_of_not_lt hi), List.getElem?_replicate] at hd
      split at hd <;> cases hd
  · have hd : ∀ s, (ini N.length ds)[i]? = some s → s = .un ∨ ∃ d, s = .pu d := fun s hd => by
      unfold ini at hd
      by_cases hi : i < ds.length
      · rw [List.getElem?_append_left (by rw [List.length_map]; exact hi), List.getElem?_map] at hd
        cases hx : ds[i]? with
        | none => rw [hx] at hd; cases hd
        | some d' => rw [hx] at hd; cases hd; exact .inr ⟨_, rfl⟩
      · rw [List.getElem?_append_right (by rw [List.length_map]; exact Nat.le_of_not_lt hi), List.getElem?_replicate] at hd
        split at hd
        · cases hd; exact .inl rfl
        · cases hd
    cases q : (ini N.length ds)[i]? with
    | none => exact rfl
    | some s =>
      rcases hd s q with e | ⟨d, e⟩
      · subst e; exact rfl
      · subst e; exact rfl
theorem gd_of {k : Nat} {Γ : Ctx} {qual : Str} {sc : Scope} {ps : List Str} {f : Addr} {cd : Value} {A : Around} {outer : List Env} {s : Shared} {H : Hp} {E : XK} (kn : Kn P w K mg base k Γ) (S : FnScope Γ.N ps sc) (hr : Room k (A.deeper (envOfC qual sc s.heap.objs.size f cd))) (hgu : A.guards = some []) :
    Gd k Γ sc (fun cls d _ H => E cls d H) (cxOf (L2.CX P w) P w K mg base Γ.N qual sc f cd A outer s H E) where
  N := rfl
  nd := S.nd
  hsc := fun x kd h => ⟨kd, h, .inl rfl⟩
  kind := S.kind
  room := hr
  gu := hgu
  calm := rfl
  tk := takes_of rfl rfl rfl rfl
  po := passes_of rfl
  fnc := fun _ _ => rfl
  fns := kn.fns
  bl := kn.bl
  cn := kn.cn
  cl := kn.cl
  rz := kn.rz
  xm := kn.xm
  ob := kn.ob
/-- THE RULE: a def keeps what its closure tells -/
theorem fn_ok {k : Nat} {Γ : Ctx} {x qual : Str} {params : Arguments} {bd : List Stmt} {sc : Scope} {dvs : List V} {kws : List (Str × V)} {f : Addr} {fd : FuncData} {ps : List Str} {n m : Nat} (F : FunD K x qual params bd sc dvs kws f fd) (S : FnScope Γ.N ps sc) (kn : Kn P w K mg base k Γ) :
    FnG P w K mg base (k + 1) f fd ps (spF K ps.length (run Γ.N.length (body Γ sc n m bd))) := by
  refine fnG_of F S (fun vs H Q E h => h.1) fun cdv A outer s H vs Q E hr hgu h => ?_
  obtain ⟨hl, H0, ds, e, dr, an⟩ := h
  have g := gd_of (kn := kn) (S := S) (qual := qual) (f := f) (cd := cdv) (A := A) (outer := outer) (s := s) (H := H) (E := E) hr hgu
  obtain ⟨t, p, v⟩ := sss_ok (sComp_ok (fun sc' W' X' g' => comp_ok n sc' W' X' g') m _ _ g ⟨S.kind, fun _ h => h, fun _ => rfl, rfl, rfl, rfl⟩) bd
  refine ⟨t, p, v H0 H (ini Γ.N.length ds) _ H0 H _ (rel_ini e dr) ?_⟩
  have an' : Ans K H0 H (outF (body Γ sc n m bd (ini Γ.N.length ds))) Q E := an
  show PostS K (fun cls d _ H => E cls d H) H0 H H0 _ (body Γ sc n m bd (ini Γ.N.length ds))
  cases eb : body Γ sc n m bd (ini Γ.N.length ds) with
  | nx δ => rw [eb] at an'; exact fun σ A B s r => an' A B .non r.st .non
  | rt d => rw [eb] at an'; exact fun A B v s st q => an' A B v st q
  | rtl es => rw [eb] at an'; exact fun A B v s st q => an' A B v st q
  | rtt es => rw [eb] at an'; exact fun A B v s st q => an' A B v st q
  | rtr es => rw [eb] at an'; exact fun A B v s st q => an' A B v st q
  | bk δ => rw [eb] at an'; exact an'.elim
  | ct δ => rw [eb] at an'; exact an'.elim
  | ex C δ => rw [eb] at an'; exact fun σ A B s r => an' A B r.st
  | no => rw [eb] at an'; exact an'
/-- .. called with all its arguments -/
theorem fk_of {k : Nat} {Γ : Ctx} {x qual : Str} {params : Arguments} {bd : List Stmt} {sc : Scope} {dvs : List V} {kws : List (Str × V)} {fd : FuncData} {ps : List Str} {n m : Nat} {c : CS} (F : FunD K x qual params bd sc dvs kws (He.ga K x) fd) (S : FnScope Γ.N ps sc) (kn : Kn P w K mg base k Γ)
    (hb : Binds K fd ps []) (hm : mg x = some (.ref (He.ga K x))) (hd : (x == ("__debug__" : Str)) = false) (hc : body Γ sc n m bd = c) : FK P w K mg base (k + 1) x ps.length (run Γ.N.length c) where
  ex := ⟨fd, ps, [], [], [], _, fn_ok F S kn (n := n) (m := m), hb, .nil, fun _ => .nil, rfl, fun as _ => by rw [List.append_nil, hc]⟩
  gl := hm
  kp := F.kp
  db := hd
/-- .. with defaults put in: dd, for the last parameters -/
theorem fk_dfl {k : Nat} {Γ : Ctx} {x qual : Str} {params : Arguments} {bd : List Stmt} {sc : Scope} {dvs : List V} {kws : List (Str × V)} {fd : FuncData} {ps : List Str} {n m j : Nat} {c : CS} {dus : List V} {dd : List D} (F : FunD K x qual params bd sc dvs kws (He.ga K x) fd) (S : FnScope Γ.N ps sc) (kn : Kn P w K mg base k Γ)
    (hb : ∃ ds, Vals dus ds ∧ Binds K fd ps ds) (hdd : ∀ H, DrAll K H dus dd) (hj : j + dd.length = ps.length) (hm : mg x = some (.ref (He.ga K x))) (hd : (x == ("__debug__" : Str)) = false) (hc : body Γ sc n m bd = c) : FK P w K mg base (k + 1) x j (fun as => run Γ.N.length c (as ++ dd)) where
  ex := by
    obtain ⟨ds, rv, b⟩ := hb
    exact ⟨fd, ps, ds, dus, dd, _, fn_ok F S kn (n := n) (m := m), b, rv, hdd, hj, fun as _ => by rw [hc]⟩
  gl := hm
  kp := F.kp
  db := hd
theorem FK.mono {j k : Nat} {x : Str} {m : Nat} {sem : List D → Rs} (F : FK P w K mg base j x m sem) (h : j ≤ k) : FK P w K mg base k x m sem where
  ex := by
    obtain ⟨fd, ps, ds, dvs, dd, sem0, G, r⟩ := F.ex
    exact ⟨fd, ps, ds, dvs, dd, sem0, G.mono h, r⟩
  gl := F.gl
  kp := F.kp
  db := F.db
/-! ### __init__ -/
def iniO (n : Nat) (C : Str) (fs : List Str) (ds as : List D) : List Sl := .os C fs ds :: (as.map Sl.pu ++ List.replicate (n - 1 - as.length) Sl.un)
def outI (C : Str) : Fl → Ro
  | .nx δ => (match δ[0]? with
    | some (Sl.os C' fs ds) => if C' = C then .ok fs ds else .no
    | _ => .no)
  | .ex B _ => .ex B
  | _ => .no
def runI (n : Nat) (c : CS) : Ini := fun C fs ds as => outI C (c (iniO n C fs ds as))
theorem rel_iniO {N : List Str} {H0 H : Hp} {C : Str} {x dx : Addr} {fvs : List (Str × V)} {us : List V} {ds as : List D} (e : Same H0 H) (nx : H0 x = none) (nd : H0 dx = none) (ne : dx ≠ x) (hx : H x = some (.ins (He.ga K C) dx fvs)) (ho : H dx = some (.own x)) (hd : DrAll K H0 (fvs.map (·.2)) ds) (ha : DrAll K H0 us as) :
    Rel K H0 (cut2 H x dx) (iniO N.length C (fvs.map (·.1)) ds as) (L2.start N (.ref x :: us)) H0 H := by
  have hl := ha.length
  have tail : ∀ i s, (iniO N.length C (fvs.map (·.1)) ds as)[i + 1]? = some s → s = .un ∨ ∃ d v, s = .pu d ∧ (L2.start N (.ref x :: us))[i + 1]? = some (some v) ∧ Dr K H0 v d := fun i s h => by
    unfold iniO at h
    rw [List.getElem?_cons_succ] at h
    by_cases hi : i < as.length
    · rw [List.getElem?_append_left (by rw [List.length_map]; exact hi), List.getElem?_map] at h
      cases hq : as[i]? with
      | none => rw [hq] at h; cases h
      | some d =>
        rw [hq] at h
        cases h
        obtain ⟨v, hv, dv⟩ := ha.get hq
        refine .inr ⟨d, v, rfl, ?_, dv⟩
        unfold L2.start
        rw [List.map_cons, List.cons_append, List.getElem?_cons_succ, List.getElem?_append_left (by rw [List.length_map, hl]; exact hi), List.getElem?_map, hv]
        rfl
    · rw [List.getElem?_append_right (by rw [List.length_map]; exact Nat.le_of_not_lt hi), List.getElem?_replicate] at h
      split at h
      · cases h; exact .inl rfl
      · cases h
  refine ⟨⟨Same.refl _, fun a u z => (cut2_some z).2.2, e, fun a u z _ _ => z⟩, ?_, fun i d h => ?_, fun i d h => ?_, fun i => if i = 0 then [x, dx] else [], ⟨fun i => ?_, fun i j a h1 h2 => ?_, fun i a h1 => ?_⟩⟩
  · unfold L2.start iniO
    simp only [List.length_append, List.length_map, List.length_cons, List.length_replicate, hl]
    omega
  · cases i with
    | zero => unfold iniO at h; cases h
    | succ i =>
      rcases tail i _ h with z | ⟨d', v, z, hv, dv⟩
      · cases z
      · cases z; exact ⟨v, hv, dv⟩
  · cases i with
    | zero => unfold iniO at h; cases h
    | succ i =>
      rcases tail i _ h with z | ⟨d', v, z, hv, dv⟩
      · cases z
      · cases z
  · cases i with
    | zero =>
      show OwnO K H0 H (some (.os C (fvs.map (·.1)) ds)) ((L2.start N (.ref x :: us))[0]?) [x, dx]
      exact ⟨x, dx, fvs, rfl, rfl, ne, hx, ho, rfl, hd⟩
    | succ i =>
      show OwnO K H0 H _ _ []
      cases q : (iniO N.length C (fvs.map (·.1)) ds as)[i + 1]? with
      | none => exact rfl
      | some s =>
        rcases tail i _ q with z | ⟨d', v, z, _, _⟩
        · subst z; exact rfl
        · subst z; exact rfl
  · have h1' : a ∈ (if i = 0 then [x, dx] else []) := h1
    have h2' : a ∈ (if j = 0 then [x, dx] else []) := h2
    split at h1'
    · split at h2'
      · omega
      · cases h2'
    · cases h1'
  · have h1' : a ∈ (if i = 0 then [x, dx] else []) := h1
    split at h1'
    · rcases List.mem_cons.mp h1' with z | z
      · rw [z]; exact ⟨cut2_x, nx⟩
      · rw [List.mem_singleton.mp z]; exact ⟨cut2_y, nd⟩
    · cases h1'
/-! the statements of an __init__ leave the names as they are -/
def cExpD (c : C) : CS := fun δ => match c δ with
  | .ok _ => .nx δ
  | .ex B => .ex B δ
  | .no => .no
def cSetD (ok : Str → Str → Bool) (f : Str) (c : C) : CS := fun δ => match c δ with
  | .ok d => kSetF ok 0 f d δ δ[0]?
  | .ex B => .ex B δ
  | .no => .no
def PostU (K : PySem.W.Frag) (W : WX) (G0 G H0 : Hp) (σ : L2.St) (p dx : Addr) (E : Ends) : Fl → Prop
  | .nx δ => ∀ A B, Same H0 A → Rel K G0 G δ σ A B → (∃ D fvs, B p = some (.ins D dx fvs)) → E.nx σ B
  | .ex C _ => ∀ A B, Same H0 A → Stp G0 G A B → W (.ref (He.ga K C)) none σ B
  | _ => False
def EvU (K : PySem.W.Frag) (W : WX) (t : TS) (c : CS) : Prop := ∀ G0 G δ σ H0 H E p dx, Rel K G0 G δ σ H0 H → σ[0]? = some (some (.ref p)) → (∃ D fvs, H p = some (.ins D dx fvs)) → PostU K W G0 G H0 σ p dx E (c δ) → t E σ H
def SU (X : Cx) (W : WX) (st : Stmt) (c : CS) : Prop := ∃ t, PS X st t ∧ EvU X.K W t c
def SUs (X : Cx) (W : WX) (st : List Stmt) (c : CS) : Prop := ∃ t, PSs X st t ∧ EvU X.K W t c
section
variable {X : Cx} {W : WX}
theorem su_none {st : Stmt} : SU X W st cNoS := ⟨_, ps_never, fun _ _ _ _ _ _ _ _ _ _ _ _ p => p.elim⟩
theorem sus_nil : SUs X W [] cNx := ⟨_, pss_nil, fun G0 G δ σ H0 H E p dx r hs hp po => po H0 H (Same.refl _) r hp⟩
theorem sus_cons {st : Stmt} {sts : List Stmt} {a b : CS} (h1 : SU X W st a) (h2 : SUs X W sts b) : SUs X W (st :: sts) (cSeq a b) := by
  obtain ⟨t, p, v⟩ := h1
  obtain ⟨u, q, w⟩ := h2
  refine ⟨_, pss_cons p q, fun G0 G δ σ H0 H E y dy r hs hp po => ?_⟩
  refine v G0 G δ σ H0 H _ y dy r hs hp ?_
  have po' : PostU X.K W G0 G H0 σ y dy E (fSeq (a δ) b) := po
  cases ea : a δ with
  | nx δ' =>
    rw [ea] at po'
    intro A B s r2 hp2
    refine w G0 G δ' σ A B E y dy r2 hs hp2 ?_
    have po2 : PostU X.K W G0 G H0 σ y dy E (b δ') := po'
    cases eb : b δ' with
    | nx δ2 => rw [eb] at po2; exact fun A2 B2 s2 => po2 A2 B2 (s.trans s2)
    | ex C δ2 => rw [eb] at po2; exact fun A2 B2 s2 => po2 A2 B2 (s.trans s2)
    | rt d => rw [eb] at po2; exact po2.elim
    | rtl d => rw [eb] at po2; exact po2.elim
    | rtt d => rw [eb] at po2; exact po2.elim
    | rtr d => rw [eb] at po2; exact po2.elim
    | bk d => rw [eb] at po2; exact po2.elim
    | ct d => rw [eb] at po2; exact po2.elim
    | no => rw [eb] at po2; exact po2.elim
  | ex C δ' => rw [ea] at po'; exact po'
  | rt d => rw [ea] at po'; exact po'.elim
  | rtl d => rw [ea] at po'; exact po'.elim
  | rtt d => rw [ea] at po'; exact po'.elim
  | rtr d => rw [ea] at po'; exact po'.elim
  | bk d => rw [ea] at po'; exact po'.elim
  | ct d => rw [ea] at po'; exact po'.elim
  | no => rw [ea] at po'; exact po'.elim
theorem su_expr {e : Expr} {pos : Pos} {c : C} (h : SE X W e c) (hc : isComp e = false) : SU X W (.Expr e pos) (cExpD c) := by
  obtain ⟨t, p, v⟩ := h
  refine ⟨_, ps_expr p (swaps_of hc), fun G0 G δ σ H0 H E y dy r hs hp po => ?_⟩
  refine v G0 G δ σ H0 H _ r ?_
  have po' : PostU X.K W G0 G H0 σ y dy E (match c δ with
    | .ok _ => .nx δ
    | .ex B => .ex B δ
    | .no => .no) := po
  cases ec : c δ with
  | ok d =>
    rw [ec] at po'
    intro A B u s du
    obtain ⟨D, fvs, hp⟩ := hp
    exact po' A B s.e0 (r.step s) ⟨D, fvs, s.e _ _ hp⟩
  | ex C => rw [ec] at po'; exact fun A B s => po' A B s.e0 (r.step s).st
  | no => rw [ec] at po'; exact po'.elim
theorem su_set {x f : Str} {e : Expr} {p ap pos : Pos} {ok : Str → Str → Bool} {c : C} (hN : X.N[0]? = some x) (hv : Vis X.env.scope x) (hd : (x == ("__debug__" : Str)) = false) (hcd : (x == ("__classdict__" : Str)) = false) (h : SE X W e c) (hc : isComp e = false) (hk : ClF X.K ok) :
    SU X W (.Assign [.Attribute (.Name x p) f ap] e pos) (cSetD ok f c) := by
  obtain ⟨t, q, v⟩ := h
  refine ⟨_, ps_fld (pe_var hN hv hd hcd) q (swaps_of hc), fun G0 G δ σ H0 H E y dy r hs hp po => ?_⟩
  refine v G0 G δ σ H0 H _ r ?_
  have po' : PostU X.K W G0 G H0 σ y dy E (match c δ with
    | .ok d => kSetF ok 0 f d δ δ[0]?
    | .ex B => .ex B δ
    | .no => .no) := po
  cases ec : c δ with
  | no => rw [ec] at po'; exact po'.elim
  | ex C => rw [ec] at po'; exact fun A B s => po' A B s.e0 (r.step s).st
  | ok d =>
    rw [ec] at po'
    intro A B u s du
    have r2 := r.step s
    have po2 : PostU X.K W G0 G H0 σ y dy E (kSetF ok 0 f d δ δ[0]?) := po'
    unfold kSetF at po2
    split at po2
    · rename_i C fs ds e0
      split at po2
      · rename_i hok
        obtain ⟨p0, dx, fvs, hs2, ne, g1, g2, n1, n2, hp2, ho, hn, hd2, put⟩ := r2.os e0
        rw [hs] at hs2
        cases hs2
        obtain ⟨c1, c2⟩ := hk.cl _ _ hok.1
        obtain ⟨D, fv, hp⟩ := hp
        have e2 := s.e _ _ hp
        rw [hp2] at e2
        cases e2
        refine ⟨_, hs, y, _, dy, fvs, rfl, hp2, c1, c2, ?_, ?_⟩
        · rw [← hn, List.length_map] at hok
          exact hok.2
        · refine po2 A _ s.e0 (put _ _ _ ?_ ?_) ⟨_, _, upd_same⟩
          · rw [putF_n, hn]
          · rw [← hn]
            exact putF_d du hd2
      · exact po2.elim
    · exact po2.elim
theorem su_iniB {k n : Nat} {x y : Str} {ini : Ini} {ca : CA} {es : List Expr} {p pos apos py epos : Pos} (F : IbK X.prog X.w X.K X.mg X.base k x n ini) (hr : Room k X.A ∧ X.A.guards = some []) (hg : Gl X x) (tk : Takes X W) (hN : X.N[0]? = some y) (hv : Vis X.env.scope y) (hd : (y == ("__debug__" : Str)) = false) (hcd : (y == ("__classdict__" : Str)) = false)
    (ha : SL X W es ca) (hp : es.all plainArg = true) (hn : es.length < 28) (hline : (apos.endLine == pos.line) = true) :
    SU X W (.Expr (.Call (.Attribute (.Name x p) "__init__" apos) (.Name y py :: es) [] pos) epos) (cIniB 0 n ini ca) := by
  obtain ⟨f, fd, ps, cr, cv, kp, G, b⟩ := F.ex
  obtain ⟨t, pa, v⟩ := ha
  have key : PS X (.Expr (.Call (.Attribute (.Name x p) "__init__" apos) (.Name y py :: es) [] pos) epos) (fun E σ H => ∃ C', tCallSD (spI X.K C' n ini) [] (WE W) (tCons (tVar 0) t) σ H fun _ H' => E.nx σ H') := by
    refine ⟨fun pins s σ H En I h => ?_⟩
    obtain ⟨C', h⟩ := h
    have pe := pe_clsG (E := WE W) (pos := pos) cr cv kp (G C') hr hg F.gl b (fun σ => passAt tk σ) (pa_cons (pe_var (pos := py) hN hv hd hcd) pa (star_of rfl)) F.db (show ((.Name y py :: es : List Expr)).all plainArg = true from hp) (by rw [List.length_cons]; omega) hline (p := p)
    exact (ps_expr pe rfl).run pins s σ H En I h
  refine ⟨_, key, fun G0 G1 δ σ H0 H En z dz r hs hz po => ?_⟩
  have po' : PostU X.K W G0 G1 H0 σ z dz En (kIniB 0 n ini ca δ δ[0]?) := po
  unfold kIniB at po'
  split at po'
  · rename_i C' fs ds e0
    refine ⟨C', _, hs, ?_⟩
    refine v G0 G1 δ σ H0 H _ r ?_
    cases ec : ca δ with
    | no => rw [ec] at po'; exact po'.elim
    | ex B => rw [ec] at po'; exact fun A B' s => po' A B' s.e0 (r.step s).st
    | ok as =>
      rw [ec] at po'
      have po2 : PostU X.K W G0 G1 H0 σ z dz En (if as.length = n then kIni C' 0 δ (ini C' fs ds as) else .no) := po'
      split at po2
      · rename_i hl
        intro A B vs s dv
        have r2 := r.step s
        obtain ⟨q', dx', fvs', hs', ne', g1', g2', n1', n2', hq', ho', hn2, hd2, _⟩ := r2.os e0
        rw [hs] at hs'
        cases hs'
        obtain ⟨D, fv, hz⟩ := hz
        have e2 := s.e _ _ hz
        rw [hq'] at e2
        cases e2
        have hv := DrAll.length dv
        show spI X.K C' n ini ((V.ref z :: vs) ++ []) B _ _
        rw [List.append_nil]
        refine ⟨by rw [List.length_cons]; omega, A, z, dz, fvs', vs, ds, as, rfl, r2.same, n1', n2', ne', hq', ho', hd2, dv, ?_⟩
        rw [hn2]
        unfold AnsI
        cases er : ini C' fs ds as with
        | no => rw [er] at po2; exact po2.elim
        | ex B' =>
          rw [er] at po2
          intro A2 B2 st
          exact po2 A2 B2 (s.e0.trans st.e0) (r2.through e0 hs ⟨fvs', hq'⟩ st).1.st
        | ok fs' ds' =>
          rw [er] at po2
          intro A2 B2 gvs st m1 m2 m3 m4 m5 m6
          exact po2 A2 B2 (s.e0.trans st.e0) ((r2.through e0 hs ⟨fvs', hq'⟩ st).2 C' fs' ds' gvs m1 m2 m3 m4 m5 m6) ⟨_, _, m3⟩
      · exact po2.elim
  · exact po'.elim
end
/-- the compiler of such statements -/
def isSelf (Γ : Ctx) (sc : Scope) (x : Str) : Bool := decide (slot Γ sc x = some 0)
def sI (Γ : Ctx) (sc : Scope) (q : Cp) : Stmt → CS
  | .Assign [.Attribute (.Name x _) f _] e _ => if (isSelf Γ sc x && !isComp e) = true then cSetD Γ.Fo f (q.e e) else cNoS
  | .Expr e _ => (match e with
    | .Call (.Attribute (.Name x pp) m ap) (.Name y py :: es) [] cp => if m = "__init__" then (match Γ.Ib x es.length with
        | some ini => if (isGl sc x && (isSelf Γ sc y && (es.all plainArg && (decide (es.length < 28) && (ap.endLine == cp.line))))) = true then cIniB 0 es.length ini (cArgs q.e es) else cNoS
        | none => cNoS)
      else cNoS
    | e => if isComp e = true then cNoS else cExpD (q.e e))
  | _ => cNoS
def sIs (Γ : Ctx) (sc : Scope) (q : Cp) : List Stmt → CS
  | [] => cNx
  | s :: ss => cSeq (sI Γ sc q s) (sIs Γ sc q ss)
theorem sI_ok {k : Nat} {Γ : Ctx} {sc : Scope} {W : WX} {X : Cx} (g : Gd k Γ sc W X) {q : Cp} (o : Ok X W q) (st : Stmt) : SU X W st (sI Γ sc q st) := by
  unfold sI
  split
  · split
    · rename_i c
      have c' := Bool.and_eq_true_iff.mp c
      obtain ⟨h1, h2, h3, h4⟩ := g.slot (of_decide_eq_true c'.1)
      exact su_set h1 h2 h3 h4 (o.e _) (by simpa using c'.2) g.ob.fo
    · exact su_none
  · split
    · split
      · rename_i em
        subst em
        split
        · rename_i ini hi
          split
          · rename_i c
            have c1 := Bool.and_eq_true_iff.mp c
            have c2 := Bool.and_eq_true_iff.mp c1.2
            have c3 := Bool.and_eq_true_iff.mp c2.2
            have c4 := Bool.and_eq_true_iff.mp c3.2
            obtain ⟨h1, h2, h3, h4⟩ := g.slot (of_decide_eq_true c2.1)
            exact su_iniB (g.ob.ib _ _ _ hi) ⟨g.room, g.gu⟩ (g.gl c1.1) g.tk h1 h2 h3 h4 (sl_args o.e c3.1) c3.1 (of_decide_eq_true c4.1) c4.2
          · exact su_none
        · exact su_none
      · exact su_none
    · split
      · exact su_none
      · rename_i hc
        exact su_expr (o.e _) (by simpa using hc)
  · exact su_none
theorem sIs_ok {k : Nat} {Γ : Ctx} {sc : Scope} {W : WX} {X : Cx} (g : Gd k Γ sc W X) {q : Cp} (o : Ok X W q) : ∀ sts : List Stmt, SUs X W sts (sIs Γ sc q sts)
  | [] => sus_nil
  | s :: ss => sus_cons (sI_ok g o s) (sIs_ok g o ss)
def bodyI (Γ : Ctx) (sc : Scope) (n : Nat) (sts : List Stmt) : CS := sIs Γ sc (comp Γ n sc) sts
theorem fnI_ok {k : Nat} {Γ : Ctx} {x qual : Str} {params : Arguments} {bd : List Stmt} {sc : Scope} {dvs : List V} {kws : List (Str × V)} {f : Addr} {fd : FuncData} {ps : List Str} {q : Nat} {n : Nat} {c : CS} (F : FunD K x qual params bd sc dvs kws f fd) (S : FnScope Γ.N ps sc) (kn : Kn P w K mg base k Γ) (hq : ps.length = q + 1) (hN : Γ.N ≠ []) (hc : bodyI Γ sc n bd = c) (C : Str) :
    FnG P w K mg base (k + 1) f fd ps (spI K C q (runI Γ.N.length c)) := by
  subst hc
  refine fnG_of F S (fun vs H Q E h => by rw [h.1, hq]) fun cdv A outer s H vs Q E hr hgu h => ?_
  obtain ⟨hl, H0, y, dy, fvs, us, ds, as, rfl, e, nx, nd, ne, hx, ho, hd, ha, an⟩ := h
  have g := gd_of (kn := kn) (S := S) (qual := qual) (f := f) (cd := cdv) (A := A) (outer := outer) (s := s) (H := H) (E := E) hr hgu
  obtain ⟨t, p, v⟩ := sIs_ok g (comp_ok n sc _ _ g) bd
  have hs0 : (L2.start Γ.N (.ref y :: us))[0]? = some (some (.ref y)) := rfl
  refine ⟨t, p, v H0 (cut2 H y dy) _ _ H0 H _ y dy (rel_iniO e nx nd ne hx ho hd ha) hs0 ⟨_, _, hx⟩ ?_⟩
  have an' : AnsI K H0 H y dy C (outI C (bodyI Γ sc n bd (iniO Γ.N.length C (fvs.map (·.1)) ds as))) Q E := an
  show PostU K (fun cls d _ H => E cls d H) H0 (cut2 H y dy) H0 _ y dy _ (bodyI Γ sc n bd (iniO Γ.N.length C (fvs.map (·.1)) ds as))
  cases eb : bodyI Γ sc n bd (iniO Γ.N.length C (fvs.map (·.1)) ds as) with
  | nx δ =>
    rw [eb] at an'
    intro A2 B2 s2 r hz
    have an2 : AnsI K H0 H y dy C (match δ[0]? with
      | some (Sl.os C' fs ds) => if C' = C then .ok fs ds else .no
      | _ => .no) Q E := an'
    split at an2
    · rename_i C' fs' ds' e0
      split at an2
      · rename_i ec
        subst ec
        obtain ⟨p0, dx0, gvs, hs, ne0, g1, g2, n1, n2, hp, ho2, hn, hd2, _⟩ := r.os e0
        rw [hs0] at hs
        cases hs
        obtain ⟨D, fv, hz⟩ := hz
        rw [hp] at hz
        cases hz
        exact an2 A2 B2 gvs r.st n1 n2 hp ho2 hn hd2
      · exact an2.elim
    · exact an2.elim
  | rt d => rw [eb] at an'; exact an'.elim
  | rtl es => rw [eb] at an'; exact an'.elim
  | rtt es => rw [eb] at an'; exact an'.elim
  | rtr es => rw [eb] at an'; exact an'.elim
  | bk δ => rw [eb] at an'; exact an'.elim
  | ct δ => rw [eb] at an'; exact an'.elim
  | ex B δ => rw [eb] at an'; exact fun A B s r => an' A B r
  | no => rw [eb] at an'; exact an'.elim
end
end Dw
namespace Dw
open PySem L2 PyProof.Rows
/-! ### the head: facts by names and one Bool more -/
def hookE (n : Nat) (fa : List He.Fa) (fn : List He.DefD) (ex : PySem.W.Frag → Bool) : PySem.W.Hook where
  α := He.AlD × Bool
  obs := fun s => (He.obsDG n fa fn s.heap.get?, ex (He.frG s.heap.get? (He.asD s.heap.get? n)))
  val := fun _ => (He.valD fn, true)
  says := fun _ h => ∃ K : PySem.W.Frag, K.In h ∧ He.SaysD fa fn K ∧ ex K = true
  of := fun _ _ e => ⟨_, He.frG_in, congrArg Prod.fst e, congrArg Prod.snd e⟩
  keeps := fun _ _ _ ⟨K, hK, c⟩ k => ⟨K, PySem.W.Frag.In.keeps hK k, c⟩
def obsE (n : Nat) (fa : List He.Fa) (fn : List He.DefD) (ex : PySem.W.Frag → Bool) (g : Addr → Option Obj) : He.AlD × Bool := (He.obsDG n fa fn g, ex (He.frG g (He.asD g n)))
theorem obsE_eq {n : Nat} {fa : List He.Fa} {fn : List He.DefD} {ex : PySem.W.Frag → Bool} {g : Addr → Option Obj} {s : Shared} (h : ∀ a, g a = s.heap.get? a) : obsE n fa fn ex g = (hookE n fa fn ex).obs s := by
  have e : g = s.heap.get? := funext h
  rw [e] <;> rfl
/-! ### .. with tables, from the module's names and the statics -/
def asF (g : Addr → Option Obj) : Nat → List Addr
  | 0 => [mainGlobals, cStatics]
  | n + 1 => He.growD g (asF g n)
abbrev AlF : Type := He.AlT × Bool
def obsF (n : Nat) (fa : List He.Fa) (fn : List He.DefD) (ts : List He.Tab) (ex : PySem.W.Frag → Bool) (g : Addr → Option Obj) : AlF := (He.obsT fa fn ts (He.frG g (asF g n)), ex (He.frG g (asF g n)))
def hookF (n : Nat) (fa : List He.Fa) (fn : List He.DefD) (ts : List He.Tab) (ex : PySem.W.Frag → Bool) : PySem.W.Hook where
  α := AlF
  obs := fun s => obsF n fa fn ts ex s.heap.get?
  val := fun w => (He.valT fn ts w, true)
  says := fun w h => ∃ K : PySem.W.Frag, K.In h ∧ He.SaysT fa fn ts w K ∧ ex K = true
  of := fun _ _ e => ⟨_, He.frG_in, congrArg Prod.fst e, congrArg Prod.snd e⟩
  keeps := fun _ _ _ ⟨K, hK, c⟩ k => ⟨K, PySem.W.Frag.In.keeps hK k, c⟩
theorem obsF_eq {n : Nat} {fa : List He.Fa} {fn : List He.DefD} {ts : List He.Tab} {ex : PySem.W.Frag → Bool} {g : Addr → Option Obj} {s : Shared} (h : ∀ a, g a = s.heap.get? a) : obsF n fa fn ts ex g = (hookF n fa fn ts ex).obs s := by
  have e : g = s.heap.get? := funext h
  rw [e] <;> rfl
/-! ### .. by a written list of places -/
def obsL (as : List Addr) (fa : List He.Fa) (fn : List He.DefD) (ts : List He.Tab) (ex : PySem.W.Frag → Bool) (g : Addr → Option Obj) : AlF := (He.obsT fa fn ts (He.frG g as), ex (He.frG g as))
def hookL (as : List Addr) (fa : List He.Fa) (fn : List He.DefD) (ts : List He.Tab) (ex : PySem.W.Frag → Bool) : PySem.W.Hook where
  α := AlF
  obs := fun s => obsL as fa fn ts ex s.heap.get?
  val := fun w => (He.valT fn ts w, true)
  says := fun w h => ∃ K : PySem.W.Frag, K.In h ∧ He.SaysT fa fn ts w K ∧ ex K = true
  of := fun _ _ e => ⟨_, He.frG_in, congrArg Prod.fst e, congrArg Prod.snd e⟩
  keeps := fun _ _ _ ⟨K, hK, c⟩ k => ⟨K, PySem.W.Frag.In.keeps hK k, c⟩
theorem obsL_eq {as : List Addr} {fa : List He.Fa} {fn : List He.DefD} {ts : List He.Tab} {ex : PySem.W.Frag → Bool} {g : Addr → Option Obj} {s : Shared} (h : ∀ a, g a = s.heap.get? a) : obsL as fa fn ts ex g = (hookL as fa fn ts ex).obs s := by
  have e : g = s.heap.get? := funext h
  rw [e] <;> rfl
/-- the law's own promise -/
def spLaw (K : PySem.W.Frag) : Sp := fun vs H Q _ => ∃ (a : Addr) (ns : List Int), vs = [.ref a] ∧ SqL K H a (ns.map V.int) ∧ ns.length ≤ 63 ∧ ∀ H', Q (.bl true) H'
section
variable {P : Program} {w : World} {K : PySem.W.Frag} {mg : Str → Option Value} {base : Heap}
theorem ints_dr {H : Hp} : ∀ (ns : List Int), DrAll K H (ns.map V.int) (ns.map D.int)
  | [] => .nil
  | n :: ns => .cons (.int n) (ints_dr ns)
/-- the law's def keeps its promise, where its closure answers True -/
theorem law_ok {k : Nat} {Γ : Ctx} {x qual : Str} {params : Arguments} {bd : List Stmt} {sc : Scope} {dvs : List V} {kws : List (Str × V)} {f : Addr} {fd : FuncData} {y : Str} {n m : Nat} {c : CS} (F : FunD K x qual params bd sc dvs kws f fd) (S : FnScope Γ.N [y] sc) (kn : Kn P w K mg base k Γ) (hc : body Γ sc n m bd = c)
    (hl : ∀ ns : List Int, ns.length ≤ 63 → run Γ.N.length c [.kst (ns.map D.int)] = .ok (.bl true)) : FnG P w K mg base (k + 1) f fd [y] (spLaw K) := by
  have ok := fn_ok F S kn (n := n) (m := m)
  have key : ∀ vs H Q E, spLaw K vs H Q E → spF K [y].length (run Γ.N.length (body Γ sc n m bd)) vs H Q E := fun vs H Q E h => by
    obtain ⟨a, ns, rfl, hr, hn, q⟩ := h
    refine ⟨rfl, H, [.kst (ns.map D.int)], Same.refl _, .cons (.kst hr (ints_dr ns)) .nil, ?_⟩
    rw [hc, hl ns hn]
    intro A B v s dv
    cases dv
    exact q B
  exact ⟨fun vs H Q E h => ok.arity vs H Q E (key vs H Q E h), fun A fr s H ar us vs Q E hr e0 b rv h => ok.go A fr s H ar us vs Q E hr e0 b rv (key vs H Q E h)⟩
/-! ### the law's def, called behind the top -/
def trk (a : Addr) (o : Obj) (xs : List V) : Hp := fun b => if b = a then some (.frz o (.lst xs)) else none
theorem trk_some {a b : Addr} {o : Obj} {xs : List V} {u : HO} (h : trk a o xs b = some u) : b = a ∧ u = .frz o (.lst xs) := by
  unfold trk at h
  split at h
  · rename_i e
    exact ⟨e, (Option.some.inj h).symm⟩
  · cases h
theorem law_run {k : Nat} {mb : Str → Option Value} {fa a : Addr} {fd : FuncData} {x : Str} {s₁ : Shared} {vs : List Value} {ns : List Int} (hk : K.In s₁.heap) (hm : s₁.heap.Ns mainGlobals mg) (hb : s₁.heap.Ns builtinsNs mb) (hbb : ∀ x : Str, x ≠ "__name__" → mb x = bootBuiltins x)
    (hlim : s₁.heap.NoLimit) (hg : s₁.gens = #[]) (ha : s₁.heap.get? a = some { cls := .type "list", data := .seq vs.toArray }) (hi : IntsAre vs ns) (hl : ns.length ≤ 63) (hr : Room k callerA)
    (F : ∀ bs : Heap, K.In bs → bs.Ns mainGlobals mg → FnG P w K mg bs k fa fd [x] (spLaw K)) (bnd : ∀ (s : Shared) (u : Value), BindsTo s fd ⟨[u], []⟩ [(x, u)]) :
    codeAny (model P w) callerA (.call (.ref fa) ⟨[.ref a], []⟩) (fun r s' => r = .ok (.ret (.bool true)) ∧ OldK s₁.heap s'.heap ∧ s'.os = s₁.os ∧ AllBare s'.gens) s₁ := by
  have big : ns.length ≤ sizeLine := Nat.le_trans hl (by decide)
  have rel := vals_ints hi
  have main : ∀ H : Hp, (∀ b u, H b = some u → b = a ∧ ∃ o xs, u = .frz o (.lst xs)) → SqL K H a (ns.map V.int) → HOk P w H s₁.heap → (∀ o, K.lookup a = some o → H a = none) →
      codeAny (model P w) callerA (.call (.ref fa) ⟨[.ref a], []⟩) (fun r s' => r = .ok (.ret (.bool true)) ∧ OldK s₁.heap s'.heap ∧ s'.os = s₁.os ∧ AllBare s'.gens) s₁ := by
    intro H only sq ok na
    have free : ∀ b, b ≠ a → H b = none := fun b nb => by
      cases q : H b with
      | none => rfl
      | some u => exact absurd (only b u q).1 nb
    have ns' : ∀ {b : Addr} {m : Str → Option Value}, s₁.heap.Ns b m → (hidT s₁.heap H).Ns b m := by
      rintro b m ⟨o, es, ep, e, d, r⟩
      refine ⟨o, es, ep, hidT_get e (free b ?_), d, r⟩
      rintro rfl
      rw [ha] at e
      cases e
      cases d
    have inB : K.In (hidT s₁.heap H) := fun b o e => hidT_get (hk b o e) (by
      by_cases nb : b = a
      · subst nb; exact na o e
      · exact free b nb)
    have mod : Mod K mg (hidT s₁.heap H) := ⟨inB, ns' hm, ⟨mb, ns' hb, hbb⟩, hlim.imp fun mc h => ⟨ns' h.1, h.2⟩⟩
    have e0 : Env0 P w K mg (hidT s₁.heap H) callerA [] s₁ H := by
      refine ⟨rfl, mod, fun b o e => of_hidT e, Nat.le_of_eq (hidT_size _ _), trivial, ?_, ok, .of_eq hg⟩
      intro b hb
      cases hb
    have c := (F _ inB (ns' hm)).go callerA [] s₁ H ⟨[.ref a], []⟩ [.ref a] [.ref a] (fun v _ => v = .bl true) (fun _ _ _ => False) ⟨hr, rfl⟩ e0 (bnd s₁ _) (.cons rfl .nil) ⟨a, ns, rfl, sq, hl, fun _ => rfl⟩
    refine codeAny_mono c ?_
    rintro (e | fl) s2 z
    · obtain ⟨_, _, _, _, _, _, _, _, _, _, _, _, q⟩ := z
      exact q.elim
    · rcases fl with _ | _ | _ | u
      · exact z.elim
      · exact z.elim
      · exact z.elim
      · obtain ⟨v, J, os, bare, un, ok2, rv, q⟩ := z
        have q : v = .bl true := q
        subst q
        have rv : u = Value.bool true := rv
        subst rv
        refine ⟨rfl, OldK.of_keep fun b o e => ?_, os, bare⟩
        cases q : H b with
        | none =>
          refine un.keep b o e q ?_ (by simp)
          intro hz
          cases hz
        | some v =>
          obtain ⟨-, ob, xs, rfl⟩ := only b v q
          have g1 := (ok b _ q).1
          rw [e] at g1
          cases g1
          exact (ok2 b _ (un.frzs b o _ q)).1
  cases own : K.lookup a with
  | some o =>
    have e := hk a o own
    rw [ha] at e
    cases e
    refine main (fun _ => none) (fun b u z => by cases z) (.inr ⟨_, vs.toArray, _, own, rfl, rfl, rfl, ?_, by simpa using rel⟩) (fun b u z => by cases z) fun _ _ => rfl
    rw [List.size_toArray, hi.length]
    exact big
  | none =>
    have at_a : trk a { cls := .type "list", data := .seq vs.toArray } (ns.map V.int) a = some (.frz { cls := .type "list", data := .seq vs.toArray } (.lst (ns.map V.int))) := if_pos rfl
    refine main (trk a { cls := .type "list", data := .seq vs.toArray } (ns.map V.int)) (fun b u z => ?_) (.inl (.inr ⟨_, at_a⟩)) (fun b u z => ?_) fun o z => ?_
    · obtain ⟨rfl, rfl⟩ := trk_some z
      exact ⟨rfl, _, _, rfl⟩
    · obtain ⟨rfl, rfl⟩ := trk_some z
      exact ⟨ha, by rw [List.length_map]; exact big, vs, _, rel, ha⟩
    · rw [own] at z
      cases z
/-- the end of a row -/
theorem walkG {l : PySem.W.OpenLaw} {k : Nat} {q : Program} {loose : List Str} {XP : (Str → Option Value) → Heap → Prop} {YP : World → Heap → Prop} {d : DefRec} {x : Str} (hn : l.most = some 63) (hdf : d.params.defaults = []) (hr : Room k callerA)
    (F : ∀ (w : World) (mg : Str → Option Value) (fa : Addr) (h : Heap), YP w h → h.Ns mainGlobals mg → mg d.name = some (.ref fa) →
      ∃ (K : PySem.W.Frag) (fd : FuncData), K.In h ∧ (∀ (s : Shared) (u : Value), BindsTo s fd ⟨[u], []⟩ [(x, u)]) ∧ ∀ bs : Heap, K.In bs → bs.Ns mainGlobals mg → FnG l.prog w K mg bs k fa fd [x] (spLaw K)) :
    PySem.W.WalkO q loose XP YP l.row.toRowW d [] (fun f vs => PySem.call f vs) := by
  refine Att.attach_call hn hdf ?_
  intro w s0 s1 mg mb fa o pm cd doc a vs ns G Y ho hd hcd hmg hobj hints hlen hg
  obtain ⟨K, fd, hk, hb, hF⟩ := F w mg fa _ Y G.T.g hmg
  exact law_run hk G.T.g G.T.b G.T.builtins G.T.nolimit hg hobj hints hlen hr hF hb
end
end Dw
namespace Dw
open PySem L2 PyProof.Rows
/-! ### Bools that the head reads -/
def oB (a b : Option Bool) : Bool := match a, b with
  | some x, some y => x == y
  | none, none => true
  | _, _ => false
theorem oB_ok {a b : Option Bool} (h : oB a b = true) : a = b := by
  unfold oB at h
  split at h
  · rw [eq_of_beq h]
  · rfl
  · cases h
/-- an exception class of the program, as isinstance asks it -/
def excCB (K : PySem.W.Frag) (C : Addr) : Bool :=
  He.eqO (PySem.W.findIn K (.ref C) "__getattribute__") (some (some (.builtin "BaseException.__getattribute__"))) && (He.eqO (PySem.W.findIn K (.ref C) "__getattr__") (some none) && (oB (PySem.W.subIn K (.ref C) (.type "BaseException")) (some true) && (PySem.W.hasDictIn K C &&
    (He.eqO (PySem.W.findIn K (.ref C) "__class__") (some (some (.builtin "object.__class__"))) && (He.eqO (PySem.W.specialIn K (.builtin "object.__class__") "__get__") (some (some (.builtin "getset_descriptor.__get__"))) && (oB (PySem.W.takesIn K (.builtin "object.__class__")) (some true) && oB (PySem.W.mroIn K C (.type "object")) (some true)))))))
theorem excCB_ok {K : PySem.W.Frag} {C : Addr} (h : excCB K C = true) : ExcC K C := by
  obtain ⟨h1, h⟩ := He.ba h
  obtain ⟨h2, h⟩ := He.ba h
  obtain ⟨h3, h⟩ := He.ba h
  obtain ⟨h4, h⟩ := He.ba h
  obtain ⟨h5, h⟩ := He.ba h
  obtain ⟨h6, h⟩ := He.ba h
  obtain ⟨h7, h8⟩ := He.ba h
  exact ⟨He.eqO_ok h1, He.eqO_ok h2, oB_ok h3, h4, He.eqO_ok h5, He.eqO_ok h6, oB_ok h7, oB_ok h8⟩
def kitB2 (K : PySem.W.Frag) (C : Addr) (u : Value) (b : Bool) : Bool := oB (PySem.W.kitOne K (.ref C) u) (some b)
def exmB (K : PySem.W.Frag) (C E : Addr) (b : Bool) : Bool := oB (PySem.W.exmOne K (.ref C) (.ref E)) (some b)
/-- the module's constants: texts, ints, tuples, lists of such -/
def relD : D → V → Bool
  | .non, .non => true
  | .bl a, .bl b => a == b
  | .int a, .int b => decide (a = b)
  | .str a, .str b => decide (a = b)
  | _, _ => false
structure Tx0 (fa : List He.Fa) (fn : List He.DefD) (ex : PySem.W.Frag → Bool) (K : PySem.W.Frag) (mg : Str → Option Value) : Prop where
  c : He.SaysD fa fn K
  x : ex K = true
  glo : ∀ y, (He.Fa.glo y).ok K = true → mg y = some (.ref (He.ga K y))
  free : ∀ y, (He.Fa.free y).ok K = true → mg y = none
  int : ∀ y i, (He.Fa.int y i).ok K = true → ∃ t, mg y = some (.int i t)
  str : ∀ y z, (He.Fa.str y z).ok K = true → ∃ t, mg y = some (.str z t)
theorem tx_of {fa : List He.Fa} {fn : List He.DefD} {ex : PySem.W.Frag → Bool} {K : PySem.W.Frag} {h : Heap} {mg : Str → Option Value} (X : K.In h) (G : h.Ns mainGlobals mg) (c : He.SaysD fa fn K) (x : ex K = true) : Tx0 fa fn ex K mg :=
  ⟨c, x, fun _ z => He.glo_ok X G z, fun _ z => He.free_ok X G z, fun _ _ z => He.int_ok X G z, fun _ _ z => He.str_ok X G z⟩
theorem rz_of {K : PySem.W.Frag} {mg : Str → Option Value} {x : Str} (hg : mg x = some (.ref (He.ga K x))) (h : (He.Fa.exc x).ok K = true) (hd : (x == ("__debug__" : Str)) = false) : RzK K mg x := by
  obtain ⟨a, b, c, d⟩ := He.exc_ok h
  exact ⟨hg, a, b, c, d, hd⟩
/-! ### classes -/
def insB (K : PySem.W.Frag) (C : Addr) : Bool :=
  He.eqO (PySem.W.findIn K (.ref C) "__class__") (some (some (.builtin "object.__class__"))) && (He.eqO (PySem.W.specialIn K (.builtin "object.__class__") "__get__") (some (some (.builtin "getset_descriptor.__get__"))) && (oB (PySem.W.takesIn K (.builtin "object.__class__")) (some true) && oB (PySem.W.mroIn K C (.type "object")) (some true)))
theorem insB_ok {K : PySem.W.Frag} {C : Str} (h : insB K (He.ga K C) = true) (c : Cls K (He.ga K C)) {H : Hp} {v : V} {fs : List Str} {ds : List D} (d : Dr K H v (.obj C fs ds)) : TyX K H v (.ref (He.ga K C)) := by
  obtain ⟨h1, h⟩ := He.ba h
  obtain ⟨h2, h⟩ := He.ba h
  obtain ⟨h3, h4⟩ := He.ba h
  cases d with
  | obj q r => exact .base (.ins q c (He.eqO_ok h1) (He.eqO_ok h2) (oB_ok h3) (oB_ok h4))
def crdB (K : PySem.W.Frag) (C : Addr) : Bool := PySem.W.readsIn K C (.type "type") && He.eqO (PySem.W.specialIn K (.ref C) "__getattribute__") (some (some (.builtin "type.__getattribute__")))
theorem crdB_ok {K : PySem.W.Frag} {C : Addr} (h : crdB K C = true) : ClX.CRead K C (.type "type") := by
  obtain ⟨h1, h2⟩ := He.ba h
  exact ⟨h1, He.eqO_ok h2⟩
def cvlB (K : PySem.W.Frag) (C : Addr) (m : Str) : Bool := match PySem.W.findCls K (.ref C) (.type "type") m with
  | some (.val (.ref a)) => decide (a = He.ma K C m)
  | _ => false
theorem cvlB_ok {K : PySem.W.Frag} {C : Addr} {m : Str} (h : cvlB K C m = true) : ClX.CVal K C (.type "type") m (.ref (He.ma K C m)) (.ref (He.ma K C m)) := by
  unfold cvlB at h
  split at h
  · rename_i a e
    have q := of_decide_eq_true h
    subst q
    exact ⟨e, rfl⟩
  · cases h
structure TxF (fa : List He.Fa) (fn : List He.DefD) (ts : List He.Tab) (ex : PySem.W.Frag → Bool) (w : World) (K : PySem.W.Frag) (mg : Str → Option Value) : Prop where
  t : Tx0 fa fn ex K mg
  f : He.SaysT fa fn ts w K
theorem txF_of {fa : List He.Fa} {fn : List He.DefD} {ts : List He.Tab} {ex : PySem.W.Frag → Bool} {w : World} {K : PySem.W.Frag} {h : Heap} {mg : Str → Option Value} (X : K.In h) (G : h.Ns mainGlobals mg) (c : He.SaysT fa fn ts w K) (x : ex K = true) : TxF fa fn ts ex w K mg := ⟨tx_of X G c.d x, c⟩
/-- what a class's def keeps, by its place -/
theorem mtK_of {P : Program} {w : World} {K : PySem.W.Frag} {mg : Str → Option Value} {base : Heap} {k : Nat} {m C : Str} {fd : FuncData} {ps : List Str} {n : Nat} {sem : List D → Rs} (c : Cls K (He.ga K C)) (me : Meth K (He.ga K C) m (He.ma K (He.ga K C) m)) (F : FnG P w K mg base k (He.ma K (He.ga K C) m) fd ps (spF K ps.length sem)) (b : Binds K fd ps []) (hn : ps.length = n + 1) :
    ∃ (f : Addr) (fd : FuncData) (ps : List Str), Cls K (He.ga K C) ∧ Meth K (He.ga K C) m f ∧ FnG P w K mg base k f fd ps (spF K ps.length sem) ∧ Binds K fd ps [] ∧ ps.length = n + 1 := ⟨_, fd, ps, c, me, F, b, hn⟩
/-- a def whose closure stops always -/
theorem fnG_no {P : Program} {w : World} {K : PySem.W.Frag} {mg : Str → Option Value} {base : Heap} {k : Nat} {f : Addr} {fd : FuncData} {ps : List Str} : FnG P w K mg base k f fd ps (spF K ps.length fun _ => .no) where
  arity := fun vs H Q E h => h.1
  go := fun A fr s H ar us vs Q E _ _ _ _ h => by
    obtain ⟨_, _, _, _, _, z⟩ := h
    exact z.elim
/-! ### a constant dict's values -/
def tpA (K : PySem.W.Frag) (t : Addr) (vs : List He.Dv) : Bool := match K.lookup t with
  | some ⟨.type c, _, .seq its _, _⟩ => decide (c = "tuple") && (decide (its.size ≤ sizeLine) && He.relAll (vs.map (He.Dv.v K)) its.toList)
  | _ => false
theorem tpA_ok {K : PySem.W.Frag} {t : Addr} {vs : List He.Dv} (h : tpA K t vs = true) (H : Hp) : SqT K H t (vs.map (He.Dv.v K)) := by
  unfold tpA at h
  split at h
  · rename_i c od its n osl q
    obtain ⟨h1, h2⟩ := He.ba h
    obtain ⟨h3, h4⟩ := He.ba h2
    exact .inr ⟨_, its, n, q, congrArg Value.type (of_decide_eq_true h1), rfl, of_decide_eq_true h3, He.relAll_ok h4⟩
  · cases h
def ttB (K : PySem.W.Frag) (a : Addr) (x : Str) (vs : List He.Dv) : Bool := match PySem.W.nsIn K a x with
  | some (some (.ref t)) => tpA K t vs
  | _ => false
theorem ttB_ok {K : PySem.W.Frag} {a : Addr} {x : Str} {vs : List He.Dv} (h : ttB K a x vs = true) : ∃ t, PySem.W.nsIn K a x = some (some (.ref t)) ∧ ∀ H, SqT K H t (vs.map (He.Dv.v K)) := by
  unfold ttB at h
  split at h
  · rename_i t e
    exact ⟨t, e, tpA_ok h⟩
  · cases h
def tvB (K : PySem.W.Frag) (a : Addr) (x : Str) (v : He.Dv) : Bool := match PySem.W.nsIn K a x with
  | some (some u) => He.relAll [v.v K] [u]
  | _ => false
theorem tvB_ok {K : PySem.W.Frag} {a : Addr} {x : Str} {v : He.Dv} (h : tvB K a x v = true) : ∃ u, PySem.W.nsIn K a x = some (some u) ∧ RelV (v.v K) u := by
  unfold tvB at h
  split at h
  · rename_i u e
    refine ⟨u, e, ?_⟩
    cases He.relAll_ok h with
    | cons r _ => exact r
  · cases h
end Dw
namespace Dw
open PySem L2 PyProof.Rows
/-! ### closures at work: rows for simp -/
section
variable {α β : Type} {δ : List Sl} {d e : D} {ds es : List D} {i j k : Int} {n m a : Nat} {c c1 c2 : C} {ca cb : CA} {ct : CB} {s1 s2 : CS} {X : Str} {x y : Str} {b : Bool}
theorem e_bind_ok {v : α} {f : α → R β} : (R.ok v).bind f = f v := rfl
theorem e_bind_ex {f : α → R β} : (R.ex X : R α).bind f = .ex X := rfl
theorem e_bind_no {f : α → R β} : (R.no : R α).bind f = .no := rfl
theorem e_bind_ite {p : Prop} [Decidable p] {u v : R α} {f : α → R β} : (if p then u else v).bind f = if p then u.bind f else v.bind f := by split <;> rfl
def varOf : Option Sl → R D
  | some (.pu d) => .ok d
  | some (.nt ds) => .ok (.tup ds)
  | _ => .no
theorem e_var : cVar a δ = varOf δ[a]? := by
  unfold cVar varOf
  cases δ[a]? with
  | none => rfl
  | some s => cases s <;> rfl
theorem e_varpu : varOf (some (.pu d)) = .ok d := rfl
theorem e_varnt : varOf (some (.nt ds)) = .ok (.tup ds) := rfl
theorem e_varod {ks : List (List Key)} : varOf (some (.od ks)) = .no := rfl
theorem e_varoo {dss : List (List D)} : varOf (some (.oo dss)) = .no := rfl
theorem e_varow : varOf (some (.ow ds)) = .no := rfl
theorem e_c : cC d δ = .ok d := rfl
theorem e_bin {f : D → D → R α} : cBin f c1 c2 δ = (c1 δ).bind fun x => (c2 δ).bind fun y => f x y := rfl
theorem e_un {f : D → R α} : cUn f c δ = (c δ).bind f := rfl
theorem e_app {f : List D → R α} : cApp f ca δ = (ca δ).bind f := rfl
theorem e_nil : cNil δ = .ok [] := rfl
theorem e_cons : cCons c ca δ = (c δ).bind fun d => (ca δ).bind fun ds => .ok (d :: ds) := rfl
def kCall (m : Nat) (f : List D → Rs) (ds : List D) : R D := if ds.length = m then rsV (f ds) else .no
theorem e_call {f : List D → Rs} : cCall m f ca δ = (ca δ).bind (kCall m f) := rfl
theorem e_kcall1 {f : List D → Rs} : kCall 1 f [d] = rsV (f [d]) := rfl
theorem e_kcall2 {f : List D → Rs} : kCall 2 f [d, e] = rsV (f [d, e]) := rfl
theorem e_kcall3 {f : List D → Rs} {d3 : D} : kCall 3 f [d, e, d3] = rsV (f [d, e, d3]) := rfl
theorem e_kcall4 {f : List D → Rs} {d3 d4 : D} : kCall 4 f [d, e, d3, d4] = rsV (f [d, e, d3, d4]) := rfl
def kCallN (m : Nat) (f : List D → Rs) (ds : List D) : R (List D) := if ds.length = m then rsN (f ds) else .no
theorem e_callN {f : List D → Rs} : cCallN m f ca δ = (ca δ).bind (kCallN m f) := rfl
theorem e_kcallN1 {f : List D → Rs} : kCallN 1 f [d] = rsN (f [d]) := rfl
theorem e_kcallN2 {f : List D → Rs} : kCallN 2 f [d, e] = rsN (f [d, e]) := rfl
theorem e_kcallN3 {f : List D → Rs} {d3 : D} : kCallN 3 f [d, e, d3] = rsN (f [d, e, d3]) := rfl
theorem e_rsV : rsV (.ok d) = .ok d := rfl
theorem e_rsVl : rsV (.okl ds) = .ok (.lst ds) := rfl
theorem e_rsVx : rsV (.ex X) = .ex X := rfl
theorem e_rsN : rsN (.okl ds) = .ok ds := rfl
theorem e_rsNx : rsN (.ex X) = .ex X := rfl
theorem e_if {f g : List Sl → R α} : cIf ct f g δ = (ct δ).bind fun k => if k = true then f δ else g δ := rfl
theorem e_L : cL ca δ = toL (ca δ) := rfl
theorem e_toL : toL (.ok ds) = .ok (.lst ds) := rfl
theorem e_toLx : toL (.ex X) = .ex X := rfl
theorem e_toLn : toL .no = .no := rfl
theorem e_andB1 {u : CB} : cAndB [u] δ = u δ := rfl
theorem e_andB {u v : CB} {r : List CB} : cAndB (u :: v :: r) δ = (u δ).bind fun b => if b = true then cAndB (v :: r) δ else .ok false := rfl
theorem e_orB1 {u : CB} : cOrB [u] δ = u δ := rfl
theorem e_orB {u v : CB} {r : List CB} : cOrB (u :: v :: r) δ = (u δ).bind fun b => if b = true then .ok true else cOrB (v :: r) δ := rfl
theorem e_notB {u : CB} : cNotB u δ = (u δ).bind fun b => .ok (!b) := rfl
def kAndV (cs : List C) (δ : List Sl) : D → R D
  | .bl true => cAndV cs δ
  | .bl false => .ok (.bl false)
  | _ => .no
def kOrV (cs : List C) (δ : List Sl) : D → R D
  | .bl true => .ok (.bl true)
  | .bl false => cOrV cs δ
  | _ => .no
theorem e_andV1 {u : C} : cAndV [u] δ = u δ := rfl
theorem e_andV {u v : C} {r : List C} : cAndV (u :: v :: r) δ = (u δ).bind (kAndV (v :: r) δ) := by
  unfold cAndV kAndV
  cases u δ with
  | ok d => rfl
  | ex C => rfl
  | no => rfl
theorem e_kandV {cs : List C} : kAndV cs δ (.bl b) = if b = true then cAndV cs δ else .ok (.bl false) := by cases b <;> rfl
theorem e_orV1 {u : C} : cOrV [u] δ = u δ := rfl
theorem e_orV {u v : C} {r : List C} : cOrV (u :: v :: r) δ = (u δ).bind (kOrV (v :: r) δ) := by
  unfold cOrV kOrV
  cases u δ with
  | ok d => rfl
  | ex C => rfl
  | no => rfl
theorem e_korV {cs : List C} : kOrV cs δ (.bl b) = if b = true then .ok (.bl true) else cOrV cs δ := by cases b <;> rfl
def kIxV (k : C) (δ : List Sl) : Option Sl → R D
  | some (.pu d) => (k δ).bind fun e => dIx d e
  | some (.ow ds) => (k δ).bind fun e => dIx (.lst ds) e
  | _ => .no
theorem e_ixV : cIxV a c δ = kIxV c δ δ[a]? := by
  unfold cIxV kIxV
  cases δ[a]? with
  | none => rfl
  | some s =>
    cases s with
    | un => rfl
    | oo d => rfl
    | od d => rfl
    | os C fs ds => rfl
    | tr o => rfl
    | nt d => rfl
    | pu d => rfl
    | ow ds =>
      cases c δ with
      | no => rfl
      | ex C => rfl
      | ok e => cases e <;> rfl
theorem e_kixpu : kIxV c δ (some (.pu d)) = (c δ).bind fun e => dIx d e := rfl
theorem e_kixow : kIxV c δ (some (.ow ds)) = (c δ).bind fun e => dIx (.lst ds) e := rfl
/-! operations -/
theorem e_addII : dAddA (.int i) (.int j) = .ok (.int (i + j)) := rfl
theorem e_addSS : dAddA (.str x) (.str y) = if x.length + y.length ≤ sizeLine then .ok (.str (x ++ y)) else .no := rfl
theorem e_addTT : dAddA (.tup ds) (.tup es) = if ds.length + es.length ≤ sizeLine then .ok (.tup (ds ++ es)) else .no := rfl
theorem e_addLL : dAddA (.lst ds) (.lst es) = if ds.length + es.length ≤ sizeLine then .ok (.lst (ds ++ es)) else .no := by
  show toL (if ds.length + es.length ≤ sizeLine then .ok (ds ++ es) else .no) = _
  split <;> rfl
theorem e_addNLL : dAddN (.lst ds) (.lst es) = if ds.length + es.length ≤ sizeLine then .ok (ds ++ es) else .no := rfl
theorem e_sub : dSub (.int i) (.int j) = .ok (.int (i - j)) := rfl
theorem e_mul : dMul (.int i) (.int j) = if cMul i j then .ok (.int (i * j)) else .no := rfl
theorem e_div : dDiv (.int i) (.int j) = if cDiv i j then .ok (.int (i.fdiv j)) else .no := rfl
theorem e_mod : dMod (.int i) (.int j) = if cMod i j then .ok (.int (i.fmod j)) else .no := rfl
theorem e_pow : dPow (.int i) (.int j) = if cPow i j then .ok (.int (i ^ j.toNat)) else .no := rfl
theorem e_shr : dShr (.int i) (.int j) = if cShr i j then .ok (.int (i / 2 ^ j.toNat)) else .no := rfl
theorem e_and : dAnd (.int i) (.int j) = .ok (.int (Builtin.bitAnd i j)) := rfl
theorem e_neg : dNeg (.int i) = .ok (.int (-i)) := rfl
theorem e_notV : dNotV (.bl b) = .ok (.bl (!b)) := rfl
theorem e_lt : dLt (.int i) (.int j) = .ok (.bl (decide (i < j))) := rfl
theorem e_le : dLe (.int i) (.int j) = .ok (.bl (decide (i ≤ j))) := rfl
theorem e_gt : dGt (.int i) (.int j) = .ok (.bl (decide (j < i))) := rfl
theorem e_ge : dGe (.int i) (.int j) = .ok (.bl (decide (j ≤ i))) := rfl
theorem e_eqII : dEq (.int i) (.int j) = .ok (.bl (decide (i = j))) := by
  show R.ok (D.bl (decide (V.int i = V.int j))) = _
  have e : decide (V.int i = V.int j) = decide (i = j) := decide_eq_decide.mpr (by simp)
  rw [e]
theorem e_neII : dNe (.int i) (.int j) = .ok (.bl (!decide (i = j))) := by
  show R.ok (D.bl (!decide (V.int i = V.int j))) = _
  have e : decide (V.int i = V.int j) = decide (i = j) := decide_eq_decide.mpr (by simp)
  rw [e]
theorem e_eqSS : dEq (.str x) (.str y) = .ok (.bl (decide (x = y))) := by
  show R.ok (D.bl (decide (V.str x = V.str y))) = _
  have e : decide (V.str x = V.str y) = decide (x = y) := decide_eq_decide.mpr (by simp)
  rw [e]
theorem e_neSS : dNe (.str x) (.str y) = .ok (.bl (!decide (x = y))) := by
  show R.ok (D.bl (!decide (V.str x = V.str y))) = _
  have e : decide (V.str x = V.str y) = decide (x = y) := decide_eq_decide.mpr (by simp)
  rw [e]
theorem e_eqBB {u v : Bool} : dEq (.bl u) (.bl v) = .ok (.bl (decide (u = v))) := by
  show R.ok (D.bl (decide (V.bl u = V.bl v))) = _
  have e : decide (V.bl u = V.bl v) = decide (u = v) := decide_eq_decide.mpr (by simp)
  rw [e]
theorem e_neBB {u v : Bool} : dNe (.bl u) (.bl v) = .ok (.bl (!decide (u = v))) := by
  show R.ok (D.bl (!decide (V.bl u = V.bl v))) = _
  have e : decide (V.bl u = V.bl v) = decide (u = v) := decide_eq_decide.mpr (by simp)
  rw [e]
/-- == of data that are no scalars both -/
theorem e_eqG (h : d.sv = none ∨ e.sv = none) (g1 : d.good 20 = true) (g2 : e.good 20 = true) : dEq d e = .ok (.bl (PyData.eqv d.toPy e.toPy)) := by
  unfold dEq dEqB
  rcases h with h | h
  · rw [h]
    simp only []
    rw [if_pos ⟨g1, g2⟩]
    rfl
  · rw [h]
    cases d.sv <;> (simp only []; rw [if_pos ⟨g1, g2⟩]; rfl)
theorem e_neG (h : d.sv = none ∨ e.sv = none) (g1 : d.good 20 = true) (g2 : e.good 20 = true) : dNe d e = .ok (.bl (!PyData.eqv d.toPy e.toPy)) := by
  unfold dNe dEqB
  rcases h with h | h
  · rw [h]
    simp only []
    rw [if_pos ⟨g1, g2⟩]
    rfl
  · rw [h]
    cases d.sv <;> (simp only []; rw [if_pos ⟨g1, g2⟩]; rfl)
theorem e_isN : dIs d .non = .ok (.bl d.isNon) := by cases d <;> rfl
theorem e_isB {u v : Bool} : dIs (.bl u) (.bl v) = .ok (.bl (decide (u = v))) := rfl
theorem e_notN : dNot d .non = .ok (.bl (!d.isNon)) := by cases d <;> rfl
theorem e_notBB {u v : Bool} : dNot (.bl u) (.bl v) = .ok (.bl (!decide (u = v))) := rfl
theorem e_isNon0 : D.isNon .non = true := rfl
theorem e_isNonI : D.isNon (.int i) = false := rfl
theorem e_isNonT : D.isNon (.tup ds) = false := rfl
theorem e_isNonL : D.isNon (.lst ds) = false := rfl
theorem e_isNonX : D.isNon (.exc X) = false := rfl
theorem e_isNonS : D.isNon (.str x) = false := rfl
theorem e_asB : asB (.bl b) = .ok b := rfl
theorem e_truB : dTru (.bl b) = .ok b := rfl
theorem e_ixT : dIx (.tup ds) (.int i) = atD ds i := rfl
theorem e_ixL : dIx (.lst ds) (.int i) = atD ds i := rfl
theorem e_ixK : dIx (.kst ds) (.int i) = atD ds i := rfl
theorem e_at0 : atD (d :: ds) 0 = .ok d := by
  unfold atD ixN
  simp
theorem e_at1 : atD (d :: e :: ds) 1 = .ok e := by
  unfold atD ixN
  have h : (1 : Int) < ((d :: e :: ds).length : Nat) := by simp only [List.length_cons]; omega
  rw [if_pos (by decide), if_pos h]
  rfl
/-- an item at a place known to lie in it -/
theorem atD_nat {ds : List D} {n : Nat} {d : D} (h : ds[n]? = some d) : atD ds (n : Int) = .ok d := by
  have hl := (List.getElem?_eq_some_iff.mp h).1
  unfold atD ixN
  rw [if_pos (by omega), if_pos (by omega)]
  simp [h]
theorem atD_int {ds : List D} {i : Int} {d : D} (h0 : 0 ≤ i) (h : ds[i.toNat]? = some d) : atD ds i = .ok d := by
  have := atD_nat h
  rwa [Int.toNat_of_nonneg h0] at this
theorem atD_last {ds : List D} {d : D} (h : ds.getLast? = some d) : atD ds (-1) = .ok d := by
  have hne : ds ≠ [] := by intro z; subst z; cases h
  have hl : 0 < ds.length := List.length_pos_iff.mpr hne
  unfold atD ixN
  rw [if_neg (by omega), if_pos (by omega)]
  have e : ((-1 : Int) + (ds.length : Int)).toNat = ds.length - 1 := by omega
  rw [e]
  rw [List.getLast?_eq_getElem?] at h
  simp [h]
theorem e_tup (h : ds.length ≤ sizeLine) : dTup ds = .ok (.tup ds) := if_pos h
theorem e_lst (h : ds.length ≤ sizeLine) : dLst ds = .ok ds := if_pos h
theorem sz (h : n ≤ 10000000) : n ≤ sizeLine := Nat.le_trans h (by decide)
theorem szl (h : n < 10000000) : n < sizeLine := Nat.lt_of_lt_of_le h (by decide)
theorem e_lenT : dLen [.tup ds] = .ok (.int ds.length) := rfl
theorem e_lenL : dLen [.lst ds] = .ok (.int ds.length) := rfl
theorem e_lenK : dLen [.kst ds] = .ok (.int ds.length) := rfl
theorem e_abs : dAbs [.int i] = .ok (.int (if i < 0 then -i else i)) := rfl
theorem e_isi {f : D → Option Bool} (h : f d = some b) : dIsi f d = .ok (.bl b) := by
  unfold dIsi
  rw [h]
theorem e_int1 : dInt1 [.int i] = .ok (.int i) := rfl
theorem e_int1b : dInt1 [.bl b] = .ok (.int (if b then 1 else 0)) := rfl
theorem e_max2 : dMax [.int i, .int j] = .ok (.int (if j > i then j else i)) := rfl
theorem e_min2 : dMin [.int i, .int j] = .ok (.int (if j < i then j else i)) := rfl
/-! slots -/
theorem e_bor0 : bor [] = [] := rfl
theorem e_borP : bor (.pu d :: δ) = .pu d :: bor δ := rfl
theorem e_borO : bor (.ow ds :: δ) = .pu (.lst ds) :: bor δ := rfl
theorem e_borT : bor (.nt ds :: δ) = .nt ds :: bor δ := rfl
theorem e_borD {ks : List (List Key)} : bor (.od ks :: δ) = .od ks :: bor δ := rfl
theorem e_borOO {dss : List (List D)} : bor (.oo dss :: δ) = .pu (.lst (dss.map D.lst)) :: bor δ := rfl
theorem e_borU : bor (.un :: δ) = .un :: bor δ := rfl
/-! statements -/
theorem e_seq : cSeq s1 s2 δ = fSeq (s1 δ) s2 := rfl
theorem e_fnx : fSeq (.nx δ) s1 = s1 δ := rfl
theorem e_frt : fSeq (.rt d) s1 = .rt d := rfl
theorem e_frtl : fSeq (.rtl ds) s1 = .rtl ds := rfl
theorem e_fex : fSeq (.ex X δ) s1 = .ex X δ := rfl
theorem e_fct : fSeq (.ct δ) s1 = .ct δ := rfl
theorem e_fbk : fSeq (.bk δ) s1 = .bk δ := rfl
theorem e_fite {p : Prop} [Decidable p] {u v : Fl} : fSeq (if p then u else v) s1 = if p then fSeq u s1 else fSeq v s1 := by split <;> rfl
theorem e_nx : cNx δ = .nx δ := rfl
def kA (c : C) (δ : List Sl) : R D → R (D × List Sl)
  | .ok d => .ok (d, δ)
  | .ex C => .ex C
  | .no => (match c (bor δ) with
    | .ok d => if d.flat = true then .ok (d, δ) else .ok (d, bor δ)
    | .ex C => .ex C
    | .no => .no)
theorem e_evA : evA c δ = kA c δ (c δ) := by
  unfold evA kA
  cases c δ <;> rfl
theorem e_kA : kA c δ (.ok d) = .ok (d, δ) := rfl
theorem e_kAx : kA c δ (.ex X) = .ex X := rfl
def kA2 (δ : List Sl) : R D → R (D × List Sl)
  | .ok d => if d.flat = true then .ok (d, δ) else .ok (d, bor δ)
  | .ex C => .ex C
  | .no => .no
theorem e_kAn : kA c δ .no = kA2 δ (c (bor δ)) := by
  unfold kA kA2
  cases c (bor δ) <;> rfl
theorem e_kA2 : kA2 δ (.ok d) = if d.flat = true then .ok (d, δ) else .ok (d, bor δ) := rfl
theorem e_kA2x : kA2 δ (.ex X) = .ex X := rfl
theorem e_kAite {p : Prop} [Decidable p] {u v : R D} : kA c δ (if p then u else v) = if p then kA c δ u else kA c δ v := by split <;> rfl
def kN (c : CA) (δ : List Sl) : R (List D) → R (List D × List Sl)
  | .ok d => .ok (d, δ)
  | .ex C => .ex C
  | .no => (match c (bor δ) with
    | .ok d => if D.flat.flats d = true then .ok (d, δ) else .ok (d, bor δ)
    | .ex C => .ex C
    | .no => .no)
theorem e_evN : evN ca δ = kN ca δ (ca δ) := by
  unfold evN kN
  cases ca δ <;> rfl
theorem e_evL : evL ca δ = kN ca δ (ca δ) := by
  unfold evL kN
  cases ca δ <;> rfl
theorem e_kN : kN ca δ (.ok ds) = .ok (ds, δ) := rfl
theorem e_kNx : kN ca δ (.ex X) = .ex X := rfl
theorem e_kNite {p : Prop} [Decidable p] {u v : R (List D)} : kN ca δ (if p then u else v) = if p then kN ca δ u else kN ca δ v := by split <;> rfl
def kI (c : CA) (δ : List Sl) : R (List D) → R (List D × List Sl)
  | .ok d => .ok (d, δ)
  | .ex C => .ex C
  | .no => (match c (bor δ) with
    | .ok d => .ok (d, bor δ)
    | .ex C => .ex C
    | .no => .no)
theorem e_evI : evI ca δ = kI ca δ (ca δ) := by
  unfold evI kI
  cases ca δ <;> rfl
theorem e_kI : kI ca δ (.ok ds) = .ok (ds, δ) := rfl
theorem e_evT : evT ct δ = ct (bor δ) := rfl
theorem e_fA {v : α} {δ' : List Sl} {k : α → List Sl → Fl} : fA (.ok (v, δ')) δ k = k v δ' := rfl
theorem e_fAx {k : α → List Sl → Fl} : fA (.ex X) δ k = .ex X δ := rfl
theorem e_fAite {p : Prop} [Decidable p] {u v : R (α × List Sl)} {k : α → List Sl → Fl} : fA (if p then u else v) δ k = if p then fA u δ k else fA v δ k := by split <;> rfl
theorem e_retV : cRetV c δ = fA (evA c δ) δ fun d _ => .rt d := rfl
theorem e_retN : cRetN ca δ = fA (evN ca δ) δ fun d _ => .rtl d := rfl
def kRetO : Option Sl → Fl
  | some (.ow ds) => .rtl ds
  | some (.pu d) => .rt d
  | some (.nt ds) => .rt (.tup ds)
  | some (.tr o) => .rtr o
  | _ => .no
theorem e_retO : cRetO a δ = kRetO δ[a]? := by
  unfold cRetO kRetO
  cases δ[a]? with
  | none => rfl
  | some s => cases s <;> rfl
theorem e_kretpu : kRetO (some (.pu d)) = .rt d := rfl
theorem e_kretow : kRetO (some (.ow ds)) = .rtl ds := rfl
theorem e_ret0 : cRetN0 δ = .rt .non := rfl
theorem e_asg : cAsg a c δ = fA (evA c δ) δ fun d δ' => .nx (δ'.set a (.pu d)) := rfl
theorem e_asgN : cAsgN a ca δ = fA (evN ca δ) δ fun d δ' => .nx (δ'.set a (.ow d)) := rfl
def kOpt : Option (List Sl) → Fl
  | some δ => .nx δ
  | none => .no
theorem e_asgT {t : CT} : cAsgT t c δ = fA (evA c δ) δ fun d δ' => kOpt (t d δ') := by
  show fA (evA c δ) δ (fun d δ' => match t d δ' with
    | some δ2 => .nx δ2
    | none => .no) = _
  refine congrArg (fA (evA c δ) δ) ?_
  funext d δ'
  unfold kOpt
  cases t d δ' <;> rfl
theorem e_kopt : kOpt (some δ) = .nx δ := rfl
theorem e_tname : tName a d δ = some (δ.set a (.pu d)) := rfl
theorem e_ttup {t : List D → List Sl → Option (List Sl)} (h : ds.length = n) : tTupT n t (.tup ds) δ = t ds δ := if_pos h
theorem e_tcons {t : CT} {r : List D → List Sl → Option (List Sl)} : tCons' t r (d :: ds) δ = (t d δ).bind fun δ' => r ds δ' := rfl
theorem e_tnil : tNil' [] δ = some δ := rfl
theorem e_par2 : cPar2 n m ca δ = fA (evL ca δ) δ fun ds δ' => kPar2 n m ds δ' := rfl
theorem e_kpar2 : kPar2 n m [d, e] δ = .nx ((δ.set n (.pu d)).set m (.pu e)) := rfl
def kIf (a b : CS) (δ : List Sl) : R Bool → Fl
  | .ok true => a δ
  | .ok false => b δ
  | .ex C => .ex C δ
  | .no => .no
theorem e_ifS : cIfS ct s1 s2 δ = kIf s1 s2 δ (ct (bor δ)) := by
  unfold cIfS kIf evT
  cases ct (bor δ) with
  | ok k => cases k <;> rfl
  | ex C => rfl
  | no => rfl
theorem e_kif : kIf s1 s2 δ (.ok b) = if b = true then s1 δ else s2 δ := by cases b <;> rfl
theorem e_kifite {p : Prop} [Decidable p] {u v : R Bool} : kIf s1 s2 δ (if p then u else v) = if p then kIf s1 s2 δ u else kIf s1 s2 δ v := by split <;> rfl
theorem e_rz : cRz X δ = .ex X δ := rfl
theorem e_for {t : CT} : cFor ca t s1 δ = fA (evI ca δ) δ fun ds δ' => forGo t s1 ds δ' := rfl
def kApp (i : Nat) (d : D) (δ' : List Sl) : Option Sl → Fl
  | some (.ow ds) => if ds.length < sizeLine then .nx (δ'.set i (.ow (ds ++ [d]))) else .no
  | _ => .no
def kApp0 (i : Nat) (c : C) (δ : List Sl) : Option Sl → Fl
  | some (.ow _) => fA (evA c δ) δ fun d δ' => kApp i d δ' δ'[i]?
  | _ => .no
theorem e_appd : cAppd a c δ = kApp0 a c δ δ[a]? := by
  unfold cAppd kApp0
  cases δ[a]? with
  | none => rfl
  | some s =>
    cases s with
    | un => rfl
    | oo d => rfl
    | od d => rfl
    | os C fs ds => rfl
    | tr o => rfl
    | nt d => rfl
    | pu d => rfl
    | ow ds =>
      show fA (evA c δ) δ (fun d δ' => (match δ'[a]? with
        | some (.ow ds) => if ds.length < sizeLine then .nx (δ'.set a (.ow (ds ++ [d]))) else .no
        | _ => .no)) = _
      refine congrArg (fA (evA c δ) δ) ?_
      funext d δ'
      unfold kApp
      cases δ'[a]? with
      | none => rfl
      | some s => cases s <;> rfl
theorem e_kapp0 : kApp0 a c δ (some (.ow ds)) = fA (evA c δ) δ fun d δ' => kApp a d δ' δ'[a]? := rfl
theorem e_kapp : kApp a d δ (some (.ow ds)) = if ds.length < sizeLine then .nx (δ.set a (.ow (ds ++ [d]))) else .no := rfl
theorem e_run : run n s1 ds = outF (s1 (ini n ds)) := rfl
theorem e_ort : outF (.rt d) = .ok d := rfl
theorem e_ortl : outF (.rtl ds) = .okl ds := rfl
theorem e_oex : outF (.ex X δ) = .ex X := rfl
theorem e_onx : outF (.nx δ) = .ok .non := rfl
theorem e_oite {p : Prop} [Decidable p] {u v : Fl} : outF (if p then u else v) = if p then outF u else outF v := by split <;> rfl
theorem e_ors {s3 : CS} (h : s1 δ ≠ .no) : cOrS s1 s3 δ = s1 δ := by
  unfold cOrS
  cases e : s1 δ <;> first | rfl | exact absurd e h
theorem e_ors2 {s3 : CS} (h : s1 δ = .no) : cOrS s1 s3 δ = s3 δ := by
  unfold cOrS
  rw [h]
/-! loops -/
theorem e_go0 {t : CT} : forGo t s1 [] δ = .nx δ := rfl
def kGo (t : CT) (s : CS) (ds : List D) : Option (List Sl) → Fl
  | some δ => fLoop (s δ) (forGo t s ds)
  | none => .no
theorem e_go {t : CT} : forGo t s1 (d :: ds) δ = kGo t s1 ds (t d δ) := by
  unfold kGo
  show (match t d δ with
    | none => Fl.no
    | some δ1 => fLoop (s1 δ1) (forGo t s1 ds)) = _
  cases t d δ <;> rfl
theorem e_kgo {t : CT} : kGo t s1 ds (some δ) = fLoop (s1 δ) (forGo t s1 ds) := rfl
theorem e_lnx {k : List Sl → Fl} : fLoop (.nx δ) k = k δ := rfl
theorem e_lct {k : List Sl → Fl} : fLoop (.ct δ) k = k δ := rfl
theorem e_lbk {k : List Sl → Fl} : fLoop (.bk δ) k = .nx δ := rfl
theorem e_lrt {k : List Sl → Fl} : fLoop (.rt d) k = .rt d := rfl
theorem e_lite {p : Prop} [Decidable p] {u v : Fl} {k : List Sl → Fl} : fLoop (if p then u else v) k = if p then fLoop u k else fLoop v k := by split <;> rfl
/-- a comprehension without a test whose every element comes out -/
theorem lc_map {t : CT} {celt : C} {f : D → D} : ∀ (ds acc : List D), (∀ d ∈ ds, ∃ δ1, t d δ = some δ1 ∧ celt δ1 = .ok (f d)) → acc.length + ds.length < sizeLine → lcGo t cTrue celt δ ds acc = .ok (acc ++ ds.map f)
  | [], acc, _, _ => by simp [lcGo]
  | d :: ds, acc, h, hl => by
    obtain ⟨δ1, h1, h2⟩ := h d List.mem_cons_self
    have ih := lc_map ds (acc ++ [f d]) (fun x hx => h x (List.mem_cons_of_mem _ hx)) (by simp only [List.length_append, List.length_cons, List.length_nil] at *; omega)
    unfold lcGo
    simp only [h1, cTrue, h2]
    rw [if_pos (by simp only [List.length_cons] at hl; omega), ih]
    simp
/-- .. with a test -/
theorem lc_filter {t : CT} {ct : CB} {celt : C} {p : D → Bool} {f : D → D} : ∀ (ds acc : List D), (∀ d ∈ ds, ∃ δ1, t d δ = some δ1 ∧ ct δ1 = .ok (p d) ∧ (p d = true → celt δ1 = .ok (f d))) → acc.length + ds.length < sizeLine → lcGo t ct celt δ ds acc = .ok (acc ++ (ds.filter p).map f)
  | [], acc, _, _ => by simp [lcGo]
  | d :: ds, acc, h, hl => by
    obtain ⟨δ1, h1, h2, h3⟩ := h d List.mem_cons_self
    unfold lcGo
    simp only [h1, h2]
    cases hp : p d with
    | true =>
      have ih := lc_filter ds (acc ++ [f d]) (fun x hx => h x (List.mem_cons_of_mem _ hx)) (by simp only [List.length_append, List.length_cons, List.length_nil] at *; omega)
      simp only [h3 hp]
      rw [if_pos (by simp only [List.length_cons] at hl; omega), ih]
      simp [hp]
    | false =>
      have ih := lc_filter ds acc (fun x hx => h x (List.mem_cons_of_mem _ hx)) (by simp only [List.length_cons] at *; omega)
      simp only []
      rw [ih]
      simp [hp]
theorem e_lc {t : CT} {vs : List Nat} : cLc ca t ct c vs δ = (ca δ).bind fun ds => lcGo t ct c (wipeD δ vs) ds [] := rfl
theorem e_itL : dItems (.lst ds) = .ok ds := rfl
theorem e_itK : dItems (.kst ds) = .ok ds := rfl
theorem e_itT : dItems (.tup ds) = .ok ds := rfl
theorem e_wipe0 : wipeD δ [] = δ := rfl
theorem e_wipe {v : Nat} {vs : List Nat} : wipeD δ (v :: vs) = (wipeD δ vs).set v .un := rfl
theorem e_rng1 (h : 0 ≤ j) (h2 : j < 2 ^ 62) : dRng1 [.int j] = .ok (rangeD 0 j.toNat) := by
  show (if -(2 ^ 62) ≤ j ∧ j < 2 ^ 62 then R.ok (rangeD 0 j.toNat) else R.no) = _
  rw [if_pos ⟨by omega, h2⟩]
theorem e_rng2 (h : -(2 ^ 62) ≤ i ∧ i < 2 ^ 62 ∧ -(2 ^ 62) ≤ j ∧ j < 2 ^ 62) : dRng2 [.int i, .int j] = .ok (rangeD i (j - i).toNat) := by
  show (if -(2 ^ 62) ≤ i ∧ i < 2 ^ 62 ∧ -(2 ^ 62) ≤ j ∧ j < 2 ^ 62 then R.ok (rangeD i (j - i).toNat) else R.no) = _
  rw [if_pos h]
theorem e_tryK {f : Str → Option Bool} : cTryK f n m s1 δ = fTry f (fun C δ1 => .nx (((δ1.set n (.pu (.exc C))).set m (.pu (.exc C))).set n .un)) (s1 δ) := rfl
theorem e_tryN {f : Str → Option Bool} : cTryN f n s1 δ = fTry f (fun _ δ1 => .nx (δ1.set n (.pu .non))) (s1 δ) := rfl
def kTry (k : Str → List Sl → Fl) (C : Str) (δ : List Sl) : Option Bool → Fl
  | some true => k C δ
  | some false => .ex C δ
  | none => .no
theorem e_tryx {f : Str → Option Bool} {k : Str → List Sl → Fl} : fTry f k (.ex X δ) = kTry k X δ (f X) := by
  show (match f X with
    | some true => k X δ
    | some false => Fl.ex X δ
    | none => Fl.no) = _
  unfold kTry
  cases f X with
  | none => rfl
  | some b => cases b <;> rfl
theorem e_ktry {k : Str → List Sl → Fl} : kTry k X δ (some true) = k X δ := rfl
theorem e_trynx {f : Str → Option Bool} {k : Str → List Sl → Fl} : fTry f k (.nx δ) = .nx δ := rfl
theorem e_exp : cExp c δ = fA (evA c δ) δ fun _ δ' => .nx δ' := rfl
/-! sizes -/
def Bd (n : Nat) (x : Int) : Prop := x.natAbs < 2 ^ n
theorem Bd.mono {p q : Nat} (h : Bd p i) (hq : p ≤ q) : Bd q i := Nat.lt_of_lt_of_le h (Nat.pow_le_pow_right (by decide) hq)
theorem Bd.mul {p q : Nat} (h : Bd p i) (g : Bd q j) : Bd (p + q) (i * j) := by
  unfold Bd at *
  rw [Int.natAbs_mul, Nat.pow_add]
  exact Nat.mul_lt_mul'' h g
theorem Bd.add {p q r : Nat} (h : Bd p i) (g : Bd q j) (hp : p ≤ r) (hq : q ≤ r) : Bd (r + 1) (i + j) := by
  have h1 := h.mono hp
  have h2 := g.mono hq
  unfold Bd at *
  rw [Nat.pow_succ]
  omega
theorem Bd.neg {p : Nat} (h : Bd p i) : Bd p (-i) := by
  unfold Bd at *
  rw [Int.natAbs_neg]
  exact h
theorem Bd.sub {p q r : Nat} (h : Bd p i) (g : Bd q j) (hp : p ≤ r) (hq : q ≤ r) : Bd (r + 1) (i - j) := by
  rw [Int.sub_eq_add_neg]
  exact h.add g.neg hp hq
theorem Bd.le {p : Nat} (h : i.natAbs ≤ j.natAbs) (g : Bd p j) : Bd p i := Nat.lt_of_le_of_lt h g
theorem bd_of {p : Nat} (h1 : -((2 ^ p : Nat) : Int) < i) (h2 : i < ((2 ^ p : Nat) : Int)) : Bd p i := by
  unfold Bd
  omega
theorem bd_nat {p : Nat} (h0 : 0 ≤ i) (h : i.toNat < 2 ^ p) : Bd p i := by
  unfold Bd
  omega
theorem cMul_bd {p q : Nat} (h : Bd p i) (g : Bd q j) (hl : p + q ≤ 900000) : cMul i j := wide_mul (h.mono (Nat.le_succ p)) (g.mono (Nat.le_succ q)) (Nat.succ_pos _) (Nat.succ_pos _) (by omega)
theorem cDiv_bd {q : Nat} (h0 : j ≠ 0) (g : Bd q j) (hl : q ≤ 8999) : cDiv i j := ⟨h0, Nat.lt_of_lt_of_le (PySem.Flt.log2_lt_of (Nat.succ_pos q) (g.mono (Nat.le_succ q))) (by omega)⟩
theorem cDiv_lit {n : Nat} (h : n ≠ 0) (h2 : n < 2 ^ 64) : cDiv i (OfNat.ofNat n : Int) := by
  refine cDiv_bd (q := 64) ?_ ?_ (by decide)
  · show ((n : Nat) : Int) ≠ 0
    omega
  · show ((n : Nat) : Int).natAbs < 2 ^ 64
    rw [Int.natAbs_natCast]
    exact h2
theorem cMod_lit {n : Nat} (h : n ≠ 0) : cMod i (OfNat.ofNat n : Int) := by
  show ((n : Nat) : Int) ≠ 0
  omega
theorem cPow_lit {n m : Nat} (h : n < 2 ^ 64) (h2 : m ≤ 1000000) : cPow (OfNat.ofNat n : Int) (OfNat.ofNat m : Int) := by
  refine ⟨?_, ?_, ?_⟩
  · show (0 : Int) ≤ ((m : Nat) : Int)
    omega
  · show ((m : Nat) : Int) ≤ 1000000
    omega
  · show ((n : Nat) : Int).natAbs < 2 ^ 64
    rw [Int.natAbs_natCast]
    exact h
theorem e_modP (h : 0 < j) : dMod (.int i) (.int j) = .ok (.int (i % j)) := by
  rw [e_mod, if_pos (show cMod i j from by unfold cMod; omega), Int.fmod_eq_emod_of_nonneg _ (by omega)]
theorem e_divP (h : 0 < j) (hc : cDiv i j) : dDiv (.int i) (.int j) = .ok (.int (i / j)) := by
  rw [e_div, if_pos hc, Int.fdiv_eq_ediv_of_nonneg _ (by omega)]
theorem e_divL {n : Nat} (h : n ≠ 0) (h2 : n < 2 ^ 64) : dDiv (.int i) (.int (OfNat.ofNat n : Int)) = .ok (.int (i / (OfNat.ofNat n : Int))) := by
  refine e_divP ?_ (cDiv_lit h h2)
  show (0 : Int) < ((n : Nat) : Int)
  omega
theorem e_modL {n : Nat} (h : n ≠ 0) : dMod (.int i) (.int (OfNat.ofNat n : Int)) = .ok (.int (i % (OfNat.ofNat n : Int))) := by
  refine e_modP ?_
  show (0 : Int) < ((n : Nat) : Int)
  omega
theorem e_powL {n m : Nat} (h : n < 2 ^ 64) (h2 : m ≤ 1000000) : dPow (.int (OfNat.ofNat n : Int)) (.int (OfNat.ofNat m : Int)) = .ok (.int ((OfNat.ofNat n : Int) ^ m)) := by
  rw [e_pow, if_pos (cPow_lit h h2)]
  rfl
/-- a loop whose turns all go on, by an invariant -/
theorem go_inv {t : CT} {s : CS} (I : Nat → List Sl → Prop) {ds : List D} (h : ∀ k d δ, ds[k]? = some d → I k δ → ∃ δ1, t d δ = some δ1 ∧ ∃ δ2, (s δ1 = .nx δ2 ∨ s δ1 = .ct δ2) ∧ I (k + 1) δ2) :
    ∀ (n k : Nat) (δ : List Sl), n = ds.length - k → k ≤ ds.length → I k δ → ∃ δ', forGo t s (ds.drop k) δ = .nx δ' ∧ I ds.length δ' := by
  intro n
  induction n with
  | zero =>
    intro k δ hn hk hi
    have e : k = ds.length := by omega
    subst e
    refine ⟨δ, ?_, hi⟩
    rw [List.drop_length]
    rfl
  | succ n ih =>
    intro k δ hn hk hi
    have hlt : k < ds.length := by omega
    obtain ⟨δ1, h1, δ2, h2, h3⟩ := h k ds[k] δ (List.getElem?_eq_getElem hlt) hi
    obtain ⟨δ', h4, h5⟩ := ih (k + 1) δ2 (by omega) (by omega) h3
    refine ⟨δ', ?_, h5⟩
    rw [List.drop_eq_getElem_cons hlt, e_go, h1, e_kgo]
    rcases h2 with h2 | h2
    · rw [h2, e_lnx, h4]
    · rw [h2, e_lct, h4]
theorem go_inv0 {t : CT} {s : CS} (I : Nat → List Sl → Prop) {ds : List D} {δ : List Sl} (h0 : I 0 δ) (h : ∀ k d δ, ds[k]? = some d → I k δ → ∃ δ1, t d δ = some δ1 ∧ ∃ δ2, (s δ1 = .nx δ2 ∨ s δ1 = .ct δ2) ∧ I (k + 1) δ2) :
    ∃ δ', forGo t s ds δ = .nx δ' ∧ I ds.length δ' := by
  have z := go_inv I h ds.length 0 δ (by omega) (by omega) h0
  rwa [List.drop_zero] at z
theorem mul_ok {p q : Nat} (h1 : i.natAbs < 2 ^ p) (h2 : j.natAbs < 2 ^ q) (hp : 0 < p) (hq : 0 < q) (h : p + q ≤ 1000000) : cMul i j := wide_mul h1 h2 hp hq h
theorem div_ok {q : Nat} (h0 : j ≠ 0) (h2 : j.natAbs < 2 ^ q) (hq : 0 < q) (h : q ≤ 9000) : cDiv i j := ⟨h0, Nat.lt_of_lt_of_le (PySem.Flt.log2_lt_of hq h2) h⟩
end
end Dw
namespace Dw
open PySem L2 PyProof.Rows
section
variable {n m : Nat} {i j : Int} {d : D} {ds es : List D} {x y : PySem.Str} {b : Bool} {ks : List (PySem.Str × D)}
theorem szT (h : n ≤ 10000000) : (n ≤ sizeLine) = True := eq_true (sz h)
theorem szlT (h : n < 10000000) : (n < sizeLine) = True := eq_true (szl h)
theorem i_tt : dIsi (isBt .tuple) (.tup ds) = .ok (.bl true) := rfl
theorem i_ti : dIsi (isBt .tuple) (.int i) = .ok (.bl false) := rfl
theorem i_tb : dIsi (isBt .tuple) (.bl b) = .ok (.bl false) := rfl
theorem i_ts : dIsi (isBt .tuple) (.str x) = .ok (.bl false) := rfl
theorem i_tn : dIsi (isBt .tuple) .non = .ok (.bl false) := rfl
theorem i_tl : dIsi (isBt .tuple) (.lst ds) = .ok (.bl false) := rfl
theorem i_td {ps qs} : dIsi (isBt .tuple) (.dct ps qs) = .ok (.bl false) := rfl
theorem i_it : dIsi (isBt .int) (.tup ds) = .ok (.bl false) := rfl
theorem i_ii : dIsi (isBt .int) (.int i) = .ok (.bl true) := rfl
theorem i_ib : dIsi (isBt .int) (.bl b) = .ok (.bl true) := rfl
theorem i_is : dIsi (isBt .int) (.str x) = .ok (.bl false) := rfl
theorem i_in : dIsi (isBt .int) .non = .ok (.bl false) := rfl
theorem i_il : dIsi (isBt .int) (.lst ds) = .ok (.bl false) := rfl
theorem i_bt : dIsi (isBt .bool) (.tup ds) = .ok (.bl false) := rfl
theorem i_bi : dIsi (isBt .bool) (.int i) = .ok (.bl false) := rfl
theorem i_bb : dIsi (isBt .bool) (.bl b) = .ok (.bl true) := rfl
theorem i_bs : dIsi (isBt .bool) (.str x) = .ok (.bl false) := rfl
theorem i_bn : dIsi (isBt .bool) .non = .ok (.bl false) := rfl
theorem i_bl : dIsi (isBt .bool) (.lst ds) = .ok (.bl false) := rfl
theorem e_str1 (h : Bd 1900 i) : dStr1 [.int i] = .ok (.str (toString i)) := by
  show (if i.natAbs.log2 < 1920 then R.ok (D.str (toString i)) else R.no) = _
  rw [if_pos (Nat.lt_of_lt_of_le (PySem.Flt.log2_lt_of (by decide) h) (by decide))]
theorem len_app : (x ++ y).length = x.length + y.length := by
  show (x.cps ++ y.cps).size = _
  rw [Array.size_append]
  rfl
theorem len_of (s : String) : (PySem.Str.ofString s).length = s.length := by
  rw [PySem.Str.ofString_eq_toList]
  show (s.toList.map Char.toNat).toArray.size = _
  rw [List.size_toArray, List.length_map, String.length_toList]
theorem len_str (h : Bd 1900 i) : (PySem.Str.ofString (toString i)).length ≤ 1901 := by
  rw [len_of, Int.toString_eq_repr, Int.repr_eq_if]
  have g : i.natAbs < 10 ^ 1900 := Nat.lt_of_lt_of_le h (Nat.pow_le_pow_left (by decide) _)
  have g1 : (-i).toNat < 10 ^ 1900 := Nat.lt_of_le_of_lt (by omega) g
  have g2 : i.toNat < 10 ^ 1900 := Nat.lt_of_le_of_lt (by omega) g
  have e1 := (Nat.length_repr_le_iff (n := (-i).toNat) (by decide : 0 < 1900)).mpr g1
  have e2 := (Nat.length_repr_le_iff (n := i.toNat) (by decide : 0 < 1900)).mpr g2
  clear g g1 g2 h
  split
  · omega
  · rw [String.length_append]
    have : ("-" : String).length = 1 := by decide
    omega
theorem f_modL {n : Nat} (h : n ≠ 0) : dMod (.int i) (.int (no_index (OfNat.ofNat n : Int))) = .ok (.int (i % (OfNat.ofNat n : Int))) := e_modL h
theorem f_divL {n : Nat} (h : n ≠ 0) (h2 : n < 2 ^ 64) : dDiv (.int i) (.int (no_index (OfNat.ofNat n : Int))) = .ok (.int (i / (OfNat.ofNat n : Int))) := e_divL h h2
theorem f_powL {n m : Nat} (h : n < 2 ^ 64) (h2 : m ≤ 1000000) : dPow (.int (no_index (OfNat.ofNat n : Int))) (.int (no_index (OfNat.ofNat m : Int))) = .ok (.int ((OfNat.ofNat n : Int) ^ m)) := e_powL h h2
theorem f_modC {k : Nat} : dMod (.int i) (.int (10 ^ k)) = .ok (.int (i % (10 ^ k))) := e_modP (Int.pow_pos (by decide))
theorem e_dct0 {δ : List Sl} : cDct0 δ = .ok (.dct [] []) := rfl
theorem e_rep (h : i.toNat ≤ 10000) (h2 : -10000 ≤ i) (hd : ds.length ≤ 100) : dRep ds (.int i) = .ok (List.replicate i.toNat ds).flatten := by
  show (if i < 2 ^ 24 ∧ ds.length * i.toNat ≤ sizeLine ∧ -(2 ^ 24) < i then R.ok (List.replicate i.toNat ds).flatten else R.no) = _
  rw [if_pos]
  refine ⟨by omega, Nat.le_trans (Nat.mul_le_mul hd h) (by decide), by omega⟩
end
end Dw
namespace Dw
open PySem L2 PyProof.Rows
section
variable {n m a : Nat} {i j : Int} {d e k : D} {ds es : List D} {x y : PySem.Str} {b : Bool} {δ : List Sl} {ca cb cc c : C} {f g : D → D → R D} {s : CS}
theorem e_chain : cChain f g ca cb cc δ = (ca δ).bind fun x => (cb δ).bind fun y => (f x y).bind fun z => kChain g cc y δ z := rfl
theorem bd_ten {k : Nat} : Bd (4 * k + 1) ((10 : Int) ^ k) := by
  unfold Bd
  rw [Int.natAbs_pow]
  have h1 : (10 : Nat) ^ k ≤ 16 ^ k := Nat.pow_le_pow_left (by decide) k
  have h2 : (16 : Nat) ^ k = 2 ^ (4 * k) := by rw [Nat.pow_mul]
  have h3 : (2 : Nat) ^ (4 * k + 1) = 2 ^ (4 * k) * 2 := Nat.pow_succ _ _
  have h4 : 0 < (2 : Nat) ^ (4 * k) := Nat.pow_pos (by decide)
  show (10 : Nat) ^ k < _
  omega
theorem f_divC {k : Nat} (h : k ≤ 2000) : dDiv (.int i) (.int (10 ^ k)) = .ok (.int (i / (10 ^ k))) := e_divP (Int.pow_pos (by decide)) (cDiv_bd (Int.ne_of_gt (Int.pow_pos (by decide))) bd_ten (by omega))
theorem e_ctS : cCt δ = .ct δ := rfl
theorem e_bkS : cBk δ = .bk δ := rfl
theorem e_kchT : kChain g cc d δ (.bl true) = (cc δ).bind fun w => g d w := rfl
theorem e_kchF : kChain g cc d δ (.bl false) = .ok (.bl false) := rfl
theorem e_kchD {p : Prop} [Decidable p] : kChain g cc d δ (.bl (decide p)) = if p then (cc δ).bind fun w => g d w else .ok (.bl false) := by
  by_cases h : p <;> simp [h, kChain]
def kAug0 (a : Nat) (h : Int → Int → Int) (c : C) (δ : List Sl) : Option Sl → Fl
  | some (.pu (.int u)) => fA (evA c δ) δ fun d δ' => kAug a h u d δ'
  | _ => .no
theorem e_aug {h : Int → Int → Int} : cAug a h c δ = kAug0 a h c δ δ[a]? := by
  unfold cAug kAug0
  cases δ[a]? with
  | none => rfl
  | some s =>
    cases s with
    | un => rfl
    | oo d => rfl
    | od d => rfl
    | os C fs ds => rfl
    | tr o => rfl
    | nt d => rfl
    | pu d => cases d <;> rfl
    | ow ds => rfl
theorem e_kaug0 {h : Int → Int → Int} : kAug0 a h c δ (some (.pu (.int i))) = fA (evA c δ) δ fun d δ' => kAug a h i d δ' := rfl
theorem e_kaug {h : Int → Int → Int} : kAug a h i (.int j) δ = .nx (δ.set a (.pu (.int (h i j)))) := rfl
def kIns0 (a : Nat) (c1 c2 : C) (δ : List Sl) : Option Sl → Fl
  | some (.ow _) => fA (evA c1 δ) δ fun k δ1 => fA (evA c2 δ1) δ1 fun d δ' => kIns a k d δ'
  | _ => .no
theorem e_ins {c1 c2 : C} : cIns a c1 c2 δ = kIns0 a c1 c2 δ δ[a]? := by
  unfold cIns kIns0
  cases δ[a]? with
  | none => rfl
  | some s => cases s <;> rfl
theorem e_kins0 {c1 c2 : C} : kIns0 a c1 c2 δ (some (.ow ds)) = fA (evA c1 δ) δ fun k δ1 => fA (evA c2 δ1) δ1 fun d δ' => kIns a k d δ' := rfl
def kIns1 (a : Nat) (j : Int) (d : D) (δ : List Sl) : Option Sl → Fl
  | some (.ow ds) => if ds.length < sizeLine ∧ 0 ≤ j ∧ j < 2 ^ 63 then .nx (δ.set a (.ow (ds.take j.toNat ++ [d] ++ ds.drop j.toNat))) else .no
  | _ => .no
theorem e_kins : kIns a (.int j) d δ = kIns1 a j d δ δ[a]? := by
  unfold kIns kIns1
  cases δ[a]? with
  | none => rfl
  | some s => cases s <;> rfl
theorem e_kins1 (h1 : ds.length < 10000000) (h2 : 0 ≤ j) (h3 : j < 10000000) : kIns1 a j d δ (some (.ow ds)) = .nx (δ.set a (.ow (ds.take j.toNat ++ [d] ++ ds.drop j.toNat))) := by
  show (if ds.length < sizeLine ∧ 0 ≤ j ∧ j < 2 ^ 63 then Fl.nx (δ.set a (.ow (ds.take j.toNat ++ [d] ++ ds.drop j.toNat))) else .no) = _
  rw [if_pos ⟨szl h1, h2, by omega⟩]
theorem e_setI {ck : C} : cSetI a ck c δ = fA (evA c δ) δ fun d δ1 => kSetJ a ck d δ1 := rfl
def kSetJ0 (a : Nat) (ck : C) (d : D) (δ : List Sl) : Option Sl → Fl
  | some (.ow _) => fA (evA ck δ) δ fun k δ' => kSetI a d k δ'
  | _ => .no
theorem e_setJ {ck : C} : kSetJ a ck d δ = kSetJ0 a ck d δ δ[a]? := by
  unfold kSetJ kSetJ0
  cases δ[a]? with
  | none => rfl
  | some s => cases s <;> rfl
theorem e_setJ0 {ck : C} : kSetJ0 a ck d δ (some (.ow ds)) = fA (evA ck δ) δ fun k δ' => kSetI a d k δ' := rfl
def kSetK (a : Nat) (d : D) (δ : List Sl) (j : Int) : Option Sl → Fl
  | some (.ow ds) => (match ixN ds.length j with
      | some m => .nx (δ.set a (.ow (ds.set m d)))
      | none => .no)
  | _ => .no
theorem e_setK : kSetI a d (.int j) δ = kSetK a d δ j δ[a]? := by
  unfold kSetI kSetK
  cases δ[a]? with
  | none => rfl
  | some s => cases s <;> rfl
theorem ixN_nat (h : m < n) : ixN n (m : Int) = some m := by
  unfold ixN
  simp
  omega
theorem ixN_last (h : 0 < n) : ixN n (-1) = some (n - 1) := by
  unfold ixN
  simp
  omega
theorem e_setKn (h : m < ds.length) : kSetK a d δ (m : Int) (some (.ow ds)) = .nx (δ.set a (.ow (ds.set m d))) := by
  show (match ixN ds.length (m : Int) with
      | some m => Fl.nx (δ.set a (.ow (ds.set m d)))
      | none => .no) = _
  rw [ixN_nat h]
theorem e_setKl (h : 0 < ds.length) : kSetK a d δ (-1) (some (.ow ds)) = .nx (δ.set a (.ow (ds.set (ds.length - 1) d))) := by
  show (match ixN ds.length (-1) with
      | some m => Fl.nx (δ.set a (.ow (ds.set m d)))
      | none => .no) = _
  rw [ixN_last h]
theorem e_slG {α : Type} {f : Option Int → Option Int → D → R α} {lo hi : CO} : cSlG f c lo hi δ = (c δ).bind fun d => (lo δ).bind fun l => (hi δ).bind fun h => f l h d := rfl
theorem e_noP : cNoP δ = .ok none := rfl
theorem e_pt : dPt (.int i) = .ok (some i) := rfl
theorem e_slAL {lo hi : Option Int} : dSlA lo hi (.lst ds) = .ok (.lst (cutD ds lo hi)) := rfl
theorem e_slAK {lo hi : Option Int} : dSlA lo hi (.kst ds) = .ok (.lst (cutD ds lo hi)) := rfl
theorem e_slAT {lo hi : Option Int} : dSlA lo hi (.tup ds) = .ok (.tup (cutD ds lo hi)) := rfl
theorem e_slNL {lo hi : Option Int} : dSlN lo hi (.lst ds) = .ok (cutD ds lo hi) := rfl
theorem e_slNK {lo hi : Option Int} : dSlN lo hi (.kst ds) = .ok (cutD ds lo hi) := rfl
theorem cut_from (h0 : 0 ≤ i) (h : i ≤ ds.length) : cutD ds (some i) none = ds.drop i.toNat := by
  have e : HT.sIx ds.length 0 (some i) = i.toNat := by
    show (if i < 0 then (i + (ds.length : Int)).toNat else min i.toNat ds.length) = _
    rw [if_neg (by omega)]
    omega
  unfold cutD
  rw [e, HT.sIx_none, List.take_of_length_le (by rw [List.length_drop]; omega)]
theorem cut_to (h0 : 0 ≤ j) (h : j ≤ ds.length) : cutD ds none (some j) = ds.take j.toNat := by
  have e : HT.sIx ds.length ds.length (some j) = j.toNat := by
    show (if j < 0 then (j + (ds.length : Int)).toNat else min j.toNat ds.length) = _
    rw [if_neg (by omega)]
    omega
  unfold cutD
  rw [e, HT.sIx_none, List.drop_zero, Nat.sub_zero]
theorem cut_mid (h0 : 0 ≤ i) (h : i ≤ j) (h2 : j ≤ ds.length) : cutD ds (some i) (some j) = (ds.drop i.toNat).take (j - i).toNat := by
  have e : HT.sIx ds.length 0 (some i) = i.toNat := by
    show (if i < 0 then (i + (ds.length : Int)).toNat else min i.toNat ds.length) = _
    rw [if_neg (by omega)]
    omega
  have e2 : HT.sIx ds.length ds.length (some j) = j.toNat := by
    show (if j < 0 then (j + (ds.length : Int)).toNat else min j.toNat ds.length) = _
    rw [if_neg (by omega)]
    omega
  unfold cutD
  rw [e, e2]
  congr 1
  omega
theorem bools_map : ∀ bs : List Bool, boolsD (bs.map D.bl) = some bs
  | [] => rfl
  | b :: bs => by
    show (match boolsD (bs.map D.bl) with
      | some is => some (b :: is)
      | none => none) = _
    rw [bools_map bs]
theorem e_all {bs : List Bool} : dAll [.lst (bs.map D.bl)] = .ok (.bl (bs.all id)) := by
  show (match boolsD (bs.map D.bl) with
    | some is => R.ok (D.bl (is.all id))
    | _ => R.no) = _
  rw [bools_map]
theorem e_listL : dListOf [.lst ds] = .ok ds := rfl
theorem e_listT : dListOf [.tup ds] = .ok ds := rfl
theorem e_listK : dListOf [.kst ds] = .ok ds := rfl
theorem at_last (h : 0 < ds.length) : atD ds (-1) = .ok (ds[ds.length - 1]'(by omega)) := by
  unfold atD
  rw [ixN_last h]
  simp only [List.getElem?_eq_getElem (show ds.length - 1 < ds.length by omega)]
/-- a while loop by an invariant and a measure -/
theorem wh_inv {t : CB} {bd : CS} {S : Type} (enc : S → List Sl) (q : S → Bool) (I : S → Prop) (μ : S → Nat) (ht : ∀ s, I s → evT t (enc s) = .ok (q s)) (hb : ∀ s, I s → q s = true → ∃ s', (bd (enc s) = .nx (enc s') ∨ bd (enc s) = .ct (enc s')) ∧ I s' ∧ μ s' < μ s) :
    ∀ s, I s → ∃ s', cWh t bd (enc s) = .nx (enc s') ∧ I s' ∧ q s' = false := by
  have key : ∀ (n : Nat) (s : S), μ s < n → I s → ∃ s', whN t bd n (enc s) = .nx (enc s') ∧ I s' ∧ q s' = false := by
    intro n
    induction n with
    | zero => intro s h; omega
    | succ n ih =>
      intro s hm hi
      unfold whN
      rw [ht s hi]
      cases hq : q s with
      | false => exact ⟨s, rfl, hi, hq⟩
      | true =>
        obtain ⟨s1, h1, h2, h3⟩ := hb s hi hq
        obtain ⟨s2, g1, g2, g3⟩ := ih s1 (by omega) h2
        refine ⟨s2, ?_, g2, g3⟩
        rcases h1 with h1 | h1
        · simp only [h1]; exact g1
        · simp only [h1]; exact g1
  intro s hi
  obtain ⟨s', h1, h2, h3⟩ := key (μ s + 1) s (by omega) hi
  exact ⟨s', cWh_of h1 (fun z => nomatch z), h2, h3⟩
/-- a loop that folds -/
theorem go_fold {t : CT} {S : Type} (enc : S → List Sl) (st : S → D → S) (I : S → Prop) : ∀ (ds : List D) (s0 : S), I s0 → (∀ s1 d, d ∈ ds → I s1 → ∃ δ1, t d (enc s1) = some δ1 ∧ (s δ1 = .nx (enc (st s1 d)) ∨ s δ1 = .ct (enc (st s1 d))) ∧ I (st s1 d)) → forGo t s ds (enc s0) = .nx (enc (ds.foldl st s0)) ∧ I (ds.foldl st s0)
  | [], s0, h0, _ => ⟨rfl, h0⟩
  | d :: ds, s0, h0, h => by
    obtain ⟨δ1, h1, h2, h3⟩ := h s0 d List.mem_cons_self h0
    have ih := go_fold enc st I ds (st s0 d) h3 fun s1 d' hd => h s1 d' (List.mem_cons_of_mem _ hd)
    rw [e_go, h1, e_kgo]
    rcases h2 with h2 | h2
    · rw [h2, e_lnx]; exact ih
    · rw [h2, e_lct]; exact ih
theorem go_map {t : CT} {α S : Type} {f : α → D} (P : List Sl → S → Prop) (st : S → α → S) : ∀ (l : List α) (s0 : S) (δ : List Sl), P δ s0 → (∀ s1 a δ, a ∈ l → P δ s1 → ∃ δ1, t (f a) δ = some δ1 ∧ ∃ δ2, (s δ1 = .nx δ2 ∨ s δ1 = .ct δ2) ∧ P δ2 (st s1 a)) → ∃ δ', forGo t s (l.map f) δ = .nx δ' ∧ P δ' (l.foldl st s0)
  | [], s0, δ, h0, _ => ⟨δ, rfl, h0⟩
  | a :: l, s0, δ, h0, h => by
    obtain ⟨δ1, h1, δ2, h2, h3⟩ := h s0 a δ List.mem_cons_self h0
    obtain ⟨δ', g1, g2⟩ := go_map P st l (st s0 a) δ2 h3 fun s1 b δ hb => h s1 b δ (List.mem_cons_of_mem _ hb)
    refine ⟨δ', ?_, g2⟩
    rw [List.map_cons, e_go, h1, e_kgo]
    rcases h2 with h2 | h2
    · rw [h2, e_lnx]; exact g1
    · rw [h2, e_lct]; exact g1
theorem at_app : atD (ds ++ [d]) (-1) = .ok d := by
  rw [at_last (by simp)]
  simp
theorem e_setKa : kSetK a d δ (-1) (some (.ow (ds ++ [e]))) = .nx (δ.set a (.ow (ds ++ [d]))) := by
  rw [e_setKl (by simp)]
  simp
theorem at_get {m : Nat} (h : ds[m]? = some d) : atD ds (m : Int) = .ok d := by
  have hm := (List.getElem?_eq_some_iff.mp h).1
  unfold atD
  rw [ixN_nat hm]
  simp only [h]
theorem at_range {f : Nat → D} {m : Nat} (h : m < n) : atD ((List.range n).map f) (m : Int) = .ok (f m) := at_get (by rw [List.getElem?_map, List.getElem?_range h]; rfl)
theorem ne_nil (g : ds.all (D.good 19) = true) (hd : d.good 19 = true) : dNe (.lst (ds ++ [d])) (.lst []) = .ok (.bl true) := by
  rw [e_neG (.inl rfl) ?_ rfl]
  · cases ds <;> rfl
  · show (ds ++ [d]).all (D.good 19) = true
    rw [List.all_append, g]
    simp [hd]
theorem ne_nil0 : dNe (.lst []) (.lst []) = .ok (.bl false) := rfl
theorem all_true {α : Type} {l : List α} : dAll [.lst (l.map fun _ => D.bl true)] = .ok (.bl true) := by
  have e : (l.map fun _ => D.bl true) = (l.map fun _ => true).map D.bl := by rw [List.map_map]; rfl
  rw [e, e_all]
  congr 2
  rw [List.all_eq_true]
  intro x hx
  obtain ⟨_, _, rfl⟩ := List.mem_map.mp hx
  rfl
theorem go_pre {t : CT} {α : Type} {f : α → D} (P : List α → List Sl → Prop) {l : List α} {δ : List Sl} (h0 : P [] δ) (h : ∀ pre a post δ, l = pre ++ a :: post → P pre δ → ∃ δ1, t (f a) δ = some δ1 ∧ ∃ δ2, (s δ1 = .nx δ2 ∨ s δ1 = .ct δ2) ∧ P (pre ++ [a]) δ2) : ∃ δ', forGo t s (l.map f) δ = .nx δ' ∧ P l δ' := by
  have key : ∀ (post pre : List α) (δ : List Sl), l = pre ++ post → P pre δ → ∃ δ', forGo t s (post.map f) δ = .nx δ' ∧ P l δ' := by
    intro post
    induction post with
    | nil =>
      intro pre δ e hp
      rw [List.append_nil] at e
      subst e
      exact ⟨δ, rfl, hp⟩
    | cons a post ih =>
      intro pre δ e hp
      obtain ⟨δ1, h1, δ2, h2, h3⟩ := h pre a post δ e hp
      obtain ⟨δ', g1, g2⟩ := ih (pre ++ [a]) δ2 (by rw [e, List.append_assoc]; rfl) h3
      refine ⟨δ', ?_, g2⟩
      rw [List.map_cons, e_go, h1, e_kgo]
      rcases h2 with h2 | h2
      · rw [h2, e_lnx]; exact g1
      · rw [h2, e_lct]; exact g1
  exact key l [] δ rfl h0
theorem go_range {t : CT} (I : Nat → List Sl → Prop) {δ : List Sl} (h0 : I 0 δ) (h : ∀ k δ, k < n → I k δ → ∃ δ1, t (.int (k : Int)) δ = some δ1 ∧ ∃ δ2, (s δ1 = .nx δ2 ∨ s δ1 = .ct δ2) ∧ I (k + 1) δ2) : ∃ δ', forGo t s (rangeD 0 n) δ = .nx δ' ∧ I n δ' := by
  have e : (rangeD 0 n).length = n := by unfold rangeD; simp
  have z := go_inv0 (t := t) (s := s) I (ds := rangeD 0 n) h0 fun k d δ hd hi => by
    rw [rangeD_get] at hd
    split at hd
    · rename_i hk
      cases hd
      rw [Int.zero_add]
      exact h k δ hk hi
    · cases hd
  rwa [e] at z
theorem lc_range {t : CT} {g : Nat → D} (h : ∀ k, k < n → ∃ δ1, t (.int (k : Int)) δ = some δ1 ∧ c δ1 = .ok (g k)) (hn : n < 10000000) : lcGo t cTrue c δ (rangeD 0 n) [] = .ok ((List.range n).map g) := by
  have e : (rangeD 0 n) = (List.range n).map fun (k : Nat) => D.int (k : Int) := by
    unfold rangeD
    apply List.map_congr_left
    intro k _
    rw [Int.zero_add]
  rw [lc_map (f := fun d => match d with | .int i => g i.toNat | d => d) (rangeD 0 n) [] ?_ (szl (by rw [e]; simp; omega)), List.nil_append, e, List.map_map]
  · rfl
  · intro d hd
    rw [e] at hd
    obtain ⟨k, hk, rfl⟩ := List.mem_map.mp hd
    obtain ⟨δ1, h1, h2⟩ := h k (List.mem_range.mp hk)
    exact ⟨δ1, h1, h2⟩
theorem e_enumL : dEnum [.lst ds] = .ok (enumD 0 ds) := rfl
theorem e_enumK : dEnum [.kst ds] = .ok (enumD 0 ds) := rfl
theorem e_enum0 : enumD n [] = [] := rfl
theorem e_enum1 : enumD n (d :: ds) = .tup [.int (n : Int), d] :: enumD (n + 1) ds := rfl
end
end Dw
namespace Dw
open PySem L2 PyProof.Rows
section
variable {n m a : Nat} {i j : Int} {d e k : D} {ds es : List D} {x y : PySem.Str} {b : Bool} {δ : List Sl} {ca cb cc c : C} {s : Sl} {s1 : CS}
theorem e_borC : bor (s :: δ) = borS s :: bor δ := rfl
theorem e_borSp : borS (.pu d) = .pu d := rfl
theorem e_borSo : borS (.ow ds) = .pu (.lst ds) := rfl
theorem e_borSu : borS .un = .un := rfl
theorem good_layA {n : Nat} (ih : ∀ d : D, d.good n = true → d.toPy.canLay0 = true) : ∀ ds : List D, ds.all (D.good n) = true → PyData.canLayAll0 (D.toPys ds) = true
  | [], _ => rfl
  | d :: ds, h => by
    have g' := Bool.and_eq_true_iff.mp (show (d.good n && ds.all (D.good n)) = true from h)
    show (PyData.canLay0 d.toPy && PyData.canLayAll0 (D.toPys ds)) = true
    rw [ih d g'.1, good_layA ih ds g'.2]
    rfl
theorem good_lay : ∀ (n : Nat) (d : D), d.good n = true → d.toPy.canLay0 = true
  | n, .non, _ => by unfold D.toPy; rfl
  | n, .bl b, _ => by unfold D.toPy; rfl
  | n, .int i, _ => by unfold D.toPy; rfl
  | n, .str x, g => by
    have g' : PyData.strOk x = true := by
      cases n <;> exact g
    unfold D.toPy; exact g'
  | n, .ty x, g => by cases n <;> cases g
  | 0, .tup ds, g => by cases g
  | 0, .lst ds, g => by cases g
  | 0, .kst ds, g => by cases g
  | n + 1, .tup ds, g => by
    unfold D.toPy
    exact good_layA (good_lay n) ds g
  | n + 1, .lst ds, g => by
    unfold D.toPy
    exact good_layA (good_lay n) ds g
  | n + 1, .kst ds, g => by
    unfold D.toPy
    exact good_layA (good_lay n) ds g
  | n, .dct _ _, g => by cases n <;> cases g
  | n, .obj _ _ _, g => by cases n <;> cases g
  | n, .exc _, g => by cases n <;> cases g
theorem eq_self (g : d.good 20 = true) (h : d.sv = none) : dEq d d = .ok (.bl true) := by
  rw [e_eqG (.inl h) g g, SeqAt.eqv_refl _ (good_lay _ _ g)]
theorem ne_self (g : d.good 20 = true) (h : d.sv = none) : dNe d d = .ok (.bl false) := by
  rw [e_neG (.inl h) g g, SeqAt.eqv_refl _ (good_lay _ _ g)]
  rfl
theorem rangeD_get0 {n i : Nat} : (rangeD 0 n)[i]? = if i < n then some (.int (i : Int)) else none := by
  rw [rangeD_get, Int.zero_add]
theorem rng_len {lo : Int} {n : Nat} : (rangeD lo n).length = n := by unfold rangeD; simp
theorem rng1n {n : Nat} (h : n < 1000000000) : dRng1 [.int (n : Int)] = .ok (rangeD 0 n) := by
  rw [e_rng1 (by omega) (by omega), Int.toNat_natCast]
def kLc1 (t : CT) (q : CB) (c : C) (δ : List Sl) (ds acc : List D) : Option (List Sl) → R (List D)
  | none => .no
  | some δ1 => (match q δ1 with
      | .ok true => (match c δ1 with
        | .ok y => if acc.length < sizeLine then lcGo t q c δ ds (acc ++ [y]) else .no
        | _ => .no)
      | .ok false => lcGo t q c δ ds acc
      | _ => .no)
def kLc2 (t : CT) (q : CB) (c : C) (δ : List Sl) (ds acc : List D) (δ1 : List Sl) : R Bool → R (List D)
  | .ok true => (match c δ1 with
        | .ok y => if acc.length < sizeLine then lcGo t q c δ ds (acc ++ [y]) else .no
        | _ => .no)
  | .ok false => lcGo t q c δ ds acc
  | _ => .no
def kLc3 (t : CT) (q : CB) (c : C) (δ : List Sl) (ds acc : List D) : R D → R (List D)
  | .ok y => if acc.length < sizeLine then lcGo t q c δ ds (acc ++ [y]) else .no
  | _ => .no
section
variable {t : CT} {q : CB} {acc : List D} {δ1 : List Sl}
theorem e_lcN : lcGo t q c δ [] acc = .ok acc := rfl
theorem e_lcC : lcGo t q c δ (d :: ds) acc = kLc1 t q c δ ds acc (t d δ) := by
  rw [lcGo]; unfold kLc1; rfl
theorem e_lc1 : kLc1 t q c δ ds acc (some δ1) = kLc2 t q c δ ds acc δ1 (q δ1) := by
  unfold kLc1 kLc2; rfl
theorem e_lc2 : kLc2 t q c δ ds acc δ1 (.ok true) = kLc3 t q c δ ds acc (c δ1) := by
  unfold kLc2 kLc3; rfl
theorem e_lc2f : kLc2 t q c δ ds acc δ1 (.ok false) = lcGo t q c δ ds acc := rfl
theorem e_lc3 : kLc3 t q c δ ds acc (.ok d) = if acc.length < sizeLine then lcGo t q c δ ds (acc ++ [d]) else .no := rfl
theorem e_ctrue : cTrue δ = .ok true := rfl
end
theorem e_all0 : dAll [.lst []] = .ok (.bl true) := rfl
theorem e_all1 {b : Bool} : dAll [.lst [.bl b]] = .ok (.bl b) := by cases b <;> rfl
theorem e_all2 {a b : Bool} : dAll [.lst [.bl a, .bl b]] = .ok (.bl (a && b)) := by cases a <;> cases b <;> rfl
theorem e_all3 {a b c : Bool} : dAll [.lst [.bl a, .bl b, .bl c]] = .ok (.bl (a && (b && c))) := by cases a <;> cases b <;> cases c <;> rfl
theorem i_lt : dIsi (isBt .list) (.tup ds) = .ok (.bl false) := rfl
theorem i_li : dIsi (isBt .list) (.int i) = .ok (.bl false) := rfl
theorem i_lb : dIsi (isBt .list) (.bl b) = .ok (.bl false) := rfl
theorem i_ls : dIsi (isBt .list) (.str x) = .ok (.bl false) := rfl
theorem i_ln : dIsi (isBt .list) .non = .ok (.bl false) := rfl
theorem i_ll : dIsi (isBt .list) (.lst ds) = .ok (.bl true) := rfl
theorem i_lk : dIsi (isBt .list) (.kst ds) = .ok (.bl true) := rfl
theorem i_ld {ps qs} : dIsi (isBt .list) (.dct ps qs) = .ok (.bl false) := rfl
theorem i_id {ps qs} : dIsi (isBt .int) (.dct ps qs) = .ok (.bl false) := rfl
theorem i_bd {ps qs} : dIsi (isBt .bool) (.dct ps qs) = .ok (.bl false) := rfl
theorem i_st : dIsi (isBt .str) (.tup ds) = .ok (.bl false) := rfl
theorem i_si : dIsi (isBt .str) (.int i) = .ok (.bl false) := rfl
theorem i_sb : dIsi (isBt .str) (.bl b) = .ok (.bl false) := rfl
theorem i_ss : dIsi (isBt .str) (.str x) = .ok (.bl true) := rfl
theorem i_sn : dIsi (isBt .str) .non = .ok (.bl false) := rfl
theorem i_sl : dIsi (isBt .str) (.lst ds) = .ok (.bl false) := rfl
theorem i_sd {ps qs} : dIsi (isBt .str) (.dct ps qs) = .ok (.bl false) := rfl
theorem i_dt : dIsi (isBt .dict) (.tup ds) = .ok (.bl false) := rfl
theorem i_di : dIsi (isBt .dict) (.int i) = .ok (.bl false) := rfl
theorem i_db : dIsi (isBt .dict) (.bl b) = .ok (.bl false) := rfl
theorem i_ds : dIsi (isBt .dict) (.str x) = .ok (.bl false) := rfl
theorem i_dn : dIsi (isBt .dict) .non = .ok (.bl false) := rfl
theorem i_dl : dIsi (isBt .dict) (.lst ds) = .ok (.bl false) := rfl
theorem i_dd {ps qs} : dIsi (isBt .dict) (.dct ps qs) = .ok (.bl true) := rfl
theorem e_frtn : fSeq .no s1 = .no := rfl
theorem e_ono : outF .no = .no := rfl
theorem e_rsVn : rsV .no = .no := rfl
theorem e_at2 {d e f : D} : atD (d :: e :: f :: ds) 2 = .ok f := atD_int (by decide) rfl
theorem e_at3 {d e f g : D} : atD (d :: e :: f :: g :: ds) 3 = .ok g := atD_int (by decide) rfl
theorem e_at4 {d e f g h : D} : atD (d :: e :: f :: g :: h :: ds) 4 = .ok h := atD_int (by decide) rfl
theorem e_flI : D.flat (.int i) = true := by unfold D.flat; rfl
theorem e_flB : D.flat (.bl b) = true := by unfold D.flat; rfl
theorem e_flS : D.flat (.str x) = true := by unfold D.flat; rfl
theorem e_flN : D.flat .non = true := by unfold D.flat; rfl
theorem e_flL : D.flat (.lst ds) = false := by unfold D.flat; rfl
theorem e_flT : D.flat (.tup ds) = D.flat.flats ds := by rw [D.flat]
theorem e_fls0 : D.flat.flats [] = true := by rw [D.flat.flats]
theorem e_fls1 : D.flat.flats (d :: ds) = (d.flat && D.flat.flats ds) := by rw [D.flat.flats]
theorem e_if1 {α : Type} {p : Prop} [Decidable p] {u : α} : (if p then u else u) = u := ite_self ..
end
end Dw
namespace Dw
open PySem L2 PyProof.Rows
/-! ### how long a repr is -/
mutual
def D.dl : D → Nat
  | .int _ => 1901
  | .str x => (reprText x).length
  | .tup ds => 3 + D.dls ds
  | .lst ds => 3 + D.dls ds
  | .kst ds => 3 + D.dls ds
  | _ => 5
def D.dls : List D → Nat
  | [] => 0
  | d :: ds => d.dl + 2 + D.dls ds
end
mutual
def D.rp : D → Prop
  | .int i => Bd 1900 i
  | .tup ds => D.rps ds
  | .lst ds => D.rps ds
  | .kst ds => D.rps ds
  | _ => True
def D.rps : List D → Prop
  | [] => True
  | d :: ds => d.rp ∧ D.rps ds
end
theorem slen_app {x y : PySem.Str} : (x ++ y).length = x.length + y.length := len_app
theorem listText_le (ts : List PySem.Str) : (listText ts).length ≤ 3 + piled ts := by
  unfold listText
  cases ts with
  | nil =>
    have : (textFrom 0 ("[" : PySem.Str) [] ++ ("]" : PySem.Str)).length = 2 := by decide +kernel
    omega
  | cons t ts =>
    rw [slen_app]
    have e : textFrom 0 ("[" : PySem.Str) (t :: ts) = textFrom 1 (("[" : PySem.Str) ++ ("" : PySem.Str) ++ t) ts := rfl
    rw [e, textFrom_length_pos _ _ _ (by decide), slen_app, slen_app, piled_cons]
    have h1 : ("[" : PySem.Str).length = 1 := by decide +kernel
    have h2 : ("" : PySem.Str).length = 0 := by decide +kernel
    have h3 : ("]" : PySem.Str).length = 1 := by decide +kernel
    omega
theorem tupleText_le (ts : List PySem.Str) : (tupleText ts).length ≤ 3 + piled ts := by
  unfold tupleText
  rw [slen_app, slen_app]
  have h1 : ("(" : PySem.Str).length = 1 := by decide +kernel
  have h3 : ((if ts.length == 1 then ",)" else ")" : String) : PySem.Str).length ≤ 2 := by
    split <;> decide +kernel
  cases ts with
  | nil =>
    have : (PySem.Str.join ", " []).length = 0 := by decide +kernel
    omega
  | cons t ts =>
    have := join_length_add (t :: ts) (by simp)
    omega
mutual
theorem shown_le : ∀ (n : Nat) (d : D), d.good n = true → d.rp → d.toPy.shown.length ≤ d.dl ∧ d.toPy.showable = true
  | n, .non, _, _ => by unfold D.toPy PyData.shown D.dl; exact ⟨by decide +kernel, by decide⟩
  | n, .bl b, _, _ => by
    unfold D.toPy PyData.shown D.dl
    cases b <;> exact ⟨by decide +kernel, by decide⟩
  | n, .int i, _, h => by
    unfold D.rp at h
    unfold D.toPy PyData.shown D.dl
    refine ⟨len_str h, ?_⟩
    unfold PyData.showable
    exact decide_eq_true (Nat.lt_of_lt_of_le (PySem.Flt.log2_lt_of (Nat.succ_pos 1900) (h.mono (by decide))) (by decide))
  | n, .str x, _, _ => by
    unfold D.toPy PyData.shown D.dl
    exact ⟨Nat.le_refl _, by unfold PyData.showable; rfl⟩
  | n, .ty x, g, _ => by cases n <;> cases g
  | 0, .tup ds, g, _ => by cases g
  | 0, .lst ds, g, _ => by cases g
  | 0, .kst ds, g, _ => by cases g
  | n + 1, .tup ds, g, h => by
    unfold D.rp at h
    obtain ⟨h1, h2⟩ := shown_leA n ds g h
    unfold D.toPy PyData.shown D.dl
    refine ⟨Nat.le_trans (tupleText_le _) (by omega), ?_⟩
    unfold PyData.showable
    exact h2
  | n + 1, .lst ds, g, h => by
    unfold D.rp at h
    obtain ⟨h1, h2⟩ := shown_leA n ds g h
    unfold D.toPy PyData.shown D.dl
    refine ⟨Nat.le_trans (listText_le _) (by omega), ?_⟩
    unfold PyData.showable
    exact h2
  | n + 1, .kst ds, g, h => by
    unfold D.rp at h
    obtain ⟨h1, h2⟩ := shown_leA n ds g h
    unfold D.toPy PyData.shown D.dl
    refine ⟨Nat.le_trans (listText_le _) (by omega), ?_⟩
    unfold PyData.showable
    exact h2
  | n, .dct _ _, g, _ => by cases n <;> cases g
  | n, .obj _ _ _, g, _ => by cases n <;> cases g
  | n, .exc _, g, _ => by cases n <;> cases g
theorem shown_leA : ∀ (n : Nat) (ds : List D), ds.all (D.good n) = true → D.rps ds → piled (PyData.shownAll (D.toPys ds)) ≤ D.dls ds ∧ PyData.showableAll (D.toPys ds) = true
  | n, [], _, _ => by unfold D.toPys PyData.shownAll D.dls PyData.showableAll; exact ⟨by rw [piled_nil]; exact Nat.le_refl _, rfl⟩
  | n, d :: ds, g, h => by
    unfold D.rps at h
    have g' := Bool.and_eq_true_iff.mp (show (d.good n && ds.all (D.good n)) = true from g)
    obtain ⟨h1, h2⟩ := shown_le n d g'.1 h.1
    obtain ⟨h3, h4⟩ := shown_leA n ds g'.2 h.2
    unfold D.toPys PyData.shownAll D.dls PyData.showableAll
    rw [piled_cons, h2, h4]
    exact ⟨by omega, rfl⟩
end
theorem repr_ok {d : D} (g : d.good 20 = true) (h : d.rp) (hz : d.dl ≤ 10000000) : ∃ S, dRepr [d] = .ok (.str S) := by
  obtain ⟨h1, h2⟩ := shown_le 20 d g h
  refine ⟨d.toPy.shown, ?_⟩
  show (if d.good 20 = true then (if d.toPy.showable = true ∧ d.toPy.shown.length ≤ sizeLine then R.ok (D.str d.toPy.shown) else .no) else (if isD0 d = true then .ok (.str "{}") else .no)) = _
  rw [if_pos g, if_pos ⟨h2, sz (by omega)⟩]
theorem repr_d0 : dRepr [.dct [] []] = .ok (.str "{}") := rfl
theorem ne_strS (S : PySem.Str) : dNe (.str S) (.str S) = .ok (.bl false) := by rw [e_neSS]; simp
end Dw
namespace Dw
open PySem L2 PyProof.Rows
/-! ### texts, by their signs' numbers -/
def T (l : List Nat) : PySem.Str := SX.S l
theorem T_len (a : List Nat) : (T a).length = a.length := SX.S_len a
theorem T_cat (a b : List Nat) : T a ++ T b = T (a ++ b) := SX.S_cat a b
theorem T_inj {a b : List Nat} (h : T a = T b) : a = b := SX.S_inj h
theorem T_tl (a : List Nat) : (T a).cps.toList = a := rfl
theorem of_T (x : PySem.Str) : ∃ l, x = T l := ⟨x.cps.toList, (SX.S_tl x).symm⟩
section
variable {a b : List Nat} {i : Int} {δ : List Sl} {c1 c2 : C}
theorem e_lenS (h : a.length ≤ 10000000) : dLen [.str (T a)] = .ok (.int a.length) := by
  show (if (T a).length ≤ sizeLine then R.ok (D.int (T a).length) else .no) = _
  rw [T_len, if_pos (sz h)]
theorem e_addS (h : a.length + b.length ≤ 10000000) : dAddA (.str (T a)) (.str (T b)) = .ok (.str (T (a ++ b))) := by
  rw [e_addSS, T_len, T_len, if_pos (sz h), T_cat]
theorem e_eqS : dEq (.str (T a)) (.str (T b)) = .ok (.bl (decide (a = b))) := by
  rw [e_eqSS]
  congr 2
  exact decide_eq_decide.mpr ⟨T_inj, fun h => by rw [h]⟩
theorem e_neS : dNe (.str (T a)) (.str (T b)) = .ok (.bl (!decide (a = b))) := by
  rw [e_neSS]
  congr 3
  exact decide_eq_decide.mpr ⟨T_inj, fun h => by rw [h]⟩
theorem e_slTo (h : a.length ≤ 10000000) (hi : 0 ≤ i) : dSlA none (some i) (.str (T a)) = .ok (.str (T (a.take i.toNat))) := by
  show (if (T a).length ≤ sizeLine then R.ok (D.str (cutS (T a) none (some i))) else .no) = _
  rw [T_len, if_pos (sz h), C8.cutS_slice]
  unfold T
  rw [SX.slice_to hi]
theorem e_slFr (h : a.length ≤ 10000000) (hi : 0 ≤ i) : dSlA (some i) none (.str (T a)) = .ok (.str (T (a.drop i.toNat))) := by
  show (if (T a).length ≤ sizeLine then R.ok (D.str (cutS (T a) (some i) none)) else .no) = _
  rw [T_len, if_pos (sz h), C8.cutS_slice]
  unfold T
  rw [SX.slice_from hi]
theorem e_ixS0 {c : Nat} {r : List Nat} (h : (c :: r).length ≤ 10000000) : dIx (.str (T (c :: r))) (.int 0) = .ok (.str (T [c])) := by
  show (if (T (c :: r)).length ≤ sizeLine then (match atI (T (c :: r)).cps.toList 0 with
    | some c => R.ok (D.str ⟨#[c]⟩)
    | none => .no) else .no) = _
  rw [T_len, if_pos (sz h), T_tl]
  have e : atI (c :: r) 0 = some c := by
    unfold atI ixN
    simp
  rw [e]
  rfl
theorem e_ixSn {n : Nat} {c : Nat} (h : a.length ≤ 10000000) (hc : a[n]? = some c) : dIx (.str (T a)) (.int (n : Int)) = .ok (.str (T [c])) := by
  show (if (T a).length ≤ sizeLine then (match atI (T a).cps.toList (n : Int) with
    | some c => R.ok (D.str ⟨#[c]⟩)
    | none => .no) else .no) = _
  rw [T_len, if_pos (sz h), T_tl]
  have hn := (List.getElem?_eq_some_iff.mp hc).1
  have e : atI a (n : Int) = some c := by
    unfold atI
    rw [ixN_nat hn]
    exact hc
  rw [e]
  rfl
theorem e_itS : dItems (.str (T a)) = .ok (a.map fun c => .str (T [c])) := rfl
theorem e_inS {c : Nat} : dIn (.str (T [c])) (.str (T b)) = .ok (.bl (decide (c ∈ b))) := rfl
theorem e_ninS {c : Nat} : dNin (.str (T [c])) (.str (T b)) = .ok (.bl (!decide (c ∈ b))) := rfl
theorem e_m1 {ok : D → Bool} {f : D → D → R D} : cM1 ok f c1 c2 δ = (c1 δ).bind fun d => if ok d = true then (c2 δ).bind fun e => f d e else .no := rfl
theorem e_isSD {x : PySem.Str} : isSD (.str x) = true := rfl
theorem e_part0 (h : a.length ≤ 10000000) (hc : 47 ∉ a) : gPart (.str (T a)) (.str (T [47])) = .ok (.tup [.str (T a), .str (T []), .str (T [])]) := by
  have e : Txt.partition (T a) (T [47]) = (T a, T [], T []) := SX.partition_none (by simp) (SX.par_head_none hc)
  show (if ((T [47]).length == 0) = false ∧ (T a).length ≤ sizeLine then R.ok (D.tup [.str (Txt.partition (T a) (T [47])).1, .str (Txt.partition (T a) (T [47])).2.1, .str (Txt.partition (T a) (T [47])).2.2]) else .no) = _
  rw [e, if_pos ⟨rfl, by rw [T_len]; exact sz h⟩]
theorem e_part1 (h : (a ++ 47 :: b).length ≤ 10000000) (hc : 47 ∉ a) : gPart (.str (T (a ++ 47 :: b))) (.str (T [47])) = .ok (.tup [.str (T a), .str (T [47]), .str (T b)]) := by
  have e : Txt.partition (T (a ++ 47 :: b)) (T [47]) = (T a, T [47], T b) := SX.partition_some (by simp) (SX.par_head (sep := []) b hc)
  show (if ((T [47]).length == 0) = false ∧ (T (a ++ 47 :: b)).length ≤ sizeLine then R.ok (D.tup [.str (Txt.partition (T (a ++ 47 :: b)) (T [47])).1, .str (Txt.partition (T (a ++ 47 :: b)) (T [47])).2.1, .str (Txt.partition (T (a ++ 47 :: b)) (T [47])).2.2]) else .no) = _
  rw [e, if_pos ⟨rfl, by rw [T_len]; exact sz h⟩]
theorem e_spl (h : a.length ≤ 9000000) : gSpl (.str (T a)) (.str (T [47])) = .ok (.lst ((TL.spl [47] 0 [] a).map fun p => .str (T p))) := by
  have e : Txt.split (T a) (T [47]) = (TL.spl [47] 0 [] a).map SX.S := SX.split_S (by simp) (by decide)
  show (if ((T [47]).length == 0) = false ∧ (T a).length + 2 ≤ sizeLine then R.ok (D.lst ((Txt.split (T a) (T [47])).map D.str)) else .no) = _
  rw [e, if_pos ⟨rfl, by rw [T_len]; exact sz (by omega)⟩, List.map_map]
  rfl
theorem spl0 (hc : 47 ∉ a) : TL.spl [47] 0 [] a = [a] := by
  have := SX.spl_join (c := 47) (sep := []) (parts := [a]) (by simp) (by simpa using hc)
  simpa [TL.joinL] using this
theorem spl1 (hc : 47 ∉ a) : TL.spl [47] 0 [] (a ++ 47 :: b) = a :: TL.spl [47] 0 [] b := SX.spl_free (sep := [47]) b (by simp) (SX.free_head hc)
theorem spl_ne : ∀ (l acc : List Nat), TL.spl [47] 0 acc l ≠ []
  | [], acc => by rw [TL.spl_nil]; simp
  | c :: r, acc => by
    cases h : TL.pre [47] (c :: r) with
    | true => rw [TL.spl_hit h]; simp
    | false => rw [TL.spl_miss h]; exact spl_ne r _
theorem dec47 : ∀ l : List Nat, 47 ∉ l ∨ ∃ p q, l = p ++ 47 :: q ∧ 47 ∉ p
  | [] => .inl (by simp)
  | c :: r => by
    by_cases h : c = 47
    · subst h
      exact .inr ⟨[], r, rfl, by simp⟩
    · rcases dec47 r with q | ⟨p, q, e, hp⟩
      · exact .inl (by simp [q]; omega)
      · exact .inr ⟨c :: p, q, by rw [e]; rfl, by simp [hp]; omega⟩
/-! numbers -/
def numI (i : Int) : List Nat := if i < 0 then 45 :: TL.numL i.natAbs else TL.numL i.natAbs
theorem str_T (i : Int) : PySem.Str.ofString (toString i) = T (numI i) := by
  unfold numI T
  by_cases h : i < 0
  · rw [if_pos h, Int.toString_eq_repr, Int.repr_eq_if, if_neg (by omega)]
    have e1 := SX.num_S i.natAbs
    rw [Int.toString_eq_repr, Int.repr_eq_if, if_pos (by omega), Int.toNat_natCast] at e1
    have e2 : (-i).toNat = i.natAbs := by omega
    rw [e2]
    rw [PySem.Str.ofString_eq_toList] at e1 ⊢
    have e3 : (i.natAbs.repr.toList.map Char.toNat) = TL.numL i.natAbs := SX.S_inj e1
    have e4 : ("-" ++ i.natAbs.repr).toList = '-' :: i.natAbs.repr.toList := by
      rw [String.toList_append]
      rfl
    rw [e4, List.map_cons, e3]
    rfl
  · rw [if_neg h]
    have e : i = ((i.natAbs : Nat) : Int) := by omega
    rw [e]
    exact SX.num_S _
theorem e_strT (h : Bd 1900 i) : dStr1 [.int i] = .ok (.str (T (numI i))) := by
  rw [e_str1 h, ← str_T]
theorem fold_lt : ∀ (l : List Nat) (acc : Nat), NumText.AllDigits l → l.foldl (fun acc c => acc * 10 + (c - 48)) acc < (acc + 1) * 10 ^ l.length
  | [], acc, _ => by simp
  | c :: r, acc, h => by
    have hc := h.head
    have ih := fold_lt r (acc * 10 + (c - 48)) h.tail
    rw [List.foldl_cons, List.length_cons, Nat.pow_succ]
    refine Nat.lt_of_lt_of_le ih ?_
    have e : (acc + 1) * (10 ^ r.length * 10) = (acc + 1) * 10 * 10 ^ r.length := by ac_rfl
    rw [e]
    exact Nat.mul_le_mul_right _ (by omega)
theorem dv_lt {l : List Nat} (h : NumText.AllDigits l) : NumText.digitsVal l < 10 ^ l.length := by
  have := fold_lt l 0 h
  simpa [NumText.digitsVal] using this
theorem fold_ge : ∀ (l : List Nat) (acc : Nat), acc ≤ l.foldl (fun acc c => acc * 10 + (c - 48)) acc
  | [], acc => Nat.le_refl _
  | c :: r, acc => Nat.le_trans (by omega) (fold_ge r (acc * 10 + (c - 48)))
theorem dv_pos {c : Nat} {r : List Nat} (hc : 48 < c) : 0 < NumText.digitsVal (c :: r) := by
  unfold NumText.digitsVal
  rw [List.foldl_cons]
  exact Nat.lt_of_lt_of_le (by omega) (fold_ge r _)
theorem numL_head : ∀ {n : Nat}, 0 < n → ∃ c r, TL.numL n = c :: r ∧ 48 < c ∧ c ≤ 57 := by
  intro n
  induction n using Nat.strongRecOn with
  | _ n ih =>
    intro h
    by_cases h10 : n < 10
    · exact ⟨48 + n, [], TL.numL_lt h10, by omega, by omega⟩
    · obtain ⟨c, r, e, h1, h2⟩ := ih (n / 10) (by omega) (by omega)
      exact ⟨c, r ++ [48 + n % 10], by rw [TL.numL_step (by omega), e]; rfl, h1, h2⟩
theorem numL_lenB {n p : Nat} (hp : 0 < p) (h : n < 2 ^ p) : (TL.numL n).length ≤ p := TL.numL_len hp (Nat.lt_of_lt_of_le h (Nat.pow_le_pow_left (by decide) p))
end
end Dw
namespace Law
open PySem L2 PyProof.Rows Dw
/-! the text by places -/
def top (i : Nat) : Stmt := PySem.Challenge.pw_widthwise_k61_shares_at_all_rooms.main.body.getD i (.Pass ⟨0, 0, 0, 0⟩)
def clsB : Stmt → List Stmt
  | .ClassDef (body := b) .. => b
  | _ => []
def tmeth (i j : Nat) : Stmt := (clsB (top i)).getD j (.Pass ⟨0, 0, 0, 0⟩)
def e_WideError (C : Str) : Option Bool := if C = "NoItem" then some true else if C = "NoPart" then some true else none
def i_NoItem : D → Option Bool
  | .exc C => if C = "NoItem" then some true else if C = "NoPart" then some false else none
  | _ => none
def i_NoPart : D → Option Bool
  | .exc C => if C = "NoItem" then some false else if C = "NoPart" then some true else none
  | _ => none
def i_TooMany : D → Option Bool
  | .exc C => if C = "NoItem" then some false else if C = "NoPart" then some false else none
  | _ => none
def fok (C f : Str) : Bool := decide (C ∈ []) && decide (f ∈ [])
abbrev s_law_cell_at : Stmt := top 40
theorem sc_law_cell_at : FnScope ["_law_script", "_law_k"] ["_law_script", "_law_k"] (defScope s_law_cell_at) := ⟨by kernel_rfl, by kernel_rfl, by kernel_rfl, by decide +kernel, by kernel_rfl, by decide +kernel, by decide +kernel⟩
noncomputable def c_law_cell_at : CS :=
    (cSeq (cIfS (cBin (fun d e => (dLt d e).bind asB) (cVar 1) (cApp dLen (cCons (cVar 0) cNil)))
    (cRetV (cIxV 0 (cVar 1)))
    cNx)
    (cRetV (cC (.int 0))))
noncomputable def G_law_cell_at : Dw.Ctx := { N := ["_law_script", "_law_k"], F := fun x n => none, Gc := fun x => none, isi := fun x => none, M := [], exs := [], exm := fun x => none, L := [], O := [], Dn := [], Tn := [], Z := [], st := false, Fo := fok, Mt := fun x n => none, Mk := fun x n => none, Ib := fun x n => none, Kt := fun x => none, i2 := fun x y => none }
theorem b_law_cell_at : body (G_law_cell_at) (defScope s_law_cell_at) 40 20 (defBody s_law_cell_at) = c_law_cell_at := by kernel_rfl
noncomputable def m_law_cell_at : List D → Rs := run 2 c_law_cell_at
abbrev s_law_mixed : Stmt := top 41
theorem sc_law_mixed : FnScope ["_law_script", "_law_start", "_law_many", "_law_found", "_law_more", "_law_k"] ["_law_script", "_law_start", "_law_many"] (defScope s_law_mixed) := ⟨by kernel_rfl, by kernel_rfl, by kernel_rfl, by decide +kernel, by kernel_rfl, by decide +kernel, by decide +kernel⟩
noncomputable def c_law_mixed_e1 : C :=
    (cApp dAbs (cCons (cCall 2 m_law_cell_at (cCons (cVar 0) (cCons (cBin dAddA (cBin dAddA (cVar 1) (cVar 5)) (cC (.int 1))) cNil))) cNil))
noncomputable def c_law_mixed_b1 : CS :=
    (cSeq (cAsg 4 (cBin dMod (cBin dAddA (cBin dAddA (cBin dAddA (cBin dMul (cVar 4) (cC (.int 48271))) (cCall 2 m_law_cell_at (cCons (cVar 0) (cCons (cBin dAddA (cVar 1) (cVar 5)) cNil)))) (cBin dMul (cC (.int 31)) (cVar 5))) (cC (.int 1))) (cC (.int 2147483647))))
    (cAppd 3 (cBin dMod (cBin dAddA (cBin dMul (cVar 4) (cVar 4)) (cBin dMul (cC (.int 16807)) (cVar 4))) (cC (.int 2147483629)))))
noncomputable def c_law_mixed : CS :=
    (cSeq (cIfS (cAndB [(cBin (fun d e => (dNe d e).bind asB) (cVar 0) (cL (cApp dLst cNil))), (cBin (fun d e => (dEq d e).bind asB) (cBin dMod (cIxV 0 (cC (.int 0))) (cC (.int 2))) (cC (.int 0)))])
    (cRetN (cLc (cApp dRng1 (cCons (cVar 2) cNil)) (tName 5) cTrue c_law_mixed_e1 [5]))
    cNx)
    (cSeq (cAsgN 3 (cApp dLst cNil))
    (cSeq (cAsg 4 (cC (.int 7)))
    (cSeq (cFor (cApp dRng1 (cCons (cVar 2) cNil)) (tName 5)
    c_law_mixed_b1)
    (cRetO 3)))))
noncomputable def G_law_mixed : Dw.Ctx := { N := ["_law_script", "_law_start", "_law_many", "_law_found", "_law_more", "_law_k"], F := fun x n => if x = "_law_cell_at" ∧ n = 2 then some m_law_cell_at else none, Gc := fun x => none, isi := fun x => none, M := ["_law_found"], exs := [], exm := fun x => none, L := [], O := [], Dn := [], Tn := [], Z := [], st := false, Fo := fok, Mt := fun x n => none, Mk := fun x n => none, Ib := fun x n => none, Kt := fun x => none, i2 := fun x y => none }
theorem b_law_mixed : body (G_law_mixed) (defScope s_law_mixed) 40 20 (defBody s_law_mixed) = c_law_mixed := by kernel_rfl
noncomputable def m_law_mixed : List D → Rs := run 6 c_law_mixed
abbrev s_law_sizes : Stmt := top 47
theorem sc_law_sizes : FnScope ["_law_cell", "_law_wish", "_law_least", "_law_most", "_law_grow", "_law_shrink"] ["_law_cell"] (defScope s_law_sizes) := ⟨by kernel_rfl, by kernel_rfl, by kernel_rfl, by decide +kernel, by kernel_rfl, by decide +kernel, by decide +kernel⟩
noncomputable def c_law_sizes : CS :=
    (cSeq (cAsg 1 (cBin dIx (cL (cApp dLst (cCons (cBin dMul (cBin dMod (cVar 0) (cC (.int 12))) (cC (.int 10))) (cCons (cBin dMod (cVar 0) (cC (.int 1001))) (cCons (cBin dMod (cVar 0) (cC (.int 7))) cNil))))) (cBin dMod (cBin dDiv (cVar 0) (cC (.int 1001))) (cC (.int 3)))))
    (cSeq (cAsg 2 (cBin dIx (cL (cApp dLst (cCons (cC (.int 0)) (cCons (cVar 1) (cCons (cBin dDiv (cVar 1) (cC (.int 2))) (cCons (cBin dMod (cBin dDiv (cVar 0) (cC (.int 3003))) (cBin dAddA (cVar 1) (cC (.int 1)))) cNil)))))) (cBin dMod (cBin dDiv (cVar 0) (cC (.int 3003))) (cC (.int 4)))))
    (cSeq (cAsg 3 (cBin dIx (cL (cApp dLst (cCons (cC (.non)) (cCons (cVar 1) (cCons (cApp dMin (cCons (cC (.int 1000)) (cCons (cBin dAddA (cVar 1) (cBin dMod (cBin dDiv (cVar 0) (cC (.int 768768))) (cC (.int 60)))) cNil))) (cCons (cC (.int 1000)) cNil)))))) (cBin dMod (cBin dDiv (cVar 0) (cC (.int 12012))) (cC (.int 4)))))
    (cSeq (cAsg 4 (cBin dIx (cL (cApp dLst (cCons (cC (.int 0)) (cCons (cC (.int 1)) (cCons (cBin dMod (cBin dDiv (cVar 0) (cC (.int 48048))) (cC (.int 21))) (cCons (cC (.int 2)) cNil)))))) (cBin dMod (cBin dDiv (cVar 0) (cC (.int 48048))) (cC (.int 4)))))
    (cSeq (cAsg 5 (cBin dIx (cL (cApp dLst (cCons (cC (.int 1)) (cCons (cC (.int 0)) (cCons (cBin dMod (cBin dDiv (cVar 0) (cC (.int 192192))) (cC (.int 21))) (cCons (cC (.int 3)) cNil)))))) (cBin dMod (cBin dDiv (cVar 0) (cC (.int 192192))) (cC (.int 4)))))
    (cRetV (cApp dTup (cCons (cVar 1) (cCons (cVar 2) (cCons (cVar 3) (cCons (cVar 4) (cCons (cVar 5) cNil))))))))))))
noncomputable def G_law_sizes : Dw.Ctx := { N := ["_law_cell", "_law_wish", "_law_least", "_law_most", "_law_grow", "_law_shrink"], F := fun x n => none, Gc := fun x => none, isi := fun x => none, M := [], exs := [], exm := fun x => none, L := [], O := [], Dn := [], Tn := [], Z := [], st := false, Fo := fok, Mt := fun x n => none, Mk := fun x n => none, Ib := fun x n => none, Kt := fun x => none, i2 := fun x y => none }
theorem b_law_sizes : body (G_law_sizes) (defScope s_law_sizes) 40 20 (defBody s_law_sizes) = c_law_sizes := by kernel_rfl
noncomputable def m_law_sizes : List D → Rs := run 6 c_law_sizes
abbrev s_law_items : Stmt := top 48
theorem sc_law_items : FnScope ["_law_cells", "_law_cell"] ["_law_cells"] (defScope s_law_items) := ⟨by kernel_rfl, by kernel_rfl, by kernel_rfl, by decide +kernel, by kernel_rfl, by decide +kernel, by decide +kernel⟩
noncomputable def c_law_items_e1 : C :=
    (cCall 1 m_law_sizes (cCons (cVar 1) cNil))
noncomputable def c_law_items : CS :=
    (cRetN (cLc (cUn dItems (cVar 0)) (tName 1) cTrue c_law_items_e1 [1]))
noncomputable def G_law_items : Dw.Ctx := { N := ["_law_cells", "_law_cell"], F := fun x n => if x = "_law_sizes" ∧ n = 1 then some m_law_sizes else none, Gc := fun x => none, isi := fun x => none, M := [], exs := [], exm := fun x => none, L := [], O := [], Dn := [], Tn := [], Z := [], st := false, Fo := fok, Mt := fun x n => none, Mk := fun x n => none, Ib := fun x n => none, Kt := fun x => none, i2 := fun x y => none }
theorem b_law_items : body (G_law_items) (defScope s_law_items) 40 20 (defBody s_law_items) = c_law_items := by kernel_rfl
noncomputable def m_law_items : List D → Rs := run 2 c_law_items
abbrev s_is_number : Stmt := top 19
theorem sc_is_number : FnScope ["thing", "most"] ["thing", "most"] (defScope s_is_number) := ⟨by kernel_rfl, by kernel_rfl, by kernel_rfl, by decide +kernel, by kernel_rfl, by decide +kernel, by decide +kernel⟩
noncomputable def c_is_number : CS :=
    (cRetV (cAndV [(cUn (dIsi (isBt .int)) (cVar 0)), (cUn dNotV (cUn (dIsi (isBt .bool)) (cVar 0))), (cChain dLe dLe (cC (.int 0)) (cVar 0) (cVar 1))]))
noncomputable def G_is_number : Dw.Ctx := { N := ["thing", "most"], F := fun x n => none, Gc := fun x => none, isi := fun x => none, M := [], exs := [], exm := fun x => none, L := [], O := [], Dn := [], Tn := [], Z := [], st := false, Fo := fok, Mt := fun x n => none, Mk := fun x n => none, Ib := fun x n => none, Kt := fun x => none, i2 := fun x y => none }
theorem b_is_number : body (G_is_number) (defScope s_is_number) 40 20 (defBody s_is_number) = c_is_number := by kernel_rfl
noncomputable def m_is_number : List D → Rs := run 2 c_is_number
abbrev s_is_item : Stmt := top 20
theorem sc_is_item : FnScope ["thing", "wish", "least", "most", "grow", "shrink"] ["thing"] (defScope s_is_item) := ⟨by kernel_rfl, by kernel_rfl, by kernel_rfl, by decide +kernel, by kernel_rfl, by decide +kernel, by decide +kernel⟩
noncomputable def c_is_item : CS :=
    (cSeq (cIfS (cOrB [(cNotB (cUn dTru (cUn (dIsi (isBt .tuple)) (cVar 0)))), (cBin (fun d e => (dNe d e).bind asB) (cApp dLen (cCons (cVar 0) cNil)) (cC (.int 5)))])
    (cRetV (cC (.bl false)))
    cNx)
    (cSeq (cAsgT (tTupT 5 (tCons' (tName 1) (tCons' (tName 2) (tCons' (tName 3) (tCons' (tName 4) (tCons' (tName 5) tNil')))))) (cVar 0))
    (cSeq (cIfS (cOrB [(cNotB (cUn dTru (cCall 2 m_is_number (cCons (cVar 1) (cCons (cC (.int 1000)) cNil))))), (cNotB (cUn dTru (cCall 2 m_is_number (cCons (cVar 2) (cCons (cVar 1) cNil)))))])
    (cRetV (cC (.bl false)))
    cNx)
    (cSeq (cIfS (cAndB [(cBin (fun d e => (dNot d e).bind asB) (cVar 3) (cC (.non))), (cOrB [(cNotB (cUn dTru (cCall 2 m_is_number (cCons (cVar 3) (cCons (cC (.int 1000)) cNil))))), (cBin (fun d e => (dLt d e).bind asB) (cVar 3) (cVar 1))])])
    (cRetV (cC (.bl false)))
    cNx)
    (cRetV (cAndV [(cCall 2 m_is_number (cCons (cVar 4) (cCons (cC (.int 20)) cNil))), (cCall 2 m_is_number (cCons (cVar 5) (cCons (cC (.int 20)) cNil)))]))))))
noncomputable def G_is_item : Dw.Ctx := { N := ["thing", "wish", "least", "most", "grow", "shrink"], F := fun x n => if x = "is_number" ∧ n = 2 then some m_is_number else none, Gc := fun x => if x = "MOST_SIZE" then some (.int 1000) else if x = "MOST_WEIGHT" then some (.int 20) else none, isi := fun x => none, M := [], exs := [], exm := fun x => none, L := [], O := [], Dn := [], Tn := [], Z := [], st := false, Fo := fok, Mt := fun x n => none, Mk := fun x n => none, Ib := fun x n => none, Kt := fun x => none, i2 := fun x y => none }
theorem b_is_item : body (G_is_item) (defScope s_is_item) 40 20 (defBody s_is_item) = c_is_item := by kernel_rfl
noncomputable def m_is_item : List D → Rs := run 6 c_is_item
abbrev s_need_items : Stmt := top 21
theorem sc_need_items : FnScope ["items", "item"] ["items"] (defScope s_need_items) := ⟨by kernel_rfl, by kernel_rfl, by kernel_rfl, by decide +kernel, by kernel_rfl, by decide +kernel, by decide +kernel⟩
noncomputable def c_need_items_e1 : C :=
    (cCall 1 m_is_item (cCons (cVar 1) cNil))
noncomputable def c_need_items : CS :=
    (cIfS (cOrB [(cNotB (cUn dTru (cUn (dIsi (isBt .list)) (cVar 0)))), (cNotB (cUn dTru (cApp dAll (cCons (cL (cLc (cUn dItems (cVar 0)) (tName 1) cTrue c_need_items_e1 [1])) cNil))))])
    (cRz "NoItem")
    cNx)
noncomputable def G_need_items : Dw.Ctx := { N := ["items", "item"], F := fun x n => if x = "is_item" ∧ n = 1 then some m_is_item else none, Gc := fun x => none, isi := fun x => none, M := [], exs := ["NoItem"], exm := fun x => none, L := [], O := [], Dn := [], Tn := [], Z := [], st := false, Fo := fok, Mt := fun x n => none, Mk := fun x n => none, Ib := fun x n => none, Kt := fun x => none, i2 := fun x y => none }
theorem b_need_items : body (G_need_items) (defScope s_need_items) 40 20 (defBody s_need_items) = c_need_items := by kernel_rfl
noncomputable def m_need_items : List D → Rs := run 2 c_need_items
abbrev s_common_divisor : Stmt := top 6
theorem sc_common_divisor : FnScope ["one", "other"] ["one", "other"] (defScope s_common_divisor) := ⟨by kernel_rfl, by kernel_rfl, by kernel_rfl, by decide +kernel, by kernel_rfl, by decide +kernel, by decide +kernel⟩
noncomputable def c_common_divisor_t1 : CB :=
    (cBin (fun d e => (dGt d e).bind asB) (cVar 1) (cC (.int 0)))
noncomputable def c_common_divisor_b1 : CS :=
    (cPar2 0 1 (cCons (cVar 1) (cCons (cBin dMod (cVar 0) (cVar 1)) cNil)))
noncomputable def c_common_divisor : CS :=
    (cSeq (cWh c_common_divisor_t1
    c_common_divisor_b1)
    (cRetO 0))
noncomputable def G_common_divisor : Dw.Ctx := { N := ["one", "other"], F := fun x n => none, Gc := fun x => none, isi := fun x => none, M := [], exs := [], exm := fun x => none, L := [], O := [], Dn := [], Tn := [], Z := [], st := false, Fo := fok, Mt := fun x n => none, Mk := fun x n => none, Ib := fun x n => none, Kt := fun x => none, i2 := fun x y => none }
theorem b_common_divisor : body (G_common_divisor) (defScope s_common_divisor) 40 20 (defBody s_common_divisor) = c_common_divisor := by kernel_rfl
noncomputable def m_common_divisor : List D → Rs := run 2 c_common_divisor
abbrev s_part_of : Stmt := top 7
theorem sc_part_of : FnScope ["top", "bottom", "divisor"] ["top", "bottom"] (defScope s_part_of) := ⟨by kernel_rfl, by kernel_rfl, by kernel_rfl, by decide +kernel, by kernel_rfl, by decide +kernel, by decide +kernel⟩
noncomputable def c_part_of : CS :=
    (cSeq (cIfS (cBin (fun d e => (dEq d e).bind asB) (cVar 1) (cC (.int 0)))
    (cRz "NoPart")
    cNx)
    (cSeq (cAsg 2 (cCall 2 m_common_divisor (cCons (cApp dAbs (cCons (cVar 0) cNil)) (cCons (cApp dAbs (cCons (cVar 1) cNil)) cNil))))
    (cSeq (cIfS (cBin (fun d e => (dLt d e).bind asB) (cVar 1) (cC (.int 0)))
    (cAsg 2 (cUn dNeg (cVar 2)))
    cNx)
    (cRetT (cCons (cBin dDiv (cVar 0) (cVar 2)) (cCons (cBin dDiv (cVar 1) (cVar 2)) cNil))))))
noncomputable def G_part_of : Dw.Ctx := { N := ["top", "bottom", "divisor"], F := fun x n => if x = "common_divisor" ∧ n = 2 then some m_common_divisor else none, Gc := fun x => none, isi := fun x => none, M := [], exs := ["NoPart"], exm := fun x => none, L := [], O := [], Dn := [], Tn := [], Z := [], st := true, Fo := fok, Mt := fun x n => none, Mk := fun x n => none, Ib := fun x n => none, Kt := fun x => none, i2 := fun x y => none }
theorem b_part_of : body (G_part_of) (defScope s_part_of) 40 20 (defBody s_part_of) = c_part_of := by kernel_rfl
noncomputable def m_part_of : List D → Rs := run 3 c_part_of
noncomputable def m_part_of_1 : List D → Rs := fun as => run 3 c_part_of (as ++ [.int 1])
abbrev s_less : Stmt := top 9
theorem sc_less : FnScope ["one", "other"] ["one", "other"] (defScope s_less) := ⟨by kernel_rfl, by kernel_rfl, by kernel_rfl, by decide +kernel, by kernel_rfl, by decide +kernel, by decide +kernel⟩
noncomputable def c_less : CS :=
    (cRetV (cCall 2 m_part_of (cCons (cBin dSub (cBin dMul (cIxV 0 (cC (.int 0))) (cIxV 1 (cC (.int 1)))) (cBin dMul (cIxV 1 (cC (.int 0))) (cIxV 0 (cC (.int 1))))) (cCons (cBin dMul (cIxV 0 (cC (.int 1))) (cIxV 1 (cC (.int 1)))) cNil))))
noncomputable def G_less : Dw.Ctx := { N := ["one", "other"], F := fun x n => if x = "part_of" ∧ n = 2 then some m_part_of else none, Gc := fun x => none, isi := fun x => none, M := [], exs := [], exm := fun x => none, L := [], O := [], Dn := [], Tn := [], Z := [], st := false, Fo := fok, Mt := fun x n => none, Mk := fun x n => none, Ib := fun x n => none, Kt := fun x => none, i2 := fun x y => none }
theorem b_less : body (G_less) (defScope s_less) 40 20 (defBody s_less) = c_less := by kernel_rfl
noncomputable def m_less : List D → Rs := run 2 c_less
abbrev s_bound_of : Stmt := top 24
theorem sc_bound_of : FnScope ["item", "grows", "wish", "least", "most", "grow", "shrink"] ["item", "grows"] (defScope s_bound_of) := ⟨by kernel_rfl, by kernel_rfl, by kernel_rfl, by decide +kernel, by kernel_rfl, by decide +kernel, by decide +kernel⟩
noncomputable def c_bound_of : CS :=
    (cSeq (cAsgT (tTupT 5 (tCons' (tName 2) (tCons' (tName 3) (tCons' (tName 4) (tCons' (tName 5) (tCons' (tName 6) tNil')))))) (cVar 0))
    (cSeq (cIfS (cUn dTru (cVar 1))
    (cIfS (cAndB [(cBin (fun d e => (dGt d e).bind asB) (cVar 5) (cC (.int 0))), (cBin (fun d e => (dNot d e).bind asB) (cVar 4) (cC (.non)))])
    (cRetF 2 m_part_of (cCons (cBin dSub (cVar 4) (cVar 2)) (cCons (cVar 5) cNil)))
    (cRetV (cC (.non))))
    cNx)
    (cIfS (cBin (fun d e => (dGt d e).bind asB) (cVar 6) (cC (.int 0)))
    (cRetF 2 m_part_of (cCons (cBin dSub (cVar 2) (cVar 3)) (cCons (cVar 6) cNil)))
    (cRetV (cC (.non))))))
noncomputable def G_bound_of : Dw.Ctx := { N := ["item", "grows", "wish", "least", "most", "grow", "shrink"], F := fun x n => if x = "part_of" ∧ n = 2 then some m_part_of else none, Gc := fun x => none, isi := fun x => none, M := [], exs := [], exm := fun x => none, L := [], O := [], Dn := [], Tn := [], Z := [], st := true, Fo := fok, Mt := fun x n => none, Mk := fun x n => none, Ib := fun x n => none, Kt := fun x => none, i2 := fun x y => none }
theorem b_bound_of : body (G_bound_of) (defScope s_bound_of) 40 20 (defBody s_bound_of) = c_bound_of := by kernel_rfl
noncomputable def m_bound_of : List D → Rs := run 7 c_bound_of
abbrev s_is_more : Stmt := top 12
theorem sc_is_more : FnScope ["one", "other"] ["one", "other"] (defScope s_is_more) := ⟨by kernel_rfl, by kernel_rfl, by kernel_rfl, by decide +kernel, by kernel_rfl, by decide +kernel, by decide +kernel⟩
noncomputable def c_is_more : CS :=
    (cRetV (cBin dGt (cBin dMul (cIxV 0 (cC (.int 0))) (cIxV 1 (cC (.int 1)))) (cBin dMul (cIxV 1 (cC (.int 0))) (cIxV 0 (cC (.int 1))))))
noncomputable def G_is_more : Dw.Ctx := { N := ["one", "other"], F := fun x n => none, Gc := fun x => none, isi := fun x => none, M := [], exs := [], exm := fun x => none, L := [], O := [], Dn := [], Tn := [], Z := [], st := false, Fo := fok, Mt := fun x n => none, Mk := fun x n => none, Ib := fun x n => none, Kt := fun x => none, i2 := fun x y => none }
theorem b_is_more : body (G_is_more) (defScope s_is_more) 40 20 (defBody s_is_more) = c_is_more := by kernel_rfl
noncomputable def m_is_more : List D → Rs := run 2 c_is_more
abbrev s_ends_of : Stmt := top 26
theorem sc_ends_of : FnScope ["items", "grows", "bounds", "item", "found", "bound", "at", "one"] ["items", "grows"] (defScope s_ends_of) := ⟨by kernel_rfl, by kernel_rfl, by kernel_rfl, by decide +kernel, by kernel_rfl, by decide +kernel, by decide +kernel⟩
noncomputable def c_ends_of_b1 : CS :=
    (cSeq (cAsgF 5 2 m_bound_of (cCons (cVar 3) (cCons (cVar 1) cNil)))
    (cIfS (cBin (fun d e => (dNot d e).bind asB) (cVar 5) (cC (.non)))
    (cPutD 2 5)
    cNx))
noncomputable def c_ends_of_q1 : CB :=
    (cUn dTru (cCall 2 m_is_more (cCons (cVar 5) (cCons (cVar 7) cNil))))
noncomputable def c_ends_of_b2 : CS :=
    (cSeq (cAsg 6 (cApp dLen (cCons (cL (cLc (cUn dItems (cVar 4)) (tName 7) c_ends_of_q1 (cVar 7) [7])) cNil)))
    (cIns 4 (cVar 6) (cVar 5)))
noncomputable def c_ends_of : CS :=
    (cSeq (cNewD 2)
    (cSeq (cFor (cUn dItems (cVar 0)) (tName 3)
    c_ends_of_b1)
    (cSeq (cAsgN 4 (cApp dLst cNil))
    (cSeq (cForD 2 (tName 5)
    c_ends_of_b2)
    (cRetO 4)))))
noncomputable def G_ends_of : Dw.Ctx := { N := ["items", "grows", "bounds", "item", "found", "bound", "at", "one"], F := fun x n => if x = "bound_of" ∧ n = 2 then some m_bound_of else if x = "is_more" ∧ n = 2 then some m_is_more else none, Gc := fun x => none, isi := fun x => none, M := ["found", "bounds"], exs := [], exm := fun x => none, L := [], O := [], Dn := ["bounds"], Tn := ["bound"], Z := [], st := false, Fo := fok, Mt := fun x n => none, Mk := fun x n => none, Ib := fun x n => none, Kt := fun x => none, i2 := fun x y => none }
theorem b_ends_of : body (G_ends_of) (defScope s_ends_of) 40 20 (defBody s_ends_of) = c_ends_of := by kernel_rfl
noncomputable def m_ends_of : List D → Rs := run 8 c_ends_of
abbrev s_weight_of : Stmt := top 25
theorem sc_weight_of : FnScope ["item", "grows"] ["item", "grows"] (defScope s_weight_of) := ⟨by kernel_rfl, by kernel_rfl, by kernel_rfl, by decide +kernel, by kernel_rfl, by decide +kernel, by decide +kernel⟩
noncomputable def c_weight_of : CS :=
    (cRetV (cIf (evT (cUn dTru (cVar 1))) (cIxV 0 (cC (.int 3))) (cIxV 0 (cC (.int 4)))))
noncomputable def G_weight_of : Dw.Ctx := { N := ["item", "grows"], F := fun x n => none, Gc := fun x => none, isi := fun x => none, M := [], exs := [], exm := fun x => none, L := [], O := [], Dn := [], Tn := [], Z := [], st := false, Fo := fok, Mt := fun x n => none, Mk := fun x n => none, Ib := fun x n => none, Kt := fun x => none, i2 := fun x y => none }
theorem b_weight_of : body (G_weight_of) (defScope s_weight_of) 40 20 (defBody s_weight_of) = c_weight_of := by kernel_rfl
noncomputable def m_weight_of : List D → Rs := run 2 c_weight_of
abbrev s_weight_beyond : Stmt := top 27
theorem sc_weight_beyond : FnScope ["items", "grows", "far", "found", "item", "bound"] ["items", "grows", "far"] (defScope s_weight_beyond) := ⟨by kernel_rfl, by kernel_rfl, by kernel_rfl, by decide +kernel, by kernel_rfl, by decide +kernel, by decide +kernel⟩
noncomputable def c_weight_beyond_b1 : CS :=
    (cSeq (cAsg 5 (cCall 2 m_bound_of (cCons (cVar 4) (cCons (cVar 1) cNil))))
    (cIfS (cOrB [(cBin (fun d e => (dIs d e).bind asB) (cVar 5) (cC (.non))), (cUn dTru (cCall 2 m_is_more (cCons (cVar 5) (cCons (cVar 2) cNil))))])
    (cAug 3 (fun a b => a + b) (cCall 2 m_weight_of (cCons (cVar 4) (cCons (cVar 1) cNil))))
    cNx))
noncomputable def c_weight_beyond : CS :=
    (cSeq (cAsg 3 (cC (.int 0)))
    (cSeq (cFor (cUn dItems (cVar 0)) (tName 4)
    c_weight_beyond_b1)
    (cRetO 3)))
noncomputable def G_weight_beyond : Dw.Ctx := { N := ["items", "grows", "far", "found", "item", "bound"], F := fun x n => if x = "bound_of" ∧ n = 2 then some m_bound_of else if x = "is_more" ∧ n = 2 then some m_is_more else if x = "weight_of" ∧ n = 2 then some m_weight_of else none, Gc := fun x => none, isi := fun x => none, M := [], exs := [], exm := fun x => none, L := [], O := [], Dn := [], Tn := [], Z := [], st := false, Fo := fok, Mt := fun x n => none, Mk := fun x n => none, Ib := fun x n => none, Kt := fun x => none, i2 := fun x y => none }
theorem b_weight_beyond : body (G_weight_beyond) (defScope s_weight_beyond) 40 20 (defBody s_weight_beyond) = c_weight_beyond := by kernel_rfl
noncomputable def m_weight_beyond : List D → Rs := run 6 c_weight_beyond
abbrev s_product : Stmt := top 10
theorem sc_product : FnScope ["one", "other"] ["one", "other"] (defScope s_product) := ⟨by kernel_rfl, by kernel_rfl, by kernel_rfl, by decide +kernel, by kernel_rfl, by decide +kernel, by decide +kernel⟩
noncomputable def c_product : CS :=
    (cRetV (cCall 2 m_part_of (cCons (cBin dMul (cIxV 0 (cC (.int 0))) (cIxV 1 (cC (.int 0)))) (cCons (cBin dMul (cIxV 0 (cC (.int 1))) (cIxV 1 (cC (.int 1)))) cNil))))
noncomputable def G_product : Dw.Ctx := { N := ["one", "other"], F := fun x n => if x = "part_of" ∧ n = 2 then some m_part_of else none, Gc := fun x => none, isi := fun x => none, M := [], exs := [], exm := fun x => none, L := [], O := [], Dn := [], Tn := [], Z := [], st := false, Fo := fok, Mt := fun x n => none, Mk := fun x n => none, Ib := fun x n => none, Kt := fun x => none, i2 := fun x y => none }
theorem b_product : body (G_product) (defScope s_product) 40 20 (defBody s_product) = c_product := by kernel_rfl
noncomputable def m_product : List D → Rs := run 2 c_product
abbrev s_added : Stmt := top 8
theorem sc_added : FnScope ["one", "other"] ["one", "other"] (defScope s_added) := ⟨by kernel_rfl, by kernel_rfl, by kernel_rfl, by decide +kernel, by kernel_rfl, by decide +kernel, by decide +kernel⟩
noncomputable def c_added : CS :=
    (cRetV (cCall 2 m_part_of (cCons (cBin dAddA (cBin dMul (cIxV 0 (cC (.int 0))) (cIxV 1 (cC (.int 1)))) (cBin dMul (cIxV 1 (cC (.int 0))) (cIxV 0 (cC (.int 1))))) (cCons (cBin dMul (cIxV 0 (cC (.int 1))) (cIxV 1 (cC (.int 1)))) cNil))))
noncomputable def G_added : Dw.Ctx := { N := ["one", "other"], F := fun x n => if x = "part_of" ∧ n = 2 then some m_part_of else none, Gc := fun x => none, isi := fun x => none, M := [], exs := [], exm := fun x => none, L := [], O := [], Dn := [], Tn := [], Z := [], st := false, Fo := fok, Mt := fun x n => none, Mk := fun x n => none, Ib := fun x n => none, Kt := fun x => none, i2 := fun x y => none }
theorem b_added : body (G_added) (defScope s_added) 40 20 (defBody s_added) = c_added := by kernel_rfl
noncomputable def m_added : List D → Rs := run 2 c_added
abbrev s_quotient : Stmt := top 11
theorem sc_quotient : FnScope ["one", "other"] ["one", "other"] (defScope s_quotient) := ⟨by kernel_rfl, by kernel_rfl, by kernel_rfl, by decide +kernel, by kernel_rfl, by decide +kernel, by decide +kernel⟩
noncomputable def c_quotient : CS :=
    (cRetV (cCall 2 m_part_of (cCons (cBin dMul (cIxV 0 (cC (.int 0))) (cIxV 1 (cC (.int 1)))) (cCons (cBin dMul (cIxV 0 (cC (.int 1))) (cIxV 1 (cC (.int 0)))) cNil))))
noncomputable def G_quotient : Dw.Ctx := { N := ["one", "other"], F := fun x n => if x = "part_of" ∧ n = 2 then some m_part_of else none, Gc := fun x => none, isi := fun x => none, M := [], exs := [], exm := fun x => none, L := [], O := [], Dn := [], Tn := [], Z := [], st := false, Fo := fok, Mt := fun x n => none, Mk := fun x n => none, Ib := fun x n => none, Kt := fun x => none, i2 := fun x y => none }
theorem b_quotient : body (G_quotient) (defScope s_quotient) 40 20 (defBody s_quotient) = c_quotient := by kernel_rfl
noncomputable def m_quotient : List D → Rs := run 2 c_quotient
abbrev s_far_share : Stmt := top 28
theorem sc_far_share : FnScope ["items", "grows", "lack", "far", "end", "weight", "change"] ["items", "grows", "lack"] (defScope s_far_share) := ⟨by kernel_rfl, by kernel_rfl, by kernel_rfl, by decide +kernel, by kernel_rfl, by decide +kernel, by decide +kernel⟩
noncomputable def c_far_share_b1 : CS :=
    (cSeq (cAsg 5 (cCall 1 m_part_of_1 (cCons (cCall 3 m_weight_beyond (cCons (cVar 0) (cCons (cVar 1) (cCons (cVar 3) cNil)))) cNil)))
    (cSeq (cAsg 6 (cCall 2 m_product (cCons (cCall 2 m_less (cCons (cVar 4) (cCons (cVar 3) cNil))) (cCons (cVar 5) cNil))))
    (cSeq (cIfS (cNotB (cUn dTru (cCall 2 m_is_more (cCons (cVar 2) (cCons (cVar 6) cNil)))))
    (cRetV (cIf (evT (cBin (fun d e => (dEq d e).bind asB) (cVar 2) (cC (.tup [.int 0, .int 1])))) (cVar 3) (cCall 2 m_added (cCons (cVar 3) (cCons (cCall 2 m_quotient (cCons (cVar 2) (cCons (cVar 5) cNil))) cNil)))))
    cNx)
    (cSeq (cAsg 2 (cCall 2 m_less (cCons (cVar 2) (cCons (cVar 6) cNil))))
    (cAsg 3 (cVar 4))))))
noncomputable def c_far_share : CS :=
    (cSeq (cAsg 3 (cC (.tup [.int 0, .int 1])))
    (cSeq (cFor (cUn dItems (cCall 2 m_ends_of (cCons (cVar 0) (cCons (cVar 1) cNil)))) (tName 4)
    c_far_share_b1)
    (cSeq (cAsg 5 (cCall 3 m_weight_beyond (cCons (cVar 0) (cCons (cVar 1) (cCons (cVar 3) cNil)))))
    (cSeq (cIfS (cOrB [(cBin (fun d e => (dEq d e).bind asB) (cVar 5) (cC (.int 0))), (cBin (fun d e => (dEq d e).bind asB) (cVar 2) (cC (.tup [.int 0, .int 1])))])
    (cRetO 3)
    cNx)
    (cRetV (cCall 2 m_added (cCons (cVar 3) (cCons (cCall 2 m_quotient (cCons (cVar 2) (cCons (cCall 1 m_part_of_1 (cCons (cVar 5) cNil)) cNil))) cNil))))))))
noncomputable def G_far_share : Dw.Ctx := { N := ["items", "grows", "lack", "far", "end", "weight", "change"], F := fun x n => if x = "ends_of" ∧ n = 2 then some m_ends_of else if x = "part_of" ∧ n = 1 then some m_part_of_1 else if x = "weight_beyond" ∧ n = 3 then some m_weight_beyond else if x = "product" ∧ n = 2 then some m_product else if x = "less" ∧ n = 2 then some m_less else if x = "is_more" ∧ n = 2 then some m_is_more else if x = "added" ∧ n = 2 then some m_added else if x = "quotient" ∧ n = 2 then some m_quotient else none, Gc := fun x => if x = "NOUGHT_sharing" then some (.tup [.int 0, .int 1]) else none, isi := fun x => none, M := [], exs := [], exm := fun x => none, L := [], O := [], Dn := [], Tn := [], Z := [], st := false, Fo := fok, Mt := fun x n => none, Mk := fun x n => none, Ib := fun x n => none, Kt := fun x => none, i2 := fun x y => none }
theorem b_far_share : body (G_far_share) (defScope s_far_share) 40 20 (defBody s_far_share) = c_far_share := by kernel_rfl
noncomputable def m_far_share : List D → Rs := run 7 c_far_share
abbrev s_share_of : Stmt := top 29
theorem sc_share_of : FnScope ["items", "room", "lack", "item"] ["items", "room"] (defScope s_share_of) := ⟨by kernel_rfl, by kernel_rfl, by kernel_rfl, by decide +kernel, by kernel_rfl, by decide +kernel, by decide +kernel⟩
noncomputable def c_share_of : CS :=
    (cSeq (cAsg 2 (cCall 2 m_less (cCons (cVar 1) (cCons (cCall 1 m_part_of_1 (cCons (cApp dSum (cCons (cL (cLc (cUn dItems (cVar 0)) (tName 3) cTrue (cIxV 3 (cC (.int 0))) [3])) cNil)) cNil)) cNil))))
    (cSeq (cIfS (cBin (fun d e => (dGe d e).bind asB) (cIxV 2 (cC (.int 0))) (cC (.int 0)))
    (cRetV (cCall 3 m_far_share (cCons (cVar 0) (cCons (cC (.bl true)) (cCons (cVar 2) cNil)))))
    cNx)
    (cRetV (cCall 2 m_less (cCons (cC (.tup [.int 0, .int 1])) (cCons (cCall 3 m_far_share (cCons (cVar 0) (cCons (cC (.bl false)) (cCons (cCall 2 m_less (cCons (cC (.tup [.int 0, .int 1])) (cCons (cVar 2) cNil))) cNil)))) cNil))))))
noncomputable def G_share_of : Dw.Ctx := { N := ["items", "room", "lack", "item"], F := fun x n => if x = "less" ∧ n = 2 then some m_less else if x = "part_of" ∧ n = 1 then some m_part_of_1 else if x = "far_share" ∧ n = 3 then some m_far_share else none, Gc := fun x => if x = "NOUGHT_sharing" then some (.tup [.int 0, .int 1]) else none, isi := fun x => none, M := [], exs := [], exm := fun x => none, L := [], O := [], Dn := [], Tn := [], Z := [], st := false, Fo := fok, Mt := fun x n => none, Mk := fun x n => none, Ib := fun x n => none, Kt := fun x => none, i2 := fun x y => none }
theorem b_share_of : body (G_share_of) (defScope s_share_of) 40 20 (defBody s_share_of) = c_share_of := by kernel_rfl
noncomputable def m_share_of : List D → Rs := run 4 c_share_of
abbrev s_greater : Stmt := top 14
theorem sc_greater : FnScope ["one", "other"] ["one", "other"] (defScope s_greater) := ⟨by kernel_rfl, by kernel_rfl, by kernel_rfl, by decide +kernel, by kernel_rfl, by decide +kernel, by decide +kernel⟩
noncomputable def c_greater : CS :=
    (cSeq (cIfS (cUn dTru (cCall 2 m_is_more (cCons (cVar 0) (cCons (cVar 1) cNil))))
    (cRetO 0)
    cNx)
    (cRetO 1))
noncomputable def G_greater : Dw.Ctx := { N := ["one", "other"], F := fun x n => if x = "is_more" ∧ n = 2 then some m_is_more else none, Gc := fun x => none, isi := fun x => none, M := [], exs := [], exm := fun x => none, L := [], O := [], Dn := [], Tn := [], Z := [], st := false, Fo := fok, Mt := fun x n => none, Mk := fun x n => none, Ib := fun x n => none, Kt := fun x => none, i2 := fun x y => none }
theorem b_greater : body (G_greater) (defScope s_greater) 40 20 (defBody s_greater) = c_greater := by kernel_rfl
noncomputable def m_greater : List D → Rs := run 2 c_greater
abbrev s_lesser : Stmt := top 13
theorem sc_lesser : FnScope ["one", "other"] ["one", "other"] (defScope s_lesser) := ⟨by kernel_rfl, by kernel_rfl, by kernel_rfl, by decide +kernel, by kernel_rfl, by decide +kernel, by decide +kernel⟩
noncomputable def c_lesser : CS :=
    (cSeq (cIfS (cUn dTru (cCall 2 m_is_more (cCons (cVar 0) (cCons (cVar 1) cNil))))
    (cRetO 1)
    cNx)
    (cRetO 0))
noncomputable def G_lesser : Dw.Ctx := { N := ["one", "other"], F := fun x n => if x = "is_more" ∧ n = 2 then some m_is_more else none, Gc := fun x => none, isi := fun x => none, M := [], exs := [], exm := fun x => none, L := [], O := [], Dn := [], Tn := [], Z := [], st := false, Fo := fok, Mt := fun x n => none, Mk := fun x n => none, Ib := fun x n => none, Kt := fun x => none, i2 := fun x y => none }
theorem b_lesser : body (G_lesser) (defScope s_lesser) 40 20 (defBody s_lesser) = c_lesser := by kernel_rfl
noncomputable def m_lesser : List D → Rs := run 2 c_lesser
abbrev s_width_at : Stmt := top 22
theorem sc_width_at : FnScope ["item", "share", "found", "wish", "least", "most", "grow", "shrink"] ["item", "share"] (defScope s_width_at) := ⟨by kernel_rfl, by kernel_rfl, by kernel_rfl, by decide +kernel, by kernel_rfl, by decide +kernel, by decide +kernel⟩
noncomputable def c_width_at : CS :=
    (cSeq (cIfS (cNotB (cUn dTru (cCall 1 m_is_item (cCons (cVar 0) cNil))))
    (cRz "NoItem")
    cNx)
    (cSeq (cAsgT (tTupT 5 (tCons' (tName 3) (tCons' (tName 4) (tCons' (tName 5) (tCons' (tName 6) (tCons' (tName 7) tNil')))))) (cVar 0))
    (cSeq (cIfS (cBin (fun d e => (dLt d e).bind asB) (cIxV 1 (cC (.int 0))) (cC (.int 0)))
    (cRetV (cCall 2 m_greater (cCons (cCall 1 m_part_of_1 (cCons (cVar 4) cNil)) (cCons (cCall 2 m_added (cCons (cCall 1 m_part_of_1 (cCons (cVar 3) cNil)) (cCons (cCall 2 m_product (cCons (cVar 1) (cCons (cCall 1 m_part_of_1 (cCons (cVar 7) cNil)) cNil))) cNil))) cNil))))
    cNx)
    (cSeq (cAsg 2 (cCall 2 m_added (cCons (cCall 1 m_part_of_1 (cCons (cVar 3) cNil)) (cCons (cCall 2 m_product (cCons (cVar 1) (cCons (cCall 1 m_part_of_1 (cCons (cVar 6) cNil)) cNil))) cNil))))
    (cRetV (cIf (evT (cBin (fun d e => (dIs d e).bind asB) (cVar 5) (cC (.non)))) (cVar 2) (cCall 2 m_lesser (cCons (cCall 1 m_part_of_1 (cCons (cVar 5) cNil)) (cCons (cVar 2) cNil)))))))))
noncomputable def G_width_at : Dw.Ctx := { N := ["item", "share", "found", "wish", "least", "most", "grow", "shrink"], F := fun x n => if x = "is_item" ∧ n = 1 then some m_is_item else if x = "greater" ∧ n = 2 then some m_greater else if x = "part_of" ∧ n = 1 then some m_part_of_1 else if x = "added" ∧ n = 2 then some m_added else if x = "product" ∧ n = 2 then some m_product else if x = "lesser" ∧ n = 2 then some m_lesser else none, Gc := fun x => none, isi := fun x => none, M := [], exs := ["NoItem"], exm := fun x => none, L := [], O := [], Dn := [], Tn := [], Z := [], st := false, Fo := fok, Mt := fun x n => none, Mk := fun x n => none, Ib := fun x n => none, Kt := fun x => none, i2 := fun x y => none }
theorem b_width_at : body (G_width_at) (defScope s_width_at) 40 20 (defBody s_width_at) = c_width_at := by kernel_rfl
noncomputable def m_width_at : List D → Rs := run 8 c_width_at
abbrev s_total_of : Stmt := top 23
theorem sc_total_of : FnScope ["widths", "found", "width"] ["widths"] (defScope s_total_of) := ⟨by kernel_rfl, by kernel_rfl, by kernel_rfl, by decide +kernel, by kernel_rfl, by decide +kernel, by decide +kernel⟩
noncomputable def c_total_of_b1 : CS :=
    (cAsg 1 (cCall 2 m_added (cCons (cVar 1) (cCons (cVar 2) cNil))))
noncomputable def c_total_of : CS :=
    (cSeq (cAsg 1 (cC (.tup [.int 0, .int 1])))
    (cSeq (cFor (cUn dItems (cVar 0)) (tName 2)
    c_total_of_b1)
    (cRetO 1)))
noncomputable def G_total_of : Dw.Ctx := { N := ["widths", "found", "width"], F := fun x n => if x = "added" ∧ n = 2 then some m_added else none, Gc := fun x => if x = "NOUGHT_sharing" then some (.tup [.int 0, .int 1]) else none, isi := fun x => none, M := [], exs := [], exm := fun x => none, L := [], O := [], Dn := [], Tn := [], Z := [], st := false, Fo := fok, Mt := fun x n => none, Mk := fun x n => none, Ib := fun x n => none, Kt := fun x => none, i2 := fun x y => none }
theorem b_total_of : body (G_total_of) (defScope s_total_of) 40 20 (defBody s_total_of) = c_total_of := by kernel_rfl
noncomputable def m_total_of : List D → Rs := run 3 c_total_of
abbrev s_changes_from : Stmt := top 36
theorem sc_changes_from : FnScope ["item", "share", "bound", "wish", "least", "most", "grow", "shrink"] ["item", "share"] (defScope s_changes_from) := ⟨by kernel_rfl, by kernel_rfl, by kernel_rfl, by decide +kernel, by kernel_rfl, by decide +kernel, by decide +kernel⟩
noncomputable def c_changes_from : CS :=
    (cSeq (cAsgT (tTupT 5 (tCons' (tName 3) (tCons' (tName 4) (tCons' (tName 5) (tCons' (tName 6) (tCons' (tName 7) tNil')))))) (cVar 0))
    (cSeq (cIfS (cBin (fun d e => (dGe d e).bind asB) (cIxV 1 (cC (.int 0))) (cC (.int 0)))
    (cSeq (cAsg 2 (cCall 2 m_bound_of (cCons (cVar 0) (cCons (cC (.bl true)) cNil))))
    (cSeq (cIfS (cAndB [(cBin (fun d e => (dNot d e).bind asB) (cVar 2) (cC (.non))), (cNotB (cUn dTru (cCall 2 m_is_more (cCons (cVar 2) (cCons (cVar 1) cNil)))))])
    (cRetV (cApp dTup (cCons (cC (.int 0)) (cCons (cC (.non)) cNil))))
    cNx)
    (cRetV (cApp dTup (cCons (cVar 6) (cCons (cIf (evT (cBin (fun d e => (dGt d e).bind asB) (cVar 6) (cC (.int 0)))) (cVar 2) (cC (.non))) cNil))))))
    cNx)
    (cSeq (cAsg 2 (cCall 2 m_bound_of (cCons (cVar 0) (cCons (cC (.bl false)) cNil))))
    (cSeq (cIfS (cAndB [(cBin (fun d e => (dNot d e).bind asB) (cVar 2) (cC (.non))), (cUn dTru (cCall 2 m_is_more (cCons (cCall 2 m_less (cCons (cC (.tup [.int 0, .int 1])) (cCons (cVar 2) cNil))) (cCons (cVar 1) cNil))))])
    (cRetV (cApp dTup (cCons (cC (.int 0)) (cCons (cCall 2 m_less (cCons (cC (.tup [.int 0, .int 1])) (cCons (cVar 2) cNil))) cNil))))
    cNx)
    (cRetV (cApp dTup (cCons (cVar 7) (cCons (cC (.tup [.int 0, .int 1])) cNil))))))))
noncomputable def G_changes_from : Dw.Ctx := { N := ["item", "share", "bound", "wish", "least", "most", "grow", "shrink"], F := fun x n => if x = "bound_of" ∧ n = 2 then some m_bound_of else if x = "is_more" ∧ n = 2 then some m_is_more else if x = "less" ∧ n = 2 then some m_less else none, Gc := fun x => if x = "NOUGHT_widths" then some (.tup [.int 0, .int 1]) else none, isi := fun x => none, M := [], exs := [], exm := fun x => none, L := [], O := [], Dn := [], Tn := [], Z := [], st := false, Fo := fok, Mt := fun x n => none, Mk := fun x n => none, Ib := fun x n => none, Kt := fun x => none, i2 := fun x y => none }
theorem b_changes_from : body (G_changes_from) (defScope s_changes_from) 40 20 (defBody s_changes_from) = c_changes_from := by kernel_rfl
noncomputable def m_changes_from : List D → Rs := run 8 c_changes_from
abbrev s_first_of : Stmt := top 34
theorem sc_first_of : FnScope ["one", "other"] ["one", "other"] (defScope s_first_of) := ⟨by kernel_rfl, by kernel_rfl, by kernel_rfl, by decide +kernel, by kernel_rfl, by decide +kernel, by decide +kernel⟩
noncomputable def c_first_of : CS :=
    (cSeq (cIfS (cOrB [(cBin (fun d e => (dIs d e).bind asB) (cVar 0) (cC (.non))), (cBin (fun d e => (dIs d e).bind asB) (cVar 1) (cC (.non)))])
    (cRetV (cIf (evT (cBin (fun d e => (dIs d e).bind asB) (cVar 0) (cC (.non)))) (cVar 1) (cVar 0)))
    cNx)
    (cRetV (cCall 2 m_lesser (cCons (cVar 0) (cCons (cVar 1) cNil)))))
noncomputable def G_first_of : Dw.Ctx := { N := ["one", "other"], F := fun x n => if x = "lesser" ∧ n = 2 then some m_lesser else none, Gc := fun x => none, isi := fun x => none, M := [], exs := [], exm := fun x => none, L := [], O := [], Dn := [], Tn := [], Z := [], st := false, Fo := fok, Mt := fun x n => none, Mk := fun x n => none, Ib := fun x n => none, Kt := fun x => none, i2 := fun x y => none }
theorem b_first_of : body (G_first_of) (defScope s_first_of) 40 20 (defBody s_first_of) = c_first_of := by kernel_rfl
noncomputable def m_first_of : List D → Rs := run 2 c_first_of
abbrev s_line_from : Stmt := top 35
theorem sc_line_from : FnScope ["width", "growth", "room"] ["width", "growth", "room"] (defScope s_line_from) := ⟨by kernel_rfl, by kernel_rfl, by kernel_rfl, by decide +kernel, by kernel_rfl, by decide +kernel, by decide +kernel⟩
noncomputable def c_line_from : CS :=
    (cRetV (cApp dTup (cCons (cCall 2 m_less (cCons (cVar 0) (cCons (cCall 2 m_product (cCons (cVar 1) (cCons (cVar 2) cNil))) cNil))) (cCons (cVar 1) cNil))))
noncomputable def G_line_from : Dw.Ctx := { N := ["width", "growth", "room"], F := fun x n => if x = "less" ∧ n = 2 then some m_less else if x = "product" ∧ n = 2 then some m_product else none, Gc := fun x => none, isi := fun x => none, M := [], exs := [], exm := fun x => none, L := [], O := [], Dn := [], Tn := [], Z := [], st := false, Fo := fok, Mt := fun x n => none, Mk := fun x n => none, Ib := fun x n => none, Kt := fun x => none, i2 := fun x y => none }
theorem b_line_from : body (G_line_from) (defScope s_line_from) 40 20 (defBody s_line_from) = c_line_from := by kernel_rfl
noncomputable def m_line_from : List D → Rs := run 3 c_line_from
abbrev s_share_at : Stmt := top 37
theorem sc_share_at : FnScope ["items", "room", "share", "widths", "full", "changes", "weight", "end", "one", "lines", "width", "item"] ["items", "room"] (defScope s_share_at) := ⟨by kernel_rfl, by kernel_rfl, by kernel_rfl, by decide +kernel, by kernel_rfl, by decide +kernel, by decide +kernel⟩
noncomputable def c_share_at_e1 : C :=
    (cCall 2 m_width_at (cCons (cVar 11) (cCons (cVar 2) cNil)))
noncomputable def c_share_at_e2 : C :=
    (cApp dTup (cCons (cVar 10) (cCons (cC (.tup [.int 0, .int 1])) cNil)))
noncomputable def c_share_at_e3 : C :=
    (cCall 2 m_changes_from (cCons (cVar 11) (cCons (cVar 2) cNil)))
noncomputable def c_share_at_b1 : CS :=
    (cAsg 7 (cCall 2 m_first_of (cCons (cVar 7) (cCons (cIxV 8 (cC (.int 1))) cNil))))
noncomputable def c_share_at_b2 : CS :=
    (cAppd 9 (cCall 3 m_line_from (cCons (cVar 10) (cCons (cIf (evT (cBin (fun d e => (dGt d e).bind asB) (cVar 6) (cC (.int 0)))) (cCall 2 m_part_of (cCons (cIxV 8 (cC (.int 0))) (cCons (cVar 6) cNil))) (cC (.tup [.int 0, .int 1]))) (cCons (cVar 1) cNil)))))
noncomputable def c_share_at : CS :=
    (cSeq (cAsg 2 (cCall 2 m_share_of (cCons (cVar 0) (cCons (cVar 1) cNil))))
    (cSeq (cAsg 3 (cL (cLc (cUn dItems (cVar 0)) (tName 11) cTrue c_share_at_e1 [11])))
    (cSeq (cAsg 4 (cCall 1 m_total_of (cCons (cVar 3) cNil)))
    (cSeq (cIfS (cUn dTru (cCall 2 m_is_more (cCons (cVar 4) (cCons (cVar 1) cNil))))
    (cRetV (cApp dTup (cCons (cL (cLc (cUn dItems (cVar 3)) (tName 10) cTrue c_share_at_e2 [10])) (cCons (cVar 4) cNil))))
    cNx)
    (cSeq (cAsg 5 (cL (cLc (cUn dItems (cVar 0)) (tName 11) cTrue c_share_at_e3 [11])))
    (cSeq (cAsg 6 (cApp dSum (cCons (cL (cLc (cUn dItems (cVar 5)) (tName 8) cTrue (cIxV 8 (cC (.int 0))) [8])) cNil)))
    (cSeq (cIfS (cAndB [(cBin (fun d e => (dEq d e).bind asB) (cVar 6) (cC (.int 0))), (cBin (fun d e => (dGe d e).bind asB) (cIxV 2 (cC (.int 0))) (cC (.int 0)))])
    (cRetV (cApp dTup (cCons (cL (cLc (cUn dItems (cVar 3)) (tName 10) cTrue c_share_at_e2 [10])) (cCons (cC (.non)) cNil))))
    cNx)
    (cSeq (cAsg 7 (cC (.non)))
    (cSeq (cFor (cUn dItems (cVar 5)) (tName 8)
    c_share_at_b1)
    (cSeq (cAsgN 9 (cApp dLst cNil))
    (cSeq (cFor (cApp dZip (cCons (cVar 3) (cCons (cVar 5) cNil))) (tTupT 2 (tCons' (tName 10) (tCons' (tName 8) tNil')))
    c_share_at_b2)
    (cSeq (cIfS (cBin (fun d e => (dIs d e).bind asB) (cVar 7) (cC (.non)))
    (cRetV (cApp dTup (cCons (cVar 9) (cCons (cC (.non)) cNil))))
    cNx)
    (cRetV (cApp dTup (cCons (cVar 9) (cCons (cCall 2 m_added (cCons (cVar 1) (cCons (cCall 2 m_product (cCons (cCall 2 m_less (cCons (cVar 7) (cCons (cVar 2) cNil))) (cCons (cCall 1 m_part_of_1 (cCons (cVar 6) cNil)) cNil))) cNil))) cNil))))))))))))))))
noncomputable def G_share_at : Dw.Ctx := { N := ["items", "room", "share", "widths", "full", "changes", "weight", "end", "one", "lines", "width", "item"], F := fun x n => if x = "share_of" ∧ n = 2 then some m_share_of else if x = "width_at" ∧ n = 2 then some m_width_at else if x = "total_of" ∧ n = 1 then some m_total_of else if x = "is_more" ∧ n = 2 then some m_is_more else if x = "changes_from" ∧ n = 2 then some m_changes_from else if x = "first_of" ∧ n = 2 then some m_first_of else if x = "line_from" ∧ n = 3 then some m_line_from else if x = "part_of" ∧ n = 2 then some m_part_of else if x = "added" ∧ n = 2 then some m_added else if x = "product" ∧ n = 2 then some m_product else if x = "less" ∧ n = 2 then some m_less else if x = "part_of" ∧ n = 1 then some m_part_of_1 else none, Gc := fun x => if x = "NOUGHT_widths" then some (.tup [.int 0, .int 1]) else none, isi := fun x => none, M := ["lines"], exs := [], exm := fun x => none, L := [], O := [], Dn := [], Tn := [], Z := [], st := false, Fo := fok, Mt := fun x n => none, Mk := fun x n => none, Ib := fun x n => none, Kt := fun x => none, i2 := fun x y => none }
theorem b_share_at : body (G_share_at) (defScope s_share_at) 40 20 (defBody s_share_at) = c_share_at := by kernel_rfl
noncomputable def m_share_at : List D → Rs := run 12 c_share_at
abbrev s_share_pieces : Stmt := top 38
theorem sc_share_pieces : FnScope ["items", "found", "room", "lines", "end"] ["items"] (defScope s_share_pieces) := ⟨by kernel_rfl, by kernel_rfl, by kernel_rfl, by decide +kernel, by kernel_rfl, by decide +kernel, by decide +kernel⟩
noncomputable def c_share_pieces_t1 : CB :=
    (cBin (fun d e => (dNot d e).bind asB) (cVar 2) (cC (.non)))
noncomputable def c_share_pieces_b1 : CS :=
    (cSeq (cAsgT (tTupT 2 (tCons' (tName 3) (tCons' (tName 4) tNil'))) (cCall 2 m_share_at (cCons (cVar 0) (cCons (cVar 2) cNil))))
    (cSeq (cIfS (cOrB [(cBin (fun d e => (dEq d e).bind asB) (cVar 1) (cL (cApp dLst cNil))), (cBin (fun d e => (dNe d e).bind asB) (cBin dIx (cIxV 1 (cUn dNeg (cC (.int 1)))) (cC (.int 1))) (cVar 3))])
    (cAppd 1 (cApp dTup (cCons (cVar 2) (cCons (cVar 3) cNil))))
    cNx)
    (cAsg 2 (cVar 4))))
noncomputable def c_share_pieces : CS :=
    (cSeq (cExp (cCall 1 m_need_items (cCons (cVar 0) cNil)))
    (cSeq (cAsgN 1 (cApp dLst cNil))
    (cSeq (cAsg 2 (cC (.tup [.int 0, .int 1])))
    (cSeq (cWh c_share_pieces_t1
    c_share_pieces_b1)
    (cRetO 1)))))
noncomputable def G_share_pieces : Dw.Ctx := { N := ["items", "found", "room", "lines", "end"], F := fun x n => if x = "need_items" ∧ n = 1 then some m_need_items else if x = "share_at" ∧ n = 2 then some m_share_at else none, Gc := fun x => if x = "NOUGHT_widths" then some (.tup [.int 0, .int 1]) else none, isi := fun x => none, M := ["found"], exs := [], exm := fun x => none, L := [], O := [], Dn := [], Tn := [], Z := [], st := false, Fo := fok, Mt := fun x n => none, Mk := fun x n => none, Ib := fun x n => none, Kt := fun x => none, i2 := fun x y => none }
theorem b_share_pieces : body (G_share_pieces) (defScope s_share_pieces) 40 20 (defBody s_share_pieces) = c_share_pieces := by kernel_rfl
noncomputable def m_share_pieces : List D → Rs := run 5 c_share_pieces
abbrev s_law_part : Stmt := top 42
theorem sc_law_part : FnScope ["_law_top", "_law_bottom", "_law_one", "_law_other"] ["_law_top", "_law_bottom"] (defScope s_law_part) := ⟨by kernel_rfl, by kernel_rfl, by kernel_rfl, by decide +kernel, by kernel_rfl, by decide +kernel, by decide +kernel⟩
noncomputable def c_law_part_t1 : CB :=
    (cBin (fun d e => (dGt d e).bind asB) (cVar 3) (cC (.int 0)))
noncomputable def c_law_part_b1 : CS :=
    (cPar2 2 3 (cCons (cVar 3) (cCons (cBin dMod (cVar 2) (cVar 3)) cNil)))
noncomputable def c_law_part : CS :=
    (cSeq (cPar2 2 3 (cCons (cApp dAbs (cCons (cVar 0) cNil)) (cCons (cApp dAbs (cCons (cVar 1) cNil)) cNil)))
    (cSeq (cWh c_law_part_t1
    c_law_part_b1)
    (cSeq (cIfS (cBin (fun d e => (dLt d e).bind asB) (cVar 1) (cC (.int 0)))
    (cAsg 2 (cUn dNeg (cVar 2)))
    cNx)
    (cRetV (cApp dTup (cCons (cBin dDiv (cVar 0) (cVar 2)) (cCons (cBin dDiv (cVar 1) (cVar 2)) cNil)))))))
noncomputable def G_law_part : Dw.Ctx := { N := ["_law_top", "_law_bottom", "_law_one", "_law_other"], F := fun x n => none, Gc := fun x => none, isi := fun x => none, M := [], exs := [], exm := fun x => none, L := [], O := [], Dn := [], Tn := [], Z := [], st := false, Fo := fok, Mt := fun x n => none, Mk := fun x n => none, Ib := fun x n => none, Kt := fun x => none, i2 := fun x y => none }
theorem b_law_part : body (G_law_part) (defScope s_law_part) 40 20 (defBody s_law_part) = c_law_part := by kernel_rfl
noncomputable def m_law_part : List D → Rs := run 4 c_law_part
abbrev s_law_sum : Stmt := top 43
theorem sc_law_sum : FnScope ["_law_one", "_law_other"] ["_law_one", "_law_other"] (defScope s_law_sum) := ⟨by kernel_rfl, by kernel_rfl, by kernel_rfl, by decide +kernel, by kernel_rfl, by decide +kernel, by decide +kernel⟩
noncomputable def c_law_sum : CS :=
    (cRetV (cCall 2 m_law_part (cCons (cBin dAddA (cBin dMul (cIxV 0 (cC (.int 0))) (cIxV 1 (cC (.int 1)))) (cBin dMul (cIxV 1 (cC (.int 0))) (cIxV 0 (cC (.int 1))))) (cCons (cBin dMul (cIxV 0 (cC (.int 1))) (cIxV 1 (cC (.int 1)))) cNil))))
noncomputable def G_law_sum : Dw.Ctx := { N := ["_law_one", "_law_other"], F := fun x n => if x = "_law_part" ∧ n = 2 then some m_law_part else none, Gc := fun x => none, isi := fun x => none, M := [], exs := [], exm := fun x => none, L := [], O := [], Dn := [], Tn := [], Z := [], st := false, Fo := fok, Mt := fun x n => none, Mk := fun x n => none, Ib := fun x n => none, Kt := fun x => none, i2 := fun x y => none }
theorem b_law_sum : body (G_law_sum) (defScope s_law_sum) 40 20 (defBody s_law_sum) = c_law_sum := by kernel_rfl
noncomputable def m_law_sum : List D → Rs := run 2 c_law_sum
abbrev s_law_growths_right : Stmt := top 51
theorem sc_law_growths_right : FnScope ["_law_lines", "_law_total", "_law_line_here"] ["_law_lines"] (defScope s_law_growths_right) := ⟨by kernel_rfl, by kernel_rfl, by kernel_rfl, by decide +kernel, by kernel_rfl, by decide +kernel, by decide +kernel⟩
noncomputable def c_law_growths_right_b1 : CS :=
    (cSeq (cIfS (cOrB [(cBin (fun d e => (dLt d e).bind asB) (cBin dIx (cIxV 2 (cC (.int 1))) (cC (.int 0))) (cC (.int 0))), (cBin (fun d e => (dNe d e).bind asB) (cIxV 2 (cC (.int 0))) (cCall 2 m_law_part (cCons (cBin dIx (cIxV 2 (cC (.int 0))) (cC (.int 0))) (cCons (cBin dIx (cIxV 2 (cC (.int 0))) (cC (.int 1))) cNil))))])
    (cRetV (cC (.bl false)))
    cNx)
    (cAsg 1 (cCall 2 m_law_sum (cCons (cVar 1) (cCons (cIxV 2 (cC (.int 1))) cNil)))))
noncomputable def c_law_growths_right : CS :=
    (cSeq (cAsg 1 (cApp dTup (cCons (cC (.int 0)) (cCons (cC (.int 1)) cNil))))
    (cSeq (cFor (cUn dItems (cVar 0)) (tName 2)
    c_law_growths_right_b1)
    (cRetV (cBin dIn (cVar 1) (cL (cApp dLst (cCons (cApp dTup (cCons (cC (.int 0)) (cCons (cC (.int 1)) cNil))) (cCons (cApp dTup (cCons (cC (.int 1)) (cCons (cC (.int 1)) cNil))) cNil))))))))
noncomputable def G_law_growths_right : Dw.Ctx := { N := ["_law_lines", "_law_total", "_law_line_here"], F := fun x n => if x = "_law_part" ∧ n = 2 then some m_law_part else if x = "_law_sum" ∧ n = 2 then some m_law_sum else none, Gc := fun x => none, isi := fun x => none, M := [], exs := [], exm := fun x => none, L := [], O := [], Dn := [], Tn := [], Z := [], st := false, Fo := fok, Mt := fun x n => none, Mk := fun x n => none, Ib := fun x n => none, Kt := fun x => none, i2 := fun x y => none }
theorem b_law_growths_right : body (G_law_growths_right) (defScope s_law_growths_right) 40 20 (defBody s_law_growths_right) = c_law_growths_right := by kernel_rfl
noncomputable def m_law_growths_right : List D → Rs := run 3 c_law_growths_right
abbrev s_law_is_above : Stmt := top 46
theorem sc_law_is_above : FnScope ["_law_one", "_law_other"] ["_law_one", "_law_other"] (defScope s_law_is_above) := ⟨by kernel_rfl, by kernel_rfl, by kernel_rfl, by decide +kernel, by kernel_rfl, by decide +kernel, by decide +kernel⟩
noncomputable def c_law_is_above : CS :=
    (cRetV (cBin dGt (cBin dMul (cIxV 0 (cC (.int 0))) (cIxV 1 (cC (.int 1)))) (cBin dMul (cIxV 1 (cC (.int 0))) (cIxV 0 (cC (.int 1))))))
noncomputable def G_law_is_above : Dw.Ctx := { N := ["_law_one", "_law_other"], F := fun x n => none, Gc := fun x => none, isi := fun x => none, M := [], exs := [], exm := fun x => none, L := [], O := [], Dn := [], Tn := [], Z := [], st := false, Fo := fok, Mt := fun x n => none, Mk := fun x n => none, Ib := fun x n => none, Kt := fun x => none, i2 := fun x y => none }
theorem b_law_is_above : body (G_law_is_above) (defScope s_law_is_above) 40 20 (defBody s_law_is_above) = c_law_is_above := by kernel_rfl
noncomputable def m_law_is_above : List D → Rs := run 2 c_law_is_above
abbrev s_law_less : Stmt := top 44
theorem sc_law_less : FnScope ["_law_one", "_law_other"] ["_law_one", "_law_other"] (defScope s_law_less) := ⟨by kernel_rfl, by kernel_rfl, by kernel_rfl, by decide +kernel, by kernel_rfl, by decide +kernel, by decide +kernel⟩
noncomputable def c_law_less : CS :=
    (cRetV (cCall 2 m_law_part (cCons (cBin dSub (cBin dMul (cIxV 0 (cC (.int 0))) (cIxV 1 (cC (.int 1)))) (cBin dMul (cIxV 1 (cC (.int 0))) (cIxV 0 (cC (.int 1))))) (cCons (cBin dMul (cIxV 0 (cC (.int 1))) (cIxV 1 (cC (.int 1)))) cNil))))
noncomputable def G_law_less : Dw.Ctx := { N := ["_law_one", "_law_other"], F := fun x n => if x = "_law_part" ∧ n = 2 then some m_law_part else none, Gc := fun x => none, isi := fun x => none, M := [], exs := [], exm := fun x => none, L := [], O := [], Dn := [], Tn := [], Z := [], st := false, Fo := fok, Mt := fun x n => none, Mk := fun x n => none, Ib := fun x n => none, Kt := fun x => none, i2 := fun x y => none }
theorem b_law_less : body (G_law_less) (defScope s_law_less) 40 20 (defBody s_law_less) = c_law_less := by kernel_rfl
noncomputable def m_law_less : List D → Rs := run 2 c_law_less
abbrev s_law_times : Stmt := top 45
theorem sc_law_times : FnScope ["_law_one", "_law_other"] ["_law_one", "_law_other"] (defScope s_law_times) := ⟨by kernel_rfl, by kernel_rfl, by kernel_rfl, by decide +kernel, by kernel_rfl, by decide +kernel, by decide +kernel⟩
noncomputable def c_law_times : CS :=
    (cRetV (cCall 2 m_law_part (cCons (cBin dMul (cIxV 0 (cC (.int 0))) (cIxV 1 (cC (.int 0)))) (cCons (cBin dMul (cIxV 0 (cC (.int 1))) (cIxV 1 (cC (.int 1)))) cNil))))
noncomputable def G_law_times : Dw.Ctx := { N := ["_law_one", "_law_other"], F := fun x n => if x = "_law_part" ∧ n = 2 then some m_law_part else none, Gc := fun x => none, isi := fun x => none, M := [], exs := [], exm := fun x => none, L := [], O := [], Dn := [], Tn := [], Z := [], st := false, Fo := fok, Mt := fun x n => none, Mk := fun x n => none, Ib := fun x n => none, Kt := fun x => none, i2 := fun x y => none }
theorem b_law_times : body (G_law_times) (defScope s_law_times) 40 20 (defBody s_law_times) = c_law_times := by kernel_rfl
noncomputable def m_law_times : List D → Rs := run 2 c_law_times
abbrev s_law_spots : Stmt := top 50
theorem sc_law_spots : FnScope ["_law_lows", "_law_cells", "_law_found", "_law_k", "_law_high", "_law_way", "_law_long", "_law_amid", "_law_near"] ["_law_lows", "_law_cells"] (defScope s_law_spots) := ⟨by kernel_rfl, by kernel_rfl, by kernel_rfl, by decide +kernel, by kernel_rfl, by decide +kernel, by decide +kernel⟩
noncomputable def c_law_spots_b1 : CS :=
    (cSeq (cAsg 4 (cCall 2 m_law_sum (cCons (cIxV 0 (cVar 3)) (cCons (cApp dTup (cCons (cC (.int 97)) (cCons (cC (.int 1)) cNil))) cNil))))
    (cSeq (cIfS (cBin (fun d e => (dLt d e).bind asB) (cBin dAddA (cVar 3) (cC (.int 1))) (cApp dLen (cCons (cVar 0) cNil)))
    (cAsg 4 (cIxV 0 (cBin dAddA (cVar 3) (cC (.int 1)))))
    cNx)
    (cSeq (cAsg 5 (cCall 2 m_law_part (cCons (cBin dAddA (cC (.int 1)) (cBin dMod (cIxV 1 (cBin dMod (cVar 3) (cApp dLen (cCons (cVar 1) cNil)))) (cC (.int 358)))) (cCons (cC (.int 360)) cNil))))
    (cSeq (cAsg 6 (cCall 2 m_law_less (cCons (cVar 4) (cCons (cIxV 0 (cVar 3)) cNil))))
    (cSeq (cAsg 7 (cCall 2 m_law_sum (cCons (cIxV 0 (cVar 3)) (cCons (cCall 2 m_law_times (cCons (cVar 5) (cCons (cVar 6) cNil))) cNil))))
    (cSeq (cAsg 8 (cCall 2 m_law_sum (cCons (cIxV 0 (cVar 3)) (cCons (cCall 2 m_law_times (cCons (cApp dTup (cCons (cC (.int 359)) (cCons (cC (.int 360)) cNil))) (cCons (cVar 6) cNil))) cNil))))
    (cAsg 2 (cBin dAddA (cVar 2) (cL (cApp dLst (cCons (cApp dTup (cCons (cVar 3) (cCons (cIxV 0 (cVar 3)) cNil))) (cCons (cApp dTup (cCons (cVar 3) (cCons (cVar 7) cNil))) (cCons (cApp dTup (cCons (cVar 3) (cCons (cVar 8) cNil))) cNil)))))))))))))
noncomputable def c_law_spots : CS :=
    (cSeq (cAsg 2 (cL (cApp dLst cNil)))
    (cSeq (cFor (cApp dRng1 (cCons (cApp dLen (cCons (cVar 0) cNil)) cNil)) (tName 3)
    c_law_spots_b1)
    (cRetO 2)))
noncomputable def G_law_spots : Dw.Ctx := { N := ["_law_lows", "_law_cells", "_law_found", "_law_k", "_law_high", "_law_way", "_law_long", "_law_amid", "_law_near"], F := fun x n => if x = "_law_sum" ∧ n = 2 then some m_law_sum else if x = "_law_part" ∧ n = 2 then some m_law_part else if x = "_law_less" ∧ n = 2 then some m_law_less else if x = "_law_times" ∧ n = 2 then some m_law_times else none, Gc := fun x => none, isi := fun x => none, M := [], exs := [], exm := fun x => none, L := [], O := [], Dn := [], Tn := [], Z := [], st := false, Fo := fok, Mt := fun x n => none, Mk := fun x n => none, Ib := fun x n => none, Kt := fun x => none, i2 := fun x y => none }
theorem b_law_spots : body (G_law_spots) (defScope s_law_spots) 40 20 (defBody s_law_spots) = c_law_spots := by kernel_rfl
noncomputable def m_law_spots : List D → Rs := run 9 c_law_spots
abbrev s_law_line : Stmt := top 49
theorem sc_law_line : FnScope ["_law_line_here", "_law_width"] ["_law_line_here", "_law_width"] (defScope s_law_line) := ⟨by kernel_rfl, by kernel_rfl, by kernel_rfl, by decide +kernel, by kernel_rfl, by decide +kernel, by decide +kernel⟩
noncomputable def c_law_line : CS :=
    (cRetV (cCall 2 m_law_sum (cCons (cIxV 0 (cC (.int 0))) (cCons (cCall 2 m_law_times (cCons (cIxV 0 (cC (.int 1))) (cCons (cVar 1) cNil))) cNil))))
noncomputable def G_law_line : Dw.Ctx := { N := ["_law_line_here", "_law_width"], F := fun x n => if x = "_law_sum" ∧ n = 2 then some m_law_sum else if x = "_law_times" ∧ n = 2 then some m_law_times else none, Gc := fun x => none, isi := fun x => none, M := [], exs := [], exm := fun x => none, L := [], O := [], Dn := [], Tn := [], Z := [], st := false, Fo := fok, Mt := fun x n => none, Mk := fun x n => none, Ib := fun x n => none, Kt := fun x => none, i2 := fun x y => none }
theorem b_law_line : body (G_law_line) (defScope s_law_line) 40 20 (defBody s_law_line) = c_law_line := by kernel_rfl
noncomputable def m_law_line : List D → Rs := run 2 c_law_line
abbrev s_line_at : Stmt := top 33
theorem sc_line_at : FnScope ["line", "width"] ["line", "width"] (defScope s_line_at) := ⟨by kernel_rfl, by kernel_rfl, by kernel_rfl, by decide +kernel, by kernel_rfl, by decide +kernel, by decide +kernel⟩
noncomputable def c_line_at : CS :=
    (cRetV (cCall 2 m_added (cCons (cIxV 0 (cC (.int 0))) (cCons (cCall 2 m_product (cCons (cIxV 0 (cC (.int 1))) (cCons (cVar 1) cNil))) cNil))))
noncomputable def G_line_at : Dw.Ctx := { N := ["line", "width"], F := fun x n => if x = "added" ∧ n = 2 then some m_added else if x = "product" ∧ n = 2 then some m_product else none, Gc := fun x => none, isi := fun x => none, M := [], exs := [], exm := fun x => none, L := [], O := [], Dn := [], Tn := [], Z := [], st := false, Fo := fok, Mt := fun x n => none, Mk := fun x n => none, Ib := fun x n => none, Kt := fun x => none, i2 := fun x y => none }
theorem b_line_at : body (G_line_at) (defScope s_line_at) 40 20 (defBody s_line_at) = c_line_at := by kernel_rfl
noncomputable def m_line_at : List D → Rs := run 2 c_line_at
abbrev s_shared : Stmt := top 30
theorem sc_shared : FnScope ["items", "room", "share", "widths", "rest", "item"] ["items", "room"] (defScope s_shared) := ⟨by kernel_rfl, by kernel_rfl, by kernel_rfl, by decide +kernel, by kernel_rfl, by decide +kernel, by decide +kernel⟩
noncomputable def c_shared_e1 : C :=
    (cCall 2 m_width_at (cCons (cVar 5) (cCons (cVar 2) cNil)))
noncomputable def c_shared : CS :=
    (cSeq (cExp (cCall 1 m_need_items (cCons (cVar 0) cNil)))
    (cSeq (cAsg 2 (cCall 2 m_share_of (cCons (cVar 0) (cCons (cVar 1) cNil))))
    (cSeq (cAsg 3 (cL (cLc (cUn dItems (cVar 0)) (tName 5) cTrue c_shared_e1 [5])))
    (cSeq (cAsg 4 (cCall 2 m_less (cCons (cVar 1) (cCons (cCall 1 m_total_of (cCons (cVar 3) cNil)) cNil))))
    (cRetV (cApp dTup (cCons (cVar 2) (cCons (cVar 3) (cCons (cCall 2 m_greater (cCons (cC (.tup [.int 0, .int 1])) (cCons (cVar 4) cNil))) (cCons (cCall 2 m_greater (cCons (cC (.tup [.int 0, .int 1])) (cCons (cCall 2 m_less (cCons (cC (.tup [.int 0, .int 1])) (cCons (cVar 4) cNil))) cNil))) cNil))))))))))
noncomputable def G_shared : Dw.Ctx := { N := ["items", "room", "share", "widths", "rest", "item"], F := fun x n => if x = "need_items" ∧ n = 1 then some m_need_items else if x = "share_of" ∧ n = 2 then some m_share_of else if x = "width_at" ∧ n = 2 then some m_width_at else if x = "less" ∧ n = 2 then some m_less else if x = "total_of" ∧ n = 1 then some m_total_of else if x = "greater" ∧ n = 2 then some m_greater else none, Gc := fun x => if x = "NOUGHT_sharing" then some (.tup [.int 0, .int 1]) else none, isi := fun x => none, M := [], exs := [], exm := fun x => none, L := [], O := [], Dn := [], Tn := [], Z := [], st := false, Fo := fok, Mt := fun x n => none, Mk := fun x n => none, Ib := fun x n => none, Kt := fun x => none, i2 := fun x y => none }
theorem b_shared : body (G_shared) (defScope s_shared) 40 20 (defBody s_shared) = c_shared := by kernel_rfl
noncomputable def m_shared : List D → Rs := run 6 c_shared
abbrev s_law_refused : Stmt := top 52
theorem sc_law_refused : FnScope ["_law_items_here", "_law_caught", "e"] ["_law_items_here"] (defScope s_law_refused) := ⟨by kernel_rfl, by kernel_rfl, by kernel_rfl, by decide +kernel, by kernel_rfl, by decide +kernel, by decide +kernel⟩
noncomputable def c_law_refused : CS :=
    (cSeq (cAsg 1 (cC (.non)))
    (cSeq (cTryK e_WideError 2 1
    (cExp (cCall 1 m_share_pieces (cCons (cVar 0) cNil))))
    (cRetV (cAndV [(cUn (dIsi i_NoItem) (cVar 1)), (cUn dNotV (cUn (dIsi i_NoPart) (cVar 1))), (cUn dNotV (cUn (dIsi i_TooMany) (cVar 1)))]))))
noncomputable def G_law_refused : Dw.Ctx := { N := ["_law_items_here", "_law_caught", "e"], F := fun x n => if x = "share_pieces" ∧ n = 1 then some m_share_pieces else none, Gc := fun x => none, isi := fun x => if x = "NoItem" then some i_NoItem else if x = "NoPart" then some i_NoPart else if x = "TooMany" then some i_TooMany else none, M := [], exs := [], exm := fun x => if x = "WideError" then some e_WideError else none, L := [], O := [], Dn := [], Tn := [], Z := [], st := false, Fo := fok, Mt := fun x n => none, Mk := fun x n => none, Ib := fun x n => none, Kt := fun x => none, i2 := fun x y => none }
theorem b_law_refused : body (G_law_refused) (defScope s_law_refused) 40 20 (defBody s_law_refused) = c_law_refused := by kernel_rfl
noncomputable def m_law_refused : List D → Rs := run 3 c_law_refused
abbrev s_law : Stmt := top 53
theorem sc_law : FnScope ["_law_script", "_law_cells", "_law_items_here", "_law_found", "_law_k", "_law_held", "_law_odd", "_law_at", "_law_room", "_law_widths", "_law_told", "_law_piece", "_law_line_here"] ["_law_script"] (defScope s_law) := ⟨by kernel_rfl, by kernel_rfl, by kernel_rfl, by decide +kernel, by kernel_rfl, by decide +kernel, by decide +kernel⟩
noncomputable def c_law_b1 : CS :=
    (cSeq (cIfS (cOrB [(cBin (fun d e => (dNe d e).bind asB) (cApp dLen (cCons (cBin dIx (cIxV 3 (cVar 4)) (cC (.int 1))) cNil)) (cApp dLen (cCons (cVar 2) cNil))), (cNotB (cUn dTru (cCall 1 m_law_growths_right (cCons (cBin dIx (cIxV 3 (cVar 4)) (cC (.int 1))) cNil))))])
    (cRetV (cC (.bl false)))
    cNx)
    (cSeq (cIfS (cAndB [(cBin (fun d e => (dGt d e).bind asB) (cVar 4) (cC (.int 0))), (cNotB (cUn dTru (cCall 2 m_law_is_above (cCons (cBin dIx (cIxV 3 (cVar 4)) (cC (.int 0))) (cCons (cBin dIx (cIxV 3 (cBin dSub (cVar 4) (cC (.int 1)))) (cC (.int 0))) cNil)))))])
    (cRetV (cC (.bl false)))
    cNx)
    (cIfS (cAndB [(cBin (fun d e => (dGt d e).bind asB) (cVar 4) (cC (.int 0))), (cBin (fun d e => (dEq d e).bind asB) (cBin dIx (cIxV 3 (cVar 4)) (cC (.int 1))) (cBin dIx (cIxV 3 (cBin dSub (cVar 4) (cC (.int 1)))) (cC (.int 1))))])
    (cRetV (cC (.bl false)))
    cNx)))
noncomputable def c_law_e1 : C :=
    (cCall 2 m_law_line (cCons (cVar 12) (cCons (cVar 8) cNil)))
noncomputable def c_law_e2 : C :=
    (cCall 2 m_line_at (cCons (cVar 12) (cCons (cVar 8) cNil)))
noncomputable def c_law_b2 : CS :=
    (cSeq (cAsg 9 (cL (cLc (cUn dItems (cBin dIx (cIxV 3 (cVar 4)) (cC (.int 1)))) (tName 12) cTrue c_law_e1 [12])))
    (cSeq (cAsg 10 (cL (cLc (cUn dItems (cBin dIx (cIxV 3 (cVar 4)) (cC (.int 1)))) (tName 12) cTrue c_law_e2 [12])))
    (cIfS (cOrB [(cBin (fun d e => (dNe d e).bind asB) (cVar 9) (cBin dIx (cCall 2 m_shared (cCons (cVar 2) (cCons (cVar 8) cNil))) (cC (.int 1)))), (cBin (fun d e => (dNe d e).bind asB) (cVar 10) (cVar 9))])
    (cRetV (cC (.bl false)))
    cNx)))
noncomputable def c_law : CS :=
    (cSeq (cAsg 1 (cCall 3 m_law_mixed (cCons (cVar 0) (cCons (cC (.int 0)) (cCons (cC (.int 12)) cNil)))))
    (cSeq (cAsg 2 (cCall 1 m_law_items (cCons (cSlG dSlA (cVar 1) cNoP (cUn dPt (cBin dMod (cIxV 1 (cC (.int 8))) (cC (.int 7))))) cNil)))
    (cSeq (cAsgN 3 (cCallN 1 m_share_pieces (cCons (cVar 2) cNil)))
    (cSeq (cIfS (cOrB [(cNotB (cUn dTru (cUn (dIsi (isBt .list)) (cVar 3)))), (cBin (fun d e => (dNe d e).bind asB) (cBin dIx (cIxV 3 (cC (.int 0))) (cC (.int 0))) (cApp dTup (cCons (cC (.int 0)) (cCons (cC (.int 1)) cNil))))])
    (cRetV (cC (.bl false)))
    cNx)
    (cSeq (cFor (cApp dRng1 (cCons (cFz (cApp dLen (cCons (cVar 3) cNil))) cNil)) (tName 4)
    c_law_b1)
    (cSeq (cFor (cUn dItems (cCall 2 m_law_spots (cCons (cL (cFzN (cLc (cUn dItems (cVar 3)) (tName 11) cTrue (cIxV 11 (cC (.int 0))) [11]))) (cCons (cSlG dSlA (cVar 1) (cUn dPt (cC (.int 9))) (cUn dPt (cC (.int 12)))) cNil)))) (tTupT 2 (tCons' (tName 4) (tCons' (tName 8) tNil')))
    c_law_b2)
    (cSeq (cAsg 5 (cApp dRepr (cCons (cVar 3) cNil)))
    (cSeq (cPopS 3)
    (cSeq (cAsg 6 (cBin dIx (cL (cApp dLst (cCons (cC (.non)) (cCons (cApp dTup (cCons (cC (.int 1)) (cCons (cC (.int 2)) cNil))) (cCons (cApp dTup (cCons (cC (.int 5)) (cCons (cC (.int 6)) (cCons (cC (.non)) (cCons (cC (.int 0)) (cCons (cC (.int 0)) cNil)))))) (cCons (cL (cApp dLst cNil)) (cCons cDct0 cNil))))))) (cBin dMod (cIxV 1 (cC (.int 11))) (cC (.int 5)))))
    (cSeq (cAsg 7 (cBin dMod (cIxV 1 (cC (.int 10))) (cBin dAddA (cApp dLen (cCons (cVar 2) cNil)) (cC (.int 1)))))
    (cRetV (cAndV [(cBin dEq (cApp dRepr (cCons (cCall 1 m_share_pieces (cCons (cVar 2) cNil)) cNil)) (cVar 5)), (cCall 1 m_law_refused (cCons (cBin dAddA (cBin dAddA (cSlG dSlA (cVar 2) cNoP (cUn dPt (cVar 7))) (cL (cApp dLst (cCons (cVar 6) cNil)))) (cSlG dSlA (cVar 2) (cUn dPt (cVar 7)) cNoP)) cNil))]))))))))))))
noncomputable def G_law : Dw.Ctx := { N := ["_law_script", "_law_cells", "_law_items_here", "_law_found", "_law_k", "_law_held", "_law_odd", "_law_at", "_law_room", "_law_widths", "_law_told", "_law_piece", "_law_line_here"], F := fun x n => if x = "_law_mixed" ∧ n = 3 then some m_law_mixed else if x = "_law_items" ∧ n = 1 then some m_law_items else if x = "share_pieces" ∧ n = 1 then some m_share_pieces else if x = "_law_growths_right" ∧ n = 1 then some m_law_growths_right else if x = "_law_is_above" ∧ n = 2 then some m_law_is_above else if x = "_law_spots" ∧ n = 2 then some m_law_spots else if x = "_law_line" ∧ n = 2 then some m_law_line else if x = "line_at" ∧ n = 2 then some m_line_at else if x = "shared" ∧ n = 2 then some m_shared else if x = "_law_refused" ∧ n = 1 then some m_law_refused else none, Gc := fun x => none, isi := fun x => none, M := ["_law_found"], exs := [], exm := fun x => none, L := ["share_pieces"], O := [], Dn := [], Tn := [], Z := ["_law_found"], st := false, Fo := fok, Mt := fun x n => none, Mk := fun x n => none, Ib := fun x n => none, Kt := fun x => none, i2 := fun x y => none }
theorem b_law : body (G_law) (defScope s_law) 40 20 (defBody s_law) = c_law := by kernel_rfl
noncomputable def m_law : List D → Rs := run 13 c_law
end Law
namespace Law
open PySem L2 PyProof.Rows Dw
def d_law_cell_at : He.DefD := ⟨("_law_cell_at", none), "_law_cell_at", "_law_cell_at", defArgs s_law_cell_at, defBody s_law_cell_at, defScope s_law_cell_at, [], []⟩
def d_law_mixed : He.DefD := ⟨("_law_mixed", none), "_law_mixed", "_law_mixed", defArgs s_law_mixed, defBody s_law_mixed, defScope s_law_mixed, [], []⟩
def d_law_sizes : He.DefD := ⟨("_law_sizes", none), "_law_sizes", "_law_sizes", defArgs s_law_sizes, defBody s_law_sizes, defScope s_law_sizes, [], []⟩
def d_law_items : He.DefD := ⟨("_law_items", none), "_law_items", "_law_items", defArgs s_law_items, defBody s_law_items, defScope s_law_items, [], []⟩
def d_is_number : He.DefD := ⟨("is_number", none), "is_number", "is_number", defArgs s_is_number, defBody s_is_number, defScope s_is_number, [], []⟩
def d_is_item : He.DefD := ⟨("is_item", none), "is_item", "is_item", defArgs s_is_item, defBody s_is_item, defScope s_is_item, [], []⟩
def d_need_items : He.DefD := ⟨("need_items", none), "need_items", "need_items", defArgs s_need_items, defBody s_need_items, defScope s_need_items, [], []⟩
def d_common_divisor : He.DefD := ⟨("common_divisor", none), "common_divisor", "common_divisor", defArgs s_common_divisor, defBody s_common_divisor, defScope s_common_divisor, [], []⟩
def d_part_of : He.DefD := ⟨("part_of", none), "part_of", "part_of", defArgs s_part_of, defBody s_part_of, defScope s_part_of, [.int 1], []⟩
def d_less : He.DefD := ⟨("less", none), "less", "less", defArgs s_less, defBody s_less, defScope s_less, [], []⟩
def d_bound_of : He.DefD := ⟨("bound_of", none), "bound_of", "bound_of", defArgs s_bound_of, defBody s_bound_of, defScope s_bound_of, [], []⟩
def d_is_more : He.DefD := ⟨("is_more", none), "is_more", "is_more", defArgs s_is_more, defBody s_is_more, defScope s_is_more, [], []⟩
def d_ends_of : He.DefD := ⟨("ends_of", none), "ends_of", "ends_of", defArgs s_ends_of, defBody s_ends_of, defScope s_ends_of, [], []⟩
def d_weight_of : He.DefD := ⟨("weight_of", none), "weight_of", "weight_of", defArgs s_weight_of, defBody s_weight_of, defScope s_weight_of, [], []⟩
def d_weight_beyond : He.DefD := ⟨("weight_beyond", none), "weight_beyond", "weight_beyond", defArgs s_weight_beyond, defBody s_weight_beyond, defScope s_weight_beyond, [], []⟩
def d_product : He.DefD := ⟨("product", none), "product", "product", defArgs s_product, defBody s_product, defScope s_product, [], []⟩
def d_added : He.DefD := ⟨("added", none), "added", "added", defArgs s_added, defBody s_added, defScope s_added, [], []⟩
def d_quotient : He.DefD := ⟨("quotient", none), "quotient", "quotient", defArgs s_quotient, defBody s_quotient, defScope s_quotient, [], []⟩
def d_far_share : He.DefD := ⟨("far_share", none), "far_share", "far_share", defArgs s_far_share, defBody s_far_share, defScope s_far_share, [], []⟩
def d_share_of : He.DefD := ⟨("share_of", none), "share_of", "share_of", defArgs s_share_of, defBody s_share_of, defScope s_share_of, [], []⟩
def d_greater : He.DefD := ⟨("greater", none), "greater", "greater", defArgs s_greater, defBody s_greater, defScope s_greater, [], []⟩
def d_lesser : He.DefD := ⟨("lesser", none), "lesser", "lesser", defArgs s_lesser, defBody s_lesser, defScope s_lesser, [], []⟩
def d_width_at : He.DefD := ⟨("width_at", none), "width_at", "width_at", defArgs s_width_at, defBody s_width_at, defScope s_width_at, [], []⟩
def d_total_of : He.DefD := ⟨("total_of", none), "total_of", "total_of", defArgs s_total_of, defBody s_total_of, defScope s_total_of, [], []⟩
def d_changes_from : He.DefD := ⟨("changes_from", none), "changes_from", "changes_from", defArgs s_changes_from, defBody s_changes_from, defScope s_changes_from, [], []⟩
def d_first_of : He.DefD := ⟨("first_of", none), "first_of", "first_of", defArgs s_first_of, defBody s_first_of, defScope s_first_of, [], []⟩
def d_line_from : He.DefD := ⟨("line_from", none), "line_from", "line_from", defArgs s_line_from, defBody s_line_from, defScope s_line_from, [], []⟩
def d_share_at : He.DefD := ⟨("share_at", none), "share_at", "share_at", defArgs s_share_at, defBody s_share_at, defScope s_share_at, [], []⟩
def d_share_pieces : He.DefD := ⟨("share_pieces", none), "share_pieces", "share_pieces", defArgs s_share_pieces, defBody s_share_pieces, defScope s_share_pieces, [], []⟩
def d_law_part : He.DefD := ⟨("_law_part", none), "_law_part", "_law_part", defArgs s_law_part, defBody s_law_part, defScope s_law_part, [], []⟩
def d_law_sum : He.DefD := ⟨("_law_sum", none), "_law_sum", "_law_sum", defArgs s_law_sum, defBody s_law_sum, defScope s_law_sum, [], []⟩
def d_law_growths_right : He.DefD := ⟨("_law_growths_right", none), "_law_growths_right", "_law_growths_right", defArgs s_law_growths_right, defBody s_law_growths_right, defScope s_law_growths_right, [], []⟩
def d_law_is_above : He.DefD := ⟨("_law_is_above", none), "_law_is_above", "_law_is_above", defArgs s_law_is_above, defBody s_law_is_above, defScope s_law_is_above, [], []⟩
def d_law_less : He.DefD := ⟨("_law_less", none), "_law_less", "_law_less", defArgs s_law_less, defBody s_law_less, defScope s_law_less, [], []⟩
def d_law_times : He.DefD := ⟨("_law_times", none), "_law_times", "_law_times", defArgs s_law_times, defBody s_law_times, defScope s_law_times, [], []⟩
def d_law_spots : He.DefD := ⟨("_law_spots", none), "_law_spots", "_law_spots", defArgs s_law_spots, defBody s_law_spots, defScope s_law_spots, [], []⟩
def d_law_line : He.DefD := ⟨("_law_line", none), "_law_line", "_law_line", defArgs s_law_line, defBody s_law_line, defScope s_law_line, [], []⟩
def d_line_at : He.DefD := ⟨("line_at", none), "line_at", "line_at", defArgs s_line_at, defBody s_line_at, defScope s_line_at, [], []⟩
def d_shared : He.DefD := ⟨("shared", none), "shared", "shared", defArgs s_shared, defBody s_shared, defScope s_shared, [], []⟩
def d_law_refused : He.DefD := ⟨("_law_refused", none), "_law_refused", "_law_refused", defArgs s_law_refused, defBody s_law_refused, defScope s_law_refused, [], []⟩
def d_law : He.DefD := ⟨("law", none), "law", "law", defArgs s_law, defBody s_law, defScope s_law, [], []⟩
def fn : List He.DefD := [d_law_cell_at, d_law_mixed, d_law_sizes, d_law_items, d_is_number, d_is_item, d_need_items, d_common_divisor, d_part_of, d_less, d_bound_of, d_is_more, d_ends_of, d_weight_of, d_weight_beyond, d_product, d_added, d_quotient, d_far_share, d_share_of, d_greater, d_lesser, d_width_at, d_total_of, d_changes_from, d_first_of, d_line_from, d_share_at, d_share_pieces, d_law_part, d_law_sum, d_law_growths_right, d_law_is_above, d_law_less, d_law_times, d_law_spots, d_law_line, d_line_at, d_shared, d_law_refused, d_law]
def fa : List He.Fa := [.glo "_law_cell_at", .glo "_law_mixed", .glo "_law_sizes", .glo "_law_items", .glo "is_number", .glo "is_item", .glo "need_items", .glo "common_divisor", .glo "part_of", .glo "less", .glo "bound_of", .glo "is_more", .glo "ends_of", .glo "weight_of", .glo "weight_beyond", .glo "product", .glo "added", .glo "quotient", .glo "far_share", .glo "share_of", .glo "greater", .glo "lesser", .glo "width_at", .glo "total_of", .glo "changes_from", .glo "first_of", .glo "line_from", .glo "share_at", .glo "share_pieces", .glo "_law_part", .glo "_law_sum", .glo "_law_growths_right", .glo "_law_is_above", .glo "_law_less", .glo "_law_times", .glo "_law_spots", .glo "_law_line", .glo "line_at", .glo "shared", .glo "_law_refused", .glo "law", .free "len", .free "abs", .free "max", .free "min", .free "sum", .free "all", .free "any", .free "int", .free "str", .free "tuple", .free "list", .free "isinstance", .free "range", .free "enumerate", .free "bool", .free "dict", .free "repr", .free "zip", .free "set", .free "sorted", .glo "NoItem", .exc "NoItem", .glo "NoPart", .exc "NoPart", .glo "WideError", .glo "TooMany", .int "MOST_SIZE" 1000, .int "MOST_WEIGHT" 20, .glo "NOUGHT_sharing", .glo "NOUGHT_widths"]
theorem ite_cs {c : Prop} [Decidable c] {α : Type} {a b : Option α} {s : α} (h : (if c then a else b) = some s) : (c ∧ a = some s) ∨ b = some s := by
  by_cases q : c
  · rw [if_pos q] at h
    exact .inl ⟨q, h⟩
  · rw [if_neg q] at h
    exact .inr h
def ts : List He.Tab := []
def exL (K : PySem.W.Frag) : List Bool := [exmB K (He.ga K "NoItem") (He.ga K "WideError") true, excCB K (He.ga K "NoItem"), kitB2 K (He.ga K "NoItem") (.ref (He.ga K "NoItem")) true, kitB2 K (He.ga K "NoItem") (.ref (He.ga K "NoPart")) false, kitB2 K (He.ga K "NoItem") (.ref (He.ga K "TooMany")) false, exmB K (He.ga K "NoPart") (He.ga K "WideError") true, excCB K (He.ga K "NoPart"), kitB2 K (He.ga K "NoPart") (.ref (He.ga K "NoItem")) false, kitB2 K (He.ga K "NoPart") (.ref (He.ga K "NoPart")) true, kitB2 K (He.ga K "NoPart") (.ref (He.ga K "TooMany")) false, He.tupB K "NOUGHT_sharing" [.int 0, .int 1], He.tupB K "NOUGHT_widths" [.int 0, .int 1]]
def exB (K : PySem.W.Frag) : Bool := (exL K).all id
abbrev Tx (w : World) (K : PySem.W.Frag) (mg : Str → Option Value) : Prop := TxF fa fn ts exB w K mg
theorem exAt {w : World} {K : PySem.W.Frag} {mg : Str → Option Value} (T : Tx w K mg) (i : Nat) {b : Bool} (h : (exL K)[i]? = some b) : b = true := List.all_eq_true.mp (show (exL K).all id = true from T.t.x) b (List.mem_of_getElem? h)
section
variable {P : Program} {w : World} {K : PySem.W.Frag} {mg : Str → Option Value} {base : Heap}
theorem bl_ok (T : Tx w K mg) : ∀ x ∈ blts, mg x = none := by
  intro x hx
  have key : ∀ y, He.Fa.free y ∈ fa → mg y = none := fun y hy => by
    obtain ⟨i, hi, e⟩ := List.mem_iff_getElem.mp hy
    exact T.t.free y (T.t.c.fact i (f := .free y) (by rw [List.getElem?_eq_getElem hi, e]))
  simp only [blts, List.mem_cons, List.not_mem_nil, or_false] at hx
  rcases hx with rfl | rfl | rfl | rfl | rfl | rfl | rfl | rfl | rfl | rfl | rfl | rfl | rfl | rfl | rfl | rfl | rfl | rfl | rfl | rfl
  all_goals (apply key; simp [fa])
theorem cn_MOST_SIZE (T : Tx w K mg) : ((("MOST_SIZE" : Str)) == ("__debug__" : Str)) = false ∧ ∃ v u, mg "MOST_SIZE" = some u ∧ RelV v u ∧ ∀ H, Dr K H v (.int 1000) := by
  obtain ⟨t, h⟩ := T.t.int _ _ (T.t.c.fact 67 (f := .int "MOST_SIZE" 1000) rfl)
  exact ⟨by decide, .int 1000, _, h, ⟨t, rfl⟩, fun _ => .int _⟩
theorem cn_MOST_WEIGHT (T : Tx w K mg) : ((("MOST_WEIGHT" : Str)) == ("__debug__" : Str)) = false ∧ ∃ v u, mg "MOST_WEIGHT" = some u ∧ RelV v u ∧ ∀ H, Dr K H v (.int 20) := by
  obtain ⟨t, h⟩ := T.t.int _ _ (T.t.c.fact 68 (f := .int "MOST_WEIGHT" 20) rfl)
  exact ⟨by decide, .int 20, _, h, ⟨t, rfl⟩, fun _ => .int _⟩
theorem cn_NOUGHT_sharing (T : Tx w K mg) : ((("NOUGHT_sharing" : Str)) == ("__debug__" : Str)) = false ∧ ∃ v u, mg "NOUGHT_sharing" = some u ∧ RelV v u ∧ ∀ H, Dr K H v (.tup [.int 0, .int 1]) := ⟨by decide, .ref (He.ga K "NOUGHT_sharing"), _, T.t.glo _ (T.t.c.fact 69 (f := .glo "NOUGHT_sharing") rfl), rfl, fun H => .tup (He.tupB_ok (exAt T 10 rfl) H) (.cons (.int _) (.cons (.int _) .nil))⟩
theorem cn_NOUGHT_widths (T : Tx w K mg) : ((("NOUGHT_widths" : Str)) == ("__debug__" : Str)) = false ∧ ∃ v u, mg "NOUGHT_widths" = some u ∧ RelV v u ∧ ∀ H, Dr K H v (.tup [.int 0, .int 1]) := ⟨by decide, .ref (He.ga K "NOUGHT_widths"), _, T.t.glo _ (T.t.c.fact 70 (f := .glo "NOUGHT_widths") rfl), rfl, fun H => .tup (He.tupB_ok (exAt T 11 rfl) H) (.cons (.int _) (.cons (.int _) .nil))⟩
def tyV (K : PySem.W.Frag) : D → Value
  | .obj C _ _ => .ref (He.ga K C)
  | .non => .type "NoneType"
  | .bl _ => .type "bool"
  | .int _ => .type "int"
  | .str _ => .type "str"
  | .tup _ => .type "tuple"
  | .dct _ _ => .type "dict"
  | _ => .type "list"
theorem is_NoItem (T : Tx w K mg) : IsOf K (.ref (He.ga K "NoItem")) i_NoItem := by
  intro H v d b h e
  cases h with
  | @exc a C q =>
    have e2 : (if C = "NoItem" then some true else if C = "NoPart" then some false else none) = some b := e
    split at e2
    · rename_i ec
      subst ec
      cases e2
      exact .inr ⟨a, _, rfl, q, excCB_ok (exAt T 1 rfl), oB_ok (exAt T 2 rfl)⟩
    split at e2
    · rename_i ec
      subst ec
      cases e2
      exact .inr ⟨a, _, rfl, q, excCB_ok (exAt T 6 rfl), oB_ok (exAt T 7 rfl)⟩
    · cases e2
  | _ => cases e
theorem cl_NoItem (T : Tx w K mg) : ((("NoItem" : Str)) == ("__debug__" : Str)) = false ∧ ∃ v u, (mg "NoItem" = some u ∨ (mg "NoItem" = none ∧ bootBuiltins "NoItem" = some u ∧ ("NoItem" : Str) ≠ "__name__")) ∧ RelV v u ∧ ClsV v u ∧ IsOf K u i_NoItem := ⟨by decide, .ref (He.ga K "NoItem"), _, .inl (T.t.glo _ (T.t.c.fact 61 (f := .glo "NoItem") rfl)), rfl, .own _, is_NoItem T⟩
theorem is_NoPart (T : Tx w K mg) : IsOf K (.ref (He.ga K "NoPart")) i_NoPart := by
  intro H v d b h e
  cases h with
  | @exc a C q =>
    have e2 : (if C = "NoItem" then some false else if C = "NoPart" then some true else none) = some b := e
    split at e2
    · rename_i ec
      subst ec
      cases e2
      exact .inr ⟨a, _, rfl, q, excCB_ok (exAt T 1 rfl), oB_ok (exAt T 3 rfl)⟩
    split at e2
    · rename_i ec
      subst ec
      cases e2
      exact .inr ⟨a, _, rfl, q, excCB_ok (exAt T 6 rfl), oB_ok (exAt T 8 rfl)⟩
    · cases e2
  | _ => cases e
theorem cl_NoPart (T : Tx w K mg) : ((("NoPart" : Str)) == ("__debug__" : Str)) = false ∧ ∃ v u, (mg "NoPart" = some u ∨ (mg "NoPart" = none ∧ bootBuiltins "NoPart" = some u ∧ ("NoPart" : Str) ≠ "__name__")) ∧ RelV v u ∧ ClsV v u ∧ IsOf K u i_NoPart := ⟨by decide, .ref (He.ga K "NoPart"), _, .inl (T.t.glo _ (T.t.c.fact 63 (f := .glo "NoPart") rfl)), rfl, .own _, is_NoPart T⟩
theorem is_TooMany (T : Tx w K mg) : IsOf K (.ref (He.ga K "TooMany")) i_TooMany := by
  intro H v d b h e
  cases h with
  | @exc a C q =>
    have e2 : (if C = "NoItem" then some false else if C = "NoPart" then some false else none) = some b := e
    split at e2
    · rename_i ec
      subst ec
      cases e2
      exact .inr ⟨a, _, rfl, q, excCB_ok (exAt T 1 rfl), oB_ok (exAt T 4 rfl)⟩
    split at e2
    · rename_i ec
      subst ec
      cases e2
      exact .inr ⟨a, _, rfl, q, excCB_ok (exAt T 6 rfl), oB_ok (exAt T 9 rfl)⟩
    · cases e2
  | _ => cases e
theorem cl_TooMany (T : Tx w K mg) : ((("TooMany" : Str)) == ("__debug__" : Str)) = false ∧ ∃ v u, (mg "TooMany" = some u ∨ (mg "TooMany" = none ∧ bootBuiltins "TooMany" = some u ∧ ("TooMany" : Str) ≠ "__name__")) ∧ RelV v u ∧ ClsV v u ∧ IsOf K u i_TooMany := ⟨by decide, .ref (He.ga K "TooMany"), _, .inl (T.t.glo _ (T.t.c.fact 66 (f := .glo "TooMany") rfl)), rfl, .own _, is_TooMany T⟩
theorem rz_NoItem (T : Tx w K mg) : RzK K mg "NoItem" := rz_of (T.t.glo _ (T.t.c.fact 61 (f := .glo "NoItem") rfl)) (T.t.c.fact 62 (f := .exc "NoItem") rfl) (by decide)
theorem rz_NoPart (T : Tx w K mg) : RzK K mg "NoPart" := rz_of (T.t.glo _ (T.t.c.fact 63 (f := .glo "NoPart") rfl)) (T.t.c.fact 64 (f := .exc "NoPart") rfl) (by decide)
theorem xm_WideError (T : Tx w K mg) : ((("WideError" : Str)) == ("__debug__" : Str)) = false ∧ ∃ c, mg "WideError" = some c ∧ ∀ C b, e_WideError C = some b → PySem.W.exmOne K (.ref (He.ga K C)) c = some b := by
  refine ⟨by decide, _, T.t.glo _ (T.t.c.fact 65 (f := .glo "WideError") rfl), fun C b e => ?_⟩
  have e2 : (if C = "NoItem" then some true else if C = "NoPart" then some true else none) = some b := e
  split at e2
  · rename_i ec
    subst ec
    cases e2
    exact oB_ok (exAt T 0 rfl)
  split at e2
  · rename_i ec
    subst ec
    cases e2
    exact oB_ok (exAt T 5 rfl)
  · cases e2
theorem fo_ok (T : Tx w K mg) : ClF K fok := ⟨fun C f h => by simp [fok] at h⟩
theorem kn_law_cell_at (T : Tx w K mg) : Kn P w K mg base 0 G_law_cell_at where
  fns := fun _ _ _ h => nomatch h
  bl := bl_ok T
  cn := fun _ _ h => nomatch h
  cl := fun _ _ h => nomatch h
  rz := fun _ h => nomatch h
  xm := fun _ _ h => nomatch h
  ob := {
   fo := fo_ok T
   mt := fun _ _ _ h => nomatch h
   mkr := fun _ _ _ h => nomatch h
   ib := fun _ _ _ h => nomatch h
   kt := fun _ _ h => nomatch h
   i2 := fun _ _ _ _ h => nomatch h }
theorem k_law_cell_at (T : Tx w K mg) : FK P w K mg base 1 "_law_cell_at" 2 m_law_cell_at := by
  obtain ⟨fd, F⟩ := T.t.c.def_ 0 (d := d_law_cell_at) rfl
  exact fk_of (ps := ["_law_script", "_law_k"]) F sc_law_cell_at (kn_law_cell_at T) (FunD.bindsN (ps := ["_law_script", "_law_k"]) F fun _ _ _ _ _ _ us hl => match us, hl with | [_, _], _ => rfl) (T.t.glo _ (T.t.c.fact 0 (f := .glo "_law_cell_at") rfl)) (by decide) b_law_cell_at
theorem kn_law_mixed (T : Tx w K mg) : Kn P w K mg base 1 G_law_mixed where
  fns := fun x m sem h => by
    have h : (if x = "_law_cell_at" ∧ m = 2 then some m_law_cell_at else none) = some sem := h
    rcases ite_cs h with ⟨ec, h⟩ | h
    · obtain ⟨rfl, rfl⟩ := ec
      cases h
      exact (k_law_cell_at T).mono (by omega)
    · cases h
  bl := bl_ok T
  cn := fun _ _ h => nomatch h
  cl := fun _ _ h => nomatch h
  rz := fun _ h => nomatch h
  xm := fun _ _ h => nomatch h
  ob := {
   fo := fo_ok T
   mt := fun _ _ _ h => nomatch h
   mkr := fun _ _ _ h => nomatch h
   ib := fun _ _ _ h => nomatch h
   kt := fun _ _ h => nomatch h
   i2 := fun _ _ _ _ h => nomatch h }
theorem k_law_mixed (T : Tx w K mg) : FK P w K mg base 2 "_law_mixed" 3 m_law_mixed := by
  obtain ⟨fd, F⟩ := T.t.c.def_ 1 (d := d_law_mixed) rfl
  exact fk_of (ps := ["_law_script", "_law_start", "_law_many"]) F sc_law_mixed (kn_law_mixed T) (FunD.bindsN (ps := ["_law_script", "_law_start", "_law_many"]) F fun _ _ _ _ _ _ us hl => match us, hl with | [_, _, _], _ => rfl) (T.t.glo _ (T.t.c.fact 1 (f := .glo "_law_mixed") rfl)) (by decide) b_law_mixed
theorem kn_law_sizes (T : Tx w K mg) : Kn P w K mg base 0 G_law_sizes where
  fns := fun _ _ _ h => nomatch h
  bl := bl_ok T
  cn := fun _ _ h => nomatch h
  cl := fun _ _ h => nomatch h
  rz := fun _ h => nomatch h
  xm := fun _ _ h => nomatch h
  ob := {
   fo := fo_ok T
   mt := fun _ _ _ h => nomatch h
   mkr := fun _ _ _ h => nomatch h
   ib := fun _ _ _ h => nomatch h
   kt := fun _ _ h => nomatch h
   i2 := fun _ _ _ _ h => nomatch h }
theorem k_law_sizes (T : Tx w K mg) : FK P w K mg base 1 "_law_sizes" 1 m_law_sizes := by
  obtain ⟨fd, F⟩ := T.t.c.def_ 2 (d := d_law_sizes) rfl
  exact fk_of (ps := ["_law_cell"]) F sc_law_sizes (kn_law_sizes T) (FunD.bindsN (ps := ["_law_cell"]) F fun _ _ _ _ _ _ us hl => match us, hl with | [_], _ => rfl) (T.t.glo _ (T.t.c.fact 2 (f := .glo "_law_sizes") rfl)) (by decide) b_law_sizes
theorem kn_law_items (T : Tx w K mg) : Kn P w K mg base 1 G_law_items where
  fns := fun x m sem h => by
    have h : (if x = "_law_sizes" ∧ m = 1 then some m_law_sizes else none) = some sem := h
    rcases ite_cs h with ⟨ec, h⟩ | h
    · obtain ⟨rfl, rfl⟩ := ec
      cases h
      exact (k_law_sizes T).mono (by omega)
    · cases h
  bl := bl_ok T
  cn := fun _ _ h => nomatch h
  cl := fun _ _ h => nomatch h
  rz := fun _ h => nomatch h
  xm := fun _ _ h => nomatch h
  ob := {
   fo := fo_ok T
   mt := fun _ _ _ h => nomatch h
   mkr := fun _ _ _ h => nomatch h
   ib := fun _ _ _ h => nomatch h
   kt := fun _ _ h => nomatch h
   i2 := fun _ _ _ _ h => nomatch h }
theorem k_law_items (T : Tx w K mg) : FK P w K mg base 2 "_law_items" 1 m_law_items := by
  obtain ⟨fd, F⟩ := T.t.c.def_ 3 (d := d_law_items) rfl
  exact fk_of (ps := ["_law_cells"]) F sc_law_items (kn_law_items T) (FunD.bindsN (ps := ["_law_cells"]) F fun _ _ _ _ _ _ us hl => match us, hl with | [_], _ => rfl) (T.t.glo _ (T.t.c.fact 3 (f := .glo "_law_items") rfl)) (by decide) b_law_items
theorem kn_is_number (T : Tx w K mg) : Kn P w K mg base 0 G_is_number where
  fns := fun _ _ _ h => nomatch h
  bl := bl_ok T
  cn := fun _ _ h => nomatch h
  cl := fun _ _ h => nomatch h
  rz := fun _ h => nomatch h
  xm := fun _ _ h => nomatch h
  ob := {
   fo := fo_ok T
   mt := fun _ _ _ h => nomatch h
   mkr := fun _ _ _ h => nomatch h
   ib := fun _ _ _ h => nomatch h
   kt := fun _ _ h => nomatch h
   i2 := fun _ _ _ _ h => nomatch h }
theorem k_is_number (T : Tx w K mg) : FK P w K mg base 1 "is_number" 2 m_is_number := by
  obtain ⟨fd, F⟩ := T.t.c.def_ 4 (d := d_is_number) rfl
  exact fk_of (ps := ["thing", "most"]) F sc_is_number (kn_is_number T) (FunD.bindsN (ps := ["thing", "most"]) F fun _ _ _ _ _ _ us hl => match us, hl with | [_, _], _ => rfl) (T.t.glo _ (T.t.c.fact 4 (f := .glo "is_number") rfl)) (by decide) b_is_number
theorem kn_is_item (T : Tx w K mg) : Kn P w K mg base 1 G_is_item where
  fns := fun x m sem h => by
    have h : (if x = "is_number" ∧ m = 2 then some m_is_number else none) = some sem := h
    rcases ite_cs h with ⟨ec, h⟩ | h
    · obtain ⟨rfl, rfl⟩ := ec
      cases h
      exact (k_is_number T).mono (by omega)
    · cases h
  bl := bl_ok T
  cn := fun x d h => by
    have h : (if x = "MOST_SIZE" then some (.int 1000) else if x = "MOST_WEIGHT" then some (.int 20) else none) = some d := h
    rcases ite_cs h with ⟨ec, h⟩ | h
    · subst ec
      cases h
      exact cn_MOST_SIZE T
    rcases ite_cs h with ⟨ec, h⟩ | h
    · subst ec
      cases h
      exact cn_MOST_WEIGHT T
    · cases h
  cl := fun _ _ h => nomatch h
  rz := fun _ h => nomatch h
  xm := fun _ _ h => nomatch h
  ob := {
   fo := fo_ok T
   mt := fun _ _ _ h => nomatch h
   mkr := fun _ _ _ h => nomatch h
   ib := fun _ _ _ h => nomatch h
   kt := fun _ _ h => nomatch h
   i2 := fun _ _ _ _ h => nomatch h }
theorem k_is_item (T : Tx w K mg) : FK P w K mg base 2 "is_item" 1 m_is_item := by
  obtain ⟨fd, F⟩ := T.t.c.def_ 5 (d := d_is_item) rfl
  exact fk_of (ps := ["thing"]) F sc_is_item (kn_is_item T) (FunD.bindsN (ps := ["thing"]) F fun _ _ _ _ _ _ us hl => match us, hl with | [_], _ => rfl) (T.t.glo _ (T.t.c.fact 5 (f := .glo "is_item") rfl)) (by decide) b_is_item
theorem kn_need_items (T : Tx w K mg) : Kn P w K mg base 2 G_need_items where
  fns := fun x m sem h => by
    have h : (if x = "is_item" ∧ m = 1 then some m_is_item else none) = some sem := h
    rcases ite_cs h with ⟨ec, h⟩ | h
    · obtain ⟨rfl, rfl⟩ := ec
      cases h
      exact (k_is_item T).mono (by omega)
    · cases h
  bl := bl_ok T
  cn := fun _ _ h => nomatch h
  cl := fun _ _ h => nomatch h
  rz := fun x h => by
    simp only [G_need_items, List.mem_cons, List.not_mem_nil, or_false] at h
    rcases h with rfl
    · exact rz_NoItem T
  xm := fun _ _ h => nomatch h
  ob := {
   fo := fo_ok T
   mt := fun _ _ _ h => nomatch h
   mkr := fun _ _ _ h => nomatch h
   ib := fun _ _ _ h => nomatch h
   kt := fun _ _ h => nomatch h
   i2 := fun _ _ _ _ h => nomatch h }
theorem k_need_items (T : Tx w K mg) : FK P w K mg base 3 "need_items" 1 m_need_items := by
  obtain ⟨fd, F⟩ := T.t.c.def_ 6 (d := d_need_items) rfl
  exact fk_of (ps := ["items"]) F sc_need_items (kn_need_items T) (FunD.bindsN (ps := ["items"]) F fun _ _ _ _ _ _ us hl => match us, hl with | [_], _ => rfl) (T.t.glo _ (T.t.c.fact 6 (f := .glo "need_items") rfl)) (by decide) b_need_items
theorem kn_common_divisor (T : Tx w K mg) : Kn P w K mg base 0 G_common_divisor where
  fns := fun _ _ _ h => nomatch h
  bl := bl_ok T
  cn := fun _ _ h => nomatch h
  cl := fun _ _ h => nomatch h
  rz := fun _ h => nomatch h
  xm := fun _ _ h => nomatch h
  ob := {
   fo := fo_ok T
   mt := fun _ _ _ h => nomatch h
   mkr := fun _ _ _ h => nomatch h
   ib := fun _ _ _ h => nomatch h
   kt := fun _ _ h => nomatch h
   i2 := fun _ _ _ _ h => nomatch h }
theorem k_common_divisor (T : Tx w K mg) : FK P w K mg base 1 "common_divisor" 2 m_common_divisor := by
  obtain ⟨fd, F⟩ := T.t.c.def_ 7 (d := d_common_divisor) rfl
  exact fk_of (ps := ["one", "other"]) F sc_common_divisor (kn_common_divisor T) (FunD.bindsN (ps := ["one", "other"]) F fun _ _ _ _ _ _ us hl => match us, hl with | [_, _], _ => rfl) (T.t.glo _ (T.t.c.fact 7 (f := .glo "common_divisor") rfl)) (by decide) b_common_divisor
theorem kn_part_of (T : Tx w K mg) : Kn P w K mg base 1 G_part_of where
  fns := fun x m sem h => by
    have h : (if x = "common_divisor" ∧ m = 2 then some m_common_divisor else none) = some sem := h
    rcases ite_cs h with ⟨ec, h⟩ | h
    · obtain ⟨rfl, rfl⟩ := ec
      cases h
      exact (k_common_divisor T).mono (by omega)
    · cases h
  bl := bl_ok T
  cn := fun _ _ h => nomatch h
  cl := fun _ _ h => nomatch h
  rz := fun x h => by
    simp only [G_part_of, List.mem_cons, List.not_mem_nil, or_false] at h
    rcases h with rfl
    · exact rz_NoPart T
  xm := fun _ _ h => nomatch h
  ob := {
   fo := fo_ok T
   mt := fun _ _ _ h => nomatch h
   mkr := fun _ _ _ h => nomatch h
   ib := fun _ _ _ h => nomatch h
   kt := fun _ _ h => nomatch h
   i2 := fun _ _ _ _ h => nomatch h }
theorem k_part_of (T : Tx w K mg) : FK P w K mg base 2 "part_of" 2 m_part_of := by
  obtain ⟨fd, F⟩ := T.t.c.def_ 8 (d := d_part_of) rfl
  have hb := FunD.binds1 (ps := ["top", "bottom"]) F 2 1 (List.cons_ne_nil _ _) rfl fun _ _ _ _ _ _ _ us its hl hi => match us, its, hl, hi with | [_, _], [_], _, _ => ⟨_, rfl, rfl⟩
  have z := fk_dfl (P := P) (w := w) (base := base) (ps := ["top", "bottom"]) (j := 2) (dus := []) (dd := []) F sc_part_of (kn_part_of T) hb (fun _ => .nil) rfl (T.t.glo _ (T.t.c.fact 8 (f := .glo "part_of") rfl)) (by decide) b_part_of
  have e : (fun as => run G_part_of.N.length c_part_of (as ++ [])) = m_part_of := funext fun as => by rw [List.append_nil]; rfl
  rw [e] at z
  exact z
theorem k_part_of_1 (T : Tx w K mg) : FK P w K mg base 2 "part_of" 1 m_part_of_1 := by
  obtain ⟨fd, F⟩ := T.t.c.def_ 8 (d := d_part_of) rfl
  have hb := FunD.binds1 (ps := ["top", "bottom"]) F 1 0 (List.cons_ne_nil _ _) rfl fun _ _ _ _ _ _ _ us its hl hi => match us, its, hl, hi with | [_], [_], _, _ => ⟨_, rfl, rfl⟩
  have z := fk_dfl (P := P) (w := w) (base := base) (ps := ["top", "bottom"]) (j := 1) (dus := [.int 1]) (dd := [.int 1]) F sc_part_of (kn_part_of T) hb (fun _ => (.cons (.int _) .nil)) rfl (T.t.glo _ (T.t.c.fact 8 (f := .glo "part_of") rfl)) (by decide) b_part_of
  exact z
theorem kn_less (T : Tx w K mg) : Kn P w K mg base 2 G_less where
  fns := fun x m sem h => by
    have h : (if x = "part_of" ∧ m = 2 then some m_part_of else none) = some sem := h
    rcases ite_cs h with ⟨ec, h⟩ | h
    · obtain ⟨rfl, rfl⟩ := ec
      cases h
      exact (k_part_of T).mono (by omega)
    · cases h
  bl := bl_ok T
  cn := fun _ _ h => nomatch h
  cl := fun _ _ h => nomatch h
  rz := fun _ h => nomatch h
  xm := fun _ _ h => nomatch h
  ob := {
   fo := fo_ok T
   mt := fun _ _ _ h => nomatch h
   mkr := fun _ _ _ h => nomatch h
   ib := fun _ _ _ h => nomatch h
   kt := fun _ _ h => nomatch h
   i2 := fun _ _ _ _ h => nomatch h }
theorem k_less (T : Tx w K mg) : FK P w K mg base 3 "less" 2 m_less := by
  obtain ⟨fd, F⟩ := T.t.c.def_ 9 (d := d_less) rfl
  exact fk_of (ps := ["one", "other"]) F sc_less (kn_less T) (FunD.bindsN (ps := ["one", "other"]) F fun _ _ _ _ _ _ us hl => match us, hl with | [_, _], _ => rfl) (T.t.glo _ (T.t.c.fact 9 (f := .glo "less") rfl)) (by decide) b_less
theorem kn_bound_of (T : Tx w K mg) : Kn P w K mg base 2 G_bound_of where
  fns := fun x m sem h => by
    have h : (if x = "part_of" ∧ m = 2 then some m_part_of else none) = some sem := h
    rcases ite_cs h with ⟨ec, h⟩ | h
    · obtain ⟨rfl, rfl⟩ := ec
      cases h
      exact (k_part_of T).mono (by omega)
    · cases h
  bl := bl_ok T
  cn := fun _ _ h => nomatch h
  cl := fun _ _ h => nomatch h
  rz := fun _ h => nomatch h
  xm := fun _ _ h => nomatch h
  ob := {
   fo := fo_ok T
   mt := fun _ _ _ h => nomatch h
   mkr := fun _ _ _ h => nomatch h
   ib := fun _ _ _ h => nomatch h
   kt := fun _ _ h => nomatch h
   i2 := fun _ _ _ _ h => nomatch h }
theorem k_bound_of (T : Tx w K mg) : FK P w K mg base 3 "bound_of" 2 m_bound_of := by
  obtain ⟨fd, F⟩ := T.t.c.def_ 10 (d := d_bound_of) rfl
  exact fk_of (ps := ["item", "grows"]) F sc_bound_of (kn_bound_of T) (FunD.bindsN (ps := ["item", "grows"]) F fun _ _ _ _ _ _ us hl => match us, hl with | [_, _], _ => rfl) (T.t.glo _ (T.t.c.fact 10 (f := .glo "bound_of") rfl)) (by decide) b_bound_of
theorem kn_is_more (T : Tx w K mg) : Kn P w K mg base 0 G_is_more where
  fns := fun _ _ _ h => nomatch h
  bl := bl_ok T
  cn := fun _ _ h => nomatch h
  cl := fun _ _ h => nomatch h
  rz := fun _ h => nomatch h
  xm := fun _ _ h => nomatch h
  ob := {
   fo := fo_ok T
   mt := fun _ _ _ h => nomatch h
   mkr := fun _ _ _ h => nomatch h
   ib := fun _ _ _ h => nomatch h
   kt := fun _ _ h => nomatch h
   i2 := fun _ _ _ _ h => nomatch h }
theorem k_is_more (T : Tx w K mg) : FK P w K mg base 1 "is_more" 2 m_is_more := by
  obtain ⟨fd, F⟩ := T.t.c.def_ 11 (d := d_is_more) rfl
  exact fk_of (ps := ["one", "other"]) F sc_is_more (kn_is_more T) (FunD.bindsN (ps := ["one", "other"]) F fun _ _ _ _ _ _ us hl => match us, hl with | [_, _], _ => rfl) (T.t.glo _ (T.t.c.fact 11 (f := .glo "is_more") rfl)) (by decide) b_is_more
theorem kn_ends_of (T : Tx w K mg) : Kn P w K mg base 3 G_ends_of where
  fns := fun x m sem h => by
    have h : (if x = "bound_of" ∧ m = 2 then some m_bound_of else if x = "is_more" ∧ m = 2 then some m_is_more else none) = some sem := h
    rcases ite_cs h with ⟨ec, h⟩ | h
    · obtain ⟨rfl, rfl⟩ := ec
      cases h
      exact (k_bound_of T).mono (by omega)
    rcases ite_cs h with ⟨ec, h⟩ | h
    · obtain ⟨rfl, rfl⟩ := ec
      cases h
      exact (k_is_more T).mono (by omega)
    · cases h
  bl := bl_ok T
  cn := fun _ _ h => nomatch h
  cl := fun _ _ h => nomatch h
  rz := fun _ h => nomatch h
  xm := fun _ _ h => nomatch h
  ob := {
   fo := fo_ok T
   mt := fun _ _ _ h => nomatch h
   mkr := fun _ _ _ h => nomatch h
   ib := fun _ _ _ h => nomatch h
   kt := fun _ _ h => nomatch h
   i2 := fun _ _ _ _ h => nomatch h }
theorem k_ends_of (T : Tx w K mg) : FK P w K mg base 4 "ends_of" 2 m_ends_of := by
  obtain ⟨fd, F⟩ := T.t.c.def_ 12 (d := d_ends_of) rfl
  exact fk_of (ps := ["items", "grows"]) F sc_ends_of (kn_ends_of T) (FunD.bindsN (ps := ["items", "grows"]) F fun _ _ _ _ _ _ us hl => match us, hl with | [_, _], _ => rfl) (T.t.glo _ (T.t.c.fact 12 (f := .glo "ends_of") rfl)) (by decide) b_ends_of
theorem kn_weight_of (T : Tx w K mg) : Kn P w K mg base 0 G_weight_of where
  fns := fun _ _ _ h => nomatch h
  bl := bl_ok T
  cn := fun _ _ h => nomatch h
  cl := fun _ _ h => nomatch h
  rz := fun _ h => nomatch h
  xm := fun _ _ h => nomatch h
  ob := {
   fo := fo_ok T
   mt := fun _ _ _ h => nomatch h
   mkr := fun _ _ _ h => nomatch h
   ib := fun _ _ _ h => nomatch h
   kt := fun _ _ h => nomatch h
   i2 := fun _ _ _ _ h => nomatch h }
theorem k_weight_of (T : Tx w K mg) : FK P w K mg base 1 "weight_of" 2 m_weight_of := by
  obtain ⟨fd, F⟩ := T.t.c.def_ 13 (d := d_weight_of) rfl
  exact fk_of (ps := ["item", "grows"]) F sc_weight_of (kn_weight_of T) (FunD.bindsN (ps := ["item", "grows"]) F fun _ _ _ _ _ _ us hl => match us, hl with | [_, _], _ => rfl) (T.t.glo _ (T.t.c.fact 13 (f := .glo "weight_of") rfl)) (by decide) b_weight_of
theorem kn_weight_beyond (T : Tx w K mg) : Kn P w K mg base 3 G_weight_beyond where
  fns := fun x m sem h => by
    have h : (if x = "bound_of" ∧ m = 2 then some m_bound_of else if x = "is_more" ∧ m = 2 then some m_is_more else if x = "weight_of" ∧ m = 2 then some m_weight_of else none) = some sem := h
    rcases ite_cs h with ⟨ec, h⟩ | h
    · obtain ⟨rfl, rfl⟩ := ec
      cases h
      exact (k_bound_of T).mono (by omega)
    rcases ite_cs h with ⟨ec, h⟩ | h
    · obtain ⟨rfl, rfl⟩ := ec
      cases h
      exact (k_is_more T).mono (by omega)
    rcases ite_cs h with ⟨ec, h⟩ | h
    · obtain ⟨rfl, rfl⟩ := ec
      cases h
      exact (k_weight_of T).mono (by omega)
    · cases h
  bl := bl_ok T
  cn := fun _ _ h => nomatch h
  cl := fun _ _ h => nomatch h
  rz := fun _ h => nomatch h
  xm := fun _ _ h => nomatch h
  ob := {
   fo := fo_ok T
   mt := fun _ _ _ h => nomatch h
   mkr := fun _ _ _ h => nomatch h
   ib := fun _ _ _ h => nomatch h
   kt := fun _ _ h => nomatch h
   i2 := fun _ _ _ _ h => nomatch h }
theorem k_weight_beyond (T : Tx w K mg) : FK P w K mg base 4 "weight_beyond" 3 m_weight_beyond := by
  obtain ⟨fd, F⟩ := T.t.c.def_ 14 (d := d_weight_beyond) rfl
  exact fk_of (ps := ["items", "grows", "far"]) F sc_weight_beyond (kn_weight_beyond T) (FunD.bindsN (ps := ["items", "grows", "far"]) F fun _ _ _ _ _ _ us hl => match us, hl with | [_, _, _], _ => rfl) (T.t.glo _ (T.t.c.fact 14 (f := .glo "weight_beyond") rfl)) (by decide) b_weight_beyond
theorem kn_product (T : Tx w K mg) : Kn P w K mg base 2 G_product where
  fns := fun x m sem h => by
    have h : (if x = "part_of" ∧ m = 2 then some m_part_of else none) = some sem := h
    rcases ite_cs h with ⟨ec, h⟩ | h
    · obtain ⟨rfl, rfl⟩ := ec
      cases h
      exact (k_part_of T).mono (by omega)
    · cases h
  bl := bl_ok T
  cn := fun _ _ h => nomatch h
  cl := fun _ _ h => nomatch h
  rz := fun _ h => nomatch h
  xm := fun _ _ h => nomatch h
  ob := {
   fo := fo_ok T
   mt := fun _ _ _ h => nomatch h
   mkr := fun _ _ _ h => nomatch h
   ib := fun _ _ _ h => nomatch h
   kt := fun _ _ h => nomatch h
   i2 := fun _ _ _ _ h => nomatch h }
theorem k_product (T : Tx w K mg) : FK P w K mg base 3 "product" 2 m_product := by
  obtain ⟨fd, F⟩ := T.t.c.def_ 15 (d := d_product) rfl
  exact fk_of (ps := ["one", "other"]) F sc_product (kn_product T) (FunD.bindsN (ps := ["one", "other"]) F fun _ _ _ _ _ _ us hl => match us, hl with | [_, _], _ => rfl) (T.t.glo _ (T.t.c.fact 15 (f := .glo "product") rfl)) (by decide) b_product
theorem kn_added (T : Tx w K mg) : Kn P w K mg base 2 G_added where
  fns := fun x m sem h => by
    have h : (if x = "part_of" ∧ m = 2 then some m_part_of else none) = some sem := h
    rcases ite_cs h with ⟨ec, h⟩ | h
    · obtain ⟨rfl, rfl⟩ := ec
      cases h
      exact (k_part_of T).mono (by omega)
    · cases h
  bl := bl_ok T
  cn := fun _ _ h => nomatch h
  cl := fun _ _ h => nomatch h
  rz := fun _ h => nomatch h
  xm := fun _ _ h => nomatch h
  ob := {
   fo := fo_ok T
   mt := fun _ _ _ h => nomatch h
   mkr := fun _ _ _ h => nomatch h
   ib := fun _ _ _ h => nomatch h
   kt := fun _ _ h => nomatch h
   i2 := fun _ _ _ _ h => nomatch h }
theorem k_added (T : Tx w K mg) : FK P w K mg base 3 "added" 2 m_added := by
  obtain ⟨fd, F⟩ := T.t.c.def_ 16 (d := d_added) rfl
  exact fk_of (ps := ["one", "other"]) F sc_added (kn_added T) (FunD.bindsN (ps := ["one", "other"]) F fun _ _ _ _ _ _ us hl => match us, hl with | [_, _], _ => rfl) (T.t.glo _ (T.t.c.fact 16 (f := .glo "added") rfl)) (by decide) b_added
theorem kn_quotient (T : Tx w K mg) : Kn P w K mg base 2 G_quotient where
  fns := fun x m sem h => by
    have h : (if x = "part_of" ∧ m = 2 then some m_part_of else none) = some sem := h
    rcases ite_cs h with ⟨ec, h⟩ | h
    · obtain ⟨rfl, rfl⟩ := ec
      cases h
      exact (k_part_of T).mono (by omega)
    · cases h
  bl := bl_ok T
  cn := fun _ _ h => nomatch h
  cl := fun _ _ h => nomatch h
  rz := fun _ h => nomatch h
  xm := fun _ _ h => nomatch h
  ob := {
   fo := fo_ok T
   mt := fun _ _ _ h => nomatch h
   mkr := fun _ _ _ h => nomatch h
   ib := fun _ _ _ h => nomatch h
   kt := fun _ _ h => nomatch h
   i2 := fun _ _ _ _ h => nomatch h }
theorem k_quotient (T : Tx w K mg) : FK P w K mg base 3 "quotient" 2 m_quotient := by
  obtain ⟨fd, F⟩ := T.t.c.def_ 17 (d := d_quotient) rfl
  exact fk_of (ps := ["one", "other"]) F sc_quotient (kn_quotient T) (FunD.bindsN (ps := ["one", "other"]) F fun _ _ _ _ _ _ us hl => match us, hl with | [_, _], _ => rfl) (T.t.glo _ (T.t.c.fact 17 (f := .glo "quotient") rfl)) (by decide) b_quotient
theorem kn_far_share (T : Tx w K mg) : Kn P w K mg base 4 G_far_share where
  fns := fun x m sem h => by
    have h : (if x = "ends_of" ∧ m = 2 then some m_ends_of else if x = "part_of" ∧ m = 1 then some m_part_of_1 else if x = "weight_beyond" ∧ m = 3 then some m_weight_beyond else if x = "product" ∧ m = 2 then some m_product else if x = "less" ∧ m = 2 then some m_less else if x = "is_more" ∧ m = 2 then some m_is_more else if x = "added" ∧ m = 2 then some m_added else if x = "quotient" ∧ m = 2 then some m_quotient else none) = some sem := h
    rcases ite_cs h with ⟨ec, h⟩ | h
    · obtain ⟨rfl, rfl⟩ := ec
      cases h
      exact (k_ends_of T).mono (by omega)
    rcases ite_cs h with ⟨ec, h⟩ | h
    · obtain ⟨rfl, rfl⟩ := ec
      cases h
      exact (k_part_of_1 T).mono (by omega)
    rcases ite_cs h with ⟨ec, h⟩ | h
    · obtain ⟨rfl, rfl⟩ := ec
      cases h
      exact (k_weight_beyond T).mono (by omega)
    rcases ite_cs h with ⟨ec, h⟩ | h
    · obtain ⟨rfl, rfl⟩ := ec
      cases h
      exact (k_product T).mono (by omega)
    rcases ite_cs h with ⟨ec, h⟩ | h
    · obtain ⟨rfl, rfl⟩ := ec
      cases h
      exact (k_less T).mono (by omega)
    rcases ite_cs h with ⟨ec, h⟩ | h
    · obtain ⟨rfl, rfl⟩ := ec
      cases h
      exact (k_is_more T).mono (by omega)
    rcases ite_cs h with ⟨ec, h⟩ | h
    · obtain ⟨rfl, rfl⟩ := ec
      cases h
      exact (k_added T).mono (by omega)
    rcases ite_cs h with ⟨ec, h⟩ | h
    · obtain ⟨rfl, rfl⟩ := ec
      cases h
      exact (k_quotient T).mono (by omega)
    · cases h
  bl := bl_ok T
  cn := fun x d h => by
    have h : (if x = "NOUGHT_sharing" then some (.tup [.int 0, .int 1]) else none) = some d := h
    rcases ite_cs h with ⟨ec, h⟩ | h
    · subst ec
      cases h
      exact cn_NOUGHT_sharing T
    · cases h
  cl := fun _ _ h => nomatch h
  rz := fun _ h => nomatch h
  xm := fun _ _ h => nomatch h
  ob := {
   fo := fo_ok T
   mt := fun _ _ _ h => nomatch h
   mkr := fun _ _ _ h => nomatch h
   ib := fun _ _ _ h => nomatch h
   kt := fun _ _ h => nomatch h
   i2 := fun _ _ _ _ h => nomatch h }
theorem k_far_share (T : Tx w K mg) : FK P w K mg base 5 "far_share" 3 m_far_share := by
  obtain ⟨fd, F⟩ := T.t.c.def_ 18 (d := d_far_share) rfl
  exact fk_of (ps := ["items", "grows", "lack"]) F sc_far_share (kn_far_share T) (FunD.bindsN (ps := ["items", "grows", "lack"]) F fun _ _ _ _ _ _ us hl => match us, hl with | [_, _, _], _ => rfl) (T.t.glo _ (T.t.c.fact 18 (f := .glo "far_share") rfl)) (by decide) b_far_share
theorem kn_share_of (T : Tx w K mg) : Kn P w K mg base 5 G_share_of where
  fns := fun x m sem h => by
    have h : (if x = "less" ∧ m = 2 then some m_less else if x = "part_of" ∧ m = 1 then some m_part_of_1 else if x = "far_share" ∧ m = 3 then some m_far_share else none) = some sem := h
    rcases ite_cs h with ⟨ec, h⟩ | h
    · obtain ⟨rfl, rfl⟩ := ec
      cases h
      exact (k_less T).mono (by omega)
    rcases ite_cs h with ⟨ec, h⟩ | h
    · obtain ⟨rfl, rfl⟩ := ec
      cases h
      exact (k_part_of_1 T).mono (by omega)
    rcases ite_cs h with ⟨ec, h⟩ | h
    · obtain ⟨rfl, rfl⟩ := ec
      cases h
      exact (k_far_share T).mono (by omega)
    · cases h
  bl := bl_ok T
  cn := fun x d h => by
    have h : (if x = "NOUGHT_sharing" then some (.tup [.int 0, .int 1]) else none) = some d := h
    rcases ite_cs h with ⟨ec, h⟩ | h
    · subst ec
      cases h
      exact cn_NOUGHT_sharing T
    · cases h
  cl := fun _ _ h => nomatch h
  rz := fun _ h => nomatch h
  xm := fun _ _ h => nomatch h
  ob := {
   fo := fo_ok T
   mt := fun _ _ _ h => nomatch h
   mkr := fun _ _ _ h => nomatch h
   ib := fun _ _ _ h => nomatch h
   kt := fun _ _ h => nomatch h
   i2 := fun _ _ _ _ h => nomatch h }
theorem k_share_of (T : Tx w K mg) : FK P w K mg base 6 "share_of" 2 m_share_of := by
  obtain ⟨fd, F⟩ := T.t.c.def_ 19 (d := d_share_of) rfl
  exact fk_of (ps := ["items", "room"]) F sc_share_of (kn_share_of T) (FunD.bindsN (ps := ["items", "room"]) F fun _ _ _ _ _ _ us hl => match us, hl with | [_, _], _ => rfl) (T.t.glo _ (T.t.c.fact 19 (f := .glo "share_of") rfl)) (by decide) b_share_of
theorem kn_greater (T : Tx w K mg) : Kn P w K mg base 1 G_greater where
  fns := fun x m sem h => by
    have h : (if x = "is_more" ∧ m = 2 then some m_is_more else none) = some sem := h
    rcases ite_cs h with ⟨ec, h⟩ | h
    · obtain ⟨rfl, rfl⟩ := ec
      cases h
      exact (k_is_more T).mono (by omega)
    · cases h
  bl := bl_ok T
  cn := fun _ _ h => nomatch h
  cl := fun _ _ h => nomatch h
  rz := fun _ h => nomatch h
  xm := fun _ _ h => nomatch h
  ob := {
   fo := fo_ok T
   mt := fun _ _ _ h => nomatch h
   mkr := fun _ _ _ h => nomatch h
   ib := fun _ _ _ h => nomatch h
   kt := fun _ _ h => nomatch h
   i2 := fun _ _ _ _ h => nomatch h }
theorem k_greater (T : Tx w K mg) : FK P w K mg base 2 "greater" 2 m_greater := by
  obtain ⟨fd, F⟩ := T.t.c.def_ 20 (d := d_greater) rfl
  exact fk_of (ps := ["one", "other"]) F sc_greater (kn_greater T) (FunD.bindsN (ps := ["one", "other"]) F fun _ _ _ _ _ _ us hl => match us, hl with | [_, _], _ => rfl) (T.t.glo _ (T.t.c.fact 20 (f := .glo "greater") rfl)) (by decide) b_greater
theorem kn_lesser (T : Tx w K mg) : Kn P w K mg base 1 G_lesser where
  fns := fun x m sem h => by
    have h : (if x = "is_more" ∧ m = 2 then some m_is_more else none) = some sem := h
    rcases ite_cs h with ⟨ec, h⟩ | h
    · obtain ⟨rfl, rfl⟩ := ec
      cases h
      exact (k_is_more T).mono (by omega)
    · cases h
  bl := bl_ok T
  cn := fun _ _ h => nomatch h
  cl := fun _ _ h => nomatch h
  rz := fun _ h => nomatch h
  xm := fun _ _ h => nomatch h
  ob := {
   fo := fo_ok T
   mt := fun _ _ _ h => nomatch h
   mkr := fun _ _ _ h => nomatch h
   ib := fun _ _ _ h => nomatch h
   kt := fun _ _ h => nomatch h
   i2 := fun _ _ _ _ h => nomatch h }
theorem k_lesser (T : Tx w K mg) : FK P w K mg base 2 "lesser" 2 m_lesser := by
  obtain ⟨fd, F⟩ := T.t.c.def_ 21 (d := d_lesser) rfl
  exact fk_of (ps := ["one", "other"]) F sc_lesser (kn_lesser T) (FunD.bindsN (ps := ["one", "other"]) F fun _ _ _ _ _ _ us hl => match us, hl with | [_, _], _ => rfl) (T.t.glo _ (T.t.c.fact 21 (f := .glo "lesser") rfl)) (by decide) b_lesser
theorem kn_width_at (T : Tx w K mg) : Kn P w K mg base 3 G_width_at where
  fns := fun x m sem h => by
    have h : (if x = "is_item" ∧ m = 1 then some m_is_item else if x = "greater" ∧ m = 2 then some m_greater else if x = "part_of" ∧ m = 1 then some m_part_of_1 else if x = "added" ∧ m = 2 then some m_added else if x = "product" ∧ m = 2 then some m_product else if x = "lesser" ∧ m = 2 then some m_lesser else none) = some sem := h
    rcases ite_cs h with ⟨ec, h⟩ | h
    · obtain ⟨rfl, rfl⟩ := ec
      cases h
      exact (k_is_item T).mono (by omega)
    rcases ite_cs h with ⟨ec, h⟩ | h
    · obtain ⟨rfl, rfl⟩ := ec
      cases h
      exact (k_greater T).mono (by omega)
    rcases ite_cs h with ⟨ec, h⟩ | h
    · obtain ⟨rfl, rfl⟩ := ec
      cases h
      exact (k_part_of_1 T).mono (by omega)
    rcases ite_cs h with ⟨ec, h⟩ | h
    · obtain ⟨rfl, rfl⟩ := ec
      cases h
      exact (k_added T).mono (by omega)
    rcases ite_cs h with ⟨ec, h⟩ | h
    · obtain ⟨rfl, rfl⟩ := ec
      cases h
      exact (k_product T).mono (by omega)
    rcases ite_cs h with ⟨ec, h⟩ | h
    · obtain ⟨rfl, rfl⟩ := ec
      cases h
      exact (k_lesser T).mono (by omega)
    · cases h
  bl := bl_ok T
  cn := fun _ _ h => nomatch h
  cl := fun _ _ h => nomatch h
  rz := fun x h => by
    simp only [G_width_at, List.mem_cons, List.not_mem_nil, or_false] at h
    rcases h with rfl
    · exact rz_NoItem T
  xm := fun _ _ h => nomatch h
  ob := {
   fo := fo_ok T
   mt := fun _ _ _ h => nomatch h
   mkr := fun _ _ _ h => nomatch h
   ib := fun _ _ _ h => nomatch h
   kt := fun _ _ h => nomatch h
   i2 := fun _ _ _ _ h => nomatch h }
theorem k_width_at (T : Tx w K mg) : FK P w K mg base 4 "width_at" 2 m_width_at := by
  obtain ⟨fd, F⟩ := T.t.c.def_ 22 (d := d_width_at) rfl
  exact fk_of (ps := ["item", "share"]) F sc_width_at (kn_width_at T) (FunD.bindsN (ps := ["item", "share"]) F fun _ _ _ _ _ _ us hl => match us, hl with | [_, _], _ => rfl) (T.t.glo _ (T.t.c.fact 22 (f := .glo "width_at") rfl)) (by decide) b_width_at
theorem kn_total_of (T : Tx w K mg) : Kn P w K mg base 3 G_total_of where
  fns := fun x m sem h => by
    have h : (if x = "added" ∧ m = 2 then some m_added else none) = some sem := h
    rcases ite_cs h with ⟨ec, h⟩ | h
    · obtain ⟨rfl, rfl⟩ := ec
      cases h
      exact (k_added T).mono (by omega)
    · cases h
  bl := bl_ok T
  cn := fun x d h => by
    have h : (if x = "NOUGHT_sharing" then some (.tup [.int 0, .int 1]) else none) = some d := h
    rcases ite_cs h with ⟨ec, h⟩ | h
    · subst ec
      cases h
      exact cn_NOUGHT_sharing T
    · cases h
  cl := fun _ _ h => nomatch h
  rz := fun _ h => nomatch h
  xm := fun _ _ h => nomatch h
  ob := {
   fo := fo_ok T
   mt := fun _ _ _ h => nomatch h
   mkr := fun _ _ _ h => nomatch h
   ib := fun _ _ _ h => nomatch h
   kt := fun _ _ h => nomatch h
   i2 := fun _ _ _ _ h => nomatch h }
theorem k_total_of (T : Tx w K mg) : FK P w K mg base 4 "total_of" 1 m_total_of := by
  obtain ⟨fd, F⟩ := T.t.c.def_ 23 (d := d_total_of) rfl
  exact fk_of (ps := ["widths"]) F sc_total_of (kn_total_of T) (FunD.bindsN (ps := ["widths"]) F fun _ _ _ _ _ _ us hl => match us, hl with | [_], _ => rfl) (T.t.glo _ (T.t.c.fact 23 (f := .glo "total_of") rfl)) (by decide) b_total_of
theorem kn_changes_from (T : Tx w K mg) : Kn P w K mg base 3 G_changes_from where
  fns := fun x m sem h => by
    have h : (if x = "bound_of" ∧ m = 2 then some m_bound_of else if x = "is_more" ∧ m = 2 then some m_is_more else if x = "less" ∧ m = 2 then some m_less else none) = some sem := h
    rcases ite_cs h with ⟨ec, h⟩ | h
    · obtain ⟨rfl, rfl⟩ := ec
      cases h
      exact (k_bound_of T).mono (by omega)
    rcases ite_cs h with ⟨ec, h⟩ | h
    · obtain ⟨rfl, rfl⟩ := ec
      cases h
      exact (k_is_more T).mono (by omega)
    rcases ite_cs h with ⟨ec, h⟩ | h
    · obtain ⟨rfl, rfl⟩ := ec
      cases h
      exact (k_less T).mono (by omega)
    · cases h
  bl := bl_ok T
  cn := fun x d h => by
    have h : (if x = "NOUGHT_widths" then some (.tup [.int 0, .int 1]) else none) = some d := h
    rcases ite_cs h with ⟨ec, h⟩ | h
    · subst ec
      cases h
      exact cn_NOUGHT_widths T
    · cases h
  cl := fun _ _ h => nomatch h
  rz := fun _ h => nomatch h
  xm := fun _ _ h => nomatch h
  ob := {
   fo := fo_ok T
   mt := fun _ _ _ h => nomatch h
   mkr := fun _ _ _ h => nomatch h
   ib := fun _ _ _ h => nomatch h
   kt := fun _ _ h => nomatch h
   i2 := fun _ _ _ _ h => nomatch h }
theorem k_changes_from (T : Tx w K mg) : FK P w K mg base 4 "changes_from" 2 m_changes_from := by
  obtain ⟨fd, F⟩ := T.t.c.def_ 24 (d := d_changes_from) rfl
  exact fk_of (ps := ["item", "share"]) F sc_changes_from (kn_changes_from T) (FunD.bindsN (ps := ["item", "share"]) F fun _ _ _ _ _ _ us hl => match us, hl with | [_, _], _ => rfl) (T.t.glo _ (T.t.c.fact 24 (f := .glo "changes_from") rfl)) (by decide) b_changes_from
theorem kn_first_of (T : Tx w K mg) : Kn P w K mg base 2 G_first_of where
  fns := fun x m sem h => by
    have h : (if x = "lesser" ∧ m = 2 then some m_lesser else none) = some sem := h
    rcases ite_cs h with ⟨ec, h⟩ | h
    · obtain ⟨rfl, rfl⟩ := ec
      cases h
      exact (k_lesser T).mono (by omega)
    · cases h
  bl := bl_ok T
  cn := fun _ _ h => nomatch h
  cl := fun _ _ h => nomatch h
  rz := fun _ h => nomatch h
  xm := fun _ _ h => nomatch h
  ob := {
   fo := fo_ok T
   mt := fun _ _ _ h => nomatch h
   mkr := fun _ _ _ h => nomatch h
   ib := fun _ _ _ h => nomatch h
   kt := fun _ _ h => nomatch h
   i2 := fun _ _ _ _ h => nomatch h }
theorem k_first_of (T : Tx w K mg) : FK P w K mg base 3 "first_of" 2 m_first_of := by
  obtain ⟨fd, F⟩ := T.t.c.def_ 25 (d := d_first_of) rfl
  exact fk_of (ps := ["one", "other"]) F sc_first_of (kn_first_of T) (FunD.bindsN (ps := ["one", "other"]) F fun _ _ _ _ _ _ us hl => match us, hl with | [_, _], _ => rfl) (T.t.glo _ (T.t.c.fact 25 (f := .glo "first_of") rfl)) (by decide) b_first_of
theorem kn_line_from (T : Tx w K mg) : Kn P w K mg base 3 G_line_from where
  fns := fun x m sem h => by
    have h : (if x = "less" ∧ m = 2 then some m_less else if x = "product" ∧ m = 2 then some m_product else none) = some sem := h
    rcases ite_cs h with ⟨ec, h⟩ | h
    · obtain ⟨rfl, rfl⟩ := ec
      cases h
      exact (k_less T).mono (by omega)
    rcases ite_cs h with ⟨ec, h⟩ | h
    · obtain ⟨rfl, rfl⟩ := ec
      cases h
      exact (k_product T).mono (by omega)
    · cases h
  bl := bl_ok T
  cn := fun _ _ h => nomatch h
  cl := fun _ _ h => nomatch h
  rz := fun _ h => nomatch h
  xm := fun _ _ h => nomatch h
  ob := {
   fo := fo_ok T
   mt := fun _ _ _ h => nomatch h
   mkr := fun _ _ _ h => nomatch h
   ib := fun _ _ _ h => nomatch h
   kt := fun _ _ h => nomatch h
   i2 := fun _ _ _ _ h => nomatch h }
theorem k_line_from (T : Tx w K mg) : FK P w K mg base 4 "line_from" 3 m_line_from := by
  obtain ⟨fd, F⟩ := T.t.c.def_ 26 (d := d_line_from) rfl
  exact fk_of (ps := ["width", "growth", "room"]) F sc_line_from (kn_line_from T) (FunD.bindsN (ps := ["width", "growth", "room"]) F fun _ _ _ _ _ _ us hl => match us, hl with | [_, _, _], _ => rfl) (T.t.glo _ (T.t.c.fact 26 (f := .glo "line_from") rfl)) (by decide) b_line_from
theorem kn_share_at (T : Tx w K mg) : Kn P w K mg base 6 G_share_at where
  fns := fun x m sem h => by
    have h : (if x = "share_of" ∧ m = 2 then some m_share_of else if x = "width_at" ∧ m = 2 then some m_width_at else if x = "total_of" ∧ m = 1 then some m_total_of else if x = "is_more" ∧ m = 2 then some m_is_more else if x = "changes_from" ∧ m = 2 then some m_changes_from else if x = "first_of" ∧ m = 2 then some m_first_of else if x = "line_from" ∧ m = 3 then some m_line_from else if x = "part_of" ∧ m = 2 then some m_part_of else if x = "added" ∧ m = 2 then some m_added else if x = "product" ∧ m = 2 then some m_product else if x = "less" ∧ m = 2 then some m_less else if x = "part_of" ∧ m = 1 then some m_part_of_1 else none) = some sem := h
    rcases ite_cs h with ⟨ec, h⟩ | h
    · obtain ⟨rfl, rfl⟩ := ec
      cases h
      exact (k_share_of T).mono (by omega)
    rcases ite_cs h with ⟨ec, h⟩ | h
    · obtain ⟨rfl, rfl⟩ := ec
      cases h
      exact (k_width_at T).mono (by omega)
    rcases ite_cs h with ⟨ec, h⟩ | h
    · obtain ⟨rfl, rfl⟩ := ec
      cases h
      exact (k_total_of T).mono (by omega)
    rcases ite_cs h with ⟨ec, h⟩ | h
    · obtain ⟨rfl, rfl⟩ := ec
      cases h
      exact (k_is_more T).mono (by omega)
    rcases ite_cs h with ⟨ec, h⟩ | h
    · obtain ⟨rfl, rfl⟩ := ec
      cases h
      exact (k_changes_from T).mono (by omega)
    rcases ite_cs h with ⟨ec, h⟩ | h
    · obtain ⟨rfl, rfl⟩ := ec
      cases h
      exact (k_first_of T).mono (by omega)
    rcases ite_cs h with ⟨ec, h⟩ | h
    · obtain ⟨rfl, rfl⟩ := ec
      cases h
      exact (k_line_from T).mono (by omega)
    rcases ite_cs h with ⟨ec, h⟩ | h
    · obtain ⟨rfl, rfl⟩ := ec
      cases h
      exact (k_part_of T).mono (by omega)
    rcases ite_cs h with ⟨ec, h⟩ | h
    · obtain ⟨rfl, rfl⟩ := ec
      cases h
      exact (k_added T).mono (by omega)
    rcases ite_cs h with ⟨ec, h⟩ | h
    · obtain ⟨rfl, rfl⟩ := ec
      cases h
      exact (k_product T).mono (by omega)
    rcases ite_cs h with ⟨ec, h⟩ | h
    · obtain ⟨rfl, rfl⟩ := ec
      cases h
      exact (k_less T).mono (by omega)
    rcases ite_cs h with ⟨ec, h⟩ | h
    · obtain ⟨rfl, rfl⟩ := ec
      cases h
      exact (k_part_of_1 T).mono (by omega)
    · cases h
  bl := bl_ok T
  cn := fun x d h => by
    have h : (if x = "NOUGHT_widths" then some (.tup [.int 0, .int 1]) else none) = some d := h
    rcases ite_cs h with ⟨ec, h⟩ | h
    · subst ec
      cases h
      exact cn_NOUGHT_widths T
    · cases h
  cl := fun _ _ h => nomatch h
  rz := fun _ h => nomatch h
  xm := fun _ _ h => nomatch h
  ob := {
   fo := fo_ok T
   mt := fun _ _ _ h => nomatch h
   mkr := fun _ _ _ h => nomatch h
   ib := fun _ _ _ h => nomatch h
   kt := fun _ _ h => nomatch h
   i2 := fun _ _ _ _ h => nomatch h }
theorem k_share_at (T : Tx w K mg) : FK P w K mg base 7 "share_at" 2 m_share_at := by
  obtain ⟨fd, F⟩ := T.t.c.def_ 27 (d := d_share_at) rfl
  exact fk_of (ps := ["items", "room"]) F sc_share_at (kn_share_at T) (FunD.bindsN (ps := ["items", "room"]) F fun _ _ _ _ _ _ us hl => match us, hl with | [_, _], _ => rfl) (T.t.glo _ (T.t.c.fact 27 (f := .glo "share_at") rfl)) (by decide) b_share_at
theorem kn_share_pieces (T : Tx w K mg) : Kn P w K mg base 7 G_share_pieces where
  fns := fun x m sem h => by
    have h : (if x = "need_items" ∧ m = 1 then some m_need_items else if x = "share_at" ∧ m = 2 then some m_share_at else none) = some sem := h
    rcases ite_cs h with ⟨ec, h⟩ | h
    · obtain ⟨rfl, rfl⟩ := ec
      cases h
      exact (k_need_items T).mono (by omega)
    rcases ite_cs h with ⟨ec, h⟩ | h
    · obtain ⟨rfl, rfl⟩ := ec
      cases h
      exact (k_share_at T).mono (by omega)
    · cases h
  bl := bl_ok T
  cn := fun x d h => by
    have h : (if x = "NOUGHT_widths" then some (.tup [.int 0, .int 1]) else none) = some d := h
    rcases ite_cs h with ⟨ec, h⟩ | h
    · subst ec
      cases h
      exact cn_NOUGHT_widths T
    · cases h
  cl := fun _ _ h => nomatch h
  rz := fun _ h => nomatch h
  xm := fun _ _ h => nomatch h
  ob := {
   fo := fo_ok T
   mt := fun _ _ _ h => nomatch h
   mkr := fun _ _ _ h => nomatch h
   ib := fun _ _ _ h => nomatch h
   kt := fun _ _ h => nomatch h
   i2 := fun _ _ _ _ h => nomatch h }
theorem k_share_pieces (T : Tx w K mg) : FK P w K mg base 8 "share_pieces" 1 m_share_pieces := by
  obtain ⟨fd, F⟩ := T.t.c.def_ 28 (d := d_share_pieces) rfl
  exact fk_of (ps := ["items"]) F sc_share_pieces (kn_share_pieces T) (FunD.bindsN (ps := ["items"]) F fun _ _ _ _ _ _ us hl => match us, hl with | [_], _ => rfl) (T.t.glo _ (T.t.c.fact 28 (f := .glo "share_pieces") rfl)) (by decide) b_share_pieces
theorem kn_law_part (T : Tx w K mg) : Kn P w K mg base 0 G_law_part where
  fns := fun _ _ _ h => nomatch h
  bl := bl_ok T
  cn := fun _ _ h => nomatch h
  cl := fun _ _ h => nomatch h
  rz := fun _ h => nomatch h
  xm := fun _ _ h => nomatch h
  ob := {
   fo := fo_ok T
   mt := fun _ _ _ h => nomatch h
   mkr := fun _ _ _ h => nomatch h
   ib := fun _ _ _ h => nomatch h
   kt := fun _ _ h => nomatch h
   i2 := fun _ _ _ _ h => nomatch h }
theorem k_law_part (T : Tx w K mg) : FK P w K mg base 1 "_law_part" 2 m_law_part := by
  obtain ⟨fd, F⟩ := T.t.c.def_ 29 (d := d_law_part) rfl
  exact fk_of (ps := ["_law_top", "_law_bottom"]) F sc_law_part (kn_law_part T) (FunD.bindsN (ps := ["_law_top", "_law_bottom"]) F fun _ _ _ _ _ _ us hl => match us, hl with | [_, _], _ => rfl) (T.t.glo _ (T.t.c.fact 29 (f := .glo "_law_part") rfl)) (by decide) b_law_part
theorem kn_law_sum (T : Tx w K mg) : Kn P w K mg base 1 G_law_sum where
  fns := fun x m sem h => by
    have h : (if x = "_law_part" ∧ m = 2 then some m_law_part else none) = some sem := h
    rcases ite_cs h with ⟨ec, h⟩ | h
    · obtain ⟨rfl, rfl⟩ := ec
      cases h
      exact (k_law_part T).mono (by omega)
    · cases h
  bl := bl_ok T
  cn := fun _ _ h => nomatch h
  cl := fun _ _ h => nomatch h
  rz := fun _ h => nomatch h
  xm := fun _ _ h => nomatch h
  ob := {
   fo := fo_ok T
   mt := fun _ _ _ h => nomatch h
   mkr := fun _ _ _ h => nomatch h
   ib := fun _ _ _ h => nomatch h
   kt := fun _ _ h => nomatch h
   i2 := fun _ _ _ _ h => nomatch h }
theorem k_law_sum (T : Tx w K mg) : FK P w K mg base 2 "_law_sum" 2 m_law_sum := by
  obtain ⟨fd, F⟩ := T.t.c.def_ 30 (d := d_law_sum) rfl
  exact fk_of (ps := ["_law_one", "_law_other"]) F sc_law_sum (kn_law_sum T) (FunD.bindsN (ps := ["_law_one", "_law_other"]) F fun _ _ _ _ _ _ us hl => match us, hl with | [_, _], _ => rfl) (T.t.glo _ (T.t.c.fact 30 (f := .glo "_law_sum") rfl)) (by decide) b_law_sum
theorem kn_law_growths_right (T : Tx w K mg) : Kn P w K mg base 2 G_law_growths_right where
  fns := fun x m sem h => by
    have h : (if x = "_law_part" ∧ m = 2 then some m_law_part else if x = "_law_sum" ∧ m = 2 then some m_law_sum else none) = some sem := h
    rcases ite_cs h with ⟨ec, h⟩ | h
    · obtain ⟨rfl, rfl⟩ := ec
      cases h
      exact (k_law_part T).mono (by omega)
    rcases ite_cs h with ⟨ec, h⟩ | h
    · obtain ⟨rfl, rfl⟩ := ec
      cases h
      exact (k_law_sum T).mono (by omega)
    · cases h
  bl := bl_ok T
  cn := fun _ _ h => nomatch h
  cl := fun _ _ h => nomatch h
  rz := fun _ h => nomatch h
  xm := fun _ _ h => nomatch h
  ob := {
   fo := fo_ok T
   mt := fun _ _ _ h => nomatch h
   mkr := fun _ _ _ h => nomatch h
   ib := fun _ _ _ h => nomatch h
   kt := fun _ _ h => nomatch h
   i2 := fun _ _ _ _ h => nomatch h }
theorem k_law_growths_right (T : Tx w K mg) : FK P w K mg base 3 "_law_growths_right" 1 m_law_growths_right := by
  obtain ⟨fd, F⟩ := T.t.c.def_ 31 (d := d_law_growths_right) rfl
  exact fk_of (ps := ["_law_lines"]) F sc_law_growths_right (kn_law_growths_right T) (FunD.bindsN (ps := ["_law_lines"]) F fun _ _ _ _ _ _ us hl => match us, hl with | [_], _ => rfl) (T.t.glo _ (T.t.c.fact 31 (f := .glo "_law_growths_right") rfl)) (by decide) b_law_growths_right
theorem kn_law_is_above (T : Tx w K mg) : Kn P w K mg base 0 G_law_is_above where
  fns := fun _ _ _ h => nomatch h
  bl := bl_ok T
  cn := fun _ _ h => nomatch h
  cl := fun _ _ h => nomatch h
  rz := fun _ h => nomatch h
  xm := fun _ _ h => nomatch h
  ob := {
   fo := fo_ok T
   mt := fun _ _ _ h => nomatch h
   mkr := fun _ _ _ h => nomatch h
   ib := fun _ _ _ h => nomatch h
   kt := fun _ _ h => nomatch h
   i2 := fun _ _ _ _ h => nomatch h }
theorem k_law_is_above (T : Tx w K mg) : FK P w K mg base 1 "_law_is_above" 2 m_law_is_above := by
  obtain ⟨fd, F⟩ := T.t.c.def_ 32 (d := d_law_is_above) rfl
  exact fk_of (ps := ["_law_one", "_law_other"]) F sc_law_is_above (kn_law_is_above T) (FunD.bindsN (ps := ["_law_one", "_law_other"]) F fun _ _ _ _ _ _ us hl => match us, hl with | [_, _], _ => rfl) (T.t.glo _ (T.t.c.fact 32 (f := .glo "_law_is_above") rfl)) (by decide) b_law_is_above
theorem kn_law_less (T : Tx w K mg) : Kn P w K mg base 1 G_law_less where
  fns := fun x m sem h => by
    have h : (if x = "_law_part" ∧ m = 2 then some m_law_part else none) = some sem := h
    rcases ite_cs h with ⟨ec, h⟩ | h
    · obtain ⟨rfl, rfl⟩ := ec
      cases h
      exact (k_law_part T).mono (by omega)
    · cases h
  bl := bl_ok T
  cn := fun _ _ h => nomatch h
  cl := fun _ _ h => nomatch h
  rz := fun _ h => nomatch h
  xm := fun _ _ h => nomatch h
  ob := {
   fo := fo_ok T
   mt := fun _ _ _ h => nomatch h
   mkr := fun _ _ _ h => nomatch h
   ib := fun _ _ _ h => nomatch h
   kt := fun _ _ h => nomatch h
   i2 := fun _ _ _ _ h => nomatch h }
theorem k_law_less (T : Tx w K mg) : FK P w K mg base 2 "_law_less" 2 m_law_less := by
  obtain ⟨fd, F⟩ := T.t.c.def_ 33 (d := d_law_less) rfl
  exact fk_of (ps := ["_law_one", "_law_other"]) F sc_law_less (kn_law_less T) (FunD.bindsN (ps := ["_law_one", "_law_other"]) F fun _ _ _ _ _ _ us hl => match us, hl with | [_, _], _ => rfl) (T.t.glo _ (T.t.c.fact 33 (f := .glo "_law_less") rfl)) (by decide) b_law_less
theorem kn_law_times (T : Tx w K mg) : Kn P w K mg base 1 G_law_times where
  fns := fun x m sem h => by
    have h : (if x = "_law_part" ∧ m = 2 then some m_law_part else none) = some sem := h
    rcases ite_cs h with ⟨ec, h⟩ | h
    · obtain ⟨rfl, rfl⟩ := ec
      cases h
      exact (k_law_part T).mono (by omega)
    · cases h
  bl := bl_ok T
  cn := fun _ _ h => nomatch h
  cl := fun _ _ h => nomatch h
  rz := fun _ h => nomatch h
  xm := fun _ _ h => nomatch h
  ob := {
   fo := fo_ok T
   mt := fun _ _ _ h => nomatch h
   mkr := fun _ _ _ h => nomatch h
   ib := fun _ _ _ h => nomatch h
   kt := fun _ _ h => nomatch h
   i2 := fun _ _ _ _ h => nomatch h }
theorem k_law_times (T : Tx w K mg) : FK P w K mg base 2 "_law_times" 2 m_law_times := by
  obtain ⟨fd, F⟩ := T.t.c.def_ 34 (d := d_law_times) rfl
  exact fk_of (ps := ["_law_one", "_law_other"]) F sc_law_times (kn_law_times T) (FunD.bindsN (ps := ["_law_one", "_law_other"]) F fun _ _ _ _ _ _ us hl => match us, hl with | [_, _], _ => rfl) (T.t.glo _ (T.t.c.fact 34 (f := .glo "_law_times") rfl)) (by decide) b_law_times
theorem kn_law_spots (T : Tx w K mg) : Kn P w K mg base 2 G_law_spots where
  fns := fun x m sem h => by
    have h : (if x = "_law_sum" ∧ m = 2 then some m_law_sum else if x = "_law_part" ∧ m = 2 then some m_law_part else if x = "_law_less" ∧ m = 2 then some m_law_less else if x = "_law_times" ∧ m = 2 then some m_law_times else none) = some sem := h
    rcases ite_cs h with ⟨ec, h⟩ | h
    · obtain ⟨rfl, rfl⟩ := ec
      cases h
      exact (k_law_sum T).mono (by omega)
    rcases ite_cs h with ⟨ec, h⟩ | h
    · obtain ⟨rfl, rfl⟩ := ec
      cases h
      exact (k_law_part T).mono (by omega)
    rcases ite_cs h with ⟨ec, h⟩ | h
    · obtain ⟨rfl, rfl⟩ := ec
      cases h
      exact (k_law_less T).mono (by omega)
    rcases ite_cs h with ⟨ec, h⟩ | h
    · obtain ⟨rfl, rfl⟩ := ec
      cases h
      exact (k_law_times T).mono (by omega)
    · cases h
  bl := bl_ok T
  cn := fun _ _ h => nomatch h
  cl := fun _ _ h => nomatch h
  rz := fun _ h => nomatch h
  xm := fun _ _ h => nomatch h
  ob := {
   fo := fo_ok T
   mt := fun _ _ _ h => nomatch h
   mkr := fun _ _ _ h => nomatch h
   ib := fun _ _ _ h => nomatch h
   kt := fun _ _ h => nomatch h
   i2 := fun _ _ _ _ h => nomatch h }
theorem k_law_spots (T : Tx w K mg) : FK P w K mg base 3 "_law_spots" 2 m_law_spots := by
  obtain ⟨fd, F⟩ := T.t.c.def_ 35 (d := d_law_spots) rfl
  exact fk_of (ps := ["_law_lows", "_law_cells"]) F sc_law_spots (kn_law_spots T) (FunD.bindsN (ps := ["_law_lows", "_law_cells"]) F fun _ _ _ _ _ _ us hl => match us, hl with | [_, _], _ => rfl) (T.t.glo _ (T.t.c.fact 35 (f := .glo "_law_spots") rfl)) (by decide) b_law_spots
theorem kn_law_line (T : Tx w K mg) : Kn P w K mg base 2 G_law_line where
  fns := fun x m sem h => by
    have h : (if x = "_law_sum" ∧ m = 2 then some m_law_sum else if x = "_law_times" ∧ m = 2 then some m_law_times else none) = some sem := h
    rcases ite_cs h with ⟨ec, h⟩ | h
    · obtain ⟨rfl, rfl⟩ := ec
      cases h
      exact (k_law_sum T).mono (by omega)
    rcases ite_cs h with ⟨ec, h⟩ | h
    · obtain ⟨rfl, rfl⟩ := ec
      cases h
      exact (k_law_times T).mono (by omega)
    · cases h
  bl := bl_ok T
  cn := fun _ _ h => nomatch h
  cl := fun _ _ h => nomatch h
  rz := fun _ h => nomatch h
  xm := fun _ _ h => nomatch h
  ob := {
   fo := fo_ok T
   mt := fun _ _ _ h => nomatch h
   mkr := fun _ _ _ h => nomatch h
   ib := fun _ _ _ h => nomatch h
   kt := fun _ _ h => nomatch h
   i2 := fun _ _ _ _ h => nomatch h }
theorem k_law_line (T : Tx w K mg) : FK P w K mg base 3 "_law_line" 2 m_law_line := by
  obtain ⟨fd, F⟩ := T.t.c.def_ 36 (d := d_law_line) rfl
  exact fk_of (ps := ["_law_line_here", "_law_width"]) F sc_law_line (kn_law_line T) (FunD.bindsN (ps := ["_law_line_here", "_law_width"]) F fun _ _ _ _ _ _ us hl => match us, hl with | [_, _], _ => rfl) (T.t.glo _ (T.t.c.fact 36 (f := .glo "_law_line") rfl)) (by decide) b_law_line
theorem kn_line_at (T : Tx w K mg) : Kn P w K mg base 3 G_line_at where
  fns := fun x m sem h => by
    have h : (if x = "added" ∧ m = 2 then some m_added else if x = "product" ∧ m = 2 then some m_product else none) = some sem := h
    rcases ite_cs h with ⟨ec, h⟩ | h
    · obtain ⟨rfl, rfl⟩ := ec
      cases h
      exact (k_added T).mono (by omega)
    rcases ite_cs h with ⟨ec, h⟩ | h
    · obtain ⟨rfl, rfl⟩ := ec
      cases h
      exact (k_product T).mono (by omega)
    · cases h
  bl := bl_ok T
  cn := fun _ _ h => nomatch h
  cl := fun _ _ h => nomatch h
  rz := fun _ h => nomatch h
  xm := fun _ _ h => nomatch h
  ob := {
   fo := fo_ok T
   mt := fun _ _ _ h => nomatch h
   mkr := fun _ _ _ h => nomatch h
   ib := fun _ _ _ h => nomatch h
   kt := fun _ _ h => nomatch h
   i2 := fun _ _ _ _ h => nomatch h }
theorem k_line_at (T : Tx w K mg) : FK P w K mg base 4 "line_at" 2 m_line_at := by
  obtain ⟨fd, F⟩ := T.t.c.def_ 37 (d := d_line_at) rfl
  exact fk_of (ps := ["line", "width"]) F sc_line_at (kn_line_at T) (FunD.bindsN (ps := ["line", "width"]) F fun _ _ _ _ _ _ us hl => match us, hl with | [_, _], _ => rfl) (T.t.glo _ (T.t.c.fact 37 (f := .glo "line_at") rfl)) (by decide) b_line_at
theorem kn_shared (T : Tx w K mg) : Kn P w K mg base 6 G_shared where
  fns := fun x m sem h => by
    have h : (if x = "need_items" ∧ m = 1 then some m_need_items else if x = "share_of" ∧ m = 2 then some m_share_of else if x = "width_at" ∧ m = 2 then some m_width_at else if x = "less" ∧ m = 2 then some m_less else if x = "total_of" ∧ m = 1 then some m_total_of else if x = "greater" ∧ m = 2 then some m_greater else none) = some sem := h
    rcases ite_cs h with ⟨ec, h⟩ | h
    · obtain ⟨rfl, rfl⟩ := ec
      cases h
      exact (k_need_items T).mono (by omega)
    rcases ite_cs h with ⟨ec, h⟩ | h
    · obtain ⟨rfl, rfl⟩ := ec
      cases h
      exact (k_share_of T).mono (by omega)
    rcases ite_cs h with ⟨ec, h⟩ | h
    · obtain ⟨rfl, rfl⟩ := ec
      cases h
      exact (k_width_at T).mono (by omega)
    rcases ite_cs h with ⟨ec, h⟩ | h
    · obtain ⟨rfl, rfl⟩ := ec
      cases h
      exact (k_less T).mono (by omega)
    rcases ite_cs h with ⟨ec, h⟩ | h
    · obtain ⟨rfl, rfl⟩ := ec
      cases h
      exact (k_total_of T).mono (by omega)
    rcases ite_cs h with ⟨ec, h⟩ | h
    · obtain ⟨rfl, rfl⟩ := ec
      cases h
      exact (k_greater T).mono (by omega)
    · cases h
  bl := bl_ok T
  cn := fun x d h => by
    have h : (if x = "NOUGHT_sharing" then some (.tup [.int 0, .int 1]) else none) = some d := h
    rcases ite_cs h with ⟨ec, h⟩ | h
    · subst ec
      cases h
      exact cn_NOUGHT_sharing T
    · cases h
  cl := fun _ _ h => nomatch h
  rz := fun _ h => nomatch h
  xm := fun _ _ h => nomatch h
  ob := {
   fo := fo_ok T
   mt := fun _ _ _ h => nomatch h
   mkr := fun _ _ _ h => nomatch h
   ib := fun _ _ _ h => nomatch h
   kt := fun _ _ h => nomatch h
   i2 := fun _ _ _ _ h => nomatch h }
theorem k_shared (T : Tx w K mg) : FK P w K mg base 7 "shared" 2 m_shared := by
  obtain ⟨fd, F⟩ := T.t.c.def_ 38 (d := d_shared) rfl
  exact fk_of (ps := ["items", "room"]) F sc_shared (kn_shared T) (FunD.bindsN (ps := ["items", "room"]) F fun _ _ _ _ _ _ us hl => match us, hl with | [_, _], _ => rfl) (T.t.glo _ (T.t.c.fact 38 (f := .glo "shared") rfl)) (by decide) b_shared
theorem kn_law_refused (T : Tx w K mg) : Kn P w K mg base 8 G_law_refused where
  fns := fun x m sem h => by
    have h : (if x = "share_pieces" ∧ m = 1 then some m_share_pieces else none) = some sem := h
    rcases ite_cs h with ⟨ec, h⟩ | h
    · obtain ⟨rfl, rfl⟩ := ec
      cases h
      exact (k_share_pieces T).mono (by omega)
    · cases h
  bl := bl_ok T
  cn := fun _ _ h => nomatch h
  cl := fun x d h => by
    have h : (if x = "NoItem" then some (i_NoItem) else if x = "NoPart" then some (i_NoPart) else if x = "TooMany" then some (i_TooMany) else none) = some d := h
    rcases ite_cs h with ⟨ec, h⟩ | h
    · subst ec
      cases h
      exact cl_NoItem T
    rcases ite_cs h with ⟨ec, h⟩ | h
    · subst ec
      cases h
      exact cl_NoPart T
    rcases ite_cs h with ⟨ec, h⟩ | h
    · subst ec
      cases h
      exact cl_TooMany T
    · cases h
  rz := fun _ h => nomatch h
  xm := fun x d h => by
    have h : (if x = "WideError" then some (e_WideError) else none) = some d := h
    rcases ite_cs h with ⟨ec, h⟩ | h
    · subst ec
      cases h
      exact xm_WideError T
    · cases h
  ob := {
   fo := fo_ok T
   mt := fun _ _ _ h => nomatch h
   mkr := fun _ _ _ h => nomatch h
   ib := fun _ _ _ h => nomatch h
   kt := fun _ _ h => nomatch h
   i2 := fun _ _ _ _ h => nomatch h }
theorem k_law_refused (T : Tx w K mg) : FK P w K mg base 9 "_law_refused" 1 m_law_refused := by
  obtain ⟨fd, F⟩ := T.t.c.def_ 39 (d := d_law_refused) rfl
  exact fk_of (ps := ["_law_items_here"]) F sc_law_refused (kn_law_refused T) (FunD.bindsN (ps := ["_law_items_here"]) F fun _ _ _ _ _ _ us hl => match us, hl with | [_], _ => rfl) (T.t.glo _ (T.t.c.fact 39 (f := .glo "_law_refused") rfl)) (by decide) b_law_refused
theorem kn_law (T : Tx w K mg) : Kn P w K mg base 9 G_law where
  fns := fun x m sem h => by
    have h : (if x = "_law_mixed" ∧ m = 3 then some m_law_mixed else if x = "_law_items" ∧ m = 1 then some m_law_items else if x = "share_pieces" ∧ m = 1 then some m_share_pieces else if x = "_law_growths_right" ∧ m = 1 then some m_law_growths_right else if x = "_law_is_above" ∧ m = 2 then some m_law_is_above else if x = "_law_spots" ∧ m = 2 then some m_law_spots else if x = "_law_line" ∧ m = 2 then some m_law_line else if x = "line_at" ∧ m = 2 then some m_line_at else if x = "shared" ∧ m = 2 then some m_shared else if x = "_law_refused" ∧ m = 1 then some m_law_refused else none) = some sem := h
    rcases ite_cs h with ⟨ec, h⟩ | h
    · obtain ⟨rfl, rfl⟩ := ec
      cases h
      exact (k_law_mixed T).mono (by omega)
    rcases ite_cs h with ⟨ec, h⟩ | h
    · obtain ⟨rfl, rfl⟩ := ec
      cases h
      exact (k_law_items T).mono (by omega)
    rcases ite_cs h with ⟨ec, h⟩ | h
    · obtain ⟨rfl, rfl⟩ := ec
      cases h
      exact (k_share_pieces T).mono (by omega)
    rcases ite_cs h with ⟨ec, h⟩ | h
    · obtain ⟨rfl, rfl⟩ := ec
      cases h
      exact (k_law_growths_right T).mono (by omega)
    rcases ite_cs h with ⟨ec, h⟩ | h
    · obtain ⟨rfl, rfl⟩ := ec
      cases h
      exact (k_law_is_above T).mono (by omega)
    rcases ite_cs h with ⟨ec, h⟩ | h
    · obtain ⟨rfl, rfl⟩ := ec
      cases h
      exact (k_law_spots T).mono (by omega)
    rcases ite_cs h with ⟨ec, h⟩ | h
    · obtain ⟨rfl, rfl⟩ := ec
      cases h
      exact (k_law_line T).mono (by omega)
    rcases ite_cs h with ⟨ec, h⟩ | h
    · obtain ⟨rfl, rfl⟩ := ec
      cases h
      exact (k_line_at T).mono (by omega)
    rcases ite_cs h with ⟨ec, h⟩ | h
    · obtain ⟨rfl, rfl⟩ := ec
      cases h
      exact (k_shared T).mono (by omega)
    rcases ite_cs h with ⟨ec, h⟩ | h
    · obtain ⟨rfl, rfl⟩ := ec
      cases h
      exact (k_law_refused T).mono (by omega)
    · cases h
  bl := bl_ok T
  cn := fun _ _ h => nomatch h
  cl := fun _ _ h => nomatch h
  rz := fun _ h => nomatch h
  xm := fun _ _ h => nomatch h
  ob := {
   fo := fo_ok T
   mt := fun _ _ _ h => nomatch h
   mkr := fun _ _ _ h => nomatch h
   ib := fun _ _ _ h => nomatch h
   kt := fun _ _ h => nomatch h
   i2 := fun _ _ _ _ h => nomatch h }
end
def loose : List PySem.Str := ([("common_divisor" : PySem.Str), ("part_of" : PySem.Str), ("added" : PySem.Str), ("less" : PySem.Str), ("product" : PySem.Str), ("quotient" : PySem.Str), ("is_more" : PySem.Str), ("lesser" : PySem.Str), ("greater" : PySem.Str), ("is_number" : PySem.Str), ("is_item" : PySem.Str), ("need_items" : PySem.Str), ("width_at" : PySem.Str), ("total_of" : PySem.Str), ("bound_of" : PySem.Str), ("weight_of" : PySem.Str)] : List PySem.Str) ++ ([("ends_of" : PySem.Str), ("weight_beyond" : PySem.Str), ("far_share" : PySem.Str), ("share_of" : PySem.Str), ("shared" : PySem.Str), ("line_at" : PySem.Str), ("first_of" : PySem.Str), ("line_from" : PySem.Str), ("changes_from" : PySem.Str), ("share_at" : PySem.Str), ("share_pieces" : PySem.Str), ("_law_cell_at" : PySem.Str), ("_law_mixed" : PySem.Str), ("_law_part" : PySem.Str), ("_law_sum" : PySem.Str), ("_law_less" : PySem.Str)] : List PySem.Str) ++ ([("_law_times" : PySem.Str), ("_law_is_above" : PySem.Str), ("_law_sizes" : PySem.Str), ("_law_items" : PySem.Str), ("_law_line" : PySem.Str), ("_law_spots" : PySem.Str), ("_law_growths_right" : PySem.Str), ("_law_refused" : PySem.Str), ("MOST_SIZE" : PySem.Str), ("MOST_WEIGHT" : PySem.Str), ("NOUGHT_sharing" : PySem.Str), ("NOUGHT_widths" : PySem.Str), ("WideError" : PySem.Str), ("NoPart" : PySem.Str), ("NoItem" : PySem.Str), ("TooMany" : PySem.Str)] : List PySem.Str)
def as0 : List PySem.Addr := List.range' 0 801
abbrev R0 : PySem.W.OpenRow := PySem.W.OpenLaw.row PySem.Challenge.rw_widthwise_k61_shares_at_all_rooms
abbrev hk : PySem.W.Hook := hookL as0 fa fn ts exB
def ob (s : PySem.W.SharedT) : AlF := obsL as0 fa fn ts exB (HandSHeadRun.getT s)
theorem ob_eq (s : PySem.W.SharedT) : ob s = hk.obs s.abs := obsL_eq (HandSHeadRun.getT_eq s)
theorem run_false (w : World) : HandSHeadRun.RunEq R0 (PySem.W.view R0.prog [53]) hk ob 9000 (Law.loose) (w.withFollow "special-get-raises" false) := by
  intro os
  kernel_rfl
theorem run_true (w : World) : HandSHeadRun.RunEq R0 (PySem.W.view R0.prog [53]) hk ob 9000 (Law.loose) (w.withFollow "special-get-raises" true) := by
  intro os
  kernel_rfl
theorem run_ok (w : World) : HandSHeadRun.RunEq R0 (PySem.W.view R0.prog [53]) hk ob 9000 (Law.loose) w :=
  PySem.W.byRow2 "special-get-raises" (P := fun w => HandSHeadRun.RunEq R0 (PySem.W.view R0.prog [53]) hk ob 9000 (Law.loose) w) run_false run_true w
theorem facts {P : Program} {w : World} {K : PySem.W.Frag} {h : Heap} {mg : Str → Option Value} {f : Addr} (hl : ∀ ns : List Int, ns.length ≤ 63 → m_law [.kst (ns.map D.int)] = .ok (.bl true)) (X : K.In h) (G : h.Ns mainGlobals mg) (hfa : mg ("law" : Str) = some (.ref f)) (c : He.SaysT fa fn ts w K) (x : exB K = true) :
    ∃ fd : FuncData, (∀ (s : Shared) (v : Value), BindsTo s fd ⟨[v], []⟩ [("_law_script", v)]) ∧ ∀ base : Heap, K.In base → base.Ns mainGlobals mg → FnG P w K mg base 10 f fd ["_law_script"] (spLaw K) := by
  have T : Tx w K mg := txF_of X G c x
  obtain ⟨fd, F⟩ := T.t.c.def_ 40 (d := d_law) rfl
  have e := hfa.symm.trans (T.t.glo _ (T.t.c.fact 40 (f := .glo "law") rfl))
  cases e
  have b := FunD.bindsA (ps := ["_law_script"]) F fun _ _ _ _ _ _ us hl => match us, hl with | [_], _ => rfl
  exact ⟨fd, fun s v => b s [v] rfl, fun base _ _ => law_ok F sc_law (kn_law T) b_law hl⟩
end Law
namespace Law
open PySem L2 Dw
local macro_rules | `(tactic| walk_at "ev") => `(tactic| simp (decide := true) (failIfUnchanged := false) (implicitDefEqProofs := false) only [e_enumL, e_enumK, e_enum0, e_enum1, e_ctS, e_bkS, e_chain, e_kchT, e_kchF, e_kchD, e_aug, e_kaug0, e_kaug, e_ins, e_kins0, e_kins, e_setI, e_setJ, e_setJ0, e_setK, e_slG, e_noP, e_pt, e_slAL, e_slAK, e_slAT, e_slNL, e_slNK, e_all, e_listL, e_listT, e_listK, e_bind_ok, e_bind_ex, e_bind_no, e_bind_ite, e_var, e_varpu, e_varow, e_c, e_bin, e_un, e_app, e_nil, e_cons, e_call, e_kcall1, e_kcall2, e_kcall3, e_kcall4, e_callN, e_kcallN1, e_kcallN2, e_kcallN3, e_rsV, e_rsVl, e_rsVx, e_rsN, e_rsNx, e_if, e_L, e_toL, e_toLx, e_andB1, e_andB, e_orB1, e_orB, e_notB, e_andV1, e_andV, e_kandV, e_orV1, e_orV, e_korV, e_ixV, e_kixpu, e_kixow,
  e_addII, e_sub, e_mul, f_divL, f_modL, f_powL, f_modC, f_divC, e_shr, e_and, e_neg, e_notV, e_lt, e_le, e_gt, e_ge, e_eqII, e_neII, e_eqSS, e_neSS, e_eqBB, e_neBB, e_isN, e_isB, e_notN, e_notBB, e_isNon0, e_isNonI, e_isNonT, e_isNonL, e_isNonX, e_isNonS, e_asB, e_truB, e_ixT, e_ixL, e_ixK, e_at0, e_at1, e_lenT, e_lenL, e_lenK, e_abs, e_int1, e_int1b, e_max2, e_min2, e_bor0, e_borC, e_borSp, e_borSo, e_borSu,
  e_seq, e_fnx, e_frt, e_frtl, e_fex, e_fct, e_fbk, e_fite, e_nx, e_evA, e_kA, e_kAx, e_kAn, e_kA2, e_kA2x, e_kAite, e_evN, e_evL, e_kN, e_kNx, e_kNite, e_evI, e_kI, e_evT, e_fA, e_fAx, e_fAite, e_retV, e_retN, e_retO, e_kretpu, e_kretow, e_ret0, e_asg, e_asgN, e_asgT, e_kopt, e_tname, e_tcons, e_tnil, e_par2, e_kpar2, e_ifS, e_kif, e_kifite, e_rz, e_for, e_appd, e_kapp0, e_kapp, e_run, e_ort, e_ortl, e_oex, e_onx, e_oite, e_go0, e_go, e_kgo, e_lnx, e_lct, e_lbk, e_lrt, e_lite, e_lc, e_itL, e_itK, e_itT, e_wipe0, e_wipe, e_tryK, e_tryN, e_tryx, e_ktry, e_trynx, e_exp,
  e_at2, e_at3, e_at4, e_lcN, e_lcC, e_lc1, e_lc2, e_lc2f, e_lc3, e_ctrue, e_all0, e_all1, e_all2, e_all3, i_lt, i_li, i_lb, i_ls, i_ln, i_ll, i_lk, i_ld, i_id, i_bd, i_st, i_si, i_sb, i_ss, i_sn, i_sl, i_sd, i_dt, i_di, i_db, i_ds, i_dn, i_dl, i_dd, e_frtn, e_ono, e_rsVn, ite_self, _root_.eq_self, e_flI, e_flB, e_flS, e_flN, e_flL, e_flT, e_fls0, e_fls1, Bool.and_true, Bool.true_and, e_tup, e_lst, e_addLL, e_addTT, szT, szlT, i_tt, i_ti, i_tb, i_ts, i_tn, i_tl, i_td, i_it, i_ii, i_ib, i_is, i_in, i_il, i_bt, i_bi, i_bb, i_bs, i_bn, i_bl, e_dct0, e_ttup, e_L, Nat.reduceLeDiff, List.length_append, ini, List.map_cons, List.map_nil, List.length_cons, List.length_nil, List.getElem?_cons_zero, List.getElem?_cons_succ, List.set_cons_zero, List.set_cons_succ, List.cons_append, List.nil_append, List.append_nil, Option.bind_some, Nat.zero_add, Nat.reduceAdd, Nat.reduceSub, List.replicate, Bool.false_eq_true, Bool.true_eq_false, if_true, if_false, reduceIte, decide_eq_true_eq, Bool.not_true, Bool.not_false, Bool.not_eq_true', decide_eq_false_iff_not, decide_true, decide_false])
local macro_rules | `(tactic| walk_at "evh") => `(tactic| simp (decide := true) (failIfUnchanged := false) (implicitDefEqProofs := false) only [e_enumL, e_enumK, e_enum0, e_enum1, e_ctS, e_bkS, e_chain, e_kchT, e_kchF, e_kchD, e_aug, e_kaug0, e_kaug, e_ins, e_kins0, e_kins, e_setI, e_setJ, e_setJ0, e_setK, e_slG, e_noP, e_pt, e_slAL, e_slAK, e_slAT, e_slNL, e_slNK, e_all, e_listL, e_listT, e_listK, e_bind_ok, e_bind_ex, e_bind_no, e_bind_ite, e_var, e_varpu, e_varow, e_c, e_bin, e_un, e_app, e_nil, e_cons, e_call, e_kcall1, e_kcall2, e_kcall3, e_kcall4, e_callN, e_kcallN1, e_kcallN2, e_kcallN3, e_rsV, e_rsVl, e_rsVx, e_rsN, e_rsNx, e_if, e_L, e_toL, e_toLx, e_andB1, e_andB, e_orB1, e_orB, e_notB, e_andV1, e_andV, e_kandV, e_orV1, e_orV, e_korV, e_ixV, e_kixpu, e_kixow,
  e_addII, e_sub, e_mul, f_divL, f_modL, f_powL, f_modC, f_divC, e_shr, e_and, e_neg, e_notV, e_lt, e_le, e_gt, e_ge, e_eqII, e_neII, e_eqSS, e_neSS, e_eqBB, e_neBB, e_isN, e_isB, e_notN, e_notBB, e_isNon0, e_isNonI, e_isNonT, e_isNonL, e_isNonX, e_isNonS, e_asB, e_truB, e_ixT, e_ixL, e_ixK, e_at0, e_at1, e_lenT, e_lenL, e_lenK, e_abs, e_int1, e_int1b, e_max2, e_min2, e_bor0, e_borC, e_borSp, e_borSo, e_borSu,
  e_seq, e_fnx, e_frt, e_frtl, e_fex, e_fct, e_fbk, e_fite, e_nx, e_evA, e_kA, e_kAx, e_kAn, e_kA2, e_kA2x, e_kAite, e_evN, e_evL, e_kN, e_kNx, e_kNite, e_evI, e_kI, e_evT, e_fA, e_fAx, e_fAite, e_retV, e_retN, e_retO, e_kretpu, e_kretow, e_ret0, e_asg, e_asgN, e_asgT, e_kopt, e_tname, e_tcons, e_tnil, e_par2, e_kpar2, e_ifS, e_kif, e_kifite, e_rz, e_for, e_appd, e_kapp0, e_kapp, e_run, e_ort, e_ortl, e_oex, e_onx, e_oite, e_go0, e_go, e_kgo, e_lnx, e_lct, e_lbk, e_lrt, e_lite, e_lc, e_itL, e_itK, e_itT, e_wipe0, e_wipe, e_tryK, e_tryN, e_tryx, e_ktry, e_trynx, e_exp,
  e_at2, e_at3, e_at4, e_lcN, e_lcC, e_lc1, e_lc2, e_lc2f, e_lc3, e_ctrue, e_all0, e_all1, e_all2, e_all3, i_lt, i_li, i_lb, i_ls, i_ln, i_ll, i_lk, i_ld, i_id, i_bd, i_st, i_si, i_sb, i_ss, i_sn, i_sl, i_sd, i_dt, i_di, i_db, i_ds, i_dn, i_dl, i_dd, e_frtn, e_ono, e_rsVn, ite_self, _root_.eq_self, e_flI, e_flB, e_flS, e_flN, e_flL, e_flT, e_fls0, e_fls1, Bool.and_true, Bool.true_and, e_tup, e_lst, e_addLL, e_addTT, szT, szlT, i_tt, i_ti, i_tb, i_ts, i_tn, i_tl, i_td, i_it, i_ii, i_ib, i_is, i_in, i_il, i_bt, i_bi, i_bb, i_bs, i_bn, i_bl, e_dct0, e_ttup, e_L, Nat.reduceLeDiff, List.length_append, ini, List.map_cons, List.map_nil, List.length_cons, List.length_nil, List.getElem?_cons_zero, List.getElem?_cons_succ, List.set_cons_zero, List.set_cons_succ, List.cons_append, List.nil_append, List.append_nil, Option.bind_some, Nat.zero_add, Nat.reduceAdd, Nat.reduceSub, List.replicate, Bool.false_eq_true, Bool.true_eq_false, if_true, if_false, reduceIte, decide_eq_true_eq, Bool.not_true, Bool.not_false, Bool.not_eq_true', decide_eq_false_iff_not, decide_true, decide_false, *])
local macro_rules | `(tactic| simp_arith [$xs,*]) => `(tactic| simp (decide := true) (failIfUnchanged := false) (implicitDefEqProofs := false) only [$xs,*, e_enumL, e_enumK, e_enum0, e_enum1, e_ctS, e_bkS, e_chain, e_kchT, e_kchF, e_kchD, e_aug, e_kaug0, e_kaug, e_ins, e_kins0, e_kins, e_setI, e_setJ, e_setJ0, e_setK, e_slG, e_noP, e_pt, e_slAL, e_slAK, e_slAT, e_slNL, e_slNK, e_all, e_listL, e_listT, e_listK, e_bind_ok, e_bind_ex, e_bind_no, e_bind_ite, e_var, e_varpu, e_varow, e_c, e_bin, e_un, e_app, e_nil, e_cons, e_call, e_kcall1, e_kcall2, e_kcall3, e_kcall4, e_callN, e_kcallN1, e_kcallN2, e_kcallN3, e_rsV, e_rsVl, e_rsVx, e_rsN, e_rsNx, e_if, e_L, e_toL, e_toLx, e_andB1, e_andB, e_orB1, e_orB, e_notB, e_andV1, e_andV, e_kandV, e_orV1, e_orV, e_korV, e_ixV, e_kixpu, e_kixow,
  e_addII, e_sub, e_mul, f_divL, f_modL, f_powL, f_modC, f_divC, e_shr, e_and, e_neg, e_notV, e_lt, e_le, e_gt, e_ge, e_eqII, e_neII, e_eqSS, e_neSS, e_eqBB, e_neBB, e_isN, e_isB, e_notN, e_notBB, e_isNon0, e_isNonI, e_isNonT, e_isNonL, e_isNonX, e_isNonS, e_asB, e_truB, e_ixT, e_ixL, e_ixK, e_at0, e_at1, e_lenT, e_lenL, e_lenK, e_abs, e_int1, e_int1b, e_max2, e_min2, e_bor0, e_borC, e_borSp, e_borSo, e_borSu,
  e_seq, e_fnx, e_frt, e_frtl, e_fex, e_fct, e_fbk, e_fite, e_nx, e_evA, e_kA, e_kAx, e_kAn, e_kA2, e_kA2x, e_kAite, e_evN, e_evL, e_kN, e_kNx, e_kNite, e_evI, e_kI, e_evT, e_fA, e_fAx, e_fAite, e_retV, e_retN, e_retO, e_kretpu, e_kretow, e_ret0, e_asg, e_asgN, e_asgT, e_kopt, e_tname, e_tcons, e_tnil, e_par2, e_kpar2, e_ifS, e_kif, e_kifite, e_rz, e_for, e_appd, e_kapp0, e_kapp, e_run, e_ort, e_ortl, e_oex, e_onx, e_oite, e_go0, e_go, e_kgo, e_lnx, e_lct, e_lbk, e_lrt, e_lite, e_lc, e_itL, e_itK, e_itT, e_wipe0, e_wipe, e_tryK, e_tryN, e_tryx, e_ktry, e_trynx, e_exp,
  e_at2, e_at3, e_at4, e_lcN, e_lcC, e_lc1, e_lc2, e_lc2f, e_lc3, e_ctrue, e_all0, e_all1, e_all2, e_all3, i_lt, i_li, i_lb, i_ls, i_ln, i_ll, i_lk, i_ld, i_id, i_bd, i_st, i_si, i_sb, i_ss, i_sn, i_sl, i_sd, i_dt, i_di, i_db, i_ds, i_dn, i_dl, i_dd, e_frtn, e_ono, e_rsVn, ite_self, _root_.eq_self, e_flI, e_flB, e_flS, e_flN, e_flL, e_flT, e_fls0, e_fls1, Bool.and_true, Bool.true_and, e_tup, e_lst, e_addLL, e_addTT, szT, szlT, i_tt, i_ti, i_tb, i_ts, i_tn, i_tl, i_td, i_it, i_ii, i_ib, i_is, i_in, i_il, i_bt, i_bi, i_bb, i_bs, i_bn, i_bl, e_dct0, e_ttup, e_L, Nat.reduceLeDiff, List.length_append, ini, List.map_cons, List.map_nil, List.length_cons, List.length_nil, List.getElem?_cons_zero, List.getElem?_cons_succ, List.set_cons_zero, List.set_cons_succ, List.cons_append, List.nil_append, List.append_nil, Option.bind_some, Nat.zero_add, Nat.reduceAdd, Nat.reduceSub, List.replicate, Bool.false_eq_true, Bool.true_eq_false, if_true, if_false, reduceIte, decide_eq_true_eq, Bool.not_true, Bool.not_false, Bool.not_eq_true', decide_eq_false_iff_not, decide_true, decide_false])
/-! ### sharing, in plain numbers -/
structure It where
  w : Int
  l : Int
  m : Option Int
  g : Int
  s : Int
structure It.Ok (i : It) : Prop where
  l0 : 0 ≤ i.l
  lw : i.l ≤ i.w
  w1 : i.w ≤ 1000
  m1 : ∀ x, i.m = some x → i.w ≤ x ∧ x ≤ 1000
  g0 : 0 ≤ i.g
  g1 : i.g ≤ 20
  s0 : 0 ≤ i.s
  s1 : i.s ≤ 20
def It.wt (i : It) (u : Bool) : Int := if u = true then i.g else i.s
/-- how far it is to the bound, in width -/
def It.cap (i : It) (u : Bool) : Option Int := if u = true then i.m.map (· - i.w) else some (i.w - i.l)
def It.bd (i : It) (u : Bool) : Option Rat := if 0 < i.wt u then (i.cap u).map fun (c : Int) => (c : Rat) / ((i.wt u : Int) : Rat) else none
/-- still changing beyond f -/
def It.on (i : It) (u : Bool) (f : Rat) : Int := match i.bd u with
  | none => i.wt u
  | some b => if f < b then i.wt u else 0
def rmin (a b : Rat) : Rat := if a < b then a else b
def rmax (a b : Rat) : Rat := if a < b then b else a
def It.dev (i : It) (u : Bool) (t : Rat) : Rat := match i.bd u with
  | none => (i.wt u : Rat) * t
  | some b => (i.wt u : Rat) * rmin t b
def rsum : List Rat → Rat
  | [] => 0
  | q :: r => q + rsum r
def Phi (its : List It) (u : Bool) (t : Rat) : Rat := rsum (its.map fun i => i.dev u t)
def wBey (its : List It) (u : Bool) (f : Rat) : Int := (its.map fun i => i.on u f).sum
theorem wt_nn {i : It} (h : i.Ok) (u : Bool) : 0 ≤ i.wt u ∧ i.wt u ≤ 20 := by
  unfold It.wt
  have := h.g0; have := h.g1; have := h.s0; have := h.s1
  split <;> omega
theorem cap_nn {i : It} (h : i.Ok) {u : Bool} {c : Int} (e : i.cap u = some c) : 0 ≤ c ∧ c ≤ 1000 := by
  unfold It.cap at e
  have := h.l0; have := h.lw; have := h.w1
  split at e
  · obtain ⟨x, hx, rfl⟩ := Option.map_eq_some_iff.mp e
    have := h.m1 x hx
    omega
  · cases e
    omega
theorem ic_le {a b : Int} (h : a ≤ b) : (a : Rat) ≤ (b : Rat) := Rat.intCast_le_intCast.mpr h
theorem ic_lt {a b : Int} (h : a < b) : (a : Rat) < (b : Rat) := Rat.intCast_lt_intCast.mpr h
theorem ic_0 {b : Int} (h : 0 ≤ b) : (0 : Rat) ≤ (b : Rat) := by have := ic_le h; simpa using this
theorem ic_p {b : Int} (h : 0 < b) : (0 : Rat) < (b : Rat) := by have := ic_lt h; simpa using this
theorem mul_le {a b c : Rat} (h : a ≤ b) (hc : 0 ≤ c) : c * a ≤ c * b := Rat.mul_le_mul_of_nonneg_left h hc
theorem mul_lt {a b c : Rat} (h : a < b) (hc : 0 < c) : c * a < c * b := Rat.mul_lt_mul_of_pos_left h hc
theorem div_mul {a b : Rat} (h : 0 < b) : b * (a / b) = a := by
  have : b ≠ 0 := by grind
  grind
theorem bd_nn {i : It} (h : i.Ok) {u : Bool} {b : Rat} (e : i.bd u = some b) : 0 ≤ b ∧ 0 < i.wt u ∧ ∃ c : Int, i.cap u = some c ∧ b = (c : Rat) / ((i.wt u : Int) : Rat) ∧ ((i.wt u : Int) : Rat) * b = c := by
  unfold It.bd at e
  split at e
  · rename_i hw
    obtain ⟨c, hc, rfl⟩ := Option.map_eq_some_iff.mp e
    have c0 := (cap_nn h hc).1
    have hp := ic_p hw
    have dm := div_mul (a := (c : Rat)) hp
    refine ⟨?_, hw, c, hc, rfl, dm⟩
    have cc := ic_0 c0
    have z := Rat.mul_nonneg cc (Rat.le_of_lt (Rat.inv_pos.mpr hp))
    rw [Rat.div_def]
    exact z
  · cases e
theorem dev_mono {i : It} (h : i.Ok) {u : Bool} {a b : Rat} (hab : a ≤ b) : i.dev u a ≤ i.dev u b := by
  have w0 := ic_0 (wt_nn h u).1
  unfold It.dev
  split
  · exact mul_le hab w0
  · refine mul_le ?_ w0
    unfold rmin
    grind
theorem dev_lin {i : It} (h : i.Ok) {u : Bool} {f e x : Rat} (h1 : f ≤ x) (h2 : x ≤ e) (hb : ∀ b, i.bd u = some b → b ≤ f ∨ e ≤ b) : i.dev u x = i.dev u f + (x - f) * (i.on u f : Rat) := by
  unfold It.dev It.on
  cases eb : i.bd u with
  | none =>
    show _ * x = _ * f + _
    grind
  | some b =>
    show _ * rmin x b = _ * rmin f b + (x - f) * ((if f < b then i.wt u else 0 : Int) : Rat)
    unfold rmin
    rcases hb b eb with q | q
    · have n1 : ¬ f < b := by grind
      rw [if_neg n1, if_neg n1, if_neg (by grind)]
      simp
      grind
    · by_cases c : f < b
      · rw [if_pos c, if_pos c]
        split
        · grind
        · have : x = b := by grind
          grind
      · have : x = f := by grind
        rw [if_neg c, if_neg c, if_neg (by grind)]
        simp
        grind
theorem on_le {i : It} (h : i.Ok) {u : Bool} {f : Rat} : 0 ≤ i.on u f ∧ i.on u f ≤ 20 := by
  have := wt_nn h u
  unfold It.on
  split
  · exact this
  · split <;> omega
abbrev Oks (its : List It) : Prop := ∀ i ∈ its, i.Ok
theorem Phi_mono {u : Bool} {a b : Rat} (hab : a ≤ b) : ∀ {its : List It}, Oks its → Phi its u a ≤ Phi its u b
  | [], _ => by unfold Phi rsum; exact Rat.le_refl
  | i :: its, h => by
    have h1 := dev_mono (h i List.mem_cons_self) (u := u) hab
    have h2 := Phi_mono (u := u) hab (its := its) fun j hj => h j (List.mem_cons_of_mem _ hj)
    unfold Phi at h2 ⊢
    simp only [List.map_cons, rsum]
    grind
theorem Phi_lin {u : Bool} {f e x : Rat} (h1 : f ≤ x) (h2 : x ≤ e) : ∀ {its : List It}, Oks its → (∀ i ∈ its, ∀ b, i.bd u = some b → b ≤ f ∨ e ≤ b) → Phi its u x = Phi its u f + (x - f) * (wBey its u f : Rat)
  | [], _, _ => by unfold Phi wBey rsum; simp; grind
  | i :: its, h, hb => by
    have q1 := dev_lin (h i List.mem_cons_self) (u := u) h1 h2 (hb i List.mem_cons_self)
    have q2 := Phi_lin (u := u) h1 h2 (its := its) (fun j hj => h j (List.mem_cons_of_mem _ hj)) fun j hj => hb j (List.mem_cons_of_mem _ hj)
    unfold Phi wBey at q2 ⊢
    simp only [List.map_cons, rsum, List.sum_cons, Rat.intCast_add]
    grind
theorem Phi_0 {u : Bool} : ∀ {its : List It}, Oks its → Phi its u 0 = 0
  | [], _ => rfl
  | i :: its, h => by
    have q := Phi_0 (u := u) (its := its) fun j hj => h j (List.mem_cons_of_mem _ hj)
    have q1 : i.dev u 0 = 0 := by
      unfold It.dev
      cases eb : i.bd u with
      | none => show _ * _ = _; grind
      | some b =>
        have := (bd_nn (h i List.mem_cons_self) eb).1
        show _ * rmin 0 b = _
        unfold rmin
        split <;> grind
    unfold Phi at q ⊢
    simp only [List.map_cons, rsum]
    grind
theorem wBey_le {u : Bool} {f : Rat} : ∀ {its : List It}, Oks its → 0 ≤ wBey its u f ∧ wBey its u f ≤ 20 * its.length
  | [], _ => ⟨Int.le_refl _, Int.le_refl _⟩
  | i :: its, h => by
    have q1 := on_le (h i List.mem_cons_self) (u := u) (f := f)
    have q2 := wBey_le (u := u) (f := f) (its := its) fun j hj => h j (List.mem_cons_of_mem _ hj)
    unfold wBey at q2 ⊢
    simp only [List.map_cons, List.sum_cons, List.length_cons]
    omega
theorem wBey_0 {u : Bool} {f : Rat} : ∀ {its : List It}, Oks its → wBey its u f = 0 → ∀ i ∈ its, i.on u f = 0
  | [], _, _ => fun i hi => nomatch hi
  | i :: its, h, z => by
    have q1 := on_le (h i List.mem_cons_self) (u := u) (f := f)
    have hr : Oks its := fun j hj => h j (List.mem_cons_of_mem _ hj)
    have q2 := wBey_le (u := u) (f := f) (its := its) hr
    have z' : i.on u f + wBey its u f = 0 := by unfold wBey at z ⊢; simpa using z
    intro j hj
    rcases List.mem_cons.mp hj with e | hj
    · subst e; omega
    · exact wBey_0 hr (by omega) j hj
/-- all that changes is at its bound -/
def Full (its : List It) (u : Bool) (t : Rat) : Prop := ∀ i ∈ its, 0 < i.wt u → ∃ b, i.bd u = some b ∧ b ≤ t
/-- the last end, or 0 -/
def IsTop (its : List It) (u : Bool) (t : Rat) : Prop := (∀ i ∈ its, ∀ b, i.bd u = some b → b ≤ t) ∧ (t = 0 ∨ ∃ i ∈ its, i.bd u = some t)
structure Spec (its : List It) (u : Bool) (L t : Rat) : Prop where
  nn : 0 ≤ t
  or : (Phi its u t = L ∧ ∀ x, 0 ≤ x → x < t → Phi its u x < L) ∨ (Phi its u t < L ∧ IsTop its u t ∧ Full its u t)
theorem Full_flat {its : List It} {u : Bool} {t x : Rat} (ok : Oks its) (h : Full its u t) (hx : t ≤ x) : Phi its u x = Phi its u t := by
  have key : ∀ i ∈ its, i.dev u x = i.dev u t := fun i hi => by
    unfold It.dev
    by_cases w : 0 < i.wt u
    · obtain ⟨b, hb, hbt⟩ := h i hi w
      rw [hb]
      show _ * rmin x b = _ * rmin t b
      unfold rmin
      rw [if_neg (by grind), if_neg (by grind)]
    · have w0 : i.wt u = 0 := by have := (wt_nn (ok i hi) u).1; omega
      rw [w0]
      split <;> simp
  unfold Phi
  rw [List.map_congr_left key]
theorem top_uniq {its : List It} {u : Bool} {a b : Rat} (ok : Oks its) (ha : IsTop its u a) (hb : IsTop its u b) (na : 0 ≤ a) (nb : 0 ≤ b) : a = b := by
  have key : ∀ {a b : Rat}, IsTop its u a → IsTop its u b → 0 ≤ b → a ≤ b := fun {a b} ha hb nb => by
    rcases ha.2 with e | ⟨i, hi, e⟩
    · rw [e]; exact nb
    · exact hb.1 i hi a e
  exact Rat.le_antisymm (key ha hb nb) (key hb ha na)
theorem Spec_mono {its : List It} {u : Bool} {L L' t t' : Rat} (ok : Oks its) (h : Spec its u L t) (h' : Spec its u L' t') (hl : L ≤ L') : t ≤ t' := by
  by_cases c : t ≤ t'
  · exact c
  · have c' : t' < t := by grind
    have mo := Phi_mono (u := u) (Rat.le_of_lt c') ok
    rcases h.or with ⟨a, b⟩ | ⟨a, b, d⟩
    · have z := b t' h'.nn c'
      rcases h'.or with ⟨a', b'⟩ | ⟨a', b', d'⟩
      · grind
      · have := Full_flat ok d' (Rat.le_of_lt c')
        grind
    · rcases h'.or with ⟨a', b'⟩ | ⟨a', b', d'⟩
      · grind
      · rw [top_uniq ok b b' h.nn h'.nn]
        exact Rat.le_refl
theorem Spec_uniq {its : List It} {u : Bool} {L t t' : Rat} (ok : Oks its) (h : Spec its u L t) (h' : Spec its u L t') : t = t' :=
  Rat.le_antisymm (Spec_mono ok h h' Rat.le_refl) (Spec_mono ok h' h Rat.le_refl)
theorem Spec_le {its : List It} {u : Bool} {L t : Rat} (h : Spec its u L t) : Phi its u t ≤ L := by
  rcases h.or with h | h <;> grind
/-- where the way ends amid two ends -/
theorem Spec_amid {its : List It} {u : Bool} {f e r L : Rat} (ok : Oks its) (f0 : 0 ≤ f) (fe : f ≤ e) (hb : ∀ i ∈ its, ∀ b, i.bd u = some b → b ≤ f ∨ e ≤ b) (hr : 0 < r) (hL : Phi its u f + r = L) (hc : r ≤ (e - f) * (wBey its u f : Rat)) :
    0 < wBey its u f ∧ Spec its u L (f + r / (wBey its u f : Rat)) := by
  have w0 := (wBey_le (u := u) (f := f) ok).1
  have wp : 0 < wBey its u f := by
    by_cases z : wBey its u f = 0
    · rw [z] at hc
      simp at hc
      grind
    · omega
  have wr := ic_p wp
  have dm := div_mul (a := r) wr
  generalize hq : r / (wBey its u f : Rat) = q at *
  have qp : 0 < q := by
    rw [← hq, Rat.div_def]
    exact Rat.mul_pos hr (Rat.inv_pos.mpr wr)
  have qe : f + q ≤ e := by
    have : (wBey its u f : Rat) * q ≤ (wBey its u f : Rat) * (e - f) := by grind
    have := Rat.le_of_mul_le_mul_left this wr
    grind
  refine ⟨wp, by grind, .inl ⟨?_, fun x x0 hx => ?_⟩⟩
  · rw [Phi_lin (f := f) (e := e) (by grind) qe ok hb]
    grind
  · by_cases c : f ≤ x
    · rw [Phi_lin (f := f) (e := e) c (by grind) ok hb]
      have := mul_lt (a := x - f) (b := q) (by grind) wr
      grind
    · have := Phi_mono (u := u) (a := x) (b := f) (by grind) ok
      grind
/-- .. beyond the last one -/
theorem Spec_last {its : List It} {u : Bool} {f r L : Rat} (ok : Oks its) (f0 : 0 ≤ f) (ht : IsTop its u f) (hr : 0 < r) (hL : Phi its u f + r = L) : (wBey its u f = 0 → Spec its u L f) ∧ (0 < wBey its u f → Spec its u L (f + r / (wBey its u f : Rat))) := by
  refine ⟨fun z => ⟨f0, .inr ⟨by grind, ht, fun i hi wp => ?_⟩⟩, fun z => ?_⟩
  · have q := wBey_0 ok z i hi
    unfold It.on at q
    split at q
    · omega
    · rename_i b e
      exact ⟨b, e, ht.1 i hi b e⟩
  · have wr := ic_p z
    have dm := div_mul (a := r) wr
    have qp : 0 < r / (wBey its u f : Rat) := by
      rw [Rat.div_def]
      exact Rat.mul_pos hr (Rat.inv_pos.mpr wr)
    refine (Spec_amid (e := f + r / (wBey its u f : Rat)) ok f0 (by grind) (fun i hi b hb => .inl (ht.1 i hi b hb)) hr hL ?_).2
    grind
theorem Spec_0 {its : List It} {u : Bool} (ok : Oks its) : Spec its u 0 0 := ⟨Rat.le_refl, .inl ⟨Phi_0 ok, fun x a b => by grind⟩⟩
/-! widths -/
def It.wd (i : It) (q : Rat) : Rat := if q < 0 then rmax (i.l : Rat) ((i.w : Rat) + q * (i.s : Rat)) else match i.m with
  | none => (i.w : Rat) + q * (i.g : Rat)
  | some x => rmin (x : Rat) ((i.w : Rat) + q * (i.g : Rat))
theorem wd_up {i : It} (h : i.Ok) {t : Rat} (ht : 0 ≤ t) : i.wd t = (i.w : Rat) + i.dev true t := by
  unfold It.wd
  rw [if_neg (by grind)]
  unfold It.dev
  cases eb : i.bd true with
  | none =>
    show _ = _ + (i.g : Rat) * t
    cases em : i.m with
    | none => show _ + _ = _; grind
    | some x =>
      have gz : i.g = 0 := by
        unfold It.bd It.cap at eb
        rw [em] at eb
        split at eb
        · cases eb
        · rename_i n
          have : ¬ 0 < i.g := n
          have := h.g0
          omega
      have hx := ic_le (h.m1 x em).1
      show rmin _ _ = _
      unfold rmin
      rw [gz]
      simp
      grind
  | some b =>
    obtain ⟨b0, wp, c, hc, -, e⟩ := bd_nn h eb
    unfold It.cap at hc
    obtain ⟨x, hx, rfl⟩ := Option.map_eq_some_iff.mp hc
    rw [hx]
    have gp : (0 : Rat) < (i.g : Rat) := ic_p wp
    have e' : (i.g : Rat) * b = (x : Rat) - (i.w : Rat) := by
      have : ((i.wt true : Int) : Rat) = (i.g : Rat) := rfl
      rw [← this, e, Rat.intCast_sub]
    show rmin _ _ = _ + (i.g : Rat) * rmin t b
    unfold rmin
    by_cases c : t < b
    · have := mul_lt c gp
      rw [if_pos c, if_neg (by grind)]
      grind
    · have := mul_le (a := b) (b := t) (by grind) (Rat.le_of_lt gp)
      rw [if_neg c]
      split <;> grind
theorem wd_dn {i : It} (h : i.Ok) {t : Rat} (ht : 0 ≤ t) : i.wd (-t) = (i.w : Rat) - i.dev false t := by
  by_cases t0 : t = 0
  · subst t0
    have e : (-0 : Rat) = 0 := by grind
    have q : i.dev true 0 = 0 := by
      have := Phi_0 (u := true) (its := [i]) (by simpa [Oks] using h)
      unfold Phi rsum rsum at this
      simp at this
      grind
    have q2 : i.dev false 0 = 0 := by
      have := Phi_0 (u := false) (its := [i]) (by simpa [Oks] using h)
      unfold Phi rsum rsum at this
      simp at this
      grind
    rw [e, wd_up h Rat.le_refl, q, q2]
    grind
  · unfold It.wd
    rw [if_pos (by grind)]
    unfold It.dev
    have hl := ic_le h.lw
    cases eb : i.bd false with
    | none =>
      have sz : i.s = 0 := by
        unfold It.bd It.cap at eb
        split at eb
        · cases eb
        · rename_i n
          have : ¬ 0 < i.s := n
          have := h.s0
          omega
      show _ = _ - (i.s : Rat) * t
      unfold rmax
      rw [sz]
      simp
      split <;> grind
    | some b =>
      obtain ⟨b0, wp, c, hc, -, e⟩ := bd_nn h eb
      have hc' : some (i.w - i.l) = some c := hc
      cases hc'
      have gp : (0 : Rat) < (i.s : Rat) := ic_p wp
      have e' : (i.s : Rat) * b = (i.w : Rat) - (i.l : Rat) := by
        have : ((i.wt false : Int) : Rat) = (i.s : Rat) := rfl
        rw [← this, e, Rat.intCast_sub]
      show rmax _ _ = _ - (i.s : Rat) * rmin t b
      unfold rmin rmax
      by_cases c : t < b
      · have := mul_lt c gp
        rw [if_pos c, if_pos (by grind)]
        grind
      · have := mul_le (a := b) (b := t) (by grind) (Rat.le_of_lt gp)
        rw [if_neg c]
        split <;> grind
theorem dev_nn {i : It} (h : i.Ok) {u : Bool} {t : Rat} (ht : 0 ≤ t) : 0 ≤ i.dev u t := by
  have q : i.dev u 0 = 0 := by
    have := Phi_0 (u := u) (its := [i]) (by simpa [Oks] using h)
    unfold Phi rsum rsum at this
    simp at this
    grind
  have := dev_mono h (u := u) ht
  grind
theorem wd_mono {i : It} (h : i.Ok) {a b : Rat} (hab : a ≤ b) : i.wd a ≤ i.wd b := by
  by_cases ha : 0 ≤ a
  · rw [wd_up h ha, wd_up h (by grind)]
    have := dev_mono h (u := true) hab
    grind
  · have e1 := wd_dn h (t := -a) (by grind)
    have ea : - -a = a := by grind
    rw [ea] at e1
    by_cases hb : 0 ≤ b
    · have := dev_nn h (u := true) hb
      have := dev_nn h (u := false) (t := -a) (by grind)
      rw [e1, wd_up h hb]
      grind
    · have e2 := wd_dn h (t := -b) (by grind)
      have eb : - -b = b := by grind
      rw [eb] at e2
      have := dev_mono h (u := false) (a := -b) (b := -a) (by grind)
      rw [e1, e2]
      grind
theorem wd_lo {i : It} (h : i.Ok) (q : Rat) : (i.l : Rat) ≤ i.wd q := by
  have hl := ic_le h.lw
  by_cases c : q < 0
  · unfold It.wd rmax
    rw [if_pos c]
    split <;> grind
  · rw [wd_up h (by grind)]
    have := dev_nn h (u := true) (t := q) (by grind)
    grind
theorem wd_hi {i : It} (h : i.Ok) (q : Rat) {x : Int} (e : i.m = some x) : i.wd q ≤ (x : Rat) := by
  have hx := ic_le (h.m1 x e).1
  by_cases c : q < 0
  · have e1 := wd_dn h (t := -q) (by grind)
    have ea : - -q = q := by grind
    rw [ea] at e1
    have := dev_nn h (u := false) (t := -q) (by grind)
    grind
  · unfold It.wd
    rw [if_neg c, e]
    show rmin _ _ ≤ _
    unfold rmin
    split <;> grind
/-! the share of a line -/
def wishes (its : List It) : Int := (its.map fun i => i.w).sum
def total (its : List It) (q : Rat) : Rat := rsum (its.map fun i => i.wd q)
structure Share (its : List It) (room q : Rat) : Prop where
  up : (wishes its : Rat) ≤ room → Spec its true (room - (wishes its : Rat)) q
  dn : room < (wishes its : Rat) → Spec its false ((wishes its : Rat) - room) (-q)
theorem total_up {its : List It} {t : Rat} (ht : 0 ≤ t) : Oks its → total its t = (wishes its : Rat) + Phi its true t := by
  induction its with
  | nil => intro _; unfold total wishes Phi rsum; simp; grind
  | cons i its ih =>
    intro h
    have e := ih fun j hj => h j (List.mem_cons_of_mem _ hj)
    unfold total wishes Phi at e ⊢
    simp only [List.map_cons, rsum, List.sum_cons, Rat.intCast_add]
    rw [e, wd_up (h i List.mem_cons_self) ht]
    grind
theorem total_dn {its : List It} {t : Rat} (ht : 0 ≤ t) : Oks its → total its (-t) = (wishes its : Rat) - Phi its false t := by
  induction its with
  | nil => intro _; unfold total wishes Phi rsum; simp; grind
  | cons i its ih =>
    intro h
    have e := ih fun j hj => h j (List.mem_cons_of_mem _ hj)
    unfold total wishes Phi at e ⊢
    simp only [List.map_cons, rsum, List.sum_cons, Rat.intCast_add]
    rw [e, wd_dn (h i List.mem_cons_self) ht]
    grind
theorem Share_mono {its : List It} {r r' q q' : Rat} (ok : Oks its) (h : Share its r q) (h' : Share its r' q') (hr : r ≤ r') : q ≤ q' := by
  by_cases c : (wishes its : Rat) ≤ r
  · exact Spec_mono ok (h.up c) (h'.up (by grind)) (by grind)
  · have s1 := h.dn (by grind)
    by_cases c' : (wishes its : Rat) ≤ r'
    · have := (h'.up c').nn
      have := s1.nn
      grind
    · have := Spec_mono ok (h'.dn (by grind)) s1 (by grind)
      grind
/-- where something is left over -/
theorem Share_spare {its : List It} {r q : Rat} (ok : Oks its) (h : Share its r q) (hs : total its q < r) : ∀ i ∈ its, 0 < i.g → ∃ x : Int, i.m = some x ∧ i.wd q = (x : Rat) := by
  by_cases c : (wishes its : Rat) ≤ r
  · have s := h.up c
    rw [total_up s.nn ok] at hs
    rcases s.or with ⟨a, _⟩ | ⟨_, _, f⟩
    · grind
    · intro i hi gp
      obtain ⟨b, hb, hbt⟩ := f i hi gp
      obtain ⟨b0, wp, c2, hc, -, e⟩ := bd_nn (ok i hi) hb
      unfold It.cap at hc
      obtain ⟨x, hx, rfl⟩ := Option.map_eq_some_iff.mp hc
      refine ⟨x, hx, ?_⟩
      rw [wd_up (ok i hi) s.nn]
      unfold It.dev
      rw [hb]
      show _ + ((i.wt true : Int) : Rat) * rmin q b = _
      unfold rmin
      rw [if_neg (by grind), e, Rat.intCast_sub]
      grind
  · have s := h.dn (by grind)
    have e := total_dn (its := its) s.nn ok
    have ea : - -q = q := by grind
    rw [ea] at e
    have := Spec_le s
    grind
/-- where something lacks -/
theorem Share_over {its : List It} {r q : Rat} (ok : Oks its) (h : Share its r q) (hs : r < total its q) : ∀ i ∈ its, i.wd q = ((if 0 < i.s then i.l else i.w : Int) : Rat) := by
  by_cases c : (wishes its : Rat) ≤ r
  · have s := h.up c
    rw [total_up s.nn ok] at hs
    have := Spec_le s
    grind
  · have s := h.dn (by grind)
    have e := total_dn (its := its) s.nn ok
    have ea : - -q = q := by grind
    rw [ea] at e
    rcases s.or with ⟨a, _⟩ | ⟨_, _, f⟩
    · grind
    · intro i hi
      have w := wd_dn (ok i hi) s.nn
      rw [ea] at w
      rw [w]
      unfold It.dev
      by_cases sp : 0 < i.s
      · obtain ⟨b, hb, hbt⟩ := f i hi sp
        obtain ⟨b0, wp, c2, hc, -, e2⟩ := bd_nn (ok i hi) hb
        have hc' : some (i.w - i.l) = some c2 := hc
        cases hc'
        rw [hb, if_pos sp]
        show _ - ((i.wt false : Int) : Rat) * rmin (-q) b = _
        unfold rmin
        rw [if_neg (by grind), e2, Rat.intCast_sub]
        grind
      · have s0 : i.wt false = 0 := by have := (ok i hi).s0; show i.s = 0; omega
        rw [if_neg sp, s0]
        split <;> simp <;> grind
/-! ### parts of a bottom M, from -B to B -/
structure Vk (M B : Nat) (q : Rat) : Prop where
  kk : ∃ k : Int, q * ((M : Int) : Rat) = (k : Rat)
  lo : -((B : Int) : Rat) ≤ q
  hi : q ≤ ((B : Int) : Rat)
theorem Vk.add {M B C : Nat} {p q : Rat} (h : Vk M B p) (g : Vk M C q) : Vk M (B + C) (p + q) := by
  obtain ⟨⟨k, hk⟩, a, b⟩ := h
  obtain ⟨⟨j, hj⟩, c, d⟩ := g
  refine ⟨⟨k + j, ?_⟩, ?_, ?_⟩
  · rw [Rat.intCast_add]; grind
  · rw [Int.natCast_add, Rat.intCast_add]; grind
  · rw [Int.natCast_add, Rat.intCast_add]; grind
theorem Vk.neg {M B : Nat} {p : Rat} (h : Vk M B p) : Vk M B (-p) := by
  obtain ⟨⟨k, hk⟩, a, b⟩ := h
  refine ⟨⟨-k, ?_⟩, ?_, ?_⟩
  · rw [Rat.intCast_neg]; grind
  · grind
  · grind
theorem Vk.sub {M B C : Nat} {p q : Rat} (h : Vk M B p) (g : Vk M C q) : Vk M (B + C) (p - q) := by
  have := h.add g.neg
  rwa [← Rat.sub_eq_add_neg] at this
theorem Vk.up {M N B C : Nat} {q : Rat} (h : Vk M B q) (hm : M ∣ N) (hb : B ≤ C) : Vk N C q := by
  obtain ⟨⟨k, hk⟩, a, b⟩ := h
  obtain ⟨j, rfl⟩ := hm
  have hc : ((B : Int) : Rat) ≤ ((C : Int) : Rat) := ic_le (by omega)
  refine ⟨⟨k * j, ?_⟩, by grind, by grind⟩
  rw [Int.natCast_mul, Rat.intCast_mul, Rat.intCast_mul]
  grind
theorem Vk.int {M B : Nat} {k : Int} (h : k.natAbs ≤ B) : Vk M B (k : Rat) := by
  refine ⟨⟨k * M, ?_⟩, ?_, ?_⟩
  · rw [Rat.intCast_mul]
  · rw [← Rat.intCast_neg]; exact ic_le (by omega)
  · exact ic_le (by omega)
theorem abs_mul {a b x y : Rat} (ha : 0 ≤ a) (hx : -a ≤ x ∧ x ≤ a) (hy : -b ≤ y ∧ y ≤ b) (hb : 0 ≤ b) : -(a * b) ≤ x * y ∧ x * y ≤ a * b := by
  have h1 := Rat.mul_nonneg (a := a - x) (b := b + y) (by grind) (by grind)
  have h2 := Rat.mul_nonneg (a := a + x) (b := b - y) (by grind) (by grind)
  have h3 := Rat.mul_nonneg (a := a - x) (b := b - y) (by grind) (by grind)
  have h4 := Rat.mul_nonneg (a := a + x) (b := b + y) (by grind) (by grind)
  constructor <;> grind
theorem Vk.mulI {M B C : Nat} {p : Rat} {k : Int} (h : Vk M B p) (hk : k.natAbs ≤ C) : Vk M (B * C) (p * (k : Rat)) := by
  have g := Vk.int (M := 1) hk
  obtain ⟨⟨j, hj⟩, a, b⟩ := h
  have z := abs_mul (ic_0 (b := (B : Int)) (by omega)) ⟨a, b⟩ ⟨g.lo, g.hi⟩ (ic_0 (b := (C : Int)) (by omega))
  refine ⟨⟨j * k, ?_⟩, ?_, ?_⟩
  · rw [Rat.intCast_mul]; grind
  · rw [Int.natCast_mul, Rat.intCast_mul]; exact z.1
  · rw [Int.natCast_mul, Rat.intCast_mul]; exact z.2
theorem Vk.mul {M N B C : Nat} {p q : Rat} (h : Vk M B p) (g : Vk N C q) : Vk (M * N) (B * C) (p * q) := by
  obtain ⟨⟨j, hj⟩, a, b⟩ := h
  obtain ⟨⟨i, hi⟩, c, d⟩ := g
  have z := abs_mul (ic_0 (b := (B : Int)) (by omega)) ⟨a, b⟩ ⟨c, d⟩ (ic_0 (b := (C : Int)) (by omega))
  refine ⟨⟨j * i, ?_⟩, ?_, ?_⟩
  · rw [Rat.intCast_mul, Int.natCast_mul, Rat.intCast_mul]; grind
  · rw [Int.natCast_mul, Rat.intCast_mul]; exact z.1
  · rw [Int.natCast_mul, Rat.intCast_mul]; exact z.2
theorem Vk.divI {M B : Nat} {p : Rat} {w : Nat} (h : Vk M B p) (hw : 0 < w) : Vk (M * w) B (p / ((w : Int) : Rat)) := by
  obtain ⟨⟨j, hj⟩, a, b⟩ := h
  have wp : (0 : Rat) < ((w : Int) : Rat) := ic_p (by omega)
  have w1 : (1 : Rat) ≤ ((w : Int) : Rat) := by
    have := ic_le (a := 1) (b := (w : Int)) (by omega)
    simpa using this
  have dm := div_mul (a := p) wp
  have B0 := ic_0 (b := (B : Int)) (by omega)
  generalize hq : p / ((w : Int) : Rat) = q at *
  refine ⟨⟨j, ?_⟩, ?_, ?_⟩
  · rw [Int.natCast_mul, Rat.intCast_mul]; grind
  · have h1 := Rat.mul_nonneg (a := ((w : Int) : Rat) - 1) (b := ((B : Int) : Rat)) (by grind) B0
    refine Rat.le_of_mul_le_mul_left (c := ((w : Int) : Rat)) ?_ wp
    grind
  · have h1 := Rat.mul_nonneg (a := ((w : Int) : Rat) - 1) (b := ((B : Int) : Rat)) (by grind) B0
    refine Rat.le_of_mul_le_mul_left (c := ((w : Int) : Rat)) ?_ wp
    grind
theorem Vk.min {M B : Nat} {p q : Rat} (h : Vk M B p) (g : Vk M B q) : Vk M B (rmin p q) := by unfold rmin; split <;> assumption
theorem Vk.max {M B : Nat} {p q : Rat} (h : Vk M B p) (g : Vk M B q) : Vk M B (rmax p q) := by unfold rmax; split <;> assumption
theorem nd0 (a : Rat) : (a.num : Rat) = a * (((a.den : Nat) : Int) : Rat) ∧ (0 : Rat) < (((a.den : Nat) : Int) : Rat) := by
  have h0 : (0 : Rat) < (((a.den : Nat) : Int) : Rat) := ic_p (by have := a.den_pos; omega)
  have e : (a.num : Rat) / (((a.den : Nat) : Int) : Rat) = a := by
    have z := Rat.mkRat_eq_div a.num a.den
    rw [Rat.mkRat_self] at z
    exact z.symm
  exact ⟨by grind, h0⟩
theorem Vk.den {M B : Nat} {q : Rat} (h : Vk M B q) : q.den ∣ M := by
  obtain ⟨⟨k, hk⟩, _, _⟩ := h
  obtain ⟨h1, h2⟩ := nd0 q
  have e : (q.num : Rat) * ((M : Int) : Rat) = (k : Rat) * ((q.den : Int) : Rat) := by rw [h1]; grind
  rw [← Rat.intCast_mul, ← Rat.intCast_mul] at e
  have e2 : q.num * (M : Int) = k * (q.den : Int) := Rat.intCast_inj.mp e
  have e3 : (q.num.natAbs * M) = (k.natAbs * q.den) := by
    have := congrArg Int.natAbs e2
    simpa [Int.natAbs_mul] using this
  have d : q.den ∣ q.num.natAbs * M := ⟨k.natAbs, by rw [e3, Nat.mul_comm]⟩
  exact (Nat.Coprime.symm q.reduced).dvd_of_dvd_mul_left d
theorem Vk.bd {M B : Nat} {q : Rat} (h : Vk M B q) (hM : 0 < M) : q.den ≤ M ∧ q.num.natAbs ≤ B * M := by
  have hd := Nat.le_of_dvd hM h.den
  refine ⟨hd, ?_⟩
  obtain ⟨h1, h2⟩ := nd0 q
  have z := abs_mul (ic_0 (b := (B : Int)) (by omega)) ⟨h.lo, h.hi⟩ (y := ((q.den : Int) : Rat)) (b := ((q.den : Int) : Rat)) ⟨by grind, Rat.le_refl⟩ (Rat.le_of_lt h2)
  rw [← h1, ← Rat.intCast_mul, ← Rat.intCast_neg] at z
  have z1 := Rat.intCast_le_intCast.mp z.1
  have z2 := Rat.intCast_le_intCast.mp z.2
  rw [← Int.natCast_mul] at z1 z2
  have : B * q.den ≤ B * M := Nat.mul_le_mul_left _ hd
  omega
theorem gcd_loop (t : CB) (bd : CS) (ht : ∀ a b : Int, evT t [.pu (.int a), .pu (.int b)] = .ok (decide (0 < b))) (hb : ∀ a b : Int, b ≠ 0 → bd [.pu (.int a), .pu (.int b)] = .nx [.pu (.int b), .pu (.int (a.fmod b))]) :
    ∀ (b a : Nat), ∃ k, whN t bd k [.pu (.int a), .pu (.int b)] = .nx [.pu (.int (Nat.gcd a b : Nat)), .pu (.int 0)] := by
  intro b
  induction b using Nat.strongRecOn with
  | _ b ih =>
    intro a
    by_cases hz : b = 0
    · subst hz
      refine ⟨1, ?_⟩
      unfold whN
      rw [ht]
      simp
    · obtain ⟨k, hk⟩ := ih (a % b) (Nat.mod_lt _ (Nat.pos_of_ne_zero hz)) b
      refine ⟨k + 1, ?_⟩
      unfold whN
      have hpos : (0 : Int) < (b : Int) := by omega
      have e1 : ((a : Int).fmod (b : Int)) = ((a % b : Nat) : Int) := by
        rw [Int.fmod_eq_emod_of_nonneg _ (by omega)]
        rfl
      rw [ht, decide_eq_true hpos]
      show fLoop (bd _) _ = _
      rw [hb _ _ (by omega), e1]
      show whN t bd k _ = _
      rw [hk, Nat.gcd_comm a b, Nat.gcd_rec b a, Nat.gcd_comm]
theorem m_cd (a b : Nat) : m_common_divisor [.int a, .int b] = .ok (.int (Nat.gcd a b : Nat)) := by
  obtain ⟨k, hk⟩ := gcd_loop c_common_divisor_t1 c_common_divisor_b1
    (fun a b => by unfold c_common_divisor_t1; walk_at "ev") (fun a b hb => by
      have hb' : cMod a b := hb
      unfold c_common_divisor_b1
      walk_at "ev"
      rw [e_mod, if_pos hb']
      walk_at "ev") b a
  have e := cWh_of hk (fun z => nomatch z)
  unfold m_common_divisor c_common_divisor
  walk_at "ev"
  rw [e]
  walk_at "ev"
def gI (t b : Int) : Int := (Nat.gcd t.natAbs b.natAbs : Nat)
def red (t b : Int) : D := if b < 0 then .tup [.int (t.fdiv (-gI t b)), .int (b.fdiv (-gI t b))] else .tup [.int (t.fdiv (gI t b)), .int (b.fdiv (gI t b))]
theorem abs_int (t : Int) : (if t < 0 then -t else t) = ((t.natAbs : Nat) : Int) := by split <;> omega
theorem gI_pos {t b : Int} (hb : b ≠ 0) : 0 < gI t b := by
  unfold gI
  have : 0 < Nat.gcd t.natAbs b.natAbs := Nat.gcd_pos_of_pos_right _ (by omega)
  omega
theorem gI_bd {t b : Int} {n : Nat} (hb : b ≠ 0) (h : Bd n b) : Bd n (gI t b) := by
  refine Bd.le ?_ h
  unfold gI
  rw [Int.natAbs_natCast]
  exact Nat.le_of_dvd (by omega) (Nat.gcd_dvd_right _ _)
/-! ### parts as rationals -/
def PR (q : Rat) : D := .tup [.int q.num, .int (q.den : Int)]
theorem num_mk {t : Int} {b : Nat} (h : b ≠ 0) : (mkRat t b).num = t / ((Nat.gcd t.natAbs b : Nat) : Int) ∧ (mkRat t b).den = b / Nat.gcd t.natAbs b := by
  unfold mkRat
  rw [dif_neg h, Rat.normalize_eq]
  exact ⟨rfl, rfl⟩
theorem redR {t b : Int} (h : 0 < b) : (Dw.D.tup [.int (t.fdiv (Nat.gcd t.natAbs b.natAbs : Nat)), .int (b.fdiv (Nat.gcd t.natAbs b.natAbs : Nat))]) = PR ((t : Rat) / (b : Rat)) := by
  obtain ⟨n, rfl⟩ := Int.eq_ofNat_of_zero_le (Int.le_of_lt h)
  have hn : n ≠ 0 := by omega
  have e : ((t : Rat) / (((n : Nat) : Int) : Rat)) = mkRat t n := by
    rw [Rat.mkRat_eq_div]
    rfl
  obtain ⟨a, c⟩ := num_mk (t := t) hn
  rw [e]
  unfold PR
  rw [a, c]
  have g0 : (0 : Int) ≤ ((Nat.gcd t.natAbs n : Nat) : Int) := by omega
  rw [show ((n : Nat) : Int).natAbs = n from rfl, Int.fdiv_eq_ediv_of_nonneg _ g0, Int.fdiv_eq_ediv_of_nonneg _ g0]
  rfl
theorem nd (a : Rat) : (a.num : Rat) = a * (((a.den : Nat) : Int) : Rat) ∧ (((a.den : Nat) : Int) : Rat) ≠ 0 ∧ (0 : Rat) < (((a.den : Nat) : Int) : Rat) := by
  have h0 : (0 : Rat) < (((a.den : Nat) : Int) : Rat) := by
    have : (0 : Int) < ((a.den : Nat) : Int) := by have := a.den_pos; omega
    exact Rat.intCast_pos.mpr this
  have e : (a.num : Rat) / (((a.den : Nat) : Int) : Rat) = a := by
    have z := Rat.mkRat_eq_div a.num a.den
    rw [Rat.mkRat_self] at z
    exact z.symm
  refine ⟨?_, ?_, h0⟩
  · grind
  · grind
theorem addR (a b : Rat) : (((a.num * b.den + b.num * a.den : Int) : Rat) / ((a.den * b.den : Int) : Rat)) = a + b := by
  obtain ⟨h1, h2, _⟩ := nd a
  obtain ⟨h3, h4, _⟩ := nd b
  rw [Rat.intCast_add, Rat.intCast_mul, Rat.intCast_mul, Rat.intCast_mul, h1, h3]
  generalize (((a.den : Nat) : Int) : Rat) = x at *
  generalize (((b.den : Nat) : Int) : Rat) = y at *
  grind
theorem subR (a b : Rat) : (((a.num * b.den - b.num * a.den : Int) : Rat) / ((a.den * b.den : Int) : Rat)) = a - b := by
  obtain ⟨h1, h2, _⟩ := nd a
  obtain ⟨h3, h4, _⟩ := nd b
  rw [Rat.intCast_sub, Rat.intCast_mul, Rat.intCast_mul, Rat.intCast_mul, h1, h3]
  generalize (((a.den : Nat) : Int) : Rat) = x at *
  generalize (((b.den : Nat) : Int) : Rat) = y at *
  grind
theorem mulR (a b : Rat) : (((a.num * b.num : Int) : Rat) / ((a.den * b.den : Int) : Rat)) = a * b := by
  obtain ⟨h1, h2, _⟩ := nd a
  obtain ⟨h3, h4, _⟩ := nd b
  rw [Rat.intCast_mul, Rat.intCast_mul, h1, h3]
  generalize (((a.den : Nat) : Int) : Rat) = x at *
  generalize (((b.den : Nat) : Int) : Rat) = y at *
  grind
theorem ltR (a b : Rat) : (a.num * b.den > b.num * a.den) ↔ b < a := by
  obtain ⟨h1, h2, h5⟩ := nd a
  obtain ⟨h3, h4, h6⟩ := nd b
  have e : (a.num * b.den > b.num * a.den) ↔ ((b.num * a.den : Int) : Rat) < ((a.num * b.den : Int) : Rat) := Rat.intCast_lt_intCast.symm
  rw [e, Rat.intCast_mul, Rat.intCast_mul, h1, h3]
  generalize (((a.den : Nat) : Int) : Rat) = x at *
  generalize (((b.den : Nat) : Int) : Rat) = y at *
  have hxy : 0 < x * y := Rat.mul_pos h5 h6
  have e1 : b * y * x = b * (x * y) := by grind
  have e2 : a * x * y = a * (x * y) := by grind
  rw [e1, e2]
  exact Rat.mul_lt_mul_right hxy
def PL (q : Rat) : List D := [.int q.num, .int (q.den : Int)]
theorem PR_eq (q : Rat) : PR q = .tup (PL q) := rfl
theorem e_retT {c : CA} {δ : List Sl} : cRetT c δ = fA (evL c δ) δ kRetT := rfl
theorem e_kretT2 {d e : D} {δ : List Sl} : kRetT [d, e] δ = .rtt [d, e] := rfl
theorem e_ortt {ds : List D} : outF (.rtt ds) = .okt ds := rfl
theorem e_frtt {ds : List D} {k : CS} : fSeq (.rtt ds) k = .rtt ds := rfl
theorem e_rsVt {ds : List D} : rsV (.okt ds) = .ok (.tup ds) := rfl
theorem m_po {t b : Int} {n : Nat} (hb : 0 < b) (hs : Bd n b) (hn : n ≤ 8000) : m_part_of [.int t, .int b] = .okt (PL ((t : Rat) / (b : Rat))) := by
  have hb0 : b ≠ 0 := by omega
  have hg := m_cd t.natAbs b.natAbs
  have h1 : cDiv t (gI t b) := cDiv_bd (by have := gI_pos (t := t) hb0; omega) (gI_bd hb0 hs) (by omega)
  have h2 : cDiv b (gI t b) := cDiv_bd (by have := gI_pos (t := t) hb0; omega) (gI_bd hb0 hs) (by omega)
  have hq := redR (t := t) hb
  rw [PR_eq] at hq
  injection hq with hq
  rw [← hq]
  have nn : ¬ b < 0 := by omega
  have hbn : ((b.natAbs : Nat) : Int) = b := by omega
  have hg' : m_common_divisor [.int (t.natAbs : Nat), .int b] = .ok (.int (gI t b)) := by
    rw [hbn] at hg
    exact hg
  show _ = Rs.okt [.int (t.fdiv (gI t b)), .int (b.fdiv (gI t b))]
  unfold m_part_of c_part_of
  simp_arith [hb0, abs_int, hg', nn, h1, h2, e_div, e_retT, e_kretT2, e_ortt, e_frtt]
/-! ### the program's parts by rationals -/
structure Sz (M B : Nat) : Prop where
  p : 0 < M
  m : M < 2 ^ 4000
  b : B < 2 ^ 4000
theorem Vk.bds {M B : Nat} {q : Rat} (h : Vk M B q) (s : Sz M B) : Bd 8000 q.num ∧ Bd 4000 ((q.den : Nat) : Int) := by
  obtain ⟨a, b⟩ := h.bd s.p
  constructor
  · unfold Bd
    refine Nat.lt_of_le_of_lt b ?_
    have e : (2 : Nat) ^ 8000 = 2 ^ 4000 * 2 ^ 4000 := by rw [← Nat.pow_add]
    rw [e]
    exact Nat.mul_lt_mul'' s.b s.m
  · unfold Bd
    rw [Int.natAbs_natCast]
    exact Nat.lt_of_le_of_lt a s.m
theorem mu2 {p q : Nat} {a b : Int} (h : Bd p a) (g : Bd q b) (hp : p ≤ 8000) (hq : q ≤ 8000) : cMul a b := cMul_bd h g (by omega)
theorem denp (q : Rat) : (0 : Int) < ((q.den : Nat) : Int) := by have := q.den_pos; omega
theorem e_ixP0 {q : Rat} : dIx (PR q) (.int 0) = .ok (.int q.num) := by
  show atD [.int q.num, .int ((q.den : Nat) : Int)] 0 = _
  exact e_at0
theorem e_ixP1 {q : Rat} : dIx (PR q) (.int 1) = .ok (.int ((q.den : Nat) : Int)) := by
  show atD [.int q.num, .int ((q.den : Nat) : Int)] 1 = _
  exact e_at1
theorem e_rsVP {q : Rat} : rsV (.okt (PL q)) = .ok (PR q) := rfl
theorem m_ad {M B C : Nat} {a b : Rat} (ha : Vk M B a) (hb : Vk M C b) (s : Sz M B) (t : Sz M C) : m_added [PR a, PR b] = .ok (PR (a + b)) := by
  obtain ⟨a1, a2⟩ := ha.bds s
  obtain ⟨b1, b2⟩ := hb.bds t
  have h1 := mu2 a1 b2 (by decide) (by decide)
  have h2 := mu2 b1 a2 (by decide) (by decide)
  have h3 := mu2 a2 b2 (by decide) (by decide)
  have hp := m_po (t := a.num * b.den + b.num * a.den) (Int.mul_pos (denp a) (denp b)) (a2.mul b2) (by decide)
  rw [addR] at hp
  unfold m_added c_added
  simp_arith [e_ixP0, e_ixP1, h1, h2, h3, hp, e_rsVP]
theorem m_le {M B C : Nat} {a b : Rat} (ha : Vk M B a) (hb : Vk M C b) (s : Sz M B) (t : Sz M C) : m_less [PR a, PR b] = .ok (PR (a - b)) := by
  obtain ⟨a1, a2⟩ := ha.bds s
  obtain ⟨b1, b2⟩ := hb.bds t
  have h1 := mu2 a1 b2 (by decide) (by decide)
  have h2 := mu2 b1 a2 (by decide) (by decide)
  have h3 := mu2 a2 b2 (by decide) (by decide)
  have hp := m_po (t := a.num * b.den - b.num * a.den) (Int.mul_pos (denp a) (denp b)) (a2.mul b2) (by decide)
  rw [subR] at hp
  unfold m_less c_less
  simp_arith [e_ixP0, e_ixP1, h1, h2, h3, hp, e_rsVP]
theorem m_pr {M B N C : Nat} {a b : Rat} (ha : Vk M B a) (hb : Vk N C b) (s : Sz M B) (t : Sz N C) : m_product [PR a, PR b] = .ok (PR (a * b)) := by
  obtain ⟨a1, a2⟩ := ha.bds s
  obtain ⟨b1, b2⟩ := hb.bds t
  have h1 := mu2 a1 b1 (by decide) (by decide)
  have h3 := mu2 a2 b2 (by decide) (by decide)
  have hp := m_po (t := a.num * b.num) (Int.mul_pos (denp a) (denp b)) (a2.mul b2) (by decide)
  rw [mulR] at hp
  unfold m_product c_product
  simp_arith [e_ixP0, e_ixP1, h1, h3, hp, e_rsVP]
theorem divR (a b : Rat) (h : 0 < b) : (((a.num * b.den : Int) : Rat) / ((a.den * b.num : Int) : Rat)) = a / b := by
  obtain ⟨h1, h2, h5⟩ := nd a
  obtain ⟨h3, h4, h6⟩ := nd b
  rw [Rat.intCast_mul, Rat.intCast_mul, h1, h3]
  have hb : b ≠ 0 := by grind
  generalize (((a.den : Nat) : Int) : Rat) = x at *
  generalize (((b.den : Nat) : Int) : Rat) = y at *
  have e : x * (b * y) ≠ 0 := by
    have := Rat.mul_pos h5 (Rat.mul_pos h h6)
    grind
  have e2 : a * x * y = (a / b) * (x * (b * y)) := by
    rw [Rat.div_def]
    have : b * b⁻¹ = 1 := Rat.mul_inv_cancel b hb
    grind
  rw [e2, Rat.div_def, Rat.mul_assoc, Rat.mul_inv_cancel _ e, Rat.mul_one]
theorem num_gt {q : Rat} : (0 < q.num) ↔ 0 < q := by
  have h1 := @Rat.num_nonneg q
  have h2 := @Rat.num_eq_zero q
  constructor
  · intro h
    have a := h1.mp (by omega)
    by_cases c : q = 0
    · have := h2.mpr c; omega
    · grind
  · intro h
    have a := h1.mpr (by grind)
    by_cases c : q.num = 0
    · have := h2.mp c; grind
    · omega
theorem num_pos {b : Rat} (h : 0 < b) : 0 < b.num := num_gt.mpr h
theorem m_qu {M B N C : Nat} {a b : Rat} (ha : Vk M B a) (hb : Vk N C b) (s : Sz M B) (t : Sz N C) (h : 0 < b) (h1000 : Bd 4000 b.num) : m_quotient [PR a, PR b] = .ok (PR (a / b)) := by
  obtain ⟨a1, a2⟩ := ha.bds s
  obtain ⟨b1, b2⟩ := hb.bds t
  have h1 := mu2 a1 b2 (by decide) (by decide)
  have h3 := mu2 a2 b1 (by decide) (by decide)
  have hp := m_po (t := a.num * b.den) (Int.mul_pos (denp a) (num_pos h)) (a2.mul h1000) (by decide)
  rw [divR a b h] at hp
  unfold m_quotient c_quotient
  simp_arith [e_ixP0, e_ixP1, h1, h3, hp, e_rsVP]
theorem m_mo {M B N C : Nat} {a b : Rat} (ha : Vk M B a) (hb : Vk N C b) (s : Sz M B) (t : Sz N C) : m_is_more [PR a, PR b] = .ok (.bl (decide (b < a))) := by
  obtain ⟨a1, a2⟩ := ha.bds s
  obtain ⟨b1, b2⟩ := hb.bds t
  have h1 := mu2 a1 b2 (by decide) (by decide)
  have h2 := mu2 b1 a2 (by decide) (by decide)
  have e : decide (b.num * a.den < a.num * b.den) = decide (b < a) := decide_eq_decide.mpr (ltR a b)
  unfold m_is_more c_is_more
  simp_arith [e_ixP0, e_ixP1, h1, h2, e]
theorem m_ls {M B N C : Nat} {a b : Rat} (ha : Vk M B a) (hb : Vk N C b) (s : Sz M B) (t : Sz N C) : m_lesser [PR a, PR b] = .ok (PR (rmin a b)) := by
  have h := m_mo ha hb s t
  unfold m_lesser c_lesser rmin
  by_cases c : b < a
  · have c2 : ¬ a < b := by grind
    simp_arith [h, c, c2]
  · by_cases c2 : a < b
    · simp_arith [h, c, c2]
    · have : a = b := by grind
      subst this
      simp_arith [h, c]
theorem m_gr {M B N C : Nat} {a b : Rat} (ha : Vk M B a) (hb : Vk N C b) (s : Sz M B) (t : Sz N C) : m_greater [PR a, PR b] = .ok (PR (rmax a b)) := by
  have h := m_mo ha hb s t
  unfold m_greater c_greater rmax
  by_cases c : b < a
  · have c2 : ¬ a < b := by grind
    simp_arith [h, c, c2]
  · by_cases c2 : a < b
    · simp_arith [h, c, c2]
    · have : a = b := by grind
      subst this
      simp_arith [h, c]
theorem cast1 (t : Int) : (t : Rat) / ((1 : Int) : Rat) = (t : Rat) := by
  have : ((1 : Int) : Rat) = 1 := rfl
  rw [this]
  grind
theorem m_p1 {t : Int} : m_part_of_1 [.int t] = .okt (PL (t : Rat)) := by
  have h : m_part_of_1 [.int t] = m_part_of [.int t, .int 1] := rfl
  rw [h, m_po (n := 2) (by decide) (by unfold Bd; decide) (by decide), cast1]
theorem PR0 : (D.tup [.int 0, .int 1] : D) = PR 0 := rfl
theorem PRi (k : Int) : (D.tup [.int k, .int 1] : D) = PR (k : Rat) := rfl
theorem PRne {a b : Rat} : dNe (PR a) (PR b) = .ok (.bl (!decide (a = b))) := by
  unfold PR
  rw [e_neG (Or.inl rfl) rfl rfl]
  congr 2
  have e : PyData.eqv (D.tup [.int a.num, .int ((a.den : Nat) : Int)]).toPy (D.tup [.int b.num, .int ((b.den : Nat) : Int)]).toPy = (a.num == b.num && ((a.den : Nat) : Int) == ((b.den : Nat) : Int)) := by
    simp [D.toPy, D.toPys, PyData.eqv, PyData.eqvAll]
  rw [e]
  congr 1
  by_cases h : a = b
  · subst h; simp
  · rw [decide_eq_false h]
    by_cases h1 : a.num = b.num
    · by_cases h2 : a.den = b.den
      · exact absurd (Rat.ext h1 h2) h
      · have : ¬ ((a.den : Nat) : Int) = ((b.den : Nat) : Int) := by omega
        simp [h1, this]
        try omega
    · simp [h1]
theorem PReq {a b : Rat} : dEq (PR a) (PR b) = .ok (.bl (decide (a = b))) := by
  have h := @PRne a b
  unfold dEq
  unfold dNe at h
  cases e : dEqB (PR a) (PR b) with
  | ok x =>
    rw [e] at h
    have h2 : (!x) = !decide (a = b) := by
      injection h with h
      injection h
    have : x = decide (a = b) := by cases x <;> cases h3 : decide (a = b) <;> simp_all
    rw [this]
    rfl
  | ex C => rw [e] at h; cases h
  | no => rw [e] at h; cases h
theorem num_lt {q : Rat} : (q.num < 0) ↔ q < 0 := by
  rw [← Rat.not_le, ← Int.not_le, Rat.num_nonneg]
theorem num_ge {q : Rat} : (0 ≤ q.num) ↔ 0 ≤ q := Rat.num_nonneg
/-! ### items -/
theorem m_num (x m : Int) : m_is_number [.int x, .int m] = .ok (.bl (decide (0 ≤ x ∧ x ≤ m))) := by
  unfold m_is_number c_is_number
  by_cases h : 0 ≤ x
  · simp_arith [h, true_and]
  · simp_arith [h, false_and]
theorem m_numN {d e : D} (h : dIsi (isBt .int) d = .ok (.bl false)) : m_is_number [d, e] = .ok (.bl false) := by
  unfold m_is_number c_is_number
  simp_arith [h]
theorem m_numB {b : Bool} {e : D} : m_is_number [.bl b, e] = .ok (.bl false) := by
  unfold m_is_number c_is_number
  walk_at "ev"
def opD : Option Int → D
  | none => .non
  | some m => .int m
def itD (w l : Int) (m : Option Int) (g s : Int) : D := .tup [.int w, .int l, opD m, .int g, .int s]
structure ItOk (w l : Int) (m : Option Int) (g s : Int) : Prop where
  l0 : 0 ≤ l
  lw : l ≤ w
  w1 : w ≤ 1000
  m1 : ∀ x, m = some x → w ≤ x ∧ x ≤ 1000
  g0 : 0 ≤ g
  g1 : g ≤ 20
  s0 : 0 ≤ s
  s1 : s ≤ 20
theorem op_non {m : Option Int} : (opD m).isNon = m.isNone := by cases m <;> rfl
/-- of five things the last two are looked at -/
theorem ii_gs {w l : Int} {m : Option Int} (h0 : 0 ≤ l) (h1 : l ≤ w) (h2 : w ≤ 1000) (h3 : ∀ x, m = some x → w ≤ x ∧ x ≤ 1000) {d e : D} {a b : Bool} (ha : m_is_number [d, .int 20] = .ok (.bl a)) (hb : m_is_number [e, .int 20] = .ok (.bl b)) :
    m_is_item [.tup [.int w, .int l, opD m, d, e]] = .ok (.bl (a && b)) := by
  have n1 := m_num w 1000
  have n2 := m_num l w
  rw [decide_eq_true ⟨by omega, h2⟩] at n1
  rw [decide_eq_true ⟨h0, h1⟩] at n2
  unfold m_is_item c_is_item
  cases m with
  | none =>
    unfold opD
    cases a <;> simp_arith [n1, n2, ha, hb, Bool.false_and]
  | some x =>
    have h4 := h3 x rfl
    have n3 := m_num x 1000
    rw [decide_eq_true ⟨by omega, h4.2⟩] at n3
    have n4 : ¬ x < w := by omega
    unfold opD
    cases a <;> simp_arith [n1, n2, n3, n4, ha, hb, Bool.false_and]
theorem ii_ok {w l : Int} {m : Option Int} {g s : Int} (h : ItOk w l m g s) : m_is_item [itD w l m g s] = .ok (.bl true) := by
  have n1 := m_num g 20
  have n2 := m_num s 20
  rw [decide_eq_true ⟨h.g0, h.g1⟩] at n1
  rw [decide_eq_true ⟨h.s0, h.s1⟩] at n2
  exact ii_gs h.l0 h.lw h.w1 h.m1 n1 n2
theorem it_bd {w l : Int} {m : Option Int} {g s : Int} (h : ItOk w l m g s) : Bd 20 w ∧ Bd 20 l ∧ (∀ x, m = some x → Bd 20 x) ∧ Bd 20 g ∧ Bd 20 s := by
  have h1 := h.l0
  have h2 := h.lw
  have h3 := h.w1
  have h4 := h.g0
  have h5 := h.g1
  have h6 := h.s0
  have h7 := h.s1
  refine ⟨bd_of (by omega) (by omega), bd_of (by omega) (by omega), fun x hx => ?_, bd_of (by omega) (by omega), bd_of (by omega) (by omega)⟩
  have := h.m1 x hx
  exact bd_of (by omega) (by omega)
/-- the law's own sizes -/
theorem m_siz {c : Int} (hc : 0 ≤ c) : ∃ w l m g s, m_law_sizes [.int c] = .ok (itD w l m g s) ∧ ItOk w l m g s := by
  obtain ⟨w, hw, w0, w1⟩ : ∃ w : Int, atD [.int (c % 12 * 10), .int (c % 1001), .int (c % 7)] (c / 1001 % 3) = .ok (.int w) ∧ 0 ≤ w ∧ w ≤ 1000 := by
    have q : c / 1001 % 3 = 0 ∨ c / 1001 % 3 = 1 ∨ c / 1001 % 3 = 2 := by omega
    rcases q with q | q | q <;> rw [q]
    · exact ⟨_, e_at0, by omega, by omega⟩
    · exact ⟨_, e_at1, by omega, by omega⟩
    · exact ⟨_, e_at2, by omega, by omega⟩
  have c0 : 0 ≤ c / 3003 := Int.ediv_nonneg hc (by decide)
  have r0 : 0 ≤ c / 3003 % (w + 1) := Int.emod_nonneg _ (by omega)
  have r1 : c / 3003 % (w + 1) < w + 1 := Int.emod_lt_of_pos _ (by omega)
  obtain ⟨l, hl, l0, l1⟩ : ∃ l : Int, atD [.int 0, .int w, .int (w / 2), .int (c / 3003 % (w + 1))] (c / 3003 % 4) = .ok (.int l) ∧ 0 ≤ l ∧ l ≤ w := by
    have q : c / 3003 % 4 = 0 ∨ c / 3003 % 4 = 1 ∨ c / 3003 % 4 = 2 ∨ c / 3003 % 4 = 3 := by omega
    rcases q with q | q | q | q <;> rw [q]
    · exact ⟨_, e_at0, by omega, by omega⟩
    · exact ⟨_, e_at1, by omega, by omega⟩
    · exact ⟨_, e_at2, by omega, by omega⟩
    · exact ⟨_, e_at3, by omega, by omega⟩
  obtain ⟨m, hm, m1⟩ : ∃ m : Option Int, atD [.non, .int w, .int (if w + c / 768768 % 60 < 1000 then w + c / 768768 % 60 else 1000), .int 1000] (c / 12012 % 4) = .ok (opD m) ∧ ∀ x, m = some x → w ≤ x ∧ x ≤ 1000 := by
    have q : c / 12012 % 4 = 0 ∨ c / 12012 % 4 = 1 ∨ c / 12012 % 4 = 2 ∨ c / 12012 % 4 = 3 := by omega
    rcases q with q | q | q | q <;> rw [q]
    · exact ⟨none, e_at0, fun x h => by cases h⟩
    · exact ⟨some w, e_at1, fun x h => by cases h; omega⟩
    · exact ⟨some _, e_at2, fun x h => by cases h; split <;> omega⟩
    · exact ⟨some 1000, e_at3, fun x h => by cases h; omega⟩
  obtain ⟨g, hg, g0, g1⟩ : ∃ g : Int, atD [.int 0, .int 1, .int (c / 48048 % 21), .int 2] (c / 48048 % 4) = .ok (.int g) ∧ 0 ≤ g ∧ g ≤ 20 := by
    have q : c / 48048 % 4 = 0 ∨ c / 48048 % 4 = 1 ∨ c / 48048 % 4 = 2 ∨ c / 48048 % 4 = 3 := by omega
    rcases q with q | q | q | q <;> rw [q]
    · exact ⟨_, e_at0, by omega, by omega⟩
    · exact ⟨_, e_at1, by omega, by omega⟩
    · exact ⟨_, e_at2, by omega, by omega⟩
    · exact ⟨_, e_at3, by omega, by omega⟩
  obtain ⟨s, hs, s0, s1⟩ : ∃ s : Int, atD [.int 1, .int 0, .int (c / 192192 % 21), .int 3] (c / 192192 % 4) = .ok (.int s) ∧ 0 ≤ s ∧ s ≤ 20 := by
    have q : c / 192192 % 4 = 0 ∨ c / 192192 % 4 = 1 ∨ c / 192192 % 4 = 2 ∨ c / 192192 % 4 = 3 := by omega
    rcases q with q | q | q | q <;> rw [q]
    · exact ⟨_, e_at0, by omega, by omega⟩
    · exact ⟨_, e_at1, by omega, by omega⟩
    · exact ⟨_, e_at2, by omega, by omega⟩
    · exact ⟨_, e_at3, by omega, by omega⟩
  have hmd := e_modP (i := c / 3003) (j := w + 1) (by omega)
  have c1 : cMul (c % 12) 10 := cMul_bd (p := 10) (q := 10) (bd_of (by omega) (by omega)) (by unfold Bd; decide) (by decide)
  refine ⟨w, l, m, g, s, ?_, ⟨l0, l1, w1, m1, g0, g1, s0, s1⟩⟩
  unfold m_law_sizes c_law_sizes itD
  simp_arith [c1, hw, hmd, hl, hm, hg, hs]
/-! ### items, their bounds and weights -/
def It.d (i : It) : D := itD i.w i.l i.m i.g i.s
theorem It.Ok.o {i : It} (h : i.Ok) : ItOk i.w i.l i.m i.g i.s := ⟨h.l0, h.lw, h.w1, h.m1, h.g0, h.g1, h.s0, h.s1⟩
def bdRs : Option Rat → Rs
  | none => .ok .non
  | some b => .okt (PL b)
theorem e_retF {m : Nat} {f : List D → Rs} {c : CA} {δ : List Sl} : cRetF m f c δ = fAr m f δ fRs (c δ) := rfl
theorem e_asgF {i m : Nat} {f : List D → Rs} {c : CA} {δ : List Sl} : cAsgF i m f c δ = fAr m f δ (fAs i) (c δ) := rfl
theorem e_fAr2 {f : List D → Rs} {d e : D} {δ : List Sl} {k : List Sl → Rs → Fl} : fAr 2 f δ k (.ok [d, e]) = k δ (f [d, e]) := rfl
theorem e_fRst {ds : List D} {δ : List Sl} : fRs δ (.okt ds) = .rtt ds := rfl
theorem e_fRsk {d : D} {δ : List Sl} : fRs δ (.ok d) = .rt d := rfl
theorem e_fAst {ds : List D} {δ : List Sl} {i : Nat} : fAs i δ (.okt ds) = .nx (δ.set i (.nt ds)) := rfl
theorem e_fAsk {d : D} {δ : List Sl} {i : Nat} : fAs i δ (.ok d) = .nx (δ.set i (.pu d)) := rfl
theorem bd_none_g {i : It} (u : Bool) (g : ¬ 0 < i.wt u) : i.bd u = none := by unfold It.bd; rw [if_neg g]
theorem m_bo {i : It} (h : i.Ok) (u : Bool) : m_bound_of [i.d, .bl u] = bdRs (i.bd u) := by
  have h20 := h.g1
  have h21 := h.s1
  unfold m_bound_of c_bound_of It.d itD
  cases u with
  | true =>
    by_cases g : 0 < i.g
    · cases em : i.m with
      | none =>
        have hb : i.bd true = none := by unfold It.bd It.cap; rw [em]; split <;> rfl
        rw [hb]
        unfold opD
        simp_arith [g, e_frtt]
        rfl
      | some x =>
        have hb : i.bd true = some (((x - i.w : Int) : Rat) / (i.g : Rat)) := by
          unfold It.bd It.cap
          rw [em, if_pos (show 0 < i.wt true from g)]
          rfl
        have hp := m_po (t := x - i.w) (b := i.g) (n := 6) g (bd_of (by omega) (by omega)) (by decide)
        rw [hb]
        unfold opD
        simp_arith [g, hp, e_retF, e_fAr2, e_fRst, e_frtt, e_ortt]
        rfl
    · have hb := bd_none_g (i := i) true g
      rw [hb]
      simp_arith [g, e_frtt]
      rfl
  | false =>
    by_cases g : 0 < i.s
    · have hb : i.bd false = some (((i.w - i.l : Int) : Rat) / (i.s : Rat)) := by
        unfold It.bd It.cap
        rw [if_pos (show 0 < i.wt false from g)]
        rfl
      have hp := m_po (t := i.w - i.l) (b := i.s) (n := 6) g (bd_of (by omega) (by omega)) (by decide)
      rw [hb]
      simp_arith [g, hp, e_retF, e_fAr2, e_fRst, e_frtt, e_ortt]
      rfl
    · have hb := bd_none_g (i := i) false g
      rw [hb]
      simp_arith [g, e_frtt]
      rfl
theorem m_wo {i : It} (u : Bool) : m_weight_of [i.d, .bl u] = .ok (.int (i.wt u)) := by
  unfold m_weight_of c_weight_of It.d itD It.wt
  cases u <;> walk_at "ev"
def L20 : Nat := 232792560
theorem dv20 : ∀ w : Nat, w < 21 → 0 < w → w ∣ L20 := by decide +kernel
theorem vk_b {i : It} (h : i.Ok) {u : Bool} {b : Rat} (e : i.bd u = some b) : Vk L20 1000 b ∧ 0 ≤ b := by
  obtain ⟨b0, wp, c, hc, e1, -⟩ := bd_nn h e
  obtain ⟨c0, c1⟩ := cap_nn h hc
  have w1 := (wt_nn h u).2
  refine ⟨?_, b0⟩
  obtain ⟨n, hn⟩ := Int.eq_ofNat_of_zero_le (Int.le_of_lt wp)
  have z := (Vk.int (M := 1) (B := 1000) (k := c) (by omega)).divI (w := n) (by omega)
  rw [e1, hn]
  exact z.up (by rw [Nat.one_mul]; exact dv20 n (by omega) (by omega)) (Nat.le_refl _)
theorem sz20 : Sz L20 1000 := ⟨by decide, by decide +kernel, by decide +kernel⟩
theorem wBey_app {its : List It} {i : It} {u : Bool} {f : Rat} : wBey (its ++ [i]) u f = wBey its u f + i.on u f := by
  unfold wBey
  simp
theorem m_wb {its : List It} {u : Bool} {f : Rat} {M B : Nat} (ok : Oks its) (hf : Vk M B f) (s : Sz M B) : m_weight_beyond [.lst (its.map It.d), .bl u, PR f] = .ok (.int (wBey its u f)) := by
  obtain ⟨δ', h1, s4, s5, rfl⟩ : ∃ δ', forGo (tName 4) c_weight_beyond_b1 (its.map It.d) [.pu (.lst (its.map It.d)), .pu (.bl u), .pu (PR f), .pu (.int 0), .un, .un] = .nx δ' ∧ ∃ s4 s5, δ' = [.pu (.lst (its.map It.d)), .pu (.bl u), .pu (PR f), .pu (.int (wBey its u f)), s4, s5] := by
    refine go_pre (l := its) (f := It.d) (fun pre δ => ∃ s4 s5, δ = [.pu (.lst (its.map It.d)), .pu (.bl u), .pu (PR f), .pu (.int (wBey pre u f)), s4, s5]) ⟨.un, .un, rfl⟩ ?_
    rintro pre i post δ e ⟨s4, s5, rfl⟩
    have hi : i.Ok := ok i (by rw [e]; simp)
    refine ⟨[.pu (.lst (its.map It.d)), .pu (.bl u), .pu (PR f), .pu (.int (wBey pre u f)), .pu i.d, s5], rfl, _, .inl ?_, .pu i.d, .pu (match i.bd u with | none => .non | some b => PR b), rfl⟩
    have hb := m_bo hi u
    have hw := m_wo (i := i) u
    rw [wBey_app]
    unfold It.on
    cases eb : i.bd u with
    | none =>
      rw [eb] at hb
      unfold bdRs at hb
      unfold c_weight_beyond_b1
      generalize its.map It.d = X at *
      simp_arith [hb, hw]
    | some b =>
      rw [eb] at hb
      unfold bdRs at hb
      have hm := m_mo (vk_b hi eb).1 hf sz20 s
      have nn : (PR b).isNon = false := rfl
      unfold c_weight_beyond_b1
      generalize its.map It.d = X at *
      by_cases c : f < b
      · simp_arith [hb, hw, hm, c, e_rsVP, nn]
      · simp_arith [hb, hw, hm, c, e_rsVP, nn, Int.add_zero]
  unfold m_weight_beyond c_weight_beyond
  generalize its.map It.d = X at *
  simp_arith [h1]
/-! ### ends -/
def kP (b : Rat) : List Key := [.inl b.num, .inl ((b.den : Nat) : Int)]
theorem kP_inj {a b : Rat} (h : kP a = kP b) : a = b := by
  unfold kP at h
  injection h with h1 h2
  injection h2 with h2 _
  injection h1 with h1
  injection h2 with h2
  exact Rat.ext h1 (by omega)
theorem kP_D (b : Rat) : D.tup ((kP b).map keyD) = PR b := rfl
theorem kP_k (b : Rat) : keysOf (PL b) = some (kP b) := rfl
def putR (bs : List Rat) (b : Rat) : List Rat := if b ∈ bs then bs else bs ++ [b]
theorem putKs_R {bs : List Rat} {b : Rat} : putKs (bs.map kP) (kP b) = (putR bs b).map kP := by
  unfold putKs putR
  by_cases h : b ∈ bs
  · rw [if_pos h, if_pos]
    rw [List.any_map, List.any_eq_true]
    exact ⟨b, h, by simp⟩
  · rw [if_neg h, if_neg, List.map_append]
    · rfl
    · rw [List.any_map, List.any_eq_true]
      rintro ⟨c, hc, e⟩
      have e' : kP c = kP b := by simpa using e
      exact h (kP_inj e' ▸ hc)
theorem putR_mem {bs : List Rat} {b x : Rat} : x ∈ putR bs b ↔ x ∈ bs ∨ x = b := by
  unfold putR
  split
  · constructor
    · exact .inl
    · rintro (h | rfl) <;> assumption
  · simp
theorem putR_nd {bs : List Rat} {b : Rat} (h : bs.Nodup) : (putR bs b).Nodup := by
  unfold putR
  split
  · exact h
  · rename_i n
    rw [List.nodup_append]
    refine ⟨h, by simp, fun a ha c hc e => ?_⟩
    simp at hc
    subst hc e
    exact n ha
theorem putR_len {bs : List Rat} {b : Rat} : (putR bs b).length ≤ bs.length + 1 := by
  unfold putR
  split <;> simp
theorem e_borSd {ks : List (List Key)} : borS (.od ks) = .od ks := rfl
theorem e_borSn {ds : List D} : borS (.nt ds) = .nt ds := rfl
theorem e_putD {i j : Nat} {δ : List Sl} : cPutD i j δ = kPutD i δ δ[i]? δ[j]? := rfl
theorem e_kputD {i : Nat} {δ : List Sl} {bs : List Rat} {b : Rat} (h : bs.length < 10000000) : kPutD i δ (some (.od (bs.map kP))) (some (.nt (PL b))) = .nx (δ.set i (.od ((putR bs b).map kP))) := by
  have e : kPutD i δ (some (.od (bs.map kP))) (some (.nt (PL b))) = if (bs.map kP).length < sizeLine then .nx (δ.set i (.od (putKs (bs.map kP) (kP b)))) else .no := rfl
  rw [e, if_pos (szl (by rw [List.length_map]; exact h)), putKs_R]
/-- put in at its place -/
def insR (fs : List Rat) (b : Rat) : List Rat := fs.take (fs.filter fun x => decide (x < b)).length ++ [b] ++ fs.drop (fs.filter fun x => decide (x < b)).length
theorem ins_sorted (b : Rat) : ∀ fs : List Rat, fs.Pairwise (· < ·) → fs.take (fs.filter fun x => decide (x < b)).length = (fs.filter fun x => decide (x < b)) ∧ fs.drop (fs.filter fun x => decide (x < b)).length = (fs.filter fun x => !decide (x < b))
  | [], _ => ⟨rfl, rfl⟩
  | a :: fs, h => by
    obtain ⟨h1, h2⟩ := List.pairwise_cons.mp h
    by_cases c : a < b
    · obtain ⟨e1, e2⟩ := ins_sorted b fs h2
      simp only [List.filter_cons, c, decide_true, if_true, List.length_cons, List.take_succ_cons, List.drop_succ_cons, Bool.not_true]
      refine ⟨by rw [e1], by simpa using e2⟩
    · have hn : ∀ x ∈ a :: fs, ¬ x < b := fun x hx => by
        rcases List.mem_cons.mp hx with e | hx
        · rw [e]; exact c
        · have := h1 x hx; grind
      have e0 : ((a :: fs).filter fun x => decide (x < b)) = [] := List.filter_eq_nil_iff.mpr fun x hx => by simpa using hn x hx
      have e1 : ((a :: fs).filter fun x => !decide (x < b)) = a :: fs := List.filter_eq_self.mpr fun x hx => by simpa using hn x hx
      rw [e0, e1]
      exact ⟨rfl, rfl⟩
theorem insR_mem {fs : List Rat} {b x : Rat} : x ∈ insR fs b ↔ x ∈ fs ∨ x = b := by
  unfold insR
  generalize (fs.filter fun x => decide (x < b)).length = n
  have e : x ∈ fs ↔ x ∈ fs.take n ∨ x ∈ fs.drop n := by
    rw [← List.mem_append, List.take_append_drop]
  simp only [List.mem_append, List.mem_singleton, e]
  constructor
  · rintro ((h | h) | h)
    · exact .inl (.inl h)
    · exact .inr h
    · exact .inl (.inr h)
  · rintro ((h | h) | h)
    · exact .inl (.inl h)
    · exact .inr h
    · exact .inl (.inr h)
theorem insR_pw {fs : List Rat} {b : Rat} (h : fs.Pairwise (· < ·)) (n : b ∉ fs) : (insR fs b).Pairwise (· < ·) := by
  obtain ⟨e1, e2⟩ := ins_sorted b fs h
  unfold insR
  rw [e1, e2, List.append_assoc, List.pairwise_append]
  refine ⟨h.filter _, List.pairwise_cons.mpr ⟨fun x hx => ?_, h.filter _⟩, fun x hx y hy => ?_⟩
  · obtain ⟨hx1, hx2⟩ := List.mem_filter.mp hx
    have : ¬ x < b := by simpa using hx2
    have : x ≠ b := fun e => n (e ▸ hx1)
    grind
  · obtain ⟨hx1, hx2⟩ := List.mem_filter.mp hx
    have hx3 : x < b := by simpa using hx2
    rcases List.mem_cons.mp hy with e | hy
    · rw [e]; exact hx3
    · obtain ⟨hy1, hy2⟩ := List.mem_filter.mp hy
      have : ¬ y < b := by simpa using hy2
      grind
theorem insR_len {fs : List Rat} {b : Rat} : (insR fs b).length = fs.length + 1 := by
  unfold insR
  have := List.length_filter_le (fun x => decide (x < b)) fs
  simp
  omega
/-- the ends, rising -/
structure Ends (its : List It) (u : Bool) (es : List Rat) : Prop where
  pw : es.Pairwise (· < ·)
  mem : ∀ b, b ∈ es ↔ ∃ i ∈ its, i.bd u = some b
theorem m_eo {its : List It} {u : Bool} (ok : Oks its) (hl : its.length ≤ 100) : ∃ es, m_ends_of [.lst (its.map It.d), .bl u] = .okl (es.map PR) ∧ Ends its u es := by
  obtain ⟨δ', h1, bs, s3, s5, nd, hm, hln, rfl⟩ : ∃ δ', forGo (tName 3) c_ends_of_b1 (its.map It.d) [.pu (.lst (its.map It.d)), .pu (.bl u), .od (([] : List Rat).map kP), .un, .un, .un, .un, .un] = .nx δ' ∧ ∃ (bs : List Rat) (s3 s5 : Sl), bs.Nodup ∧ (∀ b, b ∈ bs ↔ ∃ i ∈ its, i.bd u = some b) ∧ bs.length ≤ its.length ∧ δ' = [.pu (.lst (its.map It.d)), .pu (.bl u), .od (bs.map kP), s3, .un, s5, .un, .un] := by
    refine go_pre (l := its) (f := It.d) (fun pre δ => ∃ (bs : List Rat) (s3 s5 : Sl), bs.Nodup ∧ (∀ b, b ∈ bs ↔ ∃ i ∈ pre, i.bd u = some b) ∧ bs.length ≤ pre.length ∧ δ = [.pu (.lst (its.map It.d)), .pu (.bl u), .od (bs.map kP), s3, .un, s5, .un, .un]) ⟨[], .un, .un, List.nodup_nil, by simp, Nat.le_refl _, rfl⟩ ?_
    rintro pre i post δ e ⟨bs, s3, s5, nd, hm, hln, rfl⟩
    have hi : i.Ok := ok i (by rw [e]; simp)
    have hpl : pre.length ≤ its.length := by rw [e]; simp
    have hb := m_bo hi u
    cases eb : i.bd u with
    | none =>
      rw [eb] at hb
      unfold bdRs at hb
      refine ⟨_, rfl, [.pu (.lst (its.map It.d)), .pu (.bl u), .od (bs.map kP), .pu i.d, .un, .pu .non, .un, .un], .inl ?_, bs, .pu i.d, .pu .non, nd, fun b => ?_, by simp; omega, rfl⟩
      · show c_ends_of_b1 [.pu (.lst (its.map It.d)), .pu (.bl u), .od (bs.map kP), .pu i.d, .un, s5, .un, .un] = _
        unfold c_ends_of_b1
        generalize its.map It.d = X at *
        simp_arith [hb, e_asgF, e_fAr2, e_fAsk, e_borSd, e_borSn]
      · rw [hm b]
        simp only [List.mem_append, List.mem_singleton]
        constructor
        · rintro ⟨j, hj, z⟩; exact ⟨j, .inl hj, z⟩
        · rintro ⟨j, hj | rfl, z⟩
          · exact ⟨j, hj, z⟩
          · rw [eb] at z; cases z
    | some b =>
      rw [eb] at hb
      unfold bdRs at hb
      refine ⟨_, rfl, [.pu (.lst (its.map It.d)), .pu (.bl u), .od ((putR bs b).map kP), .pu i.d, .un, .nt (PL b), .un, .un], .inl ?_, putR bs b, .pu i.d, .nt (PL b), putR_nd nd, fun c => ?_, by have := putR_len (bs := bs) (b := b); simp; omega, rfl⟩
      · show c_ends_of_b1 [.pu (.lst (its.map It.d)), .pu (.bl u), .od (bs.map kP), .pu i.d, .un, s5, .un, .un] = _
        have hk := fun δ => e_kputD (i := 2) (δ := δ) (bs := bs) (b := b) (by omega)
        unfold c_ends_of_b1
        generalize its.map It.d = X at *
        generalize bs.map kP = Y at *
        simp_arith [hb, e_asgF, e_fAr2, e_fAst, e_borSd, e_borSn, e_varnt, e_putD, hk]
      · rw [putR_mem, hm c]
        simp only [List.mem_append, List.mem_singleton]
        constructor
        · rintro (⟨j, hj, z⟩ | rfl)
          · exact ⟨j, .inl hj, z⟩
          · exact ⟨i, .inr rfl, eb⟩
        · rintro ⟨j, hj | rfl, z⟩
          · exact .inl ⟨j, hj, z⟩
          · rw [eb] at z; cases z; exact .inr rfl
  obtain ⟨δ', h2, fs, s5, s6, pw, hf, hfl, rfl⟩ : ∃ δ', forGo (tName 5) c_ends_of_b2 (bs.map PR) [.pu (.lst (its.map It.d)), .pu (.bl u), .un, s3, .ow (([] : List Rat).map PR), s5, .un, .un] = .nx δ' ∧ ∃ (fs : List Rat) (s5 s6 : Sl), fs.Pairwise (· < ·) ∧ (∀ b, b ∈ fs ↔ b ∈ bs) ∧ fs.length = bs.length ∧ δ' = [.pu (.lst (its.map It.d)), .pu (.bl u), .un, s3, .ow (fs.map PR), s5, s6, .un] := by
    refine go_pre (l := bs) (f := PR) (fun pre δ => ∃ (fs : List Rat) (s5 s6 : Sl), fs.Pairwise (· < ·) ∧ (∀ b, b ∈ fs ↔ b ∈ pre) ∧ fs.length = pre.length ∧ δ = [.pu (.lst (its.map It.d)), .pu (.bl u), .un, s3, .ow (fs.map PR), s5, s6, .un]) ⟨[], s5, .un, List.Pairwise.nil, by simp, rfl, rfl⟩ ?_
    rintro pre b post δ e ⟨fs, s5, s6, pw, hf, hfl, rfl⟩
    have hbl : pre.length < bs.length := by rw [e]; simp
    have vk : ∀ x ∈ bs, Vk L20 1000 x := fun x hx => by
      obtain ⟨i, hi, z⟩ := (hm x).mp hx
      exact (vk_b (ok i hi) z).1
    have vb : Vk L20 1000 b := vk b (by rw [e]; simp)
    have nb : b ∉ fs := fun z => by
      have z2 := (hf b).mp z
      rw [e, List.nodup_append] at nd
      exact nd.2.2 b z2 b List.mem_cons_self rfl
    refine ⟨_, rfl, [.pu (.lst (its.map It.d)), .pu (.bl u), .un, s3, .ow ((insR fs b).map PR), .pu (PR b), .pu (.int ((fs.filter fun x => decide (x < b)).length : Nat)), .un], .inl ?_, insR fs b, .pu (PR b), _, insR_pw pw nb, fun c => ?_, by rw [insR_len, hfl]; simp, rfl⟩
    · have key : ∀ (A B C E F : Sl), lcGo (tName 7) c_ends_of_q1 (cVar 7) [A, B, .un, C, E, .pu (PR b), F, .un] (fs.map PR) [] = .ok ([] ++ ((fs.map PR).filter (fun d => match d with | .tup [.int x, .int y] => decide (x * ((b.den : Nat) : Int) < b.num * y) | _ => false)).map id) := fun A B C E F => by
        refine lc_filter _ _ (fun d hd => ?_) (szl (by simp; omega))
        obtain ⟨x, hx, rfl⟩ := List.mem_map.mp hd
        have hmo := m_mo vb (vk x (by rw [e]; exact List.mem_append_left _ ((hf x).mp hx))) sz20 sz20
        refine ⟨_, rfl, ?_, fun _ => rfl⟩
        show c_ends_of_q1 [A, B, .un, C, E, .pu (PR b), F, .pu (PR x)] = .ok (decide (x.num * ((b.den : Nat) : Int) < b.num * ((x.den : Nat) : Int)))
        have e2 : decide (x.num * ((b.den : Nat) : Int) < b.num * ((x.den : Nat) : Int)) = decide (x < b) := decide_eq_decide.mpr (ltR b x)
        rw [e2]
        unfold c_ends_of_q1
        simp_arith [hmo]
      have cnt : ((fs.map PR).filter (fun d => match d with | .tup [.int x, .int y] => decide (x * ((b.den : Nat) : Int) < b.num * y) | _ => false)).length = (fs.filter fun x => decide (x < b)).length := by
        rw [List.filter_map, List.length_map]
        congr 1
        apply List.filter_congr
        intro x _
        exact decide_eq_decide.mpr (ltR b x)
      have hlc : ∀ A B C E F : Sl, lcGo (tName 7) c_ends_of_q1 (cVar 7) [A, B, .un, C, E, .pu (PR b), F, .un] (fs.map PR) [] = .ok (((fs.map PR).filter (fun d => match d with | .tup [.int x, .int y] => decide (x * ((b.den : Nat) : Int) < b.num * y) | _ => false))) := fun A B C E F => by rw [key, List.nil_append, List.map_id]
      generalize ((fs.map PR).filter (fun d => match d with | .tup [.int x, .int y] => decide (x * ((b.den : Nat) : Int) < b.num * y) | _ => false)) = Z at *
      have hle : (fs.filter fun x => decide (x < b)).length ≤ fs.length := List.length_filter_le ..
      have hins : ∀ δ, kIns1 4 (((fs.filter fun x => decide (x < b)).length : Nat) : Int) (PR b) δ (some (.ow (fs.map PR))) = .nx (δ.set 4 (.ow ((insR fs b).map PR))) := fun δ => by
        rw [e_kins1 (by simp; omega) (by omega) (by omega)]
        unfold insR
        rw [Int.toNat_natCast, List.map_append, List.map_append, List.map_take, List.map_drop]
        rfl
      show c_ends_of_b2 [.pu (.lst (its.map It.d)), .pu (.bl u), .un, s3, .ow (fs.map PR), .pu (PR b), s6, .un] = _
      have hlf : ∀ q, D.flat (.int q) = true := fun q => by unfold D.flat; rfl
      unfold c_ends_of_b2
      generalize its.map It.d = X at *
      generalize fs.map PR = Y at *
      simp_arith [hlc, cnt, hins, e_toLn, hlf]
    · rw [insR_mem, hf c]
      simp
  refine ⟨fs, ?_, pw, fun b => by rw [hf, hm]⟩
  have hD : (bs.map kP).map (fun k => D.tup (k.map keyD)) = bs.map PR := by
    rw [List.map_map]
    rfl
  have hfd : ∀ A B C E F G H : Sl, kForD 2 (tName 5) c_ends_of_b2 [A, B, C, E, F, G, H, .un] (some (.od (bs.map kP))) = onlyNx (forGo (tName 5) c_ends_of_b2 (bs.map PR) [A, B, .un, E, F, G, H, .un]) := fun A B C E F G H => by
    show onlyNx (forGo _ _ ((bs.map kP).map (fun k => D.tup (k.map keyD))) _) = _
    rw [hD]
    rfl
  have e_forD : ∀ δ, cForD 2 (tName 5) c_ends_of_b2 δ = kForD 2 (tName 5) c_ends_of_b2 δ δ[2]? := fun δ => rfl
  have e_newD : ∀ δ, cNewD 2 δ = .nx (δ.set 2 (.od (([] : List Rat).map kP))) := fun δ => rfl
  have e_on : ∀ δ, onlyNx (.nx δ) = .nx δ := fun δ => rfl
  have n0 : ([] : List D) = ([] : List Rat).map PR := rfl
  unfold m_ends_of c_ends_of
  rw [List.map_nil] at h2
  generalize hX : its.map It.d = X at *
  generalize hY : fs.map PR = Y at *
  generalize hZ : bs.map PR = Z at *
  generalize hK : bs.map kP = Kk at *
  generalize hE : ([] : List Rat).map kP = E0 at *
  simp_arith [e_newD, h1, e_forD, hfd, h2, e_on]
/-! ### the share -/
def L240 : Nat := 45942070740263958472221787130251842836869188553971257018827742120147044948642588526644918430507590896000
theorem dv240 : ∀ w : Nat, w < 241 → 0 < w → w ∣ L240 := by decide +kernel
structure Big (M B : Nat) : Prop where
  l : L20 ∣ M
  p : 0 < M
  m : M < 2 ^ 3500
  b : B < 2 ^ 3000
  c : 1000000 ≤ B
theorem p2 {a b : Nat} (h : a ≤ b) : (2 : Nat) ^ a ≤ 2 ^ b := Nat.pow_le_pow_right (by decide) h
theorem Big.sz {M B C : Nat} (h : Big M B) (hc : C < 2 ^ 4000) : Sz M C := ⟨h.p, Nat.lt_of_lt_of_le h.m (p2 (by decide)), hc⟩
theorem lt4 {a : Nat} (h : a < 2 ^ 3999) : a < 2 ^ 4000 := Nat.lt_of_lt_of_le h (p2 (by decide))
theorem Big.b4 {M B : Nat} (h : Big M B) : B < 2 ^ 4000 := Nat.lt_of_lt_of_le h.b (p2 (by decide))
theorem vk_w {M : Nat} {w : Int} (h0 : 0 ≤ w) (h : w ≤ 240) : Vk M 240 (w : Rat) := Vk.int (by omega)
theorem wBey_240 {its : List It} {u : Bool} {f : Rat} (ok : Oks its) (hl : its.length ≤ 12) : 0 ≤ wBey its u f ∧ wBey its u f ≤ 240 := by
  have := wBey_le (u := u) (f := f) ok
  omega
theorem Vk.betw {M B C : Nat} {q r : Rat} (h : Vk M B q) (h0 : 0 ≤ q) (hr : q ≤ r) (k : r ≤ ((C : Int) : Rat)) : Vk M C q := by
  obtain ⟨kk, _, _⟩ := h
  have := ic_0 (b := (C : Int)) (by omega)
  exact ⟨kk, by grind, by grind⟩
theorem Vk.betwN {M B C : Nat} {q r : Rat} (h : Vk M B q) (h0 : -r ≤ q) (hr : q ≤ r) (k : r ≤ ((C : Int) : Rat)) : Vk M C q := by
  obtain ⟨kk, _, _⟩ := h
  exact ⟨kk, by grind, by grind⟩
theorem small (n : Nat) (h : n < 2 ^ 200 := by decide +kernel) : n < 2 ^ 4000 := Nat.lt_of_lt_of_le h (p2 (by decide))
/-- a share between -/
theorem vk_share {M B : Nat} {f r : Rat} {w : Int} (hb : Big M B) (hf : Vk M 1000 f) (hr : Vk M B r) (w0 : 0 < w) (w1 : w ≤ 240) : Vk (M * L240) (B + 1000) (f + r / (w : Rat)) := by
  obtain ⟨n, rfl⟩ := Int.eq_ofNat_of_zero_le (Int.le_of_lt w0)
  have h1 := hr.divI (w := n) (by omega)
  have h2 := h1.up (N := M * L240) (Nat.mul_dvd_mul_left M (dv240 n (by omega) (by omega))) (Nat.le_refl _)
  have h3 := (hf.up (N := M * L240) (Nat.dvd_mul_right ..) (Nat.le_refl 1000)).add h2
  rw [Nat.add_comm]
  exact h3
theorem m_qw {M B : Nat} {r : Rat} {w : Int} (hb : Big M B) (hr : Vk M B r) (w0 : 0 < w) (w1 : w ≤ 240) : m_quotient [PR r, PR (w : Rat)] = .ok (PR (r / (w : Rat))) := by
  refine m_qu hr (vk_w (M := 1) (by omega) w1) (hb.sz hb.b4) ⟨by decide, by decide +kernel, small 240⟩ (ic_p w0) ?_
  show Bd 4000 w
  exact (show Bd 10 w from bd_of (by omega) (by omega)).mono (by decide)
theorem m_adW {M B : Nat} {f r : Rat} {w : Int} (hb : Big M B) (hf : Vk M 1000 f) (hr : Vk M B r) (w0 : 0 < w) (w1 : w ≤ 240) : m_added [PR f, PR (r / (w : Rat))] = .ok (PR (f + r / (w : Rat))) := by
  obtain ⟨n, rfl⟩ := Int.eq_ofNat_of_zero_le (Int.le_of_lt w0)
  have h1 := hr.divI (w := n) (by omega)
  have hM : M * n < 2 ^ 4000 := by
    have : M * n < 2 ^ 3500 * 2 ^ 8 := Nat.mul_lt_mul'' hb.m (by omega)
    rw [← Nat.pow_add] at this
    exact Nat.lt_of_lt_of_le this (p2 (by decide))
  have hp : 0 < M * n := Nat.mul_pos hb.p (by omega)
  exact m_ad (hf.up (Nat.dvd_mul_right ..) (Nat.le_refl _)) h1 ⟨hp, hM, small 1000⟩ ⟨hp, hM, hb.b4⟩
structure FarI (its : List It) (u : Bool) (L : Rat) (es : List Rat) (f r : Rat) (M B : Nat) : Prop where
  f0 : 0 ≤ f
  r0 : 0 ≤ r
  rz : r = 0 → f = 0
  hL : Phi its u f + r = L
  hb : ∀ i ∈ its, ∀ b, i.bd u = some b → b ≤ f ∨ b ∈ es
  top : f = 0 ∨ ∃ i ∈ its, i.bd u = some f
  le : ∀ e ∈ es, f ≤ e ∧ Vk L20 1000 e
  pw : es.Pairwise (· < ·)
  vf : Vk L20 1000 f
  vr : Vk M B r
  lb : L ≤ ((B : Int) : Rat)
theorem far_go {its : List It} {u : Bool} {L : Rat} {M B : Nat} (ok : Oks its) (hl : its.length ≤ 12) (big : Big M B) : ∀ (es : List Rat) (f r : Rat) (s4 s5 s6 : Sl), FarI its u L es f r M B → (∀ e ∈ es, ∃ i ∈ its, i.bd u = some e) →
    (∃ t, forGo (tName 4) c_far_share_b1 (es.map PR) [.pu (.lst (its.map It.d)), .pu (.bl u), .pu (PR r), .pu (PR f), s4, s5, s6] = .rt (PR t) ∧ Spec its u L t ∧ Vk (M * L240) (B + 1000) t) ∨
    (∃ f' r' t4 t5 t6, forGo (tName 4) c_far_share_b1 (es.map PR) [.pu (.lst (its.map It.d)), .pu (.bl u), .pu (PR r), .pu (PR f), s4, s5, s6] = .nx [.pu (.lst (its.map It.d)), .pu (.bl u), .pu (PR r'), .pu (PR f'), t4, t5, t6] ∧ FarI its u L [] f' r' M B)
  | [], f, r, s4, s5, s6, I, _ => .inr ⟨f, r, s4, s5, s6, rfl, I⟩
  | e :: es, f, r, s4, s5, s6, I, hes => by
    have hwb := m_wb ok (u := u) (I.vf.up big.l (Nat.le_refl _)) (big.sz (small 1000))
    obtain ⟨w0, w1⟩ := wBey_240 (u := u) (f := f) ok hl
    have fe := (I.le e List.mem_cons_self).1
    have ve := (I.le e List.mem_cons_self).2
    have h1 := m_le ve I.vf sz20 sz20
    have v1 := ve.sub I.vf
    have h2 := m_pr v1 (vk_w (M := 1) w0 w1) ⟨by decide, by decide +kernel, small 2000⟩ ⟨by decide, by decide +kernel, small 240⟩
    have v2 := (v1.mulI (k := wBey its u f) (C := 240) (by omega)).up big.l (Nat.le_refl _)
    have h3 := m_mo I.vr v2 (big.sz big.b4) (big.sz (small _))
    have hp := m_p1 (t := wBey its u f)
    have hgo : forGo (tName 4) c_far_share_b1 ((e :: es).map PR) [.pu (.lst (its.map It.d)), .pu (.bl u), .pu (PR r), .pu (PR f), s4, s5, s6] = fLoop (c_far_share_b1 [.pu (.lst (its.map It.d)), .pu (.bl u), .pu (PR r), .pu (PR f), .pu (PR e), s5, s6]) (forGo (tName 4) c_far_share_b1 (es.map PR)) := rfl
    by_cases c : (e - f) * (wBey its u f : Rat) < r
    · have h4 := m_le I.vr v2 (big.sz big.b4) (big.sz (small _))
      have hst : c_far_share_b1 [.pu (.lst (its.map It.d)), .pu (.bl u), .pu (PR r), .pu (PR f), .pu (PR e), s5, s6] = .nx [.pu (.lst (its.map It.d)), .pu (.bl u), .pu (PR (r - (e - f) * (wBey its u f : Rat))), .pu (PR e), .pu (PR e), .pu (PR (wBey its u f : Rat)), .pu (PR ((e - f) * (wBey its u f : Rat)))] := by
        unfold c_far_share_b1
        generalize its.map It.d = X at *
        simp_arith [hwb, hp, e_rsVP, h1, h2, h3, c, h4]
      have hbb : ∀ i ∈ its, ∀ b, i.bd u = some b → b ≤ f ∨ e ≤ b := fun i hi b hbd => by
        rcases I.hb i hi b hbd with q | q
        · exact .inl q
        · rcases List.mem_cons.mp q with q | q
          · rw [q]; exact .inr Rat.le_refl
          · exact .inr (Rat.le_of_lt ((List.pairwise_cons.mp I.pw).1 b q))
      have hph := Phi_lin (u := u) (f := f) (e := e) (x := e) fe Rat.le_refl ok hbb
      have Lr : r - (e - f) * (wBey its u f : Rat) ≤ L := by
        have z := Phi_mono (u := u) (a := 0) (b := e) (by have := I.f0; grind) ok
        rw [Phi_0 ok] at z
        have := I.hL
        grind
      have I2 : FarI its u L es e (r - (e - f) * (wBey its u f : Rat)) M B := {
        f0 := by have := I.f0; grind
        r0 := by grind
        rz := fun z => by grind
        hL := by have := I.hL; grind
        hb := fun i hi b hbd => by
          rcases I.hb i hi b hbd with q | q
          · exact .inl (by grind)
          · rcases List.mem_cons.mp q with q | q
            · rw [q]; exact .inl Rat.le_refl
            · exact .inr q
        top := .inr (hes e List.mem_cons_self)
        le := fun x hx => ⟨Rat.le_of_lt ((List.pairwise_cons.mp I.pw).1 x hx), (I.le x (List.mem_cons_of_mem _ hx)).2⟩
        pw := (List.pairwise_cons.mp I.pw).2
        vf := ve
        vr := (I.vr.sub v2).betw (by grind) Lr I.lb
        lb := I.lb }
      rw [hgo, hst]
      exact far_go ok hl big es e _ _ _ _ I2 fun x hx => hes x (List.mem_cons_of_mem _ hx)
    · left
      have hbb : ∀ i ∈ its, ∀ b, i.bd u = some b → b ≤ f ∨ e ≤ b := fun i hi b hbd => by
        rcases I.hb i hi b hbd with q | q
        · exact .inl q
        · rcases List.mem_cons.mp q with q | q
          · rw [q]; exact .inr Rat.le_refl
          · exact .inr (Rat.le_of_lt ((List.pairwise_cons.mp I.pw).1 b q))
      by_cases z : r = 0
      · have hf := I.rz z
        subst z hf
        have hL : L = 0 := by have := I.hL; rw [Phi_0 ok] at this; grind
        refine ⟨0, ?_, by rw [hL]; exact Spec_0 ok, ?_⟩
        · have hst : c_far_share_b1 [.pu (.lst (its.map It.d)), .pu (.bl u), .pu (PR 0), .pu (PR 0), .pu (PR e), s5, s6] = .rt (PR 0) := by
            unfold c_far_share_b1
            generalize its.map It.d = X at *
            simp_arith [hwb, hp, e_rsVP, h1, h2, h3, c, PR0, PReq]
          rw [hgo, hst]
          rfl
        · exact I.vf.up (Nat.dvd_trans big.l (Nat.dvd_mul_right ..)) (by omega)
      · have rp : 0 < r := by have := I.r0; grind
        obtain ⟨wp, sp⟩ := Spec_amid ok I.f0 fe hbb rp I.hL (by grind)
        have vf := I.vf.up big.l (Nat.le_refl 1000)
        have q1 := m_qw big I.vr wp w1
        have q2 := m_adW big vf I.vr wp w1
        refine ⟨_, ?_, sp, vk_share big vf I.vr wp w1⟩
        have hst : c_far_share_b1 [.pu (.lst (its.map It.d)), .pu (.bl u), .pu (PR r), .pu (PR f), .pu (PR e), s5, s6] = .rt (PR (f + r / (wBey its u f : Rat))) := by
          unfold c_far_share_b1
          generalize its.map It.d = X at *
          simp_arith [hwb, hp, e_rsVP, h1, h2, h3, c, PR0, PReq, z, q1, q2]
        rw [hgo, hst]
        rfl
theorem m_fs {its : List It} {u : Bool} {L : Rat} {M B : Nat} (ok : Oks its) (hl : its.length ≤ 12) (big : Big M B) (h0 : 0 ≤ L) (hv : Vk M B L) : ∃ t, m_far_share [.lst (its.map It.d), .bl u, PR L] = .ok (PR t) ∧ Spec its u L t ∧ Vk (M * L240) (B + 1000) t := by
  obtain ⟨es, he, hs⟩ := m_eo (u := u) ok (by omega)
  have I0 : FarI its u L es 0 L M B := {
    f0 := Rat.le_refl
    r0 := h0
    rz := fun _ => rfl
    hL := by rw [Phi_0 ok]; grind
    hb := fun i hi b hb => .inr ((hs.mem b).mpr ⟨i, hi, hb⟩)
    top := .inl rfl
    le := fun e h => by
      obtain ⟨i, hi, hb⟩ := (hs.mem e).mp h
      exact ⟨(vk_b (ok i hi) hb).2, (vk_b (ok i hi) hb).1⟩
    pw := hs.pw
    vf := Vk.int (k := 0) (by decide)
    vr := hv
    lb := hv.hi }
  rcases far_go ok hl big es 0 L .un .un .un I0 (fun e h => (hs.mem e).mp h) with ⟨t, h1, h2, h3⟩ | ⟨f, r, s4, s5, s6, h1, I⟩
  · refine ⟨t, ?_, h2, h3⟩
    unfold m_far_share c_far_share
    generalize its.map It.d = X at *
    generalize es.map PR = Y at *
    simp_arith [he, PR0, h1]
  · have hwb := m_wb ok (u := u) (I.vf.up big.l (Nat.le_refl _)) (big.sz (small 1000))
    obtain ⟨w0, w1⟩ := wBey_240 (u := u) (f := f) ok hl
    have hp := m_p1 (t := wBey its u f)
    have tp : IsTop its u f := ⟨fun i hi b hb => by
      rcases I.hb i hi b hb with q | q
      · exact q
      · (cases q), I.top⟩
    by_cases z : r = 0
    · have hf := I.rz z
      subst z hf
      have hL : L = 0 := by have := I.hL; rw [Phi_0 ok] at this; grind
      refine ⟨0, ?_, by rw [hL]; exact Spec_0 ok, I.vf.up (Nat.dvd_trans big.l (Nat.dvd_mul_right ..)) (by omega)⟩
      unfold m_far_share c_far_share
      generalize its.map It.d = X at *
      generalize es.map PR = Y at *
      by_cases w : wBey its u 0 = 0
      · simp_arith [he, PR0, h1, hwb, w]
      · simp_arith [he, PR0, h1, hwb, w, PReq]
    · have rp : 0 < r := by have := I.r0; grind
      obtain ⟨s1, s2⟩ := Spec_last ok I.f0 tp rp I.hL
      by_cases w : wBey its u f = 0
      · refine ⟨f, ?_, s1 w, I.vf.up (Nat.dvd_trans big.l (Nat.dvd_mul_right ..)) (by omega)⟩
        unfold m_far_share c_far_share
        generalize its.map It.d = X at *
        generalize es.map PR = Y at *
        simp_arith [he, PR0, h1, hwb, w]
      · have wp : 0 < wBey its u f := by omega
        have vf := I.vf.up big.l (Nat.le_refl 1000)
        have q1 := m_qw big I.vr wp w1
        have q2 := m_adW big vf I.vr wp w1
        refine ⟨_, ?_, s2 wp, vk_share big vf I.vr wp w1⟩
        unfold m_far_share c_far_share
        generalize its.map It.d = X at *
        generalize es.map PR = Y at *
        simp_arith [he, PR0, h1, hwb, w, hp, e_rsVP, PReq, z, q1, q2]
/-! ### widths, sums, sharing out -/
theorem lc_mapA {α : Type} {t : CT} {ce : C} {δ : List Sl} {f g : α → D} {l : List α} (h : ∀ a ∈ l, ∃ δ1, t (f a) δ = some δ1 ∧ ce δ1 = .ok (g a)) (hl : l.length < 10000000) : lcGo t cTrue ce δ (l.map f) [] = .ok (l.map g) := by
  have key : ∀ (l : List α) (acc : List D), (∀ a ∈ l, ∃ δ1, t (f a) δ = some δ1 ∧ ce δ1 = .ok (g a)) → acc.length + l.length < sizeLine → lcGo t cTrue ce δ (l.map f) acc = .ok (acc ++ l.map g) := by
    intro l
    induction l with
    | nil => intro acc _ _; simp [e_lcN]
    | cons a l ih =>
      intro acc h hl
      obtain ⟨δ1, h1, h2⟩ := h a List.mem_cons_self
      rw [List.map_cons, e_lcC, h1, e_lc1, e_ctrue, e_lc2, h2, e_lc3, if_pos (by simp at hl; omega), ih _ (fun b hb => h b (List.mem_cons_of_mem _ hb)) (by simp at hl ⊢; omega)]
      simp
  have z := key l [] h (by simp only [List.length_nil, Nat.zero_add]; exact szl hl)
  rwa [List.nil_append] at z
theorem ints_mapF {α : Type} (f : α → Int) : ∀ l : List α, intsD (l.map fun a => D.int (f a)) = some (l.map f)
  | [] => rfl
  | a :: l => by
    rw [List.map_cons]
    unfold intsD
    rw [ints_mapF f l]
    rfl
theorem sum_mapF {α : Type} (f : α → Int) (l : List α) : dSum [.lst (l.map fun a => D.int (f a))] = .ok (.int (l.map f).sum) := by
  simp only [dSum, ints_mapF]
theorem m_ni {its : List It} (ok : Oks its) (hl : its.length ≤ 100) : m_need_items [.lst (its.map It.d)] = .ok .non := by
  have hlc : lcGo (tName 1) cTrue c_need_items_e1 [.pu (.lst (its.map It.d)), .un] (its.map It.d) [] = .ok (its.map fun _ => D.bl true) := by
    refine lc_mapA (fun i hi => ⟨_, rfl, ?_⟩) (by omega)
    have h := ii_ok (ok i hi).o
    show c_need_items_e1 [.pu (.lst (its.map It.d)), .pu i.d] = _
    unfold c_need_items_e1 It.d
    simp_arith [h]
  have ha := all_true (l := its)
  unfold m_need_items c_need_items
  generalize its.map It.d = X at *
  simp_arith [hlc, ha]
theorem vk_wy {M B : Nat} {q : Rat} {w k : Int} (h : Vk M B q) (w0 : 0 ≤ w) (w1 : w ≤ 1000) (k0 : 0 ≤ k) (k1 : k ≤ 20) : Vk M (1000 + B * 20) ((w : Rat) + q * (k : Rat)) :=
  (Vk.int (by omega)).add (h.mulI (by omega))
theorem vk_wd {i : It} (ok : i.Ok) {M B : Nat} {q : Rat} (h : Vk M B q) : Vk M (1000 + B * 20) (i.wd q) := by
  have h1 := ok.l0; have h2 := ok.lw; have h3 := ok.w1
  unfold It.wd
  split
  · exact ((Vk.int (B := 1000) (by omega)).up (Nat.dvd_refl _) (by omega)).max (vk_wy h (by omega) h3 ok.s0 ok.s1)
  · split
    · exact vk_wy h (by omega) h3 ok.g0 ok.g1
    · rename_i x e
      have := ok.m1 x e
      exact ((Vk.int (B := 1000) (by omega)).up (Nat.dvd_refl _) (by omega)).min (vk_wy h (by omega) h3 ok.g0 ok.g1)
theorem lt_up {B : Nat} (h : B < 2 ^ 3900) : B * 20 < 2 ^ 4000 ∧ 1000 + B * 20 < 2 ^ 4000 ∧ B < 2 ^ 4000 := by
  have e : (2 : Nat) ^ 3900 * 2 ^ 50 = 2 ^ 3950 := (Nat.pow_add 2 3900 50).symm
  have l1 : (2 : Nat) ^ 3950 ≤ 2 ^ 4000 := p2 (by decide)
  have l2 : (2 : Nat) ^ 3900 ≤ 2 ^ 4000 := p2 (by decide)
  have l3 : (1 : Nat) ≤ 2 ^ 3900 := Nat.one_le_two_pow
  have e2 : (2 : Nat) ^ 50 = 1125899906842624 := by decide
  rw [e2] at e
  generalize (2 : Nat) ^ 3900 = X at *
  generalize (2 : Nat) ^ 3950 = Y at *
  generalize (2 : Nat) ^ 4000 = Z at *
  omega
theorem m_wa {i : It} {q : Rat} {M B : Nat} (ok : i.Ok) (hq : Vk M B q) (hM : 0 < M) (hm : M < 2 ^ 4000) (hB : B < 2 ^ 3900) : m_width_at [i.d, PR q] = .ok (PR (i.wd q)) := by
  obtain ⟨l1, l2, l3⟩ := lt_up hB
  have hi := ii_ok ok.o
  have h1 := ok.l0; have h2 := ok.lw; have h3 := ok.w1
  have h4 := ok.g0; have h5 := ok.g1; have h6 := ok.s0; have h7 := ok.s1
  have s1 : Sz 1 1000 := ⟨by decide, by decide +kernel, small 1000⟩
  have k1 := m_p1 (t := i.w)
  have k2 := m_p1 (t := i.l)
  have k3 := m_p1 (t := i.g)
  have k4 := m_p1 (t := i.s)
  have hlt : (q.num < 0) = (q < 0) := propext num_lt
  unfold It.d itD at *
  unfold It.wd
  by_cases c : q < 0
  · have p1 := m_pr hq (Vk.int (M := 1) (B := 1000) (k := i.s) (by omega)) ⟨hM, hm, l3⟩ s1
    have p2 := m_ad (Vk.int (M := M) (B := 1000) (k := i.w) (by omega)) (hq.mulI (k := i.s) (C := 20) (by omega)) ⟨hM, hm, small 1000⟩ ⟨hM, hm, l1⟩
    have p3 := m_gr (Vk.int (M := M) (B := 1000) (k := i.l) (by omega)) (vk_wy hq (by omega) h3 h6 h7) ⟨hM, hm, small 1000⟩ ⟨hM, hm, l2⟩
    rw [if_pos c]
    unfold m_width_at c_width_at
    simp_arith [hi, e_ixP0, hlt, c, k1, k2, k4, e_rsVP, p1, p2, p3]
  · have p1 := m_pr hq (Vk.int (M := 1) (B := 1000) (k := i.g) (by omega)) ⟨hM, hm, l3⟩ s1
    have p2 := m_ad (Vk.int (M := M) (B := 1000) (k := i.w) (by omega)) (hq.mulI (k := i.g) (C := 20) (by omega)) ⟨hM, hm, small 1000⟩ ⟨hM, hm, l1⟩
    rw [if_neg c]
    cases em : i.m with
    | none =>
      rw [em] at hi
      unfold opD at *
      unfold m_width_at c_width_at
      simp_arith [hi, e_ixP0, hlt, c, k1, k3, e_rsVP, p1, p2]
    | some x =>
      have hx := ok.m1 x em
      have p3 := m_ls (Vk.int (M := M) (B := 1000) (k := x) (by omega)) (vk_wy hq (by omega) h3 h4 h5) ⟨hM, hm, small 1000⟩ ⟨hM, hm, l2⟩
      have k5 := m_p1 (t := x)
      rw [em] at hi
      unfold opD at *
      unfold m_width_at c_width_at
      simp_arith [hi, e_ixP0, hlt, c, k1, k3, k5, e_rsVP, p1, p2, p3]
theorem rsum_app {l : List Rat} {q : Rat} : rsum (l ++ [q]) = rsum l + q := by
  induction l with
  | nil => unfold rsum rsum; simp; grind
  | cons a l ih => simp only [List.cons_append, rsum]; rw [ih]; grind
theorem vk_rsum {M C : Nat} : ∀ {l : List Rat}, (∀ q ∈ l, Vk M C q) → Vk M (l.length * C) (rsum l)
  | [], _ => by
    unfold rsum
    exact Vk.int (k := 0) (by simp)
  | a :: l, h => by
    have h1 := (h a List.mem_cons_self).add (vk_rsum (l := l) fun q hq => h q (List.mem_cons_of_mem _ hq))
    unfold rsum
    exact h1.up (Nat.dvd_refl _) (by rw [List.length_cons, Nat.succ_mul]; omega)
theorem lenC {n C : Nat} (hn : n ≤ 100) (hC : C < 2 ^ 3900) : n * C < 2 ^ 4000 := by
  have : n * C < 2 ^ 10 * 2 ^ 3900 := Nat.mul_lt_mul'' (by omega) hC
  rw [← Nat.pow_add] at this
  exact Nat.lt_of_lt_of_le this (p2 (by decide))
theorem m_to {l : List Rat} {M C : Nat} (h : ∀ q ∈ l, Vk M C q) (hM : 0 < M) (hm : M < 2 ^ 4000) (hC : C < 2 ^ 3900) (hl : l.length ≤ 100) : m_total_of [.lst (l.map PR)] = .ok (PR (rsum l)) := by
  obtain ⟨δ', h1, s2, rfl⟩ : ∃ δ', forGo (tName 2) c_total_of_b1 (l.map PR) [.pu (.lst (l.map PR)), .pu (PR (rsum [])), .un] = .nx δ' ∧ ∃ s2, δ' = [.pu (.lst (l.map PR)), .pu (PR (rsum l)), s2] := by
    refine go_pre (l := l) (f := PR) (fun pre δ => ∃ s2, δ = [.pu (.lst (l.map PR)), .pu (PR (rsum pre)), s2]) ⟨.un, rfl⟩ ?_
    rintro pre q post δ e ⟨s2, rfl⟩
    have hp : ∀ x ∈ pre, Vk M C x := fun x hx => h x (by rw [e]; exact List.mem_append_left _ hx)
    have hq : Vk M C q := h q (by rw [e]; simp)
    have hpl : pre.length ≤ 100 := by
      have : pre.length ≤ l.length := by rw [e]; simp
      omega
    have ha := m_ad (vk_rsum hp) hq ⟨hM, hm, lenC hpl hC⟩ ⟨hM, hm, Nat.lt_of_lt_of_le hC (p2 (by decide))⟩
    refine ⟨[.pu (.lst (l.map PR)), .pu (PR (rsum pre)), .pu (PR q)], rfl, _, .inl ?_, .pu (PR q), rfl⟩
    rw [rsum_app]
    unfold c_total_of_b1
    generalize l.map PR = X at *
    simp_arith [ha]
  have r0 : rsum [] = 0 := rfl
  rw [r0] at h1
  unfold m_total_of c_total_of
  generalize l.map PR = X at *
  simp_arith [PR0, h1]
theorem wishes_le {its : List It} (ok : Oks its) : 0 ≤ wishes its ∧ wishes its ≤ 1000 * its.length := by
  induction its with
  | nil => exact ⟨Int.le_refl _, Int.le_refl _⟩
  | cons i its ih =>
    have h := ih fun j hj => ok j (List.mem_cons_of_mem _ hj)
    have hi := ok i List.mem_cons_self
    have h1 := hi.l0; have h2 := hi.lw; have h3 := hi.w1
    unfold wishes at h ⊢
    simp only [List.map_cons, List.sum_cons, List.length_cons]
    omega
theorem m_so {its : List It} {room : Rat} {M B : Nat} (ok : Oks its) (hl : its.length ≤ 12) (big : Big M (B + 12000)) (hv : Vk M B room) : ∃ q, m_share_of [.lst (its.map It.d), PR room] = .ok (PR q) ∧ Share its room q ∧ Vk (M * L240) (B + 13000) q := by
  obtain ⟨w0, w1⟩ := wishes_le ok
  have hlc : lcGo (tName 3) cTrue (cIxV 3 (cC (.int 0))) [.pu (.lst (its.map It.d)), .pu (PR room), .un, .un] (its.map It.d) [] = .ok (its.map fun i => D.int i.w) := by
    refine lc_mapA (fun i hi => ⟨_, rfl, ?_⟩) (by omega)
    show cIxV 3 (cC (.int 0)) [.pu (.lst (its.map It.d)), .pu (PR room), .un, .pu (.tup _)] = _
    generalize its.map It.d = X
    walk_at "ev"
  have hsum := sum_mapF (fun i : It => i.w) its
  have hw : (its.map fun i => i.w).sum = wishes its := rfl
  rw [hw] at hsum
  have hp := m_p1 (t := wishes its)
  have vw : Vk M 12000 ((wishes its : Int) : Rat) := Vk.int (by omega)
  have b1 : B < 2 ^ 4000 := by have := big.b4; omega
  have hle := m_le hv vw (big.sz b1) (big.sz (small 12000))
  have vl := hv.sub vw
  have hge : (0 ≤ (room - ((wishes its : Int) : Rat)).num) = (0 ≤ room - ((wishes its : Int) : Rat)) := propext num_ge
  by_cases c : 0 ≤ room - ((wishes its : Int) : Rat)
  · obtain ⟨t, h1, h2, h3⟩ := m_fs (u := true) ok hl big c vl
    refine ⟨t, ?_, ⟨fun _ => h2, fun z => by grind⟩, h3⟩
    unfold m_share_of c_share_of
    generalize its.map It.d = X at *
    simp_arith [hlc, hsum, hp, e_rsVP, hle, e_ixP0, hge, c, h1]
  · have v0 : Vk M 0 (((0 : Int)) : Rat) := Vk.int (by decide)
    have hn := m_le v0 vl (big.sz (small 0)) (big.sz big.b4)
    have en : (((0 : Int)) : Rat) - (room - ((wishes its : Int) : Rat)) = ((wishes its : Int) : Rat) - room := by
      have : (((0 : Int)) : Rat) = 0 := rfl
      grind
    rw [en] at hn
    have vn := vl.neg
    have en2 : -(room - ((wishes its : Int) : Rat)) = ((wishes its : Int) : Rat) - room := by grind
    rw [en2] at vn
    obtain ⟨t, h1, h2, h3⟩ := m_fs (u := false) ok hl big (by grind) vn
    have hM : M * L240 < 2 ^ 4000 := by
      have : M * L240 < 2 ^ 3500 * 2 ^ 350 := Nat.mul_lt_mul'' big.m (by decide +kernel)
      rw [← Nat.pow_add] at this
      exact Nat.lt_of_lt_of_le this (p2 (by decide))
    have hM0 : 0 < M * L240 := Nat.mul_pos big.p (by decide)
    have b2 : B + 12000 + 1000 < 2 ^ 4000 := by
      have h1 := big.b
      have h2 : (2 : Nat) ^ 3000 * 2 ^ 20 ≤ 2 ^ 4000 := by rw [← Nat.pow_add]; exact p2 (by decide)
      have e2 : (2 : Nat) ^ 20 = 1048576 := by decide
      have l3 : (1 : Nat) ≤ 2 ^ 3000 := Nat.one_le_two_pow
      rw [e2] at h2
      generalize (2 : Nat) ^ 3000 = X at *
      generalize (2 : Nat) ^ 4000 = Z at *
      omega
    have hf := m_le (Vk.int (M := M * L240) (B := 0) (k := 0) (by decide)) h3 ⟨hM0, hM, small 0⟩ ⟨hM0, hM, b2⟩
    have en3 : (((0 : Int)) : Rat) - t = -t := by
      have : (((0 : Int)) : Rat) = 0 := rfl
      grind
    rw [en3] at hf
    have e9 : - -t = t := by grind
    refine ⟨-t, ?_, ⟨fun z => by grind, fun _ => e9.symm ▸ h2⟩, h3.neg⟩
    have P0 : PR (((0 : Int)) : Rat) = PR 0 := rfl
    rw [P0] at hn hf
    unfold m_share_of c_share_of
    generalize its.map It.d = X at *
    simp_arith [hlc, hsum, hp, e_rsVP, hle, e_ixP0, hge, c, h1, PR0, hn, hf]
/-- sharing out: what comes of it -/
theorem m_sh {its : List It} {room : Rat} {M B : Nat} (ok : Oks its) (hl : its.length ≤ 12) (big : Big M (B + 12000)) (hv : Vk M B room) (hM : M * L240 < 2 ^ 3900) : ∃ q, m_shared [.lst (its.map It.d), PR room] = .ok (.tup [PR q, .lst (its.map fun i => PR (i.wd q)), PR (rmax 0 (room - total its q)), PR (rmax 0 (0 - (room - total its q)))]) ∧ Share its room q ∧ Vk (M * L240) (B + 13000) q := by
  obtain ⟨q, h1, h2, h3⟩ := m_so ok hl big hv
  refine ⟨q, ?_, h2, h3⟩
  have hM0 : 0 < M * L240 := Nat.mul_pos big.p (by decide)
  have hM1 : M * L240 < 2 ^ 4000 := Nat.lt_of_lt_of_le hM (p2 (by decide))
  have b0 : ∀ n, n < 2 ^ 50 → n * (B + 12000) < 2 ^ 3900 := fun n hn => by
    have : n * (B + 12000) < 2 ^ 50 * 2 ^ 3000 := Nat.mul_lt_mul'' hn big.b
    rw [← Nat.pow_add] at this
    exact Nat.lt_of_lt_of_le this (p2 (by decide))
  have b1 : B + 13000 < 2 ^ 3900 := by have := b0 100 (by decide); omega
  have b2 : 1000 + (B + 13000) * 20 < 2 ^ 3900 := by have := b0 100 (by decide); omega
  have b4 : ∀ {n : Nat}, n < 2 ^ 3900 → n < 2 ^ 4000 := fun h => Nat.lt_of_lt_of_le h (p2 (by decide))
  have hn := m_ni ok (by omega)
  have hlc : lcGo (tName 5) cTrue c_shared_e1 [.pu (.lst (its.map It.d)), .pu (PR room), .pu (PR q), .un, .un, .un] (its.map It.d) [] = .ok (its.map fun i => PR (i.wd q)) := by
    refine lc_mapA (fun i hi => ⟨_, rfl, ?_⟩) (by omega)
    have hw := m_wa (ok i hi) h3 hM0 hM1 b1
    show c_shared_e1 [.pu (.lst (its.map It.d)), .pu (PR room), .pu (PR q), .un, .un, .pu i.d] = _
    unfold c_shared_e1
    generalize its.map It.d = X
    simp_arith [hw]
  have vks : ∀ x ∈ its.map (fun i => i.wd q), Vk (M * L240) (1000 + (B + 13000) * 20) x := fun x hx => by
    obtain ⟨i, hi, rfl⟩ := List.mem_map.mp hx
    exact vk_wd (ok i hi) h3
  have hto := m_to vks hM0 hM1 b2 (by rw [List.length_map]; omega)
  have ht : rsum (its.map fun i => i.wd q) = total its q := rfl
  rw [List.map_map, ht] at hto
  have hto' : m_total_of [.lst (its.map fun i => PR (i.wd q))] = .ok (PR (total its q)) := hto
  have vt := vk_rsum vks
  rw [ht, List.length_map] at vt
  have bt : its.length * (1000 + (B + 13000) * 20) < 2 ^ 4000 := lenC (by omega) b2
  have bt2 : B + its.length * (1000 + (B + 13000) * 20) < 2 ^ 4000 := by
    have z := b0 10000 (by decide)
    have : its.length * (1000 + (B + 13000) * 20) ≤ 12 * (1000 + (B + 13000) * 20) := Nat.mul_le_mul_right _ hl
    have := @b4 (10000 * (B + 12000)) z
    omega
  have vr := (hv.up (N := M * L240) (Nat.dvd_mul_right ..) (Nat.le_refl _))
  have hre := m_le vr vt ⟨hM0, hM1, b4 (by omega)⟩ ⟨hM0, hM1, bt⟩
  have vre := vr.sub vt
  have v0 : Vk (M * L240) 0 (0 : Rat) := Vk.int (k := 0) (by decide)
  have g1 := m_gr v0 vre ⟨hM0, hM1, small 0⟩ ⟨hM0, hM1, bt2⟩
  have hz := m_le v0 vre ⟨hM0, hM1, small 0⟩ ⟨hM0, hM1, bt2⟩
  have vz := v0.sub vre
  have g2 := m_gr v0 vz ⟨hM0, hM1, small 0⟩ ⟨hM0, hM1, by omega⟩
  unfold m_shared c_shared
  generalize (its.map fun i => PR (i.wd q)) = Y at *
  generalize its.map It.d = X at *
  simp_arith [hn, h1, hlc, hto', hre, PR0, g1, hz, g2]
theorem gcd_loop4 (t : CB) (bd : CS) (d0 d1 : Sl) (ht : ∀ a b : Int, evT t [d0, d1, .pu (.int a), .pu (.int b)] = .ok (decide (0 < b))) (hb : ∀ a b : Int, b ≠ 0 → bd [d0, d1, .pu (.int a), .pu (.int b)] = .nx [d0, d1, .pu (.int b), .pu (.int (a.fmod b))]) :
    ∀ (b a : Nat), ∃ k, whN t bd k [d0, d1, .pu (.int a), .pu (.int b)] = .nx [d0, d1, .pu (.int (Nat.gcd a b : Nat)), .pu (.int 0)] := by
  intro b
  induction b using Nat.strongRecOn with
  | _ b ih =>
    intro a
    by_cases hz : b = 0
    · subst hz
      refine ⟨1, ?_⟩
      unfold whN
      rw [ht]
      simp
    · obtain ⟨k, hk⟩ := ih (a % b) (Nat.mod_lt _ (Nat.pos_of_ne_zero hz)) b
      refine ⟨k + 1, ?_⟩
      unfold whN
      have hpos : (0 : Int) < (b : Int) := by omega
      have e1 : ((a : Int).fmod (b : Int)) = ((a % b : Nat) : Int) := by
        rw [Int.fmod_eq_emod_of_nonneg _ (by omega)]
        rfl
      rw [ht, decide_eq_true hpos]
      show fLoop (bd _) _ = _
      rw [hb _ _ (by omega), e1]
      show whN t bd k _ = _
      rw [hk, Nat.gcd_comm a b, Nat.gcd_rec b a, Nat.gcd_comm]
theorem m_lpt {t b : Int} {n : Nat} (hb : b ≠ 0) (hs : Bd n b) (hn : n ≤ 8000) : m_law_part [.int t, .int b] = .ok (red t b) := by
  obtain ⟨k, hk⟩ := gcd_loop4 c_law_part_t1 c_law_part_b1 (.pu (.int t)) (.pu (.int b)) (fun a b => by unfold c_law_part_t1; walk_at "ev") (fun a b hb => by
      have hb' : cMod a b := hb
      unfold c_law_part_b1
      simp_arith [e_mod, hb']) b.natAbs t.natAbs
  have e := cWh_of hk (fun z => nomatch z)
  have h1 : cDiv t (gI t b) := cDiv_bd (by have := gI_pos (t := t) hb; omega) (gI_bd hb hs) (by omega)
  have h2 : cDiv b (gI t b) := cDiv_bd (by have := gI_pos (t := t) hb; omega) (gI_bd hb hs) (by omega)
  have h3 : cDiv t (-gI t b) := cDiv_bd (by have := gI_pos (t := t) hb; omega) (gI_bd hb hs).neg (by omega)
  have h4 : cDiv b (-gI t b) := cDiv_bd (by have := gI_pos (t := t) hb; omega) (gI_bd hb hs).neg (by omega)
  have eg : ((Nat.gcd t.natAbs b.natAbs : Nat) : Int) = gI t b := rfl
  rw [eg] at e
  unfold m_law_part c_law_part red
  by_cases hn : b < 0
  · have eb : ((b.natAbs : Nat) : Int) = -b := by omega
    rw [eb] at e
    simp only [hn, if_true]
    simp_arith [abs_int, e, hn, e_div, h3, h4]
  · have eb : ((b.natAbs : Nat) : Int) = b := by omega
    rw [eb] at e
    simp only [hn, if_false]
    simp_arith [abs_int, e, hn, e_div, h1, h2]
theorem m_cellat (ns : List Int) (k : Nat) : ∃ c : Int, m_law_cell_at [.kst (ns.map D.int), .int (k : Int)] = .ok (.int c) := by
  have hl : (ns.map D.int).length = ns.length := List.length_map ..
  by_cases h : k < ns.length
  · refine ⟨ns[k], ?_⟩
    have hat : atD (ns.map D.int) (k : Int) = .ok (.int ns[k]) := at_get (by rw [List.getElem?_map, List.getElem?_eq_getElem h]; rfl)
    have h' : (k : Int) < (ns.length : Int) := by omega
    unfold m_law_cell_at c_law_cell_at
    generalize ns.map D.int = X at *
    simp_arith [hl, h', hat]
  · refine ⟨0, ?_⟩
    have h' : ¬ (k : Int) < (ns.length : Int) := by omega
    unfold m_law_cell_at c_law_cell_at
    generalize ns.map D.int = X at *
    simp_arith [hl, h']
theorem ne_kst (ns : List Int) : dNe (.kst (ns.map D.int)) (.lst []) = .ok (.bl (!ns.isEmpty)) := by
  rw [e_neG (.inl rfl) ?_ rfl]
  · cases ns <;> rfl
  · show (ns.map D.int).all (D.good 19) = true
    rw [List.all_eq_true]
    intro x hx
    obtain ⟨i, -, rfl⟩ := List.mem_map.mp hx
    rfl
theorem sum_ex {α : Type} (l : List α) (P : α → Int → Prop) (h : ∀ a ∈ l, ∃ c, P a c) : ∃ xs : List Int, xs.length = l.length ∧ ∀ (i : Nat) (a : α), l[i]? = some a → ∃ c, xs[i]? = some c ∧ P a c := by
  induction l with
  | nil => exact ⟨[], rfl, fun i a e => by simp at e⟩
  | cons a l ih =>
    obtain ⟨xs, h1, h2⟩ := ih fun b hb => h b (List.mem_cons_of_mem _ hb)
    obtain ⟨c, hc⟩ := h a List.mem_cons_self
    refine ⟨c :: xs, by simp [h1], fun i b e => ?_⟩
    cases i with
    | zero => simp at e; subst e; exact ⟨c, rfl, hc⟩
    | succ i => exact h2 i b (by simpa using e)
/-- what a block tells, item by item -/
theorem lc_ex {t : CT} {ce : C} {δ : List Sl} {Q : D → D → Prop} : ∀ (ds acc : List D), (∀ d ∈ ds, ∃ δ1 e, t d δ = some δ1 ∧ ce δ1 = .ok e ∧ Q d e) → acc.length + ds.length < sizeLine → ∃ es : List D, lcGo t cTrue ce δ ds acc = .ok (acc ++ es) ∧ es.length = ds.length ∧ ∀ (i : Nat) (d e : D), ds[i]? = some d → es[i]? = some e → Q d e
  | [], acc, _, _ => ⟨[], by rw [e_lcN, List.append_nil], rfl, fun i d e h => by simp at h⟩
  | d :: ds, acc, h, hl => by
    obtain ⟨δ1, e, h1, h2, h3⟩ := h d List.mem_cons_self
    obtain ⟨es, g1, g2, g3⟩ := lc_ex ds (acc ++ [e]) (fun d' hd => h d' (List.mem_cons_of_mem _ hd)) (by simp at hl ⊢; omega)
    refine ⟨e :: es, ?_, by simp [g2], fun i d' e' q1 q2 => ?_⟩
    · rw [e_lcC, h1, e_lc1, e_ctrue, e_lc2, h2, e_lc3, if_pos (by simp at hl; omega), g1, List.append_assoc]
      rfl
    · cases i with
      | zero => simp at q1 q2; subst q1 q2; exact h3
      | succ i => exact g3 i d' e' (by simpa using q1) (by simpa using q2)
theorem ints_of {es : List D} (h : ∀ e ∈ es, ∃ c : Int, e = .int c ∧ 0 ≤ c) : ∃ xs : List Int, es = xs.map D.int ∧ ∀ x ∈ xs, 0 ≤ x := by
  induction es with
  | nil => exact ⟨[], rfl, by simp⟩
  | cons e es ih =>
    obtain ⟨xs, h1, h2⟩ := ih fun b hb => h b (List.mem_cons_of_mem _ hb)
    obtain ⟨c, rfl, hc⟩ := h e List.mem_cons_self
    exact ⟨c :: xs, by rw [h1]; rfl, by simpa using ⟨hc, h2⟩⟩
def MxI (ns : List Int) (st w : Nat) (k : Nat) (δ : List Sl) : Prop := ∃ xs : List Int, ∃ m : Int, ∃ s5 : Sl, δ = [.pu (.kst (ns.map D.int)), .pu (.int (st : Int)), .pu (.int (w : Int)), .ow (xs.map D.int), .pu (.int m), s5] ∧ (0 ≤ m ∧ m < 2147483647) ∧ (∀ x ∈ xs, 0 ≤ x) ∧ xs.length = k
theorem mx_step {ns xs : List Int} {st w k : Nat} {m : Int} (hk : k < w) (hw : w ≤ 1000) (hm : 0 ≤ m ∧ m < 2147483647) (hx : ∀ x ∈ xs, 0 ≤ x) (hl : xs.length = k) :
    ∃ δ2, c_law_mixed_b1 [.pu (.kst (ns.map D.int)), .pu (.int (st : Int)), .pu (.int (w : Int)), .ow (xs.map D.int), .pu (.int m), .pu (.int (k : Int))] = .nx δ2 ∧ MxI ns st w (k + 1) δ2 := by
  obtain ⟨c, hc⟩ := m_cellat ns (st + k)
  rw [Int.natCast_add] at hc
  have hxl : (xs.map D.int).length < sizeLine := szl (by rw [List.length_map]; omega)
  have c1 : cMul m 48271 := cMul_bd (p := 31) (q := 31) (bd_nat hm.1 (by omega)) (bd_nat (by omega) (by omega)) (by decide)
  have c4 : cMul 31 (k : Int) := cMul_bd (p := 31) (q := 31) (bd_nat (by omega) (by omega)) (bd_nat (by omega) (by omega)) (by decide)
  have hm2 : 0 ≤ (m * 48271 + c + 31 * (k : Int) + 1) % 2147483647 ∧ (m * 48271 + c + 31 * (k : Int) + 1) % 2147483647 < 2147483647 := by omega
  generalize hM : (m * 48271 + c + 31 * (k : Int) + 1) % 2147483647 = M at *
  have c2 : cMul M M := cMul_bd (p := 31) (q := 31) (bd_nat hm2.1 (by omega)) (bd_nat hm2.1 (by omega)) (by decide)
  have c3 : cMul 16807 M := cMul_bd (p := 31) (q := 31) (bd_nat (by omega) (by omega)) (bd_nat hm2.1 (by omega)) (by decide)
  refine ⟨[.pu (.kst (ns.map D.int)), .pu (.int (st : Int)), .pu (.int (w : Int)), .ow ((xs ++ [(M * M + 16807 * M) % 2147483629]).map D.int), .pu (.int M), .pu (.int (k : Int))], ?_, _, _, _, rfl, hm2, ?_, ?_⟩
  · rw [List.map_append]
    unfold c_law_mixed_b1
    generalize ns.map D.int = X at *
    generalize xs.map D.int = L at *
    simp_arith [hc, c1, c2, c3, c4, hM, hxl]
  · intro x h
    rcases List.mem_append.mp h with h | h
    · exact hx x h
    · rw [List.mem_singleton.mp h]
      omega
  · rw [List.length_append, hl]
    rfl
theorem m_mixed {ns : List Int} {st w : Nat} (hw : w ≤ 1000) : ∃ xs : List Int, m_law_mixed [.kst (ns.map D.int), .int (st : Int), .int (w : Int)] = .okl (xs.map D.int) ∧ xs.length = w ∧ ∀ x ∈ xs, 0 ≤ x := by
  have hr : dRng1 [.int (w : Int)] = .ok (rangeD 0 w) := rng1n (by omega)
  have hne := ne_kst ns
  by_cases hb : ∃ n r, ns = n :: r ∧ n % 2 = 0
  · obtain ⟨n, r, e, h2⟩ := hb
    have key : ∃ es : List D, lcGo (tName 5) cTrue c_law_mixed_e1 [.pu (.kst (ns.map D.int)), .pu (.int (st : Int)), .pu (.int (w : Int)), .un, .un, .un] (rangeD 0 w) [] = .ok ([] ++ es) ∧ es.length = (rangeD 0 w).length ∧ ∀ (i : Nat) (d e : D), (rangeD 0 w)[i]? = some d → es[i]? = some e → ∃ c : Int, e = .int c ∧ 0 ≤ c := by
      refine lc_ex (Q := fun _ e => ∃ c : Int, e = .int c ∧ 0 ≤ c) (rangeD 0 w) [] (fun d hd => ?_) (szl (by rw [rng_len]; simp; omega))
      obtain ⟨j, hj⟩ := List.getElem?_of_mem hd
      rw [rangeD_get0] at hj
      split at hj
      · cases hj
        obtain ⟨c, hc⟩ := m_cellat ns (st + j + 1)
        rw [Int.natCast_add, Int.natCast_add] at hc
        simp only [Int.cast_ofNat_Int] at hc
        refine ⟨_, .int (if c < 0 then -c else c), rfl, ?_, _, rfl, by split <;> omega⟩
        unfold c_law_mixed_e1
        show (cApp dAbs _) [.pu (.kst (ns.map D.int)), .pu (.int (st : Int)), .pu (.int (w : Int)), .un, .un, .pu (.int (j : Int))] = _
        generalize ns.map D.int = X at *
        simp_arith [hc]
      · cases hj
    obtain ⟨es, h1, h3, h4⟩ := key
    rw [List.nil_append] at h1
    rw [rng_len] at h3
    obtain ⟨xs, e1, e2⟩ := ints_of (es := es) fun x hx => by
      obtain ⟨i, hi⟩ := List.getElem?_of_mem hx
      have hil : i < w := by
        have := (List.getElem?_eq_some_iff.mp hi).1
        omega
      exact h4 i _ x (by rw [rangeD_get0, if_pos hil]) hi
    refine ⟨xs, ?_, by rw [e1, List.length_map] at h3; exact h3, e2⟩
    have hx : atD (ns.map D.int) 0 = .ok (.int n) := by rw [e]; exact e_at0
    have he : ns.isEmpty = false := by rw [e]; rfl
    rw [he] at hne
    rw [← e1]
    unfold m_law_mixed c_law_mixed
    generalize ns.map D.int = X at *
    generalize rangeD 0 w = RR at *
    simp_arith [hne, hx, h2, hr, h1]
  · obtain ⟨δ', h1, xs, m, s5, rfl, _, h3, h4⟩ : ∃ δ', forGo (tName 5) c_law_mixed_b1 (rangeD 0 w) [.pu (.kst (ns.map D.int)), .pu (.int (st : Int)), .pu (.int (w : Int)), .ow [], .pu (.int 7), .un] = .nx δ' ∧ MxI ns st w (rangeD 0 w).length δ' := by
      refine go_inv0 (MxI ns st w) ⟨[], 7, .un, rfl, by decide, by simp, rfl⟩ ?_
      rintro k d δ hd ⟨xs, m, s5, rfl, hm, hx, hl⟩
      rw [rangeD_get0] at hd
      split at hd
      · rename_i hk
        cases hd
        obtain ⟨δ2, e2, i2⟩ := mx_step (ns := ns) (st := st) hk hw hm hx hl
        exact ⟨_, rfl, δ2, Or.inl e2, i2⟩
      · cases hd
    rw [rng_len] at h4
    refine ⟨xs, ?_, h4, h3⟩
    have hc : (cAndB [(cBin (fun d e => (dNe d e).bind asB) (cVar 0) (cL (cApp dLst cNil))), (cBin (fun d e => (dEq d e).bind asB) (cBin dMod (cIxV 0 (cC (.int 0))) (cC (.int 2))) (cC (.int 0)))]) [.pu (.kst (ns.map D.int)), .pu (.int (st : Int)), .pu (.int (w : Int)), .un, .un, .un] = .ok false := by
      cases ns with
      | nil => rfl
      | cons n r =>
        have h2 : ¬ n % 2 = 0 := fun q => hb ⟨n, r, rfl, q⟩
        have hx : atD ((n :: r).map D.int) 0 = .ok (.int n) := e_at0
        have he : (n :: r).isEmpty = false := rfl
        rw [he] at hne
        generalize (n :: r).map D.int = X at *
        simp_arith [hne, hx, h2]
    unfold m_law_mixed c_law_mixed
    generalize hcs : (cAndB [(cBin (fun d e => (dNe d e).bind asB) (cVar 0) (cL (cApp dLst cNil))), (cBin (fun d e => (dEq d e).bind asB) (cBin dMod (cIxV 0 (cC (.int 0))) (cC (.int 2))) (cC (.int 0)))]) = cs at *
    generalize ns.map D.int = X at *
    generalize rangeD 0 w = RR at *
    simp_arith [hc, hr, h1]
/-! ### the law's own reckoning -/
theorem m_lp {t b : Int} {n : Nat} (hb : 0 < b) (hs : Bd n b) (hn : n ≤ 8000) : m_law_part [.int t, .int b] = .ok (PR ((t : Rat) / (b : Rat))) := by
  rw [m_lpt (by omega) hs hn, ← redR hb]
  unfold red gI
  rw [if_neg (by omega)]
theorem m_las {M B C : Nat} {a b : Rat} (ha : Vk M B a) (hb : Vk M C b) (s : Sz M B) (t : Sz M C) : m_law_sum [PR a, PR b] = .ok (PR (a + b)) := by
  obtain ⟨a1, a2⟩ := ha.bds s
  obtain ⟨b1, b2⟩ := hb.bds t
  have h1 := mu2 a1 b2 (by decide) (by decide)
  have h2 := mu2 b1 a2 (by decide) (by decide)
  have h3 := mu2 a2 b2 (by decide) (by decide)
  have hp := m_lp (t := a.num * b.den + b.num * a.den) (Int.mul_pos (denp a) (denp b)) (a2.mul b2) (by decide)
  rw [addR] at hp
  unfold m_law_sum c_law_sum
  simp_arith [e_ixP0, e_ixP1, h1, h2, h3, hp]
theorem m_lab {M B N C : Nat} {a b : Rat} (ha : Vk M B a) (hb : Vk N C b) (s : Sz M B) (t : Sz N C) : m_law_is_above [PR a, PR b] = .ok (.bl (decide (b < a))) := by
  obtain ⟨a1, a2⟩ := ha.bds s
  obtain ⟨b1, b2⟩ := hb.bds t
  have h1 := mu2 a1 b2 (by decide) (by decide)
  have h2 := mu2 b1 a2 (by decide) (by decide)
  have e : decide (b.num * a.den < a.num * b.den) = decide (b < a) := decide_eq_decide.mpr (ltR a b)
  unfold m_law_is_above c_law_is_above
  simp_arith [e_ixP0, e_ixP1, h1, h2, e]
/-! ### the law's own reckoning: less, times, over -/
theorem redA {t b : Int} (h : b ≠ 0) : red t b = PR ((t : Rat) / (b : Rat)) := by
  unfold red gI
  by_cases c : b < 0
  · rw [if_pos c]
    have z := redR (t := -t) (b := -b) (by omega)
    rw [Int.natAbs_neg, Int.natAbs_neg] at z
    have e : (((-t : Int) : Rat) / ((-b : Int) : Rat)) = (t : Rat) / (b : Rat) := by
      rw [Rat.intCast_neg, Rat.intCast_neg, Rat.div_def, Rat.div_def]
      have nz : ((b : Int) : Rat) ≠ 0 := fun z => h (Rat.intCast_inj.mp (by simpa using z))
      have h1 := Rat.mul_inv_cancel (b : Rat) nz
      have h2 := Rat.mul_inv_cancel (-(b : Rat)) (by grind)
      generalize (b : Rat)⁻¹ = x at *
      generalize (-(b : Rat))⁻¹ = y at *
      have : y = -x := by
        have e1 : y * ((b : Rat) * x) = y := by rw [h1, Rat.mul_one]
        have e2 : y * ((b : Rat) * x) = -(-(b : Rat) * y) * x := by grind
        rw [h2] at e2
        grind
      rw [this]
      grind
    rw [e] at z
    rw [← z]
    have f1 : ∀ a g : Int, (-a).fdiv g = a.fdiv (-g) := fun a g => by
      have := Int.neg_fdiv_neg a (-g)
      rw [Int.neg_neg] at this
      exact this
    rw [f1, f1]
  · rw [if_neg c, redR (by omega)]
theorem divA (a b : Rat) (h : b ≠ 0) : (((a.num * b.den : Int) : Rat) / ((a.den * b.num : Int) : Rat)) = a / b := by
  obtain ⟨h1, h2, h5⟩ := nd a
  obtain ⟨h3, h4, h6⟩ := nd b
  rw [Rat.intCast_mul, Rat.intCast_mul, h1, h3]
  generalize (((a.den : Nat) : Int) : Rat) = x at *
  generalize (((b.den : Nat) : Int) : Rat) = y at *
  have e : x * (b * y) ≠ 0 := by
    intro z
    rcases Rat.mul_eq_zero.mp z with z | z
    · exact h2 z
    · rcases Rat.mul_eq_zero.mp z with z | z
      · exact h z
      · exact h4 z
  have e2 : a * x * y = (a / b) * (x * (b * y)) := by
    rw [Rat.div_def]
    have : b * b⁻¹ = 1 := Rat.mul_inv_cancel b h
    grind
  rw [e2, Rat.div_def, Rat.mul_assoc, Rat.mul_inv_cancel _ e, Rat.mul_one]
theorem m_lal {M B C : Nat} {a b : Rat} (ha : Vk M B a) (hb : Vk M C b) (s : Sz M B) (t : Sz M C) : m_law_less [PR a, PR b] = .ok (PR (a - b)) := by
  obtain ⟨a1, a2⟩ := ha.bds s
  obtain ⟨b1, b2⟩ := hb.bds t
  have h1 := mu2 a1 b2 (by decide) (by decide)
  have h2 := mu2 b1 a2 (by decide) (by decide)
  have h3 := mu2 a2 b2 (by decide) (by decide)
  have hp := m_lp (t := a.num * b.den - b.num * a.den) (Int.mul_pos (denp a) (denp b)) (a2.mul b2) (by decide)
  rw [subR] at hp
  unfold m_law_less c_law_less
  simp_arith [e_ixP0, e_ixP1, h1, h2, h3, hp]
theorem m_lat {M B N C : Nat} {a b : Rat} (ha : Vk M B a) (hb : Vk N C b) (s : Sz M B) (t : Sz N C) : m_law_times [PR a, PR b] = .ok (PR (a * b)) := by
  obtain ⟨a1, a2⟩ := ha.bds s
  obtain ⟨b1, b2⟩ := hb.bds t
  have h1 := mu2 a1 b1 (by decide) (by decide)
  have h3 := mu2 a2 b2 (by decide) (by decide)
  have hp := m_lp (t := a.num * b.num) (Int.mul_pos (denp a) (denp b)) (a2.mul b2) (by decide)
  rw [mulR] at hp
  unfold m_law_times c_law_times
  simp_arith [e_ixP0, e_ixP1, h1, h3, hp]
theorem vk_total {its : List It} {q : Rat} {M B : Nat} (ok : Oks its) (hl : its.length ≤ 12) (hq : Vk M B q) : Vk M (12 * (1000 + B * 20)) (total its q) := by
  have z := vk_rsum (M := M) (C := 1000 + B * 20) (l := its.map fun i => i.wd q) fun x hx => by
    obtain ⟨i, hi, rfl⟩ := List.mem_map.mp hx
    exact vk_wd (ok i hi) hq
  rw [List.length_map] at z
  exact z.up (Nat.dvd_refl _) (Nat.mul_le_mul_right _ hl)
/-! ### k23 -/
theorem m_its {xs : List Int} (h : ∀ x ∈ xs, 0 ≤ x) (hl : xs.length ≤ 100) : ∃ its : List It, m_law_items [.lst (xs.map D.int)] = .okl (its.map It.d) ∧ Oks its ∧ its.length = xs.length := by
  obtain ⟨es, h1, h2, h3⟩ := lc_ex (t := tName 1) (ce := c_law_items_e1) (δ := [.pu (.lst (xs.map D.int)), .un]) (Q := fun _ e => ∃ i : It, e = i.d ∧ i.Ok) (xs.map D.int) [] (fun d hd => by
    obtain ⟨x, hx, rfl⟩ := List.mem_map.mp hd
    obtain ⟨w, l, m, g, s, e, o⟩ := m_siz (h x hx)
    refine ⟨_, itD w l m g s, rfl, ?_, ⟨⟨w, l, m, g, s⟩, rfl, ⟨o.l0, o.lw, o.w1, o.m1, o.g0, o.g1, o.s0, o.s1⟩⟩⟩
    show c_law_items_e1 [.pu (.lst (xs.map D.int)), .pu (.int x)] = _
    unfold c_law_items_e1
    generalize xs.map D.int = X
    simp_arith [e]) (szl (by simp; omega))
  have key : ∀ es : List D, (∀ e ∈ es, ∃ i : It, e = i.d ∧ i.Ok) → ∃ its : List It, es = its.map It.d ∧ Oks its := by
    intro es
    induction es with
    | nil => intro _; exact ⟨[], rfl, fun i hi => nomatch hi⟩
    | cons e es ih =>
      intro h
      obtain ⟨i, rfl, io⟩ := h e List.mem_cons_self
      obtain ⟨its, rfl, oks⟩ := ih fun x hx => h x (List.mem_cons_of_mem _ hx)
      refine ⟨i :: its, rfl, fun j hj => ?_⟩
      rcases List.mem_cons.mp hj with rfl | hj
      · exact io
      · exact oks j hj
  obtain ⟨its, rfl, oks⟩ := key es fun e he => by
    obtain ⟨k, hk⟩ := List.getElem?_of_mem he
    have hkl : k < (xs.map D.int).length := by rw [← h2]; exact (List.getElem?_eq_some_iff.mp hk).1
    exact h3 k _ e (List.getElem?_eq_getElem hkl) hk
  rw [List.nil_append] at h1
  refine ⟨its, ?_, oks, by simpa using h2⟩
  unfold m_law_items c_law_items
  generalize xs.map D.int = X at *
  simp_arith [h1]
theorem vk_part {t b : Int} {N C : Nat} (hb : 0 < b) (hn : b.natAbs ∣ N) (ht : t.natAbs ≤ C) : Vk N C ((t : Rat) / (b : Rat)) := by
  obtain ⟨n, rfl⟩ := Int.eq_ofNat_of_zero_le (Int.le_of_lt hb)
  have z := (Vk.int (M := 1) (B := C) (k := t) ht).divI (w := n) (by omega)
  exact z.up (by rw [Nat.one_mul]; exact hn) (Nat.le_refl _)
theorem good_all' {n : Nat} {ds : List D} (h : ∀ d ∈ ds, d.good n = true) : ds.all (D.good n) = true := List.all_eq_true.mpr h
theorem eqL_map {α : Type} [DecidableEq α] {f : α → D} : ∀ (l m : List α), (∀ a ∈ l, ∀ b ∈ m, PyData.eqv (f a).toPy (f b).toPy = decide (a = b)) → PyData.eqvAll (D.toPys (l.map f)) (D.toPys (m.map f)) = decide (l = m)
  | [], [], _ => by simp [D.toPys, PyData.eqvAll]
  | [], b :: m, _ => by simp [D.toPys, PyData.eqvAll]
  | a :: l, [], _ => by simp [D.toPys, PyData.eqvAll]
  | a :: l, b :: m, h => by
    have h1 := h a List.mem_cons_self b List.mem_cons_self
    have h2 := eqL_map l m fun x hx y hy => h x (List.mem_cons_of_mem _ hx) y (List.mem_cons_of_mem _ hy)
    rw [List.map_cons, List.map_cons]
    show PyData.eqvAll ((f a).toPy :: D.toPys (l.map f)) ((f b).toPy :: D.toPys (m.map f)) = _
    unfold PyData.eqvAll
    rw [h1, h2]
    by_cases c1 : a = b <;> by_cases c2 : l = m <;> simp [c1, c2]
theorem lc_filterA {α : Type} {t : CT} {ct : CB} {ce : C} {δ : List Sl} {f g : α → D} {q : α → Bool} : ∀ (l : List α) (acc : List D), (∀ a ∈ l, ∃ δ1, t (f a) δ = some δ1 ∧ ct δ1 = .ok (q a) ∧ (q a = true → ce δ1 = .ok (g a))) → acc.length + l.length < sizeLine → lcGo t ct ce δ (l.map f) acc = .ok (acc ++ (l.filter q).map g)
  | [], acc, _, _ => by simp [lcGo]
  | a :: l, acc, h, hl => by
    obtain ⟨δ1, h1, h2, h3⟩ := h a List.mem_cons_self
    rw [List.map_cons]
    unfold lcGo
    simp only [h1, h2]
    cases hp : q a with
    | true =>
      have ih := lc_filterA l (acc ++ [g a]) (fun x hx => h x (List.mem_cons_of_mem _ hx)) (by simp only [List.length_append, List.length_cons, List.length_nil] at *; omega)
      simp only [h3 hp]
      rw [if_pos (by simp only [List.length_cons] at hl; omega), ih]
      simp [hp]
    | false =>
      have ih := lc_filterA l acc (fun x hx => h x (List.mem_cons_of_mem _ hx)) (by simp only [List.length_cons] at hl; omega)
      simp only []
      rw [ih]
      simp [hp]
/-! ### a repr of numbers below 2 ^ 1920 -/
theorem len_strZ {i : Int} (h : Bd 1920 i) : (PySem.Str.ofString (toString i)).length ≤ 1921 := by
  rw [len_of, Int.toString_eq_repr, Int.repr_eq_if]
  have g : i.natAbs < 10 ^ 1920 := Nat.lt_of_lt_of_le h (Nat.pow_le_pow_left (by decide) _)
  have g1 : (-i).toNat < 10 ^ 1920 := Nat.lt_of_le_of_lt (by omega) g
  have g2 : i.toNat < 10 ^ 1920 := Nat.lt_of_le_of_lt (by omega) g
  have e1 := (Nat.length_repr_le_iff (n := (-i).toNat) (by decide : 0 < 1920)).mpr g1
  have e2 := (Nat.length_repr_le_iff (n := i.toNat) (by decide : 0 < 1920)).mpr g2
  clear g g1 g2 h
  split
  · omega
  · rw [String.length_append]
    have : ("-" : String).length = 1 := by decide
    omega
/-- d shows in at most k signs -/
def Shw (d : D) (k : Nat) : Prop := d.toPy.shown.length ≤ k ∧ d.toPy.showable = true
theorem shw_int {i : Int} (h : Bd 1920 i) : Shw (.int i) 1921 := by
  unfold Shw D.toPy PyData.shown PyData.showable
  exact ⟨len_strZ h, decide_eq_true (Nat.lt_of_lt_of_le (PySem.Flt.log2_lt_of (Nat.succ_pos 1919) h) (Nat.le_refl _))⟩
theorem shw_str {x : PySem.Str} {k : Nat} (h : (reprText x).length ≤ k) : Shw (.str x) k := by
  unfold Shw D.toPy PyData.shown PyData.showable
  exact ⟨h, rfl⟩
def ShwA (ds : List D) (k : Nat) : Prop := piled (PyData.shownAll (D.toPys ds)) ≤ k ∧ PyData.showableAll (D.toPys ds) = true
theorem shwA_nil : ShwA [] 0 := by
  unfold ShwA D.toPys PyData.shownAll PyData.showableAll
  exact ⟨by rw [piled_nil]; exact Nat.le_refl _, rfl⟩
theorem shwA_cons {d : D} {ds : List D} {k j : Nat} (h : Shw d k) (g : ShwA ds j) : ShwA (d :: ds) (k + 2 + j) := by
  obtain ⟨h1, h2⟩ := h
  obtain ⟨g1, g2⟩ := g
  unfold ShwA D.toPys PyData.shownAll PyData.showableAll
  rw [piled_cons, h2, g2]
  exact ⟨by omega, rfl⟩
theorem Shw.tup {ds : List D} {k : Nat} (h : ShwA ds k) : Shw (.tup ds) (3 + k) := by
  obtain ⟨h1, h2⟩ := h
  unfold Shw D.toPy PyData.shown PyData.showable
  exact ⟨Nat.le_trans (tupleText_le _) (by omega), h2⟩
theorem Shw.lst {ds : List D} {k : Nat} (h : ShwA ds k) : Shw (.lst ds) (3 + k) := by
  obtain ⟨h1, h2⟩ := h
  unfold Shw D.toPy PyData.shown PyData.showable
  exact ⟨Nat.le_trans (listText_le _) (by omega), h2⟩
theorem shwA_all {k : Nat} : ∀ {ds : List D}, (∀ d ∈ ds, Shw d k) → ShwA ds (ds.length * (k + 2))
  | [], _ => by
    rw [List.length_nil, Nat.zero_mul]
    exact shwA_nil
  | d :: ds, h => by
    have z := shwA_cons (h d List.mem_cons_self) (shwA_all (ds := ds) fun x hx => h x (List.mem_cons_of_mem _ hx))
    rw [List.length_cons, Nat.succ_mul, Nat.add_comm]
    exact z
theorem Shw.up {d : D} {k j : Nat} (h : Shw d k) (hk : k ≤ j) : Shw d j := ⟨Nat.le_trans h.1 hk, h.2⟩
theorem repr_shw {d : D} {k : Nat} (g : d.good 20 = true) (h : Shw d k) (hk : k ≤ 10000000) : ∃ S, dRepr [d] = .ok (.str S) := by
  refine ⟨d.toPy.shown, ?_⟩
  show (if d.good 20 = true then (if d.toPy.showable = true ∧ d.toPy.shown.length ≤ sizeLine then R.ok (D.str d.toPy.shown) else .no) else (if isD0 d = true then .ok (.str "{}") else .no)) = _
  rw [if_pos g, if_pos ⟨h.2, sz (Nat.le_trans h.1 hk)⟩]
theorem shw_PR {M B : Nat} {q : Rat} (h : Vk M B q) (hM : 0 < M) (m1 : M < 2 ^ 1920) (m2 : B * M < 2 ^ 1920) : Shw (PR q) 3849 := by
  obtain ⟨b1, b2⟩ := h.bd hM
  have s1 : Shw (.int q.num) 1921 := shw_int (Nat.lt_of_le_of_lt b2 m2)
  have s2 : Shw (.int ((q.den : Nat) : Int)) 1921 := shw_int (show ((q.den : Nat) : Int).natAbs < 2 ^ 1920 from Nat.lt_of_le_of_lt (show q.den ≤ M from b1) m1)
  exact (Shw.tup (shwA_cons s1 (shwA_cons s2 shwA_nil))).up (by decide)
theorem good_PR {q : Rat} {n : Nat} : (PR q).good (n + 1) = true := by
  show ([.int q.num, .int ((q.den : Nat) : Int)] : List D).all (D.good n) = true
  cases n <;> rfl
/-! ### shares at all rooms: plain numbers -/
def It.chW (i : It) (q : Rat) : Int := if 0 ≤ q then i.on true q else match i.bd false with
  | some b => if q < -b then 0 else i.s
  | none => i.s
def It.chE (i : It) (q : Rat) : Option Rat := if 0 ≤ q then (match i.bd true with
    | some b => if q < b then some b else none
    | none => none) else match i.bd false with
  | some b => if q < -b then some (-b) else some 0
  | none => some 0
theorem chE_gt {i : It} {q e : Rat} (h : i.chE q = some e) : q < e := by
  unfold It.chE at h
  split at h
  · split at h
    · split at h
      · cases h; assumption
      · cases h
    · cases h
  · split at h
    · split at h
      · cases h; assumption
      · cases h; grind
    · cases h; grind
theorem chE_np {i : It} (ok : i.Ok) {q : Rat} (hq : q < 0) : ∃ e, i.chE q = some e ∧ e ≤ 0 := by
  unfold It.chE
  rw [if_neg (by grind)]
  cases eb : i.bd false with
  | none => exact ⟨0, rfl, Rat.le_refl⟩
  | some b =>
    have b0 := (bd_nn ok eb).1
    show ∃ e, (if q < -b then some (-b) else some 0) = some e ∧ e ≤ 0
    split
    · exact ⟨_, rfl, by grind⟩
    · exact ⟨_, rfl, Rat.le_refl⟩
theorem chW_nn {i : It} (ok : i.Ok) {q : Rat} : 0 ≤ i.chW q ∧ i.chW q ≤ 20 := by
  have := ok.s0; have := ok.s1
  unfold It.chW
  split
  · exact on_le ok
  · split
    · split <;> omega
    · omega
theorem wd_step {i : It} (ok : i.Ok) {q x : Rat} (h : q ≤ x) (he : ∀ e, i.chE q = some e → x ≤ e) : i.wd x = i.wd q + (x - q) * (i.chW q : Rat) := by
  by_cases c : 0 ≤ q
  · rw [wd_up ok c, wd_up ok (by grind : (0 : Rat) ≤ x)]
    have z := dev_lin ok (u := true) (f := q) (e := x) (x := x) h Rat.le_refl (fun b eb => by
      by_cases d : q < b
      · right
        refine he b ?_
        unfold It.chE
        rw [if_pos c, eb]
        show (if q < b then some b else none) = _
        rw [if_pos d]
      · left; grind)
    have e2 : i.chW q = i.on true q := by unfold It.chW; rw [if_pos c]
    rw [z, e2]
    grind
  · have q0 : q < 0 := by grind
    obtain ⟨e, ee, e0⟩ := chE_np ok q0
    have x0 : x ≤ 0 := by have := he e ee; grind
    have w1 := wd_dn ok (t := -q) (by grind)
    have w2 := wd_dn ok (t := -x) (by grind)
    have a1 : - -q = q := by grind
    have a2 : - -x = x := by grind
    rw [a1] at w1
    rw [a2] at w2
    have hE : i.chE q = match i.bd false with
      | some b => if q < -b then some (-b) else some 0
      | none => some 0 := by unfold It.chE; rw [if_neg c]
    have hW : i.chW q = match i.bd false with
      | some b => if q < -b then 0 else i.s
      | none => i.s := by unfold It.chW; rw [if_neg c]
    have z := dev_lin ok (u := false) (f := -x) (e := -q) (x := -q) (by grind) Rat.le_refl (fun b eb => by
      rw [eb] at hE
      by_cases d : q < -b
      · left
        have := he (-b) (by rw [hE]; show (if q < -b then some (-b) else some 0) = _; rw [if_pos d])
        grind
      · right; grind)
    rw [w1, w2, z]
    cases eb : i.bd false with
    | none =>
      rw [eb] at hW
      have on : i.on false (-x) = i.s := by unfold It.on; rw [eb]; rfl
      rw [on, hW]
      grind
    | some b =>
      rw [eb] at hW hE
      have on : i.on false (-x) = if -x < b then i.s else 0 := by unfold It.on; rw [eb]; rfl
      have hW' : i.chW q = if q < -b then 0 else i.s := hW
      have hE' : i.chE q = if q < -b then some (-b) else some 0 := hE
      by_cases d : q < -b
      · rw [if_pos d] at hW' hE'
        have := he _ hE'
        rw [on, hW', if_neg (by grind)]
        grind
      · rw [if_neg d] at hW' hE'
        rw [on, hW']
        by_cases y : -x < b
        · rw [if_pos y]; grind
        · have : x = q := by grind
          subst this
          grind
def tW (its : List It) (q : Rat) : Int := (its.map fun i => i.chW q).sum
theorem tW_nn {its : List It} {q : Rat} (ok : Oks its) : 0 ≤ tW its q ∧ tW its q ≤ 20 * its.length := by
  induction its with
  | nil => unfold tW; simp
  | cons i its ih =>
    have h1 := chW_nn (ok i List.mem_cons_self) (q := q)
    have h2 := ih fun j hj => ok j (List.mem_cons_of_mem _ hj)
    unfold tW at h2 ⊢
    rw [List.map_cons, List.sum_cons, List.length_cons]
    omega
theorem tW_0 {its : List It} {q : Rat} (ok : Oks its) (h : tW its q = 0) : ∀ i ∈ its, i.chW q = 0 := by
  induction its with
  | nil => intro i hi; cases hi
  | cons i its ih =>
    have h1 := chW_nn (ok i List.mem_cons_self) (q := q)
    have h2 := tW_nn (q := q) fun j hj => ok j (List.mem_cons_of_mem i hj)
    have e : tW (i :: its) q = i.chW q + tW its q := by unfold tW; rw [List.map_cons, List.sum_cons]
    intro j hj
    rcases List.mem_cons.mp hj with rfl | hj
    · omega
    · exact ih (fun j hj => ok j (List.mem_cons_of_mem _ hj)) (by omega) j hj
theorem tot_step {its : List It} {q x : Rat} (h : q ≤ x) (ok : Oks its) (he : ∀ i ∈ its, ∀ e, i.chE q = some e → x ≤ e) : total its x = total its q + (x - q) * (tW its q : Rat) := by
  induction its with
  | nil => unfold total tW rsum; simp; grind
  | cons i its ih =>
    have h1 := wd_step (ok i List.mem_cons_self) h (he i List.mem_cons_self)
    have h2 := ih (fun j hj => ok j (List.mem_cons_of_mem _ hj)) fun j hj => he j (List.mem_cons_of_mem _ hj)
    have e : tW (i :: its) q = i.chW q + tW its q := by unfold tW; rw [List.map_cons, List.sum_cons]
    unfold total at h2 ⊢
    simp only [List.map_cons, rsum]
    rw [h2, h1, e, Rat.intCast_add]
    grind
theorem tot_mono {its : List It} {a b : Rat} (h : a ≤ b) (ok : Oks its) : total its a ≤ total its b := by
  induction its with
  | nil => unfold total rsum; simp
  | cons i its ih =>
    have h1 := wd_mono (ok i List.mem_cons_self) h
    have h2 := ih fun j hj => ok j (List.mem_cons_of_mem _ hj)
    unfold total at h2 ⊢
    simp only [List.map_cons, rsum]
    grind
theorem tot_eq {its : List It} {a b : Rat} (h : a ≤ b) (ok : Oks its) (e : total its a = total its b) : ∀ i ∈ its, i.wd a = i.wd b := by
  induction its with
  | nil => intro i hi; cases hi
  | cons i its ih =>
    have h1 := wd_mono (ok i List.mem_cons_self) h
    have ok' : Oks its := fun j hj => ok j (List.mem_cons_of_mem _ hj)
    have h2 := tot_mono h ok'
    have e' : i.wd a + total its a = i.wd b + total its b := e
    intro j hj
    rcases List.mem_cons.mp hj with rfl | hj
    · grind
    · exact ih ok' (by grind) j hj
/-- a room that a share fills is filled -/
theorem Share_fill {its : List It} {x p y : Rat} (ok : Oks its) (h : Share its x p) (e : total its y = x) : total its p = x := by
  by_cases c : (wishes its : Rat) ≤ x
  · have s := h.up c
    rcases s.or with ⟨a, _⟩ | ⟨a, _, f⟩
    · rw [total_up s.nn ok]; grind
    · have t := total_up (its := its) s.nn ok
      by_cases d : p ≤ y
      · have z := Full_flat ok f d
        have t2 := total_up (its := its) (t := y) (by have := s.nn; grind) ok
        grind
      · have := tot_mono (its := its) (a := y) (b := p) (by grind) ok
        grind
  · have s := h.dn (by grind)
    have ea : - -p = p := by grind
    have t := total_dn (its := its) s.nn ok
    rw [ea] at t
    rcases s.or with ⟨a, _⟩ | ⟨a, _, f⟩
    · grind
    · by_cases d : y ≤ p
      · have z := Full_flat (x := -y) ok f (by grind)
        have t2 := total_dn (its := its) (t := -y) (by have := s.nn; grind) ok
        have eb : - -y = y := by grind
        rw [eb] at t2
        grind
      · have := tot_mono (its := its) (a := p) (b := y) (by grind) ok
        grind
theorem Share_wd {its : List It} {x p y : Rat} (ok : Oks its) (h : Share its x p) (e : total its y = x) : ∀ i ∈ its, i.wd p = i.wd y := by
  have t := Share_fill ok h e
  intro i hi
  by_cases d : p ≤ y
  · exact tot_eq d ok (by grind) i hi
  · exact (tot_eq (by grind) ok (by grind) i hi).symm
theorem Share_pos {its : List It} {R q : Rat} (ok : Oks its) (h : Share its R q) (no : ¬ R < total its q) (hq : q < 0) : 0 < tW its q := by
  refine Classical.byContradiction fun nz => ?_
  have z0 : tW its q = 0 := by have := (tW_nn (q := q) ok).1; omega
  have c : R < (wishes its : Rat) := by
    refine Classical.byContradiction fun c => ?_
    have := (h.up (by grind)).nn
    grind
  have s := h.dn c
  have ea : - -q = q := by grind
  have t := total_dn (its := its) s.nn ok
  rw [ea] at t
  rcases s.or with ⟨a, mn⟩ | ⟨a, _, f⟩
  · -- a little more of a share gives the same
    have key : ∀ js : List It, Oks js → ∃ x, q < x ∧ x ≤ 0 ∧ ∀ i ∈ js, ∀ e, i.chE q = some e → x ≤ e := by
      intro js
      induction js with
      | nil => intro _; exact ⟨0, hq, Rat.le_refl, fun i hi => nomatch hi⟩
      | cons i js ih =>
        intro ok
        obtain ⟨x, x1, x2, x3⟩ := ih fun j hj => ok j (List.mem_cons_of_mem _ hj)
        obtain ⟨e, ee, e0⟩ := chE_np (ok i List.mem_cons_self) hq
        have eg := chE_gt ee
        refine ⟨rmin x e, by unfold rmin; split <;> assumption, by unfold rmin; split <;> assumption, fun j hj e' he' => ?_⟩
        rcases List.mem_cons.mp hj with rfl | hj
        · rw [ee] at he'
          cases he'
          unfold rmin; split <;> grind
        · have := x3 j hj e' he'
          unfold rmin; split <;> grind
    obtain ⟨x, x1, x2, x3⟩ := key its ok
    have ts := tot_step (q := q) (x := x) (by grind) ok x3
    rw [z0] at ts
    have t2 := total_dn (its := its) (t := -x) (by grind) ok
    have eb : - -x = x := by grind
    rw [eb] at t2
    have := mn (-x) (by grind) (by grind)
    have z : (((0 : Int)) : Rat) = 0 := rfl
    grind
  · grind
/-- the line of an item from a room on -/
structure Ln where
  a : Rat
  g : Rat
deriving DecidableEq
def Ln.at (l : Ln) (x : Rat) : Rat := l.a + l.g * x
/-- the end of all, reckoned item by item -/
def fst (a b : Option Rat) : Option Rat := match a, b with
  | none, b => b
  | a, none => a
  | some a, some b => some (if b < a then b else a)
def tE (its : List It) (q : Rat) : Option Rat := (its.map fun i => i.chE q).foldl fst none
theorem fst_some {a b : Option Rat} {e : Rat} (h : fst a b = some e) : (a = some e ∨ b = some e) ∧ (∀ x, a = some x → e ≤ x) ∧ ∀ x, b = some x → e ≤ x := by
  unfold fst at h
  split at h
  · exact ⟨.inr h, (fun x hx => by cases hx), (fun x hx => by rw [h] at hx; cases hx; exact Rat.le_refl)⟩
  · exact ⟨.inl h, (fun x hx => by rw [h] at hx; cases hx; exact Rat.le_refl), (fun x hx => by cases hx)⟩
  · rename_i a b
    cases h
    refine ⟨?_, fun x hx => ?_, fun x hx => ?_⟩
    · split
      · exact .inr rfl
      · exact .inl rfl
    · cases hx; split <;> grind
    · cases hx; split <;> grind
theorem fst_none {a b : Option Rat} (h : fst a b = none) : a = none ∧ b = none := by
  unfold fst at h
  split at h
  · exact ⟨rfl, h⟩
  · rename_i a' hb
    cases a with
    | none => exact ⟨rfl, rfl⟩
    | some a => cases h
  · cases h
theorem foldl_fst : ∀ (l : List (Option Rat)) (a : Option Rat), (∀ e, l.foldl fst a = some e → (a = some e ∨ some e ∈ l) ∧ (∀ x, a = some x → e ≤ x) ∧ ∀ x, some x ∈ l → e ≤ x) ∧ (l.foldl fst a = none → a = none ∧ ∀ o ∈ l, o = none)
  | [], a => ⟨fun e h => ⟨.inl h, fun x hx => by have h' : a = some e := h; rw [h'] at hx; cases hx; exact Rat.le_refl, fun x hx => by simp at hx⟩, fun h => ⟨h, fun o ho => by simp at ho⟩⟩
  | o :: l, a => by
    obtain ⟨h1, h2⟩ := foldl_fst l (fst a o)
    refine ⟨fun e h => ?_, fun h => ?_⟩
    · obtain ⟨m, u, v⟩ := h1 e h
      have key : (∀ x, a = some x → e ≤ x) ∧ ∀ x, o = some x → e ≤ x := by
        cases hf : fst a o with
        | none =>
          obtain ⟨p, r⟩ := fst_none hf
          exact ⟨(fun x hx => by rw [p] at hx; cases hx), (fun x hx => by rw [r] at hx; cases hx)⟩
        | some y =>
          have ey := u y hf
          obtain ⟨_, p, r⟩ := fst_some hf
          exact ⟨fun x hx => by have := p x hx; grind, fun x hx => by have := r x hx; grind⟩
      refine ⟨?_, key.1, fun x hx => ?_⟩
      · rcases m with m | m
        · rcases (fst_some m).1 with m | m
          · exact .inl m
          · exact .inr (by rw [m]; exact List.mem_cons_self)
        · exact .inr (List.mem_cons_of_mem _ m)
      · rcases List.mem_cons.mp hx with hx | hx
        · exact key.2 x hx.symm
        · exact v x hx
    · obtain ⟨p, r⟩ := h2 h
      obtain ⟨p1, p2⟩ := fst_none p
      refine ⟨p1, fun o' ho => ?_⟩
      rcases List.mem_cons.mp ho with rfl | ho
      · exact p2
      · exact r o' ho
theorem tE_some {its : List It} {q e : Rat} (h : tE its q = some e) : (∃ i ∈ its, i.chE q = some e) ∧ ∀ i ∈ its, ∀ x, i.chE q = some x → e ≤ x := by
  obtain ⟨m, _, v⟩ := (foldl_fst _ none).1 e h
  refine ⟨?_, fun i hi x hx => v x (by rw [← hx]; exact List.mem_map_of_mem (f := fun i : It => i.chE q) hi)⟩
  rcases m with m | m
  · cases m
  · obtain ⟨i, hi, e⟩ := List.mem_map.mp m
    exact ⟨i, hi, e⟩
theorem tE_none {its : List It} {q : Rat} (h : tE its q = none) : ∀ i ∈ its, i.chE q = none := fun i hi => ((foldl_fst _ none).2 h).2 _ (List.mem_map_of_mem (f := fun i : It => i.chE q) hi)
/-- the places at which items come to their bounds, and none -/
def Es (its : List It) : List Rat := 0 :: its.flatMap fun i => (i.bd true).toList ++ (i.bd false).toList.map fun b => -b
theorem chE_Es {its : List It} {i : It} (hi : i ∈ its) {q e : Rat} (h : i.chE q = some e) : e ∈ Es its := by
  have key : e = 0 ∨ (i.bd true = some e ∨ ∃ b, i.bd false = some b ∧ e = -b) := by
    unfold It.chE at h
    split at h
    · split at h
      · split at h
        · rename_i b eb _; cases h; exact .inr (.inl eb)
        · cases h
      · cases h
    · split at h
      · split at h
        · rename_i b eb _; cases h; exact .inr (.inr ⟨b, eb, rfl⟩)
        · cases h; exact .inl rfl
      · cases h; exact .inl rfl
  rcases key with rfl | key
  · exact List.mem_cons_self
  · refine List.mem_cons_of_mem _ (List.mem_flatMap.mpr ⟨i, hi, List.mem_append.mpr ?_⟩)
    rcases key with key | ⟨b, key, rfl⟩
    · exact .inl (by rw [key]; simp)
    · exact .inr (by rw [key]; simp)
def cnt (its : List It) (q : Rat) : Nat := (Es its).countP fun e => decide (q < e)
theorem cnt_mono {its : List It} {q p : Rat} (h : q ≤ p) : cnt its p ≤ cnt its q := by
  unfold cnt
  refine List.countP_mono_left fun e _ he => ?_
  have : p < e := of_decide_eq_true he
  exact decide_eq_true (by grind)
theorem cnt_lt {q p e : Rat} (h1 : q < e) (h2 : e ≤ p) : ∀ {l : List Rat}, e ∈ l → l.countP (fun x => decide (p < x)) < l.countP fun x => decide (q < x)
  | [], h => by cases h
  | x :: l, h => by
    have mono : l.countP (fun x => decide (p < x)) ≤ l.countP fun x => decide (q < x) := List.countP_mono_left fun e _ he => by
      have : p < e := of_decide_eq_true he
      exact decide_eq_true (by grind)
    rw [List.countP_cons, List.countP_cons]
    rcases List.mem_cons.mp h with rfl | h
    · rw [decide_eq_false (by grind : ¬ p < e), decide_eq_true h1]
      simp
      omega
    · have ih := cnt_lt h1 h2 h
      by_cases c : p < x
      · rw [decide_eq_true c, decide_eq_true (by grind : q < x)]
        simp
        omega
      · rw [decide_eq_false c]
        simp
        omega
/-! ### one piece -/
/-- the lines of items, as they are from a share q and a room R on -/
def lnC (its : List It) (q : Rat) : List Ln := its.map fun i => ⟨i.wd q, 0⟩
def grW (its : List It) (q : Rat) (i : It) : Rat := (i.chW q : Rat) / (tW its q : Rat)
def lnG (its : List It) (q R : Rat) : List Ln := its.map fun i => ⟨i.wd q - grW its q i * R, grW its q i⟩
/-- what share_at tells -/
def stpL (its : List It) (q R : Rat) : List Ln := if R < total its q then lnC its q else if tW its q = 0 ∧ 0 ≤ q then lnC its q else lnG its q R
def stpE (its : List It) (q R : Rat) : Option Rat := if R < total its q then some (total its q) else if tW its q = 0 ∧ 0 ≤ q then none else (tE its q).map fun e => R + (e - q) * (tW its q : Rat)
/-- lines that tell the widths from lo on, below hi -/
def Val (its : List It) (ls : List Ln) (lo : Rat) (hi : Option Rat) : Prop := ∀ x, lo ≤ x → (∀ h, hi = some h → x < h) → ∀ p, Share its x p → (its.map fun i => i.wd p) = ls.map fun l => l.at x
theorem tW_pos {its : List It} {R q : Rat} (ok : Oks its) (h : Share its R q) (no : ¬ R < total its q) (nc : ¬ (tW its q = 0 ∧ 0 ≤ q)) : 0 < tW its q := by
  by_cases c : 0 ≤ q
  · have := (tW_nn (q := q) ok).1
    have : tW its q ≠ 0 := fun z => nc ⟨z, c⟩
    omega
  · exact Share_pos ok h no (by grind)
theorem sum_z {f : It → Int} : ∀ its : List It, (∀ i ∈ its, f i = 0) → (its.map f).sum = 0
  | [], _ => rfl
  | i :: its, h => by rw [List.map_cons, List.sum_cons, h i List.mem_cons_self, sum_z its fun j hj => h j (List.mem_cons_of_mem _ hj)]; rfl
/-- where something changes the room is filled -/
theorem tot_R {its : List It} {R q : Rat} (ok : Oks its) (h : Share its R q) (no : ¬ R < total its q) (wp : 0 < tW its q) : total its q = R := by
  by_cases c : (wishes its : Rat) ≤ R
  · have s := h.up c
    have t := total_up (its := its) s.nn ok
    rcases s.or with ⟨a, _⟩ | ⟨a, _, f⟩
    · grind
    · exfalso
      have : tW its q = 0 := by
        have z : ∀ i ∈ its, i.chW q = 0 := fun i hi => by
          unfold It.chW
          rw [if_pos s.nn]
          unfold It.on
          by_cases w : 0 < i.wt true
          · obtain ⟨b, hb, hbt⟩ := f i hi w
            rw [hb]
            show (if q < b then i.wt true else 0) = 0
            rw [if_neg (by grind)]
          · have w0 : i.wt true = 0 := by have := (wt_nn (ok i hi) true).1; omega
            have eb : i.bd true = none := by unfold It.bd; rw [if_neg w]
            rw [eb]
            exact w0
        unfold tW
        exact sum_z its z
      omega
  · have s := h.dn (by grind)
    have ea : - -q = q := by grind
    have t := total_dn (its := its) s.nn ok
    rw [ea] at t
    have := Spec_le s
    grind
theorem step_to {its : List It} {R q x : Rat} (ok : Oks its) (h : Share its R q) (no : ¬ R < total its q) (wp : 0 < tW its q) (hx : R ≤ x) (hE : ∀ e, tE its q = some e → x ≤ R + (e - q) * (tW its q : Rat)) :
    ∃ y, q ≤ y ∧ (∀ i ∈ its, i.wd y = (i.wd q - grW its q i * R) + grW its q i * x) ∧ total its y = x ∧ (y - q) * (tW its q : Rat) = x - R := by
  have tr := tot_R ok h no wp
  have W0 := ic_p wp
  have dm := div_mul (a := x - R) W0
  have y0 : 0 ≤ (x - R) / (tW its q : Rat) := by
    rw [Rat.div_def]
    exact Rat.mul_nonneg (by grind) (Rat.le_of_lt (Rat.inv_pos.mpr W0))
  have dg : ∀ i : It, (tW its q : Rat) * grW its q i = (i.chW q : Rat) := fun i => div_mul W0
  generalize (x - R) / (tW its q : Rat) = d at *
  have le : ∀ i ∈ its, ∀ e, i.chE q = some e → q + d ≤ e := fun i hi e he => by
    cases te : tE its q with
    | none => rw [tE_none te i hi] at he; cases he
    | some e' =>
      have z := hE e' te
      have z2 := (tE_some te).2 i hi e he
      refine Classical.byContradiction fun nn => ?_
      have : e' - q < d := by grind
      have := mul_lt this W0
      grind
  refine ⟨q + d, by grind, fun i hi => ?_, ?_, by grind⟩
  · rw [wd_step (ok i hi) (by grind) (le i hi)]
    have e2 := dg i
    have : (q + d - q) * (i.chW q : Rat) = grW its q i * (x - R) := by
      rw [← e2, ← dm]
      grind
    rw [this]
    grind
  · rw [tot_step (by grind) ok le, tr]
    grind
theorem stp_val {its : List It} {R q : Rat} (ok : Oks its) (h : Share its R q) : Val its (stpL its q R) R (stpE its q R) := by
  intro x hx hlt p hp
  have qp := Share_mono ok h hp hx
  unfold stpL
  unfold stpE at hlt
  by_cases c : R < total its q
  · rw [if_pos c] at hlt ⊢
    have xl := hlt _ rfl
    have tp := tot_mono qp ok
    have o1 := Share_over ok h c
    have o2 := Share_over ok hp (by grind)
    unfold lnC
    rw [List.map_map]
    refine List.map_congr_left fun i hi => ?_
    show i.wd p = i.wd q + 0 * x
    rw [o1 i hi, o2 i hi]
    grind
  · rw [if_neg c] at hlt ⊢
    by_cases f : tW its q = 0 ∧ 0 ≤ q
    · rw [if_pos f]
      unfold lnC
      rw [List.map_map]
      refine List.map_congr_left fun i hi => ?_
      show i.wd p = i.wd q + 0 * x
      have w0 := tW_0 ok f.1 i hi
      rw [wd_step (ok i hi) qp fun e he => ?_, w0]
      · grind
      · exfalso
        unfold It.chE at he
        unfold It.chW It.on at w0
        rw [if_pos f.2] at he w0
        cases eb : i.bd true with
        | none => rw [eb] at he; cases he
        | some b =>
          rw [eb] at he w0
          have he' : (if q < b then some b else none) = some e := he
          have w0' : (if q < b then i.wt true else 0) = 0 := w0
          have wp := (bd_nn (ok i hi) eb).2.1
          split at he'
          · rename_i cc
            rw [if_pos cc] at w0'
            omega
          · cases he'
    · rw [if_neg f] at hlt ⊢
      have wp := tW_pos ok h c f
      obtain ⟨y, y1, y2, y3, _⟩ := step_to ok h c wp hx fun e te => Rat.le_of_lt (hlt _ (by rw [te]; rfl))
      unfold lnG
      rw [List.map_map]
      refine List.map_congr_left fun i hi => ?_
      show i.wd p = (i.wd q - grW its q i * R) + grW its q i * x
      rw [Share_wd ok hp y3 i hi, y2 i hi]
theorem stpE_gt {its : List It} {R q E : Rat} (ok : Oks its) (h : Share its R q) (e : stpE its q R = some E) : R < E := by
  unfold stpE at e
  by_cases c : R < total its q
  · rw [if_pos c] at e
    cases e
    exact c
  · rw [if_neg c] at e
    by_cases f : tW its q = 0 ∧ 0 ≤ q
    · rw [if_pos f] at e; cases e
    · rw [if_neg f] at e
      have wp := ic_p (tW_pos ok h c f)
      cases te : tE its q with
      | none => rw [te] at e; cases e
      | some e' =>
        rw [te] at e
        cases e
        obtain ⟨i, hi, he⟩ := (tE_some te).1
        have := chE_gt he
        have := Rat.mul_pos (by grind : 0 < e' - q) wp
        grind
/-- how much is still to come -/
def mes (its : List It) (q R : Rat) : Nat := 2 * cnt its q + if R < total its q then 1 else 0
theorem mes_lt {its : List It} {R q E p : Rat} (ok : Oks its) (h : Share its R q) (e : stpE its q R = some E) (hp : Share its E p) : mes its p E < mes its q R := by
  have RE := stpE_gt ok h e
  have qp := Share_mono ok h hp (Rat.le_of_lt RE)
  have cm := cnt_mono (its := its) qp
  unfold stpE at e
  unfold mes
  by_cases c : R < total its q
  · rw [if_pos c] at e ⊢
    cases e
    have no : ¬ total its q < total its p := fun l => by
      have o1 := Share_over ok h c
      have o2 := Share_over ok hp l
      have : total its p = total its q := by
        unfold total
        rw [List.map_congr_left (g := fun i => i.wd q) fun i hi => by rw [o1 i hi, o2 i hi]]
      grind
    rw [if_neg no]
    omega
  · rw [if_neg c] at e
    by_cases f : tW its q = 0 ∧ 0 ≤ q
    · rw [if_pos f] at e; cases e
    · rw [if_neg f] at e
      have wp := tW_pos ok h c f
      cases te : tE its q with
      | none => rw [te] at e; cases e
      | some e' =>
        rw [te] at e
        have eE : R + (e' - q) * (tW its q : Rat) = E := by injection e
        obtain ⟨i, hi, he⟩ := (tE_some te).1
        have qe := chE_gt he
        have tR := tot_R ok h c wp
        have W0 := ic_p wp
        obtain ⟨y, y1, y2, y3, y4⟩ := step_to (x := E) ok h c wp (Rat.le_of_lt RE) fun e2 te2 => by
          rw [te] at te2
          cases te2
          rw [eE]
          exact Rat.le_refl
        have fl := Share_fill ok hp y3
        have pe : e' ≤ p := by
          refine Classical.byContradiction fun nn => ?_
          have pl : p < e' := by grind
          have tp := tot_step (its := its) qp ok fun j hj x hx => by
            have := (tE_some te).2 j hj x hx
            grind
          have := mul_lt (by grind : p - q < e' - q) W0
          grind
        have := cnt_lt qe pe (chE_Es hi he)
        unfold cnt at *
        rw [if_neg c]
        split <;> omega
/-- a room at an end is what items take at one of their bounds -/
theorem stpE_at {its : List It} {R q E : Rat} (ok : Oks its) (h : Share its R q) (e : stpE its q R = some E) : (∃ x ∈ Es its, E = total its x) ∨ ∃ k : Int, E = (k : Rat) ∧ 0 ≤ k ∧ k ≤ 1000 * its.length := by
  have RE := stpE_gt ok h e
  unfold stpE at e
  by_cases c : R < total its q
  · rw [if_pos c] at e
    cases e
    right
    have o1 := Share_over ok h c
    have key : ∀ js : List It, Oks js → (∀ i ∈ js, i.wd q = ((if 0 < i.s then i.l else i.w : Int) : Rat)) → ∃ k : Int, total js q = (k : Rat) ∧ 0 ≤ k ∧ k ≤ 1000 * js.length := by
      intro js
      induction js with
      | nil => intro _ _; exact ⟨0, rfl, by simp, by simp⟩
      | cons i js ih =>
        intro ok o
        obtain ⟨k, k1, k2, k3⟩ := ih (fun j hj => ok j (List.mem_cons_of_mem _ hj)) fun j hj => o j (List.mem_cons_of_mem _ hj)
        have oi := ok i List.mem_cons_self
        have := oi.l0; have := oi.lw; have := oi.w1
        refine ⟨(if 0 < i.s then i.l else i.w) + k, ?_, by split <;> omega, by rw [List.length_cons]; split <;> omega⟩
        unfold total at k1 ⊢
        simp only [List.map_cons, rsum]
        rw [k1, o i List.mem_cons_self, Rat.intCast_add]
    exact key its ok o1
  · rw [if_neg c] at e
    by_cases f : tW its q = 0 ∧ 0 ≤ q
    · rw [if_pos f] at e; cases e
    · rw [if_neg f] at e
      have wp := tW_pos ok h c f
      cases te : tE its q with
      | none => rw [te] at e; cases e
      | some e' =>
        rw [te] at e
        have eE : R + (e' - q) * (tW its q : Rat) = E := by injection e
        obtain ⟨i, hi, he⟩ := (tE_some te).1
        have tR := tot_R ok h c wp
        have ts := tot_step (its := its) (Rat.le_of_lt (chE_gt he)) ok (tE_some te).2
        exact .inl ⟨e', chE_Es hi he, by grind⟩
/-! ### the pieces -/
structure Pce where
  r : Rat
  ls : List Ln
def Chn (its : List It) : List Pce → Option Rat → Prop
  | [], _ => False
  | [p], hi => Val its p.ls p.r hi ∧ ∀ h, hi = some h → p.r < h
  | p :: p2 :: ps, hi => Val its p.ls p.r (some p2.r) ∧ p.r < p2.r ∧ p.ls ≠ p2.ls ∧ Chn its (p2 :: ps) hi
theorem Val.join {its : List It} {ls : List Ln} {a b : Rat} {hi : Option Rat} (h : Val its ls a (some b)) (h2 : Val its ls b hi) : Val its ls a hi := fun x ax xh p hp => by
  by_cases c : x < b
  · exact h x ax (fun z e => by cases e; exact c) p hp
  · exact h2 x (by grind) xh p hp
theorem Chn.snoc {its : List It} {R : Rat} {ls : List Ln} {hi : Option Rat} (v : Val its ls R hi) (gt : ∀ h, hi = some h → R < h) : ∀ {ps : List Pce} {p : Pce}, Chn its (ps ++ [p]) (some R) → (p.ls = ls → Chn its (ps ++ [p]) hi) ∧ (p.ls ≠ ls → Chn its (ps ++ [p] ++ [⟨R, ls⟩]) hi)
  | [], p, h => by
    obtain ⟨h1, h2⟩ := h
    refine ⟨fun e => ⟨Val.join h1 (by rw [e]; exact v), fun x hx => ?_⟩, fun e => ⟨h1, h2 R rfl, e, v, gt⟩⟩
    have := h2 R rfl
    have := gt x hx
    grind
  | [a], p, h => by
    obtain ⟨h1, h2, h3, h4⟩ := h
    obtain ⟨i1, i2⟩ := Chn.snoc v gt (ps := []) (p := p) h4
    exact ⟨fun e => ⟨h1, h2, h3, i1 e⟩, fun e => ⟨h1, h2, h3, i2 e⟩⟩
  | a :: b :: ps, p, h => by
    obtain ⟨h1, h2, h3, h4⟩ := h
    obtain ⟨i1, i2⟩ := Chn.snoc v gt (ps := b :: ps) (p := p) h4
    exact ⟨fun e => ⟨h1, h2, h3, i1 e⟩, fun e => ⟨h1, h2, h3, i2 e⟩⟩
theorem Chn.get {its : List It} {hi : Option Rat} : ∀ {ps : List Pce} {k : Nat} {p : Pce}, Chn its ps hi → ps[k]? = some p → (∀ p2, ps[k + 1]? = some p2 → Val its p.ls p.r (some p2.r) ∧ p.r < p2.r ∧ p.ls ≠ p2.ls) ∧ (ps[k + 1]? = none → Val its p.ls p.r hi)
  | [], _, _, h, _ => h.elim
  | [a], 0, p, h, e => by
    cases e
    exact ⟨(fun p2 e2 => by cases e2), fun _ => h.1⟩
  | [a], k + 1, p, h, e => by simp at e
  | a :: b :: ps, 0, p, h, e => by
    cases e
    exact ⟨(fun p2 e2 => by cases e2; exact ⟨h.1, h.2.1, h.2.2.1⟩), (fun z => by cases z)⟩
  | a :: b :: ps, k + 1, p, h, e => Chn.get (ps := b :: ps) (k := k) h.2.2.2 e
/-! ### the walk of share_at -/
def opR : Option Rat → D
  | none => .non
  | some q => PR q
def Ln.d (l : Ln) : D := .tup [PR l.a, PR l.g]
def Pce.d (p : Pce) : D := .tup [PR p.r, .lst (p.ls.map Ln.d)]
theorem e_rsVb {o : Option Rat} : rsV (bdRs o) = .ok (opR o) := by cases o <;> rfl
theorem opR_non {o : Option Rat} : (opR o).isNon = o.isNone := by cases o <;> rfl
theorem PRnon {q : Rat} : (PR q).isNon = false := rfl
def Q61 : Nat := L20 * L240
def B61 : Nat := 1000000
theorem Q61_p : 0 < Q61 := by decide +kernel
theorem Q61_400 : Q61 < 2 ^ 400 := by decide +kernel
theorem Q61L : L20 ∣ Q61 := Nat.dvd_mul_right ..
theorem big61 : Big L20 (B61 + 12000) := ⟨Nat.dvd_refl _, by decide, Nat.lt_of_lt_of_le (show L20 < 2 ^ 100 by decide) (p2 (by decide)), Nat.lt_of_lt_of_le (show B61 + 12000 < 2 ^ 100 by decide) (p2 (by decide)), by decide⟩
theorem szQ {n : Nat} (h : n < 2 ^ 200) : Sz Q61 n := ⟨Q61_p, Nat.lt_of_lt_of_le Q61_400 (p2 (by decide)), Nat.lt_of_lt_of_le h (p2 (by decide))⟩
theorem Q4000 : Q61 < 2 ^ 4000 := Nat.lt_of_lt_of_le Q61_400 (p2 (by decide))
theorem chE_vk {i : It} (ok : i.Ok) {q e : Rat} (h : i.chE q = some e) : Vk L20 1000 e := by
  unfold It.chE at h
  split at h
  · split at h
    · split at h
      · rename_i b eb _; cases h; exact (vk_b ok eb).1
      · cases h
    · cases h
  · split at h
    · split at h
      · rename_i b eb _; cases h; exact (vk_b ok eb).1.neg
      · cases h; exact Vk.int (k := 0) (by decide)
    · cases h; exact Vk.int (k := 0) (by decide)
theorem m_cf {i : It} (ok : i.Ok) {q : Rat} (hq : Vk Q61 2000000 q) : m_changes_from [i.d, PR q] = .ok (.tup [.int (i.chW q), opR (i.chE q)]) := by
  have hge : (0 ≤ q.num) = (0 ≤ q) := propext num_ge
  have b1 := m_bo ok true
  have b2 := m_bo ok false
  have sq := szQ (n := 2000000) (by decide +kernel)
  have nn := op_non (m := i.m)
  by_cases c : 0 ≤ q
  · have hW : i.chW q = i.on true q := by unfold It.chW; rw [if_pos c]
    have hE : i.chE q = match i.bd true with
      | some b => if q < b then some b else none
      | none => none := by unfold It.chE; rw [if_pos c] <;> rfl
    rw [hW, hE]
    unfold It.on
    cases eb : i.bd true with
    | none =>
      rw [eb] at b1
      have e1 : rsV (bdRs none) = .ok .non := rfl
      unfold It.d itD at *
      show _ = Rs.ok (D.tup [.int i.g, .non])
      unfold m_changes_from c_changes_from
      by_cases g : 0 < i.g
      · simp_arith [e_ixP0, hge, c, b1, e1, g]
      · simp_arith [e_ixP0, hge, c, b1, e1, g]
    | some b =>
      rw [eb] at b1
      have e1 : rsV (bdRs (some b)) = .ok (PR b) := rfl
      have vb := (vk_b ok eb).1.up (N := Q61) (C := 1000) Q61L (Nat.le_refl _)
      have mo := m_mo vb hq (szQ (by decide +kernel)) sq
      have g : 0 < i.g := (bd_nn ok eb).2.1
      unfold It.d itD at *
      show _ = Rs.ok (D.tup [.int (if q < b then i.g else 0), opR (if q < b then some b else none)])
      unfold m_changes_from c_changes_from
      by_cases d : q < b
      · rw [decide_eq_true d] at mo
        rw [if_pos d, if_pos d]
        simp_arith [e_ixP0, hge, c, b1, e1, g, mo, PRnon]
        rfl
      · rw [decide_eq_false d] at mo
        rw [if_neg d, if_neg d]
        simp_arith [e_ixP0, hge, c, b1, e1, g, mo, PRnon]
        rfl
  · have hW : i.chW q = match i.bd false with
      | some b => if q < -b then 0 else i.s
      | none => i.s := by unfold It.chW; rw [if_neg c] <;> rfl
    have hE : i.chE q = match i.bd false with
      | some b => if q < -b then some (-b) else some 0
      | none => some 0 := by unfold It.chE; rw [if_neg c] <;> rfl
    rw [hW, hE]
    cases eb : i.bd false with
    | none =>
      rw [eb] at b2
      have e1 : rsV (bdRs none) = .ok .non := rfl
      unfold It.d itD at *
      show _ = Rs.ok (D.tup [.int i.s, PR 0])
      unfold m_changes_from c_changes_from
      simp_arith [e_ixP0, hge, c, b2, e1, PR0]
    | some b =>
      rw [eb] at b2
      have e1 : rsV (bdRs (some b)) = .ok (PR b) := rfl
      have vb := (vk_b ok eb).1.up (N := Q61) (C := 1000) Q61L (Nat.le_refl _)
      have le := m_le (Vk.int (M := Q61) (B := 0) (k := 0) (by decide)) vb (szQ (by decide +kernel)) (szQ (by decide +kernel))
      have e0 : (((0 : Int)) : Rat) - b = -b := by
        have : (((0 : Int)) : Rat) = 0 := rfl
        grind
      rw [e0] at le
      have mo := m_mo vb.neg hq (szQ (by decide +kernel)) sq
      unfold It.d itD at *
      show _ = Rs.ok (D.tup [.int (if q < -b then 0 else i.s), opR (if q < -b then some (-b) else some 0)])
      unfold m_changes_from c_changes_from
      by_cases d : q < -b
      · rw [decide_eq_true d] at mo
        rw [if_pos d, if_pos d]
        simp_arith [e_ixP0, hge, c, b2, e1, PRi, le, mo, PRnon]
        rfl
      · rw [decide_eq_false d] at mo
        rw [if_neg d, if_neg d]
        simp_arith [e_ixP0, hge, c, b2, e1, PRi, le, mo, PRnon]
        rfl
theorem m_fo {a b : Option Rat} (ha : ∀ x, a = some x → Vk L20 1000 x) (hb : ∀ x, b = some x → Vk L20 1000 x) : m_first_of [opR a, opR b] = .ok (opR (fst a b)) := by
  cases a with
  | none =>
    have e1 : opR none = .non := rfl
    have e2 : fst none b = b := by cases b <;> rfl
    rw [e1, e2]
    have nb := opR_non (o := b)
    generalize opR b = d at *
    unfold m_first_of c_first_of
    simp_arith [nb]
  | some x =>
    have e1 : opR (some x) = PR x := rfl
    cases b with
    | none =>
      have e2 : fst (some x) none = some x := rfl
      have e3 : opR none = .non := rfl
      rw [e1, e2, e3, e1]
      unfold m_first_of c_first_of
      simp_arith [PRnon]
    | some y =>
      have e2 : fst (some x) (some y) = some (if y < x then y else x) := rfl
      have e3 : opR (some y) = PR y := rfl
      have sx : Sz L20 1000 := ⟨by decide, Nat.lt_of_lt_of_le (show L20 < 2 ^ 100 by decide) (p2 (by decide)), small 1000⟩
      have z := m_ls (ha x rfl) (hb y rfl) sx sx
      rw [e1, e2, e3]
      show _ = Rs.ok (PR (if y < x then y else x))
      have em : rmin x y = if y < x then y else x := by unfold rmin; split <;> split <;> grind
      rw [em] at z
      unfold m_first_of c_first_of
      simp_arith [PRnon, z]
theorem grW_vk {its : List It} {q : Rat} {i : It} (ok : Oks its) (hl : its.length ≤ 12) (hi : i.Ok) (wp : 0 < tW its q) : Vk L240 20 (grW its q i) ∧ 0 ≤ grW its q i := by
  have w1 := (tW_nn (q := q) ok).2
  have c := chW_nn hi (q := q)
  unfold grW
  generalize tW its q = w at *
  obtain ⟨n, rfl⟩ := Int.eq_ofNat_of_zero_le (Int.le_of_lt wp)
  refine ⟨?_, ?_⟩
  · have z := (Vk.int (M := 1) (B := 20) (k := i.chW q) (by omega)).divI (w := n) (by omega)
    exact z.up (by rw [Nat.one_mul]; exact dv240 n (by omega) (by omega)) (Nat.le_refl _)
  · rw [Rat.div_def]
    exact Rat.mul_nonneg (ic_0 c.1) (Rat.le_of_lt (Rat.inv_pos.mpr (ic_p wp)))
theorem m_lf {W g R : Rat} {C : Nat} (hW : Vk Q61 C W) (hC : C < 2 ^ 100) (hg : Vk L240 20 g) (hR : Vk L20 B61 R) : m_line_from [PR W, PR g, PR R] = .ok (Ln.d ⟨W - g * R, g⟩) := by
  have p1 := m_pr hg hR ⟨by decide, Nat.lt_of_lt_of_le (show L240 < 2 ^ 400 by decide +kernel) (p2 (by decide)), small 20⟩ ⟨by decide, Nat.lt_of_lt_of_le (show L20 < 2 ^ 100 by decide) (p2 (by decide)), small B61 (by decide +kernel)⟩
  have vm := hg.mul hR
  have vm' : Vk Q61 (20 * B61) (g * R) := vm.up (by rw [Nat.mul_comm]; exact Nat.dvd_refl _) (Nat.le_refl _)
  have le := m_le hW vm' (szQ (Nat.lt_of_lt_of_le hC (p2 (by decide)))) (szQ (by decide +kernel))
  unfold m_line_from c_line_from Ln.d
  simp_arith [p1, le]
theorem zip_map {α : Type} (f g : α → D) : ∀ l : List α, zipD (l.map f) (l.map g) = l.map fun a => .tup [f a, g a]
  | [] => rfl
  | a :: l => by
    show _ :: zipD _ _ = _
    rw [zip_map f g l]
    rfl
theorem e_zip {a b : List D} : dZip [.lst a, .lst b] = .ok (zipD a b) := rfl
def chD (q : Rat) (i : It) : D := .tup [.int (i.chW q), opR (i.chE q)]
theorem m_sat {its : List It} {R : Rat} (ok : Oks its) (hl : its.length ≤ 12) (hR : Vk L20 B61 R) : ∃ q, Share its R q ∧ Vk Q61 (B61 + 13000) q ∧ m_share_at [.lst (its.map It.d), PR R] = .ok (.tup [.lst ((stpL its q R).map Ln.d), opR (stpE its q R)]) := by
  obtain ⟨q, h1, s, vq⟩ := m_so ok hl big61 hR
  have vq : Vk Q61 (B61 + 13000) q := vq
  refine ⟨q, s, vq, ?_⟩
  have hlc : lcGo (tName 11) cTrue c_share_at_e1 [.pu (.lst (its.map It.d)), .pu (PR R), .pu (PR q), .un, .un, .un, .un, .un, .un, .un, .un, .un] (its.map It.d) [] = .ok (its.map fun i => PR (i.wd q)) := by
    refine lc_mapA (fun i hi => ⟨_, rfl, ?_⟩) (by omega)
    have z := m_wa (ok i hi) vq Q61_p Q4000 (Nat.lt_of_lt_of_le (show B61 + 13000 < 2 ^ 100 by decide) (p2 (by decide)))
    show c_share_at_e1 [.pu (.lst (its.map It.d)), .pu (PR R), .pu (PR q), .un, .un, .un, .un, .un, .un, .un, .un, .pu i.d] = _
    unfold c_share_at_e1
    generalize its.map It.d = X
    simp_arith [z]
  have vw : ∀ i ∈ its, Vk Q61 30000000 (i.wd q) := fun i hi => (vk_wd (ok i hi) vq).up (Nat.dvd_refl _) (by decide +kernel)
  have vw' : ∀ w ∈ its.map (fun i => i.wd q), Vk Q61 30000000 w := fun w hw => by
    obtain ⟨i, hi, rfl⟩ := List.mem_map.mp hw
    exact vw i hi
  have hto := m_to vw' Q61_p Q4000 (Nat.lt_of_lt_of_le (show 30000000 < 2 ^ 100 by decide) (p2 (by decide))) (by rw [List.length_map]; omega)
  have ht : rsum (its.map fun i => i.wd q) = total its q := rfl
  have ew : (its.map fun i => i.wd q).map PR = its.map fun i => PR (i.wd q) := by rw [List.map_map]; rfl
  rw [ew, ht] at hto
  have vt := (vk_total ok hl vq).up (N := Q61) (C := 400000000) (Nat.dvd_refl _) (by decide +kernel)
  have vR := hR.up (N := Q61) (C := B61) Q61L (Nat.le_refl _)
  have mo := m_mo vt vR (szQ (by decide +kernel)) (szQ (by decide +kernel))
  have it0 : ∀ l : List D, dItems (.lst l) = .ok l := fun _ => rfl
  have hc2 : ∀ s5 s6 s7 s8 s9 : Sl, lcGo (tName 10) cTrue c_share_at_e2 [.pu (.lst (its.map It.d)), .pu (PR R), .pu (PR q), .pu (.lst (its.map fun i => PR (i.wd q))), .pu (PR (total its q)), s5, s6, s7, s8, s9, .un, .un] (its.map fun i => PR (i.wd q)) [] = .ok ((lnC its q).map Ln.d) := fun s5 s6 s7 s8 s9 => by
    unfold lnC
    rw [List.map_map]
    refine lc_mapA (fun i hi => ⟨_, rfl, ?_⟩) (by omega)
    show c_share_at_e2 [.pu (.lst (its.map It.d)), .pu (PR R), .pu (PR q), .pu (.lst (its.map fun i => PR (i.wd q))), .pu (PR (total its q)), s5, s6, s7, s8, s9, .pu (PR (i.wd q)), .un] = .ok (.tup [PR (i.wd q), PR 0])
    unfold c_share_at_e2
    generalize its.map It.d = X
    generalize (its.map fun i => PR (i.wd q)) = Y
    simp_arith [PR0]
  unfold stpL stpE
  by_cases c : R < total its q
  · rw [if_pos c, if_pos c]
    rw [decide_eq_true c] at mo
    have eo : opR (some (total its q)) = PR (total its q) := rfl
    rw [eo]
    unfold m_share_at c_share_at
    generalize its.map It.d = X at *
    generalize (its.map fun i => PR (i.wd q)) = Y at *
    simp_arith [h1, it0, hlc, hto, mo, hc2]
  · rw [if_neg c, if_neg c]
    rw [decide_eq_false c] at mo
    have hc3 : lcGo (tName 11) cTrue c_share_at_e3 [.pu (.lst (its.map It.d)), .pu (PR R), .pu (PR q), .pu (.lst (its.map fun i => PR (i.wd q))), .pu (PR (total its q)), .un, .un, .un, .un, .un, .un, .un] (its.map It.d) [] = .ok (its.map (chD q)) := by
      refine lc_mapA (fun i hi => ⟨_, rfl, ?_⟩) (by omega)
      have z := m_cf (ok i hi) (vq.up (C := 2000000) (Nat.dvd_refl _) (by decide +kernel))
      show c_share_at_e3 [.pu (.lst (its.map It.d)), .pu (PR R), .pu (PR q), .pu (.lst (its.map fun i => PR (i.wd q))), .pu (PR (total its q)), .un, .un, .un, .un, .un, .un, .pu i.d] = .ok (.tup [.int (i.chW q), opR (i.chE q)])
      unfold c_share_at_e3
      generalize its.map It.d = X
      generalize (its.map fun i => PR (i.wd q)) = Y
      simp_arith [z]
    have hc4 : lcGo (tName 8) cTrue (cIxV 8 (cC (.int 0))) [.pu (.lst (its.map It.d)), .pu (PR R), .pu (PR q), .pu (.lst (its.map fun i => PR (i.wd q))), .pu (PR (total its q)), .pu (.lst (its.map (chD q))), .un, .un, .un, .un, .un, .un] (its.map (chD q)) [] = .ok (its.map fun i => .int (i.chW q)) := by
      refine lc_mapA (fun i hi => ⟨_, rfl, ?_⟩) (by omega)
      show cIxV 8 (cC (.int 0)) [.pu (.lst (its.map It.d)), .pu (PR R), .pu (PR q), .pu (.lst (its.map fun i => PR (i.wd q))), .pu (PR (total its q)), .pu (.lst (its.map (chD q))), .un, .un, .pu (.tup [.int (i.chW q), opR (i.chE q)]), .un, .un, .un] = _
      generalize its.map It.d = X
      generalize (its.map fun i => PR (i.wd q)) = Y
      generalize its.map (chD q) = Z
      simp_arith [it0]
    have su := sum_mapF (fun i : It => i.chW q) its
    have sw : (its.map fun i => i.chW q).sum = tW its q := rfl
    rw [sw] at su
    have hge : (0 ≤ q.num) = (0 ≤ q) := propext num_ge
    by_cases f : tW its q = 0 ∧ 0 ≤ q
    · rw [if_pos f, if_pos f]
      have f2 := f.2
      have eo : opR none = .non := rfl
      rw [eo]
      have f1 := f.1
      unfold m_share_at c_share_at
      generalize its.map It.d = X at *
      generalize (its.map fun i => PR (i.wd q)) = Y at *
      generalize its.map (chD q) = Z at *
      generalize (its.map fun i => D.int (i.chW q)) = Z2 at *
      simp_arith [h1, it0, hlc, hto, mo, hc2, hc3, hc4, su, f1, e_ixP0, hge, f2]
    · rw [if_neg f, if_neg f]
      have wp := tW_pos ok s c f
      have w1 := (tW_nn (q := q) ok).2
      obtain ⟨δ1, lp1, s8, rfl⟩ := go_pre (t := tName 8) (s := c_share_at_b1) (l := its) (f := chD q) (δ := [.pu (.lst (its.map It.d)), .pu (PR R), .pu (PR q), .pu (.lst (its.map fun i => PR (i.wd q))), .pu (PR (total its q)), .pu (.lst (its.map (chD q))), .pu (.int (tW its q)), .pu .non, .un, .un, .un, .un])
        (fun pre δ => ∃ s8, δ = [.pu (.lst (its.map It.d)), .pu (PR R), .pu (PR q), .pu (.lst (its.map fun i => PR (i.wd q))), .pu (PR (total its q)), .pu (.lst (its.map (chD q))), .pu (.int (tW its q)), .pu (opR ((pre.map fun i => i.chE q).foldl fst none)), s8, .un, .un, .un]) ⟨.un, rfl⟩ (by
          rintro pre i post δ e ⟨s8, rfl⟩
          have hi : i ∈ its := by rw [e]; simp
          have va : ∀ x, (pre.map fun i => i.chE q).foldl fst none = some x → Vk L20 1000 x := fun x hx => by
            obtain ⟨m, -, -⟩ := (foldl_fst _ none).1 x hx
            rcases m with m | m
            · cases m
            · obtain ⟨j, hj, ej⟩ := List.mem_map.mp m
              exact chE_vk (ok j (by rw [e]; exact List.mem_append_left _ hj)) ej
          have z := m_fo (b := i.chE q) va fun x hx => chE_vk (ok i hi) hx
          refine ⟨_, rfl, [.pu (.lst (its.map It.d)), .pu (PR R), .pu (PR q), .pu (.lst (its.map fun i => PR (i.wd q))), .pu (PR (total its q)), .pu (.lst (its.map (chD q))), .pu (.int (tW its q)), .pu (opR (fst ((pre.map fun i => i.chE q).foldl fst none) (i.chE q))), .pu (chD q i), .un, .un, .un], .inl ?_, .pu (chD q i), by rw [List.map_append, List.foldl_append]; rfl⟩
          show c_share_at_b1 [.pu (.lst (its.map It.d)), .pu (PR R), .pu (PR q), .pu (.lst (its.map fun i => PR (i.wd q))), .pu (PR (total its q)), .pu (.lst (its.map (chD q))), .pu (.int (tW its q)), .pu (opR ((pre.map fun i => i.chE q).foldl fst none)), .pu (chD q i), .un, .un, .un] = _
          have i1 : dIx (chD q i) (.int 1) = .ok (opR (i.chE q)) := rfl
          unfold c_share_at_b1
          generalize its.map It.d = X at *
          generalize (its.map fun i => PR (i.wd q)) = Y at *
          generalize its.map (chD q) = Z at *
          generalize opR ((pre.map fun i => i.chE q).foldl fst none) = A at *
          generalize chD q i = cd at *
          simp_arith [i1, z])
      have eT : (its.map fun i => i.chE q).foldl fst none = tE its q := rfl
      rw [eT] at lp1
      have W0 := ic_p wp
      obtain ⟨δ2, lp2, t8, t10, rfl⟩ := go_pre (t := tTupT 2 (tCons' (tName 10) (tCons' (tName 8) tNil'))) (s := c_share_at_b2) (l := its) (f := fun i => .tup [PR (i.wd q), chD q i]) (δ := [.pu (.lst (its.map It.d)), .pu (PR R), .pu (PR q), .pu (.lst (its.map fun i => PR (i.wd q))), .pu (PR (total its q)), .pu (.lst (its.map (chD q))), .pu (.int (tW its q)), .pu (opR (tE its q)), s8, .ow [], .un, .un])
        (fun pre δ => ∃ s8 s10, δ = [.pu (.lst (its.map It.d)), .pu (PR R), .pu (PR q), .pu (.lst (its.map fun i => PR (i.wd q))), .pu (PR (total its q)), .pu (.lst (its.map (chD q))), .pu (.int (tW its q)), .pu (opR (tE its q)), s8, .ow (pre.map fun i => Ln.d ⟨i.wd q - grW its q i * R, grW its q i⟩), s10, .un]) ⟨s8, .un, rfl⟩ (by
          rintro pre i post δ e ⟨s8, s10, rfl⟩
          have hi : i ∈ its := by rw [e]; simp
          have hpl : pre.length < 12 := by
            have : pre.length + 1 ≤ its.length := by rw [e]; simp
            omega
          have gv := (grW_vk (i := i) ok hl (ok i hi) wp).1
          have po := m_po (t := i.chW q) (n := 20) wp (bd_of (by omega) (by omega)) (by decide)
          have lf := m_lf (vw i hi) (by decide) gv hR
          have eg : ((i.chW q : Int) : Rat) / ((tW its q : Int) : Rat) = grW its q i := rfl
          rw [eg] at po
          have i0 : dIx (chD q i) (.int 0) = .ok (.int (i.chW q)) := rfl
          have sl : (pre.map fun i => Ln.d ⟨i.wd q - grW its q i * R, grW its q i⟩).length < sizeLine := szl (by rw [List.length_map]; omega)
          refine ⟨[.pu (.lst (its.map It.d)), .pu (PR R), .pu (PR q), .pu (.lst (its.map fun i => PR (i.wd q))), .pu (PR (total its q)), .pu (.lst (its.map (chD q))), .pu (.int (tW its q)), .pu (opR (tE its q)), .pu (chD q i), .ow (pre.map fun i => Ln.d ⟨i.wd q - grW its q i * R, grW its q i⟩), .pu (PR (i.wd q)), .un], rfl, _, .inl ?_, .pu (chD q i), .pu (PR (i.wd q)), rfl⟩
          rw [List.map_append]
          unfold c_share_at_b2
          generalize its.map It.d = X at *
          generalize (its.map fun i => PR (i.wd q)) = Y at *
          generalize its.map (chD q) = Z at *
          generalize (pre.map fun i => Ln.d ⟨i.wd q - grW its q i * R, grW its q i⟩) = A at *
          generalize chD q i = cd at *
          simp_arith [i0, wp, po, e_rsVP, lf, sl])
      have zm := zip_map (fun i : It => PR (i.wd q)) (chD q) its
      have eL : (lnG its q R).map Ln.d = its.map fun i => Ln.d ⟨i.wd q - grW its q i * R, grW its q i⟩ := by
        unfold lnG
        rw [List.map_map]
        rfl
      rw [eL]
      have w0 : ¬ tW its q = 0 := by omega
      have p1 := m_p1 (t := tW its q)
      cases te : tE its q with
      | none =>
        rw [te] at lp1 lp2
        have eo : opR none = .non := rfl
        have e2 : opR (Option.map (fun e => R + (e - q) * ((tW its q : Int) : Rat)) none) = .non := rfl
        rw [e2]
        rw [eo] at lp1 lp2
        unfold m_share_at c_share_at
        generalize (its.map fun i : It => D.tup [PR (i.wd q), chD q i]) = Z3 at *
        generalize its.map It.d = X at *
        generalize (its.map fun i => PR (i.wd q)) = Y at *
        generalize its.map (chD q) = Z at *
        generalize (its.map fun i => D.int (i.chW q)) = Z2 at *
        generalize (its.map fun i => Ln.d ⟨i.wd q - grW its q i * R, grW its q i⟩) = Z4 at *
        generalize tW its q = tw at *
        simp_arith [h1, it0, hlc, hto, mo, hc2, hc3, hc4, su, w0, lp1, e_zip, zm, lp2]
      | some e =>
        rw [te] at lp1 lp2
        have ve : Vk L20 1000 e := by
          obtain ⟨i, hi, he⟩ := (tE_some te).1
          exact chE_vk (ok i hi) he
        have ve' := ve.up (N := Q61) (C := 1000) Q61L (Nat.le_refl _)
        have d1 := m_le ve' vq (szQ (by decide +kernel)) (szQ (by decide +kernel))
        have vd := ve'.sub vq
        have d2 := m_pr vd (Vk.int (M := 1) (B := 1000) (k := tW its q) (by omega)) (szQ (by decide +kernel)) ⟨by decide, by decide +kernel, small 1000⟩
        have vd2 := vd.mulI (k := tW its q) (C := 240) (by omega)
        have d3 := m_ad vR vd2 (szQ (by decide +kernel)) (szQ (by decide +kernel))
        have eo : opR (some e) = PR e := rfl
        have e2 : opR (Option.map (fun e => R + (e - q) * ((tW its q : Int) : Rat)) (some e)) = PR (R + (e - q) * ((tW its q : Int) : Rat)) := rfl
        rw [e2]
        rw [eo] at lp1 lp2
        unfold m_share_at c_share_at
        generalize (its.map fun i : It => D.tup [PR (i.wd q), chD q i]) = Z3 at *
        generalize its.map It.d = X at *
        generalize (its.map fun i => PR (i.wd q)) = Y at *
        generalize its.map (chD q) = Z at *
        generalize (its.map fun i => D.int (i.chW q)) = Z2 at *
        generalize (its.map fun i => Ln.d ⟨i.wd q - grW its q i * R, grW its q i⟩) = Z4 at *
        generalize tW its q = tw at *
        simp_arith [h1, it0, hlc, hto, mo, hc2, hc3, hc4, su, w0, lp1, e_zip, zm, lp2, PRnon, d1, p1, e_rsVP, d2, d3]
/-! ### the walk of share_pieces -/
theorem good_Ln {l : Ln} {n : Nat} : (l.d).good (n + 2) = true := by
  show ([PR l.a, PR l.g] : List D).all (D.good (n + 1)) = true
  simp only [List.all_cons, List.all_nil, good_PR, Bool.and_true]
theorem goodLs {ls : List Ln} {n : Nat} : (D.lst (ls.map Ln.d)).good (n + 3) = true := good_all' (n := n + 2) fun d hd => by
  obtain ⟨w, _, rfl⟩ := List.mem_map.mp hd
  exact good_Ln
theorem good_Pce {p : Pce} {n : Nat} : (p.d).good (n + 4) = true := by
  show ([PR p.r, .lst (p.ls.map Ln.d)] : List D).all (D.good (n + 3)) = true
  simp only [List.all_cons, List.all_nil, good_PR, goodLs, Bool.and_true]
theorem goodPs {ps : List Pce} {n : Nat} : (D.lst (ps.map Pce.d)).good (n + 5) = true := good_all' (n := n + 4) fun d hd => by
  obtain ⟨w, _, rfl⟩ := List.mem_map.mp hd
  exact good_Pce
theorem eqvPR61 {a b : Rat} : PyData.eqv (PR a).toPy (PR b).toPy = decide (a = b) := by
  have h := @PReq a b
  rw [e_eqG (.inl rfl) good_PR good_PR] at h
  injection h with h
  injection h
theorem eqvLn {a b : Ln} : PyData.eqv a.d.toPy b.d.toPy = decide (a = b) := by
  have e : PyData.eqv a.d.toPy b.d.toPy = (PyData.eqv (PR a.a).toPy (PR b.a).toPy && (PyData.eqv (PR a.g).toPy (PR b.g).toPy && true)) := by
    unfold Ln.d
    simp only [D.toPy, D.toPys, PyData.eqv, PyData.eqvAll]
  rw [e, eqvPR61, eqvPR61]
  obtain ⟨x, y⟩ := a
  obtain ⟨z, w⟩ := b
  by_cases c1 : x = z <;> by_cases c2 : y = w <;> simp [c1, c2]
theorem eqLs {a b : List Ln} : PyData.eqv (D.lst (a.map Ln.d)).toPy (D.lst (b.map Ln.d)).toPy = decide (a = b) := by
  have e : PyData.eqv (D.lst (a.map Ln.d)).toPy (D.lst (b.map Ln.d)).toPy = PyData.eqvAll (D.toPys (a.map Ln.d)) (D.toPys (b.map Ln.d)) := by
    simp only [D.toPy, PyData.eqv]
  rw [e, eqL_map _ _ fun x _ y _ => eqvLn]
theorem neLs {a b : List Ln} : dNe (.lst (a.map Ln.d)) (.lst (b.map Ln.d)) = .ok (.bl (!decide (a = b))) := by
  rw [e_neG (.inl rfl) goodLs goodLs, eqLs]
theorem eqLs' {a b : List Ln} : dEq (.lst (a.map Ln.d)) (.lst (b.map Ln.d)) = .ok (.bl (decide (a = b))) := by
  rw [e_eqG (.inl rfl) goodLs goodLs, eqLs]
theorem eqPs_nil {ps : List Pce} (h : ps ≠ []) : dEq (.lst (ps.map Pce.d)) (.lst []) = .ok (.bl false) := by
  rw [e_eqG (.inl rfl) goodPs rfl]
  cases ps with
  | nil => exact absurd rfl h
  | cons p ps => simp [D.toPy, D.toPys, PyData.eqv, PyData.eqvAll]
theorem atD_last {ds : List D} {d : D} : atD (ds ++ [d]) (-1) = .ok d := by
  have e : ixN (ds ++ [d]).length (-1) = some ds.length := by
    unfold ixN
    rw [List.length_append, List.length_singleton]
    simp
    omega
  unfold atD
  rw [e]
  simp
theorem Es_vk {its : List It} (ok : Oks its) {x : Rat} (h : x ∈ Es its) : Vk L20 1000 x := by
  rcases List.mem_cons.mp h with rfl | h
  · exact Vk.int (k := 0) (by decide)
  · obtain ⟨i, hi, h⟩ := List.mem_flatMap.mp h
    rcases List.mem_append.mp h with h | h
    · exact (vk_b (ok i hi) (Option.mem_toList.mp h)).1
    · obtain ⟨b, hb, rfl⟩ := List.mem_map.mp h
      exact (vk_b (ok i hi) (Option.mem_toList.mp hb)).1.neg
/-- a piece as it should be -/
structure GoodP (its : List It) (p : Pce) : Prop where
  r : Vk L20 B61 p.r
  r0 : 0 ≤ p.r
  len : p.ls.length = its.length
  ls : ∀ l ∈ p.ls, Vk Q61 60000000 l.a ∧ Vk L240 20 l.g ∧ 0 ≤ l.g
  sum : rsum (p.ls.map Ln.g) = 0 ∨ rsum (p.ls.map Ln.g) = 1
theorem rsum_0 {α : Type} (l : List α) : rsum (l.map fun _ => (0 : Rat)) = 0 := by
  induction l with
  | nil => rfl
  | cons a l ih =>
    show (0 : Rat) + rsum (l.map fun _ => (0 : Rat)) = 0
    rw [ih]
    grind
theorem rsum_div {α : Type} (f : α → Int) (W : Rat) : ∀ l : List α, rsum (l.map fun a => (f a : Rat) / W) = (((l.map f).sum : Int) : Rat) / W
  | [] => by
    show (0 : Rat) = ((0 : Int) : Rat) / W
    have : ((0 : Int) : Rat) = 0 := rfl
    rw [this, Rat.div_def, Rat.zero_mul]
  | a :: l => by
    show (f a : Rat) / W + rsum (l.map fun a => (f a : Rat) / W) = _
    rw [rsum_div f W l, List.map_cons, List.sum_cons, Rat.intCast_add, Rat.div_def, Rat.div_def, Rat.div_def]
    grind
theorem stp_good {its : List It} {R q : Rat} (ok : Oks its) (hl : its.length ≤ 12) (hR : Vk L20 B61 R) (R0 : 0 ≤ R) (h : Share its R q) (vq : Vk Q61 (B61 + 13000) q) : GoodP its ⟨R, stpL its q R⟩ := by
  have vw : ∀ i ∈ its, Vk Q61 30000000 (i.wd q) := fun i hi => (vk_wd (ok i hi) vq).up (Nat.dvd_refl _) (by decide +kernel)
  have gc : GoodP its ⟨R, lnC its q⟩ := by
    refine ⟨hR, R0, by unfold lnC; exact List.length_map .., fun l hl => ?_, .inl ?_⟩
    · obtain ⟨i, hi, rfl⟩ := List.mem_map.mp hl
      exact ⟨(vw i hi).up (Nat.dvd_refl _) (by decide), Vk.int (k := 0) (by decide), Rat.le_refl⟩
    · unfold lnC
      rw [List.map_map]
      exact rsum_0 its
  unfold stpL
  split
  · exact gc
  · rename_i c
    split
    · exact gc
    · rename_i f
      have wp := tW_pos ok h c f
      refine ⟨hR, R0, by unfold lnG; exact List.length_map .., fun l hl' => ?_, .inr ?_⟩
      · obtain ⟨i, hi, rfl⟩ := List.mem_map.mp hl'
        obtain ⟨g1, g2⟩ := grW_vk (i := i) ok hl (ok i hi) wp
        have vm : Vk Q61 (20 * B61) (grW its q i * R) := (g1.mul hR).up (by rw [Nat.mul_comm]; exact Nat.dvd_refl _) (Nat.le_refl _)
        exact ⟨((vw i hi).sub vm).up (Nat.dvd_refl _) (by decide +kernel), g1, g2⟩
      · unfold lnG
        rw [List.map_map]
        have e := rsum_div (fun i : It => i.chW q) ((tW its q : Int) : Rat) its
        have e2 : (its.map (Ln.g ∘ fun i => (⟨i.wd q - grW its q i * R, grW its q i⟩ : Ln))) = its.map fun i => ((i.chW q : Int) : Rat) / ((tW its q : Int) : Rat) := rfl
        rw [e2, e]
        have e3 : ((its.map fun i => i.chW q).sum) = tW its q := rfl
        rw [e3]
        have W0 := ic_p wp
        have dm := div_mul (a := ((tW its q : Int) : Rat)) W0
        generalize ((tW its q : Int) : Rat) = w at *
        have : w * (w / w) = w * 1 := by grind
        grind
theorem stpE_vk {its : List It} {R q E : Rat} (ok : Oks its) (hl : its.length ≤ 12) (h : Share its R q) (e : stpE its q R = some E) : Vk L20 B61 E := by
  rcases stpE_at ok h e with ⟨x, hx, rfl⟩ | ⟨k, rfl, k0, k1⟩
  · exact (vk_total ok hl (Es_vk ok hx)).up (Nat.dvd_refl _) (by decide +kernel)
  · refine Vk.int ?_
    have : B61 = 1000000 := rfl
    omega
def addP (ps : List Pce) (p : Pce) : List Pce := match ps.getLast? with
  | none => [p]
  | some l => if l.ls = p.ls then ps else ps ++ [p]
theorem addP_len {ps : List Pce} {p : Pce} : (addP ps p).length ≤ ps.length + 1 := by
  unfold addP
  split
  · simp
  · split
    · omega
    · simp
theorem addP_good {its : List It} {ps : List Pce} {p : Pce} (h : ∀ x ∈ ps, GoodP its x) (hp : GoodP its p) : ∀ x ∈ addP ps p, GoodP its x := by
  unfold addP
  intro x hx
  split at hx
  · rw [List.mem_singleton.mp hx]; exact hp
  · split at hx
    · exact h x hx
    · rcases List.mem_append.mp hx with hx | hx
      · exact h x hx
      · rw [List.mem_singleton.mp hx]; exact hp
theorem addP_hd {ps : List Pce} {p : Pce} : (addP ps p).head? = some (match ps.head? with | none => p | some a => a) := by
  unfold addP
  split
  · rename_i h
    rw [List.getLast?_eq_none_iff.mp h]
    rfl
  · rename_i l h
    cases ps with
    | nil => cases h
    | cons a ps => split <;> rfl
theorem pcs_step {its : List It} {R : Rat} {ps : List Pce} {s3 s4 : Sl} {q : Rat} (hs : m_share_at [.lst (its.map It.d), PR R] = .ok (.tup [.lst ((stpL its q R).map Ln.d), opR (stpE its q R)])) (hl : ps.length < 1000) :
    c_share_pieces_b1 [.pu (.lst (its.map It.d)), .ow (ps.map Pce.d), .pu (PR R), s3, s4] = .nx [.pu (.lst (its.map It.d)), .ow ((addP ps ⟨R, stpL its q R⟩).map Pce.d), .pu (opR (stpE its q R)), .pu (.lst ((stpL its q R).map Ln.d)), .pu (opR (stpE its q R))] := by
  have sl : (ps.map Pce.d).length < sizeLine := szl (by rw [List.length_map]; omega)
  have ed : Pce.d ⟨R, stpL its q R⟩ = .tup [PR R, .lst ((stpL its q R).map Ln.d)] := rfl
  unfold addP
  cases hp : ps.getLast? with
  | none =>
    rw [List.getLast?_eq_none_iff.mp hp]
    have e0 : dEq (.lst []) (.lst []) = .ok (.bl true) := rfl
    have sl0 : ([] : List D).length < sizeLine := szl (by decide)
    show _ = Fl.nx [_, .ow [Pce.d ⟨R, stpL its q R⟩], _, _, _]
    rw [ed]
    unfold c_share_pieces_b1
    generalize its.map It.d = X at *
    generalize (stpL its q R).map Ln.d = Y at *
    generalize opR (stpE its q R) = Z at *
    simp_arith [hs, e0, sl0]
  | some l =>
    obtain ⟨pre, rfl⟩ : ∃ pre, ps = pre ++ [l] := by
      obtain ⟨ys, h⟩ := List.getLast?_eq_some_iff.mp hp
      exact ⟨ys, h⟩
    have e0 := eqPs_nil (ps := pre ++ [l]) (by simp)
    have ea : dIx (.lst ((pre ++ [l]).map Pce.d)) (.int (-1)) = .ok l.d := by
      rw [e_ixL, List.map_append]
      exact atD_last
    have ea' : atD ((pre ++ [l]).map Pce.d) (-1) = .ok l.d := by
      rw [List.map_append]
      exact atD_last
    have e1 : dIx l.d (.int 1) = .ok (.lst (l.ls.map Ln.d)) := rfl
    have ne := neLs (a := l.ls) (b := stpL its q R)
    show _ = Fl.nx [_, .ow ((if l.ls = stpL its q R then pre ++ [l] else (pre ++ [l]) ++ [⟨R, stpL its q R⟩]).map Pce.d), _, _, _]
    by_cases c : l.ls = stpL its q R
    · rw [if_pos c]
      rw [decide_eq_true c] at ne
      unfold c_share_pieces_b1
      generalize its.map It.d = X at *
      generalize (stpL its q R).map Ln.d = Y at *
      generalize opR (stpE its q R) = Z at *
      generalize (pre ++ [l]).map Pce.d = P at *
      generalize l.ls.map Ln.d = Q at *
      generalize l.d = ld at *
      simp_arith [hs, e0, ea, ea', e1, ne]
    · rw [if_neg c]
      rw [decide_eq_false c] at ne
      have em : ((pre ++ [l]) ++ [(⟨R, stpL its q R⟩ : Pce)]).map Pce.d = (pre ++ [l]).map Pce.d ++ [.tup [PR R, .lst ((stpL its q R).map Ln.d)]] := by rw [List.map_append, List.map_singleton, ed]
      rw [em]
      unfold c_share_pieces_b1
      generalize its.map It.d = X at *
      generalize (stpL its q R).map Ln.d = Y at *
      generalize opR (stpE its q R) = Z at *
      generalize (pre ++ [l]).map Pce.d = P at *
      generalize l.ls.map Ln.d = Q at *
      generalize l.d = ld at *
      simp_arith [hs, e0, ea, ea', e1, ne, sl]
theorem addP_chn {its : List It} {R : Rat} {ls : List Ln} {hi : Option Rat} {ps : List Pce} (v : Val its ls R hi) (gt : ∀ h, hi = some h → R < h) (h : ps = [] ∨ Chn its ps (some R)) : Chn its (addP ps ⟨R, ls⟩) hi := by
  unfold addP
  cases hp : ps.getLast? with
  | none => exact ⟨v, gt⟩
  | some l =>
    obtain ⟨pre, rfl⟩ : ∃ pre, ps = pre ++ [l] := by
      obtain ⟨ys, h⟩ := List.getLast?_eq_some_iff.mp hp
      exact ⟨ys, h⟩
    rcases h with h | h
    · simp at h
    · obtain ⟨h1, h2⟩ := Chn.snoc v gt h
      show Chn its (if l.ls = ls then pre ++ [l] else pre ++ [l] ++ [⟨R, ls⟩]) hi
      split
      · rename_i c; exact h1 c
      · rename_i c; exact h2 c
theorem addP_ne {ps : List Pce} {p : Pce} : addP ps p ≠ [] := fun e => by
  have := addP_hd (ps := ps) (p := p)
  rw [e] at this
  cases this
theorem pcs_go {its : List It} (ok : Oks its) (hl : its.length ≤ 12) : ∀ (n : Nat) (R : Rat) (ps : List Pce) (s3 s4 : Sl), Vk L20 B61 R → 0 ≤ R → (∀ q, Share its R q → mes its q R < n) → (ps = [] ∨ Chn its ps (some R)) → (∀ x ∈ ps, GoodP its x) → ps.length + n < 900 →
    ∃ k ps' s3' s4', whN c_share_pieces_t1 c_share_pieces_b1 k [.pu (.lst (its.map It.d)), .ow (ps.map Pce.d), .pu (PR R), s3, s4] = .nx [.pu (.lst (its.map It.d)), .ow (ps'.map Pce.d), .pu .non, s3', s4'] ∧ Chn its ps' none ∧ (∀ x ∈ ps', GoodP its x) ∧ ps'.length ≤ ps.length + n ∧ ps'.head?.map Pce.r = some (match ps.head? with | none => R | some a => a.r)
  | 0, R, ps, s3, s4, hR, R0, hm, hc, hg, hn => by
    obtain ⟨q, s, _, _⟩ := m_sat ok hl hR
    have := hm q s
    omega
  | n + 1, R, ps, s3, s4, hR, R0, hm, hc, hg, hn => by
    obtain ⟨q, s, vq, hs⟩ := m_sat ok hl hR
    have st := pcs_step (ps := ps) (s3 := s3) (s4 := s4) hs (by omega)
    have t1 : ∀ (X : D) (P : List D) (s3 s4 : Sl), evT c_share_pieces_t1 [.pu X, .ow P, .pu (PR R), s3, s4] = .ok true := fun X P s3 s4 => by
      unfold c_share_pieces_t1
      simp_arith [PRnon]
    have chn := addP_chn (ps := ps) (stp_val ok s) (fun h e => stpE_gt ok s e) hc
    have gd := addP_good hg (stp_good ok hl hR R0 s vq)
    have ln := addP_len (ps := ps) (p := ⟨R, stpL its q R⟩)
    have hd := addP_hd (ps := ps) (p := ⟨R, stpL its q R⟩)
    have hd2 : (addP ps ⟨R, stpL its q R⟩).head?.map Pce.r = some (match ps.head? with | none => R | some a => a.r) := by
      rw [hd]
      cases ps <;> rfl
    generalize hP : addP ps ⟨R, stpL its q R⟩ = P at *
    cases hE : stpE its q R with
    | none =>
      rw [hE] at st chn
      have t0 : ∀ (X : D) (P : List D) (s3 s4 : Sl), evT c_share_pieces_t1 [.pu X, .ow P, .pu .non, s3, s4] = .ok false := fun X P s3 s4 => by
        unfold c_share_pieces_t1
        simp_arith [e_isNon0]
      refine ⟨2, P, .pu (.lst ((stpL its q R).map Ln.d)), .pu (opR none), ?_, chn, gd, by omega, hd2⟩
      unfold whN
      rw [t1]
      show fLoop (c_share_pieces_b1 _) _ = _
      rw [st]
      have fl : ∀ (δ : List Sl) (k : List Sl → Fl), fLoop (.nx δ) k = k δ := fun _ _ => rfl
      rw [fl]
      unfold whN
      have eo : opR none = .non := rfl
      rw [eo, t0]
    | some E =>
      rw [hE] at st chn
      have EV := stpE_vk ok hl s hE
      have E0 := stpE_gt ok s hE
      obtain ⟨k, ps', s3', s4', h1, h2, h3, h4, h5⟩ := pcs_go ok hl n E P (.pu (.lst ((stpL its q R).map Ln.d))) (.pu (opR (some E))) EV (by grind) (fun p hp => by
        have := mes_lt ok s hE hp
        have := hm q s
        omega) (.inr chn) gd (by omega)
      refine ⟨k + 1, ps', s3', s4', ?_, h2, h3, by omega, ?_⟩
      · unfold whN
        rw [t1]
        show fLoop (c_share_pieces_b1 _) _ = _
        rw [st]
        exact h1
      · rw [h5, ← hd2]
        cases P with
        | nil => exact absurd hP addP_ne
        | cons a P => rfl
theorem Es_len (its : List It) : (Es its).length ≤ 1 + 2 * its.length := by
  unfold Es
  induction its with
  | nil => simp
  | cons i its ih =>
    rw [List.flatMap_cons]
    simp only [List.length_cons, List.length_append, List.length_map] at ih ⊢
    have h1 : (i.bd true).toList.length ≤ 1 := by cases i.bd true <;> simp
    have h2 : (i.bd false).toList.length ≤ 1 := by cases i.bd false <;> simp
    omega
theorem mes_le {its : List It} {q R : Rat} (hl : its.length ≤ 12) : mes its q R < 60 := by
  have h1 := Es_len its
  have h2 : cnt its q ≤ (Es its).length := List.countP_le_length
  unfold mes
  split <;> omega
/-- all the pieces of a line -/
structure Pcs (its : List It) (ps : List Pce) : Prop where
  c : Chn its ps none
  g : ∀ x ∈ ps, GoodP its x
  n : ps.length ≤ 60
  h : ps.head?.map Pce.r = some 0
theorem m_spc {its : List It} (ok : Oks its) (hl : its.length ≤ 12) : ∃ ps, m_share_pieces [.lst (its.map It.d)] = .okl (ps.map Pce.d) ∧ Pcs its ps := by
  obtain ⟨k, ps', s3', s4', h1, h2, h3, h4, h5⟩ := pcs_go ok hl 60 0 [] .un .un (Vk.int (k := 0) (by decide)) Rat.le_refl (fun q _ => mes_le hl) (.inl rfl) (fun x hx => nomatch hx) (by simp)
  refine ⟨ps', ?_, h2, h3, by simpa using h4, h5⟩
  have e := cWh_of h1 (fun z => nomatch z)
  have ni := m_ni ok (by omega)
  have e0 : (([] : List Pce).map Pce.d) = [] := rfl
  rw [e0] at e
  unfold m_share_pieces c_share_pieces
  generalize its.map It.d = X at *
  generalize ps'.map Pce.d = P at *
  simp_arith [ni, PR0, e]
/-! ### the law's own helpers -/
theorem num_den {a : Rat} : ((a.num : Int) : Rat) / (((a.den : Nat) : Int) : Rat) = a := by
  obtain ⟨h1, h2⟩ := nd0 a
  rw [h1]
  have dm := div_mul (a := a * (((a.den : Nat) : Int) : Rat)) h2
  generalize (((a.den : Nat) : Int) : Rat) = d at *
  generalize a * d / d = r at *
  have : d * r = d * a := by grind
  have hd := Rat.mul_inv_cancel d (by grind)
  have e : d⁻¹ * (d * r) = d⁻¹ * (d * a) := by rw [this]
  grind
theorem eqvPR2 {a b : Rat} : PyData.eqv (PR a).toPy (PR b).toPy = decide (a = b) := eqvPR61
theorem in01 {T : Rat} (h : T = 0 ∨ T = 1) : dIn (PR T) (.lst [PR ((0 : Int) : Rat), PR ((1 : Int) : Rat)]) = .ok (.bl true) := by
  have g1 : (PR T).good 20 = true := good_PR
  have g2 : (D.lst [PR ((0 : Int) : Rat), PR ((1 : Int) : Rat)]).good 20 = true := by
    show ([PR ((0 : Int) : Rat), PR ((1 : Int) : Rat)] : List D).all (D.good 19) = true
    simp only [List.all_cons, List.all_nil, good_PR, Bool.and_true]
  have e : dInB (PR T) (.lst [PR ((0 : Int) : Rat), PR ((1 : Int) : Rat)]) = if (PR T).good 20 = true ∧ (D.lst [PR ((0 : Int) : Rat), PR ((1 : Int) : Rat)]).good 20 = true then .ok ((D.toPys [PR ((0 : Int) : Rat), PR ((1 : Int) : Rat)]).any fun z => PyData.eqv z (PR T).toPy) else .no := rfl
  unfold dIn
  rw [e, if_pos ⟨g1, g2⟩]
  have e2 : (D.toPys [PR ((0 : Int) : Rat), PR ((1 : Int) : Rat)]).any (fun z => PyData.eqv z (PR T).toPy) = (PyData.eqv (PR ((0 : Int) : Rat)).toPy (PR T).toPy || (PyData.eqv (PR ((1 : Int) : Rat)).toPy (PR T).toPy || false)) := by
    simp only [D.toPys, List.any_cons, List.any_nil]
  rw [e2, eqvPR2, eqvPR2]
  have z0 : ((0 : Int) : Rat) = 0 := rfl
  have z1 : ((1 : Int) : Rat) = 1 := rfl
  rw [z0, z1]
  rcases h with rfl | rfl
  · simp
    rfl
  · simp
    rfl
theorem sz240 {n : Nat} (h : n < 2 ^ 200) : Sz L240 n := ⟨by decide, Nat.lt_of_lt_of_le (show L240 < 2 ^ 400 by decide +kernel) (p2 (by decide)), Nat.lt_of_lt_of_le h (p2 (by decide))⟩
theorem m_lgr {ls : List Ln} (hl : ls.length ≤ 12) (h : ∀ l ∈ ls, Vk Q61 60000000 l.a ∧ Vk L240 20 l.g ∧ 0 ≤ l.g) (hs : rsum (ls.map Ln.g) = 0 ∨ rsum (ls.map Ln.g) = 1) : m_law_growths_right [.lst (ls.map Ln.d)] = .ok (.bl true) := by
  obtain ⟨δ', lp, s2, rfl⟩ := go_pre (t := tName 2) (s := c_law_growths_right_b1) (l := ls) (f := Ln.d) (δ := [.pu (.lst (ls.map Ln.d)), .pu (PR ((0 : Int) : Rat)), .un])
    (fun pre δ => ∃ s2, δ = [.pu (.lst (ls.map Ln.d)), .pu (PR (rsum (pre.map Ln.g))), s2]) ⟨.un, rfl⟩ (by
      rintro pre l post δ e ⟨s2, rfl⟩
      have hl' : l ∈ ls := by rw [e]; simp
      have hp : ∀ x ∈ pre.map Ln.g, Vk L240 20 x := fun x hx => by
        obtain ⟨y, hy, rfl⟩ := List.mem_map.mp hx
        exact (h y (by rw [e]; exact List.mem_append_left _ hy)).2.1
      have hpl : pre.length ≤ 12 := by
        have : pre.length ≤ ls.length := by rw [e]; simp
        omega
      obtain ⟨va, vg, g0⟩ := h l hl'
      have vs := (vk_rsum hp).up (N := L240) (C := 240) (Nat.dvd_refl _) (by rw [List.length_map]; omega)
      have su := m_las vs vg (sz240 (by decide)) (sz240 (by decide))
      have b1 := (va.bds (szQ (by decide +kernel))).2
      have lp := m_lp (t := l.a.num) (b := ((l.a.den : Nat) : Int)) (denp l.a) b1 (by decide)
      rw [num_den] at lp
      have ne := @PRne l.a l.a
      rw [decide_eq_true rfl] at ne
      have i0 : dIx l.d (.int 0) = .ok (PR l.a) := rfl
      have i1 : dIx l.d (.int 1) = .ok (PR l.g) := rfl
      have hlt : (l.g.num < 0) = False := eq_false (by have := num_ge.mpr g0; omega)
      refine ⟨_, rfl, [.pu (.lst (ls.map Ln.d)), .pu (PR (rsum (pre.map Ln.g) + l.g)), .pu l.d], .inl ?_, .pu l.d, by rw [List.map_append, List.map_singleton, rsum_app]⟩
      show c_law_growths_right_b1 [.pu (.lst (ls.map Ln.d)), .pu (PR (rsum (pre.map Ln.g))), .pu l.d] = _
      unfold c_law_growths_right_b1
      generalize ls.map Ln.d = X at *
      generalize rsum (pre.map Ln.g) = T at *
      generalize l.d = ld at *
      simp_arith [i0, i1, e_ixP0, e_ixP1, hlt, lp, ne, su])
  have i := in01 hs
  have it0 : ∀ l : List D, dItems (.lst l) = .ok l := fun _ => rfl
  unfold m_law_growths_right c_law_growths_right
  generalize ls.map Ln.d = X at *
  generalize rsum (ls.map Ln.g) = T at *
  simp_arith [PRi, it0, lp, i]
def N61 : Nat := 360 * L20
def C61 : Nat := 10000000
theorem szN {n : Nat} (h : n < 2 ^ 200) : Sz N61 n := ⟨by decide, Nat.lt_of_lt_of_le (show N61 < 2 ^ 100 by decide) (p2 (by decide)), Nat.lt_of_lt_of_le h (p2 (by decide))⟩
theorem big61N : Big N61 (C61 + 12000) := ⟨⟨360, by decide⟩, by decide, Nat.lt_of_lt_of_le (show N61 < 2 ^ 100 by decide) (p2 (by decide)), Nat.lt_of_lt_of_le (show C61 + 12000 < 2 ^ 100 by decide) (p2 (by decide)), by decide⟩
def T61 : Nat := Q61 * N61
theorem T61_500 : T61 < 2 ^ 500 := by decide +kernel
theorem szT {n : Nat} (h : n < 2 ^ 200) : Sz T61 n := ⟨by decide +kernel, Nat.lt_of_lt_of_le T61_500 (p2 (by decide)), Nat.lt_of_lt_of_le h (p2 (by decide))⟩
theorem ln_vk {l : Ln} {x : Rat} (va : Vk Q61 60000000 l.a) (vg : Vk L240 20 l.g) (hx : Vk N61 C61 x) : Vk T61 60000000 l.a ∧ Vk T61 (20 * C61) (l.g * x) := by
  refine ⟨va.up (Nat.dvd_mul_right ..) (Nat.le_refl _), (vg.mul hx).up ?_ (Nat.le_refl _)⟩
  exact Nat.mul_dvd_mul (Nat.dvd_mul_left ..) (Nat.dvd_refl _)
theorem m_lli61 {l : Ln} {x : Rat} (va : Vk Q61 60000000 l.a) (vg : Vk L240 20 l.g) (hx : Vk N61 C61 x) : m_law_line [l.d, PR x] = .ok (PR (l.at x)) := by
  obtain ⟨v1, v2⟩ := ln_vk va vg hx
  have t := m_lat vg hx (sz240 (by decide)) (szN (by decide +kernel))
  have s := m_las v1 v2 (szT (by decide +kernel)) (szT (by decide +kernel))
  have i0 : dIx l.d (.int 0) = .ok (PR l.a) := rfl
  have i1 : dIx l.d (.int 1) = .ok (PR l.g) := rfl
  unfold m_law_line c_law_line Ln.at
  generalize l.d = ld at *
  simp_arith [i0, i1, t, s]
theorem m_lat61 {l : Ln} {x : Rat} (va : Vk Q61 60000000 l.a) (vg : Vk L240 20 l.g) (hx : Vk N61 C61 x) : m_line_at [l.d, PR x] = .ok (PR (l.at x)) := by
  obtain ⟨v1, v2⟩ := ln_vk va vg hx
  have t := m_pr vg hx (sz240 (by decide)) (szN (by decide +kernel))
  have s := m_ad v1 v2 (szT (by decide +kernel)) (szT (by decide +kernel))
  have i0 : dIx l.d (.int 0) = .ok (PR l.a) := rfl
  have i1 : dIx l.d (.int 1) = .ok (PR l.g) := rfl
  unfold m_line_at c_line_at Ln.at
  generalize l.d = ld at *
  simp_arith [i0, i1, t, s]
/-! the rooms asked -/
def spD (s : Nat × Rat) : D := .tup [.int (s.1 : Nat), PR s.2]
def SpOk (lows : List Rat) (s : Nat × Rat) : Prop := Vk N61 C61 s.2 ∧ ∃ a, lows[s.1]? = some a ∧ a ≤ s.2 ∧ ∀ b, lows[s.1 + 1]? = some b → s.2 < b
theorem pr3 : (.tup [.int 359, .int 360] : D) = PR (359 / 360) := by
  have a : ((359 : Rat) / 360).num = 359 := by decide +kernel
  have b : ((359 : Rat) / 360).den = 360 := by decide +kernel
  unfold PR
  rw [a, b]
  rfl
theorem way_in {a w d : Rat} (w0 : 0 < w) (w1 : w < 1) (d0 : 0 < d) : a ≤ a + w * d ∧ a + w * d < a + d := by
  have h1 := Rat.mul_pos w0 d0
  have h2 := mul_lt w1 d0
  grind
theorem m_lsp {lows : List Rat} {cs : List Int} (hn : lows.length ≤ 60) (hv : ∀ a ∈ lows, Vk L20 B61 a) (hup : ∀ k a b, lows[k]? = some a → lows[k + 1]? = some b → a < b) (hc : cs.length = 3) (hc0 : ∀ c ∈ cs, 0 ≤ c) :
    ∃ sp : List (Nat × Rat), m_law_spots [.lst (lows.map PR), .lst (cs.map D.int)] = .ok (.lst (sp.map spD)) ∧ ∀ s ∈ sp, SpOk lows s := by
  have hr : dRng1 [.int (lows.length : Nat)] = .ok (rangeD 0 lows.length) := rng1n (by omega)
  have ll : (lows.map PR).length = lows.length := List.length_map ..
  have cl : (cs.map D.int).length = 3 := by rw [List.length_map, hc]
  obtain ⟨δ', lp, sp, s3, s4, s5, s6, s7, s8, rfl, hsp, _⟩ := go_inv0 (t := tName 3) (s := c_law_spots_b1) (ds := rangeD 0 lows.length) (δ := [.pu (.lst (lows.map PR)), .pu (.lst (cs.map D.int)), .pu (.lst []), .un, .un, .un, .un, .un, .un])
    (fun k δ => ∃ (sp : List (Nat × Rat)) (s3 s4 s5 s6 s7 s8 : Sl), δ = [.pu (.lst (lows.map PR)), .pu (.lst (cs.map D.int)), .pu (.lst (sp.map spD)), s3, s4, s5, s6, s7, s8] ∧ (∀ s ∈ sp, SpOk lows s) ∧ sp.length = 3 * k) ⟨[], .un, .un, .un, .un, .un, .un, rfl, (fun s hs => nomatch hs), rfl⟩ (by
      rintro k d δ hd ⟨sp, s3, s4, s5, s6, s7, s8, rfl, hsp, spl⟩
      rw [rangeD_get0] at hd
      split at hd
      · rename_i kl
        cases hd
        obtain ⟨a, ha⟩ : ∃ a, lows[k]? = some a := ⟨lows[k], List.getElem?_eq_getElem kl⟩
        have ata : atD (lows.map PR) (k : Int) = .ok (PR a) := at_get (by rw [List.getElem?_map, ha]; rfl)
        have va := hv a (List.mem_of_getElem? ha)
        have vaN : Vk N61 B61 a := va.up (Nat.dvd_mul_left ..) (Nat.le_refl _)
        have s97 := m_las vaN (Vk.int (M := N61) (B := 97) (k := 97) (by decide)) (szN (by decide +kernel)) (szN (by decide))
        obtain ⟨c, hcc⟩ : ∃ c, cs[k % 3]? = some c := ⟨cs[k % 3]'(by omega), List.getElem?_eq_getElem (by omega)⟩
        have c0 := hc0 c (List.mem_of_getElem? hcc)
        have atc : atD (cs.map D.int) ((k : Int) % 3) = .ok (.int c) := by
          have e : ((k : Int) % 3) = ((k % 3 : Nat) : Int) := by omega
          rw [e]
          exact at_get (by rw [List.getElem?_map, hcc]; rfl)
        have wy := m_lp (t := 1 + c % 358) (b := 360) (n := 20) (by decide) (by unfold Bd; decide) (by decide)
        have c360 : (0 : Rat) < (((360 : Int)) : Rat) := ic_p (by decide)
        have wd := div_mul (a := ((1 + c % 358 : Int) : Rat)) c360
        have n0 : (0 : Rat) < ((1 + c % 358 : Int) : Rat) := ic_p (by omega)
        have n1 : ((1 + c % 358 : Int) : Rat) < ((360 : Int) : Rat) := ic_lt (by omega)
        have vway := vk_part (t := 1 + c % 358) (b := 360) (N := 360) (C := 360) (by decide) (by decide) (by omega)
        have w0 : 0 < ((1 + c % 358 : Int) : Rat) / ((360 : Int) : Rat) := by
          rw [Rat.div_def]
          exact Rat.mul_pos n0 (Rat.inv_pos.mpr c360)
        generalize hW : ((1 + c % 358 : Int) : Rat) / ((360 : Int) : Rat) = w at *
        have w1 : w < 1 := by
          refine Classical.byContradiction fun nn => ?_
          have := mul_le (by grind : (1 : Rat) ≤ w) (Rat.le_of_lt c360)
          grind
        have hi : ∃ (hh : Rat) (e4 : Bool), (decide ((k : Int) + 1 < (lows.length : Nat)) = e4) ∧ a < hh ∧ Vk L20 (B61 + 97) hh ∧ (∀ b, lows[k + 1]? = some b → hh = b) ∧ (e4 = false → hh = a + ((97 : Int) : Rat)) ∧ (e4 = true → atD (lows.map PR) ((k : Int) + 1) = .ok (PR hh)) := by
          by_cases c : k + 1 < lows.length
          · obtain ⟨b, hb⟩ : ∃ b, lows[k + 1]? = some b := ⟨lows[k + 1], List.getElem?_eq_getElem c⟩
            refine ⟨b, true, decide_eq_true (by omega), hup k a b ha hb, (hv b (List.mem_of_getElem? hb)).up (Nat.dvd_refl _) (by omega), (fun b' hb' => by rw [hb] at hb'; cases hb'; rfl), (fun z => nomatch z), fun _ => ?_⟩
            have e : (k : Int) + 1 = ((k + 1 : Nat) : Int) := by omega
            rw [e]
            exact at_get (by rw [List.getElem?_map, hb]; rfl)
          · have p97 : (0 : Rat) < ((97 : Int) : Rat) := ic_p (by decide)
            refine ⟨a + ((97 : Int) : Rat), false, decide_eq_false (by omega), by grind, va.add (Vk.int (by decide)), (fun b hb => by rw [List.getElem?_eq_none (by omega)] at hb; cases hb), (fun _ => rfl), (fun z => nomatch z)⟩
        obtain ⟨hh, e4, h4, ah, vh, hb, hf, ht⟩ := hi
        have vhN : Vk N61 (B61 + 97) hh := vh.up (Nat.dvd_mul_left ..) (Nat.le_refl _)
        have le := m_lal vhN vaN (szN (by decide +kernel)) (szN (by decide +kernel))
        have vd := vh.sub va
        have tm := m_lat vway vd ⟨by decide, by decide +kernel, small 360⟩ ⟨by decide, Nat.lt_of_lt_of_le (show L20 < 2 ^ 100 by decide) (p2 (by decide)), small _ (by decide +kernel)⟩
        have v35 : Vk 360 1 (359 / 360 : Rat) := ⟨⟨359, by decide +kernel⟩, by decide +kernel, by decide +kernel⟩
        have tn := m_lat v35 vd ⟨by decide, by decide +kernel, small 1⟩ ⟨by decide, Nat.lt_of_lt_of_le (show L20 < 2 ^ 100 by decide) (p2 (by decide)), small _ (by decide +kernel)⟩
        have vwd : Vk N61 (360 * (B61 + 97 + B61)) (w * (hh - a)) := vway.mul vd
        have vnd : Vk N61 (1 * (B61 + 97 + B61)) ((359 / 360 : Rat) * (hh - a)) := v35.mul vd
        have am := m_las vaN vwd (szN (by decide +kernel)) (szN (by decide +kernel))
        have an := m_las vaN vnd (szN (by decide +kernel)) (szN (by decide +kernel))
        have dpos : 0 < hh - a := by grind
        have r1 := way_in (a := a) w0 w1 dpos
        have r2 := way_in (a := a) (w := 359 / 360) (by decide +kernel) (by decide +kernel) dpos
        have hiU : ((B61 : Nat) : Int) = 1000000 := rfl
        have ok1 : SpOk lows (k, a) := ⟨vaN.up (Nat.dvd_refl _) (by decide +kernel), a, ha, Rat.le_refl, fun b h => by rw [← hb b h]; exact ah⟩
        have cU : ((B61 + 97 : Nat) : Int) ≤ (C61 : Nat) := by decide +kernel
        have hiC := Rat.le_trans vhN.hi (ic_le cU)
        have loC : -(((C61 : Nat) : Int) : Rat) ≤ a := by
          have := vaN.lo
          have := ic_le (a := ((B61 : Nat) : Int)) (b := ((C61 : Nat) : Int)) (by decide +kernel)
          grind
        have ok2 : SpOk lows (k, a + w * (hh - a)) := ⟨⟨(vaN.add vwd).kk, by show -(((C61 : Nat) : Int) : Rat) ≤ a + w * (hh - a); grind, by show a + w * (hh - a) ≤ (((C61 : Nat) : Int) : Rat); grind⟩, a, ha, r1.1, fun b h => by
          have := hb b h
          show a + w * (hh - a) < b
          grind⟩
        have ok3 : SpOk lows (k, a + (359 / 360) * (hh - a)) := ⟨⟨(vaN.add vnd).kk, by show -(((C61 : Nat) : Int) : Rat) ≤ a + (359 / 360) * (hh - a); grind, by show a + (359 / 360) * (hh - a) ≤ (((C61 : Nat) : Int) : Rat); grind⟩, a, ha, r2.1, fun b h => by
          have := hb b h
          show a + (359 / 360) * (hh - a) < b
          grind⟩
        have hmd : dMod (.int (k : Int)) (.int ((3 : Nat) : Int)) = .ok (.int ((k : Int) % 3)) := e_modP (i := (k : Int)) (j := 3) (by decide)
        have adl : dAddA (.lst (sp.map spD)) (.lst [spD (k, a), spD (k, a + w * (hh - a)), spD (k, a + (359 / 360) * (hh - a))]) = .ok (.lst ((sp ++ [(k, a), (k, a + w * (hh - a)), (k, a + (359 / 360) * (hh - a))]).map spD)) := by
          rw [e_addLL, if_pos, List.map_append]
          · rfl
          · exact sz (by rw [List.length_map, spl]; simp; omega)
        have f1 : spD (k, a) = .tup [.int (k : Nat), PR a] := rfl
        have f2 : spD (k, a + w * (hh - a)) = .tup [.int (k : Nat), PR (a + w * (hh - a))] := rfl
        have f3 : spD (k, a + (359 / 360) * (hh - a)) = .tup [.int (k : Nat), PR (a + (359 / 360) * (hh - a))] := rfl
        rw [f1, f2, f3] at adl
        refine ⟨_, rfl, [.pu (.lst (lows.map PR)), .pu (.lst (cs.map D.int)), .pu (.lst ((sp ++ [(k, a), (k, a + w * (hh - a)), (k, a + (359 / 360) * (hh - a))]).map spD)), .pu (.int (k : Nat)), .pu (PR hh), .pu (PR w), .pu (PR (hh - a)), .pu (PR (a + w * (hh - a))), .pu (PR (a + (359 / 360) * (hh - a)))], .inl ?_, _, _, _, _, _, _, _, rfl, ?_, ?_⟩
        · show c_law_spots_b1 [.pu (.lst (lows.map PR)), .pu (.lst (cs.map D.int)), .pu (.lst (sp.map spD)), .pu (.int (k : Nat)), s4, s5, s6, s7, s8] = _
          have cl' := cl
          have ll' := ll
          unfold c_law_spots_b1
          generalize (sp ++ [(k, a), (k, a + w * (hh - a)), (k, a + (359 / 360) * (hh - a))]).map spD = V2 at *
          generalize sp.map spD = V at *
          generalize lows.map PR = X at *
          generalize cs.map D.int = Y at *
          cases e4 with
          | true =>
            have h4' := of_decide_eq_true h4
            have at1 := ht rfl
            simp_arith [ata, PRi, s97, ll', h4', at1, cl', hmd, atc, wy, le, tm, am, pr3, tn, an, adl]
          | false =>
            have h4' := of_decide_eq_false h4
            have eh := hf rfl
            rw [← eh] at s97
            simp_arith [ata, PRi, s97, ll', h4', cl', hmd, atc, wy, le, tm, am, pr3, tn, an, adl]
        · intro s hs
          rcases List.mem_append.mp hs with hs | hs
          · exact hsp s hs
          · simp only [List.mem_cons, List.not_mem_nil, or_false] at hs
            rcases hs with rfl | rfl | rfl
            · exact ok1
            · exact ok2
            · exact ok3
        · rw [List.length_append, spl]
          simp
          omega
      · cases hd)
  refine ⟨sp, ?_, hsp⟩
  unfold m_law_spots c_law_spots
  generalize lows.map PR = X at *
  generalize cs.map D.int = Y at *
  generalize sp.map spD = V at *
  generalize rangeD 0 lows.length = RR at *
  simp_arith [ll, hr, lp]
/-! ### k61 -/
theorem goodW61 {ws : List Rat} {n : Nat} : (D.lst (ws.map PR)).good (n + 2) = true := good_all' (n := n + 1) fun d hd => by
  obtain ⟨w, _, rfl⟩ := List.mem_map.mp hd
  exact good_PR
theorem shw_Ln {l : Ln} (va : Vk Q61 60000000 l.a) (vg : Vk L240 20 l.g) : Shw l.d 7705 := by
  have s1 := shw_PR va Q61_p (Nat.lt_of_lt_of_le Q61_400 (p2 (by decide))) (show 60000000 * Q61 < 2 ^ 1920 by
    have : 60000000 * Q61 < 2 ^ 100 * 2 ^ 400 := Nat.mul_lt_mul'' (by decide) Q61_400
    rw [← Nat.pow_add] at this
    exact Nat.lt_of_lt_of_le this (p2 (by decide)))
  have L4 : L240 < 2 ^ 400 := by decide +kernel
  have s2 := shw_PR vg (by decide) (Nat.lt_of_lt_of_le L4 (p2 (by decide))) (show 20 * L240 < 2 ^ 1920 by
    have : 20 * L240 < 2 ^ 100 * 2 ^ 400 := Nat.mul_lt_mul'' (by decide) L4
    rw [← Nat.pow_add] at this
    exact Nat.lt_of_lt_of_le this (p2 (by decide)))
  exact (Shw.tup (shwA_cons s1 (shwA_cons s2 shwA_nil))).up (by decide)
theorem shw_Pce {its : List It} {p : Pce} (hl : its.length ≤ 12) (g : GoodP its p) : Shw p.d 96343 := by
  have s1 := shw_PR g.r (by decide) (Nat.lt_of_lt_of_le (show L20 < 2 ^ 100 by decide) (p2 (by decide))) (show B61 * L20 < 2 ^ 1920 from Nat.lt_of_lt_of_le (show B61 * L20 < 2 ^ 200 by decide +kernel) (p2 (by decide)))
  have s2 : ShwA (p.ls.map Ln.d) ((p.ls.map Ln.d).length * (7705 + 2)) := shwA_all fun d hd => by
    obtain ⟨l, hl', rfl⟩ := List.mem_map.mp hd
    exact shw_Ln (g.ls l hl').1 (g.ls l hl').2.1
  have gl := g.len
  refine (Shw.tup (shwA_cons s1 (shwA_cons (Shw.lst s2) shwA_nil))).up ?_
  rw [List.length_map]
  omega
theorem repr61 {its : List It} {ps : List Pce} (hl : its.length ≤ 12) (g : ∀ p ∈ ps, GoodP its p) (hn : ps.length ≤ 60) : ∃ S, dRepr [.lst (ps.map Pce.d)] = .ok (.str S) := by
  refine repr_shw goodPs (Shw.lst (shwA_all (k := 96343) fun d hd => ?_)) ?_
  · obtain ⟨p, hp, rfl⟩ := List.mem_map.mp hd
    exact shw_Pce hl (g p hp)
  · rw [List.length_map]
    omega
theorem m_nig {L : List (D × Bool)} (h : ∀ a ∈ L, m_is_item [a.1] = .ok (.bl a.2)) (hl : L.length ≤ 100) (hb : (L.map Prod.snd).all id = false) : m_need_items [.lst (L.map Prod.fst)] = .ex "NoItem" := by
  have hlc : lcGo (tName 1) cTrue c_need_items_e1 [.pu (.lst (L.map Prod.fst)), .un] (L.map Prod.fst) [] = .ok (L.map fun a => D.bl a.2) := by
    refine lc_mapA (fun a ha => ⟨_, rfl, ?_⟩) (by omega)
    have z := h a ha
    show c_need_items_e1 [.pu (.lst (L.map Prod.fst)), .pu a.1] = _
    unfold c_need_items_e1
    generalize L.map Prod.fst = X
    simp_arith [z]
  have ha : dAll [.lst (L.map fun a => D.bl a.2)] = .ok (.bl false) := by
    have e : (L.map fun a => D.bl a.2) = (L.map Prod.snd).map D.bl := by rw [List.map_map]; rfl
    rw [e, e_all, hb]
  have it0 : ∀ l : List D, dItems (.lst l) = .ok l := fun _ => rfl
  unfold m_need_items c_need_items
  generalize L.map Prod.fst = X at *
  generalize (L.map fun a => D.bl a.2) = Y at *
  simp_arith [it0, hlc, ha]
theorem m_lrf {X : D} (h : m_need_items [X] = .ex "NoItem") : m_law_refused [X] = .ok (.bl true) := by
  have hp : m_share_pieces [X] = .ex "NoItem" := by
    unfold m_share_pieces c_share_pieces
    simp_arith [h]
  have e1 : e_WideError "NoItem" = some true := by decide +kernel
  have e2 : dIsi i_NoItem (.exc "NoItem") = .ok (.bl true) := by kernel_rfl
  have e3 : dIsi i_NoPart (.exc "NoItem") = .ok (.bl false) := by kernel_rfl
  have e4 : dIsi i_TooMany (.exc "NoItem") = .ok (.bl false) := by kernel_rfl
  unfold m_law_refused c_law_refused
  simp_arith [hp, e1, e2, e3, e4]
theorem lw1_61 {its : List It} {ps : List Pce} {sc cs : D} {k : Nat} {p : Pce} {s5 s6 s7 s8 s9 s10 s11 s12 : Sl} (hl : its.length ≤ 12) (P : Pcs its ps) (hk : ps[k]? = some p) (b5 : borS s5 = s5) (b6 : borS s6 = s6) (b7 : borS s7 = s7) (b8 : borS s8 = s8) (b9 : borS s9 = s9) (b10 : borS s10 = s10) (b11 : borS s11 = s11) (b12 : borS s12 = s12) :
    c_law_b1 [.pu sc, .pu cs, .pu (.lst (its.map It.d)), .ow (ps.map Pce.d), .pu (.int (k : Nat)), s5, s6, s7, s8, s9, s10, s11, s12] = .nx [.pu sc, .pu cs, .pu (.lst (its.map It.d)), .ow (ps.map Pce.d), .pu (.int (k : Nat)), s5, s6, s7, s8, s9, s10, s11, s12] := by
  have g := P.g p (List.mem_of_getElem? hk)
  have gr := m_lgr (by rw [g.len]; exact hl) g.ls g.sum
  have ix1 : ∀ p : Pce, dIx p.d (.int 1) = .ok (.lst (p.ls.map Ln.d)) := fun _ => rfl
  have ix0 : ∀ p : Pce, dIx p.d (.int 0) = .ok (PR p.r) := fun _ => rfl
  have atk : atD (ps.map Pce.d) (k : Int) = .ok p.d := at_get (by rw [List.getElem?_map, hk]; rfl)
  have ll : (p.ls.map Ln.d).length = its.length := by rw [List.length_map]; exact g.len
  have li : (its.map It.d).length = its.length := List.length_map ..
  cases k with
  | zero =>
    have z : ¬ (0 : Int) < ((0 : Nat) : Int) := by decide
    have i1 := ix1 p
    unfold c_law_b1
    generalize p.ls.map Ln.d = Y at *
    generalize ps.map Pce.d = Q at *
    generalize its.map It.d = X at *
    generalize p.d = pd at *
    simp_arith [atk, i1, ll, li, gr, z, b5, b6, b7, b8, b9, b10, b11, b12]
  | succ k =>
    obtain ⟨p0, h0⟩ : ∃ p0, ps[k]? = some p0 := by
      have := (List.getElem?_eq_some_iff.mp hk).1
      exact ⟨ps[k], List.getElem?_eq_getElem (by omega)⟩
    have g0 := P.g p0 (List.mem_of_getElem? h0)
    obtain ⟨_, lt, ne⟩ := (P.c.get h0).1 p hk
    have at0 : atD (ps.map Pce.d) (((k + 1 : Nat) : Int) - 1) = .ok p0.d := by
      have e : ((k + 1 : Nat) : Int) - 1 = (k : Int) := by omega
      rw [e]
      exact at_get (by rw [List.getElem?_map, h0]; rfl)
    have s20 : Sz L20 B61 := ⟨by decide, Nat.lt_of_lt_of_le (show L20 < 2 ^ 100 by decide) (p2 (by decide)), small _ (by decide +kernel)⟩
    have ab := m_lab g.r g0.r s20 s20
    rw [decide_eq_true lt] at ab
    have eq := eqLs' (a := p.ls) (b := p0.ls)
    rw [decide_eq_false (fun z => ne z.symm)] at eq
    have z : (0 : Int) < ((k + 1 : Nat) : Int) := by omega
    have i1 := ix1 p
    have i10 := ix1 p0
    have i0 := ix0 p
    have i00 := ix0 p0
    unfold c_law_b1
    generalize ((k + 1 : Nat) : Int) = kk at *
    generalize p.ls.map Ln.d = Y at *
    generalize p0.ls.map Ln.d = Y0 at *
    generalize ps.map Pce.d = Q at *
    generalize its.map It.d = X at *
    generalize p.d = pd at *
    generalize p0.d = pd0 at *
    simp_arith [atk, at0, i1, i0, i10, i00, ll, li, gr, z, ab, eq, b5, b6, b7, b8, b9, b10, b11, b12]
theorem lw2_61 {its : List It} {ps : List Pce} {sc cs : D} {s : Nat × Rat} {s5 s6 s7 s9 s10 : Sl} (ok : Oks its) (hl : its.length ≤ 12) (P : Pcs its ps) (hs : SpOk (ps.map Pce.r) s) (b5 : borS s5 = s5) (b6 : borS s6 = s6) (b7 : borS s7 = s7) (b9 : borS s9 = s9) (b10 : borS s10 = s10) :
    ∃ Z : D, c_law_b2 [.pu sc, .pu cs, .pu (.lst (its.map It.d)), .ow (ps.map Pce.d), .pu (.int (s.1 : Nat)), s5, s6, s7, .pu (PR s.2), s9, s10, .un, .un] = .nx [.pu sc, .pu cs, .pu (.lst (its.map It.d)), .ow (ps.map Pce.d), .pu (.int (s.1 : Nat)), s5, s6, s7, .pu (PR s.2), .pu Z, .pu Z, .un, .un] := by
  obtain ⟨k, x⟩ := s
  obtain ⟨vx, a, ha, lo, hi⟩ := hs
  have vx : Vk N61 C61 x := vx
  have lo : a ≤ x := lo
  have hi : ∀ b, (ps.map Pce.r)[k + 1]? = some b → x < b := hi
  have ha : (ps.map Pce.r)[k]? = some a := ha
  rw [List.getElem?_map] at ha
  obtain ⟨p, hk, rfl⟩ := Option.map_eq_some_iff.mp ha
  have g := P.g p (List.mem_of_getElem? hk)
  have val : ∀ q, Share its x q → (its.map fun i => i.wd q) = p.ls.map fun l => l.at x := by
    obtain ⟨h1, h2⟩ := P.c.get hk
    cases hn : ps[k + 1]? with
    | none => exact h2 hn x lo fun h e => by cases e
    | some p2 =>
      refine (h1 p2 hn).1 x lo fun h e => ?_
      cases e
      exact hi _ (by rw [List.getElem?_map, hn]; rfl)
  obtain ⟨q, hsh, sh, _⟩ := m_sh ok hl big61N vx (show N61 * L240 < 2 ^ 3900 from Nat.lt_of_lt_of_le (show N61 * L240 < 2 ^ 500 by decide +kernel) (p2 (by decide)))
  have ew : (its.map fun i => PR (i.wd q)) = (p.ls.map fun l => l.at x).map PR := by
    rw [← val q sh, List.map_map]
    rfl
  rw [ew] at hsh
  have atk : atD (ps.map Pce.d) (k : Int) = .ok p.d := at_get (by rw [List.getElem?_map, hk]; rfl)
  have ix1 : dIx p.d (.int 1) = .ok (.lst (p.ls.map Ln.d)) := rfl
  have pl : p.ls.length ≤ 12 := by rw [g.len]; exact hl
  have em : (p.ls.map fun l => l.at x).map PR = p.ls.map fun l => PR (l.at x) := by rw [List.map_map]; rfl
  have l1 : ∀ s3 s9 s10 : Sl, lcGo (tName 12) cTrue c_law_e1 [.pu sc, .pu cs, .pu (.lst (its.map It.d)), s3, .pu (.int (k : Nat)), s5, s6, s7, .pu (PR x), s9, s10, .un, .un] (p.ls.map Ln.d) [] = .ok ((p.ls.map fun l => l.at x).map PR) := fun s3 s9 s10 => by
    rw [em]
    refine lc_mapA (fun l hl' => ⟨_, rfl, ?_⟩) (by omega)
    have z := m_lli61 (g.ls l hl').1 (g.ls l hl').2.1 vx
    show c_law_e1 [.pu sc, .pu cs, .pu (.lst (its.map It.d)), s3, .pu (.int (k : Nat)), s5, s6, s7, .pu (PR x), s9, s10, .un, .pu l.d] = _
    unfold c_law_e1
    generalize its.map It.d = X at *
    generalize ps.map Pce.d = Q at *
    simp_arith [z]
  have l2 : ∀ s3 s9 s10 : Sl, lcGo (tName 12) cTrue c_law_e2 [.pu sc, .pu cs, .pu (.lst (its.map It.d)), s3, .pu (.int (k : Nat)), s5, s6, s7, .pu (PR x), s9, s10, .un, .un] (p.ls.map Ln.d) [] = .ok ((p.ls.map fun l => l.at x).map PR) := fun s3 s9 s10 => by
    rw [em]
    refine lc_mapA (fun l hl' => ⟨_, rfl, ?_⟩) (by omega)
    have z := m_lat61 (g.ls l hl').1 (g.ls l hl').2.1 vx
    show c_law_e2 [.pu sc, .pu cs, .pu (.lst (its.map It.d)), s3, .pu (.int (k : Nat)), s5, s6, s7, .pu (PR x), s9, s10, .un, .pu l.d] = _
    unfold c_law_e2
    generalize its.map It.d = X at *
    generalize ps.map Pce.d = Q at *
    simp_arith [z]
  have ne := ne_self (d := .lst ((p.ls.map fun l => l.at x).map PR)) goodW61 rfl
  have it0 : ∀ l : List D, dItems (.lst l) = .ok l := fun _ => rfl
  have sx : ∀ (q s o : D) (Z : List D), dIx (.tup [q, .lst Z, s, o]) (.int 1) = .ok (.lst Z) := fun q s o Z => by rw [e_ixT]; exact e_at1
  refine ⟨.lst ((p.ls.map fun l => l.at x).map PR), ?_⟩
  unfold c_law_b2
  generalize (p.ls.map fun l => l.at x).map PR = Z at *
  generalize p.ls.map Ln.d = Y at *
  generalize ps.map Pce.d = Q at *
  generalize its.map It.d = X at *
  generalize p.d = pd at *
  simp_arith [atk, ix1, it0, l1, l2, hsh, sx, ne, b5, b6, b7, b9, b10]
theorem e_cFz {c : C} {δ : List Sl} : cFz c δ = jFz c δ (c δ) := rfl
theorem e_jFz {c : C} {δ : List Sl} {d : D} : jFz c δ (.ok d) = .ok d := rfl
theorem e_jFzn {c : C} {δ : List Sl} : jFz c δ .no = kFz (c (bor δ)) := rfl
theorem e_kFz {d : D} : kFz (.ok d) = if d.flat = true then .ok d else .no := rfl
theorem e_cFzN {c : CA} {δ : List Sl} : cFzN c δ = jFzN c δ (c δ) := rfl
theorem e_jFzN {c : CA} {δ : List Sl} {d : List D} : jFzN c δ (.ok d) = .ok d := rfl
theorem e_jFzNn {c : CA} {δ : List Sl} : jFzN c δ .no = kFzN (c (bor δ)) := rfl
theorem e_kFzN {d : List D} : kFzN (.ok d) = if D.flat.flats d = true then .ok d else .no := rfl
theorem fl_PR : ∀ l : List Rat, D.flat.flats (l.map PR) = true
  | [] => e_fls0
  | a :: l => by
    rw [List.map_cons, e_fls1, fl_PR l]
    unfold PR
    rw [e_flT, e_fls1, e_fls1, e_fls0, e_flI, e_flI]
    rfl
theorem cut_9 {xs : List Int} (h : xs.length = 12) : cutD (xs.map D.int) (some 9) (some 12) = ((xs.drop 9).take 3).map D.int := by
  have l : (xs.map D.int).length = 12 := by rw [List.length_map, h]
  have e1 : HT.sIx 12 0 (some 9) = 9 := by decide
  have e2 : HT.sIx 12 12 (some 12) = 12 := by decide
  unfold cutD
  rw [l, e1, e2, ← List.map_drop, ← List.map_take]
theorem odd_bad {c : Int} : ∃ d : D, atD [.non, .tup [.int 1, .int 2], .tup [.int 5, .int 6, .non, .int 0, .int 0], .lst [], .dct [] []] (c % 5) = .ok d ∧ m_is_item [d] = .ok (.bl false) := by
  have q : c % 5 = 0 ∨ c % 5 = 1 ∨ c % 5 = 2 ∨ c % 5 = 3 ∨ c % 5 = 4 := by omega
  rcases q with q | q | q | q | q <;> rw [q]
  · exact ⟨_, e_at0, by kernel_rfl⟩
  · exact ⟨_, e_at1, by kernel_rfl⟩
  · exact ⟨_, e_at2, by kernel_rfl⟩
  · exact ⟨_, e_at3, by kernel_rfl⟩
  · exact ⟨_, e_at4, by kernel_rfl⟩
theorem law_true (ns : List Int) (hns : ns.length ≤ 63) : m_law [.kst (ns.map D.int)] = .ok (.bl true) := by
  obtain ⟨xs, hx, hxl, hx0⟩ := m_mixed (ns := ns) (st := 0) (w := 12) (by decide)
  have hx' : m_law_mixed [.kst (ns.map D.int), .int 0, .int 12] = .okl (xs.map D.int) := hx
  obtain ⟨c8, hc8⟩ : ∃ c, xs[8]? = some c := ⟨xs[8], List.getElem?_eq_getElem (by omega)⟩
  obtain ⟨c10, hc10⟩ : ∃ c, xs[10]? = some c := ⟨xs[10], List.getElem?_eq_getElem (by omega)⟩
  obtain ⟨c11, hc11⟩ : ∃ c, xs[11]? = some c := ⟨xs[11], List.getElem?_eq_getElem (by omega)⟩
  have p8 : 0 ≤ c8 := hx0 _ (List.mem_of_getElem? hc8)
  have p10 : 0 ≤ c10 := hx0 _ (List.mem_of_getElem? hc10)
  have at8 : atD (xs.map D.int) 8 = .ok (.int c8) := at_get (m := 8) (by rw [List.getElem?_map, hc8]; rfl)
  have at10 : atD (xs.map D.int) 10 = .ok (.int c10) := at_get (m := 10) (by rw [List.getElem?_map, hc10]; rfl)
  have at11 : atD (xs.map D.int) 11 = .ok (.int c11) := at_get (m := 11) (by rw [List.getElem?_map, hc11]; rfl)
  have cut : cutD (xs.map D.int) none (some (c8 % 7)) = (xs.take (c8 % 7).toNat).map D.int := by
    rw [cut_to (by omega) (by rw [List.length_map]; omega), List.map_take]
  obtain ⟨its, hi, ok, il⟩ := m_its (xs := xs.take (c8 % 7).toNat) (fun x hx => hx0 x (List.mem_of_mem_take hx)) (by simp; omega)
  have hl : its.length ≤ 12 := by rw [il]; simp; omega
  obtain ⟨ps, hps, P⟩ := m_spc ok hl
  obtain ⟨p0, ps', hpe⟩ : ∃ p0 ps', ps = p0 :: ps' := by
    cases h : ps with
    | nil => have := P.h; rw [h] at this; cases this
    | cons a l => exact ⟨a, l, rfl⟩
  have r0 : p0.r = 0 := by
    have := P.h
    rw [hpe] at this
    injection this
  have at0 : atD (ps.map Pce.d) 0 = .ok p0.d := by rw [hpe]; exact e_at0
  have i0 : dIx p0.d (.int 0) = .ok (PR 0) := by
    have : dIx p0.d (.int 0) = .ok (PR p0.r) := rfl
    rw [this, r0]
  have ne0 := @PRne 0 ((0 : Int) : Rat)
  have z0 : ((0 : Int) : Rat) = 0 := rfl
  rw [z0, decide_eq_true rfl] at ne0
  -- the checks
  have pl : (ps.map Pce.d).length = ps.length := List.length_map ..
  have pn := P.n
  have hr : dRng1 [.int (ps.length : Nat)] = .ok (rangeD 0 ps.length) := rng1n (by omega)
  obtain ⟨δ1, lp1, t4, b4, rfl⟩ := go_inv0 (t := tName 4) (s := c_law_b1) (ds := rangeD 0 ps.length) (δ := [.pu (.kst (ns.map D.int)), .pu (.lst (xs.map D.int)), .pu (.lst (its.map It.d)), .ow (ps.map Pce.d), .un, .un, .un, .un, .un, .un, .un, .un, .un])
    (fun _ δ => ∃ t4, borS t4 = t4 ∧ δ = [.pu (.kst (ns.map D.int)), .pu (.lst (xs.map D.int)), .pu (.lst (its.map It.d)), .ow (ps.map Pce.d), t4, .un, .un, .un, .un, .un, .un, .un, .un]) ⟨.un, rfl, rfl⟩ (by
      rintro k d δ hd ⟨t4, _, rfl⟩
      rw [rangeD_get0] at hd
      split at hd
      · rename_i kl
        cases hd
        have hk : ps[k]? = some ps[k] := List.getElem?_eq_getElem kl
        exact ⟨_, rfl, _, .inl (lw1_61 hl P hk rfl rfl rfl rfl rfl rfl rfl rfl), .pu (.int (k : Nat)), rfl, rfl⟩
      · cases hd)
  -- the rooms
  have lows : ∀ t4 : Sl, lcGo (tName 11) cTrue (cIxV 11 (cC (.int 0))) [.pu (.kst (ns.map D.int)), .pu (.lst (xs.map D.int)), .pu (.lst (its.map It.d)), .pu (.lst (ps.map Pce.d)), t4, .un, .un, .un, .un, .un, .un, .un, .un] (ps.map Pce.d) [] = .ok ((ps.map Pce.r).map PR) := fun t4 => by
    rw [List.map_map]
    refine lc_mapA (fun p hp => ⟨_, rfl, ?_⟩) (by omega)
    have i1 : dIx p.d (.int 0) = .ok (PR p.r) := rfl
    show cIxV 11 (cC (.int 0)) [.pu (.kst (ns.map D.int)), .pu (.lst (xs.map D.int)), .pu (.lst (its.map It.d)), .pu (.lst (ps.map Pce.d)), t4, .un, .un, .un, .un, .un, .un, .pu p.d, .un] = .ok (PR p.r)
    generalize ns.map D.int = A
    generalize xs.map D.int = B
    generalize its.map It.d = X
    generalize ps.map Pce.d = Q
    generalize p.d = pd at *
    simp_arith [i1]
  have cut9 := cut_9 hxl
  obtain ⟨sp, hsp, spo⟩ := m_lsp (lows := ps.map Pce.r) (cs := (xs.drop 9).take 3) (by rw [List.length_map]; exact pn) (fun a ha => by
    obtain ⟨p, hp, rfl⟩ := List.mem_map.mp ha
    exact (P.g p hp).r) (fun k a b ha hb => by
    rw [List.getElem?_map] at ha hb
    obtain ⟨p, hp, rfl⟩ := Option.map_eq_some_iff.mp ha
    obtain ⟨p2, hp2, rfl⟩ := Option.map_eq_some_iff.mp hb
    exact ((P.c.get hp).1 p2 hp2).2.1) (by simp; omega) (fun c hc => hx0 c (List.mem_of_mem_drop (List.mem_of_mem_take hc)))
  obtain ⟨δ2, lp2, u4, u8, u9, u10, c4, c8', c9, c10', rfl⟩ := go_pre (t := tTupT 2 (tCons' (tName 4) (tCons' (tName 8) tNil'))) (s := c_law_b2) (l := sp) (f := spD) (δ := [.pu (.kst (ns.map D.int)), .pu (.lst (xs.map D.int)), .pu (.lst (its.map It.d)), .ow (ps.map Pce.d), t4, .un, .un, .un, .un, .un, .un, .un, .un])
    (fun _ δ => ∃ u4 u8 u9 u10, borS u4 = u4 ∧ borS u8 = u8 ∧ borS u9 = u9 ∧ borS u10 = u10 ∧ δ = [.pu (.kst (ns.map D.int)), .pu (.lst (xs.map D.int)), .pu (.lst (its.map It.d)), .ow (ps.map Pce.d), u4, .un, .un, .un, u8, u9, u10, .un, .un]) ⟨t4, .un, .un, .un, b4, rfl, rfl, rfl, rfl⟩ (by
      rintro pre s post δ e ⟨u4, u8, u9, u10, c4, c8, c9, c10, rfl⟩
      have hs := spo s (by rw [e]; simp)
      obtain ⟨Z, hz⟩ := lw2_61 (sc := .kst (ns.map D.int)) (cs := .lst (xs.map D.int)) (s5 := .un) (s6 := .un) (s7 := .un) (s9 := u9) (s10 := u10) ok hl P hs rfl rfl rfl c9 c10
      exact ⟨_, rfl, _, .inl hz, .pu (.int (s.1 : Nat)), .pu (PR s.2), .pu Z, .pu Z, rfl, rfl, rfl, rfl, rfl⟩)
  -- the end
  obtain ⟨S, rp⟩ := repr61 hl P.g pn
  have hpop : ∀ δ, kPopS 3 δ (some (.ow (ps.map Pce.d))) = .nx (δ.set 3 (.ow (ps.map Pce.d).dropLast)) := fun δ => by
    rw [hpe]
    rfl
  have e_popS : ∀ δ, cPopS 3 δ = kPopS 3 δ δ[3]? := fun _ => rfl
  obtain ⟨odd, hodd, bad⟩ := odd_bad (c := c11)
  have npos : (0 : Int) < ((its.length : Nat) : Int) + 1 := by omega
  have hmd := e_modP (i := c10) (j := ((its.length : Nat) : Int) + 1) npos
  have m0 := Int.emod_nonneg c10 (show ((its.length : Nat) : Int) + 1 ≠ 0 by omega)
  have m1 := Int.emod_lt_of_pos c10 npos
  obtain ⟨k, hk⟩ := Int.eq_ofNat_of_zero_le m0
  rw [hk] at hmd m1
  have kl : k ≤ its.length := by omega
  have ilen : (its.map It.d).length = its.length := List.length_map ..
  have ct : cutD (its.map It.d) none (some (k : Int)) = (its.map It.d).take k := by
    rw [cut_to (by omega) (by rw [ilen]; omega)]
    rfl
  have cf : cutD (its.map It.d) (some (k : Int)) none = (its.map It.d).drop k := by
    rw [cut_from (by omega) (by rw [ilen]; omega)]
    rfl
  have a1 : dAddA (.lst ((its.map It.d).take k)) (.lst [odd]) = .ok (.lst ((its.map It.d).take k ++ [odd])) := by
    rw [e_addLL, if_pos]
    exact sz (by rw [List.length_take, List.length_singleton]; omega)
  have a2 : dAddA (.lst ((its.map It.d).take k ++ [odd])) (.lst ((its.map It.d).drop k)) = .ok (.lst ((its.map It.d).take k ++ [odd] ++ (its.map It.d).drop k)) := by
    rw [e_addLL, if_pos]
    exact sz (by rw [List.length_append, List.length_take, List.length_drop, List.length_singleton]; omega)
  have rf : m_law_refused [.lst ((its.map It.d).take k ++ [odd] ++ (its.map It.d).drop k)] = .ok (.bl true) := by
    refine m_lrf ?_
    have e : (its.map It.d).take k ++ [odd] ++ (its.map It.d).drop k = (((its.take k).map fun i => (i.d, true)) ++ [(odd, false)] ++ ((its.drop k).map fun i => (i.d, true))).map Prod.fst := by
      simp only [List.map_append, List.map_map, List.map_cons, List.map_nil, List.map_take, List.map_drop]
      rfl
    rw [e]
    refine m_nig (fun a ha => ?_) (by simp; omega) ?_
    · rcases List.mem_append.mp ha with ha | ha
      · rcases List.mem_append.mp ha with ha | ha
        · obtain ⟨i, hi, rfl⟩ := List.mem_map.mp ha
          exact ii_ok (ok i (List.mem_of_mem_take hi)).o
        · rw [List.mem_singleton.mp ha]
          exact bad
      · obtain ⟨i, hi, rfl⟩ := List.mem_map.mp ha
        exact ii_ok (ok i (List.mem_of_mem_drop hi)).o
    · simp
  have it0 : ∀ l : List D, dItems (.lst l) = .ok l := fun _ => rfl
  have fl := fl_PR (ps.map Pce.r)
  unfold m_law c_law
  generalize (its.map It.d).take k ++ [odd] ++ (its.map It.d).drop k = I3 at *
  generalize (its.map It.d).take k = I1 at *
  generalize (its.map It.d).drop k = I2 at *
  generalize its.map It.d = U at *
  generalize ns.map D.int = X at *
  generalize (xs.take (c8 % 7).toNat).map D.int = T at *
  generalize ((xs.drop 9).take 3).map D.int = T9 at *
  generalize xs.map D.int = Y at *
  generalize (ps.map Pce.r).map PR = LW at *
  generalize sp.map spD = SP at *
  generalize (ps.map Pce.d).dropLast = Q2 at *
  generalize ps.map Pce.d = Q at *
  generalize p0.d = pd at *
  generalize rangeD 0 ps.length = RR at *
  simp_arith [e_cFz, e_jFz, e_jFzn, e_kFz, e_cFzN, e_jFzN, e_jFzNn, e_kFzN, fl, hx', at8, cut, hi, hps, at0, i0, PRi, z0, ne0, pl, hr, lp1, it0, lows, cut9, hsp, lp2, rp, e_popS, hpop, at11, hodd, at10, ilen, hmd, hk, ct, cf, a1, a2, rf, b4, c4, c8', c9, c10']
end Law
open PySem PySem.W PySem.Calls PyProof.Rows
set_option maxRecDepth 100000 in
set_option maxHeartbeats 0 in
theorem PySem.Challenge.cw_widthwise_k61_shares_at_all_rooms_holds : PySem.Challenge.rw_widthwise_k61_shares_at_all_rooms.Holds := by
  w_on; o_law
  refine HandSHeadRun.head_any (r := OpenLaw.row PySem.Challenge.rw_widthwise_k61_shares_at_all_rooms) (q := view (OpenLaw.row PySem.Challenge.rw_widthwise_k61_shares_at_all_rooms).prog [53]) (H := Law.hk) (ob := Law.ob) (M := 9000) (loose := Law.loose) (d := HandSHeadRun.topDef (OpenLaw.row PySem.Challenge.rw_widthwise_k61_shares_at_all_rooms).prog 53) (kwd := []) Law.ob_eq
    (by kernel_rfl) (fun s => by kernel_rfl) Law.run_ok (by kernel_rfl) (by kernel_rfl) (by kernel_rfl) (by rfl) (by first | assumption | decide +kernel) (by decide +kernel) ⟨rfl, rfl, rfl, rfl, rfl, by decide +kernel⟩ ?hw ?hc
  case hw => w_witness2
  case hc =>
    refine Dw.walkG (l := PySem.Challenge.rw_widthwise_k61_shares_at_all_rooms) (k := 10) (x := "_law_script") rfl (by kernel_rfl) ⟨rfl, by decide, by decide⟩ ?F
    intro w mg fa h Y G hmg0
    obtain ⟨K, KX, c, x⟩ := Y
    have hmg : mg ("law" : PySem.Str) = some (.ref fa) := by
      have e : (HandSHeadRun.topDef (OpenLaw.row PySem.Challenge.rw_widthwise_k61_shares_at_all_rooms).prog 53).name = ("law" : PySem.Str) := by kernel_rfl
      rw [← e]
      exact hmg0
    obtain ⟨fd, hb, hF⟩ := Law.facts (P := (PySem.Challenge.rw_widthwise_k61_shares_at_all_rooms).prog) (w := w) Law.law_true KX G hmg c x
    exact ⟨K, fd, KX, hb, hF⟩
