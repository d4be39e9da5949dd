import PyProof.Rows.All
import Wide.All
import OpenK.AllK
import Wide.FinOn
import KE.KStateDown
import HandS.ForMost
import HandS.ForExc
import HandS.Wide
import HandS.Style
import HandS.Defaults
import HandS.CallSlots
import HandS.IsInst
import HandS.ExcIs
import HandS.ExcValue
import HandS.Flow
import HandS.Conv
import HandS.HeadHook2
import HandS.TupAny
import PyProof.ReprRoads
import HandS.RaiseMore
import HandS.Ends
import HandS.More
import HandS.Iter
import HandS.TryOnly
import HandS.Head0
import HandS.Head1
import HandS.Head2
import HandS.HeadEnd
import KE.KIsAll
import HandS.Codes
import KE.IntTextLaws
import PySem.Challenge.RW_widthwise_k05_whole_sets_put_together
set_option Elab.async false
set_option linter.all false
set_option maxRecDepth 100000
set_option maxHeartbeats 4000000
namespace Dw
open PySem L2
/-! ### data -/
inductive D where
  | non
  | bl (b : Bool)
  | int (i : Int)
  | str (x : Str)
  | ty (n : String)
  | tup (ds : List D)
  | lst (ds : List D)
  | kst (ds : List D)
  | dct (ks : List Key) (ds : List D)
  | obj (C : Str) (fs : List Str) (ds : List D)
  | exc (C : Str)
/-- an exception object of the class at C, caught and kept -/
def ExH (C a : Addr) : HO := .ext fun h => ∃ (oe : Obj) (vs : Array Value), h.get? a = some oe ∧ Zc (.ref C) none oe ∧ oe.data = .fields vs
mutual
inductive Dr (K : PySem.W.Frag) (H : Hp) : V → D → Prop
  | non : Dr K H .non .non
  | bl (b : Bool) : Dr K H (.bl b) (.bl b)
  | int (i : Int) : Dr K H (.int i) (.int i)
  | str (x : Str) : Dr K H (.str x) (.str x)
  | ty (n : String) : Dr K H (.ty n) (.ty n)
  | tup {a : Addr} {xs : List V} {ds : List D} : SqT K H a xs → DrAll K H xs ds → Dr K H (.ref a) (.tup ds)
  | lst {a : Addr} {xs : List V} {ds : List D} : Rd H a (.lst xs) → DrAll K H xs ds → Dr K H (.ref a) (.lst ds)
  | kst {a : Addr} {xs : List V} {ds : List D} : SqL K H a xs → DrAll K H xs ds → Dr K H (.ref a) (.kst ds)
  | dct {a : Addr} {kvs : List (Key × V)} {ds : List D} : H a = some (.dK kvs) → DrAll K H (kvs.map (·.2)) ds → Dr K H (.ref a) (.dct (kvs.map (·.1)) ds)
  | obj {a : Addr} {C : Str} {dx : Addr} {fs : List (Str × V)} {ds : List D} : H a = some (.ins (He.ga K C) dx fs) → DrAll K H (fs.map (·.2)) ds → Dr K H (.ref a) (.obj C (fs.map (·.1)) ds)
  | exc {a : Addr} {C : Str} : H a = some (ExH (He.ga K C) a) → Dr K H (.ref a) (.exc C)
inductive DrAll (K : PySem.W.Frag) (H : Hp) : List V → List D → Prop
  | nil : DrAll K H [] []
  | cons {v : V} {vs : List V} {d : D} {ds : List D} : Dr K H v d → DrAll K H vs ds → DrAll K H (v :: vs) (d :: ds)
end
section
variable {K : PySem.W.Frag} {H H' : Hp}
theorem rd_mono {a : Addr} {o : HO} (e : Same H H') (h : Rd H a o) : Rd H' a o := by
  rcases h with h | ⟨u, h⟩
  · exact .inl (e _ _ h)
  · exact .inr ⟨u, e _ _ h⟩
theorem sqT_mono {a : Addr} {xs : List V} (e : Same H H') (h : SqT K H a xs) : SqT K H' a xs := by
  rcases h with (h | ⟨o, h⟩) | h
  · exact .inl (.inl (e _ _ h))
  · exact .inl (.inr ⟨o, e _ _ h⟩)
  · exact .inr h
mutual
theorem Dr.mono (e : Same H H') : ∀ (d : D) {v : V}, Dr K H v d → Dr K H' v d
  | .non, _, h => by cases h; exact .non
  | .bl b, _, h => by cases h; exact .bl b
  | .int i, _, h => by cases h; exact .int i
  | .str x, _, h => by cases h; exact .str x
  | .ty n, _, h => by cases h; exact .ty n
  | .tup ds, _, h => by
    cases h with
    | tup q r => exact .tup (sqT_mono e q) (DrAll.mono e ds r)
  | .lst ds, _, h => by
    cases h with
    | lst q r => exact .lst (rd_mono e q) (DrAll.mono e ds r)
  | .kst ds, _, h => by
    cases h with
    | kst q r => exact .kst (e.seq q) (DrAll.mono e ds r)
  | .dct ks ds, _, h => by
    cases h with
    | dct q r => exact .dct (e _ _ q) (DrAll.mono e ds r)
  | .obj C fs ds, _, h => by
    cases h with
    | obj q r => exact .obj (e _ _ q) (DrAll.mono e ds r)
  | .exc C, _, h => by
    cases h with
    | exc q => exact .exc (e _ _ q)
theorem DrAll.mono (e : Same H H') : ∀ (ds : List D) {vs : List V}, DrAll K H vs ds → DrAll K H' vs ds
  | [], _, h => by cases h; exact .nil
  | d :: ds, _, h => by
    cases h with
    | cons h1 h2 => exact .cons (Dr.mono e d h1) (DrAll.mono e ds h2)
end
theorem DrAll.length : ∀ {vs : List V} {ds : List D}, DrAll K H vs ds → vs.length = ds.length
  | _, _, .nil => rfl
  | _, _, .cons _ t => congrArg (· + 1) (DrAll.length t)
theorem DrAll.get : ∀ {vs : List V} {ds : List D} {i : Nat} {d : D}, DrAll K H vs ds → ds[i]? = some d → ∃ v, vs[i]? = some v ∧ Dr K H v d
  | _, _, _, _, .nil, e => by simp at e
  | _, _, 0, _, .cons r _, e => by simp at e; subst e; exact ⟨_, rfl, r⟩
  | _, _, i + 1, d, .cons _ t, e => by
    obtain ⟨v, h1, h2⟩ := DrAll.get (i := i) (d := d) t (by simpa using e)
    exact ⟨v, by simpa using h1, h2⟩
theorem DrAll.getV : ∀ {vs : List V} {ds : List D} {i : Nat} {v : V}, DrAll K H vs ds → vs[i]? = some v → ∃ d, ds[i]? = some d ∧ Dr K H v d
  | _, _, _, _, .nil, e => by simp at e
  | _, _, 0, _, .cons r _, e => by simp at e; subst e; exact ⟨_, rfl, r⟩
  | _, _, i + 1, v, .cons _ t, e => by
    obtain ⟨d, h1, h2⟩ := DrAll.getV (i := i) (v := v) t (by simpa using e)
    exact ⟨d, by simpa using h1, h2⟩
theorem DrAll.append : ∀ {vs ws : List V} {ds es : List D}, DrAll K H vs ds → DrAll K H ws es → DrAll K H (vs ++ ws) (ds ++ es)
  | _, _, _, _, .nil, h => h
  | _, _, _, _, .cons r t, h => .cons r (DrAll.append t h)
theorem DrAll.set {v : V} {d : D} (r : Dr K H v d) : ∀ {vs : List V} {ds : List D} (i : Nat), DrAll K H vs ds → DrAll K H (vs.set i v) (ds.set i d)
  | _, _, _, .nil => .nil
  | _, _, 0, .cons _ t => .cons r t
  | _, _, i + 1, .cons q t => .cons q (DrAll.set r i t)
theorem DrAll.take : ∀ {vs : List V} {ds : List D} (n : Nat), DrAll K H vs ds → DrAll K H (vs.take n) (ds.take n)
  | _, _, 0, _ => .nil
  | _, _, _ + 1, .nil => .nil
  | _, _, n + 1, .cons r t => .cons r (DrAll.take n t)
theorem DrAll.drop : ∀ {vs : List V} {ds : List D} (n : Nat), DrAll K H vs ds → DrAll K H (vs.drop n) (ds.drop n)
  | _, _, 0, r => r
  | _, _, _ + 1, .nil => .nil
  | _, _, n + 1, .cons _ t => DrAll.drop n t
theorem DrAll.rev : ∀ {vs : List V} {ds : List D}, DrAll K H vs ds → DrAll K H vs.reverse ds.reverse
  | _, _, .nil => .nil
  | _, _, .cons r t => by
    rw [List.reverse_cons, List.reverse_cons]
    exact (DrAll.rev t).append (.cons r .nil)
theorem DrAll.rep {vs : List V} {ds : List D} (h : DrAll K H vs ds) : ∀ n : Nat, DrAll K H (List.replicate n vs).flatten (List.replicate n ds).flatten
  | 0 => .nil
  | n + 1 => by
    rw [List.replicate_succ, List.replicate_succ, List.flatten_cons, List.flatten_cons]
    exact h.append (h.rep n)
/-- without lists and dicts (and objects): what no store can touch -/
def D.flat : D → Bool
  | .tup ds => flats ds
  | .lst _ => false
  | .kst _ => false
  | .dct _ _ => false
  | .obj _ _ _ => false
  | .exc _ => false
  | _ => true
where flats : List D → Bool
  | [] => true
  | d :: ds => d.flat && flats ds
/-- what may be of one's own: lists, dicts with tuples for keys -/
def Ownk : HO → Prop
  | .lst _ => True
  | .dT _ => True
  | _ => False
/-- lists taken out of the heap: flat data stand -/
theorem sqT_cut {G : Hp} {a : Addr} {xs : List V} (e : ∀ b o, H b = some o → ¬ Ownk o → G b = some o) (h : SqT K H a xs) : SqT K G a xs := by
  rcases h with (h | ⟨o, h⟩) | h
  · exact .inl (.inl (e _ _ h fun z => z.elim))
  · exact .inl (.inr ⟨o, e _ _ h fun z => z.elim⟩)
  · exact .inr h
mutual
theorem Dr.cut {G : Hp} (e : ∀ b o, H b = some o → ¬ Ownk o → G b = some o) : ∀ (d : D) {v : V}, d.flat = true → Dr K H v d → Dr K G v d
  | .non, _, _, h => by cases h; exact .non
  | .bl b, _, _, h => by cases h; exact .bl b
  | .int i, _, _, h => by cases h; exact .int i
  | .str x, _, _, h => by cases h; exact .str x
  | .ty n, _, _, h => by cases h; exact .ty n
  | .tup ds, _, f, h => by
    cases h with
    | tup q r => exact .tup (sqT_cut e q) (DrAll.cut e ds f r)
  | .lst ds, _, f, _ => by cases f
  | .kst ds, _, f, _ => by cases f
  | .dct ks ds, _, f, _ => by cases f
  | .obj C fs ds, _, f, _ => by cases f
  | .exc C, _, f, _ => by cases f
theorem DrAll.cut {G : Hp} (e : ∀ b o, H b = some o → ¬ Ownk o → G b = some o) : ∀ (ds : List D) {vs : List V}, D.flat.flats ds = true → DrAll K H vs ds → DrAll K G vs ds
  | [], _, _, h => by cases h; exact .nil
  | d :: ds, _, f, h => by
    cases h with
    | cons h1 h2 =>
      have f' := Bool.and_eq_true_iff.mp (show (d.flat && D.flat.flats ds) = true from f)
      exact .cons (Dr.cut e d f'.1 h1) (DrAll.cut e ds f'.2 h2)
end
end
/-! ### heaps: what is known (H0) of what stands (H) -/
structure Stp (H0 H H0' H' : Hp) : Prop where
  e0 : Same H0 H0'
  e : Same H H'
  k : Same H0' H'
  n : ∀ a o, H0 a = none → H a = some o → Ownk o → H0' a = none
theorem Stp.refl {H0 H : Hp} (h : Same H0 H) : Stp H0 H H0 H := ⟨Same.refl _, Same.refl _, h, fun _ _ z _ _ => z⟩
theorem Stp.trans {H0 H H1 G H2 J : Hp} (a : Stp H0 H H1 G) (b : Stp H1 G H2 J) : Stp H0 H H2 J :=
  ⟨a.e0.trans b.e0, a.e.trans b.e, b.k, fun c o z w u => b.n c o (a.n c o z w u) (a.e c o w) u⟩
theorem Same.new {H : Hp} {p : Addr} {o : HO} (h : H p = none) : Same H (upd H p o) := fun a u e => by
  rw [upd_ne (ne_of_none e h)]
  exact e
/-- a new thing that is known, a new thing of one's own -/
theorem Stp.new {H0 H : Hp} {p : Addr} {o : HO} (h : Same H0 H) (hp : H p = none) : Stp H0 H (upd H0 p o) (upd H p o) :=
  ⟨Same.new (h.free hp), Same.new hp, fun a u e => by
    by_cases q : a = p
    · subst q; rw [upd_same] at e ⊢; exact e
    · rw [upd_ne q] at e ⊢; exact h a u e, fun a u z w _ => by rw [upd_ne (ne_of_none w hp)]; exact z⟩
theorem Stp.own {H0 H : Hp} {p : Addr} {o : HO} (h : Same H0 H) (hp : H p = none) : Stp H0 H H0 (upd H p o) :=
  ⟨Same.refl _, Same.new hp, h.trans (Same.new hp), fun _ _ z _ _ => z⟩
/-! ### a def's slots -/
inductive Sl where
  | un
  | pu (d : D)
  | ow (ds : List D)
  | oo (dss : List (List D))
  | od (ks : List (List Key))
  | nt (ds : List D)
/-- lists of one's own, at ps -/
inductive OoAll (K : PySem.W.Frag) (H0 H : Hp) : List Addr → List (List D) → Prop
  | nil : OoAll K H0 H [] []
  | cons {p : Addr} {ps : List Addr} {vs : List V} {ds : List D} {dss : List (List D)} : H p = some (.lst vs) → DrAll K H0 vs ds → OoAll K H0 H ps dss → OoAll K H0 H (p :: ps) (ds :: dss)
def dictHO (ks : List (List Key)) : HO := .dT (ks.map fun k => (k, V.bl true))
/-- what a slot owns: f are the places -/
def OwnO (K : PySem.W.Frag) (H0 H : Hp) (s : Option Sl) (x : Option (Option V)) (f : List Addr) : Prop := match s with
  | some (.ow ds) => ∃ p vs, x = some (some (.ref p)) ∧ f = [p] ∧ H p = some (.lst vs) ∧ DrAll K H0 vs ds
  | some (.oo dss) => ∃ p ps, x = some (some (.ref p)) ∧ f = p :: ps ∧ (p :: ps).Nodup ∧ H p = some (.lst (ps.map V.ref)) ∧ OoAll K H0 H ps dss
  | some (.od ks) => ∃ p, x = some (some (.ref p)) ∧ f = [p] ∧ H p = some (dictHO ks)
  | _ => f = []
section
variable {K : PySem.W.Frag} {H0 H H0' H' : Hp}
theorem OoAll.mono (e0 : Same H0 H0') : ∀ {ps : List Addr} {dss : List (List D)}, (∀ a ∈ ps, ∀ o, H a = some o → H' a = some o) → OoAll K H0 H ps dss → OoAll K H0' H' ps dss
  | _, _, _, .nil => .nil
  | _, _, e, .cons h r t => .cons (e _ List.mem_cons_self _ h) (r.mono e0) (OoAll.mono e0 (fun a ha => e a (List.mem_cons_of_mem _ ha)) t)
theorem OoAll.there : ∀ {ps : List Addr} {dss : List (List D)} {a : Addr}, OoAll K H0 H ps dss → a ∈ ps → ∃ vs, H a = some (.lst vs)
  | _, _, _, .nil, h => nomatch h
  | _, _, a, .cons (p := p) h r t, hm => by
    rcases List.mem_cons.mp hm with e | hm
    · subst e; exact ⟨_, h⟩
    · exact OoAll.there t hm
theorem OwnO.mono {s : Option Sl} {x : Option (Option V)} {f : List Addr} (h : OwnO K H0 H s x f) (e0 : Same H0 H0') (e : ∀ a ∈ f, ∀ o, H a = some o → H' a = some o) : OwnO K H0' H' s x f := by
  match s, h with
  | some (.ow ds), ⟨p, vs, a, b, c, d⟩ =>
    subst b
    exact ⟨p, vs, a, rfl, e p List.mem_cons_self _ c, d.mono e0⟩
  | some (.oo dss), ⟨p, ps, a, b, nd, c, d⟩ =>
    subst b
    exact ⟨p, ps, a, rfl, nd, e p List.mem_cons_self _ c, d.mono e0 fun b hb => e b (List.mem_cons_of_mem _ hb)⟩
  | some (.od ks), ⟨p, a, b, c⟩ =>
    subst b
    exact ⟨p, a, rfl, e p List.mem_cons_self _ c⟩
  | some .un, h => exact h
  | some (.pu _), h => exact h
  | some (.nt _), h => exact h
  | none, h => exact h
theorem OwnO.there {s : Option Sl} {x : Option (Option V)} {f : List Addr} {a : Addr} (h : OwnO K H0 H s x f) (m : a ∈ f) : ∃ o, H a = some o ∧ Ownk o := by
  match s, h with
  | some (.ow ds), ⟨p, vs, a, b, c, d⟩ =>
    subst b
    rw [List.mem_singleton.mp m]
    exact ⟨_, c, trivial⟩
  | some (.oo dss), ⟨p, ps, a, b, nd, c, d⟩ =>
    subst b
    rcases List.mem_cons.mp m with e | m
    · rw [e]; exact ⟨_, c, trivial⟩
    · obtain ⟨vs, q⟩ := d.there m
      exact ⟨_, q, trivial⟩
  | some (.od ks), ⟨p, a, b, c⟩ =>
    subst b
    rw [List.mem_singleton.mp m]
    exact ⟨_, c, trivial⟩
  | some .un, h => subst h; cases m
  | some (.pu _), h => subst h; cases m
  | some (.nt _), h => subst h; cases m
  | none, h => subst h; cases m
end
structure OwnF (K : PySem.W.Frag) (G H0 H : Hp) (δ : List Sl) (σ : L2.St) (fp : Nat → List Addr) : Prop where
  s : ∀ i, OwnO K H0 H (δ[i]?) (σ[i]?) (fp i)
  d : ∀ i j a, a ∈ fp i → a ∈ fp j → i = j
  n : ∀ i a, a ∈ fp i → G a = none ∧ H0 a = none
/-- a tuple that stands in the heap as such -/
def TupK (K : PySem.W.Frag) (H0 : Hp) (v : V) (ds : List D) : Prop := ∃ a vs, v = .ref a ∧ H0 a = some (.tup vs) ∧ DrAll K H0 vs ds
theorem TupK.mono {K : PySem.W.Frag} {H0 H0' : Hp} {v : V} {ds : List D} (h : TupK K H0 v ds) (e : Same H0 H0') : TupK K H0' v ds := by
  obtain ⟨a, vs, b, c, d⟩ := h
  exact ⟨a, vs, b, e _ _ c, d.mono e⟩
theorem TupK.dr {K : PySem.W.Frag} {H0 : Hp} {v : V} {ds : List D} (h : TupK K H0 v ds) : Dr K H0 v (.tup ds) := by
  obtain ⟨a, vs, rfl, c, d⟩ := h
  exact .tup (.inl (.inl c)) d
/-- G0, G: what was known and stood at the def's entry -/
structure Rel (K : PySem.W.Frag) (G0 G : Hp) (δ : List Sl) (σ : L2.St) (H0 H : Hp) : Prop where
  st : Stp G0 G H0 H
  len : σ.length = δ.length
  pu : ∀ (i : Nat) (d : D), δ[i]? = some (.pu d) → ∃ v, σ[i]? = some (some v) ∧ Dr K H0 v d
  nt : ∀ (i : Nat) (ds : List D), δ[i]? = some (.nt ds) → ∃ v, σ[i]? = some (some v) ∧ TupK K H0 v ds
  own : ∃ fp, OwnF K G H0 H δ σ fp
section
variable {K : PySem.W.Frag} {G0 G H0 H H0' H' : Hp} {δ : List Sl} {σ : L2.St}
theorem Rel.same (r : Rel K G0 G δ σ H0 H) : Same H0 H := r.st.k
theorem Rel.ow (r : Rel K G0 G δ σ H0 H) (i : Nat) (ds : List D) (e : δ[i]? = some (.ow ds)) : ∃ p vs, σ[i]? = some (some (.ref p)) ∧ G p = none ∧ H0 p = none ∧ H p = some (.lst vs) ∧ DrAll K H0 vs ds := by
  obtain ⟨fp, o⟩ := r.own
  have z := o.s i
  rw [e] at z
  obtain ⟨p, vs, a, b, c, d⟩ := z
  have n := o.n i p (by rw [b]; exact List.mem_cons_self)
  exact ⟨p, vs, a, n.1, n.2, c, d⟩
theorem OwnF.step {fp : Nat → List Addr} (o : OwnF K G H0 H δ σ fp) (s : Stp H0 H H0' H') : OwnF K G H0' H' δ σ fp :=
  ⟨fun i => (o.s i).mono s.e0 fun a _ u z => s.e a u z, o.d, fun i a m => by
    obtain ⟨u, h1, h2⟩ := (o.s i).there m
    exact ⟨(o.n i a m).1, s.n a u (o.n i a m).2 h1 h2⟩⟩
theorem Rel.step (r : Rel K G0 G δ σ H0 H) (s : Stp H0 H H0' H') : Rel K G0 G δ σ H0' H' where
  st := r.st.trans s
  len := r.len
  pu := fun i d e => by
    obtain ⟨v, a, b⟩ := r.pu i d e
    exact ⟨v, a, b.mono s.e0⟩
  nt := fun i d e => by
    obtain ⟨v, a, b⟩ := r.nt i d e
    exact ⟨v, a, b.mono s.e0⟩
  own := by
    obtain ⟨fp, o⟩ := r.own
    exact ⟨fp, o.step s⟩
theorem set_get {α : Type} {l : List α} {i j : Nat} {x y : α} (h : (l.set i x)[j]? = some y) : (i = j ∧ x = y ∧ i < l.length) ∨ (i ≠ j ∧ l[j]? = some y) := by
  by_cases e : i = j
  · subst e
    by_cases hl : i < l.length
    · rw [List.getElem?_set_self hl] at h
      exact .inl ⟨rfl, Option.some.inj h, hl⟩
    · rw [List.getElem?_eq_none (by simpa using hl)] at h
      cases h
  · rw [List.getElem?_set_ne e] at h
    exact .inr ⟨e, h⟩
/-- slot i is set, and owns what lies at f -/
theorem OwnF.set {fp : Nat → List Addr} (o : OwnF K G H0 H δ σ fp) (len : σ.length = δ.length) {i : Nat} {s : Sl} {x : Option V} {f : List Addr} (h : OwnO K H0 H (some s) (some x) f) (nf : ∀ a ∈ f, G a = none ∧ H0 a = none) (nw : ∀ a ∈ f, ∀ j, j ≠ i → a ∉ fp j) :
    OwnF K G H0 H (δ.set i s) (σ.set i x) (fun j => if j = i then (if i < δ.length then f else []) else fp j) := by
  refine ⟨fun j => ?_, fun j k a h1 h2 => ?_, fun j a h1 => ?_⟩
  · by_cases e : j = i
    · subst e
      show OwnO K H0 H _ _ (if j = j then _ else _)
      rw [if_pos rfl]
      by_cases hl : j < δ.length
      · rw [if_pos hl, List.getElem?_set_self hl, List.getElem?_set_self (by rw [len]; exact hl)]
        exact h
      · rw [if_neg hl, List.getElem?_eq_none (by rw [List.length_set]; exact Nat.le_of_not_lt hl)]
        exact rfl
    · show OwnO K H0 H _ _ (if j = i then _ else _)
      rw [if_neg e, List.getElem?_set_ne (Ne.symm e), List.getElem?_set_ne (Ne.symm e)]
      exact o.s j
  · have q : ∀ {j}, a ∈ (if j = i then (if i < δ.length then f else []) else fp j) → (j = i ∧ a ∈ f) ∨ (j ≠ i ∧ a ∈ fp j) := fun {j} h => by
      by_cases e : j = i
      · rw [if_pos e] at h
        split at h
        · exact .inl ⟨e, h⟩
        · cases h
      · rw [if_neg e] at h
        exact .inr ⟨e, h⟩
    rcases q h1 with ⟨e1, m1⟩ | ⟨e1, m1⟩
    · rcases q h2 with ⟨e2, m2⟩ | ⟨e2, m2⟩
      · rw [e1, e2]
      · exact absurd m2 (nw a m1 k e2)
    · rcases q h2 with ⟨e2, m2⟩ | ⟨e2, m2⟩
      · exact absurd m1 (nw a m2 j e1)
      · exact o.d j k a m1 m2
  · have h1' : a ∈ (if j = i then (if i < δ.length then f else []) else fp j) := h1
    by_cases e : j = i
    · rw [if_pos e] at h1'
      split at h1'
      · exact nf a h1'
      · cases h1'
    · rw [if_neg e] at h1'
      exact o.n j a h1'
theorem Rel.setX (r : Rel K G0 G δ σ H0 H) {i : Nat} {s : Sl} {x : Option V} {f : List Addr} {fp : Nat → List Addr} (o : OwnF K G H0 H δ σ fp) (h : OwnO K H0 H (some s) (some x) f) (nf : ∀ a ∈ f, G a = none ∧ H0 a = none) (nw : ∀ a ∈ f, ∀ j, j ≠ i → a ∉ fp j)
    (hp : ∀ d, s = .pu d → ∃ v, x = some v ∧ Dr K H0 v d) (ht : ∀ d, s = .nt d → ∃ v, x = some v ∧ TupK K H0 v d) : Rel K G0 G (δ.set i s) (σ.set i x) H0 H where
  st := r.st
  len := by rw [List.length_set, List.length_set]; exact r.len
  pu := fun j e q => by
    rcases set_get q with ⟨rfl, z, hl⟩ | ⟨ne, z⟩
    · obtain ⟨v, rfl, dv⟩ := hp e z
      exact ⟨v, List.getElem?_set_self (by rw [r.len]; exact hl), dv⟩
    · rw [List.getElem?_set_ne ne]; exact r.pu j e z
  nt := fun j e q => by
    rcases set_get q with ⟨rfl, z, hl⟩ | ⟨ne, z⟩
    · obtain ⟨v, rfl, dv⟩ := ht e z
      exact ⟨v, List.getElem?_set_self (by rw [r.len]; exact hl), dv⟩
    · rw [List.getElem?_set_ne ne]; exact r.nt j e z
  own := ⟨_, o.set r.len h nf nw⟩
/-- a slot is set to a known thing -/
theorem Rel.setP (r : Rel K G0 G δ σ H0 H) {i : Nat} {v : V} {d : D} (h : Dr K H0 v d) : Rel K G0 G (δ.set i (.pu d)) (σ.set i (some v)) H0 H := by
  obtain ⟨fp, o⟩ := r.own
  exact r.setX (f := []) o rfl (fun _ m => nomatch m) (fun _ m => nomatch m) (fun d' e => by cases e; exact ⟨v, rfl, h⟩) fun _ e => nomatch e
theorem Rel.setT (r : Rel K G0 G δ σ H0 H) {i : Nat} {v : V} {ds : List D} (h : TupK K H0 v ds) : Rel K G0 G (δ.set i (.nt ds)) (σ.set i (some v)) H0 H := by
  obtain ⟨fp, o⟩ := r.own
  exact r.setX (f := []) o rfl (fun _ m => nomatch m) (fun _ m => nomatch m) (fun _ e => nomatch e) fun d' e => by cases e; exact ⟨v, rfl, h⟩
/-- .. to a list of one's own: p is new, or no other slot's -/
theorem Rel.setO (r : Rel K G0 G δ σ H0 H) {i : Nat} {p : Addr} {vs : List V} {ds : List D} {fp : Nat → List Addr} (o : OwnF K G H0 H δ σ fp) (g : G p = none) (n : H0 p = none) (h : H p = some (.lst vs)) (q : DrAll K H0 vs ds)
    (nw : ∀ j, p ∉ fp j) : Rel K G0 G (δ.set i (.ow ds)) (σ.set i (some (.ref p))) H0 H :=
  r.setX (f := [p]) o ⟨p, vs, rfl, rfl, h, q⟩ (fun a m => by rw [List.mem_singleton.mp m]; exact ⟨g, n⟩) (fun a m j _ => by rw [List.mem_singleton.mp m]; exact nw j) (fun _ e => nomatch e) fun _ e => nomatch e
theorem Rel.setU (r : Rel K G0 G δ σ H0 H) {i : Nat} : Rel K G0 G (δ.set i .un) (σ.set i none) H0 H := by
  obtain ⟨fp, o⟩ := r.own
  exact r.setX (f := []) o rfl (fun _ m => nomatch m) (fun _ m => nomatch m) (fun _ e => nomatch e) fun _ e => nomatch e
/-- what a slot owns is changed -/
theorem Rel.putX (r : Rel K G0 G δ σ H0 H) {i : Nat} {s s' : Sl} {H' : Hp} {fp : Nat → List Addr} (o : OwnF K G H0 H δ σ fp) (hi : δ[i]? = some s) (h : ∀ a, a ∉ fp i → H' a = H a) (new : OwnO K H0 H' (some s') (σ[i]?) (fp i)) (np : ∀ d, s' ≠ .pu d) (nn : ∀ d, s' ≠ .nt d) : Rel K G0 G (δ.set i s') σ H0 H' := by
  have hl : i < δ.length := (List.getElem?_eq_some_iff.mp hi).1
  have out : ∀ a, (G a ≠ none ∨ H0 a ≠ none) → H' a = H a := fun a c => h a fun m => by
    obtain ⟨n1, n2⟩ := o.n i a m
    rcases c with c | c
    · exact c n1
    · exact c n2
  refine ⟨⟨r.st.e0, fun c u e => ?_, fun c u e => ?_, r.st.n⟩, by rw [List.length_set]; exact r.len, fun j d z => ?_, fun j d z => ?_, fp, ⟨fun j => ?_, o.d, o.n⟩⟩
  · rw [out c (.inl (by rw [e]; exact fun z => nomatch z))]; exact r.st.e c u e
  · rw [out c (.inr (by rw [e]; exact fun z => nomatch z))]; exact r.st.k c u e
  · rcases set_get z with ⟨rfl, z, _⟩ | ⟨ne, z⟩
    · exact absurd z (np d)
    · exact r.pu j d z
  · rcases set_get z with ⟨rfl, z, _⟩ | ⟨ne, z⟩
    · exact absurd z (nn d)
    · exact r.nt j d z
  · by_cases e : i = j
    · subst e
      rw [List.getElem?_set_self hl]
      exact new
    · rw [List.getElem?_set_ne e]
      refine (o.s j).mono (Same.refl _) fun a m u z => ?_
      rw [h a fun m2 => e (o.d i j a m2 m)]
      exact z
/-- an own list's content is changed -/
theorem Rel.put (r : Rel K G0 G δ σ H0 H) {i : Nat} {p : Addr} {ds es : List D} {ws : List V} (hi : δ[i]? = some (.ow ds)) (hs : σ[i]? = some (some (.ref p))) (q : DrAll K H0 ws es) : Rel K G0 G (δ.set i (.ow es)) σ H0 (upd H p (.lst ws)) := by
  obtain ⟨fp, o⟩ := r.own
  have z := o.s i
  rw [hi] at z
  obtain ⟨p', vs, a, b, c, d⟩ := z
  rw [a] at hs
  cases hs
  exact r.putX o hi (fun a m => upd_ne fun e => m (by rw [b, e]; exact List.mem_cons_self)) ⟨p, ws, a, b, upd_same, q⟩ (fun _ e => nomatch e) fun _ e => nomatch e
/-- an own list becomes known (and is never stored into again) -/
theorem Rel.freeze (r : Rel K G0 G δ σ H0 H) {i : Nat} {ds : List D} (hi : δ[i]? = some (.ow ds)) : ∃ J0, Same H0 J0 ∧ Rel K G0 G (δ.set i (.pu (.lst ds))) σ J0 H := by
  obtain ⟨fp, o⟩ := r.own
  have z := o.s i
  rw [hi] at z
  obtain ⟨p, vs, a, f, h, b⟩ := z
  have hl : i < δ.length := (List.getElem?_eq_some_iff.mp hi).1
  have mp : p ∈ fp i := by rw [f]; exact List.mem_cons_self
  obtain ⟨g, n⟩ := o.n i p mp
  have e0 : Same H0 (upd H0 p (.lst vs)) := Same.new n
  have hq : (σ.set i (some (V.ref p))) = σ := by
    apply List.ext_getElem?
    intro j
    by_cases e : i = j
    · subst e
      rw [List.getElem?_set_self (by rw [r.len]; exact hl), a]
    · rw [List.getElem?_set_ne e]
  have o1 : OwnF K G (upd H0 p (.lst vs)) H (δ.set i .un) σ (fun j => if j = i then [] else fp j) := by
    refine ⟨fun j => ?_, fun j k c h1 h2 => ?_, fun j c h1 => ?_⟩
    · by_cases e : j = i
      · subst e
        rw [List.getElem?_set_self hl]
        show (if j = j then [] else fp j) = []
        rw [if_pos rfl]
      · rw [List.getElem?_set_ne (Ne.symm e)]
        show OwnO K _ H _ _ (if j = i then [] else fp j)
        rw [if_neg e]
        exact (o.s j).mono e0 fun _ _ _ z => z
    · have h1' : c ∈ (if j = i then [] else fp j) := h1
      have h2' : c ∈ (if k = i then [] else fp k) := h2
      split at h1'
      · cases h1'
      · split at h2'
        · cases h2'
        · exact o.d j k c h1' h2'
    · have h1' : c ∈ (if j = i then [] else fp j) := h1
      split at h1'
      · cases h1'
      · rename_i e
        have ne : c ≠ p := fun z => e (o.d j i c h1' (by rw [z]; exact mp))
        rw [upd_ne ne]
        exact o.n j c h1'
  have r1 : Rel K G0 G (δ.set i .un) σ (upd H0 p (.lst vs)) H := by
    refine ⟨⟨r.st.e0.trans e0, r.st.e, fun c o e => ?_, fun c o z w u => ?_⟩, by rw [List.length_set]; exact r.len, fun j d z => ?_, fun j d z => ?_, _, o1⟩
    · by_cases q : c = p
      · subst q; rw [upd_same] at e; rw [h]; exact e
      · rw [upd_ne q] at e; exact r.st.k c o e
    · rw [upd_ne (ne_of_none w g)]; exact r.st.n c o z w u
    · rcases set_get z with ⟨rfl, z, _⟩ | ⟨ne, z⟩
      · cases z
      · obtain ⟨v, a2, b2⟩ := r.pu j d z
        exact ⟨v, a2, b2.mono e0⟩
    · rcases set_get z with ⟨rfl, z, _⟩ | ⟨ne, z⟩
      · cases z
      · obtain ⟨v, a2, b2⟩ := r.nt j d z
        exact ⟨v, a2, b2.mono e0⟩
  have r2 := r1.setP (i := i) (v := .ref p) (d := .lst ds) (.lst (.inl upd_same) (b.mono e0))
  rw [List.set_set, hq] at r2
  exact ⟨_, e0, r2⟩
end
end Dw
namespace Dw
open PySem L2
/-! ### answers -/
inductive R (α : Type) where
  | ok (a : α)
  | ex (C : Str)
  | no
def R.bind {α β : Type} : R α → (α → R β) → R β
  | .ok a, f => f a
  | .ex C, _ => .ex C
  | .no, _ => .no
abbrev Sat (α β : Type) := Hp → Hp → Hp → β → α → Prop
def Post {α β : Type} (K : PySem.W.Frag) (W : WX) (σ : L2.St) (H0 H : Hp) (S : Sat α β) (r : R α) (Q : β → Hp → Prop) : Prop :=
  match r with
  | .ok a => ∀ H0' H' b, Stp H0 H H0' H' → S H H0' H' b a → Q b H'
  | .ex C => ∀ H0' H', Stp H0 H H0' H' → W (.ref (He.ga K C)) none σ H'
  | .no => False
def Down {α β : Type} (S : Sat α β) : Prop := ∀ Hs Hs' H0 H b a, Same Hs Hs' → S Hs' H0 H b a → S Hs H0 H b a
section
variable {α β γ ξ : Type} {K : PySem.W.Frag} {W : WX} {σ : L2.St} {H0 H H0' H' : Hp} {S : Sat α β} {r : R α} {Q Q' : β → Hp → Prop}
theorem Post.mono (hS : Down S) (h : Post K W σ H0 H S r Q) (st : Stp H0 H H0' H') : Post K W σ H0' H' S r Q := by
  cases r with
  | ok a => exact fun A B b s q => h A B b (st.trans s) (hS _ _ _ _ _ _ st.e q)
  | ex C => exact fun A B s => h A B (st.trans s)
  | no => exact h
theorem Post.imp (h : Post K W σ H0 H S r Q) (k : ∀ b G, Q b G → Q' b G) : Post K W σ H0 H S r Q' := by
  cases r with
  | ok a => exact fun A B b s q => k _ _ (h A B b s q)
  | ex C => exact h
  | no => exact h
theorem Post.here {a : α} {b : β} (h : Post K W σ H0 H S (.ok a) Q) (e : Same H0 H) (s : S H H0 H b a) : Q b H := h H0 H b (Stp.refl e) s
end
/-- t evaluates as c tells -/
def Ev {α β : Type} (K : PySem.W.Frag) (W : WX) (S : Sat α β) (t : L2.St → Hp → (β → Hp → Prop) → Prop) (c : List Sl → R α) : Prop :=
  ∀ G0 G δ σ H0 H Q, Rel K G0 G δ σ H0 H → Post K W σ H0 H S (c δ) Q → t σ H Q
section
variable {α β γ ξ : Type} {K : PySem.W.Frag} {W : WX} {Sa : Sat α β} {Sc : Sat ξ γ}
theorem Ev.bind (hc : Down Sc) {ta : L2.St → Hp → (β → Hp → Prop) → Prop} {ca : List Sl → R α} (ha : Ev K W Sa ta ca) {k : β → L2.St → Hp → (γ → Hp → Prop) → Prop} {f : α → List Sl → R ξ}
    (hk : ∀ a b G0 G δ σ Hs H0 H Q, Rel K G0 G δ σ H0 H → Sa Hs H0 H b a → Post K W σ H0 H Sc (f a δ) Q → k b σ H Q) : Ev K W Sc (fun σ H Q => ta σ H fun x H1 => k x σ H1 Q) (fun δ => (ca δ).bind fun a => f a δ) := by
  intro G0 G δ σ H0 H Q r p
  have p' : Post K W σ H0 H Sc ((ca δ).bind fun a => f a δ) Q := p
  refine ha G0 G δ σ H0 H _ r ?_
  cases e : ca δ with
  | ok a =>
    rw [e] at p'
    exact fun A B b s q => hk a b G0 G δ σ H A B Q (r.step s) q (Post.mono hc p' s)
  | ex C =>
    rw [e] at p'
    exact p'
  | no =>
    rw [e] at p'
    exact p'
end
/-! ### the four kinds: values, tests, argument lists, new lists -/
def SV (K : PySem.W.Frag) : Sat D V := fun _ H0 _ v d => Dr K H0 v d
def SB : Sat Bool Bool := fun _ _ _ b a => b = a
def SA (K : PySem.W.Frag) : Sat (List D) (List V) := fun _ H0 _ vs ds => DrAll K H0 vs ds
def SW (K : PySem.W.Frag) : Sat (List D) V := fun Hs H0 H v ds => ∃ p vs, v = .ref p ∧ Hs p = none ∧ H0 p = none ∧ H p = some (.lst vs) ∧ DrAll K H0 vs ds
theorem downV {K : PySem.W.Frag} : Down (SV K) := fun _ _ _ _ _ _ _ h => h
theorem downB : Down SB := fun _ _ _ _ _ _ _ h => h
theorem downA {K : PySem.W.Frag} : Down (SA K) := fun _ _ _ _ _ _ _ h => h
theorem downW {K : PySem.W.Frag} : Down (SW K) := fun _ _ _ _ _ _ e ⟨p, vs, a, n, h⟩ => ⟨p, vs, a, e.free n, h⟩
abbrev C := List Sl → R D
abbrev CB := List Sl → R Bool
abbrev CA := List Sl → R (List D)
def SE (X : Cx) (W : WX) (e : Expr) (c : C) : Prop := ∃ t, PE X e t ∧ Ev X.K W (SV X.K) t c
def ST (X : Cx) (W : WX) (e : Expr) (c : CB) : Prop := ∃ t, PT X e t ∧ Ev X.K W SB t c
def SL (X : Cx) (W : WX) (es : List Expr) (c : CA) : Prop := ∃ t, PA X es t ∧ Ev X.K W (SA X.K) t c
def SN (X : Cx) (W : WX) (e : Expr) (c : CA) : Prop := ∃ t, PE X e t ∧ Ev X.K W (SW X.K) t c
/-- a closure that stops always is right -/
theorem se_no {X : Cx} {W : WX} {e : Expr} {c : C} (t : TE) (h : PE X e t) (hc : ∀ δ, c δ = .no) : SE X W e c := ⟨t, h, fun _ _ δ _ _ _ _ _ p => by
  have z : Post _ _ _ _ _ _ (c δ) _ := p
  rw [hc δ] at z
  exact z.elim⟩
theorem pe_never {X : Cx} {e : Expr} : PE X e (fun _ _ _ => False) := ⟨fun _ _ _ _ _ _ h => h.elim⟩
theorem pt_never {X : Cx} {e : Expr} : PT X e (fun _ _ _ => False) := ⟨fun _ _ _ _ _ _ h => h.elim⟩
theorem pa_never {X : Cx} {e : List Expr} : PA X e (fun _ _ _ => False) := ⟨fun _ _ _ _ _ _ _ h => h.elim⟩
def cNo : C := fun _ => .no
def cNoB : CB := fun _ => .no
def cNoA : CA := fun _ => .no
section
variable {X : Cx} {W : WX}
theorem se_none {e : Expr} : SE X W e cNo := ⟨_, pe_never, fun _ _ _ _ _ _ _ _ p => p⟩
theorem st_none {e : Expr} : ST X W e cNoB := ⟨_, pt_never, fun _ _ _ _ _ _ _ _ p => p⟩
theorem sl_none {e : List Expr} : SL X W e cNoA := ⟨_, pa_never, fun _ _ _ _ _ _ _ _ p => p⟩
theorem sn_none {e : Expr} : SN X W e cNoA := ⟨_, pe_never, fun _ _ _ _ _ _ _ _ p => p⟩
/-! ### names and constants -/
def cVar (i : Nat) : C := fun δ => match δ[i]? with
  | some (.pu d) => .ok d
  | some (.nt ds) => .ok (.tup ds)
  | _ => .no
theorem ev_var {K : PySem.W.Frag} {i : Nat} : Ev K W (SV K) (tVar i) (cVar i) := fun G0 G δ σ H0 H Q r p => by
  unfold cVar at p
  cases e : δ[i]? with
  | none =>
    rw [e] at p
    exact p.elim
  | some s =>
    rw [e] at p
    cases s with
    | pu d =>
      obtain ⟨v, h, q⟩ := r.pu i d e
      exact ⟨v, h, Post.here p r.same q⟩
    | nt ds =>
      obtain ⟨v, h, q⟩ := r.nt i ds e
      exact ⟨v, h, Post.here p r.same q.dr⟩
    | un => exact p.elim
    | ow ds => exact p.elim
    | oo ds => exact p.elim
    | od ds => exact p.elim
def cC (d : D) : C := fun _ => .ok d
theorem ev_c {K : PySem.W.Frag} {v : V} {d : D} (h : ∀ H, Dr K H v d) : Ev K W (SV K) (tC v) (cC d) := fun G0 G δ σ H0 H Q r p => Post.here (show Post K W σ H0 H (SV K) (.ok d) Q from p) r.same (h H0)
/-! ### two operands, one operand -/
def OpD (K : PySem.W.Frag) (W : WX) (r : R2) (f : D → D → R D) : Prop := ∀ σ H0 H x y d e Q, Same H0 H → Dr K H0 x d → Dr K H0 y e → Post K W σ H0 H (SV K) (f d e) Q → r x y H Q
def UnD (K : PySem.W.Frag) (W : WX) (r : V → Hp → VK → Prop) (f : D → R D) : Prop := ∀ σ H0 H x d Q, Same H0 H → Dr K H0 x d → Post K W σ H0 H (SV K) (f d) Q → r x H Q
/-- .. with a new list for an answer -/
def OpN (K : PySem.W.Frag) (W : WX) (r : R2) (f : D → D → R (List D)) : Prop := ∀ σ H0 H x y d e Q, Same H0 H → Dr K H0 x d → Dr K H0 y e → Post K W σ H0 H (SW K) (f d e) Q → r x y H Q
def CallD (K : PySem.W.Frag) (W : WX) (r : List V → Hp → VK → Prop) (f : List D → R D) : Prop := ∀ σ H0 H xs ds Q, Same H0 H → DrAll K H0 xs ds → Post K W σ H0 H (SV K) (f ds) Q → r xs H Q
def CallN (K : PySem.W.Frag) (W : WX) (r : List V → Hp → VK → Prop) (f : List D → R (List D)) : Prop := ∀ σ H0 H xs ds Q, Same H0 H → DrAll K H0 xs ds → Post K W σ H0 H (SW K) (f ds) Q → r xs H Q
def cBin {α : Type} (f : D → D → R α) (a b : C) : List Sl → R α := fun δ => (a δ).bind fun x => (b δ).bind fun y => f x y
def cUn {α : Type} (f : D → R α) (a : C) : List Sl → R α := fun δ => (a δ).bind f
def cApp {α : Type} (f : List D → R α) (a : CA) : List Sl → R α := fun δ => (a δ).bind f
theorem ev_binG {K : PySem.W.Frag} {α β : Type} {S : Sat α β} (hS : Down S) {ta tb : TE} {ca cb : C} {r : V → V → Hp → (β → Hp → Prop) → Prop} {f : D → D → R α} (ha : Ev K W (SV K) ta ca) (hb : Ev K W (SV K) tb cb)
    (hr : ∀ σ H0 H x y d e Q, Same H0 H → Dr K H0 x d → Dr K H0 y e → Post K W σ H0 H S (f d e) Q → r x y H Q) : Ev K W S (fun σ H Q => ta σ H fun x H1 => tb σ H1 fun y H2 => r x y H2 Q) (cBin f ca cb) := by
  intro G0 G δ σ H0 H Q rl p
  have p' : Post K W σ H0 H S ((ca δ).bind fun x => (cb δ).bind fun y => f x y) Q := p
  refine ha G0 G δ σ H0 H _ rl ?_
  cases e : ca δ with
  | ok d =>
    rw [e] at p'
    intro A B x s q
    refine hb G0 G δ σ A B _ (rl.step s) ?_
    have p2 : Post K W σ H0 H S ((cb δ).bind fun y => f d y) Q := p'
    cases e2 : cb δ with
    | ok d2 =>
      rw [e2] at p2
      intro A2 B2 y s2 q2
      exact hr σ A2 B2 x y d d2 Q (rl.step (s.trans s2)).same (Dr.mono s2.e0 _ q) q2 (Post.mono hS p2 (s.trans s2))
    | ex C =>
      rw [e2] at p2
      exact Post.mono (S := S) hS p2 s
    | no =>
      rw [e2] at p2
      exact p2
  | ex C =>
    rw [e] at p'
    exact p'
  | no =>
    rw [e] at p'
    exact p'
theorem ev_unG {K : PySem.W.Frag} {α β : Type} {S : Sat α β} (hS : Down S) {ta : TE} {ca : C} {r : V → Hp → (β → Hp → Prop) → Prop} {f : D → R α} (ha : Ev K W (SV K) ta ca)
    (hr : ∀ σ H0 H x d Q, Same H0 H → Dr K H0 x d → Post K W σ H0 H S (f d) Q → r x H Q) : Ev K W S (fun σ H Q => ta σ H fun x H1 => r x H1 Q) (cUn f ca) :=
  Ev.bind (f := fun a _ => f a) hS ha fun a b G0 G δ σ Hs H0 H Q rl q p => hr σ H0 H b a Q rl.same q p
theorem ev_appG {K : PySem.W.Frag} {α β : Type} {S : Sat α β} (hS : Down S) {ta : TA} {ca : CA} {r : List V → Hp → (β → Hp → Prop) → Prop} {f : List D → R α} (ha : Ev K W (SA K) ta ca)
    (hr : ∀ σ H0 H x d Q, Same H0 H → DrAll K H0 x d → Post K W σ H0 H S (f d) Q → r x H Q) : Ev K W S (fun σ H Q => ta σ H fun x H1 => r x H1 Q) (cApp f ca) :=
  Ev.bind (f := fun a _ => f a) hS ha fun a b G0 G δ σ Hs H0 H Q rl q p => hr σ H0 H b a Q rl.same q p
theorem OpR.or {f : Value → Value → Sem Value} {r r' : R2} (a : OpR X f r) (b : OpR X f r') : OpR X f (fun x y H Q => r x y H Q ∨ r' x y H Q) := by
  intro pins s σ H x y v u Q I rx ry h
  rcases h with h | h
  · exact a pins s σ H x y v u Q I rx ry h
  · exact b pins s σ H x y v u Q I rx ry h
theorem CallR.or {f : Value} {r r' : List V → Hp → VK → Prop} (a : CallR X f r) (b : CallR X f r') : CallR X f (fun x H Q => r x H Q ∨ r' x H Q) := by
  intro pins s σ H xs us Q I rx h
  rcases h with h | h
  · exact a pins s σ H xs us Q I rx h
  · exact b pins s σ H xs us Q I rx h
/-! ### argument lists -/
def cNil : CA := fun _ => .ok []
def cCons (a : C) (r : CA) : CA := fun δ => (a δ).bind fun d => (r δ).bind fun ds => .ok (d :: ds)
theorem ev_nil {K : PySem.W.Frag} : Ev K W (SA K) tNil cNil := fun G0 G δ σ H0 H Q r p => Post.here (show Post K W σ H0 H (SA K) (.ok []) Q from p) r.same .nil
theorem ev_cons {K : PySem.W.Frag} {ta : TE} {tr : TA} {ca : C} {cr : CA} (ha : Ev K W (SV K) ta ca) (hr : Ev K W (SA K) tr cr) : Ev K W (SA K) (tCons ta tr) (cCons ca cr) := by
  intro G0 G δ σ H0 H Q rl p
  have p' : Post K W σ H0 H (SA K) ((ca δ).bind fun d => (cr δ).bind fun ds => .ok (d :: ds)) Q := p
  refine ha G0 G δ σ H0 H _ rl ?_
  cases e : ca δ with
  | ok d =>
    rw [e] at p'
    intro A B x s q
    refine hr G0 G δ σ A B _ (rl.step s) ?_
    have p2 : Post K W σ H0 H (SA K) ((cr δ).bind fun ds => .ok (d :: ds)) Q := p'
    cases e2 : cr δ with
    | ok ds =>
      rw [e2] at p2
      intro A2 B2 y s2 q2
      exact p2 A2 B2 (x :: y) (s.trans s2) (.cons (Dr.mono s2.e0 _ q) q2)
    | ex C =>
      rw [e2] at p2
      exact Post.mono (S := SA K) downA p2 s
    | no =>
      rw [e2] at p2
      exact p2
  | ex C =>
    rw [e] at p'
    exact p'
  | no =>
    rw [e] at p'
    exact p'
theorem sl_nil : SL X W [] cNil := ⟨_, pa_nil, ev_nil⟩
/-- no star -/
def plainArg : Expr → Bool
  | .Starred _ _ => false
  | _ => true
theorem star_of {e : Expr} {es : List Expr} {env : Env} (h : plainArg e = true) : starEach (e :: es) env = (false, eval e env) :: starEach es env := by
  cases e <;> first | rfl | cases h
theorem star_all : ∀ {es : List Expr} {env : Env} {pos : Pos}, es.all plainArg = true → (backTo pos (starEach es env)).any (·.1) = false
  | [], _, _, _ => rfl
  | e :: es, env, pos, h => by
    have h' := Bool.and_eq_true_iff.mp (show (plainArg e && es.all plainArg) = true from h)
    rw [star_of h'.1]
    have ih := star_all (es := es) (env := env) (pos := pos) h'.2
    cases es with
    | nil => first | rfl | simp [backTo, starEach]
    | cons b r =>
      have h2 := Bool.and_eq_true_iff.mp (show (plainArg b && r.all plainArg) = true from h'.2)
      rw [star_of h2.1] at ih ⊢
      simpa [backTo] using ih
theorem sl_cons {e : Expr} {es : List Expr} {ca : C} {cr : CA} (ha : SE X W e ca) (hr : SL X W es cr) (h : plainArg e = true) : SL X W (e :: es) (cCons ca cr) := by
  obtain ⟨t, p, v⟩ := ha
  obtain ⟨u, q, w⟩ := hr
  exact ⟨_, pa_cons p q (star_of h), ev_cons v w⟩
end
end Dw
namespace Dw
open PySem L2 PyProof.Rows
/-! ### scalars -/
def D.sv : D → Option V
  | .non => some .non
  | .bl b => some (.bl b)
  | .int i => some (.int i)
  | .str x => some (.str x)
  | _ => none
section
variable {K : PySem.W.Frag} {H H0 : Hp}
theorem Dr.sv {v u : V} {d : D} (h : Dr K H v d) (e : d.sv = some u) : v = u := by
  cases h <;> first | exact Option.some.inj e | cases e
theorem sv_flat {d : D} {u : V} (e : d.sv = some u) : flatV u = true := by
  cases d <;> first | cases e | skip
  all_goals rfl
def svs : List D → Option (List V)
  | [] => some []
  | d :: ds => match d.sv, svs ds with
    | some u, some us => some (u :: us)
    | _, _ => none
theorem DrAll.svs : ∀ {vs us : List V} {ds : List D}, DrAll K H vs ds → Dw.svs ds = some us → vs = us
  | _, _, _, .nil, e => by
    unfold Dw.svs at e
    exact Option.some.inj e
  | _, _, _, .cons (d := d) (ds := ds) a r, e => by
    unfold Dw.svs at e
    cases e1 : d.sv with
    | none => rw [e1] at e; cases e
    | some u =>
      cases e2 : Dw.svs ds with
      | none => rw [e1, e2] at e; cases e
      | some us =>
        rw [e1, e2] at e
        rw [← Option.some.inj e, a.sv e1, DrAll.svs r e2]
theorem svs_flat : ∀ {ds : List D} {us : List V}, svs ds = some us → us.all flatV = true
  | [], _, e => by
    unfold svs at e
    rw [← Option.some.inj e]
    rfl
  | d :: ds, us, e => by
    unfold svs at e
    cases e1 : d.sv with
    | none => rw [e1] at e; cases e
    | some u =>
      cases e2 : svs ds with
      | none => rw [e1, e2] at e; cases e
      | some ws =>
        rw [e1, e2] at e
        rw [← Option.some.inj e, List.all_cons, sv_flat e1, svs_flat e2]
        rfl
end
theorem Dr.lstK {K : PySem.W.Frag} {H : Hp} {v : V} {ds : List D} (h : Dr K H v (.lst ds)) : ∃ a xs, v = .ref a ∧ Rd H a (.lst xs) ∧ DrAll K H xs ds := by
  cases h with
  | lst q r => exact ⟨_, _, rfl, q, r⟩
theorem Dr.tupK {K : PySem.W.Frag} {H : Hp} {v : V} {ds : List D} (h : Dr K H v (.tup ds)) : ∃ a xs, v = .ref a ∧ SqT K H a xs ∧ DrAll K H xs ds := by
  cases h with
  | tup q r => exact ⟨_, _, rfl, q, r⟩
theorem Dr.kstK {K : PySem.W.Frag} {H : Hp} {v : V} {ds : List D} (h : Dr K H v (.kst ds)) : ∃ a xs, v = .ref a ∧ SqL K H a xs ∧ DrAll K H xs ds := by
  cases h with
  | kst q r => exact ⟨_, _, rfl, q, r⟩
/-- a list of any of the two kinds, a tuple -/
def D.seq : D → Option (List D)
  | .lst ds => some ds
  | .kst ds => some ds
  | .tup ds => some ds
  | _ => none
theorem Dr.seqK {K : PySem.W.Frag} {H : Hp} {v : V} {d : D} {ds : List D} (h : Dr K H v d) (e : d.seq = some ds) : ∃ a xs, v = .ref a ∧ (SqL K H a xs ∨ SqT K H a xs) ∧ DrAll K H xs ds := by
  cases h with
  | tup q r => cases e; exact ⟨_, _, rfl, .inr q, r⟩
  | lst q r => cases e; exact ⟨_, _, rfl, .inl (.inl q), r⟩
  | kst q r => cases e; exact ⟨_, _, rfl, .inl q, r⟩
  | _ => cases e
/-! ### answers: here, a new tuple, a new list -/
section
variable {K : PySem.W.Frag} {W : WX} {σ : L2.St} {H0 H : Hp} {Q : VK}
theorem Post.v {d : D} {v : V} (p : Post K W σ H0 H (SV K) (.ok d) Q) (e : Same H0 H) (h : Dr K H0 v d) : Q v H := Post.here p e h
theorem Post.newT {ds : List D} {vs : List V} {p : Addr} (q : Post K W σ H0 H (SV K) (.ok (.tup ds)) Q) (e : Same H0 H) (h : DrAll K H0 vs ds) (hp : H p = none) : Q (.ref p) (upd H p (.tup vs)) :=
  q _ _ _ (Stp.new e hp) (.tup (.inl (.inl upd_same)) (h.mono (Same.new (e.free hp))))
theorem Post.newL {ds : List D} {vs : List V} {p : Addr} (q : Post K W σ H0 H (SV K) (.ok (.lst ds)) Q) (e : Same H0 H) (h : DrAll K H0 vs ds) (hp : H p = none) : Q (.ref p) (upd H p (.lst vs)) :=
  q _ _ _ (Stp.new e hp) (.lst (.inl upd_same) (h.mono (Same.new (e.free hp))))
theorem Post.newO {ds : List D} {vs : List V} {p : Addr} (q : Post K W σ H0 H (SW K) (.ok ds) Q) (e : Same H0 H) (h : DrAll K H0 vs ds) (hp : H p = none) : Q (.ref p) (upd H p (.lst vs)) :=
  q _ _ _ (Stp.own e hp) ⟨p, vs, rfl, hp, e.free hp, upd_same, h⟩
end
/-- a new list, told as a known one -/
def toL : R (List D) → R D
  | .ok ds => .ok (.lst ds)
  | .ex C => .ex C
  | .no => .no
def cL (c : CA) : C := fun δ => toL (c δ)
theorem ev_L {K : PySem.W.Frag} {W : WX} {t : TE} {c : CA} (h : Ev K W (SW K) t c) : Ev K W (SV K) t (cL c) := by
  intro G0 G δ σ H0 H Q r p
  refine h G0 G δ σ H0 H Q r ?_
  unfold cL at p
  cases e : c δ with
  | ok ds =>
    rw [e] at p
    intro A B v s q
    obtain ⟨a, vs, rfl, n1, n2, hb, hr⟩ := q
    refine p (upd A a (.lst vs)) B (.ref a) ⟨s.e0.trans (Same.new n2), s.e, fun b o z => ?_, fun b o z w k => ?_⟩ (.lst (.inl upd_same) (hr.mono (Same.new n2)))
    · by_cases q : b = a
      · subst q; rw [upd_same] at z; rw [hb]; exact z
      · rw [upd_ne q] at z; exact s.k b o z
    · rw [upd_ne (ne_of_none w n1)]; exact s.n b o z w k
  | ex C =>
    rw [e] at p
    exact p
  | no =>
    rw [e] at p
    exact p
theorem se_of_sn {X : Cx} {W : WX} {e : Expr} {c : CA} (h : SN X W e c) : SE X W e (cL c) := by
  obtain ⟨t, p, v⟩ := h
  exact ⟨t, p, ev_L v⟩
/-! ### + - * // % ** >> & -/
def rCatQ : R2 := fun x y H Q => ∃ l b xs zs, x = .ref l ∧ y = .ref b ∧ Rd H l (.lst xs) ∧ Rd H b (.lst zs) ∧ xs.length + zs.length ≤ sizeLine ∧ ∀ p, H p = none → Q (.ref p) (upd H p (.lst (xs ++ zs)))
theorem op_catQ {X : Cx} : OpR X (binaryOp .Add) rCatQ := by
  intro pins s σ H x y v u Q I rx ry h
  obtain ⟨l, b, xs, zs, rfl, rfl, h1, h2, hz, q⟩ := h
  cases rx
  cases ry
  obtain ⟨za, ia, na, ra, ea⟩ := h1.ok I.hok
  obtain ⟨zb, ib, nb, rb, eb⟩ := h2.ok I.hok
  have la := ra.length
  have lb := rb.length
  refine PySem.P.add_list ea eb ?_ (by rw [List.size_toArray, List.size_toArray]; omega)
  have e3 : ia.toArray ++ ib.toArray = (ia ++ ib).toArray := by simp
  rw [e3]
  exact ⟨.ref _, _, I.lnew (t' := s.toks) (ra.append rb) (by rw [List.length_append]; exact hz), rfl, q _ I.fresh⟩
def dAdd : D → D → R D
  | .int i, .int j => .ok (.int (i + j))
  | .str x, .str y => if x.length + y.length ≤ sizeLine then .ok (.str (x ++ y)) else .no
  | .tup xs, .tup ys => if xs.length + ys.length ≤ sizeLine then .ok (.tup (xs ++ ys)) else .no
  | .int i, .bl b => .ok (.int (i + b2i b))
  | _, _ => .no
def dAddN : D → D → R (List D)
  | .lst xs, .lst ys => if xs.length + ys.length ≤ sizeLine then .ok (xs ++ ys) else .no
  | _, _ => .no
/-- either: what is no list sum, else the list -/
def dAddA (d e : D) : R D := match d, e with
  | .lst xs, .lst ys => toL (dAddN (.lst xs) (.lst ys))
  | _, _ => dAdd d e
abbrev rAddS : R2 := fun x y H Q => ∃ i j, x = .str i ∧ y = .str j ∧ i.length + j.length ≤ sizeLine ∧ Q (.str (i ++ j)) H
abbrev rAddIB : R2 := fun x y H Q => ∃ i k, x = .int i ∧ y = .bl k ∧ Q (.int (i + b2i k)) H
def rAddAll (K : PySem.W.Frag) : R2 := fun x y H Q => rI0 (fun i j => .int (i + j)) x y H Q ∨ rAddS x y H Q ∨ rCatA K x y H Q ∨ rAddIB x y H Q ∨ rCatQ x y H Q
theorem op_addAll {X : Cx} : OpR X (binaryOp .Add) (rAddAll X.K) := OpR.or op_add (OpR.or op_add_str (OpR.or op_catA (OpR.or op_add_ib op_catQ)))
theorem opd_addN {K : PySem.W.Frag} {W : WX} : OpN K W (rAddAll K) dAddN := by
  intro σ H0 H x y d e Q s hx hy p
  unfold dAddN at p
  split at p
  · split at p
    · rename_i xs ys hz
      obtain ⟨a, us, rfl, q1, r1⟩ := hx.lstK
      obtain ⟨b, ws, rfl, q2, r2⟩ := hy.lstK
      refine .inr (.inr (.inr (.inr ⟨a, b, us, ws, rfl, rfl, rd_mono s q1, rd_mono s q2, by rw [r1.length, r2.length]; exact hz, fun n hn => ?_⟩)))
      exact p.newO s (r1.append r2) hn
    · exact p.elim
  · exact p.elim
theorem opd_add {K : PySem.W.Frag} {W : WX} : OpD K W (rAddAll K) dAdd := by
  intro σ H0 H x y d e Q s hx hy p
  unfold dAdd at p
  split at p
  · cases hx
    cases hy
    exact .inl ⟨_, _, rfl, rfl, p.v s (.int _)⟩
  · split at p
    · cases hx
      cases hy
      exact .inr (.inl ⟨_, _, rfl, rfl, by assumption, p.v s (.str _)⟩)
    · exact p.elim
  · split at p
    · rename_i xs ys hz
      obtain ⟨a, us, rfl, q1, r1⟩ := hx.tupK
      obtain ⟨b, ws, rfl, q2, r2⟩ := hy.tupK
      refine .inr (.inr (.inl ⟨a, b, us, ws, rfl, rfl, sqT_mono s q1, sqT_mono s q2, by rw [r1.length, r2.length]; exact hz, fun z => ?_, fun z1 z2 => ?_, fun z1 z2 n hn => ?_⟩))
      · subst z
        cases r1
        exact p.v s (.tup q2 r2)
      · subst z2
        cases r2
        rw [List.append_nil] at p
        exact p.v s (.tup q1 r1)
      · exact p.newT s (r1.append r2) hn
    · exact p.elim
  · cases hx
    cases hy
    exact .inr (.inr (.inr (.inl ⟨_, _, rfl, rfl, p.v s (.int _)⟩)))
  · exact p.elim
def dInt (C : Int → Int → Prop) [DecidableRel C] (g : Int → Int → Int) : D → D → R D
  | .int i, .int j => if C i j then .ok (.int (g i j)) else .no
  | _, _ => .no
theorem opd_int {K : PySem.W.Frag} {W : WX} {C C' : Int → Int → Prop} [DecidableRel C] {g g' : Int → Int → Int} (h : ∀ i j, C i j → C' i j) (hg : ∀ i j, C i j → g' i j = g i j) : OpD K W (rI C' fun i j => .int (g' i j)) (dInt C g) := by
  intro σ H0 H x y d e Q s hx hy p
  unfold dInt at p
  split at p
  · split at p
    · rename_i i j c
      cases hx
      cases hy
      refine ⟨i, j, rfl, rfl, h i j c, ?_⟩
      have z := p.v s (.int _)
      rw [← hg i j c] at z
      exact z
    · exact p.elim
  · exact p.elim
abbrev cAny (_ _ : Int) : Prop := True
def cMul (i j : Int) : Prop := i.natAbs.log2 + j.natAbs.log2 < 1000000
def cDiv (_ j : Int) : Prop := j ≠ 0 ∧ j.natAbs.log2 < 9000
def cMod (_ j : Int) : Prop := j ≠ 0
def cPow (i j : Int) : Prop := 0 ≤ j ∧ j ≤ 1000000 ∧ i.natAbs < 2 ^ 64
def cShr (_ j : Int) : Prop := 0 ≤ j
instance : DecidableRel cMul := fun i j => inferInstanceAs (Decidable (i.natAbs.log2 + j.natAbs.log2 < 1000000))
instance : DecidableRel cDiv := fun _ j => inferInstanceAs (Decidable (j ≠ 0 ∧ j.natAbs.log2 < 9000))
instance : DecidableRel cMod := fun _ j => inferInstanceAs (Decidable (j ≠ 0))
instance : DecidableRel cPow := fun i j => inferInstanceAs (Decidable (0 ≤ j ∧ j ≤ 1000000 ∧ i.natAbs < 2 ^ 64))
instance : DecidableRel cShr := fun _ j => inferInstanceAs (Decidable (0 ≤ j))
def dSub : D → D → R D := dInt cAny fun i j => i - j
def dMul : D → D → R D := dInt cMul fun i j => i * j
def dDiv : D → D → R D := dInt cDiv fun i j => i.fdiv j
def dMod : D → D → R D := dInt cMod fun i j => i.fmod j
def dPow : D → D → R D := dInt cPow fun i j => i ^ j.toNat
def dShr : D → D → R D := dInt cShr fun i j => i / 2 ^ j.toNat
def dAnd : D → D → R D := dInt cAny fun i j => Builtin.bitAnd i j
theorem op_subC {X : Cx} : OpR X (binaryOp .Sub) (rI cAny fun i j => .int (i - j)) := opI fun _ _ _ _ _ _ _ _ q => sub_int q
theorem op_andC {X : Cx} : OpR X (binaryOp .BitAnd) (rI cAny fun i j => .int (Builtin.bitAnd i j)) := opI fun _ _ _ _ _ _ _ _ q => and_int q
theorem op_divC {X : Cx} : OpR X (binaryOp .FloorDiv) (rI cDiv fun i j => .int (i.fdiv j)) := opI fun _ _ _ _ _ _ _ hc q => floordiv_int hc.1 q (.inl (PyProof.noPylong_of_log2 hc.2))
theorem opd_sub {K : PySem.W.Frag} {W : WX} : OpD K W (rI cAny fun i j => .int (i - j)) dSub := opd_int (fun _ _ c => c) fun _ _ _ => rfl
theorem opd_mul {K : PySem.W.Frag} {W : WX} : OpD K W (rI CMulW fun i j => .int (i * j)) dMul := opd_int (fun _ _ c => c) fun _ _ _ => rfl
theorem opd_div {K : PySem.W.Frag} {W : WX} : OpD K W (rI cDiv fun i j => .int (i.fdiv j)) dDiv := opd_int (fun _ _ c => c) fun _ _ _ => rfl
theorem opd_mod {K : PySem.W.Frag} {W : WX} : OpD K W (rI (fun _ j => j ≠ 0) fun i j => .int (i.fmod j)) dMod := opd_int (fun _ _ c => c) fun _ _ _ => rfl
theorem opd_pow {K : PySem.W.Frag} {W : WX} : OpD K W (rI CPow fun i j => .int (i ^ j.toNat)) dPow := opd_int (fun _ _ c => c) fun _ _ _ => rfl
theorem opd_shr {K : PySem.W.Frag} {W : WX} : OpD K W (rI (fun _ j => 0 ≤ j) fun i j => .int (i / 2 ^ j.toNat)) dShr := opd_int (fun _ _ c => c) fun _ _ _ => rfl
theorem opd_and {K : PySem.W.Frag} {W : WX} : OpD K W (rI cAny fun i j => .int (Builtin.bitAnd i j)) dAnd := opd_int (fun _ _ c => c) fun _ _ _ => rfl
def dNeg : D → R D
  | .int i => .ok (.int (-i))
  | _ => .no
theorem und_neg {K : PySem.W.Frag} {W : WX} : UnD K W (rU fun i => .int (-i)) dNeg := by
  intro σ H0 H x d Q s hx p
  unfold dNeg at p
  split at p
  · cases hx
    exact ⟨_, rfl, p.v s (.int _)⟩
  · exact p.elim
/-- a list times an int, the list just made -/
def dRep (ds : List D) : D → R (List D)
  | .int k => if k < 2 ^ 24 ∧ ds.length * k.toNat ≤ sizeLine ∧ -(2 ^ 24) < k then .ok (List.replicate k.toNat ds).flatten else .no
  | _ => .no
def cRep (a : CA) (b : C) : CA := fun δ => (a δ).bind fun ds => (b δ).bind fun e => dRep ds e
theorem ev_rep {K : PySem.W.Frag} {W : WX} {ta tb : TE} {ca : CA} {cb : C} (ha : Ev K W (SW K) ta ca) (hb : Ev K W (SV K) tb cb) : Ev K W (SW K) (tOp rRep ta tb) (cRep ca cb) := by
  intro G0 G δ σ H0 H Q rl p
  have p' : Post K W σ H0 H (SW K) ((ca δ).bind fun ds => (cb δ).bind fun e => dRep ds e) Q := p
  refine ha G0 G δ σ H0 H _ rl ?_
  cases e : ca δ with
  | ok ds =>
    rw [e] at p'
    intro A B x s q
    refine hb G0 G δ σ A B _ (rl.step s) ?_
    have p2 : Post K W σ H0 H (SW K) ((cb δ).bind fun e => dRep ds e) Q := p'
    cases e2 : cb δ with
    | ok d2 =>
      rw [e2] at p2
      intro A2 B2 y s2 q2
      have p3 : Post K W σ A2 B2 (SW K) (dRep ds d2) Q := Post.mono downW p2 (s.trans s2)
      obtain ⟨a, vs, rfl, n1, n2, hb, hr⟩ := q
      unfold dRep at p3
      split at p3
      · split at p3
        · rename_i k c
          cases (show Dr K A2 y (.int k) from q2)
          refine ⟨a, k, vs, rfl, rfl, s2.e _ _ hb, by omega, by omega, by rw [hr.length]; exact c.2.1, fun n hn => ?_⟩
          exact p3.newO (rl.step (s.trans s2)).same ((hr.mono s2.e0).rep k.toNat) hn
        · exact p3.elim
      · exact p3.elim
    | ex C =>
      rw [e2] at p2
      exact Post.mono (S := SW K) downW p2 s
    | no =>
      rw [e2] at p2
      exact p2
  | ex C =>
    rw [e] at p'
    exact p'
  | no =>
    rw [e] at p'
    exact p'
end Dw
namespace Dw
open PySem L2 PyProof.Rows
theorem post_L {K : PySem.W.Frag} {W : WX} {σ : L2.St} {H0 H : Hp} {Q : VK} {r : R (List D)} (p : Post K W σ H0 H (SV K) (toL r) Q) : Post K W σ H0 H (SW K) r Q := by
  cases r with
  | ok ds =>
    intro A B v s q
    obtain ⟨a, vs, rfl, n1, n2, hb, hr⟩ := q
    refine p (upd A a (.lst vs)) B (.ref a) ⟨s.e0.trans (Same.new n2), s.e, fun b o z => ?_, fun b o z w k => ?_⟩ (.lst (.inl upd_same) (hr.mono (Same.new n2)))
    · by_cases q : b = a
      · subst q; rw [upd_same] at z; rw [hb]; exact z
      · rw [upd_ne q] at z; exact s.k b o z
    · rw [upd_ne (ne_of_none w n1)]; exact s.n b o z w k
  | ex C => exact p
  | no => exact p
theorem opd_addA {K : PySem.W.Frag} {W : WX} : OpD K W (rAddAll K) dAddA := by
  intro σ H0 H x y d e Q s hx hy p
  unfold dAddA at p
  split at p
  · exact opd_addN σ H0 H x y _ _ Q s hx hy (post_L p)
  · exact opd_add σ H0 H x y d e Q s hx hy p
/-! ### data for == : no classes, objects; of few levels -/
def D.good : Nat → D → Bool
  | _, .non => true
  | _, .bl _ => true
  | _, .int _ => true
  | _, .str x => PyData.strOk x
  | n + 1, .tup ds => ds.all (D.good n)
  | n + 1, .lst ds => ds.all (D.good n)
  | n + 1, .kst ds => ds.all (D.good n)
  | _, _ => false
mutual
def D.toPy : D → PyData
  | .non => .none
  | .bl b => .bool b
  | .int i => .int i
  | .str x => .str x
  | .tup ds => .tuple (D.toPys ds)
  | .lst ds => .list (D.toPys ds)
  | .kst ds => .list (D.toPys ds)
  | _ => .none
def D.toPys : List D → List PyData
  | [] => []
  | d :: ds => d.toPy :: D.toPys ds
end
section
variable {K : PySem.W.Frag} {H : Hp}
theorem good_all {n : Nat} (ih : ∀ (d : D) (v : V), d.good n = true → Dr K H v d → Dp K H v d.toPy ∧ d.toPy.canLay0 = true ∧ d.toPy.depth ≤ n) :
    ∀ (ds : List D) (vs : List V), ds.all (D.good n) = true → DrAll K H vs ds → DpAll K H vs (D.toPys ds) ∧ PyData.canLayAll0 (D.toPys ds) = true ∧ PyData.depthAll (D.toPys ds) ≤ n
  | [], _, _, h => by
    cases h
    exact ⟨.nil, rfl, Nat.zero_le _⟩
  | d :: ds, _, g, h => by
    cases h with
    | cons a r =>
      have g' := Bool.and_eq_true_iff.mp (show (d.good n && ds.all (D.good n)) = true from g)
      obtain ⟨p1, p2, p3⟩ := ih d _ g'.1 a
      obtain ⟨q1, q2, q3⟩ := good_all ih ds _ g'.2 r
      refine ⟨.cons p1 q1, ?_, ?_⟩
      · show (PyData.canLay0 d.toPy && PyData.canLayAll0 (D.toPys ds)) = true
        rw [p2, q2]
        rfl
      · show max (PyData.depth d.toPy) (PyData.depthAll (D.toPys ds)) ≤ n
        omega
theorem good_dp : ∀ (n : Nat) (d : D) (v : V), d.good n = true → Dr K H v d → Dp K H v d.toPy ∧ d.toPy.canLay0 = true ∧ d.toPy.depth ≤ n
  | n, .non, _, _, h => by cases h; exact ⟨by unfold D.toPy; exact .non, by unfold D.toPy; rfl, by unfold D.toPy; exact Nat.zero_le _⟩
  | n, .bl b, _, _, h => by cases h; exact ⟨by unfold D.toPy; exact .bl b, by unfold D.toPy; rfl, by unfold D.toPy; exact Nat.zero_le _⟩
  | n, .int i, _, _, h => by cases h; exact ⟨by unfold D.toPy; exact .int i, by unfold D.toPy; rfl, by unfold D.toPy; exact Nat.zero_le _⟩
  | n, .str x, _, g, h => by
    cases h
    have g' : PyData.strOk x = true := by
      cases n <;> exact g
    exact ⟨by unfold D.toPy; exact .str x, by unfold D.toPy; exact g', by unfold D.toPy; exact Nat.zero_le _⟩
  | n, .ty x, _, g, _ => by cases n <;> cases g
  | 0, .tup ds, _, g, _ => by cases g
  | 0, .lst ds, _, g, _ => by cases g
  | 0, .kst ds, _, g, _ => by cases g
  | n + 1, .tup ds, _, g, h => by
    obtain ⟨a, xs, rfl, q, r⟩ := h.tupK
    obtain ⟨q1, q2, q3⟩ := good_all (good_dp n) ds _ g r
    unfold D.toPy
    exact ⟨.tup q q1, q2, Nat.succ_le_succ q3⟩
  | n + 1, .lst ds, _, g, h => by
    obtain ⟨a, xs, rfl, q, r⟩ := h.lstK
    obtain ⟨q1, q2, q3⟩ := good_all (good_dp n) ds _ g r
    unfold D.toPy
    exact ⟨.lst (.inl q) q1, q2, Nat.succ_le_succ q3⟩
  | n + 1, .kst ds, _, g, h => by
    obtain ⟨a, xs, rfl, q, r⟩ := h.kstK
    obtain ⟨q1, q2, q3⟩ := good_all (good_dp n) ds _ g r
    unfold D.toPy
    exact ⟨.lst q q1, q2, Nat.succ_le_succ q3⟩
  | n, .dct _ _, _, g, _ => by cases n <;> cases g
  | n, .obj _ _ _, _, g, _ => by cases n <;> cases g
  | n, .exc _, _, g, _ => by cases n <;> cases g
theorem good_shaped {d : D} {v : V} (g : d.good 20 = true) (h : Dr K H v d) : Dp K H v d.toPy ∧ SeqAt.shaped d.toPy = true := by
  obtain ⟨a, b, c⟩ := good_dp 20 d v g h
  refine ⟨a, ?_⟩
  show (PyData.canLay0 d.toPy && decide (PyData.depth d.toPy ≤ 64)) = true
  rw [b, decide_eq_true (Nat.le_trans c (by decide))]
  rfl
end
def dEqB (d e : D) : R Bool := match d.sv, e.sv with
  | some u, some w => if scal u w = true then .ok (decide (u = w)) else .no
  | _, _ => if d.good 20 = true ∧ e.good 20 = true then .ok (PyData.eqv d.toPy e.toPy) else .no
def rmap {α β : Type} (f : α → β) : R α → R β
  | .ok a => .ok (f a)
  | .ex C => .ex C
  | .no => .no
def dEq (d e : D) : R D := rmap D.bl (dEqB d e)
def dNe (d e : D) : R D := rmap (fun b => D.bl (!b)) (dEqB d e)
def rEqAll (K : PySem.W.Frag) : R2 := fun x y H Q => rEq x y H Q ∨ rEqD K x y H Q
def rNeAll (K : PySem.W.Frag) : R2 := fun x y H Q => rNe x y H Q ∨ rNeD K x y H Q
theorem op_eqAll {X : Cx} (hu : X.A.units + 64 < cLine) : OpR X (compareOp .Eq) (rEqAll X.K) := OpR.or op_eq (op_eqD hu)
theorem op_neAll {X : Cx} (hu : X.A.units + 64 < cLine) : OpR X (compareOp .NotEq) (rNeAll X.K) := OpR.or op_ne (op_neD hu)
theorem opd_eq {K : PySem.W.Frag} {W : WX} : OpD K W (rEqAll K) dEq := by
  intro σ H0 H x y d e Q s hx hy p
  unfold dEq dEqB at p
  split at p
  · rename_i u w e1 e2
    split at p
    · rename_i c
      have ex := hx.sv e1
      have ey := hy.sv e2
      subst ex ey
      exact .inl ⟨c, p.v s (.bl _)⟩
    · exact p.elim
  · split at p
    · rename_i c
      obtain ⟨a1, a2⟩ := good_shaped c.1 (hx.mono s)
      obtain ⟨b1, b2⟩ := good_shaped c.2 (hy.mono s)
      exact .inr ⟨_, _, a1, b1, a2, b2, p.v s (.bl _)⟩
    · exact p.elim
theorem opd_ne {K : PySem.W.Frag} {W : WX} : OpD K W (rNeAll K) dNe := by
  intro σ H0 H x y d e Q s hx hy p
  unfold dNe dEqB at p
  split at p
  · rename_i u w e1 e2
    split at p
    · rename_i c
      have ex := hx.sv e1
      have ey := hy.sv e2
      subst ex ey
      exact .inl ⟨c, p.v s (.bl _)⟩
    · exact p.elim
  · split at p
    · rename_i c
      obtain ⟨a1, a2⟩ := good_shaped c.1 (hx.mono s)
      obtain ⟨b1, b2⟩ := good_shaped c.2 (hy.mono s)
      exact .inr ⟨_, _, a1, b1, a2, b2, p.v s (.bl _)⟩
    · exact p.elim
/-! ### < <= > >= of ints -/
def dCmp (g : Int → Int → Bool) : D → D → R D
  | .int i, .int j => .ok (.bl (g i j))
  | _, _ => .no
theorem opd_cmp {K : PySem.W.Frag} {W : WX} {g : Int → Int → Bool} : OpD K W (rI0 fun i j => .bl (g i j)) (dCmp g) := by
  intro σ H0 H x y d e Q s hx hy p
  unfold dCmp at p
  split at p
  · cases hx
    cases hy
    exact ⟨_, _, rfl, rfl, p.v s (.bl _)⟩
  · exact p.elim
def dLt : D → D → R D := dCmp fun i j => decide (i < j)
def dLe : D → D → R D := dCmp fun i j => decide (i ≤ j)
def dGt : D → D → R D := dCmp fun i j => decide (j < i)
def dGe : D → D → R D := dCmp fun i j => decide (j ≤ i)
/-! ### is, is not: of None, of truths -/
def D.isNon : D → Bool
  | .non => true
  | _ => false
def dIsB : D → D → R Bool
  | d, .non => .ok d.isNon
  | .bl a, .bl b => .ok (decide (a = b))
  | _, _ => .no
def dIs (d e : D) : R D := rmap D.bl (dIsB d e)
def dNot (d e : D) : R D := rmap (fun b => D.bl (!b)) (dIsB d e)
def rIsAll : R2 := fun x y H Q => (y = .non ∧ Q (.bl (decide (x = .non))) H) ∨ rIsB x y H Q
def rNotAll : R2 := fun x y H Q => (y = .non ∧ Q (.bl (!decide (x = .non))) H) ∨ rNotB x y H Q
theorem op_isAll {X : Cx} : OpR X (compareOp .Is) rIsAll := OpR.or op_isN op_isBl
theorem op_notAll {X : Cx} : OpR X (compareOp .IsNot) rNotAll := OpR.or op_notN op_notBl
theorem Dr.isNon {K : PySem.W.Frag} {H : Hp} {v : V} {d : D} (h : Dr K H v d) : decide (v = .non) = d.isNon := by
  cases h <;> first | rfl | exact decide_eq_false (fun z => nomatch z)
theorem opd_is {K : PySem.W.Frag} {W : WX} : OpD K W rIsAll dIs := by
  intro σ H0 H x y d e Q s hx hy p
  unfold dIs dIsB at p
  split at p
  · cases hy
    refine .inl ⟨rfl, ?_⟩
    rw [hx.isNon]
    exact p.v s (.bl _)
  · cases hx
    cases hy
    exact .inr ⟨_, _, rfl, rfl, p.v s (.bl _)⟩
  · exact p.elim
theorem opd_not {K : PySem.W.Frag} {W : WX} : OpD K W rNotAll dNot := by
  intro σ H0 H x y d e Q s hx hy p
  unfold dNot dIsB at p
  split at p
  · cases hy
    refine .inl ⟨rfl, ?_⟩
    rw [hx.isNon]
    exact p.v s (.bl _)
  · cases hx
    cases hy
    exact .inr ⟨_, _, rfl, rfl, p.v s (.bl _)⟩
  · exact p.elim
/-! ### in, not in: a scalar in a list or tuple of scalars; a sign in a text -/
def dInB : D → D → R Bool
  | .str x, .str z => match x.cps.toList with
    | [c] => .ok (decide (c ∈ z.cps.toList))
    | _ => .no
  | d, e => match d.sv, e.seq with
    | some u, some es => (match svs es with
      | some us => .ok (inV u us)
      | none => .no)
    | _, _ => .no
def dIn (d e : D) : R D := rmap D.bl (dInB d e)
def dNin (d e : D) : R D := rmap (fun b => D.bl (!b)) (dInB d e)
abbrev rInSg : R2 := fun x y H Q => ∃ (c : Nat) (z : Str), x = .str ⟨#[c]⟩ ∧ y = .str z ∧ Q (.bl (decide (c ∈ z.cps.toList))) H
abbrev rNinSg : R2 := fun x y H Q => ∃ (c : Nat) (z : Str), x = .str ⟨#[c]⟩ ∧ y = .str z ∧ Q (.bl (!decide (c ∈ z.cps.toList))) H
def rInAll (K : PySem.W.Frag) : R2 := fun x y H Q => rInSg x y H Q ∨ rIn K false x y H Q
def rNinAll (K : PySem.W.Frag) : R2 := fun x y H Q => rNinSg x y H Q ∨ rIn K true x y H Q
theorem op_inAll {X : Cx} : OpR X (compareOp .In) (rInAll X.K) := OpR.or op_in_sign op_in_seq
theorem op_ninAll {X : Cx} : OpR X (compareOp .NotIn) (rNinAll X.K) := OpR.or op_notIn_sign op_notIn_seq
theorem str_one {x : Str} {c : Nat} (h : x.cps.toList = [c]) : x = ⟨#[c]⟩ := by
  obtain ⟨a⟩ := x
  congr 1
  exact Array.ext' h
theorem opd_in {K : PySem.W.Frag} {W : WX} : OpD K W (rInAll K) dIn := by
  intro σ H0 H x y d e Q s hx hy p
  unfold dIn dInB at p
  split at p
  · split at p
    · rename_i c hc
      cases hx
      cases hy
      rw [str_one hc]
      exact .inl ⟨_, _, rfl, rfl, p.v s (.bl _)⟩
    · exact p.elim
  · split at p
    · rename_i u es e1 e2
      split at p
      · rename_i us e3
        obtain ⟨a, xs, rfl, q, r⟩ := hy.seqK e2
        have ex := hx.sv e1
        have ey := r.svs e3
        subst ex ey
        refine .inr ⟨a, xs, rfl, ?_, sv_flat e1, svs_flat e3, p.v s (.bl _)⟩
        rcases q with q | q
        · exact .inl (s.seq q)
        · exact .inr (sqT_mono s q)
      · exact p.elim
    · exact p.elim
theorem opd_nin {K : PySem.W.Frag} {W : WX} : OpD K W (rNinAll K) dNin := by
  intro σ H0 H x y d e Q s hx hy p
  unfold dNin dInB at p
  split at p
  · split at p
    · rename_i c hc
      cases hx
      cases hy
      rw [str_one hc]
      exact .inl ⟨_, _, rfl, rfl, p.v s (.bl _)⟩
    · exact p.elim
  · split at p
    · rename_i u es e1 e2
      split at p
      · rename_i us e3
        obtain ⟨a, xs, rfl, q, r⟩ := hy.seqK e2
        have ex := hx.sv e1
        have ey := r.svs e3
        subst ex ey
        refine .inr ⟨a, xs, rfl, ?_, sv_flat e1, svs_flat e3, p.v s (.bl _)⟩
        rcases q with q | q
        · exact .inl (s.seq q)
        · exact .inr (sqT_mono s q)
      · exact p.elim
    · exact p.elim
/-! ### an item, a slice -/
def atD (ds : List D) (i : Int) : R D := match ixN ds.length i with
  | some j => (match ds[j]? with
    | some d => .ok d
    | none => .no)
  | none => .no
def dIx : D → D → R D
  | .str z, .int i => if z.length ≤ sizeLine then (match atI z.cps.toList i with
    | some c => .ok (.str ⟨#[c]⟩)
    | none => .no) else .no
  | d, .int i => (match d.seq with
    | some ds => atD ds i
    | none => .no)
  | _, _ => .no
theorem atD_ok {K : PySem.W.Frag} {H : Hp} {vs : List V} {ds : List D} {i : Int} {d : D} (r : DrAll K H vs ds) (h : atD ds i = .ok d) : ∃ v, atI vs i = some v ∧ Dr K H v d := by
  unfold atD at h
  split at h
  · rename_i j hj
    split at h
    · rename_i d' hd
      cases h
      obtain ⟨v, hv, q⟩ := r.get hd
      refine ⟨v, ?_, q⟩
      unfold atI
      rw [r.length, hj]
      exact hv
    · cases h
  · cases h
theorem atD_ex {ds : List D} {i : Int} : (∃ d, atD ds i = .ok d) ∨ atD ds i = .no := by
  unfold atD
  split
  · split
    · exact .inl ⟨_, rfl⟩
    · exact .inr rfl
  · exact .inr rfl
theorem opd_ix {K : PySem.W.Frag} {W : WX} : OpD K W (rIx K) dIx := by
  intro σ H0 H x y d e Q s hx hy p
  unfold dIx at p
  split at p
  · split at p
    · split at p
      · cases hx
        cases hy
        exact .inr (.inr ⟨_, _, _, rfl, rfl, by assumption, by assumption, p.v s (.str _)⟩)
      · exact p.elim
    · exact p.elim
  · split at p
    · rename_i i _ _ ds e1
      cases hy
      obtain ⟨a, xs, rfl, q, r⟩ := hx.seqK e1
      rcases atD_ex (ds := ds) (i := i) with ⟨f, hf⟩ | hf
      · rw [hf] at p
        obtain ⟨v, hv, h2⟩ := atD_ok r hf
        rcases q with q | q
        · exact .inl ⟨a, xs, i, v, rfl, rfl, s.seq q, hv, p.v s h2⟩
        · exact .inr (.inl ⟨a, xs, i, v, rfl, rfl, sqT_mono s q, hv, p.v s h2⟩)
      · rw [hf] at p
        exact p.elim
    · exact p.elim
  · exact p.elim
def cutD (ds : List D) (lo hi : Option Int) : List D := (ds.drop (HT.sIx ds.length 0 lo)).take (HT.sIx ds.length ds.length hi - HT.sIx ds.length 0 lo)
theorem cutD_ok {K : PySem.W.Frag} {H : Hp} {vs : List V} {ds : List D} {lo hi : Option Int} (r : DrAll K H vs ds) : DrAll K H (cutV vs lo hi) (cutD ds lo hi) := by
  unfold cutV cutD
  rw [r.length]
  exact (r.drop _).take _
def dSl (lo hi : Option Int) : D → R D
  | .str z => if z.length ≤ sizeLine then .ok (.str (cutS z lo hi)) else .no
  | .tup ds => .ok (.tup (cutD ds lo hi))
  | _ => .no
def dSlN (lo hi : Option Int) : D → R (List D)
  | .lst ds => .ok (cutD ds lo hi)
  | .kst ds => .ok (cutD ds lo hi)
  | _ => .no
def rSlAll (K : PySem.W.Frag) : V → Option Int → Option Int → Hp → VK → Prop := fun x lo hi H Q => rSlS x lo hi H Q ∨ rSlA K x lo hi H Q ∨ rSlL K x lo hi H Q
theorem sl_all {X : Cx} : SlR X (rSlAll X.K) := SlR.or sl_str (SlR.or sl_tupA sl_list)
theorem sld {K : PySem.W.Frag} {W : WX} {lo hi : Option Int} : UnD K W (fun x H Q => rSlAll K x lo hi H Q) (dSl lo hi) := by
  intro σ H0 H x d Q s hx p
  unfold dSl at p
  split at p
  · split at p
    · cases hx
      exact .inl ⟨_, rfl, by assumption, p.v s (.str _)⟩
    · exact p.elim
  · rename_i ds
    obtain ⟨a, xs, rfl, q, r⟩ := hx.tupK
    refine .inr (.inl ⟨a, xs, rfl, sqT_mono s q, fun z => ?_, fun _ n hn => ?_⟩)
    · have e : cutD ds lo hi = ds := by
        unfold cutD
        rw [← r.length, z.1, z.2, List.drop_zero, Nat.sub_zero, r.length, List.take_length]
      rw [e] at p
      exact p.v s (.tup q r)
    · exact p.newT s (cutD_ok r) hn
  · exact p.elim
theorem sldN {K : PySem.W.Frag} {W : WX} {lo hi : Option Int} : ∀ σ H0 H x d Q, Same H0 H → Dr K H0 x d → Post K W σ H0 H (SW K) (dSlN lo hi d) Q → rSlAll K x lo hi H Q := by
  intro σ H0 H x d Q s hx p
  unfold dSlN at p
  split at p
  · obtain ⟨a, xs, rfl, q, r⟩ := hx.lstK
    exact .inr (.inr ⟨a, xs, rfl, s.seq (.inl q), fun n hn => p.newO s (cutD_ok r) hn⟩)
  · obtain ⟨a, xs, rfl, q, r⟩ := hx.kstK
    exact .inr (.inr ⟨a, xs, rfl, s.seq q, fun n hn => p.newO s (cutD_ok r) hn⟩)
  · exact p.elim
/-! ### displays -/
def dTup (ds : List D) : R D := if ds.length ≤ sizeLine then .ok (.tup ds) else .no
def dLst (ds : List D) : R (List D) := if ds.length ≤ sizeLine then .ok ds else .no
theorem ev_tup {K : PySem.W.Frag} {W : WX} {t : TA} {c : CA} (h : Ev K W (SA K) t c) : Ev K W (SV K) (tTup t) (cApp dTup c) := ev_appG downV h fun σ H0 H x d Q s q p => by
  unfold dTup at p
  split at p
  · exact ⟨by rw [q.length]; assumption, fun n hn => p.newT s q hn⟩
  · exact p.elim
theorem ev_lst {K : PySem.W.Frag} {W : WX} {t : TA} {c : CA} (h : Ev K W (SA K) t c) : Ev K W (SW K) (tLst t) (cApp dLst c) := ev_appG downW h fun σ H0 H x d Q s q p => by
  unfold dLst at p
  split at p
  · exact ⟨by rw [q.length]; assumption, fun n hn => p.newO s q hn⟩
  · exact p.elim
end Dw
namespace Dw
open PySem L2 PyProof.Rows
/-! ### built-ins -/
def intsD : List D → Option (List Int)
  | [] => some []
  | .int i :: ds => (match intsD ds with
    | some is => some (i :: is)
    | none => none)
  | _ :: _ => none
def boolsD : List D → Option (List Bool)
  | [] => some []
  | .bl i :: ds => (match boolsD ds with
    | some is => some (i :: is)
    | none => none)
  | _ :: _ => none
theorem intsD_ok {K : PySem.W.Frag} {H : Hp} : ∀ {ds : List D} {vs : List V} {is : List Int}, intsD ds = some is → DrAll K H vs ds → vs = is.map V.int
  | [], _, _, e, h => by
    cases h
    unfold intsD at e
    rw [← Option.some.inj e]
    rfl
  | d :: ds, _, is, e, h => by
    cases h with
    | cons a r =>
      unfold intsD at e
      split at e
      · rename_i he
        cases he
      · rename_i i ds' he
        cases he
        split at e
        · rename_i js e2
          cases a
          rw [← Option.some.inj e, intsD_ok e2 r]
          rfl
        · cases e
      · cases e
theorem boolsD_ok {K : PySem.W.Frag} {H : Hp} : ∀ {ds : List D} {vs : List V} {is : List Bool}, boolsD ds = some is → DrAll K H vs ds → vs = is.map V.bl
  | [], _, _, e, h => by
    cases h
    unfold boolsD at e
    rw [← Option.some.inj e]
    rfl
  | d :: ds, _, is, e, h => by
    cases h with
    | cons a r =>
      unfold boolsD at e
      split at e
      · rename_i he
        cases he
      · rename_i i ds' he
        cases he
        split at e
        · rename_i js e2
          cases a
          rw [← Option.some.inj e, boolsD_ok e2 r]
          rfl
        · cases e
      · cases e
theorem DrAll.one {K : PySem.W.Frag} {H : Hp} {vs : List V} {d : D} (h : DrAll K H vs [d]) : ∃ v, vs = [v] ∧ Dr K H v d := by
  cases h with
  | cons a r => cases r; exact ⟨_, rfl, a⟩
theorem DrAll.two {K : PySem.W.Frag} {H : Hp} {vs : List V} {d e : D} (h : DrAll K H vs [d, e]) : ∃ v w, vs = [v, w] ∧ Dr K H v d ∧ Dr K H w e := by
  cases h with
  | cons a r =>
    obtain ⟨w, rfl, b⟩ := r.one
    exact ⟨_, _, rfl, a, b⟩
def dLen : List D → R D
  | [.str z] => if z.length ≤ sizeLine then .ok (.int z.length) else .no
  | [d] => (match d.seq with
    | some ds => .ok (.int ds.length)
    | none => .no)
  | _ => .no
abbrev rLenA (K : PySem.W.Frag) : List V → Hp → VK → Prop := fun xs H Q => ∃ x n, xs = [x] ∧ LenV K x H n ∧ Q (.int n) H
theorem cd_len {K : PySem.W.Frag} {W : WX} : CallD K W (rLenA K) dLen := by
  intro σ H0 H xs ds Q s h p
  unfold dLen at p
  split at p
  · split at p
    · obtain ⟨v, rfl, a⟩ := h.one
      cases a
      exact ⟨_, _, rfl, ⟨by assumption, rfl⟩, p.v s (.int _)⟩
    · exact p.elim
  · split at p
    · rename_i es e1
      obtain ⟨v, rfl, hv⟩ := h.one
      obtain ⟨a, xs, rfl, q, r⟩ := hv.seqK e1
      refine ⟨_, xs.length, rfl, ?_, by rw [r.length]; exact p.v s (.int _)⟩
      rcases q with q | q
      · exact .inl ⟨xs, s.seq q, rfl⟩
      · exact .inr ⟨xs, sqT_mono s q, rfl⟩
    · exact p.elim
  · exact p.elim
def dAbs : List D → R D
  | [.int i] => .ok (.int (if i < 0 then -i else i))
  | _ => .no
theorem cd_abs {K : PySem.W.Frag} {W : WX} : CallD K W (fun xs H Q => ∃ i, xs = [.int i] ∧ Q (.int (if i < 0 then -i else i)) H) dAbs := by
  intro σ H0 H xs ds Q s h p
  unfold dAbs at p
  split at p
  · obtain ⟨v, rfl, a⟩ := h.one
    cases a
    exact ⟨_, rfl, p.v s (.int _)⟩
  · exact p.elim
/-! max and min: of two intsD, of one list of intsD -/
def imax (a : Int) (l : List Int) : Int := l.foldl (fun m x => if m < x then x else m) a
def imin (a : Int) (l : List Int) : Int := l.foldl (fun m x => if x < m then x else m) a
theorem imax_spec : ∀ (l : List Int) (a : Int), (imax a l ∈ a :: l) ∧ ∀ y ∈ a :: l, y ≤ imax a l
  | [], a => ⟨List.mem_cons_self, fun y h => by
    have e : y = a := by simpa using h
    rw [e]
    exact Int.le_refl _⟩
  | b :: l, a => by
    have e : imax a (b :: l) = imax (if a < b then b else a) l := rfl
    rw [e]
    by_cases hab : a < b
    · rw [if_pos hab]
      obtain ⟨m, u⟩ := imax_spec l b
      refine ⟨List.mem_cons_of_mem _ m, fun y h => ?_⟩
      rcases List.mem_cons.mp h with z | z
      · have u0 := u b List.mem_cons_self
        omega
      · exact u y z
    · rw [if_neg hab]
      obtain ⟨m, u⟩ := imax_spec l a
      refine ⟨?_, fun y h => ?_⟩
      · rcases List.mem_cons.mp m with z | z
        · rw [z]
          exact List.mem_cons_self
        · exact List.mem_cons_of_mem _ (List.mem_cons_of_mem _ z)
      · have u0 := u a List.mem_cons_self
        rcases List.mem_cons.mp h with z | z
        · omega
        · rcases List.mem_cons.mp z with z | z
          · omega
          · exact u y (List.mem_cons_of_mem _ z)
theorem imin_spec : ∀ (l : List Int) (a : Int), (imin a l ∈ a :: l) ∧ ∀ y ∈ a :: l, imin a l ≤ y
  | [], a => ⟨List.mem_cons_self, fun y h => by
    have e : y = a := by simpa using h
    rw [e]
    exact Int.le_refl _⟩
  | b :: l, a => by
    have e : imin a (b :: l) = imin (if b < a then b else a) l := rfl
    rw [e]
    by_cases hab : b < a
    · rw [if_pos hab]
      obtain ⟨m, u⟩ := imin_spec l b
      refine ⟨List.mem_cons_of_mem _ m, fun y h => ?_⟩
      rcases List.mem_cons.mp h with z | z
      · have u0 := u b List.mem_cons_self
        omega
      · exact u y z
    · rw [if_neg hab]
      obtain ⟨m, u⟩ := imin_spec l a
      refine ⟨?_, fun y h => ?_⟩
      · rcases List.mem_cons.mp m with z | z
        · rw [z]
          exact List.mem_cons_self
        · exact List.mem_cons_of_mem _ (List.mem_cons_of_mem _ z)
      · have u0 := u a List.mem_cons_self
        rcases List.mem_cons.mp h with z | z
        · omega
        · rcases List.mem_cons.mp z with z | z
          · omega
          · exact u y (List.mem_cons_of_mem _ z)
def dMax : List D → R D
  | [.int i, .int j] => .ok (.int (if j > i then j else i))
  | [.lst ds] => (match intsD ds with
    | some (i :: is) => .ok (.int (imax i is))
    | _ => .no)
  | _ => .no
def dMin : List D → R D
  | [.int i, .int j] => .ok (.int (if j < i then j else i))
  | [.lst ds] => (match intsD ds with
    | some (i :: is) => .ok (.int (imin i is))
    | _ => .no)
  | _ => .no
abbrev rMax2 : List V → Hp → VK → Prop := fun xs H Q => ∃ i j, xs = [.int i, .int j] ∧ Q (.int (if j > i then j else i)) H
abbrev rMin2 : List V → Hp → VK → Prop := fun xs H Q => ∃ i j, xs = [.int i, .int j] ∧ Q (.int (if j < i then j else i)) H
theorem cd_max {K : PySem.W.Frag} {W : WX} : CallD K W (fun xs H Q => rMax2 xs H Q ∨ rMax K xs H Q) dMax := by
  intro σ H0 H xs ds Q s h p
  unfold dMax at p
  split at p
  · obtain ⟨v, w, rfl, a, b⟩ := h.two
    cases a
    cases b
    exact .inl ⟨_, _, rfl, p.v s (.int _)⟩
  · split at p
    · rename_i i is e
      obtain ⟨v, rfl, hv⟩ := h.one
      obtain ⟨a, ws, rfl, q, r⟩ := hv.lstK
      have ew := intsD_ok e r
      subst ew
      refine .inr ⟨a, i :: is, rfl, s.seq (.inl q), Nat.succ_pos _, fun m hm hu => ?_⟩
      obtain ⟨m2, u2⟩ := imax_spec is i
      have em : m = imax i is := Int.le_antisymm (u2 m hm) (hu _ m2)
      rw [em]
      exact p.v s (.int _)
    · exact p.elim
  · exact p.elim
theorem cd_min {K : PySem.W.Frag} {W : WX} : CallD K W (fun xs H Q => rMin2 xs H Q ∨ rMin K xs H Q) dMin := by
  intro σ H0 H xs ds Q s h p
  unfold dMin at p
  split at p
  · obtain ⟨v, w, rfl, a, b⟩ := h.two
    cases a
    cases b
    exact .inl ⟨_, _, rfl, p.v s (.int _)⟩
  · split at p
    · rename_i i is e
      obtain ⟨v, rfl, hv⟩ := h.one
      obtain ⟨a, ws, rfl, q, r⟩ := hv.lstK
      have ew := intsD_ok e r
      subst ew
      refine .inr ⟨a, i :: is, rfl, s.seq (.inl q), Nat.succ_pos _, fun m hm hu => ?_⟩
      obtain ⟨m2, u2⟩ := imin_spec is i
      have em : m = imin i is := Int.le_antisymm (hu _ m2) (u2 m hm)
      rw [em]
      exact p.v s (.int _)
    · exact p.elim
  · exact p.elim
def dSum : List D → R D
  | [.lst ds] => (match intsD ds with
    | some is => .ok (.int is.sum)
    | _ => .no)
  | _ => .no
theorem cd_sum {K : PySem.W.Frag} {W : WX} : CallD K W (rSum K) dSum := by
  intro σ H0 H xs ds Q s h p
  unfold dSum at p
  split at p
  · split at p
    · rename_i is e
      obtain ⟨v, rfl, hv⟩ := h.one
      obtain ⟨a, ws, rfl, q, r⟩ := hv.lstK
      have ew := intsD_ok e r
      subst ew
      exact ⟨a, is, rfl, s.seq (.inl q), p.v s (.int _)⟩
    · exact p.elim
  · exact p.elim
def dAllOf (f : List Bool → Bool) : List D → R D
  | [.lst ds] => (match boolsD ds with
    | some is => .ok (.bl (f is))
    | _ => .no)
  | _ => .no
def dAll : List D → R D := dAllOf fun bs => bs.all id
def dAny : List D → R D := dAllOf fun bs => bs.any id
theorem cd_allOf {K : PySem.W.Frag} {W : WX} {f : List Bool → Bool} : CallD K W (fun vs H Q => ∃ (a : Addr) (bs : List Bool), vs = [V.ref a] ∧ SqL K H a (bs.map V.bl) ∧ Q (.bl (f bs)) H) (dAllOf f) := by
  intro σ H0 H xs ds Q s h p
  unfold dAllOf at p
  split at p
  · split at p
    · rename_i is e
      obtain ⟨v, rfl, hv⟩ := h.one
      obtain ⟨a, ws, rfl, q, r⟩ := hv.lstK
      have ew := boolsD_ok e r
      subst ew
      exact ⟨a, is, rfl, s.seq (.inl q), p.v s (.bl _)⟩
    · exact p.elim
  · exact p.elim
def dInt1 : List D → R D
  | [.int i] => .ok (.int i)
  | [.bl b] => .ok (.int (if b then 1 else 0))
  | [.str x] => if x.length ≤ 640 then (match PySem.intText? x with
    | some n => .ok (.int n)
    | none => .no) else .no
  | _ => .no
abbrev rInt1 : List V → Hp → VK → Prop := fun xs H Q => (∃ i, xs = [.int i] ∧ Q (.int i) H) ∨ ∃ k, xs = [.bl k] ∧ Q (.int (if k then 1 else 0)) H
abbrev rIntS : List V → Hp → VK → Prop := fun xs H Q => ∃ a n, xs = [.str a] ∧ PySem.intText? a = some n ∧ a.length ≤ 640 ∧ Q (.int n) H
theorem cd_int {K : PySem.W.Frag} {W : WX} : CallD K W (fun xs H Q => rInt1 xs H Q ∨ rIntS xs H Q) dInt1 := by
  intro σ H0 H xs ds Q s h p
  unfold dInt1 at p
  split at p
  · obtain ⟨v, rfl, a⟩ := h.one
    cases a
    exact .inl (.inl ⟨_, rfl, p.v s (.int _)⟩)
  · obtain ⟨v, rfl, a⟩ := h.one
    cases a
    exact .inl (.inr ⟨_, rfl, p.v s (.int _)⟩)
  · split at p
    · split at p
      · obtain ⟨v, rfl, a⟩ := h.one
        cases a
        exact .inr ⟨_, _, rfl, by assumption, by assumption, p.v s (.int _)⟩
      · exact p.elim
    · exact p.elim
  · exact p.elim
def dStr1 : List D → R D
  | [.int i] => if i.natAbs.log2 < 1920 then .ok (.str (toString i)) else .no
  | _ => .no
theorem cd_str {K : PySem.W.Frag} {W : WX} : CallD K W (fun xs H Q => ∃ i, xs = [.int i] ∧ i.natAbs.log2 < 1920 ∧ Q (.str (toString i)) H) dStr1 := by
  intro σ H0 H xs ds Q s h p
  unfold dStr1 at p
  split at p
  · split at p
    · obtain ⟨v, rfl, a⟩ := h.one
      cases a
      exact ⟨_, rfl, by assumption, p.v s (.str _)⟩
    · exact p.elim
  · exact p.elim
def dListOf : List D → R (List D)
  | [d] => (match d.seq with
    | some ds => .ok ds
    | none => .no)
  | _ => .no
theorem cn_list {K : PySem.W.Frag} {W : WX} : CallN K W (fun xs H Q => ∃ p ys, xs = [.ref p] ∧ (SqL K H p ys ∨ SqT K H p ys) ∧ ∀ l, H l = none → Q (.ref l) (upd H l (.lst ys))) dListOf := by
  intro σ H0 H xs ds Q s h p
  unfold dListOf at p
  split at p
  · split at p
    · rename_i es e
      obtain ⟨v, rfl, hv⟩ := h.one
      obtain ⟨a, ws, rfl, q, r⟩ := hv.seqK e
      refine ⟨a, ws, rfl, ?_, fun n hn => p.newO s r hn⟩
      rcases q with q | q
      · exact .inl (s.seq q)
      · exact .inr (sqT_mono s q)
    · exact p.elim
  · exact p.elim
def dTupOf : List D → R D
  | [d] => (match d.seq with
    | some ds => .ok (.tup ds)
    | none => .no)
  | _ => .no
theorem cd_tuple {K : PySem.W.Frag} {W : WX} : CallD K W (fun xs H Q => ∃ p ys, xs = [.ref p] ∧ ((SqL K H p ys ∧ ∀ l, H l = none → Q (.ref l) (upd H l (.tup ys))) ∨ (SqT K H p ys ∧ Q (.ref p) H))) dTupOf := by
  intro σ H0 H xs ds Q s h p
  unfold dTupOf at p
  split at p
  · split at p
    · rename_i es e
      obtain ⟨v, rfl, hv⟩ := h.one
      obtain ⟨a, ws, rfl, q, r⟩ := hv.seqK e
      refine ⟨a, ws, rfl, ?_⟩
      rcases q with q | q
      · exact .inl ⟨s.seq q, fun n hn => p.newT s r hn⟩
      · exact .inr ⟨sqT_mono s q, p.v s (.tup q r)⟩
    · exact p.elim
  · exact p.elim
/-! ### isinstance -/
inductive Ty where
  | bool | int | str | tuple | list | dict
def Ty.s : Ty → String
  | .bool => "bool" | .int => "int" | .str => "str" | .tuple => "tuple" | .list => "list" | .dict => "dict"
def isBt : Ty → D → Option Bool
  | .bool, .bl _ => some true
  | .int, .bl _ => some true
  | .int, .int _ => some true
  | .str, .str _ => some true
  | .tuple, .tup _ => some true
  | .list, .lst _ => some true
  | .list, .kst _ => some true
  | .dict, .dct _ _ => some true
  | _, .ty _ => none
  | _, .obj _ _ _ => none
  | _, .exc _ => none
  | _, _ => some false
/-- f tells isinstance(v, u) -/
def IsOf (K : PySem.W.Frag) (u : Value) (f : D → Option Bool) : Prop := ∀ H v d b, Dr K H v d → f d = some b →
  (∃ t, TyX K H v t ∧ PySem.W.kitOne K t u = some b) ∨ (∃ a E, v = .ref a ∧ H a = some (ExH E a) ∧ ExcC K E ∧ PySem.W.kitOne K (.ref E) u = some b)
theorem ty_of {K : PySem.W.Frag} {H : Hp} {v : V} {d : D} (h : Dr K H v d) : match d with
    | .non => TyX K H v (.type "NoneType")
    | .bl _ => TyX K H v (.type "bool")
    | .int _ => TyX K H v (.type "int")
    | .str _ => TyX K H v (.type "str")
    | .tup _ => TyX K H v (.type "tuple")
    | .lst _ => TyX K H v (.type "list")
    | .kst _ => TyX K H v (.type "list")
    | .dct _ _ => TyX K H v (.type "dict")
    | _ => True := by
  cases h with
  | non => exact .base .non
  | bl b => exact .base (.bl b)
  | int i => exact .base (.int i)
  | str x => exact .base (.str x)
  | ty n => trivial
  | tup q r =>
    rcases q with (q | ⟨o, q⟩) | ⟨o, _, _, e, c, _⟩
    · exact .base (.tup q)
    · exact .fTuple q
    · exact .kTuple e c
  | lst q r =>
    rcases q with q | ⟨o, q⟩
    · exact .base (.lst q)
    · exact .base (.frz q)
  | kst q r =>
    rcases q with (q | ⟨o, q⟩) | ⟨o, _, _, e, c, _⟩
    · exact .base (.lst q)
    · exact .base (.frz q)
    · exact .kList e c
  | dct q r => exact .base (.dK q)
  | obj q r => trivial
  | exc q => trivial
theorem isOf_bt {K : PySem.W.Frag} (t : Ty) : IsOf K (.type t.s) (isBt t) := by
  intro H v d b h e
  have z := ty_of h
  refine .inl ?_
  cases d with
  | ty n => cases t <;> cases e
  | obj a b c => cases t <;> cases e
  | exc a => cases t <;> cases e
  | non => cases t <;> (cases e; exact ⟨_, z, kit_ty (by decide +kernel)⟩)
  | bl x => cases t <;> (cases e; exact ⟨_, z, kit_ty (by decide +kernel)⟩)
  | int x => cases t <;> (cases e; exact ⟨_, z, kit_ty (by decide +kernel)⟩)
  | str x => cases t <;> (cases e; exact ⟨_, z, kit_ty (by decide +kernel)⟩)
  | tup x => cases t <;> (cases e; exact ⟨_, z, kit_ty (by decide +kernel)⟩)
  | lst x => cases t <;> (cases e; exact ⟨_, z, kit_ty (by decide +kernel)⟩)
  | kst x => cases t <;> (cases e; exact ⟨_, z, kit_ty (by decide +kernel)⟩)
  | dct x y => cases t <;> (cases e; exact ⟨_, z, kit_ty (by decide +kernel)⟩)
def rIsX (K : PySem.W.Frag) : List V → Hp → VK → Prop := fun xs H Q => ∃ (a E : Addr) (c : V) (u : Value) (b : Bool), xs = [.ref a, c] ∧ ClsV c u ∧ H a = some (ExH E a) ∧ ExcC K E ∧ PySem.W.kitOne K (.ref E) u = some b ∧ Q (.bl b) H
theorem call_isX {X : Cx} : CallR X (.builtin "isinstance") (rIsX X.K) := by
  intro pins s σ H xs us Q I r h
  obtain ⟨a, E, c, u, b, rfl, k, ha, C, e, q⟩ := h
  obtain ⟨u1, u2, rfl, r1, r2⟩ := vals2 r
  have e2 := k.eq r2
  subst e2
  cases r1
  obtain ⟨⟨oe, vs, g, hz, hf⟩, _, _⟩ := I.hok a _ ha
  have J : PySem.W.InstAt s.heap a oe E none := by
    obtain ⟨oc, od, oda, osl⟩ := oe
    obtain ⟨h1, h2⟩ := hz
    dsimp only at h1 h2 hf
    subst h1 h2 hf
    exact ⟨g, rfl, rfl, trivial⟩
  exact PySem.W.kia_one (PySem.W.handS_kitx_exc C.hg C.hk C.hs C.hd C.ha C.hn C.ht C.hm) I.kIn J e (fun z => nomatch z) fun tk => ⟨.bl b, H, I.kept (t' := tk) fun _ _ z => z, rfl, q⟩
def rIsAny (K : PySem.W.Frag) : List V → Hp → VK → Prop := fun xs H Q => rIsi K xs H Q ∨ rIsX K xs H Q
theorem call_isAny {X : Cx} : CallR X (.builtin "isinstance") (rIsAny X.K) := CallR.or call_isi call_isX
def dIsi (f : D → Option Bool) (d : D) : R D := match f d with
  | some b => .ok (.bl b)
  | none => .no
theorem ev_isi {K : PySem.W.Frag} {W : WX} {ta : TE} {ca : C} {f : D → Option Bool} {c : V} {u : Value} (hc : ClsV c u) (hf : IsOf K u f) (ha : Ev K W (SV K) ta ca) : Ev K W (SV K) (tCB (rIsAny K) (tCons ta (tCons (tC c) tNil))) (cUn (dIsi f) ca) :=
  ev_unG (r := fun x H Q => rIsAny K [x, c] H Q) downV ha fun σ H0 H x d Q s q p => by
    unfold dIsi at p
    split at p
    · rename_i b e
      rcases hf H x d b (q.mono s) e with ⟨t, ty, k⟩ | ⟨a, E, rfl, h1, h2, k⟩
      · exact .inl ⟨x, c, t, u, b, rfl, hc, ty, k, p.v s (.bl b)⟩
      · exact .inr ⟨a, E, c, u, b, rfl, hc, h1, h2, k, p.v s (.bl b)⟩
    · exact p.elim
end Dw
namespace Dw
open PySem L2 PyProof.Rows
/-! ### a def's promise where no repr is under way -/
structure FnG (P : Program) (w : World) (K : PySem.W.Frag) (mg : Str → Option Value) (base : Heap) (k : Nat) (f : Addr) (fd : FuncData) (ps : List Str) (sp : Sp) : Prop where
  arity : ∀ vs H Q E, sp vs H Q E → vs.length = ps.length
  go : ∀ (A : Around) (fr : List Env) (s : Shared) (H : Hp) (ar : Args) (us : List Value) (vs : List V) (Q : VK) (E : XK), Room k A ∧ A.guards = some [] → Env0 P w K mg base A fr s H → BindsTo s fd ar (ps.zip us) → Vals vs us → sp vs H Q E →
    codeAny (model P w) A (.call (.ref f) ar) (CR (L2.CX P w) fr P w H s Q E) s
theorem FnG.mono {P : Program} {w : World} {K : PySem.W.Frag} {mg : Str → Option Value} {base : Heap} {j k : Nat} {f : Addr} {fd : FuncData} {ps : List Str} {sp : Sp} (F : FnG P w K mg base j f fd ps sp) (h : j ≤ k) : FnG P w K mg base k f fd ps sp where
  arity := F.arity
  go := fun A fr s H ar us vs Q E hr => F.go A fr s H ar us vs Q E ⟨hr.1.mono h, hr.2⟩
section
variable {X : Cx} {k : Nat} {f : Addr} {fd : FuncData} {ps : List Str} {sp : Sp} {dvs : List V} {ds : List Value} {E : L2.St → XK} {x : Str} {p pos : Pos} {e : Expr} {es : List Expr} {t : TA}
theorem call_G {pins : List (Addr × Obj)} {σ : L2.St} {H : Hp} {s : Shared} {Q : VK} {us : List Value} {vs : List V} (F : FnG X.prog X.w X.K X.mg X.base k f fd ps sp) (hr : Room k X.A ∧ X.A.guards = some []) (hb : Binds X.K fd ps ds) (hd : Vals dvs ds)
    (hx : PassesAt (L2.CX X.prog X.w) X σ (E σ)) (I : Inv X pins σ H s) (r : Vals vs us) (h : sp (vs ++ dvs) H Q (E σ)) : wpAny (model X.prog X.w) X.A (call (.ref f) us) (EP X pins σ Q) X.xe s := by
  have all := r.append hd
  have num : (us ++ ds).length = ps.length := all.length.symm.trans (F.arity _ _ _ _ h)
  have c := F.go X.A X.stack s H ⟨us, []⟩ (us ++ ds) (vs ++ dvs) Q (E σ) hr I.env0 (hb s us I.kIn num) all h
  refine wpAny_call (codeAny_mono c ?_)
  rintro (e | fl) s2 hq
  · exact hx pins H s e s2 I hq
  · rcases fl with _ | _ | _ | u
    all_goals first | exact I.after hq | exact False.elim hq
theorem pe_callG (F : FnG X.prog X.w X.K X.mg X.base k f fd ps sp) (hr : Room k X.A ∧ X.A.guards = some []) (hg : Gl X x) (hm : X.mg x = some (.ref f)) (hk : PySem.W.keepIn X.K (.ref f) = true) (hb : Binds X.K fd ps ds) (hd : Vals dvs ds) (hx : ∀ σ, PassesAt (L2.CX X.prog X.w) X σ (E σ))
    (ha : PA X (e :: es) t) (hdb : (x == ("__debug__" : Str)) = false) (he : starEach (e :: es) X.env = (false, eval e X.env) :: starEach es X.env) (hpl : (backTo pos (starEach es X.env)).any (·.1) = false) :
    PE X (.Call (.Name x p) (e :: es) [] pos) (tCallSD sp dvs E t) := by
  constructor
  intro pins s σ H Q I h
  apply wpAny_Call_Name_kw
  refine ld_glob I hg hm ?_ hdb
  refine PySem.W.callWith_K (h₀ := X.base) I.ok.mod.kin hk ?_ he hpl
  refine thn (ha.run pos pins s σ H _ I h) ?_
  rintro us s1 ⟨vs, H1, I1, r, q⟩
  exact ⟨I1.kIn, call_G F hr hb hd (hx σ) I1 r q⟩
end
section
variable {P : Program} {w : World} {K : PySem.W.Frag} {mg : Str → Option Value} {base : Heap} {x qual : Str} {params : Arguments} {bd : List Stmt} {scope : Scope} {dvs : List V} {kws : List (Str × V)} {f : Addr} {fd : FuncData} {N ps : List Str} {k : Nat} {sp : Sp}
/-- a def keeps its promise by its body -/
theorem fnG_of (F : FunD K x qual params bd scope dvs kws f fd) (S : FnScope N ps scope) (ar : ∀ vs H Q E, sp vs H Q E → vs.length = ps.length)
    (hb : ∀ (cd : Value) (A : Around) (fr : List Env) (s : Shared) (H : Hp) (vs : List V) (Q : VK) (E : XK), Room k (A.deeper (envOfC qual scope s.heap.objs.size f cd)) → A.guards = some [] → sp vs H Q E →
      ∃ t, PSs (cxOf (L2.CX P w) P w K mg base N qual scope f cd A fr s H E) bd t ∧ t { nx := fun _ J => Q .non J, rt := Q } (start N vs) H) : FnG P w K mg base (k + 1) f fd ps sp := by
  obtain ⟨oc, od, dV, kV, doc, pm, an, cdv, ct, osl, rfl, lk, hcd, -, -⟩ := F.ex
  refine ⟨ar, fun A fr s H a us vs Q E hr e0 bi r hs => ?_⟩
  obtain ⟨hr, hgu⟩ := hr
  have old : ∀ b o, base.get? b = some o → s.heap.get? b = some o := fun b o e => (e0.bs b o e).1
  have KX := e0.mod.kin.keeps old
  have lim := e0.mod.nolimit.keeps old
  have kinds : ∀ y ∈ ps.zip us, scope.names.lookup y.1 = some .local ∨ (scope.names.lookup y.1 = some .cell ∧ ((cellsFrom (s.heap.objs.size + 1) scope.names []).lookup y.1).isSome = true) := by
    rintro ⟨n, v⟩ hy
    exact (S.par n (List.of_mem_zip hy).1).imp (fun q => q) fun q => ⟨q, PySem.W.cellsFrom_some _ _ _ (.inl q)⟩
  obtain ⟨t, pt, qt⟩ := hb cdv A fr s H vs Q E (hr.deeper _) hgu hs
  apply codeAny_call_function hr.depth (KX _ _ lk) rfl S.co S.gen rfl (PySem.W.codeRec_of KX hcd)
  apply bi
  apply wpAny_newFunctionEnv_cells S.kind kinds
  rintro env rfl s1 new
  have I : Inv (cxOf (L2.CX P w) P w K mg base N qual scope f cdv A fr s H E) [] (start N vs) H s1 := inv_start S hr.hd e0 (ar _ _ _ _ hs) r new
  refine ⟨lim.keeps new.toInCall.keep, codeAny_func (wpAny_mono (pt.run [] s1 _ H _ I qt) ?_ fun _ _ z => z)⟩
  rintro (_ | _ | _ | u) s2 z
  · obtain ⟨σ', J, I2, q⟩ := z
    exact ⟨V.non, J, I2.os, I2.bare, I2.base, I2.hok, rfl, q⟩
  · obtain ⟨_, _, _, q⟩ := z
    exact q.elim
  · obtain ⟨_, _, _, q⟩ := z
    exact q.elim
  · obtain ⟨v, σ', J, I2, rv, q⟩ := z
    exact ⟨v, J, I2.os, I2.bare, I2.base, I2.hok, rv, q⟩
end
/-! ### repr -/
def rRepr (K : PySem.W.Frag) : List V → Hp → VK → Prop := fun xs H Q => ∃ x d, xs = [x] ∧ ((Dp K H x d ∧ d.canLay0 = true ∧ d.depth ≤ 20) ∨ (d = .dict [] ∧ ∃ a, x = .ref a ∧ H a = some (.dK []))) ∧ d.showable = true ∧ d.shown.length ≤ sizeLine ∧ Q (.str d.shown) H
theorem call_repr {X : Cx} (gu : X.A.guards = some []) (hu : X.A.units + 40 < cLine) : CallR X (.builtin "repr") (rRepr X.K) := by
  intro pins s σ H xs us Q I r h
  obtain ⟨x, d, rfl, hd, hs, hz, q⟩ := h
  obtain ⟨u, rfl, ru⟩ := r.one
  have big : ∀ {a : Addr} {as : List Addr}, Reads s.heap (.ref a) d as → (d.hasDict = true → sysModules ∉ as) → d.depth ≤ 20 → wpAny (model X.prog X.w) X.A (call (.builtin "repr") [.ref a]) (EP X pins σ Q) X.xe s := fun {a as} rd hn hdep =>
    repr_of_reads' rd hs hn gu (by omega) (fun _ _ e => e) (fun h' u tk hk => ⟨.str _, H, I.kept hk, ⟨_, rfl⟩, q⟩) hz
  rcases hd with ⟨hd, hc, hdep⟩ | ⟨rfl, a, rfl, ha⟩
  · obtain ⟨as, rd⟩ := Dp.reads I d x u hd ru
    have nd := PyData.noDict_hsm (as := as) (PyData.hasDict_of_canLay d hc)
    cases rd with
    | none => exact PySem.P.repr_of_none ⟨.str _, H, I.tok _, ⟨_, rfl⟩, q⟩
    | bool b => exact PySem.P.repr_of_bool ⟨.str _, H, I.tok _, ⟨_, rfl⟩, q⟩
    | int i t => exact PySem.P.repr_of_int (by simpa [PyData.showable] using hs) ⟨.str _, H, I.tok _, ⟨_, rfl⟩, q⟩
    | str y t => exact PySem.P.repr_of_str ⟨.str _, H, I.tok _, ⟨_, rfl⟩, q⟩ (by simpa only [PyData.shown] using hz)
    | list h1 h2 h3 h4 => exact big (.list h1 h2 h3 h4) nd hdep
    | tuple h1 h2 h3 h4 => exact big (.tuple h1 h2 h3 h4) nd hdep
    | dict h1 h2 h3 h4 h5 => cases hc
  · cases ru
    obtain ⟨_, hsm, vs, kv, o, ees, ep, ho, hx, hda, -, hp, -⟩ := dk_of I.hok ha
    have hv : vs = [] := by cases kv; rfl
    subst hv
    have he : ees.toList = [] := List.length_eq_zero_iff.mp (Pairs.length hp)
    refine big (as := [a]) (.dict (kvs := []) (as := []) (bs := []) ho hx.1 hda ?_ ?_) (fun _ hm => ?_) (by simp [PyData.depth, PyData.depthKv])
    · rw [he]; exact .nil
    · rw [he]; exact .nil
    · rw [← List.mem_singleton.mp hm] at hsm
      simp at hsm
end Dw
namespace Dw
open PySem L2 PyProof.Rows
/-! ### truth -/
def dTru : D → R Bool
  | .non => .ok false
  | .bl b => .ok b
  | .int i => .ok (i != 0)
  | .str y => if y.length ≤ sizeLine then .ok ((y.length : Int) != 0) else .no
  | .tup ds => .ok (!ds.isEmpty)
  | .lst ds => .ok (!ds.isEmpty)
  | .kst ds => .ok (!ds.isEmpty)
  | .dct _ ds => .ok (!ds.isEmpty)
  | _ => .no
theorem DrAll.isEmpty {K : PySem.W.Frag} {H : Hp} {vs : List V} {ds : List D} (h : DrAll K H vs ds) : vs.isEmpty = ds.isEmpty := by
  cases h <;> rfl
theorem tru_ok {K : PySem.W.Frag} {W : WX} : ∀ σ H0 H x d Q, Same H0 H → Dr K H0 x d → Post K W σ H0 H SB (dTru d) Q → ∃ k, TruV K x H k ∧ Q k H := by
  intro σ H0 H x d Q s h p
  have fin : ∀ k, dTru d = .ok k → TruV K x H k → ∃ k, TruV K x H k ∧ Q k H := fun k e t => by
    rw [e] at p
    exact ⟨k, t, Post.here p s rfl⟩
  cases h with
  | non => exact fin _ rfl rfl
  | bl b => exact fin _ rfl rfl
  | int i => exact fin _ rfl rfl
  | str y =>
    have p' : Post K W σ H0 H SB (if y.length ≤ sizeLine then R.ok ((y.length : Int) != 0) else R.no) Q := p
    split at p'
    · exact ⟨_, ⟨by assumption, rfl⟩, Post.here p' s rfl⟩
    · exact p'.elim
  | ty n => exact p.elim
  | tup q r => exact fin _ rfl (.inr (.inl ⟨_, sqT_mono s q, by rw [r.isEmpty]⟩))
  | lst q r => exact fin _ rfl (.inl ⟨_, s.seq (.inl q), by rw [r.isEmpty]⟩)
  | kst q r => exact fin _ rfl (.inl ⟨_, s.seq q, by rw [r.isEmpty]⟩)
  | dct q r => exact fin _ rfl (.inr (.inr ⟨_, s _ _ q, by rw [← r.isEmpty, List.isEmpty_map]⟩))
  | obj q r => exact p.elim
  | exc q => exact p.elim
def plainTest : Expr → Bool
  | .UnaryOp .Not _ _ => false
  | .BoolOp _ _ _ => false
  | .IfExp _ _ _ _ => false
  | .Compare _ _ _ _ => false
  | _ => true
theorem isTrue_of {e : Expr} {env : Env} (h : plainTest e = true) : ∀ whole, isTrue e env whole = (do let v ← whole; standAt e.pos; holding [v] (truthy v)) := by
  intro whole
  cases e with
  | UnaryOp op x p => cases op <;> first | rfl | cases h
  | BoolOp _ _ _ => cases h
  | IfExp _ _ _ _ => cases h
  | Compare _ _ _ _ => cases h
  | _ => rfl
def asB : D → R Bool
  | .bl b => .ok b
  | _ => .no
section
variable {X : Cx} {W : WX}
theorem st_tru {e : Expr} {c : C} (h : SE X W e c) (hp : plainTest e = true) : ST X W e (cUn dTru c) := by
  obtain ⟨t, p, v⟩ := h
  exact ⟨_, pt_truth p (isTrue_of hp), ev_unG downB v tru_ok⟩
/-- a comparison as a test -/
theorem st_cmp {a b : Expr} {op : CmpOp} {pos : Pos} {r : R2} {f : D → D → R D} {ca cb : C} (ho : OpR X (compareOp op) r) (hd : OpD X.K W r f) (ha : SE X W a ca) (hb : SE X W b cb) (hm : behindInMarks op b = false) :
    ST X W (.Compare a [op] [b] pos) (cBin (fun d e => (f d e).bind asB) ca cb) := by
  obtain ⟨t, p, v⟩ := ha
  obtain ⟨u, q, w⟩ := hb
  refine ⟨_, pt_cmpR ho p q hm, ev_binG (r := fun x y H Q => r x y H fun z H' => ∃ k, z = .bl k ∧ Q k H') downB v w fun σ H0 H x y d e Q s h1 h2 p => ?_⟩
  refine hd σ H0 H x y d e _ s h1 h2 ?_
  cases z : f d e with
  | ok g =>
    rw [z] at p
    intro A B x2 st q2
    cases q2 with
    | bl k => exact ⟨k, rfl, p A B k st rfl⟩
    | _ => exact p.elim
  | ex C =>
    rw [z] at p
    exact p
  | no =>
    rw [z] at p
    exact p
theorem se_cmp {a b : Expr} {op : CmpOp} {pos : Pos} {r : R2} {f : D → D → R D} {ca cb : C} (ho : OpR X (compareOp op) r) (hd : OpD X.K W r f) (ha : SE X W a ca) (hb : SE X W b cb) (hm : behindInMarks op b = false) :
    SE X W (.Compare a [op] [b] pos) (cBin f ca cb) := by
  obtain ⟨t, p, v⟩ := ha
  obtain ⟨u, q, w⟩ := hb
  exact ⟨_, pe_cmpR ho p q hm, ev_binG downV v w hd⟩
/-- a < b < c -/
def kChain (g : D → D → R D) (cc : C) (y : D) (δ : List Sl) : D → R D
  | .bl true => (cc δ).bind fun w => g y w
  | .bl false => .ok (.bl false)
  | _ => .no
def cChain (f g : D → D → R D) (ca cb cc : C) : C := fun δ => (ca δ).bind fun x => (cb δ).bind fun y => (f x y).bind fun z => kChain g cc y δ z
theorem ev_chain {K : PySem.W.Frag} {ta tb tc : TE} {ca cb cc : C} {r r' : R2} {f g : D → D → R D} (hd : OpD K W r f) (hd' : OpD K W r' g) (ha : Ev K W (SV K) ta ca) (hb : Ev K W (SV K) tb cb) (hc : Ev K W (SV K) tc cc) :
    Ev K W (SV K) (tChain r r' ta tb tc) (cChain f g ca cb cc) := by
  intro G0 G δ σ H0 H Q rl p
  have p' : Post K W σ H0 H (SV K) ((ca δ).bind fun x => (cb δ).bind fun y => (f x y).bind fun z => kChain g cc y δ z) Q := p
  refine ha G0 G δ σ H0 H _ rl ?_
  cases e : ca δ with
  | ok d =>
    rw [e] at p'
    intro A B x s q
    refine hb G0 G δ σ A B _ (rl.step s) ?_
    have p2 : Post K W σ H0 H (SV K) ((cb δ).bind fun y => (f d y).bind fun z => kChain g cc y δ z) Q := p'
    cases e2 : cb δ with
    | ok d2 =>
      rw [e2] at p2
      intro A2 B2 y s2 q2
      refine hd σ A2 B2 x y d d2 _ (rl.step (s.trans s2)).same (Dr.mono s2.e0 _ q) q2 ?_
      have p3 : Post K W σ A2 B2 (SV K) ((f d d2).bind fun z => kChain g cc d2 δ z) Q := Post.mono downV p2 (s.trans s2)
      cases e3 : f d d2 with
      | ok z =>
        rw [e3] at p3
        have p4 : Post K W σ A2 B2 (SV K) (kChain g cc d2 δ z) Q := p3
        intro A3 B3 v s3 q3
        cases q3 with
        | bl k =>
          refine ⟨k, rfl, ?_⟩
          cases k with
          | true =>
            have p5 : Post K W σ A2 B2 (SV K) ((cc δ).bind fun w => g d2 w) Q := p4
            rw [if_pos rfl]
            refine hc G0 G δ σ A3 B3 _ ((rl.step (s.trans s2)).step s3) ?_
            cases e4 : cc δ with
            | ok d4 =>
              rw [e4] at p5
              intro A4 B4 w s4 q4
              exact hd' σ A4 B4 y w d2 d4 Q ((rl.step (s.trans s2)).step (s3.trans s4)).same (Dr.mono (s3.trans s4).e0 _ q2) q4 (Post.mono downV p5 (s3.trans s4))
            | ex C =>
              rw [e4] at p5
              exact Post.mono (S := SV K) downV p5 s3
            | no =>
              rw [e4] at p5
              exact p5
          | false =>
            rw [if_neg (by decide)]
            have p5 : Post K W σ A2 B2 (SV K) (.ok (.bl false)) Q := p4
            exact p5 A3 B3 _ s3 (.bl false)
        | _ => exact p4.elim
      | ex C =>
        rw [e3] at p3
        exact p3
      | no =>
        rw [e3] at p3
        exact p3
    | ex C =>
      rw [e2] at p2
      exact Post.mono (S := SV K) downV p2 s
    | no =>
      rw [e2] at p2
      exact p2
  | ex C =>
    rw [e] at p'
    exact p'
  | no =>
    rw [e] at p'
    exact p'
theorem se_chain {a b c : Expr} {op op' : CmpOp} {pos : Pos} {r r' : R2} {f g : D → D → R D} {ca cb cc : C} (ho : OpR X (compareOp op) r) (hd : OpD X.K W r f) (ho' : OpR X (compareOp op') r') (hd' : OpD X.K W r' g) (ha : SE X W a ca) (hb : SE X W b cb) (hc : SE X W c cc) (hm : lastMarks [op, op'] [b, c] = false) :
    SE X W (.Compare a [op, op'] [b, c] pos) (cChain f g ca cb cc) := by
  obtain ⟨t, p, v⟩ := ha
  obtain ⟨u, q, w⟩ := hb
  obtain ⟨u2, q2, w2⟩ := hc
  exact ⟨_, pe_chain ho ho' p q q2 hm, ev_chain hd hd' v w w2⟩
theorem se_op {a b : Expr} {op : Operator} {pos : Pos} {r : R2} {f : D → D → R D} {ca cb : C} (ho : OpR X (binaryOp op) r) (hd : OpD X.K W r f) (ha : SE X W a ca) (hb : SE X W b cb) : SE X W (.BinOp a op b pos) (cBin f ca cb) := by
  obtain ⟨t, p, v⟩ := ha
  obtain ⟨u, q, w⟩ := hb
  exact ⟨_, pe_op ho p q, ev_binG downV v w hd⟩
theorem sn_op {a b : Expr} {op : Operator} {pos : Pos} {r : R2} {f : D → D → R (List D)} {ca cb : C} (ho : OpR X (binaryOp op) r) (hd : OpN X.K W r f) (ha : SE X W a ca) (hb : SE X W b cb) : SN X W (.BinOp a op b pos) (cBin f ca cb) := by
  obtain ⟨t, p, v⟩ := ha
  obtain ⟨u, q, w⟩ := hb
  exact ⟨_, pe_op ho p q, ev_binG downW v w hd⟩
/-! ### not, and, or -/
def cNotB (c : CB) : CB := fun δ => (c δ).bind fun b => .ok (!b)
theorem st_not {e : Expr} {pos : Pos} {c : CB} (h : ST X W e c) : ST X W (.UnaryOp .Not e pos) (cNotB c) := by
  obtain ⟨t, p, v⟩ := h
  refine ⟨_, pt_not p, Ev.bind (Sa := SB) (f := fun b _ => .ok (!b)) downB v fun a b G0 G δ σ Hs H0 H Q r q p => ?_⟩
  cases q
  exact Post.here p r.same rfl
def dNotV : D → R D
  | .bl b => .ok (.bl (!b))
  | _ => .no
theorem se_not {e : Expr} {pos : Pos} {c : C} (h : SE X W e c) : SE X W (.UnaryOp .Not e pos) (cUn dNotV c) := by
  obtain ⟨t, p, v⟩ := h
  refine ⟨_, pe_not p, ev_unG (r := fun x H1 Q => ∃ c, x = .bl c ∧ Q (.bl (!c)) H1) downV v fun σ H0 H x d Q s h p => ?_⟩
  unfold dNotV at p
  split at p
  · cases h
    exact ⟨_, rfl, p.v s (.bl _)⟩
  · exact p.elim
def cAndB : List CB → CB
  | [] => cNoB
  | [c] => c
  | c :: cs => fun δ => (c δ).bind fun b => if b = true then cAndB cs δ else .ok false
def cOrB : List CB → CB
  | [] => cNoB
  | [c] => c
  | c :: cs => fun δ => (c δ).bind fun b => if b = true then .ok true else cOrB cs δ
inductive All2 {α β : Type} (P : α → β → Prop) : List α → List β → Prop
  | nil : All2 P [] []
  | cons {a : α} {b : β} {as : List α} {bs : List β} : P a b → All2 P as bs → All2 P (a :: as) (b :: bs)
theorem sw_and {pos : Pos} : ∀ {es : List Expr} {cs : List CB}, All2 (ST X W) es cs → ∃ t, PW X (.BoolOp .And es pos) t ∧ Ev X.K W SB t (cAndB cs)
  | _, _, .nil => ⟨fun _ _ _ => False, ⟨fun _ _ _ _ _ _ _ h => h.elim⟩, fun _ _ _ _ _ _ _ _ p => p⟩
  | _, _, .cons h .nil => by
    obtain ⟨t, p, v⟩ := h
    exact ⟨t, pw_and1 p, v⟩
  | _, _, .cons h (.cons h2 r) => by
    obtain ⟨t, p, v⟩ := h
    obtain ⟨u, q, w⟩ := sw_and (.cons h2 r)
    refine ⟨_, pw_and p q, Ev.bind (Sa := SB) (f := fun b δ => if b = true then cAndB _ δ else .ok false) downB v fun a b G0 G δ σ Hs H0 H Q rl e p => ?_⟩
    have e : b = a := e
    subst e
    cases b with
    | true => exact w G0 G δ σ H0 H Q rl p
    | false => exact Post.here p rl.same rfl
theorem sw_or {pos : Pos} : ∀ {es : List Expr} {cs : List CB}, All2 (ST X W) es cs → ∃ t, PW X (.BoolOp .Or es pos) t ∧ Ev X.K W SB t (cOrB cs)
  | _, _, .nil => ⟨fun _ _ _ => False, ⟨fun _ _ _ _ _ _ _ h => h.elim⟩, fun _ _ _ _ _ _ _ _ p => p⟩
  | _, _, .cons h .nil => by
    obtain ⟨t, p, v⟩ := h
    exact ⟨t, pw_or1 p, v⟩
  | _, _, .cons h (.cons h2 r) => by
    obtain ⟨t, p, v⟩ := h
    obtain ⟨u, q, w⟩ := sw_or (.cons h2 r)
    refine ⟨_, pw_or p q, Ev.bind (Sa := SB) (f := fun b δ => if b = true then .ok true else cOrB _ δ) downB v fun a b G0 G δ σ Hs H0 H Q rl e p => ?_⟩
    have e : b = a := e
    subst e
    cases b with
    | true => exact Post.here p rl.same rfl
    | false => exact w G0 G δ σ H0 H Q rl p
theorem st_and {pos : Pos} {es : List Expr} {cs : List CB} (h : All2 (ST X W) es cs) : ST X W (.BoolOp .And es pos) (cAndB cs) := by
  obtain ⟨t, p, v⟩ := sw_and (pos := pos) h
  exact ⟨t, p.pt, v⟩
theorem st_or {pos : Pos} {es : List Expr} {cs : List CB} (h : All2 (ST X W) es cs) : ST X W (.BoolOp .Or es pos) (cOrB cs) := by
  obtain ⟨t, p, v⟩ := sw_or (pos := pos) h
  exact ⟨t, p.pt, v⟩
/-- .. as values, truths all but the last -/
def cAndV : List C → C
  | [] => cNo
  | [c] => c
  | c :: cs => fun δ => (c δ).bind fun d => match d with
    | .bl true => cAndV cs δ
    | .bl false => .ok (.bl false)
    | _ => .no
def cOrV : List C → C
  | [] => cNo
  | [c] => c
  | c :: cs => fun δ => (c δ).bind fun d => match d with
    | .bl true => .ok (.bl true)
    | .bl false => cOrV cs δ
    | _ => .no
theorem se_and {pos : Pos} : ∀ {es : List Expr} {cs : List C}, All2 (SE X W) es cs → SE X W (.BoolOp .And es pos) (cAndV cs)
  | _, _, .nil => se_none
  | _, _, .cons h .nil => by
    obtain ⟨t, p, v⟩ := h
    exact ⟨t, pe_one p, v⟩
  | _, _, .cons h (.cons h2 r) => by
    obtain ⟨t, p, v⟩ := h
    obtain ⟨u, q, w⟩ := se_and (pos := pos) (.cons h2 r)
    refine ⟨_, pe_and p q, Ev.bind (f := fun d δ => match d with
      | .bl true => cAndV _ δ
      | .bl false => .ok (.bl false)
      | _ => .no) downV v fun a b G0 G δ σ Hs H0 H Q rl e p => ?_⟩
    cases e with
    | bl k =>
      cases k with
      | true => exact ⟨true, rfl, w G0 G δ σ H0 H Q rl p⟩
      | false => exact ⟨false, rfl, p.v rl.same (.bl _)⟩
    | _ => exact p.elim
theorem se_or {pos : Pos} : ∀ {es : List Expr} {cs : List C}, All2 (SE X W) es cs → SE X W (.BoolOp .Or es pos) (cOrV cs)
  | _, _, .nil => se_none
  | _, _, .cons h .nil => by
    obtain ⟨t, p, v⟩ := h
    exact ⟨t, pe_one p, v⟩
  | _, _, .cons h (.cons h2 r) => by
    obtain ⟨t, p, v⟩ := h
    obtain ⟨u, q, w⟩ := se_or (pos := pos) (.cons h2 r)
    refine ⟨_, pe_or p q, Ev.bind (f := fun d δ => match d with
      | .bl true => .ok (.bl true)
      | .bl false => cOrV _ δ
      | _ => .no) downV v fun a b G0 G δ σ Hs H0 H Q rl e p => ?_⟩
    cases e with
    | bl k =>
      cases k with
      | true => exact ⟨true, rfl, p.v rl.same (.bl _)⟩
      | false => exact ⟨false, rfl, w G0 G δ σ H0 H Q rl p⟩
    | _ => exact p.elim
/-! ### a if t else b -/
def cIf {α : Type} (t : CB) (a b : List Sl → R α) : List Sl → R α := fun δ => (t δ).bind fun k => if k = true then a δ else b δ
theorem ev_if {K : PySem.W.Frag} {S : Sat D V} (hS : Down S) {tt : TT} {ta tb : TE} {ct : CB} {ca cb : C} (h : Ev K W SB tt ct) (ha : Ev K W S ta ca) (hb : Ev K W S tb cb) : Ev K W S (tIf tt ta tb) (cIf ct ca cb) :=
  Ev.bind (Sa := SB) (f := fun k δ => if k = true then ca δ else cb δ) hS h fun a b G0 G δ σ Hs H0 H Q rl e p => by
    have e : b = a := e
    subst e
    cases b with
    | true => exact ha G0 G δ σ H0 H Q rl p
    | false => exact hb G0 G δ σ H0 H Q rl p
theorem se_if {t a b : Expr} {pos : Pos} {ct : CB} {ca cb : C} (h : ST X W t ct) (ha : SE X W a ca) (hb : SE X W b cb) : SE X W (.IfExp t a b pos) (cIf ct ca cb) := by
  obtain ⟨t, p, v⟩ := h
  obtain ⟨u, q, w⟩ := ha
  obtain ⟨u2, q2, w2⟩ := hb
  exact ⟨_, pe_ifExp p q q2, ev_if downV v w w2⟩
end
/-! ### defs -/
inductive Rs where
  | ok (d : D)
  | okl (ds : List D)
  | ex (C : Str)
  | no
/-- what a def answers: sem, of its arguments -/
def Ans (K : PySem.W.Frag) (H0 H : Hp) (r : Rs) (Q : VK) (E : XK) : Prop := match r with
  | .ok d => ∀ H0' H' v, Stp H0 H H0' H' → Dr K H0' v d → Q v H'
  | .okl es => ∀ H0' H' v, Stp H0 H H0' H' → SW K H H0' H' v es → Q v H'
  | .ex C => ∀ H0' H', Stp H0 H H0' H' → E (.ref (He.ga K C)) none H'
  | .no => False
def spF (K : PySem.W.Frag) (n : Nat) (sem : List D → Rs) : Sp := fun vs H Q E => vs.length = n ∧ ∃ H0 ds, Same H0 H ∧ DrAll K H0 vs ds ∧ Ans K H0 H (sem ds) Q E
/-- the def of the name x, called with m arguments, answers sem -/
structure FK (P : Program) (w : World) (K : PySem.W.Frag) (mg : Str → Option Value) (base : Heap) (k : Nat) (x : Str) (m : Nat) (sem : List D → Rs) : Prop where
  ex : ∃ (fd : FuncData) (ps : List Str) (ds : List Value) (dvs : List V) (dd : List D) (sem0 : List D → Rs), FnG P w K mg base k (He.ga K x) fd ps (spF K ps.length sem0) ∧ Binds K fd ps ds ∧ Vals dvs ds ∧
    (∀ H, DrAll K H dvs dd) ∧ m + dd.length = ps.length ∧ ∀ as, as.length = m → sem as = sem0 (as ++ dd)
  gl : mg x = some (.ref (He.ga K x))
  kp : PySem.W.keepIn K (.ref (He.ga K x)) = true
  db : (x == ("__debug__" : Str)) = false
def rsV : Rs → R D
  | .ok d => .ok d
  | .okl es => .ok (.lst es)
  | .ex C => .ex C
  | .no => .no
def rsN : Rs → R (List D)
  | .okl es => .ok es
  | .ex C => .ex C
  | _ => .no
def cCall (m : Nat) (f : List D → Rs) (a : CA) : C := fun δ => (a δ).bind fun ds => if ds.length = m then rsV (f ds) else .no
def cCallN (m : Nat) (f : List D → Rs) (a : CA) : CA := fun δ => (a δ).bind fun ds => if ds.length = m then rsN (f ds) else .no
section
variable {X : Cx} {W : WX}
theorem ans_of {K : PySem.W.Frag} {σ : L2.St} {H0 H : Hp} {r : Rs} {Q : VK} (p : Post K W σ H0 H (SV K) (rsV r) Q) : Ans K H0 H r Q (WE W σ) := by
  cases r with
  | ok d => exact p
  | okl es => exact post_L (r := .ok es) p
  | ex C => exact p
  | no => exact p
theorem ansN_of {K : PySem.W.Frag} {σ : L2.St} {H0 H : Hp} {r : Rs} {Q : VK} (p : Post K W σ H0 H (SW K) (rsN r) Q) : Ans K H0 H r Q (WE W σ) := by
  cases r with
  | ok d => exact p.elim
  | okl es => exact p
  | ex C => exact p
  | no => exact p
theorem ev_fk {K : PySem.W.Frag} {α : Type} {S : Sat α V} (hS : Down S) {m : Nat} {sem sem0 : List D → Rs} {dvs : List V} {dd : List D} {n : Nat} {t : TA} {ca : CA} (g : Rs → R α) (hg : ∀ σ H0 H r Q, Post K W σ H0 H S (g r) Q → Ans K H0 H r Q (WE W σ))
    (rd : ∀ H, DrAll K H dvs dd) (hm : m + dd.length = n) (hs : ∀ as, as.length = m → sem as = sem0 (as ++ dd)) (v : Ev K W (SA K) t ca) :
    Ev K W S (tCallSD (spF K n sem0) dvs (WE W) t) (fun δ => (ca δ).bind fun ds => if ds.length = m then g (sem ds) else .no) :=
  Ev.bind (f := fun ds _ => if ds.length = m then g (sem ds) else .no) hS v fun ds vs G0 G δ σ Hs H0 H Q rl q p => by
    split at p
    · rename_i hl
      have hv := DrAll.length q
      refine ⟨?_, H0, ds ++ dd, rl.same, DrAll.append q (rd H0), ?_⟩
      · have h3 := (rd H0).length
        rw [List.length_append]
        omega
      · rw [← hs ds hl]
        exact hg _ _ _ _ _ p
    · exact p.elim
theorem se_call {k m : Nat} {x : Str} {sem : List D → Rs} {e : Expr} {es : List Expr} {p pos : Pos} {ca : CA} (F : FK X.prog X.w X.K X.mg X.base k x m sem) (hr : Room k X.A ∧ X.A.guards = some []) (hg : Gl X x) (tk : Takes X W) (ha : SL X W (e :: es) ca) (h1 : plainArg e = true) (h2 : es.all plainArg = true) :
    SE X W (.Call (.Name x p) (e :: es) [] pos) (cCall m sem ca) := by
  obtain ⟨fd, ps, ds, dvs, dd, sem0, G, b, rv, rd, hm, hs⟩ := F.ex
  obtain ⟨t, pa, v⟩ := ha
  exact ⟨_, pe_callG G hr hg F.gl F.kp b rv (fun σ => passAt tk σ) pa F.db (star_of h1) (star_all h2), ev_fk downV rsV (fun _ _ _ _ _ p => ans_of p) rd hm hs v⟩
theorem sn_call {k m : Nat} {x : Str} {sem : List D → Rs} {e : Expr} {es : List Expr} {p pos : Pos} {ca : CA} (F : FK X.prog X.w X.K X.mg X.base k x m sem) (hr : Room k X.A ∧ X.A.guards = some []) (hg : Gl X x) (tk : Takes X W) (ha : SL X W (e :: es) ca) (h1 : plainArg e = true) (h2 : es.all plainArg = true) :
    SN X W (.Call (.Name x p) (e :: es) [] pos) (cCallN m sem ca) := by
  obtain ⟨fd, ps, ds, dvs, dd, sem0, G, b, rv, rd, hm, hs⟩ := F.ex
  obtain ⟨t, pa, v⟩ := ha
  exact ⟨_, pe_callG G hr hg F.gl F.kp b rv (fun σ => passAt tk σ) pa F.db (star_of h1) (star_all h2), ev_fk downW rsN (fun _ _ _ _ _ p => ansN_of p) rd hm hs v⟩
end
end Dw
namespace Dw
open PySem L2 PyProof.Rows
/-! ### what is walked -/
def Wk (K : PySem.W.Frag) (J : It) (Hk : Hp) (ds : List D) : Prop := ∀ (i : Nat) (H0 H : Hp), Same Hk H0 → Same H0 H →
  (∀ d, ds[i]? = some d → J.go i H ∧ ∀ x H', J.yld i H x H' → ∃ H0', Stp H0 H H0' H' ∧ Dr K H0' x d) ∧ (ds[i]? = none → J.stop i H)
def SI0 (K : PySem.W.Frag) : Sat (List D) It := fun _ H0 _ J ds => Wk K J H0 ds
theorem downI {K : PySem.W.Frag} : Down (SI0 K) := fun _ _ _ _ _ _ _ h => h
def SI (X : Cx) (W : WX) (tg iter : Expr) (c : CA) : Prop := ∃ wi, PI X tg iter wi ∧ Ev X.K W (SI0 X.K) wi c
section
variable {K : PySem.W.Frag} {Hk : Hp}
theorem wk_list {a : Addr} {xs : List V} {ds : List D} (h : SqL K Hk a xs) (r : DrAll K Hk xs ds) : Wk K (Itl K a) Hk ds := fun i H0 H e0 e => by
  have q : SqL K H a xs := (e0.trans e).seq h
  refine ⟨fun d hd => ?_, fun hn => ?_⟩
  · obtain ⟨v, hv, dv⟩ := r.get hd
    refine ⟨⟨xs, v, q, hv⟩, fun x H' y => ?_⟩
    obtain ⟨rfl, y⟩ := y
    have z := y xs q
    rw [hv] at z
    cases z
    exact ⟨H0, Stp.refl e, dv.mono e0⟩
  · refine ⟨xs, q, ?_⟩
    rw [r.length]
    exact List.getElem?_eq_none_iff.mp hn
theorem wk_tup {a : Addr} {xs : List V} {ds : List D} (h : SqT K Hk a xs) (r : DrAll K Hk xs ds) : Wk K (Itt K a) Hk ds := fun i H0 H e0 e => by
  have q : SqT K H a xs := sqT_mono (e0.trans e) h
  refine ⟨fun d hd => ?_, fun hn => ?_⟩
  · obtain ⟨v, hv, dv⟩ := r.get hd
    refine ⟨⟨xs, v, q, hv⟩, fun x H' y => ?_⟩
    obtain ⟨rfl, y⟩ := y
    have z := y xs q
    rw [hv] at z
    cases z
    exact ⟨H0, Stp.refl e, dv.mono e0⟩
  · refine ⟨xs, q, ?_⟩
    rw [r.length]
    exact List.getElem?_eq_none_iff.mp hn
def rangeD (lo : Int) (n : Nat) : List D := (List.range n).map fun (k : Nat) => D.int (lo + (k : Int))
theorem rangeD_get {lo : Int} {n i : Nat} : (rangeD lo n)[i]? = if i < n then some (.int (lo + (i : Int))) else none := by
  unfold rangeD
  rw [List.getElem?_map]
  by_cases h : i < n
  · rw [if_pos h, List.getElem?_range h]
    rfl
  · rw [if_neg h, List.getElem?_eq_none (by simpa using h)]
    rfl
theorem wk_range {lo : Int} {n : Nat} : Wk K (Itr lo n) Hk (rangeD lo n) := fun i H0 H e0 e => by
  rw [rangeD_get]
  refine ⟨fun d hd => ?_, fun hn => ?_⟩
  · split at hd
    · rename_i hi
      cases hd
      refine ⟨hi, fun x H' y => ?_⟩
      obtain ⟨rfl, rfl⟩ := y
      exact ⟨H0, Stp.refl e, .int _⟩
    · cases hd
  · split at hn
    · cases hn
    · rename_i hi
      exact Nat.le_of_not_lt hi
def stepD (lo c : Int) (n : Nat) : List D := (List.range n).map fun (k : Nat) => D.int (lo + (k : Int) * c)
def charsD (z : Str) : List D := z.cps.toList.map fun c => D.str ⟨#[c]⟩
theorem wk_str {z : Str} : Wk K (Its z) Hk (charsD z) := fun i H0 H e0 e => by
  unfold charsD
  rw [List.getElem?_map]
  refine ⟨fun d hd => ?_, fun hn => ?_⟩
  · cases hc : z.cps.toList[i]? with
    | none => rw [hc] at hd; cases hd
    | some c =>
      rw [hc] at hd
      cases hd
      have hi : i < z.cps.size := by
        have := (List.getElem?_eq_some_iff.mp hc).1
        simpa using this
      refine ⟨hi, fun x H' y => ?_⟩
      obtain ⟨rfl, c', h1, rfl⟩ := y
      have h2 : z.cps.toList[i]? = some c' := by rw [Array.getElem?_toList]; exact h1
      rw [hc] at h2
      cases h2
      exact ⟨H0, Stp.refl e, .str _⟩
  · cases hc : z.cps.toList[i]? with
    | none =>
      have := List.getElem?_eq_none_iff.mp hc
      show z.cps.size ≤ i
      simpa using this
    | some c => rw [hc] at hn; cases hn
def enumD : Nat → List D → List D
  | _, [] => []
  | n, d :: ds => .tup [.int (n : Int), d] :: enumD (n + 1) ds
theorem enumD_get : ∀ (ds : List D) (n i : Nat), (enumD n ds)[i]? = (ds[i]?).map fun d => .tup [.int ((n + i : Nat) : Int), d]
  | [], _, _ => by simp [enumD]
  | d :: ds, n, 0 => by simp [enumD]
  | d :: ds, n, i + 1 => by
    show (enumD (n + 1) ds)[i]? = _
    rw [enumD_get ds (n + 1) i]
    have e : n + 1 + i = n + (i + 1) := by omega
    rw [e]
    rfl
theorem wk_enum {a : Addr} {xs : List V} {ds : List D} (h : SqL K Hk a xs) (r : DrAll K Hk xs ds) : Wk K (Ite K a) Hk (enumD 0 ds) := fun i H0 H e0 e => by
  have q : SqL K H a xs := (e0.trans e).seq h
  rw [enumD_get]
  refine ⟨fun d hd => ?_, fun hn => ?_⟩
  · cases hc : ds[i]? with
    | none => rw [hc] at hd; cases hd
    | some f =>
      rw [hc] at hd
      cases hd
      obtain ⟨v, hv, dv⟩ := r.get hc
      refine ⟨⟨xs, v, q, hv⟩, fun x H' y => ?_⟩
      obtain ⟨T, w, rfl, hT, rfl, y⟩ := y
      have z := y xs q
      rw [hv] at z
      cases z
      refine ⟨_, Stp.new e hT, .tup (.inl (.inl upd_same)) (.cons ?_ (.cons (Dr.mono (e0.trans (Same.new (e.free hT))) _ dv) .nil))⟩
      rw [Nat.zero_add]
      exact .int _
  · refine ⟨xs, q, ?_⟩
    rw [r.length]
    cases hc : ds[i]? with
    | none => exact List.getElem?_eq_none_iff.mp hc
    | some f => rw [hc] at hn; cases hn
def zipD : List D → List D → List D
  | a :: as, b :: bs => .tup [a, b] :: zipD as bs
  | _, _ => []
end
/-- a list, a tuple, a text -/
def dItems : D → R (List D)
  | .str z => .ok (charsD z)
  | d => (match d.seq with
    | some ds => .ok ds
    | none => .no)
def iSeq (K : PySem.W.Frag) (tl : TE) : TI := fun σ H R => tl σ H fun x H1 => (∃ a, x = .ref a ∧ (∃ xs, SqL K H1 a xs) ∧ R (Itl K a) H1) ∨ (∃ a, x = .ref a ∧ (∃ xs, SqT K H1 a xs) ∧ R (Itt K a) H1) ∨ ∃ z, x = .str z ∧ R (Its z) H1
section
variable {X : Cx} {W : WX} {tg : Expr}
theorem pi_seqA {l : Expr} {tl : TE} (hl : PE X l tl) : PI X tg l (iSeq X.K tl) := by
  refine ⟨fun pins s σ H R I h => ?_⟩
  refine thn (hl.run pins s σ H _ I h) fun v s1 ⟨x, H1, I1, r1, q1⟩ => ?_
  rcases q1 with ⟨a, e, ⟨xs, hq⟩, q⟩ | ⟨a, e, ⟨xs, hq⟩, q⟩ | ⟨z, e, q⟩
  · subst e
    cases r1
    obtain ⟨its, _, p, _⟩ := I1.list hq
    exact wpAny_pyIter_list p.isList (pi_one (tk := s1.toks) I1 _ (turn_list a _) ⟨_, Heap.get?_push_size _ rfl, rfl, rfl⟩ q)
  · subst e
    cases r1
    obtain ⟨its, _, p, _⟩ := I1.tuple hq
    exact wpAny_pyIter_tuple (show s1.heap.IsTuple a its.toArray from p) (pi_one (tk := s1.toks) I1 _ (turn_tuple a _) ⟨_, Heap.get?_push_size _ rfl, rfl, rfl⟩ q)
  · subst e
    obtain ⟨t, rfl⟩ := r1
    cases ha : z.cps.all (· < 128)
    · exact wpAny_pyIter_wide ha (pi_one (tk := s1.toks) I1 _ (turn_str _ z t "str_iterator" (.inr rfl)) ⟨_, Heap.get?_push_size _ rfl, rfl, rfl⟩ q)
    · exact wpAny_pyIter_ascii ha (pi_one (tk := s1.toks) I1 _ (turn_str _ z t "str_ascii_iterator" (.inl rfl)) ⟨_, Heap.get?_push_size _ rfl, rfl, rfl⟩ q)
theorem si_seq {l : Expr} {c : C} (h : SE X W l c) : SI X W tg l (cUn dItems c) := by
  obtain ⟨t, p, v⟩ := h
  refine ⟨_, pi_seqA p, ev_unG downI v fun σ H0 H x d Q s h p => ?_⟩
  unfold dItems at p
  split at p
  · cases h
    exact .inr (.inr ⟨_, rfl, Post.here p s wk_str⟩)
  · split at p
    · rename_i es e
      obtain ⟨a, xs, rfl, q, r⟩ := h.seqK e
      rcases q with q | q
      · exact .inl ⟨a, rfl, ⟨xs, s.seq q⟩, Post.here p s (wk_list q r)⟩
      · exact .inr (.inl ⟨a, rfl, ⟨xs, sqT_mono s q⟩, Post.here p s (wk_tup q r)⟩)
    · exact p.elim
def dRng1 : List D → R (List D)
  | [.int j] => if -(2 ^ 62) ≤ j ∧ j < 2 ^ 62 then .ok (rangeD 0 j.toNat) else .no
  | _ => .no
def dRng2 : List D → R (List D)
  | [.int i, .int j] => if -(2 ^ 62) ≤ i ∧ i < 2 ^ 62 ∧ -(2 ^ 62) ≤ j ∧ j < 2 ^ 62 then .ok (rangeD i (j - i).toNat) else .no
  | _ => .no
theorem si_range1 {a : Expr} {p pos : Pos} {c : CA} (hg : Gl X "range") (hm : X.mg "range" = none) (h : SL X W [a] c) (h1 : plainArg a = true) : SI X W tg (.Call (.Name "range" p) [a] [] pos) (cApp dRng1 c) := by
  obtain ⟨t, pa, v⟩ := h
  refine ⟨_, pi_range1 hg hm pa (star_of h1), ev_appG downI v fun σ H0 H x d Q s h p => ?_⟩
  unfold dRng1 at p
  split at p
  · split at p
    · rename_i j c
      obtain ⟨v, rfl, a⟩ := h.one
      cases a
      exact ⟨j, rfl, c.1, c.2, Post.here p s wk_range⟩
    · exact p.elim
  · exact p.elim
theorem si_range2 {a b : Expr} {p pos : Pos} {c : CA} (hg : Gl X "range") (hm : X.mg "range" = none) (h : SL X W [a, b] c) (h1 : plainArg a = true) (h2 : plainArg b = true) : SI X W tg (.Call (.Name "range" p) [a, b] [] pos) (cApp dRng2 c) := by
  obtain ⟨t, pa, v⟩ := h
  refine ⟨_, pi_range2 hg hm pa (by rw [star_of h1, star_of h2]; rfl) (by rw [star_of h2]; rfl), ev_appG downI v fun σ H0 H x d Q s h p => ?_⟩
  unfold dRng2 at p
  split at p
  · split at p
    · rename_i i j c
      obtain ⟨v, w, rfl, a, b⟩ := h.two
      cases a
      cases b
      exact ⟨i, j, rfl, c, Post.here p s wk_range⟩
    · exact p.elim
  · exact p.elim
def dEnum : List D → R (List D)
  | [.lst ds] => .ok (enumD 0 ds)
  | [.kst ds] => .ok (enumD 0 ds)
  | _ => .no
theorem si_enum {a : Expr} {elts : List Expr} {kk : Nat} {tpos p pos : Pos} {c : CA} (hg : Gl X "enumerate") (hm : X.mg "enumerate" = none) (h : SL X W [a] c) (h1 : plainArg a = true) : SI X W (.Tuple elts kk tpos) (.Call (.Name "enumerate" p) [a] [] pos) (cApp dEnum c) := by
  obtain ⟨t, pa, v⟩ := h
  refine ⟨_, pi_enum hg hm pa (star_of h1), ev_appG downI v fun σ H0 H x d Q s h p => ?_⟩
  unfold dEnum at p
  split at p
  · obtain ⟨v, rfl, hv⟩ := h.one
    obtain ⟨a, xs, rfl, q, r⟩ := hv.lstK
    exact ⟨a, xs, rfl, s.seq (.inl q), Post.here p s (wk_enum (.inl q) r)⟩
  · obtain ⟨v, rfl, hv⟩ := h.one
    obtain ⟨a, xs, rfl, q, r⟩ := hv.kstK
    exact ⟨a, xs, rfl, s.seq q, Post.here p s (wk_enum q r)⟩
  · exact p.elim
theorem si_none {iter : Expr} : SI X W tg iter cNoA := ⟨fun _ _ _ => False, ⟨fun _ _ _ _ _ _ h => h.elim⟩, fun _ _ _ _ _ _ _ _ p => p⟩
end
/-! ### targets: names, tuples of targets -/
abbrev CT := D → List Sl → Option (List Sl)
/-- outside of ix the slots stay -/
def Out (ix : List Nat) (σ σ' : L2.St) : Prop := ∀ vs, (∀ i ∈ ix, i ∈ vs) → wipe σ' vs = wipe σ vs
theorem Out.refl {ix : List Nat} {σ : L2.St} : Out ix σ σ := fun _ _ => rfl
theorem Out.trans {ix iy : List Nat} {σ σ1 σ2 : L2.St} (a : Out ix σ σ1) (b : Out iy σ1 σ2) : Out (ix ++ iy) σ σ2 := fun vs h =>
  (b vs fun i hi => h i (List.mem_append_right _ hi)).trans (a vs fun i hi => h i (List.mem_append_left _ hi))
theorem wipe_set {σ : L2.St} {i : Nat} {x : Option V} : ∀ {vs : List Nat}, i ∈ vs → wipe (σ.set i x) vs = wipe σ vs
  | v :: vs, h => by
    unfold wipe
    by_cases e : i = v
    · subst e
      by_cases hm : i ∈ vs
      · rw [wipe_set hm]
      · have : wipe (σ.set i x) vs = (wipe σ vs).set i x := by
          clear h
          induction vs with
          | nil => rfl
          | cons w ws ih =>
            have hw : i ≠ w := fun z => hm (by rw [z]; exact List.mem_cons_self)
            unfold wipe
            rw [ih fun z => hm (List.mem_cons_of_mem _ z), List.set_comm _ _ hw]
        rw [this, List.set_set]
    · rw [wipe_set ((List.mem_cons.mp h).resolve_left e)]
def EvG (K : PySem.W.Frag) (g : TG) (ct : CT) (ix : List Nat) : Prop := ∀ G0 G δ σ H0 H x d Q, Rel K G0 G δ σ H0 H → Dr K H0 x d →
  (match ct d δ with
    | some δ' => ∀ σ', Rel K G0 G δ' σ' H0 H → Out ix σ σ' → Q σ' H
    | none => False) → g x σ H Q
def EvGs (K : PySem.W.Frag) (g : TGs) (ct : List D → List Sl → Option (List Sl)) (ix : List Nat) : Prop := ∀ G0 G δ σ H0 H xs ds Q, Rel K G0 G δ σ H0 H → DrAll K H0 xs ds →
  (match ct ds δ with
    | some δ' => ∀ σ', Rel K G0 G δ' σ' H0 H → Out ix σ σ' → Q σ' H
    | none => False) → g xs σ H Q
def SG (X : Cx) (tg : Expr) (ct : CT) (ix : List Nat) : Prop := ∃ g, PG X tg g ∧ EvG X.K g ct ix
def tName (i : Nat) : CT := fun d δ => some (δ.set i (.pu d))
def tNo : CT := fun _ _ => none
theorem evg_name {K : PySem.W.Frag} {i : Nat} : EvG K (gName i) (tName i) [i] := fun G0 G δ σ H0 H x d Q r h p => p _ (r.setP h) fun vs hv => wipe_set (hv i List.mem_cons_self)
def tTupT (n : Nat) (cts : List D → List Sl → Option (List Sl)) : CT := fun d δ => match d with
  | .tup ds => if ds.length = n then cts ds δ else none
  | _ => none
def tNil' : List D → List Sl → Option (List Sl) := fun ds δ => match ds with
  | [] => some δ
  | _ => none
def tCons' (a : CT) (r : List D → List Sl → Option (List Sl)) : List D → List Sl → Option (List Sl) := fun ds δ => match ds with
  | d :: ds => (a d δ).bind fun δ' => r ds δ'
  | [] => none
theorem evgs_nil {K : PySem.W.Frag} : EvGs K gNil tNil' [] := fun G0 G δ σ H0 H xs ds Q r h p => by
  cases h with
  | nil => exact ⟨rfl, p σ r Out.refl⟩
  | cons a b => exact p.elim
theorem evgs_cons {K : PySem.W.Frag} {g : TG} {gs : TGs} {a : CT} {r : List D → List Sl → Option (List Sl)} {ix iy : List Nat} (h1 : EvG K g a ix) (h2 : EvGs K gs r iy) : EvGs K (gCons g gs) (tCons' a r) (ix ++ iy) := fun G0 G δ σ H0 H xs ds Q rl h p => by
  cases h with
  | nil => exact p.elim
  | @cons v vs d ds hv hr =>
    refine ⟨v, vs, rfl, h1 G0 G δ σ H0 H v d _ rl hv ?_⟩
    have p' : match (a d δ).bind fun δ' => r ds δ' with
      | some δ' => ∀ σ', Rel K G0 G δ' σ' H0 H → Out (ix ++ iy) σ σ' → Q σ' H
      | none => False := p
    cases e : a d δ with
    | none =>
      rw [e] at p'
      exact p'
    | some δ1 =>
      rw [e] at p'
      intro σ1 r1 o1
      refine h2 G0 G δ1 σ1 H0 H vs ds Q r1 hr ?_
      have p2 : match r ds δ1 with
        | some δ' => ∀ σ', Rel K G0 G δ' σ' H0 H → Out (ix ++ iy) σ σ' → Q σ' H
        | none => False := p'
      cases e2 : r ds δ1 with
      | none =>
        rw [e2] at p2
        exact p2
      | some δ2 =>
        rw [e2] at p2
        exact fun σ2 r2 o2 => p2 σ2 r2 (o1.trans o2)
section
variable {X : Cx}
theorem sg_none {tg : Expr} : SG X tg tNo [] := ⟨fun _ _ _ _ => False, ⟨fun _ _ _ _ _ _ _ _ _ h => h.elim⟩, fun _ _ _ _ _ _ _ _ _ _ _ p => p⟩
theorem sg_name {i : Nat} {x : Str} {pos : Pos} (hN : X.N.Nodup) (hi : X.N[i]? = some x) (hx : Loc X.env.scope x) (hf : X.fn x = true ∨ X.env.scope.names.lookup x = some .local) : SG X (.Name x pos) (tName i) [i] := ⟨_, pg_name hN hi hx hf, evg_name⟩
/-- no star among targets -/
theorem assign_of {e : Expr} {es : List Expr} {env : Env} (h : plainArg e = true) : assignEach (e :: es) env = (false, assign e env) :: assignEach es env := by
  cases e <;> first | rfl | cases h
theorem assign_len {env : Env} : ∀ {es : List Expr}, es.all plainArg = true → (assignEach es env).length = es.length
  | [], _ => rfl
  | e :: es, h => by
    have h' := Bool.and_eq_true_iff.mp (show (plainArg e && es.all plainArg) = true from h)
    rw [assign_of h'.1, List.length_cons, List.length_cons, assign_len h'.2]
theorem assign_idx {env : Env} : ∀ {es : List Expr}, es.all plainArg = true → (assignEach es env).findIdx? (·.1) = none
  | [], _ => rfl
  | e :: es, h => by
    have h' := Bool.and_eq_true_iff.mp (show (plainArg e && es.all plainArg) = true from h)
    rw [assign_of h'.1, List.findIdx?_cons]
    have ih := assign_idx (env := env) h'.2
    simp [ih]
theorem sg_tup {es : List Expr} {k : Nat} {pos : Pos} {cts : List D → List Sl → Option (List Sl)} {ix : List Nat} (hc : X.calm = true) (hp : es.all plainArg = true) (h : ∃ g, PGs X es g ∧ EvGs X.K g cts ix) : SG X (.Tuple es k pos) (tTupT es.length cts) ix := by
  obtain ⟨g, p, v⟩ := h
  refine ⟨_, pg_tup hc p (assign_len hp) (assign_idx hp), fun G0 G δ σ H0 H x d Q rl hd q => ?_⟩
  unfold tTupT at q
  cases hd with
  | @tup a xs ds q1 r =>
    have q' : match (if ds.length = es.length then cts ds δ else none) with
      | some δ' => ∀ σ', Rel X.K G0 G δ' σ' H0 H → Out ix σ σ' → Q σ' H
      | none => False := q
    split at q'
    · rename_i δ' e
      split at e
      · rename_i hl
        refine ⟨a, xs, rfl, sqT_mono rl.same q1, by rw [r.length]; exact hl, v G0 G δ σ H0 H xs ds Q rl r ?_⟩
        rw [e]
        exact q'
      · cases e
    · exact q'.elim
  | _ => exact q.elim
theorem pgs_consP {e : Expr} {es : List Expr} {ct : CT} {cts : List D → List Sl → Option (List Sl)} {ix iy : List Nat} (hp : plainArg e = true) (h1 : SG X e ct ix) (h2 : ∃ g, PGs X es g ∧ EvGs X.K g cts iy) : ∃ g, PGs X (e :: es) g ∧ EvGs X.K g (tCons' ct cts) (ix ++ iy) := by
  obtain ⟨g, p, v⟩ := h1
  obtain ⟨gs, q, w⟩ := h2
  exact ⟨_, pgs_cons p q (by rw [assign_of hp]; rfl), evgs_cons v w⟩
end
end Dw
namespace Dw
open PySem L2 PyProof.Rows
/-! ### the reading that a closure tells by itself -/
def tOf {α β : Type} (K : PySem.W.Frag) (W : WX) (S : Sat α β) (c : List Sl → R α) : L2.St → Hp → (β → Hp → Prop) → Prop := fun σ H Q => ∃ G0 G δ H0, Rel K G0 G δ σ H0 H ∧ Post K W σ H0 H S (c δ) Q
theorem ev_of {α β : Type} {K : PySem.W.Frag} {W : WX} {S : Sat α β} {c : List Sl → R α} : Ev K W S (tOf K W S c) c := fun G0 G δ σ H0 H Q r p => ⟨G0, G, δ, H0, r, p⟩
theorem of_ev {α β : Type} {K : PySem.W.Frag} {W : WX} {S : Sat α β} {t : L2.St → Hp → (β → Hp → Prop) → Prop} {c : List Sl → R α} (h : Ev K W S t c) {σ : L2.St} {H : Hp} {Q : β → Hp → Prop} (q : tOf K W S c σ H Q) : t σ H Q := by
  obtain ⟨G0, G, δ, H0, r, p⟩ := q
  exact h G0 G δ σ H0 H Q r p
def tgOf (K : PySem.W.Frag) (ct : CT) (ix : List Nat) : TG := fun x σ H Q => ∃ G0 G δ H0 d, Rel K G0 G δ σ H0 H ∧ Dr K H0 x d ∧ (match ct d δ with
    | some δ' => ∀ σ', Rel K G0 G δ' σ' H0 H → Out ix σ σ' → Q σ' H
    | none => False)
section
variable {X : Cx} {W : WX}
theorem SE.pe {e : Expr} {c : C} (h : SE X W e c) : PE X e (tOf X.K W (SV X.K) c) := by
  obtain ⟨t, p, v⟩ := h
  exact ⟨fun pins s σ H Q I q => p.run pins s σ H Q I (of_ev v q)⟩
theorem SN.pe {e : Expr} {c : CA} (h : SN X W e c) : PE X e (tOf X.K W (SW X.K) c) := by
  obtain ⟨t, p, v⟩ := h
  exact ⟨fun pins s σ H Q I q => p.run pins s σ H Q I (of_ev v q)⟩
theorem ST.pt {e : Expr} {c : CB} (h : ST X W e c) : PT X e (tOf X.K W SB c) := by
  obtain ⟨t, p, v⟩ := h
  exact ⟨fun pins s σ H Q I q => p.run pins s σ H Q I (of_ev v q)⟩
theorem SG.pg {tg : Expr} {ct : CT} {ix : List Nat} (h : SG X tg ct ix) : PG X tg (tgOf X.K ct ix) := by
  obtain ⟨g, p, v⟩ := h
  refine ⟨fun pins s σ H x u Q I r q => p.run pins s σ H x u Q I r ?_⟩
  obtain ⟨G0, G, δ, H0, d, rl, hd, q⟩ := q
  exact v G0 G δ σ H0 H x d Q rl hd q
end
/-! ### comprehensions -/
def wipeD (δ : List Sl) : List Nat → List Sl
  | [] => δ
  | v :: vs => (wipeD δ vs).set v .un
section
variable {K : PySem.W.Frag} {G0 G H0 H : Hp} {δ : List Sl} {σ : L2.St}
theorem Rel.wipe (r : Rel K G0 G δ σ H0 H) : ∀ vs, Rel K G0 G (wipeD δ vs) (L2.wipe σ vs) H0 H
  | [] => r
  | v :: vs => (r.wipe vs).setU
theorem wipe_idem (σ : L2.St) (vs : List Nat) : L2.wipe (L2.wipe σ vs) vs = L2.wipe σ vs := by
  have key : ∀ (ws : List Nat), (∀ i ∈ ws, i ∈ vs) → L2.wipe (L2.wipe σ ws) vs = L2.wipe σ vs := by
    intro ws
    induction ws with
    | nil => intro _; rfl
    | cons w ws ih =>
      intro h
      show L2.wipe ((L2.wipe σ ws).set w none) vs = _
      rw [wipe_set (h w List.mem_cons_self), ih fun i hi => h i (List.mem_cons_of_mem _ hi)]
  exact key vs fun _ h => h
end
def lcGo (ct : CT) (ctest : CB) (celt : C) (δ : List Sl) : List D → List D → R (List D)
  | [], acc => .ok acc
  | d :: ds, acc => match ct d δ with
    | none => .no
    | some δ1 => match ctest δ1 with
      | .ok true => (match celt δ1 with
        | .ok y => if acc.length < sizeLine then lcGo ct ctest celt δ ds (acc ++ [y]) else .no
        | _ => .no)
      | .ok false => lcGo ct ctest celt δ ds acc
      | _ => .no
def cLc (ci : CA) (ct : CT) (ctest : CB) (celt : C) (vs : List Nat) : CA := fun δ => (ci δ).bind fun ds => lcGo ct ctest celt (wipeD δ vs) ds []
def W0 : WX := fun _ _ _ _ => False
theorem ev_lc {K : PySem.W.Frag} {W : WX} {wi : TI} {ci : CA} {ct : CT} {ctest : CB} {celt : C} {vs ix : List Nat} (hi : Ev K W (SI0 K) wi ci) (hx : ∀ i ∈ ix, i ∈ vs) :
    Ev K W (SW K) (tLc wi (tgOf K ct ix) (tOf K W0 SB ctest) (tOf K W0 (SV K) celt) vs) (cLc ci ct ctest celt vs) := by
  intro G0 G δ σ Z0 Z Q rl p
  have p' : Post K W σ Z0 Z (SW K) ((ci δ).bind fun ds => lcGo ct ctest celt (wipeD δ vs) ds []) Q := p
  refine hi G0 G δ σ Z0 Z _ rl ?_
  cases e : ci δ with
  | ex C =>
    rw [e] at p'
    exact p'
  | no =>
    rw [e] at p'
    exact p'
  | ok ds =>
    rw [e] at p'
    have p2 : Post K W σ Z0 Z (SW K) (lcGo ct ctest celt (wipeD δ vs) ds []) Q := p'
    intro A1 H1 J s1 wk
    intro Dn hD
    cases er : lcGo ct ctest celt (wipeD δ vs) ds [] with
    | ex C =>
      exfalso
      clear p2 p' p
      have nox : ∀ (ds acc : List D), lcGo ct ctest celt (wipeD δ vs) ds acc ≠ .ex C := by
        intro ds
        induction ds with
        | nil => intro acc z; cases z
        | cons d ds ih =>
          intro acc z
          unfold lcGo at z
          split at z
          · cases z
          · split at z
            · split at z
              · split at z
                · exact ih _ z
                · cases z
              · cases z
            · exact ih _ z
            · cases z
      exact nox ds [] er
    | no =>
      rw [er] at p2
      exact p2.elim
    | ok res =>
      rw [er] at p2
      have zD : Z Dn = none := s1.e.free hD
      refine ⟨fun i m H => m = ds.length - i ∧ i ≤ ds.length ∧ ∃ A acc vacc, Stp Z0 Z A H ∧ Same A1 A ∧ A Dn = none ∧ H Dn = some (.lst vacc) ∧ DrAll K A vacc acc ∧ lcGo ct ctest celt (wipeD δ vs) (ds.drop i) acc = .ok res,
        ⟨ds.length, by simp, Nat.zero_le _, A1, [], [], s1.trans (Stp.own s1.k hD), Same.refl _, s1.k.free hD, upd_same, .nil, er⟩, ?_⟩
      rintro i m H ⟨rfl, hi, A, acc, vacc, S, e1, nA, hH, hacc, hgo⟩
      have wki := wk i A H e1 S.k
      by_cases hlt : i < ds.length
      · have hd : ds[i]? = some ds[i] := List.getElem?_eq_getElem hlt
        obtain ⟨go, yl⟩ := wki.1 _ hd
        rw [List.drop_eq_getElem_cons hlt] at hgo
        unfold lcGo at hgo
        split at hgo
        · cases hgo
        · rename_i δ1 ect
          have key : ∀ (A' H' : Hp) (acc' : List D) (vacc' : List V), Stp Z0 Z A' H' → Same A A' → A' Dn = none → H' Dn = some (.lst vacc') → DrAll K A' vacc' acc' → lcGo ct ctest celt (wipeD δ vs) (ds.drop (i + 1)) acc' = .ok res →
              ((ds.length - (i + 1) = ds.length - (i + 1)) ∧ i + 1 ≤ ds.length ∧ ∃ A acc vacc, Stp Z0 Z A H' ∧ Same A1 A ∧ A Dn = none ∧ H' Dn = some (.lst vacc) ∧ DrAll K A vacc acc ∧ lcGo ct ctest celt (wipeD δ vs) (ds.drop (i + 1)) acc = .ok res) :=
            fun A' H' acc' vacc' a1 a2 a3 a4 a5 a6 => ⟨rfl, hlt, A', acc', vacc', a1, e1.trans a2, a3, a4, a5, a6⟩
          refine .inr ⟨go, fun H' => i + 1 ≤ ds.length ∧ ∃ A acc vacc, Stp Z0 Z A H' ∧ Same A1 A ∧ A Dn = none ∧ H' Dn = some (.lst vacc) ∧ DrAll K A vacc acc ∧ lcGo ct ctest celt (wipeD δ vs) (ds.drop (i + 1)) acc = .ok res, fun H' q => ⟨ds.length - (i + 1), by omega, rfl, q⟩, fun x H' y => ?_⟩
          obtain ⟨A', S', dx⟩ := yl x H' y
          have S1 := S.trans S'
          refine ⟨G0, G, wipeD δ vs, A', _, (rl.step S1).wipe vs, dx, ?_⟩
          rw [ect]
          intro σ2 r2 o2
          refine ⟨?_, G0, G, δ1, A', r2, ?_⟩
          · rw [o2 vs hx, wipe_idem]
          · cases et : ctest δ1 with
            | ex C => rw [et] at hgo; cases hgo
            | no => rw [et] at hgo; cases hgo
            | ok b =>
              rw [et] at hgo
              intro A2 H2 b' S2 eb
              have eb : b' = b := eb
              subst eb
              cases b' with
              | false =>
                rw [if_neg Bool.false_ne_true]
                have n2 : A2 Dn = none := (S'.trans S2).n Dn _ nA hH trivial
                exact (key A2 H2 acc vacc (S1.trans S2) (S'.e0.trans S2.e0) n2 (S2.e _ _ (S'.e _ _ hH)) (hacc.mono (S'.e0.trans S2.e0)) hgo).2
              | true =>
                rw [if_pos rfl]
                have hgo' : (match celt δ1 with
                  | .ok y => if acc.length < sizeLine then lcGo ct ctest celt (wipeD δ vs) (ds.drop (i + 1)) (acc ++ [y]) else R.no
                  | _ => .no) = .ok res := hgo
                refine ⟨G0, G, δ1, A2, r2.step S2, ?_⟩
                cases ec : celt δ1 with
                | ex C => rw [ec] at hgo'; cases hgo'
                | no => rw [ec] at hgo'; cases hgo'
                | ok y =>
                  rw [ec] at hgo'
                  intro A3 H3 v S3 dv
                  have hgo2 : (if acc.length < sizeLine then lcGo ct ctest celt (wipeD δ vs) (ds.drop (i + 1)) (acc ++ [y]) else R.no) = .ok res := hgo'
                  split at hgo2
                  · rename_i hsz
                    have S23 := (S'.trans S2).trans S3
                    have n3 : A3 Dn = none := S23.n Dn _ nA hH trivial
                    have T := S.trans S23
                    refine ⟨vacc, S23.e _ _ hH, by rw [hacc.length]; exact hsz, (key A3 _ (acc ++ [y]) (vacc ++ [v]) ⟨T.e0, fun a o z => ?_, fun a o z => ?_, T.n⟩ S23.e0 n3 upd_same ((hacc.mono S23.e0).append (.cons dv .nil)) hgo2).2⟩
                    · rw [upd_ne (ne_of_none z zD)]; exact T.e a o z
                    · rw [upd_ne (ne_of_none z n3)]; exact T.k a o z
                  · cases hgo2
      · have ei : i = ds.length := by omega
        subst ei
        refine .inl ⟨wki.2 (List.getElem?_eq_none (Nat.le_refl _)), ?_⟩
        rw [List.drop_length] at hgo
        have ea : acc = res := R.ok.inj hgo
        subst ea
        exact p2 A H (.ref Dn) S ⟨Dn, vacc, rfl, zD, nA, hH, hacc⟩
end Dw
namespace Dw
open PySem L2 PyProof.Rows
/-! ### own lists looked at as known ones -/
def borS : Sl → Sl
  | .ow ds => .pu (.lst ds)
  | .oo dss => .pu (.lst (dss.map D.lst))
  | s => s
def bor (δ : List Sl) : List Sl := δ.map borS
def keepS : Option Sl → Bool
  | some (.od _) => true
  | _ => false
section
variable {K : PySem.W.Frag} {G0 G H0 H : Hp} {δ : List Sl} {σ : L2.St}
theorem oo_known {J0 : Hp} (e0 : Same H0 J0) : ∀ {ps : List Addr} {dss : List (List D)}, (∀ a ∈ ps, J0 a = H a) → OoAll K H0 H ps dss → DrAll K J0 (ps.map V.ref) (dss.map D.lst)
  | _, _, _, .nil => .nil
  | _, _, e, .cons h r t => .cons (.lst (.inl ((e _ List.mem_cons_self).trans h)) (r.mono e0)) (oo_known e0 (fun a ha => e a (List.mem_cons_of_mem _ ha)) t)
open Classical in
theorem Rel.bor (r : Rel K G0 G δ σ H0 H) : ∃ J0, Same H0 J0 ∧ Rel K G0 G (bor δ) σ J0 H ∧ ∀ b o, J0 b = some o → H0 b = some o ∨ (H b = some o ∧ Ownk o) := by
  obtain ⟨fp, ow⟩ := r.own
  let own : Addr → Prop := fun b => ∃ i, keepS (δ[i]?) = false ∧ b ∈ fp i
  let J0 : Hp := fun b => match H0 b with
    | some o => some o
    | none => if own b then H b else none
  have j1 : ∀ b o, H0 b = some o → J0 b = some o := fun b o e => by
    show (match H0 b with
      | some o => some o
      | none => if own b then H b else none) = _
    rw [e]
  have j2 : ∀ b, H0 b = none → J0 b = if own b then H b else none := fun b e => by
    show (match H0 b with
      | some o => some o
      | none => if own b then H b else none) = _
    rw [e]
  have j3 : ∀ b o, J0 b = some o → H0 b = some o ∨ (H0 b = none ∧ own b ∧ H b = some o) := fun b o e => by
    cases h : H0 b with
    | some u =>
      rw [j1 b u h] at e
      exact .inl e
    | none =>
      rw [j2 b h] at e
      split at e
      · exact .inr ⟨rfl, by assumption, e⟩
      · cases e
  have j4 : ∀ i b, keepS (δ[i]?) = false → b ∈ fp i → J0 b = H b := fun i b h m => by
    rw [j2 b (ow.n i b m).2, if_pos ⟨i, h, m⟩]
  refine ⟨J0, j1, ⟨⟨r.st.e0.trans j1, r.st.e, fun b o e => ?_, fun a o z w u => ?_⟩, by rw [Dw.bor, List.length_map]; exact r.len, fun i d e => ?_, fun i d e => ?_, fun i => if keepS (δ[i]?) = true then fp i else [], ⟨fun i => ?_, fun i j a h1 h2 => ?_, fun i a h1 => ?_⟩⟩, fun b o e => ?_⟩
  · rcases j3 b o e with h | ⟨_, _, h⟩
    · exact r.st.k b o h
    · exact h
  · rw [j2 a (r.st.n a o z w u)]
    rw [if_neg]
    rintro ⟨i, _, h2⟩
    rw [(ow.n i a h2).1] at w
    cases w
  · rw [Dw.bor, List.getElem?_map] at e
    have os := ow.s i
    cases h : δ[i]? with
    | none => rw [h] at e; cases e
    | some s =>
      rw [h] at e
      rw [h] at os
      cases s with
      | un => cases e
      | nt d' => cases e
      | od d' => cases e
      | pu d' =>
        cases e
        obtain ⟨v, a, b⟩ := r.pu i _ h
        exact ⟨v, a, b.mono j1⟩
      | ow ds =>
        cases e
        obtain ⟨p, vs, a, f, hp, q⟩ := os
        refine ⟨_, a, .lst (.inl ?_) (q.mono j1)⟩
        rw [j4 i p (by rw [h]; rfl) (by rw [f]; exact List.mem_cons_self)]
        exact hp
      | oo dss =>
        cases e
        obtain ⟨p, ps, a, f, nd, hp, q⟩ := os
        refine ⟨_, a, .lst (.inl ?_) (oo_known j1 (fun b hb => j4 i b (by rw [h]; rfl) (by rw [f]; exact List.mem_cons_of_mem _ hb)) q)⟩
        rw [j4 i p (by rw [h]; rfl) (by rw [f]; exact List.mem_cons_self)]
        exact hp
  · rw [Dw.bor, List.getElem?_map] at e
    cases h : δ[i]? with
    | none => rw [h] at e; cases e
    | some s =>
      rw [h] at e
      cases s <;> cases e
      obtain ⟨v, a, b⟩ := r.nt i _ h
      exact ⟨v, a, b.mono j1⟩
  · rw [Dw.bor, List.getElem?_map]
    have os := ow.s i
    cases h : δ[i]? with
    | none => exact rfl
    | some s =>
      rw [h] at os
      cases s with
      | un => exact rfl
      | nt d' => exact rfl
      | pu d' => exact rfl
      | ow ds => exact rfl
      | oo dss => exact rfl
      | od ks => exact OwnO.mono os j1 fun _ _ _ z => z
  · have h1' : a ∈ (if keepS (δ[i]?) = true then fp i else []) := h1
    have h2' : a ∈ (if keepS (δ[j]?) = true then fp j else []) := h2
    split at h1'
    · split at h2'
      · exact ow.d i j a h1' h2'
      · cases h2'
    · cases h1'
  · have h1' : a ∈ (if keepS (δ[i]?) = true then fp i else []) := h1
    split at h1'
    · rename_i hk
      refine ⟨(ow.n i a h1').1, ?_⟩
      rw [j2 a (ow.n i a h1').2, if_neg]
      rintro ⟨j, h3, h4⟩
      rw [ow.d j i a h4 h1', hk] at h3
      cases h3
    · cases h1'
  · rcases j3 b o e with h | ⟨_, ⟨i, _, h2⟩, h⟩
    · exact .inl h
    · obtain ⟨u, h3, h4⟩ := (ow.s i).there h2
      rw [h] at h3
      cases h3
      exact .inr ⟨h, h4⟩
open Classical in
/-- what was known grows, without the own lists -/
theorem back {J0 J1 H' : Hp} (e : Same H0 H) (e0 : Same H0 J0) (hl : ∀ b o, J0 b = some o → H0 b = some o ∨ (H b = some o ∧ Ownk o)) (s : Stp J0 H J1 H') :
    ∃ H1, Stp H0 H H1 H' ∧ (∀ b o, J1 b = some o → ¬ Ownk o → H1 b = some o) ∧ ∀ b, J1 b = none → H1 b = none := by
  let H1 : Hp := fun a => if H0 a = none ∧ ∃ o, H a = some o ∧ Ownk o then none else J1 a
  have h1 : ∀ a, ¬ (H0 a = none ∧ ∃ o, H a = some o ∧ Ownk o) → H1 a = J1 a := fun a c => if_neg c
  have h2 : ∀ a, (H0 a = none ∧ ∃ o, H a = some o ∧ Ownk o) → H1 a = none := fun a c => if_pos c
  refine ⟨H1, ⟨fun a o z => ?_, s.e, fun a o z => ?_, fun a o z w u => h2 a ⟨z, o, w, u⟩⟩, fun b o z nl => ?_, fun b z => ?_⟩
  · rw [h1 a (fun c => by rw [c.1] at z; cases z)]
    exact s.e0 a o (e0 a o z)
  · by_cases c : H0 a = none ∧ ∃ o, H a = some o ∧ Ownk o
    · rw [h2 a c] at z; cases z
    · rw [h1 a c] at z; exact s.k a o z
  · rw [h1 b]
    · exact z
    · rintro ⟨c1, u, c2, c3⟩
      have q1 := s.e b u c2
      have q2 := s.k b o z
      rw [q1] at q2
      cases q2
      exact nl c3
  · by_cases c : H0 b = none ∧ ∃ o, H b = some o ∧ Ownk o
    · exact h2 b c
    · rw [h1 b c]; exact z
end
/-! ### an expression in a statement: as it is; else own lists are looked at; else they are known from here on -/
def evA (c : C) (δ : List Sl) : R (D × List Sl) := match c δ with
  | .ok d => .ok (d, δ)
  | .ex C => .ex C
  | .no => match c (bor δ) with
    | .ok d => if d.flat = true then .ok (d, δ) else .ok (d, bor δ)
    | .ex C => .ex C
    | .no => .no
def evN (c : CA) (δ : List Sl) : R (List D × List Sl) := match c δ with
  | .ok d => .ok (d, δ)
  | .ex C => .ex C
  | .no => match c (bor δ) with
    | .ok d => if D.flat.flats d = true then .ok (d, δ) else .ok (d, bor δ)
    | .ex C => .ex C
    | .no => .no
def evT (c : CB) (δ : List Sl) : R Bool := c (bor δ)
def evI (c : CA) (δ : List Sl) : R (List D × List Sl) := match c δ with
  | .ok d => .ok (d, δ)
  | .ex C => .ex C
  | .no => match c (bor δ) with
    | .ok d => .ok (d, bor δ)
    | .ex C => .ex C
    | .no => .no
section
variable {K : PySem.W.Frag} {W : WX} {G0 G H0 H : Hp} {δ : List Sl} {σ : L2.St}
theorem evA_ok {te : TE} {c : C} (h : Ev K W (SV K) te c) (r : Rel K G0 G δ σ H0 H) {Q : VK} (p : match evA c δ with
    | .ok (d, δ') => ∀ H0' H' v, Same H0 H0' → Rel K G0 G δ' σ H0' H' → Dr K H0' v d → Q v H'
    | .ex C => ∀ H0' H', Same H0 H0' → Rel K G0 G δ σ H0' H' → W (.ref (He.ga K C)) none σ H'
    | .no => False) : te σ H Q := by
  unfold evA at p
  cases e : c δ with
  | ok d =>
    rw [e] at p
    refine h G0 G δ σ H0 H Q r ?_
    rw [e]
    exact fun A B v s q => p A B v s.e0 (r.step s) q
  | ex C =>
    rw [e] at p
    refine h G0 G δ σ H0 H Q r ?_
    rw [e]
    exact fun A B s => p A B s.e0 (r.step s)
  | no =>
    rw [e] at p
    obtain ⟨J0, e0, rb, hl⟩ := r.bor
    refine h G0 G (bor δ) σ J0 H Q rb ?_
    cases e2 : c (bor δ) with
    | ok d =>
      have p' : match (if d.flat = true then R.ok (d, δ) else R.ok (d, bor δ)) with
        | .ok (d, δ') => ∀ H0' H' v, Same H0 H0' → Rel K G0 G δ' σ H0' H' → Dr K H0' v d → Q v H'
        | .ex C => ∀ H0' H', Same H0 H0' → Rel K G0 G δ σ H0' H' → W (.ref (He.ga K C)) none σ H'
        | .no => False := by
        rw [e2] at p
        exact p
      intro A B v s q
      by_cases hf : d.flat = true
      · rw [if_pos hf] at p'
        obtain ⟨H1, s1, cut, _⟩ := back r.same e0 hl s
        exact p' H1 B v s1.e0 (r.step s1) (Dr.cut cut d hf q)
      · rw [if_neg hf] at p'
        exact p' A B v (e0.trans s.e0) (rb.step s) q
    | ex C =>
      rw [e2] at p
      intro A B s
      obtain ⟨H1, s1, _, _⟩ := back r.same e0 hl s
      exact p H1 B s1.e0 (r.step s1)
    | no =>
      rw [e2] at p
      exact p
theorem evT_ok {tt : TT} {c : CB} (h : Ev K W SB tt c) (r : Rel K G0 G δ σ H0 H) {Q : Bool → Hp → Prop} (p : match evT c δ with
    | .ok b => ∀ H0' H', Same H0 H0' → Rel K G0 G δ σ H0' H' → Q b H'
    | .ex C => ∀ H0' H', Same H0 H0' → Rel K G0 G δ σ H0' H' → W (.ref (He.ga K C)) none σ H'
    | .no => False) : tt σ H Q := by
  unfold evT at p
  obtain ⟨J0, e0, rb, hl⟩ := r.bor
  refine h G0 G (bor δ) σ J0 H Q rb ?_
  cases e2 : c (bor δ) with
  | ok d =>
    rw [e2] at p
    intro A B v s q
    have q : v = d := q
    subst q
    obtain ⟨H1, s1, cut, _⟩ := back r.same e0 hl s
    exact p H1 B s1.e0 (r.step s1)
  | ex C =>
    rw [e2] at p
    intro A B s
    obtain ⟨H1, s1, _, _⟩ := back r.same e0 hl s
    exact p H1 B s1.e0 (r.step s1)
  | no =>
    rw [e2] at p
    exact p
/-- p is a new list, in no slot -/
def NewL (K : PySem.W.Frag) (G H0 H : Hp) (δ : List Sl) (σ : L2.St) (v : V) (ds : List D) : Prop := ∃ p vs, v = .ref p ∧ G p = none ∧ H0 p = none ∧ H p = some (.lst vs) ∧ DrAll K H0 vs ds ∧ ∃ fp, OwnF K G H0 H δ σ fp ∧ ∀ j, p ∉ fp j
theorem evN_ok {te : TE} {c : CA} (h : Ev K W (SW K) te c) (r : Rel K G0 G δ σ H0 H) {Q : VK} (p : match evN c δ with
    | .ok (d, δ') => ∀ H0' H' v, Same H0 H0' → Rel K G0 G δ' σ H0' H' → NewL K G H0' H' δ' σ v d → Q v H'
    | .ex C => ∀ H0' H', Same H0 H0' → Rel K G0 G δ σ H0' H' → W (.ref (He.ga K C)) none σ H'
    | .no => False) : te σ H Q := by
  have nw : ∀ {a : Addr} {A B : Hp}, H a = none → Stp H0 H A B → ∃ fp, OwnF K G A B δ σ fp ∧ ∀ j, a ∉ fp j := fun {a A B} ha st => by
    obtain ⟨fp, o⟩ := r.own
    refine ⟨fp, o.step st, fun j m => ?_⟩
    obtain ⟨u, h1, _⟩ := (o.s j).there m
    rw [ha] at h1
    cases h1
  unfold evN at p
  cases e : c δ with
  | ok d =>
    rw [e] at p
    refine h G0 G δ σ H0 H Q r ?_
    rw [e]
    intro A B v s q
    obtain ⟨a, vs, rfl, n1, n2, hb, hr⟩ := q
    exact p A B _ s.e0 (r.step s) ⟨a, vs, rfl, r.st.e.free n1, n2, hb, hr, nw n1 s⟩
  | ex C =>
    rw [e] at p
    refine h G0 G δ σ H0 H Q r ?_
    rw [e]
    exact fun A B s => p A B s.e0 (r.step s)
  | no =>
    rw [e] at p
    obtain ⟨J0, e0, rb, hl⟩ := r.bor
    refine h G0 G (bor δ) σ J0 H Q rb ?_
    cases e2 : c (bor δ) with
    | ok d =>
      have p' : match (if D.flat.flats d = true then R.ok (d, δ) else R.ok (d, bor δ)) with
        | .ok (d, δ') => ∀ H0' H' v, Same H0 H0' → Rel K G0 G δ' σ H0' H' → NewL K G H0' H' δ' σ v d → Q v H'
        | .ex C => ∀ H0' H', Same H0 H0' → Rel K G0 G δ σ H0' H' → W (.ref (He.ga K C)) none σ H'
        | .no => False := by
        rw [e2] at p
        exact p
      intro A B v s q
      obtain ⟨a, vs, rfl, n1, n2, hb, hr⟩ := q
      by_cases hf : D.flat.flats d = true
      · rw [if_pos hf] at p'
        obtain ⟨H1, s1, cut, cn⟩ := back r.same e0 hl s
        exact p' H1 B _ s1.e0 (r.step s1) ⟨a, vs, rfl, r.st.e.free n1, cn a n2, hb, DrAll.cut cut d hf hr, nw n1 s1⟩
      · rw [if_neg hf] at p'
        obtain ⟨fp, o⟩ := rb.own
        refine p' A B _ (e0.trans s.e0) (rb.step s) ⟨a, vs, rfl, r.st.e.free n1, n2, hb, hr, fp, o.step s, fun j m => ?_⟩
        obtain ⟨u, h1, _⟩ := (o.s j).there m
        rw [n1] at h1
        cases h1
    | ex C =>
      rw [e2] at p
      intro A B s
      obtain ⟨H1, s1, _, _⟩ := back r.same e0 hl s
      exact p H1 B s1.e0 (r.step s1)
    | no =>
      rw [e2] at p
      exact p
theorem evI_ok {wi : TI} {c : CA} (h : Ev K W (SI0 K) wi c) (r : Rel K G0 G δ σ H0 H) {Q : It → Hp → Prop} (p : match evI c δ with
    | .ok (d, δ') => ∀ H0' H' J, Same H0 H0' → Rel K G0 G δ' σ H0' H' → Wk K J H0' d → Q J H'
    | .ex C => ∀ H0' H', Same H0 H0' → Rel K G0 G δ σ H0' H' → W (.ref (He.ga K C)) none σ H'
    | .no => False) : wi σ H Q := by
  unfold evI at p
  cases e : c δ with
  | ok d =>
    rw [e] at p
    refine h G0 G δ σ H0 H Q r ?_
    rw [e]
    exact fun A B v s q => p A B v s.e0 (r.step s) q
  | ex C =>
    rw [e] at p
    refine h G0 G δ σ H0 H Q r ?_
    rw [e]
    exact fun A B s => p A B s.e0 (r.step s)
  | no =>
    rw [e] at p
    obtain ⟨J0, e0, rb, hl⟩ := r.bor
    refine h G0 G (bor δ) σ J0 H Q rb ?_
    cases e2 : c (bor δ) with
    | ok d =>
      rw [e2] at p
      exact fun A B v s q => p A B v (e0.trans s.e0) (rb.step s) q
    | ex C =>
      rw [e2] at p
      intro A B s
      obtain ⟨H1, s1, _, _⟩ := back r.same e0 hl s
      exact p H1 B s1.e0 (r.step s1)
    | no =>
      rw [e2] at p
      exact p
end
end Dw
namespace Dw
open PySem L2 PyProof.Rows
/-! ### statements -/
inductive Fl where
  | nx (δ : List Sl)
  | rt (d : D)
  | rtl (ds : List D)
  | bk (δ : List Sl)
  | ct (δ : List Sl)
  | ex (C : Str) (δ : List Sl)
  | no
abbrev CS := List Sl → Fl
def PostS (K : PySem.W.Frag) (W : WX) (G0 G H0 : Hp) (E : Ends) : Fl → Prop
  | .nx δ => ∀ σ H0' H', Same H0 H0' → Rel K G0 G δ σ H0' H' → E.nx σ H'
  | .rt d => ∀ H0' H' v, Same H0 H0' → Stp G0 G H0' H' → Dr K H0' v d → E.rt v H'
  | .rtl ds => ∀ H0' H' v, Same H0 H0' → Stp G0 G H0' H' → SW K G H0' H' v ds → E.rt v H'
  | .bk δ => ∀ σ H0' H', Same H0 H0' → Rel K G0 G δ σ H0' H' → E.bk σ H'
  | .ct δ => ∀ σ H0' H', Same H0 H0' → Rel K G0 G δ σ H0' H' → E.ct σ H'
  | .ex C δ => ∀ σ H0' H', Same H0 H0' → Rel K G0 G δ σ H0' H' → W (.ref (He.ga K C)) none σ H'
  | .no => False
def EvS (K : PySem.W.Frag) (W : WX) (t : TS) (c : CS) : Prop := ∀ G0 G δ σ H0 H E, Rel K G0 G δ σ H0 H → PostS K W G0 G H0 E (c δ) → t E σ H
def SS (X : Cx) (W : WX) (st : Stmt) (c : CS) : Prop := ∃ t, PS X st t ∧ EvS X.K W t c
def SSs (X : Cx) (W : WX) (st : List Stmt) (c : CS) : Prop := ∃ t, PSs X st t ∧ EvS X.K W t c
theorem PostS.mono {K : PySem.W.Frag} {W : WX} {G0 G H0 J0 : Hp} {E : Ends} {r : Fl} (h : PostS K W G0 G H0 E r) (s : Same H0 J0) : PostS K W G0 G J0 E r := by
  cases r with
  | nx δ => exact fun σ A B e q => h σ A B (s.trans e) q
  | rt d => exact fun A B v e q => h A B v (s.trans e) q
  | rtl d => exact fun A B v e q => h A B v (s.trans e) q
  | bk δ => exact fun σ A B e q => h σ A B (s.trans e) q
  | ct δ => exact fun σ A B e q => h σ A B (s.trans e) q
  | ex C δ => exact fun σ A B e q => h σ A B (s.trans e) q
  | no => exact h
def cNoS : CS := fun _ => .no
def cNx : CS := fun δ => .nx δ
def fSeq : Fl → CS → Fl
  | .nx δ, k => k δ
  | r, _ => r
def cSeq (a b : CS) : CS := fun δ => fSeq (a δ) b
section
variable {X : Cx} {W : WX}
theorem ss_none {st : Stmt} : SS X W st cNoS := ⟨_, ps_never, fun _ _ _ _ _ _ _ _ p => p⟩
theorem sss_none {st : List Stmt} : SSs X W st cNoS := ⟨_, pss_never, fun _ _ _ _ _ _ _ _ p => p⟩
theorem sss_nil : SSs X W [] cNx := ⟨_, pss_nil, fun G0 G δ σ H0 H E r p => p σ H0 H (Same.refl _) r⟩
theorem sss_cons {st : Stmt} {sts : List Stmt} {a b : CS} (h1 : SS X W st a) (h2 : SSs X W sts b) : SSs X W (st :: sts) (cSeq a b) := by
  obtain ⟨t, p, v⟩ := h1
  obtain ⟨u, q, w⟩ := h2
  refine ⟨_, pss_cons p q, fun G0 G δ σ H0 H E r po => ?_⟩
  refine v G0 G δ σ H0 H { E with nx := u E } r ?_
  have po' : PostS X.K W G0 G H0 E (fSeq (a δ) b) := po
  cases e : a δ with
  | nx δ' =>
    rw [e] at po'
    exact fun σ' A B s r' => w G0 G δ' σ' A B E r' (PostS.mono po' s)
  | rt d => rw [e] at po'; exact po'
  | rtl d => rw [e] at po'; exact po'
  | bk δ' => rw [e] at po'; exact po'
  | ct δ' => rw [e] at po'; exact po'
  | ex C δ' => rw [e] at po'; exact po'
  | no => rw [e] at po'; exact po'
theorem ss_pass {pos : Pos} : SS X W (.Pass pos) cNx := ⟨_, ps_pass, fun G0 G δ σ H0 H E r p => p σ H0 H (Same.refl _) r⟩
def cBk : CS := fun δ => .bk δ
def cCt : CS := fun δ => .ct δ
theorem ss_break {pos : Pos} : SS X W (.Break pos) cBk := ⟨_, ps_break, fun G0 G δ σ H0 H E r p => p σ H0 H (Same.refl _) r⟩
theorem ss_cont {pos : Pos} : SS X W (.Continue pos) cCt := ⟨_, ps_continue, fun G0 G δ σ H0 H E r p => p σ H0 H (Same.refl _) r⟩
/-! an expression alone -/
def isComp : Expr → Bool
  | .ListComp _ _ _ _ => true
  | .SetComp _ _ _ _ => true
  | .DictComp _ _ _ _ _ => true
  | _ => false
theorem swaps_of {e : Expr} {tg : Option Expr} {l : Nat} {env : Env} (h : isComp e = false) : swapsWith e tg l env = pure false := by
  cases e <;> first | rfl | cases h
def fA {α : Type} (r : R (α × List Sl)) (δ : List Sl) (k : α → List Sl → Fl) : Fl := match r with
  | .ok (d, δ') => k d δ'
  | .ex C => .ex C δ
  | .no => .no
def cExp (c : C) : CS := fun δ => fA (evA c δ) δ fun _ δ' => .nx δ'
theorem ss_expr {e : Expr} {pos : Pos} {c : C} (h : SE X W e c) (hc : isComp e = false) : SS X W (.Expr e pos) (cExp c) := by
  obtain ⟨t, p, v⟩ := h
  refine ⟨_, ps_expr p (swaps_of hc), fun G0 G δ σ H0 H E r po => evA_ok v r ?_⟩
  have po' : PostS X.K W G0 G H0 E (fA (evA c δ) δ fun _ δ' => .nx δ') := po
  split
  · rename_i d δ' e
    rw [e] at po'
    exact fun A B x s r' _ => po' σ A B s r'
  · rename_i C e
    rw [e] at po'
    exact fun A B s r' => po' σ A B s r'
  · rename_i e
    rw [e] at po'
    exact po'
/-! return -/
def cRetV (c : C) : CS := fun δ => fA (evA c δ) δ fun d _ => .rt d
def cRetN (cn : CA) : CS := fun δ => fA (evN cn δ) δ fun d _ => .rtl d
def cRetO (i : Nat) : CS := fun δ => match δ[i]? with
  | some (.ow ds) => .rtl ds
  | some (.pu d) => .rt d
  | some (.nt ds) => .rt (.tup ds)
  | _ => .no
def cRetN0 : CS := fun _ => .rt .non
theorem evs_ret {K : PySem.W.Frag} {t : TE} {c : C} (v : Ev K W (SV K) t c) : EvS K W (tRet t) (cRetV c) := fun G0 G δ σ H0 H E r po => by
  refine evA_ok v r ?_
  have po' : PostS K W G0 G H0 E (fA (evA c δ) δ fun d _ => .rt d) := po
  split
  · rename_i d δ' e
    rw [e] at po'
    exact fun A B x s r' hd => po' A B x s r'.st hd
  · rename_i C e
    rw [e] at po'
    exact fun A B s r' => po' σ A B s r'
  · rename_i e
    rw [e] at po'
    exact po'
theorem ss_retV {e : Expr} {pos : Pos} {c : C} (h : SE X W e c) : SS X W (.Return (some e) pos) (cRetV c) := by
  obtain ⟨t, p, v⟩ := h
  exact ⟨_, ps_ret p, evs_ret v⟩
theorem ss_retN {e : Expr} {pos : Pos} {c : CA} (h : SN X W e c) : SS X W (.Return (some e) pos) (cRetN c) := by
  obtain ⟨t, p, v⟩ := h
  refine ⟨_, ps_ret p, fun G0 G δ σ H0 H E r po => evN_ok v r ?_⟩
  have po' : PostS X.K W G0 G H0 E (fA (evN c δ) δ fun d _ => .rtl d) := po
  split
  · rename_i d δ' e
    rw [e] at po'
    intro A B x s r' hd
    obtain ⟨a, vs, rfl, g, n, hb, hr, _⟩ := hd
    exact po' A B _ s r'.st ⟨a, vs, rfl, g, n, hb, hr⟩
  · rename_i C e
    rw [e] at po'
    exact fun A B s r' => po' σ A B s r'
  · rename_i e
    rw [e] at po'
    exact po'
/-- two readings of one expression -/
theorem pe_or2 {e : Expr} {t u : TE} (a : PE X e t) (b : PE X e u) : PE X e (fun σ H Q => t σ H Q ∨ u σ H Q) := ⟨fun pins s σ H Q I h => by
  rcases h with h | h
  · exact a.run pins s σ H Q I h
  · exact b.run pins s σ H Q I h⟩
/-- the first closure that does not stop -/
def cOrS (a b : CS) : CS := fun δ => match a δ with
  | .no => b δ
  | r => r
theorem ps_or2 {st : Stmt} {t u : TS} (a : PS X st t) (b : PS X st u) : PS X st (fun E σ H => t E σ H ∨ u E σ H) := ⟨fun pins s σ H Q I h => by
  rcases h with h | h
  · exact a.run pins s σ H Q I h
  · exact b.run pins s σ H Q I h⟩
theorem ss_or {st : Stmt} {a b : CS} (ha : SS X W st a) (hb : SS X W st b) : SS X W st (cOrS a b) := by
  obtain ⟨t, p, v⟩ := ha
  obtain ⟨u, q, w⟩ := hb
  refine ⟨_, ps_or2 p q, fun G0 G δ σ H0 H E r po => ?_⟩
  have po' : PostS X.K W G0 G H0 E (match a δ with
    | .no => b δ
    | r => r) := po
  cases e : a δ with
  | no =>
    rw [e] at po'
    exact .inr (w G0 G δ σ H0 H E r po')
  | nx δ' => rw [e] at po'; exact .inl (v G0 G δ σ H0 H E r (by rw [e]; exact po'))
  | rt d => rw [e] at po'; exact .inl (v G0 G δ σ H0 H E r (by rw [e]; exact po'))
  | rtl d => rw [e] at po'; exact .inl (v G0 G δ σ H0 H E r (by rw [e]; exact po'))
  | bk δ' => rw [e] at po'; exact .inl (v G0 G δ σ H0 H E r (by rw [e]; exact po'))
  | ct δ' => rw [e] at po'; exact .inl (v G0 G δ σ H0 H E r (by rw [e]; exact po'))
  | ex C δ' => rw [e] at po'; exact .inl (v G0 G δ σ H0 H E r (by rw [e]; exact po'))
theorem ss_retO {i : Nat} {x : Str} {p pos : Pos} (hN : X.N[i]? = some x) (hv : Vis X.env.scope x) (hd : (x == ("__debug__" : Str)) = false) (hcd : (x == ("__classdict__" : Str)) = false) : SS X W (.Return (some (.Name x p)) pos) (cRetO i) := by
  refine ⟨_, ps_ret (pe_var hN hv hd hcd), fun G0 G δ σ H0 H E r po => ?_⟩
  have po' : PostS X.K W G0 G H0 E (match δ[i]? with
    | some (.ow ds) => Fl.rtl ds
    | some (.pu d) => .rt d
    | some (.nt ds) => .rt (.tup ds)
    | _ => .no) := po
  cases e : δ[i]? with
  | none => rw [e] at po'; exact po'.elim
  | some s =>
    rw [e] at po'
    cases s with
    | un => exact po'.elim
    | oo d => exact po'.elim
    | od d => exact po'.elim
    | nt d =>
      obtain ⟨v, h, q⟩ := r.nt i d e
      exact ⟨v, h, po' H0 H v (Same.refl _) r.st q.dr⟩
    | pu d =>
      obtain ⟨v, h, q⟩ := r.pu i d e
      exact ⟨v, h, po' H0 H v (Same.refl _) r.st q⟩
    | ow ds =>
      obtain ⟨p, vs, h, g, n, hp, q⟩ := r.ow i ds e
      exact ⟨_, h, po' H0 H _ (Same.refl _) r.st ⟨p, vs, rfl, g, n, hp, q⟩⟩
theorem ss_ret0 {pos : Pos} : SS X W (.Return none pos) cRetN0 := ⟨_, ps_retN, fun G0 G δ σ H0 H E r p => p H0 H .non (Same.refl _) r.st .non⟩
/-! a name is set -/
def cAsg (i : Nat) (c : C) : CS := fun δ => fA (evA c δ) δ fun d δ' => .nx (δ'.set i (.pu d))
def cAsgN (i : Nat) (c : CA) : CS := fun δ => fA (evN c δ) δ fun d δ' => .nx (δ'.set i (.ow d))
theorem evs_asg {K : PySem.W.Frag} {t : TE} {c : C} {i : Nat} (v : Ev K W (SV K) t c) : EvS K W (tAsg t (gName i)) (cAsg i c) := fun G0 G δ σ H0 H E r po => by
  refine evA_ok v r ?_
  have po' : PostS K W G0 G H0 E (fA (evA c δ) δ fun d δ' => .nx (δ'.set i (.pu d))) := po
  split
  · rename_i d δ' e
    rw [e] at po'
    exact fun A B x s r' hd => po' _ A B s (r'.setP hd)
  · rename_i C e
    rw [e] at po'
    exact fun A B s r' => po' σ A B s r'
  · rename_i e
    rw [e] at po'
    exact po'
theorem evs_asgN {K : PySem.W.Frag} {t : TE} {c : CA} {i : Nat} (v : Ev K W (SW K) t c) : EvS K W (tAsg t (gName i)) (cAsgN i c) := fun G0 G δ σ H0 H E r po => by
  refine evN_ok v r ?_
  have po' : PostS K W G0 G H0 E (fA (evN c δ) δ fun d δ' => .nx (δ'.set i (.ow d))) := po
  split
  · rename_i d δ' e
    rw [e] at po'
    intro A B x s r' hd
    obtain ⟨a, vs, rfl, g, n, hb, hr, fp, o, nw⟩ := hd
    exact po' _ A B s (r'.setO o g n hb hr nw)
  · rename_i C e
    rw [e] at po'
    exact fun A B s r' => po' σ A B s r'
  · rename_i e
    rw [e] at po'
    exact po'
theorem ss_set {i : Nat} {x : Str} {e : Expr} {p pos : Pos} {c : C} (hN : X.N.Nodup) (hi : X.N[i]? = some x) (hx : Loc X.env.scope x) (hf : X.fn x = true) (h : SE X W e c) (hc : isComp e = false) : SS X W (.Assign [.Name x p] e pos) (cAsg i c) := by
  obtain ⟨t, p, v⟩ := h
  exact ⟨_, ps_set hN hi hx p (swaps_of hc) (.inl hf), evs_asg v⟩
theorem ss_setN {i : Nat} {x : Str} {e : Expr} {p pos : Pos} {c : CA} (hN : X.N.Nodup) (hi : X.N[i]? = some x) (hx : Loc X.env.scope x) (hf : X.fn x = true) (h : SN X W e c) (hc : isComp e = false) : SS X W (.Assign [.Name x p] e pos) (cAsgN i c) := by
  obtain ⟨t, p, v⟩ := h
  exact ⟨_, ps_set hN hi hx p (swaps_of hc) (.inl hf), evs_asgN v⟩
/-! a target of another kind: a tuple of names, from a value -/
def cAsgT (ct : CT) (c : C) : CS := fun δ => fA (evA c δ) δ fun d δ' => match ct d δ' with
  | some δ2 => .nx δ2
  | none => .no
theorem ss_asgT {tg e : Expr} {pos : Pos} {ct : CT} {ix : List Nat} {c : C} (hg : SG X tg ct ix) (h : SE X W e c) (hc : isComp e = false) (hp : plainArg tg = true) (hw : swappedStores [tg] e X.env = pure none) : SS X W (.Assign [tg] e pos) (cAsgT ct c) := by
  obtain ⟨t, p, v⟩ := h
  obtain ⟨g, q, w⟩ := hg
  refine ⟨_, ps_asg p q (show swapsWith e (some tg) pos.line X.env = pure false from swaps_of hc) hw (by rw [assign_of hp]; rfl), fun G0 G δ σ H0 H E r po => evA_ok v r ?_⟩
  have po' : PostS X.K W G0 G H0 E (fA (evA c δ) δ fun d δ' => match ct d δ' with
    | some δ2 => .nx δ2
    | none => .no) := po
  split
  · rename_i d δ' e
    rw [e] at po'
    intro A B x s r' hd
    refine w G0 G δ' σ A B x d _ r' hd ?_
    have po2 : PostS X.K W G0 G H0 E (match ct d δ' with
      | some δ2 => .nx δ2
      | none => .no) := po'
    cases e2 : ct d δ' with
    | none => rw [e2] at po2; exact po2
    | some δ2 =>
      rw [e2] at po2
      exact fun σ' r2 _ => po2 σ' A B s r2
  · rename_i C e
    rw [e] at po'
    exact fun A B s r' => po' σ A B s r'
  · rename_i e
    rw [e] at po'
    exact po'
/-! name op= int -/
def kAug (i : Nat) (f : Int → Int → Int) (a : Int) (d : D) (δ' : List Sl) : Fl := match d with
  | .int b => .nx (δ'.set i (.pu (.int (f a b))))
  | _ => .no
def cAug (i : Nat) (f : Int → Int → Int) (c : C) : CS := fun δ => match δ[i]? with
  | some (.pu (.int a)) => fA (evA c δ) δ fun d δ' => kAug i f a d δ'
  | _ => .no
/-! if -/
def cIfS (t : CB) (a b : CS) : CS := fun δ => match evT t δ with
  | .ok true => a δ
  | .ok false => b δ
  | .ex C => .ex C δ
  | .no => .no
theorem ss_if {t : Expr} {as bs : List Stmt} {pos : Pos} {ct : CB} {a b : CS} (h : ST X W t ct) (ha : SSs X W as a) (hb : SSs X W bs b) : SS X W (.If t as bs pos) (cIfS ct a b) := by
  obtain ⟨tt, p, v⟩ := h
  obtain ⟨u, q, w⟩ := ha
  obtain ⟨u2, q2, w2⟩ := hb
  refine ⟨_, ps_if p q q2, fun G0 G δ σ H0 H E r po => evT_ok v r ?_⟩
  have po' : PostS X.K W G0 G H0 E (match evT ct δ with
    | .ok true => a δ
    | .ok false => b δ
    | .ex C => .ex C δ
    | .no => .no) := po
  cases e : evT ct δ with
  | ok k =>
    rw [e] at po'
    intro A B s r'
    cases k with
    | true => exact w G0 G δ σ A B E r' (PostS.mono po' s)
    | false => exact w2 G0 G δ σ A B E r' (PostS.mono po' s)
  | ex C =>
    rw [e] at po'
    exact fun A B s r' => po' σ A B s r'
  | no => rw [e] at po'; exact po'
/-! for -/
def fLoop (r : Fl) (k : List Sl → Fl) : Fl := match r with
  | .nx δ => k δ
  | .ct δ => k δ
  | .bk δ => .nx δ
  | r => r
def forGo (ct : CT) (cb : CS) : List D → List Sl → Fl
  | [], δ => .nx δ
  | d :: ds, δ => match ct d δ with
    | none => .no
    | some δ1 => fLoop (cb δ1) (forGo ct cb ds)
def cFor (ci : CA) (ct : CT) (cb : CS) : CS := fun δ => fA (evI ci δ) δ fun ds δ' => forGo ct cb ds δ'
theorem ss_for {tg iter : Expr} {body : List Stmt} {pos : Pos} {ci : CA} {ct : CT} {ix : List Nat} {cb : CS} (hp : PassesOwn (model X.prog X.w) X.A X.env X.xe) (hc : X.calm = true) (hi : SI X W tg iter ci) (hg : SG X tg ct ix) (hb : SSs X W body cb)
    (hs : ∀ x, foldedSetIterable iter X.env x = pure x) : SS X W (.For tg iter body [] pos) (cFor ci ct cb) := by
  obtain ⟨wi, p, v⟩ := hi
  obtain ⟨g, q, w⟩ := hg
  obtain ⟨tb, pb, vb⟩ := hb
  refine ⟨_, ps_for hp hc p q pb hs, fun G0 G δ σ Z0 Z E rl po => ?_⟩
  have po' : PostS X.K W G0 G Z0 E (fA (evI ci δ) δ fun ds δ' => forGo ct cb ds δ') := po
  refine evI_ok v rl ?_
  split
  · rename_i ds δ0 e
    rw [e] at po'
    intro A1 B1 J s1 r1 wk
    have po2 : PostS X.K W G0 G Z0 E (forGo ct cb ds δ0) := po'
    generalize er : forGo ct cb ds δ0 = r at po2
    refine ⟨fun i m σ H => m = ds.length - i ∧ i ≤ ds.length ∧ ∃ δ A, Same A1 A ∧ Same Z0 A ∧ Rel X.K G0 G δ σ A H ∧ forGo ct cb (ds.drop i) δ = r, ⟨ds.length, by simp, Nat.zero_le _, δ0, A1, Same.refl _, s1, r1, er⟩, ?_⟩
    rintro i m σ H ⟨rfl, hi, δ, A, e1, e2, rl, hgo⟩
    have wki := wk i A H e1 rl.same
    by_cases hlt : i < ds.length
    · have hd : ds[i]? = some ds[i] := List.getElem?_eq_getElem hlt
      obtain ⟨go, yl⟩ := wki.1 _ hd
      rw [List.drop_eq_getElem_cons hlt] at hgo
      refine .inr ⟨go, fun σ' H' => i + 1 ≤ ds.length ∧ ∃ δ A, Same A1 A ∧ Same Z0 A ∧ Rel X.K G0 G δ σ' A H' ∧ forGo ct cb (ds.drop (i + 1)) δ = r, fun σ' H' z => ⟨ds.length - (i + 1), by omega, rfl, z⟩, fun x H' y => ?_⟩
      obtain ⟨A', S', dx⟩ := yl x H' y
      have rl' := rl.step S'
      refine w G0 G δ σ A' H' x _ _ rl' dx ?_
      have hgo' : (match ct ds[i] δ with
        | none => Fl.no
        | some δ1 => fLoop (cb δ1) (forGo ct cb (ds.drop (i + 1)))) = r := hgo
      cases ec : ct ds[i] δ with
      | none =>
        rw [ec] at hgo'
        rw [← hgo'] at po2
        exact po2
      | some δ1 =>
        rw [ec] at hgo'
        intro σ2 r2 _
        refine vb G0 G δ1 σ2 A' H' _ r2 ?_
        have hgo2 : fLoop (cb δ1) (forGo ct cb (ds.drop (i + 1))) = r := hgo'
        have go2 : ∀ δ2, fLoop (.nx δ2) (forGo ct cb (ds.drop (i + 1))) = r → ∀ σ' A2 H2, Same A' A2 → Rel X.K G0 G δ2 σ' A2 H2 → i + 1 ≤ ds.length ∧ ∃ δ A, Same A1 A ∧ Same Z0 A ∧ Rel X.K G0 G δ σ' A H2 ∧ forGo ct cb (ds.drop (i + 1)) δ = r :=
          fun δ2 h σ' A2 H2 s2 r3 => ⟨hlt, δ2, A2, (e1.trans S'.e0).trans s2, (e2.trans S'.e0).trans s2, r3, h⟩
        cases eb : cb δ1 with
        | nx δ2 =>
          rw [eb] at hgo2
          exact fun σ' A2 H2 s2 r3 => go2 δ2 hgo2 σ' A2 H2 s2 r3
        | ct δ2 =>
          rw [eb] at hgo2
          exact fun σ' A2 H2 s2 r3 => go2 δ2 hgo2 σ' A2 H2 s2 r3
        | bk δ2 =>
          rw [eb] at hgo2
          rw [← hgo2] at po2
          exact fun σ' A2 H2 s2 r3 => po2 σ' A2 H2 ((e2.trans S'.e0).trans s2) r3
        | rt d =>
          rw [eb] at hgo2
          rw [← hgo2] at po2
          exact PostS.mono (r := .rt d) po2 (e2.trans S'.e0)
        | rtl d =>
          rw [eb] at hgo2
          rw [← hgo2] at po2
          exact PostS.mono (r := .rtl d) po2 (e2.trans S'.e0)
        | ex C δ2 =>
          rw [eb] at hgo2
          rw [← hgo2] at po2
          exact PostS.mono (r := .ex C δ2) po2 (e2.trans S'.e0)
        | no =>
          rw [eb] at hgo2
          rw [← hgo2] at po2
          exact po2
    · have ei : i = ds.length := by omega
      subst ei
      refine .inl ⟨wki.2 (List.getElem?_eq_none (Nat.le_refl _)), ?_⟩
      rw [List.drop_length] at hgo
      rw [← hgo] at po2
      exact po2 σ A H e2 rl
  · rename_i C e
    rw [e] at po'
    exact fun A B s r' => po' σ A B s r'
  · rename_i e
    rw [e] at po'
    exact po'
/-! while -/
def whN (t : CB) (b : CS) : Nat → List Sl → Fl
  | 0, _ => .no
  | n + 1, δ => match evT t δ with
    | .ok true => fLoop (b δ) (whN t b n)
    | .ok false => .nx δ
    | .ex C => .ex C δ
    | .no => .no
end
end Dw
namespace Dw
open PySem L2 PyProof.Rows
/-! ### while: what some number of turns answers -/
theorem whN_mono {t : CB} {b : CS} : ∀ (n : Nat) (δ : List Sl), whN t b n δ ≠ .no → whN t b (n + 1) δ = whN t b n δ
  | 0, δ, h => absurd rfl h
  | n + 1, δ, h => by
    have e1 : whN t b (n + 1) δ = match evT t δ with
      | .ok true => fLoop (b δ) (whN t b n)
      | .ok false => .nx δ
      | .ex C => .ex C δ
      | .no => .no := rfl
    have e2 : whN t b (n + 1 + 1) δ = match evT t δ with
      | .ok true => fLoop (b δ) (whN t b (n + 1))
      | .ok false => .nx δ
      | .ex C => .ex C δ
      | .no => .no := rfl
    rw [e1] at h ⊢
    rw [e2]
    cases et : evT t δ with
    | no => rfl
    | ex C => rfl
    | ok k =>
      cases k with
      | false => rfl
      | true =>
        rw [et] at h
        have h' : fLoop (b δ) (whN t b n) ≠ .no := h
        show fLoop (b δ) (whN t b (n + 1)) = fLoop (b δ) (whN t b n)
        cases eb : b δ with
        | nx δ' => rw [eb] at h'; exact whN_mono n δ' h'
        | ct δ' => rw [eb] at h'; exact whN_mono n δ' h'
        | _ => rfl
theorem whN_le {t : CB} {b : CS} {δ : List Sl} {n : Nat} (h : whN t b n δ ≠ .no) : ∀ k, whN t b (n + k) δ = whN t b n δ
  | 0 => rfl
  | k + 1 => by
    have ih := whN_le h k
    rw [← Nat.add_assoc, whN_mono (n + k) δ (by rw [ih]; exact h), ih]
open Classical in
noncomputable def cWh (t : CB) (b : CS) : CS := fun δ => if h : ∃ n, whN t b n δ ≠ .no then whN t b (Classical.choose h) δ else .no
theorem cWh_of {t : CB} {b : CS} {δ : List Sl} {n : Nat} {r : Fl} (h : whN t b n δ = r) (hr : r ≠ .no) : cWh t b δ = r := by
  have hx : ∃ n, whN t b n δ ≠ .no := ⟨n, by rw [h]; exact hr⟩
  unfold cWh
  rw [dif_pos hx]
  have hm := Classical.choose_spec hx
  have a := whN_le hm n
  have b' := whN_le (n := n) (by rw [h]; exact hr) (Classical.choose hx)
  rw [Nat.add_comm, b'] at a
  rw [← a, h]
theorem cWh_some {t : CB} {b : CS} {δ : List Sl} (h : cWh t b δ ≠ .no) : ∃ n, whN t b n δ = cWh t b δ := by
  unfold cWh at h ⊢
  split at h
  · rename_i hx
    rw [dif_pos hx]
    exact ⟨_, rfl⟩
  · exact absurd rfl h
section
variable {X : Cx} {W : WX}
theorem ss_while {t : Expr} {body : List Stmt} {pos : Pos} {ct : CB} {cb : CS} (hp : PassesOwn (model X.prog X.w) X.A X.env X.xe) (ht : ST X W t ct) (hb : SSs X W body cb) : SS X W (.While t body [] pos) (cWh ct cb) := by
  obtain ⟨tt, p, v⟩ := ht
  obtain ⟨tb, q, w⟩ := hb
  refine ⟨_, ps_while hp p q, fun G0 G δ σ Z0 Z E rl po => ?_⟩
  have nn : cWh ct cb δ ≠ .no := fun z => by rw [z] at po; exact po
  obtain ⟨n, hn⟩ := cWh_some nn
  generalize cWh ct cb δ = r at po hn nn
  refine ⟨fun m σ H => ∃ δ A, Same Z0 A ∧ Rel X.K G0 G δ σ A H ∧ whN ct cb m δ = r, ⟨n, δ, Z0, Same.refl _, rl, hn⟩, ?_⟩
  rintro m σ H ⟨δ, A, e0, rl, hm⟩
  cases m with
  | zero => exact absurd hm.symm nn
  | succ m =>
    refine evT_ok v rl ?_
    have hm' : (match evT ct δ with
      | .ok true => fLoop (cb δ) (whN ct cb m)
      | .ok false => .nx δ
      | .ex C => .ex C δ
      | .no => .no) = r := hm
    cases et : evT ct δ with
    | no =>
      rw [et] at hm'
      exact nn hm'.symm
    | ex C =>
      rw [et] at hm'
      rw [← hm'] at po
      exact fun A2 B2 s r2 => po σ A2 B2 (e0.trans s) r2
    | ok k =>
      rw [et] at hm'
      intro A2 B2 s r2
      cases k with
      | false =>
        rw [if_neg Bool.false_ne_true]
        rw [← hm'] at po
        exact po σ A2 B2 (e0.trans s) r2
      | true =>
        rw [if_pos rfl]
        have h2 : fLoop (cb δ) (whN ct cb m) = r := hm'
        refine ⟨fun σ' H' => ∃ δ A, Same Z0 A ∧ Rel X.K G0 G δ σ' A H' ∧ whN ct cb m δ = r, fun σ' H' z => ⟨m, Nat.lt_succ_self _, z⟩, ?_⟩
        refine w G0 G δ σ A2 B2 _ r2 ?_
        cases eb : cb δ with
        | nx δ2 => rw [eb] at h2; exact fun σ' A3 B3 s3 r3 => ⟨δ2, A3, (e0.trans s).trans s3, r3, h2⟩
        | ct δ2 => rw [eb] at h2; exact fun σ' A3 B3 s3 r3 => ⟨δ2, A3, (e0.trans s).trans s3, r3, h2⟩
        | bk δ2 =>
          rw [eb] at h2
          rw [← h2] at po
          exact fun σ' A3 B3 s3 r3 => po σ' A3 B3 ((e0.trans s).trans s3) r3
        | rt d => rw [eb] at h2; rw [← h2] at po; exact PostS.mono (r := .rt d) po (e0.trans s)
        | rtl d => rw [eb] at h2; rw [← h2] at po; exact PostS.mono (r := .rtl d) po (e0.trans s)
        | ex C δ2 => rw [eb] at h2; rw [← h2] at po; exact PostS.mono (r := .ex C δ2) po (e0.trans s)
        | no => rw [eb] at h2; exact nn h2.symm
/-! ### own lists are stored into -/
def cAppd (i : Nat) (c : C) : CS := fun δ => match δ[i]? with
  | some (.ow _) => fA (evA c δ) δ fun d δ' => (match δ'[i]? with
    | some (.ow ds) => if ds.length < sizeLine then .nx (δ'.set i (.ow (ds ++ [d]))) else .no
    | _ => .no)
  | _ => .no
theorem few_one {e : Expr} {env : Env} {cpos : Pos} (h : plainArg e = true) : ((backTo cpos (starEach [e] env)).all (fun x => !x.1) && (backToKw cpos (keywordEach [] env)).all (fun x => x.1.isSome)
      && decide ([e].length + ([] : List Keyword).length + (if ([] : List Keyword).isEmpty then 0 else 1) < 30)) = true := by
  rw [star_of h]
  rfl
theorem few_two {e f : Expr} {env : Env} {cpos : Pos} (h : plainArg e = true) (h2 : plainArg f = true) : ((backTo cpos (starEach [e, f] env)).all (fun x => !x.1) && (backToKw cpos (keywordEach [] env)).all (fun x => x.1.isSome)
      && decide ([e, f].length + ([] : List Keyword).length + (if ([] : List Keyword).isEmpty then 0 else 1) < 30)) = true := by
  rw [star_of h, star_of h2]
  rfl
theorem ss_append {i : Nat} {x : Str} {e : Expr} {p ap cp pos : Pos} {c : C} (hN : X.N[i]? = some x) (hv : Vis X.env.scope x) (hd : (x == ("__debug__" : Str)) = false) (hcd : (x == ("__classdict__" : Str)) = false) (h : SE X W e c) (he : plainArg e = true) (hl : (ap.endLine == cp.line) = true) :
    SS X W (.Expr (.Call (.Attribute (.Name x p) "append" ap) [e] [] cp) pos) (cAppd i c) := by
  obtain ⟨t, q, v⟩ := h
  refine ⟨_, ps_expr (pe_bm PySem.F.plainAttrs_list PySem.F.slot_list_append PySem.F.type_list_append mt_append (pe_var hN hv hd hcd) (pa_cons q pa_nil (star_of he)) rfl (few_one he) hl (star_of he) rfl) rfl, fun G0 G δ σ H0 H E r po => ?_⟩
  have po' : PostS X.K W G0 G H0 E (match δ[i]? with
    | some (.ow _) => fA (evA c δ) δ fun d δ' => (match δ'[i]? with
      | some (.ow ds) => if ds.length < sizeLine then .nx (δ'.set i (.ow (ds ++ [d]))) else .no
      | _ => .no)
    | _ => .no) := po
  split at po'
  · rename_i ds0 e0
    obtain ⟨a, vs, hs, g, n, ha, hr⟩ := r.ow i ds0 e0
    refine ⟨_, hs, .inl ⟨rfl, vs, SqL.of ha⟩, ?_⟩
    refine evA_ok v r ?_
    split
    · rename_i d δ' e1
      rw [e1] at po'
      intro A B x s r' hd
      have po2 : PostS X.K W G0 G H0 E (match δ'[i]? with
        | some (.ow ds) => if ds.length < sizeLine then .nx (δ'.set i (.ow (ds ++ [d]))) else .no
        | _ => .no) := po'
      split at po2
      · rename_i ds e2
        split at po2
        · rename_i hz
          obtain ⟨a', ws, hs', g', n', ha', hr'⟩ := r'.ow i ds e2
          rw [hs] at hs'
          cases hs'
          exact ⟨a, ws, x, rfl, rfl, ha', by rw [hr'.length]; exact hz, po2 σ A _ s (r'.put e2 hs (hr'.append (.cons hd .nil)))⟩
        · exact po2.elim
      · exact po2.elim
    · rename_i C e1
      rw [e1] at po'
      exact fun A B s r' => po' σ A B s r'
    · rename_i e1
      rw [e1] at po'
      exact po'
  · exact po'.elim
def kIns (i : Nat) (k d : D) (δ' : List Sl) : Fl := match δ'[i]? with
  | some (.ow ds) => (match k with
    | .int j => if ds.length < sizeLine ∧ 0 ≤ j ∧ j < 2 ^ 63 then .nx (δ'.set i (.ow (ds.take j.toNat ++ [d] ++ ds.drop j.toNat))) else .no
    | _ => .no)
  | _ => .no
def cIns (i : Nat) (c1 c2 : C) : CS := fun δ => match δ[i]? with
  | some (.ow _) => fA (evA c1 δ) δ fun k δ1 => fA (evA c2 δ1) δ1 fun d δ' => kIns i k d δ'
  | _ => .no
theorem ss_insert {i : Nat} {x : Str} {e f : Expr} {p ap cp pos : Pos} {c1 c2 : C} (hN : X.N[i]? = some x) (hv : Vis X.env.scope x) (hd : (x == ("__debug__" : Str)) = false) (hcd : (x == ("__classdict__" : Str)) = false) (h : SE X W e c1) (h2 : SE X W f c2) (he : plainArg e = true) (hf : plainArg f = true) (hl : (ap.endLine == cp.line) = true) :
    SS X W (.Expr (.Call (.Attribute (.Name x p) "insert" ap) [e, f] [] cp) pos) (cIns i c1 c2) := by
  obtain ⟨t, q, v⟩ := h
  obtain ⟨u, q2, v2⟩ := h2
  refine ⟨_, ps_expr (pe_bm PySem.F.plainAttrs_list PySem.F.slot_list_insert PySem.F.type_list_insert mt_insert (pe_var hN hv hd hcd) (pa_cons q (pa_cons q2 pa_nil (star_of hf)) (star_of he)) rfl (few_two he hf) hl (star_of he) (by rw [star_of hf]; rfl)) rfl, fun G0 G δ σ H0 H E r po => ?_⟩
  unfold cIns at po
  split at po
  · rename_i ds0 e0
    obtain ⟨a, vs, hs, g, n, ha, hr⟩ := r.ow i ds0 e0
    refine ⟨_, hs, .inl ⟨rfl, vs, SqL.of ha⟩, ?_⟩
    refine evA_ok v r ?_
    cases e1 : evA c1 δ with
    | no => rw [e1] at po; exact po
    | ex C => rw [e1] at po; exact fun A B s r' => po σ A B s r'
    | ok z =>
      obtain ⟨k, δ1⟩ := z
      rw [e1] at po
      intro A B x s r' hk
      have po2 : PostS X.K W G0 G H0 E (fA (evA c2 δ1) δ1 fun d δ' => kIns i k d δ') := po
      refine evA_ok v2 r' ?_
      cases e2 : evA c2 δ1 with
      | no => rw [e2] at po2; exact po2
      | ex C => rw [e2] at po2; exact fun A2 B2 s2 r2 => po2 σ A2 B2 (s.trans s2) r2
      | ok z =>
        obtain ⟨d, δ'⟩ := z
        rw [e2] at po2
        intro A2 B2 y s2 r2 hd
        have po3 : PostS X.K W G0 G H0 E (kIns i k d δ') := po2
        unfold kIns at po3
        split at po3
        · rename_i ds e3
          split at po3
          · rename_i j
            split at po3
            · rename_i hz
              obtain ⟨a', ws, hs', g', n', ha', hr'⟩ := r2.ow i ds e3
              rw [hs] at hs'
              cases hs'
              cases hk
              exact ⟨a, ws, j, y, rfl, rfl, ha', by rw [hr'.length]; exact hz.1, hz.2.1, hz.2.2, po3 σ A2 _ (s.trans s2) (r2.put e3 hs (((hr'.take _).append (.cons hd .nil)).append (hr'.drop _)))⟩
            · exact po3.elim
          · exact po3.elim
        · exact po3.elim
  · exact po.elim
/-- x[k] = e -/
def kSetI (i : Nat) (d k : D) (δ' : List Sl) : Fl := match δ'[i]? with
  | some (.ow ds) => (match k with
    | .int j => (match ixN ds.length j with
      | some m => .nx (δ'.set i (.ow (ds.set m d)))
      | none => .no)
    | _ => .no)
  | _ => .no
def kSetJ (i : Nat) (ck : C) (d : D) (δ1 : List Sl) : Fl := match δ1[i]? with
  | some (.ow _) => fA (evA ck δ1) δ1 fun k δ' => kSetI i d k δ'
  | _ => .no
def cSetI (i : Nat) (ck c : C) : CS := fun δ => fA (evA c δ) δ fun d δ1 => kSetJ i ck d δ1
def notSlice : Expr → Bool
  | .Slice _ _ _ _ => false
  | _ => true
theorem asub_of {o k : Expr} {pos : Pos} {env : Env} (h : notSlice k = true) : ∀ v, assign (.Subscript o k pos) env v = (do
      let ov ← holding [v] (eval o env)
      let iv ← holding [v, ov] (eval k env)
      standAt pos
      holding [v, ov, iv] (setItem ov iv v)
      release [v, ov, iv] []) := by
  intro v
  cases k <;> first | rfl | cases h
theorem ss_setI {i : Nat} {x : Str} {e k : Expr} {p sp pos : Pos} {ck c : C} (hN : X.N[i]? = some x) (hv : Vis X.env.scope x) (hd : (x == ("__debug__" : Str)) = false) (hcd : (x == ("__classdict__" : Str)) = false) (hk : SE X W k ck) (h : SE X W e c) (hc : isComp e = false) (hs : notSlice k = true) :
    SS X W (.Assign [.Subscript (.Name x p) k sp] e pos) (cSetI i ck c) := by
  obtain ⟨t, q, v⟩ := h
  obtain ⟨u, q2, v2⟩ := hk
  refine ⟨_, ps_asg q (pg_sub (pe_var hN hv hd hcd) q2 set_list (asub_of hs)) (show swapsWith e (some (.Subscript (.Name x p) k sp)) pos.line X.env = pure false from swaps_of hc) rfl rfl, fun G0 G δ σ H0 H E r po => ?_⟩
  have po' : PostS X.K W G0 G H0 E (fA (evA c δ) δ fun d δ1 => kSetJ i ck d δ1) := po
  refine evA_ok v r ?_
  cases e1 : evA c δ with
  | no => rw [e1] at po'; exact po'
  | ex C => rw [e1] at po'; exact fun A B s r' => po' σ A B s r'
  | ok z =>
    obtain ⟨d, δ1⟩ := z
    rw [e1] at po'
    intro A B x s r' hd
    have po2 : PostS X.K W G0 G H0 E (kSetJ i ck d δ1) := po'
    unfold kSetJ at po2
    split at po2
    · rename_i ds0 e0
      obtain ⟨a, vs, hs, g, n, ha, hr⟩ := r'.ow i ds0 e0
      refine ⟨_, hs, ?_⟩
      refine evA_ok v2 r' ?_
      cases e2 : evA ck δ1 with
      | no => rw [e2] at po2; exact po2
      | ex C => rw [e2] at po2; exact fun A2 B2 s2 r2 => po2 σ A2 B2 (s.trans s2) r2
      | ok z =>
        obtain ⟨k2, δ'⟩ := z
        rw [e2] at po2
        intro A2 B2 y s2 r2 hk
        have po3 : PostS X.K W G0 G H0 E (kSetI i d k2 δ') := po2
        unfold kSetI at po3
        split at po3
        · rename_i ds e3
          split at po3
          · rename_i j
            split at po3
            · rename_i m hm
              obtain ⟨a', ws, hs', g', n', ha', hr'⟩ := r2.ow i ds e3
              rw [hs] at hs'
              cases hs'
              cases hk
              exact ⟨a, ws, j, m, rfl, rfl, ha', by rw [hr'.length]; exact hm, po3 σ A2 _ (s.trans s2) (r2.put e3 hs (hr'.set (Dr.mono s2 _ hd) m))⟩
            · exact po3.elim
          · exact po3.elim
        · exact po3.elim
    · exact po2.elim
/-! ### name += int -/
theorem ss_aug {i : Nat} {x : Str} {e : Expr} {op : Operator} {f : Int → Int → Int} {p pos : Pos} {c : C} (hN : X.N.Nodup) (hi : X.N[i]? = some x) (hx : Loc X.env.scope x) (hf : X.fn x = true) (ho : PIp X op (ipI f)) (h : SE X W e c) : SS X W (.AugAssign (.Name x p) op e pos) (cAug i f c) := by
  obtain ⟨t, q, v⟩ := h
  refine ⟨_, ps_aug hN hi hx q ho (.inl hf), fun G0 G δ σ H0 H E r po => ?_⟩
  unfold cAug at po
  split at po
  · rename_i a e0
    obtain ⟨v0, hs, hv⟩ := r.pu i _ e0
    cases hv
    refine ⟨_, hs, evA_ok v r ?_⟩
    cases e1 : evA c δ with
    | no => rw [e1] at po; exact po
    | ex C => rw [e1] at po; exact fun A B s r' => po σ A B s r'
    | ok z =>
      obtain ⟨d, δ'⟩ := z
      rw [e1] at po
      intro A B y s r' hd
      have po2 : PostS X.K W G0 G H0 E (kAug i f a d δ') := po
      unfold kAug at po2
      split at po2
      · rename_i b
        cases hd
        exact ⟨a, b, rfl, rfl, po2 _ A B s (r'.setP (.int _))⟩
      · exact po2.elim
  · exact po.elim
/-! ### a, b = e, f -/
def evL (c : CA) (δ : List Sl) : R (List D × List Sl) := match c δ with
  | .ok d => .ok (d, δ)
  | .ex C => .ex C
  | .no => match c (bor δ) with
    | .ok d => if D.flat.flats d = true then .ok (d, δ) else .ok (d, bor δ)
    | .ex C => .ex C
    | .no => .no
theorem evL_ok {K : PySem.W.Frag} {G0 G H0 H : Hp} {δ : List Sl} {σ : L2.St} {te : TA} {c : CA} (h : Ev K W (SA K) te c) (r : Rel K G0 G δ σ H0 H) {Q : List V → Hp → Prop} (p : match evL c δ with
    | .ok (d, δ') => ∀ H0' H' v, Same H0 H0' → Rel K G0 G δ' σ H0' H' → DrAll K H0' v d → Q v H'
    | .ex C => ∀ H0' H', Same H0 H0' → Rel K G0 G δ σ H0' H' → W (.ref (He.ga K C)) none σ H'
    | .no => False) : te σ H Q := by
  unfold evL at p
  cases e : c δ with
  | ok d =>
    rw [e] at p
    refine h G0 G δ σ H0 H Q r ?_
    rw [e]
    exact fun A B v s q => p A B v s.e0 (r.step s) q
  | ex C =>
    rw [e] at p
    refine h G0 G δ σ H0 H Q r ?_
    rw [e]
    exact fun A B s => p A B s.e0 (r.step s)
  | no =>
    rw [e] at p
    obtain ⟨J0, e0, rb, hl⟩ := r.bor
    refine h G0 G (bor δ) σ J0 H Q rb ?_
    cases e2 : c (bor δ) with
    | ok d =>
      have p' : match (if D.flat.flats d = true then R.ok (d, δ) else R.ok (d, bor δ)) with
        | .ok (d, δ') => ∀ H0' H' v, Same H0 H0' → Rel K G0 G δ' σ H0' H' → DrAll K H0' v d → Q v H'
        | .ex C => ∀ H0' H', Same H0 H0' → Rel K G0 G δ σ H0' H' → W (.ref (He.ga K C)) none σ H'
        | .no => False := by
        rw [e2] at p
        exact p
      intro A B v s q
      by_cases hf : D.flat.flats d = true
      · rw [if_pos hf] at p'
        obtain ⟨H1, s1, cut, _⟩ := back r.same e0 hl s
        exact p' H1 B v s1.e0 (r.step s1) (DrAll.cut cut d hf q)
      · rw [if_neg hf] at p'
        exact p' A B v (e0.trans s.e0) (rb.step s) q
    | ex C =>
      rw [e2] at p
      intro A B s
      obtain ⟨H1, s1, _, _⟩ := back r.same e0 hl s
      exact p H1 B s1.e0 (r.step s1)
    | no =>
      rw [e2] at p
      exact p
def kPar2 (i j : Nat) (ds : List D) (δ' : List Sl) : Fl := match ds with
  | [d, e] => .nx ((δ'.set i (.pu d)).set j (.pu e))
  | _ => .no
def cPar2 (i j : Nat) (c : CA) : CS := fun δ => fA (evL c δ) δ fun ds δ' => kPar2 i j ds δ'
def isStar : Expr → Bool
  | .Starred .. => true
  | _ => false
theorem star_no {e : Expr} (h : plainArg e = true) : isStar e = false := by
  cases e <;> first | rfl | exact Bool.noConfusion h
theorem sw_some {x y : Str} {px py pt p2 : Pos} {kt k2 : Nat} {a b : Expr} {env : Env} (hb : env.blockKind = .function) (h1 : plainArg a = true) (h2 : plainArg b = true) (hx : env.kindOf x = some .local) (hy : env.kindOf y = some .local) (hl : (py.line == px.line) = true) (hne : x ≠ y)
    (hf : ([a, b].all (foldedForSure 8)) = false) (hc : ([a, b].all (constantsAlone 8)) = false) : swappedStores [.Tuple [.Name x px, .Name y py] kt pt] (.Tuple [a, b] k2 p2) env = pure (some [x, y]) := by
  have nd : [x, y].eraseDups = [x, y] := by
    have hne' : (y == x) = false := beq_eq_false_iff_ne.mpr (Ne.symm hne)
    simp [List.eraseDups_cons, hne']
  have hl' : py.line = px.line := eq_of_beq hl
  have hf' : ¬ (foldedForSure 8 a = true ∧ foldedForSure 8 b = true) := fun z => by
    rw [List.all_cons, List.all_cons, List.all_nil, z.1, z.2] at hf
    cases hf
  have hc' : ¬ (constantsAlone 8 a = true ∧ constantsAlone 8 b = true) := fun z => by
    rw [List.all_cons, List.all_cons, List.all_nil, z.1, z.2] at hc
    cases hc
  unfold swappedStores
  simp only [hb, List.length_cons, List.length_nil, List.head?_cons, Option.map_some, Option.getD_some, Expr.pos]
  simp only [List.any_cons, List.any_nil, Bool.or_false]
  refine Eq.trans (if_neg (by decide)) ?_
  refine Eq.trans (if_neg (show ¬ ((isStar a || isStar b) = true) by rw [star_no h1, star_no h2]; decide)) ?_
  simp [hx, hy, hl', nd, hf', hc']
theorem ss_par2 {i j : Nat} {x y : Str} {a b : Expr} {px py pt p2 pos : Pos} {kt k2 : Nat} {c : CA} (hcm : X.calm = true) (hN : X.N.Nodup) (hi : X.N[i]? = some x) (hj : X.N[j]? = some y) (hij : i ≠ j)
    (hx : X.env.scope.names.lookup x = some .local) (hy : X.env.scope.names.lookup y = some .local) (h : SL X W [a, b] c) (hw : swappedStores [.Tuple [.Name x px, .Name y py] kt pt] (.Tuple [a, b] k2 p2) X.env = pure (some [x, y])) :
    SS X W (.Assign [.Tuple [.Name x px, .Name y py] kt pt] (.Tuple [a, b] k2 p2) pos) (cPar2 i j c) := by
  obtain ⟨t, q, v⟩ := h
  refine ⟨_, ps_par hcm hN hi hj hij hx hy q hw rfl, fun G0 G δ σ H0 H E r po => evL_ok v r ?_⟩
  have po' : PostS X.K W G0 G H0 E (fA (evL c δ) δ fun ds δ' => kPar2 i j ds δ') := po
  cases e1 : evL c δ with
  | no => rw [e1] at po'; exact po'
  | ex C => rw [e1] at po'; exact fun A B s r' => po' σ A B s r'
  | ok z =>
    obtain ⟨ds, δ'⟩ := z
    rw [e1] at po'
    intro A B vs s r' hd
    have po2 : PostS X.K W G0 G H0 E (kPar2 i j ds δ') := po'
    unfold kPar2 at po2
    split at po2
    · rename_i d e
      obtain ⟨v, w, rfl, h1, h2⟩ := hd.two
      exact ⟨v, w, rfl, po2 _ A B s ((r'.setP h1).setP h2)⟩
    · exact po2.elim
end
end Dw
namespace Dw
open PySem L2 PyProof.Rows
/-! ### an item of a name's list, own or known -/
def cIxV (i : Nat) (k : C) : C := fun δ => match δ[i]? with
  | some (.pu d) => (k δ).bind fun e => dIx d e
  | some (.ow ds) => (k δ).bind fun e => (match e with
    | .int j => atD ds j
    | _ => .no)
  | _ => .no
section
variable {X : Cx} {W : WX}
theorem ev_ixV {K : PySem.W.Frag} {i : Nat} {t : TE} {c : C} (h : Ev K W (SV K) t c) : Ev K W (SV K) (tOp (rIx K) (tVar i) t) (cIxV i c) := by
  intro G0 G δ σ H0 H Q r p
  unfold cIxV at p
  split at p
  · rename_i d e
    obtain ⟨v, hs, hv⟩ := r.pu i d e
    refine ⟨v, hs, h G0 G δ σ H0 H _ r ?_⟩
    cases ec : c δ with
    | no => rw [ec] at p; exact p
    | ex C => rw [ec] at p; exact p
    | ok f =>
      rw [ec] at p
      exact fun A B y s hy => opd_ix (W := W) σ A B v y d f Q (r.step s).same (Dr.mono s.e0 _ hv) hy (Post.mono downV p s)
  · rename_i ds e
    obtain ⟨a, vs, hs, g, n, ha, hr⟩ := r.ow i ds e
    refine ⟨_, hs, h G0 G δ σ H0 H _ r ?_⟩
    cases ec : c δ with
    | no => rw [ec] at p; exact p
    | ex C => rw [ec] at p; exact p
    | ok f =>
      rw [ec] at p
      intro A B y s hy
      cases hy with
      | int j =>
        have p' : Post K W σ H0 H (SV K) (atD ds j) Q := p
        rcases atD_ex (ds := ds) (i := j) with ⟨z, hz⟩ | hz
        · rw [hz] at p'
          obtain ⟨w, hw, hd⟩ := atD_ok hr hz
          exact .inl ⟨a, vs, j, w, rfl, rfl, SqL.of (s.e _ _ ha), hw, p' A B w s (Dr.mono s.e0 _ hd)⟩
        · rw [hz] at p'
          exact p'.elim
      | _ => exact p.elim
  · exact p.elim
theorem ix_plain {k : Expr} (h : notSlice k = true) : PlainIx k := by
  intro o i
  cases k <;> first | rfl | cases h
theorem se_ix {a k : Expr} {pos : Pos} {ca ck : C} (ha : SE X W a ca) (hk : SE X W k ck) (h : notSlice k = true) : SE X W (.Subscript a k pos) (cBin dIx ca ck) := by
  obtain ⟨t, p, v⟩ := ha
  obtain ⟨u, q, w⟩ := hk
  exact ⟨_, pe_ix ix_seq p q (ix_plain h), ev_binG downV v w opd_ix⟩
theorem se_ixV {i : Nat} {x : Str} {k : Expr} {p pos : Pos} {ck : C} (hN : X.N[i]? = some x) (hv : Vis X.env.scope x) (hd : (x == ("__debug__" : Str)) = false) (hcd : (x == ("__classdict__" : Str)) = false) (hk : SE X W k ck) (h : notSlice k = true) : SE X W (.Subscript (.Name x p) k pos) (cIxV i ck) := by
  obtain ⟨u, q, w⟩ := hk
  exact ⟨_, pe_ix ix_seq (pe_var hN hv hd hcd) q (ix_plain h), ev_ixV w⟩
/-! ### slices -/
abbrev CO := List Sl → R (Option Int)
def SO0 : Sat (Option Int) (Option Int) := fun _ _ _ b a => b = a
theorem downO : Down SO0 := fun _ _ _ _ _ _ _ h => h
def SP (X : Cx) (W : WX) (e : Option Expr) (c : CO) : Prop := ∃ t, PO X e t ∧ Ev X.K W SO0 t c
def cNoP : CO := fun _ => .ok none
def dPt : D → R (Option Int)
  | .int i => .ok (some i)
  | _ => .no
theorem sp_none : SP X W none cNoP := ⟨_, po_none, fun G0 G δ σ H0 H Q r p => Post.here (show Post X.K W σ H0 H SO0 (.ok none) Q from p) r.same rfl⟩
theorem sp_some {e : Expr} {c : C} (h : SE X W e c) : SP X W (some e) (cUn dPt c) := by
  obtain ⟨t, p, v⟩ := h
  refine ⟨_, po_some p, ev_unG (r := fun x H Q => ∃ i, x = .int i ∧ Q (some i) H) downO v fun σ H0 H x d Q s h p => ?_⟩
  unfold dPt at p
  split at p
  · cases h
    exact ⟨_, rfl, Post.here p s rfl⟩
  · exact p.elim
def cSlG {α : Type} (f : Option Int → Option Int → D → R α) (a : C) (lo hi : CO) : List Sl → R α := fun δ => (a δ).bind fun d => (lo δ).bind fun l => (hi δ).bind fun h => f l h d
theorem ev_sl {K : PySem.W.Frag} {α : Type} {S : Sat α V} (hS : Down S) {f : Option Int → Option Int → D → R α} {te : TE} {tl th : TO} {ca : C} {cl ch : CO} (ha : Ev K W (SV K) te ca) (hl : Ev K W SO0 tl cl) (hh : Ev K W SO0 th ch)
    (hf : ∀ l h σ H0 H x d Q, Same H0 H → Dr K H0 x d → Post K W σ H0 H S (f l h d) Q → rSlAll K x l h H Q) : Ev K W S (tSl (rSlAll K) te tl th) (cSlG f ca cl ch) := by
  intro G0 G δ σ H0 H Q r p
  have p' : Post K W σ H0 H S ((ca δ).bind fun d => (cl δ).bind fun l => (ch δ).bind fun h => f l h d) Q := p
  refine ha G0 G δ σ H0 H _ r ?_
  cases e1 : ca δ with
  | no => rw [e1] at p'; exact p'
  | ex C => rw [e1] at p'; exact p'
  | ok d =>
    rw [e1] at p'
    intro A B x s hx
    refine hl G0 G δ σ A B _ (r.step s) ?_
    have p2 : Post K W σ H0 H S ((cl δ).bind fun l => (ch δ).bind fun h => f l h d) Q := p'
    cases e2 : cl δ with
    | no => rw [e2] at p2; exact p2
    | ex C => rw [e2] at p2; exact Post.mono (S := S) hS p2 s
    | ok l =>
      rw [e2] at p2
      intro A2 B2 l' s2 el
      have el : l' = l := el
      subst el
      refine hh G0 G δ σ A2 B2 _ ((r.step s).step s2) ?_
      have p3 : Post K W σ H0 H S ((ch δ).bind fun h => f l' h d) Q := p2
      cases e3 : ch δ with
      | no => rw [e3] at p3; exact p3
      | ex C => rw [e3] at p3; exact Post.mono (S := S) hS p3 (s.trans s2)
      | ok h =>
        rw [e3] at p3
        intro A3 B3 h' s3 eh
        have eh : h' = h := eh
        subst eh
        have S3 := (s.trans s2).trans s3
        exact hf l' h' σ A3 B3 x d Q (r.step S3).same (Dr.mono (s2.trans s3).e0 _ hx) (Post.mono hS p3 S3)
def dSlA (lo hi : Option Int) : D → R D
  | .lst ds => toL (dSlN lo hi (.lst ds))
  | .kst ds => toL (dSlN lo hi (.kst ds))
  | d => dSl lo hi d
theorem se_sl {a : Expr} {lo hi : Option Expr} {p2 pos : Pos} {ca : C} {cl ch : CO} (ha : SE X W a ca) (hl : SP X W lo cl) (hh : SP X W hi ch) : SE X W (.Subscript a (.Slice lo hi none p2) pos) (cSlG dSlA ca cl ch) := by
  obtain ⟨t, p, v⟩ := ha
  obtain ⟨u, q, w⟩ := hl
  obtain ⟨u2, q2, w2⟩ := hh
  refine ⟨_, pe_slice sl_all p q q2, ev_sl downV v w w2 fun l h σ H0 H x d Q s hx po => ?_⟩
  unfold dSlA at po
  split at po
  · exact sldN σ H0 H x _ Q s hx (post_L po)
  · exact sldN σ H0 H x _ Q s hx (post_L po)
  · exact sld σ H0 H x d Q s hx po
theorem sn_sl {a : Expr} {lo hi : Option Expr} {p2 pos : Pos} {ca : C} {cl ch : CO} (ha : SE X W a ca) (hl : SP X W lo cl) (hh : SP X W hi ch) : SN X W (.Subscript a (.Slice lo hi none p2) pos) (cSlG dSlN ca cl ch) := by
  obtain ⟨t, p, v⟩ := ha
  obtain ⟨u, q, w⟩ := hl
  obtain ⟨u2, q2, w2⟩ := hh
  exact ⟨_, pe_slice sl_all p q q2, ev_sl downW v w w2 fun l h σ H0 H x d Q s hx po => sldN σ H0 H x d Q s hx po⟩
def dRevN : D → R (List D)
  | .lst ds => .ok ds.reverse
  | .kst ds => .ok ds.reverse
  | _ => .no
theorem sn_rev {a : Expr} {k : Nat} {p1 p2 p3 pos : Pos} {ca : C} (ha : SE X W a ca) : SN X W (.Subscript a (.Slice none none (some (.UnaryOp .USub (.Constant (.int 1) k p1) p2)) p3) pos) (cUn dRevN ca) := by
  obtain ⟨t, p, v⟩ := ha
  refine ⟨_, pe_revL p, ev_unG (r := fun x H1 Q => ∃ a xs, x = .ref a ∧ SqL X.K H1 a xs ∧ ∀ p, H1 p = none → Q (.ref p) (upd H1 p (.lst xs.reverse))) downW v fun σ H0 H x d Q s h p => ?_⟩
  unfold dRevN at p
  split at p
  · obtain ⟨a, xs, rfl, q, r⟩ := h.lstK
    exact ⟨a, xs, rfl, s.seq (.inl q), fun n hn => p.newO s r.rev hn⟩
  · obtain ⟨a, xs, rfl, q, r⟩ := h.kstK
    exact ⟨a, xs, rfl, s.seq q, fun n hn => p.newO s r.rev hn⟩
  · exact p.elim
/-! ### {} -/
def cDct0 : C := fun _ => .ok (.dct [] [])
theorem se_dct0 {pos : Pos} : SE X W (.Dict [] [] pos) cDct0 := ⟨_, pe_dnewK, fun G0 G δ σ H0 H Q r p => fun a ha => (show Post X.K W σ H0 H (SV X.K) (.ok (.dct [] [])) Q from p) _ _ _ (Stp.new r.same ha) (.dct (kvs := []) upd_same .nil)⟩
/-! ### calls of built-ins -/
theorem se_blt {x : Str} {id : String} {e : Expr} {es : List Expr} {p pos : Pos} {r : List V → Hp → VK → Prop} {f : List D → R D} {ca : CA} (hc : CallR X (.builtin id) r) (hd : CallD X.K W r f) (hg : Gl X x) (hm : X.mg x = none) (hv : bootBuiltins x = some (.builtin id)) (hn : x ≠ "__name__") (hdb : (x == ("__debug__" : Str)) = false)
    (ha : SL X W (e :: es) ca) (h1 : plainArg e = true) (h2 : es.all plainArg = true) : SE X W (.Call (.Name x p) (e :: es) [] pos) (cApp f ca) := by
  obtain ⟨t, q, v⟩ := ha
  exact ⟨_, pe_callB hc hg hm hv q hn hdb (star_of h1) (star_all h2), ev_appG downV v hd⟩
theorem se_bty {x : Str} {id : String} {e : Expr} {es : List Expr} {p pos : Pos} {r : List V → Hp → VK → Prop} {f : List D → R D} {ca : CA} (hc : CallR X (.type id) r) (hd : CallD X.K W r f) (hg : Gl X x) (hm : X.mg x = none) (hv : bootBuiltins x = some (.type id)) (hn : x ≠ "__name__") (hdb : (x == ("__debug__" : Str)) = false)
    (ha : SL X W (e :: es) ca) (h1 : plainArg e = true) (h2 : es.all plainArg = true) : SE X W (.Call (.Name x p) (e :: es) [] pos) (cApp f ca) := by
  obtain ⟨t, q, v⟩ := ha
  exact ⟨_, pe_callTy hc hg hm hv q hn hdb (star_of h1) (star_all h2), ev_appG downV v hd⟩
theorem sn_bty {x : Str} {id : String} {e : Expr} {es : List Expr} {p pos : Pos} {r : List V → Hp → VK → Prop} {f : List D → R (List D)} {ca : CA} (hc : CallR X (.type id) r) (hd : CallN X.K W r f) (hg : Gl X x) (hm : X.mg x = none) (hv : bootBuiltins x = some (.type id)) (hn : x ≠ "__name__") (hdb : (x == ("__debug__" : Str)) = false)
    (ha : SL X W (e :: es) ca) (h1 : plainArg e = true) (h2 : es.all plainArg = true) : SN X W (.Call (.Name x p) (e :: es) [] pos) (cApp f ca) := by
  obtain ⟨t, q, v⟩ := ha
  exact ⟨_, pe_callTy hc hg hm hv q hn hdb (star_of h1) (star_all h2), ev_appG downW v hd⟩
theorem se_isi {e c : Expr} {p pos : Pos} {v : V} {u : Value} {f : D → Option Bool} {ca : C} (hg : Gl X "isinstance") (hm : X.mg "isinstance" = none) (hc : PE X c (tC v)) (hp : plainArg c = true) (hv : ClsV v u) (hf : IsOf X.K u f) (ha : SE X W e ca) (h1 : plainArg e = true) :
    SE X W (.Call (.Name "isinstance" p) [e, c] [] pos) (cUn (dIsi f) ca) := by
  obtain ⟨t, q, w⟩ := ha
  exact ⟨_, pe_callB call_isAny hg hm boot_isinstance (pa_cons q (pa_cons hc pa_nil (star_of hp)) (star_of h1)) (by decide) (by decide) (star_of h1) (by rw [star_of hp]; rfl), ev_isi hv hf w⟩
/-! ### raise X("..") -/
structure RzK (K : PySem.W.Frag) (mg : Str → Option Value) (x : Str) : Prop where
  gl : mg x = some (.ref (He.ga K x))
  xi : PySem.W.excIn K (He.ga K x) He.veBase "ValueError.__new__" = true
  kp : PySem.W.keepIn K (.ref (He.ga K x)) = true
  sb : PySem.W.subIn K (.ref (He.ga K x)) (.type "BaseException") = some true
  ty : PySem.W.typeIn K (.ref (He.ga K x)) = some (.type "type")
  db : (x == ("__debug__" : Str)) = false
def cRz (x : Str) : CS := fun δ => .ex x δ
theorem ss_raise {x m : Str} {j : Nat} {p p2 p3 pos : Pos} (hc : X.calm = true) (tk : Takes X W) (z : RzK X.K X.mg x) (hg : Gl X x) : SS X W (.Raise (some (.Call (.Name x p) [.Constant (.str m) j p2] [] p3)) none pos) (cRz x) :=
  ⟨_, ps_raise hc tk (pmk_own PySem.F.excBase_ValueError z.xi z.gl z.kp (raises_own z.sb z.ty) hg z.db), fun G0 G δ σ H0 H E r p => p σ H0 H (Same.refl _) r⟩
end
end Dw
namespace Dw
open PySem L2 PyProof.Rows
/-! ### repr -/
def isD0 : D → Bool
  | .dct [] [] => true
  | _ => false
def dRepr : List D → R D
  | [d] => if d.good 20 = true then (if d.toPy.showable = true ∧ d.toPy.shown.length ≤ sizeLine then .ok (.str d.toPy.shown) else .no) else if isD0 d = true then .ok (.str "{}") else .no
  | _ => .no
theorem cd_repr {K : PySem.W.Frag} {W : WX} : CallD K W (rRepr K) dRepr := by
  intro σ H0 H xs ds Q s h p
  unfold dRepr at p
  split at p
  · rename_i d
    obtain ⟨v, rfl, hv⟩ := h.one
    split at p
    · rename_i g
      split at p
      · rename_i c
        obtain ⟨a, b, e⟩ := good_dp 20 d v g (hv.mono s)
        exact ⟨v, d.toPy, rfl, .inl ⟨a, b, e⟩, c.1, c.2, p.v s (.str _)⟩
      · exact p.elim
    · split at p
      · rename_i c
        have e : d = .dct [] [] := by
          cases d with
          | dct ks ds => cases ks <;> cases ds <;> first | rfl | cases c
          | _ => cases c
        subst e
        have key : ∀ (v : V), Dr K H0 v (.dct [] []) → ∃ a, v = .ref a ∧ H0 a = some (.dK []) := fun v h => by
          generalize hd : D.dct [] [] = d at h
          cases h with
          | dct q r =>
            rename_i a kvs ds
            injection hd with h1 h2
            cases kvs with
            | nil => exact ⟨a, rfl, q⟩
            | cons x y => cases h1
          | _ => cases hd
        obtain ⟨a, rfl, ha⟩ := key v hv
        refine ⟨_, .dict [], rfl, .inr ⟨rfl, a, rfl, s _ _ ha⟩, by decide, ?_, ?_⟩
        · show (dictText []).length ≤ sizeLine
          decide +kernel
        · have e : (PyData.dict []).shown = "{}" := by
            show dictText [] = _
            decide +kernel
          rw [e]
          exact p.v s (.str _)
      · exact p.elim
  · exact p.elim
/-! ### x.m(e) of built-in kinds -/
def cM1 (ok : D → Bool) (f : D → D → R D) (a b : C) : C := fun δ => (a δ).bind fun d => if ok d = true then (b δ).bind fun e => f d e else .no
structure M1 (X : Cx) (W : WX) (name : Str) (ok : D → Bool) (f : D → D → R D) : Prop where
  ex : ∃ (T id : String) (r : V → List V → Hp → VK → Prop), PlainAttrs T ∧ Slot T name id ∧ typeOf (.builtin id) = pure (.type "method_descriptor") ∧ MtR X id r ∧
    (∀ H0 H x d, Same H0 H → Dr X.K H0 x d → ok d = true → tyV X.K T x H) ∧
    ∀ σ H0 H x y d e Q, Same H0 H → Dr X.K H0 x d → Dr X.K H0 y e → Post X.K W σ H0 H (SV X.K) (f d e) Q → r x [y] H Q
def okBase : Expr → Bool
  | .Call (.Name _ _) [] [] _ => false
  | _ => true
theorem base_of {o : Expr} {attr : Str} {env : Env} {t : Sem Value} (h : okBase o = true) : attributeBase o attr env t = t := by
  unfold attributeBase
  split
  · cases h
  · rfl
section
variable {X : Cx} {W : WX}
theorem se_m1 {o e : Expr} {name : Str} {apos cpos : Pos} {ok : D → Bool} {f : D → D → R D} {co ce : C} (m : M1 X W name ok f) (ho : SE X W o co) (he : SE X W e ce) (hb : okBase o = true) (hp : plainArg e = true) (hl : (apos.endLine == cpos.line) = true) :
    SE X W (.Call (.Attribute o name apos) [e] [] cpos) (cM1 ok f co ce) := by
  obtain ⟨T, id, r, pa, sl, ty, mt, h1, h2⟩ := m.ex
  obtain ⟨t, p, v⟩ := ho
  obtain ⟨u, q, w⟩ := he
  refine ⟨_, pe_bm pa sl ty mt p (pa_cons q pa_nil (star_of hp)) (base_of hb) (few_one hp) hl (star_of hp) rfl, ?_⟩
  refine Ev.bind (f := fun d δ => if ok d = true then (ce δ).bind fun e => f d e else .no) downV v fun d x G0 G δ σ Hs H0 H Q rl hd po => ?_
  split at po
  · rename_i c
    refine ⟨h1 H0 H x d rl.same hd c, ?_⟩
    refine w G0 G δ σ H0 H _ rl ?_
    cases z : ce δ with
    | ok e =>
      rw [z] at po
      intro A B y st hy
      exact h2 σ A B x y d e Q (rl.step st).same (Dr.mono st.e0 _ hd) hy (Post.mono downV po st)
    | ex C => rw [z] at po; exact po
    | no => rw [z] at po; exact po
  · exact po.elim
def isLD : D → Bool
  | .lst _ => true
  | .kst _ => true
  | _ => false
def dIndex (d e : D) : R D := match d.seq, e.sv with
  | some ds, some y => (match svs ds with
    | some us => (match us.findIdx? (fun z => eqV z y) with
      | some j => .ok (.int (j : Nat))
      | none => .no)
    | none => .no)
  | _, _ => .no
def dCount (d e : D) : R D := match d.seq, e.sv with
  | some ds, some y => (match svs ds with
    | some us => .ok (.int (us.countP (fun z => eqV z y) : Nat))
    | none => .no)
  | _, _ => .no
theorem isL_ty {K : PySem.W.Frag} {H0 H : Hp} {x : V} {d : D} (s : Same H0 H) (h : Dr K H0 x d) (c : isLD d = true) : ∃ a xs ds, x = .ref a ∧ d.seq = some ds ∧ SqL K H a xs ∧ DrAll K H0 xs ds := by
  cases d with
  | lst ds =>
    obtain ⟨a, xs, rfl, q, r⟩ := h.lstK
    exact ⟨a, xs, ds, rfl, rfl, s.seq (.inl q), r⟩
  | kst ds =>
    obtain ⟨a, xs, rfl, q, r⟩ := h.kstK
    exact ⟨a, xs, ds, rfl, rfl, s.seq q, r⟩
  | _ => cases c
def gIdx (d e : D) : R D := if isLD d = true then dIndex d e else .no
def gCnt (d e : D) : R D := if isLD d = true then dCount d e else .no
theorem m1_index : M1 X W "index" isLD gIdx := by
  refine ⟨"list", "list.index", _, PySem.F.plainAttrs_list, PySem.F.slot_list_index, PySem.F.type_list_index, mt_index, fun H0 H x d s h c => ?_, fun σ H0 H x y d e Q s hx hy p => ?_⟩
  · obtain ⟨a, xs, ds, rfl, _, q, _⟩ := isL_ty s h c
    exact .inl ⟨rfl, xs, q⟩
  · unfold gIdx at p
    split at p
    · rename_i c
      obtain ⟨a, xs, ds, rfl, e1, q, r⟩ := isL_ty s hx c
      unfold dIndex at p
      rw [e1] at p
      cases e2 : e.sv with
      | none => rw [e2] at p; exact p.elim
      | some yv =>
        rw [e2] at p
        cases e3 : svs ds with
        | none => simp only [e3] at p; exact p.elim
        | some us =>
          simp only [e3] at p
          have hxs := DrAll.svs r e3
          have hyv := Dr.sv hy e2
          subst hxs hyv
          cases e4 : xs.findIdx? (fun z => eqV z y) with
          | none => simp only [e4] at p; exact p.elim
          | some j =>
            simp only [e4] at p
            obtain ⟨hj, h1, h2⟩ := List.findIdx?_eq_some_iff_getElem.mp e4
            refine ⟨a, xs, y, j, xs[j], rfl, rfl, q, sv_flat e2, svs_flat e3, List.getElem?_eq_getElem hj, h1, fun m z hm hz => ?_, p.v s (.int _)⟩
            have hm' : m < xs.length := by omega
            rw [List.getElem?_eq_getElem hm'] at hz
            cases hz
            have := h2 m hm
            simpa using this
    · exact p.elim
theorem countU {y : V} : ∀ {xs : List V} {us : List Value}, Vals xs us → xs.all flatV = true → us.countP (eqU y) = xs.countP (fun z => eqV z y)
  | _, _, .nil, _ => rfl
  | x :: xs, u :: us, .cons r t, f => by
    rw [List.all_cons, Bool.and_eq_true] at f
    rw [List.countP_cons, List.countP_cons, countU t f.2, eqU_of r f.1]
theorem mt_cnt : MtR X "list.count" (fun x xs H Q => ∃ (a : Addr) (ys : List V) (y : V), x = .ref a ∧ xs = [y] ∧ SqL X.K H a ys ∧ flatV y = true ∧ ys.all flatV = true ∧ Q (.int (ys.countP (fun z => eqV z y) : Nat)) H) := by
  intro pins s σ H x xs v us Q I rx rxs h
  obtain ⟨a, ys, y, rfl, rfl, hs, fy, fys, q⟩ := h
  cases rx
  obtain ⟨u, rfl, ru⟩ := rxs.one
  obtain ⟨its, rv, ⟨⟨cls, dd, data, sl⟩, n, ho, hc, hdn, hd⟩, hlen⟩ := I.list hs
  simp only at hc hd
  subst hc hd
  have cnt := countU (y := y) rv fys
  refine call_meets PySem.F.slot_list_count ⟨_, ho, rfl⟩ PySem.F.entry_list_count (PySem.F.args_list_count_2 _ _) (SeqAt.list_countAt a its.toArray n dd sl u (eqU y)) ⟨ho, ?_, ?_⟩
  · intro z hz
    exact mem_eqAt ru fy rv fys z (by simpa using hz)
  · refine ⟨.int (ys.countP (fun z => eqV z y) : Nat), H, I.tok _, ⟨s.toks, ?_⟩, q⟩
    show Value.int ((its.toArray.toList.countP (eqU y) : Nat) : Int) s.toks = _
    rw [show its.toArray.toList = its from rfl, cnt]
theorem m1_count : M1 X W "count" isLD gCnt := by
  refine ⟨"list", "list.count", _, PySem.F.plainAttrs_list, PySem.F.slot_list_count, PySem.F.type_list_count, mt_cnt, fun H0 H x d s h c => ?_, fun σ H0 H x y d e Q s hx hy p => ?_⟩
  · obtain ⟨a, xs, ds, rfl, _, q, _⟩ := isL_ty s h c
    exact .inl ⟨rfl, xs, q⟩
  · unfold gCnt at p
    split at p
    · rename_i c
      obtain ⟨a, xs, ds, rfl, e1, q, r⟩ := isL_ty s hx c
      unfold dCount at p
      rw [e1] at p
      cases e2 : e.sv with
      | none => rw [e2] at p; exact p.elim
      | some yv =>
        rw [e2] at p
        cases e3 : svs ds with
        | none => simp only [e3] at p; exact p.elim
        | some us =>
          simp only [e3] at p
          have hxs := DrAll.svs r e3
          have hyv := Dr.sv hy e2
          subst hxs hyv
          exact ⟨a, xs, y, rfl, rfl, q, sv_flat e2, svs_flat e3, p.v s (.int _)⟩
    · exact p.elim
def isSD : D → Bool
  | .str _ => true
  | _ => false
theorem isS_ty {K : PySem.W.Frag} {H0 : Hp} {x : V} {d : D} (h : Dr K H0 x d) (c : isSD d = true) : ∃ a, x = .str a ∧ d = .str a := by
  cases d with
  | str a => cases h; exact ⟨a, rfl, rfl⟩
  | _ => cases c
def gPart : D → D → R D
  | .str a, .str b => if (b.length == 0) = false ∧ a.length ≤ sizeLine then .ok (.tup [.str (Txt.partition a b).1, .str (Txt.partition a b).2.1, .str (Txt.partition a b).2.2]) else .no
  | _, _ => .no
def gSpl : D → D → R D
  | .str a, .str b => if (b.length == 0) = false ∧ a.length + 2 ≤ sizeLine then .ok (.lst ((Txt.split a b).map D.str)) else .no
  | _, _ => .no
def gStW : D → D → R D
  | .str a, .str b => .ok (.bl (Txt.startswith a b))
  | _, _ => .no
theorem strs_dr {K : PySem.W.Frag} {H : Hp} : ∀ ys : List Str, DrAll K H (ys.map V.str) (ys.map D.str)
  | [] => .nil
  | y :: ys => .cons (.str y) (strs_dr ys)
theorem m1_part : M1 X W "partition" isSD gPart := by
  refine ⟨"str", "str.partition", _, PySem.F.plainAttrs_str, PySem.F.slot_str_partition, PySem.F.type_str_partition, mt_partition, fun H0 H x d s h c => ?_, fun σ H0 H x y d e Q s hx hy p => ?_⟩
  · obtain ⟨a, rfl, _⟩ := isS_ty h c
    rfl
  · unfold gPart at p
    split at p
    · split at p
      · rename_i a b c
        cases hx
        cases hy
        exact ⟨a, b, rfl, rfl, c.1, c.2, fun q hq => p.newT s (.cons (.str _) (.cons (.str _) (.cons (.str _) .nil))) hq⟩
      · exact p.elim
    · exact p.elim
theorem m1_spl : M1 X W "split" isSD gSpl := by
  refine ⟨"str", "str.split", _, PySem.F.plainAttrs_str, PySem.F.slot_str_split, PySem.F.type_str_split, mt_split, fun H0 H x d s h c => ?_, fun σ H0 H x y d e Q s hx hy p => ?_⟩
  · obtain ⟨a, rfl, _⟩ := isS_ty h c
    rfl
  · unfold gSpl at p
    split at p
    · split at p
      · rename_i a b c
        cases hx
        cases hy
        exact ⟨a, b, rfl, rfl, c.1, c.2, fun q hq => p.newL s (strs_dr _) hq⟩
      · exact p.elim
    · exact p.elim
theorem m1_stw : M1 X W "startswith" isSD gStW := by
  refine ⟨"str", "str.startswith", _, PySem.F.plainAttrs_str, PySem.F.slot_str_startswith, PySem.F.type_str_startswith, mt_startswith, fun H0 H x d s h c => ?_, fun σ H0 H x y d e Q s hx hy p => ?_⟩
  · obtain ⟨a, rfl, _⟩ := isS_ty h c
    rfl
  · unfold gStW at p
    split at p
    · rename_i a b
      cases hx
      cases hy
      exact ⟨a, b, rfl, rfl, p.v s (.bl _)⟩
    · exact p.elim
def meth1 (name : Str) : Option ((D → Bool) × (D → D → R D)) := if name = "index" then some (isLD, gIdx) else if name = "count" then some (isLD, gCnt) else if name = "partition" then some (isSD, gPart) else if name = "split" then some (isSD, gSpl) else if name = "startswith" then some (isSD, gStW) else none
theorem meth1_ok {name : Str} {ok : D → Bool} {f : D → D → R D} (h : meth1 name = some (ok, f)) : M1 X W name ok f := by
  unfold meth1 at h
  split at h
  · subst name; cases h; exact m1_index
  split at h
  · subst name; cases h; exact m1_count
  split at h
  · subst name; cases h; exact m1_part
  split at h
  · subst name; cases h; exact m1_spl
  split at h
  · subst name; cases h; exact m1_stw
  · cases h
/-! ### zip, range with a step of -1 -/
section
variable {K : PySem.W.Frag} {Hk : Hp}
theorem zipD_get : ∀ (as bs : List D) (i : Nat), (zipD as bs)[i]? = match as[i]?, bs[i]? with
    | some a, some b => some (.tup [a, b])
    | _, _ => none
  | [], bs, i => by simp [zipD]
  | a :: as, [], i => by
    simp [zipD]
  | a :: as, b :: bs, 0 => by simp [zipD]
  | a :: as, b :: bs, i + 1 => by
    show (zipD as bs)[i]? = _
    rw [zipD_get as bs i]
    rfl
theorem wk_zip {a b : Addr} {xs ys : List V} {ds es : List D} (h : SqL K Hk a xs) (r : DrAll K Hk xs ds) (h2 : SqL K Hk b ys) (r2 : DrAll K Hk ys es) : Wk K (Itz K a b) Hk (zipD ds es) := fun i H0 H e0 e => by
  have q : SqL K H a xs := (e0.trans e).seq h
  have q2 : SqL K H b ys := (e0.trans e).seq h2
  rw [zipD_get]
  refine ⟨fun d hd => ?_, fun hn => ?_⟩
  · cases hc : ds[i]? with
    | none => rw [hc] at hd; cases hd
    | some f =>
      cases hc2 : es[i]? with
      | none => rw [hc, hc2] at hd; cases hd
      | some f2 =>
        rw [hc, hc2] at hd
        cases hd
        obtain ⟨v, hv, dv⟩ := r.get hc
        obtain ⟨v2, hv2, dv2⟩ := r2.get hc2
        refine ⟨⟨xs, ys, v, v2, q, q2, hv, hv2⟩, fun x H' y => ?_⟩
        obtain ⟨T, w, w2, rfl, hT, rfl, y, y2⟩ := y
        have z := y xs q
        rw [hv] at z
        cases z
        have z2 := y2 ys q2
        rw [hv2] at z2
        cases z2
        have m := e0.trans (Same.new (o := .tup [v, v2]) (e.free hT))
        exact ⟨_, Stp.new e hT, .tup (.inl (.inl upd_same)) (.cons (Dr.mono m _ dv) (.cons (Dr.mono m _ dv2) .nil))⟩
  · refine ⟨xs, ys, q, q2, ?_⟩
    rw [r.length, r2.length]
    cases hc : ds[i]? with
    | none => exact .inl (List.getElem?_eq_none_iff.mp hc)
    | some f =>
      cases hc2 : es[i]? with
      | none => exact .inr (List.getElem?_eq_none_iff.mp hc2)
      | some f2 => rw [hc, hc2] at hn; cases hn
theorem stepD_get {lo c : Int} {n i : Nat} : (stepD lo c n)[i]? = if i < n then some (.int (lo + (i : Int) * c)) else none := by
  unfold stepD
  rw [List.getElem?_map]
  by_cases h : i < n
  · rw [if_pos h, List.getElem?_range h]; rfl
  · rw [if_neg h, List.getElem?_eq_none (by simp; omega)]; rfl
theorem wk_step {lo c : Int} {n : Nat} : Wk K (Itc lo c n) Hk (stepD lo c n) := fun i H0 H e0 e => by
  rw [stepD_get]
  refine ⟨fun d hd => ?_, fun hn => ?_⟩
  · split at hd
    · rename_i h
      cases hd
      refine ⟨h, fun x H' y => ?_⟩
      obtain ⟨rfl, rfl⟩ := y
      exact ⟨H0, Stp.refl e, .int _⟩
    · cases hd
  · split at hn
    · cases hn
    · rename_i h
      exact Nat.le_of_not_lt h
end
def dZip : List D → R (List D)
  | [d, e] => if isLD d = true ∧ isLD e = true then (match d.seq, e.seq with
    | some ds, some es => .ok (zipD ds es)
    | _, _ => .no) else .no
  | _ => .no
theorem si_zip {a b : Expr} {elts : List Expr} {kk : Nat} {tpos p pos : Pos} {c : CA} (hg : Gl X "zip") (hm : X.mg "zip" = none) (h : SL X W [a, b] c) (h1 : plainArg a = true) (h2 : plainArg b = true) : SI X W (.Tuple elts kk tpos) (.Call (.Name "zip" p) [a, b] [] pos) (cApp dZip c) := by
  obtain ⟨t, pa, v⟩ := h
  refine ⟨_, pi_zip hg hm pa (star_of h1) (star_all (by simp [h2])), ev_appG downI v fun σ H0 H x d Q s h p => ?_⟩
  unfold dZip at p
  split at p
  · split at p
    · rename_i c
      obtain ⟨v1, v2, rfl, hv1, hv2⟩ := h.two
      obtain ⟨a, xs, ds, rfl, e1, q1, r1⟩ := isL_ty (Same.refl _) hv1 c.1
      obtain ⟨b, ys, es, rfl, e2, q2, r2⟩ := isL_ty (Same.refl _) hv2 c.2
      rw [e1, e2] at p
      exact ⟨a, b, xs, ys, rfl, s.seq q1, s.seq q2, Post.here p s (wk_zip q1 r1 q2 r2)⟩
    · exact p.elim
  · exact p.elim
def dRng3 : List D → R (List D)
  | [.int i, .int j, .int c] => if c = -1 ∧ -(2 ^ 62) ≤ i ∧ i < 2 ^ 62 ∧ -(2 ^ 62) ≤ j ∧ j < 2 ^ 62 then .ok (stepD i (-1) (i - j).toNat) else .no
  | _ => .no
theorem DrAll.three {K : PySem.W.Frag} {H : Hp} {vs : List V} {d e f : D} (h : DrAll K H vs [d, e, f]) : ∃ v w u, vs = [v, w, u] ∧ Dr K H v d ∧ Dr K H w e ∧ Dr K H u f := by
  cases h with
  | cons a r =>
    obtain ⟨w, u, rfl, b, c⟩ := r.two
    exact ⟨_, _, _, rfl, a, b, c⟩
theorem si_range3 {tg a b e : Expr} {p pos : Pos} {c : CA} (hg : Gl X "range") (hm : X.mg "range" = none) (h : SL X W [a, b, e] c) (h1 : plainArg a = true) (h2 : [b, e].all plainArg = true) : SI X W tg (.Call (.Name "range" p) [a, b, e] [] pos) (cApp dRng3 c) := by
  obtain ⟨t, pa, v⟩ := h
  refine ⟨_, pi_range3 hg hm pa (star_of h1) (star_all h2), ev_appG downI v fun σ H0 H x d Q s h p => ?_⟩
  unfold dRng3 at p
  split at p
  · split at p
    · rename_i cc
      obtain ⟨rfl, c1, c2, c3, c4⟩ := cc
      obtain ⟨v1, v2, v3, rfl, hv1, hv2, hv3⟩ := h.three
      cases hv1
      cases hv2
      cases hv3
      exact ⟨_, _, _, _, rfl, RgC.neg c1 c2 c3 c4, Post.here p s wk_step⟩
    · exact p.elim
  · exact p.elim
/-! ### a chain as a test -/
theorem st_chain {a b c : Expr} {op op' : CmpOp} {pos : Pos} {r r' : R2} {f g : D → D → R D} {ca cb cc : C} (ho : OpR X (compareOp op) r) (hd : OpD X.K W r f) (ho' : OpR X (compareOp op') r') (hd' : OpD X.K W r' g) (ha : SE X W a ca) (hb : SE X W b cb) (hc : SE X W c cc) (hm : lastMarks [op, op'] [b, c] = false) :
    ST X W (.Compare a [op, op'] [b, c] pos) (cUn asB (cChain f g ca cb cc)) := by
  obtain ⟨t, p, v⟩ := ha
  obtain ⟨u, q, w⟩ := hb
  obtain ⟨u2, q2, w2⟩ := hc
  refine ⟨_, pt_chain ho ho' p q q2 hm, ev_unG (r := fun x H Q => ∃ k, x = .bl k ∧ Q k H) downB (ev_chain hd hd' v w w2) fun σ H0 H x d Q s hx p => ?_⟩
  unfold asB at p
  split at p
  · cases hx
    exact ⟨_, rfl, Post.here p s rfl⟩
  · exact p.elim
end
end Dw
namespace Dw
open PySem L2 PyProof.Rows
/-! ### a new list that is known from here on, the others staying one's own -/
def evAN (c : CA) (δ : List Sl) : R (D × List Sl) := match evN c δ with
  | .ok (ds, δ') => .ok (.lst ds, δ')
  | .ex C => .ex C
  | .no => .no
section
variable {K : PySem.W.Frag} {W : WX} {G0 G H0 H : Hp} {δ : List Sl} {σ : L2.St}
theorem new_known (r : Rel K G0 G δ σ H0 H) {v : V} {ds : List D} (h : NewL K G H0 H δ σ v ds) : ∃ J0, Same H0 J0 ∧ Rel K G0 G δ σ J0 H ∧ Dr K J0 v (.lst ds) := by
  obtain ⟨p, vs, rfl, g, n, hp, hr, fp, o, nw⟩ := h
  have e0 : Same H0 (upd H0 p (.lst vs)) := Same.new n
  refine ⟨_, e0, ⟨⟨r.st.e0.trans e0, r.st.e, fun c u e => ?_, fun c u z w k => ?_⟩, r.len, fun j d z => ?_, fun j d z => ?_, fp, fun i => (o.s i).mono e0 fun _ _ _ z => z, o.d, fun i a m => ⟨(o.n i a m).1, ?_⟩⟩, .lst (.inl upd_same) (hr.mono e0)⟩
  · by_cases q : c = p
    · subst q; rw [upd_same] at e; rw [hp]; exact e
    · rw [upd_ne q] at e; exact r.st.k c u e
  · rw [upd_ne (ne_of_none w g)]; exact r.st.n c u z w k
  · obtain ⟨v, a, b⟩ := r.pu j d z
    exact ⟨v, a, b.mono e0⟩
  · obtain ⟨v, a, b⟩ := r.nt j d z
    exact ⟨v, a, b.mono e0⟩
  · rw [upd_ne fun z => nw i (by rw [← z]; exact m)]
    exact (o.n i a m).2
theorem evAN_ok {te : TE} {c : CA} (h : Ev K W (SW K) te c) (r : Rel K G0 G δ σ H0 H) {Q : VK} (p : match evAN c δ with
    | .ok (d, δ') => ∀ H0' H' v, Same H0 H0' → Rel K G0 G δ' σ H0' H' → Dr K H0' v d → Q v H'
    | .ex C => ∀ H0' H', Same H0 H0' → Rel K G0 G δ σ H0' H' → W (.ref (He.ga K C)) none σ H'
    | .no => False) : te σ H Q := by
  refine evN_ok h r ?_
  unfold evAN at p
  cases e : evN c δ with
  | no => rw [e] at p; exact p
  | ex C => rw [e] at p; exact p
  | ok z =>
    obtain ⟨ds, δ'⟩ := z
    rw [e] at p
    intro A B v s r' nl
    obtain ⟨J0, e0, r2, dv⟩ := new_known r' nl
    exact p J0 B v (s.trans e0) r2 dv
end
def cSetIN (i : Nat) (ck : C) (c : CA) : CS := fun δ => fA (evAN c δ) δ fun d δ1 => kSetJ i ck d δ1
section
variable {X : Cx} {W : WX}
theorem ss_setIN {i : Nat} {x : Str} {e k : Expr} {p sp pos : Pos} {ck : C} {c : CA} (hN : X.N[i]? = some x) (hv : Vis X.env.scope x) (hd : (x == ("__debug__" : Str)) = false) (hcd : (x == ("__classdict__" : Str)) = false) (hk : SE X W k ck) (h : SN X W e c) (hc : isComp e = false) (hs : notSlice k = true) :
    SS X W (.Assign [.Subscript (.Name x p) k sp] e pos) (cSetIN i ck c) := by
  obtain ⟨t, q, v⟩ := h
  obtain ⟨u, q2, v2⟩ := hk
  refine ⟨_, ps_asg q (pg_sub (pe_var hN hv hd hcd) q2 set_list (asub_of hs)) (show swapsWith e (some (.Subscript (.Name x p) k sp)) pos.line X.env = pure false from swaps_of hc) rfl rfl, fun G0 G δ σ H0 H E r po => ?_⟩
  have po' : PostS X.K W G0 G H0 E (fA (evAN c δ) δ fun d δ1 => kSetJ i ck d δ1) := po
  refine evAN_ok v r ?_
  cases e1 : evAN c δ with
  | no => rw [e1] at po'; exact po'
  | ex C => rw [e1] at po'; exact fun A B s r' => po' σ A B s r'
  | ok z =>
    obtain ⟨d, δ1⟩ := z
    rw [e1] at po'
    intro A B x s r' hd
    have po2 : PostS X.K W G0 G H0 E (kSetJ i ck d δ1) := po'
    unfold kSetJ at po2
    split at po2
    · rename_i ds0 e0
      obtain ⟨a, vs, hs, g, n, ha, hr⟩ := r'.ow i ds0 e0
      refine ⟨_, hs, ?_⟩
      refine evA_ok v2 r' ?_
      cases e2 : evA ck δ1 with
      | no => rw [e2] at po2; exact po2
      | ex C => rw [e2] at po2; exact fun A2 B2 s2 r2 => po2 σ A2 B2 (s.trans s2) r2
      | ok z =>
        obtain ⟨k2, δ'⟩ := z
        rw [e2] at po2
        intro A2 B2 y s2 r2 hk
        have po3 : PostS X.K W G0 G H0 E (kSetI i d k2 δ') := po2
        unfold kSetI at po3
        split at po3
        · rename_i ds e3
          split at po3
          · rename_i j
            split at po3
            · rename_i m hm
              obtain ⟨a', ws, hs', g', n', ha', hr'⟩ := r2.ow i ds e3
              rw [hs] at hs'
              cases hs'
              cases hk
              exact ⟨a, ws, j, m, rfl, rfl, ha', by rw [hr'.length]; exact hm, po3 σ A2 _ (s.trans s2) (r2.put e3 hs (hr'.set (Dr.mono s2 _ hd) m))⟩
            · exact po3.elim
          · exact po3.elim
        · exact po3.elim
    · exact po2.elim
/-! ### a list of lists, all of one's own -/
def SWs (K : PySem.W.Frag) : Sat (List (List D)) (List V) := fun Hs H0 H vs dss => ∃ ps : List Addr, vs = ps.map V.ref ∧ ps.Nodup ∧ (∀ a ∈ ps, Hs a = none ∧ H0 a = none) ∧ OoAll K H0 H ps dss
theorem downWs {K : PySem.W.Frag} : Down (SWs K) := fun _ _ _ _ _ _ e ⟨ps, a, n, f, h⟩ => ⟨ps, a, n, fun b m => ⟨e.free (f b m).1, (f b m).2⟩, h⟩
def ooGo : List CA → List Sl → R (List (List D))
  | [], _ => .ok []
  | c :: cs, δ => (c δ).bind fun ds => (ooGo cs δ).bind fun r => .ok (ds :: r)
theorem ev_ooNil {K : PySem.W.Frag} : Ev K W (SWs K) tNil (ooGo []) := fun G0 G δ σ H0 H Q r p => Post.here (show Post K W σ H0 H (SWs K) (.ok []) Q from p) r.same ⟨[], rfl, List.nodup_nil, fun _ m => (nomatch m), .nil⟩
theorem ev_ooCons {K : PySem.W.Frag} {ta : TE} {tr : TA} {ca : CA} {cs : List CA} (ha : Ev K W (SW K) ta ca) (hr : Ev K W (SWs K) tr (ooGo cs)) : Ev K W (SWs K) (tCons ta tr) (ooGo (ca :: cs)) := by
  intro G0 G δ σ H0 H Q rl p
  have p' : Post K W σ H0 H (SWs K) ((ca δ).bind fun d => (ooGo cs δ).bind fun ds => .ok (d :: ds)) Q := p
  refine ha G0 G δ σ H0 H _ rl ?_
  cases e : ca δ with
  | ok d =>
    rw [e] at p'
    intro A B x s q
    refine hr G0 G δ σ A B _ (rl.step s) ?_
    have p2 : Post K W σ H0 H (SWs K) ((ooGo cs δ).bind fun ds => .ok (d :: ds)) Q := p'
    cases e2 : ooGo cs δ with
    | ok ds =>
      rw [e2] at p2
      intro A2 B2 y s2 q2
      obtain ⟨p1, vs, rfl, n1, n2, hb, hd⟩ := q
      obtain ⟨ps, rfl, nd, nn, oo⟩ := q2
      refine p2 A2 B2 (.ref p1 :: ps.map V.ref) (s.trans s2) ⟨p1 :: ps, rfl, List.nodup_cons.mpr ⟨fun m => ?_, nd⟩, fun a m => ?_, .cons (s2.e _ _ hb) (hd.mono s2.e0) oo⟩
      · have z := (nn p1 m).1
        rw [hb] at z
        cases z
      · rcases List.mem_cons.mp m with z | m
        · rw [z]; exact ⟨n1, s2.n p1 _ n2 hb trivial⟩
        · exact ⟨s.e.free (nn a m).1, (nn a m).2⟩
    | ex C =>
      rw [e2] at p2
      exact Post.mono (S := SWs K) downWs p2 s
    | no =>
      rw [e2] at p2
      exact p2
  | ex C =>
    rw [e] at p'
    exact p'
  | no =>
    rw [e] at p'
    exact p'
theorem oo_args {f : Expr → CA} (h : ∀ e, SN X W e (f e)) : ∀ {es : List Expr}, es.all plainArg = true → ∃ t, PA X es t ∧ Ev X.K W (SWs X.K) t (ooGo (es.map f))
  | [], _ => ⟨_, pa_nil, ev_ooNil⟩
  | e :: es, hp => by
    have h' := Bool.and_eq_true_iff.mp (show (plainArg e && es.all plainArg) = true from hp)
    obtain ⟨t, p, v⟩ := h e
    obtain ⟨u, q, w⟩ := oo_args h h'.2
    exact ⟨_, pa_cons p q (star_of h'.1), ev_ooCons v w⟩
def kOO (i : Nat) (δ : List Sl) : R (List (List D)) → Fl
  | .ok dss => if dss.length ≤ sizeLine then .nx (δ.set i (.oo dss)) else .no
  | .ex C => .ex C δ
  | .no => .no
def cAsgOO (i : Nat) (cs : List CA) : CS := fun δ => kOO i δ (ooGo cs δ)
theorem OoAll.len {K : PySem.W.Frag} {H0 H : Hp} : ∀ {ps : List Addr} {dss : List (List D)}, OoAll K H0 H ps dss → ps.length = dss.length
  | _, _, .nil => rfl
  | _, _, .cons _ _ t => congrArg (· + 1) (OoAll.len t)
theorem OoAll.get {K : PySem.W.Frag} {H0 H : Hp} : ∀ {ps : List Addr} {dss : List (List D)} {k : Nat} {ds : List D}, OoAll K H0 H ps dss → dss[k]? = some ds → ∃ a vs, ps[k]? = some a ∧ H a = some (.lst vs) ∧ DrAll K H0 vs ds
  | _, _, _, _, .nil, e => by simp at e
  | _, _, 0, _, .cons h r _, e => by simp at e; subst e; exact ⟨_, _, rfl, h, r⟩
  | _, _, k + 1, ds, .cons _ _ t, e => by
    obtain ⟨a, vs, h1, h2, h3⟩ := OoAll.get (k := k) (ds := ds) t (by simpa using e)
    exact ⟨a, vs, by simpa using h1, h2, h3⟩
theorem OoAll.put {K : PySem.W.Frag} {H0 H : Hp} {vs : List V} {ds : List D} {a : Addr} (hr : DrAll K H0 vs ds) {ps : List Addr} {dss : List (List D)} (h : OoAll K H0 H ps dss) : ∀ {k : Nat}, ps.Nodup → ps[k]? = some a → OoAll K H0 (upd H a (.lst vs)) ps (dss.set k ds) := by
  induction h with
  | nil => intro k _ e; simp at e
  | @cons p ps ws es dss h r t ih =>
    intro k nd e
    cases k with
    | zero =>
      simp at e
      subst e
      refine .cons upd_same hr (t.mono (Same.refl _) fun b m o z => ?_)
      rw [upd_ne fun z => (List.nodup_cons.mp nd).1 (by rw [← z]; exact m)]
      exact z
    | succ k =>
      have e' : ps[k]? = some a := by simpa using e
      have ma := List.mem_of_getElem? e'
      refine .cons ?_ r (ih (List.nodup_cons.mp nd).2 e')
      rw [upd_ne fun z => (List.nodup_cons.mp nd).1 (by rw [z]; exact ma)]
      exact h
theorem ss_asgOO {i : Nat} {x : Str} {es : List Expr} {p lp pos : Pos} {f : Expr → CA} (hN : X.N.Nodup) (hi : X.N[i]? = some x) (hx : L2.Loc X.env.scope x) (hf : X.fn x = true ∨ X.env.scope.names.lookup x = some .local) (h : ∀ e, SN X W e (f e)) (hp : es.all plainArg = true) : SS X W (.Assign [.Name x p] (.List es lp) pos) (cAsgOO i (es.map f)) := by
  obtain ⟨t, q, v⟩ := oo_args h hp
  refine ⟨_, ps_set hN hi hx (pe_lst q) (swaps_of rfl) hf, fun G0 G δ σ H0 H E r po => ?_⟩
  have po' : PostS X.K W G0 G H0 E (kOO i δ (ooGo (es.map f) δ)) := po
  refine v G0 G δ σ H0 H _ r ?_
  cases e : ooGo (es.map f) δ with
  | no => rw [e] at po'; exact po'
  | ex C => rw [e] at po'; exact fun A B s => po' σ A B s.e0 (r.step s)
  | ok dss =>
    rw [e] at po'
    have po' : PostS X.K W G0 G H0 E (if dss.length ≤ sizeLine then .nx (δ.set i (.oo dss)) else .no) := po'
    split at po'
    · rename_i hz
      intro A B vs s w
      obtain ⟨ps, rfl, nd, nn, oo⟩ := w
      refine ⟨by rw [List.length_map, oo.len]; exact hz, fun n hn => ?_⟩
      have st : Stp A B A (upd B n (.lst (ps.map V.ref))) := Stp.own s.k hn
      obtain ⟨fp, o⟩ := r.own
      have o2 := o.step (s.trans st)
      have free : ∀ a, H a = none → ∀ j, a ∉ fp j := fun a ha j m => by
        obtain ⟨u, h1, _⟩ := (o.s j).there m
        rw [ha] at h1
        cases h1
      have hn0 : H n = none := s.e.free hn
      have all : ∀ a ∈ n :: ps, H a = none ∧ A a = none := fun a m => by
        rcases List.mem_cons.mp m with z | m
        · rw [z]; exact ⟨hn0, s.k.free hn⟩
        · exact nn a m
      refine po' _ A _ s.e0 ((r.step (s.trans st)).setX (f := n :: ps) o2 ⟨n, ps, rfl, rfl, List.nodup_cons.mpr ⟨fun m => ?_, nd⟩, upd_same, oo.mono (Same.refl _) fun a m u z => ?_⟩ (fun a m => ⟨r.st.e.free (all a m).1, (all a m).2⟩) (fun a m j _ => free a (all a m).1 j) (fun _ e => nomatch e) fun _ e => nomatch e)
      · obtain ⟨ws, z⟩ := oo.there m
        rw [hn] at z
        cases z
      · rw [upd_ne fun e => by rw [e, hn] at z; cases z]
        exact z
    · exact po'.elim
/-! x[k].append(e), x[k].clear() -/
def kAppOO (i k : Nat) (δ : List Sl) (d : D) : Option Sl → Fl
  | some (.oo dss) => (match dss[k]? with
    | some ds => if ds.length < sizeLine then .nx (δ.set i (.oo (dss.set k (ds ++ [d])))) else .no
    | none => .no)
  | _ => .no
def cAppOO (i k : Nat) (c : C) : CS := fun δ => match c δ with
  | .ok d => kAppOO i k δ d δ[i]?
  | _ => .no
def kClrOO (i k : Nat) (δ : List Sl) : Option Sl → Fl
  | some (.oo dss) => (match dss[k]? with
    | some _ => .nx (δ.set i (.oo (dss.set k [])))
    | none => .no)
  | _ => .no
def cClrOO (i k : Nat) : CS := fun δ => kClrOO i k δ δ[i]?
theorem Rel.oo {K : PySem.W.Frag} {G0 G H0 H : Hp} {δ : List Sl} {σ : L2.St} (r : Rel K G0 G δ σ H0 H) {i k : Nat} {dss : List (List D)} {ds : List D} (e : δ[i]? = some (.oo dss)) (hk : dss[k]? = some ds) : ∃ (p : Addr) (ps : List Addr) (a : Addr) (vs : List V), σ[i]? = some (some (.ref p)) ∧ H p = some (.lst (ps.map V.ref)) ∧ ps[k]? = some a ∧ H a = some (.lst vs) ∧ DrAll K H0 vs ds ∧
    ∀ ws es, DrAll K H0 ws es → Rel K G0 G (δ.set i (.oo (dss.set k es))) σ H0 (upd H a (.lst ws)) := by
  obtain ⟨fp, o⟩ := r.own
  have z := o.s i
  rw [e] at z
  obtain ⟨p, ps, hs, f, nd, hp, oo⟩ := z
  obtain ⟨a, vs, h1, h2, h3⟩ := oo.get hk
  have ma := List.mem_of_getElem? h1
  have np : p ≠ a := fun z => (List.nodup_cons.mp nd).1 (by rw [z]; exact ma)
  refine ⟨p, ps, a, vs, hs, hp, h1, h2, h3, fun ws es hw => ?_⟩
  refine r.putX o e (fun b m => upd_ne fun z => m (by rw [f, z]; exact List.mem_cons_of_mem _ ma)) ?_ (fun _ z => nomatch z) fun _ z => nomatch z
  exact ⟨p, ps, hs, f, nd, by rw [upd_ne np]; exact hp, oo.put hw (List.nodup_cons.mp nd).2 h1⟩
theorem ix_at {ps : List Addr} {k : Nat} {a : Addr} (h : ps[k]? = some a) : atI (ps.map V.ref) (k : Int) = some (.ref a) := by
  have hl : k < ps.length := (List.getElem?_eq_some_iff.mp h).1
  unfold atI
  have e : ixN (ps.map V.ref).length (k : Int) = some k := by
    unfold ixN
    simp [hl]
  rw [e]
  simp [h]
theorem ss_appOO {i k : Nat} {x : Str} {e : Expr} {p sp ap cp pos : Pos} {kk : Nat} {kp : Pos} {c : C} (hN : X.N[i]? = some x) (hv : Vis X.env.scope x) (hd : (x == ("__debug__" : Str)) = false) (hcd : (x == ("__classdict__" : Str)) = false) (h : SE X W e c) (he : plainArg e = true) (hl : (ap.endLine == cp.line) = true) :
    SS X W (.Expr (.Call (.Attribute (.Subscript (.Name x p) (.Constant (.int (k : Int)) kk kp) sp) "append" ap) [e] [] cp) pos) (cAppOO i k c) := by
  obtain ⟨t, q, v⟩ := h
  refine ⟨_, ps_expr (pe_bm PySem.F.plainAttrs_list PySem.F.slot_list_append PySem.F.type_list_append mt_append (pe_ix ix_seq (pe_var hN hv hd hcd) pe_int (ix_plain rfl)) (pa_cons q pa_nil (star_of he)) rfl (few_one he) hl (star_of he) rfl) rfl, fun G0 G δ σ H0 H E r po => ?_⟩
  unfold cAppOO at po
  split at po
  · rename_i d ec
    unfold kAppOO at po
    split at po
    · rename_i dss e0
      split at po
      · rename_i ds hk
        split at po
        · rename_i hz
          obtain ⟨p0, ps, a, vs, hs, hp, ha, h2, h3, _⟩ := r.oo e0 hk
          refine ⟨_, hs, .inl ⟨p0, _, (k : Int), .ref a, rfl, rfl, SqL.of hp, ix_at ha, .inl ⟨rfl, vs, SqL.of h2⟩, ?_⟩⟩
          refine v G0 G δ σ H0 H _ r ?_
          rw [ec]
          intro A B y s hy
          obtain ⟨p1, ps1, a1, vs1, hs1, hp1, ha1, h21, h31, w⟩ := (r.step s).oo e0 hk
          rw [hs] at hs1
          cases hs1
          have z := s.e _ _ hp
          rw [hp1] at z
          have z2 : ps1.map V.ref = ps.map V.ref := by injection z with z; injection z
          have z3 := congrArg (fun l : List V => l[k]?) z2
          simp only [List.getElem?_map, ha1, ha, Option.map_some] at z3
          injection z3 with z3
          injection z3 with z3
          subst z3
          exact ⟨_, vs1, y, rfl, rfl, h21, by rw [h31.length]; exact hz, po σ A _ s.e0 (w _ _ (h31.append (.cons hy .nil)))⟩
        · exact po.elim
      · exact po.elim
    · exact po.elim
  · exact po.elim
theorem ss_clrOO {i k : Nat} {x : Str} {p sp ap cp pos : Pos} {kk : Nat} {kp : Pos} (hN : X.N[i]? = some x) (hv : Vis X.env.scope x) (hd : (x == ("__debug__" : Str)) = false) (hcd : (x == ("__classdict__" : Str)) = false) (hl : (ap.endLine == cp.line) = true) :
    SS X W (.Expr (.Call (.Attribute (.Subscript (.Name x p) (.Constant (.int (k : Int)) kk kp) sp) "clear" ap) [] [] cp) pos) (cClrOO i k) := by
  refine ⟨_, ps_expr (pe_bm0 PySem.F.plainAttrs_list PySem.F.slot_list_clear PySem.F.type_list_clear mt_clear (pe_ix ix_seq (pe_var hN hv hd hcd) pe_int (ix_plain rfl)) rfl hl) rfl, fun G0 G δ σ H0 H E r po => ?_⟩
  have po' : PostS X.K W G0 G H0 E (kClrOO i k δ δ[i]?) := po
  unfold kClrOO at po'
  split at po'
  · rename_i dss e0
    split at po'
    · rename_i ds hk
      obtain ⟨p0, ps, a, vs, hs, hp, ha, h2, h3, w⟩ := r.oo e0 hk
      exact ⟨_, hs, .inl ⟨p0, _, (k : Int), .ref a, rfl, rfl, SqL.of hp, ix_at ha, .inl ⟨rfl, vs, SqL.of h2⟩, a, vs, rfl, rfl, h2, po' σ H0 _ (Same.refl _) (w _ _ .nil)⟩⟩
    · exact po'.elim
  · exact po'.elim
theorem ss_appOI {i : Nat} {k : Int} (h0 : 0 ≤ k) {x : Str} {e : Expr} {p sp ap cp pos : Pos} {kk : Nat} {kp : Pos} {c : C} (hN : X.N[i]? = some x) (hv : Vis X.env.scope x) (hd : (x == ("__debug__" : Str)) = false) (hcd : (x == ("__classdict__" : Str)) = false) (h : SE X W e c) (he : plainArg e = true) (hl : (ap.endLine == cp.line) = true) :
    SS X W (.Expr (.Call (.Attribute (.Subscript (.Name x p) (.Constant (.int k) kk kp) sp) "append" ap) [e] [] cp) pos) (cAppOO i k.toNat c) := by
  obtain ⟨n, rfl⟩ := Int.eq_ofNat_of_zero_le h0
  exact ss_appOO hN hv hd hcd h he hl
theorem ss_clrOI {i : Nat} {k : Int} (h0 : 0 ≤ k) {x : Str} {p sp ap cp pos : Pos} {kk : Nat} {kp : Pos} (hN : X.N[i]? = some x) (hv : Vis X.env.scope x) (hd : (x == ("__debug__" : Str)) = false) (hcd : (x == ("__classdict__" : Str)) = false) (hl : (ap.endLine == cp.line) = true) :
    SS X W (.Expr (.Call (.Attribute (.Subscript (.Name x p) (.Constant (.int k) kk kp) sp) "clear" ap) [] [] cp) pos) (cClrOO i k.toNat) := by
  obtain ⟨n, rfl⟩ := Int.eq_ofNat_of_zero_le h0
  exact ss_clrOO hN hv hd hcd hl
end
end Dw
namespace Dw
open PySem L2 PyProof.Rows
/-! ### what the compiler knows -/
structure Ctx where
  N : List Str
  F : Str → Nat → Option (List D → Rs)
  Gc : Str → Option D
  isi : Str → Option (D → Option Bool)
  M : List Str
  exs : List Str
  exm : Str → Option (Str → Option Bool)
  L : List Str
  O : List Str := []
def findIx : List Str → Str → Option Nat
  | [], _ => none
  | y :: ys, x => if y = x then some 0 else (findIx ys x).map (· + 1)
theorem findIx_ok : ∀ {N : List Str} {x : Str} {i : Nat}, findIx N x = some i → N[i]? = some x
  | [], _, _, h => by cases h
  | y :: ys, x, i, h => by
    unfold findIx at h
    split at h
    · rename_i e
      cases h
      rw [e]
      rfl
    · cases e : findIx ys x with
      | none => rw [e] at h; cases h
      | some j =>
        rw [e] at h
        cases h
        show ys[j]? = some x
        exact findIx_ok e
def okName (x : Str) : Bool := !(x == ("__debug__" : Str)) && !(x == ("__classdict__" : Str))
theorem okName_ok {x : Str} (h : okName x = true) : (x == ("__debug__" : Str)) = false ∧ (x == ("__classdict__" : Str)) = false := by
  have h' := Bool.and_eq_true_iff.mp (show (!(x == ("__debug__" : Str)) && !(x == ("__classdict__" : Str))) = true from h)
  exact ⟨by simpa using h'.1, by simpa using h'.2⟩
def isVis (sc : Scope) (x : Str) : Bool := match sc.names.lookup x with
  | some .local => true
  | some .cell => true
  | some .free => true
  | _ => false
def isLoc (sc : Scope) (x : Str) : Bool := match sc.names.lookup x with
  | some .local => true
  | some .cell => true
  | _ => false
def isLc (sc : Scope) (x : Str) : Bool := match sc.names.lookup x with
  | some .local => true
  | _ => false
def isGl (sc : Scope) (x : Str) : Bool := match sc.names.lookup x with
  | some .globalImplicit => true
  | _ => false
theorem isVis_ok {sc : Scope} {x : Str} (h : isVis sc x = true) : Vis sc x := by
  unfold isVis at h
  split at h
  · exact .inl (by assumption)
  · exact .inr (.inl (by assumption))
  · exact .inr (.inr (by assumption))
  · cases h
theorem isLoc_ok {sc : Scope} {x : Str} (h : isLoc sc x = true) : L2.Loc sc x := by
  unfold isLoc at h
  split at h
  · exact .inl (by assumption)
  · exact .inr (by assumption)
  · cases h
theorem isLc_ok {sc : Scope} {x : Str} (h : isLc sc x = true) : sc.names.lookup x = some .local := by
  unfold isLc at h
  split at h
  · assumption
  · cases h
theorem isGl_ok {sc : Scope} {x : Str} (h : isGl sc x = true) : sc.names.lookup x = some .globalImplicit := by
  unfold isGl at h
  split at h
  · assumption
  · cases h
def slot (Γ : Ctx) (sc : Scope) (x : Str) : Option Nat := if (isVis sc x && okName x) = true then findIx Γ.N x else none
def slotL (Γ : Ctx) (sc : Scope) (x : Str) : Option Nat := if (isLoc sc x && okName x) = true then findIx Γ.N x else none
/-- built-in names that no law's module binds -/
def blts : List Str := ["len", "abs", "max", "min", "sum", "all", "any", "int", "str", "tuple", "list", "isinstance", "range", "enumerate", "bool", "dict", "repr", "zip"]
structure Gd (k : Nat) (Γ : Ctx) (sc : Scope) (W : WX) (X : Cx) : Prop where
  N : X.N = Γ.N
  nd : X.N.Nodup
  hsc : ∀ x kd, sc.names.lookup x = some kd → ∃ kd', X.env.scope.names.lookup x = some kd' ∧ (kd' = kd ∨ (kd = .free ∧ kd' = .cell))
  kind : sc.kind = .function
  room : Room k X.A
  gu : X.A.guards = some []
  calm : X.calm = true
  tk : Takes X W
  po : PassesOwn (model X.prog X.w) X.A X.env X.xe
  fnc : ∀ x, sc.names.lookup x = some .cell → X.fn x = true
  fns : ∀ x m sem, Γ.F x m = some sem → FK X.prog X.w X.K X.mg X.base k x m sem
  bl : ∀ x ∈ blts, X.mg x = none
  cn : ∀ x d, Γ.Gc x = some d → (x == ("__debug__" : Str)) = false ∧ ∃ v u, X.mg x = some u ∧ RelV v u ∧ ∀ H, Dr X.K H v d
  cl : ∀ x f, Γ.isi x = some f → (x == ("__debug__" : Str)) = false ∧ ∃ v u, (X.mg x = some u ∨ (X.mg x = none ∧ bootBuiltins x = some u ∧ x ≠ "__name__")) ∧ RelV v u ∧ ClsV v u ∧ IsOf X.K u f
  rz : ∀ x ∈ Γ.exs, RzK X.K X.mg x
  xm : ∀ x m, Γ.exm x = some m → (x == ("__debug__" : Str)) = false ∧ ∃ c, X.mg x = some c ∧ ∀ C b, m C = some b → PySem.W.exmOne X.K (.ref (He.ga X.K C)) c = some b
section
variable {k : Nat} {Γ : Ctx} {sc : Scope} {W : WX} {X : Cx} (g : Gd k Γ sc W X)
include g
theorem Gd.vis {x : Str} (h : isVis sc x = true) : Vis X.env.scope x := by
  rcases isVis_ok h with h | h | h
  · obtain ⟨kd, e, z | ⟨z, _⟩⟩ := g.hsc x _ h
    · rw [z] at e; exact .inl e
    · cases z
  · obtain ⟨kd, e, z | ⟨z, _⟩⟩ := g.hsc x _ h
    · rw [z] at e; exact .inr (.inl e)
    · cases z
  · obtain ⟨kd, e, z | ⟨_, z⟩⟩ := g.hsc x _ h
    · rw [z] at e; exact .inr (.inr e)
    · rw [z] at e; exact .inr (.inl e)
theorem Gd.lc {x : Str} (h : sc.names.lookup x = some .local) : X.env.scope.names.lookup x = some .local := by
  obtain ⟨kd, e, z | ⟨z, _⟩⟩ := g.hsc x _ h
  · rw [z] at e; exact e
  · cases z
theorem Gd.cell {x : Str} (h : sc.names.lookup x = some .cell) : X.env.scope.names.lookup x = some .cell := by
  obtain ⟨kd, e, z | ⟨z, _⟩⟩ := g.hsc x _ h
  · rw [z] at e; exact e
  · cases z
theorem Gd.slot {x : Str} {i : Nat} (h : Dw.slot Γ sc x = some i) : X.N[i]? = some x ∧ Vis X.env.scope x ∧ (x == ("__debug__" : Str)) = false ∧ (x == ("__classdict__" : Str)) = false := by
  unfold Dw.slot at h
  split at h
  · rename_i c
    have c' := Bool.and_eq_true_iff.mp c
    have o := okName_ok c'.2
    rw [g.N]
    exact ⟨findIx_ok h, g.vis c'.1, o.1, o.2⟩
  · cases h
theorem Gd.slotL {x : Str} {i : Nat} (h : Dw.slotL Γ sc x = some i) : X.N[i]? = some x ∧ L2.Loc X.env.scope x ∧ (X.fn x = true ∨ X.env.scope.names.lookup x = some .local) := by
  unfold Dw.slotL at h
  split at h
  · rename_i c
    have c' := Bool.and_eq_true_iff.mp c
    rw [g.N]
    rcases isLoc_ok c'.1 with l | l
    · exact ⟨findIx_ok h, .inl (g.lc l), .inr (g.lc l)⟩
    · exact ⟨findIx_ok h, .inr (g.cell l), .inl (g.fnc x l)⟩
  · cases h
theorem Gd.gl {x : Str} (h : isGl sc x = true) : Gl X x := by
  obtain ⟨kd, e, z | ⟨z, _⟩⟩ := g.hsc x _ (isGl_ok h)
  · rw [z] at e; exact e
  · cases z
theorem Gd.blkOk {scope : Scope} {own : List (Str × Nat)} (ok : BlkOk Γ.N sc scope own) : BlkOk X.N X.env.scope scope own where
  kind := ok.kind
  uniq := ok.uniq
  ix := by rw [g.N]; exact ok.ix
  free := fun y hy e => by
    rcases ok.free y hy e with h | h
    · exact .inl (g.cell h)
    · obtain ⟨kd, e, z | ⟨_, z⟩⟩ := g.hsc _ _ h
      · rw [z] at e; exact .inr e
      · rw [z] at e; exact .inl e
  own := by rw [g.N]; exact ok.own
end
/-! ### the compiler -/
structure Cp where
  e : Expr → C
  n : Expr → CA
  t : Expr → CB
  i : Expr → Expr → CA
  g : Expr → CT × List Nat
structure Ok (X : Cx) (W : WX) (q : Cp) : Prop where
  e : ∀ e, SE X W e (q.e e)
  n : ∀ e, SN X W e (q.n e)
  t : ∀ e, ST X W e (q.t e)
  i : ∀ tg it, SI X W tg it (q.i tg it)
  g : ∀ tg, SG X tg (q.g tg).1 (q.g tg).2
def cArgs (f : Expr → C) : List Expr → CA
  | [] => cNil
  | e :: es => cCons (f e) (cArgs f es)
theorem sl_args {X : Cx} {W : WX} {f : Expr → C} (h : ∀ e, SE X W e (f e)) : ∀ {es : List Expr}, es.all plainArg = true → SL X W es (cArgs f es)
  | [], _ => sl_nil
  | e :: es, hp => by
    have h' := Bool.and_eq_true_iff.mp (show (plainArg e && es.all plainArg) = true from hp)
    exact sl_cons (h e) (sl_args h h'.2) h'.1
theorem all2_map {α β : Type} {P : α → β → Prop} {f : α → β} (h : ∀ a, P a (f a)) : ∀ as : List α, All2 P as (as.map f)
  | [] => .nil
  | a :: as => .cons (h a) (all2_map h as)
def binD : Operator → Option (D → D → R D)
  | .Add => some dAddA
  | .Sub => some dSub
  | .Mult => some dMul
  | .FloorDiv => some dDiv
  | .Mod => some dMod
  | .Pow => some dPow
  | .RShift => some dShr
  | .BitAnd => some dAnd
  | _ => none
theorem binD_ok {X : Cx} {W : WX} {op : Operator} {f : D → D → R D} (h : binD op = some f) : ∃ r, OpR X (binaryOp op) r ∧ OpD X.K W r f := by
  cases op <;> cases h
  · exact ⟨_, op_addAll, opd_addA⟩
  · exact ⟨_, op_subC, opd_sub⟩
  · exact ⟨_, op_mulW, opd_mul⟩
  · exact ⟨_, op_modN, opd_mod⟩
  · exact ⟨_, op_pow, opd_pow⟩
  · exact ⟨_, op_shr, opd_shr⟩
  · exact ⟨_, op_andC, opd_and⟩
  · exact ⟨_, op_divC, opd_div⟩
def cmpD : CmpOp → Option (D → D → R D)
  | .Eq => some dEq
  | .NotEq => some dNe
  | .Lt => some dLt
  | .LtE => some dLe
  | .Gt => some dGt
  | .GtE => some dGe
  | .Is => some dIs
  | .IsNot => some dNot
  | .In => some dIn
  | .NotIn => some dNin
theorem cmpD_ok {X : Cx} {W : WX} {op : CmpOp} {f : D → D → R D} (hu : X.A.units + 64 < cLine) (h : cmpD op = some f) : ∃ r, OpR X (compareOp op) r ∧ OpD X.K W r f := by
  cases op <;> cases h
  · exact ⟨_, op_eqAll hu, opd_eq⟩
  · exact ⟨_, op_neAll hu, opd_ne⟩
  · exact ⟨_, op_lt, opd_cmp⟩
  · exact ⟨_, op_le, opd_cmp⟩
  · exact ⟨_, op_gt, opd_cmp⟩
  · exact ⟨_, op_ge, opd_cmp⟩
  · exact ⟨_, op_isAll, opd_is⟩
  · exact ⟨_, op_notAll, opd_not⟩
  · exact ⟨_, op_inAll, opd_in⟩
  · exact ⟨_, op_ninAll, opd_nin⟩
def vblt (x : Str) : Option (List D → R D) :=
  if x = "len" then some dLen else if x = "abs" then some dAbs else if x = "max" then some dMax else if x = "min" then some dMin else if x = "sum" then some dSum else
  if x = "all" then some dAll else if x = "any" then some dAny else if x = "int" then some dInt1 else if x = "str" then some dStr1 else if x = "tuple" then some dTupOf else if x = "repr" then some dRepr else none
def nblt (x : Str) : Option (List D → R (List D)) := if x = "list" then some dListOf else none
section
variable {X : Cx} {W : WX} {q : Cp} {k : Nat} {Γ : Ctx} {sc : Scope}
theorem vblt_ok {x : Str} {f : List D → R D} {e : Expr} {es : List Expr} {p pos : Pos} {ca : CA} (g : Gd k Γ sc W X) (h : vblt x = some f) (hg : isGl sc x = true) (ha : SL X W (e :: es) ca) (h1 : plainArg e = true) (h2 : es.all plainArg = true) : SE X W (.Call (.Name x p) (e :: es) [] pos) (cApp f ca) := by
  unfold vblt at h
  split at h
  · subst x; cases h
    exact se_blt call_len cd_len (g.gl hg) (g.bl _ (by decide +kernel)) (by decide +kernel) (by decide) (by decide) ha h1 h2
  split at h
  · subst x; cases h
    exact se_blt call_abs cd_abs (g.gl hg) (g.bl _ (by decide +kernel)) (by decide +kernel) (by decide) (by decide) ha h1 h2
  split at h
  · subst x; cases h
    exact se_blt (CallR.or (call_max2 g.calm) (cr_max g.calm)) cd_max (g.gl hg) (g.bl _ (by decide +kernel)) (by decide +kernel) (by decide) (by decide) ha h1 h2
  split at h
  · subst x; cases h
    exact se_blt (CallR.or (call_min2 g.calm) (cr_min g.calm)) cd_min (g.gl hg) (g.bl _ (by decide +kernel)) (by decide +kernel) (by decide) (by decide) ha h1 h2
  split at h
  · subst x; cases h
    exact se_blt (cr_sum g.calm) cd_sum (g.gl hg) (g.bl _ (by decide +kernel)) (by decide +kernel) (by decide) (by decide) ha h1 h2
  split at h
  · subst x; cases h
    exact se_blt (cr_all g.calm) (cd_allOf (f := fun bs => bs.all id)) (g.gl hg) (g.bl _ (by decide +kernel)) (by decide +kernel) (by decide) (by decide) ha h1 h2
  split at h
  · subst x; cases h
    exact se_blt (cr_any g.calm) (cd_allOf (f := fun bs => bs.any id)) (g.gl hg) (g.bl _ (by decide +kernel)) (by decide +kernel) (by decide) (by decide) ha h1 h2
  split at h
  · subst x; cases h
    exact se_bty (CallR.or call_int1 call_int_str) cd_int (g.gl hg) (g.bl _ (by decide +kernel)) (by decide +kernel) (by decide) (by decide) ha h1 h2
  split at h
  · subst x; cases h
    exact se_bty call_str_int cd_str (g.gl hg) (g.bl _ (by decide +kernel)) (by decide +kernel) (by decide) (by decide) ha h1 h2
  split at h
  · subst x; cases h
    exact se_bty call_tuple_of cd_tuple (g.gl hg) (g.bl _ (by decide +kernel)) (by decide +kernel) (by decide) (by decide) ha h1 h2
  split at h
  · subst x; cases h
    exact se_blt (call_repr g.gu (by have := g.room.un; omega)) cd_repr (g.gl hg) (g.bl _ (by decide +kernel)) (by decide +kernel) (by decide) (by decide) ha h1 h2
  · cases h
theorem nblt_ok {x : Str} {f : List D → R (List D)} {e : Expr} {es : List Expr} {p pos : Pos} {ca : CA} (g : Gd k Γ sc W X) (h : nblt x = some f) (hg : isGl sc x = true) (ha : SL X W (e :: es) ca) (h1 : plainArg e = true) (h2 : es.all plainArg = true) : SN X W (.Call (.Name x p) (e :: es) [] pos) (cApp f ca) := by
  unfold nblt at h
  split at h
  · subst x; cases h
    exact sn_bty call_list_of cn_list (g.gl hg) (g.bl _ (by decide +kernel)) (by decide +kernel) (by decide) (by decide) ha h1 h2
  · cases h
end
def bty (x : Str) : Option Ty :=
  if x = "int" then some .int else if x = "bool" then some .bool else if x = "str" then some .str else if x = "tuple" then some .tuple else if x = "list" then some .list else if x = "dict" then some .dict else none
/-- isinstance's class: a built-in, an own one -/
def clsF (Γ : Ctx) (sc : Scope) : Expr → Option (D → Option Bool)
  | .Name x _ => if isGl sc x = true then (match bty x with
    | some t => some (isBt t)
    | none => Γ.isi x) else none
  | _ => none
theorem bty_ok {x : Str} {t : Ty} (h : bty x = some t) : x ∈ blts ∧ bootBuiltins x = some (.type t.s) ∧ x ≠ "__name__" ∧ (x == ("__debug__" : Str)) = false := by
  unfold bty at h
  split at h
  · subst x; cases h; decide +kernel
  split at h
  · subst x; cases h; decide +kernel
  split at h
  · subst x; cases h; decide +kernel
  split at h
  · subst x; cases h; decide +kernel
  split at h
  · subst x; cases h; decide +kernel
  split at h
  · subst x; cases h; decide +kernel
  · cases h
theorem clsF_ok {X : Cx} {W : WX} {k : Nat} {Γ : Ctx} {sc : Scope} (g : Gd k Γ sc W X) {e : Expr} {f : D → Option Bool} (h : clsF Γ sc e = some f) : ∃ v u, PE X e (tC v) ∧ ClsV v u ∧ IsOf X.K u f ∧ plainArg e = true := by
  unfold clsF at h
  split at h
  · split at h
    · rename_i hg
      split at h
      · rename_i t ht
        cases h
        obtain ⟨b1, b2, b3, b4⟩ := bty_ok ht
        exact ⟨.ty t.s, .type t.s, pe_bltn (g.gl hg) (g.bl _ b1) b2 rfl b3 b4, .ty _, isOf_bt t, rfl⟩
      · obtain ⟨db, v, u, hm, rv, cv, io⟩ := g.cl _ _ h
        rcases hm with hm | ⟨h1, h2, h3⟩
        · exact ⟨v, u, pe_glob (g.gl hg) hm rv db, cv, io, rfl⟩
        · exact ⟨v, u, pe_bltn (g.gl hg) h1 h2 rv h3 db, cv, io, rfl⟩
    · cases h
  · cases h
/-! calls -/
def eCall (Γ : Ctx) (sc : Scope) (q : Cp) (x : Str) (args : List Expr) : C :=
  if (isGl sc x && args.all plainArg) = true then (match args with
    | [] => cNo
    | [a, c] => if x = "isinstance" then (match clsF Γ sc c with
        | some f => cUn (dIsi f) (q.e a)
        | none => cNo)
      else (match vblt x with
        | some f => cApp f (cArgs q.e [a, c])
        | none => (match Γ.F x 2 with
          | some sem => cCall 2 sem (cArgs q.e [a, c])
          | none => cNo))
    | es => (match vblt x with
      | some f => cApp f (cArgs q.e es)
      | none => (match nblt x with
        | some f => cL (cApp f (cArgs q.e es))
        | none => (match Γ.F x es.length with
          | some sem => cCall es.length sem (cArgs q.e es)
          | none => cNo))))
  else cNo
def nCall (Γ : Ctx) (sc : Scope) (q : Cp) (x : Str) (args : List Expr) : CA :=
  if (isGl sc x && args.all plainArg) = true then (match args with
    | [] => cNoA
    | es => (match nblt x with
      | some f => cApp f (cArgs q.e es)
      | none => (match Γ.F x es.length with
        | some sem => cCallN es.length sem (cArgs q.e es)
        | none => cNoA)))
  else cNoA
section
variable {X : Cx} {W : WX} {q : Cp} {k : Nat} {Γ : Ctx} {sc : Scope} (g : Gd k Γ sc W X) (o : Ok X W q)
include g o
theorem eCall_ok {x : Str} {args : List Expr} {p pos : Pos} : SE X W (.Call (.Name x p) args [] pos) (eCall Γ sc q x args) := by
  unfold eCall
  split
  · rename_i c
    have c' := Bool.and_eq_true_iff.mp c
    have hg := c'.1
    split
    · exact se_none
    · rename_i a b
      have h1 := Bool.and_eq_true_iff.mp (show (plainArg a && [b].all plainArg) = true from c'.2)
      have sl := sl_args o.e c'.2
      split
      · rename_i ex
        split
        · rename_i f hf
          obtain ⟨v, u, pc, cv, io, pl⟩ := clsF_ok g hf
          subst ex
          exact se_isi (g.gl hg) (g.bl _ (by decide +kernel)) pc pl cv io (o.e a) h1.1
        · exact se_none
      · split
        · rename_i f hf
          exact vblt_ok g hf hg sl h1.1 h1.2
        · split
          · rename_i sem hs
            exact se_call (g.fns _ _ _ hs) ⟨g.room, g.gu⟩ (g.gl hg) g.tk sl h1.1 h1.2
          · exact se_none
    · cases args with
      | nil => exact absurd rfl (by assumption)
      | cons a es =>
        have h1 := Bool.and_eq_true_iff.mp (show (plainArg a && es.all plainArg) = true from c'.2)
        have sl := sl_args o.e c'.2
        split
        · rename_i f hf
          exact vblt_ok g hf hg sl h1.1 h1.2
        · split
          · rename_i f hf
            exact se_of_sn (nblt_ok g hf hg sl h1.1 h1.2)
          · split
            · rename_i sem hs
              exact se_call (g.fns _ _ _ hs) ⟨g.room, g.gu⟩ (g.gl hg) g.tk sl h1.1 h1.2
            · exact se_none
  · exact se_none
theorem nCall_ok {x : Str} {args : List Expr} {p pos : Pos} : SN X W (.Call (.Name x p) args [] pos) (nCall Γ sc q x args) := by
  unfold nCall
  split
  · rename_i c
    have c' := Bool.and_eq_true_iff.mp c
    have hg := c'.1
    cases args with
    | nil => exact sn_none
    | cons a es =>
      have h1 := Bool.and_eq_true_iff.mp (show (plainArg a && es.all plainArg) = true from c'.2)
      have sl := sl_args o.e c'.2
      dsimp only
      split
      · rename_i f hf
        exact nblt_ok g hf hg sl h1.1 h1.2
      · split
        · rename_i sem hs
          exact sn_call (g.fns _ _ _ hs) ⟨g.room, g.gu⟩ (g.gl hg) g.tk sl h1.1 h1.2
        · exact sn_none
  · exact sn_none
end
end Dw
namespace Dw
open PySem L2 PyProof.Rows
/-! ### comprehensions in a context -/
def cTrue : CB := fun _ => .ok true
def ownOf (Γ : Ctx) : Expr → Option (List (Str × Nat))
  | .Name x _ => (match findIx Γ.N x with
    | some i => some [(x, i)]
    | none => none)
  | .Tuple es _ _ => es.foldr (fun e r => match e, r with
    | .Name x _, some l => (match findIx Γ.N x with
      | some i => some ((x, i) :: l)
      | none => none)
    | _, _ => none) (some [])
  | _ => none
def subset (a b : List Nat) : Bool := a.all fun i => b.contains i
def lcTest (q : Cp) : List Expr → Option CB
  | [] => some cTrue
  | [c] => some (q.t c)
  | _ => none
def foldOk : Expr → Bool
  | .Set _ _ _ => false
  | _ => true
theorem fold_of {e : Expr} {env : Env} (h : foldOk e = true) : ∀ x, foldedSetIterable e env x = pure x := by
  intro x
  cases e <;> first | rfl | cases h
/-- q: the block's compiler; p: that of the context around -/
def nLc (Γ : Ctx) (sc : Scope) (p q : Cp) (elt tg iter : Expr) (ifs : List Expr) (scope : Scope) : CA := match ownOf Γ tg, lcTest q ifs with
  | some own, some ct => if (blkC Γ.N sc scope own && (subset (q.g tg).2 (own.map (·.2)) && foldOk iter)) = true then cLc (p.i tg iter) (q.g tg).1 ct (q.e elt) (own.map (·.2)) else cNoA
  | _, _ => cNoA
theorem lookup_re {env : Env} {x : Str} {kd : NameKind} : ∀ {names : List (Str × NameKind)}, names.lookup x = some kd →
    ∃ kd', (names.map fun (n, k) => if (k == NameKind.free && env.scope.kind == .function && env.kindOf n == some .cell) then (n, NameKind.cell) else (n, k)).lookup x = some kd' ∧ (kd' = kd ∨ (kd = .free ∧ kd' = .cell))
  | [], h => by cases h
  | (n, k) :: r, h => by
    rw [List.map_cons, List.lookup_cons] at *
    cases e : x == n with
    | true =>
      rw [e] at h
      have hk : k = kd := Option.some.inj h
      subst hk
      by_cases c : (k == NameKind.free && env.scope.kind == .function && env.kindOf n == some .cell) = true
      · refine ⟨.cell, ?_, .inr ⟨?_, rfl⟩⟩
        · simp [c, e]
        · have z := (Bool.and_eq_true_iff.mp (Bool.and_eq_true_iff.mp c).1).1
          exact eq_of_beq z
      · refine ⟨k, ?_, .inl rfl⟩
        simp [c, e]
    | false =>
      rw [e] at h
      obtain ⟨kd', h1, h2⟩ := lookup_re (env := env) (names := r) h
      refine ⟨kd', ?_, h2⟩
      by_cases c : (k == NameKind.free && env.scope.kind == .function && env.kindOf n == some .cell) = true
      · rw [if_pos c, e]
        exact h1
      · rw [if_neg c, e]
        exact h1
section
variable {X : Cx} {W : WX} {p q : Cp} {k : Nat} {Γ : Ctx} {sc : Scope}
theorem Gd.blk (g : Gd k Γ sc W X) {scope : Scope} {own : List (Str × Nat)} (ok : BlkOk Γ.N sc scope own) (s : Shared) (H : Hp) (cl : List (Str × Addr)) (C : Addr) (fp : List Addr) : Gd k Γ scope W0 (X.blk s H scope (compEnvC scope cl C X.env) fp) where
  N := g.N
  nd := g.nd
  hsc := fun x kd h => lookup_re h
  kind := ok.kind
  room := g.room
  gu := g.gu
  calm := g.calm
  tk := takes0
  po := PassesOwn.never
  fnc := fun x h => by
    show (scope.names.lookup x == some .cell) = true
    rw [h]
    rfl
  fns := g.fns
  bl := g.bl
  cn := g.cn
  cl := g.cl
  rz := g.rz
  xm := g.xm
theorem nLc_ok (g : Gd k Γ sc W X) (op : Ok X W p) (oq : ∀ X', Gd k Γ scope W0 X' → Ok X' W0 q) {elt tg iter : Expr} {ifs : List Expr} :
    ∃ t, (∀ pos, PE X (.ListComp elt [⟨tg, iter, ifs, 0⟩] scope pos) t) ∧ (∀ (i : Nat) (y : Str) (py pos spos : Pos), X.N[i]? = some y → (X.fn y = true ∨ X.env.scope.names.lookup y = some .local) → L2.Loc X.env.scope y →
      PS X (.Assign [.Name y py] (.ListComp elt [⟨tg, iter, ifs, 0⟩] scope pos) spos) (tAsg t (gName i))) ∧ Ev X.K W (SW X.K) t (nLc Γ sc p q elt tg iter ifs scope) := by
  unfold nLc
  split
  · rename_i own ct e1 e2
    split
    · rename_i c
      have c' := Bool.and_eq_true_iff.mp c
      have c2 := Bool.and_eq_true_iff.mp c'.2
      have ok' : BlkOk Γ.N sc scope own := blkOk_by c'.1
      have ok : BlkOk X.N X.env.scope scope own := g.blkOk ok'
      have bo : ∀ (s : Shared) (H : Hp) (C : Addr) (cl : List (Str × Addr)) (fp : List Addr), Ok (X.blk s H scope (compEnvC scope cl C X.env) fp) W0 q := fun s H C cl fp => oq _ (g.blk ok' s H cl C fp)
      obtain ⟨wi, pi, vi⟩ := op.i tg iter
      have hg : ∀ (s : Shared) (H : Hp) (C : Addr) (cl : List (Str × Addr)) (fp : List Addr), PG (X.blk s H scope (compEnvC scope cl C X.env) fp) tg (tgOf X.K (q.g tg).1 (q.g tg).2) := fun s H C cl fp => ((bo s H C cl fp).g tg).pg
      have he : ∀ (s : Shared) (H : Hp) (C : Addr) (cl : List (Str × Addr)) (fp : List Addr), PE (X.blk s H scope (compEnvC scope cl C X.env) fp) elt (tOf X.K W0 (SV X.K) (q.e elt)) := fun s H C cl fp => ((bo s H C cl fp).e elt).pe
      have ht : ∀ (s : Shared) (H : Hp) (C : Addr) (cl : List (Str × Addr)) (fp : List Addr), PTs (X.blk s H scope (compEnvC scope cl C X.env) fp) ifs (tOf X.K W0 SB ct) := fun s H C cl fp => by
        unfold lcTest at e2
        split at e2
        · cases e2
          refine ⟨fun pins s2 σ H2 Q I z => pts_nil.run pins s2 σ H2 Q I ?_⟩
          obtain ⟨G0, G, δ, H0, r, pq⟩ := z
          exact Post.here (show Post X.K W0 σ H0 H2 SB (.ok true) Q from pq) r.same rfl
        · cases e2
          exact pts_one ((bo s H C cl fp).t _).pt
        · cases e2
      have hf := fold_of (env := X.env) c2.2
      refine ⟨_, fun pos => pe_lc g.calm g.nd pi ok hg ht he hf, fun i y py pos spos hi hfn hl => ?_, ev_lc vi fun i hi => ?_⟩
      · have sw : swapsWith (.ListComp elt [⟨tg, iter, ifs, 0⟩] scope pos) (some (.Name y py)) spos.line X.env = pure (X.env.blockKind == .function && X.env.kindOf y == some .local && py.line == pos.line && !(scope.names.any fun (n, k) => n == y && (k == .local || k == .cell))) := rfl
        cases eb : (X.env.blockKind == .function && X.env.kindOf y == some .local && py.line == pos.line && !(scope.names.any fun (n, k) => n == y && (k == .local || k == .cell))) with
        | false =>
          rw [eb] at sw
          exact ps_set g.nd hi hl (pe_lc g.calm g.nd pi ok hg ht he hf) sw hfn
        | true =>
          rw [eb] at sw
          have yl : X.env.scope.names.lookup y = some .local := by
            have z1 := (Bool.and_eq_true_iff.mp (Bool.and_eq_true_iff.mp (Bool.and_eq_true_iff.mp eb).1).1).2
            have z2 : (X.env.scope.names.lookup y == some .local) = true := z1
            cases ez : X.env.scope.names.lookup y with
            | none => rw [ez] at z2; cases z2
            | some kd =>
              rw [ez] at z2
              cases kd <;> first | rfl | cases z2
          exact ps_setLc g.calm g.nd hi yl sw pi ok hg ht he hf
      · have z := List.all_eq_true.mp (show ((q.g tg).2.all fun i => (own.map (·.2)).contains i) = true from c2.1) i hi
        exact List.contains_iff_mem.mp z
    · refine ⟨fun _ _ _ => False, fun pos => pe_never, fun i y py pos spos _ _ _ => ⟨fun _ _ _ _ _ _ z => z.elim⟩, fun _ _ _ _ _ _ _ _ z => z⟩
  · refine ⟨fun _ _ _ => False, fun pos => pe_never, fun i y py pos spos _ _ _ => ⟨fun _ _ _ _ _ _ z => z.elim⟩, fun _ _ _ _ _ _ _ _ z => z⟩
end
/-! ### one step of the compiler -/
def gStep (Γ : Ctx) (sc : Scope) (q : Cp) : Expr → CT × List Nat
  | .Name x _ => (match slotL Γ sc x with
    | some i => (tName i, [i])
    | none => (tNo, []))
  | .Tuple es _ _ => if es.all plainArg = true then
      (tTupT es.length (es.foldr (fun e r => tCons' (q.g e).1 r) tNil'), es.foldr (fun e r => (q.g e).2 ++ r) [])
    else (tNo, [])
  | _ => (tNo, [])
theorem gs_ok {X : Cx} {q : Cp} (h : ∀ tg, SG X tg (q.g tg).1 (q.g tg).2) : ∀ {es : List Expr}, es.all plainArg = true → ∃ g, PGs X es g ∧ EvGs X.K g (es.foldr (fun e r => tCons' (q.g e).1 r) tNil') (es.foldr (fun e r => (q.g e).2 ++ r) [])
  | [], _ => ⟨_, pgs_nil, evgs_nil⟩
  | e :: es, hp => by
    have h' := Bool.and_eq_true_iff.mp (show (plainArg e && es.all plainArg) = true from hp)
    exact pgs_consP h'.1 (h e) (gs_ok h h'.2)
def iStep (Γ : Ctx) (sc : Scope) (q : Cp) (tg : Expr) : Expr → CA
  | .Call (.Name x p) args [] pos => if (isGl sc x && args.all plainArg) = true then (
      if x = "range" then (match args with
        | [a] => cApp dRng1 (cArgs q.e [a])
        | [a, b] => cApp dRng2 (cArgs q.e [a, b])
        | [a, b, c] => cApp dRng3 (cArgs q.e [a, b, c])
        | _ => cNoA)
      else if x = "enumerate" then (match args, tg with
        | [a], .Tuple _ _ _ => cApp dEnum (cArgs q.e [a])
        | _, _ => cNoA)
      else if x = "zip" then (match args, tg with
        | [a, b], .Tuple _ _ _ => cApp dZip (cArgs q.e [a, b])
        | _, _ => cNoA)
      else cUn dItems (q.e (.Call (.Name x p) args [] pos)))
    else cNoA
  | e => cUn dItems (q.e e)
def isMul : Operator → Bool
  | .Mult => true
  | _ => false
def isList : Expr → Bool
  | .List _ _ => true
  | _ => false
def pPart (q : Cp) : Option Expr → CO
  | none => cNoP
  | some e => cUn dPt (q.e e)
theorem sp_part {X : Cx} {W : WX} {q : Cp} (o : Ok X W q) : ∀ e, SP X W e (pPart q e)
  | none => sp_none
  | some e => sp_some (o.e e)
def nStep (Γ : Ctx) (sc : Scope) (p : Scope → Cp) : Expr → CA
  | .List es _ => if es.all plainArg = true then cApp dLst (cArgs (p sc).e es) else cNoA
  | .ListComp elt [⟨tg, iter, ifs, 0⟩] scope _ => nLc Γ sc (p sc) (p scope) elt tg iter ifs scope
  | .BinOp a op b _ => (match op with
    | .Add => cBin dAddN ((p sc).e a) ((p sc).e b)
    | .Mult => cRep ((p sc).n a) ((p sc).e b)
    | _ => cNoA)
  | .Subscript a (.Slice lo hi none _) _ => cSlG dSlN ((p sc).e a) (pPart (p sc) lo) (pPart (p sc) hi)
  | .Subscript a (.Slice none none (some (.UnaryOp .USub (.Constant (.int 1) _ _) _)) _) _ => cUn dRevN ((p sc).e a)
  | .IfExp t a b _ => cIf (evT ((p sc).t t)) ((p sc).n a) ((p sc).n b)
  | .Call (.Name x _) args [] _ => nCall Γ sc (p sc) x args
  | _ => cNoA
def eStep (Γ : Ctx) (sc : Scope) (p : Scope → Cp) : Expr → C
  | .Name x _ => (match slot Γ sc x with
    | some i => cVar i
    | none => (match Γ.Gc x with
      | some d => if isGl sc x = true then cC d else cNo
      | none => cNo))
  | .Constant c _ _ => (match c with
    | .int i => cC (.int i)
    | .bool b => cC (.bl b)
    | .none => cC .non
    | .str x => cC (.str x)
    | _ => cNo)
  | .BinOp a op b pos => if (isMul op && isList a) = true then cL (nStep Γ sc p (.BinOp a op b pos)) else (match binD op with
    | some f => cBin f ((p sc).e a) ((p sc).e b)
    | none => cNo)
  | .UnaryOp op a _ => (match op with
    | .USub => cUn dNeg ((p sc).e a)
    | .Not => cUn dNotV ((p sc).e a)
    | _ => cNo)
  | .Compare a [op] [b] _ => (match cmpD op with
    | some f => if behindInMarks op b = false then cBin f ((p sc).e a) ((p sc).e b) else cNo
    | none => cNo)
  | .Compare a [op, op'] [b, c] _ => (match cmpD op, cmpD op' with
    | some f, some g => if lastMarks [op, op'] [b, c] = false then cChain f g ((p sc).e a) ((p sc).e b) ((p sc).e c) else cNo
    | _, _ => cNo)
  | .BoolOp op vs _ => (match op with
    | .And => cAndV (vs.map (p sc).e)
    | .Or => cOrV (vs.map (p sc).e))
  | .IfExp t a b _ => cIf (evT ((p sc).t t)) ((p sc).e a) ((p sc).e b)
  | .Tuple es _ _ => if es.all plainArg = true then cApp dTup (cArgs (p sc).e es) else cNo
  | .List es pos => cL (nStep Γ sc p (.List es pos))
  | .ListComp elt gs scope pos => cL (nStep Γ sc p (.ListComp elt gs scope pos))
  | .Dict [] [] _ => cDct0
  | .Subscript a k pos => if notSlice k = true then (match a with
      | .Name x _ => (match slot Γ sc x with
        | some i => cIxV i ((p sc).e k)
        | none => cBin dIx ((p sc).e a) ((p sc).e k))
      | _ => cBin dIx ((p sc).e a) ((p sc).e k))
    else (match k with
      | .Slice lo hi none _ => cSlG dSlA ((p sc).e a) (pPart (p sc) lo) (pPart (p sc) hi)
      | .Slice lo hi (some st) p2 => cL (nStep Γ sc p (.Subscript a (.Slice lo hi (some st) p2) pos))
      | _ => cNo)
  | .Call (.Name x _) args [] _ => eCall Γ sc (p sc) x args
  | .Call (.Attribute o name apos) [a] [] cpos => if (okBase o && (plainArg a && (apos.endLine == cpos.line))) = true then (match meth1 name with
    | some f => cM1 f.1 f.2 ((p sc).e o) ((p sc).e a)
    | none => cNo) else cNo
  | _ => cNo
def tStep (Γ : Ctx) (sc : Scope) (p : Scope → Cp) : Expr → CB
  | .UnaryOp op a pos => (match op with
    | .Not => cNotB ((p sc).t a)
    | op => if plainTest (.UnaryOp op a pos) = true then cUn dTru (eStep Γ sc p (.UnaryOp op a pos)) else cNoB)
  | .BoolOp op vs _ => (match op with
    | .And => cAndB (vs.map (p sc).t)
    | .Or => cOrB (vs.map (p sc).t))
  | .Compare a [op] [b] _ => (match cmpD op with
    | some f => if behindInMarks op b = false then cBin (fun d e => (f d e).bind asB) ((p sc).e a) ((p sc).e b) else cNoB
    | none => cNoB)
  | .Compare a [op, op'] [b, c] _ => (match cmpD op, cmpD op' with
    | some f, some g => if lastMarks [op, op'] [b, c] = false then cUn asB (cChain f g ((p sc).e a) ((p sc).e b) ((p sc).e c)) else cNoB
    | _, _ => cNoB)
  | e => if plainTest e = true then cUn dTru (eStep Γ sc p e) else cNoB
def step (Γ : Ctx) (p : Scope → Cp) (sc : Scope) : Cp := ⟨eStep Γ sc p, nStep Γ sc p, tStep Γ sc p, iStep Γ sc (p sc), gStep Γ sc (p sc)⟩
def comp (Γ : Ctx) : Nat → Scope → Cp
  | 0 => fun _ => ⟨fun _ => cNo, fun _ => cNoA, fun _ => cNoB, fun _ _ => cNoA, fun _ => (tNo, [])⟩
  | n + 1 => step Γ (comp Γ n)
end Dw
namespace Dw
open PySem L2 PyProof.Rows
section
variable {X : Cx} {W : WX} {k : Nat} {Γ : Ctx} {sc : Scope} {p : Scope → Cp}
theorem ev_ifG {K : PySem.W.Frag} {α : Type} {S : Sat α V} (hS : Down S) {tt : TT} {ta tb : TE} {ct : CB} {ca cb : List Sl → R α} (h : Ev K W SB tt ct) (ha : Ev K W S ta ca) (hb : Ev K W S tb cb) : Ev K W S (tIf tt ta tb) (cIf ct ca cb) :=
  Ev.bind (Sa := SB) (f := fun k δ => if k = true then ca δ else cb δ) hS h fun a b G0 G δ σ Hs H0 H Q rl e p => by
    have e : b = a := e
    subst e
    cases b with
    | true => exact ha G0 G δ σ H0 H Q rl p
    | false => exact hb G0 G δ σ H0 H Q rl p
theorem ev_borT {K : PySem.W.Frag} {tt : TT} {c : CB} (h : Ev K W SB tt c) : Ev K W SB tt (evT c) := by
  intro G0 G δ σ H0 H Q r p
  have p' : Post K W σ H0 H SB (c (bor δ)) Q := p
  obtain ⟨J0, e0, rb, hl⟩ := r.bor
  refine h G0 G (bor δ) σ J0 H Q rb ?_
  cases e : c (bor δ) with
  | ok b =>
    rw [e] at p'
    intro A B v s q
    obtain ⟨H1, s1, _, _⟩ := back r.same e0 hl s
    exact p' H1 B v s1 q
  | ex C =>
    rw [e] at p'
    intro A B s
    obtain ⟨H1, s1, _, _⟩ := back r.same e0 hl s
    exact p' H1 B s1
  | no => rw [e] at p'; exact p'
theorem nStep_ok (hp : ∀ sc' W' X', Gd k Γ sc' W' X' → Ok X' W' (p sc')) (g : Gd k Γ sc W X) (e : Expr) : SN X W e (nStep Γ sc p e) := by
  have o := hp sc W X g
  unfold nStep
  split
  · split
    · rename_i h
      obtain ⟨t, q, v⟩ := sl_args o.e h
      exact ⟨_, pe_lst q, ev_lst v⟩
    · exact sn_none
  · obtain ⟨t, q, _, v⟩ := nLc_ok g o (fun X' g' => hp _ W0 X' g')
    exact ⟨t, q _, v⟩
  · split
    · exact sn_op op_addAll opd_addN (o.e _) (o.e _)
    · obtain ⟨t, q, v⟩ := o.n _
      obtain ⟨u, q2, v2⟩ := o.e _
      exact ⟨_, pe_op op_rep q q2, ev_rep v v2⟩
    · exact sn_none
  · exact sn_sl (o.e _) (sp_part o _) (sp_part o _)
  · exact sn_rev (o.e _)
  · obtain ⟨tt, pt, vt⟩ := o.t _
    obtain ⟨t, q, v⟩ := o.n _
    obtain ⟨u, q2, v2⟩ := o.n _
    exact ⟨_, pe_ifExp pt q q2, ev_ifG downW (ev_borT vt) v v2⟩
  · exact nCall_ok g o
  · exact sn_none
theorem eStep_ok (hp : ∀ sc' W' X', Gd k Γ sc' W' X' → Ok X' W' (p sc')) (g : Gd k Γ sc W X) (e : Expr) : SE X W e (eStep Γ sc p e) := by
  have o := hp sc W X g
  have nn := fun e => se_of_sn (nStep_ok hp g e)
  unfold eStep
  split
  · split
    · rename_i i hs
      obtain ⟨h1, h2, h3, h4⟩ := g.slot hs
      exact ⟨_, pe_var h1 h2 h3 h4, ev_var⟩
    · split
      · rename_i d hd
        split
        · rename_i hg
          obtain ⟨db, v, u, hm, rv, dv⟩ := g.cn _ _ hd
          exact ⟨_, pe_glob (g.gl hg) hm rv db, ev_c dv⟩
        · exact se_none
      · exact se_none
  · split
    · exact ⟨_, pe_int, ev_c fun _ => .int _⟩
    · exact ⟨_, pe_bl, ev_c fun _ => .bl _⟩
    · exact ⟨_, pe_non, ev_c fun _ => .non⟩
    · exact ⟨_, pe_str, ev_c fun _ => .str _⟩
    · exact se_none
  · split
    · exact nn _
    · split
      · rename_i f hf
        obtain ⟨r, h1, h2⟩ := binD_ok (X := X) (W := W) hf
        exact se_op h1 h2 (o.e _) (o.e _)
      · exact se_none
  · split
    · obtain ⟨t, q, v⟩ := o.e _
      exact ⟨_, pe_un un_neg q, ev_unG (r := rU fun i => .int (-i)) downV v und_neg⟩
    · exact se_not (o.e _)
    · exact se_none
  · split
    · rename_i f hf
      split
      · rename_i hm
        obtain ⟨r, h1, h2⟩ := cmpD_ok (X := X) (W := W) g.room.units hf
        exact se_cmp h1 h2 (o.e _) (o.e _) hm
      · exact se_none
    · exact se_none
  · split
    · rename_i f g hf hg
      split
      · rename_i hm
        obtain ⟨r, h1, h2⟩ := cmpD_ok (X := X) (W := W) ‹Gd _ _ _ _ _›.room.units hf
        obtain ⟨r', h3, h4⟩ := cmpD_ok (X := X) (W := W) ‹Gd _ _ _ _ _›.room.units hg
        exact se_chain h1 h2 h3 h4 (o.e _) (o.e _) (o.e _) hm
      · exact se_none
    · exact se_none
  · split
    · exact se_and (all2_map o.e _)
    · exact se_or (all2_map o.e _)
  · obtain ⟨tt, pt, vt⟩ := o.t _
    exact se_if ⟨tt, pt, ev_borT vt⟩ (o.e _) (o.e _)
  · split
    · rename_i h
      obtain ⟨t, q, v⟩ := sl_args o.e h
      exact ⟨_, pe_tup q, ev_tup v⟩
    · exact se_none
  · exact nn _
  · exact nn _
  · exact se_dct0
  · split
    · rename_i hk
      split
      · split
        · rename_i i hs
          obtain ⟨h1, h2, h3, h4⟩ := g.slot hs
          exact se_ixV h1 h2 h3 h4 (o.e _) hk
        · exact se_ix (o.e _) (o.e _) hk
      · exact se_ix (o.e _) (o.e _) hk
    · split
      · exact se_sl (o.e _) (sp_part o _) (sp_part o _)
      · exact nn _
      · exact se_none
  · exact eCall_ok g o
  · split
    · rename_i h
      have h1 := Bool.and_eq_true_iff.mp h
      have h2 := Bool.and_eq_true_iff.mp h1.2
      split
      · rename_i f hf
        exact se_m1 (meth1_ok (ok := f.1) (f := f.2) hf) (o.e _) (o.e _) h1.1 h2.1 h2.2
      · exact se_none
    · exact se_none
  · exact se_none
theorem tStep_ok (hp : ∀ sc' W' X', Gd k Γ sc' W' X' → Ok X' W' (p sc')) (g : Gd k Γ sc W X) (e : Expr) : ST X W e (tStep Γ sc p e) := by
  have o := hp sc W X g
  unfold tStep
  split
  · split
    · exact st_not (o.t _)
    · split
      · rename_i h
        exact st_tru (eStep_ok hp g _) h
      · exact st_none
  · split
    · exact st_and (all2_map o.t _)
    · exact st_or (all2_map o.t _)
  · split
    · rename_i f hf
      split
      · rename_i hm
        obtain ⟨r, h1, h2⟩ := cmpD_ok (X := X) (W := W) g.room.units hf
        exact st_cmp h1 h2 (o.e _) (o.e _) hm
      · exact st_none
    · exact st_none
  · split
    · rename_i f g hf hg
      split
      · rename_i hm
        obtain ⟨r, h1, h2⟩ := cmpD_ok (X := X) (W := W) ‹Gd _ _ _ _ _›.room.units hf
        obtain ⟨r', h3, h4⟩ := cmpD_ok (X := X) (W := W) ‹Gd _ _ _ _ _›.room.units hg
        exact st_chain h1 h2 h3 h4 (o.e _) (o.e _) (o.e _) hm
      · exact st_none
    · exact st_none
  · split
    · rename_i h
      exact st_tru (eStep_ok hp g _) h
    · exact st_none
theorem iStep_ok (g : Gd k Γ sc W X) {q : Cp} (o : Ok X W q) (tg e : Expr) : SI X W tg e (iStep Γ sc q tg e) := by
  unfold iStep
  split
  · split
    · rename_i x p args pos c
      have c' := Bool.and_eq_true_iff.mp c
      split
      · rename_i ex
        subst ex
        split
        · rename_i a
          have h1 := Bool.and_eq_true_iff.mp (show (plainArg a && [].all plainArg) = true from c'.2)
          exact si_range1 (g.gl c'.1) (g.bl _ (by decide +kernel)) (sl_args o.e c'.2) h1.1
        · rename_i a b
          have h1 := Bool.and_eq_true_iff.mp (show (plainArg a && [b].all plainArg) = true from c'.2)
          have h2 := Bool.and_eq_true_iff.mp (show (plainArg b && [].all plainArg) = true from h1.2)
          exact si_range2 (g.gl c'.1) (g.bl _ (by decide +kernel)) (sl_args o.e c'.2) h1.1 h2.1
        · rename_i a b e
          have h1 := Bool.and_eq_true_iff.mp (show (plainArg a && [b, e].all plainArg) = true from c'.2)
          exact si_range3 (g.gl c'.1) (g.bl _ (by decide +kernel)) (sl_args o.e c'.2) h1.1 h1.2
        · exact si_none
      · split
        · rename_i ex
          subst ex
          split
          · rename_i a _ _ _
            have h1 := Bool.and_eq_true_iff.mp (show (plainArg a && [].all plainArg) = true from c'.2)
            exact si_enum (g.gl c'.1) (g.bl _ (by decide +kernel)) (sl_args o.e c'.2) h1.1
          · exact si_none
        · split
          · rename_i ex
            subst ex
            split
            · rename_i a b _ _ _
              have h1 := Bool.and_eq_true_iff.mp (show (plainArg a && [b].all plainArg) = true from c'.2)
              have h2 := Bool.and_eq_true_iff.mp (show (plainArg b && [].all plainArg) = true from h1.2)
              exact si_zip (g.gl c'.1) (g.bl _ (by decide +kernel)) (sl_args o.e c'.2) h1.1 h2.1
            · exact si_none
          · exact si_seq (o.e _)
    · exact si_none
  · exact si_seq (o.e _)
theorem gStep_ok (g : Gd k Γ sc W X) {q : Cp} (o : Ok X W q) (tg : Expr) : SG X tg (gStep Γ sc q tg).1 (gStep Γ sc q tg).2 := by
  unfold gStep
  split
  · split
    · rename_i i hs
      obtain ⟨h1, h2, h3⟩ := g.slotL hs
      exact sg_name g.nd h1 h2 h3
    · exact sg_none
  · split
    · rename_i h
      exact sg_tup g.calm h (gs_ok o.g h)
    · exact sg_none
  · exact sg_none
theorem comp_ok : ∀ (n : Nat) (sc : Scope) (W : WX) (X : Cx), Gd k Γ sc W X → Ok X W (comp Γ n sc)
  | 0, _, _, _, _ => ⟨fun _ => se_none, fun _ => sn_none, fun _ => st_none, fun _ _ => si_none, fun _ => sg_none⟩
  | n + 1, sc, W, X, g => ⟨eStep_ok (comp_ok n) g, nStep_ok (comp_ok n) g, tStep_ok (comp_ok n) g, iStep_ok g (comp_ok n sc W X g), gStep_ok g (comp_ok n sc W X g)⟩
end
end Dw
namespace Dw
open PySem L2 PyProof.Rows
/-! ### try: body / except x as n: y = n : the exception is kept, and known to be one of its class -/
def tsOf (K : PySem.W.Frag) (W : WX) (c : CS) : TS := fun E σ H => ∃ G0 G δ H0, Rel K G0 G δ σ H0 H ∧ PostS K W G0 G H0 E (c δ)
theorem SSs.pss {X : Cx} {W : WX} {sts : List Stmt} {c : CS} (h : SSs X W sts c) : PSs X sts (tsOf X.K W c) := by
  obtain ⟨t, p, v⟩ := h
  refine ⟨fun pins s σ H E I q => p.run pins s σ H E I ?_⟩
  obtain ⟨G0, G, δ, H0, r, po⟩ := q
  exact v G0 G δ σ H0 H E r po
/-- what is wished of an exception in the body -/
def wKeep (K : PySem.W.Frag) (c : Value) (i j : Nat) (Wo : WX) (En : Ends) : WX := fun cls d σ H => ∃ (C : Addr) (b : Bool), cls = .ref C ∧ d = none ∧ PySem.W.exmOne K (.ref C) c = some b ∧
  (b = true → ∀ a, H a = none → En.nx (((σ.set i (some (V.ref a))).set j (some (V.ref a))).set i none) (upd H a (ExH C a))) ∧ (b = false → Wo cls d σ H)
section
variable {X : Cx} {pins : List (Addr × Obj)} {σ : L2.St} {H : Hp} {s : Shared}
/-- behind the suite the exception's object is no longer pinned: it is tracked -/
theorem inv_keepExc {a C : Addr} {oe : Obj} {vs : Array Value} (I : Inv X ((a, oe) :: pins) σ H s) (hz : Zc (.ref C) none oe) (hf : oe.data = .fields vs) (h0 : X.s_0.heap.get? a = none) (hp : ∀ q ∈ X.pn ++ pins, q.1 ≠ a) : Inv X pins σ (upd H a (ExH C a)) s := by
  obtain ⟨ga, na, nl, nf, nc⟩ := I.pin (a, oe) (List.mem_append_right _ List.mem_cons_self)
  have ne : ∀ {b : Addr} {o : HO}, H b = some o → b ≠ a := fun e => ne_of_none e na
  refine ⟨I.ok, I.os, I.bare, ⟨I.base.keep, I.base.slot, fun b o q n hx => ?_, I.base.there, fun b xs q => ?_, fun b o u q => ?_, fun b ps q => ?_⟩, I.loc, I.cell, ?_, fun x c e => ?_, fun q hq => ?_, fun b u e => ?_, I.len⟩
  · have nb : b ≠ a := fun z => by
      rw [z, h0] at q
      cases q
    rw [upd_ne nb]
    exact I.base.free b o q n hx
  · have z := I.base.tups b xs q
    rw [upd_ne (ne z)]
    exact z
  · have z := I.base.frzs b o u q
    rw [upd_ne (ne z)]
    exact z
  · obtain ⟨m, z⟩ := I.base.tbls b ps q
    exact ⟨m, by rw [upd_ne (ne z)]; exact z⟩
  · have nl' : X.env.locals ≠ a := fun z => nl z.symm
    rw [upd_ne nl']
    exact I.free
  · have nc' : c ≠ a := fun z => by
      obtain ⟨v, o, ho, hd⟩ := I.cell x c e
      rw [z, ga] at ho
      cases ho
      exact nc v hd
    rw [upd_ne nc']
    exact I.freeC x c e
  · have hq' : q ∈ X.pn ++ (a, oe) :: pins := by
      rcases List.mem_append.mp hq with z | z
      · exact List.mem_append_left _ z
      · exact List.mem_append_right _ (List.mem_cons_of_mem _ z)
    obtain ⟨b1, b2, b3, b4, b5⟩ := I.pin q hq'
    exact ⟨b1, by rw [upd_ne (hp q hq)]; exact b2, b3, b4, b5⟩
  · by_cases eb : b = a
    · subst eb
      rw [upd_same] at e
      cases e
      exact ⟨⟨oe, vs, ga, hz, hf⟩, ⟨oe, ga⟩, fun g1 g2 ⟨o1, v1, q1, q2, q3⟩ st => ⟨o1, v1, st o1 q1, q2, q3⟩⟩
    · rw [upd_ne eb] at e
      exact (I.hok b u e).stay (fun _ _ _ z => z) (fun c z => by rw [upd_ne (ne z)]; exact z) fun c xs z => by rw [upd_ne (ne z)]; exact z
theorem inv_pinned {a : Addr} {oe : Obj} {pn' : List (Addr × Obj)} (I : Inv (X.suite a ((a, oe) :: (X.pn ++ pins))) pn' σ H s) (ok : X.Ok) : Inv X ((a, oe) :: pins) σ H s :=
  ⟨ok, I.os, I.bare, I.base, I.loc, I.cell, I.free, I.freeC, fun q hq => I.pin q (List.mem_append_left _ (by
    rcases List.mem_append.mp hq with z | z
    · exact List.mem_cons_of_mem _ (List.mem_append_left _ z)
    · rcases List.mem_cons.mp z with z | z
      · rw [z]; exact List.mem_cons_self
      · exact List.mem_cons_of_mem _ (List.mem_append_right _ z))), I.hok, I.len⟩
end
section
variable {X : Cx} {x n y : Str} {c : Value} {i j : Nat} {bd : List Stmt} {np pos pos' py pn2 pa : Pos} {tb : WX → TS} {Wo : WX}
theorem ps_try_keep (hst : X.stack = X.env :: X.outer) (hfl : X.env.frame = some X.env.locals) (hex : X.ex = []) (hN : X.N.Nodup) (hi : X.N[i]? = some n) (hj : X.N[j]? = some y) (hln : X.env.kindOf n = some .local) (hly : X.env.kindOf y = some .local)
    (hd1 : (n == ("__debug__" : Str)) = false) (hd2 : (n == ("__classdict__" : Str)) = false) (hc : Names X x c) (tk : Takes X Wo)
    (hb : ∀ (W : WX) (pn : List (Addr × Obj)) (xe : Value → Shared → Prop), Takes (X.tr pn xe) W → PassesOwn (model X.prog X.w) X.A X.env xe → PSs (X.tr pn xe) bd (tb W)) :
    PS X (.Try bd [.ExceptHandler (some (.Name x np)) (some n) [.Assign [.Name y py] (.Name n pn2) pa] pos'] [] [] pos) (fun En σ H => tb (wKeep X.K c i j Wo En) En σ H) := by
  refine ⟨fun pins s σ H En I h => ?_⟩
  have okX := I.ok
  have frm : X.A.frames = some (X.env :: X.outer) := okX.frames.trans (congrArg some hst)
  have locn : L2.Loc X.env.scope n := .inl hln
  have caught : Takes (X.tr (X.pn ++ pins) fun e s₁ => wpAny (model X.prog X.w) X.A (noteFrame e X.env) (fun _ s₂ => wpAny (model X.prog X.w) X.A (setFlight e none) (fun _ s₃ =>
      wpAny (model X.prog X.w) X.A (handleBy e X.env [.ExceptHandler (some (.Name x np)) (some n) [.Assign [.Name y py] (.Name n pn2) pa] pos']) (L2.SP X pins En) X.xe s₃) X.xe s₂) X.xe s₁) (wKeep X.K c i j Wo En) := by
    intro u s' xx
    obtain ⟨a, B, sI, pins', σ', H', cls, d, rfl, J', nb, up, sky, na, os, ag, C, b, rfl, rfl, hb1, hyes, hno⟩ := xx
    have J : Inv X pins σ' H' sI := J'.ofTry okX
    have sky2 : Sky B (X.env :: X.outer) a (Zc (.ref C) none) X.env.locals s'.heap := hst ▸ sky
    show wpAny (model X.prog X.w) X.A (noteFrame (.ref a) X.env) _ _ _
    refine Sky.land Zc.steady frm hfl sky2 fun h3 fl3 up3 => ?_
    have J3 : Inv X pins σ' H' { s' with heap := h3 } := J.landed nb fl3.1 (up.trans up3) os ag
    obtain ⟨oe3, vs3, he3, hz3, hd3⟩ := fl3.there
    have nfr : a ∉ frs (X.env :: X.outer) := fun hm => by
      obtain ⟨_, o', e', hnf⟩ := fl3.2.2.1.mem hm
      rw [he3] at e'
      cases e'
      exact hnf _ hd3
    have nL : a ≠ X.env.locals := fun z => nfr (List.mem_filterMap.mpr ⟨X.env, List.mem_cons_self, by rw [hfl, z]⟩)
    have nF : a ∉ X.fs := fun hm => by
      obtain ⟨e, he, q⟩ := List.mem_filterMap.mp hm
      exact nfr (List.mem_filterMap.mpr ⟨e, List.mem_cons_of_mem _ he, q⟩)
    have nB : B.get? a = none := fl3.2.1
    have stk : ∀ b, b ∈ frs X.stack → b ∈ frs (X.env :: X.outer) := fun b hb => by rw [hst] at hb; exact hb
    have a0 : X.s_0.heap.get? a = none := by
      cases e : X.s_0.heap.get? a with
      | none => rfl
      | some o =>
        obtain ⟨o', e1⟩ := J.base.there a o e (by rw [hex]; exact fun z => nomatch z)
        have e2 := nb a o' e1 fun hm => nfr (stk a hm)
        rw [nB] at e2
        cases e2
    have pa' : ∀ q ∈ X.pn ++ pins, q.1 ≠ a := fun q hq z => by
      obtain ⟨b1, _, b3, b4, _⟩ := J.pin q hq
      have e2 := nb q.1 q.2 b1 fun hm => by
        have hm2 : q.1 ∈ frs (X.env :: X.outer) := stk _ hm
        unfold frs at hm2
        rw [List.filterMap_cons, hfl] at hm2
        rcases List.mem_cons.mp hm2 with w | w
        · exact b3 w
        · exact b4 w
      rw [z, nB] at e2
      cases e2
    have S3 := J3.suite he3 hd3 na nL nF
    refine wpAny_handleBy_cons (codeAny_handlers_test ?_) (by intro q; cases q)
    have LT : PySem.W.Looks (model X.prog X.w) h3 (typeOf (.ref a)) (.ref C) := fun A Q E s kp q => wpAny_typeOf_ref (kp _ _ he3) (by rw [hz3.1]; exact q)
    have LM := PySem.W.exm_one (M := model X.prog X.w) J3.kIn LT hb1
    have test : ∀ {Q : Value → Shared → Prop} {E : Value → Shared → Prop}, Q c { s' with heap := h3 } → wpAny (model X.prog X.w) (X.A.mark (some (.ref a))) (eval (.Name x np) X.env) Q E { s' with heap := h3 } := fun {Q E} q => by
      obtain ⟨hg, hdbg, hm | ⟨hm, hv, hnn⟩⟩ := hc
      · exact ld_glob (X := X.suite a ((a, oe3) :: (X.pn ++ pins))) S3 hg hm q hdbg
      · exact ld_blt (X := X.suite a ((a, oe3) :: (X.pn ++ pins))) S3 hg hm hv q hnn hdbg
    refine test (LM.here ?_)
    cases b with
    | true =>
      refine codeAny_handlers_suite_as ?_
      refine HandSPX.lands_againZ fl3 fun h4 fl4 up4 => ?_
      have J4 : Inv X pins σ' H' { s' with heap := h4 } := J.landed nb fl4.1 ((up.trans up3).trans up4) os ag
      obtain ⟨oe4, vs4, he4, hz4, hd4⟩ := fl4.there
      have S4 := J4.suite he4 hd4 na nL nF
      refine store_ok (X := X.suite a ((a, oe4) :: (X.pn ++ pins))) (v := .ref a) S4 hN hi locn rfl (fun s5 S5 => ?_) (.inr hln)
      have ps1 : PSs (X.suite a ((a, oe4) :: (X.pn ++ pins))) [.Assign [.Name y py] (.Name n pn2) pa] (tAsg (tVar i) (gName j)) := pss_one (ps_set hN hj (.inl hly) (pe_var hi (.inl hln) hd1 hd2) rfl (.inr hly))
      have hil : i < (σ'.set i (some (V.ref a))).length := by
        rw [List.length_set, J.len]
        exact (List.getElem?_eq_some_iff.mp hi).1
      refine wpAny_mono (ps1.run [] s5 _ H' { nx := fun σ6 H6 => σ6 = (σ'.set i (some (V.ref a))).set j (some (V.ref a)) ∧ H6 = H', rt := fun _ _ => False, bk := fun _ _ => False, ct := fun _ _ => False } S5 ⟨_, by rw [List.length_set] at hil; exact List.getElem?_set_self hil, rfl, rfl⟩) (fun f s6 hsp => ?_) (fun _ _ z => False.elim z)
      cases f with
      | next =>
        obtain ⟨σ6, H6, S6, rfl, rfl⟩ := hsp
        refine gone_ok (inv_pinned S6 okX) hN hi hln fun s7 J7 => ?_
        exact ⟨_, _, inv_keepExc J7 hz4 hd4 a0 pa', hyes rfl a na⟩
      | brk =>
        obtain ⟨_, _, _, z⟩ := hsp
        exact z.elim
      | cont =>
        obtain ⟨_, _, _, z⟩ := hsp
        exact z.elim
      | ret u =>
        obtain ⟨_, _, _, _, _, z⟩ := hsp
        exact z.elim
    | false =>
      show wpAny _ X.A (handleBy (.ref a) X.env []) _ _ _
      refine wpAny_handleBy_nil ?_
      obtain ⟨k1, k2, k3, oe, vs, T, oT, ts', he, hz, hd, h1, hr⟩ := id fl3
      unfold PySem.passOn
      refine wpAny_bind (wpAny_field he hd h1 ?_)
      rw [if_neg (show ¬ ((Value.ref T == Value.none) = true) from by simp)]
      have fin : wpAny (model X.prog X.w) X.A (setFlight (.ref a) X.env.frame) (fun _ s4 => wpAny (model X.prog X.w) X.A (throw (.ref a) : Sem Flow) (L2.SP X pins En) X.xe s4) X.xe { s' with heap := h3 } := by
        rw [hfl]
        refine HandSPX.setFlight_upZ fl3 fun h4 hh4 up4 => wpAny_throw (tk _ _ ?_)
        exact ⟨a, B, sI, pins, σ', H', .ref C, none, rfl, J, nb, (up.trans up3).trans up4, .inr (.inr (by rw [hst]; exact hh4)), na, os, ag, hno rfl⟩
      first
        | exact wpAny_bind (wpAny_pure (wpAny_bind fin))
        | exact wpAny_bind fin
  refine wpAny_Try_except (wpAny_mono ((hb _ (X.pn ++ pins) _ caught PassesOwn.looking).run [] s σ H En (I.toTry _) h) (fun f s1 q => ?_) fun _ _ z => z)
  cases f with
  | next =>
    obtain ⟨σ2, H2, J2, w2⟩ := q
    exact wpAny_execs_nil ⟨σ2, H2, J2.ofTry okX, w2⟩
  | brk =>
    obtain ⟨σ2, H2, J2, w2⟩ := q
    exact ⟨σ2, H2, J2.ofTry okX, w2⟩
  | cont =>
    obtain ⟨σ2, H2, J2, w2⟩ := q
    exact ⟨σ2, H2, J2.ofTry okX, w2⟩
  | ret u =>
    obtain ⟨v2, σ2, H2, J2, r2, w2⟩ := q
    exact ⟨v2, σ2, H2, J2.ofTry okX, r2, w2⟩
end
/-! the closures -/
def fTry (m : Str → Option Bool) (k : Str → List Sl → Fl) : Fl → Fl
  | .ex C δ => (match m C with
    | some true => k C δ
    | some false => .ex C δ
    | none => .no)
  | r => r
def cTryK (m : Str → Option Bool) (i j : Nat) (cb : CS) : CS := fun δ => fTry m (fun C δ1 => .nx (((δ1.set i (.pu (.exc C))).set j (.pu (.exc C))).set i .un)) (cb δ)
def cTryN (m : Str → Option Bool) (j : Nat) (cb : CS) : CS := fun δ => fTry m (fun _ δ1 => .nx (δ1.set j (.pu .non))) (cb δ)
section
variable {X : Cx} {W : WX} {x n y : Str} {c : Value} {i j : Nat} {bd : List Stmt} {np pos pos' py pn2 pa : Pos} {m : Str → Option Bool} {cb : CS}
theorem ss_tryK (hst : X.stack = X.env :: X.outer) (hfl : X.env.frame = some X.env.locals) (hex : X.ex = []) (hN : X.N.Nodup) (hi : X.N[i]? = some n) (hj : X.N[j]? = some y) (hln : X.env.kindOf n = some .local) (hly : X.env.kindOf y = some .local)
    (hd1 : (n == ("__debug__" : Str)) = false) (hd2 : (n == ("__classdict__" : Str)) = false) (hc : Names X x c) (tk : Takes X W) (hm : ∀ C b, m C = some b → PySem.W.exmOne X.K (.ref (He.ga X.K C)) c = some b)
    (hb : ∀ (W : WX) (pn : List (Addr × Obj)) (xe : Value → Shared → Prop), Takes (X.tr pn xe) W → PassesOwn (model X.prog X.w) X.A X.env xe → SSs (X.tr pn xe) W bd cb) :
    SS X W (.Try bd [.ExceptHandler (some (.Name x np)) (some n) [.Assign [.Name y py] (.Name n pn2) pa] pos'] [] [] pos) (cTryK m i j cb) := by
  refine ⟨_, ps_try_keep (tb := fun W => tsOf X.K W cb) hst hfl hex hN hi hj hln hly hd1 hd2 hc tk fun W' pn xe t p => (hb W' pn xe t p).pss, fun G0 G δ σ H0 H E r po => ⟨G0, G, δ, H0, r, ?_⟩⟩
  have po' : PostS X.K W G0 G H0 E (fTry m (fun C δ1 => .nx (((δ1.set i (.pu (.exc C))).set j (.pu (.exc C))).set i .un)) (cb δ)) := po
  cases e : cb δ with
  | nx d => rw [e] at po'; exact po'
  | rt d => rw [e] at po'; exact po'
  | rtl d => rw [e] at po'; exact po'
  | bk d => rw [e] at po'; exact po'
  | ct d => rw [e] at po'; exact po'
  | no => rw [e] at po'; exact po'
  | ex C δ1 =>
    rw [e] at po'
    have po2 : PostS X.K W G0 G H0 E (match m C with
      | some true => .nx (((δ1.set i (.pu (.exc C))).set j (.pu (.exc C))).set i .un)
      | some false => .ex C δ1
      | none => .no) := po'
    intro σ' A B s r'
    cases em : m C with
    | none => rw [em] at po2; exact po2.elim
    | some b =>
      rw [em] at po2
      refine ⟨He.ga X.K C, b, rfl, rfl, hm C b em, fun eb a na => ?_, fun eb => ?_⟩
      · subst eb
        have st : Stp A B (upd A a (ExH (He.ga X.K C) a)) (upd B a (ExH (He.ga X.K C) a)) := Stp.new r'.same na
        have dx : Dr X.K (upd A a (ExH (He.ga X.K C) a)) (.ref a) (.exc C) := .exc upd_same
        exact po2 _ _ _ (s.trans st.e0) ((((r'.step st).setP dx).setP dx).setU)
      · subst eb
        exact po2 σ' A B s r'
theorem ss_tryN (hst : X.stack = X.env :: X.outer) (hfl : X.env.frame = some X.env.locals) (hN : X.N.Nodup) (hj : X.N[j]? = some y) (hly : L2.Loc X.env.scope y) (hfy : X.fn y = true ∨ X.env.scope.names.lookup y = some .local) (hc : Names X x c) (tk : Takes X W) (hm : ∀ C b, m C = some b → PySem.W.exmOne X.K (.ref (He.ga X.K C)) c = some b)
    (hb : ∀ (W : WX) (pn : List (Addr × Obj)) (xe : Value → Shared → Prop), Takes (X.tr pn xe) W → PassesOwn (model X.prog X.w) X.A X.env xe → SSs (X.tr pn xe) W bd cb) {kk : Nat} :
    SS X W (.Try bd [.ExceptHandler (some (.Name x np)) none [.Assign [.Name y py] (.Constant .none kk pn2) pa] pos'] [] [] pos) (cTryN m j cb) := by
  refine ⟨_, ps_try_only (tb := fun W => tsOf X.K W cb) (ts := fun _ _ _ => tAsg (tC .non) (gName j)) hst hfl hc tk (fun W' pn xe t p => (hb W' pn xe t p).pss) (fun a oe cls d pn _ _ => pss_one (ps_set hN hj hly pe_non rfl hfy)), fun G0 G δ σ H0 H E r po => ⟨G0, G, δ, H0, r, ?_⟩⟩
  have po' : PostS X.K W G0 G H0 E (fTry m (fun _ δ1 => .nx (δ1.set j (.pu .non))) (cb δ)) := po
  cases e : cb δ with
  | nx d => rw [e] at po'; exact po'
  | rt d => rw [e] at po'; exact po'
  | rtl d => rw [e] at po'; exact po'
  | bk d => rw [e] at po'; exact po'
  | ct d => rw [e] at po'; exact po'
  | no => rw [e] at po'; exact po'
  | ex C δ1 =>
    rw [e] at po'
    have po2 : PostS X.K W G0 G H0 E (match m C with
      | some true => .nx (δ1.set j (.pu .non))
      | some false => .ex C δ1
      | none => .no) := po'
    intro σ' A B s r'
    cases em : m C with
    | none => rw [em] at po2; exact po2.elim
    | some b =>
      rw [em] at po2
      refine ⟨b, hm C b em, fun eb a na => ?_, fun eb => ?_⟩
      · subst eb
        exact po2 _ A B s (r'.setP .non)
      · subst eb
        exact po2 σ' A B s r'
end
end Dw
namespace Dw
open PySem L2 PyProof.Rows
/-! ### several names at once -/
theorem sw_none1 {ts : List Expr} {kt : Nat} {pt : Pos} {e : Expr} {env : Env} (h : ∀ vs k p, e ≠ .Tuple vs k p) : swappedStores [.Tuple ts kt pt] e env = pure none := by
  cases e <;> first | rfl | exact absurd rfl (h _ _ _)
def lcName (sc : Scope) : Expr → Bool
  | .Name x _ => isLc sc x
  | _ => false
def isTup : Expr → Bool
  | .Tuple _ _ _ => true
  | _ => false
theorem fm_le {f : Expr → Option Str} : ∀ (ts : List Expr), (ts.filterMap f).length ≤ ts.length := fun ts => List.length_filterMap_le f ts
theorem fm_lt {f : Expr → Option Str} : ∀ {ts : List Expr}, (∃ t ∈ ts, f t = none) → (ts.filterMap f).length < ts.length
  | [], h => by
    obtain ⟨t, ht, _⟩ := h
    cases ht
  | t :: ts, h => by
    cases e : f t with
    | none =>
      rw [List.filterMap_cons_none e, List.length_cons]
      exact Nat.lt_succ_of_le (fm_le ts)
    | some y =>
      rw [List.filterMap_cons_some e, List.length_cons, List.length_cons]
      refine Nat.succ_lt_succ (fm_lt ?_)
      obtain ⟨u, hu, eu⟩ := h
      rcases List.mem_cons.mp hu with z | z
      · rw [z, e] at eu; cases eu
      · exact ⟨u, z, eu⟩
theorem sw_none2 {ts vs : List Expr} {kt k2 : Nat} {pt p2 : Pos} {env : Env} (h : ∃ t ∈ ts, ∀ x p, t = .Name x p → ¬ env.kindOf x = some .local) : swappedStores [.Tuple ts kt pt] (.Tuple vs k2 p2) env = pure none := by
  unfold swappedStores
  simp only []
  split
  · rfl
  split
  · rfl
  split
  · rfl
  · rename_i h3
    exfalso
    apply h3
    have hlt : ∀ f : Expr → Option Str, (∀ t x p, t = Expr.Name x p → ¬ env.kindOf x = some .local → f t = none) → (∀ t, (∀ x p, t ≠ Expr.Name x p) → f t = none) → (ts.filterMap f).length < ts.length := fun f h1 h2 => by
      obtain ⟨t, ht, hn⟩ := h
      refine fm_lt ⟨t, ht, ?_⟩
      cases t with
      | Name x p => exact h1 _ x p rfl (hn x p rfl)
      | _ => exact h2 _ (fun x p z => nomatch z)
    rw [Bool.or_eq_true]
    refine .inl ?_
    refine bne_iff_ne.mpr (Nat.ne_of_lt (hlt _ ?_ ?_))
    · rintro t x p rfl hk
      simp [hk]
    · intro t ht
      cases t <;> first | rfl | exact absurd rfl (ht _ _)
/-! ### statements -/
def sSs (f : Stmt → CS) : List Stmt → CS
  | [] => cNx
  | [s] => f s
  | s :: ss => cSeq (f s) (sSs f ss)
/-- an expression that makes a list, by its look -/
def listy (Γ : Ctx) : Nat → Expr → Bool
  | 0, _ => false
  | _ + 1, .List _ _ => true
  | _ + 1, .ListComp _ _ _ _ => true
  | n + 1, .BinOp a .Add _ _ => listy Γ n a
  | n + 1, .BinOp a .Mult _ _ => listy Γ n a
  | n + 1, .IfExp _ a b _ => listy Γ n a && listy Γ n b
  | _ + 1, .Call (.Name x _) _ _ _ => Γ.L.contains x || decide (x = "list")
  | _ + 1, _ => false
def sAsg (Γ : Ctx) (sc : Scope) (p : Scope → Cp) (x : Str) : Expr → CS
  | .ListComp elt [⟨tg, iter, ifs, 0⟩] scope _ => (match slotL Γ sc x with
    | some i => if Γ.M.contains x = true then cAsgN i (nLc Γ sc (p sc) (p scope) elt tg iter ifs scope) else cAsg i (cL (nLc Γ sc (p sc) (p scope) elt tg iter ifs scope))
    | none => cNoS)
  | .List es lp => (match slotL Γ sc x with
    | some i => if Γ.O.contains x = true then (if es.all plainArg = true then cAsgOO i (es.map (p sc).n) else cNoS) else if Γ.M.contains x = true then cAsgN i ((p sc).n (.List es lp)) else cAsg i ((p sc).e (.List es lp))
    | none => cNoS)
  | e => (match slotL Γ sc x with
    | some i => if isComp e = true then cNoS else if Γ.M.contains x = true then (if listy Γ 6 e = true then cAsgN i ((p sc).n e) else cOrS (cAsgN i ((p sc).n e)) (cAsg i ((p sc).e e))) else cAsg i ((p sc).e e)
    | none => cNoS)
def sTup (Γ : Ctx) (sc : Scope) (p : Scope → Cp) (ts : List Expr) (kt : Nat) (pt : Pos) (e : Expr) : CS :=
  if isComp e = true then cNoS else
  if isTup e = false then cAsgT ((p sc).g (.Tuple ts kt pt)).1 ((p sc).e e) else
  if (ts.any fun t => !lcName sc t) = true then cAsgT ((p sc).g (.Tuple ts kt pt)).1 ((p sc).e e) else
  match ts, e with
  | [.Name x px, .Name y py], .Tuple [a, b] _ _ => (match slotL Γ sc x, slotL Γ sc y with
    | some i, some j => if (plainArg a && plainArg b && (py.line == px.line) && !(decide (x = y)) && !(decide (i = j)) && !([a, b].all (foldedForSure 8)) && !([a, b].all (constantsAlone 8))) = true then cPar2 i j (cArgs (p sc).e [a, b]) else cNoS
    | _, _ => cNoS)
  | _, _ => cNoS
def sExp (Γ : Ctx) (sc : Scope) (q : Cp) : Expr → CS
  | .Call (.Attribute (.Name x pp) m ap) args [] cp => (match slot Γ sc x with
    | some i => if (ap.endLine == cp.line && args.all plainArg) = true then (
        if m = "append" then (match args with
          | [e] => cAppd i (q.e e)
          | _ => cNoS)
        else if m = "insert" then (match args with
          | [e, f] => cIns i (q.e e) (q.e f)
          | _ => cNoS)
        else cNoS) else cNoS
    | none => cNoS)
  | .Call (.Attribute (.Subscript (.Name x pp) (.Constant (.int k) kk kp) sp) m ap) args [] cp => (match slot Γ sc x with
    | some i => if (ap.endLine == cp.line && (args.all plainArg && decide (0 ≤ k))) = true then (
        if m = "append" then (match args with
          | [e] => cAppOO i k.toNat (q.e e)
          | _ => cNoS)
        else if m = "clear" then (match args with
          | [] => cClrOO i k.toNat
          | _ => cNoS)
        else cNoS) else cNoS
    | none => cNoS)
  | e => if isComp e = true then cNoS else cExp (q.e e)
def isSl : Expr → Bool
  | .Subscript _ k _ => !notSlice k
  | _ => false
def sRet (Γ : Ctx) (sc : Scope) (q : Cp) : Expr → CS
  | .Name x pp => (match slot Γ sc x with
    | some i => cRetO i
    | none => cRetV (q.e (.Name x pp)))
  | e => if listy Γ 6 e = true then cRetN (q.n e) else if isSl e = true then cOrS (cRetN (q.n e)) (cRetV (q.e e)) else cRetV (q.e e)
noncomputable def sStep (Γ : Ctx) (sc : Scope) (p : Scope → Cp) (r : List Stmt → CS) : Stmt → CS
  | .Return none _ => cRetN0
  | .Return (some e) _ => sRet Γ sc (p sc) e
  | .Assign [.Name x _] e _ => sAsg Γ sc p x e
  | .Assign [.Tuple ts kt pt] e _ => sTup Γ sc p ts kt pt e
  | .Assign [.Subscript (.Name x _) k _] e _ => (match slot Γ sc x with
    | some i => if (notSlice k && !isComp e) = true then (if listy Γ 6 e = true then cSetIN i ((p sc).e k) ((p sc).n e) else cSetI i ((p sc).e k) ((p sc).e e)) else cNoS
    | none => cNoS)
  | .AugAssign (.Name x _) op e _ => (match slotL Γ sc x, op with
    | some i, .Add => cAug i (fun a b => a + b) ((p sc).e e)
    | some i, .Sub => cAug i (fun a b => a - b) ((p sc).e e)
    | _, _ => cNoS)
  | .For tg iter body [] _ => if foldOk iter = true then cFor ((p sc).i tg iter) ((p sc).g tg).1 (r body) else cNoS
  | .While t body [] _ => cWh ((p sc).t t) (r body)
  | .If t a b _ => cIfS ((p sc).t t) (r a) (r b)
  | .Raise (some (.Call (.Name x _) [.Constant (.str _) _ _] [] _)) none _ => if (isGl sc x && Γ.exs.contains x) = true then cRz x else cNoS
  | .Try bd [.ExceptHandler (some (.Name x _)) (some n) [.Assign [.Name y _] (.Name n2 _) _] _] [] [] _ => (match Γ.exm x, slotL Γ sc n, slotL Γ sc y with
    | some m, some i, some j => if (isGl sc x && decide (n2 = n) && isLc sc n && isLc sc y && okName n) = true then cTryK m i j (r bd) else cNoS
    | _, _, _ => cNoS)
  | .Try bd [.ExceptHandler (some (.Name x _)) none [.Assign [.Name y _] (.Constant .none _ _) _] _] [] [] _ => (match Γ.exm x, slotL Γ sc y with
    | some m, some j => if isGl sc x = true then cTryN m j (r bd) else cNoS
    | _, _ => cNoS)
  | .Expr e _ => sExp Γ sc (p sc) e
  | .Pass _ => cNx
  | .Break _ => cBk
  | .Continue _ => cCt
  | _ => cNoS
noncomputable def sComp (Γ : Ctx) (sc : Scope) (p : Scope → Cp) : Nat → Stmt → CS
  | 0 => fun _ => cNoS
  | n + 1 => sStep Γ sc p (sSs (sComp Γ sc p n))
section
variable {X : Cx} {W : WX} {k : Nat} {Γ : Ctx} {sc : Scope} {p : Scope → Cp}
theorem sss_ok {f : Stmt → CS} (h : ∀ st, SS X W st (f st)) : ∀ sts, SSs X W sts (sSs f sts)
  | [] => sss_nil
  | [s] => by
    obtain ⟨t, p, v⟩ := h s
    exact ⟨t, pss_one p, v⟩
  | s :: s2 :: ss => sss_cons (h s) (sss_ok h (s2 :: ss))
theorem sAsg_ok (hp : ∀ sc' W' X', Gd k Γ sc' W' X' → Ok X' W' (p sc')) (g : Gd k Γ sc W X) {x : Str} {e : Expr} {px pos : Pos} : SS X W (.Assign [.Name x px] e pos) (sAsg Γ sc p x e) := by
  have o := hp sc W X g
  unfold sAsg
  split
  · split
    · rename_i i hs
      obtain ⟨h1, h2, h3⟩ := g.slotL hs
      obtain ⟨t, _, q, v⟩ := nLc_ok g o (fun X' g' => hp _ W0 X' g')
      split
      · exact ⟨_, q _ _ _ _ _ h1 h3 h2, evs_asgN v⟩
      · exact ⟨_, q _ _ _ _ _ h1 h3 h2, evs_asg (ev_L v)⟩
    · exact ss_none
  · split
    · rename_i i hs
      obtain ⟨h1, h2, h3⟩ := g.slotL hs
      split
      · split
        · rename_i hp
          exact ss_asgOO g.nd h1 h2 h3 o.n hp
        · exact ss_none
      · split
        · obtain ⟨t, q, v⟩ := o.n (.List _ _)
          exact ⟨_, ps_set g.nd h1 h2 q (swaps_of rfl) h3, evs_asgN v⟩
        · obtain ⟨t, q, v⟩ := o.e (.List _ _)
          exact ⟨_, ps_set g.nd h1 h2 q (swaps_of rfl) h3, evs_asg v⟩
    · exact ss_none
  · split
    · rename_i i hs
      obtain ⟨h1, h2, h3⟩ := g.slotL hs
      split
      · exact ss_none
      · rename_i hc
        have hc := Bool.not_eq_true _ ▸ hc
        have a : SS X W (.Assign [.Name x px] e pos) (cAsg i ((p sc).e e)) := by
          obtain ⟨t, q, v⟩ := o.e e
          exact ⟨_, ps_set g.nd h1 h2 q (swaps_of (by simpa using hc)) h3, evs_asg v⟩
        have b : SS X W (.Assign [.Name x px] e pos) (cAsgN i ((p sc).n e)) := by
          obtain ⟨t, q, v⟩ := o.n e
          exact ⟨_, ps_set g.nd h1 h2 q (swaps_of (by simpa using hc)) h3, evs_asgN v⟩
        split
        · split
          · exact b
          · exact ss_or b a
        · exact a
    · exact ss_none
theorem sTup_ok (hp : ∀ sc' W' X', Gd k Γ sc' W' X' → Ok X' W' (p sc')) (g : Gd k Γ sc W X) (hk : X.env.scope.kind = .function) (hN : ∀ x, X.env.scope.names.lookup x = some .local → sc.names.lookup x = some .local) {ts : List Expr} {kt : Nat} {pt pos : Pos} {e : Expr} : SS X W (.Assign [.Tuple ts kt pt] e pos) (sTup Γ sc p ts kt pt e) := by
  have o := hp sc W X g
  unfold sTup
  split
  · exact ss_none
  · rename_i hc
    have hc : isComp e = false := by simpa using hc
    split
    · rename_i ht
      refine ss_asgT (o.g _) (o.e e) hc rfl (sw_none1 fun vs k p z => ?_)
      rw [z] at ht
      cases ht
    · split
      · rename_i ht ha
        cases e with
        | Tuple vs k2 p2 =>
          refine ss_asgT (o.g _) (o.e _) hc rfl (sw_none2 ?_)
          obtain ⟨t, hm, hl⟩ := List.any_eq_true.mp ha
          refine ⟨t, hm, fun x p z hk2 => ?_⟩
          subst z
          have z := hN x hk2
          have z2 : isLc sc x = true := by
            unfold isLc
            rw [z]
          have hl' : (!isLc sc x) = true := hl
          rw [z2] at hl'
          cases hl'
        | _ => exact absurd rfl ht
      · rename_i ha
        have ha : (ts.any fun t => !lcName sc t) = false := by simpa using ha
        split
        · split
          · rename_i i j hi hj
            split
            · rename_i c
              simp only [Bool.and_eq_true, Bool.not_eq_true', decide_eq_false_iff_not] at c
              obtain ⟨⟨⟨⟨⟨⟨c1, c2⟩, c3⟩, c4⟩, c5⟩, c6⟩, c7⟩ := c
              have l1 := List.any_eq_false.mp ha _ List.mem_cons_self
              have l2 := List.any_eq_false.mp ha _ (List.mem_cons_of_mem _ List.mem_cons_self)
              simp only [lcName, Bool.not_eq_true', Bool.not_eq_false] at l1 l2
              have lx := g.lc (isLc_ok l1)
              have ly := g.lc (isLc_ok l2)
              obtain ⟨h1, _, _⟩ := g.slotL hi
              obtain ⟨h2, _, _⟩ := g.slotL hj
              have hb : X.env.blockKind = .function := by
                unfold Env.blockKind
                rw [hk]
                rfl
              exact ss_par2 g.calm g.nd h1 h2 c5 lx ly (sl_args o.e (by simp [c1, c2])) (sw_some hb c1 c2 lx ly c3 c4 c6 c7)
            · exact ss_none
          · exact ss_none
        · exact ss_none
theorem sExp_ok (g : Gd k Γ sc W X) {q : Cp} (o : Ok X W q) {e : Expr} {pos : Pos} : SS X W (.Expr e pos) (sExp Γ sc q e) := by
  unfold sExp
  split
  · split
    · rename_i i hs
      obtain ⟨h1, h2, h3, h4⟩ := g.slot hs
      split
      · rename_i c
        have c' := Bool.and_eq_true_iff.mp c
        split
        · rename_i em
          subst em
          split
          · rename_i e
            have z := Bool.and_eq_true_iff.mp (show (plainArg e && [].all plainArg) = true from c'.2)
            exact ss_append h1 h2 h3 h4 (o.e _) z.1 c'.1
          · exact ss_none
        · split
          · rename_i em
            subst em
            split
            · rename_i e f
              have z := Bool.and_eq_true_iff.mp (show (plainArg e && [f].all plainArg) = true from c'.2)
              have z2 := Bool.and_eq_true_iff.mp (show (plainArg f && [].all plainArg) = true from z.2)
              exact ss_insert h1 h2 h3 h4 (o.e _) (o.e _) z.1 z2.1 c'.1
            · exact ss_none
          · exact ss_none
      · exact ss_none
    · exact ss_none
  · split
    · rename_i i hs
      obtain ⟨h1, h2, h3, h4⟩ := g.slot hs
      split
      · rename_i c
        have c' := Bool.and_eq_true_iff.mp c
        have c2 := Bool.and_eq_true_iff.mp c'.2
        have c3 := of_decide_eq_true c2.2
        split
        · rename_i em
          subst em
          split
          · rename_i e
            have z := Bool.and_eq_true_iff.mp (show (plainArg e && [].all plainArg) = true from c2.1)
            exact ss_appOI c3 h1 h2 h3 h4 (o.e e) z.1 c'.1
          · exact ss_none
        · split
          · rename_i em
            subst em
            split
            · exact ss_clrOI c3 h1 h2 h3 h4 c'.1
            · exact ss_none
          · exact ss_none
      · exact ss_none
    · exact ss_none
  · split
    · exact ss_none
    · rename_i hc
      exact ss_expr (o.e _) (by simpa using hc)
theorem sRet_ok (g : Gd k Γ sc W X) {q : Cp} (o : Ok X W q) {e : Expr} {pos : Pos} : SS X W (.Return (some e) pos) (sRet Γ sc q e) := by
  unfold sRet
  split
  · split
    · rename_i i hs
      obtain ⟨h1, h2, h3, h4⟩ := g.slot hs
      exact ss_retO h1 h2 h3 h4
    · exact ss_retV (o.e _)
  · split
    · exact ss_retN (o.n _)
    · split
      · exact ss_or (ss_retN (o.n _)) (ss_retV (o.e _))
      · exact ss_retV (o.e _)
/-- the context of a def's body (or of a try's within it) -/
structure Df (sc : Scope) (X : Cx) : Prop where
  kind : X.env.scope.kind = .function
  loc : ∀ x, X.env.scope.names.lookup x = some .local → sc.names.lookup x = some .local
  fn : ∀ x, X.fn x = true
  st : X.stack = X.env :: X.outer
  fr : X.env.frame = some X.env.locals
  ex : X.ex = []
theorem Gd.tr (g : Gd k Γ sc W X) {W' : WX} {pn : List (Addr × Obj)} {xe : Value → Shared → Prop} (tk : Takes (X.tr pn xe) W') (po : PassesOwn (model X.prog X.w) X.A X.env xe) : Gd k Γ sc W' (X.tr pn xe) where
  N := g.N
  nd := g.nd
  hsc := g.hsc
  kind := g.kind
  room := g.room
  gu := g.gu
  calm := g.calm
  tk := tk
  po := po
  fnc := g.fnc
  fns := g.fns
  bl := g.bl
  cn := g.cn
  cl := g.cl
  rz := g.rz
  xm := g.xm
theorem Df.tr (d : Df sc X) {pn : List (Addr × Obj)} {xe : Value → Shared → Prop} : Df sc (X.tr pn xe) := ⟨d.kind, d.loc, d.fn, d.st, d.fr, d.ex⟩
theorem sStep_ok (hp : ∀ sc' W' X', Gd k Γ sc' W' X' → Ok X' W' (p sc')) (g : Gd k Γ sc W X) (df : Df sc X) {r : List Stmt → CS} (hr : ∀ W' X', Gd k Γ sc W' X' → Df sc X' → ∀ sts, SSs X' W' sts (r sts)) (st : Stmt) : SS X W st (sStep Γ sc p r st) := by
  have o := hp sc W X g
  unfold sStep
  split
  · exact ss_ret0
  · exact sRet_ok g o
  · exact sAsg_ok hp g
  · exact sTup_ok hp g df.kind df.loc
  · split
    · rename_i i hs
      obtain ⟨h1, h2, h3, h4⟩ := g.slot hs
      split
      · rename_i c
        have c' := Bool.and_eq_true_iff.mp c
        split
        · exact ss_setIN h1 h2 h3 h4 (o.e _) (o.n _) (by simpa using c'.2) c'.1
        · exact ss_setI h1 h2 h3 h4 (o.e _) (o.e _) (by simpa using c'.2) c'.1
      · exact ss_none
    · exact ss_none
  · split
    · rename_i i hs
      obtain ⟨h1, h2, h3⟩ := g.slotL hs
      exact ss_aug g.nd h1 h2 (df.fn _) ip_add (o.e _)
    · rename_i i hs
      obtain ⟨h1, h2, h3⟩ := g.slotL hs
      exact ss_aug g.nd h1 h2 (df.fn _) ip_sub (o.e _)
    · exact ss_none
  · split
    · rename_i h
      exact ss_for g.po g.calm (o.i _ _) (o.g _) (hr W X g df _) (fold_of h)
    · exact ss_none
  · exact ss_while g.po (o.t _) (hr W X g df _)
  · exact ss_if (o.t _) (hr W X g df _) (hr W X g df _)
  · split
    · rename_i c
      have c' := Bool.and_eq_true_iff.mp c
      exact ss_raise g.calm g.tk (g.rz _ (List.contains_iff_mem.mp c'.2)) (g.gl c'.1)
    · exact ss_none
  · split
    · rename_i m i j e1 e2 e3
      split
      · rename_i c
        simp only [Bool.and_eq_true, decide_eq_true_eq] at c
        obtain ⟨⟨⟨⟨c1, c2⟩, c3⟩, c4⟩, c5⟩ := c
        subst c2
        obtain ⟨db, cv, hm, hx⟩ := g.xm _ _ e1
        obtain ⟨h1, _, _⟩ := g.slotL e2
        obtain ⟨h2, _, _⟩ := g.slotL e3
        have on := okName_ok c5
        exact ss_tryK df.st df.fr df.ex g.nd h1 h2 (g.lc (isLc_ok c3)) (g.lc (isLc_ok c4)) on.1 on.2 ⟨g.gl c1, db, .inl hm⟩ g.tk hx fun W' pn xe tk po => hr W' _ (g.tr tk po) df.tr _
      · exact ss_none
    · exact ss_none
  · split
    · rename_i m j e1 e3
      split
      · rename_i c1
        obtain ⟨db, cv, hm, hx⟩ := g.xm _ _ e1
        obtain ⟨h2, h3, h4⟩ := g.slotL e3
        exact ss_tryN df.st df.fr g.nd h2 h3 h4 ⟨g.gl c1, db, .inl hm⟩ g.tk hx fun W' pn xe tk po => hr W' _ (g.tr tk po) df.tr _
      · exact ss_none
    · exact ss_none
  · exact sExp_ok g o
  · exact ss_pass
  · exact ss_break
  · exact ss_cont
  · exact ss_none
theorem sComp_ok (hp : ∀ sc' W' X', Gd k Γ sc' W' X' → Ok X' W' (p sc')) : ∀ (n : Nat) (W : WX) (X : Cx), Gd k Γ sc W X → Df sc X → ∀ st : Stmt, SS X W st (sComp Γ sc p n st)
  | 0, _, _, _, _, _ => ss_none
  | n + 1, W, X, g, df, st => sStep_ok hp g df (fun W' X' g' df' => sss_ok (sComp_ok hp n W' X' g' df')) st
end
end Dw
namespace Dw
open PySem L2 PyProof.Rows
/-! ### a def -/
def ini (n : Nat) (ds : List D) : List Sl := ds.map Sl.pu ++ List.replicate (n - ds.length) Sl.un
def outF : Fl → Rs
  | .nx _ => .ok .non
  | .rt d => .ok d
  | .rtl es => .okl es
  | .ex C _ => .ex C
  | _ => .no
def run (n : Nat) (c : CS) (ds : List D) : Rs := outF (c (ini n ds))
/-- what is known of the module -/
structure Kn (P : Program) (w : World) (K : PySem.W.Frag) (mg : Str → Option Value) (base : Heap) (k : Nat) (Γ : Ctx) : Prop where
  fns : ∀ x m sem, Γ.F x m = some sem → FK P w K mg base k x m sem
  bl : ∀ x ∈ blts, mg x = none
  cn : ∀ x d, Γ.Gc x = some d → (x == ("__debug__" : Str)) = false ∧ ∃ v u, mg x = some u ∧ RelV v u ∧ ∀ H, Dr K H v d
  cl : ∀ x f, Γ.isi x = some f → (x == ("__debug__" : Str)) = false ∧ ∃ v u, (mg x = some u ∨ (mg x = none ∧ bootBuiltins x = some u ∧ x ≠ "__name__")) ∧ RelV v u ∧ ClsV v u ∧ IsOf K u f
  rz : ∀ x ∈ Γ.exs, RzK K mg x
  xm : ∀ x m, Γ.exm x = some m → (x == ("__debug__" : Str)) = false ∧ ∃ c, mg x = some c ∧ ∀ C b, m C = some b → PySem.W.exmOne K (.ref (He.ga K C)) c = some b
noncomputable def body (Γ : Ctx) (sc : Scope) (n m : Nat) (sts : List Stmt) : CS := sSs (sComp Γ sc (comp Γ n) m) sts
section
variable {P : Program} {w : World} {K : PySem.W.Frag} {mg : Str → Option Value} {base : Heap}
theorem rel_ini {N : List Str} {H0 H : Hp} {vs : List V} {ds : List D} (e : Same H0 H) (h : DrAll K H0 vs ds) : Rel K H0 H (ini N.length ds) (L2.start N vs) H0 H := by
  have hl := h.length
  refine ⟨Stp.refl e, ?_, fun i d hd => ?_, fun i es hd => ?_, (fun _ => []), ⟨fun i => ?_, fun _ _ _ m => (nomatch m), fun _ _ m => (nomatch m)⟩⟩
  · unfold L2.start ini
    rw [List.length_append, List.length_append, List.length_map, List.length_map, List.length_replicate, List.length_replicate, hl]
  · unfold ini at hd
    by_cases hi : i < ds.length
    · rw [List.getElem?_append_left (by rw [List.length_map]; exact hi), List.getElem?_map] at hd
      cases hx : ds[i]? with
      | none => rw [hx] at hd; cases hd
      | some d' =>
        rw [hx] at hd
        cases hd
        obtain ⟨v, hv, q⟩ := h.get hx
        refine ⟨v, ?_, q⟩
        unfold L2.start
        rw [List.getElem?_append_left (by rw [List.length_map, hl]; exact hi), List.getElem?_map, hv]
        rfl
    · rw [List.getElem?_append_right (by rw [List.length_map]; exact Nat.le_of_not_lt hi), List.getElem?_replicate] at hd
      split at hd <;> cases hd
  · unfold ini at hd
    by_cases hi : i < ds.length
    · rw [List.getElem?_append_left (by rw [List.length_map]; exact hi), List.getElem?_map] at hd
      cases hx : ds[i]? with
      | none => rw [hx] at hd; cases hd
      | some d' => rw [hx] at hd; cases hd
    · rw [List.getElem?_append_right (by rw [List.length_map]; exact Nat.le_of_not_lt hi), List.getElem?_replicate] at hd
      split at hd <;> cases hd
  · have hd : ∀ s, (ini N.length ds)[i]? = some s → s = .un ∨ ∃ d, s = .pu d := fun s hd => by
      unfold ini at hd
      by_cases hi : i < ds.length
      · rw [List.getElem?_append_left (by rw [List.length_map]; exact hi), List.getElem?_map] at hd
        cases hx : ds[i]? with
        | none => rw [hx] at hd; cases hd
        | some d' => rw [hx] at hd; cases hd; exact .inr ⟨_, rfl⟩
      · rw [List.getElem?_append_right (by rw [List.length_map]; exact Nat.le_of_not_lt hi), List.getElem?_replicate] at hd
        split at hd
        · cases hd; exact .inl rfl
        · cases hd
    cases q : (ini N.length ds)[i]? with
    | none => exact rfl
    | some s =>
      rcases hd s q with e | ⟨d, e⟩
      · subst e; exact rfl
      · subst e; exact rfl
theorem gd_of {k : Nat} {Γ : Ctx} {qual : Str} {sc : Scope} {ps : List Str} {f : Addr} {cd : Value} {A : Around} {outer : List Env} {s : Shared} {H : Hp} {E : XK} (kn : Kn P w K mg base k Γ) (S : FnScope Γ.N ps sc) (hr : Room k (A.deeper (envOfC qual sc s.heap.objs.size f cd))) (hgu : A.guards = some []) :
    Gd k Γ sc (fun cls d _ H => E cls d H) (cxOf (L2.CX P w) P w K mg base Γ.N qual sc f cd A outer s H E) where
  N := rfl
  nd := S.nd
  hsc := fun x kd h => ⟨kd, h, .inl rfl⟩
  kind := S.kind
  room := hr
  gu := hgu
  calm := rfl
  tk := takes_of rfl rfl rfl rfl
  po := passes_of rfl
  fnc := fun _ _ => rfl
  fns := kn.fns
  bl := kn.bl
  cn := kn.cn
  cl := kn.cl
  rz := kn.rz
  xm := kn.xm
/-- THE RULE: a def keeps what its closure tells -/
theorem fn_ok {k : Nat} {Γ : Ctx} {x qual : Str} {params : Arguments} {bd : List Stmt} {sc : Scope} {dvs : List V} {kws : List (Str × V)} {f : Addr} {fd : FuncData} {ps : List Str} {n m : Nat} (F : FunD K x qual params bd sc dvs kws f fd) (S : FnScope Γ.N ps sc) (kn : Kn P w K mg base k Γ) :
    FnG P w K mg base (k + 1) f fd ps (spF K ps.length (run Γ.N.length (body Γ sc n m bd))) := by
  refine fnG_of F S (fun vs H Q E h => h.1) fun cdv A outer s H vs Q E hr hgu h => ?_
  obtain ⟨hl, H0, ds, e, dr, an⟩ := h
  have g := gd_of (kn := kn) (S := S) (qual := qual) (f := f) (cd := cdv) (A := A) (outer := outer) (s := s) (H := H) (E := E) hr hgu
  obtain ⟨t, p, v⟩ := sss_ok (sComp_ok (fun sc' W' X' g' => comp_ok n sc' W' X' g') m _ _ g ⟨S.kind, fun _ h => h, fun _ => rfl, rfl, rfl, rfl⟩) bd
  refine ⟨t, p, v H0 H (ini Γ.N.length ds) _ H0 H _ (rel_ini e dr) ?_⟩
  have an' : Ans K H0 H (outF (body Γ sc n m bd (ini Γ.N.length ds))) Q E := an
  show PostS K (fun cls d _ H => E cls d H) H0 H H0 _ (body Γ sc n m bd (ini Γ.N.length ds))
  cases eb : body Γ sc n m bd (ini Γ.N.length ds) with
  | nx δ => rw [eb] at an'; exact fun σ A B s r => an' A B .non r.st .non
  | rt d => rw [eb] at an'; exact fun A B v s st q => an' A B v st q
  | rtl es => rw [eb] at an'; exact fun A B v s st q => an' A B v st q
  | bk δ => rw [eb] at an'; exact an'.elim
  | ct δ => rw [eb] at an'; exact an'.elim
  | ex C δ => rw [eb] at an'; exact fun σ A B s r => an' A B r.st
  | no => rw [eb] at an'; exact an'
/-- .. called with all its arguments -/
theorem fk_of {k : Nat} {Γ : Ctx} {x qual : Str} {params : Arguments} {bd : List Stmt} {sc : Scope} {dvs : List V} {kws : List (Str × V)} {fd : FuncData} {ps : List Str} {n m : Nat} {c : CS} (F : FunD K x qual params bd sc dvs kws (He.ga K x) fd) (S : FnScope Γ.N ps sc) (kn : Kn P w K mg base k Γ)
    (hb : Binds K fd ps []) (hm : mg x = some (.ref (He.ga K x))) (hd : (x == ("__debug__" : Str)) = false) (hc : body Γ sc n m bd = c) : FK P w K mg base (k + 1) x ps.length (run Γ.N.length c) where
  ex := ⟨fd, ps, [], [], [], _, fn_ok F S kn (n := n) (m := m), hb, .nil, fun _ => .nil, rfl, fun as _ => by rw [List.append_nil, hc]⟩
  gl := hm
  kp := F.kp
  db := hd
/-- .. with defaults put in: dd, for the last parameters -/
theorem fk_dfl {k : Nat} {Γ : Ctx} {x qual : Str} {params : Arguments} {bd : List Stmt} {sc : Scope} {dvs : List V} {kws : List (Str × V)} {fd : FuncData} {ps : List Str} {n m j : Nat} {c : CS} {dus : List V} {dd : List D} (F : FunD K x qual params bd sc dvs kws (He.ga K x) fd) (S : FnScope Γ.N ps sc) (kn : Kn P w K mg base k Γ)
    (hb : ∃ ds, Vals dus ds ∧ Binds K fd ps ds) (hdd : ∀ H, DrAll K H dus dd) (hj : j + dd.length = ps.length) (hm : mg x = some (.ref (He.ga K x))) (hd : (x == ("__debug__" : Str)) = false) (hc : body Γ sc n m bd = c) : FK P w K mg base (k + 1) x j (fun as => run Γ.N.length c (as ++ dd)) where
  ex := by
    obtain ⟨ds, rv, b⟩ := hb
    exact ⟨fd, ps, ds, dus, dd, _, fn_ok F S kn (n := n) (m := m), b, rv, hdd, hj, fun as _ => by rw [hc]⟩
  gl := hm
  kp := F.kp
  db := hd
theorem FK.mono {j k : Nat} {x : Str} {m : Nat} {sem : List D → Rs} (F : FK P w K mg base j x m sem) (h : j ≤ k) : FK P w K mg base k x m sem where
  ex := by
    obtain ⟨fd, ps, ds, dvs, dd, sem0, G, r⟩ := F.ex
    exact ⟨fd, ps, ds, dvs, dd, sem0, G.mono h, r⟩
  gl := F.gl
  kp := F.kp
  db := F.db
end
end Dw
namespace Dw
open PySem L2 PyProof.Rows
/-! ### the head: facts by names and one Bool more -/
def hookE (n : Nat) (fa : List He.Fa) (fn : List He.DefD) (ex : PySem.W.Frag → Bool) : PySem.W.Hook where
  α := He.AlD × Bool
  obs := fun s => (He.obsDG n fa fn s.heap.get?, ex (He.frG s.heap.get? (He.asD s.heap.get? n)))
  val := fun _ => (He.valD fn, true)
  says := fun _ h => ∃ K : PySem.W.Frag, K.In h ∧ He.SaysD fa fn K ∧ ex K = true
  of := fun _ _ e => ⟨_, He.frG_in, congrArg Prod.fst e, congrArg Prod.snd e⟩
  keeps := fun _ _ _ ⟨K, hK, c⟩ k => ⟨K, PySem.W.Frag.In.keeps hK k, c⟩
def obsE (n : Nat) (fa : List He.Fa) (fn : List He.DefD) (ex : PySem.W.Frag → Bool) (g : Addr → Option Obj) : He.AlD × Bool := (He.obsDG n fa fn g, ex (He.frG g (He.asD g n)))
theorem obsE_eq {n : Nat} {fa : List He.Fa} {fn : List He.DefD} {ex : PySem.W.Frag → Bool} {g : Addr → Option Obj} {s : Shared} (h : ∀ a, g a = s.heap.get? a) : obsE n fa fn ex g = (hookE n fa fn ex).obs s := by
  have e : g = s.heap.get? := funext h
  rw [e] <;> rfl
/-- the law's own promise -/
def spLaw (K : PySem.W.Frag) : Sp := fun vs H Q _ => ∃ (a : Addr) (ns : List Int), vs = [.ref a] ∧ SqL K H a (ns.map V.int) ∧ ns.length ≤ 63 ∧ ∀ H', Q (.bl true) H'
section
variable {P : Program} {w : World} {K : PySem.W.Frag} {mg : Str → Option Value} {base : Heap}
theorem ints_dr {H : Hp} : ∀ (ns : List Int), DrAll K H (ns.map V.int) (ns.map D.int)
  | [] => .nil
  | n :: ns => .cons (.int n) (ints_dr ns)
/-- the law's def keeps its promise, where its closure answers True -/
theorem law_ok {k : Nat} {Γ : Ctx} {x qual : Str} {params : Arguments} {bd : List Stmt} {sc : Scope} {dvs : List V} {kws : List (Str × V)} {f : Addr} {fd : FuncData} {y : Str} {n m : Nat} {c : CS} (F : FunD K x qual params bd sc dvs kws f fd) (S : FnScope Γ.N [y] sc) (kn : Kn P w K mg base k Γ) (hc : body Γ sc n m bd = c)
    (hl : ∀ ns : List Int, ns.length ≤ 63 → run Γ.N.length c [.kst (ns.map D.int)] = .ok (.bl true)) : FnG P w K mg base (k + 1) f fd [y] (spLaw K) := by
  have ok := fn_ok F S kn (n := n) (m := m)
  have key : ∀ vs H Q E, spLaw K vs H Q E → spF K [y].length (run Γ.N.length (body Γ sc n m bd)) vs H Q E := fun vs H Q E h => by
    obtain ⟨a, ns, rfl, hr, hn, q⟩ := h
    refine ⟨rfl, H, [.kst (ns.map D.int)], Same.refl _, .cons (.kst hr (ints_dr ns)) .nil, ?_⟩
    rw [hc, hl ns hn]
    intro A B v s dv
    cases dv
    exact q B
  exact ⟨fun vs H Q E h => ok.arity vs H Q E (key vs H Q E h), fun A fr s H ar us vs Q E hr e0 b rv h => ok.go A fr s H ar us vs Q E hr e0 b rv (key vs H Q E h)⟩
/-! ### the law's def, called behind the top -/
def trk (a : Addr) (o : Obj) (xs : List V) : Hp := fun b => if b = a then some (.frz o (.lst xs)) else none
theorem trk_some {a b : Addr} {o : Obj} {xs : List V} {u : HO} (h : trk a o xs b = some u) : b = a ∧ u = .frz o (.lst xs) := by
  unfold trk at h
  split at h
  · rename_i e
    exact ⟨e, (Option.some.inj h).symm⟩
  · cases h
theorem law_run {k : Nat} {mb : Str → Option Value} {fa a : Addr} {fd : FuncData} {x : Str} {s₁ : Shared} {vs : List Value} {ns : List Int} (hk : K.In s₁.heap) (hm : s₁.heap.Ns mainGlobals mg) (hb : s₁.heap.Ns builtinsNs mb) (hbb : ∀ x : Str, x ≠ "__name__" → mb x = bootBuiltins x)
    (hlim : s₁.heap.NoLimit) (hg : s₁.gens = #[]) (ha : s₁.heap.get? a = some { cls := .type "list", data := .seq vs.toArray }) (hi : IntsAre vs ns) (hl : ns.length ≤ 63) (hr : Room k callerA)
    (F : ∀ bs : Heap, K.In bs → bs.Ns mainGlobals mg → FnG P w K mg bs k fa fd [x] (spLaw K)) (bnd : ∀ (s : Shared) (u : Value), BindsTo s fd ⟨[u], []⟩ [(x, u)]) :
    codeAny (model P w) callerA (.call (.ref fa) ⟨[.ref a], []⟩) (fun r s' => r = .ok (.ret (.bool true)) ∧ OldK s₁.heap s'.heap ∧ s'.os = s₁.os ∧ AllBare s'.gens) s₁ := by
  have big : ns.length ≤ sizeLine := Nat.le_trans hl (by decide)
  have rel := vals_ints hi
  have main : ∀ H : Hp, (∀ b u, H b = some u → b = a ∧ ∃ o xs, u = .frz o (.lst xs)) → SqL K H a (ns.map V.int) → HOk P w H s₁.heap → (∀ o, K.lookup a = some o → H a = none) →
      codeAny (model P w) callerA (.call (.ref fa) ⟨[.ref a], []⟩) (fun r s' => r = .ok (.ret (.bool true)) ∧ OldK s₁.heap s'.heap ∧ s'.os = s₁.os ∧ AllBare s'.gens) s₁ := by
    intro H only sq ok na
    have free : ∀ b, b ≠ a → H b = none := fun b nb => by
      cases q : H b with
      | none => rfl
      | some u => exact absurd (only b u q).1 nb
    have ns' : ∀ {b : Addr} {m : Str → Option Value}, s₁.heap.Ns b m → (hidT s₁.heap H).Ns b m := by
      rintro b m ⟨o, es, ep, e, d, r⟩
      refine ⟨o, es, ep, hidT_get e (free b ?_), d, r⟩
      rintro rfl
      rw [ha] at e
      cases e
      cases d
    have inB : K.In (hidT s₁.heap H) := fun b o e => hidT_get (hk b o e) (by
      by_cases nb : b = a
      · subst nb; exact na o e
      · exact free b nb)
    have mod : Mod K mg (hidT s₁.heap H) := ⟨inB, ns' hm, ⟨mb, ns' hb, hbb⟩, hlim.imp fun mc h => ⟨ns' h.1, h.2⟩⟩
    have e0 : Env0 P w K mg (hidT s₁.heap H) callerA [] s₁ H := by
      refine ⟨rfl, mod, fun b o e => of_hidT e, Nat.le_of_eq (hidT_size _ _), trivial, ?_, ok, .of_eq hg⟩
      intro b hb
      cases hb
    have c := (F _ inB (ns' hm)).go callerA [] s₁ H ⟨[.ref a], []⟩ [.ref a] [.ref a] (fun v _ => v = .bl true) (fun _ _ _ => False) ⟨hr, rfl⟩ e0 (bnd s₁ _) (.cons rfl .nil) ⟨a, ns, rfl, sq, hl, fun _ => rfl⟩
    refine codeAny_mono c ?_
    rintro (e | fl) s2 z
    · obtain ⟨_, _, _, _, _, _, _, _, _, _, _, _, q⟩ := z
      exact q.elim
    · rcases fl with _ | _ | _ | u
      · exact z.elim
      · exact z.elim
      · exact z.elim
      · obtain ⟨v, J, os, bare, un, ok2, rv, q⟩ := z
        have q : v = .bl true := q
        subst q
        have rv : u = Value.bool true := rv
        subst rv
        refine ⟨rfl, OldK.of_keep fun b o e => ?_, os, bare⟩
        cases q : H b with
        | none =>
          refine un.keep b o e q ?_ (by simp)
          intro hz
          cases hz
        | some v =>
          obtain ⟨-, ob, xs, rfl⟩ := only b v q
          have g1 := (ok b _ q).1
          rw [e] at g1
          cases g1
          exact (ok2 b _ (un.frzs b o _ q)).1
  cases own : K.lookup a with
  | some o =>
    have e := hk a o own
    rw [ha] at e
    cases e
    refine main (fun _ => none) (fun b u z => by cases z) (.inr ⟨_, vs.toArray, _, own, rfl, rfl, rfl, ?_, by simpa using rel⟩) (fun b u z => by cases z) fun _ _ => rfl
    rw [List.size_toArray, hi.length]
    exact big
  | none =>
    have at_a : trk a { cls := .type "list", data := .seq vs.toArray } (ns.map V.int) a = some (.frz { cls := .type "list", data := .seq vs.toArray } (.lst (ns.map V.int))) := if_pos rfl
    refine main (trk a { cls := .type "list", data := .seq vs.toArray } (ns.map V.int)) (fun b u z => ?_) (.inl (.inr ⟨_, at_a⟩)) (fun b u z => ?_) fun o z => ?_
    · obtain ⟨rfl, rfl⟩ := trk_some z
      exact ⟨rfl, _, _, rfl⟩
    · obtain ⟨rfl, rfl⟩ := trk_some z
      exact ⟨ha, by rw [List.length_map]; exact big, vs, _, rel, ha⟩
    · rw [own] at z
      cases z
/-- the end of a row -/
theorem walkG {l : PySem.W.OpenLaw} {k : Nat} {q : Program} {loose : List Str} {XP : (Str → Option Value) → Heap → Prop} {YP : World → Heap → Prop} {d : DefRec} {x : Str} (hn : l.most = some 63) (hdf : d.params.defaults = []) (hr : Room k callerA)
    (F : ∀ (w : World) (mg : Str → Option Value) (fa : Addr) (h : Heap), YP w h → h.Ns mainGlobals mg → mg d.name = some (.ref fa) →
      ∃ (K : PySem.W.Frag) (fd : FuncData), K.In h ∧ (∀ (s : Shared) (u : Value), BindsTo s fd ⟨[u], []⟩ [(x, u)]) ∧ ∀ bs : Heap, K.In bs → bs.Ns mainGlobals mg → FnG l.prog w K mg bs k fa fd [x] (spLaw K)) :
    PySem.W.WalkO q loose XP YP l.row.toRowW d [] (fun f vs => PySem.call f vs) := by
  refine Att.attach_call hn hdf ?_
  intro w s0 s1 mg mb fa o pm cd doc a vs ns G Y ho hd hcd hmg hobj hints hlen hg
  obtain ⟨K, fd, hk, hb, hF⟩ := F w mg fa _ Y G.T.g hmg
  exact law_run hk G.T.g G.T.b G.T.builtins G.T.nolimit hg hobj hints hlen hr hF hb
end
end Dw
namespace Dw
open PySem L2 PyProof.Rows
/-! ### Bools that the head reads -/
def oB (a b : Option Bool) : Bool := match a, b with
  | some x, some y => x == y
  | none, none => true
  | _, _ => false
theorem oB_ok {a b : Option Bool} (h : oB a b = true) : a = b := by
  unfold oB at h
  split at h
  · rw [eq_of_beq h]
  · rfl
  · cases h
/-- an exception class of the program, as isinstance asks it -/
def excCB (K : PySem.W.Frag) (C : Addr) : Bool :=
  He.eqO (PySem.W.findIn K (.ref C) "__getattribute__") (some (some (.builtin "BaseException.__getattribute__"))) && (He.eqO (PySem.W.findIn K (.ref C) "__getattr__") (some none) && (oB (PySem.W.subIn K (.ref C) (.type "BaseException")) (some true) && (PySem.W.hasDictIn K C &&
    (He.eqO (PySem.W.findIn K (.ref C) "__class__") (some (some (.builtin "object.__class__"))) && (He.eqO (PySem.W.specialIn K (.builtin "object.__class__") "__get__") (some (some (.builtin "getset_descriptor.__get__"))) && (oB (PySem.W.takesIn K (.builtin "object.__class__")) (some true) && oB (PySem.W.mroIn K C (.type "object")) (some true)))))))
theorem excCB_ok {K : PySem.W.Frag} {C : Addr} (h : excCB K C = true) : ExcC K C := by
  obtain ⟨h1, h⟩ := He.ba h
  obtain ⟨h2, h⟩ := He.ba h
  obtain ⟨h3, h⟩ := He.ba h
  obtain ⟨h4, h⟩ := He.ba h
  obtain ⟨h5, h⟩ := He.ba h
  obtain ⟨h6, h⟩ := He.ba h
  obtain ⟨h7, h8⟩ := He.ba h
  exact ⟨He.eqO_ok h1, He.eqO_ok h2, oB_ok h3, h4, He.eqO_ok h5, He.eqO_ok h6, oB_ok h7, oB_ok h8⟩
def kitB2 (K : PySem.W.Frag) (C : Addr) (u : Value) (b : Bool) : Bool := oB (PySem.W.kitOne K (.ref C) u) (some b)
def exmB (K : PySem.W.Frag) (C E : Addr) (b : Bool) : Bool := oB (PySem.W.exmOne K (.ref C) (.ref E)) (some b)
/-- the module's constants: texts, ints, tuples, lists of such -/
def relD : D → V → Bool
  | .non, .non => true
  | .bl a, .bl b => a == b
  | .int a, .int b => decide (a = b)
  | .str a, .str b => decide (a = b)
  | _, _ => false
structure Tx0 (fa : List He.Fa) (fn : List He.DefD) (ex : PySem.W.Frag → Bool) (K : PySem.W.Frag) (mg : Str → Option Value) : Prop where
  c : He.SaysD fa fn K
  x : ex K = true
  glo : ∀ y, (He.Fa.glo y).ok K = true → mg y = some (.ref (He.ga K y))
  free : ∀ y, (He.Fa.free y).ok K = true → mg y = none
  int : ∀ y i, (He.Fa.int y i).ok K = true → ∃ t, mg y = some (.int i t)
  str : ∀ y z, (He.Fa.str y z).ok K = true → ∃ t, mg y = some (.str z t)
theorem tx_of {fa : List He.Fa} {fn : List He.DefD} {ex : PySem.W.Frag → Bool} {K : PySem.W.Frag} {h : Heap} {mg : Str → Option Value} (X : K.In h) (G : h.Ns mainGlobals mg) (c : He.SaysD fa fn K) (x : ex K = true) : Tx0 fa fn ex K mg :=
  ⟨c, x, fun _ z => He.glo_ok X G z, fun _ z => He.free_ok X G z, fun _ _ z => He.int_ok X G z, fun _ _ z => He.str_ok X G z⟩
theorem rz_of {K : PySem.W.Frag} {mg : Str → Option Value} {x : Str} (hg : mg x = some (.ref (He.ga K x))) (h : (He.Fa.exc x).ok K = true) (hd : (x == ("__debug__" : Str)) = false) : RzK K mg x := by
  obtain ⟨a, b, c, d⟩ := He.exc_ok h
  exact ⟨hg, a, b, c, d, hd⟩
end Dw
namespace Dw
open PySem L2 PyProof.Rows
/-! ### closures at work: rows for simp -/
section
variable {α β : Type} {δ : List Sl} {d e : D} {ds es : List D} {i j k : Int} {n m a : Nat} {c c1 c2 : C} {ca cb : CA} {ct : CB} {s1 s2 : CS} {X : Str} {x y : Str} {b : Bool}
theorem e_bind_ok {v : α} {f : α → R β} : (R.ok v).bind f = f v := rfl
theorem e_bind_ex {f : α → R β} : (R.ex X : R α).bind f = .ex X := rfl
theorem e_bind_no {f : α → R β} : (R.no : R α).bind f = .no := rfl
theorem e_bind_ite {p : Prop} [Decidable p] {u v : R α} {f : α → R β} : (if p then u else v).bind f = if p then u.bind f else v.bind f := by split <;> rfl
def varOf : Option Sl → R D
  | some (.pu d) => .ok d
  | some (.nt ds) => .ok (.tup ds)
  | _ => .no
theorem e_var : cVar a δ = varOf δ[a]? := by
  unfold cVar varOf
  cases δ[a]? with
  | none => rfl
  | some s => cases s <;> rfl
theorem e_varpu : varOf (some (.pu d)) = .ok d := rfl
theorem e_varnt : varOf (some (.nt ds)) = .ok (.tup ds) := rfl
theorem e_varod {ks : List (List Key)} : varOf (some (.od ks)) = .no := rfl
theorem e_varoo {dss : List (List D)} : varOf (some (.oo dss)) = .no := rfl
theorem e_varow : varOf (some (.ow ds)) = .no := rfl
theorem e_c : cC d δ = .ok d := rfl
theorem e_bin {f : D → D → R α} : cBin f c1 c2 δ = (c1 δ).bind fun x => (c2 δ).bind fun y => f x y := rfl
theorem e_un {f : D → R α} : cUn f c δ = (c δ).bind f := rfl
theorem e_app {f : List D → R α} : cApp f ca δ = (ca δ).bind f := rfl
theorem e_nil : cNil δ = .ok [] := rfl
theorem e_cons : cCons c ca δ = (c δ).bind fun d => (ca δ).bind fun ds => .ok (d :: ds) := rfl
def kCall (m : Nat) (f : List D → Rs) (ds : List D) : R D := if ds.length = m then rsV (f ds) else .no
theorem e_call {f : List D → Rs} : cCall m f ca δ = (ca δ).bind (kCall m f) := rfl
theorem e_kcall1 {f : List D → Rs} : kCall 1 f [d] = rsV (f [d]) := rfl
theorem e_kcall2 {f : List D → Rs} : kCall 2 f [d, e] = rsV (f [d, e]) := rfl
theorem e_kcall3 {f : List D → Rs} {d3 : D} : kCall 3 f [d, e, d3] = rsV (f [d, e, d3]) := rfl
theorem e_kcall4 {f : List D → Rs} {d3 d4 : D} : kCall 4 f [d, e, d3, d4] = rsV (f [d, e, d3, d4]) := rfl
def kCallN (m : Nat) (f : List D → Rs) (ds : List D) : R (List D) := if ds.length = m then rsN (f ds) else .no
theorem e_callN {f : List D → Rs} : cCallN m f ca δ = (ca δ).bind (kCallN m f) := rfl
theorem e_kcallN1 {f : List D → Rs} : kCallN 1 f [d] = rsN (f [d]) := rfl
theorem e_kcallN2 {f : List D → Rs} : kCallN 2 f [d, e] = rsN (f [d, e]) := rfl
theorem e_kcallN3 {f : List D → Rs} {d3 : D} : kCallN 3 f [d, e, d3] = rsN (f [d, e, d3]) := rfl
theorem e_rsV : rsV (.ok d) = .ok d := rfl
theorem e_rsVl : rsV (.okl ds) = .ok (.lst ds) := rfl
theorem e_rsVx : rsV (.ex X) = .ex X := rfl
theorem e_rsN : rsN (.okl ds) = .ok ds := rfl
theorem e_rsNx : rsN (.ex X) = .ex X := rfl
theorem e_if {f g : List Sl → R α} : cIf ct f g δ = (ct δ).bind fun k => if k = true then f δ else g δ := rfl
theorem e_L : cL ca δ = toL (ca δ) := rfl
theorem e_toL : toL (.ok ds) = .ok (.lst ds) := rfl
theorem e_toLx : toL (.ex X) = .ex X := rfl
theorem e_toLn : toL .no = .no := rfl
theorem e_andB1 {u : CB} : cAndB [u] δ = u δ := rfl
theorem e_andB {u v : CB} {r : List CB} : cAndB (u :: v :: r) δ = (u δ).bind fun b => if b = true then cAndB (v :: r) δ else .ok false := rfl
theorem e_orB1 {u : CB} : cOrB [u] δ = u δ := rfl
theorem e_orB {u v : CB} {r : List CB} : cOrB (u :: v :: r) δ = (u δ).bind fun b => if b = true then .ok true else cOrB (v :: r) δ := rfl
theorem e_notB {u : CB} : cNotB u δ = (u δ).bind fun b => .ok (!b) := rfl
def kAndV (cs : List C) (δ : List Sl) : D → R D
  | .bl true => cAndV cs δ
  | .bl false => .ok (.bl false)
  | _ => .no
def kOrV (cs : List C) (δ : List Sl) : D → R D
  | .bl true => .ok (.bl true)
  | .bl false => cOrV cs δ
  | _ => .no
theorem e_andV1 {u : C} : cAndV [u] δ = u δ := rfl
theorem e_andV {u v : C} {r : List C} : cAndV (u :: v :: r) δ = (u δ).bind (kAndV (v :: r) δ) := by
  unfold cAndV kAndV
  cases u δ with
  | ok d => rfl
  | ex C => rfl
  | no => rfl
theorem e_kandV {cs : List C} : kAndV cs δ (.bl b) = if b = true then cAndV cs δ else .ok (.bl false) := by cases b <;> rfl
theorem e_orV1 {u : C} : cOrV [u] δ = u δ := rfl
theorem e_orV {u v : C} {r : List C} : cOrV (u :: v :: r) δ = (u δ).bind (kOrV (v :: r) δ) := by
  unfold cOrV kOrV
  cases u δ with
  | ok d => rfl
  | ex C => rfl
  | no => rfl
theorem e_korV {cs : List C} : kOrV cs δ (.bl b) = if b = true then .ok (.bl true) else cOrV cs δ := by cases b <;> rfl
def kIxV (k : C) (δ : List Sl) : Option Sl → R D
  | some (.pu d) => (k δ).bind fun e => dIx d e
  | some (.ow ds) => (k δ).bind fun e => dIx (.lst ds) e
  | _ => .no
theorem e_ixV : cIxV a c δ = kIxV c δ δ[a]? := by
  unfold cIxV kIxV
  cases δ[a]? with
  | none => rfl
  | some s =>
    cases s with
    | un => rfl
    | oo d => rfl
    | od d => rfl
    | nt d => rfl
    | pu d => rfl
    | ow ds =>
      cases c δ with
      | no => rfl
      | ex C => rfl
      | ok e => cases e <;> rfl
theorem e_kixpu : kIxV c δ (some (.pu d)) = (c δ).bind fun e => dIx d e := rfl
theorem e_kixow : kIxV c δ (some (.ow ds)) = (c δ).bind fun e => dIx (.lst ds) e := rfl
/-! operations -/
theorem e_addII : dAddA (.int i) (.int j) = .ok (.int (i + j)) := rfl
theorem e_addSS : dAddA (.str x) (.str y) = if x.length + y.length ≤ sizeLine then .ok (.str (x ++ y)) else .no := rfl
theorem e_addTT : dAddA (.tup ds) (.tup es) = if ds.length + es.length ≤ sizeLine then .ok (.tup (ds ++ es)) else .no := rfl
theorem e_addLL : dAddA (.lst ds) (.lst es) = if ds.length + es.length ≤ sizeLine then .ok (.lst (ds ++ es)) else .no := by
  show toL (if ds.length + es.length ≤ sizeLine then .ok (ds ++ es) else .no) = _
  split <;> rfl
theorem e_addNLL : dAddN (.lst ds) (.lst es) = if ds.length + es.length ≤ sizeLine then .ok (ds ++ es) else .no := rfl
theorem e_sub : dSub (.int i) (.int j) = .ok (.int (i - j)) := rfl
theorem e_mul : dMul (.int i) (.int j) = if cMul i j then .ok (.int (i * j)) else .no := rfl
theorem e_div : dDiv (.int i) (.int j) = if cDiv i j then .ok (.int (i.fdiv j)) else .no := rfl
theorem e_mod : dMod (.int i) (.int j) = if cMod i j then .ok (.int (i.fmod j)) else .no := rfl
theorem e_pow : dPow (.int i) (.int j) = if cPow i j then .ok (.int (i ^ j.toNat)) else .no := rfl
theorem e_shr : dShr (.int i) (.int j) = if cShr i j then .ok (.int (i / 2 ^ j.toNat)) else .no := rfl
theorem e_and : dAnd (.int i) (.int j) = .ok (.int (Builtin.bitAnd i j)) := rfl
theorem e_neg : dNeg (.int i) = .ok (.int (-i)) := rfl
theorem e_notV : dNotV (.bl b) = .ok (.bl (!b)) := rfl
theorem e_lt : dLt (.int i) (.int j) = .ok (.bl (decide (i < j))) := rfl
theorem e_le : dLe (.int i) (.int j) = .ok (.bl (decide (i ≤ j))) := rfl
theorem e_gt : dGt (.int i) (.int j) = .ok (.bl (decide (j < i))) := rfl
theorem e_ge : dGe (.int i) (.int j) = .ok (.bl (decide (j ≤ i))) := rfl
theorem e_eqII : dEq (.int i) (.int j) = .ok (.bl (decide (i = j))) := by
  show R.ok (D.bl (decide (V.int i = V.int j))) = _
  have e : decide (V.int i = V.int j) = decide (i = j) := decide_eq_decide.mpr (by simp)
  rw [e]
theorem e_neII : dNe (.int i) (.int j) = .ok (.bl (!decide (i = j))) := by
  show R.ok (D.bl (!decide (V.int i = V.int j))) = _
  have e : decide (V.int i = V.int j) = decide (i = j) := decide_eq_decide.mpr (by simp)
  rw [e]
theorem e_eqSS : dEq (.str x) (.str y) = .ok (.bl (decide (x = y))) := by
  show R.ok (D.bl (decide (V.str x = V.str y))) = _
  have e : decide (V.str x = V.str y) = decide (x = y) := decide_eq_decide.mpr (by simp)
  rw [e]
theorem e_neSS : dNe (.str x) (.str y) = .ok (.bl (!decide (x = y))) := by
  show R.ok (D.bl (!decide (V.str x = V.str y))) = _
  have e : decide (V.str x = V.str y) = decide (x = y) := decide_eq_decide.mpr (by simp)
  rw [e]
theorem e_eqBB {u v : Bool} : dEq (.bl u) (.bl v) = .ok (.bl (decide (u = v))) := by
  show R.ok (D.bl (decide (V.bl u = V.bl v))) = _
  have e : decide (V.bl u = V.bl v) = decide (u = v) := decide_eq_decide.mpr (by simp)
  rw [e]
theorem e_neBB {u v : Bool} : dNe (.bl u) (.bl v) = .ok (.bl (!decide (u = v))) := by
  show R.ok (D.bl (!decide (V.bl u = V.bl v))) = _
  have e : decide (V.bl u = V.bl v) = decide (u = v) := decide_eq_decide.mpr (by simp)
  rw [e]
/-- == of data that are no scalars both -/
theorem e_eqG (h : d.sv = none ∨ e.sv = none) (g1 : d.good 20 = true) (g2 : e.good 20 = true) : dEq d e = .ok (.bl (PyData.eqv d.toPy e.toPy)) := by
  unfold dEq dEqB
  rcases h with h | h
  · rw [h]
    simp only []
    rw [if_pos ⟨g1, g2⟩]
    rfl
  · rw [h]
    cases d.sv <;> (simp only []; rw [if_pos ⟨g1, g2⟩]; rfl)
theorem e_neG (h : d.sv = none ∨ e.sv = none) (g1 : d.good 20 = true) (g2 : e.good 20 = true) : dNe d e = .ok (.bl (!PyData.eqv d.toPy e.toPy)) := by
  unfold dNe dEqB
  rcases h with h | h
  · rw [h]
    simp only []
    rw [if_pos ⟨g1, g2⟩]
    rfl
  · rw [h]
    cases d.sv <;> (simp only []; rw [if_pos ⟨g1, g2⟩]; rfl)
theorem e_isN : dIs d .non = .ok (.bl d.isNon) := by cases d <;> rfl
theorem e_isB {u v : Bool} : dIs (.bl u) (.bl v) = .ok (.bl (decide (u = v))) := rfl
theorem e_notN : dNot d .non = .ok (.bl (!d.isNon)) := by cases d <;> rfl
theorem e_notBB {u v : Bool} : dNot (.bl u) (.bl v) = .ok (.bl (!decide (u = v))) := rfl
theorem e_isNon0 : D.isNon .non = true := rfl
theorem e_isNonI : D.isNon (.int i) = false := rfl
theorem e_isNonT : D.isNon (.tup ds) = false := rfl
theorem e_isNonL : D.isNon (.lst ds) = false := rfl
theorem e_isNonX : D.isNon (.exc X) = false := rfl
theorem e_isNonS : D.isNon (.str x) = false := rfl
theorem e_asB : asB (.bl b) = .ok b := rfl
theorem e_truB : dTru (.bl b) = .ok b := rfl
theorem e_ixT : dIx (.tup ds) (.int i) = atD ds i := rfl
theorem e_ixL : dIx (.lst ds) (.int i) = atD ds i := rfl
theorem e_ixK : dIx (.kst ds) (.int i) = atD ds i := rfl
theorem e_at0 : atD (d :: ds) 0 = .ok d := by
  unfold atD ixN
  simp
theorem e_at1 : atD (d :: e :: ds) 1 = .ok e := by
  unfold atD ixN
  have h : (1 : Int) < ((d :: e :: ds).length : Nat) := by simp only [List.length_cons]; omega
  rw [if_pos (by decide), if_pos h]
  rfl
/-- an item at a place known to lie in it -/
theorem atD_nat {ds : List D} {n : Nat} {d : D} (h : ds[n]? = some d) : atD ds (n : Int) = .ok d := by
  have hl := (List.getElem?_eq_some_iff.mp h).1
  unfold atD ixN
  rw [if_pos (by omega), if_pos (by omega)]
  simp [h]
theorem atD_int {ds : List D} {i : Int} {d : D} (h0 : 0 ≤ i) (h : ds[i.toNat]? = some d) : atD ds i = .ok d := by
  have := atD_nat h
  rwa [Int.toNat_of_nonneg h0] at this
theorem atD_last {ds : List D} {d : D} (h : ds.getLast? = some d) : atD ds (-1) = .ok d := by
  have hne : ds ≠ [] := by intro z; subst z; cases h
  have hl : 0 < ds.length := List.length_pos_iff.mpr hne
  unfold atD ixN
  rw [if_neg (by omega), if_pos (by omega)]
  have e : ((-1 : Int) + (ds.length : Int)).toNat = ds.length - 1 := by omega
  rw [e]
  rw [List.getLast?_eq_getElem?] at h
  simp [h]
theorem e_tup (h : ds.length ≤ sizeLine) : dTup ds = .ok (.tup ds) := if_pos h
theorem e_lst (h : ds.length ≤ sizeLine) : dLst ds = .ok ds := if_pos h
theorem sz (h : n ≤ 10000000) : n ≤ sizeLine := Nat.le_trans h (by decide)
theorem szl (h : n < 10000000) : n < sizeLine := Nat.lt_of_lt_of_le h (by decide)
theorem e_lenT : dLen [.tup ds] = .ok (.int ds.length) := rfl
theorem e_lenL : dLen [.lst ds] = .ok (.int ds.length) := rfl
theorem e_lenK : dLen [.kst ds] = .ok (.int ds.length) := rfl
theorem e_abs : dAbs [.int i] = .ok (.int (if i < 0 then -i else i)) := rfl
theorem e_isi {f : D → Option Bool} (h : f d = some b) : dIsi f d = .ok (.bl b) := by
  unfold dIsi
  rw [h]
theorem e_int1 : dInt1 [.int i] = .ok (.int i) := rfl
theorem e_int1b : dInt1 [.bl b] = .ok (.int (if b then 1 else 0)) := rfl
theorem e_max2 : dMax [.int i, .int j] = .ok (.int (if j > i then j else i)) := rfl
theorem e_min2 : dMin [.int i, .int j] = .ok (.int (if j < i then j else i)) := rfl
/-! slots -/
theorem e_bor0 : bor [] = [] := rfl
theorem e_borP : bor (.pu d :: δ) = .pu d :: bor δ := rfl
theorem e_borO : bor (.ow ds :: δ) = .pu (.lst ds) :: bor δ := rfl
theorem e_borT : bor (.nt ds :: δ) = .nt ds :: bor δ := rfl
theorem e_borD {ks : List (List Key)} : bor (.od ks :: δ) = .od ks :: bor δ := rfl
theorem e_borOO {dss : List (List D)} : bor (.oo dss :: δ) = .pu (.lst (dss.map D.lst)) :: bor δ := rfl
theorem e_borU : bor (.un :: δ) = .un :: bor δ := rfl
/-! statements -/
theorem e_seq : cSeq s1 s2 δ = fSeq (s1 δ) s2 := rfl
theorem e_fnx : fSeq (.nx δ) s1 = s1 δ := rfl
theorem e_frt : fSeq (.rt d) s1 = .rt d := rfl
theorem e_frtl : fSeq (.rtl ds) s1 = .rtl ds := rfl
theorem e_fex : fSeq (.ex X δ) s1 = .ex X δ := rfl
theorem e_fct : fSeq (.ct δ) s1 = .ct δ := rfl
theorem e_fbk : fSeq (.bk δ) s1 = .bk δ := rfl
theorem e_fite {p : Prop} [Decidable p] {u v : Fl} : fSeq (if p then u else v) s1 = if p then fSeq u s1 else fSeq v s1 := by split <;> rfl
theorem e_nx : cNx δ = .nx δ := rfl
def kA (c : C) (δ : List Sl) : R D → R (D × List Sl)
  | .ok d => .ok (d, δ)
  | .ex C => .ex C
  | .no => (match c (bor δ) with
    | .ok d => if d.flat = true then .ok (d, δ) else .ok (d, bor δ)
    | .ex C => .ex C
    | .no => .no)
theorem e_evA : evA c δ = kA c δ (c δ) := by
  unfold evA kA
  cases c δ <;> rfl
theorem e_kA : kA c δ (.ok d) = .ok (d, δ) := rfl
theorem e_kAx : kA c δ (.ex X) = .ex X := rfl
def kA2 (δ : List Sl) : R D → R (D × List Sl)
  | .ok d => if d.flat = true then .ok (d, δ) else .ok (d, bor δ)
  | .ex C => .ex C
  | .no => .no
theorem e_kAn : kA c δ .no = kA2 δ (c (bor δ)) := by
  unfold kA kA2
  cases c (bor δ) <;> rfl
theorem e_kA2 : kA2 δ (.ok d) = if d.flat = true then .ok (d, δ) else .ok (d, bor δ) := rfl
theorem e_kA2x : kA2 δ (.ex X) = .ex X := rfl
theorem e_kAite {p : Prop} [Decidable p] {u v : R D} : kA c δ (if p then u else v) = if p then kA c δ u else kA c δ v := by split <;> rfl
def kN (c : CA) (δ : List Sl) : R (List D) → R (List D × List Sl)
  | .ok d => .ok (d, δ)
  | .ex C => .ex C
  | .no => (match c (bor δ) with
    | .ok d => if D.flat.flats d = true then .ok (d, δ) else .ok (d, bor δ)
    | .ex C => .ex C
    | .no => .no)
theorem e_evN : evN ca δ = kN ca δ (ca δ) := by
  unfold evN kN
  cases ca δ <;> rfl
theorem e_evL : evL ca δ = kN ca δ (ca δ) := by
  unfold evL kN
  cases ca δ <;> rfl
theorem e_kN : kN ca δ (.ok ds) = .ok (ds, δ) := rfl
theorem e_kNx : kN ca δ (.ex X) = .ex X := rfl
theorem e_kNite {p : Prop} [Decidable p] {u v : R (List D)} : kN ca δ (if p then u else v) = if p then kN ca δ u else kN ca δ v := by split <;> rfl
def kI (c : CA) (δ : List Sl) : R (List D) → R (List D × List Sl)
  | .ok d => .ok (d, δ)
  | .ex C => .ex C
  | .no => (match c (bor δ) with
    | .ok d => .ok (d, bor δ)
    | .ex C => .ex C
    | .no => .no)
theorem e_evI : evI ca δ = kI ca δ (ca δ) := by
  unfold evI kI
  cases ca δ <;> rfl
theorem e_kI : kI ca δ (.ok ds) = .ok (ds, δ) := rfl
theorem e_evT : evT ct δ = ct (bor δ) := rfl
theorem e_fA {v : α} {δ' : List Sl} {k : α → List Sl → Fl} : fA (.ok (v, δ')) δ k = k v δ' := rfl
theorem e_fAx {k : α → List Sl → Fl} : fA (.ex X) δ k = .ex X δ := rfl
theorem e_fAite {p : Prop} [Decidable p] {u v : R (α × List Sl)} {k : α → List Sl → Fl} : fA (if p then u else v) δ k = if p then fA u δ k else fA v δ k := by split <;> rfl
theorem e_retV : cRetV c δ = fA (evA c δ) δ fun d _ => .rt d := rfl
theorem e_retN : cRetN ca δ = fA (evN ca δ) δ fun d _ => .rtl d := rfl
def kRetO : Option Sl → Fl
  | some (.ow ds) => .rtl ds
  | some (.pu d) => .rt d
  | some (.nt ds) => .rt (.tup ds)
  | _ => .no
theorem e_retO : cRetO a δ = kRetO δ[a]? := by
  unfold cRetO kRetO
  cases δ[a]? with
  | none => rfl
  | some s => cases s <;> rfl
theorem e_kretpu : kRetO (some (.pu d)) = .rt d := rfl
theorem e_kretow : kRetO (some (.ow ds)) = .rtl ds := rfl
theorem e_ret0 : cRetN0 δ = .rt .non := rfl
theorem e_asg : cAsg a c δ = fA (evA c δ) δ fun d δ' => .nx (δ'.set a (.pu d)) := rfl
theorem e_asgN : cAsgN a ca δ = fA (evN ca δ) δ fun d δ' => .nx (δ'.set a (.ow d)) := rfl
def kOpt : Option (List Sl) → Fl
  | some δ => .nx δ
  | none => .no
theorem e_asgT {t : CT} : cAsgT t c δ = fA (evA c δ) δ fun d δ' => kOpt (t d δ') := by
  show fA (evA c δ) δ (fun d δ' => match t d δ' with
    | some δ2 => .nx δ2
    | none => .no) = _
  refine congrArg (fA (evA c δ) δ) ?_
  funext d δ'
  unfold kOpt
  cases t d δ' <;> rfl
theorem e_kopt : kOpt (some δ) = .nx δ := rfl
theorem e_tname : tName a d δ = some (δ.set a (.pu d)) := rfl
theorem e_ttup {t : List D → List Sl → Option (List Sl)} (h : ds.length = n) : tTupT n t (.tup ds) δ = t ds δ := if_pos h
theorem e_tcons {t : CT} {r : List D → List Sl → Option (List Sl)} : tCons' t r (d :: ds) δ = (t d δ).bind fun δ' => r ds δ' := rfl
theorem e_tnil : tNil' [] δ = some δ := rfl
theorem e_par2 : cPar2 n m ca δ = fA (evL ca δ) δ fun ds δ' => kPar2 n m ds δ' := rfl
theorem e_kpar2 : kPar2 n m [d, e] δ = .nx ((δ.set n (.pu d)).set m (.pu e)) := rfl
def kIf (a b : CS) (δ : List Sl) : R Bool → Fl
  | .ok true => a δ
  | .ok false => b δ
  | .ex C => .ex C δ
  | .no => .no
theorem e_ifS : cIfS ct s1 s2 δ = kIf s1 s2 δ (ct (bor δ)) := by
  unfold cIfS kIf evT
  cases ct (bor δ) with
  | ok k => cases k <;> rfl
  | ex C => rfl
  | no => rfl
theorem e_kif : kIf s1 s2 δ (.ok b) = if b = true then s1 δ else s2 δ := by cases b <;> rfl
theorem e_kifite {p : Prop} [Decidable p] {u v : R Bool} : kIf s1 s2 δ (if p then u else v) = if p then kIf s1 s2 δ u else kIf s1 s2 δ v := by split <;> rfl
theorem e_rz : cRz X δ = .ex X δ := rfl
theorem e_for {t : CT} : cFor ca t s1 δ = fA (evI ca δ) δ fun ds δ' => forGo t s1 ds δ' := rfl
def kApp (i : Nat) (d : D) (δ' : List Sl) : Option Sl → Fl
  | some (.ow ds) => if ds.length < sizeLine then .nx (δ'.set i (.ow (ds ++ [d]))) else .no
  | _ => .no
def kApp0 (i : Nat) (c : C) (δ : List Sl) : Option Sl → Fl
  | some (.ow _) => fA (evA c δ) δ fun d δ' => kApp i d δ' δ'[i]?
  | _ => .no
theorem e_appd : cAppd a c δ = kApp0 a c δ δ[a]? := by
  unfold cAppd kApp0
  cases δ[a]? with
  | none => rfl
  | some s =>
    cases s with
    | un => rfl
    | oo d => rfl
    | od d => rfl
    | nt d => rfl
    | pu d => rfl
    | ow ds =>
      show fA (evA c δ) δ (fun d δ' => (match δ'[a]? with
        | some (.ow ds) => if ds.length < sizeLine then .nx (δ'.set a (.ow (ds ++ [d]))) else .no
        | _ => .no)) = _
      refine congrArg (fA (evA c δ) δ) ?_
      funext d δ'
      unfold kApp
      cases δ'[a]? with
      | none => rfl
      | some s => cases s <;> rfl
theorem e_kapp0 : kApp0 a c δ (some (.ow ds)) = fA (evA c δ) δ fun d δ' => kApp a d δ' δ'[a]? := rfl
theorem e_kapp : kApp a d δ (some (.ow ds)) = if ds.length < sizeLine then .nx (δ.set a (.ow (ds ++ [d]))) else .no := rfl
theorem e_run : run n s1 ds = outF (s1 (ini n ds)) := rfl
theorem e_ort : outF (.rt d) = .ok d := rfl
theorem e_ortl : outF (.rtl ds) = .okl ds := rfl
theorem e_oex : outF (.ex X δ) = .ex X := rfl
theorem e_onx : outF (.nx δ) = .ok .non := rfl
theorem e_oite {p : Prop} [Decidable p] {u v : Fl} : outF (if p then u else v) = if p then outF u else outF v := by split <;> rfl
theorem e_ors {s3 : CS} (h : s1 δ ≠ .no) : cOrS s1 s3 δ = s1 δ := by
  unfold cOrS
  cases e : s1 δ <;> first | rfl | exact absurd e h
theorem e_ors2 {s3 : CS} (h : s1 δ = .no) : cOrS s1 s3 δ = s3 δ := by
  unfold cOrS
  rw [h]
/-! loops -/
theorem e_go0 {t : CT} : forGo t s1 [] δ = .nx δ := rfl
def kGo (t : CT) (s : CS) (ds : List D) : Option (List Sl) → Fl
  | some δ => fLoop (s δ) (forGo t s ds)
  | none => .no
theorem e_go {t : CT} : forGo t s1 (d :: ds) δ = kGo t s1 ds (t d δ) := by
  unfold kGo
  show (match t d δ with
    | none => Fl.no
    | some δ1 => fLoop (s1 δ1) (forGo t s1 ds)) = _
  cases t d δ <;> rfl
theorem e_kgo {t : CT} : kGo t s1 ds (some δ) = fLoop (s1 δ) (forGo t s1 ds) := rfl
theorem e_lnx {k : List Sl → Fl} : fLoop (.nx δ) k = k δ := rfl
theorem e_lct {k : List Sl → Fl} : fLoop (.ct δ) k = k δ := rfl
theorem e_lbk {k : List Sl → Fl} : fLoop (.bk δ) k = .nx δ := rfl
theorem e_lrt {k : List Sl → Fl} : fLoop (.rt d) k = .rt d := rfl
theorem e_lite {p : Prop} [Decidable p] {u v : Fl} {k : List Sl → Fl} : fLoop (if p then u else v) k = if p then fLoop u k else fLoop v k := by split <;> rfl
/-- a comprehension without a test whose every element comes out -/
theorem lc_map {t : CT} {celt : C} {f : D → D} : ∀ (ds acc : List D), (∀ d ∈ ds, ∃ δ1, t d δ = some δ1 ∧ celt δ1 = .ok (f d)) → acc.length + ds.length < sizeLine → lcGo t cTrue celt δ ds acc = .ok (acc ++ ds.map f)
  | [], acc, _, _ => by simp [lcGo]
  | d :: ds, acc, h, hl => by
    obtain ⟨δ1, h1, h2⟩ := h d List.mem_cons_self
    have ih := lc_map ds (acc ++ [f d]) (fun x hx => h x (List.mem_cons_of_mem _ hx)) (by simp only [List.length_append, List.length_cons, List.length_nil] at *; omega)
    unfold lcGo
    simp only [h1, cTrue, h2]
    rw [if_pos (by simp only [List.length_cons] at hl; omega), ih]
    simp
/-- .. with a test -/
theorem lc_filter {t : CT} {ct : CB} {celt : C} {p : D → Bool} {f : D → D} : ∀ (ds acc : List D), (∀ d ∈ ds, ∃ δ1, t d δ = some δ1 ∧ ct δ1 = .ok (p d) ∧ (p d = true → celt δ1 = .ok (f d))) → acc.length + ds.length < sizeLine → lcGo t ct celt δ ds acc = .ok (acc ++ (ds.filter p).map f)
  | [], acc, _, _ => by simp [lcGo]
  | d :: ds, acc, h, hl => by
    obtain ⟨δ1, h1, h2, h3⟩ := h d List.mem_cons_self
    unfold lcGo
    simp only [h1, h2]
    cases hp : p d with
    | true =>
      have ih := lc_filter ds (acc ++ [f d]) (fun x hx => h x (List.mem_cons_of_mem _ hx)) (by simp only [List.length_append, List.length_cons, List.length_nil] at *; omega)
      simp only [h3 hp]
      rw [if_pos (by simp only [List.length_cons] at hl; omega), ih]
      simp [hp]
    | false =>
      have ih := lc_filter ds acc (fun x hx => h x (List.mem_cons_of_mem _ hx)) (by simp only [List.length_cons] at *; omega)
      simp only []
      rw [ih]
      simp [hp]
theorem e_lc {t : CT} {vs : List Nat} : cLc ca t ct c vs δ = (ca δ).bind fun ds => lcGo t ct c (wipeD δ vs) ds [] := rfl
theorem e_itL : dItems (.lst ds) = .ok ds := rfl
theorem e_itK : dItems (.kst ds) = .ok ds := rfl
theorem e_itT : dItems (.tup ds) = .ok ds := rfl
theorem e_wipe0 : wipeD δ [] = δ := rfl
theorem e_wipe {v : Nat} {vs : List Nat} : wipeD δ (v :: vs) = (wipeD δ vs).set v .un := rfl
theorem e_rng1 (h : 0 ≤ j) (h2 : j < 2 ^ 62) : dRng1 [.int j] = .ok (rangeD 0 j.toNat) := by
  show (if -(2 ^ 62) ≤ j ∧ j < 2 ^ 62 then R.ok (rangeD 0 j.toNat) else R.no) = _
  rw [if_pos ⟨by omega, h2⟩]
theorem e_rng2 (h : -(2 ^ 62) ≤ i ∧ i < 2 ^ 62 ∧ -(2 ^ 62) ≤ j ∧ j < 2 ^ 62) : dRng2 [.int i, .int j] = .ok (rangeD i (j - i).toNat) := by
  show (if -(2 ^ 62) ≤ i ∧ i < 2 ^ 62 ∧ -(2 ^ 62) ≤ j ∧ j < 2 ^ 62 then R.ok (rangeD i (j - i).toNat) else R.no) = _
  rw [if_pos h]
theorem e_tryK {f : Str → Option Bool} : cTryK f n m s1 δ = fTry f (fun C δ1 => .nx (((δ1.set n (.pu (.exc C))).set m (.pu (.exc C))).set n .un)) (s1 δ) := rfl
theorem e_tryN {f : Str → Option Bool} : cTryN f n s1 δ = fTry f (fun _ δ1 => .nx (δ1.set n (.pu .non))) (s1 δ) := rfl
def kTry (k : Str → List Sl → Fl) (C : Str) (δ : List Sl) : Option Bool → Fl
  | some true => k C δ
  | some false => .ex C δ
  | none => .no
theorem e_tryx {f : Str → Option Bool} {k : Str → List Sl → Fl} : fTry f k (.ex X δ) = kTry k X δ (f X) := by
  show (match f X with
    | some true => k X δ
    | some false => Fl.ex X δ
    | none => Fl.no) = _
  unfold kTry
  cases f X with
  | none => rfl
  | some b => cases b <;> rfl
theorem e_ktry {k : Str → List Sl → Fl} : kTry k X δ (some true) = k X δ := rfl
theorem e_trynx {f : Str → Option Bool} {k : Str → List Sl → Fl} : fTry f k (.nx δ) = .nx δ := rfl
theorem e_exp : cExp c δ = fA (evA c δ) δ fun _ δ' => .nx δ' := rfl
/-! sizes -/
def Bd (n : Nat) (x : Int) : Prop := x.natAbs < 2 ^ n
theorem Bd.mono {p q : Nat} (h : Bd p i) (hq : p ≤ q) : Bd q i := Nat.lt_of_lt_of_le h (Nat.pow_le_pow_right (by decide) hq)
theorem Bd.mul {p q : Nat} (h : Bd p i) (g : Bd q j) : Bd (p + q) (i * j) := by
  unfold Bd at *
  rw [Int.natAbs_mul, Nat.pow_add]
  exact Nat.mul_lt_mul'' h g
theorem Bd.add {p q r : Nat} (h : Bd p i) (g : Bd q j) (hp : p ≤ r) (hq : q ≤ r) : Bd (r + 1) (i + j) := by
  have h1 := h.mono hp
  have h2 := g.mono hq
  unfold Bd at *
  rw [Nat.pow_succ]
  omega
theorem Bd.neg {p : Nat} (h : Bd p i) : Bd p (-i) := by
  unfold Bd at *
  rw [Int.natAbs_neg]
  exact h
theorem Bd.sub {p q r : Nat} (h : Bd p i) (g : Bd q j) (hp : p ≤ r) (hq : q ≤ r) : Bd (r + 1) (i - j) := by
  rw [Int.sub_eq_add_neg]
  exact h.add g.neg hp hq
theorem Bd.le {p : Nat} (h : i.natAbs ≤ j.natAbs) (g : Bd p j) : Bd p i := Nat.lt_of_le_of_lt h g
theorem bd_of {p : Nat} (h1 : -((2 ^ p : Nat) : Int) < i) (h2 : i < ((2 ^ p : Nat) : Int)) : Bd p i := by
  unfold Bd
  omega
theorem bd_nat {p : Nat} (h0 : 0 ≤ i) (h : i.toNat < 2 ^ p) : Bd p i := by
  unfold Bd
  omega
theorem cMul_bd {p q : Nat} (h : Bd p i) (g : Bd q j) (hl : p + q ≤ 900000) : cMul i j := wide_mul (h.mono (Nat.le_succ p)) (g.mono (Nat.le_succ q)) (Nat.succ_pos _) (Nat.succ_pos _) (by omega)
theorem cDiv_bd {q : Nat} (h0 : j ≠ 0) (g : Bd q j) (hl : q ≤ 8999) : cDiv i j := ⟨h0, Nat.lt_of_lt_of_le (PySem.Flt.log2_lt_of (Nat.succ_pos q) (g.mono (Nat.le_succ q))) (by omega)⟩
theorem cDiv_lit {n : Nat} (h : n ≠ 0) (h2 : n < 2 ^ 64) : cDiv i (OfNat.ofNat n : Int) := by
  refine cDiv_bd (q := 64) ?_ ?_ (by decide)
  · show ((n : Nat) : Int) ≠ 0
    omega
  · show ((n : Nat) : Int).natAbs < 2 ^ 64
    rw [Int.natAbs_natCast]
    exact h2
theorem cMod_lit {n : Nat} (h : n ≠ 0) : cMod i (OfNat.ofNat n : Int) := by
  show ((n : Nat) : Int) ≠ 0
  omega
theorem cPow_lit {n m : Nat} (h : n < 2 ^ 64) (h2 : m ≤ 1000000) : cPow (OfNat.ofNat n : Int) (OfNat.ofNat m : Int) := by
  refine ⟨?_, ?_, ?_⟩
  · show (0 : Int) ≤ ((m : Nat) : Int)
    omega
  · show ((m : Nat) : Int) ≤ 1000000
    omega
  · show ((n : Nat) : Int).natAbs < 2 ^ 64
    rw [Int.natAbs_natCast]
    exact h
theorem e_modP (h : 0 < j) : dMod (.int i) (.int j) = .ok (.int (i % j)) := by
  rw [e_mod, if_pos (show cMod i j from by unfold cMod; omega), Int.fmod_eq_emod_of_nonneg _ (by omega)]
theorem e_divP (h : 0 < j) (hc : cDiv i j) : dDiv (.int i) (.int j) = .ok (.int (i / j)) := by
  rw [e_div, if_pos hc, Int.fdiv_eq_ediv_of_nonneg _ (by omega)]
theorem e_divL {n : Nat} (h : n ≠ 0) (h2 : n < 2 ^ 64) : dDiv (.int i) (.int (OfNat.ofNat n : Int)) = .ok (.int (i / (OfNat.ofNat n : Int))) := by
  refine e_divP ?_ (cDiv_lit h h2)
  show (0 : Int) < ((n : Nat) : Int)
  omega
theorem e_modL {n : Nat} (h : n ≠ 0) : dMod (.int i) (.int (OfNat.ofNat n : Int)) = .ok (.int (i % (OfNat.ofNat n : Int))) := by
  refine e_modP ?_
  show (0 : Int) < ((n : Nat) : Int)
  omega
theorem e_powL {n m : Nat} (h : n < 2 ^ 64) (h2 : m ≤ 1000000) : dPow (.int (OfNat.ofNat n : Int)) (.int (OfNat.ofNat m : Int)) = .ok (.int ((OfNat.ofNat n : Int) ^ m)) := by
  rw [e_pow, if_pos (cPow_lit h h2)]
  rfl
/-- a loop whose turns all go on, by an invariant -/
theorem go_inv {t : CT} {s : CS} (I : Nat → List Sl → Prop) {ds : List D} (h : ∀ k d δ, ds[k]? = some d → I k δ → ∃ δ1, t d δ = some δ1 ∧ ∃ δ2, (s δ1 = .nx δ2 ∨ s δ1 = .ct δ2) ∧ I (k + 1) δ2) :
    ∀ (n k : Nat) (δ : List Sl), n = ds.length - k → k ≤ ds.length → I k δ → ∃ δ', forGo t s (ds.drop k) δ = .nx δ' ∧ I ds.length δ' := by
  intro n
  induction n with
  | zero =>
    intro k δ hn hk hi
    have e : k = ds.length := by omega
    subst e
    refine ⟨δ, ?_, hi⟩
    rw [List.drop_length]
    rfl
  | succ n ih =>
    intro k δ hn hk hi
    have hlt : k < ds.length := by omega
    obtain ⟨δ1, h1, δ2, h2, h3⟩ := h k ds[k] δ (List.getElem?_eq_getElem hlt) hi
    obtain ⟨δ', h4, h5⟩ := ih (k + 1) δ2 (by omega) (by omega) h3
    refine ⟨δ', ?_, h5⟩
    rw [List.drop_eq_getElem_cons hlt, e_go, h1, e_kgo]
    rcases h2 with h2 | h2
    · rw [h2, e_lnx, h4]
    · rw [h2, e_lct, h4]
theorem go_inv0 {t : CT} {s : CS} (I : Nat → List Sl → Prop) {ds : List D} {δ : List Sl} (h0 : I 0 δ) (h : ∀ k d δ, ds[k]? = some d → I k δ → ∃ δ1, t d δ = some δ1 ∧ ∃ δ2, (s δ1 = .nx δ2 ∨ s δ1 = .ct δ2) ∧ I (k + 1) δ2) :
    ∃ δ', forGo t s ds δ = .nx δ' ∧ I ds.length δ' := by
  have z := go_inv I h ds.length 0 δ (by omega) (by omega) h0
  rwa [List.drop_zero] at z
theorem mul_ok {p q : Nat} (h1 : i.natAbs < 2 ^ p) (h2 : j.natAbs < 2 ^ q) (hp : 0 < p) (hq : 0 < q) (h : p + q ≤ 1000000) : cMul i j := wide_mul h1 h2 hp hq h
theorem div_ok {q : Nat} (h0 : j ≠ 0) (h2 : j.natAbs < 2 ^ q) (hq : 0 < q) (h : q ≤ 9000) : cDiv i j := ⟨h0, Nat.lt_of_lt_of_le (PySem.Flt.log2_lt_of hq h2) h⟩
end
end Dw
namespace Dw
open PySem L2 PyProof.Rows
section
variable {n m : Nat} {i j : Int} {d : D} {ds es : List D} {x y : PySem.Str} {b : Bool} {ks : List (PySem.Str × D)}
theorem szT (h : n ≤ 10000000) : (n ≤ sizeLine) = True := eq_true (sz h)
theorem szlT (h : n < 10000000) : (n < sizeLine) = True := eq_true (szl h)
theorem i_tt : dIsi (isBt .tuple) (.tup ds) = .ok (.bl true) := rfl
theorem i_ti : dIsi (isBt .tuple) (.int i) = .ok (.bl false) := rfl
theorem i_tb : dIsi (isBt .tuple) (.bl b) = .ok (.bl false) := rfl
theorem i_ts : dIsi (isBt .tuple) (.str x) = .ok (.bl false) := rfl
theorem i_tn : dIsi (isBt .tuple) .non = .ok (.bl false) := rfl
theorem i_tl : dIsi (isBt .tuple) (.lst ds) = .ok (.bl false) := rfl
theorem i_td {ps qs} : dIsi (isBt .tuple) (.dct ps qs) = .ok (.bl false) := rfl
theorem i_it : dIsi (isBt .int) (.tup ds) = .ok (.bl false) := rfl
theorem i_ii : dIsi (isBt .int) (.int i) = .ok (.bl true) := rfl
theorem i_ib : dIsi (isBt .int) (.bl b) = .ok (.bl true) := rfl
theorem i_is : dIsi (isBt .int) (.str x) = .ok (.bl false) := rfl
theorem i_in : dIsi (isBt .int) .non = .ok (.bl false) := rfl
theorem i_il : dIsi (isBt .int) (.lst ds) = .ok (.bl false) := rfl
theorem i_bt : dIsi (isBt .bool) (.tup ds) = .ok (.bl false) := rfl
theorem i_bi : dIsi (isBt .bool) (.int i) = .ok (.bl false) := rfl
theorem i_bb : dIsi (isBt .bool) (.bl b) = .ok (.bl true) := rfl
theorem i_bs : dIsi (isBt .bool) (.str x) = .ok (.bl false) := rfl
theorem i_bn : dIsi (isBt .bool) .non = .ok (.bl false) := rfl
theorem i_bl : dIsi (isBt .bool) (.lst ds) = .ok (.bl false) := rfl
theorem e_str1 (h : Bd 1900 i) : dStr1 [.int i] = .ok (.str (toString i)) := by
  show (if i.natAbs.log2 < 1920 then R.ok (D.str (toString i)) else R.no) = _
  rw [if_pos (Nat.lt_of_lt_of_le (PySem.Flt.log2_lt_of (by decide) h) (by decide))]
theorem len_app : (x ++ y).length = x.length + y.length := by
  show (x.cps ++ y.cps).size = _
  rw [Array.size_append]
  rfl
theorem len_of (s : String) : (PySem.Str.ofString s).length = s.length := by
  rw [PySem.Str.ofString_eq_toList]
  show (s.toList.map Char.toNat).toArray.size = _
  rw [List.size_toArray, List.length_map, String.length_toList]
theorem len_str (h : Bd 1900 i) : (PySem.Str.ofString (toString i)).length ≤ 1901 := by
  rw [len_of, Int.toString_eq_repr, Int.repr_eq_if]
  have g : i.natAbs < 10 ^ 1900 := Nat.lt_of_lt_of_le h (Nat.pow_le_pow_left (by decide) _)
  have g1 : (-i).toNat < 10 ^ 1900 := Nat.lt_of_le_of_lt (by omega) g
  have g2 : i.toNat < 10 ^ 1900 := Nat.lt_of_le_of_lt (by omega) g
  have e1 := (Nat.length_repr_le_iff (n := (-i).toNat) (by decide : 0 < 1900)).mpr g1
  have e2 := (Nat.length_repr_le_iff (n := i.toNat) (by decide : 0 < 1900)).mpr g2
  clear g g1 g2 h
  split
  · omega
  · rw [String.length_append]
    have : ("-" : String).length = 1 := by decide
    omega
theorem f_modL {n : Nat} (h : n ≠ 0) : dMod (.int i) (.int (no_index (OfNat.ofNat n : Int))) = .ok (.int (i % (OfNat.ofNat n : Int))) := e_modL h
theorem f_divL {n : Nat} (h : n ≠ 0) (h2 : n < 2 ^ 64) : dDiv (.int i) (.int (no_index (OfNat.ofNat n : Int))) = .ok (.int (i / (OfNat.ofNat n : Int))) := e_divL h h2
theorem f_powL {n m : Nat} (h : n < 2 ^ 64) (h2 : m ≤ 1000000) : dPow (.int (no_index (OfNat.ofNat n : Int))) (.int (no_index (OfNat.ofNat m : Int))) = .ok (.int ((OfNat.ofNat n : Int) ^ m)) := e_powL h h2
theorem f_modC {k : Nat} : dMod (.int i) (.int (10 ^ k)) = .ok (.int (i % (10 ^ k))) := e_modP (Int.pow_pos (by decide))
theorem e_dct0 {δ : List Sl} : cDct0 δ = .ok (.dct [] []) := rfl
theorem e_rep (h : i.toNat ≤ 10000) (h2 : -10000 ≤ i) (hd : ds.length ≤ 100) : dRep ds (.int i) = .ok (List.replicate i.toNat ds).flatten := by
  show (if i < 2 ^ 24 ∧ ds.length * i.toNat ≤ sizeLine ∧ -(2 ^ 24) < i then R.ok (List.replicate i.toNat ds).flatten else R.no) = _
  rw [if_pos]
  refine ⟨by omega, Nat.le_trans (Nat.mul_le_mul hd h) (by decide), by omega⟩
end
end Dw
namespace Dw
open PySem L2 PyProof.Rows
section
variable {n m a : Nat} {i j : Int} {d e k : D} {ds es : List D} {x y : PySem.Str} {b : Bool} {δ : List Sl} {ca cb cc c : C} {f g : D → D → R D} {s : CS}
theorem e_chain : cChain f g ca cb cc δ = (ca δ).bind fun x => (cb δ).bind fun y => (f x y).bind fun z => kChain g cc y δ z := rfl
theorem bd_ten {k : Nat} : Bd (4 * k + 1) ((10 : Int) ^ k) := by
  unfold Bd
  rw [Int.natAbs_pow]
  have h1 : (10 : Nat) ^ k ≤ 16 ^ k := Nat.pow_le_pow_left (by decide) k
  have h2 : (16 : Nat) ^ k = 2 ^ (4 * k) := by rw [Nat.pow_mul]
  have h3 : (2 : Nat) ^ (4 * k + 1) = 2 ^ (4 * k) * 2 := Nat.pow_succ _ _
  have h4 : 0 < (2 : Nat) ^ (4 * k) := Nat.pow_pos (by decide)
  show (10 : Nat) ^ k < _
  omega
theorem f_divC {k : Nat} (h : k ≤ 2000) : dDiv (.int i) (.int (10 ^ k)) = .ok (.int (i / (10 ^ k))) := e_divP (Int.pow_pos (by decide)) (cDiv_bd (Int.ne_of_gt (Int.pow_pos (by decide))) bd_ten (by omega))
theorem e_ctS : cCt δ = .ct δ := rfl
theorem e_bkS : cBk δ = .bk δ := rfl
theorem e_kchT : kChain g cc d δ (.bl true) = (cc δ).bind fun w => g d w := rfl
theorem e_kchF : kChain g cc d δ (.bl false) = .ok (.bl false) := rfl
theorem e_kchD {p : Prop} [Decidable p] : kChain g cc d δ (.bl (decide p)) = if p then (cc δ).bind fun w => g d w else .ok (.bl false) := by
  by_cases h : p <;> simp [h, kChain]
def kAug0 (a : Nat) (h : Int → Int → Int) (c : C) (δ : List Sl) : Option Sl → Fl
  | some (.pu (.int u)) => fA (evA c δ) δ fun d δ' => kAug a h u d δ'
  | _ => .no
theorem e_aug {h : Int → Int → Int} : cAug a h c δ = kAug0 a h c δ δ[a]? := by
  unfold cAug kAug0
  cases δ[a]? with
  | none => rfl
  | some s =>
    cases s with
    | un => rfl
    | oo d => rfl
    | od d => rfl
    | nt d => rfl
    | pu d => cases d <;> rfl
    | ow ds => rfl
theorem e_kaug0 {h : Int → Int → Int} : kAug0 a h c δ (some (.pu (.int i))) = fA (evA c δ) δ fun d δ' => kAug a h i d δ' := rfl
theorem e_kaug {h : Int → Int → Int} : kAug a h i (.int j) δ = .nx (δ.set a (.pu (.int (h i j)))) := rfl
def kIns0 (a : Nat) (c1 c2 : C) (δ : List Sl) : Option Sl → Fl
  | some (.ow _) => fA (evA c1 δ) δ fun k δ1 => fA (evA c2 δ1) δ1 fun d δ' => kIns a k d δ'
  | _ => .no
theorem e_ins {c1 c2 : C} : cIns a c1 c2 δ = kIns0 a c1 c2 δ δ[a]? := by
  unfold cIns kIns0
  cases δ[a]? with
  | none => rfl
  | some s => cases s <;> rfl
theorem e_kins0 {c1 c2 : C} : kIns0 a c1 c2 δ (some (.ow ds)) = fA (evA c1 δ) δ fun k δ1 => fA (evA c2 δ1) δ1 fun d δ' => kIns a k d δ' := rfl
def kIns1 (a : Nat) (j : Int) (d : D) (δ : List Sl) : Option Sl → Fl
  | some (.ow ds) => if ds.length < sizeLine ∧ 0 ≤ j ∧ j < 2 ^ 63 then .nx (δ.set a (.ow (ds.take j.toNat ++ [d] ++ ds.drop j.toNat))) else .no
  | _ => .no
theorem e_kins : kIns a (.int j) d δ = kIns1 a j d δ δ[a]? := by
  unfold kIns kIns1
  cases δ[a]? with
  | none => rfl
  | some s => cases s <;> rfl
theorem e_kins1 (h1 : ds.length < 10000000) (h2 : 0 ≤ j) (h3 : j < 10000000) : kIns1 a j d δ (some (.ow ds)) = .nx (δ.set a (.ow (ds.take j.toNat ++ [d] ++ ds.drop j.toNat))) := by
  show (if ds.length < sizeLine ∧ 0 ≤ j ∧ j < 2 ^ 63 then Fl.nx (δ.set a (.ow (ds.take j.toNat ++ [d] ++ ds.drop j.toNat))) else .no) = _
  rw [if_pos ⟨szl h1, h2, by omega⟩]
theorem e_setI {ck : C} : cSetI a ck c δ = fA (evA c δ) δ fun d δ1 => kSetJ a ck d δ1 := rfl
def kSetJ0 (a : Nat) (ck : C) (d : D) (δ : List Sl) : Option Sl → Fl
  | some (.ow _) => fA (evA ck δ) δ fun k δ' => kSetI a d k δ'
  | _ => .no
theorem e_setJ {ck : C} : kSetJ a ck d δ = kSetJ0 a ck d δ δ[a]? := by
  unfold kSetJ kSetJ0
  cases δ[a]? with
  | none => rfl
  | some s => cases s <;> rfl
theorem e_setJ0 {ck : C} : kSetJ0 a ck d δ (some (.ow ds)) = fA (evA ck δ) δ fun k δ' => kSetI a d k δ' := rfl
def kSetK (a : Nat) (d : D) (δ : List Sl) (j : Int) : Option Sl → Fl
  | some (.ow ds) => (match ixN ds.length j with
      | some m => .nx (δ.set a (.ow (ds.set m d)))
      | none => .no)
  | _ => .no
theorem e_setK : kSetI a d (.int j) δ = kSetK a d δ j δ[a]? := by
  unfold kSetI kSetK
  cases δ[a]? with
  | none => rfl
  | some s => cases s <;> rfl
theorem ixN_nat (h : m < n) : ixN n (m : Int) = some m := by
  unfold ixN
  simp
  omega
theorem ixN_last (h : 0 < n) : ixN n (-1) = some (n - 1) := by
  unfold ixN
  simp
  omega
theorem e_setKn (h : m < ds.length) : kSetK a d δ (m : Int) (some (.ow ds)) = .nx (δ.set a (.ow (ds.set m d))) := by
  show (match ixN ds.length (m : Int) with
      | some m => Fl.nx (δ.set a (.ow (ds.set m d)))
      | none => .no) = _
  rw [ixN_nat h]
theorem e_setKl (h : 0 < ds.length) : kSetK a d δ (-1) (some (.ow ds)) = .nx (δ.set a (.ow (ds.set (ds.length - 1) d))) := by
  show (match ixN ds.length (-1) with
      | some m => Fl.nx (δ.set a (.ow (ds.set m d)))
      | none => .no) = _
  rw [ixN_last h]
theorem e_slG {α : Type} {f : Option Int → Option Int → D → R α} {lo hi : CO} : cSlG f c lo hi δ = (c δ).bind fun d => (lo δ).bind fun l => (hi δ).bind fun h => f l h d := rfl
theorem e_noP : cNoP δ = .ok none := rfl
theorem e_pt : dPt (.int i) = .ok (some i) := rfl
theorem e_slAL {lo hi : Option Int} : dSlA lo hi (.lst ds) = .ok (.lst (cutD ds lo hi)) := rfl
theorem e_slAK {lo hi : Option Int} : dSlA lo hi (.kst ds) = .ok (.lst (cutD ds lo hi)) := rfl
theorem e_slAT {lo hi : Option Int} : dSlA lo hi (.tup ds) = .ok (.tup (cutD ds lo hi)) := rfl
theorem e_slNL {lo hi : Option Int} : dSlN lo hi (.lst ds) = .ok (cutD ds lo hi) := rfl
theorem e_slNK {lo hi : Option Int} : dSlN lo hi (.kst ds) = .ok (cutD ds lo hi) := rfl
theorem cut_from (h0 : 0 ≤ i) (h : i ≤ ds.length) : cutD ds (some i) none = ds.drop i.toNat := by
  have e : HT.sIx ds.length 0 (some i) = i.toNat := by
    show (if i < 0 then (i + (ds.length : Int)).toNat else min i.toNat ds.length) = _
    rw [if_neg (by omega)]
    omega
  unfold cutD
  rw [e, HT.sIx_none, List.take_of_length_le (by rw [List.length_drop]; omega)]
theorem cut_to (h0 : 0 ≤ j) (h : j ≤ ds.length) : cutD ds none (some j) = ds.take j.toNat := by
  have e : HT.sIx ds.length ds.length (some j) = j.toNat := by
    show (if j < 0 then (j + (ds.length : Int)).toNat else min j.toNat ds.length) = _
    rw [if_neg (by omega)]
    omega
  unfold cutD
  rw [e, HT.sIx_none, List.drop_zero, Nat.sub_zero]
theorem cut_mid (h0 : 0 ≤ i) (h : i ≤ j) (h2 : j ≤ ds.length) : cutD ds (some i) (some j) = (ds.drop i.toNat).take (j - i).toNat := by
  have e : HT.sIx ds.length 0 (some i) = i.toNat := by
    show (if i < 0 then (i + (ds.length : Int)).toNat else min i.toNat ds.length) = _
    rw [if_neg (by omega)]
    omega
  have e2 : HT.sIx ds.length ds.length (some j) = j.toNat := by
    show (if j < 0 then (j + (ds.length : Int)).toNat else min j.toNat ds.length) = _
    rw [if_neg (by omega)]
    omega
  unfold cutD
  rw [e, e2]
  congr 1
  omega
theorem bools_map : ∀ bs : List Bool, boolsD (bs.map D.bl) = some bs
  | [] => rfl
  | b :: bs => by
    show (match boolsD (bs.map D.bl) with
      | some is => some (b :: is)
      | none => none) = _
    rw [bools_map bs]
theorem e_all {bs : List Bool} : dAll [.lst (bs.map D.bl)] = .ok (.bl (bs.all id)) := by
  show (match boolsD (bs.map D.bl) with
    | some is => R.ok (D.bl (is.all id))
    | _ => R.no) = _
  rw [bools_map]
theorem e_listL : dListOf [.lst ds] = .ok ds := rfl
theorem e_listT : dListOf [.tup ds] = .ok ds := rfl
theorem e_listK : dListOf [.kst ds] = .ok ds := rfl
theorem at_last (h : 0 < ds.length) : atD ds (-1) = .ok (ds[ds.length - 1]'(by omega)) := by
  unfold atD
  rw [ixN_last h]
  simp only [List.getElem?_eq_getElem (show ds.length - 1 < ds.length by omega)]
/-- a while loop by an invariant and a measure -/
theorem wh_inv {t : CB} {bd : CS} {S : Type} (enc : S → List Sl) (q : S → Bool) (I : S → Prop) (μ : S → Nat) (ht : ∀ s, I s → evT t (enc s) = .ok (q s)) (hb : ∀ s, I s → q s = true → ∃ s', (bd (enc s) = .nx (enc s') ∨ bd (enc s) = .ct (enc s')) ∧ I s' ∧ μ s' < μ s) :
    ∀ s, I s → ∃ s', cWh t bd (enc s) = .nx (enc s') ∧ I s' ∧ q s' = false := by
  have key : ∀ (n : Nat) (s : S), μ s < n → I s → ∃ s', whN t bd n (enc s) = .nx (enc s') ∧ I s' ∧ q s' = false := by
    intro n
    induction n with
    | zero => intro s h; omega
    | succ n ih =>
      intro s hm hi
      unfold whN
      rw [ht s hi]
      cases hq : q s with
      | false => exact ⟨s, rfl, hi, hq⟩
      | true =>
        obtain ⟨s1, h1, h2, h3⟩ := hb s hi hq
        obtain ⟨s2, g1, g2, g3⟩ := ih s1 (by omega) h2
        refine ⟨s2, ?_, g2, g3⟩
        rcases h1 with h1 | h1
        · simp only [h1]; exact g1
        · simp only [h1]; exact g1
  intro s hi
  obtain ⟨s', h1, h2, h3⟩ := key (μ s + 1) s (by omega) hi
  exact ⟨s', cWh_of h1 (fun z => nomatch z), h2, h3⟩
/-- a loop that folds -/
theorem go_fold {t : CT} {S : Type} (enc : S → List Sl) (st : S → D → S) (I : S → Prop) : ∀ (ds : List D) (s0 : S), I s0 → (∀ s1 d, d ∈ ds → I s1 → ∃ δ1, t d (enc s1) = some δ1 ∧ (s δ1 = .nx (enc (st s1 d)) ∨ s δ1 = .ct (enc (st s1 d))) ∧ I (st s1 d)) → forGo t s ds (enc s0) = .nx (enc (ds.foldl st s0)) ∧ I (ds.foldl st s0)
  | [], s0, h0, _ => ⟨rfl, h0⟩
  | d :: ds, s0, h0, h => by
    obtain ⟨δ1, h1, h2, h3⟩ := h s0 d List.mem_cons_self h0
    have ih := go_fold enc st I ds (st s0 d) h3 fun s1 d' hd => h s1 d' (List.mem_cons_of_mem _ hd)
    rw [e_go, h1, e_kgo]
    rcases h2 with h2 | h2
    · rw [h2, e_lnx]; exact ih
    · rw [h2, e_lct]; exact ih
theorem go_map {t : CT} {α S : Type} {f : α → D} (P : List Sl → S → Prop) (st : S → α → S) : ∀ (l : List α) (s0 : S) (δ : List Sl), P δ s0 → (∀ s1 a δ, a ∈ l → P δ s1 → ∃ δ1, t (f a) δ = some δ1 ∧ ∃ δ2, (s δ1 = .nx δ2 ∨ s δ1 = .ct δ2) ∧ P δ2 (st s1 a)) → ∃ δ', forGo t s (l.map f) δ = .nx δ' ∧ P δ' (l.foldl st s0)
  | [], s0, δ, h0, _ => ⟨δ, rfl, h0⟩
  | a :: l, s0, δ, h0, h => by
    obtain ⟨δ1, h1, δ2, h2, h3⟩ := h s0 a δ List.mem_cons_self h0
    obtain ⟨δ', g1, g2⟩ := go_map P st l (st s0 a) δ2 h3 fun s1 b δ hb => h s1 b δ (List.mem_cons_of_mem _ hb)
    refine ⟨δ', ?_, g2⟩
    rw [List.map_cons, e_go, h1, e_kgo]
    rcases h2 with h2 | h2
    · rw [h2, e_lnx]; exact g1
    · rw [h2, e_lct]; exact g1
theorem at_app : atD (ds ++ [d]) (-1) = .ok d := by
  rw [at_last (by simp)]
  simp
theorem e_setKa : kSetK a d δ (-1) (some (.ow (ds ++ [e]))) = .nx (δ.set a (.ow (ds ++ [d]))) := by
  rw [e_setKl (by simp)]
  simp
theorem at_get {m : Nat} (h : ds[m]? = some d) : atD ds (m : Int) = .ok d := by
  have hm := (List.getElem?_eq_some_iff.mp h).1
  unfold atD
  rw [ixN_nat hm]
  simp only [h]
theorem at_range {f : Nat → D} {m : Nat} (h : m < n) : atD ((List.range n).map f) (m : Int) = .ok (f m) := at_get (by rw [List.getElem?_map, List.getElem?_range h]; rfl)
theorem ne_nil (g : ds.all (D.good 19) = true) (hd : d.good 19 = true) : dNe (.lst (ds ++ [d])) (.lst []) = .ok (.bl true) := by
  rw [e_neG (.inl rfl) ?_ rfl]
  · cases ds <;> rfl
  · show (ds ++ [d]).all (D.good 19) = true
    rw [List.all_append, g]
    simp [hd]
theorem ne_nil0 : dNe (.lst []) (.lst []) = .ok (.bl false) := rfl
theorem all_true {α : Type} {l : List α} : dAll [.lst (l.map fun _ => D.bl true)] = .ok (.bl true) := by
  have e : (l.map fun _ => D.bl true) = (l.map fun _ => true).map D.bl := by rw [List.map_map]; rfl
  rw [e, e_all]
  congr 2
  rw [List.all_eq_true]
  intro x hx
  obtain ⟨_, _, rfl⟩ := List.mem_map.mp hx
  rfl
theorem go_pre {t : CT} {α : Type} {f : α → D} (P : List α → List Sl → Prop) {l : List α} {δ : List Sl} (h0 : P [] δ) (h : ∀ pre a post δ, l = pre ++ a :: post → P pre δ → ∃ δ1, t (f a) δ = some δ1 ∧ ∃ δ2, (s δ1 = .nx δ2 ∨ s δ1 = .ct δ2) ∧ P (pre ++ [a]) δ2) : ∃ δ', forGo t s (l.map f) δ = .nx δ' ∧ P l δ' := by
  have key : ∀ (post pre : List α) (δ : List Sl), l = pre ++ post → P pre δ → ∃ δ', forGo t s (post.map f) δ = .nx δ' ∧ P l δ' := by
    intro post
    induction post with
    | nil =>
      intro pre δ e hp
      rw [List.append_nil] at e
      subst e
      exact ⟨δ, rfl, hp⟩
    | cons a post ih =>
      intro pre δ e hp
      obtain ⟨δ1, h1, δ2, h2, h3⟩ := h pre a post δ e hp
      obtain ⟨δ', g1, g2⟩ := ih (pre ++ [a]) δ2 (by rw [e, List.append_assoc]; rfl) h3
      refine ⟨δ', ?_, g2⟩
      rw [List.map_cons, e_go, h1, e_kgo]
      rcases h2 with h2 | h2
      · rw [h2, e_lnx]; exact g1
      · rw [h2, e_lct]; exact g1
  exact key l [] δ rfl h0
theorem go_range {t : CT} (I : Nat → List Sl → Prop) {δ : List Sl} (h0 : I 0 δ) (h : ∀ k δ, k < n → I k δ → ∃ δ1, t (.int (k : Int)) δ = some δ1 ∧ ∃ δ2, (s δ1 = .nx δ2 ∨ s δ1 = .ct δ2) ∧ I (k + 1) δ2) : ∃ δ', forGo t s (rangeD 0 n) δ = .nx δ' ∧ I n δ' := by
  have e : (rangeD 0 n).length = n := by unfold rangeD; simp
  have z := go_inv0 (t := t) (s := s) I (ds := rangeD 0 n) h0 fun k d δ hd hi => by
    rw [rangeD_get] at hd
    split at hd
    · rename_i hk
      cases hd
      rw [Int.zero_add]
      exact h k δ hk hi
    · cases hd
  rwa [e] at z
theorem lc_range {t : CT} {g : Nat → D} (h : ∀ k, k < n → ∃ δ1, t (.int (k : Int)) δ = some δ1 ∧ c δ1 = .ok (g k)) (hn : n < 10000000) : lcGo t cTrue c δ (rangeD 0 n) [] = .ok ((List.range n).map g) := by
  have e : (rangeD 0 n) = (List.range n).map fun (k : Nat) => D.int (k : Int) := by
    unfold rangeD
    apply List.map_congr_left
    intro k _
    rw [Int.zero_add]
  rw [lc_map (f := fun d => match d with | .int i => g i.toNat | d => d) (rangeD 0 n) [] ?_ (szl (by rw [e]; simp; omega)), List.nil_append, e, List.map_map]
  · rfl
  · intro d hd
    rw [e] at hd
    obtain ⟨k, hk, rfl⟩ := List.mem_map.mp hd
    obtain ⟨δ1, h1, h2⟩ := h k (List.mem_range.mp hk)
    exact ⟨δ1, h1, h2⟩
theorem e_enumL : dEnum [.lst ds] = .ok (enumD 0 ds) := rfl
theorem e_enumK : dEnum [.kst ds] = .ok (enumD 0 ds) := rfl
theorem e_enum0 : enumD n [] = [] := rfl
theorem e_enum1 : enumD n (d :: ds) = .tup [.int (n : Int), d] :: enumD (n + 1) ds := rfl
end
end Dw
namespace Dw
open PySem L2 PyProof.Rows
section
variable {n m a : Nat} {i j : Int} {d e k : D} {ds es : List D} {x y : PySem.Str} {b : Bool} {δ : List Sl} {ca cb cc c : C} {s : Sl} {s1 : CS}
theorem e_borC : bor (s :: δ) = borS s :: bor δ := rfl
theorem e_borSp : borS (.pu d) = .pu d := rfl
theorem e_borSo : borS (.ow ds) = .pu (.lst ds) := rfl
theorem e_borSu : borS .un = .un := rfl
theorem good_layA {n : Nat} (ih : ∀ d : D, d.good n = true → d.toPy.canLay0 = true) : ∀ ds : List D, ds.all (D.good n) = true → PyData.canLayAll0 (D.toPys ds) = true
  | [], _ => rfl
  | d :: ds, h => by
    have g' := Bool.and_eq_true_iff.mp (show (d.good n && ds.all (D.good n)) = true from h)
    show (PyData.canLay0 d.toPy && PyData.canLayAll0 (D.toPys ds)) = true
    rw [ih d g'.1, good_layA ih ds g'.2]
    rfl
theorem good_lay : ∀ (n : Nat) (d : D), d.good n = true → d.toPy.canLay0 = true
  | n, .non, _ => by unfold D.toPy; rfl
  | n, .bl b, _ => by unfold D.toPy; rfl
  | n, .int i, _ => by unfold D.toPy; rfl
  | n, .str x, g => by
    have g' : PyData.strOk x = true := by
      cases n <;> exact g
    unfold D.toPy; exact g'
  | n, .ty x, g => by cases n <;> cases g
  | 0, .tup ds, g => by cases g
  | 0, .lst ds, g => by cases g
  | 0, .kst ds, g => by cases g
  | n + 1, .tup ds, g => by
    unfold D.toPy
    exact good_layA (good_lay n) ds g
  | n + 1, .lst ds, g => by
    unfold D.toPy
    exact good_layA (good_lay n) ds g
  | n + 1, .kst ds, g => by
    unfold D.toPy
    exact good_layA (good_lay n) ds g
  | n, .dct _ _, g => by cases n <;> cases g
  | n, .obj _ _ _, g => by cases n <;> cases g
  | n, .exc _, g => by cases n <;> cases g
theorem eq_self (g : d.good 20 = true) (h : d.sv = none) : dEq d d = .ok (.bl true) := by
  rw [e_eqG (.inl h) g g, SeqAt.eqv_refl _ (good_lay _ _ g)]
theorem ne_self (g : d.good 20 = true) (h : d.sv = none) : dNe d d = .ok (.bl false) := by
  rw [e_neG (.inl h) g g, SeqAt.eqv_refl _ (good_lay _ _ g)]
  rfl
theorem rangeD_get0 {n i : Nat} : (rangeD 0 n)[i]? = if i < n then some (.int (i : Int)) else none := by
  rw [rangeD_get, Int.zero_add]
theorem rng_len {lo : Int} {n : Nat} : (rangeD lo n).length = n := by unfold rangeD; simp
theorem rng1n {n : Nat} (h : n < 1000000000) : dRng1 [.int (n : Int)] = .ok (rangeD 0 n) := by
  rw [e_rng1 (by omega) (by omega), Int.toNat_natCast]
def kLc1 (t : CT) (q : CB) (c : C) (δ : List Sl) (ds acc : List D) : Option (List Sl) → R (List D)
  | none => .no
  | some δ1 => (match q δ1 with
      | .ok true => (match c δ1 with
        | .ok y => if acc.length < sizeLine then lcGo t q c δ ds (acc ++ [y]) else .no
        | _ => .no)
      | .ok false => lcGo t q c δ ds acc
      | _ => .no)
def kLc2 (t : CT) (q : CB) (c : C) (δ : List Sl) (ds acc : List D) (δ1 : List Sl) : R Bool → R (List D)
  | .ok true => (match c δ1 with
        | .ok y => if acc.length < sizeLine then lcGo t q c δ ds (acc ++ [y]) else .no
        | _ => .no)
  | .ok false => lcGo t q c δ ds acc
  | _ => .no
def kLc3 (t : CT) (q : CB) (c : C) (δ : List Sl) (ds acc : List D) : R D → R (List D)
  | .ok y => if acc.length < sizeLine then lcGo t q c δ ds (acc ++ [y]) else .no
  | _ => .no
section
variable {t : CT} {q : CB} {acc : List D} {δ1 : List Sl}
theorem e_lcN : lcGo t q c δ [] acc = .ok acc := rfl
theorem e_lcC : lcGo t q c δ (d :: ds) acc = kLc1 t q c δ ds acc (t d δ) := by
  rw [lcGo]; unfold kLc1; rfl
theorem e_lc1 : kLc1 t q c δ ds acc (some δ1) = kLc2 t q c δ ds acc δ1 (q δ1) := by
  unfold kLc1 kLc2; rfl
theorem e_lc2 : kLc2 t q c δ ds acc δ1 (.ok true) = kLc3 t q c δ ds acc (c δ1) := by
  unfold kLc2 kLc3; rfl
theorem e_lc2f : kLc2 t q c δ ds acc δ1 (.ok false) = lcGo t q c δ ds acc := rfl
theorem e_lc3 : kLc3 t q c δ ds acc (.ok d) = if acc.length < sizeLine then lcGo t q c δ ds (acc ++ [d]) else .no := rfl
theorem e_ctrue : cTrue δ = .ok true := rfl
end
theorem e_all0 : dAll [.lst []] = .ok (.bl true) := rfl
theorem e_all1 {b : Bool} : dAll [.lst [.bl b]] = .ok (.bl b) := by cases b <;> rfl
theorem e_all2 {a b : Bool} : dAll [.lst [.bl a, .bl b]] = .ok (.bl (a && b)) := by cases a <;> cases b <;> rfl
theorem e_all3 {a b c : Bool} : dAll [.lst [.bl a, .bl b, .bl c]] = .ok (.bl (a && (b && c))) := by cases a <;> cases b <;> cases c <;> rfl
theorem i_lt : dIsi (isBt .list) (.tup ds) = .ok (.bl false) := rfl
theorem i_li : dIsi (isBt .list) (.int i) = .ok (.bl false) := rfl
theorem i_lb : dIsi (isBt .list) (.bl b) = .ok (.bl false) := rfl
theorem i_ls : dIsi (isBt .list) (.str x) = .ok (.bl false) := rfl
theorem i_ln : dIsi (isBt .list) .non = .ok (.bl false) := rfl
theorem i_ll : dIsi (isBt .list) (.lst ds) = .ok (.bl true) := rfl
theorem i_lk : dIsi (isBt .list) (.kst ds) = .ok (.bl true) := rfl
theorem i_ld {ps qs} : dIsi (isBt .list) (.dct ps qs) = .ok (.bl false) := rfl
theorem i_id {ps qs} : dIsi (isBt .int) (.dct ps qs) = .ok (.bl false) := rfl
theorem i_bd {ps qs} : dIsi (isBt .bool) (.dct ps qs) = .ok (.bl false) := rfl
theorem i_st : dIsi (isBt .str) (.tup ds) = .ok (.bl false) := rfl
theorem i_si : dIsi (isBt .str) (.int i) = .ok (.bl false) := rfl
theorem i_sb : dIsi (isBt .str) (.bl b) = .ok (.bl false) := rfl
theorem i_ss : dIsi (isBt .str) (.str x) = .ok (.bl true) := rfl
theorem i_sn : dIsi (isBt .str) .non = .ok (.bl false) := rfl
theorem i_sl : dIsi (isBt .str) (.lst ds) = .ok (.bl false) := rfl
theorem i_sd {ps qs} : dIsi (isBt .str) (.dct ps qs) = .ok (.bl false) := rfl
theorem i_dt : dIsi (isBt .dict) (.tup ds) = .ok (.bl false) := rfl
theorem i_di : dIsi (isBt .dict) (.int i) = .ok (.bl false) := rfl
theorem i_db : dIsi (isBt .dict) (.bl b) = .ok (.bl false) := rfl
theorem i_ds : dIsi (isBt .dict) (.str x) = .ok (.bl false) := rfl
theorem i_dn : dIsi (isBt .dict) .non = .ok (.bl false) := rfl
theorem i_dl : dIsi (isBt .dict) (.lst ds) = .ok (.bl false) := rfl
theorem i_dd {ps qs} : dIsi (isBt .dict) (.dct ps qs) = .ok (.bl true) := rfl
theorem e_frtn : fSeq .no s1 = .no := rfl
theorem e_ono : outF .no = .no := rfl
theorem e_rsVn : rsV .no = .no := rfl
theorem e_at2 {d e f : D} : atD (d :: e :: f :: ds) 2 = .ok f := atD_int (by decide) rfl
theorem e_at3 {d e f g : D} : atD (d :: e :: f :: g :: ds) 3 = .ok g := atD_int (by decide) rfl
theorem e_at4 {d e f g h : D} : atD (d :: e :: f :: g :: h :: ds) 4 = .ok h := atD_int (by decide) rfl
theorem e_flI : D.flat (.int i) = true := by unfold D.flat; rfl
theorem e_flB : D.flat (.bl b) = true := by unfold D.flat; rfl
theorem e_flS : D.flat (.str x) = true := by unfold D.flat; rfl
theorem e_flN : D.flat .non = true := by unfold D.flat; rfl
theorem e_flL : D.flat (.lst ds) = false := by unfold D.flat; rfl
theorem e_flT : D.flat (.tup ds) = D.flat.flats ds := by rw [D.flat]
theorem e_fls0 : D.flat.flats [] = true := by rw [D.flat.flats]
theorem e_fls1 : D.flat.flats (d :: ds) = (d.flat && D.flat.flats ds) := by rw [D.flat.flats]
theorem e_if1 {α : Type} {p : Prop} [Decidable p] {u : α} : (if p then u else u) = u := ite_self ..
end
end Dw
namespace Dw
open PySem L2 PyProof.Rows
/-! ### how long a repr is -/
mutual
def D.dl : D → Nat
  | .int _ => 1901
  | .str x => (reprText x).length
  | .tup ds => 3 + D.dls ds
  | .lst ds => 3 + D.dls ds
  | .kst ds => 3 + D.dls ds
  | _ => 5
def D.dls : List D → Nat
  | [] => 0
  | d :: ds => d.dl + 2 + D.dls ds
end
mutual
def D.rp : D → Prop
  | .int i => Bd 1900 i
  | .tup ds => D.rps ds
  | .lst ds => D.rps ds
  | .kst ds => D.rps ds
  | _ => True
def D.rps : List D → Prop
  | [] => True
  | d :: ds => d.rp ∧ D.rps ds
end
theorem slen_app {x y : PySem.Str} : (x ++ y).length = x.length + y.length := len_app
theorem listText_le (ts : List PySem.Str) : (listText ts).length ≤ 3 + piled ts := by
  unfold listText
  cases ts with
  | nil =>
    have : (textFrom 0 ("[" : PySem.Str) [] ++ ("]" : PySem.Str)).length = 2 := by decide +kernel
    omega
  | cons t ts =>
    rw [slen_app]
    have e : textFrom 0 ("[" : PySem.Str) (t :: ts) = textFrom 1 (("[" : PySem.Str) ++ ("" : PySem.Str) ++ t) ts := rfl
    rw [e, textFrom_length_pos _ _ _ (by decide), slen_app, slen_app, piled_cons]
    have h1 : ("[" : PySem.Str).length = 1 := by decide +kernel
    have h2 : ("" : PySem.Str).length = 0 := by decide +kernel
    have h3 : ("]" : PySem.Str).length = 1 := by decide +kernel
    omega
theorem tupleText_le (ts : List PySem.Str) : (tupleText ts).length ≤ 3 + piled ts := by
  unfold tupleText
  rw [slen_app, slen_app]
  have h1 : ("(" : PySem.Str).length = 1 := by decide +kernel
  have h3 : ((if ts.length == 1 then ",)" else ")" : String) : PySem.Str).length ≤ 2 := by
    split <;> decide +kernel
  cases ts with
  | nil =>
    have : (PySem.Str.join ", " []).length = 0 := by decide +kernel
    omega
  | cons t ts =>
    have := join_length_add (t :: ts) (by simp)
    omega
mutual
theorem shown_le : ∀ (n : Nat) (d : D), d.good n = true → d.rp → d.toPy.shown.length ≤ d.dl ∧ d.toPy.showable = true
  | n, .non, _, _ => by unfold D.toPy PyData.shown D.dl; exact ⟨by decide +kernel, by decide⟩
  | n, .bl b, _, _ => by
    unfold D.toPy PyData.shown D.dl
    cases b <;> exact ⟨by decide +kernel, by decide⟩
  | n, .int i, _, h => by
    unfold D.rp at h
    unfold D.toPy PyData.shown D.dl
    refine ⟨len_str h, ?_⟩
    unfold PyData.showable
    exact decide_eq_true (Nat.lt_of_lt_of_le (PySem.Flt.log2_lt_of (Nat.succ_pos 1900) (h.mono (by decide))) (by decide))
  | n, .str x, _, _ => by
    unfold D.toPy PyData.shown D.dl
    exact ⟨Nat.le_refl _, by unfold PyData.showable; rfl⟩
  | n, .ty x, g, _ => by cases n <;> cases g
  | 0, .tup ds, g, _ => by cases g
  | 0, .lst ds, g, _ => by cases g
  | 0, .kst ds, g, _ => by cases g
  | n + 1, .tup ds, g, h => by
    unfold D.rp at h
    obtain ⟨h1, h2⟩ := shown_leA n ds g h
    unfold D.toPy PyData.shown D.dl
    refine ⟨Nat.le_trans (tupleText_le _) (by omega), ?_⟩
    unfold PyData.showable
    exact h2
  | n + 1, .lst ds, g, h => by
    unfold D.rp at h
    obtain ⟨h1, h2⟩ := shown_leA n ds g h
    unfold D.toPy PyData.shown D.dl
    refine ⟨Nat.le_trans (listText_le _) (by omega), ?_⟩
    unfold PyData.showable
    exact h2
  | n + 1, .kst ds, g, h => by
    unfold D.rp at h
    obtain ⟨h1, h2⟩ := shown_leA n ds g h
    unfold D.toPy PyData.shown D.dl
    refine ⟨Nat.le_trans (listText_le _) (by omega), ?_⟩
    unfold PyData.showable
    exact h2
  | n, .dct _ _, g, _ => by cases n <;> cases g
  | n, .obj _ _ _, g, _ => by cases n <;> cases g
  | n, .exc _, g, _ => by cases n <;> cases g
theorem shown_leA : ∀ (n : Nat) (ds : List D), ds.all (D.good n) = true → D.rps ds → piled (PyData.shownAll (D.toPys ds)) ≤ D.dls ds ∧ PyData.showableAll (D.toPys ds) = true
  | n, [], _, _ => by unfold D.toPys PyData.shownAll D.dls PyData.showableAll; exact ⟨by rw [piled_nil]; exact Nat.le_refl _, rfl⟩
  | n, d :: ds, g, h => by
    unfold D.rps at h
    have g' := Bool.and_eq_true_iff.mp (show (d.good n && ds.all (D.good n)) = true from g)
    obtain ⟨h1, h2⟩ := shown_le n d g'.1 h.1
    obtain ⟨h3, h4⟩ := shown_leA n ds g'.2 h.2
    unfold D.toPys PyData.shownAll D.dls PyData.showableAll
    rw [piled_cons, h2, h4]
    exact ⟨by omega, rfl⟩
end
theorem repr_ok {d : D} (g : d.good 20 = true) (h : d.rp) (hz : d.dl ≤ 10000000) : ∃ S, dRepr [d] = .ok (.str S) := by
  obtain ⟨h1, h2⟩ := shown_le 20 d g h
  refine ⟨d.toPy.shown, ?_⟩
  show (if d.good 20 = true then (if d.toPy.showable = true ∧ d.toPy.shown.length ≤ sizeLine then R.ok (D.str d.toPy.shown) else .no) else (if isD0 d = true then .ok (.str "{}") else .no)) = _
  rw [if_pos g, if_pos ⟨h2, sz (by omega)⟩]
theorem repr_d0 : dRepr [.dct [] []] = .ok (.str "{}") := rfl
theorem ne_strS (S : PySem.Str) : dNe (.str S) (.str S) = .ok (.bl false) := by rw [e_neSS]; simp
end Dw
namespace Dw
open PySem L2 PyProof.Rows
/-! ### texts, by their signs' numbers -/
def T (l : List Nat) : PySem.Str := SX.S l
theorem T_len (a : List Nat) : (T a).length = a.length := SX.S_len a
theorem T_cat (a b : List Nat) : T a ++ T b = T (a ++ b) := SX.S_cat a b
theorem T_inj {a b : List Nat} (h : T a = T b) : a = b := SX.S_inj h
theorem T_tl (a : List Nat) : (T a).cps.toList = a := rfl
theorem of_T (x : PySem.Str) : ∃ l, x = T l := ⟨x.cps.toList, (SX.S_tl x).symm⟩
section
variable {a b : List Nat} {i : Int} {δ : List Sl} {c1 c2 : C}
theorem e_lenS (h : a.length ≤ 10000000) : dLen [.str (T a)] = .ok (.int a.length) := by
  show (if (T a).length ≤ sizeLine then R.ok (D.int (T a).length) else .no) = _
  rw [T_len, if_pos (sz h)]
theorem e_addS (h : a.length + b.length ≤ 10000000) : dAddA (.str (T a)) (.str (T b)) = .ok (.str (T (a ++ b))) := by
  rw [e_addSS, T_len, T_len, if_pos (sz h), T_cat]
theorem e_eqS : dEq (.str (T a)) (.str (T b)) = .ok (.bl (decide (a = b))) := by
  rw [e_eqSS]
  congr 2
  exact decide_eq_decide.mpr ⟨T_inj, fun h => by rw [h]⟩
theorem e_neS : dNe (.str (T a)) (.str (T b)) = .ok (.bl (!decide (a = b))) := by
  rw [e_neSS]
  congr 3
  exact decide_eq_decide.mpr ⟨T_inj, fun h => by rw [h]⟩
theorem e_slTo (h : a.length ≤ 10000000) (hi : 0 ≤ i) : dSlA none (some i) (.str (T a)) = .ok (.str (T (a.take i.toNat))) := by
  show (if (T a).length ≤ sizeLine then R.ok (D.str (cutS (T a) none (some i))) else .no) = _
  rw [T_len, if_pos (sz h), C8.cutS_slice]
  unfold T
  rw [SX.slice_to hi]
theorem e_slFr (h : a.length ≤ 10000000) (hi : 0 ≤ i) : dSlA (some i) none (.str (T a)) = .ok (.str (T (a.drop i.toNat))) := by
  show (if (T a).length ≤ sizeLine then R.ok (D.str (cutS (T a) (some i) none)) else .no) = _
  rw [T_len, if_pos (sz h), C8.cutS_slice]
  unfold T
  rw [SX.slice_from hi]
theorem e_ixS0 {c : Nat} {r : List Nat} (h : (c :: r).length ≤ 10000000) : dIx (.str (T (c :: r))) (.int 0) = .ok (.str (T [c])) := by
  show (if (T (c :: r)).length ≤ sizeLine then (match atI (T (c :: r)).cps.toList 0 with
    | some c => R.ok (D.str ⟨#[c]⟩)
    | none => .no) else .no) = _
  rw [T_len, if_pos (sz h), T_tl]
  have e : atI (c :: r) 0 = some c := by
    unfold atI ixN
    simp
  rw [e]
  rfl
theorem e_ixSn {n : Nat} {c : Nat} (h : a.length ≤ 10000000) (hc : a[n]? = some c) : dIx (.str (T a)) (.int (n : Int)) = .ok (.str (T [c])) := by
  show (if (T a).length ≤ sizeLine then (match atI (T a).cps.toList (n : Int) with
    | some c => R.ok (D.str ⟨#[c]⟩)
    | none => .no) else .no) = _
  rw [T_len, if_pos (sz h), T_tl]
  have hn := (List.getElem?_eq_some_iff.mp hc).1
  have e : atI a (n : Int) = some c := by
    unfold atI
    rw [ixN_nat hn]
    exact hc
  rw [e]
  rfl
theorem e_itS : dItems (.str (T a)) = .ok (a.map fun c => .str (T [c])) := rfl
theorem e_inS {c : Nat} : dIn (.str (T [c])) (.str (T b)) = .ok (.bl (decide (c ∈ b))) := rfl
theorem e_ninS {c : Nat} : dNin (.str (T [c])) (.str (T b)) = .ok (.bl (!decide (c ∈ b))) := rfl
theorem e_m1 {ok : D → Bool} {f : D → D → R D} : cM1 ok f c1 c2 δ = (c1 δ).bind fun d => if ok d = true then (c2 δ).bind fun e => f d e else .no := rfl
theorem e_isSD {x : PySem.Str} : isSD (.str x) = true := rfl
theorem e_part0 (h : a.length ≤ 10000000) (hc : 47 ∉ a) : gPart (.str (T a)) (.str (T [47])) = .ok (.tup [.str (T a), .str (T []), .str (T [])]) := by
  have e : Txt.partition (T a) (T [47]) = (T a, T [], T []) := SX.partition_none (by simp) (SX.par_head_none hc)
  show (if ((T [47]).length == 0) = false ∧ (T a).length ≤ sizeLine then R.ok (D.tup [.str (Txt.partition (T a) (T [47])).1, .str (Txt.partition (T a) (T [47])).2.1, .str (Txt.partition (T a) (T [47])).2.2]) else .no) = _
  rw [e, if_pos ⟨rfl, by rw [T_len]; exact sz h⟩]
theorem e_part1 (h : (a ++ 47 :: b).length ≤ 10000000) (hc : 47 ∉ a) : gPart (.str (T (a ++ 47 :: b))) (.str (T [47])) = .ok (.tup [.str (T a), .str (T [47]), .str (T b)]) := by
  have e : Txt.partition (T (a ++ 47 :: b)) (T [47]) = (T a, T [47], T b) := SX.partition_some (by simp) (SX.par_head (sep := []) b hc)
  show (if ((T [47]).length == 0) = false ∧ (T (a ++ 47 :: b)).length ≤ sizeLine then R.ok (D.tup [.str (Txt.partition (T (a ++ 47 :: b)) (T [47])).1, .str (Txt.partition (T (a ++ 47 :: b)) (T [47])).2.1, .str (Txt.partition (T (a ++ 47 :: b)) (T [47])).2.2]) else .no) = _
  rw [e, if_pos ⟨rfl, by rw [T_len]; exact sz h⟩]
theorem e_spl (h : a.length ≤ 9000000) : gSpl (.str (T a)) (.str (T [47])) = .ok (.lst ((TL.spl [47] 0 [] a).map fun p => .str (T p))) := by
  have e : Txt.split (T a) (T [47]) = (TL.spl [47] 0 [] a).map SX.S := SX.split_S (by simp) (by decide)
  show (if ((T [47]).length == 0) = false ∧ (T a).length + 2 ≤ sizeLine then R.ok (D.lst ((Txt.split (T a) (T [47])).map D.str)) else .no) = _
  rw [e, if_pos ⟨rfl, by rw [T_len]; exact sz (by omega)⟩, List.map_map]
  rfl
theorem spl0 (hc : 47 ∉ a) : TL.spl [47] 0 [] a = [a] := by
  have := SX.spl_join (c := 47) (sep := []) (parts := [a]) (by simp) (by simpa using hc)
  simpa [TL.joinL] using this
theorem spl1 (hc : 47 ∉ a) : TL.spl [47] 0 [] (a ++ 47 :: b) = a :: TL.spl [47] 0 [] b := SX.spl_free (sep := [47]) b (by simp) (SX.free_head hc)
theorem spl_ne : ∀ (l acc : List Nat), TL.spl [47] 0 acc l ≠ []
  | [], acc => by rw [TL.spl_nil]; simp
  | c :: r, acc => by
    cases h : TL.pre [47] (c :: r) with
    | true => rw [TL.spl_hit h]; simp
    | false => rw [TL.spl_miss h]; exact spl_ne r _
theorem dec47 : ∀ l : List Nat, 47 ∉ l ∨ ∃ p q, l = p ++ 47 :: q ∧ 47 ∉ p
  | [] => .inl (by simp)
  | c :: r => by
    by_cases h : c = 47
    · subst h
      exact .inr ⟨[], r, rfl, by simp⟩
    · rcases dec47 r with q | ⟨p, q, e, hp⟩
      · exact .inl (by simp [q]; omega)
      · exact .inr ⟨c :: p, q, by rw [e]; rfl, by simp [hp]; omega⟩
/-! numbers -/
def numI (i : Int) : List Nat := if i < 0 then 45 :: TL.numL i.natAbs else TL.numL i.natAbs
theorem str_T (i : Int) : PySem.Str.ofString (toString i) = T (numI i) := by
  unfold numI T
  by_cases h : i < 0
  · rw [if_pos h, Int.toString_eq_repr, Int.repr_eq_if, if_neg (by omega)]
    have e1 := SX.num_S i.natAbs
    rw [Int.toString_eq_repr, Int.repr_eq_if, if_pos (by omega), Int.toNat_natCast] at e1
    have e2 : (-i).toNat = i.natAbs := by omega
    rw [e2]
    rw [PySem.Str.ofString_eq_toList] at e1 ⊢
    have e3 : (i.natAbs.repr.toList.map Char.toNat) = TL.numL i.natAbs := SX.S_inj e1
    have e4 : ("-" ++ i.natAbs.repr).toList = '-' :: i.natAbs.repr.toList := by
      rw [String.toList_append]
      rfl
    rw [e4, List.map_cons, e3]
    rfl
  · rw [if_neg h]
    have e : i = ((i.natAbs : Nat) : Int) := by omega
    rw [e]
    exact SX.num_S _
theorem e_strT (h : Bd 1900 i) : dStr1 [.int i] = .ok (.str (T (numI i))) := by
  rw [e_str1 h, ← str_T]
theorem fold_lt : ∀ (l : List Nat) (acc : Nat), NumText.AllDigits l → l.foldl (fun acc c => acc * 10 + (c - 48)) acc < (acc + 1) * 10 ^ l.length
  | [], acc, _ => by simp
  | c :: r, acc, h => by
    have hc := h.head
    have ih := fold_lt r (acc * 10 + (c - 48)) h.tail
    rw [List.foldl_cons, List.length_cons, Nat.pow_succ]
    refine Nat.lt_of_lt_of_le ih ?_
    have e : (acc + 1) * (10 ^ r.length * 10) = (acc + 1) * 10 * 10 ^ r.length := by ac_rfl
    rw [e]
    exact Nat.mul_le_mul_right _ (by omega)
theorem dv_lt {l : List Nat} (h : NumText.AllDigits l) : NumText.digitsVal l < 10 ^ l.length := by
  have := fold_lt l 0 h
  simpa [NumText.digitsVal] using this
theorem fold_ge : ∀ (l : List Nat) (acc : Nat), acc ≤ l.foldl (fun acc c => acc * 10 + (c - 48)) acc
  | [], acc => Nat.le_refl _
  | c :: r, acc => Nat.le_trans (by omega) (fold_ge r (acc * 10 + (c - 48)))
theorem dv_pos {c : Nat} {r : List Nat} (hc : 48 < c) : 0 < NumText.digitsVal (c :: r) := by
  unfold NumText.digitsVal
  rw [List.foldl_cons]
  exact Nat.lt_of_lt_of_le (by omega) (fold_ge r _)
theorem numL_head : ∀ {n : Nat}, 0 < n → ∃ c r, TL.numL n = c :: r ∧ 48 < c ∧ c ≤ 57 := by
  intro n
  induction n using Nat.strongRecOn with
  | _ n ih =>
    intro h
    by_cases h10 : n < 10
    · exact ⟨48 + n, [], TL.numL_lt h10, by omega, by omega⟩
    · obtain ⟨c, r, e, h1, h2⟩ := ih (n / 10) (by omega) (by omega)
      exact ⟨c, r ++ [48 + n % 10], by rw [TL.numL_step (by omega), e]; rfl, h1, h2⟩
theorem numL_lenB {n p : Nat} (hp : 0 < p) (h : n < 2 ^ p) : (TL.numL n).length ≤ p := TL.numL_len hp (Nat.lt_of_lt_of_le h (Nat.pow_le_pow_left (by decide) p))
end
end Dw
namespace Law
open PySem L2 PyProof.Rows Dw
/-! the text by places -/
def top (i : Nat) : Stmt := PySem.Challenge.pw_widthwise_k05_whole_sets_put_together.main.body.getD i (.Pass ⟨0, 0, 0, 0⟩)
abbrev s_common_divisor : Stmt := top 4
theorem sc_common_divisor : FnScope ["one", "other"] ["one", "other"] (defScope s_common_divisor) := ⟨by kernel_rfl, by kernel_rfl, by kernel_rfl, by decide +kernel, by kernel_rfl, by decide +kernel, by decide +kernel⟩
noncomputable def c_common_divisor_t1 : CB :=
    (cBin (fun d e => (dGt d e).bind asB) (cVar 1) (cC (.int 0)))
noncomputable def c_common_divisor_b1 : CS :=
    (cPar2 0 1 (cCons (cVar 1) (cCons (cBin dMod (cVar 0) (cVar 1)) cNil)))
noncomputable def c_common_divisor : CS :=
    (cSeq (cWh c_common_divisor_t1
    c_common_divisor_b1)
    (cRetO 0))
noncomputable def m_common_divisor : List D → Rs := run 2 c_common_divisor
noncomputable def G_common_divisor : Dw.Ctx := { N := ["one", "other"], F := fun x n => none, Gc := fun x => none, isi := fun x => none, M := [], exs := [], exm := fun x => none, L := [], O := [] }
theorem b_common_divisor : body G_common_divisor (defScope s_common_divisor) 40 20 (defBody s_common_divisor) = c_common_divisor := by kernel_rfl
abbrev s_is_whole : Stmt := top 5
theorem sc_is_whole : FnScope ["thing"] ["thing"] (defScope s_is_whole) := ⟨by kernel_rfl, by kernel_rfl, by kernel_rfl, by decide +kernel, by kernel_rfl, by decide +kernel, by decide +kernel⟩
noncomputable def c_is_whole : CS :=
    (cRetV (cAndV [(cUn (dIsi (isBt .int)) (cVar 0)), (cUn dNotV (cUn (dIsi (isBt .bool)) (cVar 0)))]))
noncomputable def m_is_whole : List D → Rs := run 1 c_is_whole
noncomputable def G_is_whole : Dw.Ctx := { N := ["thing"], F := fun x n => none, Gc := fun x => none, isi := fun x => none, M := [], exs := [], exm := fun x => none, L := [], O := [] }
theorem b_is_whole : body G_is_whole (defScope s_is_whole) 40 20 (defBody s_is_whole) = c_is_whole := by kernel_rfl
abbrev s_is_part : Stmt := top 6
theorem sc_is_part : FnScope ["thing"] ["thing"] (defScope s_is_part) := ⟨by kernel_rfl, by kernel_rfl, by kernel_rfl, by decide +kernel, by kernel_rfl, by decide +kernel, by decide +kernel⟩
noncomputable def c_is_part : CS :=
    (cSeq (cIfS (cOrB [(cNotB (cUn dTru (cUn (dIsi (isBt .tuple)) (cVar 0)))), (cBin (fun d e => (dNe d e).bind asB) (cApp dLen (cCons (cVar 0) cNil)) (cC (.int 2))), (cNotB (cUn dTru (cCall 1 m_is_whole (cCons (cIxV 0 (cC (.int 0))) cNil)))), (cNotB (cUn dTru (cCall 1 m_is_whole (cCons (cIxV 0 (cC (.int 1))) cNil))))])
    (cRetV (cC (.bl false)))
    cNx)
    (cRetV (cAndV [(cBin dGe (cIxV 0 (cC (.int 1))) (cC (.int 1))), (cBin dEq (cCall 2 m_common_divisor (cCons (cApp dAbs (cCons (cIxV 0 (cC (.int 0))) cNil)) (cCons (cIxV 0 (cC (.int 1))) cNil))) (cC (.int 1)))])))
noncomputable def m_is_part : List D → Rs := run 1 c_is_part
noncomputable def G_is_part : Dw.Ctx := { N := ["thing"], F := fun x n => if x = "is_whole" ∧ n = 1 then some m_is_whole else if x = "common_divisor" ∧ n = 2 then some m_common_divisor else none, Gc := fun x => none, isi := fun x => none, M := [], exs := [], exm := fun x => none, L := [], O := [] }
theorem b_is_part : body G_is_part (defScope s_is_part) 40 20 (defBody s_is_part) = c_is_part := by kernel_rfl
abbrev s_is_width : Stmt := top 7
theorem sc_is_width : FnScope ["thing"] ["thing"] (defScope s_is_width) := ⟨by kernel_rfl, by kernel_rfl, by kernel_rfl, by decide +kernel, by kernel_rfl, by decide +kernel, by decide +kernel⟩
noncomputable def c_is_width : CS :=
    (cRetV (cAndV [(cCall 1 m_is_part (cCons (cVar 0) cNil)), (cBin dGe (cIxV 0 (cC (.int 0))) (cC (.int 0)))]))
noncomputable def m_is_width : List D → Rs := run 1 c_is_width
noncomputable def G_is_width : Dw.Ctx := { N := ["thing"], F := fun x n => if x = "is_part" ∧ n = 1 then some m_is_part else none, Gc := fun x => none, isi := fun x => none, M := [], exs := [], exm := fun x => none, L := [], O := [] }
theorem b_is_width : body G_is_width (defScope s_is_width) 40 20 (defBody s_is_width) = c_is_width := by kernel_rfl
abbrev s_is_more : Stmt := top 8
theorem sc_is_more : FnScope ["one", "other"] ["one", "other"] (defScope s_is_more) := ⟨by kernel_rfl, by kernel_rfl, by kernel_rfl, by decide +kernel, by kernel_rfl, by decide +kernel, by decide +kernel⟩
noncomputable def c_is_more : CS :=
    (cRetV (cBin dGt (cBin dMul (cIxV 0 (cC (.int 0))) (cIxV 1 (cC (.int 1)))) (cBin dMul (cIxV 1 (cC (.int 0))) (cIxV 0 (cC (.int 1))))))
noncomputable def m_is_more : List D → Rs := run 2 c_is_more
noncomputable def G_is_more : Dw.Ctx := { N := ["one", "other"], F := fun x n => none, Gc := fun x => none, isi := fun x => none, M := [], exs := [], exm := fun x => none, L := [], O := [] }
theorem b_is_more : body G_is_more (defScope s_is_more) 40 20 (defBody s_is_more) = c_is_more := by kernel_rfl
abbrev s_lesser : Stmt := top 9
theorem sc_lesser : FnScope ["one", "other"] ["one", "other"] (defScope s_lesser) := ⟨by kernel_rfl, by kernel_rfl, by kernel_rfl, by decide +kernel, by kernel_rfl, by decide +kernel, by decide +kernel⟩
noncomputable def c_lesser : CS :=
    (cSeq (cIfS (cUn dTru (cCall 2 m_is_more (cCons (cVar 0) (cCons (cVar 1) cNil))))
    (cRetO 1)
    cNx)
    (cRetO 0))
noncomputable def m_lesser : List D → Rs := run 2 c_lesser
noncomputable def G_lesser : Dw.Ctx := { N := ["one", "other"], F := fun x n => if x = "is_more" ∧ n = 2 then some m_is_more else none, Gc := fun x => none, isi := fun x => none, M := [], exs := [], exm := fun x => none, L := [], O := [] }
theorem b_lesser : body G_lesser (defScope s_lesser) 40 20 (defBody s_lesser) = c_lesser := by kernel_rfl
abbrev s_greater : Stmt := top 10
theorem sc_greater : FnScope ["one", "other"] ["one", "other"] (defScope s_greater) := ⟨by kernel_rfl, by kernel_rfl, by kernel_rfl, by decide +kernel, by kernel_rfl, by decide +kernel, by decide +kernel⟩
noncomputable def c_greater : CS :=
    (cSeq (cIfS (cUn dTru (cCall 2 m_is_more (cCons (cVar 0) (cCons (cVar 1) cNil))))
    (cRetO 0)
    cNx)
    (cRetO 1))
noncomputable def m_greater : List D → Rs := run 2 c_greater
noncomputable def G_greater : Dw.Ctx := { N := ["one", "other"], F := fun x n => if x = "is_more" ∧ n = 2 then some m_is_more else none, Gc := fun x => none, isi := fun x => none, M := [], exs := [], exm := fun x => none, L := [], O := [] }
theorem b_greater : body G_greater (defScope s_greater) 40 20 (defBody s_greater) = c_greater := by kernel_rfl
abbrev s_is_pair : Stmt := top 13
theorem sc_is_pair : FnScope ["thing"] ["thing"] (defScope s_is_pair) := ⟨by kernel_rfl, by kernel_rfl, by kernel_rfl, by decide +kernel, by kernel_rfl, by decide +kernel, by decide +kernel⟩
noncomputable def c_is_pair : CS :=
    (cSeq (cIfS (cOrB [(cNotB (cUn dTru (cUn (dIsi (isBt .tuple)) (cVar 0)))), (cBin (fun d e => (dNe d e).bind asB) (cApp dLen (cCons (cVar 0) cNil)) (cC (.int 2))), (cNotB (cUn dTru (cCall 1 m_is_width (cCons (cIxV 0 (cC (.int 0))) cNil))))])
    (cRetV (cC (.bl false)))
    cNx)
    (cRetV (cOrV [(cBin dIs (cIxV 0 (cC (.int 1))) (cC (.non))), (cCall 1 m_is_part (cCons (cIxV 0 (cC (.int 1))) cNil))])))
noncomputable def m_is_pair : List D → Rs := run 1 c_is_pair
noncomputable def G_is_pair : Dw.Ctx := { N := ["thing"], F := fun x n => if x = "is_width" ∧ n = 1 then some m_is_width else if x = "is_part" ∧ n = 1 then some m_is_part else none, Gc := fun x => none, isi := fun x => none, M := [], exs := [], exm := fun x => none, L := [], O := [] }
theorem b_is_pair : body G_is_pair (defScope s_is_pair) 40 20 (defBody s_is_pair) = c_is_pair := by kernel_rfl
abbrev s_is_spans : Stmt := top 14
theorem sc_is_spans : FnScope ["thing", "at", "pair"] ["thing"] (defScope s_is_spans) := ⟨by kernel_rfl, by kernel_rfl, by kernel_rfl, by decide +kernel, by kernel_rfl, by decide +kernel, by decide +kernel⟩
noncomputable def c_is_spans_e1 : C :=
    (cCall 1 m_is_pair (cCons (cVar 2) cNil))
noncomputable def c_is_spans_b1 : CS :=
    (cSeq (cIfS (cAndB [(cBin (fun d e => (dNot d e).bind asB) (cIxV 2 (cC (.int 1))) (cC (.non))), (cNotB (cUn dTru (cCall 2 m_is_more (cCons (cIxV 2 (cC (.int 1))) (cCons (cIxV 2 (cC (.int 0))) cNil)))))])
    (cRetV (cC (.bl false)))
    cNx)
    (cIfS (cAndB [(cBin (fun d e => (dGt d e).bind asB) (cVar 1) (cC (.int 0))), (cOrB [(cBin (fun d e => (dIs d e).bind asB) (cBin dIx (cIxV 0 (cBin dSub (cVar 1) (cC (.int 1)))) (cC (.int 1))) (cC (.non))), (cNotB (cUn dTru (cCall 2 m_is_more (cCons (cIxV 2 (cC (.int 0))) (cCons (cBin dIx (cIxV 0 (cBin dSub (cVar 1) (cC (.int 1)))) (cC (.int 1))) cNil)))))])])
    (cRetV (cC (.bl false)))
    cNx))
noncomputable def c_is_spans : CS :=
    (cSeq (cIfS (cOrB [(cNotB (cUn dTru (cUn (dIsi (isBt .list)) (cVar 0)))), (cNotB (cUn dTru (cApp dAll (cCons (cL (cLc (cUn dItems (cVar 0)) (tName 2) cTrue c_is_spans_e1 [2])) cNil))))])
    (cRetV (cC (.bl false)))
    cNx)
    (cSeq (cFor (cApp dEnum (cCons (cVar 0) cNil)) (tTupT 2 (tCons' (tName 1) (tCons' (tName 2) tNil')))
    c_is_spans_b1)
    (cRetV (cC (.bl true)))))
noncomputable def m_is_spans : List D → Rs := run 3 c_is_spans
noncomputable def G_is_spans : Dw.Ctx := { N := ["thing", "at", "pair"], F := fun x n => if x = "is_pair" ∧ n = 1 then some m_is_pair else if x = "is_more" ∧ n = 2 then some m_is_more else none, Gc := fun x => none, isi := fun x => none, M := [], exs := [], exm := fun x => none, L := [], O := [] }
theorem b_is_spans : body G_is_spans (defScope s_is_spans) 40 20 (defBody s_is_spans) = c_is_spans := by kernel_rfl
abbrev s_need_spans : Stmt := top 15
theorem sc_need_spans : FnScope ["thing"] ["thing"] (defScope s_need_spans) := ⟨by kernel_rfl, by kernel_rfl, by kernel_rfl, by decide +kernel, by kernel_rfl, by decide +kernel, by decide +kernel⟩
noncomputable def c_need_spans : CS :=
    (cIfS (cNotB (cUn dTru (cCall 1 m_is_spans (cCons (cVar 0) cNil))))
    (cRz "NoSpan")
    cNx)
noncomputable def m_need_spans : List D → Rs := run 1 c_need_spans
noncomputable def G_need_spans : Dw.Ctx := { N := ["thing"], F := fun x n => if x = "is_spans" ∧ n = 1 then some m_is_spans else none, Gc := fun x => none, isi := fun x => none, M := [], exs := ["NoSpan"], exm := fun x => none, L := [], O := [] }
theorem b_need_spans : body G_need_spans (defScope s_need_spans) 40 20 (defBody s_need_spans) = c_need_spans := by kernel_rfl
abbrev s_sorted_by_low : Stmt := top 16
theorem sc_sorted_by_low : FnScope ["pairs", "found", "pair", "at"] ["pairs"] (defScope s_sorted_by_low) := ⟨by kernel_rfl, by kernel_rfl, by kernel_rfl, by decide +kernel, by kernel_rfl, by decide +kernel, by decide +kernel⟩
noncomputable def c_sorted_by_low_t1 : CB :=
    (cAndB [(cBin (fun d e => (dLt d e).bind asB) (cVar 3) (cApp dLen (cCons (cVar 1) cNil))), (cNotB (cUn dTru (cCall 2 m_is_more (cCons (cBin dIx (cIxV 1 (cVar 3)) (cC (.int 0))) (cCons (cIxV 2 (cC (.int 0))) cNil)))))])
noncomputable def c_sorted_by_low_b1 : CS :=
    (cAug 3 (fun a b => a + b) (cC (.int 1)))
noncomputable def c_sorted_by_low_b2 : CS :=
    (cSeq (cAsg 3 (cC (.int 0)))
    (cSeq (cWh c_sorted_by_low_t1
    c_sorted_by_low_b1)
    (cIns 1 (cVar 3) (cVar 2))))
noncomputable def c_sorted_by_low : CS :=
    (cSeq (cAsgN 1 (cApp dLst cNil))
    (cSeq (cFor (cUn dItems (cVar 0)) (tName 2)
    c_sorted_by_low_b2)
    (cRetO 1)))
noncomputable def m_sorted_by_low : List D → Rs := run 4 c_sorted_by_low
noncomputable def G_sorted_by_low : Dw.Ctx := { N := ["pairs", "found", "pair", "at"], F := fun x n => if x = "is_more" ∧ n = 2 then some m_is_more else none, Gc := fun x => none, isi := fun x => none, M := ["found"], exs := [], exm := fun x => none, L := [], O := [] }
theorem b_sorted_by_low : body G_sorted_by_low (defScope s_sorted_by_low) 40 20 (defBody s_sorted_by_low) = c_sorted_by_low := by kernel_rfl
abbrev s_higher : Stmt := top 17
theorem sc_higher : FnScope ["one", "other"] ["one", "other"] (defScope s_higher) := ⟨by kernel_rfl, by kernel_rfl, by kernel_rfl, by decide +kernel, by kernel_rfl, by decide +kernel, by decide +kernel⟩
noncomputable def c_higher : CS :=
    (cSeq (cIfS (cOrB [(cBin (fun d e => (dIs d e).bind asB) (cVar 0) (cC (.non))), (cBin (fun d e => (dIs d e).bind asB) (cVar 1) (cC (.non)))])
    (cRetV (cC (.non)))
    cNx)
    (cRetV (cCall 2 m_greater (cCons (cVar 0) (cCons (cVar 1) cNil)))))
noncomputable def m_higher : List D → Rs := run 2 c_higher
noncomputable def G_higher : Dw.Ctx := { N := ["one", "other"], F := fun x n => if x = "greater" ∧ n = 2 then some m_greater else none, Gc := fun x => none, isi := fun x => none, M := [], exs := [], exm := fun x => none, L := [], O := [] }
theorem b_higher : body G_higher (defScope s_higher) 40 20 (defBody s_higher) = c_higher := by kernel_rfl
abbrev s_lower : Stmt := top 18
theorem sc_lower : FnScope ["one", "other"] ["one", "other"] (defScope s_lower) := ⟨by kernel_rfl, by kernel_rfl, by kernel_rfl, by decide +kernel, by kernel_rfl, by decide +kernel, by decide +kernel⟩
noncomputable def c_lower : CS :=
    (cSeq (cIfS (cBin (fun d e => (dIs d e).bind asB) (cVar 0) (cC (.non)))
    (cRetO 1)
    cNx)
    (cSeq (cIfS (cBin (fun d e => (dIs d e).bind asB) (cVar 1) (cC (.non)))
    (cRetO 0)
    cNx)
    (cRetV (cCall 2 m_lesser (cCons (cVar 0) (cCons (cVar 1) cNil))))))
noncomputable def m_lower : List D → Rs := run 2 c_lower
noncomputable def G_lower : Dw.Ctx := { N := ["one", "other"], F := fun x n => if x = "lesser" ∧ n = 2 then some m_lesser else none, Gc := fun x => none, isi := fun x => none, M := [], exs := [], exm := fun x => none, L := [], O := [] }
theorem b_lower : body G_lower (defScope s_lower) 40 20 (defBody s_lower) = c_lower := by kernel_rfl
abbrev s_gathered : Stmt := top 19
theorem sc_gathered : FnScope ["pairs", "found", "low", "high"] ["pairs"] (defScope s_gathered) := ⟨by kernel_rfl, by kernel_rfl, by kernel_rfl, by decide +kernel, by kernel_rfl, by decide +kernel, by decide +kernel⟩
noncomputable def c_gathered_b1 : CS :=
    (cSeq (cIfS (cAndB [(cBin (fun d e => (dNot d e).bind asB) (cVar 3) (cC (.non))), (cNotB (cUn dTru (cCall 2 m_is_more (cCons (cVar 3) (cCons (cVar 2) cNil)))))])
    cCt
    cNx)
    (cIfS (cAndB [(cBin (fun d e => (dNe d e).bind asB) (cVar 1) (cL (cApp dLst cNil))), (cOrB [(cBin (fun d e => (dIs d e).bind asB) (cBin dIx (cIxV 1 (cUn dNeg (cC (.int 1)))) (cC (.int 1))) (cC (.non))), (cNotB (cUn dTru (cCall 2 m_is_more (cCons (cVar 2) (cCons (cBin dIx (cIxV 1 (cUn dNeg (cC (.int 1)))) (cC (.int 1))) cNil)))))])])
    (cSetI 1 (cUn dNeg (cC (.int 1))) (cApp dTup (cCons (cBin dIx (cIxV 1 (cUn dNeg (cC (.int 1)))) (cC (.int 0))) (cCons (cCall 2 m_higher (cCons (cBin dIx (cIxV 1 (cUn dNeg (cC (.int 1)))) (cC (.int 1))) (cCons (cVar 3) cNil))) cNil))))
    (cAppd 1 (cApp dTup (cCons (cVar 2) (cCons (cVar 3) cNil))))))
noncomputable def c_gathered : CS :=
    (cSeq (cAsgN 1 (cApp dLst cNil))
    (cSeq (cFor (cUn dItems (cCall 1 m_sorted_by_low (cCons (cVar 0) cNil))) (tTupT 2 (tCons' (tName 2) (tCons' (tName 3) tNil')))
    c_gathered_b1)
    (cRetO 1)))
noncomputable def m_gathered : List D → Rs := run 4 c_gathered
noncomputable def G_gathered : Dw.Ctx := { N := ["pairs", "found", "low", "high"], F := fun x n => if x = "sorted_by_low" ∧ n = 1 then some m_sorted_by_low else if x = "is_more" ∧ n = 2 then some m_is_more else if x = "higher" ∧ n = 2 then some m_higher else none, Gc := fun x => none, isi := fun x => none, M := ["found"], exs := [], exm := fun x => none, L := [], O := [] }
theorem b_gathered : body G_gathered (defScope s_gathered) 40 20 (defBody s_gathered) = c_gathered := by kernel_rfl
abbrev s_united : Stmt := top 20
theorem sc_united : FnScope ["one", "other"] ["one", "other"] (defScope s_united) := ⟨by kernel_rfl, by kernel_rfl, by kernel_rfl, by decide +kernel, by kernel_rfl, by decide +kernel, by decide +kernel⟩
noncomputable def c_united : CS :=
    (cSeq (cExp (cCall 1 m_need_spans (cCons (cVar 0) cNil)))
    (cSeq (cExp (cCall 1 m_need_spans (cCons (cVar 1) cNil)))
    (cRetN (cCallN 1 m_gathered (cCons (cBin dAddA (cVar 0) (cVar 1)) cNil)))))
noncomputable def m_united : List D → Rs := run 2 c_united
noncomputable def G_united : Dw.Ctx := { N := ["one", "other"], F := fun x n => if x = "need_spans" ∧ n = 1 then some m_need_spans else if x = "gathered" ∧ n = 1 then some m_gathered else none, Gc := fun x => none, isi := fun x => none, M := [], exs := [], exm := fun x => none, L := ["gathered"], O := [] }
theorem b_united : body G_united (defScope s_united) 40 20 (defBody s_united) = c_united := by kernel_rfl
abbrev s_common : Stmt := top 21
theorem sc_common : FnScope ["one", "other", "found", "low", "high", "other_low", "other_high"] ["one", "other"] (defScope s_common) := ⟨by kernel_rfl, by kernel_rfl, by kernel_rfl, by decide +kernel, by kernel_rfl, by decide +kernel, by decide +kernel⟩
noncomputable def c_common_b1 : CS :=
    (cAppd 2 (cApp dTup (cCons (cCall 2 m_greater (cCons (cVar 3) (cCons (cVar 5) cNil))) (cCons (cCall 2 m_lower (cCons (cVar 4) (cCons (cVar 6) cNil))) cNil))))
noncomputable def c_common_b2 : CS :=
    (cFor (cUn dItems (cVar 1)) (tTupT 2 (tCons' (tName 5) (tCons' (tName 6) tNil')))
    c_common_b1)
noncomputable def c_common : CS :=
    (cSeq (cExp (cCall 1 m_need_spans (cCons (cVar 0) cNil)))
    (cSeq (cExp (cCall 1 m_need_spans (cCons (cVar 1) cNil)))
    (cSeq (cAsgN 2 (cApp dLst cNil))
    (cSeq (cFor (cUn dItems (cVar 0)) (tTupT 2 (tCons' (tName 3) (tCons' (tName 4) tNil')))
    c_common_b2)
    (cRetN (cCallN 1 m_gathered (cCons (cVar 2) cNil)))))))
noncomputable def m_common : List D → Rs := run 7 c_common
noncomputable def G_common : Dw.Ctx := { N := ["one", "other", "found", "low", "high", "other_low", "other_high"], F := fun x n => if x = "need_spans" ∧ n = 1 then some m_need_spans else if x = "greater" ∧ n = 2 then some m_greater else if x = "lower" ∧ n = 2 then some m_lower else if x = "gathered" ∧ n = 1 then some m_gathered else none, Gc := fun x => none, isi := fun x => none, M := ["found"], exs := [], exm := fun x => none, L := ["gathered"], O := [] }
theorem b_common : body G_common (defScope s_common) 40 20 (defBody s_common) = c_common := by kernel_rfl
abbrev s_outside : Stmt := top 22
theorem sc_outside : FnScope ["one", "found", "low", "pair"] ["one"] (defScope s_outside) := ⟨by kernel_rfl, by kernel_rfl, by kernel_rfl, by decide +kernel, by kernel_rfl, by decide +kernel, by decide +kernel⟩
noncomputable def c_outside_b1 : CS :=
    (cSeq (cAppd 1 (cApp dTup (cCons (cVar 2) (cCons (cIxV 3 (cC (.int 0))) cNil))))
    (cAsg 2 (cIxV 3 (cC (.int 1)))))
noncomputable def c_outside : CS :=
    (cSeq (cExp (cCall 1 m_need_spans (cCons (cVar 0) cNil)))
    (cSeq (cAsgN 1 (cApp dLst cNil))
    (cSeq (cAsg 2 (cC (.tup [.int 0, .int 1])))
    (cSeq (cFor (cUn dItems (cVar 0)) (tName 3)
    c_outside_b1)
    (cSeq (cIfS (cBin (fun d e => (dNot d e).bind asB) (cVar 2) (cC (.non)))
    (cAppd 1 (cApp dTup (cCons (cVar 2) (cCons (cC (.non)) cNil))))
    cNx)
    (cRetN (cCallN 1 m_gathered (cCons (cVar 1) cNil))))))))
noncomputable def m_outside : List D → Rs := run 4 c_outside
noncomputable def G_outside : Dw.Ctx := { N := ["one", "found", "low", "pair"], F := fun x n => if x = "need_spans" ∧ n = 1 then some m_need_spans else if x = "gathered" ∧ n = 1 then some m_gathered else none, Gc := fun x => if x = "NOUGHT" then some (.tup [.int 0, .int 1]) else none, isi := fun x => none, M := ["found"], exs := [], exm := fun x => none, L := ["gathered"], O := [] }
theorem b_outside : body G_outside (defScope s_outside) 40 20 (defBody s_outside) = c_outside := by kernel_rfl
abbrev s_law_row : Stmt := top 24
theorem sc_law_row : FnScope ["_law_script", "_law_many", "_law_found", "_law_more", "_law_k", "_law_cell"] ["_law_script", "_law_many"] (defScope s_law_row) := ⟨by kernel_rfl, by kernel_rfl, by kernel_rfl, by decide +kernel, by kernel_rfl, by decide +kernel, by decide +kernel⟩
noncomputable def c_law_row_e1 : C :=
    (cBin dMod (cBin dDiv (cVar 5) (cC (.int 2))) (cBin dPow (cC (.int 10)) (cC (.int 40))))
noncomputable def c_law_row_b1 : CS :=
    (cSeq (cAsg 5 (cC (.int 0)))
    (cSeq (cIfS (cBin (fun d e => (dGt d e).bind asB) (cApp dLen (cCons (cVar 0) cNil)) (cC (.int 0)))
    (cAsg 5 (cIxV 0 (cBin dMod (cVar 4) (cApp dLen (cCons (cVar 0) cNil)))))
    cNx)
    (cSeq (cAsg 3 (cBin dMod (cBin dAddA (cBin dAddA (cBin dMul (cVar 3) (cC (.int 48271))) (cVar 5)) (cVar 4)) (cC (.int 2147483647))))
    (cAppd 2 (cBin dMod (cBin dAddA (cBin dMul (cVar 3) (cVar 3)) (cBin dMul (cC (.int 16807)) (cVar 3))) (cC (.int 2147483629)))))))
noncomputable def c_law_row : CS :=
    (cSeq (cIfS (cAndB [(cBin (fun d e => (dGt d e).bind asB) (cApp dLen (cCons (cVar 0) cNil)) (cC (.int 0))), (cBin (fun d e => (dEq d e).bind asB) (cBin dMod (cIxV 0 (cC (.int 0))) (cC (.int 2))) (cC (.int 0)))])
    (cRetN (cBin dAddN (cL (cLc (cUn dItems (cVar 0)) (tName 5) cTrue c_law_row_e1 [5])) (cL (cRep (cApp dLst (cCons (cC (.int 0)) cNil)) (cVar 1)))))
    cNx)
    (cSeq (cAsgN 2 (cApp dLst cNil))
    (cSeq (cAsg 3 (cC (.int 7)))
    (cSeq (cFor (cApp dRng1 (cCons (cApp dMax (cCons (cVar 1) (cCons (cBin dAddA (cApp dLen (cCons (cVar 0) cNil)) (cVar 1)) cNil))) cNil)) (tName 4)
    c_law_row_b1)
    (cRetO 2)))))
noncomputable def m_law_row : List D → Rs := run 6 c_law_row
noncomputable def G_law_row : Dw.Ctx := { N := ["_law_script", "_law_many", "_law_found", "_law_more", "_law_k", "_law_cell"], F := fun x n => none, Gc := fun x => none, isi := fun x => none, M := ["_law_found"], exs := [], exm := fun x => none, L := [], O := [] }
theorem b_law_row : body G_law_row (defScope s_law_row) 40 20 (defBody s_law_row) = c_law_row := by kernel_rfl
abbrev s_law_gcd : Stmt := top 25
theorem sc_law_gcd : FnScope ["_law_one", "_law_other"] ["_law_one", "_law_other"] (defScope s_law_gcd) := ⟨by kernel_rfl, by kernel_rfl, by kernel_rfl, by decide +kernel, by kernel_rfl, by decide +kernel, by decide +kernel⟩
noncomputable def c_law_gcd_t1 : CB :=
    (cBin (fun d e => (dGt d e).bind asB) (cVar 1) (cC (.int 0)))
noncomputable def c_law_gcd_b1 : CS :=
    (cPar2 0 1 (cCons (cVar 1) (cCons (cBin dMod (cVar 0) (cVar 1)) cNil)))
noncomputable def c_law_gcd : CS :=
    (cSeq (cWh c_law_gcd_t1
    c_law_gcd_b1)
    (cRetO 0))
noncomputable def m_law_gcd : List D → Rs := run 2 c_law_gcd
noncomputable def G_law_gcd : Dw.Ctx := { N := ["_law_one", "_law_other"], F := fun x n => none, Gc := fun x => none, isi := fun x => none, M := [], exs := [], exm := fun x => none, L := [], O := [] }
theorem b_law_gcd : body G_law_gcd (defScope s_law_gcd) 40 20 (defBody s_law_gcd) = c_law_gcd := by kernel_rfl
abbrev s_law_part : Stmt := top 26
theorem sc_law_part : FnScope ["_law_top", "_law_bottom", "_law_dividing"] ["_law_top", "_law_bottom"] (defScope s_law_part) := ⟨by kernel_rfl, by kernel_rfl, by kernel_rfl, by decide +kernel, by kernel_rfl, by decide +kernel, by decide +kernel⟩
noncomputable def c_law_part : CS :=
    (cSeq (cAsg 2 (cCall 2 m_law_gcd (cCons (cApp dAbs (cCons (cVar 0) cNil)) (cCons (cVar 1) cNil))))
    (cRetV (cApp dTup (cCons (cBin dDiv (cVar 0) (cVar 2)) (cCons (cBin dDiv (cVar 1) (cVar 2)) cNil)))))
noncomputable def m_law_part : List D → Rs := run 3 c_law_part
noncomputable def G_law_part : Dw.Ctx := { N := ["_law_top", "_law_bottom", "_law_dividing"], F := fun x n => if x = "_law_gcd" ∧ n = 2 then some m_law_gcd else none, Gc := fun x => none, isi := fun x => none, M := [], exs := [], exm := fun x => none, L := [], O := [] }
theorem b_law_part : body G_law_part (defScope s_law_part) 40 20 (defBody s_law_part) = c_law_part := by kernel_rfl
abbrev s_law_grid : Stmt := top 27
theorem sc_law_grid : FnScope ["_law_row_here", "_law_bottom", "_law_top", "_law_found", "_law_k"] ["_law_row_here"] (defScope s_law_grid) := ⟨by kernel_rfl, by kernel_rfl, by kernel_rfl, by decide +kernel, by kernel_rfl, by decide +kernel, by decide +kernel⟩
noncomputable def c_law_grid_b1 : CS :=
    (cSeq (cAsg 2 (cBin dAddA (cBin dAddA (cVar 2) (cC (.int 1))) (cBin dMod (cIxV 0 (cBin dAddA (cVar 4) (cC (.int 2)))) (cBin dIx (cL (cApp dLst (cCons (cC (.int 3)) (cCons (cC (.int 20)) (cCons (cBin dPow (cC (.int 10)) (cC (.int 6))) cNil))))) (cBin dMod (cBin dDiv (cIxV 0 (cBin dAddA (cVar 4) (cC (.int 2)))) (cBin dPow (cC (.int 10)) (cC (.int 6)))) (cC (.int 3)))))))
    (cAppd 3 (cCall 2 m_law_part (cCons (cVar 2) (cCons (cVar 1) cNil)))))
noncomputable def c_law_grid : CS :=
    (cSeq (cAsg 1 (cBin dIx (cL (cApp dLst (cCons (cC (.int 1)) (cCons (cC (.int 2)) (cCons (cC (.int 3)) (cCons (cC (.int 12)) (cCons (cBin dAddA (cC (.int 1)) (cBin dMod (cBin dMul (cIxV 0 (cC (.int 1))) (cIxV 0 (cC (.int 2)))) (cBin dPow (cC (.int 10)) (cC (.int 18))))) cNil))))))) (cBin dMod (cIxV 0 (cC (.int 1))) (cC (.int 5)))))
    (cSeq (cAsg 2 (cC (.int 0)))
    (cSeq (cAsgN 3 (cApp dLst (cCons (cApp dTup (cCons (cC (.int 0)) (cCons (cC (.int 1)) cNil))) cNil)))
    (cSeq (cFor (cApp dRng1 (cCons (cBin dMod (cIxV 0 (cC (.int 0))) (cC (.int 15))) cNil)) (tName 4)
    c_law_grid_b1)
    (cRetO 3)))))
noncomputable def m_law_grid : List D → Rs := run 5 c_law_grid
noncomputable def G_law_grid : Dw.Ctx := { N := ["_law_row_here", "_law_bottom", "_law_top", "_law_found", "_law_k"], F := fun x n => if x = "_law_part" ∧ n = 2 then some m_law_part else none, Gc := fun x => none, isi := fun x => none, M := ["_law_found"], exs := [], exm := fun x => none, L := [], O := [] }
theorem b_law_grid : body G_law_grid (defScope s_law_grid) 40 20 (defBody s_law_grid) = c_law_grid := by kernel_rfl
abbrev s_law_spans : Stmt := top 28
theorem sc_law_spans : FnScope ["_law_grid_here", "_law_marks_here", "_law_found", "_law_k", "_law_high"] ["_law_grid_here", "_law_marks_here"] (defScope s_law_spans) := ⟨by kernel_rfl, by kernel_rfl, by kernel_rfl, by decide +kernel, by kernel_rfl, by decide +kernel, by decide +kernel⟩
noncomputable def c_law_spans_b1 : CS :=
    (cIfS (cUn dTru (cIxV 1 (cVar 3)))
    (cSeq (cAsg 4 (cBin dIx (cBin dAddA (cVar 0) (cL (cApp dLst (cCons (cC (.non)) cNil)))) (cBin dAddA (cVar 3) (cC (.int 1)))))
    (cIfS (cAndB [(cBin (fun d e => (dNe d e).bind asB) (cVar 2) (cL (cApp dLst cNil))), (cBin (fun d e => (dEq d e).bind asB) (cBin dIx (cIxV 2 (cUn dNeg (cC (.int 1)))) (cC (.int 1))) (cIxV 0 (cVar 3)))])
    (cSetI 2 (cUn dNeg (cC (.int 1))) (cApp dTup (cCons (cBin dIx (cIxV 2 (cUn dNeg (cC (.int 1)))) (cC (.int 0))) (cCons (cVar 4) cNil))))
    (cAppd 2 (cApp dTup (cCons (cIxV 0 (cVar 3)) (cCons (cVar 4) cNil))))))
    cNx)
noncomputable def c_law_spans : CS :=
    (cSeq (cAsgN 2 (cApp dLst cNil))
    (cSeq (cFor (cApp dRng1 (cCons (cApp dLen (cCons (cVar 0) cNil)) cNil)) (tName 3)
    c_law_spans_b1)
    (cRetO 2)))
noncomputable def m_law_spans : List D → Rs := run 5 c_law_spans
noncomputable def G_law_spans : Dw.Ctx := { N := ["_law_grid_here", "_law_marks_here", "_law_found", "_law_k", "_law_high"], F := fun x n => none, Gc := fun x => none, isi := fun x => none, M := ["_law_found"], exs := [], exm := fun x => none, L := [], O := [] }
theorem b_law_spans : body G_law_spans (defScope s_law_spans) 40 20 (defBody s_law_spans) = c_law_spans := by kernel_rfl
abbrev s_law_marks : Stmt := top 29
theorem sc_law_marks : FnScope ["_law_grid_here", "_law_number", "_law_k"] ["_law_grid_here", "_law_number"] (defScope s_law_marks) := ⟨by kernel_rfl, by kernel_rfl, by kernel_rfl, by decide +kernel, by kernel_rfl, by decide +kernel, by decide +kernel⟩
noncomputable def c_law_marks_e1 : C :=
    (cBin dEq (cBin dAnd (cBin dShr (cVar 1) (cVar 2)) (cC (.int 1))) (cC (.int 1)))
noncomputable def c_law_marks : CS :=
    (cRetN (cLc (cApp dRng1 (cCons (cApp dLen (cCons (cVar 0) cNil)) cNil)) (tName 2) cTrue c_law_marks_e1 [2]))
noncomputable def m_law_marks : List D → Rs := run 3 c_law_marks
noncomputable def G_law_marks : Dw.Ctx := { N := ["_law_grid_here", "_law_number", "_law_k"], F := fun x n => none, Gc := fun x => none, isi := fun x => none, M := [], exs := [], exm := fun x => none, L := [], O := [] }
theorem b_law_marks : body G_law_marks (defScope s_law_marks) 40 20 (defBody s_law_marks) = c_law_marks := by kernel_rfl
abbrev s_law_done : Stmt := top 30
theorem sc_law_done : FnScope ["_law_way", "_law_one", "_law_other"] ["_law_way", "_law_one", "_law_other"] (defScope s_law_done) := ⟨by kernel_rfl, by kernel_rfl, by kernel_rfl, by decide +kernel, by kernel_rfl, by decide +kernel, by decide +kernel⟩
noncomputable def c_law_done : CS :=
    (cSeq (cIfS (cBin (fun d e => (dEq d e).bind asB) (cVar 0) (cC (.int 0)))
    (cRetN (cCallN 2 m_united (cCons (cVar 1) (cCons (cVar 2) cNil))))
    cNx)
    (cSeq (cIfS (cBin (fun d e => (dEq d e).bind asB) (cVar 0) (cC (.int 1)))
    (cRetN (cCallN 2 m_common (cCons (cVar 1) (cCons (cVar 2) cNil))))
    cNx)
    (cSeq (cIfS (cBin (fun d e => (dEq d e).bind asB) (cVar 0) (cC (.int 2)))
    (cRetN (cCallN 2 m_common (cCons (cVar 1) (cCons (cCall 1 m_outside (cCons (cVar 2) cNil)) cNil))))
    cNx)
    (cRetN (cCallN 1 m_outside (cCons (cVar 1) cNil))))))
noncomputable def m_law_done : List D → Rs := run 3 c_law_done
noncomputable def G_law_done : Dw.Ctx := { N := ["_law_way", "_law_one", "_law_other"], F := fun x n => if x = "united" ∧ n = 2 then some m_united else if x = "common" ∧ n = 2 then some m_common else if x = "outside" ∧ n = 1 then some m_outside else none, Gc := fun x => none, isi := fun x => none, M := [], exs := [], exm := fun x => none, L := ["united", "common", "outside"], O := [] }
theorem b_law_done : body G_law_done (defScope s_law_done) 40 20 (defBody s_law_done) = c_law_done := by kernel_rfl
abbrev s_law_marked : Stmt := top 31
theorem sc_law_marked : FnScope ["_law_way", "_law_one", "_law_other", "_law_a", "_law_b"] ["_law_way", "_law_one", "_law_other"] (defScope s_law_marked) := ⟨by kernel_rfl, by kernel_rfl, by kernel_rfl, by decide +kernel, by kernel_rfl, by decide +kernel, by decide +kernel⟩
noncomputable def c_law_marked_e1 : C :=
    (cOrV [(cVar 3), (cVar 4)])
noncomputable def c_law_marked_e2 : C :=
    (cAndV [(cVar 3), (cVar 4)])
noncomputable def c_law_marked_e3 : C :=
    (cAndV [(cVar 3), (cUn dNotV (cVar 4))])
noncomputable def c_law_marked : CS :=
    (cSeq (cIfS (cBin (fun d e => (dEq d e).bind asB) (cVar 0) (cC (.int 0)))
    (cRetN (cLc (cApp dZip (cCons (cVar 1) (cCons (cVar 2) cNil))) (tTupT 2 (tCons' (tName 3) (tCons' (tName 4) tNil'))) cTrue c_law_marked_e1 [3, 4]))
    cNx)
    (cSeq (cIfS (cBin (fun d e => (dEq d e).bind asB) (cVar 0) (cC (.int 1)))
    (cRetN (cLc (cApp dZip (cCons (cVar 1) (cCons (cVar 2) cNil))) (tTupT 2 (tCons' (tName 3) (tCons' (tName 4) tNil'))) cTrue c_law_marked_e2 [3, 4]))
    cNx)
    (cSeq (cIfS (cBin (fun d e => (dEq d e).bind asB) (cVar 0) (cC (.int 2)))
    (cRetN (cLc (cApp dZip (cCons (cVar 1) (cCons (cVar 2) cNil))) (tTupT 2 (tCons' (tName 3) (tCons' (tName 4) tNil'))) cTrue c_law_marked_e3 [3, 4]))
    cNx)
    (cRetN (cLc (cUn dItems (cVar 1)) (tName 3) cTrue (cUn dNotV (cVar 3)) [3])))))
noncomputable def m_law_marked : List D → Rs := run 5 c_law_marked
noncomputable def G_law_marked : Dw.Ctx := { N := ["_law_way", "_law_one", "_law_other", "_law_a", "_law_b"], F := fun x n => none, Gc := fun x => none, isi := fun x => none, M := [], exs := [], exm := fun x => none, L := [], O := [] }
theorem b_law_marked : body G_law_marked (defScope s_law_marked) 40 20 (defBody s_law_marked) = c_law_marked := by kernel_rfl
abbrev s_law : Stmt := top 32
theorem sc_law : FnScope ["_law_script", "_law_row_here", "_law_grid_here", "_law_marks_here", "_law_sets", "_law_number", "_law_at", "_law_drawn", "_law_other", "_law_handed", "_law_due", "_law_found"] ["_law_script"] (defScope s_law) := ⟨by kernel_rfl, by kernel_rfl, by kernel_rfl, by decide +kernel, by kernel_rfl, by decide +kernel, by decide +kernel⟩
noncomputable def c_law_b1 : CS :=
    (cSeq (cAsg 6 (cBin dMod (cVar 5) (cC (.int 2))))
    (cSeq (cAsg 7 (cCall 2 m_law_marks (cCons (cVar 2) (cCons (cBin dDiv (cVar 5) (cC (.int 64))) cNil))))
    (cSeq (cAsg 8 (cBin dIx (cL (cApp dLst (cCons (cIxV 3 (cBin dSub (cC (.int 1)) (cVar 6))) (cCons (cVar 7) cNil)))) (cBin dMod (cBin dDiv (cVar 5) (cC (.int 2))) (cC (.int 2)))))
    (cSeq (cAsgOO 9 [(cApp dListOf (cCons (cIxV 4 (cVar 6)) cNil)), (cCallN 2 m_law_spans (cCons (cVar 2) (cCons (cVar 8) cNil)))])
    (cSeq (cAsg 10 (cCall 3 m_law_marked (cCons (cBin dMod (cBin dDiv (cVar 5) (cC (.int 4))) (cC (.int 4))) (cCons (cIxV 3 (cVar 6)) (cCons (cVar 8) cNil)))))
    (cSeq (cAsgN 11 (cCallN 3 m_law_done (cCons (cBin dMod (cBin dDiv (cVar 5) (cC (.int 4))) (cC (.int 4))) (cCons (cIxV 9 (cC (.int 0))) (cCons (cIxV 9 (cC (.int 1))) cNil)))))
    (cSeq (cIfS (cOrB [(cNotB (cUn dTru (cUn (dIsi (isBt .list)) (cVar 11)))), (cBin (fun d e => (dNe d e).bind asB) (cVar 11) (cCall 2 m_law_spans (cCons (cVar 2) (cCons (cVar 10) cNil)))), (cBin (fun d e => (dNot d e).bind asB) (cCall 1 m_is_spans (cCons (cVar 11) cNil)) (cC (.bl true)))])
    (cRetV (cC (.bl false)))
    cNx)
    (cSeq (cIfS (cBin (fun d e => (dNe d e).bind asB) (cVar 9) (cL (cApp dLst (cCons (cIxV 4 (cVar 6)) (cCons (cCall 2 m_law_spans (cCons (cVar 2) (cCons (cVar 8) cNil))) cNil)))))
    (cRetV (cC (.bl false)))
    cNx)
    (cSeq (cAppOO 9 0 (cC (.non)))
    (cSeq (cClrOO 9 1)
    (cSeq (cSetI 3 (cVar 6) (cVar 10))
    (cSeq (cSetIN 4 (cVar 6) (cApp dListOf (cCons (cVar 11) cNil)))
    (cSeq (cAppd 11 (cC (.non)))
    (cIfS (cBin (fun d e => (dNe d e).bind asB) (cBin dEq (cIxV 4 (cC (.int 0))) (cIxV 4 (cC (.int 1)))) (cBin dEq (cIxV 3 (cC (.int 0))) (cIxV 3 (cC (.int 1)))))
    (cRetV (cC (.bl false)))
    cNx))))))))))))))
noncomputable def c_law : CS :=
    (cSeq (cAsg 1 (cCall 2 m_law_row (cCons (cVar 0) (cCons (cC (.int 24)) cNil))))
    (cSeq (cAsg 2 (cCall 1 m_law_grid (cCons (cVar 1) cNil)))
    (cSeq (cAsgN 3 (cApp dLst (cCons (cCall 2 m_law_marks (cCons (cVar 2) (cCons (cIxV 1 (cC (.int 20))) cNil))) (cCons (cCall 2 m_law_marks (cCons (cVar 2) (cCons (cIxV 1 (cC (.int 21))) cNil))) cNil))))
    (cSeq (cAsgN 4 (cApp dLst (cCons (cCall 2 m_law_spans (cCons (cVar 2) (cCons (cIxV 3 (cC (.int 0))) cNil))) (cCons (cCall 2 m_law_spans (cCons (cVar 2) (cCons (cIxV 3 (cC (.int 1))) cNil))) cNil))))
    (cSeq (cFor (cUn dItems (cVar 1)) (tName 5)
    c_law_b1)
    (cRetV (cBin dEq (cVar 4) (cL (cApp dLst (cCons (cCall 2 m_law_spans (cCons (cVar 2) (cCons (cIxV 3 (cC (.int 0))) cNil))) (cCons (cCall 2 m_law_spans (cCons (cVar 2) (cCons (cIxV 3 (cC (.int 1))) cNil))) cNil)))))))))))
noncomputable def m_law : List D → Rs := run 12 c_law
noncomputable def G_law : Dw.Ctx := { N := ["_law_script", "_law_row_here", "_law_grid_here", "_law_marks_here", "_law_sets", "_law_number", "_law_at", "_law_drawn", "_law_other", "_law_handed", "_law_due", "_law_found"], F := fun x n => if x = "_law_row" ∧ n = 2 then some m_law_row else if x = "_law_grid" ∧ n = 1 then some m_law_grid else if x = "_law_marks" ∧ n = 2 then some m_law_marks else if x = "_law_spans" ∧ n = 2 then some m_law_spans else if x = "_law_marked" ∧ n = 3 then some m_law_marked else if x = "_law_done" ∧ n = 3 then some m_law_done else if x = "is_spans" ∧ n = 1 then some m_is_spans else none, Gc := fun x => none, isi := fun x => none, M := ["_law_marks_here", "_law_sets", "_law_found"], exs := [], exm := fun x => none, L := ["_law_done"], O := ["_law_handed"] }
theorem b_law : body G_law (defScope s_law) 40 20 (defBody s_law) = c_law := by kernel_rfl
end Law
namespace Law
open PySem L2 PyProof.Rows Dw
def d_common_divisor : He.DefD := ⟨("common_divisor", none), "common_divisor", "common_divisor", defArgs s_common_divisor, defBody s_common_divisor, defScope s_common_divisor, [], []⟩
def d_is_whole : He.DefD := ⟨("is_whole", none), "is_whole", "is_whole", defArgs s_is_whole, defBody s_is_whole, defScope s_is_whole, [], []⟩
def d_is_part : He.DefD := ⟨("is_part", none), "is_part", "is_part", defArgs s_is_part, defBody s_is_part, defScope s_is_part, [], []⟩
def d_is_width : He.DefD := ⟨("is_width", none), "is_width", "is_width", defArgs s_is_width, defBody s_is_width, defScope s_is_width, [], []⟩
def d_is_more : He.DefD := ⟨("is_more", none), "is_more", "is_more", defArgs s_is_more, defBody s_is_more, defScope s_is_more, [], []⟩
def d_lesser : He.DefD := ⟨("lesser", none), "lesser", "lesser", defArgs s_lesser, defBody s_lesser, defScope s_lesser, [], []⟩
def d_greater : He.DefD := ⟨("greater", none), "greater", "greater", defArgs s_greater, defBody s_greater, defScope s_greater, [], []⟩
def d_is_pair : He.DefD := ⟨("is_pair", none), "is_pair", "is_pair", defArgs s_is_pair, defBody s_is_pair, defScope s_is_pair, [], []⟩
def d_is_spans : He.DefD := ⟨("is_spans", none), "is_spans", "is_spans", defArgs s_is_spans, defBody s_is_spans, defScope s_is_spans, [], []⟩
def d_need_spans : He.DefD := ⟨("need_spans", none), "need_spans", "need_spans", defArgs s_need_spans, defBody s_need_spans, defScope s_need_spans, [], []⟩
def d_sorted_by_low : He.DefD := ⟨("sorted_by_low", none), "sorted_by_low", "sorted_by_low", defArgs s_sorted_by_low, defBody s_sorted_by_low, defScope s_sorted_by_low, [], []⟩
def d_higher : He.DefD := ⟨("higher", none), "higher", "higher", defArgs s_higher, defBody s_higher, defScope s_higher, [], []⟩
def d_lower : He.DefD := ⟨("lower", none), "lower", "lower", defArgs s_lower, defBody s_lower, defScope s_lower, [], []⟩
def d_gathered : He.DefD := ⟨("gathered", none), "gathered", "gathered", defArgs s_gathered, defBody s_gathered, defScope s_gathered, [], []⟩
def d_united : He.DefD := ⟨("united", none), "united", "united", defArgs s_united, defBody s_united, defScope s_united, [], []⟩
def d_common : He.DefD := ⟨("common", none), "common", "common", defArgs s_common, defBody s_common, defScope s_common, [], []⟩
def d_outside : He.DefD := ⟨("outside", none), "outside", "outside", defArgs s_outside, defBody s_outside, defScope s_outside, [], []⟩
def d_law_row : He.DefD := ⟨("_law_row", none), "_law_row", "_law_row", defArgs s_law_row, defBody s_law_row, defScope s_law_row, [], []⟩
def d_law_gcd : He.DefD := ⟨("_law_gcd", none), "_law_gcd", "_law_gcd", defArgs s_law_gcd, defBody s_law_gcd, defScope s_law_gcd, [], []⟩
def d_law_part : He.DefD := ⟨("_law_part", none), "_law_part", "_law_part", defArgs s_law_part, defBody s_law_part, defScope s_law_part, [], []⟩
def d_law_grid : He.DefD := ⟨("_law_grid", none), "_law_grid", "_law_grid", defArgs s_law_grid, defBody s_law_grid, defScope s_law_grid, [], []⟩
def d_law_spans : He.DefD := ⟨("_law_spans", none), "_law_spans", "_law_spans", defArgs s_law_spans, defBody s_law_spans, defScope s_law_spans, [], []⟩
def d_law_marks : He.DefD := ⟨("_law_marks", none), "_law_marks", "_law_marks", defArgs s_law_marks, defBody s_law_marks, defScope s_law_marks, [], []⟩
def d_law_done : He.DefD := ⟨("_law_done", none), "_law_done", "_law_done", defArgs s_law_done, defBody s_law_done, defScope s_law_done, [], []⟩
def d_law_marked : He.DefD := ⟨("_law_marked", none), "_law_marked", "_law_marked", defArgs s_law_marked, defBody s_law_marked, defScope s_law_marked, [], []⟩
def d_law : He.DefD := ⟨("law", none), "law", "law", defArgs s_law, defBody s_law, defScope s_law, [], []⟩
def fn : List He.DefD := [d_common_divisor, d_is_whole, d_is_part, d_is_width, d_is_more, d_lesser, d_greater, d_is_pair, d_is_spans, d_need_spans, d_sorted_by_low, d_higher, d_lower, d_gathered, d_united, d_common, d_outside, d_law_row, d_law_gcd, d_law_part, d_law_grid, d_law_spans, d_law_marks, d_law_done, d_law_marked, d_law]
def fa : List He.Fa := [.glo "common_divisor", .glo "is_whole", .glo "is_part", .glo "is_width", .glo "is_more", .glo "lesser", .glo "greater", .glo "is_pair", .glo "is_spans", .glo "need_spans", .glo "sorted_by_low", .glo "higher", .glo "lower", .glo "gathered", .glo "united", .glo "common", .glo "outside", .glo "_law_row", .glo "_law_gcd", .glo "_law_part", .glo "_law_grid", .glo "_law_spans", .glo "_law_marks", .glo "_law_done", .glo "_law_marked", .glo "law", .free "len", .free "abs", .free "max", .free "min", .free "sum", .free "all", .free "any", .free "int", .free "str", .free "tuple", .free "list", .free "isinstance", .free "range", .free "enumerate", .free "bool", .free "dict", .free "repr", .free "zip", .glo "NoSpan", .exc "NoSpan", .glo "NOUGHT"]
def exL (K : PySem.W.Frag) : List Bool := [He.tupB K "NOUGHT" [.int 0, .int 1]]
def exB (K : PySem.W.Frag) : Bool := (exL K).all id
abbrev Tx (K : PySem.W.Frag) (mg : Str → Option Value) : Prop := Tx0 fa fn exB K mg
theorem exAt {K : PySem.W.Frag} {mg : Str → Option Value} (T : Tx K mg) (i : Nat) {b : Bool} (h : (exL K)[i]? = some b) : b = true := List.all_eq_true.mp (show (exL K).all id = true from T.x) b (List.mem_of_getElem? h)
section
variable {P : Program} {w : World} {K : PySem.W.Frag} {mg : Str → Option Value} {base : Heap}
theorem bl_ok (T : Tx K mg) : ∀ x ∈ blts, mg x = none := by
  intro x hx
  have key : ∀ y, He.Fa.free y ∈ fa → mg y = none := fun y hy => by
    obtain ⟨i, hi, e⟩ := List.mem_iff_getElem.mp hy
    exact T.free y (T.c.fact i (f := .free y) (by rw [List.getElem?_eq_getElem hi, e]))
  simp only [blts, List.mem_cons, List.not_mem_nil, or_false] at hx
  rcases hx with rfl | rfl | rfl | rfl | rfl | rfl | rfl | rfl | rfl | rfl | rfl | rfl | rfl | rfl | rfl | rfl | rfl | rfl
  all_goals (apply key; simp [fa])
theorem cn_NOUGHT (T : Tx K mg) : ((("NOUGHT" : Str)) == ("__debug__" : Str)) = false ∧ ∃ v u, mg "NOUGHT" = some u ∧ RelV v u ∧ ∀ H, Dr K H v (.tup [.int 0, .int 1]) := ⟨by decide, .ref (He.ga K "NOUGHT"), _, T.glo _ (T.c.fact 46 (f := .glo "NOUGHT") rfl), rfl, fun H => .tup (He.tupB_ok (exAt T 0 rfl) H) (.cons (.int _) (.cons (.int _) .nil))⟩
theorem rz_NoSpan (T : Tx K mg) : RzK K mg "NoSpan" := rz_of (T.glo _ (T.c.fact 44 (f := .glo "NoSpan") rfl)) (T.c.fact 45 (f := .exc "NoSpan") rfl) (by decide)
theorem kn_common_divisor (T : Tx K mg) : Kn P w K mg base 0 G_common_divisor where
  fns := fun _ _ _ h => nomatch h
  bl := bl_ok T
  cn := fun _ _ h => nomatch h
  cl := fun _ _ h => nomatch h
  rz := fun _ h => nomatch h
  xm := fun _ _ h => nomatch h
theorem k_common_divisor (T : Tx K mg) : FK P w K mg base 1 "common_divisor" 2 m_common_divisor := by
  obtain ⟨fd, F⟩ := T.c.def_ 0 (d := d_common_divisor) rfl
  exact fk_of (ps := ["one", "other"]) F sc_common_divisor (kn_common_divisor T) (FunD.bindsN (ps := ["one", "other"]) F fun _ _ _ _ _ _ us hl => match us, hl with | [_, _], _ => rfl) (T.glo _ (T.c.fact 0 (f := .glo "common_divisor") rfl)) (by decide) b_common_divisor
theorem kn_is_whole (T : Tx K mg) : Kn P w K mg base 0 G_is_whole where
  fns := fun _ _ _ h => nomatch h
  bl := bl_ok T
  cn := fun _ _ h => nomatch h
  cl := fun _ _ h => nomatch h
  rz := fun _ h => nomatch h
  xm := fun _ _ h => nomatch h
theorem k_is_whole (T : Tx K mg) : FK P w K mg base 1 "is_whole" 1 m_is_whole := by
  obtain ⟨fd, F⟩ := T.c.def_ 1 (d := d_is_whole) rfl
  exact fk_of (ps := ["thing"]) F sc_is_whole (kn_is_whole T) (FunD.bindsN (ps := ["thing"]) F fun _ _ _ _ _ _ us hl => match us, hl with | [_], _ => rfl) (T.glo _ (T.c.fact 1 (f := .glo "is_whole") rfl)) (by decide) b_is_whole
theorem kn_is_part (T : Tx K mg) : Kn P w K mg base 1 G_is_part where
  fns := fun x m sem h => by
    have h : (if x = "is_whole" ∧ m = 1 then some m_is_whole else if x = "common_divisor" ∧ m = 2 then some m_common_divisor else none) = some sem := h
    split at h
    · rename_i ec
      obtain ⟨rfl, rfl⟩ := ec
      cases h
      exact (k_is_whole T).mono (by decide)
    split at h
    · rename_i ec
      obtain ⟨rfl, rfl⟩ := ec
      cases h
      exact (k_common_divisor T).mono (by decide)
    · cases h
  bl := bl_ok T
  cn := fun _ _ h => nomatch h
  cl := fun _ _ h => nomatch h
  rz := fun _ h => nomatch h
  xm := fun _ _ h => nomatch h
theorem k_is_part (T : Tx K mg) : FK P w K mg base 2 "is_part" 1 m_is_part := by
  obtain ⟨fd, F⟩ := T.c.def_ 2 (d := d_is_part) rfl
  exact fk_of (ps := ["thing"]) F sc_is_part (kn_is_part T) (FunD.bindsN (ps := ["thing"]) F fun _ _ _ _ _ _ us hl => match us, hl with | [_], _ => rfl) (T.glo _ (T.c.fact 2 (f := .glo "is_part") rfl)) (by decide) b_is_part
theorem kn_is_width (T : Tx K mg) : Kn P w K mg base 2 G_is_width where
  fns := fun x m sem h => by
    have h : (if x = "is_part" ∧ m = 1 then some m_is_part else none) = some sem := h
    split at h
    · rename_i ec
      obtain ⟨rfl, rfl⟩ := ec
      cases h
      exact (k_is_part T).mono (by decide)
    · cases h
  bl := bl_ok T
  cn := fun _ _ h => nomatch h
  cl := fun _ _ h => nomatch h
  rz := fun _ h => nomatch h
  xm := fun _ _ h => nomatch h
theorem k_is_width (T : Tx K mg) : FK P w K mg base 3 "is_width" 1 m_is_width := by
  obtain ⟨fd, F⟩ := T.c.def_ 3 (d := d_is_width) rfl
  exact fk_of (ps := ["thing"]) F sc_is_width (kn_is_width T) (FunD.bindsN (ps := ["thing"]) F fun _ _ _ _ _ _ us hl => match us, hl with | [_], _ => rfl) (T.glo _ (T.c.fact 3 (f := .glo "is_width") rfl)) (by decide) b_is_width
theorem kn_is_more (T : Tx K mg) : Kn P w K mg base 0 G_is_more where
  fns := fun _ _ _ h => nomatch h
  bl := bl_ok T
  cn := fun _ _ h => nomatch h
  cl := fun _ _ h => nomatch h
  rz := fun _ h => nomatch h
  xm := fun _ _ h => nomatch h
theorem k_is_more (T : Tx K mg) : FK P w K mg base 1 "is_more" 2 m_is_more := by
  obtain ⟨fd, F⟩ := T.c.def_ 4 (d := d_is_more) rfl
  exact fk_of (ps := ["one", "other"]) F sc_is_more (kn_is_more T) (FunD.bindsN (ps := ["one", "other"]) F fun _ _ _ _ _ _ us hl => match us, hl with | [_, _], _ => rfl) (T.glo _ (T.c.fact 4 (f := .glo "is_more") rfl)) (by decide) b_is_more
theorem kn_lesser (T : Tx K mg) : Kn P w K mg base 1 G_lesser where
  fns := fun x m sem h => by
    have h : (if x = "is_more" ∧ m = 2 then some m_is_more else none) = some sem := h
    split at h
    · rename_i ec
      obtain ⟨rfl, rfl⟩ := ec
      cases h
      exact (k_is_more T).mono (by decide)
    · cases h
  bl := bl_ok T
  cn := fun _ _ h => nomatch h
  cl := fun _ _ h => nomatch h
  rz := fun _ h => nomatch h
  xm := fun _ _ h => nomatch h
theorem k_lesser (T : Tx K mg) : FK P w K mg base 2 "lesser" 2 m_lesser := by
  obtain ⟨fd, F⟩ := T.c.def_ 5 (d := d_lesser) rfl
  exact fk_of (ps := ["one", "other"]) F sc_lesser (kn_lesser T) (FunD.bindsN (ps := ["one", "other"]) F fun _ _ _ _ _ _ us hl => match us, hl with | [_, _], _ => rfl) (T.glo _ (T.c.fact 5 (f := .glo "lesser") rfl)) (by decide) b_lesser
theorem kn_greater (T : Tx K mg) : Kn P w K mg base 1 G_greater where
  fns := fun x m sem h => by
    have h : (if x = "is_more" ∧ m = 2 then some m_is_more else none) = some sem := h
    split at h
    · rename_i ec
      obtain ⟨rfl, rfl⟩ := ec
      cases h
      exact (k_is_more T).mono (by decide)
    · cases h
  bl := bl_ok T
  cn := fun _ _ h => nomatch h
  cl := fun _ _ h => nomatch h
  rz := fun _ h => nomatch h
  xm := fun _ _ h => nomatch h
theorem k_greater (T : Tx K mg) : FK P w K mg base 2 "greater" 2 m_greater := by
  obtain ⟨fd, F⟩ := T.c.def_ 6 (d := d_greater) rfl
  exact fk_of (ps := ["one", "other"]) F sc_greater (kn_greater T) (FunD.bindsN (ps := ["one", "other"]) F fun _ _ _ _ _ _ us hl => match us, hl with | [_, _], _ => rfl) (T.glo _ (T.c.fact 6 (f := .glo "greater") rfl)) (by decide) b_greater
theorem kn_is_pair (T : Tx K mg) : Kn P w K mg base 3 G_is_pair where
  fns := fun x m sem h => by
    have h : (if x = "is_width" ∧ m = 1 then some m_is_width else if x = "is_part" ∧ m = 1 then some m_is_part else none) = some sem := h
    split at h
    · rename_i ec
      obtain ⟨rfl, rfl⟩ := ec
      cases h
      exact (k_is_width T).mono (by decide)
    split at h
    · rename_i ec
      obtain ⟨rfl, rfl⟩ := ec
      cases h
      exact (k_is_part T).mono (by decide)
    · cases h
  bl := bl_ok T
  cn := fun _ _ h => nomatch h
  cl := fun _ _ h => nomatch h
  rz := fun _ h => nomatch h
  xm := fun _ _ h => nomatch h
theorem k_is_pair (T : Tx K mg) : FK P w K mg base 4 "is_pair" 1 m_is_pair := by
  obtain ⟨fd, F⟩ := T.c.def_ 7 (d := d_is_pair) rfl
  exact fk_of (ps := ["thing"]) F sc_is_pair (kn_is_pair T) (FunD.bindsN (ps := ["thing"]) F fun _ _ _ _ _ _ us hl => match us, hl with | [_], _ => rfl) (T.glo _ (T.c.fact 7 (f := .glo "is_pair") rfl)) (by decide) b_is_pair
theorem kn_is_spans (T : Tx K mg) : Kn P w K mg base 4 G_is_spans where
  fns := fun x m sem h => by
    have h : (if x = "is_pair" ∧ m = 1 then some m_is_pair else if x = "is_more" ∧ m = 2 then some m_is_more else none) = some sem := h
    split at h
    · rename_i ec
      obtain ⟨rfl, rfl⟩ := ec
      cases h
      exact (k_is_pair T).mono (by decide)
    split at h
    · rename_i ec
      obtain ⟨rfl, rfl⟩ := ec
      cases h
      exact (k_is_more T).mono (by decide)
    · cases h
  bl := bl_ok T
  cn := fun _ _ h => nomatch h
  cl := fun _ _ h => nomatch h
  rz := fun _ h => nomatch h
  xm := fun _ _ h => nomatch h
theorem k_is_spans (T : Tx K mg) : FK P w K mg base 5 "is_spans" 1 m_is_spans := by
  obtain ⟨fd, F⟩ := T.c.def_ 8 (d := d_is_spans) rfl
  exact fk_of (ps := ["thing"]) F sc_is_spans (kn_is_spans T) (FunD.bindsN (ps := ["thing"]) F fun _ _ _ _ _ _ us hl => match us, hl with | [_], _ => rfl) (T.glo _ (T.c.fact 8 (f := .glo "is_spans") rfl)) (by decide) b_is_spans
theorem kn_need_spans (T : Tx K mg) : Kn P w K mg base 5 G_need_spans where
  fns := fun x m sem h => by
    have h : (if x = "is_spans" ∧ m = 1 then some m_is_spans else none) = some sem := h
    split at h
    · rename_i ec
      obtain ⟨rfl, rfl⟩ := ec
      cases h
      exact (k_is_spans T).mono (by decide)
    · cases h
  bl := bl_ok T
  cn := fun _ _ h => nomatch h
  cl := fun _ _ h => nomatch h
  rz := fun x h => by
    simp only [G_need_spans, List.mem_cons, List.not_mem_nil, or_false] at h
    rcases h with rfl
    · exact rz_NoSpan T
  xm := fun _ _ h => nomatch h
theorem k_need_spans (T : Tx K mg) : FK P w K mg base 6 "need_spans" 1 m_need_spans := by
  obtain ⟨fd, F⟩ := T.c.def_ 9 (d := d_need_spans) rfl
  exact fk_of (ps := ["thing"]) F sc_need_spans (kn_need_spans T) (FunD.bindsN (ps := ["thing"]) F fun _ _ _ _ _ _ us hl => match us, hl with | [_], _ => rfl) (T.glo _ (T.c.fact 9 (f := .glo "need_spans") rfl)) (by decide) b_need_spans
theorem kn_sorted_by_low (T : Tx K mg) : Kn P w K mg base 1 G_sorted_by_low where
  fns := fun x m sem h => by
    have h : (if x = "is_more" ∧ m = 2 then some m_is_more else none) = some sem := h
    split at h
    · rename_i ec
      obtain ⟨rfl, rfl⟩ := ec
      cases h
      exact (k_is_more T).mono (by decide)
    · cases h
  bl := bl_ok T
  cn := fun _ _ h => nomatch h
  cl := fun _ _ h => nomatch h
  rz := fun _ h => nomatch h
  xm := fun _ _ h => nomatch h
theorem k_sorted_by_low (T : Tx K mg) : FK P w K mg base 2 "sorted_by_low" 1 m_sorted_by_low := by
  obtain ⟨fd, F⟩ := T.c.def_ 10 (d := d_sorted_by_low) rfl
  exact fk_of (ps := ["pairs"]) F sc_sorted_by_low (kn_sorted_by_low T) (FunD.bindsN (ps := ["pairs"]) F fun _ _ _ _ _ _ us hl => match us, hl with | [_], _ => rfl) (T.glo _ (T.c.fact 10 (f := .glo "sorted_by_low") rfl)) (by decide) b_sorted_by_low
theorem kn_higher (T : Tx K mg) : Kn P w K mg base 2 G_higher where
  fns := fun x m sem h => by
    have h : (if x = "greater" ∧ m = 2 then some m_greater else none) = some sem := h
    split at h
    · rename_i ec
      obtain ⟨rfl, rfl⟩ := ec
      cases h
      exact (k_greater T).mono (by decide)
    · cases h
  bl := bl_ok T
  cn := fun _ _ h => nomatch h
  cl := fun _ _ h => nomatch h
  rz := fun _ h => nomatch h
  xm := fun _ _ h => nomatch h
theorem k_higher (T : Tx K mg) : FK P w K mg base 3 "higher" 2 m_higher := by
  obtain ⟨fd, F⟩ := T.c.def_ 11 (d := d_higher) rfl
  exact fk_of (ps := ["one", "other"]) F sc_higher (kn_higher T) (FunD.bindsN (ps := ["one", "other"]) F fun _ _ _ _ _ _ us hl => match us, hl with | [_, _], _ => rfl) (T.glo _ (T.c.fact 11 (f := .glo "higher") rfl)) (by decide) b_higher
theorem kn_lower (T : Tx K mg) : Kn P w K mg base 2 G_lower where
  fns := fun x m sem h => by
    have h : (if x = "lesser" ∧ m = 2 then some m_lesser else none) = some sem := h
    split at h
    · rename_i ec
      obtain ⟨rfl, rfl⟩ := ec
      cases h
      exact (k_lesser T).mono (by decide)
    · cases h
  bl := bl_ok T
  cn := fun _ _ h => nomatch h
  cl := fun _ _ h => nomatch h
  rz := fun _ h => nomatch h
  xm := fun _ _ h => nomatch h
theorem k_lower (T : Tx K mg) : FK P w K mg base 3 "lower" 2 m_lower := by
  obtain ⟨fd, F⟩ := T.c.def_ 12 (d := d_lower) rfl
  exact fk_of (ps := ["one", "other"]) F sc_lower (kn_lower T) (FunD.bindsN (ps := ["one", "other"]) F fun _ _ _ _ _ _ us hl => match us, hl with | [_, _], _ => rfl) (T.glo _ (T.c.fact 12 (f := .glo "lower") rfl)) (by decide) b_lower
theorem kn_gathered (T : Tx K mg) : Kn P w K mg base 3 G_gathered where
  fns := fun x m sem h => by
    have h : (if x = "sorted_by_low" ∧ m = 1 then some m_sorted_by_low else if x = "is_more" ∧ m = 2 then some m_is_more else if x = "higher" ∧ m = 2 then some m_higher else none) = some sem := h
    split at h
    · rename_i ec
      obtain ⟨rfl, rfl⟩ := ec
      cases h
      exact (k_sorted_by_low T).mono (by decide)
    split at h
    · rename_i ec
      obtain ⟨rfl, rfl⟩ := ec
      cases h
      exact (k_is_more T).mono (by decide)
    split at h
    · rename_i ec
      obtain ⟨rfl, rfl⟩ := ec
      cases h
      exact (k_higher T).mono (by decide)
    · cases h
  bl := bl_ok T
  cn := fun _ _ h => nomatch h
  cl := fun _ _ h => nomatch h
  rz := fun _ h => nomatch h
  xm := fun _ _ h => nomatch h
theorem k_gathered (T : Tx K mg) : FK P w K mg base 4 "gathered" 1 m_gathered := by
  obtain ⟨fd, F⟩ := T.c.def_ 13 (d := d_gathered) rfl
  exact fk_of (ps := ["pairs"]) F sc_gathered (kn_gathered T) (FunD.bindsN (ps := ["pairs"]) F fun _ _ _ _ _ _ us hl => match us, hl with | [_], _ => rfl) (T.glo _ (T.c.fact 13 (f := .glo "gathered") rfl)) (by decide) b_gathered
theorem kn_united (T : Tx K mg) : Kn P w K mg base 6 G_united where
  fns := fun x m sem h => by
    have h : (if x = "need_spans" ∧ m = 1 then some m_need_spans else if x = "gathered" ∧ m = 1 then some m_gathered else none) = some sem := h
    split at h
    · rename_i ec
      obtain ⟨rfl, rfl⟩ := ec
      cases h
      exact (k_need_spans T).mono (by decide)
    split at h
    · rename_i ec
      obtain ⟨rfl, rfl⟩ := ec
      cases h
      exact (k_gathered T).mono (by decide)
    · cases h
  bl := bl_ok T
  cn := fun _ _ h => nomatch h
  cl := fun _ _ h => nomatch h
  rz := fun _ h => nomatch h
  xm := fun _ _ h => nomatch h
theorem k_united (T : Tx K mg) : FK P w K mg base 7 "united" 2 m_united := by
  obtain ⟨fd, F⟩ := T.c.def_ 14 (d := d_united) rfl
  exact fk_of (ps := ["one", "other"]) F sc_united (kn_united T) (FunD.bindsN (ps := ["one", "other"]) F fun _ _ _ _ _ _ us hl => match us, hl with | [_, _], _ => rfl) (T.glo _ (T.c.fact 14 (f := .glo "united") rfl)) (by decide) b_united
theorem kn_common (T : Tx K mg) : Kn P w K mg base 6 G_common where
  fns := fun x m sem h => by
    have h : (if x = "need_spans" ∧ m = 1 then some m_need_spans else if x = "greater" ∧ m = 2 then some m_greater else if x = "lower" ∧ m = 2 then some m_lower else if x = "gathered" ∧ m = 1 then some m_gathered else none) = some sem := h
    split at h
    · rename_i ec
      obtain ⟨rfl, rfl⟩ := ec
      cases h
      exact (k_need_spans T).mono (by decide)
    split at h
    · rename_i ec
      obtain ⟨rfl, rfl⟩ := ec
      cases h
      exact (k_greater T).mono (by decide)
    split at h
    · rename_i ec
      obtain ⟨rfl, rfl⟩ := ec
      cases h
      exact (k_lower T).mono (by decide)
    split at h
    · rename_i ec
      obtain ⟨rfl, rfl⟩ := ec
      cases h
      exact (k_gathered T).mono (by decide)
    · cases h
  bl := bl_ok T
  cn := fun _ _ h => nomatch h
  cl := fun _ _ h => nomatch h
  rz := fun _ h => nomatch h
  xm := fun _ _ h => nomatch h
theorem k_common (T : Tx K mg) : FK P w K mg base 7 "common" 2 m_common := by
  obtain ⟨fd, F⟩ := T.c.def_ 15 (d := d_common) rfl
  exact fk_of (ps := ["one", "other"]) F sc_common (kn_common T) (FunD.bindsN (ps := ["one", "other"]) F fun _ _ _ _ _ _ us hl => match us, hl with | [_, _], _ => rfl) (T.glo _ (T.c.fact 15 (f := .glo "common") rfl)) (by decide) b_common
theorem kn_outside (T : Tx K mg) : Kn P w K mg base 6 G_outside where
  fns := fun x m sem h => by
    have h : (if x = "need_spans" ∧ m = 1 then some m_need_spans else if x = "gathered" ∧ m = 1 then some m_gathered else none) = some sem := h
    split at h
    · rename_i ec
      obtain ⟨rfl, rfl⟩ := ec
      cases h
      exact (k_need_spans T).mono (by decide)
    split at h
    · rename_i ec
      obtain ⟨rfl, rfl⟩ := ec
      cases h
      exact (k_gathered T).mono (by decide)
    · cases h
  bl := bl_ok T
  cn := fun x d h => by
    have h : (if x = "NOUGHT" then some (.tup [.int 0, .int 1]) else none) = some d := h
    split at h
    · rename_i ec
      subst ec
      cases h
      exact cn_NOUGHT T
    · cases h
  cl := fun _ _ h => nomatch h
  rz := fun _ h => nomatch h
  xm := fun _ _ h => nomatch h
theorem k_outside (T : Tx K mg) : FK P w K mg base 7 "outside" 1 m_outside := by
  obtain ⟨fd, F⟩ := T.c.def_ 16 (d := d_outside) rfl
  exact fk_of (ps := ["one"]) F sc_outside (kn_outside T) (FunD.bindsN (ps := ["one"]) F fun _ _ _ _ _ _ us hl => match us, hl with | [_], _ => rfl) (T.glo _ (T.c.fact 16 (f := .glo "outside") rfl)) (by decide) b_outside
theorem kn_law_row (T : Tx K mg) : Kn P w K mg base 0 G_law_row where
  fns := fun _ _ _ h => nomatch h
  bl := bl_ok T
  cn := fun _ _ h => nomatch h
  cl := fun _ _ h => nomatch h
  rz := fun _ h => nomatch h
  xm := fun _ _ h => nomatch h
theorem k_law_row (T : Tx K mg) : FK P w K mg base 1 "_law_row" 2 m_law_row := by
  obtain ⟨fd, F⟩ := T.c.def_ 17 (d := d_law_row) rfl
  exact fk_of (ps := ["_law_script", "_law_many"]) F sc_law_row (kn_law_row T) (FunD.bindsN (ps := ["_law_script", "_law_many"]) F fun _ _ _ _ _ _ us hl => match us, hl with | [_, _], _ => rfl) (T.glo _ (T.c.fact 17 (f := .glo "_law_row") rfl)) (by decide) b_law_row
theorem kn_law_gcd (T : Tx K mg) : Kn P w K mg base 0 G_law_gcd where
  fns := fun _ _ _ h => nomatch h
  bl := bl_ok T
  cn := fun _ _ h => nomatch h
  cl := fun _ _ h => nomatch h
  rz := fun _ h => nomatch h
  xm := fun _ _ h => nomatch h
theorem k_law_gcd (T : Tx K mg) : FK P w K mg base 1 "_law_gcd" 2 m_law_gcd := by
  obtain ⟨fd, F⟩ := T.c.def_ 18 (d := d_law_gcd) rfl
  exact fk_of (ps := ["_law_one", "_law_other"]) F sc_law_gcd (kn_law_gcd T) (FunD.bindsN (ps := ["_law_one", "_law_other"]) F fun _ _ _ _ _ _ us hl => match us, hl with | [_, _], _ => rfl) (T.glo _ (T.c.fact 18 (f := .glo "_law_gcd") rfl)) (by decide) b_law_gcd
theorem kn_law_part (T : Tx K mg) : Kn P w K mg base 1 G_law_part where
  fns := fun x m sem h => by
    have h : (if x = "_law_gcd" ∧ m = 2 then some m_law_gcd else none) = some sem := h
    split at h
    · rename_i ec
      obtain ⟨rfl, rfl⟩ := ec
      cases h
      exact (k_law_gcd T).mono (by decide)
    · cases h
  bl := bl_ok T
  cn := fun _ _ h => nomatch h
  cl := fun _ _ h => nomatch h
  rz := fun _ h => nomatch h
  xm := fun _ _ h => nomatch h
theorem k_law_part (T : Tx K mg) : FK P w K mg base 2 "_law_part" 2 m_law_part := by
  obtain ⟨fd, F⟩ := T.c.def_ 19 (d := d_law_part) rfl
  exact fk_of (ps := ["_law_top", "_law_bottom"]) F sc_law_part (kn_law_part T) (FunD.bindsN (ps := ["_law_top", "_law_bottom"]) F fun _ _ _ _ _ _ us hl => match us, hl with | [_, _], _ => rfl) (T.glo _ (T.c.fact 19 (f := .glo "_law_part") rfl)) (by decide) b_law_part
theorem kn_law_grid (T : Tx K mg) : Kn P w K mg base 2 G_law_grid where
  fns := fun x m sem h => by
    have h : (if x = "_law_part" ∧ m = 2 then some m_law_part else none) = some sem := h
    split at h
    · rename_i ec
      obtain ⟨rfl, rfl⟩ := ec
      cases h
      exact (k_law_part T).mono (by decide)
    · cases h
  bl := bl_ok T
  cn := fun _ _ h => nomatch h
  cl := fun _ _ h => nomatch h
  rz := fun _ h => nomatch h
  xm := fun _ _ h => nomatch h
theorem k_law_grid (T : Tx K mg) : FK P w K mg base 3 "_law_grid" 1 m_law_grid := by
  obtain ⟨fd, F⟩ := T.c.def_ 20 (d := d_law_grid) rfl
  exact fk_of (ps := ["_law_row_here"]) F sc_law_grid (kn_law_grid T) (FunD.bindsN (ps := ["_law_row_here"]) F fun _ _ _ _ _ _ us hl => match us, hl with | [_], _ => rfl) (T.glo _ (T.c.fact 20 (f := .glo "_law_grid") rfl)) (by decide) b_law_grid
theorem kn_law_spans (T : Tx K mg) : Kn P w K mg base 0 G_law_spans where
  fns := fun _ _ _ h => nomatch h
  bl := bl_ok T
  cn := fun _ _ h => nomatch h
  cl := fun _ _ h => nomatch h
  rz := fun _ h => nomatch h
  xm := fun _ _ h => nomatch h
theorem k_law_spans (T : Tx K mg) : FK P w K mg base 1 "_law_spans" 2 m_law_spans := by
  obtain ⟨fd, F⟩ := T.c.def_ 21 (d := d_law_spans) rfl
  exact fk_of (ps := ["_law_grid_here", "_law_marks_here"]) F sc_law_spans (kn_law_spans T) (FunD.bindsN (ps := ["_law_grid_here", "_law_marks_here"]) F fun _ _ _ _ _ _ us hl => match us, hl with | [_, _], _ => rfl) (T.glo _ (T.c.fact 21 (f := .glo "_law_spans") rfl)) (by decide) b_law_spans
theorem kn_law_marks (T : Tx K mg) : Kn P w K mg base 0 G_law_marks where
  fns := fun _ _ _ h => nomatch h
  bl := bl_ok T
  cn := fun _ _ h => nomatch h
  cl := fun _ _ h => nomatch h
  rz := fun _ h => nomatch h
  xm := fun _ _ h => nomatch h
theorem k_law_marks (T : Tx K mg) : FK P w K mg base 1 "_law_marks" 2 m_law_marks := by
  obtain ⟨fd, F⟩ := T.c.def_ 22 (d := d_law_marks) rfl
  exact fk_of (ps := ["_law_grid_here", "_law_number"]) F sc_law_marks (kn_law_marks T) (FunD.bindsN (ps := ["_law_grid_here", "_law_number"]) F fun _ _ _ _ _ _ us hl => match us, hl with | [_, _], _ => rfl) (T.glo _ (T.c.fact 22 (f := .glo "_law_marks") rfl)) (by decide) b_law_marks
theorem kn_law_done (T : Tx K mg) : Kn P w K mg base 7 G_law_done where
  fns := fun x m sem h => by
    have h : (if x = "united" ∧ m = 2 then some m_united else if x = "common" ∧ m = 2 then some m_common else if x = "outside" ∧ m = 1 then some m_outside else none) = some sem := h
    split at h
    · rename_i ec
      obtain ⟨rfl, rfl⟩ := ec
      cases h
      exact (k_united T).mono (by decide)
    split at h
    · rename_i ec
      obtain ⟨rfl, rfl⟩ := ec
      cases h
      exact (k_common T).mono (by decide)
    split at h
    · rename_i ec
      obtain ⟨rfl, rfl⟩ := ec
      cases h
      exact (k_outside T).mono (by decide)
    · cases h
  bl := bl_ok T
  cn := fun _ _ h => nomatch h
  cl := fun _ _ h => nomatch h
  rz := fun _ h => nomatch h
  xm := fun _ _ h => nomatch h
theorem k_law_done (T : Tx K mg) : FK P w K mg base 8 "_law_done" 3 m_law_done := by
  obtain ⟨fd, F⟩ := T.c.def_ 23 (d := d_law_done) rfl
  exact fk_of (ps := ["_law_way", "_law_one", "_law_other"]) F sc_law_done (kn_law_done T) (FunD.bindsN (ps := ["_law_way", "_law_one", "_law_other"]) F fun _ _ _ _ _ _ us hl => match us, hl with | [_, _, _], _ => rfl) (T.glo _ (T.c.fact 23 (f := .glo "_law_done") rfl)) (by decide) b_law_done
theorem kn_law_marked (T : Tx K mg) : Kn P w K mg base 0 G_law_marked where
  fns := fun _ _ _ h => nomatch h
  bl := bl_ok T
  cn := fun _ _ h => nomatch h
  cl := fun _ _ h => nomatch h
  rz := fun _ h => nomatch h
  xm := fun _ _ h => nomatch h
theorem k_law_marked (T : Tx K mg) : FK P w K mg base 1 "_law_marked" 3 m_law_marked := by
  obtain ⟨fd, F⟩ := T.c.def_ 24 (d := d_law_marked) rfl
  exact fk_of (ps := ["_law_way", "_law_one", "_law_other"]) F sc_law_marked (kn_law_marked T) (FunD.bindsN (ps := ["_law_way", "_law_one", "_law_other"]) F fun _ _ _ _ _ _ us hl => match us, hl with | [_, _, _], _ => rfl) (T.glo _ (T.c.fact 24 (f := .glo "_law_marked") rfl)) (by decide) b_law_marked
theorem kn_law (T : Tx K mg) : Kn P w K mg base 8 G_law where
  fns := fun x m sem h => by
    have h : (if x = "_law_row" ∧ m = 2 then some m_law_row else if x = "_law_grid" ∧ m = 1 then some m_law_grid else if x = "_law_marks" ∧ m = 2 then some m_law_marks else if x = "_law_spans" ∧ m = 2 then some m_law_spans else if x = "_law_marked" ∧ m = 3 then some m_law_marked else if x = "_law_done" ∧ m = 3 then some m_law_done else if x = "is_spans" ∧ m = 1 then some m_is_spans else none) = some sem := h
    split at h
    · rename_i ec
      obtain ⟨rfl, rfl⟩ := ec
      cases h
      exact (k_law_row T).mono (by decide)
    split at h
    · rename_i ec
      obtain ⟨rfl, rfl⟩ := ec
      cases h
      exact (k_law_grid T).mono (by decide)
    split at h
    · rename_i ec
      obtain ⟨rfl, rfl⟩ := ec
      cases h
      exact (k_law_marks T).mono (by decide)
    split at h
    · rename_i ec
      obtain ⟨rfl, rfl⟩ := ec
      cases h
      exact (k_law_spans T).mono (by decide)
    split at h
    · rename_i ec
      obtain ⟨rfl, rfl⟩ := ec
      cases h
      exact (k_law_marked T).mono (by decide)
    split at h
    · rename_i ec
      obtain ⟨rfl, rfl⟩ := ec
      cases h
      exact (k_law_done T).mono (by decide)
    split at h
    · rename_i ec
      obtain ⟨rfl, rfl⟩ := ec
      cases h
      exact (k_is_spans T).mono (by decide)
    · cases h
  bl := bl_ok T
  cn := fun _ _ h => nomatch h
  cl := fun _ _ h => nomatch h
  rz := fun _ h => nomatch h
  xm := fun _ _ h => nomatch h
end
def loose : List PySem.Str := ([("common_divisor" : PySem.Str), ("is_whole" : PySem.Str), ("is_part" : PySem.Str), ("is_width" : PySem.Str), ("is_more" : PySem.Str), ("lesser" : PySem.Str), ("greater" : PySem.Str), ("is_pair" : PySem.Str), ("is_spans" : PySem.Str), ("need_spans" : PySem.Str), ("sorted_by_low" : PySem.Str), ("higher" : PySem.Str), ("lower" : PySem.Str), ("gathered" : PySem.Str), ("united" : PySem.Str), ("common" : PySem.Str)] : List PySem.Str) ++ ([("outside" : PySem.Str), ("_law_row" : PySem.Str), ("_law_gcd" : PySem.Str), ("_law_part" : PySem.Str), ("_law_grid" : PySem.Str), ("_law_spans" : PySem.Str), ("_law_marks" : PySem.Str), ("_law_done" : PySem.Str), ("_law_marked" : PySem.Str), ("NOUGHT" : PySem.Str), ("WideError" : PySem.Str), ("NoSpan" : PySem.Str)] : List PySem.Str)
abbrev R0 : PySem.W.OpenRow := PySem.W.OpenLaw.row PySem.Challenge.rw_widthwise_k05_whole_sets_put_together
abbrev hk : PySem.W.Hook := hookE 5 fa fn exB
def ob (s : PySem.W.SharedT) : He.AlD × Bool := obsE 5 fa fn exB (HandSHeadRun.getT s)
theorem ob_eq (s : PySem.W.SharedT) : ob s = hk.obs s.abs := obsE_eq (HandSHeadRun.getT_eq s)
theorem run_ok (w : World) : HandSHeadRun.RunEq R0 (PySem.W.view R0.prog [32]) hk ob 4000 (Law.loose) w := by
  intro os
  kernel_rfl
theorem facts {P : Program} {w : World} {K : PySem.W.Frag} {h : Heap} {mg : Str → Option Value} {f : Addr} (hl : ∀ ns : List Int, ns.length ≤ 63 → m_law [.kst (ns.map D.int)] = .ok (.bl true)) (X : K.In h) (G : h.Ns mainGlobals mg) (hfa : mg ("law" : Str) = some (.ref f)) (c : He.SaysD fa fn K) (x : exB K = true) :
    ∃ fd : FuncData, (∀ (s : Shared) (v : Value), BindsTo s fd ⟨[v], []⟩ [("_law_script", v)]) ∧ ∀ base : Heap, K.In base → base.Ns mainGlobals mg → FnG P w K mg base 9 f fd ["_law_script"] (spLaw K) := by
  have T : Tx K mg := tx_of X G c x
  obtain ⟨fd, F⟩ := c.def_ 25 (d := d_law) rfl
  have e := hfa.symm.trans (T.glo _ (T.c.fact 25 (f := .glo "law") rfl))
  cases e
  have b := FunD.bindsA (ps := ["_law_script"]) F fun _ _ _ _ _ _ us hl => match us, hl with | [_], _ => rfl
  exact ⟨fd, fun s v => b s [v] rfl, fun base _ _ => law_ok F sc_law (kn_law T) b_law hl⟩
end Law
namespace Law
open PySem L2 Dw
local macro_rules | `(tactic| walk_at "ev") => `(tactic| simp (decide := true) (failIfUnchanged := false) (implicitDefEqProofs := false) only [e_enumL, e_enumK, e_enum0, e_enum1, e_ctS, e_bkS, e_chain, e_kchT, e_kchF, e_kchD, e_aug, e_kaug0, e_kaug, e_ins, e_kins0, e_kins, e_setI, e_setJ, e_setJ0, e_setK, e_slG, e_noP, e_pt, e_slAL, e_slAK, e_slAT, e_slNL, e_slNK, e_all, e_listL, e_listT, e_listK, e_bind_ok, e_bind_ex, e_bind_no, e_bind_ite, e_var, e_varpu, e_varow, e_c, e_bin, e_un, e_app, e_nil, e_cons, e_call, e_kcall1, e_kcall2, e_kcall3, e_kcall4, e_callN, e_kcallN1, e_kcallN2, e_kcallN3, e_rsV, e_rsVl, e_rsVx, e_rsN, e_rsNx, e_if, e_L, e_toL, e_toLx, e_andB1, e_andB, e_orB1, e_orB, e_notB, e_andV1, e_andV, e_kandV, e_orV1, e_orV, e_korV, e_ixV, e_kixpu, e_kixow,
  e_addII, e_sub, e_mul, f_divL, f_modL, f_powL, f_modC, f_divC, e_shr, e_and, e_neg, e_notV, e_lt, e_le, e_gt, e_ge, e_eqII, e_neII, e_eqSS, e_neSS, e_eqBB, e_neBB, e_isN, e_isB, e_notN, e_notBB, e_isNon0, e_isNonI, e_isNonT, e_isNonL, e_isNonX, e_isNonS, e_asB, e_truB, e_ixT, e_ixL, e_ixK, e_at0, e_at1, e_lenT, e_lenL, e_lenK, e_abs, e_int1, e_int1b, e_max2, e_min2, e_bor0, e_borC, e_borSp, e_borSo, e_borSu,
  e_seq, e_fnx, e_frt, e_frtl, e_fex, e_fct, e_fbk, e_fite, e_nx, e_evA, e_kA, e_kAx, e_kAn, e_kA2, e_kA2x, e_kAite, e_evN, e_evL, e_kN, e_kNx, e_kNite, e_evI, e_kI, e_evT, e_fA, e_fAx, e_fAite, e_retV, e_retN, e_retO, e_kretpu, e_kretow, e_ret0, e_asg, e_asgN, e_asgT, e_kopt, e_tname, e_tcons, e_tnil, e_par2, e_kpar2, e_ifS, e_kif, e_kifite, e_rz, e_for, e_appd, e_kapp0, e_kapp, e_run, e_ort, e_ortl, e_oex, e_onx, e_oite, e_go0, e_go, e_kgo, e_lnx, e_lct, e_lbk, e_lrt, e_lite, e_lc, e_itL, e_itK, e_itT, e_wipe0, e_wipe, e_tryK, e_tryN, e_tryx, e_ktry, e_trynx, e_exp,
  e_at2, e_at3, e_at4, e_lcN, e_lcC, e_lc1, e_lc2, e_lc2f, e_lc3, e_ctrue, e_all0, e_all1, e_all2, e_all3, i_lt, i_li, i_lb, i_ls, i_ln, i_ll, i_lk, i_ld, i_id, i_bd, i_st, i_si, i_sb, i_ss, i_sn, i_sl, i_sd, i_dt, i_di, i_db, i_ds, i_dn, i_dl, i_dd, e_frtn, e_ono, e_rsVn, ite_self, _root_.eq_self, e_flI, e_flB, e_flS, e_flN, e_flL, e_flT, e_fls0, e_fls1, Bool.and_true, Bool.true_and, e_tup, e_lst, e_addLL, e_addTT, szT, szlT, i_tt, i_ti, i_tb, i_ts, i_tn, i_tl, i_td, i_it, i_ii, i_ib, i_is, i_in, i_il, i_bt, i_bi, i_bb, i_bs, i_bn, i_bl, e_dct0, e_ttup, e_L, Nat.reduceLeDiff, List.length_append, ini, List.map_cons, List.map_nil, List.length_cons, List.length_nil, List.getElem?_cons_zero, List.getElem?_cons_succ, List.set_cons_zero, List.set_cons_succ, List.cons_append, List.nil_append, List.append_nil, Option.bind_some, Nat.zero_add, Nat.reduceAdd, Nat.reduceSub, List.replicate, Bool.false_eq_true, Bool.true_eq_false, if_true, if_false, reduceIte, decide_eq_true_eq, Bool.not_true, Bool.not_false, Bool.not_eq_true', decide_eq_false_iff_not, decide_true, decide_false])
local macro_rules | `(tactic| walk_at "evh") => `(tactic| simp (decide := true) (failIfUnchanged := false) (implicitDefEqProofs := false) only [e_enumL, e_enumK, e_enum0, e_enum1, e_ctS, e_bkS, e_chain, e_kchT, e_kchF, e_kchD, e_aug, e_kaug0, e_kaug, e_ins, e_kins0, e_kins, e_setI, e_setJ, e_setJ0, e_setK, e_slG, e_noP, e_pt, e_slAL, e_slAK, e_slAT, e_slNL, e_slNK, e_all, e_listL, e_listT, e_listK, e_bind_ok, e_bind_ex, e_bind_no, e_bind_ite, e_var, e_varpu, e_varow, e_c, e_bin, e_un, e_app, e_nil, e_cons, e_call, e_kcall1, e_kcall2, e_kcall3, e_kcall4, e_callN, e_kcallN1, e_kcallN2, e_kcallN3, e_rsV, e_rsVl, e_rsVx, e_rsN, e_rsNx, e_if, e_L, e_toL, e_toLx, e_andB1, e_andB, e_orB1, e_orB, e_notB, e_andV1, e_andV, e_kandV, e_orV1, e_orV, e_korV, e_ixV, e_kixpu, e_kixow,
  e_addII, e_sub, e_mul, f_divL, f_modL, f_powL, f_modC, f_divC, e_shr, e_and, e_neg, e_notV, e_lt, e_le, e_gt, e_ge, e_eqII, e_neII, e_eqSS, e_neSS, e_eqBB, e_neBB, e_isN, e_isB, e_notN, e_notBB, e_isNon0, e_isNonI, e_isNonT, e_isNonL, e_isNonX, e_isNonS, e_asB, e_truB, e_ixT, e_ixL, e_ixK, e_at0, e_at1, e_lenT, e_lenL, e_lenK, e_abs, e_int1, e_int1b, e_max2, e_min2, e_bor0, e_borC, e_borSp, e_borSo, e_borSu,
  e_seq, e_fnx, e_frt, e_frtl, e_fex, e_fct, e_fbk, e_fite, e_nx, e_evA, e_kA, e_kAx, e_kAn, e_kA2, e_kA2x, e_kAite, e_evN, e_evL, e_kN, e_kNx, e_kNite, e_evI, e_kI, e_evT, e_fA, e_fAx, e_fAite, e_retV, e_retN, e_retO, e_kretpu, e_kretow, e_ret0, e_asg, e_asgN, e_asgT, e_kopt, e_tname, e_tcons, e_tnil, e_par2, e_kpar2, e_ifS, e_kif, e_kifite, e_rz, e_for, e_appd, e_kapp0, e_kapp, e_run, e_ort, e_ortl, e_oex, e_onx, e_oite, e_go0, e_go, e_kgo, e_lnx, e_lct, e_lbk, e_lrt, e_lite, e_lc, e_itL, e_itK, e_itT, e_wipe0, e_wipe, e_tryK, e_tryN, e_tryx, e_ktry, e_trynx, e_exp,
  e_at2, e_at3, e_at4, e_lcN, e_lcC, e_lc1, e_lc2, e_lc2f, e_lc3, e_ctrue, e_all0, e_all1, e_all2, e_all3, i_lt, i_li, i_lb, i_ls, i_ln, i_ll, i_lk, i_ld, i_id, i_bd, i_st, i_si, i_sb, i_ss, i_sn, i_sl, i_sd, i_dt, i_di, i_db, i_ds, i_dn, i_dl, i_dd, e_frtn, e_ono, e_rsVn, ite_self, _root_.eq_self, e_flI, e_flB, e_flS, e_flN, e_flL, e_flT, e_fls0, e_fls1, Bool.and_true, Bool.true_and, e_tup, e_lst, e_addLL, e_addTT, szT, szlT, i_tt, i_ti, i_tb, i_ts, i_tn, i_tl, i_td, i_it, i_ii, i_ib, i_is, i_in, i_il, i_bt, i_bi, i_bb, i_bs, i_bn, i_bl, e_dct0, e_ttup, e_L, Nat.reduceLeDiff, List.length_append, ini, List.map_cons, List.map_nil, List.length_cons, List.length_nil, List.getElem?_cons_zero, List.getElem?_cons_succ, List.set_cons_zero, List.set_cons_succ, List.cons_append, List.nil_append, List.append_nil, Option.bind_some, Nat.zero_add, Nat.reduceAdd, Nat.reduceSub, List.replicate, Bool.false_eq_true, Bool.true_eq_false, if_true, if_false, reduceIte, decide_eq_true_eq, Bool.not_true, Bool.not_false, Bool.not_eq_true', decide_eq_false_iff_not, decide_true, decide_false, *])
local macro_rules | `(tactic| simp_arith [$xs,*]) => `(tactic| simp (decide := true) (failIfUnchanged := false) (implicitDefEqProofs := false) only [$xs,*, e_enumL, e_enumK, e_enum0, e_enum1, e_ctS, e_bkS, e_chain, e_kchT, e_kchF, e_kchD, e_aug, e_kaug0, e_kaug, e_ins, e_kins0, e_kins, e_setI, e_setJ, e_setJ0, e_setK, e_slG, e_noP, e_pt, e_slAL, e_slAK, e_slAT, e_slNL, e_slNK, e_all, e_listL, e_listT, e_listK, e_bind_ok, e_bind_ex, e_bind_no, e_bind_ite, e_var, e_varpu, e_varow, e_c, e_bin, e_un, e_app, e_nil, e_cons, e_call, e_kcall1, e_kcall2, e_kcall3, e_kcall4, e_callN, e_kcallN1, e_kcallN2, e_kcallN3, e_rsV, e_rsVl, e_rsVx, e_rsN, e_rsNx, e_if, e_L, e_toL, e_toLx, e_andB1, e_andB, e_orB1, e_orB, e_notB, e_andV1, e_andV, e_kandV, e_orV1, e_orV, e_korV, e_ixV, e_kixpu, e_kixow,
  e_addII, e_sub, e_mul, f_divL, f_modL, f_powL, f_modC, f_divC, e_shr, e_and, e_neg, e_notV, e_lt, e_le, e_gt, e_ge, e_eqII, e_neII, e_eqSS, e_neSS, e_eqBB, e_neBB, e_isN, e_isB, e_notN, e_notBB, e_isNon0, e_isNonI, e_isNonT, e_isNonL, e_isNonX, e_isNonS, e_asB, e_truB, e_ixT, e_ixL, e_ixK, e_at0, e_at1, e_lenT, e_lenL, e_lenK, e_abs, e_int1, e_int1b, e_max2, e_min2, e_bor0, e_borC, e_borSp, e_borSo, e_borSu,
  e_seq, e_fnx, e_frt, e_frtl, e_fex, e_fct, e_fbk, e_fite, e_nx, e_evA, e_kA, e_kAx, e_kAn, e_kA2, e_kA2x, e_kAite, e_evN, e_evL, e_kN, e_kNx, e_kNite, e_evI, e_kI, e_evT, e_fA, e_fAx, e_fAite, e_retV, e_retN, e_retO, e_kretpu, e_kretow, e_ret0, e_asg, e_asgN, e_asgT, e_kopt, e_tname, e_tcons, e_tnil, e_par2, e_kpar2, e_ifS, e_kif, e_kifite, e_rz, e_for, e_appd, e_kapp0, e_kapp, e_run, e_ort, e_ortl, e_oex, e_onx, e_oite, e_go0, e_go, e_kgo, e_lnx, e_lct, e_lbk, e_lrt, e_lite, e_lc, e_itL, e_itK, e_itT, e_wipe0, e_wipe, e_tryK, e_tryN, e_tryx, e_ktry, e_trynx, e_exp,
  e_at2, e_at3, e_at4, e_lcN, e_lcC, e_lc1, e_lc2, e_lc2f, e_lc3, e_ctrue, e_all0, e_all1, e_all2, e_all3, i_lt, i_li, i_lb, i_ls, i_ln, i_ll, i_lk, i_ld, i_id, i_bd, i_st, i_si, i_sb, i_ss, i_sn, i_sl, i_sd, i_dt, i_di, i_db, i_ds, i_dn, i_dl, i_dd, e_frtn, e_ono, e_rsVn, ite_self, _root_.eq_self, e_flI, e_flB, e_flS, e_flN, e_flL, e_flT, e_fls0, e_fls1, Bool.and_true, Bool.true_and, e_tup, e_lst, e_addLL, e_addTT, szT, szlT, i_tt, i_ti, i_tb, i_ts, i_tn, i_tl, i_td, i_it, i_ii, i_ib, i_is, i_in, i_il, i_bt, i_bi, i_bb, i_bs, i_bn, i_bl, e_dct0, e_ttup, e_L, Nat.reduceLeDiff, List.length_append, ini, List.map_cons, List.map_nil, List.length_cons, List.length_nil, List.getElem?_cons_zero, List.getElem?_cons_succ, List.set_cons_zero, List.set_cons_succ, List.cons_append, List.nil_append, List.append_nil, Option.bind_some, Nat.zero_add, Nat.reduceAdd, Nat.reduceSub, List.replicate, Bool.false_eq_true, Bool.true_eq_false, if_true, if_false, reduceIte, decide_eq_true_eq, Bool.not_true, Bool.not_false, Bool.not_eq_true', decide_eq_false_iff_not, decide_true, decide_false])
theorem gcd_loop (t : CB) (bd : CS) (ht : ∀ a b : Int, evT t [.pu (.int a), .pu (.int b)] = .ok (decide (0 < b))) (hb : ∀ a b : Int, b ≠ 0 → bd [.pu (.int a), .pu (.int b)] = .nx [.pu (.int b), .pu (.int (a.fmod b))]) :
    ∀ (b a : Nat), ∃ k, whN t bd k [.pu (.int a), .pu (.int b)] = .nx [.pu (.int (Nat.gcd a b : Nat)), .pu (.int 0)] := by
  intro b
  induction b using Nat.strongRecOn with
  | _ b ih =>
    intro a
    by_cases hz : b = 0
    · subst hz
      refine ⟨1, ?_⟩
      unfold whN
      rw [ht]
      simp
    · obtain ⟨k, hk⟩ := ih (a % b) (Nat.mod_lt _ (Nat.pos_of_ne_zero hz)) b
      refine ⟨k + 1, ?_⟩
      unfold whN
      have hpos : (0 : Int) < (b : Int) := by omega
      have e1 : ((a : Int).fmod (b : Int)) = ((a % b : Nat) : Int) := by
        rw [Int.fmod_eq_emod_of_nonneg _ (by omega)]
        rfl
      rw [ht, decide_eq_true hpos]
      show fLoop (bd _) _ = _
      rw [hb _ _ (by omega), e1]
      show whN t bd k _ = _
      rw [hk, Nat.gcd_comm a b, Nat.gcd_rec b a, Nat.gcd_comm]
theorem m_cd (a b : Nat) : m_common_divisor [.int a, .int b] = .ok (.int (Nat.gcd a b : Nat)) := by
  obtain ⟨k, hk⟩ := gcd_loop c_common_divisor_t1 c_common_divisor_b1
    (fun a b => by unfold c_common_divisor_t1; walk_at "ev") (fun a b hb => by
      have hb' : cMod a b := hb
      unfold c_common_divisor_b1
      walk_at "ev"
      rw [e_mod, if_pos hb']
      walk_at "ev") b a
  have e := cWh_of hk (fun z => nomatch z)
  unfold m_common_divisor c_common_divisor
  walk_at "ev"
  rw [e]
  walk_at "ev"
theorem m_lgcd (a b : Nat) : m_law_gcd [.int a, .int b] = .ok (.int (Nat.gcd a b : Nat)) := m_cd a b
def gI (t b : Int) : Int := (Nat.gcd t.natAbs b.natAbs : Nat)
def red (t b : Int) : D := if b < 0 then .tup [.int (t.fdiv (-gI t b)), .int (b.fdiv (-gI t b))] else .tup [.int (t.fdiv (gI t b)), .int (b.fdiv (gI t b))]
theorem abs_int (t : Int) : (if t < 0 then -t else t) = ((t.natAbs : Nat) : Int) := by split <;> omega
theorem gI_pos {t b : Int} (hb : b ≠ 0) : 0 < gI t b := by
  unfold gI
  have : 0 < Nat.gcd t.natAbs b.natAbs := Nat.gcd_pos_of_pos_right _ (by omega)
  omega
theorem gI_bd {t b : Int} {n : Nat} (hb : b ≠ 0) (h : Bd n b) : Bd n (gI t b) := by
  refine Bd.le ?_ h
  unfold gI
  rw [Int.natAbs_natCast]
  exact Nat.le_of_dvd (by omega) (Nat.gcd_dvd_right _ _)
theorem m_lp {t b : Int} {n : Nat} (hb : 0 < b) (hs : Bd n b) (hn : n ≤ 8000) : m_law_part [.int t, .int b] = .ok (red t b) := by
  have hg := m_lgcd t.natAbs b.natAbs
  have hb' : b ≠ 0 := by omega
  have h1 : cDiv t (gI t b) := cDiv_bd (by have := gI_pos (t := t) hb'; omega) (gI_bd hb' hs) (by omega)
  have h2 : cDiv b (gI t b) := cDiv_bd (by have := gI_pos (t := t) hb'; omega) (gI_bd hb' hs) (by omega)
  have e : ((Nat.gcd t.natAbs b.natAbs : Nat) : Int) = gI t b := rfl
  have eb : b = ((b.natAbs : Nat) : Int) := by omega
  have hg2 : m_law_gcd [.int ((t.natAbs : Nat) : Int), .int b] = .ok (.int (gI t b)) := by
    rw [eb]
    exact hg
  unfold m_law_part c_law_part red
  walk_at "ev"
  simp only [abs_int, hg2]
  walk_at "ev"
  simp only [e_div, h1, h2, if_true]
  walk_at "ev"
  rw [if_neg (by omega)]
abbrev P2 (a b : Int) : D := .tup [.int a, .int b]
theorem mu {a b : Int} (h : Bd 200 a) (g : Bd 200 b) : cMul a b := cMul_bd h g (by decide)
theorem m_mo {a b c d : Int} (ha : Bd 200 a) (hb : Bd 200 b) (hc : Bd 200 c) (hd : Bd 200 d) : m_is_more [P2 a b, P2 c d] = .ok (.bl (decide (a * d > c * b))) := by
  have h1 := mu ha hd
  have h2 := mu hc hb
  unfold m_is_more c_is_more
  walk_at "ev"
  simp only [h1, h2, if_true]
  try walk_at "ev"
theorem m_ls {a b c d : Int} (ha : Bd 200 a) (hb : Bd 200 b) (hc : Bd 200 c) (hd : Bd 200 d) : m_lesser [P2 a b, P2 c d] = .ok (if a * d > c * b then P2 c d else P2 a b) := by
  unfold m_lesser c_lesser
  walk_at "ev"
  rw [m_mo ha hb hc hd]
  walk_at "ev"
  by_cases h : a * d > c * b <;> simp only [h, if_true, if_false, decide_true, decide_false] <;> (try walk_at "ev")
theorem m_gr {a b c d : Int} (ha : Bd 200 a) (hb : Bd 200 b) (hc : Bd 200 c) (hd : Bd 200 d) : m_greater [P2 a b, P2 c d] = .ok (if a * d > c * b then P2 a b else P2 c d) := by
  unfold m_greater c_greater
  walk_at "ev"
  rw [m_mo ha hb hc hd]
  walk_at "ev"
  by_cases h : a * d > c * b <;> simp only [h, if_true, if_false, decide_true, decide_false] <;> (try walk_at "ev")
theorem eqP {a b c d : Int} : dEq (P2 a b) (P2 c d) = .ok (.bl (a == c && b == d)) := by
  rw [e_eqG (Or.inl rfl) rfl rfl]
  simp [D.toPy, D.toPys, PyData.eqv, PyData.eqvAll]
theorem eqPs {a b : Int} : dEq (P2 a b) (P2 a b) = .ok (.bl true) := by rw [eqP]; simp
theorem red_P (t b : Int) : ∃ p q, red t b = P2 p q := by
  unfold red
  split
  · exact ⟨_, _, rfl⟩
  · exact ⟨_, _, rfl⟩
theorem m_iw (i : Int) : m_is_whole [.int i] = .ok (.bl true) := rfl
theorem m_iwb (b : Bool) : m_is_whole [.bl b] = .ok (.bl false) := rfl
theorem m_iws (x : PySem.Str) : m_is_whole [.str x] = .ok (.bl false) := rfl
theorem m_iwn : m_is_whole [.non] = .ok (.bl false) := rfl
theorem m_iwt (ds : List D) : m_is_whole [.tup ds] = .ok (.bl false) := rfl
theorem m_ip {a b : Int} : m_is_part [P2 a b] = .ok (.bl (decide (1 ≤ b ∧ Nat.gcd a.natAbs b.natAbs = 1))) := by
  unfold m_is_part c_is_part
  have h1 := m_iw a
  have h2 := m_iw b
  walk_at "ev"
  simp only [h1, h2]
  walk_at "ev"
  by_cases h : 1 ≤ b
  · have hg := m_cd a.natAbs b.natAbs
    have eb : ((b.natAbs : Nat) : Int) = b := by omega
    rw [eb] at hg
    have hk : decide (((Nat.gcd a.natAbs b.natAbs : Nat) : Int) = 1) = decide (Nat.gcd a.natAbs b.natAbs = 1) := decide_eq_decide.mpr (by omega)
    simp only [h, if_true, abs_int, hg, ge_iff_le, true_and]
    walk_at "ev"
    rw [hk]
  · simp only [h, ge_iff_le, false_and, if_false, decide_false]
def Sm (x : Int) : Prop := 0 ≤ x ∧ x < 10 ^ 40
theorem Sm.bd {x : Int} (h : Sm x) : Bd 140 x := bd_of (Int.lt_of_lt_of_le (by decide) h.1) (Int.lt_trans h.2 (by decide))
def Pt (a b : Int) : Prop := Bd 100 a ∧ Bd 100 b ∧ 0 < b ∧ Nat.gcd a.natAbs b.natAbs = 1
theorem red_pt {t u : Int} (h : 0 < u) (h1 : Bd 90 t) (h2 : Bd 90 u) : ∃ a b, red t u = P2 a b ∧ Pt a b := by
  have hg := gI_pos (t := t) (b := u) (by omega)
  obtain ⟨a, ha⟩ : gI t u ∣ t := Int.gcd_dvd_left ..
  obtain ⟨b, hb⟩ : gI t u ∣ u := Int.gcd_dvd_right ..
  have hge : (gI t u).natAbs = Nat.gcd t.natAbs u.natAbs := Int.natAbs_natCast _
  generalize hG : gI t u = g at *
  have e1 : t.fdiv g = a := by rw [ha, Int.mul_fdiv_cancel_left _ (by omega)]
  have e2 : u.fdiv g = b := by rw [hb, Int.mul_fdiv_cancel_left _ (by omega)]
  have hb0 : 0 < b := by
    rcases Int.lt_trichotomy b 0 with q | q | q
    · have := Int.mul_neg_of_pos_of_neg hg q
      omega
    · rw [q, Int.mul_zero] at hb
      omega
    · exact q
  have n1 : 1 ≤ g.natAbs := by omega
  refine ⟨a, b, ?_, ?_, ?_, hb0, ?_⟩
  · unfold red
    rw [if_neg (by omega), hG, e1, e2]
  · refine (Bd.le ?_ h1).mono (by decide)
    rw [ha, Int.natAbs_mul]
    exact Nat.le_mul_of_pos_left _ n1
  · refine (Bd.le ?_ h2).mono (by decide)
    rw [hb, Int.natAbs_mul]
    exact Nat.le_mul_of_pos_left _ n1
  · have q : Nat.gcd (g * a).natAbs (g * b).natAbs = g.natAbs := by rw [← ha, ← hb, hge]
    rw [Int.natAbs_mul, Int.natAbs_mul, Nat.gcd_mul_left] at q
    have q2 : g.natAbs * Nat.gcd a.natAbs b.natAbs = g.natAbs * 1 := by omega
    exact Nat.eq_of_mul_eq_mul_left n1 q2
theorem Pt.neg {a b : Int} (h : Pt a b) : Pt (0 - a) b := by
  obtain ⟨h1, h2, h3, h4⟩ := h
  refine ⟨by rw [Int.zero_sub]; exact h1.neg, h2, h3, ?_⟩
  rw [Int.zero_sub, Int.natAbs_neg]
  exact h4
theorem pt01 : Pt 0 1 := ⟨by unfold Bd; decide, by unfold Bd; decide, by decide, by decide⟩
/-! ### sets of stretches, by numbers -/
abbrev IP := Int × Int
def insP (p : IP) : List IP → List IP
  | [] => [p]
  | q :: r => if p.1 < q.1 then p :: q :: r else q :: insP p r
def sortP (ps : List IP) : List IP := ps.foldl (fun acc p => insP p acc) []
theorem ins_at (p : IP) : ∀ (l : List IP) (n : Nat), n ≤ l.length → (∀ i q, i < n → l[i]? = some q → ¬ p.1 < q.1) → (∀ q, l[n]? = some q → p.1 < q.1) → l.take n ++ [p] ++ l.drop n = insP p l
  | [], n, hn, _, _ => by
    have e : n = 0 := by simpa using hn
    subst e
    rfl
  | q :: r, 0, _, _, h => by
    have h' := h q rfl
    simp [insP, h']
  | q :: r, n + 1, hn, h1, h2 => by
    have h' := h1 0 q (by omega) rfl
    have ih := ins_at p r n (by simpa using hn) (fun i z hi hz => h1 (i + 1) z (by omega) (by simpa using hz)) (fun z hz => h2 z (by simpa using hz))
    simp only [List.take_succ_cons, List.cons_append, List.drop_succ_cons, insP, h', if_false, ih]
theorem ins_len (p : IP) : ∀ l : List IP, (insP p l).length = l.length + 1
  | [] => rfl
  | q :: r => by
    unfold insP
    split
    · rfl
    · rw [List.length_cons, ins_len p r, List.length_cons]
theorem ins_mem (p x : IP) : ∀ l : List IP, x ∈ insP p l ↔ x = p ∨ x ∈ l
  | [] => by simp [insP]
  | q :: r => by
    unfold insP
    split
    · simp
    · simp only [List.mem_cons, ins_mem p x r]
      constructor
      · rintro (h | h | h)
        · exact .inr (.inl h)
        · exact .inl h
        · exact .inr (.inr h)
      · rintro (h | h | h)
        · exact .inr (.inl h)
        · exact .inl h
        · exact .inr (.inr h)
def Srt : List IP → Prop
  | [] => True
  | p :: r => (∀ q ∈ r, p.1 ≤ q.1) ∧ Srt r
theorem ins_srt (p : IP) : ∀ l : List IP, Srt l → Srt (insP p l)
  | [], _ => ⟨by simp, trivial⟩
  | q :: r, h => by
    unfold insP
    split
    · rename_i hq
      refine ⟨fun z hz => ?_, h⟩
      rcases List.mem_cons.mp hz with e | e
      · subst e; omega
      · have := h.1 z e; omega
    · rename_i hq
      refine ⟨fun z hz => ?_, ins_srt p r h.2⟩
      rcases (ins_mem p z r).mp hz with e | e
      · subst e; omega
      · exact h.1 z e
theorem sort_aux : ∀ (ps acc : List IP), Srt acc → Srt (ps.foldl (fun acc p => insP p acc) acc) ∧ (∀ x, x ∈ ps.foldl (fun acc p => insP p acc) acc ↔ x ∈ acc ∨ x ∈ ps) ∧ (ps.foldl (fun acc p => insP p acc) acc).length = acc.length + ps.length
  | [], acc, h => ⟨h, fun x => by simp, by simp⟩
  | p :: ps, acc, h => by
    obtain ⟨h1, h2, h3⟩ := sort_aux ps (insP p acc) (ins_srt p acc h)
    refine ⟨h1, fun x => ?_, ?_⟩
    · rw [List.foldl_cons, h2, ins_mem, List.mem_cons]
      constructor
      · rintro ((h | h) | h)
        · exact .inr (.inl h)
        · exact .inl h
        · exact .inr (.inr h)
      · rintro (h | h | h)
        · exact .inl (.inr h)
        · exact .inl (.inl h)
        · exact .inr h
    · rw [List.foldl_cons, h3, ins_len, List.length_cons]; omega
theorem sort_srt (ps : List IP) : Srt (sortP ps) := (sort_aux ps [] trivial).1
theorem sort_mem (ps : List IP) (x : IP) : x ∈ sortP ps ↔ x ∈ ps := by
  unfold sortP
  rw [(sort_aux ps [] trivial).2.1]
  simp
theorem sort_len (ps : List IP) : (sortP ps).length = ps.length := by
  unfold sortP
  rw [(sort_aux ps [] trivial).2.2]
  simp
/-- gathering, the list turned about -/
def gr (acc : List IP) (p : IP) : List IP := if p.2 ≤ p.1 then acc else match acc with
  | [] => [p]
  | q :: r => if p.1 ≤ q.2 then (q.1, max q.2 p.2) :: r else p :: q :: r
def gath (ps : List IP) : List IP := ((sortP ps).foldl gr []).reverse
def inS (j : Int) (s : List IP) : Prop := ∃ p ∈ s, p.1 ≤ j ∧ j < p.2
def WFr : List IP → Prop
  | [] => True
  | p :: r => p.1 < p.2 ∧ (∀ q ∈ r, q.2 < p.1) ∧ WFr r
theorem inS_nil {j : Int} : inS j [] ↔ False := by simp [inS]
theorem inS_cons {j : Int} {p : IP} {r : List IP} : inS j (p :: r) ↔ (p.1 ≤ j ∧ j < p.2) ∨ inS j r := by simp [inS]
theorem gr_ok {acc : List IP} {p : IP} (hw : WFr acc) (hs : ∀ q ∈ acc, q.1 ≤ p.1) : WFr (gr acc p) ∧ (∀ j, inS j (gr acc p) ↔ inS j acc ∨ (p.1 ≤ j ∧ j < p.2)) ∧ ∀ q ∈ gr acc p, q.1 ≤ p.1 := by
  unfold gr
  split
  · rename_i h
    refine ⟨hw, fun j => ⟨.inl, ?_⟩, hs⟩
    rintro (h | h)
    · exact h
    · omega
  · rename_i h
    cases acc with
    | nil =>
      refine ⟨⟨by omega, by simp, trivial⟩, fun j => ?_, by simp⟩
      simp [inS]
    | cons q r =>
      simp only []
      have hq := hs q List.mem_cons_self
      split
      · rename_i hl
        refine ⟨⟨?_, hw.2.1, hw.2.2⟩, fun j => ?_, ?_⟩
        · show q.1 < max q.2 p.2
          have := hw.1; omega
        · rw [inS_cons, inS_cons]
          show (q.1 ≤ j ∧ j < max q.2 p.2) ∨ inS j r ↔ _
          constructor
          · rintro (h1 | h1)
            · by_cases h2 : j < q.2
              · exact .inl (.inl ⟨h1.1, h2⟩)
              · exact .inr ⟨by omega, by omega⟩
            · exact .inl (.inr h1)
          · rintro ((h1 | h1) | h1)
            · exact .inl ⟨h1.1, by omega⟩
            · exact .inr h1
            · exact .inl ⟨by omega, by omega⟩
        · intro z hz
          rcases List.mem_cons.mp hz with e | e
          · subst e; exact hq
          · exact hs z (List.mem_cons_of_mem _ e)
      · rename_i hl
        refine ⟨⟨by omega, ?_, hw⟩, fun j => ?_, ?_⟩
        · intro z hz
          rcases List.mem_cons.mp hz with e | e
          · subst e; omega
          · have := hw.2.1 z e
            have := hw.1
            omega
        · rw [inS_cons]
          constructor
          · rintro (h1 | h1)
            · exact .inr h1
            · exact .inl h1
          · rintro (h1 | h1)
            · exact .inr h1
            · exact .inl h1
        · intro z hz
          rcases List.mem_cons.mp hz with e | e
          · subst e; omega
          · exact hs z e
theorem gath_aux : ∀ (ps acc : List IP), Srt ps → WFr acc → (∀ q ∈ acc, ∀ p ∈ ps, q.1 ≤ p.1) → WFr (ps.foldl gr acc) ∧ ∀ j, inS j (ps.foldl gr acc) ↔ inS j acc ∨ inS j ps
  | [], acc, _, hw, _ => ⟨hw, fun j => by simp [inS_nil]⟩
  | p :: ps, acc, hs, hw, hq => by
    obtain ⟨h1, h2, h3⟩ := gr_ok hw (fun q hz => hq q hz p List.mem_cons_self)
    obtain ⟨g1, g2⟩ := gath_aux ps (gr acc p) hs.2 h1 fun q hz x hx => by
      have := h3 q hz
      have := hs.1 x hx
      omega
    refine ⟨g1, fun j => ?_⟩
    rw [List.foldl_cons, g2, h2, inS_cons, or_assoc]
theorem wf_uniq : ∀ s t : List IP, WFr s → WFr t → (∀ j, inS j s ↔ inS j t) → s = t
  | [], [], _, _, _ => rfl
  | [], q :: t, _, ht, h => by
    have := (h q.1).mpr (inS_cons.mpr (.inl ⟨Int.le_refl _, ht.1⟩))
    exact (inS_nil.mp this).elim
  | p :: s, [], hs, _, h => by
    have := (h p.1).mp (inS_cons.mpr (.inl ⟨Int.le_refl _, hs.1⟩))
    exact (inS_nil.mp this).elim
  | p :: s, q :: t, hs, ht, h => by
    have top : ∀ {p : IP} {s : List IP}, WFr (p :: s) → ∀ j, inS j (p :: s) → j < p.2 := fun {p s} hw j hj => by
      rcases inS_cons.mp hj with e | ⟨z, hz, e⟩
      · exact e.2
      · have := hw.2.1 z hz
        have := hw.1
        omega
    have low : ∀ {p : IP} {s : List IP}, WFr (p :: s) → ¬ inS (p.1 - 1) (p :: s) := fun {p s} hw hj => by
      rcases inS_cons.mp hj with e | ⟨z, hz, e⟩
      · omega
      · have := hw.2.1 z hz
        omega
    have a1 := top ht (p.2 - 1) ((h _).mp (inS_cons.mpr (.inl ⟨by have := hs.1; omega, by omega⟩)))
    have a2 := top hs (q.2 - 1) ((h _).mpr (inS_cons.mpr (.inl ⟨by have := ht.1; omega, by omega⟩)))
    have e2 : p.2 = q.2 := by omega
    have e1 : p.1 = q.1 := by
      rcases Int.lt_trichotomy p.1 q.1 with c | c | c
      · refine absurd ((h (q.1 - 1)).mp (inS_cons.mpr (.inl ⟨by omega, ?_⟩))) (low ht)
        have := ht.1; omega
      · exact c
      · refine absurd ((h (p.1 - 1)).mpr (inS_cons.mpr (.inl ⟨by omega, ?_⟩))) (low hs)
        have := hs.1; omega
    have e : p = q := Prod.ext e1 e2
    subst e
    have sub : ∀ {s : List IP}, WFr (p :: s) → ∀ j, inS j s ↔ inS j (p :: s) ∧ j < p.1 := fun {s} hw j => by
      rw [inS_cons]
      constructor
      · intro hj
        refine ⟨.inr hj, ?_⟩
        obtain ⟨z, hz, e⟩ := hj
        have := hw.2.1 z hz
        omega
      · rintro ⟨e | e, h2⟩
        · omega
        · exact e
    rw [wf_uniq s t hs.2.2 ht.2.2 fun j => by rw [sub hs, sub ht, h]]
theorem gath_eq {ps : List IP} {t : List IP} (ht : WFr t) (h : ∀ j, inS j ps ↔ inS j t) : gath ps = t.reverse := by
  obtain ⟨h1, h2⟩ := gath_aux (sortP ps) [] (sort_srt ps) trivial (by simp)
  unfold gath
  rw [wf_uniq _ t h1 ht fun j => ?_]
  rw [h2, inS_nil, false_or, ← h]
  constructor
  · rintro ⟨p, hp, e⟩
    exact ⟨p, (sort_mem ps p).mp hp, e⟩
  · rintro ⟨p, hp, e⟩
    exact ⟨p, (sort_mem ps p).mpr hp, e⟩
/-- the spans of marks, turned about -/
def sr (mk : Int → Bool) (acc : List IP) (k : Int) : List IP := if mk k then (match acc with
  | [] => [(k, k + 1)]
  | q :: r => if q.2 = k then (q.1, k + 1) :: r else (k, k + 1) :: q :: r) else acc
def spr (mk : Int → Bool) : Nat → List IP
  | 0 => []
  | n + 1 => sr mk (spr mk n) n
theorem spr_ok (mk : Int → Bool) : ∀ n : Nat, WFr (spr mk n) ∧ (∀ j, inS j (spr mk n) ↔ 0 ≤ j ∧ j < n ∧ mk j = true) ∧ ∀ q ∈ spr mk n, q.2 ≤ n ∧ 0 ≤ q.1
  | 0 => ⟨trivial, fun j => by simp only [spr, inS_nil, false_iff]; omega, by simp [spr]⟩
  | n + 1 => by
    obtain ⟨h1, h2, h3⟩ := spr_ok mk n
    show WFr (sr mk (spr mk n) n) ∧ (∀ j, inS j (sr mk (spr mk n) n) ↔ _) ∧ ∀ q ∈ sr mk (spr mk n) n, _
    generalize spr mk n = acc at *
    have hj : ∀ j : Int, (0 ≤ j ∧ j < ((n + 1 : Nat) : Int) ∧ mk j = true) ↔ (0 ≤ j ∧ j < n ∧ mk j = true) ∨ (j = n ∧ mk j = true) := fun j => by
      constructor
      · rintro ⟨a, b, c⟩
        by_cases e : j = n
        · exact .inr ⟨e, c⟩
        · exact .inl ⟨a, by omega, c⟩
      · rintro (⟨a, b, c⟩ | ⟨a, b⟩)
        · exact ⟨a, by omega, c⟩
        · exact ⟨by omega, by omega, b⟩
    unfold sr
    split
    · rename_i hm
      have hk : ∀ j : Int, (j = n ∧ mk j = true) ↔ ((n : Int) ≤ j ∧ j < n + 1) := fun j => by
        constructor
        · rintro ⟨rfl, _⟩; omega
        · intro h
          have e : j = n := by omega
          subst e
          exact ⟨rfl, hm⟩
      cases acc with
      | nil =>
        refine ⟨⟨by show (n : Int) < n + 1; omega, by simp, trivial⟩, fun j => ?_, ?_⟩
        · rw [inS_cons, hj, ← h2, inS_nil, or_false, false_or, hk]
        · intro q hq
          rw [List.mem_singleton.mp hq]
          exact ⟨by show (n : Int) + 1 ≤ _; omega, by show (0 : Int) ≤ n; omega⟩
      | cons q r =>
        simp only []
        split
        · rename_i he
          refine ⟨⟨?_, h1.2.1, h1.2.2⟩, fun j => ?_, ?_⟩
          · show q.1 < (n : Int) + 1
            have := h1.1; omega
          · rw [hj, hk, ← h2, inS_cons, inS_cons]
            show (q.1 ≤ j ∧ j < (n : Int) + 1) ∨ inS j r ↔ _
            have := h1.1
            constructor
            · rintro (a | a)
              · by_cases c : j < n
                · exact .inl (.inl ⟨a.1, by omega⟩)
                · exact .inr ⟨by omega, a.2⟩
              · exact .inl (.inr a)
            · rintro ((a | a) | a)
              · exact .inl ⟨a.1, by omega⟩
              · exact .inr a
              · exact .inl ⟨by omega, a.2⟩
          · intro z hz
            rcases List.mem_cons.mp hz with e | e
            · subst e
              exact ⟨by show (n : Int) + 1 ≤ _; omega, (h3 q List.mem_cons_self).2⟩
            · have := h3 z (List.mem_cons_of_mem _ e)
              exact ⟨by omega, this.2⟩
        · rename_i he
          refine ⟨⟨by show (n : Int) < n + 1; omega, ?_, h1⟩, fun j => ?_, ?_⟩
          · intro z hz
            show z.2 < (n : Int)
            have := h3 z hz
            rcases List.mem_cons.mp hz with e | e
            · subst e; omega
            · have := h1.2.1 z e
              have := h1.1
              have := (h3 q List.mem_cons_self).1
              omega
          · rw [hj, hk, ← h2, inS_cons]
            show ((n : Int) ≤ j ∧ j < n + 1) ∨ _ ↔ _
            constructor
            · rintro (a | a)
              · exact .inr a
              · exact .inl a
            · rintro (a | a)
              · exact .inr a
              · exact .inl a
          · intro z hz
            rcases List.mem_cons.mp hz with e | e
            · subst e
              exact ⟨by show (n : Int) + 1 ≤ _; omega, by show (0 : Int) ≤ n; omega⟩
            · have := h3 z e
              exact ⟨by omega, this.2⟩
    · rename_i hm
      refine ⟨h1, fun j => ?_, fun q hq => ?_⟩
      · rw [hj, ← h2]
        constructor
        · exact .inl
        · rintro (a | ⟨a, b⟩)
          · exact a
          · subst a; exact absurd b hm
      · have := h3 q hq
        exact ⟨by omega, this.2⟩
theorem gath_spr {ps : List IP} {mk : Int → Bool} {n : Nat} (h : ∀ j, inS j ps ↔ 0 ≤ j ∧ j < n ∧ mk j = true) : gath ps = (spr mk n).reverse :=
  gath_eq (spr_ok mk n).1 fun j => by rw [h, (spr_ok mk n).2.1]
/-! ### the program's sets over a row of ends -/
structure Gk (N : Int) (nu de : Int → Int) : Prop where
  pt : ∀ i, -10 ≤ i → i < N → Pt (nu i) (de i)
  nn : ∀ i, 0 ≤ i → i < N → 0 ≤ nu i
  lt : ∀ i j, -10 ≤ i → i < N → -10 ≤ j → j < N → (nu i * de j > nu j * de i ↔ j < i)
def en (nu de : Int → Int) (i : Int) : D := P2 (nu i) (de i)
def enE (N : Int) (nu de : Int → Int) (i : Int) : D := if i = N then .non else en nu de i
def enP (N : Int) (nu de : Int → Int) (p : IP) : D := .tup [en nu de p.1, enE N nu de p.2]
def Vp (N : Int) (p : IP) : Prop := 0 ≤ p.1 ∧ p.1 < N ∧ -10 ≤ p.2 ∧ p.2 ≤ N
section
variable {N : Int} {nu de : Int → Int}
theorem Pt.b2 {a b : Int} (h : Pt a b) : Bd 200 a ∧ Bd 200 b := ⟨h.1.mono (by decide), h.2.1.mono (by decide)⟩
theorem g_mo (hg : Gk N nu de) {i j : Int} (hi : -10 ≤ i ∧ i < N) (hj : -10 ≤ j ∧ j < N) : m_is_more [en nu de i, en nu de j] = .ok (.bl (decide (j < i))) := by
  have p := (hg.pt i hi.1 hi.2).b2
  have q := (hg.pt j hj.1 hj.2).b2
  unfold en
  rw [m_mo p.1 p.2 q.1 q.2]
  congr 2
  exact decide_eq_decide.mpr (hg.lt i j hi.1 hi.2 hj.1 hj.2)
theorem g_gr (hg : Gk N nu de) {i j : Int} (hi : -10 ≤ i ∧ i < N) (hj : -10 ≤ j ∧ j < N) : m_greater [en nu de i, en nu de j] = .ok (en nu de (max i j)) := by
  have p := (hg.pt i hi.1 hi.2).b2
  have q := (hg.pt j hj.1 hj.2).b2
  have l := hg.lt i j hi.1 hi.2 hj.1 hj.2
  unfold en
  rw [m_gr p.1 p.2 q.1 q.2]
  by_cases h : j < i
  · rw [if_pos (l.mpr h), Int.max_eq_left (by omega)]
  · rw [if_neg (fun z => h (l.mp z)), Int.max_eq_right (by omega)]
theorem g_ls (hg : Gk N nu de) {i j : Int} (hi : -10 ≤ i ∧ i < N) (hj : -10 ≤ j ∧ j < N) : m_lesser [en nu de i, en nu de j] = .ok (en nu de (min i j)) := by
  have p := (hg.pt i hi.1 hi.2).b2
  have q := (hg.pt j hj.1 hj.2).b2
  have l := hg.lt i j hi.1 hi.2 hj.1 hj.2
  unfold en
  rw [m_ls p.1 p.2 q.1 q.2]
  by_cases h : j < i
  · rw [if_pos (l.mpr h), Int.min_eq_right (by omega)]
  · rw [if_neg (fun z => h (l.mp z)), Int.min_eq_left (by omega)]
theorem en_isN {i : Int} : (en nu de i).isNon = false := rfl
theorem enE_isN {i : Int} : (enE N nu de i).isNon = decide (i = N) := by
  unfold enE
  split
  · rename_i h; simp [h, D.isNon]
  · rename_i h; rw [decide_eq_false h]; rfl
theorem enE_ne {i : Int} (h : i ≠ N) : enE N nu de i = en nu de i := if_neg h
theorem enE_N : enE N nu de N = .non := if_pos rfl
theorem g_hi (hg : Gk N nu de) {i j : Int} (hi : -10 ≤ i ∧ i ≤ N) (hj : -10 ≤ j ∧ j ≤ N) : m_higher [enE N nu de i, enE N nu de j] = .ok (enE N nu de (max i j)) := by
  unfold m_higher c_higher
  by_cases h1 : i = N
  · subst h1
    rw [Int.max_eq_left hj.2, enE_N]
    walk_at "ev"
  · by_cases h2 : j = N
    · subst h2
      rw [Int.max_eq_right (by omega), enE_N]
      walk_at "ev"
      try simp only [enE_isN, ite_self, h1, decide_false]
      try walk_at "ev"
    · have z := g_gr hg (i := i) (j := j) ⟨hi.1, by omega⟩ ⟨hj.1, by omega⟩
      have hm : max i j ≠ N := by omega
      rw [enE_ne h1, enE_ne h2, enE_ne hm]
      walk_at "ev"
      simp only [en_isN, z]
      walk_at "ev"
theorem g_lo (hg : Gk N nu de) {i j : Int} (hi : -10 ≤ i ∧ i ≤ N) (hj : -10 ≤ j ∧ j ≤ N) : m_lower [enE N nu de i, enE N nu de j] = .ok (enE N nu de (min i j)) := by
  unfold m_lower c_lower
  by_cases h1 : i = N
  · subst h1
    rw [Int.min_eq_right hj.2, enE_N]
    walk_at "ev"
  · by_cases h2 : j = N
    · subst h2
      rw [Int.min_eq_left (by omega), enE_N, enE_ne h1]
      walk_at "ev"
      simp only [en_isN]
      walk_at "ev"
    · have z := g_ls hg (i := i) (j := j) ⟨hi.1, by omega⟩ ⟨hj.1, by omega⟩
      have hm : min i j ≠ N := by omega
      rw [enE_ne h1, enE_ne h2, enE_ne hm]
      walk_at "ev"
      simp only [en_isN]
      walk_at "ev"
      simp only [z]
      try walk_at "ev"
theorem g_p (hg : Gk N nu de) {i : Int} (hi : -10 ≤ i ∧ i < N) : m_is_part [en nu de i] = .ok (.bl true) := by
  have p := hg.pt i hi.1 hi.2
  unfold en
  rw [m_ip, decide_eq_true ⟨by have := p.2.2.1; omega, p.2.2.2⟩]
theorem g_w (hg : Gk N nu de) {i : Int} (hi : 0 ≤ i ∧ i < N) : m_is_width [en nu de i] = .ok (.bl true) := by
  have p := g_p hg (i := i) ⟨by omega, hi.2⟩
  have q := hg.nn i hi.1 hi.2
  unfold en at *
  unfold m_is_width c_is_width
  walk_at "ev"
  simp only [p]
  walk_at "ev"
  simp only [ge_iff_le, q, decide_true]
theorem g_pair (hg : Gk N nu de) {p : IP} (hp : Vp N p) : m_is_pair [enP N nu de p] = .ok (.bl true) := by
  have w := g_w hg (i := p.1) ⟨hp.1, hp.2.1⟩
  unfold m_is_pair c_is_pair enP
  walk_at "ev"
  simp only [w]
  walk_at "ev"
  simp only [enE_isN]
  by_cases h : p.2 = N
  · simp only [h, decide_true]
    walk_at "ev"
  · have z := g_p hg (i := p.2) ⟨hp.2.2.1, by have := hp.2.2.2; omega⟩
    rw [enE_ne h]
    simp only [h, decide_false]
    walk_at "ev"
    simp only [z]
    walk_at "ev"
theorem good_en {i : Int} {n : Nat} : (en nu de i).good (n + 2) = true := rfl
theorem good_enE {i : Int} {n : Nat} : (enE N nu de i).good (n + 2) = true := by
  unfold enE
  split <;> rfl
theorem good_enP {p : IP} {n : Nat} : (enP N nu de p).good (n + 3) = true := by
  show ([en nu de p.1, enE N nu de p.2].all (D.good (n + 2))) = true
  simp only [List.all_cons, List.all_nil, good_en, good_enE, Bool.and_true]
theorem good_map {l : List IP} {n : Nat} : (l.map (enP N nu de)).all (D.good (n + 3)) = true := by
  rw [List.all_eq_true]
  intro x hx
  obtain ⟨p, -, rfl⟩ := List.mem_map.mp hx
  exact good_enP
/-! sorted_by_low -/
theorem sl_step (hg : Gk N nu de) {p : IP} {l : List IP} (hp : Vp N p) (hl : ∀ q ∈ l, Vp N q) (hn : l.length ≤ 5000) (d0 : D) (s3 : Sl) :
    ∃ t3, c_sorted_by_low_b2 [.pu d0, .ow (l.map (enP N nu de)), .pu (enP N nu de p), s3] = .nx [.pu d0, .ow ((insP p l).map (enP N nu de)), .pu (enP N nu de p), t3] := by
  have key := wh_inv (t := c_sorted_by_low_t1) (bd := c_sorted_by_low_b1) (fun k : Nat => [.pu d0, .ow (l.map (enP N nu de)), .pu (enP N nu de p), .pu (.int (k : Int))])
    (fun k => match l[k]? with | some q => !decide (p.1 < q.1) | none => false) (fun k => k ≤ l.length ∧ ∀ i q, i < k → l[i]? = some q → ¬ p.1 < q.1) (fun k => l.length - k) ?_ ?_ 0 ⟨Nat.zero_le _, fun i q h => by omega⟩
  · obtain ⟨k, h1, ⟨h2, h3⟩, h4⟩ := key
    have h5 : ∀ q, l[k]? = some q → p.1 < q.1 := fun q hq => by
      simp only [hq] at h4
      simpa using h4
    have e := ins_at p l k h2 h3 h5
    refine ⟨.pu (.int (k : Int)), ?_⟩
    have e2 : ((l.map (enP N nu de)).take k ++ [enP N nu de p] ++ (l.map (enP N nu de)).drop k) = (insP p l).map (enP N nu de) := by
      rw [← e]
      simp
    unfold c_sorted_by_low_b2
    have h1' : cWh c_sorted_by_low_t1 c_sorted_by_low_b1 [.pu d0, .ow (l.map (enP N nu de)), .pu (enP N nu de p), .pu (.int 0)] = .nx [.pu d0, .ow (l.map (enP N nu de)), .pu (enP N nu de p), .pu (.int (k : Int))] := h1
    have hl1 : (l.map (enP N nu de)).length < 10000000 := by rw [List.length_map]; omega
    generalize l.map (enP N nu de) = L at *
    walk_at "ev"
    rw [h1']
    walk_at "ev"
    rw [e_kins1 hl1 (by omega) (by omega), Int.toNat_natCast, e2]
    try walk_at "ev"
  · rintro k ⟨h1, h2⟩
    show evT c_sorted_by_low_t1 [.pu d0, .ow (l.map (enP N nu de)), .pu (enP N nu de p), .pu (.int (k : Int))] = _
    unfold c_sorted_by_low_t1
    have hlen : ((l.map (enP N nu de)).length : Int) = l.length := by rw [List.length_map]
    cases hk : l[k]? with
    | none =>
      have hk' : ¬ (k : Int) < l.length := by
        have := List.getElem?_eq_none_iff.mp hk
        omega
      generalize l.map (enP N nu de) = L at *
      walk_at "ev"
      simp only [hlen, hk', if_false]
    | some q =>
      have hkl := (List.getElem?_eq_some_iff.mp hk).1
      have hk' : (k : Int) < l.length := by omega
      have hq := hl q (List.mem_of_getElem? hk)
      have hat : atD (l.map (enP N nu de)) (k : Int) = .ok (enP N nu de q) := at_get (by rw [List.getElem?_map, hk]; rfl)
      have hm := g_mo hg (i := q.1) (j := p.1) ⟨by have := hq.1; omega, hq.2.1⟩ ⟨by have := hp.1; omega, hp.2.1⟩
      generalize l.map (enP N nu de) = L at *
      unfold enP at *
      walk_at "ev"
      simp only [hlen, hk', if_true, hat]
      walk_at "ev"
      simp only [hm]
      walk_at "ev"
  · rintro k ⟨h1, h2⟩ hq
    have h4 : ∃ q, l[k]? = some q ∧ ¬ p.1 < q.1 := by
      cases hk : l[k]? with
      | none => simp [hk] at hq
      | some q => exact ⟨q, rfl, by simpa [hk] using hq⟩
    obtain ⟨q, hk, hc⟩ := h4
    have hkl := (List.getElem?_eq_some_iff.mp hk).1
    refine ⟨k + 1, Or.inl ?_, ⟨by omega, fun i z hi hz => ?_⟩, by show l.length - (k + 1) < l.length - k; omega⟩
    · show c_sorted_by_low_b1 [.pu d0, .ow (l.map (enP N nu de)), .pu (enP N nu de p), .pu (.int (k : Int))] = .nx [.pu d0, .ow (l.map (enP N nu de)), .pu (enP N nu de p), .pu (.int ((k + 1 : Nat) : Int))]
      unfold c_sorted_by_low_b1
      have e1 : ((k + 1 : Nat) : Int) = (k : Int) + 1 := by omega
      rw [e1]
      walk_at "ev"
    · by_cases e : i = k
      · subst e
        rw [hk] at hz
        cases hz
        exact hc
      · exact h2 i z (by omega) hz
theorem m_sl (hg : Gk N nu de) {ps : List IP} (hp : ∀ p ∈ ps, Vp N p) (hn : ps.length ≤ 4000) : m_sorted_by_low [.lst (ps.map (enP N nu de))] = .okl ((sortP ps).map (enP N nu de)) := by
  have hk : ∀ d0, ∃ s2 s3, forGo (tName 2) c_sorted_by_low_b2 (ps.map (enP N nu de)) [.pu d0, .ow [], .un, .un] = .nx [.pu d0, .ow ((sortP ps).map (enP N nu de)), s2, s3] := fun d0 => by
    obtain ⟨δ', h1, s2, s3, h3⟩ := go_pre (t := tName 2) (s := c_sorted_by_low_b2) (f := enP N nu de) (fun pre δ => ∃ s2 s3, δ = [.pu d0, .ow ((sortP pre).map (enP N nu de)), s2, s3]) (l := ps) (δ := [.pu d0, .ow [], .un, .un]) ⟨_, _, rfl⟩ (by
      rintro pre a post δ e ⟨s2, s3, rfl⟩
      obtain ⟨t3, ht⟩ := sl_step hg (p := a) (l := sortP pre) (hp a (by rw [e]; simp)) (fun q hq => hp q (by rw [e]; simp [(sort_mem pre q).mp hq])) (by rw [sort_len]; have := congrArg List.length e; simp at this; omega) d0 s3
      exact ⟨_, rfl, _, Or.inl ht, _, _, by unfold sortP; rw [List.foldl_append]; rfl⟩)
    exact ⟨s2, s3, by rw [h1, h3]⟩
  obtain ⟨s2, s3, hk⟩ := hk (.lst (ps.map (enP N nu de)))
  unfold m_sorted_by_low c_sorted_by_low
  generalize ps.map (enP N nu de) = L at *
  walk_at "ev"
  rw [hk]
  walk_at "ev"
/-! gathered -/
theorem g_step (hg : Gk N nu de) {p : IP} {acc : List IP} (hp : Vp N p) (ha : ∀ q ∈ acc, Vp N q) (hn : acc.length ≤ 5000) (d0 : D) :
    ∃ δ, (c_gathered_b1 [.pu d0, .ow (acc.reverse.map (enP N nu de)), .pu (en nu de p.1), .pu (enE N nu de p.2)] = .nx δ ∨ c_gathered_b1 [.pu d0, .ow (acc.reverse.map (enP N nu de)), .pu (en nu de p.1), .pu (enE N nu de p.2)] = .ct δ) ∧ δ = [.pu d0, .ow ((gr acc p).reverse.map (enP N nu de)), .pu (en nu de p.1), .pu (enE N nu de p.2)] := by
  refine ⟨_, ?_, rfl⟩
  have hp2 : (decide (p.2 = N)) = true ∨ ((decide (p.2 = N)) = false ∧ m_is_more [enE N nu de p.2, en nu de p.1] = .ok (.bl (decide (p.1 < p.2)))) := by
    by_cases h : p.2 = N
    · exact .inl (decide_eq_true h)
    · refine .inr ⟨decide_eq_false h, ?_⟩
      rw [enE_ne h]
      exact g_mo hg ⟨hp.2.2.1, by have := hp.2.2.2; omega⟩ ⟨by have := hp.1; omega, hp.2.1⟩
  by_cases hz : p.2 ≤ p.1
  · right
    have e : gr acc p = acc := if_pos hz
    rw [e]
    rcases hp2 with h | ⟨h, h2⟩
    · have := of_decide_eq_true h
      have := hp.2.1
      omega
    · have hd : decide (p.1 < p.2) = false := decide_eq_false (by omega)
      rw [hd] at h2
      generalize acc.reverse.map (enP N nu de) = L at *
      unfold c_gathered_b1
      walk_at "ev"
      simp only [enE_isN, h]
      walk_at "ev"
      simp only [h2]
      walk_at "ev"
  · left
    have first : (cIfS (cAndB [(cBin (fun d e => (dNot d e).bind asB) (cVar 3) (cC (.non))), (cNotB (cUn dTru (cCall 2 m_is_more (cCons (cVar 3) (cCons (cVar 2) cNil)))))]) cCt cNx) [.pu d0, .ow (acc.reverse.map (enP N nu de)), .pu (en nu de p.1), .pu (enE N nu de p.2)] = .nx [.pu d0, .ow (acc.reverse.map (enP N nu de)), .pu (en nu de p.1), .pu (enE N nu de p.2)] := by
      generalize acc.reverse.map (enP N nu de) = L at *
      rcases hp2 with h | ⟨h, h2⟩
      · walk_at "ev"
        simp only [enE_isN, h]
        walk_at "ev"
      · have hd : decide (p.1 < p.2) = true := decide_eq_true (by omega)
        rw [hd] at h2
        walk_at "ev"
        simp only [enE_isN, h]
        walk_at "ev"
        simp only [h2]
        walk_at "ev"
    unfold c_gathered_b1
    rw [e_seq, first, e_fnx]
    cases acc with
    | nil =>
      have e : gr [] p = [p] := if_neg hz
      rw [e]
      show _ = Fl.nx [.pu d0, .ow [enP N nu de p], .pu (en nu de p.1), .pu (enE N nu de p.2)]
      unfold enP
      simp only [List.reverse_nil, List.map_nil]
      walk_at "ev"
      simp only [ne_nil0]
      walk_at "ev"
    | cons q r =>
      have hq := ha q List.mem_cons_self
      have e0 : (q :: r).reverse.map (enP N nu de) = r.reverse.map (enP N nu de) ++ [enP N nu de q] := by simp
      have hne : dNe (.lst (r.reverse.map (enP N nu de) ++ [enP N nu de q])) (.lst []) = .ok (.bl true) := ne_nil good_map good_enP
      have hlen : (r.reverse.map (enP N nu de) ++ [enP N nu de q]).length < 10000000 := by simp at hn ⊢; omega
      have hlast : atD (r.reverse.map (enP N nu de) ++ [enP N nu de q]) (-1) = .ok (.tup [en nu de q.1, enE N nu de q.2]) := at_app
      have hhi := g_hi hg (i := q.2) (j := p.2) ⟨hq.2.2.1, hq.2.2.2⟩ ⟨hp.2.2.1, hp.2.2.2⟩
      rw [e0]
      have hmo : decide (q.2 = N) = true ∨ (decide (q.2 = N) = false ∧ m_is_more [en nu de p.1, enE N nu de q.2] = .ok (.bl (decide (q.2 < p.1)))) := by
        by_cases h : q.2 = N
        · exact .inl (decide_eq_true h)
        · refine .inr ⟨decide_eq_false h, ?_⟩
          rw [enE_ne h]
          exact g_mo hg ⟨by have := hp.1; omega, hp.2.1⟩ ⟨hq.2.2.1, by have := hq.2.2.2; omega⟩
      by_cases hl : p.1 ≤ q.2
      · have e : gr (q :: r) p = (q.1, max q.2 p.2) :: r := by
          unfold gr
          rw [if_neg hz]
          show (if p.1 ≤ q.2 then _ else _) = _
          rw [if_pos hl]
        have e1 : ((q.1, max q.2 p.2) :: r).reverse.map (enP N nu de) = r.reverse.map (enP N nu de) ++ [.tup [en nu de q.1, enE N nu de (max q.2 p.2)]] := by simp [enP]
        rw [e, e1]
        generalize r.reverse.map (enP N nu de) = L at *
        unfold enP at *
        rcases hmo with h | ⟨h, h2⟩
        · walk_at "ev"
          simp only [hne, hlast]
          walk_at "ev"
          simp only [enE_isN, h]
          walk_at "ev"
          simp only [hlast]
          walk_at "ev"
          simp only [hhi]
          walk_at "ev"
          simp only [e_setKa]
          walk_at "ev"
        · have hd : decide (q.2 < p.1) = false := decide_eq_false (by omega)
          rw [hd] at h2
          walk_at "ev"
          simp only [hne, hlast]
          walk_at "ev"
          simp only [enE_isN, h, hlast]
          walk_at "ev"
          simp only [h2]
          walk_at "ev"
          simp only [hlast]
          walk_at "ev"
          simp only [hhi]
          walk_at "ev"
          simp only [e_setKa]
          walk_at "ev"
      · have e : gr (q :: r) p = p :: q :: r := by
          unfold gr
          rw [if_neg hz]
          show (if p.1 ≤ q.2 then _ else _) = _
          rw [if_neg hl]
        have e1 : (p :: q :: r).reverse.map (enP N nu de) = r.reverse.map (enP N nu de) ++ [enP N nu de q] ++ [.tup [en nu de p.1, enE N nu de p.2]] := by simp [enP]
        rw [e, e1]
        have hA : ∀ L : List D, atD (L ++ [enP N nu de q]) (-1) = .ok (.tup [en nu de q.1, enE N nu de q.2]) := fun L => at_app
        rcases hmo with h | ⟨h, h2⟩
        · have := of_decide_eq_true h
          have := hp.2.1
          omega
        · have hd : decide (q.2 < p.1) = true := decide_eq_true (by omega)
          rw [hd] at h2
          generalize r.reverse.map (enP N nu de) ++ [enP N nu de q] = L at *
          walk_at "ev"
          simp only [hne, hlast]
          walk_at "ev"
          simp only [enE_isN, h, hlast]
          walk_at "ev"
          simp only [h2]
          walk_at "ev"
          simp only [szl hlen, if_true]
theorem gr_v {p : IP} {acc : List IP} (hp : Vp N p) (ha : ∀ q ∈ acc, Vp N q) : (∀ q ∈ gr acc p, Vp N q) ∧ (gr acc p).length ≤ acc.length + 1 := by
  unfold gr
  split
  · exact ⟨ha, by omega⟩
  · cases acc with
    | nil => exact ⟨by simpa using hp, by simp⟩
    | cons q r =>
      simp only []
      have hq := ha q List.mem_cons_self
      split
      · refine ⟨fun z hz => ?_, by simp⟩
        rcases List.mem_cons.mp hz with e | e
        · subst e
          refine ⟨hq.1, hq.2.1, ?_, ?_⟩
          · show -10 ≤ max q.2 p.2
            have := hq.2.2.1; omega
          · show max q.2 p.2 ≤ N
            have := hq.2.2.2; have := hp.2.2.2; omega
        · exact ha z (List.mem_cons_of_mem _ e)
      · refine ⟨fun z hz => ?_, by simp⟩
        rcases List.mem_cons.mp hz with e | e
        · subst e; exact hp
        · exact ha z e
theorem gf_v : ∀ (ps acc : List IP), (∀ p ∈ ps, Vp N p) → (∀ q ∈ acc, Vp N q) → (∀ q ∈ ps.foldl gr acc, Vp N q) ∧ (ps.foldl gr acc).length ≤ acc.length + ps.length
  | [], acc, _, ha => ⟨ha, by simp⟩
  | p :: ps, acc, hp, ha => by
    obtain ⟨h1, h2⟩ := gr_v (hp p List.mem_cons_self) ha
    obtain ⟨h3, h4⟩ := gf_v ps (gr acc p) (fun z hz => hp z (List.mem_cons_of_mem _ hz)) h1
    exact ⟨h3, by rw [List.foldl_cons, List.length_cons]; omega⟩
theorem m_ga (hg : Gk N nu de) {ps : List IP} (hp : ∀ p ∈ ps, Vp N p) (hn : ps.length ≤ 4000) : m_gathered [.lst (ps.map (enP N nu de))] = .okl ((gath ps).map (enP N nu de)) := by
  have hs := m_sl hg hp hn
  have hk : ∀ d0, ∃ s2 s3, forGo (tTupT 2 (tCons' (tName 2) (tCons' (tName 3) tNil'))) c_gathered_b1 ((sortP ps).map (enP N nu de)) [.pu d0, .ow [], .un, .un] = .nx [.pu d0, .ow ((gath ps).map (enP N nu de)), s2, s3] := fun d0 => by
    have hsl := sort_len ps
    have hv : ∀ p ∈ sortP ps, Vp N p := fun p h => hp p ((sort_mem ps p).mp h)
    unfold gath
    generalize sortP ps = ss at *
    obtain ⟨δ', h1, s2, s3, h3⟩ := go_pre (t := tTupT 2 (tCons' (tName 2) (tCons' (tName 3) tNil'))) (s := c_gathered_b1) (f := enP N nu de) (fun pre δ => ∃ s2 s3, δ = [.pu d0, .ow ((pre.foldl gr []).reverse.map (enP N nu de)), s2, s3]) (l := ss) (δ := [.pu d0, .ow [], .un, .un]) ⟨_, _, rfl⟩ (by
      rintro pre a post δ e ⟨s2, s3, rfl⟩
      have hl := congrArg List.length e
      simp at hl
      obtain ⟨v1, v2⟩ := gf_v (N := N) pre [] (fun z hz => hv z (by rw [e]; simp [hz])) (by simp)
      obtain ⟨δ2, h2, h3⟩ := g_step hg (p := a) (acc := pre.foldl gr []) (hv a (by rw [e]; simp)) v1 (by simp at v2; omega) d0
      exact ⟨_, rfl, δ2, h2, _, _, by rw [h3, List.foldl_append]; rfl⟩)
    exact ⟨s2, s3, by rw [h1, h3]⟩
  obtain ⟨s2, s3, hk⟩ := hk (.lst (ps.map (enP N nu de)))
  unfold m_gathered c_gathered
  generalize ps.map (enP N nu de) = L at *
  walk_at "ev"
  simp only [hs]
  walk_at "ev"
  rw [hk]
  walk_at "ev"
end
/-! ### the law's row of ends -/
def rn (t B : Int) : Int := t.fdiv (gI t B)
def rd (t B : Int) : Int := B.fdiv (gI t B)
theorem red_rn {t B : Int} (h : 0 < B) : red t B = P2 (rn t B) (rd t B) := by
  unfold red
  rw [if_neg (by omega)]
  rfl
theorem rn_pt {t B : Int} (h : 0 < B) (h1 : Bd 90 t) (h2 : Bd 90 B) : Pt (rn t B) (rd t B) := by
  obtain ⟨a, b, e, p⟩ := red_pt (t := t) h h1 h2
  rw [red_rn h] at e
  injection e with e
  injection e with e1 e
  injection e with e2
  injection e1 with e1
  injection e2 with e2
  rw [e1, e2]
  exact p
theorem rn_eq {t B : Int} (h : 0 < B) : t = gI t B * rn t B ∧ B = gI t B * rd t B ∧ 0 < gI t B := by
  have hg := gI_pos (t := t) (b := B) (by omega)
  have d1 : gI t B ∣ t := Int.gcd_dvd_left ..
  have d2 : gI t B ∣ B := Int.gcd_dvd_right ..
  refine ⟨?_, ?_, hg⟩
  · unfold rn
    rw [Int.fdiv_eq_ediv_of_nonneg _ (by omega), Int.mul_ediv_cancel' d1]
  · unfold rd
    rw [Int.fdiv_eq_ediv_of_nonneg _ (by omega), Int.mul_ediv_cancel' d2]
theorem rn_lt {t u B : Int} (h : 0 < B) : rn t B * rd u B > rn u B * rd t B ↔ u < t := by
  obtain ⟨e1, e2, g1⟩ := rn_eq (t := t) h
  obtain ⟨e3, e4, g2⟩ := rn_eq (t := u) h
  have hp : 0 < gI t B * gI u B := Int.mul_pos g1 g2
  have k1 : gI t B * gI u B * (rn t B * rd u B) = B * t := by
    have : gI t B * gI u B * (rn t B * rd u B) = (gI u B * rd u B) * (gI t B * rn t B) := by ac_rfl
    rw [this, ← e1, ← e4]
  have k2 : gI t B * gI u B * (rn u B * rd t B) = B * u := by
    have : gI t B * gI u B * (rn u B * rd t B) = (gI t B * rd t B) * (gI u B * rn u B) := by ac_rfl
    rw [this, ← e3, ← e2]
  constructor
  · intro z
    have := Int.mul_lt_mul_of_pos_left z hp
    rw [k1, k2] at this
    exact Int.lt_of_mul_lt_mul_left this (by omega)
  · intro z
    have := Int.mul_lt_mul_of_pos_left z h
    rw [← k1, ← k2] at this
    exact Int.lt_of_mul_lt_mul_left this (by omega)
theorem rn_nn {t B : Int} (h : 0 < B) (ht : 0 ≤ t) : 0 ≤ rn t B := by
  unfold rn
  have hg := gI_pos (t := t) (b := B) (by omega)
  rw [Int.fdiv_eq_ediv_of_nonneg _ (by omega)]
  exact Int.ediv_nonneg ht (by omega)
def gNu (ts : List Int) (B i : Int) : Int := if i < 0 then i else rn (ts.getD i.toNat 0) B
def gDe (ts : List Int) (B i : Int) : Int := if i < 0 then 1 else rd (ts.getD i.toNat 0) B
theorem gk_of {ts : List Int} {B : Int} (hB : 0 < B) (hb : Bd 90 B) (ht : ∀ t ∈ ts, 0 ≤ t ∧ Bd 90 t) (hr : ts.Pairwise (· < ·)) : Gk ts.length (gNu ts B) (gDe ts B) := by
  have hget : ∀ i : Int, 0 ≤ i → i < ts.length → ts.getD i.toNat 0 ∈ ts := fun i h1 h2 => by
    rw [List.getD_eq_getElem?_getD, List.getElem?_eq_getElem (by omega), Option.getD_some]
    exact List.getElem_mem _
  have hlt : ∀ i j : Int, 0 ≤ i → i < ts.length → 0 ≤ j → j < ts.length → (ts.getD j.toNat 0 < ts.getD i.toNat 0 ↔ j < i) := fun i j h1 h2 h3 h4 => by
    have key : ∀ p q : Nat, (hp : p < ts.length) → (hq : q < ts.length) → p < q → ts[p] < ts[q] := fun p q hp hq hpq => List.pairwise_iff_getElem.mp hr p q hp hq hpq
    have hi : i.toNat < ts.length := by omega
    have hj : j.toNat < ts.length := by omega
    rw [List.getD_eq_getElem?_getD, List.getD_eq_getElem?_getD, List.getElem?_eq_getElem hi, List.getElem?_eq_getElem hj, Option.getD_some, Option.getD_some]
    constructor
    · intro z
      rcases Nat.lt_trichotomy j.toNat i.toNat with c | c | c
      · omega
      · simp only [c] at z
        omega
      · have := key _ _ hi hj c
        omega
    · intro z
      exact key _ _ hj hi (by omega)
  refine ⟨fun i h1 h2 => ?_, fun i h1 h2 => ?_, fun i j h1 h2 h3 h4 => ?_⟩
  · unfold gNu gDe
    by_cases c : i < 0
    · rw [if_pos c, if_pos c]
      refine ⟨bd_of (by omega) (by omega), by unfold Bd; decide, by decide, by simp⟩
    · rw [if_neg c, if_neg c]
      exact rn_pt hB (ht _ (hget i (by omega) h2)).2 hb
  · unfold gNu
    rw [if_neg (by omega)]
    exact rn_nn hB (ht _ (hget i (by omega) h2)).1
  · unfold gNu gDe
    have pos : ∀ t ∈ ts, 0 < rd t B := fun t h => (rn_pt hB (ht t h).2 hb).2.2.1
    by_cases c : i < 0
    · by_cases c2 : j < 0
      · simp only [c, c2, if_true, Int.mul_one]
      · have q1 := hget j (by omega) h4
        have q2 := rn_nn hB (ht _ q1).1
        have q3 := Int.mul_neg_of_neg_of_pos c (pos _ q1)
        simp only [c, c2, if_true, if_false, Int.mul_one]
        omega
    · by_cases c2 : j < 0
      · have q1 := hget i (by omega) h2
        have q2 := rn_nn hB (ht _ q1).1
        have q3 := Int.mul_neg_of_neg_of_pos c2 (pos _ q1)
        simp only [c, c2, if_true, if_false, Int.mul_one]
        omega
      · simp only [c, c2, if_false]
        rw [rn_lt hB]
        exact hlt i j (by omega) h2 (by omega) h4
def gl (nu de : Int → Int) (n : Nat) : List D := (List.range n).map fun (k : Nat) => en nu de (k : Int)
theorem gl_eq {ts : List Int} {B : Int} (hB : 0 < B) : (ts.map fun t => red t B) = gl (gNu ts B) (gDe ts B) ts.length := by
  unfold gl
  apply List.ext_getElem
  · simp
  · intro n h1 h2
    simp only [List.getElem_map, List.getElem_range]
    unfold en gNu gDe
    rw [if_neg (by omega), if_neg (by omega), List.getD_eq_getElem?_getD, Int.toNat_natCast, List.getElem?_eq_getElem (by simpa using h1), Option.getD_some, red_rn hB]
theorem at_row {xs : List Int} (hs : ∀ x ∈ xs, Sm x) {j : Nat} (hj : j < xs.length) : ∃ a, atD (xs.map D.int) (j : Int) = .ok (.int a) ∧ Sm a := by
  refine ⟨xs[j], atD_nat ?_, hs _ (List.getElem_mem hj)⟩
  rw [List.getElem?_map, List.getElem?_eq_getElem hj]
  rfl
def GdI (xs : List Int) (B : Int) (k : Nat) (δ : List Sl) : Prop := ∃ ts : List Int, ∃ T : Int, ∃ s4 : Sl, δ = [.pu (.lst (xs.map D.int)), .pu (.int B), .pu (.int T), .ow (ts.map fun t => red t B), s4] ∧ ts.length = k + 1 ∧ (∀ t ∈ ts, 0 ≤ t ∧ t ≤ T) ∧ T ≤ 2000000 * k ∧ ts.Pairwise (· < ·) ∧ ts[0]? = some 0
theorem gd_step {xs : List Int} {B : Int} (hs : ∀ x ∈ xs, Sm x) (hB : 0 < B) (hb : Bd 80 B) {k : Nat} (hk : k + 2 < xs.length) (hk2 : k < 15) {ts : List Int} {T : Int} (h1 : ts.length = k + 1) (h2 : ∀ t ∈ ts, 0 ≤ t ∧ t ≤ T) (h3 : T ≤ 2000000 * k) (h4 : ts.Pairwise (· < ·)) (h5 : ts[0]? = some 0) :
    ∃ δ2, c_law_grid_b1 [.pu (.lst (xs.map D.int)), .pu (.int B), .pu (.int T), .ow (ts.map fun t => red t B), .pu (.int (k : Int))] = .nx δ2 ∧ GdI xs B (k + 1) δ2 := by
  obtain ⟨a, g, ha⟩ := at_row hs hk
  rw [Int.natCast_add] at g
  simp only [Int.cast_ofNat_Int] at g
  have hT : 0 ≤ T := by
    cases ts with
    | nil => simp at h1
    | cons t r => have := h2 t List.mem_cons_self; omega
  obtain ⟨M, hM, m0, m1⟩ : ∃ M : Int, atD [.int 3, .int 20, .int (10 ^ 6)] (a / 10 ^ 6 % 3) = .ok (.int M) ∧ 0 < M ∧ M ≤ 1000000 := by
    have c : a / 10 ^ 6 % 3 = 0 ∨ a / 10 ^ 6 % 3 = 1 ∨ a / 10 ^ 6 % 3 = 2 := by omega
    rcases c with c | c | c <;> rw [c]
    · exact ⟨_, atD_int (by decide) rfl, by decide, by decide⟩
    · exact ⟨_, atD_int (by decide) rfl, by decide, by decide⟩
    · exact ⟨_, atD_int (by decide) rfl, by decide, by decide⟩
  have hmd := e_modP (i := a) m0
  have hr0 : 0 ≤ a % M := Int.emod_nonneg _ (by omega)
  have hr1 : a % M < M := Int.emod_lt_of_pos _ m0
  have hlp := m_lp (t := T + 1 + a % M) hB hb (by decide)
  have hlen : (ts.map fun t => red t B).length < sizeLine := szl (by rw [List.length_map]; omega)
  refine ⟨[.pu (.lst (xs.map D.int)), .pu (.int B), .pu (.int (T + 1 + a % M)), .ow ((ts ++ [T + 1 + a % M]).map fun t => red t B), .pu (.int (k : Int))], ?_, _, _, _, rfl, by simp [h1], ?_, ?_, ?_, by rw [List.getElem?_append_left (by omega)]; exact h5⟩
  · rw [List.map_append]
    unfold c_law_grid_b1
    show _ = Fl.nx [_, _, _, .ow (_ ++ [red (T + 1 + a % M) B]), _]
    generalize hred : red (T + 1 + a % M) B = rr at *
    generalize (ts.map fun t => red t B) = L at *
    generalize xs.map D.int = X at *
    obtain ⟨p, q, e⟩ := red_P (T + 1 + a % M) B
    walk_at "ev"
    simp only [g]
    walk_at "ev"
    simp only [hM]
    walk_at "ev"
    simp only [hmd]
    walk_at "ev"
    simp only [hlp]
    walk_at "ev"
    simp only [hlen, if_true]
  · intro t ht
    rcases List.mem_append.mp ht with h | h
    · have := h2 t h
      omega
    · rw [List.mem_singleton.mp h]
      omega
  · omega
  · rw [List.pairwise_append]
    refine ⟨h4, by simp, fun t ht u hu => ?_⟩
    rw [List.mem_singleton.mp hu]
    have := h2 t ht
    omega
theorem m_gd {xs : List Int} (hs : ∀ x ∈ xs, Sm x) (hl : 17 ≤ xs.length) : ∃ (n : Nat) (nu de : Int → Int), 1 ≤ n ∧ n ≤ 15 ∧ Gk n nu de ∧ (∀ i, i < 0 → nu i = i ∧ de i = 1) ∧ (nu 0 = 0 ∧ de 0 = 1) ∧ m_law_grid [.lst (xs.map D.int)] = .okl (gl nu de n) := by
  obtain ⟨a0, g0, m0⟩ := at_row hs (j := 0) (by omega)
  obtain ⟨a1, g1, m1⟩ := at_row hs (j := 1) (by omega)
  obtain ⟨a2, g2, m2⟩ := at_row hs (j := 2) (by omega)
  simp only [Int.cast_ofNat_Int] at g0 g1 g2
  have c1 := cMul_bd m1.bd m2.bd (by decide)
  obtain ⟨B, hB, b0, b1⟩ : ∃ B : Int, atD [.int 1, .int 2, .int 3, .int 12, .int (1 + a1 * a2 % 10 ^ 18)] (a1 % 5) = .ok (.int B) ∧ 0 < B ∧ Bd 80 B := by
    have c : a1 % 5 = 0 ∨ a1 % 5 = 1 ∨ a1 % 5 = 2 ∨ a1 % 5 = 3 ∨ a1 % 5 = 4 := by omega
    have e0 : 0 ≤ a1 * a2 % 10 ^ 18 := Int.emod_nonneg _ (by decide)
    have e1 : a1 * a2 % 10 ^ 18 < 10 ^ 18 := Int.emod_lt_of_pos _ (by decide)
    rcases c with c | c | c | c | c <;> rw [c]
    · exact ⟨_, atD_int (by decide) rfl, by decide, by unfold Bd; decide⟩
    · exact ⟨_, atD_int (by decide) rfl, by decide, by unfold Bd; decide⟩
    · exact ⟨_, atD_int (by decide) rfl, by decide, by unfold Bd; decide⟩
    · exact ⟨_, atD_int (by decide) rfl, by decide, by unfold Bd; decide⟩
    · exact ⟨_, atD_int (by decide) rfl, by omega, bd_of (by omega) (Int.lt_of_le_of_lt (b := 10 ^ 18) (by omega) (by decide))⟩
  have hn : 0 ≤ a0 % 15 ∧ a0 % 15 < 15 := by omega
  have hr : dRng1 [.int (a0 % 15)] = .ok (rangeD 0 (a0 % 15).toNat) := e_rng1 hn.1 (by omega)
  obtain ⟨δ', z1, ts, T, s4, e1, e2, e3, e4, e5, e6⟩ : ∃ δ', forGo (tName 4) c_law_grid_b1 (rangeD 0 (a0 % 15).toNat) [.pu (.lst (xs.map D.int)), .pu (.int B), .pu (.int 0), .ow [P2 0 1], .un] = .nx δ' ∧ GdI xs B (rangeD 0 (a0 % 15).toNat).length δ' := by
    refine go_inv0 (GdI xs B) ⟨[0], 0, .un, ?_, rfl, by simp, by omega, by simp, rfl⟩ ?_
    · have : red 0 B = P2 0 1 := by
        rw [red_rn b0]
        have e : gI 0 B = B := by unfold gI; simp; omega
        unfold rn rd
        rw [e, Int.zero_fdiv, Int.fdiv_self (by omega)]
      simp only [List.map_cons, List.map_nil, this]
    · rintro k d δ hd ⟨ts, T, s4, rfl, h1, h2, h3, h4, h5⟩
      rw [rangeD_get] at hd
      split at hd
      · rename_i hk
        cases hd
        obtain ⟨δ2, q1, q2⟩ := gd_step hs b0 b1 (k := k) (by omega) (by omega) h1 h2 h3 h4 h5
        refine ⟨_, rfl, δ2, Or.inl ?_, q2⟩
        rw [Int.zero_add]
        exact q1
      · cases hd
  have hlen : (rangeD 0 (a0 % 15).toNat).length = (a0 % 15).toNat := by unfold rangeD; simp
  rw [hlen] at e2 e4
  refine ⟨ts.length, gNu ts B, gDe ts B, by omega, by omega, gk_of b0 (b1.mono (by decide)) (fun t ht => ⟨(e3 t ht).1, bd_of (by have := e3 t ht; omega) (by have := e3 t ht; omega)⟩) e5, fun i hi => ⟨if_pos hi, if_pos hi⟩, ?_, ?_⟩
  · have t0 : ts.getD (0 : Int).toNat 0 = 0 := by
      rw [List.getD_eq_getElem?_getD]
      show (ts[0]?).getD 0 = 0
      rw [e6]
      rfl
    have eg : gI 0 B = B := by unfold gI; simp; omega
    unfold gNu gDe
    rw [if_neg (by decide), if_neg (by decide), t0]
    unfold rn rd
    rw [eg, Int.zero_fdiv, Int.fdiv_self (by omega)]
    exact ⟨rfl, rfl⟩
  rw [← gl_eq b0]
  rw [e1] at z1
  unfold m_law_grid c_law_grid
  generalize (ts.map fun t => red t B) = L at *
  generalize xs.map D.int = X at *
  walk_at "ev"
  simp only [g0, g1, g2]
  walk_at "ev"
  simp only [c1, if_true]
  walk_at "ev"
  simp only [hB]
  walk_at "ev"
  simp only [g0]
  walk_at "ev"
  simp only [hr]
  walk_at "ev"
  rw [z1]
  walk_at "ev"
/-! ### the row -/
theorem e_cRep {ca : CA} {c : C} {δ : List Sl} : cRep ca c δ = (ca δ).bind fun ds => (c δ).bind fun e => dRep ds e := rfl
theorem e_addN {ds es : List D} : dAddN (.lst ds) (.lst es) = if ds.length + es.length ≤ sizeLine then .ok (ds ++ es) else .no := rfl
def half : D → D
  | .int i => .int (i / 2 % 10 ^ 40)
  | d => d
theorem rep_int (w : Nat) : (List.replicate w [D.int 0]).flatten = (List.replicate w (0 : Int)).map D.int := by
  induction w with
  | zero => rfl
  | succ w ih => rw [List.replicate_succ, List.flatten_cons, ih]; rfl
theorem row_lc {ns : List Int} (hn : ns.length ≤ 63) : ∀ a1 a2 a3 a4 a5, lcGo (tName 5) cTrue c_law_row_e1 [a1, a2, a3, a4, a5, Sl.un] (ns.map D.int) [] = .ok ((ns.map fun i => i / 2 % 10 ^ 40).map D.int) := by
  intro a1 a2 a3 a4 a5
  rw [lc_map (f := half) (ns.map D.int) [] ?_ (szl (by simp; omega)), List.nil_append, List.map_map, List.map_map]
  · rfl
  · intro d hd
    obtain ⟨i, -, rfl⟩ := List.mem_map.mp hd
    refine ⟨[a1, a2, a3, a4, a5, Sl.pu (.int i)], rfl, ?_⟩
    unfold c_law_row_e1
    walk_at "ev"
    rfl
theorem row_even {n : Int} {r ns : List Int} {w : Nat} (hn : ns.length ≤ 63) (hw : w ≤ 1000) (e : ns = n :: r) (h2 : n % 2 = 0) : m_law_row [.kst (ns.map D.int), .int (w : Int)] = .okl (((ns.map fun i => i / 2 % 10 ^ 40) ++ List.replicate w (0 : Int)).map D.int) := by
  have hL := row_lc hn
  have hr : dRep [.int 0] (.int (w : Int)) = .ok ((List.replicate w (0 : Int)).map D.int) := by
    rw [e_rep (by omega) (by omega) (by simp), Int.toNat_natCast, rep_int]
  have hz : ((ns.map fun i => i / 2 % 10 ^ 40).map D.int).length + ((List.replicate w (0 : Int)).map D.int).length ≤ sizeLine := sz (by simp; omega)
  have hx : atD (ns.map D.int) 0 = .ok (.int n) := by rw [e]; exact e_at0
  have hg : ((((ns.map D.int).length : Nat) : Int) > 0) := by rw [e]; simp
  generalize (ns.map fun i => i / 2 % 10 ^ 40) = us at *
  generalize ns.map D.int = vs at *
  generalize List.replicate w (0 : Int) = rs at *
  have hI : ini 6 [.kst vs, .int (w : Int)] = [.pu (.kst vs), .pu (.int (w : Int)), .un, .un, .un, .un] := rfl
  have q1 : (cL (cLc (cUn dItems (cVar 0)) (tName 5) cTrue c_law_row_e1 [5])) [.pu (.kst vs), .pu (.int (w : Int)), .un, .un, .un, .un] = .ok (.lst (us.map D.int)) := by
    rw [e_L, e_lc]
    show toL (lcGo _ _ _ [.pu (.kst vs), .pu (.int (w : Int)), .un, .un, .un, .un] vs []) = _
    rw [hL]
    rfl
  have q0 : (cApp dLst (cCons (cC (.int 0)) cNil)) [.pu (.kst vs), .pu (.int (w : Int)), .un, .un, .un, .un] = .ok [.int 0] := by
    walk_at "ev"
  have q2 : (cL (cRep (cApp dLst (cCons (cC (.int 0)) cNil)) (cVar 1))) [.pu (.kst vs), .pu (.int (w : Int)), .un, .un, .un, .un] = .ok (.lst (rs.map D.int)) := by
    rw [e_L, e_cRep, q0, e_bind_ok]
    have q4 : cVar 1 [.pu (.kst vs), .pu (.int (w : Int)), .un, .un, .un, .un] = .ok (.int (w : Int)) := rfl
    rw [q4, e_bind_ok, hr, e_toL]
  have q3 : (cBin dAddN (cL (cLc (cUn dItems (cVar 0)) (tName 5) cTrue c_law_row_e1 [5])) (cL (cRep (cApp dLst (cCons (cC (.int 0)) cNil)) (cVar 1)))) [.pu (.kst vs), .pu (.int (w : Int)), .un, .un, .un, .un] = .ok (us.map D.int ++ rs.map D.int) := by
    rw [e_bin, q1, e_bind_ok, q2, e_bind_ok, e_addN, if_pos hz]
  have hv : (cAndB [(cBin (fun d e => (dGt d e).bind asB) (cApp dLen (cCons (cVar 0) cNil)) (cC (.int 0))), (cBin (fun d e => (dEq d e).bind asB) (cBin dMod (cIxV 0 (cC (.int 0))) (cC (.int 2))) (cC (.int 0)))]) [.pu (.kst vs), .pu (.int (w : Int)), .un, .un, .un, .un] = .ok true := by
    walk_at "ev"
    simp only [hg, hx]
    walk_at "ev"
    simp only [h2]
    walk_at "ev"
  unfold m_law_row c_law_row
  have hB : bor [.pu (.kst vs), .pu (.int (w : Int)), .un, .un, .un, .un] = [.pu (.kst vs), .pu (.int (w : Int)), .un, .un, .un, .un] := rfl
  rw [e_run, hI, e_seq, e_ifS, hB, hv, List.map_append]
  show outF (fSeq (fA (evN _ _) _ _) _) = _
  rw [e_evN, q3]
  rfl
theorem row_odd {ns : List Int} (hb : ¬ ∃ n r, ns = n :: r ∧ n % 2 = 0) (a1 a2 a3 a4 a5 : Sl) : (cAndB [(cBin (fun d e => (dGt d e).bind asB) (cApp dLen (cCons (cVar 0) cNil)) (cC (.int 0))), (cBin (fun d e => (dEq d e).bind asB) (cBin dMod (cIxV 0 (cC (.int 0))) (cC (.int 2))) (cC (.int 0)))]) [.pu (.kst (ns.map D.int)), a1, a2, a3, a4, a5] = .ok false := by
  cases ns with
  | nil => rfl
  | cons n r =>
    have h2 : ¬ n % 2 = 0 := fun q => hb ⟨n, r, rfl, q⟩
    walk_at "ev"
    simp only [h2, decide_false, ite_self]
def RowI (ns : List Int) (w : Nat) (k : Nat) (δ : List Sl) : Prop := ∃ xs : List Int, ∃ m : Int, ∃ s4 s5 : Sl, δ = [.pu (.kst (ns.map D.int)), .pu (.int (w : Int)), .ow (xs.map D.int), .pu (.int m), s4, s5] ∧ (0 ≤ m ∧ m < 2147483647) ∧ (∀ x ∈ xs, Sm x) ∧ xs.length = k
theorem row_end {ns : List Int} {w : Nat} {F : Fl} (h : ∃ δ', F = Fl.nx δ' ∧ RowI ns w (rangeD 0 (ns.length + w)).length δ') : ∃ xs : List Int, outF (fSeq F (cRetO 2)) = .okl (xs.map D.int) ∧ (∀ x ∈ xs, Sm x) ∧ xs.length = ns.length + w := by
  obtain ⟨δ', e1, xs, m, s4, s5, e2, _, h3, h4⟩ := h
  refine ⟨xs, ?_, h3, ?_⟩
  · rw [e1, e2]
    walk_at "ev"
  · rw [h4]
    unfold rangeD
    rw [List.length_map, List.length_range]
theorem sm_mod {x : Int} : Sm (x % 2147483629) := ⟨by omega, by omega⟩
theorem row_step {ns xs : List Int} {w k : Nat} {m : Int} {s4 s5 : Sl} (hn : ns.length ≤ 63) (hk : k < ns.length + w) (hw : w ≤ 1000) (hm : 0 ≤ m ∧ m < 2147483647) (hx : ∀ x ∈ xs, Sm x) (hl : xs.length = k) :
    ∃ δ2, c_law_row_b1
      [.pu (.kst (ns.map D.int)), .pu (.int (w : Int)), .ow (xs.map D.int), .pu (.int m), .pu (.int (0 + (k : Int))), s5] = .nx δ2 ∧ RowI ns w (k + 1) δ2 := by
  have hlen : (ns.map D.int).length = ns.length := List.length_map ..
  have hxl : (xs.map D.int).length < sizeLine := szl (by rw [List.length_map]; omega)
  have c1 : cMul m 48271 := cMul_bd (p := 31) (q := 31) (bd_nat hm.1 (by omega)) (bd_nat (by omega) (by omega)) (by decide)
  have hc : ∃ c : Int, ∀ (a1 a2 a3 : Sl), (cIfS (cBin (fun d e => (dGt d e).bind asB) (cApp dLen (cCons (cVar 0) cNil)) (cC (.int 0))) (cAsg 5 (cIxV 0 (cBin dMod (cVar 4) (cApp dLen (cCons (cVar 0) cNil))))) cNx)
      [.pu (.kst (ns.map D.int)), a1, a2, a3, .pu (.int (0 + (k : Int))), .pu (.int 0)] = .nx [.pu (.kst (ns.map D.int)), a1, a2, a3, .pu (.int (0 + (k : Int))), .pu (.int c)] := by
    by_cases h0 : ns.length = 0
    · refine ⟨0, fun a1 a2 a3 => ?_⟩
      rw [List.length_eq_zero_iff.mp h0]
      rfl
    · have hp : ((ns.length : Nat) : Int) > 0 := by omega
      have hq : 0 ≤ (0 + (k : Int)) % ((ns.length : Nat) : Int) := Int.emod_nonneg _ (by omega)
      have hq2 : (0 + (k : Int)) % ((ns.length : Nat) : Int) < ((ns.length : Nat) : Int) := Int.emod_lt_of_pos _ hp
      have hat : ∃ c : Int, atD (ns.map D.int) ((0 + (k : Int)) % ((ns.length : Nat) : Int)) = .ok (.int c) := by
        have hq3 : ((0 + (k : Int)) % ((ns.length : Nat) : Int)).toNat < ns.length := by omega
        refine ⟨ns[((0 + (k : Int)) % ((ns.length : Nat) : Int)).toNat], atD_int hq ?_⟩
        rw [List.getElem?_map, List.getElem?_eq_getElem hq3]
        rfl
      obtain ⟨c, hat⟩ := hat
      have hmd := e_modP (i := 0 + (k : Int)) hp
      refine ⟨c, fun a1 a2 a3 => ?_⟩
      generalize ns.map D.int = vs at *
      walk_at "ev"
      simp only [hlen, hp, if_true]
      walk_at "ev"
      simp only [hlen, hmd]
      walk_at "ev"
      simp only [hat]
      walk_at "ev"
  obtain ⟨c, hc⟩ := hc
  have hm2 : 0 ≤ (m * 48271 + c + (0 + (k : Int))) % 2147483647 ∧ (m * 48271 + c + (0 + (k : Int))) % 2147483647 < 2147483647 := by omega
  refine ⟨[.pu (.kst (ns.map D.int)), .pu (.int (w : Int)), .ow ((xs ++ [(((m * 48271 + c + (0 + (k : Int))) % 2147483647) * ((m * 48271 + c + (0 + (k : Int))) % 2147483647) + 16807 * ((m * 48271 + c + (0 + (k : Int))) % 2147483647)) % 2147483629]).map D.int), .pu (.int ((m * 48271 + c + (0 + (k : Int))) % 2147483647)), .pu (.int (0 + (k : Int))), .pu (.int c)], ?_, _, _, _, _, rfl, hm2, ?_, ?_⟩
  · generalize ns.map D.int = vs at *
    rw [List.map_append]
    generalize xs.map D.int = us at *
    generalize hM : (m * 48271 + c + (0 + (k : Int))) % 2147483647 = M at *
    have c2 : cMul M M := cMul_bd (p := 31) (q := 31) (bd_nat hm2.1 (by omega)) (bd_nat hm2.1 (by omega)) (by decide)
    have c3 : cMul 16807 M := cMul_bd (p := 31) (q := 31) (bd_nat (by omega) (by omega)) (bd_nat hm2.1 (by omega)) (by decide)
    unfold c_law_row_b1
    simp only [e_seq, e_asg, e_evA, e_c, e_kA, e_fA, List.set_cons_zero, List.set_cons_succ, e_fnx, hc]
    walk_at "ev"
    simp only [c1, if_true]
    walk_at "ev"
    simp only [hM]
    walk_at "ev"
    simp only [c2, c3, hxl, if_true]
    try walk_at "ev"
    try simp only [hxl, if_true]
  · intro x h
    rcases List.mem_append.mp h with h | h
    · exact hx x h
    · rw [List.mem_singleton.mp h]
      exact sm_mod
  · rw [List.length_append, hl]
    rfl
theorem e_kif0 {a b : CS} {δ : List Sl} : kIf a b δ (.ok false) = b δ := rfl
theorem m_row {ns : List Int} {w : Nat} (hn : ns.length ≤ 63) (hw : w ≤ 1000) : ∃ xs : List Int, m_law_row [.kst (ns.map D.int), .int (w : Int)] = .okl (xs.map D.int) ∧ (∀ x ∈ xs, Sm x) ∧ xs.length = ns.length + w := by
  by_cases hb : ∃ n r, ns = n :: r ∧ n % 2 = 0
  · obtain ⟨n, r, e, h2⟩ := hb
    refine ⟨_, row_even hn hw e h2, ?_, ?_⟩
    · intro x hx
      rcases List.mem_append.mp hx with h | h
      · obtain ⟨i, -, rfl⟩ := List.mem_map.mp h
        exact ⟨Int.emod_nonneg _ (by decide), Int.emod_lt_of_pos _ (by decide)⟩
      · rw [(List.mem_replicate.mp h).2]
        exact ⟨by decide, by decide⟩
    · rw [List.length_append, List.length_map, List.length_replicate]
  · have hv := row_odd hb
    have hmax : dMax [.int (w : Int), .int ((((ns.map D.int).length : Nat) : Int) + (w : Int))] = .ok (.int ((((ns.map D.int).length : Nat) : Int) + (w : Int))) := by
      show R.ok (D.int (if (((ns.map D.int).length : Nat) : Int) + (w : Int) > (w : Int) then _ else _)) = _
      split
      · rfl
      · congr 2
        omega
    have hr : dRng1 [.int ((((ns.map D.int).length : Nat) : Int) + (w : Int))] = .ok (rangeD 0 (ns.length + w)) := by
      rw [List.length_map, e_rng1 (by omega) (by omega)]
      congr 2
    have fin := @row_end ns w
    have step := @row_step ns
    have hI : ini 6 [.kst (ns.map D.int), .int (w : Int)] = [.pu (.kst (ns.map D.int)), .pu (.int (w : Int)), .un, .un, .un, .un] := rfl
    unfold m_law_row c_law_row
    have hB : bor [.pu (.kst (ns.map D.int)), .pu (.int (w : Int)), .un, .un, .un, .un] = [.pu (.kst (ns.map D.int)), .pu (.int (w : Int)), .un, .un, .un, .un] := rfl
    rw [e_run, hI, e_seq, e_ifS, hB, hv]
    have hrc : (cApp dRng1 (cCons (cApp dMax (cCons (cVar 1) (cCons (cBin dAddA (cApp dLen (cCons (cVar 0) cNil)) (cVar 1)) cNil))) cNil)) [.pu (.kst (ns.map D.int)), .pu (.int (w : Int)), .ow [], .pu (.int 7), .un, .un] = .ok (rangeD 0 (ns.length + w)) := by
      generalize ns.map D.int = vs at *
      have hif : (if (((vs.length : Nat) : Int) + (w : Int)) > (w : Int) then (((vs.length : Nat) : Int) + (w : Int)) else (w : Int)) = ((vs.length : Nat) : Int) + (w : Int) := by split <;> omega
      walk_at "ev"
      simp only [hif]
      walk_at "ev"
      simp only [hr]
    generalize hcs : c_law_row_b1 = cs at step ⊢
    rw [e_kif0, e_nx, e_fnx, e_seq, e_asgN]
    have hnil : (cApp dLst cNil) [.pu (.kst (ns.map D.int)), .pu (.int (w : Int)), .un, .un, .un, .un] = .ok [] := by
      walk_at "ev"
    rw [e_evN, hnil, e_kN, e_fA, e_fnx, e_seq]
    have h7 : cAsg 3 (cC (.int 7)) ([.pu (.kst (ns.map D.int)), .pu (.int (w : Int)), .un, .un, .un, .un].set 2 (.ow [])) = .nx [.pu (.kst (ns.map D.int)), .pu (.int (w : Int)), .ow [], .pu (.int 7), .un, .un] := rfl
    rw [h7, e_fnx, e_seq, e_for, e_evI, hrc, e_kI, e_fA]
    refine row_end (go_inv0 (RowI ns w) ?_ ?_)
    · exact ⟨[], 7, _, _, rfl, by decide, by simp, rfl⟩
    · rintro k d δ hd ⟨xs, m, s4, s5, rfl, hm, hx, hl⟩
      rw [rangeD_get] at hd
      split at hd
      · rename_i hk
        cases hd
        obtain ⟨δ2, e2, i2⟩ := step (s4 := s4) (s5 := s5) hn hk hw hm hx hl
        exact ⟨_, rfl, δ2, Or.inl e2, i2⟩
      · cases hd
/-! ### the law's spans of marks -/
section
variable {nu de : Int → Int}
theorem eqE {N : Int} (hg : Gk N nu de) {i j : Int} (hi : -10 ≤ i ∧ i ≤ N) (hj : -10 ≤ j ∧ j < N) : dEq (enE N nu de i) (en nu de j) = .ok (.bl (decide (i = j))) := by
  by_cases h : i = N
  · subst h
    rw [enE_N, decide_eq_false (by omega)]
    rfl
  · rw [enE_ne h]
    unfold en
    rw [eqP]
    congr 2
    by_cases e : i = j
    · subst e
      simp
    · rw [decide_eq_false e]
      have l1 := hg.lt i j hi.1 (by omega) hj.1 hj.2
      have l2 := hg.lt j i hj.1 hj.2 hi.1 (by omega)
      by_cases z : nu i = nu j ∧ de i = de j
      · rw [z.1, z.2] at l1 l2
        exfalso
        rcases Int.lt_or_gt_of_ne e with c | c
        · have := l2.mpr c; omega
        · have := l1.mpr c; omega
      · simpa using z
theorem at_gl {n k : Nat} (h : k < n) : atD (gl nu de n) (k : Int) = .ok (en nu de (k : Int)) := at_range (f := fun (k : Nat) => en nu de (k : Int)) h
theorem gl_len {n : Nat} : (gl nu de n).length = n := by unfold gl; simp
theorem at_glN {n k : Nat} (h : k ≤ n) : atD (gl nu de n ++ [.non]) (k : Int) = .ok (enE n nu de (k : Int)) := by
  refine at_get ?_
  by_cases e : k = n
  · subst e
    rw [List.getElem?_append_right (by rw [gl_len]; omega), gl_len]
    simp [enE]
  · rw [List.getElem?_append_left (by rw [gl_len]; omega), enE_ne (by omega)]
    unfold gl
    rw [List.getElem?_map, List.getElem?_range (by omega)]
    rfl
theorem ls_step {n k : Nat} (hg : Gk n nu de) (hk : k < n) (hn : n ≤ 1000) {mk : Int → Bool} {acc : List IP} (ha : ∀ q ∈ acc, Vp n q) (hl : acc.length ≤ 5000) {M : List D} (hM : atD M (k : Int) = .ok (.bl (mk k))) (s4 : Sl) :
    ∃ t4, c_law_spans_b1 [.pu (.lst (gl nu de n)), .pu (.lst M), .ow (acc.reverse.map (enP n nu de)), .pu (.int (k : Int)), s4] = .nx [.pu (.lst (gl nu de n)), .pu (.lst M), .ow ((sr mk acc k).reverse.map (enP n nu de)), .pu (.int (k : Int)), t4] := by
  have g1 : atD (gl nu de n) (k : Int) = .ok (en nu de (k : Int)) := at_gl hk
  have g2 : atD (gl nu de n ++ [.non]) ((k : Int) + 1) = .ok (enE n nu de ((k : Int) + 1)) := at_glN (k := k + 1) hk
  have gn : (gl nu de n).length + 1 ≤ sizeLine := sz (by rw [gl_len]; omega)
  by_cases hm : mk k = true
  · rw [hm] at hM
    cases acc with
    | nil =>
      have e : sr mk [] k = [((k : Int), (k : Int) + 1)] := if_pos hm
      rw [e]
      refine ⟨.pu (enE n nu de ((k : Int) + 1)), ?_⟩
      show _ = Fl.nx [_, _, .ow [.tup [en nu de k, enE n nu de (k + 1)]], _, _]
      simp only [List.reverse_nil, List.map_nil]
      unfold c_law_spans_b1
      generalize gl nu de n = G at *
      simp_arith [hM, g1, g2, gn, ne_nil0]
    | cons q r =>
      have hq := ha q List.mem_cons_self
      have e0 : (q :: r).reverse.map (enP n nu de) = r.reverse.map (enP n nu de) ++ [enP n nu de q] := by simp
      have hne : dNe (.lst (r.reverse.map (enP n nu de) ++ [enP n nu de q])) (.lst []) = .ok (.bl true) := ne_nil good_map good_enP
      have hlen : (r.reverse.map (enP n nu de) ++ [enP n nu de q]).length < sizeLine := szl (by simp at hl ⊢; omega)
      have hlast : atD (r.reverse.map (enP n nu de) ++ [enP n nu de q]) (-1) = .ok (.tup [en nu de q.1, enE n nu de q.2]) := at_app
      have heq := eqE hg (i := q.2) (j := k) ⟨hq.2.2.1, hq.2.2.2⟩ ⟨by omega, by omega⟩
      refine ⟨.pu (enE n nu de ((k : Int) + 1)), ?_⟩
      by_cases hc : q.2 = k
      · rw [decide_eq_true hc] at heq
        have e : sr mk (q :: r) k = (q.1, (k : Int) + 1) :: r := by
          unfold sr
          rw [if_pos hm]
          show (if q.2 = k then _ else _) = _
          rw [if_pos hc]
        have e1 : ((q.1, (k : Int) + 1) :: r).reverse.map (enP n nu de) = r.reverse.map (enP n nu de) ++ [.tup [en nu de q.1, enE n nu de (k + 1)]] := by simp [enP]
        rw [e, e1, e0]
        unfold c_law_spans_b1
        generalize gl nu de n = G at *
        generalize r.reverse.map (enP n nu de) = L at *
        generalize enP n nu de q = Q at *
        simp_arith [hM, g1, g2, gn, hne, hlast, heq, e_setKa]
      · rw [decide_eq_false hc] at heq
        have e : sr mk (q :: r) k = ((k : Int), (k : Int) + 1) :: q :: r := by
          unfold sr
          rw [if_pos hm]
          show (if q.2 = k then _ else _) = _
          rw [if_neg hc]
        have e1 : (((k : Int), (k : Int) + 1) :: q :: r).reverse.map (enP n nu de) = r.reverse.map (enP n nu de) ++ [enP n nu de q] ++ [.tup [en nu de k, enE n nu de (k + 1)]] := by simp [enP]
        rw [e, e1, e0]
        unfold c_law_spans_b1
        generalize gl nu de n = G at *
        generalize r.reverse.map (enP n nu de) ++ [enP n nu de q] = L at *
        simp_arith [hM, g1, g2, gn, hne, hlast, heq, hlen]
  · have hm' : mk k = false := by simpa using hm
    rw [hm'] at hM
    have e : sr mk acc k = acc := if_neg hm
    rw [e]
    refine ⟨s4, ?_⟩
    unfold c_law_spans_b1
    generalize gl nu de n = G at *
    generalize acc.reverse.map (enP n nu de) = L at *
    simp_arith [hM]
theorem wfr_mem : ∀ {s : List IP}, WFr s → ∀ q ∈ s, q.1 < q.2
  | p :: r, h, q, hq => by
    rcases List.mem_cons.mp hq with e | e
    · subst e; exact h.1
    · exact wfr_mem h.2.2 q e
theorem spr_v (mk : Int → Bool) {k n : Nat} (h : k ≤ n) : ∀ q ∈ spr mk k, Vp n q := fun q hq => by
  obtain ⟨h1, _, h3⟩ := spr_ok mk k
  have a := h3 q hq
  have b := wfr_mem h1 q hq
  exact ⟨a.2, by omega, by omega, by omega⟩
theorem spr_len (mk : Int → Bool) : ∀ k : Nat, (spr mk k).length ≤ k
  | 0 => by simp [spr]
  | k + 1 => by
    have ih := spr_len mk k
    show (sr mk (spr mk k) k).length ≤ k + 1
    unfold sr
    split
    · generalize spr mk k = acc at *
      cases acc with
      | nil => simp
      | cons q r =>
        simp only []
        split
        · simp at ih ⊢; omega
        · simp at ih ⊢; omega
    · omega
end
section
variable {nu de : Int → Int}
theorem m_lsp0 {n : Nat} (hg : Gk n nu de) (hn : n ≤ 1000) {bs : List Bool} (hb : bs.length = n) :
    ∃ δ', forGo (tName 3) c_law_spans_b1 (rangeD 0 n) [.pu (.lst (gl nu de n)), .pu (.lst (bs.map D.bl)), .ow [], .un, .un] = .nx δ' ∧ ∃ s3 s4, δ' = [.pu (.lst (gl nu de n)), .pu (.lst (bs.map D.bl)), .ow ((spr (fun j => bs.getD j.toNat false) (rangeD 0 n).length).reverse.map (enP n nu de)), s3, s4] := by
  refine go_inv0 (fun k δ => ∃ s3 s4, δ = [.pu (.lst (gl nu de n)), .pu (.lst (bs.map D.bl)), .ow ((spr (fun j => bs.getD j.toNat false) k).reverse.map (enP n nu de)), s3, s4]) ⟨_, _, rfl⟩ ?_
  rintro k d δ hd ⟨s3, s4, rfl⟩
  rw [rangeD_get0] at hd
  split at hd
  · rename_i hk
    cases hd
    have hM : atD (bs.map D.bl) (k : Int) = .ok (.bl ((fun j : Int => bs.getD j.toNat false) (k : Int))) := by
      refine at_get ?_
      rw [List.getElem?_map, List.getElem?_eq_getElem (by omega)]
      simp [List.getD_eq_getElem?_getD, List.getElem?_eq_getElem (show k < bs.length by omega)]
    have hl : (spr (fun j => bs.getD j.toNat false) k).length ≤ 5000 := by
      have := spr_len (fun j => bs.getD j.toNat false) k
      omega
    obtain ⟨t4, ht⟩ := ls_step hg hk hn (mk := fun j => bs.getD j.toNat false) (acc := spr (fun j => bs.getD j.toNat false) k) (spr_v _ (by omega)) hl hM s4
    exact ⟨_, rfl, _, Or.inl ht, _, _, rfl⟩
  · cases hd
theorem m_lsp {n : Nat} (hg : Gk n nu de) (hn : n ≤ 1000) {bs : List Bool} (hb : bs.length = n) :
    m_law_spans [.lst (gl nu de n), .lst (bs.map D.bl)] = .okl ((spr (fun j => bs.getD j.toNat false) n).reverse.map (enP n nu de)) := by
  obtain ⟨δ', h1, s3, s4, h3⟩ := m_lsp0 hg hn hb
  have hr : dRng1 [.int (n : Int)] = .ok (rangeD 0 n) := rng1n (by omega)
  rw [rng_len] at h3
  subst h3
  have hgl := gl_len (nu := nu) (de := de) (n := n)
  unfold m_law_spans c_law_spans
  generalize gl nu de n = G at *
  generalize bs.map D.bl = M at *
  generalize rangeD 0 n = RR at *
  simp_arith [hgl, hr, h1]
end
/-! ### is_spans over a row of ends -/
def okB : Option IP → IP → Bool
  | none, p => decide (p.1 < p.2) && true
  | some q, p => decide (p.1 < p.2) && decide (q.2 < p.1)
def ascB : Option IP → List IP → Bool
  | _, [] => true
  | pv, p :: r => okB pv p && ascB (some p) r
theorem asc_pw : ∀ (l : List IP) (pv : Option IP), ascB pv l = true → (∀ q, pv = some q → ∀ p ∈ l, q.2 < p.1) ∧ (∀ p ∈ l, p.1 < p.2) ∧ l.Pairwise (fun a b => a.2 < b.1)
  | [], _, _ => ⟨fun _ _ p hp => (by cases hp), fun p hp => (by cases hp), .nil⟩
  | p :: r, pv, h => by
    unfold ascB at h
    obtain ⟨h1, h2⟩ := Bool.and_eq_true_iff.mp h
    have h34 : p.1 < p.2 ∧ ∀ q, pv = some q → q.2 < p.1 := by
      cases pv with
      | none =>
        obtain ⟨h3, h4⟩ := Bool.and_eq_true_iff.mp (show (decide (p.1 < p.2) && true) = true from h1)
        exact ⟨of_decide_eq_true h3, fun q hq => (by cases hq)⟩
      | some q =>
        obtain ⟨h3, h4⟩ := Bool.and_eq_true_iff.mp (show (decide (p.1 < p.2) && decide (q.2 < p.1)) = true from h1)
        exact ⟨of_decide_eq_true h3, fun q' hq => (by cases hq; exact of_decide_eq_true h4)⟩
    obtain ⟨h3, h4⟩ := h34
    obtain ⟨a1, a2, a3⟩ := asc_pw r (some p) h2
    have a1 := a1 p rfl
    refine ⟨fun q hq x hx => ?_, fun x hx => ?_, .cons a1 a3⟩
    · have h4 := h4 q hq
      rcases List.mem_cons.mp hx with e | e
      · subst e; exact h4
      · have := a1 x e
        omega
    · rcases List.mem_cons.mp hx with e | e
      · subst e; exact h3
      · exact a2 x e
theorem asc_of : ∀ (l : List IP) (pv : Option IP), (∀ q, pv = some q → ∀ p ∈ l, q.2 < p.1) → (∀ p ∈ l, p.1 < p.2) → l.Pairwise (fun a b => a.2 < b.1) → ascB pv l = true
  | [], _, _, _, _ => rfl
  | p :: r, pv, h1, h2, h3 => by
    cases h3 with
    | cons a b =>
      unfold ascB
      rw [asc_of r (some p) (fun q hq x hx => by cases hq; exact a x hx) (fun x hx => h2 x (List.mem_cons_of_mem _ hx)) b, Bool.and_true]
      cases pv with
      | none =>
        show (decide (p.1 < p.2) && true) = true
        rw [decide_eq_true (h2 p List.mem_cons_self)]
        rfl
      | some q =>
        show (decide (p.1 < p.2) && decide (q.2 < p.1)) = true
        rw [decide_eq_true (h2 p List.mem_cons_self), decide_eq_true (h1 q rfl p List.mem_cons_self)]
        rfl
theorem wfr_pw : ∀ {s : List IP}, WFr s → s.Pairwise (fun a b => b.2 < a.1)
  | [], _ => .nil
  | p :: r, h => .cons (fun q hq => h.2.1 q hq) (wfr_pw h.2.2)
theorem asc_spr (mk : Int → Bool) (n : Nat) : ascB none (spr mk n).reverse = true := by
  have h := (spr_ok mk n).1
  exact asc_of _ _ (fun q hq => by cases hq) (fun p hp => wfr_mem h p (List.mem_reverse.mp hp)) (List.pairwise_reverse.mpr (wfr_pw h))
section
variable {N : Int} {nu de : Int → Int}
theorem is_step (hg : Gk N nu de) {pre : List IP} {p : IP} {post : List IP} (hp : Vp N p) (hq : ∀ q ∈ pre, Vp N q) :
    c_is_spans_b1 [.pu (.lst ((pre ++ p :: post).map (enP N nu de))), .pu (.int (pre.length : Int)), .pu (enP N nu de p)] = if okB pre.getLast? p = true then .nx [.pu (.lst ((pre ++ p :: post).map (enP N nu de))), .pu (.int (pre.length : Int)), .pu (enP N nu de p)] else .rt (.bl false) := by
  have hp2 : (decide (p.2 = N) = true ∧ p.1 < p.2) ∨ (decide (p.2 = N) = false ∧ m_is_more [enE N nu de p.2, en nu de p.1] = .ok (.bl (decide (p.1 < p.2)))) := by
    by_cases h : p.2 = N
    · exact .inl ⟨decide_eq_true h, by have := hp.2.1; omega⟩
    · refine .inr ⟨decide_eq_false h, ?_⟩
      rw [enE_ne h]
      exact g_mo hg ⟨hp.2.2.1, by have := hp.2.2.2; omega⟩ ⟨by have := hp.1; omega, hp.2.1⟩
  have first : (cIfS (cAndB [(cBin (fun d e => (dNot d e).bind asB) (cIxV 2 (cC (.int 1))) (cC (.non))), (cNotB (cUn dTru (cCall 2 m_is_more (cCons (cIxV 2 (cC (.int 1))) (cCons (cIxV 2 (cC (.int 0))) cNil)))))]) (cRetV (cC (.bl false))) cNx) [.pu (.lst ((pre ++ p :: post).map (enP N nu de))), .pu (.int (pre.length : Int)), .pu (enP N nu de p)] = if p.1 < p.2 then .nx [.pu (.lst ((pre ++ p :: post).map (enP N nu de))), .pu (.int (pre.length : Int)), .pu (enP N nu de p)] else .rt (.bl false) := by
    generalize (pre ++ p :: post).map (enP N nu de) = W at *
    unfold enP
    rcases hp2 with ⟨h, h2⟩ | ⟨h, h2⟩
    · rw [if_pos h2]
      simp_arith [enE_isN, h]
    · by_cases c : p.1 < p.2
      · rw [decide_eq_true c] at h2
        rw [if_pos c]
        simp_arith [enE_isN, h, h2]
      · rw [decide_eq_false c] at h2
        rw [if_neg c]
        simp_arith [enE_isN, h, h2]
  unfold c_is_spans_b1
  rw [e_seq, first]
  by_cases c : p.1 < p.2
  · rw [if_pos c, e_fnx]
    rcases List.eq_nil_or_concat pre with e | ⟨pr, q, e⟩
    · subst e
      have hz : ¬ (0 : Int) < ((([] : List IP).length : Nat) : Int) := by simp
      have ho : okB ([] : List IP).getLast? p = true := by
        show (decide (p.1 < p.2) && true) = true
        rw [decide_eq_true c]
        rfl
      rw [if_pos ho]
      generalize ([] ++ p :: post).map (enP N nu de) = W at *
      simp_arith [hz]
    · have hqv := hq q (by rw [e]; simp)
      have hl : pre.getLast? = some q := by rw [e]; simp
      have hz : (0 : Int) < ((pre.length : Nat) : Int) := by rw [e]; simp
      have hat : atD ((pre ++ p :: post).map (enP N nu de)) ((pre.length : Int) - 1) = .ok (.tup [en nu de q.1, enE N nu de q.2]) := by
        have e1 : (pre.length : Int) - 1 = (pr.length : Int) := by rw [e]; simp
        rw [e1]
        refine at_get ?_
        rw [List.getElem?_map, e]
        simp [enP]
      have ho : okB pre.getLast? p = decide (q.2 < p.1) := by
        rw [hl]
        show (decide (p.1 < p.2) && decide (q.2 < p.1)) = _
        rw [decide_eq_true c, Bool.true_and]
      rw [ho]
      have hm : decide (q.2 = N) = true ∨ (decide (q.2 = N) = false ∧ m_is_more [en nu de p.1, enE N nu de q.2] = .ok (.bl (decide (q.2 < p.1)))) := by
        by_cases h : q.2 = N
        · exact .inl (decide_eq_true h)
        · refine .inr ⟨decide_eq_false h, ?_⟩
          rw [enE_ne h]
          exact g_mo hg ⟨by have := hp.1; omega, hp.2.1⟩ ⟨hqv.2.2.1, by have := hqv.2.2.2; omega⟩
      generalize (pre ++ p :: post).map (enP N nu de) = W at *
      generalize (pre.length : Int) = k at *
      unfold enP
      rcases hm with h | ⟨h, h2⟩
      · have hn : ¬ q.2 < p.1 := by
          have := of_decide_eq_true h
          have := hp.2.1
          omega
        rw [decide_eq_false hn, if_neg (by decide)]
        simp_arith [hz, hat, enE_isN, h]
      · by_cases c2 : q.2 < p.1
        · rw [decide_eq_true c2] at h2 ⊢
          rw [if_pos rfl]
          simp_arith [hz, hat, enE_isN, h, h2]
        · rw [decide_eq_false c2] at h2 ⊢
          rw [if_neg (by decide)]
          simp_arith [hz, hat, enE_isN, h, h2]
  · have ho : okB pre.getLast? p = false := by
      cases pre.getLast? with
      | none =>
        show (decide (p.1 < p.2) && true) = false
        rw [decide_eq_false c]
        rfl
      | some q =>
        show (decide (p.1 < p.2) && decide (q.2 < p.1)) = false
        rw [decide_eq_false c]
        rfl
    rw [if_neg c, e_frt, ho, if_neg (by decide)]
theorem is_go (hg : Gk N nu de) : ∀ (rest pre : List IP) (s1 s2 : Sl), (∀ q ∈ pre ++ rest, Vp N q) →
    (ascB pre.getLast? rest = true → ∃ t1 t2, forGo (tTupT 2 (tCons' (tName 1) (tCons' (tName 2) tNil'))) c_is_spans_b1 (enumD pre.length (rest.map (enP N nu de))) [.pu (.lst ((pre ++ rest).map (enP N nu de))), s1, s2] = .nx [.pu (.lst ((pre ++ rest).map (enP N nu de))), t1, t2]) ∧
    (ascB pre.getLast? rest = false → forGo (tTupT 2 (tCons' (tName 1) (tCons' (tName 2) tNil'))) c_is_spans_b1 (enumD pre.length (rest.map (enP N nu de))) [.pu (.lst ((pre ++ rest).map (enP N nu de))), s1, s2] = .rt (.bl false))
  | [], pre, s1, s2, _ => ⟨fun _ => ⟨s1, s2, rfl⟩, fun h => by cases h⟩
  | p :: rest, pre, s1, s2, hv => by
    have st := is_step hg (pre := pre) (p := p) (post := rest) (hv p (by simp)) (fun q hq => hv q (by simp [hq]))
    have ih := is_go hg rest (pre ++ [p]) (.pu (.int (pre.length : Int))) (.pu (enP N nu de p)) (by rw [List.append_assoc]; exact hv)
    have e1 : (pre ++ [p]).getLast? = some p := by simp
    have e2 : pre ++ [p] ++ rest = pre ++ p :: rest := by rw [List.append_assoc]; rfl
    have e3 : (pre ++ [p]).length = pre.length + 1 := by simp
    rw [e1, e2, e3] at ih
    have e4 : enumD pre.length ((p :: rest).map (enP N nu de)) = .tup [.int (pre.length : Int), enP N nu de p] :: enumD (pre.length + 1) (rest.map (enP N nu de)) := rfl
    have e5 : ascB pre.getLast? (p :: rest) = (okB pre.getLast? p && ascB (some p) rest) := rfl
    rw [e4, e5, e_go]
    have e6 : tTupT 2 (tCons' (tName 1) (tCons' (tName 2) tNil')) (.tup [.int (pre.length : Int), enP N nu de p]) [.pu (.lst ((pre ++ p :: rest).map (enP N nu de))), s1, s2] = some [.pu (.lst ((pre ++ p :: rest).map (enP N nu de))), .pu (.int (pre.length : Int)), .pu (enP N nu de p)] := rfl
    rw [e6, e_kgo, st]
    generalize okB pre.getLast? p = b at *
    cases b with
    | true =>
      rw [if_pos rfl, e_lnx, Bool.true_and]
      exact ih
    | false =>
      rw [if_neg (by decide), e_lrt, Bool.false_and]
      exact ⟨fun h => (by cases h), fun _ => rfl⟩
theorem m_isp (hg : Gk N nu de) {s : List IP} (hv : ∀ q ∈ s, Vp N q) (hl : s.length ≤ 1000) : m_is_spans [.lst (s.map (enP N nu de))] = .ok (.bl (ascB none s)) := by
  have hc : ∀ a0 a1, lcGo (tName 2) cTrue c_is_spans_e1 [a0, a1, Sl.un] (s.map (enP N nu de)) [] = .ok (s.map fun _ => .bl true) := fun a0 a1 => by
    rw [lc_map (f := fun _ => .bl true) (s.map (enP N nu de)) [] ?_ (szl (by simp; omega)), List.nil_append, List.map_map]
    · rfl
    · intro d hd
      obtain ⟨p, hp', rfl⟩ := List.mem_map.mp hd
      refine ⟨_, rfl, ?_⟩
      have z := g_pair hg (hv p hp')
      unfold c_is_spans_e1
      generalize enP N nu de p = P at *
      show cCall 1 m_is_pair (cCons (cVar 2) cNil) [a0, a1, .pu P] = _
      simp_arith [z]
  have ha := all_true (l := s)
  obtain ⟨h1, h2⟩ := is_go hg s [] .un .un (by simpa using hv)
  have e1 : ([] : List IP).getLast? = none := rfl
  have e2 : ([] : List IP) ++ s = s := rfl
  have e3 : ([] : List IP).length = 0 := rfl
  rw [e1, e2, e3] at h1 h2
  unfold m_is_spans c_is_spans
  generalize s.map (enP N nu de) = L at *
  cases hb : ascB none s with
  | true =>
    obtain ⟨t1, t2, h3⟩ := h1 hb
    simp_arith [hc, ha, h3]
  | false =>
    have h3 := h2 hb
    simp_arith [hc, ha, h3]
end
theorem lc_ex {t : CT} {ce : C} {δ : List Sl} {Q : D → D → Prop} : ∀ (ds acc : List D), (∀ d ∈ ds, ∃ δ1 e, t d δ = some δ1 ∧ ce δ1 = .ok e ∧ Q d e) → acc.length + ds.length < sizeLine → ∃ es : List D, lcGo t cTrue ce δ ds acc = .ok (acc ++ es) ∧ es.length = ds.length ∧ ∀ (i : Nat) (d e : D), ds[i]? = some d → es[i]? = some e → Q d e
  | [], acc, _, _ => ⟨[], by rw [e_lcN, List.append_nil], rfl, fun i d e h => by simp at h⟩
  | d :: ds, acc, h, hl => by
    obtain ⟨δ1, e, h1, h2, h3⟩ := h d List.mem_cons_self
    obtain ⟨es, g1, g2, g3⟩ := lc_ex ds (acc ++ [e]) (fun d' hd => h d' (List.mem_cons_of_mem _ hd)) (by simp at hl ⊢; omega)
    refine ⟨e :: es, ?_, by simp [g2], fun i d' e' q1 q2 => ?_⟩
    · rw [e_lcC, h1, e_lc1, e_ctrue, e_lc2, h2, e_lc3, if_pos (by simp at hl; omega), g1, List.append_assoc]
      rfl
    · cases i with
      | zero => simp at q1 q2; subst q1 q2; exact h3
      | succ i => exact g3 i d' e' (by simpa using q1) (by simpa using q2)
section
variable {nu de : Int → Int}
theorem m_mks {n : Nat} (hn : n ≤ 1000) {x : Int} : ∃ bs : List Bool, m_law_marks [.lst (gl nu de n), .int x] = .okl (bs.map D.bl) ∧ bs.length = n := by
  have hgl := gl_len (nu := nu) (de := de) (n := n)
  have hr : dRng1 [.int (n : Int)] = .ok (rangeD 0 n) := rng1n (by omega)
  obtain ⟨es, h1, h2, h3⟩ : ∃ es : List D, lcGo (tName 2) cTrue c_law_marks_e1 [.pu (.lst (gl nu de n)), .pu (.int x), .un] (rangeD 0 n) [] = .ok ([] ++ es) ∧ es.length = (rangeD 0 n).length ∧ ∀ (i : Nat) (d e : D), (rangeD 0 n)[i]? = some d → es[i]? = some e → ∃ b : Bool, e = .bl b := by
    refine lc_ex (Q := fun _ e => ∃ b : Bool, e = .bl b) (rangeD 0 n) [] (fun d hd => ?_) (szl (by rw [rng_len]; simp; omega))
    obtain ⟨j, hj⟩ := List.getElem?_of_mem hd
    rw [rangeD_get0] at hj
    split at hj
    · cases hj
      have hc : cShr x (j : Int) := by unfold cShr; omega
      refine ⟨_, .bl (decide (Builtin.bitAnd (x / 2 ^ (j : Int).toNat) 1 = 1)), rfl, ?_, _, rfl⟩
      unfold c_law_marks_e1
      show (cBin dEq _ _) [.pu (.lst (gl nu de n)), .pu (.int x), .pu (.int (j : Int))] = _
      generalize gl nu de n = G at *
      simp_arith [hc]
    · cases hj
  rw [List.nil_append] at h1
  rw [rng_len] at h2
  have key : ∀ l : List D, (∀ e ∈ l, ∃ b : Bool, e = .bl b) → ∃ bs : List Bool, l = bs.map D.bl := by
    intro l
    induction l with
    | nil => intro _; exact ⟨[], rfl⟩
    | cons e l ih =>
      intro h
      obtain ⟨bs, hb⟩ := ih fun x hx => h x (List.mem_cons_of_mem _ hx)
      obtain ⟨b, rfl⟩ := h e List.mem_cons_self
      exact ⟨b :: bs, by rw [hb]; rfl⟩
  obtain ⟨bs, hb⟩ := key es fun e he => by
    obtain ⟨i, hi⟩ := List.getElem?_of_mem he
    have hil : i < n := by
      have := (List.getElem?_eq_some_iff.mp hi).1
      omega
    exact h3 i _ e (by rw [rangeD_get0, if_pos hil]) hi
  refine ⟨bs, ?_, by rw [hb, List.length_map] at h2; exact h2⟩
  rw [← hb]
  unfold m_law_marks c_law_marks
  generalize gl nu de n = G at *
  generalize rangeD 0 n = RR at *
  simp_arith [hgl, hr, h1]
end
/-! ### sets as stretches -/
def mkO (bs : List Bool) : Int → Bool := fun j => bs.getD j.toNat false
def SSp (n : Nat) (bs : List Bool) : List IP := (spr (mkO bs) n).reverse
theorem inS_rev {j : Int} {s : List IP} : inS j s.reverse ↔ inS j s := by simp [inS]
theorem inS_app {j : Int} {s t : List IP} : inS j (s ++ t) ↔ inS j s ∨ inS j t := by
  unfold inS
  constructor
  · rintro ⟨p, hp, h⟩
    rcases List.mem_append.mp hp with m | m
    · exact .inl ⟨p, m, h⟩
    · exact .inr ⟨p, m, h⟩
  · rintro (⟨p, m, h⟩ | ⟨p, m, h⟩)
    · exact ⟨p, List.mem_append_left _ m, h⟩
    · exact ⟨p, List.mem_append_right _ m, h⟩
theorem inS_SSp {j : Int} {n : Nat} {bs : List Bool} : inS j (SSp n bs) ↔ 0 ≤ j ∧ j < n ∧ mkO bs j = true := by
  unfold SSp
  rw [inS_rev]
  exact (spr_ok (mkO bs) n).2.1 j
theorem SSp_v {n : Nat} {bs : List Bool} : ∀ q ∈ SSp n bs, Vp n q := fun q hq => spr_v _ (Nat.le_refl _) q (List.mem_reverse.mp hq)
theorem SSp_len {n : Nat} {bs : List Bool} : (SSp n bs).length ≤ n := by
  unfold SSp
  rw [List.length_reverse]
  exact spr_len _ n
theorem mkO_get {bs : List Bool} {j : Nat} (h : j < bs.length) : mkO bs (j : Int) = bs[j] := by
  unfold mkO
  rw [Int.toNat_natCast, List.getD_eq_getElem?_getD, List.getElem?_eq_getElem h]
  rfl
theorem mkO_zip {f : Bool → Bool → Bool} {a b : List Bool} {n : Nat} (ha : a.length = n) (hb : b.length = n) {j : Int} (h0 : 0 ≤ j) (h1 : j < n) : mkO (List.zipWith f a b) j = f (mkO a j) (mkO b j) := by
  obtain ⟨k, rfl⟩ := Int.eq_ofNat_of_zero_le h0
  have hk : k < n := by omega
  rw [mkO_get (by rw [List.length_zipWith]; omega), mkO_get (by omega), mkO_get (by omega), List.getElem_zipWith]
theorem mkO_map {f : Bool → Bool} {a : List Bool} {n : Nat} (ha : a.length = n) {j : Int} (h0 : 0 ≤ j) (h1 : j < n) : mkO (a.map f) j = f (mkO a j) := by
  obtain ⟨k, rfl⟩ := Int.eq_ofNat_of_zero_le h0
  have hk : k < n := by omega
  rw [mkO_get (by rw [List.length_map]; omega), mkO_get (by omega), List.getElem_map]
theorem ga_or {n : Nat} {a b : List Bool} (ha : a.length = n) (hb : b.length = n) : gath (SSp n a ++ SSp n b) = SSp n (List.zipWith (· || ·) a b) := by
  refine gath_spr fun j => ?_
  rw [inS_app, inS_SSp, inS_SSp]
  constructor
  · rintro (⟨h0, h1, h2⟩ | ⟨h0, h1, h2⟩)
    · refine ⟨h0, h1, ?_⟩
      rw [mkO_zip ha hb h0 h1, h2]
      rfl
    · refine ⟨h0, h1, ?_⟩
      rw [mkO_zip ha hb h0 h1, h2, Bool.or_true]
  · rintro ⟨h0, h1, h2⟩
    rw [mkO_zip ha hb h0 h1] at h2
    rcases (Bool.or_eq_true _ _).mp h2 with h | h
    · exact .inl ⟨h0, h1, h⟩
    · exact .inr ⟨h0, h1, h⟩
/-! common -/
def cr1 (p : IP) (t : List IP) : List IP := t.map fun q => (max p.1 q.1, min p.2 q.2)
def crA (s t : List IP) : List IP := s.flatMap fun p => cr1 p t
theorem inS_crA {j : Int} {s t : List IP} : inS j (crA s t) ↔ inS j s ∧ inS j t := by
  unfold inS crA cr1
  constructor
  · rintro ⟨p, hp, h⟩
    obtain ⟨x, hx, hz⟩ := List.mem_flatMap.mp hp
    obtain ⟨y, hy, rfl⟩ := List.mem_map.mp hz
    have h1 : max x.1 y.1 ≤ j := h.1
    have h2 : j < min x.2 y.2 := h.2
    exact ⟨⟨x, hx, by omega, by omega⟩, ⟨y, hy, by omega, by omega⟩⟩
  · rintro ⟨⟨x, hx, h1, h2⟩, ⟨y, hy, h3, h4⟩⟩
    refine ⟨(max x.1 y.1, min x.2 y.2), List.mem_flatMap.mpr ⟨x, hx, List.mem_map.mpr ⟨y, hy, rfl⟩⟩, ?_, ?_⟩
    · show max x.1 y.1 ≤ j
      omega
    · show j < min x.2 y.2
      omega
theorem crA_v {N : Int} {s t : List IP} (hs : ∀ q ∈ s, Vp N q) (ht : ∀ q ∈ t, Vp N q) : ∀ q ∈ crA s t, Vp N q := fun q hq => by
  obtain ⟨x, hx, hz⟩ := List.mem_flatMap.mp hq
  obtain ⟨y, hy, rfl⟩ := List.mem_map.mp hz
  have a := hs x hx
  have b := ht y hy
  unfold Vp at a b ⊢
  show 0 ≤ max x.1 y.1 ∧ max x.1 y.1 < N ∧ -10 ≤ min x.2 y.2 ∧ min x.2 y.2 ≤ N
  omega
theorem crA_len {s t : List IP} : (crA s t).length = s.length * t.length := by
  unfold crA cr1
  induction s with
  | nil => simp
  | cons p s ih =>
    rw [List.flatMap_cons, List.length_append, ih, List.length_map, List.length_cons, Nat.succ_mul, Nat.add_comm]
theorem ga_and {n : Nat} {a b : List Bool} (ha : a.length = n) (hb : b.length = n) : gath (crA (SSp n a) (SSp n b)) = SSp n (List.zipWith (· && ·) a b) := by
  refine gath_spr fun j => ?_
  rw [inS_crA, inS_SSp, inS_SSp]
  constructor
  · rintro ⟨⟨h0, h1, h2⟩, ⟨_, _, h3⟩⟩
    refine ⟨h0, h1, ?_⟩
    show mkO (List.zipWith (· && ·) a b) j = true
    rw [mkO_zip ha hb h0 h1, h2, h3]
    rfl
  · rintro ⟨h0, h1, h2⟩
    have h2 : mkO (List.zipWith (· && ·) a b) j = true := h2
    rw [mkO_zip ha hb h0 h1] at h2
    have h := (Bool.and_eq_true _ _).mp h2
    exact ⟨⟨h0, h1, h.1⟩, ⟨h0, h1, h.2⟩⟩
/-! outside -/
def lowR : List IP → Int
  | [] => 0
  | p :: _ => p.2
def prsR : List IP → List IP
  | [] => []
  | p :: r => (lowR r, p.1) :: prsR r
def outR (n : Int) (s : List IP) : List IP := if lowR s = n then prsR s else (lowR s, n) :: prsR s
theorem low_ge : ∀ {s : List IP}, WFr s → (∀ q ∈ s, 0 ≤ q.1) → 0 ≤ lowR s ∧ ∀ j, inS j s ∨ inS j (prsR s) → j < lowR s
  | [], _, _ => ⟨Int.le_refl _, fun j h => by
    rcases h with h | h
    · exact (inS_nil.mp h).elim
    · exact (inS_nil.mp h).elim⟩
  | p :: r, h, hp => by
    obtain ⟨a, b⟩ := low_ge (s := r) h.2.2 fun q hq => hp q (List.mem_cons_of_mem _ hq)
    have h0 := hp p List.mem_cons_self
    have h1 : p.1 < p.2 := h.1
    have h2 : lowR r ≤ p.1 := by
      cases r with
      | nil => exact h0
      | cons q r =>
        have z := h.2.1 q List.mem_cons_self
        show q.2 ≤ p.1
        omega
    refine ⟨by show 0 ≤ p.2; omega, fun j hj => ?_⟩
    show j < p.2
    rcases hj with hj | hj
    · rcases inS_cons.mp hj with z | z
      · exact z.2
      · have := b j (.inl z); omega
    · rcases inS_cons.mp hj with z | z
      · have z2 : j < p.1 := z.2
        omega
      · have := b j (.inr z); omega
theorem inS_out {n : Int} : ∀ {s : List IP}, WFr s → (∀ q ∈ s, 0 ≤ q.1 ∧ q.2 ≤ n) → ∀ j, (inS j (prsR s) ∨ (lowR s ≤ j ∧ j < n)) ↔ 0 ≤ j ∧ j < n ∧ ¬ inS j s
  | [], _, _, j => by
    have e : inS j [] ↔ False := inS_nil
    show (inS j [] ∨ ((0 : Int) ≤ j ∧ j < n)) ↔ _
    rw [e]
    constructor
    · rintro (h | h)
      · exact h.elim
      · exact ⟨h.1, h.2, fun z => z⟩
    · rintro ⟨h0, h1, _⟩
      exact .inr ⟨h0, h1⟩
  | p :: r, h, hp, j => by
    have ih := inS_out (n := n) (s := r) h.2.2 (fun q hq => hp q (List.mem_cons_of_mem _ hq)) j
    obtain ⟨a, b⟩ := low_ge (s := r) h.2.2 fun q hq => (hp q (List.mem_cons_of_mem _ hq)).1
    have hb := b j
    have h0 := hp p List.mem_cons_self
    have h1 : p.1 < p.2 := h.1
    have h2 : lowR r ≤ p.1 := by
      cases r with
      | nil => exact h0.1
      | cons q r =>
        have z := h.2.1 q List.mem_cons_self
        show q.2 ≤ p.1
        omega
    have e1 : inS j (prsR (p :: r)) ↔ (lowR r ≤ j ∧ j < p.1) ∨ inS j (prsR r) := inS_cons
    have e2 : inS j (p :: r) ↔ (p.1 ≤ j ∧ j < p.2) ∨ inS j r := inS_cons
    have e3 : lowR (p :: r) = p.2 := rfl
    rw [e1, e2, e3]
    constructor
    · rintro ((z | z) | z)
      · have q := ih.mp (.inr ⟨z.1, by omega⟩)
        exact ⟨q.1, q.2.1, fun w => by rcases w with w | w; omega; exact q.2.2 w⟩
      · have q := ih.mp (.inl z)
        have := hb (.inr z)
        exact ⟨q.1, q.2.1, fun w => by rcases w with w | w; omega; exact q.2.2 w⟩
      · refine ⟨by omega, z.2, fun w => ?_⟩
        rcases w with w | w
        · omega
        · have := hb (.inl w)
          omega
    · rintro ⟨z0, z1, z2⟩
      have n1 : ¬ (p.1 ≤ j ∧ j < p.2) := fun w => z2 (.inl w)
      have q := ih.mpr ⟨z0, z1, fun w => z2 (.inr w)⟩
      rcases q with q | q
      · exact .inl (.inr q)
      · by_cases c : j < p.1
        · exact .inl (.inl ⟨q.1, c⟩)
        · exact .inr ⟨by omega, z1⟩
theorem ga_not {n : Nat} {a : List Bool} (ha : a.length = n) : gath (outR n (spr (mkO a) n)).reverse = SSp n (a.map (!·)) := by
  refine gath_spr fun j => ?_
  obtain ⟨w, i1, i2⟩ := spr_ok (mkO a) n
  have io := inS_out (n := n) w (fun q hq => ⟨(i2 q hq).2, (i2 q hq).1⟩) j
  have e : inS j (outR n (spr (mkO a) n)) ↔ (inS j (prsR (spr (mkO a) n)) ∨ (lowR (spr (mkO a) n) ≤ j ∧ j < n)) := by
    unfold outR
    split
    · rename_i h
      constructor
      · exact fun z => .inl z
      · rintro (z | z)
        · exact z
        · omega
    · rw [inS_cons]
      constructor
      · rintro (z | z)
        · exact .inr z
        · exact .inl z
      · rintro (z | z)
        · exact .inr z
        · exact .inl z
  rw [inS_rev, e, io, i1]
  show _ ↔ 0 ≤ j ∧ j < n ∧ mkO (a.map (!·)) j = true
  constructor
  · rintro ⟨h0, h1, h2⟩
    refine ⟨h0, h1, ?_⟩
    rw [mkO_map ha h0 h1]
    cases q : mkO a j with
    | false => rfl
    | true => exact absurd ⟨h0, h1, q⟩ h2
  · rintro ⟨h0, h1, h2⟩
    refine ⟨h0, h1, fun z => ?_⟩
    rw [mkO_map ha h0 h1, z.2.2] at h2
    cases h2
theorem prs_v {n : Int} : ∀ {s : List IP}, WFr s → (∀ q ∈ s, 0 ≤ q.1 ∧ q.1 < n) → (∀ q ∈ prsR s, Vp n q) ∧ (prsR s).length = s.length
  | [], _, _ => ⟨fun q hq => (nomatch hq), rfl⟩
  | p :: r, h, hp => by
    obtain ⟨a, b⟩ := prs_v (n := n) (s := r) h.2.2 fun q hq => hp q (List.mem_cons_of_mem _ hq)
    obtain ⟨a1, b1⟩ := low_ge (s := r) h.2.2 fun q hq => (hp q (List.mem_cons_of_mem _ hq)).1
    have h0 := hp p List.mem_cons_self
    have h2 : lowR r ≤ p.1 := by
      cases r with
      | nil => exact h0.1
      | cons q r =>
        have z := h.2.1 q List.mem_cons_self
        show q.2 ≤ p.1
        omega
    refine ⟨fun q hq => ?_, by show (prsR r).length + 1 = r.length + 1; rw [b]⟩
    rcases List.mem_cons.mp (show q ∈ (lowR r, p.1) :: prsR r from hq) with e | e
    · subst e
      exact ⟨a1, by show lowR r < n; omega, by show -10 ≤ p.1; omega, by show p.1 ≤ n; omega⟩
    · exact a q e
theorem out_v {n : Nat} {a : List Bool} : (∀ q ∈ outR n (spr (mkO a) n), Vp n q) ∧ (outR n (spr (mkO a) n)).length ≤ n + 1 := by
  obtain ⟨w, i1, i2⟩ := spr_ok (mkO a) n
  have hv := spr_v (mkO a) (Nat.le_refl n)
  have hl := spr_len (mkO a) n
  obtain ⟨v1, v2⟩ := prs_v (n := n) w fun q hq => ⟨(hv q hq).1, (hv q hq).2.1⟩
  obtain ⟨a1, b1⟩ := low_ge w fun q hq => (hv q hq).1
  have lo : lowR (spr (mkO a) n) ≤ n := by
    cases e : spr (mkO a) n with
    | nil => show (0 : Int) ≤ n; omega
    | cons p r => exact (i2 p (by rw [e]; exact List.mem_cons_self)).1
  unfold outR
  split
  · exact ⟨v1, by omega⟩
  · refine ⟨fun q hq => ?_, by rw [List.length_cons]; omega⟩
    rcases List.mem_cons.mp hq with e | e
    · subst e
      exact ⟨a1, by show lowR _ < (n : Int); omega, by show -10 ≤ (n : Int); omega, by show (n : Int) ≤ n; omega⟩
    · exact v1 q e
/-! ### more rows -/
def kN2 (δ : List Sl) : R (List D) → R (List D × List Sl)
  | .ok ds => if D.flat.flats ds = true then .ok (ds, δ) else .ok (ds, bor δ)
  | .ex C => .ex C
  | .no => .no
theorem e_kNn {ca : CA} {δ : List Sl} : kN ca δ .no = kN2 δ (ca (bor δ)) := by
  unfold kN kN2
  cases ca (bor δ) <;> rfl
theorem e_kN2 {δ : List Sl} {ds : List D} : kN2 δ (.ok ds) = if D.flat.flats ds = true then .ok (ds, δ) else .ok (ds, bor δ) := rfl
theorem e_kN2x {δ : List Sl} {X : PySem.Str} : kN2 δ (.ex X) = .ex X := rfl
theorem e_asgOO {i : Nat} {cs : List CA} {δ : List Sl} : cAsgOO i cs δ = kOO i δ (ooGo cs δ) := rfl
theorem e_oo0 {δ : List Sl} : ooGo [] δ = .ok [] := rfl
theorem e_oo1 {c : CA} {cs : List CA} {δ : List Sl} : ooGo (c :: cs) δ = (c δ).bind fun ds => (ooGo cs δ).bind fun r => .ok (ds :: r) := rfl
theorem e_koo2 {i : Nat} {δ : List Sl} {a b : List D} : kOO i δ (.ok [a, b]) = .nx (δ.set i (.oo [a, b])) := rfl
theorem e_appOO {i k : Nat} {c : C} {δ : List Sl} : cAppOO i k c δ = (match c δ with
  | .ok d => kAppOO i k δ d δ[i]?
  | _ => .no) := rfl
theorem e_kapO0 {i : Nat} {δ : List Sl} {d : D} {a b : List D} : kAppOO i 0 δ d (some (.oo [a, b])) = if a.length < sizeLine then .nx (δ.set i (.oo [a ++ [d], b])) else .no := rfl
theorem e_clrOO {i k : Nat} {δ : List Sl} : cClrOO i k δ = kClrOO i k δ δ[i]? := rfl
theorem e_kclO1 {i : Nat} {δ : List Sl} {a b : List D} : kClrOO i 1 δ (some (.oo [a, b])) = .nx (δ.set i (.oo [a, []])) := rfl
theorem e_setIN {i : Nat} {ck : C} {ca : CA} {δ : List Sl} : cSetIN i ck ca δ = fA (evAN ca δ) δ fun d δ1 => kSetJ i ck d δ1 := rfl
def kAN : R (List D × List Sl) → R (D × List Sl)
  | .ok (ds, δ') => .ok (.lst ds, δ')
  | .ex C => .ex C
  | .no => .no
theorem e_evAN {ca : CA} {δ : List Sl} : evAN ca δ = kAN (evN ca δ) := by
  unfold evAN kAN
  cases evN ca δ <;> rfl
theorem e_kAN {ds : List D} {δ : List Sl} : kAN (.ok (ds, δ)) = .ok (.lst ds, δ) := rfl
theorem e_kANite {p : Prop} [Decidable p] {u v : R (List D × List Sl)} : kAN (if p then u else v) = if p then kAN u else kAN v := by split <;> rfl
theorem e_kixoo {c : C} {δ : List Sl} {dss : List (List D)} : kIxV c δ (some (.oo dss)) = .no := rfl
theorem e_borOO2 {a b : List D} : borS (.oo [a, b]) = .pu (.lst [.lst a, .lst b]) := rfl
theorem e_setK0 {a : Nat} {d u v : D} {δ : List Sl} : kSetK a d δ 0 (some (.ow [u, v])) = .nx (δ.set a (.ow [d, v])) := rfl
theorem e_setK1 {a : Nat} {d u v : D} {δ : List Sl} : kSetK a d δ 1 (some (.ow [u, v])) = .nx (δ.set a (.ow [u, d])) := rfl
section
variable {n : Nat} {nu de : Int → Int}
theorem m_nd (hg : Gk n nu de) {s : List IP} (hv : ∀ q ∈ s, Vp n q) (hl : s.length ≤ 1000) (ha : ascB none s = true) : m_need_spans [.lst (s.map (enP n nu de))] = .ok .non := by
  have h := m_isp hg hv hl
  rw [ha] at h
  unfold m_need_spans c_need_spans
  generalize s.map (enP n nu de) = L at *
  simp_arith [h]
theorem m_un (hg : Gk n nu de) {s t : List IP} (hv : ∀ q ∈ s, Vp n q) (hv2 : ∀ q ∈ t, Vp n q) (hl : s.length ≤ 1000) (hl2 : t.length ≤ 1000) (ha : ascB none s = true) (ha2 : ascB none t = true) :
    m_united [.lst (s.map (enP n nu de)), .lst (t.map (enP n nu de))] = .okl ((gath (s ++ t)).map (enP n nu de)) := by
  have h1 := m_nd hg hv hl ha
  have h2 := m_nd hg hv2 hl2 ha2
  have h3 := m_ga hg (ps := s ++ t) (fun p hp => by
    rcases List.mem_append.mp hp with m | m
    · exact hv p m
    · exact hv2 p m) (by rw [List.length_append]; omega)
  rw [List.map_append] at h3
  have hz : (s.map (enP n nu de)).length + (t.map (enP n nu de)).length ≤ sizeLine := Nat.le_of_lt (szl (by rw [List.length_map, List.length_map]; omega))
  unfold m_united c_united
  generalize s.map (enP n nu de) = L at *
  generalize t.map (enP n nu de) = L2 at *
  simp_arith [h1, h2, h3, hz]
theorem cm_in (hg : Gk n nu de) {p : IP} (hp : Vp n p) {O T : D} : ∀ (t : List IP) (acc : List D) (s5 s6 : Sl), (∀ q ∈ t, Vp n q) → acc.length + t.length ≤ 5000 →
    ∃ t5 t6, forGo (tTupT 2 (tCons' (tName 5) (tCons' (tName 6) tNil'))) c_common_b1 (t.map (enP n nu de)) [.pu O, .pu T, .ow acc, .pu (en nu de p.1), .pu (enE n nu de p.2), s5, s6] = .nx [.pu O, .pu T, .ow (acc ++ (cr1 p t).map (enP n nu de)), .pu (en nu de p.1), .pu (enE n nu de p.2), t5, t6]
  | [], acc, s5, s6, _, _ => ⟨s5, s6, by
    show Fl.nx _ = _
    unfold cr1
    rw [List.map_nil, List.map_nil, List.append_nil]⟩
  | q :: t, acc, s5, s6, hv, hl => by
    have hq := hv q List.mem_cons_self
    rw [List.length_cons] at hl
    obtain ⟨t5, t6, ih⟩ := cm_in hg hp (O := O) (T := T) t (acc ++ [enP n nu de (max p.1 q.1, min p.2 q.2)]) (.pu (en nu de q.1)) (.pu (enE n nu de q.2)) (fun x hx => hv x (List.mem_cons_of_mem _ hx)) (by rw [List.length_append, List.length_singleton]; omega)
    refine ⟨t5, t6, ?_⟩
    have h1 := g_gr hg (i := p.1) (j := q.1) ⟨by have := hp.1; omega, hp.2.1⟩ ⟨by have := hq.1; omega, hq.2.1⟩
    have h2 := g_lo hg (i := p.2) (j := q.2) hp.2.2 hq.2.2
    have hz : acc.length < sizeLine := szl (by omega)
    have st : c_common_b1 [.pu O, .pu T, .ow acc, .pu (en nu de p.1), .pu (enE n nu de p.2), .pu (en nu de q.1), .pu (enE n nu de q.2)] = .nx [.pu O, .pu T, .ow (acc ++ [enP n nu de (max p.1 q.1, min p.2 q.2)]), .pu (en nu de p.1), .pu (enE n nu de p.2), .pu (en nu de q.1), .pu (enE n nu de q.2)] := by
      unfold c_common_b1
      show _ = Fl.nx [_, _, .ow (acc ++ [.tup [en nu de (max p.1 q.1), enE n nu de (min p.2 q.2)]]), _, _, _, _]
      generalize en nu de p.1 = A at *
      generalize en nu de q.1 = B at *
      generalize enE n nu de p.2 = A2 at *
      generalize enE n nu de q.2 = B2 at *
      simp_arith [h1, h2, hz]
    have e6 : tTupT 2 (tCons' (tName 5) (tCons' (tName 6) tNil')) (enP n nu de q) [.pu O, .pu T, .ow acc, .pu (en nu de p.1), .pu (enE n nu de p.2), s5, s6] = some [.pu O, .pu T, .ow acc, .pu (en nu de p.1), .pu (enE n nu de p.2), .pu (en nu de q.1), .pu (enE n nu de q.2)] := rfl
    rw [List.map_cons, e_go, e6, e_kgo, st, e_lnx, ih]
    have e7 : (cr1 p (q :: t)).map (enP n nu de) = enP n nu de (max p.1 q.1, min p.2 q.2) :: (cr1 p t).map (enP n nu de) := rfl
    rw [e7, List.append_assoc]
    rfl
theorem cm_out (hg : Gk n nu de) {O : D} {t : List IP} (hv2 : ∀ q ∈ t, Vp n q) (hl2 : t.length ≤ 50) : ∀ (s : List IP) (acc : List D) (s3 s4 s5 s6 : Sl), (∀ q ∈ s, Vp n q) → acc.length + s.length * 50 ≤ 4000 →
    ∃ t3 t4 t5 t6, forGo (tTupT 2 (tCons' (tName 3) (tCons' (tName 4) tNil'))) c_common_b2 (s.map (enP n nu de)) [.pu O, .pu (.lst (t.map (enP n nu de))), .ow acc, s3, s4, s5, s6] = .nx [.pu O, .pu (.lst (t.map (enP n nu de))), .ow (acc ++ (crA s t).map (enP n nu de)), t3, t4, t5, t6]
  | [], acc, s3, s4, s5, s6, _, _ => ⟨s3, s4, s5, s6, by
    show Fl.nx _ = _
    unfold crA
    rw [List.flatMap_nil, List.map_nil, List.append_nil]⟩
  | p :: s, acc, s3, s4, s5, s6, hv, hl => by
    have hp := hv p List.mem_cons_self
    rw [List.length_cons, Nat.succ_mul] at hl
    obtain ⟨u5, u6, hin⟩ := cm_in hg hp (O := O) (T := .lst (t.map (enP n nu de))) t acc s5 s6 hv2 (by omega)
    have hc : (cr1 p t).length = t.length := by unfold cr1; rw [List.length_map]
    obtain ⟨t3, t4, t5, t6, ih⟩ := cm_out hg (O := O) hv2 hl2 s (acc ++ (cr1 p t).map (enP n nu de)) (.pu (en nu de p.1)) (.pu (enE n nu de p.2)) u5 u6 (fun x hx => hv x (List.mem_cons_of_mem _ hx)) (by rw [List.length_append, List.length_map, hc]; omega)
    refine ⟨t3, t4, t5, t6, ?_⟩
    have st : c_common_b2 [.pu O, .pu (.lst (t.map (enP n nu de))), .ow acc, .pu (en nu de p.1), .pu (enE n nu de p.2), s5, s6] = .nx [.pu O, .pu (.lst (t.map (enP n nu de))), .ow (acc ++ (cr1 p t).map (enP n nu de)), .pu (en nu de p.1), .pu (enE n nu de p.2), u5, u6] := by
      unfold c_common_b2
      generalize t.map (enP n nu de) = L at *
      generalize (cr1 p t).map (enP n nu de) = L2 at *
      generalize en nu de p.1 = A at *
      generalize enE n nu de p.2 = A2 at *
      simp_arith [hin]
    have e6 : tTupT 2 (tCons' (tName 3) (tCons' (tName 4) tNil')) (enP n nu de p) [.pu O, .pu (.lst (t.map (enP n nu de))), .ow acc, s3, s4, s5, s6] = some [.pu O, .pu (.lst (t.map (enP n nu de))), .ow acc, .pu (en nu de p.1), .pu (enE n nu de p.2), s5, s6] := rfl
    rw [List.map_cons, e_go, e6, e_kgo, st, e_lnx, ih]
    have e7 : (crA (p :: s) t).map (enP n nu de) = (cr1 p t).map (enP n nu de) ++ (crA s t).map (enP n nu de) := by
      unfold crA
      rw [List.flatMap_cons, List.map_append]
    rw [e7, List.append_assoc]
theorem m_cm (hg : Gk n nu de) {s t : List IP} (hv : ∀ q ∈ s, Vp n q) (hv2 : ∀ q ∈ t, Vp n q) (hl : s.length ≤ 50) (hl2 : t.length ≤ 50) (ha : ascB none s = true) (ha2 : ascB none t = true) :
    m_common [.lst (s.map (enP n nu de)), .lst (t.map (enP n nu de))] = .okl ((gath (crA s t)).map (enP n nu de)) := by
  have h1 := m_nd hg hv (by omega) ha
  have h2 := m_nd hg hv2 (by omega) ha2
  obtain ⟨t3, t4, t5, t6, h4⟩ := cm_out hg (O := .lst (s.map (enP n nu de))) hv2 hl2 s [] .un .un .un .un hv (by simp; omega)
  have h3 := m_ga hg (ps := crA s t) (crA_v hv hv2) (by rw [crA_len]; exact Nat.le_trans (Nat.mul_le_mul hl hl2) (by decide))
  rw [List.nil_append] at h4
  unfold m_common c_common
  generalize (crA s t).map (enP n nu de) = LC at *
  generalize s.map (enP n nu de) = L at *
  generalize t.map (enP n nu de) = L2 at *
  generalize (gath (crA s t)).map (enP n nu de) = GA at *
  simp_arith [h1, h2, h4, h3, e_kNn, e_kN2]
def fPr : Int → List IP → List IP
  | _, [] => []
  | lo, p :: r => (lo, p.1) :: fPr p.2 r
def fLo : Int → List IP → Int
  | lo, [] => lo
  | _, p :: r => fLo p.2 r
theorem f_app : ∀ (l : List IP) (lo : Int) (p : IP), fPr lo (l ++ [p]) = fPr lo l ++ [(fLo lo l, p.1)] ∧ fLo lo (l ++ [p]) = p.2
  | [], lo, p => ⟨rfl, rfl⟩
  | q :: l, lo, p => by
    obtain ⟨a, b⟩ := f_app l q.2 p
    exact ⟨by show (lo, q.1) :: fPr q.2 (l ++ [p]) = _; rw [a]; rfl, b⟩
theorem f_rev : ∀ s : List IP, fPr 0 s.reverse = (prsR s).reverse ∧ fLo 0 s.reverse = lowR s
  | [] => ⟨rfl, rfl⟩
  | p :: r => by
    obtain ⟨a, b⟩ := f_rev r
    obtain ⟨c, d⟩ := f_app r.reverse 0 p
    rw [List.reverse_cons, c, d, a, b]
    exact ⟨by show _ = ((lowR r, p.1) :: prsR r).reverse; rw [List.reverse_cons], rfl⟩
def OkF (n : Int) : Int → List IP → Prop
  | _, [] => True
  | lo, p :: r => (-10 ≤ lo ∧ lo < n) ∧ Vp n p ∧ OkF n p.2 r
theorem okF_of {n : Int} : ∀ (l : List IP) (lo : Int), -10 ≤ lo → (∀ p ∈ l, lo ≤ p.1) → (∀ p ∈ l, Vp n p) → l.Pairwise (fun a b => a.2 < b.1) → OkF n lo l
  | [], _, _, _, _, _ => trivial
  | p :: r, lo, h0, h1, h2, h3 => by
    have a := h1 p List.mem_cons_self
    have b := h2 p List.mem_cons_self
    obtain ⟨c, d⟩ := List.pairwise_cons.mp h3
    exact ⟨⟨h0, by have := b.2.1; omega⟩, b, okF_of r p.2 b.2.2.1 (fun q hq => by have := c q hq; omega) (fun q hq => h2 q (List.mem_cons_of_mem _ hq)) d⟩
theorem out_go {O : D} : ∀ (l : List IP) (lo : Int) (acc : List D) (s3 : Sl), OkF n lo l → acc.length + l.length ≤ 4000 →
    ∃ t3, forGo (tName 3) c_outside_b1 (l.map (enP n nu de)) [.pu O, .ow acc, .pu (enE n nu de lo), s3] = .nx [.pu O, .ow (acc ++ (fPr lo l).map (enP n nu de)), .pu (enE n nu de (fLo lo l)), t3]
  | [], lo, acc, s3, _, _ => ⟨s3, by
    show Fl.nx _ = _
    show _ = Fl.nx [_, .ow (acc ++ []), _, _]
    rw [List.append_nil]
    rfl⟩
  | p :: r, lo, acc, s3, ho, hl => by
    rw [List.length_cons] at hl
    obtain ⟨h1, h2, h3⟩ := ho
    obtain ⟨t3, ih⟩ := out_go (O := O) r p.2 (acc ++ [enP n nu de (lo, p.1)]) (.pu (enP n nu de p)) h3 (by rw [List.length_append, List.length_singleton]; omega)
    refine ⟨t3, ?_⟩
    have hz : acc.length < sizeLine := szl (by omega)
    have e1 : enE n nu de lo = en nu de lo := enE_ne (by omega)
    have e2 : enE n nu de p.1 = en nu de p.1 := enE_ne (by have := h2.2.1; omega)
    have st : c_outside_b1 [.pu O, .ow acc, .pu (enE n nu de lo), .pu (enP n nu de p)] = .nx [.pu O, .ow (acc ++ [enP n nu de (lo, p.1)]), .pu (enE n nu de p.2), .pu (enP n nu de p)] := by
      unfold c_outside_b1 enP
      show _ = Fl.nx [_, .ow (acc ++ [.tup [en nu de lo, enE n nu de p.1]]), _, _]
      rw [e1, e2]
      generalize en nu de p.1 = A at *
      generalize en nu de lo = B at *
      generalize enE n nu de p.2 = A2 at *
      simp_arith [hz]
    have e6 : tName 3 (enP n nu de p) [.pu O, .ow acc, .pu (enE n nu de lo), s3] = some [.pu O, .ow acc, .pu (enE n nu de lo), .pu (enP n nu de p)] := rfl
    rw [List.map_cons, e_go, e6, e_kgo, st, e_lnx, ih]
    have e7 : (fPr lo (p :: r)).map (enP n nu de) = enP n nu de (lo, p.1) :: (fPr p.2 r).map (enP n nu de) := rfl
    have e8 : fLo lo (p :: r) = fLo p.2 r := rfl
    rw [e7, e8, List.append_assoc]
    rfl
theorem m_ou (hg : Gk n nu de) (h0 : nu 0 = 0 ∧ de 0 = 1) (hn0 : 0 < n) (hn : n ≤ 50) {a : List Bool} :
    m_outside [.lst ((SSp n a).map (enP n nu de))] = .okl ((gath (outR n (spr (mkO a) n)).reverse).map (enP n nu de)) := by
  have hv : ∀ q ∈ SSp n a, Vp n q := SSp_v
  have hl : (SSp n a).length ≤ n := SSp_len
  have ha : ascB none (SSp n a) = true := asc_spr (mkO a) n
  have h1 := m_nd hg hv (by omega) ha
  obtain ⟨_, _, hpw⟩ := asc_pw (SSp n a) none ha
  have hf := okF_of (n := n) (SSp n a) 0 (by omega) (fun p hp => (hv p hp).1) hv hpw
  obtain ⟨t3, h2⟩ := out_go (nu := nu) (de := de) (O := .lst ((SSp n a).map (enP n nu de))) (SSp n a) 0 [] .un hf (by simp; omega)
  have fr := f_rev (spr (mkO a) n)
  have e0 : enE n nu de 0 = .tup [.int 0, .int 1] := by
    rw [enE_ne (by omega)]
    unfold en P2
    rw [h0.1, h0.2]
  have ov := out_v (n := n) (a := a)
  have h3 := m_ga hg (ps := (outR n (spr (mkO a) n)).reverse) (fun p hp => ov.1 p (List.mem_reverse.mp hp)) (by rw [List.length_reverse]; have := ov.2; omega)
  have ef : fPr 0 (SSp n a) = (prsR (spr (mkO a) n)).reverse := fr.1
  have el : fLo 0 (SSp n a) = lowR (spr (mkO a) n) := fr.2
  rw [List.nil_append, ef, el, e0] at h2
  have hisn := enE_isN (N := n) (nu := nu) (de := de) (i := lowR (spr (mkO a) n))
  have hz : ((prsR (spr (mkO a) n)).reverse.map (enP n nu de)).length < sizeLine := szl (by
    rw [List.length_map, List.length_reverse]
    have := ov.2
    unfold outR at this
    split at this
    · omega
    · rw [List.length_cons] at this; omega)
  unfold outR at h3 ⊢
  by_cases c : lowR (spr (mkO a) n) = (n : Int)
  · rw [if_pos c] at h3 ⊢
    rw [decide_eq_true c] at hisn
    unfold m_outside c_outside
    generalize (SSp n a).map (enP n nu de) = L at *
    generalize (prsR (spr (mkO a) n)).reverse.map (enP n nu de) = PP at *
    generalize enE n nu de (lowR (spr (mkO a) n)) = LL at *
    generalize (gath (prsR (spr (mkO a) n)).reverse).map (enP n nu de) = GA at *
    simp_arith [h1, h2, h3, hisn, e_kNn, e_kN2]
  · rw [if_neg c] at h3 ⊢
    rw [decide_eq_false c] at hisn
    have e9 : ((lowR (spr (mkO a) n), (n : Int)) :: prsR (spr (mkO a) n)).reverse.map (enP n nu de) = (prsR (spr (mkO a) n)).reverse.map (enP n nu de) ++ [.tup [enE n nu de (lowR (spr (mkO a) n)), .non]] := by
      rw [List.reverse_cons, List.map_append, List.map_cons, List.map_nil, enE_ne c]
      unfold enP
      rw [enE_N]
    rw [e9] at h3
    unfold m_outside c_outside
    generalize (SSp n a).map (enP n nu de) = L at *
    generalize (gath ((lowR (spr (mkO a) n), (n : Int)) :: prsR (spr (mkO a) n)).reverse).map (enP n nu de) = GA at *
    generalize (prsR (spr (mkO a) n)).reverse.map (enP n nu de) = PP at *
    generalize enE n nu de (lowR (spr (mkO a) n)) = LL at *
    simp_arith [h1, h2, h3, hisn, hz, e_kNn, e_kN2]
end
theorem good_nl {l : List IP} {N : Int} {nu de : Int → Int} : (D.lst (l.map (enP N nu de))).good 20 = true := good_map
section
variable {n : Nat} {nu de : Int → Int}
theorem eqL_map {α : Type} [DecidableEq α] {f : α → D} : ∀ (l m : List α), (∀ a ∈ l, ∀ b ∈ m, PyData.eqv (f a).toPy (f b).toPy = decide (a = b)) → PyData.eqvAll (D.toPys (l.map f)) (D.toPys (m.map f)) = decide (l = m)
  | [], [], _ => by simp [D.toPys, PyData.eqvAll]
  | [], b :: m, _ => by simp [D.toPys, PyData.eqvAll]
  | a :: l, [], _ => by simp [D.toPys, PyData.eqvAll]
  | a :: l, b :: m, h => by
    have h1 := h a List.mem_cons_self b List.mem_cons_self
    have h2 := eqL_map l m fun x hx y hy => h x (List.mem_cons_of_mem _ hx) y (List.mem_cons_of_mem _ hy)
    rw [List.map_cons, List.map_cons]
    show PyData.eqvAll ((f a).toPy :: D.toPys (l.map f)) ((f b).toPy :: D.toPys (m.map f)) = _
    unfold PyData.eqvAll
    rw [h1, h2]
    by_cases c1 : a = b <;> by_cases c2 : l = m <;> simp [c1, c2]
theorem eqv_en (hg : Gk n nu de) {i j : Int} (hi : -10 ≤ i ∧ i < n) (hj : -10 ≤ j ∧ j < n) : PyData.eqv (en nu de i).toPy (en nu de j).toPy = decide (i = j) := by
  have h := eqE hg (i := i) (j := j) ⟨hi.1, by omega⟩ hj
  rw [enE_ne (by omega), e_eqG (.inl rfl) good_en good_en] at h
  injection h with h
  injection h
theorem eqv_enE (hg : Gk n nu de) {i j : Int} (hi : -10 ≤ i ∧ i ≤ n) (hj : -10 ≤ j ∧ j ≤ n) : PyData.eqv (enE n nu de i).toPy (enE n nu de j).toPy = decide (i = j) := by
  by_cases c : i = n
  · by_cases c2 : j = n
    · rw [c, c2, enE_N, decide_eq_true rfl]
      rfl
    · rw [c, enE_N, enE_ne c2, decide_eq_false (by omega)]
      rfl
  · by_cases c2 : j = n
    · rw [c2, enE_N, enE_ne c, decide_eq_false (by omega)]
      rfl
    · rw [enE_ne c, enE_ne c2]
      exact eqv_en hg ⟨hi.1, by omega⟩ ⟨hj.1, by omega⟩
theorem eqv_enP (hg : Gk n nu de) {p q : IP} (hp : Vp n p) (hq : Vp n q) : PyData.eqv (enP n nu de p).toPy (enP n nu de q).toPy = decide (p = q) := by
  have h1 := eqv_en hg (i := p.1) (j := q.1) ⟨by have := hp.1; omega, hp.2.1⟩ ⟨by have := hq.1; omega, hq.2.1⟩
  have h2 := eqv_enE hg (i := p.2) (j := q.2) hp.2.2 hq.2.2
  have e : PyData.eqv (enP n nu de p).toPy (enP n nu de q).toPy = (PyData.eqv (en nu de p.1).toPy (en nu de q.1).toPy && (PyData.eqv (enE n nu de p.2).toPy (enE n nu de q.2).toPy && true)) := by
    unfold enP
    simp only [D.toPy, D.toPys, PyData.eqv, PyData.eqvAll]
  rw [e, h1, h2]
  obtain ⟨a, b⟩ := p
  obtain ⟨c, d⟩ := q
  by_cases c1 : a = c <;> by_cases c2 : b = d <;> simp [c1, c2]
theorem SSp_inj {a b : List Bool} (ha : a.length = n) (hb : b.length = n) : SSp n a = SSp n b ↔ a = b := by
  constructor
  · intro h
    apply List.ext_getElem (by omega)
    intro k h1 h2
    have e : ∀ j, inS j (SSp n a) ↔ inS j (SSp n b) := fun j => by rw [h]
    have e2 := e (k : Int)
    rw [inS_SSp, inS_SSp, mkO_get h1, mkO_get h2] at e2
    have k0 : (0 : Int) ≤ k := by omega
    have k1 : (k : Int) < n := by omega
    cases x : a[k] <;> cases y : b[k]
    · rfl
    · rw [x, y] at e2
      exact absurd (e2.mpr ⟨k0, k1, rfl⟩).2.2 (by decide)
    · rw [x, y] at e2
      exact absurd (e2.mp ⟨k0, k1, rfl⟩).2.2 (by decide)
    · rfl
  · intro h
    rw [h]
theorem eq_sets (hg : Gk n nu de) {a b : List Bool} (ha : a.length = n) (hb : b.length = n) : dEq (.lst ((SSp n a).map (enP n nu de))) (.lst ((SSp n b).map (enP n nu de))) = .ok (.bl (decide (a = b))) := by
  rw [e_eqG (.inl rfl) good_nl good_nl]
  have e : PyData.eqv (D.lst ((SSp n a).map (enP n nu de))).toPy (D.lst ((SSp n b).map (enP n nu de))).toPy = PyData.eqvAll (D.toPys ((SSp n a).map (enP n nu de))) (D.toPys ((SSp n b).map (enP n nu de))) := by
    simp only [D.toPy, PyData.eqv]
  rw [e, eqL_map _ _ fun p hp q hq => eqv_enP hg (SSp_v p hp) (SSp_v q hq)]
  congr 2
  exact decide_eq_decide.mpr (SSp_inj ha hb)
theorem good_bls {l : List Bool} {m : Nat} : (D.lst (l.map D.bl)).good (m + 2) = true := by
  show (l.map D.bl).all (D.good (m + 1)) = true
  rw [List.all_map, List.all_eq_true]
  intro x _
  rfl
theorem eq_mks {a b : List Bool} : dEq (.lst (a.map D.bl)) (.lst (b.map D.bl)) = .ok (.bl (decide (a = b))) := by
  rw [e_eqG (.inl rfl) good_bls good_bls]
  have e : PyData.eqv (D.lst (a.map D.bl)).toPy (D.lst (b.map D.bl)).toPy = PyData.eqvAll (D.toPys (a.map D.bl)) (D.toPys (b.map D.bl)) := by
    simp only [D.toPy, PyData.eqv]
  rw [e, eqL_map _ _ fun x _ y _ => ?_]
  cases x <;> cases y <;> rfl
/-! what is due, what is done -/
theorem zip_bl {g : D → D} {f : Bool → Bool → Bool} (hf : ∀ x y, g (.tup [.bl x, .bl y]) = .bl (f x y)) : ∀ (a b : List Bool), (zipD (a.map D.bl) (b.map D.bl)).map g = (List.zipWith f a b).map D.bl
  | [], _ => by simp [zipD]
  | _ :: _, [] => by simp [zipD]
  | x :: a, y :: b => by
    show g (.tup [.bl x, .bl y]) :: (zipD (a.map D.bl) (b.map D.bl)).map g = _
    rw [zip_bl hf a b, hf]
    rfl
theorem zip_mem : ∀ {a b : List Bool} {d : D}, d ∈ zipD (a.map D.bl) (b.map D.bl) → ∃ x y, d = .tup [.bl x, .bl y]
  | [], _, _, h => by simp [zipD] at h
  | _ :: _, [], _, h => by simp [zipD] at h
  | x :: a, y :: b, d, h => by
    rcases List.mem_cons.mp (show d ∈ .tup [.bl x, .bl y] :: zipD (a.map D.bl) (b.map D.bl) from h) with e | e
    · exact ⟨x, y, e⟩
    · exact zip_mem e
theorem zip_len : ∀ (a b : List Bool), (zipD (a.map D.bl) (b.map D.bl)).length ≤ a.length
  | [], _ => by simp [zipD]
  | _ :: _, [] => by simp [zipD]
  | x :: a, y :: b => by
    show (zipD (a.map D.bl) (b.map D.bl)).length + 1 ≤ a.length + 1
    exact Nat.succ_le_succ (zip_len a b)
def b2f (f : Bool → Bool → Bool) : D → D
  | .tup [.bl x, .bl y] => .bl (f x y)
  | d => d
def b1f (f : Bool → Bool) : D → D
  | .bl x => .bl (f x)
  | d => d
theorem lc_zip {ce : C} {f : Bool → Bool → Bool} {a b : List Bool} (hl : a.length ≤ 1000) {s0 s1 s2 : Sl} (h : ∀ x y, ce [s0, s1, s2, .pu (.bl x), .pu (.bl y)] = .ok (.bl (f x y))) : lcGo (tTupT 2 (tCons' (tName 3) (tCons' (tName 4) tNil'))) cTrue ce [s0, s1, s2, .un, .un] (zipD (a.map D.bl) (b.map D.bl)) [] = .ok ((List.zipWith f a b).map D.bl) := by
  have zl := zip_len a b
  rw [lc_map (f := b2f f) _ [] ?_ (szl (by simp; omega)), List.nil_append, zip_bl (fun _ _ => rfl)]
  intro d hd
  obtain ⟨x, y, rfl⟩ := zip_mem hd
  exact ⟨_, rfl, h x y⟩
theorem lc_not {ce : C} {f : Bool → Bool} {a : List Bool} (hl : a.length ≤ 1000) {s0 s1 s2 s4 : Sl} (h : ∀ x, ce [s0, s1, s2, .pu (.bl x), s4] = .ok (.bl (f x))) : lcGo (tName 3) cTrue ce [s0, s1, s2, .un, s4] (a.map D.bl) [] = .ok ((a.map f).map D.bl) := by
  rw [lc_map (f := b1f f) _ [] ?_ (szl (by simp; omega)), List.nil_append, List.map_map, List.map_map]
  · rfl
  · intro d hd
    obtain ⟨x, _, rfl⟩ := List.mem_map.mp hd
    exact ⟨_, rfl, h x⟩
theorem e_zip {ds es : List D} : dZip [.lst ds, .lst es] = .ok (zipD ds es) := rfl
theorem SSp_asc {a : List Bool} : ascB none (SSp n a) = true := asc_spr (mkO a) n
theorem both (hg : Gk n nu de) (h0 : nu 0 = 0 ∧ de 0 = 1) (hn0 : 0 < n) (hn : n ≤ 15) {a b : List Bool} (ha : a.length = n) (hb : b.length = n) {w : Int} (hw : w = 0 ∨ w = 1 ∨ w = 2 ∨ w = 3) :
    ∃ c : List Bool, c.length = n ∧ m_law_done [.int w, .lst ((SSp n a).map (enP n nu de)), .lst ((SSp n b).map (enP n nu de))] = .okl ((SSp n c).map (enP n nu de)) ∧ m_law_marked [.int w, .lst (a.map D.bl), .lst (b.map D.bl)] = .okl (c.map D.bl) := by
  have la : (SSp n a).length ≤ n := SSp_len
  have lb : (SSp n b).length ≤ n := SSp_len
  rcases hw with rfl | rfl | rfl | rfl
  · refine ⟨List.zipWith (· || ·) a b, by rw [List.length_zipWith]; omega, ?_, ?_⟩
    · have h := m_un hg (s := SSp n a) (t := SSp n b) SSp_v SSp_v (by omega) (by omega) SSp_asc SSp_asc
      rw [ga_or ha hb] at h
      unfold m_law_done c_law_done
      generalize (SSp n a).map (enP n nu de) = A at *
      generalize (SSp n b).map (enP n nu de) = B at *
      generalize (SSp n (List.zipWith (· || ·) a b)).map (enP n nu de) = CC at *
      simp_arith [h]
    · have h := fun s0 s1 s2 => lc_zip (f := (· || ·)) (a := a) (b := b) (ce := c_law_marked_e1) (s0 := s0) (s1 := s1) (s2 := s2) (by omega) fun x y => by cases x <;> cases y <;> rfl
      unfold m_law_marked c_law_marked
      generalize (List.zipWith (· || ·) a b).map D.bl = CC at *
      generalize a.map D.bl = A at *
      generalize b.map D.bl = B at *
      simp_arith [h, e_zip]
  · refine ⟨List.zipWith (· && ·) a b, by rw [List.length_zipWith]; omega, ?_, ?_⟩
    · have h := m_cm hg (s := SSp n a) (t := SSp n b) SSp_v SSp_v (by omega) (by omega) SSp_asc SSp_asc
      rw [ga_and ha hb] at h
      unfold m_law_done c_law_done
      generalize (SSp n a).map (enP n nu de) = A at *
      generalize (SSp n b).map (enP n nu de) = B at *
      generalize (SSp n (List.zipWith (· && ·) a b)).map (enP n nu de) = CC at *
      simp_arith [h]
    · have h := fun s0 s1 s2 => lc_zip (f := (· && ·)) (a := a) (b := b) (ce := c_law_marked_e2) (s0 := s0) (s1 := s1) (s2 := s2) (by omega) fun x y => by cases x <;> cases y <;> rfl
      unfold m_law_marked c_law_marked
      generalize (List.zipWith (· && ·) a b).map D.bl = CC at *
      generalize a.map D.bl = A at *
      generalize b.map D.bl = B at *
      simp_arith [h, e_zip]
  · have hb' : (b.map (!·)).length = n := by rw [List.length_map]; exact hb
    have lb' : (SSp n (b.map (!·))).length ≤ n := SSp_len
    refine ⟨List.zipWith (fun x y => x && !y) a b, by rw [List.length_zipWith]; omega, ?_, ?_⟩
    · have ho := m_ou hg h0 hn0 (by omega) (a := b)
      rw [ga_not hb] at ho
      have h := m_cm hg (s := SSp n a) (t := SSp n (b.map (!·))) SSp_v SSp_v (by omega) (by omega) SSp_asc SSp_asc
      rw [ga_and ha hb', List.zipWith_map_right] at h
      unfold m_law_done c_law_done
      generalize (SSp n a).map (enP n nu de) = A at *
      generalize (SSp n b).map (enP n nu de) = B at *
      generalize (SSp n (b.map (!·))).map (enP n nu de) = B' at *
      generalize (SSp n (List.zipWith (fun x y => x && !y) a b)).map (enP n nu de) = CC at *
      simp_arith [ho, h]
    · have h := fun s0 s1 s2 => lc_zip (f := fun x y => x && !y) (a := a) (b := b) (ce := c_law_marked_e3) (s0 := s0) (s1 := s1) (s2 := s2) (by omega) fun x y => by cases x <;> cases y <;> rfl
      unfold m_law_marked c_law_marked
      generalize (List.zipWith (fun x y => x && !y) a b).map D.bl = CC at *
      generalize a.map D.bl = A at *
      generalize b.map D.bl = B at *
      simp_arith [h, e_zip]
  · refine ⟨a.map (!·), by rw [List.length_map]; exact ha, ?_, ?_⟩
    · have ho := m_ou hg h0 hn0 (by omega) (a := a)
      rw [ga_not ha] at ho
      unfold m_law_done c_law_done
      generalize (SSp n a).map (enP n nu de) = A at *
      generalize (SSp n b).map (enP n nu de) = B at *
      generalize (SSp n (a.map (!·))).map (enP n nu de) = CC at *
      simp_arith [ho]
    · have h := fun s0 s1 s2 s4 => lc_not (f := (!·)) (a := a) (ce := (cUn dNotV (cVar 3))) (s0 := s0) (s1 := s1) (s2 := s2) (s4 := s4) (by omega) fun x => by cases x <;> rfl
      unfold m_law_marked c_law_marked
      generalize (a.map (!·)).map D.bl = CC at *
      generalize a.map D.bl = A at *
      generalize b.map D.bl = B at *
      simp_arith [h]
end
section
variable {n : Nat} {nu de : Int → Int}
theorem flat_en {i : Int} : (en nu de i).flat = true := rfl
theorem flat_enE {N i : Int} : (enE N nu de i).flat = true := by
  unfold enE
  split <;> rfl
theorem flat_map {N : Int} : ∀ l : List IP, D.flat.flats (l.map (enP N nu de)) = true
  | [] => rfl
  | p :: l => by
    show ((enP N nu de p).flat && D.flat.flats (l.map (enP N nu de))) = true
    rw [flat_map l, Bool.and_true]
    show ((en nu de p.1).flat && ((enE N nu de p.2).flat && true)) = true
    rw [flat_enE]
    rfl
theorem good_two {a b : List IP} {N : Int} : (D.lst [.lst (a.map (enP N nu de)), .lst (b.map (enP N nu de))]).good 20 = true := by
  show ((D.lst (a.map (enP N nu de))).good 19 && ((D.lst (b.map (enP N nu de))).good 19 && true)) = true
  have h : ∀ l : List IP, (D.lst (l.map (enP N nu de))).good 19 = true := fun l => good_map (n := 15)
  rw [h, h]
  rfl
theorem x5_step (hg : Gk n nu de) (h0 : nu 0 = 0 ∧ de 0 = 1) (hn0 : 0 < n) (hn : n ≤ 15) {a b : List Bool} (ha : a.length = n) (hb : b.length = n) (x : Int) (S X : D) (s6 s7 s8 s9 s10 s11 : Sl) :
    ∃ (a' b' : List Bool) (t6 t7 t8 t9 t10 t11 : Sl), a'.length = n ∧ b'.length = n ∧
      c_law_b1 [.pu S, .pu X, .pu (.lst (gl nu de n)), .ow [.lst (a.map D.bl), .lst (b.map D.bl)], .ow [.lst ((SSp n a).map (enP n nu de)), .lst ((SSp n b).map (enP n nu de))], .pu (.int x), s6, s7, s8, s9, s10, s11]
        = .nx [.pu S, .pu X, .pu (.lst (gl nu de n)), .ow [.lst (a'.map D.bl), .lst (b'.map D.bl)], .ow [.lst ((SSp n a').map (enP n nu de)), .lst ((SSp n b').map (enP n nu de))], .pu (.int x), t6, t7, t8, t9, t10, t11] := by
  obtain ⟨dr, hdr, ldr⟩ := m_mks (nu := nu) (de := de) (n := n) (by omega) (x := x / 64)
  have hw : x / 4 % 4 = 0 ∨ x / 4 % 4 = 1 ∨ x / 4 % 4 = 2 ∨ x / 4 % 4 = 3 := by omega
  have lenS : ∀ c : List Bool, ((SSp n c).map (enP n nu de)).length < sizeLine := fun c => szl (by
    rw [List.length_map]
    have : (SSp n c).length ≤ n := SSp_len
    omega)
  have isp : ∀ c : List Bool, m_is_spans [.lst ((SSp n c).map (enP n nu de))] = .ok (.bl true) := fun c => by
    have h := m_isp hg (s := SSp n c) SSp_v (by
      have : (SSp n c).length ≤ n := SSp_len
      omega)
    rw [SSp_asc] at h
    exact h
  have nes : ∀ c : List Bool, dNe (.lst ((SSp n c).map (enP n nu de))) (.lst ((SSp n c).map (enP n nu de))) = .ok (.bl false) := fun c => ne_self good_nl rfl
  have ne2 : ∀ c e : List Bool, dNe (.lst [.lst ((SSp n c).map (enP n nu de)), .lst ((SSp n e).map (enP n nu de))]) (.lst [.lst ((SSp n c).map (enP n nu de)), .lst ((SSp n e).map (enP n nu de))]) = .ok (.bl false) := fun c e => ne_self good_two rfl
  have fl : ∀ c : List Bool, D.flat.flats ((SSp n c).map (enP n nu de)) = true := fun c => flat_map _
  have key : ∀ (o : List Bool), o.length = n → ∀ (c : List Bool), c.length = n → ∃ e : List Bool, e.length = n ∧ m_law_done [.int (x / 4 % 4), .lst ((SSp n c).map (enP n nu de)), .lst ((SSp n o).map (enP n nu de))] = .okl ((SSp n e).map (enP n nu de)) ∧ m_law_marked [.int (x / 4 % 4), .lst (c.map D.bl), .lst (o.map D.bl)] = .okl (e.map D.bl) := fun o lo c lc => both hg h0 hn0 hn lc lo hw
  have sp : ∀ (o : List Bool), o.length = n → m_law_spans [.lst (gl nu de n), .lst (o.map D.bl)] = .okl ((SSp n o).map (enP n nu de)) := fun o lo => m_lsp hg (by omega) lo
  have nb : ∀ p : Bool, dNe (.bl p) (.bl p) = .ok (.bl false) := fun p => by cases p <;> rfl
  have fin : ∀ (o : List Bool), o.length = n → atD [.lst ((if x % 2 = 0 then b else a).map D.bl), .lst (dr.map D.bl)] (x / 2 % 2) = .ok (.lst (o.map D.bl)) → ∃ (a' b' : List Bool) (t6 t7 t8 t9 t10 t11 : Sl), a'.length = n ∧ b'.length = n ∧
      c_law_b1 [.pu S, .pu X, .pu (.lst (gl nu de n)), .ow [.lst (a.map D.bl), .lst (b.map D.bl)], .ow [.lst ((SSp n a).map (enP n nu de)), .lst ((SSp n b).map (enP n nu de))], .pu (.int x), s6, s7, s8, s9, s10, s11]
        = .nx [.pu S, .pu X, .pu (.lst (gl nu de n)), .ow [.lst (a'.map D.bl), .lst (b'.map D.bl)], .ow [.lst ((SSp n a').map (enP n nu de)), .lst ((SSp n b').map (enP n nu de))], .pu (.int x), t6, t7, t8, t9, t10, t11] := by
    intro o lo hat
    have so := sp o lo
    have z2 := lenS o
    by_cases c : x % 2 = 0
    · rw [if_pos c] at hat
      obtain ⟨e, le, hd, hm⟩ := key o lo a ha
      have se := sp e le
      have q1 := nes e
      have q2 := ne2 a o
      have q3 := isp e
      have q4 := fl e
      have z1 := lenS a
      have z3 := lenS e
      have y1 := eq_sets hg le hb
      have y2 := eq_mks (a := e) (b := b)
      have y3 := nb (decide (e = b))
      refine ⟨e, b, .pu (.int (x % 2)), .pu (.lst (dr.map D.bl)), .pu (.lst (o.map D.bl)), .oo [(SSp n a).map (enP n nu de) ++ [.non], []], .pu (.lst (e.map D.bl)), .ow ((SSp n e).map (enP n nu de) ++ [.non]), le, hb, ?_⟩
      generalize (SSp n a).map (enP n nu de) = A at *
      generalize (SSp n b).map (enP n nu de) = B at *
      generalize (SSp n o).map (enP n nu de) = OO at *
      generalize (SSp n e).map (enP n nu de) = EE at *
      generalize decide (e = b) = eb at *
      generalize a.map D.bl = a1 at *
      generalize b.map D.bl = b1 at *
      generalize o.map D.bl = o1 at *
      generalize e.map D.bl = e1 at *
      generalize dr.map D.bl = d1 at *
      generalize gl nu de n = G at *
      unfold c_law_b1
      simp_arith [hdr, c, hat, so, hd, hm, se, q1, q2, q3, q4, z1, z2, z3, y1, y2, y3, e_kNn, e_kN2, e_asgOO, e_oo0, e_oo1, e_koo2, e_appOO, e_kapO0, e_clrOO, e_kclO1, e_setIN, e_evAN, e_kAN, Int.sub_zero, Int.sub_self, e_kixoo, e_borOO2, e_setK0, e_setK1]
    · have c1 : x % 2 = 1 := by omega
      rw [if_neg c] at hat
      obtain ⟨e, le, hd, hm⟩ := key o lo b hb
      have se := sp e le
      have q1 := nes e
      have q2 := ne2 b o
      have q3 := isp e
      have q4 := fl e
      have z1 := lenS b
      have z3 := lenS e
      have y1 := eq_sets hg ha le
      have y2 := eq_mks (a := a) (b := e)
      have y3 := nb (decide (a = e))
      refine ⟨a, e, .pu (.int (x % 2)), .pu (.lst (dr.map D.bl)), .pu (.lst (o.map D.bl)), .oo [(SSp n b).map (enP n nu de) ++ [.non], []], .pu (.lst (e.map D.bl)), .ow ((SSp n e).map (enP n nu de) ++ [.non]), ha, le, ?_⟩
      generalize (SSp n a).map (enP n nu de) = A at *
      generalize (SSp n b).map (enP n nu de) = B at *
      generalize (SSp n o).map (enP n nu de) = OO at *
      generalize (SSp n e).map (enP n nu de) = EE at *
      generalize decide (a = e) = eb at *
      generalize a.map D.bl = a1 at *
      generalize b.map D.bl = b1 at *
      generalize o.map D.bl = o1 at *
      generalize e.map D.bl = e1 at *
      generalize dr.map D.bl = d1 at *
      generalize gl nu de n = G at *
      unfold c_law_b1
      simp_arith [hdr, c1, hat, so, hd, hm, se, q1, q2, q3, q4, z1, z2, z3, y1, y2, y3, e_kNn, e_kN2, e_asgOO, e_oo0, e_oo1, e_koo2, e_appOO, e_kapO0, e_clrOO, e_kclO1, e_setIN, e_evAN, e_kAN, Int.sub_zero, Int.sub_self, e_kixoo, e_borOO2, e_setK0, e_setK1]
  have hi : x / 2 % 2 = 0 ∨ x / 2 % 2 = 1 := by omega
  rcases hi with hi | hi
  · have lo : (if x % 2 = 0 then b else a).length = n := by
      by_cases c : x % 2 = 0
      · rw [if_pos c]; exact hb
      · rw [if_neg c]; exact ha
    refine fin (if x % 2 = 0 then b else a) lo ?_
    rw [hi]
    rfl
  · refine fin dr ldr ?_
    rw [hi]
    rfl
end
theorem law_true (ns : List Int) (hn : ns.length ≤ 63) : m_law [.kst (ns.map D.int)] = .ok (.bl true) := by
  obtain ⟨xs, hr, hs, hl⟩ := m_row (w := 24) hn (by decide)
  obtain ⟨n, nu, de, hn0, hn1, hg, hneg, h0, hgr⟩ := m_gd hs (by omega)
  obtain ⟨x20, g20, _⟩ := at_row hs (j := 20) (by omega)
  obtain ⟨x21, g21, _⟩ := at_row hs (j := 21) (by omega)
  simp only [Int.cast_ofNat_Int] at g20 g21
  obtain ⟨a, hma, la⟩ := m_mks (nu := nu) (de := de) (n := n) (by omega) (x := x20)
  obtain ⟨b, hmb, lb⟩ := m_mks (nu := nu) (de := de) (n := n) (by omega) (x := x21)
  have sp : ∀ (o : List Bool), o.length = n → m_law_spans [.lst (gl nu de n), .lst (o.map D.bl)] = .okl ((SSp n o).map (enP n nu de)) := fun o lo => m_lsp hg (by omega) lo
  have sa := sp a la
  have sb := sp b lb
  obtain ⟨δ', h1, a', b', t5, t6, t7, t8, t9, t10, t11, la', lb', h2⟩ : ∃ δ', forGo (tName 5) c_law_b1 (xs.map D.int) [.pu (.kst (ns.map D.int)), .pu (.lst (xs.map D.int)), .pu (.lst (gl nu de n)), .ow [.lst (a.map D.bl), .lst (b.map D.bl)], .ow [.lst ((SSp n a).map (enP n nu de)), .lst ((SSp n b).map (enP n nu de))], .un, .un, .un, .un, .un, .un, .un] = .nx δ' ∧
      ∃ (a' b' : List Bool) (t5 t6 t7 t8 t9 t10 t11 : Sl), a'.length = n ∧ b'.length = n ∧ δ' = [.pu (.kst (ns.map D.int)), .pu (.lst (xs.map D.int)), .pu (.lst (gl nu de n)), .ow [.lst (a'.map D.bl), .lst (b'.map D.bl)], .ow [.lst ((SSp n a').map (enP n nu de)), .lst ((SSp n b').map (enP n nu de))], t5, t6, t7, t8, t9, t10, t11] := by
    refine go_inv0 (fun _ δ => ∃ (a' b' : List Bool) (t5 t6 t7 t8 t9 t10 t11 : Sl), a'.length = n ∧ b'.length = n ∧ δ = [.pu (.kst (ns.map D.int)), .pu (.lst (xs.map D.int)), .pu (.lst (gl nu de n)), .ow [.lst (a'.map D.bl), .lst (b'.map D.bl)], .ow [.lst ((SSp n a').map (enP n nu de)), .lst ((SSp n b').map (enP n nu de))], t5, t6, t7, t8, t9, t10, t11]) ⟨a, b, _, _, _, _, _, _, _, la, lb, rfl⟩ ?_
    rintro k d δ hd ⟨a', b', t5, t6, t7, t8, t9, t10, t11, la', lb', rfl⟩
    rw [List.getElem?_map] at hd
    obtain ⟨x, _, rfl⟩ := Option.map_eq_some_iff.mp hd
    obtain ⟨a2, b2, u6, u7, u8, u9, u10, u11, l1, l2, e⟩ := x5_step hg h0 (by omega) hn1 la' lb' x (.kst (ns.map D.int)) (.lst (xs.map D.int)) t6 t7 t8 t9 t10 t11
    exact ⟨_, rfl, _, Or.inl e, a2, b2, _, _, _, _, _, _, _, l1, l2, rfl⟩
  subst h2
  have sa' := sp a' la'
  have sb' := sp b' lb'
  have q : dEq (.lst [.lst ((SSp n a').map (enP n nu de)), .lst ((SSp n b').map (enP n nu de))]) (.lst [.lst ((SSp n a').map (enP n nu de)), .lst ((SSp n b').map (enP n nu de))]) = .ok (.bl true) := eq_self good_two rfl
  have hr' : m_law_row [.kst (ns.map D.int), .int 24] = .okl (xs.map D.int) := hr
  unfold m_law c_law
  generalize (SSp n a).map (enP n nu de) = A at *
  generalize (SSp n b).map (enP n nu de) = B at *
  generalize (SSp n a').map (enP n nu de) = A' at *
  generalize (SSp n b').map (enP n nu de) = B' at *
  generalize a.map D.bl = a1 at *
  generalize b.map D.bl = b1 at *
  generalize a'.map D.bl = a2 at *
  generalize b'.map D.bl = b2 at *
  generalize gl nu de n = G at *
  generalize ns.map D.int = S at *
  generalize xs.map D.int = X at *
  simp_arith [hr', hgr, g20, g21, hma, hmb, sa, sb, h1, sa', sb', q]
end Law
open PySem PySem.W PySem.Calls PyProof.Rows
set_option maxRecDepth 100000 in
set_option maxHeartbeats 0 in
theorem PySem.Challenge.cw_widthwise_k05_whole_sets_put_together_holds : PySem.Challenge.rw_widthwise_k05_whole_sets_put_together.Holds := by
  w_on; o_law
  refine HandSHeadRun.head_any (r := OpenLaw.row PySem.Challenge.rw_widthwise_k05_whole_sets_put_together) (q := view (OpenLaw.row PySem.Challenge.rw_widthwise_k05_whole_sets_put_together).prog [32]) (H := Law.hk) (ob := Law.ob) (M := 4000) (loose := Law.loose) (d := HandSHeadRun.topDef (OpenLaw.row PySem.Challenge.rw_widthwise_k05_whole_sets_put_together).prog 32) (kwd := []) Law.ob_eq
    (by kernel_rfl) (fun s => by kernel_rfl) Law.run_ok (by kernel_rfl) (by kernel_rfl) (by kernel_rfl) (by rfl) (by first | assumption | decide +kernel) (by decide +kernel) ⟨rfl, rfl, rfl, rfl, rfl, by decide +kernel⟩ ?hw ?hc
  case hw => w_witness2
  case hc =>
    refine Dw.walkG (l := PySem.Challenge.rw_widthwise_k05_whole_sets_put_together) (k := 9) (x := "_law_script") rfl (by kernel_rfl) ⟨rfl, by decide, by decide⟩ ?F
    intro w mg fa h Y G hmg0
    obtain ⟨K, KX, c, x⟩ := Y
    have hmg : mg ("law" : PySem.Str) = some (.ref fa) := by
      have e : (HandSHeadRun.topDef (OpenLaw.row PySem.Challenge.rw_widthwise_k05_whole_sets_put_together).prog 32).name = ("law" : PySem.Str) := by kernel_rfl
      rw [← e]
      exact hmg0
    obtain ⟨fd, hb, hF⟩ := Law.facts (P := (PySem.Challenge.rw_widthwise_k05_whole_sets_put_together).prog) (w := w) Law.law_true KX G hmg c x
    exact ⟨K, fd, KX, hb, hF⟩
